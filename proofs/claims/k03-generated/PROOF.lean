import PyProof.Rows.All
import KE.KeyNested
import HandS.SortRule
import HandS.ForMost
import HandS.ForExc
import HandS.TupAny
import HandS.IsInst
import HandS.Wide
import HandS.Flow
import HandS.Style
import HandS.Deep
import HandS.Defaults
import HandS.Zip
import HandS.Lambda
import HandS.CallSlots
import KE.KDictKeyed
import KE.KDictList
import HandS.TupLen
import HandS.SortKw
import HandS.TupLe
import HandS.SortInts
import KE.KSortKey
import KE.KSortTup
import KE.KDictDisplayH
import HandS.Dict
import HandS.Exc
import HandS.ExcIs
import HandS.ExcOwn
import PyProof.ExcBaseAll.ValueError
import HandS.HeadHook1
import HandS.HeadHook2
import HandS.HeadHook4
import HandS.Head0
import HandS.Head1
import HandS.Head2
import HandS.HeadEnd
import HandS.HeadWalk
import HandS.EndTab
import HandS.Words
import PySem.Challenge.RW_seventeenways_k03_generated
set_option Elab.async false
set_option linter.all false
set_option maxRecDepth 100000
set_option maxHeartbeats 0
set_option exponentiation.threshold 5000
/-! DlD: plain data. -/
namespace Dl
open PySem

/-- plain data -/
inductive D where
  | non | bl (b : Bool) | int (i : Int) | str (x : Str)
  | tup (ds : List D) | lst (ds : List D)
  | dict (ks vs : List D)
  | obj (c : Str) (ns : List Str) (vs : List D)
  deriving Inhabited

mutual
def D.toP : D → PyData
  | .non => .none
  | .bl b => .bool b
  | .int i => .int i
  | .str x => .str x
  | .tup ds => .tuple (D.toPs ds)
  | .lst ds => .list (D.toPs ds)
  | .dict _ _ => .dict []
  | .obj _ _ _ => .dict []
def D.toPs : List D → List PyData
  | [] => []
  | d :: ds => D.toP d :: D.toPs ds
end

-- no dict, no object within, at most k deep, texts of the model's length
mutual
def D.plain : Nat → D → Bool
  | _, .non => true
  | _, .bl _ => true
  | _, .int _ => true
  | _, .str x => PyData.strOk x
  | 0, .tup _ => false
  | k + 1, .tup ds => D.plains k ds
  | 0, .lst _ => false
  | k + 1, .lst ds => D.plains k ds
  | _, .dict _ _ => false
  | _, .obj _ _ _ => false
def D.plains : Nat → List D → Bool
  | _, [] => true
  | k, d :: ds => D.plain k d && D.plains k ds
end

/-- == of data -/
def eqb (a b : D) : Bool := PyData.eqv a.toP b.toP

def D.isNon : D → Bool
  | .non => true
  | _ => false
/-- a container by itself -/
def D.cont : D → Bool
  | .lst _ => true
  | .dict _ _ => true
  | .obj _ _ _ => true
  | _ => false
-- nothing within that may be changed
mutual
def D.imm : D → Bool
  | .tup ds => D.imms ds
  | .lst _ => false
  | .dict _ _ => false
  | .obj _ _ _ => false
  | _ => true
def D.imms : List D → Bool
  | [] => true
  | d :: ds => D.imm d && D.imms ds
end
/-- a container of things that never change, or such a thing -/
def D.flat : D → Bool
  | .lst ds => D.imms ds
  | .dict ks vs => D.imms ks && D.imms vs
  | d => d.imm

/-! ### keys of dicts: ints and tuples of such -/
mutual
def toN : D → NestedKey
  | .int i => .num i
  | .tup ds => .tup (toNs ds)
  | _ => .none
def toNs : List D → List NestedKey
  | [] => []
  | d :: ds => toN d :: toNs ds
end
mutual
def keyB : Nat → D → Bool
  | _, .int _ => true
  | 0, .tup _ => false
  | n + 1, .tup ds => keysB n ds
  | _, _ => false
def keysB : Nat → List D → Bool
  | _, [] => true
  | n, d :: ds => keyB n d && keysB n ds
end
/-- a key: a tuple of ints and tuples, at most eight deep -/
def isKey : D → Bool
  | .tup ds => keysB 7 ds
  | _ => false
def dHas (ks : List D) (k : D) : Bool := ks.any fun k' => decide (toN k' = toN k)
def dGet : List D → List D → D → Option D
  | k' :: ks, v :: vs, k => if toN k' = toN k then some v else dGet ks vs k
  | _, _, _ => none
def dSet : List D → List D → D → D → List D
  | k' :: ks, v' :: vs, k, v => (if toN k' = toN k then v else v') :: dSet ks vs k v
  | _, vs, _, _ => vs
def dPut (ks vs : List D) (k v : D) : D := if dHas ks k = true then .dict ks (dSet ks vs k v) else .dict (ks ++ [k]) (vs ++ [v])
end Dl

/-! DlSrt: an order of data (ints, tuples of them), sorting by it. -/
namespace Dl
open PySem
def rkD : D → Int
  | .int _ => 1
  | .tup _ => 2
  | _ => 0
mutual
def cmpT : D → D → Ordering
  | .int i, e => (match e with
    | .int j => compare i j
    | e => compare 1 (rkD e))
  | .tup xs, e => (match e with
    | .tup ys => cmpTs xs ys
    | e => compare 2 (rkD e))
  | .non, e => compare 0 (rkD e)
  | .bl _, e => compare 0 (rkD e)
  | .str _, e => compare 0 (rkD e)
  | .lst _, e => compare 0 (rkD e)
  | .dict _ _, e => compare 0 (rkD e)
  | .obj _ _ _, e => compare 0 (rkD e)
def cmpTs : List D → List D → Ordering
  | [], ys => (match ys with
    | [] => .eq
    | _ :: _ => .lt)
  | x :: xs, ys => (match ys with
    | [] => .gt
    | y :: ys => (cmpT x y).then (cmpTs xs ys))
end
theorem cI_swap (a b : Int) : compare b a = (compare a b).swap := (Int.compare_swap a b).symm
theorem cI_eq {a b : Int} : compare a b = .eq ↔ a = b := Int.compare_eq_eq
theorem cI_lt {a b : Int} : compare a b = .lt ↔ a < b := Int.compare_eq_lt
mutual
theorem cmpT_swap : ∀ (x y : D), cmpT y x = (cmpT x y).swap
  | .int i, y => by cases y <;> simp only [cmpT, rkD] <;> exact cI_swap _ _
  | .tup xs, y => by
    cases y with
    | tup ys => simp only [cmpT]; exact cmpTs_swap xs ys
    | _ => simp only [cmpT, rkD] <;> exact cI_swap _ _
  | .non, y => by cases y <;> simp only [cmpT, rkD] <;> exact cI_swap _ _
  | .bl _, y => by cases y <;> simp only [cmpT, rkD] <;> exact cI_swap _ _
  | .str _, y => by cases y <;> simp only [cmpT, rkD] <;> exact cI_swap _ _
  | .lst _, y => by cases y <;> simp only [cmpT, rkD] <;> exact cI_swap _ _
  | .dict _ _, y => by cases y <;> simp only [cmpT, rkD] <;> exact cI_swap _ _
  | .obj _ _ _, y => by cases y <;> simp only [cmpT, rkD] <;> exact cI_swap _ _
theorem cmpTs_swap : ∀ (xs ys : List D), cmpTs ys xs = (cmpTs xs ys).swap
  | [], ys => by cases ys <;> simp only [cmpTs] <;> rfl
  | x :: xs, ys => by
    cases ys with
    | nil => simp only [cmpTs] <;> rfl
    | cons y ys => simp only [cmpTs]; rw [cmpT_swap x y, cmpTs_swap xs ys, Ordering.swap_then]
end
theorem cI_congr {a b c : Int} (h : compare a b = .eq) : compare a c = compare b c := by rw [cI_eq.mp h]
theorem cI_trans {a b c : Int} (h : compare a b = .lt) (g : compare b c = .lt) : compare a c = .lt := by
  rw [cI_lt] at *; omega
theorem then_eq {a b : Ordering} (h : a.then b = .eq) : a = .eq ∧ b = .eq := by cases a <;> first | exact ⟨rfl, h⟩ | cases h
theorem then_lt {a b : Ordering} (h : a.then b = .lt) : a = .lt ∨ (a = .eq ∧ b = .lt) := by cases a <;> first | exact .inl rfl | exact .inr ⟨rfl, h⟩ | cases h
mutual
theorem cmpT_congr : ∀ (x y z : D), cmpT x y = .eq → cmpT x z = cmpT y z
  | .int i, y, z => by
    intro h
    cases y <;> simp only [cmpT, rkD] at h <;> first | (exact absurd h (by decide)) | skip
    cases z <;> simp only [cmpT] <;> rw [cI_eq.mp h]
  | .tup xs, y, z => by
    intro h
    cases y with
    | tup ys =>
      simp only [cmpT] at h
      cases z with
      | tup zs => simp only [cmpT]; exact cmpTs_congr xs ys zs h
      | _ => simp only [cmpT]
    | _ => simp only [cmpT, rkD] at h; exact absurd h (by decide)
  | .non, y, z => by intro h; cases y <;> simp only [cmpT, rkD] at h ⊢ <;> exact absurd h (by decide)
  | .bl _, y, z => by intro h; cases y <;> simp only [cmpT, rkD] at h ⊢ <;> exact absurd h (by decide)
  | .str _, y, z => by intro h; cases y <;> simp only [cmpT, rkD] at h ⊢ <;> exact absurd h (by decide)
  | .lst _, y, z => by intro h; cases y <;> simp only [cmpT, rkD] at h ⊢ <;> exact absurd h (by decide)
  | .dict _ _, y, z => by intro h; cases y <;> simp only [cmpT, rkD] at h ⊢ <;> exact absurd h (by decide)
  | .obj _ _ _, y, z => by intro h; cases y <;> simp only [cmpT, rkD] at h ⊢ <;> exact absurd h (by decide)
theorem cmpTs_congr : ∀ (xs ys zs : List D), cmpTs xs ys = .eq → cmpTs xs zs = cmpTs ys zs
  | [], ys, zs => by intro h; cases ys <;> simp only [cmpTs] at h <;> first | rfl | cases h
  | x :: xs, ys, zs => by
    intro h
    cases ys with
    | nil => simp only [cmpTs] at h; cases h
    | cons y ys =>
      simp only [cmpTs] at h
      obtain ⟨h1, h2⟩ := then_eq h
      cases zs with
      | nil => simp only [cmpTs]
      | cons z zs => simp only [cmpTs]; rw [cmpT_congr x y z h1, cmpTs_congr xs ys zs h2]
end
theorem cmpT_congr' {x y z : D} (h : cmpT y z = .eq) : cmpT x y = cmpT x z := by
  rw [cmpT_swap y x, cmpT_swap z x, cmpT_congr y z x h]
theorem cmpTs_congr' {x y z : List D} (h : cmpTs y z = .eq) : cmpTs x y = cmpTs x z := by
  rw [cmpTs_swap y x, cmpTs_swap z x, cmpTs_congr y z x h]
mutual
theorem cmpT_trans : ∀ (x y z : D), cmpT x y = .lt → cmpT y z = .lt → cmpT x z = .lt
  | .int i, y, z => by
    intro h g
    cases y <;> simp only [cmpT, rkD] at h <;> first | (exact absurd h (by decide)) | skip
    · cases z <;> simp only [cmpT] at g ⊢ <;> first | exact cI_trans h g | exact g
    · cases z <;> simp only [cmpT, rkD] at g ⊢ <;> first | (exact absurd g (by decide)) | rfl
  | .tup xs, y, z => by
    intro h g
    cases y with
    | tup ys =>
      simp only [cmpT] at h
      cases z with
      | tup zs => simp only [cmpT] at g ⊢; exact cmpTs_trans xs ys zs h g
      | _ => simp only [cmpT, rkD] at g ⊢ <;> exact g
    | _ => simp only [cmpT, rkD] at h; exact absurd h (by decide)
  | .non, y, z => by intro h g; cases y <;> simp only [cmpT, rkD] at h g ⊢ <;> first | (exact absurd h (by decide)) | (cases z <;> simp only [rkD] at g ⊢ <;> first | rfl | exact absurd g (by decide))
  | .bl _, y, z => by intro h g; cases y <;> simp only [cmpT, rkD] at h g ⊢ <;> first | (exact absurd h (by decide)) | (cases z <;> simp only [rkD] at g ⊢ <;> first | rfl | exact absurd g (by decide))
  | .str _, y, z => by intro h g; cases y <;> simp only [cmpT, rkD] at h g ⊢ <;> first | (exact absurd h (by decide)) | (cases z <;> simp only [rkD] at g ⊢ <;> first | rfl | exact absurd g (by decide))
  | .lst _, y, z => by intro h g; cases y <;> simp only [cmpT, rkD] at h g ⊢ <;> first | (exact absurd h (by decide)) | (cases z <;> simp only [rkD] at g ⊢ <;> first | rfl | exact absurd g (by decide))
  | .dict _ _, y, z => by intro h g; cases y <;> simp only [cmpT, rkD] at h g ⊢ <;> first | (exact absurd h (by decide)) | (cases z <;> simp only [rkD] at g ⊢ <;> first | rfl | exact absurd g (by decide))
  | .obj _ _ _, y, z => by intro h g; cases y <;> simp only [cmpT, rkD] at h g ⊢ <;> first | (exact absurd h (by decide)) | (cases z <;> simp only [rkD] at g ⊢ <;> first | rfl | exact absurd g (by decide))
theorem cmpTs_trans : ∀ (xs ys zs : List D), cmpTs xs ys = .lt → cmpTs ys zs = .lt → cmpTs xs zs = .lt
  | [], ys, zs => by
    intro h g
    cases zs with
    | nil => cases ys <;> simp only [cmpTs] at g <;> cases g
    | cons z zs => rfl
  | x :: xs, ys, zs => by
    intro h g
    cases ys with
    | nil => simp only [cmpTs] at h; cases h
    | cons y ys =>
      cases zs with
      | nil => simp only [cmpTs] at g; cases g
      | cons z zs =>
        simp only [cmpTs] at h g ⊢
        rcases then_lt h with h | ⟨h1, h2⟩ <;> rcases then_lt g with g | ⟨g1, g2⟩
        · rw [cmpT_trans x y z h g]; rfl
        · rw [← cmpT_congr' (x := x) g1, h]; rfl
        · rw [cmpT_congr x y z h1, g]; rfl
        · rw [cmpT_congr x y z h1, g1, cmpTs_trans xs ys zs h2 g2]; rfl
end
def ltT (x y : D) : Bool := cmpT x y == .lt
theorem ltT_iff {x y : D} : ltT x y = true ↔ cmpT x y = .lt := by unfold ltT; simp
theorem ltT_no {x y : D} : ltT x y = false ↔ cmpT x y ≠ .lt := by unfold ltT; simp
theorem swo_ltT : SrtO.Swo ltT := by
  refine ⟨fun x y h => ?_, fun x y z h1 h2 => ?_⟩
  · rw [ltT_iff] at h
    rw [ltT_no, cmpT_swap x y, h]
    decide
  · rw [ltT_no] at *
    intro g
    -- z < x, not y < x, not z < y
    cases e1 : cmpT y x with
    | lt => exact h1 e1
    | eq => rw [cmpT_congr' e1] at h2; exact h2 g
    | gt =>
      have e2 : cmpT x y = .lt := by rw [cmpT_swap y x, e1]; rfl
      exact h2 (cmpT_trans _ _ _ g e2)
theorem swo_key {α : Type} (k : α → D) : SrtO.Swo fun x y => ltT (k x) (k y) := ⟨fun x y h => swo_ltT.asym _ _ h, fun x y z a b => swo_ltT.tr _ _ _ a b⟩
/-! ### sorting -/
section
variable {α : Type}
def insB (lt : α → α → Bool) (x : α) : List α → List α
  | [] => [x]
  | y :: ys => if lt y x = true then y :: insB lt x ys else x :: y :: ys
def srtB (lt : α → α → Bool) (xs : List α) : List α := xs.foldr (insB lt) []
variable {lt : α → α → Bool}
theorem ins_perm (x : α) : ∀ ys, (insB lt x ys).Perm (x :: ys)
  | [] => List.Perm.refl _
  | y :: ys => by
    unfold insB
    split
    · exact ((ins_perm x ys).cons y).trans (List.Perm.swap x y ys)
    · exact List.Perm.refl _
theorem ins_srtd (O : SrtO.Swo lt) (x : α) : ∀ {ys}, SrtO.Srtd lt ys → SrtO.Srtd lt (insB lt x ys)
  | [], _ => List.pairwise_singleton _ _
  | y :: ys, h => by
    obtain ⟨h1, h2⟩ := List.pairwise_cons.mp h
    unfold insB
    split
    · rename_i g
      refine List.pairwise_cons.mpr ⟨fun z hz => ?_, ins_srtd O x h2⟩
      rcases List.mem_cons.mp ((ins_perm x ys).mem_iff.mp hz) with rfl | hz
      · exact O.asym _ _ g
      · exact h1 z hz
    · rename_i g
      have g' : lt y x = false := by simpa using g
      refine List.pairwise_cons.mpr ⟨fun z hz => ?_, h⟩
      rcases List.mem_cons.mp hz with rfl | hz
      · exact g'
      · exact O.tr _ _ _ g' (h1 z hz)
theorem ins_stb (O : SrtO.Swo lt) (x z : α) : ∀ ys, (insB lt x ys).filter (SrtO.eqv lt z) = (x :: ys).filter (SrtO.eqv lt z)
  | [] => rfl
  | y :: ys => by
    unfold insB
    split
    · rename_i g
      rw [List.filter_cons, ins_stb O x z ys]
      by_cases hx : SrtO.eqv lt z x = true
      · have hy : SrtO.eqv lt z y = false := by
          cases q : SrtO.eqv lt z y with
          | false => rfl
          | true =>
            obtain ⟨a1, a2⟩ := SrtO.eqv_iff.mp hx
            obtain ⟨b1, b2⟩ := SrtO.eqv_iff.mp q
            have := O.tr x z y a1 b2
            rw [g] at this
            cases this
        rw [hy]
        simp [hx, hy]
      · have hx' : SrtO.eqv lt z x = false := by simpa using hx
        simp [hx', List.filter_cons]
    · rfl
theorem srt_perm (xs : List α) : (srtB lt xs).Perm xs := by
  induction xs with
  | nil => exact List.Perm.refl _
  | cons x xs ih => exact (ins_perm x _).trans (ih.cons x)
theorem srt_srtd (O : SrtO.Swo lt) (xs : List α) : SrtO.Srtd lt (srtB lt xs) := by
  induction xs with
  | nil => exact List.Pairwise.nil
  | cons x xs ih => exact ins_srtd O x ih
theorem srt_stb (O : SrtO.Swo lt) (xs : List α) : SrtO.Stb lt (srtB lt xs) xs := by
  refine ⟨srt_perm xs, fun z => ?_⟩
  induction xs with
  | nil => rfl
  | cons x xs ih =>
    show (insB lt x (srtB lt xs)).filter _ = _
    rw [ins_stb O, List.filter_cons, List.filter_cons, ih]
theorem Stb.symm' {l m : List α} (h : SrtO.Stb lt l m) : SrtO.Stb lt m l := ⟨h.perm.symm, fun x => (h.cls x).symm⟩
/-- the one sorted stable rearrangement -/
theorem srt_uniq (O : SrtO.Swo lt) {l xs : List α} (h1 : SrtO.Srtd lt l) (h2 : SrtO.Stb lt l xs) : l = srtB lt xs :=
  SrtO.stb_uniq O h1 (srt_srtd O xs) (h2.trans (Stb.symm' (srt_stb O xs)))
/-- where no two different ones are alike, the turn does not matter -/
theorem srt_perm_eq (O : SrtO.Swo lt) {xs ys : List α} (h : xs.Perm ys) (hd : ∀ x ∈ xs, ∀ y ∈ xs, SrtO.eqv lt x y = true → x = y) : srtB lt xs = srtB lt ys := by
  have sw : ∀ {l : List α}, l.Perm xs → SrtO.Srtd lt l → ∀ {m : List α}, m.Perm xs → SrtO.Srtd lt m → l = m := by
    intro l hl sl m hm sm
    have hlm : l.Perm m := hl.trans hm.symm
    clear hm
    induction l generalizing m xs ys with
    | nil => exact (List.Perm.eq_nil hlm.symm).symm
    | cons a l ih =>
      cases m with
      | nil => exact absurd hlm.length_eq (by simp)
      | cons b m =>
        have ha : a ∈ b :: m := hlm.mem_iff.mp List.mem_cons_self
        have hb : b ∈ a :: l := hlm.mem_iff.mpr List.mem_cons_self
        have e : a = b := by
          rcases List.mem_cons.mp ha with e | ha
          · exact e
          · rcases List.mem_cons.mp hb with e | hb
            · exact e.symm
            · refine hd a (hl.mem_iff.mp List.mem_cons_self) b (hl.mem_iff.mp (List.mem_cons_of_mem _ hb)) ?_
              have q1 := (List.pairwise_cons.mp sm).1 a ha
              have q2 := (List.pairwise_cons.mp sl).1 b hb
              exact SrtO.eqv_iff.mpr ⟨q1, q2⟩
        subst e
        congr 1
        refine ih (xs := l) (ys := l) (List.Perm.refl _) ?_ (List.Perm.refl _) (List.pairwise_cons.mp sl).2 (List.pairwise_cons.mp sm).2 hlm.cons_inv
        intro x hx y hy
        exact hd x (hl.mem_iff.mp (List.mem_cons_of_mem _ hx)) y (hl.mem_iff.mp (List.mem_cons_of_mem _ hy))
  exact sw (srt_perm xs) (srt_srtd O xs) ((srt_perm ys).trans h.symm) (srt_srtd O ys)
end
abbrev sortD (xs : List D) : List D := srtB ltT xs
/-! ### what may be sorted -/
mutual
/-- their comparison meets ints beside ints, tuples beside tuples -/
def cmpOk : D → D → Bool
  | .int _, e => (match e with | .int _ => true | _ => false)
  | .tup xs, e => (match e with | .tup ys => cmpOks xs ys | _ => false)
  | _, _ => false
def cmpOks : List D → List D → Bool
  | [], _ => true
  | x :: xs, ys => (match ys with
    | [] => true
    | y :: ys => cmpOk x y && cmpOks xs ys)
end
/-- a tuple with an item -/
def ne1 : D → Bool
  | .tup (_ :: _) => true
  | _ => false
/-- tuples that compare -/
structure TupsOk (n : Nat) (ds : List D) : Prop where
  ok : ∀ d ∈ ds, ∀ e ∈ ds, cmpOk d e = true
  ne : ∀ d ∈ ds, ne1 d = true
  pl : ∀ d ∈ ds, D.plain n d = true
end Dl

/-! DlPure: data D, a core language (CE, CS), its weakest preconditions over plain data (wpE, wpS): no heap in sight. -/
namespace Dl
open PySem

/-- an exception: its class, its fields -/
structure Xn where
  c : Str
  fs : List (Str × D)

/-- what a call asks: arguments, the wanted result, the wanted exception -/
structure Spec where
  run : List D → (D → Prop) → (Xn → Prop) → Prop
  mono : ∀ ds Q Q' E E', run ds Q E → (∀ d, Q d → Q' d) → (∀ x, E x → E' x) → run ds Q' E'

abbrev DEnv := List (Option D)

inductive BO where | add | sub | mul | fdiv | mod | pow
  deriving DecidableEq
inductive CO where | lt | le | gt | ge | eq | ne
  deriving DecidableEq
/-- built-ins -/
inductive BF where | len | abs | int_ | list_ | tuple_ | any_ | all_ | sum_ | max2 | min2 | bool_ | sorted_ | maxl
  deriving DecidableEq
inductive TY where | tup | lst | int | bl | str | cls (c : Str)
  deriving DecidableEq
/-- a target -/
inductive CT where
  | nm (i : Nat) | tp (ts : List CT)

inductive CE where
  | var (i : Nat)
  | int (i : Int) | bl (b : Bool) | non | str (x : Str)
  | glob (x : Str) (d : D)
  | bin (o : BO) (a b : CE)
  | cat (a b : CE)
  | neg (a : CE) | not (a : CE)
  | cmp (o : CO) (a b : CE)
  | chain (o o' : CO) (a b c : CE)
  | isN (ng : Bool) (a : CE)
  | mem (ng : Bool) (a b : CE)
  | and (es : List CE) | or (es : List CE)
  | ife (c a b : CE)
  | tup (es : List CE) | lst (es : List CE)
  | ix (a i : CE)
  | sl (a lo hi : CE)
  | nop
  | call (f : Str) (sp : Spec) (es : List CE)
  | blt (f : BF) (es : List CE)
  | isi (a : CE) (t : TY)
  | lc (t : CT) (it : CE) (ifs : List CE) (elt : CE)
  | lc2 (t : CT) (it : CE) (t2 : CT) (it2 : CE) (ifs : List CE) (elt : CE)
  | rng (es : List CE)
  | enm (a : CE) | zip (a b : CE)
  | dct0
  | dct1 (k v : CE)
  | sortk (i : Nat) (it key : CE)

/-- a test of the exception that an except suite holds -/
inductive XT where
  | isx (C : Str) | not (t : XT) | and (ts : List XT) | or (ts : List XT)
/-- the own classes' order: all stand under PatternError, a ValueError -/
def subC (c C : Str) : Bool := c == C || C == ("PatternError" : Str) || C == ("ValueError" : Str) || C == ("Exception" : Str)
mutual
def XT.val (c : Str) : XT → Bool
  | .isx C => subC c C
  | .not t => !t.val c
  | .and ts => XT.allv c ts
  | .or ts => XT.anyv c ts
def XT.allv (c : Str) : List XT → Bool
  | [] => true
  | t :: ts => t.val c && XT.allv c ts
def XT.anyv (c : Str) : List XT → Bool
  | [] => false
  | t :: ts => t.val c || XT.anyv c ts
end
/-- what an except suite returns: an expression without names; (a, [x, y][int(t)]) -/
inductive XE where
  | ce (e : CE)
  | sel (a : CE) (xs : List CE) (t : XT)
/-- with the tests' answers -/
def XE.at (c : Str) : XE → CE
  | .ce e => e
  | .sel a xs t => .tup [a, .ix (.lst xs) (.int (if t.val c = true then 1 else 0))]
/-- if t: return r, .., return e -/
def hdl (c : Str) : List (XT × XE) → XE → CE
  | [], e => e.at c
  | (t, r) :: hs, e => if t.val c = true then r.at c else hdl c hs e
/-- a clause: its class, its name's slot, its suite -/
structure Hd where
  c : Str
  i : Option Nat
  hs : List (XT × XE)
  last : XE
-- rd: the owned names that e reads; ls: these are owned no more behind it
inductive CS where
  | asg (i : Nat) (e : CE) (rd : List Nat) (ls : Bool)
  | asgT (t : CT) (e : CE) (rd : List Nat) (ls : Bool)
  | par (i j : Nat) (a b : CE)
  | app (i : Nat) (e : CE) (rd : List Nat) (ls : Bool)
  | clr (i : Nat)
  | ext (i j : Nat)
  | pop (j i : Nat)
  | put (i : Nat) (k e : CE)
  | asgP (i j : Nat) (f : Str) (sp : Spec) (es : List CE) (rd : List Nat) (ls : Bool)
  | drop (e : CE)
  | ret (e : CE) (fr : Bool)
  | retN
  | ifs (c : CE) (a b : List CS)
  | for_ (t : CT) (it : CE) (rd : List Nat) (body : List CS)
  | whl (c : CE) (body : List CS)
  | brk | cnt | pass
  | rse (c : Str)
  | tryx (body : List CS) (all : List Str) (cls : List Hd)

/-! ### values -/
def MulOk (i j : Int) : Prop := i.natAbs.log2 + j.natAbs.log2 < 1000000
def DivOk (j : Int) : Prop := j ≠ 0 ∧ j.natAbs.log2 < 9000
def PowOk (i j : Int) : Prop := 0 ≤ j ∧ j ≤ 1000000 ∧ i.natAbs < 2 ^ 64
def szl : Nat := 16777216

def binD (o : BO) (a b : D) (Q : D → Prop) : Prop := match o, a, b with
  | .add, .int i, .int j => Q (.int (i + j))
  | .add, .tup xs, .tup ys => xs.length + ys.length ≤ szl ∧ Q (.tup (xs ++ ys))
  | .add, .lst xs, .lst ys => xs.length + ys.length ≤ szl ∧ Q (.lst (xs ++ ys))
  | .sub, .int i, .int j => Q (.int (i - j))
  | .mul, .int i, .int j => MulOk i j ∧ Q (.int (i * j))
  | .fdiv, .int i, .int j => DivOk j ∧ Q (.int (i.fdiv j))
  | .mod, .int i, .int j => j ≠ 0 ∧ Q (.int (i.fmod j))
  | .pow, .int i, .int j => PowOk i j ∧ Q (.int (i ^ j.toNat))
  | _, _, _ => False
/-- list + list -/
def catD (a b : D) (Q : D → Prop) : Prop := match a, b with
  | .lst xs, .lst ys => xs.length + ys.length ≤ szl ∧ Q (.lst (xs ++ ys))
  | _, _ => False
def cmpD (o : CO) (a b : D) (Q : D → Prop) : Prop := match o with
  | .eq => a.plain 64 = true ∧ b.plain 64 = true ∧ Q (.bl (eqb a b))
  | .ne => a.plain 64 = true ∧ b.plain 64 = true ∧ Q (.bl (!eqb a b))
  | .lt => match a, b with | .int i, .int j => Q (.bl (decide (i < j))) | _, _ => False
  | .le => match a, b with | .int i, .int j => Q (.bl (decide (i ≤ j))) | _, _ => False
  | .gt => match a, b with | .int i, .int j => Q (.bl (decide (j < i))) | _, _ => False
  | .ge => match a, b with | .int i, .int j => Q (.bl (decide (j ≤ i))) | _, _ => False
/-- truth -/
def truD : D → Option Bool
  | .non => some false
  | .bl b => some b
  | .int i => some (i != 0)
  | .tup ds => some (!ds.isEmpty)
  | .lst ds => some (!ds.isEmpty)
  | _ => none
/-- the scalars that may stand beside in -/
def flatD : D → Bool
  | .non => true | .bl _ => true | .int _ => true | .str _ => true
  | _ => false
def items : D → Option (List D)
  | .tup ds => some ds
  | .lst ds => some ds
  | _ => none
/-- x in y -/
def memD (x y : D) (Q : Bool → Prop) : Prop := match y with
  | .tup ds => flatD x = true ∧ ds.all flatD = true ∧ Q (ds.any fun z => eqb z x)
  | .lst ds => x.plain 64 = true ∧ D.plain 64 (.lst ds) = true ∧ Q (ds.any fun z => eqb z x)
  | .dict ks _ => isKey x = true ∧ Q (dHas ks x)
  | _ => False
def atD {α : Type} (xs : List α) (i : Int) : Option α :=
  (if 0 ≤ i then (if i < xs.length then some i.toNat else none) else if -(xs.length : Int) ≤ i then some (i + xs.length).toNat else none).bind fun j => xs[j]?
/-- an index as it counts from the front -/
def ixI {α : Type} (xs : List α) (i : Int) : Option Nat := if 0 ≤ i then (if i < xs.length then some i.toNat else none) else if -(xs.length : Int) ≤ i then some (i + xs.length).toNat else none
def ixD (a i : D) (Q : D → Prop) : Prop := match a, i with
  | .tup ds, .int k => ∃ d, atD ds k = some d ∧ Q d
  | .lst ds, .int k => ∃ d, atD ds k = some d ∧ Q d
  | _, _ => False
def sIxD (n d : Nat) : Option Int → Nat
  | none => d
  | some v => (if v < 0 then max (v + (n : Int)) 0 else min v (n : Int)).toNat
def cutD {α : Type} (xs : List α) (lo hi : Option Int) : List α := (xs.drop (sIxD xs.length 0 lo)).take (sIxD xs.length xs.length hi - sIxD xs.length 0 lo)
/-- a part of a slice: left out, or an int -/
def partD : Bool → D → Option (Option Int)
  | true, _ => some none
  | false, .int i => some (some i)
  | false, _ => none
def slD (a : D) (l h : Option Int) (Q : D → Prop) : Prop := match a with
  | .tup ds => Q (.tup (cutD ds l h))
  | .lst ds => Q (.lst (cutD ds l h))
  | _ => False
def isiD (t : TY) (d : D) : Bool := match t, d with
  | .tup, .tup _ => true
  | .lst, .lst _ => true
  | .int, .int _ => true
  | .int, .bl _ => true
  | .bl, .bl _ => true
  | .str, .str _ => true
  | .cls c, .obj c' _ _ => decide (c = c')
  | _, _ => false
def absI (i : Int) : Int := if i < 0 then -i else i
def bools : List D → Option (List Bool)
  | [] => some []
  | .bl b :: r => (bools r).map (b :: ·)
  | _ => none
def intsD : List D → Option (List Int)
  | [] => some []
  | .int b :: r => (intsD r).map (b :: ·)
  | _ => none
def bltD (f : BF) (ds : List D) (Q : D → Prop) : Prop := match f, ds with
  | .len, [.tup xs] => Q (.int xs.length)
  | .len, [.lst xs] => Q (.int xs.length)
  | .len, [.dict ks _] => Q (.int ks.length)
  | .abs, [.int i] => Q (.int (absI i))
  | .int_, [.int i] => Q (.int i)
  | .int_, [.bl b] => Q (.int (if b = true then 1 else 0))
  | .list_, [.tup xs] => Q (.lst xs)
  | .list_, [.lst xs] => Q (.lst xs)
  | .list_, [.dict ks _] => Q (.lst ks)
  | .tuple_, [.tup xs] => Q (.tup xs)
  | .tuple_, [.lst xs] => Q (.tup xs)
  | .any_, [.lst xs] => ∃ bs, bools xs = some bs ∧ Q (.bl (bs.any id))
  | .all_, [.lst xs] => ∃ bs, bools xs = some bs ∧ Q (.bl (bs.all id))
  | .sum_, [.lst xs] => ∃ ns, intsD xs = some ns ∧ Q (.int ns.sum)
  | .max2, [.int i, .int j] => Q (.int (if j > i then j else i))
  | .min2, [.int i, .int j] => Q (.int (if j < i then j else i))
  | .maxl, [.lst xs] => ∃ ns, intsD xs = some ns ∧ ns ≠ [] ∧ ∀ M, M ∈ ns → (∀ a ∈ ns, a ≤ M) → Q (.int M)
  | .sorted_, [.lst xs] => ((∃ ns, intsD xs = some ns) ∨ TupsOk 60 xs) ∧ Q (.lst (sortD xs))
  | _, _ => False
/-- c[x] = v -/
def putD (c x v : D) (Q : D → Prop) : Prop := match c with
  | .dict ks vs => ks.length < szl ∧ isKey x = true ∧ Q (dPut ks vs x v)
  | .lst ds => ∃ n j, x = .int n ∧ ixI ds n = some j ∧ Q (.lst (ds.set j v))
  | _ => False
/-- a range's ints -/
def rangeD (lo : Int) (n : Nat) : List D := (List.range n).map fun (i : Nat) => .int (lo + (i : Int))
def rngD (ds : List D) (Q : D → Prop) : Prop := match ds with
  | [.int b] => -(2 ^ 62) ≤ b ∧ b < 2 ^ 62 ∧ Q (.lst (rangeD 0 b.toNat))
  | [.int a, .int b] => -(2 ^ 62) ≤ a ∧ a < 2 ^ 62 ∧ -(2 ^ 62) ≤ b ∧ b < 2 ^ 62 ∧ Q (.lst (rangeD a (b - a).toNat))
  | _ => False
def enumD : Int → List D → List D
  | _, [] => []
  | k, d :: ds => .tup [.int k, d] :: enumD (k + 1) ds
def zipD : List D → List D → List D
  | x :: xs, y :: ys => .tup [x, y] :: zipD xs ys
  | _, _ => []

mutual
def asgT : CT → D → DEnv → Option DEnv
  | .nm i, d, ρ => some (ρ.set i (some d))
  | .tp ts, .tup ds, ρ => asgTs ts ds ρ
  | .tp _, _, _ => none
def asgTs : List CT → List D → DEnv → Option DEnv
  | [], [], ρ => some ρ
  | t :: ts, d :: ds, ρ => (asgT t d ρ).bind (asgTs ts ds)
  | _, _, _ => none
end

/-- a comprehension's turns: g tells of an item what is kept -/
def wpLc (g : D → (Option D → Prop) → Prop) : List D → List D → (List D → Prop) → Prop
  | [], acc, Q => Q acc
  | x :: xs, acc, Q => g x fun r => match r with
    | some y => acc.length < szl ∧ wpLc g xs (acc ++ [y]) Q
    | none => wpLc g xs acc Q

/-- the turns of a comprehension's first clause of two -/
def wpLcN (g : D → List D → (List D → Prop) → Prop) : List D → List D → (List D → Prop) → Prop
  | [], acc, Q => Q acc
  | x :: xs, acc, Q => g x acc fun acc' => wpLcN g xs acc' Q
mutual
/-- a target's slots -/
def CT.slots : CT → List Nat
  | .nm i => [i]
  | .tp ts => CT.slotsL ts
def CT.slotsL : List CT → List Nat
  | [] => []
  | t :: ts => t.slots ++ CT.slotsL ts
end
/-- slots without a value -/
def wipeD (ρ : DEnv) (sl : List Nat) : DEnv := sl.foldl (fun ρ i => ρ.set i none) ρ
/-- the value is a new object, if it is a container at all -/
def CE.fresh : CE → Bool
  | .var _ => false
  | .glob _ _ => false
  | .ix _ _ => false
  | .and _ => false
  | .or _ => false
  | .ife _ a b => a.fresh && b.fresh
  | _ => true

/-- it may be a new container: its name owns it -/
def CE.owns : CE → Bool
  | .lst _ => true
  | .lc _ _ _ _ => true
  | .lc2 _ _ _ _ _ _ => true
  | .call _ _ _ => true
  | .cat _ _ => true
  | .blt .list_ _ => true
  | .blt .sorted_ _ => true
  | .dct0 => true
  | .dct1 _ _ => true
  | .sortk _ _ _ => true
  | .sl _ _ _ => true
  | .bin .add a b => a.owns || b.owns
  | .ife _ a b => a.fresh && b.fresh && (a.owns || b.owns)
  | _ => false
theorem CE.owns_fresh {e : CE} (h : e.owns = true) : e.fresh = true := by
  cases e <;> first | rfl | (cases h; done) | skip
  simp only [CE.owns, Bool.and_eq_true] at h
  simp [CE.fresh, h.1.1, h.1.2]

/-- a tuple whose first item is new -/
def CE.deep : CE → Bool
  | .tup (e :: _) => e.owns
  | _ => false
/-- no container stands first in the tuple -/
def nfc : D → Bool
  | .tup (x :: _) => !x.cont
  | _ => true
def CE.isNop : CE → Bool
  | .nop => true
  | _ => false

/-! ### expressions -/
mutual
def wpE : CE → DEnv → (D → Prop) → (Xn → Prop) → Prop
  | .var i, ρ, Q, _ => ∃ d, ρ[i]? = some (some d) ∧ Q d
  | .int i, _, Q, _ => Q (.int i)
  | .bl b, _, Q, _ => Q (.bl b)
  | .non, _, Q, _ => Q .non
  | .str x, _, Q, _ => Q (.str x)
  | .glob _ d, _, Q, _ => Q d
  | .bin o a b, ρ, Q, E => wpE a ρ (fun x => wpE b ρ (fun y => binD o x y Q) E) E
  | .cat a b, ρ, Q, E => wpE a ρ (fun x => wpE b ρ (fun y => catD x y Q) E) E
  | .neg a, ρ, Q, E => wpE a ρ (fun x => ∃ i, x = .int i ∧ Q (.int (-i))) E
  | .not a, ρ, Q, E => wpE a ρ (fun x => ∃ b, truD x = some b ∧ Q (.bl (!b))) E
  | .cmp o a b, ρ, Q, E => wpE a ρ (fun x => wpE b ρ (fun y => cmpD o x y Q) E) E
  | .chain o o' a b c, ρ, Q, E => wpE a ρ (fun x => wpE b ρ (fun y => cmpD o x y fun r => ∃ k, r = .bl k ∧ if k = true then wpE c ρ (fun z => cmpD o' y z Q) E else Q (.bl false)) E) E
  | .isN ng a, ρ, Q, E => wpE a ρ (fun x => Q (.bl (ng != x.isNon))) E
  | .mem ng a b, ρ, Q, E => wpE a ρ (fun x => wpE b ρ (fun y => memD x y fun r => Q (.bl (ng != r))) E) E
  | .and es, ρ, Q, E => wpAnd es ρ Q E
  | .or es, ρ, Q, E => wpOr es ρ Q E
  | .ife c a b, ρ, Q, E => wpE c ρ (fun x => ∃ k, truD x = some k ∧ if k = true then wpE a ρ Q E else wpE b ρ Q E) E
  | .tup es, ρ, Q, E => wpEs es ρ (fun ds => ds.length ≤ szl ∧ Q (.tup ds)) E
  | .lst es, ρ, Q, E => wpEs es ρ (fun ds => ds.length ≤ szl ∧ Q (.lst ds)) E
  | .ix a i, ρ, Q, E => wpE a ρ (fun x => wpE i ρ (fun y => ixD x y Q) E) E
  | .sl a lo hi, ρ, Q, E => wpE a ρ (fun x => wpE lo ρ (fun y => ∃ l, partD lo.isNop y = some l ∧ wpE hi ρ (fun z => ∃ h, partD hi.isNop z = some h ∧ slD x l h Q) E) E) E
  | .nop, _, Q, _ => Q .non
  | .call _ sp es, ρ, Q, E => wpEs es ρ (fun ds => sp.run ds Q E) E
  | .blt f es, ρ, Q, E => wpEs es ρ (fun ds => bltD f ds Q) E
  | .isi a t, ρ, Q, E => wpE a ρ (fun x => Q (.bl (isiD t x))) E
  | .lc t it ifs elt, ρ, Q, E => wpE it ρ (fun d => ∃ xs, items d = some xs ∧
      wpLc (fun x K => ∃ ρ', asgT t x ρ = some ρ' ∧ wpIfs ifs ρ' (fun b => if b = true then wpE elt ρ' (fun y => K (some y)) (fun _ => False) else K none)) xs [] fun acc => Q (.lst acc)) E
  | .lc2 t it t2 it2 ifs elt, ρ, Q, E => wpE it ρ (fun d => ∃ xs, items d = some xs ∧
      wpLcN (fun x acc K => ∃ ρ', asgT t x (wipeD ρ t2.slots) = some ρ' ∧ wpE it2 ρ' (fun d2 => ∃ ys, items d2 = some ys ∧
        wpLc (fun y K' => ∃ ρ'', asgT t2 y ρ' = some ρ'' ∧ wpIfs ifs ρ'' (fun b => if b = true then wpE elt ρ'' (fun v => K' (some v)) (fun _ => False) else K' none)) ys acc K) (fun _ => False)) xs [] fun acc => Q (.lst acc)) E
  | .rng es, ρ, Q, E => wpEs es ρ (fun ds => rngD ds Q) E
  | .enm a, ρ, Q, E => wpE a ρ (fun x => ∃ xs, items x = some xs ∧ Q (.lst (enumD 0 xs))) E
  | .zip a b, ρ, Q, E => wpE a ρ (fun x => wpE b ρ (fun y => ∃ xs ys, items x = some xs ∧ items y = some ys ∧ Q (.lst (zipD xs ys))) E) E
  | .dct0, _, Q, _ => Q (.dict [] [])
  | .dct1 k v, ρ, Q, E => wpE k ρ (fun x => wpE v ρ (fun y => isKey x = true ∧ Q (.dict [x] [y])) E) E
  | .sortk i it key, ρ, Q, E => wpE it ρ (fun d => ∃ (xs : List D) (kf : D → D), d = .lst xs ∧ i < ρ.length ∧ (∀ x ∈ xs, (cmpOk x x = true ∧ ne1 x = true) ∧ wpE key (ρ.set i (some x)) (fun y => y = kf x) (fun _ => False)) ∧
      TupsOk 60 (xs.map kf) ∧ Q (.lst (srtB (fun x y => ltT (kf x) (kf y)) xs))) E
def wpEs : List CE → DEnv → (List D → Prop) → (Xn → Prop) → Prop
  | [], _, Q, _ => Q []
  | e :: es, ρ, Q, E => wpE e ρ (fun d => wpEs es ρ (fun ds => Q (d :: ds)) E) E
/-- and, or: the last one's value, or the first one that decides -/
def wpAnd : List CE → DEnv → (D → Prop) → (Xn → Prop) → Prop
  | [], _, _, _ => False
  | e :: es, ρ, Q, E => wpE e ρ (fun d => match es with
    | [] => Q d
    | _ :: _ => ∃ k, truD d = some k ∧ if k = true then wpAnd es ρ Q E else Q d) E
def wpOr : List CE → DEnv → (D → Prop) → (Xn → Prop) → Prop
  | [], _, _, _ => False
  | e :: es, ρ, Q, E => wpE e ρ (fun d => match es with
    | [] => Q d
    | _ :: _ => ∃ k, truD d = some k ∧ if k = true then Q d else wpOr es ρ Q E) E
/-- a clause's tests (nothing raised) -/
def wpIfs : List CE → DEnv → (Bool → Prop) → Prop
  | [], _, Q => Q true
  | e :: es, ρ, Q => wpE e ρ (fun d => ∃ k, truD d = some k ∧ if k = true then wpIfs es ρ Q else Q false) (fun _ => False)
end

/-! ### statements -/
structure Pn where
  nx : DEnv → Prop
  rt : Bool → D → Prop
  bk : DEnv → Prop
  ct : DEnv → Prop
  ex : DEnv → Xn → Prop

def wpFor (g : D → DEnv → Pn → Prop) : List D → DEnv → Pn → Prop
  | [], ρ, P => P.nx ρ
  | x :: xs, ρ, P => g x ρ { P with nx := fun ρ' => wpFor g xs ρ' P, ct := fun ρ' => wpFor g xs ρ' P, bk := P.nx }
def wpWhl (t : DEnv → (Bool → Prop) → (Xn → Prop) → Prop) (g : DEnv → Pn → Prop) : Nat → DEnv → Pn → Prop
  | 0, _, _ => False
  | n + 1, ρ, P => t ρ (fun k => if k = true then g ρ { P with nx := fun ρ' => wpWhl t g n ρ' P, ct := fun ρ' => wpWhl t g n ρ' P, bk := P.nx } else P.nx ρ) (P.ex ρ)

/-- a test -/
def wpT (e : CE) (ρ : DEnv) (Q : Bool → Prop) (E : Xn → Prop) : Prop := wpE e ρ (fun d => ∃ k, truD d = some k ∧ Q k) E

/-- the clauses: the first that takes x -/
def wpHds (x : Xn) (n : Nat) (E : Prop) (rt : Bool → D → Prop) : List Hd → Prop
  | [] => E
  | h :: hs => if subC x.c h.c = true then (∀ i, h.i = some i → i < n) ∧ wpE (hdl x.c h.hs h.last) (List.replicate n none) (fun d => d.cont = false ∧ rt false d) (fun _ => False) else wpHds x n E rt hs
/-- owned names were read: the value must not hold them, or they are owned no more -/
def keep (rd : List Nat) (ls : Bool) (e : CE) (d : D) : Prop := rd = [] ∨ ls = true ∨ d.imm = true ∨ (e.owns = true ∧ d.flat = true)
mutual
def wpS : CS → DEnv → Pn → Prop
  | .asg i e rd ls, ρ, P => wpE e ρ (fun d => keep rd ls e d ∧ P.nx (ρ.set i (some d))) (P.ex ρ)
  | .asgT t e rd ls, ρ, P => wpE e ρ (fun d => (rd = [] ∨ ls = true ∨ d.imm = true) ∧ ∃ ρ', asgT t d ρ = some ρ' ∧ P.nx ρ') (P.ex ρ)
  | .par i j a b, ρ, P => wpE a ρ (fun x => wpE b ρ (fun y => P.nx ((ρ.set i (some x)).set j (some y))) (P.ex ρ)) (P.ex ρ)
  | .app i e rd ls, ρ, P => ∃ ds, ρ[i]? = some (some (.lst ds)) ∧ ds.length < szl ∧ wpE e ρ (fun d => (rd = [] ∨ ls = true ∨ d.imm = true) ∧ P.nx (ρ.set i (some (.lst (ds ++ [d]))))) (P.ex ρ)
  | .clr i, ρ, P => ∃ ds, ρ[i]? = some (some (.lst ds)) ∧ P.nx (ρ.set i (some (.lst [])))
  | .ext i j, ρ, P => ∃ ds es, ρ[i]? = some (some (.lst ds)) ∧ ρ[j]? = some (some (.lst es)) ∧ ds.length + es.length ≤ szl ∧ D.imms es = true ∧ P.nx (ρ.set i (some (.lst (ds ++ es))))
  | .pop j i, ρ, P => ∃ ds d, ρ[i]? = some (some (.lst (ds ++ [d]))) ∧ P.nx ((ρ.set i (some (.lst ds))).set j (some d))
  | .put i k e, ρ, P => ∃ c, ρ[i]? = some (some c) ∧ wpE e ρ (fun v => wpE k ρ (fun x => v.imm = true ∧ putD c x v fun c' => P.nx (ρ.set i (some c'))) (P.ex ρ)) (P.ex ρ)
  | .asgP i j _ sp es rd ls, ρ, P => wpEs es ρ (fun ds => sp.run ds (fun d => ∃ x y, d = .tup [x, y] ∧ y.imm = true ∧ (rd = [] ∨ ls = true ∨ x.flat = true) ∧ P.nx ((ρ.set i (some x)).set j (some y))) (P.ex ρ)) (P.ex ρ)
  | .drop e, ρ, P => wpE e ρ (fun _ => P.nx ρ) (P.ex ρ)
  | .ret e fr, ρ, P => wpE e ρ (fun d => (fr = true ∨ d.cont = false) ∧ P.rt e.deep d) (P.ex ρ)
  | .retN, _, P => P.rt false .non
  | .ifs c a b, ρ, P => wpT c ρ (fun k => if k = true then wpB a ρ P else wpB b ρ P) (P.ex ρ)
  | .for_ t it _ body, ρ, P => wpE it ρ (fun d => ∃ xs, items d = some xs ∧ wpFor (fun x ρ P => ∃ ρ', asgT t x ρ = some ρ' ∧ wpB body ρ' P) xs ρ P) (P.ex ρ)
  | .whl c body, ρ, P => ∃ n, wpWhl (wpT c) (wpB body) n ρ P
  | .brk, ρ, P => P.bk ρ
  | .cnt, ρ, P => P.ct ρ
  | .pass, ρ, P => P.nx ρ
  | .rse c, ρ, P => P.ex ρ ⟨c, []⟩
  | .tryx body all cls, ρ, P => wpB body ρ { P with ex := fun ρ' x => x.c ∈ all ∧ wpHds x ρ'.length (P.ex ρ' x) P.rt cls }
def wpB : List CS → DEnv → Pn → Prop
  | [], ρ, P => P.nx ρ
  | s :: ss, ρ, P => wpS s ρ { P with nx := fun ρ' => wpB ss ρ' P }
end

/-- a def's body from its arguments (n slots) -/
def start (n : Nat) (ds : List D) : DEnv := (ds.map some) ++ List.replicate (n - ds.length) none
def wpDef (n : Nat) (body : List CS) (ds : List D) (Q : D → Prop) (E : Xn → Prop) : Prop :=
  wpB body (start n ds) { nx := fun _ => Q .non, rt := fun _ => Q, bk := fun _ => False, ct := fun _ => False, ex := fun _ => E }
/-- .. where a container that stands first in the tuple returned is the caller's own -/
def wpDefP (n : Nat) (body : List CS) (ds : List D) (Q : D → Prop) (E : Xn → Prop) : Prop :=
  wpB body (start n ds) { nx := fun _ => Q .non, rt := fun b d => (b = true ∨ nfc d = true) ∧ Q d, bk := fun _ => False, ct := fun _ => False, ex := fun _ => E }
end Dl

namespace Dl
open PySem

theorem binD_mono {o a b} {Q Q' : D → Prop} (h : binD o a b Q) (m : ∀ d, Q d → Q' d) : binD o a b Q' := by
  unfold binD at *
  split <;> simp_all
theorem cmpD_mono {o a b} {Q Q' : D → Prop} (h : cmpD o a b Q) (m : ∀ d, Q d → Q' d) : cmpD o a b Q' := by
  unfold cmpD at *
  split <;> first | (simp_all; done) | (split <;> simp_all)
theorem memD_mono {x y} {Q Q' : Bool → Prop} (h : memD x y Q) (m : ∀ d, Q d → Q' d) : memD x y Q' := by
  unfold memD at h ⊢
  split at h
  · exact ⟨h.1, h.2.1, m _ h.2.2⟩
  · exact ⟨h.1, h.2.1, m _ h.2.2⟩
  · exact ⟨h.1, m _ h.2⟩
  · exact h.elim
theorem ixD_mono {a i} {Q Q' : D → Prop} (h : ixD a i Q) (m : ∀ d, Q d → Q' d) : ixD a i Q' := by
  unfold ixD at h ⊢
  split at h
  · obtain ⟨d, h1, h2⟩ := h; exact ⟨d, h1, m _ h2⟩
  · obtain ⟨d, h1, h2⟩ := h; exact ⟨d, h1, m _ h2⟩
  · exact h.elim
theorem slD_mono {a l h} {Q Q' : D → Prop} (q : slD a l h Q) (m : ∀ d, Q d → Q' d) : slD a l h Q' := by
  unfold slD at q ⊢
  split at q
  · exact m _ q
  · exact m _ q
  · exact q.elim
theorem catD_mono {x y} {Q Q' : D → Prop} (h : catD x y Q) (m : ∀ d, Q d → Q' d) : catD x y Q' := by
  unfold catD at h ⊢
  split at h
  · exact ⟨h.1, m _ h.2⟩
  · exact h.elim
theorem catD_bin {x y} {Q : D → Prop} (h : catD x y Q) : binD .add x y Q := by
  unfold catD at h
  split at h
  · exact h
  · exact h.elim
theorem bltD_mono {f ds} {Q Q' : D → Prop} (h : bltD f ds Q) (m : ∀ d, Q d → Q' d) : bltD f ds Q' := by
  unfold bltD at h ⊢
  split at h <;> first
    | exact m _ h
    | (obtain ⟨bs, e, q⟩ := h; exact ⟨bs, e, m _ q⟩)
    | (obtain ⟨bs, e, e2, q⟩ := h; exact ⟨bs, e, e2, fun M h1 h2 => m _ (q M h1 h2)⟩)
    | (obtain ⟨e, q⟩ := h; exact ⟨e, m _ q⟩)
    | exact h.elim
theorem rngD_mono {ds} {Q Q' : D → Prop} (h : rngD ds Q) (m : ∀ d, Q d → Q' d) : rngD ds Q' := by
  unfold rngD at h ⊢
  split at h
  · exact ⟨h.1, h.2.1, m _ h.2.2⟩
  · obtain ⟨h1, h2, h3, h4, q⟩ := h; exact ⟨h1, h2, h3, h4, m _ q⟩
  · exact h.elim
theorem wpLcN_mono {g : D → List D → (List D → Prop) → Prop} (hg : ∀ x acc (K K' : List D → Prop), g x acc K → (∀ r, K r → K' r) → g x acc K') : ∀ {xs acc : List D} {Q Q' : List D → Prop}, wpLcN g xs acc Q → (∀ r, Q r → Q' r) → wpLcN g xs acc Q'
  | [], acc, Q, Q', h, m => by unfold wpLcN at *; exact m _ h
  | x :: xs, acc, Q, Q', h, m => by
    unfold wpLcN at *
    exact hg _ _ _ _ h fun r q => wpLcN_mono hg q m
theorem wpLc_mono {g g' : D → (Option D → Prop) → Prop} (hg : ∀ x K K', g x K → (∀ r, K r → K' r) → g' x K') : ∀ {xs acc} {Q Q' : List D → Prop}, wpLc g xs acc Q → (∀ d, Q d → Q' d) → wpLc g' xs acc Q'
  | [], acc, Q, Q', h, m => m _ h
  | x :: xs, acc, Q, Q', h, m => by
    refine hg x _ _ h fun r q => ?_
    cases r with
    | none => exact wpLc_mono hg q m
    | some y => exact ⟨q.1, wpLc_mono hg q.2 m⟩

mutual
theorem wpE_mono : ∀ (e : CE) {ρ : DEnv} {Q Q' : D → Prop} {E E' : Xn → Prop}, wpE e ρ Q E → (∀ d, Q d → Q' d) → (∀ x, E x → E' x) → wpE e ρ Q' E'
  | .var i, ρ, Q, Q', E, E', h, m, n => by
    unfold wpE at *
    obtain ⟨d, h1, h2⟩ := h
    exact ⟨d, h1, m _ h2⟩
  | .int i, ρ, Q, Q', E, E', h, m, n => by unfold wpE at *; exact m _ h
  | .bl i, ρ, Q, Q', E, E', h, m, n => by unfold wpE at *; exact m _ h
  | .non, ρ, Q, Q', E, E', h, m, n => by unfold wpE at *; exact m _ h
  | .str x, ρ, Q, Q', E, E', h, m, n => by unfold wpE at *; exact m _ h
  | .glob x d, ρ, Q, Q', E, E', h, m, n => by unfold wpE at *; exact m _ h
  | .bin o a b, ρ, Q, Q', E, E', h, m, n => by
    unfold wpE at *
    exact wpE_mono a h (fun x q => wpE_mono b q (fun y q => binD_mono q m) n) n
  | .cat a b, ρ, Q, Q', E, E', h, m, n => by
    unfold wpE at *
    exact wpE_mono a h (fun x q => wpE_mono b q (fun y q => catD_mono q m) n) n
  | .neg a, ρ, Q, Q', E, E', h, m, n => by
    unfold wpE at *
    exact wpE_mono a h (fun x ⟨i, e, q⟩ => ⟨i, e, m _ q⟩) n
  | .not a, ρ, Q, Q', E, E', h, m, n => by
    unfold wpE at *
    exact wpE_mono a h (fun x ⟨i, e, q⟩ => ⟨i, e, m _ q⟩) n
  | .cmp o a b, ρ, Q, Q', E, E', h, m, n => by
    unfold wpE at *
    exact wpE_mono a h (fun x q => wpE_mono b q (fun y q => cmpD_mono q m) n) n
  | .chain o o' a b c, ρ, Q, Q', E, E', h, m, n => by
    unfold wpE at *
    refine wpE_mono a h (fun x q => wpE_mono b q (fun y q => cmpD_mono q fun r ⟨k, e, q⟩ => ⟨k, e, ?_⟩) n) n
    split
    · rename_i hk
      rw [if_pos hk] at q
      exact wpE_mono c q (fun z q => cmpD_mono q m) n
    · rename_i hk
      rw [if_neg hk] at q
      exact m _ q
  | .isN ng a, ρ, Q, Q', E, E', h, m, n => by
    unfold wpE at *
    exact wpE_mono a h (fun x q => m _ q) n
  | .mem ng a b, ρ, Q, Q', E, E', h, m, n => by
    unfold wpE at *
    exact wpE_mono a h (fun x q => wpE_mono b q (fun y q => memD_mono q fun _ q => m _ q) n) n
  | .and es, ρ, Q, Q', E, E', h, m, n => by unfold wpE at *; exact wpAnd_mono es h m n
  | .or es, ρ, Q, Q', E, E', h, m, n => by unfold wpE at *; exact wpOr_mono es h m n
  | .ife c a b, ρ, Q, Q', E, E', h, m, n => by
    unfold wpE at *
    refine wpE_mono c h (fun x ⟨k, e, q⟩ => ⟨k, e, ?_⟩) n
    split
    · rename_i hk
      rw [if_pos hk] at q
      exact wpE_mono a q m n
    · rename_i hk
      rw [if_neg hk] at q
      exact wpE_mono b q m n
  | .tup es, ρ, Q, Q', E, E', h, m, n => by unfold wpE at *; exact wpEs_mono es h (fun _ ⟨q1, q2⟩ => ⟨q1, m _ q2⟩) n
  | .lst es, ρ, Q, Q', E, E', h, m, n => by unfold wpE at *; exact wpEs_mono es h (fun _ ⟨q1, q2⟩ => ⟨q1, m _ q2⟩) n
  | .ix a i, ρ, Q, Q', E, E', h, m, n => by
    unfold wpE at *
    exact wpE_mono a h (fun x q => wpE_mono i q (fun y q => ixD_mono q m) n) n
  | .sl a l u, ρ, Q, Q', E, E', h, m, n => by
    unfold wpE at *
    exact wpE_mono a h (fun x q => wpE_mono l q (fun y ⟨o, e, q⟩ => ⟨o, e, wpE_mono u q (fun z ⟨o', e', q⟩ => ⟨o', e', slD_mono q m⟩) n⟩) n) n
  | .nop, ρ, Q, Q', E, E', h, m, n => by unfold wpE at *; exact m _ h
  | .call f sp es, ρ, Q, Q', E, E', h, m, n => by unfold wpE at *; exact wpEs_mono es h (fun ds q => sp.mono ds _ _ _ _ q m n) n
  | .blt f es, ρ, Q, Q', E, E', h, m, n => by unfold wpE at *; exact wpEs_mono es h (fun ds q => bltD_mono q m) n
  | .isi a t, ρ, Q, Q', E, E', h, m, n => by
    unfold wpE at *
    exact wpE_mono a h (fun x q => m _ q) n
  | .lc t it ifs elt, ρ, Q, Q', E, E', h, m, n => by
    unfold wpE at *
    refine wpE_mono it h (fun d ⟨xs, e, q⟩ => ⟨xs, e, wpLc_mono (fun x K K' ⟨ρ', e, q⟩ hK => ⟨ρ', e, wpIfs_mono ifs q fun b q => ?_⟩) q fun acc q => m _ q⟩) n
    split
    · rename_i hk
      rw [if_pos hk] at q
      exact wpE_mono elt q (fun y q => hK _ q) (fun _ q => q)
    · rename_i hk
      rw [if_neg hk] at q
      exact hK _ q
  | .lc2 t it t2 it2 ifs elt, ρ, Q, Q', E, E', h, m, n => by
    unfold wpE at *
    refine wpE_mono it h (fun d ⟨xs, e, q⟩ => ⟨xs, e, wpLcN_mono (fun x acc K K' ⟨ρ', e, q⟩ hK => ⟨ρ', e, wpE_mono it2 q (fun d2 ⟨ys, e2, q2⟩ => ⟨ys, e2, wpLc_mono (fun y L L' ⟨ρ'', e3, q3⟩ hL => ⟨ρ'', e3, wpIfs_mono ifs q3 fun b q3 => ?_⟩) q2 hK⟩) (fun _ q => q)⟩) q fun acc q => m _ q⟩) n
    split
    · rename_i hk
      rw [if_pos hk] at q3
      exact wpE_mono elt q3 (fun y q => hL _ q) (fun _ q => q)
    · rename_i hk
      rw [if_neg hk] at q3
      exact hL _ q3
  | .rng es, ρ, Q, Q', E, E', h, m, n => by unfold wpE at *; exact wpEs_mono es h (fun ds q => rngD_mono q m) n
  | .enm a, ρ, Q, Q', E, E', h, m, n => by
    unfold wpE at *
    exact wpE_mono a h (fun x ⟨xs, e, q⟩ => ⟨xs, e, m _ q⟩) n
  | .zip a b, ρ, Q, Q', E, E', h, m, n => by
    unfold wpE at *
    exact wpE_mono a h (fun x q => wpE_mono b q (fun y ⟨xs, ys, e1, e2, q⟩ => ⟨xs, ys, e1, e2, m _ q⟩) n) n
  | .dct0, ρ, Q, Q', E, E', h, m, n => by unfold wpE at *; exact m _ h
  | .dct1 a b, ρ, Q, Q', E, E', h, m, n => by
    unfold wpE at *
    exact wpE_mono a h (fun x q => wpE_mono b q (fun y ⟨e1, q⟩ => ⟨e1, m _ q⟩) n) n
  | .sortk i it key, ρ, Q, Q', E, E', h, m, n => by
    unfold wpE at *
    exact wpE_mono it h (fun d ⟨xs, kf, e, hi, hk, ok, q⟩ => ⟨xs, kf, e, hi, hk, ok, m _ q⟩) n
theorem wpEs_mono : ∀ (es : List CE) {ρ : DEnv} {Q Q' : List D → Prop} {E E' : Xn → Prop}, wpEs es ρ Q E → (∀ d, Q d → Q' d) → (∀ x, E x → E' x) → wpEs es ρ Q' E'
  | [], ρ, Q, Q', E, E', h, m, n => by unfold wpEs at *; exact m _ h
  | e :: es, ρ, Q, Q', E, E', h, m, n => by
    unfold wpEs at *
    exact wpE_mono e h (fun d q => wpEs_mono es q (fun ds q => m _ q) n) n
theorem wpAnd_mono : ∀ (es : List CE) {ρ : DEnv} {Q Q' : D → Prop} {E E' : Xn → Prop}, wpAnd es ρ Q E → (∀ d, Q d → Q' d) → (∀ x, E x → E' x) → wpAnd es ρ Q' E'
  | [], ρ, Q, Q', E, E', h, m, n => by unfold wpAnd at *; exact h
  | e :: es, ρ, Q, Q', E, E', h, m, n => by
    unfold wpAnd at *
    refine wpE_mono e h (fun d q => ?_) n
    match es, q with
    | [], q => exact m _ q
    | e' :: es', q =>
      obtain ⟨k, e, q⟩ := q
      refine ⟨k, e, ?_⟩
      split
      · rename_i hk
        rw [if_pos hk] at q
        exact wpAnd_mono (e' :: es') q m n
      · rename_i hk
        rw [if_neg hk] at q
        exact m _ q
theorem wpOr_mono : ∀ (es : List CE) {ρ : DEnv} {Q Q' : D → Prop} {E E' : Xn → Prop}, wpOr es ρ Q E → (∀ d, Q d → Q' d) → (∀ x, E x → E' x) → wpOr es ρ Q' E'
  | [], ρ, Q, Q', E, E', h, m, n => by unfold wpOr at *; exact h
  | e :: es, ρ, Q, Q', E, E', h, m, n => by
    unfold wpOr at *
    refine wpE_mono e h (fun d q => ?_) n
    match es, q with
    | [], q => exact m _ q
    | e' :: es', q =>
      obtain ⟨k, e, q⟩ := q
      refine ⟨k, e, ?_⟩
      split
      · rename_i hk
        rw [if_pos hk] at q
        exact m _ q
      · rename_i hk
        rw [if_neg hk] at q
        exact wpOr_mono (e' :: es') q m n
theorem wpIfs_mono : ∀ (es : List CE) {ρ : DEnv} {Q Q' : Bool → Prop}, wpIfs es ρ Q → (∀ d, Q d → Q' d) → wpIfs es ρ Q'
  | [], ρ, Q, Q', h, m => by unfold wpIfs at *; exact m _ h
  | e :: es, ρ, Q, Q', h, m => by
    unfold wpIfs at *
    refine wpE_mono e h (fun d ⟨k, e, q⟩ => ⟨k, e, ?_⟩) (fun _ q => q)
    split
    · rename_i hk
      rw [if_pos hk] at q
      exact wpIfs_mono es q m
    · rename_i hk
      rw [if_neg hk] at q
      exact m _ q
end
end Dl

/-! DlRep: how plain data lie in the abstract heap. -/
namespace Dl
open PySem PySem.Spec PyProof.Rows L2

/-- the tables of code objects that lambdas are laid in, each with its lambda's name -/
class Tbs where
  T : List (Addr × Str)
def ntb : HO → Prop
  | .tbl _ => False
  | _ => True
/-- all but the tables stays -/
structure Same (H H' : Hp) : Prop where
  at_ : ∀ b o, H b = some o → ntb o → H' b = some o
  fr_ : ∀ b, H' b = none → H b = none
theorem Same.refl (H : Hp) : Same H H := ⟨fun _ _ h _ => h, fun _ h => h⟩
theorem Same.trans {H H1 H2 : Hp} (a : Same H H1) (b : Same H1 H2) : Same H H2 := ⟨fun c o h n => b.at_ c o (a.at_ c o h n) n, fun c h => a.fr_ c (b.fr_ c h)⟩
theorem Same.free {H H' : Hp} (e : Same H H') {l : Addr} (h : H' l = none) : H l = none := e.fr_ l h
theorem Same.of {H H' : Hp} (e : ∀ b o, H b = some o → H' b = some o) : Same H H' := ⟨fun b o h _ => e b o h, fun b h => by
  cases q : H b with
  | none => rfl
  | some o => rw [e b o q] at h; cases h⟩
/-- .. and the tables stay tables -/
structure Sm [Tbs] (H H' : Hp) : Prop where
  w : Same H H'
  tb : LamX.Tabs Tbs.T H → LamX.Tabs Tbs.T H'
section
variable [Tbs]
theorem Sm.refl (H : Hp) : Sm H H := ⟨Same.refl H, fun h => h⟩
theorem Sm.trans {H H1 H2 : Hp} (a : Sm H H1) (b : Sm H1 H2) : Sm H H2 := ⟨a.w.trans b.w, fun h => b.tb (a.tb h)⟩
theorem Sm.free {H H' : Hp} (e : Sm H H') {l : Addr} (h : H' l = none) : H l = none := e.w.fr_ l h
theorem Sm.of {H H' : Hp} (e : ∀ b o, H b = some o → H' b = some o) : Sm H H' := ⟨Same.of e, fun h => h.ext e⟩
theorem Sm.at_ {H H' : Hp} (e : Sm H H') {b : Addr} {o : HO} (h : H b = some o) (n : ntb o := by trivial) : H' b = some o := e.w.at_ b o h n
/-- an object that is no table and no code is written, where H had none -/
theorem Sm.wr {H H' : Hp} (e : Sm H H') {a : Addr} {o o' : HO} (hn : H a = none) (h : H' a = some o) (n : ntb o) (nc : ∀ q, o ≠ LamX.CodeO a q) : Sm H (upd H' a o') := by
  refine ⟨⟨fun b u hb nb => ?_, fun b hb => ?_⟩, fun ht p hp => ?_⟩
  · rw [upd_ne (ne_of_none hb hn)]
    exact e.w.at_ b u hb nb
  · by_cases hba : b = a
    · rw [hba]; exact hn
    · rw [upd_ne hba] at hb
      exact e.w.fr_ b hb
  · obtain ⟨ps, h1, h2, h3⟩ := e.tb ht p hp
    have n1 : p.1 ≠ a := fun z => by
      rw [z, h] at h1
      cases h1
      exact n
    refine ⟨ps, by rw [upd_ne n1]; exact h1, h2, fun pos cv hc => ?_⟩
    obtain ⟨c, e1, e2⟩ := h3 pos cv hc
    have n2 : c ≠ a := fun z => by
      rw [z, h] at e2
      rw [Option.some.inj e2] at nc
      exact nc p.2 rfl
    exact ⟨c, e1, by rw [upd_ne n2]; exact e2⟩
end
theorem code_ne {a : Addr} {q : Str} {o : HO} (h : ∀ φ, o ≠ .ext φ) : o ≠ LamX.CodeO a q := fun z => h _ z
/-! ### keys of dicts: ints and tuples of such -/
mutual
/-- a key's hash -/
def nhash : NestedKey → Int
  | .none => reduceHash 0xFCA86420
  | .num i => hashInt i
  | .text x => 0
  | .tup ks => reduceHash (Builtin.Tuple.tupleHashOf (nhashes ks))
def nhashes : List NestedKey → List Int
  | [] => []
  | k :: ks => nhash k :: nhashes ks
end
mutual
theorem nhash_eq {w : World} : ∀ {n : Nat} {d : D}, keyB n d = true → (toN d).hash w = nhash (toN d)
  | n, .int i, h => by simp [toN, NestedKey.hash, nhash]
  | 0, .tup ds, h => by simp [keyB] at h
  | n + 1, .tup ds, h => by
    simp only [keyB] at h
    simp only [toN, NestedKey.hash, nhash, nhashes_eq h]
  | n, .non, h => by simp [keyB] at h
  | n, .bl _, h => by simp [keyB] at h
  | n, .str _, h => by simp [keyB] at h
  | n, .lst _, h => by simp [keyB] at h
  | n, .dict _ _, h => by simp [keyB] at h
  | n, .obj _ _ _, h => by simp [keyB] at h
theorem nhashes_eq {w : World} : ∀ {n : Nat} {ds : List D}, keysB n ds = true → NestedKey.hashes w (toNs ds) = nhashes (toNs ds)
  | n, [], h => rfl
  | n, d :: ds, h => by
    simp only [keysB, Bool.and_eq_true] at h
    simp only [toNs, NestedKey.hashes, nhashes, nhash_eq h.1, nhashes_eq h.2]
end
/-- a dict at a: its keys (each one's own place), its values -/
def DicO (a : Addr) (kas : List (NestedKey × Addr)) (vvs : List V) : HO := .ext fun h => ∃ (us : List Value) (o : Obj) (es : Array DictEntry) (ep : Nat), Vals vvs us ∧ h.get? a = some o ∧ o.ExactDict ∧ o.data = .dict es ep ∧
  es.toList = (kas.zip us).map (fun x => ⟨nhash x.1.1, .ref x.1.2, x.2⟩) ∧ kas.length = us.length ∧ (kas.map (·.1)).Nodup ∧ kas.length ≤ sizeLine ∧ (a == sysModules) = false
theorem dico_code {a : Addr} {kas : List (NestedKey × Addr)} {vvs : List V} {q : Str} : DicO a kas vvs ≠ LamX.CodeO a q := fun z => by
  unfold DicO LamX.CodeO at z
  have z := HO.ext.inj z
  let ob : Obj := { cls := .none, data := .fields #[.none, .str q 0] }
  let h : Heap := { objs := Array.replicate (a + 1) ob }
  have e : h.get? a = some ob := by
    unfold Heap.get?
    have : h.objs[a]? = some ob := by simp [h]
    rw [this]
  have y := congrFun z h
  have y2 : ∃ (oc : Obj) (vs : Array Value) (t : Tok), h.get? a = some oc ∧ oc.data = .fields vs ∧ vs[1]? = some (.str q t) := ⟨ob, _, 0, e, rfl, rfl⟩
  rw [← y] at y2
  obtain ⟨us, o, es, ep, _, e2, _, e3, _⟩ := y2
  rw [e] at e2
  cases e2
  cases e3
/-- the heap without the addresses at S -/
def hide (H : Hp) (S : List Addr) : Hp := fun b => if b ∈ S then none else H b
theorem hide_in {H : Hp} {S : List Addr} {b : Addr} (h : b ∈ S) : hide H S b = none := by unfold hide; rw [if_pos h]
theorem hide_out {H : Hp} {S : List Addr} {b : Addr} (h : b ∉ S) : hide H S b = H b := by unfold hide; rw [if_neg h]
theorem hide_le {H : Hp} {S : List Addr} : Same (hide H S) H := Same.of fun b o e => by
  unfold hide at e
  split at e
  · cases e
  · exact e
theorem hide_nil {H : Hp} : hide H [] = H := by
  funext b; exact hide_out (by simp)
theorem Same.hide {H H' : Hp} {S : List Addr} (h : Same H H') : Same (hide H S) (hide H' S) := ⟨fun b o e n => by
  unfold Dl.hide at *
  split at e
  · cases e
  · rename_i hb
    rw [if_neg hb]
    exact h.at_ _ _ e n, fun b e => by
  unfold Dl.hide at *
  split
  · rfl
  · rename_i hb
    rw [if_neg hb] at e
    exact h.fr_ b e⟩
theorem Sm.hide [Tbs] {H H' : Hp} {S : List Addr} (h : Sm H H') : Same (Dl.hide H S) (Dl.hide H' S) := h.w.hide
theorem hide_more {H : Hp} {S T : List Addr} (h : ∀ a ∈ S, a ∈ T) : Same (hide H T) (hide H S) := Same.of fun b o e => by
  unfold hide at *
  split at e
  · cases e
  · rename_i hb
    rw [if_neg fun z => hb (h _ z)]
    exact e

mutual
def Rep (K : PySem.W.Frag) (H : Hp) : D → V → Prop
  | .non, v => v = .non
  | .bl b, v => v = .bl b
  | .int i, v => v = .int i
  | .str x, v => v = .str x
  | .tup ds, v => ∃ a vs, v = .ref a ∧ SqT K H a vs ∧ Reps K H ds vs
  | .lst ds, v => ∃ a vs, v = .ref a ∧ SqL K H a vs ∧ Reps K H ds vs
  | .dict ks vs, v => ∃ a kas vvs, v = .ref a ∧ H a = some (DicO a kas vvs) ∧ kas.map (·.1) = toNs ks ∧ keysB 8 ks = true ∧ Reps K H ks (kas.map fun p => .ref p.2) ∧ Reps K H vs vvs
  | .obj _ _ _, _ => False
def Reps (K : PySem.W.Frag) (H : Hp) : List D → List V → Prop
  | [], vs => vs = []
  | d :: ds, vs => ∃ v r, vs = v :: r ∧ Rep K H d v ∧ Reps K H ds r
end

section
variable {K : PySem.W.Frag} {H H' : Hp}
theorem Same.rd {a : Addr} {u : HO} (e : Same H H') (h : Rd H a u) (hn : ntb u := by trivial) : Rd H' a u := by
  rcases h with h | ⟨o, h⟩
  · exact .inl (e.at_ _ _ h hn)
  · exact .inr ⟨o, e.at_ _ _ h trivial⟩
theorem Same.sqt {a : Addr} {xs : List V} (e : Same H H') (h : SqT K H a xs) : SqT K H' a xs := by
  rcases h with h | h
  · exact .inl (Same.rd e h)
  · exact .inr h
theorem Same.sql {a : Addr} {xs : List V} (e : Same H H') (h : SqL K H a xs) : SqL K H' a xs := by
  rcases h with h | h
  · exact .inl (Same.rd e h)
  · exact .inr h
mutual
theorem Rep.mono (e : Same H H') : ∀ {d : D} {v : V}, Rep K H d v → Rep K H' d v
  | .non, v, h => by unfold Rep at *; exact h
  | .bl b, v, h => by unfold Rep at *; exact h
  | .int b, v, h => by unfold Rep at *; exact h
  | .str b, v, h => by unfold Rep at *; exact h
  | .tup ds, v, h => by
    unfold Rep at *
    obtain ⟨a, vs, h1, h2, h3⟩ := h
    exact ⟨a, vs, h1, Same.sqt e h2, Reps.mono e h3⟩
  | .lst ds, v, h => by
    unfold Rep at *
    obtain ⟨a, vs, h1, h2, h3⟩ := h
    exact ⟨a, vs, h1, Same.sql e h2, Reps.mono e h3⟩
  | .dict ks vs, v, h => by
    unfold Rep at *
    obtain ⟨a, kas, vvs, h1, h2, h3, h4, h5, h6⟩ := h
    exact ⟨a, kas, vvs, h1, e.at_ _ _ h2 trivial, h3, h4, Reps.mono e h5, Reps.mono e h6⟩
  | .obj _ _ _, v, h => by unfold Rep at *; exact h
theorem Reps.mono (e : Same H H') : ∀ {ds : List D} {vs : List V}, Reps K H ds vs → Reps K H' ds vs
  | [], vs, h => by unfold Reps at *; exact h
  | d :: ds, vs, h => by
    unfold Reps at *
    obtain ⟨v, r, h1, h2, h3⟩ := h
    exact ⟨v, r, h1, Rep.mono e h2, Reps.mono e h3⟩
end
-- what never changes leans on tuples alone
mutual
theorem Rep.imm {S : List Addr} (ht : ∀ a xs, Rd H a (.tup xs) → a ∉ S) : ∀ {d : D} {v : V}, Rep K H d v → d.imm = true → Rep K (hide H S) d v
  | .non, v, h, _ => by unfold Rep at *; exact h
  | .bl b, v, h, _ => by unfold Rep at *; exact h
  | .int b, v, h, _ => by unfold Rep at *; exact h
  | .str b, v, h, _ => by unfold Rep at *; exact h
  | .tup ds, v, h, hi => by
    unfold Rep at *
    unfold D.imm at hi
    obtain ⟨a, vs, h1, h2, h3⟩ := h
    refine ⟨a, vs, h1, ?_, Reps.imm ht h3 hi⟩
    rcases h2 with h2 | h2
    · have hn := ht a vs h2
      rcases h2 with h2 | ⟨o, h2⟩
      · exact .inl (.inl (by rw [hide_out hn]; exact h2))
      · exact .inl (.inr ⟨o, by rw [hide_out hn]; exact h2⟩)
    · exact .inr h2
  | .lst ds, v, h, hi => by unfold D.imm at hi; cases hi
  | .dict _ _, v, h, hi => by unfold D.imm at hi; cases hi
  | .obj _ _ _, v, h, hi => by unfold D.imm at hi; cases hi
theorem Reps.imm {S : List Addr} (ht : ∀ a xs, Rd H a (.tup xs) → a ∉ S) : ∀ {ds : List D} {vs : List V}, Reps K H ds vs → D.imms ds = true → Reps K (hide H S) ds vs
  | [], vs, h, _ => by unfold Reps at *; exact h
  | d :: ds, vs, h, hi => by
    unfold Reps at *
    unfold D.imms at hi
    rw [Bool.and_eq_true] at hi
    obtain ⟨v, r, h1, h2, h3⟩ := h
    exact ⟨v, r, h1, Rep.imm ht h2 hi.1, Reps.imm ht h3 hi.2⟩
end
theorem Reps.length : ∀ {ds : List D} {vs : List V}, Reps K H ds vs → ds.length = vs.length
  | [], vs, h => by unfold Reps at h; subst h; rfl
  | d :: ds, vs, h => by
    unfold Reps at h
    obtain ⟨v, r, rfl, _, h3⟩ := h
    simp [Reps.length h3]
theorem Reps.get : ∀ {ds : List D} {vs : List V} {i : Nat} {d : D}, Reps K H ds vs → ds[i]? = some d → ∃ v, vs[i]? = some v ∧ Rep K H d v
  | [], vs, i, d, h, e => by simp at e
  | x :: ds, vs, 0, d, h, e => by
    unfold Reps at h
    obtain ⟨v, r, rfl, h2, _⟩ := h
    simp at e; subst e
    exact ⟨v, rfl, h2⟩
  | x :: ds, vs, i + 1, d, h, e => by
    unfold Reps at h
    obtain ⟨v, r, rfl, _, h3⟩ := h
    obtain ⟨v', e1, e2⟩ := Reps.get (i := i) (d := d) h3 (by simpa using e)
    exact ⟨v', by simpa using e1, e2⟩
theorem Reps.append : ∀ {ds es : List D} {vs us : List V}, Reps K H ds vs → Reps K H es us → Reps K H (ds ++ es) (vs ++ us)
  | [], es, vs, us, h, g => by unfold Reps at h; subst h; exact g
  | d :: ds, es, vs, us, h, g => by
    unfold Reps at h
    obtain ⟨v, r, rfl, h2, h3⟩ := h
    show Reps K H (d :: (ds ++ es)) (v :: (r ++ us))
    unfold Reps
    exact ⟨v, r ++ us, rfl, h2, Reps.append h3 g⟩
theorem Reps.drop : ∀ {ds : List D} {vs : List V} (n : Nat), Reps K H ds vs → Reps K H (ds.drop n) (vs.drop n)
  | ds, vs, 0, h => h
  | [], vs, n + 1, h => by unfold Reps at h; subst h; unfold Reps; simp
  | d :: ds, vs, n + 1, h => by
    unfold Reps at h
    obtain ⟨v, r, rfl, h2, h3⟩ := h
    exact Reps.drop n h3
theorem Reps.take : ∀ {ds : List D} {vs : List V} (n : Nat), Reps K H ds vs → Reps K H (ds.take n) (vs.take n)
  | ds, vs, 0, h => by simp [Reps]
  | [], vs, n + 1, h => by unfold Reps at h; subst h; simp [Reps]
  | d :: ds, vs, n + 1, h => by
    unfold Reps at h
    obtain ⟨v, r, rfl, h2, h3⟩ := h
    show Reps K H (d :: ds.take n) (v :: r.take n)
    unfold Reps
    exact ⟨v, _, rfl, h2, Reps.take n h3⟩
theorem Reps.cons {d : D} {ds : List D} {v : V} {vs : List V} (h : Rep K H d v) (g : Reps K H ds vs) : Reps K H (d :: ds) (v :: vs) := by
  unfold Reps; exact ⟨v, vs, rfl, h, g⟩
theorem Reps.one {d : D} {v : V} (h : Rep K H d v) : Reps K H [d] [v] := Reps.cons h (by unfold Reps; rfl)
theorem Reps.nil : Reps K H [] [] := by unfold Reps; rfl
theorem Reps.snoc : ∀ {ds : List D} {d : D} {vs : List V}, Reps K H (ds ++ [d]) vs → ∃ vs' v, vs = vs' ++ [v] ∧ Reps K H ds vs' ∧ Rep K H d v
  | [], d, vs, h => by
    unfold Reps at h
    obtain ⟨v, r, rfl, h2, h3⟩ := h
    unfold Reps at h3
    subst h3
    exact ⟨[], v, rfl, Reps.nil, h2⟩
  | x :: ds, d, vs, h => by
    rw [List.cons_append] at h
    unfold Reps at h
    obtain ⟨v, r, rfl, h2, h3⟩ := h
    obtain ⟨vs', v', rfl, h4, h5⟩ := Reps.snoc h3
    exact ⟨v :: vs', v', rfl, Reps.cons h2 h4, h5⟩
theorem Reps.set : ∀ {ds : List D} {vs : List V} {j : Nat} {d : D} {v : V}, Reps K H ds vs → Rep K H d v → Reps K H (ds.set j d) (vs.set j v)
  | [], vs, j, d, v, h, g => by unfold Reps at h; subst h; exact Reps.nil
  | x :: ds, vs, 0, d, v, h, g => by
    unfold Reps at h
    obtain ⟨w, r, rfl, h2, h3⟩ := h
    exact Reps.cons g h3
  | x :: ds, vs, j + 1, d, v, h, g => by
    unfold Reps at h
    obtain ⟨w, r, rfl, h2, h3⟩ := h
    exact Reps.cons h2 (Reps.set h3 g)
theorem Reps.inv {d : D} {ds : List D} {v : V} {vs : List V} (h : Reps K H (d :: ds) (v :: vs)) : Rep K H d v ∧ Reps K H ds vs := by
  unfold Reps at h
  obtain ⟨v', r, e, h2, h3⟩ := h
  cases e
  exact ⟨h2, h3⟩
theorem Reps.ints : ∀ ns : List Int, Reps K H (ns.map .int) (ns.map V.int)
  | [] => Reps.nil
  | n :: ns => Reps.cons (by unfold Rep; rfl) (Reps.ints ns)
-- as the layer's own data
mutual
theorem Rep.dp {k : Nat} : ∀ {d : D} {v : V}, Rep K H d v → d.plain k = true → Dp K H v d.toP
  | .non, v, h, _ => by unfold Rep at h; subst h; unfold D.toP; exact .non
  | .bl b, v, h, _ => by unfold Rep at h; subst h; unfold D.toP; exact .bl b
  | .int b, v, h, _ => by unfold Rep at h; subst h; unfold D.toP; exact .int b
  | .str b, v, h, _ => by unfold Rep at h; subst h; unfold D.toP; exact .str b
  | .tup ds, v, h, hi => by
    unfold Rep at h
    obtain ⟨a, vs, rfl, h2, h3⟩ := h
    unfold D.toP
    match k, hi with
    | k + 1, hi =>
      unfold D.plain at hi
      exact .tup h2 (Reps.dp h3 hi)
  | .lst ds, v, h, hi => by
    unfold Rep at h
    obtain ⟨a, vs, rfl, h2, h3⟩ := h
    unfold D.toP
    match k, hi with
    | k + 1, hi =>
      unfold D.plain at hi
      exact .lst h2 (Reps.dp h3 hi)
  | .dict _ _, v, h, hi => by unfold D.plain at hi; cases hi
  | .obj _ _ _, v, h, hi => by unfold Rep at h; exact h.elim
theorem Reps.dp {k : Nat} : ∀ {ds : List D} {vs : List V}, Reps K H ds vs → D.plains k ds = true → DpAll K H vs (D.toPs ds)
  | [], vs, h, _ => by unfold Reps at h; subst h; unfold D.toPs; exact .nil
  | d :: ds, vs, h, hi => by
    unfold Reps at h
    obtain ⟨v, r, rfl, h2, h3⟩ := h
    unfold D.toPs
    unfold D.plains at hi
    rw [Bool.and_eq_true] at hi
    exact .cons (Rep.dp h2 hi.1) (Reps.dp h3 hi.2)
end
end
mutual
theorem plain_lay : ∀ {k : Nat} {d : D}, d.plain k = true → d.toP.canLay0 = true ∧ d.toP.depth ≤ k
  | k, .non, h => by simp [D.toP, PyData.canLay0, PyData.depth]
  | k, .bl _, h => by simp [D.toP, PyData.canLay0, PyData.depth]
  | k, .int _, h => by simp [D.toP, PyData.canLay0, PyData.depth]
  | k, .str x, h => by
    unfold D.plain at h
    simp [D.toP, PyData.canLay0, PyData.depth, h]
  | 0, .tup _, h => by unfold D.plain at h; cases h
  | k + 1, .tup ds, h => by
    unfold D.plain at h
    have q := plains_lay h
    simp only [D.toP, PyData.canLay0, PyData.depth]
    exact ⟨q.1, by omega⟩
  | 0, .lst _, h => by unfold D.plain at h; cases h
  | k + 1, .lst ds, h => by
    unfold D.plain at h
    have q := plains_lay h
    simp only [D.toP, PyData.canLay0, PyData.depth]
    exact ⟨q.1, by omega⟩
  | k, .dict _ _, h => by unfold D.plain at h; cases h
  | k, .obj _ _ _, h => by unfold D.plain at h; cases h
theorem plains_lay : ∀ {k : Nat} {ds : List D}, D.plains k ds = true → PyData.canLayAll0 (D.toPs ds) = true ∧ PyData.depthAll (D.toPs ds) ≤ k
  | k, [], h => by simp [D.toPs, PyData.canLayAll0, PyData.depthAll]
  | k, d :: ds, h => by
    unfold D.plains at h
    rw [Bool.and_eq_true] at h
    have q1 := plain_lay h.1
    have q2 := plains_lay h.2
    simp only [D.toPs, PyData.canLayAll0, PyData.depthAll, q1.1, q2.1, Bool.and_self, true_and]
    omega
end
theorem plain_shaped {d : D} (h : d.plain 64 = true) : SeqAt.shaped d.toP = true := by
  have q := plain_lay h
  unfold SeqAt.shaped
  rw [q.1, decide_eq_true q.2]
  rfl
end Dl

/-! DlOk: which written code a core term stands for (okE), what a reading is (tE), what it leans on. -/
namespace Dl
open PySem PySem.Spec PyProof.Rows L2

variable [Tbs]
/-- hidden addresses: things that may be changed; the tables of code -/
structure SOk (H : Hp) (S : List Addr) : Prop where
  mu : ∀ a ∈ S, Mut (H a)
  tb : LamX.Tabs Tbs.T H
theorem SOk.mono {H H' : Hp} {S : List Addr} (h : SOk H S) (e : Sm H H') : SOk H' S := ⟨fun a ha => by
  have q := h.mu a ha
  cases z : H a with
  | none => rw [z] at q; exact q.elim
  | some o =>
    rw [z] at q
    rw [e.w.at_ a o z (by cases o <;> first | trivial | exact q.elim)]; exact q, e.tb h.tb⟩
theorem SOk.tup {H : Hp} {S : List Addr} (h : SOk H S) {a : Addr} {xs : List V} (r : Rd H a (.tup xs)) : a ∉ S := fun ha => by
  have q := h.mu a ha
  rcases r with r | ⟨o, r⟩ <;> (rw [r] at q; exact q)
theorem SOk.new {H : Hp} {S : List Addr} (h : SOk H S) {a : Addr} (r : H a = none) : a ∉ S := fun ha => by
  have q := h.mu a ha
  rw [r] at q; exact q
theorem SOk.nil {H : Hp} (h : LamX.Tabs Tbs.T H) : SOk H [] := ⟨fun a ha => (by cases ha), h⟩
theorem SOk.cons {H : Hp} {S : List Addr} (h : SOk H S) {a : Addr} (ha : Mut (H a)) : SOk H (a :: S) := ⟨fun b hb => by
  rcases List.mem_cons.mp hb with rfl | hb
  · exact ha
  · exact h.mu b hb, h.tb⟩
/-- a new object beside what is hidden -/
theorem hide_upd {H : Hp} {S : List Addr} {a : Addr} {o : HO} (h : a ∉ S) : hide (upd H a o) S = upd (hide H S) a o := by
  funext b
  unfold hide upd
  by_cases hb : b = a
  · subst hb; simp [h]
  · simp [hb]
theorem same_new {H : Hp} {a : Addr} {o : HO} (h : H a = none) : Sm H (upd H a o) := Sm.of fun b x e => by
  rw [upd_ne (ne_of_none e h)]; exact e
theorem hide_upd_in {H : Hp} {S : List Addr} {a : Addr} {o : HO} (h : a ∈ S) : hide (upd H a o) S = hide H S := by
  funext b
  unfold hide upd
  by_cases hb : b = a
  · subst hb; simp [h]
  · simp [hb]
theorem hide_cons_upd {H : Hp} {S : List Addr} {a : Addr} {o : HO} (h : H a = none) : hide (upd H a o) (a :: S) = hide H S := by
  funext b
  unfold hide upd
  by_cases hb : b = a
  · subst hb; simp [h]
  · simp [hb]

theorem Sm.low {H H' : Hp} {S : List Addr} {a : Addr} (sm : Sm H H') (hn : H a = none) : Same (Dl.hide H S) (Dl.hide H' (a :: S)) := ⟨fun b o q n => by
  by_cases hb : b ∈ S
  · rw [hide_in hb] at q; cases q
  · rw [hide_out hb] at q
    have hne : b ≠ a := ne_of_none q hn
    rw [hide_out (by simp [hb, hne])]
    exact sm.w.at_ b o q n, fun b q => by
  by_cases hb : b ∈ S
  · exact hide_in hb
  · rw [hide_out hb]
    by_cases hba : b = a
    · rw [hba]; exact hn
    · rw [hide_out (by simp [hb, hba])] at q
      exact sm.w.fr_ b q⟩
theorem tabs_upd {H : Hp} (ht : LamX.Tabs Tbs.T H) {a : Addr} {o o' : HO} (h : H a = some o) (n : ntb o) (nc : ∀ q, o ≠ LamX.CodeO a q) : LamX.Tabs Tbs.T (upd H a o') := fun p hp => by
  obtain ⟨ps, h1, h2, h3⟩ := ht p hp
  have n1 : p.1 ≠ a := fun z => by
    rw [z, h] at h1
    cases h1
    exact n
  refine ⟨ps, by rw [upd_ne n1]; exact h1, h2, fun pos cv hc => ?_⟩
  obtain ⟨c, e1, e2⟩ := h3 pos cv hc
  have n2 : c ≠ a := fun z => by
    rw [z, h] at e2
    rw [Option.some.inj e2] at nc
    exact nc p.2 rfl
  exact ⟨c, e1, by rw [upd_ne n2]; exact e2⟩
theorem SOk.upd {H : Hp} {S : List Addr} (hS : SOk H S) {a : Addr} {o o' : HO} (ha : a ∉ S) (h : H a = some o) (n : ntb o) (nc : ∀ q, o ≠ LamX.CodeO a q) : SOk (L2.upd H a o') S := ⟨fun b hb => by
  have hne : b ≠ a := fun z => ha (z ▸ hb)
  rw [upd_ne hne]
  exact hS.mu b hb, tabs_upd hS.tb h n nc⟩
/-- the slots hold the data (but those at hid) -/
structure EV (K : PySem.W.Frag) (S : List Addr) (hid : List Nat) (H : Hp) (σ : L2.St) (ρ : DEnv) : Prop where
  len : σ.length = ρ.length
  rep : ∀ (i : Nat) (d : D), ρ[i]? = some (some d) → i ∉ hid → ∃ v, σ[i]? = some (some v) ∧ Rep K (hide H S) d v
theorem EV.mono {K : PySem.W.Frag} {S : List Addr} {hid : List Nat} {H H' : Hp} {σ : L2.St} {ρ : DEnv} (h : EV K S hid H σ ρ) (e : Sm H H') : EV K S hid H' σ ρ := ⟨h.len, fun i d h1 h2 => by
  obtain ⟨v, q1, q2⟩ := h.rep i d h1 h2
  exact ⟨v, q1, q2.mono e.hide⟩⟩
/-- what a container holds, told by its object o at a -/
def CRep (K : PySem.W.Frag) (H : Hp) (a : Addr) (d : D) (o : HO) : Prop := match d with
  | .lst ds => ∃ vs, o = .lst vs ∧ Reps K H ds vs
  | .dict ks vs => ∃ kas vvs, o = DicO a kas vvs ∧ kas.map (·.1) = toNs ks ∧ keysB 8 ks = true ∧ Reps K H ks (kas.map fun p => .ref p.2) ∧ Reps K H vs vvs
  | _ => False
theorem CRep.mono {K : PySem.W.Frag} {H H' : Hp} {a : Addr} {d : D} {o : HO} (e : Same H H') (h : CRep K H a d o) : CRep K H' a d o := by
  cases d with
  | lst ds => obtain ⟨vs, h1, h2⟩ := h; exact ⟨vs, h1, h2.mono e⟩
  | dict ks vs => obtain ⟨kas, vvs, h1, h2, h3, h4, h5⟩ := h; exact ⟨kas, vvs, h1, h2, h3, h4.mono e, h5.mono e⟩
  | _ => exact h.elim
theorem CRep.mut {K : PySem.W.Frag} {H : Hp} {a : Addr} {d : D} {o : HO} (h : CRep K H a d o) : Mut (some o) := by
  cases d with
  | lst ds => obtain ⟨vs, rfl, h2⟩ := h; trivial
  | dict ks vs => obtain ⟨kas, vvs, rfl, h2, h3, h4, h5⟩ := h; trivial
  | _ => exact h.elim
theorem CRep.ntb {K : PySem.W.Frag} {H : Hp} {a : Addr} {d : D} {o : HO} (h : CRep K H a d o) : ntb o := by
  cases d with
  | lst ds => obtain ⟨vs, rfl, h2⟩ := h; trivial
  | dict ks vs => obtain ⟨kas, vvs, rfl, h2, h3, h4, h5⟩ := h; trivial
  | _ => exact h.elim
theorem CRep.nc {K : PySem.W.Frag} {H : Hp} {a : Addr} {d : D} {o : HO} (h : CRep K H a d o) : ∀ q, o ≠ LamX.CodeO a q := by
  cases d with
  | lst ds => obtain ⟨vs, rfl, h2⟩ := h; exact fun q => code_ne fun φ z => by cases z
  | dict ks vs => obtain ⟨kas, vvs, rfl, h2, h3, h4, h5⟩ := h; exact fun q => dico_code
  | _ => exact h.elim
theorem CRep.cont {K : PySem.W.Frag} {H : Hp} {a : Addr} {d : D} {o : HO} (h : CRep K H a d o) : d.cont = true := by
  cases d with
  | lst ds => rfl
  | dict ks vs => rfl
  | _ => exact h.elim
theorem CRep.rep {K : PySem.W.Frag} {H : Hp} {a : Addr} {d : D} {o : HO} (e : H a = some o) (h : CRep K H a d o) : Rep K H d (.ref a) := by
  cases d with
  | lst ds =>
    obtain ⟨vs, rfl, h2⟩ := h
    unfold Rep
    exact ⟨a, vs, rfl, .inl (.inl e), h2⟩
  | dict ks vs =>
    obtain ⟨kas, vvs, rfl, h2, h3, h4, h5⟩ := h
    unfold Rep
    exact ⟨a, kas, vvs, rfl, e, h2, h3, h4, h5⟩
  | _ => exact h.elim
/-- a new container at its own place -/
def TopC (K : PySem.W.Frag) (H : Hp) (S : List Addr) (d : D) (v : V) (H' : Hp) : Prop := ∃ a o, v = .ref a ∧ H a = none ∧ H' a = some o ∧ CRep K (hide H' (a :: S)) a d o
def Top (K : PySem.W.Frag) (H : Hp) (S : List Addr) (d : D) (v : V) (H' : Hp) : Prop := match d with
  | .lst ds => TopC K H S (.lst ds) v H'
  | .dict ks vs => TopC K H S (.dict ks vs) v H'
  | .obj c ns vs => TopC K H S (.obj c ns vs) v H'
  | _ => True
theorem Top.of {K : PySem.W.Frag} {H : Hp} {S : List Addr} {d : D} {v : V} {H' : Hp} (h : d.cont = true → TopC K H S d v H') : Top K H S d v H' := by
  cases d <;> first | trivial | exact h rfl
theorem Top.c {K : PySem.W.Frag} {H : Hp} {S : List Addr} {d : D} {v : V} {H' : Hp} (h : Top K H S d v H') (hc : d.cont = true) : TopC K H S d v H' := by
  cases d <;> first | exact h | cases hc
theorem TopC.frame {K : PySem.W.Frag} {H H1 : Hp} {S : List Addr} {d : D} {v : V} {H' : Hp} (sm : Sm H H1) (h : TopC K H1 S d v H') : TopC K H S d v H' := by
  obtain ⟨a, o, e1, e2, e3, e4⟩ := h
  exact ⟨a, o, e1, sm.free e2, e3, e4⟩
/-- behind an expression -/
structure Post (K : PySem.W.Frag) (H : Hp) (S : List Addr) (fr : Bool) (d : D) (v : V) (H' : Hp) : Prop where
  same : Sm H H'
  rep : Rep K (hide H' S) d v
  top : fr = true → Top K H S d v H'
/-- an exception as it lies -/
def XRep (K : PySem.W.Frag) (mg : Str → Option Value) (x : Xn) (cls : Value) (dd : Option Addr) : Prop := ∃ C, mg x.c = some (.ref C) ∧ cls = .ref C ∧ x.fs = [] ∧ dd = none
/-- a reading from data -/
def tW (K : PySem.W.Frag) (mg : Str → Option Value) (W : WX) (hid : List Nat) (F : DEnv → (D → Prop) → (Xn → Prop) → Prop) (fr : Bool) : TE := fun σ H Q =>
  ∃ S ρ, SOk H S ∧ EV K S hid H σ ρ ∧ F ρ (fun d => ∀ v H', Post K H S fr d v H' → Q v H') (fun x => ∀ cls dd H', Sm H H' → XRep K mg x cls dd → W cls dd σ H')
abbrev tE (K : PySem.W.Frag) (mg : Str → Option Value) (W : WX) (hid : List Nat) (e : CE) : TE := tW K mg W hid (wpE e) e.fresh
/-- a list of values -/
def tL (K : PySem.W.Frag) (mg : Str → Option Value) (W : WX) (hid : List Nat) (es : List CE) : TA := fun σ H Q =>
  ∃ S ρ, SOk H S ∧ EV K S hid H σ ρ ∧ wpEs es ρ (fun ds => ∀ vs H', Sm H H' → Reps K (hide H' S) ds vs → Q vs H') (fun x => ∀ cls dd H', Sm H H' → XRep K mg x cls dd → W cls dd σ H')
/-- a test -/
def tTe (K : PySem.W.Frag) (mg : Str → Option Value) (W : WX) (hid : List Nat) (e : CE) : TT := fun σ H Q =>
  ∃ S ρ, SOk H S ∧ EV K S hid H σ ρ ∧ wpT e ρ (fun k => ∀ H', Sm H H' → Q k H') (fun x => ∀ cls dd H', Sm H H' → XRep K mg x cls dd → W cls dd σ H')

/-! ### what is leaned on -/
def spOf (K : PySem.W.Frag) (mg : Str → Option Value) (sp : Spec) (n : Nat) : Sp := fun vs H Q E => vs.length = n ∧ ∃ S ds, SOk H S ∧ Reps K (hide H S) ds vs ∧
  sp.run ds (fun d => ∀ v H', Post K H S true d v H' → Q v H') (fun x => ∀ cls dd H', Sm H H' → XRep K mg x cls dd → E cls dd H')
/-- f, called with n values, keeps sp -/
def FnC (P : Program) (w : World) (K : PySem.W.Frag) (mg : Str → Option Value) (base : Heap) (k : Nat) (f : Str) (n : Nat) (sp : Spec) : Prop :=
  ∃ (a : Addr) (fd : FuncData) (ps : List Str) (dvs : List V) (ds : List Value) (dds : List D) (sp' : Spec),
    mg f = some (.ref a) ∧ PySem.W.keepIn K (.ref a) = true ∧ Binds K fd ps ds ∧ Vals dvs ds ∧ (∀ H, Reps K H dds dvs) ∧
    FnOk P w K mg base (L2.CX P w) k a fd ps (spOf K mg sp' ps.length) ∧ ps.length = n + dds.length ∧ ∀ xs Q E, xs.length = n → sp.run xs Q E → sp'.run (xs ++ dds) Q E
/-- the module's name x holds the data d -/
def GlC (K : PySem.W.Frag) (mg : Str → Option Value) (x : Str) (d : D) : Prop := ∃ u v, mg x = some u ∧ RelV v u ∧ ∀ H, Rep K H d v
/-- what a lambda leans on: it may be laid; the defs called within -/
structure Lm where
  ok : Prop
  F : Str → Nat → Spec → Prop
mutual
def CE.needs (F : Str → Nat → Spec → Prop) (G : Str → D → Prop) (L : Lm) : CE → Prop
  | .glob x d => G x d
  | .bin _ a b => a.needs F G L ∧ b.needs F G L
  | .cat a b => a.needs F G L ∧ b.needs F G L
  | .neg a => a.needs F G L
  | .not a => a.needs F G L
  | .cmp _ a b => a.needs F G L ∧ b.needs F G L
  | .chain _ _ a b c => a.needs F G L ∧ b.needs F G L ∧ c.needs F G L
  | .isN _ a => a.needs F G L
  | .mem _ a b => a.needs F G L ∧ b.needs F G L
  | .and es => CE.needsL F G L es
  | .or es => CE.needsL F G L es
  | .ife c a b => c.needs F G L ∧ a.needs F G L ∧ b.needs F G L
  | .tup es => CE.needsL F G L es
  | .lst es => CE.needsL F G L es
  | .ix a i => a.needs F G L ∧ i.needs F G L
  | .sl a l h => a.needs F G L ∧ l.needs F G L ∧ h.needs F G L
  | .call f sp es => F f es.length sp ∧ CE.needsL F G L es
  | .blt _ es => CE.needsL F G L es
  | .isi a _ => a.needs F G L
  | .lc _ it ifs elt => it.needs F G L ∧ CE.needsL F G L ifs ∧ elt.needs F G L
  | .lc2 _ it _ it2 ifs elt => it.needs F G L ∧ it2.needs F G L ∧ CE.needsL F G L ifs ∧ elt.needs F G L
  | .rng es => CE.needsL F G L es
  | .enm a => a.needs F G L
  | .zip a b => a.needs F G L ∧ b.needs F G L
  | .dct1 a b => a.needs F G L ∧ b.needs F G L
  | .sortk _ it key => L.ok ∧ it.needs F G L ∧ key.needs L.F G ⟨False, L.F⟩
  | _ => True
def CE.needsL (F : Str → Nat → Spec → Prop) (G : Str → D → Prop) (L : Lm) : List CE → Prop
  | [] => True
  | e :: es => e.needs F G L ∧ CE.needsL F G L es
end
-- without lambdas: whatever they may lean on
mutual
theorem CE.needs_nl {F LF : Str → Nat → Spec → Prop} {G : Str → D → Prop} {L' : Lm} : ∀ (c : CE), c.needs F G ⟨False, LF⟩ → c.needs F G L'
  | .glob x d, h => by unfold CE.needs at *; exact h
  | .bin _ a b, h => by unfold CE.needs at *; exact ⟨CE.needs_nl a h.1, CE.needs_nl b h.2⟩
  | .cat a b, h => by unfold CE.needs at *; exact ⟨CE.needs_nl a h.1, CE.needs_nl b h.2⟩
  | .neg a, h => by unfold CE.needs at *; exact CE.needs_nl a h
  | .not a, h => by unfold CE.needs at *; exact CE.needs_nl a h
  | .cmp _ a b, h => by unfold CE.needs at *; exact ⟨CE.needs_nl a h.1, CE.needs_nl b h.2⟩
  | .chain _ _ a b c, h => by unfold CE.needs at *; exact ⟨CE.needs_nl a h.1, CE.needs_nl b h.2.1, CE.needs_nl c h.2.2⟩
  | .isN _ a, h => by unfold CE.needs at *; exact CE.needs_nl a h
  | .mem _ a b, h => by unfold CE.needs at *; exact ⟨CE.needs_nl a h.1, CE.needs_nl b h.2⟩
  | .and es, h => by unfold CE.needs at *; exact CE.needsL_nl es h
  | .or es, h => by unfold CE.needs at *; exact CE.needsL_nl es h
  | .ife c a b, h => by unfold CE.needs at *; exact ⟨CE.needs_nl c h.1, CE.needs_nl a h.2.1, CE.needs_nl b h.2.2⟩
  | .tup es, h => by unfold CE.needs at *; exact CE.needsL_nl es h
  | .lst es, h => by unfold CE.needs at *; exact CE.needsL_nl es h
  | .ix a i, h => by unfold CE.needs at *; exact ⟨CE.needs_nl a h.1, CE.needs_nl i h.2⟩
  | .sl a l u, h => by unfold CE.needs at *; exact ⟨CE.needs_nl a h.1, CE.needs_nl l h.2.1, CE.needs_nl u h.2.2⟩
  | .call f sp es, h => by unfold CE.needs at *; exact ⟨h.1, CE.needsL_nl es h.2⟩
  | .blt _ es, h => by unfold CE.needs at *; exact CE.needsL_nl es h
  | .isi a _, h => by unfold CE.needs at *; exact CE.needs_nl a h
  | .lc _ it ifs elt, h => by unfold CE.needs at *; exact ⟨CE.needs_nl it h.1, CE.needsL_nl ifs h.2.1, CE.needs_nl elt h.2.2⟩
  | .lc2 _ it _ it2 ifs elt, h => by unfold CE.needs at *; exact ⟨CE.needs_nl it h.1, CE.needs_nl it2 h.2.1, CE.needsL_nl ifs h.2.2.1, CE.needs_nl elt h.2.2.2⟩
  | .rng es, h => by unfold CE.needs at *; exact CE.needsL_nl es h
  | .enm a, h => by unfold CE.needs at *; exact CE.needs_nl a h
  | .zip a b, h => by unfold CE.needs at *; exact ⟨CE.needs_nl a h.1, CE.needs_nl b h.2⟩
  | .dct1 a b, h => by unfold CE.needs at *; exact ⟨CE.needs_nl a h.1, CE.needs_nl b h.2⟩
  | .sortk _ it key, h => by unfold CE.needs at h; exact h.1.elim
  | .var _, h => by unfold CE.needs; trivial
  | .int _, h => by unfold CE.needs; trivial
  | .bl _, h => by unfold CE.needs; trivial
  | .non, h => by unfold CE.needs; trivial
  | .str _, h => by unfold CE.needs; trivial
  | .nop, h => by unfold CE.needs; trivial
  | .dct0, h => by unfold CE.needs; trivial
theorem CE.needsL_nl {F LF : Str → Nat → Spec → Prop} {G : Str → D → Prop} {L' : Lm} : ∀ (cs : List CE), CE.needsL F G ⟨False, LF⟩ cs → CE.needsL F G L' cs
  | [], h => by unfold CE.needsL; trivial
  | c :: cs, h => by unfold CE.needsL at *; exact ⟨CE.needs_nl c h.1, CE.needsL_nl cs h.2⟩
end

/-! ### which written code -/
def boOp : BO → Operator
  | .add => .Add | .sub => .Sub | .mul => .Mult | .fdiv => .FloorDiv | .mod => .Mod | .pow => .Pow
def coOp : CO → CmpOp
  | .lt => .Lt | .le => .LtE | .gt => .Gt | .ge => .GtE | .eq => .Eq | .ne => .NotEq
def bfN : BF → Str
  | .len => "len" | .abs => "abs" | .int_ => "int" | .list_ => "list" | .tuple_ => "tuple" | .any_ => "any" | .all_ => "all" | .sum_ => "sum" | .max2 => "max" | .min2 => "min" | .bool_ => "bool" | .sorted_ => "sorted" | .maxl => "max"
def tyN : TY → Str
  | .tup => "tuple" | .lst => "list" | .int => "int" | .bl => "bool" | .str => "str" | .cls c => c
/-- a name of the def's own -/
def visB (sc : Scope) (x : Str) : Bool := match sc.names.lookup x with
  | some .local => true
  | some .cell => true
  | some .free => true
  | _ => false
def locB (sc : Scope) (x : Str) : Bool := match sc.names.lookup x with
  | some .local => true
  | some .cell => true
  | _ => false
def gloB (sc : Scope) (x : Str) : Bool := (match sc.names.lookup x with
  | some .globalImplicit => true
  | _ => false) && !(x == ("__debug__" : Str)) && !(x == ("__name__" : Str))
/-- a lambda of one parameter x, no names of its own beside -/
def lamP (x : Str) (p : Arguments) : Bool := match p with
  | ⟨[], [⟨y, none, _⟩], none, [], [], none, []⟩ => decide (x = y)
  | _ => false
def lam1B (sc scope : Scope) (x : Str) : Bool :=
  decide (scope.kind = .function) && !scope.isCoroutine && !scope.isGenerator && decide (scope.names.lookup x = some .local) && scope.names.all fun y => !decide (y.2 = .cell) && (!decide (y.2 = .local) || decide (y.1 = x)) && (!decide (y.2 = .free) || (!decide (y.1 = x) && (decide (sc.names.lookup y.1 = some .cell) || decide (sc.names.lookup y.1 = some .free))))
-- targets
mutual
def okT (N : List Str) (sc : Scope) (fnB : Str → Bool) : CT → Expr → Bool
  | .nm i, e => (match e with
    | .Name x _ => decide (N[i]? = some x) && locB sc x && fnB x
    | _ => false)
  | .tp ts, e => (match e with
    | .Tuple es _ _ => okTs N sc fnB ts es
    | _ => false)
def okTs (N : List Str) (sc : Scope) (fnB : Str → Bool) : List CT → List Expr → Bool
  | [], es => es.isEmpty
  | t :: ts, es => (match es with
    | e :: es => okT N sc fnB t e && okTs N sc fnB ts es
    | [] => false)
end
/-- the scope of a comprehension's block, as it runs -/
def ownOf (N : List Str) (t : CT) : List (Str × Nat) := t.slots.filterMap fun i => (N[i]?).map fun x => (x, i)
mutual
def okE (N : List Str) (sc : Scope) (cm : Bool) (hid : List Nat) : CE → Expr → Bool
  | .var i, e => (match e with
    | .Name x _ => decide (N[i]? = some x) && visB sc x && !hid.contains i && !(x == ("__debug__" : Str)) && !(x == ("__classdict__" : Str))
    | _ => false)
  | .int i, e => (match e with | .Constant (.int j) _ _ => decide (i = j) | _ => false)
  | .bl b, e => (match e with | .Constant (.bool c) _ _ => b == c | _ => false)
  | .non, e => (match e with | .Constant .none _ _ => true | _ => false)
  | .str x, e => (match e with | .Constant (.str y) _ _ => decide (x = y) | _ => false)
  | .glob x _, e => (match e with | .Name y _ => decide (x = y) && gloB sc x | _ => false)
  | .bin o a b, e => (match e with | .BinOp l op r _ => decide (boOp o = op) && (okE N sc cm hid a l && okE N sc cm hid b r) | _ => false)
  | .cat a b, e => (match e with | .BinOp l op r _ => decide (Operator.Add = op) && (okE N sc cm hid a l && okE N sc cm hid b r) | _ => false)
  | .neg a, e => (match e with | .UnaryOp .USub x _ => okE N sc cm hid a x | _ => false)
  | .not a, e => (match e with | .UnaryOp .Not x _ => okE N sc cm hid a x | _ => false)
  | .cmp o a b, e => (match e with | .Compare l [op] [r] _ => decide (coOp o = op) && (okE N sc cm hid a l && okE N sc cm hid b r) | _ => false)
  | .chain o o' a b c, e => (match e with | .Compare l [op, op'] [r, r'] _ => decide (coOp o = op) && decide (coOp o' = op') && (okE N sc cm hid a l && (okE N sc cm hid b r && okE N sc cm hid c r')) | _ => false)
  | .isN ng a, e => (match e with | .Compare l [op] [.Constant .none _ _] _ => decide (op = if ng = true then CmpOp.IsNot else CmpOp.Is) && okE N sc cm hid a l | _ => false)
  | .mem ng a b, e => (match e with | .Compare l [op] [r] _ => decide (op = if ng = true then CmpOp.NotIn else CmpOp.In) && (okE N sc cm hid a l && okE N sc cm hid b r) | _ => false)
  | .and es, e => (match e with | .BoolOp .And vs _ => !vs.isEmpty && okEs N sc cm hid es vs | _ => false)
  | .or es, e => (match e with | .BoolOp .Or vs _ => !vs.isEmpty && okEs N sc cm hid es vs | _ => false)
  | .ife c a b, e => (match e with | .IfExp c' a' b' _ => okE N sc cm hid c c' && (okE N sc cm hid a a' && okE N sc cm hid b b') | _ => false)
  | .tup es, e => (match e with | .Tuple vs _ _ => okEs N sc cm hid es vs | _ => false)
  | .lst es, e => (match e with | .List vs _ => okEs N sc cm hid es vs | _ => false)
  | .ix a i, e => (match e with | .Subscript x s _ => okE N sc cm hid a x && okE N sc cm hid i s | _ => false)
  | .sl a l h, e => (match e with
    | .Subscript x (.Slice lo hi none _) _ => okE N sc cm hid a x && (match lo with | some lo => !l.isNop && okE N sc cm hid l lo | none => l.isNop) &&
        (match hi with | some hi => !h.isNop && okE N sc cm hid h hi | none => h.isNop)
    | _ => false)
  | .nop, _ => false
  | .call f _ es, e => (match e with | .Call (.Name x _) vs [] _ => cm && decide (f = x) && gloB sc x && true && okEs N sc cm hid es vs | _ => false)
  | .blt f es, e => (match e with | .Call (.Name x _) vs [] _ => cm && decide (bfN f = x) && gloB sc x && !vs.isEmpty && okEs N sc cm hid es vs | _ => false)
  | .isi a t, e => (match e with | .Call (.Name x _) [v, .Name y _] [] _ => decide (x = ("isinstance" : Str)) && gloB sc x && decide (tyN t = y) && gloB sc y && okE N sc cm hid a v && (match t with | .cls _ => false | _ => true) | _ => false)
  | .lc t it ifs elt, e => (match e with
    | .ListComp el [⟨tg, iter, fs, 0⟩] scope _ => cm && okI N sc cm hid it iter && blkC N sc scope (ownOf N t) && decide (t.slots.all fun i => !hid.contains i) && okT N (relS scope sc) (locB scope) t tg && decide (fs.length ≤ 1) &&
        okEs N (relS scope sc) cm hid ifs fs && okE N (relS scope sc) cm hid elt el
    | _ => false)
  | .lc2 t it t2 it2 ifs elt, e => (match e with
    | .ListComp el [⟨tg, iter, [], 0⟩, ⟨tg2, iter2, fs, 0⟩] scope _ => cm && okI N sc cm hid it iter && blkC N sc scope (ownOf N t ++ ownOf N t2) && decide ((t.slots ++ t2.slots).all fun i => !hid.contains i) && okT N (relS scope sc) (locB scope) t tg && okT N (relS scope sc) (locB scope) t2 tg2 &&
        okI N (relS scope sc) cm hid it2 iter2 && decide (fs.length ≤ 1) && okEs N (relS scope sc) cm hid ifs fs && okE N (relS scope sc) cm hid elt el
    | _ => false)
  | .rng _, _ => false
  | .enm _, _ => false
  | .zip _ _, _ => false
  | .dct0, e => (match e with | .Dict [] [] _ => true | _ => false)
  | .dct1 k v, e => (match e with | .Dict [some ke] [ve] _ => cm && (okE N sc cm hid k ke && okE N sc cm hid v ve) | _ => false)
  | .sortk i it key, e => (match e with
    | .Call (.Name x _) [a] [⟨some kw, .Lambda ps body scope _, _⟩] _ => cm && decide (x = ("sorted" : Str)) && gloB sc x && decide (kw = ("key" : Str)) && decide (i < N.length) && !hid.contains i && lamP (N.getD i "") ps && lam1B sc scope (N.getD i "") && (okE N sc cm hid it a && okE N scope cm hid key body)
    | _ => false)
def okEs (N : List Str) (sc : Scope) (cm : Bool) (hid : List Nat) : List CE → List Expr → Bool
  | [], es => es.isEmpty
  | c :: cs, es => (match es with
    | e :: es => okE N sc cm hid c e && okEs N sc cm hid cs es
    | [] => false)
/-- what is walked -/
def okI (N : List Str) (sc : Scope) (cm : Bool) (hid : List Nat) : CE → Expr → Bool
  | .rng es, e => (match e with | .Call (.Name x _) vs [] _ => cm && decide (x = ("range" : Str)) && gloB sc x && (!vs.isEmpty && decide (vs.length ≤ 2)) && okEs N sc cm hid es vs | _ => false)
  | c, e => okE N sc cm hid c e
end
end Dl

/-! DlDict: dicts whose keys are tuples of ints and such tuples. -/
namespace Dl
open PySem PySem.Spec PyProof.Rows L2
/-! ### keys -/
mutual
theorem keyB_depth : ∀ {n : Nat} {d : D}, keyB n d = true → (toN d).depth ≤ n
  | n, .int i, h => by simp [toN, NestedKey.depth]
  | 0, .tup ds, h => by simp [keyB] at h
  | n + 1, .tup ds, h => by
    simp only [keyB] at h
    simp only [toN, NestedKey.depth]
    have := keysB_depth h
    omega
  | n, .non, h => by simp [keyB] at h
  | n, .bl _, h => by simp [keyB] at h
  | n, .str _, h => by simp [keyB] at h
  | n, .lst _, h => by simp [keyB] at h
  | n, .dict _ _, h => by simp [keyB] at h
  | n, .obj _ _ _, h => by simp [keyB] at h
theorem keysB_depth : ∀ {n : Nat} {ds : List D}, keysB n ds = true → NestedKey.depthAll (toNs ds) ≤ n
  | n, [], h => by simp [toNs, NestedKey.depthAll]
  | n, d :: ds, h => by
    simp only [keysB, Bool.and_eq_true] at h
    simp only [toNs, NestedKey.depthAll]
    have := keyB_depth h.1
    have := keysB_depth h.2
    omega
end
theorem isKey_B {d : D} (h : isKey d = true) : keyB 8 d = true := by
  cases d <;> first | exact h | cases h
theorem isKey_tup {d : D} (h : isKey d = true) : ∃ ds, d = .tup ds := by
  cases d <;> first | exact ⟨_, rfl⟩ | cases h
mutual
theorem toN_inj : ∀ {n : Nat} {d e : D}, keyB n d = true → keyB n e = true → toN d = toN e → d = e
  | n, .int i, .int j, h, g, q => by simpa [toN] using q
  | n, .int i, .tup ds, h, g, q => by simp [toN] at q
  | 0, .tup ds, e, h, g, q => by simp [keyB] at h
  | n + 1, .tup ds, .int i, h, g, q => by simp [toN] at q
  | n + 1, .tup ds, .tup es, h, g, q => by
    simp only [keyB] at h g
    simp only [toN, NestedKey.tup.injEq] at q
    rw [toNs_inj h g q]
  | n, .int i, .non, h, g, q => by simp [keyB] at g
  | n, .int i, .bl _, h, g, q => by simp [keyB] at g
  | n, .int i, .str _, h, g, q => by simp [keyB] at g
  | n, .int i, .lst _, h, g, q => by simp [keyB] at g
  | n, .int i, .dict _ _, h, g, q => by simp [keyB] at g
  | n, .int i, .obj _ _ _, h, g, q => by simp [keyB] at g
  | n + 1, .tup ds, .non, h, g, q => by simp [keyB] at g
  | n + 1, .tup ds, .bl _, h, g, q => by simp [keyB] at g
  | n + 1, .tup ds, .str _, h, g, q => by simp [keyB] at g
  | n + 1, .tup ds, .lst _, h, g, q => by simp [keyB] at g
  | n + 1, .tup ds, .dict _ _, h, g, q => by simp [keyB] at g
  | n + 1, .tup ds, .obj _ _ _, h, g, q => by simp [keyB] at g
  | n, .non, e, h, g, q => by simp [keyB] at h
  | n, .bl _, e, h, g, q => by simp [keyB] at h
  | n, .str _, e, h, g, q => by simp [keyB] at h
  | n, .lst _, e, h, g, q => by simp [keyB] at h
  | n, .dict _ _, e, h, g, q => by simp [keyB] at h
  | n, .obj _ _ _, e, h, g, q => by simp [keyB] at h
theorem toNs_inj : ∀ {n : Nat} {ds es : List D}, keysB n ds = true → keysB n es = true → toNs ds = toNs es → ds = es
  | n, [], [], h, g, q => rfl
  | n, [], _ :: _, h, g, q => by simp [toNs] at q
  | n, _ :: _, [], h, g, q => by simp [toNs] at q
  | n, d :: ds, e :: es, h, g, q => by
    simp only [keysB, Bool.and_eq_true] at h g
    simp only [toNs, List.cons.injEq] at q
    rw [toN_inj h.1 g.1 q.1, toNs_inj h.2 g.2 q.2]
end
mutual
theorem keyB_imm : ∀ {n : Nat} {d : D}, keyB n d = true → d.imm = true
  | n, .int i, h => rfl
  | 0, .tup ds, h => by simp [keyB] at h
  | n + 1, .tup ds, h => by
    simp only [keyB] at h
    simp only [D.imm, keysB_imm h]
  | n, .non, h => by simp [keyB] at h
  | n, .bl _, h => by simp [keyB] at h
  | n, .str _, h => by simp [keyB] at h
  | n, .lst _, h => by simp [keyB] at h
  | n, .dict _ _, h => by simp [keyB] at h
  | n, .obj _ _ _, h => by simp [keyB] at h
theorem keysB_imm : ∀ {n : Nat} {ds : List D}, keysB n ds = true → D.imms ds = true
  | n, [], h => rfl
  | n, d :: ds, h => by
    simp only [keysB, Bool.and_eq_true] at h
    simp only [D.imms, keyB_imm h.1, keysB_imm h.2, Bool.and_self]
end
variable [Tbs]
section
variable {X : Cx} {pins : List (Addr × Obj)} {s : Shared} {σ : L2.St} {H : Hp}
mutual
theorem rep_nested (I : Inv X pins σ H s) : ∀ {n : Nat} {d : D} {v : V} {u : Value}, Rep X.K H d v → RelV v u → keyB n d = true → NestedIs s.heap (toN d) u
  | n, .int i, v, u, h, r, ok => by
    unfold Rep at h
    subst h
    obtain ⟨t, rfl⟩ := r
    exact .int i t
  | 0, .tup ds, v, u, h, r, ok => by simp [keyB] at ok
  | n + 1, .tup ds, v, u, h, r, ok => by
    unfold Rep at h
    obtain ⟨a, vs, rfl, hs, hr⟩ := h
    obtain rfl : u = Value.ref a := r
    obtain ⟨its, rv, ⟨o, ho, hc, k, hd⟩, _⟩ := I.tuple hs
    simp only [keyB] at ok
    exact .tup ho hc hd (by simpa using reps_nested I hr rv ok)
  | n, .non, v, u, h, r, ok => by simp [keyB] at ok
  | n, .bl _, v, u, h, r, ok => by simp [keyB] at ok
  | n, .str _, v, u, h, r, ok => by simp [keyB] at ok
  | n, .lst _, v, u, h, r, ok => by simp [keyB] at ok
  | n, .dict _ _, v, u, h, r, ok => by simp [keyB] at ok
  | n, .obj _ _ _, v, u, h, r, ok => by simp [keyB] at ok
theorem reps_nested (I : Inv X pins σ H s) : ∀ {n : Nat} {ds : List D} {vs : List V} {us : List Value}, Reps X.K H ds vs → Vals vs us → keysB n ds = true → NestedAll s.heap (toNs ds) us
  | n, [], vs, us, h, r, ok => by
    unfold Reps at h
    subst h
    cases r
    exact .nil
  | n, d :: ds, vs, us, h, r, ok => by
    unfold Reps at h
    obtain ⟨v, vs', rfl, h1, h2⟩ := h
    simp only [keysB, Bool.and_eq_true] at ok
    cases r with
    | cons r1 r2 => exact .cons (rep_nested I h1 r1 ok.1) (reps_nested I h2 r2 ok.2)
end
/-- a key as the library's -/
theorem key_is (I : Inv X pins σ H s) {d : D} {v : V} (h : Rep X.K H d v) (ok : isKey d = true) : ∃ b, v = .ref b ∧ (nestedKind X.prog X.w).is s.heap (toN d) b := by
  obtain ⟨ds, rfl⟩ := isKey_tup ok
  have h' := h
  unfold Rep at h'
  obtain ⟨b, vs, rfl, _⟩ := h'
  exact ⟨b, rfl, rep_nested I h rfl (isKey_B ok), keyB_depth (isKey_B ok)⟩
/-! ### entries -/
def trip (kas : List (NestedKey × Addr)) (us : List Value) : List (NestedKey × Addr × Value) := (kas.zip us).map fun x => (x.1.1, x.1.2, x.2)
theorem trip_len {kas : List (NestedKey × Addr)} {us : List Value} (h : kas.length = us.length) : (trip kas us).length = kas.length := by
  unfold trip; simp [h]
theorem trip_keys {kas : List (NestedKey × Addr)} {us : List Value} (h : kas.length = us.length) : (trip kas us).map (·.1) = kas.map (·.1) := by
  unfold trip
  rw [List.map_map]
  have : ((fun x : NestedKey × Addr × Value => x.1) ∘ fun x : (NestedKey × Addr) × Value => (x.1.1, x.1.2, x.2)) = (fun p : NestedKey × Addr => p.1) ∘ Prod.fst := rfl
  rw [this, ← List.map_map, List.map_fst_zip (by omega)]
theorem keys_is (I : Inv X pins σ H s) : ∀ {ks : List D} {kas : List (NestedKey × Addr)}, Reps X.K H ks (kas.map fun p => .ref p.2) → kas.map (·.1) = toNs ks → keysB 8 ks = true → ∀ p ∈ kas, (nestedKind X.prog X.w).is s.heap p.1 p.2
  | [], kas, h, e, ok, p, m => by
    cases kas with
    | nil => cases m
    | cons _ _ => simp [toNs] at e
  | d :: ks, [], h, e, ok, p, m => by cases m
  | d :: ks, q :: kas, h, e, ok, p, m => by
    simp only [List.map_cons, toNs, List.cons.injEq] at e
    simp only [keysB, Bool.and_eq_true] at ok
    rw [List.map_cons] at h
    obtain ⟨h1, h2⟩ := Reps.inv h
    rcases List.mem_cons.mp m with rfl | m
    · rw [e.1]
      exact ⟨rep_nested I h1 rfl ok.1, keyB_depth ok.1⟩
    · exact keys_is I h2 e.2 ok.2 p m
theorem ent_eq {w : World} {P : Program} : ∀ {ks : List D} {kas : List (NestedKey × Addr)} {us : List Value}, kas.map (·.1) = toNs ks → keysB 8 ks = true →
    (kas.zip us).map (fun x => (⟨nhash x.1.1, .ref x.1.2, x.2⟩ : DictEntry)) = (trip kas us).map (entryOfKey (nestedKind P w))
  | [], kas, us, e, ok => by
    cases kas with
    | nil => rfl
    | cons _ _ => simp [toNs] at e
  | d :: ks, [], us, e, ok => rfl
  | d :: ks, q :: kas, [], e, ok => rfl
  | d :: ks, q :: kas, u :: us, e, ok => by
    simp only [List.map_cons, toNs, List.cons.injEq] at e
    simp only [keysB, Bool.and_eq_true] at ok
    have ih := ent_eq (w := w) (P := P) (us := us) e.2 ok.2
    unfold trip at ih ⊢
    simp only [List.zip_cons_cons, List.map_cons, List.cons.injEq]
    refine ⟨?_, ih⟩
    show (⟨nhash q.1, .ref q.2, u⟩ : DictEntry) = ⟨q.1.hash w, .ref q.2, u⟩
    rw [e.1, nhash_eq ok.1]
/-- a dict as the library's -/
theorem dic_of (I : Inv X pins σ H s) {a : Addr} {ks vs : List D} {kas : List (NestedKey × Addr)} {vvs : List V} {S : List Addr} (e : H a = some (DicO a kas vvs)) (hk : kas.map (·.1) = toNs ks) (ok : keysB 8 ks = true) (hr : Reps X.K (hide H S) ks (kas.map fun p => .ref p.2)) :
    ∃ us, Vals vvs us ∧ kas.length = us.length ∧ kas.length ≤ sizeLine ∧ (a == sysModules) = false ∧ s.heap.DictOfH (nestedKind X.prog X.w) a (trip kas us) := by
  obtain ⟨⟨us, o, es, ep, h1, h2, h3, h4, h5, h6, h7, h8, h9⟩, _, _⟩ := I.hok a _ e
  refine ⟨us, h1, h6, h8, h9, o, es, ep, h2, h3, h4, by rw [h5]; exact ent_eq hk ok, fun x hx => ?_, by rw [trip_keys h6]; exact h7⟩
  unfold trip at hx
  obtain ⟨y, hy, rfl⟩ := List.mem_map.mp hx
  exact keys_is I (hr.mono hide_le) hk ok y.1 (List.of_mem_zip hy).1
/-- and back -/
theorem dic_to {h : Heap} {a : Addr} {ks : List D} {kas : List (NestedKey × Addr)} {vvs : List V} {us : List Value} {P : Program} {w : World} (hk : kas.map (·.1) = toNs ks) (ok : keysB 8 ks = true) (rv : Vals vvs us) (hl : kas.length = us.length) (hz : kas.length ≤ sizeLine) (hs : (a == sysModules) = false)
    (hd : h.DictOfH (nestedKind P w) a (trip kas us)) : ObjOk P w H h a (DicO a kas vvs) := by
  obtain ⟨o, es, ep, h1, h2, h3, h4, h5, h6⟩ := hd
  refine ⟨⟨us, o, es, ep, rv, h1, h2, h3, by rw [h4]; exact (ent_eq hk ok).symm, hl, by rw [← trip_keys hl]; exact h6, hz, hs⟩, ⟨o, h1⟩, fun g1 g2 x k => ?_⟩
  obtain ⟨us, o, es, ep, e1, e2, e3⟩ := x
  exact ⟨us, o, es, ep, e1, k _ e2, e3⟩
theorem at_has : ∀ {ks : List D} {kas : List (NestedKey × Addr)} {us : List Value} {k : D}, kas.length = us.length → kas.map (·.1) = toNs ks → (atKey (trip kas us) (toN k)).isSome = dHas ks k
  | [], kas, us, k, hl, e => by
    cases kas with
    | nil => simp [trip, atKey, dHas]
    | cons _ _ => simp [toNs] at e
  | d :: ks, [], us, k, hl, e => by simp [toNs] at e
  | d :: ks, q :: kas, [], k, hl, e => by simp at hl
  | d :: ks, q :: kas, u :: us, k, hl, e => by
    simp only [List.map_cons, toNs, List.cons.injEq] at e
    have ih := at_has (k := k) (us := us) (by simpa using hl) e.2
    unfold dHas at ih ⊢
    rw [List.any_cons, ← ih]
    unfold trip atKey
    simp only [List.zip_cons_cons, List.map_cons, List.find?_cons]
    rw [e.1]
    by_cases h : toN d = toN k
    · simp [h]
    · simp [h]
/-! ### k in d -/
theorem in_dict {k : D} {b a : Addr} {ks : List D} {kas : List (NestedKey × Addr)} {vvs : List V} {S : List Addr} {Q : VK} (I : Inv X pins σ H s) (hu : X.A.units + 66 < cLine) (hkey : (nestedKind X.prog X.w).is s.heap (toN k) b) (e : H a = some (DicO a kas vvs)) (hk : kas.map (·.1) = toNs ks) (ok : keysB 8 ks = true) (hr : Reps X.K (hide H S) ks (kas.map fun p => .ref p.2))
    (q : Q (.bl (dHas ks k)) H) : wpAny (model X.prog X.w) X.A (compareOp .In (.ref b) (.ref a)) (EP X pins σ Q) X.xe s := by
  obtain ⟨us, h1, h2, h3, h4, h5⟩ := dic_of (vs := []) I e hk ok hr
  refine in_keyed (knd := nestedKind X.prog X.w) (kvs := pairsH (trip kas us)) (by show X.A.units + 1 + 8 < cLine; omega) hkey h4 ⟨_, h5, rfl⟩ ?_
  rw [valueAt_pairsH, Option.isSome_map, at_has h2 hk]
  exact ⟨.bl _, H, I.tok _, rfl, q⟩
theorem notIn_dict {k : D} {b a : Addr} {ks : List D} {kas : List (NestedKey × Addr)} {vvs : List V} {S : List Addr} {Q : VK} (I : Inv X pins σ H s) (hu : X.A.units + 66 < cLine) (hkey : (nestedKind X.prog X.w).is s.heap (toN k) b) (e : H a = some (DicO a kas vvs)) (hk : kas.map (·.1) = toNs ks) (ok : keysB 8 ks = true) (hr : Reps X.K (hide H S) ks (kas.map fun p => .ref p.2))
    (q : Q (.bl (!dHas ks k)) H) : wpAny (model X.prog X.w) X.A (compareOp .NotIn (.ref b) (.ref a)) (EP X pins σ Q) X.xe s := by
  obtain ⟨us, h1, h2, h3, h4, h5⟩ := dic_of (vs := []) I e hk ok hr
  refine notIn_keyed (knd := nestedKind X.prog X.w) (kvs := pairsH (trip kas us)) (by show X.A.units + 1 + 8 < cLine; omega) hkey h4 ⟨_, h5, rfl⟩ ?_
  rw [valueAt_pairsH, Option.isSome_map, at_has h2 hk]
  exact ⟨.bl _, H, I.tok _, rfl, q⟩
/-- len(d) -/
theorem len_dict {a : Addr} {ks : List D} {kas : List (NestedKey × Addr)} {vvs : List V} {S : List Addr} {Q : VK} (I : Inv X pins σ H s) (e : H a = some (DicO a kas vvs)) (hk : kas.map (·.1) = toNs ks) (ok : keysB 8 ks = true) (hr : Reps X.K (hide H S) ks (kas.map fun p => .ref p.2))
    (q : Q (.int (ks.length : Nat)) H) : wpAny (model X.prog X.w) X.A (call (.builtin "len") [.ref a]) (EP X pins σ Q) X.xe s := by
  obtain ⟨us, h1, h2, h3, h4, h5⟩ := dic_of (vs := []) I e hk ok hr
  have hl := trip_len h2
  have hkl : kas.length = ks.length := by have := hr.length; simpa using this.symm
  refine call_len_dictH h4 h5 (by rw [hl]; rw [sizeLine_eq] at h3; omega) ?_
  rw [hl, hkl]
  exact ⟨.int _, H, I.tok _, ⟨_, rfl⟩, q⟩
/-! ### list(d) -/
theorem walks_keys {prog : Program} {w : World} {A : Around} (hh : A.handled = none) (it d : Addr) (hne : d ≠ it) {es : Array DictEntry} {ep : Nat} :
    Walks prog w A it [it, d] [it] es.size (fun i v => ∃ h : i < es.size, v = es[i].key) (fun i h => h.IsKeyIter it d i es.size ep ∧ h.DictRaw d es ep) where
  sub := fun b hb => by simp at hb; simp [hb]
  frame := fun _ _ _ st hk => ⟨st.1.at fun o e => hk it (by simp) o e, st.2.at fun o e => hk d (by simp) o e⟩
  item := fun i s Q E hi st hQ => by
    refine wpAny_pyNext_keys_item_raw st.1 st.2 hi fun h' hit' hs' => ?_
    exact hQ _ h' s.toks ⟨hi, rfl⟩ ⟨hit', st.2.at fun o e => (hs'.2 d hne).trans e⟩ fun b o hb e => hs'.extBut b o (fun h => hb (by simp [h])) e
  done := fun s Q E st hQ => wpAny_pyNext_keys_end_raw hh st.1 st.2 (Nat.le_refl _) fun h' he' => hQ h' s.toks fun b o hb e => he' b o (fun h => hb (by simp [h])) e
  self := fun _ _ _ _ st hQ => wpAny_pyIter_keyiter st.1 hQ
theorem kdl_raw {prog : Program} {w : World} {d : Addr} (lo : (d == sysModules) = false) {es : Array DictEntry} {ep : Nat} : PySem.W.KdlSrc prog w "dict" d d es.size (fun i v => ∃ h : i < es.size, v = es[i].key) (fun h => h.DictRaw d es ep) where
  type := fun _ hm => hm.typeIs
  there := fun _ hm => ⟨let ⟨_, ho, _⟩ := hm; Heap.lt_size ho, let ⟨_, ho, _⟩ := hm; Heap.lt_size ho⟩
  keep := fun _ _ hm hk => hm.at fun o e => hk d (.inl rfl) o e
  notList := by decide
  notTuple := by decide
  hint := fun _ _ _ _ hm hq => PySem.W.kdl_hint_dict hm.typeIs hq
  iter := fun _ s hh hm => ⟨_, _, (fun _ _ hq => wpAny_pyIter_dict_raw lo hm hq), walks_keys hh _ d (Nat.ne_of_lt (let ⟨_, ho, _⟩ := hm; Heap.lt_size ho)), ⟨⟨_, Heap.get?_push_size _ rfl, rfl, rfl⟩, hm.at fun o e => Heap.get?_push_of_some _ e⟩⟩
theorem vals_refs2 : ∀ kas : List (NestedKey × Addr), Vals (kas.map fun p => V.ref p.2) (kas.map fun p => Value.ref p.2)
  | [] => .nil
  | p :: ps => .cons rfl (vals_refs2 ps)
theorem list_dict {a : Addr} {ks : List D} {kas : List (NestedKey × Addr)} {vvs : List V} {S : List Addr} {Q : VK} (I : Inv X pins σ H s) (hh : X.A.handled = none) (e : H a = some (DicO a kas vvs)) (hk : kas.map (·.1) = toNs ks) (ok : keysB 8 ks = true) (hr : Reps X.K (hide H S) ks (kas.map fun p => .ref p.2))
    (q : ∀ l, H l = none → Q (.ref l) (upd H l (.lst (kas.map fun p => .ref p.2)))) : wpAny (model X.prog X.w) X.A (call (.type "list") [.ref a]) (EP X pins σ Q) X.xe s := by
  obtain ⟨us, h1, h2, h3, h4, h5⟩ := dic_of (vs := []) I e hk ok hr
  obtain ⟨es, ep, hraw, hsz, hent⟩ := Heap.DictOfH.raw h5
  have hl := trip_len h2
  refine PySem.W.kdl_call (kdl_raw h4) hh hraw (by rw [hsz, hl]; exact h3) fun h' tk acc c k hn hacc => ?_
  have hacc1 : acc.size = kas.length := by rw [hacc.1, hsz, hl]
  have hv : Vals (kas.map fun p => V.ref p.2) acc.toList := by
    have : acc.toList = kas.map fun p => Value.ref p.2 := by
      refine List.ext_getElem? fun j => ?_
      by_cases hj : j < kas.length
      · have hj2 : j < acc.size := by omega
        obtain ⟨hj3, e3⟩ := hacc.2 j acc[j] (Array.getElem?_eq_getElem hj2)
        rw [Array.getElem?_toList, Array.getElem?_eq_getElem hj2, e3, List.getElem?_map, List.getElem?_eq_getElem hj]
        obtain ⟨y, hy, f1, f2, f3⟩ := hent j hj3
        rw [f1]
        unfold trip at hy
        rw [List.getElem?_map, List.getElem?_eq_getElem (by rw [List.length_zip]; omega)] at hy
        simp only [Option.map_some, Option.some.injEq, List.getElem_zip] at hy
        subst hy
        rfl
      · rw [List.getElem?_eq_none (by simp; omega), List.getElem?_eq_none (by simp; omega)]
    rw [this]
    exact vals_refs2 kas
  exact ⟨.ref _, upd H s.heap.objs.size (.lst (kas.map fun p => .ref p.2)), I.laid k (Nat.le_refl _) ⟨by simpa using h3, acc.toList, c, hv, by simpa using hn⟩, rfl, q _ (I.hok.fresh (Nat.le_refl _))⟩
/-! ### d[k] = v -/
def setN {α : Type} : List (NestedKey × Addr) → List α → NestedKey → α → List α
  | q :: ks, x :: xs, k, v => (if q.1 = k then v else x) :: setN ks xs k v
  | _, xs, _, _ => xs
theorem setN_len {α : Type} : ∀ (ks : List (NestedKey × Addr)) (xs : List α) (k : NestedKey) (v : α), (setN ks xs k v).length = xs.length
  | [], xs, k, v => by cases xs <;> rfl
  | q :: ks, [], k, v => rfl
  | q :: ks, x :: xs, k, v => by simp [setN, setN_len ks xs k v]
theorem trip_set : ∀ (kas : List (NestedKey × Addr)) (us : List Value) (k : NestedKey) (v : Value), (trip kas us).map (putAt k v) = trip kas (setN kas us k v)
  | [], us, k, v => by simp [trip]
  | q :: kas, [], k, v => by simp [trip, setN]
  | q :: kas, u :: us, k, v => by
    have ih := trip_set kas us k v
    unfold trip at ih ⊢
    simp only [setN, List.zip_cons_cons, List.map_cons, ih, List.cons.injEq, and_true]
    unfold putAt
    by_cases h : q.1 = k
    · simp [h]
    · simp [h]
theorem Vals_set {vvs : List V} {us : List Value} (r : Vals vvs us) : ∀ (kas : List (NestedKey × Addr)) (k : NestedKey) {v : V} {u : Value}, RelV v u → Vals (setN kas vvs k v) (setN kas us k u) := by
  induction r with
  | nil => intro kas k v u h; cases kas <;> exact .nil
  | cons h t ih =>
    intro kas k v u hv
    cases kas with
    | nil => exact .cons h t
    | cons q kas =>
      simp only [setN]
      by_cases e : q.1 = k
      · simp only [e, if_true]; exact .cons hv (ih kas k hv)
      · simp only [e, if_false]; exact .cons h (ih kas k hv)
theorem Reps_set {K : PySem.W.Frag} {H : Hp} : ∀ {ks vs : List D} {kas : List (NestedKey × Addr)} {vvs : List V} {k d : D} {v : V}, kas.map (·.1) = toNs ks → Reps K H vs vvs → Rep K H d v → Reps K H (dSet ks vs k d) (setN kas vvs (toN k) v)
  | [], vs, kas, vvs, k, d, v, e, r, h => by
    cases kas with
    | nil => cases vs <;> cases vvs <;> exact r
    | cons _ _ => simp [toNs] at e
  | x :: ks, vs, [], vvs, k, d, v, e, r, h => by simp [toNs] at e
  | x :: ks, [], q :: kas, vvs, k, d, v, e, r, h => by
    unfold Reps at r
    subst r
    simp only [dSet, setN]
    exact Reps.nil
  | x :: ks, y :: vs, q :: kas, vvs, k, d, v, e, r, h => by
    simp only [List.map_cons, toNs, List.cons.injEq] at e
    unfold Reps at r
    obtain ⟨w, r', rfl, r1, r2⟩ := r
    simp only [dSet, setN, e.1]
    refine Reps.cons ?_ (Reps_set e.2 r2 h)
    by_cases e2 : toN x = toN k
    · simp only [e2, if_true]; exact h
    · simp only [e2, if_false]; exact r1
/-- the entries behind a store -/
def putK (ks : List D) (kas : List (NestedKey × Addr)) (k : D) (b : Addr) : List (NestedKey × Addr) := if dHas ks k = true then kas else kas ++ [(toN k, b)]
def putVs {α : Type} (ks : List D) (kas : List (NestedKey × Addr)) (xs : List α) (k : D) (v : α) : List α := if dHas ks k = true then setN kas xs (toN k) v else xs ++ [v]
theorem toNs_snoc (ks : List D) (k : D) : toNs (ks ++ [k]) = toNs ks ++ [toN k] := by
  induction ks with
  | nil => rfl
  | cons x ks ih => simp [toNs, ih]
theorem keysB_snoc {n : Nat} {ks : List D} {k : D} (h : keysB n ks = true) (g : keyB n k = true) : keysB n (ks ++ [k]) = true := by
  induction ks with
  | nil => simp [keysB, g]
  | cons x ks ih =>
    simp only [keysB, Bool.and_eq_true] at h
    simp only [List.cons_append, keysB, h.1, ih h.2, Bool.and_self]
/-- d[k] = v -/
theorem set_dict {k d : D} {b a : Addr} {v : V} {u : Value} {ks vs : List D} {kas : List (NestedKey × Addr)} {vvs : List V} {S : List Addr} {C : Unit → Shared → Prop} {E : Value → Shared → Prop} (I : Inv X pins σ H s) (hu : X.A.units + 66 < cLine) (hkd : isKey k = true) (hkey : (nestedKind X.prog X.w).is s.heap (toN k) b)
    (e : H a = some (DicO a kas vvs)) (hk : kas.map (·.1) = toNs ks) (ok : keysB 8 ks = true) (hr : Reps X.K (hide H S) ks (kas.map fun p => .ref p.2)) (hz : ks.length < sizeLine) (rv : RelV v u)
    (q : ∀ s', Inv X pins σ (upd H a (DicO a (putK ks kas k b) (putVs ks kas vvs k v))) s' → C () s') : wpAny (model X.prog X.w) X.A (setItem (.ref a) (.ref b) u) C E s := by
  obtain ⟨us, h1, h2, h3, h4, h5⟩ := dic_of (vs := []) I e hk ok hr
  have hl := trip_len h2
  have hkl : kas.length = ks.length := by have := hr.length; simpa using this.symm
  have hh := at_has (k := k) h2 hk
  refine wpAny_setItem_heap (knd := nestedKind X.prog X.w) (hsz := by rw [hl]; omega) (by show X.A.units + 1 + 8 < cLine; omega) hkey h5 fun h' hd hs => ?_
  have key : h'.DictOfH (nestedKind X.prog X.w) a (trip (putK ks kas k b) (putVs ks kas us k u)) := by
    unfold storedH at hd
    rw [hh] at hd
    unfold putK putVs
    by_cases c : dHas ks k = true
    · rw [if_pos c, trip_set] at hd
      rw [if_pos c, if_pos c]
      exact hd
    · rw [if_neg c] at hd
      rw [if_neg c, if_neg c]
      have : trip kas us ++ [(toN k, b, u)] = trip (kas ++ [(toN k, b)]) (us ++ [u]) := by
        unfold trip
        rw [List.zip_append h2, List.map_append]
        rfl
      rw [← this]
      exact hd
  have hlen : (putK ks kas k b).length = (putVs ks kas us k u).length := by
    unfold putK putVs
    split
    · rw [setN_len]; exact h2
    · simp [h2]
  have hz2 : (putK ks kas k b).length ≤ sizeLine := by
    unfold putK
    split
    · exact h3
    · simp; omega
  have hrv : Vals (putVs ks kas vvs k v) (putVs ks kas us k u) := by
    unfold putVs
    split
    · exact Vals_set h1 kas _ rv
    · exact h1.append (.cons rv .nil)
  have hkk : (putK ks kas k b).map (·.1) = toNs (if dHas ks k = true then ks else ks ++ [k]) := by
    unfold putK
    split
    · exact hk
    · rw [List.map_append, hk, toNs_snoc]; rfl
  have hok2 : keysB 8 (if dHas ks k = true then ks else ks ++ [k]) = true := by
    split
    · exact ok
    · exact keysB_snoc ok (isKey_B hkd)
  obtain ⟨o', es', ep', ho', _⟩ := id key
  refine q _ (I.write (t' := s.toks + _) (x := a) (e := a) (h' := h') (by rw [e]; trivial) (.inl rfl) (fun b' o' hb e' => (hs.2 b' hb).trans e') ⟨_, ho'⟩ (dic_to hkk hok2 hrv hlen hz2 h4 key))
/-- what the dict holds behind it -/
theorem put_rep {K : PySem.W.Frag} {H' : Hp} {a : Addr} {k d : D} {b : Addr} {v : V} {ks vs : List D} {kas : List (NestedKey × Addr)} {vvs : List V} (hkd : isKey k = true) (hk : kas.map (·.1) = toNs ks) (ok : keysB 8 ks = true) (hr : Reps K H' ks (kas.map fun p => .ref p.2)) (hv : Reps K H' vs vvs) (rk : Rep K H' k (.ref b)) (rd : Rep K H' d v) :
    CRep K H' a (dPut ks vs k d) (DicO a (putK ks kas k b) (putVs ks kas vvs k v)) := by
  unfold dPut putK putVs
  by_cases c : dHas ks k = true
  · rw [if_pos c, if_pos c, if_pos c]
    exact ⟨kas, _, rfl, hk, ok, hr, Reps_set hk hv rd⟩
  · rw [if_neg c, if_neg c, if_neg c]
    exact ⟨_, _, rfl, by rw [List.map_append, hk, toNs_snoc]; rfl, keysB_snoc ok (isKey_B hkd), by rw [List.map_append]; exact hr.append (.one rk), hv.append (.one rd)⟩
end
end Dl

/-! DlOps: operators, subscripts, built-ins over data. -/
namespace Dl
open PySem PySem.Spec PyProof.Rows L2
variable [Tbs]
section
variable {K : PySem.W.Frag} {H : Hp} {S : List Addr}
theorem rep_int {i : Int} {v : V} (h : Rep K H (.int i) v) : v = .int i := by unfold Rep at h; exact h
theorem rep_bl {i : Bool} {v : V} (h : Rep K H (.bl i) v) : v = .bl i := by unfold Rep at h; exact h
theorem rep_str {i : Str} {v : V} (h : Rep K H (.str i) v) : v = .str i := by unfold Rep at h; exact h
theorem rep_non {v : V} (h : Rep K H .non v) : v = .non := by unfold Rep at h; exact h
theorem rep_tup {ds : List D} {v : V} (h : Rep K H (.tup ds) v) : ∃ a vs, v = .ref a ∧ SqT K H a vs ∧ Reps K H ds vs := by unfold Rep at h; exact h
theorem rep_lst {ds : List D} {v : V} (h : Rep K H (.lst ds) v) : ∃ a vs, v = .ref a ∧ SqL K H a vs ∧ Reps K H ds vs := by unfold Rep at h; exact h
theorem rep_int' {i : Int} : Rep K H (.int i) (.int i) := by unfold Rep; rfl
theorem rep_bl' {i : Bool} : Rep K H (.bl i) (.bl i) := by unfold Rep; rfl
theorem rep_str' {i : Str} : Rep K H (.str i) (.str i) := by unfold Rep; rfl
theorem rep_non' : Rep K H .non .non := by unfold Rep; rfl
theorem post_int {i : Int} {fr : Bool} : Post K H S fr (.int i) (.int i) H := ⟨Sm.refl _, rep_int', fun _ => trivial⟩
theorem post_bl {i : Bool} {fr : Bool} : Post K H S fr (.bl i) (.bl i) H := ⟨Sm.refl _, rep_bl', fun _ => trivial⟩
theorem post_str {i : Str} {fr : Bool} : Post K H S fr (.str i) (.str i) H := ⟨Sm.refl _, rep_str', fun _ => trivial⟩
theorem post_non {fr : Bool} : Post K H S fr .non .non H := ⟨Sm.refl _, rep_non', fun _ => trivial⟩
/-- what stands already, where it is no container -/
theorem post_old {d : D} {v : V} {fr : Bool} (h : Rep K (hide H S) d v) (hc : fr = true → d.cont = false) : Post K H S fr d v H := ⟨Sm.refl _, h, fun e => by
  have q := hc e
  cases d <;> first | trivial | (unfold D.cont at q; cases q)⟩
/-- a new tuple -/
theorem post_tup {ds : List D} {vs : List V} {a : Addr} {fr : Bool} (hS : SOk H S) (h : Reps K (hide H S) ds vs) (hn : H a = none) : Post K H S fr (.tup ds) (.ref a) (upd H a (.tup vs)) := by
  have sm := same_new (o := .tup vs) hn
  refine ⟨sm, ?_, fun _ => trivial⟩
  unfold Rep
  refine ⟨a, vs, rfl, .inl (.inl ?_), h.mono (sm.hide)⟩
  rw [hide_out (hS.new hn), upd_same]
/-- a new list -/
theorem post_lst {ds : List D} {vs : List V} {a : Addr} {fr : Bool} (hS : SOk H S) (h : Reps K (hide H S) ds vs) (hn : H a = none) : Post K H S fr (.lst ds) (.ref a) (upd H a (.lst vs)) := by
  have sm := same_new (o := .lst vs) hn
  refine ⟨sm, ?_, fun _ => ⟨a, _, rfl, hn, upd_same, vs, rfl, ?_⟩⟩
  · unfold Rep
    refine ⟨a, vs, rfl, .inl (.inl ?_), h.mono (sm.hide)⟩
    rw [hide_out (hS.new hn), upd_same]
  · rw [hide_cons_upd hn]; exact h
theorem szl_eq : szl = sizeLine := by rw [sizeLine_eq]; rfl
end
section
variable {X : Cx}
/-- list + list, wherever they stand -/
theorem op_catL {pins : List (Addr × Obj)} {s : Shared} {σ : L2.St} {H : Hp} {a b : Addr} {xs ys : List V} {Q : VK} (I : Inv X pins σ H s) (ha : SqL X.K H a xs) (hb : SqL X.K H b ys) (hz : xs.length + ys.length ≤ sizeLine)
    (q : ∀ p, H p = none → Q (.ref p) (upd H p (.lst (xs ++ ys)))) : wpAny (model X.prog X.w) X.A (binaryOp .Add (.ref a) (.ref b)) (EP X pins σ Q) X.xe s := by
  obtain ⟨vs, r1, p1, z1⟩ := I.list ha
  obtain ⟨ws, r2, p2, z2⟩ := I.list hb
  obtain ⟨⟨cls, dd, data, sl⟩, ho, hc, n, hd⟩ := id p1.isList
  obtain ⟨⟨cls2, dd2, data2, sl2⟩, ho2, hc2, n2, hd2⟩ := id p2.isList
  simp only at hc hd hc2 hd2
  subst hc hd hc2 hd2
  have e : vs.toArray ++ ws.toArray = (vs ++ ws).toArray := by simp
  have l1 := r1.length
  have l2 := r2.length
  refine concat_meets ⟨_, ho, rfl⟩ ⟨_, ho2, rfl⟩ noFill_list_add seq_list_add PySem.F.slot_list_add PySem.F.entry_list_add (PySem.F.args_list_add_2 _ _) (PyProof.Rows.list_addW a b vs.toArray ws.toArray n n2 dd dd2 sl sl2 (by simp; omega)) ⟨ho, ho2, ?_⟩
  rw [e]
  exact ⟨.ref _, _, I.lnew (t' := s.toks) (r1.append r2) (by rw [List.length_append]; omega), rfl, q _ I.fresh⟩

def rD (K : PySem.W.Frag) (F : D → D → (D → Prop) → Prop) (fr : Bool) : R2 := fun x y H Q => ∃ S a b, SOk H S ∧ Rep K (hide H S) a x ∧ Rep K (hide H S) b y ∧ F a b (fun d => ∀ v H', Post K H S fr d v H' → Q v H')

theorem op_fdivD {i j : Int} {pins : List (Addr × Obj)} {s : Shared} {σ : L2.St} {H : Hp} {v u : Value} {Q : VK} (I : Inv X pins σ H s) (rx : RelV (.int i) v) (ry : RelV (.int j) u) (hc : DivOk j) (q : Q (.int (i.fdiv j)) H) :
    wpAny (model X.prog X.w) X.A (binaryOp .FloorDiv v u) (EP X pins σ Q) X.xe s := by
  obtain ⟨t, rfl⟩ := rx
  obtain ⟨t', rfl⟩ := ry
  exact floordiv_int hc.1 ⟨.int _, H, I.tok _, ⟨_, rfl⟩, q⟩ (.inl (PyProof.noPylong_of_log2 hc.2))

theorem op_binD (o : BO) : OpR X (binaryOp (boOp o)) (rD X.K (binD o) true) := by
  intro pins s σ H x y v u Q I rx ry h
  obtain ⟨S, a, b, hS, ha, hb, h⟩ := h
  unfold binD at h
  split at h
  · cases rep_int ha; cases rep_int hb
    exact op_add pins s σ H _ _ v u Q I rx ry ⟨_, _, rfl, rfl, h _ _ post_int⟩
  · obtain ⟨hz, h⟩ := h
    obtain ⟨p, xs, rfl, hx, rx'⟩ := rep_tup ha
    obtain ⟨q, ys, rfl, hy, ry'⟩ := rep_tup hb
    have l1 := rx'.length
    have l2 := ry'.length
    rw [szl_eq] at hz
    have hx' := Same.sqt hide_le hx
    have hy' := Same.sqt hide_le hy
    refine op_catA pins s σ H _ _ v u Q I rx ry ⟨p, q, xs, ys, rfl, rfl, hx', hy', by omega, fun e => ?_, fun _ e => ?_, fun _ _ t ht => h _ _ (post_tup hS (rx'.append ry') ht)⟩
    · subst e
      have e2 := List.eq_nil_of_length_eq_zero (show _ = 0 from l1)
      subst e2
      exact h _ _ (post_old (by rw [List.nil_append]; exact hb) (fun _ => rfl))
    · subst e
      have e2 := List.eq_nil_of_length_eq_zero (show _ = 0 from l2)
      subst e2
      exact h _ _ (post_old (by rw [List.append_nil]; exact ha) (fun _ => rfl))
  · obtain ⟨hz, h⟩ := h
    obtain ⟨p, xs, rfl, hx, rx'⟩ := rep_lst ha
    obtain ⟨q, ys, rfl, hy, ry'⟩ := rep_lst hb
    have l1 := rx'.length
    have l2 := ry'.length
    rw [szl_eq] at hz
    cases rx
    cases ry
    exact op_catL I (Same.sql hide_le hx) (Same.sql hide_le hy) (by omega) fun t ht => h _ _ (post_lst hS (rx'.append ry') ht)
  · cases rep_int ha; cases rep_int hb
    exact op_sub pins s σ H _ _ v u Q I rx ry ⟨_, _, rfl, rfl, h _ _ post_int⟩
  · cases rep_int ha; cases rep_int hb
    exact op_mulW pins s σ H _ _ v u Q I rx ry ⟨_, _, rfl, rfl, h.1, h.2 _ _ post_int⟩
  · cases rep_int ha; cases rep_int hb
    exact op_fdivD I rx ry h.1 (h.2 _ _ post_int)
  · cases rep_int ha; cases rep_int hb
    exact op_modN pins s σ H _ _ v u Q I rx ry ⟨_, _, rfl, rfl, h.1, h.2 _ _ post_int⟩
  · cases rep_int ha; cases rep_int hb
    exact op_pow pins s σ H _ _ v u Q I rx ry ⟨_, _, rfl, rfl, h.1, h.2 _ _ post_int⟩
  · exact h.elim

theorem op_cmpD (o : CO) (hu : X.A.units + 66 < cLine) : OpR X (compareOp (coOp o)) (rD X.K (cmpD o) true) := by
  intro pins s σ H x y v u Q I rx ry h
  obtain ⟨S, a, b, hS, ha, hb, h⟩ := h
  unfold cmpD at h
  split at h
  · obtain ⟨p1, p2, h⟩ := h
    have d1 := (ha.mono hide_le).dp p1
    have d2 := (hb.mono hide_le).dp p2
    exact op_eqD (by omega) pins s σ H _ _ v u Q I rx ry ⟨_, _, d1, d2, plain_shaped p1, plain_shaped p2, h _ _ post_bl⟩
  · obtain ⟨p1, p2, h⟩ := h
    have d1 := (ha.mono hide_le).dp p1
    have d2 := (hb.mono hide_le).dp p2
    exact op_neD (by omega) pins s σ H _ _ v u Q I rx ry ⟨_, _, d1, d2, plain_shaped p1, plain_shaped p2, h _ _ post_bl⟩
  · split at h
    · cases rep_int ha; cases rep_int hb
      exact op_lt pins s σ H _ _ v u Q I rx ry ⟨_, _, rfl, rfl, h _ _ post_bl⟩
    · exact h.elim
  · split at h
    · cases rep_int ha; cases rep_int hb
      exact op_le pins s σ H _ _ v u Q I rx ry ⟨_, _, rfl, rfl, h _ _ post_bl⟩
    · exact h.elim
  · split at h
    · cases rep_int ha; cases rep_int hb
      exact op_gt pins s σ H _ _ v u Q I rx ry ⟨_, _, rfl, rfl, h _ _ post_bl⟩
    · exact h.elim
  · split at h
    · cases rep_int ha; cases rep_int hb
      exact op_ge pins s σ H _ _ v u Q I rx ry ⟨_, _, rfl, rfl, h _ _ post_bl⟩
    · exact h.elim
theorem flat_vV {K : PySem.W.Frag} {H : Hp} {d : D} {v : V} (h : Rep K H d v) (f : flatD d = true) : flatV v = true := by
  cases d with
  | non => cases rep_non h; rfl
  | bl b => cases rep_bl h; rfl
  | int b => cases rep_int h; rfl
  | str b => cases rep_str h; rfl
  | _ => cases f
theorem flat_eq {K : PySem.W.Frag} {H : Hp} {d e : D} {v u : V} (h : Rep K H d v) (g : Rep K H e u) (f : flatD d = true) (f' : flatD e = true) : eqV v u = eqb d e := by
  cases d with
  | non => cases rep_non h; cases e <;> first | (cases f'; done) | (cases rep_non g; rfl) | (cases rep_bl g; rfl) | (cases rep_int g; rfl) | (cases rep_str g; rfl)
  | bl b => cases rep_bl h; cases e <;> first | (cases f'; done) | (cases rep_non g; rfl) | (cases rep_bl g; simp [eqV, eqb, D.toP, PyData.eqv]) | (cases rep_int g; simp [eqV, eqb, D.toP, PyData.eqv]) | (cases rep_str g; rfl)
  | int b => cases rep_int h; cases e <;> first | (cases f'; done) | (cases rep_non g; rfl) | (cases rep_bl g; simp [eqV, eqb, D.toP, PyData.eqv]) | (cases rep_int g; simp [eqV, eqb, D.toP, PyData.eqv]) | (cases rep_str g; rfl)
  | str b => cases rep_str h; cases e <;> first | (cases f'; done) | (cases rep_non g; rfl) | (cases rep_bl g; rfl) | (cases rep_int g; rfl) | (cases rep_str g; simp [eqV, eqb, D.toP, PyData.eqv])
  | _ => cases f
theorem flat_any {K : PySem.W.Frag} {H : Hp} {e : D} {u : V} (g : Rep K H e u) (f' : flatD e = true) : ∀ {ds : List D} {vs : List V}, Reps K H ds vs → ds.all flatD = true → vs.all flatV = true ∧ (vs.any fun y => eqV y u) = ds.any fun z => eqb z e
  | [], vs, h, _ => by unfold Reps at h; subst h; exact ⟨rfl, rfl⟩
  | d :: ds, vs, h, f => by
    unfold Reps at h
    obtain ⟨v, r, rfl, h2, h3⟩ := h
    rw [List.all_cons, Bool.and_eq_true] at f
    obtain ⟨q1, q2⟩ := flat_any g f' h3 f.2
    refine ⟨?_, ?_⟩
    · rw [List.all_cons, flat_vV h2 f.1, q1]; rfl
    · rw [List.any_cons, List.any_cons, q2, flat_eq h2 g f.1 f']
theorem toPs_any {e : D} : ∀ ds : List D, ((D.toPs ds).any fun z => PyData.eqv z e.toP) = ds.any fun z => eqb z e
  | [] => rfl
  | d :: ds => by
    unfold D.toPs
    rw [List.any_cons, List.any_cons, toPs_any ds]; rfl
theorem op_inD' (hu : X.A.units + 66 < cLine) : OpR X (compareOp .In) (rD X.K (fun x y Q => memD x y fun r => Q (.bl r)) true) := by
  intro pins s σ H x y v u Q I rx ry h
  obtain ⟨S, a, b, hS, ha, hb, h⟩ := h
  unfold memD at h
  split at h
  · obtain ⟨f1, f2, h⟩ := h
    obtain ⟨p, ys, rfl, hy, ry'⟩ := rep_tup hb
    obtain ⟨g1, g2⟩ := flat_any ha f1 ry' f2
    refine op_in_seq pins s σ H _ _ v u Q I rx ry ⟨p, ys, rfl, .inr (Same.sqt hide_le hy), flat_vV ha f1, g1, ?_⟩
    show Q (.bl (inV x ys)) H
    unfold inV
    rw [g2]
    exact h _ _ post_bl
  · obtain ⟨p1, p2, h⟩ := h
    have d1 := (ha.mono hide_le).dp p1
    have d2 := (hb.mono hide_le).dp p2
    have s2 := plain_shaped p2
    unfold D.toP at d2 s2
    refine L2.op_inD (by omega) pins s σ H _ _ v u Q I rx ry ⟨_, _, d1, d2, plain_shaped p1, s2, ?_⟩
    rw [toPs_any]
    exact h _ _ post_bl
  · obtain ⟨hk, h⟩ := h
    obtain ⟨b, rfl, hkey⟩ := key_is I (ha.mono hide_le) hk
    unfold Rep at hb
    obtain ⟨a', kas, vvs, rfl, e1, e2, e3, e4, _⟩ := hb
    cases rx
    cases ry
    exact in_dict I hu hkey (hide_le.at_ _ _ e1 trivial) e2 e3 e4 (h _ _ post_bl)
  · exact h.elim
theorem op_notInD' (hu : X.A.units + 66 < cLine) : OpR X (compareOp .NotIn) (rD X.K (fun x y Q => memD x y fun r => Q (.bl (!r))) true) := by
  intro pins s σ H x y v u Q I rx ry h
  obtain ⟨S, a, b, hS, ha, hb, h⟩ := h
  unfold memD at h
  split at h
  · obtain ⟨f1, f2, h⟩ := h
    obtain ⟨p, ys, rfl, hy, ry'⟩ := rep_tup hb
    obtain ⟨g1, g2⟩ := flat_any ha f1 ry' f2
    refine op_notIn_seq pins s σ H _ _ v u Q I rx ry ⟨p, ys, rfl, .inr (Same.sqt hide_le hy), flat_vV ha f1, g1, ?_⟩
    show Q (.bl (!inV x ys)) H
    unfold inV
    rw [g2]
    exact h _ _ post_bl
  · obtain ⟨p1, p2, h⟩ := h
    have d1 := (ha.mono hide_le).dp p1
    have d2 := (hb.mono hide_le).dp p2
    have s2 := plain_shaped p2
    unfold D.toP at d2 s2
    refine L2.op_notInD (by omega) pins s σ H _ _ v u Q I rx ry ⟨_, _, d1, d2, plain_shaped p1, s2, ?_⟩
    rw [toPs_any]
    exact h _ _ post_bl
  · obtain ⟨hk, h⟩ := h
    obtain ⟨b, rfl, hkey⟩ := key_is I (ha.mono hide_le) hk
    unfold Rep at hb
    obtain ⟨a', kas, vvs, rfl, e1, e2, e3, e4, _⟩ := hb
    cases rx
    cases ry
    exact notIn_dict I hu hkey (hide_le.at_ _ _ e1 trivial) e2 e3 e4 (h _ _ post_bl)
  · exact h.elim
theorem memOp (ng : Bool) (hu : X.A.units + 66 < cLine) : OpR X (compareOp (if ng = true then .NotIn else .In)) (rD X.K (fun x y Q => memD x y fun r => Q (.bl (ng != r))) true) := by
  cases ng with
  | true =>
    have e : (fun x y (Q : D → Prop) => memD x y fun r => Q (.bl (true != r))) = fun x y Q => memD x y fun r => Q (.bl (!r)) := by
      funext x y Q
      congr 1
      funext r
      cases r <;> rfl
    rw [e]
    exact op_notInD' hu
  | false =>
    have e : (fun x y (Q : D → Prop) => memD x y fun r => Q (.bl (false != r))) = fun x y Q => memD x y fun r => Q (.bl r) := by
      funext x y Q
      congr 1
      funext r
      cases r <;> rfl
    rw [e]
    exact op_inD' hu
theorem atD_eq {α : Type} (xs : List α) (i : Int) : atD xs i = atI xs i := rfl
theorem at_get {K : PySem.W.Frag} {H : Hp} {ds : List D} {vs : List V} (h : Reps K H ds vs) {i : Int} {d : D} (e : atD ds i = some d) : ∃ v, atI vs i = some v ∧ Rep K H d v := by
  unfold atD at e
  have hl := h.length
  unfold atI ixN
  rw [hl] at e
  cases q : (if 0 ≤ i then (if i < (vs.length : Int) then some i.toNat else none) else if -(vs.length : Int) ≤ i then some (i + (vs.length : Int)).toNat else none) with
  | none => rw [q] at e; cases e
  | some j =>
    rw [q] at e
    exact h.get (by simpa using e)
theorem ix_D : IxR X (rD X.K ixD false) := by
  intro value slice pins s σ H x y v u Q I rx ry h hsub
  obtain ⟨S, a, b, hS, ha, hb, h⟩ := h
  unfold ixD at h
  split at h
  · obtain ⟨d, e, h⟩ := h
    obtain ⟨p, xs, rfl, hx, rx'⟩ := rep_tup ha
    cases rep_int hb
    obtain ⟨w, e', rw'⟩ := at_get rx' e
    exact ix_tup value slice pins s σ H _ _ v u Q I rx ry ⟨p, xs, _, w, rfl, rfl, Same.sqt hide_le hx, e', h _ _ (post_old rw' fun z => by cases z)⟩ hsub
  · obtain ⟨d, e, h⟩ := h
    obtain ⟨p, xs, rfl, hx, rx'⟩ := rep_lst ha
    cases rep_int hb
    obtain ⟨w, e', rw'⟩ := at_get rx' e
    exact ix_list value slice pins s σ H _ _ v u Q I rx ry ⟨p, xs, _, w, rfl, rfl, Same.sql hide_le hx, e', h _ _ (post_old rw' fun z => by cases z)⟩ hsub
  · exact h.elim
theorem sIx_eq (n d : Nat) (hd : d ≤ n) (o : Option Int) : sIxD n d o = HT.sIx n d o := by
  cases o with
  | none => rfl
  | some v =>
    show (if v < 0 then max (v + (n : Int)) 0 else min v (n : Int)).toNat = HT.sIx n d (some v)
    rw [HT.clip_eq v n d]
    exact Int.toNat_natCast _
theorem cut_eq {α : Type} (xs : List α) (lo hi : Option Int) : cutD xs lo hi = (xs.drop (HT.sIx xs.length 0 lo)).take (HT.sIx xs.length xs.length hi - HT.sIx xs.length 0 lo) := by
  unfold cutD
  rw [sIx_eq _ _ (Nat.zero_le _), sIx_eq _ _ (Nat.le_refl _)]
theorem cut_rep {K : PySem.W.Frag} {H : Hp} {ds : List D} {vs : List V} (h : Reps K H ds vs) (lo hi : Option Int) : Reps K H (cutD ds lo hi) (cutV vs lo hi) := by
  rw [cut_eq]
  unfold cutV
  rw [← h.length]
  exact (h.drop _).take _
def rSlD (K : PySem.W.Frag) : V → Option Int → Option Int → Hp → VK → Prop := fun x lo hi H Q => ∃ S a, SOk H S ∧ Rep K (hide H S) a x ∧ slD a lo hi (fun d => ∀ v H', Post K H S true d v H' → Q v H')
theorem sl_D : SlR X (rSlD X.K) := by
  intro pins s σ H x v vl vu lo hi sl Q I rx hs pl pu h
  obtain ⟨S, a, hS, ha, h⟩ := h
  unfold slD at h
  split at h
  · obtain ⟨p, xs, rfl, hx, rx'⟩ := rep_tup ha
    have hx' := Same.sqt hide_le hx
    refine sl_tupA pins s σ H _ v vl vu lo hi sl Q I rx hs pl pu ⟨p, xs, rfl, hx', fun e => ?_, fun _ t ht => h _ _ (post_tup hS (cut_rep rx' lo hi) ht)⟩
    refine h _ _ (post_old ?_ fun _ => rfl)
    have el := rx'.length
    rw [cut_eq, el, e.1, e.2, List.drop_zero, Nat.sub_zero, List.take_of_length_le (by omega)]
    exact ha
  · obtain ⟨p, xs, rfl, hx, rx'⟩ := rep_lst ha
    exact sl_list pins s σ H _ v vl vu lo hi sl Q I rx hs pl pu ⟨p, xs, rfl, Same.sql hide_le hx, fun t ht => h _ _ (post_lst hS (cut_rep rx' lo hi) ht)⟩
  · exact h.elim

end
end Dl

/-! DlSort: sorted() of lists of data. -/
namespace Dl
open PySem PySem.Spec PyProof.Rows L2
variable [Tbs]
mutual
/-- a value of the heap holds data: ints, tuples of such -/
def HD (h : Heap) : D → Value → Prop
  | .int i, u => ∃ t, u = .int i t
  | .tup ds, u => ∃ a o vs n, u = .ref a ∧ h.get? a = some o ∧ o.cls = .type "tuple" ∧ o.data = .seq vs n ∧ HDs h ds vs.toList
  | _, _ => False
def HDs (h : Heap) : List D → List Value → Prop
  | [], us => us = []
  | d :: ds, us => ∃ u r, us = u :: r ∧ HD h d u ∧ HDs h ds r
end
mutual
theorem HD.keep {h h' : Heap} (k : ∀ b o, h.get? b = some o → o.cls = .type "tuple" → h'.get? b = some o) : ∀ {d : D} {u : Value}, HD h d u → HD h' d u
  | .int i, u, x => by unfold HD at *; exact x
  | .tup ds, u, x => by
    unfold HD at *
    obtain ⟨a, o, vs, n, e1, e2, e3, e4, r⟩ := x
    exact ⟨a, o, vs, n, e1, k _ _ e2 e3, e3, e4, HDs.keep k r⟩
  | .non, u, x => by unfold HD at x; exact x.elim
  | .bl _, u, x => by unfold HD at x; exact x.elim
  | .str _, u, x => by unfold HD at x; exact x.elim
  | .lst _, u, x => by unfold HD at x; exact x.elim
  | .dict _ _, u, x => by unfold HD at x; exact x.elim
  | .obj _ _ _, u, x => by unfold HD at x; exact x.elim
theorem HDs.keep {h h' : Heap} (k : ∀ b o, h.get? b = some o → o.cls = .type "tuple" → h'.get? b = some o) : ∀ {ds : List D} {us : List Value}, HDs h ds us → HDs h' ds us
  | [], us, x => by unfold HDs at *; exact x
  | d :: ds, us, x => by
    unfold HDs at *
    obtain ⟨u, r, e, h1, h2⟩ := x
    exact ⟨u, r, e, HD.keep k h1, HDs.keep k h2⟩
end
mutual
theorem HD.uniq {h : Heap} : ∀ {d d' : D} {u : Value}, HD h d u → HD h d' u → d = d'
  | .int i, d', u, x, y => by
    unfold HD at x
    obtain ⟨t, rfl⟩ := x
    cases d' with
    | int j => unfold HD at y; obtain ⟨t', e⟩ := y; cases e; rfl
    | tup ds => unfold HD at y; obtain ⟨_, _, _, _, e, _⟩ := y; cases e
    | _ => unfold HD at y; exact y.elim
  | .tup ds, d', u, x, y => by
    unfold HD at x
    obtain ⟨a, o, vs, n, rfl, e2, e3, e4, r⟩ := x
    cases d' with
    | int j => unfold HD at y; obtain ⟨t', e⟩ := y; cases e
    | tup es =>
      unfold HD at y
      obtain ⟨a', o', vs', n', q1, q2, q3, q4, r'⟩ := y
      cases q1
      rw [e2] at q2
      cases q2
      rw [e4] at q4
      cases q4
      rw [HDs.uniq r r']
    | _ => unfold HD at y; exact y.elim
  | .non, d', u, x, y => by unfold HD at x; exact x.elim
  | .bl _, d', u, x, y => by unfold HD at x; exact x.elim
  | .str _, d', u, x, y => by unfold HD at x; exact x.elim
  | .lst _, d', u, x, y => by unfold HD at x; exact x.elim
  | .dict _ _, d', u, x, y => by unfold HD at x; exact x.elim
  | .obj _ _ _, d', u, x, y => by unfold HD at x; exact x.elim
theorem HDs.uniq {h : Heap} : ∀ {ds es : List D} {us : List Value}, HDs h ds us → HDs h es us → ds = es
  | [], es, us, x, y => by
    unfold HDs at x
    subst x
    cases es with
    | nil => rfl
    | cons e es => unfold HDs at y; obtain ⟨_, _, e, _⟩ := y; cases e
  | d :: ds, es, us, x, y => by
    unfold HDs at x
    obtain ⟨u, r, rfl, h1, h2⟩ := x
    cases es with
    | nil => unfold HDs at y; cases y
    | cons e es =>
      unfold HDs at y
      obtain ⟨u', r', e, g1, g2⟩ := y
      cases e
      rw [HD.uniq h1 g1, HDs.uniq h2 g2]
end
theorem HDs.length {h : Heap} : ∀ {ds : List D} {us : List Value}, HDs h ds us → ds.length = us.length
  | [], us, x => by unfold HDs at x; subst x; rfl
  | d :: ds, us, x => by
    unfold HDs at x
    obtain ⟨u, r, rfl, _, h2⟩ := x
    simp [HDs.length h2]
theorem HDs.get {h : Heap} : ∀ {ds : List D} {us : List Value} {j : Nat} {u : Value}, HDs h ds us → us[j]? = some u → ∃ d, ds[j]? = some d ∧ HD h d u
  | [], us, j, u, x, e => by unfold HDs at x; subst x; simp at e
  | d :: ds, us, j, u, x, e => by
    unfold HDs at x
    obtain ⟨u', r, rfl, h1, h2⟩ := x
    cases j with
    | zero => simp at e; subst e; exact ⟨d, rfl, h1⟩
    | succ j => simpa using HDs.get h2 (by simpa using e)
mutual
theorem cmpT_refl : ∀ {h : Heap} {d : D} {u : Value}, HD h d u → cmpT d d = .eq
  | h, .int i, u, x => by simp only [cmpT]; exact Int.compare_eq_eq.mpr rfl
  | h, .tup ds, u, x => by
    unfold HD at x
    obtain ⟨a, o, vs, n, rfl, e2, e3, e4, r⟩ := x
    simp only [cmpT]
    exact cmpTs_refl r
  | h, .non, u, x => by unfold HD at x; exact x.elim
  | h, .bl _, u, x => by unfold HD at x; exact x.elim
  | h, .str _, u, x => by unfold HD at x; exact x.elim
  | h, .lst _, u, x => by unfold HD at x; exact x.elim
  | h, .dict _ _, u, x => by unfold HD at x; exact x.elim
  | h, .obj _ _ _, u, x => by unfold HD at x; exact x.elim
theorem cmpTs_refl : ∀ {h : Heap} {ds : List D} {us : List Value}, HDs h ds us → cmpTs ds ds = .eq
  | h, [], us, x => rfl
  | h, d :: ds, us, x => by
    unfold HDs at x
    obtain ⟨u, r, e, h1, h2⟩ := x
    simp only [cmpTs]
    rw [cmpT_refl h1, cmpTs_refl h2]
    rfl
end
/-- item beside item -/
def eqL (ds es : List D) (j : Nat) : Bool := match ds[j]?, es[j]? with
  | some d, some e => cmpT d e == .eq
  | _, _ => false
def ltL (ds es : List D) (j : Nat) : Bool := match ds[j]?, es[j]? with
  | some d, some e => ltT d e
  | _, _ => false
theorem all_eqL : ∀ (ds es : List D), ((List.range (min ds.length es.length)).all (eqL ds es) && ds.length == es.length) = (cmpTs ds es == .eq)
  | [], [] => rfl
  | [], e :: es => by simp [cmpTs]
  | d :: ds, [] => by simp [cmpTs]
  | d :: ds, e :: es => by
    have ih := all_eqL ds es
    simp only [List.length_cons, Nat.succ_min_succ, cmpTs]
    rw [List.range_succ_eq_map, List.all_cons, List.all_map]
    have e1 : (eqL (d :: ds) (e :: es) ∘ Nat.succ) = eqL ds es := by funext j; simp [eqL]
    have e0 : eqL (d :: ds) (e :: es) 0 = (cmpT d e == .eq) := by simp [eqL]
    rw [e1, e0]
    have e2 : (ds.length + 1 == es.length + 1) = (ds.length == es.length) := by
      rw [Bool.eq_iff_iff]; simp
    rw [e2, Bool.and_assoc, ih]
    cases cmpT d e <;> simp [Ordering.then]
theorem lexL : ∀ (k i : Nat) (ds es : List D), k + i = min ds.length es.length → Ob.lexAt (eqL ds es) (ltL ds es) (decide (ds.length < es.length)) i k = (cmpTs (ds.drop i) (es.drop i) == .lt)
  | 0, i, ds, es, h => by
    rw [Ob.lexAt_zero]
    rcases Nat.lt_or_ge ds.length es.length with g | g
    · have e1 : ds.drop i = [] := List.drop_of_length_le (by omega)
      rw [e1, List.drop_eq_getElem_cons (l := es) (i := i) (by omega)]
      simp [cmpTs, g]
    · have e1 : es.drop i = [] := List.drop_of_length_le (by omega)
      rw [e1]
      cases ds.drop i with
      | nil => simp [cmpTs]; omega
      | cons d ds' => simp [cmpTs]; omega
  | k + 1, i, ds, es, h => by
    rw [Ob.lexAt_succ, lexL k (i + 1) ds es (by omega)]
    rw [List.drop_eq_getElem_cons (l := es) (i := i) (by omega), List.drop_eq_getElem_cons (l := ds) (i := i) (by omega)]
    simp only [cmpTs]
    have e1 : eqL ds es i = (cmpT ds[i] es[i] == .eq) := by
      unfold eqL
      rw [List.getElem?_eq_getElem (by omega), List.getElem?_eq_getElem (by omega)]
    have e2 : ltL ds es i = (cmpT ds[i] es[i] == .lt) := by
      unfold ltL
      rw [List.getElem?_eq_getElem (by omega), List.getElem?_eq_getElem (by omega)]
      rfl
    rw [e1, e2]
    cases cmpT ds[i] es[i] <;> simp [Ordering.then]
theorem cmpOks_at : ∀ {ds es : List D} {j : Nat} {d e : D}, cmpOks ds es = true → ds[j]? = some d → es[j]? = some e → cmpOk d e = true
  | [], es, j, d, e, h, e1, e2 => by simp at e1
  | x :: ds, [], j, d, e, h, e1, e2 => by simp at e2
  | x :: ds, y :: es, j, d, e, h, e1, e2 => by
    unfold cmpOks at h
    rw [Bool.and_eq_true] at h
    cases j with
    | zero => simp at e1 e2; subst e1 e2; exact h.1
    | succ j => exact cmpOks_at h.2 (by simpa using e1) (by simpa using e2)
theorem plains_at : ∀ {ds : List D} {n j : Nat} {d : D}, D.plains n ds = true → ds[j]? = some d → D.plain n d = true
  | [], n, j, d, h, e => by simp at e
  | x :: ds, n, j, d, h, e => by
    unfold D.plains at h
    rw [Bool.and_eq_true] at h
    cases j with
    | zero => simp at e; subst e; exact h.1
    | succ j => exact plains_at h.2 (by simpa using e)
theorem at_of {us : Array Value} {j : Nat} (h : j < us.size) : us.toList[j]? = some us[j] := by simp [h]
section
variable {s : Shared}
/-- == of data -/
theorem HD.eqAt : ∀ (n : Nat) {A : Around} {d e : D} {u v : Value}, HD s.heap d u → HD s.heap e v → cmpOk d e = true → D.plain n d = true → A.units + n < cLine → SeqAt.EqAt A s u v (cmpT d e == .eq) := by
  intro n
  induction n with
  | zero =>
    intro A d e u v hd he ok hp hu
    cases d with
    | int i =>
      cases e with
      | int j =>
        unfold HD at hd he
        obtain ⟨t, rfl⟩ := hd
        obtain ⟨t', rfl⟩ := he
        have q := SeqAt.EqAt.int_int (A := A) (s := s) i t j t'
        have e1 : (cmpT (.int i) (.int j) == .eq) = (i == j) := by
          rw [Bool.eq_iff_iff]; simp [cmpT]
        rw [e1]; exact q
      | _ => simp [cmpOk] at ok
    | tup ds => simp [D.plain] at hp
    | _ => unfold HD at hd; exact hd.elim
  | succ n ih =>
    intro A d e u v hd he ok hp hu
    cases d with
    | int i =>
      cases e with
      | int j =>
        unfold HD at hd he
        obtain ⟨t, rfl⟩ := hd
        obtain ⟨t', rfl⟩ := he
        have q := SeqAt.EqAt.int_int (A := A) (s := s) i t j t'
        have e1 : (cmpT (.int i) (.int j) == .eq) = (i == j) := by
          rw [Bool.eq_iff_iff]; simp [cmpT]
        rw [e1]; exact q
      | _ => simp [cmpOk] at ok
    | tup ds =>
      cases e with
      | tup es =>
        by_cases hne : u = v
        · subst hne
          have := HD.uniq hd he
          rw [← this, cmpT_refl hd]
          exact SeqAt.EqAt.same u
        · unfold HD at hd he
          obtain ⟨a, o, vs, m, rfl, e2, e3, e4, r⟩ := hd
          obtain ⟨a', o', vs', m', rfl, q2, q3, q4, r'⟩ := he
          have hlen := r.length
          have hlen' := r'.length
          have ok' : cmpOks ds es = true := by simpa [cmpOk] using ok
          have hp' : D.plains n ds = true := by simpa [D.plain] using hp
          have q := SeqAt.RcAt.tuples (A := A) (s := s) (e := eqL ds es) ⟨o, e2, e3, m, e4⟩ ⟨o', q2, q3, m', q4⟩ (by omega) (fun j h1 h2 => by
            obtain ⟨d, f1, f2⟩ := r.get (at_of h1)
            obtain ⟨e, g1, g2⟩ := r'.get (at_of h2)
            have : eqL ds es j = (cmpT d e == .eq) := by unfold eqL; rw [f1, g1]
            rw [this]
            exact ih f2 g2 (cmpOks_at ok' f1 g1) (plains_at hp' f1) (by show A.units + 1 + n < cLine; omega))
          have e5 : ((List.range (min vs.size vs'.size)).all (eqL ds es) && vs.size == vs'.size) = (cmpT (.tup ds) (.tup es) == .eq) := by
            have h1 : vs.size = ds.length := by rw [hlen]; simp
            have h2 : vs'.size = es.length := by rw [hlen']; simp
            rw [h1, h2, all_eqL]
            simp only [cmpT]
          rw [e5] at q
          exact SeqAt.EqAt.of_refs (fun z => hne (by rw [z])) q
      | _ => simp [cmpOk] at ok
    | _ => unfold HD at hd; exact hd.elim
/-- < of data -/
theorem HD.lt : ∀ (n : Nat) {A : Around} {d e : D} {u v : Value}, HD s.heap d u → HD s.heap e v → cmpOk d e = true → D.plain n d = true → A.units + n < cLine → Ob.RcOp .Lt A s u v (ltT d e) := by
  intro n
  induction n with
  | zero =>
    intro A d e u v hd he ok hp hu
    cases d with
    | int i =>
      cases e with
      | int j =>
        unfold HD at hd he
        obtain ⟨t, rfl⟩ := hd
        obtain ⟨t', rfl⟩ := he
        have q := Ob.RcOp.lt_int (A := A) (s := s) i j t t'
        have e1 : ltT (.int i) (.int j) = decide (i < j) := by
          rw [Bool.eq_iff_iff, ltT_iff]; simp [cmpT, Int.compare_eq_lt]
        rw [e1]; exact q
      | _ => simp [cmpOk] at ok
    | tup ds => simp [D.plain] at hp
    | _ => unfold HD at hd; exact hd.elim
  | succ n ih =>
    intro A d e u v hd he ok hp hu
    cases d with
    | int i =>
      cases e with
      | int j =>
        unfold HD at hd he
        obtain ⟨t, rfl⟩ := hd
        obtain ⟨t', rfl⟩ := he
        have q := Ob.RcOp.lt_int (A := A) (s := s) i j t t'
        have e1 : ltT (.int i) (.int j) = decide (i < j) := by
          rw [Bool.eq_iff_iff, ltT_iff]; simp [cmpT, Int.compare_eq_lt]
        rw [e1]; exact q
      | _ => simp [cmpOk] at ok
    | tup ds =>
      cases e with
      | tup es =>
        unfold HD at hd he
        obtain ⟨a, o, vs, m, rfl, e2, e3, e4, r⟩ := hd
        obtain ⟨a', o', vs', m', rfl, q2, q3, q4, r'⟩ := he
        have hlen := r.length
        have hlen' := r'.length
        have ok' : cmpOks ds es = true := by simpa [cmpOk] using ok
        have hp' : D.plains n ds = true := by simpa [D.plain] using hp
        have hu' : (A.in1).units + n < cLine := by show A.units + 1 + n < cLine; omega
        have q := Ob.RcOp.tuples_lt (A := A) (s := s) (e := eqL ds es) (r := ltL ds es) ⟨o, e2, e3, m, e4⟩ ⟨o', q2, q3, m', q4⟩ (by omega) (fun j h1 h2 => by
          obtain ⟨d, f1, f2⟩ := r.get (at_of h1)
          obtain ⟨e, g1, g2⟩ := r'.get (at_of h2)
          have : eqL ds es j = (cmpT d e == .eq) := by unfold eqL; rw [f1, g1]
          rw [this]
          exact HD.eqAt n f2 g2 (cmpOks_at ok' f1 g1) (plains_at hp' f1) hu') (fun j h1 h2 _ => by
          obtain ⟨d, f1, f2⟩ := r.get (at_of h1)
          obtain ⟨e, g1, g2⟩ := r'.get (at_of h2)
          have : ltL ds es j = ltT d e := by unfold ltL; rw [f1, g1]
          rw [this]
          exact ih f2 g2 (cmpOks_at ok' f1 g1) (plains_at hp' f1) hu')
        have e5 : Ob.lexAt (eqL ds es) (ltL ds es) (decide (vs.size < vs'.size)) 0 (min vs.size vs'.size) = ltT (.tup ds) (.tup es) := by
          have h1 : vs.size = ds.length := by rw [hlen]; simp
          have h2 : vs'.size = es.length := by rw [hlen']; simp
          rw [h1, h2, lexL _ 0 ds es (by omega)]
          simp only [List.drop_zero, ltT, cmpT]
        rw [e5] at q
        exact q
      | _ => simp [cmpOk] at ok
    | _ => unfold HD at hd; exact hd.elim
end
/-! ### the sort's own comparison -/
section
variable {prog : Program} {w : World} {A : Around} {E : Value → Shared → Prop} {s : Shared}
def intHd : List D → Bool
  | .int _ :: _ => true
  | _ => false
theorem kat_lex {b : Bool} {R : Bool} {n : Nat} : ∀ (ds es : List D) (us vs : List Value) (i : Nat), HDs s.heap ds us → HDs s.heap es vs → cmpOks ds es = true → D.plains n ds = true → A.units + n < cLine → (b = true → i = 0 → intHd ds = true) → R = (cmpTs ds es == .lt) → ∀ fin : Bool, fin = decide (ds.length < es.length) →
    PySem.W.KatLex prog w A b fin (fun r s' => s' = s ∧ r = R) (us.zip vs) i s
  | [], es, us, vs, i, h1, h2, ok, hp, hu, hb, hR, fin, hf => by
    unfold HDs at h1
    subst h1
    rw [List.zip_nil_left]
    refine PySem.W.kat_nil ⟨rfl, ?_⟩
    rw [hR, hf]
    cases es <;> simp [cmpTs]
  | d :: ds, [], us, vs, i, h1, h2, ok, hp, hu, hb, hR, fin, hf => by
    unfold HDs at h2
    subst h2
    rw [List.zip_nil_right]
    refine PySem.W.kat_nil ⟨rfl, ?_⟩
    rw [hR, hf]
    simp [cmpTs]
  | d :: ds, e :: es, us, vs, i, h1, h2, ok, hp, hu, hb, hR, fin, hf => by
    unfold HDs at h1 h2
    obtain ⟨u, us, rfl, a1, a2⟩ := h1
    obtain ⟨v, vs, rfl, b1, b2⟩ := h2
    unfold cmpOks at ok
    unfold D.plains at hp
    rw [Bool.and_eq_true] at ok hp
    rw [List.zip_cons_cons]
    simp only [cmpTs] at hR
    refine PySem.W.kat_cons (HD.eqAt n a1 b1 ok.1 hp.1 hu prog w _ _ ?_)
    refine PySem.W.kat_go (fun q => ?_) (fun q => ?_)
    · have q' : cmpT d e = .eq := by simpa using q
      refine PySem.W.kat_yes (kat_lex ds es us vs (i + 1) a2 b2 ok.2 hp.2 hu (fun _ z => by omega) (by rw [hR, q']; rfl) fin (by rw [hf]; simp))
    · have q' : cmpT d e ≠ .eq := by simpa using q
      have hR' : R = ltT d e := by
        rw [hR]
        unfold ltT
        cases q3 : cmpT d e <;> simp_all [Ordering.then]
      refine PySem.W.kat_no ?_
      by_cases hb' : (b && i == 0) = true
      · rw [Bool.and_eq_true] at hb'
        have hi := hb hb'.1 (by simpa using hb'.2)
        cases d with
        | int x =>
          cases e with
          | int y =>
            unfold HD at a1 b1
            obtain ⟨t, rfl⟩ := a1
            obtain ⟨t', rfl⟩ := b1
            rw [hb'.1, hb'.2]
            refine oneLt_int ⟨rfl, ?_⟩
            rw [hR', Bool.eq_iff_iff, ltT_iff]
            simp [cmpT, Int.compare_eq_lt]
          | _ => simp [cmpOk] at ok
        | _ => cases hi
      · have hb'' : (b && i == 0) = false := by simpa using hb'
        rw [hb'']
        refine PySem.W.kat_one _ _ (HD.lt n a1 b1 ok.1 hp.1 hu prog w _ _ ?_)
        exact (show s = s ∧ ltT d e = R from ⟨rfl, hR'.symm⟩)
/-- a value's data -/
noncomputable def kd (h : Heap) (v : Value) : D := by
  classical
  exact if q : ∃ d, HD h d v then q.choose else .non
theorem kd_of {h : Heap} {d : D} {v : Value} (x : HD h d v) : kd h v = d := by
  unfold kd
  have q : ∃ d, HD h d v := ⟨d, x⟩
  rw [dif_pos q]
  exact HD.uniq q.choose_spec x
theorem HDs.mem {h : Heap} : ∀ {ds : List D} {us : List Value} {u : Value}, HDs h ds us → u ∈ us → ∃ d ∈ ds, HD h d u
  | [], us, u, x, m => by unfold HDs at x; subst x; cases m
  | d :: ds, us, u, x, m => by
    unfold HDs at x
    obtain ⟨u', r, rfl, h1, h2⟩ := x
    rcases List.mem_cons.mp m with rfl | m
    · exact ⟨d, List.mem_cons_self, h1⟩
    · obtain ⟨e, m', q⟩ := HDs.mem h2 m
      exact ⟨e, List.mem_cons_of_mem _ m', q⟩
theorem HDs.kds {h : Heap} : ∀ {ds : List D} {us : List Value}, HDs h ds us → us.map (kd h) = ds
  | [], us, x => by unfold HDs at x; subst x; rfl
  | d :: ds, us, x => by
    unfold HDs at x
    obtain ⟨u, r, rfl, h1, h2⟩ := x
    rw [List.map_cons, kd_of h1, HDs.kds h2]
def isI : D → Bool
  | .int _ => true
  | _ => false
/-- the first items -/
theorem firsts_D {h : Heap} : ∀ {ds : List D} {us : List Value}, HDs h ds us → (∀ d ∈ ds, ne1 d = true) → ∃ fs fd, PySem.W.KatTups h us fs ∧ fs.length = us.length ∧ HDs h fd fs ∧ (∀ f ∈ fd, ∃ r, D.tup (f :: r) ∈ ds) ∧ ∀ f r, D.tup (f :: r) ∈ ds → f ∈ fd
  | [], us, x, hn => by
    unfold HDs at x; subst x
    exact ⟨[], [], PySem.W.KatTups.nil, rfl, by unfold HDs; rfl, (fun f m => by cases m), fun f r m => by cases m⟩
  | d :: ds, us, x, hn => by
    unfold HDs at x
    obtain ⟨u, r, rfl, h1, h2⟩ := x
    obtain ⟨fs, fd, t, l, q, m, m'⟩ := firsts_D h2 fun d hd => hn d (List.mem_cons_of_mem _ hd)
    have hd := hn d List.mem_cons_self
    cases d with
    | tup es =>
      cases es with
      | nil => cases hd
      | cons e es =>
        unfold HD at h1
        obtain ⟨a, o, vs, n, rfl, e2, e3, e4, hr⟩ := h1
        unfold HDs at hr
        obtain ⟨f, r', er, f1, f2⟩ := hr
        refine ⟨f :: fs, e :: fd, PySem.W.KatTups.cons e2 e3 e4 (by rw [← Array.getElem?_toList, er]; rfl) t, by simp [l], ?_, fun g hg => ?_, fun g r hg => ?_⟩
        · unfold HDs
          exact ⟨f, fs, rfl, f1, q⟩
        · rcases List.mem_cons.mp hg with rfl | hg
          · exact ⟨es, List.mem_cons_self⟩
          · obtain ⟨r'', hm⟩ := m g hg
            exact ⟨r'', List.mem_cons_of_mem _ hm⟩
        · rcases List.mem_cons.mp hg with z | hg
          · cases z; exact List.mem_cons_self
          · exact List.mem_cons_of_mem _ (m' g r hg)
    | _ => cases hd
theorem tups_sortable {a : Addr} {ds : List D} {vs : List Value} {n : Nat} {k : Value → D} (hk : ∀ v ∈ vs, HD s.heap (k v) v) (hd : HDs s.heap ds vs) (ok : TupsOk n ds) (hu : A.units + n < cLine) (h0 : 0 < vs.length) (ha : ∀ o, s.heap.get? a = some o → o.cls ≠ .type "tuple") :
    SrtO.SortableO prog w A s a vs fun v u => ltT (k v) (k u) := by
  intro h' keep
  have kp : ∀ b o, s.heap.get? b = some o → o.cls = .type "tuple" → h'.get? b = some o := fun b o e c => keep b o (fun z => by subst z; exact ha o e c) e
  have hd' : HDs h' ds vs := hd.keep kp
  obtain ⟨fs, fd, t, l, q, m, mc⟩ := firsts_D hd' ok.ne
  -- the first items are all ints, or all tuples
  obtain ⟨b, hb⟩ : ∃ b, b = fd.all isI := ⟨_, rfl⟩
  have hall : ∀ f ∈ fd, ∀ g ∈ fd, cmpOk f g = true := fun f hf g hg => by
    obtain ⟨r, h1⟩ := m f hf
    obtain ⟨r', h2⟩ := m g hg
    have := ok.ok _ h1 _ h2
    unfold cmpOk cmpOks at this
    rw [Bool.and_eq_true] at this
    exact this.1
  have hcl : ∀ x ∈ fs, ∃ d ∈ fd, HD h' d x := fun x hx => q.mem hx
  refine ⟨tuples' b, fun Q E hq => ?_, ?_⟩
  · cases b with
    | true =>
      have hi : ∀ f ∈ fd, isI f = true := by simpa using hb.symm
      refine PySem.W.kat_kind (T := .type "int") t (by omega) (fun f hm => ?_) (by rfl) ?_
      · obtain ⟨d, hd1, hd2⟩ := hcl f hm
        have := hi d hd1
        cases d with
        | int i => unfold HD at hd2; obtain ⟨t, rfl⟩ := hd2; exact PySem.W.Looks.now
        | _ => cases this
      · have e : (Value.type "int" != Value.type "tuple") = true := by first | decide +kernel | rfl | decide
        rw [e]
        exact hq
    | false =>
      have hi : ∀ f ∈ fd, isI f = false := fun f hf => by
        cases qf : isI f with
        | false => rfl
        | true =>
          have : fd.all isI = true := by
            rw [List.all_eq_true]
            intro g hg
            have := hall f hf g hg
            cases f with
            | int i => cases g with
              | int j => rfl
              | _ => cases this
            | _ => cases qf
          rw [← hb] at this
          cases this
      refine PySem.W.kat_kind (T := .type "tuple") t (by omega) (fun f hm => ?_) (by rfl) ?_
      · obtain ⟨d, hd1, hd2⟩ := hcl f hm
        have := hi d hd1
        cases d with
        | int i => cases this
        | tup es =>
          unfold HD at hd2
          obtain ⟨a, o, vs, n, rfl, e2, e3, e4, hr⟩ := hd2
          have := (show PySem.W.Looks (model prog w) h' (typeOf (.ref a)) o.cls from (PySem.W.Looks.ld e2).andThen .now)
          rw [e3] at this
          exact this
        | _ => unfold HD at hd2; exact hd2.elim
      · have e : (Value.type "tuple" != Value.type "tuple") = false := by first | decide +kernel | rfl | decide
        rw [e]
        exact hq
  · intro p r hm hm'
    obtain ⟨d, m1, d1⟩ := hd'.mem hm
    obtain ⟨e, m2, e1⟩ := hd'.mem hm'
    obtain ⟨d', m1', d1'⟩ := hd.mem hm
    obtain ⟨e', m2', e1'⟩ := hd.mem hm'
    have ed := HD.uniq d1 (d1'.keep kp)
    have ee := HD.uniq e1 (e1'.keep kp)
    subst ed ee
    show wpAny (model prog w) A (keyLt' (tuples' b) p.1 r.1) (fun x s' => s' = { s with heap := h' } ∧ x = ltT (k p.1) (k r.1)) (fun _ _ => False) { s with heap := h' }
    rw [HD.uniq (hk _ hm) d1', HD.uniq (hk _ hm') e1']
    have n1 := ok.ne _ m1
    have n2 := ok.ne _ m2
    have o1 := ok.ok _ m1 _ m2
    have p1 := ok.pl _ m1
    cases d with
    | tup ds1 =>
      cases e with
      | tup ds2 =>
        have d1c := d1
        unfold HD at d1 e1
        obtain ⟨a1, ob1, us, n3, q1, q2, q3, q4, q5⟩ := d1
        obtain ⟨a2, ob2, us', n4, r1, r2, r3, r4, r5⟩ := e1
        rw [q1, r1]
        have l1 := q5.length
        have l2 := r5.length
        cases n with
        | zero => simp [D.plain] at p1
        | succ n =>
          refine PySem.W.kat_lt q2 q4 r2 r4 (kat_lex (n := n) ds1 ds2 us.toList us'.toList 0 q5 r5 (by simpa [cmpOk] using o1) (by simpa [D.plain] using p1) (by omega) (fun hb1 _ => ?_) ?_ _ ?_)
          · rw [hb] at hb1
            cases ds1 with
            | nil => cases n1
            | cons f fr =>
              rw [List.all_eq_true] at hb1
              have : f ∈ fd := mc f fr m1
              have := hb1 f this
              cases f with
              | int i => rfl
              | _ => cases this
          · unfold ltT
            simp only [cmpT]
          · have h1 : us.size = ds1.length := by rw [l1]; simp
            have h2 : us'.size = ds2.length := by rw [l2]; simp
            rw [h1, h2]
      | _ => cases n2
    | _ => cases n1
end
section
variable {X : Cx} {pins : List (Addr × Obj)} {s : Shared} {σ : L2.St} {H : Hp}
theorem cmpOks_self : ∀ {ds : List D} {d : D}, cmpOks ds ds = true → d ∈ ds → cmpOk d d = true := fun {ds d} h m => by
  obtain ⟨j, hj, e⟩ := List.getElem_of_mem m
  have e' : ds[j]? = some d := by rw [List.getElem?_eq_getElem hj, e]
  exact cmpOks_at h e' e'
mutual
theorem rep_HD (I : Inv X pins σ H s) : ∀ {d : D} {v : V} {u : Value}, Rep X.K H d v → RelV v u → cmpOk d d = true → HD s.heap d u
  | .int i, v, u, h, r, ok => by
    cases rep_int h
    unfold HD
    exact r
  | .tup ds, v, u, h, r, ok => by
    obtain ⟨a, vs, rfl, hs, hr⟩ := rep_tup h
    obtain rfl : u = Value.ref a := r
    obtain ⟨its, rv, ⟨o, ho, hc, n, hd⟩, _⟩ := I.tuple hs
    unfold HD
    exact ⟨a, o, its.toArray, n, rfl, ho, hc, hd, by simpa using reps_HD I hr rv (by simpa [cmpOk] using ok)⟩
  | .non, v, u, h, r, ok => by simp [cmpOk] at ok
  | .bl _, v, u, h, r, ok => by simp [cmpOk] at ok
  | .str _, v, u, h, r, ok => by simp [cmpOk] at ok
  | .lst _, v, u, h, r, ok => by simp [cmpOk] at ok
  | .dict _ _, v, u, h, r, ok => by simp [cmpOk] at ok
  | .obj _ _ _, v, u, h, r, ok => by simp [cmpOk] at ok
theorem reps_HD (I : Inv X pins σ H s) : ∀ {ds : List D} {vs : List V} {us : List Value}, Reps X.K H ds vs → Vals vs us → cmpOks ds ds = true → HDs s.heap ds us
  | [], vs, us, h, r, ok => by
    unfold Reps at h
    subst h
    cases r
    unfold HDs
    rfl
  | d :: ds, vs, us, h, r, ok => by
    unfold Reps at h
    obtain ⟨v, vs', rfl, h1, h2⟩ := h
    cases r with
    | cons r1 r2 =>
      unfold cmpOks at ok
      rw [Bool.and_eq_true] at ok
      unfold HDs
      exact ⟨_, _, rfl, rep_HD I h1 r1 ok.1, reps_HD I h2 r2 ok.2⟩
end
theorem reps_HDs (I : Inv X pins σ H s) : ∀ {ds : List D} {vs : List V} {us : List Value}, Reps X.K H ds vs → Vals vs us → (∀ d ∈ ds, cmpOk d d = true) → HDs s.heap ds us
  | [], vs, us, h, r, ok => by
    unfold Reps at h
    subst h
    cases r
    unfold HDs
    rfl
  | d :: ds, vs, us, h, r, ok => by
    unfold Reps at h
    obtain ⟨v, vs', rfl, h1, h2⟩ := h
    cases r with
    | cons r1 r2 =>
      unfold HDs
      exact ⟨_, _, rfl, rep_HD I h1 r1 (ok _ List.mem_cons_self), reps_HDs I h2 r2 fun e he => ok e (List.mem_cons_of_mem _ he)⟩
theorem reps_at {K : PySem.W.Frag} {H : Hp} : ∀ {ds : List D} {us : List Value} {k : Value → D} {b : Value → V}, Reps K H ds (us.map b) → us.map k = ds → ∀ u ∈ us, Rep K H (k u) (b u)
  | [], us, k, b, h, e, u, m => by
    cases us with
    | nil => cases m
    | cons _ _ => simp at e
  | d :: ds, [], k, b, h, e, u, m => by cases m
  | d :: ds, x :: us, k, b, h, e, u, m => by
    rw [List.map_cons] at h e
    obtain ⟨h1, h2⟩ := Reps.inv h
    cases e
    rcases List.mem_cons.mp m with rfl | m
    · exact h1
    · exact reps_at h2 rfl u m
theorem reps_of {K : PySem.W.Frag} {H : Hp} {k : Value → D} {b : Value → V} : ∀ {us : List Value}, (∀ u ∈ us, Rep K H (k u) (b u)) → Reps K H (us.map k) (us.map b)
  | [], h => Reps.nil
  | u :: us, h => Reps.cons (h u List.mem_cons_self) (reps_of fun x hx => h x (List.mem_cons_of_mem _ hx))
theorem rep_ref {K : PySem.W.Frag} {H : Hp} {d : D} {v : V} (h : Rep K H d v) (hn : ne1 d = true) : ∃ a, v = .ref a := by
  cases d with
  | tup ds => obtain ⟨a, _, e, _⟩ := rep_tup h; exact ⟨a, e⟩
  | _ => cases hn
theorem reps_memD {K : PySem.W.Frag} {H : Hp} : ∀ {ds : List D} {vs : List V} {v : V}, Reps K H ds vs → v ∈ vs → ∃ d ∈ ds, Rep K H d v
  | [], vs, v, h, m => by unfold Reps at h; subst h; cases m
  | d :: ds, vs, v, h, m => by
    unfold Reps at h
    obtain ⟨v', r, rfl, h1, h2⟩ := h
    rcases List.mem_cons.mp m with rfl | m
    · exact ⟨d, List.mem_cons_self, h1⟩
    · obtain ⟨e, m', q⟩ := reps_memD h2 m
      exact ⟨e, List.mem_cons_of_mem _ m', q⟩
theorem call_sortedT {S : List Addr} {a : Addr} {xs : List V} {ds : List D} {us : List Value} {Q : VK} (I : Inv X pins σ H s) (r : Vals [V.ref a] us) (hu : X.A.units + 66 < cLine) (hS : SOk H S) (hs : SqL X.K H a xs) (hd : Reps X.K (hide H S) ds xs) (ok : TupsOk 60 ds)
    (q : ∀ v H', Post X.K H S true (.lst (sortD ds)) v H' → Q v H') : wpAny (model X.prog X.w) X.A (call (.builtin "sorted") us) (EP X pins σ Q) X.xe s := by
  obtain ⟨its, rv, hl, hz⟩ := I.list hs
  obtain ⟨u, rfl, ru⟩ := vals1 r
  obtain rfl : u = Value.ref a := ru
  have hD : HDs s.heap ds its := reps_HDs I (hd.mono hide_le) rv fun d hd => ok.ok d hd d hd
  obtain ⟨e1, e2⟩ := refs_back rv fun x m => by
    obtain ⟨d, hd1, hd2⟩ := reps_memD hd m
    exact rep_ref hd2 (ok.ne d hd1)
  have hk : ∀ v ∈ its, HD s.heap (kd s.heap v) v := fun v hv => by
    obtain ⟨d, m, h⟩ := hD.mem hv
    rw [kd_of h]
    exact h
  refine SrtO.sorted_ord (swo_key (kd s.heap)) hl.isList (by rw [← rv.length]; exact hz) (fun h2 h₁ a' ha kk => ?_) fun out h1 h2 => ?_
  · have kp : ∀ b o, s.heap.get? b = some o → o.cls = .type "tuple" → h₁.get? b = some o := fun b o e _ => (kk b o e).2
    refine tups_sortable (s := { s with heap := h₁ }) (n := 60) (fun v hv => (hk v hv).keep kp) (hD.keep kp) ok ?_ (by omega) fun o e => ?_
    · show X.A.units + 1 + 1 + 60 < cLine
      omega
    · have e' : some o = some (seqObj "list" its.toArray 0) := e.symm.trans ha
      cases e'
      intro c
      exact absurd (Value.type.inj c) (by decide)
  · have hp := h2.perm
    have h3 : ∀ u ∈ out, ∃ a, u = Value.ref a := fun u hu => e2 u (hp.mem_iff.mp hu)
    obtain ⟨ep, he'⟩ := PyProof.Rows.sortedAll_at s.heap its out.toArray
    have hlen : (out.map backV).length ≤ sizeLine := by
      rw [List.length_map, hp.length_eq, ← rv.length]
      exact hz
    have hks := hD.kds
    have esort : sortD ds = out.map (kd s.heap) := by
      have h4 : SrtO.Srtd ltT (out.map (kd s.heap)) := SrtO.srtd_map h1
      have h5 : SrtO.Stb ltT (out.map (kd s.heap)) ds := by
        rw [← hks]
        exact SrtO.Stb.map swo_ltT (kd s.heap) h2
      exact (srt_uniq swo_ltT h4 h5).symm
    have hrep : Reps X.K (hide H S) (sortD ds) (out.map backV) := by
      rw [esort]
      refine reps_of fun u hu => ?_
      rw [e1] at hd
      exact reps_at hd hks u (hp.mem_iff.mp hu)
    exact ⟨.ref _, upd H (s.heap.objs.size + 1) (.lst (out.map backV)), I.laid (t' := s.toks) (fun _ _ => PyProof.Rows.sortedAll_old) (Nat.le_succ _) ⟨hlen, _, ep, vals_back h3, he'⟩, rfl, q _ _ (post_lst hS hrep (I.hok.fresh (Nat.le_succ _)))⟩
theorem ints_sort {ns ms : List Int} (h1 : ms.Perm ns) (h2 : ms.Pairwise (· ≤ ·)) : sortD (ns.map .int) = ms.map .int := by
  refine (srt_uniq swo_ltT ?_ ?_).symm
  · refine List.pairwise_map.mpr (h2.imp fun {a b} h => ?_)
    rw [ltT_no]
    simp [cmpT]
    rw [Int.compare_eq_lt]
    omega
  · refine ⟨h1.map _, fun x => ?_⟩
    rw [List.filter_map, List.filter_map]
    have e : ∀ l : List Int, ∃ P : Int → Bool, l.filter (SrtO.eqv ltT x ∘ D.int) = l.filter P ∧ ∀ a b, P a = true → P b = true → a = b := by
      intro l
      refine ⟨SrtO.eqv ltT x ∘ D.int, rfl, fun a b ha hb => ?_⟩
      have := SrtO.eqv_trans swo_ltT (x := x) (u := .int a) (v := .int b) ha
      have hb' : SrtO.eqv ltT x (.int b) = true := hb
      rw [hb'] at this
      obtain ⟨c1, c2⟩ := SrtO.eqv_iff.mp this.symm
      rw [ltT_no] at c1 c2
      simp [cmpT] at c1 c2
      rw [Int.compare_eq_lt] at c1 c2
      omega
    congr 1
    obtain ⟨P, e1, u⟩ := e ms
    rw [e1]
    have e2 : ns.filter (SrtO.eqv ltT x ∘ D.int) = ns.filter (SrtO.eqv ltT x ∘ D.int) := rfl
    have hf := h1.filter (SrtO.eqv ltT x ∘ D.int)
    rw [e1] at hf
    -- all alike
    have al : ∀ (l m : List Int), l.Perm m → (∀ a ∈ l, ∀ b ∈ l, a = b) → l = m := by
      intro l
      induction l with
      | nil => intro m hm _; exact (List.Perm.eq_nil hm.symm).symm
      | cons a l ih =>
        intro m hm hl
        cases m with
        | nil => exact absurd hm.length_eq (by simp)
        | cons b m =>
          have : a = b := hl a List.mem_cons_self b (hm.mem_iff.mpr List.mem_cons_self)
          subst this
          congr 1
          exact ih m hm.cons_inv fun x hx y hy => hl x (List.mem_cons_of_mem _ hx) y (List.mem_cons_of_mem _ hy)
    exact al _ _ hf fun a ha b hb => u a b ((List.mem_filter.mp ha).2) ((List.mem_filter.mp hb).2)
end
end Dl

/-! DlBf: built-ins over data. -/
namespace Dl
open PySem PySem.Spec PyProof.Rows L2
variable [Tbs]
section
variable {X : Cx}
/-! ### built-ins -/
def bfV : BF → Value
  | .len => .builtin "len" | .abs => .builtin "abs" | .int_ => .type "int" | .list_ => .type "list" | .tuple_ => .type "tuple" | .any_ => .builtin "any" | .all_ => .builtin "all" | .sum_ => .builtin "sum"
  | .sorted_ => .builtin "sorted" | .max2 => .builtin "max" | .maxl => .builtin "max" | .min2 => .builtin "min" | .bool_ => .type "bool"
def rBf (K : PySem.W.Frag) (f : BF) : List V → Hp → VK → Prop := fun vs H Q => ∃ S ds, SOk H S ∧ Reps K (hide H S) ds vs ∧ bltD f ds (fun d => ∀ v H', Post K H S true d v H' → Q v H')
theorem reps1 {K : PySem.W.Frag} {H : Hp} {d : D} {vs : List V} (h : Reps K H [d] vs) : ∃ v, vs = [v] ∧ Rep K H d v := by
  unfold Reps at h
  obtain ⟨v, r, rfl, h2, h3⟩ := h
  unfold Reps at h3
  subst h3
  exact ⟨v, rfl, h2⟩
theorem reps2 {K : PySem.W.Frag} {H : Hp} {d e : D} {vs : List V} (h : Reps K H [d, e] vs) : ∃ v w, vs = [v, w] ∧ Rep K H d v ∧ Rep K H e w := by
  unfold Reps at h
  obtain ⟨v, r, rfl, h2, h3⟩ := h
  obtain ⟨w, rfl, h4⟩ := reps1 h3
  exact ⟨v, w, rfl, h2, h4⟩
theorem bools_rep {K : PySem.W.Frag} {H : Hp} : ∀ {ds : List D} {vs : List V} {bs : List Bool}, Reps K H ds vs → bools ds = some bs → vs = bs.map V.bl
  | [], vs, bs, h, e => by
    unfold Reps at h; subst h
    unfold bools at e; cases e; rfl
  | d :: ds, vs, bs, h, e => by
    unfold Reps at h
    obtain ⟨v, r, rfl, h2, h3⟩ := h
    cases d with
    | bl b =>
      unfold bools at e
      cases q : bools ds with
      | none => rw [q] at e; cases e
      | some cs =>
        rw [q] at e
        cases e
        cases rep_bl h2
        rw [bools_rep h3 q]
        rfl
    | _ => unfold bools at e; cases e
theorem ints_rep {K : PySem.W.Frag} {H : Hp} : ∀ {ds : List D} {vs : List V} {bs : List Int}, Reps K H ds vs → intsD ds = some bs → vs = bs.map V.int
  | [], vs, bs, h, e => by
    unfold Reps at h; subst h
    unfold intsD at e; cases e; rfl
  | d :: ds, vs, bs, h, e => by
    unfold Reps at h
    obtain ⟨v, r, rfl, h2, h3⟩ := h
    cases d with
    | int b =>
      unfold intsD at e
      cases q : intsD ds with
      | none => rw [q] at e; cases e
      | some cs =>
        rw [q] at e
        cases e
        cases rep_int h2
        rw [ints_rep h3 q]
        rfl
    | _ => unfold intsD at e; cases e
theorem intsD_map : ∀ {ds : List D} {ns : List Int}, intsD ds = some ns → ds = ns.map .int
  | [], ns, e => by unfold intsD at e; cases e; rfl
  | d :: ds, ns, e => by
    cases d with
    | int b =>
      unfold intsD at e
      cases q : intsD ds with
      | none => rw [q] at e; cases e
      | some cs =>
        rw [q] at e
        cases e
        rw [intsD_map q]
        rfl
    | _ => unfold intsD at e; cases e
theorem call_bf (f : BF) (hc : X.calm = true) (hu : X.A.units + 66 < cLine) : CallR X (bfV f) (rBf X.K f) := by
  intro pins s σ H vs us Q I r h
  obtain ⟨S, ds, hS, hd, h⟩ := h
  unfold bltD at h
  split at h
  · obtain ⟨v, rfl, hv⟩ := reps1 hd
    obtain ⟨p, ys, rfl, hy, ry⟩ := rep_tup hv
    refine call_len pins s σ H _ us Q I r ⟨_, ys.length, rfl, .inr ⟨ys, Same.sqt hide_le hy, rfl⟩, ?_⟩
    have q := h (.int (ys.length : Nat)) H (by rw [ry.length]; exact post_int)
    exact q
  · obtain ⟨v, rfl, hv⟩ := reps1 hd
    obtain ⟨p, ys, rfl, hy, ry⟩ := rep_lst hv
    refine call_len pins s σ H _ us Q I r ⟨_, ys.length, rfl, .inl ⟨ys, Same.sql hide_le hy, rfl⟩, ?_⟩
    have q := h (.int (ys.length : Nat)) H (by rw [ry.length]; exact post_int)
    exact q
  · obtain ⟨v, rfl, hv⟩ := reps1 hd
    unfold Rep at hv
    obtain ⟨a', kas, vvs, rfl, e1, e2, e3, e4, _⟩ := hv
    obtain ⟨u, rfl, ru⟩ := vals1 r
    cases ru
    exact len_dict I (hide_le.at_ _ _ e1 trivial) e2 e3 e4 (h _ _ post_int)
  · obtain ⟨v, rfl, hv⟩ := reps1 hd
    cases rep_int hv
    exact L2.call_abs pins s σ H _ us Q I r ⟨_, rfl, h _ _ post_int⟩
  · obtain ⟨v, rfl, hv⟩ := reps1 hd
    cases rep_int hv
    exact L2.call_int1 pins s σ H _ us Q I r (.inl ⟨_, rfl, h _ _ post_int⟩)
  · obtain ⟨v, rfl, hv⟩ := reps1 hd
    cases rep_bl hv
    exact L2.call_int1 pins s σ H _ us Q I r (.inr ⟨_, rfl, h _ _ post_int⟩)
  · obtain ⟨v, rfl, hv⟩ := reps1 hd
    obtain ⟨p, ys, rfl, hy, ry⟩ := rep_tup hv
    exact call_list_of pins s σ H _ us Q I r ⟨p, ys, rfl, .inr (Same.sqt hide_le hy), fun l hl => h _ _ (post_lst hS ry hl)⟩
  · obtain ⟨v, rfl, hv⟩ := reps1 hd
    obtain ⟨p, ys, rfl, hy, ry⟩ := rep_lst hv
    exact call_list_of pins s σ H _ us Q I r ⟨p, ys, rfl, .inl (Same.sql hide_le hy), fun l hl => h _ _ (post_lst hS ry hl)⟩
  · obtain ⟨v, rfl, hv⟩ := reps1 hd
    unfold Rep at hv
    obtain ⟨a', kas, vvs, rfl, e1, e2, e3, e4, _⟩ := hv
    obtain ⟨u, rfl, ru⟩ := vals1 r
    cases ru
    exact list_dict I (I.ok.hd hc) (hide_le.at_ _ _ e1 trivial) e2 e3 e4 fun l hl => h _ _ (post_lst hS e4 hl)
  · obtain ⟨v, rfl, hv⟩ := reps1 hd
    obtain ⟨p, ys, rfl, hy, ry⟩ := rep_tup hv
    exact call_tuple_of pins s σ H _ us Q I r ⟨p, ys, rfl, .inr ⟨Same.sqt hide_le hy, h _ _ (post_old hv fun _ => rfl)⟩⟩
  · obtain ⟨v, rfl, hv⟩ := reps1 hd
    obtain ⟨p, ys, rfl, hy, ry⟩ := rep_lst hv
    exact call_tuple_of pins s σ H _ us Q I r ⟨p, ys, rfl, .inl ⟨Same.sql hide_le hy, fun l hl => h _ _ (post_tup hS ry hl)⟩⟩
  · obtain ⟨v, rfl, hv⟩ := reps1 hd
    obtain ⟨p, ys, rfl, hy, ry⟩ := rep_lst hv
    obtain ⟨bs, e, h⟩ := h
    have e' := bools_rep ry e
    subst e'
    exact cr_any hc pins s σ H _ us Q I r ⟨p, bs, rfl, Same.sql hide_le hy, h _ _ post_bl⟩
  · obtain ⟨v, rfl, hv⟩ := reps1 hd
    obtain ⟨p, ys, rfl, hy, ry⟩ := rep_lst hv
    obtain ⟨bs, e, h⟩ := h
    have e' := bools_rep ry e
    subst e'
    exact cr_all hc pins s σ H _ us Q I r ⟨p, bs, rfl, Same.sql hide_le hy, h _ _ post_bl⟩
  · obtain ⟨v, rfl, hv⟩ := reps1 hd
    obtain ⟨p, ys, rfl, hy, ry⟩ := rep_lst hv
    obtain ⟨bs, e, h⟩ := h
    have e' := ints_rep ry e
    subst e'
    exact cr_sum hc pins s σ H _ us Q I r ⟨p, bs, rfl, Same.sql hide_le hy, h _ _ post_int⟩
  · obtain ⟨v, w, rfl, hv, hw⟩ := reps2 hd
    cases rep_int hv; cases rep_int hw
    exact call_max2 hc pins s σ H _ us Q I r ⟨_, _, rfl, h _ _ post_int⟩
  · obtain ⟨v, w, rfl, hv, hw⟩ := reps2 hd
    cases rep_int hv; cases rep_int hw
    exact call_min2 hc pins s σ H _ us Q I r ⟨_, _, rfl, h _ _ post_int⟩
  · obtain ⟨v, rfl, hv⟩ := reps1 hd
    obtain ⟨p, ys, rfl, hy, ry⟩ := rep_lst hv
    obtain ⟨ns, e, e2, h⟩ := h
    have e' := ints_rep ry e
    subst e'
    exact cr_max hc pins s σ H _ us Q I r ⟨p, ns, rfl, Same.sql hide_le hy, List.length_pos_iff.mpr e2, fun m h1 h2 => h m h1 h2 _ _ post_int⟩
  · obtain ⟨v, rfl, hv⟩ := reps1 hd
    obtain ⟨p, ys, rfl, hy, ry⟩ := rep_lst hv
    obtain ⟨ok, h⟩ := h
    rcases ok with ⟨ns, e⟩ | ok
    · have e' := ints_rep ry e
      subst e'
      refine cr_sortedI pins s σ H _ us Q I r ⟨p, ns, rfl, Same.sql hide_le hy, fun ms q h1 h2 hn => h _ _ ?_⟩
      rw [intsD_map e, ints_sort h1 h2]
      exact post_lst hS (Reps.ints ms) hn
    · exact call_sortedT I r hu hS (Same.sql hide_le hy) ry ok h
  · exact h.elim
/-- the type of a value, also of dicts -/
def TyD (K : PySem.W.Frag) (H : Hp) (x : V) (t : Value) : Prop := TyX K H x t ∨ ∃ a kas vvs, x = .ref a ∧ H a = some (DicO a kas vvs) ∧ t = .type "dict"
def rIsiD (K : PySem.W.Frag) : List V → Hp → VK → Prop := fun xs H Q => ∃ (x c : V) (t u : Value) (b : Bool), xs = [x, c] ∧ ClsV c u ∧ TyD K H x t ∧ PySem.W.kitOne K t u = some b ∧ Q (.bl b) H
theorem call_isiD : CallR X (.builtin "isinstance") (rIsiD X.K) := by
  intro pins s σ H xs us Q I r h
  obtain ⟨x, c, t, u, b, rfl, k, ty, e, q⟩ := h
  rcases ty with ty | ⟨a, kas, vvs, rfl, ea, rfl⟩
  · exact call_isi pins s σ H _ us Q I r ⟨x, c, t, u, b, rfl, k, ty, e, q⟩
  · obtain ⟨u1, u2, rfl, r1, r2⟩ := vals2 r
    have e2 := k.eq r2
    subst e2
    cases (show u1 = Value.ref a from r1)
    obtain ⟨⟨us, o, es, ep, _, h1, h2, _⟩, _, _⟩ := (show ObjOk X.prog X.w H s.heap a (DicO a kas vvs) from I.hok a _ ea)
    exact PySem.W.kia_one PySem.W.kitx_dict I.kIn ⟨o, h1, h2.1⟩ e (fun z => nomatch z) fun tk => ⟨.bl b, H, I.tok tk, rfl, q⟩
/-- the type of a value -/
theorem tyx_of {K : PySem.W.Frag} {H : Hp} {d : D} {v : V} (h : Rep K H d v) : match d with
    | .non => TyD K H v (.type "NoneType") | .bl _ => TyD K H v (.type "bool") | .int _ => TyD K H v (.type "int") | .str _ => TyD K H v (.type "str")
    | .tup _ => TyD K H v (.type "tuple") | .lst _ => TyD K H v (.type "list") | .dict _ _ => TyD K H v (.type "dict") | _ => False := by
  cases d with
  | non => cases rep_non h; exact .inl (.base .non)
  | bl b => cases rep_bl h; exact .inl (.base (.bl b))
  | int b => cases rep_int h; exact .inl (.base (.int b))
  | str b => cases rep_str h; exact .inl (.base (.str b))
  | tup ds =>
    obtain ⟨a, vs, rfl, hs, _⟩ := rep_tup h
    rcases hs with (hs | ⟨o, hs⟩) | ⟨o, its, n, hk, hc, _⟩
    · exact .inl (.base (.tup hs))
    · exact .inl (.fTuple hs)
    · exact .inl (.kTuple hk hc)
  | lst ds =>
    obtain ⟨a, vs, rfl, hs, _⟩ := rep_lst h
    rcases hs with (hs | ⟨o, hs⟩) | ⟨o, its, n, hk, hc, _⟩
    · exact .inl (.base (.lst hs))
    · exact .inl (.base (.frz hs))
    · exact .inl (.kList hk hc)
  | dict ks vs =>
    unfold Rep at h
    obtain ⟨a, kas, vvs, h1, h2, _⟩ := h
    exact .inr ⟨a, kas, vvs, h1, h2, rfl⟩
  | obj _ _ _ => unfold Rep at h; exact h.elim
def tyS : TY → Option String
  | .tup => some "tuple" | .lst => some "list" | .int => some "int" | .bl => some "bool" | .str => some "str" | .cls _ => none
theorem isi_D {K : PySem.W.Frag} {H : Hp} {d : D} {v : V} {t : TY} {T : String} (h : Rep K H d v) (ht : tyS t = some T) : ∃ u, TyD K H v u ∧ PySem.W.kitOne K u (.type T) = some (isiD t d) := by
  have q := tyx_of h
  cases t with
  | cls c => cases ht
  | _ =>
    cases ht
    cases d with
    | obj _ _ _ => exact q.elim
    | _ => first | exact ⟨_, q, kit_ty (r := true) (by decide +kernel)⟩ | exact ⟨_, q, kit_ty (r := false) (by decide +kernel)⟩
end
end Dl

/-! DlTgt: targets; what is walked. -/
namespace Dl
open PySem PySem.Spec PyProof.Rows L2
variable [Tbs]

/-- names that stand for built-ins alone -/
def freeNames : List Str := ["len", "abs", "int", "list", "tuple", "any", "all", "sum", "max", "min", "bool", "str", "isinstance", "range", "sorted", "enumerate", "zip", "set", "dict", "super", "reversed"]
structure Gd (X : Cx) (N : List Str) (sc : Scope) (cm : Bool) (W : WX) (k : Nat) : Prop where
  nn : X.N = N
  nd : List.Nodup N
  sc : X.env.scope = sc
  tk : Takes X W
  cm : cm = true → X.calm = true ∧ Room k X.A
  hu : X.A.units + 66 < cLine
  fr : ∀ x ∈ freeNames, X.mg x = none

/-! ### targets -/
/-- what a target's store leaves -/
structure AsR (K : PySem.W.Frag) (H : Hp) (S : List Addr) (sl : List Nat) (σ : L2.St) (ρ : DEnv) (σ' : L2.St) (ρ' : DEnv) : Prop where
  len : σ'.length = σ.length
  lenr : ρ'.length = ρ.length
  out : ∀ i, i ∉ sl → σ'[i]? = σ[i]? ∧ ρ'[i]? = ρ[i]?
  inn : ∀ i d, i ∈ sl → ρ'[i]? = some (some d) → ∃ v, σ'[i]? = some (some v) ∧ Rep K (hide H S) d v
def gD (K : PySem.W.Frag) (t : CT) : TG := fun v σ H Q => ∃ S d ρ ρ', Rep K (hide H S) d v ∧ asgT t d ρ = some ρ' ∧ σ.length = ρ.length ∧ ∀ σ', AsR K H S t.slots σ ρ σ' ρ' → Q σ' H
def gDs (K : PySem.W.Frag) (ts : List CT) : TGs := fun vs σ H Q => ∃ S ds ρ ρ', Reps K (hide H S) ds vs ∧ asgTs ts ds ρ = some ρ' ∧ σ.length = ρ.length ∧ ∀ σ', AsR K H S (CT.slotsL ts) σ ρ σ' ρ' → Q σ' H
theorem AsR.refl {K : PySem.W.Frag} {H : Hp} {S : List Addr} {σ : L2.St} {ρ : DEnv} : AsR K H S [] σ ρ σ ρ := ⟨rfl, rfl, fun _ _ => ⟨rfl, rfl⟩, fun _ _ h => by cases h⟩
theorem AsR.trans {K : PySem.W.Frag} {H : Hp} {S : List Addr} {s1 s2 : List Nat} {σ σ1 σ2 : L2.St} {ρ ρ1 ρ2 : DEnv} (a : AsR K H S s1 σ ρ σ1 ρ1) (b : AsR K H S s2 σ1 ρ1 σ2 ρ2) : AsR K H S (s1 ++ s2) σ ρ σ2 ρ2 where
  len := b.len.trans a.len
  lenr := b.lenr.trans a.lenr
  out := fun i hi => by
    have h1 : i ∉ s1 := fun h => hi (List.mem_append_left _ h)
    have h2 : i ∉ s2 := fun h => hi (List.mem_append_right _ h)
    exact ⟨(b.out i h2).1.trans (a.out i h1).1, (b.out i h2).2.trans (a.out i h1).2⟩
  inn := fun i d hi e => by
    by_cases h2 : i ∈ s2
    · exact b.inn i d h2 e
    · have h1 : i ∈ s1 := (List.mem_append.mp hi).elim id fun z => absurd z h2
      obtain ⟨q1, q2⟩ := b.out i h2
      rw [q2] at e
      obtain ⟨v, e1, e2⟩ := a.inn i d h1 e
      exact ⟨v, q1.trans e1, e2⟩
theorem AsR.one {K : PySem.W.Frag} {H : Hp} {S : List Addr} {σ : L2.St} {ρ : DEnv} {i : Nat} {d : D} {v : V} (hl : σ.length = ρ.length) (r : Rep K (hide H S) d v) : AsR K H S [i] σ ρ (σ.set i (some v)) (ρ.set i (some d)) where
  len := by simp
  lenr := by simp
  out := fun j hj => by
    have hne : i ≠ j := fun e => hj (by simp [e])
    exact ⟨List.getElem?_set_ne hne, List.getElem?_set_ne hne⟩
  inn := fun j d' hj e => by
    have e' : j = i := by simpa using hj
    subst e'
    by_cases hi : j < ρ.length
    · rw [List.getElem?_set_self hi] at e
      cases e
      exact ⟨v, List.getElem?_set_self (by omega), r⟩
    · rw [List.getElem?_eq_none (by simpa using hi)] at e
      cases e
def nsB : Expr → Bool
  | .Starred .. => false
  | _ => true
theorem assignEach_map : ∀ (es : List Expr) (env : Env), (∀ e ∈ es, nsB e = true) → assignEach es env = es.map fun e => (false, assign e env)
  | [], env, _ => by simp [assignEach]
  | e :: es, env, h => by
    have h1 := h e (List.mem_cons_self)
    have ih := assignEach_map es env fun x hx => h x (List.mem_cons_of_mem _ hx)
    cases e <;> first | (cases h1; done) | (simp [assignEach, ih])
theorem okT_nostar {N : List Str} {sc : Scope} {fnB : Str → Bool} {t : CT} {e : Expr} (h : okT N sc fnB t e = true) : nsB e = true := by
  cases e with
  | Starred v p => cases t <;> simp [okT] at h
  | _ => rfl
theorem okTs_nostar {N : List Str} {sc : Scope} {fnB : Str → Bool} : ∀ {ts : List CT} {es : List Expr}, okTs N sc fnB ts es = true → ∀ e ∈ es, nsB e = true
  | [], es, h => by
    unfold okTs at h
    intro e he
    rw [List.isEmpty_iff] at h
    subst h
    cases he
  | t :: ts, [], h => by unfold okTs at h; cases h
  | t :: ts, e :: es, h => by
    unfold okTs at h
    rw [Bool.and_eq_true] at h
    intro x hx
    rcases List.mem_cons.mp hx with rfl | hx
    · exact okT_nostar h.1
    · exact okTs_nostar h.2 x hx
theorem asgTs_len {ts : List CT} : ∀ {ds : List D} {ρ ρ' : DEnv}, asgTs ts ds ρ = some ρ' → ts.length = ds.length := by
  induction ts with
  | nil => intro ds ρ ρ' h; cases ds with
    | nil => rfl
    | cons d ds => simp [asgTs] at h
  | cons t ts ih => intro ds ρ ρ' h; cases ds with
    | nil => simp [asgTs] at h
    | cons d ds =>
      unfold asgTs at h
      cases q : asgT t d ρ with
      | none => rw [q] at h; cases h
      | some ρ1 =>
        rw [q] at h
        simp [ih (show asgTs ts ds ρ1 = some ρ' from h)]
theorem okTs_len {N : List Str} {sc : Scope} {fnB : Str → Bool} : ∀ {ts : List CT} {es : List Expr}, okTs N sc fnB ts es = true → ts.length = es.length
  | [], es, h => by unfold okTs at h; rw [List.isEmpty_iff] at h; subst h; rfl
  | t :: ts, [], h => by unfold okTs at h; cases h
  | t :: ts, e :: es, h => by
    unfold okTs at h
    rw [Bool.and_eq_true] at h
    simp [okTs_len h.2]
theorem lookB {sc : Scope} {x : Str} (h : locB sc x = true) : sc.names.lookup x = some .local ∨ sc.names.lookup x = some .cell := by
  unfold locB at h
  split at h <;> first | (left; assumption) | (right; assumption) | cases h
theorem lookV {sc : Scope} {x : Str} (h : visB sc x = true) : sc.names.lookup x = some .local ∨ sc.names.lookup x = some .cell ∨ sc.names.lookup x = some .free := by
  unfold visB at h
  split at h <;> first | (left; assumption) | (right; left; assumption) | (right; right; assumption) | cases h
mutual
theorem pg_D {X : Cx} {N : List Str} {sc : Scope} {fnB : Str → Bool} (hN : X.N = N) (nd : N.Nodup) (hs : X.env.scope = sc) (hc : X.calm = true) (hf : ∀ x, locB sc x = true → fnB x = true → X.fn x = true ∨ X.env.scope.names.lookup x = some .local) :
    ∀ (t : CT) (e : Expr), okT N sc fnB t e = true → PG X e (gD X.K t)
  | .nm i, e, h => by
    unfold okT at h
    split at h
    · rename_i x p
      rw [Bool.and_eq_true, Bool.and_eq_true, decide_eq_true_eq] at h
      have q := pg_name (X := X) (i := i) (x := x) (pos := p) (by rw [hN]; exact nd) (by rw [hN]; exact h.1.1) (by unfold L2.Loc; rw [hs]; exact lookB h.1.2) (hf x h.1.2 h.2)
      refine ⟨fun pins s σ H v u Q I r hw => q.run pins s σ H v u Q I r ?_⟩
      obtain ⟨S, d, ρ, ρ', hr, ha, hl, hq⟩ := hw
      unfold asgT at ha
      cases ha
      exact hq _ (AsR.one hl hr)
    · cases h
  | .tp ts, e, h => by
    unfold okT at h
    split at h
    · rename_i es k p
      have ih := pgs_D hN nd hs hc hf ts es h
      have en := assignEach_map es X.env (okTs_nostar h)
      have q := pg_tup (X := X) (es := es) (k := k) (pos := p) (n := es.length) hc ih (by rw [en]; simp) (by rw [en]; simp [List.findIdx?_map, List.findIdx?_eq_none_iff])
      refine ⟨fun pins s σ H v u Q I r hw => q.run pins s σ H v u Q I r ?_⟩
      obtain ⟨S, d, ρ, ρ', hr, ha, hl, hq⟩ := hw
      cases d with
      | tup ds =>
        unfold asgT at ha
        obtain ⟨a, vs, rfl, hx, hrs⟩ := rep_tup hr
        refine ⟨a, vs, rfl, Same.sqt hide_le hx, ?_, S, ds, ρ, ρ', hrs, ha, hl, fun σ' h' => hq σ' h'⟩
        rw [← hrs.length, ← asgTs_len ha, okTs_len h]
      | _ => unfold asgT at ha; cases ha
    · cases h
theorem pgs_D {X : Cx} {N : List Str} {sc : Scope} {fnB : Str → Bool} (hN : X.N = N) (nd : N.Nodup) (hs : X.env.scope = sc) (hc : X.calm = true) (hf : ∀ x, locB sc x = true → fnB x = true → X.fn x = true ∨ X.env.scope.names.lookup x = some .local) :
    ∀ (ts : List CT) (es : List Expr), okTs N sc fnB ts es = true → PGs X es (gDs X.K ts)
  | [], es, h => by
    unfold okTs at h
    rw [List.isEmpty_iff] at h
    subst h
    refine ⟨fun pins s σ H vs us Q I r hw => pgs_nil.run pins s σ H vs us Q I r ?_⟩
    obtain ⟨S, ds, ρ, ρ', hr, ha, hl, hq⟩ := hw
    cases ds with
    | nil =>
      unfold asgTs at ha
      cases ha
      unfold Reps at hr
      exact ⟨hr, hq _ AsR.refl⟩
    | cons d ds => simp [asgTs] at ha
  | t :: ts, [], h => by unfold okTs at h; cases h
  | t :: ts, e :: es, h => by
    have hns := okTs_nostar h
    unfold okTs at h
    rw [Bool.and_eq_true] at h
    have i1 := pg_D hN nd hs hc hf t e h.1
    have i2 := pgs_D hN nd hs hc hf ts es h.2
    have q := pgs_cons i1 i2 (by rw [assignEach_map _ _ hns, assignEach_map _ _ fun x hx => hns x (List.mem_cons_of_mem _ hx)]; simp)
    refine ⟨fun pins s σ H vs us Q I r hw => q.run pins s σ H vs us Q I r ?_⟩
    obtain ⟨S, ds, ρ, ρ', hr, ha, hl, hq⟩ := hw
    cases ds with
    | nil => simp [asgTs] at ha
    | cons d ds =>
      unfold asgTs at ha
      cases z : asgT t d ρ with
      | none => rw [z] at ha; cases ha
      | some ρ1 =>
        rw [z] at ha
        unfold Reps at hr
        obtain ⟨v, r', rfl, hr1, hr2⟩ := hr
        refine ⟨v, r', rfl, S, d, ρ, ρ1, hr1, z, hl, fun σ1 a1 => ⟨S, ds, ρ1, ρ', hr2, ha, by rw [a1.len, a1.lenr]; exact hl, fun σ2 a2 => hq σ2 ?_⟩⟩
        exact a1.trans a2
end

/-! ### what is walked -/
/-- from any heap that has all of H1's visible things: the items, one by one -/
structure DrawsD (K : PySem.W.Frag) (Vw : Hp) (J : It) (ds : List D) : Prop where
  go : ∀ (i : Nat) (H : Hp), Same Vw H → i < ds.length → J.go i H
  yld : ∀ (i : Nat) (H : Hp) (x : V) (H' : Hp), Same Vw H → J.yld i H x H' → H' = H ∧ ∀ d, ds[i]? = some d → Rep K Vw d x
  stop : ∀ (i : Nat) (H : Hp), Same Vw H → ds.length ≤ i → J.stop i H
def iW (K : PySem.W.Frag) (mg : Str → Option Value) (W : WX) (hid : List Nat) (F : DEnv → (D → Prop) → (Xn → Prop) → Prop) : TI := fun σ H R =>
  ∃ S ρ, SOk H S ∧ EV K S hid H σ ρ ∧ F ρ (fun d => ∃ ds, items d = some ds ∧ ∀ J H', Sm H H' → DrawsD K (hide H' S) J ds → R J H') (fun x => ∀ cls dd H', Sm H H' → XRep K mg x cls dd → W cls dd σ H')
theorem draws_tup {K : PySem.W.Frag} {Vw : Hp} {a : Addr} {ds : List D} {vs : List L2.V} (hs : SqT K Vw a vs) (hr : Reps K Vw ds vs) : DrawsD K Vw (Itt K a) ds where
  go := fun i H sm hi => by
    obtain ⟨v, e, _⟩ := hr.get (List.getElem?_eq_getElem hi)
    exact ⟨vs, v, Same.sqt sm hs, e⟩
  yld := fun i H x H' sm y => by
    refine ⟨y.1, fun d e => ?_⟩
    obtain ⟨v, e1, e2⟩ := hr.get e
    have e3 := y.2 vs (Same.sqt sm hs)
    rw [e1] at e3
    cases e3
    exact e2
  stop := fun i H sm hi => ⟨vs, Same.sqt sm hs, by rw [← hr.length]; exact hi⟩
theorem draws_lst {K : PySem.W.Frag} {Vw : Hp} {a : Addr} {ds : List D} {vs : List L2.V} (hs : SqL K Vw a vs) (hr : Reps K Vw ds vs) : DrawsD K Vw (Itl K a) ds where
  go := fun i H sm hi => by
    obtain ⟨v, e, _⟩ := hr.get (List.getElem?_eq_getElem hi)
    exact ⟨vs, v, Same.sql sm hs, e⟩
  yld := fun i H x H' sm y => by
    refine ⟨y.1, fun d e => ?_⟩
    obtain ⟨v, e1, e2⟩ := hr.get e
    have e3 := y.2 vs (Same.sql sm hs)
    rw [e1] at e3
    cases e3
    exact e2
  stop := fun i H sm hi => ⟨vs, Same.sql sm hs, by rw [← hr.length]; exact hi⟩
theorem rangeD_len (lo : Int) (n : Nat) : (rangeD lo n).length = n := by simp [rangeD]
theorem rangeD_get {lo : Int} {n i : Nat} {d : D} (h : (rangeD lo n)[i]? = some d) : i < n ∧ d = .int (lo + (i : Int)) := by
  unfold rangeD at h
  rw [List.getElem?_map] at h
  by_cases hi : i < n
  · rw [List.getElem?_range hi] at h
    cases h
    exact ⟨hi, rfl⟩
  · rw [List.getElem?_eq_none (by simpa using hi)] at h
    cases h
theorem draws_rng {K : PySem.W.Frag} {Vw : Hp} {lo : Int} {n : Nat} : DrawsD K Vw (Itr lo n) (rangeD lo n) where
  go := fun i H sm hi => by rw [rangeD_len] at hi; exact hi
  yld := fun i H x H' sm y => by
    refine ⟨y.1, fun d e => ?_⟩
    obtain ⟨_, rfl⟩ := rangeD_get e
    rw [y.2]
    exact rep_int'
  stop := fun i H sm hi => by rw [rangeD_len] at hi; exact hi
/-- a list or a tuple, walked -/
theorem pi_W {X : Cx} {tg l : Expr} {mg : Str → Option Value} {W : WX} {hid : List Nat} {e : CE} (hl : PE X l (tE X.K mg W hid e)) : PI X tg l (iW X.K mg W hid (wpE e)) := by
  refine ⟨fun pins s σ H R I h => ?_⟩
  obtain ⟨S, ρ, hS, hE, h⟩ := h
  refine thn (hl.run pins s σ H (fun v H' => ∃ d ds, Sm H H' ∧ Rep X.K (hide H' S) d v ∧ items d = some ds ∧ ∀ J H', Sm H H' → DrawsD X.K (hide H' S) J ds → R J H') I
    ⟨S, ρ, hS, hE, wpE_mono e h (fun d ⟨ds, e1, q⟩ v H' p => ⟨d, ds, p.same, p.rep, e1, q⟩) (fun _ q => q)⟩) fun v s1 ⟨x, H1, I1, r1, d, ds, sm, hr, hi, q⟩ => ?_
  cases d with
  | tup ds' =>
    cases hi
    obtain ⟨a, vs, rfl, hs, hrs⟩ := rep_tup hr
    cases r1
    obtain ⟨its, rv, p, hz⟩ := I1.tuple (Same.sqt hide_le hs)
    refine wpAny_pyIter_tuple (show s1.heap.IsTuple a its.toArray from p) ?_
    refine ⟨s1.heap.objs.size, [s1.heap.objs.size], _, _, H1, rfl, I1.kept (t' := s1.toks) fun b o e => Heap.get?_push_of_some _ e, turn_tuple a _, ⟨_, Heap.get?_push_size _ rfl, rfl, rfl⟩, fun b hb => ?_, q _ _ sm (draws_tup hs hrs)⟩
    have e : b = s1.heap.objs.size := by simpa using hb
    subst e
    exact I1.fpOk (Nat.le_refl _) (I1.hok.fresh (Nat.le_refl _))
  | lst ds' =>
    cases hi
    obtain ⟨a, vs, rfl, hs, hrs⟩ := rep_lst hr
    cases r1
    obtain ⟨its, rv, p, hz⟩ := I1.list (Same.sql hide_le hs)
    refine wpAny_pyIter_list p.isList ?_
    refine ⟨s1.heap.objs.size, [s1.heap.objs.size], _, _, H1, rfl, I1.kept (t' := s1.toks) fun b o e => Heap.get?_push_of_some _ e, turn_list a _, ⟨_, Heap.get?_push_size _ rfl, rfl, rfl⟩, fun b hb => ?_, q _ _ sm (draws_lst hs hrs)⟩
    have e : b = s1.heap.objs.size := by simpa using hb
    subst e
    exact I1.fpOk (Nat.le_refl _) (I1.hok.fresh (Nat.le_refl _))
  | _ => cases hi
end Dl

/-! DlSoundE: an expression's written code does what its core term says. -/
namespace Dl
open PySem PySem.Spec PyProof.Rows L2
variable [Tbs]
theorem PE.imp {X : Cx} {e : Expr} {t t' : TE} (h : PE X e t) (i : ∀ σ H Q, t' σ H Q → t σ H Q) : PE X e t' := ⟨fun pins s σ H Q I w => h.run pins s σ H Q I (i _ _ _ w)⟩
theorem PT.imp {X : Cx} {e : Expr} {t t' : TT} (h : PT X e t) (i : ∀ σ H Q, t' σ H Q → t σ H Q) : PT X e t' := ⟨fun pins s σ H Q I w => h.run pins s σ H Q I (i _ _ _ w)⟩
theorem PW.imp {X : Cx} {e : Expr} {t t' : TT} (h : PW X e t) (i : ∀ σ H Q, t' σ H Q → t σ H Q) : PW X e t' := ⟨fun wh pins s σ H Q I w => h.run wh pins s σ H Q I (i _ _ _ w)⟩
theorem PA.imp {X : Cx} {e : List Expr} {t t' : TA} (h : PA X e t) (i : ∀ σ H Q, t' σ H Q → t σ H Q) : PA X e t' := ⟨fun pos pins s σ H Q I w => h.run pos pins s σ H Q I (i _ _ _ w)⟩
section
variable {K : PySem.W.Frag} {mg : Str → Option Value} {W : WX} {hid : List Nat} {σ : L2.St} {H H1 : Hp} {S : List Addr} {ρ : DEnv}
theorem Post.trans {fr : Bool} {d : D} {v : V} {H' : Hp} (sm : Sm H H1) (p : Post K H1 S fr d v H') : Post K H S fr d v H' := ⟨sm.trans p.same, p.rep, fun e => Top.of fun hc => ((p.top e).c hc).frame sm⟩
theorem tE_in {ce : CE} {Q : VK} {Qd : D → Prop} {Ed : Xn → Prop} (hS : SOk H S) (hE : EV K S hid H σ ρ) (h : wpE ce ρ Qd Ed)
    (hq : ∀ d v H', Qd d → Post K H S ce.fresh d v H' → Q v H') (hx : ∀ x cls dd H', Ed x → Sm H H' → XRep K mg x cls dd → W cls dd σ H') : tE K mg W hid ce σ H Q :=
  ⟨S, ρ, hS, hE, wpE_mono ce h (fun d q v H' p => hq d v H' q p) (fun x e cls dd H' sm xr => hx x cls dd H' e sm xr)⟩
theorem tL_in {es : List CE} {Q : List V → Hp → Prop} {Qd : List D → Prop} {Ed : Xn → Prop} (hS : SOk H S) (hE : EV K S hid H σ ρ) (h : wpEs es ρ Qd Ed)
    (hq : ∀ ds vs H', Qd ds → Sm H H' → Reps K (hide H' S) ds vs → Q vs H') (hx : ∀ x cls dd H', Ed x → Sm H H' → XRep K mg x cls dd → W cls dd σ H') : tL K mg W hid es σ H Q :=
  ⟨S, ρ, hS, hE, wpEs_mono es h (fun d q v H' sm r => hq d v H' q sm r) (fun x e cls dd H' sm xr => hx x cls dd H' e sm xr)⟩
theorem tT_in {ce : CE} {Q : Bool → Hp → Prop} {Qd : Bool → Prop} {Ed : Xn → Prop} (hS : SOk H S) (hE : EV K S hid H σ ρ) (h : wpT ce ρ Qd Ed)
    (hq : ∀ k H', Qd k → Sm H H' → Q k H') (hx : ∀ x cls dd H', Ed x → Sm H H' → XRep K mg x cls dd → W cls dd σ H') : tTe K mg W hid ce σ H Q :=
  ⟨S, ρ, hS, hE, wpE_mono ce h (fun d ⟨k, e, q⟩ => ⟨k, e, fun H' sm => hq k H' q sm⟩) (fun x e cls dd H' sm xr => hx x cls dd H' e sm xr)⟩
/-- two expressions, an operation on their values -/
theorem bin_in {a b : CE} {F : D → D → (D → Prop) → Prop} {fr : Bool} {Q : VK} (hF : ∀ x y (Q Q' : D → Prop), F x y Q → (∀ d, Q d → Q' d) → F x y Q') (hS : SOk H S) (hE : EV K S hid H σ ρ)
    (h : wpE a ρ (fun x => wpE b ρ (fun y => F x y (fun d => ∀ v H', Post K H S fr d v H' → Q v H')) (fun x => ∀ cls dd H', Sm H H' → XRep K mg x cls dd → W cls dd σ H')) (fun x => ∀ cls dd H', Sm H H' → XRep K mg x cls dd → W cls dd σ H')) :
    tOp (rD K F fr) (tE K mg W hid a) (tE K mg W hid b) σ H Q :=
  tE_in hS hE h (fun x v1 H1 q p1 => tE_in (hS.mono p1.same) (hE.mono p1.same) q (fun y v2 H2 q2 p2 => ⟨S, x, y, (hS.mono p1.same).mono p2.same, p1.rep.mono (Sm.hide p2.same), p2.rep,
      hF _ _ _ _ q2 fun d k v H' p => k v H' (p.trans (p1.same.trans p2.same))⟩) fun x cls dd H' e sm xr => e cls dd H' (p1.same.trans sm) xr) fun x cls dd H' e sm xr => e cls dd H' sm xr
/-- the truth of a value -/
theorem tru_of {d : D} {v : V} {k : Bool} (h : Rep K H d v) (e : truD d = some k) : TruV K v H k := by
  cases d with
  | non => cases rep_non h; cases e; rfl
  | bl b => cases rep_bl h; cases e; rfl
  | int b => cases rep_int h; cases e; rfl
  | tup ds =>
    obtain ⟨a, vs, rfl, hs, hr⟩ := rep_tup h
    cases e
    refine .inr (.inl ⟨vs, hs, ?_⟩)
    have := hr.length
    cases ds <;> cases vs <;> simp_all
  | lst ds =>
    obtain ⟨a, vs, rfl, hs, hr⟩ := rep_lst h
    cases e
    refine .inl ⟨vs, hs, ?_⟩
    have := hr.length
    cases ds <;> cases vs <;> simp_all
  | _ => cases e
theorem TruV.hide {v : V} {k : Bool} (h : TruV K v (hide H S) k) : TruV K v H k := by
  cases v with
  | ref p =>
    rcases h with ⟨xs, hs, e⟩ | ⟨xs, hs, e⟩ | ⟨kvs, hs, e⟩
    · exact .inl ⟨xs, Same.sql hide_le hs, e⟩
    · exact .inr (.inl ⟨xs, Same.sqt hide_le hs, e⟩)
    · exact .inr (.inr ⟨kvs, hide_le.at_ _ _ hs trivial, e⟩)
  | _ => exact h
end
/-- no star, no slice, nothing whose test is its own -/
def plB : Expr → Bool
  | .Starred .. => false
  | .Slice .. => false
  | _ => true
def ptB : Expr → Bool
  | .UnaryOp .Not _ _ => false
  | .BoolOp .. => false
  | .IfExp .. => false
  | .Compare .. => false
  | _ => true
theorem okE_pl {N : List Str} {sc : Scope} {cm : Bool} {hid : List Nat} {c : CE} {e : Expr} (h : okE N sc cm hid c e = true) : plB e = true := by
  cases e with
  | Starred v p => cases c <;> simp [okE] at h
  | Slice a b c' p => cases c <;> simp [okE] at h
  | _ => rfl
theorem star_of {e : Expr} (h : plB e = true) (es : List Expr) (env : Env) : starEach (e :: es) env = (false, eval e env) :: starEach es env := by
  cases e <;> first | (cases h; done) | rfl
theorem subs_of {e : Expr} (h : plB e = true) : PlainIx e := by
  intro o i
  cases e <;> first | (cases h; done) | rfl
theorem okEs_star {N : List Str} {sc : Scope} {cm : Bool} {hid : List Nat} {pos : Pos} {env : Env} : ∀ {cs : List CE} {es : List Expr}, okEs N sc cm hid cs es = true → (backTo pos (starEach es env)).any (·.1) = false
  | [], es, h => by
    unfold okEs at h
    rw [List.isEmpty_iff] at h
    subst h
    rfl
  | c :: cs, [], h => by unfold okEs at h; cases h
  | c :: cs, e :: es, h => by
    unfold okEs at h
    rw [Bool.and_eq_true] at h
    rw [star_of (okE_pl h.1)]
    have ih := okEs_star (pos := pos) (env := env) h.2
    simpa [backTo] using ih
theorem okEs_len {N : List Str} {sc : Scope} {cm : Bool} {hid : List Nat} : ∀ {cs : List CE} {es : List Expr}, okEs N sc cm hid cs es = true → cs.length = es.length
  | [], es, h => by
    unfold okEs at h
    rw [List.isEmpty_iff] at h
    subst h
    rfl
  | c :: cs, [], h => by unfold okEs at h; cases h
  | c :: cs, e :: es, h => by
    unfold okEs at h
    rw [Bool.and_eq_true] at h
    simp [okEs_len h.2]
theorem isT_of {e : Expr} (h : ptB e = true) (env : Env) : ∀ whole, isTrue e env whole = (do let v ← whole; standAt e.pos; holding [v] (truthy v)) := by
  intro whole
  cases e with
  | UnaryOp op a p => cases op <;> first | (cases h; done) | rfl
  | BoolOp => cases h
  | IfExp => cases h
  | Compare => cases h
  | _ => rfl
theorem gloB_ok {sc : Scope} {x : Str} (h : gloB sc x = true) : sc.names.lookup x = some .globalImplicit ∧ (x == ("__debug__" : Str)) = false ∧ x ≠ ("__name__" : Str) := by
  unfold gloB at h
  rw [Bool.and_eq_true, Bool.and_eq_true] at h
  obtain ⟨⟨h1, h2⟩, h3⟩ := h
  refine ⟨?_, by simpa using h2, by simpa using h3⟩
  split at h1
  · assumption
  · cases h1
/-- a test by its value -/
theorem pt_of {X : Cx} {e : Expr} {mg : Str → Option Value} {W : WX} {hid : List Nat} {ce : CE} (h : PE X e (tE X.K mg W hid ce)) (hp : ptB e = true) : PT X e (tTe X.K mg W hid ce) :=
  PT.imp (pt_truth h (isT_of hp X.env)) fun σ H Q ⟨S, ρ, hS, hE, hw⟩ => tE_in hS hE hw (fun d v H' ⟨k, e, q⟩ p => ⟨k, TruV.hide (tru_of p.rep e), q H' p.same⟩) fun x cls dd H' e sm xr => e cls dd H' sm xr
/-- a comparison as a test -/
theorem pt_cmpD {X : Cx} {op : CmpOp} {l r : Expr} {mg : Str → Option Value} {W : WX} {hid : List Nat} {a b : CE} {F : D → D → (D → Prop) → Prop} {fr : Bool} {ce : CE} {pos : Pos} (hF : ∀ x y (Q Q' : D → Prop), F x y Q → (∀ d, Q d → Q' d) → F x y Q')
    (ho : OpR X (compareOp op) (rD X.K F fr)) (ha : PE X l (tE X.K mg W hid a)) (hb : PE X r (tE X.K mg W hid b)) (hm : behindInMarks op r = false)
    (hB : ∀ x y (Q : D → Prop), F x y Q → F x y fun d => Q d ∧ ∃ k, d = .bl k)
    (hw : ∀ ρ Q E, wpE ce ρ Q E = wpE a ρ (fun x => wpE b ρ (fun y => F x y Q) E) E) : PT X (.Compare l [op] [r] pos) (tTe X.K mg W hid ce) := by
  refine PT.imp (pt_cmpR ho ha hb hm) fun σ H Q ⟨S, ρ, hS, hE, h⟩ => ?_
  show tOp (rD X.K F fr) _ _ σ H _
  unfold wpT at h
  rw [hw] at h
  refine bin_in (Q := fun x H' => ∃ k, x = .bl k ∧ Q k H') hF hS hE (wpE_mono a h (fun x q => wpE_mono b q (fun y q => hF _ _ _ _ (hB _ _ _ q) ?_) fun _ q => q) fun _ q => q)
  rintro d ⟨⟨k, e, q⟩, k', rfl⟩ v H' p
  cases e
  cases rep_bl p.rep
  exact ⟨_, rfl, q H' p.same⟩
theorem cmpD_bl (o : CO) (x y : D) (Q : D → Prop) (h : cmpD o x y Q) : cmpD o x y fun d => Q d ∧ ∃ k, d = .bl k := by
  unfold cmpD at h ⊢
  split at h
  · exact ⟨h.1, h.2.1, h.2.2, _, rfl⟩
  · exact ⟨h.1, h.2.1, h.2.2, _, rfl⟩
  all_goals
    split at h
    · exact ⟨h, _, rfl⟩
    · exact h.elim
theorem memD_bl (ng : Bool) (x y : D) (Q : D → Prop) (h : memD x y fun r => Q (.bl (ng != r))) : memD x y fun r => (fun d => Q d ∧ ∃ k, d = .bl k) (.bl (ng != r)) := memD_mono h fun r q => ⟨q, _, rfl⟩
theorem mark_of {op : CmpOp} {r : Expr} (h : ∀ es k p, r ≠ .Set es k p) : behindInMarks op r = false := by
  cases r <;> first | rfl | exact absurd rfl (h _ _ _)
theorem okE_noset {N : List Str} {sc : Scope} {cm : Bool} {hid : List Nat} {c : CE} {e : Expr} (h : okE N sc cm hid c e = true) : ∀ es k p, e ≠ .Set es k p := by
  intro es k p z
  subst z
  cases c <;> simp [okE] at h
end Dl

namespace Dl
open PySem PySem.Spec PyProof.Rows L2
variable [Tbs]
/-- what is to be shown of a core term -/
def Snd (ce : CE) (N : List Str) (sc : Scope) (cm : Bool) (hid : List Nat) (e : Expr) (X : Cx) (W : WX) : Prop :=
  (okE N sc cm hid ce e = true → PE X e (tE X.K X.mg W hid ce) ∧ PT X e (tTe X.K X.mg W hid ce)) ∧ ∀ tg, PI X tg e (iW X.K X.mg W hid (wpE ce))
theorem Snd.of {ce : CE} {N : List Str} {sc : Scope} {cm : Bool} {hid : List Nat} {e : Expr} {X : Cx} {W : WX} (h : PE X e (tE X.K X.mg W hid ce)) (g : PT X e (tTe X.K X.mg W hid ce)) : Snd ce N sc cm hid e X W :=
  ⟨fun _ => ⟨h, g⟩, fun _ => pi_W h⟩
theorem Snd.of1 {ce : CE} {N : List Str} {sc : Scope} {cm : Bool} {hid : List Nat} {e : Expr} {X : Cx} {W : WX} (h : PE X e (tE X.K X.mg W hid ce)) (hp : ptB e = true) : Snd ce N sc cm hid e X W := Snd.of h (pt_of h hp)
theorem okI_of {N : List Str} {sc : Scope} {cm : Bool} {hid : List Nat} {c : CE} {e : Expr} (h : okE N sc cm hid c e = true) : okI N sc cm hid c e = true := by
  cases c <;> first | (simp only [okI]; exact h) | (simp [okE] at h; done)
theorem gl_of {X : Cx} {N : List Str} {sc : Scope} {cm : Bool} {W : WX} {k : Nat} (G : Gd X N sc cm W k) {x : Str} (h : gloB sc x = true) : Gl X x := by
  show X.env.scope.names.lookup x = some .globalImplicit
  rw [G.sc]
  exact (gloB_ok h).1
section
variable {K : PySem.W.Frag} {mg : Str → Option Value} {W : WX} {hid : List Nat} {σ : L2.St} {H : Hp}
/-- a reading of a plain list as one of the layer's argument lists -/
theorem tL_nil {Q : List V → Hp → Prop} (h : tL K mg W hid [] σ H Q) : tNil σ H Q := by
  obtain ⟨S, ρ, hS, hE, h⟩ := h
  unfold wpEs at h
  exact h _ _ (Sm.refl _) Reps.nil
theorem tL_cons {e : CE} {es : List CE} {Q : List V → Hp → Prop} (h : tL K mg W hid (e :: es) σ H Q) : tCons (tE K mg W hid e) (tL K mg W hid es) σ H Q := by
  obtain ⟨S, ρ, hS, hE, h⟩ := h
  unfold wpEs at h
  exact tE_in hS hE h (fun d v H1 q p => tL_in (hS.mono p.same) (hE.mono p.same) q (fun ds vs H2 q2 sm r => q2 _ _ (p.same.trans sm) (.cons (p.rep.mono (Sm.hide sm)) r)) fun x cls dd H' e sm xr => e cls dd H' (p.same.trans sm) xr)
    fun x cls dd H' e sm xr => e cls dd H' sm xr
end
/-! ### comprehensions -/
theorem wipe_len (σ : L2.St) : ∀ vs : List Nat, (wipe σ vs).length = σ.length
  | [] => rfl
  | v :: vs => by unfold wipe; rw [List.length_set, wipe_len σ vs]
theorem wipe_out {σ : L2.St} {i : Nat} : ∀ {vs : List Nat}, i ∉ vs → (wipe σ vs)[i]? = σ[i]?
  | [], _ => rfl
  | v :: vs, h => by
    unfold wipe
    have h1 : v ≠ i := fun e => h (by simp [e])
    rw [List.getElem?_set_ne h1]
    exact wipe_out fun z => h (List.mem_cons_of_mem _ z)
theorem wipe_in {σ : L2.St} {i : Nat} : ∀ {vs : List Nat}, i ∈ vs → i < σ.length → (wipe σ vs)[i]? = some none
  | [], h, _ => by cases h
  | v :: vs, h, hl => by
    unfold wipe
    by_cases e : v = i
    · subst e
      rw [List.getElem?_set_self (by rw [wipe_len]; exact hl)]
    · rw [List.getElem?_set_ne e]
      exact wipe_in ((List.mem_cons.mp h).elim (fun z => absurd z.symm e) id) hl
theorem wipe_eq {σ σ2 : L2.St} {vs : List Nat} (hl : σ2.length = σ.length) (h : ∀ i, i ∉ vs → σ2[i]? = σ[i]?) : wipe σ2 vs = wipe σ vs := by
  refine List.ext_getElem? fun i => ?_
  by_cases hi : i ∈ vs
  · by_cases hz : i < σ.length
    · rw [wipe_in hi hz, wipe_in hi (by omega)]
    · rw [List.getElem?_eq_none (by rw [wipe_len]; omega), List.getElem?_eq_none (by rw [wipe_len]; omega)]
  · rw [wipe_out hi, wipe_out hi, h i hi]
-- the slots of a target that stands
mutual
theorem okT_slots {N : List Str} {sc : Scope} {fnB : Str → Bool} : ∀ (t : CT) (e : Expr), okT N sc fnB t e = true → ∀ i ∈ t.slots, i < N.length
  | .nm j, e, h, i, hi => by
    unfold CT.slots at hi
    have e1 : i = j := by simpa using hi
    subst e1
    unfold okT at h
    split at h
    · rw [Bool.and_eq_true, Bool.and_eq_true, decide_eq_true_eq] at h
      exact (List.getElem?_eq_some_iff.mp h.1.1).1
    · cases h
  | .tp ts, e, h, i, hi => by
    unfold CT.slots at hi
    unfold okT at h
    split at h
    · exact okTs_slots ts _ h i hi
    · cases h
theorem okTs_slots {N : List Str} {sc : Scope} {fnB : Str → Bool} : ∀ (ts : List CT) (es : List Expr), okTs N sc fnB ts es = true → ∀ i ∈ CT.slotsL ts, i < N.length
  | [], es, h, i, hi => by unfold CT.slotsL at hi; cases hi
  | t :: ts, [], h, i, hi => by unfold okTs at h; cases h
  | t :: ts, e :: es, h, i, hi => by
    unfold CT.slotsL at hi
    unfold okTs at h
    rw [Bool.and_eq_true] at h
    rcases List.mem_append.mp hi with hi | hi
    · exact okT_slots t e h.1 i hi
    · exact okTs_slots ts es h.2 i hi
end
theorem own_snd {N : List Str} : ∀ {sl : List Nat}, (∀ i ∈ sl, i < N.length) → (sl.filterMap fun i => (N[i]?).map fun x => (x, i)).map (·.2) = sl
  | [], _ => rfl
  | i :: sl, h => by
    have hi := h i (List.mem_cons_self)
    have ih := own_snd (N := N) fun j hj => h j (List.mem_cons_of_mem _ hj)
    rw [List.filterMap_cons, List.getElem?_eq_getElem hi]
    simp only [Option.map_some, List.map_cons, ih]
/-- the tests of a clause -/
def tIs (K : PySem.W.Frag) (mg : Str → Option Value) (W : WX) (hid : List Nat) (ifs : List CE) : TT := fun σ H Q =>
  ∃ S ρ, SOk H S ∧ EV K S hid H σ ρ ∧ wpIfs ifs ρ (fun k => ∀ H', Sm H H' → Q k H')
abbrev W0 : WX := fun _ _ _ _ => False
/-- [elt for t in it if ..] -/
theorem lc_in {K : PySem.W.Frag} {mg : Str → Option Value} {W : WX} {hid : List Nat} {σ : L2.St} {H : Hp} {Q : VK} {t : CT} {it : CE} {ifs : List CE} {elt : CE}
    (h : tE K mg W hid (.lc t it ifs elt) σ H Q) : tLc (iW K mg W hid (wpE it)) (gD K t) (tIs K mg W0 hid ifs) (tE K mg W0 hid elt) t.slots σ H Q := by
  obtain ⟨S, ρ, hS, hE, h⟩ := h
  unfold wpE at h
  refine ⟨S, ρ, hS, hE, wpE_mono it h (fun d ⟨xs, e, q⟩ => ⟨xs, e, fun J H1 sm dr Dn hD => ?_⟩) (fun _ q => q)⟩
  have nS : Dn ∉ S := (hS.mono sm).new hD
  have low : ∀ {Hc : Hp}, Sm H1 Hc → Same (hide H1 S) (hide Hc (Dn :: S)) := fun {Hc} sc => sc.low hD
  generalize hg : (fun (x : D) (K' : Option D → Prop) => ∃ ρ', asgT t x ρ = some ρ' ∧ wpIfs ifs ρ' (fun b => if b = true then wpE elt ρ' (fun y => K' (some y)) (fun _ => False) else K' none)) = g at q
  refine ⟨fun i m Hc => m = xs.length - i ∧ i ≤ xs.length ∧ ∃ acc accD, Hc Dn = some (.lst acc) ∧ Reps K (hide Hc (Dn :: S)) accD acc ∧ Sm H1 Hc ∧ wpLc g (xs.drop i) accD (fun acc => ∀ v H', Post K H S true (.lst acc) v H' → Q v H'),
    ⟨xs.length, by simp, Nat.zero_le _, [], [], upd_same, Reps.nil, same_new hD, q⟩, ?_⟩
  rintro i m Hc ⟨rfl, hi, acc, accD, hDn, hr, sc, q⟩
  have smc : Same (hide H1 S) Hc := hide_le.trans sc.w
  by_cases hlt : i < xs.length
  · refine .inr ⟨dr.go i Hc smc hlt, fun H' => i + 1 ≤ xs.length ∧ ∃ acc accD, H' Dn = some (.lst acc) ∧ Reps K (hide H' (Dn :: S)) accD acc ∧ Sm H1 H' ∧ wpLc g (xs.drop (i + 1)) accD (fun acc => ∀ v H', Post K H S true (.lst acc) v H' → Q v H'),
      fun H' n => ⟨xs.length - (i + 1), by omega, rfl, n⟩, fun x H' y => ?_⟩
    obtain ⟨rfl, hy⟩ := dr.yld i Hc x H' smc y
    have hx := hy xs[i] (List.getElem?_eq_getElem hlt)
    rw [List.drop_eq_getElem_cons hlt] at q
    unfold wpLc at q
    rw [← hg] at q
    obtain ⟨ρ', ha, q⟩ := q
    refine ⟨Dn :: S, xs[i], ρ, ρ', hx.mono (low sc), ha, by rw [wipe_len]; exact hE.len, fun σ' as => ⟨wipe_eq (by rw [as.len, wipe_len]) fun j hj => by rw [(as.out j hj).1, wipe_out hj], ?_⟩⟩
    have hS' : SOk H' (Dn :: S) := ((hS.mono sm).mono sc).cons (by rw [hDn]; trivial)
    have hE' : EV K (Dn :: S) hid H' σ' ρ' := ⟨by rw [as.len, as.lenr, wipe_len]; exact hE.len, fun j d' e1 e2 => by
      by_cases hj : j ∈ t.slots
      · exact as.inn j d' hj e1
      · obtain ⟨o1, o2⟩ := as.out j hj
        rw [o2] at e1
        obtain ⟨v, f1, f2⟩ := hE.rep j d' e1 e2
        refine ⟨v, ?_, f2.mono ((Sm.hide sm).trans (low sc))⟩
        rw [o1, wipe_out hj]; exact f1⟩
    refine ⟨Dn :: S, ρ', hS', hE', wpIfs_mono ifs q fun b q H3 sm3 => ?_⟩
    split at q
    · rename_i hb
      rw [if_pos hb]
      refine tE_in (hS'.mono sm3) (hE'.mono sm3) q (fun y vy H4 q4 p4 => ?_) fun x cls dd H' e sm xr => e
      obtain ⟨hz, q4⟩ := q4
      have h4 : H4 Dn = some (.lst acc) := p4.same.at_ (sm3.at_ hDn)
      have hl := hr.length
      refine ⟨acc, h4, by rw [← szl_eq, ← hl]; exact hz, hlt, acc ++ [vy], accD ++ [y], upd_same, ?_, ((sc.trans sm3).trans p4.same).wr hD h4 trivial fun q => code_ne fun φ z => (by cases z), by rw [← hg]; exact q4⟩
      · rw [hide_upd_in (List.mem_cons_self)]
        exact (hr.mono (Sm.hide (sm3.trans p4.same))).append (.one p4.rep)
    · rename_i hb
      rw [if_neg hb]
      exact ⟨hlt, acc, accD, sm3.at_ hDn, hr.mono (Sm.hide sm3), sc.trans sm3, by rw [← hg]; exact q⟩
  · have e : i = xs.length := by omega
    subst e
    refine .inl ⟨dr.stop _ Hc smc (Nat.le_refl _), ?_⟩
    rw [List.drop_length] at q
    unfold wpLc at q
    refine q _ _ ⟨sm.trans sc, ?_, fun _ => ⟨Dn, _, rfl, sm.free hD, hDn, acc, rfl, hr⟩⟩
    unfold Rep
    exact ⟨Dn, acc, rfl, .inl (.inl (by rw [hide_out nS]; exact hDn)), hr.mono (hide_more fun a ha => List.mem_cons_of_mem _ ha)⟩
theorem wipeD_len : ∀ (sl : List Nat) (ρ : DEnv), (wipeD ρ sl).length = ρ.length
  | [], ρ => rfl
  | i :: sl, ρ => by
    show (wipeD (ρ.set i none) sl).length = _
    rw [wipeD_len sl]
    simp
theorem wipeD_at : ∀ (sl : List Nat) (ρ : DEnv) (j : Nat) (d : D), (wipeD ρ sl)[j]? = some (some d) → j ∉ sl ∧ ρ[j]? = some (some d)
  | [], ρ, j, d, h => ⟨by simp, h⟩
  | i :: sl, ρ, j, d, h => by
    obtain ⟨h1, h2⟩ := wipeD_at sl (ρ.set i none) j d h
    by_cases e : i = j
    · subst e
      rw [List.getElem?_set] at h2
      simp at h2
    · rw [List.getElem?_set_ne e] at h2
      exact ⟨by simp [h1]; exact fun z => e z.symm, h2⟩
/-- [elt for t in it for t2 in it2 if ..] -/
theorem lc2_in {K : PySem.W.Frag} {mg : Str → Option Value} {W : WX} {hid : List Nat} {σ : L2.St} {H : Hp} {Q : VK} {t t2 : CT} {it it2 : CE} {ifs : List CE} {elt : CE}
    (h : tE K mg W hid (.lc2 t it t2 it2 ifs elt) σ H Q) : tLc2 (iW K mg W hid (wpE it)) (gD K t) tYes (iW K mg W0 hid (wpE it2)) (gD K t2) (tIs K mg W0 hid ifs) (tE K mg W0 hid elt) (t.slots ++ t2.slots) t2.slots σ H Q := by
  obtain ⟨S, ρ, hS, hE, h⟩ := h
  unfold wpE at h
  refine ⟨S, ρ, hS, hE, wpE_mono it h (fun d ⟨xs, e, q⟩ => ⟨xs, e, fun J H1 sm dr Dn hD => ?_⟩) (fun _ q => q)⟩
  have nS : Dn ∉ S := (hS.mono sm).new hD
  have low : ∀ {Hc : Hp}, Sm H1 Hc → Same (hide H1 S) (hide Hc (Dn :: S)) := fun {Hc} sc => sc.low hD
  generalize hg : (fun (x : D) (acc : List D) (K' : List D → Prop) => ∃ ρ', asgT t x (wipeD ρ t2.slots) = some ρ' ∧ wpE it2 ρ' (fun d2 => ∃ ys, items d2 = some ys ∧
        wpLc (fun y K'' => ∃ ρ'', asgT t2 y ρ' = some ρ'' ∧ wpIfs ifs ρ'' (fun b => if b = true then wpE elt ρ'' (fun v => K'' (some v)) (fun _ => False) else K'' none)) ys acc K') (fun _ => False)) = g at q
  refine ⟨fun i m Hc => m = xs.length - i ∧ i ≤ xs.length ∧ ∃ acc accD, Hc Dn = some (.lst acc) ∧ Reps K (hide Hc (Dn :: S)) accD acc ∧ Sm H1 Hc ∧ wpLcN g (xs.drop i) accD (fun acc => ∀ v H', Post K H S true (.lst acc) v H' → Q v H'),
    ⟨xs.length, by simp, Nat.zero_le _, [], [], upd_same, Reps.nil, same_new hD, q⟩, ?_⟩
  rintro i m Hc ⟨rfl, hi, acc, accD, hDn, hr, sc, q⟩
  have smc : Same (hide H1 S) Hc := hide_le.trans sc.w
  by_cases hlt : i < xs.length
  · refine .inr ⟨dr.go i Hc smc hlt, fun H' => i + 1 ≤ xs.length ∧ ∃ acc accD, H' Dn = some (.lst acc) ∧ Reps K (hide H' (Dn :: S)) accD acc ∧ Sm H1 H' ∧ wpLcN g (xs.drop (i + 1)) accD (fun acc => ∀ v H', Post K H S true (.lst acc) v H' → Q v H'),
      fun H' n => ⟨xs.length - (i + 1), by omega, rfl, n⟩, fun x H' y => ?_⟩
    obtain ⟨rfl, hy⟩ := dr.yld i Hc x H' smc y
    have hx := hy xs[i] (List.getElem?_eq_getElem hlt)
    rw [List.drop_eq_getElem_cons hlt] at q
    unfold wpLcN at q
    rw [← hg] at q
    obtain ⟨ρ', ha, q⟩ := q
    refine ⟨Dn :: S, xs[i], wipeD ρ t2.slots, ρ', hx.mono (low sc), ha, by rw [wipe_len, wipeD_len]; exact hE.len, fun σ' as => ⟨?_, ?_⟩⟩
    · exact wipe_eq (by rw [as.len, wipe_len]) fun j hj => by
        rw [(as.out j (fun z => hj (List.mem_append_left _ z))).1, wipe_out hj]
    have hS' : SOk H' (Dn :: S) := ((hS.mono sm).mono sc).cons (by rw [hDn]; trivial)
    have hE' : EV K (Dn :: S) hid H' σ' ρ' := ⟨by rw [as.len, as.lenr, wipe_len, wipeD_len]; exact hE.len, fun j d' e1 e2 => by
      by_cases hj : j ∈ t.slots
      · exact as.inn j d' hj e1
      · obtain ⟨o1, o2⟩ := as.out j hj
        rw [o2] at e1
        obtain ⟨w1, w2⟩ := wipeD_at _ _ _ _ e1
        obtain ⟨v, f1, f2⟩ := hE.rep j d' w2 e2
        refine ⟨v, ?_, f2.mono ((Sm.hide sm).trans (low sc))⟩
        rw [o1, wipe_out (by simp [hj, w1])]; exact f1⟩
    unfold tYes
    refine (show ∀ {p q : Prop}, p → (if true = true then p else q) from fun h => by rw [if_pos rfl]; exact h) ?_
    refine ⟨Dn :: S, ρ', hS', hE', wpE_mono it2 q (fun d2 ⟨ys, e2, q2⟩ => ⟨ys, e2, fun J1 H4 sm4 dr1 => ?_⟩) fun x q cls dd H5 sm5 xr => q⟩
    generalize hg2 : (fun (y : D) (K'' : Option D → Prop) => ∃ ρ'', asgT t2 y ρ' = some ρ'' ∧ wpIfs ifs ρ'' (fun b => if b = true then wpE elt ρ'' (fun v => K'' (some v)) (fun _ => False) else K'' none)) = g2 at q2
    rw [hg] at q2
    refine ⟨fun j k Hd => k = ys.length - j ∧ j ≤ ys.length ∧ ∃ acc accD, Hd Dn = some (.lst acc) ∧ Reps K (hide Hd (Dn :: S)) accD acc ∧ Sm H1 Hd ∧ Same (hide H4 (Dn :: S)) (hide Hd (Dn :: S)) ∧ SOk Hd S ∧ wpLc g2 (ys.drop j) accD (fun acc => wpLcN g (xs.drop (i + 1)) acc (fun acc => ∀ v H', Post K H S true (.lst acc) v H' → Q v H')),
      ⟨ys.length, by simp, Nat.zero_le _, acc, accD, sm4.at_ hDn, hr.mono (Sm.hide sm4), sc.trans sm4, Same.refl _, ((hS.mono sm).mono sc).mono sm4, q2⟩, ?_⟩
    rintro j k Hd ⟨rfl, hj, acc, accD, hDn, hr, sc2, sv, hSd, q2⟩
    have smd : Same (hide H4 (Dn :: S)) Hd := sv.trans hide_le
    by_cases hlt2 : j < ys.length
    · refine .inr ⟨dr1.go j Hd smd hlt2, fun H' => j + 1 ≤ ys.length ∧ ∃ acc accD, H' Dn = some (.lst acc) ∧ Reps K (hide H' (Dn :: S)) accD acc ∧ Sm H1 H' ∧ Same (hide H4 (Dn :: S)) (hide H' (Dn :: S)) ∧ SOk H' S ∧ wpLc g2 (ys.drop (j + 1)) accD (fun acc => wpLcN g (xs.drop (i + 1)) acc (fun acc => ∀ v H', Post K H S true (.lst acc) v H' → Q v H')),
        fun H' n => ⟨ys.length - (j + 1), by omega, rfl, n⟩, fun x2 H5 y2 => ?_⟩
      obtain ⟨rfl, hy2⟩ := dr1.yld j Hd x2 H5 smd y2
      have hx2 := hy2 ys[j] (List.getElem?_eq_getElem hlt2)
      rw [List.drop_eq_getElem_cons hlt2] at q2
      unfold wpLc at q2
      rw [← hg2] at q2
      obtain ⟨ρ'', ha2, q2⟩ := q2
      refine ⟨Dn :: S, ys[j], ρ', ρ'', hx2.mono sv, ha2, by rw [wipe_len]; exact hE'.len, fun σ3 as2 => ⟨wipe_eq (by rw [as2.len, wipe_len]) fun l hl => by rw [(as2.out l hl).1, wipe_out hl], ?_⟩⟩
      have hS3 : SOk H5 (Dn :: S) := hSd.cons (by rw [hDn]; trivial)
      have hE3 : EV K (Dn :: S) hid H5 σ3 ρ'' := ⟨by rw [as2.len, as2.lenr, wipe_len]; exact hE'.len, fun l d' e1 e2 => by
        by_cases hl : l ∈ t2.slots
        · exact as2.inn l d' hl e1
        · obtain ⟨o1, o2⟩ := as2.out l hl
          rw [o2] at e1
          obtain ⟨v, f1, f2⟩ := hE'.rep l d' e1 e2
          refine ⟨v, ?_, f2.mono ((Sm.hide sm4).trans sv)⟩
          rw [o1, wipe_out hl]; exact f1⟩
      refine ⟨Dn :: S, ρ'', hS3, hE3, wpIfs_mono ifs q2 fun b q3 H6 sm6 => ?_⟩
      split at q3
      · rename_i hb
        rw [if_pos hb]
        refine tE_in (hS3.mono sm6) (hE3.mono sm6) q3 (fun y vy H7 q4 p4 => ?_) fun x cls dd H' e sm xr => e
        obtain ⟨hz, q4⟩ := q4
        have h7 : H7 Dn = some (.lst acc) := p4.same.at_ (sm6.at_ hDn)
        have hl := hr.length
        refine ⟨acc, h7, by rw [← szl_eq, ← hl]; exact hz, hlt2, acc ++ [vy], accD ++ [y], upd_same, ?_, ((sc2.trans sm6).trans p4.same).wr hD h7 trivial fun q => code_ne fun φ z => (by cases z), ?_, ?_, by rw [← hg2]; exact q4⟩
        · rw [hide_upd_in (List.mem_cons_self)]
          exact (hr.mono (Sm.hide (sm6.trans p4.same))).append (.one p4.rep)
        · rw [hide_upd_in (List.mem_cons_self)]
          exact sv.trans (Sm.hide (sm6.trans p4.same))
        · exact (hSd.mono (sm6.trans p4.same)).upd nS h7 trivial fun q => code_ne fun φ z => (by cases z)
      · rename_i hb
        rw [if_neg hb]
        exact ⟨hlt2, acc, accD, sm6.at_ hDn, hr.mono (Sm.hide sm6), sc2.trans sm6, sv.trans (Sm.hide sm6), hSd.mono sm6, by rw [← hg2]; exact q3⟩
    · have e : j = ys.length := by omega
      subst e
      rw [List.drop_length] at q2
      unfold wpLc at q2
      exact .inl ⟨dr1.stop _ Hd smd (Nat.le_refl _), hlt, acc, accD, hDn, hr, sc2, q2⟩
  · have e : i = xs.length := by omega
    subst e
    refine .inl ⟨dr.stop _ Hc smc (Nat.le_refl _), ?_⟩
    rw [List.drop_length] at q
    unfold wpLcN at q
    refine q _ _ ⟨sm.trans sc, ?_, fun _ => ⟨Dn, _, rfl, sm.free hD, hDn, acc, rfl, hr⟩⟩
    unfold Rep
    exact ⟨Dn, acc, rfl, .inl (.inl (by rw [hide_out nS]; exact hDn)), hr.mono (hide_more fun a ha => List.mem_cons_of_mem _ ha)⟩
end Dl

namespace Dl
open PySem PySem.Spec PyProof.Rows L2
variable [Tbs]
theorem and2 {a b : Bool} (h : (a && b) = true) : a = true ∧ b = true := by rwa [Bool.and_eq_true] at h
/-- the context of a comprehension's block -/
theorem Gd.blk {X : Cx} {N : List Str} {sc : Scope} {cm : Bool} {W : WX} {k : Nat} (G : Gd X N sc cm W k) (s : Shared) (H : Hp) (scope : Scope) (C : Addr) (cl : List (Str × Addr)) (fp : List Addr) :
    Gd (X.blk s H scope (compEnvC scope cl C X.env) fp) N (relS scope sc) cm W0 k :=
  ⟨G.nn, G.nd, by rw [← G.sc]; rfl, takes0, G.cm, G.hu, G.fr⟩
theorem fn_blk {X : Cx} {sc : Scope} (hs : X.env.scope = sc) (s : Shared) (H : Hp) (scope : Scope) (C : Addr) (cl : List (Str × Addr)) (fp : List Addr) (x : Str) (h : locB scope x = true) :
    (X.blk s H scope (compEnvC scope cl C X.env) fp).fn x = true ∨ (X.blk s H scope (compEnvC scope cl C X.env) fp).env.scope.names.lookup x = some .local := by
  rcases lookB h with h | h
  · right
    exact lookup_relS_keep (sc := X.env.scope) (fun z => by cases z) h
  · left
    show (scope.names.lookup x == some NameKind.cell) = true
    rw [h]; rfl
theorem op_is_of {X : Cx} {ng : Bool} {l : Expr} {j : Nat} {p : Pos} {ta : TE} (h : PE X l ta) : PC X (if ng = true then CmpOp.IsNot else CmpOp.Is) l (.Constant .none j p) (fun σ H Q => ta σ H fun x H1 => Q (.bl (ng != decide (x = .non))) H1) := by
  cases ng with
  | true =>
    refine ⟨fun pins s σ H Q I w => (pc_notN h).run pins s σ H Q I ?_⟩
    have e : (fun (x : V) (H1 : Hp) => Q (.bl (true != decide (x = .non))) H1) = fun x H1 => Q (.bl (!decide (x = .non))) H1 := by
      funext x H1; cases decide (x = V.non) <;> rfl
    rw [e] at w
    exact w
  | false =>
    refine ⟨fun pins s σ H Q I w => (pc_isN h).run pins s σ H Q I ?_⟩
    have e : (fun (x : V) (H1 : Hp) => Q (.bl (false != decide (x = .non))) H1) = fun x H1 => Q (.bl (decide (x = .non))) H1 := by
      funext x H1; cases decide (x = V.non) <;> rfl
    rw [e] at w
    exact w
theorem isN_rep {K : PySem.W.Frag} {H : Hp} {d : D} {v : V} (h : Rep K H d v) : decide (v = .non) = d.isNon := by
  cases d with
  | non => cases rep_non h; rfl
  | bl b => cases rep_bl h; rfl
  | int b => cases rep_int h; rfl
  | str b => cases rep_str h; rfl
  | tup ds => obtain ⟨a, vs, rfl, _⟩ := rep_tup h; rfl
  | lst ds => obtain ⟨a, vs, rfl, _⟩ := rep_lst h; rfl
  | dict _ _ => unfold Rep at h; obtain ⟨a, kas, vvs, rfl, _⟩ := h; rfl
  | obj _ _ _ => unfold Rep at h; exact h.elim
/-- a test of an if .. else .. -/
theorem pt_ifExp {X : Cx} {c a b : Expr} {pos : Pos} {tc ta tb : TT} (hc : PT X c tc) (ha : PT X a ta) (hb : PT X b tb) : PT X (.IfExp c a b pos) (fun σ H Q => tc σ H fun k H1 => if k = true then ta σ H1 Q else tb σ H1 Q) := by
  refine ⟨fun pins s σ H Q I h => ?_⟩
  show wpAny _ _ (do if ← isTrue c X.env (eval c X.env) then isTrue a X.env (eval a X.env) else isTrue b X.env (eval b X.env)) _ _ _
  refine wpAny_bind (thn (hc.run pins s σ H _ I h) fun d s1 ⟨H1, I1, q1⟩ => ?_)
  cases d with
  | true => exact ha.run pins s1 σ H1 Q I1 q1
  | false => exact hb.run pins s1 σ H1 Q I1 q1
theorem keep_pass {X : Cx} {N : List Str} {sc : Scope} {cm : Bool} {W : WX} {k : Nat} (G : Gd X N sc cm W k) (σ : L2.St) : PassesAt (L2.CX X.prog X.w) X σ (WE W σ) := passAt G.tk σ
theorem boot_bf (f : BF) : bootBuiltins (bfN f) = some (bfV f) := by
  cases f <;> decide +kernel
theorem bf_free (f : BF) : bfN f ∈ freeNames := by
  cases f <;> decide +kernel
/-- the tests of a clause -/
theorem pts_in {X : Cx} {mg : Str → Option Value} {W : WX} {hid : List Nat} {ifs : List CE} {fs : List Expr} (h : (ifs = [] ∧ fs = []) ∨ ∃ c f, ifs = [c] ∧ fs = [f] ∧ PT X f (tTe X.K mg W0 hid c)) : PTs X fs (tIs X.K mg W hid ifs) := by
  rcases h with ⟨rfl, rfl⟩ | ⟨c, f, rfl, rfl, h⟩
  · refine ⟨fun pins s σ H Q I hw => pts_nil.run pins s σ H Q I ?_⟩
    obtain ⟨S, ρ, hS, hE, q⟩ := hw
    unfold wpIfs at q
    exact q _ (Sm.refl _)
  · refine ⟨fun pins s σ H Q I hw => (pts_one h).run pins s σ H Q I ?_⟩
    obtain ⟨S, ρ, hS, hE, q⟩ := hw
    unfold wpIfs at q
    refine ⟨S, ρ, hS, hE, wpE_mono c q (fun d ⟨k, e, q⟩ => ⟨k, e, ?_⟩) (fun _ q => q.elim)⟩
    split at q
    · rename_i hk
      subst hk
      unfold wpIfs at q
      exact q
    · rename_i hk
      have e2 : k = false := by simpa using hk
      subst e2
      exact q
theorem wpEs_len : ∀ {es : List CE} {ρ : DEnv} {Q : List D → Prop} {E : Xn → Prop}, wpEs es ρ Q E → wpEs es ρ (fun ds => ds.length = es.length ∧ Q ds) E
  | [], ρ, Q, E, h => by unfold wpEs at h ⊢; exact ⟨rfl, h⟩
  | e :: es, ρ, Q, E, h => by
    unfold wpEs at h ⊢
    exact wpE_mono e h (fun d q => wpEs_mono es (wpEs_len q) (fun ds ⟨l, q⟩ => ⟨by simp [l], q⟩) fun _ q => q) fun _ q => q
/-- a call of a def -/
theorem call_D {X : Cx} {N : List Str} {sc : Scope} {cm : Bool} {W : WX} {k : Nat} {hid : List Nat} {f : Str} {sp : Spec} {es : List CE} {v : Expr} {vs : List Expr} {p pos : Pos} (G : Gd X N sc cm W k) (hcm : cm = true) (hg : gloB sc f = true)
    (ho : okEs N sc cm hid es (v :: vs) = true) (ha : PA X (v :: vs) (tL X.K X.mg W hid es)) (hf : FnC X.prog X.w X.K X.mg X.base k f es.length sp) : PE X (.Call (.Name f p) (v :: vs) [] pos) (tE X.K X.mg W hid (.call f sp es)) := by
  obtain ⟨a, fd, ps, dvs, ds, dds, sp', hm, kp, hb, hv, hr, F, hl, hsp⟩ := hf
  have hs1 : plB v = true := by
    cases es with
    | nil => simp [okEs] at ho
    | cons c cs => unfold okEs at ho; exact okE_pl (and2 ho).1
  have hs2 : ((backTo pos (starEach vs X.env)).any (·.1)) = false := by
    cases es with
    | nil => simp [okEs] at ho
    | cons c cs => unfold okEs at ho; exact okEs_star (and2 ho).2
  refine PE.imp (pe_callSD (E := WE W) F (G.cm hcm).2 (gl_of G hg) hm kp hb hv (fun σ => passAt G.tk σ) ha (gloB_ok hg).2.1 (star_of hs1 _ _) hs2) fun σ H Q ⟨S, ρ, hS, hE, h⟩ => ?_
  unfold wpE at h
  refine tL_in hS hE (wpEs_len h) (fun ds' ws H' ⟨ln, q⟩ sm r => ?_) fun x cls dd H' e sm xr => e cls dd H' sm xr
  have l1 := r.length
  have l2 := (hr H').length
  refine ⟨by rw [List.length_append]; omega, S, ds' ++ dds, hS.mono sm, r.append (hr _), hsp _ _ _ ln ?_⟩
  exact sp.mono _ _ _ _ _ q (fun d q v H'' p => q v H'' (p.trans sm)) fun x e cls dd H'' sm2 xr => e cls dd H'' (sm.trans sm2) xr
/-- a call without arguments -/
theorem call0_D {X : Cx} {N : List Str} {sc : Scope} {cm : Bool} {W : WX} {k : Nat} {hid : List Nat} {f : Str} {sp : Spec} {p pos : Pos} (G : Gd X N sc cm W k) (hcm : cm = true) (hg : gloB sc f = true) (hf : FnC X.prog X.w X.K X.mg X.base k f 0 sp) :
    PE X (.Call (.Name f p) [] [] pos) (tE X.K X.mg W hid (.call f sp [])) := by
  obtain ⟨a, fd, ps, dvs, ds, dds, sp', hm, kp, hb, hv, hr, F, hl, hsp⟩ := hf
  refine ⟨fun pins s σ H Q I w => ?_⟩
  obtain ⟨S, ρ, hS, hE, h⟩ := w
  unfold wpE wpEs at h
  refine wpAny_Call_Name_kw (ld_glob I (gl_of G hg) hm ?_ (gloB_ok hg).2.1)
  refine PySem.W.callWith_K0 I.kIn kp (run_fnSD (E := WE W) (us := []) (vs := []) F (G.cm hcm).2 hb hv (passAt G.tk σ) I .nil ?_)
  have l2 := (hr H).length
  refine ⟨by simp; omega, S, dds, hS, hr _, ?_⟩
  have q := hsp [] _ _ rfl h
  rw [List.nil_append] at q
  exact sp'.mono _ _ _ _ _ q (fun d q v H'' p => q v H'' p) fun x e cls dd H'' sm2 xr => e cls dd H'' sm2 xr
/-- a call of a built-in -/
theorem bf_D {X : Cx} {N : List Str} {sc : Scope} {cm : Bool} {W : WX} {k : Nat} {hid : List Nat} {f : BF} {es : List CE} {v : Expr} {vs : List Expr} {p pos : Pos} (G : Gd X N sc cm W k) (hcm : cm = true) (hg : gloB sc (bfN f) = true)
    (ho : okEs N sc cm hid es (v :: vs) = true) (ha : PA X (v :: vs) (tL X.K X.mg W hid es)) : PE X (.Call (.Name (bfN f) p) (v :: vs) [] pos) (tE X.K X.mg W hid (.blt f es)) := by
  have hs1 : plB v = true := by
    cases es with
    | nil => simp [okEs] at ho
    | cons c cs => unfold okEs at ho; exact okE_pl (and2 ho).1
  have hs2 : ((backTo pos (starEach vs X.env)).any (·.1)) = false := by
    cases es with
    | nil => simp [okEs] at ho
    | cons c cs => unfold okEs at ho; exact okEs_star (and2 ho).2
  have hc := call_bf (X := X) f (G.cm hcm).1 G.hu
  have hm := G.fr _ (bf_free f)
  have hb := boot_bf f
  have hgl := gl_of G hg
  obtain ⟨_, hn1, hn2⟩ := gloB_ok hg
  have main : PE X (.Call (.Name (bfN f) p) (v :: vs) [] pos) (tCB (rBf X.K f) (tL X.K X.mg W hid es)) := by
    cases f
    case len => exact pe_callB hc hgl hm hb ha hn2 hn1 (star_of hs1 _ _) hs2
    case abs => exact pe_callB hc hgl hm hb ha hn2 hn1 (star_of hs1 _ _) hs2
    case int_ => exact pe_callTy hc hgl hm hb ha hn2 hn1 (star_of hs1 _ _) hs2
    case list_ => exact pe_callTy hc hgl hm hb ha hn2 hn1 (star_of hs1 _ _) hs2
    case tuple_ => exact pe_callTy hc hgl hm hb ha hn2 hn1 (star_of hs1 _ _) hs2
    case any_ => exact pe_callB hc hgl hm hb ha hn2 hn1 (star_of hs1 _ _) hs2
    case all_ => exact pe_callB hc hgl hm hb ha hn2 hn1 (star_of hs1 _ _) hs2
    case sum_ => exact pe_callB hc hgl hm hb ha hn2 hn1 (star_of hs1 _ _) hs2
    case max2 => exact pe_callB hc hgl hm hb ha hn2 hn1 (star_of hs1 _ _) hs2
    case maxl => exact pe_callB hc hgl hm hb ha hn2 hn1 (star_of hs1 _ _) hs2
    case min2 => exact pe_callB hc hgl hm hb ha hn2 hn1 (star_of hs1 _ _) hs2
    case bool_ => exact pe_callTy hc hgl hm hb ha hn2 hn1 (star_of hs1 _ _) hs2
    case sorted_ => exact pe_callB hc hgl hm hb ha hn2 hn1 (star_of hs1 _ _) hs2
  refine PE.imp main fun σ H Q ⟨S, ρ, hS, hE, h⟩ => ?_
  unfold wpE at h
  exact tL_in hS hE h (fun ds' ws H' q sm r => ⟨S, ds', hS.mono sm, r, bltD_mono q fun d q v H'' p => q v H'' (p.trans sm)⟩) fun x cls dd H' e sm xr => e cls dd H' sm xr
theorem isi_of {X : Cx} {N : List Str} {sc : Scope} {cm : Bool} {W : WX} {k : Nat} {hid : List Nat} {a : CE} {t : TY} {v : Expr} {p p2 pos : Pos} (G : Gd X N sc cm W k) (hg : gloB sc "isinstance" = true) (hg2 : gloB sc (tyN t) = true) (hp : plB v = true)
    (ht : ∃ T, tyS t = some T) (ha : PE X v (tE X.K X.mg W hid a)) : PE X (.Call (.Name "isinstance" p) [v, .Name (tyN t) p2] [] pos) (tE X.K X.mg W hid (.isi a t)) := by
  obtain ⟨T, hT⟩ := ht
  have hb : bootBuiltins (tyN t) = some (.type T) := by
    cases t <;> first | (cases hT; done) | (cases hT; decide +kernel)
  have hf : tyN t ∈ freeNames := by
    cases t <;> first | (cases hT; done) | (decide +kernel)
  have hi : ("isinstance" : Str) ∈ freeNames := by decide +kernel
  have hty : PE X (.Name (tyN t) p2) (tC (.ty T)) := pe_bltn (gl_of G hg2) (G.fr _ hf) hb rfl (gloB_ok hg2).2.2 (gloB_ok hg2).2.1
  refine PE.imp (pe_callB call_isiD (gl_of G hg) (G.fr _ hi) PyProof.Rows.boot_isinstance (pa_cons ha (pa_cons hty pa_nil rfl) (star_of hp _ _)) (by decide) (by decide) (star_of hp _ _) rfl) fun σ H Q ⟨S, ρ, hS, hE, h⟩ => ?_
  unfold wpE at h
  refine tE_in hS hE h (fun d x H' q pp => ?_) fun x cls dd H' e sm xr => e cls dd H' sm xr
  obtain ⟨u, h1, h2⟩ := isi_D (pp.rep.mono hide_le) hT
  exact ⟨x, .ty T, u, .type T, isiD t d, rfl, .ty T, h1, h2, q _ _ (Post.trans pp.same post_bl)⟩
end Dl

/-! DlSortK: list.sort by keys, any length: the keys are there, the pairs are sorted. -/
namespace Dl
open PySem PySem.Spec PyProof.Rows L2 SrtO Srt
variable [Tbs]
section
variable {prog : Program} {w : World} {A : Around} {E : Value → Shared → Prop} {s : Shared}
/-- the heap behind: the keys' list is emptied, the items' list holds the sorted ones -/
def keyedHeap (h : Heap) (a kS : Addr) (out : List Value) : Heap := (h.update kS (Obj.mapSeq fun _ => (#[] : Array Value))).update a (Obj.mapSeq fun _ => out.toArray)
theorem ksk_end_ord {a kS : Addr} {ks vs : List Value} {e e1 : Nat} {ltv : Value → Value → Bool} {P : PySem.Fin → Shared → Prop} (O : Swo ltv) (hl : ks.length = vs.length) (hk : s.heap.get? kS = some (seqObj "list" ks.toArray e)) (ha : s.heap.get? a = some (seqObj "list" #[] e1)) (hne : kS ≠ a) (hz : vs.length ≤ sizeLine)
    (hS : 2 ≤ vs.length → ∃ κ, (∀ (Q : SortKind → Shared → Prop) (E : Value → Shared → Prop), Q κ s → wpAny (model prog w) A (keyKind' ks.toArray) Q E s) ∧ Cmp prog w A s κ (fun p => p.1 ∈ ks) (lt2 ltv))
    (h : ∀ out : List Keyed, Srtd (lt2 ltv) out → Stb (lt2 ltv) out (ks.zip vs) → P (.done (.ret .none)) { s with heap := keyedHeap s.heap a kS (out.map (·.2)) }) :
    wpAny (model prog w) A (ksk_end a false vs.toArray e1 (.ref kS) ks.toArray) P E s := by
  have hzip : (ks.toArray.zip vs.toArray).toList = ks.zip vs := ksk_zip _ _
  have tail : ∀ st' : SortSt, Srtd (lt2 ltv) (arrOf st').toList → Stb (lt2 ltv) (arrOf st').toList (ks.zip vs) → failedOf st' = none → wpAny (model prog w) A (ksk_tail a false e1 (.ref kS) st') P E s := by
    intro st' h1 h2 hf
    have hlen : (arrOf st').toList.length = vs.length := by
      rw [h2.len, List.length_zip, hl, Nat.min_self]
    have hsz : ((arrOf st').map (·.2)).size ≤ sizeLine + 1 := by
      rw [Array.size_map, ← Array.length_toList, hlen]
      omega
    unfold ksk_tail
    try dsimp only
    have ha1 : (s.heap.update kS (Obj.mapSeq fun _ => (#[] : Array Value))).get? a = some (seqObj "list" #[] e1) := by
      rw [Heap.get?_update_ne _ _ _ _ (fun z => hne z.symm)]
      exact ha
    refine wpAny_bind (listUpdate_at hk rfl ?_ (by rw [List.size_toArray, hl]; exact hz) (Nat.zero_le _))
    refine wpAny_bind (wpAny_letGo ?_)
    refine wpAny_bind (seqEpoch_at ha1 rfl ?_)
    refine wpAny_bind (listUpdate_at ha1 rfl ?_ (Nat.zero_le _) hsz)
    rw [hf]
    simp only [bne_self_eq_false, Bool.false_eq_true, if_false]
    have q := h _ h1 h2
    have e3 : (((arrOf st').toList.map (·.2)).toArray) = (arrOf st').map (·.2) := by
      apply Array.ext'
      simp
    unfold keyedHeap at q
    rw [e3] at q
    exact wpAny_pure q
  unfold ksk_end
  try dsimp only
  simp only [Bool.false_eq_true, if_false]
  by_cases h2 : vs.toArray.size < 2
  · rw [if_pos h2, if_pos h2]
    have h2' : vs.length < 2 := by simpa using h2
    refine wpAny_bind (wpAny_pure ?_)
    rw [StateT.run_pure]
    refine wpAny_bind (wpAny_pure ?_)
    try dsimp only
    refine tail (SortSt.mk' general' (ks.toArray.zip vs.toArray) #[] 7 none) ?_ ?_ rfl
    · show Srtd (lt2 ltv) (ks.toArray.zip vs.toArray).toList
      rw [hzip]
      match ks, vs, hl, h2' with
      | [], [], _, _ => exact List.Pairwise.nil
      | [k], [v], _, _ => exact List.pairwise_singleton _ _
      | _ :: _ :: _, _, hl, h => rw [List.length_cons, List.length_cons] at hl; omega
      | [], _ :: _, hl, _ => cases hl
      | [_], [], hl, _ => cases hl
      | [_], _ :: _ :: _, hl, _ => simp at hl
    · show Stb (lt2 ltv) (ks.toArray.zip vs.toArray).toList (ks.zip vs)
      rw [hzip]
      exact Stb.refl _
  · rw [if_neg h2, if_neg h2]
    have h2' : 2 ≤ vs.length := by simpa using h2
    obtain ⟨κ, hkind, hT⟩ := hS h2'
    refine wpAny_bind (hkind _ _ ?_)
    have hall : AllL (fun p : Keyed => p.1 ∈ ks) (ks.toArray.zip vs.toArray).toList := fun p hm => by
      rw [hzip] at hm
      exact (List.of_mem_zip hm).1
    refine wpAny_bind (wpAny_mono (wpS_sortO (st0 := SortSt.mk' κ (ks.toArray.zip vs.toArray) #[] 7 none)
      (Q := fun _ st' => Srtd (lt2 ltv) (arrOf st').toList ∧ Stb (lt2 ltv) (arrOf st').toList (ks.toArray.zip vs.toArray).toList ∧ failedOf st' = none) (swo2 O) hT rfl hall rfl rfl fun st' a1 a2 a3 => ⟨a1, a2, a3⟩) ?_ fun _ _ e => e)
    rintro ⟨⟨⟩, st'⟩ s' ⟨rfl, hp1, hp2, hf⟩
    rw [hzip] at hp2
    try dsimp only
    exact tail st' hp1 hp2 hf
end
/-! ### the keys, one by one -/
section
variable {X : Cx} {pins : List (Addr × Obj)} {σ : L2.St} {S' : List Addr} {H1 : Hp} {A2 : Around} {f : Value} {kf : D → D} {PD : D → Prop} {kS aL : Addr}
/-- exactly this object stands at a -/
def ExO (a : Addr) (ob : Obj) : HO := .ext fun h => h.get? a = some ob
theorem exo_code {a : Addr} {vs : Array Value} {n : Nat} {q : Str} : ExO a (seqObj "list" vs n) ≠ LamX.CodeO a q := fun z => by
  unfold ExO LamX.CodeO at z
  have z := HO.ext.inj z
  let ob : Obj := { cls := .none, data := .fields #[.none, .str q 0] }
  let h : Heap := { objs := Array.replicate (a + 1) ob }
  have e : h.get? a = some ob := by
    unfold Heap.get?
    have : h.objs[a]? = some ob := by simp [h]
    rw [this]
  have y := congrFun z h
  have y2 : ∃ (oc : Obj) (vs : Array Value) (t : Tok), h.get? a = some oc ∧ oc.data = .fields vs ∧ vs[1]? = some (.str q t) := ⟨ob, _, 0, e, rfl, rfl⟩
  rw [← y, e] at y2
  have := congrArg Obj.data (Option.some.inj y2)
  cases this
/-- f, called with data's value, gives the key's -/
def KeyCall (X : Cx) (pins : List (Addr × Obj)) (σ : L2.St) (S' : List Addr) (H1 : Hp) (kS : Addr) (A2 : Around) (f : Value) (kf : D → D) (PD : D → Prop) : Prop :=
  ∀ (s : Shared) (H : Hp) (v : V) (u : Value) (d : D) (Q : VK), Inv X pins σ H s → RelV v u → SOk H S' → Same (hide H1 S') (hide H S') → (∀ b o, H1 b = some o → b ≠ kS → ntb o → H b = some o) → Rep X.K (hide H S') d v → PD d → (∀ v' H', Post X.K H S' true (kf d) v' H' → Q v' H') →
    wpAny (model X.prog X.w) A2 (call f [u]) (EP X pins σ Q) (fun _ _ => False) s
theorem keys_fold {H0 : Hp} {oA : HO} (nA : ntb oA) (hk : KeyCall X pins σ S' H1 kS A2 f kf PD) (hin : kS ∈ S') (hn0 : H0 kS = none) (hne : aL ≠ kS) {body : Value → PUnit → Sem (ForInStep PUnit)} {E : Value → Shared → Prop}
    (hb : ∀ (x : Value) (s : Shared) (C : Shared → Prop), wpAny (model X.prog X.w) A2 (call f [x]) (fun k s' => wpAny (model X.prog X.w) A2 (Builtin.List.listUpdate (.ref kS) (·.push k)) (fun _ s'' => C s'') E s') (fun _ _ => False) s →
      wpAny (model X.prog X.w) A2 (body x ⟨⟩) (fun r s' => r = .yield ⟨⟩ ∧ C s') E s) :
    ∀ (rest : List Value) (restV : List V) (restD : List D) (ksV : List V) (ksD : List D) (H : Hp) (s : Shared), Inv X pins σ H s → Vals restV rest → H kS = some (.lst ksV) → H aL = some oA → Reps X.K (hide H S') restD restV → Reps X.K (hide H S') ksD ksV →
      Same (hide H1 S') (hide H S') → (∀ b o, H1 b = some o → b ≠ kS → ntb o → H b = some o) → Sm H0 H → SOk H S' → (∀ d ∈ restD, PD d) → ksV.length + rest.length ≤ sizeLine →
      wpAny (model X.prog X.w) A2 (forIn rest PUnit.unit body) (fun _ s' => ∃ H' ksV', Inv X pins σ H' s' ∧ H' kS = some (.lst ksV') ∧ H' aL = some oA ∧ SOk H' S' ∧ Reps X.K (hide H' S') (ksD ++ restD.map kf) ksV' ∧ Sm H0 H' ∧ Same (hide H1 S') (hide H' S') ∧ ksV'.length = ksV.length + rest.length) E s
  | [], restV, restD, ksV, ksD, H, s, I, rv, hkS, haL, rr, rk, sm, fx, sm0, hS, hP, hz => by
    cases rv
    have e : restD = [] := by
      cases restD with
      | nil => rfl
      | cons _ _ => unfold Reps at rr; obtain ⟨_, _, e, _⟩ := rr; cases e
    subst e
    rw [List.forIn_nil]
    refine wpAny_pure ⟨H, ksV, I, hkS, haL, hS, ?_, sm0, sm, rfl⟩
    rw [List.map_nil, List.append_nil]
    exact rk
  | x :: rest, restV, restD, ksV, ksD, H, s, I, rv, hkS, haL, rr, rk, sm, fx, sm0, hS, hP, hz => by
    cases rv with
    | @cons v _ vs _ r1 r2 =>
      cases restD with
      | nil => unfold Reps at rr; cases rr
      | cons d ds =>
        obtain ⟨q1, q2⟩ := Reps.inv rr
        rw [List.length_cons] at hz
        rw [List.forIn_cons]
        refine wpAny_bind (wpAny_mono (hb x s (fun s' => ∃ (H' : Hp) (ksV' : List V), Inv X pins σ H' s' ∧ H' kS = some (.lst ksV') ∧ ksV'.length = ksV.length + 1 ∧ H' aL = some oA ∧ SOk H' S' ∧ Same (hide H1 S') (hide H' S') ∧ Reps X.K (hide H' S') ds vs ∧ Reps X.K (hide H' S') (ksD ++ [kf d]) ksV' ∧ Sm H0 H' ∧ (∀ b o, H1 b = some o → b ≠ kS → ntb o → H' b = some o))
          (wpAny_mono (hk s H v x d (fun v' H' => Post X.K H S' true (kf d) v' H') I r1 hS sm fx q1 (hP d List.mem_cons_self) (fun _ _ p => p)) (fun k s' hq => ?_) fun _ _ z => z)) (fun r s' hq => ?_) fun _ _ z => z)
        · obtain ⟨v', H', I', rk', p⟩ := hq
          have hkS' := p.same.at_ hkS
          obtain ⟨z, its, n, r, hl, e⟩ := I'.lstM hkS'
          refine listUpdate_at e rfl ?_ (by rw [List.size_toArray]; omega) (by
            rw [Array.size_push, List.size_toArray]; omega)
          have I2 := I'.lset (t' := s'.toks) (its' := its ++ [k]) (ys := ksV ++ [v']) (f := (·.push k)) hkS' e (by simp) (r.append (.cons rk' .nil)) (by rw [List.length_append, List.length_singleton]; omega)
          have hh : hide (upd H' kS (.lst (ksV ++ [v']))) S' = hide H' S' := hide_upd_in hin
          have nc : ∀ q, HO.lst ksV ≠ LamX.CodeO kS q := fun q => code_ne fun φ z => by cases z
          refine ⟨_, ksV ++ [v'], I2, upd_same, by simp, by rw [upd_ne hne]; exact p.same.at_ haL nA, ⟨fun a ha => ?_, tabs_upd (hS.mono p.same).tb hkS' trivial nc⟩, ?_, ?_, ?_, (sm0.trans p.same).wr hn0 hkS' trivial nc, fun b o e n1 n2 => by rw [upd_ne n1]; exact p.same.w.at_ _ _ (fx b o e n1 n2) n2⟩
          · by_cases ha2 : a = kS
            · rw [ha2, upd_same]; trivial
            · rw [upd_ne ha2]
              exact (hS.mono p.same).mu a ha
          · rw [hh]; exact sm.trans p.same.hide
          · rw [hh]; exact q2.mono p.same.hide
          · rw [hh]; exact (rk.mono p.same.hide).append (.one p.rep)
        · obtain ⟨rfl, H', ksV', I', h1, h2, h2a, h3, h4, h5, h6, h7, h8⟩ := hq
          show wpAny (model X.prog X.w) A2 (forIn rest PUnit.unit body) _ E s'
          refine wpAny_mono (keys_fold nA hk hin hn0 hne hb rest vs ds ksV' (ksD ++ [kf d]) H' s' I' r2 h1 h2a h5 h6 h4 h8 h7 h3 (fun e he => hP e (List.mem_cons_of_mem _ he)) (by omega)) (fun _ s'' ⟨H'', ks'', a1, a2, a3, a4, a5, a6, a7, a8⟩ => ⟨H'', ks'', a1, a2, a3, a4, ?_, a6, a7, by rw [a8, h2, List.length_cons]; omega⟩) fun _ _ z => z
          rw [List.map_cons]
          rw [List.append_assoc] at a5
          exact a5
end
theorem stb_congr {α : Type} {lt lt' : α → α → Bool} (O : Swo lt) (O' : Swo lt') {l m : List α} (h : Stb lt l m) (e : ∀ x ∈ l, ∀ y ∈ l, lt x y = lt' x y) : Stb lt' l m := by
  refine ⟨h.perm, fun x => ?_⟩
  by_cases ex : ∃ y, y ∈ l ∧ eqv lt' x y = true
  · obtain ⟨y, hy, hxy⟩ := ex
    have e1 : ∀ k : List α, (∀ z ∈ k, z ∈ l) → k.filter (eqv lt' x) = k.filter (eqv lt y) := fun k hk => by
      refine List.filter_congr fun z hz => ?_
      rw [eqv_trans O' hxy]
      unfold eqv
      rw [e y hy z (hk z hz), e z (hk z hz) y hy]
    rw [e1 l fun _ h => h, e1 m fun z hz => h.perm.mem_iff.mpr hz, h.cls]
  · have no : ∀ k : List α, (∀ z ∈ k, z ∈ l) → k.filter (eqv lt' x) = [] := fun k hk => List.filter_eq_nil_iff.mpr fun z hz q => ex ⟨z, hk z hz, q⟩
    rw [no l fun _ h => h, no m fun z hz => h.perm.mem_iff.mpr hz]
section
variable {X : Cx} {pins : List (Addr × Obj)} {s : Shared} {σ : L2.St} {H : Hp}
/-- sorted(xs, key=f) -/
theorem call_sortedK {S : List Addr} {a fa : Addr} {xs : List V} {ds : List D} {kf : D → D} {PD : D → Prop} {Q : VK} (I : Inv X pins σ H s) (hu : X.A.units + 66 < cLine) (hS : SOk H S) (hs : SqL X.K H a xs) (hd : Reps X.K (hide H S) ds xs)
    (hP : ∀ d ∈ ds, PD d) (ok : TupsOk 60 (ds.map kf)) (hok : ∀ d ∈ ds, cmpOk d d = true ∧ ne1 d = true)
    (hcall : ∀ (S' : List Addr) (H1 : Hp) (kS : Addr), SOk H1 S' → Sm H H1 → Same (hide H S) (hide H1 S') → H kS = none → KeyCall X pins σ S' H1 kS X.A.in1.in1 (.ref fa) kf PD)
    (q : ∀ v H', Post X.K H S true (.lst (srtB (fun x y => ltT (kf x) (kf y)) ds)) v H' → Q v H') :
    wpAny (model X.prog X.w) X.A (call (.builtin "sorted") [.ref a] [(Str.ofString "key", .ref fa)]) (EP X pins σ Q) X.xe s := by
  obtain ⟨its, rv, hl, hz⟩ := I.list hs
  have hz' : its.length ≤ sizeLine := by rw [← rv.length]; exact hz
  refine call_function_entry_kw kind_sorted plain_sorted entry_sorted (ksk_s1 _ _) ?_
  unfold Builtin.«sorted»
  refine wpAny_bind (m := checkCount "sorted" 1 1 _) (wpAny_pure ?_)
  refine wpAny_bind (collect_list hl.isList ?_ hz')
  refine wpAny_bind (wpAny_newList ?_ hz')
  have hsz : ((s.heap.push (seqObj "list" #[] 0)).update s.heap.objs.size (Obj.mapSeq (· ++ its.toArray))).objs.size = s.heap.objs.size + 1 := by
    rw [Heap.size_update, size_push']
  have hoL : (((s.heap.push (seqObj "list" #[] 0)).update s.heap.objs.size (Obj.mapSeq (· ++ its.toArray))).push (seqObj "list" its.toArray 0)).get? (s.heap.objs.size + 1) = some (seqObj "list" its.toArray 0) := by
    rw [← hsz]; exact Heap.get?_push_size _ rfl
  have keep : ∀ b o, s.heap.get? b = some o → (((s.heap.push (seqObj "list" #[] 0)).update s.heap.objs.size (Obj.mapSeq (· ++ its.toArray))).push (seqObj "list" its.toArray 0)).get? b = some o := fun b o q => by
    have hlt : b < s.heap.objs.size := Heap.lt_size q
    refine Heap.get?_push_of_some _ ?_
    rw [Heap.get?_update_ne _ _ _ _ (Nat.ne_of_lt hlt)]
    exact Heap.get?_push_of_some _ q
  show wpAny _ _ _ _ _ { s with heap := ((s.heap.push (seqObj "list" #[] 0)).update s.heap.objs.size (Obj.mapSeq (· ++ its.toArray))).push (seqObj "list" its.toArray 0) }
  rw [hsz]
  generalize hh1 : ((s.heap.push (seqObj "list" #[] 0)).update s.heap.objs.size (Obj.mapSeq (· ++ its.toArray))).push (seqObj "list" its.toArray 0) = h₁ at *
  obtain ⟨aL, haL⟩ : ∃ aL, aL = s.heap.objs.size + 1 := ⟨_, rfl⟩
  rw [← haL] at hoL ⊢
  have hnL : H aL = none := I.hok.fresh (by omega)
  have I1 : Inv X pins σ (upd H aL (.lst xs)) { s with heap := h₁, toks := s.toks } := I.laid (t' := s.toks) keep (by omega) ⟨hz, its, 0, rv, hoL⟩
  refine wpAny_bind (wpAny_holding (wpAny_call_entry_kw slot_list_sort ⟨_, hoL, rfl⟩ entry_list_sort ?_ (ksk_l1 _ _)))
  rw [ksk_t1]
  unfold ksk_tree
  refine wpAny_bind (listItems_at hoL rfl ?_)
  have I2 := I1.lset (t' := s.toks) (its' := []) (ys := []) (f := fun _ => #[]) upd_same hoL rfl .nil (Nat.zero_le _)
  refine wpAny_bind (listUpdate_at hoL rfl ?_ (by rw [List.size_toArray]; exact hz') (Nat.zero_le _))
  obtain ⟨e1, ho1⟩ : ∃ e1, (h₁.update aL (Obj.mapSeq fun _ => (#[] : Array Value))).get? aL = some (seqObj "list" #[] e1) := ⟨_, get?_update_seq hoL fun _ => #[]⟩
  refine wpAny_bind (seqEpoch_at ho1 rfl ?_)
  have I2x := I2.write (x := aL) (e := aL) (o := ExO aL (seqObj "list" #[] e1)) (t' := s.toks) (by rw [upd_same]; trivial) (.inl rfl) (fun b u _ e => e) ⟨_, ho1⟩ ⟨ho1, ⟨_, ho1⟩, fun h1 h2 a b => b _ a⟩
  rw [upd_upd, upd_upd] at I2x
  refine wpAny_bind (wpAny_newTuple ?_ (by simpa using hz'))
  have I3 := I2x.kept (t' := s.toks) (h' := (h₁.update aL (Obj.mapSeq fun _ => (#[] : Array Value))).push { cls := .type "tuple", data := .seq its.toArray.toList.toArray }) fun b u q => Heap.get?_push_of_some _ q
  refine wpAny_bind (wpAny_newList ?_ (Nat.zero_le _))
  have I4 := I3.lnew (t' := s.toks) (its := []) (ys := []) .nil (Nat.zero_le _)
  have fr3 := I3.fresh
  have hge : s.heap.objs.size ≤ ((h₁.update aL (Obj.mapSeq fun _ => (#[] : Array Value))).push { cls := .type "tuple", data := .seq its.toArray.toList.toArray }).objs.size := by
    rw [size_push', Heap.size_update]
    have : aL < h₁.objs.size := Heap.lt_size hoL
    omega
  obtain ⟨kS, hkS⟩ : ∃ kS, kS = ((h₁.update aL (Obj.mapSeq fun _ => (#[] : Array Value))).push { cls := .type "tuple", data := .seq its.toArray.toList.toArray }).objs.size := ⟨_, rfl⟩
  have I4' := I4
  simp only [← hkS] at I4 fr3 hge ⊢
  have hnK : H kS = none := I.hok.fresh hge
  have hne : aL ≠ kS := fun z => by
    rw [← z, upd_same] at fr3
    cases fr3
  refine wpAny_holding ?_
  obtain ⟨HA, hHA⟩ : ∃ HA, HA = upd H aL (ExO aL (seqObj "list" #[] e1)) := ⟨_, rfl⟩
  obtain ⟨HK, hHK⟩ : ∃ HK, HK = upd HA kS (.lst []) := ⟨_, rfl⟩
  rw [← hHA] at I4 fr3
  rw [← hHK] at I4
  have smA : Sm H HA := by rw [hHA]; exact same_new hnL
  have smK : Sm HA HK := by rw [hHK]; exact same_new fr3
  have hKk : HK kS = some (.lst []) := by rw [hHK, upd_same]
  have hKa : HK aL = some (ExO aL (seqObj "list" #[] e1)) := by rw [hHK, upd_ne hne, hHA, upd_same]
  have hSK : SOk HK (kS :: aL :: S) := (((hS.mono smA).mono smK).cons (by rw [hKa]; trivial)).cons (by rw [hKk]; trivial)
  have low1 : Same (hide H S) (hide HK (kS :: aL :: S)) := (smA.low hnL).trans (smK.low fr3)
  have hk := hcall (kS :: aL :: S) HK kS hSK (smA.trans smK) low1 hnK
  unfold ksk_rest
  refine wpAny_bind (wpAny_rule ?_)
  first
    | rw [List.forIn_toArray]
    | (rw [← Array.forIn_toList]; simp only [List.toList_toArray])
    | rw [← Array.forIn_toList]
  refine wpAny_bind (wpAny_mono (keys_fold (oA := ExO aL (seqObj "list" #[] e1)) (kf := kf) (PD := PD) trivial hk List.mem_cons_self hnK hne (fun x s' C hq => ?_) its xs ds [] [] HK _ I4 rv hKk hKa (hd.mono low1) Reps.nil (Same.refl _) (fun b o e _ _ => e) (smA.trans smK) hSK hP (by simpa using hz')) (fun _ s' hq => ?_) fun _ _ z => z)
  · refine wpAny_bind (wpAny_attempt (wpAny_mono hq (fun k s'' hq => ?_) fun _ _ z => z.elim))
    try dsimp only
    refine wpAny_bind (wpAny_mono hq (fun _ s3 hq => ?_) fun _ _ z => z)
    exact wpAny_pure ⟨rfl, hq⟩
  · obtain ⟨H', ksV, I', hk', ha', hS', hrk, sm', smS, hlen⟩ := hq
    rw [List.nil_append] at hrk
    obtain ⟨zk, kits, nk, rk', hlk, ek⟩ := I'.lstM hk'
    obtain ⟨ea, _, _⟩ := I'.hok aL _ ha'
    have hlk2 : kits.length = its.length := by
      rw [← hlk, hlen]; simp
    have hdS : Reps X.K (hide H' (kS :: aL :: S)) ds xs := (hd.mono low1).mono smS
    have hDk : HDs s'.heap (ds.map kf) kits := reps_HDs I' (hrk.mono hide_le) rk' fun d hd => ok.ok d hd d hd
    have hDi : HDs s'.heap ds its := reps_HDs I' (hdS.mono hide_le) rv fun d hd => (hok d hd).1
    have hkk := hDk.kds
    have hki := hDi.kds
    obtain ⟨eb, e2⟩ := refs_back rv fun x m => by
      obtain ⟨d, hd1, hd2⟩ := reps_memD hdS m
      exact rep_ref hd2 (hok d hd1).2
    refine wpAny_bind (listItems_at ek rfl ?_)
    have hkm : ∀ v ∈ kits, HD s'.heap (kd s'.heap v) v := fun v hv => by
      obtain ⟨d, m, h⟩ := hDk.mem hv
      rw [kd_of h]
      exact h
    -- keys beside items
    have hz2 : ∀ p ∈ kits.zip its, kd s'.heap p.1 = kf (kd s'.heap p.2) := fun p hp => by
      obtain ⟨j, hj, e⟩ := List.getElem_of_mem hp
      have hj1 : j < kits.length := by rw [List.length_zip] at hj; omega
      have hj2 : j < its.length := by rw [List.length_zip] at hj; omega
      rw [List.getElem_zip] at e
      subst e
      have f1 : (kits.map (kd s'.heap))[j]? = (ds.map kf)[j]? := by rw [hkk]
      have f2 : (its.map (kd s'.heap))[j]? = ds[j]? := by rw [hki]
      rw [List.getElem?_map, List.getElem?_eq_getElem hj1, List.getElem?_map] at f1
      rw [List.getElem?_map, List.getElem?_eq_getElem hj2] at f2
      rw [← f2] at f1
      simpa using f1
    refine ksk_end_ord (ltv := fun v u => ltT (kd s'.heap v) (kd s'.heap u)) (swo_key (kd s'.heap)) hlk2 ek ea hne.symm hz' (fun h2 => ?_) fun out h1 h2 => ?_
    · have q := tups_sortable (prog := X.prog) (w := X.w) (s := s') (A := X.A.in1.in1) (n := 60) (a := kS) hkm hDk ok (by show X.A.units + 1 + 1 + 60 < cLine; omega) (by omega) (fun o e => by
        rw [ek] at e
        cases e
        intro c
        exact absurd (Value.type.inj c) (by decide))
      exact q s'.heap fun _ _ _ e => e
    · have hp := h2.perm
      have ho : ∀ p ∈ out, p ∈ kits.zip its := fun p hp2 => hp.mem_iff.mp hp2
      have hsn : (kits.zip its).map (fun p => kd s'.heap p.2) = ds := by
        have : (kits.zip its).map (fun p => kd s'.heap p.2) = ((kits.zip its).map (·.2)).map (kd s'.heap) := by rw [List.map_map]; rfl
        rw [this, List.map_snd_zip (by omega), hki]
      have h2' : Stb (fun p q : Keyed => ltT (kf (kd s'.heap p.2)) (kf (kd s'.heap q.2))) out (kits.zip its) := stb_congr (swo2 (swo_key (kd s'.heap))) (swo_key fun p : Keyed => kf (kd s'.heap p.2)) h2 fun x hx y hy => by
        show ltT (kd s'.heap x.1) (kd s'.heap y.1) = _
        rw [hz2 x (ho x hx), hz2 y (ho y hy)]
      have h1' : Srtd (fun p q : Keyed => ltT (kf (kd s'.heap p.2)) (kf (kd s'.heap q.2))) out := List.Pairwise.imp_of_mem (fun {x y} hx hy h => by
        have h : ltT (kd s'.heap y.1) (kd s'.heap x.1) = false := h
        rw [hz2 x (ho x hx), hz2 y (ho y hy)] at h
        exact h) h1
      have esort : srtB (fun x y => ltT (kf x) (kf y)) ds = out.map (fun p => kd s'.heap p.2) := by
        have h4 : Srtd (fun x y => ltT (kf x) (kf y)) (out.map (fun p => kd s'.heap p.2)) := srtd_map h1'
        have h5 : Stb (fun x y => ltT (kf x) (kf y)) (out.map (fun p => kd s'.heap p.2)) ds := by
          have := Stb.map (lt := fun x y => ltT (kf x) (kf y)) (swo_key kf) (fun p : Keyed => kd s'.heap p.2) h2'
          rw [hsn] at this
          exact this
        exact (srt_uniq (swo_key kf) h4 h5).symm
      have hmi : ∀ p ∈ out, p.2 ∈ its := fun p hp2 => (List.of_mem_zip (ho p hp2)).2
      have hrep : Reps X.K (hide H' (kS :: aL :: S)) (srtB (fun x y => ltT (kf x) (kf y)) ds) ((out.map (·.2)).map backV) := by
        rw [esort]
        have : out.map (fun p => kd s'.heap p.2) = (out.map (·.2)).map (kd s'.heap) := by rw [List.map_map]; rfl
        rw [this]
        refine reps_of fun u hu => ?_
        obtain ⟨p, hp1, rfl⟩ := List.mem_map.mp hu
        have hdS := hdS
        rw [eb] at hdS
        exact reps_at hdS hki _ (hmi p hp1)
      have I5 := I'.lset (t' := s'.toks) (its' := []) (ys := []) (f := fun _ => #[]) hk' ek rfl .nil (Nat.zero_le _)
      have ha5 : upd H' kS (.lst []) aL = some (ExO aL (seqObj "list" #[] e1)) := by rw [upd_ne hne]; exact ha'
      have ea5 : (s'.heap.update kS (Obj.mapSeq fun _ => (#[] : Array Value))).get? aL = some (seqObj "list" #[] e1) := (Heap.get?_update_ne _ _ _ _ hne).trans ea
      have hlo : out.length = its.length := by rw [hp.length_eq, List.length_zip]; omega
      have hvo : Vals ((out.map (·.2)).map backV) (out.map (·.2)) := vals_back fun u hu => by
        obtain ⟨p, hp1, rfl⟩ := List.mem_map.mp hu
        exact e2 _ (hmi p hp1)
      obtain ⟨n6, e6⟩ : ∃ n6, ((s'.heap.update kS (Obj.mapSeq fun _ => (#[] : Array Value))).update aL (Obj.mapSeq fun _ => (out.map (·.2)).toArray)).get? aL = some (seqObj "list" (out.map (·.2)).toArray n6) := ⟨_, get?_update_seq ea5 fun _ => (out.map (·.2)).toArray⟩
      have I6 := I5.write (x := aL) (e := aL) (o := .lst ((out.map (·.2)).map backV)) (t' := s'.toks) (h' := (s'.heap.update kS (Obj.mapSeq fun _ => (#[] : Array Value))).update aL (Obj.mapSeq fun _ => (out.map (·.2)).toArray)) (by rw [ha5]; trivial) (.inl rfl) (fun b u hb hu => (Heap.get?_update_other _ _ (Ne.symm hb)).trans hu) ⟨_, e6⟩
        ⟨by rw [List.length_map, List.length_map, hlo]; exact hz', _, n6, hvo, e6⟩
      have nck : ∀ q, HO.lst ksV ≠ LamX.CodeO kS q := fun q => code_ne fun φ z => by cases z
      have nca : ∀ q, ExO aL (seqObj "list" #[] e1) ≠ LamX.CodeO aL q := fun q => exo_code
      have hh : ∀ T : List Addr, (∀ b ∈ T, b ∈ kS :: aL :: S) → Same (hide H' (kS :: aL :: S)) (hide (upd (upd H' kS (.lst [])) aL (.lst ((out.map (·.2)).map backV))) T) := fun T hT => by
        have e : hide (upd (upd H' kS (.lst [])) aL (.lst ((out.map (·.2)).map backV))) (kS :: aL :: S) = hide H' (kS :: aL :: S) := by
          rw [hide_upd_in (by simp), hide_upd_in (by simp)]
        rw [← e]
        exact hide_more hT
      have nS : aL ∉ S := hS.new hnL
      refine ⟨_, rfl, wpAny_pure ⟨_, rfl, .ref aL, _, I6, rfl, q _ _ ⟨(sm'.wr hnK hk' trivial nck).wr hnL ha5 trivial nca, ?_, fun _ => ⟨aL, _, rfl, hnL, upd_same, _, rfl, hrep.mono (hh _ fun b hb => List.mem_cons_of_mem _ hb)⟩⟩⟩⟩
      unfold Rep
      exact ⟨aL, _, rfl, .inl (.inl (by rw [hide_out nS, upd_same])), hrep.mono (hh _ fun b hb => List.mem_cons_of_mem _ (List.mem_cons_of_mem _ hb))⟩
end
end Dl

/-! DlLam: lambdas of one parameter; sorted(xs, key=lambda x: ..). -/
namespace Dl
open PySem PySem.Spec PyProof.Rows L2
variable [Tbs]
/-- a lambda may be laid in X's code -/
def LamC (X : Cx) : Prop := ∃ c P, X.env.code = .ref c ∧ LamX.TabB X.base X.mg c P ∧ (P, X.env.qual ++ "<lambda>") ∈ Tbs.T ∧ ∀ p ∈ Tbs.T, p.1 = P → p.2 = X.env.qual ++ "<lambda>"
section
variable {X : Cx} {pins : List (Addr × Obj)} {σ : L2.St} {H : Hp} {s : Shared}
abbrev lamO (X : Cx) (params : Arguments) (body : Expr) (scope : Scope) (pm : Value) (c' : Addr) (ctv : Value) : Obj := PySem.W.kla_obj "<lambda>" (X.env.qual ++ "<lambda>") params body scope (cloFrom X.env.cells scope.names []) pm c' ctv
theorem lam_make3 {c P : Addr} {params : Arguments} {body : Expr} {scope : Scope} {pos : Pos} {E : Value → Shared → Prop} {Q : Value → Shared → Prop} (I : Inv X pins σ H s) (TB : LamX.TabB X.base X.mg c P) (hcode : X.env.code = .ref c)
    (hm : (P, X.env.qual ++ "<lambda>") ∈ Tbs.T) (hu : ∀ p ∈ Tbs.T, p.1 = P → p.2 = X.env.qual ++ "<lambda>") (hT : LamX.Tabs Tbs.T H) (hdef : defaultsOf params X.env = ([], [])) (hfree : ∀ y ∈ scope.names, y.2 = .free → ∃ c, X.env.cells.lookup y.1 = some c)
    (h : ∀ (f c' : Addr) (pm ctv : Value) (H1 : Hp) (s' : Shared), Inv X pins σ H1 s' → Sm H H1 → H f = none → H1 f = some (ExO f (lamO X params body scope pm c' ctv)) → H1 c' = some (LamX.CodeO c' (X.env.qual ++ "<lambda>")) → Q (.ref f) s') :
    wpAny (model X.prog X.w) X.A (eval (.Lambda params body scope pos) X.env) Q E s := by
  obtain ⟨ps, hP, ht, ha⟩ := hT _ hm
  refine PySem.W.kla_eval hdef ?_
  have bP : s.heap.BuiltinsAt X.mg P := TB.bm.keeps I.bk
  have hP' : s.heap.get? P = some { cls := .none, data := .fields ps } := I.hok P _ hP
  -- the function's object is laid last
  have last : ∀ (c' : Addr) (pm ctv : Value) (H0 : Hp) (h' : Heap) (tk : Nat), Inv X pins σ H0 { s with heap := h', toks := tk } → Sm H H0 → H0 c' = some (LamX.CodeO c' (X.env.qual ++ "<lambda>")) →
      Q (.ref h'.objs.size) { s with heap := h'.push (lamO X params body scope pm c' ctv), toks := tk } := fun c' pm ctv H0 h' tk I0 sm hc => by
    have nf : H0 h'.objs.size = none := I0.hok.fresh (Nat.le_refl _)
    have I1 := I0.laid (t' := tk) (a := h'.objs.size) (o := ExO h'.objs.size (lamO X params body scope pm c' ctv)) (h' := h'.push (lamO X params body scope pm c' ctv)) (fun b u e => Heap.get?_push_of_some _ e) (Nat.le_refl _) ⟨Heap.get?_push_size _ rfl, ⟨_, Heap.get?_push_size _ rfl⟩, fun h1 h2 a b => b _ a⟩
    exact h _ c' pm ctv _ _ I1 (sm.trans (same_new nf)) (sm.free nf) upd_same (by rw [upd_ne (ne_of_none hc nf)]; exact hc)
  cases hc : codeAmong pos ps.toList with
  | none =>
    refine PySem.W.kla_makeFunction (mg := X.mg) (c := c) (P := P) (ps := ps) (closure_ok hfree) I.ok.glob (I.mod.glob.keeps I.bk) hcode (TB.code.keeps I.bk) hP' ht hc TB.gP bP fun c' ctv h' tk hx hge hlt hrec htb => ?_
    obtain ⟨c2, oc, vs, t, e2, hoc, hd, hv⟩ := hrec
    cases e2
    have nC : H c' = none := I.hok.fresh hge
    have I0 := LamX.inv_table (t' := tk) (more := #[rawInt pos.line, rawInt pos.col, .ref c']) (h' := h') I hP (fun b o hb e => hx b o hb e) htb hge ⟨oc, vs, t, hoc, hd, hv⟩
    have nPc : P ≠ c' := ne_of_none hP nC
    have hE : ∀ b o, H b = some o → ntb o → upd (upd H P (.tbl (ps ++ #[rawInt pos.line, rawInt pos.col, .ref c']))) c' (LamX.CodeO c' (X.env.qual ++ "<lambda>")) b = some o := fun b o e n => by
      rw [upd_ne (ne_of_none e nC), upd_ne (fun z => by
        rw [z, hP] at e
        cases e
        exact n)]
      exact e
    have eL : (ps ++ #[rawInt pos.line, rawInt pos.col, .ref c']).toList = ps.toList ++ [rawInt pos.line, rawInt pos.col, .ref c'] := by simp
    have nt : ∀ c q, ntb (LamX.CodeO c q) := fun c q => trivial
    refine last c' _ ctv _ h' tk I0 ⟨⟨hE, fun b e => ?_⟩, fun hT p hp => ?_⟩ upd_same
    · by_cases hb : b = c'
      · rw [hb]; exact nC
      · rw [upd_ne hb] at e
        by_cases hb2 : b = P
        · rw [hb2, upd_same] at e; cases e
        · rw [upd_ne hb2] at e; exact e
    · by_cases hb : p.1 = P
      · rw [hu p hp hb, hb]
        refine ⟨_, by rw [upd_ne nPc, upd_same], by rw [eL]; exact PySem.TriplesOk_snoc _ _ _ _ ht, fun p' cv hcv => ?_⟩
        rw [eL] at hcv
        rcases LamX.among_app _ ht hcv with z | z
        · obtain ⟨c0, e1, e2⟩ := ha p' cv z
          exact ⟨c0, e1, hE _ _ e2 (nt _ _)⟩
        · exact ⟨c', z, upd_same⟩
      · obtain ⟨ps', a1, a2, a3⟩ := hT p hp
        refine ⟨ps', by rw [upd_ne (ne_of_none a1 nC), upd_ne hb]; exact a1, a2, fun p' cv hcv => ?_⟩
        obtain ⟨c0, e1, e2⟩ := a3 p' cv hcv
        exact ⟨c0, e1, hE _ _ e2 (nt _ _)⟩
  | some cv =>
    obtain ⟨c', e, hco⟩ := ha pos cv hc
    subst e
    refine PySem.W.kla_makeFunctionHit (mg := X.mg) (c := c) (P := P) (ps := ps) (closure_ok hfree) I.ok.glob (I.mod.glob.keeps I.bk) hcode (TB.code.keeps I.bk) hP' ht hc bP fun ctv h' tk hx hsz => ?_
    exact last c' _ ctv H h' tk (I.kept fun b o e => hx b o e) (Sm.refl _) hco
end
/-! ### its names -/
structure Lam1 (sc scope : Scope) (x : Str) : Prop where
  kind : scope.kind = .function
  co : scope.isCoroutine = false
  gen : scope.isGenerator = false
  par : scope.names.lookup x = some .local
  ncell : ∀ y ∈ scope.names, y.2 ≠ .cell
  loc : ∀ y ∈ scope.names, y.2 = .local → y.1 = x
  free : ∀ y ∈ scope.names, y.2 = .free → y.1 ≠ x ∧ (sc.names.lookup y.1 = some .cell ∨ sc.names.lookup y.1 = some .free)
theorem lam1_by {sc scope : Scope} {x : Str} (h : lam1B sc scope x = true) : Lam1 sc scope x := by
  unfold lam1B at h
  simp only [Bool.and_eq_true, Bool.or_eq_true, Bool.not_eq_true', decide_eq_true_eq, decide_eq_false_iff_not, List.all_eq_true] at h
  obtain ⟨⟨⟨⟨h1, h2⟩, h3⟩, h0⟩, h4⟩ := h
  refine ⟨h1, h2, h3, h0, fun y hy => (h4 y hy).1.1, fun y hy e => ?_, fun y hy e => ?_⟩
  · rcases (h4 y hy).1.2 with z | z
    · exact absurd e z
    · exact z
  · rcases (h4 y hy).2 with z | ⟨z1, z2⟩
    · exact absurd e z
    · exact ⟨z1, z2⟩
theorem Lam1.has {X : Cx} {scope : Scope} {x : Str} (L : Lam1 X.env.scope scope x) (ok : X.Ok) : ∀ y ∈ scope.names, y.2 = .free → ∃ c, X.env.cells.lookup y.1 = some c := fun y hy e => by
  rcases (L.free y hy e).2 with k | k
  · exact ok.has _ (.inl k)
  · exact ok.has _ (.inr k)
section
variable {X : Cx} {pins : List (Addr × Obj)} {σ : L2.St} {H : Hp} {s : Shared}
theorem lam_start1 {A : Around} {outer : List Env} {E : XK} {scope : Scope} {f c' : Addr} {h₁ : Heap} {tk i : Nat} {x : Str} {v : V} {u : Value} (I : Inv X pins σ H s) (L : Lam1 X.env.scope scope x) (hi : X.N[i]? = some x) (hnd : X.N.Nodup) (e0 : Env0 X.prog X.w X.K X.mg X.base A outer s H) (hd : A.handled = none)
    (hns : h₁.Ns s.heap.objs.size fun y => ([(x, u)] : List (Str × Value)).reverse.lookup y) (kp : ∀ b o, s.heap.get? b = some o → h₁.get? b = some o) (rv : RelV v u) :
    Inv (LamX.lamCx X A outer s H E scope f c') [] (σ.set i (some v)) H { s with heap := h₁, toks := tk } := by
  have hfree := L.has I.ok
  have cm : ∀ {y c}, (cloFrom X.env.cells scope.names []).lookup y = some c → X.env.cells.lookup y = some c := fun {y c} e => by
    rcases cloFrom_mem (PySem.mem_of_lookup e) with hm | ⟨h1, h2⟩
    · cases hm
    · obtain ⟨c1, hc⟩ := hfree _ h1 rfl
      have hc : X.env.cells.lookup y = some c1 := hc
      have e2 : c = c1 := by
        rw [h2, hc] <;> rfl
      rw [e2]
      exact hc
  have look : ∀ {y}, scope.names.lookup y = some .free → ∃ c, (cloFrom X.env.cells scope.names []).lookup y = some c := fun {y} hl => by
    have hy : (y, NameKind.free) ∈ scope.names := PySem.mem_of_lookup hl
    exact L2.mem_lookup (cloFrom_has (cells := X.env.cells) (acc := []) hy)
  have cellK : ∀ {c : Addr} {v : Option Value}, s.heap.IsCell c v → h₁.IsCell c v := fun {c v} ⟨o, ho, hd⟩ => ⟨_, kp _ _ ho, hd⟩
  have noA : ∀ b : Addr, b ∉ (LamX.lamCx X A outer s H E scope f c').ex := fun b z => absurd (show b ∈ ([] : List Addr) from z) (by simp)
  refine ⟨⟨e0.mod, L.kind, rfl, rfl, Nat.le_refl _, fun y z c e1 e2 => I.ok.inj y z c (cm e1) (cm e2), fun y hy => ?_, fun y c z _ => ?_, fun _ => hd, Around.frames_deeper e0.frames, .inr ⟨rfl, rfl⟩, fun b z => absurd z (noA b), e0.bs, e0.bsz, fun b _ _ => noA b,
      fun b z => absurd z (noA b), e0.funs, e0.frf⟩,
    rfl, e0.bare, Un.kept kp, ⟨_, hns, fun j y w e1 e2 e3 => ?_⟩, fun y c e => ?_, e0.hok.fresh (Nat.le_refl _), fun y c e => ?_, fun q hq => absurd (show q ∈ ([] : List (Addr × Obj)) ++ [] from hq) (by simp), e0.hok.kept kp, by
      have := I.len
      show (σ.set i (some v)).length = X.N.length
      rw [List.length_set]; exact this⟩
  · have hy : scope.names.lookup y = some .cell ∨ scope.names.lookup y = some .free := hy
    rcases hy with hy | hy
    · exact absurd rfl (L.ncell _ (PySem.mem_of_lookup hy))
    · exact look hy
  · have z : false = true := z
    cases z
  · have e3 : Vis scope y := e3
    have e1 : X.N[j]? = some y := e1
    rcases e3 with k | k | k
    · have ey : y = x := L.loc _ (PySem.mem_of_lookup k) rfl
      have ej : j = i := by
        have h1 : j < X.N.length := (List.getElem?_eq_some_iff.mp e1).1
        have h2 : i < X.N.length := (List.getElem?_eq_some_iff.mp hi).1
        exact (List.getElem_inj (h₀ := h1) (h₁ := h2) hnd).mp (by
          have a := (List.getElem?_eq_some_iff.mp e1).2
          have b := (List.getElem?_eq_some_iff.mp hi).2
          rw [a, b, ey])
      subst ej
      have hl : j < σ.length := by have := (List.getElem?_eq_some_iff.mp e2).1; simpa using this
      rw [List.getElem?_set_self hl] at e2
      cases e2
      exact ⟨u, rv, .inl ⟨k, by rw [ey]; simp⟩⟩
    · exact absurd rfl (L.ncell _ (PySem.mem_of_lookup k))
    · have hy := L.free _ (PySem.mem_of_lookup k) rfl
      have hne : j ≠ i := fun z => by
        rw [z, hi] at e1
        exact hy.1 (Option.some.inj e1).symm
      have e2 : σ[j]? = some (some w) := by
        have e2 : (σ.set i (some v))[j]? = some (some w) := e2
        rw [List.getElem?_set_ne (Ne.symm hne)] at e2
        exact e2
      obtain ⟨m, hn, hl⟩ := I.loc
      have hvis : Vis X.env.scope y := hy.2.elim (fun k => .inr (.inl k)) (fun k => .inr (.inr k))
      obtain ⟨w', r, q⟩ := hl j y w e1 e2 hvis
      obtain ⟨c2, h2⟩ := look k
      refine ⟨w', r, .inr ⟨.inr k, c2, h2, ?_⟩⟩
      have c1 := cm h2
      rcases q with ⟨k', _⟩ | ⟨_, c3, e', z⟩
      · have k' : X.env.scope.names.lookup y = some .local := k'
        rcases hy.2 with k2 | k2 <;> rw [show X.env.scope.names.lookup y = _ from k2] at k' <;> cases k'
      · rw [c1] at e'
        cases e'
        exact cellK z
  · obtain ⟨w', z⟩ := I.cell y c (cm e)
    exact ⟨w', cellK z⟩
  · exact I.freeC y c (cm e)
theorem bind1 {q : Str} {ps : Arguments} {body : Expr} {scope : Scope} {cl : List (Str × Addr)} {pm cv ctv : Value} {x : Str} {u : Value} (hp : lamP x ps = true) : bindArgs (PySem.W.kla_fn "<lambda>" q ps body scope cl pm cv ctv) ⟨[u], []⟩ = pure [(x, u)] := by
  unfold lamP at hp
  split at hp
  · rename_i y p
    have e := of_decide_eq_true hp
    subst e
    have hx : (x == x) = true := by simp
    unfold bindArgs
    simp [seqItems?, List.lookup, hx]
    first | rfl | done
  · cases hp
theorem dfl1 {ps : Arguments} {x : Str} {env : Env} (hp : lamP x ps = true) : defaultsOf ps env = ([], []) := by
  unfold lamP at hp
  split at hp
  · rfl
  · cases hp
def E0 : XK := fun _ _ _ => False
/-- the lambda is called by list.sort -/
theorem key_call {k i : Nat} {f c' : Addr} {x : Str} {v : V} {u : Value} {ps : Arguments} {body : Expr} {scope : Scope} {pm ctv : Value} {tb : TE} {Q : VK} (I : Inv X pins σ H s) (hf : H f = some (ExO f (lamO X ps body scope pm c' ctv))) (hc : H c' = some (LamX.CodeO c' (X.env.qual ++ "<lambda>")))
    (L : Lam1 X.env.scope scope x) (hp : lamP x ps = true) (hi : X.N[i]? = some x) (hnd : X.N.Nodup) (hr : Room (k + 1) X.A) (rv : RelV v u)
    (hbody : ∀ (A : Around) (outer : List Env) (s : Shared) (H : Hp), Room k (A.deeper (LamX.lamEnv X scope s.heap.objs.size f c')) → PE (LamX.lamCx X A outer s H E0 scope f c') body tb) (ht : tb (σ.set i (some v)) H Q) :
    wpAny (model X.prog X.w) X.A.in1.in1 (call (.ref f) [u]) (EP X pins σ Q) (fun _ _ => False) s := by
  obtain ⟨ho, _, _⟩ := I.hok f _ hf
  obtain ⟨⟨oc, vs, t, hoc, hdc, hvc⟩, _, _⟩ := I.hok c' _ hc
  have hr2 : ∀ env : Env, Room k (X.A.in1.in1.deeper env) := fun env => ⟨hr.hd, by have := hr.dp; show X.A.depth + 1 + 3 * k + 5 < _; omega, by have := hr.un; show X.A.units + 1 + 1 + 3 + 16 * k + 200 < _; omega⟩
  have e0 := I.env0
  have e0' : Env0 X.prog X.w X.K X.mg X.base X.A.in1.in1 X.stack s H := ⟨e0.frames, e0.mod, e0.bs, e0.bsz, e0.funs, e0.frf, e0.hok, e0.bare⟩
  have rc : codeAny (model X.prog X.w) X.A.in1.in1 (.call (.ref f) ⟨[u], []⟩) (CR (L2.CX X.prog X.w) X.stack X.prog X.w H s Q E0) s := by
    refine PySem.W.kla_callFunE (by have := hr.dp; show X.A.depth < _; omega) ho rfl L.co L.gen rfl ⟨c', oc, vs, t, rfl, hoc, hdc, hvc⟩ ?_
    rw [bind1 hp]
    refine wpAny_pure (wpAny_newFunctionEnv (fun y hy => L.ncell y hy) (fun y hy => by
      rw [List.mem_singleton.mp hy]; exact L.par) (fun h₁ hns hsb => ⟨I.nolimit.fresh _ hsb, ?_⟩) L.kind)
    show codeAny _ _ (.expr body (LamX.lamEnv X scope s.heap.objs.size f c')) _ _
    have kp : ∀ b o, s.heap.get? b = some o → h₁.get? b = some o := fun b o e => hsb.extBut b o (Nat.ne_of_lt (Heap.lt_size e)) (Heap.get?_push_of_some _ e)
    have J : Inv (LamX.lamCx X X.A.in1.in1 X.stack s H E0 scope f c') [] (σ.set i (some v)) H { s with heap := h₁, toks := s.toks + ([(x, u)] : List (Str × Value)).length } := lam_start1 I L hi hnd e0' hr.hd hns kp rv
    refine PySem.W.kla_codeExpr (wpAny_mono ((hbody _ _ s H (hr2 _)).run [] _ _ H Q J ht) (fun v s' hq => ?_) fun e s' hq => hq)
    obtain ⟨w', H', J', rv, q⟩ := hq
    exact ⟨w', H', J'.os, J'.bare, J'.base, J'.hok, rv, q⟩
  refine wpAny_call (codeAny_mono rc fun r s' hq => ?_)
  cases r with
  | error e =>
    obtain ⟨_, _, _, _, _, _, _, _, _, _, _, _, z⟩ := hq
    exact z
  | ok fl =>
    cases fl with
    | ret u => exact I.after hq
    | next => exact False.elim hq
    | brk => exact False.elim hq
    | cont => exact False.elim hq
end
/-- sorted(xs, key=lambda x: ..) -/
theorem sortk_D {X : Cx} {N : List Str} {sc : Scope} {cm : Bool} {W : WX} {k i : Nat} {hid : List Nat} {it key : CE} {a : Expr} {ps : Arguments} {body : Expr} {scope : Scope} {p lpos kpos pos : Pos} (G : Gd X N sc cm W (k + 1)) (hcm : cm = true) (hg : gloB sc "sorted" = true) (hpl : plB a = true) (hi : N[i]? = some x) (hih : hid.contains i = false)
    (hp : lamP x ps = true) (hl : lam1B sc scope x = true) (LC : LamC X) (ha : PE X a (tE X.K X.mg W hid it))
    (hbody : ∀ (A : Around) (outer : List Env) (s : Shared) (H : Hp) (f c' : Addr), Room k (A.deeper (LamX.lamEnv X scope s.heap.objs.size f c')) → PE (LamX.lamCx X A outer s H E0 scope f c') body (tE X.K X.mg W0 hid key)) :
    PE X (.Call (.Name "sorted" p) [a] [⟨some "key", .Lambda ps body scope lpos, kpos⟩] pos) (tE X.K X.mg W hid (.sortk i it key)) := by
  obtain ⟨calm, hr⟩ := G.cm hcm
  have L : Lam1 X.env.scope scope x := by rw [G.sc]; exact lam1_by hl
  obtain ⟨c, P, h1, h2, h3, h4⟩ := LC
  refine ⟨fun pins s σ H Q I w => ?_⟩
  obtain ⟨S, ρ, hS, hE, w⟩ := w
  unfold wpE at w
  have hf : ("sorted" : Str) ∈ freeNames := by decide +kernel
  refine wpAny_Call_Name_kw (ld_blt I (gl_of G hg) (G.fr _ hf) (by decide +kernel : bootBuiltins ("sorted" : Str) = some (.builtin "sorted")) ?_ (gloB_ok hg).2.2 (gloB_ok hg).2.1)
  refine PyProof.Rows.callWith_kw ?_ (by rw [star_of hpl]; rfl) (by rw [star_of hpl]; rfl)
  have hPA := (pa_cons ha pa_nil (star_of hpl _ _)).run pos pins s σ H (fun vs H1 => ∃ v d, vs = [v] ∧ Post X.K H S it.fresh d v H1 ∧ ∃ (xs : List D) (kf : D → D), d = .lst xs ∧ i < ρ.length ∧ (∀ x ∈ xs, (cmpOk x x = true ∧ ne1 x = true) ∧ wpE key (ρ.set i (some x)) (fun y => y = kf x) (fun _ => False)) ∧
      TupsOk 60 (xs.map kf) ∧ ∀ v H', Post X.K H S true (.lst (srtB (fun x y => ltT (kf x) (kf y)) xs)) v H' → Q v H') I
    (tE_in hS hE w (fun d v H1 q p => ⟨v, d, rfl, p, q⟩) fun x cls dd H' e sm xr => e cls dd H' sm xr)
  refine thn hPA fun us s1 ⟨vs, H1, I1, r1, v, d, ev, p, xs, kf, ed, hil, hk, ok, q⟩ => ?_
  subst ev ed
  obtain ⟨u, rfl, ru⟩ := vals1 r1
  obtain ⟨aL, ys, rfl, hs, hrs⟩ := rep_lst p.rep
  obtain rfl : u = Value.ref aL := ru
  show wpAny _ _ (evalAll [do let v ← eval (.Lambda ps body scope lpos) X.env; standAt pos; pure v]) _ _ s1
  refine wpAny_evalAll_cons (wpAny_bind (lam_make3 I1 h2 h1 h3 h4 ((hS.mono p.same).tb) (dfl1 hp) (L.has I1.ok) fun f c' pm ctv H2 s2 I2 sm hfn hf2 hc2 => wpAny_bind (wpAny_standAt (wpAny_pure (wpAny_evalAll_nil ?_)))))
  show wpAny _ _ (call (.builtin "sorted") [.ref aL] [(Str.ofString "key", .ref f)]) _ _ _
  have hS2 := (hS.mono p.same).mono sm
  refine call_sortedK (PD := fun d => d ∈ xs) I2 G.hu hS2 (Same.sql sm.w (Same.sql hide_le hs)) (hrs.mono sm.hide) (fun d hd => hd) ok (fun d hd => (hk d hd).1) (fun S' H3 kS hS3 sm3 low hn => ?_) fun v H' pp => q v H' (pp.trans (p.same.trans sm))
  intro s4 H4 v u d Q4 I4 rv hS4 smw fx rd hd hq
  have nf : f ≠ kS := ne_of_none hf2 hn
  have nc : c' ≠ kS := ne_of_none hc2 hn
  have hi' : X.N[i]? = some x := by rw [G.nn]; exact hi
  refine key_call (tb := tE X.K X.mg W0 hid key) (k := k) I4 (fx f _ (sm3.at_ hf2) nf trivial) (fx c' _ (sm3.at_ hc2) nc trivial) L hp hi' (by rw [G.nn]; exact G.nd) hr rv (fun A outer s H => hbody A outer s H f c') ?_
  have hne := ok.ne (kf d) (List.mem_map_of_mem hd)
  refine ⟨S', ρ.set i (some d), hS4, ⟨by simp [hE.len], fun j e ej hj => ?_⟩, wpE_mono key (hk d hd).2 (fun y ey v' H5 p5 => ?_) fun _ z => z.elim⟩
  · by_cases hji : j = i
    · subst hji
      rw [List.getElem?_set_self hil] at ej
      cases ej
      exact ⟨v, List.getElem?_set_self (by rw [hE.len]; exact hil), rd⟩
    · rw [List.getElem?_set_ne (Ne.symm hji)] at ej
      obtain ⟨v', f1, f2⟩ := hE.rep j e ej hj
      exact ⟨v', by rw [List.getElem?_set_ne (Ne.symm hji)]; exact f1, f2.mono (((p.same.trans sm).hide.trans low).trans smw)⟩
  · subst ey
    refine hq v' H5 ⟨p5.same, p5.rep, fun _ => ?_⟩
    cases hkf : kf d <;> first | trivial | (rw [hkf] at hne; cases hne)
end Dl

/-! DlDct: dict displays: {}, {k: v}. -/
namespace Dl
open PySem PySem.Spec PyProof.Rows L2
variable [Tbs]
theorem dico_empty {P : Program} {w : World} {H : Hp} (h : Heap) (hb : sysModules < h.objs.size) : ObjOk P w H (h.push { cls := .type "dict", data := .dict #[] }) h.objs.size (DicO h.objs.size [] []) :=
  dic_to (ks := []) (us := []) rfl rfl .nil rfl (Nat.zero_le _) (beq_eq_false_iff_ne.mpr (Ne.symm (Nat.ne_of_lt hb))) ⟨_, #[], 0, Heap.get?_push_size _ rfl, ⟨rfl, rfl, rfl⟩, rfl, rfl, (fun x hx => by cases hx), List.nodup_nil⟩
section
variable {X : Cx} {N : List Str} {sc : Scope} {cm : Bool} {W : WX} {k : Nat} {hid : List Nat}
theorem post_dict {K : PySem.W.Frag} {H H2 : Hp} {S : List Addr} {p : Addr} {d : D} {o0 o : HO} (hS : SOk H S) (hp : H p = none) (sm : Sm H H2) (e : H2 p = some o0) (n : ntb o0) (nc : ∀ q, o0 ≠ LamX.CodeO p q) (r : CRep K (hide H2 (p :: S)) p d o) : Post K H S true d (.ref p) (upd H2 p o) := by
  have np : p ∉ S := hS.new hp
  have hh : hide (upd H2 p o) (p :: S) = hide H2 (p :: S) := hide_upd_in List.mem_cons_self
  have r2 : CRep K (hide (upd H2 p o) (p :: S)) p d o := by rw [hh]; exact r
  refine ⟨sm.wr hp e n nc, (r2.mono (hide_more fun a ha => List.mem_cons_of_mem _ ha)).rep (by rw [hide_out np, upd_same]), fun _ => Top.of fun _ => ⟨p, o, rfl, hp, upd_same, r2⟩⟩
theorem dct0_D {pos : Pos} : PE X (.Dict [] [] pos) (tE X.K X.mg W hid .dct0) := by
  refine ⟨fun pins s σ H Q I h => ?_⟩
  obtain ⟨S, ρ, hS, hE, w⟩ := h
  unfold wpE at w
  have hn := I.hok.fresh (Nat.le_refl s.heap.objs.size)
  refine wpAny_Dict_empty ⟨.ref s.heap.objs.size, _, I.laid (a := s.heap.objs.size) (o := DicO s.heap.objs.size [] []) (t' := s.toks) (fun _ _ q => Heap.get?_push_of_some _ q) (Nat.le_refl _) (dico_empty s.heap I.big), rfl, w _ _ ?_⟩
  have np : s.heap.objs.size ∉ S := hS.new hn
  have r : ∀ H', CRep X.K H' s.heap.objs.size (.dict [] []) (DicO s.heap.objs.size [] []) := fun H' => ⟨[], [], rfl, rfl, rfl, Reps.nil, Reps.nil⟩
  exact ⟨same_new hn, (r _).rep (by rw [hide_out np, upd_same]), fun _ => Top.of fun _ => ⟨_, _, rfl, hn, upd_same, r _⟩⟩
theorem dct1_D {a b : CE} {ke ve : Expr} {pos : Pos} (G : Gd X N sc cm W k) (ha : PE X ke (tE X.K X.mg W hid a)) (hb : PE X ve (tE X.K X.mg W hid b)) : PE X (.Dict [some ke] [ve] pos) (tE X.K X.mg W hid (.dct1 a b)) := by
  refine ⟨fun pins s σ H Q I h => ?_⟩
  obtain ⟨S, ρ, hS, hE, w⟩ := h
  unfold wpE at w
  have hn := I.hok.fresh (Nat.le_refl s.heap.objs.size)
  have I1 := I.laid (a := s.heap.objs.size) (o := DicO s.heap.objs.size [] []) (h' := s.heap.push { cls := .type "dict", data := .dict #[] }) (t' := s.toks) (fun _ _ q => Heap.get?_push_of_some _ q) (Nat.le_refl _) (dico_empty s.heap I.big)
  have np : s.heap.objs.size ∉ S := hS.new hn
  have hS1 : SOk (upd H s.heap.objs.size (DicO s.heap.objs.size [] [])) (s.heap.objs.size :: S) := (hS.mono (same_new hn)).cons (by rw [upd_same]; trivial)
  have hE1 : EV X.K (s.heap.objs.size :: S) hid (upd H s.heap.objs.size (DicO s.heap.objs.size [] [])) σ ρ := ⟨hE.len, fun i d h1 h2 => by rw [hide_cons_upd hn]; exact hE.rep i d h1 h2⟩
  have big := I.big
  have hu := G.hu
  rw [arm_eval_Dict, zip_pairTrees [some ke] [ve] X.env pos rfl rfl, dictDisplay_pairs (pairTrees [some ke] [ve] X.env pos) (by simp [pairTrees]) (by simp [pairTrees])]
  refine wpAny_bind (wpAny_standAt (wpAny_bind (wpAny_subDictH (knd := nestedKind X.prog X.w) (by show X.A.units + 8 < cLine; omega) (by simp [pairTrees]) (thn ((pps_cons (pos := pos) ha hb pps_nil).run pins _ σ _ (fun ps H2 => ∃ x y vx vy, ps = [(vx, vy)] ∧ isKey x = true ∧ Sm (upd H s.heap.objs.size (DicO s.heap.objs.size [] [])) H2 ∧ Rep X.K (hide H2 (s.heap.objs.size :: S)) x vx ∧ Rep X.K (hide H2 (s.heap.objs.size :: S)) y vy ∧ ∀ v H', Post X.K H S true (.dict [x] [y]) v H' → Q v H') I1 ?_) fun ws s2 ⟨ps, H2, I2, rel, x, y, vx, vy, ep, hk, sm, rx, ry, q⟩ => ?_))))
  · refine tE_in hS1 hE1 w (fun x vx H1 q p1 => tE_in (hS1.mono p1.same) (hE1.mono p1.same) q (fun y vy H2 ⟨hk, q⟩ p2 => ?_) fun x cls dd H' e sm xr => e cls dd H' ((same_new hn).trans (p1.same.trans sm)) xr) fun x cls dd H' e sm xr => e cls dd H' ((same_new hn).trans sm) xr
    exact ⟨x, y, vx, vy, rfl, hk, p1.same.trans p2.same, p1.rep.mono (Sm.hide p2.same), p2.rep, q⟩
  · subst ep
    cases rel with
    | @cons _ q0 _ _ h1 t =>
      cases t
      obtain ⟨uk, uv⟩ := q0
      obtain ⟨b', eb, hkey⟩ := key_is I2 (rx.mono hide_le) hk
      obtain ⟨h1a, h1b⟩ := h1
      simp only at h1a h1b
      subst eb
      obtain rfl : uk = Value.ref b' := h1a
      have e2 := sm.at_ (b := s.heap.objs.size) upd_same trivial
      obtain ⟨us, g1, g2, g3, g4, g5⟩ := dic_of (S := []) (ks := []) (vs := []) I2 e2 rfl rfl Reps.nil
      cases g1
      refine ⟨[(toN x, b', uv)], ⟨rfl, rfl, hkey, trivial⟩, g5, fun h' tk hd hs => wpAny_pure ?_⟩
      have hd' : h'.DictOfH (nestedKind X.prog X.w) s.heap.objs.size (trip [(toN x, b')] [uv]) := hd
      obtain ⟨o', es', ep', ho', _⟩ := id hd'
      have ob : ∀ H', ObjOk X.prog X.w H' h' s.heap.objs.size (DicO s.heap.objs.size [(toN x, b')] [vy]) := fun H' => dic_to (ks := [x]) (us := [uv]) rfl (by simp [keysB, isKey_B hk]) (.cons h1b .nil) rfl (by rw [sizeLine_eq]; simp) g4 hd'
      have I3 := I2.write (t' := tk) (x := s.heap.objs.size) (e := s.heap.objs.size) (h' := h') (by rw [e2]; trivial) (.inl rfl) (fun b2 o2 hb2 e3 => (hs.2 b2 hb2).trans e3) ⟨_, ho'⟩ (ob _)
      refine ⟨.ref s.heap.objs.size, _, I3, rfl, q _ _ (post_dict hS hn ((same_new hn).trans sm) e2 trivial (fun q => dico_code) ⟨[(toN x, b')], [vy], rfl, rfl, by simp [keysB, isKey_B hk], .one rx, .one ry⟩)⟩
end
/-- the context of a lambda's body -/
theorem Gd.lam {X : Cx} {N : List Str} {sc scope : Scope} {cm : Bool} {W : WX} {k j : Nat} (G : Gd X N sc cm W k) {A : Around} {outer : List Env} {s : Shared} {H : Hp} {E : XK} {f c' : Addr} (hr : Room j (A.deeper (LamX.lamEnv X scope s.heap.objs.size f c'))) :
    Gd (LamX.lamCx X A outer s H E scope f c') N scope cm W0 j :=
  ⟨G.nn, G.nd, rfl, takes0, fun _ => ⟨rfl, hr⟩, by have := hr.un; show (A.deeper (LamX.lamEnv X scope s.heap.objs.size f c')).units + 66 < cLine; omega, G.fr⟩
end Dl

namespace Dl
open PySem PySem.Spec PyProof.Rows L2
variable [Tbs]
/-- a test's reading, from any predicate over environments -/
def tTW (K : PySem.W.Frag) (mg : Str → Option Value) (W : WX) (hid : List Nat) (F : DEnv → (D → Prop) → (Xn → Prop) → Prop) : TT := fun σ H Q =>
  ∃ S ρ, SOk H S ∧ EV K S hid H σ ρ ∧ F ρ (fun d => ∃ k, truD d = some k ∧ ∀ H', Sm H H' → Q k H') (fun x => ∀ cls dd H', Sm H H' → XRep K mg x cls dd → W cls dd σ H')
abbrev FC (X : Cx) (k : Nat) := FnC X.prog X.w X.K X.mg X.base k
abbrev GC (X : Cx) := GlC X.K X.mg
abbrev LmOf (X : Cx) (k : Nat) : Lm := ⟨LamC X ∧ 1 ≤ k, FC X (k - 1)⟩
mutual
theorem soundE : ∀ (ce : CE) {N : List Str} {sc : Scope} {cm : Bool} {hid : List Nat} {e : Expr} {X : Cx} {W : WX} {k : Nat}, okI N sc cm hid ce e = true → Gd X N sc cm W k → ce.needs (FC X k) (GC X) (LmOf X k) → Snd ce N sc cm hid e X W
  | .var i, N, sc, cm, hid, e, X, W, k, h, G, nd => by
    simp only [okI] at h; unfold okE at h
    split at h
    · rename_i x p
      obtain ⟨h, c5⟩ := and2 h
      obtain ⟨h, c4⟩ := and2 h
      obtain ⟨h, c3⟩ := and2 h
      obtain ⟨c1, c2⟩ := and2 h
      refine Snd.of1 (PE.imp (pe_var (i := i) (x := x) (by rw [G.nn]; exact of_decide_eq_true c1) (by unfold Vis; rw [G.sc]; exact lookV c2) (by simpa using c4) (by simpa using c5)) fun σ H Q ⟨S, ρ, hS, hE, w⟩ => ?_) rfl
      unfold wpE at w
      obtain ⟨d, e1, q⟩ := w
      obtain ⟨v, e2, r⟩ := hE.rep i d e1 (by simpa using c3)
      exact ⟨v, e2, q v H (post_old r fun z => by cases z)⟩
    · cases h
  | .int i, N, sc, cm, hid, e, X, W, k, h, G, nd => by
    simp only [okI] at h; unfold okE at h
    split at h
    · have e := of_decide_eq_true h
      subst e
      exact Snd.of1 (PE.imp pe_int fun σ H Q ⟨S, ρ, hS, hE, w⟩ => by unfold wpE at w; exact w _ _ post_int) rfl
    · cases h
  | .bl b, N, sc, cm, hid, e, X, W, k, h, G, nd => by
    simp only [okI] at h; unfold okE at h
    split at h
    · rename_i c _ _
      have e : b = c := by simpa using h
      subst e
      exact Snd.of1 (PE.imp pe_bl fun σ H Q ⟨S, ρ, hS, hE, w⟩ => by unfold wpE at w; exact w _ _ post_bl) rfl
    · cases h
  | .non, N, sc, cm, hid, e, X, W, k, h, G, nd => by
    simp only [okI] at h; unfold okE at h
    split at h
    · exact Snd.of1 (PE.imp pe_non fun σ H Q ⟨S, ρ, hS, hE, w⟩ => by unfold wpE at w; exact w _ _ post_non) rfl
    · cases h
  | .str x, N, sc, cm, hid, e, X, W, k, h, G, nd => by
    simp only [okI] at h; unfold okE at h
    split at h
    · have e := of_decide_eq_true h
      subst e
      exact Snd.of1 (PE.imp pe_str fun σ H Q ⟨S, ρ, hS, hE, w⟩ => by unfold wpE at w; exact w _ _ post_str) rfl
    · cases h
  | .glob x d, N, sc, cm, hid, e, X, W, k, h, G, nd => by
    simp only [okI] at h; unfold okE at h
    split at h
    · obtain ⟨c1, c2⟩ := and2 h
      have e := of_decide_eq_true c1
      subst e
      unfold CE.needs at nd
      obtain ⟨u, v, hm, r, hr⟩ := nd
      refine Snd.of1 (PE.imp (pe_glob (gl_of G c2) hm r (gloB_ok c2).2.1) fun σ H Q ⟨S, ρ, hS, hE, w⟩ => ?_) rfl
      unfold wpE at w
      exact w _ _ (post_old (hr _) fun z => by cases z)
    · cases h
  | .bin o a b, N, sc, cm, hid, e, X, W, k, h, G, nd => by
    simp only [okI] at h; unfold okE at h
    split at h
    · obtain ⟨c1, h⟩ := and2 h
      obtain ⟨c2, c3⟩ := and2 h
      have e := of_decide_eq_true c1
      subst e
      unfold CE.needs at nd
      have ha := ((soundE a (okI_of c2) G nd.1).1 c2).1
      have hb := ((soundE b (okI_of c3) G nd.2).1 c3).1
      refine Snd.of1 (PE.imp (pe_op (op_binD o) ha hb) fun σ H Q ⟨S, ρ, hS, hE, w⟩ => ?_) rfl
      unfold wpE at w
      exact bin_in (fun _ _ _ _ => binD_mono) hS hE w
    · cases h
  | .cat a b, N, sc, cm, hid, e, X, W, k, h, G, nd => by
    simp only [okI] at h; unfold okE at h
    split at h
    · obtain ⟨c1, h⟩ := and2 h
      obtain ⟨c2, c3⟩ := and2 h
      have e := of_decide_eq_true c1
      subst e
      unfold CE.needs at nd
      have ha := ((soundE a (okI_of c2) G nd.1).1 c2).1
      have hb := ((soundE b (okI_of c3) G nd.2).1 c3).1
      refine Snd.of1 (PE.imp (pe_op (op_binD .add) ha hb) fun σ H Q ⟨S, ρ, hS, hE, w⟩ => ?_) rfl
      unfold wpE at w
      exact bin_in (fun _ _ _ _ => binD_mono) hS hE (wpE_mono a w (fun x q => wpE_mono b q (fun y q => catD_bin q) fun _ q => q) fun _ q => q)
    · cases h
  | .neg a, N, sc, cm, hid, e, X, W, k, h, G, nd => by
    simp only [okI] at h; unfold okE at h
    split at h
    · unfold CE.needs at nd
      have ha := ((soundE a (okI_of h) G nd).1 h).1
      refine Snd.of1 (PE.imp (pe_un un_neg ha) fun σ H Q ⟨S, ρ, hS, hE, w⟩ => ?_) rfl
      unfold wpE at w
      refine tE_in hS hE w (fun d v H' ⟨i, e, q⟩ p => ?_) fun x cls dd H' e sm xr => e cls dd H' sm xr
      subst e
      cases rep_int p.rep
      exact ⟨i, rfl, q _ _ (Post.trans p.same post_int)⟩
    · cases h
  | .not a, N, sc, cm, hid, e, X, W, k, h, G, nd => by
    simp only [okI] at h; unfold okE at h
    split at h
    · unfold CE.needs at nd
      obtain ⟨ha, ta⟩ := (soundE a (okI_of h) G nd).1 h
      refine Snd.of (PE.imp (pe_notT ha) fun σ H Q ⟨S, ρ, hS, hE, w⟩ => ?_) (PT.imp (pt_not ta) fun σ H Q ⟨S, ρ, hS, hE, w⟩ => ?_)
      · unfold wpE at w
        refine tE_in hS hE w (fun d v H' ⟨i, e, q⟩ p => ?_) fun x cls dd H' e sm xr => e cls dd H' sm xr
        exact ⟨i, TruV.hide (tru_of p.rep e), q _ _ (Post.trans p.same post_bl)⟩
      · unfold wpT wpE at w
        refine tT_in (Qd := fun b => ∀ H', Sm H H' → Q (!b) H') hS hE (wpE_mono a w (fun d ⟨b, e, k', e', q⟩ => ⟨b, e, ?_⟩) fun _ q => q) (fun b H' q sm => q H' sm) fun x cls dd H' e sm xr => e cls dd H' sm xr
        cases e'
        exact q
    · cases h
  | .cmp o a b, N, sc, cm, hid, e, X, W, k, h, G, nd => by
    simp only [okI] at h; unfold okE at h
    split at h
    · obtain ⟨c1, h⟩ := and2 h
      obtain ⟨c2, c3⟩ := and2 h
      have e := of_decide_eq_true c1
      subst e
      unfold CE.needs at nd
      have ha := ((soundE a (okI_of c2) G nd.1).1 c2).1
      have hb := ((soundE b (okI_of c3) G nd.2).1 c3).1
      refine Snd.of (PE.imp (pe_cmpR (op_cmpD o G.hu) ha hb (mark_of (okE_noset c3))) fun σ H Q ⟨S, ρ, hS, hE, w⟩ => ?_) (pt_cmpD (F := cmpD o) (fun _ _ _ _ => cmpD_mono) (op_cmpD o G.hu) ha hb (mark_of (okE_noset c3)) (cmpD_bl o) fun ρ Q E => by rw [wpE])
      unfold wpE at w
      exact bin_in (fun _ _ _ _ => cmpD_mono) hS hE w
    · cases h
  | .chain o o' a b c, N, sc, cm, hid, e, X, W, k, h, G, nd => by
    simp only [okI] at h; unfold okE at h
    split at h
    · rename_i l op op' r r' pos
      obtain ⟨h, h2⟩ := and2 h
      obtain ⟨c1, c1'⟩ := and2 h
      obtain ⟨c2, h2⟩ := and2 h2
      obtain ⟨c3, c4⟩ := and2 h2
      have e := of_decide_eq_true c1
      have e' := of_decide_eq_true c1'
      subst e e'
      unfold CE.needs at nd
      have ha := ((soundE a (okI_of c2) G nd.1).1 c2).1
      have hb := ((soundE b (okI_of c3) G nd.2.1).1 c3).1
      have hc := ((soundE c (okI_of c4) G nd.2.2).1 c4).1
      have hm : lastMarks [coOp o, coOp o'] [r, r'] = false := mark_of (okE_noset c4)
      have main : ∀ {σ H} {Q : VK}, tE X.K X.mg W hid (.chain o o' a b c) σ H Q → tChain (rD X.K (cmpD o) true) (rD X.K (cmpD o') true) (tE X.K X.mg W hid a) (tE X.K X.mg W hid b) (tE X.K X.mg W hid c) σ H Q := by
        rintro σ H Q ⟨S, ρ, hS, hE, w⟩
        unfold wpE at w
        refine tE_in hS hE w (fun x v1 H1 q p1 => tE_in (hS.mono p1.same) (hE.mono p1.same) q (fun y v2 H2 q2 p2 => ⟨S, x, y, (hS.mono p1.same).mono p2.same, p1.rep.mono (Sm.hide p2.same), p2.rep, cmpD_mono q2 fun d ⟨kk, e, q3⟩ v H3 p3 => ?_⟩) fun x cls dd H' e sm xr => e cls dd H' (p1.same.trans sm) xr) fun x cls dd H' e sm xr => e cls dd H' sm xr
        subst e
        cases rep_bl p3.rep
        refine ⟨kk, rfl, ?_⟩
        have sm3 := (p1.same.trans p2.same).trans p3.same
        split
        · rename_i hk
          rw [if_pos hk] at q3
          exact tE_in (hS.mono sm3) (hE.mono sm3) q3 (fun z v4 H4 q4 p4 => ⟨S, y, z, (hS.mono sm3).mono p4.same, (p2.rep.mono (Sm.hide p3.same)).mono (Sm.hide p4.same), p4.rep, cmpD_mono q4 fun d q5 v H5 p5 => q5 v H5 (p5.trans (sm3.trans p4.same))⟩) fun x cls dd H' e sm xr => e cls dd H' (sm3.trans sm) xr
        · rename_i hk
          rw [if_neg hk] at q3
          exact q3 _ _ (Post.trans sm3 post_bl)
      refine Snd.of (PE.imp (pe_chain (op_cmpD o G.hu) (op_cmpD o' G.hu) ha hb hc hm) fun σ H Q w => main w) (PT.imp (pt_chain (op_cmpD o G.hu) (op_cmpD o' G.hu) ha hb hc hm) fun σ H Q ⟨S, ρ, hS, hE, w⟩ => ?_)
      refine main ⟨S, ρ, hS, hE, ?_⟩
      unfold wpT at w
      -- the value is a bool
      have hb2 : ∀ Qd E, wpE (.chain o o' a b c) ρ Qd E → wpE (.chain o o' a b c) ρ (fun d => Qd d ∧ ∃ kk, d = .bl kk) E := by
        intro Qd E q
        unfold wpE at q ⊢
        refine wpE_mono a q (fun x q => wpE_mono b q (fun y q => cmpD_mono q fun d ⟨kk, e, q⟩ => ⟨kk, e, ?_⟩) fun _ q => q) fun _ q => q
        split
        · rename_i hk
          rw [if_pos hk] at q
          exact wpE_mono c q (fun z q => cmpD_bl o' _ _ _ q) fun _ q => q
        · rename_i hk
          rw [if_neg hk] at q
          exact ⟨q, _, rfl⟩
      refine wpE_mono _ (hb2 _ _ w) ?_ fun _ q => q
      rintro d ⟨⟨kk, e, q⟩, k', rfl⟩ v H' p
      cases e
      cases rep_bl p.rep
      exact ⟨_, rfl, q H' p.same⟩
    · cases h
  | .isN ng a, N, sc, cm, hid, e, X, W, k, h, G, nd => by
    simp only [okI] at h; unfold okE at h
    split at h
    · obtain ⟨c1, c2⟩ := and2 h
      have e := of_decide_eq_true c1
      subst e
      unfold CE.needs at nd
      have ha := ((soundE a (okI_of c2) G nd).1 c2).1
      refine Snd.of (PE.imp (pe_cmp (op_is_of ha) (by rfl)) fun σ H Q ⟨S, ρ, hS, hE, w⟩ => ?_) (PT.imp (pt_cmp (op_is_of ha) (by rfl)) fun σ H Q ⟨S, ρ, hS, hE, w⟩ => ?_)
      · unfold wpE at w
        refine tE_in hS hE w (fun d v H' q p => ?_) fun x cls dd H' e sm xr => e cls dd H' sm xr
        show Q (.bl (ng != decide (v = .non))) H'
        rw [isN_rep p.rep]
        exact q _ _ (Post.trans p.same post_bl)
      · unfold wpT wpE at w
        refine tE_in hS hE w (fun d v H' q p => ?_) fun x cls dd H' e sm xr => e cls dd H' sm xr
        refine ⟨_, rfl, ?_⟩
        rw [isN_rep p.rep]
        obtain ⟨kk, e, q⟩ := q
        cases e
        exact q H' p.same
    · cases h
  | .mem ng a b, N, sc, cm, hid, e, X, W, k, h, G, nd => by
    simp only [okI] at h; unfold okE at h
    split at h
    · obtain ⟨c1, h⟩ := and2 h
      obtain ⟨c2, c3⟩ := and2 h
      have e := of_decide_eq_true c1
      subst e
      unfold CE.needs at nd
      have ha := ((soundE a (okI_of c2) G nd.1).1 c2).1
      have hb := ((soundE b (okI_of c3) G nd.2).1 c3).1
      refine Snd.of (PE.imp (pe_cmpR (memOp ng G.hu) ha hb (mark_of (okE_noset c3))) fun σ H Q ⟨S, ρ, hS, hE, w⟩ => ?_)
        (pt_cmpD (F := fun x y Q => memD x y fun r => Q (.bl (ng != r))) (fun _ _ _ _ q m => memD_mono q fun _ q => m _ q) (memOp ng G.hu) ha hb (mark_of (okE_noset c3)) (memD_bl ng) fun ρ Q E => by rw [wpE])
      unfold wpE at w
      exact bin_in (F := fun x y Q => memD x y fun r => Q (.bl (ng != r))) (fun _ _ _ _ q m => memD_mono q fun _ q => m _ q) hS hE w
    · cases h
  | .and es, N, sc, cm, hid, e, X, W, k, h, G, nd => by
    simp only [okI] at h; unfold okE at h
    split at h
    · obtain ⟨c1, c2⟩ := and2 h
      unfold CE.needs at nd
      obtain ⟨pe, pw⟩ := soundAnd es c2 (by simpa using c1) G nd
      refine Snd.of (PE.imp (pe _) fun σ H Q ⟨S, ρ, hS, hE, w⟩ => ⟨S, ρ, hS, hE, by unfold wpE at w; exact w⟩) (PT.imp (PW.pt (pw _)) fun σ H Q ⟨S, ρ, hS, hE, w⟩ => ⟨S, ρ, hS, hE, by unfold wpT wpE at w; exact w⟩)
    · cases h
  | .or es, N, sc, cm, hid, e, X, W, k, h, G, nd => by
    simp only [okI] at h; unfold okE at h
    split at h
    · obtain ⟨c1, c2⟩ := and2 h
      unfold CE.needs at nd
      obtain ⟨pe, pw⟩ := soundOr es c2 (by simpa using c1) G nd
      refine Snd.of (PE.imp (pe _) fun σ H Q ⟨S, ρ, hS, hE, w⟩ => ⟨S, ρ, hS, hE, by unfold wpE at w; exact w⟩) (PT.imp (PW.pt (pw _)) fun σ H Q ⟨S, ρ, hS, hE, w⟩ => ⟨S, ρ, hS, hE, by unfold wpT wpE at w; exact w⟩)
    · cases h
  | .ife c a b, N, sc, cm, hid, e, X, W, k, h, G, nd => by
    simp only [okI] at h; unfold okE at h
    split at h
    · obtain ⟨c1, h⟩ := and2 h
      obtain ⟨c2, c3⟩ := and2 h
      unfold CE.needs at nd
      obtain ⟨hc, tc⟩ := (soundE c (okI_of c1) G nd.1).1 c1
      obtain ⟨ha, ta⟩ := (soundE a (okI_of c2) G nd.2.1).1 c2
      obtain ⟨hb, tb⟩ := (soundE b (okI_of c3) G nd.2.2).1 c3
      refine Snd.of (PE.imp (pe_ifExp tc ha hb) fun σ H Q ⟨S, ρ, hS, hE, w⟩ => ?_) (PT.imp (pt_ifExp tc ta tb) fun σ H Q ⟨S, ρ, hS, hE, w⟩ => ?_)
      · unfold wpE at w
        refine tT_in hS hE (Qd := fun kk => if kk = true then wpE a ρ _ _ else wpE b ρ _ _) w (fun kk H' q sm => ?_) fun x cls dd H' e sm xr => e cls dd H' sm xr
        split
        · rename_i hk
          rw [if_pos hk] at q
          exact tE_in (hS.mono sm) (hE.mono sm) q (fun d v H2 q p => q v H2 (⟨sm.trans p.same, p.rep, fun e => (Post.trans sm p).top (by
            have e2 : a.fresh = true ∧ b.fresh = true := and2 e
            exact e2.1)⟩)) fun x cls dd H' e sm' xr => e cls dd H' (sm.trans sm') xr
        · rename_i hk
          rw [if_neg hk] at q
          exact tE_in (hS.mono sm) (hE.mono sm) q (fun d v H2 q p => q v H2 (⟨sm.trans p.same, p.rep, fun e => (Post.trans sm p).top (by
            have e2 : a.fresh = true ∧ b.fresh = true := and2 e
            exact e2.2)⟩)) fun x cls dd H' e sm' xr => e cls dd H' (sm.trans sm') xr
      · unfold wpT wpE at w
        refine tT_in hS hE (Qd := fun kk => if kk = true then wpE a ρ _ _ else wpE b ρ _ _) w (fun kk H' q sm => ?_) fun x cls dd H' e sm xr => e cls dd H' sm xr
        split
        · rename_i hk
          rw [if_pos hk] at q
          exact tT_in (hS.mono sm) (hE.mono sm) q (fun kk H2 q sm2 => q H2 (sm.trans sm2)) fun x cls dd H' e sm' xr => e cls dd H' (sm.trans sm') xr
        · rename_i hk
          rw [if_neg hk] at q
          exact tT_in (hS.mono sm) (hE.mono sm) q (fun kk H2 q sm2 => q H2 (sm.trans sm2)) fun x cls dd H' e sm' xr => e cls dd H' (sm.trans sm') xr
    · cases h
  | .tup es, N, sc, cm, hid, e, X, W, k, h, G, nd => by
    simp only [okI] at h; unfold okE at h
    split at h
    · unfold CE.needs at nd
      have ha := soundEs es h G nd
      refine Snd.of1 (PE.imp (pe_tup ha) fun σ H Q ⟨S, ρ, hS, hE, w⟩ => ?_) rfl
      unfold wpE at w
      refine tL_in hS hE w (fun ds vs H' ⟨z, q⟩ sm r => ⟨by rw [← szl_eq, ← r.length]; exact z, fun p hp => ?_⟩) fun x cls dd H' e sm xr => e cls dd H' sm xr
      exact q _ _ (Post.trans sm (post_tup (hS.mono sm) r hp))
    · cases h
  | .lst es, N, sc, cm, hid, e, X, W, k, h, G, nd => by
    simp only [okI] at h; unfold okE at h
    split at h
    · unfold CE.needs at nd
      have ha := soundEs es h G nd
      refine Snd.of1 (PE.imp (pe_lst ha) fun σ H Q ⟨S, ρ, hS, hE, w⟩ => ?_) rfl
      unfold wpE at w
      refine tL_in hS hE w (fun ds vs H' ⟨z, q⟩ sm r => ⟨by rw [← szl_eq, ← r.length]; exact z, fun p hp => ?_⟩) fun x cls dd H' e sm xr => e cls dd H' sm xr
      exact q _ _ (Post.trans sm (post_lst (hS.mono sm) r hp))
    · cases h
  | .ix a i, N, sc, cm, hid, e, X, W, k, h, G, nd => by
    simp only [okI] at h; unfold okE at h
    split at h
    · obtain ⟨c2, c3⟩ := and2 h
      unfold CE.needs at nd
      have ha := ((soundE a (okI_of c2) G nd.1).1 c2).1
      have hb := ((soundE i (okI_of c3) G nd.2).1 c3).1
      refine Snd.of1 (PE.imp (pe_ix ix_D ha hb (subs_of (okE_pl c3))) fun σ H Q ⟨S, ρ, hS, hE, w⟩ => ?_) rfl
      unfold wpE at w
      exact bin_in (fun _ _ _ _ => ixD_mono) hS hE w
    · cases h
  | .sl a l u, N, sc, cm, hid, e, X, W, k, h, G, nd => by
    simp only [okI] at h; unfold okE at h
    split at h
    · rename_i x lo hi p2 p
      obtain ⟨h, c3⟩ := and2 h
      obtain ⟨c1, c2⟩ := and2 h
      unfold CE.needs at nd
      have ha := ((soundE a (okI_of c1) G nd.1).1 c1).1
      have hl : ∃ tl : TO, PO X lo tl ∧ ∀ {σ H} {Q : Option Int → Hp → Prop} {S ρ}, SOk H S → EV X.K S hid H σ ρ → wpE l ρ (fun y => ∃ o, partD l.isNop y = some o ∧ ∀ H', Sm H H' → Q o H') (fun x => ∀ cls dd H', Sm H H' → XRep X.K X.mg x cls dd → W cls dd σ H') → tl σ H Q := by
        cases lo with
        | none =>
          refine ⟨tNoPart, po_none, fun {σ H Q S ρ} hS hE w => ?_⟩
          cases l with
          | nop =>
            unfold wpE at w
            obtain ⟨o, e, q⟩ := w
            cases e
            exact q H (Sm.refl _)
          | _ => cases c2
        | some lo =>
          obtain ⟨n1, n2⟩ := and2 c2
          have hb := ((soundE l (okI_of n2) G nd.2.1).1 n2).1
          have n1' : l.isNop = false := by simpa using n1
          refine ⟨tPart (tE X.K X.mg W hid l), po_some hb, fun {σ H Q S ρ} hS hE w => ?_⟩
          refine tE_in hS hE w (fun d v H' ⟨o, e, q⟩ p => ?_) fun x cls dd H' e sm xr => e cls dd H' sm xr
          rw [n1'] at e
          cases d with
          | int j => cases e; cases rep_int p.rep; exact ⟨j, rfl, q H' p.same⟩
          | _ => cases e
      have hu : ∃ tl : TO, PO X hi tl ∧ ∀ {σ H} {Q : Option Int → Hp → Prop} {S ρ}, SOk H S → EV X.K S hid H σ ρ → wpE u ρ (fun y => ∃ o, partD u.isNop y = some o ∧ ∀ H', Sm H H' → Q o H') (fun x => ∀ cls dd H', Sm H H' → XRep X.K X.mg x cls dd → W cls dd σ H') → tl σ H Q := by
        cases hi with
        | none =>
          refine ⟨tNoPart, po_none, fun {σ H Q S ρ} hS hE w => ?_⟩
          cases u with
          | nop =>
            unfold wpE at w
            obtain ⟨o, e, q⟩ := w
            cases e
            exact q H (Sm.refl _)
          | _ => cases c3
        | some hi =>
          obtain ⟨n1, n2⟩ := and2 c3
          have hb := ((soundE u (okI_of n2) G nd.2.2).1 n2).1
          have n1' : u.isNop = false := by simpa using n1
          refine ⟨tPart (tE X.K X.mg W hid u), po_some hb, fun {σ H Q S ρ} hS hE w => ?_⟩
          refine tE_in hS hE w (fun d v H' ⟨o, e, q⟩ p => ?_) fun x cls dd H' e sm xr => e cls dd H' sm xr
          rw [n1'] at e
          cases d with
          | int j => cases e; cases rep_int p.rep; exact ⟨j, rfl, q H' p.same⟩
          | _ => cases e
      obtain ⟨tl, pl, il⟩ := hl
      obtain ⟨tu, pu, iu⟩ := hu
      refine Snd.of1 (PE.imp (pe_slice sl_D ha pl pu) fun σ H Q ⟨S, ρ, hS, hE, w⟩ => ?_) rfl
      unfold wpE at w
      refine tE_in hS hE w (fun d v H1 q p1 => il (hS.mono p1.same) (hE.mono p1.same) (wpE_mono l q (fun y ⟨o, e, q⟩ => ⟨o, e, fun H2 sm2 => iu ((hS.mono p1.same).mono sm2) ((hE.mono p1.same).mono sm2) (wpE_mono u q (fun z ⟨o', e', q⟩ => ⟨o', e', fun H3 sm3 => ?_⟩) fun x e cls dd H' sm xr => e cls dd H' ((p1.same.trans sm2).trans sm) xr)⟩)
        fun x e cls dd H' sm xr => e cls dd H' (p1.same.trans sm) xr)) fun x cls dd H' e sm xr => e cls dd H' sm xr
      exact ⟨S, d, ((hS.mono p1.same).mono sm2).mono sm3, (p1.rep.mono (Sm.hide sm2)).mono (Sm.hide sm3), slD_mono q fun d q v H' p => q v H' (p.trans ((p1.same.trans sm2).trans sm3))⟩
    · cases h
  | .nop, N, sc, cm, hid, e, X, W, k, h, G, nd => by
    simp only [okI] at h; unfold okE at h
    cases h
  | .call f sp es, N, sc, cm, hid, e, X, W, k, h, G, nd => by
    simp only [okI] at h; unfold okE at h
    split at h
    · rename_i x p vs pos
      obtain ⟨h, c5⟩ := and2 h
      obtain ⟨h, c4⟩ := and2 h
      obtain ⟨h, c3⟩ := and2 h
      obtain ⟨c1, c2⟩ := and2 h
      have e := of_decide_eq_true c2
      subst e
      unfold CE.needs at nd
      have ha := soundEs es c5 G nd.2
      cases vs with
      | nil =>
        cases es with
        | nil => exact Snd.of1 (call0_D G c1 c3 nd.1) rfl
        | cons _ _ => unfold okEs at c5; cases c5
      | cons v vs => exact Snd.of1 (call_D G c1 c3 c5 ha nd.1) rfl
    · cases h
  | .blt f es, N, sc, cm, hid, e, X, W, k, h, G, nd => by
    simp only [okI] at h; unfold okE at h
    split at h
    · rename_i x p vs pos
      obtain ⟨h, c5⟩ := and2 h
      obtain ⟨h, c4⟩ := and2 h
      obtain ⟨h, c3⟩ := and2 h
      obtain ⟨c1, c2⟩ := and2 h
      have e := of_decide_eq_true c2
      subst e
      unfold CE.needs at nd
      have ha := soundEs es c5 G nd
      cases vs with
      | nil => cases c4
      | cons v vs => exact Snd.of1 (bf_D G c1 c3 c5 ha) rfl
    · cases h
  | .isi a t, N, sc, cm, hid, e, X, W, k, h, G, nd => by
    simp only [okI] at h; unfold okE at h
    split at h
    · obtain ⟨h, c6⟩ := and2 h
      obtain ⟨h, c5⟩ := and2 h
      obtain ⟨h, c4⟩ := and2 h
      obtain ⟨h, c3⟩ := and2 h
      obtain ⟨c1, c2⟩ := and2 h
      have e1 := of_decide_eq_true c1
      have e2 := of_decide_eq_true c3
      subst e1 e2
      unfold CE.needs at nd
      have ha := ((soundE a (okI_of c5) G nd).1 c5).1
      refine Snd.of1 (isi_of G c2 c4 (okE_pl c5) ?_ ha) rfl
      cases t <;> first | exact ⟨_, rfl⟩ | cases c6
    · cases h
  | .lc t it ifs elt, N, sc, cm, hid, e, X, W, k, h, G, nd => by
    simp only [okI] at h; unfold okE at h
    split at h
    · rename_i el tg iter fs scope pos
      obtain ⟨h, c8⟩ := and2 h
      obtain ⟨h, c7⟩ := and2 h
      obtain ⟨h, c6⟩ := and2 h
      obtain ⟨h, c5⟩ := and2 h
      obtain ⟨h, c4⟩ := and2 h
      obtain ⟨h, c3⟩ := and2 h
      obtain ⟨c1, c2⟩ := and2 h
      unfold CE.needs at nd
      obtain ⟨hc, hr⟩ := G.cm c1
      have hi := (soundE it c2 G nd.1).2 tg
      have hsl := okT_slots t tg c5
      have eo : (ownOf N t).map (·.2) = t.slots := own_snd hsl
      have hss : ∀ x, foldedSetIterable iter X.env x = pure x := by
        intro x
        cases iter <;> first | rfl | (cases it <;> simp [okI, okE] at c2)
      have key := pe_lc (pos := pos) (elt := el) (te := tE X.K X.mg W0 hid elt) (g := gD X.K t) (tt := tIs X.K X.mg W0 hid ifs) hc (by rw [G.nn]; exact G.nd) hi (own := ownOf N t) (blkOk_by (by rw [G.nn, G.sc]; exact c3))
        (fun s H C cl fp => pg_D (G.blk s H scope C cl fp).nn G.nd (G.blk s H scope C cl fp).sc hc (fun x _ h2 => fn_blk G.sc s H scope C cl fp x h2) t tg c5)
        (fun s H C cl fp => pts_in (ifs := ifs) (fs := fs) (mg := X.mg) (W := W0) (hid := hid) (by
          cases ifs with
          | nil =>
            unfold okEs at c7
            rw [List.isEmpty_iff] at c7
            exact .inl ⟨rfl, c7⟩
          | cons c cs =>
            cases fs with
            | nil => unfold okEs at c7; cases c7
            | cons f fs =>
              unfold okEs at c7
              obtain ⟨k1, k2⟩ := and2 c7
              have z := of_decide_eq_true c6
              have e1 : fs = [] := by
                cases fs with
                | nil => rfl
                | cons _ _ => simp at z
              subst e1
              have e2 : cs = [] := by
                have := okEs_len k2
                simpa using this
              subst e2
              have nd2 := nd.2.1
              unfold CE.needsL at nd2
              exact .inr ⟨c, f, rfl, rfl, ((soundE c (okI_of k1) (G.blk s H scope C cl fp) nd2.1).1 k1).2⟩))
        (fun s H C cl fp => ((soundE elt (okI_of c8) (G.blk s H scope C cl fp) nd.2.2).1 c8).1) hss
      rw [eo] at key
      exact Snd.of1 (PE.imp key fun σ H Q w => lc_in w) rfl
    · cases h
  | .lc2 t it t2 it2 ifs elt, N, sc, cm, hid, e, X, W, k, h, G, nd => by
    simp only [okI] at h; unfold okE at h
    split at h
    · rename_i el tg iter tg2 iter2 fs scope pos
      obtain ⟨h, c10⟩ := and2 h
      obtain ⟨h, c9⟩ := and2 h
      obtain ⟨h, c8⟩ := and2 h
      obtain ⟨h, c7⟩ := and2 h
      obtain ⟨h, c6⟩ := and2 h
      obtain ⟨h, c5⟩ := and2 h
      obtain ⟨h, c4⟩ := and2 h
      obtain ⟨h, c3⟩ := and2 h
      obtain ⟨c1, c2⟩ := and2 h
      unfold CE.needs at nd
      obtain ⟨hc, hr⟩ := G.cm c1
      have hi := (soundE it c2 G nd.1).2 tg
      have hsl := okT_slots t tg c5
      have hsl2 := okT_slots t2 tg2 c6
      have eo : (ownOf N t ++ ownOf N t2).map (·.2) = t.slots ++ t2.slots := by
        rw [List.map_append]
        exact congr (congrArg _ (own_snd hsl)) (own_snd hsl2)
      have hss : ∀ x, foldedSetIterable iter X.env x = pure x := by
        intro x
        cases iter <;> first | rfl | (cases it <;> simp [okI, okE] at c2)
      have hss2 : ∀ env x, foldedSetIterable iter2 env x = pure x := by
        intro env x
        cases iter2 <;> first | rfl | (cases it2 <;> simp [okI, okE] at c7)
      have key := pe_lc2 (pos := pos) (elt := el) (te := tE X.K X.mg W0 hid elt) (g := gD X.K t) (tt := tYes) (g1 := gD X.K t2) (tt1 := tIs X.K X.mg W0 hid ifs) (wi1 := iW X.K X.mg W0 hid (wpE it2)) (vs1 := t2.slots) hc (by rw [G.nn]; exact G.nd) hi (own := ownOf N t ++ ownOf N t2) (blkOk_by (by rw [G.nn, G.sc]; exact c3))
        (by rw [eo]; exact fun i hi => List.mem_append_right _ hi)
        (fun s H C cl fp => pg_D (G.blk s H scope C cl fp).nn G.nd (G.blk s H scope C cl fp).sc hc (fun x _ h2 => fn_blk G.sc s H scope C cl fp x h2) t tg c5)
        (fun s H C cl fp => pts_nil)
        (fun s H C cl fp => (soundE it2 c7 (G.blk s H scope C cl fp) nd.2.1).2 tg2)
        (fun s H C cl fp => pg_D (G.blk s H scope C cl fp).nn G.nd (G.blk s H scope C cl fp).sc hc (fun x _ h2 => fn_blk G.sc s H scope C cl fp x h2) t2 tg2 c6)
        (fun s H C cl fp => pts_in (ifs := ifs) (fs := fs) (mg := X.mg) (W := W0) (hid := hid) (by
          cases ifs with
          | nil =>
            unfold okEs at c9
            rw [List.isEmpty_iff] at c9
            exact .inl ⟨rfl, c9⟩
          | cons c cs =>
            cases fs with
            | nil => unfold okEs at c9; cases c9
            | cons f fs =>
              unfold okEs at c9
              obtain ⟨k1, k2⟩ := and2 c9
              have z := of_decide_eq_true c8
              have e1 : fs = [] := by
                cases fs with
                | nil => rfl
                | cons _ _ => simp at z
              subst e1
              have e2 : cs = [] := by
                have := okEs_len k2
                simpa using this
              subst e2
              have nd2 := nd.2.2.1
              unfold CE.needsL at nd2
              exact .inr ⟨c, f, rfl, rfl, ((soundE c (okI_of k1) (G.blk s H scope C cl fp) nd2.1).1 k1).2⟩))
        (fun s H C cl fp => ((soundE elt (okI_of c10) (G.blk s H scope C cl fp) nd.2.2.2).1 c10).1) hss hss2
      rw [eo] at key
      exact Snd.of1 (PE.imp key fun σ H Q w => lc2_in w) rfl
    · cases h
  | .rng es, N, sc, cm, hid, e, X, W, k, h, G, nd => by
    unfold okI at h
    split at h
    · rename_i x p vs pos
      obtain ⟨h, c5⟩ := and2 h
      obtain ⟨h, c4⟩ := and2 h
      obtain ⟨h, c3⟩ := and2 h
      obtain ⟨c1, c2⟩ := and2 h
      have e := of_decide_eq_true c2
      subst e
      unfold CE.needs at nd
      have ha := soundEs es c5 G nd
      have hm := G.fr "range" (by decide +kernel)
      refine ⟨fun z => by simp [okE] at z, fun tg => ?_⟩
      match vs, c4, c5, ha with
      | [], c4, c5, ha => simp at c4
      | [a], _, c5, ha =>
        have s1 : plB a = true := by
          cases es with
          | nil => simp [okEs] at c5
          | cons c cs => unfold okEs at c5; exact okE_pl (and2 c5).1
        have ln := okEs_len c5
        refine ⟨fun pins s σ H R I w => (pi_range1 (gl_of G c3) hm ha (star_of s1 _ _)).run pins s σ H R I ?_⟩
        obtain ⟨S, ρ, hS, hE, w⟩ := w
        unfold wpE at w
        refine tL_in hS hE (wpEs_len w) (fun ds ws H' ⟨l1, q⟩ sm r => ?_) fun x cls dd H' e sm xr => e cls dd H' sm xr
        unfold rngD at q
        split at q
        · obtain ⟨v, rfl, hv⟩ := reps1 r
          cases rep_int hv
          obtain ⟨q1, q2, ds, e, q⟩ := q
          cases e
          exact ⟨_, rfl, q1, q2, q _ _ sm draws_rng⟩
        · simp at l1 ln
          omega
        · exact q.elim
      | [a, b], _, c5, ha =>
        have s1 : plB a = true ∧ plB b = true := by
          match es, c5 with
          | [], c5 => simp [okEs] at c5
          | [c], c5 => simp [okEs] at c5
          | c :: c' :: cs, c5 =>
            simp only [okEs] at c5
            obtain ⟨k1, k2⟩ := and2 c5
            exact ⟨okE_pl k1, okE_pl (and2 k2).1⟩
        have ln := okEs_len c5
        refine ⟨fun pins s σ H R I w => (pi_range2 (gl_of G c3) hm ha (by rw [star_of s1.1, star_of s1.2]; rfl) (star_of s1.2 _ _)).run pins s σ H R I ?_⟩
        obtain ⟨S, ρ, hS, hE, w⟩ := w
        unfold wpE at w
        refine tL_in hS hE (wpEs_len w) (fun ds ws H' ⟨l1, q⟩ sm r => ?_) fun x cls dd H' e sm xr => e cls dd H' sm xr
        unfold rngD at q
        split at q
        · simp at l1 ln
          omega
        · obtain ⟨v, v', rfl, hv, hv'⟩ := reps2 r
          cases rep_int hv
          cases rep_int hv'
          obtain ⟨q1, q2, q3, q4, ds, e, q⟩ := q
          cases e
          exact ⟨_, _, rfl, ⟨q1, q2, q3, q4⟩, q _ _ sm draws_rng⟩
        · exact q.elim
      | a :: b :: c :: vs, c4, c5, ha => simp at c4
    · cases h
  | .enm a, N, sc, cm, hid, e, X, W, k, h, G, nd => by
    simp only [okI] at h; unfold okE at h
    cases h
  | .zip a b, N, sc, cm, hid, e, X, W, k, h, G, nd => by
    simp only [okI] at h; unfold okE at h
    cases h
  | .dct1 a b, N, sc, cm, hid, e, X, W, k, h, G, nd => by
    simp only [okI] at h; unfold okE at h
    split at h
    · obtain ⟨c1, h⟩ := and2 h
      obtain ⟨c2, c3⟩ := and2 h
      unfold CE.needs at nd
      have ha := ((soundE a (okI_of c2) G nd.1).1 c2).1
      have hb := ((soundE b (okI_of c3) G nd.2).1 c3).1
      exact Snd.of1 (dct1_D G ha hb) rfl
    · cases h
  | .dct0, N, sc, cm, hid, e, X, W, k, h, G, nd => by
    simp only [okI] at h; unfold okE at h
    split at h
    · exact Snd.of1 dct0_D rfl
    · cases h
  | .sortk i it key, N, sc, cm, hid, e, X, W, k, h, G, nd => by
    simp only [okI] at h; unfold okE at h
    split at h
    · obtain ⟨h, c9⟩ := and2 h
      obtain ⟨h, c8⟩ := and2 h
      obtain ⟨h, c7⟩ := and2 h
      obtain ⟨h, c6⟩ := and2 h
      obtain ⟨h, c5⟩ := and2 h
      obtain ⟨h, c4⟩ := and2 h
      obtain ⟨h, c3⟩ := and2 h
      obtain ⟨c1, c2⟩ := and2 h
      obtain ⟨c9, c10⟩ := and2 c9
      have e1 := of_decide_eq_true c2
      have e2 := of_decide_eq_true c4
      have e3 := of_decide_eq_true c5
      subst e1 e2
      unfold CE.needs at nd
      obtain ⟨⟨lc, hk⟩, n1, n2⟩ := nd
      obtain ⟨j, rfl⟩ : ∃ j, k = j + 1 := ⟨k - 1, by omega⟩
      have ha := ((soundE it (okI_of c9) G n1).1 c9).1
      have hi : N[i]? = some (N.getD i "") := by
        rw [List.getElem?_eq_getElem e3, List.getD_eq_getElem?_getD, List.getElem?_eq_getElem e3]
        rfl
      exact Snd.of1 (sortk_D (x := N.getD i "") G c1 c3 (okE_pl c9) hi (by simpa using c6) c7 c8 lc ha fun A outer s H f c' hr => ((soundE key (okI_of c10) (G.lam hr) (CE.needs_nl key n2)).1 c10).1) rfl
    · cases h
theorem soundEs : ∀ (es : List CE) {N : List Str} {sc : Scope} {cm : Bool} {hid : List Nat} {vs : List Expr} {X : Cx} {W : WX} {k : Nat}, okEs N sc cm hid es vs = true → Gd X N sc cm W k → CE.needsL (FC X k) (GC X) (LmOf X k) es → PA X vs (tL X.K X.mg W hid es)
  | [], N, sc, cm, hid, vs, X, W, k, h, G, nd => by
    unfold okEs at h
    rw [List.isEmpty_iff] at h
    subst h
    exact PA.imp pa_nil fun σ H Q w => tL_nil w
  | c :: cs, N, sc, cm, hid, [], X, W, k, h, G, nd => by unfold okEs at h; cases h
  | c :: cs, N, sc, cm, hid, v :: vs, X, W, k, h, G, nd => by
    unfold okEs at h
    obtain ⟨k1, k2⟩ := and2 h
    unfold CE.needsL at nd
    have ha := ((soundE c (okI_of k1) G nd.1).1 k1).1
    have hb := soundEs cs k2 G nd.2
    exact PA.imp (pa_cons ha hb (star_of (okE_pl k1) _ _)) fun σ H Q w => tL_cons w
theorem soundAnd : ∀ (es : List CE) {N : List Str} {sc : Scope} {cm : Bool} {hid : List Nat} {vs : List Expr} {X : Cx} {W : WX} {k : Nat}, okEs N sc cm hid es vs = true → vs ≠ [] → Gd X N sc cm W k → CE.needsL (FC X k) (GC X) (LmOf X k) es →
    (∀ pos, PE X (.BoolOp .And vs pos) (tW X.K X.mg W hid (wpAnd es) false)) ∧ ∀ pos, PW X (.BoolOp .And vs pos) (tTW X.K X.mg W hid (wpAnd es))
  | [], N, sc, cm, hid, vs, X, W, k, h, ne, G, nd => by
    unfold okEs at h
    rw [List.isEmpty_iff] at h
    exact absurd h ne
  | c :: cs, N, sc, cm, hid, [], X, W, k, h, ne, G, nd => absurd rfl ne
  | [c], N, sc, cm, hid, v :: vs, X, W, k, h, ne, G, nd => by
    unfold okEs at h
    obtain ⟨k1, k2⟩ := and2 h
    unfold okEs at k2
    rw [List.isEmpty_iff] at k2
    subst k2
    unfold CE.needsL at nd
    obtain ⟨ha, ta⟩ := (soundE c (okI_of k1) G nd.1).1 k1
    refine ⟨fun pos => PE.imp (pe_one ha) fun σ H Q ⟨S, ρ, hS, hE, w⟩ => ?_, fun pos => PW.imp (pw_and1 ta) fun σ H Q ⟨S, ρ, hS, hE, w⟩ => ?_⟩
    · unfold wpAnd at w
      exact tE_in hS hE w (fun d v H' q p => q v H' ⟨p.same, p.rep, fun z => by cases z⟩) fun x cls dd H' e sm xr => e cls dd H' sm xr
    · unfold wpAnd at w
      exact ⟨S, ρ, hS, hE, w⟩
  | c :: c' :: cs, N, sc, cm, hid, [v], X, W, k, h, ne, G, nd => by
    simp only [okEs] at h
    cases (and2 h).2
  | c :: c' :: cs, N, sc, cm, hid, v :: v' :: vs, X, W, k, h, ne, G, nd => by
    have h' := h
    unfold okEs at h
    obtain ⟨k1, k2⟩ := and2 h
    unfold CE.needsL at nd
    obtain ⟨ha, ta⟩ := (soundE c (okI_of k1) G nd.1).1 k1
    obtain ⟨pe, pw⟩ := soundAnd (c' :: cs) k2 (List.cons_ne_nil _ _) G nd.2
    refine ⟨fun pos => PE.imp (pe_andT ha (pe pos)) fun σ H Q ⟨S, ρ, hS, hE, w⟩ => ?_, fun pos => PW.imp (pw_and ta (pw pos)) fun σ H Q ⟨S, ρ, hS, hE, w⟩ => ?_⟩
    · unfold wpAnd at w
      refine tE_in hS hE w (fun d v H' ⟨kk, e, q⟩ p => ⟨kk, TruV.hide (tru_of p.rep e), ?_⟩) fun x cls dd H' e sm xr => e cls dd H' sm xr
      split
      · rename_i hk
        rw [if_pos hk] at q
        exact ⟨S, ρ, hS.mono p.same, hE.mono p.same, wpAnd_mono _ q (fun d q v H2 p2 => q v H2 (p2.trans p.same)) fun x e cls dd H' sm xr => e cls dd H' (p.same.trans sm) xr⟩
      · rename_i hk
        rw [if_neg hk] at q
        exact q v H' ⟨p.same, p.rep, fun z => by cases z⟩
    · unfold wpAnd at w
      refine tT_in (Qd := fun kk => ∃ d, truD d = some kk ∧ (if kk = true then wpAnd (c' :: cs) ρ _ _ else _)) hS hE (wpE_mono c w (fun d ⟨kk, e, q⟩ => ⟨kk, e, d, e, q⟩) fun _ q => q) (fun kk H' ⟨d, e, q⟩ sm => ?_) fun x cls dd H' e sm xr => e cls dd H' sm xr
      split
      · rename_i hk
        rw [if_pos hk] at q
        exact ⟨S, ρ, hS.mono sm, hE.mono sm, wpAnd_mono _ q (fun d ⟨k2, e2, q⟩ => ⟨k2, e2, fun H2 sm2 => q H2 (sm.trans sm2)⟩) fun x e cls dd H' sm2 xr => e cls dd H' (sm.trans sm2) xr⟩
      · rename_i hk
        rw [if_neg hk] at q
        obtain ⟨k2, e2, q⟩ := q
        rw [e] at e2
        cases e2
        have ef : kk = false := by simpa using hk
        subst ef
        exact q H' sm
theorem soundOr : ∀ (es : List CE) {N : List Str} {sc : Scope} {cm : Bool} {hid : List Nat} {vs : List Expr} {X : Cx} {W : WX} {k : Nat}, okEs N sc cm hid es vs = true → vs ≠ [] → Gd X N sc cm W k → CE.needsL (FC X k) (GC X) (LmOf X k) es →
    (∀ pos, PE X (.BoolOp .Or vs pos) (tW X.K X.mg W hid (wpOr es) false)) ∧ ∀ pos, PW X (.BoolOp .Or vs pos) (tTW X.K X.mg W hid (wpOr es))
  | [], N, sc, cm, hid, vs, X, W, k, h, ne, G, nd => by
    unfold okEs at h
    rw [List.isEmpty_iff] at h
    exact absurd h ne
  | c :: cs, N, sc, cm, hid, [], X, W, k, h, ne, G, nd => absurd rfl ne
  | [c], N, sc, cm, hid, v :: vs, X, W, k, h, ne, G, nd => by
    unfold okEs at h
    obtain ⟨k1, k2⟩ := and2 h
    unfold okEs at k2
    rw [List.isEmpty_iff] at k2
    subst k2
    unfold CE.needsL at nd
    obtain ⟨ha, ta⟩ := (soundE c (okI_of k1) G nd.1).1 k1
    refine ⟨fun pos => PE.imp (pe_one ha) fun σ H Q ⟨S, ρ, hS, hE, w⟩ => ?_, fun pos => PW.imp (pw_or1 ta) fun σ H Q ⟨S, ρ, hS, hE, w⟩ => ?_⟩
    · unfold wpOr at w
      exact tE_in hS hE w (fun d v H' q p => q v H' ⟨p.same, p.rep, fun z => by cases z⟩) fun x cls dd H' e sm xr => e cls dd H' sm xr
    · unfold wpOr at w
      exact ⟨S, ρ, hS, hE, w⟩
  | c :: c' :: cs, N, sc, cm, hid, [v], X, W, k, h, ne, G, nd => by
    simp only [okEs] at h
    cases (and2 h).2
  | c :: c' :: cs, N, sc, cm, hid, v :: v' :: vs, X, W, k, h, ne, G, nd => by
    unfold okEs at h
    obtain ⟨k1, k2⟩ := and2 h
    unfold CE.needsL at nd
    obtain ⟨ha, ta⟩ := (soundE c (okI_of k1) G nd.1).1 k1
    obtain ⟨pe, pw⟩ := soundOr (c' :: cs) k2 (List.cons_ne_nil _ _) G nd.2
    refine ⟨fun pos => PE.imp (pe_orT ha (pe pos)) fun σ H Q ⟨S, ρ, hS, hE, w⟩ => ?_, fun pos => PW.imp (pw_or ta (pw pos)) fun σ H Q ⟨S, ρ, hS, hE, w⟩ => ?_⟩
    · unfold wpOr at w
      refine tE_in hS hE w (fun d v H' ⟨kk, e, q⟩ p => ⟨kk, TruV.hide (tru_of p.rep e), ?_⟩) fun x cls dd H' e sm xr => e cls dd H' sm xr
      split
      · rename_i hk
        rw [if_pos hk] at q
        exact q v H' ⟨p.same, p.rep, fun z => by cases z⟩
      · rename_i hk
        rw [if_neg hk] at q
        exact ⟨S, ρ, hS.mono p.same, hE.mono p.same, wpOr_mono _ q (fun d q v H2 p2 => q v H2 (p2.trans p.same)) fun x e cls dd H' sm xr => e cls dd H' (p.same.trans sm) xr⟩
    · unfold wpOr at w
      refine tT_in (Qd := fun kk => ∃ d, truD d = some kk ∧ (if kk = true then _ else wpOr (c' :: cs) ρ _ _)) hS hE (wpE_mono c w (fun d ⟨kk, e, q⟩ => ⟨kk, e, d, e, q⟩) fun _ q => q) (fun kk H' ⟨d, e, q⟩ sm => ?_) fun x cls dd H' e sm xr => e cls dd H' sm xr
      split
      · rename_i hk
        rw [if_pos hk] at q
        obtain ⟨k2, e2, q⟩ := q
        rw [e] at e2
        cases e2
        subst hk
        exact q H' sm
      · rename_i hk
        rw [if_neg hk] at q
        exact ⟨S, ρ, hS.mono sm, hE.mono sm, wpOr_mono _ q (fun d ⟨k2, e2, q⟩ => ⟨k2, e2, fun H2 sm2 => q H2 (sm.trans sm2)⟩) fun x e cls dd H' sm2 xr => e cls dd H' (sm.trans sm2) xr⟩
end
end Dl

/-! DlOwn: the slots of a body that runs: what each holds, which own their lists. -/
namespace Dl
open PySem PySem.Spec PyProof.Rows L2
variable [Tbs]
abbrev Fl := List Nat
/-- the addresses that are owned (and what the caller hides) -/
abbrev adr (O : List (Nat × Addr)) (S0 : List Addr) : List Addr := O.map (·.2) ++ S0
/-- a container at its own place -/
def OwnRep (K : PySem.W.Frag) (H : Hp) (T : List Addr) (a : Addr) (d : D) (v : V) : Prop := v = .ref a ∧ ∃ o, H a = some o ∧ CRep K (hide H T) a d o
theorem OwnRep.mono {K : PySem.W.Frag} {H H' : Hp} {T T' : List Addr} {a : Addr} {d : D} {v : V} (h : OwnRep K H T a d v) (sm : Same (hide H T) (hide H' T')) (e : ∀ o, H a = some o → ntb o → H' a = some o) : OwnRep K H' T' a d v := by
  obtain ⟨h1, o, h2, h3⟩ := h
  exact ⟨h1, o, e o h2 h3.ntb, h3.mono sm⟩
structure Own (He : Hp) (H : Hp) (fl : Fl) (O : List (Nat × Addr)) : Prop where
  sl : ∀ p ∈ O, p.1 ∈ fl
  new : ∀ p ∈ O, He p.2 = none
  mu : ∀ p ∈ O, Mut (H p.2)
  inj : ∀ p ∈ O, ∀ q ∈ O, p.2 = q.2 → p = q
structure ERO (K : PySem.W.Frag) (He : Hp) (S0 : List Addr) (Vw : Hp) (fl : Fl) (O : List (Nat × Addr)) (σ : L2.St) (H : Hp) (ρ : DEnv) : Prop where
  len : σ.length = ρ.length
  same : Sm He H
  s0 : SOk He S0
  own : Own He H fl O
  vis : Same Vw (hide H (adr O S0))
  rep : ∀ (i : Nat) (d : D), ρ[i]? = some (some d) → ∃ v, σ[i]? = some (some v) ∧ (((i ∉ fl ∨ d.cont = false) ∧ Rep K (hide H (adr O S0)) d v) ∨ (i ∈ fl ∧ ∃ a, (i, a) ∈ O ∧ OwnRep K H (adr O S0) a d v))
def ER (K : PySem.W.Frag) (He : Hp) (S0 : List Addr) (Vw : Hp) (fl : Fl) (σ : L2.St) (H : Hp) (ρ : DEnv) : Prop := ∃ O, ERO K He S0 Vw fl O σ H ρ
section
variable {K : PySem.W.Frag} {He : Hp} {S0 : List Addr} {Vw : Hp} {fl : Fl} {O : List (Nat × Addr)} {σ : L2.St} {H : Hp} {ρ : DEnv}
theorem ERO.sok (h : ERO K He S0 Vw fl O σ H ρ) {O' : List (Nat × Addr)} (hO : ∀ p ∈ O', p ∈ O) : SOk H (adr O' S0) := ⟨fun a ha => by
  rcases List.mem_append.mp ha with ha | ha
  · obtain ⟨p, hp, rfl⟩ := List.mem_map.mp ha
    exact h.own.mu p (hO p hp)
  · exact (h.s0.mono h.same).mu a ha, (h.s0.mono h.same).tb⟩
theorem ERO.nots0 (h : ERO K He S0 Vw fl O σ H ρ) {p : Nat × Addr} (hp : p ∈ O) : p.2 ∉ S0 := fun z => by
  have q := h.s0.mu _ z
  rw [h.own.new p hp] at q
  exact q
theorem adr_sub {O O' : List (Nat × Addr)} (h : ∀ p ∈ O', p ∈ O) : ∀ a ∈ adr O' S0, a ∈ adr O S0 := fun a ha => by
  rcases List.mem_append.mp ha with ha | ha
  · obtain ⟨p, hp, rfl⟩ := List.mem_map.mp ha
    exact List.mem_append_left _ (List.mem_map.mpr ⟨p, h p hp, rfl⟩)
  · exact List.mem_append_right _ ha
/-- an owned container that is hidden no more -/
theorem OwnRep.show_ {a : Addr} {d : D} {v : V} {T : List Addr} (h : OwnRep K H T a d v) {T' : List Addr} (hT : ∀ b ∈ T', b ∈ T) (ha : a ∉ T') : Rep K (hide H T') d v := by
  obtain ⟨rfl, o, e, r⟩ := h
  exact (r.mono (hide_more hT)).rep (by rw [hide_out ha]; exact e)
/-- for an expression that reads none of the slots at hid: the others' own places are seen -/
theorem ERO.ev (h : ERO K He S0 Vw fl O σ H ρ) (hid : List Nat) : EV K (adr (O.filter fun p => hid.contains p.1) S0) hid H σ ρ := by
  have sub : ∀ p ∈ O.filter (fun p => hid.contains p.1), p ∈ O := fun p hp => (List.mem_filter.mp hp).1
  refine ⟨h.len, fun i d e hi => ?_⟩
  obtain ⟨v, e1, r⟩ := h.rep i d e
  refine ⟨v, e1, ?_⟩
  rcases r with ⟨_, r⟩ | ⟨hf, a, ha, r⟩
  · exact r.mono (hide_more (adr_sub sub))
  · refine r.show_ (adr_sub sub) fun z => ?_
    rcases List.mem_append.mp z with z | z
    · obtain ⟨p, hp, e2⟩ := List.mem_map.mp z
      obtain ⟨p1, p2⟩ := List.mem_filter.mp hp
      have e3 := h.own.inj p p1 (i, a) ha e2
      subst e3
      exact hi (by simpa using p2)
    · exact h.nots0 ha z
/-- fewer slots own -/
theorem ERO.weak (h : ERO K He S0 Vw fl O σ H ρ) (fl' : Fl) (hs : ∀ i ∈ fl', i ∈ fl) : ERO K He S0 Vw fl' (O.filter fun p => fl'.contains p.1) σ H ρ := by
  have sub : ∀ p ∈ O.filter (fun p => fl'.contains p.1), p ∈ O := fun p hp => (List.mem_filter.mp hp).1
  have hin : ∀ p ∈ O.filter (fun p => fl'.contains p.1), p.1 ∈ fl' := fun p hp => by simpa using (List.mem_filter.mp hp).2
  refine ⟨h.len, h.same, h.s0, ⟨hin, fun p hp => h.own.new p (sub p hp), fun p hp => h.own.mu p (sub p hp), fun p hp q hq => h.own.inj p (sub p hp) q (sub q hq)⟩, h.vis.trans (hide_more (adr_sub sub)), fun i d e => ?_⟩
  obtain ⟨v, e1, r⟩ := h.rep i d e
  refine ⟨v, e1, ?_⟩
  rcases r with ⟨hc, r⟩ | ⟨hf, a, ha, r⟩
  · refine .inl ⟨?_, r.mono (hide_more (adr_sub sub))⟩
    rcases hc with hc | hc
    · exact .inl fun z => hc (hs i z)
    · exact .inr hc
  · by_cases hi : i ∈ fl'
    · exact .inr ⟨hi, a, List.mem_filter.mpr ⟨ha, by simpa using hi⟩, r.mono (hide_more (adr_sub sub)) fun _ e _ => e⟩
    · refine .inl ⟨.inl hi, r.show_ (adr_sub sub) fun z => ?_⟩
      rcases List.mem_append.mp z with z | z
      · obtain ⟨p, hp, e2⟩ := List.mem_map.mp z
        have e3 := h.own.inj p (sub p hp) (i, a) ha e2
        have := hin p hp
        rw [e3] at this
        exact hi this
      · exact h.nots0 ha z
theorem ER.weak (h : ER K He S0 Vw fl σ H ρ) {fl' : Fl} (hs : ∀ i ∈ fl', i ∈ fl) : ER K He S0 Vw fl' σ H ρ := let ⟨_, q⟩ := h; ⟨_, q.weak fl' hs⟩
/-- the heap grows beside -/
theorem ERO.grow (h : ERO K He S0 Vw fl O σ H ρ) {H' : Hp} (sm : Sm H H') : ERO K He S0 Vw fl O σ H' ρ := by
  refine ⟨h.len, h.same.trans sm, h.s0, ⟨h.own.sl, h.own.new, fun p hp => ?_, h.own.inj⟩, h.vis.trans sm.hide, fun i d e => ?_⟩
  · have q := h.own.mu p hp
    cases z : H p.2 with
    | none => rw [z] at q; exact q.elim
    | some o =>
      rw [z] at q
      rw [sm.w.at_ _ _ z (by cases o <;> first | trivial | exact q.elim)]; exact q
  · obtain ⟨v, e1, r⟩ := h.rep i d e
    refine ⟨v, e1, ?_⟩
    rcases r with ⟨hc, r⟩ | ⟨hf, a, ha, r⟩
    · exact .inl ⟨hc, r.mono sm.hide⟩
    · exact .inr ⟨hf, a, ha, r.mono sm.hide fun o e n => sm.w.at_ _ _ e n⟩
/-- slots get values that never own: at sl, all rep'd beside -/
theorem ERO.store (h : ERO K He S0 Vw fl O σ H ρ) {sl : List Nat} {σ' : L2.St} {ρ' : DEnv} {fl' : Fl} (hf : ∀ i ∈ fl', i ∈ fl ∧ i ∉ sl) (hl : σ'.length = σ.length) (hr : ρ'.length = ρ.length)
    (out : ∀ i, i ∉ sl → σ'[i]? = σ[i]? ∧ ρ'[i]? = ρ[i]?) (inn : ∀ i d, i ∈ sl → ρ'[i]? = some (some d) → ∃ v, σ'[i]? = some (some v) ∧ Rep K (hide H (adr (O.filter fun p => fl'.contains p.1) S0)) d v) :
    ERO K He S0 Vw fl' (O.filter fun p => fl'.contains p.1) σ' H ρ' := by
  have w := h.weak fl' fun i hi => (hf i hi).1
  refine ⟨by rw [hl, hr]; exact h.len, w.same, w.s0, w.own, w.vis, fun i d e => ?_⟩
  by_cases hi : i ∈ sl
  · obtain ⟨v, e1, r⟩ := inn i d hi e
    exact ⟨v, e1, .inl ⟨.inl fun z => (hf i z).2 hi, r⟩⟩
  · obtain ⟨o1, o2⟩ := out i hi
    rw [o2] at e
    obtain ⟨v, e1, r⟩ := w.rep i d e
    exact ⟨v, by rw [o1]; exact e1, r⟩
/-- a slot gets a container of its own -/
theorem ERO.fresh (h : ERO K He S0 Vw fl O σ H ρ) {i : Nat} {a : Addr} {dc : D} {o : HO} (hi : i ∉ fl) (hil : i < ρ.length) (hn : He a = none) (hO : ∀ p ∈ O, p.2 ≠ a) (hV : Vw a = none) (e : H a = some o) (r : CRep K (hide H (a :: adr O S0)) a dc o)
    (hrep : ∀ j d, j ≠ i → ρ[j]? = some (some d) → ∃ v, σ[j]? = some (some v) ∧ (((j ∉ fl ∨ d.cont = false) ∧ Rep K (hide H (a :: adr O S0)) d v) ∨ (j ∈ fl ∧ ∃ b, (j, b) ∈ O ∧ OwnRep K H (a :: adr O S0) b d v))) :
    ERO K He S0 Vw (i :: fl) ((i, a) :: O) (σ.set i (some (.ref a))) H (ρ.set i (some dc)) := by
  have ns : a ∉ S0 := fun z => by
    have q := h.s0.mu _ z
    rw [hn] at q
    exact q
  refine ⟨by simp [h.len], h.same, h.s0, ⟨fun p hp => ?_, fun p hp => ?_, fun p hp => ?_, fun p hp q hq ee => ?_⟩, ⟨fun b o q n => ?_, fun b q => ?_⟩, fun j d ej => ?_⟩
  · rcases List.mem_cons.mp hp with rfl | hp
    · exact List.mem_cons_self
    · exact List.mem_cons_of_mem _ (h.own.sl p hp)
  · rcases List.mem_cons.mp hp with rfl | hp
    · exact hn
    · exact h.own.new p hp
  · rcases List.mem_cons.mp hp with rfl | hp
    · rw [e]; exact r.mut
    · exact h.own.mu p hp
  · rcases List.mem_cons.mp hp with rfl | hp
    · rcases List.mem_cons.mp hq with rfl | hq
      · rfl
      · exact absurd ee.symm (hO q hq)
    · rcases List.mem_cons.mp hq with rfl | hq
      · exact absurd ee (hO p hp)
      · exact h.own.inj p hp q hq ee
  · have hne : b ≠ a := fun z => by subst z; rw [hV] at q; cases q
    have q2 := h.vis.at_ b o q n
    show hide H (a :: adr O S0) b = some o
    unfold hide at q2 ⊢
    split at q2
    · cases q2
    · rename_i hb
      rw [if_neg (by intro z; rcases List.mem_cons.mp z with z | z; exact hne z; exact hb z)]
      exact q2
  · by_cases hba : b = a
    · rw [hba]; exact hV
    · refine h.vis.fr_ b ?_
      have q : hide H (a :: adr O S0) b = none := q
      unfold hide at q ⊢
      split
      · rfl
      · rename_i hb
        rw [if_neg (by intro z; rcases List.mem_cons.mp z with z | z; exact hba z; exact hb z)] at q
        exact q
  · by_cases hj : j = i
    · subst hj
      rw [List.getElem?_set_self hil] at ej
      cases ej
      exact ⟨.ref a, List.getElem?_set_self (by rw [h.len]; exact hil), .inr ⟨List.mem_cons_self, a, List.mem_cons_self, rfl, o, e, r⟩⟩
    · rw [List.getElem?_set_ne (Ne.symm hj)] at ej
      obtain ⟨v, e1, rr⟩ := hrep j d hj ej
      refine ⟨v, by rw [List.getElem?_set_ne (Ne.symm hj)]; exact e1, ?_⟩
      rcases rr with ⟨hc, rr⟩ | ⟨hf, b, hb, rr⟩
      · refine .inl ⟨?_, rr⟩
        rcases hc with hc | hc
        · exact .inl fun z => (List.mem_cons.mp z).elim hj hc
        · exact .inr hc
      · exact .inr ⟨List.mem_cons_of_mem _ hf, b, List.mem_cons_of_mem _ hb, rr⟩
end
end Dl

/-! DlOkX: okE, okI once more, by structure: the kernel computes it. -/
namespace Dl
open PySem PySem.Spec PyProof.Rows L2
mutual
/-- okE (w false), okI (w true) -/
def okX (N : List Str) (sc : Scope) (cm : Bool) (hid : List Nat) (w : Bool) : CE → Expr → Bool
  | .var i, e => (match e with
    | .Name x _ => decide (N[i]? = some x) && visB sc x && !hid.contains i && !(x == ("__debug__" : Str)) && !(x == ("__classdict__" : Str))
    | _ => false)
  | .int i, e => (match e with | .Constant (.int j) _ _ => decide (i = j) | _ => false)
  | .bl b, e => (match e with | .Constant (.bool c) _ _ => b == c | _ => false)
  | .non, e => (match e with | .Constant .none _ _ => true | _ => false)
  | .str x, e => (match e with | .Constant (.str y) _ _ => decide (x = y) | _ => false)
  | .glob x _, e => (match e with | .Name y _ => decide (x = y) && gloB sc x | _ => false)
  | .bin o a b, e => (match e with | .BinOp l op r _ => decide (boOp o = op) && (okX N sc cm hid false a l && okX N sc cm hid false b r) | _ => false)
  | .cat a b, e => (match e with | .BinOp l op r _ => decide (Operator.Add = op) && (okX N sc cm hid false a l && okX N sc cm hid false b r) | _ => false)
  | .neg a, e => (match e with | .UnaryOp .USub x _ => okX N sc cm hid false a x | _ => false)
  | .not a, e => (match e with | .UnaryOp .Not x _ => okX N sc cm hid false a x | _ => false)
  | .cmp o a b, e => (match e with | .Compare l [op] [r] _ => decide (coOp o = op) && (okX N sc cm hid false a l && okX N sc cm hid false b r) | _ => false)
  | .chain o o' a b c, e => (match e with | .Compare l [op, op'] [r, r'] _ => decide (coOp o = op) && decide (coOp o' = op') && (okX N sc cm hid false a l && (okX N sc cm hid false b r && okX N sc cm hid false c r')) | _ => false)
  | .isN ng a, e => (match e with | .Compare l [op] [.Constant .none _ _] _ => decide (op = if ng = true then CmpOp.IsNot else CmpOp.Is) && okX N sc cm hid false a l | _ => false)
  | .mem ng a b, e => (match e with | .Compare l [op] [r] _ => decide (op = if ng = true then CmpOp.NotIn else CmpOp.In) && (okX N sc cm hid false a l && okX N sc cm hid false b r) | _ => false)
  | .and es, e => (match e with | .BoolOp .And vs _ => !vs.isEmpty && okXs N sc cm hid es vs | _ => false)
  | .or es, e => (match e with | .BoolOp .Or vs _ => !vs.isEmpty && okXs N sc cm hid es vs | _ => false)
  | .ife c a b, e => (match e with | .IfExp c' a' b' _ => okX N sc cm hid false c c' && (okX N sc cm hid false a a' && okX N sc cm hid false b b') | _ => false)
  | .tup es, e => (match e with | .Tuple vs _ _ => okXs N sc cm hid es vs | _ => false)
  | .lst es, e => (match e with | .List vs _ => okXs N sc cm hid es vs | _ => false)
  | .ix a i, e => (match e with | .Subscript x s _ => okX N sc cm hid false a x && okX N sc cm hid false i s | _ => false)
  | .sl a l h, e => (match e with
    | .Subscript x (.Slice lo hi none _) _ => okX N sc cm hid false a x && (match lo with | some lo => !l.isNop && okX N sc cm hid false l lo | none => l.isNop) &&
        (match hi with | some hi => !h.isNop && okX N sc cm hid false h hi | none => h.isNop)
    | _ => false)
  | .nop, _ => false
  | .call f _ es, e => (match e with | .Call (.Name x _) vs [] _ => cm && decide (f = x) && gloB sc x && true && okXs N sc cm hid es vs | _ => false)
  | .blt f es, e => (match e with | .Call (.Name x _) vs [] _ => cm && decide (bfN f = x) && gloB sc x && !vs.isEmpty && okXs N sc cm hid es vs | _ => false)
  | .isi a t, e => (match e with | .Call (.Name x _) [v, .Name y _] [] _ => decide (x = ("isinstance" : Str)) && gloB sc x && decide (tyN t = y) && gloB sc y && okX N sc cm hid false a v && (match t with | .cls _ => false | _ => true) | _ => false)
  | .lc t it ifs elt, e => (match e with
    | .ListComp el [⟨tg, iter, fs, 0⟩] scope _ => cm && okX N sc cm hid true it iter && blkC N sc scope (ownOf N t) && decide (t.slots.all fun i => !hid.contains i) && okT N (relS scope sc) (locB scope) t tg && decide (fs.length ≤ 1) &&
        okXs N (relS scope sc) cm hid ifs fs && okX N (relS scope sc) cm hid false elt el
    | _ => false)
  | .lc2 t it t2 it2 ifs elt, e => (match e with
    | .ListComp el [⟨tg, iter, [], 0⟩, ⟨tg2, iter2, fs, 0⟩] scope _ => cm && okX N sc cm hid true it iter && blkC N sc scope (ownOf N t ++ ownOf N t2) && decide ((t.slots ++ t2.slots).all fun i => !hid.contains i) && okT N (relS scope sc) (locB scope) t tg && okT N (relS scope sc) (locB scope) t2 tg2 &&
        okX N (relS scope sc) cm hid true it2 iter2 && decide (fs.length ≤ 1) && okXs N (relS scope sc) cm hid ifs fs && okX N (relS scope sc) cm hid false elt el
    | _ => false)
  | .rng es, e => (match e with | .Call (.Name x _) vs [] _ => w && (cm && decide (x = ("range" : Str)) && gloB sc x && (!vs.isEmpty && decide (vs.length ≤ 2)) && okXs N sc cm hid es vs) | _ => false)
  | .enm _, _ => false
  | .zip _ _, _ => false
  | .dct0, e => (match e with | .Dict [] [] _ => true | _ => false)
  | .dct1 k v, e => (match e with | .Dict [some ke] [ve] _ => cm && (okX N sc cm hid false k ke && okX N sc cm hid false v ve) | _ => false)
  | .sortk i it key, e => (match e with
    | .Call (.Name x _) [a] [⟨some kw, .Lambda ps body scope _, _⟩] _ => cm && decide (x = ("sorted" : Str)) && gloB sc x && decide (kw = ("key" : Str)) && decide (i < N.length) && !hid.contains i && lamP (N.getD i "") ps && lam1B sc scope (N.getD i "") && (okX N sc cm hid false it a && okX N scope cm hid false key body)
    | _ => false)
termination_by structural c => c
def okXs (N : List Str) (sc : Scope) (cm : Bool) (hid : List Nat) : List CE → List Expr → Bool
  | [], es => es.isEmpty
  | c :: cs, es => (match es with
    | e :: es => okX N sc cm hid false c e && okXs N sc cm hid cs es
    | [] => false)
termination_by structural cs => cs
end
mutual
theorem okX_eq : ∀ (c : CE) (N : List Str) (sc : Scope) (cm : Bool) (hid : List Nat) (w : Bool) (e : Expr), okX N sc cm hid w c e = cond w (okI N sc cm hid c e) (okE N sc cm hid c e)
  | .bin o a b, N, sc, cm, hid, w, e => by cases w <;> simp only [okI, cond] <;> unfold okX okE <;> simp only [okX_eq a, okX_eq b, cond] <;> first | done | rfl
  | .cat a b, N, sc, cm, hid, w, e => by cases w <;> simp only [okI, cond] <;> unfold okX okE <;> simp only [okX_eq a, okX_eq b, cond] <;> first | done | rfl
  | .neg a, N, sc, cm, hid, w, e => by cases w <;> simp only [okI, cond] <;> unfold okX okE <;> simp only [okX_eq a, cond] <;> first | done | rfl
  | .not a, N, sc, cm, hid, w, e => by cases w <;> simp only [okI, cond] <;> unfold okX okE <;> simp only [okX_eq a, cond] <;> first | done | rfl
  | .cmp o a b, N, sc, cm, hid, w, e => by cases w <;> simp only [okI, cond] <;> unfold okX okE <;> simp only [okX_eq a, okX_eq b, cond] <;> first | done | rfl
  | .chain o o' a b c, N, sc, cm, hid, w, e => by cases w <;> simp only [okI, cond] <;> unfold okX okE <;> simp only [okX_eq a, okX_eq b, okX_eq c, cond] <;> first | done | rfl
  | .isN ng a, N, sc, cm, hid, w, e => by cases w <;> simp only [okI, cond] <;> unfold okX okE <;> simp only [okX_eq a, cond] <;> first | done | rfl
  | .mem ng a b, N, sc, cm, hid, w, e => by cases w <;> simp only [okI, cond] <;> unfold okX okE <;> simp only [okX_eq a, okX_eq b, cond] <;> first | done | rfl
  | .and es, N, sc, cm, hid, w, e => by cases w <;> simp only [okI, cond] <;> unfold okX okE <;> simp only [okXs_eq es] <;> first | done | rfl
  | .or es, N, sc, cm, hid, w, e => by cases w <;> simp only [okI, cond] <;> unfold okX okE <;> simp only [okXs_eq es] <;> first | done | rfl
  | .ife c a b, N, sc, cm, hid, w, e => by cases w <;> simp only [okI, cond] <;> unfold okX okE <;> simp only [okX_eq a, okX_eq b, okX_eq c, cond] <;> first | done | rfl
  | .tup es, N, sc, cm, hid, w, e => by cases w <;> simp only [okI, cond] <;> unfold okX okE <;> simp only [okXs_eq es] <;> first | done | rfl
  | .lst es, N, sc, cm, hid, w, e => by cases w <;> simp only [okI, cond] <;> unfold okX okE <;> simp only [okXs_eq es] <;> first | done | rfl
  | .ix a i, N, sc, cm, hid, w, e => by cases w <;> simp only [okI, cond] <;> unfold okX okE <;> simp only [okX_eq a, okX_eq i, cond] <;> first | done | rfl
  | .sl a l h, N, sc, cm, hid, w, e => by cases w <;> simp only [okI, cond] <;> unfold okX okE <;> simp only [okX_eq a, okX_eq l, okX_eq h, cond] <;> first | done | rfl
  | .call f sp es, N, sc, cm, hid, w, e => by cases w <;> simp only [okI, cond] <;> unfold okX okE <;> simp only [okXs_eq es] <;> first | done | rfl
  | .blt f es, N, sc, cm, hid, w, e => by cases w <;> simp only [okI, cond] <;> unfold okX okE <;> simp only [okXs_eq es] <;> first | done | rfl
  | .isi a t, N, sc, cm, hid, w, e => by cases w <;> simp only [okI, cond] <;> unfold okX okE <;> simp only [okX_eq a, cond] <;> first | done | rfl
  | .lc t it ifs elt, N, sc, cm, hid, w, e => by cases w <;> simp only [okI, cond] <;> unfold okX okE <;> simp only [okX_eq it, okX_eq elt, okXs_eq ifs, cond] <;> first | done | rfl
  | .lc2 t it t2 it2 ifs elt, N, sc, cm, hid, w, e => by cases w <;> simp only [okI, cond] <;> unfold okX okE <;> simp only [okX_eq it, okX_eq it2, okX_eq elt, okXs_eq ifs, cond] <;> first | done | rfl
  | .rng es, N, sc, cm, hid, w, e => by
    cases w
    · simp only [cond]
      unfold okX okE
      split <;> rfl
    · simp only [cond]
      unfold okX okI
      split <;> simp only [okXs_eq es, Bool.true_and] <;> first | done | rfl
  | .var i, N, sc, cm, hid, w, e => by cases w <;> simp only [okI, cond] <;> unfold okX okE <;> rfl
  | .int i, N, sc, cm, hid, w, e => by cases w <;> simp only [okI, cond] <;> unfold okX okE <;> rfl
  | .bl i, N, sc, cm, hid, w, e => by cases w <;> simp only [okI, cond] <;> unfold okX okE <;> rfl
  | .non, N, sc, cm, hid, w, e => by cases w <;> simp only [okI, cond] <;> unfold okX okE <;> rfl
  | .str i, N, sc, cm, hid, w, e => by cases w <;> simp only [okI, cond] <;> unfold okX okE <;> rfl
  | .glob i d, N, sc, cm, hid, w, e => by cases w <;> simp only [okI, cond] <;> unfold okX okE <;> rfl
  | .nop, N, sc, cm, hid, w, e => by cases w <;> simp only [okI, cond] <;> unfold okX okE <;> rfl
  | .enm a, N, sc, cm, hid, w, e => by cases w <;> simp only [okI, cond] <;> unfold okX okE <;> rfl
  | .zip a b, N, sc, cm, hid, w, e => by cases w <;> simp only [okI, cond] <;> unfold okX okE <;> rfl
  | .dct0, N, sc, cm, hid, w, e => by cases w <;> simp only [okI, cond] <;> unfold okX okE <;> rfl
  | .dct1 a b, N, sc, cm, hid, w, e => by cases w <;> simp only [okI, cond] <;> unfold okX okE <;> simp only [okX_eq a, okX_eq b, cond] <;> first | done | rfl
  | .sortk i a b, N, sc, cm, hid, w, e => by cases w <;> simp only [okI, cond] <;> unfold okX okE <;> simp only [okX_eq a, okX_eq b, cond] <;> first | done | rfl
theorem okXs_eq : ∀ (cs : List CE) (N : List Str) (sc : Scope) (cm : Bool) (hid : List Nat) (es : List Expr), okXs N sc cm hid cs es = okEs N sc cm hid cs es
  | [], N, sc, cm, hid, es => by unfold okXs okEs; rfl
  | c :: cs, N, sc, cm, hid, es => by
    unfold okXs okEs
    cases es with
    | nil => rfl
    | cons e es => simp only [okX_eq c, okXs_eq cs, cond] <;> first | done | rfl
end
theorem okXE {c : CE} {N : List Str} {sc : Scope} {cm : Bool} {hid : List Nat} {e : Expr} (h : okX N sc cm hid false c e = true) : okE N sc cm hid c e = true := by
  rw [okX_eq] at h
  exact h
theorem okXI {c : CE} {N : List Str} {sc : Scope} {cm : Bool} {hid : List Nat} {e : Expr} (h : okX N sc cm hid true c e = true) : okI N sc cm hid c e = true := by
  rw [okX_eq] at h
  exact h
end Dl

/-! DlChk: which written statements a core statement stands for, with the flow of ownership. -/
namespace Dl
open PySem PySem.Spec PyProof.Rows L2
variable [Tbs]
inductive FR where
  | bad | dead | ok (fl : Fl)
def minus (a b : Fl) : Fl := a.filter fun i => !b.contains i
def subF (a b : Fl) : Bool := a.all b.contains
def meet (a b : Fl) : Fl := a.filter b.contains
def FR.join : FR → FR → FR
  | .bad, _ => .bad
  | _, .bad => .bad
  | .dead, r => r
  | r, .dead => r
  | .ok a, .ok b => .ok (meet a b)
/-- no comprehension -/
def ncB : Expr → Bool
  | .ListComp .. => false
  | .SetComp .. => false
  | .DictComp .. => false
  | _ => true
def isLcE : CE → Bool
  | .lc .. => true
  | .lc2 .. => true
  | _ => false
def isVarIn (fl : Fl) : CE → Bool
  | .var i => fl.contains i
  | _ => false
/-- the tuple's items are stored one by one, from the tuple -/
def swNone : Expr → Bool
  | .Tuple vs _ _ => (decide (vs.length ≠ 2) && decide (vs.length ≠ 3)) || (vs.all (foldedForSure 8) && vs.all nsB)
  | _ => true
/-- the tuple's two items are stored from the right -/
def swTwo (sc : Scope) (x y : Str) (px py : Pos) (a b : Expr) : Bool :=
  decide (sc.names.lookup x = some .local) && decide (sc.names.lookup y = some .local) && !(x == y) && (py.line == px.line) && nsB a && nsB b && !([a, b].all (foldedForSure 8)) && !([a, b].all (constantsAlone 8))
/-- a name stored by a comprehension on its own line: the frame's own way -/
def swLc (sc scope : Scope) (x : Str) (px pv : Pos) : Bool :=
  decide (sc.names.lookup x = some .local) && (px.line == pv.line) && !(scope.names.any fun (n, k) => n == x && (k == .local || k == .cell))
def FR.isBad : FR → Bool
  | .bad => true
  | _ => false
/-- a loop's own flags: those that its body gives back -/
def loopF (f : Fl → FR) : Nat → Fl → Option Fl
  | 0, _ => none
  | n + 1, fl => match f fl with
    | .bad => none
    | .dead => some fl
    | .ok fl2 => if subF fl fl2 = true then some fl else loopF f n (meet fl fl2)
mutual
/-- a test of the exception at n -/
def chX (sc : Scope) (n : Str) : XT → Expr → Bool
  | .isx C, e => (match e with | .Call (.Name x _) [.Name y _, .Name z _] [] _ => decide (x = ("isinstance" : Str)) && decide (y = n) && decide (z = C) && gloB sc z | _ => false)
  | .not t, e => (match e with | .UnaryOp .Not x _ => chX sc n t x | _ => false)
  | .and ts, e => (match e with | .BoolOp .And vs _ => !vs.isEmpty && chXs sc n ts vs | _ => false)
  | .or ts, e => (match e with | .BoolOp .Or vs _ => !vs.isEmpty && chXs sc n ts vs | _ => false)
termination_by structural t => t
def chXs (sc : Scope) (n : Str) : List XT → List Expr → Bool
  | [], es => es.isEmpty
  | t :: ts, es => (match es with
    | e :: es => chX sc n t e && chXs sc n ts es
    | [] => false)
termination_by structural ts => ts
end
def chXE (N : List Str) (sc : Scope) (n : Str) : XE → Expr → Bool
  | .ce e, x => okX N sc false [] false e x
  | .sel a xs t, x => (match x with
    | .Tuple [u, .Subscript (.List ys _) (.Call (.Name ii _) [te] [] _) _] _ _ => okX N sc false [] false a u && okXs N sc false [] xs ys && decide (ii = ("int" : Str)) && gloB sc ii && nsB te && chX sc n t te
    | _ => false)
def chH (N : List Str) (sc : Scope) (n : Str) : List (XT × XE) → XE → List Stmt → Bool
  | [], last, ss => (match ss with
    | [.Return (some e) _] => chXE N sc n last e
    | _ => false)
  | (t, r) :: hs, last, ss => (match ss with
    | .If te [.Return (some re) _] [] _ :: rest => chX sc n t te && chXE N sc n r re && chH N sc n hs last rest
    | _ => false)
def XE.plain : XE → Bool
  | .ce _ => true
  | _ => false
/-- the clauses -/
def chHd (N : List Str) (sc : Scope) : List Hd → List ExceptHandler → Bool
  | [], es => es.isEmpty
  | h :: hs, es => (match es with
    | .ExceptHandler (some (.Name y _)) nm suite _ :: rest => decide (h.c = y) && gloB sc y && (match h.i, nm with
      | some i, some n => decide (N[i]? = some n) && decide (sc.names.lookup n = some .local) && !(n == ("__debug__" : Str)) && !(n == ("__classdict__" : Str)) && gloB sc "isinstance" && chH N sc n h.hs h.last suite
      | none, none => h.hs.isEmpty && h.last.plain && chH N sc "" h.hs h.last suite
      | _, _ => false) && chHd N sc hs rest
    | _ => false)
mutual
def chS (N : List Str) (sc : Scope) (cm : Bool) (Ef : Fl) : CS → Stmt → Fl → Fl → FR
  | .asg i e rd ls, s, Lf, fl => (match s with
    | .Assign [.Name x px] v pos => if (decide (N[i]? = some x) && locB sc x && subF Ef fl && true && okX N sc cm (minus fl rd) false e v && (ncB v || isLcE e)) = true then
        (if e.owns = true then .ok (i :: minus (if ls = true then minus fl rd else fl) [i]) else .ok (minus (if ls = true then minus fl rd else fl) [i])) else .bad
    | _ => .bad)
  | .asgT t e rd ls, s, Lf, fl => (match s with
    | .Assign [.Tuple es k p] v pos => if (cm && okT N sc (fun _ => true) t (.Tuple es k p) && subF Ef fl && true && okX N sc cm (minus fl rd) false e v && ncB v && swNone v) = true then
        .ok (minus (if ls = true then minus fl rd else fl) t.slots) else .bad
    | _ => .bad)
  | .par i j a b, s, Lf, fl => (match s with
    | .Assign [.Tuple [.Name x px, .Name y py] _ _] (.Tuple [u, v] _ _) pos => if (cm && decide (N[i]? = some x) && decide (N[j]? = some y) && decide (i ≠ j) && swTwo sc x y px py u v && subF Ef fl && okX N sc cm fl false a u && okX N sc cm fl false b v) = true then
        .ok (minus fl [i, j]) else .bad
    | _ => .bad)
  | .app i e rd ls, s, Lf, fl => (match s with
    | .Expr (.Call (.Attribute (.Name x _) m ap) [v] [] cp) pos => if (decide (m = ("append" : Str)) && (ap.endLine == cp.line) && decide (N[i]? = some x) && visB sc x && !(x == ("__debug__" : Str)) && !(x == ("__classdict__" : Str)) && fl.contains i && subF Ef fl && true && (!ls || !rd.contains i) && okX N sc cm (minus fl rd) false e v) = true then
        .ok (if ls = true then minus fl rd else fl) else .bad
    | _ => .bad)
  | .clr i, s, Lf, fl => (match s with
    | .Expr (.Call (.Attribute (.Name x _) m ap) [] [] cp) pos => if (decide (m = ("clear" : Str)) && (ap.endLine == cp.line) && decide (N[i]? = some x) && visB sc x && !(x == ("__debug__" : Str)) && !(x == ("__classdict__" : Str)) && fl.contains i) = true then .ok fl else .bad
    | _ => .bad)
  | .ext i j, s, Lf, fl => (match s with
    | .Expr (.Call (.Attribute (.Name x _) m ap) [.Name y _] [] cp) pos => if (decide (m = ("extend" : Str)) && (ap.endLine == cp.line) && decide (N[i]? = some x) && visB sc x && !(x == ("__debug__" : Str)) && !(x == ("__classdict__" : Str)) && fl.contains i &&
        decide (N[j]? = some y) && visB sc y && !(y == ("__debug__" : Str)) && !(y == ("__classdict__" : Str)) && fl.contains j && decide (i ≠ j)) = true then .ok fl else .bad
    | _ => .bad)
  | .drop e, s, Lf, fl => (match s with
    | .Expr v pos => if (subF Ef fl && okX N sc cm fl false e v && ncB v) = true then .ok fl else .bad
    | _ => .bad)
  | .ret e fr, s, Lf, fl => (match s with
    | .Return (some v) _ => if (subF Ef fl && okX N sc cm [] false e v && (!fr || e.fresh || isVarIn fl e)) = true then .dead else .bad
    | _ => .bad)
  | .retN, s, Lf, fl => (match s with
    | .Return none _ => .dead
    | _ => .bad)
  | .ifs c a b, s, Lf, fl => (match s with
    | .If t x y _ => if (subF Ef fl && okX N sc cm [] false c t) = true then (chB N sc cm Ef a x Lf fl).join (chB N sc cm Ef b y Lf fl) else .bad
    | _ => .bad)
  | .for_ t it rd body, s, Lf, fl => (match s with
    | .For tg iter bd [] _ => if (cm && okT N sc (fun _ => true) t tg && subF Ef fl && true && okX N sc cm (minus fl rd) true it iter) = true then
        (match loopF (fun f => chB N sc cm Ef body bd f f) 4 (minus (minus fl rd) t.slots) with
        | some f => .ok f
        | none => .bad) else .bad
    | _ => .bad)
  | .whl c body, s, Lf, fl => (match s with
    | .While t bd [] _ => if (cm && subF Ef fl && okX N sc cm [] false c t) = true then
        (match loopF (fun f => chB N sc cm Ef body bd f f) 4 fl with
        | some f => if subF Ef f = true then .ok f else .bad
        | none => .bad) else .bad
    | _ => .bad)
  | .brk, s, Lf, fl => (match s with
    | .Break _ => if subF Lf fl = true then .dead else .bad
    | _ => .bad)
  | .cnt, s, Lf, fl => (match s with
    | .Continue _ => if subF Lf fl = true then .dead else .bad
    | _ => .bad)
  | .pass, s, Lf, fl => (match s with
    | .Pass _ => .ok fl
    | _ => .bad)
  | .rse c, s, Lf, fl => (match s with
    | .Raise (some (.Call (.Name x _) [.Constant (.str m) _ _] [] _)) none _ => if (cm && decide (c = x) && gloB sc x && subF Ef fl) = true then .dead else .bad
    | _ => .bad)
  | .tryx body all cls, s, Lf, fl => (match s with
    | .Try bd hds [] [] _ => if (!cls.isEmpty && chHd N sc cls hds && subF Ef fl) = true then chB N sc cm Ef body bd Lf fl else .bad
    | _ => .bad)
  | .pop j i, s, Lf, fl => (match s with
    | .Assign [.Name y py] (.Call (.Attribute (.Name x _) m ap) [] [] cp) pos => if (decide (m = ("pop" : Str)) && (ap.endLine == cp.line) && decide (N[i]? = some x) && visB sc x && !(x == ("__debug__" : Str)) && !(x == ("__classdict__" : Str)) && fl.contains i &&
        decide (N[j]? = some y) && locB sc y && decide (i ≠ j)) = true then .ok (minus fl [j]) else .bad
    | _ => .bad)
  | .put i k e, s, Lf, fl => (match s with
    | .Assign [.Subscript (.Name x _) ke sp] v pos => if (cm && decide (N[i]? = some x) && visB sc x && !(x == ("__debug__" : Str)) && !(x == ("__classdict__" : Str)) && fl.contains i && subF Ef fl && okX N sc cm [] false e v && okX N sc cm [] false k ke && ncB v) = true then .ok fl else .bad
    | _ => .bad)
  | .asgP i j f sp es rd ls, s, Lf, fl => (match s with
    | .Assign [.Tuple [.Name x px, .Name y py] _ _] (.Call (.Name g _) vs [] _) pos => if (cm && decide (f = g) && gloB sc g && !vs.isEmpty && decide (N[i]? = some x) && decide (N[j]? = some y) && decide (i ≠ j) && locB sc x && locB sc y && subF Ef fl && okXs N sc cm (minus fl rd) es vs) = true then
        .ok (i :: minus (if ls = true then minus fl rd else fl) [i, j]) else .bad
    | _ => .bad)
termination_by structural c => c
def chB (N : List Str) (sc : Scope) (cm : Bool) (Ef : Fl) : List CS → List Stmt → Fl → Fl → FR
  | [], ss, Lf, fl => if ss.isEmpty = true then .ok fl else .bad
  | c :: cs, ss, Lf, fl => (match ss with
    | s :: ss => (match chS N sc cm Ef c s Lf fl with
      | .bad => .bad
      | .dead => .dead
      | .ok fl' => chB N sc cm Ef cs ss Lf fl')
    | [] => .bad)
termination_by structural cs => cs
end
def allP {α : Type} (P : α → Prop) : List α → Prop
  | [] => True
  | x :: xs => P x ∧ allP P xs
theorem allP_mem {α : Type} {P : α → Prop} : ∀ {l : List α} {x : α}, allP P l → x ∈ l → P x
  | y :: l, x, h, m => by
    unfold allP at h
    rcases List.mem_cons.mp m with rfl | m
    · exact h.1
    · exact allP_mem h.2 m
-- what is asked of classes: F, G of names; R c: c may be raised; M c C: how c stands to C; Z C: C names a class
mutual
def XT.needs (M : Str → Str → Prop) (Z : Str → Prop) (c : Str) : XT → Prop
  | .isx C => M c C ∧ Z C
  | .not t => t.needs M Z c
  | .and ts => XT.needsL M Z c ts
  | .or ts => XT.needsL M Z c ts
def XT.needsL (M : Str → Str → Prop) (Z : Str → Prop) (c : Str) : List XT → Prop
  | [] => True
  | t :: ts => t.needs M Z c ∧ XT.needsL M Z c ts
end
structure Cl where
  R : Str → Prop
  M : Str → Str → Prop
  Z : Str → Prop
  P : Str → Nat → Spec → Prop
def XE.needs (F : Str → Nat → Spec → Prop) (G : Str → D → Prop) (M : Lm) : XE → Prop
  | .ce e => e.needs F G M
  | .sel a xs _ => a.needs F G M ∧ CE.needsL F G M xs
def XE.xts (P : XT → Prop) : XE → Prop
  | .ce _ => True
  | .sel _ _ t => P t
def Hd.needs (F : Str → Nat → Spec → Prop) (G : Str → D → Prop) (M : Lm) (L : Cl) (all : List Str) (h : Hd) : Prop :=
  L.Z h.c ∧ allP (fun c => L.M c h.c ∧ h.last.xts (fun t => t.needs L.M L.Z c) ∧ allP (fun p : XT × XE => p.1.needs L.M L.Z c ∧ p.2.xts fun t => t.needs L.M L.Z c) h.hs) all ∧ h.last.needs F G M ∧ allP (fun p : XT × XE => p.2.needs F G M) h.hs
mutual
def CS.needs (F : Str → Nat → Spec → Prop) (G : Str → D → Prop) (M : Lm) (L : Cl) : CS → Prop
  | .asg _ e _ _ => e.needs F G M
  | .asgT _ e _ _ => e.needs F G M
  | .par _ _ a b => a.needs F G M ∧ b.needs F G M
  | .app _ e _ _ => e.needs F G M
  | .put _ k e => k.needs F G M ∧ e.needs F G M
  | .asgP _ _ f sp es _ _ => L.P f es.length sp ∧ CE.needsL F G M es
  | .drop e => e.needs F G M
  | .ret e _ => e.needs F G M
  | .ifs c a b => c.needs F G M ∧ CS.needsL F G M L a ∧ CS.needsL F G M L b
  | .for_ _ it _ body => it.needs F G M ∧ CS.needsL F G M L body
  | .whl c body => c.needs F G M ∧ CS.needsL F G M L body
  | .rse c => L.R c
  | .tryx body all cls => CS.needsL F G M L body ∧ allP (fun h : Hd => h.needs F G M L all) cls
  | _ => True
def CS.needsL (F : Str → Nat → Spec → Prop) (G : Str → D → Prop) (M : Lm) (L : Cl) : List CS → Prop
  | [] => True
  | c :: cs => c.needs F G M L ∧ CS.needsL F G M L cs
end
theorem minus_mem {a b : Fl} {i : Nat} : i ∈ minus a b ↔ i ∈ a ∧ i ∉ b := by
  unfold minus
  rw [List.mem_filter]
  simp
theorem subF_ok {a b : Fl} (h : subF a b = true) : ∀ i ∈ a, i ∈ b := fun i hi => by
  have q := List.all_eq_true.mp h i hi
  simpa using q
theorem meet_mem {a b : Fl} {i : Nat} : i ∈ meet a b ↔ i ∈ a ∧ i ∈ b := by
  unfold meet
  rw [List.mem_filter]
  simp
theorem loopF_ok {f : Fl → FR} : ∀ {n : Nat} {fl r : Fl}, loopF f n fl = some r → (∀ i ∈ r, i ∈ fl) ∧ (f r = .dead ∨ ∃ fl2, f r = .ok fl2 ∧ ∀ i ∈ r, i ∈ fl2)
  | 0, fl, r, h => by unfold loopF at h; cases h
  | n + 1, fl, r, h => by
    unfold loopF at h
    split at h
    · cases h
    · rename_i e
      cases h
      exact ⟨fun _ h => h, .inl e⟩
    · rename_i fl2 e
      split at h
      · rename_i hs
        cases h
        exact ⟨fun _ h => h, .inr ⟨fl2, e, subF_ok hs⟩⟩
      · obtain ⟨h1, h2⟩ := loopF_ok h
        exact ⟨fun i hi => (meet_mem.mp (h1 i hi)).1, h2⟩
theorem swNone_ok {tg v : Expr} {env : Env} (h : swNone v = true) : swappedStores [tg] v env = pure none := by
  unfold swappedStores
  cases v with
  | Tuple vs k p =>
    cases tg with
    | Tuple ts k' p' =>
      simp only
      unfold swNone at h
      rw [Bool.or_eq_true] at h
      rcases h with h | h
      · obtain ⟨h1, h2⟩ := Bool.and_eq_true .. ▸ h
        have e1 := of_decide_eq_true h1
        have e2 := of_decide_eq_true h2
        split
        · rfl
        · rename_i hc
          exfalso
          apply hc
          simp only [Bool.or_eq_true, Bool.not_eq_true', bne_iff_ne, ne_eq, Bool.or_eq_false_iff, beq_eq_false_iff_ne, beq_iff_eq]
          by_cases q : vs.length = ts.length
          · left; left
            exact ⟨fun z => e1 (q.trans z), fun z => e2 (q.trans z)⟩
          · left; right; exact q
      · obtain ⟨h1, h2⟩ := Bool.and_eq_true .. ▸ h
        split
        · rfl
        · split
          · rfl
          · split
            · rfl
            · first | rfl | rw [if_pos h1]
    | List ts p' =>
      simp only
      unfold swNone at h
      rw [Bool.or_eq_true] at h
      rcases h with h | h
      · obtain ⟨h1, h2⟩ := Bool.and_eq_true .. ▸ h
        have e1 := of_decide_eq_true h1
        have e2 := of_decide_eq_true h2
        split
        · rfl
        · rename_i hc
          exfalso
          apply hc
          simp only [Bool.or_eq_true, Bool.not_eq_true', bne_iff_ne, ne_eq, Bool.or_eq_false_iff, beq_eq_false_iff_ne, beq_iff_eq]
          by_cases q : vs.length = ts.length
          · left; left
            exact ⟨fun z => e1 (q.trans z), fun z => e2 (q.trans z)⟩
          · left; right; exact q
      · obtain ⟨h1, h2⟩ := Bool.and_eq_true .. ▸ h
        split
        · rfl
        · split
          · rfl
          · split
            · rfl
            · first | rfl | rw [if_pos h1]
    | _ => rfl
  | _ => cases tg <;> rfl
theorem swTwo_ok {sc : Scope} {x y : Str} {px py pt p2 : Pos} {a b : Expr} {env : Env} {k k2 : Nat} (hs : env.scope = sc) (hb : env.blockKind = .function) (h : swTwo sc x y px py a b = true) :
    swappedStores [.Tuple [.Name x px, .Name y py] k pt] (.Tuple [a, b] k2 p2) env = pure (some [x, y]) := by
  unfold swTwo at h
  obtain ⟨h, h8⟩ := and2 h
  obtain ⟨h, h7⟩ := and2 h
  obtain ⟨h, h6⟩ := and2 h
  obtain ⟨h, h5⟩ := and2 h
  obtain ⟨h, h4⟩ := and2 h
  obtain ⟨h, h3⟩ := and2 h
  obtain ⟨h1, h2⟩ := and2 h
  have e1 : env.kindOf x = some .local := by unfold Env.kindOf; rw [hs]; exact of_decide_eq_true h1
  have e2 : env.kindOf y = some .local := by unfold Env.kindOf; rw [hs]; exact of_decide_eq_true h2
  have e3 : (x == y) = false := by simpa using h3
  have e3' : (y == x) = false := by rw [beq_eq_false_iff_ne] at e3 ⊢; exact fun z => e3 z.symm
  have h7' : ([a, b].all (foldedForSure 8)) = false := by rwa [Bool.not_eq_true'] at h7
  have h8' : ([a, b].all (constantsAlone 8)) = false := by rwa [Bool.not_eq_true'] at h8
  have any : ([a, b].any fun | .Starred .. => true | _ => false) = false := by
    cases a <;> first | (cases h5; done) | (cases b <;> first | (cases h6; done) | rfl)
  have l4 : py.line = px.line := by simpa using h4
  have nm : ([Expr.Name x px, Expr.Name y py].filterMap fun
    | .Name id pos => if env.kindOf id == some .local && pos.line == px.line then some id else none
    | _ => none) = [x, y] := by
    simp [e1, e2, l4]
  have ed : ([x, y] : List Str).eraseDups = [x, y] := by
    simp [List.eraseDups_cons, e3', e3]
  unfold swappedStores
  simp only [List.length_cons, List.length_nil, hb, List.head?_cons, Option.map_some, Option.getD_some, Expr.pos]
  refine (if_neg (by decide)).trans ?_
  refine (if_neg (fun z => Bool.false_ne_true (any.symm.trans z))).trans ?_
  refine (if_neg (fun z => ?_)).trans ?_
  · have z' : ((([x, y] : List Str).length != 0 + 1 + 1 || ([x, y] : List Str).eraseDups.length != ([x, y] : List Str).length)) = true := by rw [← nm] ; exact z
    rw [ed] at z'
    exact absurd z' (by simp)
  refine (if_neg (fun z => Bool.false_ne_true (h7'.symm.trans z))).trans ?_
  refine (if_neg (fun z => Bool.false_ne_true (h8'.symm.trans z))).trans ?_
  exact congrArg (fun l => (pure (some l) : Sem (Option (List Str)))) nm
end Dl

/-! DlAsg: ownership through a store. -/
namespace Dl
open PySem PySem.Spec PyProof.Rows L2
variable [Tbs]
section
variable {K : PySem.W.Frag} {He : Hp} {S0 : List Addr} {Vw : Hp} {fl : Fl} {O : List (Nat × Addr)} {σ : L2.St} {H H' : Hp} {ρ : DEnv}
theorem Rep.imm2 {S T : List Addr} {d : D} {v : V} (h : Rep K (hide H S) d v) (hi : d.imm = true) (hT : SOk H T) : Rep K (hide H T) d v := by
  have q := Rep.imm (K := K) (H := hide H S) (S := T) (fun a xs r => hT.tup (Same.rd hide_le r)) h hi
  refine q.mono (Same.of fun b o e => ?_)
  unfold hide at e ⊢
  split at e
  · cases e
  · rename_i hb
    rw [if_neg hb]
    split at e
    · cases e
    · exact e
theorem Reps.imm2 {S T : List Addr} : ∀ {ds : List D} {vs : List V}, Reps K (hide H S) ds vs → D.imms ds = true → SOk H T → Reps K (hide H T) ds vs
  | [], vs, h, _, _ => by unfold Reps at *; exact h
  | d :: ds, vs, h, hi, hT => by
    unfold Reps at *
    unfold D.imms at hi
    rw [Bool.and_eq_true] at hi
    obtain ⟨v, r, h1, h2, h3⟩ := h
    exact ⟨v, r, h1, Rep.imm2 h2 hi.1 hT, Reps.imm2 h3 hi.2 hT⟩
theorem CRep.imm2 {S T : List Addr} {a : Addr} {d : D} {o : HO} (h : CRep K (hide H S) a d o) (hi : d.flat = true) (hT : SOk H T) : CRep K (hide H T) a d o := by
  cases d with
  | lst ds => obtain ⟨vs, h1, h2⟩ := h; exact ⟨vs, h1, Reps.imm2 h2 hi hT⟩
  | dict ks vs =>
    obtain ⟨kas, vvs, h1, h2, h3, h4, h5⟩ := h
    unfold D.flat at hi
    rw [Bool.and_eq_true] at hi
    exact ⟨kas, vvs, h1, h2, h3, Reps.imm2 h4 hi.1 hT, Reps.imm2 h5 hi.2 hT⟩
  | _ => exact h.elim
/-- one more slot may own, where what it holds is no container -/
theorem ERO.flag (h : ERO K He S0 Vw fl O σ H ρ) {i : Nat} (hc : ∀ d, ρ[i]? = some (some d) → d.cont = false) : ERO K He S0 Vw (i :: fl) O σ H ρ := by
  refine ⟨h.len, h.same, h.s0, ⟨fun p hp => List.mem_cons_of_mem _ (h.own.sl p hp), h.own.new, h.own.mu, h.own.inj⟩, h.vis, fun j d e => ?_⟩
  obtain ⟨v, e1, r⟩ := h.rep j d e
  refine ⟨v, e1, ?_⟩
  rcases r with ⟨hn, r⟩ | ⟨hf, r⟩
  · refine .inl ⟨?_, r⟩
    by_cases hj : j = i
    · subst hj; exact .inr (hc d e)
    · rcases hn with hn | hn
      · exact .inl fun z => (List.mem_cons.mp z).elim hj hn
      · exact .inr hn
  · exact .inr ⟨List.mem_cons_of_mem _ hf, r⟩
/-- the flags of a store -/
def afl (fl rd : Fl) (ls : Bool) (sl : List Nat) : Fl := minus (if ls = true then minus fl rd else fl) sl
theorem afl_in {rd : Fl} {ls : Bool} {sl : List Nat} {i : Nat} : i ∈ afl fl rd ls sl ↔ i ∈ fl ∧ i ∉ sl ∧ (ls = true → i ∉ rd) := by
  unfold afl
  cases ls with
  | true => rw [if_pos rfl, minus_mem, minus_mem]; constructor
            · rintro ⟨⟨a, b⟩, c⟩; exact ⟨a, c, fun _ => b⟩
            · rintro ⟨a, b, c⟩; exact ⟨⟨a, c rfl⟩, b⟩
  | false => rw [if_neg (by simp), minus_mem]; constructor
             · rintro ⟨a, b⟩; exact ⟨a, b, fun z => by cases z⟩
             · rintro ⟨a, b, _⟩; exact ⟨a, b⟩
/-- a value that came of an expression that reads the owned slots at rd, rep'd beside what will be owned -/
theorem Post.beside (h : ERO K He S0 Vw fl O σ H ρ) {rd : Fl} {ls : Bool} {sl : List Nat} {fr : Bool} {d : D} {v : V} (p : Post K H (adr (O.filter fun p => (minus fl rd).contains p.1) S0) fr d v H') (hk : rd = [] ∨ ls = true ∨ d.imm = true) :
    Rep K (hide H' (adr (O.filter fun p => (afl fl rd ls sl).contains p.1) S0)) d v := by
  have sub : ∀ p ∈ O.filter (fun p => (afl fl rd ls sl).contains p.1), p ∈ O := fun p hp => (List.mem_filter.mp hp).1
  by_cases hi : d.imm = true
  · exact Rep.imm2 p.rep hi ((h.sok sub).mono p.same)
  · have hk' : rd = [] ∨ ls = true := hk.elim .inl fun z => z.elim .inr fun z => absurd z hi
    refine p.rep.mono (hide_more (adr_sub fun q hq => ?_))
    obtain ⟨q1, q2⟩ := List.mem_filter.mp hq
    have q3 : q.1 ∈ afl fl rd ls sl := by simpa using q2
    obtain ⟨a1, a2, a3⟩ := afl_in.mp q3
    refine List.mem_filter.mpr ⟨q1, ?_⟩
    have : q.1 ∈ minus fl rd := minus_mem.mpr ⟨a1, by
      rcases hk' with z | z
      · rw [z]; simp
      · exact a3 z⟩
    simpa using this
/-- name = value, the value not of its own place -/
theorem ERO.put (h : ERO K He S0 Vw fl O σ H ρ) {rd : Fl} {ls : Bool} {fr : Bool} {d : D} {v : V} {i : Nat} (p : Post K H (adr (O.filter fun p => (minus fl rd).contains p.1) S0) fr d v H') (hk : rd = [] ∨ ls = true ∨ d.imm = true) :
    ERO K He S0 Vw (afl fl rd ls [i]) (O.filter fun p => (afl fl rd ls [i]).contains p.1) (σ.set i (some v)) H' (ρ.set i (some d)) := by
  have r := Post.beside (sl := [i]) h p hk
  have w := (h.weak (afl fl rd ls [i]) fun j hj => (afl_in.mp hj).1).grow p.same
  refine ⟨by simp [w.len], w.same, w.s0, w.own, w.vis, fun j d' e => ?_⟩
  by_cases hj : j = i
  · subst hj
    by_cases hil : j < ρ.length
    · rw [List.getElem?_set_self hil] at e
      cases e
      exact ⟨v, List.getElem?_set_self (by rw [h.len]; exact hil), .inl ⟨.inl fun z => (afl_in.mp z).2.1 (by simp), r⟩⟩
    · rw [List.getElem?_eq_none (by simpa using hil)] at e
      cases e
  · rw [List.getElem?_set_ne (Ne.symm hj)] at e
    obtain ⟨v', e1, r'⟩ := w.rep j d' e
    exact ⟨v', by rw [List.getElem?_set_ne (Ne.symm hj)]; exact e1, r'⟩
/-- name = value -/
theorem ER.asg (h : ERO K He S0 Vw fl O σ H ρ) {rd : Fl} {ls : Bool} {e : CE} {d : D} {v : V} {i : Nat} (p : Post K H (adr (O.filter fun p => (minus fl rd).contains p.1) S0) e.fresh d v H') (hk : keep rd ls e d) :
    ER K He S0 Vw (if e.owns = true then i :: afl fl rd ls [i] else afl fl rd ls [i]) (σ.set i (some v)) H' (ρ.set i (some d)) := by
  by_cases hf : e.owns = true
  · rw [if_pos hf]
    by_cases hc : d.cont = true
    · -- a new list
      obtain ⟨a, o, rfl, hn, e1, r1⟩ := (p.top (CE.owns_fresh hf)).c hc
      by_cases hil : i < ρ.length
      · have w := h.weak (afl fl rd ls [i]) fun j hj => (afl_in.mp hj).1
        have g := w.grow p.same
        have sub : ∀ p ∈ O.filter (fun p => (afl fl rd ls [i]).contains p.1), p ∈ O := fun p hp => (List.mem_filter.mp hp).1
        have hV : Vw a = none := by
          refine h.vis.fr_ a ?_
          unfold hide
          split
          · rfl
          · exact hn
        refine ⟨_, g.fresh (i := i) (a := a) (dc := d) (o := o) (fun z => (afl_in.mp z).2.1 (by simp)) hil (h.same.free hn) (fun q hq e2 => ?_) hV e1 ?_ fun j d' hj e2 => ?_⟩
        · have q2 := h.own.mu q (sub q hq)
          rw [e2, hn] at q2
          exact q2
        · -- its items, beside what is owned
          have hS : SOk H' (a :: adr (O.filter fun p => (afl fl rd ls [i]).contains p.1) S0) := ((h.sok sub).mono p.same).cons (by rw [e1]; exact r1.mut)
          have hk' : (rd = [] ∨ ls = true) ∨ d.flat = true := by
            rcases hk with z | z | z | ⟨_, z⟩
            · exact .inl (.inl z)
            · exact .inl (.inr z)
            · cases d <;> first | (cases hc; done) | (unfold D.imm at z; cases z)
            · exact .inr z
          rcases hk' with hk' | hk'
          · refine r1.mono (hide_more fun b hb => ?_)
            rcases List.mem_cons.mp hb with rfl | hb
            · exact List.mem_cons_self
            · refine List.mem_cons_of_mem _ (adr_sub (fun q hq => ?_) b hb)
              obtain ⟨q1, q2⟩ := List.mem_filter.mp hq
              have q3 : q.1 ∈ afl fl rd ls [i] := by simpa using q2
              obtain ⟨a1, a2, a3⟩ := afl_in.mp q3
              refine List.mem_filter.mpr ⟨q1, ?_⟩
              have : q.1 ∈ minus fl rd := minus_mem.mpr ⟨a1, by
                rcases hk' with z | z
                · rw [z]; simp
                · exact a3 z⟩
              simpa using this
          · exact CRep.imm2 r1 hk' hS
        · have low : ∀ {T : List Addr}, Same (hide H T) (hide H' (a :: T)) := fun {T} => p.same.low hn
          obtain ⟨v', f1, f2⟩ := w.rep j d' e2
          refine ⟨v', f1, ?_⟩
          rcases f2 with ⟨g1, g2⟩ | ⟨g1, b, g2, g3⟩
          · exact .inl ⟨g1, g2.mono low⟩
          · exact .inr ⟨g1, b, g2, g3.mono low fun o e n => p.same.w.at_ _ _ e n⟩
      · -- no such slot
        have w := (h.weak (afl fl rd ls [i]) fun j hj => (afl_in.mp hj).1).grow p.same
        have e1 : σ.set i (some (V.ref a)) = σ := List.set_eq_of_length_le (by rw [h.len]; omega)
        have e2 : ρ.set i (some d) = ρ := List.set_eq_of_length_le (by omega)
        rw [e1, e2]
        exact ⟨_, w.flag fun d e3 => by rw [List.getElem?_eq_none (by omega)] at e3; cases e3⟩
    · have hc' : d.cont = false := by simpa using hc
      have hk' : rd = [] ∨ ls = true ∨ d.imm = true := by
        rcases hk with z | z | z | ⟨_, z⟩
        · exact .inl z
        · exact .inr (.inl z)
        · exact .inr (.inr z)
        · refine .inr (.inr ?_)
          cases d <;> first | exact z | cases hc'
      have w := h.put (i := i) p hk'
      refine ⟨_, w.flag fun d' e1 => ?_⟩
      by_cases hil : i < ρ.length
      · rw [List.getElem?_set_self hil] at e1
        cases e1
        exact hc'
      · rw [List.getElem?_eq_none (by simpa using hil)] at e1
        cases e1
  · rw [if_neg hf]
    have hk' : rd = [] ∨ ls = true ∨ d.imm = true := by
      rcases hk with z | z | z | ⟨z, _⟩
      · exact .inl z
      · exact .inr (.inl z)
      · exact .inr (.inr z)
      · exact absurd z hf
    exact ⟨_, h.put p hk'⟩
/-- an owned container is written -/
theorem ERO.setc (w : ERO K He S0 Vw fl O σ H ρ) {i : Nat} {a : Addr} {d0 d : D} {o0 o : HO} (hi : i ∈ fl) (ha : (i, a) ∈ O) (e : ρ[i]? = some (some d0)) (e1 : σ[i]? = some (some (.ref a))) (e2 : H a = some o0) (r0 : CRep K (hide H (adr O S0)) a d0 o0) (r : CRep K (hide H (adr O S0)) a d o) :
    ERO K He S0 Vw fl O σ (upd H a o) (ρ.set i (some d)) := by
  have hin : a ∈ adr O S0 := List.mem_append_left _ (List.mem_map.mpr ⟨_, ha, rfl⟩)
  have hh : hide (upd H a o) (adr O S0) = hide H (adr O S0) := hide_upd_in hin
  refine ⟨by simp [w.len], w.same.wr (w.own.new _ ha) e2 r0.ntb r0.nc, w.s0, ⟨w.own.sl, w.own.new, fun q hq => ?_, w.own.inj⟩, by rw [hh]; exact w.vis, fun j d' ej => ?_⟩
  · by_cases hq2 : q.2 = a
    · rw [hq2, upd_same]; exact r.mut
    · rw [upd_ne hq2]; exact w.own.mu q hq
  · rw [hh]
    by_cases hj : j = i
    · subst hj
      have hil : j < ρ.length := (List.getElem?_eq_some_iff.mp e).1
      rw [List.getElem?_set_self hil] at ej
      cases ej
      exact ⟨.ref a, e1, .inr ⟨hi, a, ha, rfl, o, upd_same, by rw [hh]; exact r⟩⟩
    · rw [List.getElem?_set_ne (Ne.symm hj)] at ej
      obtain ⟨v', f1, f2⟩ := w.rep j d' ej
      refine ⟨v', f1, ?_⟩
      rcases f2 with f2 | ⟨g1, b, g2, g3⟩
      · exact .inl f2
      · refine .inr ⟨g1, b, g2, ?_⟩
        have hba : b ≠ a := fun z => by
          have := w.own.inj _ g2 _ ha z
          cases this
          exact hj rfl
        exact g3.mono (by rw [hh]; exact Same.refl _) fun o e _ => by rw [upd_ne hba]; exact e
/-- the owned container of a slot -/
theorem ERO.own_at (w : ERO K He S0 Vw fl O σ H ρ) {i : Nat} {d : D} (hi : i ∈ fl) (hc : d.cont = true) (e : ρ[i]? = some (some d)) : ∃ a o, (i, a) ∈ O ∧ σ[i]? = some (some (.ref a)) ∧ H a = some o ∧ CRep K (hide H (adr O S0)) a d o := by
  obtain ⟨v, e1, r⟩ := w.rep i _ e
  rcases r with ⟨z, _⟩ | ⟨_, a, ha, rfl, o, e2, r⟩
  · rcases z with z | z
    · exact absurd hi z
    · rw [hc] at z; cases z
  · exact ⟨a, o, ha, e1, e2, r⟩
theorem ERO.own_lst (w : ERO K He S0 Vw fl O σ H ρ) {i : Nat} {ds : List D} (hi : i ∈ fl) (e : ρ[i]? = some (some (.lst ds))) : ∃ a vs, (i, a) ∈ O ∧ σ[i]? = some (some (.ref a)) ∧ H a = some (.lst vs) ∧ Reps K (hide H (adr O S0)) ds vs := by
  obtain ⟨a, o, h1, h2, h3, vs, rfl, r⟩ := w.own_at hi rfl e
  exact ⟨a, vs, h1, h2, h3, r⟩
theorem ERO.setl (w : ERO K He S0 Vw fl O σ H ρ) {i : Nat} {a : Addr} {ds0 ds : List D} {vs0 vs : List V} (hi : i ∈ fl) (ha : (i, a) ∈ O) (e : ρ[i]? = some (some (.lst ds0))) (e1 : σ[i]? = some (some (.ref a))) (e2 : H a = some (.lst vs0)) (r0 : Reps K (hide H (adr O S0)) ds0 vs0) (r : Reps K (hide H (adr O S0)) ds vs) :
    ERO K He S0 Vw fl O σ (upd H a (.lst vs)) (ρ.set i (some (.lst ds))) := w.setc hi ha e e1 e2 ⟨vs0, rfl, r0⟩ ⟨vs, rfl, r⟩
/-- x.append(v) -/
theorem ERO.app (h : ERO K He S0 Vw fl O σ H ρ) {rd : Fl} {ls : Bool} {fr : Bool} {d : D} {v : V} {i : Nat} {ds : List D} (hi : i ∈ fl) (hir : ls = true → i ∉ rd) (p : Post K H (adr (O.filter fun p => (minus fl rd).contains p.1) S0) fr d v H') (hk : rd = [] ∨ ls = true ∨ d.imm = true)
    (e : ρ[i]? = some (some (.lst ds))) : ∃ a vs, σ[i]? = some (some (.ref a)) ∧ H' a = some (.lst vs) ∧ vs.length = ds.length ∧ ER K He S0 Vw (afl fl rd ls []) σ (upd H' a (.lst (vs ++ [v]))) (ρ.set i (some (.lst (ds ++ [d])))) := by
  have w := (h.weak (afl fl rd ls []) fun j hj => (afl_in.mp hj).1).grow p.same
  have hi' : i ∈ afl fl rd ls [] := afl_in.mpr ⟨hi, by simp, hir⟩
  have r := Post.beside (sl := []) h p hk
  obtain ⟨a, vs, ha, e1, e2, rs⟩ := w.own_lst hi' e
  exact ⟨a, vs, e1, e2, rs.length.symm, _, w.setl hi' ha e e1 e2 rs (rs.append (.one r))⟩
end
end Dl

/-! DlStm: a body's written code does what its core terms say. -/
namespace Dl
open PySem PySem.Spec PyProof.Rows L2
variable [Tbs]
/-- a tuple whose first item, a container, is new -/
def Deep (K : PySem.W.Frag) (H : Hp) (S : List Addr) (d : D) (v : V) (H' : Hp) : Prop := match d with
  | .tup (x :: ds) => x.cont = true → ∃ a u us, v = .ref a ∧ SqT K H' a (u :: us) ∧ TopC K H S x u H' ∧ Reps K (hide H' S) ds us
  | _ => True
theorem Deep.nfc {K : PySem.W.Frag} {H : Hp} {S : List Addr} {d : D} {v : V} {H' : Hp} (h : nfc d = true) : Deep K H S d v H' := by
  unfold Deep
  split
  · rename_i x ds
    intro z
    have h : (!x.cont) = true := h
    rw [z] at h
    cases h
  · trivial
/-- a promise where the first item of the tuple returned is new -/
def spOfP (K : PySem.W.Frag) (mg : Str → Option Value) (sp : Spec) (n : Nat) : Sp := fun vs H Q E => vs.length = n ∧ ∃ S ds, SOk H S ∧ Reps K (hide H S) ds vs ∧
  sp.run ds (fun d => ∀ v H', Post K H S true d v H' → Deep K H S d v H' → Q v H') (fun x => ∀ cls dd H', Sm H H' → XRep K mg x cls dd → E cls dd H')
def FnCP (P : Program) (w : World) (K : PySem.W.Frag) (mg : Str → Option Value) (base : Heap) (k : Nat) (f : Str) (n : Nat) (sp : Spec) : Prop :=
  ∃ (a : Addr) (fd : FuncData) (ps : List Str), mg f = some (.ref a) ∧ PySem.W.keepIn K (.ref a) = true ∧ Binds K fd ps [] ∧ FnOk P w K mg base (L2.CX P w) k a fd ps (spOfP K mg sp n) ∧ ps.length = n
/-- what is known of the wanted ends -/
structure Lk (X : Cx) (W : WX) (He : Hp) (S0 : List Addr) (Vw : Hp) (Ef Lf : Fl) (r : FR) (D : Ends) (P : Pn) : Prop where
  nx : ∀ fl', r = .ok fl' → ∀ ρ σ H, P.nx ρ → ER X.K He S0 Vw fl' σ H ρ → D.nx σ H
  rt : ∀ b d v H', P.rt b d → Post X.K He S0 true d v H' → (b = true → Deep X.K He S0 d v H') → D.rt v H'
  bk : ∀ ρ σ H, P.bk ρ → ER X.K He S0 Vw Lf σ H ρ → D.bk σ H
  ct : ∀ ρ σ H, P.ct ρ → ER X.K He S0 Vw Lf σ H ρ → D.ct σ H
  ex : ∀ ρ x σ H cls dd, P.ex ρ x → ER X.K He S0 Vw Ef σ H ρ → XRep X.K X.mg x cls dd → W cls dd σ H
def tS (X : Cx) (W : WX) (Ef Lf fl : Fl) (r : FR) (F : DEnv → Pn → Prop) : TS := fun D σ H => ∃ He S0 Vw ρ P, ER X.K He S0 Vw fl σ H ρ ∧ F ρ P ∧ Lk X W He S0 Vw Ef Lf r D P
theorem PS.imp {X : Cx} {e : Stmt} {t t' : TS} (h : PS X e t) (i : ∀ D σ H, t' D σ H → t D σ H) : PS X e t' := ⟨fun pins s σ H Q I w => h.run pins s σ H Q I (i _ _ _ w)⟩
theorem PSs.imp {X : Cx} {e : List Stmt} {t t' : TS} (h : PSs X e t) (i : ∀ D σ H, t' D σ H → t D σ H) : PSs X e t' := ⟨fun pins s σ H Q I w => h.run pins s σ H Q I (i _ _ _ w)⟩
theorem ER.vw {K : PySem.W.Frag} {He : Hp} {S0 : List Addr} {Vw Vw' : Hp} {fl : Fl} {σ : L2.St} {H : Hp} {ρ : DEnv} (h : ER K He S0 Vw' fl σ H ρ) (e : Same Vw Vw') : ER K He S0 Vw fl σ H ρ :=
  let ⟨O, q⟩ := h
  ⟨O, q.len, q.same, q.s0, q.own, e.trans q.vis, q.rep⟩
/-- ends known by the flags of one branch -/
theorem Lk.of {X : Cx} {W : WX} {He : Hp} {S0 : List Addr} {Vw : Hp} {Ef Lf : Fl} {r r' : FR} {D : Ends} {P : Pn} (h : Lk X W He S0 Vw Ef Lf r D P) (q : ∀ fl', r' = .ok fl' → ∃ fl, r = .ok fl ∧ ∀ i ∈ fl, i ∈ fl') : Lk X W He S0 Vw Ef Lf r' D P :=
  ⟨fun fl' e ρ σ H p w => let ⟨fl, e1, s⟩ := q fl' e; h.nx fl e1 ρ σ H p (w.weak s), h.rt, h.bk, h.ct, h.ex⟩
theorem join_l {a b : FR} (h : a.join b ≠ .bad) : a ≠ .bad ∧ b ≠ .bad := by
  cases a <;> cases b <;> simp_all [FR.join]
theorem join_okl {a b : FR} (h : b ≠ .bad) {fl' : Fl} (e : a = .ok fl') : ∃ fl, a.join b = .ok fl ∧ ∀ i ∈ fl, i ∈ fl' := by
  subst e
  cases b with
  | bad => exact absurd rfl h
  | dead => exact ⟨fl', rfl, fun _ h => h⟩
  | ok b => exact ⟨meet fl' b, rfl, fun i hi => (meet_mem.mp hi).1⟩
theorem join_okr {a b : FR} (h : a ≠ .bad) {fl' : Fl} (e : b = .ok fl') : ∃ fl, a.join b = .ok fl ∧ ∀ i ∈ fl, i ∈ fl' := by
  subst e
  cases a with
  | bad => exact absurd rfl h
  | dead => exact ⟨fl', rfl, fun _ h => h⟩
  | ok b => exact ⟨meet b fl', rfl, fun i hi => (meet_mem.mp hi).2⟩
/-- the guard of a body -/
structure Gs (X : Cx) (N : List Str) (sc : Scope) (cm : Bool) (W : WX) (k : Nat) : Prop extends Gd X N sc cm W k where
  ps : PassesOwn (model X.prog X.w) X.A X.env X.xe
  fn : ∀ x, locB X.env.scope x = true → X.fn x = true ∨ X.env.scope.names.lookup x = some .local
theorem sw_nc {v : Expr} (h : ncB v = true) {env : Env} {l : Nat} (t : Option Expr) : swapsWith v t l env = pure false := by
  cases v <;> first | (cases h; done) | rfl
theorem sw_val {elt : Expr} {gs : List Comprehension} {scope sc : Scope} {pos py : Pos} {y : Str} {l : Nat} {env : Env} (hs : env.scope = sc) (hk : sc.kind = .function) : swapsWith (.ListComp elt gs scope pos) (some (.Name y py)) l env = pure (swLc sc scope y py pos) := by
  have hb : env.blockKind = .function := by unfold Env.blockKind; rw [hs, hk]; rfl
  have ky : (env.kindOf y == some .local) = decide (sc.names.lookup y = some .local) := by
    unfold Env.kindOf
    rw [hs]
    by_cases e : sc.names.lookup y = some .local
    · rw [e]; rfl
    · rw [decide_eq_false e]
      rw [beq_eq_false_iff_ne]
      exact e
  unfold swapsWith swLc
  simp only [hb, ky]
  rfl
section
variable {K : PySem.W.Frag} {He : Hp} {S0 : List Addr} {Vw : Hp} {fl : Fl} {O : List (Nat × Addr)} {σ : L2.St} {H : Hp} {ρ : DEnv}
theorem ERO.sokF (h : ERO K He S0 Vw fl O σ H ρ) (hid : List Nat) : SOk H (adr (O.filter fun p => hid.contains p.1) S0) := h.sok fun p hp => (List.mem_filter.mp hp).1
theorem ERO.lstAt (h : ERO K He S0 Vw fl O σ H ρ) {i : Nat} (hi : i ∈ fl) {ds : List D} (e : ρ[i]? = some (some (.lst ds))) : ∃ a vs, σ[i]? = some (some (.ref a)) ∧ H a = some (.lst vs) := by
  obtain ⟨a, vs, _, h1, h2, _⟩ := h.own_lst hi e
  exact ⟨a, vs, h1, h2⟩
theorem filter_nil {O : List (Nat × Addr)} : (O.filter fun p => ([] : List Nat).contains p.1) = [] := by
  rw [List.filter_eq_nil_iff]
  intro p _
  simp
theorem ERO.ev0 (h : ERO K He S0 Vw fl O σ H ρ) : EV K S0 [] H σ ρ := by
  have q := h.ev []
  rw [filter_nil] at q
  exact q
theorem ERO.sok0 (h : ERO K He S0 Vw fl O σ H ρ) : SOk H S0 := h.s0.mono h.same
/-- an owned slot's list, left to the caller -/
theorem ERO.topVar (h : ERO K He S0 Vw fl O σ H ρ) {i : Nat} (hi : i ∈ fl) {d : D} (e : ρ[i]? = some (some d)) : ∃ v, σ[i]? = some (some v) ∧ Post K He S0 true d v H := by
  obtain ⟨v, e1, q⟩ := h.rep i d e
  obtain ⟨v', e1', r⟩ := h.ev0.rep i d e (by simp)
  rw [e1] at e1'
  cases e1'
  refine ⟨v, e1, h.same, r, fun _ => ?_⟩
  rcases q with ⟨hc, _⟩ | ⟨_, a, ha, hr⟩
  · rcases hc with hc | hc
    · exact absurd hi hc
    · cases d <;> first | (cases hc; done) | trivial
  · obtain ⟨rfl, o, e2, rs⟩ := hr
    refine Top.of fun _ => ⟨a, o, rfl, h.own.new _ ha, e2, rs.mono (hide_more fun b hb => ?_)⟩
    rcases List.mem_cons.mp hb with rfl | hb
    · exact List.mem_append_left _ (List.mem_map.mpr ⟨_, ha, rfl⟩)
    · exact List.mem_append_right _ hb
theorem Post.nocont {S : List Addr} {fr : Bool} {d : D} {v : V} {H' : Hp} (p : Post K H S fr d v H') (hc : d.cont = false) : Post K H S true d v H' := ⟨p.same, p.rep, fun _ => by cases d <;> first | (cases hc; done) | trivial⟩
theorem DrawsD.mono {Vw' : Hp} {J : It} {ds : List D} (h : DrawsD K Vw J ds) (e : Same Vw Vw') : DrawsD K Vw' J ds :=
  ⟨fun i H sm hi => h.go i H (e.trans sm) hi, fun i H x H' sm y => ⟨(h.yld i H x H' (e.trans sm) y).1, fun d q => ((h.yld i H x H' (e.trans sm) y).2 d q).mono e⟩, fun i H sm hi => h.stop i H (e.trans sm) hi⟩
end
theorem Lk.exE {X : Cx} {W : WX} {He : Hp} {S0 : List Addr} {Vw : Hp} {Ef Lf : Fl} {r : FR} {D : Ends} {P : Pn} (h : Lk X W He S0 Vw Ef Lf r D P) {fl : Fl} {O : List (Nat × Addr)} {σ : L2.St} {H : Hp} {ρ : DEnv} (w : ERO X.K He S0 Vw fl O σ H ρ) (sE : subF Ef fl = true) {x : Xn} (p : P.ex ρ x) :
    ∀ cls dd H', Sm H H' → XRep X.K X.mg x cls dd → W cls dd σ H' := fun cls dd H' sm xr => h.ex ρ x σ H' cls dd p ⟨_, (w.weak Ef (subF_ok sE)).grow sm⟩ xr
end Dl

/-! DlStm2: statements, one kind at a time. -/
namespace Dl
open PySem PySem.Spec PyProof.Rows L2
variable [Tbs]
section
variable {X : Cx} {N : List Str} {sc : Scope} {cm : Bool} {W : WX} {k : Nat} {Ef Lf fl : Fl}
theorem snd1 {e : CE} {v : Expr} {hid : List Nat} (h : okE N sc cm hid e v = true) (G : Gd X N sc cm W k) (nd : e.needs (FC X k) (GC X) (LmOf X k)) : PE X v (tE X.K X.mg W hid e) := ((soundE e (okI_of h) G nd).1 h).1
theorem sndT {e : CE} {v : Expr} {hid : List Nat} (h : okE N sc cm hid e v = true) (G : Gd X N sc cm W k) (nd : e.needs (FC X k) (GC X) (LmOf X k)) : PT X v (tTe X.K X.mg W hid e) := ((soundE e (okI_of h) G nd).1 h).2
/-- name = a comprehension on its own line -/
theorem setLc_D {i : Nat} {y : Str} {py : Pos} {t : CT} {it : CE} {ifs : List CE} {elt : CE} {hid : List Nat} {el : Expr} {gs : List Comprehension} {scope : Scope} {pos spos : Pos} (G : Gs X N sc cm W k)
    (h : okE N sc cm hid (.lc t it ifs elt) (.ListComp el gs scope pos) = true) (nd : (CE.lc t it ifs elt).needs (FC X k) (GC X) (LmOf X k)) (hy : N[i]? = some y) (hk : sc.kind = .function) (sw : swLc sc scope y py pos = true) :
    PS X (.Assign [.Name y py] (.ListComp el gs scope pos) spos) (tAsg (tE X.K X.mg W hid (.lc t it ifs elt)) (gName i)) := by
  unfold okE at h
  split at h
  · rename_i z
    cases z
    rename_i tg iter fs
    obtain ⟨h, c8⟩ := and2 h
    obtain ⟨h, c7⟩ := and2 h
    obtain ⟨h, c6⟩ := and2 h
    obtain ⟨h, c5⟩ := and2 h
    obtain ⟨h, c4⟩ := and2 h
    obtain ⟨h, c3⟩ := and2 h
    obtain ⟨c1, c2⟩ := and2 h
    unfold CE.needs at nd
    have G0 := G.toGd
    obtain ⟨hc, hr⟩ := G0.cm c1
    have hi := (soundE it c2 G0 nd.1).2 tg
    have hsl := okT_slots t tg c5
    have eo : (ownOf N t).map (·.2) = t.slots := own_snd hsl
    have hss : ∀ x, foldedSetIterable iter X.env x = pure x := by
      intro x
      cases iter <;> first | rfl | (cases it <;> simp [okI, okE] at c2)
    have hyl : sc.names.lookup y = some .local := by
      unfold swLc at sw
      exact of_decide_eq_true (and2 (and2 sw).1).1
    have key := ps_setLc (pos := pos) (spos := spos) (py := py) (elt := el) (te := tE X.K X.mg W0 hid elt) (g := gD X.K t) (tt := tIs X.K X.mg W0 hid ifs) hc (by rw [G0.nn]; exact G0.nd) (by rw [G0.nn]; exact hy) (by rw [G0.sc]; exact hyl)
      (by rw [sw_val G0.sc hk, sw]) hi (own := ownOf N t) (blkOk_by (by rw [G0.nn, G0.sc]; exact c3))
      (fun s H C cl fp => pg_D (G0.blk s H scope C cl fp).nn G0.nd (G0.blk s H scope C cl fp).sc hc (fun x _ h2 => fn_blk G0.sc s H scope C cl fp x h2) t tg c5)
      (fun s H C cl fp => pts_in (ifs := ifs) (fs := fs) (mg := X.mg) (W := W0) (hid := hid) (by
        cases ifs with
        | nil =>
          unfold okEs at c7
          rw [List.isEmpty_iff] at c7
          exact .inl ⟨rfl, c7⟩
        | cons c cs =>
          cases fs with
          | nil => unfold okEs at c7; cases c7
          | cons f fs =>
            unfold okEs at c7
            obtain ⟨k1, k2⟩ := and2 c7
            have z := of_decide_eq_true c6
            have e1 : fs = [] := by
              cases fs with
              | nil => rfl
              | cons _ _ => simp at z
            subst e1
            have e2 : cs = [] := by
              have := okEs_len k2
              simpa using this
            subst e2
            have nd2 := nd.2.1
            unfold CE.needsL at nd2
            exact .inr ⟨c, f, rfl, rfl, sndT k1 (G0.blk s H scope C cl fp) nd2.1⟩))
      (fun s H C cl fp => snd1 c8 (G0.blk s H scope C cl fp) nd.2.2) hss
    rw [eo] at key
    exact PS.imp key fun D σ H w => lc_in w
  · cases h
/-- name = a comprehension of two clauses on its own line -/
theorem setLc2_D {i : Nat} {y : Str} {py : Pos} {t t2 : CT} {it it2 : CE} {ifs : List CE} {elt : CE} {hid : List Nat} {el : Expr} {gs : List Comprehension} {scope : Scope} {pos spos : Pos} (G : Gs X N sc cm W k)
    (h : okE N sc cm hid (.lc2 t it t2 it2 ifs elt) (.ListComp el gs scope pos) = true) (nd : (CE.lc2 t it t2 it2 ifs elt).needs (FC X k) (GC X) (LmOf X k)) (hy : N[i]? = some y) (hk : sc.kind = .function) (sw : swLc sc scope y py pos = true) :
    PS X (.Assign [.Name y py] (.ListComp el gs scope pos) spos) (tAsg (tE X.K X.mg W hid (.lc2 t it t2 it2 ifs elt)) (gName i)) := by
  unfold okE at h
  split at h
  · rename_i z
    cases z
    rename_i tg iter tg2 iter2 fs
    obtain ⟨h, c10⟩ := and2 h
    obtain ⟨h, c9⟩ := and2 h
    obtain ⟨h, c8⟩ := and2 h
    obtain ⟨h, c7⟩ := and2 h
    obtain ⟨h, c6⟩ := and2 h
    obtain ⟨h, c5⟩ := and2 h
    obtain ⟨h, c4⟩ := and2 h
    obtain ⟨h, c3⟩ := and2 h
    obtain ⟨c1, c2⟩ := and2 h
    unfold CE.needs at nd
    have G0 := G.toGd
    obtain ⟨hc, hr⟩ := G0.cm c1
    have hi := (soundE it c2 G0 nd.1).2 tg
    have hsl := okT_slots t tg c5
    have hsl2 := okT_slots t2 tg2 c6
    have eo : (ownOf N t ++ ownOf N t2).map (·.2) = t.slots ++ t2.slots := by
      rw [List.map_append]
      exact congr (congrArg _ (own_snd hsl)) (own_snd hsl2)
    have hss : ∀ x, foldedSetIterable iter X.env x = pure x := by
      intro x
      cases iter <;> first | rfl | (cases it <;> simp [okI, okE] at c2)
    have hss2 : ∀ env x, foldedSetIterable iter2 env x = pure x := by
      intro env x
      cases iter2 <;> first | rfl | (cases it2 <;> simp [okI, okE] at c7)
    have hyl : sc.names.lookup y = some .local := by
      unfold swLc at sw
      exact of_decide_eq_true (and2 (and2 sw).1).1
    have key := ps_setLc2 (pos := pos) (spos := spos) (py := py) (elt := el) (te := tE X.K X.mg W0 hid elt) (g := gD X.K t) (tt := tYes) (g1 := gD X.K t2) (tt1 := tIs X.K X.mg W0 hid ifs) (wi1 := iW X.K X.mg W0 hid (wpE it2)) (vs1 := t2.slots) hc (by rw [G0.nn]; exact G0.nd) (by rw [G0.nn]; exact hy) (by rw [G0.sc]; exact hyl)
      (by rw [sw_val G0.sc hk, sw]) hi (own := ownOf N t ++ ownOf N t2) (blkOk_by (by rw [G0.nn, G0.sc]; exact c3))
      (by rw [eo]; exact fun i hi => List.mem_append_right _ hi)
      (fun s H C cl fp => pg_D (G0.blk s H scope C cl fp).nn G0.nd (G0.blk s H scope C cl fp).sc hc (fun x _ h2 => fn_blk G0.sc s H scope C cl fp x h2) t tg c5)
      (fun s H C cl fp => pts_nil)
      (fun s H C cl fp => (soundE it2 c7 (G0.blk s H scope C cl fp) nd.2.1).2 tg2)
      (fun s H C cl fp => pg_D (G0.blk s H scope C cl fp).nn G0.nd (G0.blk s H scope C cl fp).sc hc (fun x _ h2 => fn_blk G0.sc s H scope C cl fp x h2) t2 tg2 c6)
      (fun s H C cl fp => pts_in (ifs := ifs) (fs := fs) (mg := X.mg) (W := W0) (hid := hid) (by
        cases ifs with
        | nil =>
          unfold okEs at c9
          rw [List.isEmpty_iff] at c9
          exact .inl ⟨rfl, c9⟩
        | cons c cs =>
          cases fs with
          | nil => unfold okEs at c9; cases c9
          | cons f fs =>
            unfold okEs at c9
            obtain ⟨k1, k2⟩ := and2 c9
            have z := of_decide_eq_true c8
            have e1 : fs = [] := by
              cases fs with
              | nil => rfl
              | cons _ _ => simp at z
            subst e1
            have e2 : cs = [] := by
              have := okEs_len k2
              simpa using this
            subst e2
            have nd2 := nd.2.2.1
            unfold CE.needsL at nd2
            exact .inr ⟨c, f, rfl, rfl, sndT k1 (G0.blk s H scope C cl fp) nd2.1⟩))
      (fun s H C cl fp => snd1 c10 (G0.blk s H scope C cl fp) nd.2.2.2) hss hss2
    rw [eo] at key
    exact PS.imp key fun D σ H w => lc2_in w
  · cases h
theorem asg_D {i : Nat} {e : CE} {rd : List Nat} {ls : Bool} {s : Stmt} {r : FR} (G : Gs X N sc cm W k) (nd : e.needs (FC X k) (GC X) (LmOf X k)) (h : chS N sc cm Ef (.asg i e rd ls) s Lf fl = r) (hr : r ≠ .bad) : PS X s (tS X W Ef Lf fl r (wpS (.asg i e rd ls))) := by
  unfold chS at h
  split at h
  · rename_i x px v pos
    split at h
    · rename_i hc
      obtain ⟨hc, c6⟩ := and2 hc
      obtain ⟨hc, c5⟩ := and2 hc
      obtain ⟨hc, c4⟩ := and2 hc
      obtain ⟨hc, c3⟩ := and2 hc
      obtain ⟨c1, c2⟩ := and2 hc
      have c5 := okXE c5
      have c1 := of_decide_eq_true c1
      have key : ∀ D σ H, tS X W Ef Lf fl r (wpS (.asg i e rd ls)) D σ H → tAsg (tE X.K X.mg W (minus fl rd) e) (gName i) D σ H := by
        rintro D σ H ⟨He, S0, Vw, ρ, P, ⟨O, w⟩, q, L⟩
        unfold wpS at q
        refine tE_in (w.sokF _) (w.ev _) q (fun d v H' ⟨hk, q⟩ p => ?_) fun x cls dd H' e sm xr => L.exE w c3 e cls dd H' sm xr
        refine L.nx _ ?_ _ _ _ q (ER.asg w p hk)
        rw [← h]
        unfold afl
        split <;> rfl
      have loc : Loc X.env.scope x := by
        have := lookB c2
        rw [← G.sc] at this
        exact this
      have fn : X.fn x = true ∨ X.env.scope.names.lookup x = some .local := G.fn x (by rw [G.sc]; exact c2)
      by_cases nc : ncB v = true
      · exact PS.imp (ps_set (by rw [G.nn]; exact G.nd) (by rw [G.nn]; exact c1) loc (snd1 c5 G.toGd nd) (sw_nc nc _) fn) key
      · cases e <;> first | (simp [nc, isLcE] at c6; done) | skip
        case lc t it ifs elt =>
          cases v <;> first | (exact absurd rfl nc) | (simp [okE] at c5; done) | skip
          rename_i el gs scope p
          refine ⟨fun pins s σ H D I w => ?_⟩
          have hk : sc.kind = .function := by rw [← G.sc]; exact I.ok.kind
          cases sw : swLc sc scope x px p with
          | true => exact (PS.imp (setLc_D (py := px) (spos := pos) G c5 nd c1 hk sw) key).run pins s σ H D I w
          | false => exact (PS.imp (ps_set (pos := pos) (pos' := px) (by rw [G.nn]; exact G.nd) (by rw [G.nn]; exact c1) loc (snd1 c5 G.toGd nd) (by rw [sw_val G.sc hk, sw]) fn) key).run pins s σ H D I w
        case lc2 t it t2 it2 ifs elt =>
          cases v <;> first | (exact absurd rfl nc) | (simp [okE] at c5; done) | skip
          rename_i el gs scope p
          refine ⟨fun pins s σ H D I w => ?_⟩
          have hk : sc.kind = .function := by rw [← G.sc]; exact I.ok.kind
          cases sw : swLc sc scope x px p with
          | true => exact (PS.imp (setLc2_D (py := px) (spos := pos) G c5 nd c1 hk sw) key).run pins s σ H D I w
          | false => exact (PS.imp (ps_set (pos := pos) (pos' := px) (by rw [G.nn]; exact G.nd) (by rw [G.nn]; exact c1) loc (snd1 c5 G.toGd nd) (by rw [sw_val G.sc hk, sw]) fn) key).run pins s σ H D I w
    · exact absurd h.symm hr
  · exact absurd h.symm hr
theorem asgT_D {t : CT} {e : CE} {rd : List Nat} {ls : Bool} {s : Stmt} {r : FR} (G : Gs X N sc cm W k) (nd : e.needs (FC X k) (GC X) (LmOf X k)) (h : chS N sc cm Ef (.asgT t e rd ls) s Lf fl = r) (hr : r ≠ .bad) : PS X s (tS X W Ef Lf fl r (wpS (.asgT t e rd ls))) := by
  unfold chS at h
  split at h
  · rename_i es kk pt v pos
    split at h
    · rename_i hc
      obtain ⟨hc, c7⟩ := and2 hc
      obtain ⟨hc, c6⟩ := and2 hc
      obtain ⟨hc, c5⟩ := and2 hc
      obtain ⟨hc, c4⟩ := and2 hc
      obtain ⟨hc, c3⟩ := and2 hc
      obtain ⟨c1, c2⟩ := and2 hc
      have c5 := okXE c5
      obtain ⟨calm, _⟩ := G.cm c1
      have hg : PG X (.Tuple es kk pt) (gD X.K t) := pg_D G.nn G.nd G.sc calm (fun x h1 _ => G.fn x (by rw [G.sc]; exact h1)) t _ c2
      refine PS.imp (ps_asg (snd1 c5 G.toGd nd) hg (hs := show swapsWith v (some (.Tuple es kk pt)) pos.line X.env = pure false from sw_nc c6 _) (hw := swNone_ok c7)) ?_
      rintro D σ H ⟨He, S0, Vw, ρ, P, ⟨O, w⟩, q, L⟩
      unfold wpS at q
      refine tE_in (w.sokF _) (w.ev _) q (fun d v H' ⟨hk, ρ', ha, q⟩ p => ?_) fun x cls dd H' e sm xr => L.exE w c3 e cls dd H' sm xr
      have rp := Post.beside (sl := t.slots) w p hk
      refine ⟨_, d, ρ, ρ', rp, ha, w.len, fun σ' a => L.nx _ h.symm _ _ _ q ⟨_, (w.grow p.same).store (sl := t.slots) (fl' := afl fl rd ls t.slots) (fun i hi => ⟨(afl_in.mp hi).1, (afl_in.mp hi).2.1⟩) a.len a.lenr a.out a.inn⟩⟩
    · exact absurd h.symm hr
  · exact absurd h.symm hr
theorem par_D {i j : Nat} {a b : CE} {s : Stmt} {r : FR} (G : Gs X N sc cm W k) (nd : a.needs (FC X k) (GC X) (LmOf X k) ∧ b.needs (FC X k) (GC X) (LmOf X k)) (h : chS N sc cm Ef (.par i j a b) s Lf fl = r) (hr : r ≠ .bad) : PS X s (tS X W Ef Lf fl r (wpS (.par i j a b))) := by
  unfold chS at h
  split at h
  · rename_i x px y py k1 p1 u v k2 p2 pos
    split at h
    · rename_i hc
      obtain ⟨hc, c8⟩ := and2 hc
      obtain ⟨hc, c7⟩ := and2 hc
      obtain ⟨hc, c6⟩ := and2 hc
      obtain ⟨hc, c5⟩ := and2 hc
      obtain ⟨hc, c4⟩ := and2 hc
      obtain ⟨hc, c3⟩ := and2 hc
      obtain ⟨c1, c2⟩ := and2 hc
      have c7 := okXE c7
      have c8 := okXE c8
      obtain ⟨calm, _⟩ := G.cm c1
      have c2 := of_decide_eq_true c2
      have c3 := of_decide_eq_true c3
      have c4 := of_decide_eq_true c4
      have hA : PA X [u, v] (tL X.K X.mg W fl [a, b]) := soundEs [a, b] (by simp [okEs, c7, c8]) G.toGd (by simp only [CE.needsL]; exact ⟨nd.1, nd.2, trivial⟩)
      have l1 : X.env.scope.names.lookup x = some .local := by
        unfold swTwo at c5
        rw [G.sc]
        exact of_decide_eq_true (and2 (and2 (and2 (and2 (and2 (and2 (and2 c5).1).1).1).1).1).1).1
      have l2 : X.env.scope.names.lookup y = some .local := by
        unfold swTwo at c5
        rw [G.sc]
        exact of_decide_eq_true (and2 (and2 (and2 (and2 (and2 (and2 (and2 c5).1).1).1).1).1).1).2
      refine ⟨fun pins s σ H D I w => ?_⟩
      have hb : X.env.blockKind = .function := by unfold Env.blockKind; rw [I.ok.kind]; rfl
      refine (PS.imp (ps_par calm (by rw [G.nn]; exact G.nd) (by rw [G.nn]; exact c2) (by rw [G.nn]; exact c3) c4 l1 l2 hA (swTwo_ok G.sc hb c5)) ?_).run pins s σ H D I w
      rintro D σ H ⟨He, S0, Vw, ρ, P, ⟨O, w⟩, q, L⟩
      unfold wpS at q
      have q' : wpEs [a, b] ρ (fun ds => ∃ x y, ds = [x, y] ∧ P.nx ((ρ.set i (some x)).set j (some y))) (P.ex ρ) := by
        simp only [wpEs]
        exact wpE_mono a q (fun x q => wpE_mono b q (fun y q => ⟨x, y, rfl, q⟩) fun _ q => q) fun _ q => q
      refine tL_in (w.sokF _) (w.ev _) q' (fun ds vs H' ⟨dx, dy, e, q⟩ sm rp => ?_) fun x cls dd H' e sm xr => L.exE w c6 e cls dd H' sm xr
      subst e
      obtain ⟨vx, vy, rfl, r1, r2⟩ := reps2 rp
      refine ⟨vx, vy, rfl, L.nx _ h.symm _ _ _ q ⟨_, (w.grow sm).store (sl := [i, j]) (fl' := minus fl [i, j]) (fun i hi => minus_mem.mp hi) (by simp) (by simp) (fun m hm => ?_) fun m d hm e => ?_⟩⟩
      · simp only [List.mem_cons, List.not_mem_nil, or_false, not_or] at hm
        rw [List.getElem?_set_ne (Ne.symm hm.2), List.getElem?_set_ne (Ne.symm hm.1), List.getElem?_set_ne (Ne.symm hm.2), List.getElem?_set_ne (Ne.symm hm.1)]
        exact ⟨rfl, rfl⟩
      · have hsub : ∀ b ∈ adr (O.filter fun p => (minus fl [i, j]).contains p.1) S0, b ∈ adr (O.filter fun p => fl.contains p.1) S0 := adr_sub fun p hp => by
          obtain ⟨p1, p2⟩ := List.mem_filter.mp hp
          refine List.mem_filter.mpr ⟨p1, ?_⟩
          have : p.1 ∈ minus fl [i, j] := by simpa using p2
          simpa using (minus_mem.mp this).1
        have ml : m < ρ.length := by
          by_cases z : m < ρ.length
          · exact z
          · rw [List.getElem?_eq_none (by simpa using z)] at e; cases e
        have ml2 : m < σ.length := by rw [w.len]; exact ml
        by_cases hj : m = j
        · subst hj
          rw [List.getElem?_set_self (by simpa using ml)] at e
          cases e
          exact ⟨vy, List.getElem?_set_self (by simpa using ml2), r2.mono (hide_more hsub)⟩
        · have hi : m = i := by
            rcases List.mem_cons.mp hm with z | z
            · exact z
            · exact absurd (by simpa using z) hj
          subst hi
          rw [List.getElem?_set_ne (Ne.symm hj), List.getElem?_set_self ml] at e
          cases e
          exact ⟨vx, by rw [List.getElem?_set_ne (Ne.symm hj), List.getElem?_set_self ml2], r1.mono (hide_more hsub)⟩
    · exact absurd h.symm hr
  · exact absurd h.symm hr
theorem deep_inv {e : CE} (h : e.deep = true) : ∃ e0 es, e = .tup (e0 :: es) ∧ e0.owns = true := by
  unfold CE.deep at h
  split at h
  · exact ⟨_, _, rfl, h⟩
  · cases h
theorem drop_D {e : CE} {s : Stmt} {r : FR} (G : Gs X N sc cm W k) (nd : e.needs (FC X k) (GC X) (LmOf X k)) (h : chS N sc cm Ef (.drop e) s Lf fl = r) (hr : r ≠ .bad) : PS X s (tS X W Ef Lf fl r (wpS (.drop e))) := by
  unfold chS at h
  split at h
  · rename_i v pos
    split at h
    · rename_i hc
      obtain ⟨hc, c3⟩ := and2 hc
      obtain ⟨c1, c2⟩ := and2 hc
      have c2 := okXE c2
      refine PS.imp (ps_expr (snd1 c2 G.toGd nd) (sw_nc c3 _)) ?_
      rintro D σ H ⟨He, S0, Vw, ρ, P, ⟨O, w⟩, q, L⟩
      unfold wpS at q
      exact tE_in (w.sokF _) (w.ev _) q (fun d v H' q p => L.nx _ h.symm _ _ _ q ⟨_, w.grow p.same⟩) fun x cls dd H' e sm xr => L.exE w c1 e cls dd H' sm xr
    · exact absurd h.symm hr
  · exact absurd h.symm hr
theorem ret_D {e : CE} {fr : Bool} {s : Stmt} {r : FR} (G : Gs X N sc cm W k) (nd : e.needs (FC X k) (GC X) (LmOf X k)) (h : chS N sc cm Ef (.ret e fr) s Lf fl = r) (hr : r ≠ .bad) : PS X s (tS X W Ef Lf fl r (wpS (.ret e fr))) := by
  unfold chS at h
  split at h
  · rename_i v pos
    split at h
    · rename_i hc
      obtain ⟨hc, c3⟩ := and2 hc
      obtain ⟨c1, c2⟩ := and2 hc
      have c2 := okXE c2
      by_cases hv : fr = true ∧ e.fresh = false
      · -- an owned name
        obtain ⟨hf, he⟩ := hv
        rw [hf, he] at c3
        have c3 : isVarIn fl e = true := by simpa using c3
        cases e with
        | var i =>
          have c3 : i ∈ fl := by simpa [isVarIn] using c3
          unfold okE at c2
          split at c2
          · rename_i x p _ _
            obtain ⟨c2, d5⟩ := and2 c2
            obtain ⟨c2, d4⟩ := and2 c2
            obtain ⟨c2, d3⟩ := and2 c2
            obtain ⟨d1, d2⟩ := and2 c2
            have d1 := of_decide_eq_true d1
            have vis : Vis X.env.scope x := by
              have := lookV d2
              rw [← G.sc] at this
              exact this
            refine PS.imp (ps_ret (pe_var (i := i) (by rw [G.nn]; exact d1) vis (by simpa using d4) (by simpa using d5))) ?_
            rintro D σ H ⟨He, S0, Vw, ρ, P, ⟨O, w⟩, q, L⟩
            unfold wpS wpE at q
            obtain ⟨d, e1, _, q⟩ := q
            obtain ⟨v, e2, p⟩ := w.topVar c3 e1
            exact ⟨v, e2, L.rt _ _ _ _ q p fun z => by cases z⟩
          · cases c2
        | _ => cases c3
      · by_cases hdp : e.deep = true
        · -- a tuple whose first item is new
          obtain ⟨e0, es, rfl, how⟩ := deep_inv hdp
          · unfold okE at c2
            split at c2
            · rename_i vs _ _ _ _
              cases vs with
              | nil => unfold okEs at c2; cases c2
              | cons v0 vs =>
                unfold okEs at c2
                obtain ⟨k1, k2⟩ := and2 c2
                unfold CE.needs at nd
                unfold CE.needsL at nd
                refine PS.imp (ps_ret (pe_tup (pa_cons (snd1 k1 G.toGd nd.1) (soundEs es k2 G.toGd nd.2) (star_of (okE_pl k1) _ _)))) ?_
                rintro D σ H ⟨He, S0, Vw, ρ, P, ⟨O, w⟩, q, L⟩
                unfold wpS wpE wpEs at q
                refine tE_in w.sok0 w.ev0 q (fun d v H1 q p => tL_in (w.sok0.mono p.same) (w.ev0.mono p.same) q (fun ds vs H2 ⟨z, _, q⟩ sm rp => ⟨?_, fun a ha => ?_⟩) fun x cls dd H' e sm xr => L.exE w c1 e cls dd H' (p.same.trans sm) xr) fun x cls dd H' e sm xr => L.exE w c1 e cls dd H' sm xr
                · have e1 := rp.length
                  rw [← szl_eq, List.length_cons, ← e1]
                  exact z
                · have hS2 := (w.sok0.mono p.same).mono sm
                  have rr : Reps X.K (hide H2 S0) (d :: ds) (v :: vs) := .cons (p.rep.mono sm.hide) rp
                  have pt := (post_tup (fr := false) hS2 rr ha).trans ((w.same.trans p.same).trans sm)
                  refine L.rt _ _ _ _ q (pt.nocont rfl) fun _ => ?_
                  intro hc
                  have sm3 : Sm H2 (upd H2 a (.tup (v :: vs))) := same_new ha
                  refine ⟨a, v, vs, rfl, .inl (.inl upd_same), ?_, rp.mono sm3.hide⟩
                  obtain ⟨b, o, f1, f2, f3, f4⟩ := (p.top (CE.owns_fresh how)).c hc
                  exact ⟨b, o, f1, w.same.free f2, sm3.at_ (sm.at_ f3 f4.ntb) f4.ntb, f4.mono ((sm.trans sm3).hide)⟩
            · cases c2
        · refine PS.imp (ps_ret (snd1 c2 G.toGd nd)) ?_
          rintro D σ H ⟨He, S0, Vw, ρ, P, ⟨O, w⟩, q, L⟩
          unfold wpS at q
          refine tE_in w.sok0 w.ev0 q (fun d v H' ⟨hc, q⟩ p => L.rt _ _ _ _ q ?_ fun z => absurd z hdp) fun x cls dd H' e sm xr => L.exE w c1 e cls dd H' sm xr
          have p' := p.trans w.same
          by_cases he : e.fresh = true
          · rw [he] at p'; exact p'
          · have he' : e.fresh = false := by simpa using he
            rcases hc with z | z
            · exact absurd ⟨z, he'⟩ hv
            · exact p'.nocont z
    · exact absurd h.symm hr
  · exact absurd h.symm hr
theorem app_D {i : Nat} {e : CE} {rd : List Nat} {ls : Bool} {s : Stmt} {r : FR} (G : Gs X N sc cm W k) (nd : e.needs (FC X k) (GC X) (LmOf X k)) (h : chS N sc cm Ef (.app i e rd ls) s Lf fl = r) (hr : r ≠ .bad) : PS X s (tS X W Ef Lf fl r (wpS (.app i e rd ls))) := by
  unfold chS at h
  split at h
  · rename_i x px m ap v cp pos
    split at h
    · rename_i hc
      obtain ⟨hc, c10⟩ := and2 hc
      obtain ⟨hc, c9⟩ := and2 hc
      obtain ⟨hc, c8⟩ := and2 hc
      obtain ⟨hc, c7⟩ := and2 hc
      obtain ⟨hc, c6⟩ := and2 hc
      obtain ⟨hc, c5⟩ := and2 hc
      obtain ⟨hc, c4⟩ := and2 hc
      obtain ⟨hc, c3⟩ := and2 hc
      obtain ⟨hc, c2⟩ := and2 hc
      obtain ⟨c0, c1⟩ := and2 hc
      have c10 := okXE c10
      have c0 := of_decide_eq_true c0
      subst c0
      have c2 := of_decide_eq_true c2
      have c6 : i ∈ fl := by simpa using c6
      have vis : Vis X.env.scope x := by
        have := lookV c3
        rw [← G.sc] at this
        exact this
      have hA : PA X [v] (tL X.K X.mg W (minus fl rd) [e]) := soundEs [e] (by simp [okEs, c10]) G.toGd (by simp only [CE.needsL]; exact ⟨nd, trivial⟩)
      have hV : PE X (.Name x px) (tVar i) := pe_var (i := i) (by rw [G.nn]; exact c2) vis (by simpa using c4) (by simpa using c5)
      have st := star_of (okE_pl c10) [] X.env
      refine PS.imp (ps_expr (pe_bm (apos := ap) (cpos := cp) PySem.F.plainAttrs_list PySem.F.slot_list_append PySem.F.type_list_append mt_append hV hA rfl (by rw [st]; rfl) c1 st) (by rfl)) ?_
      rintro D σ H ⟨He, S0, Vw, ρ, P, ⟨O, w⟩, q, L⟩
      unfold wpS at q
      obtain ⟨ds, e1, hz, q⟩ := q
      obtain ⟨a, vs, f1, f2⟩ := w.lstAt c6 e1
      refine ⟨.ref a, f1, .inl ⟨rfl, vs, .inl (.inl f2)⟩, ?_⟩
      have q' : wpEs [e] ρ (fun xs => ∃ d, xs = [d] ∧ (rd = [] ∨ ls = true ∨ d.imm = true) ∧ P.nx (ρ.set i (some (.lst (ds ++ [d]))))) (P.ex ρ) := by
        simp only [wpEs]
        exact wpE_mono e q (fun x q => ⟨x, rfl, q⟩) fun _ q => q
      refine tL_in (w.sokF _) (w.ev _) q' (fun xs us H' ⟨d, ee, hk, q⟩ sm rp => ?_) fun x cls dd H' e sm xr => L.exE w c7 e cls dd H' sm xr
      subst ee
      obtain ⟨u, rfl, rv⟩ := reps1 rp
      have hir : ls = true → i ∉ rd := fun z => by
        rw [z] at c9
        simpa using c9
      obtain ⟨a', vs', g1, g2, g3, g4⟩ := ERO.app w c6 hir (p := ⟨sm, rv, fun z => Bool.noConfusion z⟩) (fr := false) hk e1
      rw [f1] at g1
      cases g1
      refine ⟨a, vs', u, rfl, rfl, g2, ?_, L.nx _ h.symm _ _ _ q (g4.weak fun j hj => afl_in.mpr ?_)⟩
      · rw [g3]; exact hz
      · cases ls with
        | true =>
          rw [if_pos rfl] at hj
          exact ⟨(minus_mem.mp hj).1, by simp, fun _ => (minus_mem.mp hj).2⟩
        | false =>
          rw [if_neg (by simp)] at hj
          exact ⟨hj, by simp, fun z => by cases z⟩
    · exact absurd h.symm hr
  · exact absurd h.symm hr
theorem clr_D {i : Nat} {s : Stmt} {r : FR} (G : Gs X N sc cm W k) (h : chS N sc cm Ef (.clr i) s Lf fl = r) (hr : r ≠ .bad) : PS X s (tS X W Ef Lf fl r (wpS (.clr i))) := by
  unfold chS at h
  split at h
  · rename_i x px m ap cp pos
    split at h
    · rename_i hc
      obtain ⟨hc, c6⟩ := and2 hc
      obtain ⟨hc, c5⟩ := and2 hc
      obtain ⟨hc, c4⟩ := and2 hc
      obtain ⟨hc, c3⟩ := and2 hc
      obtain ⟨hc, c2⟩ := and2 hc
      obtain ⟨c0, c1⟩ := and2 hc
      have c0 := of_decide_eq_true c0
      subst c0
      have c2 := of_decide_eq_true c2
      have c6 : i ∈ fl := by simpa using c6
      have vis : Vis X.env.scope x := by
        have := lookV c3
        rw [← G.sc] at this
        exact this
      have hV : PE X (.Name x px) (tVar i) := pe_var (i := i) (by rw [G.nn]; exact c2) vis (by simpa using c4) (by simpa using c5)
      refine PS.imp (ps_expr (pe_bm0 (apos := ap) (cpos := cp) PySem.F.plainAttrs_list PySem.F.slot_list_clear PySem.F.type_list_clear mt_clear hV rfl c1) (by rfl)) ?_
      rintro D σ H ⟨He, S0, Vw, ρ, P, ⟨O, w⟩, q, L⟩
      unfold wpS at q
      obtain ⟨ds, e1, q⟩ := q
      obtain ⟨a, vs, ha, f1, f2, r1⟩ := w.own_lst c6 e1
      exact ⟨.ref a, f1, .inl ⟨rfl, vs, .inl (.inl f2)⟩, a, vs, rfl, rfl, f2, L.nx _ h.symm _ _ _ q ⟨O, w.setl c6 ha e1 f1 f2 r1 .nil⟩⟩
    · exact absurd h.symm hr
  · exact absurd h.symm hr
theorem ext_D {i j : Nat} {s : Stmt} {r : FR} (G : Gs X N sc cm W k) (h : chS N sc cm Ef (.ext i j) s Lf fl = r) (hr : r ≠ .bad) : PS X s (tS X W Ef Lf fl r (wpS (.ext i j))) := by
  unfold chS at h
  split at h
  · rename_i x px m ap y py cp pos
    split at h
    · rename_i hc
      obtain ⟨hc, d6⟩ := and2 hc
      obtain ⟨hc, d5⟩ := and2 hc
      obtain ⟨hc, d4⟩ := and2 hc
      obtain ⟨hc, d3⟩ := and2 hc
      obtain ⟨hc, d2⟩ := and2 hc
      obtain ⟨hc, d1⟩ := and2 hc
      obtain ⟨hc, c6⟩ := and2 hc
      obtain ⟨hc, c5⟩ := and2 hc
      obtain ⟨hc, c4⟩ := and2 hc
      obtain ⟨hc, c3⟩ := and2 hc
      obtain ⟨hc, c2⟩ := and2 hc
      obtain ⟨c0, c1⟩ := and2 hc
      have c0 := of_decide_eq_true c0
      subst c0
      have c2 := of_decide_eq_true c2
      have d1 := of_decide_eq_true d1
      have c6 : i ∈ fl := by simpa using c6
      have d5 : j ∈ fl := by simpa using d5
      have hij : i ≠ j := of_decide_eq_true d6
      have vis : ∀ {x : Str}, visB sc x = true → Vis X.env.scope x := fun {x} c => by
        have := lookV c
        rw [← G.sc] at this
        exact this
      have hV : PE X (.Name x px) (tVar i) := pe_var (i := i) (by rw [G.nn]; exact c2) (vis c3) (by simpa using c4) (by simpa using c5)
      have hU : PE X (.Name y py) (tVar j) := pe_var (i := j) (by rw [G.nn]; exact d1) (vis d2) (by simpa using d3) (by simpa using d4)
      refine PS.imp (ps_expr (pe_bm (apos := ap) (cpos := cp) PySem.F.plainAttrs_list PySem.F.slot_list_extend PySem.F.type_list_extend mt_extend hV (pa_cons hU pa_nil rfl) rfl rfl c1 rfl) (by rfl)) ?_
      rintro D σ H ⟨He, S0, Vw, ρ, P, ⟨O, w⟩, q, L⟩
      unfold wpS at q
      obtain ⟨ds, es, e1, e2, hz, hi, q⟩ := q
      obtain ⟨a, vs, ha, f1, f2, r1⟩ := w.own_lst c6 e1
      obtain ⟨b, us, hb, g1, g2, r2⟩ := w.own_lst d5 e2
      refine ⟨.ref a, f1, .inl ⟨rfl, vs, .inl (.inl f2)⟩, .ref b, g1, a, b, vs, us, rfl, rfl, f2, g2, ?_, L.nx _ h.symm _ _ _ q ⟨O, w.setl c6 ha e1 f1 f2 r1 (r1.append r2)⟩⟩
      rw [← r1.length, ← r2.length, ← szl_eq]
      exact hz
    · exact absurd h.symm hr
  · exact absurd h.symm hr
theorem pop_D {j i : Nat} {s : Stmt} {r : FR} (G : Gs X N sc cm W k) (h : chS N sc cm Ef (.pop j i) s Lf fl = r) (hr : r ≠ .bad) : PS X s (tS X W Ef Lf fl r (wpS (.pop j i))) := by
  unfold chS at h
  split at h
  · rename_i y py x px m ap cp pos
    split at h
    · rename_i hc
      obtain ⟨hc, c10⟩ := and2 hc
      obtain ⟨hc, c9⟩ := and2 hc
      obtain ⟨hc, c8⟩ := and2 hc
      obtain ⟨hc, c7⟩ := and2 hc
      obtain ⟨hc, c6⟩ := and2 hc
      obtain ⟨hc, c5⟩ := and2 hc
      obtain ⟨hc, c4⟩ := and2 hc
      obtain ⟨hc, c3⟩ := and2 hc
      obtain ⟨c1, c2⟩ := and2 hc
      have c1 := of_decide_eq_true c1
      subst c1
      have c3 := of_decide_eq_true c3
      have c8 := of_decide_eq_true c8
      have hij : i ≠ j := of_decide_eq_true c10
      have c7 : i ∈ fl := by simpa using c7
      have vis : Vis X.env.scope x := by
        have := lookV c4
        rw [← G.sc] at this
        exact this
      have loc : Loc X.env.scope y := by
        have := lookB c9
        rw [← G.sc] at this
        exact this
      have fn : X.fn y = true ∨ X.env.scope.names.lookup y = some .local := G.fn y (by rw [G.sc]; exact c9)
      have hV : PE X (.Name x px) (tVar i) := pe_var (i := i) (by rw [G.nn]; exact c3) vis (by simpa using c5) (by simpa using c6)
      refine PS.imp (ps_set (by rw [G.nn]; exact G.nd) (by rw [G.nn]; exact c8) loc (pe_bm0 (apos := ap) (cpos := cp) PySem.F.plainAttrs_list PySem.F.slot_list_pop PySem.F.type_list_pop mt_pop hV rfl c2) (by rfl) fn) ?_
      rintro D σ H ⟨He, S0, Vw, ρ, P, ⟨O, w⟩, q, L⟩
      unfold wpS at q
      obtain ⟨ds, d, e1, q⟩ := q
      obtain ⟨a, vs, ha, f1, f2, r1⟩ := w.own_lst c7 e1
      obtain ⟨vs', v, rfl, r2, r3⟩ := Reps.snoc r1
      refine ⟨.ref a, f1, .inl ⟨rfl, _, .inl (.inl f2)⟩, a, vs' ++ [v], v, rfl, rfl, f2, by simp, ?_⟩
      rw [List.dropLast_concat]
      have w2 := w.setl c7 ha e1 f1 f2 r1 r2
      have hin : a ∈ adr O S0 := List.mem_append_left _ (List.mem_map.mpr ⟨_, ha, rfl⟩)
      have w3 := w2.store (sl := [j]) (σ' := σ.set j (some v)) (ρ' := (ρ.set i (some (.lst ds))).set j (some d)) (fl' := minus fl [j]) (fun b hb => minus_mem.mp hb) (by simp) (by simp) (fun b hb => ?_) fun b d' hb e => ?_
      · exact L.nx _ h.symm _ _ _ q ⟨_, w3⟩
      · have hne : j ≠ b := fun z => hb (by simp [z])
        rw [List.getElem?_set_ne hne, List.getElem?_set_ne hne]
        exact ⟨rfl, rfl⟩
      · have hbj : b = j := by simpa using hb
        subst hbj
        have hl : b < ρ.length := by
          by_cases z : b < ρ.length
          · exact z
          · rw [List.getElem?_eq_none (by simpa using z)] at e; cases e
        rw [List.getElem?_set_self (by simpa using hl)] at e
        cases e
        refine ⟨v, List.getElem?_set_self (by rw [w.len]; exact hl), ?_⟩
        have hh : hide (upd H a (.lst vs')) (adr O S0) = hide H (adr O S0) := hide_upd_in hin
        have r4 : Rep X.K (hide (upd H a (.lst vs')) (adr O S0)) d v := by rw [hh]; exact r3
        exact r4.mono (hide_more (adr_sub fun p hp => (List.mem_filter.mp hp).1))
    · exact absurd h.symm hr
  · exact absurd h.symm hr
theorem put_D {i : Nat} {ke e : CE} {s : Stmt} {r : FR} (G : Gs X N sc cm W k) (nd : ke.needs (FC X k) (GC X) (LmOf X k) ∧ e.needs (FC X k) (GC X) (LmOf X k)) (h : chS N sc cm Ef (.put i ke e) s Lf fl = r) (hr : r ≠ .bad) : PS X s (tS X W Ef Lf fl r (wpS (.put i ke e))) := by
  unfold chS at h
  split at h
  · rename_i x px kx sp v pos
    split at h
    · rename_i hc
      obtain ⟨hc, c10⟩ := and2 hc
      obtain ⟨hc, c9⟩ := and2 hc
      obtain ⟨hc, c8⟩ := and2 hc
      obtain ⟨hc, c7⟩ := and2 hc
      obtain ⟨hc, c6⟩ := and2 hc
      obtain ⟨hc, c5⟩ := and2 hc
      obtain ⟨hc, c4⟩ := and2 hc
      obtain ⟨hc, c3⟩ := and2 hc
      obtain ⟨c1, c2⟩ := and2 hc
      have c8 := okXE c8
      have c9 := okXE c9
      have c2 := of_decide_eq_true c2
      have c6 : i ∈ fl := by simpa using c6
      have hu := G.hu
      have vis : Vis X.env.scope x := by
        have := lookV c3
        rw [← G.sc] at this
        exact this
      have hV : PE X (.Name x px) (tVar i) := pe_var (i := i) (by rw [G.nn]; exact c2) vis (by simpa using c4) (by simpa using c5)
      have hv := snd1 c8 G.toGd nd.2
      have hk := snd1 c9 G.toGd nd.1
      refine ⟨fun pins s σ H D I w => ?_⟩
      obtain ⟨He, S0, Vw, ρ, P, ⟨O, w⟩, q, L⟩ := w
      unfold wpS at q
      obtain ⟨c, e1, q⟩ := q
      have hcn : ∀ y v' Q, putD c y v' Q → c.cont = true := fun y v' Q z => by
        unfold putD at z
        split at z <;> first | rfl | exact z.elim
      obtain ⟨vv, hvv, _⟩ := w.rep i c e1
      refine wpAny_Assign_Subscript (thn (hv.run pins s σ H (fun xv H1 => ∃ d, Post X.K H S0 e.fresh d xv H1 ∧ wpE ke ρ (fun y => d.imm = true ∧ putD c y d fun c' => P.nx (ρ.set i (some c'))) (P.ex ρ)) I ?_) fun u s1 ⟨xv, H1, I1, rxv, d, p1, q⟩ => ?_) (sw_nc c10 _)
      · exact tE_in w.sok0 w.ev0 q (fun d v H1 q p => ⟨d, p, q⟩) fun x cls dd H' e sm xr => L.exE w c7 e cls dd H' sm xr
      refine thn (hV.run pins s1 σ H1 (fun x H' => x = vv ∧ H' = H1) I1 ⟨vv, hvv, rfl, rfl⟩) fun ov s2 ⟨xo, H2, I2, rxo, e3, e2⟩ => ?_
      subst e2 e3
      have w1 := w.grow p1.same
      refine thn (hk.run pins s2 σ H2 (fun xk H3 => ∃ y, Post X.K H2 S0 ke.fresh y xk H3 ∧ d.imm = true ∧ putD c y d fun c' => P.nx (ρ.set i (some c'))) I2 ?_) fun uk s3 ⟨xk, H3, I3, rxk, y, p2, hi, q⟩ => ?_
      · exact tE_in w1.sok0 w1.ev0 q (fun d v H1 q p => ⟨d, p, q⟩) fun x cls dd H' e sm xr => L.exE w1 c7 e cls dd H' sm xr
      have w2 := w1.grow p2.same
      have hT := w2.sok fun p hp => hp
      have rd : Rep X.K (hide H3 (adr O S0)) d xv := Rep.imm2 (p1.rep.mono p2.same.hide) hi hT
      obtain ⟨a, o, ha, f1, f2, r1⟩ := w2.own_at c6 (hcn _ _ _ q) e1
      rw [f1] at hvv
      cases hvv
      obtain rfl : ov = Value.ref a := rxo
      cases c with
      | dict ks vs =>
        obtain ⟨hz, hkey, q⟩ := (show ks.length < szl ∧ isKey y = true ∧ P.nx (ρ.set i (some (dPut ks vs y d))) from q)
        have rk : Rep X.K (hide H3 (adr O S0)) y xk := Rep.imm2 p2.rep (keyB_imm (isKey_B hkey)) hT
        obtain ⟨kas, vvs, rfl, g1, g2, g3, g4⟩ := r1
        obtain ⟨b, rfl, hkk⟩ := key_is I3 (p2.rep.mono hide_le) hkey
        obtain rfl : uk = Value.ref b := rxk
        refine set_dict (vs := []) (d := .non) I3 hu hkey hkk f2 g1 g2 g3 (by rw [← szl_eq]; exact hz) rxv fun s' I4 => ?_
        exact ⟨σ, _, I4, L.nx _ h.symm _ _ _ q ⟨O, w2.setc c6 ha e1 f1 f2 ⟨kas, vvs, rfl, g1, g2, g3, g4⟩ (put_rep hkey g1 g2 g3 g4 rk rd)⟩⟩
      | lst ds =>
        obtain ⟨n, j, rfl, hj, q⟩ := (show ∃ n j, y = .int n ∧ ixI ds n = some j ∧ P.nx (ρ.set i (some (.lst (ds.set j d)))) from q)
        obtain ⟨vs, rfl, g1⟩ := r1
        cases rep_int p2.rep
        refine wpAny_mono (set_list pins s3 σ H3 (.ref a) (.int n) xv (.ref a) uk u (fun H4 => H4 = upd H3 a (.lst (vs.set j xv))) I3 rfl rxk rxv ⟨a, vs, n, j, rfl, rfl, f2, ?_, rfl⟩) (fun _ s4 ⟨H4, I4, e4⟩ => ?_) fun _ _ z => z
        · rw [← g1.length]
          exact hj
        · subst e4
          exact ⟨σ, _, I4, L.nx _ h.symm _ _ _ q ⟨O, w2.setl c6 ha e1 f1 f2 g1 (g1.set rd)⟩⟩
      | _ => exact q.elim
    · exact absurd h.symm hr
  · exact absurd h.symm hr
end
end Dl

/-! DlStmP: x, y = f(..), where the first item is new: x owns it. -/
namespace Dl
open PySem PySem.Spec PyProof.Rows L2
variable [Tbs]
section
variable {K : PySem.W.Frag} {He : Hp} {S0 : List Addr} {Vw : Hp} {fl : Fl} {O : List (Nat × Addr)} {σ : L2.St} {H H1 H2 : Hp} {ρ : DEnv}
theorem ER.asgP (w : ERO K He S0 Vw fl O σ H ρ) {rd : Fl} {ls : Bool} {i j : Nat} {x y : D} {v : V} (hij : i ≠ j) (sm : Sm H H1) (p : Post K H1 (adr (O.filter fun p => (minus fl rd).contains p.1) S0) true (.tup [x, y]) v H2)
    (dp : Deep K H1 (adr (O.filter fun p => (minus fl rd).contains p.1) S0) (.tup [x, y]) v H2) (hy : y.imm = true) (hk : rd = [] ∨ ls = true ∨ x.flat = true) :
    ∃ a vx vy, v = .ref a ∧ SqT K H2 a [vx, vy] ∧ ER K He S0 Vw (i :: afl fl rd ls [i, j]) ((σ.set i (some vx)).set j (some vy)) H2 ((ρ.set i (some x)).set j (some y)) := by
  have smH := sm.trans p.same
  have sub : ∀ p ∈ O.filter (fun p => (afl fl rd ls [i, j]).contains p.1), p ∈ O := fun p hp => (List.mem_filter.mp hp).1
  have hS : SOk H2 (adr (O.filter fun p => (afl fl rd ls [i, j]).contains p.1) S0) := (w.sok sub).mono smH
  have more : (rd = [] ∨ ls = true) → ∀ q ∈ O.filter (fun p => (afl fl rd ls [i, j]).contains p.1), q ∈ O.filter (fun p => (minus fl rd).contains p.1) := fun z q hq => by
    obtain ⟨q1, q2⟩ := List.mem_filter.mp hq
    have q3 : q.1 ∈ afl fl rd ls [i, j] := by simpa using q2
    obtain ⟨a1, a2, a3⟩ := afl_in.mp q3
    refine List.mem_filter.mpr ⟨q1, ?_⟩
    have : q.1 ∈ minus fl rd := minus_mem.mpr ⟨a1, by
      rcases z with z | z
      · rw [z]; simp
      · exact a3 z⟩
    simpa using this
  by_cases hc : x.cont = true
  · obtain ⟨a, u, us, rfl, hsq, ⟨b, o, rfl, n1, e2, r2⟩, rus⟩ := dp hc
    obtain ⟨vy, rfl, ry⟩ := reps1 rus
    refine ⟨a, .ref b, vy, rfl, hsq, ?_⟩
    have ry2 := Rep.imm2 ry hy hS
    have nH : H b = none := sm.free n1
    have w2 := (w.grow smH).store (sl := [j]) (σ' := σ.set j (some vy)) (ρ' := ρ.set j (some y)) (fl' := afl fl rd ls [i, j]) (fun k hk => ⟨(afl_in.mp hk).1, fun z => (afl_in.mp hk).2.1 (by simp at z; simp [z])⟩) (by simp) (by simp) (fun k hk => by
      have hne : j ≠ k := fun z => hk (by simp [z])
      exact ⟨List.getElem?_set_ne hne, List.getElem?_set_ne hne⟩) (fun k d hk e => by
      have hkj : k = j := by simpa using hk
      subst hkj
      have hl : k < ρ.length := by
        by_cases z : k < ρ.length
        · exact z
        · rw [List.getElem?_eq_none (by simpa using z)] at e; cases e
      rw [List.getElem?_set_self hl] at e
      cases e
      exact ⟨vy, List.getElem?_set_self (by rw [w.len]; exact hl), ry2⟩)
    rw [List.set_comm _ _ hij, List.set_comm _ _ hij]
    by_cases hil : i < ρ.length
    · have w0 := w.weak (afl fl rd ls [i, j]) fun k hk => (afl_in.mp hk).1
      refine ⟨_, w2.fresh (i := i) (a := b) (dc := x) (o := o) (fun z => (afl_in.mp z).2.1 (by simp)) (by simpa using hil) (w.same.free nH) (fun q hq e3 => ?_) ?_ e2 ?_ fun k d hk e => ?_⟩
      · have q2 := w.own.mu q (sub q hq)
        rw [e3, nH] at q2
        exact q2
      · refine w.vis.fr_ b ?_
        unfold hide
        split
        · rfl
        · exact nH
      · have hk' : (rd = [] ∨ ls = true) ∨ x.flat = true := by
          rcases hk with z | z | z
          · exact .inl (.inl z)
          · exact .inl (.inr z)
          · exact .inr z
        rcases hk' with z | z
        · refine r2.mono (hide_more fun c hb => ?_)
          rcases List.mem_cons.mp hb with rfl | hb
          · exact List.mem_cons_self
          · exact List.mem_cons_of_mem _ (adr_sub (more z) c hb)
        · exact CRep.imm2 r2 z (hS.cons (by rw [e2]; exact r2.mut))
      · by_cases hkj : k = j
        · subst hkj
          have hl : k < ρ.length := by
            by_cases z : k < ρ.length
            · exact z
            · rw [List.getElem?_eq_none (by simpa using z)] at e; cases e
          rw [List.getElem?_set_self hl] at e
          cases e
          refine ⟨vy, List.getElem?_set_self (by rw [w.len]; exact hl), .inl ⟨.inl fun z => (afl_in.mp z).2.1 (by simp), Rep.imm2 ry hy (hS.cons (by rw [e2]; exact r2.mut))⟩⟩
        · rw [List.getElem?_set_ne (Ne.symm hkj)] at e
          obtain ⟨v', f1, f2⟩ := w0.rep k d e
          have low : ∀ {T : List Addr}, Same (hide H T) (hide H2 (b :: T)) := fun {T} => smH.low nH
          refine ⟨v', by rw [List.getElem?_set_ne (Ne.symm hkj)]; exact f1, ?_⟩
          rcases f2 with ⟨g1, g2⟩ | ⟨g1, c, g2, g3⟩
          · exact .inl ⟨g1, g2.mono low⟩
          · exact .inr ⟨g1, c, g2, g3.mono low fun o e n => smH.w.at_ _ _ e n⟩
    · have e1 : (σ.set j (some vy)).set i (some (V.ref b)) = σ.set j (some vy) := List.set_eq_of_length_le (by simp [w.len]; omega)
      have e3 : (ρ.set j (some y)).set i (some x) = ρ.set j (some y) := List.set_eq_of_length_le (by simp; omega)
      rw [e1, e3]
      exact ⟨_, w2.flag fun d e4 => by rw [List.getElem?_eq_none (by simp; omega)] at e4; cases e4⟩
  · have hc' : x.cont = false := by simpa using hc
    obtain ⟨a, vs, rfl, hsq, hr⟩ := rep_tup p.rep
    obtain ⟨vx, vy, rfl, rx, ry⟩ := reps2 hr
    refine ⟨a, vx, vy, rfl, Same.sqt hide_le hsq, ?_⟩
    have ry2 := Rep.imm2 ry hy hS
    have rx2 : Rep K (hide H2 (adr (O.filter fun p => (afl fl rd ls [i, j]).contains p.1) S0)) x vx := by
      rcases hk with z | z | z
      · exact rx.mono (hide_more (adr_sub (more (.inl z))))
      · exact rx.mono (hide_more (adr_sub (more (.inr z))))
      · exact Rep.imm2 rx (by cases x <;> first | exact z | cases hc') hS
    have w2 := (w.grow smH).store (sl := [i, j]) (σ' := (σ.set i (some vx)).set j (some vy)) (ρ' := (ρ.set i (some x)).set j (some y)) (fl' := afl fl rd ls [i, j]) (fun k hk => ⟨(afl_in.mp hk).1, (afl_in.mp hk).2.1⟩) (by simp) (by simp) (fun k hk => by
      have h1 : i ≠ k := fun z => hk (by simp [z])
      have h2 : j ≠ k := fun z => hk (by simp [z])
      rw [List.getElem?_set_ne h2, List.getElem?_set_ne h1, List.getElem?_set_ne h2, List.getElem?_set_ne h1]
      exact ⟨rfl, rfl⟩) (fun k d hk e => by
      have hl : k < ρ.length := by
        by_cases z : k < ρ.length
        · exact z
        · rw [List.getElem?_eq_none (by simpa using z)] at e; cases e
      have hl2 : k < σ.length := by rw [w.len]; exact hl
      by_cases hkj : k = j
      · subst hkj
        rw [List.getElem?_set_self (by simpa using hl)] at e
        cases e
        exact ⟨vy, List.getElem?_set_self (by simpa using hl2), ry2⟩
      · have hki : k = i := by
          rcases List.mem_cons.mp hk with z | z
          · exact z
          · exact absurd (by simpa using z) hkj
        subst hki
        rw [List.getElem?_set_ne (Ne.symm hkj), List.getElem?_set_self hl] at e
        cases e
        exact ⟨vx, by rw [List.getElem?_set_ne (Ne.symm hkj), List.getElem?_set_self hl2], rx2⟩)
    refine ⟨_, w2.flag fun d e => ?_⟩
    rw [List.getElem?_set_ne (Ne.symm hij)] at e
    by_cases hil : i < ρ.length
    · rw [List.getElem?_set_self hil] at e
      cases e
      exact hc'
    · rw [List.getElem?_eq_none (by simpa using hil)] at e
      cases e
end
section
variable {X : Cx} {N : List Str} {sc : Scope} {cm : Bool} {W : WX} {k : Nat} {Ef Lf fl : Fl}
theorem asgP_D {i j : Nat} {f : Str} {sp : Spec} {es : List CE} {rd : List Nat} {ls : Bool} {s : Stmt} {r : FR} (G : Gs X N sc cm W k) (nd : FnCP X.prog X.w X.K X.mg X.base k f es.length sp ∧ CE.needsL (FC X k) (GC X) (LmOf X k) es) (h : chS N sc cm Ef (.asgP i j f sp es rd ls) s Lf fl = r) (hr : r ≠ .bad) :
    PS X s (tS X W Ef Lf fl r (wpS (.asgP i j f sp es rd ls))) := by
  unfold chS at h
  split at h
  · rename_i x px y py kt pt g gp vs cp pos
    split at h
    · rename_i hc
      obtain ⟨hc, c11⟩ := and2 hc
      obtain ⟨hc, c10⟩ := and2 hc
      obtain ⟨hc, c9⟩ := and2 hc
      obtain ⟨hc, c8⟩ := and2 hc
      obtain ⟨hc, c7⟩ := and2 hc
      obtain ⟨hc, c6⟩ := and2 hc
      obtain ⟨hc, c5⟩ := and2 hc
      obtain ⟨hc, c4⟩ := and2 hc
      obtain ⟨hc, c3⟩ := and2 hc
      obtain ⟨c1, c2⟩ := and2 hc
      have c2 := of_decide_eq_true c2
      subst c2
      have c5 := of_decide_eq_true c5
      have c6 := of_decide_eq_true c6
      have c7 := of_decide_eq_true c7
      rw [okXs_eq] at c11
      obtain ⟨calm, room⟩ := G.cm c1
      obtain ⟨⟨a, fd, ps, hm, kp, hb, F, hps⟩, nd⟩ := nd
      have ha := soundEs es c11 G.toGd nd
      cases vs with
      | nil => cases c4
      | cons v vs =>
        have hs1 : plB v = true := by
          cases es with
          | nil => simp [okEs] at c11
          | cons c cs => unfold okEs at c11; exact okE_pl (and2 c11).1
        have hs2 : ((backTo cp (starEach vs X.env)).any (·.1)) = false := by
          cases es with
          | nil => simp [okEs] at c11
          | cons c cs => unfold okEs at c11; exact okEs_star (and2 c11).2
        have locB2 : ∀ {z : Str}, locB sc z = true → Loc X.env.scope z := fun {z} c => by
          have := lookB c
          rw [← G.sc] at this
          exact this
        have hg : PG X (.Tuple [.Name x px, .Name y py] kt pt) (gTup X.K 2 (gCons (gName i) (gCons (gName j) gNil))) :=
          pg_tup calm (pgs_cons (pg_name (by rw [G.nn]; exact G.nd) (by rw [G.nn]; exact c5) (locB2 c8) (G.fn x (by rw [G.sc]; exact c8))) (pgs_cons (pg_name (by rw [G.nn]; exact G.nd) (by rw [G.nn]; exact c6) (locB2 c9) (G.fn y (by rw [G.sc]; exact c9))) pgs_nil))
        refine PS.imp (ps_asg (pe_callSD (E := WE W) F room (gl_of G.toGd c3) hm kp hb .nil (fun σ => passAt G.tk σ) ha (gloB_ok c3).2.1 (star_of hs1 _ _) hs2) hg (hs := show swapsWith (.Call (.Name f gp) (v :: vs) [] cp) (some (.Tuple [.Name x px, .Name y py] kt pt)) pos.line X.env = pure false from sw_nc (by rfl) _) (hw := swNone_ok rfl)) ?_
        rintro D σ H ⟨He, S0, Vw, ρ, P, ⟨O, w⟩, q, L⟩
        unfold wpS at q
        refine tL_in (w.sokF _) (w.ev _) (wpEs_len q) (fun ds ws H1 ⟨ln, q⟩ sm rp => ?_) fun x cls dd H' e sm xr => L.exE w c10 e cls dd H' sm xr
        refine ⟨?_, _, ds, (w.sokF _).mono sm, by rw [List.append_nil]; exact rp, sp.mono _ _ _ _ _ q (fun d ⟨dx, dy, ed, hy, hk, hp⟩ u H2 p dp => ?_) fun x e cls dd H' sm2 xr => L.exE w c10 e cls dd H' (sm.trans sm2) xr⟩
        · have := rp.length
          simp
          omega
        · subst ed
          obtain ⟨b, vx, vy, rfl, hsq, er⟩ := ER.asgP w c7 sm p dp hy hk
          refine ⟨b, [vx, vy], rfl, hsq, rfl, vx, [vy], rfl, vy, [], rfl, rfl, ?_⟩
          refine L.nx _ ?_ _ _ _ hp er
          rw [← h]
          unfold afl
          rfl
    · exact absurd h.symm hr
  · exact absurd h.symm hr
end
end Dl

/-! DlTry: several except clauses, with and without a name. -/
namespace Dl
open PySem PySem.Spec PyProof.Rows L2
abbrev HdT := Value × Option Nat × (Addr → Value → Option Addr → TS)
/-- what the clauses wish of an exception of the body, one after the other -/
def wHds (K : PySem.W.Frag) (Wout : WX) (D : Ends) : List HdT → WX
  | [] => Wout
  | (c, none, ts) :: r => fun cls d σ H => ∃ b, PySem.W.exmOne K cls c = some b ∧ (b = true → ∀ a, H a = none → ts a cls d D σ H) ∧ (b = false → wHds K Wout D r cls d σ H)
  | (c, some i, ts) :: r => fun cls d σ H => ∃ b, PySem.W.exmOne K cls c = some b ∧ (b = true → ∀ a, H a = none → ts a cls d { nx := fun σ' H' => D.nx (σ'.set i none) H', rt := D.rt, bk := fun σ' H' => D.bk (σ'.set i none) H', ct := fun σ' H' => D.ct (σ'.set i none) H' } (σ.set i (some (.ref a))) H) ∧
      (b = false → wHds K Wout D r cls d σ H)
inductive HdsX (X : Cx) : List ExceptHandler → List HdT → Prop
  | nil : HdsX X [] []
  | plain {x : Str} {c : Value} {ts : Addr → Value → Option Addr → TS} {b₀ : Stmt} {suite : List Stmt} {np pos' : Pos} {hds : List ExceptHandler} {l : List HdT} (hc : Names X x c)
      (hsu : ∀ (a : Addr) (oe : Obj) (cls : Value) (d : Option Addr) (pn : List (Addr × Obj)), Zc cls d oe → (∃ vs, oe.data = .fields vs) → PSs (X.suite a ((a, oe) :: pn)) (b₀ :: suite) (ts a cls d)) (r : HdsX X hds l) :
      HdsX X (.ExceptHandler (some (.Name x np)) none (b₀ :: suite) pos' :: hds) ((c, none, ts) :: l)
  | named {x n : Str} {i : Nat} {c : Value} {ts : Addr → Value → Option Addr → TS} {b₀ : Stmt} {suite : List Stmt} {np pos' : Pos} {hds : List ExceptHandler} {l : List HdT} (hc : Names X x c) (hi : X.N[i]? = some n) (hln : X.env.kindOf n = some .local)
      (hsu : ∀ (a : Addr) (oe : Obj) (cls : Value) (d : Option Addr) (pn : List (Addr × Obj)), Zc cls d oe → (∃ vs, oe.data = .fields vs) → PSs (X.suite a ((a, oe) :: pn)) (b₀ :: suite) (ts a cls d)) (r : HdsX X hds l) :
      HdsX X (.ExceptHandler (some (.Name x np)) (some n) (b₀ :: suite) pos' :: hds) ((c, some i, ts) :: l)
section
variable {X : Cx} {body : List Stmt} {h₀ : ExceptHandler} {hds : List ExceptHandler} {l : List HdT} {pos : Pos} {tb : WX → TS} {Wout : WX}
theorem ps_try_hds (hs : X.stack = X.env :: X.outer) (hf : X.env.frame = some X.env.locals) (hN : X.N.Nodup) (tk : Takes X Wout)
    (hb : ∀ (W : WX) (pn : List (Addr × Obj)) (xe : Value → Shared → Prop), Takes (X.tr pn xe) W → PassesOwn (model X.prog X.w) X.A X.env xe → PSs (X.tr pn xe) body (tb W))
    (hh : HdsX X (h₀ :: hds) l) : PS X (.Try body (h₀ :: hds) [] [] pos) (fun D σ H => tb (wHds X.K Wout D l) D σ H) := by
  refine ⟨fun pins s σ H D I h => ?_⟩
  have ok := I.ok
  have hfr : X.A.frames = some (X.env :: X.outer) := by rw [ok.frames, hs]
  refine wpAny_Try_except ?_
  refine wpAny_mono ((hb (wHds X.K Wout D l) (X.pn ++ pins) (fun e s₁ => wpAny (model X.prog X.w) X.A (noteFrame e X.env) (fun _ s₂ => wpAny (model X.prog X.w) X.A (setFlight e none) (fun _ s₃ =>
    wpAny (model X.prog X.w) X.A (handleBy e X.env (h₀ :: hds)) (SP X pins D) X.xe s₃) X.xe s₂) X.xe s₁) (fun u s' xx => ?_) PassesOwn.looking).run [] s σ H D (I.toTry _) h) (fun f s1 hsp => ?_) (fun e s1 he => he)
  · -- the catch
    obtain ⟨a, B, sI, pins', σ', H', cls, d, rfl, J', nb, up, sky, na, os, ag, w⟩ := xx
    have J : Inv X pins σ' H' sI := J'.ofTry ok
    have sky' : Sky B (X.env :: X.outer) a (Zc cls d) X.env.locals s'.heap := by rw [← hs]; exact sky
    show wpAny (model X.prog X.w) X.A (noteFrame (.ref a) X.env) _ _ _
    refine Sky.land Zc.steady hfr hf sky' fun h3 fl3 up3 => ?_
    have J3 : Inv X pins σ' H' { s' with heap := h3 } := J.landed nb fl3.1 (up.trans up3) os ag
    obtain ⟨oe3, vs3, he3, hz3, hd3⟩ := fl3.there
    have notFr : ∀ {h : Heap} {o : Obj} {vs : Array Value}, h.FunFrames B (X.env :: X.outer) → h.get? a = some o → o.data = .fields vs → a ∉ frs (X.env :: X.outer) := fun {h o vs} ff e dd hm => by
      obtain ⟨_, o', e', hnf⟩ := ff.mem hm
      rw [e] at e'; cases e'
      exact hnf _ dd
    have nfr := notFr fl3.2.2.1 he3 hd3
    have nL : a ≠ X.env.locals := fun z => nfr (List.mem_filterMap.mpr ⟨X.env, List.mem_cons_self, by rw [hf, z]⟩)
    have nF : a ∉ X.fs := fun hm => by
      obtain ⟨e, he, q⟩ := List.mem_filterMap.mp hm
      exact nfr (List.mem_filterMap.mpr ⟨e, List.mem_cons_of_mem _ he, q⟩)
    have S3 := J3.suite he3 hd3 na nL nF
    have LT : PySem.W.Looks (model X.prog X.w) h3 (typeOf (.ref a)) cls := fun A Q E s k q => wpAny_typeOf_ref (k _ _ he3) (by rw [hz3.1]; exact q)
    have go : ∀ {hds' : List ExceptHandler} {l' : List HdT}, HdsX X hds' l' → wHds X.K Wout D l' cls d σ' H' →
        wpAny (model X.prog X.w) X.A (handleBy (.ref a) X.env hds') (SP X pins D) X.xe { s' with heap := h3 } := by
      intro hds' l' hk
      induction hk with
      | nil =>
        intro w
        refine wpAny_handleBy_nil ?_
        obtain ⟨k1, k2, k3, oe, vs, T, oT, ts', he, hz, hd, h1, hr⟩ := id fl3
        unfold PySem.passOn
        refine wpAny_bind (wpAny_field he hd h1 ?_)
        rw [if_neg (show ¬ ((Value.ref T == Value.none) = true) from by simp)]
        have fin : wpAny (model X.prog X.w) X.A (setFlight (.ref a) X.env.frame) (fun _ s4 => wpAny (model X.prog X.w) X.A (throw (.ref a) : Sem Flow) (SP X pins D) X.xe s4) X.xe { s' with heap := h3 } := by
          rw [hf]
          refine HandSPX.setFlight_upZ fl3 fun h4 hh4 up4 => wpAny_throw (tk _ _ ?_)
          exact ⟨a, B, sI, pins, σ', H', cls, d, rfl, J, nb, (up.trans up3).trans up4, .inr (.inr (by rw [hs]; exact hh4)), na, os, ag, w⟩
        first
          | exact wpAny_bind (wpAny_pure (wpAny_bind fin))
          | exact wpAny_bind fin
      | @plain x c ts b₀ suite np pos' hds2 l2 hc hsu r ih =>
        intro w
        obtain ⟨b, hb1, hyes, hno⟩ := w
        refine wpAny_handleBy_cons (codeAny_handlers_test ?_) (by intro q; cases q)
        have LM := PySem.W.exm_one (M := model X.prog X.w) (J3.kIn) LT hb1
        have test : ∀ {Q : Value → Shared → Prop} {E : Value → Shared → Prop}, Q c { s' with heap := h3 } → wpAny (model X.prog X.w) (X.A.mark (some (.ref a))) (eval (.Name x np) X.env) Q E { s' with heap := h3 } := fun {Q E} q => by
          obtain ⟨hg, hdbg, hm | ⟨hm, hv, hnn⟩⟩ := hc
          · exact ld_glob (X := X.suite a ((a, oe3) :: (X.pn ++ pins))) S3 hg hm q hdbg
          · exact ld_blt (X := X.suite a ((a, oe3) :: (X.pn ++ pins))) S3 hg hm hv q hnn hdbg
        refine test (LM.here ?_)
        cases b with
        | true =>
          refine codeAny_handlers_suite ?_
          refine HandSPX.lands_againZ fl3 fun h4 fl4 up4 => ?_
          have J4 : Inv X pins σ' H' { s' with heap := h4 } := J.landed nb fl4.1 ((up.trans up3).trans up4) os ag
          obtain ⟨oe4, vs4, he4, hz4, hd4⟩ := fl4.there
          have S4 := J4.suite he4 hd4 na nL nF
          refine wpAny_mono ((hsu a oe4 cls d (X.pn ++ pins) hz4 ⟨_, hd4⟩).run [] _ _ H' _ S4 (hyes rfl a na)) (fun f s6 hsp => ?_) (fun _ _ z => False.elim z)
          cases f with
          | next =>
            obtain ⟨σ6, H6, S6, q6⟩ := hsp
            exact ⟨_, _, S6.unsuite ok, q6⟩
          | brk =>
            obtain ⟨σ6, H6, S6, q6⟩ := hsp
            exact ⟨_, _, S6.unsuite ok, q6⟩
          | cont =>
            obtain ⟨σ6, H6, S6, q6⟩ := hsp
            exact ⟨_, _, S6.unsuite ok, q6⟩
          | ret u =>
            obtain ⟨v6, σ6, H6, S6, r6, q6⟩ := hsp
            exact ⟨_, _, _, S6.unsuite ok, r6, q6⟩
        | false =>
          show wpAny _ X.A (handleBy (.ref a) X.env hds2) _ _ _
          exact ih (hno rfl)
      | @named x n i c ts b₀ suite np pos' hds2 l2 hc hi hln hsu r ih =>
        intro w
        obtain ⟨b, hb1, hyes, hno⟩ := w
        have hloc : Loc X.env.scope n := .inl hln
        refine wpAny_handleBy_cons (codeAny_handlers_test ?_) (by intro q; cases q)
        have LM := PySem.W.exm_one (M := model X.prog X.w) (J3.kIn) LT hb1
        have test : ∀ {Q : Value → Shared → Prop} {E : Value → Shared → Prop}, Q c { s' with heap := h3 } → wpAny (model X.prog X.w) (X.A.mark (some (.ref a))) (eval (.Name x np) X.env) Q E { s' with heap := h3 } := fun {Q E} q => by
          obtain ⟨hg, hdbg, hm | ⟨hm, hv, hnn⟩⟩ := hc
          · exact ld_glob (X := X.suite a ((a, oe3) :: (X.pn ++ pins))) S3 hg hm q hdbg
          · exact ld_blt (X := X.suite a ((a, oe3) :: (X.pn ++ pins))) S3 hg hm hv q hnn hdbg
        refine test (LM.here ?_)
        cases b with
        | true =>
          refine codeAny_handlers_suite_as ?_
          refine HandSPX.lands_againZ fl3 fun h4 fl4 up4 => ?_
          have J4 : Inv X pins σ' H' { s' with heap := h4 } := J.landed nb fl4.1 ((up.trans up3).trans up4) os ag
          obtain ⟨oe4, vs4, he4, hz4, hd4⟩ := fl4.there
          have S4 := J4.suite he4 hd4 na nL nF
          refine store_ok (X := X.suite a ((a, oe4) :: (X.pn ++ pins))) (v := .ref a) S4 hN hi hloc rfl (fun s5 S5 => ?_) (.inr hln)
          refine wpAny_mono ((hsu a oe4 cls d (X.pn ++ pins) hz4 ⟨_, hd4⟩).run [] s5 _ H' _ S5 (hyes rfl a na)) (fun f s6 hsp => ?_) (fun _ _ z => False.elim z)
          have end_ : ∀ {σ6 : L2.St} {H6 : Hp} {Q : Shared → Prop}, Inv (X.suite a ((a, oe4) :: (X.pn ++ pins))) [] σ6 H6 s6 → (∀ s7, Inv X pins (σ6.set i none) H6 s7 → Q s7) →
              wpAny (model X.prog X.w) X.A (do bindName X.env n .none; unbindBehindTheSuite X.env n pos') (fun _ s7 => Q s7) X.xe s6 := fun {σ6 H6 Q} S6 hq => gone_ok (S6.unsuite ok) hN hi hln hq
          cases f with
          | next =>
            obtain ⟨σ6, H6, S6, q6⟩ := hsp
            exact end_ S6 fun s7 J7 => ⟨_, _, J7, q6⟩
          | brk =>
            obtain ⟨σ6, H6, S6, q6⟩ := hsp
            exact end_ S6 fun s7 J7 => ⟨_, _, J7, q6⟩
          | cont =>
            obtain ⟨σ6, H6, S6, q6⟩ := hsp
            exact end_ S6 fun s7 J7 => ⟨_, _, J7, q6⟩
          | ret u =>
            obtain ⟨v6, σ6, H6, S6, r6, q6⟩ := hsp
            exact end_ S6 fun s7 J7 => ⟨_, _, _, J7, r6, q6⟩
        | false =>
          show wpAny _ X.A (handleBy (.ref a) X.env hds2) _ _ _
          exact ih (hno rfl)
    exact go hh w
  · cases f with
    | next =>
      obtain ⟨σ', H', J', q⟩ := hsp
      exact wpAny_execs_nil ⟨σ', H', J'.ofTry ok, q⟩
    | brk =>
      obtain ⟨σ', H', J', q⟩ := hsp
      exact ⟨σ', H', J'.ofTry ok, q⟩
    | cont =>
      obtain ⟨σ', H', J', q⟩ := hsp
      exact ⟨σ', H', J'.ofTry ok, q⟩
    | ret u =>
      obtain ⟨v, σ', H', J', r, q⟩ := hsp
      exact ⟨v, σ', H', J'.ofTry ok, r, q⟩
end
end Dl

/-! DlExc: raise, try: .. except C as e: (tests of e, returns). -/
namespace Dl
open PySem PySem.Spec PyProof.Rows L2
variable [Tbs]
/-- what the name of a class stands for: an own one, a built-in one -/
def NamesV (mg : Str → Option Value) (C : Str) (Cv : V) (cv : Value) : Prop := (∃ E, mg C = some (.ref E) ∧ Cv = .ref E ∧ cv = .ref E) ∨ (mg C = none ∧ ∃ T, bootBuiltins C = some (.type T) ∧ Cv = .ty T ∧ cv = .type T)
theorem NamesV.one {mg : Str → Option Value} {C : Str} {Cv Cv' : V} {cv cv' : Value} (h : NamesV mg C Cv cv) (h' : NamesV mg C Cv' cv') : Cv = Cv' ∧ cv = cv' := by
  rcases h with ⟨E, e1, e2, e3⟩ | ⟨e1, T, e2, e3, e4⟩ <;> rcases h' with ⟨E', f1, f2, f3⟩ | ⟨f1, T', f2, f3, f4⟩
  · rw [e1] at f1; cases f1; exact ⟨e2.trans f2.symm, e3.trans f3.symm⟩
  · rw [e1] at f1; cases f1
  · rw [e1] at f1; cases f1
  · rw [e2] at f2; cases f2; exact ⟨e3.trans f3.symm, e4.trans f4.symm⟩
/-- c may be raised -/
def RzC (K : PySem.W.Frag) (mg : Str → Option Value) (c : Str) : Prop := ∃ D, mg c = some (.ref D) ∧ PySem.W.excIn K D [.type "ValueError", .type "Exception", .type "BaseException", .type "object"] "ValueError.__new__" = true ∧ PySem.W.keepIn K (.ref D) = true ∧
  PySem.W.subIn K (.ref D) (.type "BaseException") = some true ∧ PySem.W.typeIn K (.ref D) = some (.type "type")
/-- how c stands to C -/
def XiC (K : PySem.W.Frag) (mg : Str → Option Value) (c C : Str) : Prop := ∃ D, mg c = some (.ref D) ∧ ExcC K D ∧ ∀ Cv cv, NamesV mg C Cv cv → PySem.W.exmOne K (.ref D) cv = some (subC c C) ∧ PySem.W.kitOne K (.ref D) cv = some (subC c C)
abbrev ClOf (K : PySem.W.Frag) (mg : Str → Option Value) (PF : Str → Nat → Spec → Prop) : Cl := ⟨RzC K mg, XiC K mg, fun C => ∃ Cv cv, NamesV mg C Cv cv, PF⟩
abbrev ClX (X : Cx) (k : Nat) : Cl := ClOf X.K X.mg (fun f n sp => FnCP X.prog X.w X.K X.mg X.base k f n sp)
section
variable {X : Cx} {N : List Str} {sc : Scope} {cm : Bool} {W : WX} {k : Nat} {Ef Lf fl : Fl}
theorem rse_D {c : Str} {s : Stmt} {r : FR} (G : Gs X N sc cm W k) (nd : RzC X.K X.mg c) (h : chS N sc cm Ef (.rse c) s Lf fl = r) (hr : r ≠ .bad) : PS X s (tS X W Ef Lf fl r (wpS (.rse c))) := by
  unfold chS at h
  split at h
  · rename_i x p m j p2 pos pos2
    split at h
    · rename_i hc
      obtain ⟨hc, c4⟩ := and2 hc
      obtain ⟨hc, c3⟩ := and2 hc
      obtain ⟨c1, c2⟩ := and2 hc
      have c2 := of_decide_eq_true c2
      subst c2
      obtain ⟨calm, _⟩ := G.cm c1
      obtain ⟨D, g1, g2, g3, g4, g5⟩ := nd
      refine PS.imp (ps_raise calm G.tk (pmk_own PySem.F.excBase_ValueError g2 g1 g3 (raises_own g4 g5) (gl_of G.toGd c3) (gloB_ok c3).2.1)) ?_
      rintro D' σ H ⟨He, S0, Vw, ρ, P, ⟨O, w⟩, q, L⟩
      unfold wpS at q
      exact L.exE w c4 q _ _ _ (Sm.refl _) ⟨D, g1, rfl, rfl, rfl⟩
    · exact absurd h.symm hr
  · exact absurd h.symm hr
end
/-! ### the suite -/
def tXt (i : Nat) (a : Addr) (b : Bool) : TT := fun σ H Q => σ[i]? = some (some (.ref a)) ∧ Q b H
/-- isinstance(n, C) -/
def IXX (X : Cx) (i : Nat) (a : Addr) (n C : Str) (b : Bool) : Prop := ∀ p1 p2 p3 pos, PT X (.Call (.Name ("isinstance" : Str) p1) [.Name n p2, .Name C p3] [] pos) (tXt i a b)
mutual
theorem xt_D : ∀ (t : XT) {X : Cx} {sc : Scope} {i : Nat} {a : Addr} {n c : Str} {e : Expr}, chX sc n t e = true → t.needs (fun c C => gloB sc C = true → IXX X i a n C (subC c C)) (fun _ => True) c → PT X e (tXt i a (t.val c))
  | .isx C, X, sc, i, a, n, c, e, h, nd => by
    unfold chX at h
    split at h
    · obtain ⟨h, h4⟩ := and2 h
      obtain ⟨h, h3⟩ := and2 h
      obtain ⟨h1, h2⟩ := and2 h
      have h1 := of_decide_eq_true h1
      have h2 := of_decide_eq_true h2
      have h3 := of_decide_eq_true h3
      subst h1 h2 h3
      unfold XT.needs at nd
      unfold XT.val
      exact nd.1 h4 _ _ _ _
    · cases h
  | .not t, X, sc, i, a, n, c, e, h, nd => by
    unfold chX at h
    split at h
    · unfold XT.needs at nd
      refine PT.imp (pt_not (xt_D t h nd)) fun σ H Q w => ?_
      unfold XT.val at w
      exact w
    · cases h
  | .and ts, X, sc, i, a, n, c, e, h, nd => by
    unfold chX at h
    split at h
    · obtain ⟨h1, h2⟩ := and2 h
      unfold XT.needs at nd
      unfold XT.val
      exact PW.pt (xts_and ts h2 (by simpa using h1) nd _)
    · cases h
  | .or ts, X, sc, i, a, n, c, e, h, nd => by
    unfold chX at h
    split at h
    · obtain ⟨h1, h2⟩ := and2 h
      unfold XT.needs at nd
      unfold XT.val
      exact PW.pt (xts_or ts h2 (by simpa using h1) nd _)
    · cases h
theorem xts_and : ∀ (ts : List XT) {X : Cx} {sc : Scope} {i : Nat} {a : Addr} {n c : Str} {vs : List Expr}, chXs sc n ts vs = true → vs ≠ [] → XT.needsL (fun c C => gloB sc C = true → IXX X i a n C (subC c C)) (fun _ => True) c ts → ∀ pos, PW X (.BoolOp .And vs pos) (tXt i a (XT.allv c ts))
  | [], X, sc, i, a, n, c, vs, h, ne, nd, pos => by
    unfold chXs at h
    rw [List.isEmpty_iff] at h
    exact absurd h ne
  | t :: ts, X, sc, i, a, n, c, [], h, ne, nd, pos => absurd rfl ne
  | [t], X, sc, i, a, n, c, v :: vs, h, ne, nd, pos => by
    unfold chXs at h
    obtain ⟨k1, k2⟩ := and2 h
    unfold chXs at k2
    rw [List.isEmpty_iff] at k2
    subst k2
    unfold XT.needsL at nd
    refine PW.imp (pw_and1 (xt_D t k1 nd.1)) fun σ H Q w => ?_
    unfold XT.allv XT.allv at w
    rw [Bool.and_true] at w
    exact w
  | t :: t' :: ts, X, sc, i, a, n, c, [v], h, ne, nd, pos => by
    simp only [chXs] at h
    cases (and2 h).2
  | t :: t' :: ts, X, sc, i, a, n, c, v :: v' :: vs, h, ne, nd, pos => by
    unfold chXs at h
    obtain ⟨k1, k2⟩ := and2 h
    unfold XT.needsL at nd
    refine PW.imp (pw_and (xt_D t k1 nd.1) (xts_and (t' :: ts) k2 (List.cons_ne_nil _ _) nd.2 pos)) fun σ H Q w => ?_
    obtain ⟨w1, w2⟩ := w
    refine ⟨w1, ?_⟩
    rw [XT.allv] at w2
    cases e : t.val c with
    | true => rw [e, Bool.true_and] at w2; exact ⟨w1, w2⟩
    | false => rw [e, Bool.false_and] at w2; exact w2
theorem xts_or : ∀ (ts : List XT) {X : Cx} {sc : Scope} {i : Nat} {a : Addr} {n c : Str} {vs : List Expr}, chXs sc n ts vs = true → vs ≠ [] → XT.needsL (fun c C => gloB sc C = true → IXX X i a n C (subC c C)) (fun _ => True) c ts → ∀ pos, PW X (.BoolOp .Or vs pos) (tXt i a (XT.anyv c ts))
  | [], X, sc, i, a, n, c, vs, h, ne, nd, pos => by
    unfold chXs at h
    rw [List.isEmpty_iff] at h
    exact absurd h ne
  | t :: ts, X, sc, i, a, n, c, [], h, ne, nd, pos => absurd rfl ne
  | [t], X, sc, i, a, n, c, v :: vs, h, ne, nd, pos => by
    unfold chXs at h
    obtain ⟨k1, k2⟩ := and2 h
    unfold chXs at k2
    rw [List.isEmpty_iff] at k2
    subst k2
    unfold XT.needsL at nd
    refine PW.imp (pw_or1 (xt_D t k1 nd.1)) fun σ H Q w => ?_
    unfold XT.anyv XT.anyv at w
    rw [Bool.or_false] at w
    exact w
  | t :: t' :: ts, X, sc, i, a, n, c, [v], h, ne, nd, pos => by
    simp only [chXs] at h
    cases (and2 h).2
  | t :: t' :: ts, X, sc, i, a, n, c, v :: v' :: vs, h, ne, nd, pos => by
    unfold chXs at h
    obtain ⟨k1, k2⟩ := and2 h
    unfold XT.needsL at nd
    refine PW.imp (pw_or (xt_D t k1 nd.1) (xts_or (t' :: ts) k2 (List.cons_ne_nil _ _) nd.2 pos)) fun σ H Q w => ?_
    obtain ⟨w1, w2⟩ := w
    refine ⟨w1, ?_⟩
    rw [XT.anyv] at w2
    cases e : t.val c with
    | true => rw [e, Bool.true_or] at w2; exact w2
    | false => rw [e, Bool.false_or] at w2; exact ⟨w1, w2⟩
end
/-! ### tests as values -/
def tXe (i : Nat) (a : Addr) (v : V) : TE := fun σ H Q => σ[i]? = some (some (.ref a)) ∧ Q v H
/-- isinstance(n, C), as a value -/
def IXV (X : Cx) (i : Nat) (a : Addr) (n C : Str) (b : Bool) : Prop := ∀ p1 p2 p3 pos, PE X (.Call (.Name ("isinstance" : Str) p1) [.Name n p2, .Name C p3] [] pos) (tXe i a (.bl b))
theorem truV_bl {K : PySem.W.Frag} {H : Hp} {b : Bool} : TruV K (.bl b) H b := rfl
mutual
theorem xv_D : ∀ (t : XT) {X : Cx} {sc : Scope} {i : Nat} {a : Addr} {n c : Str} {e : Expr}, chX sc n t e = true → t.needs (fun c C => gloB sc C = true → IXV X i a n C (subC c C)) (fun _ => True) c → PE X e (tXe i a (.bl (t.val c)))
  | .isx C, X, sc, i, a, n, c, e, h, nd => by
    unfold chX at h
    split at h
    · obtain ⟨h, h4⟩ := and2 h
      obtain ⟨h, h3⟩ := and2 h
      obtain ⟨h1, h2⟩ := and2 h
      have h1 := of_decide_eq_true h1
      have h2 := of_decide_eq_true h2
      have h3 := of_decide_eq_true h3
      subst h1 h2 h3
      unfold XT.needs at nd
      unfold XT.val
      exact nd.1 h4 _ _ _ _
    · cases h
  | .not t, X, sc, i, a, n, c, e, h, nd => by
    unfold chX at h
    split at h
    · unfold XT.needs at nd
      refine PE.imp (pe_notT (xv_D t h nd)) fun σ H Q w => ?_
      unfold XT.val at w
      exact ⟨w.1, _, truV_bl, w.2⟩
    · cases h
  | .and ts, X, sc, i, a, n, c, e, h, nd => by
    unfold chX at h
    split at h
    · obtain ⟨h1, h2⟩ := and2 h
      unfold XT.needs at nd
      unfold XT.val
      exact xvs_and ts h2 (by simpa using h1) nd _
    · cases h
  | .or ts, X, sc, i, a, n, c, e, h, nd => by
    unfold chX at h
    split at h
    · obtain ⟨h1, h2⟩ := and2 h
      unfold XT.needs at nd
      unfold XT.val
      exact xvs_or ts h2 (by simpa using h1) nd _
    · cases h
theorem xvs_and : ∀ (ts : List XT) {X : Cx} {sc : Scope} {i : Nat} {a : Addr} {n c : Str} {vs : List Expr}, chXs sc n ts vs = true → vs ≠ [] → XT.needsL (fun c C => gloB sc C = true → IXV X i a n C (subC c C)) (fun _ => True) c ts → ∀ pos, PE X (.BoolOp .And vs pos) (tXe i a (.bl (XT.allv c ts)))
  | [], X, sc, i, a, n, c, vs, h, ne, nd, pos => by
    unfold chXs at h
    rw [List.isEmpty_iff] at h
    exact absurd h ne
  | t :: ts, X, sc, i, a, n, c, [], h, ne, nd, pos => absurd rfl ne
  | [t], X, sc, i, a, n, c, v :: vs, h, ne, nd, pos => by
    unfold chXs at h
    obtain ⟨k1, k2⟩ := and2 h
    unfold chXs at k2
    rw [List.isEmpty_iff] at k2
    subst k2
    unfold XT.needsL at nd
    refine PE.imp (pe_one (xv_D t k1 nd.1)) fun σ H Q w => ?_
    unfold XT.allv XT.allv at w
    rw [Bool.and_true] at w
    exact w
  | t :: t' :: ts, X, sc, i, a, n, c, [v], h, ne, nd, pos => by
    simp only [chXs] at h
    cases (and2 h).2
  | t :: t' :: ts, X, sc, i, a, n, c, v :: v' :: vs, h, ne, nd, pos => by
    unfold chXs at h
    obtain ⟨k1, k2⟩ := and2 h
    unfold XT.needsL at nd
    refine PE.imp (pe_andT (xv_D t k1 nd.1) (xvs_and (t' :: ts) k2 (List.cons_ne_nil _ _) nd.2 pos)) fun σ H Q w => ?_
    obtain ⟨w1, w2⟩ := w
    refine ⟨w1, _, truV_bl, ?_⟩
    rw [XT.allv] at w2
    cases e : t.val c with
    | true => rw [e, Bool.true_and] at w2; exact ⟨w1, w2⟩
    | false => rw [e, Bool.false_and] at w2; exact w2
theorem xvs_or : ∀ (ts : List XT) {X : Cx} {sc : Scope} {i : Nat} {a : Addr} {n c : Str} {vs : List Expr}, chXs sc n ts vs = true → vs ≠ [] → XT.needsL (fun c C => gloB sc C = true → IXV X i a n C (subC c C)) (fun _ => True) c ts → ∀ pos, PE X (.BoolOp .Or vs pos) (tXe i a (.bl (XT.anyv c ts)))
  | [], X, sc, i, a, n, c, vs, h, ne, nd, pos => by
    unfold chXs at h
    rw [List.isEmpty_iff] at h
    exact absurd h ne
  | t :: ts, X, sc, i, a, n, c, [], h, ne, nd, pos => absurd rfl ne
  | [t], X, sc, i, a, n, c, v :: vs, h, ne, nd, pos => by
    unfold chXs at h
    obtain ⟨k1, k2⟩ := and2 h
    unfold chXs at k2
    rw [List.isEmpty_iff] at k2
    subst k2
    unfold XT.needsL at nd
    refine PE.imp (pe_one (xv_D t k1 nd.1)) fun σ H Q w => ?_
    unfold XT.anyv XT.anyv at w
    rw [Bool.or_false] at w
    exact w
  | t :: t' :: ts, X, sc, i, a, n, c, [v], h, ne, nd, pos => by
    simp only [chXs] at h
    cases (and2 h).2
  | t :: t' :: ts, X, sc, i, a, n, c, v :: v' :: vs, h, ne, nd, pos => by
    unfold chXs at h
    obtain ⟨k1, k2⟩ := and2 h
    unfold XT.needsL at nd
    refine PE.imp (pe_orT (xv_D t k1 nd.1) (xvs_or (t' :: ts) k2 (List.cons_ne_nil _ _) nd.2 pos)) fun σ H Q w => ?_
    obtain ⟨w1, w2⟩ := w
    refine ⟨w1, _, truV_bl, ?_⟩
    rw [XT.anyv] at w2
    cases e : t.val c with
    | true => rw [e, Bool.true_or] at w2; exact w2
    | false => rw [e, Bool.false_or] at w2; exact ⟨w1, w2⟩
end
theorem chXE_sel {N : List Str} {sc : Scope} {n : Str} {a : CE} {xs : List CE} {t : XT} {x : Expr} (h : chXE N sc n (.sel a xs t) x = true) : ∃ u ys lp ip te cp sp tk tp, x = .Tuple [u, .Subscript (.List ys lp) (.Call (.Name "int" ip) [te] [] cp) sp] tk tp ∧
    okX N sc false [] false a u = true ∧ okXs N sc false [] xs ys = true ∧ gloB sc "int" = true ∧ nsB te = true ∧ chX sc n t te = true := by
  simp only [chXE] at h
  split at h
  · obtain ⟨h, h6⟩ := and2 h
    obtain ⟨h, h5⟩ := and2 h
    obtain ⟨h, h4⟩ := and2 h
    obtain ⟨h, h3⟩ := and2 h
    obtain ⟨h1, h2⟩ := and2 h
    have h3 := of_decide_eq_true h3
    subst h3
    exact ⟨_, _, _, _, _, _, _, _, _, rfl, h1, h2, h4, h5, h6⟩
  · cases h
/-- what a suite returns -/
theorem xe_D {X : Cx} {N : List Str} {sc : Scope} {k : Nat} {i : Nat} {a : Addr} {n c : Str} {e : XE} {x : Expr} (G : Gd X N sc false W0 k) (h : chXE N sc n e x = true) (nd : e.needs (FC X k) (GC X) (LmOf X k))
    (nx : e.xts fun t => t.needs (fun c C => gloB sc C = true → IXV X i a n C (subC c C)) (fun _ => True) c) : PE X x (fun σ H Q => σ[i]? = some (some (.ref a)) ∧ tE X.K X.mg W0 [] (e.at c) σ H Q) := by
  cases e with
  | ce e => exact PE.imp (snd1 (okXE h) G nd) fun σ H Q w => w.2
  | sel a0 xs t =>
    obtain ⟨u, ys, lp, ip, te, cp, sp, tk, tp, rfl, h1, h2, h4, h5, h6⟩ := chXE_sel h
    · rw [okXs_eq] at h2
      have h1 := okXE h1
      have pa := snd1 h1 G nd.1
      have pl : PE X (.List ys lp) (tE X.K X.mg W0 [] (.lst xs)) := snd1 (e := .lst xs) (by unfold okE; exact h2) G (by unfold CE.needs; exact nd.2)
      have pt := xv_D t h6 nx
      have st : starEach [te] X.env = (false, eval te X.env) :: starEach [] X.env := by
        cases te <;> first | (cases h5; done) | rfl
      have pin := pe_callTy (pos := cp) (p := ip) call_int1 (gl_of G h4) (G.fr "int" (by decide +kernel)) (by decide +kernel) (pa_cons pt pa_nil st) (by decide) (by decide) st rfl
      have pix := pe_ix (pos := sp) ix_D pl pin (subs_of rfl)
      refine PE.imp (pe_tup (pa_cons pa (pa_cons pix pa_nil rfl) (star_of (okE_pl h1) _ _))) fun σ H Q w => ?_
      obtain ⟨w1, S, ρ, hS, hE, w⟩ := w
      unfold XE.at at w
      simp only [wpE, wpEs] at w
      refine tE_in hS hE w (fun d v H1 q p1 => ?_) fun x cls dd H' e sm xr => e cls dd H' sm xr
      have q' : wpE (.lst xs) ρ (fun d2 => ixD d2 (.int (if t.val c = true then 1 else 0)) fun d3 => [d, d3].length ≤ szl ∧ ∀ (v : V) (H' : Hp), Post X.K H S (CE.tup [a0, (CE.lst xs).ix (CE.int (if t.val c = true then 1 else 0))]).fresh (.tup [d, d3]) v H' → Q v H')
        (fun x => ∀ (cls : Value) (dd : Option Addr) (H' : Hp), Sm H H' → XRep X.K X.mg x cls dd → W0 cls dd σ H') := by unfold wpE; exact q
      refine tE_in (hS.mono p1.same) (hE.mono p1.same) q' (fun d2 v2 H2 q2 p2 => ?_) fun x cls dd H' e sm xr => e cls dd H' (p1.same.trans sm) xr
      refine ⟨w1, .inr ⟨_, rfl, ?_⟩⟩
      have hS2 := (hS.mono p1.same).mono p2.same
      refine ⟨S, d2, .int (if t.val c = true then 1 else 0), hS2, p2.rep, by unfold Rep; rfl, ixD_mono q2 fun d3 ⟨z, q3⟩ v3 H3 p3 => ⟨by rw [sizeLine_eq]; simp, fun b hb => ?_⟩⟩
      have sm3 := (p1.same.trans p2.same).trans p3.same
      exact q3 _ _ (Post.trans sm3 (post_tup (hS.mono sm3) (.cons (p1.rep.mono (p2.same.trans p3.same).hide) (.one p3.rep)) hb))
theorem hdl_D {X : Cx} {N : List Str} {sc : Scope} {k : Nat} {i : Nat} {a : Addr} {n c : Str} (G : Gd X N sc false W0 k) : ∀ (hs : List (XT × XE)) (last : XE) (ss : List Stmt), chH N sc n hs last ss = true → last.needs (FC X k) (GC X) (LmOf X k) → allP (fun p : XT × XE => p.2.needs (FC X k) (GC X) (LmOf X k)) hs →
    (last.xts fun t => t.needs (fun c C => gloB sc C = true → IXV X i a n C (subC c C)) (fun _ => True) c) →
    allP (fun p : XT × XE => p.1.needs (fun c C => gloB sc C = true → IXX X i a n C (subC c C)) (fun _ => True) c ∧ p.2.xts fun t => t.needs (fun c C => gloB sc C = true → IXV X i a n C (subC c C)) (fun _ => True) c) hs →
    PSs X ss (fun D σ H => σ[i]? = some (some (.ref a)) ∧ tE X.K X.mg W0 [] (hdl c hs last) σ H D.rt)
  | [], last, ss, h, n1, n2, n4, n3 => by
    unfold chH at h
    split at h
    · exact PSs.imp (pss_one (ps_ret (xe_D (c := c) G h n1 n4))) fun D σ H w => w
    · cases h
  | (t, r) :: hs, last, ss, h, n1, n2, n4, n3 => by
    unfold chH at h
    split at h
    · obtain ⟨h, h3⟩ := and2 h
      obtain ⟨h1, h2⟩ := and2 h
      unfold allP at n2 n3
      refine PSs.imp (pss_cons (ps_if (xt_D t h1 n3.1.1) (pss_one (ps_ret (xe_D (c := c) G h2 n2.1 n3.1.2))) pss_nil) (hdl_D G hs last _ h3 n1 n2.2 n4 n3.2)) fun D σ H w => ?_
      obtain ⟨w1, w2⟩ := w
      refine ⟨w1, ?_⟩
      unfold hdl at w2
      cases e : t.val c with
      | true => rw [e, if_pos rfl] at w2; exact ⟨w1, w2⟩
      | false => rw [e, if_neg Bool.false_ne_true] at w2; exact ⟨w1, w2⟩
    · cases h
mutual
theorem XT.needs_imp {M M' : Str → Str → Prop} {Z Z' : Str → Prop} {c : Str} (h : ∀ C, M c C → Z C → M' c C ∧ Z' C) : ∀ (t : XT), t.needs M Z c → t.needs M' Z' c
  | .isx C, n => by unfold XT.needs at *; exact h C n.1 n.2
  | .not t, n => by unfold XT.needs at *; exact XT.needs_imp h t n
  | .and ts, n => by unfold XT.needs at *; exact XT.needsL_imp h ts n
  | .or ts, n => by unfold XT.needs at *; exact XT.needsL_imp h ts n
theorem XT.needsL_imp {M M' : Str → Str → Prop} {Z Z' : Str → Prop} {c : Str} (h : ∀ C, M c C → Z C → M' c C ∧ Z' C) : ∀ (ts : List XT), XT.needsL M Z c ts → XT.needsL M' Z' c ts
  | [], n => by unfold XT.needsL at *; trivial
  | t :: ts, n => by unfold XT.needsL at *; exact ⟨XT.needs_imp h t n.1, XT.needsL_imp h ts n.2⟩
end
theorem allP_imp {α : Type} {P P' : α → Prop} (h : ∀ x, P x → P' x) : ∀ {l : List α}, allP P l → allP P' l
  | [], _ => trivial
  | x :: l, n => ⟨h x n.1, allP_imp h n.2⟩
theorem XE.xts_imp {P P' : XT → Prop} (h : ∀ t, P t → P' t) : ∀ {e : XE}, e.xts P → e.xts P'
  | .ce _, _ => trivial
  | .sel _ _ _, n => h _ n
section
variable {X : Cx} {N : List Str} {sc : Scope} {cm : Bool} {W : WX} {k : Nat} {Ef Lf fl : Fl}
/-- isinstance in a suite -/
theorem ix_both {a : Addr} {oe : Obj} {pn : List (Addr × Obj)} {C' c n : Str} {i : Nat} {D0 : Addr} (GS : Gd (X.suite a ((a, oe) :: pn)) N sc false W0 k) (hzc : Zc (.ref D0) none oe) (hfl : ∃ vs, oe.data = .fields vs) (m2 : X.mg c = some (.ref D0)) (hM : XiC X.K X.mg c C') (hZ : ∃ Cv cv, NamesV X.mg C' Cv cv)
    (hg : gloB sc C' = true) (c7 : gloB sc "isinstance" = true) (c3 : N[i]? = some n) (vis : Vis (X.suite a ((a, oe) :: pn)).env.scope n) (c5 : (n == ("__debug__" : Str)) = false) (c6 : (n == ("__classdict__" : Str)) = false) :
    IXX (X.suite a ((a, oe) :: pn)) i a n C' (subC c C') ∧ IXV (X.suite a ((a, oe) :: pn)) i a n C' (subC c C') := by
  obtain ⟨D2, z1, z2, z3⟩ := hM
  rw [m2] at z1
  cases z1
  obtain ⟨Cv', cv', hC'⟩ := hZ
  obtain ⟨_, z4⟩ := z3 _ _ hC'
  have hcls : ∀ p3, PE (X.suite a ((a, oe) :: pn)) (.Name C' p3) (tC Cv') := fun p3 => by
    rcases hC' with ⟨E, e1, e2, e3⟩ | ⟨e1, T, e2, e3, e4⟩
    · rw [e2]; exact pe_glob (gl_of GS hg) e1 rfl (gloB_ok hg).2.1
    · rw [e3]; exact pe_bltn (gl_of GS hg) e1 e2 rfl (gloB_ok hg).2.2 (gloB_ok hg).2.1
  have hcv : ∀ u, RelV Cv' u → u = cv' := by
    rcases hC' with ⟨E, e1, e2, e3⟩ | ⟨e1, T, e2, e3, e4⟩
    · intro u hu; rw [e2] at hu; rw [e3]; exact hu
    · intro u hu; rw [e3] at hu; rw [e4]; exact hu
  have hv : ∀ p2, PE (X.suite a ((a, oe) :: pn)) (.Name n p2) (tVar i) := fun p2 => pe_var (i := i) (by rw [GS.nn]; exact c3) vis c5 c6
  refine ⟨fun p1 p2 p3 pos => ?_, fun p1 p2 p3 pos => ?_⟩
  · refine PT.imp (pt_truth (pe_callB (call_isE z2 hzc hfl) (gl_of GS c7) (GS.fr "isinstance" (by decide +kernel)) PyProof.Rows.boot_isinstance (pa_cons (hv p2) (pa_cons (hcls p3) pa_nil rfl) rfl) (by decide) (by decide) rfl rfl) (by intro whole; rfl)) fun σ H Q w => ?_
    exact ⟨.ref a, w.1, Cv', cv', subC c C', rfl, hcv, z4, subC c C', rfl, w.2⟩
  · refine PE.imp (pe_callB (call_isE z2 hzc hfl) (gl_of GS c7) (GS.fr "isinstance" (by decide +kernel)) PyProof.Rows.boot_isinstance (pa_cons (hv p2) (pa_cons (hcls p3) pa_nil rfl) rfl) (by decide) (by decide) rfl rfl) fun σ H Q w => ?_
    exact ⟨.ref a, w.1, Cv', cv', subC c C', rfl, hcv, z4, w.2⟩
/-- the clauses: as they are laid, what they wish -/
theorem hds_D {all : List Str} (G : Gs X N sc cm W k) : ∀ (cls : List Hd) (hds : List ExceptHandler), chHd N sc cls hds = true → allP (fun h : Hd => h.needs (FC X k) (GC X) (LmOf X k) (ClX X k) all) cls →
    ∃ l, HdsX X hds l ∧ ∀ {He : Hp} {S0 : List Addr} {Vw : Hp} {Ef Lf : Fl} {r : FR} {D : Ends} {P : Pn}, Lk X W He S0 Vw Ef Lf r D P → ∀ {ρ' : DEnv} {x : Xn} {σ' : L2.St} {H' : Hp} {cl : Value} {dd : Option Addr}, x.c ∈ all → wpHds x ρ'.length (P.ex ρ' x) P.rt cls →
      ER X.K He S0 Vw Ef σ' H' ρ' → XRep X.K X.mg x cl dd → wHds X.K W D l cl dd σ' H'
  | [], hds, h, nd => by
    unfold chHd at h
    rw [List.isEmpty_iff] at h
    subst h
    refine ⟨[], .nil, ?_⟩
    intro He S0 Vw Ef Lf r D P L ρ' x σ' H' cl dd hx p w' xr
    exact L.ex _ _ _ _ _ _ p w' xr
  | hd :: cls, hds, h, nd => by
    unfold chHd at h
    split at h
    · rename_i y py nm suite ppos rest
      obtain ⟨h, h4⟩ := and2 h
      obtain ⟨h, h3⟩ := and2 h
      obtain ⟨h1, h2⟩ := and2 h
      have h1 := of_decide_eq_true h1
      subst h1
      obtain ⟨⟨hz, hm, n1, n2⟩, nd⟩ := nd
      obtain ⟨l, hl, hq⟩ := hds_D G cls rest h4 nd
      obtain ⟨Cv, cv, hC⟩ := hz
      have hNm : Names X hd.c cv := ⟨gl_of G.toGd h2, (gloB_ok h2).2.1, by
        rcases hC with ⟨E, e1, _, e2⟩ | ⟨e1, T, e2, _, e3⟩
        · exact .inl (by rw [e1, e2])
        · exact .inr ⟨e1, by rw [e2, e3], (gloB_ok h2).2.2⟩⟩
      cases ei : hd.i with
      | some i =>
        rw [ei] at h3
        cases nm with
        | none => cases h3
        | some n =>
        obtain ⟨h3, c9⟩ := and2 h3
        obtain ⟨h3, c7⟩ := and2 h3
        obtain ⟨h3, c6⟩ := and2 h3
        obtain ⟨h3, c5⟩ := and2 h3
        obtain ⟨c3, c4⟩ := and2 h3
        have c3 := of_decide_eq_true c3
        have c4 := of_decide_eq_true c4
        have kN : X.env.kindOf n = some .local := by unfold Env.kindOf; rw [G.sc]; exact c4
        obtain ⟨b0, bs, rfl⟩ : ∃ b0 bs, suite = b0 :: bs := by
          cases suite with
          | nil => cases e : hd.hs <;> simp [e, chH] at c9
          | cons b0 bs => exact ⟨b0, bs, rfl⟩
        refine ⟨(cv, some i, fun a cls d D σ H => ∃ c D0, c ∈ all ∧ X.mg c = some (.ref D0) ∧ cls = .ref D0 ∧ d = none ∧ σ[i]? = some (some (.ref a)) ∧ tE X.K X.mg W0 [] (hdl c hd.hs hd.last) σ H D.rt) :: l, .named hNm (by rw [G.nn]; exact c3) kN (fun a oe cls d pn hzc hfl => ?_) hl, ?_⟩
        · refine ⟨fun pins s σ H D I w => ?_⟩
          obtain ⟨c, D0, m1, m2, rfl, rfl, w1, w2⟩ := w
          obtain ⟨x1, x3, x2⟩ := allP_mem hm m1
          have GS : Gd (X.suite a ((a, oe) :: pn)) N sc false W0 k := { nn := G.nn, nd := G.nd, sc := G.sc, tk := fun u s' x => by obtain ⟨_, _, _, _, _, _, _, _, _, _, _, _, _, _, _, _, z⟩ := x; exact z, cm := fun z => Bool.noConfusion z, hu := G.hu, fr := G.fr }
          have vis : Vis (X.suite a ((a, oe) :: pn)).env.scope n := .inl (by show X.env.scope.names.lookup n = _; rw [G.sc]; exact c4)
          have both := fun C' hM hZ hg => ix_both (C' := C') (c := c) (i := i) GS hzc hfl m2 hM hZ hg c7 c3 vis (by simpa using c5) (by simpa using c6)
          exact (hdl_D (c := c) GS hd.hs hd.last _ c9 n1 n2 (XE.xts_imp (fun t ht => XT.needs_imp (fun C' hM hZ => ⟨fun hg => (both C' hM hZ hg).2, trivial⟩) t ht) x3)
            (allP_imp (fun p hp => ⟨XT.needs_imp (fun C' hM hZ => ⟨fun hg => (both C' hM hZ hg).1, trivial⟩) p.1 hp.1, XE.xts_imp (fun t ht => XT.needs_imp (fun C' hM hZ => ⟨fun hg => (both C' hM hZ hg).2, trivial⟩) t ht) hp.2⟩) x2)).run pins s σ H D I ⟨w1, w2⟩
        · intro He S0 Vw Ef Lf r D P L ρ' x σ' H' cl dd hx p w' xr
          obtain ⟨x1, x3, x2⟩ := allP_mem hm hx
          obtain ⟨D1, y1, y2, y3⟩ := x1
          obtain ⟨D2, z1, z2, z3, z4⟩ := id xr
          rw [y1] at z1
          cases z1
          subst z2 z4
          obtain ⟨z5, _⟩ := y3 _ _ hC
          unfold wpHds at p
          refine ⟨subC x.c hd.c, z5, fun hb a ha => ?_, fun hb => ?_⟩
          · rw [if_pos hb] at p
            obtain ⟨O, w'⟩ := w'
            have il : i < σ'.length := by rw [w'.len]; exact p.1 i ei
            refine ⟨x.c, D1, hx, y1, rfl, rfl, by rw [List.getElem?_set_self il], S0, List.replicate ρ'.length none, w'.sok0, ⟨by simp [w'.len], fun j d e => ?_⟩, wpE_mono _ p.2 (fun d ⟨hd, pr⟩ v H2 pp => ?_) fun _ z => z.elim⟩
            · rw [List.getElem?_replicate] at e
              split at e <;> cases e
            · exact L.rt false d v H2 pr ((pp.trans w'.same).nocont hd) fun z => by cases z
          · rw [if_neg (by rw [hb]; simp)] at p
            exact hq L hx p w' xr
      | none =>
        rw [ei] at h3
        cases nm with
        | some n => cases h3
        | none =>
        obtain ⟨h3, c9⟩ := and2 h3
        obtain ⟨c3, c4⟩ := and2 h3
        rw [List.isEmpty_iff] at c3
        rw [c3] at c9
        obtain ⟨e, le⟩ : ∃ e, hd.last = .ce e := by
          cases z : hd.last with
          | ce e => exact ⟨e, rfl⟩
          | sel _ _ _ => rw [z] at c4; cases c4
        rw [le] at c9 n1
        unfold chH at c9
        split at c9
        · rename_i x0 rp
          refine ⟨(cv, none, fun a cls d D σ H => tE X.K X.mg W0 [] e σ H D.rt) :: l, .plain hNm (fun a oe cls d pn hzc hfl => ?_) hl, ?_⟩
          · have GS : Gd (X.suite a ((a, oe) :: pn)) N sc false W0 k := { nn := G.nn, nd := G.nd, sc := G.sc, tk := fun u s' x => by obtain ⟨_, _, _, _, _, _, _, _, _, _, _, _, _, _, _, _, z⟩ := x; exact z, cm := fun z => Bool.noConfusion z, hu := G.hu, fr := G.fr }
            exact PSs.imp (pss_one (ps_ret (snd1 (okXE c9) GS n1))) fun D σ H w => w
          · intro He S0 Vw Ef Lf r D P L ρ' x σ' H' cl dd hx p w' xr
            obtain ⟨x1, x3, x2⟩ := allP_mem hm hx
            obtain ⟨D1, y1, y2, y3⟩ := x1
            obtain ⟨D2, z1, z2, z3, z4⟩ := id xr
            rw [y1] at z1
            cases z1
            subst z2 z4
            obtain ⟨z5, _⟩ := y3 _ _ hC
            unfold wpHds at p
            rw [c3, le] at p
            refine ⟨subC x.c hd.c, z5, fun hb a ha => ?_, fun hb => ?_⟩
            · rw [if_pos hb] at p
              obtain ⟨O, w'⟩ := w'
              refine ⟨S0, List.replicate ρ'.length none, w'.sok0, ⟨by simp [w'.len], fun j d e => ?_⟩, wpE_mono _ p.2 (fun d ⟨hd, pr⟩ v H2 pp => ?_) fun _ z => z.elim⟩
              · rw [List.getElem?_replicate] at e
                split at e <;> cases e
              · exact L.rt false d v H2 pr ((pp.trans w'.same).nocont hd) fun z => by cases z
            · rw [if_neg (by rw [hb]; simp)] at p
              exact hq L hx p w' xr
        · cases c9
    · cases h
theorem tryx_D {body : List CS} {all : List Str} {cls : List Hd} {s : Stmt} {r : FR} (hst : X.stack = X.env :: X.outer) (hfr : X.env.frame = some X.env.locals) (G : Gs X N sc cm W k)
    (nd : allP (fun h : Hd => h.needs (FC X k) (GC X) (LmOf X k) (ClX X k) all) cls)
    (ih : ∀ (pn : List (Addr × Obj)) (xe : Value → Shared → Prop) (W' : WX), Gs (X.tr pn xe) N sc cm W' k → ∀ ss Lf fl r, chB N sc cm Ef body ss Lf fl = r → r ≠ .bad → PSs (X.tr pn xe) ss (tS (X.tr pn xe) W' Ef Lf fl r (wpB body)))
    (h : chS N sc cm Ef (.tryx body all cls) s Lf fl = r) (hr : r ≠ .bad) : PS X s (tS X W Ef Lf fl r (wpS (.tryx body all cls))) := by
  unfold chS at h
  split at h
  · rename_i bd hds pos
    split at h
    · rename_i hc
      obtain ⟨hc, c3⟩ := and2 hc
      obtain ⟨c1, c2⟩ := and2 hc
      obtain ⟨l, hl, hq⟩ := hds_D G cls hds c2 nd
      cases hds with
      | nil =>
        cases cls with
        | nil => cases c1
        | cons _ _ => unfold chHd at c2; cases c2
      | cons h0 hds =>
        refine PS.imp (ps_try_hds (tb := fun W' => tS X W' Ef Lf fl r (wpB body)) hst hfr (by rw [G.nn]; exact G.nd) G.tk (fun W' pn xe tk ps => ?_) hl) ?_
        · refine PSs.imp (ih pn xe W' { nn := G.nn, nd := G.nd, sc := G.sc, tk := tk, cm := G.cm, hu := G.hu, fr := G.fr, ps := ps, fn := G.fn } bd Lf fl r h hr) ?_
          rintro D σ H ⟨He, S0, Vw, ρ, P, w, q, L⟩
          exact ⟨He, S0, Vw, ρ, P, w, q, ⟨L.nx, L.rt, L.bk, L.ct, L.ex⟩⟩
        · rintro D σ H ⟨He, S0, Vw, ρ, P, w, q, L⟩
          unfold wpS at q
          exact ⟨He, S0, Vw, ρ, _, w, q, ⟨L.nx, L.rt, L.bk, L.ct, fun ρ' x σ' H' cls dd p w' xr => hq L p.1 p.2 w' xr⟩⟩
    · exact absurd h.symm hr
  · exact absurd h.symm hr
end
end Dl

/-! DlStm3: loops, blocks: the whole. -/
namespace Dl
open PySem PySem.Spec PyProof.Rows L2
variable [Tbs]
section
variable {X : Cx} {N : List Str} {sc : Scope} {cm : Bool} {W : WX} {k : Nat} {Ef Lf fl : Fl}
theorem for_D {t : CT} {it : CE} {rd : List Nat} {body : List CS} {s : Stmt} {r : FR} (G : Gs X N sc cm W k) (nd : it.needs (FC X k) (GC X) (LmOf X k))
    (ih : ∀ ss Lf fl r, chB N sc cm Ef body ss Lf fl = r → r ≠ .bad → PSs X ss (tS X W Ef Lf fl r (wpB body)))
    (h : chS N sc cm Ef (.for_ t it rd body) s Lf fl = r) (hr : r ≠ .bad) : PS X s (tS X W Ef Lf fl r (wpS (.for_ t it rd body))) := by
  unfold chS at h
  split at h
  · rename_i tg iter bd pos
    split at h
    · rename_i hc
      obtain ⟨hc, c5⟩ := and2 hc
      obtain ⟨hc, c4⟩ := and2 hc
      obtain ⟨hc, c3⟩ := and2 hc
      obtain ⟨c1, c2⟩ := and2 hc
      have c5 := okXI c5
      obtain ⟨calm, _⟩ := G.cm c1
      split at h
      · rename_i f hf
        obtain ⟨l1, l2⟩ := loopF_ok hf
        have hg : PG X tg (gD X.K t) := pg_D G.nn G.nd G.sc calm (fun x h1 _ => G.fn x (by rw [G.sc]; exact h1)) t _ c2
        have hi := (soundE it c5 G.toGd nd).2 tg
        have hss : ∀ x, foldedSetIterable iter X.env x = pure x := by
          intro x
          cases iter <;> first | rfl | (cases it <;> simp [okI, okE] at c5)
        obtain ⟨rb, hb, hrb, hlk⟩ : ∃ rb, chB N sc cm Ef body bd f f = rb ∧ rb ≠ .bad ∧ ∀ fl', rb = .ok fl' → ∀ i ∈ f, i ∈ fl' := by
          rcases l2 with z | ⟨fl2, z, sub⟩
          · exact ⟨_, rfl, by rw [z]; simp, fun fl' e => by rw [z] at e; cases e⟩
          · exact ⟨_, rfl, by rw [z]; simp, fun fl' e => by rw [z] at e; cases e; exact sub⟩
        have f1 : ∀ i ∈ f, i ∈ fl ∧ i ∉ rd ∧ i ∉ t.slots := fun i hi => by
          obtain ⟨a, b⟩ := minus_mem.mp (l1 i hi)
          obtain ⟨a, c⟩ := minus_mem.mp a
          exact ⟨a, c, b⟩
        refine PS.imp (ps_for G.ps calm hi hg (ih bd f f rb hb hrb) hss) ?_
        rintro D σ H ⟨He, S0, Vw, ρ, P, ⟨O, w⟩, q, L⟩
        unfold wpS at q
        refine ⟨_, ρ, w.sokF (minus fl rd), w.ev (minus fl rd), wpE_mono it q (fun d ⟨xs, e, q⟩ => ⟨xs, e, fun J H1 sm dr => ?_⟩) fun x e cls dd H' sm xr => L.exE w c3 e cls dd H' sm xr⟩
        have w1 := (w.weak f fun i hi => (f1 i hi).1).grow sm
        have hVf : Same Vw (hide H1 (adr (O.filter fun p => f.contains p.1) S0)) := w1.vis
        have dr' : DrawsD X.K (hide H1 (adr (O.filter fun p => f.contains p.1) S0)) J xs := dr.mono (hide_more (adr_sub fun p hp => by
          obtain ⟨p1, p2⟩ := List.mem_filter.mp hp
          refine List.mem_filter.mpr ⟨p1, ?_⟩
          have p2' : p.1 ∈ f := by simpa using p2
          have : p.1 ∈ minus fl rd := minus_mem.mpr ⟨(f1 _ p2').1, (f1 _ p2').2.1⟩
          simpa using this))
        obtain ⟨V1, hV1⟩ : ∃ V, V = hide H1 (adr (O.filter fun p => f.contains p.1) S0) := ⟨_, rfl⟩
        rw [← hV1] at hVf dr'
        have w2 : ER X.K He S0 V1 f σ H1 ρ := ⟨_, w1.len, w1.same, w1.s0, w1.own, by rw [hV1]; exact Same.refl _, w1.rep⟩
        refine ⟨fun i m σ H => m = xs.length - i ∧ i ≤ xs.length ∧ ∃ ρ, ER X.K He S0 V1 f σ H ρ ∧ wpFor (fun x ρ P => ∃ ρ', asgT t x ρ = some ρ' ∧ wpB body ρ' P) (xs.drop i) ρ P, ⟨xs.length, by simp, Nat.zero_le _, ρ, w2, by simpa using q⟩, ?_⟩
        rintro i m σ H ⟨rfl, hi, ρ, ⟨O2, w3⟩, q⟩
        have sm3 : Same V1 H := w3.vis.trans hide_le
        by_cases hlt : i < xs.length
        · rw [List.drop_eq_getElem_cons hlt] at q
          unfold wpFor at q
          obtain ⟨ρ', ha, q⟩ := q
          refine .inr ⟨dr'.go i H sm3 hlt, fun σ H => ∃ ρ, ER X.K He S0 V1 f σ H ρ ∧ wpFor (fun x ρ P => ∃ ρ', asgT t x ρ = some ρ' ∧ wpB body ρ' P) (xs.drop (i + 1)) ρ P, fun σ' H' ⟨ρ, a, b⟩ => ⟨xs.length - (i + 1), by omega, rfl, hlt, ρ, a, b⟩, fun x H' y => ?_⟩
          obtain ⟨e1, rp⟩ := dr'.yld i H x H' sm3 y
          subst e1
          have rp := rp _ (List.getElem?_eq_getElem hlt)
          refine ⟨adr (O2.filter fun p => f.contains p.1) S0, _, ρ, ρ', rp.mono (w3.vis.trans (hide_more (adr_sub fun p hp => (List.mem_filter.mp hp).1))), ha, w3.len, fun σ' a => ?_⟩
          refine ⟨He, S0, V1, ρ', _, ⟨_, w3.store (sl := t.slots) (fl' := f) (fun i hi => ⟨hi, (f1 i hi).2.2⟩) a.len a.lenr a.out a.inn⟩, q, ?_⟩
          refine ⟨fun fl' e ρ σ H p w => ⟨ρ, w.weak (hlk fl' e), p⟩, L.rt, fun ρ σ H p w => L.nx _ h.symm _ _ _ p (w.vw hVf), fun ρ σ H p w => ⟨ρ, w, p⟩, fun ρ x σ H cls dd p w xr => L.ex ρ x σ H cls dd p (w.vw hVf) xr⟩
        · have ei : i = xs.length := by omega
          subst ei
          rw [List.drop_length] at q
          unfold wpFor at q
          exact .inl ⟨dr'.stop _ H sm3 (Nat.le_refl _), L.nx _ h.symm _ _ _ q (ER.vw ⟨_, w3⟩ hVf)⟩
      · exact absurd h.symm hr
    · exact absurd h.symm hr
  · exact absurd h.symm hr
theorem whl_D {c : CE} {body : List CS} {s : Stmt} {r : FR} (G : Gs X N sc cm W k) (nd : c.needs (FC X k) (GC X) (LmOf X k))
    (ih : ∀ ss Lf fl r, chB N sc cm Ef body ss Lf fl = r → r ≠ .bad → PSs X ss (tS X W Ef Lf fl r (wpB body)))
    (h : chS N sc cm Ef (.whl c body) s Lf fl = r) (hr : r ≠ .bad) : PS X s (tS X W Ef Lf fl r (wpS (.whl c body))) := by
  unfold chS at h
  split at h
  · rename_i tst bd pos
    split at h
    · rename_i hc
      obtain ⟨hc, c3⟩ := and2 hc
      obtain ⟨c1, c2⟩ := and2 hc
      have c3 := okXE c3
      split at h
      · rename_i f hf
        split at h
        · rename_i sE
          obtain ⟨l1, l2⟩ := loopF_ok hf
          obtain ⟨rb, hb, hrb, hlk⟩ : ∃ rb, chB N sc cm Ef body bd f f = rb ∧ rb ≠ .bad ∧ ∀ fl', rb = .ok fl' → ∀ i ∈ f, i ∈ fl' := by
            rcases l2 with z | ⟨fl2, z, sub⟩
            · exact ⟨_, rfl, by rw [z]; simp, fun fl' e => by rw [z] at e; cases e⟩
            · exact ⟨_, rfl, by rw [z]; simp, fun fl' e => by rw [z] at e; cases e; exact sub⟩
          refine PS.imp (ps_while G.ps (sndT c3 G.toGd nd) (ih bd f f rb hb hrb)) ?_
          rintro D σ H ⟨He, S0, Vw, ρ, P, w, q, L⟩
          unfold wpS at q
          obtain ⟨n, q⟩ := q
          refine ⟨fun m σ H => ∃ ρ, ER X.K He S0 Vw f σ H ρ ∧ wpWhl (wpT c) (wpB body) m ρ P, ⟨n, ρ, w.weak l1, q⟩, ?_⟩
          rintro m σ H ⟨ρ, ⟨O, w⟩, q⟩
          cases m with
          | zero => exact q.elim
          | succ m =>
            unfold wpWhl at q
            refine tT_in w.sok0 w.ev0 q (fun b H' q sm => ?_) fun x cls dd H' e sm xr => L.exE w sE e cls dd H' sm xr
            split
            · rename_i hb'
              rw [if_pos hb'] at q
              refine ⟨fun σ H => ∃ ρ, ER X.K He S0 Vw f σ H ρ ∧ wpWhl (wpT c) (wpB body) m ρ P, fun σ' H' w => ⟨m, Nat.lt_succ_self m, w⟩, He, S0, Vw, ρ, _, ⟨_, w.grow sm⟩, q, ?_⟩
              exact ⟨fun fl' e ρ σ H p w => ⟨ρ, w.weak (hlk fl' e), p⟩, L.rt, fun ρ σ H p w => L.nx _ h.symm _ _ _ p w, fun ρ σ H p w => ⟨ρ, w, p⟩, L.ex⟩
            · rename_i hb'
              rw [if_neg hb'] at q
              exact L.nx _ h.symm _ _ _ q ⟨_, w.grow sm⟩
        · exact absurd h.symm hr
      · exact absurd h.symm hr
    · exact absurd h.symm hr
  · exact absurd h.symm hr
end
mutual
theorem soundS : ∀ (c : CS) {X : Cx} {N : List Str} {sc : Scope} {cm : Bool} {W : WX} {k : Nat} {Ef : Fl} (s : Stmt) (Lf fl : Fl) (r : FR), Gs X N sc cm W k → c.needs (FC X k) (GC X) (LmOf X k) (ClX X k) → X.stack = X.env :: X.outer → X.env.frame = some X.env.locals → chS N sc cm Ef c s Lf fl = r → r ≠ .bad → PS X s (tS X W Ef Lf fl r (wpS c))
  | .asg i e rd ls, X, N, sc, cm, W, k, Ef, s, Lf, fl, r, G, nd, hst, hfr, h, hr => asg_D G (by unfold CS.needs at nd; exact nd) h hr
  | .asgT t e rd ls, X, N, sc, cm, W, k, Ef, s, Lf, fl, r, G, nd, hst, hfr, h, hr => asgT_D G (by unfold CS.needs at nd; exact nd) h hr
  | .par i j a b, X, N, sc, cm, W, k, Ef, s, Lf, fl, r, G, nd, hst, hfr, h, hr => par_D G (by unfold CS.needs at nd; exact nd) h hr
  | .app i e rd ls, X, N, sc, cm, W, k, Ef, s, Lf, fl, r, G, nd, hst, hfr, h, hr => app_D G (by unfold CS.needs at nd; exact nd) h hr
  | .clr i, X, N, sc, cm, W, k, Ef, s, Lf, fl, r, G, nd, hst, hfr, h, hr => clr_D G h hr
  | .ext i j, X, N, sc, cm, W, k, Ef, s, Lf, fl, r, G, nd, hst, hfr, h, hr => ext_D G h hr
  | .drop e, X, N, sc, cm, W, k, Ef, s, Lf, fl, r, G, nd, hst, hfr, h, hr => drop_D G (by unfold CS.needs at nd; exact nd) h hr
  | .ret e fr, X, N, sc, cm, W, k, Ef, s, Lf, fl, r, G, nd, hst, hfr, h, hr => ret_D G (by unfold CS.needs at nd; exact nd) h hr
  | .retN, X, N, sc, cm, W, k, Ef, s, Lf, fl, r, G, nd, hst, hfr, h, hr => by
    unfold chS at h
    split at h
    · refine PS.imp ps_retN ?_
      rintro D σ H ⟨He, S0, Vw, ρ, P, ⟨O, w⟩, q, L⟩
      unfold wpS at q
      exact L.rt false .non .non H q ⟨w.same, by unfold Rep; rfl, fun _ => trivial⟩ fun z => by cases z
    · exact absurd h.symm hr
  | .ifs c a b, X, N, sc, cm, W, k, Ef, s, Lf, fl, r, G, nd, hst, hfr, h, hr => by
    unfold CS.needs at nd
    unfold chS at h
    split at h
    · split at h
      · rename_i hc
        obtain ⟨c1, c2⟩ := and2 hc
        have c2 := okXE c2
        rw [← h] at hr
        obtain ⟨ra, rb⟩ := join_l hr
        refine PS.imp (ps_if (sndT c2 G.toGd nd.1) (soundB a _ Lf fl _ G nd.2.1 hst hfr rfl ra) (soundB b _ Lf fl _ G nd.2.2 hst hfr rfl rb)) ?_
        rintro D σ H ⟨He, S0, Vw, ρ, P, ⟨O, w⟩, q, L⟩
        unfold wpS at q
        rw [← h] at L
        refine tT_in w.sok0 w.ev0 q (fun k H' q sm => ?_) fun x cls dd H' e sm xr => L.exE w c1 e cls dd H' sm xr
        split
        · rename_i hk
          rw [if_pos hk] at q
          exact ⟨He, S0, Vw, ρ, P, ⟨_, w.grow sm⟩, q, L.of fun fl' e => join_okl rb e⟩
        · rename_i hk
          rw [if_neg hk] at q
          exact ⟨He, S0, Vw, ρ, P, ⟨_, w.grow sm⟩, q, L.of fun fl' e => join_okr ra e⟩
      · exact absurd h.symm hr
    · exact absurd h.symm hr
  | .for_ t it rd body, X, N, sc, cm, W, k, Ef, s, Lf, fl, r, G, nd, hst, hfr, h, hr => by
    unfold CS.needs at nd
    exact for_D G nd.1 (fun ss Lf fl r h hr => soundB body ss Lf fl r G nd.2 hst hfr h hr) h hr
  | .whl c body, X, N, sc, cm, W, k, Ef, s, Lf, fl, r, G, nd, hst, hfr, h, hr => by
    unfold CS.needs at nd
    exact whl_D G nd.1 (fun ss Lf fl r h hr => soundB body ss Lf fl r G nd.2 hst hfr h hr) h hr
  | .brk, X, N, sc, cm, W, k, Ef, s, Lf, fl, r, G, nd, hst, hfr, h, hr => by
    unfold chS at h
    split at h
    · split at h
      · rename_i hs
        refine PS.imp ps_break ?_
        rintro D σ H ⟨He, S0, Vw, ρ, P, w, q, L⟩
        unfold wpS at q
        exact L.bk _ _ _ q (w.weak (subF_ok hs))
      · exact absurd h.symm hr
    · exact absurd h.symm hr
  | .cnt, X, N, sc, cm, W, k, Ef, s, Lf, fl, r, G, nd, hst, hfr, h, hr => by
    unfold chS at h
    split at h
    · split at h
      · rename_i hs
        refine PS.imp ps_continue ?_
        rintro D σ H ⟨He, S0, Vw, ρ, P, w, q, L⟩
        unfold wpS at q
        exact L.ct _ _ _ q (w.weak (subF_ok hs))
      · exact absurd h.symm hr
    · exact absurd h.symm hr
  | .pass, X, N, sc, cm, W, k, Ef, s, Lf, fl, r, G, nd, hst, hfr, h, hr => by
    unfold chS at h
    split at h
    · refine PS.imp ps_pass ?_
      rintro D σ H ⟨He, S0, Vw, ρ, P, w, q, L⟩
      unfold wpS at q
      exact L.nx _ h.symm _ _ _ q w
    · exact absurd h.symm hr
  | .rse c, X, N, sc, cm, W, k, Ef, s, Lf, fl, r, G, nd, hst, hfr, h, hr => rse_D G (by unfold CS.needs at nd; exact nd) h hr
  | .tryx body all cls, X, N, sc, cm, W, k, Ef, s, Lf, fl, r, G, nd, hst, hfr, h, hr => by
    unfold CS.needs at nd
    obtain ⟨n1, n2⟩ := nd
    exact tryx_D hst hfr G n2 (fun pn xe W' G' ss Lf fl r h hr => soundB body (X := X.tr pn xe) ss Lf fl r G' n1 hst hfr h hr) h hr
  | .pop j i, X, N, sc, cm, W, k, Ef, s, Lf, fl, r, G, nd, hst, hfr, h, hr => pop_D G h hr
  | .put i ke e, X, N, sc, cm, W, k, Ef, s, Lf, fl, r, G, nd, hst, hfr, h, hr => put_D G (by unfold CS.needs at nd; exact nd) h hr
  | .asgP i j f sp es rd ls, X, N, sc, cm, W, k, Ef, s, Lf, fl, r, G, nd, hst, hfr, h, hr => asgP_D G (by unfold CS.needs at nd; exact nd) h hr
theorem soundB : ∀ (c : List CS) {X : Cx} {N : List Str} {sc : Scope} {cm : Bool} {W : WX} {k : Nat} {Ef : Fl} (s : List Stmt) (Lf fl : Fl) (r : FR), Gs X N sc cm W k → CS.needsL (FC X k) (GC X) (LmOf X k) (ClX X k) c → X.stack = X.env :: X.outer → X.env.frame = some X.env.locals → chB N sc cm Ef c s Lf fl = r → r ≠ .bad → PSs X s (tS X W Ef Lf fl r (wpB c))
  | [], X, N, sc, cm, W, k, Ef, s, Lf, fl, r, G, nd, hst, hfr, h, hr => by
    unfold chB at h
    split at h
    · rename_i hs
      rw [List.isEmpty_iff] at hs
      subst hs
      refine PSs.imp pss_nil ?_
      rintro D σ H ⟨He, S0, Vw, ρ, P, w, q, L⟩
      unfold wpB at q
      exact L.nx _ h.symm _ _ _ q w
    · exact absurd h.symm hr
  | c :: cs, X, N, sc, cm, W, k, Ef, [], Lf, fl, r, G, nd, hst, hfr, h, hr => by
    unfold chB at h
    exact absurd h.symm hr
  | c :: cs, X, N, sc, cm, W, k, Ef, s :: ss, Lf, fl, r, G, nd, hst, hfr, h, hr => by
    unfold CS.needsL at nd
    simp only [chB] at h
    split at h
    · exact absurd h.symm hr
    · rename_i e
      refine PSs.imp (pss_cons (soundS c s Lf fl _ G nd.1 hst hfr e (by simp)) pss_never) ?_
      rintro D σ H ⟨He, S0, Vw, ρ, P, w, q, L⟩
      unfold wpB at q
      exact ⟨He, S0, Vw, ρ, _, w, q, ⟨fun fl' e => (by cases e), L.rt, L.bk, L.ct, L.ex⟩⟩
    · rename_i fl' e
      refine PSs.imp (pss_cons (soundS c s Lf fl _ G nd.1 hst hfr e (by simp)) (soundB cs ss Lf fl' r G nd.2 hst hfr h hr)) ?_
      rintro D σ H ⟨He, S0, Vw, ρ, P, w, q, L⟩
      unfold wpB at q
      exact ⟨He, S0, Vw, ρ, _, w, q, ⟨fun fl2 e2 ρ' σ' H' p w' => (by cases e2; exact ⟨He, S0, Vw, ρ', P, w', p, L⟩), L.rt, L.bk, L.ct, L.ex⟩⟩
end
end Dl

/-! DlFn: a def keeps its spec. -/
namespace Dl
open PySem PySem.Spec PyProof.Rows L2
variable [Tbs]
section
variable {P : Program} {w : World} {K : PySem.W.Frag} {mg : Str → Option Value} {base : Heap} {k : Nat} {x qual : Str} {params : Arguments} {body : List Stmt} {scope : Scope} {dvs : List V} {kws : List (Str × V)} {f : Addr} {fd : FuncData} {N ps : List Str}
theorem start_get {n : Nat} {ds : List D} {i : Nat} {d : D} (h : (Dl.start n ds)[i]? = some (some d)) : ds[i]? = some d := by
  unfold Dl.start at h
  by_cases hi : i < ds.length
  · rw [List.getElem?_append_left (by simpa using hi), List.getElem?_map] at h
    cases e : ds[i]? with
    | none => rw [e] at h; cases h
    | some d' => rw [e] at h; cases h; rfl
  · rw [List.getElem?_append_right (by simpa using hi), List.getElem?_replicate] at h
    split at h <;> cases h
/-- the def's lambdas may be laid -/
def LamF (mg : Str → Option Value) (base : Heap) (q : Str) (fd : FuncData) : Prop := ∃ c P, fd.code = .ref c ∧ LamX.TabB base mg c P ∧ (P, q ++ "<lambda>") ∈ Tbs.T ∧ ∀ p ∈ Tbs.T, p.1 = P → p.2 = q ++ "<lambda>"
/-- the qualified name's part within the def -/
def locQ (qual : Str) (scope : Scope) : Str := (envOfC qual scope 0 0 .none).qual
abbrev LmF (P : Program) (w : World) (K : PySem.W.Frag) (mg : Str → Option Value) (base : Heap) (k : Nat) (q : Str) (fd : FuncData) : Lm := ⟨LamF mg base q fd ∧ 1 ≤ k, fun f n sp => FnC P w K mg base (k - 1) f n sp⟩
theorem fnOk_G {cs : List CS} {spx : Sp} (F : FunD K x qual params body scope dvs kws f fd) (S : FnScope N ps scope) (hfree : ∀ x ∈ freeNames, mg x = none) (hch : (chB N scope true [] cs body [] []).isBad = false)
    (nd : CS.needsL (fun f n sp => FnC P w K mg base k f n sp) (GlC K mg) (LmF P w K mg base k (locQ qual scope) fd) (ClOf K mg fun f n sp => FnCP P w K mg base k f n sp) cs) (hlen : ∀ vs H Q E, spx vs H Q E → vs.length = ps.length)
    (hrun : ∀ vs H Q E, spx vs H Q E → ∃ S0 ds Pe, SOk H S0 ∧ Reps K (hide H S0) ds vs ∧ wpB cs (Dl.start N.length ds) Pe ∧ (∀ ρ, Pe.nx ρ → ∀ H', Sm H H' → Q .non H') ∧ (∀ b d v H', Pe.rt b d → Post K H S0 true d v H' → (b = true → Deep K H S0 d v H') → Q v H') ∧
      (∀ ρ, ¬ Pe.bk ρ) ∧ (∀ ρ, ¬ Pe.ct ρ) ∧ ∀ ρ x, Pe.ex ρ x → ∀ cls dd H', Sm H H' → XRep K mg x cls dd → E cls dd H') : FnOk P w K mg base (L2.CX P w) (k + 1) f fd ps spx := by
  obtain ⟨oc, od, dV, kV, doc, pm, an, cdv, ct, osl, efd, lk, hcd, _, _⟩ := F.ex
  subst efd
  refine fn_of lk hcd S hlen fun A outer s H vs Q E hr hsp => ⟨tS (cxOf (L2.CX P w) P w K mg base N qual scope f cdv A outer s H E) (fun cls d _ H => E cls d H) [] [] [] _ (wpB cs), soundB (k := k) (sc := scope) (cm := true) (N := N) cs body [] [] _ ?_ nd rfl rfl rfl (fun e => by rw [e] at hch; cases hch), ?_⟩
  · exact { nn := rfl, nd := S.nd, sc := rfl, tk := takes_of rfl rfl rfl rfl, cm := fun _ => ⟨rfl, hr⟩, hu := by have := hr.un; show (A.deeper (envOfC qual scope s.heap.objs.size f cdv)).units + 66 < cLine; omega, fr := hfree, ps := passes_of rfl, fn := fun x _ => .inl rfl }
  · have hl := hlen _ _ _ _ hsp
    obtain ⟨S0, ds, Pe, hS, hR, q, q1, q2, q3, q4, q5⟩ := hrun _ _ _ _ hsp
    refine ⟨H, S0, hide H S0, Dl.start N.length ds, Pe, ⟨[], ?_⟩, q, ?_⟩
    · refine ⟨by simp [L2.start, Dl.start, hR.length], Sm.refl _, hS, ⟨by simp, by simp, by simp, by simp⟩, Same.refl _, fun i d e => ?_⟩
      have e1 := start_get e
      obtain ⟨v, e2, r⟩ := hR.get e1
      refine ⟨v, ?_, .inl ⟨.inl (by simp), r⟩⟩
      unfold L2.start
      have hi : i < vs.length := (List.getElem?_eq_some_iff.mp e2).1
      rw [List.getElem?_append_left (by simpa using hi), List.getElem?_map, e2]
      rfl
    · refine ⟨fun fl' e ρ σ H' p w => ?_, fun b d v H' p q dp => q2 b d v H' p q dp, fun ρ _ _ z => absurd z (q3 ρ), fun ρ _ _ z => absurd z (q4 ρ), fun ρ x σ H' cls dd p w xr => ?_⟩
      · obtain ⟨O, w⟩ := w
        exact q1 ρ p H' w.same
      · obtain ⟨O, w⟩ := w
        exact q5 ρ x p cls dd H' w.same xr
theorem fnOk_D {cs : List CS} {sp : Spec} (F : FunD K x qual params body scope dvs kws f fd) (S : FnScope N ps scope) (hfree : ∀ x ∈ freeNames, mg x = none) (hch : (chB N scope true [] cs body [] []).isBad = false)
    (nd : CS.needsL (fun f n sp => FnC P w K mg base k f n sp) (GlC K mg) (LmF P w K mg base k (locQ qual scope) fd) (ClOf K mg fun f n sp => FnCP P w K mg base k f n sp) cs)
    (pure : ∀ ds Q E, ds.length = ps.length → sp.run ds Q E → wpDef N.length cs ds Q E) : FnOk P w K mg base (L2.CX P w) (k + 1) f fd ps (spOf K mg sp ps.length) :=
  fnOk_G F S hfree hch nd (fun vs H Q E h => h.1) fun vs H Q E ⟨hl, S0, ds, hS, hR, q⟩ => by
    refine ⟨S0, ds, _, hS, hR, pure ds _ _ (hR.length.trans hl) q, fun ρ p H' sm => ?_, fun b d v H' p q dp => p v H' q, fun _ z => z, fun _ z => z, fun ρ x p cls dd H' sm xr => p cls dd H' sm xr⟩
    exact p .non H' ⟨sm, by unfold Rep; rfl, fun _ => trivial⟩
/-- .. whose tuple's first item is new -/
theorem fnOk_DP {cs : List CS} {sp : Spec} (F : FunD K x qual params body scope dvs kws f fd) (S : FnScope N ps scope) (hfree : ∀ x ∈ freeNames, mg x = none) (hch : (chB N scope true [] cs body [] []).isBad = false)
    (nd : CS.needsL (fun f n sp => FnC P w K mg base k f n sp) (GlC K mg) (LmF P w K mg base k (locQ qual scope) fd) (ClOf K mg fun f n sp => FnCP P w K mg base k f n sp) cs)
    (pure : ∀ ds Q E, ds.length = ps.length → sp.run ds Q E → wpDefP N.length cs ds Q E) : FnOk P w K mg base (L2.CX P w) (k + 1) f fd ps (spOfP K mg sp ps.length) :=
  fnOk_G F S hfree hch nd (fun vs H Q E h => h.1) fun vs H Q E ⟨hl, S0, ds, hS, hR, q⟩ => by
    refine ⟨S0, ds, _, hS, hR, pure ds _ _ (hR.length.trans hl) q, fun ρ p H' sm => ?_, fun b d v H' p q dp => p.2 v H' q ?_, fun _ z => z, fun _ z => z, fun ρ x p cls dd H' sm xr => p cls dd H' sm xr⟩
    · exact p .non H' ⟨sm, by unfold Rep; rfl, fun _ => trivial⟩ trivial
    · rcases p.1 with z | z
      · exact dp z
      · exact Deep.nfc z
/-- called with all its arguments -/
theorem FnCP.full {sp : Spec} (F : FnOk P w K mg base (L2.CX P w) k f fd ps (spOfP K mg sp ps.length)) (hg : mg x = some (.ref f)) (hk : PySem.W.keepIn K (.ref f) = true) (hb : Binds K fd ps []) : FnCP P w K mg base k x ps.length sp := ⟨f, fd, ps, hg, hk, hb, F, rfl⟩
theorem FnCP.mono {j : Nat} {n : Nat} {sp : Spec} (h : FnCP P w K mg base k x n sp) (hj : k ≤ j) : FnCP P w K mg base j x n sp :=
  let ⟨a, fd, ps, h1, h2, h3, h4, h5⟩ := h
  ⟨a, fd, ps, h1, h2, h3, h4.mono hj, h5⟩
/-- asked nothing -/
theorem _root_.L2.FnOk.never {CX : CXT} {sp : Sp} (h : ∀ vs H Q E, sp vs H Q E → False) : FnOk P w K mg base CX k f fd ps sp := ⟨fun vs H Q E q => (h vs H Q E q).elim, fun A outer s H args us vs Q E hr e0 hb r q => (h vs H Q E q).elim⟩
/-- called with all its arguments -/
theorem FnC.full {sp : Spec} (F : FnOk P w K mg base (L2.CX P w) k f fd ps (spOf K mg sp ps.length)) (hg : mg x = some (.ref f)) (hk : PySem.W.keepIn K (.ref f) = true) (hb : Binds K fd ps []) : FnC P w K mg base k x ps.length sp :=
  ⟨f, fd, ps, [], [], [], sp, hg, hk, hb, .nil, fun H => by unfold Reps; rfl, F, rfl, fun xs Q E _ h => by rw [List.append_nil]; exact h⟩
theorem FnC.mono {j : Nat} {n : Nat} {sp : Spec} (h : FnC P w K mg base k x n sp) (hj : k ≤ j) : FnC P w K mg base j x n sp :=
  let ⟨a, fd, ps, dvs, ds, dds, sp', h1, h2, h3, h4, h5, h6, h7⟩ := h
  ⟨a, fd, ps, dvs, ds, dds, sp', h1, h2, h3, h4, h5, h6.mono hj, h7⟩
/-- another spec that it keeps -/
theorem FnC.imp {n : Nat} {sp sp2 : Spec} (h : FnC P w K mg base k x n sp) (hi : ∀ xs Q E, xs.length = n → sp2.run xs Q E → sp.run xs Q E) : FnC P w K mg base k x n sp2 :=
  let ⟨a, fd, ps, dvs, ds, dds, sp', h1, h2, h3, h4, h5, h6, h7, h8⟩ := h
  ⟨a, fd, ps, dvs, ds, dds, sp', h1, h2, h3, h4, h5, h6, h7, fun xs Q E l q => h8 xs Q E l (hi xs Q E l q)⟩
/-- called with a default left out -/
theorem FnC.dfl {sp sp2 : Spec} {n : Nat} {vs : List V} {ds : List Value} {dds : List D} (F : FnOk P w K mg base (L2.CX P w) k f fd ps (spOf K mg sp ps.length)) (hg : mg x = some (.ref f)) (hk : PySem.W.keepIn K (.ref f) = true) (hb : Binds K fd ps ds) (hv : Vals vs ds)
    (hr : ∀ H, Reps K H dds vs) (hn : ps.length = n + dds.length) (hs : ∀ xs Q E, xs.length = n → sp2.run xs Q E → sp.run (xs ++ dds) Q E) : FnC P w K mg base k x n sp2 :=
  ⟨f, fd, ps, vs, ds, dds, sp, hg, hk, hb, hv, hr, F, hn, hs⟩
end
end Dl

/-! DlHead: facts of the head by a check of one's own; constants of the top, own classes. -/
namespace Dl
open PySem PySem.Spec PyProof.Rows L2 He
/-! ### constants of the top as data -/
mutual
def repB (K : PySem.W.Frag) : D → Value → Bool
  | .non, u => (match u with | .none => true | _ => false)
  | .bl b, u => (match u with | .bool c => b == c | _ => false)
  | .int i, u => (match u with | .int j _ => decide (i = j) | _ => false)
  | .str x, u => (match u with | .str y _ => decide (x = y) | _ => false)
  | .tup ds, u => (match u with
    | .ref a => (match K.lookup a with
      | some ⟨.type c, _, .seq its _, _⟩ => decide (c = "tuple") && (decide (its.size ≤ sizeLine) && repsB K ds its.toList)
      | _ => false)
    | _ => false)
  | .lst ds, u => (match u with
    | .ref a => (match K.lookup a with
      | some ⟨.type c, none, .seq its _, _⟩ => decide (c = "list") && (decide (its.size ≤ sizeLine) && repsB K ds its.toList)
      | _ => false)
    | _ => false)
  | .dict _ _, _ => false
  | .obj _ _ _, _ => false
termination_by structural d => d
def repsB (K : PySem.W.Frag) : List D → List Value → Bool
  | [], us => us.isEmpty
  | d :: ds, us => (match us with
    | u :: us => repB K d u && repsB K ds us
    | [] => false)
termination_by structural ds => ds
end
mutual
theorem repB_ok {K : PySem.W.Frag} : ∀ (d : D) (u : Value), repB K d u = true → ∃ v, RelV v u ∧ ∀ H, Rep K H d v
  | .non, u, h => by
    unfold repB at h
    split at h
    · exact ⟨.non, rfl, fun H => by unfold Rep; rfl⟩
    · cases h
  | .bl b, u, h => by
    unfold repB at h
    split at h
    · rename_i c
      have e : b = c := by simpa using h
      subst e
      exact ⟨.bl b, rfl, fun H => by unfold Rep; rfl⟩
    · cases h
  | .int i, u, h => by
    unfold repB at h
    split at h
    · rename_i j t
      have e := of_decide_eq_true h
      subst e
      exact ⟨.int i, ⟨t, rfl⟩, fun H => by unfold Rep; rfl⟩
    · cases h
  | .str x, u, h => by
    unfold repB at h
    split at h
    · rename_i j t
      have e := of_decide_eq_true h
      subst e
      exact ⟨.str x, ⟨t, rfl⟩, fun H => by unfold Rep; rfl⟩
    · cases h
  | .tup ds, u, h => by
    unfold repB at h
    split at h
    · rename_i a
      split at h
      · rename_i c od its n sl q
        obtain ⟨h1, h⟩ := ba h
        obtain ⟨h2, h3⟩ := ba h
        obtain ⟨vs, r, hr⟩ := repsB_ok ds its.toList h3
        refine ⟨.ref a, rfl, fun H => ?_⟩
        unfold Rep
        exact ⟨a, vs, rfl, .inr ⟨_, its, n, q, congrArg Value.type (of_decide_eq_true h1), rfl, of_decide_eq_true h2, r⟩, hr H⟩
      · cases h
    · cases h
  | .lst ds, u, h => by
    unfold repB at h
    split at h
    · rename_i a
      split at h
      · rename_i c its n sl q
        obtain ⟨h1, h⟩ := ba h
        obtain ⟨h2, h3⟩ := ba h
        obtain ⟨vs, r, hr⟩ := repsB_ok ds its.toList h3
        refine ⟨.ref a, rfl, fun H => ?_⟩
        unfold Rep
        exact ⟨a, vs, rfl, .inr ⟨_, its, n, q, congrArg Value.type (of_decide_eq_true h1), rfl, rfl, of_decide_eq_true h2, r⟩, hr H⟩
      · cases h
    · cases h
  | .dict _ _, u, h => by unfold repB at h; cases h
  | .obj _ _ _, u, h => by unfold repB at h; cases h
theorem repsB_ok {K : PySem.W.Frag} : ∀ (ds : List D) (us : List Value), repsB K ds us = true → ∃ vs, Vals vs us ∧ ∀ H, Reps K H ds vs
  | [], us, h => by
    unfold repsB at h
    rw [List.isEmpty_iff] at h
    subst h
    exact ⟨[], .nil, fun H => by unfold Reps; rfl⟩
  | d :: ds, [], h => by unfold repsB at h; cases h
  | d :: ds, u :: us, h => by
    unfold repsB at h
    obtain ⟨h1, h2⟩ := ba h
    obtain ⟨v, r1, r2⟩ := repB_ok d u h1
    obtain ⟨vs, s1, s2⟩ := repsB_ok ds us h2
    exact ⟨v :: vs, .cons r1 s1, fun H => by unfold Reps; exact ⟨v, vs, rfl, r2 H, s2 H⟩⟩
end
def gloC (K : PySem.W.Frag) (x : Str) (d : D) : Bool := match PySem.W.nsIn K mainGlobals x with
  | some (some u) => repB K d u
  | _ => false
theorem gloC_ok {K : PySem.W.Frag} {h : Heap} {mg : Str → Option Value} (X : K.In h) (G : h.Ns mainGlobals mg) {x : Str} {d : D} (c : gloC K x d = true) : GlC K mg x d := by
  unfold gloC at c
  split at c
  · rename_i u q
    obtain ⟨v, r, hr⟩ := repB_ok d u c
    exact ⟨u, v, PySem.W.mg_of X G q, r, hr⟩
  · cases c
/-! ### classes -/
def eqOV (a b : Option (Option Value)) : Bool := decide (a = b)
def exB (K : PySem.W.Frag) (D : Addr) : Bool :=
  decide (PySem.W.findIn K (.ref D) "__getattribute__" = some (some (.builtin "BaseException.__getattribute__"))) && decide (PySem.W.findIn K (.ref D) "__getattr__" = some none) && decide (PySem.W.subIn K (.ref D) (.type "BaseException") = some true) &&
  PySem.W.hasDictIn K D && decide (PySem.W.findIn K (.ref D) "__class__" = some (some (.builtin "object.__class__"))) && decide (PySem.W.specialIn K (.builtin "object.__class__") "__get__" = some (some (.builtin "getset_descriptor.__get__"))) &&
  decide (PySem.W.takesIn K (.builtin "object.__class__") = some true) && decide (PySem.W.mroIn K D (.type "object") = some true)
theorem exB_ok {K : PySem.W.Frag} {D : Addr} (h : exB K D = true) : ExcC K D := by
  unfold exB at h
  obtain ⟨h, h8⟩ := ba h
  obtain ⟨h, h7⟩ := ba h
  obtain ⟨h, h6⟩ := ba h
  obtain ⟨h, h5⟩ := ba h
  obtain ⟨h, h4⟩ := ba h
  obtain ⟨h, h3⟩ := ba h
  obtain ⟨h1, h2⟩ := ba h
  exact ⟨of_decide_eq_true h1, of_decide_eq_true h2, of_decide_eq_true h3, h4, of_decide_eq_true h5, of_decide_eq_true h6, of_decide_eq_true h7, of_decide_eq_true h8⟩
/-- c may be raised -/
def rzB (K : PySem.W.Frag) (c : Str) : Bool := (Fa.glo c).ok K && (Fa.exc c).ok K
theorem rzB_ok {K : PySem.W.Frag} {h : Heap} {mg : Str → Option Value} (X : K.In h) (G : h.Ns mainGlobals mg) {c : Str} (q : rzB K c = true) : RzC K mg c := by
  obtain ⟨q1, q2⟩ := ba q
  obtain ⟨e1, e2, e3, e4⟩ := exc_ok q2
  exact ⟨ga K c, glo_ok X G q1, e1, e2, e3, e4⟩
/-- c beside an own class C -/
def xiB (K : PySem.W.Frag) (c C : Str) : Bool := (Fa.glo c).ok K && (Fa.glo C).ok K && exB K (ga K c) && decide (PySem.W.exmOne K (.ref (ga K c)) (.ref (ga K C)) = some (subC c C)) && decide (PySem.W.kitOne K (.ref (ga K c)) (.ref (ga K C)) = some (subC c C))
theorem xiB_ok {K : PySem.W.Frag} {h : Heap} {mg : Str → Option Value} (X : K.In h) (G : h.Ns mainGlobals mg) {c C : Str} (q : xiB K c C = true) : XiC K mg c C := by
  unfold xiB at q
  obtain ⟨q, q5⟩ := ba q
  obtain ⟨q, q4⟩ := ba q
  obtain ⟨q, q3⟩ := ba q
  obtain ⟨q1, q2⟩ := ba q
  refine ⟨ga K c, glo_ok X G q1, exB_ok q3, fun Cv cv hn => ?_⟩
  have n2 : NamesV mg C (.ref (ga K C)) (.ref (ga K C)) := .inl ⟨_, glo_ok X G q2, rfl, rfl⟩
  letI : Tbs := ⟨[]⟩
  obtain ⟨_, e⟩ := hn.one n2
  rw [e]
  exact ⟨of_decide_eq_true q4, of_decide_eq_true q5⟩
/-- .. beside a built-in one -/
def xiT (K : PySem.W.Frag) (c : Str) (T : String) : Bool := (Fa.glo c).ok K && (Fa.free (Str.ofString T)).ok K && exB K (ga K c) && decide (PySem.W.exmOne K (.ref (ga K c)) (.type T) = some (subC c (Str.ofString T))) && decide (PySem.W.kitOne K (.ref (ga K c)) (.type T) = some (subC c (Str.ofString T)))
theorem xiT_ok {K : PySem.W.Frag} {h : Heap} {mg : Str → Option Value} (X : K.In h) (G : h.Ns mainGlobals mg) {c : Str} {T : String} (q : xiT K c T = true) (hb : bootBuiltins (Str.ofString T) = some (.type T)) : XiC K mg c (Str.ofString T) := by
  unfold xiT at q
  obtain ⟨q, q5⟩ := ba q
  obtain ⟨q, q4⟩ := ba q
  obtain ⟨q, q3⟩ := ba q
  obtain ⟨q1, q2⟩ := ba q
  refine ⟨ga K c, glo_ok X G q1, exB_ok q3, fun Cv cv hn => ?_⟩
  have n2 : NamesV mg (Str.ofString T) (.ty T) (.type T) := .inr ⟨free_ok X G q2, T, hb, rfl, rfl⟩
  letI : Tbs := ⟨[]⟩
  obtain ⟨_, e⟩ := hn.one n2
  rw [e]
  exact ⟨of_decide_eq_true q4, of_decide_eq_true q5⟩
theorem nmG_ok {K : PySem.W.Frag} {h : Heap} {mg : Str → Option Value} (X : K.In h) (G : h.Ns mainGlobals mg) {C : Str} (q : (Fa.glo C).ok K = true) : ∃ Cv cv, NamesV mg C Cv cv := ⟨_, _, .inl ⟨_, glo_ok X G q, rfl, rfl⟩⟩
theorem nmT_ok {K : PySem.W.Frag} {h : Heap} {mg : Str → Option Value} (X : K.In h) (G : h.Ns mainGlobals mg) {T : String} (q : (Fa.free (Str.ofString T)).ok K = true) (hb : bootBuiltins (Str.ofString T) = some (.type T)) : ∃ Cv cv, NamesV mg (Str.ofString T) Cv cv := ⟨_, _, .inr ⟨free_ok X G q, T, hb, rfl, rfl⟩⟩
/-! ### the Hook -/
/-- what a law asks of its head -/
inductive Ask where
  | glo (x : Str) | free (x : Str) | con (x : Str) (d : D) | rz (c : Str) | xi (c C : Str) | xt (c : Str) (T : String)
def Ask.ok (K : PySem.W.Frag) : Ask → Bool
  | .glo x => (Fa.glo x).ok K
  | .free x => (Fa.free x).ok K
  | .con x d => gloC K x d
  | .rz c => rzB K c
  | .xi c C => xiB K c C
  | .xt c T => xiT K c T
abbrev AlX : Type := Bool × AlD
/-- the defs' tables of code objects: empty, each its own -/
def tabsD (g : Addr → Option Obj) (tf : List DefD) (K : PySem.W.Frag) : Bool := tabsB g (tf.map DefD.at_) K && decide ((tf.map fun d => (cT K d.at_).2).Nodup)
def obsX (ak : List Ask) (tf fn : List DefD) (g : Addr → Option Obj) (K : PySem.W.Frag) : AlX := ((ak.all fun q => q.ok K) && tabsD g tf K, obsD [] fn K)
def obsXG (n : Nat) (ak : List Ask) (tf fn : List DefD) (g : Addr → Option Obj) : AlX := obsX ak tf fn g (frT g (asD g n))
structure SaysX (ak : List Ask) (tf fn : List DefD) (h : Heap) (K : PySem.W.Frag) : Prop where
  a : (ak.all fun q => q.ok K) = true
  d : obsD [] fn K = valD fn
  hd : ∀ p ∈ tf, PySem.W.codeHdIn K (cT K p.at_).1 (cT K p.at_).2 = true
  out : ∀ p ∈ tf, K.lookup (cT K p.at_).2 = none
  empty : ∀ p ∈ tf, h.get? (cT K p.at_).2 = some { cls := .none, data := .fields #[] }
  nd : (tf.map fun d => (cT K d.at_).2).Nodup
theorem saysX_of {n : Nat} {ak : List Ask} {tf fn : List DefD} {h : Heap} (e : obsXG n ak tf fn h.get? = (true, valD fn)) : SaysX ak tf fn h (frT h.get? (asD h.get? n)) := by
  have e1 : ((ak.all fun q => q.ok (frT h.get? (asD h.get? n))) && tabsD h.get? tf (frT h.get? (asD h.get? n))) = true := congrArg (fun z : AlX => z.1) e
  have e2 : obsD [] fn (frT h.get? (asD h.get? n)) = valD fn := congrArg (fun z : AlX => z.2) e
  obtain ⟨h1, h2⟩ := ba e1
  obtain ⟨h2, h5⟩ := ba h2
  have key : ∀ p ∈ tf, PySem.W.codeHdIn (frT h.get? (asD h.get? n)) (cT (frT h.get? (asD h.get? n)) p.at_).1 (cT (frT h.get? (asD h.get? n)) p.at_).2 = true ∧ ∃ o, h.get? (cT (frT h.get? (asD h.get? n)) p.at_).2 = some o ∧ emptyTab o = true := fun p hp => by
    obtain ⟨h3, h4⟩ := ba (List.all_eq_true.mp h2 p.at_ (List.mem_map.mpr ⟨p, hp, rfl⟩))
    refine ⟨h3, ?_⟩
    cases q : h.get? (cT (frT h.get? (asD h.get? n)) p.at_).2 with
    | none =>
      rw [q] at h4
      cases h4
    | some o =>
      rw [q] at h4
      exact ⟨o, rfl, h4⟩
  exact ⟨h1, e2, fun p hp => (key p hp).1, fun p hp => by
    obtain ⟨_, o, q, z⟩ := key p hp
    exact frT_none q z, fun p hp => by
    obtain ⟨_, o, q, z⟩ := key p hp
    rw [q, emptyTab_eq z], of_decide_eq_true h5⟩
def hookX (n : Nat) (ak : List Ask) (tf fn : List DefD) : PySem.W.Hook where
  α := AlX
  obs := fun s => obsXG n ak tf fn s.heap.get?
  val := fun _ => (true, valD fn)
  says := fun _ h => ∃ K : PySem.W.Frag, K.In h ∧ SaysX ak tf fn h K
  of := fun _ _ e => ⟨_, frT_in, saysX_of e⟩
  keeps := fun _ _ _ ⟨K, hK, c⟩ k => ⟨K, PySem.W.Frag.In.keeps hK k, ⟨c.a, c.d, c.hd, c.out, fun p hp => k _ _ (c.empty p hp), c.nd⟩⟩
theorem obsXG_eq {n : Nat} {ak : List Ask} {tf fn : List DefD} {g : Addr → Option Obj} {s : Shared} (h : ∀ a, g a = s.heap.get? a) : obsXG n ak tf fn g = (hookX n ak tf fn).obs s := by
  have e : g = s.heap.get? := funext h
  rw [e] <;> rfl
section
variable {ak : List Ask} {tf fn : List DefD} {h : Heap} {K : PySem.W.Frag}
theorem SaysX.ask (c : SaysX ak tf fn h K) {q : Ask} (hq : q ∈ ak) : q.ok K = true := List.all_eq_true.mp c.a q hq
theorem SaysX.def_ (c : SaysX ak tf fn h K) (i : Nat) {d : DefD} (hi : fn[i]? = some d := by rfl) : ∃ fd, FunD K d.name d.qual d.params d.body d.scope (d.dvs K) (d.kws K) (fAd K d.at_) fd :=
  SaysD.def_ (fa := []) (fn := fn) c.d i hi
end
/-- the tables, with their lambdas' names -/
@[reducible] def tbsOf (tf : List DefD) (K : PySem.W.Frag) : Tbs := ⟨tf.map fun d => ((cT K d.at_).2, locQ d.qual d.scope ++ "<lambda>")⟩
def tabCs (tf : List DefD) (K : PySem.W.Frag) : List (Addr × Addr) := tf.map fun d => cT K d.at_
theorem tabs_of {tf : List DefD} {K : PySem.W.Frag} {H : Hp} (hH : ∀ p ∈ tabCs tf K, H p.2 = some (.tbl #[])) : LamX.Tabs (tbsOf tf K).T H := fun p hp => by
  obtain ⟨d, hd, rfl⟩ := List.mem_map.mp hp
  exact LamX.TabS.nil (hH _ (List.mem_map.mpr ⟨d, hd, rfl⟩))
theorem map_nodup_inj {α β : Type} {f : α → β} : ∀ {l : List α}, (l.map f).Nodup → ∀ x ∈ l, ∀ y ∈ l, f x = f y → x = y
  | [], _, x, hx, _, _, _ => by cases hx
  | a :: l, h, x, hx, y, hy, e => by
    rw [List.map_cons, List.nodup_cons] at h
    rcases List.mem_cons.mp hx with ex | hx2
    · rcases List.mem_cons.mp hy with ey | hy2
      · rw [ex, ey]
      · rw [ex] at e
        exact absurd (List.mem_map.mpr ⟨y, hy2, e.symm⟩) h.1
    · rcases List.mem_cons.mp hy with ey | hy2
      · rw [ey] at e
        exact absurd (List.mem_map.mpr ⟨x, hx2, e⟩) h.1
      · exact map_nodup_inj h.2 x hx2 y hy2 e
/-- a def of the tables: its lambdas may be laid -/
theorem lamF_of {ak : List Ask} {tf fn : List DefD} {h base : Heap} {K : PySem.W.Frag} {mg : Str → Option Value} (c : SaysX ak tf fn h K) {d : DefD} (hd : d ∈ tf) {fd : FuncData} {x : Str} {ps : Arguments} {bd : List Stmt} {sc : Scope} {dv : List V} {kw : List (Str × V)} (F : FunD K x d.qual ps bd sc dv kw (fAd K d.at_) fd)
    (hT : ∀ p ∈ tabCs tf K, LamX.TabB base mg p.1 p.2) : @LamF (tbsOf tf K) mg base (locQ d.qual d.scope) fd := by
  obtain ⟨oc, od, dV, kV, doc, pm, an, cdv, ct, osl, efd, lk, hcd, _, _⟩ := F.ex
  obtain ⟨cc, ec⟩ := codeIn_ref hcd
  have e1 : fd.code = .ref cc := by rw [efd]; exact ec
  have e2 : codeOf K d.at_ = cc := codeOf_eq lk e1
  refine ⟨cc, (cT K d.at_).2, e1, ?_, List.mem_map.mpr ⟨d, hd, rfl⟩, fun p hp e => ?_⟩
  · have := hT _ (List.mem_map.mpr ⟨d, hd, rfl⟩)
    rw [show (cT K d.at_).1 = cc from e2] at this
    exact this
  · obtain ⟨d', hd', rfl⟩ := List.mem_map.mp hp
    have := map_nodup_inj c.nd d' hd' d hd e
    rw [this]
end Dl

/-! DlWp: how a pure walk is done: monotone, loops by invariants, the equations as simp rules. -/
namespace Dl
structure Pn.le (P P' : Pn) : Prop where
  nx : ∀ ρ, P.nx ρ → P'.nx ρ
  rt : ∀ b d, P.rt b d → P'.rt b d
  bk : ∀ ρ, P.bk ρ → P'.bk ρ
  ct : ∀ ρ, P.ct ρ → P'.ct ρ
  ex : ∀ ρ x, P.ex ρ x → P'.ex ρ x
theorem wpFor_mono {g : D → DEnv → Pn → Prop} (hg : ∀ x ρ P P', P.le P' → g x ρ P → g x ρ P') : ∀ {xs : List D} {ρ : DEnv} {P P' : Pn}, wpFor g xs ρ P → P.le P' → wpFor g xs ρ P'
  | [], ρ, P, P', h, l => by unfold wpFor at *; exact l.nx _ h
  | x :: xs, ρ, P, P', h, l => by
    unfold wpFor at *
    refine hg _ _ _ _ ?_ h
    exact ⟨fun ρ q => wpFor_mono hg (show wpFor g xs ρ P from q) l, l.rt, l.nx, fun ρ q => wpFor_mono hg (show wpFor g xs ρ P from q) l, l.ex⟩
theorem wpWhl_mono {t : DEnv → (Bool → Prop) → (Xn → Prop) → Prop} {g : DEnv → Pn → Prop} (ht : ∀ ρ Q Q' E E', (∀ k, Q k → Q' k) → (∀ x, E x → E' x) → t ρ Q E → t ρ Q' E') (hg : ∀ ρ P P', P.le P' → g ρ P → g ρ P') :
    ∀ {n : Nat} {ρ : DEnv} {P P' : Pn}, wpWhl t g n ρ P → P.le P' → wpWhl t g n ρ P'
  | 0, ρ, P, P', h, l => by unfold wpWhl at h; exact h.elim
  | n + 1, ρ, P, P', h, l => by
    unfold wpWhl at *
    refine ht _ _ _ _ _ (fun k q => ?_) (l.ex ρ) h
    split
    · rename_i hk
      rw [if_pos hk] at q
      refine hg _ _ _ ?_ q
      exact ⟨fun ρ q => wpWhl_mono ht hg (show wpWhl t g n ρ P from q) l, l.rt, l.nx, fun ρ q => wpWhl_mono ht hg (show wpWhl t g n ρ P from q) l, l.ex⟩
    · rename_i hk
      rw [if_neg hk] at q
      exact l.nx _ q
theorem wpT_mono {c : CE} {ρ : DEnv} {Q Q' : Bool → Prop} {E E' : Xn → Prop} (h : wpT c ρ Q E) (hq : ∀ k, Q k → Q' k) (he : ∀ x, E x → E' x) : wpT c ρ Q' E' := wpE_mono c h (fun d ⟨k, e, q⟩ => ⟨k, e, hq k q⟩) he
theorem wpHds_mono {x : Xn} {n : Nat} {E E' : Prop} {rt rt' : Bool → D → Prop} : ∀ {cls : List Hd}, wpHds x n E rt cls → (E → E') → (∀ b d, rt b d → rt' b d) → wpHds x n E' rt' cls
  | [], h, he, hr => he h
  | c :: cls, h, he, hr => by
    unfold wpHds at *
    split
    · rename_i hk; rw [if_pos hk] at h; exact ⟨h.1, wpE_mono _ h.2 (fun d ⟨a, b⟩ => ⟨a, hr _ _ b⟩) fun _ z => z⟩
    · rename_i hk; rw [if_neg hk] at h; exact wpHds_mono h he hr
theorem putD_mono {c x v : D} {Q Q' : D → Prop} (h : putD c x v Q) (m : ∀ d, Q d → Q' d) : putD c x v Q' := by
  unfold putD at h ⊢
  split at h
  · exact ⟨h.1, h.2.1, m _ h.2.2⟩
  · obtain ⟨n, j, e1, e2, q⟩ := h
    exact ⟨n, j, e1, e2, m _ q⟩
  · exact h.elim
mutual
theorem wpS_mono : ∀ (c : CS) {ρ : DEnv} {P P' : Pn}, wpS c ρ P → P.le P' → wpS c ρ P'
  | .asg i e rd ls, ρ, P, P', h, l => by unfold wpS at *; exact wpE_mono e h (fun d ⟨a, q⟩ => ⟨a, l.nx _ q⟩) (l.ex ρ)
  | .asgT t e rd ls, ρ, P, P', h, l => by unfold wpS at *; exact wpE_mono e h (fun d ⟨a, ρ', e1, q⟩ => ⟨a, ρ', e1, l.nx _ q⟩) (l.ex ρ)
  | .par i j a b, ρ, P, P', h, l => by unfold wpS at *; exact wpE_mono a h (fun x q => wpE_mono b q (fun y q => l.nx _ q) (l.ex ρ)) (l.ex ρ)
  | .app i e rd ls, ρ, P, P', h, l => by
    unfold wpS at *
    obtain ⟨ds, e1, hz, h⟩ := h
    exact ⟨ds, e1, hz, wpE_mono e h (fun d ⟨a, q⟩ => ⟨a, l.nx _ q⟩) (l.ex ρ)⟩
  | .clr i, ρ, P, P', h, l => by
    unfold wpS at *
    obtain ⟨ds, e, q⟩ := h
    exact ⟨ds, e, l.nx _ q⟩
  | .ext i j, ρ, P, P', h, l => by
    unfold wpS at *
    obtain ⟨ds, es, e1, e2, h1, h2, q⟩ := h
    exact ⟨ds, es, e1, e2, h1, h2, l.nx _ q⟩
  | .drop e, ρ, P, P', h, l => by unfold wpS at *; exact wpE_mono e h (fun d q => l.nx _ q) (l.ex ρ)
  | .ret e fr, ρ, P, P', h, l => by unfold wpS at *; exact wpE_mono e h (fun d ⟨a, q⟩ => ⟨a, l.rt _ _ q⟩) (l.ex ρ)
  | .retN, ρ, P, P', h, l => by unfold wpS at *; exact l.rt _ _ h
  | .ifs c a b, ρ, P, P', h, l => by
    unfold wpS at *
    refine wpT_mono h (fun k q => ?_) (l.ex ρ)
    split
    · rename_i hk; rw [if_pos hk] at q; exact wpB_mono a q l
    · rename_i hk; rw [if_neg hk] at q; exact wpB_mono b q l
  | .for_ t it rd body, ρ, P, P', h, l => by
    unfold wpS at *
    exact wpE_mono it h (fun d ⟨xs, e, q⟩ => ⟨xs, e, wpFor_mono (fun x ρ P P' l ⟨ρ', e, q⟩ => ⟨ρ', e, wpB_mono body q l⟩) q l⟩) (l.ex ρ)
  | .whl c body, ρ, P, P', h, l => by
    unfold wpS at *
    obtain ⟨n, h⟩ := h
    exact ⟨n, wpWhl_mono (t := wpT c) (g := wpB body) (fun ρ Q Q' E E' hq he h => wpT_mono h hq he) (fun ρ P P' l q => wpB_mono body q l) h l⟩
  | .brk, ρ, P, P', h, l => by unfold wpS at *; exact l.bk _ h
  | .cnt, ρ, P, P', h, l => by unfold wpS at *; exact l.ct _ h
  | .pass, ρ, P, P', h, l => by unfold wpS at *; exact l.nx _ h
  | .rse c, ρ, P, P', h, l => by unfold wpS at *; exact l.ex _ _ h
  | .tryx body all cls, ρ, P, P', h, l => by
    unfold wpS at *
    exact wpB_mono body h ⟨l.nx, l.rt, l.bk, l.ct, fun ρ' x ⟨q0, q⟩ => ⟨q0, wpHds_mono q (l.ex _ _) l.rt⟩⟩
  | .pop j i, ρ, P, P', h, l => by
    unfold wpS at *
    obtain ⟨ds, d, e, q⟩ := h
    exact ⟨ds, d, e, l.nx _ q⟩
  | .put i k e, ρ, P, P', h, l => by
    unfold wpS at *
    obtain ⟨c, e1, h⟩ := h
    exact ⟨c, e1, wpE_mono e h (fun v h => wpE_mono k h (fun x ⟨a, q⟩ => ⟨a, putD_mono q fun _ q => l.nx _ q⟩) (l.ex ρ)) (l.ex ρ)⟩
  | .asgP i j f sp es rd ls, ρ, P, P', h, l => by
    unfold wpS at *
    exact wpEs_mono es h (fun ds q => sp.mono _ _ _ _ _ q (fun d ⟨x, y, e, a, b, q⟩ => ⟨x, y, e, a, b, l.nx _ q⟩) (l.ex ρ)) (l.ex ρ)
theorem wpB_mono : ∀ (c : List CS) {ρ : DEnv} {P P' : Pn}, wpB c ρ P → P.le P' → wpB c ρ P'
  | [], ρ, P, P', h, l => by unfold wpB at *; exact l.nx _ h
  | s :: ss, ρ, P, P', h, l => by
    unfold wpB at *
    exact wpS_mono s h ⟨fun ρ q => wpB_mono ss (show wpB ss ρ P from q) l, l.rt, l.bk, l.ct, l.ex⟩
end
/-- a for loop by an invariant -/
theorem wpFor_inv {t : CT} {body : List CS} (I : Nat → DEnv → Prop) : ∀ {xs : List D} {n : Nat} {ρ : DEnv} {P : Pn}, I n ρ → (∀ i x ρ, xs[i]? = some x → I (n + i) ρ → ∃ ρ', asgT t x ρ = some ρ' ∧ wpB body ρ' { P with nx := I (n + i + 1), ct := I (n + i + 1), bk := P.nx }) →
    (∀ ρ, I (n + xs.length) ρ → P.nx ρ) → wpFor (fun x ρ P => ∃ ρ', asgT t x ρ = some ρ' ∧ wpB body ρ' P) xs ρ P
  | [], n, ρ, P, h0, hs, hd => by unfold wpFor; exact hd ρ h0
  | x :: xs, n, ρ, P, h0, hs, hd => by
    unfold wpFor
    obtain ⟨ρ', e, q⟩ := hs 0 x ρ rfl h0
    have ih : ∀ ρ', I (n + 1) ρ' → wpFor (fun x ρ P => ∃ ρ', asgT t x ρ = some ρ' ∧ wpB body ρ' P) xs ρ' P := fun ρ' h => wpFor_inv I h (fun i x ρ e h => by
      have := hs (i + 1) x ρ (by simpa using e) (by rw [show n + (i + 1) = n + 1 + i by omega]; exact h)
      rw [show n + (i + 1) + 1 = n + 1 + i + 1 by omega] at this
      exact this) (fun ρ h => hd ρ (by rw [List.length_cons, show n + (xs.length + 1) = n + 1 + xs.length by omega]; exact h))
    exact ⟨ρ', e, wpB_mono body q ⟨fun ρ q => ih ρ q, fun _ _ q => q, fun _ q => q, fun ρ q => ih ρ q, fun _ _ q => q⟩⟩
/-- a while loop by an invariant and a measure -/
theorem wpWhl_inv {c : CE} {body : List CS} (I : DEnv → Prop) (m : DEnv → Nat) {P : Pn} (hs : ∀ ρ, I ρ → wpT c ρ (fun k => if k = true then wpB body ρ { P with nx := fun ρ' => I ρ' ∧ m ρ' < m ρ, ct := fun ρ' => I ρ' ∧ m ρ' < m ρ, bk := P.nx } else P.nx ρ) (P.ex ρ)) :
    ∀ {n : Nat} {ρ : DEnv}, I ρ → m ρ < n → wpWhl (wpT c) (wpB body) n ρ P
  | 0, ρ, _, h => by omega
  | n + 1, ρ, hI, h => by
    unfold wpWhl
    refine wpT_mono (hs ρ hI) (fun k q => ?_) (fun _ q => q)
    split
    · rename_i hk
      rw [if_pos hk] at q
      exact wpB_mono body q ⟨fun ρ' ⟨a, b⟩ => wpWhl_inv I m hs a (by omega), fun _ _ q => q, fun _ q => q, fun ρ' ⟨a, b⟩ => wpWhl_inv I m hs a (by omega), fun _ _ q => q⟩
    · rename_i hk
      rw [if_neg hk] at q
      exact q
/-- a comprehension that keeps f's values -/
theorem wpLc_map {g : D → (Option D → Prop) → Prop} (f : D → Option D) : ∀ {xs acc : List D} {Q : List D → Prop}, (∀ x ∈ xs, ∀ K : Option D → Prop, K (f x) → g x K) → acc.length + xs.length ≤ szl → Q (acc ++ xs.filterMap f) → wpLc g xs acc Q
  | [], acc, Q, _, _, h => by unfold wpLc; simpa using h
  | x :: xs, acc, Q, hg, hl, h => by
    unfold wpLc
    refine hg x List.mem_cons_self _ ?_
    rw [List.filterMap_cons] at h
    rw [List.length_cons] at hl
    cases e : f x with
    | none =>
      rw [e] at h
      exact wpLc_map f (fun x hx => hg x (List.mem_cons_of_mem _ hx)) (by omega) h
    | some y =>
      rw [e] at h
      exact ⟨by omega, wpLc_map f (fun x hx => hg x (List.mem_cons_of_mem _ hx)) (by simp; omega) (by simpa using h)⟩
end Dl

/-! DlSimp: the walk as a rewriting: from the left, the rest of the code untouched until it is come to. -/
namespace Dl
open PySem
def opt {α : Type} (o : Option α) (F : α → Prop) : Prop := ∃ k, o = some k ∧ F k
@[simp] theorem szl_lit : szl = 16777216 := rfl
@[simp] theorem opt_some {α : Type} {k : α} {F : α → Prop} : opt (some k) F = F k := by simp [opt]
@[simp] theorem opt_none {α : Type} {F : α → Prop} : opt none F = False := by simp [opt]
theorem opt_congr {α : Type} {o o' : Option α} {F : α → Prop} (h : o = o') : opt o F = opt o' F := by rw [h]
theorem wpE_congr {e : CE} {ρ ρ' : DEnv} {Q : D → Prop} {E : Xn → Prop} (h : ρ = ρ') : wpE e ρ Q E = wpE e ρ' Q E := by rw [h]
theorem wpEs_congr {e : List CE} {ρ ρ' : DEnv} {Q : List D → Prop} {E : Xn → Prop} (h : ρ = ρ') : wpEs e ρ Q E = wpEs e ρ' Q E := by rw [h]
theorem wpT_congr {e : CE} {ρ ρ' : DEnv} {Q : Bool → Prop} {E : Xn → Prop} (h : ρ = ρ') : wpT e ρ Q E = wpT e ρ' Q E := by rw [h]
theorem wpS_congr {e : CS} {ρ ρ' : DEnv} {P : Pn} (h : ρ = ρ') : wpS e ρ P = wpS e ρ' P := by rw [h]
theorem wpB_congr {e : List CS} {ρ ρ' : DEnv} {P : Pn} (h : ρ = ρ') : wpB e ρ P = wpB e ρ' P := by rw [h]
theorem binD_congr {o : BO} {a a' b b' : D} {Q : D → Prop} (h : a = a') (h2 : b = b') : binD o a b Q = binD o a' b' Q := by rw [h, h2]
theorem cmpD_congr {o : CO} {a a' b b' : D} {Q : D → Prop} (h : a = a') (h2 : b = b') : cmpD o a b Q = cmpD o a' b' Q := by rw [h, h2]
theorem ixD_congr {a a' b b' : D} {Q : D → Prop} (h : a = a') (h2 : b = b') : ixD a b Q = ixD a' b' Q := by rw [h, h2]
theorem slD_congr {a a' : D} {l l' h h' : Option Int} {Q : D → Prop} (e : a = a') (h2 : l = l') (h3 : h = h') : slD a l h Q = slD a' l' h' Q := by rw [e, h2, h3]
theorem bltD_congr {f : BF} {a a' : List D} {Q : D → Prop} (e : a = a') : bltD f a Q = bltD f a' Q := by rw [e]
theorem rngD_congr {a a' : List D} {Q : D → Prop} (e : a = a') : rngD a Q = rngD a' Q := by rw [e]
theorem memD_congr {a a' b b' : D} {Q : Bool → Prop} (h : a = a') (h2 : b = b') : memD a b Q = memD a' b' Q := by rw [h, h2]
theorem run_congr {s : Spec} {a a' : List D} {Q : D → Prop} {E : Xn → Prop} (h : a = a') : s.run a Q E = s.run a' Q E := by rw [h]
section
variable {ρ : DEnv} {P : Pn} {Q : D → Prop} {QB : Bool → Prop} {QL : List D → Prop} {E : Xn → Prop} {a b c e e' : CE} {es : List CE} {i j : Nat} {rd : List Nat} {ls : Bool} {t : CT} {d x y : D}
/-! ### statements -/
@[simp] theorem wB_nil : wpB [] ρ P = P.nx ρ := by simp only [wpB]
@[simp] theorem wB_cons {s : CS} {ss : List CS} : wpB (s :: ss) ρ P = wpS s ρ { P with nx := fun ρ' => wpB ss ρ' P } := by simp only [wpB]
@[simp] theorem wS_asg : wpS (.asg i e rd ls) ρ P = wpE e ρ (fun d => keep rd ls e d ∧ P.nx (ρ.set i (some d))) (P.ex ρ) := by simp only [wpS]
@[simp] theorem wS_asgT : wpS (.asgT t e rd ls) ρ P = wpE e ρ (fun d => (rd = [] ∨ ls = true ∨ d.imm = true) ∧ opt (asgT t d ρ) P.nx) (P.ex ρ) := by simp only [wpS]; rfl
@[simp] theorem wS_par : wpS (.par i j a b) ρ P = wpE a ρ (fun x => wpE b ρ (fun y => P.nx ((ρ.set i (some x)).set j (some y))) (P.ex ρ)) (P.ex ρ) := by simp only [wpS]
@[simp] theorem wS_drop : wpS (.drop e) ρ P = wpE e ρ (fun _ => P.nx ρ) (P.ex ρ) := by simp only [wpS]
@[simp] theorem wS_ret {fr : Bool} : wpS (.ret e fr) ρ P = wpE e ρ (fun d => (fr = true ∨ d.cont = false) ∧ P.rt e.deep d) (P.ex ρ) := by simp only [wpS]
@[simp] theorem wS_retN : wpS .retN ρ P = P.rt false .non := by simp only [wpS]
@[simp] theorem wS_ifs {x y : List CS} : wpS (.ifs c x y) ρ P = wpT c ρ (fun k => if k = true then wpB x ρ P else wpB y ρ P) (P.ex ρ) := by simp only [wpS]
@[simp] theorem wS_brk : wpS .brk ρ P = P.bk ρ := by simp only [wpS]
@[simp] theorem wS_cnt : wpS .cnt ρ P = P.ct ρ := by simp only [wpS]
@[simp] theorem wS_rse {k : Str} : wpS (.rse k) ρ P = P.ex ρ ⟨k, []⟩ := by simp only [wpS]
@[simp] theorem wS_tryx {body : List CS} {all : List Str} {cls : List Hd} : wpS (.tryx body all cls) ρ P = wpB body ρ { P with ex := fun ρ' x => x.c ∈ all ∧ wpHds x ρ'.length (P.ex ρ' x) P.rt cls } := by simp only [wpS]
@[simp] theorem wHd_nil {x : Xn} {n : Nat} {E : Prop} {rt : Bool → D → Prop} : wpHds x n E rt [] = E := rfl
@[simp] theorem wHd_cons {x : Xn} {n : Nat} {E : Prop} {rt : Bool → D → Prop} {h : Hd} {hs : List Hd} : wpHds x n E rt (h :: hs) = if subC x.c h.c = true then (∀ i, h.i = some i → i < n) ∧ wpE (hdl x.c h.hs h.last) (List.replicate n none) (fun d => d.cont = false ∧ rt false d) (fun _ => False) else wpHds x n E rt hs := by simp only [wpHds]
@[simp] theorem wS_pass : wpS .pass ρ P = P.nx ρ := by simp only [wpS]
/-- x.append(e): the slot's list as it lies -/
def lstAt (ρ : DEnv) (i : Nat) : Option (List D) := match ρ[i]? with
  | some (some (.lst ds)) => some ds
  | _ => none
theorem lstAt_of {ds : List D} (h : lstAt ρ i = some ds) : ρ[i]? = some (some (.lst ds)) := by
  unfold lstAt at h
  split at h
  · rename_i e; cases h; exact e
  · cases h
@[simp] theorem wS_clr : wpS (.clr i) ρ P = opt (lstAt ρ i) (fun _ => P.nx (ρ.set i (some (.lst [])))) := by
  simp only [wpS]
  unfold opt
  apply propext
  constructor
  · rintro ⟨ds, h1, h2⟩
    exact ⟨ds, by unfold lstAt; rw [h1], h2⟩
  · rintro ⟨ds, h1, h2⟩
    exact ⟨ds, lstAt_of h1, h2⟩
@[simp] theorem wS_ext : wpS (.ext i j) ρ P = opt (lstAt ρ i) (fun ds => opt (lstAt ρ j) fun es => ds.length + es.length ≤ szl ∧ D.imms es = true ∧ P.nx (ρ.set i (some (.lst (ds ++ es))))) := by
  simp only [wpS]
  unfold opt
  apply propext
  constructor
  · rintro ⟨ds, es, h1, h2, h3⟩
    exact ⟨ds, by unfold lstAt; rw [h1], es, by unfold lstAt; rw [h2], h3⟩
  · rintro ⟨ds, h1, es, h2, h3⟩
    exact ⟨ds, es, lstAt_of h1, lstAt_of h2, h3⟩
@[simp] theorem wS_app : wpS (.app i e rd ls) ρ P = opt (lstAt ρ i) (fun ds => ds.length < szl ∧ wpE e ρ (fun d => (rd = [] ∨ ls = true ∨ d.imm = true) ∧ P.nx (ρ.set i (some (.lst (ds ++ [d]))))) (P.ex ρ)) := by
  simp only [wpS]
  unfold opt
  apply propext
  constructor
  · rintro ⟨ds, h1, h2⟩
    exact ⟨ds, by unfold lstAt; rw [h1], h2⟩
  · rintro ⟨ds, h1, h2⟩
    exact ⟨ds, lstAt_of h1, h2⟩
/-- a for loop by an invariant -/
theorem wS_for {it : CE} {body : List CS} (I : Nat → DEnv → Prop) (h : wpE it ρ (fun d => opt (items d) fun xs => I 0 ρ ∧ (∀ i x ρ, xs[i]? = some x → I i ρ → opt (asgT t x ρ) fun ρ' => wpB body ρ' { P with nx := I (i + 1), ct := I (i + 1), bk := P.nx }) ∧ ∀ ρ, I xs.length ρ → P.nx ρ) (P.ex ρ)) : wpS (.for_ t it rd body) ρ P := by
  unfold wpS
  refine wpE_mono it h (fun d ⟨xs, e, h0, hs, hd⟩ => ⟨xs, e, ?_⟩) fun _ q => q
  refine wpFor_inv (n := 0) I h0 (fun i x ρ e h => ?_) fun ρ h => hd ρ (by simpa using h)
  rw [Nat.zero_add] at h ⊢
  obtain ⟨ρ', e, q⟩ := hs i x ρ e h
  exact ⟨ρ', e, q⟩
/-- a while loop by an invariant and a measure -/
theorem wS_whl {body : List CS} (I : DEnv → Prop) (m : DEnv → Nat) (h0 : I ρ) (hs : ∀ ρ, I ρ → wpT c ρ (fun k => if k = true then wpB body ρ { P with nx := fun ρ' => I ρ' ∧ m ρ' < m ρ, ct := fun ρ' => I ρ' ∧ m ρ' < m ρ, bk := P.nx } else P.nx ρ) (P.ex ρ)) : wpS (.whl c body) ρ P := by
  unfold wpS
  exact ⟨m ρ + 1, wpWhl_inv I m hs h0 (Nat.lt_succ_self _)⟩
/-- a for loop over a few items, one by one -/
def forG (t : CT) (body : List CS) (xs : List D) (ρ : DEnv) (P : Pn) : Prop := wpFor (fun x ρ P => ∃ ρ', asgT t x ρ = some ρ' ∧ wpB body ρ' P) xs ρ P
theorem forG_congr {body : List CS} {xs xs' : List D} {ρ ρ' : DEnv} (h : xs = xs') (h2 : ρ = ρ') : forG t body xs ρ P = forG t body xs' ρ' P := by rw [h, h2]
theorem wS_for' {it : CE} {body : List CS} (h : wpE it ρ (fun d => opt (items d) fun xs => forG t body xs ρ P) (P.ex ρ)) : wpS (.for_ t it rd body) ρ P := by
  unfold wpS
  exact h
@[simp] theorem forG_nil {body : List CS} : forG t body [] ρ P = P.nx ρ := by simp only [forG, wpFor]
@[simp] theorem forG_cons {body : List CS} {xs : List D} : forG t body (x :: xs) ρ P = opt (asgT t x ρ) fun ρ' => wpB body ρ' { P with nx := fun ρ' => forG t body xs ρ' P, ct := fun ρ' => forG t body xs ρ' P, bk := P.nx } := by
  simp only [wpFor, opt, forG]
/-- one statement, what holds behind it, the rest -/
theorem wB_step {s : CS} {ss : List CS} (I : DEnv → Prop) (h : wpS s ρ { P with nx := I }) (k : ∀ ρ', I ρ' → wpB ss ρ' P) : wpB (s :: ss) ρ P := by
  rw [wB_cons]
  exact wpS_mono s h ⟨k, fun _ _ q => q, fun _ q => q, fun _ q => q, fun _ _ q => q⟩
/-- the first n statements, what holds behind them, the rest -/
theorem wB_cut (n : Nat) : ∀ {ss : List CS} {ρ : DEnv} {P : Pn} (I : DEnv → Prop), wpB (ss.take n) ρ { P with nx := I } → (∀ ρ', I ρ' → wpB (ss.drop n) ρ' P) → wpB ss ρ P := by
  induction n with
  | zero => intro ss ρ P I h k; rw [List.take_zero, wB_nil] at h; exact k ρ h
  | succ n ih =>
    intro ss ρ P I h k
    cases ss with
    | nil => rw [List.take_nil, wB_nil] at h; exact k ρ h
    | cons s ss =>
      rw [List.take_succ_cons, wB_cons] at h
      rw [wB_cons]
      exact wpS_mono s h ⟨fun ρ' q => ih I q fun ρ2 q2 => k ρ2 q2, fun _ _ q => q, fun _ q => q, fun _ q => q, fun _ _ q => q⟩
/-! ### tests -/
@[simp] theorem truD_bl {b : Bool} : truD (.bl b) = some b := rfl
@[simp] theorem truD_int {i : Int} : truD (.int i) = some (i != 0) := rfl
@[simp] theorem truD_non : truD .non = some false := rfl
@[simp] theorem truD_lst {ds : List D} : truD (.lst ds) = some (!ds.isEmpty) := rfl
@[simp] theorem truD_tup {ds : List D} : truD (.tup ds) = some (!ds.isEmpty) := rfl
theorem wT_E : wpT e ρ QB E = wpE e ρ (fun d => opt (truD d) QB) E := rfl
@[simp] theorem wT_var : wpT (.var i) ρ QB E = wpE (.var i) ρ (fun d => opt (truD d) QB) E := rfl
@[simp] theorem wT_bl {k : Bool} : wpT (.bl k) ρ QB E = QB k := by simp [wT_E, wpE]
@[simp] theorem wT_cmp {o : CO} : wpT (.cmp o a b) ρ QB E = wpE (.cmp o a b) ρ (fun d => opt (truD d) QB) E := rfl
@[simp] theorem wT_chain {o o' : CO} : wpT (.chain o o' a b c) ρ QB E = wpE (.chain o o' a b c) ρ (fun d => opt (truD d) QB) E := rfl
@[simp] theorem wT_isN {k : Bool} : wpT (.isN k a) ρ QB E = wpE (.isN k a) ρ (fun d => opt (truD d) QB) E := rfl
@[simp] theorem wT_mem {k : Bool} : wpT (.mem k a b) ρ QB E = wpE (.mem k a b) ρ (fun d => opt (truD d) QB) E := rfl
@[simp] theorem wT_ix : wpT (.ix a b) ρ QB E = wpE (.ix a b) ρ (fun d => opt (truD d) QB) E := rfl
@[simp] theorem wT_bin {o : BO} : wpT (.bin o a b) ρ QB E = wpE (.bin o a b) ρ (fun d => opt (truD d) QB) E := rfl
@[simp] theorem wT_call {f : Str} {sp : Spec} : wpT (.call f sp es) ρ QB E = wpE (.call f sp es) ρ (fun d => opt (truD d) QB) E := rfl
@[simp] theorem wT_blt {f : BF} : wpT (.blt f es) ρ QB E = wpE (.blt f es) ρ (fun d => opt (truD d) QB) E := rfl
@[simp] theorem wT_isi {k : TY} : wpT (.isi a k) ρ QB E = wpE (.isi a k) ρ (fun d => opt (truD d) QB) E := rfl
@[simp] theorem wT_lc {ifs : List CE} : wpT (.lc t a ifs b) ρ QB E = wpE (.lc t a ifs b) ρ (fun d => opt (truD d) QB) E := rfl
@[simp] theorem wT_ife : wpT (.ife c a b) ρ QB E = wpE (.ife c a b) ρ (fun d => opt (truD d) QB) E := rfl
@[simp] theorem wT_not : wpT (.not a) ρ QB E = wpT a ρ (fun k => QB (!k)) E := by
  simp only [wT_E, wpE]
  congr
  funext d
  apply propext
  constructor
  · rintro ⟨k, h1, k2, h2, h3⟩
    cases h2
    exact ⟨k, h1, h3⟩
  · rintro ⟨k, h1, h2⟩
    exact ⟨k, h1, _, rfl, h2⟩
@[simp] theorem wT_and1 : wpT (.and [e]) ρ QB E = wpT e ρ QB E := by
  simp only [wT_E, wpE, wpAnd]
@[simp] theorem wT_or1 : wpT (.or [e]) ρ QB E = wpT e ρ QB E := by
  simp only [wT_E, wpE, wpOr]
@[simp] theorem wT_and : wpT (.and (e :: e' :: es)) ρ QB E = wpT e ρ (fun k => if k = true then wpT (.and (e' :: es)) ρ QB E else QB false) E := by
  simp only [wT_E, wpE]
  rw [wpAnd]
  congr
  funext d
  apply propext
  constructor
  · rintro ⟨k, h1, h2⟩
    refine ⟨k, h1, ?_⟩
    split at h2
    · rename_i hk; rw [if_pos hk]; exact h2
    · rename_i hk
      rw [if_neg hk]
      obtain ⟨k2, h3, h4⟩ := h2
      rw [h1] at h3
      cases h3
      have : k = false := by simpa using hk
      rwa [this] at h4
  · rintro ⟨k, h1, h2⟩
    refine ⟨k, h1, ?_⟩
    split at h2
    · rename_i hk; rw [if_pos hk]; exact h2
    · rename_i hk
      rw [if_neg hk]
      have : k = false := by simpa using hk
      exact ⟨k, h1, by rw [this]; exact h2⟩
@[simp] theorem wT_or : wpT (.or (e :: e' :: es)) ρ QB E = wpT e ρ (fun k => if k = true then QB true else wpT (.or (e' :: es)) ρ QB E) E := by
  simp only [wT_E, wpE]
  rw [wpOr]
  congr
  funext d
  apply propext
  constructor
  · rintro ⟨k, h1, h2⟩
    refine ⟨k, h1, ?_⟩
    split at h2
    · rename_i hk
      rw [if_pos hk]
      obtain ⟨k2, h3, h4⟩ := h2
      rw [h1] at h3
      cases h3
      rwa [hk] at h4
    · rename_i hk; rw [if_neg hk]; exact h2
  · rintro ⟨k, h1, h2⟩
    refine ⟨k, h1, ?_⟩
    split at h2
    · rename_i hk
      rw [if_pos hk]
      exact ⟨k, h1, by rw [hk]; exact h2⟩
    · rename_i hk; rw [if_neg hk]; exact h2
/-! ### expressions -/
/-- the data at a slot -/
def slot (ρ : DEnv) (i : Nat) : Option D := (ρ[i]?).bind id
@[simp] theorem slot_zero {r : DEnv} : slot (some d :: r) 0 = some d := rfl
@[simp] theorem slot_succ {r : DEnv} {o : Option D} : slot (o :: r) (i + 1) = slot r i := by simp [slot]
@[simp] theorem lstAt_zero {ds : List D} {r : DEnv} : lstAt (some (.lst ds) :: r) 0 = some ds := rfl
@[simp] theorem lstAt_succ {r : DEnv} {o : Option D} : lstAt (o :: r) (i + 1) = lstAt r i := by simp [lstAt]
@[simp] theorem wE_var : wpE (.var i) ρ Q E = opt (slot ρ i) Q := by
  simp only [wpE, slot, opt]
  apply propext
  constructor
  · rintro ⟨d, h1, h2⟩; exact ⟨d, by rw [h1]; rfl, h2⟩
  · rintro ⟨d, h1, h2⟩
    refine ⟨d, ?_, h2⟩
    cases e : ρ[i]? with
    | none => rw [e] at h1; cases h1
    | some o => rw [e] at h1; cases o with
      | none => cases h1
      | some d' => cases h1; rfl
theorem slot_some {o : D} : slot ρ i = some o ↔ ρ[i]? = some (some o) := by
  unfold slot
  cases e : ρ[i]? with
  | none => simp
  | some p => cases p <;> simp
@[simp] theorem wS_put {k : CE} : wpS (.put i k e) ρ P = opt (slot ρ i) (fun c => wpE e ρ (fun v => wpE k ρ (fun x => v.imm = true ∧ putD c x v fun c' => P.nx (ρ.set i (some c'))) (P.ex ρ)) (P.ex ρ)) := by
  simp only [wpS, opt, slot_some]
@[simp] theorem put_dict {ks vs : List D} : putD (.dict ks vs) x y Q = (ks.length < szl ∧ isKey x = true ∧ Q (dPut ks vs x y)) := rfl
@[simp] theorem put_lst {ds : List D} {n : Int} : putD (.lst ds) (.int n) y Q = opt (ixI ds n) (fun j => Q (.lst (ds.set j y))) := by
  simp [putD, opt]
/-- all but the last, the last -/
def unsn (l : List D) : Option (List D × D) := match l.getLast? with
  | some d => some (l.dropLast, d)
  | none => none
@[simp] theorem unsn_snoc {ds : List D} : unsn (ds ++ [d]) = some (ds, d) := by simp [unsn]
@[simp] theorem unsn_nil : unsn [] = none := rfl
@[simp] theorem wS_pop : wpS (.pop j i) ρ P = opt (lstAt ρ i) (fun l => opt (unsn l) fun p => P.nx ((ρ.set i (some (.lst p.1))).set j (some p.2))) := by
  simp only [wpS]
  unfold opt
  apply propext
  constructor
  · rintro ⟨ds, d, h1, h2⟩
    exact ⟨ds ++ [d], by unfold lstAt; rw [h1], (ds, d), unsn_snoc, h2⟩
  · rintro ⟨l, h1, ⟨ds, d⟩, h2, h3⟩
    have e : l = ds ++ [d] := by
      rcases List.eq_nil_or_concat l with rfl | ⟨a, b, rfl⟩
      · cases h2
      · rw [List.concat_eq_append, unsn_snoc] at h2
        cases h2
        rw [List.concat_eq_append]
    subst e
    exact ⟨ds, d, lstAt_of h1, h3⟩
def pairD : D → Option (D × D)
  | .tup [x, y] => some (x, y)
  | _ => none
@[simp] theorem pairD_tup : pairD (.tup [x, y]) = some (x, y) := rfl
theorem pairD_of {d : D} {p : D × D} (h : pairD d = some p) : d = .tup [p.1, p.2] := by
  unfold pairD at h
  split at h
  · cases h; rfl
  · cases h
@[simp] theorem wS_asgP {f : Str} {sp : Spec} : wpS (.asgP i j f sp es rd ls) ρ P = wpEs es ρ (fun ds => sp.run ds (fun d => opt (pairD d) fun p => p.2.imm = true ∧ (rd = [] ∨ ls = true ∨ p.1.flat = true) ∧ P.nx ((ρ.set i (some p.1)).set j (some p.2))) (P.ex ρ)) (P.ex ρ) := by
  simp only [wpS]
  congr
  funext ds
  congr
  funext d
  unfold opt
  apply propext
  constructor
  · rintro ⟨x, y, rfl, h⟩
    exact ⟨(x, y), rfl, h⟩
  · rintro ⟨p, h, h2⟩
    exact ⟨p.1, p.2, pairD_of h, h2⟩
@[simp] theorem wE_dct0 : wpE .dct0 ρ Q E = Q (.dict [] []) := by simp only [wpE]
@[simp] theorem wE_dct1 : wpE (.dct1 a b) ρ Q E = wpE a ρ (fun x => wpE b ρ (fun y => isKey x = true ∧ Q (.dict [x] [y])) E) E := by simp only [wpE]
/-- sorted(it, key=lambda x: key) -/
theorem wE_sortk {it key : CE} (kf : D → D) (h : wpE it ρ (fun d => ∃ xs, d = .lst xs ∧ i < ρ.length ∧ (∀ x ∈ xs, (cmpOk x x = true ∧ ne1 x = true) ∧ wpE key (ρ.set i (some x)) (fun y => y = kf x) (fun _ => False)) ∧ TupsOk 60 (xs.map kf) ∧ Q (.lst (srtB (fun x y => ltT (kf x) (kf y)) xs))) E) :
    wpE (.sortk i it key) ρ Q E := by
  unfold wpE
  exact wpE_mono it h (fun d ⟨xs, e, h⟩ => ⟨xs, kf, e, h⟩) fun _ z => z
@[simp] theorem wT_dct0 : wpT .dct0 ρ QB E = wpE .dct0 ρ (fun d => opt (truD d) QB) E := rfl
@[simp] theorem wE_int {k : Int} : wpE (.int k) ρ Q E = Q (.int k) := by simp only [wpE]
@[simp] theorem wE_bl {k : Bool} : wpE (.bl k) ρ Q E = Q (.bl k) := by simp only [wpE]
@[simp] theorem wE_non : wpE .non ρ Q E = Q .non := by simp only [wpE]
@[simp] theorem wE_nop : wpE .nop ρ Q E = Q .non := by simp only [wpE]
@[simp] theorem wE_str {k : Str} : wpE (.str k) ρ Q E = Q (.str k) := by simp only [wpE]
@[simp] theorem wE_glob {k : Str} : wpE (.glob k d) ρ Q E = Q d := by simp only [wpE]
@[simp] theorem wE_cat : wpE (.cat a b) ρ Q E = wpE a ρ (fun x => wpE b ρ (fun y => catD x y Q) E) E := by simp only [wpE]
@[simp] theorem cat_lst {xs ys : List D} : catD (.lst xs) (.lst ys) Q = (xs.length + ys.length ≤ szl ∧ Q (.lst (xs ++ ys))) := rfl
@[simp] theorem wE_bin {o : BO} : wpE (.bin o a b) ρ Q E = wpE a ρ (fun x => wpE b ρ (fun y => binD o x y Q) E) E := by simp only [wpE]
def negD : D → Option D
  | .int i => some (.int (-i))
  | _ => none
@[simp] theorem negD_int {i : Int} : negD (.int i) = some (.int (-i)) := rfl
@[simp] theorem wE_neg : wpE (.neg a) ρ Q E = wpE a ρ (fun x => opt (negD x) Q) E := by
  simp only [wpE]
  congr
  funext x
  apply propext
  constructor
  · rintro ⟨i, rfl, h⟩; exact ⟨_, rfl, h⟩
  · rintro ⟨d, h1, h2⟩
    cases x <;> cases h1
    exact ⟨_, rfl, h2⟩
@[simp] theorem wE_not : wpE (.not a) ρ Q E = wpT a ρ (fun k => Q (.bl (!k))) E := by simp only [wpE, wT_E, opt]
@[simp] theorem wE_cmp {o : CO} : wpE (.cmp o a b) ρ Q E = wpE a ρ (fun x => wpE b ρ (fun y => cmpD o x y Q) E) E := by simp only [wpE]
@[simp] theorem wE_chain {o o' : CO} : wpE (.chain o o' a b c) ρ Q E = wpE a ρ (fun x => wpE b ρ (fun y => cmpD o x y fun r => opt (truD r) fun k => if k = true then wpE c ρ (fun z => cmpD o' y z Q) E else Q (.bl false)) E) E := by
  simp only [wpE]
  congr
  funext x
  congr
  funext y
  have : ∀ (F : Bool → Prop), (cmpD o x y fun r => ∃ k, r = .bl k ∧ F k) = cmpD o x y fun r => opt (truD r) F := by
    intro F
    unfold cmpD
    split
    · simp [opt]
    · simp [opt]
    all_goals
      split
      · simp [opt]
      · rfl
  rw [← this]
@[simp] theorem wE_isN {k : Bool} : wpE (.isN k a) ρ Q E = wpE a ρ (fun x => Q (.bl (k != x.isNon))) E := by simp only [wpE]
@[simp] theorem wE_mem {k : Bool} : wpE (.mem k a b) ρ Q E = wpE a ρ (fun x => wpE b ρ (fun y => memD x y fun r => Q (.bl (k != r))) E) E := by simp only [wpE]
@[simp] theorem wE_and1 : wpE (.and [e]) ρ Q E = wpE e ρ Q E := by simp only [wpE, wpAnd]
@[simp] theorem wE_and : wpE (.and (e :: e' :: es)) ρ Q E = wpE e ρ (fun d => opt (truD d) fun k => if k = true then wpE (.and (e' :: es)) ρ Q E else Q d) E := by
  simp only [wpE]
  rw [wpAnd]
  rfl
@[simp] theorem wE_or1 : wpE (.or [e]) ρ Q E = wpE e ρ Q E := by simp only [wpE, wpOr]
@[simp] theorem wE_or : wpE (.or (e :: e' :: es)) ρ Q E = wpE e ρ (fun d => opt (truD d) fun k => if k = true then Q d else wpE (.or (e' :: es)) ρ Q E) E := by
  simp only [wpE]
  rw [wpOr]
  rfl
@[simp] theorem wE_ife : wpE (.ife c a b) ρ Q E = wpT c ρ (fun k => if k = true then wpE a ρ Q E else wpE b ρ Q E) E := by simp only [wpE, wT_E, opt]
@[simp] theorem wE_tup : wpE (.tup es) ρ Q E = wpEs es ρ (fun ds => ds.length ≤ szl ∧ Q (.tup ds)) E := by simp only [wpE]
@[simp] theorem wE_lst : wpE (.lst es) ρ Q E = wpEs es ρ (fun ds => ds.length ≤ szl ∧ Q (.lst ds)) E := by simp only [wpE]
@[simp] theorem wE_ix : wpE (.ix a b) ρ Q E = wpE a ρ (fun x => wpE b ρ (fun y => ixD x y Q) E) E := by simp only [wpE]
@[simp] theorem wE_sl : wpE (.sl a b c) ρ Q E = wpE a ρ (fun x => wpE b ρ (fun y => opt (partD b.isNop y) fun l => wpE c ρ (fun z => opt (partD c.isNop z) fun h => slD x l h Q) E) E) E := by simp only [wpE]; rfl
@[simp] theorem wE_call {f : Str} {sp : Spec} : wpE (.call f sp es) ρ Q E = wpEs es ρ (fun ds => sp.run ds Q E) E := by simp only [wpE]
@[simp] theorem wE_blt {f : BF} : wpE (.blt f es) ρ Q E = wpEs es ρ (fun ds => bltD f ds Q) E := by simp only [wpE]
@[simp] theorem wE_isi {k : TY} : wpE (.isi a k) ρ Q E = wpE a ρ (fun x => Q (.bl (isiD k x))) E := by simp only [wpE]
@[simp] theorem wE_rng : wpE (.rng es) ρ Q E = wpEs es ρ (fun ds => rngD ds Q) E := by simp only [wpE]
@[simp] theorem wEs_nil : wpEs [] ρ QL E = QL [] := by simp only [wpEs]
@[simp] theorem wEs_cons : wpEs (e :: es) ρ QL E = wpE e ρ (fun d => wpEs es ρ (fun ds => QL (d :: ds)) E) E := by simp only [wpEs]
/-! ### operations -/
section
variable {m n : Int} {xs ys : List D}
@[simp] theorem b_add : binD .add (.int m) (.int n) Q = Q (.int (m + n)) := rfl
@[simp] theorem b_addT : binD .add (.tup xs) (.tup ys) Q = (xs.length + ys.length ≤ szl ∧ Q (.tup (xs ++ ys))) := rfl
@[simp] theorem b_addL : binD .add (.lst xs) (.lst ys) Q = (xs.length + ys.length ≤ szl ∧ Q (.lst (xs ++ ys))) := rfl
@[simp] theorem b_sub : binD .sub (.int m) (.int n) Q = Q (.int (m - n)) := rfl
@[simp] theorem b_mul : binD .mul (.int m) (.int n) Q = (MulOk m n ∧ Q (.int (m * n))) := rfl
@[simp] theorem b_fdiv : binD .fdiv (.int m) (.int n) Q = (DivOk n ∧ Q (.int (m.fdiv n))) := rfl
@[simp] theorem b_mod : binD .mod (.int m) (.int n) Q = (n ≠ 0 ∧ Q (.int (m.fmod n))) := rfl
@[simp] theorem b_pow : binD .pow (.int m) (.int n) Q = (PowOk m n ∧ Q (.int (m ^ n.toNat))) := rfl
@[simp] theorem c_lt : cmpD .lt (.int m) (.int n) Q = Q (.bl (decide (m < n))) := rfl
@[simp] theorem c_le : cmpD .le (.int m) (.int n) Q = Q (.bl (decide (m ≤ n))) := rfl
@[simp] theorem c_gt : cmpD .gt (.int m) (.int n) Q = Q (.bl (decide (n < m))) := rfl
@[simp] theorem c_ge : cmpD .ge (.int m) (.int n) Q = Q (.bl (decide (n ≤ m))) := rfl
theorem c_eqD : cmpD .eq x y Q = (x.plain 64 = true ∧ y.plain 64 = true ∧ Q (.bl (eqb x y))) := rfl
theorem c_neD : cmpD .ne x y Q = (x.plain 64 = true ∧ y.plain 64 = true ∧ Q (.bl (!eqb x y))) := rfl
@[simp] theorem eqb_int : eqb (.int m) (.int n) = decide (m = n) := by
  unfold eqb
  simp only [D.toP, PyData.eqv]
  rw [Bool.eq_iff_iff]
  simp
@[simp] theorem c_eqI : cmpD .eq (.int m) (.int n) Q = Q (.bl (decide (m = n))) := by
  rw [c_eqD, eqb_int]
  simp [D.plain]
@[simp] theorem c_neI : cmpD .ne (.int m) (.int n) Q = Q (.bl (!decide (m = n))) := by
  rw [c_neD, eqb_int]
  simp [D.plain]
@[simp] theorem c_eqB {p q : Bool} : cmpD .eq (.bl p) (.bl q) Q = Q (.bl (p == q)) := by
  rw [c_eqD]
  simp [D.plain, eqb, D.toP, PyData.eqv]
@[simp] theorem c_neB {p q : Bool} : cmpD .ne (.bl p) (.bl q) Q = Q (.bl (p != q)) := by
  rw [c_neD]
  simp [D.plain, eqb, D.toP, PyData.eqv]
  rfl
theorem at_lit {α : Type} {l : List α} {k : Nat} {z : α} (h : l[k]? = some z) : atD l (k : Int) = some z := by
  unfold atD
  have hk : k < l.length := (List.getElem?_eq_some_iff.mp h).1
  rw [if_pos (by omega), if_pos (by omega)]
  simpa using h
@[simp] theorem ix_T : ixD (.tup xs) (.int m) Q = opt (atD xs m) Q := rfl
@[simp] theorem ix_L : ixD (.lst xs) (.int m) Q = opt (atD xs m) Q := rfl
@[simp] theorem at_0 {α : Type} {l : List α} {z : α} : atD (z :: l) 0 = some z := by
  unfold atD
  rw [if_pos (by omega), if_pos (by simp)]
  rfl
theorem at_S {α : Type} {l : List α} {z : α} {k : Nat} : atD (z :: l) ((k + 1 : Nat) : Int) = atD l (k : Int) := by
  unfold atD
  rw [List.length_cons, if_pos (show (0 : Int) ≤ ((k + 1 : Nat) : Int) by omega), if_pos (show (0 : Int) ≤ (k : Int) by omega)]
  by_cases h : k < l.length
  · rw [if_pos (by omega), if_pos (by omega)]
    rfl
  · rw [if_neg (by omega), if_neg (by omega)]
    rfl
@[simp] theorem at_1 {α : Type} {l : List α} {z : α} : atD (z :: l) 1 = atD l 0 := at_S (k := 0)
@[simp] theorem at_2 {α : Type} {l : List α} {z : α} : atD (z :: l) 2 = atD l 1 := at_S (k := 1)
@[simp] theorem at_3 {α : Type} {l : List α} {z : α} : atD (z :: l) 3 = atD l 2 := at_S (k := 2)
@[simp] theorem at_4 {α : Type} {l : List α} {z : α} : atD (z :: l) 4 = atD l 3 := at_S (k := 3)
@[simp] theorem at_5 {α : Type} {l : List α} {z : α} : atD (z :: l) 5 = atD l 4 := at_S (k := 4)
@[simp] theorem at_6 {α : Type} {l : List α} {z : α} : atD (z :: l) 6 = atD l 5 := at_S (k := 5)
@[simp] theorem at_7 {α : Type} {l : List α} {z : α} : atD (z :: l) 7 = atD l 6 := at_S (k := 6)
@[simp] theorem at_8 {α : Type} {l : List α} {z : α} : atD (z :: l) 8 = atD l 7 := at_S (k := 7)
@[simp] theorem at_9 {α : Type} {l : List α} {z : α} : atD (z :: l) 9 = atD l 8 := at_S (k := 8)
@[simp] theorem at_10 {α : Type} {l : List α} {z : α} : atD (z :: l) 10 = atD l 9 := at_S (k := 9)
@[simp] theorem at_11 {α : Type} {l : List α} {z : α} : atD (z :: l) 11 = atD l 10 := at_S (k := 10)
@[simp] theorem at_12 {α : Type} {l : List α} {z : α} : atD (z :: l) 12 = atD l 11 := at_S (k := 11)
@[simp] theorem at_13 {α : Type} {l : List α} {z : α} : atD (z :: l) 13 = atD l 12 := at_S (k := 12)
@[simp] theorem at_14 {α : Type} {l : List α} {z : α} : atD (z :: l) 14 = atD l 13 := at_S (k := 13)
@[simp] theorem at_15 {α : Type} {l : List α} {z : α} : atD (z :: l) 15 = atD l 14 := at_S (k := 14)
@[simp] theorem f_lenT : bltD .len [.tup xs] Q = Q (.int xs.length) := rfl
@[simp] theorem f_lenL : bltD .len [.lst xs] Q = Q (.int xs.length) := rfl
@[simp] theorem f_abs : bltD .abs [.int m] Q = Q (.int (absI m)) := rfl
@[simp] theorem f_int : bltD .int_ [.int m] Q = Q (.int m) := rfl
@[simp] theorem f_lenD {ks vs : List D} : bltD .len [.dict ks vs] Q = Q (.int ks.length) := rfl
@[simp] theorem f_listD {ks vs : List D} : bltD .list_ [.dict ks vs] Q = Q (.lst ks) := rfl
@[simp] theorem mem_dict {ks vs : List D} {QB : Bool → Prop} : memD x (.dict ks vs) QB = (isKey x = true ∧ QB (dHas ks x)) := rfl
@[simp] theorem cont_lst : D.cont (.lst xs) = true := rfl
@[simp] theorem cont_dict {ks vs : List D} : D.cont (.dict ks vs) = true := rfl
@[simp] theorem f_intB {b : Bool} : bltD .int_ [.bl b] Q = Q (.int (if b = true then 1 else 0)) := rfl
@[simp] theorem f_listT : bltD .list_ [.tup xs] Q = Q (.lst xs) := rfl
@[simp] theorem f_listL : bltD .list_ [.lst xs] Q = Q (.lst xs) := rfl
@[simp] theorem f_tupT : bltD .tuple_ [.tup xs] Q = Q (.tup xs) := rfl
@[simp] theorem f_tupL : bltD .tuple_ [.lst xs] Q = Q (.tup xs) := rfl
@[simp] theorem f_sorted : bltD .sorted_ [.lst xs] Q = (((∃ ns, intsD xs = some ns) ∨ TupsOk 60 xs) ∧ Q (.lst (sortD xs))) := rfl
@[simp] theorem f_max : bltD .max2 [.int m, .int n] Q = Q (.int (if n > m then n else m)) := rfl
@[simp] theorem f_min : bltD .min2 [.int m, .int n] Q = Q (.int (if n < m then n else m)) := rfl
@[simp] theorem r_1 : rngD [.int m] Q = (-(2 ^ 62) ≤ m ∧ m < 2 ^ 62 ∧ Q (.lst (rangeD 0 m.toNat))) := rfl
@[simp] theorem r_2 : rngD [.int m, .int n] Q = (-(2 ^ 62) ≤ m ∧ m < 2 ^ 62 ∧ -(2 ^ 62) ≤ n ∧ n < 2 ^ 62 ∧ Q (.lst (rangeD m (n - m).toNat))) := rfl
theorem rng_len (lo : Int) (n : Nat) : (rangeD lo n).length = n := by simp [rangeD]
theorem rng_get {lo : Int} {n i : Nat} {d : D} (h : (rangeD lo n)[i]? = some d) : i < n ∧ d = .int (lo + (i : Int)) := by
  unfold rangeD at h
  rw [List.getElem?_map] at h
  by_cases hi : i < n
  · rw [List.getElem?_range hi] at h
    cases h
    exact ⟨hi, rfl⟩
  · rw [List.getElem?_eq_none (by simpa using hi)] at h
    cases h
@[simp] theorem items_T : items (.tup xs) = some xs := rfl
@[simp] theorem items_L : items (.lst xs) = some xs := rfl
@[simp] theorem asgT_nm : asgT (.nm i) d ρ = some (ρ.set i (some d)) := by simp only [asgT]
@[simp] theorem asgT_tp {ts : List CT} {xs : List D} : asgT (.tp ts) (.tup xs) ρ = asgTs ts xs ρ := by simp only [asgT]
@[simp] theorem asgTs_nil : asgTs [] [] ρ = some ρ := by simp only [asgTs]
@[simp] theorem asgTs_cons {ts : List CT} {xs : List D} : asgTs (t :: ts) (d :: xs) ρ = (asgT t d ρ).bind (asgTs ts xs) := by simp only [asgTs]
@[simp] theorem partD_t : partD true d = some none := rfl
@[simp] theorem partD_f {m : Int} : partD false (.int m) = some (some m) := rfl
@[simp] theorem nop_nop : CE.isNop .nop = true := rfl
@[simp] theorem nop_int {m : Int} : CE.isNop (.int m) = false := rfl
@[simp] theorem nop_var : CE.isNop (.var i) = false := rfl
@[simp] theorem sl_T {l h : Option Int} {xs : List D} : slD (.tup xs) l h Q = Q (.tup (cutD xs l h)) := rfl
@[simp] theorem sl_L {l h : Option Int} {xs : List D} : slD (.lst xs) l h Q = Q (.lst (cutD xs l h)) := rfl
/-- the k-th number -/
def nth (xs : List Int) (k : Nat) : Int := (xs[k]?).getD 0
theorem ix_nums {xs : List Int} {k : Int} (h0 : 0 ≤ k) (h : k < xs.length) : ixD (.lst (xs.map .int)) (.int k) Q = Q (.int (nth xs k.toNat)) := by
  obtain ⟨m, rfl⟩ := Int.eq_ofNat_of_zero_le h0
  have hm : m < xs.length := by omega
  rw [ix_L, at_lit (z := .int xs[m]) (by rw [List.getElem?_map, List.getElem?_eq_getElem hm]; rfl), opt_some]
  have e : nth xs (Int.toNat (m : Int)) = xs[m] := by
    unfold nth
    simp [hm]
  rw [e]
theorem ixN {xs : List Int} {n : Nat} (hn : n ≤ xs.length) {k : Int} (h0 : 0 ≤ k) (h : k < (n : Int)) : ixD (.lst (xs.map .int)) (.int k) Q = Q (.int (nth xs k.toNat)) := ix_nums h0 (by omega)
theorem cut_nums {xs : List Int} {k : Int} (h0 : 0 ≤ k) : slD (.lst (xs.map .int)) (some k) none Q = Q (.lst ((xs.drop k.toNat).map .int)) := by
  obtain ⟨m, rfl⟩ := Int.eq_ofNat_of_zero_le h0
  rw [sl_L]
  congr 2
  unfold cutD sIxD
  simp only [List.length_map]
  rw [if_neg (by omega)]
  have e1 : (min (m : Int) (xs.length : Int)).toNat = min m xs.length := by omega
  rw [e1, ← List.map_drop, ← List.map_take]
  congr 1
  simp only [Int.toNat_natCast]
  rw [List.take_of_length_le (by simp)]
  by_cases hm : m ≤ xs.length
  · rw [Nat.min_eq_left hm]
  · rw [Nat.min_eq_right (by omega), List.drop_eq_nil_of_le (by omega), List.drop_eq_nil_of_le (by omega)]
theorem nth_drop {xs : List Int} {a k : Nat} : nth (xs.drop a) k = nth xs (a + k) := by unfold nth; rw [List.getElem?_drop]
/-- x in [ints] -/
theorem mem_ints {m : Int} {xs : List Int} {QB : Bool → Prop} : memD (.int m) (.lst (xs.map .int)) QB = QB (xs.any fun z => decide (z = m)) := by
  have hp : D.plain 64 (.lst (xs.map .int)) = true := by
    unfold D.plain
    induction xs with
    | nil => rfl
    | cons x xs ih => simp only [List.map_cons, D.plains, D.plain, ih]; rfl
  have ha : ((xs.map D.int).any fun z => eqb z (.int m)) = xs.any fun z => decide (z = m) := by
    induction xs with
    | nil => rfl
    | cons x xs ih =>
      have hp' : D.plain 64 (.lst (xs.map .int)) = true := by
        unfold D.plain at hp ⊢
        simp only [List.map_cons, D.plains] at hp
        exact (Bool.and_eq_true_iff.mp hp).2
      simp only [List.map_cons, List.any_cons, eqb_int, ih hp']
  show (D.plain 64 (.int m) = true ∧ D.plain 64 (.lst (xs.map .int)) = true ∧ QB ((xs.map D.int).any fun z => eqb z (.int m))) = _
  rw [hp, ha]
  simp [D.plain]
@[simp] theorem mem_2 {m a b : Int} {QB : Bool → Prop} : memD (.int m) (.lst [.int a, .int b]) QB = QB (decide (a = m) || decide (b = m)) := by
  have := mem_ints (m := m) (xs := [a, b]) (QB := QB)
  simpa using this
@[simp] theorem mem_3 {m a b c : Int} {QB : Bool → Prop} : memD (.int m) (.lst [.int a, .int b, .int c]) QB = QB (decide (a = m) || (decide (b = m) || decide (c = m))) := by
  have := mem_ints (m := m) (xs := [a, b, c]) (QB := QB)
  simpa using this
@[simp] theorem isNon_int : D.isNon (.int m) = false := rfl
@[simp] theorem isNon_tup : D.isNon (.tup xs) = false := rfl
@[simp] theorem isNon_lst : D.isNon (.lst xs) = false := rfl
@[simp] theorem isNon_non : D.isNon .non = true := rfl
@[simp] theorem isNon_bl {b : Bool} : D.isNon (.bl b) = false := rfl
@[simp] theorem cont_int : D.cont (.int m) = false := rfl
@[simp] theorem cont_bl {b : Bool} : D.cont (.bl b) = false := rfl
@[simp] theorem cont_tup : D.cont (.tup xs) = false := rfl
@[simp] theorem cont_non : D.cont .non = false := rfl
@[simp] theorem cont_str {x : Str} : D.cont (.str x) = false := rfl
@[simp] theorem imm_int : D.imm (.int m) = true := by simp only [D.imm]
@[simp] theorem imm_bl {b : Bool} : D.imm (.bl b) = true := by simp only [D.imm]
@[simp] theorem imm_str {x : Str} : D.imm (.str x) = true := by simp only [D.imm]
@[simp] theorem imm_tup : D.imm (.tup xs) = D.imms xs := by simp only [D.imm]
@[simp] theorem imms_nil : D.imms [] = true := by simp only [D.imms]
@[simp] theorem imms_cons : D.imms (d :: xs) = (d.imm && D.imms xs) := by simp only [D.imms]
@[simp] theorem keep_nil : keep [] ls e d = True := by simp [keep]
@[simp] theorem keep_ls : keep rd true e d = True := by simp [keep]
end
@[simp] theorem isNon_str {x : Str} : D.isNon (.str x) = false := rfl
@[simp] theorem isi_tupstr {x : Str} : isiD .tup (.str x) = false := rfl
@[simp] theorem isi_lststr {x : Str} : isiD .lst (.str x) = false := rfl
@[simp] theorem isi_intstr {x : Str} : isiD .int (.str x) = false := rfl
@[simp] theorem isi_blstr {x : Str} : isiD .bl (.str x) = false := rfl
@[simp] theorem isi_tupnon : isiD .tup .non = false := rfl
@[simp] theorem isi_lstnon : isiD .lst .non = false := rfl
@[simp] theorem isi_intnon : isiD .int .non = false := rfl
@[simp] theorem isi_blnon : isiD .bl .non = false := rfl
@[simp] theorem isi_strnon : isiD .str .non = false := rfl
@[simp] theorem isi_tt {xs : List D} : isiD .tup (.tup xs) = true := rfl
@[simp] theorem isi_tl {xs : List D} : isiD .tup (.lst xs) = false := rfl
@[simp] theorem isi_ti {m : Int} : isiD .tup (.int m) = false := rfl
@[simp] theorem isi_tb {m : Bool} : isiD .tup (.bl m) = false := rfl
@[simp] theorem isi_ll {xs : List D} : isiD .lst (.lst xs) = true := rfl
@[simp] theorem isi_lt {xs : List D} : isiD .lst (.tup xs) = false := rfl
@[simp] theorem isi_li {m : Int} : isiD .lst (.int m) = false := rfl
@[simp] theorem isi_lb {m : Bool} : isiD .lst (.bl m) = false := rfl
@[simp] theorem isi_ii {m : Int} : isiD .int (.int m) = true := rfl
@[simp] theorem isi_ib {m : Bool} : isiD .int (.bl m) = true := rfl
@[simp] theorem isi_it {xs : List D} : isiD .int (.tup xs) = false := rfl
@[simp] theorem isi_il {xs : List D} : isiD .int (.lst xs) = false := rfl
@[simp] theorem isi_bi {m : Int} : isiD .bl (.int m) = false := rfl
@[simp] theorem isi_bb {m : Bool} : isiD .bl (.bl m) = true := rfl
@[simp] theorem isi_bt {xs : List D} : isiD .bl (.tup xs) = false := rfl
@[simp] theorem isi_bls {xs : List D} : isiD .bl (.lst xs) = false := rfl
@[simp] theorem isi_si {m : Int} : isiD .str (.int m) = false := rfl
@[simp] theorem isi_sb {m : Bool} : isiD .str (.bl m) = false := rfl
@[simp] theorem isi_st {xs : List D} : isiD .str (.tup xs) = false := rfl
@[simp] theorem isi_sl {xs : List D} : isiD .str (.lst xs) = false := rfl
@[simp] theorem isi_ss {x : Str} : isiD .str (.str x) = true := rfl
/-! ### comprehensions -/
theorem wpLc_all {g : D → (Option D → Prop) → Prop} (hm : ∀ x K K', g x K → (∀ r, K r → K' r) → g x K') (R : D → Prop) : ∀ {xs acc : List D} {Q : List D → Prop}, (∀ x ∈ xs, g x fun r => ∃ y, r = some y ∧ R y) → (∀ y ∈ acc, R y) → acc.length + xs.length ≤ szl →
    (∀ ys, (∀ y ∈ ys, R y) → ys.length = acc.length + xs.length → Q ys) → wpLc g xs acc Q
  | [], acc, Q, _, ha, _, hq => by unfold wpLc; exact hq acc ha (by simp)
  | x :: xs, acc, Q, hg, ha, hl, hq => by
    unfold wpLc
    rw [List.length_cons] at hl
    refine hm _ _ _ (hg x List.mem_cons_self) ?_
    rintro r ⟨y, rfl, hy⟩
    refine ⟨by omega, wpLc_all hm R (fun x hx => hg x (List.mem_cons_of_mem _ hx)) (fun z hz => ?_) (by rw [List.length_append, List.length_singleton]; omega) fun ys h1 h2 => hq ys h1 (by simp at h2; simp; omega)⟩
    rcases List.mem_append.mp hz with h | h
    · exact ha z h
    · rw [List.mem_singleton.mp h]; exact hy
/-- [elt for t in it] -/
theorem wE_lc {it elt : CE} (R : D → Prop) (h : wpE it ρ (fun d => opt (items d) fun xs => xs.length ≤ szl ∧ (∀ x ∈ xs, opt (asgT t x ρ) fun ρ' => wpE elt ρ' R fun _ => False) ∧ ∀ ys, (∀ y ∈ ys, R y) → ys.length = xs.length → Q (.lst ys)) E) : wpE (.lc t it [] elt) ρ Q E := by
  unfold wpE
  refine wpE_mono it h (fun d ⟨xs, e, hl, hx, hq⟩ => ⟨xs, e, ?_⟩) fun _ q => q
  have hm : ∀ (x : D) (K K' : Option D → Prop), (∃ ρ', asgT t x ρ = some ρ' ∧ wpIfs [] ρ' fun b => if b = true then wpE elt ρ' (fun y => K (some y)) (fun _ => False) else K none) → (∀ r, K r → K' r) →
      ∃ ρ', asgT t x ρ = some ρ' ∧ wpIfs [] ρ' fun b => if b = true then wpE elt ρ' (fun y => K' (some y)) (fun _ => False) else K' none := by
    rintro x K K' ⟨ρ', e1, q⟩ m
    refine ⟨ρ', e1, wpIfs_mono [] q fun b q => ?_⟩
    split
    · rename_i hb; rw [if_pos hb] at q; exact wpE_mono elt q (fun y q => m _ q) fun _ q => q
    · rename_i hb; rw [if_neg hb] at q; exact m _ q
  refine wpLc_all hm R (fun x hx' => ?_) (by simp) (by simpa using hl) fun ys h1 h2 => hq ys h1 (by simpa using h2)
  obtain ⟨ρ', e1, q⟩ := hx x hx'
  refine ⟨ρ', e1, ?_⟩
  unfold wpIfs
  show (if true = true then _ else _)
  rw [if_pos rfl]
  exact wpE_mono elt q (fun y q => ⟨y, rfl, q⟩) fun _ q => q
/-! ### the same, not the same -/
theorem mem_t2 {m a b : Int} {QB : Bool → Prop} : memD (.int m) (.tup [.int a, .int b]) QB = QB (decide (a = m) || decide (b = m)) := by
  show (flatD (.int m) = true ∧ [D.int a, D.int b].all flatD = true ∧ QB ([D.int a, D.int b].any fun z => eqb z (.int m))) = _
  simp [flatD]
end
end Dl

/-! the core terms of the defs (printed by gen.py) -/
namespace Dl
def n_common_divisor : List PySem.Str := ["a", "b"]
def c_common_divisor : List CS := [.asg 0 (.blt .abs [(.var 0)]) [] false,
  .asg 1 (.blt .abs [(.var 1)]) [] false,
  .whl (.cmp .gt (.var 1) (.int 0)) [.par 0 1 (.var 1) (.bin .mod (.var 0) (.var 1))],
  .ret (.var 0) false]
def n_fraction : List PySem.Str := ["n", "d", "g"]
def c_fraction (s_common_divisor : Spec) : List CS := [.asg 2 (.call "common_divisor" s_common_divisor [(.var 0), (.var 1)]) [] false,
  .ifs (.cmp .lt (.var 1) (.int 0)) [.asg 2 (.neg (.var 2)) [2] true] [],
  .ret (.tup [(.bin .fdiv (.var 0) (.var 2)), (.bin .fdiv (.var 1) (.var 2))]) true]
def n_plus : List PySem.Str := ["f", "g"]
def c_plus (s_fraction : Spec) : List CS := [.ret (.call "fraction" s_fraction [(.bin .add (.bin .mul (.ix (.var 0) (.int 0)) (.ix (.var 1) (.int 1))) (.bin .mul (.ix (.var 1) (.int 0)) (.ix (.var 0) (.int 1)))), (.bin .mul (.ix (.var 0) (.int 1)) (.ix (.var 1) (.int 1)))]) true]
def n_minus : List PySem.Str := ["f", "g"]
def c_minus (s_fraction : Spec) : List CS := [.ret (.call "fraction" s_fraction [(.bin .sub (.bin .mul (.ix (.var 0) (.int 0)) (.ix (.var 1) (.int 1))) (.bin .mul (.ix (.var 1) (.int 0)) (.ix (.var 0) (.int 1)))), (.bin .mul (.ix (.var 0) (.int 1)) (.ix (.var 1) (.int 1)))]) true]
def n_times : List PySem.Str := ["f", "g"]
def c_times (s_fraction : Spec) : List CS := [.ret (.call "fraction" s_fraction [(.bin .mul (.ix (.var 0) (.int 0)) (.ix (.var 1) (.int 0))), (.bin .mul (.ix (.var 0) (.int 1)) (.ix (.var 1) (.int 1)))]) true]
def n_less : List PySem.Str := ["f", "g"]
def c_less : List CS := [.ret (.cmp .lt (.bin .mul (.ix (.var 0) (.int 0)) (.ix (.var 1) (.int 1))) (.bin .mul (.ix (.var 1) (.int 0)) (.ix (.var 0) (.int 1)))) true]
def n_rest : List PySem.Str := ["f"]
def c_rest : List CS := [.ret (.tup [(.bin .mod (.ix (.var 0) (.int 0)) (.ix (.var 0) (.int 1))), (.ix (.var 0) (.int 1))]) true]
def n__law_numbers : List PySem.Str := ["cell", "count", "numbers", "mixed", "k"]
def c__law_numbers : List CS := [.asg 2 (.lst []) [] false,
  .ifs (.cmp .ge (.var 0) (.bin .pow (.int 10) (.int 18))) [.for_ (.nm 4) (.rng [(.var 1)]) [] [.app 2 (.bin .mod (.blt .int_ [(.var 0)]) (.int 1000)) [] false,
  .asg 0 (.bin .fdiv (.var 0) (.int 1000)) [] false],
  .ret (.var 2) true] [],
  .asg 3 (.bin .mod (.blt .int_ [(.var 0)]) (.int 2147483647)) [] false,
  .for_ (.nm 4) (.rng [(.var 1)]) [] [.asg 3 (.bin .mod (.blt .int_ [(.bin .add (.bin .mul (.var 3) (.int 48271)) (.bin .mul (.int 69621) (.bin .add (.var 4) (.int 1))))]) (.int 2147483647)) [] false,
  .app 2 (.bin .mod (.bin .fdiv (.var 3) (.int 7)) (.int 1000)) [] false],
  .ret (.var 2) true]
def n__law_cell : List PySem.Str := ["script", "k"]
def c__law_cell : List CS := [.ifs (.cmp .lt (.var 1) (.blt .len [(.var 0)])) [.ret (.ix (.var 0) (.var 1)) false] [],
  .ret (.int 0) true]
def n__law_drawn : List PySem.Str := ["a", "b", "c"]
def c__law_drawn : List CS := [.ret (.bin .sub (.bin .mod (.blt .int_ [(.bin .add (.bin .add (.bin .mul (.var 0) (.int 1000000)) (.bin .mul (.var 1) (.int 1000))) (.var 2))]) (.int 2000001)) (.int 1000000)) true]
def n__law_gcd : List PySem.Str := ["a", "b", "k", "c"]
def c__law_gcd : List CS := [.asg 0 (.blt .abs [(.var 0)]) [] false,
  .asg 1 (.blt .abs [(.var 1)]) [] false,
  .for_ (.nm 2) (.rng [(.int 10000)]) [] [.ifs (.cmp .eq (.var 1) (.int 0)) [.brk] [],
  .asg 3 (.bin .mod (.blt .int_ [(.var 0)]) (.var 1)) [] false,
  .asg 0 (.var 1) [] false,
  .asg 1 (.var 3) [] false],
  .ret (.var 0) false]
def n__law_is_fraction : List PySem.Str := ["f", "part"]
def c__law_is_fraction (s__law_gcd : Spec) : List CS := [.ifs (.or [(.not (.isi (.var 0) .tup)), (.cmp .ne (.blt .len [(.var 0)]) (.int 2))]) [.ret (.bl false) true] [],
  .for_ (.nm 1) (.var 0) [] [.ifs (.or [(.not (.isi (.var 1) .int)), (.isi (.var 1) .bl)]) [.ret (.bl false) true] []],
  .ret (.and [(.cmp .gt (.ix (.var 0) (.int 1)) (.int 0)), (.cmp .eq (.call "_law_gcd" s__law_gcd [(.ix (.var 0) (.int 0)), (.ix (.var 0) (.int 1))]) (.int 1))]) false]
def n__law_same : List PySem.Str := ["actual", "due", "k"]
def c__law_same (s__law_same : Spec) : List CS := [.ifs (.isN false (.var 1)) [.ret (.isN false (.var 0)) true] [],
  .ifs (.or [(.isi (.var 1) .lst), (.isi (.var 1) .tup)]) [.ifs (.or [(.cmp .ne (.isi (.var 1) .lst) (.isi (.var 0) .lst)), (.cmp .ne (.isi (.var 1) .tup) (.isi (.var 0) .tup))]) [.ret (.bl false) true] [],
  .ifs (.cmp .ne (.blt .len [(.var 0)]) (.blt .len [(.var 1)])) [.ret (.bl false) true] [],
  .for_ (.nm 2) (.rng [(.blt .len [(.var 1)])]) [] [.ifs (.not (.call "_law_same" s__law_same [(.ix (.var 0) (.var 2)), (.ix (.var 1) (.var 2))])) [.ret (.bl false) true] []],
  .ret (.bl true) true] [],
  .ifs (.or [(.cmp .ne (.isi (.var 1) .bl) (.isi (.var 0) .bl)), (.cmp .ne (.isi (.var 1) .int) (.isi (.var 0) .int))]) [.ret (.bl false) true] [],
  .ret (.and [(.cmp .eq (.isi (.var 1) .str) (.isi (.var 0) .str)), (.cmp .eq (.var 0) (.var 1))]) false]
def n__law_frac : List PySem.Str := ["n", "d", "g"]
def c__law_frac (s__law_gcd : Spec) : List CS := [.asg 2 (.call "_law_gcd" s__law_gcd [(.var 0), (.var 1)]) [] false,
  .ifs (.cmp .lt (.var 1) (.int 0)) [.asg 2 (.bin .sub (.int 0) (.var 2)) [2] true] [],
  .ret (.tup [(.bin .fdiv (.var 0) (.var 2)), (.bin .fdiv (.var 1) (.var 2))]) true]
def n__law_add : List PySem.Str := ["f", "g"]
def c__law_add (s__law_frac : Spec) : List CS := [.ret (.call "_law_frac" s__law_frac [(.bin .add (.bin .mul (.ix (.var 0) (.int 0)) (.ix (.var 1) (.int 1))) (.bin .mul (.ix (.var 1) (.int 0)) (.ix (.var 0) (.int 1)))), (.bin .mul (.ix (.var 0) (.int 1)) (.ix (.var 1) (.int 1)))]) true]
def n__law_sub : List PySem.Str := ["f", "g"]
def c__law_sub (s__law_frac : Spec) : List CS := [.ret (.call "_law_frac" s__law_frac [(.bin .sub (.bin .mul (.ix (.var 0) (.int 0)) (.ix (.var 1) (.int 1))) (.bin .mul (.ix (.var 1) (.int 0)) (.ix (.var 0) (.int 1)))), (.bin .mul (.ix (.var 0) (.int 1)) (.ix (.var 1) (.int 1)))]) true]
def n__law_mul : List PySem.Str := ["f", "g"]
def c__law_mul (s__law_frac : Spec) : List CS := [.ret (.call "_law_frac" s__law_frac [(.bin .mul (.ix (.var 0) (.int 0)) (.ix (.var 1) (.int 0))), (.bin .mul (.ix (.var 0) (.int 1)) (.ix (.var 1) (.int 1)))]) true]
def n__law_rest : List PySem.Str := ["f"]
def c__law_rest : List CS := [.ret (.tup [(.bin .mod (.blt .int_ [(.ix (.var 0) (.int 0))]) (.ix (.var 0) (.int 1))), (.ix (.var 0) (.int 1))]) true]
def n__law_less : List PySem.Str := ["f", "g"]
def c__law_less : List CS := [.ret (.cmp .lt (.bin .mul (.ix (.var 0) (.int 0)) (.ix (.var 1) (.int 1))) (.bin .mul (.ix (.var 1) (.int 0)) (.ix (.var 0) (.int 1)))) true]
def n__law_are_right : List PySem.Str := ["f", "g"]
def c__law_are_right (s__law_same : Spec) (s_plus : Spec) (s__law_add : Spec) (s_minus : Spec) (s__law_sub : Spec) (s_times : Spec) (s__law_mul : Spec) (s_rest : Spec) (s__law_rest : Spec) (s_less : Spec) (s__law_less : Spec) : List CS := [.ifs (.or [(.not (.call "_law_same" s__law_same [(.call "plus" s_plus [(.var 0), (.var 1)]), (.call "_law_add" s__law_add [(.var 0), (.var 1)])])), (.not (.call "_law_same" s__law_same [(.call "minus" s_minus [(.var 0), (.var 1)]), (.call "_law_sub" s__law_sub [(.var 0), (.var 1)])]))]) [.ret (.bl false) true] [],
  .ifs (.or [(.not (.call "_law_same" s__law_same [(.call "times" s_times [(.var 0), (.var 1)]), (.call "_law_mul" s__law_mul [(.var 0), (.var 1)])])), (.not (.call "_law_same" s__law_same [(.call "rest" s_rest [(.var 0)]), (.call "_law_rest" s__law_rest [(.var 0)])]))]) [.ret (.bl false) true] [],
  .ret (.and [(.call "_law_same" s__law_same [(.call "less" s_less [(.var 0), (.var 1)]), (.call "_law_less" s__law_less [(.var 0), (.var 1)])]), (.call "_law_same" s__law_same [(.call "less" s_less [(.var 1), (.var 0)]), (.call "_law_less" s__law_less [(.var 1), (.var 0)])])]) false]
def n_law_k00 : List PySem.Str := ["script", "total", "product", "k", "numbers", "n", "d", "told", "f", "g"]
def c_law_k00 (s__law_numbers : Spec) (s__law_cell : Spec) (s__law_drawn : Spec) (s_fraction : Spec) (s__law_is_fraction : Spec) (s__law_same : Spec) (s_fraction_1 : Spec) (s__law_frac : Spec) (s_plus : Spec) (s__law_are_right : Spec) (s_rest : Spec) (s_minus : Spec) (s_times : Spec) : List CS := [.asg 1 (.tup [(.int 0), (.int 1)]) [] false,
  .asg 2 (.tup [(.int 1), (.int 1)]) [] false,
  .for_ (.nm 3) (.rng [(.int 20)]) [] [.asg 4 (.call "_law_numbers" s__law_numbers [(.bin .add (.call "_law_cell" s__law_cell [(.var 0), (.var 3)]) (.var 3)), (.int 12)]) [] false,
  .asg 5 (.call "_law_drawn" s__law_drawn [(.ix (.var 4) (.int 0)), (.ix (.var 4) (.int 1)), (.ix (.var 4) (.int 2))]) [4] true,
  .asg 6 (.call "_law_drawn" s__law_drawn [(.ix (.var 4) (.int 3)), (.ix (.var 4) (.int 4)), (.ix (.var 4) (.int 5))]) [] false,
  .ifs (.or [(.cmp .eq (.var 6) (.int 0)), (.cmp .eq (.bin .mod (.ix (.var 4) (.int 6)) (.int 2)) (.int 1))]) [.asg 6 (.bin .add (.int 1) (.bin .mod (.ix (.var 4) (.int 7)) (.int 24))) [] false] [],
  .asg 7 (.call "fraction" s_fraction [(.var 5), (.var 6)]) [5] true,
  .ifs (.or [(.not (.call "_law_is_fraction" s__law_is_fraction [(.var 7)])), (.cmp .ne (.bin .mul (.ix (.var 7) (.int 0)) (.var 6)) (.bin .mul (.var 5) (.ix (.var 7) (.int 1)))), (.not (.call "_law_same" s__law_same [(.call "fraction" s_fraction_1 [(.var 5)]), (.tup [(.var 5), (.int 1)])]))]) [.ret (.bl false) true] [],
  .asg 8 (.call "_law_frac" s__law_frac [(.var 5), (.bin .add (.int 1) (.bin .mod (.ix (.var 4) (.int 7)) (.int 24)))]) [] false,
  .asg 9 (.call "_law_frac" s__law_frac [(.call "_law_drawn" s__law_drawn [(.ix (.var 4) (.int 8)), (.ix (.var 4) (.int 9)), (.ix (.var 4) (.int 10))]), (.bin .add (.int 1) (.bin .mod (.ix (.var 4) (.int 11)) (.int 24)))]) [] false,
  .ifs (.cmp .eq (.bin .mod (.ix (.var 4) (.int 6)) (.int 5)) (.int 0)) [.asg 9 (.var 8) [8] true] [],
  .ifs (.or [(.not (.call "_law_is_fraction" s__law_is_fraction [(.call "plus" s_plus [(.var 8), (.var 9)])])), (.not (.call "_law_are_right" s__law_are_right [(.var 8), (.var 9)]))]) [.ret (.bl false) true] [],
  .asg 7 (.call "rest" s_rest [(.var 8)]) [] false,
  .ifs (.or [(.not (.call "_law_is_fraction" s__law_is_fraction [(.var 7)])), (.cmp .lt (.ix (.var 7) (.int 0)) (.int 0)), (.cmp .ge (.ix (.var 7) (.int 0)) (.ix (.var 7) (.int 1))), (.cmp .ne (.ix (.call "minus" s_minus [(.var 8), (.var 7)]) (.int 1)) (.int 1))]) [.ret (.bl false) true] [],
  .ifs (.or [(.not (.call "_law_are_right" s__law_are_right [(.var 1), (.var 9)])), (.not (.call "_law_are_right" s__law_are_right [(.var 2), (.var 8)]))]) [.ret (.bl false) true] [],
  .asg 1 (.call "plus" s_plus [(.var 1), (.var 9)]) [] false,
  .ifs (.cmp .ne (.ix (.var 8) (.int 0)) (.int 0)) [.asg 2 (.call "times" s_times [(.var 2), (.var 8)]) [] false] [],
  .ifs (.or [(.not (.call "_law_are_right" s__law_are_right [(.var 1), (.var 2)])), (.not (.call "_law_are_right" s__law_are_right [(.var 9), (.var 1)]))]) [.ret (.bl false) true] []],
  .ret (.bl true) true]
def n_determinant : List PySem.Str := ["matrix"]
def c_determinant : List CS := [.ret (.bin .sub (.bin .mul (.ix (.var 0) (.int 0)) (.ix (.var 0) (.int 3))) (.bin .mul (.ix (.var 0) (.int 1)) (.ix (.var 0) (.int 2)))) true]
def n_make_movement : List PySem.Str := ["matrix", "x", "y"]
def c_make_movement (s_determinant : Spec) : List CS := [.ifs (.mem true (.call "determinant" s_determinant [(.var 0)]) (.tup [(.int 1), (.neg (.int 1))])) [.rse "InvalidMovement"] [],
  .ret (.tup [(.ix (.var 0) (.int 0)), (.ix (.var 0) (.int 1)), (.ix (.var 0) (.int 2)), (.ix (.var 0) (.int 3)), (.var 1), (.var 2)]) true]
def n_product : List PySem.Str := ["first", "second", "a", "b", "c", "d", "e", "f", "g", "h"]
def c_product : List CS := [.asgT (.tp [(.nm 2), (.nm 3), (.nm 4), (.nm 5)]) (.sl (.var 0) .nop (.int 4)) [] false,
  .asgT (.tp [(.nm 6), (.nm 7), (.nm 8), (.nm 9)]) (.sl (.var 1) .nop (.int 4)) [] false,
  .ret (.tup [(.bin .add (.bin .mul (.var 6) (.var 2)) (.bin .mul (.var 7) (.var 4))), (.bin .add (.bin .mul (.var 6) (.var 3)) (.bin .mul (.var 7) (.var 5))), (.bin .add (.bin .mul (.var 8) (.var 2)) (.bin .mul (.var 9) (.var 4))), (.bin .add (.bin .mul (.var 8) (.var 3)) (.bin .mul (.var 9) (.var 5)))]) true]
def n_reverse_matrix : List PySem.Str := ["matrix", "sign", "a", "b", "c", "d"]
def c_reverse_matrix : List CS := [.asgT (.tp [(.nm 2), (.nm 3), (.nm 4), (.nm 5)]) (.sl (.var 0) .nop (.int 4)) [] false,
  .asg 1 (.bin .sub (.bin .mul (.var 2) (.var 5)) (.bin .mul (.var 3) (.var 4))) [] false,
  .ret (.tup [(.bin .mul (.var 1) (.var 5)), (.bin .mul (.neg (.var 1)) (.var 3)), (.bin .mul (.neg (.var 1)) (.var 4)), (.bin .mul (.var 1) (.var 2))]) true]
def n_led : List PySem.Str := ["matrix", "vector", "x", "y", "size", "a", "b", "c", "d"]
def c_led (s_fraction : Spec) : List CS := [.asgT (.tp [(.nm 5), (.nm 6), (.nm 7), (.nm 8)]) (.sl (.var 0) .nop (.int 4)) [] false,
  .asg 2 (.bin .mul (.ix (.ix (.var 1) (.int 0)) (.int 0)) (.ix (.ix (.var 1) (.int 1)) (.int 1))) [] false,
  .asg 3 (.bin .mul (.ix (.ix (.var 1) (.int 1)) (.int 0)) (.ix (.ix (.var 1) (.int 0)) (.int 1))) [] false,
  .asg 4 (.bin .mul (.ix (.ix (.var 1) (.int 0)) (.int 1)) (.ix (.ix (.var 1) (.int 1)) (.int 1))) [] false,
  .ret (.tup [(.call "fraction" s_fraction [(.bin .add (.bin .mul (.var 5) (.var 2)) (.bin .mul (.var 6) (.var 3))), (.var 4)]), (.call "fraction" s_fraction [(.bin .add (.bin .mul (.var 7) (.var 2)) (.bin .mul (.var 8) (.var 3))), (.var 4)])]) true]
def n_moved : List PySem.Str := ["m", "point", "x", "y"]
def c_moved (s_led : Spec) (s_plus : Spec) : List CS := [.asgT (.tp [(.nm 2), (.nm 3)]) (.call "led" s_led [(.var 0), (.var 1)]) [] false,
  .ret (.tup [(.call "plus" s_plus [(.var 2), (.ix (.var 0) (.int 4))]), (.call "plus" s_plus [(.var 3), (.ix (.var 0) (.int 5))])]) true]
def n_then : List PySem.Str := ["m", "n"]
def c_then (s_product : Spec) (s_moved : Spec) : List CS := [.ret (.bin .add (.call "product" s_product [(.var 0), (.var 1)]) (.call "moved" s_moved [(.var 1), (.tup [(.ix (.var 0) (.int 4)), (.ix (.var 0) (.int 5))])])) true]
def n_back : List PySem.Str := ["m", "matrix", "x", "y"]
def c_back (s_reverse_matrix : Spec) (s_led : Spec) (s_minus : Spec) : List CS := [.asg 1 (.call "reverse_matrix" s_reverse_matrix [(.var 0)]) [] false,
  .asgT (.tp [(.nm 2), (.nm 3)]) (.call "led" s_led [(.var 1), (.tup [(.ix (.var 0) (.int 4)), (.ix (.var 0) (.int 5))])]) [1] true,
  .ret (.bin .add (.var 1) (.tup [(.call "minus" s_minus [(.glob "ZERO" (.tup [(.int 0), (.int 1)])), (.var 2)]), (.call "minus" s_minus [(.glob "ZERO" (.tup [(.int 0), (.int 1)])), (.var 3)])])) true]
def n__law_det : List PySem.Str := ["m"]
def c__law_det : List CS := [.ret (.bin .sub (.bin .mul (.ix (.var 0) (.int 0)) (.ix (.var 0) (.int 3))) (.bin .mul (.ix (.var 0) (.int 1)) (.ix (.var 0) (.int 2)))) true]
def n__law_led : List PySem.Str := ["m", "p", "x", "y"]
def c__law_led (s__law_add : Spec) (s__law_mul : Spec) : List CS := [.asg 2 (.call "_law_add" s__law_add [(.call "_law_mul" s__law_mul [(.tup [(.ix (.var 0) (.int 0)), (.int 1)]), (.ix (.var 1) (.int 0))]), (.call "_law_mul" s__law_mul [(.tup [(.ix (.var 0) (.int 1)), (.int 1)]), (.ix (.var 1) (.int 1))])]) [] false,
  .asg 3 (.call "_law_add" s__law_add [(.call "_law_mul" s__law_mul [(.tup [(.ix (.var 0) (.int 2)), (.int 1)]), (.ix (.var 1) (.int 0))]), (.call "_law_mul" s__law_mul [(.tup [(.ix (.var 0) (.int 3)), (.int 1)]), (.ix (.var 1) (.int 1))])]) [] false,
  .ret (.tup [(.var 2), (.var 3)]) true]
def n__law_moved : List PySem.Str := ["m", "p", "x", "y"]
def c__law_moved (s__law_led : Spec) (s__law_add : Spec) : List CS := [.asgT (.tp [(.nm 2), (.nm 3)]) (.call "_law_led" s__law_led [(.var 0), (.var 1)]) [] false,
  .ret (.tup [(.call "_law_add" s__law_add [(.var 2), (.ix (.var 0) (.int 4))]), (.call "_law_add" s__law_add [(.var 3), (.ix (.var 0) (.int 5))])]) true]
def n__law_product : List PySem.Str := ["m", "n", "first"]
def c__law_product : List CS := [.asg 2 (.tup [(.bin .add (.bin .mul (.ix (.var 1) (.int 0)) (.ix (.var 0) (.int 0))) (.bin .mul (.ix (.var 1) (.int 1)) (.ix (.var 0) (.int 2)))), (.bin .add (.bin .mul (.ix (.var 1) (.int 0)) (.ix (.var 0) (.int 1))) (.bin .mul (.ix (.var 1) (.int 1)) (.ix (.var 0) (.int 3))))]) [] false,
  .ret (.bin .add (.var 2) (.tup [(.bin .add (.bin .mul (.ix (.var 1) (.int 2)) (.ix (.var 0) (.int 0))) (.bin .mul (.ix (.var 1) (.int 3)) (.ix (.var 0) (.int 2)))), (.bin .add (.bin .mul (.ix (.var 1) (.int 2)) (.ix (.var 0) (.int 1))) (.bin .mul (.ix (.var 1) (.int 3)) (.ix (.var 0) (.int 3))))])) true]
def n__law_then : List PySem.Str := ["m", "n"]
def c__law_then (s__law_product : Spec) (s__law_moved : Spec) : List CS := [.ret (.bin .add (.call "_law_product" s__law_product [(.var 0), (.var 1)]) (.call "_law_moved" s__law_moved [(.var 1), (.tup [(.ix (.var 0) (.int 4)), (.ix (.var 0) (.int 5))])])) true]
def n__law_back : List PySem.Str := ["m", "sign", "matrix", "x", "y"]
def c__law_back (s__law_det : Spec) (s__law_led : Spec) : List CS := [.asg 1 (.call "_law_det" s__law_det [(.var 0)]) [] false,
  .asg 2 (.tup [(.bin .mul (.var 1) (.ix (.var 0) (.int 3))), (.bin .sub (.int 0) (.bin .mul (.var 1) (.ix (.var 0) (.int 1)))), (.bin .sub (.int 0) (.bin .mul (.var 1) (.ix (.var 0) (.int 2)))), (.bin .mul (.var 1) (.ix (.var 0) (.int 0)))]) [1] true,
  .asgT (.tp [(.nm 3), (.nm 4)]) (.call "_law_led" s__law_led [(.var 2), (.tup [(.ix (.var 0) (.int 4)), (.ix (.var 0) (.int 5))])]) [] false,
  .ret (.bin .add (.var 2) (.tup [(.tup [(.bin .sub (.int 0) (.ix (.var 3) (.int 0))), (.ix (.var 3) (.int 1))]), (.tup [(.bin .sub (.int 0) (.ix (.var 4) (.int 0))), (.ix (.var 4) (.int 1))])])) true]
def n__law_axes : List PySem.Str := ["numbers", "k", "j"]
def c__law_axes : List CS := [.asg 1 (.bin .sub (.bin .mod (.ix (.var 0) (.int 0)) (.int 5)) (.int 2)) [] false,
  .asg 2 (.bin .sub (.bin .mod (.ix (.var 0) (.int 1)) (.int 5)) (.int 2)) [] false,
  .ifs (.cmp .eq (.bin .mod (.ix (.var 0) (.int 2)) (.int 2)) (.int 1)) [.ret (.tup [(.bin .add (.int 1) (.bin .mul (.var 1) (.var 2))), (.bin .sub (.int 0) (.var 1)), (.var 2), (.neg (.int 1))]) true] [],
  .ret (.tup [(.bin .add (.int 1) (.bin .mul (.var 1) (.var 2))), (.var 1), (.var 2), (.int 1)]) true]
def n__law_point : List PySem.Str := ["numbers", "x"]
def c__law_point (s__law_frac : Spec) : List CS := [.asg 1 (.call "_law_frac" s__law_frac [(.bin .sub (.bin .mod (.ix (.var 0) (.int 0)) (.int 97)) (.int 48)), (.bin .add (.int 1) (.bin .mod (.ix (.var 0) (.int 1)) (.int 12)))]) [] false,
  .ret (.tup [(.var 1), (.call "_law_frac" s__law_frac [(.bin .sub (.bin .mod (.ix (.var 0) (.int 2)) (.int 97)) (.int 48)), (.bin .add (.int 1) (.bin .mod (.ix (.var 0) (.int 3)) (.int 12)))])]) true]
def n__law_matrix : List PySem.Str := ["numbers", "matrix"]
def c__law_matrix (s__law_product : Spec) (s__law_axes : Spec) : List CS := [.ifs (.cmp .gt (.bin .mod (.ix (.var 0) (.int 0)) (.int 3)) (.int 0)) [.asg 1 (.call "_law_product" s__law_product [(.call "_law_axes" s__law_axes [(.sl (.var 0) (.int 1) .nop)]), (.call "_law_axes" s__law_axes [(.sl (.var 0) (.int 4) .nop)])]) [] false,
  .ifs (.cmp .eq (.bin .mod (.ix (.var 0) (.int 7)) (.int 2)) (.int 1)) [.ret (.bin .add (.sl (.var 1) (.int 2) .nop) (.sl (.var 1) .nop (.int 2))) true] [],
  .ret (.var 1) true] [],
  .ret (.tup [(.bin .sub (.bin .mod (.ix (.var 0) (.int 1)) (.int 9)) (.int 4)), (.bin .sub (.bin .mod (.ix (.var 0) (.int 2)) (.int 9)) (.int 4)), (.bin .sub (.bin .mod (.ix (.var 0) (.int 3)) (.int 9)) (.int 4)), (.bin .sub (.bin .mod (.ix (.var 0) (.int 4)) (.int 9)) (.int 4))]) true]
def n__law_any_shift : List PySem.Str := ["a", "b"]
def c__law_any_shift (s__law_frac : Spec) : List CS := [.ret (.call "_law_frac" s__law_frac [(.bin .sub (.bin .mul (.var 0) (.int 7)) (.int 3500)), (.bin .add (.int 1) (.bin .mod (.var 1) (.int 24)))]) true]
def n__law_made : List PySem.Str := ["matrix", "x", "y", "with_shift", "e"]
def c__law_made (s_make_movement : Spec) (s_make_movement_1 : Spec) : List CS := [.tryx [.ifs (.var 3) [.ret (.call "make_movement" s_make_movement [(.var 0), (.var 1), (.var 2)]) true] [],
  .ret (.call "make_movement" s_make_movement_1 [(.var 0)]) true] ["InvalidMovement"] [⟨"InvalidMovement", (some 4), [((.or [(.not (.isx "PatternError")), (.not (.isx "ValueError")), (.isx "NotFinite")]), (.ce (.str "?")))], (.ce (.str "refused"))⟩]]
def n_law_k01 : List PySem.Str := ["script", "made", "k", "points", "m", "numbers", "matrix", "x", "y", "due", "passed", "p", "n"]
def c_law_k01 (s__law_numbers : Spec) (s__law_cell : Spec) (s__law_matrix : Spec) (s__law_any_shift : Spec) (s__law_det : Spec) (s__law_same : Spec) (s__law_made : Spec) (s__law_point : Spec) (s_moved : Spec) (s__law_moved : Spec) (s_back : Spec) (s__law_back : Spec) (s_then : Spec) (s__law_then : Spec) : List CS := [.asg 1 (.lst []) [] false,
  .for_ (.nm 2) (.rng [(.int 6)]) [] [.asg 5 (.call "_law_numbers" s__law_numbers [(.bin .add (.call "_law_cell" s__law_cell [(.var 0), (.var 2)]) (.var 2)), (.int 16)]) [] false,
  .asg 6 (.call "_law_matrix" s__law_matrix [(.var 5)]) [5] true,
  .asg 7 (.call "_law_any_shift" s__law_any_shift [(.ix (.var 5) (.int 8)), (.ix (.var 5) (.int 9))]) [] false,
  .asg 8 (.call "_law_any_shift" s__law_any_shift [(.ix (.var 5) (.int 10)), (.ix (.var 5) (.int 11))]) [] false,
  .asg 9 (.str "refused") [] false,
  .ifs (.mem false (.call "_law_det" s__law_det [(.var 6)]) (.lst [(.int 1), (.neg (.int 1))])) [.asg 9 (.bin .add (.var 6) (.tup [(.var 7), (.var 8)])) [6, 7, 8] true] [],
  .asg 10 (.blt .list_ [(.var 6)]) [] false,
  .ifs (.or [(.not (.call "_law_same" s__law_same [(.call "_law_made" s__law_made [(.var 10), (.var 7), (.var 8), (.bl true)]), (.var 9)])), (.cmp .ne (.var 10) (.blt .list_ [(.var 6)]))]) [.ret (.bl false) true] [],
  .ifs (.cmp .ne (.var 9) (.str "refused")) [.app 1 (.var 9) [] false,
  .ifs (.not (.call "_law_same" s__law_same [(.call "_law_made" s__law_made [(.var 6), (.var 7), (.var 8), (.bl false)]), (.bin .add (.var 6) (.tup [(.tup [(.int 0), (.int 1)]), (.tup [(.int 0), (.int 1)])]))])) [.ret (.bl false) true] []] [.ifs (.cmp .ne (.call "_law_made" s__law_made [(.var 6), (.var 7), (.var 8), (.bl false)]) (.str "refused")) [.ret (.bl false) true] []]],
  .asg 3 (.lc (.nm 2) (.rng [(.int 3)]) [] (.call "_law_point" s__law_point [(.call "_law_numbers" s__law_numbers [(.bin .add (.call "_law_cell" s__law_cell [(.var 0), (.bin .add (.int 6) (.var 2))]) (.var 2)), (.int 4)])])) [] false,
  .for_ (.nm 4) (.var 1) [1] [.for_ (.nm 11) (.var 3) [3] [.ifs (.or [(.not (.call "_law_same" s__law_same [(.call "moved" s_moved [(.var 4), (.var 11)]), (.call "_law_moved" s__law_moved [(.var 4), (.var 11)])])), (.cmp .ne (.call "moved" s_moved [(.call "back" s_back [(.var 4)]), (.call "moved" s_moved [(.var 4), (.var 11)])]) (.var 11))]) [.ret (.bl false) true] []],
  .ifs (.not (.call "_law_same" s__law_same [(.call "back" s_back [(.var 4)]), (.call "_law_back" s__law_back [(.var 4)])])) [.ret (.bl false) true] [],
  .for_ (.nm 12) (.var 1) [] [.ifs (.not (.call "_law_same" s__law_same [(.call "then" s_then [(.var 4), (.var 12)]), (.call "_law_then" s__law_then [(.var 4), (.var 12)])])) [.ret (.bl false) true] []]],
  .ret (.bl true) true]
def n_settled : List PySem.Str := ["m"]
def c_settled (s_rest : Spec) : List CS := [.ret (.bin .add (.sl (.var 0) .nop (.int 4)) (.tup [(.call "rest" s_rest [(.ix (.var 0) (.int 4))]), (.call "rest" s_rest [(.ix (.var 0) (.int 5))])])) true]
def n_order_of : List PySem.Str := ["m", "matrix", "count"]
def c_order_of (s_product : Spec) : List CS := [.asg 1 (.tup [(.int 1), (.int 0), (.int 0), (.int 1)]) [] false,
  .for_ (.nm 2) (.rng [(.int 1), (.int 7)]) [] [.asg 1 (.call "product" s_product [(.var 1), (.var 0)]) [] false,
  .ifs (.cmp .eq (.var 1) (.tup [(.int 1), (.int 0), (.int 0), (.int 1)])) [.ret (.var 2) false] []],
  .ret (.int 0) true]
def n_is_turn : List PySem.Str := ["m"]
def c_is_turn (s_determinant : Spec) : List CS := [.ret (.cmp .eq (.call "determinant" s_determinant [(.var 0)]) (.int 1)) true]
def n__law_settled : List PySem.Str := ["m"]
def c__law_settled (s__law_rest : Spec) : List CS := [.ret (.bin .add (.sl (.var 0) .nop (.int 4)) (.tup [(.call "_law_rest" s__law_rest [(.ix (.var 0) (.int 4))]), (.call "_law_rest" s__law_rest [(.ix (.var 0) (.int 5))])])) true]
def n__law_shift : List PySem.Str := ["a", "b"]
def c__law_shift (s__law_frac : Spec) : List CS := [.ret (.call "_law_frac" s__law_frac [(.bin .sub (.bin .mod (.var 0) (.int 49)) (.int 24)), (.ix (.lst [(.int 1), (.int 2), (.int 3), (.int 4), (.int 6), (.int 12)]) (.bin .mod (.var 1) (.int 6)))]) true]
def n__law_change : List PySem.Str := ["numbers"]
def c__law_change (s__law_axes : Spec) (s__law_shift : Spec) : List CS := [.ret (.bin .add (.call "_law_axes" s__law_axes [(.var 0)]) (.tup [(.call "_law_shift" s__law_shift [(.ix (.var 0) (.int 3)), (.ix (.var 0) (.int 4))]), (.call "_law_shift" s__law_shift [(.ix (.var 0) (.int 5)), (.ix (.var 0) (.int 6))])])) true]
def n__law_steps : List PySem.Str := ["numbers", "turns", "flips", "flip", "x", "y"]
def c__law_steps : List CS := [.asg 1 (.lst [(.tup [(.int 1), (.int 0), (.int 0), (.int 1)]), (.tup [(.neg (.int 1)), (.int 0), (.int 0), (.neg (.int 1))]), (.tup [(.int 0), (.neg (.int 1)), (.int 1), (.int 0)]), (.tup [(.int 0), (.neg (.int 1)), (.int 1), (.neg (.int 1))]), (.tup [(.int 1), (.neg (.int 1)), (.int 1), (.int 0)])]) [] false,
  .asg 2 (.lst [(.tup [(.int 1), (.int 0), (.int 0), (.int 1)]), (.tup [(.int 1), (.int 0), (.int 0), (.neg (.int 1))]), (.tup [(.int 0), (.int 1), (.int 1), (.int 0)]), (.tup [(.int 0), (.neg (.int 1)), (.neg (.int 1)), (.int 0)])]) [] false,
  .asg 3 (.ix (.var 2) (.bin .mod (.ix (.var 0) (.int 1)) (.int 4))) [2] true,
  .asg 4 (.ix (.lst [(.tup [(.int 0), (.int 1)]), (.tup [(.int 1), (.int 2)])]) (.bin .mod (.ix (.var 0) (.int 2)) (.int 2))) [] false,
  .asg 5 (.ix (.lst [(.tup [(.int 0), (.int 1)]), (.tup [(.int 1), (.int 2)])]) (.bin .mod (.ix (.var 0) (.int 3)) (.int 2))) [] false,
  .ifs (.cmp .eq (.bin .mod (.ix (.var 0) (.int 1)) (.int 4)) (.int 0)) [.ret (.lst [(.bin .add (.ix (.var 1) (.bin .mod (.ix (.var 0) (.int 0)) (.int 5))) (.tup [(.tup [(.int 0), (.int 1)]), (.tup [(.int 0), (.int 1)])]))]) true] [],
  .ret (.lst [(.bin .add (.ix (.var 1) (.bin .mod (.ix (.var 0) (.int 0)) (.int 5))) (.tup [(.tup [(.int 0), (.int 1)]), (.tup [(.int 0), (.int 1)])])), (.bin .add (.var 3) (.tup [(.var 4), (.var 5)]))]) true]
def n__law_order : List PySem.Str := ["m", "matrix", "count"]
def c__law_order (s__law_product : Spec) : List CS := [.asg 1 (.tup [(.int 1), (.int 0), (.int 0), (.int 1)]) [] false,
  .for_ (.nm 2) (.rng [(.int 1), (.int 13)]) [] [.asg 1 (.call "_law_product" s__law_product [(.var 1), (.var 0)]) [] false,
  .ifs (.cmp .eq (.var 1) (.tup [(.int 1), (.int 0), (.int 0), (.int 1)])) [.ret (.var 2) false] []],
  .ret (.int 0) true]
def n_law_k02 : List PySem.Str := ["script", "k", "numbers", "steps", "m", "change"]
def c_law_k02 (s__law_numbers : Spec) (s__law_cell : Spec) (s__law_steps : Spec) (s__law_then : Spec) (s__law_change : Spec) (s__law_back : Spec) (s__law_product : Spec) (s__law_axes : Spec) (s__law_add : Spec) (s__law_same : Spec) (s_order_of : Spec) (s__law_order : Spec) (s_is_turn : Spec) (s__law_det : Spec) (s_settled : Spec) (s__law_settled : Spec) : List CS := [.for_ (.nm 1) (.rng [(.int 12)]) [] [.asg 2 (.call "_law_numbers" s__law_numbers [(.bin .add (.call "_law_cell" s__law_cell [(.var 0), (.var 1)]) (.var 1)), (.int 20)]) [] false,
  .asg 3 (.call "_law_steps" s__law_steps [(.var 2)]) [2] true,
  .asg 4 (.ix (.var 3) (.bin .mod (.ix (.var 2) (.int 4)) (.blt .len [(.var 3)]))) [3] true,
  .ifs (.cmp .eq (.bin .mod (.ix (.var 2) (.int 5)) (.int 4)) (.int 0)) [.asg 4 (.bin .add (.tup [(.int 1), (.bin .sub (.bin .mod (.ix (.var 2) (.int 6)) (.int 5)) (.int 2)), (.int 0), (.int 1)]) (.sl (.var 4) (.int 4) .nop)) [] false] [],
  .ifs (.cmp .eq (.bin .mod (.ix (.var 2) (.int 5)) (.int 4)) (.int 1)) [.asg 4 (.call "_law_then" s__law_then [(.var 4), (.ix (.call "_law_steps" s__law_steps [(.sl (.var 2) (.int 7) .nop)]) (.int 0))]) [] false] [],
  .asg 5 (.call "_law_change" s__law_change [(.sl (.var 2) (.int 11) .nop)]) [] false,
  .asg 4 (.call "_law_then" s__law_then [(.call "_law_then" s__law_then [(.call "_law_back" s__law_back [(.var 5)]), (.var 4)]), (.var 5)]) [5] true,
  .ifs (.cmp .eq (.bin .mod (.ix (.var 2) (.int 5)) (.int 4)) (.int 2)) [.asg 4 (.bin .add (.call "_law_product" s__law_product [(.call "_law_axes" s__law_axes [(.sl (.var 2) (.int 6) .nop)]), (.call "_law_axes" s__law_axes [(.sl (.var 2) (.int 9) .nop)])]) (.sl (.var 4) (.int 4) .nop)) [4] true] [],
  .asg 4 (.bin .add (.sl (.var 4) .nop (.int 4)) (.tup [(.call "_law_add" s__law_add [(.ix (.var 4) (.int 4)), (.tup [(.bin .sub (.ix (.var 2) (.int 18)) (.int 500)), (.int 1)])]), (.ix (.var 4) (.int 5))])) [4] true,
  .ifs (.not (.call "_law_same" s__law_same [(.call "order_of" s_order_of [(.var 4)]), (.call "_law_order" s__law_order [(.var 4)])])) [.ret (.bl false) true] [],
  .ifs (.or [(.not (.isi (.call "is_turn" s_is_turn [(.var 4)]) .bl)), (.cmp .ne (.call "is_turn" s_is_turn [(.var 4)]) (.cmp .eq (.call "_law_det" s__law_det [(.var 4)]) (.int 1)))]) [.ret (.bl false) true] [],
  .ifs (.or [(.not (.call "_law_same" s__law_same [(.call "settled" s_settled [(.var 4)]), (.call "_law_settled" s__law_settled [(.var 4)])])), (.cmp .ne (.call "settled" s_settled [(.call "settled" s_settled [(.var 4)])]) (.call "settled" s_settled [(.var 4)]))]) [.ret (.bl false) true] []],
  .ret (.bl true) true]
def n_check_cell : List PySem.Str := ["cell", "a", "b", "c"]
def c_check_cell (s_less : Spec) (s_times : Spec) : List CS := [.asgT (.tp [(.nm 1), (.nm 2), (.nm 3)]) (.var 0) [] false,
  .ifs (.or [(.not (.call "less" s_less [(.glob "ZERO" (.tup [(.int 0), (.int 1)])), (.var 1)])), (.not (.call "less" s_less [(.glob "ZERO" (.tup [(.int 0), (.int 1)])), (.var 3)])), (.not (.call "less" s_less [(.call "times" s_times [(.var 2), (.var 2)]), (.call "times" s_times [(.var 1), (.var 3)])]))]) [.rse "InvalidCell"] []]
def n_scalar : List PySem.Str := ["cell", "one", "two", "mixed", "a", "b", "c"]
def c_scalar (s_plus : Spec) (s_times : Spec) : List CS := [.asgT (.tp [(.nm 4), (.nm 5), (.nm 6)]) (.var 0) [] false,
  .asg 3 (.call "plus" s_plus [(.call "times" s_times [(.ix (.var 1) (.int 0)), (.ix (.var 2) (.int 1))]), (.call "times" s_times [(.ix (.var 1) (.int 1)), (.ix (.var 2) (.int 0))])]) [] false,
  .ret (.call "plus" s_plus [(.call "times" s_times [(.var 4), (.call "times" s_times [(.ix (.var 1) (.int 0)), (.ix (.var 2) (.int 0))])]), (.call "plus" s_plus [(.call "times" s_times [(.var 5), (.var 3)]), (.call "times" s_times [(.var 6), (.call "times" s_times [(.ix (.var 1) (.int 1)), (.ix (.var 2) (.int 1))])])])]) true]
def n_square : List PySem.Str := ["cell", "x", "y"]
def c_square (s_scalar : Spec) : List CS := [.ret (.call "scalar" s_scalar [(.var 0), (.tup [(.var 1), (.var 2)]), (.tup [(.var 1), (.var 2)])]) true]
def n__law_short_cell : List PySem.Str := ["numbers", "a", "d", "sort", "c", "b"]
def c__law_short_cell (s__law_frac : Spec) (s__law_add : Spec) (s__law_mul : Spec) : List CS := [.asg 1 (.call "_law_frac" s__law_frac [(.bin .add (.int 1) (.bin .mod (.ix (.var 0) (.int 0)) (.int 30))), (.bin .add (.int 1) (.bin .mod (.ix (.var 0) (.int 1)) (.int 2)))]) [] false,
  .asg 2 (.call "_law_frac" s__law_frac [(.bin .add (.int 1) (.bin .mod (.ix (.var 0) (.int 2)) (.int 40))), (.bin .add (.int 1) (.bin .mod (.ix (.var 0) (.int 3)) (.int 4)))]) [] false,
  .asg 3 (.bin .mod (.ix (.var 0) (.int 4)) (.int 6)) [] false,
  .asg 4 (.var 1) [1] true,
  .ifs (.mem false (.var 3) (.lst [(.int 2), (.int 4), (.int 5)])) [.asg 4 (.call "_law_add" s__law_add [(.var 1), (.var 2)]) [2] true] [],
  .asg 5 (.tup [(.int 0), (.int 1)]) [] false,
  .ifs (.mem false (.var 3) (.lst [(.int 1), (.int 4)])) [.asg 5 (.call "_law_mul" s__law_mul [(.var 1), (.tup [(.int 1), (.int 2)])]) [] false] [],
  .ifs (.mem false (.var 3) (.lst [(.int 3), (.int 5)])) [.asg 5 (.call "_law_mul" s__law_mul [(.var 1), (.call "_law_frac" s__law_frac [(.bin .add (.int 1) (.bin .mod (.ix (.var 0) (.int 5)) (.int 5))), (.int 12)])]) [] false] [],
  .ret (.tup [(.var 1), (.var 5), (.var 4)]) true]
def n__law_scalar : List PySem.Str := ["cell", "p", "q", "total", "mixed"]
def c__law_scalar (s__law_mul : Spec) (s__law_add : Spec) : List CS := [.asg 3 (.call "_law_mul" s__law_mul [(.ix (.var 0) (.int 0)), (.call "_law_mul" s__law_mul [(.ix (.var 1) (.int 0)), (.ix (.var 2) (.int 0))])]) [] false,
  .asg 4 (.call "_law_add" s__law_add [(.call "_law_mul" s__law_mul [(.ix (.var 1) (.int 0)), (.ix (.var 2) (.int 1))]), (.call "_law_mul" s__law_mul [(.ix (.var 1) (.int 1)), (.ix (.var 2) (.int 0))])]) [] false,
  .ret (.call "_law_add" s__law_add [(.var 3), (.call "_law_add" s__law_add [(.call "_law_mul" s__law_mul [(.ix (.var 0) (.int 1)), (.var 4)]), (.call "_law_mul" s__law_mul [(.ix (.var 0) (.int 2)), (.call "_law_mul" s__law_mul [(.ix (.var 1) (.int 1)), (.ix (.var 2) (.int 1))])])])]) true]
def n__law_cell_of : List PySem.Str := ["cell", "f", "g"]
def c__law_cell_of (s__law_scalar : Spec) : List CS := [.ret (.tup [(.call "_law_scalar" s__law_scalar [(.var 0), (.var 1), (.var 1)]), (.call "_law_scalar" s__law_scalar [(.var 0), (.var 1), (.var 2)]), (.call "_law_scalar" s__law_scalar [(.var 0), (.var 2), (.var 2)])]) true]
def n__law_vector : List PySem.Str := ["x", "y"]
def c__law_vector : List CS := [.ret (.tup [(.tup [(.var 0), (.int 1)]), (.tup [(.var 1), (.int 1)])]) true]
def n__law_other_cell : List PySem.Str := ["cell", "matrix"]
def c__law_other_cell (s__law_cell_of : Spec) (s__law_vector : Spec) : List CS := [.ret (.call "_law_cell_of" s__law_cell_of [(.var 0), (.call "_law_vector" s__law_vector [(.ix (.var 1) (.int 0)), (.ix (.var 1) (.int 2))]), (.call "_law_vector" s__law_vector [(.ix (.var 1) (.int 1)), (.ix (.var 1) (.int 3))])]) true]
def n__law_told_k16 : List PySem.Str := ["cell", "e"]
def c__law_told_k16 (s_check_cell : Spec) : List CS := [.tryx [.ifs (.isN false (.call "check_cell" s_check_cell [(.var 0)])) [.ret (.bl true) true] [],
  .ret (.str "?") true] ["InvalidCell"] [⟨"InvalidCell", (some 1), [((.or [(.not (.isx "PatternError")), (.isx "InvalidPattern")]), (.ce (.str "?")))], (.ce (.bl false))⟩]]
def n_law_k16 : List PySem.Str := ["script", "k", "numbers", "cell", "sort", "due", "p", "q"]
def c_law_k16 (s__law_numbers : Spec) (s__law_cell : Spec) (s__law_other_cell : Spec) (s__law_short_cell : Spec) (s__law_axes : Spec) (s__law_frac : Spec) (s__law_less : Spec) (s__law_mul : Spec) (s__law_told : Spec) (s__law_point : Spec) (s__law_same : Spec) (s_scalar : Spec) (s__law_scalar : Spec) (s_square : Spec) : List CS := [.for_ (.nm 1) (.rng [(.int 10)]) [] [.asg 2 (.call "_law_numbers" s__law_numbers [(.bin .add (.call "_law_cell" s__law_cell [(.var 0), (.var 1)]) (.var 1)), (.int 16)]) [] false,
  .asg 3 (.call "_law_other_cell" s__law_other_cell [(.call "_law_short_cell" s__law_short_cell [(.var 2)]), (.call "_law_axes" s__law_axes [(.sl (.var 2) (.int 6) .nop)])]) [2] true,
  .asg 4 (.bin .mod (.ix (.var 2) (.int 9)) (.int 6)) [] false,
  .ifs (.cmp .eq (.var 4) (.int 0)) [.asg 3 (.tup [(.ix (.var 3) (.int 0)), (.ix (.var 3) (.int 1)), (.tup [(.bin .sub (.int 0) (.ix (.ix (.var 3) (.int 2)) (.int 0))), (.ix (.ix (.var 3) (.int 2)) (.int 1))])]) [3] true] [],
  .ifs (.cmp .eq (.var 4) (.int 1)) [.asg 3 (.tup [(.call "_law_frac" s__law_frac [(.bin .sub (.ix (.var 2) (.int 10)) (.int 500)), (.int 24)]), (.call "_law_frac" s__law_frac [(.bin .sub (.ix (.var 2) (.int 11)) (.int 500)), (.int 23)]), (.call "_law_frac" s__law_frac [(.bin .sub (.ix (.var 2) (.int 12)) (.int 500)), (.int 22)])]) [] false] [],
  .ifs (.cmp .eq (.var 4) (.int 2)) [.asg 3 (.tup [(.tup [(.bin .mod (.ix (.var 2) (.int 10)) (.int 30)), (.int 1)]), (.tup [(.bin .mod (.ix (.var 2) (.int 10)) (.int 30)), (.int 1)]), (.tup [(.bin .mod (.ix (.var 2) (.int 10)) (.int 30)), (.int 1)])]) [] false] [],
  .ifs (.cmp .eq (.var 4) (.int 3)) [.asg 3 (.tup [(.tup [(.int 1), (.int 1)]), (.tup [(.bin .sub (.bin .mod (.ix (.var 2) (.int 10)) (.int 7)) (.int 3)), (.int 1)]), (.tup [(.bin .add (.int 4) (.bin .mod (.ix (.var 2) (.int 11)) (.int 2))), (.int 1)])]) [] false] [],
  .asg 5 (.and [(.call "_law_less" s__law_less [(.tup [(.int 0), (.int 1)]), (.ix (.var 3) (.int 0))]), (.call "_law_less" s__law_less [(.tup [(.int 0), (.int 1)]), (.ix (.var 3) (.int 2))])]) [] false,
  .asg 5 (.and [(.var 5), (.call "_law_less" s__law_less [(.call "_law_mul" s__law_mul [(.ix (.var 3) (.int 1)), (.ix (.var 3) (.int 1))]), (.call "_law_mul" s__law_mul [(.ix (.var 3) (.int 0)), (.ix (.var 3) (.int 2))])])]) [] false,
  .ifs (.cmp .ne (.call "_law_told" s__law_told [(.var 3)]) (.var 5)) [.ret (.bl false) true] [],
  .ifs (.var 5) [.asg 6 (.call "_law_point" s__law_point [(.sl (.var 2) (.int 2) .nop)]) [] false,
  .asg 7 (.call "_law_point" s__law_point [(.sl (.var 2) (.int 12) .nop)]) [] false,
  .ifs (.not (.call "_law_same" s__law_same [(.call "scalar" s_scalar [(.var 3), (.var 6), (.var 7)]), (.call "_law_scalar" s__law_scalar [(.var 3), (.var 6), (.var 7)])])) [.ret (.bl false) true] [],
  .ifs (.not (.call "_law_same" s__law_same [(.call "square" s_square [(.var 3), (.ix (.var 6) (.int 0)), (.ix (.var 6) (.int 1))]), (.call "_law_scalar" s__law_scalar [(.var 3), (.var 6), (.var 6)])])) [.ret (.bl false) true] []] []],
  .ret (.bl true) true]
def n_divided : List PySem.Str := ["f", "g"]
def c_divided (s_fraction : Spec) : List CS := [.ret (.call "fraction" s_fraction [(.bin .mul (.ix (.var 0) (.int 0)) (.ix (.var 1) (.int 1))), (.bin .mul (.ix (.var 0) (.int 1)) (.ix (.var 1) (.int 0)))]) true]
def n_whole_vector : List PySem.Str := ["vector"]
def c_whole_vector (s_fraction_1 : Spec) : List CS := [.ret (.tup [(.call "fraction" s_fraction_1 [(.ix (.var 0) (.int 0))]), (.call "fraction" s_fraction_1 [(.ix (.var 0) (.int 1))])]) true]
def n_nearest : List PySem.Str := ["f"]
def c_nearest : List CS := [.ret (.bin .fdiv (.bin .add (.bin .mul (.int 2) (.ix (.var 0) (.int 0))) (.ix (.var 0) (.int 1))) (.bin .mul (.int 2) (.ix (.var 0) (.int 1)))) true]
def n_reduced_basis : List PySem.Str := ["cell", "f", "g", "going", "size", "k"]
def c_reduced_basis (s_scalar : Spec) (s_whole_vector : Spec) (s_nearest : Spec) (s_divided : Spec) (s_less : Spec) : List CS := [.asg 1 (.tup [(.int 1), (.int 0)]) [] false,
  .asg 2 (.tup [(.int 0), (.int 1)]) [] false,
  .asg 3 (.bl true) [] false,
  .whl (.var 3) [.asg 4 (.call "scalar" s_scalar [(.var 0), (.call "whole_vector" s_whole_vector [(.var 1)]), (.call "whole_vector" s_whole_vector [(.var 1)])]) [] false,
  .asg 5 (.call "nearest" s_nearest [(.call "divided" s_divided [(.call "scalar" s_scalar [(.var 0), (.call "whole_vector" s_whole_vector [(.var 1)]), (.call "whole_vector" s_whole_vector [(.var 2)])]), (.var 4)])]) [4] true,
  .asg 2 (.tup [(.bin .sub (.ix (.var 2) (.int 0)) (.bin .mul (.var 5) (.ix (.var 1) (.int 0)))), (.bin .sub (.ix (.var 2) (.int 1)) (.bin .mul (.var 5) (.ix (.var 1) (.int 1))))]) [5] true,
  .asg 3 (.call "less" s_less [(.call "scalar" s_scalar [(.var 0), (.call "whole_vector" s_whole_vector [(.var 2)]), (.call "whole_vector" s_whole_vector [(.var 2)])]), (.var 4)]) [] false,
  .ifs (.var 3) [.par 1 2 (.var 2) (.var 1)] []],
  .ifs (.call "less" s_less [(.call "scalar" s_scalar [(.var 0), (.call "whole_vector" s_whole_vector [(.var 1)]), (.call "whole_vector" s_whole_vector [(.var 2)])]), (.glob "ZERO" (.tup [(.int 0), (.int 1)]))]) [.asg 2 (.tup [(.neg (.ix (.var 2) (.int 0))), (.neg (.ix (.var 2) (.int 1)))]) [] false] [],
  .ret (.tup [(.var 1), (.var 2)]) true]
def n__law_reverse : List PySem.Str := ["matrix", "sign"]
def c__law_reverse (s__law_det : Spec) : List CS := [.asg 1 (.call "_law_det" s__law_det [(.var 0)]) [] false,
  .ret (.tup [(.bin .mul (.var 1) (.ix (.var 0) (.int 3))), (.bin .sub (.int 0) (.bin .mul (.var 1) (.ix (.var 0) (.int 1)))), (.bin .sub (.int 0) (.bin .mul (.var 1) (.ix (.var 0) (.int 2)))), (.bin .mul (.var 1) (.ix (.var 0) (.int 0)))]) true]
def n__law_wide_cell : List PySem.Str := ["numbers", "cell", "f"]
def c__law_wide_cell (s__law_short_cell : Spec) (s__law_mul : Spec) : List CS := [.asg 1 (.call "_law_short_cell" s__law_short_cell [(.var 0)]) [] false,
  .ifs (.cmp .gt (.bin .mod (.ix (.var 0) (.int 6)) (.int 3)) (.int 0)) [.ret (.var 1) true] [],
  .ret (.blt .tuple_ [(.lc (.nm 2) (.var 1) [] (.call "_law_mul" s__law_mul [(.var 2), (.tup [(.bin .add (.int 1) (.bin .mul (.ix (.var 0) (.int 7)) (.int 5))), (.int 1)])]))]) true]
def n__law_long_axes : List PySem.Str := ["cell", "numbers", "matrix", "k", "part", "longer", "f"]
def c__law_long_axes (s__law_product : Spec) (s__law_other_cell : Spec) (s__law_reverse : Spec) : List CS := [.asg 2 (.tup [(.int 1), (.int 0), (.int 0), (.int 1)]) [] false,
  .for_ (.nm 3) (.rng [(.bin .mod (.ix (.var 1) (.int 0)) (.int 17))]) [] [.asg 4 (.ix (.lst [(.bin .sub (.bin .mod (.ix (.var 1) (.bin .add (.int 2) (.var 3))) (.int 13)) (.int 6)), (.bin .add (.int 1) (.bin .mod (.ix (.var 1) (.bin .add (.int 2) (.var 3))) (.int 2))), (.bin .sub (.int 2) (.bin .mod (.ix (.var 1) (.bin .add (.int 2) (.var 3))) (.int 4)))]) (.bin .mod (.ix (.var 1) (.int 1)) (.int 3))) [] false,
  .asg 5 (.call "_law_product" s__law_product [(.var 2), (.tup [(.var 4), (.int 1), (.int 1), (.int 0)])]) [] false,
  .ifs (.cmp .ne (.lc (.nm 6) (.call "_law_other_cell" s__law_other_cell [(.var 0), (.call "_law_reverse" s__law_reverse [(.var 5)])]) [(.cmp .gt (.blt .abs [(.ix (.var 6) (.int 0))]) (.bin .pow (.int 10) (.int 6)))] (.var 6)) (.lst [])) [.brk] [],
  .asg 2 (.var 5) [5] true],
  .ret (.var 2) false]
def n__law_is_integer : List PySem.Str := ["n"]
def c__law_is_integer : List CS := [.ret (.and [(.isi (.var 0) .int), (.not (.isi (.var 0) .bl))]) false]
def n_law_k17 : List PySem.Str := ["script", "k", "numbers", "short", "matrix", "told", "cell", "f", "g", "n"]
def c_law_k17 (s__law_numbers : Spec) (s__law_cell : Spec) (s__law_wide_cell : Spec) (s__law_long_axes : Spec) (s_reduced_basis : Spec) (s__law_other_cell : Spec) (s__law_reverse : Spec) (s__law_is_integer : Spec) (s__law_det : Spec) (s__law_cell_of : Spec) (s__law_vector : Spec) : List CS := [.for_ (.nm 1) (.rng [(.int 12)]) [] [.asg 2 (.call "_law_numbers" s__law_numbers [(.bin .add (.call "_law_cell" s__law_cell [(.var 0), (.var 1)]) (.var 1)), (.int 26)]) [] false,
  .asg 3 (.call "_law_wide_cell" s__law_wide_cell [(.var 2)]) [2] true,
  .asg 4 (.call "_law_long_axes" s__law_long_axes [(.var 3), (.sl (.var 2) (.int 8) .nop)]) [3] true,
  .asg 5 (.call "reduced_basis" s_reduced_basis [(.call "_law_other_cell" s__law_other_cell [(.var 3), (.call "_law_reverse" s__law_reverse [(.var 4)])])]) [4] true,
  .ifs (.or [(.not (.isi (.var 5) .tup)), (.cmp .ne (.blt .len [(.var 5)]) (.int 2))]) [.ret (.bl false) true] [],
  .asgT (.tp [(.nm 7), (.nm 8)]) (.var 5) [5] true,
  .ifs (.or [(.not (.isi (.var 7) .tup)), (.not (.isi (.var 8) .tup)), (.cmp .ne (.blt .len [(.var 7)]) (.int 2)), (.cmp .ne (.blt .len [(.var 8)]) (.int 2))]) [.ret (.bl false) true] [],
  .ifs (.or [(.cmp .ne (.lc (.nm 9) (.bin .add (.var 7) (.var 8)) [(.not (.call "_law_is_integer" s__law_is_integer [(.var 9)]))] (.var 9)) (.lst [])), (.mem true (.call "_law_det" s__law_det [(.tup [(.ix (.var 7) (.int 0)), (.ix (.var 8) (.int 0)), (.ix (.var 7) (.int 1)), (.ix (.var 8) (.int 1))])]) (.lst [(.int 1), (.neg (.int 1))]))]) [.ret (.bl false) true] [],
  .asg 6 (.call "_law_other_cell" s__law_other_cell [(.var 3), (.call "_law_reverse" s__law_reverse [(.var 4)])]) [] false,
  .ifs (.cmp .ne (.call "_law_cell_of" s__law_cell_of [(.var 6), (.call "_law_vector" s__law_vector [(.ix (.var 7) (.int 0)), (.ix (.var 7) (.int 1))]), (.call "_law_vector" s__law_vector [(.ix (.var 8) (.int 0)), (.ix (.var 8) (.int 1))])]) (.var 3)) [.ret (.bl false) true] []],
  .ret (.bl true) true]
def n_in_cell : List PySem.Str := ["cell", "f", "g"]
def c_in_cell (s_scalar : Spec) : List CS := [.ret (.tup [(.call "scalar" s_scalar [(.var 0), (.var 1), (.var 1)]), (.call "scalar" s_scalar [(.var 0), (.var 1), (.var 2)]), (.call "scalar" s_scalar [(.var 0), (.var 2), (.var 2)])]) true]
def n_same_lengths : List PySem.Str := ["cell", "wanted", "vectors", "firsts", "seconds", "found", "one", "first", "vector", "entry", "two", "second"]
def c_same_lengths (s_whole_vector : Spec) (s_scalar : Spec) : List CS := [.asg 2 (.lc (.nm 8) (.glob "STEPS" (.tup [(.tup [(.int 1), (.int 0)]), (.tup [(.int 0), (.int 1)]), (.tup [(.int 1), (.int 1)]), (.tup [(.int 1), (.int (-1))]), (.tup [(.int (-1)), (.int 1)]), (.tup [(.int (-1)), (.int 0)]), (.tup [(.int 0), (.int (-1))]), (.tup [(.int (-1)), (.int (-1))])])) [] (.tup [(.var 8), (.call "whole_vector" s_whole_vector [(.var 8)])])) [] false,
  .asg 3 (.lc (.nm 9) (.var 2) [(.cmp .eq (.call "scalar" s_scalar [(.var 0), (.ix (.var 9) (.int 1)), (.ix (.var 9) (.int 1))]) (.ix (.var 1) (.int 0)))] (.var 9)) [2] true,
  .asg 4 (.lc (.nm 9) (.var 2) [(.cmp .eq (.call "scalar" s_scalar [(.var 0), (.ix (.var 9) (.int 1)), (.ix (.var 9) (.int 1))]) (.ix (.var 1) (.int 2)))] (.var 9)) [] false,
  .asg 5 (.lst []) [] false,
  .for_ (.tp [(.nm 6), (.nm 7)]) (.var 3) [3] [.for_ (.tp [(.nm 10), (.nm 11)]) (.var 4) [4] [.ifs (.and [(.cmp .ne (.bin .mul (.ix (.var 6) (.int 0)) (.ix (.var 10) (.int 1))) (.bin .mul (.ix (.var 6) (.int 1)) (.ix (.var 10) (.int 0)))), (.cmp .eq (.call "scalar" s_scalar [(.var 0), (.var 7), (.var 11)]) (.ix (.var 1) (.int 1)))]) [.app 5 (.tup [(.var 6), (.var 10)]) [] false] []]],
  .ret (.var 5) true]
def n_keeping : List PySem.Str := ["cell", "basis", "short", "found", "f", "g", "one", "two", "inner"]
def c_keeping (s_reduced_basis : Spec) (s_in_cell : Spec) (s_whole_vector : Spec) (s_product : Spec) (s_reverse_matrix : Spec) (s_same_lengths : Spec) : List CS := [.asgT (.tp [(.nm 4), (.nm 5)]) (.call "reduced_basis" s_reduced_basis [(.var 0)]) [] false,
  .asg 1 (.tup [(.ix (.var 4) (.int 0)), (.ix (.var 5) (.int 0)), (.ix (.var 4) (.int 1)), (.ix (.var 5) (.int 1))]) [] false,
  .asg 2 (.call "in_cell" s_in_cell [(.var 0), (.call "whole_vector" s_whole_vector [(.var 4)]), (.call "whole_vector" s_whole_vector [(.var 5)])]) [] false,
  .asg 3 (.lst []) [] false,
  .for_ (.tp [(.nm 6), (.nm 7)]) (.call "same_lengths" s_same_lengths [(.var 2), (.var 2)]) [2] [.asg 8 (.call "product" s_product [(.call "reverse_matrix" s_reverse_matrix [(.var 1)]), (.tup [(.ix (.var 6) (.int 0)), (.ix (.var 7) (.int 0)), (.ix (.var 6) (.int 1)), (.ix (.var 7) (.int 1))])]) [] false,
  .app 3 (.call "product" s_product [(.var 8), (.var 1)]) [8] true],
  .ret (.blt .sorted_ [(.var 3)]) true]
def n__law_small_matrices : List PySem.Str := ["found", "k", "matrix"]
def c__law_small_matrices (s__law_det : Spec) : List CS := [.asg 0 (.lst []) [] false,
  .for_ (.nm 1) (.rng [(.int 81)]) [] [.asg 2 (.tup [(.bin .sub (.bin .mod (.var 1) (.int 3)) (.int 1)), (.bin .sub (.bin .mod (.bin .fdiv (.var 1) (.int 3)) (.int 3)) (.int 1)), (.bin .sub (.bin .mod (.bin .fdiv (.var 1) (.int 9)) (.int 3)) (.int 1)), (.bin .sub (.bin .fdiv (.var 1) (.int 27)) (.int 1))]) [] false,
  .ifs (.mem false (.call "_law_det" s__law_det [(.var 2)]) (.lst [(.int 1), (.neg (.int 1))])) [.app 0 (.var 2) [] false] []],
  .ret (.var 0) true]
def n__law_keepers : List PySem.Str := ["cell", "matrix"]
def c__law_keepers (s__law_small_matrices : Spec) (s__law_other_cell : Spec) : List CS := [.ret (.lc (.nm 1) (.call "_law_small_matrices" s__law_small_matrices []) [(.cmp .eq (.call "_law_other_cell" s__law_other_cell [(.var 0), (.var 1)]) (.var 0))] (.var 1)) true]
def n_law_k18 : List PySem.Str := ["script", "k", "numbers", "short", "matrix", "cell", "due", "m", "told"]
def c_law_k18 (s__law_numbers : Spec) (s__law_cell : Spec) (s__law_wide_cell : Spec) (s__law_long_axes : Spec) (s__law_other_cell : Spec) (s__law_reverse : Spec) (s__law_product : Spec) (s__law_keepers : Spec) (s_keeping : Spec) (s__law_same : Spec) : List CS := [.for_ (.nm 1) (.rng [(.int 8)]) [] [.asg 2 (.call "_law_numbers" s__law_numbers [(.bin .add (.call "_law_cell" s__law_cell [(.var 0), (.var 1)]) (.var 1)), (.int 26)]) [] false,
  .asg 3 (.call "_law_wide_cell" s__law_wide_cell [(.var 2)]) [2] true,
  .asg 4 (.call "_law_long_axes" s__law_long_axes [(.var 3), (.sl (.var 2) (.int 8) .nop)]) [3] true,
  .asg 5 (.call "_law_other_cell" s__law_other_cell [(.var 3), (.call "_law_reverse" s__law_reverse [(.var 4)])]) [4] true,
  .asg 6 (.lst []) [] false,
  .for_ (.nm 7) (.call "_law_keepers" s__law_keepers [(.var 3)]) [] [.app 6 (.call "_law_product" s__law_product [(.call "_law_product" s__law_product [(.call "_law_reverse" s__law_reverse [(.var 4)]), (.var 7)]), (.var 4)]) [] false],
  .asg 6 (.blt .sorted_ [(.var 6)]) [6] false,
  .asg 8 (.call "keeping" s_keeping [(.var 5)]) [5] true,
  .ifs (.or [(.not (.call "_law_same" s__law_same [(.var 8), (.var 6)])), (.mem true (.blt .len [(.var 6)]) (.lst [(.int 2), (.int 4), (.int 8), (.int 12)]))]) [.ret (.bl false) true] [],
  .for_ (.nm 7) (.var 6) [6] [.ifs (.cmp .ne (.call "_law_other_cell" s__law_other_cell [(.var 5), (.var 7)]) (.var 5)) [.ret (.bl false) true] []],
  .clr 8,
  .ifs (.not (.call "_law_same" s__law_same [(.call "keeping" s_keeping [(.var 5)]), (.var 6)])) [.ret (.bl false) true] []],
  .ret (.bl true) true]
def n_cost : List PySem.Str := ["signature", "result", "n", "turning", "corners", "rims", "twists", "rings"]
def c_cost (s_fraction_1 : Spec) (s_plus : Spec) (s_fraction : Spec) : List CS := [.asgT (.tp [(.nm 3), (.nm 4), (.nm 5), (.nm 6), (.nm 7)]) (.var 0) [] false,
  .asg 1 (.call "fraction" s_fraction_1 [(.bin .add (.bin .add (.var 5) (.var 6)) (.bin .mul (.int 2) (.var 7)))]) [] false,
  .for_ (.nm 2) (.var 3) [] [.asg 1 (.call "plus" s_plus [(.var 1), (.call "fraction" s_fraction [(.bin .sub (.var 2) (.int 1)), (.var 2)])]) [1] false],
  .for_ (.nm 2) (.var 4) [] [.asg 1 (.call "plus" s_plus [(.var 1), (.call "fraction" s_fraction [(.bin .sub (.var 2) (.int 1)), (.bin .mul (.int 2) (.var 2))])]) [1] false],
  .ret (.var 1) true]
def n_ascending_rows : List PySem.Str := ["length", "least", "most", "rows", "last", "_", "row", "n"]
def c_ascending_rows : List CS := [.asg 3 (.lst [(.tup [])]) [] false,
  .asg 4 (.lst [(.tup [])]) [] false,
  .for_ (.nm 5) (.rng [(.var 0)]) [] [.asg 4 (.lc2 (.nm 6) (.var 4) (.nm 7) (.rng [(.var 1), (.bin .add (.var 2) (.int 1))]) [(.or [(.cmp .eq (.var 6) (.tup [])), (.cmp .le (.ix (.var 6) (.neg (.int 1))) (.var 7))])] (.bin .add (.var 6) (.tup [(.var 7)]))) [4] true,
  .ext 3 4],
  .ret (.var 3) true]
def n_all_signatures : List PySem.Str := ["rows", "found", "turning", "price", "row", "entry", "corners", "double", "rims", "missing", "n"]
def c_all_signatures (s_ascending_rows : Spec) : List CS := [.asg 0 (.lc (.nm 4) (.call "ascending_rows" s_ascending_rows [(.int 4), (.int 2), (.int 6)]) [] (.tup [(.var 4), (.blt .sum_ [(.lc (.nm 10) (.var 4) [] (.bin .fdiv (.bin .mul (.glob "UNIT" (.int 120)) (.bin .sub (.var 10) (.int 1))) (.var 10)))])])) [] false,
  .asg 0 (.lc (.nm 5) (.var 0) [(.cmp .le (.ix (.var 5) (.int 1)) (.bin .mul (.int 2) (.glob "UNIT" (.int 120))))] (.var 5)) [0] true,
  .asg 1 (.lst []) [] false,
  .for_ (.tp [(.nm 2), (.nm 3)]) (.var 0) [0] [.for_ (.tp [(.nm 6), (.nm 7)]) (.var 0) [] [.for_ (.nm 8) (.rng [(.int 3)]) [] [.asg 9 (.bin .sub (.bin .sub (.bin .sub (.bin .mul (.int 2) (.glob "UNIT" (.int 120))) (.var 3)) (.bin .fdiv (.var 7) (.int 2))) (.bin .mul (.var 8) (.glob "UNIT" (.int 120)))) [] false,
  .ifs (.and [(.cmp .ge (.var 9) (.int 0)), (.cmp .eq (.bin .mod (.var 9) (.glob "UNIT" (.int 120))) (.int 0)), (.or [(.cmp .gt (.var 8) (.int 0)), (.cmp .eq (.var 6) (.tup []))])]) [.app 1 (.tup [(.var 2), (.var 6), (.var 8), (.bin .fdiv (.var 9) (.glob "UNIT" (.int 120))), (.int 0)]) [] false,
  .ifs (.cmp .eq (.var 9) (.bin .mul (.int 2) (.glob "UNIT" (.int 120)))) [.app 1 (.tup [(.var 2), (.var 6), (.var 8), (.int 0), (.int 1)]) [] false] []] []]]],
  .ret (.blt .sorted_ [(.var 1)]) true]
def n__law_price : List PySem.Str := ["turning", "corners", "total", "n"]
def c__law_price (s__law_add : Spec) (s__law_frac : Spec) : List CS := [.asg 2 (.tup [(.int 0), (.int 1)]) [] false,
  .for_ (.nm 3) (.var 0) [] [.asg 2 (.call "_law_add" s__law_add [(.var 2), (.call "_law_frac" s__law_frac [(.bin .sub (.var 3) (.int 1)), (.var 3)])]) [] false],
  .for_ (.nm 3) (.var 1) [] [.asg 2 (.call "_law_add" s__law_add [(.var 2), (.call "_law_frac" s__law_frac [(.bin .sub (.var 3) (.int 1)), (.bin .mul (.int 2) (.var 3))])]) [] false],
  .ret (.var 2) false]
def n__law_rows : List PySem.Str := ["rows", "last", "k", "longer", "row", "price", "n", "total"]
def c__law_rows : List CS := [.asg 0 (.lst [(.tup [(.tup []), (.int 0)])]) [] false,
  .asg 1 (.lst [(.tup [(.tup []), (.int 0)])]) [] false,
  .for_ (.nm 2) (.rng [(.int 4)]) [] [.asg 3 (.lst []) [] false,
  .for_ (.tp [(.nm 4), (.nm 5)]) (.blt .list_ [(.var 1)]) [1] [.for_ (.nm 6) (.rng [(.int 2), (.int 13)]) [] [.ifs (.or [(.cmp .eq (.var 4) (.tup [])), (.cmp .le (.ix (.var 4) (.neg (.int 1))) (.var 6))]) [.asg 7 (.bin .add (.var 5) (.bin .fdiv (.bin .mul (.int 27720) (.bin .sub (.var 6) (.int 1))) (.var 6))) [] false,
  .ifs (.cmp .le (.var 7) (.bin .mul (.int 2) (.int 27720))) [.app 3 (.tup [(.bin .add (.var 4) (.tup [(.var 6)])), (.var 7)]) [] false] []] []]],
  .asg 1 (.var 3) [3] true,
  .asg 0 (.cat (.var 0) (.var 1)) [0] false],
  .ret (.var 0) true]
def n__law_all : List PySem.Str := ["found", "rows", "turning", "price", "corners", "double", "rims", "missing", "twists"]
def c__law_all (s__law_rows : Spec) : List CS := [.asg 0 (.lst []) [] false,
  .asg 1 (.call "_law_rows" s__law_rows []) [] false,
  .for_ (.tp [(.nm 2), (.nm 3)]) (.var 1) [1] [.for_ (.tp [(.nm 4), (.nm 5)]) (.var 1) [] [.ifs (.cmp .le (.bin .add (.bin .mul (.var 3) (.int 2)) (.var 5)) (.bin .mul (.int 4) (.int 27720))) [.for_ (.nm 6) (.rng [(.int 3)]) [] [.asg 7 (.bin .sub (.bin .sub (.bin .sub (.bin .mul (.int 4) (.int 27720)) (.bin .mul (.var 3) (.int 2))) (.var 5)) (.bin .mul (.bin .mul (.var 6) (.int 2)) (.int 27720))) [] false,
  .ifs (.and [(.cmp .ge (.var 7) (.int 0)), (.cmp .eq (.bin .mod (.var 7) (.bin .mul (.int 2) (.int 27720))) (.int 0)), (.or [(.cmp .gt (.var 6) (.int 0)), (.cmp .eq (.var 4) (.tup []))])]) [.asg 8 (.bin .fdiv (.var 7) (.bin .mul (.int 2) (.int 27720))) [] false,
  .app 0 (.tup [(.var 2), (.var 4), (.var 6), (.var 8), (.int 0)]) [] false,
  .ifs (.cmp .eq (.var 8) (.int 2)) [.app 0 (.tup [(.var 2), (.var 4), (.var 6), (.int 0), (.int 1)]) [] false] []] []]] []]],
  .ret (.blt .sorted_ [(.var 0)]) true]
def n_law_k09 : List PySem.Str := ["script", "k", "due", "told", "numbers", "turning", "corners", "rims", "twists", "rings", "n"]
def c_law_k09 (s__law_numbers : Spec) (s__law_cell : Spec) (s__law_add : Spec) (s__law_price : Spec) (s__law_same : Spec) (s_cost : Spec) (s__law_all : Spec) (s_all_signatures : Spec) : List CS := [.for_ (.nm 1) (.rng [(.int 8)]) [] [.asg 4 (.call "_law_numbers" s__law_numbers [(.bin .add (.call "_law_cell" s__law_cell [(.var 0), (.var 1)]) (.var 1)), (.int 14)]) [] false,
  .asg 5 (.blt .tuple_ [(.blt .sorted_ [(.lc (.nm 10) (.sl (.var 4) .nop (.bin .mod (.ix (.var 4) (.int 10)) (.int 5))) [] (.bin .add (.int 2) (.bin .mod (.var 10) (.int 59))))])]) [4] true,
  .asg 6 (.blt .tuple_ [(.blt .sorted_ [(.lc (.nm 10) (.sl (.var 4) (.int 5) (.bin .add (.int 5) (.bin .mod (.ix (.var 4) (.int 11)) (.int 5)))) [] (.bin .add (.int 2) (.bin .mod (.var 10) (.int 59))))])]) [] false,
  .asg 7 (.bin .mod (.ix (.var 4) (.int 12)) (.int 10)) [] false,
  .asg 8 (.bin .mod (.ix (.var 4) (.int 13)) (.int 10)) [] false,
  .asg 9 (.bin .mod (.bin .fdiv (.ix (.var 4) (.int 12)) (.int 10)) (.int 10)) [] false,
  .asg 2 (.call "_law_add" s__law_add [(.call "_law_price" s__law_price [(.var 5), (.var 6)]), (.tup [(.bin .add (.bin .add (.var 7) (.var 8)) (.bin .mul (.int 2) (.var 9))), (.int 1)])]) [] false,
  .ifs (.not (.call "_law_same" s__law_same [(.call "cost" s_cost [(.tup [(.var 5), (.var 6), (.var 7), (.var 8), (.var 9)])]), (.var 2)])) [.ret (.bl false) true] []],
  .asg 2 (.call "_law_all" s__law_all []) [] false,
  .asg 3 (.call "all_signatures" s_all_signatures []) [] false,
  .ifs (.or [(.cmp .ne (.blt .len [(.var 2)]) (.int 17)), (.not (.call "_law_same" s__law_same [(.var 3), (.var 2)]))]) [.ret (.bl false) true] [],
  .clr 3,
  .ret (.call "_law_same" s__law_same [(.call "all_signatures" s_all_signatures []), (.var 2)]) true]
def n_common_multiple : List PySem.Str := ["fractions", "result", "n", "d"]
def c_common_multiple (s_common_divisor : Spec) : List CS := [.asg 1 (.int 1) [] false,
  .for_ (.tp [(.nm 2), (.nm 3)]) (.var 0) [] [.asg 1 (.bin .mul (.bin .fdiv (.var 1) (.call "common_divisor" s_common_divisor [(.var 1), (.var 3)])) (.var 3)) [] false],
  .ret (.var 1) false]
def n_scaled : List PySem.Str := ["f", "multiple"]
def c_scaled : List CS := [.ret (.bin .mul (.ix (.var 0) (.int 0)) (.bin .fdiv (.var 1) (.ix (.var 0) (.int 1)))) true]
def n_ascending : List PySem.Str := ["movements", "multiple", "m"]
def c_ascending (s_common_multiple : Spec) (s_scaled : Spec) : List CS := [.asg 1 (.call "common_multiple" s_common_multiple [(.bin .add (.lc (.nm 2) (.var 0) [] (.ix (.var 2) (.int 4))) (.lc (.nm 2) (.var 0) [] (.ix (.var 2) (.int 5))))]) [] false,
  .ret (.sortk 2 (.var 0) (.bin .add (.sl (.var 2) .nop (.int 4)) (.tup [(.call "scaled" s_scaled [(.ix (.var 2) (.int 4)), (.var 1)]), (.call "scaled" s_scaled [(.ix (.var 2) (.int 5)), (.var 1)])]))) true]
def n_check_finite : List PySem.Str := ["movements", "found", "waiting", "current", "m", "matrix"]
def c_check_finite (s_product : Spec) : List CS := [.asg 1 (.dct1 (.sl (.glob "IDENTITY" (.tup [(.int 1), (.int 0), (.int 0), (.int 1), (.tup [(.int 0), (.int 1)]), (.tup [(.int 0), (.int 1)])])) .nop (.int 4)) (.bl true)) [] false,
  .asg 2 (.lst [(.sl (.glob "IDENTITY" (.tup [(.int 1), (.int 0), (.int 0), (.int 1), (.tup [(.int 0), (.int 1)]), (.tup [(.int 0), (.int 1)])])) .nop (.int 4))]) [] false,
  .whl (.var 2) [.pop 3 2,
  .for_ (.nm 4) (.var 0) [] [.asg 5 (.call "product" s_product [(.var 3), (.var 4)]) [] false,
  .ifs (.mem true (.var 5) (.var 1)) [.ifs (.cmp .eq (.blt .len [(.var 1)]) (.glob "MOST_MATRICES" (.int 12))) [.rse "NotFinite"] [],
  .put 1 (.var 5) (.bl true),
  .app 2 (.var 5) [5] true] []]]]
def n_generated : List PySem.Str := ["movements", "steps", "found", "waiting", "current", "m", "target"]
def c_generated (s_check_finite : Spec) (s_settled : Spec) (s_then : Spec) (s_ascending : Spec) : List CS := [.drop (.call "check_finite" s_check_finite [(.var 0)]),
  .asg 1 (.lc (.nm 5) (.var 0) [] (.call "settled" s_settled [(.var 5)])) [] false,
  .asg 2 (.dct1 (.glob "IDENTITY" (.tup [(.int 1), (.int 0), (.int 0), (.int 1), (.tup [(.int 0), (.int 1)]), (.tup [(.int 0), (.int 1)])])) (.bl true)) [] false,
  .asg 3 (.lst [(.glob "IDENTITY" (.tup [(.int 1), (.int 0), (.int 0), (.int 1), (.tup [(.int 0), (.int 1)]), (.tup [(.int 0), (.int 1)])]))]) [] false,
  .whl (.var 3) [.pop 4 3,
  .for_ (.nm 5) (.var 1) [1] [.asg 6 (.call "settled" s_settled [(.call "then" s_then [(.var 4), (.var 5)])]) [] false,
  .ifs (.mem true (.var 6) (.var 2)) [.ifs (.cmp .eq (.blt .len [(.var 2)]) (.glob "MOST_MOVEMENTS" (.int 600))) [.rse "TooMany"] [],
  .put 2 (.var 6) (.bl true),
  .app 3 (.var 6) [6] true] []]],
  .ret (.call "ascending" s_ascending [(.blt .list_ [(.var 2)])]) true]
def n__law_identity : List PySem.Str := []
def c__law_identity : List CS := [.ret (.tup [(.int 1), (.int 0), (.int 0), (.int 1), (.tup [(.int 0), (.int 1)]), (.tup [(.int 0), (.int 1)])]) true]
def n__law_closed : List PySem.Str := ["steps", "most", "found", "waiting", "turn", "current", "m", "target"]
def c__law_closed (s__law_identity : Spec) (s__law_settled : Spec) (s__law_then : Spec) : List CS := [.asg 2 (.dct1 (.call "_law_identity" s__law_identity []) (.bl true)) [] false,
  .asg 3 (.lst [(.call "_law_identity" s__law_identity [])]) [] false,
  .for_ (.nm 4) (.rng [(.int 2000)]) [] [.ifs (.cmp .eq (.var 3) (.lst [])) [.brk] [],
  .pop 5 3,
  .for_ (.nm 6) (.var 0) [] [.asg 7 (.call "_law_settled" s__law_settled [(.call "_law_then" s__law_then [(.var 5), (.var 6)])]) [] false,
  .ifs (.mem true (.var 7) (.var 2)) [.ifs (.cmp .eq (.blt .len [(.var 2)]) (.var 1)) [.ret .non true] [],
  .put 2 (.var 7) (.bl true),
  .app 3 (.var 7) [7] true] []]],
  .ret (.blt .list_ [(.var 2)]) true]
def n__law_multiple : List PySem.Str := ["fractions", "result", "f"]
def c__law_multiple (s__law_gcd : Spec) : List CS := [.asg 1 (.int 1) [] false,
  .for_ (.nm 2) (.var 0) [] [.asg 1 (.bin .mul (.bin .fdiv (.var 1) (.call "_law_gcd" s__law_gcd [(.var 1), (.ix (.var 2) (.int 1))])) (.ix (.var 2) (.int 1))) [] false],
  .ret (.var 1) false]
def n__law_sorted : List PySem.Str := ["movements", "size", "m"]
def c__law_sorted (s__law_multiple : Spec) : List CS := [.asg 1 (.call "_law_multiple" s__law_multiple [(.bin .add (.lc (.nm 2) (.var 0) [] (.ix (.var 2) (.int 4))) (.lc (.nm 2) (.var 0) [] (.ix (.var 2) (.int 5))))]) [] false,
  .ret (.sortk 2 (.var 0) (.bin .add (.sl (.var 2) .nop (.int 4)) (.tup [(.bin .mul (.ix (.ix (.var 2) (.int 4)) (.int 0)) (.bin .fdiv (.var 1) (.ix (.ix (.var 2) (.int 4)) (.int 1)))), (.bin .mul (.ix (.ix (.var 2) (.int 5)) (.int 0)) (.bin .fdiv (.var 1) (.ix (.ix (.var 2) (.int 5)) (.int 1))))]))) true]
def n__law_matrices : List PySem.Str := ["steps", "found", "waiting", "turn", "current", "m", "target"]
def c__law_matrices (s__law_product : Spec) : List CS := [.asg 1 (.dct1 (.tup [(.int 1), (.int 0), (.int 0), (.int 1)]) (.bl true)) [] false,
  .asg 2 (.lst [(.tup [(.int 1), (.int 0), (.int 0), (.int 1)])]) [] false,
  .for_ (.nm 3) (.rng [(.int 100)]) [] [.ifs (.cmp .eq (.var 2) (.lst [])) [.brk] [],
  .pop 4 2,
  .for_ (.nm 5) (.var 0) [] [.asg 6 (.call "_law_product" s__law_product [(.var 4), (.var 5)]) [] false,
  .ifs (.mem true (.var 6) (.var 1)) [.ifs (.cmp .eq (.blt .len [(.var 1)]) (.int 12)) [.ret .non true] [],
  .put 1 (.var 6) (.bl true),
  .app 2 (.var 6) [6] true] []]],
  .ret (.blt .list_ [(.var 1)]) true]
def n__law_shifted : List PySem.Str := ["m", "x", "y"]
def c__law_shifted (s__law_add : Spec) : List CS := [.ret (.bin .add (.sl (.var 0) .nop (.int 4)) (.tup [(.call "_law_add" s__law_add [(.ix (.var 0) (.int 4)), (.var 1)]), (.call "_law_add" s__law_add [(.ix (.var 0) (.int 5)), (.var 2)])])) true]
def n__law_fine : List PySem.Str := ["numbers", "steps", "last", "sizes", "start", "m"]
def c__law_fine (s__law_steps : Spec) (s__law_shifted : Spec) (s__law_frac : Spec) (s__law_axes : Spec) (s__law_then : Spec) (s__law_back : Spec) : List CS := [.asg 1 (.call "_law_steps" s__law_steps [(.var 0)]) [] false,
  .asg 2 (.ix (.var 1) (.neg (.int 1))) [1] false,
  .asg 3 (.lst [(.int 1), (.int 2), (.int 3), (.int 4)]) [] false,
  .put 1 (.neg (.int 1)) (.call "_law_shifted" s__law_shifted [(.var 2), (.call "_law_frac" s__law_frac [(.bin .mod (.ix (.var 0) (.int 4)) (.int 4)), (.ix (.var 3) (.bin .mod (.ix (.var 0) (.int 5)) (.int 4)))]), (.call "_law_frac" s__law_frac [(.bin .mod (.ix (.var 0) (.int 6)) (.int 4)), (.ix (.var 3) (.bin .mod (.ix (.var 0) (.int 7)) (.int 4)))])]),
  .ifs (.cmp .eq (.bin .mod (.ix (.var 0) (.int 8)) (.int 3)) (.int 0)) [.app 1 (.tup [(.int 1), (.int 0), (.int 0), (.int 1), (.call "_law_frac" s__law_frac [(.bin .mod (.ix (.var 0) (.int 9)) (.int 4)), (.ix (.var 3) (.bin .mod (.ix (.var 0) (.int 10)) (.int 4)))]), (.call "_law_frac" s__law_frac [(.bin .mod (.ix (.var 0) (.int 11)) (.int 4)), (.ix (.var 3) (.bin .mod (.ix (.var 0) (.int 12)) (.int 4)))])]) [3] true] [],
  .asg 4 (.bin .add (.call "_law_axes" s__law_axes [(.sl (.var 0) (.int 13) .nop)]) (.tup [(.tup [(.int 0), (.int 1)]), (.tup [(.int 0), (.int 1)])])) [] false,
  .ret (.lc (.nm 5) (.var 1) [] (.call "_law_then" s__law_then [(.call "_law_then" s__law_then [(.call "_law_back" s__law_back [(.var 4)]), (.var 5)]), (.var 4)])) true]
def n__law_padded : List PySem.Str := ["steps", "numbers", "longer", "k", "m", "made", "n"]
def c__law_padded (s__law_then : Spec) : List CS := [.asg 2 (.blt .list_ [(.var 0)]) [] false,
  .ifs (.or [(.cmp .eq (.var 0) (.lst [])), (.cmp .gt (.bin .mod (.ix (.var 1) (.int 0)) (.int 3)) (.int 0))]) [.ret (.var 2) true] [],
  .for_ (.nm 3) (.rng [(.bin .mod (.ix (.var 1) (.int 1)) (.bin .sub (.int 13) (.blt .len [(.var 0)])))]) [] [.asg 4 (.ix (.var 0) (.bin .mod (.ix (.var 1) (.bin .add (.int 2) (.var 3))) (.blt .len [(.var 0)]))) [] false,
  .asg 5 (.call "_law_then" s__law_then [(.var 4), (.ix (.var 0) (.bin .mod (.bin .fdiv (.ix (.var 1) (.bin .add (.int 3) (.var 3))) (.int 7)) (.blt .len [(.var 0)])))]) [] false,
  .ifs (.or [(.cmp .gt (.blt .maxl [(.lc (.nm 6) (.sl (.var 5) .nop (.int 4)) [] (.blt .abs [(.var 6)]))]) (.int 1000)), (.cmp .gt (.ix (.ix (.var 5) (.int 4)) (.int 1)) (.int 24)), (.cmp .gt (.ix (.ix (.var 5) (.int 5)) (.int 1)) (.int 24))]) [.asg 5 (.var 4) [] false] [],
  .asg 2 (.bin .add (.lst [(.var 5)]) (.var 2)) [2] false],
  .ret (.var 2) true]
def n__law_told : List PySem.Str := ["steps", "e"]
def c__law_told (s_generated : Spec) : List CS := [.tryx [.ret (.tup [(.call "generated" s_generated [(.var 0)]), (.str "")]) true] ["NotFinite", "TooMany"] [⟨"NotFinite", (some 1), [], (.sel .non [(.str "?"), (.str "infinite")] (.and [(.isx "PatternError"), (.not (.isx "TooMany"))]))⟩, ⟨"TooMany", (some 1), [], (.sel .non [(.str "?"), (.str "many")] (.and [(.isx "PatternError"), (.isx "ValueError")]))⟩]]
def n_law_k03 : List PySem.Str := ["script", "k", "numbers", "steps", "due", "word", "handed", "x", "y", "told", "raised", "m"]
def c_law_k03 (s__law_numbers : Spec) (s__law_cell : Spec) (s__law_fine : Spec) (s__law_steps : Spec) (s__law_frac : Spec) (s__law_padded : Spec) (s__law_closed : Spec) (s__law_matrices : Spec) (s__law_sorted : Spec) (s__law_same : Spec) (s_generated : Spec) (s__law_told : Spec) : List CS := [.for_ (.nm 1) (.rng [(.int 4)]) [] [.asg 2 (.call "_law_numbers" s__law_numbers [(.call "_law_cell" s__law_cell [(.var 0), (.var 1)]), (.int 24)]) [] false,
  .asg 3 (.call "_law_fine" s__law_fine [(.var 2)]) [2] true,
  .ifs (.cmp .eq (.bin .mod (.ix (.var 2) (.int 17)) (.int 6)) (.int 1)) [.app 3 (.tup [(.int 1), (.bin .mod (.ix (.var 2) (.int 18)) (.int 3)), (.int 0), (.int 1), (.tup [(.int 0), (.int 1)]), (.tup [(.int 0), (.int 1)])]) [] false] [],
  .ifs (.cmp .eq (.bin .mod (.ix (.var 2) (.int 17)) (.int 6)) (.int 2)) [.asg 3 (.bin .add (.sl (.var 3) .nop (.int 2)) (.sl (.call "_law_steps" s__law_steps [(.sl (.var 2) (.int 18) .nop)]) .nop (.int 1))) [3] false] [],
  .ifs (.cmp .eq (.bin .mod (.ix (.var 2) (.int 17)) (.int 12)) (.int 3)) [.asg 3 (.lc (.nm 11) (.var 3) [] (.bin .add (.sl (.var 11) .nop (.int 4)) (.tup [(.call "_law_frac" s__law_frac [(.bin .mod (.ix (.var 2) (.int 18)) (.int 24)), (.int 24)]), (.call "_law_frac" s__law_frac [(.bin .mod (.ix (.var 2) (.int 19)) (.int 23)), (.int 23)])]))) [3] false] [],
  .ifs (.cmp .eq (.bin .mod (.ix (.var 2) (.int 17)) (.int 12)) (.int 5)) [.asg 7 (.ix (.lst [(.int 15), (.bin .add (.int 12) (.bin .mod (.ix (.var 2) (.int 18)) (.int 13)))]) (.bin .mod (.ix (.var 2) (.int 20)) (.int 2))) [] false,
  .asg 8 (.ix (.lst [(.int 20), (.bin .add (.int 12) (.bin .mod (.ix (.var 2) (.int 19)) (.int 13)))]) (.bin .mod (.ix (.var 2) (.int 20)) (.int 2))) [] false,
  .asg 3 (.lst [(.tup [(.neg (.int 1)), (.int 0), (.int 0), (.neg (.int 1)), (.tup [(.int 0), (.int 1)]), (.tup [(.int 0), (.int 1)])]), (.tup [(.int 1), (.int 0), (.int 0), (.int 1), (.tup [(.int 1), (.var 7)]), (.tup [(.int 0), (.int 1)])]), (.tup [(.int 1), (.int 0), (.int 0), (.int 1), (.tup [(.int 0), (.int 1)]), (.tup [(.int 1), (.var 8)])])]) [] false] [],
  .ifs (.cmp .eq (.bin .mod (.ix (.var 2) (.int 17)) (.int 12)) (.int 4)) [.asg 3 (.sl (.var 3) .nop (.bin .mod (.ix (.var 2) (.int 18)) (.int 2))) [3] false] [],
  .asg 3 (.call "_law_padded" s__law_padded [(.var 3), (.call "_law_numbers" s__law_numbers [(.bin .add (.call "_law_cell" s__law_cell [(.var 0), (.bin .add (.int 4) (.var 1))]) (.var 1)), (.int 16)])]) [3] false,
  .asg 4 .non [] false,
  .asg 5 (.str "infinite") [] false,
  .ifs (.isN true (.call "_law_matrices" s__law_matrices [(.var 3)])) [.asg 4 (.call "_law_closed" s__law_closed [(.var 3), (.int 600)]) [3] false,
  .asg 5 (.ix (.lst [(.str ""), (.str "many")]) (.blt .int_ [(.isN false (.var 4))])) [4] true] [],
  .ifs (.isN true (.var 4)) [.asg 4 (.call "_law_sorted" s__law_sorted [(.var 4)]) [] false] [],
  .asg 6 (.blt .list_ [(.var 3)]) [3] false,
  .asgP 9 10 "_law_told" s__law_told [(.var 6)] [6] true,
  .ifs (.or [(.cmp .ne (.var 10) (.var 5)), (.not (.call "_law_same" s__law_same [(.var 9), (.var 4)])), (.cmp .ne (.var 6) (.var 3))]) [.ret (.bl false) true] [],
  .ifs (.isN true (.var 4)) [.clr 9,
  .ifs (.not (.call "_law_same" s__law_same [(.call "generated" s_generated [(.blt .tuple_ [(.var 3)])]), (.var 4)])) [.ret (.bl false) true] []] []],
  .ret (.bl true) true]
end Dl

/-! DlLib: what the common defs compute: gcd, fractions; in plain Lean. -/
namespace Dl
/-- a spec of a def that lets nothing out: what it asks, what it may answer -/
def Spec.rel (pre : List D → Prop) (R : List D → D → Prop) : Spec := ⟨fun ds Q _ => pre ds ∧ ∀ d, R ds d → Q d, fun _ _ _ _ _ h hq _ => ⟨h.1, fun d r => hq d (h.2 d r)⟩⟩
def Spec.fn (pre : List D → Prop) (f : List D → D) : Spec := ⟨fun ds Q _ => pre ds ∧ Q (f ds), fun _ _ _ _ _ h hq _ => ⟨h.1, hq _ h.2⟩⟩
abbrev fr (n d : Int) : D := .tup [.int n, .int d]
/-- two ints, two fractions, one -/
def onI2 (p : Int → Int → Prop) : List D → Prop
  | [.int a, .int b] => p a b
  | _ => False
def mapI2 (f : Int → Int → D) : List D → D
  | [.int a, .int b] => f a b
  | _ => .non
def onF2 (p : Int → Int → Int → Int → Prop) : List D → Prop
  | [.tup [.int a, .int b], .tup [.int c, .int d]] => p a b c d
  | _ => False
def mapF2 (f : Int → Int → Int → Int → D) : List D → D
  | [.tup [.int a, .int b], .tup [.int c, .int d]] => f a b c d
  | _ => .non
def onF1 (p : Int → Int → Prop) : List D → Prop
  | [.tup [.int a, .int b]] => p a b
  | _ => False
def mapF1 (f : Int → Int → D) : List D → D
  | [.tup [.int a, .int b]] => f a b
  | _ => .non
theorem onI2_elim {p : Int → Int → Prop} {ds : List D} (h : onI2 p ds) : ∃ a b, ds = [.int a, .int b] ∧ p a b := by
  unfold onI2 at h
  split at h
  · exact ⟨_, _, rfl, h⟩
  · exact h.elim
theorem onF2_elim {p : Int → Int → Int → Int → Prop} {ds : List D} (h : onF2 p ds) : ∃ a b c d, ds = [fr a b, fr c d] ∧ p a b c d := by
  unfold onF2 at h
  split at h
  · exact ⟨_, _, _, _, rfl, h⟩
  · exact h.elim
theorem onF1_elim {p : Int → Int → Prop} {ds : List D} (h : onF1 p ds) : ∃ a b, ds = [fr a b] ∧ p a b := by
  unfold onF1 at h
  split at h
  · exact ⟨_, _, rfl, h⟩
  · exact h.elim
/-! ### numbers -/
/-- the divisor with d's sign -/
def sg (n d : Int) : Int := if d < 0 then -(Int.gcd n d : Int) else (Int.gcd n d : Int)
def nfn (n d : Int) : Int := n.fdiv (sg n d)
def nfd (n d : Int) : Int := d.fdiv (sg n d)
theorem sg_abs (n d : Int) : (sg n d).natAbs = Int.gcd n d := by
  unfold sg; split <;> simp
theorem gcd_pos {n d : Int} (h : d ≠ 0) : 0 < Int.gcd n d := by
  rw [Nat.pos_iff_ne_zero]
  intro e
  exact h (Int.gcd_eq_zero_iff.mp e).2
theorem sg_ne {n d : Int} (h : d ≠ 0) : sg n d ≠ 0 := fun e => by
  have h1 := sg_abs n d
  have h2 := gcd_pos (n := n) h
  rw [e, Int.natAbs_zero] at h1
  omega
theorem sg_dvd (n d : Int) : sg n d ∣ n ∧ sg n d ∣ d := by
  have h1 := Int.gcd_dvd_left n d
  have h2 := Int.gcd_dvd_right n d
  unfold sg
  split
  · exact ⟨Int.neg_dvd.mpr h1, Int.neg_dvd.mpr h2⟩
  · exact ⟨h1, h2⟩
theorem nf_all {n d : Int} (h : d ≠ 0) : n = sg n d * nfn n d ∧ d = sg n d * nfd n d ∧ 0 < nfd n d ∧ Int.gcd (nfn n d) (nfd n d) = 1 := by
  obtain ⟨⟨n', e1⟩, ⟨d', e2⟩⟩ := sg_dvd n d
  have hs := sg_ne (n := n) h
  have f1 : nfn n d = n' := by
    unfold nfn
    conv => lhs; arg 1; rw [e1]
    exact Int.mul_fdiv_cancel_left _ hs
  have f2 : nfd n d = d' := by
    unfold nfd
    conv => lhs; arg 1; rw [e2]
    exact Int.mul_fdiv_cancel_left _ hs
  rw [f1, f2]
  refine ⟨e1, e2, ?_, ?_⟩
  · have hp : (0:Int) < (Int.gcd n d : Int) := by have := gcd_pos (n := n) h; omega
    by_cases hd : d < 0
    · have es : sg n d = -(Int.gcd n d : Int) := by unfold sg; rw [if_pos hd]
      rw [es] at e2
      apply Classical.byContradiction
      intro hn
      have : 0 ≤ (Int.gcd n d : Int) * (-d') := Int.mul_nonneg (by omega) (by omega)
      rw [Int.mul_neg, ← Int.neg_mul, ← e2] at this
      omega
    · have es : sg n d = (Int.gcd n d : Int) := by unfold sg; rw [if_neg hd]
      rw [es] at e2
      apply Classical.byContradiction
      intro hn
      have : 0 ≤ (Int.gcd n d : Int) * (-d') := Int.mul_nonneg (by omega) (by omega)
      rw [Int.mul_neg, ← e2] at this
      omega
  · have q : Int.gcd (sg n d * n') (sg n d * d') = (sg n d).natAbs * Int.gcd n' d' := Int.gcd_mul_left ..
    rw [← e1, ← e2, sg_abs] at q
    have hp := gcd_pos (n := n) h
    exact (Nat.eq_of_mul_eq_mul_left hp (by rw [Nat.mul_one]; exact q)).symm
theorem nf_cross {n d : Int} (h : d ≠ 0) : nfn n d * d = n * nfd n d := by
  obtain ⟨e1, e2, _⟩ := nf_all (n := n) h
  generalize sg n d = s at *
  generalize nfn n d = a at *
  generalize nfd n d = b at *
  subst e1 e2
  rw [Int.mul_comm s b, ← Int.mul_assoc, Int.mul_comm a b, Int.mul_comm s a, Int.mul_comm b a, Int.mul_assoc, Int.mul_assoc, Int.mul_comm b s]
theorem nf_le {n d : Int} (h : d ≠ 0) : (nfn n d).natAbs ≤ n.natAbs ∧ (nfd n d).natAbs ≤ d.natAbs := by
  obtain ⟨e1, e2, _⟩ := nf_all (n := n) h
  have hs := sg_ne (n := n) h
  have hp : 1 ≤ (sg n d).natAbs := by omega
  have q1 : n.natAbs = (sg n d).natAbs * (nfn n d).natAbs := by rw [← Int.natAbs_mul, ← e1]
  have q2 : d.natAbs = (sg n d).natAbs * (nfd n d).natAbs := by rw [← Int.natAbs_mul, ← e2]
  rw [q1, q2]
  exact ⟨Nat.le_mul_of_pos_left _ hp, Nat.le_mul_of_pos_left _ hp⟩
/-- already settled -/
theorem nf_id {n d : Int} (h : 0 < d) (g : Int.gcd n d = 1) : nfn n d = n ∧ nfd n d = d := by
  have es : sg n d = 1 := by unfold sg; rw [if_neg (by omega), g]; rfl
  unfold nfn nfd
  rw [es]
  simp
end Dl

/-! DlLib2: the common defs' walks, in plain Lean. -/
namespace Dl
open PySem
def big : Nat := 2 ^ 4000
def sm : Nat := 2 ^ 1900
theorem log2_of {n k : Nat} (h : n < 2 ^ k) (hk : 0 < k) : n.log2 < k := by
  by_cases e : n = 0
  · subst e; simpa using hk
  · exact (Nat.log2_lt e).mpr h
theorem mulOk_sm {x y : Int} (hx : x.natAbs < sm) (hy : y.natAbs < sm) : MulOk x y := by
  have h1 := log2_of (k := 1900) hx (by omega)
  have h2 := log2_of (k := 1900) hy (by omega)
  unfold MulOk
  omega
theorem mul_big {x y : Int} (hx : x.natAbs < sm) (hy : y.natAbs < sm) : (x * y).natAbs < big := by
  rw [Int.natAbs_mul]
  calc x.natAbs * y.natAbs ≤ sm * sm := Nat.mul_le_mul (Nat.le_of_lt hx) (Nat.le_of_lt hy)
    _ = 2 ^ 3800 := by unfold sm; rw [← Nat.pow_add]
    _ < big := Nat.pow_lt_pow_right (by omega) (by omega)
theorem divOk_big {d : Int} (h0 : d ≠ 0) (h : d.natAbs < big) : DivOk d := ⟨h0, by have := log2_of (k := 4000) h (by omega); omega⟩
theorem absI_eq (a : Int) : absI a = (a.natAbs : Int) := by unfold absI; split <;> omega
theorem fmod_nat (x y : Nat) : (x : Int).fmod (y : Int) = ((x % y : Nat) : Int) := by
  rw [Int.fmod_eq_emod_of_nonneg _ (by omega)]
  rfl
/-! ### gcd -/
def spGcd : Spec := .fn (onI2 fun _ _ => True) (mapI2 fun a b => .int (Int.gcd a b))
theorem p_common_divisor (ds : List D) (Q : D → Prop) (E : Xn → Prop) (h : spGcd.run ds Q E) : wpDef n_common_divisor.length c_common_divisor ds Q E := by
  obtain ⟨h1, h⟩ := h
  obtain ⟨a, b, rfl, _⟩ := onI2_elim h1
  replace h : Q (.int (Int.gcd a b)) := h
  simp [wpDef, c_common_divisor, n_common_divisor, start]
  refine wS_whl (fun ρ => ∃ x y : Nat, ρ = [some (.int x), some (.int y)] ∧ Nat.gcd x y = Int.gcd a b) (fun ρ => match ρ with | [_, some (.int y)] => y.natAbs | _ => 0) ⟨a.natAbs, b.natAbs, by simp [absI_eq], rfl⟩ ?_
  rintro ρ ⟨x, y, rfl, hg⟩
  simp
  split
  · rename_i hy
    refine ⟨by omega, ⟨y, x % y, ⟨rfl, fmod_nat x y⟩, ?_⟩, ?_⟩
    · rw [← hg, Nat.gcd_comm x y, Nat.gcd_rec y x, Nat.gcd_comm]
    · rw [fmod_nat]
      exact Nat.mod_lt _ hy
  · rename_i hy
    have e : y = 0 := by omega
    subst e
    rw [Nat.gcd_zero_right] at hg
    rw [hg]
    exact h
def spLGcd : Spec := .fn (onI2 fun _ b => b.natAbs < big) (mapI2 fun a b => .int (Int.gcd a b))
theorem mod_half {x y : Nat} (h : y < x) (h0 : 0 < y) : 2 * (x % y) < x := by
  have h1 := Nat.mod_lt x h0
  have h2 := Nat.div_add_mod x y
  have h3 : 1 ≤ x / y := (Nat.one_le_div_iff h0).mpr (by omega)
  have h4 : y * 1 ≤ y * (x / y) := Nat.mul_le_mul_left y h3
  omega
def inv_gcd (a b : Int) (i : Nat) (ρ : DEnv) : Prop := ∃ (x y n : Nat) (o1 o2 : Option D), ρ = [some (.int x), some (.int y), o1, o2] ∧ Nat.gcd x y = Int.gcd a b ∧ ((y < 2 ^ n ∧ i + 2 * n ≤ 8000) ∨ (y < x ∧ x < 2 ^ n ∧ i + 2 * n ≤ 8001))
theorem p__law_gcd (ds : List D) (Q : D → Prop) (E : Xn → Prop) (h : spLGcd.run ds Q E) : wpDef n__law_gcd.length c__law_gcd ds Q E := by
  obtain ⟨h1, h⟩ := h
  obtain ⟨a, b, rfl, hb⟩ := onI2_elim h1
  replace h : Q (.int (Int.gcd a b)) := h
  simp [wpDef, c__law_gcd, n__law_gcd, start]
  refine wS_for (inv_gcd a b) ?_
  simp
  refine ⟨⟨a.natAbs, b.natAbs, 4000, none, none, by simp [absI_eq], rfl, .inl ⟨hb, by omega⟩⟩, ?_, ?_⟩
  · rintro i d ρ hi ⟨x, y, n, o1, o2, rfl, hg, hinv⟩
    simp
    split
    · rename_i hy
      subst hy
      rw [Nat.gcd_zero_right] at hg
      rw [hg]
      exact h
    · rename_i hy
      rw [fmod_nat]
      refine ⟨hy, ?_⟩
      have g1 : Nat.gcd y (x % y) = Int.gcd a b := by rw [← hg, Nat.gcd_comm x y, Nat.gcd_rec y x, Nat.gcd_comm]
      have l1 := Nat.mod_lt x (show 0 < y by omega)
      rcases hinv with ⟨h1, h2⟩ | ⟨h1, h2, h3⟩
      · exact ⟨y, x % y, n, _, _, rfl, g1, .inr ⟨l1, h1, by omega⟩⟩
      · obtain ⟨m, rfl⟩ : ∃ m, n = m + 1 := ⟨n - 1, by
          cases n with
          | zero => simp at h2; omega
          | succ m => rfl⟩
        have l2 := mod_half h1 (show 0 < y by omega)
        rw [Nat.pow_succ] at h2
        exact ⟨y, x % y, m, _, _, rfl, g1, .inl ⟨by omega, by omega⟩⟩
  · rintro ρ ⟨x, y, n, o1, o2, rfl, hg, hinv⟩
    rw [rng_len] at hinv
    omega
/-! ### fractions -/
def okFr (n d : Int) : Prop := d ≠ 0 ∧ d.natAbs < big
def spFr : Spec := .fn (onI2 okFr) (mapI2 fun n d => fr (nfn n d) (nfd n d))
theorem sg_big {n d : Int} (h : okFr n d) : DivOk (sg n d) := by
  refine divOk_big (sg_ne h.1) ?_
  rw [sg_abs]
  refine Nat.lt_of_le_of_lt ?_ h.2
  exact Nat.le_of_dvd (by have := h.1; omega) (by have := Int.natAbs_dvd_natAbs.mpr (Int.gcd_dvd_right n d); simpa using this)
theorem p_fraction (ds : List D) (Q : D → Prop) (E : Xn → Prop) (h : spFr.run ds Q E) : wpDef n_fraction.length (c_fraction spGcd) ds Q E := by
  obtain ⟨h1, h⟩ := h
  obtain ⟨n, d, rfl, hb⟩ := onI2_elim h1
  replace h : Q (fr (nfn n d) (nfd n d)) := h
  have hs := sg_big hb
  simp [wpDef, c_fraction, n_fraction, start]
  refine ⟨trivial, ?_⟩
  simp [mapI2]
  unfold nfn nfd at h
  unfold sg at hs h
  split
  · rename_i hd
    rw [if_pos hd] at hs h
    exact ⟨hs, h⟩
  · rename_i hd
    rw [if_neg hd] at hs h
    exact ⟨hs, h⟩
theorem p__law_frac (ds : List D) (Q : D → Prop) (E : Xn → Prop) (h : spFr.run ds Q E) : wpDef n__law_frac.length (c__law_frac spLGcd) ds Q E := by
  obtain ⟨h1, h⟩ := h
  obtain ⟨n, d, rfl, hb⟩ := onI2_elim h1
  replace h : Q (fr (nfn n d) (nfd n d)) := h
  have hs := sg_big hb
  simp [wpDef, c__law_frac, n__law_frac, start]
  refine ⟨hb.2, ?_⟩
  simp [mapI2]
  unfold nfn nfd at h
  unfold sg at hs h
  split
  · rename_i hd
    rw [if_pos hd] at hs h
    exact ⟨hs, h⟩
  · rename_i hd
    rw [if_neg hd] at hs h
    exact ⟨hs, h⟩
def ok4 (a b c d : Int) : Prop := b ≠ 0 ∧ d ≠ 0 ∧ a.natAbs < sm ∧ b.natAbs < sm ∧ c.natAbs < sm ∧ d.natAbs < sm
theorem okFr_mul {b d n : Int} (h1 : b ≠ 0) (h2 : d ≠ 0) (h3 : b.natAbs < sm) (h4 : d.natAbs < sm)  : onI2 okFr [.int n, .int (b * d)] := ⟨Int.mul_ne_zero h1 h2, mul_big h3 h4⟩
def addF (a b c d : Int) : D := fr (nfn (a * d + c * b) (b * d)) (nfd (a * d + c * b) (b * d))
def subFr (a b c d : Int) : D := fr (nfn (a * d - c * b) (b * d)) (nfd (a * d - c * b) (b * d))
def mulF (a b c d : Int) : D := fr (nfn (a * c) (b * d)) (nfd (a * c) (b * d))
def spAdd : Spec := .fn (onF2 ok4) (mapF2 addF)
def spSub : Spec := .fn (onF2 ok4) (mapF2 subFr)
def spMul : Spec := .fn (onF2 ok4) (mapF2 mulF)
def spLess : Spec := .fn (onF2 ok4) (mapF2 fun a b c d => .bl (decide (a * d < c * b)))
def spRest : Spec := .fn (onF1 fun _ b => b ≠ 0) (mapF1 fun a b => fr (a.fmod b) b)
theorem p_plus (ds : List D) (Q : D → Prop) (E : Xn → Prop) (h : spAdd.run ds Q E) : wpDef n_plus.length (c_plus spFr) ds Q E := by
  obtain ⟨h1, h⟩ := h
  obtain ⟨a, b, c, d, rfl, h1, h2, h3, h4, h5, h6⟩ := onF2_elim h1
  simp [wpDef, c_plus, n_plus, start]
  exact ⟨mulOk_sm h3 h6, mulOk_sm h5 h4, mulOk_sm h4 h6, ⟨okFr_mul h1 h2 h4 h6, h⟩⟩
theorem p__law_add (ds : List D) (Q : D → Prop) (E : Xn → Prop) (h : spAdd.run ds Q E) : wpDef n__law_add.length (c__law_add spFr) ds Q E := by
  obtain ⟨h1, h⟩ := h
  obtain ⟨a, b, c, d, rfl, h1, h2, h3, h4, h5, h6⟩ := onF2_elim h1
  simp [wpDef, c__law_add, n__law_add, start]
  exact ⟨mulOk_sm h3 h6, mulOk_sm h5 h4, mulOk_sm h4 h6, ⟨okFr_mul h1 h2 h4 h6, h⟩⟩
theorem p_minus (ds : List D) (Q : D → Prop) (E : Xn → Prop) (h : spSub.run ds Q E) : wpDef n_minus.length (c_minus spFr) ds Q E := by
  obtain ⟨h1, h⟩ := h
  obtain ⟨a, b, c, d, rfl, h1, h2, h3, h4, h5, h6⟩ := onF2_elim h1
  simp [wpDef, c_minus, n_minus, start]
  exact ⟨mulOk_sm h3 h6, mulOk_sm h5 h4, mulOk_sm h4 h6, ⟨okFr_mul h1 h2 h4 h6, h⟩⟩
theorem p__law_sub (ds : List D) (Q : D → Prop) (E : Xn → Prop) (h : spSub.run ds Q E) : wpDef n__law_sub.length (c__law_sub spFr) ds Q E := by
  obtain ⟨h1, h⟩ := h
  obtain ⟨a, b, c, d, rfl, h1, h2, h3, h4, h5, h6⟩ := onF2_elim h1
  simp [wpDef, c__law_sub, n__law_sub, start]
  exact ⟨mulOk_sm h3 h6, mulOk_sm h5 h4, mulOk_sm h4 h6, ⟨okFr_mul h1 h2 h4 h6, h⟩⟩
theorem p_times (ds : List D) (Q : D → Prop) (E : Xn → Prop) (h : spMul.run ds Q E) : wpDef n_times.length (c_times spFr) ds Q E := by
  obtain ⟨h1, h⟩ := h
  obtain ⟨a, b, c, d, rfl, h1, h2, h3, h4, h5, h6⟩ := onF2_elim h1
  simp [wpDef, c_times, n_times, start]
  exact ⟨mulOk_sm h3 h5, mulOk_sm h4 h6, ⟨okFr_mul h1 h2 h4 h6, h⟩⟩
theorem p__law_mul (ds : List D) (Q : D → Prop) (E : Xn → Prop) (h : spMul.run ds Q E) : wpDef n__law_mul.length (c__law_mul spFr) ds Q E := by
  obtain ⟨h1, h⟩ := h
  obtain ⟨a, b, c, d, rfl, h1, h2, h3, h4, h5, h6⟩ := onF2_elim h1
  simp [wpDef, c__law_mul, n__law_mul, start]
  exact ⟨mulOk_sm h3 h5, mulOk_sm h4 h6, ⟨okFr_mul h1 h2 h4 h6, h⟩⟩
theorem p_less (ds : List D) (Q : D → Prop) (E : Xn → Prop) (h : spLess.run ds Q E) : wpDef n_less.length c_less ds Q E := by
  obtain ⟨h1, h⟩ := h
  obtain ⟨a, b, c, d, rfl, h1, h2, h3, h4, h5, h6⟩ := onF2_elim h1
  simp [wpDef, c_less, n_less, start]
  exact ⟨mulOk_sm h3 h6, mulOk_sm h5 h4, h⟩
theorem p__law_less (ds : List D) (Q : D → Prop) (E : Xn → Prop) (h : spLess.run ds Q E) : wpDef n__law_less.length c__law_less ds Q E := by
  obtain ⟨h1, h⟩ := h
  obtain ⟨a, b, c, d, rfl, h1, h2, h3, h4, h5, h6⟩ := onF2_elim h1
  simp [wpDef, c__law_less, n__law_less, start]
  exact ⟨mulOk_sm h3 h6, mulOk_sm h5 h4, h⟩
theorem p_rest (ds : List D) (Q : D → Prop) (E : Xn → Prop) (h : spRest.run ds Q E) : wpDef n_rest.length c_rest ds Q E := by
  obtain ⟨h1, h⟩ := h
  obtain ⟨a, b, rfl, h1⟩ := onF1_elim h1
  simp [wpDef, c_rest, n_rest, start]
  exact ⟨h1, h⟩
theorem p__law_rest (ds : List D) (Q : D → Prop) (E : Xn → Prop) (h : spRest.run ds Q E) : wpDef n__law_rest.length c__law_rest ds Q E := by
  obtain ⟨h1, h⟩ := h
  obtain ⟨a, b, rfl, h1⟩ := onF1_elim h1
  simp [wpDef, c__law_rest, n__law_rest, start]
  exact ⟨h1, h⟩
def spIsF : Spec := .fn (onF1 fun _ b => b.natAbs < big) (mapF1 fun a b => .bl (decide (0 < b) && decide (Int.gcd a b = 1)))
theorem p__law_is_fraction (ds : List D) (Q : D → Prop) (E : Xn → Prop) (h : spIsF.run ds Q E) : wpDef n__law_is_fraction.length (c__law_is_fraction spLGcd) ds Q E := by
  obtain ⟨h1, h⟩ := h
  obtain ⟨a, b, rfl, h1'⟩ := onF1_elim h1
  simp [wpDef, c__law_is_fraction, n__law_is_fraction, start]
  refine wS_for' ?_
  simp
  split
  · rename_i hb
    refine ⟨h1', ?_⟩
    have e : decide ((a.gcd b : Int) = 1) = decide (a.gcd b = 1) := by rw [decide_eq_decide]; omega
    simp [mapI2, mapF1, hb] at h ⊢
    rw [e]
    exact h
  · rename_i hb
    simp [mapF1, hb] at h
    rw [decide_eq_false hb]
    exact h
/-! ### the drawn numbers -/
def onInts (p : List Int → Int → Prop) (ds : List D) : Prop := ∃ ns k, ds = [.lst (ns.map .int), .int k] ∧ p ns k
def isInt (d : D) : Prop := ∃ i, d = .int i
def spCell : Spec := .rel (onInts fun _ k => 0 ≤ k) fun _ d => isInt d
theorem p__law_cell (ds : List D) (Q : D → Prop) (E : Xn → Prop) (h : spCell.run ds Q E) : wpDef n__law_cell.length c__law_cell ds Q E := by
  obtain ⟨⟨ns, k, rfl, hk⟩, h⟩ := h
  simp [wpDef, c__law_cell, n__law_cell, start]
  split
  · rename_i hl
    obtain ⟨m, rfl⟩ := Int.eq_ofNat_of_zero_le hk
    have hm : m < ns.length := by omega
    rw [at_lit (z := .int ns[m]) (by rw [List.getElem?_map, List.getElem?_eq_getElem hm]; rfl)]
    simp
    exact h _ ⟨_, rfl⟩
  · exact h _ ⟨_, rfl⟩
def onI3 (p : Int → Int → Int → Prop) (ds : List D) : Prop := ∃ a b c, ds = [.int a, .int b, .int c] ∧ p a b c
def th (a : Int) : Prop := 0 ≤ a ∧ a < 1000
def spDrawn : Spec := .rel (onI3 fun a b c => th a ∧ th b ∧ th c) fun _ d => ∃ z, d = .int z ∧ -1000000 ≤ z ∧ z ≤ 1000000
theorem mulOk_lit {x y : Int} (hx : x.natAbs < 2 ^ 64) (hy : y.natAbs < 2 ^ 64) : MulOk x y :=
  mulOk_sm (Nat.lt_of_lt_of_le hx (Nat.pow_le_pow_right (by omega) (by omega))) (Nat.lt_of_lt_of_le hy (Nat.pow_le_pow_right (by omega) (by omega)))
theorem fmod_lt (a : Int) {b : Int} (h : 0 < b) : 0 ≤ a.fmod b ∧ a.fmod b < b := ⟨Int.fmod_nonneg_of_pos _ h, Int.fmod_lt_of_pos _ h⟩
theorem p__law_drawn (ds : List D) (Q : D → Prop) (E : Xn → Prop) (h : spDrawn.run ds Q E) : wpDef n__law_drawn.length c__law_drawn ds Q E := by
  obtain ⟨⟨a, b, c, rfl, ⟨a1, a2⟩, ⟨b1, b2⟩, c1, c2⟩, h⟩ := h
  simp [wpDef, c__law_drawn, n__law_drawn, start]
  refine ⟨mulOk_lit (by omega) (by omega), mulOk_lit (by omega) (by omega), ?_⟩
  obtain ⟨f1, f2⟩ := fmod_lt (a * 1000000 + b * 1000 + c) (b := 2000001) (by omega)
  exact h _ ⟨_, rfl, by omega, by omega⟩
def numsD (n : Nat) (d : D) : Prop := ∃ xs : List Int, xs.length = n ∧ (∀ x ∈ xs, th x) ∧ d = .lst (xs.map .int)
def spNums : Spec := .rel (onI2 fun _ n => 0 ≤ n ∧ n ≤ 1000) fun ds d => ∀ c n, ds = [.int c, .int n] → numsD n.toNat d
def inv_nums (n i : Nat) (ρ : DEnv) : Prop := ∃ (c : Int) (xs : List Int) (o1 o2 : Option D), ρ = [some (.int c), some (.int n), some (.lst (xs.map .int)), o1, o2] ∧ xs.length = i ∧ ∀ x ∈ xs, th x
def inv_nums2 (n i : Nat) (ρ : DEnv) : Prop := ∃ (c m : Int) (xs : List Int) (o2 : Option D), ρ = [some (.int c), some (.int n), some (.lst (xs.map .int)), some (.int m), o2] ∧ xs.length = i ∧ (∀ x ∈ xs, th x) ∧ 0 ≤ m ∧ m < 2147483647
theorem p__law_numbers (ds : List D) (Q : D → Prop) (E : Xn → Prop) (h : spNums.run ds Q E) : wpDef n__law_numbers.length c__law_numbers ds Q E := by
  obtain ⟨h1, h⟩ := h
  obtain ⟨c, n, rfl, hn⟩ := onI2_elim h1
  obtain ⟨n, rfl⟩ := Int.eq_ofNat_of_zero_le hn.1
  replace h : ∀ d, numsD n d → Q d := fun d hd => h d fun c' n' e => by cases e; exact hd
  simp [wpDef, c__law_numbers, n__law_numbers, start]
  refine ⟨by unfold PowOk; decide, ?_⟩
  split
  · refine wS_for (inv_nums n) ?_
    simp
    refine ⟨by omega, ⟨c, [], none, none, rfl, rfl, by simp⟩, ?_, ?_⟩
    · rintro i d ρ hi ⟨c', xs, o1, o2, rfl, hl, hx⟩
      obtain ⟨hi, rfl⟩ := rng_get hi
      simp
      refine ⟨by omega, by unfold DivOk; decide, ?_⟩
      refine ⟨c'.fdiv 1000, xs ++ [c'.fmod 1000], o1, some (.int i), by simp, by simp [hl], fun x hx' => ?_⟩
      rcases List.mem_append.mp hx' with z | z
      · exact hx x z
      · rw [List.mem_singleton.mp z]
        exact fmod_lt _ (by omega)
    · rintro ρ ⟨c', xs, o1, o2, rfl, hl, hx⟩
      rw [rng_len] at hl
      simp
      exact h _ ⟨xs, hl, hx, rfl⟩
  · refine wS_for (inv_nums2 n) ?_
    obtain ⟨f1, f2⟩ := fmod_lt c (b := 2147483647) (by omega)
    simp
    refine ⟨by omega, ⟨c, _, [], none, rfl, rfl, by simp, f1, f2⟩, ?_, ?_⟩
    · rintro i d ρ hi ⟨c', m, xs, o2, rfl, hl, hx, m1, m2⟩
      obtain ⟨hi, rfl⟩ := rng_get hi
      obtain ⟨g1, g2⟩ := fmod_lt (m * 48271 + 69621 * (0 + (i : Int) + 1)) (b := 2147483647) (by omega)
      simp at g1 g2
      simp
      refine ⟨mulOk_lit (by omega) (by omega), mulOk_lit (by omega) (by omega), by omega, by unfold DivOk; decide, ?_⟩
      refine ⟨c', _, xs ++ [((m * 48271 + 69621 * ((i : Int) + 1)).fmod 2147483647 |>.fdiv 7).fmod 1000], some (.int i), by simp, by simp [hl], fun x hx' => ?_, g1, g2⟩
      rcases List.mem_append.mp hx' with z | z
      · exact hx x z
      · rw [List.mem_singleton.mp z]
        exact fmod_lt _ (by omega)
    · rintro ρ ⟨c', m, xs, o2, rfl, hl, hx, m1, m2⟩
      rw [rng_len] at hl
      simp
      exact h _ ⟨xs, hl, hx, rfl⟩
/-! ### the same -/
-- data without dict or object, of bounded depth; texts of the model's length, short lists
mutual
def D.dat : Nat → D → Bool
  | 0, _ => false
  | _ + 1, .non => true
  | _ + 1, .bl _ => true
  | _ + 1, .int _ => true
  | _ + 1, .str x => PyData.strOk x
  | n + 1, .tup ds => decide (ds.length < 2 ^ 60) && D.dats n ds
  | n + 1, .lst ds => decide (ds.length < 2 ^ 60) && D.dats n ds
  | _, _ => false
def D.dats : Nat → List D → Bool
  | _, [] => true
  | n, d :: ds => D.dat n d && D.dats n ds
end
theorem dats_at : ∀ {n : Nat} {ds : List D} {i : Nat} {d : D}, D.dats n ds = true → ds[i]? = some d → D.dat n d = true
  | n, [], i, d, _, e => by simp at e
  | n, x :: ds, 0, d, h, e => by
    unfold D.dats at h
    rw [Bool.and_eq_true] at h
    simp at e
    rw [← e]; exact h.1
  | n, x :: ds, i + 1, d, h, e => by
    unfold D.dats at h
    rw [Bool.and_eq_true] at h
    exact dats_at h.2 (by simpa using e)
mutual
theorem eqv_refl : ∀ (d : D), (∃ n, D.dat n d = true) → PyData.eqv d.toP d.toP = true
  | .non, _ => by simp [D.toP, PyData.eqv]
  | .bl b, _ => by simp [D.toP, PyData.eqv]
  | .int b, _ => by simp [D.toP, PyData.eqv]
  | .str b, _ => by simp [D.toP, PyData.eqv]
  | .tup ds, ⟨n, h⟩ => by
    simp only [D.toP, PyData.eqv]
    cases n with
    | zero => simp [D.dat] at h
    | succ n => simp [D.dat] at h; exact eqvs_refl ds ⟨n, h.2⟩
  | .lst ds, ⟨n, h⟩ => by
    simp only [D.toP, PyData.eqv]
    cases n with
    | zero => simp [D.dat] at h
    | succ n => simp [D.dat] at h; exact eqvs_refl ds ⟨n, h.2⟩
  | .dict _ _, ⟨n, h⟩ => by cases n <;> simp [D.dat] at h
  | .obj _ _ _, ⟨n, h⟩ => by cases n <;> simp [D.dat] at h
theorem eqvs_refl : ∀ (ds : List D), (∃ n, D.dats n ds = true) → PyData.eqvAll (D.toPs ds) (D.toPs ds) = true
  | [], _ => by simp [D.toPs, PyData.eqvAll]
  | d :: ds, ⟨n, h⟩ => by
    simp only [D.toPs, PyData.eqvAll]
    unfold D.dats at h
    rw [Bool.and_eq_true] at h ⊢
    exact ⟨eqv_refl d ⟨n, h.1⟩, eqvs_refl ds ⟨n, h.2⟩⟩
end
def spSame : Nat → Spec
  | n => .fn (fun ds => ∃ d, ds = [d, d] ∧ D.dat n d = true) fun _ => .bl true
theorem run_same {n : Nat} {d : D} {Q : D → Prop} {E : Xn → Prop} (hd : D.dat n d = true) (h : Q (.bl true)) : (spSame n).run [d, d] Q E := ⟨⟨d, rfl, hd⟩, h⟩
def inv_same (d : D) (_ : Nat) (ρ : DEnv) : Prop := ∃ o, ρ = [some d, some d, o]
theorem p__law_same (n : Nat) (ds : List D) (Q : D → Prop) (E : Xn → Prop) (h : (spSame (n + 1)).run ds Q E) : wpDef n__law_same.length (c__law_same (spSame n)) ds Q E := by
  obtain ⟨⟨d, rfl, hd⟩, h⟩ := h
  have he := eqv_refl d ⟨_, hd⟩
  cases d with
  | dict _ _ => simp [D.dat] at hd
  | obj _ _ _ => simp [D.dat] at hd
  | non => simpa [wpDef, c__law_same, n__law_same, start] using h
  | bl b => simpa [wpDef, c__law_same, n__law_same, start] using h
  | int b => simpa [wpDef, c__law_same, n__law_same, start] using h
  | str x =>
    simp [D.dat] at hd
    simp [wpDef, c__law_same, n__law_same, start]
    simp [c_eqD, eqb, he, D.plain, hd]
    exact h
  | tup ds =>
    simp [D.dat] at hd
    simp [wpDef, c__law_same, n__law_same, start]
    refine wS_for (inv_same (.tup ds)) ?_
    simp
    refine ⟨by omega, ⟨none, rfl⟩, ?_, fun ρ _ => h⟩
    rintro i d ρ hi ⟨o, rfl⟩
    obtain ⟨hl, rfl⟩ := rng_get hi
    simp
    rw [at_lit (List.getElem?_eq_getElem hl)]
    simp
    refine run_same (dats_at hd.2 (List.getElem?_eq_getElem hl)) ?_
    simp
    exact ⟨_, rfl⟩
  | lst ds =>
    simp [D.dat] at hd
    simp [wpDef, c__law_same, n__law_same, start]
    refine wS_for (inv_same (.lst ds)) ?_
    simp
    refine ⟨by omega, ⟨none, rfl⟩, ?_, fun ρ _ => h⟩
    rintro i d ρ hi ⟨o, rfl⟩
    obtain ⟨hl, rfl⟩ := rng_get hi
    simp
    rw [at_lit (List.getElem?_eq_getElem hl)]
    simp
    refine run_same (dats_at hd.2 (List.getElem?_eq_getElem hl)) ?_
    simp
    exact ⟨_, rfl⟩
end Dl

/-! DlRat: fractions as rationals. -/
namespace Dl
open PySem
/-- a fraction in lowest terms -/
def fq (q : Rat) : D := .tup [.int q.num, .int (q.den : Int)]
theorem fq_inj {p q : Rat} (h : fq p = fq q) : p = q := by
  unfold fq at h
  simp at h
  exact Rat.ext h.1 (by omega)
theorem nf_q {n d : Int} (h : d ≠ 0) : nfn n d = (Rat.divInt n d).num ∧ nfd n d = ((Rat.divInt n d).den : Int) := by
  obtain ⟨_, _, h3, h4⟩ := nf_all (n := n) h
  have hc := nf_cross (n := n) h
  have hd : ((nfd n d).toNat : Int) = nfd n d := Int.toNat_of_nonneg (by omega)
  have e : (⟨nfn n d, (nfd n d).toNat, by omega, by
      have : (nfd n d).natAbs = (nfd n d).toNat := by omega
      unfold Nat.Coprime
      rw [← this]
      exact h4⟩ : Rat) = Rat.divInt n d := by
    rw [Rat.mk_eq_divInt, Rat.divInt_eq_divInt_iff (by omega) h, hd]
    exact hc
  rw [← e]
  exact ⟨rfl, hd.symm⟩
theorem fr_q {n d : Int} (h : d ≠ 0) : fr (nfn n d) (nfd n d) = fq (Rat.divInt n d) := by
  obtain ⟨e1, e2⟩ := nf_q (n := n) h
  unfold fq
  rw [e1, e2]
/-! ### sizes -/
def sz (q : Rat) : Nat := max q.num.natAbs.log2 q.den.log2 + 1
theorem lt_sz (q : Rat) : q.num.natAbs < 2 ^ sz q ∧ q.den < 2 ^ sz q := by
  unfold sz
  have h1 : q.num.natAbs.log2 + 1 ≤ max q.num.natAbs.log2 q.den.log2 + 1 := by omega
  have h2 : q.den.log2 + 1 ≤ max q.num.natAbs.log2 q.den.log2 + 1 := by omega
  exact ⟨Nat.lt_of_lt_of_le Nat.lt_log2_self (Nat.pow_le_pow_right (by omega) h1), Nat.lt_of_lt_of_le Nat.lt_log2_self (Nat.pow_le_pow_right (by omega) h2)⟩
theorem sz_of {q : Rat} {k : Nat} (h1 : q.num.natAbs < 2 ^ k) (h2 : q.den < 2 ^ k) (hk : 0 < k) : sz q ≤ k := by
  unfold sz
  have a := log2_of h1 hk
  have b := log2_of h2 hk
  omega
theorem mk_le (n : Int) (d : Nat) : (mkRat n d).num.natAbs ≤ n.natAbs ∧ (mkRat n d).den ≤ max d 1 := by
  rw [Rat.num_mkRat, Rat.den_mkRat]
  constructor
  · split
    · simp
    · rename_i h
      rw [Int.natAbs_ediv_of_dvd]
      · exact Nat.div_le_self ..
      · exact Int.ofNat_dvd_left.mpr (Nat.gcd_dvd_right ..)
  · split
    · omega
    · exact Nat.le_trans (Nat.div_le_self ..) (by omega)
theorem sz_mk {n : Int} {d k : Nat} (h1 : n.natAbs < 2 ^ k) (h2 : d < 2 ^ k) (hk : 0 < k) : sz (mkRat n d) ≤ k := by
  obtain ⟨a, b⟩ := mk_le n d
  refine sz_of (by omega) ?_ hk
  have : 1 < 2 ^ k := Nat.one_lt_two_pow (by omega)
  omega
theorem mul_lt2 {a b x y : Nat} (h1 : a < 2 ^ x) (h2 : b < 2 ^ y) : a * b < 2 ^ (x + y) := by
  rw [Nat.pow_add]
  have h3 : 0 < 2 ^ y := Nat.pow_pos (by omega)
  exact Nat.lt_of_le_of_lt (Nat.mul_le_mul_left _ (Nat.le_of_lt h2)) (Nat.mul_lt_mul_of_pos_right h1 h3)
theorem sz_pos (q : Rat) : 0 < sz q := by unfold sz; omega
theorem sz_mul (a b : Rat) : sz (a * b) ≤ sz a + sz b := by
  rw [Rat.mul_def']
  obtain ⟨a1, a2⟩ := lt_sz a
  obtain ⟨b1, b2⟩ := lt_sz b
  exact sz_mk (by rw [Int.natAbs_mul]; exact mul_lt2 a1 b1) (mul_lt2 a2 b2) (by have := sz_pos a; omega)
theorem cross_lt (a b : Rat) : (a.num * (b.den : Int)).natAbs < 2 ^ (sz a + sz b) := by
  rw [Int.natAbs_mul]
  exact mul_lt2 (lt_sz a).1 (lt_sz b).2
theorem sz_add (a b : Rat) : sz (a + b) ≤ sz a + sz b + 1 := by
  rw [Rat.add_def']
  have h1 := cross_lt a b
  have h2 := cross_lt b a
  rw [Nat.add_comm (sz b)] at h2
  have h3 := Int.natAbs_add_le (a.num * (b.den : Int)) (b.num * (a.den : Int))
  have h4 := mul_lt2 (lt_sz a).2 (lt_sz b).2
  refine sz_mk ?_ ?_ (by omega)
  · rw [Nat.pow_succ]; omega
  · rw [Nat.pow_succ]; omega
theorem sz_neg (a : Rat) : sz (-a) = sz a := by unfold sz; simp
theorem sz_sub (a b : Rat) : sz (a - b) ≤ sz a + sz b + 1 := by
  rw [Rat.sub_eq_add_neg]
  have := sz_add a (-b)
  rw [sz_neg] at this
  exact this
theorem sz_divInt {n d : Int} {k : Nat} (h1 : n.natAbs < 2 ^ k) (h2 : d.natAbs < 2 ^ k) (hk : 0 < k) : sz (Rat.divInt n d) ≤ k := by
  by_cases h : d = 0
  · subst h
    rw [Rat.divInt_zero]
    refine Nat.le_trans ?_ hk
    decide
  · obtain ⟨e1, e2⟩ := nf_q (n := n) h
    obtain ⟨l1, l2⟩ := nf_le (n := n) h
    refine sz_of (by rw [← e1]; omega) ?_ hk
    have : ((Rat.divInt n d).den : Int).natAbs < 2 ^ k := by rw [← e2]; omega
    simpa using this
theorem sz_int {n : Int} {k : Nat} (h1 : n.natAbs < 2 ^ k) (hk : 0 < k) : sz (n : Rat) ≤ k := by
  refine sz_of (by simpa using h1) ?_ hk
  show 1 < 2 ^ k
  exact Nat.one_lt_two_pow (by omega)
theorem lt_sm_sz {q : Rat} (h : sz q ≤ 1800) : q.num.natAbs < sm ∧ (q.den : Int).natAbs < sm := by
  obtain ⟨a, b⟩ := lt_sz q
  have : (2 : Nat) ^ sz q ≤ sm := Nat.pow_le_pow_right (by omega) (by omega)
  exact ⟨by omega, by simp; omega⟩
/-! ### the defs on rationals -/
def onQ2 (p : Rat → Rat → Prop) (ds : List D) : Prop := ∃ a b, ds = [fq a, fq b] ∧ p a b
def szk (k : Nat) (a b : Rat) : Prop := sz a ≤ k ∧ sz b ≤ k
theorem ok4_q {a b : Rat} (h : szk 1800 a b) : ok4 a.num a.den b.num b.den := by
  obtain ⟨a1, a2⟩ := lt_sm_sz h.1
  obtain ⟨b1, b2⟩ := lt_sm_sz h.2
  exact ⟨by have := a.den_nz; omega, by have := b.den_nz; omega, a1, a2, b1, b2⟩
theorem den_mul_ne (a b : Rat) : (a.den : Int) * (b.den : Int) ≠ 0 := Int.mul_ne_zero (by have := a.den_nz; omega) (by have := b.den_nz; omega)
theorem addF_q (a b : Rat) : addF a.num a.den b.num b.den = fq (a + b) := by
  unfold addF
  rw [fr_q (den_mul_ne a b), Rat.add_def']
  congr 1
theorem subF_q (a b : Rat) : subFr a.num a.den b.num b.den = fq (a - b) := by
  unfold subFr
  rw [fr_q (den_mul_ne a b), Rat.sub_def']
  congr 1
theorem mulF_q (a b : Rat) : mulF a.num a.den b.num b.den = fq (a * b) := by
  unfold mulF
  rw [fr_q (den_mul_ne a b), Rat.mul_def']
  congr 1
def qop (f : Rat → Rat → D) : Spec := ⟨fun ds Q _ => ∃ a b, ds = [fq a, fq b] ∧ szk 1800 a b ∧ Q (f a b), fun _ _ _ _ _ ⟨a, b, e, h, q⟩ hq _ => ⟨a, b, e, h, hq _ q⟩⟩
theorem run_qop {f : Rat → Rat → D} {a b : Rat} {Q : D → Prop} {E : Xn → Prop} : (qop f).run [fq a, fq b] Q E = (szk 1800 a b ∧ Q (f a b)) := by
  apply propext
  constructor
  · rintro ⟨a', b', e, h, q⟩
    simp at e
    obtain ⟨e1, e2⟩ := e
    cases fq_inj e1
    cases fq_inj e2
    exact ⟨h, q⟩
  · rintro ⟨h, q⟩
    exact ⟨a, b, rfl, h, q⟩
def spAddQ : Spec := qop fun a b => fq (a + b)
def spSubQ : Spec := qop fun a b => fq (a - b)
def spMulQ : Spec := qop fun a b => fq (a * b)
def spLessQ : Spec := qop fun a b => .bl (decide (a < b))
@[simp] theorem run_addQ {a b : Rat} {Q : D → Prop} {E : Xn → Prop} : spAddQ.run [fq a, fq b] Q E = (szk 1800 a b ∧ Q (fq (a + b))) := run_qop
@[simp] theorem run_subQ {a b : Rat} {Q : D → Prop} {E : Xn → Prop} : spSubQ.run [fq a, fq b] Q E = (szk 1800 a b ∧ Q (fq (a - b))) := run_qop
@[simp] theorem run_mulQ {a b : Rat} {Q : D → Prop} {E : Xn → Prop} : spMulQ.run [fq a, fq b] Q E = (szk 1800 a b ∧ Q (fq (a * b))) := run_qop
@[simp] theorem run_lessQ {a b : Rat} {Q : D → Prop} {E : Xn → Prop} : spLessQ.run [fq a, fq b] Q E = (szk 1800 a b ∧ Q (.bl (decide (a < b)))) := run_qop
theorem addQ_imp {ds : List D} {Q : D → Prop} {E : Xn → Prop} (h : spAddQ.run ds Q E) : spAdd.run ds Q E := by
  obtain ⟨a, b, rfl, h, q⟩ := h
  exact ⟨ok4_q h, by show Q (addF a.num a.den b.num b.den); rw [addF_q]; exact q⟩
theorem subQ_imp {ds : List D} {Q : D → Prop} {E : Xn → Prop} (h : spSubQ.run ds Q E) : spSub.run ds Q E := by
  obtain ⟨a, b, rfl, h, q⟩ := h
  exact ⟨ok4_q h, by show Q (subFr a.num a.den b.num b.den); rw [subF_q]; exact q⟩
theorem mulQ_imp {ds : List D} {Q : D → Prop} {E : Xn → Prop} (h : spMulQ.run ds Q E) : spMul.run ds Q E := by
  obtain ⟨a, b, rfl, h, q⟩ := h
  exact ⟨ok4_q h, by show Q (mulF a.num a.den b.num b.den); rw [mulF_q]; exact q⟩
theorem lessQ_imp {ds : List D} {Q : D → Prop} {E : Xn → Prop} (h : spLessQ.run ds Q E) : spLess.run ds Q E := by
  obtain ⟨a, b, rfl, h, q⟩ := h
  refine ⟨ok4_q h, ?_⟩
  show Q (.bl (decide (a.num * (b.den : Int) < b.num * (a.den : Int))))
  have e : decide (a < b) = decide (a.num * (b.den : Int) < b.num * (a.den : Int)) := by rw [decide_eq_decide]; exact Rat.lt_iff a b
  rw [← e]
  exact q
theorem p_plusQ (ds : List D) (Q : D → Prop) (E : Xn → Prop) (h : spAddQ.run ds Q E) : wpDef n_plus.length (c_plus spFr) ds Q E := p_plus _ _ _ (addQ_imp h)
theorem p_minusQ (ds : List D) (Q : D → Prop) (E : Xn → Prop) (h : spSubQ.run ds Q E) : wpDef n_minus.length (c_minus spFr) ds Q E := p_minus _ _ _ (subQ_imp h)
theorem p_timesQ (ds : List D) (Q : D → Prop) (E : Xn → Prop) (h : spMulQ.run ds Q E) : wpDef n_times.length (c_times spFr) ds Q E := p_times _ _ _ (mulQ_imp h)
theorem p_lessQ (ds : List D) (Q : D → Prop) (E : Xn → Prop) (h : spLessQ.run ds Q E) : wpDef n_less.length c_less ds Q E := p_less _ _ _ (lessQ_imp h)
theorem p__law_addQ (ds : List D) (Q : D → Prop) (E : Xn → Prop) (h : spAddQ.run ds Q E) : wpDef n__law_add.length (c__law_add spFr) ds Q E := p__law_add _ _ _ (addQ_imp h)
theorem p__law_subQ (ds : List D) (Q : D → Prop) (E : Xn → Prop) (h : spSubQ.run ds Q E) : wpDef n__law_sub.length (c__law_sub spFr) ds Q E := p__law_sub _ _ _ (subQ_imp h)
theorem p__law_mulQ (ds : List D) (Q : D → Prop) (E : Xn → Prop) (h : spMulQ.run ds Q E) : wpDef n__law_mul.length (c__law_mul spFr) ds Q E := p__law_mul _ _ _ (mulQ_imp h)
theorem p__law_lessQ (ds : List D) (Q : D → Prop) (E : Xn → Prop) (h : spLessQ.run ds Q E) : wpDef n__law_less.length c__law_less ds Q E := p__law_less _ _ _ (lessQ_imp h)
/-- n, d: any ints (d not 0) -/
@[simp] theorem run_frQ {n d : Int} {Q : D → Prop} {E : Xn → Prop} : spFr.run [.int n, .int d] Q E = (okFr n d ∧ Q (fq (Rat.divInt n d))) := by
  show (okFr n d ∧ Q (fr (nfn n d) (nfd n d))) = _
  apply propext
  constructor
  · rintro ⟨h, q⟩; exact ⟨h, by rw [← fr_q h.1]; exact q⟩
  · rintro ⟨h, q⟩; exact ⟨h, by rw [fr_q h.1]; exact q⟩
/-! ### fq as data -/
section
variable {q : Rat} {Q : D → Prop}
@[simp] theorem ix_fq0 : ixD (fq q) (.int 0) Q = Q (.int q.num) := by unfold fq; simp
@[simp] theorem ix_fq1 : ixD (fq q) (.int 1) Q = Q (.int q.den) := by unfold fq; simp
@[simp] theorem cont_fq : D.cont (fq q) = false := rfl
@[simp] theorem imm_fq : D.imm (fq q) = true := by unfold fq; simp
@[simp] theorem isNon_fq : D.isNon (fq q) = false := rfl
theorem dat_fq (n : Nat) : D.dat (n + 2) (fq q) = true := by unfold fq; exact dat_fr' n _ _
  where dat_fr' (n : Nat) (a b : Int) : D.dat (n + 2) (.tup [.int a, .int b]) = true := by simp [D.dat, D.dats]
@[simp] theorem fold_int {n : Int} : D.tup [.int n, .int 1] = fq (n : Rat) := rfl
@[simp] theorem fold_neg : D.tup [.int (0 - q.num), .int (q.den : Int)] = fq (-q) := by unfold fq; simp
@[simp] theorem fold_neg' : D.tup [.int (-q.num), .int (q.den : Int)] = fq (-q) := by unfold fq; simp
@[simp] theorem fold_self : D.tup [.int q.num, .int (q.den : Int)] = fq q := rfl
end
end Dl

/-! DlCell: cells, points, scalar products. -/
namespace Dl
open PySem
def cellD (a b c : Rat) : D := .tup [fq a, fq b, fq c]
def ptD (x y : Rat) : D := .tup [fq x, fq y]
theorem cellD_inj {a b c a' b' c' : Rat} (h : cellD a b c = cellD a' b' c') : a = a' ∧ b = b' ∧ c = c' := by
  unfold cellD at h
  simp at h
  exact ⟨fq_inj h.1, fq_inj h.2.1, fq_inj h.2.2⟩
def sc (a b c x y z w : Rat) : Rat := a * (x * z) + (b * (x * w + y * z) + c * (y * w))
section
variable {a b c x y : Rat} {Q : D → Prop}
@[simp] theorem ix_c0 : ixD (cellD a b c) (.int 0) Q = Q (fq a) := by unfold cellD; simp
@[simp] theorem ix_c1 : ixD (cellD a b c) (.int 1) Q = Q (fq b) := by unfold cellD; simp
@[simp] theorem ix_c2 : ixD (cellD a b c) (.int 2) Q = Q (fq c) := by unfold cellD; simp
@[simp] theorem ix_p0 : ixD (ptD x y) (.int 0) Q = Q (fq x) := by unfold ptD; simp
@[simp] theorem ix_p1 : ixD (ptD x y) (.int 1) Q = Q (fq y) := by unfold ptD; simp
@[simp] theorem fold_pt : D.tup [fq x, fq y] = ptD x y := rfl
@[simp] theorem fold_cell : D.tup [fq a, fq b, fq c] = cellD a b c := rfl
@[simp] theorem cont_cell : D.cont (cellD a b c) = false := rfl
@[simp] theorem cont_pt : D.cont (ptD x y) = false := rfl
@[simp] theorem imm_cell : D.imm (cellD a b c) = true := by unfold cellD; simp [-fold_cell]
@[simp] theorem imm_pt : D.imm (ptD x y) = true := by unfold ptD; simp [-fold_pt]
@[simp] theorem items_cell : items (cellD a b c) = some [fq a, fq b, fq c] := rfl
@[simp] theorem asgT_cell {ts : List CT} {ρ : DEnv} : asgT (.tp ts) (cellD a b c) ρ = asgTs ts [fq a, fq b, fq c] ρ := by unfold cellD; simp [-fold_cell]
@[simp] theorem asgT_pt {ts : List CT} {ρ : DEnv} : asgT (.tp ts) (ptD x y) ρ = asgTs ts [fq x, fq y] ρ := by unfold ptD; simp [-fold_pt]
end
theorem sz_sc {a b c x y z w : Rat} {k l : Nat} (ha : sz a ≤ k) (hb : sz b ≤ k) (hc : sz c ≤ k) (hx : sz x ≤ l) (hy : sz y ≤ l) (hz : sz z ≤ l) (hw : sz w ≤ l) :
    sz (x * z) ≤ 2 * l ∧ sz (y * w) ≤ 2 * l ∧ sz (x * w) ≤ 2 * l ∧ sz (y * z) ≤ 2 * l ∧ sz (x * w + y * z) ≤ 4 * l + 1 ∧ sz (a * (x * z)) ≤ k + 2 * l ∧ sz (b * (x * w + y * z)) ≤ k + 4 * l + 1 ∧ sz (c * (y * w)) ≤ k + 2 * l ∧
    sz (b * (x * w + y * z) + c * (y * w)) ≤ 2 * k + 6 * l + 2 ∧ sz (sc a b c x y z w) ≤ 3 * k + 8 * l + 3 := by
  have h1 := sz_mul x z
  have h2 := sz_mul y w
  have h3 := sz_mul x w
  have h4 := sz_mul y z
  have h5 := sz_add (x * w) (y * z)
  have h6 := sz_mul a (x * z)
  have h7 := sz_mul b (x * w + y * z)
  have h8 := sz_mul c (y * w)
  have h9 := sz_add (b * (x * w + y * z)) (c * (y * w))
  have h10 := sz_add (a * (x * z)) (b * (x * w + y * z) + c * (y * w))
  unfold sc
  omega
def onSc (p : Rat → Rat → Rat → Rat → Rat → Rat → Rat → Prop) (ds : List D) : Prop := ∃ a b c x y z w, ds = [cellD a b c, ptD x y, ptD z w] ∧ p a b c x y z w
def szSc (a b c x y z w : Rat) : Prop := sz a ≤ 170 ∧ sz b ≤ 170 ∧ sz c ≤ 170 ∧ sz x ≤ 170 ∧ sz y ≤ 170 ∧ sz z ≤ 170 ∧ sz w ≤ 170
theorem ptD_inj {x y x' y' : Rat} (h : ptD x y = ptD x' y') : x = x' ∧ y = y' := by
  unfold ptD at h
  simp [-fold_pt] at h
  exact ⟨fq_inj h.1, fq_inj h.2⟩
def spScalar : Spec := ⟨fun ds Q _ => ∃ a b c x y z w, ds = [cellD a b c, ptD x y, ptD z w] ∧ szSc a b c x y z w ∧ Q (fq (sc a b c x y z w)), fun _ _ _ _ _ ⟨a, b, c, x, y, z, w, e, h, q⟩ hq _ => ⟨a, b, c, x, y, z, w, e, h, hq _ q⟩⟩
@[simp] theorem run_scalar {a b c x y z w : Rat} {Q : D → Prop} {E : Xn → Prop} : spScalar.run [cellD a b c, ptD x y, ptD z w] Q E = (szSc a b c x y z w ∧ Q (fq (sc a b c x y z w))) := by
  apply propext
  constructor
  · rintro ⟨a', b', c', x', y', z', w', e, h, q⟩
    simp at e
    obtain ⟨e1, e2, e3⟩ := e
    obtain ⟨rfl, rfl, rfl⟩ := cellD_inj e1
    obtain ⟨rfl, rfl⟩ := ptD_inj e2
    obtain ⟨rfl, rfl⟩ := ptD_inj e3
    exact ⟨h, q⟩
  · rintro ⟨h, q⟩
    exact ⟨a, b, c, x, y, z, w, rfl, h, q⟩
theorem p_scalar (ds : List D) (Q : D → Prop) (E : Xn → Prop) (h : spScalar.run ds Q E) : wpDef n_scalar.length (c_scalar spAddQ spMulQ) ds Q E := by
  obtain ⟨a, b, c, x, y, z, w, rfl, ⟨h1, h2, h3, h4, h5, h6, h7⟩, q⟩ := h
  obtain ⟨s1, s2, s3, s4, s5, s6, s7, s8, s9, s10⟩ := sz_sc h1 h2 h3 h4 h5 h6 h7
  simp [wpDef, c_scalar, n_scalar, start, szk]
  exact ⟨⟨by omega, by omega⟩, ⟨by omega, by omega⟩, ⟨by omega, by omega⟩, ⟨by omega, by omega⟩, ⟨by omega, by omega⟩, ⟨by omega, by omega⟩, ⟨by omega, by omega⟩, ⟨by omega, by omega⟩, ⟨by omega, by omega⟩, ⟨by omega, by omega⟩, q⟩
theorem p__law_scalar (ds : List D) (Q : D → Prop) (E : Xn → Prop) (h : spScalar.run ds Q E) : wpDef n__law_scalar.length (c__law_scalar spMulQ spAddQ) ds Q E := by
  obtain ⟨a, b, c, x, y, z, w, rfl, ⟨h1, h2, h3, h4, h5, h6, h7⟩, q⟩ := h
  obtain ⟨s1, s2, s3, s4, s5, s6, s7, s8, s9, s10⟩ := sz_sc h1 h2 h3 h4 h5 h6 h7
  simp [wpDef, c__law_scalar, n__law_scalar, start, szk]
  exact ⟨⟨by omega, by omega⟩, ⟨by omega, by omega⟩, ⟨by omega, by omega⟩, ⟨by omega, by omega⟩, ⟨by omega, by omega⟩, ⟨by omega, by omega⟩, ⟨by omega, by omega⟩, ⟨by omega, by omega⟩, ⟨by omega, by omega⟩, ⟨by omega, by omega⟩, q⟩
def spSquare : Spec := ⟨fun ds Q _ => ∃ a b c x y, ds = [cellD a b c, fq x, fq y] ∧ szSc a b c x y x y ∧ Q (fq (sc a b c x y x y)), fun _ _ _ _ _ ⟨a, b, c, x, y, e, h, q⟩ hq _ => ⟨a, b, c, x, y, e, h, hq _ q⟩⟩
theorem p_square (ds : List D) (Q : D → Prop) (E : Xn → Prop) (h : spSquare.run ds Q E) : wpDef n_square.length (c_square spScalar) ds Q E := by
  obtain ⟨a, b, c, x, y, rfl, h, q⟩ := h
  simp [wpDef, c_square, n_square, start]
  exact ⟨h, q⟩
def spCellOf : Spec := ⟨fun ds Q _ => ∃ a b c x y z w, ds = [cellD a b c, ptD x y, ptD z w] ∧ szSc a b c x y z w ∧ Q (cellD (sc a b c x y x y) (sc a b c x y z w) (sc a b c z w z w)), fun _ _ _ _ _ ⟨a, b, c, x, y, z, w, e, h, q⟩ hq _ => ⟨a, b, c, x, y, z, w, e, h, hq _ q⟩⟩
theorem p__law_cell_of (ds : List D) (Q : D → Prop) (E : Xn → Prop) (h : spCellOf.run ds Q E) : wpDef n__law_cell_of.length (c__law_cell_of spScalar) ds Q E := by
  obtain ⟨a, b, c, x, y, z, w, rfl, h, q⟩ := h
  obtain ⟨h1, h2, h3, h4, h5, h6, h7⟩ := h
  simp [wpDef, c__law_cell_of, n__law_cell_of, start]
  exact ⟨⟨h1, h2, h3, h4, h5, h4, h5⟩, ⟨h1, h2, h3, h4, h5, h6, h7⟩, ⟨h1, h2, h3, h6, h7, h6, h7⟩, q⟩
def spVector : Spec := .fn (onI2 fun _ _ => True) (mapI2 fun x y => ptD (x : Rat) (y : Rat))
theorem p__law_vector (ds : List D) (Q : D → Prop) (E : Xn → Prop) (h : spVector.run ds Q E) : wpDef n__law_vector.length c__law_vector ds Q E := by
  obtain ⟨h1, q⟩ := h
  obtain ⟨x, y, rfl, _⟩ := onI2_elim h1
  simp [wpDef, c__law_vector, n__law_vector, start]
  exact q
@[simp] theorem run_vector {x y : Int} {Q : D → Prop} {E : Xn → Prop} : spVector.run [.int x, .int y] Q E = Q (ptD (x : Rat) (y : Rat)) := by
  show (onI2 (fun _ _ => True) [D.int x, D.int y] ∧ Q (ptD (x : Rat) (y : Rat))) = _
  simp [onI2]
abbrev mat (a b c d : Int) : D := .tup [.int a, .int b, .int c, .int d]
def spOther : Spec := ⟨fun ds Q _ => ∃ (a b c : Rat) (m0 m1 m2 m3 : Int), ds = [cellD a b c, mat m0 m1 m2 m3] ∧ szSc a b c m0 m2 m1 m3 ∧ Q (cellD (sc a b c m0 m2 m0 m2) (sc a b c m0 m2 m1 m3) (sc a b c m1 m3 m1 m3)), fun _ _ _ _ _ ⟨a, b, c, x, y, z, w, e, h, q⟩ hq _ => ⟨a, b, c, x, y, z, w, e, h, hq _ q⟩⟩
theorem p__law_other_cell (ds : List D) (Q : D → Prop) (E : Xn → Prop) (h : spOther.run ds Q E) : wpDef n__law_other_cell.length (c__law_other_cell spCellOf spVector) ds Q E := by
  obtain ⟨a, b, c, m0, m1, m2, m3, rfl, h, q⟩ := h
  simp [wpDef, c__law_other_cell, n__law_other_cell, start]
  exact ⟨_, _, _, _, _, _, _, rfl, h, q⟩
/-! ### drawn -/
def onNums (n : Nat) (ds : List D) : Prop := ∃ xs : List Int, ds = [.lst (xs.map .int)] ∧ n ≤ xs.length ∧ ∀ x ∈ xs, th x
theorem th_nth {xs : List Int} (h : ∀ x ∈ xs, th x) (k : Nat) : th (nth xs k) := by
  unfold nth
  cases e : xs[k]? with
  | none => exact ⟨by decide, by decide⟩
  | some x => exact h x (List.mem_of_getElem? e)
def spAxes : Spec := .rel (onNums 3) fun _ d => ∃ a b c e : Int, d = mat a b c e ∧ a.natAbs ≤ 5 ∧ b.natAbs ≤ 2 ∧ c.natAbs ≤ 2 ∧ e.natAbs ≤ 1 ∧ (a * e - b * c = 1 ∨ a * e - b * c = -1)
theorem sq_le {k j : Int} (hk : k.natAbs ≤ 2) (hj : j.natAbs ≤ 2) : (k * j).natAbs ≤ 4 := by
  rw [Int.natAbs_mul]
  exact Nat.mul_le_mul hk hj
theorem p__law_axes (ds : List D) (Q : D → Prop) (E : Xn → Prop) (h : spAxes.run ds Q E) : wpDef n__law_axes.length c__law_axes ds Q E := by
  obtain ⟨⟨xs, rfl, hl, hx⟩, h⟩ := h
  obtain ⟨a1, a2⟩ := fmod_lt (nth xs 0) (b := 5) (by omega)
  obtain ⟨b1, b2⟩ := fmod_lt (nth xs 1) (b := 5) (by omega)
  simp [wpDef, c__law_axes, n__law_axes, start, ixN hl, -ix_L]
  have hq := sq_le (k := (nth xs 0).fmod 5 - 2) (j := (nth xs 1).fmod 5 - 2) (by omega) (by omega)
  have mo : MulOk ((nth xs 0).fmod 5 - 2) ((nth xs 1).fmod 5 - 2) := mulOk_lit (by omega) (by omega)
  split
  · refine ⟨mo, h _ ⟨_, _, _, _, rfl, by omega, by omega, by omega, by omega, .inr ?_⟩⟩
    generalize (nth xs 0).fmod 5 - 2 = k
    generalize (nth xs 1).fmod 5 - 2 = j
    rw [Int.neg_mul]
    omega
  · refine ⟨mo, h _ ⟨_, _, _, _, rfl, by omega, by omega, by omega, by omega, .inl ?_⟩⟩
    generalize (nth xs 0).fmod 5 - 2 = k
    generalize (nth xs 1).fmod 5 - 2 = j
    omega
def spPoint : Spec := .rel (onNums 4) fun _ d => ∃ x y, d = ptD x y ∧ sz x ≤ 8 ∧ sz y ≤ 8
theorem p__law_point (ds : List D) (Q : D → Prop) (E : Xn → Prop) (h : spPoint.run ds Q E) : wpDef n__law_point.length (c__law_point spFr) ds Q E := by
  obtain ⟨⟨xs, rfl, hl, hx⟩, h⟩ := h
  obtain ⟨a1, a2⟩ := fmod_lt (nth xs 0) (b := 97) (by omega)
  obtain ⟨b1, b2⟩ := fmod_lt (nth xs 1) (b := 12) (by omega)
  obtain ⟨c1, c2⟩ := fmod_lt (nth xs 2) (b := 97) (by omega)
  obtain ⟨d1, d2⟩ := fmod_lt (nth xs 3) (b := 12) (by omega)
  simp [wpDef, c__law_point, n__law_point, start, ixN hl, -ix_L]
  refine ⟨⟨by omega, lt_big (k := 20) (by omega) (by omega)⟩, ⟨by omega, lt_big (k := 20) (by omega) (by omega)⟩, h _ ⟨_, _, rfl, sz_divInt (by omega) (by omega) (by omega), sz_divInt (by omega) (by omega) (by omega)⟩⟩
  where lt_big {x k : Nat} (h : x < 2 ^ k) (hk : k ≤ 4000) : x < big := Nat.lt_of_lt_of_le h (Nat.pow_le_pow_right (by omega) hk)
end Dl

/-! DlMov: movements: a matrix of ints, a shift. -/
namespace Dl
open PySem
/-- a tuple or a list that begins with a matrix -/
abbrev m4 (a b c d : Int) (r : List D) : D := .tup (.int a :: .int b :: .int c :: .int d :: r)
abbrev mov (a b c d : Int) (x y : Rat) : D := m4 a b c d [fq x, fq y]
def iok (k : Nat) (a b c d : Int) : Prop := a.natAbs < 2 ^ k ∧ b.natAbs < 2 ^ k ∧ c.natAbs < 2 ^ k ∧ d.natAbs < 2 ^ k
theorem cut4 {x0 x1 x2 x3 : D} {r : List D} : cutD (x0 :: x1 :: x2 :: x3 :: r) none (some 4) = [x0, x1, x2, x3] := by
  unfold cutD sIxD
  simp only [List.length_cons]
  have e : ((if (4 : Int) < 0 then max (4 + ((r.length + 1 + 1 + 1 + 1 : Nat) : Int)) 0 else min 4 ((r.length + 1 + 1 + 1 + 1 : Nat) : Int))).toNat = 4 := by
    rw [if_neg (by omega)]; omega
  rw [e]
  rfl
theorem mulOk_k {a b : Int} {k : Nat} (ha : a.natAbs < 2 ^ k) (hb : b.natAbs < 2 ^ k) (hk : k ≤ 1900) : MulOk a b :=
  mulOk_sm (Nat.lt_of_lt_of_le ha (Nat.pow_le_pow_right (by omega) hk)) (Nat.lt_of_lt_of_le hb (Nat.pow_le_pow_right (by omega) hk))
theorem mul_k {a b : Int} {k l : Nat} (ha : a.natAbs < 2 ^ k) (hb : b.natAbs < 2 ^ l) : (a * b).natAbs < 2 ^ (k + l) := by
  rw [Int.natAbs_mul]
  exact mul_lt2 ha hb
theorem add_k {a b : Int} {k : Nat} (ha : a.natAbs < 2 ^ k) (hb : b.natAbs < 2 ^ k) : (a + b).natAbs < 2 ^ (k + 1) := by
  rw [Nat.pow_succ]; omega
theorem sub_k {a b : Int} {k : Nat} (ha : a.natAbs < 2 ^ k) (hb : b.natAbs < 2 ^ k) : (a - b).natAbs < 2 ^ (k + 1) := by
  rw [Nat.pow_succ]; omega
theorem up_k {a : Int} {k l : Nat} (ha : a.natAbs < 2 ^ k) (h : k ≤ l) : a.natAbs < 2 ^ l := Nat.lt_of_lt_of_le ha (Nat.pow_le_pow_right (by omega) h)
@[simp] theorem b_addP {xs : List D} {x y : Rat} {Q : D → Prop} : binD .add (.tup xs) (ptD x y) Q = (xs.length + 2 ≤ szl ∧ Q (.tup (xs ++ [fq x, fq y]))) := rfl
/-! ### specs -/
def spDet : Spec := ⟨fun ds Q _ => ∃ a b c d r, ds = [m4 a b c d r] ∧ iok 400 a b c d ∧ Q (.int (a * d - b * c)), fun _ _ _ _ _ ⟨a, b, c, d, r, e, h, q⟩ hq _ => ⟨a, b, c, d, r, e, h, hq _ q⟩⟩
theorem p_determinant (ds : List D) (Q : D → Prop) (E : Xn → Prop) (h : spDet.run ds Q E) : wpDef n_determinant.length c_determinant ds Q E := by
  obtain ⟨a, b, c, d, r, rfl, ⟨h1, h2, h3, h4⟩, q⟩ := h
  simp [wpDef, c_determinant, n_determinant, start]
  exact ⟨mulOk_k h1 h4 (by omega), mulOk_k h2 h3 (by omega), q⟩
theorem p__law_det (ds : List D) (Q : D → Prop) (E : Xn → Prop) (h : spDet.run ds Q E) : wpDef n__law_det.length c__law_det ds Q E := by
  obtain ⟨a, b, c, d, r, rfl, ⟨h1, h2, h3, h4⟩, q⟩ := h
  simp [wpDef, c__law_det, n__law_det, start]
  exact ⟨mulOk_k h1 h4 (by omega), mulOk_k h2 h3 (by omega), q⟩
def spProd : Spec := ⟨fun ds Q _ => ∃ a b c d r e f g h s, ds = [m4 a b c d r, m4 e f g h s] ∧ iok 400 a b c d ∧ iok 400 e f g h ∧ Q (mat (e * a + f * c) (e * b + f * d) (g * a + h * c) (g * b + h * d)),
  fun _ _ _ _ _ ⟨a, b, c, d, r, e, f, g, h, s, e1, h1, h2, q⟩ hq _ => ⟨a, b, c, d, r, e, f, g, h, s, e1, h1, h2, hq _ q⟩⟩
theorem p_product (ds : List D) (Q : D → Prop) (E : Xn → Prop) (h : spProd.run ds Q E) : wpDef n_product.length c_product ds Q E := by
  obtain ⟨a, b, c, d, r, e, f, g, h, s, rfl, ⟨h1, h2, h3, h4⟩, ⟨g1, g2, g3, g4⟩, q⟩ := h
  simp [wpDef, c_product, n_product, start, cut4]
  exact ⟨mulOk_k g1 h1 (by omega), mulOk_k g2 h3 (by omega), mulOk_k g1 h2 (by omega), mulOk_k g2 h4 (by omega), mulOk_k g3 h1 (by omega), mulOk_k g4 h3 (by omega), mulOk_k g3 h2 (by omega), mulOk_k g4 h4 (by omega), q⟩
theorem p__law_product (ds : List D) (Q : D → Prop) (E : Xn → Prop) (h : spProd.run ds Q E) : wpDef n__law_product.length c__law_product ds Q E := by
  obtain ⟨a, b, c, d, r, e, f, g, h, s, rfl, ⟨h1, h2, h3, h4⟩, ⟨g1, g2, g3, g4⟩, q⟩ := h
  simp [wpDef, c__law_product, n__law_product, start]
  exact ⟨mulOk_k g1 h1 (by omega), mulOk_k g2 h3 (by omega), mulOk_k g1 h2 (by omega), mulOk_k g2 h4 (by omega), mulOk_k g3 h1 (by omega), mulOk_k g4 h3 (by omega), mulOk_k g3 h2 (by omega), mulOk_k g4 h4 (by omega), q⟩
def spRev : Spec := ⟨fun ds Q _ => ∃ a b c d r, ds = [m4 a b c d r] ∧ iok 400 a b c d ∧ Q (mat ((a * d - b * c) * d) (-((a * d - b * c) * b)) (-((a * d - b * c) * c)) ((a * d - b * c) * a)), fun _ _ _ _ _ ⟨a, b, c, d, r, e, h, q⟩ hq _ => ⟨a, b, c, d, r, e, h, hq _ q⟩⟩
theorem det_k {a b c d : Int} {k : Nat} (h : iok k a b c d) : (a * d - b * c).natAbs < 2 ^ (k + k + 1) := sub_k (mul_k h.1 h.2.2.2) (mul_k h.2.1 h.2.2.1)
theorem p_reverse_matrix (ds : List D) (Q : D → Prop) (E : Xn → Prop) (h : spRev.run ds Q E) : wpDef n_reverse_matrix.length c_reverse_matrix ds Q E := by
  obtain ⟨a, b, c, d, r, rfl, h, q⟩ := h
  have hd := det_k h
  obtain ⟨h1, h2, h3, h4⟩ := h
  have hd' : (-(a * d - b * c)).natAbs < 2 ^ (400 + 400 + 1) := by rw [Int.natAbs_neg]; exact hd
  simp [wpDef, c_reverse_matrix, n_reverse_matrix, start, cut4]
  have go : ∀ x y : Int, x.natAbs < 2 ^ (400 + 400 + 1) → y.natAbs < 2 ^ 400 → MulOk x y := fun x y hx hy => mulOk_k hx (up_k hy (by omega)) (by omega)
  refine ⟨mulOk_k h1 h4 (by omega), mulOk_k h2 h3 (by omega), go _ _ hd h4, go _ _ hd' h2, go _ _ hd' h3, go _ _ hd h1, ?_⟩
  rw [Int.neg_mul, Int.neg_mul]
  exact q
/-- what a matrix does to a point -/
def spLed : Spec := ⟨fun ds Q _ => ∃ (a b c d : Int) (r : List D) (x y : Rat), ds = [m4 a b c d r, ptD x y] ∧ iok 400 a b c d ∧ sz x ≤ 400 ∧ sz y ≤ 400 ∧ Q (ptD ((a : Rat) * x + b * y) ((c : Rat) * x + d * y)),
  fun _ _ _ _ _ ⟨a, b, c, d, r, x, y, e, h1, h2, h3, q⟩ hq _ => ⟨a, b, c, d, r, x, y, e, h1, h2, h3, hq _ q⟩⟩
theorem led_q (a b : Int) (x y : Rat) : Rat.divInt (a * (x.num * (y.den : Int)) + b * (y.num * (x.den : Int))) ((x.den : Int) * (y.den : Int)) = (a : Rat) * x + b * y := by
  rw [Rat.divInt_eq_div]
  have hx : ((x.den : Int) : Rat) ≠ 0 := by have := x.den_nz; simp [this]
  have hy : ((y.den : Int) : Rat) ≠ 0 := by have := y.den_nz; simp [this]
  have ex : x = (x.num : Rat) / ((x.den : Int) : Rat) := by rw [← Rat.divInt_eq_div, Rat.num_divInt_den]
  have ey : y = (y.num : Rat) / ((y.den : Int) : Rat) := by rw [← Rat.divInt_eq_div, Rat.num_divInt_den]
  conv => rhs; rw [ex, ey]
  simp only [Rat.intCast_add, Rat.intCast_mul]
  generalize ((x.den : Int) : Rat) = xd at *
  generalize ((y.den : Int) : Rat) = yd at *
  generalize (x.num : Rat) = xn at *
  generalize (y.num : Rat) = yn at *
  generalize (a : Rat) = a'
  generalize (b : Rat) = b'
  grind
theorem num_k {q : Rat} {k : Nat} (h : sz q ≤ k) : q.num.natAbs < 2 ^ k ∧ (q.den : Int).natAbs < 2 ^ k := by
  obtain ⟨a, b⟩ := lt_sz q
  have : (2 : Nat) ^ sz q ≤ 2 ^ k := Nat.pow_le_pow_right (by omega) h
  exact ⟨by omega, by simp; omega⟩
theorem p_led (ds : List D) (Q : D → Prop) (E : Xn → Prop) (h : spLed.run ds Q E) : wpDef n_led.length (c_led spFr) ds Q E := by
  obtain ⟨a, b, c, d, r, x, y, rfl, ⟨h1, h2, h3, h4⟩, sx, sy, q⟩ := h
  obtain ⟨x1, x2⟩ := num_k sx
  obtain ⟨y1, y2⟩ := num_k sy
  have hb : ((x.den : Int) * (y.den : Int)).natAbs < 2 ^ (400 + 400) := mul_k x2 y2
  have ok : ∀ n : Int, okFr n ((x.den : Int) * (y.den : Int)) := fun n => ⟨den_mul_ne x y, Nat.lt_of_lt_of_le hb (Nat.pow_le_pow_right (by omega) (by omega))⟩
  have m1 : (x.num * (y.den : Int)).natAbs < 2 ^ (400 + 400) := mul_k x1 y2
  have m2 : (y.num * (x.den : Int)).natAbs < 2 ^ (400 + 400) := mul_k y1 x2
  have go : ∀ u v : Int, u.natAbs < 2 ^ 400 → v.natAbs < 2 ^ (400 + 400) → MulOk u v := fun u v hu hv => mulOk_k (up_k hu (by omega)) hv (by omega)
  simp [wpDef, c_led, n_led, start, cut4]
  refine ⟨mulOk_k x1 y2 (by omega), mulOk_k y1 x2 (by omega), mulOk_k x2 y2 (by omega), go _ _ h1 m1, go _ _ h2 m2, ok _, go _ _ h3 m1, go _ _ h4 m2, ok _, ?_⟩
  rw [led_q, led_q]
  exact q
theorem sz_i {a : Int} {k : Nat} (h : a.natAbs < 2 ^ k) (hk : 0 < k) : sz ((a : Int) : Rat) ≤ k := sz_int h hk
theorem sz_lin {a b : Int} {x y : Rat} {k l : Nat} (ha : a.natAbs < 2 ^ k) (hb : b.natAbs < 2 ^ k) (hx : sz x ≤ l) (hy : sz y ≤ l) (hk : 0 < k) : sz ((a : Rat) * x) ≤ k + l ∧ sz ((b : Rat) * y) ≤ k + l ∧ sz ((a : Rat) * x + b * y) ≤ 2 * k + 2 * l + 1 := by
  have h1 := sz_mul (a : Rat) x
  have h2 := sz_mul (b : Rat) y
  have h3 := sz_add ((a : Rat) * x) (b * y)
  have h4 := sz_i ha hk
  have h5 := sz_i hb hk
  omega
theorem p__law_led (ds : List D) (Q : D → Prop) (E : Xn → Prop) (h : spLed.run ds Q E) : wpDef n__law_led.length (c__law_led spAddQ spMulQ) ds Q E := by
  obtain ⟨a, b, c, d, r, x, y, rfl, ⟨h1, h2, h3, h4⟩, sx, sy, q⟩ := h
  obtain ⟨l1, l2, l3⟩ := sz_lin (a := a) (b := b) h1 h2 sx sy (by omega)
  obtain ⟨l4, l5, l6⟩ := sz_lin (a := c) (b := d) h3 h4 sx sy (by omega)
  have i1 := sz_i h1 (by omega)
  have i2 := sz_i h2 (by omega)
  have i3 := sz_i h3 (by omega)
  have i4 := sz_i h4 (by omega)
  simp [wpDef, c__law_led, n__law_led, start, szk]
  exact ⟨⟨by omega, by omega⟩, ⟨by omega, by omega⟩, ⟨by omega, by omega⟩, ⟨by omega, by omega⟩, ⟨by omega, by omega⟩, ⟨by omega, by omega⟩, q⟩
/-- a movement, a point -/
def mokk (k : Nat) (a b c d : Int) (u v : Rat) : Prop := iok k a b c d ∧ sz u ≤ k ∧ sz v ≤ k
theorem mokk_up {k l : Nat} {a b c d : Int} {u v : Rat} (h : mokk k a b c d u v) (hl : k ≤ l) : mokk l a b c d u v :=
  ⟨⟨up_k h.1.1 hl, up_k h.1.2.1 hl, up_k h.1.2.2.1 hl, up_k h.1.2.2.2 hl⟩, by have := h.2.1; omega, by have := h.2.2; omega⟩
def spMoved : Spec := ⟨fun ds Q _ => ∃ (a b c d : Int) (u v x y : Rat), ds = [mov a b c d u v, ptD x y] ∧ mokk 300 a b c d u v ∧ sz x ≤ 300 ∧ sz y ≤ 300 ∧ Q (ptD ((a : Rat) * x + b * y + u) ((c : Rat) * x + d * y + v)),
  fun _ _ _ _ _ ⟨a, b, c, d, u, v, x, y, e, h1, h2, h3, q⟩ hq _ => ⟨a, b, c, d, u, v, x, y, e, h1, h2, h3, hq _ q⟩⟩
theorem p_moved (ds : List D) (Q : D → Prop) (E : Xn → Prop) (h : spMoved.run ds Q E) : wpDef n_moved.length (c_moved spLed spAddQ) ds Q E := by
  obtain ⟨a, b, c, d, u, v, x, y, rfl, ⟨h0, su, sv⟩, sx, sy, q⟩ := h
  obtain ⟨h1, h2, h3, h4⟩ := id h0
  obtain ⟨l1, l2, l3⟩ := sz_lin (a := a) (b := b) h1 h2 sx sy (by omega)
  obtain ⟨l4, l5, l6⟩ := sz_lin (a := c) (b := d) h3 h4 sx sy (by omega)
  simp [wpDef, c_moved, n_moved, start]
  refine ⟨a, b, c, d, _, x, y, rfl, ⟨up_k h1 (by omega), up_k h2 (by omega), up_k h3 (by omega), up_k h4 (by omega)⟩, by omega, by omega, ?_⟩
  simp [szk]
  exact ⟨⟨by omega, by omega⟩, ⟨by omega, by omega⟩, q⟩
theorem p__law_moved (ds : List D) (Q : D → Prop) (E : Xn → Prop) (h : spMoved.run ds Q E) : wpDef n__law_moved.length (c__law_moved spLed spAddQ) ds Q E := by
  obtain ⟨a, b, c, d, u, v, x, y, rfl, ⟨h0, su, sv⟩, sx, sy, q⟩ := h
  obtain ⟨h1, h2, h3, h4⟩ := id h0
  obtain ⟨l1, l2, l3⟩ := sz_lin (a := a) (b := b) h1 h2 sx sy (by omega)
  obtain ⟨l4, l5, l6⟩ := sz_lin (a := c) (b := d) h3 h4 sx sy (by omega)
  simp [wpDef, c__law_moved, n__law_moved, start]
  refine ⟨a, b, c, d, _, x, y, rfl, ⟨up_k h1 (by omega), up_k h2 (by omega), up_k h3 (by omega), up_k h4 (by omega)⟩, by omega, by omega, ?_⟩
  simp [szk]
  exact ⟨⟨by omega, by omega⟩, ⟨by omega, by omega⟩, q⟩
/-- m, then n -/
def thenD (a b c d : Int) (u v : Rat) (e f g h : Int) (p q : Rat) : D := mov (e * a + f * c) (e * b + f * d) (g * a + h * c) (g * b + h * d) ((e : Rat) * u + f * v + p) ((g : Rat) * u + h * v + q)
def spThen : Spec := ⟨fun ds Q _ => ∃ (a b c d : Int) (u v : Rat) (e f g h : Int) (p q : Rat), ds = [mov a b c d u v, mov e f g h p q] ∧ mokk 300 a b c d u v ∧ mokk 300 e f g h p q ∧ Q (thenD a b c d u v e f g h p q),
  fun _ _ _ _ _ ⟨a, b, c, d, u, v, e, f, g, h, p, q, e1, h1, h2, k⟩ hq _ => ⟨a, b, c, d, u, v, e, f, g, h, p, q, e1, h1, h2, hq _ k⟩⟩
theorem p_then (ds : List D) (Q : D → Prop) (E : Xn → Prop) (h : spThen.run ds Q E) : wpDef n_then.length (c_then spProd spMoved) ds Q E := by
  obtain ⟨a, b, c, d, u, v, e, f, g, h, p, q, rfl, h1, h2, k⟩ := h
  simp [wpDef, c_then, n_then, start]
  refine ⟨a, b, c, d, _, e, f, g, h, _, rfl, (mokk_up h1 (by omega)).1, (mokk_up h2 (by omega)).1, ?_⟩
  simp
  refine ⟨e, f, g, h, p, q, u, v, rfl, h2, h1.2.1, h1.2.2, ?_⟩
  simp
  exact k
theorem p__law_then (ds : List D) (Q : D → Prop) (E : Xn → Prop) (h : spThen.run ds Q E) : wpDef n__law_then.length (c__law_then spProd spMoved) ds Q E := by
  obtain ⟨a, b, c, d, u, v, e, f, g, h, p, q, rfl, h1, h2, k⟩ := h
  simp [wpDef, c__law_then, n__law_then, start]
  refine ⟨a, b, c, d, _, e, f, g, h, _, rfl, (mokk_up h1 (by omega)).1, (mokk_up h2 (by omega)).1, ?_⟩
  simp
  refine ⟨e, f, g, h, p, q, u, v, rfl, h2, h1.2.1, h1.2.2, ?_⟩
  simp
  exact k
end Dl

/-! DlK01: the law of movements, in plain Lean. -/
namespace Dl
open PySem
/-! ### back -/
def backD (a b c d : Int) (u v : Rat) : D := mov ((a * d - b * c) * d) (-((a * d - b * c) * b)) (-((a * d - b * c) * c)) ((a * d - b * c) * a)
  (-((((a * d - b * c) * d : Int) : Rat) * u + ((-((a * d - b * c) * b) : Int) : Rat) * v)) (-(((-((a * d - b * c) * c) : Int) : Rat) * u + (((a * d - b * c) * a : Int) : Rat) * v))
def spBack : Spec := ⟨fun ds Q _ => ∃ (a b c d : Int) (u v : Rat), ds = [mov a b c d u v] ∧ mokk 100 a b c d u v ∧ Q (backD a b c d u v), fun _ _ _ _ _ ⟨a, b, c, d, u, v, e, h, q⟩ hq _ => ⟨a, b, c, d, u, v, e, h, hq _ q⟩⟩
theorem rev_k {a b c d : Int} {k : Nat} (h : iok k a b c d) : iok (3 * k + 1) ((a * d - b * c) * d) (-((a * d - b * c) * b)) (-((a * d - b * c) * c)) ((a * d - b * c) * a) := by
  have hd := det_k h
  obtain ⟨h1, h2, h3, h4⟩ := h
  have e : k + k + 1 + k = 3 * k + 1 := by omega
  refine ⟨?_, ?_, ?_, ?_⟩
  · rw [← e]; exact mul_k hd h4
  · rw [Int.natAbs_neg, ← e]; exact mul_k hd h2
  · rw [Int.natAbs_neg, ← e]; exact mul_k hd h3
  · rw [← e]; exact mul_k hd h1
@[simp] theorem zero_subQ {q : Rat} : (0 : Rat) - q = -q := by rw [Rat.sub_eq_add_neg, Rat.zero_add]
@[simp] theorem fold_00 : D.tup [.int 0, .int 1] = fq 0 := rfl
theorem p_back (ds : List D) (Q : D → Prop) (E : Xn → Prop) (h : spBack.run ds Q E) : wpDef n_back.length (c_back spRev spLed spSubQ) ds Q E := by
  obtain ⟨a, b, c, d, u, v, rfl, ⟨h0, su, sv⟩, q⟩ := h
  have hr := rev_k h0
  obtain ⟨r1, r2, r3, r4⟩ := id hr
  obtain ⟨l1, l2, l3⟩ := sz_lin r1 r2 su sv (by omega)
  obtain ⟨l4, l5, l6⟩ := sz_lin r3 r4 su sv (by omega)
  have z0 : sz 0 = 1 := by decide
  simp [wpDef, c_back, n_back, start]
  refine ⟨a, b, c, d, _, rfl, ⟨up_k h0.1 (by omega), up_k h0.2.1 (by omega), up_k h0.2.2.1 (by omega), up_k h0.2.2.2 (by omega)⟩, ?_⟩
  simp
  refine ⟨_, _, _, _, [], u, v, rfl, ⟨up_k r1 (by omega), up_k r2 (by omega), up_k r3 (by omega), up_k r4 (by omega)⟩, by omega, by omega, ?_⟩
  simp [szk]
  unfold backD at q
  simp at q l3 l6
  exact ⟨⟨by omega, by omega⟩, ⟨by omega, by omega⟩, q⟩
theorem p__law_back (ds : List D) (Q : D → Prop) (E : Xn → Prop) (h : spBack.run ds Q E) : wpDef n__law_back.length (c__law_back spDet spLed) ds Q E := by
  obtain ⟨a, b, c, d, u, v, rfl, ⟨h0, su, sv⟩, q⟩ := h
  have hr := rev_k h0
  have hd := det_k h0
  obtain ⟨r1, r2, r3, r4⟩ := id hr
  have go : ∀ x y : Int, x.natAbs < 2 ^ (100 + 100 + 1) → y.natAbs < 2 ^ 100 → MulOk x y := fun x y hx hy => mulOk_k hx (up_k hy (by omega)) (by omega)
  simp [wpDef, c__law_back, n__law_back, start]
  refine ⟨a, b, c, d, _, rfl, ⟨up_k h0.1 (by omega), up_k h0.2.1 (by omega), up_k h0.2.2.1 (by omega), up_k h0.2.2.2 (by omega)⟩, ?_⟩
  simp
  refine ⟨go _ _ hd h0.2.2.2, go _ _ hd h0.2.1, go _ _ hd h0.2.2.1, go _ _ hd h0.1, ?_⟩
  refine ⟨_, _, _, _, [], u, v, rfl, ⟨up_k r1 (by omega), up_k r2 (by omega), up_k r3 (by omega), up_k r4 (by omega)⟩, by omega, by omega, ?_⟩
  simp
  unfold backD at q
  simp at q
  exact q
/-! ### make_movement -/
def unit (a b c d : Int) : Prop := a * d - b * c = 1 ∨ a * d - b * c = -1
instance {a b c d : Int} : Decidable (unit a b c d) := by unfold unit; infer_instance
/-- a matrix in a tuple or in a list -/
def mats (t : Bool) (a b c d : Int) : D := if t = true then mat a b c d else .lst [.int a, .int b, .int c, .int d]
def spDetL : Spec := ⟨fun ds Q _ => ∃ t a b c d, ds = [mats t a b c d] ∧ iok 400 a b c d ∧ Q (.int (a * d - b * c)), fun _ _ _ _ _ ⟨t, a, b, c, d, e, h, q⟩ hq _ => ⟨t, a, b, c, d, e, h, hq _ q⟩⟩
theorem p_determinantL (ds : List D) (Q : D → Prop) (E : Xn → Prop) (h : spDetL.run ds Q E) : wpDef n_determinant.length c_determinant ds Q E := by
  obtain ⟨t, a, b, c, d, rfl, ⟨h1, h2, h3, h4⟩, q⟩ := h
  cases t <;> simp [wpDef, c_determinant, n_determinant, start, mats] <;> exact ⟨mulOk_k h1 h4 (by omega), mulOk_k h2 h3 (by omega), q⟩
def spMake : Spec := ⟨fun ds Q E => ∃ t a b c d u v, ds = [mats t a b c d, fq u, fq v] ∧ iok 400 a b c d ∧ if unit a b c d then Q (mov a b c d u v) else E ⟨"InvalidMovement", []⟩,
  fun _ _ _ _ _ ⟨t, a, b, c, d, u, v, e, h, q⟩ hq he => ⟨t, a, b, c, d, u, v, e, h, by
    by_cases g : unit a b c d
    · rw [if_pos g] at q ⊢; exact hq _ q
    · rw [if_neg g] at q ⊢; exact he _ q⟩⟩
theorem p_make_movement (ds : List D) (Q : D → Prop) (E : Xn → Prop) (h : spMake.run ds Q E) : wpDef n_make_movement.length (c_make_movement spDetL) ds Q E := by
  obtain ⟨t, a, b, c, d, u, v, rfl, h, q⟩ := h
  simp [wpDef, c_make_movement, n_make_movement, start]
  refine ⟨t, a, b, c, d, rfl, h, ?_⟩
  simp only [mem_t2]
  by_cases g : unit a b c d
  · rw [if_pos g] at q
    have e : (decide (1 = a * d - b * c) || decide (-1 = a * d - b * c)) = true := by unfold unit at g; simp; omega
    simp [e]
    cases t <;> simp [mats] <;> exact q
  · rw [if_neg g] at q
    have e : (decide (1 = a * d - b * c) || decide (-1 = a * d - b * c)) = false := by unfold unit at g; simp; omega
    simp [e]
    exact q
def spMake1 : Spec := ⟨fun ds Q E => ∃ t a b c d, ds = [mats t a b c d] ∧ iok 400 a b c d ∧ if unit a b c d then Q (mov a b c d 0 0) else E ⟨"InvalidMovement", []⟩,
  fun _ _ _ _ _ ⟨t, a, b, c, d, e, h, q⟩ hq he => ⟨t, a, b, c, d, e, h, by
    by_cases g : unit a b c d
    · rw [if_pos g] at q ⊢; exact hq _ q
    · rw [if_neg g] at q ⊢; exact he _ q⟩⟩
def madeD (a b c d : Int) (u v : Rat) : D := if unit a b c d then mov a b c d u v else .str "refused"
def spMade : Spec := ⟨fun ds Q _ => ∃ t a b c d u v w, ds = [mats t a b c d, fq u, fq v, .bl w] ∧ iok 400 a b c d ∧ Q (if w = true then madeD a b c d u v else madeD a b c d 0 0), fun _ _ _ _ _ ⟨t, a, b, c, d, u, v, w, e, h, q⟩ hq _ => ⟨t, a, b, c, d, u, v, w, e, h, hq _ q⟩⟩
theorem p__law_made (ds : List D) (Q : D → Prop) (E : Xn → Prop) (h : spMade.run ds Q E) : wpDef n__law_made.length (c__law_made spMake spMake1) ds Q E := by
  obtain ⟨t, a, b, c, d, u, v, w, rfl, h, q⟩ := h
  have e1 : subC ("InvalidMovement" : Str) ("InvalidMovement" : Str) = true := by decide +kernel
  have e2 : hdl ("InvalidMovement" : Str) [(XT.or [XT.not (.isx "PatternError"), XT.not (.isx "ValueError"), .isx "NotFinite"], XE.ce (.str "?"))] (XE.ce (.str "refused")) = CE.str "refused" := by rfl
  simp [wpDef, c__law_made, n__law_made, start]
  cases w with
  | true =>
    simp
    refine ⟨t, a, b, c, d, u, v, rfl, h, ?_⟩
    unfold madeD at q
    by_cases g : unit a b c d
    · simp [g] at q ⊢; exact q
    · simp [g] at q ⊢
      rw [if_pos e1, e2]
      simp
      exact q
  | false =>
    simp
    refine ⟨t, a, b, c, d, rfl, h, ?_⟩
    unfold madeD at q
    by_cases g : unit a b c d
    · simp [g] at q ⊢; exact q
    · simp [g] at q ⊢
      rw [if_pos e1, e2]
      simp
      exact q
/-! ### drawn -/
theorem cutA {x0 x1 x2 x3 : D} : cutD [x0, x1, x2, x3] (some 2) none = [x2, x3] := rfl
theorem cutB {x0 x1 x2 x3 : D} : cutD [x0, x1, x2, x3] none (some 2) = [x0, x1] := rfl
def spMatrix : Spec := .rel (onNums 8) fun _ d => ∃ a b c e : Int, d = mat a b c e ∧ iok 10 a b c e
theorem prod_ax {a b c e a' b' c' e' : Int} (h1 : a.natAbs ≤ 5) (h2 : b.natAbs ≤ 2) (h3 : c.natAbs ≤ 2) (h4 : e.natAbs ≤ 1) (g1 : a'.natAbs ≤ 5) (g2 : b'.natAbs ≤ 2) (g3 : c'.natAbs ≤ 2) (g4 : e'.natAbs ≤ 1) :
    iok 10 (a' * a + b' * c) (a' * b + b' * e) (c' * a + e' * c) (c' * b + e' * e) := by
  have k : ∀ x y : Int, x.natAbs ≤ 5 → y.natAbs ≤ 5 → (x * y).natAbs ≤ 25 := fun x y hx hy => by rw [Int.natAbs_mul]; exact Nat.mul_le_mul hx hy
  have k1 := k a' a g1 h1
  have k2 := k b' c (by omega) (by omega)
  have k3 := k a' b (by omega) (by omega)
  have k4 := k b' e (by omega) (by omega)
  have k5 := k c' a (by omega) (by omega)
  have k6 := k e' c (by omega) (by omega)
  have k7 := k c' b (by omega) (by omega)
  have k8 := k e' e (by omega) (by omega)
  exact ⟨by omega, by omega, by omega, by omega⟩
theorem p__law_matrix (ds : List D) (Q : D → Prop) (E : Xn → Prop) (h : spMatrix.run ds Q E) : wpDef n__law_matrix.length (c__law_matrix spProd spAxes) ds Q E := by
  obtain ⟨⟨xs, rfl, hl, hx⟩, h⟩ := h
  obtain ⟨a1, a2⟩ := fmod_lt (nth xs 1) (b := 9) (by omega)
  obtain ⟨b1, b2⟩ := fmod_lt (nth xs 2) (b := 9) (by omega)
  obtain ⟨c1, c2⟩ := fmod_lt (nth xs 3) (b := 9) (by omega)
  obtain ⟨d1, d2⟩ := fmod_lt (nth xs 4) (b := 9) (by omega)
  simp [wpDef, c__law_matrix, n__law_matrix, start, ixN hl, cut_nums, -ix_L, -sl_L]
  split
  · refine ⟨⟨xs.drop 1, by simp, by simp; omega, fun x hx' => hx x (List.mem_of_mem_drop hx')⟩, ?_⟩
    rintro _ ⟨a, b, c, e, rfl, p1, p2, p3, p4, _⟩
    refine ⟨⟨xs.drop 4, by simp, by simp; omega, fun x hx' => hx x (List.mem_of_mem_drop hx')⟩, ?_⟩
    rintro _ ⟨a', b', c', e', rfl, g1, g2, g3, g4, _⟩
    refine ⟨a, b, c, e, [], a', b', c', e', [], rfl, ⟨up_k (k := 3) (by omega) (by omega), up_k (k := 3) (by omega) (by omega), up_k (k := 3) (by omega) (by omega), up_k (k := 3) (by omega) (by omega)⟩, ⟨up_k (k := 3) (by omega) (by omega), up_k (k := 3) (by omega) (by omega), up_k (k := 3) (by omega) (by omega), up_k (k := 3) (by omega) (by omega)⟩, ?_⟩
    obtain ⟨k1, k2, k3, k4⟩ := prod_ax p1 p2 p3 p4 g1 g2 g3 g4
    simp [cutA, cutB]
    split
    · exact h _ ⟨_, _, _, _, rfl, k3, k4, k1, k2⟩
    · exact h _ ⟨_, _, _, _, rfl, k1, k2, k3, k4⟩
  · exact h _ ⟨_, _, _, _, rfl, by omega, by omega, by omega, by omega⟩
def spAny : Spec := .rel (onI2 fun a b => th a ∧ th b) fun _ d => ∃ q, d = fq q ∧ sz q ≤ 13
theorem p__law_any_shift (ds : List D) (Q : D → Prop) (E : Xn → Prop) (h : spAny.run ds Q E) : wpDef n__law_any_shift.length (c__law_any_shift spFr) ds Q E := by
  obtain ⟨h1, h⟩ := h
  obtain ⟨a, b, rfl, ⟨a1, a2⟩, b1, b2⟩ := onI2_elim h1
  obtain ⟨c1, c2⟩ := fmod_lt b (b := 24) (by omega)
  simp [wpDef, c__law_any_shift, n__law_any_shift, start]
  refine ⟨mulOk_lit (by omega) (by omega), ⟨by omega, Nat.lt_of_lt_of_le (show (1 + b.fmod 24).natAbs < 2 ^ 5 by omega) (Nat.pow_le_pow_right (by omega) (by omega))⟩, h _ ⟨_, rfl, sz_divInt (by omega) (by omega) (by omega)⟩⟩
end Dl

/-! DlK01b: the law of movements, its loop. -/
namespace Dl
open PySem
mutual
theorem dat_plain : ∀ (d : D) (n k : Nat), n ≤ k → D.dat n d = true → D.plain k d = true
  | .non, n, k, _, _ => by cases k <;> simp [D.plain]
  | .bl b, n, k, _, _ => by cases k <;> simp [D.plain]
  | .int b, n, k, _, _ => by cases k <;> simp [D.plain]
  | .str b, n, k, _, h => by cases n with
    | zero => simp [D.dat] at h
    | succ n => cases k <;> simpa [D.plain, D.dat] using h
  | .tup ds, n, k, hk, h => by
    cases n with
    | zero => simp [D.dat] at h
    | succ n =>
      cases k with
      | zero => omega
      | succ k =>
        simp [D.dat] at h
        simp only [D.plain]
        exact dats_plain ds n k (by omega) h.2
  | .lst ds, n, k, hk, h => by
    cases n with
    | zero => simp [D.dat] at h
    | succ n =>
      cases k with
      | zero => omega
      | succ k =>
        simp [D.dat] at h
        simp only [D.plain]
        exact dats_plain ds n k (by omega) h.2
  | .dict _ _, n, k, _, h => by cases n <;> simp [D.dat] at h
  | .obj _ _ _, n, k, _, h => by cases n <;> simp [D.dat] at h
theorem dats_plain : ∀ (ds : List D) (n k : Nat), n ≤ k → D.dats n ds = true → D.plains k ds = true
  | [], n, k, _, _ => by simp [D.plains]
  | d :: ds, n, k, hk, h => by
    unfold D.dats at h
    rw [Bool.and_eq_true] at h
    simp only [D.plains, Bool.and_eq_true]
    exact ⟨dat_plain d n k hk h.1, dats_plain ds n k hk h.2⟩
end
theorem ne_same {d : D} {Q : D → Prop} (n : Nat) (h : D.dat n d = true) (hn : n ≤ 64) : cmpD .ne d d Q = Q (.bl false) := by
  have p := dat_plain d n 64 hn h
  have e : eqb d d = true := eqv_refl d ⟨n, h⟩
  rw [c_neD, p, e]
  simp
theorem dat_mov (n : Nat) {a b c d : Int} {u v : Rat} : D.dat (n + 3) (mov a b c d u v) = true := by simp [D.dat, D.dats, fq, -fold_self]
theorem dat_pt (n : Nat) {u v : Rat} : D.dat (n + 3) (ptD u v) = true := by simp [D.dat, D.dats, fq, ptD, -fold_self, -fold_pt]
theorem dat_ints (n : Nat) {a b c d : Int} : D.dat (n + 2) (.lst [.int a, .int b, .int c, .int d]) = true := by simp [D.dat, D.dats]
theorem dat_ref (n : Nat) : D.dat (n + 1) (.str "refused") = true := by
  simp only [D.dat]
  decide +kernel
theorem ne_mov_str {a b c d : Int} {u v : Rat} {Q : D → Prop} : cmpD .ne (mov a b c d u v) (.str "refused") Q = Q (.bl true) := by
  have p1 := dat_plain _ 3 64 (by omega) (dat_mov 0 (a := a) (b := b) (c := c) (d := d) (u := u) (v := v))
  have p2 := dat_plain _ 1 64 (by omega) (dat_ref 0)
  have e : eqb (mov a b c d u v) (.str "refused") = false := by
    unfold eqb
    simp only [D.toP, PyData.eqv]
  rw [c_neD, p1, p2, e]
  simp
/-- back, then the same movement -/
theorem back_ok {a b c d : Int} (h : unit a b c d) (u v x y : Rat) :
    (((a * d - b * c) * d : Int) : Rat) * ((a : Rat) * x + b * y + u) + ((-((a * d - b * c) * b) : Int) : Rat) * ((c : Rat) * x + d * y + v) + -((((a * d - b * c) * d : Int) : Rat) * u + ((-((a * d - b * c) * b) : Int) : Rat) * v) = x ∧
    ((-((a * d - b * c) * c) : Int) : Rat) * ((a : Rat) * x + b * y + u) + (((a * d - b * c) * a : Int) : Rat) * ((c : Rat) * x + d * y + v) + -(((-((a * d - b * c) * c) : Int) : Rat) * u + (((a * d - b * c) * a : Int) : Rat) * v) = y := by
  have hs : (((a * d - b * c : Int)) : Rat) * ((a * d - b * c : Int) : Rat) = 1 := by
    rcases h with h | h <;> rw [h] <;> decide +kernel
  have he : ((a * d - b * c : Int) : Rat) = (a : Rat) * d - b * c := by simp only [Rat.intCast_sub, Rat.intCast_mul]
  simp only [Rat.intCast_mul, Rat.intCast_neg]
  generalize ((a * d - b * c : Int) : Rat) = s at *
  generalize (a : Rat) = a' at *
  generalize (b : Rat) = b' at *
  generalize (c : Rat) = c' at *
  generalize (d : Rat) = d' at *
  constructor <;> grind
structure Mv where
  a : Int
  b : Int
  c : Int
  d : Int
  u : Rat
  v : Rat
  deriving DecidableEq
def Mv.D (m : Mv) : D := mov m.a m.b m.c m.d m.u m.v
def Mv.ok (m : Mv) : Prop := mokk 14 m.a m.b m.c m.d m.u m.v ∧ unit m.a m.b m.c m.d
def isPt (d : D) : Prop := ∃ x y, d = ptD x y ∧ sz x ≤ 8 ∧ sz y ≤ 8
def spLaw_k01 : Spec := .fn (fun ds => ∃ ns : List Int, ds = [.lst (ns.map .int)]) fun _ => .bl true
def invA (ns : List Int) (i : Nat) (ρ : DEnv) : Prop := ∃ (L : List Mv) (o2 o3 o4 o5 o6 o7 o8 o9 o10 o11 o12 : Option D), L.length ≤ i ∧ (∀ m ∈ L, m.ok) ∧
  ρ = [some (.lst (ns.map .int)), some (.lst (L.map Mv.D)), o2, o3, o4, o5, o6, o7, o8, o9, o10, o11, o12]
def invA1 (ns : List Int) (L : List Mv) (ρ : DEnv) : Prop := ∃ (a b c d : Int) (u v : Rat) (o2 o3 o4 o5 o9 o10 o11 o12 : Option D), iok 10 a b c d ∧ sz u ≤ 13 ∧ sz v ≤ 13 ∧
  ρ = [some (.lst (ns.map .int)), some (.lst (L.map Mv.D)), o2, o3, o4, o5, some (mat a b c d), some (fq u), some (fq v), o9, o10, o11, o12]
theorem p_law_body (ns : List Int) (L : List Mv) (hL : ∀ m ∈ L, m.ok) (i : Nat) (hLi : L.length ≤ i) (hi : i < 6) {P : Pn} (hct : P.nx = invA ns (i + 1)) (o3 o4 o5 o6 o7 o8 o9 o10 o11 o12 : Option D) (body : List CS)
    (hb : body = (match c_law_k01 spNums spCell spMatrix spAny spDet (spSame 4) spMade spPoint spMoved spMoved spBack spBack spThen spThen with | _ :: .for_ _ _ _ b :: _ => b | _ => [])) :
    wpB body [some (.lst (ns.map .int)), some (.lst (L.map Mv.D)), some (.int i), o3, o4, o5, o6, o7, o8, o9, o10, o11, o12] P := by
  subst hb
  refine wB_cut 4 (invA1 ns L) ?_ ?_
  · simp [c_law_k01]
    refine ⟨⟨ns, _, rfl, by omega⟩, ?_⟩
    rintro _ ⟨c, rfl⟩
    simp
    refine ⟨by simp [onI2], fun d hd => ?_⟩
    obtain ⟨xs, hxl, hx, rfl⟩ := hd _ _ rfl
    have hl16 : 16 ≤ xs.length := by simp at hxl; omega
    simp [ixN hl16, -ix_L]
    refine ⟨⟨xs, rfl, by omega, hx⟩, ?_⟩
    rintro _ ⟨a, b, c, e, rfl, h4⟩
    refine ⟨⟨th_nth hx 8, th_nth hx 9⟩, ?_⟩
    rintro _ ⟨u, rfl, su⟩
    refine ⟨⟨th_nth hx 10, th_nth hx 11⟩, ?_⟩
    rintro _ ⟨v, rfl, sv⟩
    exact ⟨a, b, c, e, u, v, _, _, _, _, _, _, _, _, h4, su, sv, rfl⟩
  · rintro _ ⟨a, b, c, d, u, v, o2, o3, o4, o5, o9, o10, o11, o12, h4, su, sv, rfl⟩
    obtain ⟨h1, h2, h3, h5⟩ := id h4
    have k400 : iok 400 a b c d := ⟨up_k h1 (by omega), up_k h2 (by omega), up_k h3 (by omega), up_k h5 (by omega)⟩
    simp [c_law_k01]
    refine ⟨a, b, c, d, [], rfl, k400, ?_⟩
    simp
    by_cases g : unit a b c d
    · have e : (1 = a * d - b * c ∨ -1 = a * d - b * c) := by unfold unit at g; omega
      simp [e]
      refine ⟨false, a, b, c, d, u, v, true, rfl, k400, ?_⟩
      simp [madeD, g]
      refine run_same (dat_mov 1) ?_
      simp [ne_same 2 (dat_ints 0), ne_mov_str]
      refine ⟨by omega, true, a, b, c, d, u, v, false, rfl, k400, ?_⟩
      simp [madeD, g]
      refine run_same (dat_mov 1) ?_
      simp [hct]
      have eL : (L ++ [(⟨a, b, c, d, u, v⟩ : Mv)]).map Mv.D = L.map Mv.D ++ [mov a b c d u v] := by simp [Mv.D]
      refine ⟨L ++ [⟨a, b, c, d, u, v⟩], _, _, _, _, _, _, _, _, _, _, _, by simp; omega, fun m hm => ?_, by rw [eL]⟩
      rcases List.mem_append.mp hm with hm | hm
      · exact hL m hm
      · rw [List.mem_singleton.mp hm]
        exact ⟨⟨⟨up_k h1 (by omega), up_k h2 (by omega), up_k h3 (by omega), up_k h5 (by omega)⟩, by show sz u ≤ 14; omega, by show sz v ≤ 14; omega⟩, g⟩
    · have e : ¬ (1 = a * d - b * c ∨ -1 = a * d - b * c) := by unfold unit at g; omega
      simp [e]
      refine ⟨false, a, b, c, d, u, v, true, rfl, k400, ?_⟩
      simp [madeD, g]
      refine run_same (dat_ref 3) ?_
      simp [ne_same 2 (dat_ints 0), ne_same 1 (dat_ref 0)]
      refine ⟨true, a, b, c, d, u, v, false, rfl, k400, ?_⟩
      simp [madeD, g, ne_same 1 (dat_ref 0), hct]
      exact ⟨L, _, _, _, _, _, _, _, _, _, _, _, by omega, hL, rfl⟩
end Dl

/-! DlOrd: orders of whole 2x2 matrices of determinant 1 or -1: a power up to the 12th that is the identity comes of one up to the 6th. -/
namespace Dl
structure M2 where
  a : Int
  b : Int
  c : Int
  d : Int
  deriving DecidableEq
namespace M2
theorem ext' {x y : M2} (h1 : x.a = y.a) (h2 : x.b = y.b) (h3 : x.c = y.c) (h4 : x.d = y.d) : x = y := by
  cases x; cases y; simp_all
/-- x, then m -/
def mul (x m : M2) : M2 := ⟨m.a * x.a + m.b * x.c, m.a * x.b + m.b * x.d, m.c * x.a + m.d * x.c, m.c * x.b + m.d * x.d⟩
def one : M2 := ⟨1, 0, 0, 1⟩
def pw (m : M2) : Nat → M2
  | 0 => one
  | k + 1 => mul (pw m k) m
def det (m : M2) : Int := m.a * m.d - m.b * m.c
def tr (m : M2) : Int := m.a + m.d
/-- u 0 = 0, u 1 = 1, u (k+2) = t u (k+1) - e u k -/
def us (t e : Int) : Nat → Int × Int
  | 0 => (0, 1)
  | k + 1 => let (x, y) := us t e k; (y, t * y - e * x)
theorem mul_assoc (x y z : M2) : mul (mul x y) z = mul x (mul y z) := by
  unfold mul
  refine ext' ?_ ?_ ?_ ?_ <;> simp only <;> grind
theorem one_mul (x : M2) : mul one x = x := by
  unfold mul one
  refine ext' ?_ ?_ ?_ ?_ <;> simp
theorem mul_one (x : M2) : mul x one = x := by
  unfold mul one
  refine ext' ?_ ?_ ?_ ?_ <;> simp
theorem pw_add (m : M2) (i : Nat) : ∀ j, pw m (i + j) = mul (pw m i) (pw m j)
  | 0 => by rw [Nat.add_zero]; unfold pw; cases i <;> simp [mul_one, pw]
  | j + 1 => by
    rw [← Nat.add_assoc]
    show mul (pw m (i + j)) m = mul (pw m i) (mul (pw m j) m)
    rw [pw_add m i j, mul_assoc]
/-- Cayley and Hamilton: m^(k+1) = u (k+1) m - e u k -/
theorem pw_us (m : M2) : ∀ k, pw m (k + 1) = ⟨(us m.tr m.det k).2 * m.a - m.det * (us m.tr m.det k).1, (us m.tr m.det k).2 * m.b, (us m.tr m.det k).2 * m.c, (us m.tr m.det k).2 * m.d - m.det * (us m.tr m.det k).1⟩
  | 0 => by
    show mul one m = _
    rw [one_mul]
    simp [us]
  | k + 1 => by
    show mul (pw m (k + 1)) m = _
    rw [pw_us m k]
    show mul _ m = ⟨(m.tr * (us m.tr m.det k).2 - m.det * (us m.tr m.det k).1) * m.a - m.det * (us m.tr m.det k).2, (m.tr * (us m.tr m.det k).2 - m.det * (us m.tr m.det k).1) * m.b, (m.tr * (us m.tr m.det k).2 - m.det * (us m.tr m.det k).1) * m.c, (m.tr * (us m.tr m.det k).2 - m.det * (us m.tr m.det k).1) * m.d - m.det * (us m.tr m.det k).2⟩
    generalize (us m.tr m.det k).1 = x
    generalize (us m.tr m.det k).2 = y
    unfold mul tr det
    refine ext' ?_ ?_ ?_ ?_ <;> simp only <;> grind
theorem us_grow {t : Int} (h : 2 ≤ t.natAbs) : ∀ k, (us t 1 k).1.natAbs < (us t 1 k).2.natAbs
  | 0 => by simp [us]
  | k + 1 => by
    have ih := us_grow h k
    show ((us t 1 k).2).natAbs < (t * (us t 1 k).2 - 1 * (us t 1 k).1).natAbs
    generalize (us t 1 k).1 = x at *
    generalize (us t 1 k).2 = y at *
    have h1 : (t * y).natAbs = t.natAbs * y.natAbs := Int.natAbs_mul ..
    have h2 : 2 * y.natAbs ≤ t.natAbs * y.natAbs := Nat.mul_le_mul_right _ h
    have h3 := Int.natAbs_sub_le (t * y) (1 * x)
    omega
/-- determinant 1, a trace of 2 or more: a power that is the identity tells the matrix -/
theorem big_tr {m : M2} (hd : m.det = 1) (ht : 2 ≤ m.tr.natAbs) {k : Nat} (hk : pw m (k + 1) = one) : m.b = 0 ∧ m.c = 0 ∧ m.a = m.d := by
  rw [pw_us, hd] at hk
  have g := us_grow ht k
  generalize (us m.tr 1 k).1 = x at *
  generalize (us m.tr 1 k).2 = y at *
  have hy : y ≠ 0 := by omega
  unfold one at hk
  injection hk with e1 e2 e3 e4
  have f : y * (m.a - m.d) = 0 := by rw [Int.mul_sub]; omega
  refine ⟨(Int.mul_eq_zero.mp e2).resolve_left hy, (Int.mul_eq_zero.mp e3).resolve_left hy, ?_⟩
  have := (Int.mul_eq_zero.mp f).resolve_left hy
  omega
theorem det_mul (x m : M2) : (mul x m).det = x.det * m.det := by
  unfold mul det
  simp only
  grind
theorem pw_two (m : M2) : ∀ n, pw (mul m m) n = pw m (n + n)
  | 0 => rfl
  | n + 1 => by
    show mul (pw (mul m m) n) (mul m m) = _
    rw [pw_two m n, ← mul_assoc, show n + 1 + (n + 1) = n + n + 1 + 1 by omega]
    rfl
theorem unit_sq {a : Int} (h : a * a = 1) : a = 1 ∨ a = -1 := by
  have h1 : a.natAbs * a.natAbs = 1 := by rw [← Int.natAbs_mul, h]; rfl
  have h2 : a.natAbs = 1 := Nat.eq_one_of_mul_eq_one_left h1
  omega
theorem pw_one (m : M2) : pw m 1 = m := one_mul m
theorem ord6 {m : M2} (hd : m.det = 1 ∨ m.det = -1) {k : Nat} (hk : pw m (k + 1) = one) : ∃ j, 1 ≤ j ∧ j ≤ 6 ∧ pw m j = one := by
  rcases hd with hd | hd
  · by_cases ht : 2 ≤ m.tr.natAbs
    · obtain ⟨h1, h2, h3⟩ := big_tr hd ht hk
      have hq : m.a * m.a = 1 := by
        have := hd
        unfold det at this
        rw [h1, ← h3] at this
        simpa using this
      rcases unit_sq hq with h4 | h4
      · exact ⟨1, by omega, by omega, by rw [pw_one]; exact ext' h4 h1 h2 (by rw [← h3]; exact h4)⟩
      · refine ⟨2, by omega, by omega, ?_⟩
        rw [show (2 : Nat) = 1 + 1 by rfl, pw_add, pw_one]
        unfold mul one
        refine ext' ?_ ?_ ?_ ?_ <;> simp only [h1, h2, ← h3, h4] <;> decide
    · have h3 : m.tr = 0 ∨ m.tr = 1 ∨ m.tr = -1 := by omega
      rcases h3 with h | h | h
      · refine ⟨4, by omega, by omega, ?_⟩
        rw [show (4 : Nat) = 3 + 1 by rfl, pw_us, hd, h]
        simp [us, one]
      · refine ⟨6, by omega, by omega, ?_⟩
        rw [show (6 : Nat) = 5 + 1 by rfl, pw_us, hd, h]
        simp [us, one]
      · refine ⟨3, by omega, by omega, ?_⟩
        rw [show (3 : Nat) = 2 + 1 by rfl, pw_us, hd, h]
        simp [us, one]
  · by_cases ht : m.tr = 0
    · refine ⟨2, by omega, by omega, ?_⟩
      rw [show (2 : Nat) = 1 + 1 by rfl, pw_us, hd, ht]
      simp [us, one]
    · exfalso
      have hP : (mul m m).det = 1 := by rw [det_mul, hd]; rfl
      have hT : (mul m m).tr = m.tr * m.tr + 2 := by
        have : m.a * m.d - m.b * m.c = -1 := hd
        unfold mul tr
        simp only
        grind
      have hs : 1 ≤ m.tr * m.tr := by
        have : 0 < m.tr * m.tr := by
          rcases Int.lt_trichotomy m.tr 0 with h | h | h
          · exact Int.mul_pos_of_neg_of_neg h h
          · exact absurd h ht
          · exact Int.mul_pos h h
        omega
      have hk2 : pw (mul m m) (k + 1) = one := by rw [pw_two, pw_add, hk]; rfl
      obtain ⟨h1, h2, h3⟩ := big_tr hP (by omega) hk2
      have hq : (mul m m).a * (mul m m).a = 1 := by
        have := hP
        unfold det at this
        rw [h1, ← h3] at this
        simpa using this
      have ht2 : (mul m m).tr = (mul m m).a + (mul m m).a := by unfold tr; rw [← h3]
      rcases unit_sq hq with h4 | h4 <;> omega
/-- the least power from the (i+1)-th to the n-th that is the identity, 0 if none is -/
def least (m : M2) (n i : Nat) : Nat := if i < n then (if pw m (i + 1) = one then i + 1 else least m n (i + 1)) else 0
termination_by n - i
theorem least_some {m : M2} {n : Nat} : ∀ {i : Nat}, (∀ j, i < j → j ≤ n → pw m j ≠ one) → least m n i = 0 := by
  intro i h
  unfold least
  split
  · rename_i hi
    rw [if_neg (h (i + 1) (by omega) (by omega))]
    exact least_some fun j h1 h2 => h j (by omega) h2
  · rfl
termination_by i => n - i
theorem least_at {m : M2} {n k : Nat} (hk : pw m k = one) (hn : k ≤ n) : ∀ {i : Nat}, i < k → (∀ j, i < j → j < k → pw m j ≠ one) → least m n i = k := by
  intro i hi h
  unfold least
  rw [if_pos (by omega)]
  by_cases e : i + 1 = k
  · rw [if_pos (by rw [e]; exact hk), e]
  · rw [if_neg (h (i + 1) (by omega) (by omega))]
    exact least_at hk hn (by omega) fun j h1 h2 => h j (by omega) h2
termination_by i => k - i
theorem least_pos {m : M2} {n k : Nat} (h0 : 1 ≤ k) (hn : k ≤ n) (hk : pw m k = one) : ∃ j, 1 ≤ j ∧ j ≤ k ∧ pw m j = one ∧ ∀ i, 0 < i → i < j → pw m i ≠ one := by
  induction k using Nat.strongRecOn with
  | _ k ih =>
    by_cases h : ∃ i, 0 < i ∧ i < k ∧ pw m i = one
    · obtain ⟨i, h1, h2, h3⟩ := h
      obtain ⟨j, q1, q2, q3, q4⟩ := ih i h2 (by omega) (by omega) h3
      exact ⟨j, q1, by omega, q3, q4⟩
    · exact ⟨k, h0, Nat.le_refl _, hk, fun i h1 h2 h3 => h ⟨i, h1, h2, h3⟩⟩
/-- told by 6 turns, told by 12 -/
theorem least_same {m : M2} (hd : m.det = 1 ∨ m.det = -1) : least m 6 0 = least m 12 0 := by
  by_cases h : ∃ k, 1 ≤ k ∧ k ≤ 12 ∧ pw m k = one
  · obtain ⟨k, h1, h2, h3⟩ := h
    obtain ⟨k', rfl⟩ : ∃ k', k = k' + 1 := ⟨k - 1, by omega⟩
    obtain ⟨j, q1, q2, q3⟩ := ord6 hd h3
    obtain ⟨i, r1, r2, r3, r4⟩ := least_pos q1 q2 q3
    rw [least_at r3 (by omega) (by omega) r4, least_at r3 (by omega) (by omega) r4]
  · rw [least_some fun j h1 h2 h3 => h ⟨j, h1, by omega, h3⟩, least_some fun j h1 h2 h3 => h ⟨j, h1, h2, h3⟩]
end M2
end Dl

/-! DlK02: orders and settled forms, in plain Lean. -/
namespace Dl
open PySem
def M2.D (m : M2) : D := mat m.a m.b m.c m.d
theorem eqb_mat {a b c d a' b' c' d' : Int} : eqb (mat a b c d) (mat a' b' c' d') = decide ((⟨a, b, c, d⟩ : M2) = ⟨a', b', c', d'⟩) := by
  unfold eqb
  simp only [D.toP, D.toPs, PyData.eqv, PyData.eqvAll]
  rw [Bool.eq_iff_iff]
  simp
theorem dat_mat (n : Nat) {a b c d : Int} : D.dat (n + 2) (mat a b c d) = true := by simp [D.dat, D.dats]
theorem eq_mat {a b c d a' b' c' d' : Int} {Q : D → Prop} : cmpD .eq (mat a b c d) (mat a' b' c' d') Q = Q (.bl (decide ((⟨a, b, c, d⟩ : M2) = ⟨a', b', c', d'⟩))) := by
  rw [c_eqD, eqb_mat, dat_plain _ 2 64 (by omega) (dat_mat 0), dat_plain _ 2 64 (by omega) (dat_mat 0)]
  simp
theorem pw_k {m : M2} (h : iok 14 m.a m.b m.c m.d) : ∀ k, iok (25 * k + 1) (M2.pw m k).a (M2.pw m k).b (M2.pw m k).c (M2.pw m k).d
  | 0 => ⟨show (1 : Int).natAbs < 2 ^ 1 by decide, show (0 : Int).natAbs < 2 ^ 1 by decide, show (0 : Int).natAbs < 2 ^ 1 by decide, show (1 : Int).natAbs < 2 ^ 1 by decide⟩
  | k + 1 => by
    obtain ⟨h1, h2, h3, h4⟩ := h
    obtain ⟨g1, g2, g3, g4⟩ := pw_k ⟨h1, h2, h3, h4⟩ k
    have up : ∀ x : Int, x.natAbs < 2 ^ ((14 + (25 * k + 1)) + 1) → x.natAbs < 2 ^ (25 * (k + 1) + 1) := fun x hx => up_k hx (by omega)
    exact ⟨up _ (add_k (mul_k h1 g1) (mul_k h2 g3)), up _ (add_k (mul_k h1 g2) (mul_k h2 g4)), up _ (add_k (mul_k h3 g1) (mul_k h4 g3)), up _ (add_k (mul_k h3 g2) (mul_k h4 g4))⟩
def spOrder (n : Nat) : Spec := ⟨fun ds Q _ => ∃ (m : M2) (r : List D), ds = [m4 m.a m.b m.c m.d r] ∧ iok 14 m.a m.b m.c m.d ∧ Q (.int (M2.least m n 0)), fun _ _ _ _ _ ⟨m, r, e, h, q⟩ hq _ => ⟨m, r, e, h, hq _ q⟩⟩
def invO (m : M2) (r : List D) (i : Nat) (ρ : DEnv) : Prop := ∃ o, ρ = [some (m4 m.a m.b m.c m.d r), some (M2.pw m i).D, o] ∧ ∀ j, 0 < j → j ≤ i → M2.pw m j ≠ M2.one
theorem p_order_of (ds : List D) (Q : D → Prop) (E : Xn → Prop) (h : (spOrder 6).run ds Q E) : wpDef n_order_of.length (c_order_of spProd) ds Q E := by
  obtain ⟨m, r, rfl, hm, q⟩ := h
  simp [wpDef, c_order_of, n_order_of, start]
  refine wS_for (invO m r) ?_
  simp [-wB_cons]
  refine ⟨⟨none, rfl, fun j h1 h2 => by omega⟩, ?_, ?_⟩
  · rintro i d ρ hi ⟨o, rfl, hno⟩
    obtain ⟨hl, rfl⟩ := rng_get hi
    have hl : i < 6 := hl
    obtain ⟨h1, h2, h3, h4⟩ := pw_k hm i
    simp [M2.D]
    refine ⟨_, _, _, _, [], m.a, m.b, m.c, m.d, r, rfl, ⟨up_k h1 (by omega), up_k h2 (by omega), up_k h3 (by omega), up_k h4 (by omega)⟩, ⟨up_k hm.1 (by omega), up_k hm.2.1 (by omega), up_k hm.2.2.1 (by omega), up_k hm.2.2.2 (by omega)⟩, ?_⟩
    show cmpD .eq (mat _ _ _ _) (mat 1 0 0 1) _
    rw [eq_mat]
    by_cases g : M2.pw m (i + 1) = M2.one
    · have e : (⟨m.a * (M2.pw m i).a + m.b * (M2.pw m i).c, m.a * (M2.pw m i).b + m.b * (M2.pw m i).d, m.c * (M2.pw m i).a + m.d * (M2.pw m i).c, m.c * (M2.pw m i).b + m.d * (M2.pw m i).d⟩ : M2) = ⟨1, 0, 0, 1⟩ := g
      rw [decide_eq_true e]
      simp
      rw [M2.least_at g (by omega) (by omega) fun j h1 h2 => hno j h1 (by omega)] at q
      have e2 : ((i + 1 : Nat) : Int) = 1 + (i : Int) := by omega
      rw [e2] at q
      exact q
    · have e : ¬ (⟨m.a * (M2.pw m i).a + m.b * (M2.pw m i).c, m.a * (M2.pw m i).b + m.b * (M2.pw m i).d, m.c * (M2.pw m i).a + m.d * (M2.pw m i).c, m.c * (M2.pw m i).b + m.d * (M2.pw m i).d⟩ : M2) = ⟨1, 0, 0, 1⟩ := g
      rw [decide_eq_false e]
      simp
      refine ⟨_, rfl, fun j h1 h2 => ?_⟩
      by_cases ej : j = i + 1
      · rw [ej]; exact g
      · exact hno j h1 (by omega)
  · rintro ρ ⟨o, rfl, hno⟩
    rw [rng_len] at hno
    rw [M2.least_some fun j h1 h2 => hno j h1 h2] at q
    exact q
theorem p__law_order (ds : List D) (Q : D → Prop) (E : Xn → Prop) (h : (spOrder 12).run ds Q E) : wpDef n__law_order.length (c__law_order spProd) ds Q E := by
  obtain ⟨m, r, rfl, hm, q⟩ := h
  simp [wpDef, c__law_order, n__law_order, start]
  refine wS_for (invO m r) ?_
  simp [-wB_cons]
  refine ⟨⟨none, rfl, fun j h1 h2 => by omega⟩, ?_, ?_⟩
  · rintro i d ρ hi ⟨o, rfl, hno⟩
    obtain ⟨hl, rfl⟩ := rng_get hi
    have hl : i < 12 := hl
    obtain ⟨h1, h2, h3, h4⟩ := pw_k hm i
    simp [M2.D]
    refine ⟨_, _, _, _, [], m.a, m.b, m.c, m.d, r, rfl, ⟨up_k h1 (by omega), up_k h2 (by omega), up_k h3 (by omega), up_k h4 (by omega)⟩, ⟨up_k hm.1 (by omega), up_k hm.2.1 (by omega), up_k hm.2.2.1 (by omega), up_k hm.2.2.2 (by omega)⟩, ?_⟩
    show cmpD .eq (mat _ _ _ _) (mat 1 0 0 1) _
    rw [eq_mat]
    by_cases g : M2.pw m (i + 1) = M2.one
    · have e : (⟨m.a * (M2.pw m i).a + m.b * (M2.pw m i).c, m.a * (M2.pw m i).b + m.b * (M2.pw m i).d, m.c * (M2.pw m i).a + m.d * (M2.pw m i).c, m.c * (M2.pw m i).b + m.d * (M2.pw m i).d⟩ : M2) = ⟨1, 0, 0, 1⟩ := g
      rw [decide_eq_true e]
      simp
      rw [M2.least_at g (by omega) (by omega) fun j h1 h2 => hno j h1 (by omega)] at q
      have e2 : ((i + 1 : Nat) : Int) = 1 + (i : Int) := by omega
      rw [e2] at q
      exact q
    · have e : ¬ (⟨m.a * (M2.pw m i).a + m.b * (M2.pw m i).c, m.a * (M2.pw m i).b + m.b * (M2.pw m i).d, m.c * (M2.pw m i).a + m.d * (M2.pw m i).c, m.c * (M2.pw m i).b + m.d * (M2.pw m i).d⟩ : M2) = ⟨1, 0, 0, 1⟩ := g
      rw [decide_eq_false e]
      simp
      refine ⟨_, rfl, fun j h1 h2 => ?_⟩
      by_cases ej : j = i + 1
      · rw [ej]; exact g
      · exact hno j h1 (by omega)
  · rintro ρ ⟨o, rfl, hno⟩
    rw [rng_len] at hno
    rw [M2.least_some fun j h1 h2 => hno j h1 h2] at q
    exact q
/-! ### settled, is_turn -/
def spTurn : Spec := ⟨fun ds Q _ => ∃ a b c d r, ds = [m4 a b c d r] ∧ iok 400 a b c d ∧ Q (.bl (decide (a * d - b * c = 1))), fun _ _ _ _ _ ⟨a, b, c, d, r, e, h, q⟩ hq _ => ⟨a, b, c, d, r, e, h, hq _ q⟩⟩
theorem p_is_turn (ds : List D) (Q : D → Prop) (E : Xn → Prop) (h : spTurn.run ds Q E) : wpDef n_is_turn.length (c_is_turn spDet) ds Q E := by
  obtain ⟨a, b, c, d, r, rfl, h, q⟩ := h
  simp [wpDef, c_is_turn, n_is_turn, start]
  refine ⟨a, b, c, d, r, rfl, h, ?_⟩
  simp
  exact q
def frac (q : Rat) : D := .tup [.int (q.num.fmod q.den), .int q.den]
def spRestQ : Spec := ⟨fun ds Q _ => (∃ q : Rat, (ds = [fq q] ∨ ds = [frac q]) ∧ Q (frac q)), fun _ _ _ _ _ ⟨q, e, h⟩ hq _ => ⟨q, e, hq _ h⟩⟩
theorem restQ_imp {ds : List D} {Q : D → Prop} {E : Xn → Prop} (h : spRestQ.run ds Q E) : spRest.run ds Q E := by
  obtain ⟨q, e, h⟩ := h
  have hd : (q.den : Int) ≠ 0 := by have := q.den_nz; omega
  rcases e with rfl | rfl
  · exact ⟨hd, h⟩
  · refine ⟨hd, ?_⟩
    have e : (q.num.fmod (q.den : Int)).fmod (q.den : Int) = q.num.fmod (q.den : Int) := by
      obtain ⟨h1, h2⟩ := fmod_lt q.num (b := (q.den : Int)) (by omega)
      exact Int.fmod_eq_of_lt h1 h2
    show Q (fr ((q.num.fmod (q.den : Int)).fmod (q.den : Int)) (q.den : Int))
    rw [e]
    exact h
theorem p_restQ (ds : List D) (Q : D → Prop) (E : Xn → Prop) (h : spRestQ.run ds Q E) : wpDef n_rest.length c_rest ds Q E := p_rest _ _ _ (restQ_imp h)
theorem p__law_restQ (ds : List D) (Q : D → Prop) (E : Xn → Prop) (h : spRestQ.run ds Q E) : wpDef n__law_rest.length c__law_rest ds Q E := p__law_rest _ _ _ (restQ_imp h)
def spSettled : Spec := ⟨fun ds Q _ => ∃ (a b c d : Int) (u v : Rat), (ds = [mov a b c d u v] ∨ ds = [m4 a b c d [frac u, frac v]]) ∧ Q (m4 a b c d [frac u, frac v]), fun _ _ _ _ _ ⟨a, b, c, d, u, v, e, h⟩ hq _ => ⟨a, b, c, d, u, v, e, hq _ h⟩⟩
theorem p_settled (ds : List D) (Q : D → Prop) (E : Xn → Prop) (h : spSettled.run ds Q E) : wpDef n_settled.length (c_settled spRestQ) ds Q E := by
  obtain ⟨a, b, c, d, u, v, e, q⟩ := h
  rcases e with rfl | rfl
  · simp [wpDef, c_settled, n_settled, start, cut4]
    exact ⟨u, .inl rfl, v, .inl rfl, by simp; exact q⟩
  · simp [wpDef, c_settled, n_settled, start, cut4]
    exact ⟨u, .inr rfl, v, .inr rfl, by simp; exact q⟩
theorem p__law_settled (ds : List D) (Q : D → Prop) (E : Xn → Prop) (h : spSettled.run ds Q E) : wpDef n__law_settled.length (c__law_settled spRestQ) ds Q E := by
  obtain ⟨a, b, c, d, u, v, e, q⟩ := h
  rcases e with rfl | rfl
  · simp [wpDef, c__law_settled, n__law_settled, start, cut4]
    exact ⟨u, .inl rfl, v, .inl rfl, by simp; exact q⟩
  · simp [wpDef, c__law_settled, n__law_settled, start, cut4]
    exact ⟨u, .inr rfl, v, .inr rfl, by simp; exact q⟩
/-! ### drawn -/
def spShift : Spec := .rel (onI2 fun a b => th a ∧ th b) fun _ d => ∃ q, d = fq q ∧ sz q ≤ 6
theorem p__law_shift (ds : List D) (Q : D → Prop) (E : Xn → Prop) (h : spShift.run ds Q E) : wpDef n__law_shift.length (c__law_shift spFr) ds Q E := by
  obtain ⟨h1, h⟩ := h
  obtain ⟨a, b, rfl, ⟨a1, a2⟩, b1, b2⟩ := onI2_elim h1
  obtain ⟨c1, c2⟩ := fmod_lt b (b := 6) (by omega)
  obtain ⟨d1, d2⟩ := fmod_lt a (b := 49) (by omega)
  simp [wpDef, c__law_shift, n__law_shift, start]
  generalize b.fmod 6 = j at *
  have fin : ∀ e : Int, e ≠ 0 → e.natAbs ≤ 12 → okFr (a.fmod 49 - 24) e ∧ Q (fq (Rat.divInt (a.fmod 49 - 24) e)) := fun e he hb =>
    ⟨⟨he, Nat.lt_of_lt_of_le (show e.natAbs < 2 ^ 5 by omega) (Nat.pow_le_pow_right (by omega) (by omega))⟩, h _ ⟨_, rfl, sz_divInt (by omega) (by omega) (by omega)⟩⟩
  have hj : j = 0 ∨ j = 1 ∨ j = 2 ∨ j = 3 ∨ j = 4 ∨ j = 5 := by omega
  rcases hj with rfl | rfl | rfl | rfl | rfl | rfl <;> simp <;> exact fin _ (by omega) (by omega)
def chOk (m : Mv) : Prop := iok 3 m.a m.b m.c m.d ∧ unit m.a m.b m.c m.d ∧ sz m.u ≤ 6 ∧ sz m.v ≤ 6
def spChange : Spec := .rel (onNums 7) fun _ d => ∃ m : Mv, d = m.D ∧ chOk m
theorem p__law_change (ds : List D) (Q : D → Prop) (E : Xn → Prop) (h : spChange.run ds Q E) : wpDef n__law_change.length (c__law_change spAxes spShift) ds Q E := by
  obtain ⟨⟨xs, rfl, hl, hx⟩, h⟩ := h
  simp [wpDef, c__law_change, n__law_change, start, ixN hl, -ix_L]
  refine ⟨⟨xs, rfl, by omega, hx⟩, ?_⟩
  rintro _ ⟨a, b, c, e, rfl, p1, p2, p3, p4, hu⟩
  refine ⟨⟨th_nth hx 3, th_nth hx 4⟩, ?_⟩
  rintro _ ⟨u, rfl, su⟩
  refine ⟨⟨th_nth hx 5, th_nth hx 6⟩, ?_⟩
  rintro _ ⟨v, rfl, sv⟩
  simp
  exact h _ ⟨⟨a, b, c, e, u, v⟩, rfl, ⟨by show a.natAbs < 8; omega, by show b.natAbs < 8; omega, by show c.natAbs < 8; omega, by show e.natAbs < 8; omega⟩, hu, su, sv⟩
def stOk (m : Mv) : Prop := iok 2 m.a m.b m.c m.d ∧ unit m.a m.b m.c m.d ∧ sz m.u ≤ 2 ∧ sz m.v ≤ 2
def spSteps : Spec := .rel (onNums 4) fun _ d => ∃ L : List Mv, d = .lst (L.map Mv.D) ∧ (L.length = 1 ∨ L.length = 2) ∧ ∀ m ∈ L, stOk m
@[simp] theorem fold_half : D.tup [.int 1, .int 2] = fq (Rat.divInt 1 2) := rfl
def isMat (d : D) : Prop := ∃ a b c e : Int, d = mat a b c e ∧ iok 2 a b c e ∧ unit a b c e
def isHalf (d : D) : Prop := ∃ q, d = fq q ∧ sz q ≤ 2
theorem p__law_steps (ds : List D) (Q : D → Prop) (E : Xn → Prop) (h : spSteps.run ds Q E) : wpDef n__law_steps.length c__law_steps ds Q E := by
  obtain ⟨⟨xs, rfl, hl, hx⟩, h⟩ := h
  obtain ⟨a1, a2⟩ := fmod_lt (nth xs 1) (b := 4) (by omega)
  obtain ⟨b1, b2⟩ := fmod_lt (nth xs 2) (b := 2) (by omega)
  obtain ⟨c1, c2⟩ := fmod_lt (nth xs 3) (b := 2) (by omega)
  obtain ⟨d1, d2⟩ := fmod_lt (nth xs 0) (b := 5) (by omega)
  have mk : ∀ (a b c e : Int), a.natAbs ≤ 1 → b.natAbs ≤ 1 → c.natAbs ≤ 1 → e.natAbs ≤ 1 → unit a b c e → isMat (mat a b c e) := fun a b c e h1 h2 h3 h4 hu =>
    ⟨a, b, c, e, rfl, ⟨by show a.natAbs < 4; omega, by show b.natAbs < 4; omega, by show c.natAbs < 4; omega, by show e.natAbs < 4; omega⟩, hu⟩
  have s0 : sz 0 ≤ 2 := by decide
  have sh : sz (Rat.divInt 1 2) ≤ 2 := by decide +kernel
  -- the parts, each by its place
  have tn : ∀ j : Int, 0 ≤ j → j < 5 → ∃ d, atD [mat 1 0 0 1, mat (-1) 0 0 (-1), mat 0 (-1) 1 0, mat 0 (-1) 1 (-1), mat 1 (-1) 1 0] j = some d ∧ isMat d := fun j h1 h2 => by
    have hj : j = 0 ∨ j = 1 ∨ j = 2 ∨ j = 3 ∨ j = 4 := by omega
    rcases hj with rfl | rfl | rfl | rfl | rfl <;> refine ⟨_, rfl, mk _ _ _ _ (by decide) (by decide) (by decide) (by decide) (by decide)⟩
  have fl : ∀ j : Int, 0 ≤ j → j < 4 → ∃ d, atD [mat 1 0 0 1, mat 1 0 0 (-1), mat 0 1 1 0, mat 0 (-1) (-1) 0] j = some d ∧ isMat d := fun j h1 h2 => by
    have hj : j = 0 ∨ j = 1 ∨ j = 2 ∨ j = 3 := by omega
    rcases hj with rfl | rfl | rfl | rfl <;> refine ⟨_, rfl, mk _ _ _ _ (by decide) (by decide) (by decide) (by decide) (by decide)⟩
  have hf : ∀ j : Int, 0 ≤ j → j < 2 → ∃ d, atD [fq 0, fq (Rat.divInt 1 2)] j = some d ∧ isHalf d := fun j h1 h2 => by
    have hj : j = 0 ∨ j = 1 := by omega
    rcases hj with rfl | rfl
    · exact ⟨_, rfl, _, rfl, s0⟩
    · exact ⟨_, rfl, _, rfl, sh⟩
  obtain ⟨t, t1, a, b, c, e, rfl, ti, tu⟩ := tn _ d1 d2
  obtain ⟨f, f1, a', b', c', e', rfl, fi, fu⟩ := fl _ a1 a2
  obtain ⟨x, x1, x, rfl, sx⟩ := hf _ b1 b2
  obtain ⟨y, y1, y, rfl, sy⟩ := hf _ c1 c2
  have e1 : ((fq ((0 : Int) : Rat))) = fq 0 := rfl
  simp [wpDef, c__law_steps, n__law_steps, start, ixN hl, -ix_L]
  rw [ix_L, f1, opt_some, ix_L, x1, opt_some, ix_L, y1, opt_some]
  have ok1 : stOk ⟨a, b, c, e, 0, 0⟩ := ⟨ti, tu, s0, s0⟩
  have ok2 : stOk ⟨a', b', c', e', x, y⟩ := ⟨fi, fu, sx, sy⟩
  split
  · rw [ix_L, t1, opt_some]
    simp
    exact h _ ⟨[⟨a, b, c, e, 0, 0⟩], rfl, .inl rfl, fun m hm => by rw [List.mem_singleton.mp hm]; exact ok1⟩
  · rw [ix_L, t1, opt_some]
    simp
    refine h _ ⟨[⟨a, b, c, e, 0, 0⟩, ⟨a', b', c', e', x, y⟩], rfl, .inr rfl, fun m hm => ?_⟩
    rcases List.mem_cons.mp hm with hm | hm
    · rw [hm]; exact ok1
    · rw [List.mem_singleton.mp hm]; exact ok2
/-! ### sizes -/
theorem unit_rev {a b c d : Int} (h : unit a b c d) {k : Nat} (hk : iok k a b c d) : iok k ((a * d - b * c) * d) (-((a * d - b * c) * b)) (-((a * d - b * c) * c)) ((a * d - b * c) * a) ∧ unit ((a * d - b * c) * d) (-((a * d - b * c) * b)) (-((a * d - b * c) * c)) ((a * d - b * c) * a) := by
  obtain ⟨h1, h2, h3, h4⟩ := hk
  have hn : (a * d - b * c).natAbs = 1 := by unfold unit at h; omega
  have hm : ∀ x : Int, ((a * d - b * c) * x).natAbs = x.natAbs := fun x => by rw [Int.natAbs_mul, hn, Nat.one_mul]
  refine ⟨⟨by rw [hm]; exact h4, by rw [Int.natAbs_neg, hm]; exact h2, by rw [Int.natAbs_neg, hm]; exact h3, by rw [hm]; exact h1⟩, ?_⟩
  unfold unit at *
  rcases h with h | h <;> rw [h] <;> grind
theorem unit_mul {a b c d e f g h : Int} (h1 : unit a b c d) (h2 : unit e f g h) : unit (e * a + f * c) (e * b + f * d) (g * a + h * c) (g * b + h * d) := by
  have e1 : (e * a + f * c) * (g * b + h * d) - (e * b + f * d) * (g * a + h * c) = (e * h - f * g) * (a * d - b * c) := by grind
  unfold unit at *
  rw [e1]
  rcases h1 with h1 | h1 <;> rcases h2 with h2 | h2 <;> rw [h1, h2] <;> simp
theorem iok_mul {a b c d e f g h : Int} {k l : Nat} (h1 : iok k a b c d) (h2 : iok l e f g h) : iok (l + k + 1) (e * a + f * c) (e * b + f * d) (g * a + h * c) (g * b + h * d) := by
  obtain ⟨a1, a2, a3, a4⟩ := h1
  obtain ⟨b1, b2, b3, b4⟩ := h2
  exact ⟨add_k (mul_k b1 a1) (mul_k b2 a3), add_k (mul_k b1 a2) (mul_k b2 a4), add_k (mul_k b3 a1) (mul_k b4 a3), add_k (mul_k b3 a2) (mul_k b4 a4)⟩
theorem iok_up {a b c d : Int} {k l : Nat} (h : iok k a b c d) (hl : k ≤ l) : iok l a b c d := ⟨up_k h.1 hl, up_k h.2.1 hl, up_k h.2.2.1 hl, up_k h.2.2.2 hl⟩
/-! ### the law -/
def mOk (k l : Nat) (m : Mv) : Prop := iok k m.a m.b m.c m.d ∧ unit m.a m.b m.c m.d ∧ sz m.u ≤ l ∧ sz m.v ≤ l
theorem mOk_kk {k l n : Nat} {m : Mv} (h : mOk k l m) (h1 : k ≤ n) (h2 : l ≤ n) : mokk n m.a m.b m.c m.d m.u m.v := ⟨iok_up h.1 h1, by have := h.2.2.1; omega, by have := h.2.2.2; omega⟩
theorem mOk_up {k l k' l' : Nat} {m : Mv} (h : mOk k l m) (h1 : k ≤ k') (h2 : l ≤ l') : mOk k' l' m := ⟨iok_up h.1 h1, h.2.1, by have := h.2.2.1; omega, by have := h.2.2.2; omega⟩
def Mv.then (m n : Mv) : Mv := ⟨n.a * m.a + n.b * m.c, n.a * m.b + n.b * m.d, n.c * m.a + n.d * m.c, n.c * m.b + n.d * m.d, (n.a : Rat) * m.u + n.b * m.v + n.u, (n.c : Rat) * m.u + n.d * m.v + n.v⟩
theorem then_ok {k l k' l' : Nat} {m n : Mv} (h1 : mOk k l m) (h2 : mOk k' l' n) (hk : 0 < k') : mOk (k' + k + 1) (2 * k' + 2 * l + 1 + l' + 1) (m.then n) := by
  obtain ⟨_, _, l3⟩ := sz_lin (a := n.a) (b := n.b) h2.1.1 h2.1.2.1 h1.2.2.1 h1.2.2.2 hk
  obtain ⟨_, _, l6⟩ := sz_lin (a := n.c) (b := n.d) h2.1.2.2.1 h2.1.2.2.2 h1.2.2.1 h1.2.2.2 hk
  have a1 := sz_add ((n.a : Rat) * m.u + n.b * m.v) n.u
  have a2 := sz_add ((n.c : Rat) * m.u + n.d * m.v) n.v
  have b1 := h2.2.2.1
  have b2 := h2.2.2.2
  exact ⟨iok_mul h1.1 h2.1, unit_mul h1.2.1 h2.2.1, by show sz (_ + _) ≤ _; omega, by show sz (_ + _) ≤ _; omega⟩
def Mv.back (m : Mv) : Mv := ⟨(m.a * m.d - m.b * m.c) * m.d, -((m.a * m.d - m.b * m.c) * m.b), -((m.a * m.d - m.b * m.c) * m.c), (m.a * m.d - m.b * m.c) * m.a,
  -((((m.a * m.d - m.b * m.c) * m.d : Int) : Rat) * m.u + ((-((m.a * m.d - m.b * m.c) * m.b) : Int) : Rat) * m.v), -(((-((m.a * m.d - m.b * m.c) * m.c) : Int) : Rat) * m.u + (((m.a * m.d - m.b * m.c) * m.a : Int) : Rat) * m.v)⟩
theorem back_mOk {k l : Nat} {m : Mv} (h : mOk k l m) (hk : 0 < k) : mOk k (2 * k + 2 * l + 1) m.back := by
  obtain ⟨r, u⟩ := unit_rev h.2.1 h.1
  obtain ⟨_, _, l3⟩ := sz_lin r.1 r.2.1 h.2.2.1 h.2.2.2 hk
  obtain ⟨_, _, l6⟩ := sz_lin r.2.2.1 r.2.2.2 h.2.2.1 h.2.2.2 hk
  exact ⟨r, u, by show sz (-_) ≤ _; rw [sz_neg]; exact l3, by show sz (-_) ≤ _; rw [sz_neg]; exact l6⟩
theorem run_then {m n : Mv} {k l k' l' : Nat} {Q : D → Prop} {E : Xn → Prop} (h1 : mOk k l m) (h2 : mOk k' l' n) (hk : k ≤ 300) (hl : l ≤ 300) (hk' : k' ≤ 300) (hl' : l' ≤ 300) (q : Q (m.then n).D) : spThen.run [m.D, n.D] Q E :=
  ⟨m.a, m.b, m.c, m.d, m.u, m.v, n.a, n.b, n.c, n.d, n.u, n.v, rfl, mOk_kk h1 hk hl, mOk_kk h2 hk' hl', q⟩
theorem run_back {m : Mv} {k l : Nat} {Q : D → Prop} {E : Xn → Prop} (h1 : mOk k l m) (hk : k ≤ 100) (hl : l ≤ 100) (q : Q m.back.D) : spBack.run [m.D] Q E :=
  ⟨m.a, m.b, m.c, m.d, m.u, m.v, rfl, mOk_kk h1 hk hl, q⟩
theorem cutM {x0 x1 x2 x3 x4 x5 : D} : cutD [x0, x1, x2, x3, x4, x5] (some 4) none = [x4, x5] := rfl
def spLaw_k02 : Spec := .fn (fun ds => ∃ ns : List Int, ds = [.lst (ns.map .int)]) fun _ => .bl true
def inv02 (ns : List Int) (_ : Nat) (ρ : DEnv) : Prop := ∃ o1 o2 o3 o4 o5, ρ = [some (.lst (ns.map .int)), o1, o2, o3, o4, o5]
def J (ns xs : List Int) (k l : Nat) (ρ : DEnv) : Prop := ∃ (o1 o3 o5 : Option D) (m : Mv), mOk k l m ∧ ρ = [some (.lst (ns.map .int)), o1, some (.lst (xs.map .int)), o3, some m.D, o5]
theorem p_law_k02 (ds : List D) (Q : D → Prop) (E : Xn → Prop) (h : spLaw_k02.run ds Q E) : wpDef n_law_k02.length (c_law_k02 spNums spCell spSteps spThen spChange spBack spProd spAxes spAddQ (spSame 4) (spOrder 6) (spOrder 12) spTurn spDet spSettled spSettled) ds Q E := by
  obtain ⟨⟨ns, rfl⟩, h⟩ := h
  simp [wpDef, c_law_k02, n_law_k02, start]
  refine wS_for (inv02 ns) ?_
  simp [-wB_cons]
  refine ⟨⟨none, none, none, none, none, rfl⟩, ?_, fun ρ _ => h⟩
  rintro i d ρ hi ⟨o1, o2, o3, o4, o5, rfl⟩
  obtain ⟨hl, rfl⟩ := rng_get hi
  simp [-wB_cons]
  refine wB_cut 1 (fun ρ => ∃ xs : List Int, xs.length = 20 ∧ (∀ x ∈ xs, th x) ∧ ρ = [some (.lst (ns.map .int)), some (.int i), some (.lst (xs.map .int)), o3, o4, o5]) ?_ ?_
  · simp
    refine ⟨⟨ns, _, rfl, by omega⟩, ?_⟩
    rintro _ ⟨c, rfl⟩
    simp
    refine ⟨by simp [onI2], fun d hd => ?_⟩
    obtain ⟨xs, hxl, hx, rfl⟩ := hd _ _ rfl
    exact ⟨xs, hxl, hx, rfl⟩
  · rintro _ ⟨xs, hxl, hx, rfl⟩
    have hl20 : 20 ≤ xs.length := by omega
    have dr : ∀ n k, n + k ≤ 20 → onNums k [.lst ((xs.drop n).map .int)] := fun n k h => ⟨xs.drop n, rfl, by simp; omega, fun x hx' => hx x (List.mem_of_mem_drop hx')⟩
    refine wB_cut 2 (J ns xs 2 2) ?_ ?_
    · simp [ixN hl20, -ix_L]
      refine ⟨⟨xs, rfl, by omega, hx⟩, ?_⟩
      rintro _ ⟨L, rfl, hL, hs⟩
      have lp : (0 : Int) < (L.length : Int) := by omega
      obtain ⟨g1, g2⟩ := fmod_lt (nth xs 4) lp
      simp [-ix_L]
      refine ⟨by intro z; rw [z] at hL; simp at hL, ?_⟩
      generalize (nth xs 4).fmod (L.length : Int) = j at *
      obtain ⟨n, rfl⟩ := Int.eq_ofNat_of_zero_le g1
      have hn : n < L.length := by omega
      rw [ix_L, at_lit (z := L[n].D) (by rw [List.getElem?_map, List.getElem?_eq_getElem hn]; rfl), opt_some]
      exact ⟨_, _, _, L[n], hs _ (List.getElem_mem hn), rfl⟩
    · rintro _ ⟨o1, o3, o5, m, hm, rfl⟩
      refine wB_cut 2 (J ns xs 5 12) ?_ ?_
      · obtain ⟨g1, g2⟩ := fmod_lt (nth xs 6) (b := 5) (by omega)
        by_cases c0 : (nth xs 5).fmod 4 = 0
        · simp [c0, ixN hl20, -ix_L, Mv.D, cutM]
          refine ⟨_, _, _, ⟨1, (nth xs 6).fmod 5 - 2, 0, 1, m.u, m.v⟩, ⟨⟨show (1 : Int).natAbs < 2 ^ 5 by decide, by show ((nth xs 6).fmod 5 - 2).natAbs < 2 ^ 5; omega, show (0 : Int).natAbs < 2 ^ 5 by decide, show (1 : Int).natAbs < 2 ^ 5 by decide⟩, .inl (by simp), by have := hm.2.2.1; show sz m.u ≤ 12; omega, by have := hm.2.2.2; show sz m.v ≤ 12; omega⟩, rfl⟩
        by_cases c1 : (nth xs 5).fmod 4 = 1
        · simp [c0, c1, ixN hl20, cut_nums, -ix_L, -sl_L]
          refine ⟨by simpa using dr 7 4 (by omega), ?_⟩
          rintro _ ⟨L, rfl, hL, hs⟩
          cases L with
          | nil => simp at hL
          | cons s L =>
            have hs1 := hs s List.mem_cons_self
            simp
            refine run_then hm hs1 (by omega) (by omega) (by omega) (by omega) ?_
            exact ⟨_, _, _, _, mOk_up (then_ok hm hs1 (by omega)) (by omega) (by omega), rfl⟩
        · simp [c0, c1, ixN hl20, -ix_L]
          exact ⟨_, _, _, m, mOk_up hm (by omega) (by omega), rfl⟩
      · rintro _ ⟨o1, o3, o5, m, hm, rfl⟩
        refine wB_cut 2 (J ns xs 13 140) ?_ ?_
        · simp [cut_nums, -sl_L]
          refine ⟨by simpa using dr 11 7 (by omega), ?_⟩
          rintro _ ⟨ch, rfl, hch⟩
          have hb := back_mOk hch (by omega)
          have h1 := then_ok hb hm (by omega)
          have h2 := then_ok h1 hch (by omega)
          refine run_back hch (by omega) (by omega) ?_
          refine run_then hb hm (by omega) (by omega) (by omega) (by omega) ?_
          refine run_then h1 hch (by omega) (by omega) (by omega) (by omega) ?_
          exact ⟨_, _, _, _, mOk_up h2 (by omega) (by omega), rfl⟩
        · rintro _ ⟨o1, o3, o5, m, hm, rfl⟩
          refine wB_cut 1 (J ns xs 13 140) ?_ ?_
          · by_cases c2 : (nth xs 5).fmod 4 = 2
            · simp [c2, ixN hl20, cut_nums, -ix_L, -sl_L]
              refine ⟨by simpa using dr 6 3 (by omega), ?_⟩
              rintro _ ⟨a, b, c, e, rfl, p1, p2, p3, p4, hu⟩
              refine ⟨by simpa using dr 9 3 (by omega), ?_⟩
              rintro _ ⟨a', b', c', e', rfl, g1, g2, g3, g4, hu'⟩
              refine ⟨a, b, c, e, [], a', b', c', e', [], rfl, ⟨up_k (k := 3) (by omega) (by omega), up_k (k := 3) (by omega) (by omega), up_k (k := 3) (by omega) (by omega), up_k (k := 3) (by omega) (by omega)⟩, ⟨up_k (k := 3) (by omega) (by omega), up_k (k := 3) (by omega) (by omega), up_k (k := 3) (by omega) (by omega), up_k (k := 3) (by omega) (by omega)⟩, ?_⟩
              simp [Mv.D, cutM]
              exact ⟨_, _, _, ⟨a' * a + b' * c, a' * b + b' * e, c' * a + e' * c, c' * b + e' * e, m.u, m.v⟩, ⟨iok_up (prod_ax p1 p2 p3 p4 g1 g2 g3 g4) (by omega), unit_mul hu hu', hm.2.2.1, hm.2.2.2⟩, rfl⟩
            · simp [c2, ixN hl20, -ix_L]
              exact ⟨_, _, _, m, hm, rfl⟩
          · rintro _ ⟨o1, o3, o5, m, hm, rfl⟩
            refine wB_cut 1 (J ns xs 13 152) ?_ ?_
            · obtain ⟨t1, t2⟩ := th_nth hx 18
              have s1 := sz_i (a := nth xs 18 - 500) (k := 10) (by omega) (by omega)
              have s2 := sz_add m.u ((nth xs 18 - 500 : Int) : Rat)
              have s3 := hm.2.2.1
              have s4 := hm.2.2.2
              simp [ixN hl20, -ix_L, Mv.D, cut4, szk]
              simp at s1 s2
              refine ⟨⟨by omega, by omega⟩, ?_⟩
              exact ⟨_, _, _, ⟨m.a, m.b, m.c, m.d, m.u + ((nth xs 18 : Rat) - 500), m.v⟩, ⟨hm.1, hm.2.1, by show sz (_ + _) ≤ _; omega, by show sz m.v ≤ 152; omega⟩, rfl⟩
            · rintro _ ⟨o1, o3, o5, m, hm, rfl⟩
              have k14 : iok 14 m.a m.b m.c m.d := iok_up hm.1 (by omega)
              have k400 : iok 400 m.a m.b m.c m.d := iok_up hm.1 (by omega)
              have eo := M2.least_same (m := ⟨m.a, m.b, m.c, m.d⟩) hm.2.1
              have df : D.dat 4 (m4 m.a m.b m.c m.d [frac m.u, frac m.v]) = true := by simp [D.dat, D.dats, frac, -fold_self]
              simp
              refine ⟨⟨m.a, m.b, m.c, m.d⟩, [fq m.u, fq m.v], rfl, k14, ?_⟩
              refine ⟨⟨m.a, m.b, m.c, m.d⟩, [fq m.u, fq m.v], rfl, k14, ?_⟩
              rw [eo]
              refine run_same (by simp [D.dat]) ?_
              simp
              refine ⟨m.a, m.b, m.c, m.d, _, rfl, k400, ?_⟩
              simp
              refine ⟨m.a, m.b, m.c, m.d, _, rfl, k400, ?_⟩
              refine ⟨m.a, m.b, m.c, m.d, _, rfl, k400, ?_⟩
              simp
              refine ⟨m.a, m.b, m.c, m.d, m.u, m.v, .inl rfl, ?_⟩
              refine ⟨m.a, m.b, m.c, m.d, m.u, m.v, .inl rfl, ?_⟩
              refine run_same df ?_
              simp
              refine ⟨m.a, m.b, m.c, m.d, m.u, m.v, .inl rfl, ?_⟩
              refine ⟨m.a, m.b, m.c, m.d, m.u, m.v, .inr rfl, ?_⟩
              refine ⟨m.a, m.b, m.c, m.d, m.u, m.v, .inl rfl, ?_⟩
              show cmpD .ne (m4 m.a m.b m.c m.d [frac m.u, frac m.v]) (m4 m.a m.b m.c m.d [frac m.u, frac m.v]) _
              rw [ne_same 4 df (by omega)]
              simp
              exact ⟨_, _, _, _, _, rfl⟩
end Dl

/-! DlStl: rests of fractions, settled movements, common denominators. -/
namespace Dl
open PySem
/-- the rest of a fraction -/
def frc (q : Rat) : Rat := q - (q.floor : Rat)
theorem frc_nonneg (q : Rat) : 0 ≤ frc q := by
  unfold frc
  have := Rat.floor_le q
  grind
theorem frc_lt (q : Rat) : frc q < 1 := by
  unfold frc
  have := @Rat.lt_floor q
  grind
theorem frc_add_int (q : Rat) (k : Int) : frc (q + (k : Rat)) = frc q := by
  unfold frc
  rw [Rat.floor_add_intCast, Rat.intCast_add]
  grind
theorem floor_unit {q : Rat} (h0 : 0 ≤ q) (h1 : q < 1) : q.floor = 0 := by
  have a : (0 : Int) ≤ q.floor := Rat.le_floor_iff.mpr (by simpa using h0)
  have b : ¬ (1 : Int) ≤ q.floor := fun h => by
    have h2 : ((1 : Int) : Rat) ≤ q := Rat.le_floor_iff.mp h
    have h3 : ((1 : Int) : Rat) = 1 := rfl
    rw [h3] at h2
    exact absurd h1 (Rat.not_lt.mpr h2)
  omega
theorem frc_unit {q : Rat} (h0 : 0 ≤ q) (h1 : q < 1) : frc q = q := by
  unfold frc
  rw [floor_unit h0 h1]
  show q - 0 = q
  grind
theorem frc_frc (q : Rat) : frc (frc q) = frc q := frc_unit (frc_nonneg q) (frc_lt q)
theorem frc_eq (q : Rat) : ∃ k : Int, frc q = q + (k : Rat) := ⟨-q.floor, by unfold frc; rw [Rat.intCast_neg]; grind⟩
/-- rests are the same where an int lies between -/
theorem frc_iff (p q : Rat) : frc p = frc q ↔ ∃ k : Int, p = q + (k : Rat) := by
  constructor
  · intro h
    refine ⟨p.floor - q.floor, ?_⟩
    unfold frc at h
    rw [Rat.intCast_sub]
    grind
  · rintro ⟨k, rfl⟩
    exact frc_add_int q k
theorem frac_frc (q : Rat) : frac q = fq (frc q) := by
  have hd : 0 < (q.den : Int) := by have := q.den_pos; omega
  have hm := Int.emod_nonneg q.num (show (q.den : Int) ≠ 0 by omega)
  have e0 : q.num.fmod (q.den : Int) = q.num % (q.den : Int) := Int.fmod_eq_emod_of_nonneg _ (by omega)
  have hc : (q.num % (q.den : Int)).natAbs.Coprime q.den := by
    have h1 := q.reduced
    unfold Nat.Coprime at *
    have h2 : Int.gcd (q.num % (q.den : Int)) (q.den : Int) = Int.gcd q.num (q.den : Int) := by
      rw [Int.emod_def]
      exact Int.gcd_sub_mul_left_left ..
    have h3 : Int.gcd (q.num % (q.den : Int)) (q.den : Int) = (q.num % (q.den : Int)).natAbs.gcd q.den := by
      unfold Int.gcd; simp
    have h4 : Int.gcd q.num (q.den : Int) = q.num.natAbs.gcd q.den := by
      unfold Int.gcd; simp
    omega
  have e : (⟨q.num % (q.den : Int), q.den, q.den_nz, hc⟩ : Rat) = frc q := by
    rw [Rat.mk_eq_divInt]
    unfold frc
    rw [Rat.floor_def, Rat.divInt_eq_div, Int.emod_def, Rat.intCast_sub, Rat.intCast_mul]
    have h1 : q = (q.num : Rat) / ((q.den : Int) : Rat) := by rw [← Rat.divInt_eq_div, Rat.num_divInt_den]
    have hx : ((q.den : Int) : Rat) ≠ 0 := by simp [q.den_nz]
    conv => rhs; arg 1; rw [h1]
    generalize ((q.num / (q.den : Int) : Int) : Rat) = k
    generalize ((q.den : Int) : Rat) = d at *
    generalize (q.num : Rat) = n
    grind
  unfold frac fq
  rw [← e, e0]
/-! ### common denominators -/
/-- N times q is whole -/
def isN (N : Nat) (q : Rat) : Prop := ∃ z : Int, (N : Rat) * q = (z : Rat)
theorem isN_den {N : Nat} (hN : N ≠ 0) {q : Rat} : isN N q ↔ q.den ∣ N := by
  constructor
  · rintro ⟨z, h⟩
    have hN' : ((N : Int) : Rat) ≠ 0 := by simpa using hN
    have e : q = Rat.divInt z (N : Int) := by
      rw [Rat.divInt_eq_div]
      have h' : ((N : Int) : Rat) * q = (z : Rat) := h
      generalize ((N : Int) : Rat) = n at *
      grind
    rw [e]
    have hz : (N : Int) ≠ 0 := by omega
    obtain ⟨_, e2⟩ := nf_q (n := z) hz
    obtain ⟨_, e3, _⟩ := nf_all (n := z) hz
    rw [e2] at e3
    exact Int.ofNat_dvd.mp ⟨sg z N, by rw [Int.mul_comm]; exact e3⟩
  · rintro ⟨k, hk⟩
    refine ⟨(k : Int) * q.num, ?_⟩
    rw [hk]
    have h1 : q = (q.num : Rat) / ((q.den : Int) : Rat) := by rw [← Rat.divInt_eq_div, Rat.num_divInt_den]
    have hx : ((q.den : Int) : Rat) ≠ 0 := by simp [q.den_nz]
    have e1 : ((q.den * k : Nat) : Rat) = ((q.den : Int) : Rat) * ((k : Int) : Rat) := by
      rw [← Rat.intCast_mul]
      rfl
    rw [e1, Rat.intCast_mul]
    conv => lhs; arg 2; rw [h1]
    generalize ((q.den : Int) : Rat) = d at *
    generalize (q.num : Rat) = n
    generalize ((k : Int) : Rat) = k'
    grind
theorem isN_add {N : Nat} {p q : Rat} (h : isN N p) (g : isN N q) : isN N (p + q) := by
  obtain ⟨x, hx⟩ := h
  obtain ⟨y, hy⟩ := g
  exact ⟨x + y, by rw [Rat.intCast_add, ← hx, ← hy]; grind⟩
theorem isN_neg {N : Nat} {p : Rat} (h : isN N p) : isN N (-p) := by
  obtain ⟨x, hx⟩ := h
  exact ⟨-x, by rw [Rat.intCast_neg, ← hx]; grind⟩
theorem isN_sub {N : Nat} {p q : Rat} (h : isN N p) (g : isN N q) : isN N (p - q) := by
  rw [Rat.sub_eq_add_neg]
  exact isN_add h (isN_neg g)
theorem isN_int {N : Nat} (k : Int) : isN N (k : Rat) := ⟨(N : Int) * k, by rw [Rat.intCast_mul]; rfl⟩
theorem isN_mul {N : Nat} {p : Rat} (k : Int) (h : isN N p) : isN N ((k : Rat) * p) := by
  obtain ⟨x, hx⟩ := h
  exact ⟨k * x, by rw [Rat.intCast_mul, ← hx]; grind⟩
theorem isN_frc {N : Nat} {p : Rat} (h : isN N p) : isN N (frc p) := isN_sub h (isN_int _)
theorem isN_zero {N : Nat} : isN N 0 := isN_int 0
/-- a rest's size -/
theorem sz_unit {q : Rat} {N k : Nat} (hN : N ≠ 0) (h : isN N q) (h0 : 0 ≤ q) (h1 : q < 1) (hk : N < 2 ^ k) (k0 : 0 < k) : sz q ≤ k := by
  have hd := Nat.le_of_dvd (by omega) ((isN_den hN).mp h)
  have n0 : 0 ≤ q.num := Rat.num_nonneg.mpr h0
  have n1 : q.num < (q.den : Int) := by
    have := (Rat.lt_iff q 1).mp h1
    simpa using this
  exact sz_of (by omega) (by omega) k0
/-! ### settled movements -/
def Mv.stl (m : Mv) : Mv := ⟨m.a, m.b, m.c, m.d, frc m.u, frc m.v⟩
def Mv.one : Mv := ⟨1, 0, 0, 1, 0, 0⟩
def Mv.mt (m : Mv) : M2 := ⟨m.a, m.b, m.c, m.d⟩
theorem Mv.ext' {x y : Mv} (h1 : x.a = y.a) (h2 : x.b = y.b) (h3 : x.c = y.c) (h4 : x.d = y.d) (h5 : x.u = y.u) (h6 : x.v = y.v) : x = y := by
  cases x; cases y; simp_all
theorem Mv.D_inj {x y : Mv} (h : x.D = y.D) : x = y := by
  unfold Mv.D at h
  simp at h
  obtain ⟨h1, h2, h3, h4, h5, h6⟩ := h
  exact Mv.ext' h1 h2 h3 h4 (fq_inj h5) (fq_inj h6)
theorem M2.D_inj {x y : M2} (h : x.D = y.D) : x = y := by
  unfold M2.D at h
  simp at h
  obtain ⟨h1, h2, h3, h4⟩ := h
  exact M2.ext' h1 h2 h3 h4
/-- m, then n, settled -/
def Mv.st (m n : Mv) : Mv := (m.then n).stl
theorem Mv.st_stl (m n : Mv) : m.st n.stl = m.st n := by
  unfold Mv.st Mv.stl Mv.then
  have k : ∀ (a b : Rat), frc (a + frc b) = frc (a + b) := fun a b => by
    obtain ⟨k, e⟩ := frc_eq b
    rw [e, ← Rat.add_assoc, frc_add_int]
  simp only [k]
theorem Mv.stl_stl (m : Mv) : m.stl.stl = m.stl := by
  unfold Mv.stl
  simp only [frc_frc]
theorem Mv.st_mt (m n : Mv) : (m.st n).mt = M2.mul m.mt n.mt := rfl
theorem D_stl (m : Mv) : m4 m.a m.b m.c m.d [frac m.u, frac m.v] = m.stl.D := by
  rw [frac_frc, frac_frc]; rfl
theorem run_stl {m : Mv} {Q : D → Prop} {E : Xn → Prop} (q : Q m.stl.D) : spSettled.run [m.D] Q E := ⟨m.a, m.b, m.c, m.d, m.u, m.v, .inl rfl, by rw [D_stl]; exact q⟩
end Dl

/-! DlClo: closing a set under steps: a stack, the things found; as dicts. -/
namespace Dl
open PySem
section
variable {α β : Type} [DecidableEq α]
/-- one thing with all steps: none if there are too many -/
def scan (f : α → β → α) (most : Nat) (c : α) : List β → List α × List α → Option (List α × List α)
  | [], s => some s
  | m :: ms, s => if f c m ∈ s.1 then scan f most c ms s else if s.1.length = most then none else scan f most c ms (s.1 ++ [f c m], s.2 ++ [f c m])
/-- the last one and those ahead -/
def uns : List α → Option (List α × α)
  | [] => none
  | x :: xs => some ((x :: xs).dropLast, (x :: xs).getLast (by simp))
def clo (f : α → β → α) (ms : List β) (most : Nat) : Nat → List α × List α → Option (List α)
  | 0, _ => none
  | n + 1, s => match uns s.2 with
    | none => some s.1
    | some (ws, c) => match scan f most c ms (s.1, ws) with
      | none => none
      | some s' => clo f ms most n s'
/-- what the steps make of a start -/
def closeL (f : α → β → α) (ms : List β) (most : Nat) (x : α) : Option (List α) := clo f ms most (2 * most + 1) ([x], [x])
def cm (most : Nat) (s : List α × List α) : Nat := 2 * (most - s.1.length) + s.2.length
variable {f : α → β → α} {most : Nat} {ms : List β} {c : α}
theorem uns_snoc (ws : List α) (c : α) : uns (ws ++ [c]) = some (ws, c) := by
  cases h : ws ++ [c] with
  | nil => simp at h
  | cons x xs =>
    show some ((x :: xs).dropLast, (x :: xs).getLast (by simp)) = some (ws, c)
    have e1 : (x :: xs).dropLast = ws := by rw [← h]; simp
    have e2 : (x :: xs).getLast (by simp) = c := by
      have : (ws ++ [c]).getLast (by simp) = c := by simp
      simp only [h] at this
      exact this
    rw [e1, e2]
theorem scan_cm : ∀ {ms : List β} {s s' : List α × List α}, s.1.length ≤ most → scan f most c ms s = some s' → s'.1.length ≤ most ∧ cm most s' ≤ cm most s
  | [], s, s', hl, h => by
    unfold scan at h
    cases h
    exact ⟨hl, Nat.le_refl _⟩
  | m :: ms, s, s', hl, h => by
    unfold scan at h
    split at h
    · exact scan_cm hl h
    · split at h
      · cases h
      · obtain ⟨a, b⟩ := scan_cm (s := (s.1 ++ [f c m], s.2 ++ [f c m])) (by simp; omega) h
        refine ⟨a, Nat.le_trans b ?_⟩
        unfold cm
        simp
        omega
/-- enough fuel -/
theorem clo_fuel : ∀ {n k : Nat} {s : List α × List α}, s.1.length ≤ most → cm most s < n → cm most s < k → clo f ms most n s = clo f ms most k s
  | 0, k, s, hl, h1, h2 => by omega
  | n + 1, 0, s, hl, h1, h2 => by omega
  | n + 1, k + 1, s, hl, h1, h2 => by
    unfold clo
    cases e : uns s.2 with
    | none => rfl
    | some p =>
      obtain ⟨ws, c⟩ := p
      have hw : s.2.length = ws.length + 1 := by
        cases h : s.2 with
        | nil => rw [h] at e; cases e
        | cons x xs =>
          rw [h] at e
          unfold uns at e
          cases e
          simp
      dsimp only
      cases e2 : scan f most c ms (s.1, ws) with
      | none => rfl
      | some s' =>
        obtain ⟨a, b⟩ := scan_cm (s := (s.1, ws)) hl e2
        have : cm most (s.1, ws) < cm most s := by unfold cm; simp; omega
        exact clo_fuel a (by omega) (by omega)
/-- a step: the last one is taken -/
theorem clo_step {n : Nat} {F ws : List α} : clo f ms most (n + 1) (F, ws ++ [c]) = (scan f most c ms (F, ws)).bind (clo f ms most n) := by
  rw [clo]
  dsimp only
  rw [uns_snoc]
  dsimp only
  cases scan f most c ms (F, ws) <;> rfl
theorem clo_done {n : Nat} {F : List α} : clo f ms most (n + 1) (F, []) = some F := rfl
/-! ### what is kept -/
/-- each thing found has its bound; those that wait are found -/
structure Wld (P : Nat → α → Prop) (most : Nat) (F W : List α) : Prop where
  b : ∀ i x, F[i]? = some x → P i x
  w : ∀ x ∈ W, x ∈ F
  l : F.length ≤ most
  nd : F.Nodup
  wl : W.length ≤ F.length
structure Bnd (P : Nat → α → Prop) (f : α → β → α) (ms : List β) : Prop where
  up : ∀ i x, P i x → P (i + 1) x
  st : ∀ i x m, P i x → m ∈ ms → P (i + 1) (f x m)
theorem Bnd.le {P : Nat → α → Prop} (B : Bnd P f ms) {i j : Nat} {x : α} (h : P i x) (hij : i ≤ j) : P j x := by
  induction hij with
  | refl => exact h
  | step _ ih => exact B.up _ _ ih
theorem Wld.at_ {P : Nat → α → Prop} {F W : List α} (w : Wld P most F W) {x : α} (hx : x ∈ F) : ∃ j, j < F.length ∧ P j x := by
  obtain ⟨j, hj, e⟩ := List.mem_iff_getElem.mp hx
  exact ⟨j, hj, w.b j x (by rw [List.getElem?_eq_getElem hj, e])⟩
theorem Wld.push {P : Nat → α → Prop} {F W : List α} (w : Wld P most F W) (B : Bnd P f ms) {m : β} (hc : c ∈ F) (hm : m ∈ ms) (hl : F.length < most) (hn : f c m ∉ F) : Wld P most (F ++ [f c m]) (W ++ [f c m]) := by
  refine ⟨fun i x e => ?_, fun x hx => ?_, by simp; omega, ?_, by simp; exact w.wl⟩
  · by_cases hi : i < F.length
    · rw [List.getElem?_append_left hi] at e
      exact w.b i x e
    · have hi2 : i = F.length := by
        have := (List.getElem?_eq_some_iff.mp e).1
        simp at this
        omega
      subst hi2
      rw [List.getElem?_concat_length] at e
      cases e
      obtain ⟨j, hj, p⟩ := w.at_ hc
      exact B.le (B.st j c m p hm) hj
  · rcases List.mem_append.mp hx with z | z
    · exact List.mem_append_left _ (w.w x z)
    · exact List.mem_append_right _ z
  · rw [List.nodup_append]
    refine ⟨w.nd, by simp, fun a ha b hb => ?_⟩
    have : b = f c m := by simpa using hb
    subst this
    intro z
    subst z
    exact hn ha
/-- what has been gone through leads within -/
def Cls (f : α → β → α) (ms : List β) (F W : List α) : Prop := ∀ x ∈ F, x ∈ W ∨ ∀ m ∈ ms, f x m ∈ F
theorem scan_all {P : Nat → α → Prop} (B : Bnd P f ms) : ∀ {ms' : List β} {F W : List α} {s' : List α × List α}, (∀ m ∈ ms', m ∈ ms) → Wld P most F W → c ∈ F → scan f most c ms' (F, W) = some s' →
    Wld P most s'.1 s'.2 ∧ (∀ x ∈ F, x ∈ s'.1) ∧ (∀ x ∈ W, x ∈ s'.2) ∧ (∀ x ∈ s'.1, x ∈ F ∨ x ∈ s'.2) ∧ ∀ m ∈ ms', f c m ∈ s'.1
  | [], F, W, s', hm, w, hc, h => by
    unfold scan at h
    cases h
    exact ⟨w, fun _ h => h, fun _ h => h, fun _ h => .inl h, fun _ h => by cases h⟩
  | m :: ms', F, W, s', hm, w, hc, h => by
    unfold scan at h
    split at h
    · rename_i hin
      obtain ⟨a, b, d, e, g⟩ := scan_all B (fun x hx => hm x (List.mem_cons_of_mem _ hx)) w hc h
      refine ⟨a, b, d, e, fun x hx => ?_⟩
      rcases List.mem_cons.mp hx with rfl | hx
      · exact b _ hin
      · exact g x hx
    · rename_i hin
      split at h
      · cases h
      · rename_i hl
        have hl' : F.length < most := by have := w.l; simp at hl; omega
        have w2 := w.push B hc (hm m List.mem_cons_self) hl' hin
        obtain ⟨a, b, d, e, g⟩ := scan_all B (fun x hx => hm x (List.mem_cons_of_mem _ hx)) w2 (List.mem_append_left _ hc) h
        refine ⟨a, fun x hx => b x (List.mem_append_left _ hx), fun x hx => d x (List.mem_append_left _ hx), fun x hx => ?_, fun x hx => ?_⟩
        · rcases e x hx with z | z
          · rcases List.mem_append.mp z with z | z
            · exact .inl z
            · have : x = f c m := by simpa using z
              subst this
              exact .inr (d _ (List.mem_append_right _ (by simp)))
          · exact .inr z
        · rcases List.mem_cons.mp hx with rfl | hx
          · exact b _ (List.mem_append_right _ (by simp))
          · exact g x hx
theorem Cls.scan {P : Nat → α → Prop} (B : Bnd P f ms) {F ws : List α} {s' : List α × List α} (w : Wld P most F (ws ++ [c])) (h : Cls f ms F (ws ++ [c])) (e : scan f most c ms (F, ws) = some s') : Wld P most s'.1 s'.2 ∧ Cls f ms s'.1 s'.2 ∧ ∀ x ∈ F, x ∈ s'.1 := by
  have hc : c ∈ F := w.w c (by simp)
  obtain ⟨a, b, d, k, g⟩ := scan_all B (fun _ h => h) (⟨w.b, fun x hx => w.w x (List.mem_append_left _ hx), w.l, w.nd, by have := w.wl; simp at this; omega⟩ : Wld P most F ws) hc e
  refine ⟨a, fun x hx => ?_, b⟩
  rcases k x hx with z | z
  · rcases h x z with z2 | z2
    · rcases List.mem_append.mp z2 with z2 | z2
      · exact .inl (d x z2)
      · have : x = c := by simpa using z2
        subst this
        exact .inr fun m hm => g m hm
    · exact .inr fun m hm => b _ (z2 m hm)
  · exact .inl z
theorem clo_all {P : Nat → α → Prop} (B : Bnd P f ms) : ∀ {n : Nat} {F W L : List α}, Wld P most F W → Cls f ms F W → clo f ms most n (F, W) = some L → Wld P most L [] ∧ Cls f ms L [] ∧ ∀ x ∈ F, x ∈ L
  | 0, F, W, L, w, h, e => by cases e
  | n + 1, F, W, L, w, h, e => by
    rcases List.eq_nil_or_concat W with rfl | ⟨ws, c, rfl⟩
    · rw [clo_done] at e
      cases e
      exact ⟨w, h, fun _ h => h⟩
    · rw [List.concat_eq_append] at *
      rw [clo_step] at e
      cases e2 : scan f most c ms (F, ws) with
      | none => rw [e2] at e; cases e
      | some s' =>
        rw [e2] at e
        obtain ⟨a, b, d⟩ := Cls.scan B w h e2
        obtain ⟨a2, b2, d2⟩ := clo_all B a b e
        exact ⟨a2, b2, fun x hx => d2 x (d x hx)⟩
theorem Wld.pop {P : Nat → α → Prop} {F ws : List α} (w : Wld P most F (ws ++ [c])) : Wld P most F ws ∧ c ∈ F :=
  ⟨⟨w.b, fun x hx => w.w x (List.mem_append_left _ hx), w.l, w.nd, by have := w.wl; simp at this; omega⟩, w.w c (by simp)⟩
theorem wld_start {P : Nat → α → Prop} {x : α} (h0 : P 0 x) (hm : 1 ≤ most) : Wld P most [x] [x] := by
  refine ⟨fun i y e => ?_, fun _ h => h, by simpa using hm, by simp, by simp⟩
  cases i with
  | zero => cases e; exact h0
  | succ i => cases e
/-- the set is closed, bounded, has the start -/
theorem closeL_ok {P : Nat → α → Prop} (B : Bnd P f ms) {x : α} {L : List α} (h0 : P 0 x) (hm : 1 ≤ most) (h : closeL f ms most x = some L) : Wld P most L [] ∧ x ∈ L ∧ ∀ y ∈ L, ∀ m ∈ ms, f y m ∈ L := by
  obtain ⟨a, b, d⟩ := clo_all B (wld_start h0 hm) (fun y hy => .inl hy) h
  exact ⟨a, d x (by simp), fun y hy m hm => (b y hy).elim (fun z => by cases z) fun z => z m hm⟩
/-- the steps count only by what they do to what is found -/
theorem scan_congr {g : α → β → α} {ms : List β} (h : ∀ m ∈ ms, f c m = g c m) : ∀ {s : List α × List α}, scan f most c ms s = scan g most c ms s := by
  induction ms with
  | nil => intro s; rfl
  | cons m ms ih =>
    intro s
    have e := h m List.mem_cons_self
    have ih := fun s => ih (fun x hx => h x (List.mem_cons_of_mem _ hx)) (s := s)
    unfold scan
    rw [e, ih, ih]
theorem scan_map {γ : Type} {g : γ → β} {ms : List γ} : ∀ {s : List α × List α}, scan f most c (ms.map g) s = scan (fun x m => f x (g m)) most c ms s := by
  induction ms with
  | nil => intro s; rfl
  | cons m ms ih =>
    intro s
    rw [List.map_cons]
    unfold scan
    rw [ih, ih]
theorem clo_map {γ : Type} {g : γ → β} {ms : List γ} : ∀ {n : Nat} {s : List α × List α}, clo f (ms.map g) most n s = clo (fun x m => f x (g m)) ms most n s
  | 0, s => rfl
  | n + 1, s => by
    unfold clo
    cases uns s.2 with
    | none => rfl
    | some p =>
      dsimp only
      rw [scan_map]
      cases scan (fun x m => f x (g m)) most p.2 ms (s.1, p.1) with
      | none => rfl
      | some s' => exact clo_map
end
/-! ### as dicts -/
section
variable {α : Type} [DecidableEq α] (enc : α → D)
def setD (F : List α) : D := .dict (F.map enc) (F.map fun _ => .bl true)
structure EncOk : Prop where
  inj : ∀ x y, enc x = enc y → x = y
  key : ∀ x, isKey (enc x) = true
variable {enc}
theorem EncOk.has (E : EncOk enc) (F : List α) (x : α) : dHas (F.map enc) (enc x) = decide (x ∈ F) := by
  unfold dHas
  induction F with
  | nil => simp
  | cons y F ih =>
    rw [List.map_cons, List.any_cons, ih]
    have e : decide (toN (enc y) = toN (enc x)) = decide (x = y) := by
      rw [decide_eq_decide]
      constructor
      · intro h
        exact (E.inj _ _ (toN_inj (isKey_B (E.key y)) (isKey_B (E.key x)) h)).symm
      · intro h; rw [h]
    rw [e]
    simp
theorem EncOk.put (E : EncOk enc) {F : List α} {x : α} (h : x ∉ F) : dPut (F.map enc) (F.map fun _ => .bl true) (enc x) (.bl true) = setD enc (F ++ [x]) := by
  unfold dPut
  rw [E.has, if_neg (by simpa using h)]
  simp [setD]
theorem EncOk.imm (E : EncOk enc) (x : α) : (enc x).imm = true := keyB_imm (isKey_B (E.key x))
theorem EncOk.cont (E : EncOk enc) (x : α) : (enc x).cont = false := by
  have := E.imm x
  cases h : enc x <;> rw [h] at this <;> first | rfl | (simp [D.imm] at this)
end
end Dl

/-! DlAscM: movements in ascending order. -/
namespace Dl
open PySem
/-! ### the common multiple -/
def lcmQ (qs : List Rat) : Nat := qs.foldl (fun r q => Nat.lcm r q.den) 1
theorem foldl_lcm_dvd {N : Nat} : ∀ {qs : List Rat} {r : Nat}, r ∣ N → (∀ q ∈ qs, q.den ∣ N) → qs.foldl (fun r q => Nat.lcm r q.den) r ∣ N
  | [], r, h, _ => h
  | q :: qs, r, h, g => foldl_lcm_dvd (qs := qs) (r := Nat.lcm r q.den) (Nat.lcm_dvd h (g q List.mem_cons_self)) fun x hx => g x (List.mem_cons_of_mem _ hx)
theorem dvd_foldl_lcm : ∀ {qs : List Rat} {r : Nat}, r ∣ qs.foldl (fun r q => Nat.lcm r q.den) r ∧ ∀ q ∈ qs, q.den ∣ qs.foldl (fun r q => Nat.lcm r q.den) r
  | [], r => ⟨Nat.dvd_refl _, fun _ h => by cases h⟩
  | q :: qs, r => by
    obtain ⟨h1, h2⟩ := dvd_foldl_lcm (qs := qs) (r := Nat.lcm r q.den)
    refine ⟨Nat.dvd_trans (Nat.dvd_lcm_left ..) h1, fun x hx => ?_⟩
    rcases List.mem_cons.mp hx with rfl | hx
    · exact Nat.dvd_trans (Nat.dvd_lcm_right ..) h1
    · exact h2 x hx
theorem lcmQ_dvd {N : Nat} {qs : List Rat} (h : ∀ q ∈ qs, q.den ∣ N) : lcmQ qs ∣ N := foldl_lcm_dvd (Nat.one_dvd _) h
theorem dvd_lcmQ {qs : List Rat} {q : Rat} (h : q ∈ qs) : q.den ∣ lcmQ qs := dvd_foldl_lcm.2 q h
theorem lcmQ_ne {qs : List Rat} : lcmQ qs ≠ 0 := by
  have : ∀ (qs : List Rat) (r : Nat), r ≠ 0 → qs.foldl (fun r q => Nat.lcm r q.den) r ≠ 0 := by
    intro qs
    induction qs with
    | nil => intro r h; exact h
    | cons q qs ih => intro r h; exact ih _ (Nat.lcm_ne_zero h q.den_nz)
  exact this qs 1 (by decide)
/-- it depends on the set alone -/
theorem lcmQ_eq {qs ps : List Rat} (h : ∀ q, q ∈ qs ↔ q ∈ ps) : lcmQ qs = lcmQ ps :=
  Nat.dvd_antisymm (lcmQ_dvd fun q hq => dvd_lcmQ ((h q).mp hq)) (lcmQ_dvd fun q hq => dvd_lcmQ ((h q).mpr hq))
/-- fractions with a common denominator below 2^100 -/
def cden (qs : List Rat) : Prop := ∃ N : Nat, N ≠ 0 ∧ N < 2 ^ 100 ∧ ∀ q ∈ qs, q.den ∣ N
theorem cden_lt {qs : List Rat} (h : cden qs) : lcmQ qs < 2 ^ 100 := by
  obtain ⟨N, h0, h1, h2⟩ := h
  exact Nat.lt_of_le_of_lt (Nat.le_of_dvd (by omega) (lcmQ_dvd h2)) h1
def spLcm : Spec := ⟨fun ds Q _ => ∃ qs : List Rat, ds = [.lst (qs.map fq)] ∧ cden qs ∧ Q (.int (lcmQ qs)), fun _ _ _ _ _ ⟨qs, e, h, q⟩ hq _ => ⟨qs, e, h, hq _ q⟩⟩
theorem lcm_step {r d : Nat} (hr : r ≠ 0) : ((r : Int).fdiv ((Nat.gcd r d : Nat) : Int)) * (d : Int) = ((Nat.lcm r d : Nat) : Int) := by
  rw [Int.fdiv_eq_ediv_of_nonneg _ (by omega)]
  have e2 : ((r : Int) / ((Nat.gcd r d : Nat) : Int)) = ((r / Nat.gcd r d : Nat) : Int) := rfl
  rw [e2, ← Int.natCast_mul]
  congr 1
  unfold Nat.lcm
  rw [Nat.div_mul_right_comm (Nat.gcd_dvd_left r d)]
theorem lcm_take {qs : List Rat} {i : Nat} (hi : i < qs.length) : lcmQ (qs.take (i + 1)) = Nat.lcm (lcmQ (qs.take i)) (qs[i]).den := by
  unfold lcmQ
  rw [List.take_succ_eq_append_getElem hi, List.foldl_append]
  rfl
theorem cden_take {qs : List Rat} (h : cden qs) (i : Nat) : cden (qs.take i) := by
  obtain ⟨N, h0, h1, h2⟩ := h
  exact ⟨N, h0, h1, fun q hq => h2 q (List.mem_of_mem_take hq)⟩
theorem gcd_div_ok {r : Nat} {d : Nat} (h : d ≠ 0) (hd : d < 2 ^ 100) : DivOk ((Nat.gcd r d : Nat) : Int) := by
  have h1 := Nat.le_of_dvd (Nat.pos_of_ne_zero h) (Nat.gcd_dvd_right r d)
  have h2 := Nat.gcd_pos_of_pos_right r (Nat.pos_of_ne_zero h)
  exact divOk_big (by omega) (Nat.lt_of_lt_of_le (show (((Nat.gcd r d : Nat) : Int)).natAbs < 2 ^ 100 by omega) (Nat.pow_le_pow_right (by omega) (by omega)))
theorem den_small {qs : List Rat} (h : cden qs) {q : Rat} (hq : q ∈ qs) : q.den < 2 ^ 100 := by
  obtain ⟨N, h0, h1, h2⟩ := h
  exact Nat.lt_of_le_of_lt (Nat.le_of_dvd (by omega) (h2 q hq)) h1
theorem lcm_mulok {qs : List Rat} (h : cden qs) {i : Nat} (hi : i < qs.length) : MulOk ((lcmQ (qs.take i) : Int).fdiv ((Nat.gcd (lcmQ (qs.take i)) (qs[i]).den : Nat) : Int)) ((qs[i]).den : Int) := by
  have h1 := cden_lt (cden_take h i)
  have h2 := den_small h (List.getElem_mem hi)
  rw [Int.fdiv_eq_ediv_of_nonneg _ (by omega)]
  have e2 : ((lcmQ (qs.take i) : Int) / ((Nat.gcd (lcmQ (qs.take i)) (qs[i]).den : Nat) : Int)) = ((lcmQ (qs.take i) / Nat.gcd (lcmQ (qs.take i)) (qs[i]).den : Nat) : Int) := rfl
  rw [e2]
  have h3 := Nat.div_le_self (lcmQ (qs.take i)) (Nat.gcd (lcmQ (qs.take i)) (qs[i]).den)
  exact mulOk_k (k := 100) (by rw [Int.natAbs_natCast]; omega) (by omega) (by omega)
def invLcm (qs : List Rat) (i : Nat) (ρ : DEnv) : Prop := ∃ o2 o3, ρ = [some (.lst (qs.map fq)), some (.int (lcmQ (qs.take i))), o2, o3]
theorem p_common_multiple (ds : List D) (Q : D → Prop) (E : Xn → Prop) (h : spLcm.run ds Q E) : wpDef n_common_multiple.length (c_common_multiple spGcd) ds Q E := by
  obtain ⟨qs, rfl, hc, h⟩ := h
  simp [wpDef, c_common_multiple, n_common_multiple, start]
  refine wS_for (invLcm qs) ?_
  simp
  refine ⟨⟨none, none, rfl⟩, ?_, ?_⟩
  · rintro i x ρ q hx rfl ⟨o2, o3, rfl⟩
    obtain ⟨hi, rfl⟩ := List.getElem?_eq_some_iff.mp hx
    have hd := den_small hc (List.getElem_mem hi)
    simp [fq, -fold_self]
    refine ⟨trivial, ?_⟩
    simp [mapI2]
    refine ⟨gcd_div_ok (qs[i]).den_nz hd, lcm_mulok hc hi, some (.int (qs[i]).num), some (.int (qs[i]).den), ?_⟩
    rw [lcm_step lcmQ_ne, ← lcm_take hi]
  · rintro ρ ⟨o2, o3, rfl⟩
    rw [List.take_length]
    simp
    exact h
def invLcm2 (qs : List Rat) (i : Nat) (ρ : DEnv) : Prop := ∃ o2, ρ = [some (.lst (qs.map fq)), some (.int (lcmQ (qs.take i))), o2]
theorem p__law_multiple (ds : List D) (Q : D → Prop) (E : Xn → Prop) (h : spLcm.run ds Q E) : wpDef n__law_multiple.length (c__law_multiple spLGcd) ds Q E := by
  obtain ⟨qs, rfl, hc, h⟩ := h
  simp [wpDef, c__law_multiple, n__law_multiple, start]
  refine wS_for (invLcm2 qs) ?_
  simp
  refine ⟨⟨none, rfl⟩, ?_, ?_⟩
  · rintro i x ρ q hx rfl ⟨o2, rfl⟩
    obtain ⟨hi, rfl⟩ := List.getElem?_eq_some_iff.mp hx
    have hd := den_small hc (List.getElem_mem hi)
    simp
    refine ⟨by simp [onI2]; exact Nat.lt_of_lt_of_le hd (Nat.pow_le_pow_right (by omega) (by omega)), ?_⟩
    simp [mapI2]
    refine ⟨gcd_div_ok (qs[i]).den_nz hd, lcm_mulok hc hi, some (fq (qs[i])), ?_⟩
    rw [lcm_step lcmQ_ne, ← lcm_take hi]
  · rintro ρ ⟨o2, rfl⟩
    rw [List.take_length]
    simp
    exact h
/-! ### sorting -/
/-- what a movement is sorted by, with a common multiple -/
def keyM (L : Nat) (m : Mv) : D := .tup [.int m.a, .int m.b, .int m.c, .int m.d, .int (m.u.num * ((L : Int).fdiv m.u.den)), .int (m.v.num * ((L : Int).fdiv m.v.den))]
def mdens (ms : List Mv) : List Rat := ms.map Mv.u ++ ms.map Mv.v
def sortM (ms : List Mv) : List Mv := srtB (fun x y => ltT (keyM (lcmQ (mdens ms)) x) (keyM (lcmQ (mdens ms)) y)) ms
theorem ins_map {α β : Type} {f : α → β} {lt : β → β → Bool} (x : α) : ∀ ys : List α, insB lt (f x) (ys.map f) = (insB (fun a b => lt (f a) (f b)) x ys).map f
  | [] => rfl
  | y :: ys => by
    rw [List.map_cons]
    unfold insB
    split
    · rw [List.map_cons, ins_map x ys]
    · rw [List.map_cons, List.map_cons]
theorem srt_map {α β : Type} {f : α → β} {lt : β → β → Bool} (xs : List α) : srtB lt (xs.map f) = (srtB (fun a b => lt (f a) (f b)) xs).map f := by
  induction xs with
  | nil => rfl
  | cons x xs ih =>
    show insB lt (f x) (srtB lt (xs.map f)) = _
    rw [ih, ins_map]
    rfl
theorem srt_lt {α : Type} {lt lt' : α → α → Bool} {xs : List α} (h : ∀ x ∈ xs, ∀ y ∈ xs, lt x y = lt' x y) : srtB lt xs = srtB lt' xs := by
  induction xs with
  | nil => rfl
  | cons x xs ih =>
    have ih := ih fun a ha b hb => h a (List.mem_cons_of_mem _ ha) b (List.mem_cons_of_mem _ hb)
    show insB lt x (srtB lt xs) = insB lt' x (srtB lt' xs)
    rw [ih]
    have hm : ∀ y ∈ srtB lt' xs, y ∈ x :: xs := fun y hy => List.mem_cons_of_mem _ ((srt_perm xs).mem_iff.mp hy)
    clear ih
    generalize srtB lt' xs = ys at hm
    induction ys with
    | nil => rfl
    | cons y ys ih2 =>
      unfold insB
      rw [h y (hm y List.mem_cons_self) x List.mem_cons_self, ih2 fun z hz => hm z (List.mem_cons_of_mem _ hz)]
/-- sizes: entries any, shifts within the line -/
def mvsOk (ms : List Mv) : Prop := cden (mdens ms) ∧ ∀ m ∈ ms, sz m.u ≤ 1000 ∧ sz m.v ≤ 1000
def spAsc2 : Spec := ⟨fun ds Q _ => ∃ ms : List Mv, ds = [.lst (ms.map Mv.D)] ∧ mvsOk ms ∧ ms.length ≤ 4000000 ∧ Q (.lst ((sortM ms).map Mv.D)), fun _ _ _ _ _ ⟨ms, e, h1, h2, q⟩ hq _ => ⟨ms, e, h1, h2, hq _ q⟩⟩
def spScaled : Spec := ⟨fun ds Q _ => ∃ (q : Rat) (L : Nat), ds = [fq q, .int L] ∧ sz q ≤ 1000 ∧ L < 2 ^ 100 ∧ Q (.int (q.num * ((L : Int).fdiv q.den))), fun _ _ _ _ _ ⟨a, L, e, h1, h2, q⟩ hq _ => ⟨a, L, e, h1, h2, hq _ q⟩⟩
theorem scaled_ok {q : Rat} {L : Nat} (h : sz q ≤ 1000) (hL : L < 2 ^ 100) : DivOk (q.den : Int) ∧ MulOk q.num ((L : Int).fdiv q.den) := by
  obtain ⟨h1, h2⟩ := num_k h
  refine ⟨divOk_big (by have := q.den_nz; omega) (Nat.lt_of_lt_of_le h2 (Nat.pow_le_pow_right (by omega) (by omega))), ?_⟩
  rw [Int.fdiv_eq_ediv_of_nonneg _ (by omega)]
  have e2 : ((L : Int) / ((q.den : Nat) : Int)) = ((L / q.den : Nat) : Int) := rfl
  rw [e2]
  have h3 := Nat.div_le_self L q.den
  exact mulOk_k (k := 1000) h1 (by rw [Int.natAbs_natCast]; exact Nat.lt_of_le_of_lt h3 (Nat.lt_of_lt_of_le hL (Nat.pow_le_pow_right (by omega) (by omega)))) (by omega)
theorem p_scaled (ds : List D) (Q : D → Prop) (E : Xn → Prop) (h : spScaled.run ds Q E) : wpDef n_scaled.length c_scaled ds Q E := by
  obtain ⟨q, L, rfl, h1, h2, h⟩ := h
  simp [wpDef, c_scaled, n_scaled, start]
  exact ⟨(scaled_ok h1 h2).1, (scaled_ok h1 h2).2, h⟩
theorem key_ok {L : Nat} (ms : List Mv) : TupsOk 60 (ms.map (keyM L)) := by
  refine ⟨fun d hd e he => ?_, fun d hd => ?_, fun d hd => ?_⟩
  · obtain ⟨x, _, rfl⟩ := List.mem_map.mp hd
    obtain ⟨y, _, rfl⟩ := List.mem_map.mp he
    simp [keyM, cmpOk, cmpOks]
  · obtain ⟨x, _, rfl⟩ := List.mem_map.mp hd
    rfl
  · obtain ⟨x, _, rfl⟩ := List.mem_map.mp hd
    simp [keyM, D.plain, D.plains]
theorem mD_ok (m : Mv) : cmpOk m.D m.D = true ∧ ne1 m.D = true := by
  refine ⟨?_, rfl⟩
  simp [Mv.D, cmpOk, cmpOks, fq, -fold_self]
/-- the movement that data tells -/
def mvOf : D → Mv
  | .tup [.int a, .int b, .int c, .int d, .tup [.int p, .int q], .tup [.int r, .int s]] => ⟨a, b, c, d, Rat.divInt p q, Rat.divInt r s⟩
  | _ => Mv.one
theorem mvOf_D (m : Mv) : mvOf m.D = m := by
  show (⟨m.a, m.b, m.c, m.d, Rat.divInt m.u.num m.u.den, Rat.divInt m.v.num m.v.den⟩ : Mv) = m
  rw [Rat.num_divInt_den, Rat.num_divInt_den]
theorem tupD {m : Mv} : m.D = .tup [.int m.a, .int m.b, .int m.c, .int m.d, fq m.u, fq m.v] := rfl
theorem lc_uv (ms : List Mv) (h : ms.length ≤ 4000000) {ρ : DEnv} {Q : D → Prop} {E : Xn → Prop} {t i : Nat} (hs : slot ρ i = some (.lst (ms.map Mv.D))) (ht : t < ρ.length) :
    (Q (.lst ((ms.map Mv.u).map fq)) → wpE (.lc (.nm t) (.var i) [] (.ix (.var t) (.int 4))) ρ Q E) ∧ (Q (.lst ((ms.map Mv.v).map fq)) → wpE (.lc (.nm t) (.var i) [] (.ix (.var t) (.int 5))) ρ Q E) := by
  have go : ∀ (k : Int) (g : Mv → Rat), (∀ m : Mv, atD [.int m.a, .int m.b, .int m.c, .int m.d, fq m.u, fq m.v] k = some (fq (g m))) → Q (.lst ((ms.map g).map fq)) → wpE (.lc (.nm t) (.var i) [] (.ix (.var t) (.int k))) ρ Q E := by
    intro k g hg hq
    unfold wpE
    rw [wE_var, hs, opt_some]
    refine ⟨_, rfl, wpLc_map (fun d => some (fq (g (mvOf d)))) (fun x hx K hK => ?_) (by simp; omega) ?_⟩
    · obtain ⟨m, _, rfl⟩ := List.mem_map.mp hx
      rw [mvOf_D] at hK
      refine ⟨_, rfl, ?_⟩
      unfold wpIfs
      show (if true = true then _ else _)
      rw [if_pos rfl, wE_ix, wE_var]
      have : slot (ρ.set t (some m.D)) t = some m.D := by unfold slot; rw [List.getElem?_set_self ht]; rfl
      rw [this, opt_some, wE_int, tupD, ix_T, hg, opt_some]
      exact hK
    · rw [List.nil_append, List.filterMap_map]
      have e : ((fun d => some (fq (g (mvOf d)))) ∘ Mv.D) = fun m => some (fq (g m)) := by funext m; simp [mvOf_D]
      rw [e]
      have e2 : ms.filterMap (fun m => some (fq (g m))) = (ms.map g).map fq := by rw [List.map_map, ← List.filterMap_eq_map]; rfl
      rw [e2]
      exact hq
  exact ⟨go 4 Mv.u fun m => by simp, go 5 Mv.v fun m => by simp⟩
theorem p_ascending (ds : List D) (Q : D → Prop) (E : Xn → Prop) (h : spAsc2.run ds Q E) : wpDef n_ascending.length (c_ascending spLcm spScaled) ds Q E := by
  obtain ⟨ms, rfl, hok, hl, h⟩ := h
  simp [wpDef, c_ascending, n_ascending, start]
  refine (lc_uv ms hl (by simp) (by simp)).1 ?_
  refine (lc_uv ms hl (by simp) (by simp)).2 ?_
  simp only [b_addL]
  refine ⟨by simp; omega, mdens ms, by simp [mdens], hok.1, ?_⟩
  simp
  refine wE_sortk (fun d => keyM (lcmQ (mdens ms)) (mvOf d)) ?_
  simp
  refine ⟨fun m hm => ⟨mD_ok m, ?_⟩, ?_, ?_⟩
  · obtain ⟨s1, s2⟩ := hok.2 m hm
    have hL := cden_lt hok.1
    simp [tupD, cut4]
    refine ⟨m.u, _, rfl, s1, hL, ?_⟩
    refine ⟨m.v, _, rfl, s2, hL, ?_⟩
    simp
    rw [← tupD, mvOf_D]
    rfl
  · have e : (fun d => keyM (lcmQ (mdens ms)) (mvOf d)) ∘ Mv.D = keyM (lcmQ (mdens ms)) := by funext m; simp [mvOf_D]
    rw [e]
    exact key_ok ms
  · rw [srt_map]
    simp only [mvOf_D]
    exact h
theorem p__law_sorted (ds : List D) (Q : D → Prop) (E : Xn → Prop) (h : spAsc2.run ds Q E) : wpDef n__law_sorted.length (c__law_sorted spLcm) ds Q E := by
  obtain ⟨ms, rfl, hok, hl, h⟩ := h
  simp [wpDef, c__law_sorted, n__law_sorted, start]
  refine (lc_uv ms hl (by simp) (by simp)).1 ?_
  refine (lc_uv ms hl (by simp) (by simp)).2 ?_
  simp only [b_addL]
  refine ⟨by simp; omega, mdens ms, by simp [mdens], hok.1, ?_⟩
  simp
  refine wE_sortk (fun d => keyM (lcmQ (mdens ms)) (mvOf d)) ?_
  simp
  refine ⟨fun m hm => ⟨mD_ok m, ?_⟩, ?_, ?_⟩
  · obtain ⟨s1, s2⟩ := hok.2 m hm
    have hL := cden_lt hok.1
    obtain ⟨a1, a2⟩ := scaled_ok s1 hL
    obtain ⟨b1, b2⟩ := scaled_ok s2 hL
    simp [tupD, cut4]
    refine ⟨a1, a2, b1, b2, ?_⟩
    rw [← tupD, mvOf_D]
    rfl
  · have e : (fun d => keyM (lcmQ (mdens ms)) (mvOf d)) ∘ Mv.D = keyM (lcmQ (mdens ms)) := by funext m; simp [mvOf_D]
    rw [e]
    exact key_ok ms
  · rw [srt_map]
    simp only [mvOf_D]
    exact h
end Dl

/-! DlGen: what movements generate: the walks. -/
namespace Dl
open PySem
theorem enc2 : EncOk M2.D := ⟨fun _ _ h => M2.D_inj h, fun _ => rfl⟩
theorem encM : EncOk Mv.D := ⟨fun _ _ h => Mv.D_inj h, fun _ => rfl⟩
@[simp] theorem isKey_mat {a b c d : Int} : isKey (mat a b c d) = true := rfl
theorem asgTs_nm {i : Nat} {x : D} {ρ : DEnv} : asgT (.nm i) x ρ = some (ρ.set i (some x)) := rfl
theorem map_get {α : Type} {g : α → D} {L : List α} {i : Nat} {x : D} (h : (L.map g)[i]? = some x) : ∃ (hi : i < L.length), x = g L[i] := by
  rw [List.getElem?_map] at h
  cases e : L[i]? with
  | none => rw [e] at h; cases h
  | some y =>
    rw [e] at h
    cases h
    obtain ⟨h1, h2⟩ := List.getElem?_eq_some_iff.mp e
    exact ⟨h1, by rw [h2]⟩
/-- matrices: how they grow -/
def gr2 (i : Nat) (x : M2) : Prop := iok (12 * i + 2) x.a x.b x.c x.d
theorem bnd2 {ms : List M2} (h : ∀ m ∈ ms, iok 11 m.a m.b m.c m.d) : Bnd gr2 M2.mul ms :=
  ⟨fun i x hx => iok_up hx (by omega), fun i x m hx hm => iok_up (iok_mul hx (h m hm)) (by omega)⟩
theorem gr2_one : gr2 0 M2.one := ⟨show (1 : Int).natAbs < 2 ^ 2 by decide, show (0 : Int).natAbs < 2 ^ 2 by decide, show (0 : Int).natAbs < 2 ^ 2 by decide, show (1 : Int).natAbs < 2 ^ 2 by decide⟩
/-- the matrices that the movements' ones make: at most 12 -/
def mats12 (ms : List Mv) : Option (List M2) := closeL M2.mul (ms.map Mv.mt) 12 M2.one
def spCheck : Spec := ⟨fun ds Q E => ∃ (d : D) (ms : List Mv), ds = [d] ∧ items d = some (ms.map Mv.D) ∧ (∀ m ∈ ms, iok 11 m.a m.b m.c m.d) ∧ (match mats12 ms with | none => E ⟨"NotFinite", []⟩ | some _ => Q .non),
  fun _ _ _ _ _ ⟨d, ms, e, h1, h2, q⟩ hq he => ⟨d, ms, e, h1, h2, by
    cases h : mats12 ms with
    | none => rw [h] at q; exact he _ q
    | some _ => rw [h] at q; exact hq _ q⟩⟩
def invCk (d : D) (ms : List Mv) (ρ : DEnv) : Prop := ∃ (F W : List M2) (n : Nat) (o3 o4 o5 : Option D), ρ = [some d, some (setD M2.D F), some (.lst (W.map M2.D)), o3, o4, o5] ∧ Wld gr2 12 F W ∧ cm 12 (F, W) < n ∧ clo M2.mul (ms.map Mv.mt) 12 n (F, W) = mats12 ms
def invCk2 (d : D) (ms : List Mv) (c : M2) (n k : Nat) (i : Nat) (ρ : DEnv) : Prop := ∃ (F W : List M2) (o4 o5 : Option D), ρ = [some d, some (setD M2.D F), some (.lst (W.map M2.D)), some c.D, o4, o5] ∧ Wld gr2 12 F W ∧ c ∈ F ∧ cm 12 (F, W) ≤ k ∧
  (scan M2.mul 12 c ((ms.map Mv.mt).drop i) (F, W)).bind (clo M2.mul (ms.map Mv.mt) 12 n) = mats12 ms
theorem p_check_finite (ds : List D) (Q : D → Prop) (E : Xn → Prop) (h : spCheck.run ds Q E) : wpDef n_check_finite.length (c_check_finite spProd) ds Q E := by
  obtain ⟨d, ms, rfl, hd, hb, h⟩ := h
  have B := bnd2 (ms := ms.map Mv.mt) (fun m hm => by
    obtain ⟨x, hx, rfl⟩ := List.mem_map.mp hm
    exact hb x hx)
  simp [wpDef, c_check_finite, n_check_finite, start, cut4]
  refine wS_whl (invCk d ms) (fun ρ => match ρ with | [_, some (.dict ks _), some (.lst ws), _, _, _] => 2 * (12 - ks.length) + ws.length | _ => 0) ⟨[M2.one], [M2.one], 25, none, none, none, rfl, wld_start gr2_one (by decide), by decide, rfl⟩ ?_
  rintro ρ ⟨F, W, n, o3, o4, o5, rfl, w, hn, hc⟩
  simp [setD, -wB_cons]
  rcases List.eq_nil_or_concat W with rfl | ⟨ws, c, rfl⟩
  · simp
    cases n with
    | zero => omega
    | succ n =>
      rw [clo_done] at hc
      rw [← hc] at h
      exact h
  · rw [List.concat_eq_append] at *
    cases n with
    | zero => omega
    | succ n =>
    rw [clo_step] at hc
    have hcm : cm 12 (F, ws) + 1 = cm 12 (F, ws ++ [c]) := by unfold cm; simp; omega
    obtain ⟨w1, hcF⟩ := w.pop
    simp [-wB_cons]
    rw [wB_cons, wS_pop]
    simp [-wB_cons]
    rw [wB_cons]
    refine wS_for (invCk2 d ms c n (cm 12 (F, ws))) ?_
    simp [hd]
    refine ⟨⟨F, ws, o4, o5, rfl, w1, hcF, Nat.le_refl _, hc⟩, ?_, ?_⟩
    · rintro i x ρ m hx rfl ⟨F, W, o4, o5, rfl, w, hcF, hk, hc⟩
      obtain ⟨hi, rfl⟩ := List.getElem?_eq_some_iff.mp hx
      have hm : (ms[i]).mt ∈ ms.map Mv.mt := List.mem_map.mpr ⟨_, List.getElem_mem hi, rfl⟩
      rw [List.drop_eq_getElem_cons (by simpa using hi), List.getElem_map] at hc
      unfold scan at hc
      obtain ⟨j, hj, pc⟩ := w.at_ hcF
      have hl := w.l
      simp [setD]
      refine ⟨c.a, c.b, c.c, c.d, [], (ms[i]).a, (ms[i]).b, (ms[i]).c, (ms[i]).d, _, rfl, iok_up pc (by omega), iok_up (hb _ (List.getElem_mem hi)) (by omega), ?_⟩
      simp
      have e : mat (ms[i].a * c.a + ms[i].b * c.c) (ms[i].a * c.b + ms[i].b * c.d) (ms[i].c * c.a + ms[i].d * c.c) (ms[i].c * c.b + ms[i].d * c.d) = (c.mul ms[i].mt).D := rfl
      have hwl := w.wl
      rw [e, enc2.has]
      by_cases hin : c.mul ms[i].mt ∈ F
      · rw [if_pos hin] at hc
        rw [if_pos (by simpa using hin)]
        exact ⟨F, W, _, _, rfl, w, hcF, hk, hc⟩
      · rw [if_neg hin] at hc
        rw [if_neg (by simpa using hin)]
        by_cases h12 : F.length = 12
        · rw [if_pos h12] at hc
          rw [if_pos (by omega)]
          rw [← hc] at h
          exact h
        · rw [if_neg h12] at hc
          rw [if_neg (by omega), enc2.put hin]
          refine ⟨by omega, by omega, F ++ [c.mul ms[i].mt], W ++ [c.mul ms[i].mt], some (ms[i]).D, some (c.mul (ms[i]).mt).D, by simp [setD], w.push B hcF hm (by omega) hin, List.mem_append_left _ hcF, ?_, hc⟩
          refine Nat.le_trans ?_ hk
          unfold cm
          simp
          omega
    · rintro ρ ⟨F', W, o4, o5, rfl, w, hcF, hk, hc⟩
      rw [List.drop_of_length_le (by simp)] at hc
      refine ⟨⟨F', W, n, _, _, _, rfl, w, by omega, hc⟩, ?_⟩
      unfold cm at hcm hk
      simp [setD] at hcm hk ⊢
      omega
/-! ### the law's matrices -/
def optL {α : Type} (enc : α → D) : Option (List α) → D
  | none => .non
  | some L => .lst (L.map enc)
def spMatsL : Spec := ⟨fun ds Q _ => ∃ ms : List Mv, ds = [.lst (ms.map Mv.D)] ∧ (∀ m ∈ ms, iok 11 m.a m.b m.c m.d) ∧ Q (optL M2.D (mats12 ms)), fun _ _ _ _ _ ⟨ms, e, h1, q⟩ hq _ => ⟨ms, e, h1, hq _ q⟩⟩
def invLm (ms : List Mv) (i : Nat) (ρ : DEnv) : Prop := ∃ (F W : List M2) (n : Nat) (o3 o4 o5 o6 : Option D), ρ = [some (.lst (ms.map Mv.D)), some (setD M2.D F), some (.lst (W.map M2.D)), o3, o4, o5, o6] ∧ Wld gr2 12 F W ∧ cm 12 (F, W) < n ∧ cm 12 (F, W) + i ≤ 23 ∧ clo M2.mul (ms.map Mv.mt) 12 n (F, W) = mats12 ms
def invLm2 (ms : List Mv) (t : D) (c : M2) (n k : Nat) (i : Nat) (ρ : DEnv) : Prop := ∃ (F W : List M2) (o5 o6 : Option D), ρ = [some (.lst (ms.map Mv.D)), some (setD M2.D F), some (.lst (W.map M2.D)), some t, some c.D, o5, o6] ∧ Wld gr2 12 F W ∧ c ∈ F ∧ cm 12 (F, W) ≤ k ∧
  (scan M2.mul 12 c ((ms.map Mv.mt).drop i) (F, W)).bind (clo M2.mul (ms.map Mv.mt) 12 n) = mats12 ms
theorem empty_eq {L : List D} (h : D.plain 64 (.lst L) = true) {Q : D → Prop} : cmpD .eq (.lst L) (.lst []) Q = Q (.bl L.isEmpty) := by
  rw [c_eqD]
  have e : eqb (.lst L) (.lst []) = L.isEmpty := by
    unfold eqb
    cases L <;> simp [D.toP, D.toPs, PyData.eqv, PyData.eqvAll]
  rw [e, h]
  simp [D.plain, D.plains]
theorem plain_list {α : Type} {enc : α → D} (n : Nat) (h : ∀ x, D.dat n (enc x) = true) (hn : n ≤ 63) (L : List α) : D.plain 64 (.lst (L.map enc)) = true := by
  simp only [D.plain]
  induction L with
  | nil => rfl
  | cons x L ih => simp only [List.map_cons, D.plains, Bool.and_eq_true]; exact ⟨dat_plain _ n 63 hn (h x), ih⟩
theorem p__law_matrices (ds : List D) (Q : D → Prop) (E : Xn → Prop) (h : spMatsL.run ds Q E) : wpDef n__law_matrices.length (c__law_matrices spProd) ds Q E := by
  obtain ⟨ms, rfl, hb, h⟩ := h
  have B := bnd2 (ms := ms.map Mv.mt) (fun m hm => by
    obtain ⟨x, hx, rfl⟩ := List.mem_map.mp hm
    exact hb x hx)
  simp [wpDef, c__law_matrices, n__law_matrices, start]
  refine wS_for (invLm ms) ?_
  simp [-wB_cons]
  refine ⟨⟨[M2.one], [M2.one], 25, none, none, none, none, rfl, wld_start gr2_one (by decide), by decide, by decide, rfl⟩, ?_, ?_⟩
  · rintro i x ρ hi ⟨F, W, n, o3, o4, o5, o6, rfl, w, hn, hi2, hc⟩
    obtain ⟨hl, rfl⟩ := rng_get hi
    simp [setD, -wB_cons]
    rw [wB_cons]
    simp [-wB_cons]
    rw [empty_eq (plain_list (enc := M2.D) 2 (fun x => dat_mat 0) (by omega) W)]
    rcases List.eq_nil_or_concat W with rfl | ⟨ws, c, rfl⟩
    · simp
      cases n with
      | zero => omega
      | succ n =>
        rw [clo_done] at hc
        rw [← hc] at h
        exact h
    · rw [List.concat_eq_append] at *
      cases n with
      | zero => omega
      | succ n =>
      rw [clo_step] at hc
      have hcm : cm 12 (F, ws) + 1 = cm 12 (F, ws ++ [c]) := by unfold cm; simp; omega
      obtain ⟨w1, hcF⟩ := w.pop
      simp [-wB_cons]
      rw [wB_cons, wS_pop]
      simp [-wB_cons]
      rw [wB_cons]
      refine wS_for (invLm2 ms (.int i) c n (cm 12 (F, ws))) ?_
      simp
      refine ⟨⟨F, ws, o5, o6, rfl, w1, hcF, Nat.le_refl _, hc⟩, ?_, ?_⟩
      · rintro i' x ρ m hx rfl ⟨F, W, o5, o6, rfl, w, hcF, hk, hc⟩
        obtain ⟨hi, rfl⟩ := List.getElem?_eq_some_iff.mp hx
        have hm : (ms[i']).mt ∈ ms.map Mv.mt := List.mem_map.mpr ⟨_, List.getElem_mem hi, rfl⟩
        rw [List.drop_eq_getElem_cons (by simpa using hi), List.getElem_map] at hc
        unfold scan at hc
        obtain ⟨j, hj, pc⟩ := w.at_ hcF
        have hl := w.l
        simp [setD]
        refine ⟨c.a, c.b, c.c, c.d, [], (ms[i']).a, (ms[i']).b, (ms[i']).c, (ms[i']).d, _, rfl, iok_up pc (by omega), iok_up (hb _ (List.getElem_mem hi)) (by omega), ?_⟩
        simp
        have e : mat (ms[i'].a * c.a + ms[i'].b * c.c) (ms[i'].a * c.b + ms[i'].b * c.d) (ms[i'].c * c.a + ms[i'].d * c.c) (ms[i'].c * c.b + ms[i'].d * c.d) = (c.mul ms[i'].mt).D := rfl
        have hwl := w.wl
        rw [e, enc2.has]
        by_cases hin : c.mul ms[i'].mt ∈ F
        · rw [if_pos hin] at hc
          rw [if_pos (by simpa using hin)]
          exact ⟨F, W, _, _, rfl, w, hcF, hk, hc⟩
        · rw [if_neg hin] at hc
          rw [if_neg (by simpa using hin)]
          by_cases h12 : F.length = 12
          · rw [if_pos h12] at hc
            rw [if_pos (by omega)]
            rw [← hc] at h
            exact h
          · rw [if_neg h12] at hc
            rw [if_neg (by omega), enc2.put hin]
            refine ⟨by omega, by omega, F ++ [c.mul ms[i'].mt], W ++ [c.mul ms[i'].mt], some (ms[i']).D, some (c.mul (ms[i']).mt).D, by simp [setD], w.push B hcF hm (by omega) hin, List.mem_append_left _ hcF, ?_, hc⟩
            refine Nat.le_trans ?_ hk
            unfold cm
            simp
            omega
      · rintro ρ ⟨F', W, o5, o6, rfl, w, hcF, hk, hc⟩
        rw [List.drop_of_length_le (by simp)] at hc
        exact ⟨F', W, n, _, _, _, _, rfl, w, by omega, by omega, hc⟩
  · rintro ρ ⟨F, W, n, o3, o4, o5, o6, rfl, w, hn, hi2, hc⟩
    rw [rng_len] at hi2
    have : Int.toNat 100 = 100 := rfl
    omega
/-! ### movements -/
/-- the settled movements that the steps make -/
def gens (ss : List Mv) (most : Nat) : Option (List Mv) := closeL Mv.st ss most Mv.one
structure GenOk (P : Nat → Mv → Prop) (ss : List Mv) (most : Nat) : Prop where
  B : Bnd P Mv.st ss
  h0 : P 0 Mv.one
  sz : ∀ i x, i < most → P i x → mokk 300 x.a x.b x.c x.d x.u x.v
  st : ∀ m ∈ ss, mokk 300 m.a m.b m.c m.d m.u m.v
  mo : 1 ≤ most ∧ most ≤ 900
theorem run_thenM {m n : Mv} {Q : D → Prop} {E : Xn → Prop} (h1 : mokk 300 m.a m.b m.c m.d m.u m.v) (h2 : mokk 300 n.a n.b n.c n.d n.u n.v) (q : Q (m.then n).D) : spThen.run [m.D, n.D] Q E :=
  ⟨m.a, m.b, m.c, m.d, m.u, m.v, n.a, n.b, n.c, n.d, n.u, n.v, rfl, h1, h2, q⟩
def spClosed : Spec := ⟨fun ds Q _ => ∃ (ss : List Mv) (most : Nat) (P : Nat → Mv → Prop), ds = [.lst (ss.map Mv.D), .int most] ∧ GenOk P ss most ∧ Q (optL Mv.D (gens ss most)), fun _ _ _ _ _ ⟨ms, k, P, e, h1, q⟩ hq _ => ⟨ms, k, P, e, h1, hq _ q⟩⟩
def spIdent : Spec := ⟨fun ds Q _ => ds = [] ∧ Q Mv.one.D, fun _ _ _ _ _ ⟨e, q⟩ hq _ => ⟨e, hq _ q⟩⟩
theorem p__law_identity (ds : List D) (Q : D → Prop) (E : Xn → Prop) (h : spIdent.run ds Q E) : wpDef n__law_identity.length c__law_identity ds Q E := by
  obtain ⟨rfl, h⟩ := h
  simp [wpDef, c__law_identity, n__law_identity, start]
  exact h
def invLc (ss : List Mv) (most : Nat) (P : Nat → Mv → Prop) (i : Nat) (ρ : DEnv) : Prop := ∃ (F W : List Mv) (n : Nat) (o4 o5 o6 o7 : Option D), ρ = [some (.lst (ss.map Mv.D)), some (.int most), some (setD Mv.D F), some (.lst (W.map Mv.D)), o4, o5, o6, o7] ∧ Wld P most F W ∧ cm most (F, W) < n ∧ cm most (F, W) + i ≤ 2 * most ∧
  clo Mv.st ss most n (F, W) = gens ss most
def invLc2 (ss : List Mv) (most : Nat) (P : Nat → Mv → Prop) (t : D) (c : Mv) (n k : Nat) (i : Nat) (ρ : DEnv) : Prop := ∃ (F W : List Mv) (o6 o7 : Option D), ρ = [some (.lst (ss.map Mv.D)), some (.int most), some (setD Mv.D F), some (.lst (W.map Mv.D)), some t, some c.D, o6, o7] ∧ Wld P most F W ∧ c ∈ F ∧ cm most (F, W) ≤ k ∧
  (scan Mv.st most c (ss.drop i) (F, W)).bind (clo Mv.st ss most n) = gens ss most
theorem isKey_M (m : Mv) : isKey m.D = true := encM.key m
theorem cm_one {α : Type} {most : Nat} {x : α} (h : 1 ≤ most) : cm most ([x], [x]) = 2 * most - 1 := by unfold cm; simp; omega
theorem p__law_closed (ds : List D) (Q : D → Prop) (E : Xn → Prop) (h : spClosed.run ds Q E) : wpDef n__law_closed.length (c__law_closed spIdent spSettled spThen) ds Q E := by
  obtain ⟨ss, most, P, rfl, G, h⟩ := h
  have hmo := G.mo
  simp [wpDef, c__law_closed, n__law_closed, start]
  refine ⟨rfl, ?_⟩
  simp [isKey_M]
  refine ⟨rfl, ?_⟩
  simp
  refine wS_for (invLc ss most P) ?_
  simp [-wB_cons]
  refine ⟨⟨[Mv.one], [Mv.one], 2 * most + 1, none, none, none, none, rfl, wld_start G.h0 hmo.1, by rw [cm_one hmo.1]; omega, by rw [cm_one hmo.1]; omega, rfl⟩, ?_, ?_⟩
  · rintro i x ρ hi ⟨F, W, n, o4, o5, o6, o7, rfl, w, hn, hi2, hc⟩
    obtain ⟨hl, rfl⟩ := rng_get hi
    simp [setD, -wB_cons]
    rw [wB_cons]
    simp [-wB_cons]
    rw [empty_eq (plain_list (enc := Mv.D) 3 (fun x => dat_mov 0) (by omega) W)]
    rcases List.eq_nil_or_concat W with rfl | ⟨ws, c, rfl⟩
    · simp
      cases n with
      | zero => omega
      | succ n =>
        rw [clo_done] at hc
        rw [← hc] at h
        exact h
    · rw [List.concat_eq_append] at *
      cases n with
      | zero => omega
      | succ n =>
      rw [clo_step] at hc
      have hcm : cm most (F, ws) + 1 = cm most (F, ws ++ [c]) := by unfold cm; simp; omega
      obtain ⟨w1, hcF⟩ := w.pop
      simp [-wB_cons]
      rw [wB_cons, wS_pop]
      simp [-wB_cons]
      rw [wB_cons]
      refine wS_for (invLc2 ss most P (.int i) c n (cm most (F, ws))) ?_
      simp
      refine ⟨⟨F, ws, o6, o7, rfl, w1, hcF, Nat.le_refl _, hc⟩, ?_, ?_⟩
      · rintro i' x ρ m hx rfl ⟨F, W, o6, o7, rfl, w, hcF, hk, hc⟩
        obtain ⟨hi, rfl⟩ := List.getElem?_eq_some_iff.mp hx
        have hm := List.getElem_mem hi
        rw [List.drop_eq_getElem_cons hi] at hc
        unfold scan at hc
        obtain ⟨j, hj, pc⟩ := w.at_ hcF
        have hl := w.l
        simp [setD]
        refine run_thenM (G.sz j c (by omega) pc) (G.st _ hm) ?_
        refine run_stl ?_
        have e : (c.then ss[i']).stl.D = (c.st ss[i']).D := rfl
        have hwl := w.wl
        simp [isKey_M]
        rw [e, encM.has]
        by_cases hin : c.st ss[i'] ∈ F
        · rw [if_pos hin] at hc
          rw [if_pos (by simpa using hin)]
          exact ⟨F, W, _, _, rfl, w, hcF, hk, hc⟩
        · rw [if_neg hin] at hc
          rw [if_neg (by simpa using hin)]
          by_cases h12 : F.length = most
          · rw [if_pos h12] at hc
            rw [if_pos (by omega)]
            rw [← hc] at h
            exact h
          · rw [if_neg h12] at hc
            rw [if_neg (by omega), encM.put hin]
            refine ⟨by omega, by omega, F ++ [c.st ss[i']], W ++ [c.st ss[i']], some (ss[i']).D, some (c.st (ss[i'])).D, by simp [setD], w.push G.B hcF hm (by omega) hin, List.mem_append_left _ hcF, ?_, hc⟩
            refine Nat.le_trans ?_ hk
            unfold cm
            simp
            omega
      · rintro ρ ⟨F', W, o6, o7, rfl, w, hcF, hk, hc⟩
        rw [List.drop_of_length_le (by simp)] at hc
        exact ⟨F', W, n, _, _, _, _, rfl, w, by omega, by omega, hc⟩
  · rintro ρ ⟨F, W, n, o4, o5, o6, o7, rfl, w, hn, hi2, hc⟩
    rw [rng_len] at hi2
    have : Int.toNat 2000 = 2000 := rfl
    omega
/-! ### generated -/
inductive GR where
  | inf | many | ok (L : List Mv)
def genR (ms : List Mv) : GR := match mats12 ms with
  | none => .inf
  | some _ => match gens ms 600 with
    | none => .many
    | some L => .ok L
/-- steps whose closing is within the line -/
def gpre (ms : List Mv) : Prop := (∀ m ∈ ms, iok 11 m.a m.b m.c m.d ∧ sz m.u ≤ 250 ∧ sz m.v ≤ 250) ∧ ∃ N : Nat, N ≠ 0 ∧ N < 2 ^ 100 ∧ ∀ m ∈ ms, isN N m.u ∧ isN N m.v
/-- what a closing's movements are -/
def inP (L : List M2) (N : Nat) (_ : Nat) (x : Mv) : Prop := x.mt ∈ L ∧ (isN N x.u ∧ 0 ≤ x.u ∧ x.u < 1) ∧ isN N x.v ∧ 0 ≤ x.v ∧ x.v < 1
theorem isN_lin {N : Nat} {p q r : Rat} (a b : Int) (h1 : isN N p) (h2 : isN N q) (h3 : isN N r) : isN N ((a : Rat) * p + b * q + r) := isN_add (isN_add (isN_mul a h1) (isN_mul b h2)) h3
theorem inP_st {L : List M2} {N : Nat} {ms : List Mv} (hcl : ∀ y ∈ L, ∀ m ∈ ms.map Mv.mt, M2.mul y m ∈ L) {i : Nat} {x m : Mv} (h : inP L N i x) (hm : m ∈ ms) (hu : isN N m.u) (hv : isN N m.v) : inP L N (i + 1) (x.st m) := by
  obtain ⟨h1, ⟨h2, _, _⟩, h3, _, _⟩ := h
  refine ⟨hcl _ h1 _ (List.mem_map.mpr ⟨m, hm, rfl⟩), ⟨isN_frc ?_, frc_nonneg _, frc_lt _⟩, isN_frc ?_, frc_nonneg _, frc_lt _⟩
  · exact isN_lin _ _ h2 h3 hu
  · exact isN_lin _ _ h2 h3 hv
theorem mats12_ok {ms : List Mv} {L : List M2} (hb : ∀ m ∈ ms, iok 11 m.a m.b m.c m.d) (h : mats12 ms = some L) : (∀ x ∈ L, iok 134 x.a x.b x.c x.d) ∧ M2.one ∈ L ∧ ∀ y ∈ L, ∀ m ∈ ms.map Mv.mt, M2.mul y m ∈ L := by
  obtain ⟨a, b, c⟩ := closeL_ok (bnd2 fun m hm => by
    obtain ⟨x, hx, rfl⟩ := List.mem_map.mp hm
    exact hb x hx) gr2_one (by decide) h
  refine ⟨fun x hx => ?_, b, c⟩
  obtain ⟨j, hj, p⟩ := a.at_ hx
  have := a.l
  exact iok_up p (by omega)
theorem frc_zero : frc 0 = 0 := frc_unit (by decide) (by decide)
theorem genOk_of {ms : List Mv} {L : List M2} {N : Nat} (hg : ∀ m ∈ ms, iok 11 m.a m.b m.c m.d ∧ sz m.u ≤ 250 ∧ sz m.v ≤ 250) (h0 : N ≠ 0) (h1 : N < 2 ^ 100) (hN : ∀ m ∈ ms, isN N m.u ∧ isN N m.v) (h : mats12 ms = some L) {most : Nat} (hm : 1 ≤ most ∧ most ≤ 900) :
    GenOk (inP L N) ms most := by
  obtain ⟨a, b, c⟩ := mats12_ok (fun m hm => (hg m hm).1) h
  refine ⟨⟨fun i x hx => hx, fun i x m hx hm => inP_st c hx hm (hN m hm).1 (hN m hm).2⟩, ⟨b, ⟨isN_zero, by decide, by decide⟩, isN_zero, by decide, by decide⟩, fun i x _ hx => ?_, fun m hm => ?_, hm⟩
  · obtain ⟨h2, ⟨h3, h4, h5⟩, h6, h7, h8⟩ := hx
    have s1 := sz_unit h0 h3 h4 h5 h1 (by omega)
    have s2 := sz_unit h0 h6 h7 h8 h1 (by omega)
    exact ⟨iok_up (a _ h2) (by omega), by omega, by omega⟩
  · obtain ⟨h2, h3, h4⟩ := hg m hm
    exact ⟨iok_up h2 (by omega), by omega, by omega⟩
theorem mats12_stl {ms : List Mv} : mats12 (ms.map Mv.stl) = mats12 ms := by
  unfold mats12
  rw [List.map_map]
  rfl
theorem gens_stl {ms : List Mv} {most : Nat} : gens (ms.map Mv.stl) most = gens ms most := by
  unfold gens closeL
  rw [clo_map]
  have e : (fun x m => Mv.st x (Mv.stl m)) = Mv.st := by funext x m; exact Mv.st_stl x m
  rw [e]
theorem gens_ok {P : Nat → Mv → Prop} {ss : List Mv} {most : Nat} {L : List Mv} (G : GenOk P ss most) (h : gens ss most = some L) : Wld P most L [] ∧ Mv.one ∈ L ∧ ∀ y ∈ L, ∀ m ∈ ss, Mv.st y m ∈ L := closeL_ok G.B G.h0 G.mo.1 h
/-- what is found may be sorted -/
theorem mvs_of {ML : List M2} {N : Nat} {L : List Mv} (h0 : N ≠ 0) (h1 : N < 2 ^ 100) (h : ∀ x ∈ L, inP ML N 0 x) : mvsOk L := by
  refine ⟨⟨N, h0, h1, fun q hq => ?_⟩, fun m hm => ?_⟩
  · rcases List.mem_append.mp hq with z | z
    · obtain ⟨m, hm, rfl⟩ := List.mem_map.mp z
      exact (isN_den h0).mp (h m hm).2.1.1
    · obtain ⟨m, hm, rfl⟩ := List.mem_map.mp z
      exact (isN_den h0).mp (h m hm).2.2.1
  · obtain ⟨_, ⟨h3, h4, h5⟩, h6, h7, h8⟩ := h m hm
    have s1 := sz_unit h0 h3 h4 h5 h1 (by omega)
    have s2 := sz_unit h0 h6 h7 h8 h1 (by omega)
    exact ⟨by omega, by omega⟩
def grQ (g : GR) (Q : D → Prop) (E : Xn → Prop) : Prop := match g with
  | .inf => E ⟨"NotFinite", []⟩
  | .many => E ⟨"TooMany", []⟩
  | .ok L => Q (.lst ((sortM L).map Mv.D))
theorem grQ_mono {g : GR} {Q Q' : D → Prop} {E E' : Xn → Prop} (h : grQ g Q E) (hq : ∀ d, Q d → Q' d) (he : ∀ x, E x → E' x) : grQ g Q' E' := by
  cases g with
  | inf => exact he _ h
  | many => exact he _ h
  | ok L => exact hq _ h
def spGenerated : Spec := ⟨fun ds Q E => ∃ (d : D) (ms : List Mv), ds = [d] ∧ items d = some (ms.map Mv.D) ∧ ms.length ≤ 100000 ∧ gpre ms ∧ grQ (genR ms) Q E, fun _ _ _ _ _ ⟨d, ms, e, h1, h2, h3, q⟩ hq he => ⟨d, ms, e, h1, h2, h3, grQ_mono q hq he⟩⟩
def invGn (d : D) (ss : List Mv) (P : Nat → Mv → Prop) (ρ : DEnv) : Prop := ∃ (F W : List Mv) (n : Nat) (o4 o5 o6 : Option D), ρ = [some d, some (.lst (ss.map Mv.D)), some (setD Mv.D F), some (.lst (W.map Mv.D)), o4, o5, o6] ∧ Wld P 600 F W ∧ cm 600 (F, W) < n ∧ clo Mv.st ss 600 n (F, W) = gens ss 600
def invGn2 (d : D) (ss : List Mv) (P : Nat → Mv → Prop) (c : Mv) (n k : Nat) (i : Nat) (ρ : DEnv) : Prop := ∃ (F W : List Mv) (o5 o6 : Option D), ρ = [some d, some (.lst (ss.map Mv.D)), some (setD Mv.D F), some (.lst (W.map Mv.D)), some c.D, o5, o6] ∧ Wld P 600 F W ∧ c ∈ F ∧ cm 600 (F, W) ≤ k ∧
  (scan Mv.st 600 c (ss.drop i) (F, W)).bind (clo Mv.st ss 600 n) = gens ss 600
theorem lc_settled {ms : List Mv} {d : D} {ρ : DEnv} {Q : D → Prop} {E : Xn → Prop} {t i : Nat} (hd : items d = some (ms.map Mv.D)) (hl : ms.length ≤ 100000) (hs : slot ρ i = some d) (ht : t < ρ.length) {f : Str} (q : Q (.lst ((ms.map Mv.stl).map Mv.D))) :
    wpE (.lc (.nm t) (.var i) [] (.call f spSettled [.var t])) ρ Q E := by
  unfold wpE
  rw [wE_var, hs, opt_some]
  refine ⟨_, hd, wpLc_map (fun d => some ((mvOf d).stl.D)) (fun x hx K hK => ?_) (by simp; omega) ?_⟩
  · obtain ⟨m, _, rfl⟩ := List.mem_map.mp hx
    rw [mvOf_D] at hK
    refine ⟨_, rfl, ?_⟩
    unfold wpIfs
    show (if true = true then _ else _)
    rw [if_pos rfl, wE_call, wEs_cons, wE_var]
    have : slot (ρ.set t (some m.D)) t = some m.D := by unfold slot; rw [List.getElem?_set_self ht]; rfl
    rw [this, opt_some, wEs_nil]
    exact run_stl hK
  · rw [List.nil_append, List.filterMap_map]
    have e : ((fun d => some ((mvOf d).stl.D)) ∘ Mv.D) = fun m => some (m.stl.D) := by funext m; simp [mvOf_D]
    rw [e]
    have e2 : ms.filterMap (fun m => some (m.stl.D)) = (ms.map Mv.stl).map Mv.D := by rw [List.map_map, ← List.filterMap_eq_map]; rfl
    rw [e2]
    exact q
theorem p_generated (ds : List D) (Q : D → Prop) (E : Xn → Prop) (h : spGenerated.run ds Q E) : wpDef n_generated.length (c_generated spCheck spSettled spThen spAsc2) ds Q E := by
  obtain ⟨d, ms, rfl, hd, hlen, ⟨hg, N, N0, N1, hN⟩, h⟩ := h
  simp [wpDef, c_generated, n_generated, start, -wB_cons]
  rw [wB_cons, wS_drop]
  simp [-wB_cons]
  refine ⟨d, ms, rfl, hd, fun m hm => (hg m hm).1, ?_⟩
  unfold genR at h
  cases hm : mats12 ms with
  | none => rw [hm] at h; exact h
  | some ML =>
    rw [hm] at h
    replace h : grQ (match gens ms 600 with | none => .many | some L => .ok L) Q E := h
    have hg' : ∀ m ∈ ms.map Mv.stl, iok 11 m.a m.b m.c m.d ∧ sz m.u ≤ 250 ∧ sz m.v ≤ 250 := fun m hm => by
      obtain ⟨x, hx, rfl⟩ := List.mem_map.mp hm
      exact ⟨(hg x hx).1, Nat.le_trans (sz_unit N0 (isN_frc (hN x hx).1) (frc_nonneg _) (frc_lt _) N1 (by omega)) (by omega), Nat.le_trans (sz_unit N0 (isN_frc (hN x hx).2) (frc_nonneg _) (frc_lt _) N1 (by omega)) (by omega)⟩
    have hN' : ∀ m ∈ ms.map Mv.stl, isN N m.u ∧ isN N m.v := fun m hm => by
      obtain ⟨x, hx, rfl⟩ := List.mem_map.mp hm
      exact ⟨isN_frc (hN x hx).1, isN_frc (hN x hx).2⟩
    have G := genOk_of (most := 600) hg' N0 N1 hN' (mats12_stl.trans hm) (by decide)
    rw [← gens_stl] at h
    show wpB _ _ _
    rw [wB_cons, wS_asg]
    refine lc_settled hd hlen (by simp) (by simp) ?_
    generalize ms.map Mv.stl = ss at *
    simp [-wB_cons]
    rw [wB_cons, wS_asg]
    simp [isKey_M, -wB_cons]
    refine ⟨rfl, ?_⟩
    rw [wB_cons, wS_asg]
    simp [-wB_cons]
    rw [wB_cons]
    refine wS_whl (invGn d ss (inP ML N)) (fun ρ => match ρ with | [_, _, some (.dict ks _), some (.lst ws), _, _, _] => 2 * (600 - ks.length) + ws.length | _ => 0) ⟨[Mv.one], [Mv.one], 1201, none, none, none, rfl, wld_start G.h0 (by decide), by decide, rfl⟩ ?_
    rintro ρ ⟨F, W, n, o3, o4, o5, rfl, w, hn, hc⟩
    simp [setD, -wB_cons]
    rcases List.eq_nil_or_concat W with rfl | ⟨ws, c, rfl⟩
    · simp
      cases n with
      | zero => omega
      | succ n =>
        rw [clo_done] at hc
        rw [← hc] at h
        have hl := w.l
        refine ⟨F, rfl, mvs_of (ML := ML) N0 N1 fun x hx => ?_, by omega, h⟩
        obtain ⟨j, _, p⟩ := w.at_ hx
        exact p
    · rw [List.concat_eq_append] at *
      cases n with
      | zero => omega
      | succ n =>
      rw [clo_step] at hc
      have hcm : cm 600 (F, ws) + 1 = cm 600 (F, ws ++ [c]) := by unfold cm; simp; omega
      obtain ⟨w1, hcF⟩ := w.pop
      simp [-wB_cons]
      rw [wB_cons, wS_pop]
      simp [-wB_cons]
      rw [wB_cons]
      refine wS_for (invGn2 d ss (inP ML N) c n (cm 600 (F, ws))) ?_
      simp
      refine ⟨⟨F, ws, o4, o5, rfl, w1, hcF, Nat.le_refl _, hc⟩, ?_, ?_⟩
      · rintro i' x ρ m hx rfl ⟨F, W, o6, o7, rfl, w, hcF, hk, hc⟩
        obtain ⟨hi, rfl⟩ := List.getElem?_eq_some_iff.mp hx
        have hm := List.getElem_mem hi
        rw [List.drop_eq_getElem_cons hi] at hc
        unfold scan at hc
        obtain ⟨j, hj, pc⟩ := w.at_ hcF
        have hl := w.l
        simp [setD]
        refine run_thenM (G.sz j c (by omega) pc) (G.st _ hm) ?_
        refine run_stl ?_
        have e : (c.then ss[i']).stl.D = (c.st ss[i']).D := rfl
        have hwl := w.wl
        simp [isKey_M]
        rw [e, encM.has]
        by_cases hin : c.st ss[i'] ∈ F
        · rw [if_pos hin] at hc
          rw [if_pos (by simpa using hin)]
          exact ⟨F, W, _, _, rfl, w, hcF, hk, hc⟩
        · rw [if_neg hin] at hc
          rw [if_neg (by simpa using hin)]
          by_cases h12 : F.length = 600
          · rw [if_pos h12] at hc
            rw [if_pos (by omega)]
            rw [← hc] at h
            exact h
          · rw [if_neg h12] at hc
            rw [if_neg (by omega), encM.put hin]
            refine ⟨by omega, by omega, F ++ [c.st ss[i']], W ++ [c.st ss[i']], some (ss[i']).D, some (c.st (ss[i'])).D, by simp [setD], w.push G.B hcF hm (by omega) hin, List.mem_append_left _ hcF, ?_, hc⟩
            refine Nat.le_trans ?_ hk
            unfold cm
            simp
            omega
      · rintro ρ ⟨F', W, o5, o6, rfl, w, hcF, hk, hc⟩
        rw [List.drop_of_length_le (by simp)] at hc
        refine ⟨⟨F', W, n, _, _, _, rfl, w, by omega, hc⟩, ?_⟩
        unfold cm at hcm hk
        simp [setD] at hcm hk ⊢
        omega
/-! ### told -/
def tellG (g : GR) : D := match g with
  | .inf => .tup [.non, .str "infinite"]
  | .many => .tup [.non, .str "many"]
  | .ok L => .tup [.lst ((sortM L).map Mv.D), .str ""]
def spTold03 : Spec := ⟨fun ds Q _ => ∃ (d : D) (ms : List Mv), ds = [d] ∧ items d = some (ms.map Mv.D) ∧ ms.length ≤ 100000 ∧ gpre ms ∧ Q (tellG (genR ms)), fun _ _ _ _ _ ⟨d, ms, e, h1, h2, h3, q⟩ hq _ => ⟨d, ms, e, h1, h2, h3, hq _ q⟩⟩
theorem p__law_told (ds : List D) (Q : D → Prop) (E : Xn → Prop) (h : spTold03.run ds Q E) : wpDefP n__law_told.length (c__law_told spGenerated) ds Q E := by
  obtain ⟨d, ms, rfl, hd, hlen, hg, h⟩ := h
  simp [wpDefP, c__law_told, n__law_told, start]
  refine ⟨d, ms, rfl, hd, hlen, hg, ?_⟩
  cases e : genR ms with
  | inf =>
    rw [e] at h
    simp [grQ]
    rw [if_pos (by decide +kernel), hdl, XE.at, if_pos (by decide +kernel)]
    simp
    exact ⟨rfl, h⟩
  | many =>
    rw [e] at h
    simp [grQ]
    rw [if_neg (by decide +kernel), if_pos (by decide +kernel), hdl, XE.at, if_pos (by decide +kernel)]
    simp
    exact ⟨rfl, h⟩
  | ok L =>
    rw [e] at h
    simp [grQ]
    exact ⟨.inl rfl, h⟩
end Dl

/-! DlNum: data of ints and tuples: == is sameness; so is what the order does not tell apart. -/
namespace Dl
open PySem
mutual
def numD : D → Bool
  | .int _ => true
  | .tup ds => numDs ds
  | _ => false
def numDs : List D → Bool
  | [] => true
  | d :: ds => numD d && numDs ds
end
mutual
theorem eqb_num : ∀ (d e : D), numD d = true → numD e = true → (PyData.eqv d.toP e.toP = true ↔ d = e)
  | .int i, e, h, g => by
    cases e with
    | int j => simp [D.toP, PyData.eqv]
    | tup es => simp [D.toP, PyData.eqv]
    | _ => simp [numD] at g
  | .tup ds, e, h, g => by
    cases e with
    | int j => simp [D.toP, PyData.eqv]
    | tup es =>
      simp only [D.toP, PyData.eqv, D.tup.injEq]
      exact eqbs_num ds es (by simpa [numD] using h) (by simpa [numD] using g)
    | _ => simp [numD] at g
  | .non, e, h, g => by simp [numD] at h
  | .bl _, e, h, g => by simp [numD] at h
  | .str _, e, h, g => by simp [numD] at h
  | .lst _, e, h, g => by simp [numD] at h
  | .dict _ _, e, h, g => by simp [numD] at h
  | .obj _ _ _, e, h, g => by simp [numD] at h
theorem eqbs_num : ∀ (ds es : List D), numDs ds = true → numDs es = true → (PyData.eqvAll (D.toPs ds) (D.toPs es) = true ↔ ds = es)
  | [], es, h, g => by cases es <;> simp [D.toPs, PyData.eqvAll]
  | d :: ds, es, h, g => by
    cases es with
    | nil => simp [D.toPs, PyData.eqvAll]
    | cons e es =>
      unfold numDs at h g
      rw [Bool.and_eq_true] at h g
      simp only [D.toPs, PyData.eqvAll, Bool.and_eq_true, List.cons.injEq]
      rw [eqb_num d e h.1 g.1, eqbs_num ds es h.2 g.2]
end
theorem eqb_iff {d e : D} (h : numD d = true) (g : numD e = true) : eqb d e = true ↔ d = e := eqb_num d e h g
theorem numD_fq (q : Rat) : numD (fq q) = true := rfl
theorem eqb_fq {p q : Rat} : eqb (fq p) (fq q) = decide (p = q) := by
  rw [Bool.eq_iff_iff, eqb_iff (numD_fq p) (numD_fq q), decide_eq_true_eq]
  exact ⟨fq_inj, fun h => by rw [h]⟩
mutual
theorem cmpT_num : ∀ (d e : D), numD d = true → numD e = true → cmpT d e = .eq → d = e
  | .int i, e, h, g, c => by
    cases e with
    | int j => simp only [cmpT] at c; rw [Int.compare_eq_eq.mp c]
    | tup es => simp [cmpT, rkD] at c <;> exact absurd c (by decide)
    | _ => simp [numD] at g
  | .tup ds, e, h, g, c => by
    cases e with
    | int j => simp [cmpT, rkD] at c <;> exact absurd c (by decide)
    | tup es =>
      simp only [cmpT] at c
      rw [cmpTs_num ds es (by simpa [numD] using h) (by simpa [numD] using g) c]
    | _ => simp [numD] at g
  | .non, e, h, g, c => by simp [numD] at h
  | .bl _, e, h, g, c => by simp [numD] at h
  | .str _, e, h, g, c => by simp [numD] at h
  | .lst _, e, h, g, c => by simp [numD] at h
  | .dict _ _, e, h, g, c => by simp [numD] at h
  | .obj _ _ _, e, h, g, c => by simp [numD] at h
theorem cmpTs_num : ∀ (ds es : List D), numDs ds = true → numDs es = true → cmpTs ds es = .eq → ds = es
  | [], es, h, g, c => by
    cases es with
    | nil => rfl
    | cons _ _ => simp [cmpTs] at c
  | d :: ds, es, h, g, c => by
    cases es with
    | nil => simp [cmpTs] at c
    | cons e es =>
      unfold numDs at h g
      rw [Bool.and_eq_true] at h g
      simp only [cmpTs] at c
      obtain ⟨c1, c2⟩ := then_eq c
      rw [cmpT_num d e h.1 g.1 c1, cmpTs_num ds es h.2 g.2 c2]
end
/-- sorting by the order, whatever the turn -/
theorem sortD_perm {xs ys : List D} (h : xs.Perm ys) (hn : ∀ d ∈ xs, numD d = true) : sortD xs = sortD ys := by
  refine srt_perm_eq swo_ltT h fun x hx y hy e => ?_
  obtain ⟨e1, e2⟩ := SrtO.eqv_iff.mp e
  rw [ltT_no] at e1 e2
  refine cmpT_num x y (hn x hx) (hn y hy) ?_
  cases q : cmpT x y with
  | eq => rfl
  | lt => exact absurd q e1
  | gt =>
    rw [cmpT_swap x y, q] at e2
    exact absurd rfl e2
theorem sortD_len (xs : List D) : (sortD xs).length = xs.length := (srt_perm xs).length_eq
theorem sortD_mem {xs : List D} {d : D} : d ∈ sortD xs ↔ d ∈ xs := (srt_perm xs).mem_iff
end Dl

/-! DlK03: the law of what is generated. -/
namespace Dl
open PySem
def Mv.sh (m : Mv) (x y : Rat) : Mv := ⟨m.a, m.b, m.c, m.d, m.u + x, m.v + y⟩
def spShifted : Spec := ⟨fun ds Q _ => ∃ (m : Mv) (x y : Rat), ds = [m.D, fq x, fq y] ∧ szk 1800 m.u x ∧ szk 1800 m.v y ∧ Q (m.sh x y).D, fun _ _ _ _ _ ⟨m, x, y, e, h1, h2, q⟩ hq _ => ⟨m, x, y, e, h1, h2, hq _ q⟩⟩
theorem p__law_shifted (ds : List D) (Q : D → Prop) (E : Xn → Prop) (h : spShifted.run ds Q E) : wpDef n__law_shifted.length (c__law_shifted spAddQ) ds Q E := by
  obtain ⟨m, x, y, rfl, h1, h2, q⟩ := h
  simp [wpDef, c__law_shifted, n__law_shifted, start, tupD, cut4]
  exact ⟨h1, h2, q⟩
theorem den12 {q : Rat} (h : sz q ≤ 2) : isN 12 q := by
  rw [isN_den (by decide)]
  have h1 := (lt_sz q).2
  have h2 : (2 : Nat) ^ sz q ≤ 2 ^ 2 := Nat.pow_le_pow_right (by omega) h
  have h3 := q.den_pos
  have : q.den = 1 ∨ q.den = 2 ∨ q.den = 3 := by omega
  rcases this with e | e | e <;> rw [e] <;> decide
theorem divInt_den {a b : Int} {N : Nat} (hN : N ≠ 0) (hb : b ≠ 0) (h : b ∣ (N : Int)) : isN N (Rat.divInt a b) := by
  rw [isN_den hN]
  obtain ⟨_, e2⟩ := nf_q (n := a) hb
  obtain ⟨_, e3, _⟩ := nf_all (n := a) hb
  rw [e2] at e3
  exact Int.ofNat_dvd.mp (Int.dvd_trans ⟨sg a b, by rw [Int.mul_comm]; exact e3⟩ h)
/-- a drawn shift: k / 1, 2, 3, 4 -/
def quar (q : Rat) : Prop := isN 12 q ∧ sz q ≤ 4
theorem quar_of {a b : Int} (h0 : 0 ≤ a) (h1 : a < 4) (hb : b = 1 ∨ b = 2 ∨ b = 3 ∨ b = 4) : quar (Rat.divInt a b) ∧ okFr a b := by
  refine ⟨⟨divInt_den (by decide) (by omega) (by rcases hb with rfl | rfl | rfl | rfl <;> decide), sz_divInt (by omega) (by omega) (by omega)⟩, by omega, Nat.lt_of_lt_of_le (show b.natAbs < 2 ^ 4 by omega) (Nat.pow_le_pow_right (by omega) (by omega))⟩
theorem at4 {j : Int} (h0 : 0 ≤ j) (h1 : j < 4) : ∃ b : Int, atD [D.int 1, .int 2, .int 3, .int 4] j = some (.int b) ∧ (b = 1 ∨ b = 2 ∨ b = 3 ∨ b = 4) := by
  have hj : j = 0 ∨ j = 1 ∨ j = 2 ∨ j = 3 := by omega
  rcases hj with rfl | rfl | rfl | rfl
  · exact ⟨1, rfl, by simp⟩
  · exact ⟨2, rfl, by simp⟩
  · exact ⟨3, rfl, by simp⟩
  · exact ⟨4, rfl, by simp⟩
/-- a step ahead of the change of axes -/
def preS (m : Mv) : Prop := mOk 2 10 m ∧ isN 12 m.u ∧ isN 12 m.v
/-- a drawn step -/
def drS (m : Mv) : Prop := iok 10 m.a m.b m.c m.d ∧ (m.u.den ≤ 24 ∧ m.v.den ≤ 24) ∧ sz m.u ≤ 60 ∧ sz m.v ≤ 60
def spFine : Spec := .rel (onNums 16) fun _ d => ∃ L : List Mv, d = .lst (L.map Mv.D) ∧ (1 ≤ L.length ∧ L.length ≤ 3) ∧ ∀ m ∈ L, drS m
theorem quar_D (xs : List Int) (i j : Nat) {Q : D → Prop} {E : Xn → Prop} (q : ∀ r, quar r → Q (fq r)) : opt (atD [D.int 1, .int 2, .int 3, .int 4] ((nth xs j).fmod 4)) (fun z => spFr.run [.int ((nth xs i).fmod 4), z] Q E) := by
  obtain ⟨a1, a2⟩ := fmod_lt (nth xs i) (b := 4) (by omega)
  obtain ⟨b1, b2⟩ := fmod_lt (nth xs j) (b := 4) (by omega)
  obtain ⟨b, e, hb⟩ := at4 b1 b2
  rw [e, opt_some]
  obtain ⟨h1, h2⟩ := quar_of a1 a2 hb
  simp [onI2, mapI2]
  exact ⟨h2, q _ h1⟩
theorem atD_last {α : Type} {xs : List α} {x : α} : atD (xs ++ [x]) (-1) = some x := by
  unfold atD
  rw [if_neg (by omega), if_pos (by simp; omega)]
  have e : (-1 + ((xs ++ [x]).length : Int)).toNat = xs.length := by simp; omega
  rw [e]
  simp
theorem ixI_last {α : Type} {xs : List α} {x : α} : ixI (xs ++ [x]) (-1) = some xs.length := by
  unfold ixI
  rw [if_neg (by omega), if_pos (by simp; omega)]
  have e : (-1 + ((xs ++ [x]).length : Int)).toNat = xs.length := by simp; omega
  rw [e]
theorem sz00 : sz 0 ≤ 1 := by decide
theorem preS_of {m : Mv} (h : stOk m) : preS m := ⟨⟨h.1, h.2.1, by have := h.2.2.1; omega, by have := h.2.2.2; omega⟩, den12 h.2.2.1, den12 h.2.2.2⟩
theorem preS_sh {m : Mv} {x y : Rat} (h : stOk m) (hx : quar x) (hy : quar y) : preS (m.sh x y) := by
  have a1 := sz_add m.u x
  have a2 := sz_add m.v y
  have b1 := h.2.2.1
  have b2 := h.2.2.2
  have b3 := hx.2
  have b4 := hy.2
  exact ⟨⟨h.1, h.2.1, by show sz (m.u + x) ≤ 10; omega, by show sz (m.v + y) ≤ 10; omega⟩, isN_add (den12 h.2.2.1) hx.1, isN_add (den12 h.2.2.2) hy.1⟩
theorem preS_pure {x y : Rat} (hx : quar x) (hy : quar y) : preS ⟨1, 0, 0, 1, x, y⟩ :=
  ⟨⟨⟨show (1 : Int).natAbs < 2 ^ 2 by decide, show (0 : Int).natAbs < 2 ^ 2 by decide, show (0 : Int).natAbs < 2 ^ 2 by decide, show (1 : Int).natAbs < 2 ^ 2 by decide⟩, .inl (by simp), Nat.le_trans hx.2 (by omega), Nat.le_trans hy.2 (by omega)⟩, hx.1, hy.1⟩
theorem back_ax {a b c d : Int} : (Mv.mk a b c d 0 0).back = ⟨(a * d - b * c) * d, -((a * d - b * c) * b), -((a * d - b * c) * c), (a * d - b * c) * a, 0, 0⟩ := by
  unfold Mv.back
  congr 1 <;> simp only [Rat.mul_zero] <;> decide +kernel
theorem den_12 {q : Rat} (h : isN 12 q) : q.den ≤ 24 := Nat.le_trans (Nat.le_of_dvd (by omega) ((isN_den (by omega)).mp h)) (by omega)
/-- a step in drawn axes -/
theorem drS_ax {a b c d : Int} (hs : mOk 3 1 ⟨a, b, c, d, 0, 0⟩) {m : Mv} (h : preS m) {Q : D → Prop} {E : Xn → Prop} (q : ∀ m, drS m → Q m.D) :
    spBack.run [(Mv.mk a b c d 0 0).D] (fun x => spThen.run [x, m.D] (fun y => spThen.run [y, (Mv.mk a b c d 0 0).D] Q E) E) E := by
  have hb := unit_rev hs.2.1 hs.1
  have hb' : mOk 3 1 ((Mv.mk a b c d 0 0).back) := by rw [back_ax]; exact ⟨hb.1, hb.2, sz00, sz00⟩
  have h1 := then_ok hb' h.1 (by omega)
  have h2 := then_ok h1 hs (by omega)
  refine run_back hs (by omega) (by omega) ?_
  refine run_then hb' h.1 (by omega) (by omega) (by omega) (by omega) ?_
  refine run_then h1 hs (by omega) (by omega) (by omega) (by omega) (q _ ⟨iok_up h2.1 (by omega), ?_, by have := h2.2.2.1; omega, by have := h2.2.2.2; omega⟩)
  rw [back_ax]
  have u1 : isN 12 (((Mv.mk ((a * d - b * c) * d) (-((a * d - b * c) * b)) (-((a * d - b * c) * c)) ((a * d - b * c) * a) 0 0).then m).u) := isN_lin _ _ isN_zero isN_zero h.2.1
  have v1 : isN 12 (((Mv.mk ((a * d - b * c) * d) (-((a * d - b * c) * b)) (-((a * d - b * c) * c)) ((a * d - b * c) * a) 0 0).then m).v) := isN_lin _ _ isN_zero isN_zero h.2.2
  exact ⟨den_12 (isN_lin _ _ u1 v1 isN_zero), den_12 (isN_lin _ _ u1 v1 isN_zero)⟩
theorem mvs_ex {R : Mv → Prop} : ∀ {ys : List D}, (∀ y ∈ ys, ∃ m, y = Mv.D m ∧ R m) → ∃ L : List Mv, ys = L.map Mv.D ∧ ∀ m ∈ L, R m
  | [], _ => ⟨[], rfl, fun _ h => by cases h⟩
  | y :: ys, h => by
    obtain ⟨m, rfl, hm⟩ := h y List.mem_cons_self
    obtain ⟨L, rfl, hL⟩ := mvs_ex (R := R) (ys := ys) fun z hz => h z (List.mem_cons_of_mem _ hz)
    exact ⟨m :: L, rfl, fun x hx => by
      rcases List.mem_cons.mp hx with rfl | hx
      · exact hm
      · exact hL x hx⟩
theorem p__law_fine (ds : List D) (Q : D → Prop) (E : Xn → Prop) (h : spFine.run ds Q E) : wpDef n__law_fine.length (c__law_fine spSteps spShifted spFr spAxes spThen spBack) ds Q E := by
  obtain ⟨⟨xs, rfl, hl, hx⟩, h⟩ := h
  simp [wpDef, c__law_fine, n__law_fine, start, -wB_cons]
  refine wB_cut 1 (fun ρ => ∃ (L : List Mv) (m : Mv), (L.length ≤ 1 ∧ (∀ m ∈ L, stOk m) ∧ stOk m) ∧ ρ = [some (.lst (xs.map .int)), some (.lst ((L ++ [m]).map Mv.D)), none, none, none, none]) ?_ ?_
  · simp
    refine ⟨⟨xs, rfl, by omega, hx⟩, ?_⟩
    rintro _ ⟨L, rfl, hL, hs⟩
    rcases List.eq_nil_or_concat L with rfl | ⟨L, m, rfl⟩
    · simp at hL
    · rw [List.concat_eq_append] at *
      have hL' : L.length ≤ 1 := by simp at hL; rcases hL with rfl | h <;> simp_all
      exact ⟨L, m, ⟨hL', fun x hx => hs x (List.mem_append_left _ hx), hs m (by simp)⟩, by simp⟩
  · rintro _ ⟨L, m, ⟨hL, hs, hm⟩, rfl⟩
    refine wB_cut 3 (fun ρ => ∃ (L : List Mv) (o2 : Option D), ((1 ≤ L.length ∧ L.length ≤ 2) ∧ ∀ m ∈ L, preS m) ∧ ρ = [some (.lst (xs.map .int)), some (.lst (L.map Mv.D)), o2, some (.lst [.int 1, .int 2, .int 3, .int 4]), none, none]) ?_ ?_
    · simp [ixN hl, -ix_L]
      rw [ix_L, atD_last, opt_some]
      refine ⟨.inr (.inr (.inl rfl)), ?_⟩
      rw [ix_L]
      refine quar_D xs 4 5 fun x hx => ?_
      rw [ix_L]
      refine quar_D xs 6 7 fun y hy => ?_
      refine ⟨m, x, y, rfl, ⟨Nat.le_trans hm.2.2.1 (by omega), Nat.le_trans hx.2 (by omega)⟩, ⟨Nat.le_trans hm.2.2.2 (by omega), Nat.le_trans hy.2 (by omega)⟩, rfl, ?_⟩
      rw [ixI_last, opt_some]
      refine ⟨L ++ [m.sh x y], ⟨⟨by simp, by simp; omega⟩, fun z hz => ?_⟩, by simp⟩
      rcases List.mem_append.mp hz with hz | hz
      · exact preS_of (hs z hz)
      · rw [List.mem_singleton.mp hz]; exact preS_sh hm hx hy
    · rintro _ ⟨L, o2, ⟨hL, hs⟩, rfl⟩
      refine wB_cut 1 (fun ρ => ∃ (L : List Mv), ((1 ≤ L.length ∧ L.length ≤ 3) ∧ ∀ m ∈ L, preS m) ∧ ρ = [some (.lst (xs.map .int)), some (.lst (L.map Mv.D)), o2, some (.lst [.int 1, .int 2, .int 3, .int 4]), none, none]) ?_ ?_
      · simp [ixN hl, -ix_L]
        by_cases c : (nth xs 8).fmod 3 = 0
        · rw [if_pos c]
          refine ⟨by omega, ?_⟩
          rw [ix_L]
          refine quar_D xs 9 10 fun x hx => ?_
          rw [ix_L]
          refine quar_D xs 11 12 fun y hy => ?_
          refine ⟨L ++ [⟨1, 0, 0, 1, x, y⟩], ⟨⟨by simp, by simp; omega⟩, fun z hz => ?_⟩, by simp [Mv.D]⟩
          rcases List.mem_append.mp hz with hz | hz
          · exact hs z hz
          · rw [List.mem_singleton.mp hz]; exact preS_pure hx hy
        · rw [if_neg c]
          exact ⟨L, ⟨⟨hL.1, by omega⟩, hs⟩, rfl⟩
      · rintro _ ⟨L, ⟨hL, hs⟩, rfl⟩
        simp [cut_nums, -sl_L]
        refine ⟨⟨xs.drop 13, by simp, by simp; omega, fun x hx' => hx x (List.mem_of_mem_drop hx')⟩, ?_⟩
        rintro _ ⟨a, b, c, e, rfl, p1, p2, p3, p4, hu⟩
        simp
        refine wE_lc (fun d => ∃ m, d = Mv.D m ∧ drS m) ?_
        have hs3 : mOk 3 1 ⟨a, b, c, e, 0, 0⟩ := ⟨⟨by show a.natAbs < 8; omega, by show b.natAbs < 8; omega, by show c.natAbs < 8; omega, by show e.natAbs < 8; omega⟩, hu, sz00, sz00⟩
        simp
        refine ⟨by omega, fun m hm => ?_, fun ys hy hl => ?_⟩
        · exact drS_ax hs3 (hs m hm) fun m hm => ⟨m, rfl, hm⟩
        · obtain ⟨L', rfl, h'⟩ := mvs_ex hy
          exact h _ ⟨L', rfl, by simp at hl; omega, h'⟩
/-! ### padded -/
/-- a step of at most 13 -/
def padS (m : Mv) : Prop := iok 10 m.a m.b m.c m.d ∧ (m.u.den ≤ 24 ∧ m.v.den ≤ 24) ∧ sz m.u ≤ 250 ∧ sz m.v ≤ 250
theorem padS_of {m : Mv} (h : drS m) : padS m := ⟨h.1, h.2.1, by have := h.2.2.1; omega, by have := h.2.2.2; omega⟩
def spPadded : Spec := .rel (fun ds => ∃ (L : List Mv) (xs : List Int), ds = [.lst (L.map Mv.D), .lst (xs.map .int)] ∧ (L.length ≤ 12 ∧ ∀ m ∈ L, drS m) ∧ 16 ≤ xs.length) fun _ d => ∃ L : List Mv, d = .lst (L.map Mv.D) ∧ L.length ≤ 13 ∧ ∀ m ∈ L, padS m
def invPad (L : List Mv) (xs : List Int) (i : Nat) (ρ : DEnv) : Prop := ∃ (M : List Mv) (o3 o4 o5 o6 : Option D), (M.length ≤ L.length + i ∧ ∀ m ∈ M, padS m) ∧ ρ = [some (.lst (L.map Mv.D)), some (.lst (xs.map .int)), some (.lst (M.map Mv.D)), o3, o4, o5, o6]
/-- [elt for t in it], by a function -/
theorem wE_lcm {ρ : DEnv} {Q : D → Prop} {E : Xn → Prop} {t : CT} {it elt : CE} (f : D → D) (h : wpE it ρ (fun d => opt (items d) fun xs => xs.length ≤ szl ∧ (∀ x ∈ xs, opt (asgT t x ρ) fun ρ' => wpE elt ρ' (fun y => y = f x) fun _ => False) ∧ Q (.lst (xs.map f))) E) : wpE (.lc t it [] elt) ρ Q E := by
  unfold wpE
  refine wpE_mono it h (fun d ⟨xs, e, hl, hx, hq⟩ => ⟨xs, e, ?_⟩) fun _ q => q
  refine wpLc_map (fun x => some (f x)) (fun x hx' K hK => ?_) (by simpa using hl) ?_
  · obtain ⟨ρ', e1, q⟩ := hx x hx'
    refine ⟨ρ', e1, ?_⟩
    unfold wpIfs
    show (if true = true then _ else _)
    rw [if_pos rfl]
    exact wpE_mono elt q (fun y q => by rw [q]; exact hK) fun _ q => q
  · rw [List.nil_append]
    have e2 : xs.filterMap (fun x => some (f x)) = xs.map f := by rw [← List.filterMap_eq_map]; rfl
    rw [e2]
    exact hq
theorem imms_mv (L : List Mv) : D.imms (L.map Mv.D) = true := by
  induction L with
  | nil => rfl
  | cons m L ih => rw [List.map_cons, imms_cons, ih]; rfl
theorem at_mv {L : List Mv} (hL : 0 < L.length) (j : Int) : ∃ m ∈ L, atD (L.map Mv.D) (j.fmod (L.length : Int)) = some m.D := by
  obtain ⟨g1, g2⟩ := fmod_lt j (b := (L.length : Int)) (by omega)
  generalize j.fmod (L.length : Int) = j at *
  obtain ⟨n, rfl⟩ := Int.eq_ofNat_of_zero_le g1
  have hn : n < L.length := by omega
  exact ⟨L[n], List.getElem_mem hn, at_lit (by rw [List.getElem?_map, List.getElem?_eq_getElem hn]; rfl)⟩
def absD : D → D
  | .int i => .int (absI i)
  | d => d
theorem wE_max4 {ρ : DEnv} {Q : D → Prop} {E : Xn → Prop} {m : Mv} (h5 : slot ρ 5 = some m.D) (h6 : 6 < ρ.length) (q : ∀ M : Int, (∀ a ∈ [absI m.a, absI m.b, absI m.c, absI m.d], a ≤ M) → Q (.int M)) :
    wpE (.lc (.nm 6) (.sl (.var 5) .nop (.int 4)) [] (.blt .abs [.var 6])) ρ (fun d => bltD .maxl [d] Q) E := by
  refine wE_lcm absD ?_
  rw [wE_sl, wE_var, h5, opt_some]
  have hv : ∀ d, slot (ρ.set 6 (some d)) 6 = some d := fun d => by unfold slot; rw [List.getElem?_set_self h6]; rfl
  simp [tupD, cut4, hv, absD]
  exact ⟨_, rfl, by simp, fun M _ hM => q M (by simpa using hM)⟩
theorem absI_lt {a : Int} (h : absI a ≤ 1000) : a.natAbs < 2 ^ 10 := by unfold absI at h; split at h <;> omega
theorem p__law_padded (ds : List D) (Q : D → Prop) (E : Xn → Prop) (h : spPadded.run ds Q E) : wpDef n__law_padded.length (c__law_padded spThen) ds Q E := by
  obtain ⟨⟨L, xs, rfl, ⟨hL, hs⟩, hl⟩, h⟩ := h
  simp [wpDef, c__law_padded, n__law_padded, start, -wB_cons]
  rw [wB_cons]
  simp [-wB_cons]
  rw [wB_cons, wS_ifs, wT_or, wT_cmp, wE_cmp, wE_var, slot_zero, opt_some, wE_lst, wEs_nil, empty_eq (plain_list (enc := Mv.D) 3 (fun x => dat_mov 0) (by omega) L)]
  have hp : ∀ m ∈ L, padS m := fun m hm => padS_of (hs m hm)
  by_cases e : L = []
  · subst e
    simp
    exact h _ ⟨[], rfl, by simp, fun _ h => by cases h⟩
  · have h0 : 0 < L.length := by cases L with | nil => exact absurd rfl e | cons _ _ => simp
    simp [e, ixN hl, -ix_L, -wB_cons]
    by_cases c : 0 < (nth xs 0).fmod 3
    · rw [if_pos c]
      simp
      exact h _ ⟨L, rfl, by omega, hp⟩
    · rw [if_neg c]
      obtain ⟨g1, g2⟩ := fmod_lt (nth xs 1) (b := 13 - (L.length : Int)) (by omega)
      rw [wB_cons]
      refine wS_for (invPad L xs) ?_
      simp [ixN hl, -ix_L]
      generalize (nth xs 1).fmod (13 - (L.length : Int)) = j at *
      refine ⟨by omega, by omega, by omega, ⟨L, none, none, none, none, ⟨by omega, hp⟩, rfl⟩, ?_, ?_⟩
      · rintro i x ρ hi ⟨M, o3, o4, o5, o6, ⟨hM, hq⟩, rfl⟩
        obtain ⟨hi, rfl⟩ := rng_get hi
        obtain ⟨m, hm, em⟩ := at_mv h0 (nth xs (2 + i))
        obtain ⟨n, hn, en⟩ := at_mv h0 ((nth xs (3 + i)).fdiv 7)
        have e1 : (2 + (i : Int)).toNat = 2 + i := by omega
        have e2 : (3 + (i : Int)).toNat = 3 + i := by omega
        simp [-ix_L]
        rw [ixN hl (by omega) (by omega), e1]
        simp [-ix_L, e]
        rw [ix_L, em, opt_some, ixN hl (by omega) (by omega), e2]
        simp [-ix_L, e]
        refine ⟨divOk_big (by decide) (Nat.lt_of_lt_of_le (show (7 : Int).natAbs < 2 ^ 3 by decide) (Nat.pow_le_pow_right (by omega) (by omega))), ?_⟩
        rw [ix_L, en, opt_some]
        obtain ⟨m1, m2, m3, m4⟩ := hs m hm
        obtain ⟨n1, n2, n3, n4⟩ := hs n hn
        refine run_thenM ⟨iok_up m1 (by omega), by omega, by omega⟩ ⟨iok_up n1 (by omega), by omega, by omega⟩ ?_
        have su : sz (m.then n).u ≤ 250 := by
          obtain ⟨_, _, l3⟩ := sz_lin (a := n.a) (b := n.b) n1.1 n1.2.1 m3 m4 (by omega)
          have a1 := sz_add ((n.a : Rat) * m.u + n.b * m.v) n.u
          show sz (_ + _) ≤ _
          omega
        have sv : sz (m.then n).v ≤ 250 := by
          obtain ⟨_, _, l3⟩ := sz_lin (a := n.c) (b := n.d) n1.2.2.1 n1.2.2.2 m3 m4 (by omega)
          have a1 := sz_add ((n.c : Rat) * m.u + n.d * m.v) n.v
          show sz (_ + _) ≤ _
          omega
        generalize m.then n = r at *
        have stay : ∀ p : Mv, padS p → 1 + M.length ≤ 16777216 ∧ keep [2] false (CE.bin BO.add (CE.lst [CE.var 5]) (CE.var 2)) (D.lst (p.D :: List.map Mv.D M)) ∧ invPad L xs (i + 1) [some (D.lst (List.map Mv.D L)), some (D.lst (List.map D.int xs)), some (D.lst (p.D :: List.map Mv.D M)), some (D.int ↑i), some m.D, some p.D, o6] := fun p hp' =>
          ⟨by omega, .inr (.inr (.inr ⟨rfl, imms_mv (p :: M)⟩)), p :: M, _, _, _, _, ⟨by simp; omega, fun z hz => by
            rcases List.mem_cons.mp hz with rfl | hz
            · exact hp'
            · exact hq z hz⟩, rfl⟩
        have i4 : ∀ Q : D → Prop, ixD r.D (.int 4) Q = Q (fq r.u) := fun Q => by rw [tupD]; simp
        have i5 : ∀ Q : D → Prop, ixD r.D (.int 5) Q = Q (fq r.v) := fun Q => by rw [tupD]; simp
        have i1 : ∀ (q : Rat) (Q : D → Prop), ixD (fq q) (.int 1) Q = Q (.int q.den) := fun q Q => by simp
        refine wE_max4 (m := r) rfl (by simp) fun X hX => ?_
        simp only [c_gt, truD_bl, opt_some, i4, i5, i1, decide_eq_true_eq]
        by_cases c1 : 1000 < X
        · rw [if_pos c1]; exact stay m (hp m hm)
        rw [if_neg c1]
        by_cases c2 : 24 < (r.u.den : Int)
        · rw [if_pos c2]; exact stay m (hp m hm)
        rw [if_neg c2]
        by_cases c3 : 24 < (r.v.den : Int)
        · rw [if_pos c3]; exact stay m (hp m hm)
        rw [if_neg c3]
        simp at hX
        exact stay r ⟨⟨absI_lt (by omega), absI_lt (by omega), absI_lt (by omega), absI_lt (by omega)⟩, ⟨by omega, by omega⟩, su, sv⟩
      · rintro ρ ⟨M, o3, o4, o5, o6, ⟨hM, hq⟩, rfl⟩
        rw [rng_len] at hM
        simp
        exact h _ ⟨M, rfl, by omega, hq⟩
/-! ### the law -/
theorem drS_st {m : Mv} (h : stOk m) : drS m := ⟨iok_up h.1 (by omega), ⟨den_12 (den12 h.2.2.1), den_12 (den12 h.2.2.2)⟩, by have := h.2.2.1; omega, by have := h.2.2.2; omega⟩
/-- lcm of 1 to 24 -/
def n24 : Nat := 5354228880
theorem dvd_n24 {k : Nat} (h0 : k ≠ 0) (h : k ≤ 24) : k ∣ n24 := by
  have e : ∀ i : Fin 24, (i.val + 1) ∣ n24 := by decide +kernel
  have := e ⟨k - 1, by omega⟩
  have e2 : k - 1 + 1 = k := by omega
  simpa [e2] using this
theorem gpre_of {L : List Mv} (h : ∀ m ∈ L, padS m) : gpre L :=
  ⟨fun m hm => ⟨iok_up (h m hm).1 (by omega), (h m hm).2.2⟩, n24, by decide, by decide, fun m hm => ⟨(isN_den (by decide)).mpr (dvd_n24 m.u.den_nz (h m hm).2.1.1), (isN_den (by decide)).mpr (dvd_n24 m.v.den_nz (h m hm).2.1.2)⟩⟩
theorem dat_list {α : Type} {enc : α → D} {n : Nat} (h : ∀ x, D.dat n (enc x) = true) (L : List α) (hl : L.length < 2 ^ 60) : D.dat (n + 1) (.lst (L.map enc)) = true := by
  simp only [D.dat, List.length_map, Bool.and_eq_true, decide_eq_true_eq]
  refine ⟨hl, ?_⟩
  clear hl
  induction L with
  | nil => rfl
  | cons x L ih => simp only [List.map_cons, D.dats, Bool.and_eq_true]; exact ⟨h x, ih⟩
def spLaw_k03 : Spec := .fn (fun ds => ∃ ns : List Int, ds = [.lst (ns.map .int)]) fun _ => .bl true
def inv03 (ns : List Int) (_ : Nat) (ρ : DEnv) : Prop := ∃ o1 o2 o3 o4 o5 o6 o7 o8 o9 o10 o11, ρ = [some (.lst (ns.map .int)), o1, o2, o3, o4, o5, o6, o7, o8, o9, o10, o11]
/-- behind a change of the steps -/
def J03 (ns : List Int) (i : Nat) (R : Mv → Prop) (n : Nat) (ρ : DEnv) : Prop := ∃ (xs : List Int) (L : List Mv) (o4 o5 o6 o7 o8 o9 o10 o11 : Option D), (xs.length = 24 ∧ (∀ x ∈ xs, th x) ∧ L.length ≤ n ∧ ∀ m ∈ L, R m) ∧
  ρ = [some (.lst (ns.map .int)), some (.int i), some (.lst (xs.map .int)), some (.lst (L.map Mv.D)), o4, o5, o6, o7, o8, o9, o10, o11]
theorem cutD_take {α : Type} {xs : List α} {k : Int} (h : 0 ≤ k) : cutD xs none (some k) = xs.take k.toNat := by
  unfold cutD sIxD
  simp only [List.drop_zero, Nat.sub_zero]
  rw [if_neg (by omega)]
  by_cases g : k ≤ xs.length
  · rw [show (min k (xs.length : Int)).toNat = k.toNat by omega]
  · rw [List.take_of_length_le (by omega), List.take_of_length_le (by omega)]
theorem cutD_drop {α : Type} {xs : List α} {k : Int} (h : 0 ≤ k) : cutD xs (some k) none = xs.drop k.toNat := by
  unfold cutD sIxD
  simp only []
  rw [if_neg (by omega)]
  by_cases g : k ≤ xs.length
  · rw [show (min k (xs.length : Int)).toNat = k.toNat by omega, List.take_of_length_le (by simp)]
  · rw [List.drop_eq_nil_of_le (by omega), List.drop_eq_nil_of_le (by omega), List.take_nil]
/-- a shift of small numbers -/
theorem small_fr {a b : Int} (h0 : 0 ≤ a) (h1 : a < 32) (hb : 0 < b) (hb2 : b ≤ 24) : okFr a b ∧ (Rat.divInt a b).den ≤ 24 ∧ sz (Rat.divInt a b) ≤ 60 := by
  refine ⟨⟨by omega, Nat.lt_of_lt_of_le (show b.natAbs < 2 ^ 5 by omega) (Nat.pow_le_pow_right (by omega) (by omega))⟩, ?_, sz_divInt (by omega) (by omega) (by omega)⟩
  have h := (isN_den (N := b.toNat) (by omega)).mp (divInt_den (a := a) (b := b) (N := b.toNat) (by omega) (by omega) (by rw [Int.toNat_of_nonneg (by omega)]; exact Int.dvd_refl _))
  exact Nat.le_trans (Nat.le_of_dvd (by omega) h) (by omega)
theorem iok_lit {a b c d : Int} (h1 : a.natAbs < 1024) (h2 : b.natAbs < 1024) (h3 : c.natAbs < 1024) (h4 : d.natAbs < 1024) : iok 10 a b c d := ⟨h1, h2, h3, h4⟩
theorem den0 : (0 : Rat).den ≤ 24 ∧ sz 0 ≤ 60 := by decide
theorem one_over {x : Int} (h : 12 ≤ x ∧ x ≤ 24) : D.tup [.int 1, .int x] = fq (Rat.divInt 1 x) ∧ (Rat.divInt 1 x).den ≤ 24 ∧ sz (Rat.divInt 1 x) ≤ 60 := by
  refine ⟨?_, (small_fr (by omega) (by omega) (by omega) (by omega)).2⟩
  have hx : x = 12 ∨ x = 13 ∨ x = 14 ∨ x = 15 ∨ x = 16 ∨ x = 17 ∨ x = 18 ∨ x = 19 ∨ x = 20 ∨ x = 21 ∨ x = 22 ∨ x = 23 ∨ x = 24 := by omega
  rcases hx with rfl | rfl | rfl | rfl | rfl | rfl | rfl | rfl | rfl | rfl | rfl | rfl | rfl <;> rfl
theorem drS_pure {m : Mv} {x y : Rat} (h : iok 10 m.a m.b m.c m.d) (hx : x.den ≤ 24 ∧ sz x ≤ 60) (hy : y.den ≤ 24 ∧ sz y ≤ 60) : drS ⟨m.a, m.b, m.c, m.d, x, y⟩ := ⟨h, ⟨hx.1, hy.1⟩, hx.2, hy.2⟩
def dueG : GR → D
  | .ok L => .lst ((sortM L).map Mv.D)
  | _ => .non
def wordG : GR → Str
  | .inf => "infinite"
  | .many => "many"
  | .ok _ => ""
/-- what is due is made -/
def K03 (ns : List Int) (i : Nat) (ρ : DEnv) : Prop := ∃ (xs : List Int) (L : List Mv) (o6 o7 o8 o9 o10 o11 : Option D), (L.length ≤ 13 ∧ (∀ m ∈ L, padS m) ∧ ∀ F, genR L = .ok F → F.length ≤ 600) ∧
  ρ = [some (.lst (ns.map .int)), some (.int i), some (.lst (xs.map .int)), some (.lst (L.map Mv.D)), some (dueG (genR L)), some (.str (wordG (genR L))), o6, o7, o8, o9, o10, o11]
theorem p_law_k03 (ds : List D) (Q : D → Prop) (E : Xn → Prop) (h : spLaw_k03.run ds Q E) : wpDef n_law_k03.length (c_law_k03 spNums spCell spFine spSteps spFr spPadded spClosed spMatsL spAsc2 (spSame 5) spGenerated spTold03) ds Q E := by
  obtain ⟨⟨ns, rfl⟩, h⟩ := h
  replace h : Q (.bl true) := h
  simp [wpDef, c_law_k03, n_law_k03, start]
  refine wS_for (inv03 ns) ?_
  simp [-wB_cons]
  refine ⟨⟨none, none, none, none, none, none, none, none, none, none, none, rfl⟩, ?_, fun ρ _ => by simpa using h⟩
  rintro i d ρ hi ⟨o1, o2, o3, o4, o5, o6, o7, o8, o9, o10, o11, rfl⟩
  obtain ⟨hl, rfl⟩ := rng_get hi
  refine wB_cut 2 (J03 ns i drS 3) ?_ ?_
  · simp
    refine ⟨⟨ns, _, rfl, by omega⟩, ?_⟩
    rintro _ ⟨c, rfl⟩
    refine ⟨by simp [onI2], fun d hd => ?_⟩
    obtain ⟨xs, hxl, hx, rfl⟩ := hd _ _ rfl
    have hxl' : xs.length = 24 := hxl
    refine ⟨⟨xs, rfl, by omega, hx⟩, ?_⟩
    rintro _ ⟨L, rfl, hL, hs⟩
    exact ⟨xs, L, _, _, _, _, _, _, _, _, ⟨hxl', hx, by omega, hs⟩, rfl⟩
  · rintro _ ⟨xs, L, o4, o5, o6, o7, o8, o9, o10, o11, ⟨hxl, hx, hL, hs⟩, rfl⟩
    have hl24 : 24 ≤ xs.length := by omega
    refine wB_cut 1 (J03 ns i drS 4) ?_ ?_
    · simp [ixN hl24, -ix_L]
      obtain ⟨g1, g2⟩ := fmod_lt (nth xs 18) (b := 3) (by omega)
      split
      · refine ⟨by omega, xs, L ++ [⟨1, (nth xs 18).fmod 3, 0, 1, 0, 0⟩], o4, o5, o6, o7, o8, o9, o10, o11, ⟨hxl, hx, by simp; omega, fun m hm => ?_⟩, by simp [Mv.D]⟩
        rcases List.mem_append.mp hm with hm | hm
        · exact hs m hm
        · rw [List.mem_singleton.mp hm]
          exact drS_pure (m := ⟨1, (nth xs 18).fmod 3, 0, 1, 0, 0⟩) (iok_lit (by simp) (by show ((nth xs 18).fmod 3).natAbs < 1024; omega) (by simp) (by simp)) den0 den0
      · exact ⟨xs, L, _, _, _, _, _, _, _, _, ⟨hxl, hx, by omega, hs⟩, rfl⟩
    · rintro _ ⟨xs, L, o4, o5, o6, o7, o8, o9, o10, o11, ⟨hxl, hx, hL, hs⟩, rfl⟩
      have hl24 : 24 ≤ xs.length := by omega
      refine wB_cut 1 (J03 ns i drS 4) ?_ ?_
      · simp [ixN hl24, -ix_L]
        split
        · rw [cutD_drop (by omega), cutD_take (by omega)]
          refine ⟨⟨xs.drop 18, by simp, by simp; omega, fun x hx' => hx x (List.mem_of_mem_drop hx')⟩, ?_⟩
          rintro _ ⟨M, rfl, hM, hsM⟩
          rw [sl_L, b_addL, cutD_take (by omega)]
          have e : (L.map Mv.D).take (2 : Int).toNat ++ (M.map Mv.D).take (1 : Int).toNat = (L.take 2 ++ M.take 1).map Mv.D := by simp [List.map_take]
          rw [e]
          refine ⟨by simp; omega, .inr (.inr (.inr ⟨rfl, imms_mv _⟩)), xs, _, _, _, _, _, _, _, _, _, ⟨hxl, hx, by simp; omega, fun m hm => ?_⟩, rfl⟩
          rcases List.mem_append.mp hm with hm | hm
          · exact hs m (List.mem_of_mem_take hm)
          · exact drS_st (hsM m (List.mem_of_mem_take hm))
        · exact ⟨xs, L, _, _, _, _, _, _, _, _, ⟨hxl, hx, by omega, hs⟩, rfl⟩
      · rintro _ ⟨xs, L, o4, o5, o6, o7, o8, o9, o10, o11, ⟨hxl, hx, hL, hs⟩, rfl⟩
        have hl24 : 24 ≤ xs.length := by omega
        refine wB_cut 1 (J03 ns i drS 4) ?_ ?_
        · simp [ixN hl24, -ix_L]
          split
          · obtain ⟨a1, a2⟩ := fmod_lt (nth xs 18) (b := 24) (by omega)
            obtain ⟨b1, b2⟩ := fmod_lt (nth xs 19) (b := 23) (by omega)
            obtain ⟨k1, k2⟩ := small_fr (a := (nth xs 18).fmod 24) (b := 24) (by omega) (by omega) (by omega) (by omega)
            obtain ⟨l1, l2⟩ := small_fr (a := (nth xs 19).fmod 23) (b := 23) (by omega) (by omega) (by omega) (by omega)
            refine wE_lc (fun d => ∃ m, d = Mv.D m ∧ drS m) ?_
            simp [-ix_L]
            refine ⟨by omega, fun m hm => ?_, fun ys hy hl => ?_⟩
            · have hm' := (hs m hm).1
              simp [tupD, cut4, ixN hl24, -ix_L]
              exact ⟨k1, l1, ⟨m.a, m.b, m.c, m.d, Rat.divInt ((nth xs 18).fmod 24) 24, Rat.divInt ((nth xs 19).fmod 23) 23⟩, ⟨rfl, rfl, rfl, rfl, rfl, rfl⟩, drS_pure hm' k2 l2⟩
            · obtain ⟨L', rfl, h'⟩ := mvs_ex hy
              refine ⟨.inr (.inr (.inr ⟨rfl, imms_mv _⟩)), xs, L', _, _, _, _, _, _, _, _, ⟨hxl, hx, by simp at hl; omega, h'⟩, rfl⟩
          · exact ⟨xs, L, _, _, _, _, _, _, _, _, ⟨hxl, hx, by omega, hs⟩, rfl⟩
        · rintro _ ⟨xs, L, o4, o5, o6, o7, o8, o9, o10, o11, ⟨hxl, hx, hL, hs⟩, rfl⟩
          have hl24 : 24 ≤ xs.length := by omega
          refine wB_cut 1 (J03 ns i drS 4) ?_ ?_
          · simp [ixN hl24, -ix_L]
            split
            · obtain ⟨a1, a2⟩ := fmod_lt (nth xs 18) (b := 13) (by omega)
              obtain ⟨b1, b2⟩ := fmod_lt (nth xs 19) (b := 13) (by omega)
              obtain ⟨c1, c2⟩ := fmod_lt (nth xs 20) (b := 2) (by omega)
              have pick : ∀ x z j : Int, 0 ≤ j → j < 2 → (12 ≤ x ∧ x ≤ 24) → (12 ≤ z ∧ z ≤ 24) → ∃ y, atD [D.int x, D.int z] j = some (.int y) ∧ 12 ≤ y ∧ y ≤ 24 := fun x z j h1 h2 hx hz => by
                have hj : j = 0 ∨ j = 1 := by omega
                rcases hj with rfl | rfl
                · exact ⟨x, rfl, hx⟩
                · exact ⟨z, rfl, hz⟩
              obtain ⟨x, ex, hxx⟩ := pick 15 (12 + (nth xs 18).fmod 13) _ c1 c2 (by omega) (by omega)
              obtain ⟨y, ey, hyy⟩ := pick 20 (12 + (nth xs 19).fmod 13) _ c1 c2 (by omega) (by omega)
              rw [ix_L, ex, opt_some, ix_L, ey, opt_some, (one_over hxx).1, (one_over hyy).1]
              refine ⟨xs, [⟨-1, 0, 0, -1, 0, 0⟩, ⟨1, 0, 0, 1, Rat.divInt 1 x, 0⟩, ⟨1, 0, 0, 1, 0, Rat.divInt 1 y⟩], _, _, _, _, _, _, _, _, ⟨hxl, hx, by simp, fun m hm => ?_⟩, rfl⟩
              simp at hm
              rcases hm with rfl | rfl | rfl
              · exact drS_pure (m := ⟨-1, 0, 0, -1, 0, 0⟩) (iok_lit (by simp) (by simp) (by simp) (by simp)) den0 den0
              · exact drS_pure (m := ⟨1, 0, 0, 1, 0, 0⟩) (iok_lit (by simp) (by simp) (by simp) (by simp)) (one_over hxx).2 den0
              · exact drS_pure (m := ⟨1, 0, 0, 1, 0, 0⟩) (iok_lit (by simp) (by simp) (by simp) (by simp)) den0 (one_over hyy).2
            · exact ⟨xs, L, _, _, _, _, _, _, _, _, ⟨hxl, hx, by omega, hs⟩, rfl⟩
          · rintro _ ⟨xs, L, o4, o5, o6, o7, o8, o9, o10, o11, ⟨hxl, hx, hL, hs⟩, rfl⟩
            have hl24 : 24 ≤ xs.length := by omega
            refine wB_cut 1 (J03 ns i drS 4) ?_ ?_
            · obtain ⟨c1, c2⟩ := fmod_lt (nth xs 18) (b := 2) (by omega)
              simp [ixN hl24, -ix_L, CE.isNop]
              split
              · rw [cutD_take c1, ← List.map_take]
                exact ⟨.inr (.inr (.inr ⟨rfl, imms_mv _⟩)), xs, _, _, _, _, _, _, _, _, _, ⟨hxl, hx, by simp; omega, fun m hm => hs m (List.mem_of_mem_take hm)⟩, rfl⟩
              · exact ⟨xs, L, _, _, _, _, _, _, _, _, ⟨hxl, hx, by omega, hs⟩, rfl⟩
            · rintro _ ⟨xs, L, o4, o5, o6, o7, o8, o9, o10, o11, ⟨hxl, hx, hL, hs⟩, rfl⟩
              refine wB_cut 1 (J03 ns i padS 13) ?_ ?_
              · simp
                refine ⟨⟨ns, _, rfl, by omega⟩, ?_⟩
                rintro _ ⟨c, rfl⟩
                simp
                refine ⟨by simp [onI2], fun d hd => ?_⟩
                obtain ⟨ys, hyl, hy, rfl⟩ := hd _ _ rfl
                have hyl' : ys.length = 16 := hyl
                refine ⟨⟨L, ys, rfl, ⟨by omega, hs⟩, by omega⟩, ?_⟩
                rintro _ ⟨M, rfl, hM, hsM⟩
                exact ⟨.inr (.inr (.inr ⟨rfl, imms_mv _⟩)), xs, M, _, _, _, _, _, _, _, _, ⟨hxl, hx, hM, hsM⟩, rfl⟩
              · rintro _ ⟨xs, L, o4, o5, o6, o7, o8, o9, o10, o11, ⟨hxl, hx, hL, hs⟩, rfl⟩
                have hg := gpre_of hs
                obtain ⟨hb, N, N0, N1, hN⟩ := id hg
                refine wB_cut 4 (K03 ns i) ?_ ?_
                · simp
                  refine ⟨L, rfl, fun m hm => (hb m hm).1, ?_⟩
                  cases em : mats12 L with
                  | none =>
                    have eg : genR L = .inf := by unfold genR; rw [em]
                    simp [optL]
                    exact ⟨xs, L, _, _, _, _, _, _, ⟨hL, hs, fun F e => by rw [eg] at e; cases e⟩, by rw [eg]; rfl⟩
                  | some ML =>
                    simp [optL]
                    have G := genOk_of (most := 600) hb N0 N1 hN em (by decide)
                    refine ⟨L, 600, inP ML N, rfl, G, ?_⟩
                    cases ef : gens L 600 with
                    | none =>
                      have eg : genR L = .many := by unfold genR; rw [em]; simp only [ef]
                      simp [optL]
                      refine ⟨.inr (.inr (.inl rfl)), ?_⟩
                      exact ⟨xs, L, _, _, _, _, _, _, ⟨hL, hs, fun F e => by rw [eg] at e; cases e⟩, by rw [eg]; rfl⟩
                    | some F =>
                      have eg : genR L = .ok F := by unfold genR; rw [em]; simp only [ef]
                      obtain ⟨w, _, _⟩ := gens_ok G ef
                      have hl := w.l
                      simp [optL]
                      refine ⟨.inr (.inr (.inr ⟨rfl, imms_mv _⟩)), F, rfl, mvs_of (ML := ML) N0 N1 fun x hx => ?_, by omega, ?_⟩
                      · obtain ⟨j, _, p⟩ := w.at_ hx
                        exact p
                      · exact ⟨xs, L, _, _, _, _, _, _, ⟨hL, hs, fun F' e => by rw [eg] at e; cases e; omega⟩, by rw [eg]; rfl⟩
                · rintro _ ⟨xs, L, o6, o7, o8, o9, o10, o11, ⟨hL, hs, hF⟩, rfl⟩
                  have hg := gpre_of hs
                  simp
                  refine ⟨.inr (.inr (.inr ⟨rfl, imms_mv _⟩)), _, L, rfl, rfl, by omega, hg, ?_⟩
                  have dL : D.dat 4 (.lst (L.map Mv.D)) = true := dat_list (n := 3) (fun x => dat_mov 0) L (by omega)
                  have dw : ∀ g : GR, D.dat 1 (.str (wordG g)) = true := fun g => by cases g <;> (simp only [D.dat, wordG]; decide +kernel)
                  have eo : ∀ g : GR, tellG g = .tup [dueG g, .str (wordG g)] := fun g => by cases g <;> rfl
                  have dd : D.dat 5 (dueG (genR L)) = true := by
                    cases e : genR L with
                    | ok F => exact dat_list (n := 4) (fun x => dat_mov 1) _ (by have := hF F e; rw [show (sortM F).length = F.length from (srt_perm F).length_eq]; omega)
                    | _ => rfl
                  rw [eo]
                  simp
                  rw [ne_same 1 (dw _) (by omega)]
                  simp
                  refine run_same dd ?_
                  simp only [truD_bl, opt_some, if_true]
                  rw [ne_same 4 dL (by omega)]
                  simp
                  cases e : genR L with
                  | inf => exact ⟨_, _, _, _, _, _, _, _, _, _, _, rfl⟩
                  | many => exact ⟨_, _, _, _, _, _, _, _, _, _, _, rfl⟩
                  | ok F =>
                    rw [e] at dd
                    simp [dueG]
                    refine ⟨_, L, rfl, rfl, by omega, hg, ?_⟩
                    rw [e]
                    show (spSame 5).run [_, _] _ _
                    refine run_same dd ?_
                    simp
                    exact ⟨_, _, _, _, _, _, _, _, _, _, _, rfl⟩
end Dl

namespace Dl
open PySem PySem.Spec PyProof.Rows L2
/-! ### the written defs -/
def tp (i : Nat) : Stmt := PySem.Challenge.pw_seventeenways_k03_generated.main.body.getD i (.Pass ⟨0, 0, 0, 0⟩)
abbrev FnT (K : PySem.W.Frag) (x : Str) (i : Nat) (dv : List V) (f : Addr) (fd : FuncData) : Prop := FunD K x x (defArgs (tp i)) (defBody (tp i)) (defScope (tp i)) dv [] f fd
abbrev Free (mg : Str → Option Value) : Prop := ∀ x ∈ freeNames, mg x = none
theorem same0 [Tbs] {K : PySem.W.Frag} {mg : Str → Option Value} {n : Nat} {vs : List V} {H : Hp} {Q : VK} {E : XK} (h : spOf K mg (spSame 0) n vs H Q E) : False := by
  obtain ⟨_, S, ds, _, _, ⟨d, _, hd⟩, _⟩ := h
  unfold D.dat at hd
  cases hd
theorem law_run {Q : D → Prop} {E : Xn → Prop} (ns : List Int) (_ : ns.length ≤ 63) (_ : ∀ z ∈ ns, Builtin.Int.intBits z ≤ 1048576) (h : Q (.bl true)) : spLaw_k03.run [.lst (ns.map .int)] Q E := ⟨⟨ns, rfl⟩, h⟩
section
variable [Tbs] {P : Program} {w : World} {K : PySem.W.Frag} {mg : Str → Option Value} {base : Heap} {f : Addr} {fd : FuncData} {k : Nat}
theorem sc_common_divisor : FnScope n_common_divisor ["a", "b"] (defScope (tp 6)) := ⟨rfl, rfl, rfl, by decide +kernel, rfl, by decide +kernel, by decide +kernel⟩
theorem ck_common_divisor : (chB n_common_divisor (defScope (tp 6)) true [] c_common_divisor (defBody (tp 6)) [] []).isBad = false := by decide +kernel
theorem ok_common_divisor (F : FnT K "common_divisor" 6 [] f fd) (hf : Free mg) : FnOk P w K mg base (L2.CX P w) (k + 1) f fd ["a", "b"] (spOf K mg spGcd 2) :=
  fnOk_D F sc_common_divisor hf ck_common_divisor (by repeat' first | exact trivial | assumption | apply And.intro) (fun ds Q E _ h => p_common_divisor ds Q E h)
theorem bn_common_divisor (F : FnT K "common_divisor" 6 [] f fd) : Binds K fd ["a", "b"] [] := FunD.bindsN F fun _ _ _ _ _ _ us hl => match us, hl with | [_, _], _ => rfl
theorem sc_fraction : FnScope n_fraction ["n", "d"] (defScope (tp 7)) := ⟨rfl, rfl, rfl, by decide +kernel, rfl, by decide +kernel, by decide +kernel⟩
theorem ck_fraction : (chB n_fraction (defScope (tp 7)) true [] (c_fraction (spGcd)) (defBody (tp 7)) [] []).isBad = false := by decide +kernel
theorem ok_fraction (F : FnT K "fraction" 7 [.int 1] f fd) (hf : Free mg) (h0 : FnC P w K mg base k "common_divisor" 2 (spGcd)) : FnOk P w K mg base (L2.CX P w) (k + 1) f fd ["n", "d"] (spOf K mg spFr 2) :=
  fnOk_D F sc_fraction hf ck_fraction (by repeat' first | exact trivial | assumption | apply And.intro) (fun ds Q E _ h => p_fraction ds Q E h)
theorem sc_plus : FnScope n_plus ["f", "g"] (defScope (tp 8)) := ⟨rfl, rfl, rfl, by decide +kernel, rfl, by decide +kernel, by decide +kernel⟩
theorem ck_plus : (chB n_plus (defScope (tp 8)) true [] (c_plus (spFr)) (defBody (tp 8)) [] []).isBad = false := by decide +kernel
theorem ok_plus (F : FnT K "plus" 8 [] f fd) (hf : Free mg) (h0 : FnC P w K mg base k "fraction" 2 (spFr)) : FnOk P w K mg base (L2.CX P w) (k + 1) f fd ["f", "g"] (spOf K mg spAddQ 2) :=
  fnOk_D F sc_plus hf ck_plus (by repeat' first | exact trivial | assumption | apply And.intro) (fun ds Q E _ h => p_plusQ ds Q E h)
theorem bn_plus (F : FnT K "plus" 8 [] f fd) : Binds K fd ["f", "g"] [] := FunD.bindsN F fun _ _ _ _ _ _ us hl => match us, hl with | [_, _], _ => rfl
theorem sc_rest : FnScope n_rest ["f"] (defScope (tp 9)) := ⟨rfl, rfl, rfl, by decide +kernel, rfl, by decide +kernel, by decide +kernel⟩
theorem ck_rest : (chB n_rest (defScope (tp 9)) true [] c_rest (defBody (tp 9)) [] []).isBad = false := by decide +kernel
theorem ok_rest (F : FnT K "rest" 9 [] f fd) (hf : Free mg) : FnOk P w K mg base (L2.CX P w) (k + 1) f fd ["f"] (spOf K mg spRestQ 1) :=
  fnOk_D F sc_rest hf ck_rest (by repeat' first | exact trivial | assumption | apply And.intro) (fun ds Q E _ h => p_restQ ds Q E h)
theorem bn_rest (F : FnT K "rest" 9 [] f fd) : Binds K fd ["f"] [] := FunD.bindsN F fun _ _ _ _ _ _ us hl => match us, hl with | [_], _ => rfl
theorem sc_common_multiple : FnScope n_common_multiple ["fractions"] (defScope (tp 10)) := ⟨rfl, rfl, rfl, by decide +kernel, rfl, by decide +kernel, by decide +kernel⟩
theorem ck_common_multiple : (chB n_common_multiple (defScope (tp 10)) true [] (c_common_multiple (spGcd)) (defBody (tp 10)) [] []).isBad = false := by decide +kernel
theorem ok_common_multiple (F : FnT K "common_multiple" 10 [] f fd) (hf : Free mg) (h0 : FnC P w K mg base k "common_divisor" 2 (spGcd)) : FnOk P w K mg base (L2.CX P w) (k + 1) f fd ["fractions"] (spOf K mg spLcm 1) :=
  fnOk_D F sc_common_multiple hf ck_common_multiple (by repeat' first | exact trivial | assumption | apply And.intro) (fun ds Q E _ h => p_common_multiple ds Q E h)
theorem bn_common_multiple (F : FnT K "common_multiple" 10 [] f fd) : Binds K fd ["fractions"] [] := FunD.bindsN F fun _ _ _ _ _ _ us hl => match us, hl with | [_], _ => rfl
theorem sc_scaled : FnScope n_scaled ["f", "multiple"] (defScope (tp 11)) := ⟨rfl, rfl, rfl, by decide +kernel, rfl, by decide +kernel, by decide +kernel⟩
theorem ck_scaled : (chB n_scaled (defScope (tp 11)) true [] c_scaled (defBody (tp 11)) [] []).isBad = false := by decide +kernel
theorem ok_scaled (F : FnT K "scaled" 11 [] f fd) (hf : Free mg) : FnOk P w K mg base (L2.CX P w) (k + 1) f fd ["f", "multiple"] (spOf K mg spScaled 2) :=
  fnOk_D F sc_scaled hf ck_scaled (by repeat' first | exact trivial | assumption | apply And.intro) (fun ds Q E _ h => p_scaled ds Q E h)
theorem bn_scaled (F : FnT K "scaled" 11 [] f fd) : Binds K fd ["f", "multiple"] [] := FunD.bindsN F fun _ _ _ _ _ _ us hl => match us, hl with | [_, _], _ => rfl
theorem sc_product : FnScope n_product ["first", "second"] (defScope (tp 14)) := ⟨rfl, rfl, rfl, by decide +kernel, rfl, by decide +kernel, by decide +kernel⟩
theorem ck_product : (chB n_product (defScope (tp 14)) true [] c_product (defBody (tp 14)) [] []).isBad = false := by decide +kernel
theorem ok_product (F : FnT K "product" 14 [] f fd) (hf : Free mg) : FnOk P w K mg base (L2.CX P w) (k + 1) f fd ["first", "second"] (spOf K mg spProd 2) :=
  fnOk_D F sc_product hf ck_product (by repeat' first | exact trivial | assumption | apply And.intro) (fun ds Q E _ h => p_product ds Q E h)
theorem bn_product (F : FnT K "product" 14 [] f fd) : Binds K fd ["first", "second"] [] := FunD.bindsN F fun _ _ _ _ _ _ us hl => match us, hl with | [_, _], _ => rfl
theorem sc_led : FnScope n_led ["matrix", "vector"] (defScope (tp 15)) := ⟨rfl, rfl, rfl, by decide +kernel, rfl, by decide +kernel, by decide +kernel⟩
theorem ck_led : (chB n_led (defScope (tp 15)) true [] (c_led (spFr)) (defBody (tp 15)) [] []).isBad = false := by decide +kernel
theorem ok_led (F : FnT K "led" 15 [] f fd) (hf : Free mg) (h0 : FnC P w K mg base k "fraction" 2 (spFr)) : FnOk P w K mg base (L2.CX P w) (k + 1) f fd ["matrix", "vector"] (spOf K mg spLed 2) :=
  fnOk_D F sc_led hf ck_led (by repeat' first | exact trivial | assumption | apply And.intro) (fun ds Q E _ h => p_led ds Q E h)
theorem bn_led (F : FnT K "led" 15 [] f fd) : Binds K fd ["matrix", "vector"] [] := FunD.bindsN F fun _ _ _ _ _ _ us hl => match us, hl with | [_, _], _ => rfl
theorem sc_moved : FnScope n_moved ["m", "point"] (defScope (tp 16)) := ⟨rfl, rfl, rfl, by decide +kernel, rfl, by decide +kernel, by decide +kernel⟩
theorem ck_moved : (chB n_moved (defScope (tp 16)) true [] (c_moved (spLed) (spAddQ)) (defBody (tp 16)) [] []).isBad = false := by decide +kernel
theorem ok_moved (F : FnT K "moved" 16 [] f fd) (hf : Free mg) (h0 : FnC P w K mg base k "led" 2 (spLed)) (h1 : FnC P w K mg base k "plus" 2 (spAddQ)) : FnOk P w K mg base (L2.CX P w) (k + 1) f fd ["m", "point"] (spOf K mg spMoved 2) :=
  fnOk_D F sc_moved hf ck_moved (by repeat' first | exact trivial | assumption | apply And.intro) (fun ds Q E _ h => p_moved ds Q E h)
theorem bn_moved (F : FnT K "moved" 16 [] f fd) : Binds K fd ["m", "point"] [] := FunD.bindsN F fun _ _ _ _ _ _ us hl => match us, hl with | [_, _], _ => rfl
theorem sc_then : FnScope n_then ["m", "n"] (defScope (tp 17)) := ⟨rfl, rfl, rfl, by decide +kernel, rfl, by decide +kernel, by decide +kernel⟩
theorem ck_then : (chB n_then (defScope (tp 17)) true [] (c_then (spProd) (spMoved)) (defBody (tp 17)) [] []).isBad = false := by decide +kernel
theorem ok_then (F : FnT K "then" 17 [] f fd) (hf : Free mg) (h0 : FnC P w K mg base k "product" 2 (spProd)) (h1 : FnC P w K mg base k "moved" 2 (spMoved)) : FnOk P w K mg base (L2.CX P w) (k + 1) f fd ["m", "n"] (spOf K mg spThen 2) :=
  fnOk_D F sc_then hf ck_then (by repeat' first | exact trivial | assumption | apply And.intro) (fun ds Q E _ h => p_then ds Q E h)
theorem bn_then (F : FnT K "then" 17 [] f fd) : Binds K fd ["m", "n"] [] := FunD.bindsN F fun _ _ _ _ _ _ us hl => match us, hl with | [_, _], _ => rfl
theorem sc_settled : FnScope n_settled ["m"] (defScope (tp 18)) := ⟨rfl, rfl, rfl, by decide +kernel, rfl, by decide +kernel, by decide +kernel⟩
theorem ck_settled : (chB n_settled (defScope (tp 18)) true [] (c_settled (spRestQ)) (defBody (tp 18)) [] []).isBad = false := by decide +kernel
theorem ok_settled (F : FnT K "settled" 18 [] f fd) (hf : Free mg) (h0 : FnC P w K mg base k "rest" 1 (spRestQ)) : FnOk P w K mg base (L2.CX P w) (k + 1) f fd ["m"] (spOf K mg spSettled 1) :=
  fnOk_D F sc_settled hf ck_settled (by repeat' first | exact trivial | assumption | apply And.intro) (fun ds Q E _ h => p_settled ds Q E h)
theorem bn_settled (F : FnT K "settled" 18 [] f fd) : Binds K fd ["m"] [] := FunD.bindsN F fun _ _ _ _ _ _ us hl => match us, hl with | [_], _ => rfl
theorem sc_ascending : FnScope n_ascending ["movements"] (defScope (tp 19)) := ⟨rfl, rfl, rfl, by decide +kernel, rfl, by decide +kernel, by decide +kernel⟩
theorem ck_ascending : (chB n_ascending (defScope (tp 19)) true [] (c_ascending (spLcm) (spScaled)) (defBody (tp 19)) [] []).isBad = false := by decide +kernel
theorem ok_ascending (F : FnT K "ascending" 19 [] f fd) (hf : Free mg) (h0 : FnC P w K mg base k "common_multiple" 1 (spLcm)) (hL : LamF mg base (locQ "ascending" (defScope (tp 19))) fd) (hk : 1 ≤ k) (l0 : FnC P w K mg base (k - 1) "scaled" 2 (spScaled)) : FnOk P w K mg base (L2.CX P w) (k + 1) f fd ["movements"] (spOf K mg spAsc2 1) :=
  fnOk_D F sc_ascending hf ck_ascending (by repeat' first | exact trivial | assumption | apply And.intro) (fun ds Q E _ h => p_ascending ds Q E h)
theorem bn_ascending (F : FnT K "ascending" 19 [] f fd) : Binds K fd ["movements"] [] := FunD.bindsN F fun _ _ _ _ _ _ us hl => match us, hl with | [_], _ => rfl
theorem sc_check_finite : FnScope n_check_finite ["movements"] (defScope (tp 23)) := ⟨rfl, rfl, rfl, by decide +kernel, rfl, by decide +kernel, by decide +kernel⟩
theorem ck_check_finite : (chB n_check_finite (defScope (tp 23)) true [] (c_check_finite (spProd)) (defBody (tp 23)) [] []).isBad = false := by decide +kernel
theorem ok_check_finite (F : FnT K "check_finite" 23 [] f fd) (hf : Free mg) (h0 : FnC P w K mg base k "product" 2 (spProd)) (G_IDENTITY : GlC K mg "IDENTITY" (.tup [(.int 1), (.int 0), (.int 0), (.int 1), (.tup [(.int 0), (.int 1)]), (.tup [(.int 0), (.int 1)])])) (G_MOST_MATRICES : GlC K mg "MOST_MATRICES" (.int 12)) (R_NotFinite : RzC K mg "NotFinite") : FnOk P w K mg base (L2.CX P w) (k + 1) f fd ["movements"] (spOf K mg spCheck 1) :=
  fnOk_D F sc_check_finite hf ck_check_finite (by repeat' first | exact trivial | assumption | apply And.intro) (fun ds Q E _ h => p_check_finite ds Q E h)
theorem bn_check_finite (F : FnT K "check_finite" 23 [] f fd) : Binds K fd ["movements"] [] := FunD.bindsN F fun _ _ _ _ _ _ us hl => match us, hl with | [_], _ => rfl
theorem sc_generated : FnScope n_generated ["movements"] (defScope (tp 24)) := ⟨rfl, rfl, rfl, by decide +kernel, rfl, by decide +kernel, by decide +kernel⟩
theorem ck_generated : (chB n_generated (defScope (tp 24)) true [] (c_generated (spCheck) (spSettled) (spThen) (spAsc2)) (defBody (tp 24)) [] []).isBad = false := by decide +kernel
theorem ok_generated (F : FnT K "generated" 24 [] f fd) (hf : Free mg) (h0 : FnC P w K mg base k "check_finite" 1 (spCheck)) (h1 : FnC P w K mg base k "settled" 1 (spSettled)) (h2 : FnC P w K mg base k "then" 2 (spThen)) (h3 : FnC P w K mg base k "ascending" 1 (spAsc2)) (G_IDENTITY : GlC K mg "IDENTITY" (.tup [(.int 1), (.int 0), (.int 0), (.int 1), (.tup [(.int 0), (.int 1)]), (.tup [(.int 0), (.int 1)])])) (G_MOST_MOVEMENTS : GlC K mg "MOST_MOVEMENTS" (.int 600)) (R_TooMany : RzC K mg "TooMany") : FnOk P w K mg base (L2.CX P w) (k + 1) f fd ["movements"] (spOf K mg spGenerated 1) :=
  fnOk_D F sc_generated hf ck_generated (by repeat' first | exact trivial | assumption | apply And.intro) (fun ds Q E _ h => p_generated ds Q E h)
theorem bn_generated (F : FnT K "generated" 24 [] f fd) : Binds K fd ["movements"] [] := FunD.bindsN F fun _ _ _ _ _ _ us hl => match us, hl with | [_], _ => rfl
theorem sc__law_cell : FnScope n__law_cell ["script", "k"] (defScope (tp 26)) := ⟨rfl, rfl, rfl, by decide +kernel, rfl, by decide +kernel, by decide +kernel⟩
theorem ck__law_cell : (chB n__law_cell (defScope (tp 26)) true [] c__law_cell (defBody (tp 26)) [] []).isBad = false := by decide +kernel
theorem ok__law_cell (F : FnT K "_law_cell" 26 [] f fd) (hf : Free mg) : FnOk P w K mg base (L2.CX P w) (k + 1) f fd ["script", "k"] (spOf K mg spCell 2) :=
  fnOk_D F sc__law_cell hf ck__law_cell (by repeat' first | exact trivial | assumption | apply And.intro) (fun ds Q E _ h => p__law_cell ds Q E h)
theorem bn__law_cell (F : FnT K "_law_cell" 26 [] f fd) : Binds K fd ["script", "k"] [] := FunD.bindsN F fun _ _ _ _ _ _ us hl => match us, hl with | [_, _], _ => rfl
theorem sc__law_numbers : FnScope n__law_numbers ["cell", "count"] (defScope (tp 27)) := ⟨rfl, rfl, rfl, by decide +kernel, rfl, by decide +kernel, by decide +kernel⟩
theorem ck__law_numbers : (chB n__law_numbers (defScope (tp 27)) true [] c__law_numbers (defBody (tp 27)) [] []).isBad = false := by decide +kernel
theorem ok__law_numbers (F : FnT K "_law_numbers" 27 [] f fd) (hf : Free mg) : FnOk P w K mg base (L2.CX P w) (k + 1) f fd ["cell", "count"] (spOf K mg spNums 2) :=
  fnOk_D F sc__law_numbers hf ck__law_numbers (by repeat' first | exact trivial | assumption | apply And.intro) (fun ds Q E _ h => p__law_numbers ds Q E h)
theorem bn__law_numbers (F : FnT K "_law_numbers" 27 [] f fd) : Binds K fd ["cell", "count"] [] := FunD.bindsN F fun _ _ _ _ _ _ us hl => match us, hl with | [_, _], _ => rfl
theorem sc__law_same : FnScope n__law_same ["actual", "due"] (defScope (tp 28)) := ⟨rfl, rfl, rfl, by decide +kernel, rfl, by decide +kernel, by decide +kernel⟩
theorem ck__law_same (s : Spec) : (chB n__law_same (defScope (tp 28)) true [] (c__law_same s) (defBody (tp 28)) [] []).isBad = false := by rfl
theorem ok__law_same (n : Nat) (F : FnT K "_law_same" 28 [] f fd) (hf : Free mg) (h0 : FnC P w K mg base k "_law_same" 2 (spSame n)) : FnOk P w K mg base (L2.CX P w) (k + 1) f fd ["actual", "due"] (spOf K mg (spSame (n + 1)) 2) :=
  fnOk_D F sc__law_same hf (ck__law_same _) (by repeat' first | exact trivial | assumption | apply And.intro) (fun ds Q E _ h => p__law_same n ds Q E h)
theorem bn__law_same (F : FnT K "_law_same" 28 [] f fd) : Binds K fd ["actual", "due"] [] := FunD.bindsN F fun _ _ _ _ _ _ us hl => match us, hl with | [_, _], _ => rfl
theorem sc__law_gcd : FnScope n__law_gcd ["a", "b"] (defScope (tp 29)) := ⟨rfl, rfl, rfl, by decide +kernel, rfl, by decide +kernel, by decide +kernel⟩
theorem ck__law_gcd : (chB n__law_gcd (defScope (tp 29)) true [] c__law_gcd (defBody (tp 29)) [] []).isBad = false := by decide +kernel
theorem ok__law_gcd (F : FnT K "_law_gcd" 29 [] f fd) (hf : Free mg) : FnOk P w K mg base (L2.CX P w) (k + 1) f fd ["a", "b"] (spOf K mg spLGcd 2) :=
  fnOk_D F sc__law_gcd hf ck__law_gcd (by repeat' first | exact trivial | assumption | apply And.intro) (fun ds Q E _ h => p__law_gcd ds Q E h)
theorem bn__law_gcd (F : FnT K "_law_gcd" 29 [] f fd) : Binds K fd ["a", "b"] [] := FunD.bindsN F fun _ _ _ _ _ _ us hl => match us, hl with | [_, _], _ => rfl
theorem sc__law_frac : FnScope n__law_frac ["n", "d"] (defScope (tp 30)) := ⟨rfl, rfl, rfl, by decide +kernel, rfl, by decide +kernel, by decide +kernel⟩
theorem ck__law_frac : (chB n__law_frac (defScope (tp 30)) true [] (c__law_frac (spLGcd)) (defBody (tp 30)) [] []).isBad = false := by decide +kernel
theorem ok__law_frac (F : FnT K "_law_frac" 30 [] f fd) (hf : Free mg) (h0 : FnC P w K mg base k "_law_gcd" 2 (spLGcd)) : FnOk P w K mg base (L2.CX P w) (k + 1) f fd ["n", "d"] (spOf K mg spFr 2) :=
  fnOk_D F sc__law_frac hf ck__law_frac (by repeat' first | exact trivial | assumption | apply And.intro) (fun ds Q E _ h => p__law_frac ds Q E h)
theorem bn__law_frac (F : FnT K "_law_frac" 30 [] f fd) : Binds K fd ["n", "d"] [] := FunD.bindsN F fun _ _ _ _ _ _ us hl => match us, hl with | [_, _], _ => rfl
theorem sc__law_add : FnScope n__law_add ["f", "g"] (defScope (tp 31)) := ⟨rfl, rfl, rfl, by decide +kernel, rfl, by decide +kernel, by decide +kernel⟩
theorem ck__law_add : (chB n__law_add (defScope (tp 31)) true [] (c__law_add (spFr)) (defBody (tp 31)) [] []).isBad = false := by decide +kernel
theorem ok__law_add (F : FnT K "_law_add" 31 [] f fd) (hf : Free mg) (h0 : FnC P w K mg base k "_law_frac" 2 (spFr)) : FnOk P w K mg base (L2.CX P w) (k + 1) f fd ["f", "g"] (spOf K mg spAddQ 2) :=
  fnOk_D F sc__law_add hf ck__law_add (by repeat' first | exact trivial | assumption | apply And.intro) (fun ds Q E _ h => p__law_addQ ds Q E h)
theorem bn__law_add (F : FnT K "_law_add" 31 [] f fd) : Binds K fd ["f", "g"] [] := FunD.bindsN F fun _ _ _ _ _ _ us hl => match us, hl with | [_, _], _ => rfl
theorem sc__law_mul : FnScope n__law_mul ["f", "g"] (defScope (tp 32)) := ⟨rfl, rfl, rfl, by decide +kernel, rfl, by decide +kernel, by decide +kernel⟩
theorem ck__law_mul : (chB n__law_mul (defScope (tp 32)) true [] (c__law_mul (spFr)) (defBody (tp 32)) [] []).isBad = false := by decide +kernel
theorem ok__law_mul (F : FnT K "_law_mul" 32 [] f fd) (hf : Free mg) (h0 : FnC P w K mg base k "_law_frac" 2 (spFr)) : FnOk P w K mg base (L2.CX P w) (k + 1) f fd ["f", "g"] (spOf K mg spMulQ 2) :=
  fnOk_D F sc__law_mul hf ck__law_mul (by repeat' first | exact trivial | assumption | apply And.intro) (fun ds Q E _ h => p__law_mulQ ds Q E h)
theorem bn__law_mul (F : FnT K "_law_mul" 32 [] f fd) : Binds K fd ["f", "g"] [] := FunD.bindsN F fun _ _ _ _ _ _ us hl => match us, hl with | [_, _], _ => rfl
theorem sc__law_rest : FnScope n__law_rest ["f"] (defScope (tp 33)) := ⟨rfl, rfl, rfl, by decide +kernel, rfl, by decide +kernel, by decide +kernel⟩
theorem ck__law_rest : (chB n__law_rest (defScope (tp 33)) true [] c__law_rest (defBody (tp 33)) [] []).isBad = false := by decide +kernel
theorem ok__law_rest (F : FnT K "_law_rest" 33 [] f fd) (hf : Free mg) : FnOk P w K mg base (L2.CX P w) (k + 1) f fd ["f"] (spOf K mg spRestQ 1) :=
  fnOk_D F sc__law_rest hf ck__law_rest (by repeat' first | exact trivial | assumption | apply And.intro) (fun ds Q E _ h => p__law_restQ ds Q E h)
theorem bn__law_rest (F : FnT K "_law_rest" 33 [] f fd) : Binds K fd ["f"] [] := FunD.bindsN F fun _ _ _ _ _ _ us hl => match us, hl with | [_], _ => rfl
theorem sc__law_identity : FnScope n__law_identity [] (defScope (tp 34)) := ⟨rfl, rfl, rfl, by decide +kernel, rfl, by decide +kernel, by decide +kernel⟩
theorem ck__law_identity : (chB n__law_identity (defScope (tp 34)) true [] c__law_identity (defBody (tp 34)) [] []).isBad = false := by decide +kernel
theorem ok__law_identity (F : FnT K "_law_identity" 34 [] f fd) (hf : Free mg) : FnOk P w K mg base (L2.CX P w) (k + 1) f fd [] (spOf K mg spIdent 0) :=
  fnOk_D F sc__law_identity hf ck__law_identity (by repeat' first | exact trivial | assumption | apply And.intro) (fun ds Q E _ h => p__law_identity ds Q E h)
theorem bn__law_identity (F : FnT K "_law_identity" 34 [] f fd) : Binds K fd [] [] := FunD.bindsN F fun _ _ _ _ _ _ us hl => match us, hl with | [], _ => rfl
theorem sc__law_det : FnScope n__law_det ["m"] (defScope (tp 35)) := ⟨rfl, rfl, rfl, by decide +kernel, rfl, by decide +kernel, by decide +kernel⟩
theorem ck__law_det : (chB n__law_det (defScope (tp 35)) true [] c__law_det (defBody (tp 35)) [] []).isBad = false := by decide +kernel
theorem ok__law_det (F : FnT K "_law_det" 35 [] f fd) (hf : Free mg) : FnOk P w K mg base (L2.CX P w) (k + 1) f fd ["m"] (spOf K mg spDet 1) :=
  fnOk_D F sc__law_det hf ck__law_det (by repeat' first | exact trivial | assumption | apply And.intro) (fun ds Q E _ h => p__law_det ds Q E h)
theorem bn__law_det (F : FnT K "_law_det" 35 [] f fd) : Binds K fd ["m"] [] := FunD.bindsN F fun _ _ _ _ _ _ us hl => match us, hl with | [_], _ => rfl
theorem sc__law_led : FnScope n__law_led ["m", "p"] (defScope (tp 36)) := ⟨rfl, rfl, rfl, by decide +kernel, rfl, by decide +kernel, by decide +kernel⟩
theorem ck__law_led : (chB n__law_led (defScope (tp 36)) true [] (c__law_led (spAddQ) (spMulQ)) (defBody (tp 36)) [] []).isBad = false := by decide +kernel
theorem ok__law_led (F : FnT K "_law_led" 36 [] f fd) (hf : Free mg) (h0 : FnC P w K mg base k "_law_add" 2 (spAddQ)) (h1 : FnC P w K mg base k "_law_mul" 2 (spMulQ)) : FnOk P w K mg base (L2.CX P w) (k + 1) f fd ["m", "p"] (spOf K mg spLed 2) :=
  fnOk_D F sc__law_led hf ck__law_led (by repeat' first | exact trivial | assumption | apply And.intro) (fun ds Q E _ h => p__law_led ds Q E h)
theorem bn__law_led (F : FnT K "_law_led" 36 [] f fd) : Binds K fd ["m", "p"] [] := FunD.bindsN F fun _ _ _ _ _ _ us hl => match us, hl with | [_, _], _ => rfl
theorem sc__law_moved : FnScope n__law_moved ["m", "p"] (defScope (tp 37)) := ⟨rfl, rfl, rfl, by decide +kernel, rfl, by decide +kernel, by decide +kernel⟩
theorem ck__law_moved : (chB n__law_moved (defScope (tp 37)) true [] (c__law_moved (spLed) (spAddQ)) (defBody (tp 37)) [] []).isBad = false := by decide +kernel
theorem ok__law_moved (F : FnT K "_law_moved" 37 [] f fd) (hf : Free mg) (h0 : FnC P w K mg base k "_law_led" 2 (spLed)) (h1 : FnC P w K mg base k "_law_add" 2 (spAddQ)) : FnOk P w K mg base (L2.CX P w) (k + 1) f fd ["m", "p"] (spOf K mg spMoved 2) :=
  fnOk_D F sc__law_moved hf ck__law_moved (by repeat' first | exact trivial | assumption | apply And.intro) (fun ds Q E _ h => p__law_moved ds Q E h)
theorem bn__law_moved (F : FnT K "_law_moved" 37 [] f fd) : Binds K fd ["m", "p"] [] := FunD.bindsN F fun _ _ _ _ _ _ us hl => match us, hl with | [_, _], _ => rfl
theorem sc__law_product : FnScope n__law_product ["m", "n"] (defScope (tp 38)) := ⟨rfl, rfl, rfl, by decide +kernel, rfl, by decide +kernel, by decide +kernel⟩
theorem ck__law_product : (chB n__law_product (defScope (tp 38)) true [] c__law_product (defBody (tp 38)) [] []).isBad = false := by decide +kernel
theorem ok__law_product (F : FnT K "_law_product" 38 [] f fd) (hf : Free mg) : FnOk P w K mg base (L2.CX P w) (k + 1) f fd ["m", "n"] (spOf K mg spProd 2) :=
  fnOk_D F sc__law_product hf ck__law_product (by repeat' first | exact trivial | assumption | apply And.intro) (fun ds Q E _ h => p__law_product ds Q E h)
theorem bn__law_product (F : FnT K "_law_product" 38 [] f fd) : Binds K fd ["m", "n"] [] := FunD.bindsN F fun _ _ _ _ _ _ us hl => match us, hl with | [_, _], _ => rfl
theorem sc__law_then : FnScope n__law_then ["m", "n"] (defScope (tp 39)) := ⟨rfl, rfl, rfl, by decide +kernel, rfl, by decide +kernel, by decide +kernel⟩
theorem ck__law_then : (chB n__law_then (defScope (tp 39)) true [] (c__law_then (spProd) (spMoved)) (defBody (tp 39)) [] []).isBad = false := by decide +kernel
theorem ok__law_then (F : FnT K "_law_then" 39 [] f fd) (hf : Free mg) (h0 : FnC P w K mg base k "_law_product" 2 (spProd)) (h1 : FnC P w K mg base k "_law_moved" 2 (spMoved)) : FnOk P w K mg base (L2.CX P w) (k + 1) f fd ["m", "n"] (spOf K mg spThen 2) :=
  fnOk_D F sc__law_then hf ck__law_then (by repeat' first | exact trivial | assumption | apply And.intro) (fun ds Q E _ h => p__law_then ds Q E h)
theorem bn__law_then (F : FnT K "_law_then" 39 [] f fd) : Binds K fd ["m", "n"] [] := FunD.bindsN F fun _ _ _ _ _ _ us hl => match us, hl with | [_, _], _ => rfl
theorem sc__law_back : FnScope n__law_back ["m"] (defScope (tp 40)) := ⟨rfl, rfl, rfl, by decide +kernel, rfl, by decide +kernel, by decide +kernel⟩
theorem ck__law_back : (chB n__law_back (defScope (tp 40)) true [] (c__law_back (spDet) (spLed)) (defBody (tp 40)) [] []).isBad = false := by decide +kernel
theorem ok__law_back (F : FnT K "_law_back" 40 [] f fd) (hf : Free mg) (h0 : FnC P w K mg base k "_law_det" 1 (spDet)) (h1 : FnC P w K mg base k "_law_led" 2 (spLed)) : FnOk P w K mg base (L2.CX P w) (k + 1) f fd ["m"] (spOf K mg spBack 1) :=
  fnOk_D F sc__law_back hf ck__law_back (by repeat' first | exact trivial | assumption | apply And.intro) (fun ds Q E _ h => p__law_back ds Q E h)
theorem bn__law_back (F : FnT K "_law_back" 40 [] f fd) : Binds K fd ["m"] [] := FunD.bindsN F fun _ _ _ _ _ _ us hl => match us, hl with | [_], _ => rfl
theorem sc__law_settled : FnScope n__law_settled ["m"] (defScope (tp 41)) := ⟨rfl, rfl, rfl, by decide +kernel, rfl, by decide +kernel, by decide +kernel⟩
theorem ck__law_settled : (chB n__law_settled (defScope (tp 41)) true [] (c__law_settled (spRestQ)) (defBody (tp 41)) [] []).isBad = false := by decide +kernel
theorem ok__law_settled (F : FnT K "_law_settled" 41 [] f fd) (hf : Free mg) (h0 : FnC P w K mg base k "_law_rest" 1 (spRestQ)) : FnOk P w K mg base (L2.CX P w) (k + 1) f fd ["m"] (spOf K mg spSettled 1) :=
  fnOk_D F sc__law_settled hf ck__law_settled (by repeat' first | exact trivial | assumption | apply And.intro) (fun ds Q E _ h => p__law_settled ds Q E h)
theorem bn__law_settled (F : FnT K "_law_settled" 41 [] f fd) : Binds K fd ["m"] [] := FunD.bindsN F fun _ _ _ _ _ _ us hl => match us, hl with | [_], _ => rfl
theorem sc__law_closed : FnScope n__law_closed ["steps", "most"] (defScope (tp 42)) := ⟨rfl, rfl, rfl, by decide +kernel, rfl, by decide +kernel, by decide +kernel⟩
theorem ck__law_closed : (chB n__law_closed (defScope (tp 42)) true [] (c__law_closed (spIdent) (spSettled) (spThen)) (defBody (tp 42)) [] []).isBad = false := by decide +kernel
theorem ok__law_closed (F : FnT K "_law_closed" 42 [] f fd) (hf : Free mg) (h0 : FnC P w K mg base k "_law_identity" 0 (spIdent)) (h1 : FnC P w K mg base k "_law_settled" 1 (spSettled)) (h2 : FnC P w K mg base k "_law_then" 2 (spThen)) : FnOk P w K mg base (L2.CX P w) (k + 1) f fd ["steps", "most"] (spOf K mg spClosed 2) :=
  fnOk_D F sc__law_closed hf ck__law_closed (by repeat' first | exact trivial | assumption | apply And.intro) (fun ds Q E _ h => p__law_closed ds Q E h)
theorem bn__law_closed (F : FnT K "_law_closed" 42 [] f fd) : Binds K fd ["steps", "most"] [] := FunD.bindsN F fun _ _ _ _ _ _ us hl => match us, hl with | [_, _], _ => rfl
theorem sc__law_multiple : FnScope n__law_multiple ["fractions"] (defScope (tp 43)) := ⟨rfl, rfl, rfl, by decide +kernel, rfl, by decide +kernel, by decide +kernel⟩
theorem ck__law_multiple : (chB n__law_multiple (defScope (tp 43)) true [] (c__law_multiple (spLGcd)) (defBody (tp 43)) [] []).isBad = false := by decide +kernel
theorem ok__law_multiple (F : FnT K "_law_multiple" 43 [] f fd) (hf : Free mg) (h0 : FnC P w K mg base k "_law_gcd" 2 (spLGcd)) : FnOk P w K mg base (L2.CX P w) (k + 1) f fd ["fractions"] (spOf K mg spLcm 1) :=
  fnOk_D F sc__law_multiple hf ck__law_multiple (by repeat' first | exact trivial | assumption | apply And.intro) (fun ds Q E _ h => p__law_multiple ds Q E h)
theorem bn__law_multiple (F : FnT K "_law_multiple" 43 [] f fd) : Binds K fd ["fractions"] [] := FunD.bindsN F fun _ _ _ _ _ _ us hl => match us, hl with | [_], _ => rfl
theorem sc__law_sorted : FnScope n__law_sorted ["movements"] (defScope (tp 44)) := ⟨rfl, rfl, rfl, by decide +kernel, rfl, by decide +kernel, by decide +kernel⟩
theorem ck__law_sorted : (chB n__law_sorted (defScope (tp 44)) true [] (c__law_sorted (spLcm)) (defBody (tp 44)) [] []).isBad = false := by decide +kernel
theorem ok__law_sorted (F : FnT K "_law_sorted" 44 [] f fd) (hf : Free mg) (h0 : FnC P w K mg base k "_law_multiple" 1 (spLcm)) (hL : LamF mg base (locQ "_law_sorted" (defScope (tp 44))) fd) (hk : 1 ≤ k) : FnOk P w K mg base (L2.CX P w) (k + 1) f fd ["movements"] (spOf K mg spAsc2 1) :=
  fnOk_D F sc__law_sorted hf ck__law_sorted (by repeat' first | exact trivial | assumption | apply And.intro) (fun ds Q E _ h => p__law_sorted ds Q E h)
theorem bn__law_sorted (F : FnT K "_law_sorted" 44 [] f fd) : Binds K fd ["movements"] [] := FunD.bindsN F fun _ _ _ _ _ _ us hl => match us, hl with | [_], _ => rfl
theorem sc__law_axes : FnScope n__law_axes ["numbers"] (defScope (tp 45)) := ⟨rfl, rfl, rfl, by decide +kernel, rfl, by decide +kernel, by decide +kernel⟩
theorem ck__law_axes : (chB n__law_axes (defScope (tp 45)) true [] c__law_axes (defBody (tp 45)) [] []).isBad = false := by decide +kernel
theorem ok__law_axes (F : FnT K "_law_axes" 45 [] f fd) (hf : Free mg) : FnOk P w K mg base (L2.CX P w) (k + 1) f fd ["numbers"] (spOf K mg spAxes 1) :=
  fnOk_D F sc__law_axes hf ck__law_axes (by repeat' first | exact trivial | assumption | apply And.intro) (fun ds Q E _ h => p__law_axes ds Q E h)
theorem bn__law_axes (F : FnT K "_law_axes" 45 [] f fd) : Binds K fd ["numbers"] [] := FunD.bindsN F fun _ _ _ _ _ _ us hl => match us, hl with | [_], _ => rfl
theorem sc__law_steps : FnScope n__law_steps ["numbers"] (defScope (tp 46)) := ⟨rfl, rfl, rfl, by decide +kernel, rfl, by decide +kernel, by decide +kernel⟩
theorem ck__law_steps : (chB n__law_steps (defScope (tp 46)) true [] c__law_steps (defBody (tp 46)) [] []).isBad = false := by decide +kernel
theorem ok__law_steps (F : FnT K "_law_steps" 46 [] f fd) (hf : Free mg) : FnOk P w K mg base (L2.CX P w) (k + 1) f fd ["numbers"] (spOf K mg spSteps 1) :=
  fnOk_D F sc__law_steps hf ck__law_steps (by repeat' first | exact trivial | assumption | apply And.intro) (fun ds Q E _ h => p__law_steps ds Q E h)
theorem bn__law_steps (F : FnT K "_law_steps" 46 [] f fd) : Binds K fd ["numbers"] [] := FunD.bindsN F fun _ _ _ _ _ _ us hl => match us, hl with | [_], _ => rfl
theorem sc__law_matrices : FnScope n__law_matrices ["steps"] (defScope (tp 47)) := ⟨rfl, rfl, rfl, by decide +kernel, rfl, by decide +kernel, by decide +kernel⟩
theorem ck__law_matrices : (chB n__law_matrices (defScope (tp 47)) true [] (c__law_matrices (spProd)) (defBody (tp 47)) [] []).isBad = false := by decide +kernel
theorem ok__law_matrices (F : FnT K "_law_matrices" 47 [] f fd) (hf : Free mg) (h0 : FnC P w K mg base k "_law_product" 2 (spProd)) : FnOk P w K mg base (L2.CX P w) (k + 1) f fd ["steps"] (spOf K mg spMatsL 1) :=
  fnOk_D F sc__law_matrices hf ck__law_matrices (by repeat' first | exact trivial | assumption | apply And.intro) (fun ds Q E _ h => p__law_matrices ds Q E h)
theorem bn__law_matrices (F : FnT K "_law_matrices" 47 [] f fd) : Binds K fd ["steps"] [] := FunD.bindsN F fun _ _ _ _ _ _ us hl => match us, hl with | [_], _ => rfl
theorem sc__law_shifted : FnScope n__law_shifted ["m", "x", "y"] (defScope (tp 48)) := ⟨rfl, rfl, rfl, by decide +kernel, rfl, by decide +kernel, by decide +kernel⟩
theorem ck__law_shifted : (chB n__law_shifted (defScope (tp 48)) true [] (c__law_shifted (spAddQ)) (defBody (tp 48)) [] []).isBad = false := by decide +kernel
theorem ok__law_shifted (F : FnT K "_law_shifted" 48 [] f fd) (hf : Free mg) (h0 : FnC P w K mg base k "_law_add" 2 (spAddQ)) : FnOk P w K mg base (L2.CX P w) (k + 1) f fd ["m", "x", "y"] (spOf K mg spShifted 3) :=
  fnOk_D F sc__law_shifted hf ck__law_shifted (by repeat' first | exact trivial | assumption | apply And.intro) (fun ds Q E _ h => p__law_shifted ds Q E h)
theorem bn__law_shifted (F : FnT K "_law_shifted" 48 [] f fd) : Binds K fd ["m", "x", "y"] [] := FunD.bindsN F fun _ _ _ _ _ _ us hl => match us, hl with | [_, _, _], _ => rfl
theorem sc__law_fine : FnScope n__law_fine ["numbers"] (defScope (tp 49)) := ⟨rfl, rfl, rfl, by decide +kernel, rfl, by decide +kernel, by decide +kernel⟩
theorem ck__law_fine : (chB n__law_fine (defScope (tp 49)) true [] (c__law_fine (spSteps) (spShifted) (spFr) (spAxes) (spThen) (spBack)) (defBody (tp 49)) [] []).isBad = false := by decide +kernel
theorem ok__law_fine (F : FnT K "_law_fine" 49 [] f fd) (hf : Free mg) (h0 : FnC P w K mg base k "_law_steps" 1 (spSteps)) (h1 : FnC P w K mg base k "_law_shifted" 3 (spShifted)) (h2 : FnC P w K mg base k "_law_frac" 2 (spFr)) (h3 : FnC P w K mg base k "_law_axes" 1 (spAxes)) (h4 : FnC P w K mg base k "_law_then" 2 (spThen)) (h5 : FnC P w K mg base k "_law_back" 1 (spBack)) : FnOk P w K mg base (L2.CX P w) (k + 1) f fd ["numbers"] (spOf K mg spFine 1) :=
  fnOk_D F sc__law_fine hf ck__law_fine (by repeat' first | exact trivial | assumption | apply And.intro) (fun ds Q E _ h => p__law_fine ds Q E h)
theorem bn__law_fine (F : FnT K "_law_fine" 49 [] f fd) : Binds K fd ["numbers"] [] := FunD.bindsN F fun _ _ _ _ _ _ us hl => match us, hl with | [_], _ => rfl
theorem sc__law_padded : FnScope n__law_padded ["steps", "numbers"] (defScope (tp 50)) := ⟨rfl, rfl, rfl, by decide +kernel, rfl, by decide +kernel, by decide +kernel⟩
theorem ck__law_padded : (chB n__law_padded (defScope (tp 50)) true [] (c__law_padded (spThen)) (defBody (tp 50)) [] []).isBad = false := by decide +kernel
theorem ok__law_padded (F : FnT K "_law_padded" 50 [] f fd) (hf : Free mg) (h0 : FnC P w K mg base k "_law_then" 2 (spThen)) : FnOk P w K mg base (L2.CX P w) (k + 1) f fd ["steps", "numbers"] (spOf K mg spPadded 2) :=
  fnOk_D F sc__law_padded hf ck__law_padded (by repeat' first | exact trivial | assumption | apply And.intro) (fun ds Q E _ h => p__law_padded ds Q E h)
theorem bn__law_padded (F : FnT K "_law_padded" 50 [] f fd) : Binds K fd ["steps", "numbers"] [] := FunD.bindsN F fun _ _ _ _ _ _ us hl => match us, hl with | [_, _], _ => rfl
theorem sc__law_told : FnScope n__law_told ["steps"] (defScope (tp 51)) := ⟨rfl, rfl, rfl, by decide +kernel, rfl, by decide +kernel, by decide +kernel⟩
theorem ck__law_told : (chB n__law_told (defScope (tp 51)) true [] (c__law_told (spGenerated)) (defBody (tp 51)) [] []).isBad = false := by decide +kernel
theorem ok__law_told (F : FnT K "_law_told" 51 [] f fd) (hf : Free mg) (h0 : FnC P w K mg base k "generated" 1 (spGenerated)) (Z_NotFinite : ∃ Cv cv, NamesV mg "NotFinite" Cv cv) (Z_PatternError : ∃ Cv cv, NamesV mg "PatternError" Cv cv) (Z_TooMany : ∃ Cv cv, NamesV mg "TooMany" Cv cv) (M_NotFinite_NotFinite : XiC K mg "NotFinite" "NotFinite") (M_NotFinite_PatternError : XiC K mg "NotFinite" "PatternError") (M_NotFinite_TooMany : XiC K mg "NotFinite" "TooMany") (M_TooMany_NotFinite : XiC K mg "TooMany" "NotFinite") (M_TooMany_PatternError : XiC K mg "TooMany" "PatternError") (M_TooMany_TooMany : XiC K mg "TooMany" "TooMany") (Z_ValueError : ∃ Cv cv, NamesV mg "ValueError" Cv cv) (M_NotFinite_ValueError : XiC K mg "NotFinite" "ValueError") (M_TooMany_ValueError : XiC K mg "TooMany" "ValueError") : FnOk P w K mg base (L2.CX P w) (k + 1) f fd ["steps"] (spOfP K mg spTold03 1) :=
  fnOk_DP F sc__law_told hf ck__law_told (by repeat' first | exact trivial | assumption | apply And.intro) (fun ds Q E _ h => p__law_told ds Q E h)
theorem bn__law_told (F : FnT K "_law_told" 51 [] f fd) : Binds K fd ["steps"] [] := FunD.bindsN F fun _ _ _ _ _ _ us hl => match us, hl with | [_], _ => rfl
theorem sc_law : FnScope n_law_k03 ["script"] (defScope (tp 52)) := ⟨rfl, rfl, rfl, by decide +kernel, rfl, by decide +kernel, by decide +kernel⟩
theorem ck_law : (chB n_law_k03 (defScope (tp 52)) true [] (c_law_k03 (spNums) (spCell) (spFine) (spSteps) (spFr) (spPadded) (spClosed) (spMatsL) (spAsc2) (spSame 5) (spGenerated) (spTold03)) (defBody (tp 52)) [] []).isBad = false := by decide +kernel
theorem ok_law (F : FnT K "law" 52 [] f fd) (hf : Free mg) (h0 : FnC P w K mg base k "_law_numbers" 2 (spNums)) (h1 : FnC P w K mg base k "_law_cell" 2 (spCell)) (h2 : FnC P w K mg base k "_law_fine" 1 (spFine)) (h3 : FnC P w K mg base k "_law_steps" 1 (spSteps)) (h4 : FnC P w K mg base k "_law_frac" 2 (spFr)) (h5 : FnC P w K mg base k "_law_padded" 2 (spPadded)) (h6 : FnC P w K mg base k "_law_closed" 2 (spClosed)) (h7 : FnC P w K mg base k "_law_matrices" 1 (spMatsL)) (h8 : FnC P w K mg base k "_law_sorted" 1 (spAsc2)) (h9 : FnC P w K mg base k "_law_same" 2 (spSame 5)) (h10 : FnC P w K mg base k "generated" 1 (spGenerated)) (q0 : FnCP P w K mg base k "_law_told" 1 (spTold03)) : FnOk P w K mg base (L2.CX P w) (k + 1) f fd ["script"] (spOf K mg spLaw_k03 1) :=
  fnOk_D F sc_law hf ck_law (by repeat' first | exact trivial | assumption | apply And.intro) (fun ds Q E _ h => p_law_k03 ds Q E h)
theorem bn_law (F : FnT K "law" 52 [] f fd) : Binds K fd ["script"] [] := FunD.bindsN F fun _ _ _ _ _ _ us hl => match us, hl with | [_], _ => rfl
end
/-! ### the head -/
def d_common_divisor : He.DefD := ⟨("common_divisor", none), "common_divisor", "common_divisor", defArgs (tp 6), defBody (tp 6), defScope (tp 6), [], []⟩
def d_fraction : He.DefD := ⟨("fraction", none), "fraction", "fraction", defArgs (tp 7), defBody (tp 7), defScope (tp 7), [.int 1], []⟩
def d_plus : He.DefD := ⟨("plus", none), "plus", "plus", defArgs (tp 8), defBody (tp 8), defScope (tp 8), [], []⟩
def d_rest : He.DefD := ⟨("rest", none), "rest", "rest", defArgs (tp 9), defBody (tp 9), defScope (tp 9), [], []⟩
def d_common_multiple : He.DefD := ⟨("common_multiple", none), "common_multiple", "common_multiple", defArgs (tp 10), defBody (tp 10), defScope (tp 10), [], []⟩
def d_scaled : He.DefD := ⟨("scaled", none), "scaled", "scaled", defArgs (tp 11), defBody (tp 11), defScope (tp 11), [], []⟩
def d_product : He.DefD := ⟨("product", none), "product", "product", defArgs (tp 14), defBody (tp 14), defScope (tp 14), [], []⟩
def d_led : He.DefD := ⟨("led", none), "led", "led", defArgs (tp 15), defBody (tp 15), defScope (tp 15), [], []⟩
def d_moved : He.DefD := ⟨("moved", none), "moved", "moved", defArgs (tp 16), defBody (tp 16), defScope (tp 16), [], []⟩
def d_then : He.DefD := ⟨("then", none), "then", "then", defArgs (tp 17), defBody (tp 17), defScope (tp 17), [], []⟩
def d_settled : He.DefD := ⟨("settled", none), "settled", "settled", defArgs (tp 18), defBody (tp 18), defScope (tp 18), [], []⟩
def d_ascending : He.DefD := ⟨("ascending", none), "ascending", "ascending", defArgs (tp 19), defBody (tp 19), defScope (tp 19), [], []⟩
def d_check_finite : He.DefD := ⟨("check_finite", none), "check_finite", "check_finite", defArgs (tp 23), defBody (tp 23), defScope (tp 23), [], []⟩
def d_generated : He.DefD := ⟨("generated", none), "generated", "generated", defArgs (tp 24), defBody (tp 24), defScope (tp 24), [], []⟩
def d__law_cell : He.DefD := ⟨("_law_cell", none), "_law_cell", "_law_cell", defArgs (tp 26), defBody (tp 26), defScope (tp 26), [], []⟩
def d__law_numbers : He.DefD := ⟨("_law_numbers", none), "_law_numbers", "_law_numbers", defArgs (tp 27), defBody (tp 27), defScope (tp 27), [], []⟩
def d__law_same : He.DefD := ⟨("_law_same", none), "_law_same", "_law_same", defArgs (tp 28), defBody (tp 28), defScope (tp 28), [], []⟩
def d__law_gcd : He.DefD := ⟨("_law_gcd", none), "_law_gcd", "_law_gcd", defArgs (tp 29), defBody (tp 29), defScope (tp 29), [], []⟩
def d__law_frac : He.DefD := ⟨("_law_frac", none), "_law_frac", "_law_frac", defArgs (tp 30), defBody (tp 30), defScope (tp 30), [], []⟩
def d__law_add : He.DefD := ⟨("_law_add", none), "_law_add", "_law_add", defArgs (tp 31), defBody (tp 31), defScope (tp 31), [], []⟩
def d__law_mul : He.DefD := ⟨("_law_mul", none), "_law_mul", "_law_mul", defArgs (tp 32), defBody (tp 32), defScope (tp 32), [], []⟩
def d__law_rest : He.DefD := ⟨("_law_rest", none), "_law_rest", "_law_rest", defArgs (tp 33), defBody (tp 33), defScope (tp 33), [], []⟩
def d__law_identity : He.DefD := ⟨("_law_identity", none), "_law_identity", "_law_identity", defArgs (tp 34), defBody (tp 34), defScope (tp 34), [], []⟩
def d__law_det : He.DefD := ⟨("_law_det", none), "_law_det", "_law_det", defArgs (tp 35), defBody (tp 35), defScope (tp 35), [], []⟩
def d__law_led : He.DefD := ⟨("_law_led", none), "_law_led", "_law_led", defArgs (tp 36), defBody (tp 36), defScope (tp 36), [], []⟩
def d__law_moved : He.DefD := ⟨("_law_moved", none), "_law_moved", "_law_moved", defArgs (tp 37), defBody (tp 37), defScope (tp 37), [], []⟩
def d__law_product : He.DefD := ⟨("_law_product", none), "_law_product", "_law_product", defArgs (tp 38), defBody (tp 38), defScope (tp 38), [], []⟩
def d__law_then : He.DefD := ⟨("_law_then", none), "_law_then", "_law_then", defArgs (tp 39), defBody (tp 39), defScope (tp 39), [], []⟩
def d__law_back : He.DefD := ⟨("_law_back", none), "_law_back", "_law_back", defArgs (tp 40), defBody (tp 40), defScope (tp 40), [], []⟩
def d__law_settled : He.DefD := ⟨("_law_settled", none), "_law_settled", "_law_settled", defArgs (tp 41), defBody (tp 41), defScope (tp 41), [], []⟩
def d__law_closed : He.DefD := ⟨("_law_closed", none), "_law_closed", "_law_closed", defArgs (tp 42), defBody (tp 42), defScope (tp 42), [], []⟩
def d__law_multiple : He.DefD := ⟨("_law_multiple", none), "_law_multiple", "_law_multiple", defArgs (tp 43), defBody (tp 43), defScope (tp 43), [], []⟩
def d__law_sorted : He.DefD := ⟨("_law_sorted", none), "_law_sorted", "_law_sorted", defArgs (tp 44), defBody (tp 44), defScope (tp 44), [], []⟩
def d__law_axes : He.DefD := ⟨("_law_axes", none), "_law_axes", "_law_axes", defArgs (tp 45), defBody (tp 45), defScope (tp 45), [], []⟩
def d__law_steps : He.DefD := ⟨("_law_steps", none), "_law_steps", "_law_steps", defArgs (tp 46), defBody (tp 46), defScope (tp 46), [], []⟩
def d__law_matrices : He.DefD := ⟨("_law_matrices", none), "_law_matrices", "_law_matrices", defArgs (tp 47), defBody (tp 47), defScope (tp 47), [], []⟩
def d__law_shifted : He.DefD := ⟨("_law_shifted", none), "_law_shifted", "_law_shifted", defArgs (tp 48), defBody (tp 48), defScope (tp 48), [], []⟩
def d__law_fine : He.DefD := ⟨("_law_fine", none), "_law_fine", "_law_fine", defArgs (tp 49), defBody (tp 49), defScope (tp 49), [], []⟩
def d__law_padded : He.DefD := ⟨("_law_padded", none), "_law_padded", "_law_padded", defArgs (tp 50), defBody (tp 50), defScope (tp 50), [], []⟩
def d__law_told : He.DefD := ⟨("_law_told", none), "_law_told", "_law_told", defArgs (tp 51), defBody (tp 51), defScope (tp 51), [], []⟩
def d_law : He.DefD := ⟨("law", none), "law", "law", defArgs (tp 52), defBody (tp 52), defScope (tp 52), [], []⟩
def htf : List He.DefD := ([d_ascending, d__law_sorted] : List He.DefD)
def hfn : List He.DefD := ([d_common_divisor, d_fraction, d_plus, d_rest, d_common_multiple, d_scaled, d_product, d_led, d_moved, d_then, d_settled, d_ascending, d_check_finite, d_generated, d__law_cell, d__law_numbers] : List He.DefD) ++ ([d__law_same, d__law_gcd, d__law_frac, d__law_add, d__law_mul, d__law_rest, d__law_identity, d__law_det, d__law_led, d__law_moved, d__law_product, d__law_then, d__law_back, d__law_settled, d__law_closed, d__law_multiple] : List He.DefD) ++ ([d__law_sorted, d__law_axes, d__law_steps, d__law_matrices, d__law_shifted, d__law_fine, d__law_padded, d__law_told, d_law] : List He.DefD)
def gls : List Str := (["common_divisor", "fraction", "plus", "rest", "common_multiple", "scaled", "product", "led", "moved", "then", "settled", "ascending", "check_finite", "generated", "_law_cell", "_law_numbers"] : List Str) ++ (["_law_same", "_law_gcd", "_law_frac", "_law_add", "_law_mul", "_law_rest", "_law_identity", "_law_det", "_law_led", "_law_moved", "_law_product", "_law_then", "_law_back", "_law_settled", "_law_closed", "_law_multiple"] : List Str) ++ (["_law_sorted", "_law_axes", "_law_steps", "_law_matrices", "_law_shifted", "_law_fine", "_law_padded", "_law_told", "law"] : List Str)
def asks : List Ask := ([.con "IDENTITY" (.tup [(.int 1), (.int 0), (.int 0), (.int 1), (.tup [(.int 0), (.int 1)]), (.tup [(.int 0), (.int 1)])]), .con "MOST_MATRICES" (.int 12), .rz "NotFinite", .con "MOST_MOVEMENTS" (.int 600), .rz "TooMany", .glo "NotFinite", .glo "PatternError", .glo "TooMany", .xi "NotFinite" "NotFinite", .xi "NotFinite" "PatternError", .xi "NotFinite" "TooMany", .xi "TooMany" "NotFinite", .xi "TooMany" "PatternError", .xi "TooMany" "TooMany", .free "ValueError", .xt "NotFinite" "ValueError"] : List Ask) ++ ([.xt "TooMany" "ValueError"] : List Ask)
def hfa : List Ask := gls.map Ask.glo ++ (freeNames.map Ask.free ++ asks)
abbrev Rw : PySem.W.OpenRow := PySem.W.OpenLaw.row PySem.Challenge.rw_seventeenways_k03_generated
abbrev hkk : PySem.W.Hook := hookX 5 hfa htf hfn
def hob (s : PySem.W.SharedT) : AlX := obsXG 5 hfa htf hfn (HandSHeadRun.getT s)
theorem hob_eq (s : PySem.W.SharedT) : hob s = hkk.obs s.abs := obsXG_eq (HandSHeadRun.getT_eq s)
def lse : List Str := (["common_divisor", "fraction", "plus", "rest", "common_multiple", "scaled", "product", "led", "moved", "then", "settled", "ascending", "check_finite", "generated", "_law_cell", "_law_numbers", "_law_same", "_law_gcd", "_law_frac", "_law_add", "_law_mul", "_law_rest", "_law_identity", "_law_det", "_law_led", "_law_moved", "_law_product", "_law_then", "_law_back", "_law_settled"] : List Str) ++ (["_law_closed", "_law_multiple", "_law_sorted", "_law_axes", "_law_steps", "_law_matrices", "_law_shifted", "_law_fine", "_law_padded", "_law_told", "PatternError", "NotFinite", "TooMany", "ZERO", "IDENTITY", "MOST_MATRICES", "MOST_MOVEMENTS"] : List Str)
theorem hrun (w : World) : HandSHeadRun.RunEq Rw (PySem.W.view Rw.prog [52]) hkk hob 4000 lse w := by
  intro os
  kernel_rfl
section
variable {K : PySem.W.Frag} {h : Heap} {mg : Str → Option Value}
theorem glo_of (X : K.In h) (G : h.Ns mainGlobals mg) (c : SaysX hfa htf hfn h K) {x : Str} (hx : x ∈ gls) : mg x = some (.ref (He.ga K x)) := by
  exact He.glo_ok X G (c.ask (q := .glo x) (List.mem_append_left _ (List.mem_map.mpr ⟨x, hx, rfl⟩)))
theorem free_of (X : K.In h) (G : h.Ns mainGlobals mg) (c : SaysX hfa htf hfn h K) : Free mg := fun x hx => by
  exact He.free_ok X G (c.ask (q := .free x) (List.mem_append_right _ (List.mem_append_left _ (List.mem_map.mpr ⟨x, hx, rfl⟩))))
theorem ask_of (c : SaysX hfa htf hfn h K) (i : Nat) {q : Ask} (h : asks[i]? = some q) : q.ok K = true := c.ask (List.mem_append_right _ (List.mem_append_right _ (List.mem_of_getElem? h)))
end
theorem all_ok {P : Program} {w : World} {K : PySem.W.Frag} {h : Heap} {mg : Str → Option Value} (X : K.In h) (G : h.Ns mainGlobals mg) (c : SaysX hfa htf hfn h K) :
    letI : Tbs := tbsOf htf K; ∃ fd : FuncData, (∀ (s : Shared) (v : Value), BindsTo s fd ⟨[v], []⟩ [("script", v)]) ∧ ∀ base : Heap, (∀ p ∈ tabCs htf K, LamX.TabB base mg p.1 p.2) → FnOk P w K mg base (L2.CX P w) 8 (He.ga K "law") fd ["script"] (spOf K mg spLaw_k03 1) := by
  letI : Tbs := tbsOf htf K
  have hf := free_of X G c
  have G_IDENTITY := gloC_ok X G (ask_of c 0 (q := .con "IDENTITY" (.tup [(.int 1), (.int 0), (.int 0), (.int 1), (.tup [(.int 0), (.int 1)]), (.tup [(.int 0), (.int 1)])])) rfl)
  have G_MOST_MATRICES := gloC_ok X G (ask_of c 1 (q := .con "MOST_MATRICES" (.int 12)) rfl)
  have R_NotFinite : RzC K mg "NotFinite" := rzB_ok X G (ask_of c 2 (q := .rz "NotFinite") rfl)
  have G_MOST_MOVEMENTS := gloC_ok X G (ask_of c 3 (q := .con "MOST_MOVEMENTS" (.int 600)) rfl)
  have R_TooMany : RzC K mg "TooMany" := rzB_ok X G (ask_of c 4 (q := .rz "TooMany") rfl)
  have Z_NotFinite : ∃ Cv cv, NamesV mg "NotFinite" Cv cv := nmG_ok X G (ask_of c 5 (q := .glo "NotFinite") rfl)
  have Z_PatternError : ∃ Cv cv, NamesV mg "PatternError" Cv cv := nmG_ok X G (ask_of c 6 (q := .glo "PatternError") rfl)
  have Z_TooMany : ∃ Cv cv, NamesV mg "TooMany" Cv cv := nmG_ok X G (ask_of c 7 (q := .glo "TooMany") rfl)
  have M_NotFinite_NotFinite : XiC K mg "NotFinite" "NotFinite" := xiB_ok X G (ask_of c 8 (q := .xi "NotFinite" "NotFinite") rfl)
  have M_NotFinite_PatternError : XiC K mg "NotFinite" "PatternError" := xiB_ok X G (ask_of c 9 (q := .xi "NotFinite" "PatternError") rfl)
  have M_NotFinite_TooMany : XiC K mg "NotFinite" "TooMany" := xiB_ok X G (ask_of c 10 (q := .xi "NotFinite" "TooMany") rfl)
  have M_TooMany_NotFinite : XiC K mg "TooMany" "NotFinite" := xiB_ok X G (ask_of c 11 (q := .xi "TooMany" "NotFinite") rfl)
  have M_TooMany_PatternError : XiC K mg "TooMany" "PatternError" := xiB_ok X G (ask_of c 12 (q := .xi "TooMany" "PatternError") rfl)
  have M_TooMany_TooMany : XiC K mg "TooMany" "TooMany" := xiB_ok X G (ask_of c 13 (q := .xi "TooMany" "TooMany") rfl)
  have Z_ValueError : ∃ Cv cv, NamesV mg "ValueError" Cv cv := nmT_ok (T := "ValueError") X G (ask_of c 14 (q := .free "ValueError") rfl) (by decide +kernel)
  have M_NotFinite_ValueError : XiC K mg "NotFinite" "ValueError" := xiT_ok (T := "ValueError") X G (ask_of c 15 (q := .xt "NotFinite" "ValueError") rfl) (by decide +kernel)
  have M_TooMany_ValueError : XiC K mg "TooMany" "ValueError" := xiT_ok (T := "ValueError") X G (ask_of c 16 (q := .xt "TooMany" "ValueError") rfl) (by decide +kernel)
  obtain ⟨fd0, F0⟩ := c.def_ 0 (d := d_common_divisor) rfl
  have g0 := glo_of X G c (x := "common_divisor") (by decide +kernel)
  obtain ⟨fd1, F1⟩ := c.def_ 1 (d := d_fraction) rfl
  have g1 := glo_of X G c (x := "fraction") (by decide +kernel)
  obtain ⟨fd2, F2⟩ := c.def_ 2 (d := d_plus) rfl
  have g2 := glo_of X G c (x := "plus") (by decide +kernel)
  obtain ⟨fd3, F3⟩ := c.def_ 3 (d := d_rest) rfl
  have g3 := glo_of X G c (x := "rest") (by decide +kernel)
  obtain ⟨fd4, F4⟩ := c.def_ 4 (d := d_common_multiple) rfl
  have g4 := glo_of X G c (x := "common_multiple") (by decide +kernel)
  obtain ⟨fd5, F5⟩ := c.def_ 5 (d := d_scaled) rfl
  have g5 := glo_of X G c (x := "scaled") (by decide +kernel)
  obtain ⟨fd6, F6⟩ := c.def_ 6 (d := d_product) rfl
  have g6 := glo_of X G c (x := "product") (by decide +kernel)
  obtain ⟨fd7, F7⟩ := c.def_ 7 (d := d_led) rfl
  have g7 := glo_of X G c (x := "led") (by decide +kernel)
  obtain ⟨fd8, F8⟩ := c.def_ 8 (d := d_moved) rfl
  have g8 := glo_of X G c (x := "moved") (by decide +kernel)
  obtain ⟨fd9, F9⟩ := c.def_ 9 (d := d_then) rfl
  have g9 := glo_of X G c (x := "then") (by decide +kernel)
  obtain ⟨fd10, F10⟩ := c.def_ 10 (d := d_settled) rfl
  have g10 := glo_of X G c (x := "settled") (by decide +kernel)
  obtain ⟨fd11, F11⟩ := c.def_ 11 (d := d_ascending) rfl
  have g11 := glo_of X G c (x := "ascending") (by decide +kernel)
  obtain ⟨fd12, F12⟩ := c.def_ 12 (d := d_check_finite) rfl
  have g12 := glo_of X G c (x := "check_finite") (by decide +kernel)
  obtain ⟨fd13, F13⟩ := c.def_ 13 (d := d_generated) rfl
  have g13 := glo_of X G c (x := "generated") (by decide +kernel)
  obtain ⟨fd14, F14⟩ := c.def_ 14 (d := d__law_cell) rfl
  have g14 := glo_of X G c (x := "_law_cell") (by decide +kernel)
  obtain ⟨fd15, F15⟩ := c.def_ 15 (d := d__law_numbers) rfl
  have g15 := glo_of X G c (x := "_law_numbers") (by decide +kernel)
  obtain ⟨fd16, F16⟩ := c.def_ 16 (d := d__law_same) rfl
  have g16 := glo_of X G c (x := "_law_same") (by decide +kernel)
  obtain ⟨fd17, F17⟩ := c.def_ 17 (d := d__law_gcd) rfl
  have g17 := glo_of X G c (x := "_law_gcd") (by decide +kernel)
  obtain ⟨fd18, F18⟩ := c.def_ 18 (d := d__law_frac) rfl
  have g18 := glo_of X G c (x := "_law_frac") (by decide +kernel)
  obtain ⟨fd19, F19⟩ := c.def_ 19 (d := d__law_add) rfl
  have g19 := glo_of X G c (x := "_law_add") (by decide +kernel)
  obtain ⟨fd20, F20⟩ := c.def_ 20 (d := d__law_mul) rfl
  have g20 := glo_of X G c (x := "_law_mul") (by decide +kernel)
  obtain ⟨fd21, F21⟩ := c.def_ 21 (d := d__law_rest) rfl
  have g21 := glo_of X G c (x := "_law_rest") (by decide +kernel)
  obtain ⟨fd22, F22⟩ := c.def_ 22 (d := d__law_identity) rfl
  have g22 := glo_of X G c (x := "_law_identity") (by decide +kernel)
  obtain ⟨fd23, F23⟩ := c.def_ 23 (d := d__law_det) rfl
  have g23 := glo_of X G c (x := "_law_det") (by decide +kernel)
  obtain ⟨fd24, F24⟩ := c.def_ 24 (d := d__law_led) rfl
  have g24 := glo_of X G c (x := "_law_led") (by decide +kernel)
  obtain ⟨fd25, F25⟩ := c.def_ 25 (d := d__law_moved) rfl
  have g25 := glo_of X G c (x := "_law_moved") (by decide +kernel)
  obtain ⟨fd26, F26⟩ := c.def_ 26 (d := d__law_product) rfl
  have g26 := glo_of X G c (x := "_law_product") (by decide +kernel)
  obtain ⟨fd27, F27⟩ := c.def_ 27 (d := d__law_then) rfl
  have g27 := glo_of X G c (x := "_law_then") (by decide +kernel)
  obtain ⟨fd28, F28⟩ := c.def_ 28 (d := d__law_back) rfl
  have g28 := glo_of X G c (x := "_law_back") (by decide +kernel)
  obtain ⟨fd29, F29⟩ := c.def_ 29 (d := d__law_settled) rfl
  have g29 := glo_of X G c (x := "_law_settled") (by decide +kernel)
  obtain ⟨fd30, F30⟩ := c.def_ 30 (d := d__law_closed) rfl
  have g30 := glo_of X G c (x := "_law_closed") (by decide +kernel)
  obtain ⟨fd31, F31⟩ := c.def_ 31 (d := d__law_multiple) rfl
  have g31 := glo_of X G c (x := "_law_multiple") (by decide +kernel)
  obtain ⟨fd32, F32⟩ := c.def_ 32 (d := d__law_sorted) rfl
  have g32 := glo_of X G c (x := "_law_sorted") (by decide +kernel)
  obtain ⟨fd33, F33⟩ := c.def_ 33 (d := d__law_axes) rfl
  have g33 := glo_of X G c (x := "_law_axes") (by decide +kernel)
  obtain ⟨fd34, F34⟩ := c.def_ 34 (d := d__law_steps) rfl
  have g34 := glo_of X G c (x := "_law_steps") (by decide +kernel)
  obtain ⟨fd35, F35⟩ := c.def_ 35 (d := d__law_matrices) rfl
  have g35 := glo_of X G c (x := "_law_matrices") (by decide +kernel)
  obtain ⟨fd36, F36⟩ := c.def_ 36 (d := d__law_shifted) rfl
  have g36 := glo_of X G c (x := "_law_shifted") (by decide +kernel)
  obtain ⟨fd37, F37⟩ := c.def_ 37 (d := d__law_fine) rfl
  have g37 := glo_of X G c (x := "_law_fine") (by decide +kernel)
  obtain ⟨fd38, F38⟩ := c.def_ 38 (d := d__law_padded) rfl
  have g38 := glo_of X G c (x := "_law_padded") (by decide +kernel)
  obtain ⟨fd39, F39⟩ := c.def_ 39 (d := d__law_told) rfl
  have g39 := glo_of X G c (x := "_law_told") (by decide +kernel)
  obtain ⟨fd40, F40⟩ := c.def_ 40 (d := d_law) rfl
  have g40 := glo_of X G c (x := "law") (by decide +kernel)
  refine ⟨fd40, fun s v => FunD.bindsA (ps := ["script"]) F40 (fun _ _ _ _ _ _ us hl => match us, hl with | [_], _ => rfl) s [v] rfl, fun base hT => ?_⟩
  have O0 : FnOk P w K mg base (L2.CX P w) 1 (He.ga K "common_divisor") fd0 ["a", "b"] (spOf K mg spGcd 2) := ok_common_divisor F0 hf
  have C_common_divisor_2 : FnC P w K mg base 1 "common_divisor" 2 spGcd := FnC.full O0 g0 F0.kp (bn_common_divisor F0)
  have O1 : FnOk P w K mg base (L2.CX P w) 2 (He.ga K "fraction") fd1 ["n", "d"] (spOf K mg spFr 2) := ok_fraction F1 hf (C_common_divisor_2.mono (by decide))
  have C_fraction_2 : FnC P w K mg base 2 "fraction" 2 spFr := by
    obtain ⟨ds, hv, hb⟩ := FunD.binds1 F1 (ps := ["n", "d"]) 2 1 (by intro z; cases z) rfl (fun T kV doc pm an cdv ct us its h1 h2 => match us, its, h1, h2 with | [_, _], [_], _, _ => ⟨_, rfl, rfl⟩)
    exact FnC.dfl (dds := []) O1 g1 F1.kp hb hv (fun H => by unfold Reps; rfl) rfl (fun xs Q E _ h => by rw [List.append_nil]; exact h)
  have O2 : FnOk P w K mg base (L2.CX P w) 3 (He.ga K "plus") fd2 ["f", "g"] (spOf K mg spAddQ 2) := ok_plus F2 hf (C_fraction_2.mono (by decide))
  have C_plus_2 : FnC P w K mg base 3 "plus" 2 spAddQ := FnC.full O2 g2 F2.kp (bn_plus F2)
  have O3 : FnOk P w K mg base (L2.CX P w) 1 (He.ga K "rest") fd3 ["f"] (spOf K mg spRestQ 1) := ok_rest F3 hf
  have C_rest_1 : FnC P w K mg base 1 "rest" 1 spRestQ := FnC.full O3 g3 F3.kp (bn_rest F3)
  have O4 : FnOk P w K mg base (L2.CX P w) 2 (He.ga K "common_multiple") fd4 ["fractions"] (spOf K mg spLcm 1) := ok_common_multiple F4 hf (C_common_divisor_2.mono (by decide))
  have C_common_multiple_1 : FnC P w K mg base 2 "common_multiple" 1 spLcm := FnC.full O4 g4 F4.kp (bn_common_multiple F4)
  have O5 : FnOk P w K mg base (L2.CX P w) 1 (He.ga K "scaled") fd5 ["f", "multiple"] (spOf K mg spScaled 2) := ok_scaled F5 hf
  have C_scaled_2 : FnC P w K mg base 1 "scaled" 2 spScaled := FnC.full O5 g5 F5.kp (bn_scaled F5)
  have O6 : FnOk P w K mg base (L2.CX P w) 1 (He.ga K "product") fd6 ["first", "second"] (spOf K mg spProd 2) := ok_product F6 hf
  have C_product_2 : FnC P w K mg base 1 "product" 2 spProd := FnC.full O6 g6 F6.kp (bn_product F6)
  have O7 : FnOk P w K mg base (L2.CX P w) 3 (He.ga K "led") fd7 ["matrix", "vector"] (spOf K mg spLed 2) := ok_led F7 hf (C_fraction_2.mono (by decide))
  have C_led_2 : FnC P w K mg base 3 "led" 2 spLed := FnC.full O7 g7 F7.kp (bn_led F7)
  have O8 : FnOk P w K mg base (L2.CX P w) 4 (He.ga K "moved") fd8 ["m", "point"] (spOf K mg spMoved 2) := ok_moved F8 hf (C_led_2.mono (by decide)) (C_plus_2.mono (by decide))
  have C_moved_2 : FnC P w K mg base 4 "moved" 2 spMoved := FnC.full O8 g8 F8.kp (bn_moved F8)
  have O9 : FnOk P w K mg base (L2.CX P w) 5 (He.ga K "then") fd9 ["m", "n"] (spOf K mg spThen 2) := ok_then F9 hf (C_product_2.mono (by decide)) (C_moved_2.mono (by decide))
  have C_then_2 : FnC P w K mg base 5 "then" 2 spThen := FnC.full O9 g9 F9.kp (bn_then F9)
  have O10 : FnOk P w K mg base (L2.CX P w) 2 (He.ga K "settled") fd10 ["m"] (spOf K mg spSettled 1) := ok_settled F10 hf (C_rest_1.mono (by decide))
  have C_settled_1 : FnC P w K mg base 2 "settled" 1 spSettled := FnC.full O10 g10 F10.kp (bn_settled F10)
  have O11 : FnOk P w K mg base (L2.CX P w) 3 (He.ga K "ascending") fd11 ["movements"] (spOf K mg spAsc2 1) := ok_ascending F11 hf (C_common_multiple_1.mono (by decide)) (lamF_of c (d := d_ascending) (by simp [htf]) F11 hT) (by decide) (C_scaled_2.mono (by decide))
  have C_ascending_1 : FnC P w K mg base 3 "ascending" 1 spAsc2 := FnC.full O11 g11 F11.kp (bn_ascending F11)
  have O12 : FnOk P w K mg base (L2.CX P w) 2 (He.ga K "check_finite") fd12 ["movements"] (spOf K mg spCheck 1) := ok_check_finite F12 hf (C_product_2.mono (by decide)) G_IDENTITY G_MOST_MATRICES R_NotFinite
  have C_check_finite_1 : FnC P w K mg base 2 "check_finite" 1 spCheck := FnC.full O12 g12 F12.kp (bn_check_finite F12)
  have O13 : FnOk P w K mg base (L2.CX P w) 6 (He.ga K "generated") fd13 ["movements"] (spOf K mg spGenerated 1) := ok_generated F13 hf (C_check_finite_1.mono (by decide)) (C_settled_1.mono (by decide)) (C_then_2.mono (by decide)) (C_ascending_1.mono (by decide)) G_IDENTITY G_MOST_MOVEMENTS R_TooMany
  have C_generated_1 : FnC P w K mg base 6 "generated" 1 spGenerated := FnC.full O13 g13 F13.kp (bn_generated F13)
  have O14 : FnOk P w K mg base (L2.CX P w) 1 (He.ga K "_law_cell") fd14 ["script", "k"] (spOf K mg spCell 2) := ok__law_cell F14 hf
  have C__law_cell_2 : FnC P w K mg base 1 "_law_cell" 2 spCell := FnC.full O14 g14 F14.kp (bn__law_cell F14)
  have O15 : FnOk P w K mg base (L2.CX P w) 1 (He.ga K "_law_numbers") fd15 ["cell", "count"] (spOf K mg spNums 2) := ok__law_numbers F15 hf
  have C__law_numbers_2 : FnC P w K mg base 1 "_law_numbers" 2 spNums := FnC.full O15 g15 F15.kp (bn__law_numbers F15)
  have C__law_same_2 : FnC P w K mg base 7 "_law_same" 2 (spSame 5) := by
    have R : ∀ n, FnC P w K mg base (1 + n) "_law_same" 2 (spSame n) := fun n => by
      induction n with
      | zero => exact FnC.full (FnOk.never (fun vs H Q E hh => same0 hh)) g16 F16.kp (bn__law_same F16)
      | succ n ih => exact FnC.full (ok__law_same n F16 hf ih) g16 F16.kp (bn__law_same F16)
    exact (R 5).mono (by decide)
  have O17 : FnOk P w K mg base (L2.CX P w) 1 (He.ga K "_law_gcd") fd17 ["a", "b"] (spOf K mg spLGcd 2) := ok__law_gcd F17 hf
  have C__law_gcd_2 : FnC P w K mg base 1 "_law_gcd" 2 spLGcd := FnC.full O17 g17 F17.kp (bn__law_gcd F17)
  have O18 : FnOk P w K mg base (L2.CX P w) 2 (He.ga K "_law_frac") fd18 ["n", "d"] (spOf K mg spFr 2) := ok__law_frac F18 hf (C__law_gcd_2.mono (by decide))
  have C__law_frac_2 : FnC P w K mg base 2 "_law_frac" 2 spFr := FnC.full O18 g18 F18.kp (bn__law_frac F18)
  have O19 : FnOk P w K mg base (L2.CX P w) 3 (He.ga K "_law_add") fd19 ["f", "g"] (spOf K mg spAddQ 2) := ok__law_add F19 hf (C__law_frac_2.mono (by decide))
  have C__law_add_2 : FnC P w K mg base 3 "_law_add" 2 spAddQ := FnC.full O19 g19 F19.kp (bn__law_add F19)
  have O20 : FnOk P w K mg base (L2.CX P w) 3 (He.ga K "_law_mul") fd20 ["f", "g"] (spOf K mg spMulQ 2) := ok__law_mul F20 hf (C__law_frac_2.mono (by decide))
  have C__law_mul_2 : FnC P w K mg base 3 "_law_mul" 2 spMulQ := FnC.full O20 g20 F20.kp (bn__law_mul F20)
  have O21 : FnOk P w K mg base (L2.CX P w) 1 (He.ga K "_law_rest") fd21 ["f"] (spOf K mg spRestQ 1) := ok__law_rest F21 hf
  have C__law_rest_1 : FnC P w K mg base 1 "_law_rest" 1 spRestQ := FnC.full O21 g21 F21.kp (bn__law_rest F21)
  have O22 : FnOk P w K mg base (L2.CX P w) 1 (He.ga K "_law_identity") fd22 [] (spOf K mg spIdent 0) := ok__law_identity F22 hf
  have C__law_identity_0 : FnC P w K mg base 1 "_law_identity" 0 spIdent := FnC.full O22 g22 F22.kp (bn__law_identity F22)
  have O23 : FnOk P w K mg base (L2.CX P w) 1 (He.ga K "_law_det") fd23 ["m"] (spOf K mg spDet 1) := ok__law_det F23 hf
  have C__law_det_1 : FnC P w K mg base 1 "_law_det" 1 spDet := FnC.full O23 g23 F23.kp (bn__law_det F23)
  have O24 : FnOk P w K mg base (L2.CX P w) 4 (He.ga K "_law_led") fd24 ["m", "p"] (spOf K mg spLed 2) := ok__law_led F24 hf (C__law_add_2.mono (by decide)) (C__law_mul_2.mono (by decide))
  have C__law_led_2 : FnC P w K mg base 4 "_law_led" 2 spLed := FnC.full O24 g24 F24.kp (bn__law_led F24)
  have O25 : FnOk P w K mg base (L2.CX P w) 5 (He.ga K "_law_moved") fd25 ["m", "p"] (spOf K mg spMoved 2) := ok__law_moved F25 hf (C__law_led_2.mono (by decide)) (C__law_add_2.mono (by decide))
  have C__law_moved_2 : FnC P w K mg base 5 "_law_moved" 2 spMoved := FnC.full O25 g25 F25.kp (bn__law_moved F25)
  have O26 : FnOk P w K mg base (L2.CX P w) 1 (He.ga K "_law_product") fd26 ["m", "n"] (spOf K mg spProd 2) := ok__law_product F26 hf
  have C__law_product_2 : FnC P w K mg base 1 "_law_product" 2 spProd := FnC.full O26 g26 F26.kp (bn__law_product F26)
  have O27 : FnOk P w K mg base (L2.CX P w) 6 (He.ga K "_law_then") fd27 ["m", "n"] (spOf K mg spThen 2) := ok__law_then F27 hf (C__law_product_2.mono (by decide)) (C__law_moved_2.mono (by decide))
  have C__law_then_2 : FnC P w K mg base 6 "_law_then" 2 spThen := FnC.full O27 g27 F27.kp (bn__law_then F27)
  have O28 : FnOk P w K mg base (L2.CX P w) 5 (He.ga K "_law_back") fd28 ["m"] (spOf K mg spBack 1) := ok__law_back F28 hf (C__law_det_1.mono (by decide)) (C__law_led_2.mono (by decide))
  have C__law_back_1 : FnC P w K mg base 5 "_law_back" 1 spBack := FnC.full O28 g28 F28.kp (bn__law_back F28)
  have O29 : FnOk P w K mg base (L2.CX P w) 2 (He.ga K "_law_settled") fd29 ["m"] (spOf K mg spSettled 1) := ok__law_settled F29 hf (C__law_rest_1.mono (by decide))
  have C__law_settled_1 : FnC P w K mg base 2 "_law_settled" 1 spSettled := FnC.full O29 g29 F29.kp (bn__law_settled F29)
  have O30 : FnOk P w K mg base (L2.CX P w) 7 (He.ga K "_law_closed") fd30 ["steps", "most"] (spOf K mg spClosed 2) := ok__law_closed F30 hf (C__law_identity_0.mono (by decide)) (C__law_settled_1.mono (by decide)) (C__law_then_2.mono (by decide))
  have C__law_closed_2 : FnC P w K mg base 7 "_law_closed" 2 spClosed := FnC.full O30 g30 F30.kp (bn__law_closed F30)
  have O31 : FnOk P w K mg base (L2.CX P w) 2 (He.ga K "_law_multiple") fd31 ["fractions"] (spOf K mg spLcm 1) := ok__law_multiple F31 hf (C__law_gcd_2.mono (by decide))
  have C__law_multiple_1 : FnC P w K mg base 2 "_law_multiple" 1 spLcm := FnC.full O31 g31 F31.kp (bn__law_multiple F31)
  have O32 : FnOk P w K mg base (L2.CX P w) 3 (He.ga K "_law_sorted") fd32 ["movements"] (spOf K mg spAsc2 1) := ok__law_sorted F32 hf (C__law_multiple_1.mono (by decide)) (lamF_of c (d := d__law_sorted) (by simp [htf]) F32 hT) (by decide)
  have C__law_sorted_1 : FnC P w K mg base 3 "_law_sorted" 1 spAsc2 := FnC.full O32 g32 F32.kp (bn__law_sorted F32)
  have O33 : FnOk P w K mg base (L2.CX P w) 1 (He.ga K "_law_axes") fd33 ["numbers"] (spOf K mg spAxes 1) := ok__law_axes F33 hf
  have C__law_axes_1 : FnC P w K mg base 1 "_law_axes" 1 spAxes := FnC.full O33 g33 F33.kp (bn__law_axes F33)
  have O34 : FnOk P w K mg base (L2.CX P w) 1 (He.ga K "_law_steps") fd34 ["numbers"] (spOf K mg spSteps 1) := ok__law_steps F34 hf
  have C__law_steps_1 : FnC P w K mg base 1 "_law_steps" 1 spSteps := FnC.full O34 g34 F34.kp (bn__law_steps F34)
  have O35 : FnOk P w K mg base (L2.CX P w) 2 (He.ga K "_law_matrices") fd35 ["steps"] (spOf K mg spMatsL 1) := ok__law_matrices F35 hf (C__law_product_2.mono (by decide))
  have C__law_matrices_1 : FnC P w K mg base 2 "_law_matrices" 1 spMatsL := FnC.full O35 g35 F35.kp (bn__law_matrices F35)
  have O36 : FnOk P w K mg base (L2.CX P w) 4 (He.ga K "_law_shifted") fd36 ["m", "x", "y"] (spOf K mg spShifted 3) := ok__law_shifted F36 hf (C__law_add_2.mono (by decide))
  have C__law_shifted_3 : FnC P w K mg base 4 "_law_shifted" 3 spShifted := FnC.full O36 g36 F36.kp (bn__law_shifted F36)
  have O37 : FnOk P w K mg base (L2.CX P w) 7 (He.ga K "_law_fine") fd37 ["numbers"] (spOf K mg spFine 1) := ok__law_fine F37 hf (C__law_steps_1.mono (by decide)) (C__law_shifted_3.mono (by decide)) (C__law_frac_2.mono (by decide)) (C__law_axes_1.mono (by decide)) (C__law_then_2.mono (by decide)) (C__law_back_1.mono (by decide))
  have C__law_fine_1 : FnC P w K mg base 7 "_law_fine" 1 spFine := FnC.full O37 g37 F37.kp (bn__law_fine F37)
  have O38 : FnOk P w K mg base (L2.CX P w) 7 (He.ga K "_law_padded") fd38 ["steps", "numbers"] (spOf K mg spPadded 2) := ok__law_padded F38 hf (C__law_then_2.mono (by decide))
  have C__law_padded_2 : FnC P w K mg base 7 "_law_padded" 2 spPadded := FnC.full O38 g38 F38.kp (bn__law_padded F38)
  have P__law_told_1 : FnCP P w K mg base 7 "_law_told" 1 spTold03 := FnCP.full (ok__law_told F39 hf (C_generated_1.mono (by decide)) Z_NotFinite Z_PatternError Z_TooMany M_NotFinite_NotFinite M_NotFinite_PatternError M_NotFinite_TooMany M_TooMany_NotFinite M_TooMany_PatternError M_TooMany_TooMany Z_ValueError M_NotFinite_ValueError M_TooMany_ValueError) g39 F39.kp (bn__law_told F39)
  exact ok_law F40 hf (C__law_numbers_2.mono (by decide)) (C__law_cell_2.mono (by decide)) (C__law_fine_1.mono (by decide)) (C__law_steps_1.mono (by decide)) (C__law_frac_2.mono (by decide)) (C__law_padded_2.mono (by decide)) (C__law_closed_2.mono (by decide)) (C__law_matrices_1.mono (by decide)) (C__law_sorted_1.mono (by decide)) (C__law_same_2.mono (by decide)) (C_generated_1.mono (by decide)) (P__law_told_1.mono (by decide))
theorem law_at [Tbs] {K : PySem.W.Frag} {mg : Str → Option Value} {H : Hp} {a : Addr} (ns : List Int) (hl : ns.length ≤ 63) (hb : ∀ z ∈ ns, Builtin.Int.intBits z ≤ 1048576) (hT : LamX.Tabs Tbs.T H) (h : SqL K H a (ns.map V.int)) :
    spOf K mg spLaw_k03 1 [.ref a] H (fun v _ => v = .bl true) fun _ _ _ => False := by
  have e : hide H [] = H := by funext b; simp [hide]
  refine ⟨rfl, [], [.lst (ns.map .int)], SOk.nil hT, ?_, law_run ns hl hb fun v H' p => rep_bl p.rep⟩
  rw [e]
  refine Reps.one ?_
  unfold Rep
  exact ⟨a, _, rfl, h, Reps.ints ns⟩
end Dl
open PySem PySem.W PySem.Calls PyProof.Rows
theorem PySem.Challenge.cw_seventeenways_k03_generated_holds : PySem.Challenge.rw_seventeenways_k03_generated.Holds := by
  w_on; o_law
  refine HandSHeadRun.head_any (H := Dl.hkk) (ob := Dl.hob) (loose := Dl.lse) (kwd := []) (q := view Dl.Rw.prog [52]) (M := 4000) (r := Dl.Rw) (d := HandSHeadRun.topDef Dl.Rw.prog 52) Dl.hob_eq
    (by kernel_rfl) (fun s => by kernel_rfl) Dl.hrun (by kernel_rfl) (by kernel_rfl) (by kernel_rfl) (by rfl) (by first | assumption | decide +kernel) (by decide +kernel) ⟨rfl, rfl, rfl, rfl, rfl, by decide +kernel⟩ ?hw ?hc
  case hw => w_witness2
  case hc =>
    refine LamX.walk_ofTsE (l := PySem.Challenge.rw_seventeenways_k03_generated) (CX := fun w => L2.CX (PySem.Challenge.pw_seventeenways_k03_generated) w) (n := 63) (k := 8) (x := "script") rfl (by decide) (by kernel_rfl) ⟨rfl, by decide, by decide⟩ ?F (fun w H s e s' z => by obtain ⟨_, _, _, _, _, _, _, _, _, _, _, _, z⟩ := z; exact z)
    intro w mg fa h Y G hmg0
    obtain ⟨K, KX, c⟩ := Y
    have hmg : mg ("law" : PySem.Str) = some (.ref fa) := by
      have e : (HandSHeadRun.topDef Dl.Rw.prog 52).name = ("law" : PySem.Str) := by kernel_rfl
      rw [← e]
      exact hmg0
    have e := hmg.symm.trans (Dl.glo_of KX G c (by decide +kernel))
    cases e
    refine ⟨K, KX, ?_⟩
    obtain ⟨fd, hb, hF⟩ := Dl.all_ok (P := PySem.Challenge.pw_seventeenways_k03_generated) (w := w) KX G c
    refine ⟨fd, Dl.tabCs Dl.htf K, _, ?_, ?_, ?_, hb, fun H a ns hl hbits hH hS => @Dl.law_at (Dl.tbsOf Dl.htf K) _ _ _ _ ns hl hbits (Dl.tabs_of hH) hS, fun base hK hN hT => hF base hT⟩
    · intro p hp
      obtain ⟨d, hd, rfl⟩ := List.mem_map.mp hp
      exact c.empty d hd
    · intro p hp
      obtain ⟨d, hd, rfl⟩ := List.mem_map.mp hp
      exact c.out d hd
    · intro p hp
      obtain ⟨d, hd, rfl⟩ := List.mem_map.mp hp
      exact PySem.W.codeHd_of_K KX (c.hd d hd)
