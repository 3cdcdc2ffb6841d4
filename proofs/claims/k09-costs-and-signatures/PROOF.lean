import PyProof.Rows.All
import HandS.SortRule
import HandS.ForMost
import HandS.ForExc
import HandS.TupAny
import HandS.IsInst
import HandS.Wide
import HandS.Flow
import HandS.Style
import HandS.Deep
import HandS.Defaults
import HandS.Zip
import HandS.CallSlots
import HandS.SortKw
import HandS.TupLe
import HandS.SortInts
import HandS.Exc
import HandS.ExcIs
import HandS.ExcOwn
import PyProof.ExcBaseAll.ValueError
import HandS.HeadHook1
import HandS.HeadHook2
import HandS.Head0
import HandS.Head1
import HandS.Head2
import HandS.HeadEnd
import HandS.HeadWalk
import HandS.EndTab
import HandS.Words
import PySem.Challenge.RW_seventeenways_k09_costs_and_signatures
set_option Elab.async false
set_option linter.all false
set_option maxRecDepth 100000
set_option maxHeartbeats 0
set_option exponentiation.threshold 5000
/-! DlD: plain data. -/
namespace Dl
open PySem

/-- plain data -/
inductive D where
  | non | bl (b : Bool) | int (i : Int) | str (x : Str)
  | tup (ds : List D) | lst (ds : List D)
  | dict (ks vs : List D)
  | obj (c : Str) (ns : List Str) (vs : List D)
  deriving Inhabited

mutual
def D.toP : D → PyData
  | .non => .none
  | .bl b => .bool b
  | .int i => .int i
  | .str x => .str x
  | .tup ds => .tuple (D.toPs ds)
  | .lst ds => .list (D.toPs ds)
  | .dict _ _ => .dict []
  | .obj _ _ _ => .dict []
def D.toPs : List D → List PyData
  | [] => []
  | d :: ds => D.toP d :: D.toPs ds
end

-- no dict, no object within, at most k deep, texts of the model's length
mutual
def D.plain : Nat → D → Bool
  | _, .non => true
  | _, .bl _ => true
  | _, .int _ => true
  | _, .str x => PyData.strOk x
  | 0, .tup _ => false
  | k + 1, .tup ds => D.plains k ds
  | 0, .lst _ => false
  | k + 1, .lst ds => D.plains k ds
  | _, .dict _ _ => false
  | _, .obj _ _ _ => false
def D.plains : Nat → List D → Bool
  | _, [] => true
  | k, d :: ds => D.plain k d && D.plains k ds
end

/-- == of data -/
def eqb (a b : D) : Bool := PyData.eqv a.toP b.toP

def D.isNon : D → Bool
  | .non => true
  | _ => false
/-- a container by itself -/
def D.cont : D → Bool
  | .lst _ => true
  | .dict _ _ => true
  | .obj _ _ _ => true
  | _ => false
-- nothing within that may be changed
mutual
def D.imm : D → Bool
  | .tup ds => D.imms ds
  | .lst _ => false
  | .dict _ _ => false
  | .obj _ _ _ => false
  | _ => true
def D.imms : List D → Bool
  | [] => true
  | d :: ds => D.imm d && D.imms ds
end
/-- a container of things that never change, or such a thing -/
def D.flat : D → Bool
  | .lst ds => D.imms ds
  | .dict ks vs => D.imms ks && D.imms vs
  | d => d.imm

end Dl

/-! DlSrt: an order of data (ints, tuples of them), sorting by it. -/
namespace Dl
open PySem
def rkD : D → Int
  | .int _ => 1
  | .tup _ => 2
  | _ => 0
mutual
def cmpT : D → D → Ordering
  | .int i, e => (match e with
    | .int j => compare i j
    | e => compare 1 (rkD e))
  | .tup xs, e => (match e with
    | .tup ys => cmpTs xs ys
    | e => compare 2 (rkD e))
  | .non, e => compare 0 (rkD e)
  | .bl _, e => compare 0 (rkD e)
  | .str _, e => compare 0 (rkD e)
  | .lst _, e => compare 0 (rkD e)
  | .dict _ _, e => compare 0 (rkD e)
  | .obj _ _ _, e => compare 0 (rkD e)
def cmpTs : List D → List D → Ordering
  | [], ys => (match ys with
    | [] => .eq
    | _ :: _ => .lt)
  | x :: xs, ys => (match ys with
    | [] => .gt
    | y :: ys => (cmpT x y).then (cmpTs xs ys))
end
theorem cI_swap (a b : Int) : compare b a = (compare a b).swap := (Int.compare_swap a b).symm
theorem cI_eq {a b : Int} : compare a b = .eq ↔ a = b := Int.compare_eq_eq
theorem cI_lt {a b : Int} : compare a b = .lt ↔ a < b := Int.compare_eq_lt
mutual
theorem cmpT_swap : ∀ (x y : D), cmpT y x = (cmpT x y).swap
  | .int i, y => by cases y <;> simp only [cmpT, rkD] <;> exact cI_swap _ _
  | .tup xs, y => by
    cases y with
    | tup ys => simp only [cmpT]; exact cmpTs_swap xs ys
    | _ => simp only [cmpT, rkD] <;> exact cI_swap _ _
  | .non, y => by cases y <;> simp only [cmpT, rkD] <;> exact cI_swap _ _
  | .bl _, y => by cases y <;> simp only [cmpT, rkD] <;> exact cI_swap _ _
  | .str _, y => by cases y <;> simp only [cmpT, rkD] <;> exact cI_swap _ _
  | .lst _, y => by cases y <;> simp only [cmpT, rkD] <;> exact cI_swap _ _
  | .dict _ _, y => by cases y <;> simp only [cmpT, rkD] <;> exact cI_swap _ _
  | .obj _ _ _, y => by cases y <;> simp only [cmpT, rkD] <;> exact cI_swap _ _
theorem cmpTs_swap : ∀ (xs ys : List D), cmpTs ys xs = (cmpTs xs ys).swap
  | [], ys => by cases ys <;> simp only [cmpTs] <;> rfl
  | x :: xs, ys => by
    cases ys with
    | nil => simp only [cmpTs] <;> rfl
    | cons y ys => simp only [cmpTs]; rw [cmpT_swap x y, cmpTs_swap xs ys, Ordering.swap_then]
end
theorem cI_congr {a b c : Int} (h : compare a b = .eq) : compare a c = compare b c := by rw [cI_eq.mp h]
theorem cI_trans {a b c : Int} (h : compare a b = .lt) (g : compare b c = .lt) : compare a c = .lt := by
  rw [cI_lt] at *; omega
theorem then_eq {a b : Ordering} (h : a.then b = .eq) : a = .eq ∧ b = .eq := by cases a <;> first | exact ⟨rfl, h⟩ | cases h
theorem then_lt {a b : Ordering} (h : a.then b = .lt) : a = .lt ∨ (a = .eq ∧ b = .lt) := by cases a <;> first | exact .inl rfl | exact .inr ⟨rfl, h⟩ | cases h
mutual
theorem cmpT_congr : ∀ (x y z : D), cmpT x y = .eq → cmpT x z = cmpT y z
  | .int i, y, z => by
    intro h
    cases y <;> simp only [cmpT, rkD] at h <;> first | (exact absurd h (by decide)) | skip
    cases z <;> simp only [cmpT] <;> rw [cI_eq.mp h]
  | .tup xs, y, z => by
    intro h
    cases y with
    | tup ys =>
      simp only [cmpT] at h
      cases z with
      | tup zs => simp only [cmpT]; exact cmpTs_congr xs ys zs h
      | _ => simp only [cmpT]
    | _ => simp only [cmpT, rkD] at h; exact absurd h (by decide)
  | .non, y, z => by intro h; cases y <;> simp only [cmpT, rkD] at h ⊢ <;> exact absurd h (by decide)
  | .bl _, y, z => by intro h; cases y <;> simp only [cmpT, rkD] at h ⊢ <;> exact absurd h (by decide)
  | .str _, y, z => by intro h; cases y <;> simp only [cmpT, rkD] at h ⊢ <;> exact absurd h (by decide)
  | .lst _, y, z => by intro h; cases y <;> simp only [cmpT, rkD] at h ⊢ <;> exact absurd h (by decide)
  | .dict _ _, y, z => by intro h; cases y <;> simp only [cmpT, rkD] at h ⊢ <;> exact absurd h (by decide)
  | .obj _ _ _, y, z => by intro h; cases y <;> simp only [cmpT, rkD] at h ⊢ <;> exact absurd h (by decide)
theorem cmpTs_congr : ∀ (xs ys zs : List D), cmpTs xs ys = .eq → cmpTs xs zs = cmpTs ys zs
  | [], ys, zs => by intro h; cases ys <;> simp only [cmpTs] at h <;> first | rfl | cases h
  | x :: xs, ys, zs => by
    intro h
    cases ys with
    | nil => simp only [cmpTs] at h; cases h
    | cons y ys =>
      simp only [cmpTs] at h
      obtain ⟨h1, h2⟩ := then_eq h
      cases zs with
      | nil => simp only [cmpTs]
      | cons z zs => simp only [cmpTs]; rw [cmpT_congr x y z h1, cmpTs_congr xs ys zs h2]
end
theorem cmpT_congr' {x y z : D} (h : cmpT y z = .eq) : cmpT x y = cmpT x z := by
  rw [cmpT_swap y x, cmpT_swap z x, cmpT_congr y z x h]
theorem cmpTs_congr' {x y z : List D} (h : cmpTs y z = .eq) : cmpTs x y = cmpTs x z := by
  rw [cmpTs_swap y x, cmpTs_swap z x, cmpTs_congr y z x h]
mutual
theorem cmpT_trans : ∀ (x y z : D), cmpT x y = .lt → cmpT y z = .lt → cmpT x z = .lt
  | .int i, y, z => by
    intro h g
    cases y <;> simp only [cmpT, rkD] at h <;> first | (exact absurd h (by decide)) | skip
    · cases z <;> simp only [cmpT] at g ⊢ <;> first | exact cI_trans h g | exact g
    · cases z <;> simp only [cmpT, rkD] at g ⊢ <;> first | (exact absurd g (by decide)) | rfl
  | .tup xs, y, z => by
    intro h g
    cases y with
    | tup ys =>
      simp only [cmpT] at h
      cases z with
      | tup zs => simp only [cmpT] at g ⊢; exact cmpTs_trans xs ys zs h g
      | _ => simp only [cmpT, rkD] at g ⊢ <;> exact g
    | _ => simp only [cmpT, rkD] at h; exact absurd h (by decide)
  | .non, y, z => by intro h g; cases y <;> simp only [cmpT, rkD] at h g ⊢ <;> first | (exact absurd h (by decide)) | (cases z <;> simp only [rkD] at g ⊢ <;> first | rfl | exact absurd g (by decide))
  | .bl _, y, z => by intro h g; cases y <;> simp only [cmpT, rkD] at h g ⊢ <;> first | (exact absurd h (by decide)) | (cases z <;> simp only [rkD] at g ⊢ <;> first | rfl | exact absurd g (by decide))
  | .str _, y, z => by intro h g; cases y <;> simp only [cmpT, rkD] at h g ⊢ <;> first | (exact absurd h (by decide)) | (cases z <;> simp only [rkD] at g ⊢ <;> first | rfl | exact absurd g (by decide))
  | .lst _, y, z => by intro h g; cases y <;> simp only [cmpT, rkD] at h g ⊢ <;> first | (exact absurd h (by decide)) | (cases z <;> simp only [rkD] at g ⊢ <;> first | rfl | exact absurd g (by decide))
  | .dict _ _, y, z => by intro h g; cases y <;> simp only [cmpT, rkD] at h g ⊢ <;> first | (exact absurd h (by decide)) | (cases z <;> simp only [rkD] at g ⊢ <;> first | rfl | exact absurd g (by decide))
  | .obj _ _ _, y, z => by intro h g; cases y <;> simp only [cmpT, rkD] at h g ⊢ <;> first | (exact absurd h (by decide)) | (cases z <;> simp only [rkD] at g ⊢ <;> first | rfl | exact absurd g (by decide))
theorem cmpTs_trans : ∀ (xs ys zs : List D), cmpTs xs ys = .lt → cmpTs ys zs = .lt → cmpTs xs zs = .lt
  | [], ys, zs => by
    intro h g
    cases zs with
    | nil => cases ys <;> simp only [cmpTs] at g <;> cases g
    | cons z zs => rfl
  | x :: xs, ys, zs => by
    intro h g
    cases ys with
    | nil => simp only [cmpTs] at h; cases h
    | cons y ys =>
      cases zs with
      | nil => simp only [cmpTs] at g; cases g
      | cons z zs =>
        simp only [cmpTs] at h g ⊢
        rcases then_lt h with h | ⟨h1, h2⟩ <;> rcases then_lt g with g | ⟨g1, g2⟩
        · rw [cmpT_trans x y z h g]; rfl
        · rw [← cmpT_congr' (x := x) g1, h]; rfl
        · rw [cmpT_congr x y z h1, g]; rfl
        · rw [cmpT_congr x y z h1, g1, cmpTs_trans xs ys zs h2 g2]; rfl
end
def ltT (x y : D) : Bool := cmpT x y == .lt
theorem ltT_iff {x y : D} : ltT x y = true ↔ cmpT x y = .lt := by unfold ltT; simp
theorem ltT_no {x y : D} : ltT x y = false ↔ cmpT x y ≠ .lt := by unfold ltT; simp
theorem swo_ltT : SrtO.Swo ltT := by
  refine ⟨fun x y h => ?_, fun x y z h1 h2 => ?_⟩
  · rw [ltT_iff] at h
    rw [ltT_no, cmpT_swap x y, h]
    decide
  · rw [ltT_no] at *
    intro g
    -- z < x, not y < x, not z < y
    cases e1 : cmpT y x with
    | lt => exact h1 e1
    | eq => rw [cmpT_congr' e1] at h2; exact h2 g
    | gt =>
      have e2 : cmpT x y = .lt := by rw [cmpT_swap y x, e1]; rfl
      exact h2 (cmpT_trans _ _ _ g e2)
theorem swo_key {α : Type} (k : α → D) : SrtO.Swo fun x y => ltT (k x) (k y) := ⟨fun x y h => swo_ltT.asym _ _ h, fun x y z a b => swo_ltT.tr _ _ _ a b⟩
/-! ### sorting -/
section
variable {α : Type}
def insB (lt : α → α → Bool) (x : α) : List α → List α
  | [] => [x]
  | y :: ys => if lt y x = true then y :: insB lt x ys else x :: y :: ys
def srtB (lt : α → α → Bool) (xs : List α) : List α := xs.foldr (insB lt) []
variable {lt : α → α → Bool}
theorem ins_perm (x : α) : ∀ ys, (insB lt x ys).Perm (x :: ys)
  | [] => List.Perm.refl _
  | y :: ys => by
    unfold insB
    split
    · exact ((ins_perm x ys).cons y).trans (List.Perm.swap x y ys)
    · exact List.Perm.refl _
theorem ins_srtd (O : SrtO.Swo lt) (x : α) : ∀ {ys}, SrtO.Srtd lt ys → SrtO.Srtd lt (insB lt x ys)
  | [], _ => List.pairwise_singleton _ _
  | y :: ys, h => by
    obtain ⟨h1, h2⟩ := List.pairwise_cons.mp h
    unfold insB
    split
    · rename_i g
      refine List.pairwise_cons.mpr ⟨fun z hz => ?_, ins_srtd O x h2⟩
      rcases List.mem_cons.mp ((ins_perm x ys).mem_iff.mp hz) with rfl | hz
      · exact O.asym _ _ g
      · exact h1 z hz
    · rename_i g
      have g' : lt y x = false := by simpa using g
      refine List.pairwise_cons.mpr ⟨fun z hz => ?_, h⟩
      rcases List.mem_cons.mp hz with rfl | hz
      · exact g'
      · exact O.tr _ _ _ g' (h1 z hz)
theorem ins_stb (O : SrtO.Swo lt) (x z : α) : ∀ ys, (insB lt x ys).filter (SrtO.eqv lt z) = (x :: ys).filter (SrtO.eqv lt z)
  | [] => rfl
  | y :: ys => by
    unfold insB
    split
    · rename_i g
      rw [List.filter_cons, ins_stb O x z ys]
      by_cases hx : SrtO.eqv lt z x = true
      · have hy : SrtO.eqv lt z y = false := by
          cases q : SrtO.eqv lt z y with
          | false => rfl
          | true =>
            obtain ⟨a1, a2⟩ := SrtO.eqv_iff.mp hx
            obtain ⟨b1, b2⟩ := SrtO.eqv_iff.mp q
            have := O.tr x z y a1 b2
            rw [g] at this
            cases this
        rw [hy]
        simp [hx, hy]
      · have hx' : SrtO.eqv lt z x = false := by simpa using hx
        simp [hx', List.filter_cons]
    · rfl
theorem srt_perm (xs : List α) : (srtB lt xs).Perm xs := by
  induction xs with
  | nil => exact List.Perm.refl _
  | cons x xs ih => exact (ins_perm x _).trans (ih.cons x)
theorem srt_srtd (O : SrtO.Swo lt) (xs : List α) : SrtO.Srtd lt (srtB lt xs) := by
  induction xs with
  | nil => exact List.Pairwise.nil
  | cons x xs ih => exact ins_srtd O x ih
theorem srt_stb (O : SrtO.Swo lt) (xs : List α) : SrtO.Stb lt (srtB lt xs) xs := by
  refine ⟨srt_perm xs, fun z => ?_⟩
  induction xs with
  | nil => rfl
  | cons x xs ih =>
    show (insB lt x (srtB lt xs)).filter _ = _
    rw [ins_stb O, List.filter_cons, List.filter_cons, ih]
theorem Stb.symm' {l m : List α} (h : SrtO.Stb lt l m) : SrtO.Stb lt m l := ⟨h.perm.symm, fun x => (h.cls x).symm⟩
/-- the one sorted stable rearrangement -/
theorem srt_uniq (O : SrtO.Swo lt) {l xs : List α} (h1 : SrtO.Srtd lt l) (h2 : SrtO.Stb lt l xs) : l = srtB lt xs :=
  SrtO.stb_uniq O h1 (srt_srtd O xs) (h2.trans (Stb.symm' (srt_stb O xs)))
/-- where no two different ones are alike, the turn does not matter -/
theorem srt_perm_eq (O : SrtO.Swo lt) {xs ys : List α} (h : xs.Perm ys) (hd : ∀ x ∈ xs, ∀ y ∈ xs, SrtO.eqv lt x y = true → x = y) : srtB lt xs = srtB lt ys := by
  have sw : ∀ {l : List α}, l.Perm xs → SrtO.Srtd lt l → ∀ {m : List α}, m.Perm xs → SrtO.Srtd lt m → l = m := by
    intro l hl sl m hm sm
    have hlm : l.Perm m := hl.trans hm.symm
    clear hm
    induction l generalizing m xs ys with
    | nil => exact (List.Perm.eq_nil hlm.symm).symm
    | cons a l ih =>
      cases m with
      | nil => exact absurd hlm.length_eq (by simp)
      | cons b m =>
        have ha : a ∈ b :: m := hlm.mem_iff.mp List.mem_cons_self
        have hb : b ∈ a :: l := hlm.mem_iff.mpr List.mem_cons_self
        have e : a = b := by
          rcases List.mem_cons.mp ha with e | ha
          · exact e
          · rcases List.mem_cons.mp hb with e | hb
            · exact e.symm
            · refine hd a (hl.mem_iff.mp List.mem_cons_self) b (hl.mem_iff.mp (List.mem_cons_of_mem _ hb)) ?_
              have q1 := (List.pairwise_cons.mp sm).1 a ha
              have q2 := (List.pairwise_cons.mp sl).1 b hb
              exact SrtO.eqv_iff.mpr ⟨q1, q2⟩
        subst e
        congr 1
        refine ih (xs := l) (ys := l) (List.Perm.refl _) ?_ (List.Perm.refl _) (List.pairwise_cons.mp sl).2 (List.pairwise_cons.mp sm).2 hlm.cons_inv
        intro x hx y hy
        exact hd x (hl.mem_iff.mp (List.mem_cons_of_mem _ hx)) y (hl.mem_iff.mp (List.mem_cons_of_mem _ hy))
  exact sw (srt_perm xs) (srt_srtd O xs) ((srt_perm ys).trans h.symm) (srt_srtd O ys)
end
abbrev sortD (xs : List D) : List D := srtB ltT xs
/-! ### what may be sorted -/
mutual
/-- their comparison meets ints beside ints, tuples beside tuples -/
def cmpOk : D → D → Bool
  | .int _, e => (match e with | .int _ => true | _ => false)
  | .tup xs, e => (match e with | .tup ys => cmpOks xs ys | _ => false)
  | _, _ => false
def cmpOks : List D → List D → Bool
  | [], _ => true
  | x :: xs, ys => (match ys with
    | [] => true
    | y :: ys => cmpOk x y && cmpOks xs ys)
end
/-- a tuple with an item -/
def ne1 : D → Bool
  | .tup (_ :: _) => true
  | _ => false
/-- tuples that compare -/
structure TupsOk (n : Nat) (ds : List D) : Prop where
  ok : ∀ d ∈ ds, ∀ e ∈ ds, cmpOk d e = true
  ne : ∀ d ∈ ds, ne1 d = true
  pl : ∀ d ∈ ds, D.plain n d = true
end Dl

/-! DlPure: data D, a core language (CE, CS), its weakest preconditions over plain data (wpE, wpS): no heap in sight. -/
namespace Dl
open PySem

/-- an exception: its class, its fields -/
structure Xn where
  c : Str
  fs : List (Str × D)

/-- what a call asks: arguments, the wanted result, the wanted exception -/
structure Spec where
  run : List D → (D → Prop) → (Xn → Prop) → Prop
  mono : ∀ ds Q Q' E E', run ds Q E → (∀ d, Q d → Q' d) → (∀ x, E x → E' x) → run ds Q' E'

abbrev DEnv := List (Option D)

inductive BO where | add | sub | mul | fdiv | mod | pow
  deriving DecidableEq
inductive CO where | lt | le | gt | ge | eq | ne
  deriving DecidableEq
/-- built-ins -/
inductive BF where | len | abs | int_ | list_ | tuple_ | any_ | all_ | sum_ | max2 | min2 | bool_ | sorted_
  deriving DecidableEq
inductive TY where | tup | lst | int | bl | str | cls (c : Str)
  deriving DecidableEq
/-- a target -/
inductive CT where
  | nm (i : Nat) | tp (ts : List CT)

inductive CE where
  | var (i : Nat)
  | int (i : Int) | bl (b : Bool) | non | str (x : Str)
  | glob (x : Str) (d : D)
  | bin (o : BO) (a b : CE)
  | cat (a b : CE)
  | neg (a : CE) | not (a : CE)
  | cmp (o : CO) (a b : CE)
  | chain (o o' : CO) (a b c : CE)
  | isN (ng : Bool) (a : CE)
  | mem (ng : Bool) (a b : CE)
  | and (es : List CE) | or (es : List CE)
  | ife (c a b : CE)
  | tup (es : List CE) | lst (es : List CE)
  | ix (a i : CE)
  | sl (a lo hi : CE)
  | nop
  | call (f : Str) (sp : Spec) (es : List CE)
  | blt (f : BF) (es : List CE)
  | isi (a : CE) (t : TY)
  | lc (t : CT) (it : CE) (ifs : List CE) (elt : CE)
  | lc2 (t : CT) (it : CE) (t2 : CT) (it2 : CE) (ifs : List CE) (elt : CE)
  | rng (es : List CE)
  | enm (a : CE) | zip (a b : CE)

/-- a test of the exception that an except suite holds -/
inductive XT where
  | isx (C : Str) | not (t : XT) | and (ts : List XT) | or (ts : List XT)
/-- the own classes' order: all stand under PatternError, a ValueError -/
def subC (c C : Str) : Bool := c == C || C == ("PatternError" : Str) || C == ("ValueError" : Str) || C == ("Exception" : Str)
mutual
def XT.val (c : Str) : XT → Bool
  | .isx C => subC c C
  | .not t => !t.val c
  | .and ts => XT.allv c ts
  | .or ts => XT.anyv c ts
def XT.allv (c : Str) : List XT → Bool
  | [] => true
  | t :: ts => t.val c && XT.allv c ts
def XT.anyv (c : Str) : List XT → Bool
  | [] => false
  | t :: ts => t.val c || XT.anyv c ts
end
/-- if t: return r, .., return e -/
def hdl (c : Str) : List (XT × CE) → CE → CE
  | [], e => e
  | (t, r) :: hs, e => if t.val c = true then r else hdl c hs e
-- rd: the owned names that e reads; ls: these are owned no more behind it
inductive CS where
  | asg (i : Nat) (e : CE) (rd : List Nat) (ls : Bool)
  | asgT (t : CT) (e : CE) (rd : List Nat) (ls : Bool)
  | par (i j : Nat) (a b : CE)
  | app (i : Nat) (e : CE) (rd : List Nat) (ls : Bool)
  | clr (i : Nat)
  | ext (i j : Nat)
  | drop (e : CE)
  | ret (e : CE) (fr : Bool)
  | retN
  | ifs (c : CE) (a b : List CS)
  | for_ (t : CT) (it : CE) (rd : List Nat) (body : List CS)
  | whl (c : CE) (body : List CS)
  | brk | cnt | pass
  | rse (c : Str)
  | tryx (body : List CS) (all : List Str) (c : Str) (i : Nat) (hs : List (XT × CE)) (last : CE)

/-! ### values -/
def MulOk (i j : Int) : Prop := i.natAbs.log2 + j.natAbs.log2 < 1000000
def DivOk (j : Int) : Prop := j ≠ 0 ∧ j.natAbs.log2 < 9000
def PowOk (i j : Int) : Prop := 0 ≤ j ∧ j ≤ 1000000 ∧ i.natAbs < 2 ^ 64
def szl : Nat := 16777216

def binD (o : BO) (a b : D) (Q : D → Prop) : Prop := match o, a, b with
  | .add, .int i, .int j => Q (.int (i + j))
  | .add, .tup xs, .tup ys => xs.length + ys.length ≤ szl ∧ Q (.tup (xs ++ ys))
  | .add, .lst xs, .lst ys => xs.length + ys.length ≤ szl ∧ Q (.lst (xs ++ ys))
  | .sub, .int i, .int j => Q (.int (i - j))
  | .mul, .int i, .int j => MulOk i j ∧ Q (.int (i * j))
  | .fdiv, .int i, .int j => DivOk j ∧ Q (.int (i.fdiv j))
  | .mod, .int i, .int j => j ≠ 0 ∧ Q (.int (i.fmod j))
  | .pow, .int i, .int j => PowOk i j ∧ Q (.int (i ^ j.toNat))
  | _, _, _ => False
/-- list + list -/
def catD (a b : D) (Q : D → Prop) : Prop := match a, b with
  | .lst xs, .lst ys => xs.length + ys.length ≤ szl ∧ Q (.lst (xs ++ ys))
  | _, _ => False
def cmpD (o : CO) (a b : D) (Q : D → Prop) : Prop := match o with
  | .eq => a.plain 64 = true ∧ b.plain 64 = true ∧ Q (.bl (eqb a b))
  | .ne => a.plain 64 = true ∧ b.plain 64 = true ∧ Q (.bl (!eqb a b))
  | .lt => match a, b with | .int i, .int j => Q (.bl (decide (i < j))) | _, _ => False
  | .le => match a, b with | .int i, .int j => Q (.bl (decide (i ≤ j))) | _, _ => False
  | .gt => match a, b with | .int i, .int j => Q (.bl (decide (j < i))) | _, _ => False
  | .ge => match a, b with | .int i, .int j => Q (.bl (decide (j ≤ i))) | _, _ => False
/-- truth -/
def truD : D → Option Bool
  | .non => some false
  | .bl b => some b
  | .int i => some (i != 0)
  | .tup ds => some (!ds.isEmpty)
  | .lst ds => some (!ds.isEmpty)
  | _ => none
/-- the scalars that may stand beside in -/
def flatD : D → Bool
  | .non => true | .bl _ => true | .int _ => true | .str _ => true
  | _ => false
def items : D → Option (List D)
  | .tup ds => some ds
  | .lst ds => some ds
  | _ => none
/-- x in y -/
def memD (x y : D) (Q : Bool → Prop) : Prop := match y with
  | .tup ds => flatD x = true ∧ ds.all flatD = true ∧ Q (ds.any fun z => eqb z x)
  | .lst ds => x.plain 64 = true ∧ D.plain 64 (.lst ds) = true ∧ Q (ds.any fun z => eqb z x)
  | _ => False
def atD {α : Type} (xs : List α) (i : Int) : Option α :=
  (if 0 ≤ i then (if i < xs.length then some i.toNat else none) else if -(xs.length : Int) ≤ i then some (i + xs.length).toNat else none).bind fun j => xs[j]?
def ixD (a i : D) (Q : D → Prop) : Prop := match a, i with
  | .tup ds, .int k => ∃ d, atD ds k = some d ∧ Q d
  | .lst ds, .int k => ∃ d, atD ds k = some d ∧ Q d
  | _, _ => False
def sIxD (n d : Nat) : Option Int → Nat
  | none => d
  | some v => (if v < 0 then max (v + (n : Int)) 0 else min v (n : Int)).toNat
def cutD {α : Type} (xs : List α) (lo hi : Option Int) : List α := (xs.drop (sIxD xs.length 0 lo)).take (sIxD xs.length xs.length hi - sIxD xs.length 0 lo)
/-- a part of a slice: left out, or an int -/
def partD : Bool → D → Option (Option Int)
  | true, _ => some none
  | false, .int i => some (some i)
  | false, _ => none
def slD (a : D) (l h : Option Int) (Q : D → Prop) : Prop := match a with
  | .tup ds => Q (.tup (cutD ds l h))
  | .lst ds => Q (.lst (cutD ds l h))
  | _ => False
def isiD (t : TY) (d : D) : Bool := match t, d with
  | .tup, .tup _ => true
  | .lst, .lst _ => true
  | .int, .int _ => true
  | .int, .bl _ => true
  | .bl, .bl _ => true
  | .str, .str _ => true
  | .cls c, .obj c' _ _ => decide (c = c')
  | _, _ => false
def absI (i : Int) : Int := if i < 0 then -i else i
def bools : List D → Option (List Bool)
  | [] => some []
  | .bl b :: r => (bools r).map (b :: ·)
  | _ => none
def intsD : List D → Option (List Int)
  | [] => some []
  | .int b :: r => (intsD r).map (b :: ·)
  | _ => none
def bltD (f : BF) (ds : List D) (Q : D → Prop) : Prop := match f, ds with
  | .len, [.tup xs] => Q (.int xs.length)
  | .len, [.lst xs] => Q (.int xs.length)
  | .abs, [.int i] => Q (.int (absI i))
  | .int_, [.int i] => Q (.int i)
  | .list_, [.tup xs] => Q (.lst xs)
  | .list_, [.lst xs] => Q (.lst xs)
  | .tuple_, [.tup xs] => Q (.tup xs)
  | .tuple_, [.lst xs] => Q (.tup xs)
  | .any_, [.lst xs] => ∃ bs, bools xs = some bs ∧ Q (.bl (bs.any id))
  | .all_, [.lst xs] => ∃ bs, bools xs = some bs ∧ Q (.bl (bs.all id))
  | .sum_, [.lst xs] => ∃ ns, intsD xs = some ns ∧ Q (.int ns.sum)
  | .max2, [.int i, .int j] => Q (.int (if j > i then j else i))
  | .min2, [.int i, .int j] => Q (.int (if j < i then j else i))
  | .sorted_, [.lst xs] => ((∃ ns, intsD xs = some ns) ∨ TupsOk 60 xs) ∧ Q (.lst (sortD xs))
  | _, _ => False
/-- a range's ints -/
def rangeD (lo : Int) (n : Nat) : List D := (List.range n).map fun (i : Nat) => .int (lo + (i : Int))
def rngD (ds : List D) (Q : D → Prop) : Prop := match ds with
  | [.int b] => -(2 ^ 62) ≤ b ∧ b < 2 ^ 62 ∧ Q (.lst (rangeD 0 b.toNat))
  | [.int a, .int b] => -(2 ^ 62) ≤ a ∧ a < 2 ^ 62 ∧ -(2 ^ 62) ≤ b ∧ b < 2 ^ 62 ∧ Q (.lst (rangeD a (b - a).toNat))
  | _ => False
def enumD : Int → List D → List D
  | _, [] => []
  | k, d :: ds => .tup [.int k, d] :: enumD (k + 1) ds
def zipD : List D → List D → List D
  | x :: xs, y :: ys => .tup [x, y] :: zipD xs ys
  | _, _ => []

mutual
def asgT : CT → D → DEnv → Option DEnv
  | .nm i, d, ρ => some (ρ.set i (some d))
  | .tp ts, .tup ds, ρ => asgTs ts ds ρ
  | .tp _, _, _ => none
def asgTs : List CT → List D → DEnv → Option DEnv
  | [], [], ρ => some ρ
  | t :: ts, d :: ds, ρ => (asgT t d ρ).bind (asgTs ts ds)
  | _, _, _ => none
end

/-- a comprehension's turns: g tells of an item what is kept -/
def wpLc (g : D → (Option D → Prop) → Prop) : List D → List D → (List D → Prop) → Prop
  | [], acc, Q => Q acc
  | x :: xs, acc, Q => g x fun r => match r with
    | some y => acc.length < szl ∧ wpLc g xs (acc ++ [y]) Q
    | none => wpLc g xs acc Q

/-- the turns of a comprehension's first clause of two -/
def wpLcN (g : D → List D → (List D → Prop) → Prop) : List D → List D → (List D → Prop) → Prop
  | [], acc, Q => Q acc
  | x :: xs, acc, Q => g x acc fun acc' => wpLcN g xs acc' Q
mutual
/-- a target's slots -/
def CT.slots : CT → List Nat
  | .nm i => [i]
  | .tp ts => CT.slotsL ts
def CT.slotsL : List CT → List Nat
  | [] => []
  | t :: ts => t.slots ++ CT.slotsL ts
end
/-- slots without a value -/
def wipeD (ρ : DEnv) (sl : List Nat) : DEnv := sl.foldl (fun ρ i => ρ.set i none) ρ
/-- the value is a new object, if it is a container at all -/
def CE.fresh : CE → Bool
  | .var _ => false
  | .glob _ _ => false
  | .ix _ _ => false
  | .and _ => false
  | .or _ => false
  | .ife _ a b => a.fresh && b.fresh
  | _ => true

/-- it may be a new container: its name owns it -/
def CE.owns : CE → Bool
  | .lst _ => true
  | .lc _ _ _ _ => true
  | .lc2 _ _ _ _ _ _ => true
  | .call _ _ _ => true
  | .cat _ _ => true
  | .blt .list_ _ => true
  | .blt .sorted_ _ => true
  | .sl _ _ _ => true
  | .bin .add a b => a.owns || b.owns
  | .ife _ a b => a.fresh && b.fresh && (a.owns || b.owns)
  | _ => false
theorem CE.owns_fresh {e : CE} (h : e.owns = true) : e.fresh = true := by
  cases e <;> first | rfl | (cases h; done) | skip
  simp only [CE.owns, Bool.and_eq_true] at h
  simp [CE.fresh, h.1.1, h.1.2]

def CE.isNop : CE → Bool
  | .nop => true
  | _ => false

/-! ### expressions -/
mutual
def wpE : CE → DEnv → (D → Prop) → (Xn → Prop) → Prop
  | .var i, ρ, Q, _ => ∃ d, ρ[i]? = some (some d) ∧ Q d
  | .int i, _, Q, _ => Q (.int i)
  | .bl b, _, Q, _ => Q (.bl b)
  | .non, _, Q, _ => Q .non
  | .str x, _, Q, _ => Q (.str x)
  | .glob _ d, _, Q, _ => Q d
  | .bin o a b, ρ, Q, E => wpE a ρ (fun x => wpE b ρ (fun y => binD o x y Q) E) E
  | .cat a b, ρ, Q, E => wpE a ρ (fun x => wpE b ρ (fun y => catD x y Q) E) E
  | .neg a, ρ, Q, E => wpE a ρ (fun x => ∃ i, x = .int i ∧ Q (.int (-i))) E
  | .not a, ρ, Q, E => wpE a ρ (fun x => ∃ b, truD x = some b ∧ Q (.bl (!b))) E
  | .cmp o a b, ρ, Q, E => wpE a ρ (fun x => wpE b ρ (fun y => cmpD o x y Q) E) E
  | .chain o o' a b c, ρ, Q, E => wpE a ρ (fun x => wpE b ρ (fun y => cmpD o x y fun r => ∃ k, r = .bl k ∧ if k = true then wpE c ρ (fun z => cmpD o' y z Q) E else Q (.bl false)) E) E
  | .isN ng a, ρ, Q, E => wpE a ρ (fun x => Q (.bl (ng != x.isNon))) E
  | .mem ng a b, ρ, Q, E => wpE a ρ (fun x => wpE b ρ (fun y => memD x y fun r => Q (.bl (ng != r))) E) E
  | .and es, ρ, Q, E => wpAnd es ρ Q E
  | .or es, ρ, Q, E => wpOr es ρ Q E
  | .ife c a b, ρ, Q, E => wpE c ρ (fun x => ∃ k, truD x = some k ∧ if k = true then wpE a ρ Q E else wpE b ρ Q E) E
  | .tup es, ρ, Q, E => wpEs es ρ (fun ds => ds.length ≤ szl ∧ Q (.tup ds)) E
  | .lst es, ρ, Q, E => wpEs es ρ (fun ds => ds.length ≤ szl ∧ Q (.lst ds)) E
  | .ix a i, ρ, Q, E => wpE a ρ (fun x => wpE i ρ (fun y => ixD x y Q) E) E
  | .sl a lo hi, ρ, Q, E => wpE a ρ (fun x => wpE lo ρ (fun y => ∃ l, partD lo.isNop y = some l ∧ wpE hi ρ (fun z => ∃ h, partD hi.isNop z = some h ∧ slD x l h Q) E) E) E
  | .nop, _, Q, _ => Q .non
  | .call _ sp es, ρ, Q, E => wpEs es ρ (fun ds => sp.run ds Q E) E
  | .blt f es, ρ, Q, E => wpEs es ρ (fun ds => bltD f ds Q) E
  | .isi a t, ρ, Q, E => wpE a ρ (fun x => Q (.bl (isiD t x))) E
  | .lc t it ifs elt, ρ, Q, E => wpE it ρ (fun d => ∃ xs, items d = some xs ∧
      wpLc (fun x K => ∃ ρ', asgT t x ρ = some ρ' ∧ wpIfs ifs ρ' (fun b => if b = true then wpE elt ρ' (fun y => K (some y)) (fun _ => False) else K none)) xs [] fun acc => Q (.lst acc)) E
  | .lc2 t it t2 it2 ifs elt, ρ, Q, E => wpE it ρ (fun d => ∃ xs, items d = some xs ∧
      wpLcN (fun x acc K => ∃ ρ', asgT t x (wipeD ρ t2.slots) = some ρ' ∧ wpE it2 ρ' (fun d2 => ∃ ys, items d2 = some ys ∧
        wpLc (fun y K' => ∃ ρ'', asgT t2 y ρ' = some ρ'' ∧ wpIfs ifs ρ'' (fun b => if b = true then wpE elt ρ'' (fun v => K' (some v)) (fun _ => False) else K' none)) ys acc K) (fun _ => False)) xs [] fun acc => Q (.lst acc)) E
  | .rng es, ρ, Q, E => wpEs es ρ (fun ds => rngD ds Q) E
  | .enm a, ρ, Q, E => wpE a ρ (fun x => ∃ xs, items x = some xs ∧ Q (.lst (enumD 0 xs))) E
  | .zip a b, ρ, Q, E => wpE a ρ (fun x => wpE b ρ (fun y => ∃ xs ys, items x = some xs ∧ items y = some ys ∧ Q (.lst (zipD xs ys))) E) E
def wpEs : List CE → DEnv → (List D → Prop) → (Xn → Prop) → Prop
  | [], _, Q, _ => Q []
  | e :: es, ρ, Q, E => wpE e ρ (fun d => wpEs es ρ (fun ds => Q (d :: ds)) E) E
/-- and, or: the last one's value, or the first one that decides -/
def wpAnd : List CE → DEnv → (D → Prop) → (Xn → Prop) → Prop
  | [], _, _, _ => False
  | e :: es, ρ, Q, E => wpE e ρ (fun d => match es with
    | [] => Q d
    | _ :: _ => ∃ k, truD d = some k ∧ if k = true then wpAnd es ρ Q E else Q d) E
def wpOr : List CE → DEnv → (D → Prop) → (Xn → Prop) → Prop
  | [], _, _, _ => False
  | e :: es, ρ, Q, E => wpE e ρ (fun d => match es with
    | [] => Q d
    | _ :: _ => ∃ k, truD d = some k ∧ if k = true then Q d else wpOr es ρ Q E) E
/-- a clause's tests (nothing raised) -/
def wpIfs : List CE → DEnv → (Bool → Prop) → Prop
  | [], _, Q => Q true
  | e :: es, ρ, Q => wpE e ρ (fun d => ∃ k, truD d = some k ∧ if k = true then wpIfs es ρ Q else Q false) (fun _ => False)
end

/-! ### statements -/
structure Pn where
  nx : DEnv → Prop
  rt : D → Prop
  bk : DEnv → Prop
  ct : DEnv → Prop
  ex : DEnv → Xn → Prop

def wpFor (g : D → DEnv → Pn → Prop) : List D → DEnv → Pn → Prop
  | [], ρ, P => P.nx ρ
  | x :: xs, ρ, P => g x ρ { P with nx := fun ρ' => wpFor g xs ρ' P, ct := fun ρ' => wpFor g xs ρ' P, bk := P.nx }
def wpWhl (t : DEnv → (Bool → Prop) → (Xn → Prop) → Prop) (g : DEnv → Pn → Prop) : Nat → DEnv → Pn → Prop
  | 0, _, _ => False
  | n + 1, ρ, P => t ρ (fun k => if k = true then g ρ { P with nx := fun ρ' => wpWhl t g n ρ' P, ct := fun ρ' => wpWhl t g n ρ' P, bk := P.nx } else P.nx ρ) (P.ex ρ)

/-- a test -/
def wpT (e : CE) (ρ : DEnv) (Q : Bool → Prop) (E : Xn → Prop) : Prop := wpE e ρ (fun d => ∃ k, truD d = some k ∧ Q k) E

/-- owned names were read: the value must not hold them, or they are owned no more -/
def keep (rd : List Nat) (ls : Bool) (e : CE) (d : D) : Prop := rd = [] ∨ ls = true ∨ d.imm = true ∨ (e.owns = true ∧ d.flat = true)
mutual
def wpS : CS → DEnv → Pn → Prop
  | .asg i e rd ls, ρ, P => wpE e ρ (fun d => keep rd ls e d ∧ P.nx (ρ.set i (some d))) (P.ex ρ)
  | .asgT t e rd ls, ρ, P => wpE e ρ (fun d => (rd = [] ∨ ls = true ∨ d.imm = true) ∧ ∃ ρ', asgT t d ρ = some ρ' ∧ P.nx ρ') (P.ex ρ)
  | .par i j a b, ρ, P => wpE a ρ (fun x => wpE b ρ (fun y => P.nx ((ρ.set i (some x)).set j (some y))) (P.ex ρ)) (P.ex ρ)
  | .app i e rd ls, ρ, P => ∃ ds, ρ[i]? = some (some (.lst ds)) ∧ ds.length < szl ∧ wpE e ρ (fun d => (rd = [] ∨ ls = true ∨ d.imm = true) ∧ P.nx (ρ.set i (some (.lst (ds ++ [d]))))) (P.ex ρ)
  | .clr i, ρ, P => ∃ ds, ρ[i]? = some (some (.lst ds)) ∧ P.nx (ρ.set i (some (.lst [])))
  | .ext i j, ρ, P => ∃ ds es, ρ[i]? = some (some (.lst ds)) ∧ ρ[j]? = some (some (.lst es)) ∧ ds.length + es.length ≤ szl ∧ D.imms es = true ∧ P.nx (ρ.set i (some (.lst (ds ++ es))))
  | .drop e, ρ, P => wpE e ρ (fun _ => P.nx ρ) (P.ex ρ)
  | .ret e fr, ρ, P => wpE e ρ (fun d => (fr = true ∨ d.cont = false) ∧ P.rt d) (P.ex ρ)
  | .retN, _, P => P.rt .non
  | .ifs c a b, ρ, P => wpT c ρ (fun k => if k = true then wpB a ρ P else wpB b ρ P) (P.ex ρ)
  | .for_ t it _ body, ρ, P => wpE it ρ (fun d => ∃ xs, items d = some xs ∧ wpFor (fun x ρ P => ∃ ρ', asgT t x ρ = some ρ' ∧ wpB body ρ' P) xs ρ P) (P.ex ρ)
  | .whl c body, ρ, P => ∃ n, wpWhl (wpT c) (wpB body) n ρ P
  | .brk, ρ, P => P.bk ρ
  | .cnt, ρ, P => P.ct ρ
  | .pass, ρ, P => P.nx ρ
  | .rse c, ρ, P => P.ex ρ ⟨c, []⟩
  | .tryx body all c i hs last, ρ, P => wpB body ρ { P with ex := fun ρ' x => x.c ∈ all ∧ if subC x.c c = true then i < ρ'.length ∧ wpE (hdl x.c hs last) (ρ'.map fun _ => none) (fun d => d.cont = false ∧ P.rt d) (fun _ => False) else P.ex ρ' x }
def wpB : List CS → DEnv → Pn → Prop
  | [], ρ, P => P.nx ρ
  | s :: ss, ρ, P => wpS s ρ { P with nx := fun ρ' => wpB ss ρ' P }
end

/-- a def's body from its arguments (n slots) -/
def start (n : Nat) (ds : List D) : DEnv := (ds.map some) ++ List.replicate (n - ds.length) none
def wpDef (n : Nat) (body : List CS) (ds : List D) (Q : D → Prop) (E : Xn → Prop) : Prop :=
  wpB body (start n ds) { nx := fun _ => Q .non, rt := Q, bk := fun _ => False, ct := fun _ => False, ex := fun _ => E }
end Dl

namespace Dl
open PySem

theorem binD_mono {o a b} {Q Q' : D → Prop} (h : binD o a b Q) (m : ∀ d, Q d → Q' d) : binD o a b Q' := by
  unfold binD at *
  split <;> simp_all
theorem cmpD_mono {o a b} {Q Q' : D → Prop} (h : cmpD o a b Q) (m : ∀ d, Q d → Q' d) : cmpD o a b Q' := by
  unfold cmpD at *
  split <;> first | (simp_all; done) | (split <;> simp_all)
theorem memD_mono {x y} {Q Q' : Bool → Prop} (h : memD x y Q) (m : ∀ d, Q d → Q' d) : memD x y Q' := by
  unfold memD at h ⊢
  split at h
  · exact ⟨h.1, h.2.1, m _ h.2.2⟩
  · exact ⟨h.1, h.2.1, m _ h.2.2⟩
  · exact h.elim
theorem ixD_mono {a i} {Q Q' : D → Prop} (h : ixD a i Q) (m : ∀ d, Q d → Q' d) : ixD a i Q' := by
  unfold ixD at h ⊢
  split at h
  · obtain ⟨d, h1, h2⟩ := h; exact ⟨d, h1, m _ h2⟩
  · obtain ⟨d, h1, h2⟩ := h; exact ⟨d, h1, m _ h2⟩
  · exact h.elim
theorem slD_mono {a l h} {Q Q' : D → Prop} (q : slD a l h Q) (m : ∀ d, Q d → Q' d) : slD a l h Q' := by
  unfold slD at q ⊢
  split at q
  · exact m _ q
  · exact m _ q
  · exact q.elim
theorem catD_mono {x y} {Q Q' : D → Prop} (h : catD x y Q) (m : ∀ d, Q d → Q' d) : catD x y Q' := by
  unfold catD at h ⊢
  split at h
  · exact ⟨h.1, m _ h.2⟩
  · exact h.elim
theorem catD_bin {x y} {Q : D → Prop} (h : catD x y Q) : binD .add x y Q := by
  unfold catD at h
  split at h
  · exact h
  · exact h.elim
theorem bltD_mono {f ds} {Q Q' : D → Prop} (h : bltD f ds Q) (m : ∀ d, Q d → Q' d) : bltD f ds Q' := by
  unfold bltD at h ⊢
  split at h <;> first
    | exact m _ h
    | (obtain ⟨bs, e, q⟩ := h; exact ⟨bs, e, m _ q⟩)
    | (obtain ⟨e, q⟩ := h; exact ⟨e, m _ q⟩)
    | exact h.elim
theorem rngD_mono {ds} {Q Q' : D → Prop} (h : rngD ds Q) (m : ∀ d, Q d → Q' d) : rngD ds Q' := by
  unfold rngD at h ⊢
  split at h
  · exact ⟨h.1, h.2.1, m _ h.2.2⟩
  · obtain ⟨h1, h2, h3, h4, q⟩ := h; exact ⟨h1, h2, h3, h4, m _ q⟩
  · exact h.elim
theorem wpLcN_mono {g : D → List D → (List D → Prop) → Prop} (hg : ∀ x acc (K K' : List D → Prop), g x acc K → (∀ r, K r → K' r) → g x acc K') : ∀ {xs acc : List D} {Q Q' : List D → Prop}, wpLcN g xs acc Q → (∀ r, Q r → Q' r) → wpLcN g xs acc Q'
  | [], acc, Q, Q', h, m => by unfold wpLcN at *; exact m _ h
  | x :: xs, acc, Q, Q', h, m => by
    unfold wpLcN at *
    exact hg _ _ _ _ h fun r q => wpLcN_mono hg q m
theorem wpLc_mono {g g' : D → (Option D → Prop) → Prop} (hg : ∀ x K K', g x K → (∀ r, K r → K' r) → g' x K') : ∀ {xs acc} {Q Q' : List D → Prop}, wpLc g xs acc Q → (∀ d, Q d → Q' d) → wpLc g' xs acc Q'
  | [], acc, Q, Q', h, m => m _ h
  | x :: xs, acc, Q, Q', h, m => by
    refine hg x _ _ h fun r q => ?_
    cases r with
    | none => exact wpLc_mono hg q m
    | some y => exact ⟨q.1, wpLc_mono hg q.2 m⟩

mutual
theorem wpE_mono : ∀ (e : CE) {ρ : DEnv} {Q Q' : D → Prop} {E E' : Xn → Prop}, wpE e ρ Q E → (∀ d, Q d → Q' d) → (∀ x, E x → E' x) → wpE e ρ Q' E'
  | .var i, ρ, Q, Q', E, E', h, m, n => by
    unfold wpE at *
    obtain ⟨d, h1, h2⟩ := h
    exact ⟨d, h1, m _ h2⟩
  | .int i, ρ, Q, Q', E, E', h, m, n => by unfold wpE at *; exact m _ h
  | .bl i, ρ, Q, Q', E, E', h, m, n => by unfold wpE at *; exact m _ h
  | .non, ρ, Q, Q', E, E', h, m, n => by unfold wpE at *; exact m _ h
  | .str x, ρ, Q, Q', E, E', h, m, n => by unfold wpE at *; exact m _ h
  | .glob x d, ρ, Q, Q', E, E', h, m, n => by unfold wpE at *; exact m _ h
  | .bin o a b, ρ, Q, Q', E, E', h, m, n => by
    unfold wpE at *
    exact wpE_mono a h (fun x q => wpE_mono b q (fun y q => binD_mono q m) n) n
  | .cat a b, ρ, Q, Q', E, E', h, m, n => by
    unfold wpE at *
    exact wpE_mono a h (fun x q => wpE_mono b q (fun y q => catD_mono q m) n) n
  | .neg a, ρ, Q, Q', E, E', h, m, n => by
    unfold wpE at *
    exact wpE_mono a h (fun x ⟨i, e, q⟩ => ⟨i, e, m _ q⟩) n
  | .not a, ρ, Q, Q', E, E', h, m, n => by
    unfold wpE at *
    exact wpE_mono a h (fun x ⟨i, e, q⟩ => ⟨i, e, m _ q⟩) n
  | .cmp o a b, ρ, Q, Q', E, E', h, m, n => by
    unfold wpE at *
    exact wpE_mono a h (fun x q => wpE_mono b q (fun y q => cmpD_mono q m) n) n
  | .chain o o' a b c, ρ, Q, Q', E, E', h, m, n => by
    unfold wpE at *
    refine wpE_mono a h (fun x q => wpE_mono b q (fun y q => cmpD_mono q fun r ⟨k, e, q⟩ => ⟨k, e, ?_⟩) n) n
    split
    · rename_i hk
      rw [if_pos hk] at q
      exact wpE_mono c q (fun z q => cmpD_mono q m) n
    · rename_i hk
      rw [if_neg hk] at q
      exact m _ q
  | .isN ng a, ρ, Q, Q', E, E', h, m, n => by
    unfold wpE at *
    exact wpE_mono a h (fun x q => m _ q) n
  | .mem ng a b, ρ, Q, Q', E, E', h, m, n => by
    unfold wpE at *
    exact wpE_mono a h (fun x q => wpE_mono b q (fun y q => memD_mono q fun _ q => m _ q) n) n
  | .and es, ρ, Q, Q', E, E', h, m, n => by unfold wpE at *; exact wpAnd_mono es h m n
  | .or es, ρ, Q, Q', E, E', h, m, n => by unfold wpE at *; exact wpOr_mono es h m n
  | .ife c a b, ρ, Q, Q', E, E', h, m, n => by
    unfold wpE at *
    refine wpE_mono c h (fun x ⟨k, e, q⟩ => ⟨k, e, ?_⟩) n
    split
    · rename_i hk
      rw [if_pos hk] at q
      exact wpE_mono a q m n
    · rename_i hk
      rw [if_neg hk] at q
      exact wpE_mono b q m n
  | .tup es, ρ, Q, Q', E, E', h, m, n => by unfold wpE at *; exact wpEs_mono es h (fun _ ⟨q1, q2⟩ => ⟨q1, m _ q2⟩) n
  | .lst es, ρ, Q, Q', E, E', h, m, n => by unfold wpE at *; exact wpEs_mono es h (fun _ ⟨q1, q2⟩ => ⟨q1, m _ q2⟩) n
  | .ix a i, ρ, Q, Q', E, E', h, m, n => by
    unfold wpE at *
    exact wpE_mono a h (fun x q => wpE_mono i q (fun y q => ixD_mono q m) n) n
  | .sl a l u, ρ, Q, Q', E, E', h, m, n => by
    unfold wpE at *
    exact wpE_mono a h (fun x q => wpE_mono l q (fun y ⟨o, e, q⟩ => ⟨o, e, wpE_mono u q (fun z ⟨o', e', q⟩ => ⟨o', e', slD_mono q m⟩) n⟩) n) n
  | .nop, ρ, Q, Q', E, E', h, m, n => by unfold wpE at *; exact m _ h
  | .call f sp es, ρ, Q, Q', E, E', h, m, n => by unfold wpE at *; exact wpEs_mono es h (fun ds q => sp.mono ds _ _ _ _ q m n) n
  | .blt f es, ρ, Q, Q', E, E', h, m, n => by unfold wpE at *; exact wpEs_mono es h (fun ds q => bltD_mono q m) n
  | .isi a t, ρ, Q, Q', E, E', h, m, n => by
    unfold wpE at *
    exact wpE_mono a h (fun x q => m _ q) n
  | .lc t it ifs elt, ρ, Q, Q', E, E', h, m, n => by
    unfold wpE at *
    refine wpE_mono it h (fun d ⟨xs, e, q⟩ => ⟨xs, e, wpLc_mono (fun x K K' ⟨ρ', e, q⟩ hK => ⟨ρ', e, wpIfs_mono ifs q fun b q => ?_⟩) q fun acc q => m _ q⟩) n
    split
    · rename_i hk
      rw [if_pos hk] at q
      exact wpE_mono elt q (fun y q => hK _ q) (fun _ q => q)
    · rename_i hk
      rw [if_neg hk] at q
      exact hK _ q
  | .lc2 t it t2 it2 ifs elt, ρ, Q, Q', E, E', h, m, n => by
    unfold wpE at *
    refine wpE_mono it h (fun d ⟨xs, e, q⟩ => ⟨xs, e, wpLcN_mono (fun x acc K K' ⟨ρ', e, q⟩ hK => ⟨ρ', e, wpE_mono it2 q (fun d2 ⟨ys, e2, q2⟩ => ⟨ys, e2, wpLc_mono (fun y L L' ⟨ρ'', e3, q3⟩ hL => ⟨ρ'', e3, wpIfs_mono ifs q3 fun b q3 => ?_⟩) q2 hK⟩) (fun _ q => q)⟩) q fun acc q => m _ q⟩) n
    split
    · rename_i hk
      rw [if_pos hk] at q3
      exact wpE_mono elt q3 (fun y q => hL _ q) (fun _ q => q)
    · rename_i hk
      rw [if_neg hk] at q3
      exact hL _ q3
  | .rng es, ρ, Q, Q', E, E', h, m, n => by unfold wpE at *; exact wpEs_mono es h (fun ds q => rngD_mono q m) n
  | .enm a, ρ, Q, Q', E, E', h, m, n => by
    unfold wpE at *
    exact wpE_mono a h (fun x ⟨xs, e, q⟩ => ⟨xs, e, m _ q⟩) n
  | .zip a b, ρ, Q, Q', E, E', h, m, n => by
    unfold wpE at *
    exact wpE_mono a h (fun x q => wpE_mono b q (fun y ⟨xs, ys, e1, e2, q⟩ => ⟨xs, ys, e1, e2, m _ q⟩) n) n
theorem wpEs_mono : ∀ (es : List CE) {ρ : DEnv} {Q Q' : List D → Prop} {E E' : Xn → Prop}, wpEs es ρ Q E → (∀ d, Q d → Q' d) → (∀ x, E x → E' x) → wpEs es ρ Q' E'
  | [], ρ, Q, Q', E, E', h, m, n => by unfold wpEs at *; exact m _ h
  | e :: es, ρ, Q, Q', E, E', h, m, n => by
    unfold wpEs at *
    exact wpE_mono e h (fun d q => wpEs_mono es q (fun ds q => m _ q) n) n
theorem wpAnd_mono : ∀ (es : List CE) {ρ : DEnv} {Q Q' : D → Prop} {E E' : Xn → Prop}, wpAnd es ρ Q E → (∀ d, Q d → Q' d) → (∀ x, E x → E' x) → wpAnd es ρ Q' E'
  | [], ρ, Q, Q', E, E', h, m, n => by unfold wpAnd at *; exact h
  | e :: es, ρ, Q, Q', E, E', h, m, n => by
    unfold wpAnd at *
    refine wpE_mono e h (fun d q => ?_) n
    match es, q with
    | [], q => exact m _ q
    | e' :: es', q =>
      obtain ⟨k, e, q⟩ := q
      refine ⟨k, e, ?_⟩
      split
      · rename_i hk
        rw [if_pos hk] at q
        exact wpAnd_mono (e' :: es') q m n
      · rename_i hk
        rw [if_neg hk] at q
        exact m _ q
theorem wpOr_mono : ∀ (es : List CE) {ρ : DEnv} {Q Q' : D → Prop} {E E' : Xn → Prop}, wpOr es ρ Q E → (∀ d, Q d → Q' d) → (∀ x, E x → E' x) → wpOr es ρ Q' E'
  | [], ρ, Q, Q', E, E', h, m, n => by unfold wpOr at *; exact h
  | e :: es, ρ, Q, Q', E, E', h, m, n => by
    unfold wpOr at *
    refine wpE_mono e h (fun d q => ?_) n
    match es, q with
    | [], q => exact m _ q
    | e' :: es', q =>
      obtain ⟨k, e, q⟩ := q
      refine ⟨k, e, ?_⟩
      split
      · rename_i hk
        rw [if_pos hk] at q
        exact m _ q
      · rename_i hk
        rw [if_neg hk] at q
        exact wpOr_mono (e' :: es') q m n
theorem wpIfs_mono : ∀ (es : List CE) {ρ : DEnv} {Q Q' : Bool → Prop}, wpIfs es ρ Q → (∀ d, Q d → Q' d) → wpIfs es ρ Q'
  | [], ρ, Q, Q', h, m => by unfold wpIfs at *; exact m _ h
  | e :: es, ρ, Q, Q', h, m => by
    unfold wpIfs at *
    refine wpE_mono e h (fun d ⟨k, e, q⟩ => ⟨k, e, ?_⟩) (fun _ q => q)
    split
    · rename_i hk
      rw [if_pos hk] at q
      exact wpIfs_mono es q m
    · rename_i hk
      rw [if_neg hk] at q
      exact m _ q
end
end Dl

/-! DlRep: how plain data lie in the abstract heap. -/
namespace Dl
open PySem PySem.Spec PyProof.Rows L2

/-- the heap without the addresses at S -/
def hide (H : Hp) (S : List Addr) : Hp := fun b => if b ∈ S then none else H b
theorem hide_in {H : Hp} {S : List Addr} {b : Addr} (h : b ∈ S) : hide H S b = none := by unfold hide; rw [if_pos h]
theorem hide_out {H : Hp} {S : List Addr} {b : Addr} (h : b ∉ S) : hide H S b = H b := by unfold hide; rw [if_neg h]
theorem hide_le {H : Hp} {S : List Addr} : Same (hide H S) H := fun b o e => by
  unfold hide at e
  split at e
  · cases e
  · exact e
theorem hide_nil {H : Hp} : hide H [] = H := by
  funext b; exact hide_out (by simp)
theorem Same.hide {H H' : Hp} {S : List Addr} (h : Same H H') : Same (hide H S) (hide H' S) := fun b o e => by
  unfold Dl.hide at *
  split at e
  · cases e
  · rename_i hb
    rw [if_neg hb]
    exact h _ _ e
theorem hide_more {H : Hp} {S T : List Addr} (h : ∀ a ∈ S, a ∈ T) : Same (hide H T) (hide H S) := fun b o e => by
  unfold hide at *
  split at e
  · cases e
  · rename_i hb
    rw [if_neg fun z => hb (h _ z)]
    exact e

mutual
def Rep (K : PySem.W.Frag) (H : Hp) : D → V → Prop
  | .non, v => v = .non
  | .bl b, v => v = .bl b
  | .int i, v => v = .int i
  | .str x, v => v = .str x
  | .tup ds, v => ∃ a vs, v = .ref a ∧ SqT K H a vs ∧ Reps K H ds vs
  | .lst ds, v => ∃ a vs, v = .ref a ∧ SqL K H a vs ∧ Reps K H ds vs
  | .dict _ _, _ => False
  | .obj _ _ _, _ => False
def Reps (K : PySem.W.Frag) (H : Hp) : List D → List V → Prop
  | [], vs => vs = []
  | d :: ds, vs => ∃ v r, vs = v :: r ∧ Rep K H d v ∧ Reps K H ds r
end

section
variable {K : PySem.W.Frag} {H H' : Hp}
theorem Same.rd {a : Addr} {u : HO} (e : Same H H') (h : Rd H a u) : Rd H' a u := by
  rcases h with h | ⟨o, h⟩
  · exact .inl (e _ _ h)
  · exact .inr ⟨o, e _ _ h⟩
theorem Same.sqt {a : Addr} {xs : List V} (e : Same H H') (h : SqT K H a xs) : SqT K H' a xs := by
  rcases h with h | h
  · exact .inl (Same.rd e h)
  · exact .inr h
theorem Same.sql {a : Addr} {xs : List V} (e : Same H H') (h : SqL K H a xs) : SqL K H' a xs := by
  rcases h with h | h
  · exact .inl (Same.rd e h)
  · exact .inr h
mutual
theorem Rep.mono (e : Same H H') : ∀ {d : D} {v : V}, Rep K H d v → Rep K H' d v
  | .non, v, h => by unfold Rep at *; exact h
  | .bl b, v, h => by unfold Rep at *; exact h
  | .int b, v, h => by unfold Rep at *; exact h
  | .str b, v, h => by unfold Rep at *; exact h
  | .tup ds, v, h => by
    unfold Rep at *
    obtain ⟨a, vs, h1, h2, h3⟩ := h
    exact ⟨a, vs, h1, Same.sqt e h2, Reps.mono e h3⟩
  | .lst ds, v, h => by
    unfold Rep at *
    obtain ⟨a, vs, h1, h2, h3⟩ := h
    exact ⟨a, vs, h1, Same.sql e h2, Reps.mono e h3⟩
  | .dict _ _, v, h => by unfold Rep at *; exact h
  | .obj _ _ _, v, h => by unfold Rep at *; exact h
theorem Reps.mono (e : Same H H') : ∀ {ds : List D} {vs : List V}, Reps K H ds vs → Reps K H' ds vs
  | [], vs, h => by unfold Reps at *; exact h
  | d :: ds, vs, h => by
    unfold Reps at *
    obtain ⟨v, r, h1, h2, h3⟩ := h
    exact ⟨v, r, h1, Rep.mono e h2, Reps.mono e h3⟩
end
-- what never changes leans on tuples alone
mutual
theorem Rep.imm {S : List Addr} (ht : ∀ a xs, Rd H a (.tup xs) → a ∉ S) : ∀ {d : D} {v : V}, Rep K H d v → d.imm = true → Rep K (hide H S) d v
  | .non, v, h, _ => by unfold Rep at *; exact h
  | .bl b, v, h, _ => by unfold Rep at *; exact h
  | .int b, v, h, _ => by unfold Rep at *; exact h
  | .str b, v, h, _ => by unfold Rep at *; exact h
  | .tup ds, v, h, hi => by
    unfold Rep at *
    unfold D.imm at hi
    obtain ⟨a, vs, h1, h2, h3⟩ := h
    refine ⟨a, vs, h1, ?_, Reps.imm ht h3 hi⟩
    rcases h2 with h2 | h2
    · have hn := ht a vs h2
      rcases h2 with h2 | ⟨o, h2⟩
      · exact .inl (.inl (by rw [hide_out hn]; exact h2))
      · exact .inl (.inr ⟨o, by rw [hide_out hn]; exact h2⟩)
    · exact .inr h2
  | .lst ds, v, h, hi => by unfold D.imm at hi; cases hi
  | .dict _ _, v, h, hi => by unfold D.imm at hi; cases hi
  | .obj _ _ _, v, h, hi => by unfold D.imm at hi; cases hi
theorem Reps.imm {S : List Addr} (ht : ∀ a xs, Rd H a (.tup xs) → a ∉ S) : ∀ {ds : List D} {vs : List V}, Reps K H ds vs → D.imms ds = true → Reps K (hide H S) ds vs
  | [], vs, h, _ => by unfold Reps at *; exact h
  | d :: ds, vs, h, hi => by
    unfold Reps at *
    unfold D.imms at hi
    rw [Bool.and_eq_true] at hi
    obtain ⟨v, r, h1, h2, h3⟩ := h
    exact ⟨v, r, h1, Rep.imm ht h2 hi.1, Reps.imm ht h3 hi.2⟩
end
theorem Reps.length : ∀ {ds : List D} {vs : List V}, Reps K H ds vs → ds.length = vs.length
  | [], vs, h => by unfold Reps at h; subst h; rfl
  | d :: ds, vs, h => by
    unfold Reps at h
    obtain ⟨v, r, rfl, _, h3⟩ := h
    simp [Reps.length h3]
theorem Reps.get : ∀ {ds : List D} {vs : List V} {i : Nat} {d : D}, Reps K H ds vs → ds[i]? = some d → ∃ v, vs[i]? = some v ∧ Rep K H d v
  | [], vs, i, d, h, e => by simp at e
  | x :: ds, vs, 0, d, h, e => by
    unfold Reps at h
    obtain ⟨v, r, rfl, h2, _⟩ := h
    simp at e; subst e
    exact ⟨v, rfl, h2⟩
  | x :: ds, vs, i + 1, d, h, e => by
    unfold Reps at h
    obtain ⟨v, r, rfl, _, h3⟩ := h
    obtain ⟨v', e1, e2⟩ := Reps.get (i := i) (d := d) h3 (by simpa using e)
    exact ⟨v', by simpa using e1, e2⟩
theorem Reps.append : ∀ {ds es : List D} {vs us : List V}, Reps K H ds vs → Reps K H es us → Reps K H (ds ++ es) (vs ++ us)
  | [], es, vs, us, h, g => by unfold Reps at h; subst h; exact g
  | d :: ds, es, vs, us, h, g => by
    unfold Reps at h
    obtain ⟨v, r, rfl, h2, h3⟩ := h
    show Reps K H (d :: (ds ++ es)) (v :: (r ++ us))
    unfold Reps
    exact ⟨v, r ++ us, rfl, h2, Reps.append h3 g⟩
theorem Reps.drop : ∀ {ds : List D} {vs : List V} (n : Nat), Reps K H ds vs → Reps K H (ds.drop n) (vs.drop n)
  | ds, vs, 0, h => h
  | [], vs, n + 1, h => by unfold Reps at h; subst h; unfold Reps; simp
  | d :: ds, vs, n + 1, h => by
    unfold Reps at h
    obtain ⟨v, r, rfl, h2, h3⟩ := h
    exact Reps.drop n h3
theorem Reps.take : ∀ {ds : List D} {vs : List V} (n : Nat), Reps K H ds vs → Reps K H (ds.take n) (vs.take n)
  | ds, vs, 0, h => by simp [Reps]
  | [], vs, n + 1, h => by unfold Reps at h; subst h; simp [Reps]
  | d :: ds, vs, n + 1, h => by
    unfold Reps at h
    obtain ⟨v, r, rfl, h2, h3⟩ := h
    show Reps K H (d :: ds.take n) (v :: r.take n)
    unfold Reps
    exact ⟨v, _, rfl, h2, Reps.take n h3⟩
theorem Reps.cons {d : D} {ds : List D} {v : V} {vs : List V} (h : Rep K H d v) (g : Reps K H ds vs) : Reps K H (d :: ds) (v :: vs) := by
  unfold Reps; exact ⟨v, vs, rfl, h, g⟩
theorem Reps.one {d : D} {v : V} (h : Rep K H d v) : Reps K H [d] [v] := Reps.cons h (by unfold Reps; rfl)
theorem Reps.nil : Reps K H [] [] := by unfold Reps; rfl
theorem Reps.inv {d : D} {ds : List D} {v : V} {vs : List V} (h : Reps K H (d :: ds) (v :: vs)) : Rep K H d v ∧ Reps K H ds vs := by
  unfold Reps at h
  obtain ⟨v', r, e, h2, h3⟩ := h
  cases e
  exact ⟨h2, h3⟩
theorem Reps.ints : ∀ ns : List Int, Reps K H (ns.map .int) (ns.map V.int)
  | [] => Reps.nil
  | n :: ns => Reps.cons (by unfold Rep; rfl) (Reps.ints ns)
-- as the layer's own data
mutual
theorem Rep.dp {k : Nat} : ∀ {d : D} {v : V}, Rep K H d v → d.plain k = true → Dp K H v d.toP
  | .non, v, h, _ => by unfold Rep at h; subst h; unfold D.toP; exact .non
  | .bl b, v, h, _ => by unfold Rep at h; subst h; unfold D.toP; exact .bl b
  | .int b, v, h, _ => by unfold Rep at h; subst h; unfold D.toP; exact .int b
  | .str b, v, h, _ => by unfold Rep at h; subst h; unfold D.toP; exact .str b
  | .tup ds, v, h, hi => by
    unfold Rep at h
    obtain ⟨a, vs, rfl, h2, h3⟩ := h
    unfold D.toP
    match k, hi with
    | k + 1, hi =>
      unfold D.plain at hi
      exact .tup h2 (Reps.dp h3 hi)
  | .lst ds, v, h, hi => by
    unfold Rep at h
    obtain ⟨a, vs, rfl, h2, h3⟩ := h
    unfold D.toP
    match k, hi with
    | k + 1, hi =>
      unfold D.plain at hi
      exact .lst h2 (Reps.dp h3 hi)
  | .dict _ _, v, h, hi => by unfold Rep at h; exact h.elim
  | .obj _ _ _, v, h, hi => by unfold Rep at h; exact h.elim
theorem Reps.dp {k : Nat} : ∀ {ds : List D} {vs : List V}, Reps K H ds vs → D.plains k ds = true → DpAll K H vs (D.toPs ds)
  | [], vs, h, _ => by unfold Reps at h; subst h; unfold D.toPs; exact .nil
  | d :: ds, vs, h, hi => by
    unfold Reps at h
    obtain ⟨v, r, rfl, h2, h3⟩ := h
    unfold D.toPs
    unfold D.plains at hi
    rw [Bool.and_eq_true] at hi
    exact .cons (Rep.dp h2 hi.1) (Reps.dp h3 hi.2)
end
end
mutual
theorem plain_lay : ∀ {k : Nat} {d : D}, d.plain k = true → d.toP.canLay0 = true ∧ d.toP.depth ≤ k
  | k, .non, h => by simp [D.toP, PyData.canLay0, PyData.depth]
  | k, .bl _, h => by simp [D.toP, PyData.canLay0, PyData.depth]
  | k, .int _, h => by simp [D.toP, PyData.canLay0, PyData.depth]
  | k, .str x, h => by
    unfold D.plain at h
    simp [D.toP, PyData.canLay0, PyData.depth, h]
  | 0, .tup _, h => by unfold D.plain at h; cases h
  | k + 1, .tup ds, h => by
    unfold D.plain at h
    have q := plains_lay h
    simp only [D.toP, PyData.canLay0, PyData.depth]
    exact ⟨q.1, by omega⟩
  | 0, .lst _, h => by unfold D.plain at h; cases h
  | k + 1, .lst ds, h => by
    unfold D.plain at h
    have q := plains_lay h
    simp only [D.toP, PyData.canLay0, PyData.depth]
    exact ⟨q.1, by omega⟩
  | k, .dict _ _, h => by unfold D.plain at h; cases h
  | k, .obj _ _ _, h => by unfold D.plain at h; cases h
theorem plains_lay : ∀ {k : Nat} {ds : List D}, D.plains k ds = true → PyData.canLayAll0 (D.toPs ds) = true ∧ PyData.depthAll (D.toPs ds) ≤ k
  | k, [], h => by simp [D.toPs, PyData.canLayAll0, PyData.depthAll]
  | k, d :: ds, h => by
    unfold D.plains at h
    rw [Bool.and_eq_true] at h
    have q1 := plain_lay h.1
    have q2 := plains_lay h.2
    simp only [D.toPs, PyData.canLayAll0, PyData.depthAll, q1.1, q2.1, Bool.and_self, true_and]
    omega
end
theorem plain_shaped {d : D} (h : d.plain 64 = true) : SeqAt.shaped d.toP = true := by
  have q := plain_lay h
  unfold SeqAt.shaped
  rw [q.1, decide_eq_true q.2]
  rfl
end Dl

/-! DlOk: which written code a core term stands for (okE), what a reading is (tE), what it leans on. -/
namespace Dl
open PySem PySem.Spec PyProof.Rows L2

/-- hidden addresses: things that may be changed -/
def SOk (H : Hp) (S : List Addr) : Prop := ∀ a ∈ S, Mut (H a)
theorem SOk.mono {H H' : Hp} {S : List Addr} (h : SOk H S) (e : Same H H') : SOk H' S := fun a ha => by
  have q := h a ha
  cases z : H a with
  | none => rw [z] at q; exact q.elim
  | some o => rw [e a o z]; rw [z] at q; exact q
theorem SOk.tup {H : Hp} {S : List Addr} (h : SOk H S) {a : Addr} {xs : List V} (r : Rd H a (.tup xs)) : a ∉ S := fun ha => by
  have q := h a ha
  rcases r with r | ⟨o, r⟩ <;> (rw [r] at q; exact q)
theorem SOk.new {H : Hp} {S : List Addr} (h : SOk H S) {a : Addr} (r : H a = none) : a ∉ S := fun ha => by
  have q := h a ha
  rw [r] at q; exact q
theorem SOk.nil {H : Hp} : SOk H [] := fun a ha => by cases ha
/-- a new object beside what is hidden -/
theorem hide_upd {H : Hp} {S : List Addr} {a : Addr} {o : HO} (h : a ∉ S) : hide (upd H a o) S = upd (hide H S) a o := by
  funext b
  unfold hide upd
  by_cases hb : b = a
  · subst hb; simp [h]
  · simp [hb]
theorem same_new {H : Hp} {a : Addr} {o : HO} (h : H a = none) : Same H (upd H a o) := fun b x e => by
  rw [upd_ne (ne_of_none e h)]; exact e
theorem hide_upd_in {H : Hp} {S : List Addr} {a : Addr} {o : HO} (h : a ∈ S) : hide (upd H a o) S = hide H S := by
  funext b
  unfold hide upd
  by_cases hb : b = a
  · subst hb; simp [h]
  · simp [hb]
theorem hide_cons_upd {H : Hp} {S : List Addr} {a : Addr} {o : HO} (h : H a = none) : hide (upd H a o) (a :: S) = hide H S := by
  funext b
  unfold hide upd
  by_cases hb : b = a
  · subst hb; simp [h]
  · simp [hb]

/-- the slots hold the data (but those at hid) -/
structure EV (K : PySem.W.Frag) (S : List Addr) (hid : List Nat) (H : Hp) (σ : L2.St) (ρ : DEnv) : Prop where
  len : σ.length = ρ.length
  rep : ∀ (i : Nat) (d : D), ρ[i]? = some (some d) → i ∉ hid → ∃ v, σ[i]? = some (some v) ∧ Rep K (hide H S) d v
theorem EV.mono {K : PySem.W.Frag} {S : List Addr} {hid : List Nat} {H H' : Hp} {σ : L2.St} {ρ : DEnv} (h : EV K S hid H σ ρ) (e : Same H H') : EV K S hid H' σ ρ := ⟨h.len, fun i d h1 h2 => by
  obtain ⟨v, q1, q2⟩ := h.rep i d h1 h2
  exact ⟨v, q1, q2.mono (Same.hide e)⟩⟩
/-- a new container's own place -/
def Top (K : PySem.W.Frag) (H : Hp) (S : List Addr) (d : D) (v : V) (H' : Hp) : Prop := match d with
  | .lst ds => ∃ a vs, v = .ref a ∧ H a = none ∧ H' a = some (.lst vs) ∧ Reps K (hide H' (a :: S)) ds vs
  | .dict _ _ => False
  | .obj _ _ _ => False
  | _ => True
/-- behind an expression -/
structure Post (K : PySem.W.Frag) (H : Hp) (S : List Addr) (fr : Bool) (d : D) (v : V) (H' : Hp) : Prop where
  same : Same H H'
  rep : Rep K (hide H' S) d v
  top : fr = true → Top K H S d v H'
/-- an exception as it lies -/
def XRep (K : PySem.W.Frag) (mg : Str → Option Value) (x : Xn) (cls : Value) (dd : Option Addr) : Prop := ∃ C, mg x.c = some (.ref C) ∧ cls = .ref C ∧ x.fs = [] ∧ dd = none
/-- a reading from data -/
def tW (K : PySem.W.Frag) (mg : Str → Option Value) (W : WX) (hid : List Nat) (F : DEnv → (D → Prop) → (Xn → Prop) → Prop) (fr : Bool) : TE := fun σ H Q =>
  ∃ S ρ, SOk H S ∧ EV K S hid H σ ρ ∧ F ρ (fun d => ∀ v H', Post K H S fr d v H' → Q v H') (fun x => ∀ cls dd H', Same H H' → XRep K mg x cls dd → W cls dd σ H')
abbrev tE (K : PySem.W.Frag) (mg : Str → Option Value) (W : WX) (hid : List Nat) (e : CE) : TE := tW K mg W hid (wpE e) e.fresh
/-- a list of values -/
def tL (K : PySem.W.Frag) (mg : Str → Option Value) (W : WX) (hid : List Nat) (es : List CE) : TA := fun σ H Q =>
  ∃ S ρ, SOk H S ∧ EV K S hid H σ ρ ∧ wpEs es ρ (fun ds => ∀ vs H', Same H H' → Reps K (hide H' S) ds vs → Q vs H') (fun x => ∀ cls dd H', Same H H' → XRep K mg x cls dd → W cls dd σ H')
/-- a test -/
def tTe (K : PySem.W.Frag) (mg : Str → Option Value) (W : WX) (hid : List Nat) (e : CE) : TT := fun σ H Q =>
  ∃ S ρ, SOk H S ∧ EV K S hid H σ ρ ∧ wpT e ρ (fun k => ∀ H', Same H H' → Q k H') (fun x => ∀ cls dd H', Same H H' → XRep K mg x cls dd → W cls dd σ H')

/-! ### what is leaned on -/
def spOf (K : PySem.W.Frag) (mg : Str → Option Value) (sp : Spec) (n : Nat) : Sp := fun vs H Q E => vs.length = n ∧ ∃ S ds, SOk H S ∧ Reps K (hide H S) ds vs ∧
  sp.run ds (fun d => ∀ v H', Post K H S true d v H' → Q v H') (fun x => ∀ cls dd H', Same H H' → XRep K mg x cls dd → E cls dd H')
/-- f, called with n values, keeps sp -/
def FnC (P : Program) (w : World) (K : PySem.W.Frag) (mg : Str → Option Value) (base : Heap) (k : Nat) (f : Str) (n : Nat) (sp : Spec) : Prop :=
  ∃ (a : Addr) (fd : FuncData) (ps : List Str) (dvs : List V) (ds : List Value) (dds : List D) (sp' : Spec),
    mg f = some (.ref a) ∧ PySem.W.keepIn K (.ref a) = true ∧ Binds K fd ps ds ∧ Vals dvs ds ∧ (∀ H, Reps K H dds dvs) ∧
    FnOk P w K mg base (L2.CX P w) k a fd ps (spOf K mg sp' ps.length) ∧ ps.length = n + dds.length ∧ ∀ xs Q E, xs.length = n → sp.run xs Q E → sp'.run (xs ++ dds) Q E
/-- the module's name x holds the data d -/
def GlC (K : PySem.W.Frag) (mg : Str → Option Value) (x : Str) (d : D) : Prop := ∃ u v, mg x = some u ∧ RelV v u ∧ ∀ H, Rep K H d v
mutual
def CE.needs (F : Str → Nat → Spec → Prop) (G : Str → D → Prop) : CE → Prop
  | .glob x d => G x d
  | .bin _ a b => a.needs F G ∧ b.needs F G
  | .cat a b => a.needs F G ∧ b.needs F G
  | .neg a => a.needs F G
  | .not a => a.needs F G
  | .cmp _ a b => a.needs F G ∧ b.needs F G
  | .chain _ _ a b c => a.needs F G ∧ b.needs F G ∧ c.needs F G
  | .isN _ a => a.needs F G
  | .mem _ a b => a.needs F G ∧ b.needs F G
  | .and es => CE.needsL F G es
  | .or es => CE.needsL F G es
  | .ife c a b => c.needs F G ∧ a.needs F G ∧ b.needs F G
  | .tup es => CE.needsL F G es
  | .lst es => CE.needsL F G es
  | .ix a i => a.needs F G ∧ i.needs F G
  | .sl a l h => a.needs F G ∧ l.needs F G ∧ h.needs F G
  | .call f sp es => F f es.length sp ∧ CE.needsL F G es
  | .blt _ es => CE.needsL F G es
  | .isi a _ => a.needs F G
  | .lc _ it ifs elt => it.needs F G ∧ CE.needsL F G ifs ∧ elt.needs F G
  | .lc2 _ it _ it2 ifs elt => it.needs F G ∧ it2.needs F G ∧ CE.needsL F G ifs ∧ elt.needs F G
  | .rng es => CE.needsL F G es
  | .enm a => a.needs F G
  | .zip a b => a.needs F G ∧ b.needs F G
  | _ => True
def CE.needsL (F : Str → Nat → Spec → Prop) (G : Str → D → Prop) : List CE → Prop
  | [] => True
  | e :: es => e.needs F G ∧ CE.needsL F G es
end

/-! ### which written code -/
def boOp : BO → Operator
  | .add => .Add | .sub => .Sub | .mul => .Mult | .fdiv => .FloorDiv | .mod => .Mod | .pow => .Pow
def coOp : CO → CmpOp
  | .lt => .Lt | .le => .LtE | .gt => .Gt | .ge => .GtE | .eq => .Eq | .ne => .NotEq
def bfN : BF → Str
  | .len => "len" | .abs => "abs" | .int_ => "int" | .list_ => "list" | .tuple_ => "tuple" | .any_ => "any" | .all_ => "all" | .sum_ => "sum" | .max2 => "max" | .min2 => "min" | .bool_ => "bool" | .sorted_ => "sorted"
def tyN : TY → Str
  | .tup => "tuple" | .lst => "list" | .int => "int" | .bl => "bool" | .str => "str" | .cls c => c
/-- a name of the def's own -/
def visB (sc : Scope) (x : Str) : Bool := match sc.names.lookup x with
  | some .local => true
  | some .cell => true
  | some .free => true
  | _ => false
def locB (sc : Scope) (x : Str) : Bool := match sc.names.lookup x with
  | some .local => true
  | some .cell => true
  | _ => false
def gloB (sc : Scope) (x : Str) : Bool := (match sc.names.lookup x with
  | some .globalImplicit => true
  | _ => false) && !(x == ("__debug__" : Str)) && !(x == ("__name__" : Str))
-- targets
mutual
def okT (N : List Str) (sc : Scope) (fnB : Str → Bool) : CT → Expr → Bool
  | .nm i, e => (match e with
    | .Name x _ => decide (N[i]? = some x) && locB sc x && fnB x
    | _ => false)
  | .tp ts, e => (match e with
    | .Tuple es _ _ => okTs N sc fnB ts es
    | _ => false)
def okTs (N : List Str) (sc : Scope) (fnB : Str → Bool) : List CT → List Expr → Bool
  | [], es => es.isEmpty
  | t :: ts, es => (match es with
    | e :: es => okT N sc fnB t e && okTs N sc fnB ts es
    | [] => false)
end
/-- the scope of a comprehension's block, as it runs -/
def ownOf (N : List Str) (t : CT) : List (Str × Nat) := t.slots.filterMap fun i => (N[i]?).map fun x => (x, i)
mutual
def okE (N : List Str) (sc : Scope) (cm : Bool) (hid : List Nat) : CE → Expr → Bool
  | .var i, e => (match e with
    | .Name x _ => decide (N[i]? = some x) && visB sc x && !hid.contains i && !(x == ("__debug__" : Str)) && !(x == ("__classdict__" : Str))
    | _ => false)
  | .int i, e => (match e with | .Constant (.int j) _ _ => decide (i = j) | _ => false)
  | .bl b, e => (match e with | .Constant (.bool c) _ _ => b == c | _ => false)
  | .non, e => (match e with | .Constant .none _ _ => true | _ => false)
  | .str x, e => (match e with | .Constant (.str y) _ _ => decide (x = y) | _ => false)
  | .glob x _, e => (match e with | .Name y _ => decide (x = y) && gloB sc x | _ => false)
  | .bin o a b, e => (match e with | .BinOp l op r _ => decide (boOp o = op) && (okE N sc cm hid a l && okE N sc cm hid b r) | _ => false)
  | .cat a b, e => (match e with | .BinOp l op r _ => decide (Operator.Add = op) && (okE N sc cm hid a l && okE N sc cm hid b r) | _ => false)
  | .neg a, e => (match e with | .UnaryOp .USub x _ => okE N sc cm hid a x | _ => false)
  | .not a, e => (match e with | .UnaryOp .Not x _ => okE N sc cm hid a x | _ => false)
  | .cmp o a b, e => (match e with | .Compare l [op] [r] _ => decide (coOp o = op) && (okE N sc cm hid a l && okE N sc cm hid b r) | _ => false)
  | .chain o o' a b c, e => (match e with | .Compare l [op, op'] [r, r'] _ => decide (coOp o = op) && decide (coOp o' = op') && (okE N sc cm hid a l && (okE N sc cm hid b r && okE N sc cm hid c r')) | _ => false)
  | .isN ng a, e => (match e with | .Compare l [op] [.Constant .none _ _] _ => decide (op = if ng = true then CmpOp.IsNot else CmpOp.Is) && okE N sc cm hid a l | _ => false)
  | .mem ng a b, e => (match e with | .Compare l [op] [r] _ => decide (op = if ng = true then CmpOp.NotIn else CmpOp.In) && (okE N sc cm hid a l && okE N sc cm hid b r) | _ => false)
  | .and es, e => (match e with | .BoolOp .And vs _ => !vs.isEmpty && okEs N sc cm hid es vs | _ => false)
  | .or es, e => (match e with | .BoolOp .Or vs _ => !vs.isEmpty && okEs N sc cm hid es vs | _ => false)
  | .ife c a b, e => (match e with | .IfExp c' a' b' _ => okE N sc cm hid c c' && (okE N sc cm hid a a' && okE N sc cm hid b b') | _ => false)
  | .tup es, e => (match e with | .Tuple vs _ _ => okEs N sc cm hid es vs | _ => false)
  | .lst es, e => (match e with | .List vs _ => okEs N sc cm hid es vs | _ => false)
  | .ix a i, e => (match e with | .Subscript x s _ => okE N sc cm hid a x && okE N sc cm hid i s | _ => false)
  | .sl a l h, e => (match e with
    | .Subscript x (.Slice lo hi none _) _ => okE N sc cm hid a x && (match lo with | some lo => !l.isNop && okE N sc cm hid l lo | none => l.isNop) &&
        (match hi with | some hi => !h.isNop && okE N sc cm hid h hi | none => h.isNop)
    | _ => false)
  | .nop, _ => false
  | .call f _ es, e => (match e with | .Call (.Name x _) vs [] _ => cm && decide (f = x) && gloB sc x && true && okEs N sc cm hid es vs | _ => false)
  | .blt f es, e => (match e with | .Call (.Name x _) vs [] _ => cm && decide (bfN f = x) && gloB sc x && !vs.isEmpty && okEs N sc cm hid es vs | _ => false)
  | .isi a t, e => (match e with | .Call (.Name x _) [v, .Name y _] [] _ => decide (x = ("isinstance" : Str)) && gloB sc x && decide (tyN t = y) && gloB sc y && okE N sc cm hid a v && (match t with | .cls _ => false | _ => true) | _ => false)
  | .lc t it ifs elt, e => (match e with
    | .ListComp el [⟨tg, iter, fs, 0⟩] scope _ => cm && okI N sc cm hid it iter && blkC N sc scope (ownOf N t) && decide (t.slots.all fun i => !hid.contains i) && okT N (relS scope sc) (locB scope) t tg && decide (fs.length ≤ 1) &&
        okEs N (relS scope sc) cm hid ifs fs && okE N (relS scope sc) cm hid elt el
    | _ => false)
  | .lc2 t it t2 it2 ifs elt, e => (match e with
    | .ListComp el [⟨tg, iter, [], 0⟩, ⟨tg2, iter2, fs, 0⟩] scope _ => cm && okI N sc cm hid it iter && blkC N sc scope (ownOf N t ++ ownOf N t2) && decide ((t.slots ++ t2.slots).all fun i => !hid.contains i) && okT N (relS scope sc) (locB scope) t tg && okT N (relS scope sc) (locB scope) t2 tg2 &&
        okI N (relS scope sc) cm hid it2 iter2 && decide (fs.length ≤ 1) && okEs N (relS scope sc) cm hid ifs fs && okE N (relS scope sc) cm hid elt el
    | _ => false)
  | .rng _, _ => false
  | .enm _, _ => false
  | .zip _ _, _ => false
def okEs (N : List Str) (sc : Scope) (cm : Bool) (hid : List Nat) : List CE → List Expr → Bool
  | [], es => es.isEmpty
  | c :: cs, es => (match es with
    | e :: es => okE N sc cm hid c e && okEs N sc cm hid cs es
    | [] => false)
/-- what is walked -/
def okI (N : List Str) (sc : Scope) (cm : Bool) (hid : List Nat) : CE → Expr → Bool
  | .rng es, e => (match e with | .Call (.Name x _) vs [] _ => cm && decide (x = ("range" : Str)) && gloB sc x && (!vs.isEmpty && decide (vs.length ≤ 2)) && okEs N sc cm hid es vs | _ => false)
  | c, e => okE N sc cm hid c e
end
end Dl

/-! DlOps: operators, subscripts, built-ins over data. -/
namespace Dl
open PySem PySem.Spec PyProof.Rows L2
section
variable {K : PySem.W.Frag} {H : Hp} {S : List Addr}
theorem rep_int {i : Int} {v : V} (h : Rep K H (.int i) v) : v = .int i := by unfold Rep at h; exact h
theorem rep_bl {i : Bool} {v : V} (h : Rep K H (.bl i) v) : v = .bl i := by unfold Rep at h; exact h
theorem rep_str {i : Str} {v : V} (h : Rep K H (.str i) v) : v = .str i := by unfold Rep at h; exact h
theorem rep_non {v : V} (h : Rep K H .non v) : v = .non := by unfold Rep at h; exact h
theorem rep_tup {ds : List D} {v : V} (h : Rep K H (.tup ds) v) : ∃ a vs, v = .ref a ∧ SqT K H a vs ∧ Reps K H ds vs := by unfold Rep at h; exact h
theorem rep_lst {ds : List D} {v : V} (h : Rep K H (.lst ds) v) : ∃ a vs, v = .ref a ∧ SqL K H a vs ∧ Reps K H ds vs := by unfold Rep at h; exact h
theorem rep_int' {i : Int} : Rep K H (.int i) (.int i) := by unfold Rep; rfl
theorem rep_bl' {i : Bool} : Rep K H (.bl i) (.bl i) := by unfold Rep; rfl
theorem rep_str' {i : Str} : Rep K H (.str i) (.str i) := by unfold Rep; rfl
theorem rep_non' : Rep K H .non .non := by unfold Rep; rfl
theorem post_int {i : Int} {fr : Bool} : Post K H S fr (.int i) (.int i) H := ⟨Same.refl _, rep_int', fun _ => trivial⟩
theorem post_bl {i : Bool} {fr : Bool} : Post K H S fr (.bl i) (.bl i) H := ⟨Same.refl _, rep_bl', fun _ => trivial⟩
theorem post_str {i : Str} {fr : Bool} : Post K H S fr (.str i) (.str i) H := ⟨Same.refl _, rep_str', fun _ => trivial⟩
theorem post_non {fr : Bool} : Post K H S fr .non .non H := ⟨Same.refl _, rep_non', fun _ => trivial⟩
/-- what stands already, where it is no container -/
theorem post_old {d : D} {v : V} {fr : Bool} (h : Rep K (hide H S) d v) (hc : fr = true → d.cont = false) : Post K H S fr d v H := ⟨Same.refl _, h, fun e => by
  have q := hc e
  cases d <;> first | trivial | (unfold D.cont at q; cases q)⟩
/-- a new tuple -/
theorem post_tup {ds : List D} {vs : List V} {a : Addr} {fr : Bool} (hS : SOk H S) (h : Reps K (hide H S) ds vs) (hn : H a = none) : Post K H S fr (.tup ds) (.ref a) (upd H a (.tup vs)) := by
  have sm := same_new (o := .tup vs) hn
  refine ⟨sm, ?_, fun _ => trivial⟩
  unfold Rep
  refine ⟨a, vs, rfl, .inl (.inl ?_), h.mono (Same.hide sm)⟩
  rw [hide_out (hS.new hn), upd_same]
/-- a new list -/
theorem post_lst {ds : List D} {vs : List V} {a : Addr} {fr : Bool} (hS : SOk H S) (h : Reps K (hide H S) ds vs) (hn : H a = none) : Post K H S fr (.lst ds) (.ref a) (upd H a (.lst vs)) := by
  have sm := same_new (o := .lst vs) hn
  refine ⟨sm, ?_, fun _ => ⟨a, vs, rfl, hn, upd_same, ?_⟩⟩
  · unfold Rep
    refine ⟨a, vs, rfl, .inl (.inl ?_), h.mono (Same.hide sm)⟩
    rw [hide_out (hS.new hn), upd_same]
  · rw [hide_cons_upd hn]; exact h
theorem szl_eq : szl = sizeLine := by rw [sizeLine_eq]; rfl
end
section
variable {X : Cx}
/-- list + list, wherever they stand -/
theorem op_catL {pins : List (Addr × Obj)} {s : Shared} {σ : L2.St} {H : Hp} {a b : Addr} {xs ys : List V} {Q : VK} (I : Inv X pins σ H s) (ha : SqL X.K H a xs) (hb : SqL X.K H b ys) (hz : xs.length + ys.length ≤ sizeLine)
    (q : ∀ p, H p = none → Q (.ref p) (upd H p (.lst (xs ++ ys)))) : wpAny (model X.prog X.w) X.A (binaryOp .Add (.ref a) (.ref b)) (EP X pins σ Q) X.xe s := by
  obtain ⟨vs, r1, p1, z1⟩ := I.list ha
  obtain ⟨ws, r2, p2, z2⟩ := I.list hb
  obtain ⟨⟨cls, dd, data, sl⟩, ho, hc, n, hd⟩ := id p1.isList
  obtain ⟨⟨cls2, dd2, data2, sl2⟩, ho2, hc2, n2, hd2⟩ := id p2.isList
  simp only at hc hd hc2 hd2
  subst hc hd hc2 hd2
  have e : vs.toArray ++ ws.toArray = (vs ++ ws).toArray := by simp
  have l1 := r1.length
  have l2 := r2.length
  refine concat_meets ⟨_, ho, rfl⟩ ⟨_, ho2, rfl⟩ noFill_list_add seq_list_add PySem.F.slot_list_add PySem.F.entry_list_add (PySem.F.args_list_add_2 _ _) (PyProof.Rows.list_addW a b vs.toArray ws.toArray n n2 dd dd2 sl sl2 (by simp; omega)) ⟨ho, ho2, ?_⟩
  rw [e]
  exact ⟨.ref _, _, I.lnew (t' := s.toks) (r1.append r2) (by rw [List.length_append]; omega), rfl, q _ I.fresh⟩

def rD (K : PySem.W.Frag) (F : D → D → (D → Prop) → Prop) (fr : Bool) : R2 := fun x y H Q => ∃ S a b, SOk H S ∧ Rep K (hide H S) a x ∧ Rep K (hide H S) b y ∧ F a b (fun d => ∀ v H', Post K H S fr d v H' → Q v H')

theorem op_fdivD {i j : Int} {pins : List (Addr × Obj)} {s : Shared} {σ : L2.St} {H : Hp} {v u : Value} {Q : VK} (I : Inv X pins σ H s) (rx : RelV (.int i) v) (ry : RelV (.int j) u) (hc : DivOk j) (q : Q (.int (i.fdiv j)) H) :
    wpAny (model X.prog X.w) X.A (binaryOp .FloorDiv v u) (EP X pins σ Q) X.xe s := by
  obtain ⟨t, rfl⟩ := rx
  obtain ⟨t', rfl⟩ := ry
  exact floordiv_int hc.1 ⟨.int _, H, I.tok _, ⟨_, rfl⟩, q⟩ (.inl (PyProof.noPylong_of_log2 hc.2))

theorem op_binD (o : BO) : OpR X (binaryOp (boOp o)) (rD X.K (binD o) true) := by
  intro pins s σ H x y v u Q I rx ry h
  obtain ⟨S, a, b, hS, ha, hb, h⟩ := h
  unfold binD at h
  split at h
  · cases rep_int ha; cases rep_int hb
    exact op_add pins s σ H _ _ v u Q I rx ry ⟨_, _, rfl, rfl, h _ _ post_int⟩
  · obtain ⟨hz, h⟩ := h
    obtain ⟨p, xs, rfl, hx, rx'⟩ := rep_tup ha
    obtain ⟨q, ys, rfl, hy, ry'⟩ := rep_tup hb
    have l1 := rx'.length
    have l2 := ry'.length
    rw [szl_eq] at hz
    have hx' := Same.sqt hide_le hx
    have hy' := Same.sqt hide_le hy
    refine op_catA pins s σ H _ _ v u Q I rx ry ⟨p, q, xs, ys, rfl, rfl, hx', hy', by omega, fun e => ?_, fun _ e => ?_, fun _ _ t ht => h _ _ (post_tup hS (rx'.append ry') ht)⟩
    · subst e
      have e2 := List.eq_nil_of_length_eq_zero (show _ = 0 from l1)
      subst e2
      exact h _ _ (post_old (by rw [List.nil_append]; exact hb) (fun _ => rfl))
    · subst e
      have e2 := List.eq_nil_of_length_eq_zero (show _ = 0 from l2)
      subst e2
      exact h _ _ (post_old (by rw [List.append_nil]; exact ha) (fun _ => rfl))
  · obtain ⟨hz, h⟩ := h
    obtain ⟨p, xs, rfl, hx, rx'⟩ := rep_lst ha
    obtain ⟨q, ys, rfl, hy, ry'⟩ := rep_lst hb
    have l1 := rx'.length
    have l2 := ry'.length
    rw [szl_eq] at hz
    cases rx
    cases ry
    exact op_catL I (Same.sql hide_le hx) (Same.sql hide_le hy) (by omega) fun t ht => h _ _ (post_lst hS (rx'.append ry') ht)
  · cases rep_int ha; cases rep_int hb
    exact op_sub pins s σ H _ _ v u Q I rx ry ⟨_, _, rfl, rfl, h _ _ post_int⟩
  · cases rep_int ha; cases rep_int hb
    exact op_mulW pins s σ H _ _ v u Q I rx ry ⟨_, _, rfl, rfl, h.1, h.2 _ _ post_int⟩
  · cases rep_int ha; cases rep_int hb
    exact op_fdivD I rx ry h.1 (h.2 _ _ post_int)
  · cases rep_int ha; cases rep_int hb
    exact op_modN pins s σ H _ _ v u Q I rx ry ⟨_, _, rfl, rfl, h.1, h.2 _ _ post_int⟩
  · cases rep_int ha; cases rep_int hb
    exact op_pow pins s σ H _ _ v u Q I rx ry ⟨_, _, rfl, rfl, h.1, h.2 _ _ post_int⟩
  · exact h.elim

theorem op_cmpD (o : CO) (hu : X.A.units + 66 < cLine) : OpR X (compareOp (coOp o)) (rD X.K (cmpD o) true) := by
  intro pins s σ H x y v u Q I rx ry h
  obtain ⟨S, a, b, hS, ha, hb, h⟩ := h
  unfold cmpD at h
  split at h
  · obtain ⟨p1, p2, h⟩ := h
    have d1 := (ha.mono hide_le).dp p1
    have d2 := (hb.mono hide_le).dp p2
    exact op_eqD (by omega) pins s σ H _ _ v u Q I rx ry ⟨_, _, d1, d2, plain_shaped p1, plain_shaped p2, h _ _ post_bl⟩
  · obtain ⟨p1, p2, h⟩ := h
    have d1 := (ha.mono hide_le).dp p1
    have d2 := (hb.mono hide_le).dp p2
    exact op_neD (by omega) pins s σ H _ _ v u Q I rx ry ⟨_, _, d1, d2, plain_shaped p1, plain_shaped p2, h _ _ post_bl⟩
  · split at h
    · cases rep_int ha; cases rep_int hb
      exact op_lt pins s σ H _ _ v u Q I rx ry ⟨_, _, rfl, rfl, h _ _ post_bl⟩
    · exact h.elim
  · split at h
    · cases rep_int ha; cases rep_int hb
      exact op_le pins s σ H _ _ v u Q I rx ry ⟨_, _, rfl, rfl, h _ _ post_bl⟩
    · exact h.elim
  · split at h
    · cases rep_int ha; cases rep_int hb
      exact op_gt pins s σ H _ _ v u Q I rx ry ⟨_, _, rfl, rfl, h _ _ post_bl⟩
    · exact h.elim
  · split at h
    · cases rep_int ha; cases rep_int hb
      exact op_ge pins s σ H _ _ v u Q I rx ry ⟨_, _, rfl, rfl, h _ _ post_bl⟩
    · exact h.elim
theorem flat_vV {K : PySem.W.Frag} {H : Hp} {d : D} {v : V} (h : Rep K H d v) (f : flatD d = true) : flatV v = true := by
  cases d with
  | non => cases rep_non h; rfl
  | bl b => cases rep_bl h; rfl
  | int b => cases rep_int h; rfl
  | str b => cases rep_str h; rfl
  | _ => cases f
theorem flat_eq {K : PySem.W.Frag} {H : Hp} {d e : D} {v u : V} (h : Rep K H d v) (g : Rep K H e u) (f : flatD d = true) (f' : flatD e = true) : eqV v u = eqb d e := by
  cases d with
  | non => cases rep_non h; cases e <;> first | (cases f'; done) | (cases rep_non g; rfl) | (cases rep_bl g; rfl) | (cases rep_int g; rfl) | (cases rep_str g; rfl)
  | bl b => cases rep_bl h; cases e <;> first | (cases f'; done) | (cases rep_non g; rfl) | (cases rep_bl g; simp [eqV, eqb, D.toP, PyData.eqv]) | (cases rep_int g; simp [eqV, eqb, D.toP, PyData.eqv]) | (cases rep_str g; rfl)
  | int b => cases rep_int h; cases e <;> first | (cases f'; done) | (cases rep_non g; rfl) | (cases rep_bl g; simp [eqV, eqb, D.toP, PyData.eqv]) | (cases rep_int g; simp [eqV, eqb, D.toP, PyData.eqv]) | (cases rep_str g; rfl)
  | str b => cases rep_str h; cases e <;> first | (cases f'; done) | (cases rep_non g; rfl) | (cases rep_bl g; rfl) | (cases rep_int g; rfl) | (cases rep_str g; simp [eqV, eqb, D.toP, PyData.eqv])
  | _ => cases f
theorem flat_any {K : PySem.W.Frag} {H : Hp} {e : D} {u : V} (g : Rep K H e u) (f' : flatD e = true) : ∀ {ds : List D} {vs : List V}, Reps K H ds vs → ds.all flatD = true → vs.all flatV = true ∧ (vs.any fun y => eqV y u) = ds.any fun z => eqb z e
  | [], vs, h, _ => by unfold Reps at h; subst h; exact ⟨rfl, rfl⟩
  | d :: ds, vs, h, f => by
    unfold Reps at h
    obtain ⟨v, r, rfl, h2, h3⟩ := h
    rw [List.all_cons, Bool.and_eq_true] at f
    obtain ⟨q1, q2⟩ := flat_any g f' h3 f.2
    refine ⟨?_, ?_⟩
    · rw [List.all_cons, flat_vV h2 f.1, q1]; rfl
    · rw [List.any_cons, List.any_cons, q2, flat_eq h2 g f.1 f']
theorem toPs_any {e : D} : ∀ ds : List D, ((D.toPs ds).any fun z => PyData.eqv z e.toP) = ds.any fun z => eqb z e
  | [] => rfl
  | d :: ds => by
    unfold D.toPs
    rw [List.any_cons, List.any_cons, toPs_any ds]; rfl
theorem op_inD' (hu : X.A.units + 66 < cLine) : OpR X (compareOp .In) (rD X.K (fun x y Q => memD x y fun r => Q (.bl r)) true) := by
  intro pins s σ H x y v u Q I rx ry h
  obtain ⟨S, a, b, hS, ha, hb, h⟩ := h
  unfold memD at h
  split at h
  · obtain ⟨f1, f2, h⟩ := h
    obtain ⟨p, ys, rfl, hy, ry'⟩ := rep_tup hb
    obtain ⟨g1, g2⟩ := flat_any ha f1 ry' f2
    refine op_in_seq pins s σ H _ _ v u Q I rx ry ⟨p, ys, rfl, .inr (Same.sqt hide_le hy), flat_vV ha f1, g1, ?_⟩
    show Q (.bl (inV x ys)) H
    unfold inV
    rw [g2]
    exact h _ _ post_bl
  · obtain ⟨p1, p2, h⟩ := h
    have d1 := (ha.mono hide_le).dp p1
    have d2 := (hb.mono hide_le).dp p2
    have s2 := plain_shaped p2
    unfold D.toP at d2 s2
    refine L2.op_inD (by omega) pins s σ H _ _ v u Q I rx ry ⟨_, _, d1, d2, plain_shaped p1, s2, ?_⟩
    rw [toPs_any]
    exact h _ _ post_bl
  · exact h.elim
theorem op_notInD' (hu : X.A.units + 66 < cLine) : OpR X (compareOp .NotIn) (rD X.K (fun x y Q => memD x y fun r => Q (.bl (!r))) true) := by
  intro pins s σ H x y v u Q I rx ry h
  obtain ⟨S, a, b, hS, ha, hb, h⟩ := h
  unfold memD at h
  split at h
  · obtain ⟨f1, f2, h⟩ := h
    obtain ⟨p, ys, rfl, hy, ry'⟩ := rep_tup hb
    obtain ⟨g1, g2⟩ := flat_any ha f1 ry' f2
    refine op_notIn_seq pins s σ H _ _ v u Q I rx ry ⟨p, ys, rfl, .inr (Same.sqt hide_le hy), flat_vV ha f1, g1, ?_⟩
    show Q (.bl (!inV x ys)) H
    unfold inV
    rw [g2]
    exact h _ _ post_bl
  · obtain ⟨p1, p2, h⟩ := h
    have d1 := (ha.mono hide_le).dp p1
    have d2 := (hb.mono hide_le).dp p2
    have s2 := plain_shaped p2
    unfold D.toP at d2 s2
    refine L2.op_notInD (by omega) pins s σ H _ _ v u Q I rx ry ⟨_, _, d1, d2, plain_shaped p1, s2, ?_⟩
    rw [toPs_any]
    exact h _ _ post_bl
  · exact h.elim
theorem memOp (ng : Bool) (hu : X.A.units + 66 < cLine) : OpR X (compareOp (if ng = true then .NotIn else .In)) (rD X.K (fun x y Q => memD x y fun r => Q (.bl (ng != r))) true) := by
  cases ng with
  | true =>
    have e : (fun x y (Q : D → Prop) => memD x y fun r => Q (.bl (true != r))) = fun x y Q => memD x y fun r => Q (.bl (!r)) := by
      funext x y Q
      congr 1
      funext r
      cases r <;> rfl
    rw [e]
    exact op_notInD' hu
  | false =>
    have e : (fun x y (Q : D → Prop) => memD x y fun r => Q (.bl (false != r))) = fun x y Q => memD x y fun r => Q (.bl r) := by
      funext x y Q
      congr 1
      funext r
      cases r <;> rfl
    rw [e]
    exact op_inD' hu
theorem atD_eq {α : Type} (xs : List α) (i : Int) : atD xs i = atI xs i := rfl
theorem at_get {K : PySem.W.Frag} {H : Hp} {ds : List D} {vs : List V} (h : Reps K H ds vs) {i : Int} {d : D} (e : atD ds i = some d) : ∃ v, atI vs i = some v ∧ Rep K H d v := by
  unfold atD at e
  have hl := h.length
  unfold atI ixN
  rw [hl] at e
  cases q : (if 0 ≤ i then (if i < (vs.length : Int) then some i.toNat else none) else if -(vs.length : Int) ≤ i then some (i + (vs.length : Int)).toNat else none) with
  | none => rw [q] at e; cases e
  | some j =>
    rw [q] at e
    exact h.get (by simpa using e)
theorem ix_D : IxR X (rD X.K ixD false) := by
  intro value slice pins s σ H x y v u Q I rx ry h hsub
  obtain ⟨S, a, b, hS, ha, hb, h⟩ := h
  unfold ixD at h
  split at h
  · obtain ⟨d, e, h⟩ := h
    obtain ⟨p, xs, rfl, hx, rx'⟩ := rep_tup ha
    cases rep_int hb
    obtain ⟨w, e', rw'⟩ := at_get rx' e
    exact ix_tup value slice pins s σ H _ _ v u Q I rx ry ⟨p, xs, _, w, rfl, rfl, Same.sqt hide_le hx, e', h _ _ (post_old rw' fun z => by cases z)⟩ hsub
  · obtain ⟨d, e, h⟩ := h
    obtain ⟨p, xs, rfl, hx, rx'⟩ := rep_lst ha
    cases rep_int hb
    obtain ⟨w, e', rw'⟩ := at_get rx' e
    exact ix_list value slice pins s σ H _ _ v u Q I rx ry ⟨p, xs, _, w, rfl, rfl, Same.sql hide_le hx, e', h _ _ (post_old rw' fun z => by cases z)⟩ hsub
  · exact h.elim
theorem sIx_eq (n d : Nat) (hd : d ≤ n) (o : Option Int) : sIxD n d o = HT.sIx n d o := by
  cases o with
  | none => rfl
  | some v =>
    show (if v < 0 then max (v + (n : Int)) 0 else min v (n : Int)).toNat = HT.sIx n d (some v)
    rw [HT.clip_eq v n d]
    exact Int.toNat_natCast _
theorem cut_eq {α : Type} (xs : List α) (lo hi : Option Int) : cutD xs lo hi = (xs.drop (HT.sIx xs.length 0 lo)).take (HT.sIx xs.length xs.length hi - HT.sIx xs.length 0 lo) := by
  unfold cutD
  rw [sIx_eq _ _ (Nat.zero_le _), sIx_eq _ _ (Nat.le_refl _)]
theorem cut_rep {K : PySem.W.Frag} {H : Hp} {ds : List D} {vs : List V} (h : Reps K H ds vs) (lo hi : Option Int) : Reps K H (cutD ds lo hi) (cutV vs lo hi) := by
  rw [cut_eq]
  unfold cutV
  rw [← h.length]
  exact (h.drop _).take _
def rSlD (K : PySem.W.Frag) : V → Option Int → Option Int → Hp → VK → Prop := fun x lo hi H Q => ∃ S a, SOk H S ∧ Rep K (hide H S) a x ∧ slD a lo hi (fun d => ∀ v H', Post K H S true d v H' → Q v H')
theorem sl_D : SlR X (rSlD X.K) := by
  intro pins s σ H x v vl vu lo hi sl Q I rx hs pl pu h
  obtain ⟨S, a, hS, ha, h⟩ := h
  unfold slD at h
  split at h
  · obtain ⟨p, xs, rfl, hx, rx'⟩ := rep_tup ha
    have hx' := Same.sqt hide_le hx
    refine sl_tupA pins s σ H _ v vl vu lo hi sl Q I rx hs pl pu ⟨p, xs, rfl, hx', fun e => ?_, fun _ t ht => h _ _ (post_tup hS (cut_rep rx' lo hi) ht)⟩
    refine h _ _ (post_old ?_ fun _ => rfl)
    have el := rx'.length
    rw [cut_eq, el, e.1, e.2, List.drop_zero, Nat.sub_zero, List.take_of_length_le (by omega)]
    exact ha
  · obtain ⟨p, xs, rfl, hx, rx'⟩ := rep_lst ha
    exact sl_list pins s σ H _ v vl vu lo hi sl Q I rx hs pl pu ⟨p, xs, rfl, Same.sql hide_le hx, fun t ht => h _ _ (post_lst hS (cut_rep rx' lo hi) ht)⟩
  · exact h.elim

end
end Dl

/-! DlSort: sorted() of lists of data. -/
namespace Dl
open PySem PySem.Spec PyProof.Rows L2
mutual
/-- a value of the heap holds data: ints, tuples of such -/
def HD (h : Heap) : D → Value → Prop
  | .int i, u => ∃ t, u = .int i t
  | .tup ds, u => ∃ a o vs n, u = .ref a ∧ h.get? a = some o ∧ o.cls = .type "tuple" ∧ o.data = .seq vs n ∧ HDs h ds vs.toList
  | _, _ => False
def HDs (h : Heap) : List D → List Value → Prop
  | [], us => us = []
  | d :: ds, us => ∃ u r, us = u :: r ∧ HD h d u ∧ HDs h ds r
end
mutual
theorem HD.keep {h h' : Heap} (k : ∀ b o, h.get? b = some o → o.cls = .type "tuple" → h'.get? b = some o) : ∀ {d : D} {u : Value}, HD h d u → HD h' d u
  | .int i, u, x => by unfold HD at *; exact x
  | .tup ds, u, x => by
    unfold HD at *
    obtain ⟨a, o, vs, n, e1, e2, e3, e4, r⟩ := x
    exact ⟨a, o, vs, n, e1, k _ _ e2 e3, e3, e4, HDs.keep k r⟩
  | .non, u, x => by unfold HD at x; exact x.elim
  | .bl _, u, x => by unfold HD at x; exact x.elim
  | .str _, u, x => by unfold HD at x; exact x.elim
  | .lst _, u, x => by unfold HD at x; exact x.elim
  | .dict _ _, u, x => by unfold HD at x; exact x.elim
  | .obj _ _ _, u, x => by unfold HD at x; exact x.elim
theorem HDs.keep {h h' : Heap} (k : ∀ b o, h.get? b = some o → o.cls = .type "tuple" → h'.get? b = some o) : ∀ {ds : List D} {us : List Value}, HDs h ds us → HDs h' ds us
  | [], us, x => by unfold HDs at *; exact x
  | d :: ds, us, x => by
    unfold HDs at *
    obtain ⟨u, r, e, h1, h2⟩ := x
    exact ⟨u, r, e, HD.keep k h1, HDs.keep k h2⟩
end
mutual
theorem HD.uniq {h : Heap} : ∀ {d d' : D} {u : Value}, HD h d u → HD h d' u → d = d'
  | .int i, d', u, x, y => by
    unfold HD at x
    obtain ⟨t, rfl⟩ := x
    cases d' with
    | int j => unfold HD at y; obtain ⟨t', e⟩ := y; cases e; rfl
    | tup ds => unfold HD at y; obtain ⟨_, _, _, _, e, _⟩ := y; cases e
    | _ => unfold HD at y; exact y.elim
  | .tup ds, d', u, x, y => by
    unfold HD at x
    obtain ⟨a, o, vs, n, rfl, e2, e3, e4, r⟩ := x
    cases d' with
    | int j => unfold HD at y; obtain ⟨t', e⟩ := y; cases e
    | tup es =>
      unfold HD at y
      obtain ⟨a', o', vs', n', q1, q2, q3, q4, r'⟩ := y
      cases q1
      rw [e2] at q2
      cases q2
      rw [e4] at q4
      cases q4
      rw [HDs.uniq r r']
    | _ => unfold HD at y; exact y.elim
  | .non, d', u, x, y => by unfold HD at x; exact x.elim
  | .bl _, d', u, x, y => by unfold HD at x; exact x.elim
  | .str _, d', u, x, y => by unfold HD at x; exact x.elim
  | .lst _, d', u, x, y => by unfold HD at x; exact x.elim
  | .dict _ _, d', u, x, y => by unfold HD at x; exact x.elim
  | .obj _ _ _, d', u, x, y => by unfold HD at x; exact x.elim
theorem HDs.uniq {h : Heap} : ∀ {ds es : List D} {us : List Value}, HDs h ds us → HDs h es us → ds = es
  | [], es, us, x, y => by
    unfold HDs at x
    subst x
    cases es with
    | nil => rfl
    | cons e es => unfold HDs at y; obtain ⟨_, _, e, _⟩ := y; cases e
  | d :: ds, es, us, x, y => by
    unfold HDs at x
    obtain ⟨u, r, rfl, h1, h2⟩ := x
    cases es with
    | nil => unfold HDs at y; cases y
    | cons e es =>
      unfold HDs at y
      obtain ⟨u', r', e, g1, g2⟩ := y
      cases e
      rw [HD.uniq h1 g1, HDs.uniq h2 g2]
end
theorem HDs.length {h : Heap} : ∀ {ds : List D} {us : List Value}, HDs h ds us → ds.length = us.length
  | [], us, x => by unfold HDs at x; subst x; rfl
  | d :: ds, us, x => by
    unfold HDs at x
    obtain ⟨u, r, rfl, _, h2⟩ := x
    simp [HDs.length h2]
theorem HDs.get {h : Heap} : ∀ {ds : List D} {us : List Value} {j : Nat} {u : Value}, HDs h ds us → us[j]? = some u → ∃ d, ds[j]? = some d ∧ HD h d u
  | [], us, j, u, x, e => by unfold HDs at x; subst x; simp at e
  | d :: ds, us, j, u, x, e => by
    unfold HDs at x
    obtain ⟨u', r, rfl, h1, h2⟩ := x
    cases j with
    | zero => simp at e; subst e; exact ⟨d, rfl, h1⟩
    | succ j => simpa using HDs.get h2 (by simpa using e)
mutual
theorem cmpT_refl : ∀ {h : Heap} {d : D} {u : Value}, HD h d u → cmpT d d = .eq
  | h, .int i, u, x => by simp only [cmpT]; exact Int.compare_eq_eq.mpr rfl
  | h, .tup ds, u, x => by
    unfold HD at x
    obtain ⟨a, o, vs, n, rfl, e2, e3, e4, r⟩ := x
    simp only [cmpT]
    exact cmpTs_refl r
  | h, .non, u, x => by unfold HD at x; exact x.elim
  | h, .bl _, u, x => by unfold HD at x; exact x.elim
  | h, .str _, u, x => by unfold HD at x; exact x.elim
  | h, .lst _, u, x => by unfold HD at x; exact x.elim
  | h, .dict _ _, u, x => by unfold HD at x; exact x.elim
  | h, .obj _ _ _, u, x => by unfold HD at x; exact x.elim
theorem cmpTs_refl : ∀ {h : Heap} {ds : List D} {us : List Value}, HDs h ds us → cmpTs ds ds = .eq
  | h, [], us, x => rfl
  | h, d :: ds, us, x => by
    unfold HDs at x
    obtain ⟨u, r, e, h1, h2⟩ := x
    simp only [cmpTs]
    rw [cmpT_refl h1, cmpTs_refl h2]
    rfl
end
/-- item beside item -/
def eqL (ds es : List D) (j : Nat) : Bool := match ds[j]?, es[j]? with
  | some d, some e => cmpT d e == .eq
  | _, _ => false
def ltL (ds es : List D) (j : Nat) : Bool := match ds[j]?, es[j]? with
  | some d, some e => ltT d e
  | _, _ => false
theorem all_eqL : ∀ (ds es : List D), ((List.range (min ds.length es.length)).all (eqL ds es) && ds.length == es.length) = (cmpTs ds es == .eq)
  | [], [] => rfl
  | [], e :: es => by simp [cmpTs]
  | d :: ds, [] => by simp [cmpTs]
  | d :: ds, e :: es => by
    have ih := all_eqL ds es
    simp only [List.length_cons, Nat.succ_min_succ, cmpTs]
    rw [List.range_succ_eq_map, List.all_cons, List.all_map]
    have e1 : (eqL (d :: ds) (e :: es) ∘ Nat.succ) = eqL ds es := by funext j; simp [eqL]
    have e0 : eqL (d :: ds) (e :: es) 0 = (cmpT d e == .eq) := by simp [eqL]
    rw [e1, e0]
    have e2 : (ds.length + 1 == es.length + 1) = (ds.length == es.length) := by
      rw [Bool.eq_iff_iff]; simp
    rw [e2, Bool.and_assoc, ih]
    cases cmpT d e <;> simp [Ordering.then]
theorem lexL : ∀ (k i : Nat) (ds es : List D), k + i = min ds.length es.length → Ob.lexAt (eqL ds es) (ltL ds es) (decide (ds.length < es.length)) i k = (cmpTs (ds.drop i) (es.drop i) == .lt)
  | 0, i, ds, es, h => by
    rw [Ob.lexAt_zero]
    rcases Nat.lt_or_ge ds.length es.length with g | g
    · have e1 : ds.drop i = [] := List.drop_of_length_le (by omega)
      rw [e1, List.drop_eq_getElem_cons (l := es) (i := i) (by omega)]
      simp [cmpTs, g]
    · have e1 : es.drop i = [] := List.drop_of_length_le (by omega)
      rw [e1]
      cases ds.drop i with
      | nil => simp [cmpTs]; omega
      | cons d ds' => simp [cmpTs]; omega
  | k + 1, i, ds, es, h => by
    rw [Ob.lexAt_succ, lexL k (i + 1) ds es (by omega)]
    rw [List.drop_eq_getElem_cons (l := es) (i := i) (by omega), List.drop_eq_getElem_cons (l := ds) (i := i) (by omega)]
    simp only [cmpTs]
    have e1 : eqL ds es i = (cmpT ds[i] es[i] == .eq) := by
      unfold eqL
      rw [List.getElem?_eq_getElem (by omega), List.getElem?_eq_getElem (by omega)]
    have e2 : ltL ds es i = (cmpT ds[i] es[i] == .lt) := by
      unfold ltL
      rw [List.getElem?_eq_getElem (by omega), List.getElem?_eq_getElem (by omega)]
      rfl
    rw [e1, e2]
    cases cmpT ds[i] es[i] <;> simp [Ordering.then]
theorem cmpOks_at : ∀ {ds es : List D} {j : Nat} {d e : D}, cmpOks ds es = true → ds[j]? = some d → es[j]? = some e → cmpOk d e = true
  | [], es, j, d, e, h, e1, e2 => by simp at e1
  | x :: ds, [], j, d, e, h, e1, e2 => by simp at e2
  | x :: ds, y :: es, j, d, e, h, e1, e2 => by
    unfold cmpOks at h
    rw [Bool.and_eq_true] at h
    cases j with
    | zero => simp at e1 e2; subst e1 e2; exact h.1
    | succ j => exact cmpOks_at h.2 (by simpa using e1) (by simpa using e2)
theorem plains_at : ∀ {ds : List D} {n j : Nat} {d : D}, D.plains n ds = true → ds[j]? = some d → D.plain n d = true
  | [], n, j, d, h, e => by simp at e
  | x :: ds, n, j, d, h, e => by
    unfold D.plains at h
    rw [Bool.and_eq_true] at h
    cases j with
    | zero => simp at e; subst e; exact h.1
    | succ j => exact plains_at h.2 (by simpa using e)
theorem at_of {us : Array Value} {j : Nat} (h : j < us.size) : us.toList[j]? = some us[j] := by simp [h]
section
variable {s : Shared}
/-- == of data -/
theorem HD.eqAt : ∀ (n : Nat) {A : Around} {d e : D} {u v : Value}, HD s.heap d u → HD s.heap e v → cmpOk d e = true → D.plain n d = true → A.units + n < cLine → SeqAt.EqAt A s u v (cmpT d e == .eq) := by
  intro n
  induction n with
  | zero =>
    intro A d e u v hd he ok hp hu
    cases d with
    | int i =>
      cases e with
      | int j =>
        unfold HD at hd he
        obtain ⟨t, rfl⟩ := hd
        obtain ⟨t', rfl⟩ := he
        have q := SeqAt.EqAt.int_int (A := A) (s := s) i t j t'
        have e1 : (cmpT (.int i) (.int j) == .eq) = (i == j) := by
          rw [Bool.eq_iff_iff]; simp [cmpT]
        rw [e1]; exact q
      | _ => simp [cmpOk] at ok
    | tup ds => simp [D.plain] at hp
    | _ => unfold HD at hd; exact hd.elim
  | succ n ih =>
    intro A d e u v hd he ok hp hu
    cases d with
    | int i =>
      cases e with
      | int j =>
        unfold HD at hd he
        obtain ⟨t, rfl⟩ := hd
        obtain ⟨t', rfl⟩ := he
        have q := SeqAt.EqAt.int_int (A := A) (s := s) i t j t'
        have e1 : (cmpT (.int i) (.int j) == .eq) = (i == j) := by
          rw [Bool.eq_iff_iff]; simp [cmpT]
        rw [e1]; exact q
      | _ => simp [cmpOk] at ok
    | tup ds =>
      cases e with
      | tup es =>
        by_cases hne : u = v
        · subst hne
          have := HD.uniq hd he
          rw [← this, cmpT_refl hd]
          exact SeqAt.EqAt.same u
        · unfold HD at hd he
          obtain ⟨a, o, vs, m, rfl, e2, e3, e4, r⟩ := hd
          obtain ⟨a', o', vs', m', rfl, q2, q3, q4, r'⟩ := he
          have hlen := r.length
          have hlen' := r'.length
          have ok' : cmpOks ds es = true := by simpa [cmpOk] using ok
          have hp' : D.plains n ds = true := by simpa [D.plain] using hp
          have q := SeqAt.RcAt.tuples (A := A) (s := s) (e := eqL ds es) ⟨o, e2, e3, m, e4⟩ ⟨o', q2, q3, m', q4⟩ (by omega) (fun j h1 h2 => by
            obtain ⟨d, f1, f2⟩ := r.get (at_of h1)
            obtain ⟨e, g1, g2⟩ := r'.get (at_of h2)
            have : eqL ds es j = (cmpT d e == .eq) := by unfold eqL; rw [f1, g1]
            rw [this]
            exact ih f2 g2 (cmpOks_at ok' f1 g1) (plains_at hp' f1) (by show A.units + 1 + n < cLine; omega))
          have e5 : ((List.range (min vs.size vs'.size)).all (eqL ds es) && vs.size == vs'.size) = (cmpT (.tup ds) (.tup es) == .eq) := by
            have h1 : vs.size = ds.length := by rw [hlen]; simp
            have h2 : vs'.size = es.length := by rw [hlen']; simp
            rw [h1, h2, all_eqL]
            simp only [cmpT]
          rw [e5] at q
          exact SeqAt.EqAt.of_refs (fun z => hne (by rw [z])) q
      | _ => simp [cmpOk] at ok
    | _ => unfold HD at hd; exact hd.elim
/-- < of data -/
theorem HD.lt : ∀ (n : Nat) {A : Around} {d e : D} {u v : Value}, HD s.heap d u → HD s.heap e v → cmpOk d e = true → D.plain n d = true → A.units + n < cLine → Ob.RcOp .Lt A s u v (ltT d e) := by
  intro n
  induction n with
  | zero =>
    intro A d e u v hd he ok hp hu
    cases d with
    | int i =>
      cases e with
      | int j =>
        unfold HD at hd he
        obtain ⟨t, rfl⟩ := hd
        obtain ⟨t', rfl⟩ := he
        have q := Ob.RcOp.lt_int (A := A) (s := s) i j t t'
        have e1 : ltT (.int i) (.int j) = decide (i < j) := by
          rw [Bool.eq_iff_iff, ltT_iff]; simp [cmpT, Int.compare_eq_lt]
        rw [e1]; exact q
      | _ => simp [cmpOk] at ok
    | tup ds => simp [D.plain] at hp
    | _ => unfold HD at hd; exact hd.elim
  | succ n ih =>
    intro A d e u v hd he ok hp hu
    cases d with
    | int i =>
      cases e with
      | int j =>
        unfold HD at hd he
        obtain ⟨t, rfl⟩ := hd
        obtain ⟨t', rfl⟩ := he
        have q := Ob.RcOp.lt_int (A := A) (s := s) i j t t'
        have e1 : ltT (.int i) (.int j) = decide (i < j) := by
          rw [Bool.eq_iff_iff, ltT_iff]; simp [cmpT, Int.compare_eq_lt]
        rw [e1]; exact q
      | _ => simp [cmpOk] at ok
    | tup ds =>
      cases e with
      | tup es =>
        unfold HD at hd he
        obtain ⟨a, o, vs, m, rfl, e2, e3, e4, r⟩ := hd
        obtain ⟨a', o', vs', m', rfl, q2, q3, q4, r'⟩ := he
        have hlen := r.length
        have hlen' := r'.length
        have ok' : cmpOks ds es = true := by simpa [cmpOk] using ok
        have hp' : D.plains n ds = true := by simpa [D.plain] using hp
        have hu' : (A.in1).units + n < cLine := by show A.units + 1 + n < cLine; omega
        have q := Ob.RcOp.tuples_lt (A := A) (s := s) (e := eqL ds es) (r := ltL ds es) ⟨o, e2, e3, m, e4⟩ ⟨o', q2, q3, m', q4⟩ (by omega) (fun j h1 h2 => by
          obtain ⟨d, f1, f2⟩ := r.get (at_of h1)
          obtain ⟨e, g1, g2⟩ := r'.get (at_of h2)
          have : eqL ds es j = (cmpT d e == .eq) := by unfold eqL; rw [f1, g1]
          rw [this]
          exact HD.eqAt n f2 g2 (cmpOks_at ok' f1 g1) (plains_at hp' f1) hu') (fun j h1 h2 _ => by
          obtain ⟨d, f1, f2⟩ := r.get (at_of h1)
          obtain ⟨e, g1, g2⟩ := r'.get (at_of h2)
          have : ltL ds es j = ltT d e := by unfold ltL; rw [f1, g1]
          rw [this]
          exact ih f2 g2 (cmpOks_at ok' f1 g1) (plains_at hp' f1) hu')
        have e5 : Ob.lexAt (eqL ds es) (ltL ds es) (decide (vs.size < vs'.size)) 0 (min vs.size vs'.size) = ltT (.tup ds) (.tup es) := by
          have h1 : vs.size = ds.length := by rw [hlen]; simp
          have h2 : vs'.size = es.length := by rw [hlen']; simp
          rw [h1, h2, lexL _ 0 ds es (by omega)]
          simp only [List.drop_zero, ltT, cmpT]
        rw [e5] at q
        exact q
      | _ => simp [cmpOk] at ok
    | _ => unfold HD at hd; exact hd.elim
end
/-! ### the sort's own comparison -/
section
variable {prog : Program} {w : World} {A : Around} {E : Value → Shared → Prop} {s : Shared}
def intHd : List D → Bool
  | .int _ :: _ => true
  | _ => false
theorem kat_lex {b : Bool} {R : Bool} {n : Nat} : ∀ (ds es : List D) (us vs : List Value) (i : Nat), HDs s.heap ds us → HDs s.heap es vs → cmpOks ds es = true → D.plains n ds = true → A.units + n < cLine → (b = true → i = 0 → intHd ds = true) → R = (cmpTs ds es == .lt) → ∀ fin : Bool, fin = decide (ds.length < es.length) →
    PySem.W.KatLex prog w A b fin (fun r s' => s' = s ∧ r = R) (us.zip vs) i s
  | [], es, us, vs, i, h1, h2, ok, hp, hu, hb, hR, fin, hf => by
    unfold HDs at h1
    subst h1
    rw [List.zip_nil_left]
    refine PySem.W.kat_nil ⟨rfl, ?_⟩
    rw [hR, hf]
    cases es <;> simp [cmpTs]
  | d :: ds, [], us, vs, i, h1, h2, ok, hp, hu, hb, hR, fin, hf => by
    unfold HDs at h2
    subst h2
    rw [List.zip_nil_right]
    refine PySem.W.kat_nil ⟨rfl, ?_⟩
    rw [hR, hf]
    simp [cmpTs]
  | d :: ds, e :: es, us, vs, i, h1, h2, ok, hp, hu, hb, hR, fin, hf => by
    unfold HDs at h1 h2
    obtain ⟨u, us, rfl, a1, a2⟩ := h1
    obtain ⟨v, vs, rfl, b1, b2⟩ := h2
    unfold cmpOks at ok
    unfold D.plains at hp
    rw [Bool.and_eq_true] at ok hp
    rw [List.zip_cons_cons]
    simp only [cmpTs] at hR
    refine PySem.W.kat_cons (HD.eqAt n a1 b1 ok.1 hp.1 hu prog w _ _ ?_)
    refine PySem.W.kat_go (fun q => ?_) (fun q => ?_)
    · have q' : cmpT d e = .eq := by simpa using q
      refine PySem.W.kat_yes (kat_lex ds es us vs (i + 1) a2 b2 ok.2 hp.2 hu (fun _ z => by omega) (by rw [hR, q']; rfl) fin (by rw [hf]; simp))
    · have q' : cmpT d e ≠ .eq := by simpa using q
      have hR' : R = ltT d e := by
        rw [hR]
        unfold ltT
        cases q3 : cmpT d e <;> simp_all [Ordering.then]
      refine PySem.W.kat_no ?_
      by_cases hb' : (b && i == 0) = true
      · rw [Bool.and_eq_true] at hb'
        have hi := hb hb'.1 (by simpa using hb'.2)
        cases d with
        | int x =>
          cases e with
          | int y =>
            unfold HD at a1 b1
            obtain ⟨t, rfl⟩ := a1
            obtain ⟨t', rfl⟩ := b1
            rw [hb'.1, hb'.2]
            refine oneLt_int ⟨rfl, ?_⟩
            rw [hR', Bool.eq_iff_iff, ltT_iff]
            simp [cmpT, Int.compare_eq_lt]
          | _ => simp [cmpOk] at ok
        | _ => cases hi
      · have hb'' : (b && i == 0) = false := by simpa using hb'
        rw [hb'']
        refine PySem.W.kat_one _ _ (HD.lt n a1 b1 ok.1 hp.1 hu prog w _ _ ?_)
        exact (show s = s ∧ ltT d e = R from ⟨rfl, hR'.symm⟩)
/-- a value's data -/
noncomputable def kd (h : Heap) (v : Value) : D := by
  classical
  exact if q : ∃ d, HD h d v then q.choose else .non
theorem kd_of {h : Heap} {d : D} {v : Value} (x : HD h d v) : kd h v = d := by
  unfold kd
  have q : ∃ d, HD h d v := ⟨d, x⟩
  rw [dif_pos q]
  exact HD.uniq q.choose_spec x
theorem HDs.mem {h : Heap} : ∀ {ds : List D} {us : List Value} {u : Value}, HDs h ds us → u ∈ us → ∃ d ∈ ds, HD h d u
  | [], us, u, x, m => by unfold HDs at x; subst x; cases m
  | d :: ds, us, u, x, m => by
    unfold HDs at x
    obtain ⟨u', r, rfl, h1, h2⟩ := x
    rcases List.mem_cons.mp m with rfl | m
    · exact ⟨d, List.mem_cons_self, h1⟩
    · obtain ⟨e, m', q⟩ := HDs.mem h2 m
      exact ⟨e, List.mem_cons_of_mem _ m', q⟩
theorem HDs.kds {h : Heap} : ∀ {ds : List D} {us : List Value}, HDs h ds us → us.map (kd h) = ds
  | [], us, x => by unfold HDs at x; subst x; rfl
  | d :: ds, us, x => by
    unfold HDs at x
    obtain ⟨u, r, rfl, h1, h2⟩ := x
    rw [List.map_cons, kd_of h1, HDs.kds h2]
def isI : D → Bool
  | .int _ => true
  | _ => false
/-- the first items -/
theorem firsts_D {h : Heap} : ∀ {ds : List D} {us : List Value}, HDs h ds us → (∀ d ∈ ds, ne1 d = true) → ∃ fs fd, PySem.W.KatTups h us fs ∧ fs.length = us.length ∧ HDs h fd fs ∧ (∀ f ∈ fd, ∃ r, D.tup (f :: r) ∈ ds) ∧ ∀ f r, D.tup (f :: r) ∈ ds → f ∈ fd
  | [], us, x, hn => by
    unfold HDs at x; subst x
    exact ⟨[], [], PySem.W.KatTups.nil, rfl, by unfold HDs; rfl, (fun f m => by cases m), fun f r m => by cases m⟩
  | d :: ds, us, x, hn => by
    unfold HDs at x
    obtain ⟨u, r, rfl, h1, h2⟩ := x
    obtain ⟨fs, fd, t, l, q, m, m'⟩ := firsts_D h2 fun d hd => hn d (List.mem_cons_of_mem _ hd)
    have hd := hn d List.mem_cons_self
    cases d with
    | tup es =>
      cases es with
      | nil => cases hd
      | cons e es =>
        unfold HD at h1
        obtain ⟨a, o, vs, n, rfl, e2, e3, e4, hr⟩ := h1
        unfold HDs at hr
        obtain ⟨f, r', er, f1, f2⟩ := hr
        refine ⟨f :: fs, e :: fd, PySem.W.KatTups.cons e2 e3 e4 (by rw [← Array.getElem?_toList, er]; rfl) t, by simp [l], ?_, fun g hg => ?_, fun g r hg => ?_⟩
        · unfold HDs
          exact ⟨f, fs, rfl, f1, q⟩
        · rcases List.mem_cons.mp hg with rfl | hg
          · exact ⟨es, List.mem_cons_self⟩
          · obtain ⟨r'', hm⟩ := m g hg
            exact ⟨r'', List.mem_cons_of_mem _ hm⟩
        · rcases List.mem_cons.mp hg with z | hg
          · cases z; exact List.mem_cons_self
          · exact List.mem_cons_of_mem _ (m' g r hg)
    | _ => cases hd
theorem tups_sortable {a : Addr} {ds : List D} {vs : List Value} {n : Nat} {k : Value → D} (hk : ∀ v ∈ vs, HD s.heap (k v) v) (hd : HDs s.heap ds vs) (ok : TupsOk n ds) (hu : A.units + n < cLine) (h0 : 0 < vs.length) (ha : ∀ o, s.heap.get? a = some o → o.cls ≠ .type "tuple") :
    SrtO.SortableO prog w A s a vs fun v u => ltT (k v) (k u) := by
  intro h' keep
  have kp : ∀ b o, s.heap.get? b = some o → o.cls = .type "tuple" → h'.get? b = some o := fun b o e c => keep b o (fun z => by subst z; exact ha o e c) e
  have hd' : HDs h' ds vs := hd.keep kp
  obtain ⟨fs, fd, t, l, q, m, mc⟩ := firsts_D hd' ok.ne
  -- the first items are all ints, or all tuples
  obtain ⟨b, hb⟩ : ∃ b, b = fd.all isI := ⟨_, rfl⟩
  have hall : ∀ f ∈ fd, ∀ g ∈ fd, cmpOk f g = true := fun f hf g hg => by
    obtain ⟨r, h1⟩ := m f hf
    obtain ⟨r', h2⟩ := m g hg
    have := ok.ok _ h1 _ h2
    unfold cmpOk cmpOks at this
    rw [Bool.and_eq_true] at this
    exact this.1
  have hcl : ∀ x ∈ fs, ∃ d ∈ fd, HD h' d x := fun x hx => q.mem hx
  refine ⟨tuples' b, fun Q E hq => ?_, ?_⟩
  · cases b with
    | true =>
      have hi : ∀ f ∈ fd, isI f = true := by simpa using hb.symm
      refine PySem.W.kat_kind (T := .type "int") t (by omega) (fun f hm => ?_) (by rfl) ?_
      · obtain ⟨d, hd1, hd2⟩ := hcl f hm
        have := hi d hd1
        cases d with
        | int i => unfold HD at hd2; obtain ⟨t, rfl⟩ := hd2; exact PySem.W.Looks.now
        | _ => cases this
      · have e : (Value.type "int" != Value.type "tuple") = true := by first | decide +kernel | rfl | decide
        rw [e]
        exact hq
    | false =>
      have hi : ∀ f ∈ fd, isI f = false := fun f hf => by
        cases qf : isI f with
        | false => rfl
        | true =>
          have : fd.all isI = true := by
            rw [List.all_eq_true]
            intro g hg
            have := hall f hf g hg
            cases f with
            | int i => cases g with
              | int j => rfl
              | _ => cases this
            | _ => cases qf
          rw [← hb] at this
          cases this
      refine PySem.W.kat_kind (T := .type "tuple") t (by omega) (fun f hm => ?_) (by rfl) ?_
      · obtain ⟨d, hd1, hd2⟩ := hcl f hm
        have := hi d hd1
        cases d with
        | int i => cases this
        | tup es =>
          unfold HD at hd2
          obtain ⟨a, o, vs, n, rfl, e2, e3, e4, hr⟩ := hd2
          have := (show PySem.W.Looks (model prog w) h' (typeOf (.ref a)) o.cls from (PySem.W.Looks.ld e2).andThen .now)
          rw [e3] at this
          exact this
        | _ => unfold HD at hd2; exact hd2.elim
      · have e : (Value.type "tuple" != Value.type "tuple") = false := by first | decide +kernel | rfl | decide
        rw [e]
        exact hq
  · intro p r hm hm'
    obtain ⟨d, m1, d1⟩ := hd'.mem hm
    obtain ⟨e, m2, e1⟩ := hd'.mem hm'
    obtain ⟨d', m1', d1'⟩ := hd.mem hm
    obtain ⟨e', m2', e1'⟩ := hd.mem hm'
    have ed := HD.uniq d1 (d1'.keep kp)
    have ee := HD.uniq e1 (e1'.keep kp)
    subst ed ee
    show wpAny (model prog w) A (keyLt' (tuples' b) p.1 r.1) (fun x s' => s' = { s with heap := h' } ∧ x = ltT (k p.1) (k r.1)) (fun _ _ => False) { s with heap := h' }
    rw [HD.uniq (hk _ hm) d1', HD.uniq (hk _ hm') e1']
    have n1 := ok.ne _ m1
    have n2 := ok.ne _ m2
    have o1 := ok.ok _ m1 _ m2
    have p1 := ok.pl _ m1
    cases d with
    | tup ds1 =>
      cases e with
      | tup ds2 =>
        have d1c := d1
        unfold HD at d1 e1
        obtain ⟨a1, ob1, us, n3, q1, q2, q3, q4, q5⟩ := d1
        obtain ⟨a2, ob2, us', n4, r1, r2, r3, r4, r5⟩ := e1
        rw [q1, r1]
        have l1 := q5.length
        have l2 := r5.length
        cases n with
        | zero => simp [D.plain] at p1
        | succ n =>
          refine PySem.W.kat_lt q2 q4 r2 r4 (kat_lex (n := n) ds1 ds2 us.toList us'.toList 0 q5 r5 (by simpa [cmpOk] using o1) (by simpa [D.plain] using p1) (by omega) (fun hb1 _ => ?_) ?_ _ ?_)
          · rw [hb] at hb1
            cases ds1 with
            | nil => cases n1
            | cons f fr =>
              rw [List.all_eq_true] at hb1
              have : f ∈ fd := mc f fr m1
              have := hb1 f this
              cases f with
              | int i => rfl
              | _ => cases this
          · unfold ltT
            simp only [cmpT]
          · have h1 : us.size = ds1.length := by rw [l1]; simp
            have h2 : us'.size = ds2.length := by rw [l2]; simp
            rw [h1, h2]
      | _ => cases n2
    | _ => cases n1
end
section
variable {X : Cx} {pins : List (Addr × Obj)} {s : Shared} {σ : L2.St} {H : Hp}
theorem cmpOks_self : ∀ {ds : List D} {d : D}, cmpOks ds ds = true → d ∈ ds → cmpOk d d = true := fun {ds d} h m => by
  obtain ⟨j, hj, e⟩ := List.getElem_of_mem m
  have e' : ds[j]? = some d := by rw [List.getElem?_eq_getElem hj, e]
  exact cmpOks_at h e' e'
mutual
theorem rep_HD (I : Inv X pins σ H s) : ∀ {d : D} {v : V} {u : Value}, Rep X.K H d v → RelV v u → cmpOk d d = true → HD s.heap d u
  | .int i, v, u, h, r, ok => by
    cases rep_int h
    unfold HD
    exact r
  | .tup ds, v, u, h, r, ok => by
    obtain ⟨a, vs, rfl, hs, hr⟩ := rep_tup h
    obtain rfl : u = Value.ref a := r
    obtain ⟨its, rv, ⟨o, ho, hc, n, hd⟩, _⟩ := I.tuple hs
    unfold HD
    exact ⟨a, o, its.toArray, n, rfl, ho, hc, hd, by simpa using reps_HD I hr rv (by simpa [cmpOk] using ok)⟩
  | .non, v, u, h, r, ok => by simp [cmpOk] at ok
  | .bl _, v, u, h, r, ok => by simp [cmpOk] at ok
  | .str _, v, u, h, r, ok => by simp [cmpOk] at ok
  | .lst _, v, u, h, r, ok => by simp [cmpOk] at ok
  | .dict _ _, v, u, h, r, ok => by simp [cmpOk] at ok
  | .obj _ _ _, v, u, h, r, ok => by simp [cmpOk] at ok
theorem reps_HD (I : Inv X pins σ H s) : ∀ {ds : List D} {vs : List V} {us : List Value}, Reps X.K H ds vs → Vals vs us → cmpOks ds ds = true → HDs s.heap ds us
  | [], vs, us, h, r, ok => by
    unfold Reps at h
    subst h
    cases r
    unfold HDs
    rfl
  | d :: ds, vs, us, h, r, ok => by
    unfold Reps at h
    obtain ⟨v, vs', rfl, h1, h2⟩ := h
    cases r with
    | cons r1 r2 =>
      unfold cmpOks at ok
      rw [Bool.and_eq_true] at ok
      unfold HDs
      exact ⟨_, _, rfl, rep_HD I h1 r1 ok.1, reps_HD I h2 r2 ok.2⟩
end
theorem reps_HDs (I : Inv X pins σ H s) : ∀ {ds : List D} {vs : List V} {us : List Value}, Reps X.K H ds vs → Vals vs us → (∀ d ∈ ds, cmpOk d d = true) → HDs s.heap ds us
  | [], vs, us, h, r, ok => by
    unfold Reps at h
    subst h
    cases r
    unfold HDs
    rfl
  | d :: ds, vs, us, h, r, ok => by
    unfold Reps at h
    obtain ⟨v, vs', rfl, h1, h2⟩ := h
    cases r with
    | cons r1 r2 =>
      unfold HDs
      exact ⟨_, _, rfl, rep_HD I h1 r1 (ok _ List.mem_cons_self), reps_HDs I h2 r2 fun e he => ok e (List.mem_cons_of_mem _ he)⟩
theorem reps_at {K : PySem.W.Frag} {H : Hp} : ∀ {ds : List D} {us : List Value} {k : Value → D} {b : Value → V}, Reps K H ds (us.map b) → us.map k = ds → ∀ u ∈ us, Rep K H (k u) (b u)
  | [], us, k, b, h, e, u, m => by
    cases us with
    | nil => cases m
    | cons _ _ => simp at e
  | d :: ds, [], k, b, h, e, u, m => by cases m
  | d :: ds, x :: us, k, b, h, e, u, m => by
    rw [List.map_cons] at h e
    obtain ⟨h1, h2⟩ := Reps.inv h
    cases e
    rcases List.mem_cons.mp m with rfl | m
    · exact h1
    · exact reps_at h2 rfl u m
theorem reps_of {K : PySem.W.Frag} {H : Hp} {k : Value → D} {b : Value → V} : ∀ {us : List Value}, (∀ u ∈ us, Rep K H (k u) (b u)) → Reps K H (us.map k) (us.map b)
  | [], h => Reps.nil
  | u :: us, h => Reps.cons (h u List.mem_cons_self) (reps_of fun x hx => h x (List.mem_cons_of_mem _ hx))
theorem rep_ref {K : PySem.W.Frag} {H : Hp} {d : D} {v : V} (h : Rep K H d v) (hn : ne1 d = true) : ∃ a, v = .ref a := by
  cases d with
  | tup ds => obtain ⟨a, _, e, _⟩ := rep_tup h; exact ⟨a, e⟩
  | _ => cases hn
theorem reps_memD {K : PySem.W.Frag} {H : Hp} : ∀ {ds : List D} {vs : List V} {v : V}, Reps K H ds vs → v ∈ vs → ∃ d ∈ ds, Rep K H d v
  | [], vs, v, h, m => by unfold Reps at h; subst h; cases m
  | d :: ds, vs, v, h, m => by
    unfold Reps at h
    obtain ⟨v', r, rfl, h1, h2⟩ := h
    rcases List.mem_cons.mp m with rfl | m
    · exact ⟨d, List.mem_cons_self, h1⟩
    · obtain ⟨e, m', q⟩ := reps_memD h2 m
      exact ⟨e, List.mem_cons_of_mem _ m', q⟩
theorem call_sortedT {S : List Addr} {a : Addr} {xs : List V} {ds : List D} {us : List Value} {Q : VK} (I : Inv X pins σ H s) (r : Vals [V.ref a] us) (hu : X.A.units + 66 < cLine) (hS : SOk H S) (hs : SqL X.K H a xs) (hd : Reps X.K (hide H S) ds xs) (ok : TupsOk 60 ds)
    (q : ∀ v H', Post X.K H S true (.lst (sortD ds)) v H' → Q v H') : wpAny (model X.prog X.w) X.A (call (.builtin "sorted") us) (EP X pins σ Q) X.xe s := by
  obtain ⟨its, rv, hl, hz⟩ := I.list hs
  obtain ⟨u, rfl, ru⟩ := vals1 r
  obtain rfl : u = Value.ref a := ru
  have hD : HDs s.heap ds its := reps_HDs I (hd.mono hide_le) rv fun d hd => ok.ok d hd d hd
  obtain ⟨e1, e2⟩ := refs_back rv fun x m => by
    obtain ⟨d, hd1, hd2⟩ := reps_memD hd m
    exact rep_ref hd2 (ok.ne d hd1)
  have hk : ∀ v ∈ its, HD s.heap (kd s.heap v) v := fun v hv => by
    obtain ⟨d, m, h⟩ := hD.mem hv
    rw [kd_of h]
    exact h
  refine SrtO.sorted_ord (swo_key (kd s.heap)) hl.isList (by rw [← rv.length]; exact hz) (fun h2 h₁ a' ha kk => ?_) fun out h1 h2 => ?_
  · have kp : ∀ b o, s.heap.get? b = some o → o.cls = .type "tuple" → h₁.get? b = some o := fun b o e _ => (kk b o e).2
    refine tups_sortable (s := { s with heap := h₁ }) (n := 60) (fun v hv => (hk v hv).keep kp) (hD.keep kp) ok ?_ (by omega) fun o e => ?_
    · show X.A.units + 1 + 1 + 60 < cLine
      omega
    · have e' : some o = some (seqObj "list" its.toArray 0) := e.symm.trans ha
      cases e'
      intro c
      exact absurd (Value.type.inj c) (by decide)
  · have hp := h2.perm
    have h3 : ∀ u ∈ out, ∃ a, u = Value.ref a := fun u hu => e2 u (hp.mem_iff.mp hu)
    obtain ⟨ep, he'⟩ := PyProof.Rows.sortedAll_at s.heap its out.toArray
    have hlen : (out.map backV).length ≤ sizeLine := by
      rw [List.length_map, hp.length_eq, ← rv.length]
      exact hz
    have hks := hD.kds
    have esort : sortD ds = out.map (kd s.heap) := by
      have h4 : SrtO.Srtd ltT (out.map (kd s.heap)) := SrtO.srtd_map h1
      have h5 : SrtO.Stb ltT (out.map (kd s.heap)) ds := by
        rw [← hks]
        exact SrtO.Stb.map swo_ltT (kd s.heap) h2
      exact (srt_uniq swo_ltT h4 h5).symm
    have hrep : Reps X.K (hide H S) (sortD ds) (out.map backV) := by
      rw [esort]
      refine reps_of fun u hu => ?_
      rw [e1] at hd
      exact reps_at hd hks u (hp.mem_iff.mp hu)
    exact ⟨.ref _, upd H (s.heap.objs.size + 1) (.lst (out.map backV)), I.laid (t' := s.toks) (fun _ _ => PyProof.Rows.sortedAll_old) (Nat.le_succ _) ⟨hlen, _, ep, vals_back h3, he'⟩, rfl, q _ _ (post_lst hS hrep (I.hok.fresh (Nat.le_succ _)))⟩
theorem ints_sort {ns ms : List Int} (h1 : ms.Perm ns) (h2 : ms.Pairwise (· ≤ ·)) : sortD (ns.map .int) = ms.map .int := by
  refine (srt_uniq swo_ltT ?_ ?_).symm
  · refine List.pairwise_map.mpr (h2.imp fun {a b} h => ?_)
    rw [ltT_no]
    simp [cmpT]
    rw [Int.compare_eq_lt]
    omega
  · refine ⟨h1.map _, fun x => ?_⟩
    rw [List.filter_map, List.filter_map]
    have e : ∀ l : List Int, ∃ P : Int → Bool, l.filter (SrtO.eqv ltT x ∘ D.int) = l.filter P ∧ ∀ a b, P a = true → P b = true → a = b := by
      intro l
      refine ⟨SrtO.eqv ltT x ∘ D.int, rfl, fun a b ha hb => ?_⟩
      have := SrtO.eqv_trans swo_ltT (x := x) (u := .int a) (v := .int b) ha
      have hb' : SrtO.eqv ltT x (.int b) = true := hb
      rw [hb'] at this
      obtain ⟨c1, c2⟩ := SrtO.eqv_iff.mp this.symm
      rw [ltT_no] at c1 c2
      simp [cmpT] at c1 c2
      rw [Int.compare_eq_lt] at c1 c2
      omega
    congr 1
    obtain ⟨P, e1, u⟩ := e ms
    rw [e1]
    have e2 : ns.filter (SrtO.eqv ltT x ∘ D.int) = ns.filter (SrtO.eqv ltT x ∘ D.int) := rfl
    have hf := h1.filter (SrtO.eqv ltT x ∘ D.int)
    rw [e1] at hf
    -- all alike
    have al : ∀ (l m : List Int), l.Perm m → (∀ a ∈ l, ∀ b ∈ l, a = b) → l = m := by
      intro l
      induction l with
      | nil => intro m hm _; exact (List.Perm.eq_nil hm.symm).symm
      | cons a l ih =>
        intro m hm hl
        cases m with
        | nil => exact absurd hm.length_eq (by simp)
        | cons b m =>
          have : a = b := hl a List.mem_cons_self b (hm.mem_iff.mpr List.mem_cons_self)
          subst this
          congr 1
          exact ih m hm.cons_inv fun x hx y hy => hl x (List.mem_cons_of_mem _ hx) y (List.mem_cons_of_mem _ hy)
    exact al _ _ hf fun a ha b hb => u a b ((List.mem_filter.mp ha).2) ((List.mem_filter.mp hb).2)
end
end Dl

/-! DlBf: built-ins over data. -/
namespace Dl
open PySem PySem.Spec PyProof.Rows L2
section
variable {X : Cx}
/-! ### built-ins -/
def bfV : BF → Value
  | .len => .builtin "len" | .abs => .builtin "abs" | .int_ => .type "int" | .list_ => .type "list" | .tuple_ => .type "tuple" | .any_ => .builtin "any" | .all_ => .builtin "all" | .sum_ => .builtin "sum"
  | .sorted_ => .builtin "sorted" | .max2 => .builtin "max" | .min2 => .builtin "min" | .bool_ => .type "bool"
def rBf (K : PySem.W.Frag) (f : BF) : List V → Hp → VK → Prop := fun vs H Q => ∃ S ds, SOk H S ∧ Reps K (hide H S) ds vs ∧ bltD f ds (fun d => ∀ v H', Post K H S true d v H' → Q v H')
theorem reps1 {K : PySem.W.Frag} {H : Hp} {d : D} {vs : List V} (h : Reps K H [d] vs) : ∃ v, vs = [v] ∧ Rep K H d v := by
  unfold Reps at h
  obtain ⟨v, r, rfl, h2, h3⟩ := h
  unfold Reps at h3
  subst h3
  exact ⟨v, rfl, h2⟩
theorem reps2 {K : PySem.W.Frag} {H : Hp} {d e : D} {vs : List V} (h : Reps K H [d, e] vs) : ∃ v w, vs = [v, w] ∧ Rep K H d v ∧ Rep K H e w := by
  unfold Reps at h
  obtain ⟨v, r, rfl, h2, h3⟩ := h
  obtain ⟨w, rfl, h4⟩ := reps1 h3
  exact ⟨v, w, rfl, h2, h4⟩
theorem bools_rep {K : PySem.W.Frag} {H : Hp} : ∀ {ds : List D} {vs : List V} {bs : List Bool}, Reps K H ds vs → bools ds = some bs → vs = bs.map V.bl
  | [], vs, bs, h, e => by
    unfold Reps at h; subst h
    unfold bools at e; cases e; rfl
  | d :: ds, vs, bs, h, e => by
    unfold Reps at h
    obtain ⟨v, r, rfl, h2, h3⟩ := h
    cases d with
    | bl b =>
      unfold bools at e
      cases q : bools ds with
      | none => rw [q] at e; cases e
      | some cs =>
        rw [q] at e
        cases e
        cases rep_bl h2
        rw [bools_rep h3 q]
        rfl
    | _ => unfold bools at e; cases e
theorem ints_rep {K : PySem.W.Frag} {H : Hp} : ∀ {ds : List D} {vs : List V} {bs : List Int}, Reps K H ds vs → intsD ds = some bs → vs = bs.map V.int
  | [], vs, bs, h, e => by
    unfold Reps at h; subst h
    unfold intsD at e; cases e; rfl
  | d :: ds, vs, bs, h, e => by
    unfold Reps at h
    obtain ⟨v, r, rfl, h2, h3⟩ := h
    cases d with
    | int b =>
      unfold intsD at e
      cases q : intsD ds with
      | none => rw [q] at e; cases e
      | some cs =>
        rw [q] at e
        cases e
        cases rep_int h2
        rw [ints_rep h3 q]
        rfl
    | _ => unfold intsD at e; cases e
theorem intsD_map : ∀ {ds : List D} {ns : List Int}, intsD ds = some ns → ds = ns.map .int
  | [], ns, e => by unfold intsD at e; cases e; rfl
  | d :: ds, ns, e => by
    cases d with
    | int b =>
      unfold intsD at e
      cases q : intsD ds with
      | none => rw [q] at e; cases e
      | some cs =>
        rw [q] at e
        cases e
        rw [intsD_map q]
        rfl
    | _ => unfold intsD at e; cases e
theorem call_bf (f : BF) (hc : X.calm = true) (hu : X.A.units + 66 < cLine) : CallR X (bfV f) (rBf X.K f) := by
  intro pins s σ H vs us Q I r h
  obtain ⟨S, ds, hS, hd, h⟩ := h
  unfold bltD at h
  split at h
  · obtain ⟨v, rfl, hv⟩ := reps1 hd
    obtain ⟨p, ys, rfl, hy, ry⟩ := rep_tup hv
    refine call_len pins s σ H _ us Q I r ⟨_, ys.length, rfl, .inr ⟨ys, Same.sqt hide_le hy, rfl⟩, ?_⟩
    have q := h (.int (ys.length : Nat)) H (by rw [ry.length]; exact post_int)
    exact q
  · obtain ⟨v, rfl, hv⟩ := reps1 hd
    obtain ⟨p, ys, rfl, hy, ry⟩ := rep_lst hv
    refine call_len pins s σ H _ us Q I r ⟨_, ys.length, rfl, .inl ⟨ys, Same.sql hide_le hy, rfl⟩, ?_⟩
    have q := h (.int (ys.length : Nat)) H (by rw [ry.length]; exact post_int)
    exact q
  · obtain ⟨v, rfl, hv⟩ := reps1 hd
    cases rep_int hv
    exact L2.call_abs pins s σ H _ us Q I r ⟨_, rfl, h _ _ post_int⟩
  · obtain ⟨v, rfl, hv⟩ := reps1 hd
    cases rep_int hv
    exact L2.call_int1 pins s σ H _ us Q I r (.inl ⟨_, rfl, h _ _ post_int⟩)
  · obtain ⟨v, rfl, hv⟩ := reps1 hd
    obtain ⟨p, ys, rfl, hy, ry⟩ := rep_tup hv
    exact call_list_of pins s σ H _ us Q I r ⟨p, ys, rfl, .inr (Same.sqt hide_le hy), fun l hl => h _ _ (post_lst hS ry hl)⟩
  · obtain ⟨v, rfl, hv⟩ := reps1 hd
    obtain ⟨p, ys, rfl, hy, ry⟩ := rep_lst hv
    exact call_list_of pins s σ H _ us Q I r ⟨p, ys, rfl, .inl (Same.sql hide_le hy), fun l hl => h _ _ (post_lst hS ry hl)⟩
  · obtain ⟨v, rfl, hv⟩ := reps1 hd
    obtain ⟨p, ys, rfl, hy, ry⟩ := rep_tup hv
    exact call_tuple_of pins s σ H _ us Q I r ⟨p, ys, rfl, .inr ⟨Same.sqt hide_le hy, h _ _ (post_old hv fun _ => rfl)⟩⟩
  · obtain ⟨v, rfl, hv⟩ := reps1 hd
    obtain ⟨p, ys, rfl, hy, ry⟩ := rep_lst hv
    exact call_tuple_of pins s σ H _ us Q I r ⟨p, ys, rfl, .inl ⟨Same.sql hide_le hy, fun l hl => h _ _ (post_tup hS ry hl)⟩⟩
  · obtain ⟨v, rfl, hv⟩ := reps1 hd
    obtain ⟨p, ys, rfl, hy, ry⟩ := rep_lst hv
    obtain ⟨bs, e, h⟩ := h
    have e' := bools_rep ry e
    subst e'
    exact cr_any hc pins s σ H _ us Q I r ⟨p, bs, rfl, Same.sql hide_le hy, h _ _ post_bl⟩
  · obtain ⟨v, rfl, hv⟩ := reps1 hd
    obtain ⟨p, ys, rfl, hy, ry⟩ := rep_lst hv
    obtain ⟨bs, e, h⟩ := h
    have e' := bools_rep ry e
    subst e'
    exact cr_all hc pins s σ H _ us Q I r ⟨p, bs, rfl, Same.sql hide_le hy, h _ _ post_bl⟩
  · obtain ⟨v, rfl, hv⟩ := reps1 hd
    obtain ⟨p, ys, rfl, hy, ry⟩ := rep_lst hv
    obtain ⟨bs, e, h⟩ := h
    have e' := ints_rep ry e
    subst e'
    exact cr_sum hc pins s σ H _ us Q I r ⟨p, bs, rfl, Same.sql hide_le hy, h _ _ post_int⟩
  · obtain ⟨v, w, rfl, hv, hw⟩ := reps2 hd
    cases rep_int hv; cases rep_int hw
    exact call_max2 hc pins s σ H _ us Q I r ⟨_, _, rfl, h _ _ post_int⟩
  · obtain ⟨v, w, rfl, hv, hw⟩ := reps2 hd
    cases rep_int hv; cases rep_int hw
    exact call_min2 hc pins s σ H _ us Q I r ⟨_, _, rfl, h _ _ post_int⟩
  · obtain ⟨v, rfl, hv⟩ := reps1 hd
    obtain ⟨p, ys, rfl, hy, ry⟩ := rep_lst hv
    obtain ⟨ok, h⟩ := h
    rcases ok with ⟨ns, e⟩ | ok
    · have e' := ints_rep ry e
      subst e'
      refine cr_sortedI pins s σ H _ us Q I r ⟨p, ns, rfl, Same.sql hide_le hy, fun ms q h1 h2 hn => h _ _ ?_⟩
      rw [intsD_map e, ints_sort h1 h2]
      exact post_lst hS (Reps.ints ms) hn
    · exact call_sortedT I r hu hS (Same.sql hide_le hy) ry ok h
  · exact h.elim
/-- the type of a value -/
theorem tyx_of {K : PySem.W.Frag} {H : Hp} {d : D} {v : V} (h : Rep K H d v) : match d with
    | .non => TyX K H v (.type "NoneType") | .bl _ => TyX K H v (.type "bool") | .int _ => TyX K H v (.type "int") | .str _ => TyX K H v (.type "str")
    | .tup _ => TyX K H v (.type "tuple") | .lst _ => TyX K H v (.type "list") | _ => False := by
  cases d with
  | non => cases rep_non h; exact .base .non
  | bl b => cases rep_bl h; exact .base (.bl b)
  | int b => cases rep_int h; exact .base (.int b)
  | str b => cases rep_str h; exact .base (.str b)
  | tup ds =>
    obtain ⟨a, vs, rfl, hs, _⟩ := rep_tup h
    rcases hs with (hs | ⟨o, hs⟩) | ⟨o, its, n, hk, hc, _⟩
    · exact .base (.tup hs)
    · exact .fTuple hs
    · exact .kTuple hk hc
  | lst ds =>
    obtain ⟨a, vs, rfl, hs, _⟩ := rep_lst h
    rcases hs with (hs | ⟨o, hs⟩) | ⟨o, its, n, hk, hc, _⟩
    · exact .base (.lst hs)
    · exact .base (.frz hs)
    · exact .kList hk hc
  | dict _ _ => unfold Rep at h; exact h.elim
  | obj _ _ _ => unfold Rep at h; exact h.elim
def tyS : TY → Option String
  | .tup => some "tuple" | .lst => some "list" | .int => some "int" | .bl => some "bool" | .str => some "str" | .cls _ => none
theorem isi_D {K : PySem.W.Frag} {H : Hp} {d : D} {v : V} {t : TY} {T : String} (h : Rep K H d v) (ht : tyS t = some T) : ∃ u, TyX K H v u ∧ PySem.W.kitOne K u (.type T) = some (isiD t d) := by
  have q := tyx_of h
  cases t with
  | cls c => cases ht
  | _ =>
    cases ht
    cases d with
    | dict _ _ => exact q.elim
    | obj _ _ _ => exact q.elim
    | _ => first | exact ⟨_, q, kit_ty (r := true) (by decide +kernel)⟩ | exact ⟨_, q, kit_ty (r := false) (by decide +kernel)⟩
end
end Dl

/-! DlTgt: targets; what is walked. -/
namespace Dl
open PySem PySem.Spec PyProof.Rows L2

/-- names that stand for built-ins alone -/
def freeNames : List Str := ["len", "abs", "int", "list", "tuple", "any", "all", "sum", "max", "min", "bool", "str", "isinstance", "range", "sorted", "enumerate", "zip", "set", "dict", "super", "reversed"]
structure Gd (X : Cx) (N : List Str) (sc : Scope) (cm : Bool) (W : WX) (k : Nat) : Prop where
  nn : X.N = N
  nd : List.Nodup N
  sc : X.env.scope = sc
  tk : Takes X W
  cm : cm = true → X.calm = true ∧ Room k X.A
  hu : X.A.units + 66 < cLine
  fr : ∀ x ∈ freeNames, X.mg x = none

/-! ### targets -/
/-- what a target's store leaves -/
structure AsR (K : PySem.W.Frag) (H : Hp) (S : List Addr) (sl : List Nat) (σ : L2.St) (ρ : DEnv) (σ' : L2.St) (ρ' : DEnv) : Prop where
  len : σ'.length = σ.length
  lenr : ρ'.length = ρ.length
  out : ∀ i, i ∉ sl → σ'[i]? = σ[i]? ∧ ρ'[i]? = ρ[i]?
  inn : ∀ i d, i ∈ sl → ρ'[i]? = some (some d) → ∃ v, σ'[i]? = some (some v) ∧ Rep K (hide H S) d v
def gD (K : PySem.W.Frag) (t : CT) : TG := fun v σ H Q => ∃ S d ρ ρ', Rep K (hide H S) d v ∧ asgT t d ρ = some ρ' ∧ σ.length = ρ.length ∧ ∀ σ', AsR K H S t.slots σ ρ σ' ρ' → Q σ' H
def gDs (K : PySem.W.Frag) (ts : List CT) : TGs := fun vs σ H Q => ∃ S ds ρ ρ', Reps K (hide H S) ds vs ∧ asgTs ts ds ρ = some ρ' ∧ σ.length = ρ.length ∧ ∀ σ', AsR K H S (CT.slotsL ts) σ ρ σ' ρ' → Q σ' H
theorem AsR.refl {K : PySem.W.Frag} {H : Hp} {S : List Addr} {σ : L2.St} {ρ : DEnv} : AsR K H S [] σ ρ σ ρ := ⟨rfl, rfl, fun _ _ => ⟨rfl, rfl⟩, fun _ _ h => by cases h⟩
theorem AsR.trans {K : PySem.W.Frag} {H : Hp} {S : List Addr} {s1 s2 : List Nat} {σ σ1 σ2 : L2.St} {ρ ρ1 ρ2 : DEnv} (a : AsR K H S s1 σ ρ σ1 ρ1) (b : AsR K H S s2 σ1 ρ1 σ2 ρ2) : AsR K H S (s1 ++ s2) σ ρ σ2 ρ2 where
  len := b.len.trans a.len
  lenr := b.lenr.trans a.lenr
  out := fun i hi => by
    have h1 : i ∉ s1 := fun h => hi (List.mem_append_left _ h)
    have h2 : i ∉ s2 := fun h => hi (List.mem_append_right _ h)
    exact ⟨(b.out i h2).1.trans (a.out i h1).1, (b.out i h2).2.trans (a.out i h1).2⟩
  inn := fun i d hi e => by
    by_cases h2 : i ∈ s2
    · exact b.inn i d h2 e
    · have h1 : i ∈ s1 := (List.mem_append.mp hi).elim id fun z => absurd z h2
      obtain ⟨q1, q2⟩ := b.out i h2
      rw [q2] at e
      obtain ⟨v, e1, e2⟩ := a.inn i d h1 e
      exact ⟨v, q1.trans e1, e2⟩
theorem AsR.one {K : PySem.W.Frag} {H : Hp} {S : List Addr} {σ : L2.St} {ρ : DEnv} {i : Nat} {d : D} {v : V} (hl : σ.length = ρ.length) (r : Rep K (hide H S) d v) : AsR K H S [i] σ ρ (σ.set i (some v)) (ρ.set i (some d)) where
  len := by simp
  lenr := by simp
  out := fun j hj => by
    have hne : i ≠ j := fun e => hj (by simp [e])
    exact ⟨List.getElem?_set_ne hne, List.getElem?_set_ne hne⟩
  inn := fun j d' hj e => by
    have e' : j = i := by simpa using hj
    subst e'
    by_cases hi : j < ρ.length
    · rw [List.getElem?_set_self hi] at e
      cases e
      exact ⟨v, List.getElem?_set_self (by omega), r⟩
    · rw [List.getElem?_eq_none (by simpa using hi)] at e
      cases e
def nsB : Expr → Bool
  | .Starred .. => false
  | _ => true
theorem assignEach_map : ∀ (es : List Expr) (env : Env), (∀ e ∈ es, nsB e = true) → assignEach es env = es.map fun e => (false, assign e env)
  | [], env, _ => by simp [assignEach]
  | e :: es, env, h => by
    have h1 := h e (List.mem_cons_self)
    have ih := assignEach_map es env fun x hx => h x (List.mem_cons_of_mem _ hx)
    cases e <;> first | (cases h1; done) | (simp [assignEach, ih])
theorem okT_nostar {N : List Str} {sc : Scope} {fnB : Str → Bool} {t : CT} {e : Expr} (h : okT N sc fnB t e = true) : nsB e = true := by
  cases e with
  | Starred v p => cases t <;> simp [okT] at h
  | _ => rfl
theorem okTs_nostar {N : List Str} {sc : Scope} {fnB : Str → Bool} : ∀ {ts : List CT} {es : List Expr}, okTs N sc fnB ts es = true → ∀ e ∈ es, nsB e = true
  | [], es, h => by
    unfold okTs at h
    intro e he
    rw [List.isEmpty_iff] at h
    subst h
    cases he
  | t :: ts, [], h => by unfold okTs at h; cases h
  | t :: ts, e :: es, h => by
    unfold okTs at h
    rw [Bool.and_eq_true] at h
    intro x hx
    rcases List.mem_cons.mp hx with rfl | hx
    · exact okT_nostar h.1
    · exact okTs_nostar h.2 x hx
theorem asgTs_len {ts : List CT} : ∀ {ds : List D} {ρ ρ' : DEnv}, asgTs ts ds ρ = some ρ' → ts.length = ds.length := by
  induction ts with
  | nil => intro ds ρ ρ' h; cases ds with
    | nil => rfl
    | cons d ds => simp [asgTs] at h
  | cons t ts ih => intro ds ρ ρ' h; cases ds with
    | nil => simp [asgTs] at h
    | cons d ds =>
      unfold asgTs at h
      cases q : asgT t d ρ with
      | none => rw [q] at h; cases h
      | some ρ1 =>
        rw [q] at h
        simp [ih (show asgTs ts ds ρ1 = some ρ' from h)]
theorem okTs_len {N : List Str} {sc : Scope} {fnB : Str → Bool} : ∀ {ts : List CT} {es : List Expr}, okTs N sc fnB ts es = true → ts.length = es.length
  | [], es, h => by unfold okTs at h; rw [List.isEmpty_iff] at h; subst h; rfl
  | t :: ts, [], h => by unfold okTs at h; cases h
  | t :: ts, e :: es, h => by
    unfold okTs at h
    rw [Bool.and_eq_true] at h
    simp [okTs_len h.2]
theorem lookB {sc : Scope} {x : Str} (h : locB sc x = true) : sc.names.lookup x = some .local ∨ sc.names.lookup x = some .cell := by
  unfold locB at h
  split at h <;> first | (left; assumption) | (right; assumption) | cases h
theorem lookV {sc : Scope} {x : Str} (h : visB sc x = true) : sc.names.lookup x = some .local ∨ sc.names.lookup x = some .cell ∨ sc.names.lookup x = some .free := by
  unfold visB at h
  split at h <;> first | (left; assumption) | (right; left; assumption) | (right; right; assumption) | cases h
mutual
theorem pg_D {X : Cx} {N : List Str} {sc : Scope} {fnB : Str → Bool} (hN : X.N = N) (nd : N.Nodup) (hs : X.env.scope = sc) (hc : X.calm = true) (hf : ∀ x, locB sc x = true → fnB x = true → X.fn x = true ∨ X.env.scope.names.lookup x = some .local) :
    ∀ (t : CT) (e : Expr), okT N sc fnB t e = true → PG X e (gD X.K t)
  | .nm i, e, h => by
    unfold okT at h
    split at h
    · rename_i x p
      rw [Bool.and_eq_true, Bool.and_eq_true, decide_eq_true_eq] at h
      have q := pg_name (X := X) (i := i) (x := x) (pos := p) (by rw [hN]; exact nd) (by rw [hN]; exact h.1.1) (by unfold L2.Loc; rw [hs]; exact lookB h.1.2) (hf x h.1.2 h.2)
      refine ⟨fun pins s σ H v u Q I r hw => q.run pins s σ H v u Q I r ?_⟩
      obtain ⟨S, d, ρ, ρ', hr, ha, hl, hq⟩ := hw
      unfold asgT at ha
      cases ha
      exact hq _ (AsR.one hl hr)
    · cases h
  | .tp ts, e, h => by
    unfold okT at h
    split at h
    · rename_i es k p
      have ih := pgs_D hN nd hs hc hf ts es h
      have en := assignEach_map es X.env (okTs_nostar h)
      have q := pg_tup (X := X) (es := es) (k := k) (pos := p) (n := es.length) hc ih (by rw [en]; simp) (by rw [en]; simp [List.findIdx?_map, List.findIdx?_eq_none_iff])
      refine ⟨fun pins s σ H v u Q I r hw => q.run pins s σ H v u Q I r ?_⟩
      obtain ⟨S, d, ρ, ρ', hr, ha, hl, hq⟩ := hw
      cases d with
      | tup ds =>
        unfold asgT at ha
        obtain ⟨a, vs, rfl, hx, hrs⟩ := rep_tup hr
        refine ⟨a, vs, rfl, Same.sqt hide_le hx, ?_, S, ds, ρ, ρ', hrs, ha, hl, fun σ' h' => hq σ' h'⟩
        rw [← hrs.length, ← asgTs_len ha, okTs_len h]
      | _ => unfold asgT at ha; cases ha
    · cases h
theorem pgs_D {X : Cx} {N : List Str} {sc : Scope} {fnB : Str → Bool} (hN : X.N = N) (nd : N.Nodup) (hs : X.env.scope = sc) (hc : X.calm = true) (hf : ∀ x, locB sc x = true → fnB x = true → X.fn x = true ∨ X.env.scope.names.lookup x = some .local) :
    ∀ (ts : List CT) (es : List Expr), okTs N sc fnB ts es = true → PGs X es (gDs X.K ts)
  | [], es, h => by
    unfold okTs at h
    rw [List.isEmpty_iff] at h
    subst h
    refine ⟨fun pins s σ H vs us Q I r hw => pgs_nil.run pins s σ H vs us Q I r ?_⟩
    obtain ⟨S, ds, ρ, ρ', hr, ha, hl, hq⟩ := hw
    cases ds with
    | nil =>
      unfold asgTs at ha
      cases ha
      unfold Reps at hr
      exact ⟨hr, hq _ AsR.refl⟩
    | cons d ds => simp [asgTs] at ha
  | t :: ts, [], h => by unfold okTs at h; cases h
  | t :: ts, e :: es, h => by
    have hns := okTs_nostar h
    unfold okTs at h
    rw [Bool.and_eq_true] at h
    have i1 := pg_D hN nd hs hc hf t e h.1
    have i2 := pgs_D hN nd hs hc hf ts es h.2
    have q := pgs_cons i1 i2 (by rw [assignEach_map _ _ hns, assignEach_map _ _ fun x hx => hns x (List.mem_cons_of_mem _ hx)]; simp)
    refine ⟨fun pins s σ H vs us Q I r hw => q.run pins s σ H vs us Q I r ?_⟩
    obtain ⟨S, ds, ρ, ρ', hr, ha, hl, hq⟩ := hw
    cases ds with
    | nil => simp [asgTs] at ha
    | cons d ds =>
      unfold asgTs at ha
      cases z : asgT t d ρ with
      | none => rw [z] at ha; cases ha
      | some ρ1 =>
        rw [z] at ha
        unfold Reps at hr
        obtain ⟨v, r', rfl, hr1, hr2⟩ := hr
        refine ⟨v, r', rfl, S, d, ρ, ρ1, hr1, z, hl, fun σ1 a1 => ⟨S, ds, ρ1, ρ', hr2, ha, by rw [a1.len, a1.lenr]; exact hl, fun σ2 a2 => hq σ2 ?_⟩⟩
        exact a1.trans a2
end

/-! ### what is walked -/
/-- from any heap that has all of H1's visible things: the items, one by one -/
structure DrawsD (K : PySem.W.Frag) (Vw : Hp) (J : It) (ds : List D) : Prop where
  go : ∀ (i : Nat) (H : Hp), Same Vw H → i < ds.length → J.go i H
  yld : ∀ (i : Nat) (H : Hp) (x : V) (H' : Hp), Same Vw H → J.yld i H x H' → H' = H ∧ ∀ d, ds[i]? = some d → Rep K Vw d x
  stop : ∀ (i : Nat) (H : Hp), Same Vw H → ds.length ≤ i → J.stop i H
def iW (K : PySem.W.Frag) (mg : Str → Option Value) (W : WX) (hid : List Nat) (F : DEnv → (D → Prop) → (Xn → Prop) → Prop) : TI := fun σ H R =>
  ∃ S ρ, SOk H S ∧ EV K S hid H σ ρ ∧ F ρ (fun d => ∃ ds, items d = some ds ∧ ∀ J H', Same H H' → DrawsD K (hide H' S) J ds → R J H') (fun x => ∀ cls dd H', Same H H' → XRep K mg x cls dd → W cls dd σ H')
theorem draws_tup {K : PySem.W.Frag} {Vw : Hp} {a : Addr} {ds : List D} {vs : List L2.V} (hs : SqT K Vw a vs) (hr : Reps K Vw ds vs) : DrawsD K Vw (Itt K a) ds where
  go := fun i H sm hi => by
    obtain ⟨v, e, _⟩ := hr.get (List.getElem?_eq_getElem hi)
    exact ⟨vs, v, Same.sqt sm hs, e⟩
  yld := fun i H x H' sm y => by
    refine ⟨y.1, fun d e => ?_⟩
    obtain ⟨v, e1, e2⟩ := hr.get e
    have e3 := y.2 vs (Same.sqt sm hs)
    rw [e1] at e3
    cases e3
    exact e2
  stop := fun i H sm hi => ⟨vs, Same.sqt sm hs, by rw [← hr.length]; exact hi⟩
theorem draws_lst {K : PySem.W.Frag} {Vw : Hp} {a : Addr} {ds : List D} {vs : List L2.V} (hs : SqL K Vw a vs) (hr : Reps K Vw ds vs) : DrawsD K Vw (Itl K a) ds where
  go := fun i H sm hi => by
    obtain ⟨v, e, _⟩ := hr.get (List.getElem?_eq_getElem hi)
    exact ⟨vs, v, Same.sql sm hs, e⟩
  yld := fun i H x H' sm y => by
    refine ⟨y.1, fun d e => ?_⟩
    obtain ⟨v, e1, e2⟩ := hr.get e
    have e3 := y.2 vs (Same.sql sm hs)
    rw [e1] at e3
    cases e3
    exact e2
  stop := fun i H sm hi => ⟨vs, Same.sql sm hs, by rw [← hr.length]; exact hi⟩
theorem rangeD_len (lo : Int) (n : Nat) : (rangeD lo n).length = n := by simp [rangeD]
theorem rangeD_get {lo : Int} {n i : Nat} {d : D} (h : (rangeD lo n)[i]? = some d) : i < n ∧ d = .int (lo + (i : Int)) := by
  unfold rangeD at h
  rw [List.getElem?_map] at h
  by_cases hi : i < n
  · rw [List.getElem?_range hi] at h
    cases h
    exact ⟨hi, rfl⟩
  · rw [List.getElem?_eq_none (by simpa using hi)] at h
    cases h
theorem draws_rng {K : PySem.W.Frag} {Vw : Hp} {lo : Int} {n : Nat} : DrawsD K Vw (Itr lo n) (rangeD lo n) where
  go := fun i H sm hi => by rw [rangeD_len] at hi; exact hi
  yld := fun i H x H' sm y => by
    refine ⟨y.1, fun d e => ?_⟩
    obtain ⟨_, rfl⟩ := rangeD_get e
    rw [y.2]
    exact rep_int'
  stop := fun i H sm hi => by rw [rangeD_len] at hi; exact hi
/-- a list or a tuple, walked -/
theorem pi_W {X : Cx} {tg l : Expr} {mg : Str → Option Value} {W : WX} {hid : List Nat} {e : CE} (hl : PE X l (tE X.K mg W hid e)) : PI X tg l (iW X.K mg W hid (wpE e)) := by
  refine ⟨fun pins s σ H R I h => ?_⟩
  obtain ⟨S, ρ, hS, hE, h⟩ := h
  refine thn (hl.run pins s σ H (fun v H' => ∃ d ds, Same H H' ∧ Rep X.K (hide H' S) d v ∧ items d = some ds ∧ ∀ J H', Same H H' → DrawsD X.K (hide H' S) J ds → R J H') I
    ⟨S, ρ, hS, hE, wpE_mono e h (fun d ⟨ds, e1, q⟩ v H' p => ⟨d, ds, p.same, p.rep, e1, q⟩) (fun _ q => q)⟩) fun v s1 ⟨x, H1, I1, r1, d, ds, sm, hr, hi, q⟩ => ?_
  cases d with
  | tup ds' =>
    cases hi
    obtain ⟨a, vs, rfl, hs, hrs⟩ := rep_tup hr
    cases r1
    obtain ⟨its, rv, p, hz⟩ := I1.tuple (Same.sqt hide_le hs)
    refine wpAny_pyIter_tuple (show s1.heap.IsTuple a its.toArray from p) ?_
    refine ⟨s1.heap.objs.size, [s1.heap.objs.size], _, _, H1, rfl, I1.kept (t' := s1.toks) fun b o e => Heap.get?_push_of_some _ e, turn_tuple a _, ⟨_, Heap.get?_push_size _ rfl, rfl, rfl⟩, fun b hb => ?_, q _ _ sm (draws_tup hs hrs)⟩
    have e : b = s1.heap.objs.size := by simpa using hb
    subst e
    exact I1.fpOk (Nat.le_refl _) (I1.hok.fresh (Nat.le_refl _))
  | lst ds' =>
    cases hi
    obtain ⟨a, vs, rfl, hs, hrs⟩ := rep_lst hr
    cases r1
    obtain ⟨its, rv, p, hz⟩ := I1.list (Same.sql hide_le hs)
    refine wpAny_pyIter_list p.isList ?_
    refine ⟨s1.heap.objs.size, [s1.heap.objs.size], _, _, H1, rfl, I1.kept (t' := s1.toks) fun b o e => Heap.get?_push_of_some _ e, turn_list a _, ⟨_, Heap.get?_push_size _ rfl, rfl, rfl⟩, fun b hb => ?_, q _ _ sm (draws_lst hs hrs)⟩
    have e : b = s1.heap.objs.size := by simpa using hb
    subst e
    exact I1.fpOk (Nat.le_refl _) (I1.hok.fresh (Nat.le_refl _))
  | _ => cases hi
end Dl

/-! DlSoundE: an expression's written code does what its core term says. -/
namespace Dl
open PySem PySem.Spec PyProof.Rows L2
theorem PE.imp {X : Cx} {e : Expr} {t t' : TE} (h : PE X e t) (i : ∀ σ H Q, t' σ H Q → t σ H Q) : PE X e t' := ⟨fun pins s σ H Q I w => h.run pins s σ H Q I (i _ _ _ w)⟩
theorem PT.imp {X : Cx} {e : Expr} {t t' : TT} (h : PT X e t) (i : ∀ σ H Q, t' σ H Q → t σ H Q) : PT X e t' := ⟨fun pins s σ H Q I w => h.run pins s σ H Q I (i _ _ _ w)⟩
theorem PW.imp {X : Cx} {e : Expr} {t t' : TT} (h : PW X e t) (i : ∀ σ H Q, t' σ H Q → t σ H Q) : PW X e t' := ⟨fun wh pins s σ H Q I w => h.run wh pins s σ H Q I (i _ _ _ w)⟩
theorem PA.imp {X : Cx} {e : List Expr} {t t' : TA} (h : PA X e t) (i : ∀ σ H Q, t' σ H Q → t σ H Q) : PA X e t' := ⟨fun pos pins s σ H Q I w => h.run pos pins s σ H Q I (i _ _ _ w)⟩
section
variable {K : PySem.W.Frag} {mg : Str → Option Value} {W : WX} {hid : List Nat} {σ : L2.St} {H H1 : Hp} {S : List Addr} {ρ : DEnv}
theorem Post.trans {fr : Bool} {d : D} {v : V} {H' : Hp} (sm : Same H H1) (p : Post K H1 S fr d v H') : Post K H S fr d v H' := ⟨sm.trans p.same, p.rep, fun e => by
  have q := p.top e
  cases d with
  | lst ds =>
    obtain ⟨a, vs, e1, e2, e3, e4⟩ := q
    exact ⟨a, vs, e1, sm.free e2, e3, e4⟩
  | dict _ _ => exact q.elim
  | obj _ _ _ => exact q.elim
  | _ => trivial⟩
theorem tE_in {ce : CE} {Q : VK} {Qd : D → Prop} {Ed : Xn → Prop} (hS : SOk H S) (hE : EV K S hid H σ ρ) (h : wpE ce ρ Qd Ed)
    (hq : ∀ d v H', Qd d → Post K H S ce.fresh d v H' → Q v H') (hx : ∀ x cls dd H', Ed x → Same H H' → XRep K mg x cls dd → W cls dd σ H') : tE K mg W hid ce σ H Q :=
  ⟨S, ρ, hS, hE, wpE_mono ce h (fun d q v H' p => hq d v H' q p) (fun x e cls dd H' sm xr => hx x cls dd H' e sm xr)⟩
theorem tL_in {es : List CE} {Q : List V → Hp → Prop} {Qd : List D → Prop} {Ed : Xn → Prop} (hS : SOk H S) (hE : EV K S hid H σ ρ) (h : wpEs es ρ Qd Ed)
    (hq : ∀ ds vs H', Qd ds → Same H H' → Reps K (hide H' S) ds vs → Q vs H') (hx : ∀ x cls dd H', Ed x → Same H H' → XRep K mg x cls dd → W cls dd σ H') : tL K mg W hid es σ H Q :=
  ⟨S, ρ, hS, hE, wpEs_mono es h (fun d q v H' sm r => hq d v H' q sm r) (fun x e cls dd H' sm xr => hx x cls dd H' e sm xr)⟩
theorem tT_in {ce : CE} {Q : Bool → Hp → Prop} {Qd : Bool → Prop} {Ed : Xn → Prop} (hS : SOk H S) (hE : EV K S hid H σ ρ) (h : wpT ce ρ Qd Ed)
    (hq : ∀ k H', Qd k → Same H H' → Q k H') (hx : ∀ x cls dd H', Ed x → Same H H' → XRep K mg x cls dd → W cls dd σ H') : tTe K mg W hid ce σ H Q :=
  ⟨S, ρ, hS, hE, wpE_mono ce h (fun d ⟨k, e, q⟩ => ⟨k, e, fun H' sm => hq k H' q sm⟩) (fun x e cls dd H' sm xr => hx x cls dd H' e sm xr)⟩
/-- two expressions, an operation on their values -/
theorem bin_in {a b : CE} {F : D → D → (D → Prop) → Prop} {fr : Bool} {Q : VK} (hF : ∀ x y (Q Q' : D → Prop), F x y Q → (∀ d, Q d → Q' d) → F x y Q') (hS : SOk H S) (hE : EV K S hid H σ ρ)
    (h : wpE a ρ (fun x => wpE b ρ (fun y => F x y (fun d => ∀ v H', Post K H S fr d v H' → Q v H')) (fun x => ∀ cls dd H', Same H H' → XRep K mg x cls dd → W cls dd σ H')) (fun x => ∀ cls dd H', Same H H' → XRep K mg x cls dd → W cls dd σ H')) :
    tOp (rD K F fr) (tE K mg W hid a) (tE K mg W hid b) σ H Q :=
  tE_in hS hE h (fun x v1 H1 q p1 => tE_in (hS.mono p1.same) (hE.mono p1.same) q (fun y v2 H2 q2 p2 => ⟨S, x, y, (hS.mono p1.same).mono p2.same, p1.rep.mono (Same.hide p2.same), p2.rep,
      hF _ _ _ _ q2 fun d k v H' p => k v H' (p.trans (p1.same.trans p2.same))⟩) fun x cls dd H' e sm xr => e cls dd H' (p1.same.trans sm) xr) fun x cls dd H' e sm xr => e cls dd H' sm xr
/-- the truth of a value -/
theorem tru_of {d : D} {v : V} {k : Bool} (h : Rep K H d v) (e : truD d = some k) : TruV K v H k := by
  cases d with
  | non => cases rep_non h; cases e; rfl
  | bl b => cases rep_bl h; cases e; rfl
  | int b => cases rep_int h; cases e; rfl
  | tup ds =>
    obtain ⟨a, vs, rfl, hs, hr⟩ := rep_tup h
    cases e
    refine .inr (.inl ⟨vs, hs, ?_⟩)
    have := hr.length
    cases ds <;> cases vs <;> simp_all
  | lst ds =>
    obtain ⟨a, vs, rfl, hs, hr⟩ := rep_lst h
    cases e
    refine .inl ⟨vs, hs, ?_⟩
    have := hr.length
    cases ds <;> cases vs <;> simp_all
  | _ => cases e
theorem TruV.hide {v : V} {k : Bool} (h : TruV K v (hide H S) k) : TruV K v H k := by
  cases v with
  | ref p =>
    rcases h with ⟨xs, hs, e⟩ | ⟨xs, hs, e⟩ | ⟨kvs, hs, e⟩
    · exact .inl ⟨xs, Same.sql hide_le hs, e⟩
    · exact .inr (.inl ⟨xs, Same.sqt hide_le hs, e⟩)
    · exact .inr (.inr ⟨kvs, hide_le _ _ hs, e⟩)
  | _ => exact h
end
/-- no star, no slice, nothing whose test is its own -/
def plB : Expr → Bool
  | .Starred .. => false
  | .Slice .. => false
  | _ => true
def ptB : Expr → Bool
  | .UnaryOp .Not _ _ => false
  | .BoolOp .. => false
  | .IfExp .. => false
  | .Compare .. => false
  | _ => true
theorem okE_pl {N : List Str} {sc : Scope} {cm : Bool} {hid : List Nat} {c : CE} {e : Expr} (h : okE N sc cm hid c e = true) : plB e = true := by
  cases e with
  | Starred v p => cases c <;> simp [okE] at h
  | Slice a b c' p => cases c <;> simp [okE] at h
  | _ => rfl
theorem star_of {e : Expr} (h : plB e = true) (es : List Expr) (env : Env) : starEach (e :: es) env = (false, eval e env) :: starEach es env := by
  cases e <;> first | (cases h; done) | rfl
theorem subs_of {e : Expr} (h : plB e = true) : PlainIx e := by
  intro o i
  cases e <;> first | (cases h; done) | rfl
theorem okEs_star {N : List Str} {sc : Scope} {cm : Bool} {hid : List Nat} {pos : Pos} {env : Env} : ∀ {cs : List CE} {es : List Expr}, okEs N sc cm hid cs es = true → (backTo pos (starEach es env)).any (·.1) = false
  | [], es, h => by
    unfold okEs at h
    rw [List.isEmpty_iff] at h
    subst h
    rfl
  | c :: cs, [], h => by unfold okEs at h; cases h
  | c :: cs, e :: es, h => by
    unfold okEs at h
    rw [Bool.and_eq_true] at h
    rw [star_of (okE_pl h.1)]
    have ih := okEs_star (pos := pos) (env := env) h.2
    simpa [backTo] using ih
theorem okEs_len {N : List Str} {sc : Scope} {cm : Bool} {hid : List Nat} : ∀ {cs : List CE} {es : List Expr}, okEs N sc cm hid cs es = true → cs.length = es.length
  | [], es, h => by
    unfold okEs at h
    rw [List.isEmpty_iff] at h
    subst h
    rfl
  | c :: cs, [], h => by unfold okEs at h; cases h
  | c :: cs, e :: es, h => by
    unfold okEs at h
    rw [Bool.and_eq_true] at h
    simp [okEs_len h.2]
theorem isT_of {e : Expr} (h : ptB e = true) (env : Env) : ∀ whole, isTrue e env whole = (do let v ← whole; standAt e.pos; holding [v] (truthy v)) := by
  intro whole
  cases e with
  | UnaryOp op a p => cases op <;> first | (cases h; done) | rfl
  | BoolOp => cases h
  | IfExp => cases h
  | Compare => cases h
  | _ => rfl
theorem gloB_ok {sc : Scope} {x : Str} (h : gloB sc x = true) : sc.names.lookup x = some .globalImplicit ∧ (x == ("__debug__" : Str)) = false ∧ x ≠ ("__name__" : Str) := by
  unfold gloB at h
  rw [Bool.and_eq_true, Bool.and_eq_true] at h
  obtain ⟨⟨h1, h2⟩, h3⟩ := h
  refine ⟨?_, by simpa using h2, by simpa using h3⟩
  split at h1
  · assumption
  · cases h1
/-- a test by its value -/
theorem pt_of {X : Cx} {e : Expr} {mg : Str → Option Value} {W : WX} {hid : List Nat} {ce : CE} (h : PE X e (tE X.K mg W hid ce)) (hp : ptB e = true) : PT X e (tTe X.K mg W hid ce) :=
  PT.imp (pt_truth h (isT_of hp X.env)) fun σ H Q ⟨S, ρ, hS, hE, hw⟩ => tE_in hS hE hw (fun d v H' ⟨k, e, q⟩ p => ⟨k, TruV.hide (tru_of p.rep e), q H' p.same⟩) fun x cls dd H' e sm xr => e cls dd H' sm xr
/-- a comparison as a test -/
theorem pt_cmpD {X : Cx} {op : CmpOp} {l r : Expr} {mg : Str → Option Value} {W : WX} {hid : List Nat} {a b : CE} {F : D → D → (D → Prop) → Prop} {fr : Bool} {ce : CE} {pos : Pos} (hF : ∀ x y (Q Q' : D → Prop), F x y Q → (∀ d, Q d → Q' d) → F x y Q')
    (ho : OpR X (compareOp op) (rD X.K F fr)) (ha : PE X l (tE X.K mg W hid a)) (hb : PE X r (tE X.K mg W hid b)) (hm : behindInMarks op r = false)
    (hB : ∀ x y (Q : D → Prop), F x y Q → F x y fun d => Q d ∧ ∃ k, d = .bl k)
    (hw : ∀ ρ Q E, wpE ce ρ Q E = wpE a ρ (fun x => wpE b ρ (fun y => F x y Q) E) E) : PT X (.Compare l [op] [r] pos) (tTe X.K mg W hid ce) := by
  refine PT.imp (pt_cmpR ho ha hb hm) fun σ H Q ⟨S, ρ, hS, hE, h⟩ => ?_
  show tOp (rD X.K F fr) _ _ σ H _
  unfold wpT at h
  rw [hw] at h
  refine bin_in (Q := fun x H' => ∃ k, x = .bl k ∧ Q k H') hF hS hE (wpE_mono a h (fun x q => wpE_mono b q (fun y q => hF _ _ _ _ (hB _ _ _ q) ?_) fun _ q => q) fun _ q => q)
  rintro d ⟨⟨k, e, q⟩, k', rfl⟩ v H' p
  cases e
  cases rep_bl p.rep
  exact ⟨_, rfl, q H' p.same⟩
theorem cmpD_bl (o : CO) (x y : D) (Q : D → Prop) (h : cmpD o x y Q) : cmpD o x y fun d => Q d ∧ ∃ k, d = .bl k := by
  unfold cmpD at h ⊢
  split at h
  · exact ⟨h.1, h.2.1, h.2.2, _, rfl⟩
  · exact ⟨h.1, h.2.1, h.2.2, _, rfl⟩
  all_goals
    split at h
    · exact ⟨h, _, rfl⟩
    · exact h.elim
theorem memD_bl (ng : Bool) (x y : D) (Q : D → Prop) (h : memD x y fun r => Q (.bl (ng != r))) : memD x y fun r => (fun d => Q d ∧ ∃ k, d = .bl k) (.bl (ng != r)) := memD_mono h fun r q => ⟨q, _, rfl⟩
theorem mark_of {op : CmpOp} {r : Expr} (h : ∀ es k p, r ≠ .Set es k p) : behindInMarks op r = false := by
  cases r <;> first | rfl | exact absurd rfl (h _ _ _)
theorem okE_noset {N : List Str} {sc : Scope} {cm : Bool} {hid : List Nat} {c : CE} {e : Expr} (h : okE N sc cm hid c e = true) : ∀ es k p, e ≠ .Set es k p := by
  intro es k p z
  subst z
  cases c <;> simp [okE] at h
end Dl

namespace Dl
open PySem PySem.Spec PyProof.Rows L2
/-- what is to be shown of a core term -/
def Snd (ce : CE) (N : List Str) (sc : Scope) (cm : Bool) (hid : List Nat) (e : Expr) (X : Cx) (W : WX) : Prop :=
  (okE N sc cm hid ce e = true → PE X e (tE X.K X.mg W hid ce) ∧ PT X e (tTe X.K X.mg W hid ce)) ∧ ∀ tg, PI X tg e (iW X.K X.mg W hid (wpE ce))
theorem Snd.of {ce : CE} {N : List Str} {sc : Scope} {cm : Bool} {hid : List Nat} {e : Expr} {X : Cx} {W : WX} (h : PE X e (tE X.K X.mg W hid ce)) (g : PT X e (tTe X.K X.mg W hid ce)) : Snd ce N sc cm hid e X W :=
  ⟨fun _ => ⟨h, g⟩, fun _ => pi_W h⟩
theorem Snd.of1 {ce : CE} {N : List Str} {sc : Scope} {cm : Bool} {hid : List Nat} {e : Expr} {X : Cx} {W : WX} (h : PE X e (tE X.K X.mg W hid ce)) (hp : ptB e = true) : Snd ce N sc cm hid e X W := Snd.of h (pt_of h hp)
theorem okI_of {N : List Str} {sc : Scope} {cm : Bool} {hid : List Nat} {c : CE} {e : Expr} (h : okE N sc cm hid c e = true) : okI N sc cm hid c e = true := by
  cases c <;> first | (simp only [okI]; exact h) | (simp [okE] at h; done)
theorem gl_of {X : Cx} {N : List Str} {sc : Scope} {cm : Bool} {W : WX} {k : Nat} (G : Gd X N sc cm W k) {x : Str} (h : gloB sc x = true) : Gl X x := by
  show X.env.scope.names.lookup x = some .globalImplicit
  rw [G.sc]
  exact (gloB_ok h).1
section
variable {K : PySem.W.Frag} {mg : Str → Option Value} {W : WX} {hid : List Nat} {σ : L2.St} {H : Hp}
/-- a reading of a plain list as one of the layer's argument lists -/
theorem tL_nil {Q : List V → Hp → Prop} (h : tL K mg W hid [] σ H Q) : tNil σ H Q := by
  obtain ⟨S, ρ, hS, hE, h⟩ := h
  unfold wpEs at h
  exact h _ _ (Same.refl _) Reps.nil
theorem tL_cons {e : CE} {es : List CE} {Q : List V → Hp → Prop} (h : tL K mg W hid (e :: es) σ H Q) : tCons (tE K mg W hid e) (tL K mg W hid es) σ H Q := by
  obtain ⟨S, ρ, hS, hE, h⟩ := h
  unfold wpEs at h
  exact tE_in hS hE h (fun d v H1 q p => tL_in (hS.mono p.same) (hE.mono p.same) q (fun ds vs H2 q2 sm r => q2 _ _ (p.same.trans sm) (.cons (p.rep.mono (Same.hide sm)) r)) fun x cls dd H' e sm xr => e cls dd H' (p.same.trans sm) xr)
    fun x cls dd H' e sm xr => e cls dd H' sm xr
end
/-! ### comprehensions -/
theorem wipe_len (σ : L2.St) : ∀ vs : List Nat, (wipe σ vs).length = σ.length
  | [] => rfl
  | v :: vs => by unfold wipe; rw [List.length_set, wipe_len σ vs]
theorem wipe_out {σ : L2.St} {i : Nat} : ∀ {vs : List Nat}, i ∉ vs → (wipe σ vs)[i]? = σ[i]?
  | [], _ => rfl
  | v :: vs, h => by
    unfold wipe
    have h1 : v ≠ i := fun e => h (by simp [e])
    rw [List.getElem?_set_ne h1]
    exact wipe_out fun z => h (List.mem_cons_of_mem _ z)
theorem wipe_in {σ : L2.St} {i : Nat} : ∀ {vs : List Nat}, i ∈ vs → i < σ.length → (wipe σ vs)[i]? = some none
  | [], h, _ => by cases h
  | v :: vs, h, hl => by
    unfold wipe
    by_cases e : v = i
    · subst e
      rw [List.getElem?_set_self (by rw [wipe_len]; exact hl)]
    · rw [List.getElem?_set_ne e]
      exact wipe_in ((List.mem_cons.mp h).elim (fun z => absurd z.symm e) id) hl
theorem wipe_eq {σ σ2 : L2.St} {vs : List Nat} (hl : σ2.length = σ.length) (h : ∀ i, i ∉ vs → σ2[i]? = σ[i]?) : wipe σ2 vs = wipe σ vs := by
  refine List.ext_getElem? fun i => ?_
  by_cases hi : i ∈ vs
  · by_cases hz : i < σ.length
    · rw [wipe_in hi hz, wipe_in hi (by omega)]
    · rw [List.getElem?_eq_none (by rw [wipe_len]; omega), List.getElem?_eq_none (by rw [wipe_len]; omega)]
  · rw [wipe_out hi, wipe_out hi, h i hi]
-- the slots of a target that stands
mutual
theorem okT_slots {N : List Str} {sc : Scope} {fnB : Str → Bool} : ∀ (t : CT) (e : Expr), okT N sc fnB t e = true → ∀ i ∈ t.slots, i < N.length
  | .nm j, e, h, i, hi => by
    unfold CT.slots at hi
    have e1 : i = j := by simpa using hi
    subst e1
    unfold okT at h
    split at h
    · rw [Bool.and_eq_true, Bool.and_eq_true, decide_eq_true_eq] at h
      exact (List.getElem?_eq_some_iff.mp h.1.1).1
    · cases h
  | .tp ts, e, h, i, hi => by
    unfold CT.slots at hi
    unfold okT at h
    split at h
    · exact okTs_slots ts _ h i hi
    · cases h
theorem okTs_slots {N : List Str} {sc : Scope} {fnB : Str → Bool} : ∀ (ts : List CT) (es : List Expr), okTs N sc fnB ts es = true → ∀ i ∈ CT.slotsL ts, i < N.length
  | [], es, h, i, hi => by unfold CT.slotsL at hi; cases hi
  | t :: ts, [], h, i, hi => by unfold okTs at h; cases h
  | t :: ts, e :: es, h, i, hi => by
    unfold CT.slotsL at hi
    unfold okTs at h
    rw [Bool.and_eq_true] at h
    rcases List.mem_append.mp hi with hi | hi
    · exact okT_slots t e h.1 i hi
    · exact okTs_slots ts es h.2 i hi
end
theorem own_snd {N : List Str} : ∀ {sl : List Nat}, (∀ i ∈ sl, i < N.length) → (sl.filterMap fun i => (N[i]?).map fun x => (x, i)).map (·.2) = sl
  | [], _ => rfl
  | i :: sl, h => by
    have hi := h i (List.mem_cons_self)
    have ih := own_snd (N := N) fun j hj => h j (List.mem_cons_of_mem _ hj)
    rw [List.filterMap_cons, List.getElem?_eq_getElem hi]
    simp only [Option.map_some, List.map_cons, ih]
/-- the tests of a clause -/
def tIs (K : PySem.W.Frag) (mg : Str → Option Value) (W : WX) (hid : List Nat) (ifs : List CE) : TT := fun σ H Q =>
  ∃ S ρ, SOk H S ∧ EV K S hid H σ ρ ∧ wpIfs ifs ρ (fun k => ∀ H', Same H H' → Q k H')
abbrev W0 : WX := fun _ _ _ _ => False
/-- [elt for t in it if ..] -/
theorem lc_in {K : PySem.W.Frag} {mg : Str → Option Value} {W : WX} {hid : List Nat} {σ : L2.St} {H : Hp} {Q : VK} {t : CT} {it : CE} {ifs : List CE} {elt : CE}
    (h : tE K mg W hid (.lc t it ifs elt) σ H Q) : tLc (iW K mg W hid (wpE it)) (gD K t) (tIs K mg W0 hid ifs) (tE K mg W0 hid elt) t.slots σ H Q := by
  obtain ⟨S, ρ, hS, hE, h⟩ := h
  unfold wpE at h
  refine ⟨S, ρ, hS, hE, wpE_mono it h (fun d ⟨xs, e, q⟩ => ⟨xs, e, fun J H1 sm dr Dn hD => ?_⟩) (fun _ q => q)⟩
  have nS : Dn ∉ S := (hS.mono sm).new hD
  have low : ∀ {Hc : Hp}, Same H1 Hc → Same (hide H1 S) (hide Hc (Dn :: S)) := fun {Hc} sc b o q => by
    by_cases hb : b ∈ S
    · rw [hide_in hb] at q; cases q
    · rw [hide_out hb] at q
      have hne : b ≠ Dn := ne_of_none q hD
      rw [hide_out (by simp [hb, hne])]
      exact sc b o q
  generalize hg : (fun (x : D) (K' : Option D → Prop) => ∃ ρ', asgT t x ρ = some ρ' ∧ wpIfs ifs ρ' (fun b => if b = true then wpE elt ρ' (fun y => K' (some y)) (fun _ => False) else K' none)) = g at q
  refine ⟨fun i m Hc => m = xs.length - i ∧ i ≤ xs.length ∧ ∃ acc accD, Hc Dn = some (.lst acc) ∧ Reps K (hide Hc (Dn :: S)) accD acc ∧ Same H1 Hc ∧ wpLc g (xs.drop i) accD (fun acc => ∀ v H', Post K H S true (.lst acc) v H' → Q v H'),
    ⟨xs.length, by simp, Nat.zero_le _, [], [], upd_same, Reps.nil, same_new hD, q⟩, ?_⟩
  rintro i m Hc ⟨rfl, hi, acc, accD, hDn, hr, sc, q⟩
  have smc : Same (hide H1 S) Hc := hide_le.trans sc
  by_cases hlt : i < xs.length
  · refine .inr ⟨dr.go i Hc smc hlt, fun H' => i + 1 ≤ xs.length ∧ ∃ acc accD, H' Dn = some (.lst acc) ∧ Reps K (hide H' (Dn :: S)) accD acc ∧ Same H1 H' ∧ wpLc g (xs.drop (i + 1)) accD (fun acc => ∀ v H', Post K H S true (.lst acc) v H' → Q v H'),
      fun H' n => ⟨xs.length - (i + 1), by omega, rfl, n⟩, fun x H' y => ?_⟩
    obtain ⟨rfl, hy⟩ := dr.yld i Hc x H' smc y
    have hx := hy xs[i] (List.getElem?_eq_getElem hlt)
    rw [List.drop_eq_getElem_cons hlt] at q
    unfold wpLc at q
    rw [← hg] at q
    obtain ⟨ρ', ha, q⟩ := q
    refine ⟨Dn :: S, xs[i], ρ, ρ', hx.mono (low sc), ha, by rw [wipe_len]; exact hE.len, fun σ' as => ⟨wipe_eq (by rw [as.len, wipe_len]) fun j hj => by rw [(as.out j hj).1, wipe_out hj], ?_⟩⟩
    have hS' : SOk H' (Dn :: S) := fun a ha => by
      rcases List.mem_cons.mp ha with rfl | ha
      · rw [hDn]; trivial
      · exact ((hS.mono sm).mono sc) a ha
    have hE' : EV K (Dn :: S) hid H' σ' ρ' := ⟨by rw [as.len, as.lenr, wipe_len]; exact hE.len, fun j d' e1 e2 => by
      by_cases hj : j ∈ t.slots
      · exact as.inn j d' hj e1
      · obtain ⟨o1, o2⟩ := as.out j hj
        rw [o2] at e1
        obtain ⟨v, f1, f2⟩ := hE.rep j d' e1 e2
        refine ⟨v, ?_, f2.mono ((Same.hide sm).trans (low sc))⟩
        rw [o1, wipe_out hj]; exact f1⟩
    refine ⟨Dn :: S, ρ', hS', hE', wpIfs_mono ifs q fun b q H3 sm3 => ?_⟩
    split at q
    · rename_i hb
      rw [if_pos hb]
      refine tE_in (hS'.mono sm3) (hE'.mono sm3) q (fun y vy H4 q4 p4 => ?_) fun x cls dd H' e sm xr => e
      obtain ⟨hz, q4⟩ := q4
      have h4 : H4 Dn = some (.lst acc) := p4.same _ _ (sm3 _ _ hDn)
      have hl := hr.length
      refine ⟨acc, h4, by rw [← szl_eq, ← hl]; exact hz, hlt, acc ++ [vy], accD ++ [y], upd_same, ?_, fun b o e => ?_, by rw [← hg]; exact q4⟩
      · rw [hide_upd_in (List.mem_cons_self)]
        exact (hr.mono (Same.hide (sm3.trans p4.same))).append (.one p4.rep)
      · rw [upd_ne (ne_of_none e hD)]
        exact p4.same _ _ (sm3 _ _ (sc _ _ e))
    · rename_i hb
      rw [if_neg hb]
      exact ⟨hlt, acc, accD, sm3 _ _ hDn, hr.mono (Same.hide sm3), sc.trans sm3, by rw [← hg]; exact q⟩
  · have e : i = xs.length := by omega
    subst e
    refine .inl ⟨dr.stop _ Hc smc (Nat.le_refl _), ?_⟩
    rw [List.drop_length] at q
    unfold wpLc at q
    refine q _ _ ⟨sm.trans sc, ?_, fun _ => ⟨Dn, acc, rfl, sm.free hD, hDn, hr⟩⟩
    unfold Rep
    exact ⟨Dn, acc, rfl, .inl (.inl (by rw [hide_out nS]; exact hDn)), hr.mono (hide_more fun a ha => List.mem_cons_of_mem _ ha)⟩
theorem wipeD_len : ∀ (sl : List Nat) (ρ : DEnv), (wipeD ρ sl).length = ρ.length
  | [], ρ => rfl
  | i :: sl, ρ => by
    show (wipeD (ρ.set i none) sl).length = _
    rw [wipeD_len sl]
    simp
theorem wipeD_at : ∀ (sl : List Nat) (ρ : DEnv) (j : Nat) (d : D), (wipeD ρ sl)[j]? = some (some d) → j ∉ sl ∧ ρ[j]? = some (some d)
  | [], ρ, j, d, h => ⟨by simp, h⟩
  | i :: sl, ρ, j, d, h => by
    obtain ⟨h1, h2⟩ := wipeD_at sl (ρ.set i none) j d h
    by_cases e : i = j
    · subst e
      rw [List.getElem?_set] at h2
      simp at h2
    · rw [List.getElem?_set_ne e] at h2
      exact ⟨by simp [h1]; exact fun z => e z.symm, h2⟩
/-- [elt for t in it for t2 in it2 if ..] -/
theorem lc2_in {K : PySem.W.Frag} {mg : Str → Option Value} {W : WX} {hid : List Nat} {σ : L2.St} {H : Hp} {Q : VK} {t t2 : CT} {it it2 : CE} {ifs : List CE} {elt : CE}
    (h : tE K mg W hid (.lc2 t it t2 it2 ifs elt) σ H Q) : tLc2 (iW K mg W hid (wpE it)) (gD K t) tYes (iW K mg W0 hid (wpE it2)) (gD K t2) (tIs K mg W0 hid ifs) (tE K mg W0 hid elt) (t.slots ++ t2.slots) t2.slots σ H Q := by
  obtain ⟨S, ρ, hS, hE, h⟩ := h
  unfold wpE at h
  refine ⟨S, ρ, hS, hE, wpE_mono it h (fun d ⟨xs, e, q⟩ => ⟨xs, e, fun J H1 sm dr Dn hD => ?_⟩) (fun _ q => q)⟩
  have nS : Dn ∉ S := (hS.mono sm).new hD
  have low : ∀ {Hc : Hp}, Same H1 Hc → Same (hide H1 S) (hide Hc (Dn :: S)) := fun {Hc} sc b o q => by
    by_cases hb : b ∈ S
    · rw [hide_in hb] at q; cases q
    · rw [hide_out hb] at q
      have hne : b ≠ Dn := ne_of_none q hD
      rw [hide_out (by simp [hb, hne])]
      exact sc b o q
  generalize hg : (fun (x : D) (acc : List D) (K' : List D → Prop) => ∃ ρ', asgT t x (wipeD ρ t2.slots) = some ρ' ∧ wpE it2 ρ' (fun d2 => ∃ ys, items d2 = some ys ∧
        wpLc (fun y K'' => ∃ ρ'', asgT t2 y ρ' = some ρ'' ∧ wpIfs ifs ρ'' (fun b => if b = true then wpE elt ρ'' (fun v => K'' (some v)) (fun _ => False) else K'' none)) ys acc K') (fun _ => False)) = g at q
  refine ⟨fun i m Hc => m = xs.length - i ∧ i ≤ xs.length ∧ ∃ acc accD, Hc Dn = some (.lst acc) ∧ Reps K (hide Hc (Dn :: S)) accD acc ∧ Same H1 Hc ∧ wpLcN g (xs.drop i) accD (fun acc => ∀ v H', Post K H S true (.lst acc) v H' → Q v H'),
    ⟨xs.length, by simp, Nat.zero_le _, [], [], upd_same, Reps.nil, same_new hD, q⟩, ?_⟩
  rintro i m Hc ⟨rfl, hi, acc, accD, hDn, hr, sc, q⟩
  have smc : Same (hide H1 S) Hc := hide_le.trans sc
  by_cases hlt : i < xs.length
  · refine .inr ⟨dr.go i Hc smc hlt, fun H' => i + 1 ≤ xs.length ∧ ∃ acc accD, H' Dn = some (.lst acc) ∧ Reps K (hide H' (Dn :: S)) accD acc ∧ Same H1 H' ∧ wpLcN g (xs.drop (i + 1)) accD (fun acc => ∀ v H', Post K H S true (.lst acc) v H' → Q v H'),
      fun H' n => ⟨xs.length - (i + 1), by omega, rfl, n⟩, fun x H' y => ?_⟩
    obtain ⟨rfl, hy⟩ := dr.yld i Hc x H' smc y
    have hx := hy xs[i] (List.getElem?_eq_getElem hlt)
    rw [List.drop_eq_getElem_cons hlt] at q
    unfold wpLcN at q
    rw [← hg] at q
    obtain ⟨ρ', ha, q⟩ := q
    refine ⟨Dn :: S, xs[i], wipeD ρ t2.slots, ρ', hx.mono (low sc), ha, by rw [wipe_len, wipeD_len]; exact hE.len, fun σ' as => ⟨?_, ?_⟩⟩
    · exact wipe_eq (by rw [as.len, wipe_len]) fun j hj => by
        rw [(as.out j (fun z => hj (List.mem_append_left _ z))).1, wipe_out hj]
    have hS' : SOk H' (Dn :: S) := fun a ha => by
      rcases List.mem_cons.mp ha with rfl | ha
      · rw [hDn]; trivial
      · exact ((hS.mono sm).mono sc) a ha
    have hE' : EV K (Dn :: S) hid H' σ' ρ' := ⟨by rw [as.len, as.lenr, wipe_len, wipeD_len]; exact hE.len, fun j d' e1 e2 => by
      by_cases hj : j ∈ t.slots
      · exact as.inn j d' hj e1
      · obtain ⟨o1, o2⟩ := as.out j hj
        rw [o2] at e1
        obtain ⟨w1, w2⟩ := wipeD_at _ _ _ _ e1
        obtain ⟨v, f1, f2⟩ := hE.rep j d' w2 e2
        refine ⟨v, ?_, f2.mono ((Same.hide sm).trans (low sc))⟩
        rw [o1, wipe_out (by simp [hj, w1])]; exact f1⟩
    unfold tYes
    refine (show ∀ {p q : Prop}, p → (if true = true then p else q) from fun h => by rw [if_pos rfl]; exact h) ?_
    refine ⟨Dn :: S, ρ', hS', hE', wpE_mono it2 q (fun d2 ⟨ys, e2, q2⟩ => ⟨ys, e2, fun J1 H4 sm4 dr1 => ?_⟩) fun x q cls dd H5 sm5 xr => q⟩
    generalize hg2 : (fun (y : D) (K'' : Option D → Prop) => ∃ ρ'', asgT t2 y ρ' = some ρ'' ∧ wpIfs ifs ρ'' (fun b => if b = true then wpE elt ρ'' (fun v => K'' (some v)) (fun _ => False) else K'' none)) = g2 at q2
    rw [hg] at q2
    refine ⟨fun j k Hd => k = ys.length - j ∧ j ≤ ys.length ∧ ∃ acc accD, Hd Dn = some (.lst acc) ∧ Reps K (hide Hd (Dn :: S)) accD acc ∧ Same H1 Hd ∧ Same (hide H4 (Dn :: S)) (hide Hd (Dn :: S)) ∧ SOk Hd S ∧ wpLc g2 (ys.drop j) accD (fun acc => wpLcN g (xs.drop (i + 1)) acc (fun acc => ∀ v H', Post K H S true (.lst acc) v H' → Q v H')),
      ⟨ys.length, by simp, Nat.zero_le _, acc, accD, sm4 _ _ hDn, hr.mono (Same.hide sm4), sc.trans sm4, Same.refl _, ((hS.mono sm).mono sc).mono sm4, q2⟩, ?_⟩
    rintro j k Hd ⟨rfl, hj, acc, accD, hDn, hr, sc2, sv, hSd, q2⟩
    have smd : Same (hide H4 (Dn :: S)) Hd := sv.trans hide_le
    by_cases hlt2 : j < ys.length
    · refine .inr ⟨dr1.go j Hd smd hlt2, fun H' => j + 1 ≤ ys.length ∧ ∃ acc accD, H' Dn = some (.lst acc) ∧ Reps K (hide H' (Dn :: S)) accD acc ∧ Same H1 H' ∧ Same (hide H4 (Dn :: S)) (hide H' (Dn :: S)) ∧ SOk H' S ∧ wpLc g2 (ys.drop (j + 1)) accD (fun acc => wpLcN g (xs.drop (i + 1)) acc (fun acc => ∀ v H', Post K H S true (.lst acc) v H' → Q v H')),
        fun H' n => ⟨ys.length - (j + 1), by omega, rfl, n⟩, fun x2 H5 y2 => ?_⟩
      obtain ⟨rfl, hy2⟩ := dr1.yld j Hd x2 H5 smd y2
      have hx2 := hy2 ys[j] (List.getElem?_eq_getElem hlt2)
      rw [List.drop_eq_getElem_cons hlt2] at q2
      unfold wpLc at q2
      rw [← hg2] at q2
      obtain ⟨ρ'', ha2, q2⟩ := q2
      refine ⟨Dn :: S, ys[j], ρ', ρ'', hx2.mono sv, ha2, by rw [wipe_len]; exact hE'.len, fun σ3 as2 => ⟨wipe_eq (by rw [as2.len, wipe_len]) fun l hl => by rw [(as2.out l hl).1, wipe_out hl], ?_⟩⟩
      have hS3 : SOk H5 (Dn :: S) := fun a ha => by
        rcases List.mem_cons.mp ha with rfl | ha
        · rw [hDn]; trivial
        · exact hSd a ha
      have hE3 : EV K (Dn :: S) hid H5 σ3 ρ'' := ⟨by rw [as2.len, as2.lenr, wipe_len]; exact hE'.len, fun l d' e1 e2 => by
        by_cases hl : l ∈ t2.slots
        · exact as2.inn l d' hl e1
        · obtain ⟨o1, o2⟩ := as2.out l hl
          rw [o2] at e1
          obtain ⟨v, f1, f2⟩ := hE'.rep l d' e1 e2
          refine ⟨v, ?_, f2.mono ((Same.hide sm4).trans sv)⟩
          rw [o1, wipe_out hl]; exact f1⟩
      refine ⟨Dn :: S, ρ'', hS3, hE3, wpIfs_mono ifs q2 fun b q3 H6 sm6 => ?_⟩
      split at q3
      · rename_i hb
        rw [if_pos hb]
        refine tE_in (hS3.mono sm6) (hE3.mono sm6) q3 (fun y vy H7 q4 p4 => ?_) fun x cls dd H' e sm xr => e
        obtain ⟨hz, q4⟩ := q4
        have h7 : H7 Dn = some (.lst acc) := p4.same _ _ (sm6 _ _ hDn)
        have hl := hr.length
        refine ⟨acc, h7, by rw [← szl_eq, ← hl]; exact hz, hlt2, acc ++ [vy], accD ++ [y], upd_same, ?_, fun b o e => ?_, ?_, ?_, by rw [← hg2]; exact q4⟩
        · rw [hide_upd_in (List.mem_cons_self)]
          exact (hr.mono (Same.hide (sm6.trans p4.same))).append (.one p4.rep)
        · rw [upd_ne (ne_of_none e hD)]
          exact p4.same _ _ (sm6 _ _ (sc2 _ _ e))
        · rw [hide_upd_in (List.mem_cons_self)]
          exact sv.trans (Same.hide (sm6.trans p4.same))
        · intro a ha
          have hne : a ≠ Dn := fun z => nS (z ▸ ha)
          rw [upd_ne hne]
          exact (hSd.mono (sm6.trans p4.same)) a ha
      · rename_i hb
        rw [if_neg hb]
        exact ⟨hlt2, acc, accD, sm6 _ _ hDn, hr.mono (Same.hide sm6), sc2.trans sm6, sv.trans (Same.hide sm6), hSd.mono sm6, by rw [← hg2]; exact q3⟩
    · have e : j = ys.length := by omega
      subst e
      rw [List.drop_length] at q2
      unfold wpLc at q2
      exact .inl ⟨dr1.stop _ Hd smd (Nat.le_refl _), hlt, acc, accD, hDn, hr, sc2, q2⟩
  · have e : i = xs.length := by omega
    subst e
    refine .inl ⟨dr.stop _ Hc smc (Nat.le_refl _), ?_⟩
    rw [List.drop_length] at q
    unfold wpLcN at q
    refine q _ _ ⟨sm.trans sc, ?_, fun _ => ⟨Dn, acc, rfl, sm.free hD, hDn, hr⟩⟩
    unfold Rep
    exact ⟨Dn, acc, rfl, .inl (.inl (by rw [hide_out nS]; exact hDn)), hr.mono (hide_more fun a ha => List.mem_cons_of_mem _ ha)⟩
end Dl

namespace Dl
open PySem PySem.Spec PyProof.Rows L2
theorem and2 {a b : Bool} (h : (a && b) = true) : a = true ∧ b = true := by rwa [Bool.and_eq_true] at h
/-- the context of a comprehension's block -/
theorem Gd.blk {X : Cx} {N : List Str} {sc : Scope} {cm : Bool} {W : WX} {k : Nat} (G : Gd X N sc cm W k) (s : Shared) (H : Hp) (scope : Scope) (C : Addr) (cl : List (Str × Addr)) (fp : List Addr) :
    Gd (X.blk s H scope (compEnvC scope cl C X.env) fp) N (relS scope sc) cm W0 k :=
  ⟨G.nn, G.nd, by rw [← G.sc]; rfl, takes0, G.cm, G.hu, G.fr⟩
theorem fn_blk {X : Cx} {sc : Scope} (hs : X.env.scope = sc) (s : Shared) (H : Hp) (scope : Scope) (C : Addr) (cl : List (Str × Addr)) (fp : List Addr) (x : Str) (h : locB scope x = true) :
    (X.blk s H scope (compEnvC scope cl C X.env) fp).fn x = true ∨ (X.blk s H scope (compEnvC scope cl C X.env) fp).env.scope.names.lookup x = some .local := by
  rcases lookB h with h | h
  · right
    exact lookup_relS_keep (sc := X.env.scope) (fun z => by cases z) h
  · left
    show (scope.names.lookup x == some NameKind.cell) = true
    rw [h]; rfl
theorem op_is_of {X : Cx} {ng : Bool} {l : Expr} {j : Nat} {p : Pos} {ta : TE} (h : PE X l ta) : PC X (if ng = true then CmpOp.IsNot else CmpOp.Is) l (.Constant .none j p) (fun σ H Q => ta σ H fun x H1 => Q (.bl (ng != decide (x = .non))) H1) := by
  cases ng with
  | true =>
    refine ⟨fun pins s σ H Q I w => (pc_notN h).run pins s σ H Q I ?_⟩
    have e : (fun (x : V) (H1 : Hp) => Q (.bl (true != decide (x = .non))) H1) = fun x H1 => Q (.bl (!decide (x = .non))) H1 := by
      funext x H1; cases decide (x = V.non) <;> rfl
    rw [e] at w
    exact w
  | false =>
    refine ⟨fun pins s σ H Q I w => (pc_isN h).run pins s σ H Q I ?_⟩
    have e : (fun (x : V) (H1 : Hp) => Q (.bl (false != decide (x = .non))) H1) = fun x H1 => Q (.bl (decide (x = .non))) H1 := by
      funext x H1; cases decide (x = V.non) <;> rfl
    rw [e] at w
    exact w
theorem isN_rep {K : PySem.W.Frag} {H : Hp} {d : D} {v : V} (h : Rep K H d v) : decide (v = .non) = d.isNon := by
  cases d with
  | non => cases rep_non h; rfl
  | bl b => cases rep_bl h; rfl
  | int b => cases rep_int h; rfl
  | str b => cases rep_str h; rfl
  | tup ds => obtain ⟨a, vs, rfl, _⟩ := rep_tup h; rfl
  | lst ds => obtain ⟨a, vs, rfl, _⟩ := rep_lst h; rfl
  | dict _ _ => unfold Rep at h; exact h.elim
  | obj _ _ _ => unfold Rep at h; exact h.elim
/-- a test of an if .. else .. -/
theorem pt_ifExp {X : Cx} {c a b : Expr} {pos : Pos} {tc ta tb : TT} (hc : PT X c tc) (ha : PT X a ta) (hb : PT X b tb) : PT X (.IfExp c a b pos) (fun σ H Q => tc σ H fun k H1 => if k = true then ta σ H1 Q else tb σ H1 Q) := by
  refine ⟨fun pins s σ H Q I h => ?_⟩
  show wpAny _ _ (do if ← isTrue c X.env (eval c X.env) then isTrue a X.env (eval a X.env) else isTrue b X.env (eval b X.env)) _ _ _
  refine wpAny_bind (thn (hc.run pins s σ H _ I h) fun d s1 ⟨H1, I1, q1⟩ => ?_)
  cases d with
  | true => exact ha.run pins s1 σ H1 Q I1 q1
  | false => exact hb.run pins s1 σ H1 Q I1 q1
theorem keep_pass {X : Cx} {N : List Str} {sc : Scope} {cm : Bool} {W : WX} {k : Nat} (G : Gd X N sc cm W k) (σ : L2.St) : PassesAt (L2.CX X.prog X.w) X σ (WE W σ) := passAt G.tk σ
theorem boot_bf (f : BF) : bootBuiltins (bfN f) = some (bfV f) := by
  cases f <;> decide +kernel
theorem bf_free (f : BF) : bfN f ∈ freeNames := by
  cases f <;> decide +kernel
/-- the tests of a clause -/
theorem pts_in {X : Cx} {mg : Str → Option Value} {W : WX} {hid : List Nat} {ifs : List CE} {fs : List Expr} (h : (ifs = [] ∧ fs = []) ∨ ∃ c f, ifs = [c] ∧ fs = [f] ∧ PT X f (tTe X.K mg W0 hid c)) : PTs X fs (tIs X.K mg W hid ifs) := by
  rcases h with ⟨rfl, rfl⟩ | ⟨c, f, rfl, rfl, h⟩
  · refine ⟨fun pins s σ H Q I hw => pts_nil.run pins s σ H Q I ?_⟩
    obtain ⟨S, ρ, hS, hE, q⟩ := hw
    unfold wpIfs at q
    exact q _ (Same.refl _)
  · refine ⟨fun pins s σ H Q I hw => (pts_one h).run pins s σ H Q I ?_⟩
    obtain ⟨S, ρ, hS, hE, q⟩ := hw
    unfold wpIfs at q
    refine ⟨S, ρ, hS, hE, wpE_mono c q (fun d ⟨k, e, q⟩ => ⟨k, e, ?_⟩) (fun _ q => q.elim)⟩
    split at q
    · rename_i hk
      subst hk
      unfold wpIfs at q
      exact q
    · rename_i hk
      have e2 : k = false := by simpa using hk
      subst e2
      exact q
theorem wpEs_len : ∀ {es : List CE} {ρ : DEnv} {Q : List D → Prop} {E : Xn → Prop}, wpEs es ρ Q E → wpEs es ρ (fun ds => ds.length = es.length ∧ Q ds) E
  | [], ρ, Q, E, h => by unfold wpEs at h ⊢; exact ⟨rfl, h⟩
  | e :: es, ρ, Q, E, h => by
    unfold wpEs at h ⊢
    exact wpE_mono e h (fun d q => wpEs_mono es (wpEs_len q) (fun ds ⟨l, q⟩ => ⟨by simp [l], q⟩) fun _ q => q) fun _ q => q
/-- a call of a def -/
theorem call_D {X : Cx} {N : List Str} {sc : Scope} {cm : Bool} {W : WX} {k : Nat} {hid : List Nat} {f : Str} {sp : Spec} {es : List CE} {v : Expr} {vs : List Expr} {p pos : Pos} (G : Gd X N sc cm W k) (hcm : cm = true) (hg : gloB sc f = true)
    (ho : okEs N sc cm hid es (v :: vs) = true) (ha : PA X (v :: vs) (tL X.K X.mg W hid es)) (hf : FnC X.prog X.w X.K X.mg X.base k f es.length sp) : PE X (.Call (.Name f p) (v :: vs) [] pos) (tE X.K X.mg W hid (.call f sp es)) := by
  obtain ⟨a, fd, ps, dvs, ds, dds, sp', hm, kp, hb, hv, hr, F, hl, hsp⟩ := hf
  have hs1 : plB v = true := by
    cases es with
    | nil => simp [okEs] at ho
    | cons c cs => unfold okEs at ho; exact okE_pl (and2 ho).1
  have hs2 : ((backTo pos (starEach vs X.env)).any (·.1)) = false := by
    cases es with
    | nil => simp [okEs] at ho
    | cons c cs => unfold okEs at ho; exact okEs_star (and2 ho).2
  refine PE.imp (pe_callSD (E := WE W) F (G.cm hcm).2 (gl_of G hg) hm kp hb hv (fun σ => passAt G.tk σ) ha (gloB_ok hg).2.1 (star_of hs1 _ _) hs2) fun σ H Q ⟨S, ρ, hS, hE, h⟩ => ?_
  unfold wpE at h
  refine tL_in hS hE (wpEs_len h) (fun ds' ws H' ⟨ln, q⟩ sm r => ?_) fun x cls dd H' e sm xr => e cls dd H' sm xr
  have l1 := r.length
  have l2 := (hr H').length
  refine ⟨by rw [List.length_append]; omega, S, ds' ++ dds, hS.mono sm, r.append (hr _), hsp _ _ _ ln ?_⟩
  exact sp.mono _ _ _ _ _ q (fun d q v H'' p => q v H'' (p.trans sm)) fun x e cls dd H'' sm2 xr => e cls dd H'' (sm.trans sm2) xr
/-- a call without arguments -/
theorem call0_D {X : Cx} {N : List Str} {sc : Scope} {cm : Bool} {W : WX} {k : Nat} {hid : List Nat} {f : Str} {sp : Spec} {p pos : Pos} (G : Gd X N sc cm W k) (hcm : cm = true) (hg : gloB sc f = true) (hf : FnC X.prog X.w X.K X.mg X.base k f 0 sp) :
    PE X (.Call (.Name f p) [] [] pos) (tE X.K X.mg W hid (.call f sp [])) := by
  obtain ⟨a, fd, ps, dvs, ds, dds, sp', hm, kp, hb, hv, hr, F, hl, hsp⟩ := hf
  refine ⟨fun pins s σ H Q I w => ?_⟩
  obtain ⟨S, ρ, hS, hE, h⟩ := w
  unfold wpE wpEs at h
  refine wpAny_Call_Name_kw (ld_glob I (gl_of G hg) hm ?_ (gloB_ok hg).2.1)
  refine PySem.W.callWith_K0 I.kIn kp (run_fnSD (E := WE W) (us := []) (vs := []) F (G.cm hcm).2 hb hv (passAt G.tk σ) I .nil ?_)
  have l2 := (hr H).length
  refine ⟨by simp; omega, S, dds, hS, hr _, ?_⟩
  have q := hsp [] _ _ rfl h
  rw [List.nil_append] at q
  exact sp'.mono _ _ _ _ _ q (fun d q v H'' p => q v H'' p) fun x e cls dd H'' sm2 xr => e cls dd H'' sm2 xr
/-- a call of a built-in -/
theorem bf_D {X : Cx} {N : List Str} {sc : Scope} {cm : Bool} {W : WX} {k : Nat} {hid : List Nat} {f : BF} {es : List CE} {v : Expr} {vs : List Expr} {p pos : Pos} (G : Gd X N sc cm W k) (hcm : cm = true) (hg : gloB sc (bfN f) = true)
    (ho : okEs N sc cm hid es (v :: vs) = true) (ha : PA X (v :: vs) (tL X.K X.mg W hid es)) : PE X (.Call (.Name (bfN f) p) (v :: vs) [] pos) (tE X.K X.mg W hid (.blt f es)) := by
  have hs1 : plB v = true := by
    cases es with
    | nil => simp [okEs] at ho
    | cons c cs => unfold okEs at ho; exact okE_pl (and2 ho).1
  have hs2 : ((backTo pos (starEach vs X.env)).any (·.1)) = false := by
    cases es with
    | nil => simp [okEs] at ho
    | cons c cs => unfold okEs at ho; exact okEs_star (and2 ho).2
  have hc := call_bf (X := X) f (G.cm hcm).1 G.hu
  have hm := G.fr _ (bf_free f)
  have hb := boot_bf f
  have hgl := gl_of G hg
  obtain ⟨_, hn1, hn2⟩ := gloB_ok hg
  have main : PE X (.Call (.Name (bfN f) p) (v :: vs) [] pos) (tCB (rBf X.K f) (tL X.K X.mg W hid es)) := by
    cases f
    case len => exact pe_callB hc hgl hm hb ha hn2 hn1 (star_of hs1 _ _) hs2
    case abs => exact pe_callB hc hgl hm hb ha hn2 hn1 (star_of hs1 _ _) hs2
    case int_ => exact pe_callTy hc hgl hm hb ha hn2 hn1 (star_of hs1 _ _) hs2
    case list_ => exact pe_callTy hc hgl hm hb ha hn2 hn1 (star_of hs1 _ _) hs2
    case tuple_ => exact pe_callTy hc hgl hm hb ha hn2 hn1 (star_of hs1 _ _) hs2
    case any_ => exact pe_callB hc hgl hm hb ha hn2 hn1 (star_of hs1 _ _) hs2
    case all_ => exact pe_callB hc hgl hm hb ha hn2 hn1 (star_of hs1 _ _) hs2
    case sum_ => exact pe_callB hc hgl hm hb ha hn2 hn1 (star_of hs1 _ _) hs2
    case max2 => exact pe_callB hc hgl hm hb ha hn2 hn1 (star_of hs1 _ _) hs2
    case min2 => exact pe_callB hc hgl hm hb ha hn2 hn1 (star_of hs1 _ _) hs2
    case bool_ => exact pe_callTy hc hgl hm hb ha hn2 hn1 (star_of hs1 _ _) hs2
    case sorted_ => exact pe_callB hc hgl hm hb ha hn2 hn1 (star_of hs1 _ _) hs2
  refine PE.imp main fun σ H Q ⟨S, ρ, hS, hE, h⟩ => ?_
  unfold wpE at h
  exact tL_in hS hE h (fun ds' ws H' q sm r => ⟨S, ds', hS.mono sm, r, bltD_mono q fun d q v H'' p => q v H'' (p.trans sm)⟩) fun x cls dd H' e sm xr => e cls dd H' sm xr
theorem isi_of {X : Cx} {N : List Str} {sc : Scope} {cm : Bool} {W : WX} {k : Nat} {hid : List Nat} {a : CE} {t : TY} {v : Expr} {p p2 pos : Pos} (G : Gd X N sc cm W k) (hg : gloB sc "isinstance" = true) (hg2 : gloB sc (tyN t) = true) (hp : plB v = true)
    (ht : ∃ T, tyS t = some T) (ha : PE X v (tE X.K X.mg W hid a)) : PE X (.Call (.Name "isinstance" p) [v, .Name (tyN t) p2] [] pos) (tE X.K X.mg W hid (.isi a t)) := by
  obtain ⟨T, hT⟩ := ht
  have hb : bootBuiltins (tyN t) = some (.type T) := by
    cases t <;> first | (cases hT; done) | (cases hT; decide +kernel)
  have hf : tyN t ∈ freeNames := by
    cases t <;> first | (cases hT; done) | (decide +kernel)
  have hi : ("isinstance" : Str) ∈ freeNames := by decide +kernel
  have hty : PE X (.Name (tyN t) p2) (tC (.ty T)) := pe_bltn (gl_of G hg2) (G.fr _ hf) hb rfl (gloB_ok hg2).2.2 (gloB_ok hg2).2.1
  refine PE.imp (pe_callB call_isi (gl_of G hg) (G.fr _ hi) PyProof.Rows.boot_isinstance (pa_cons ha (pa_cons hty pa_nil rfl) (star_of hp _ _)) (by decide) (by decide) (star_of hp _ _) rfl) fun σ H Q ⟨S, ρ, hS, hE, h⟩ => ?_
  unfold wpE at h
  refine tE_in hS hE h (fun d x H' q pp => ?_) fun x cls dd H' e sm xr => e cls dd H' sm xr
  obtain ⟨u, h1, h2⟩ := isi_D (pp.rep.mono hide_le) hT
  exact ⟨x, .ty T, u, .type T, isiD t d, rfl, .ty T, h1, h2, q _ _ (Post.trans pp.same post_bl)⟩
end Dl

namespace Dl
open PySem PySem.Spec PyProof.Rows L2
/-- a test's reading, from any predicate over environments -/
def tTW (K : PySem.W.Frag) (mg : Str → Option Value) (W : WX) (hid : List Nat) (F : DEnv → (D → Prop) → (Xn → Prop) → Prop) : TT := fun σ H Q =>
  ∃ S ρ, SOk H S ∧ EV K S hid H σ ρ ∧ F ρ (fun d => ∃ k, truD d = some k ∧ ∀ H', Same H H' → Q k H') (fun x => ∀ cls dd H', Same H H' → XRep K mg x cls dd → W cls dd σ H')
abbrev FC (X : Cx) (k : Nat) := FnC X.prog X.w X.K X.mg X.base k
abbrev GC (X : Cx) := GlC X.K X.mg
mutual
theorem soundE : ∀ (ce : CE) {N : List Str} {sc : Scope} {cm : Bool} {hid : List Nat} {e : Expr} {X : Cx} {W : WX} {k : Nat}, okI N sc cm hid ce e = true → Gd X N sc cm W k → ce.needs (FC X k) (GC X) → Snd ce N sc cm hid e X W
  | .var i, N, sc, cm, hid, e, X, W, k, h, G, nd => by
    simp only [okI] at h; unfold okE at h
    split at h
    · rename_i x p
      obtain ⟨h, c5⟩ := and2 h
      obtain ⟨h, c4⟩ := and2 h
      obtain ⟨h, c3⟩ := and2 h
      obtain ⟨c1, c2⟩ := and2 h
      refine Snd.of1 (PE.imp (pe_var (i := i) (x := x) (by rw [G.nn]; exact of_decide_eq_true c1) (by unfold Vis; rw [G.sc]; exact lookV c2) (by simpa using c4) (by simpa using c5)) fun σ H Q ⟨S, ρ, hS, hE, w⟩ => ?_) rfl
      unfold wpE at w
      obtain ⟨d, e1, q⟩ := w
      obtain ⟨v, e2, r⟩ := hE.rep i d e1 (by simpa using c3)
      exact ⟨v, e2, q v H (post_old r fun z => by cases z)⟩
    · cases h
  | .int i, N, sc, cm, hid, e, X, W, k, h, G, nd => by
    simp only [okI] at h; unfold okE at h
    split at h
    · have e := of_decide_eq_true h
      subst e
      exact Snd.of1 (PE.imp pe_int fun σ H Q ⟨S, ρ, hS, hE, w⟩ => by unfold wpE at w; exact w _ _ post_int) rfl
    · cases h
  | .bl b, N, sc, cm, hid, e, X, W, k, h, G, nd => by
    simp only [okI] at h; unfold okE at h
    split at h
    · rename_i c _ _
      have e : b = c := by simpa using h
      subst e
      exact Snd.of1 (PE.imp pe_bl fun σ H Q ⟨S, ρ, hS, hE, w⟩ => by unfold wpE at w; exact w _ _ post_bl) rfl
    · cases h
  | .non, N, sc, cm, hid, e, X, W, k, h, G, nd => by
    simp only [okI] at h; unfold okE at h
    split at h
    · exact Snd.of1 (PE.imp pe_non fun σ H Q ⟨S, ρ, hS, hE, w⟩ => by unfold wpE at w; exact w _ _ post_non) rfl
    · cases h
  | .str x, N, sc, cm, hid, e, X, W, k, h, G, nd => by
    simp only [okI] at h; unfold okE at h
    split at h
    · have e := of_decide_eq_true h
      subst e
      exact Snd.of1 (PE.imp pe_str fun σ H Q ⟨S, ρ, hS, hE, w⟩ => by unfold wpE at w; exact w _ _ post_str) rfl
    · cases h
  | .glob x d, N, sc, cm, hid, e, X, W, k, h, G, nd => by
    simp only [okI] at h; unfold okE at h
    split at h
    · obtain ⟨c1, c2⟩ := and2 h
      have e := of_decide_eq_true c1
      subst e
      unfold CE.needs at nd
      obtain ⟨u, v, hm, r, hr⟩ := nd
      refine Snd.of1 (PE.imp (pe_glob (gl_of G c2) hm r (gloB_ok c2).2.1) fun σ H Q ⟨S, ρ, hS, hE, w⟩ => ?_) rfl
      unfold wpE at w
      exact w _ _ (post_old (hr _) fun z => by cases z)
    · cases h
  | .bin o a b, N, sc, cm, hid, e, X, W, k, h, G, nd => by
    simp only [okI] at h; unfold okE at h
    split at h
    · obtain ⟨c1, h⟩ := and2 h
      obtain ⟨c2, c3⟩ := and2 h
      have e := of_decide_eq_true c1
      subst e
      unfold CE.needs at nd
      have ha := ((soundE a (okI_of c2) G nd.1).1 c2).1
      have hb := ((soundE b (okI_of c3) G nd.2).1 c3).1
      refine Snd.of1 (PE.imp (pe_op (op_binD o) ha hb) fun σ H Q ⟨S, ρ, hS, hE, w⟩ => ?_) rfl
      unfold wpE at w
      exact bin_in (fun _ _ _ _ => binD_mono) hS hE w
    · cases h
  | .cat a b, N, sc, cm, hid, e, X, W, k, h, G, nd => by
    simp only [okI] at h; unfold okE at h
    split at h
    · obtain ⟨c1, h⟩ := and2 h
      obtain ⟨c2, c3⟩ := and2 h
      have e := of_decide_eq_true c1
      subst e
      unfold CE.needs at nd
      have ha := ((soundE a (okI_of c2) G nd.1).1 c2).1
      have hb := ((soundE b (okI_of c3) G nd.2).1 c3).1
      refine Snd.of1 (PE.imp (pe_op (op_binD .add) ha hb) fun σ H Q ⟨S, ρ, hS, hE, w⟩ => ?_) rfl
      unfold wpE at w
      exact bin_in (fun _ _ _ _ => binD_mono) hS hE (wpE_mono a w (fun x q => wpE_mono b q (fun y q => catD_bin q) fun _ q => q) fun _ q => q)
    · cases h
  | .neg a, N, sc, cm, hid, e, X, W, k, h, G, nd => by
    simp only [okI] at h; unfold okE at h
    split at h
    · unfold CE.needs at nd
      have ha := ((soundE a (okI_of h) G nd).1 h).1
      refine Snd.of1 (PE.imp (pe_un un_neg ha) fun σ H Q ⟨S, ρ, hS, hE, w⟩ => ?_) rfl
      unfold wpE at w
      refine tE_in hS hE w (fun d v H' ⟨i, e, q⟩ p => ?_) fun x cls dd H' e sm xr => e cls dd H' sm xr
      subst e
      cases rep_int p.rep
      exact ⟨i, rfl, q _ _ (Post.trans p.same post_int)⟩
    · cases h
  | .not a, N, sc, cm, hid, e, X, W, k, h, G, nd => by
    simp only [okI] at h; unfold okE at h
    split at h
    · unfold CE.needs at nd
      obtain ⟨ha, ta⟩ := (soundE a (okI_of h) G nd).1 h
      refine Snd.of (PE.imp (pe_notT ha) fun σ H Q ⟨S, ρ, hS, hE, w⟩ => ?_) (PT.imp (pt_not ta) fun σ H Q ⟨S, ρ, hS, hE, w⟩ => ?_)
      · unfold wpE at w
        refine tE_in hS hE w (fun d v H' ⟨i, e, q⟩ p => ?_) fun x cls dd H' e sm xr => e cls dd H' sm xr
        exact ⟨i, TruV.hide (tru_of p.rep e), q _ _ (Post.trans p.same post_bl)⟩
      · unfold wpT wpE at w
        refine tT_in (Qd := fun b => ∀ H', Same H H' → Q (!b) H') hS hE (wpE_mono a w (fun d ⟨b, e, k', e', q⟩ => ⟨b, e, ?_⟩) fun _ q => q) (fun b H' q sm => q H' sm) fun x cls dd H' e sm xr => e cls dd H' sm xr
        cases e'
        exact q
    · cases h
  | .cmp o a b, N, sc, cm, hid, e, X, W, k, h, G, nd => by
    simp only [okI] at h; unfold okE at h
    split at h
    · obtain ⟨c1, h⟩ := and2 h
      obtain ⟨c2, c3⟩ := and2 h
      have e := of_decide_eq_true c1
      subst e
      unfold CE.needs at nd
      have ha := ((soundE a (okI_of c2) G nd.1).1 c2).1
      have hb := ((soundE b (okI_of c3) G nd.2).1 c3).1
      refine Snd.of (PE.imp (pe_cmpR (op_cmpD o G.hu) ha hb (mark_of (okE_noset c3))) fun σ H Q ⟨S, ρ, hS, hE, w⟩ => ?_) (pt_cmpD (F := cmpD o) (fun _ _ _ _ => cmpD_mono) (op_cmpD o G.hu) ha hb (mark_of (okE_noset c3)) (cmpD_bl o) fun ρ Q E => by rw [wpE])
      unfold wpE at w
      exact bin_in (fun _ _ _ _ => cmpD_mono) hS hE w
    · cases h
  | .chain o o' a b c, N, sc, cm, hid, e, X, W, k, h, G, nd => by
    simp only [okI] at h; unfold okE at h
    split at h
    · rename_i l op op' r r' pos
      obtain ⟨h, h2⟩ := and2 h
      obtain ⟨c1, c1'⟩ := and2 h
      obtain ⟨c2, h2⟩ := and2 h2
      obtain ⟨c3, c4⟩ := and2 h2
      have e := of_decide_eq_true c1
      have e' := of_decide_eq_true c1'
      subst e e'
      unfold CE.needs at nd
      have ha := ((soundE a (okI_of c2) G nd.1).1 c2).1
      have hb := ((soundE b (okI_of c3) G nd.2.1).1 c3).1
      have hc := ((soundE c (okI_of c4) G nd.2.2).1 c4).1
      have hm : lastMarks [coOp o, coOp o'] [r, r'] = false := mark_of (okE_noset c4)
      have main : ∀ {σ H} {Q : VK}, tE X.K X.mg W hid (.chain o o' a b c) σ H Q → tChain (rD X.K (cmpD o) true) (rD X.K (cmpD o') true) (tE X.K X.mg W hid a) (tE X.K X.mg W hid b) (tE X.K X.mg W hid c) σ H Q := by
        rintro σ H Q ⟨S, ρ, hS, hE, w⟩
        unfold wpE at w
        refine tE_in hS hE w (fun x v1 H1 q p1 => tE_in (hS.mono p1.same) (hE.mono p1.same) q (fun y v2 H2 q2 p2 => ⟨S, x, y, (hS.mono p1.same).mono p2.same, p1.rep.mono (Same.hide p2.same), p2.rep, cmpD_mono q2 fun d ⟨kk, e, q3⟩ v H3 p3 => ?_⟩) fun x cls dd H' e sm xr => e cls dd H' (p1.same.trans sm) xr) fun x cls dd H' e sm xr => e cls dd H' sm xr
        subst e
        cases rep_bl p3.rep
        refine ⟨kk, rfl, ?_⟩
        have sm3 := (p1.same.trans p2.same).trans p3.same
        split
        · rename_i hk
          rw [if_pos hk] at q3
          exact tE_in (hS.mono sm3) (hE.mono sm3) q3 (fun z v4 H4 q4 p4 => ⟨S, y, z, (hS.mono sm3).mono p4.same, (p2.rep.mono (Same.hide p3.same)).mono (Same.hide p4.same), p4.rep, cmpD_mono q4 fun d q5 v H5 p5 => q5 v H5 (p5.trans (sm3.trans p4.same))⟩) fun x cls dd H' e sm xr => e cls dd H' (sm3.trans sm) xr
        · rename_i hk
          rw [if_neg hk] at q3
          exact q3 _ _ (Post.trans sm3 post_bl)
      refine Snd.of (PE.imp (pe_chain (op_cmpD o G.hu) (op_cmpD o' G.hu) ha hb hc hm) fun σ H Q w => main w) (PT.imp (pt_chain (op_cmpD o G.hu) (op_cmpD o' G.hu) ha hb hc hm) fun σ H Q ⟨S, ρ, hS, hE, w⟩ => ?_)
      refine main ⟨S, ρ, hS, hE, ?_⟩
      unfold wpT at w
      -- the value is a bool
      have hb2 : ∀ Qd E, wpE (.chain o o' a b c) ρ Qd E → wpE (.chain o o' a b c) ρ (fun d => Qd d ∧ ∃ kk, d = .bl kk) E := by
        intro Qd E q
        unfold wpE at q ⊢
        refine wpE_mono a q (fun x q => wpE_mono b q (fun y q => cmpD_mono q fun d ⟨kk, e, q⟩ => ⟨kk, e, ?_⟩) fun _ q => q) fun _ q => q
        split
        · rename_i hk
          rw [if_pos hk] at q
          exact wpE_mono c q (fun z q => cmpD_bl o' _ _ _ q) fun _ q => q
        · rename_i hk
          rw [if_neg hk] at q
          exact ⟨q, _, rfl⟩
      refine wpE_mono _ (hb2 _ _ w) ?_ fun _ q => q
      rintro d ⟨⟨kk, e, q⟩, k', rfl⟩ v H' p
      cases e
      cases rep_bl p.rep
      exact ⟨_, rfl, q H' p.same⟩
    · cases h
  | .isN ng a, N, sc, cm, hid, e, X, W, k, h, G, nd => by
    simp only [okI] at h; unfold okE at h
    split at h
    · obtain ⟨c1, c2⟩ := and2 h
      have e := of_decide_eq_true c1
      subst e
      unfold CE.needs at nd
      have ha := ((soundE a (okI_of c2) G nd).1 c2).1
      refine Snd.of (PE.imp (pe_cmp (op_is_of ha) (by rfl)) fun σ H Q ⟨S, ρ, hS, hE, w⟩ => ?_) (PT.imp (pt_cmp (op_is_of ha) (by rfl)) fun σ H Q ⟨S, ρ, hS, hE, w⟩ => ?_)
      · unfold wpE at w
        refine tE_in hS hE w (fun d v H' q p => ?_) fun x cls dd H' e sm xr => e cls dd H' sm xr
        show Q (.bl (ng != decide (v = .non))) H'
        rw [isN_rep p.rep]
        exact q _ _ (Post.trans p.same post_bl)
      · unfold wpT wpE at w
        refine tE_in hS hE w (fun d v H' q p => ?_) fun x cls dd H' e sm xr => e cls dd H' sm xr
        refine ⟨_, rfl, ?_⟩
        rw [isN_rep p.rep]
        obtain ⟨kk, e, q⟩ := q
        cases e
        exact q H' p.same
    · cases h
  | .mem ng a b, N, sc, cm, hid, e, X, W, k, h, G, nd => by
    simp only [okI] at h; unfold okE at h
    split at h
    · obtain ⟨c1, h⟩ := and2 h
      obtain ⟨c2, c3⟩ := and2 h
      have e := of_decide_eq_true c1
      subst e
      unfold CE.needs at nd
      have ha := ((soundE a (okI_of c2) G nd.1).1 c2).1
      have hb := ((soundE b (okI_of c3) G nd.2).1 c3).1
      refine Snd.of (PE.imp (pe_cmpR (memOp ng G.hu) ha hb (mark_of (okE_noset c3))) fun σ H Q ⟨S, ρ, hS, hE, w⟩ => ?_)
        (pt_cmpD (F := fun x y Q => memD x y fun r => Q (.bl (ng != r))) (fun _ _ _ _ q m => memD_mono q fun _ q => m _ q) (memOp ng G.hu) ha hb (mark_of (okE_noset c3)) (memD_bl ng) fun ρ Q E => by rw [wpE])
      unfold wpE at w
      exact bin_in (F := fun x y Q => memD x y fun r => Q (.bl (ng != r))) (fun _ _ _ _ q m => memD_mono q fun _ q => m _ q) hS hE w
    · cases h
  | .and es, N, sc, cm, hid, e, X, W, k, h, G, nd => by
    simp only [okI] at h; unfold okE at h
    split at h
    · obtain ⟨c1, c2⟩ := and2 h
      unfold CE.needs at nd
      obtain ⟨pe, pw⟩ := soundAnd es c2 (by simpa using c1) G nd
      refine Snd.of (PE.imp (pe _) fun σ H Q ⟨S, ρ, hS, hE, w⟩ => ⟨S, ρ, hS, hE, by unfold wpE at w; exact w⟩) (PT.imp (PW.pt (pw _)) fun σ H Q ⟨S, ρ, hS, hE, w⟩ => ⟨S, ρ, hS, hE, by unfold wpT wpE at w; exact w⟩)
    · cases h
  | .or es, N, sc, cm, hid, e, X, W, k, h, G, nd => by
    simp only [okI] at h; unfold okE at h
    split at h
    · obtain ⟨c1, c2⟩ := and2 h
      unfold CE.needs at nd
      obtain ⟨pe, pw⟩ := soundOr es c2 (by simpa using c1) G nd
      refine Snd.of (PE.imp (pe _) fun σ H Q ⟨S, ρ, hS, hE, w⟩ => ⟨S, ρ, hS, hE, by unfold wpE at w; exact w⟩) (PT.imp (PW.pt (pw _)) fun σ H Q ⟨S, ρ, hS, hE, w⟩ => ⟨S, ρ, hS, hE, by unfold wpT wpE at w; exact w⟩)
    · cases h
  | .ife c a b, N, sc, cm, hid, e, X, W, k, h, G, nd => by
    simp only [okI] at h; unfold okE at h
    split at h
    · obtain ⟨c1, h⟩ := and2 h
      obtain ⟨c2, c3⟩ := and2 h
      unfold CE.needs at nd
      obtain ⟨hc, tc⟩ := (soundE c (okI_of c1) G nd.1).1 c1
      obtain ⟨ha, ta⟩ := (soundE a (okI_of c2) G nd.2.1).1 c2
      obtain ⟨hb, tb⟩ := (soundE b (okI_of c3) G nd.2.2).1 c3
      refine Snd.of (PE.imp (pe_ifExp tc ha hb) fun σ H Q ⟨S, ρ, hS, hE, w⟩ => ?_) (PT.imp (pt_ifExp tc ta tb) fun σ H Q ⟨S, ρ, hS, hE, w⟩ => ?_)
      · unfold wpE at w
        refine tT_in hS hE (Qd := fun kk => if kk = true then wpE a ρ _ _ else wpE b ρ _ _) w (fun kk H' q sm => ?_) fun x cls dd H' e sm xr => e cls dd H' sm xr
        split
        · rename_i hk
          rw [if_pos hk] at q
          exact tE_in (hS.mono sm) (hE.mono sm) q (fun d v H2 q p => q v H2 (⟨sm.trans p.same, p.rep, fun e => (Post.trans sm p).top (by
            have e2 : a.fresh = true ∧ b.fresh = true := and2 e
            exact e2.1)⟩)) fun x cls dd H' e sm' xr => e cls dd H' (sm.trans sm') xr
        · rename_i hk
          rw [if_neg hk] at q
          exact tE_in (hS.mono sm) (hE.mono sm) q (fun d v H2 q p => q v H2 (⟨sm.trans p.same, p.rep, fun e => (Post.trans sm p).top (by
            have e2 : a.fresh = true ∧ b.fresh = true := and2 e
            exact e2.2)⟩)) fun x cls dd H' e sm' xr => e cls dd H' (sm.trans sm') xr
      · unfold wpT wpE at w
        refine tT_in hS hE (Qd := fun kk => if kk = true then wpE a ρ _ _ else wpE b ρ _ _) w (fun kk H' q sm => ?_) fun x cls dd H' e sm xr => e cls dd H' sm xr
        split
        · rename_i hk
          rw [if_pos hk] at q
          exact tT_in (hS.mono sm) (hE.mono sm) q (fun kk H2 q sm2 => q H2 (sm.trans sm2)) fun x cls dd H' e sm' xr => e cls dd H' (sm.trans sm') xr
        · rename_i hk
          rw [if_neg hk] at q
          exact tT_in (hS.mono sm) (hE.mono sm) q (fun kk H2 q sm2 => q H2 (sm.trans sm2)) fun x cls dd H' e sm' xr => e cls dd H' (sm.trans sm') xr
    · cases h
  | .tup es, N, sc, cm, hid, e, X, W, k, h, G, nd => by
    simp only [okI] at h; unfold okE at h
    split at h
    · unfold CE.needs at nd
      have ha := soundEs es h G nd
      refine Snd.of1 (PE.imp (pe_tup ha) fun σ H Q ⟨S, ρ, hS, hE, w⟩ => ?_) rfl
      unfold wpE at w
      refine tL_in hS hE w (fun ds vs H' ⟨z, q⟩ sm r => ⟨by rw [← szl_eq, ← r.length]; exact z, fun p hp => ?_⟩) fun x cls dd H' e sm xr => e cls dd H' sm xr
      exact q _ _ (Post.trans sm (post_tup (hS.mono sm) r hp))
    · cases h
  | .lst es, N, sc, cm, hid, e, X, W, k, h, G, nd => by
    simp only [okI] at h; unfold okE at h
    split at h
    · unfold CE.needs at nd
      have ha := soundEs es h G nd
      refine Snd.of1 (PE.imp (pe_lst ha) fun σ H Q ⟨S, ρ, hS, hE, w⟩ => ?_) rfl
      unfold wpE at w
      refine tL_in hS hE w (fun ds vs H' ⟨z, q⟩ sm r => ⟨by rw [← szl_eq, ← r.length]; exact z, fun p hp => ?_⟩) fun x cls dd H' e sm xr => e cls dd H' sm xr
      exact q _ _ (Post.trans sm (post_lst (hS.mono sm) r hp))
    · cases h
  | .ix a i, N, sc, cm, hid, e, X, W, k, h, G, nd => by
    simp only [okI] at h; unfold okE at h
    split at h
    · obtain ⟨c2, c3⟩ := and2 h
      unfold CE.needs at nd
      have ha := ((soundE a (okI_of c2) G nd.1).1 c2).1
      have hb := ((soundE i (okI_of c3) G nd.2).1 c3).1
      refine Snd.of1 (PE.imp (pe_ix ix_D ha hb (subs_of (okE_pl c3))) fun σ H Q ⟨S, ρ, hS, hE, w⟩ => ?_) rfl
      unfold wpE at w
      exact bin_in (fun _ _ _ _ => ixD_mono) hS hE w
    · cases h
  | .sl a l u, N, sc, cm, hid, e, X, W, k, h, G, nd => by
    simp only [okI] at h; unfold okE at h
    split at h
    · rename_i x lo hi p2 p
      obtain ⟨h, c3⟩ := and2 h
      obtain ⟨c1, c2⟩ := and2 h
      unfold CE.needs at nd
      have ha := ((soundE a (okI_of c1) G nd.1).1 c1).1
      have hl : ∃ tl : TO, PO X lo tl ∧ ∀ {σ H} {Q : Option Int → Hp → Prop} {S ρ}, SOk H S → EV X.K S hid H σ ρ → wpE l ρ (fun y => ∃ o, partD l.isNop y = some o ∧ ∀ H', Same H H' → Q o H') (fun x => ∀ cls dd H', Same H H' → XRep X.K X.mg x cls dd → W cls dd σ H') → tl σ H Q := by
        cases lo with
        | none =>
          refine ⟨tNoPart, po_none, fun {σ H Q S ρ} hS hE w => ?_⟩
          cases l with
          | nop =>
            unfold wpE at w
            obtain ⟨o, e, q⟩ := w
            cases e
            exact q H (Same.refl _)
          | _ => cases c2
        | some lo =>
          obtain ⟨n1, n2⟩ := and2 c2
          have hb := ((soundE l (okI_of n2) G nd.2.1).1 n2).1
          have n1' : l.isNop = false := by simpa using n1
          refine ⟨tPart (tE X.K X.mg W hid l), po_some hb, fun {σ H Q S ρ} hS hE w => ?_⟩
          refine tE_in hS hE w (fun d v H' ⟨o, e, q⟩ p => ?_) fun x cls dd H' e sm xr => e cls dd H' sm xr
          rw [n1'] at e
          cases d with
          | int j => cases e; cases rep_int p.rep; exact ⟨j, rfl, q H' p.same⟩
          | _ => cases e
      have hu : ∃ tl : TO, PO X hi tl ∧ ∀ {σ H} {Q : Option Int → Hp → Prop} {S ρ}, SOk H S → EV X.K S hid H σ ρ → wpE u ρ (fun y => ∃ o, partD u.isNop y = some o ∧ ∀ H', Same H H' → Q o H') (fun x => ∀ cls dd H', Same H H' → XRep X.K X.mg x cls dd → W cls dd σ H') → tl σ H Q := by
        cases hi with
        | none =>
          refine ⟨tNoPart, po_none, fun {σ H Q S ρ} hS hE w => ?_⟩
          cases u with
          | nop =>
            unfold wpE at w
            obtain ⟨o, e, q⟩ := w
            cases e
            exact q H (Same.refl _)
          | _ => cases c3
        | some hi =>
          obtain ⟨n1, n2⟩ := and2 c3
          have hb := ((soundE u (okI_of n2) G nd.2.2).1 n2).1
          have n1' : u.isNop = false := by simpa using n1
          refine ⟨tPart (tE X.K X.mg W hid u), po_some hb, fun {σ H Q S ρ} hS hE w => ?_⟩
          refine tE_in hS hE w (fun d v H' ⟨o, e, q⟩ p => ?_) fun x cls dd H' e sm xr => e cls dd H' sm xr
          rw [n1'] at e
          cases d with
          | int j => cases e; cases rep_int p.rep; exact ⟨j, rfl, q H' p.same⟩
          | _ => cases e
      obtain ⟨tl, pl, il⟩ := hl
      obtain ⟨tu, pu, iu⟩ := hu
      refine Snd.of1 (PE.imp (pe_slice sl_D ha pl pu) fun σ H Q ⟨S, ρ, hS, hE, w⟩ => ?_) rfl
      unfold wpE at w
      refine tE_in hS hE w (fun d v H1 q p1 => il (hS.mono p1.same) (hE.mono p1.same) (wpE_mono l q (fun y ⟨o, e, q⟩ => ⟨o, e, fun H2 sm2 => iu ((hS.mono p1.same).mono sm2) ((hE.mono p1.same).mono sm2) (wpE_mono u q (fun z ⟨o', e', q⟩ => ⟨o', e', fun H3 sm3 => ?_⟩) fun x e cls dd H' sm xr => e cls dd H' ((p1.same.trans sm2).trans sm) xr)⟩)
        fun x e cls dd H' sm xr => e cls dd H' (p1.same.trans sm) xr)) fun x cls dd H' e sm xr => e cls dd H' sm xr
      exact ⟨S, d, ((hS.mono p1.same).mono sm2).mono sm3, (p1.rep.mono (Same.hide sm2)).mono (Same.hide sm3), slD_mono q fun d q v H' p => q v H' (p.trans ((p1.same.trans sm2).trans sm3))⟩
    · cases h
  | .nop, N, sc, cm, hid, e, X, W, k, h, G, nd => by
    simp only [okI] at h; unfold okE at h
    cases h
  | .call f sp es, N, sc, cm, hid, e, X, W, k, h, G, nd => by
    simp only [okI] at h; unfold okE at h
    split at h
    · rename_i x p vs pos
      obtain ⟨h, c5⟩ := and2 h
      obtain ⟨h, c4⟩ := and2 h
      obtain ⟨h, c3⟩ := and2 h
      obtain ⟨c1, c2⟩ := and2 h
      have e := of_decide_eq_true c2
      subst e
      unfold CE.needs at nd
      have ha := soundEs es c5 G nd.2
      cases vs with
      | nil =>
        cases es with
        | nil => exact Snd.of1 (call0_D G c1 c3 nd.1) rfl
        | cons _ _ => unfold okEs at c5; cases c5
      | cons v vs => exact Snd.of1 (call_D G c1 c3 c5 ha nd.1) rfl
    · cases h
  | .blt f es, N, sc, cm, hid, e, X, W, k, h, G, nd => by
    simp only [okI] at h; unfold okE at h
    split at h
    · rename_i x p vs pos
      obtain ⟨h, c5⟩ := and2 h
      obtain ⟨h, c4⟩ := and2 h
      obtain ⟨h, c3⟩ := and2 h
      obtain ⟨c1, c2⟩ := and2 h
      have e := of_decide_eq_true c2
      subst e
      unfold CE.needs at nd
      have ha := soundEs es c5 G nd
      cases vs with
      | nil => cases c4
      | cons v vs => exact Snd.of1 (bf_D G c1 c3 c5 ha) rfl
    · cases h
  | .isi a t, N, sc, cm, hid, e, X, W, k, h, G, nd => by
    simp only [okI] at h; unfold okE at h
    split at h
    · obtain ⟨h, c6⟩ := and2 h
      obtain ⟨h, c5⟩ := and2 h
      obtain ⟨h, c4⟩ := and2 h
      obtain ⟨h, c3⟩ := and2 h
      obtain ⟨c1, c2⟩ := and2 h
      have e1 := of_decide_eq_true c1
      have e2 := of_decide_eq_true c3
      subst e1 e2
      unfold CE.needs at nd
      have ha := ((soundE a (okI_of c5) G nd).1 c5).1
      refine Snd.of1 (isi_of G c2 c4 (okE_pl c5) ?_ ha) rfl
      cases t <;> first | exact ⟨_, rfl⟩ | cases c6
    · cases h
  | .lc t it ifs elt, N, sc, cm, hid, e, X, W, k, h, G, nd => by
    simp only [okI] at h; unfold okE at h
    split at h
    · rename_i el tg iter fs scope pos
      obtain ⟨h, c8⟩ := and2 h
      obtain ⟨h, c7⟩ := and2 h
      obtain ⟨h, c6⟩ := and2 h
      obtain ⟨h, c5⟩ := and2 h
      obtain ⟨h, c4⟩ := and2 h
      obtain ⟨h, c3⟩ := and2 h
      obtain ⟨c1, c2⟩ := and2 h
      unfold CE.needs at nd
      obtain ⟨hc, hr⟩ := G.cm c1
      have hi := (soundE it c2 G nd.1).2 tg
      have hsl := okT_slots t tg c5
      have eo : (ownOf N t).map (·.2) = t.slots := own_snd hsl
      have hss : ∀ x, foldedSetIterable iter X.env x = pure x := by
        intro x
        cases iter <;> first | rfl | (cases it <;> simp [okI, okE] at c2)
      have key := pe_lc (pos := pos) (elt := el) (te := tE X.K X.mg W0 hid elt) (g := gD X.K t) (tt := tIs X.K X.mg W0 hid ifs) hc (by rw [G.nn]; exact G.nd) hi (own := ownOf N t) (blkOk_by (by rw [G.nn, G.sc]; exact c3))
        (fun s H C cl fp => pg_D (G.blk s H scope C cl fp).nn G.nd (G.blk s H scope C cl fp).sc hc (fun x _ h2 => fn_blk G.sc s H scope C cl fp x h2) t tg c5)
        (fun s H C cl fp => pts_in (ifs := ifs) (fs := fs) (mg := X.mg) (W := W0) (hid := hid) (by
          cases ifs with
          | nil =>
            unfold okEs at c7
            rw [List.isEmpty_iff] at c7
            exact .inl ⟨rfl, c7⟩
          | cons c cs =>
            cases fs with
            | nil => unfold okEs at c7; cases c7
            | cons f fs =>
              unfold okEs at c7
              obtain ⟨k1, k2⟩ := and2 c7
              have z := of_decide_eq_true c6
              have e1 : fs = [] := by
                cases fs with
                | nil => rfl
                | cons _ _ => simp at z
              subst e1
              have e2 : cs = [] := by
                have := okEs_len k2
                simpa using this
              subst e2
              have nd2 := nd.2.1
              unfold CE.needsL at nd2
              exact .inr ⟨c, f, rfl, rfl, ((soundE c (okI_of k1) (G.blk s H scope C cl fp) nd2.1).1 k1).2⟩))
        (fun s H C cl fp => ((soundE elt (okI_of c8) (G.blk s H scope C cl fp) nd.2.2).1 c8).1) hss
      rw [eo] at key
      exact Snd.of1 (PE.imp key fun σ H Q w => lc_in w) rfl
    · cases h
  | .lc2 t it t2 it2 ifs elt, N, sc, cm, hid, e, X, W, k, h, G, nd => by
    simp only [okI] at h; unfold okE at h
    split at h
    · rename_i el tg iter tg2 iter2 fs scope pos
      obtain ⟨h, c10⟩ := and2 h
      obtain ⟨h, c9⟩ := and2 h
      obtain ⟨h, c8⟩ := and2 h
      obtain ⟨h, c7⟩ := and2 h
      obtain ⟨h, c6⟩ := and2 h
      obtain ⟨h, c5⟩ := and2 h
      obtain ⟨h, c4⟩ := and2 h
      obtain ⟨h, c3⟩ := and2 h
      obtain ⟨c1, c2⟩ := and2 h
      unfold CE.needs at nd
      obtain ⟨hc, hr⟩ := G.cm c1
      have hi := (soundE it c2 G nd.1).2 tg
      have hsl := okT_slots t tg c5
      have hsl2 := okT_slots t2 tg2 c6
      have eo : (ownOf N t ++ ownOf N t2).map (·.2) = t.slots ++ t2.slots := by
        rw [List.map_append]
        exact congr (congrArg _ (own_snd hsl)) (own_snd hsl2)
      have hss : ∀ x, foldedSetIterable iter X.env x = pure x := by
        intro x
        cases iter <;> first | rfl | (cases it <;> simp [okI, okE] at c2)
      have hss2 : ∀ env x, foldedSetIterable iter2 env x = pure x := by
        intro env x
        cases iter2 <;> first | rfl | (cases it2 <;> simp [okI, okE] at c7)
      have key := pe_lc2 (pos := pos) (elt := el) (te := tE X.K X.mg W0 hid elt) (g := gD X.K t) (tt := tYes) (g1 := gD X.K t2) (tt1 := tIs X.K X.mg W0 hid ifs) (wi1 := iW X.K X.mg W0 hid (wpE it2)) (vs1 := t2.slots) hc (by rw [G.nn]; exact G.nd) hi (own := ownOf N t ++ ownOf N t2) (blkOk_by (by rw [G.nn, G.sc]; exact c3))
        (by rw [eo]; exact fun i hi => List.mem_append_right _ hi)
        (fun s H C cl fp => pg_D (G.blk s H scope C cl fp).nn G.nd (G.blk s H scope C cl fp).sc hc (fun x _ h2 => fn_blk G.sc s H scope C cl fp x h2) t tg c5)
        (fun s H C cl fp => pts_nil)
        (fun s H C cl fp => (soundE it2 c7 (G.blk s H scope C cl fp) nd.2.1).2 tg2)
        (fun s H C cl fp => pg_D (G.blk s H scope C cl fp).nn G.nd (G.blk s H scope C cl fp).sc hc (fun x _ h2 => fn_blk G.sc s H scope C cl fp x h2) t2 tg2 c6)
        (fun s H C cl fp => pts_in (ifs := ifs) (fs := fs) (mg := X.mg) (W := W0) (hid := hid) (by
          cases ifs with
          | nil =>
            unfold okEs at c9
            rw [List.isEmpty_iff] at c9
            exact .inl ⟨rfl, c9⟩
          | cons c cs =>
            cases fs with
            | nil => unfold okEs at c9; cases c9
            | cons f fs =>
              unfold okEs at c9
              obtain ⟨k1, k2⟩ := and2 c9
              have z := of_decide_eq_true c8
              have e1 : fs = [] := by
                cases fs with
                | nil => rfl
                | cons _ _ => simp at z
              subst e1
              have e2 : cs = [] := by
                have := okEs_len k2
                simpa using this
              subst e2
              have nd2 := nd.2.2.1
              unfold CE.needsL at nd2
              exact .inr ⟨c, f, rfl, rfl, ((soundE c (okI_of k1) (G.blk s H scope C cl fp) nd2.1).1 k1).2⟩))
        (fun s H C cl fp => ((soundE elt (okI_of c10) (G.blk s H scope C cl fp) nd.2.2.2).1 c10).1) hss hss2
      rw [eo] at key
      exact Snd.of1 (PE.imp key fun σ H Q w => lc2_in w) rfl
    · cases h
  | .rng es, N, sc, cm, hid, e, X, W, k, h, G, nd => by
    unfold okI at h
    split at h
    · rename_i x p vs pos
      obtain ⟨h, c5⟩ := and2 h
      obtain ⟨h, c4⟩ := and2 h
      obtain ⟨h, c3⟩ := and2 h
      obtain ⟨c1, c2⟩ := and2 h
      have e := of_decide_eq_true c2
      subst e
      unfold CE.needs at nd
      have ha := soundEs es c5 G nd
      have hm := G.fr "range" (by decide +kernel)
      refine ⟨fun z => by simp [okE] at z, fun tg => ?_⟩
      match vs, c4, c5, ha with
      | [], c4, c5, ha => simp at c4
      | [a], _, c5, ha =>
        have s1 : plB a = true := by
          cases es with
          | nil => simp [okEs] at c5
          | cons c cs => unfold okEs at c5; exact okE_pl (and2 c5).1
        have ln := okEs_len c5
        refine ⟨fun pins s σ H R I w => (pi_range1 (gl_of G c3) hm ha (star_of s1 _ _)).run pins s σ H R I ?_⟩
        obtain ⟨S, ρ, hS, hE, w⟩ := w
        unfold wpE at w
        refine tL_in hS hE (wpEs_len w) (fun ds ws H' ⟨l1, q⟩ sm r => ?_) fun x cls dd H' e sm xr => e cls dd H' sm xr
        unfold rngD at q
        split at q
        · obtain ⟨v, rfl, hv⟩ := reps1 r
          cases rep_int hv
          obtain ⟨q1, q2, ds, e, q⟩ := q
          cases e
          exact ⟨_, rfl, q1, q2, q _ _ sm draws_rng⟩
        · simp at l1 ln
          omega
        · exact q.elim
      | [a, b], _, c5, ha =>
        have s1 : plB a = true ∧ plB b = true := by
          match es, c5 with
          | [], c5 => simp [okEs] at c5
          | [c], c5 => simp [okEs] at c5
          | c :: c' :: cs, c5 =>
            simp only [okEs] at c5
            obtain ⟨k1, k2⟩ := and2 c5
            exact ⟨okE_pl k1, okE_pl (and2 k2).1⟩
        have ln := okEs_len c5
        refine ⟨fun pins s σ H R I w => (pi_range2 (gl_of G c3) hm ha (by rw [star_of s1.1, star_of s1.2]; rfl) (star_of s1.2 _ _)).run pins s σ H R I ?_⟩
        obtain ⟨S, ρ, hS, hE, w⟩ := w
        unfold wpE at w
        refine tL_in hS hE (wpEs_len w) (fun ds ws H' ⟨l1, q⟩ sm r => ?_) fun x cls dd H' e sm xr => e cls dd H' sm xr
        unfold rngD at q
        split at q
        · simp at l1 ln
          omega
        · obtain ⟨v, v', rfl, hv, hv'⟩ := reps2 r
          cases rep_int hv
          cases rep_int hv'
          obtain ⟨q1, q2, q3, q4, ds, e, q⟩ := q
          cases e
          exact ⟨_, _, rfl, ⟨q1, q2, q3, q4⟩, q _ _ sm draws_rng⟩
        · exact q.elim
      | a :: b :: c :: vs, c4, c5, ha => simp at c4
    · cases h
  | .enm a, N, sc, cm, hid, e, X, W, k, h, G, nd => by
    simp only [okI] at h; unfold okE at h
    cases h
  | .zip a b, N, sc, cm, hid, e, X, W, k, h, G, nd => by
    simp only [okI] at h; unfold okE at h
    cases h
theorem soundEs : ∀ (es : List CE) {N : List Str} {sc : Scope} {cm : Bool} {hid : List Nat} {vs : List Expr} {X : Cx} {W : WX} {k : Nat}, okEs N sc cm hid es vs = true → Gd X N sc cm W k → CE.needsL (FC X k) (GC X) es → PA X vs (tL X.K X.mg W hid es)
  | [], N, sc, cm, hid, vs, X, W, k, h, G, nd => by
    unfold okEs at h
    rw [List.isEmpty_iff] at h
    subst h
    exact PA.imp pa_nil fun σ H Q w => tL_nil w
  | c :: cs, N, sc, cm, hid, [], X, W, k, h, G, nd => by unfold okEs at h; cases h
  | c :: cs, N, sc, cm, hid, v :: vs, X, W, k, h, G, nd => by
    unfold okEs at h
    obtain ⟨k1, k2⟩ := and2 h
    unfold CE.needsL at nd
    have ha := ((soundE c (okI_of k1) G nd.1).1 k1).1
    have hb := soundEs cs k2 G nd.2
    exact PA.imp (pa_cons ha hb (star_of (okE_pl k1) _ _)) fun σ H Q w => tL_cons w
theorem soundAnd : ∀ (es : List CE) {N : List Str} {sc : Scope} {cm : Bool} {hid : List Nat} {vs : List Expr} {X : Cx} {W : WX} {k : Nat}, okEs N sc cm hid es vs = true → vs ≠ [] → Gd X N sc cm W k → CE.needsL (FC X k) (GC X) es →
    (∀ pos, PE X (.BoolOp .And vs pos) (tW X.K X.mg W hid (wpAnd es) false)) ∧ ∀ pos, PW X (.BoolOp .And vs pos) (tTW X.K X.mg W hid (wpAnd es))
  | [], N, sc, cm, hid, vs, X, W, k, h, ne, G, nd => by
    unfold okEs at h
    rw [List.isEmpty_iff] at h
    exact absurd h ne
  | c :: cs, N, sc, cm, hid, [], X, W, k, h, ne, G, nd => absurd rfl ne
  | [c], N, sc, cm, hid, v :: vs, X, W, k, h, ne, G, nd => by
    unfold okEs at h
    obtain ⟨k1, k2⟩ := and2 h
    unfold okEs at k2
    rw [List.isEmpty_iff] at k2
    subst k2
    unfold CE.needsL at nd
    obtain ⟨ha, ta⟩ := (soundE c (okI_of k1) G nd.1).1 k1
    refine ⟨fun pos => PE.imp (pe_one ha) fun σ H Q ⟨S, ρ, hS, hE, w⟩ => ?_, fun pos => PW.imp (pw_and1 ta) fun σ H Q ⟨S, ρ, hS, hE, w⟩ => ?_⟩
    · unfold wpAnd at w
      exact tE_in hS hE w (fun d v H' q p => q v H' ⟨p.same, p.rep, fun z => by cases z⟩) fun x cls dd H' e sm xr => e cls dd H' sm xr
    · unfold wpAnd at w
      exact ⟨S, ρ, hS, hE, w⟩
  | c :: c' :: cs, N, sc, cm, hid, [v], X, W, k, h, ne, G, nd => by
    simp only [okEs] at h
    cases (and2 h).2
  | c :: c' :: cs, N, sc, cm, hid, v :: v' :: vs, X, W, k, h, ne, G, nd => by
    have h' := h
    unfold okEs at h
    obtain ⟨k1, k2⟩ := and2 h
    unfold CE.needsL at nd
    obtain ⟨ha, ta⟩ := (soundE c (okI_of k1) G nd.1).1 k1
    obtain ⟨pe, pw⟩ := soundAnd (c' :: cs) k2 (List.cons_ne_nil _ _) G nd.2
    refine ⟨fun pos => PE.imp (pe_andT ha (pe pos)) fun σ H Q ⟨S, ρ, hS, hE, w⟩ => ?_, fun pos => PW.imp (pw_and ta (pw pos)) fun σ H Q ⟨S, ρ, hS, hE, w⟩ => ?_⟩
    · unfold wpAnd at w
      refine tE_in hS hE w (fun d v H' ⟨kk, e, q⟩ p => ⟨kk, TruV.hide (tru_of p.rep e), ?_⟩) fun x cls dd H' e sm xr => e cls dd H' sm xr
      split
      · rename_i hk
        rw [if_pos hk] at q
        exact ⟨S, ρ, hS.mono p.same, hE.mono p.same, wpAnd_mono _ q (fun d q v H2 p2 => q v H2 (p2.trans p.same)) fun x e cls dd H' sm xr => e cls dd H' (p.same.trans sm) xr⟩
      · rename_i hk
        rw [if_neg hk] at q
        exact q v H' ⟨p.same, p.rep, fun z => by cases z⟩
    · unfold wpAnd at w
      refine tT_in (Qd := fun kk => ∃ d, truD d = some kk ∧ (if kk = true then wpAnd (c' :: cs) ρ _ _ else _)) hS hE (wpE_mono c w (fun d ⟨kk, e, q⟩ => ⟨kk, e, d, e, q⟩) fun _ q => q) (fun kk H' ⟨d, e, q⟩ sm => ?_) fun x cls dd H' e sm xr => e cls dd H' sm xr
      split
      · rename_i hk
        rw [if_pos hk] at q
        exact ⟨S, ρ, hS.mono sm, hE.mono sm, wpAnd_mono _ q (fun d ⟨k2, e2, q⟩ => ⟨k2, e2, fun H2 sm2 => q H2 (sm.trans sm2)⟩) fun x e cls dd H' sm2 xr => e cls dd H' (sm.trans sm2) xr⟩
      · rename_i hk
        rw [if_neg hk] at q
        obtain ⟨k2, e2, q⟩ := q
        rw [e] at e2
        cases e2
        have ef : kk = false := by simpa using hk
        subst ef
        exact q H' sm
theorem soundOr : ∀ (es : List CE) {N : List Str} {sc : Scope} {cm : Bool} {hid : List Nat} {vs : List Expr} {X : Cx} {W : WX} {k : Nat}, okEs N sc cm hid es vs = true → vs ≠ [] → Gd X N sc cm W k → CE.needsL (FC X k) (GC X) es →
    (∀ pos, PE X (.BoolOp .Or vs pos) (tW X.K X.mg W hid (wpOr es) false)) ∧ ∀ pos, PW X (.BoolOp .Or vs pos) (tTW X.K X.mg W hid (wpOr es))
  | [], N, sc, cm, hid, vs, X, W, k, h, ne, G, nd => by
    unfold okEs at h
    rw [List.isEmpty_iff] at h
    exact absurd h ne
  | c :: cs, N, sc, cm, hid, [], X, W, k, h, ne, G, nd => absurd rfl ne
  | [c], N, sc, cm, hid, v :: vs, X, W, k, h, ne, G, nd => by
    unfold okEs at h
    obtain ⟨k1, k2⟩ := and2 h
    unfold okEs at k2
    rw [List.isEmpty_iff] at k2
    subst k2
    unfold CE.needsL at nd
    obtain ⟨ha, ta⟩ := (soundE c (okI_of k1) G nd.1).1 k1
    refine ⟨fun pos => PE.imp (pe_one ha) fun σ H Q ⟨S, ρ, hS, hE, w⟩ => ?_, fun pos => PW.imp (pw_or1 ta) fun σ H Q ⟨S, ρ, hS, hE, w⟩ => ?_⟩
    · unfold wpOr at w
      exact tE_in hS hE w (fun d v H' q p => q v H' ⟨p.same, p.rep, fun z => by cases z⟩) fun x cls dd H' e sm xr => e cls dd H' sm xr
    · unfold wpOr at w
      exact ⟨S, ρ, hS, hE, w⟩
  | c :: c' :: cs, N, sc, cm, hid, [v], X, W, k, h, ne, G, nd => by
    simp only [okEs] at h
    cases (and2 h).2
  | c :: c' :: cs, N, sc, cm, hid, v :: v' :: vs, X, W, k, h, ne, G, nd => by
    unfold okEs at h
    obtain ⟨k1, k2⟩ := and2 h
    unfold CE.needsL at nd
    obtain ⟨ha, ta⟩ := (soundE c (okI_of k1) G nd.1).1 k1
    obtain ⟨pe, pw⟩ := soundOr (c' :: cs) k2 (List.cons_ne_nil _ _) G nd.2
    refine ⟨fun pos => PE.imp (pe_orT ha (pe pos)) fun σ H Q ⟨S, ρ, hS, hE, w⟩ => ?_, fun pos => PW.imp (pw_or ta (pw pos)) fun σ H Q ⟨S, ρ, hS, hE, w⟩ => ?_⟩
    · unfold wpOr at w
      refine tE_in hS hE w (fun d v H' ⟨kk, e, q⟩ p => ⟨kk, TruV.hide (tru_of p.rep e), ?_⟩) fun x cls dd H' e sm xr => e cls dd H' sm xr
      split
      · rename_i hk
        rw [if_pos hk] at q
        exact q v H' ⟨p.same, p.rep, fun z => by cases z⟩
      · rename_i hk
        rw [if_neg hk] at q
        exact ⟨S, ρ, hS.mono p.same, hE.mono p.same, wpOr_mono _ q (fun d q v H2 p2 => q v H2 (p2.trans p.same)) fun x e cls dd H' sm xr => e cls dd H' (p.same.trans sm) xr⟩
    · unfold wpOr at w
      refine tT_in (Qd := fun kk => ∃ d, truD d = some kk ∧ (if kk = true then _ else wpOr (c' :: cs) ρ _ _)) hS hE (wpE_mono c w (fun d ⟨kk, e, q⟩ => ⟨kk, e, d, e, q⟩) fun _ q => q) (fun kk H' ⟨d, e, q⟩ sm => ?_) fun x cls dd H' e sm xr => e cls dd H' sm xr
      split
      · rename_i hk
        rw [if_pos hk] at q
        obtain ⟨k2, e2, q⟩ := q
        rw [e] at e2
        cases e2
        subst hk
        exact q H' sm
      · rename_i hk
        rw [if_neg hk] at q
        exact ⟨S, ρ, hS.mono sm, hE.mono sm, wpOr_mono _ q (fun d ⟨k2, e2, q⟩ => ⟨k2, e2, fun H2 sm2 => q H2 (sm.trans sm2)⟩) fun x e cls dd H' sm2 xr => e cls dd H' (sm.trans sm2) xr⟩
end
end Dl

/-! DlOwn: the slots of a body that runs: what each holds, which own their lists. -/
namespace Dl
open PySem PySem.Spec PyProof.Rows L2
abbrev Fl := List Nat
/-- the addresses that are owned (and what the caller hides) -/
abbrev adr (O : List (Nat × Addr)) (S0 : List Addr) : List Addr := O.map (·.2) ++ S0
/-- a container at its own place -/
def OwnRep (K : PySem.W.Frag) (H : Hp) (T : List Addr) (a : Addr) (d : D) (v : V) : Prop := match d with
  | .lst ds => v = .ref a ∧ ∃ vs, H a = some (.lst vs) ∧ Reps K (hide H T) ds vs
  | _ => False
structure Own (He : Hp) (H : Hp) (fl : Fl) (O : List (Nat × Addr)) : Prop where
  sl : ∀ p ∈ O, p.1 ∈ fl
  new : ∀ p ∈ O, He p.2 = none
  mu : ∀ p ∈ O, Mut (H p.2)
  inj : ∀ p ∈ O, ∀ q ∈ O, p.2 = q.2 → p = q
structure ERO (K : PySem.W.Frag) (He : Hp) (S0 : List Addr) (Vw : Hp) (fl : Fl) (O : List (Nat × Addr)) (σ : L2.St) (H : Hp) (ρ : DEnv) : Prop where
  len : σ.length = ρ.length
  same : Same He H
  s0 : SOk He S0
  own : Own He H fl O
  vis : Same Vw (hide H (adr O S0))
  rep : ∀ (i : Nat) (d : D), ρ[i]? = some (some d) → ∃ v, σ[i]? = some (some v) ∧ (((i ∉ fl ∨ d.cont = false) ∧ Rep K (hide H (adr O S0)) d v) ∨ (i ∈ fl ∧ ∃ a, (i, a) ∈ O ∧ OwnRep K H (adr O S0) a d v))
def ER (K : PySem.W.Frag) (He : Hp) (S0 : List Addr) (Vw : Hp) (fl : Fl) (σ : L2.St) (H : Hp) (ρ : DEnv) : Prop := ∃ O, ERO K He S0 Vw fl O σ H ρ
section
variable {K : PySem.W.Frag} {He : Hp} {S0 : List Addr} {Vw : Hp} {fl : Fl} {O : List (Nat × Addr)} {σ : L2.St} {H : Hp} {ρ : DEnv}
theorem ERO.sok (h : ERO K He S0 Vw fl O σ H ρ) {O' : List (Nat × Addr)} (hO : ∀ p ∈ O', p ∈ O) : SOk H (adr O' S0) := fun a ha => by
  rcases List.mem_append.mp ha with ha | ha
  · obtain ⟨p, hp, rfl⟩ := List.mem_map.mp ha
    exact h.own.mu p (hO p hp)
  · exact (h.s0.mono h.same) a ha
theorem ERO.nots0 (h : ERO K He S0 Vw fl O σ H ρ) {p : Nat × Addr} (hp : p ∈ O) : p.2 ∉ S0 := fun z => by
  have q := h.s0 _ z
  rw [h.own.new p hp] at q
  exact q
theorem adr_sub {O O' : List (Nat × Addr)} (h : ∀ p ∈ O', p ∈ O) : ∀ a ∈ adr O' S0, a ∈ adr O S0 := fun a ha => by
  rcases List.mem_append.mp ha with ha | ha
  · obtain ⟨p, hp, rfl⟩ := List.mem_map.mp ha
    exact List.mem_append_left _ (List.mem_map.mpr ⟨p, h p hp, rfl⟩)
  · exact List.mem_append_right _ ha
/-- an owned container that is hidden no more -/
theorem OwnRep.show_ {a : Addr} {d : D} {v : V} {T : List Addr} (h : OwnRep K H T a d v) {T' : List Addr} (hT : ∀ b ∈ T', b ∈ T) (ha : a ∉ T') : Rep K (hide H T') d v := by
  cases d with
  | lst ds =>
    obtain ⟨rfl, vs, e, r⟩ := h
    unfold Rep
    exact ⟨a, vs, rfl, .inl (.inl (by rw [hide_out ha]; exact e)), r.mono (hide_more hT)⟩
  | _ => exact h.elim
/-- for an expression that reads none of the slots at hid: the others' own places are seen -/
theorem ERO.ev (h : ERO K He S0 Vw fl O σ H ρ) (hid : List Nat) : EV K (adr (O.filter fun p => hid.contains p.1) S0) hid H σ ρ := by
  have sub : ∀ p ∈ O.filter (fun p => hid.contains p.1), p ∈ O := fun p hp => (List.mem_filter.mp hp).1
  refine ⟨h.len, fun i d e hi => ?_⟩
  obtain ⟨v, e1, r⟩ := h.rep i d e
  refine ⟨v, e1, ?_⟩
  rcases r with ⟨_, r⟩ | ⟨hf, a, ha, r⟩
  · exact r.mono (hide_more (adr_sub sub))
  · refine r.show_ (adr_sub sub) fun z => ?_
    rcases List.mem_append.mp z with z | z
    · obtain ⟨p, hp, e2⟩ := List.mem_map.mp z
      obtain ⟨p1, p2⟩ := List.mem_filter.mp hp
      have e3 := h.own.inj p p1 (i, a) ha e2
      subst e3
      exact hi (by simpa using p2)
    · exact h.nots0 ha z
/-- fewer slots own -/
theorem ERO.weak (h : ERO K He S0 Vw fl O σ H ρ) (fl' : Fl) (hs : ∀ i ∈ fl', i ∈ fl) : ERO K He S0 Vw fl' (O.filter fun p => fl'.contains p.1) σ H ρ := by
  have sub : ∀ p ∈ O.filter (fun p => fl'.contains p.1), p ∈ O := fun p hp => (List.mem_filter.mp hp).1
  have hin : ∀ p ∈ O.filter (fun p => fl'.contains p.1), p.1 ∈ fl' := fun p hp => by simpa using (List.mem_filter.mp hp).2
  refine ⟨h.len, h.same, h.s0, ⟨hin, fun p hp => h.own.new p (sub p hp), fun p hp => h.own.mu p (sub p hp), fun p hp q hq => h.own.inj p (sub p hp) q (sub q hq)⟩, h.vis.trans (hide_more (adr_sub sub)), fun i d e => ?_⟩
  obtain ⟨v, e1, r⟩ := h.rep i d e
  refine ⟨v, e1, ?_⟩
  rcases r with ⟨hc, r⟩ | ⟨hf, a, ha, r⟩
  · refine .inl ⟨?_, r.mono (hide_more (adr_sub sub))⟩
    rcases hc with hc | hc
    · exact .inl fun z => hc (hs i z)
    · exact .inr hc
  · by_cases hi : i ∈ fl'
    · refine .inr ⟨hi, a, List.mem_filter.mpr ⟨ha, by simpa using hi⟩, ?_⟩
      cases d with
      | lst ds =>
        obtain ⟨rfl, vs, e2, r⟩ := r
        exact ⟨rfl, vs, e2, r.mono (hide_more (adr_sub sub))⟩
      | _ => exact r.elim
    · refine .inl ⟨.inl hi, r.show_ (adr_sub sub) fun z => ?_⟩
      rcases List.mem_append.mp z with z | z
      · obtain ⟨p, hp, e2⟩ := List.mem_map.mp z
        have e3 := h.own.inj p (sub p hp) (i, a) ha e2
        have := hin p hp
        rw [e3] at this
        exact hi this
      · exact h.nots0 ha z
theorem ER.weak (h : ER K He S0 Vw fl σ H ρ) {fl' : Fl} (hs : ∀ i ∈ fl', i ∈ fl) : ER K He S0 Vw fl' σ H ρ := let ⟨_, q⟩ := h; ⟨_, q.weak fl' hs⟩
/-- the heap grows beside -/
theorem ERO.grow (h : ERO K He S0 Vw fl O σ H ρ) {H' : Hp} (sm : Same H H') : ERO K He S0 Vw fl O σ H' ρ := by
  refine ⟨h.len, h.same.trans sm, h.s0, ⟨h.own.sl, h.own.new, fun p hp => ?_, h.own.inj⟩, h.vis.trans (Same.hide sm), fun i d e => ?_⟩
  · have q := h.own.mu p hp
    cases z : H p.2 with
    | none => rw [z] at q; exact q.elim
    | some o => rw [sm _ _ z]; rw [z] at q; exact q
  · obtain ⟨v, e1, r⟩ := h.rep i d e
    refine ⟨v, e1, ?_⟩
    rcases r with ⟨hc, r⟩ | ⟨hf, a, ha, r⟩
    · exact .inl ⟨hc, r.mono (Same.hide sm)⟩
    · refine .inr ⟨hf, a, ha, ?_⟩
      cases d with
      | lst ds =>
        obtain ⟨rfl, vs, e2, r⟩ := r
        exact ⟨rfl, vs, sm _ _ e2, r.mono (Same.hide sm)⟩
      | _ => exact r.elim
/-- slots get values that never own: at sl, all rep'd beside -/
theorem ERO.store (h : ERO K He S0 Vw fl O σ H ρ) {sl : List Nat} {σ' : L2.St} {ρ' : DEnv} {fl' : Fl} (hf : ∀ i ∈ fl', i ∈ fl ∧ i ∉ sl) (hl : σ'.length = σ.length) (hr : ρ'.length = ρ.length)
    (out : ∀ i, i ∉ sl → σ'[i]? = σ[i]? ∧ ρ'[i]? = ρ[i]?) (inn : ∀ i d, i ∈ sl → ρ'[i]? = some (some d) → ∃ v, σ'[i]? = some (some v) ∧ Rep K (hide H (adr (O.filter fun p => fl'.contains p.1) S0)) d v) :
    ERO K He S0 Vw fl' (O.filter fun p => fl'.contains p.1) σ' H ρ' := by
  have w := h.weak fl' fun i hi => (hf i hi).1
  refine ⟨by rw [hl, hr]; exact h.len, w.same, w.s0, w.own, w.vis, fun i d e => ?_⟩
  by_cases hi : i ∈ sl
  · obtain ⟨v, e1, r⟩ := inn i d hi e
    exact ⟨v, e1, .inl ⟨.inl fun z => (hf i z).2 hi, r⟩⟩
  · obtain ⟨o1, o2⟩ := out i hi
    rw [o2] at e
    obtain ⟨v, e1, r⟩ := w.rep i d e
    exact ⟨v, by rw [o1]; exact e1, r⟩
/-- a slot gets a container of its own -/
theorem ERO.fresh (h : ERO K He S0 Vw fl O σ H ρ) {i : Nat} {a : Addr} {ds : List D} {vs : List V} (hi : i ∉ fl) (hil : i < ρ.length) (hn : He a = none) (hO : ∀ p ∈ O, p.2 ≠ a) (hV : Vw a = none) (e : H a = some (.lst vs)) (r : Reps K (hide H (a :: adr O S0)) ds vs)
    (hrep : ∀ j d, j ≠ i → ρ[j]? = some (some d) → ∃ v, σ[j]? = some (some v) ∧ (((j ∉ fl ∨ d.cont = false) ∧ Rep K (hide H (a :: adr O S0)) d v) ∨ (j ∈ fl ∧ ∃ b, (j, b) ∈ O ∧ OwnRep K H (a :: adr O S0) b d v))) :
    ERO K He S0 Vw (i :: fl) ((i, a) :: O) (σ.set i (some (.ref a))) H (ρ.set i (some (.lst ds))) := by
  have ns : a ∉ S0 := fun z => by
    have q := h.s0 _ z
    rw [hn] at q
    exact q
  refine ⟨by simp [h.len], h.same, h.s0, ⟨fun p hp => ?_, fun p hp => ?_, fun p hp => ?_, fun p hp q hq ee => ?_⟩, fun b o q => ?_, fun j d ej => ?_⟩
  · rcases List.mem_cons.mp hp with rfl | hp
    · exact List.mem_cons_self
    · exact List.mem_cons_of_mem _ (h.own.sl p hp)
  · rcases List.mem_cons.mp hp with rfl | hp
    · exact hn
    · exact h.own.new p hp
  · rcases List.mem_cons.mp hp with rfl | hp
    · rw [e]; trivial
    · exact h.own.mu p hp
  · rcases List.mem_cons.mp hp with rfl | hp
    · rcases List.mem_cons.mp hq with rfl | hq
      · rfl
      · exact absurd ee.symm (hO q hq)
    · rcases List.mem_cons.mp hq with rfl | hq
      · exact absurd ee (hO p hp)
      · exact h.own.inj p hp q hq ee
  · have hne : b ≠ a := fun z => by subst z; rw [hV] at q; cases q
    have q2 := h.vis b o q
    show hide H (a :: adr O S0) b = some o
    unfold hide at q2 ⊢
    split at q2
    · cases q2
    · rename_i hb
      rw [if_neg (by intro z; rcases List.mem_cons.mp z with z | z; exact hne z; exact hb z)]
      exact q2
  · by_cases hj : j = i
    · subst hj
      rw [List.getElem?_set_self hil] at ej
      cases ej
      exact ⟨.ref a, List.getElem?_set_self (by rw [h.len]; exact hil), .inr ⟨List.mem_cons_self, a, List.mem_cons_self, rfl, vs, e, r⟩⟩
    · rw [List.getElem?_set_ne (Ne.symm hj)] at ej
      obtain ⟨v, e1, rr⟩ := hrep j d hj ej
      refine ⟨v, by rw [List.getElem?_set_ne (Ne.symm hj)]; exact e1, ?_⟩
      rcases rr with ⟨hc, rr⟩ | ⟨hf, b, hb, rr⟩
      · refine .inl ⟨?_, rr⟩
        rcases hc with hc | hc
        · exact .inl fun z => (List.mem_cons.mp z).elim hj hc
        · exact .inr hc
      · exact .inr ⟨List.mem_cons_of_mem _ hf, b, List.mem_cons_of_mem _ hb, rr⟩
end
end Dl

/-! DlOkX: okE, okI once more, by structure: the kernel computes it. -/
namespace Dl
open PySem PySem.Spec PyProof.Rows L2
mutual
/-- okE (w false), okI (w true) -/
def okX (N : List Str) (sc : Scope) (cm : Bool) (hid : List Nat) (w : Bool) : CE → Expr → Bool
  | .var i, e => (match e with
    | .Name x _ => decide (N[i]? = some x) && visB sc x && !hid.contains i && !(x == ("__debug__" : Str)) && !(x == ("__classdict__" : Str))
    | _ => false)
  | .int i, e => (match e with | .Constant (.int j) _ _ => decide (i = j) | _ => false)
  | .bl b, e => (match e with | .Constant (.bool c) _ _ => b == c | _ => false)
  | .non, e => (match e with | .Constant .none _ _ => true | _ => false)
  | .str x, e => (match e with | .Constant (.str y) _ _ => decide (x = y) | _ => false)
  | .glob x _, e => (match e with | .Name y _ => decide (x = y) && gloB sc x | _ => false)
  | .bin o a b, e => (match e with | .BinOp l op r _ => decide (boOp o = op) && (okX N sc cm hid false a l && okX N sc cm hid false b r) | _ => false)
  | .cat a b, e => (match e with | .BinOp l op r _ => decide (Operator.Add = op) && (okX N sc cm hid false a l && okX N sc cm hid false b r) | _ => false)
  | .neg a, e => (match e with | .UnaryOp .USub x _ => okX N sc cm hid false a x | _ => false)
  | .not a, e => (match e with | .UnaryOp .Not x _ => okX N sc cm hid false a x | _ => false)
  | .cmp o a b, e => (match e with | .Compare l [op] [r] _ => decide (coOp o = op) && (okX N sc cm hid false a l && okX N sc cm hid false b r) | _ => false)
  | .chain o o' a b c, e => (match e with | .Compare l [op, op'] [r, r'] _ => decide (coOp o = op) && decide (coOp o' = op') && (okX N sc cm hid false a l && (okX N sc cm hid false b r && okX N sc cm hid false c r')) | _ => false)
  | .isN ng a, e => (match e with | .Compare l [op] [.Constant .none _ _] _ => decide (op = if ng = true then CmpOp.IsNot else CmpOp.Is) && okX N sc cm hid false a l | _ => false)
  | .mem ng a b, e => (match e with | .Compare l [op] [r] _ => decide (op = if ng = true then CmpOp.NotIn else CmpOp.In) && (okX N sc cm hid false a l && okX N sc cm hid false b r) | _ => false)
  | .and es, e => (match e with | .BoolOp .And vs _ => !vs.isEmpty && okXs N sc cm hid es vs | _ => false)
  | .or es, e => (match e with | .BoolOp .Or vs _ => !vs.isEmpty && okXs N sc cm hid es vs | _ => false)
  | .ife c a b, e => (match e with | .IfExp c' a' b' _ => okX N sc cm hid false c c' && (okX N sc cm hid false a a' && okX N sc cm hid false b b') | _ => false)
  | .tup es, e => (match e with | .Tuple vs _ _ => okXs N sc cm hid es vs | _ => false)
  | .lst es, e => (match e with | .List vs _ => okXs N sc cm hid es vs | _ => false)
  | .ix a i, e => (match e with | .Subscript x s _ => okX N sc cm hid false a x && okX N sc cm hid false i s | _ => false)
  | .sl a l h, e => (match e with
    | .Subscript x (.Slice lo hi none _) _ => okX N sc cm hid false a x && (match lo with | some lo => !l.isNop && okX N sc cm hid false l lo | none => l.isNop) &&
        (match hi with | some hi => !h.isNop && okX N sc cm hid false h hi | none => h.isNop)
    | _ => false)
  | .nop, _ => false
  | .call f _ es, e => (match e with | .Call (.Name x _) vs [] _ => cm && decide (f = x) && gloB sc x && true && okXs N sc cm hid es vs | _ => false)
  | .blt f es, e => (match e with | .Call (.Name x _) vs [] _ => cm && decide (bfN f = x) && gloB sc x && !vs.isEmpty && okXs N sc cm hid es vs | _ => false)
  | .isi a t, e => (match e with | .Call (.Name x _) [v, .Name y _] [] _ => decide (x = ("isinstance" : Str)) && gloB sc x && decide (tyN t = y) && gloB sc y && okX N sc cm hid false a v && (match t with | .cls _ => false | _ => true) | _ => false)
  | .lc t it ifs elt, e => (match e with
    | .ListComp el [⟨tg, iter, fs, 0⟩] scope _ => cm && okX N sc cm hid true it iter && blkC N sc scope (ownOf N t) && decide (t.slots.all fun i => !hid.contains i) && okT N (relS scope sc) (locB scope) t tg && decide (fs.length ≤ 1) &&
        okXs N (relS scope sc) cm hid ifs fs && okX N (relS scope sc) cm hid false elt el
    | _ => false)
  | .lc2 t it t2 it2 ifs elt, e => (match e with
    | .ListComp el [⟨tg, iter, [], 0⟩, ⟨tg2, iter2, fs, 0⟩] scope _ => cm && okX N sc cm hid true it iter && blkC N sc scope (ownOf N t ++ ownOf N t2) && decide ((t.slots ++ t2.slots).all fun i => !hid.contains i) && okT N (relS scope sc) (locB scope) t tg && okT N (relS scope sc) (locB scope) t2 tg2 &&
        okX N (relS scope sc) cm hid true it2 iter2 && decide (fs.length ≤ 1) && okXs N (relS scope sc) cm hid ifs fs && okX N (relS scope sc) cm hid false elt el
    | _ => false)
  | .rng es, e => (match e with | .Call (.Name x _) vs [] _ => w && (cm && decide (x = ("range" : Str)) && gloB sc x && (!vs.isEmpty && decide (vs.length ≤ 2)) && okXs N sc cm hid es vs) | _ => false)
  | .enm _, _ => false
  | .zip _ _, _ => false
termination_by structural c => c
def okXs (N : List Str) (sc : Scope) (cm : Bool) (hid : List Nat) : List CE → List Expr → Bool
  | [], es => es.isEmpty
  | c :: cs, es => (match es with
    | e :: es => okX N sc cm hid false c e && okXs N sc cm hid cs es
    | [] => false)
termination_by structural cs => cs
end
mutual
theorem okX_eq : ∀ (c : CE) (N : List Str) (sc : Scope) (cm : Bool) (hid : List Nat) (w : Bool) (e : Expr), okX N sc cm hid w c e = cond w (okI N sc cm hid c e) (okE N sc cm hid c e)
  | .bin o a b, N, sc, cm, hid, w, e => by cases w <;> simp only [okI, cond] <;> unfold okX okE <;> simp only [okX_eq a, okX_eq b, cond] <;> first | done | rfl
  | .cat a b, N, sc, cm, hid, w, e => by cases w <;> simp only [okI, cond] <;> unfold okX okE <;> simp only [okX_eq a, okX_eq b, cond] <;> first | done | rfl
  | .neg a, N, sc, cm, hid, w, e => by cases w <;> simp only [okI, cond] <;> unfold okX okE <;> simp only [okX_eq a, cond] <;> first | done | rfl
  | .not a, N, sc, cm, hid, w, e => by cases w <;> simp only [okI, cond] <;> unfold okX okE <;> simp only [okX_eq a, cond] <;> first | done | rfl
  | .cmp o a b, N, sc, cm, hid, w, e => by cases w <;> simp only [okI, cond] <;> unfold okX okE <;> simp only [okX_eq a, okX_eq b, cond] <;> first | done | rfl
  | .chain o o' a b c, N, sc, cm, hid, w, e => by cases w <;> simp only [okI, cond] <;> unfold okX okE <;> simp only [okX_eq a, okX_eq b, okX_eq c, cond] <;> first | done | rfl
  | .isN ng a, N, sc, cm, hid, w, e => by cases w <;> simp only [okI, cond] <;> unfold okX okE <;> simp only [okX_eq a, cond] <;> first | done | rfl
  | .mem ng a b, N, sc, cm, hid, w, e => by cases w <;> simp only [okI, cond] <;> unfold okX okE <;> simp only [okX_eq a, okX_eq b, cond] <;> first | done | rfl
  | .and es, N, sc, cm, hid, w, e => by cases w <;> simp only [okI, cond] <;> unfold okX okE <;> simp only [okXs_eq es] <;> first | done | rfl
  | .or es, N, sc, cm, hid, w, e => by cases w <;> simp only [okI, cond] <;> unfold okX okE <;> simp only [okXs_eq es] <;> first | done | rfl
  | .ife c a b, N, sc, cm, hid, w, e => by cases w <;> simp only [okI, cond] <;> unfold okX okE <;> simp only [okX_eq a, okX_eq b, okX_eq c, cond] <;> first | done | rfl
  | .tup es, N, sc, cm, hid, w, e => by cases w <;> simp only [okI, cond] <;> unfold okX okE <;> simp only [okXs_eq es] <;> first | done | rfl
  | .lst es, N, sc, cm, hid, w, e => by cases w <;> simp only [okI, cond] <;> unfold okX okE <;> simp only [okXs_eq es] <;> first | done | rfl
  | .ix a i, N, sc, cm, hid, w, e => by cases w <;> simp only [okI, cond] <;> unfold okX okE <;> simp only [okX_eq a, okX_eq i, cond] <;> first | done | rfl
  | .sl a l h, N, sc, cm, hid, w, e => by cases w <;> simp only [okI, cond] <;> unfold okX okE <;> simp only [okX_eq a, okX_eq l, okX_eq h, cond] <;> first | done | rfl
  | .call f sp es, N, sc, cm, hid, w, e => by cases w <;> simp only [okI, cond] <;> unfold okX okE <;> simp only [okXs_eq es] <;> first | done | rfl
  | .blt f es, N, sc, cm, hid, w, e => by cases w <;> simp only [okI, cond] <;> unfold okX okE <;> simp only [okXs_eq es] <;> first | done | rfl
  | .isi a t, N, sc, cm, hid, w, e => by cases w <;> simp only [okI, cond] <;> unfold okX okE <;> simp only [okX_eq a, cond] <;> first | done | rfl
  | .lc t it ifs elt, N, sc, cm, hid, w, e => by cases w <;> simp only [okI, cond] <;> unfold okX okE <;> simp only [okX_eq it, okX_eq elt, okXs_eq ifs, cond] <;> first | done | rfl
  | .lc2 t it t2 it2 ifs elt, N, sc, cm, hid, w, e => by cases w <;> simp only [okI, cond] <;> unfold okX okE <;> simp only [okX_eq it, okX_eq it2, okX_eq elt, okXs_eq ifs, cond] <;> first | done | rfl
  | .rng es, N, sc, cm, hid, w, e => by
    cases w
    · simp only [cond]
      unfold okX okE
      split <;> rfl
    · simp only [cond]
      unfold okX okI
      split <;> simp only [okXs_eq es, Bool.true_and] <;> first | done | rfl
  | .var i, N, sc, cm, hid, w, e => by cases w <;> simp only [okI, cond] <;> unfold okX okE <;> rfl
  | .int i, N, sc, cm, hid, w, e => by cases w <;> simp only [okI, cond] <;> unfold okX okE <;> rfl
  | .bl i, N, sc, cm, hid, w, e => by cases w <;> simp only [okI, cond] <;> unfold okX okE <;> rfl
  | .non, N, sc, cm, hid, w, e => by cases w <;> simp only [okI, cond] <;> unfold okX okE <;> rfl
  | .str i, N, sc, cm, hid, w, e => by cases w <;> simp only [okI, cond] <;> unfold okX okE <;> rfl
  | .glob i d, N, sc, cm, hid, w, e => by cases w <;> simp only [okI, cond] <;> unfold okX okE <;> rfl
  | .nop, N, sc, cm, hid, w, e => by cases w <;> simp only [okI, cond] <;> unfold okX okE <;> rfl
  | .enm a, N, sc, cm, hid, w, e => by cases w <;> simp only [okI, cond] <;> unfold okX okE <;> rfl
  | .zip a b, N, sc, cm, hid, w, e => by cases w <;> simp only [okI, cond] <;> unfold okX okE <;> rfl
theorem okXs_eq : ∀ (cs : List CE) (N : List Str) (sc : Scope) (cm : Bool) (hid : List Nat) (es : List Expr), okXs N sc cm hid cs es = okEs N sc cm hid cs es
  | [], N, sc, cm, hid, es => by unfold okXs okEs; rfl
  | c :: cs, N, sc, cm, hid, es => by
    unfold okXs okEs
    cases es with
    | nil => rfl
    | cons e es => simp only [okX_eq c, okXs_eq cs, cond] <;> first | done | rfl
end
theorem okXE {c : CE} {N : List Str} {sc : Scope} {cm : Bool} {hid : List Nat} {e : Expr} (h : okX N sc cm hid false c e = true) : okE N sc cm hid c e = true := by
  rw [okX_eq] at h
  exact h
theorem okXI {c : CE} {N : List Str} {sc : Scope} {cm : Bool} {hid : List Nat} {e : Expr} (h : okX N sc cm hid true c e = true) : okI N sc cm hid c e = true := by
  rw [okX_eq] at h
  exact h
end Dl

/-! DlChk: which written statements a core statement stands for, with the flow of ownership. -/
namespace Dl
open PySem PySem.Spec PyProof.Rows L2
inductive FR where
  | bad | dead | ok (fl : Fl)
def minus (a b : Fl) : Fl := a.filter fun i => !b.contains i
def subF (a b : Fl) : Bool := a.all b.contains
def meet (a b : Fl) : Fl := a.filter b.contains
def FR.join : FR → FR → FR
  | .bad, _ => .bad
  | _, .bad => .bad
  | .dead, r => r
  | r, .dead => r
  | .ok a, .ok b => .ok (meet a b)
/-- no comprehension -/
def ncB : Expr → Bool
  | .ListComp .. => false
  | .SetComp .. => false
  | .DictComp .. => false
  | _ => true
def isLcE : CE → Bool
  | .lc .. => true
  | .lc2 .. => true
  | _ => false
def isVarIn (fl : Fl) : CE → Bool
  | .var i => fl.contains i
  | _ => false
/-- the tuple's items are stored one by one, from the tuple -/
def swNone : Expr → Bool
  | .Tuple vs _ _ => (decide (vs.length ≠ 2) && decide (vs.length ≠ 3)) || (vs.all (foldedForSure 8) && vs.all nsB)
  | _ => true
/-- the tuple's two items are stored from the right -/
def swTwo (sc : Scope) (x y : Str) (px py : Pos) (a b : Expr) : Bool :=
  decide (sc.names.lookup x = some .local) && decide (sc.names.lookup y = some .local) && !(x == y) && (py.line == px.line) && nsB a && nsB b && !([a, b].all (foldedForSure 8)) && !([a, b].all (constantsAlone 8))
/-- a name stored by a comprehension on its own line: the frame's own way -/
def swLc (sc scope : Scope) (x : Str) (px pv : Pos) : Bool :=
  decide (sc.names.lookup x = some .local) && (px.line == pv.line) && !(scope.names.any fun (n, k) => n == x && (k == .local || k == .cell))
def FR.isBad : FR → Bool
  | .bad => true
  | _ => false
/-- a loop's own flags: those that its body gives back -/
def loopF (f : Fl → FR) : Nat → Fl → Option Fl
  | 0, _ => none
  | n + 1, fl => match f fl with
    | .bad => none
    | .dead => some fl
    | .ok fl2 => if subF fl fl2 = true then some fl else loopF f n (meet fl fl2)
mutual
/-- a test of the exception at n -/
def chX (sc : Scope) (n : Str) : XT → Expr → Bool
  | .isx C, e => (match e with | .Call (.Name x _) [.Name y _, .Name z _] [] _ => decide (x = ("isinstance" : Str)) && decide (y = n) && decide (z = C) && gloB sc z | _ => false)
  | .not t, e => (match e with | .UnaryOp .Not x _ => chX sc n t x | _ => false)
  | .and ts, e => (match e with | .BoolOp .And vs _ => !vs.isEmpty && chXs sc n ts vs | _ => false)
  | .or ts, e => (match e with | .BoolOp .Or vs _ => !vs.isEmpty && chXs sc n ts vs | _ => false)
termination_by structural t => t
def chXs (sc : Scope) (n : Str) : List XT → List Expr → Bool
  | [], es => es.isEmpty
  | t :: ts, es => (match es with
    | e :: es => chX sc n t e && chXs sc n ts es
    | [] => false)
termination_by structural ts => ts
end
def chH (N : List Str) (sc : Scope) (n : Str) : List (XT × CE) → CE → List Stmt → Bool
  | [], last, ss => (match ss with
    | [.Return (some e) _] => okX N sc false [] false last e
    | _ => false)
  | (t, r) :: hs, last, ss => (match ss with
    | .If te [.Return (some re) _] [] _ :: rest => chX sc n t te && okX N sc false [] false r re && chH N sc n hs last rest
    | _ => false)
mutual
def chS (N : List Str) (sc : Scope) (cm : Bool) (Ef : Fl) : CS → Stmt → Fl → Fl → FR
  | .asg i e rd ls, s, Lf, fl => (match s with
    | .Assign [.Name x px] v pos => if (decide (N[i]? = some x) && locB sc x && subF Ef fl && true && okX N sc cm (minus fl rd) false e v && (ncB v || isLcE e)) = true then
        (if e.owns = true then .ok (i :: minus (if ls = true then minus fl rd else fl) [i]) else .ok (minus (if ls = true then minus fl rd else fl) [i])) else .bad
    | _ => .bad)
  | .asgT t e rd ls, s, Lf, fl => (match s with
    | .Assign [.Tuple es k p] v pos => if (cm && okT N sc (fun _ => true) t (.Tuple es k p) && subF Ef fl && true && okX N sc cm (minus fl rd) false e v && ncB v && swNone v) = true then
        .ok (minus (if ls = true then minus fl rd else fl) t.slots) else .bad
    | _ => .bad)
  | .par i j a b, s, Lf, fl => (match s with
    | .Assign [.Tuple [.Name x px, .Name y py] _ _] (.Tuple [u, v] _ _) pos => if (cm && decide (N[i]? = some x) && decide (N[j]? = some y) && decide (i ≠ j) && swTwo sc x y px py u v && subF Ef fl && okX N sc cm fl false a u && okX N sc cm fl false b v) = true then
        .ok (minus fl [i, j]) else .bad
    | _ => .bad)
  | .app i e rd ls, s, Lf, fl => (match s with
    | .Expr (.Call (.Attribute (.Name x _) m ap) [v] [] cp) pos => if (decide (m = ("append" : Str)) && (ap.endLine == cp.line) && decide (N[i]? = some x) && visB sc x && !(x == ("__debug__" : Str)) && !(x == ("__classdict__" : Str)) && fl.contains i && subF Ef fl && true && (!ls || !rd.contains i) && okX N sc cm (minus fl rd) false e v) = true then
        .ok (if ls = true then minus fl rd else fl) else .bad
    | _ => .bad)
  | .clr i, s, Lf, fl => (match s with
    | .Expr (.Call (.Attribute (.Name x _) m ap) [] [] cp) pos => if (decide (m = ("clear" : Str)) && (ap.endLine == cp.line) && decide (N[i]? = some x) && visB sc x && !(x == ("__debug__" : Str)) && !(x == ("__classdict__" : Str)) && fl.contains i) = true then .ok fl else .bad
    | _ => .bad)
  | .ext i j, s, Lf, fl => (match s with
    | .Expr (.Call (.Attribute (.Name x _) m ap) [.Name y _] [] cp) pos => if (decide (m = ("extend" : Str)) && (ap.endLine == cp.line) && decide (N[i]? = some x) && visB sc x && !(x == ("__debug__" : Str)) && !(x == ("__classdict__" : Str)) && fl.contains i &&
        decide (N[j]? = some y) && visB sc y && !(y == ("__debug__" : Str)) && !(y == ("__classdict__" : Str)) && fl.contains j && decide (i ≠ j)) = true then .ok fl else .bad
    | _ => .bad)
  | .drop e, s, Lf, fl => (match s with
    | .Expr v pos => if (subF Ef fl && okX N sc cm fl false e v && ncB v) = true then .ok fl else .bad
    | _ => .bad)
  | .ret e fr, s, Lf, fl => (match s with
    | .Return (some v) _ => if (subF Ef fl && okX N sc cm [] false e v && (!fr || e.fresh || isVarIn fl e)) = true then .dead else .bad
    | _ => .bad)
  | .retN, s, Lf, fl => (match s with
    | .Return none _ => .dead
    | _ => .bad)
  | .ifs c a b, s, Lf, fl => (match s with
    | .If t x y _ => if (subF Ef fl && okX N sc cm [] false c t) = true then (chB N sc cm Ef a x Lf fl).join (chB N sc cm Ef b y Lf fl) else .bad
    | _ => .bad)
  | .for_ t it rd body, s, Lf, fl => (match s with
    | .For tg iter bd [] _ => if (cm && okT N sc (fun _ => true) t tg && subF Ef fl && true && okX N sc cm (minus fl rd) true it iter) = true then
        (match loopF (fun f => chB N sc cm Ef body bd f f) 4 (minus (minus fl rd) t.slots) with
        | some f => .ok f
        | none => .bad) else .bad
    | _ => .bad)
  | .whl c body, s, Lf, fl => (match s with
    | .While t bd [] _ => if (cm && subF Ef fl && okX N sc cm [] false c t) = true then
        (match loopF (fun f => chB N sc cm Ef body bd f f) 4 fl with
        | some f => if subF Ef f = true then .ok f else .bad
        | none => .bad) else .bad
    | _ => .bad)
  | .brk, s, Lf, fl => (match s with
    | .Break _ => if subF Lf fl = true then .dead else .bad
    | _ => .bad)
  | .cnt, s, Lf, fl => (match s with
    | .Continue _ => if subF Lf fl = true then .dead else .bad
    | _ => .bad)
  | .pass, s, Lf, fl => (match s with
    | .Pass _ => .ok fl
    | _ => .bad)
  | .rse c, s, Lf, fl => (match s with
    | .Raise (some (.Call (.Name x _) [.Constant (.str m) _ _] [] _)) none _ => if (cm && decide (c = x) && gloB sc x && subF Ef fl) = true then .dead else .bad
    | _ => .bad)
  | .tryx body all c i hs last, s, Lf, fl => (match s with
    | .Try bd [.ExceptHandler (some (.Name y _)) (some n) suite _] [] [] _ => if (decide (c = y) && gloB sc y && decide (N[i]? = some n) && decide (sc.names.lookup n = some .local) && !(n == ("__debug__" : Str)) && !(n == ("__classdict__" : Str)) && gloB sc "isinstance" && subF Ef fl && chH N sc n hs last suite) = true then chB N sc cm Ef body bd Lf fl else .bad
    | _ => .bad)
termination_by structural c => c
def chB (N : List Str) (sc : Scope) (cm : Bool) (Ef : Fl) : List CS → List Stmt → Fl → Fl → FR
  | [], ss, Lf, fl => if ss.isEmpty = true then .ok fl else .bad
  | c :: cs, ss, Lf, fl => (match ss with
    | s :: ss => (match chS N sc cm Ef c s Lf fl with
      | .bad => .bad
      | .dead => .dead
      | .ok fl' => chB N sc cm Ef cs ss Lf fl')
    | [] => .bad)
termination_by structural cs => cs
end
def allP {α : Type} (P : α → Prop) : List α → Prop
  | [] => True
  | x :: xs => P x ∧ allP P xs
theorem allP_mem {α : Type} {P : α → Prop} : ∀ {l : List α} {x : α}, allP P l → x ∈ l → P x
  | y :: l, x, h, m => by
    unfold allP at h
    rcases List.mem_cons.mp m with rfl | m
    · exact h.1
    · exact allP_mem h.2 m
-- what is asked of classes: F, G of names; R c: c may be raised; M c C: how c stands to C; Z C: C names a class
mutual
def XT.needs (M : Str → Str → Prop) (Z : Str → Prop) (c : Str) : XT → Prop
  | .isx C => M c C ∧ Z C
  | .not t => t.needs M Z c
  | .and ts => XT.needsL M Z c ts
  | .or ts => XT.needsL M Z c ts
def XT.needsL (M : Str → Str → Prop) (Z : Str → Prop) (c : Str) : List XT → Prop
  | [] => True
  | t :: ts => t.needs M Z c ∧ XT.needsL M Z c ts
end
structure Cl where
  R : Str → Prop
  M : Str → Str → Prop
  Z : Str → Prop
mutual
def CS.needs (F : Str → Nat → Spec → Prop) (G : Str → D → Prop) (L : Cl) : CS → Prop
  | .asg _ e _ _ => e.needs F G
  | .asgT _ e _ _ => e.needs F G
  | .par _ _ a b => a.needs F G ∧ b.needs F G
  | .app _ e _ _ => e.needs F G
  | .drop e => e.needs F G
  | .ret e _ => e.needs F G
  | .ifs c a b => c.needs F G ∧ CS.needsL F G L a ∧ CS.needsL F G L b
  | .for_ _ it _ body => it.needs F G ∧ CS.needsL F G L body
  | .whl c body => c.needs F G ∧ CS.needsL F G L body
  | .rse c => L.R c
  | .tryx body all C i hs last => CS.needsL F G L body ∧ L.Z C ∧ allP (fun c => L.M c C ∧ allP (fun p : XT × CE => p.1.needs L.M L.Z c) hs) all ∧ last.needs F G ∧ allP (fun p : XT × CE => p.2.needs F G) hs
  | _ => True
def CS.needsL (F : Str → Nat → Spec → Prop) (G : Str → D → Prop) (L : Cl) : List CS → Prop
  | [] => True
  | c :: cs => c.needs F G L ∧ CS.needsL F G L cs
end
theorem minus_mem {a b : Fl} {i : Nat} : i ∈ minus a b ↔ i ∈ a ∧ i ∉ b := by
  unfold minus
  rw [List.mem_filter]
  simp
theorem subF_ok {a b : Fl} (h : subF a b = true) : ∀ i ∈ a, i ∈ b := fun i hi => by
  have q := List.all_eq_true.mp h i hi
  simpa using q
theorem meet_mem {a b : Fl} {i : Nat} : i ∈ meet a b ↔ i ∈ a ∧ i ∈ b := by
  unfold meet
  rw [List.mem_filter]
  simp
theorem loopF_ok {f : Fl → FR} : ∀ {n : Nat} {fl r : Fl}, loopF f n fl = some r → (∀ i ∈ r, i ∈ fl) ∧ (f r = .dead ∨ ∃ fl2, f r = .ok fl2 ∧ ∀ i ∈ r, i ∈ fl2)
  | 0, fl, r, h => by unfold loopF at h; cases h
  | n + 1, fl, r, h => by
    unfold loopF at h
    split at h
    · cases h
    · rename_i e
      cases h
      exact ⟨fun _ h => h, .inl e⟩
    · rename_i fl2 e
      split at h
      · rename_i hs
        cases h
        exact ⟨fun _ h => h, .inr ⟨fl2, e, subF_ok hs⟩⟩
      · obtain ⟨h1, h2⟩ := loopF_ok h
        exact ⟨fun i hi => (meet_mem.mp (h1 i hi)).1, h2⟩
theorem swNone_ok {tg v : Expr} {env : Env} (h : swNone v = true) : swappedStores [tg] v env = pure none := by
  unfold swappedStores
  cases v with
  | Tuple vs k p =>
    cases tg with
    | Tuple ts k' p' =>
      simp only
      unfold swNone at h
      rw [Bool.or_eq_true] at h
      rcases h with h | h
      · obtain ⟨h1, h2⟩ := Bool.and_eq_true .. ▸ h
        have e1 := of_decide_eq_true h1
        have e2 := of_decide_eq_true h2
        split
        · rfl
        · rename_i hc
          exfalso
          apply hc
          simp only [Bool.or_eq_true, Bool.not_eq_true', bne_iff_ne, ne_eq, Bool.or_eq_false_iff, beq_eq_false_iff_ne, beq_iff_eq]
          by_cases q : vs.length = ts.length
          · left; left
            exact ⟨fun z => e1 (q.trans z), fun z => e2 (q.trans z)⟩
          · left; right; exact q
      · obtain ⟨h1, h2⟩ := Bool.and_eq_true .. ▸ h
        split
        · rfl
        · split
          · rfl
          · split
            · rfl
            · first | rfl | rw [if_pos h1]
    | List ts p' =>
      simp only
      unfold swNone at h
      rw [Bool.or_eq_true] at h
      rcases h with h | h
      · obtain ⟨h1, h2⟩ := Bool.and_eq_true .. ▸ h
        have e1 := of_decide_eq_true h1
        have e2 := of_decide_eq_true h2
        split
        · rfl
        · rename_i hc
          exfalso
          apply hc
          simp only [Bool.or_eq_true, Bool.not_eq_true', bne_iff_ne, ne_eq, Bool.or_eq_false_iff, beq_eq_false_iff_ne, beq_iff_eq]
          by_cases q : vs.length = ts.length
          · left; left
            exact ⟨fun z => e1 (q.trans z), fun z => e2 (q.trans z)⟩
          · left; right; exact q
      · obtain ⟨h1, h2⟩ := Bool.and_eq_true .. ▸ h
        split
        · rfl
        · split
          · rfl
          · split
            · rfl
            · first | rfl | rw [if_pos h1]
    | _ => rfl
  | _ => cases tg <;> rfl
theorem swTwo_ok {sc : Scope} {x y : Str} {px py pt p2 : Pos} {a b : Expr} {env : Env} {k k2 : Nat} (hs : env.scope = sc) (hb : env.blockKind = .function) (h : swTwo sc x y px py a b = true) :
    swappedStores [.Tuple [.Name x px, .Name y py] k pt] (.Tuple [a, b] k2 p2) env = pure (some [x, y]) := by
  unfold swTwo at h
  obtain ⟨h, h8⟩ := and2 h
  obtain ⟨h, h7⟩ := and2 h
  obtain ⟨h, h6⟩ := and2 h
  obtain ⟨h, h5⟩ := and2 h
  obtain ⟨h, h4⟩ := and2 h
  obtain ⟨h, h3⟩ := and2 h
  obtain ⟨h1, h2⟩ := and2 h
  have e1 : env.kindOf x = some .local := by unfold Env.kindOf; rw [hs]; exact of_decide_eq_true h1
  have e2 : env.kindOf y = some .local := by unfold Env.kindOf; rw [hs]; exact of_decide_eq_true h2
  have e3 : (x == y) = false := by simpa using h3
  have e3' : (y == x) = false := by rw [beq_eq_false_iff_ne] at e3 ⊢; exact fun z => e3 z.symm
  have h7' : ([a, b].all (foldedForSure 8)) = false := by rwa [Bool.not_eq_true'] at h7
  have h8' : ([a, b].all (constantsAlone 8)) = false := by rwa [Bool.not_eq_true'] at h8
  have any : ([a, b].any fun | .Starred .. => true | _ => false) = false := by
    cases a <;> first | (cases h5; done) | (cases b <;> first | (cases h6; done) | rfl)
  have l4 : py.line = px.line := by simpa using h4
  have nm : ([Expr.Name x px, Expr.Name y py].filterMap fun
    | .Name id pos => if env.kindOf id == some .local && pos.line == px.line then some id else none
    | _ => none) = [x, y] := by
    simp [e1, e2, l4]
  have ed : ([x, y] : List Str).eraseDups = [x, y] := by
    simp [List.eraseDups_cons, e3', e3]
  unfold swappedStores
  simp only [List.length_cons, List.length_nil, hb, List.head?_cons, Option.map_some, Option.getD_some, Expr.pos]
  refine (if_neg (by decide)).trans ?_
  refine (if_neg (fun z => Bool.false_ne_true (any.symm.trans z))).trans ?_
  refine (if_neg (fun z => ?_)).trans ?_
  · have z' : ((([x, y] : List Str).length != 0 + 1 + 1 || ([x, y] : List Str).eraseDups.length != ([x, y] : List Str).length)) = true := by rw [← nm] ; exact z
    rw [ed] at z'
    exact absurd z' (by simp)
  refine (if_neg (fun z => Bool.false_ne_true (h7'.symm.trans z))).trans ?_
  refine (if_neg (fun z => Bool.false_ne_true (h8'.symm.trans z))).trans ?_
  exact congrArg (fun l => (pure (some l) : Sem (Option (List Str)))) nm
end Dl

/-! DlAsg: ownership through a store. -/
namespace Dl
open PySem PySem.Spec PyProof.Rows L2
section
variable {K : PySem.W.Frag} {He : Hp} {S0 : List Addr} {Vw : Hp} {fl : Fl} {O : List (Nat × Addr)} {σ : L2.St} {H H' : Hp} {ρ : DEnv}
theorem Rep.imm2 {S T : List Addr} {d : D} {v : V} (h : Rep K (hide H S) d v) (hi : d.imm = true) (hT : SOk H T) : Rep K (hide H T) d v := by
  have q := Rep.imm (K := K) (H := hide H S) (S := T) (fun a xs r => hT.tup (Same.rd hide_le r)) h hi
  refine q.mono fun b o e => ?_
  unfold hide at e ⊢
  split at e
  · cases e
  · rename_i hb
    rw [if_neg hb]
    split at e
    · cases e
    · exact e
theorem Reps.imm2 {S T : List Addr} : ∀ {ds : List D} {vs : List V}, Reps K (hide H S) ds vs → D.imms ds = true → SOk H T → Reps K (hide H T) ds vs
  | [], vs, h, _, _ => by unfold Reps at *; exact h
  | d :: ds, vs, h, hi, hT => by
    unfold Reps at *
    unfold D.imms at hi
    rw [Bool.and_eq_true] at hi
    obtain ⟨v, r, h1, h2, h3⟩ := h
    exact ⟨v, r, h1, Rep.imm2 h2 hi.1 hT, Reps.imm2 h3 hi.2 hT⟩
/-- one more slot may own, where what it holds is no container -/
theorem ERO.flag (h : ERO K He S0 Vw fl O σ H ρ) {i : Nat} (hc : ∀ d, ρ[i]? = some (some d) → d.cont = false) : ERO K He S0 Vw (i :: fl) O σ H ρ := by
  refine ⟨h.len, h.same, h.s0, ⟨fun p hp => List.mem_cons_of_mem _ (h.own.sl p hp), h.own.new, h.own.mu, h.own.inj⟩, h.vis, fun j d e => ?_⟩
  obtain ⟨v, e1, r⟩ := h.rep j d e
  refine ⟨v, e1, ?_⟩
  rcases r with ⟨hn, r⟩ | ⟨hf, r⟩
  · refine .inl ⟨?_, r⟩
    by_cases hj : j = i
    · subst hj; exact .inr (hc d e)
    · rcases hn with hn | hn
      · exact .inl fun z => (List.mem_cons.mp z).elim hj hn
      · exact .inr hn
  · exact .inr ⟨List.mem_cons_of_mem _ hf, r⟩
/-- the flags of a store -/
def afl (fl rd : Fl) (ls : Bool) (sl : List Nat) : Fl := minus (if ls = true then minus fl rd else fl) sl
theorem afl_in {rd : Fl} {ls : Bool} {sl : List Nat} {i : Nat} : i ∈ afl fl rd ls sl ↔ i ∈ fl ∧ i ∉ sl ∧ (ls = true → i ∉ rd) := by
  unfold afl
  cases ls with
  | true => rw [if_pos rfl, minus_mem, minus_mem]; constructor
            · rintro ⟨⟨a, b⟩, c⟩; exact ⟨a, c, fun _ => b⟩
            · rintro ⟨a, b, c⟩; exact ⟨⟨a, c rfl⟩, b⟩
  | false => rw [if_neg (by simp), minus_mem]; constructor
             · rintro ⟨a, b⟩; exact ⟨a, b, fun z => by cases z⟩
             · rintro ⟨a, b, _⟩; exact ⟨a, b⟩
/-- a value that came of an expression that reads the owned slots at rd, rep'd beside what will be owned -/
theorem Post.beside (h : ERO K He S0 Vw fl O σ H ρ) {rd : Fl} {ls : Bool} {sl : List Nat} {fr : Bool} {d : D} {v : V} (p : Post K H (adr (O.filter fun p => (minus fl rd).contains p.1) S0) fr d v H') (hk : rd = [] ∨ ls = true ∨ d.imm = true) :
    Rep K (hide H' (adr (O.filter fun p => (afl fl rd ls sl).contains p.1) S0)) d v := by
  have sub : ∀ p ∈ O.filter (fun p => (afl fl rd ls sl).contains p.1), p ∈ O := fun p hp => (List.mem_filter.mp hp).1
  by_cases hi : d.imm = true
  · exact Rep.imm2 p.rep hi ((h.sok sub).mono p.same)
  · have hk' : rd = [] ∨ ls = true := hk.elim .inl fun z => z.elim .inr fun z => absurd z hi
    refine p.rep.mono (hide_more (adr_sub fun q hq => ?_))
    obtain ⟨q1, q2⟩ := List.mem_filter.mp hq
    have q3 : q.1 ∈ afl fl rd ls sl := by simpa using q2
    obtain ⟨a1, a2, a3⟩ := afl_in.mp q3
    refine List.mem_filter.mpr ⟨q1, ?_⟩
    have : q.1 ∈ minus fl rd := minus_mem.mpr ⟨a1, by
      rcases hk' with z | z
      · rw [z]; simp
      · exact a3 z⟩
    simpa using this
/-- name = value, the value not of its own place -/
theorem ERO.put (h : ERO K He S0 Vw fl O σ H ρ) {rd : Fl} {ls : Bool} {fr : Bool} {d : D} {v : V} {i : Nat} (p : Post K H (adr (O.filter fun p => (minus fl rd).contains p.1) S0) fr d v H') (hk : rd = [] ∨ ls = true ∨ d.imm = true) :
    ERO K He S0 Vw (afl fl rd ls [i]) (O.filter fun p => (afl fl rd ls [i]).contains p.1) (σ.set i (some v)) H' (ρ.set i (some d)) := by
  have r := Post.beside (sl := [i]) h p hk
  have w := (h.weak (afl fl rd ls [i]) fun j hj => (afl_in.mp hj).1).grow p.same
  refine ⟨by simp [w.len], w.same, w.s0, w.own, w.vis, fun j d' e => ?_⟩
  by_cases hj : j = i
  · subst hj
    by_cases hil : j < ρ.length
    · rw [List.getElem?_set_self hil] at e
      cases e
      exact ⟨v, List.getElem?_set_self (by rw [h.len]; exact hil), .inl ⟨.inl fun z => (afl_in.mp z).2.1 (by simp), r⟩⟩
    · rw [List.getElem?_eq_none (by simpa using hil)] at e
      cases e
  · rw [List.getElem?_set_ne (Ne.symm hj)] at e
    obtain ⟨v', e1, r'⟩ := w.rep j d' e
    exact ⟨v', by rw [List.getElem?_set_ne (Ne.symm hj)]; exact e1, r'⟩
/-- name = value -/
theorem ER.asg (h : ERO K He S0 Vw fl O σ H ρ) {rd : Fl} {ls : Bool} {e : CE} {d : D} {v : V} {i : Nat} (p : Post K H (adr (O.filter fun p => (minus fl rd).contains p.1) S0) e.fresh d v H') (hk : keep rd ls e d) :
    ER K He S0 Vw (if e.owns = true then i :: afl fl rd ls [i] else afl fl rd ls [i]) (σ.set i (some v)) H' (ρ.set i (some d)) := by
  by_cases hf : e.owns = true
  · rw [if_pos hf]
    by_cases hc : d.cont = true
    · -- a new list
      have top := p.top (CE.owns_fresh hf)
      cases d with
      | lst ds =>
        obtain ⟨a, vs, rfl, hn, e1, r1⟩ := top
        by_cases hil : i < ρ.length
        · have w := h.weak (afl fl rd ls [i]) fun j hj => (afl_in.mp hj).1
          have g := w.grow p.same
          have sub : ∀ p ∈ O.filter (fun p => (afl fl rd ls [i]).contains p.1), p ∈ O := fun p hp => (List.mem_filter.mp hp).1
          have hV : Vw a = none := by
            cases q : Vw a with
            | none => rfl
            | some o =>
              have q2 := hide_le _ _ (h.vis a o q)
              rw [hn] at q2; cases q2
          refine ⟨_, g.fresh (i := i) (a := a) (vs := vs) (fun z => (afl_in.mp z).2.1 (by simp)) hil (h.same.free hn) (fun q hq e2 => ?_) hV e1 ?_ fun j d' hj e2 => ?_⟩
          · have q2 := h.own.mu q (sub q hq)
            rw [e2, hn] at q2
            exact q2
          · -- its items, beside what is owned
            have hS : SOk H' (a :: adr (O.filter fun p => (afl fl rd ls [i]).contains p.1) S0) := fun b hb => by
              rcases List.mem_cons.mp hb with rfl | hb
              · rw [e1]; trivial
              · exact ((h.sok sub).mono p.same) b hb
            have hk' : (rd = [] ∨ ls = true) ∨ D.imms ds = true := by
              rcases hk with z | z | z | ⟨_, z⟩
              · exact .inl (.inl z)
              · exact .inl (.inr z)
              · unfold D.imm at z; cases z
              · exact .inr z
            rcases hk' with hk' | hk'
            · refine r1.mono (hide_more fun b hb => ?_)
              rcases List.mem_cons.mp hb with rfl | hb
              · exact List.mem_cons_self
              · refine List.mem_cons_of_mem _ (adr_sub (fun q hq => ?_) b hb)
                obtain ⟨q1, q2⟩ := List.mem_filter.mp hq
                have q3 : q.1 ∈ afl fl rd ls [i] := by simpa using q2
                obtain ⟨a1, a2, a3⟩ := afl_in.mp q3
                refine List.mem_filter.mpr ⟨q1, ?_⟩
                have : q.1 ∈ minus fl rd := minus_mem.mpr ⟨a1, by
                  rcases hk' with z | z
                  · rw [z]; simp
                  · exact a3 z⟩
                simpa using this
            · exact Reps.imm2 r1 hk' hS
          · obtain ⟨v', f1, f2⟩ := w.rep j d' e2
            have low : ∀ {T : List Addr}, Same (hide H T) (hide H' (a :: T)) := fun {T} b o q => by
              by_cases hb : b ∈ T
              · rw [hide_in hb] at q; cases q
              · rw [hide_out hb] at q
                have hne : b ≠ a := ne_of_none q hn
                rw [hide_out (by simp [hb, hne])]
                exact p.same b o q
            refine ⟨v', f1, ?_⟩
            rcases f2 with ⟨g1, g2⟩ | ⟨g1, b, g2, g3⟩
            · exact .inl ⟨g1, g2.mono low⟩
            · refine .inr ⟨g1, b, g2, ?_⟩
              cases d' with
              | lst ds' =>
                obtain ⟨rfl, vs', k1, k2⟩ := g3
                exact ⟨rfl, vs', p.same _ _ k1, k2.mono low⟩
              | _ => exact g3.elim
        · -- no such slot
          have w := (h.weak (afl fl rd ls [i]) fun j hj => (afl_in.mp hj).1).grow p.same
          have e1 : σ.set i (some (V.ref a)) = σ := List.set_eq_of_length_le (by rw [h.len]; omega)
          have e2 : ρ.set i (some (D.lst ds)) = ρ := List.set_eq_of_length_le (by omega)
          rw [e1, e2]
          exact ⟨_, w.flag fun d e3 => by rw [List.getElem?_eq_none (by omega)] at e3; cases e3⟩
      | dict _ _ => exact top.elim
      | obj _ _ _ => exact top.elim
      | _ => cases hc
    · have hc' : d.cont = false := by simpa using hc
      have hk' : rd = [] ∨ ls = true ∨ d.imm = true := by
        rcases hk with z | z | z | ⟨_, z⟩
        · exact .inl z
        · exact .inr (.inl z)
        · exact .inr (.inr z)
        · refine .inr (.inr ?_)
          cases d <;> first | exact z | cases hc'
      have w := h.put (i := i) p hk'
      refine ⟨_, w.flag fun d' e1 => ?_⟩
      by_cases hil : i < ρ.length
      · rw [List.getElem?_set_self hil] at e1
        cases e1
        exact hc'
      · rw [List.getElem?_eq_none (by simpa using hil)] at e1
        cases e1
  · rw [if_neg hf]
    have hk' : rd = [] ∨ ls = true ∨ d.imm = true := by
      rcases hk with z | z | z | ⟨z, _⟩
      · exact .inl z
      · exact .inr (.inl z)
      · exact .inr (.inr z)
      · exact absurd z hf
    exact ⟨_, h.put p hk'⟩
/-- x.append(v) -/
theorem ERO.app (h : ERO K He S0 Vw fl O σ H ρ) {rd : Fl} {ls : Bool} {fr : Bool} {d : D} {v : V} {i : Nat} {ds : List D} (hi : i ∈ fl) (hir : ls = true → i ∉ rd) (p : Post K H (adr (O.filter fun p => (minus fl rd).contains p.1) S0) fr d v H') (hk : rd = [] ∨ ls = true ∨ d.imm = true)
    (e : ρ[i]? = some (some (.lst ds))) : ∃ a vs, σ[i]? = some (some (.ref a)) ∧ H' a = some (.lst vs) ∧ vs.length = ds.length ∧ ER K He S0 Vw (afl fl rd ls []) σ (upd H' a (.lst (vs ++ [v]))) (ρ.set i (some (.lst (ds ++ [d])))) := by
  have w0 := h.weak (afl fl rd ls []) fun j hj => (afl_in.mp hj).1
  have w := w0.grow p.same
  have hi' : i ∈ afl fl rd ls [] := afl_in.mpr ⟨hi, by simp, hir⟩
  have r := Post.beside (sl := []) h p hk
  obtain ⟨v', e1, r'⟩ := w.rep i _ e
  rcases r' with ⟨hc, _⟩ | ⟨_, a, ha, hr⟩
  · rcases hc with hc | hc
    · exact absurd hi' hc
    · cases hc
  · obtain ⟨rfl, vs, e2, rs⟩ := hr
    refine ⟨a, vs, e1, e2, rs.length.symm, O.filter fun p => (afl fl rd ls []).contains p.1, ?_⟩
    have hin : a ∈ adr (O.filter fun p => (afl fl rd ls []).contains p.1) S0 := List.mem_append_left _ (List.mem_map.mpr ⟨_, ha, rfl⟩)
    have hh : hide (upd H' a (.lst (vs ++ [v]))) (adr (O.filter fun p => (afl fl rd ls []).contains p.1) S0) = hide H' (adr (O.filter fun p => (afl fl rd ls []).contains p.1) S0) := hide_upd_in hin
    refine ⟨by simp [w.len], fun b o q => ?_, w.s0, ⟨w.own.sl, w.own.new, fun q hq => ?_, w.own.inj⟩, by rw [hh]; exact w.vis, fun j d' ej => ?_⟩
    · have hne : b ≠ a := fun z => by subst z; rw [w.own.new _ ha] at q; cases q
      rw [upd_ne hne]
      exact w.same _ _ q
    · by_cases hq2 : q.2 = a
      · rw [hq2, upd_same]; trivial
      · rw [upd_ne hq2]; exact w.own.mu q hq
    · rw [hh]
      by_cases hj : j = i
      · subst hj
        have hil : j < ρ.length := (List.getElem?_eq_some_iff.mp e).1
        rw [List.getElem?_set_self hil] at ej
        cases ej
        exact ⟨.ref a, e1, .inr ⟨hi', a, ha, rfl, vs ++ [v], upd_same, by rw [hh]; exact rs.append (.one r)⟩⟩
      · rw [List.getElem?_set_ne (Ne.symm hj)] at ej
        obtain ⟨v', f1, f2⟩ := w.rep j d' ej
        refine ⟨v', f1, ?_⟩
        rcases f2 with f2 | ⟨g1, b, g2, g3⟩
        · exact .inl f2
        · refine .inr ⟨g1, b, g2, ?_⟩
          have hba : b ≠ a := fun z => by
            have := w.own.inj _ g2 _ ha z
            cases this
            exact hj rfl
          cases d' with
          | lst ds' =>
            obtain ⟨rfl, vs', k1, k2⟩ := g3
            exact ⟨rfl, vs', by rw [upd_ne hba]; exact k1, by rw [hh]; exact k2⟩
          | _ => exact g3.elim
/-- an owned list is written -/
theorem ERO.setc (w : ERO K He S0 Vw fl O σ H ρ) {i : Nat} {a : Addr} {ds0 ds : List D} {vs0 vs : List V} (hi : i ∈ fl) (ha : (i, a) ∈ O) (e : ρ[i]? = some (some (.lst ds0))) (e1 : σ[i]? = some (some (.ref a))) (e2 : H a = some (.lst vs0)) (r : Reps K (hide H (adr O S0)) ds vs) :
    ERO K He S0 Vw fl O σ (upd H a (.lst vs)) (ρ.set i (some (.lst ds))) := by
  have hin : a ∈ adr O S0 := List.mem_append_left _ (List.mem_map.mpr ⟨_, ha, rfl⟩)
  have hh : hide (upd H a (.lst vs)) (adr O S0) = hide H (adr O S0) := hide_upd_in hin
  refine ⟨by simp [w.len], fun b o q => ?_, w.s0, ⟨w.own.sl, w.own.new, fun q hq => ?_, w.own.inj⟩, by rw [hh]; exact w.vis, fun j d' ej => ?_⟩
  · have hne : b ≠ a := fun z => by subst z; rw [w.own.new _ ha] at q; cases q
    rw [upd_ne hne]
    exact w.same _ _ q
  · by_cases hq2 : q.2 = a
    · rw [hq2, upd_same]; trivial
    · rw [upd_ne hq2]; exact w.own.mu q hq
  · rw [hh]
    by_cases hj : j = i
    · subst hj
      have hil : j < ρ.length := (List.getElem?_eq_some_iff.mp e).1
      rw [List.getElem?_set_self hil] at ej
      cases ej
      exact ⟨.ref a, e1, .inr ⟨hi, a, ha, rfl, vs, upd_same, by rw [hh]; exact r⟩⟩
    · rw [List.getElem?_set_ne (Ne.symm hj)] at ej
      obtain ⟨v', f1, f2⟩ := w.rep j d' ej
      refine ⟨v', f1, ?_⟩
      rcases f2 with f2 | ⟨g1, b, g2, g3⟩
      · exact .inl f2
      · refine .inr ⟨g1, b, g2, ?_⟩
        have hba : b ≠ a := fun z => by
          have := w.own.inj _ g2 _ ha z
          cases this
          exact hj rfl
        cases d' with
        | lst ds' =>
          obtain ⟨rfl, vs', k1, k2⟩ := g3
          exact ⟨rfl, vs', by rw [upd_ne hba]; exact k1, by rw [hh]; exact k2⟩
        | _ => exact g3.elim
/-- the owned list of a slot -/
theorem ERO.own_at (w : ERO K He S0 Vw fl O σ H ρ) {i : Nat} {ds : List D} (hi : i ∈ fl) (e : ρ[i]? = some (some (.lst ds))) : ∃ a vs, (i, a) ∈ O ∧ σ[i]? = some (some (.ref a)) ∧ H a = some (.lst vs) ∧ Reps K (hide H (adr O S0)) ds vs := by
  obtain ⟨v, e1, r⟩ := w.rep i _ e
  rcases r with ⟨hc, _⟩ | ⟨_, a, ha, rfl, vs, e2, r⟩
  · rcases hc with hc | hc
    · exact absurd hi hc
    · cases hc
  · exact ⟨a, vs, ha, e1, e2, r⟩
end
end Dl

/-! DlStm: a body's written code does what its core terms say. -/
namespace Dl
open PySem PySem.Spec PyProof.Rows L2
/-- what is known of the wanted ends -/
structure Lk (X : Cx) (W : WX) (He : Hp) (S0 : List Addr) (Vw : Hp) (Ef Lf : Fl) (r : FR) (D : Ends) (P : Pn) : Prop where
  nx : ∀ fl', r = .ok fl' → ∀ ρ σ H, P.nx ρ → ER X.K He S0 Vw fl' σ H ρ → D.nx σ H
  rt : ∀ d v H', P.rt d → Post X.K He S0 true d v H' → D.rt v H'
  bk : ∀ ρ σ H, P.bk ρ → ER X.K He S0 Vw Lf σ H ρ → D.bk σ H
  ct : ∀ ρ σ H, P.ct ρ → ER X.K He S0 Vw Lf σ H ρ → D.ct σ H
  ex : ∀ ρ x σ H cls dd, P.ex ρ x → ER X.K He S0 Vw Ef σ H ρ → XRep X.K X.mg x cls dd → W cls dd σ H
def tS (X : Cx) (W : WX) (Ef Lf fl : Fl) (r : FR) (F : DEnv → Pn → Prop) : TS := fun D σ H => ∃ He S0 Vw ρ P, ER X.K He S0 Vw fl σ H ρ ∧ F ρ P ∧ Lk X W He S0 Vw Ef Lf r D P
theorem PS.imp {X : Cx} {e : Stmt} {t t' : TS} (h : PS X e t) (i : ∀ D σ H, t' D σ H → t D σ H) : PS X e t' := ⟨fun pins s σ H Q I w => h.run pins s σ H Q I (i _ _ _ w)⟩
theorem PSs.imp {X : Cx} {e : List Stmt} {t t' : TS} (h : PSs X e t) (i : ∀ D σ H, t' D σ H → t D σ H) : PSs X e t' := ⟨fun pins s σ H Q I w => h.run pins s σ H Q I (i _ _ _ w)⟩
theorem ER.vw {K : PySem.W.Frag} {He : Hp} {S0 : List Addr} {Vw Vw' : Hp} {fl : Fl} {σ : L2.St} {H : Hp} {ρ : DEnv} (h : ER K He S0 Vw' fl σ H ρ) (e : Same Vw Vw') : ER K He S0 Vw fl σ H ρ :=
  let ⟨O, q⟩ := h
  ⟨O, q.len, q.same, q.s0, q.own, e.trans q.vis, q.rep⟩
/-- ends known by the flags of one branch -/
theorem Lk.of {X : Cx} {W : WX} {He : Hp} {S0 : List Addr} {Vw : Hp} {Ef Lf : Fl} {r r' : FR} {D : Ends} {P : Pn} (h : Lk X W He S0 Vw Ef Lf r D P) (q : ∀ fl', r' = .ok fl' → ∃ fl, r = .ok fl ∧ ∀ i ∈ fl, i ∈ fl') : Lk X W He S0 Vw Ef Lf r' D P :=
  ⟨fun fl' e ρ σ H p w => let ⟨fl, e1, s⟩ := q fl' e; h.nx fl e1 ρ σ H p (w.weak s), h.rt, h.bk, h.ct, h.ex⟩
theorem join_l {a b : FR} (h : a.join b ≠ .bad) : a ≠ .bad ∧ b ≠ .bad := by
  cases a <;> cases b <;> simp_all [FR.join]
theorem join_okl {a b : FR} (h : b ≠ .bad) {fl' : Fl} (e : a = .ok fl') : ∃ fl, a.join b = .ok fl ∧ ∀ i ∈ fl, i ∈ fl' := by
  subst e
  cases b with
  | bad => exact absurd rfl h
  | dead => exact ⟨fl', rfl, fun _ h => h⟩
  | ok b => exact ⟨meet fl' b, rfl, fun i hi => (meet_mem.mp hi).1⟩
theorem join_okr {a b : FR} (h : a ≠ .bad) {fl' : Fl} (e : b = .ok fl') : ∃ fl, a.join b = .ok fl ∧ ∀ i ∈ fl, i ∈ fl' := by
  subst e
  cases a with
  | bad => exact absurd rfl h
  | dead => exact ⟨fl', rfl, fun _ h => h⟩
  | ok b => exact ⟨meet b fl', rfl, fun i hi => (meet_mem.mp hi).2⟩
/-- the guard of a body -/
structure Gs (X : Cx) (N : List Str) (sc : Scope) (cm : Bool) (W : WX) (k : Nat) : Prop extends Gd X N sc cm W k where
  ps : PassesOwn (model X.prog X.w) X.A X.env X.xe
  fn : ∀ x, locB X.env.scope x = true → X.fn x = true ∨ X.env.scope.names.lookup x = some .local
theorem sw_nc {v : Expr} (h : ncB v = true) {env : Env} {l : Nat} (t : Option Expr) : swapsWith v t l env = pure false := by
  cases v <;> first | (cases h; done) | rfl
theorem sw_val {elt : Expr} {gs : List Comprehension} {scope sc : Scope} {pos py : Pos} {y : Str} {l : Nat} {env : Env} (hs : env.scope = sc) (hk : sc.kind = .function) : swapsWith (.ListComp elt gs scope pos) (some (.Name y py)) l env = pure (swLc sc scope y py pos) := by
  have hb : env.blockKind = .function := by unfold Env.blockKind; rw [hs, hk]; rfl
  have ky : (env.kindOf y == some .local) = decide (sc.names.lookup y = some .local) := by
    unfold Env.kindOf
    rw [hs]
    by_cases e : sc.names.lookup y = some .local
    · rw [e]; rfl
    · rw [decide_eq_false e]
      rw [beq_eq_false_iff_ne]
      exact e
  unfold swapsWith swLc
  simp only [hb, ky]
  rfl
section
variable {K : PySem.W.Frag} {He : Hp} {S0 : List Addr} {Vw : Hp} {fl : Fl} {O : List (Nat × Addr)} {σ : L2.St} {H : Hp} {ρ : DEnv}
theorem ERO.sokF (h : ERO K He S0 Vw fl O σ H ρ) (hid : List Nat) : SOk H (adr (O.filter fun p => hid.contains p.1) S0) := h.sok fun p hp => (List.mem_filter.mp hp).1
theorem ERO.lstAt (h : ERO K He S0 Vw fl O σ H ρ) {i : Nat} (hi : i ∈ fl) {ds : List D} (e : ρ[i]? = some (some (.lst ds))) : ∃ a vs, σ[i]? = some (some (.ref a)) ∧ H a = some (.lst vs) := by
  obtain ⟨v, e1, r⟩ := h.rep i _ e
  rcases r with ⟨hc, _⟩ | ⟨_, a, ha, hr⟩
  · rcases hc with hc | hc
    · exact absurd hi hc
    · cases hc
  · obtain ⟨rfl, vs, e2, rs⟩ := hr
    exact ⟨a, vs, e1, e2⟩
theorem filter_nil {O : List (Nat × Addr)} : (O.filter fun p => ([] : List Nat).contains p.1) = [] := by
  rw [List.filter_eq_nil_iff]
  intro p _
  simp
theorem ERO.ev0 (h : ERO K He S0 Vw fl O σ H ρ) : EV K S0 [] H σ ρ := by
  have q := h.ev []
  rw [filter_nil] at q
  exact q
theorem ERO.sok0 (h : ERO K He S0 Vw fl O σ H ρ) : SOk H S0 := h.s0.mono h.same
/-- an owned slot's list, left to the caller -/
theorem ERO.topVar (h : ERO K He S0 Vw fl O σ H ρ) {i : Nat} (hi : i ∈ fl) {d : D} (e : ρ[i]? = some (some d)) : ∃ v, σ[i]? = some (some v) ∧ Post K He S0 true d v H := by
  obtain ⟨v, e1, q⟩ := h.rep i d e
  obtain ⟨v', e1', r⟩ := h.ev0.rep i d e (by simp)
  rw [e1] at e1'
  cases e1'
  refine ⟨v, e1, h.same, r, fun _ => ?_⟩
  rcases q with ⟨hc, _⟩ | ⟨_, a, ha, hr⟩
  · rcases hc with hc | hc
    · exact absurd hi hc
    · cases d <;> first | (cases hc; done) | trivial
  · cases d with
    | lst ds =>
      obtain ⟨rfl, vs, e2, rs⟩ := hr
      refine ⟨a, vs, rfl, h.own.new _ ha, e2, rs.mono (hide_more fun b hb => ?_)⟩
      rcases List.mem_cons.mp hb with rfl | hb
      · exact List.mem_append_left _ (List.mem_map.mpr ⟨_, ha, rfl⟩)
      · exact List.mem_append_right _ hb
    | _ => exact hr.elim
theorem Post.nocont {S : List Addr} {fr : Bool} {d : D} {v : V} {H' : Hp} (p : Post K H S fr d v H') (hc : d.cont = false) : Post K H S true d v H' := ⟨p.same, p.rep, fun _ => by cases d <;> first | (cases hc; done) | trivial⟩
theorem DrawsD.mono {Vw' : Hp} {J : It} {ds : List D} (h : DrawsD K Vw J ds) (e : Same Vw Vw') : DrawsD K Vw' J ds :=
  ⟨fun i H sm hi => h.go i H (e.trans sm) hi, fun i H x H' sm y => ⟨(h.yld i H x H' (e.trans sm) y).1, fun d q => ((h.yld i H x H' (e.trans sm) y).2 d q).mono e⟩, fun i H sm hi => h.stop i H (e.trans sm) hi⟩
end
theorem Lk.exE {X : Cx} {W : WX} {He : Hp} {S0 : List Addr} {Vw : Hp} {Ef Lf : Fl} {r : FR} {D : Ends} {P : Pn} (h : Lk X W He S0 Vw Ef Lf r D P) {fl : Fl} {O : List (Nat × Addr)} {σ : L2.St} {H : Hp} {ρ : DEnv} (w : ERO X.K He S0 Vw fl O σ H ρ) (sE : subF Ef fl = true) {x : Xn} (p : P.ex ρ x) :
    ∀ cls dd H', Same H H' → XRep X.K X.mg x cls dd → W cls dd σ H' := fun cls dd H' sm xr => h.ex ρ x σ H' cls dd p ⟨_, (w.weak Ef (subF_ok sE)).grow sm⟩ xr
end Dl

/-! DlStm2: statements, one kind at a time. -/
namespace Dl
open PySem PySem.Spec PyProof.Rows L2
section
variable {X : Cx} {N : List Str} {sc : Scope} {cm : Bool} {W : WX} {k : Nat} {Ef Lf fl : Fl}
theorem snd1 {e : CE} {v : Expr} {hid : List Nat} (h : okE N sc cm hid e v = true) (G : Gd X N sc cm W k) (nd : e.needs (FC X k) (GC X)) : PE X v (tE X.K X.mg W hid e) := ((soundE e (okI_of h) G nd).1 h).1
theorem sndT {e : CE} {v : Expr} {hid : List Nat} (h : okE N sc cm hid e v = true) (G : Gd X N sc cm W k) (nd : e.needs (FC X k) (GC X)) : PT X v (tTe X.K X.mg W hid e) := ((soundE e (okI_of h) G nd).1 h).2
/-- name = a comprehension on its own line -/
theorem setLc_D {i : Nat} {y : Str} {py : Pos} {t : CT} {it : CE} {ifs : List CE} {elt : CE} {hid : List Nat} {el : Expr} {gs : List Comprehension} {scope : Scope} {pos spos : Pos} (G : Gs X N sc cm W k)
    (h : okE N sc cm hid (.lc t it ifs elt) (.ListComp el gs scope pos) = true) (nd : (CE.lc t it ifs elt).needs (FC X k) (GC X)) (hy : N[i]? = some y) (hk : sc.kind = .function) (sw : swLc sc scope y py pos = true) :
    PS X (.Assign [.Name y py] (.ListComp el gs scope pos) spos) (tAsg (tE X.K X.mg W hid (.lc t it ifs elt)) (gName i)) := by
  unfold okE at h
  split at h
  · rename_i z
    cases z
    rename_i tg iter fs
    obtain ⟨h, c8⟩ := and2 h
    obtain ⟨h, c7⟩ := and2 h
    obtain ⟨h, c6⟩ := and2 h
    obtain ⟨h, c5⟩ := and2 h
    obtain ⟨h, c4⟩ := and2 h
    obtain ⟨h, c3⟩ := and2 h
    obtain ⟨c1, c2⟩ := and2 h
    unfold CE.needs at nd
    have G0 := G.toGd
    obtain ⟨hc, hr⟩ := G0.cm c1
    have hi := (soundE it c2 G0 nd.1).2 tg
    have hsl := okT_slots t tg c5
    have eo : (ownOf N t).map (·.2) = t.slots := own_snd hsl
    have hss : ∀ x, foldedSetIterable iter X.env x = pure x := by
      intro x
      cases iter <;> first | rfl | (cases it <;> simp [okI, okE] at c2)
    have hyl : sc.names.lookup y = some .local := by
      unfold swLc at sw
      exact of_decide_eq_true (and2 (and2 sw).1).1
    have key := ps_setLc (pos := pos) (spos := spos) (py := py) (elt := el) (te := tE X.K X.mg W0 hid elt) (g := gD X.K t) (tt := tIs X.K X.mg W0 hid ifs) hc (by rw [G0.nn]; exact G0.nd) (by rw [G0.nn]; exact hy) (by rw [G0.sc]; exact hyl)
      (by rw [sw_val G0.sc hk, sw]) hi (own := ownOf N t) (blkOk_by (by rw [G0.nn, G0.sc]; exact c3))
      (fun s H C cl fp => pg_D (G0.blk s H scope C cl fp).nn G0.nd (G0.blk s H scope C cl fp).sc hc (fun x _ h2 => fn_blk G0.sc s H scope C cl fp x h2) t tg c5)
      (fun s H C cl fp => pts_in (ifs := ifs) (fs := fs) (mg := X.mg) (W := W0) (hid := hid) (by
        cases ifs with
        | nil =>
          unfold okEs at c7
          rw [List.isEmpty_iff] at c7
          exact .inl ⟨rfl, c7⟩
        | cons c cs =>
          cases fs with
          | nil => unfold okEs at c7; cases c7
          | cons f fs =>
            unfold okEs at c7
            obtain ⟨k1, k2⟩ := and2 c7
            have z := of_decide_eq_true c6
            have e1 : fs = [] := by
              cases fs with
              | nil => rfl
              | cons _ _ => simp at z
            subst e1
            have e2 : cs = [] := by
              have := okEs_len k2
              simpa using this
            subst e2
            have nd2 := nd.2.1
            unfold CE.needsL at nd2
            exact .inr ⟨c, f, rfl, rfl, sndT k1 (G0.blk s H scope C cl fp) nd2.1⟩))
      (fun s H C cl fp => snd1 c8 (G0.blk s H scope C cl fp) nd.2.2) hss
    rw [eo] at key
    exact PS.imp key fun D σ H w => lc_in w
  · cases h
/-- name = a comprehension of two clauses on its own line -/
theorem setLc2_D {i : Nat} {y : Str} {py : Pos} {t t2 : CT} {it it2 : CE} {ifs : List CE} {elt : CE} {hid : List Nat} {el : Expr} {gs : List Comprehension} {scope : Scope} {pos spos : Pos} (G : Gs X N sc cm W k)
    (h : okE N sc cm hid (.lc2 t it t2 it2 ifs elt) (.ListComp el gs scope pos) = true) (nd : (CE.lc2 t it t2 it2 ifs elt).needs (FC X k) (GC X)) (hy : N[i]? = some y) (hk : sc.kind = .function) (sw : swLc sc scope y py pos = true) :
    PS X (.Assign [.Name y py] (.ListComp el gs scope pos) spos) (tAsg (tE X.K X.mg W hid (.lc2 t it t2 it2 ifs elt)) (gName i)) := by
  unfold okE at h
  split at h
  · rename_i z
    cases z
    rename_i tg iter tg2 iter2 fs
    obtain ⟨h, c10⟩ := and2 h
    obtain ⟨h, c9⟩ := and2 h
    obtain ⟨h, c8⟩ := and2 h
    obtain ⟨h, c7⟩ := and2 h
    obtain ⟨h, c6⟩ := and2 h
    obtain ⟨h, c5⟩ := and2 h
    obtain ⟨h, c4⟩ := and2 h
    obtain ⟨h, c3⟩ := and2 h
    obtain ⟨c1, c2⟩ := and2 h
    unfold CE.needs at nd
    have G0 := G.toGd
    obtain ⟨hc, hr⟩ := G0.cm c1
    have hi := (soundE it c2 G0 nd.1).2 tg
    have hsl := okT_slots t tg c5
    have hsl2 := okT_slots t2 tg2 c6
    have eo : (ownOf N t ++ ownOf N t2).map (·.2) = t.slots ++ t2.slots := by
      rw [List.map_append]
      exact congr (congrArg _ (own_snd hsl)) (own_snd hsl2)
    have hss : ∀ x, foldedSetIterable iter X.env x = pure x := by
      intro x
      cases iter <;> first | rfl | (cases it <;> simp [okI, okE] at c2)
    have hss2 : ∀ env x, foldedSetIterable iter2 env x = pure x := by
      intro env x
      cases iter2 <;> first | rfl | (cases it2 <;> simp [okI, okE] at c7)
    have hyl : sc.names.lookup y = some .local := by
      unfold swLc at sw
      exact of_decide_eq_true (and2 (and2 sw).1).1
    have key := ps_setLc2 (pos := pos) (spos := spos) (py := py) (elt := el) (te := tE X.K X.mg W0 hid elt) (g := gD X.K t) (tt := tYes) (g1 := gD X.K t2) (tt1 := tIs X.K X.mg W0 hid ifs) (wi1 := iW X.K X.mg W0 hid (wpE it2)) (vs1 := t2.slots) hc (by rw [G0.nn]; exact G0.nd) (by rw [G0.nn]; exact hy) (by rw [G0.sc]; exact hyl)
      (by rw [sw_val G0.sc hk, sw]) hi (own := ownOf N t ++ ownOf N t2) (blkOk_by (by rw [G0.nn, G0.sc]; exact c3))
      (by rw [eo]; exact fun i hi => List.mem_append_right _ hi)
      (fun s H C cl fp => pg_D (G0.blk s H scope C cl fp).nn G0.nd (G0.blk s H scope C cl fp).sc hc (fun x _ h2 => fn_blk G0.sc s H scope C cl fp x h2) t tg c5)
      (fun s H C cl fp => pts_nil)
      (fun s H C cl fp => (soundE it2 c7 (G0.blk s H scope C cl fp) nd.2.1).2 tg2)
      (fun s H C cl fp => pg_D (G0.blk s H scope C cl fp).nn G0.nd (G0.blk s H scope C cl fp).sc hc (fun x _ h2 => fn_blk G0.sc s H scope C cl fp x h2) t2 tg2 c6)
      (fun s H C cl fp => pts_in (ifs := ifs) (fs := fs) (mg := X.mg) (W := W0) (hid := hid) (by
        cases ifs with
        | nil =>
          unfold okEs at c9
          rw [List.isEmpty_iff] at c9
          exact .inl ⟨rfl, c9⟩
        | cons c cs =>
          cases fs with
          | nil => unfold okEs at c9; cases c9
          | cons f fs =>
            unfold okEs at c9
            obtain ⟨k1, k2⟩ := and2 c9
            have z := of_decide_eq_true c8
            have e1 : fs = [] := by
              cases fs with
              | nil => rfl
              | cons _ _ => simp at z
            subst e1
            have e2 : cs = [] := by
              have := okEs_len k2
              simpa using this
            subst e2
            have nd2 := nd.2.2.1
            unfold CE.needsL at nd2
            exact .inr ⟨c, f, rfl, rfl, sndT k1 (G0.blk s H scope C cl fp) nd2.1⟩))
      (fun s H C cl fp => snd1 c10 (G0.blk s H scope C cl fp) nd.2.2.2) hss hss2
    rw [eo] at key
    exact PS.imp key fun D σ H w => lc2_in w
  · cases h
theorem asg_D {i : Nat} {e : CE} {rd : List Nat} {ls : Bool} {s : Stmt} {r : FR} (G : Gs X N sc cm W k) (nd : e.needs (FC X k) (GC X)) (h : chS N sc cm Ef (.asg i e rd ls) s Lf fl = r) (hr : r ≠ .bad) : PS X s (tS X W Ef Lf fl r (wpS (.asg i e rd ls))) := by
  unfold chS at h
  split at h
  · rename_i x px v pos
    split at h
    · rename_i hc
      obtain ⟨hc, c6⟩ := and2 hc
      obtain ⟨hc, c5⟩ := and2 hc
      obtain ⟨hc, c4⟩ := and2 hc
      obtain ⟨hc, c3⟩ := and2 hc
      obtain ⟨c1, c2⟩ := and2 hc
      have c5 := okXE c5
      have c1 := of_decide_eq_true c1
      have key : ∀ D σ H, tS X W Ef Lf fl r (wpS (.asg i e rd ls)) D σ H → tAsg (tE X.K X.mg W (minus fl rd) e) (gName i) D σ H := by
        rintro D σ H ⟨He, S0, Vw, ρ, P, ⟨O, w⟩, q, L⟩
        unfold wpS at q
        refine tE_in (w.sokF _) (w.ev _) q (fun d v H' ⟨hk, q⟩ p => ?_) fun x cls dd H' e sm xr => L.exE w c3 e cls dd H' sm xr
        refine L.nx _ ?_ _ _ _ q (ER.asg w p hk)
        rw [← h]
        unfold afl
        split <;> rfl
      have loc : Loc X.env.scope x := by
        have := lookB c2
        rw [← G.sc] at this
        exact this
      have fn : X.fn x = true ∨ X.env.scope.names.lookup x = some .local := G.fn x (by rw [G.sc]; exact c2)
      by_cases nc : ncB v = true
      · exact PS.imp (ps_set (by rw [G.nn]; exact G.nd) (by rw [G.nn]; exact c1) loc (snd1 c5 G.toGd nd) (sw_nc nc _) fn) key
      · cases e <;> first | (simp [nc, isLcE] at c6; done) | skip
        case lc t it ifs elt =>
          cases v <;> first | (exact absurd rfl nc) | (simp [okE] at c5; done) | skip
          rename_i el gs scope p
          refine ⟨fun pins s σ H D I w => ?_⟩
          have hk : sc.kind = .function := by rw [← G.sc]; exact I.ok.kind
          cases sw : swLc sc scope x px p with
          | true => exact (PS.imp (setLc_D (py := px) (spos := pos) G c5 nd c1 hk sw) key).run pins s σ H D I w
          | false => exact (PS.imp (ps_set (pos := pos) (pos' := px) (by rw [G.nn]; exact G.nd) (by rw [G.nn]; exact c1) loc (snd1 c5 G.toGd nd) (by rw [sw_val G.sc hk, sw]) fn) key).run pins s σ H D I w
        case lc2 t it t2 it2 ifs elt =>
          cases v <;> first | (exact absurd rfl nc) | (simp [okE] at c5; done) | skip
          rename_i el gs scope p
          refine ⟨fun pins s σ H D I w => ?_⟩
          have hk : sc.kind = .function := by rw [← G.sc]; exact I.ok.kind
          cases sw : swLc sc scope x px p with
          | true => exact (PS.imp (setLc2_D (py := px) (spos := pos) G c5 nd c1 hk sw) key).run pins s σ H D I w
          | false => exact (PS.imp (ps_set (pos := pos) (pos' := px) (by rw [G.nn]; exact G.nd) (by rw [G.nn]; exact c1) loc (snd1 c5 G.toGd nd) (by rw [sw_val G.sc hk, sw]) fn) key).run pins s σ H D I w
    · exact absurd h.symm hr
  · exact absurd h.symm hr
theorem asgT_D {t : CT} {e : CE} {rd : List Nat} {ls : Bool} {s : Stmt} {r : FR} (G : Gs X N sc cm W k) (nd : e.needs (FC X k) (GC X)) (h : chS N sc cm Ef (.asgT t e rd ls) s Lf fl = r) (hr : r ≠ .bad) : PS X s (tS X W Ef Lf fl r (wpS (.asgT t e rd ls))) := by
  unfold chS at h
  split at h
  · rename_i es kk pt v pos
    split at h
    · rename_i hc
      obtain ⟨hc, c7⟩ := and2 hc
      obtain ⟨hc, c6⟩ := and2 hc
      obtain ⟨hc, c5⟩ := and2 hc
      obtain ⟨hc, c4⟩ := and2 hc
      obtain ⟨hc, c3⟩ := and2 hc
      obtain ⟨c1, c2⟩ := and2 hc
      have c5 := okXE c5
      obtain ⟨calm, _⟩ := G.cm c1
      have hg : PG X (.Tuple es kk pt) (gD X.K t) := pg_D G.nn G.nd G.sc calm (fun x h1 _ => G.fn x (by rw [G.sc]; exact h1)) t _ c2
      refine PS.imp (ps_asg (snd1 c5 G.toGd nd) hg (hs := show swapsWith v (some (.Tuple es kk pt)) pos.line X.env = pure false from sw_nc c6 _) (hw := swNone_ok c7)) ?_
      rintro D σ H ⟨He, S0, Vw, ρ, P, ⟨O, w⟩, q, L⟩
      unfold wpS at q
      refine tE_in (w.sokF _) (w.ev _) q (fun d v H' ⟨hk, ρ', ha, q⟩ p => ?_) fun x cls dd H' e sm xr => L.exE w c3 e cls dd H' sm xr
      have rp := Post.beside (sl := t.slots) w p hk
      refine ⟨_, d, ρ, ρ', rp, ha, w.len, fun σ' a => L.nx _ h.symm _ _ _ q ⟨_, (w.grow p.same).store (sl := t.slots) (fl' := afl fl rd ls t.slots) (fun i hi => ⟨(afl_in.mp hi).1, (afl_in.mp hi).2.1⟩) a.len a.lenr a.out a.inn⟩⟩
    · exact absurd h.symm hr
  · exact absurd h.symm hr
theorem par_D {i j : Nat} {a b : CE} {s : Stmt} {r : FR} (G : Gs X N sc cm W k) (nd : a.needs (FC X k) (GC X) ∧ b.needs (FC X k) (GC X)) (h : chS N sc cm Ef (.par i j a b) s Lf fl = r) (hr : r ≠ .bad) : PS X s (tS X W Ef Lf fl r (wpS (.par i j a b))) := by
  unfold chS at h
  split at h
  · rename_i x px y py k1 p1 u v k2 p2 pos
    split at h
    · rename_i hc
      obtain ⟨hc, c8⟩ := and2 hc
      obtain ⟨hc, c7⟩ := and2 hc
      obtain ⟨hc, c6⟩ := and2 hc
      obtain ⟨hc, c5⟩ := and2 hc
      obtain ⟨hc, c4⟩ := and2 hc
      obtain ⟨hc, c3⟩ := and2 hc
      obtain ⟨c1, c2⟩ := and2 hc
      have c7 := okXE c7
      have c8 := okXE c8
      obtain ⟨calm, _⟩ := G.cm c1
      have c2 := of_decide_eq_true c2
      have c3 := of_decide_eq_true c3
      have c4 := of_decide_eq_true c4
      have hA : PA X [u, v] (tL X.K X.mg W fl [a, b]) := soundEs [a, b] (by simp [okEs, c7, c8]) G.toGd (by simp only [CE.needsL]; exact ⟨nd.1, nd.2, trivial⟩)
      have l1 : X.env.scope.names.lookup x = some .local := by
        unfold swTwo at c5
        rw [G.sc]
        exact of_decide_eq_true (and2 (and2 (and2 (and2 (and2 (and2 (and2 c5).1).1).1).1).1).1).1
      have l2 : X.env.scope.names.lookup y = some .local := by
        unfold swTwo at c5
        rw [G.sc]
        exact of_decide_eq_true (and2 (and2 (and2 (and2 (and2 (and2 (and2 c5).1).1).1).1).1).1).2
      refine ⟨fun pins s σ H D I w => ?_⟩
      have hb : X.env.blockKind = .function := by unfold Env.blockKind; rw [I.ok.kind]; rfl
      refine (PS.imp (ps_par calm (by rw [G.nn]; exact G.nd) (by rw [G.nn]; exact c2) (by rw [G.nn]; exact c3) c4 l1 l2 hA (swTwo_ok G.sc hb c5)) ?_).run pins s σ H D I w
      rintro D σ H ⟨He, S0, Vw, ρ, P, ⟨O, w⟩, q, L⟩
      unfold wpS at q
      have q' : wpEs [a, b] ρ (fun ds => ∃ x y, ds = [x, y] ∧ P.nx ((ρ.set i (some x)).set j (some y))) (P.ex ρ) := by
        simp only [wpEs]
        exact wpE_mono a q (fun x q => wpE_mono b q (fun y q => ⟨x, y, rfl, q⟩) fun _ q => q) fun _ q => q
      refine tL_in (w.sokF _) (w.ev _) q' (fun ds vs H' ⟨dx, dy, e, q⟩ sm rp => ?_) fun x cls dd H' e sm xr => L.exE w c6 e cls dd H' sm xr
      subst e
      obtain ⟨vx, vy, rfl, r1, r2⟩ := reps2 rp
      refine ⟨vx, vy, rfl, L.nx _ h.symm _ _ _ q ⟨_, (w.grow sm).store (sl := [i, j]) (fl' := minus fl [i, j]) (fun i hi => minus_mem.mp hi) (by simp) (by simp) (fun m hm => ?_) fun m d hm e => ?_⟩⟩
      · simp only [List.mem_cons, List.not_mem_nil, or_false, not_or] at hm
        rw [List.getElem?_set_ne (Ne.symm hm.2), List.getElem?_set_ne (Ne.symm hm.1), List.getElem?_set_ne (Ne.symm hm.2), List.getElem?_set_ne (Ne.symm hm.1)]
        exact ⟨rfl, rfl⟩
      · have hsub : ∀ b ∈ adr (O.filter fun p => (minus fl [i, j]).contains p.1) S0, b ∈ adr (O.filter fun p => fl.contains p.1) S0 := adr_sub fun p hp => by
          obtain ⟨p1, p2⟩ := List.mem_filter.mp hp
          refine List.mem_filter.mpr ⟨p1, ?_⟩
          have : p.1 ∈ minus fl [i, j] := by simpa using p2
          simpa using (minus_mem.mp this).1
        have ml : m < ρ.length := by
          by_cases z : m < ρ.length
          · exact z
          · rw [List.getElem?_eq_none (by simpa using z)] at e; cases e
        have ml2 : m < σ.length := by rw [w.len]; exact ml
        by_cases hj : m = j
        · subst hj
          rw [List.getElem?_set_self (by simpa using ml)] at e
          cases e
          exact ⟨vy, List.getElem?_set_self (by simpa using ml2), r2.mono (hide_more hsub)⟩
        · have hi : m = i := by
            rcases List.mem_cons.mp hm with z | z
            · exact z
            · exact absurd (by simpa using z) hj
          subst hi
          rw [List.getElem?_set_ne (Ne.symm hj), List.getElem?_set_self ml] at e
          cases e
          exact ⟨vx, by rw [List.getElem?_set_ne (Ne.symm hj), List.getElem?_set_self ml2], r1.mono (hide_more hsub)⟩
    · exact absurd h.symm hr
  · exact absurd h.symm hr
theorem drop_D {e : CE} {s : Stmt} {r : FR} (G : Gs X N sc cm W k) (nd : e.needs (FC X k) (GC X)) (h : chS N sc cm Ef (.drop e) s Lf fl = r) (hr : r ≠ .bad) : PS X s (tS X W Ef Lf fl r (wpS (.drop e))) := by
  unfold chS at h
  split at h
  · rename_i v pos
    split at h
    · rename_i hc
      obtain ⟨hc, c3⟩ := and2 hc
      obtain ⟨c1, c2⟩ := and2 hc
      have c2 := okXE c2
      refine PS.imp (ps_expr (snd1 c2 G.toGd nd) (sw_nc c3 _)) ?_
      rintro D σ H ⟨He, S0, Vw, ρ, P, ⟨O, w⟩, q, L⟩
      unfold wpS at q
      exact tE_in (w.sokF _) (w.ev _) q (fun d v H' q p => L.nx _ h.symm _ _ _ q ⟨_, w.grow p.same⟩) fun x cls dd H' e sm xr => L.exE w c1 e cls dd H' sm xr
    · exact absurd h.symm hr
  · exact absurd h.symm hr
theorem ret_D {e : CE} {fr : Bool} {s : Stmt} {r : FR} (G : Gs X N sc cm W k) (nd : e.needs (FC X k) (GC X)) (h : chS N sc cm Ef (.ret e fr) s Lf fl = r) (hr : r ≠ .bad) : PS X s (tS X W Ef Lf fl r (wpS (.ret e fr))) := by
  unfold chS at h
  split at h
  · rename_i v pos
    split at h
    · rename_i hc
      obtain ⟨hc, c3⟩ := and2 hc
      obtain ⟨c1, c2⟩ := and2 hc
      have c2 := okXE c2
      by_cases hv : fr = true ∧ e.fresh = false
      · -- an owned name
        obtain ⟨hf, he⟩ := hv
        rw [hf, he] at c3
        have c3 : isVarIn fl e = true := by simpa using c3
        cases e with
        | var i =>
          have c3 : i ∈ fl := by simpa [isVarIn] using c3
          unfold okE at c2
          split at c2
          · rename_i x p _ _
            obtain ⟨c2, d5⟩ := and2 c2
            obtain ⟨c2, d4⟩ := and2 c2
            obtain ⟨c2, d3⟩ := and2 c2
            obtain ⟨d1, d2⟩ := and2 c2
            have d1 := of_decide_eq_true d1
            have vis : Vis X.env.scope x := by
              have := lookV d2
              rw [← G.sc] at this
              exact this
            refine PS.imp (ps_ret (pe_var (i := i) (by rw [G.nn]; exact d1) vis (by simpa using d4) (by simpa using d5))) ?_
            rintro D σ H ⟨He, S0, Vw, ρ, P, ⟨O, w⟩, q, L⟩
            unfold wpS wpE at q
            obtain ⟨d, e1, _, q⟩ := q
            obtain ⟨v, e2, p⟩ := w.topVar c3 e1
            exact ⟨v, e2, L.rt _ _ _ q p⟩
          · cases c2
        | _ => cases c3
      · refine PS.imp (ps_ret (snd1 c2 G.toGd nd)) ?_
        rintro D σ H ⟨He, S0, Vw, ρ, P, ⟨O, w⟩, q, L⟩
        unfold wpS at q
        refine tE_in w.sok0 w.ev0 q (fun d v H' ⟨hc, q⟩ p => L.rt _ _ _ q ?_) fun x cls dd H' e sm xr => L.exE w c1 e cls dd H' sm xr
        have p' := p.trans w.same
        by_cases he : e.fresh = true
        · rw [he] at p'; exact p'
        · have he' : e.fresh = false := by simpa using he
          rcases hc with z | z
          · exact absurd ⟨z, he'⟩ hv
          · exact p'.nocont z
    · exact absurd h.symm hr
  · exact absurd h.symm hr
theorem app_D {i : Nat} {e : CE} {rd : List Nat} {ls : Bool} {s : Stmt} {r : FR} (G : Gs X N sc cm W k) (nd : e.needs (FC X k) (GC X)) (h : chS N sc cm Ef (.app i e rd ls) s Lf fl = r) (hr : r ≠ .bad) : PS X s (tS X W Ef Lf fl r (wpS (.app i e rd ls))) := by
  unfold chS at h
  split at h
  · rename_i x px m ap v cp pos
    split at h
    · rename_i hc
      obtain ⟨hc, c10⟩ := and2 hc
      obtain ⟨hc, c9⟩ := and2 hc
      obtain ⟨hc, c8⟩ := and2 hc
      obtain ⟨hc, c7⟩ := and2 hc
      obtain ⟨hc, c6⟩ := and2 hc
      obtain ⟨hc, c5⟩ := and2 hc
      obtain ⟨hc, c4⟩ := and2 hc
      obtain ⟨hc, c3⟩ := and2 hc
      obtain ⟨hc, c2⟩ := and2 hc
      obtain ⟨c0, c1⟩ := and2 hc
      have c10 := okXE c10
      have c0 := of_decide_eq_true c0
      subst c0
      have c2 := of_decide_eq_true c2
      have c6 : i ∈ fl := by simpa using c6
      have vis : Vis X.env.scope x := by
        have := lookV c3
        rw [← G.sc] at this
        exact this
      have hA : PA X [v] (tL X.K X.mg W (minus fl rd) [e]) := soundEs [e] (by simp [okEs, c10]) G.toGd (by simp only [CE.needsL]; exact ⟨nd, trivial⟩)
      have hV : PE X (.Name x px) (tVar i) := pe_var (i := i) (by rw [G.nn]; exact c2) vis (by simpa using c4) (by simpa using c5)
      have st := star_of (okE_pl c10) [] X.env
      refine PS.imp (ps_expr (pe_bm (apos := ap) (cpos := cp) PySem.F.plainAttrs_list PySem.F.slot_list_append PySem.F.type_list_append mt_append hV hA rfl (by rw [st]; rfl) c1 st) (by rfl)) ?_
      rintro D σ H ⟨He, S0, Vw, ρ, P, ⟨O, w⟩, q, L⟩
      unfold wpS at q
      obtain ⟨ds, e1, hz, q⟩ := q
      obtain ⟨a, vs, f1, f2⟩ := w.lstAt c6 e1
      refine ⟨.ref a, f1, .inl ⟨rfl, vs, .inl (.inl f2)⟩, ?_⟩
      have q' : wpEs [e] ρ (fun xs => ∃ d, xs = [d] ∧ (rd = [] ∨ ls = true ∨ d.imm = true) ∧ P.nx (ρ.set i (some (.lst (ds ++ [d]))))) (P.ex ρ) := by
        simp only [wpEs]
        exact wpE_mono e q (fun x q => ⟨x, rfl, q⟩) fun _ q => q
      refine tL_in (w.sokF _) (w.ev _) q' (fun xs us H' ⟨d, ee, hk, q⟩ sm rp => ?_) fun x cls dd H' e sm xr => L.exE w c7 e cls dd H' sm xr
      subst ee
      obtain ⟨u, rfl, rv⟩ := reps1 rp
      have hir : ls = true → i ∉ rd := fun z => by
        rw [z] at c9
        simpa using c9
      obtain ⟨a', vs', g1, g2, g3, g4⟩ := ERO.app w c6 hir (p := ⟨sm, rv, fun z => Bool.noConfusion z⟩) (fr := false) hk e1
      rw [f1] at g1
      cases g1
      refine ⟨a, vs', u, rfl, rfl, g2, ?_, L.nx _ h.symm _ _ _ q (g4.weak fun j hj => afl_in.mpr ?_)⟩
      · rw [g3]; exact hz
      · cases ls with
        | true =>
          rw [if_pos rfl] at hj
          exact ⟨(minus_mem.mp hj).1, by simp, fun _ => (minus_mem.mp hj).2⟩
        | false =>
          rw [if_neg (by simp)] at hj
          exact ⟨hj, by simp, fun z => by cases z⟩
    · exact absurd h.symm hr
  · exact absurd h.symm hr
theorem clr_D {i : Nat} {s : Stmt} {r : FR} (G : Gs X N sc cm W k) (h : chS N sc cm Ef (.clr i) s Lf fl = r) (hr : r ≠ .bad) : PS X s (tS X W Ef Lf fl r (wpS (.clr i))) := by
  unfold chS at h
  split at h
  · rename_i x px m ap cp pos
    split at h
    · rename_i hc
      obtain ⟨hc, c6⟩ := and2 hc
      obtain ⟨hc, c5⟩ := and2 hc
      obtain ⟨hc, c4⟩ := and2 hc
      obtain ⟨hc, c3⟩ := and2 hc
      obtain ⟨hc, c2⟩ := and2 hc
      obtain ⟨c0, c1⟩ := and2 hc
      have c0 := of_decide_eq_true c0
      subst c0
      have c2 := of_decide_eq_true c2
      have c6 : i ∈ fl := by simpa using c6
      have vis : Vis X.env.scope x := by
        have := lookV c3
        rw [← G.sc] at this
        exact this
      have hV : PE X (.Name x px) (tVar i) := pe_var (i := i) (by rw [G.nn]; exact c2) vis (by simpa using c4) (by simpa using c5)
      refine PS.imp (ps_expr (pe_bm0 (apos := ap) (cpos := cp) PySem.F.plainAttrs_list PySem.F.slot_list_clear PySem.F.type_list_clear mt_clear hV rfl c1) (by rfl)) ?_
      rintro D σ H ⟨He, S0, Vw, ρ, P, ⟨O, w⟩, q, L⟩
      unfold wpS at q
      obtain ⟨ds, e1, q⟩ := q
      obtain ⟨a, vs, ha, f1, f2, _⟩ := w.own_at c6 e1
      exact ⟨.ref a, f1, .inl ⟨rfl, vs, .inl (.inl f2)⟩, a, vs, rfl, rfl, f2, L.nx _ h.symm _ _ _ q ⟨O, w.setc c6 ha e1 f1 f2 .nil⟩⟩
    · exact absurd h.symm hr
  · exact absurd h.symm hr
theorem ext_D {i j : Nat} {s : Stmt} {r : FR} (G : Gs X N sc cm W k) (h : chS N sc cm Ef (.ext i j) s Lf fl = r) (hr : r ≠ .bad) : PS X s (tS X W Ef Lf fl r (wpS (.ext i j))) := by
  unfold chS at h
  split at h
  · rename_i x px m ap y py cp pos
    split at h
    · rename_i hc
      obtain ⟨hc, d6⟩ := and2 hc
      obtain ⟨hc, d5⟩ := and2 hc
      obtain ⟨hc, d4⟩ := and2 hc
      obtain ⟨hc, d3⟩ := and2 hc
      obtain ⟨hc, d2⟩ := and2 hc
      obtain ⟨hc, d1⟩ := and2 hc
      obtain ⟨hc, c6⟩ := and2 hc
      obtain ⟨hc, c5⟩ := and2 hc
      obtain ⟨hc, c4⟩ := and2 hc
      obtain ⟨hc, c3⟩ := and2 hc
      obtain ⟨hc, c2⟩ := and2 hc
      obtain ⟨c0, c1⟩ := and2 hc
      have c0 := of_decide_eq_true c0
      subst c0
      have c2 := of_decide_eq_true c2
      have d1 := of_decide_eq_true d1
      have c6 : i ∈ fl := by simpa using c6
      have d5 : j ∈ fl := by simpa using d5
      have hij : i ≠ j := of_decide_eq_true d6
      have vis : ∀ {x : Str}, visB sc x = true → Vis X.env.scope x := fun {x} c => by
        have := lookV c
        rw [← G.sc] at this
        exact this
      have hV : PE X (.Name x px) (tVar i) := pe_var (i := i) (by rw [G.nn]; exact c2) (vis c3) (by simpa using c4) (by simpa using c5)
      have hU : PE X (.Name y py) (tVar j) := pe_var (i := j) (by rw [G.nn]; exact d1) (vis d2) (by simpa using d3) (by simpa using d4)
      refine PS.imp (ps_expr (pe_bm (apos := ap) (cpos := cp) PySem.F.plainAttrs_list PySem.F.slot_list_extend PySem.F.type_list_extend mt_extend hV (pa_cons hU pa_nil rfl) rfl rfl c1 rfl) (by rfl)) ?_
      rintro D σ H ⟨He, S0, Vw, ρ, P, ⟨O, w⟩, q, L⟩
      unfold wpS at q
      obtain ⟨ds, es, e1, e2, hz, hi, q⟩ := q
      obtain ⟨a, vs, ha, f1, f2, r1⟩ := w.own_at c6 e1
      obtain ⟨b, us, hb, g1, g2, r2⟩ := w.own_at d5 e2
      refine ⟨.ref a, f1, .inl ⟨rfl, vs, .inl (.inl f2)⟩, .ref b, g1, a, b, vs, us, rfl, rfl, f2, g2, ?_, L.nx _ h.symm _ _ _ q ⟨O, w.setc c6 ha e1 f1 f2 (r1.append r2)⟩⟩
      rw [← r1.length, ← r2.length, ← szl_eq]
      exact hz
    · exact absurd h.symm hr
  · exact absurd h.symm hr
end
end Dl

/-! DlExc: raise, try: .. except C as e: (tests of e, returns). -/
namespace Dl
open PySem PySem.Spec PyProof.Rows L2
/-- what the name of a class stands for: an own one, a built-in one -/
def NamesV (mg : Str → Option Value) (C : Str) (Cv : V) (cv : Value) : Prop := (∃ E, mg C = some (.ref E) ∧ Cv = .ref E ∧ cv = .ref E) ∨ (mg C = none ∧ ∃ T, bootBuiltins C = some (.type T) ∧ Cv = .ty T ∧ cv = .type T)
theorem NamesV.one {mg : Str → Option Value} {C : Str} {Cv Cv' : V} {cv cv' : Value} (h : NamesV mg C Cv cv) (h' : NamesV mg C Cv' cv') : Cv = Cv' ∧ cv = cv' := by
  rcases h with ⟨E, e1, e2, e3⟩ | ⟨e1, T, e2, e3, e4⟩ <;> rcases h' with ⟨E', f1, f2, f3⟩ | ⟨f1, T', f2, f3, f4⟩
  · rw [e1] at f1; cases f1; exact ⟨e2.trans f2.symm, e3.trans f3.symm⟩
  · rw [e1] at f1; cases f1
  · rw [e1] at f1; cases f1
  · rw [e2] at f2; cases f2; exact ⟨e3.trans f3.symm, e4.trans f4.symm⟩
/-- c may be raised -/
def RzC (K : PySem.W.Frag) (mg : Str → Option Value) (c : Str) : Prop := ∃ D, mg c = some (.ref D) ∧ PySem.W.excIn K D [.type "ValueError", .type "Exception", .type "BaseException", .type "object"] "ValueError.__new__" = true ∧ PySem.W.keepIn K (.ref D) = true ∧
  PySem.W.subIn K (.ref D) (.type "BaseException") = some true ∧ PySem.W.typeIn K (.ref D) = some (.type "type")
/-- how c stands to C -/
def XiC (K : PySem.W.Frag) (mg : Str → Option Value) (c C : Str) : Prop := ∃ D, mg c = some (.ref D) ∧ ExcC K D ∧ ∀ Cv cv, NamesV mg C Cv cv → PySem.W.exmOne K (.ref D) cv = some (subC c C) ∧ PySem.W.kitOne K (.ref D) cv = some (subC c C)
abbrev ClOf (K : PySem.W.Frag) (mg : Str → Option Value) : Cl := ⟨RzC K mg, XiC K mg, fun C => ∃ Cv cv, NamesV mg C Cv cv⟩
section
variable {X : Cx} {N : List Str} {sc : Scope} {cm : Bool} {W : WX} {k : Nat} {Ef Lf fl : Fl}
theorem rse_D {c : Str} {s : Stmt} {r : FR} (G : Gs X N sc cm W k) (nd : RzC X.K X.mg c) (h : chS N sc cm Ef (.rse c) s Lf fl = r) (hr : r ≠ .bad) : PS X s (tS X W Ef Lf fl r (wpS (.rse c))) := by
  unfold chS at h
  split at h
  · rename_i x p m j p2 pos pos2
    split at h
    · rename_i hc
      obtain ⟨hc, c4⟩ := and2 hc
      obtain ⟨hc, c3⟩ := and2 hc
      obtain ⟨c1, c2⟩ := and2 hc
      have c2 := of_decide_eq_true c2
      subst c2
      obtain ⟨calm, _⟩ := G.cm c1
      obtain ⟨D, g1, g2, g3, g4, g5⟩ := nd
      refine PS.imp (ps_raise calm G.tk (pmk_own PySem.F.excBase_ValueError g2 g1 g3 (raises_own g4 g5) (gl_of G.toGd c3) (gloB_ok c3).2.1)) ?_
      rintro D' σ H ⟨He, S0, Vw, ρ, P, ⟨O, w⟩, q, L⟩
      unfold wpS at q
      exact L.exE w c4 q _ _ _ (Same.refl _) ⟨D, g1, rfl, rfl, rfl⟩
    · exact absurd h.symm hr
  · exact absurd h.symm hr
end
/-! ### the suite -/
def tXt (i : Nat) (a : Addr) (b : Bool) : TT := fun σ H Q => σ[i]? = some (some (.ref a)) ∧ Q b H
/-- isinstance(n, C) -/
def IXX (X : Cx) (i : Nat) (a : Addr) (n C : Str) (b : Bool) : Prop := ∀ p1 p2 p3 pos, PT X (.Call (.Name ("isinstance" : Str) p1) [.Name n p2, .Name C p3] [] pos) (tXt i a b)
mutual
theorem xt_D : ∀ (t : XT) {X : Cx} {sc : Scope} {i : Nat} {a : Addr} {n c : Str} {e : Expr}, chX sc n t e = true → t.needs (fun c C => gloB sc C = true → IXX X i a n C (subC c C)) (fun _ => True) c → PT X e (tXt i a (t.val c))
  | .isx C, X, sc, i, a, n, c, e, h, nd => by
    unfold chX at h
    split at h
    · obtain ⟨h, h4⟩ := and2 h
      obtain ⟨h, h3⟩ := and2 h
      obtain ⟨h1, h2⟩ := and2 h
      have h1 := of_decide_eq_true h1
      have h2 := of_decide_eq_true h2
      have h3 := of_decide_eq_true h3
      subst h1 h2 h3
      unfold XT.needs at nd
      unfold XT.val
      exact nd.1 h4 _ _ _ _
    · cases h
  | .not t, X, sc, i, a, n, c, e, h, nd => by
    unfold chX at h
    split at h
    · unfold XT.needs at nd
      refine PT.imp (pt_not (xt_D t h nd)) fun σ H Q w => ?_
      unfold XT.val at w
      exact w
    · cases h
  | .and ts, X, sc, i, a, n, c, e, h, nd => by
    unfold chX at h
    split at h
    · obtain ⟨h1, h2⟩ := and2 h
      unfold XT.needs at nd
      unfold XT.val
      exact PW.pt (xts_and ts h2 (by simpa using h1) nd _)
    · cases h
  | .or ts, X, sc, i, a, n, c, e, h, nd => by
    unfold chX at h
    split at h
    · obtain ⟨h1, h2⟩ := and2 h
      unfold XT.needs at nd
      unfold XT.val
      exact PW.pt (xts_or ts h2 (by simpa using h1) nd _)
    · cases h
theorem xts_and : ∀ (ts : List XT) {X : Cx} {sc : Scope} {i : Nat} {a : Addr} {n c : Str} {vs : List Expr}, chXs sc n ts vs = true → vs ≠ [] → XT.needsL (fun c C => gloB sc C = true → IXX X i a n C (subC c C)) (fun _ => True) c ts → ∀ pos, PW X (.BoolOp .And vs pos) (tXt i a (XT.allv c ts))
  | [], X, sc, i, a, n, c, vs, h, ne, nd, pos => by
    unfold chXs at h
    rw [List.isEmpty_iff] at h
    exact absurd h ne
  | t :: ts, X, sc, i, a, n, c, [], h, ne, nd, pos => absurd rfl ne
  | [t], X, sc, i, a, n, c, v :: vs, h, ne, nd, pos => by
    unfold chXs at h
    obtain ⟨k1, k2⟩ := and2 h
    unfold chXs at k2
    rw [List.isEmpty_iff] at k2
    subst k2
    unfold XT.needsL at nd
    refine PW.imp (pw_and1 (xt_D t k1 nd.1)) fun σ H Q w => ?_
    unfold XT.allv XT.allv at w
    rw [Bool.and_true] at w
    exact w
  | t :: t' :: ts, X, sc, i, a, n, c, [v], h, ne, nd, pos => by
    simp only [chXs] at h
    cases (and2 h).2
  | t :: t' :: ts, X, sc, i, a, n, c, v :: v' :: vs, h, ne, nd, pos => by
    unfold chXs at h
    obtain ⟨k1, k2⟩ := and2 h
    unfold XT.needsL at nd
    refine PW.imp (pw_and (xt_D t k1 nd.1) (xts_and (t' :: ts) k2 (List.cons_ne_nil _ _) nd.2 pos)) fun σ H Q w => ?_
    obtain ⟨w1, w2⟩ := w
    refine ⟨w1, ?_⟩
    rw [XT.allv] at w2
    cases e : t.val c with
    | true => rw [e, Bool.true_and] at w2; exact ⟨w1, w2⟩
    | false => rw [e, Bool.false_and] at w2; exact w2
theorem xts_or : ∀ (ts : List XT) {X : Cx} {sc : Scope} {i : Nat} {a : Addr} {n c : Str} {vs : List Expr}, chXs sc n ts vs = true → vs ≠ [] → XT.needsL (fun c C => gloB sc C = true → IXX X i a n C (subC c C)) (fun _ => True) c ts → ∀ pos, PW X (.BoolOp .Or vs pos) (tXt i a (XT.anyv c ts))
  | [], X, sc, i, a, n, c, vs, h, ne, nd, pos => by
    unfold chXs at h
    rw [List.isEmpty_iff] at h
    exact absurd h ne
  | t :: ts, X, sc, i, a, n, c, [], h, ne, nd, pos => absurd rfl ne
  | [t], X, sc, i, a, n, c, v :: vs, h, ne, nd, pos => by
    unfold chXs at h
    obtain ⟨k1, k2⟩ := and2 h
    unfold chXs at k2
    rw [List.isEmpty_iff] at k2
    subst k2
    unfold XT.needsL at nd
    refine PW.imp (pw_or1 (xt_D t k1 nd.1)) fun σ H Q w => ?_
    unfold XT.anyv XT.anyv at w
    rw [Bool.or_false] at w
    exact w
  | t :: t' :: ts, X, sc, i, a, n, c, [v], h, ne, nd, pos => by
    simp only [chXs] at h
    cases (and2 h).2
  | t :: t' :: ts, X, sc, i, a, n, c, v :: v' :: vs, h, ne, nd, pos => by
    unfold chXs at h
    obtain ⟨k1, k2⟩ := and2 h
    unfold XT.needsL at nd
    refine PW.imp (pw_or (xt_D t k1 nd.1) (xts_or (t' :: ts) k2 (List.cons_ne_nil _ _) nd.2 pos)) fun σ H Q w => ?_
    obtain ⟨w1, w2⟩ := w
    refine ⟨w1, ?_⟩
    rw [XT.anyv] at w2
    cases e : t.val c with
    | true => rw [e, Bool.true_or] at w2; exact w2
    | false => rw [e, Bool.false_or] at w2; exact ⟨w1, w2⟩
end
theorem hdl_D {X : Cx} {N : List Str} {sc : Scope} {k : Nat} {i : Nat} {a : Addr} {n c : Str} (G : Gd X N sc false W0 k) : ∀ (hs : List (XT × CE)) (last : CE) (ss : List Stmt), chH N sc n hs last ss = true → last.needs (FC X k) (GC X) → allP (fun p : XT × CE => p.2.needs (FC X k) (GC X)) hs →
    allP (fun p : XT × CE => p.1.needs (fun c C => gloB sc C = true → IXX X i a n C (subC c C)) (fun _ => True) c) hs → PSs X ss (fun D σ H => σ[i]? = some (some (.ref a)) ∧ tE X.K X.mg W0 [] (hdl c hs last) σ H D.rt)
  | [], last, ss, h, n1, n2, n3 => by
    unfold chH at h
    split at h
    · exact PSs.imp (pss_one (ps_ret (snd1 (okXE h) G n1))) fun D σ H w => w.2
    · cases h
  | (t, r) :: hs, last, ss, h, n1, n2, n3 => by
    unfold chH at h
    split at h
    · obtain ⟨h, h3⟩ := and2 h
      obtain ⟨h1, h2⟩ := and2 h
      unfold allP at n2 n3
      refine PSs.imp (pss_cons (ps_if (xt_D t h1 n3.1) (pss_one (ps_ret (snd1 (okXE h2) G n2.1))) pss_nil) (hdl_D G hs last _ h3 n1 n2.2 n3.2)) fun D σ H w => ?_
      obtain ⟨w1, w2⟩ := w
      refine ⟨w1, ?_⟩
      unfold hdl at w2
      cases e : t.val c with
      | true => rw [e, if_pos rfl] at w2; exact w2
      | false => rw [e, if_neg Bool.false_ne_true] at w2; exact ⟨w1, w2⟩
    · cases h
mutual
theorem XT.needs_imp {M M' : Str → Str → Prop} {Z Z' : Str → Prop} {c : Str} (h : ∀ C, M c C → Z C → M' c C ∧ Z' C) : ∀ (t : XT), t.needs M Z c → t.needs M' Z' c
  | .isx C, n => by unfold XT.needs at *; exact h C n.1 n.2
  | .not t, n => by unfold XT.needs at *; exact XT.needs_imp h t n
  | .and ts, n => by unfold XT.needs at *; exact XT.needsL_imp h ts n
  | .or ts, n => by unfold XT.needs at *; exact XT.needsL_imp h ts n
theorem XT.needsL_imp {M M' : Str → Str → Prop} {Z Z' : Str → Prop} {c : Str} (h : ∀ C, M c C → Z C → M' c C ∧ Z' C) : ∀ (ts : List XT), XT.needsL M Z c ts → XT.needsL M' Z' c ts
  | [], n => by unfold XT.needsL at *; trivial
  | t :: ts, n => by unfold XT.needsL at *; exact ⟨XT.needs_imp h t n.1, XT.needsL_imp h ts n.2⟩
end
theorem allP_imp {α : Type} {P P' : α → Prop} (h : ∀ x, P x → P' x) : ∀ {l : List α}, allP P l → allP P' l
  | [], _ => trivial
  | x :: l, n => ⟨h x n.1, allP_imp h n.2⟩
section
variable {X : Cx} {N : List Str} {sc : Scope} {cm : Bool} {W : WX} {k : Nat} {Ef Lf fl : Fl}
theorem tryx_D {body : List CS} {all : List Str} {C : Str} {i : Nat} {hs : List (XT × CE)} {last : CE} {s : Stmt} {r : FR} (hst : X.stack = X.env :: X.outer) (hfr : X.env.frame = some X.env.locals) (G : Gs X N sc cm W k)
    (hz : ∃ Cv cv, NamesV X.mg C Cv cv) (hm : allP (fun c => XiC X.K X.mg c C ∧ allP (fun p : XT × CE => p.1.needs (XiC X.K X.mg) (fun C => ∃ Cv cv, NamesV X.mg C Cv cv) c) hs) all) (n1 : last.needs (FC X k) (GC X)) (n2 : allP (fun p : XT × CE => p.2.needs (FC X k) (GC X)) hs)
    (ih : ∀ (X' : Cx) (W' : WX), X'.K = X.K → X'.mg = X.mg → Gs X' N sc cm W' k → X'.stack = X'.env :: X'.outer → X'.env.frame = some X'.env.locals → X'.prog = X.prog → X'.w = X.w → X'.base = X.base → ∀ ss Lf fl r, chB N sc cm Ef body ss Lf fl = r → r ≠ .bad → PSs X' ss (tS X' W' Ef Lf fl r (wpB body)))
    (h : chS N sc cm Ef (.tryx body all C i hs last) s Lf fl = r) (hr : r ≠ .bad) : PS X s (tS X W Ef Lf fl r (wpS (.tryx body all C i hs last))) := by
  unfold chS at h
  split at h
  · rename_i bd y py n suite ppos pos
    split at h
    · rename_i hc
      obtain ⟨hc, c9⟩ := and2 hc
      obtain ⟨hc, c8⟩ := and2 hc
      obtain ⟨hc, c7⟩ := and2 hc
      obtain ⟨hc, c6⟩ := and2 hc
      obtain ⟨hc, c5⟩ := and2 hc
      obtain ⟨hc, c4⟩ := and2 hc
      obtain ⟨hc, c3⟩ := and2 hc
      obtain ⟨c1, c2⟩ := and2 hc
      have c1 := of_decide_eq_true c1
      subst c1
      have c3 := of_decide_eq_true c3
      have c4 := of_decide_eq_true c4
      obtain ⟨Cv, cv, hC⟩ := hz
      have kN : X.env.kindOf n = some .local := by unfold Env.kindOf; rw [G.sc]; exact c4
      have hNm : Names X C cv := ⟨gl_of G.toGd c2, (gloB_ok c2).2.1, by
        rcases hC with ⟨E, e1, _, e2⟩ | ⟨e1, T, e2, _, e3⟩
        · exact .inl (by rw [e1, e2])
        · exact .inr ⟨e1, by rw [e2, e3], (gloB_ok c2).2.2⟩⟩
      -- the suite's first statement
      obtain ⟨b0, bs, rfl⟩ : ∃ b0 bs, suite = b0 :: bs := by
        cases suite with
        | nil => cases hs <;> simp [chH] at c9
        | cons b0 bs => exact ⟨b0, bs, rfl⟩
      refine PS.imp (ps_try_as (tb := fun W' => tS X W' Ef Lf fl r (wpB body)) (ts := fun a cls d D σ H => ∃ c D0, c ∈ all ∧ X.mg c = some (.ref D0) ∧ cls = .ref D0 ∧ d = none ∧ σ[i]? = some (some (.ref a)) ∧ tE X.K X.mg W0 [] (hdl c hs last) σ H D.rt) (c := cv) (i := i) hst hfr (by rw [G.nn]; exact G.nd) (by rw [G.nn]; exact c3) kN hNm G.tk
        (fun W' pn xe tk ps => ?_) fun a oe cls d pn hzc hfl => ?_) ?_
      · refine PSs.imp (ih (X.tr pn xe) W' rfl rfl { nn := G.nn, nd := G.nd, sc := G.sc, tk := tk, cm := G.cm, hu := G.hu, fr := G.fr, ps := ps, fn := G.fn } hst hfr rfl rfl rfl bd Lf fl r h hr) ?_
        rintro D σ H ⟨He, S0, Vw, ρ, P, w, q, L⟩
        exact ⟨He, S0, Vw, ρ, P, w, q, ⟨L.nx, L.rt, L.bk, L.ct, L.ex⟩⟩
      · refine ⟨fun pins s σ H D I w => ?_⟩
        obtain ⟨c, D0, m1, m2, rfl, rfl, w1, w2⟩ := w
        obtain ⟨x1, x2⟩ := allP_mem hm m1
        obtain ⟨D1, y1, y2, y3⟩ := x1
        rw [m2] at y1
        cases y1
        have GS : Gd (X.suite a ((a, oe) :: pn)) N sc false W0 k := { nn := G.nn, nd := G.nd, sc := G.sc, tk := fun u s' x => by obtain ⟨_, _, _, _, _, _, _, _, _, _, _, _, _, _, _, _, z⟩ := x; exact z, cm := fun z => Bool.noConfusion z, hu := G.hu, fr := G.fr }
        have vis : Vis (X.suite a ((a, oe) :: pn)).env.scope n := .inl (by show X.env.scope.names.lookup n = _; rw [G.sc]; exact c4)
        have n3 : allP (fun p : XT × CE => p.1.needs (fun c C => gloB sc C = true → IXX (X.suite a ((a, oe) :: pn)) i a n C (subC c C)) (fun _ => True) c) hs := allP_imp (fun p hp => XT.needs_imp (fun C' hM hZ => ⟨fun hg p1 p2 p3 pos => ?_, trivial⟩) p.1 hp) x2
        · exact (hdl_D (c := c) GS hs last _ c9 n1 n2 n3).run pins s σ H D I ⟨w1, w2⟩
        · obtain ⟨D2, z1, z2, z3⟩ := hM
          rw [m2] at z1
          cases z1
          obtain ⟨Cv', cv', hC'⟩ := hZ
          obtain ⟨_, z4⟩ := z3 _ _ hC'
          have hcls : PE (X.suite a ((a, oe) :: pn)) (.Name C' p3) (tC Cv') := by
            rcases hC' with ⟨E, e1, e2, e3⟩ | ⟨e1, T, e2, e3, e4⟩
            · rw [e2]; exact pe_glob (gl_of GS hg) e1 rfl (gloB_ok hg).2.1
            · rw [e3]; exact pe_bltn (gl_of GS hg) e1 e2 rfl (gloB_ok hg).2.2 (gloB_ok hg).2.1
          have hcv : ∀ u, RelV Cv' u → u = cv' := by
            rcases hC' with ⟨E, e1, e2, e3⟩ | ⟨e1, T, e2, e3, e4⟩
            · intro u hu; rw [e2] at hu; rw [e3]; exact hu
            · intro u hu; rw [e3] at hu; rw [e4]; exact hu
          have hv : PE (X.suite a ((a, oe) :: pn)) (.Name n p2) (tVar i) := pe_var (i := i) (by rw [GS.nn]; exact c3) vis (by simpa using c5) (by simpa using c6)
          refine PT.imp (pt_truth (pe_callB (call_isE y2 hzc hfl) (gl_of GS c7) (G.fr "isinstance" (by decide +kernel)) PyProof.Rows.boot_isinstance (pa_cons hv (pa_cons hcls pa_nil rfl) rfl) (by decide) (by decide) rfl rfl) (by intro whole; rfl)) fun σ H Q w => ?_
          exact ⟨.ref a, w.1, Cv', cv', subC c C', rfl, hcv, z4, subC c C', rfl, w.2⟩
      · rintro D σ H ⟨He, S0, Vw, ρ, P, w, q, L⟩
        unfold wpS at q
        refine ⟨He, S0, Vw, ρ, _, w, q, ⟨L.nx, L.rt, L.bk, L.ct, fun ρ' x σ' H' cls dd p w' xr => ?_⟩⟩
        obtain ⟨m1, p⟩ := p
        obtain ⟨x1, x2⟩ := allP_mem hm m1
        obtain ⟨D1, y1, y2, y3⟩ := x1
        obtain ⟨D2, z1, z2, z3, z4⟩ := xr
        rw [y1] at z1
        cases z1
        subst z2 z4
        obtain ⟨z5, _⟩ := y3 _ _ hC
        refine ⟨subC x.c C, z5, fun hb a ha => ?_, fun hb => ?_⟩
        · rw [if_pos hb] at p
          obtain ⟨O, w'⟩ := w'
          have il : i < σ'.length := by rw [w'.len]; exact p.1
          refine ⟨x.c, D1, m1, y1, rfl, rfl, by rw [List.getElem?_set_self il], S0, ρ'.map fun _ => none, w'.sok0, ⟨by simp [w'.len], fun j d e => ?_⟩, wpE_mono _ p.2 (fun d ⟨hd, pr⟩ v H2 pp => ?_) fun _ z => z.elim⟩
          · rw [List.getElem?_map] at e
            cases q : ρ'[j]? with
            | none => rw [q] at e; cases e
            | some o => rw [q] at e; cases e
          · exact L.rt d v H2 pr ((pp.trans w'.same).nocont hd)
        · rw [if_neg (by rw [hb]; simp)] at p
          exact L.ex ρ' x σ' H' _ _ p w' ⟨D1, y1, rfl, z3, rfl⟩
    · exact absurd h.symm hr
  · exact absurd h.symm hr
end
end Dl

/-! DlStm3: loops, blocks: the whole. -/
namespace Dl
open PySem PySem.Spec PyProof.Rows L2
section
variable {X : Cx} {N : List Str} {sc : Scope} {cm : Bool} {W : WX} {k : Nat} {Ef Lf fl : Fl}
theorem for_D {t : CT} {it : CE} {rd : List Nat} {body : List CS} {s : Stmt} {r : FR} (G : Gs X N sc cm W k) (nd : it.needs (FC X k) (GC X))
    (ih : ∀ ss Lf fl r, chB N sc cm Ef body ss Lf fl = r → r ≠ .bad → PSs X ss (tS X W Ef Lf fl r (wpB body)))
    (h : chS N sc cm Ef (.for_ t it rd body) s Lf fl = r) (hr : r ≠ .bad) : PS X s (tS X W Ef Lf fl r (wpS (.for_ t it rd body))) := by
  unfold chS at h
  split at h
  · rename_i tg iter bd pos
    split at h
    · rename_i hc
      obtain ⟨hc, c5⟩ := and2 hc
      obtain ⟨hc, c4⟩ := and2 hc
      obtain ⟨hc, c3⟩ := and2 hc
      obtain ⟨c1, c2⟩ := and2 hc
      have c5 := okXI c5
      obtain ⟨calm, _⟩ := G.cm c1
      split at h
      · rename_i f hf
        obtain ⟨l1, l2⟩ := loopF_ok hf
        have hg : PG X tg (gD X.K t) := pg_D G.nn G.nd G.sc calm (fun x h1 _ => G.fn x (by rw [G.sc]; exact h1)) t _ c2
        have hi := (soundE it c5 G.toGd nd).2 tg
        have hss : ∀ x, foldedSetIterable iter X.env x = pure x := by
          intro x
          cases iter <;> first | rfl | (cases it <;> simp [okI, okE] at c5)
        obtain ⟨rb, hb, hrb, hlk⟩ : ∃ rb, chB N sc cm Ef body bd f f = rb ∧ rb ≠ .bad ∧ ∀ fl', rb = .ok fl' → ∀ i ∈ f, i ∈ fl' := by
          rcases l2 with z | ⟨fl2, z, sub⟩
          · exact ⟨_, rfl, by rw [z]; simp, fun fl' e => by rw [z] at e; cases e⟩
          · exact ⟨_, rfl, by rw [z]; simp, fun fl' e => by rw [z] at e; cases e; exact sub⟩
        have f1 : ∀ i ∈ f, i ∈ fl ∧ i ∉ rd ∧ i ∉ t.slots := fun i hi => by
          obtain ⟨a, b⟩ := minus_mem.mp (l1 i hi)
          obtain ⟨a, c⟩ := minus_mem.mp a
          exact ⟨a, c, b⟩
        refine PS.imp (ps_for G.ps calm hi hg (ih bd f f rb hb hrb) hss) ?_
        rintro D σ H ⟨He, S0, Vw, ρ, P, ⟨O, w⟩, q, L⟩
        unfold wpS at q
        refine ⟨_, ρ, w.sokF (minus fl rd), w.ev (minus fl rd), wpE_mono it q (fun d ⟨xs, e, q⟩ => ⟨xs, e, fun J H1 sm dr => ?_⟩) fun x e cls dd H' sm xr => L.exE w c3 e cls dd H' sm xr⟩
        have w1 := (w.weak f fun i hi => (f1 i hi).1).grow sm
        have hVf : Same Vw (hide H1 (adr (O.filter fun p => f.contains p.1) S0)) := w1.vis
        have dr' : DrawsD X.K (hide H1 (adr (O.filter fun p => f.contains p.1) S0)) J xs := dr.mono (hide_more (adr_sub fun p hp => by
          obtain ⟨p1, p2⟩ := List.mem_filter.mp hp
          refine List.mem_filter.mpr ⟨p1, ?_⟩
          have p2' : p.1 ∈ f := by simpa using p2
          have : p.1 ∈ minus fl rd := minus_mem.mpr ⟨(f1 _ p2').1, (f1 _ p2').2.1⟩
          simpa using this))
        obtain ⟨V1, hV1⟩ : ∃ V, V = hide H1 (adr (O.filter fun p => f.contains p.1) S0) := ⟨_, rfl⟩
        rw [← hV1] at hVf dr'
        have w2 : ER X.K He S0 V1 f σ H1 ρ := ⟨_, w1.len, w1.same, w1.s0, w1.own, by rw [hV1]; exact Same.refl _, w1.rep⟩
        refine ⟨fun i m σ H => m = xs.length - i ∧ i ≤ xs.length ∧ ∃ ρ, ER X.K He S0 V1 f σ H ρ ∧ wpFor (fun x ρ P => ∃ ρ', asgT t x ρ = some ρ' ∧ wpB body ρ' P) (xs.drop i) ρ P, ⟨xs.length, by simp, Nat.zero_le _, ρ, w2, by simpa using q⟩, ?_⟩
        rintro i m σ H ⟨rfl, hi, ρ, ⟨O2, w3⟩, q⟩
        have sm3 : Same V1 H := w3.vis.trans hide_le
        by_cases hlt : i < xs.length
        · rw [List.drop_eq_getElem_cons hlt] at q
          unfold wpFor at q
          obtain ⟨ρ', ha, q⟩ := q
          refine .inr ⟨dr'.go i H sm3 hlt, fun σ H => ∃ ρ, ER X.K He S0 V1 f σ H ρ ∧ wpFor (fun x ρ P => ∃ ρ', asgT t x ρ = some ρ' ∧ wpB body ρ' P) (xs.drop (i + 1)) ρ P, fun σ' H' ⟨ρ, a, b⟩ => ⟨xs.length - (i + 1), by omega, rfl, hlt, ρ, a, b⟩, fun x H' y => ?_⟩
          obtain ⟨e1, rp⟩ := dr'.yld i H x H' sm3 y
          subst e1
          have rp := rp _ (List.getElem?_eq_getElem hlt)
          refine ⟨adr (O2.filter fun p => f.contains p.1) S0, _, ρ, ρ', rp.mono (w3.vis.trans (hide_more (adr_sub fun p hp => (List.mem_filter.mp hp).1))), ha, w3.len, fun σ' a => ?_⟩
          refine ⟨He, S0, V1, ρ', _, ⟨_, w3.store (sl := t.slots) (fl' := f) (fun i hi => ⟨hi, (f1 i hi).2.2⟩) a.len a.lenr a.out a.inn⟩, q, ?_⟩
          refine ⟨fun fl' e ρ σ H p w => ⟨ρ, w.weak (hlk fl' e), p⟩, L.rt, fun ρ σ H p w => L.nx _ h.symm _ _ _ p (w.vw hVf), fun ρ σ H p w => ⟨ρ, w, p⟩, fun ρ x σ H cls dd p w xr => L.ex ρ x σ H cls dd p (w.vw hVf) xr⟩
        · have ei : i = xs.length := by omega
          subst ei
          rw [List.drop_length] at q
          unfold wpFor at q
          exact .inl ⟨dr'.stop _ H sm3 (Nat.le_refl _), L.nx _ h.symm _ _ _ q (ER.vw ⟨_, w3⟩ hVf)⟩
      · exact absurd h.symm hr
    · exact absurd h.symm hr
  · exact absurd h.symm hr
theorem whl_D {c : CE} {body : List CS} {s : Stmt} {r : FR} (G : Gs X N sc cm W k) (nd : c.needs (FC X k) (GC X))
    (ih : ∀ ss Lf fl r, chB N sc cm Ef body ss Lf fl = r → r ≠ .bad → PSs X ss (tS X W Ef Lf fl r (wpB body)))
    (h : chS N sc cm Ef (.whl c body) s Lf fl = r) (hr : r ≠ .bad) : PS X s (tS X W Ef Lf fl r (wpS (.whl c body))) := by
  unfold chS at h
  split at h
  · rename_i tst bd pos
    split at h
    · rename_i hc
      obtain ⟨hc, c3⟩ := and2 hc
      obtain ⟨c1, c2⟩ := and2 hc
      have c3 := okXE c3
      split at h
      · rename_i f hf
        split at h
        · rename_i sE
          obtain ⟨l1, l2⟩ := loopF_ok hf
          obtain ⟨rb, hb, hrb, hlk⟩ : ∃ rb, chB N sc cm Ef body bd f f = rb ∧ rb ≠ .bad ∧ ∀ fl', rb = .ok fl' → ∀ i ∈ f, i ∈ fl' := by
            rcases l2 with z | ⟨fl2, z, sub⟩
            · exact ⟨_, rfl, by rw [z]; simp, fun fl' e => by rw [z] at e; cases e⟩
            · exact ⟨_, rfl, by rw [z]; simp, fun fl' e => by rw [z] at e; cases e; exact sub⟩
          refine PS.imp (ps_while G.ps (sndT c3 G.toGd nd) (ih bd f f rb hb hrb)) ?_
          rintro D σ H ⟨He, S0, Vw, ρ, P, w, q, L⟩
          unfold wpS at q
          obtain ⟨n, q⟩ := q
          refine ⟨fun m σ H => ∃ ρ, ER X.K He S0 Vw f σ H ρ ∧ wpWhl (wpT c) (wpB body) m ρ P, ⟨n, ρ, w.weak l1, q⟩, ?_⟩
          rintro m σ H ⟨ρ, ⟨O, w⟩, q⟩
          cases m with
          | zero => exact q.elim
          | succ m =>
            unfold wpWhl at q
            refine tT_in w.sok0 w.ev0 q (fun b H' q sm => ?_) fun x cls dd H' e sm xr => L.exE w sE e cls dd H' sm xr
            split
            · rename_i hb'
              rw [if_pos hb'] at q
              refine ⟨fun σ H => ∃ ρ, ER X.K He S0 Vw f σ H ρ ∧ wpWhl (wpT c) (wpB body) m ρ P, fun σ' H' w => ⟨m, Nat.lt_succ_self m, w⟩, He, S0, Vw, ρ, _, ⟨_, w.grow sm⟩, q, ?_⟩
              exact ⟨fun fl' e ρ σ H p w => ⟨ρ, w.weak (hlk fl' e), p⟩, L.rt, fun ρ σ H p w => L.nx _ h.symm _ _ _ p w, fun ρ σ H p w => ⟨ρ, w, p⟩, L.ex⟩
            · rename_i hb'
              rw [if_neg hb'] at q
              exact L.nx _ h.symm _ _ _ q ⟨_, w.grow sm⟩
        · exact absurd h.symm hr
      · exact absurd h.symm hr
    · exact absurd h.symm hr
  · exact absurd h.symm hr
end
mutual
theorem soundS : ∀ (c : CS) {X : Cx} {N : List Str} {sc : Scope} {cm : Bool} {W : WX} {k : Nat} {Ef : Fl} (s : Stmt) (Lf fl : Fl) (r : FR), Gs X N sc cm W k → c.needs (FC X k) (GC X) (ClOf X.K X.mg) → X.stack = X.env :: X.outer → X.env.frame = some X.env.locals → chS N sc cm Ef c s Lf fl = r → r ≠ .bad → PS X s (tS X W Ef Lf fl r (wpS c))
  | .asg i e rd ls, X, N, sc, cm, W, k, Ef, s, Lf, fl, r, G, nd, hst, hfr, h, hr => asg_D G (by unfold CS.needs at nd; exact nd) h hr
  | .asgT t e rd ls, X, N, sc, cm, W, k, Ef, s, Lf, fl, r, G, nd, hst, hfr, h, hr => asgT_D G (by unfold CS.needs at nd; exact nd) h hr
  | .par i j a b, X, N, sc, cm, W, k, Ef, s, Lf, fl, r, G, nd, hst, hfr, h, hr => par_D G (by unfold CS.needs at nd; exact nd) h hr
  | .app i e rd ls, X, N, sc, cm, W, k, Ef, s, Lf, fl, r, G, nd, hst, hfr, h, hr => app_D G (by unfold CS.needs at nd; exact nd) h hr
  | .clr i, X, N, sc, cm, W, k, Ef, s, Lf, fl, r, G, nd, hst, hfr, h, hr => clr_D G h hr
  | .ext i j, X, N, sc, cm, W, k, Ef, s, Lf, fl, r, G, nd, hst, hfr, h, hr => ext_D G h hr
  | .drop e, X, N, sc, cm, W, k, Ef, s, Lf, fl, r, G, nd, hst, hfr, h, hr => drop_D G (by unfold CS.needs at nd; exact nd) h hr
  | .ret e fr, X, N, sc, cm, W, k, Ef, s, Lf, fl, r, G, nd, hst, hfr, h, hr => ret_D G (by unfold CS.needs at nd; exact nd) h hr
  | .retN, X, N, sc, cm, W, k, Ef, s, Lf, fl, r, G, nd, hst, hfr, h, hr => by
    unfold chS at h
    split at h
    · refine PS.imp ps_retN ?_
      rintro D σ H ⟨He, S0, Vw, ρ, P, ⟨O, w⟩, q, L⟩
      unfold wpS at q
      exact L.rt .non .non H q ⟨w.same, by unfold Rep; rfl, fun _ => trivial⟩
    · exact absurd h.symm hr
  | .ifs c a b, X, N, sc, cm, W, k, Ef, s, Lf, fl, r, G, nd, hst, hfr, h, hr => by
    unfold CS.needs at nd
    unfold chS at h
    split at h
    · split at h
      · rename_i hc
        obtain ⟨c1, c2⟩ := and2 hc
        have c2 := okXE c2
        rw [← h] at hr
        obtain ⟨ra, rb⟩ := join_l hr
        refine PS.imp (ps_if (sndT c2 G.toGd nd.1) (soundB a _ Lf fl _ G nd.2.1 hst hfr rfl ra) (soundB b _ Lf fl _ G nd.2.2 hst hfr rfl rb)) ?_
        rintro D σ H ⟨He, S0, Vw, ρ, P, ⟨O, w⟩, q, L⟩
        unfold wpS at q
        rw [← h] at L
        refine tT_in w.sok0 w.ev0 q (fun k H' q sm => ?_) fun x cls dd H' e sm xr => L.exE w c1 e cls dd H' sm xr
        split
        · rename_i hk
          rw [if_pos hk] at q
          exact ⟨He, S0, Vw, ρ, P, ⟨_, w.grow sm⟩, q, L.of fun fl' e => join_okl rb e⟩
        · rename_i hk
          rw [if_neg hk] at q
          exact ⟨He, S0, Vw, ρ, P, ⟨_, w.grow sm⟩, q, L.of fun fl' e => join_okr ra e⟩
      · exact absurd h.symm hr
    · exact absurd h.symm hr
  | .for_ t it rd body, X, N, sc, cm, W, k, Ef, s, Lf, fl, r, G, nd, hst, hfr, h, hr => by
    unfold CS.needs at nd
    exact for_D G nd.1 (fun ss Lf fl r h hr => soundB body ss Lf fl r G nd.2 hst hfr h hr) h hr
  | .whl c body, X, N, sc, cm, W, k, Ef, s, Lf, fl, r, G, nd, hst, hfr, h, hr => by
    unfold CS.needs at nd
    exact whl_D G nd.1 (fun ss Lf fl r h hr => soundB body ss Lf fl r G nd.2 hst hfr h hr) h hr
  | .brk, X, N, sc, cm, W, k, Ef, s, Lf, fl, r, G, nd, hst, hfr, h, hr => by
    unfold chS at h
    split at h
    · split at h
      · rename_i hs
        refine PS.imp ps_break ?_
        rintro D σ H ⟨He, S0, Vw, ρ, P, w, q, L⟩
        unfold wpS at q
        exact L.bk _ _ _ q (w.weak (subF_ok hs))
      · exact absurd h.symm hr
    · exact absurd h.symm hr
  | .cnt, X, N, sc, cm, W, k, Ef, s, Lf, fl, r, G, nd, hst, hfr, h, hr => by
    unfold chS at h
    split at h
    · split at h
      · rename_i hs
        refine PS.imp ps_continue ?_
        rintro D σ H ⟨He, S0, Vw, ρ, P, w, q, L⟩
        unfold wpS at q
        exact L.ct _ _ _ q (w.weak (subF_ok hs))
      · exact absurd h.symm hr
    · exact absurd h.symm hr
  | .pass, X, N, sc, cm, W, k, Ef, s, Lf, fl, r, G, nd, hst, hfr, h, hr => by
    unfold chS at h
    split at h
    · refine PS.imp ps_pass ?_
      rintro D σ H ⟨He, S0, Vw, ρ, P, w, q, L⟩
      unfold wpS at q
      exact L.nx _ h.symm _ _ _ q w
    · exact absurd h.symm hr
  | .rse c, X, N, sc, cm, W, k, Ef, s, Lf, fl, r, G, nd, hst, hfr, h, hr => rse_D G (by unfold CS.needs at nd; exact nd) h hr
  | .tryx body all C i hs last, X, N, sc, cm, W, k, Ef, s, Lf, fl, r, G, nd, hst, hfr, h, hr => by
    unfold CS.needs at nd
    obtain ⟨n1, n2, n3, n4, n5⟩ := nd
    exact tryx_D hst hfr G n2 n3 n4 n5 (fun X' W' e1 e2 G' hs' hf' e3 e4 e5 ss Lf fl r h hr => soundB body ss Lf fl r G' (by
      have f1 : FC X' k = FC X k := by unfold FC; rw [e1, e2, e3, e4, e5]
      have f2 : GC X' = GC X := by unfold GC; rw [e1, e2]
      rw [f1, f2, e1, e2]
      exact n1) hs' hf' h hr) h hr
theorem soundB : ∀ (c : List CS) {X : Cx} {N : List Str} {sc : Scope} {cm : Bool} {W : WX} {k : Nat} {Ef : Fl} (s : List Stmt) (Lf fl : Fl) (r : FR), Gs X N sc cm W k → CS.needsL (FC X k) (GC X) (ClOf X.K X.mg) c → X.stack = X.env :: X.outer → X.env.frame = some X.env.locals → chB N sc cm Ef c s Lf fl = r → r ≠ .bad → PSs X s (tS X W Ef Lf fl r (wpB c))
  | [], X, N, sc, cm, W, k, Ef, s, Lf, fl, r, G, nd, hst, hfr, h, hr => by
    unfold chB at h
    split at h
    · rename_i hs
      rw [List.isEmpty_iff] at hs
      subst hs
      refine PSs.imp pss_nil ?_
      rintro D σ H ⟨He, S0, Vw, ρ, P, w, q, L⟩
      unfold wpB at q
      exact L.nx _ h.symm _ _ _ q w
    · exact absurd h.symm hr
  | c :: cs, X, N, sc, cm, W, k, Ef, [], Lf, fl, r, G, nd, hst, hfr, h, hr => by
    unfold chB at h
    exact absurd h.symm hr
  | c :: cs, X, N, sc, cm, W, k, Ef, s :: ss, Lf, fl, r, G, nd, hst, hfr, h, hr => by
    unfold CS.needsL at nd
    simp only [chB] at h
    split at h
    · exact absurd h.symm hr
    · rename_i e
      refine PSs.imp (pss_cons (soundS c s Lf fl _ G nd.1 hst hfr e (by simp)) pss_never) ?_
      rintro D σ H ⟨He, S0, Vw, ρ, P, w, q, L⟩
      unfold wpB at q
      exact ⟨He, S0, Vw, ρ, _, w, q, ⟨fun fl' e => (by cases e), L.rt, L.bk, L.ct, L.ex⟩⟩
    · rename_i fl' e
      refine PSs.imp (pss_cons (soundS c s Lf fl _ G nd.1 hst hfr e (by simp)) (soundB cs ss Lf fl' r G nd.2 hst hfr h hr)) ?_
      rintro D σ H ⟨He, S0, Vw, ρ, P, w, q, L⟩
      unfold wpB at q
      exact ⟨He, S0, Vw, ρ, _, w, q, ⟨fun fl2 e2 ρ' σ' H' p w' => (by cases e2; exact ⟨He, S0, Vw, ρ', P, w', p, L⟩), L.rt, L.bk, L.ct, L.ex⟩⟩
end
end Dl

/-! DlFn: a def keeps its spec. -/
namespace Dl
open PySem PySem.Spec PyProof.Rows L2
section
variable {P : Program} {w : World} {K : PySem.W.Frag} {mg : Str → Option Value} {base : Heap} {k : Nat} {x qual : Str} {params : Arguments} {body : List Stmt} {scope : Scope} {dvs : List V} {kws : List (Str × V)} {f : Addr} {fd : FuncData} {N ps : List Str}
theorem start_get {n : Nat} {ds : List D} {i : Nat} {d : D} (h : (Dl.start n ds)[i]? = some (some d)) : ds[i]? = some d := by
  unfold Dl.start at h
  by_cases hi : i < ds.length
  · rw [List.getElem?_append_left (by simpa using hi), List.getElem?_map] at h
    cases e : ds[i]? with
    | none => rw [e] at h; cases h
    | some d' => rw [e] at h; cases h; rfl
  · rw [List.getElem?_append_right (by simpa using hi), List.getElem?_replicate] at h
    split at h <;> cases h
theorem fnOk_D {cs : List CS} {sp : Spec} (F : FunD K x qual params body scope dvs kws f fd) (S : FnScope N ps scope) (hfree : ∀ x ∈ freeNames, mg x = none) (hch : (chB N scope true [] cs body [] []).isBad = false)
    (nd : CS.needsL (fun f n sp => FnC P w K mg base k f n sp) (GlC K mg) (ClOf K mg) cs) (pure : ∀ ds Q E, ds.length = ps.length → sp.run ds Q E → wpDef N.length cs ds Q E) : FnOk P w K mg base (L2.CX P w) (k + 1) f fd ps (spOf K mg sp ps.length) := by
  refine F.ok S (fun vs H Q E h => h.1) fun cdv A outer s H vs Q E hr hsp => ⟨tS (cxOf (L2.CX P w) P w K mg base N qual scope f cdv A outer s H E) (fun cls d _ H => E cls d H) [] [] [] _ (wpB cs), soundB (k := k) (sc := scope) (cm := true) (N := N) cs body [] [] _ ?_ nd rfl rfl rfl (fun e => by rw [e] at hch; cases hch), ?_⟩
  · exact { nn := rfl, nd := S.nd, sc := rfl, tk := takes_of rfl rfl rfl rfl, cm := fun _ => ⟨rfl, hr⟩, hu := by have := hr.un; show (A.deeper (envOfC qual scope s.heap.objs.size f cdv)).units + 66 < cLine; omega, fr := hfree, ps := passes_of rfl, fn := fun x _ => .inl rfl }
  · obtain ⟨hl, S0, ds, hS, hR, q⟩ := hsp
    have hdl : ds.length = ps.length := hR.length.trans hl
    refine ⟨H, S0, hide H S0, Dl.start N.length ds, _, ⟨[], ?_⟩, pure ds _ _ hdl q, ?_⟩
    · refine ⟨by simp [L2.start, Dl.start, hR.length], Same.refl _, hS, ⟨by simp, by simp, by simp, by simp⟩, Same.refl _, fun i d e => ?_⟩
      have e1 := start_get e
      obtain ⟨v, e2, r⟩ := hR.get e1
      refine ⟨v, ?_, .inl ⟨.inl (by simp), r⟩⟩
      unfold L2.start
      have hi : i < vs.length := (List.getElem?_eq_some_iff.mp e2).1
      rw [List.getElem?_append_left (by simpa using hi), List.getElem?_map, e2]
      rfl
    · refine ⟨fun fl' e ρ σ H' p w => ?_, fun d v H' p q => p v H' q, fun _ _ _ z => z.elim, fun _ _ _ z => z.elim, fun ρ x σ H' cls dd p w xr => ?_⟩
      · obtain ⟨O, w⟩ := w
        exact p .non H' ⟨w.same, by unfold Rep; rfl, fun _ => trivial⟩
      · obtain ⟨O, w⟩ := w
        exact p cls dd H' w.same xr
/-- asked nothing -/
theorem _root_.L2.FnOk.never {CX : CXT} {sp : Sp} (h : ∀ vs H Q E, sp vs H Q E → False) : FnOk P w K mg base CX k f fd ps sp := ⟨fun vs H Q E q => (h vs H Q E q).elim, fun A outer s H args us vs Q E hr e0 hb r q => (h vs H Q E q).elim⟩
/-- called with all its arguments -/
theorem FnC.full {sp : Spec} (F : FnOk P w K mg base (L2.CX P w) k f fd ps (spOf K mg sp ps.length)) (hg : mg x = some (.ref f)) (hk : PySem.W.keepIn K (.ref f) = true) (hb : Binds K fd ps []) : FnC P w K mg base k x ps.length sp :=
  ⟨f, fd, ps, [], [], [], sp, hg, hk, hb, .nil, fun H => by unfold Reps; rfl, F, rfl, fun xs Q E _ h => by rw [List.append_nil]; exact h⟩
theorem FnC.mono {j : Nat} {n : Nat} {sp : Spec} (h : FnC P w K mg base k x n sp) (hj : k ≤ j) : FnC P w K mg base j x n sp :=
  let ⟨a, fd, ps, dvs, ds, dds, sp', h1, h2, h3, h4, h5, h6, h7⟩ := h
  ⟨a, fd, ps, dvs, ds, dds, sp', h1, h2, h3, h4, h5, h6.mono hj, h7⟩
/-- another spec that it keeps -/
theorem FnC.imp {n : Nat} {sp sp2 : Spec} (h : FnC P w K mg base k x n sp) (hi : ∀ xs Q E, xs.length = n → sp2.run xs Q E → sp.run xs Q E) : FnC P w K mg base k x n sp2 :=
  let ⟨a, fd, ps, dvs, ds, dds, sp', h1, h2, h3, h4, h5, h6, h7, h8⟩ := h
  ⟨a, fd, ps, dvs, ds, dds, sp', h1, h2, h3, h4, h5, h6, h7, fun xs Q E l q => h8 xs Q E l (hi xs Q E l q)⟩
/-- called with a default left out -/
theorem FnC.dfl {sp sp2 : Spec} {n : Nat} {vs : List V} {ds : List Value} {dds : List D} (F : FnOk P w K mg base (L2.CX P w) k f fd ps (spOf K mg sp ps.length)) (hg : mg x = some (.ref f)) (hk : PySem.W.keepIn K (.ref f) = true) (hb : Binds K fd ps ds) (hv : Vals vs ds)
    (hr : ∀ H, Reps K H dds vs) (hn : ps.length = n + dds.length) (hs : ∀ xs Q E, xs.length = n → sp2.run xs Q E → sp.run (xs ++ dds) Q E) : FnC P w K mg base k x n sp2 :=
  ⟨f, fd, ps, vs, ds, dds, sp, hg, hk, hb, hv, hr, F, hn, hs⟩
end
end Dl

/-! DlHead: facts of the head by a check of one's own; constants of the top, own classes. -/
namespace Dl
open PySem PySem.Spec PyProof.Rows L2 He
/-! ### constants of the top as data -/
mutual
def repB (K : PySem.W.Frag) : D → Value → Bool
  | .non, u => (match u with | .none => true | _ => false)
  | .bl b, u => (match u with | .bool c => b == c | _ => false)
  | .int i, u => (match u with | .int j _ => decide (i = j) | _ => false)
  | .str x, u => (match u with | .str y _ => decide (x = y) | _ => false)
  | .tup ds, u => (match u with
    | .ref a => (match K.lookup a with
      | some ⟨.type c, _, .seq its _, _⟩ => decide (c = "tuple") && (decide (its.size ≤ sizeLine) && repsB K ds its.toList)
      | _ => false)
    | _ => false)
  | .lst ds, u => (match u with
    | .ref a => (match K.lookup a with
      | some ⟨.type c, none, .seq its _, _⟩ => decide (c = "list") && (decide (its.size ≤ sizeLine) && repsB K ds its.toList)
      | _ => false)
    | _ => false)
  | .dict _ _, _ => false
  | .obj _ _ _, _ => false
termination_by structural d => d
def repsB (K : PySem.W.Frag) : List D → List Value → Bool
  | [], us => us.isEmpty
  | d :: ds, us => (match us with
    | u :: us => repB K d u && repsB K ds us
    | [] => false)
termination_by structural ds => ds
end
mutual
theorem repB_ok {K : PySem.W.Frag} : ∀ (d : D) (u : Value), repB K d u = true → ∃ v, RelV v u ∧ ∀ H, Rep K H d v
  | .non, u, h => by
    unfold repB at h
    split at h
    · exact ⟨.non, rfl, fun H => by unfold Rep; rfl⟩
    · cases h
  | .bl b, u, h => by
    unfold repB at h
    split at h
    · rename_i c
      have e : b = c := by simpa using h
      subst e
      exact ⟨.bl b, rfl, fun H => by unfold Rep; rfl⟩
    · cases h
  | .int i, u, h => by
    unfold repB at h
    split at h
    · rename_i j t
      have e := of_decide_eq_true h
      subst e
      exact ⟨.int i, ⟨t, rfl⟩, fun H => by unfold Rep; rfl⟩
    · cases h
  | .str x, u, h => by
    unfold repB at h
    split at h
    · rename_i j t
      have e := of_decide_eq_true h
      subst e
      exact ⟨.str x, ⟨t, rfl⟩, fun H => by unfold Rep; rfl⟩
    · cases h
  | .tup ds, u, h => by
    unfold repB at h
    split at h
    · rename_i a
      split at h
      · rename_i c od its n sl q
        obtain ⟨h1, h⟩ := ba h
        obtain ⟨h2, h3⟩ := ba h
        obtain ⟨vs, r, hr⟩ := repsB_ok ds its.toList h3
        refine ⟨.ref a, rfl, fun H => ?_⟩
        unfold Rep
        exact ⟨a, vs, rfl, .inr ⟨_, its, n, q, congrArg Value.type (of_decide_eq_true h1), rfl, of_decide_eq_true h2, r⟩, hr H⟩
      · cases h
    · cases h
  | .lst ds, u, h => by
    unfold repB at h
    split at h
    · rename_i a
      split at h
      · rename_i c its n sl q
        obtain ⟨h1, h⟩ := ba h
        obtain ⟨h2, h3⟩ := ba h
        obtain ⟨vs, r, hr⟩ := repsB_ok ds its.toList h3
        refine ⟨.ref a, rfl, fun H => ?_⟩
        unfold Rep
        exact ⟨a, vs, rfl, .inr ⟨_, its, n, q, congrArg Value.type (of_decide_eq_true h1), rfl, rfl, of_decide_eq_true h2, r⟩, hr H⟩
      · cases h
    · cases h
  | .dict _ _, u, h => by unfold repB at h; cases h
  | .obj _ _ _, u, h => by unfold repB at h; cases h
theorem repsB_ok {K : PySem.W.Frag} : ∀ (ds : List D) (us : List Value), repsB K ds us = true → ∃ vs, Vals vs us ∧ ∀ H, Reps K H ds vs
  | [], us, h => by
    unfold repsB at h
    rw [List.isEmpty_iff] at h
    subst h
    exact ⟨[], .nil, fun H => by unfold Reps; rfl⟩
  | d :: ds, [], h => by unfold repsB at h; cases h
  | d :: ds, u :: us, h => by
    unfold repsB at h
    obtain ⟨h1, h2⟩ := ba h
    obtain ⟨v, r1, r2⟩ := repB_ok d u h1
    obtain ⟨vs, s1, s2⟩ := repsB_ok ds us h2
    exact ⟨v :: vs, .cons r1 s1, fun H => by unfold Reps; exact ⟨v, vs, rfl, r2 H, s2 H⟩⟩
end
def gloC (K : PySem.W.Frag) (x : Str) (d : D) : Bool := match PySem.W.nsIn K mainGlobals x with
  | some (some u) => repB K d u
  | _ => false
theorem gloC_ok {K : PySem.W.Frag} {h : Heap} {mg : Str → Option Value} (X : K.In h) (G : h.Ns mainGlobals mg) {x : Str} {d : D} (c : gloC K x d = true) : GlC K mg x d := by
  unfold gloC at c
  split at c
  · rename_i u q
    obtain ⟨v, r, hr⟩ := repB_ok d u c
    exact ⟨u, v, PySem.W.mg_of X G q, r, hr⟩
  · cases c
/-! ### classes -/
def eqOV (a b : Option (Option Value)) : Bool := decide (a = b)
def exB (K : PySem.W.Frag) (D : Addr) : Bool :=
  decide (PySem.W.findIn K (.ref D) "__getattribute__" = some (some (.builtin "BaseException.__getattribute__"))) && decide (PySem.W.findIn K (.ref D) "__getattr__" = some none) && decide (PySem.W.subIn K (.ref D) (.type "BaseException") = some true) &&
  PySem.W.hasDictIn K D && decide (PySem.W.findIn K (.ref D) "__class__" = some (some (.builtin "object.__class__"))) && decide (PySem.W.specialIn K (.builtin "object.__class__") "__get__" = some (some (.builtin "getset_descriptor.__get__"))) &&
  decide (PySem.W.takesIn K (.builtin "object.__class__") = some true) && decide (PySem.W.mroIn K D (.type "object") = some true)
theorem exB_ok {K : PySem.W.Frag} {D : Addr} (h : exB K D = true) : ExcC K D := by
  unfold exB at h
  obtain ⟨h, h8⟩ := ba h
  obtain ⟨h, h7⟩ := ba h
  obtain ⟨h, h6⟩ := ba h
  obtain ⟨h, h5⟩ := ba h
  obtain ⟨h, h4⟩ := ba h
  obtain ⟨h, h3⟩ := ba h
  obtain ⟨h1, h2⟩ := ba h
  exact ⟨of_decide_eq_true h1, of_decide_eq_true h2, of_decide_eq_true h3, h4, of_decide_eq_true h5, of_decide_eq_true h6, of_decide_eq_true h7, of_decide_eq_true h8⟩
/-- c may be raised -/
def rzB (K : PySem.W.Frag) (c : Str) : Bool := (Fa.glo c).ok K && (Fa.exc c).ok K
theorem rzB_ok {K : PySem.W.Frag} {h : Heap} {mg : Str → Option Value} (X : K.In h) (G : h.Ns mainGlobals mg) {c : Str} (q : rzB K c = true) : RzC K mg c := by
  obtain ⟨q1, q2⟩ := ba q
  obtain ⟨e1, e2, e3, e4⟩ := exc_ok q2
  exact ⟨ga K c, glo_ok X G q1, e1, e2, e3, e4⟩
/-- c beside an own class C -/
def xiB (K : PySem.W.Frag) (c C : Str) : Bool := (Fa.glo c).ok K && (Fa.glo C).ok K && exB K (ga K c) && decide (PySem.W.exmOne K (.ref (ga K c)) (.ref (ga K C)) = some (subC c C)) && decide (PySem.W.kitOne K (.ref (ga K c)) (.ref (ga K C)) = some (subC c C))
theorem xiB_ok {K : PySem.W.Frag} {h : Heap} {mg : Str → Option Value} (X : K.In h) (G : h.Ns mainGlobals mg) {c C : Str} (q : xiB K c C = true) : XiC K mg c C := by
  unfold xiB at q
  obtain ⟨q, q5⟩ := ba q
  obtain ⟨q, q4⟩ := ba q
  obtain ⟨q, q3⟩ := ba q
  obtain ⟨q1, q2⟩ := ba q
  refine ⟨ga K c, glo_ok X G q1, exB_ok q3, fun Cv cv hn => ?_⟩
  have n2 : NamesV mg C (.ref (ga K C)) (.ref (ga K C)) := .inl ⟨_, glo_ok X G q2, rfl, rfl⟩
  obtain ⟨_, e⟩ := hn.one n2
  rw [e]
  exact ⟨of_decide_eq_true q4, of_decide_eq_true q5⟩
/-- .. beside a built-in one -/
def xiT (K : PySem.W.Frag) (c : Str) (T : String) : Bool := (Fa.glo c).ok K && (Fa.free (Str.ofString T)).ok K && exB K (ga K c) && decide (PySem.W.exmOne K (.ref (ga K c)) (.type T) = some (subC c (Str.ofString T))) && decide (PySem.W.kitOne K (.ref (ga K c)) (.type T) = some (subC c (Str.ofString T)))
theorem xiT_ok {K : PySem.W.Frag} {h : Heap} {mg : Str → Option Value} (X : K.In h) (G : h.Ns mainGlobals mg) {c : Str} {T : String} (q : xiT K c T = true) (hb : bootBuiltins (Str.ofString T) = some (.type T)) : XiC K mg c (Str.ofString T) := by
  unfold xiT at q
  obtain ⟨q, q5⟩ := ba q
  obtain ⟨q, q4⟩ := ba q
  obtain ⟨q, q3⟩ := ba q
  obtain ⟨q1, q2⟩ := ba q
  refine ⟨ga K c, glo_ok X G q1, exB_ok q3, fun Cv cv hn => ?_⟩
  have n2 : NamesV mg (Str.ofString T) (.ty T) (.type T) := .inr ⟨free_ok X G q2, T, hb, rfl, rfl⟩
  obtain ⟨_, e⟩ := hn.one n2
  rw [e]
  exact ⟨of_decide_eq_true q4, of_decide_eq_true q5⟩
theorem nmG_ok {K : PySem.W.Frag} {h : Heap} {mg : Str → Option Value} (X : K.In h) (G : h.Ns mainGlobals mg) {C : Str} (q : (Fa.glo C).ok K = true) : ∃ Cv cv, NamesV mg C Cv cv := ⟨_, _, .inl ⟨_, glo_ok X G q, rfl, rfl⟩⟩
theorem nmT_ok {K : PySem.W.Frag} {h : Heap} {mg : Str → Option Value} (X : K.In h) (G : h.Ns mainGlobals mg) {T : String} (q : (Fa.free (Str.ofString T)).ok K = true) (hb : bootBuiltins (Str.ofString T) = some (.type T)) : ∃ Cv cv, NamesV mg (Str.ofString T) Cv cv := ⟨_, _, .inr ⟨free_ok X G q, T, hb, rfl, rfl⟩⟩
/-! ### the Hook -/
/-- what a law asks of its head -/
inductive Ask where
  | glo (x : Str) | free (x : Str) | con (x : Str) (d : D) | rz (c : Str) | xi (c C : Str) | xt (c : Str) (T : String)
def Ask.ok (K : PySem.W.Frag) : Ask → Bool
  | .glo x => (Fa.glo x).ok K
  | .free x => (Fa.free x).ok K
  | .con x d => gloC K x d
  | .rz c => rzB K c
  | .xi c C => xiB K c C
  | .xt c T => xiT K c T
abbrev AlX : Type := Bool × AlD
def obsX (ak : List Ask) (fn : List DefD) (K : PySem.W.Frag) : AlX := (ak.all fun q => q.ok K, obsD [] fn K)
def obsXG (n : Nat) (ak : List Ask) (fn : List DefD) (g : Addr → Option Obj) : AlX := obsX ak fn (frG g (asD g n))
def SaysX (ak : List Ask) (fn : List DefD) (K : PySem.W.Frag) : Prop := obsX ak fn K = (true, valD fn)
def hookX (n : Nat) (ak : List Ask) (fn : List DefD) : PySem.W.Hook where
  α := AlX
  obs := fun s => obsXG n ak fn s.heap.get?
  val := fun _ => (true, valD fn)
  says := fun _ h => ∃ K : PySem.W.Frag, K.In h ∧ SaysX ak fn K
  of := fun _ _ e => ⟨_, frG_in, e⟩
  keeps := fun _ _ _ ⟨K, hK, c⟩ k => ⟨K, PySem.W.Frag.In.keeps hK k, c⟩
theorem obsXG_eq {n : Nat} {ak : List Ask} {fn : List DefD} {g : Addr → Option Obj} {s : Shared} (h : ∀ a, g a = s.heap.get? a) : obsXG n ak fn g = (hookX n ak fn).obs s := by
  have e : g = s.heap.get? := funext h
  rw [e] <;> rfl
theorem SaysX.ask {ak : List Ask} {fn : List DefD} {K : PySem.W.Frag} (c : SaysX ak fn K) {q : Ask} (h : q ∈ ak) : q.ok K = true :=
  List.all_eq_true.mp (congrArg (fun z : AlX => z.1) c) q h
theorem SaysX.def_ {ak : List Ask} {fn : List DefD} {K : PySem.W.Frag} (c : SaysX ak fn K) (i : Nat) {d : DefD} (h : fn[i]? = some d := by rfl) : ∃ fd, FunD K d.name d.qual d.params d.body d.scope (d.dvs K) (d.kws K) (fAd K d.at_) fd :=
  SaysD.def_ (fa := []) (fn := fn) (congrArg (fun z : AlX => z.2) c) i h
end Dl

/-! DlWp: how a pure walk is done: monotone, loops by invariants, the equations as simp rules. -/
namespace Dl
structure Pn.le (P P' : Pn) : Prop where
  nx : ∀ ρ, P.nx ρ → P'.nx ρ
  rt : ∀ d, P.rt d → P'.rt d
  bk : ∀ ρ, P.bk ρ → P'.bk ρ
  ct : ∀ ρ, P.ct ρ → P'.ct ρ
  ex : ∀ ρ x, P.ex ρ x → P'.ex ρ x
theorem wpFor_mono {g : D → DEnv → Pn → Prop} (hg : ∀ x ρ P P', P.le P' → g x ρ P → g x ρ P') : ∀ {xs : List D} {ρ : DEnv} {P P' : Pn}, wpFor g xs ρ P → P.le P' → wpFor g xs ρ P'
  | [], ρ, P, P', h, l => by unfold wpFor at *; exact l.nx _ h
  | x :: xs, ρ, P, P', h, l => by
    unfold wpFor at *
    refine hg _ _ _ _ ?_ h
    exact ⟨fun ρ q => wpFor_mono hg (show wpFor g xs ρ P from q) l, l.rt, l.nx, fun ρ q => wpFor_mono hg (show wpFor g xs ρ P from q) l, l.ex⟩
theorem wpWhl_mono {t : DEnv → (Bool → Prop) → (Xn → Prop) → Prop} {g : DEnv → Pn → Prop} (ht : ∀ ρ Q Q' E E', (∀ k, Q k → Q' k) → (∀ x, E x → E' x) → t ρ Q E → t ρ Q' E') (hg : ∀ ρ P P', P.le P' → g ρ P → g ρ P') :
    ∀ {n : Nat} {ρ : DEnv} {P P' : Pn}, wpWhl t g n ρ P → P.le P' → wpWhl t g n ρ P'
  | 0, ρ, P, P', h, l => by unfold wpWhl at h; exact h.elim
  | n + 1, ρ, P, P', h, l => by
    unfold wpWhl at *
    refine ht _ _ _ _ _ (fun k q => ?_) (l.ex ρ) h
    split
    · rename_i hk
      rw [if_pos hk] at q
      refine hg _ _ _ ?_ q
      exact ⟨fun ρ q => wpWhl_mono ht hg (show wpWhl t g n ρ P from q) l, l.rt, l.nx, fun ρ q => wpWhl_mono ht hg (show wpWhl t g n ρ P from q) l, l.ex⟩
    · rename_i hk
      rw [if_neg hk] at q
      exact l.nx _ q
theorem wpT_mono {c : CE} {ρ : DEnv} {Q Q' : Bool → Prop} {E E' : Xn → Prop} (h : wpT c ρ Q E) (hq : ∀ k, Q k → Q' k) (he : ∀ x, E x → E' x) : wpT c ρ Q' E' := wpE_mono c h (fun d ⟨k, e, q⟩ => ⟨k, e, hq k q⟩) he
mutual
theorem wpS_mono : ∀ (c : CS) {ρ : DEnv} {P P' : Pn}, wpS c ρ P → P.le P' → wpS c ρ P'
  | .asg i e rd ls, ρ, P, P', h, l => by unfold wpS at *; exact wpE_mono e h (fun d ⟨a, q⟩ => ⟨a, l.nx _ q⟩) (l.ex ρ)
  | .asgT t e rd ls, ρ, P, P', h, l => by unfold wpS at *; exact wpE_mono e h (fun d ⟨a, ρ', e1, q⟩ => ⟨a, ρ', e1, l.nx _ q⟩) (l.ex ρ)
  | .par i j a b, ρ, P, P', h, l => by unfold wpS at *; exact wpE_mono a h (fun x q => wpE_mono b q (fun y q => l.nx _ q) (l.ex ρ)) (l.ex ρ)
  | .app i e rd ls, ρ, P, P', h, l => by
    unfold wpS at *
    obtain ⟨ds, e1, hz, h⟩ := h
    exact ⟨ds, e1, hz, wpE_mono e h (fun d ⟨a, q⟩ => ⟨a, l.nx _ q⟩) (l.ex ρ)⟩
  | .clr i, ρ, P, P', h, l => by
    unfold wpS at *
    obtain ⟨ds, e, q⟩ := h
    exact ⟨ds, e, l.nx _ q⟩
  | .ext i j, ρ, P, P', h, l => by
    unfold wpS at *
    obtain ⟨ds, es, e1, e2, h1, h2, q⟩ := h
    exact ⟨ds, es, e1, e2, h1, h2, l.nx _ q⟩
  | .drop e, ρ, P, P', h, l => by unfold wpS at *; exact wpE_mono e h (fun d q => l.nx _ q) (l.ex ρ)
  | .ret e fr, ρ, P, P', h, l => by unfold wpS at *; exact wpE_mono e h (fun d ⟨a, q⟩ => ⟨a, l.rt _ q⟩) (l.ex ρ)
  | .retN, ρ, P, P', h, l => by unfold wpS at *; exact l.rt _ h
  | .ifs c a b, ρ, P, P', h, l => by
    unfold wpS at *
    refine wpT_mono h (fun k q => ?_) (l.ex ρ)
    split
    · rename_i hk; rw [if_pos hk] at q; exact wpB_mono a q l
    · rename_i hk; rw [if_neg hk] at q; exact wpB_mono b q l
  | .for_ t it rd body, ρ, P, P', h, l => by
    unfold wpS at *
    exact wpE_mono it h (fun d ⟨xs, e, q⟩ => ⟨xs, e, wpFor_mono (fun x ρ P P' l ⟨ρ', e, q⟩ => ⟨ρ', e, wpB_mono body q l⟩) q l⟩) (l.ex ρ)
  | .whl c body, ρ, P, P', h, l => by
    unfold wpS at *
    obtain ⟨n, h⟩ := h
    exact ⟨n, wpWhl_mono (t := wpT c) (g := wpB body) (fun ρ Q Q' E E' hq he h => wpT_mono h hq he) (fun ρ P P' l q => wpB_mono body q l) h l⟩
  | .brk, ρ, P, P', h, l => by unfold wpS at *; exact l.bk _ h
  | .cnt, ρ, P, P', h, l => by unfold wpS at *; exact l.ct _ h
  | .pass, ρ, P, P', h, l => by unfold wpS at *; exact l.nx _ h
  | .rse c, ρ, P, P', h, l => by unfold wpS at *; exact l.ex _ _ h
  | .tryx body all c i hs last, ρ, P, P', h, l => by
    unfold wpS at *
    refine wpB_mono body h ⟨l.nx, l.rt, l.bk, l.ct, fun ρ' x ⟨q0, q⟩ => ⟨q0, ?_⟩⟩
    split
    · rename_i hk; rw [if_pos hk] at q; exact ⟨q.1, wpE_mono _ q.2 (fun d ⟨a, b⟩ => ⟨a, l.rt _ b⟩) fun _ z => z⟩
    · rename_i hk; rw [if_neg hk] at q; exact l.ex _ _ q
theorem wpB_mono : ∀ (c : List CS) {ρ : DEnv} {P P' : Pn}, wpB c ρ P → P.le P' → wpB c ρ P'
  | [], ρ, P, P', h, l => by unfold wpB at *; exact l.nx _ h
  | s :: ss, ρ, P, P', h, l => by
    unfold wpB at *
    exact wpS_mono s h ⟨fun ρ q => wpB_mono ss (show wpB ss ρ P from q) l, l.rt, l.bk, l.ct, l.ex⟩
end
/-- a for loop by an invariant -/
theorem wpFor_inv {t : CT} {body : List CS} (I : Nat → DEnv → Prop) : ∀ {xs : List D} {n : Nat} {ρ : DEnv} {P : Pn}, I n ρ → (∀ i x ρ, xs[i]? = some x → I (n + i) ρ → ∃ ρ', asgT t x ρ = some ρ' ∧ wpB body ρ' { P with nx := I (n + i + 1), ct := I (n + i + 1), bk := P.nx }) →
    (∀ ρ, I (n + xs.length) ρ → P.nx ρ) → wpFor (fun x ρ P => ∃ ρ', asgT t x ρ = some ρ' ∧ wpB body ρ' P) xs ρ P
  | [], n, ρ, P, h0, hs, hd => by unfold wpFor; exact hd ρ h0
  | x :: xs, n, ρ, P, h0, hs, hd => by
    unfold wpFor
    obtain ⟨ρ', e, q⟩ := hs 0 x ρ rfl h0
    have ih : ∀ ρ', I (n + 1) ρ' → wpFor (fun x ρ P => ∃ ρ', asgT t x ρ = some ρ' ∧ wpB body ρ' P) xs ρ' P := fun ρ' h => wpFor_inv I h (fun i x ρ e h => by
      have := hs (i + 1) x ρ (by simpa using e) (by rw [show n + (i + 1) = n + 1 + i by omega]; exact h)
      rw [show n + (i + 1) + 1 = n + 1 + i + 1 by omega] at this
      exact this) (fun ρ h => hd ρ (by rw [List.length_cons, show n + (xs.length + 1) = n + 1 + xs.length by omega]; exact h))
    exact ⟨ρ', e, wpB_mono body q ⟨fun ρ q => ih ρ q, fun _ q => q, fun _ q => q, fun ρ q => ih ρ q, fun _ _ q => q⟩⟩
/-- a while loop by an invariant and a measure -/
theorem wpWhl_inv {c : CE} {body : List CS} (I : DEnv → Prop) (m : DEnv → Nat) {P : Pn} (hs : ∀ ρ, I ρ → wpT c ρ (fun k => if k = true then wpB body ρ { P with nx := fun ρ' => I ρ' ∧ m ρ' < m ρ, ct := fun ρ' => I ρ' ∧ m ρ' < m ρ, bk := P.nx } else P.nx ρ) (P.ex ρ)) :
    ∀ {n : Nat} {ρ : DEnv}, I ρ → m ρ < n → wpWhl (wpT c) (wpB body) n ρ P
  | 0, ρ, _, h => by omega
  | n + 1, ρ, hI, h => by
    unfold wpWhl
    refine wpT_mono (hs ρ hI) (fun k q => ?_) (fun _ q => q)
    split
    · rename_i hk
      rw [if_pos hk] at q
      exact wpB_mono body q ⟨fun ρ' ⟨a, b⟩ => wpWhl_inv I m hs a (by omega), fun _ q => q, fun _ q => q, fun ρ' ⟨a, b⟩ => wpWhl_inv I m hs a (by omega), fun _ _ q => q⟩
    · rename_i hk
      rw [if_neg hk] at q
      exact q
/-- a comprehension that keeps f's values -/
theorem wpLc_map {g : D → (Option D → Prop) → Prop} (f : D → Option D) : ∀ {xs acc : List D} {Q : List D → Prop}, (∀ x ∈ xs, ∀ K : Option D → Prop, K (f x) → g x K) → acc.length + xs.length ≤ szl → Q (acc ++ xs.filterMap f) → wpLc g xs acc Q
  | [], acc, Q, _, _, h => by unfold wpLc; simpa using h
  | x :: xs, acc, Q, hg, hl, h => by
    unfold wpLc
    refine hg x List.mem_cons_self _ ?_
    rw [List.filterMap_cons] at h
    rw [List.length_cons] at hl
    cases e : f x with
    | none =>
      rw [e] at h
      exact wpLc_map f (fun x hx => hg x (List.mem_cons_of_mem _ hx)) (by omega) h
    | some y =>
      rw [e] at h
      exact ⟨by omega, wpLc_map f (fun x hx => hg x (List.mem_cons_of_mem _ hx)) (by simp; omega) (by simpa using h)⟩
end Dl

/-! DlSimp: the walk as a rewriting: from the left, the rest of the code untouched until it is come to. -/
namespace Dl
open PySem
def opt {α : Type} (o : Option α) (F : α → Prop) : Prop := ∃ k, o = some k ∧ F k
@[simp] theorem szl_lit : szl = 16777216 := rfl
@[simp] theorem opt_some {α : Type} {k : α} {F : α → Prop} : opt (some k) F = F k := by simp [opt]
@[simp] theorem opt_none {α : Type} {F : α → Prop} : opt none F = False := by simp [opt]
theorem opt_congr {α : Type} {o o' : Option α} {F : α → Prop} (h : o = o') : opt o F = opt o' F := by rw [h]
theorem wpE_congr {e : CE} {ρ ρ' : DEnv} {Q : D → Prop} {E : Xn → Prop} (h : ρ = ρ') : wpE e ρ Q E = wpE e ρ' Q E := by rw [h]
theorem wpEs_congr {e : List CE} {ρ ρ' : DEnv} {Q : List D → Prop} {E : Xn → Prop} (h : ρ = ρ') : wpEs e ρ Q E = wpEs e ρ' Q E := by rw [h]
theorem wpT_congr {e : CE} {ρ ρ' : DEnv} {Q : Bool → Prop} {E : Xn → Prop} (h : ρ = ρ') : wpT e ρ Q E = wpT e ρ' Q E := by rw [h]
theorem wpS_congr {e : CS} {ρ ρ' : DEnv} {P : Pn} (h : ρ = ρ') : wpS e ρ P = wpS e ρ' P := by rw [h]
theorem wpB_congr {e : List CS} {ρ ρ' : DEnv} {P : Pn} (h : ρ = ρ') : wpB e ρ P = wpB e ρ' P := by rw [h]
theorem binD_congr {o : BO} {a a' b b' : D} {Q : D → Prop} (h : a = a') (h2 : b = b') : binD o a b Q = binD o a' b' Q := by rw [h, h2]
theorem cmpD_congr {o : CO} {a a' b b' : D} {Q : D → Prop} (h : a = a') (h2 : b = b') : cmpD o a b Q = cmpD o a' b' Q := by rw [h, h2]
theorem ixD_congr {a a' b b' : D} {Q : D → Prop} (h : a = a') (h2 : b = b') : ixD a b Q = ixD a' b' Q := by rw [h, h2]
theorem slD_congr {a a' : D} {l l' h h' : Option Int} {Q : D → Prop} (e : a = a') (h2 : l = l') (h3 : h = h') : slD a l h Q = slD a' l' h' Q := by rw [e, h2, h3]
theorem bltD_congr {f : BF} {a a' : List D} {Q : D → Prop} (e : a = a') : bltD f a Q = bltD f a' Q := by rw [e]
theorem rngD_congr {a a' : List D} {Q : D → Prop} (e : a = a') : rngD a Q = rngD a' Q := by rw [e]
theorem memD_congr {a a' b b' : D} {Q : Bool → Prop} (h : a = a') (h2 : b = b') : memD a b Q = memD a' b' Q := by rw [h, h2]
theorem run_congr {s : Spec} {a a' : List D} {Q : D → Prop} {E : Xn → Prop} (h : a = a') : s.run a Q E = s.run a' Q E := by rw [h]
section
variable {ρ : DEnv} {P : Pn} {Q : D → Prop} {QB : Bool → Prop} {QL : List D → Prop} {E : Xn → Prop} {a b c e e' : CE} {es : List CE} {i j : Nat} {rd : List Nat} {ls : Bool} {t : CT} {d x y : D}
/-! ### statements -/
@[simp] theorem wB_nil : wpB [] ρ P = P.nx ρ := by simp only [wpB]
@[simp] theorem wB_cons {s : CS} {ss : List CS} : wpB (s :: ss) ρ P = wpS s ρ { P with nx := fun ρ' => wpB ss ρ' P } := by simp only [wpB]
@[simp] theorem wS_asg : wpS (.asg i e rd ls) ρ P = wpE e ρ (fun d => keep rd ls e d ∧ P.nx (ρ.set i (some d))) (P.ex ρ) := by simp only [wpS]
@[simp] theorem wS_asgT : wpS (.asgT t e rd ls) ρ P = wpE e ρ (fun d => (rd = [] ∨ ls = true ∨ d.imm = true) ∧ opt (asgT t d ρ) P.nx) (P.ex ρ) := by simp only [wpS]; rfl
@[simp] theorem wS_par : wpS (.par i j a b) ρ P = wpE a ρ (fun x => wpE b ρ (fun y => P.nx ((ρ.set i (some x)).set j (some y))) (P.ex ρ)) (P.ex ρ) := by simp only [wpS]
@[simp] theorem wS_drop : wpS (.drop e) ρ P = wpE e ρ (fun _ => P.nx ρ) (P.ex ρ) := by simp only [wpS]
@[simp] theorem wS_ret {fr : Bool} : wpS (.ret e fr) ρ P = wpE e ρ (fun d => (fr = true ∨ d.cont = false) ∧ P.rt d) (P.ex ρ) := by simp only [wpS]
@[simp] theorem wS_retN : wpS .retN ρ P = P.rt .non := by simp only [wpS]
@[simp] theorem wS_ifs {x y : List CS} : wpS (.ifs c x y) ρ P = wpT c ρ (fun k => if k = true then wpB x ρ P else wpB y ρ P) (P.ex ρ) := by simp only [wpS]
@[simp] theorem wS_brk : wpS .brk ρ P = P.bk ρ := by simp only [wpS]
@[simp] theorem wS_cnt : wpS .cnt ρ P = P.ct ρ := by simp only [wpS]
@[simp] theorem wS_rse {k : Str} : wpS (.rse k) ρ P = P.ex ρ ⟨k, []⟩ := by simp only [wpS]
@[simp] theorem wS_tryx {body : List CS} {all : List Str} {k : Str} {hs : List (XT × CE)} : wpS (.tryx body all k i hs e) ρ P = wpB body ρ { P with ex := fun ρ' x => x.c ∈ all ∧ if subC x.c k = true then i < ρ'.length ∧ wpE (hdl x.c hs e) (ρ'.map fun _ => none) (fun d => d.cont = false ∧ P.rt d) (fun _ => False) else P.ex ρ' x } := by simp only [wpS]
@[simp] theorem wS_pass : wpS .pass ρ P = P.nx ρ := by simp only [wpS]
/-- x.append(e): the slot's list as it lies -/
def lstAt (ρ : DEnv) (i : Nat) : Option (List D) := match ρ[i]? with
  | some (some (.lst ds)) => some ds
  | _ => none
theorem lstAt_of {ds : List D} (h : lstAt ρ i = some ds) : ρ[i]? = some (some (.lst ds)) := by
  unfold lstAt at h
  split at h
  · rename_i e; cases h; exact e
  · cases h
@[simp] theorem wS_clr : wpS (.clr i) ρ P = opt (lstAt ρ i) (fun _ => P.nx (ρ.set i (some (.lst [])))) := by
  simp only [wpS]
  unfold opt
  apply propext
  constructor
  · rintro ⟨ds, h1, h2⟩
    exact ⟨ds, by unfold lstAt; rw [h1], h2⟩
  · rintro ⟨ds, h1, h2⟩
    exact ⟨ds, lstAt_of h1, h2⟩
@[simp] theorem wS_ext : wpS (.ext i j) ρ P = opt (lstAt ρ i) (fun ds => opt (lstAt ρ j) fun es => ds.length + es.length ≤ szl ∧ D.imms es = true ∧ P.nx (ρ.set i (some (.lst (ds ++ es))))) := by
  simp only [wpS]
  unfold opt
  apply propext
  constructor
  · rintro ⟨ds, es, h1, h2, h3⟩
    exact ⟨ds, by unfold lstAt; rw [h1], es, by unfold lstAt; rw [h2], h3⟩
  · rintro ⟨ds, h1, es, h2, h3⟩
    exact ⟨ds, es, lstAt_of h1, lstAt_of h2, h3⟩
@[simp] theorem wS_app : wpS (.app i e rd ls) ρ P = opt (lstAt ρ i) (fun ds => ds.length < szl ∧ wpE e ρ (fun d => (rd = [] ∨ ls = true ∨ d.imm = true) ∧ P.nx (ρ.set i (some (.lst (ds ++ [d]))))) (P.ex ρ)) := by
  simp only [wpS]
  unfold opt
  apply propext
  constructor
  · rintro ⟨ds, h1, h2⟩
    exact ⟨ds, by unfold lstAt; rw [h1], h2⟩
  · rintro ⟨ds, h1, h2⟩
    exact ⟨ds, lstAt_of h1, h2⟩
/-- a for loop by an invariant -/
theorem wS_for {it : CE} {body : List CS} (I : Nat → DEnv → Prop) (h : wpE it ρ (fun d => opt (items d) fun xs => I 0 ρ ∧ (∀ i x ρ, xs[i]? = some x → I i ρ → opt (asgT t x ρ) fun ρ' => wpB body ρ' { P with nx := I (i + 1), ct := I (i + 1), bk := P.nx }) ∧ ∀ ρ, I xs.length ρ → P.nx ρ) (P.ex ρ)) : wpS (.for_ t it rd body) ρ P := by
  unfold wpS
  refine wpE_mono it h (fun d ⟨xs, e, h0, hs, hd⟩ => ⟨xs, e, ?_⟩) fun _ q => q
  refine wpFor_inv (n := 0) I h0 (fun i x ρ e h => ?_) fun ρ h => hd ρ (by simpa using h)
  rw [Nat.zero_add] at h ⊢
  obtain ⟨ρ', e, q⟩ := hs i x ρ e h
  exact ⟨ρ', e, q⟩
/-- a while loop by an invariant and a measure -/
theorem wS_whl {body : List CS} (I : DEnv → Prop) (m : DEnv → Nat) (h0 : I ρ) (hs : ∀ ρ, I ρ → wpT c ρ (fun k => if k = true then wpB body ρ { P with nx := fun ρ' => I ρ' ∧ m ρ' < m ρ, ct := fun ρ' => I ρ' ∧ m ρ' < m ρ, bk := P.nx } else P.nx ρ) (P.ex ρ)) : wpS (.whl c body) ρ P := by
  unfold wpS
  exact ⟨m ρ + 1, wpWhl_inv I m hs h0 (Nat.lt_succ_self _)⟩
/-- a for loop over a few items, one by one -/
def forG (t : CT) (body : List CS) (xs : List D) (ρ : DEnv) (P : Pn) : Prop := wpFor (fun x ρ P => ∃ ρ', asgT t x ρ = some ρ' ∧ wpB body ρ' P) xs ρ P
theorem forG_congr {body : List CS} {xs xs' : List D} {ρ ρ' : DEnv} (h : xs = xs') (h2 : ρ = ρ') : forG t body xs ρ P = forG t body xs' ρ' P := by rw [h, h2]
theorem wS_for' {it : CE} {body : List CS} (h : wpE it ρ (fun d => opt (items d) fun xs => forG t body xs ρ P) (P.ex ρ)) : wpS (.for_ t it rd body) ρ P := by
  unfold wpS
  exact h
@[simp] theorem forG_nil {body : List CS} : forG t body [] ρ P = P.nx ρ := by simp only [forG, wpFor]
@[simp] theorem forG_cons {body : List CS} {xs : List D} : forG t body (x :: xs) ρ P = opt (asgT t x ρ) fun ρ' => wpB body ρ' { P with nx := fun ρ' => forG t body xs ρ' P, ct := fun ρ' => forG t body xs ρ' P, bk := P.nx } := by
  simp only [wpFor, opt, forG]
/-- one statement, what holds behind it, the rest -/
theorem wB_step {s : CS} {ss : List CS} (I : DEnv → Prop) (h : wpS s ρ { P with nx := I }) (k : ∀ ρ', I ρ' → wpB ss ρ' P) : wpB (s :: ss) ρ P := by
  rw [wB_cons]
  exact wpS_mono s h ⟨k, fun _ q => q, fun _ q => q, fun _ q => q, fun _ _ q => q⟩
/-- the first n statements, what holds behind them, the rest -/
theorem wB_cut (n : Nat) : ∀ {ss : List CS} {ρ : DEnv} {P : Pn} (I : DEnv → Prop), wpB (ss.take n) ρ { P with nx := I } → (∀ ρ', I ρ' → wpB (ss.drop n) ρ' P) → wpB ss ρ P := by
  induction n with
  | zero => intro ss ρ P I h k; rw [List.take_zero, wB_nil] at h; exact k ρ h
  | succ n ih =>
    intro ss ρ P I h k
    cases ss with
    | nil => rw [List.take_nil, wB_nil] at h; exact k ρ h
    | cons s ss =>
      rw [List.take_succ_cons, wB_cons] at h
      rw [wB_cons]
      exact wpS_mono s h ⟨fun ρ' q => ih I q fun ρ2 q2 => k ρ2 q2, fun _ q => q, fun _ q => q, fun _ q => q, fun _ _ q => q⟩
/-! ### tests -/
@[simp] theorem truD_bl {b : Bool} : truD (.bl b) = some b := rfl
@[simp] theorem truD_int {i : Int} : truD (.int i) = some (i != 0) := rfl
@[simp] theorem truD_non : truD .non = some false := rfl
@[simp] theorem truD_lst {ds : List D} : truD (.lst ds) = some (!ds.isEmpty) := rfl
@[simp] theorem truD_tup {ds : List D} : truD (.tup ds) = some (!ds.isEmpty) := rfl
theorem wT_E : wpT e ρ QB E = wpE e ρ (fun d => opt (truD d) QB) E := rfl
@[simp] theorem wT_var : wpT (.var i) ρ QB E = wpE (.var i) ρ (fun d => opt (truD d) QB) E := rfl
@[simp] theorem wT_bl {k : Bool} : wpT (.bl k) ρ QB E = QB k := by simp [wT_E, wpE]
@[simp] theorem wT_cmp {o : CO} : wpT (.cmp o a b) ρ QB E = wpE (.cmp o a b) ρ (fun d => opt (truD d) QB) E := rfl
@[simp] theorem wT_chain {o o' : CO} : wpT (.chain o o' a b c) ρ QB E = wpE (.chain o o' a b c) ρ (fun d => opt (truD d) QB) E := rfl
@[simp] theorem wT_isN {k : Bool} : wpT (.isN k a) ρ QB E = wpE (.isN k a) ρ (fun d => opt (truD d) QB) E := rfl
@[simp] theorem wT_mem {k : Bool} : wpT (.mem k a b) ρ QB E = wpE (.mem k a b) ρ (fun d => opt (truD d) QB) E := rfl
@[simp] theorem wT_ix : wpT (.ix a b) ρ QB E = wpE (.ix a b) ρ (fun d => opt (truD d) QB) E := rfl
@[simp] theorem wT_bin {o : BO} : wpT (.bin o a b) ρ QB E = wpE (.bin o a b) ρ (fun d => opt (truD d) QB) E := rfl
@[simp] theorem wT_call {f : Str} {sp : Spec} : wpT (.call f sp es) ρ QB E = wpE (.call f sp es) ρ (fun d => opt (truD d) QB) E := rfl
@[simp] theorem wT_blt {f : BF} : wpT (.blt f es) ρ QB E = wpE (.blt f es) ρ (fun d => opt (truD d) QB) E := rfl
@[simp] theorem wT_isi {k : TY} : wpT (.isi a k) ρ QB E = wpE (.isi a k) ρ (fun d => opt (truD d) QB) E := rfl
@[simp] theorem wT_lc {ifs : List CE} : wpT (.lc t a ifs b) ρ QB E = wpE (.lc t a ifs b) ρ (fun d => opt (truD d) QB) E := rfl
@[simp] theorem wT_ife : wpT (.ife c a b) ρ QB E = wpE (.ife c a b) ρ (fun d => opt (truD d) QB) E := rfl
@[simp] theorem wT_not : wpT (.not a) ρ QB E = wpT a ρ (fun k => QB (!k)) E := by
  simp only [wT_E, wpE]
  congr
  funext d
  apply propext
  constructor
  · rintro ⟨k, h1, k2, h2, h3⟩
    cases h2
    exact ⟨k, h1, h3⟩
  · rintro ⟨k, h1, h2⟩
    exact ⟨k, h1, _, rfl, h2⟩
@[simp] theorem wT_and1 : wpT (.and [e]) ρ QB E = wpT e ρ QB E := by
  simp only [wT_E, wpE, wpAnd]
@[simp] theorem wT_or1 : wpT (.or [e]) ρ QB E = wpT e ρ QB E := by
  simp only [wT_E, wpE, wpOr]
@[simp] theorem wT_and : wpT (.and (e :: e' :: es)) ρ QB E = wpT e ρ (fun k => if k = true then wpT (.and (e' :: es)) ρ QB E else QB false) E := by
  simp only [wT_E, wpE]
  rw [wpAnd]
  congr
  funext d
  apply propext
  constructor
  · rintro ⟨k, h1, h2⟩
    refine ⟨k, h1, ?_⟩
    split at h2
    · rename_i hk; rw [if_pos hk]; exact h2
    · rename_i hk
      rw [if_neg hk]
      obtain ⟨k2, h3, h4⟩ := h2
      rw [h1] at h3
      cases h3
      have : k = false := by simpa using hk
      rwa [this] at h4
  · rintro ⟨k, h1, h2⟩
    refine ⟨k, h1, ?_⟩
    split at h2
    · rename_i hk; rw [if_pos hk]; exact h2
    · rename_i hk
      rw [if_neg hk]
      have : k = false := by simpa using hk
      exact ⟨k, h1, by rw [this]; exact h2⟩
@[simp] theorem wT_or : wpT (.or (e :: e' :: es)) ρ QB E = wpT e ρ (fun k => if k = true then QB true else wpT (.or (e' :: es)) ρ QB E) E := by
  simp only [wT_E, wpE]
  rw [wpOr]
  congr
  funext d
  apply propext
  constructor
  · rintro ⟨k, h1, h2⟩
    refine ⟨k, h1, ?_⟩
    split at h2
    · rename_i hk
      rw [if_pos hk]
      obtain ⟨k2, h3, h4⟩ := h2
      rw [h1] at h3
      cases h3
      rwa [hk] at h4
    · rename_i hk; rw [if_neg hk]; exact h2
  · rintro ⟨k, h1, h2⟩
    refine ⟨k, h1, ?_⟩
    split at h2
    · rename_i hk
      rw [if_pos hk]
      exact ⟨k, h1, by rw [hk]; exact h2⟩
    · rename_i hk; rw [if_neg hk]; exact h2
/-! ### expressions -/
/-- the data at a slot -/
def slot (ρ : DEnv) (i : Nat) : Option D := (ρ[i]?).bind id
@[simp] theorem slot_zero {r : DEnv} : slot (some d :: r) 0 = some d := rfl
@[simp] theorem slot_succ {r : DEnv} {o : Option D} : slot (o :: r) (i + 1) = slot r i := by simp [slot]
@[simp] theorem lstAt_zero {ds : List D} {r : DEnv} : lstAt (some (.lst ds) :: r) 0 = some ds := rfl
@[simp] theorem lstAt_succ {r : DEnv} {o : Option D} : lstAt (o :: r) (i + 1) = lstAt r i := by simp [lstAt]
@[simp] theorem wE_var : wpE (.var i) ρ Q E = opt (slot ρ i) Q := by
  simp only [wpE, slot, opt]
  apply propext
  constructor
  · rintro ⟨d, h1, h2⟩; exact ⟨d, by rw [h1]; rfl, h2⟩
  · rintro ⟨d, h1, h2⟩
    refine ⟨d, ?_, h2⟩
    cases e : ρ[i]? with
    | none => rw [e] at h1; cases h1
    | some o => rw [e] at h1; cases o with
      | none => cases h1
      | some d' => cases h1; rfl
@[simp] theorem wE_int {k : Int} : wpE (.int k) ρ Q E = Q (.int k) := by simp only [wpE]
@[simp] theorem wE_bl {k : Bool} : wpE (.bl k) ρ Q E = Q (.bl k) := by simp only [wpE]
@[simp] theorem wE_non : wpE .non ρ Q E = Q .non := by simp only [wpE]
@[simp] theorem wE_nop : wpE .nop ρ Q E = Q .non := by simp only [wpE]
@[simp] theorem wE_str {k : Str} : wpE (.str k) ρ Q E = Q (.str k) := by simp only [wpE]
@[simp] theorem wE_glob {k : Str} : wpE (.glob k d) ρ Q E = Q d := by simp only [wpE]
@[simp] theorem wE_cat : wpE (.cat a b) ρ Q E = wpE a ρ (fun x => wpE b ρ (fun y => catD x y Q) E) E := by simp only [wpE]
@[simp] theorem cat_lst {xs ys : List D} : catD (.lst xs) (.lst ys) Q = (xs.length + ys.length ≤ szl ∧ Q (.lst (xs ++ ys))) := rfl
@[simp] theorem wE_bin {o : BO} : wpE (.bin o a b) ρ Q E = wpE a ρ (fun x => wpE b ρ (fun y => binD o x y Q) E) E := by simp only [wpE]
def negD : D → Option D
  | .int i => some (.int (-i))
  | _ => none
@[simp] theorem negD_int {i : Int} : negD (.int i) = some (.int (-i)) := rfl
@[simp] theorem wE_neg : wpE (.neg a) ρ Q E = wpE a ρ (fun x => opt (negD x) Q) E := by
  simp only [wpE]
  congr
  funext x
  apply propext
  constructor
  · rintro ⟨i, rfl, h⟩; exact ⟨_, rfl, h⟩
  · rintro ⟨d, h1, h2⟩
    cases x <;> cases h1
    exact ⟨_, rfl, h2⟩
@[simp] theorem wE_not : wpE (.not a) ρ Q E = wpT a ρ (fun k => Q (.bl (!k))) E := by simp only [wpE, wT_E, opt]
@[simp] theorem wE_cmp {o : CO} : wpE (.cmp o a b) ρ Q E = wpE a ρ (fun x => wpE b ρ (fun y => cmpD o x y Q) E) E := by simp only [wpE]
@[simp] theorem wE_chain {o o' : CO} : wpE (.chain o o' a b c) ρ Q E = wpE a ρ (fun x => wpE b ρ (fun y => cmpD o x y fun r => opt (truD r) fun k => if k = true then wpE c ρ (fun z => cmpD o' y z Q) E else Q (.bl false)) E) E := by
  simp only [wpE]
  congr
  funext x
  congr
  funext y
  have : ∀ (F : Bool → Prop), (cmpD o x y fun r => ∃ k, r = .bl k ∧ F k) = cmpD o x y fun r => opt (truD r) F := by
    intro F
    unfold cmpD
    split
    · simp [opt]
    · simp [opt]
    all_goals
      split
      · simp [opt]
      · rfl
  rw [← this]
@[simp] theorem wE_isN {k : Bool} : wpE (.isN k a) ρ Q E = wpE a ρ (fun x => Q (.bl (k != x.isNon))) E := by simp only [wpE]
@[simp] theorem wE_mem {k : Bool} : wpE (.mem k a b) ρ Q E = wpE a ρ (fun x => wpE b ρ (fun y => memD x y fun r => Q (.bl (k != r))) E) E := by simp only [wpE]
@[simp] theorem wE_and1 : wpE (.and [e]) ρ Q E = wpE e ρ Q E := by simp only [wpE, wpAnd]
@[simp] theorem wE_and : wpE (.and (e :: e' :: es)) ρ Q E = wpE e ρ (fun d => opt (truD d) fun k => if k = true then wpE (.and (e' :: es)) ρ Q E else Q d) E := by
  simp only [wpE]
  rw [wpAnd]
  rfl
@[simp] theorem wE_or1 : wpE (.or [e]) ρ Q E = wpE e ρ Q E := by simp only [wpE, wpOr]
@[simp] theorem wE_or : wpE (.or (e :: e' :: es)) ρ Q E = wpE e ρ (fun d => opt (truD d) fun k => if k = true then Q d else wpE (.or (e' :: es)) ρ Q E) E := by
  simp only [wpE]
  rw [wpOr]
  rfl
@[simp] theorem wE_ife : wpE (.ife c a b) ρ Q E = wpT c ρ (fun k => if k = true then wpE a ρ Q E else wpE b ρ Q E) E := by simp only [wpE, wT_E, opt]
@[simp] theorem wE_tup : wpE (.tup es) ρ Q E = wpEs es ρ (fun ds => ds.length ≤ szl ∧ Q (.tup ds)) E := by simp only [wpE]
@[simp] theorem wE_lst : wpE (.lst es) ρ Q E = wpEs es ρ (fun ds => ds.length ≤ szl ∧ Q (.lst ds)) E := by simp only [wpE]
@[simp] theorem wE_ix : wpE (.ix a b) ρ Q E = wpE a ρ (fun x => wpE b ρ (fun y => ixD x y Q) E) E := by simp only [wpE]
@[simp] theorem wE_sl : wpE (.sl a b c) ρ Q E = wpE a ρ (fun x => wpE b ρ (fun y => opt (partD b.isNop y) fun l => wpE c ρ (fun z => opt (partD c.isNop z) fun h => slD x l h Q) E) E) E := by simp only [wpE]; rfl
@[simp] theorem wE_call {f : Str} {sp : Spec} : wpE (.call f sp es) ρ Q E = wpEs es ρ (fun ds => sp.run ds Q E) E := by simp only [wpE]
@[simp] theorem wE_blt {f : BF} : wpE (.blt f es) ρ Q E = wpEs es ρ (fun ds => bltD f ds Q) E := by simp only [wpE]
@[simp] theorem wE_isi {k : TY} : wpE (.isi a k) ρ Q E = wpE a ρ (fun x => Q (.bl (isiD k x))) E := by simp only [wpE]
@[simp] theorem wE_rng : wpE (.rng es) ρ Q E = wpEs es ρ (fun ds => rngD ds Q) E := by simp only [wpE]
@[simp] theorem wEs_nil : wpEs [] ρ QL E = QL [] := by simp only [wpEs]
@[simp] theorem wEs_cons : wpEs (e :: es) ρ QL E = wpE e ρ (fun d => wpEs es ρ (fun ds => QL (d :: ds)) E) E := by simp only [wpEs]
/-! ### operations -/
section
variable {m n : Int} {xs ys : List D}
@[simp] theorem b_add : binD .add (.int m) (.int n) Q = Q (.int (m + n)) := rfl
@[simp] theorem b_addT : binD .add (.tup xs) (.tup ys) Q = (xs.length + ys.length ≤ szl ∧ Q (.tup (xs ++ ys))) := rfl
@[simp] theorem b_addL : binD .add (.lst xs) (.lst ys) Q = (xs.length + ys.length ≤ szl ∧ Q (.lst (xs ++ ys))) := rfl
@[simp] theorem b_sub : binD .sub (.int m) (.int n) Q = Q (.int (m - n)) := rfl
@[simp] theorem b_mul : binD .mul (.int m) (.int n) Q = (MulOk m n ∧ Q (.int (m * n))) := rfl
@[simp] theorem b_fdiv : binD .fdiv (.int m) (.int n) Q = (DivOk n ∧ Q (.int (m.fdiv n))) := rfl
@[simp] theorem b_mod : binD .mod (.int m) (.int n) Q = (n ≠ 0 ∧ Q (.int (m.fmod n))) := rfl
@[simp] theorem b_pow : binD .pow (.int m) (.int n) Q = (PowOk m n ∧ Q (.int (m ^ n.toNat))) := rfl
@[simp] theorem c_lt : cmpD .lt (.int m) (.int n) Q = Q (.bl (decide (m < n))) := rfl
@[simp] theorem c_le : cmpD .le (.int m) (.int n) Q = Q (.bl (decide (m ≤ n))) := rfl
@[simp] theorem c_gt : cmpD .gt (.int m) (.int n) Q = Q (.bl (decide (n < m))) := rfl
@[simp] theorem c_ge : cmpD .ge (.int m) (.int n) Q = Q (.bl (decide (n ≤ m))) := rfl
theorem c_eqD : cmpD .eq x y Q = (x.plain 64 = true ∧ y.plain 64 = true ∧ Q (.bl (eqb x y))) := rfl
theorem c_neD : cmpD .ne x y Q = (x.plain 64 = true ∧ y.plain 64 = true ∧ Q (.bl (!eqb x y))) := rfl
@[simp] theorem eqb_int : eqb (.int m) (.int n) = decide (m = n) := by
  unfold eqb
  simp only [D.toP, PyData.eqv]
  rw [Bool.eq_iff_iff]
  simp
@[simp] theorem c_eqI : cmpD .eq (.int m) (.int n) Q = Q (.bl (decide (m = n))) := by
  rw [c_eqD, eqb_int]
  simp [D.plain]
@[simp] theorem c_neI : cmpD .ne (.int m) (.int n) Q = Q (.bl (!decide (m = n))) := by
  rw [c_neD, eqb_int]
  simp [D.plain]
@[simp] theorem c_eqB {p q : Bool} : cmpD .eq (.bl p) (.bl q) Q = Q (.bl (p == q)) := by
  rw [c_eqD]
  simp [D.plain, eqb, D.toP, PyData.eqv]
@[simp] theorem c_neB {p q : Bool} : cmpD .ne (.bl p) (.bl q) Q = Q (.bl (p != q)) := by
  rw [c_neD]
  simp [D.plain, eqb, D.toP, PyData.eqv]
  rfl
theorem at_lit {α : Type} {l : List α} {k : Nat} {z : α} (h : l[k]? = some z) : atD l (k : Int) = some z := by
  unfold atD
  have hk : k < l.length := (List.getElem?_eq_some_iff.mp h).1
  rw [if_pos (by omega), if_pos (by omega)]
  simpa using h
@[simp] theorem ix_T : ixD (.tup xs) (.int m) Q = opt (atD xs m) Q := rfl
@[simp] theorem ix_L : ixD (.lst xs) (.int m) Q = opt (atD xs m) Q := rfl
@[simp] theorem at_0 {α : Type} {l : List α} {z : α} : atD (z :: l) 0 = some z := by
  unfold atD
  rw [if_pos (by omega), if_pos (by simp)]
  rfl
theorem at_S {α : Type} {l : List α} {z : α} {k : Nat} : atD (z :: l) ((k + 1 : Nat) : Int) = atD l (k : Int) := by
  unfold atD
  rw [List.length_cons, if_pos (show (0 : Int) ≤ ((k + 1 : Nat) : Int) by omega), if_pos (show (0 : Int) ≤ (k : Int) by omega)]
  by_cases h : k < l.length
  · rw [if_pos (by omega), if_pos (by omega)]
    rfl
  · rw [if_neg (by omega), if_neg (by omega)]
    rfl
@[simp] theorem at_1 {α : Type} {l : List α} {z : α} : atD (z :: l) 1 = atD l 0 := at_S (k := 0)
@[simp] theorem at_2 {α : Type} {l : List α} {z : α} : atD (z :: l) 2 = atD l 1 := at_S (k := 1)
@[simp] theorem at_3 {α : Type} {l : List α} {z : α} : atD (z :: l) 3 = atD l 2 := at_S (k := 2)
@[simp] theorem at_4 {α : Type} {l : List α} {z : α} : atD (z :: l) 4 = atD l 3 := at_S (k := 3)
@[simp] theorem at_5 {α : Type} {l : List α} {z : α} : atD (z :: l) 5 = atD l 4 := at_S (k := 4)
@[simp] theorem at_6 {α : Type} {l : List α} {z : α} : atD (z :: l) 6 = atD l 5 := at_S (k := 5)
@[simp] theorem at_7 {α : Type} {l : List α} {z : α} : atD (z :: l) 7 = atD l 6 := at_S (k := 6)
@[simp] theorem at_8 {α : Type} {l : List α} {z : α} : atD (z :: l) 8 = atD l 7 := at_S (k := 7)
@[simp] theorem at_9 {α : Type} {l : List α} {z : α} : atD (z :: l) 9 = atD l 8 := at_S (k := 8)
@[simp] theorem at_10 {α : Type} {l : List α} {z : α} : atD (z :: l) 10 = atD l 9 := at_S (k := 9)
@[simp] theorem at_11 {α : Type} {l : List α} {z : α} : atD (z :: l) 11 = atD l 10 := at_S (k := 10)
@[simp] theorem at_12 {α : Type} {l : List α} {z : α} : atD (z :: l) 12 = atD l 11 := at_S (k := 11)
@[simp] theorem at_13 {α : Type} {l : List α} {z : α} : atD (z :: l) 13 = atD l 12 := at_S (k := 12)
@[simp] theorem at_14 {α : Type} {l : List α} {z : α} : atD (z :: l) 14 = atD l 13 := at_S (k := 13)
@[simp] theorem at_15 {α : Type} {l : List α} {z : α} : atD (z :: l) 15 = atD l 14 := at_S (k := 14)
@[simp] theorem f_lenT : bltD .len [.tup xs] Q = Q (.int xs.length) := rfl
@[simp] theorem f_lenL : bltD .len [.lst xs] Q = Q (.int xs.length) := rfl
@[simp] theorem f_abs : bltD .abs [.int m] Q = Q (.int (absI m)) := rfl
@[simp] theorem f_int : bltD .int_ [.int m] Q = Q (.int m) := rfl
@[simp] theorem f_listT : bltD .list_ [.tup xs] Q = Q (.lst xs) := rfl
@[simp] theorem f_listL : bltD .list_ [.lst xs] Q = Q (.lst xs) := rfl
@[simp] theorem f_tupT : bltD .tuple_ [.tup xs] Q = Q (.tup xs) := rfl
@[simp] theorem f_tupL : bltD .tuple_ [.lst xs] Q = Q (.tup xs) := rfl
@[simp] theorem f_sorted : bltD .sorted_ [.lst xs] Q = (((∃ ns, intsD xs = some ns) ∨ TupsOk 60 xs) ∧ Q (.lst (sortD xs))) := rfl
@[simp] theorem f_max : bltD .max2 [.int m, .int n] Q = Q (.int (if n > m then n else m)) := rfl
@[simp] theorem f_min : bltD .min2 [.int m, .int n] Q = Q (.int (if n < m then n else m)) := rfl
@[simp] theorem r_1 : rngD [.int m] Q = (-(2 ^ 62) ≤ m ∧ m < 2 ^ 62 ∧ Q (.lst (rangeD 0 m.toNat))) := rfl
@[simp] theorem r_2 : rngD [.int m, .int n] Q = (-(2 ^ 62) ≤ m ∧ m < 2 ^ 62 ∧ -(2 ^ 62) ≤ n ∧ n < 2 ^ 62 ∧ Q (.lst (rangeD m (n - m).toNat))) := rfl
theorem rng_len (lo : Int) (n : Nat) : (rangeD lo n).length = n := by simp [rangeD]
theorem rng_get {lo : Int} {n i : Nat} {d : D} (h : (rangeD lo n)[i]? = some d) : i < n ∧ d = .int (lo + (i : Int)) := by
  unfold rangeD at h
  rw [List.getElem?_map] at h
  by_cases hi : i < n
  · rw [List.getElem?_range hi] at h
    cases h
    exact ⟨hi, rfl⟩
  · rw [List.getElem?_eq_none (by simpa using hi)] at h
    cases h
@[simp] theorem items_T : items (.tup xs) = some xs := rfl
@[simp] theorem items_L : items (.lst xs) = some xs := rfl
@[simp] theorem asgT_nm : asgT (.nm i) d ρ = some (ρ.set i (some d)) := by simp only [asgT]
@[simp] theorem asgT_tp {ts : List CT} {xs : List D} : asgT (.tp ts) (.tup xs) ρ = asgTs ts xs ρ := by simp only [asgT]
@[simp] theorem asgTs_nil : asgTs [] [] ρ = some ρ := by simp only [asgTs]
@[simp] theorem asgTs_cons {ts : List CT} {xs : List D} : asgTs (t :: ts) (d :: xs) ρ = (asgT t d ρ).bind (asgTs ts xs) := by simp only [asgTs]
@[simp] theorem partD_t : partD true d = some none := rfl
@[simp] theorem partD_f {m : Int} : partD false (.int m) = some (some m) := rfl
@[simp] theorem nop_nop : CE.isNop .nop = true := rfl
@[simp] theorem nop_int {m : Int} : CE.isNop (.int m) = false := rfl
@[simp] theorem nop_var : CE.isNop (.var i) = false := rfl
@[simp] theorem sl_T {l h : Option Int} {xs : List D} : slD (.tup xs) l h Q = Q (.tup (cutD xs l h)) := rfl
@[simp] theorem sl_L {l h : Option Int} {xs : List D} : slD (.lst xs) l h Q = Q (.lst (cutD xs l h)) := rfl
/-- the k-th number -/
def nth (xs : List Int) (k : Nat) : Int := (xs[k]?).getD 0
theorem ix_nums {xs : List Int} {k : Int} (h0 : 0 ≤ k) (h : k < xs.length) : ixD (.lst (xs.map .int)) (.int k) Q = Q (.int (nth xs k.toNat)) := by
  obtain ⟨m, rfl⟩ := Int.eq_ofNat_of_zero_le h0
  have hm : m < xs.length := by omega
  rw [ix_L, at_lit (z := .int xs[m]) (by rw [List.getElem?_map, List.getElem?_eq_getElem hm]; rfl), opt_some]
  have e : nth xs (Int.toNat (m : Int)) = xs[m] := by
    unfold nth
    simp [hm]
  rw [e]
theorem ixN {xs : List Int} {n : Nat} (hn : n ≤ xs.length) {k : Int} (h0 : 0 ≤ k) (h : k < (n : Int)) : ixD (.lst (xs.map .int)) (.int k) Q = Q (.int (nth xs k.toNat)) := ix_nums h0 (by omega)
theorem cut_nums {xs : List Int} {k : Int} (h0 : 0 ≤ k) : slD (.lst (xs.map .int)) (some k) none Q = Q (.lst ((xs.drop k.toNat).map .int)) := by
  obtain ⟨m, rfl⟩ := Int.eq_ofNat_of_zero_le h0
  rw [sl_L]
  congr 2
  unfold cutD sIxD
  simp only [List.length_map]
  rw [if_neg (by omega)]
  have e1 : (min (m : Int) (xs.length : Int)).toNat = min m xs.length := by omega
  rw [e1, ← List.map_drop, ← List.map_take]
  congr 1
  simp only [Int.toNat_natCast]
  rw [List.take_of_length_le (by simp)]
  by_cases hm : m ≤ xs.length
  · rw [Nat.min_eq_left hm]
  · rw [Nat.min_eq_right (by omega), List.drop_eq_nil_of_le (by omega), List.drop_eq_nil_of_le (by omega)]
theorem nth_drop {xs : List Int} {a k : Nat} : nth (xs.drop a) k = nth xs (a + k) := by unfold nth; rw [List.getElem?_drop]
/-- x in [ints] -/
theorem mem_ints {m : Int} {xs : List Int} {QB : Bool → Prop} : memD (.int m) (.lst (xs.map .int)) QB = QB (xs.any fun z => decide (z = m)) := by
  have hp : D.plain 64 (.lst (xs.map .int)) = true := by
    unfold D.plain
    induction xs with
    | nil => rfl
    | cons x xs ih => simp only [List.map_cons, D.plains, D.plain, ih]; rfl
  have ha : ((xs.map D.int).any fun z => eqb z (.int m)) = xs.any fun z => decide (z = m) := by
    induction xs with
    | nil => rfl
    | cons x xs ih =>
      have hp' : D.plain 64 (.lst (xs.map .int)) = true := by
        unfold D.plain at hp ⊢
        simp only [List.map_cons, D.plains] at hp
        exact (Bool.and_eq_true_iff.mp hp).2
      simp only [List.map_cons, List.any_cons, eqb_int, ih hp']
  show (D.plain 64 (.int m) = true ∧ D.plain 64 (.lst (xs.map .int)) = true ∧ QB ((xs.map D.int).any fun z => eqb z (.int m))) = _
  rw [hp, ha]
  simp [D.plain]
@[simp] theorem mem_2 {m a b : Int} {QB : Bool → Prop} : memD (.int m) (.lst [.int a, .int b]) QB = QB (decide (a = m) || decide (b = m)) := by
  have := mem_ints (m := m) (xs := [a, b]) (QB := QB)
  simpa using this
@[simp] theorem mem_3 {m a b c : Int} {QB : Bool → Prop} : memD (.int m) (.lst [.int a, .int b, .int c]) QB = QB (decide (a = m) || (decide (b = m) || decide (c = m))) := by
  have := mem_ints (m := m) (xs := [a, b, c]) (QB := QB)
  simpa using this
@[simp] theorem isNon_int : D.isNon (.int m) = false := rfl
@[simp] theorem isNon_tup : D.isNon (.tup xs) = false := rfl
@[simp] theorem isNon_lst : D.isNon (.lst xs) = false := rfl
@[simp] theorem isNon_non : D.isNon .non = true := rfl
@[simp] theorem isNon_bl {b : Bool} : D.isNon (.bl b) = false := rfl
@[simp] theorem cont_int : D.cont (.int m) = false := rfl
@[simp] theorem cont_bl {b : Bool} : D.cont (.bl b) = false := rfl
@[simp] theorem cont_tup : D.cont (.tup xs) = false := rfl
@[simp] theorem cont_non : D.cont .non = false := rfl
@[simp] theorem cont_str {x : Str} : D.cont (.str x) = false := rfl
@[simp] theorem imm_int : D.imm (.int m) = true := by simp only [D.imm]
@[simp] theorem imm_bl {b : Bool} : D.imm (.bl b) = true := by simp only [D.imm]
@[simp] theorem imm_str {x : Str} : D.imm (.str x) = true := by simp only [D.imm]
@[simp] theorem imm_tup : D.imm (.tup xs) = D.imms xs := by simp only [D.imm]
@[simp] theorem imms_nil : D.imms [] = true := by simp only [D.imms]
@[simp] theorem imms_cons : D.imms (d :: xs) = (d.imm && D.imms xs) := by simp only [D.imms]
@[simp] theorem keep_nil : keep [] ls e d = True := by simp [keep]
@[simp] theorem keep_ls : keep rd true e d = True := by simp [keep]
end
@[simp] theorem isNon_str {x : Str} : D.isNon (.str x) = false := rfl
@[simp] theorem isi_tupstr {x : Str} : isiD .tup (.str x) = false := rfl
@[simp] theorem isi_lststr {x : Str} : isiD .lst (.str x) = false := rfl
@[simp] theorem isi_intstr {x : Str} : isiD .int (.str x) = false := rfl
@[simp] theorem isi_blstr {x : Str} : isiD .bl (.str x) = false := rfl
@[simp] theorem isi_tupnon : isiD .tup .non = false := rfl
@[simp] theorem isi_lstnon : isiD .lst .non = false := rfl
@[simp] theorem isi_intnon : isiD .int .non = false := rfl
@[simp] theorem isi_blnon : isiD .bl .non = false := rfl
@[simp] theorem isi_strnon : isiD .str .non = false := rfl
@[simp] theorem isi_tt {xs : List D} : isiD .tup (.tup xs) = true := rfl
@[simp] theorem isi_tl {xs : List D} : isiD .tup (.lst xs) = false := rfl
@[simp] theorem isi_ti {m : Int} : isiD .tup (.int m) = false := rfl
@[simp] theorem isi_tb {m : Bool} : isiD .tup (.bl m) = false := rfl
@[simp] theorem isi_ll {xs : List D} : isiD .lst (.lst xs) = true := rfl
@[simp] theorem isi_lt {xs : List D} : isiD .lst (.tup xs) = false := rfl
@[simp] theorem isi_li {m : Int} : isiD .lst (.int m) = false := rfl
@[simp] theorem isi_lb {m : Bool} : isiD .lst (.bl m) = false := rfl
@[simp] theorem isi_ii {m : Int} : isiD .int (.int m) = true := rfl
@[simp] theorem isi_ib {m : Bool} : isiD .int (.bl m) = true := rfl
@[simp] theorem isi_it {xs : List D} : isiD .int (.tup xs) = false := rfl
@[simp] theorem isi_il {xs : List D} : isiD .int (.lst xs) = false := rfl
@[simp] theorem isi_bi {m : Int} : isiD .bl (.int m) = false := rfl
@[simp] theorem isi_bb {m : Bool} : isiD .bl (.bl m) = true := rfl
@[simp] theorem isi_bt {xs : List D} : isiD .bl (.tup xs) = false := rfl
@[simp] theorem isi_bls {xs : List D} : isiD .bl (.lst xs) = false := rfl
@[simp] theorem isi_si {m : Int} : isiD .str (.int m) = false := rfl
@[simp] theorem isi_sb {m : Bool} : isiD .str (.bl m) = false := rfl
@[simp] theorem isi_st {xs : List D} : isiD .str (.tup xs) = false := rfl
@[simp] theorem isi_sl {xs : List D} : isiD .str (.lst xs) = false := rfl
@[simp] theorem isi_ss {x : Str} : isiD .str (.str x) = true := rfl
/-! ### comprehensions -/
theorem wpLc_all {g : D → (Option D → Prop) → Prop} (hm : ∀ x K K', g x K → (∀ r, K r → K' r) → g x K') (R : D → Prop) : ∀ {xs acc : List D} {Q : List D → Prop}, (∀ x ∈ xs, g x fun r => ∃ y, r = some y ∧ R y) → (∀ y ∈ acc, R y) → acc.length + xs.length ≤ szl →
    (∀ ys, (∀ y ∈ ys, R y) → ys.length = acc.length + xs.length → Q ys) → wpLc g xs acc Q
  | [], acc, Q, _, ha, _, hq => by unfold wpLc; exact hq acc ha (by simp)
  | x :: xs, acc, Q, hg, ha, hl, hq => by
    unfold wpLc
    rw [List.length_cons] at hl
    refine hm _ _ _ (hg x List.mem_cons_self) ?_
    rintro r ⟨y, rfl, hy⟩
    refine ⟨by omega, wpLc_all hm R (fun x hx => hg x (List.mem_cons_of_mem _ hx)) (fun z hz => ?_) (by rw [List.length_append, List.length_singleton]; omega) fun ys h1 h2 => hq ys h1 (by simp at h2; simp; omega)⟩
    rcases List.mem_append.mp hz with h | h
    · exact ha z h
    · rw [List.mem_singleton.mp h]; exact hy
/-- [elt for t in it] -/
theorem wE_lc {it elt : CE} (R : D → Prop) (h : wpE it ρ (fun d => opt (items d) fun xs => xs.length ≤ szl ∧ (∀ x ∈ xs, opt (asgT t x ρ) fun ρ' => wpE elt ρ' R fun _ => False) ∧ ∀ ys, (∀ y ∈ ys, R y) → ys.length = xs.length → Q (.lst ys)) E) : wpE (.lc t it [] elt) ρ Q E := by
  unfold wpE
  refine wpE_mono it h (fun d ⟨xs, e, hl, hx, hq⟩ => ⟨xs, e, ?_⟩) fun _ q => q
  have hm : ∀ (x : D) (K K' : Option D → Prop), (∃ ρ', asgT t x ρ = some ρ' ∧ wpIfs [] ρ' fun b => if b = true then wpE elt ρ' (fun y => K (some y)) (fun _ => False) else K none) → (∀ r, K r → K' r) →
      ∃ ρ', asgT t x ρ = some ρ' ∧ wpIfs [] ρ' fun b => if b = true then wpE elt ρ' (fun y => K' (some y)) (fun _ => False) else K' none := by
    rintro x K K' ⟨ρ', e1, q⟩ m
    refine ⟨ρ', e1, wpIfs_mono [] q fun b q => ?_⟩
    split
    · rename_i hb; rw [if_pos hb] at q; exact wpE_mono elt q (fun y q => m _ q) fun _ q => q
    · rename_i hb; rw [if_neg hb] at q; exact m _ q
  refine wpLc_all hm R (fun x hx' => ?_) (by simp) (by simpa using hl) fun ys h1 h2 => hq ys h1 (by simpa using h2)
  obtain ⟨ρ', e1, q⟩ := hx x hx'
  refine ⟨ρ', e1, ?_⟩
  unfold wpIfs
  show (if true = true then _ else _)
  rw [if_pos rfl]
  exact wpE_mono elt q (fun y q => ⟨y, rfl, q⟩) fun _ q => q
/-! ### the same, not the same -/
theorem mem_t2 {m a b : Int} {QB : Bool → Prop} : memD (.int m) (.tup [.int a, .int b]) QB = QB (decide (a = m) || decide (b = m)) := by
  show (flatD (.int m) = true ∧ [D.int a, D.int b].all flatD = true ∧ QB ([D.int a, D.int b].any fun z => eqb z (.int m))) = _
  simp [flatD]
end
end Dl

/-! the core terms of the defs (printed by gen.py) -/
namespace Dl
def n_common_divisor : List PySem.Str := ["a", "b"]
def c_common_divisor : List CS := [.asg 0 (.blt .abs [(.var 0)]) [] false,
  .asg 1 (.blt .abs [(.var 1)]) [] false,
  .whl (.cmp .gt (.var 1) (.int 0)) [.par 0 1 (.var 1) (.bin .mod (.var 0) (.var 1))],
  .ret (.var 0) false]
def n_fraction : List PySem.Str := ["n", "d", "g"]
def c_fraction (s_common_divisor : Spec) : List CS := [.asg 2 (.call "common_divisor" s_common_divisor [(.var 0), (.var 1)]) [] false,
  .ifs (.cmp .lt (.var 1) (.int 0)) [.asg 2 (.neg (.var 2)) [2] true] [],
  .ret (.tup [(.bin .fdiv (.var 0) (.var 2)), (.bin .fdiv (.var 1) (.var 2))]) true]
def n_plus : List PySem.Str := ["f", "g"]
def c_plus (s_fraction : Spec) : List CS := [.ret (.call "fraction" s_fraction [(.bin .add (.bin .mul (.ix (.var 0) (.int 0)) (.ix (.var 1) (.int 1))) (.bin .mul (.ix (.var 1) (.int 0)) (.ix (.var 0) (.int 1)))), (.bin .mul (.ix (.var 0) (.int 1)) (.ix (.var 1) (.int 1)))]) true]
def n_minus : List PySem.Str := ["f", "g"]
def c_minus (s_fraction : Spec) : List CS := [.ret (.call "fraction" s_fraction [(.bin .sub (.bin .mul (.ix (.var 0) (.int 0)) (.ix (.var 1) (.int 1))) (.bin .mul (.ix (.var 1) (.int 0)) (.ix (.var 0) (.int 1)))), (.bin .mul (.ix (.var 0) (.int 1)) (.ix (.var 1) (.int 1)))]) true]
def n_times : List PySem.Str := ["f", "g"]
def c_times (s_fraction : Spec) : List CS := [.ret (.call "fraction" s_fraction [(.bin .mul (.ix (.var 0) (.int 0)) (.ix (.var 1) (.int 0))), (.bin .mul (.ix (.var 0) (.int 1)) (.ix (.var 1) (.int 1)))]) true]
def n_less : List PySem.Str := ["f", "g"]
def c_less : List CS := [.ret (.cmp .lt (.bin .mul (.ix (.var 0) (.int 0)) (.ix (.var 1) (.int 1))) (.bin .mul (.ix (.var 1) (.int 0)) (.ix (.var 0) (.int 1)))) true]
def n_rest : List PySem.Str := ["f"]
def c_rest : List CS := [.ret (.tup [(.bin .mod (.ix (.var 0) (.int 0)) (.ix (.var 0) (.int 1))), (.ix (.var 0) (.int 1))]) true]
def n__law_numbers : List PySem.Str := ["cell", "count", "numbers", "mixed", "k"]
def c__law_numbers : List CS := [.asg 2 (.lst []) [] false,
  .ifs (.cmp .ge (.var 0) (.bin .pow (.int 10) (.int 18))) [.for_ (.nm 4) (.rng [(.var 1)]) [] [.app 2 (.bin .mod (.blt .int_ [(.var 0)]) (.int 1000)) [] false,
  .asg 0 (.bin .fdiv (.var 0) (.int 1000)) [] false],
  .ret (.var 2) true] [],
  .asg 3 (.bin .mod (.blt .int_ [(.var 0)]) (.int 2147483647)) [] false,
  .for_ (.nm 4) (.rng [(.var 1)]) [] [.asg 3 (.bin .mod (.blt .int_ [(.bin .add (.bin .mul (.var 3) (.int 48271)) (.bin .mul (.int 69621) (.bin .add (.var 4) (.int 1))))]) (.int 2147483647)) [] false,
  .app 2 (.bin .mod (.bin .fdiv (.var 3) (.int 7)) (.int 1000)) [] false],
  .ret (.var 2) true]
def n__law_cell : List PySem.Str := ["script", "k"]
def c__law_cell : List CS := [.ifs (.cmp .lt (.var 1) (.blt .len [(.var 0)])) [.ret (.ix (.var 0) (.var 1)) false] [],
  .ret (.int 0) true]
def n__law_drawn : List PySem.Str := ["a", "b", "c"]
def c__law_drawn : List CS := [.ret (.bin .sub (.bin .mod (.blt .int_ [(.bin .add (.bin .add (.bin .mul (.var 0) (.int 1000000)) (.bin .mul (.var 1) (.int 1000))) (.var 2))]) (.int 2000001)) (.int 1000000)) true]
def n__law_gcd : List PySem.Str := ["a", "b", "k", "c"]
def c__law_gcd : List CS := [.asg 0 (.blt .abs [(.var 0)]) [] false,
  .asg 1 (.blt .abs [(.var 1)]) [] false,
  .for_ (.nm 2) (.rng [(.int 10000)]) [] [.ifs (.cmp .eq (.var 1) (.int 0)) [.brk] [],
  .asg 3 (.bin .mod (.blt .int_ [(.var 0)]) (.var 1)) [] false,
  .asg 0 (.var 1) [] false,
  .asg 1 (.var 3) [] false],
  .ret (.var 0) false]
def n__law_is_fraction : List PySem.Str := ["f", "part"]
def c__law_is_fraction (s__law_gcd : Spec) : List CS := [.ifs (.or [(.not (.isi (.var 0) .tup)), (.cmp .ne (.blt .len [(.var 0)]) (.int 2))]) [.ret (.bl false) true] [],
  .for_ (.nm 1) (.var 0) [] [.ifs (.or [(.not (.isi (.var 1) .int)), (.isi (.var 1) .bl)]) [.ret (.bl false) true] []],
  .ret (.and [(.cmp .gt (.ix (.var 0) (.int 1)) (.int 0)), (.cmp .eq (.call "_law_gcd" s__law_gcd [(.ix (.var 0) (.int 0)), (.ix (.var 0) (.int 1))]) (.int 1))]) false]
def n__law_same : List PySem.Str := ["actual", "due", "k"]
def c__law_same (s__law_same : Spec) : List CS := [.ifs (.isN false (.var 1)) [.ret (.isN false (.var 0)) true] [],
  .ifs (.or [(.isi (.var 1) .lst), (.isi (.var 1) .tup)]) [.ifs (.or [(.cmp .ne (.isi (.var 1) .lst) (.isi (.var 0) .lst)), (.cmp .ne (.isi (.var 1) .tup) (.isi (.var 0) .tup))]) [.ret (.bl false) true] [],
  .ifs (.cmp .ne (.blt .len [(.var 0)]) (.blt .len [(.var 1)])) [.ret (.bl false) true] [],
  .for_ (.nm 2) (.rng [(.blt .len [(.var 1)])]) [] [.ifs (.not (.call "_law_same" s__law_same [(.ix (.var 0) (.var 2)), (.ix (.var 1) (.var 2))])) [.ret (.bl false) true] []],
  .ret (.bl true) true] [],
  .ifs (.or [(.cmp .ne (.isi (.var 1) .bl) (.isi (.var 0) .bl)), (.cmp .ne (.isi (.var 1) .int) (.isi (.var 0) .int))]) [.ret (.bl false) true] [],
  .ret (.and [(.cmp .eq (.isi (.var 1) .str) (.isi (.var 0) .str)), (.cmp .eq (.var 0) (.var 1))]) false]
def n__law_frac : List PySem.Str := ["n", "d", "g"]
def c__law_frac (s__law_gcd : Spec) : List CS := [.asg 2 (.call "_law_gcd" s__law_gcd [(.var 0), (.var 1)]) [] false,
  .ifs (.cmp .lt (.var 1) (.int 0)) [.asg 2 (.bin .sub (.int 0) (.var 2)) [2] true] [],
  .ret (.tup [(.bin .fdiv (.var 0) (.var 2)), (.bin .fdiv (.var 1) (.var 2))]) true]
def n__law_add : List PySem.Str := ["f", "g"]
def c__law_add (s__law_frac : Spec) : List CS := [.ret (.call "_law_frac" s__law_frac [(.bin .add (.bin .mul (.ix (.var 0) (.int 0)) (.ix (.var 1) (.int 1))) (.bin .mul (.ix (.var 1) (.int 0)) (.ix (.var 0) (.int 1)))), (.bin .mul (.ix (.var 0) (.int 1)) (.ix (.var 1) (.int 1)))]) true]
def n__law_sub : List PySem.Str := ["f", "g"]
def c__law_sub (s__law_frac : Spec) : List CS := [.ret (.call "_law_frac" s__law_frac [(.bin .sub (.bin .mul (.ix (.var 0) (.int 0)) (.ix (.var 1) (.int 1))) (.bin .mul (.ix (.var 1) (.int 0)) (.ix (.var 0) (.int 1)))), (.bin .mul (.ix (.var 0) (.int 1)) (.ix (.var 1) (.int 1)))]) true]
def n__law_mul : List PySem.Str := ["f", "g"]
def c__law_mul (s__law_frac : Spec) : List CS := [.ret (.call "_law_frac" s__law_frac [(.bin .mul (.ix (.var 0) (.int 0)) (.ix (.var 1) (.int 0))), (.bin .mul (.ix (.var 0) (.int 1)) (.ix (.var 1) (.int 1)))]) true]
def n__law_rest : List PySem.Str := ["f"]
def c__law_rest : List CS := [.ret (.tup [(.bin .mod (.blt .int_ [(.ix (.var 0) (.int 0))]) (.ix (.var 0) (.int 1))), (.ix (.var 0) (.int 1))]) true]
def n__law_less : List PySem.Str := ["f", "g"]
def c__law_less : List CS := [.ret (.cmp .lt (.bin .mul (.ix (.var 0) (.int 0)) (.ix (.var 1) (.int 1))) (.bin .mul (.ix (.var 1) (.int 0)) (.ix (.var 0) (.int 1)))) true]
def n__law_are_right : List PySem.Str := ["f", "g"]
def c__law_are_right (s__law_same : Spec) (s_plus : Spec) (s__law_add : Spec) (s_minus : Spec) (s__law_sub : Spec) (s_times : Spec) (s__law_mul : Spec) (s_rest : Spec) (s__law_rest : Spec) (s_less : Spec) (s__law_less : Spec) : List CS := [.ifs (.or [(.not (.call "_law_same" s__law_same [(.call "plus" s_plus [(.var 0), (.var 1)]), (.call "_law_add" s__law_add [(.var 0), (.var 1)])])), (.not (.call "_law_same" s__law_same [(.call "minus" s_minus [(.var 0), (.var 1)]), (.call "_law_sub" s__law_sub [(.var 0), (.var 1)])]))]) [.ret (.bl false) true] [],
  .ifs (.or [(.not (.call "_law_same" s__law_same [(.call "times" s_times [(.var 0), (.var 1)]), (.call "_law_mul" s__law_mul [(.var 0), (.var 1)])])), (.not (.call "_law_same" s__law_same [(.call "rest" s_rest [(.var 0)]), (.call "_law_rest" s__law_rest [(.var 0)])]))]) [.ret (.bl false) true] [],
  .ret (.and [(.call "_law_same" s__law_same [(.call "less" s_less [(.var 0), (.var 1)]), (.call "_law_less" s__law_less [(.var 0), (.var 1)])]), (.call "_law_same" s__law_same [(.call "less" s_less [(.var 1), (.var 0)]), (.call "_law_less" s__law_less [(.var 1), (.var 0)])])]) false]
def n_law_k00 : List PySem.Str := ["script", "total", "product", "k", "numbers", "n", "d", "told", "f", "g"]
def c_law_k00 (s__law_numbers : Spec) (s__law_cell : Spec) (s__law_drawn : Spec) (s_fraction : Spec) (s__law_is_fraction : Spec) (s__law_same : Spec) (s_fraction_1 : Spec) (s__law_frac : Spec) (s_plus : Spec) (s__law_are_right : Spec) (s_rest : Spec) (s_minus : Spec) (s_times : Spec) : List CS := [.asg 1 (.tup [(.int 0), (.int 1)]) [] false,
  .asg 2 (.tup [(.int 1), (.int 1)]) [] false,
  .for_ (.nm 3) (.rng [(.int 20)]) [] [.asg 4 (.call "_law_numbers" s__law_numbers [(.bin .add (.call "_law_cell" s__law_cell [(.var 0), (.var 3)]) (.var 3)), (.int 12)]) [] false,
  .asg 5 (.call "_law_drawn" s__law_drawn [(.ix (.var 4) (.int 0)), (.ix (.var 4) (.int 1)), (.ix (.var 4) (.int 2))]) [4] true,
  .asg 6 (.call "_law_drawn" s__law_drawn [(.ix (.var 4) (.int 3)), (.ix (.var 4) (.int 4)), (.ix (.var 4) (.int 5))]) [] false,
  .ifs (.or [(.cmp .eq (.var 6) (.int 0)), (.cmp .eq (.bin .mod (.ix (.var 4) (.int 6)) (.int 2)) (.int 1))]) [.asg 6 (.bin .add (.int 1) (.bin .mod (.ix (.var 4) (.int 7)) (.int 24))) [] false] [],
  .asg 7 (.call "fraction" s_fraction [(.var 5), (.var 6)]) [5] true,
  .ifs (.or [(.not (.call "_law_is_fraction" s__law_is_fraction [(.var 7)])), (.cmp .ne (.bin .mul (.ix (.var 7) (.int 0)) (.var 6)) (.bin .mul (.var 5) (.ix (.var 7) (.int 1)))), (.not (.call "_law_same" s__law_same [(.call "fraction" s_fraction_1 [(.var 5)]), (.tup [(.var 5), (.int 1)])]))]) [.ret (.bl false) true] [],
  .asg 8 (.call "_law_frac" s__law_frac [(.var 5), (.bin .add (.int 1) (.bin .mod (.ix (.var 4) (.int 7)) (.int 24)))]) [] false,
  .asg 9 (.call "_law_frac" s__law_frac [(.call "_law_drawn" s__law_drawn [(.ix (.var 4) (.int 8)), (.ix (.var 4) (.int 9)), (.ix (.var 4) (.int 10))]), (.bin .add (.int 1) (.bin .mod (.ix (.var 4) (.int 11)) (.int 24)))]) [] false,
  .ifs (.cmp .eq (.bin .mod (.ix (.var 4) (.int 6)) (.int 5)) (.int 0)) [.asg 9 (.var 8) [8] true] [],
  .ifs (.or [(.not (.call "_law_is_fraction" s__law_is_fraction [(.call "plus" s_plus [(.var 8), (.var 9)])])), (.not (.call "_law_are_right" s__law_are_right [(.var 8), (.var 9)]))]) [.ret (.bl false) true] [],
  .asg 7 (.call "rest" s_rest [(.var 8)]) [] false,
  .ifs (.or [(.not (.call "_law_is_fraction" s__law_is_fraction [(.var 7)])), (.cmp .lt (.ix (.var 7) (.int 0)) (.int 0)), (.cmp .ge (.ix (.var 7) (.int 0)) (.ix (.var 7) (.int 1))), (.cmp .ne (.ix (.call "minus" s_minus [(.var 8), (.var 7)]) (.int 1)) (.int 1))]) [.ret (.bl false) true] [],
  .ifs (.or [(.not (.call "_law_are_right" s__law_are_right [(.var 1), (.var 9)])), (.not (.call "_law_are_right" s__law_are_right [(.var 2), (.var 8)]))]) [.ret (.bl false) true] [],
  .asg 1 (.call "plus" s_plus [(.var 1), (.var 9)]) [] false,
  .ifs (.cmp .ne (.ix (.var 8) (.int 0)) (.int 0)) [.asg 2 (.call "times" s_times [(.var 2), (.var 8)]) [] false] [],
  .ifs (.or [(.not (.call "_law_are_right" s__law_are_right [(.var 1), (.var 2)])), (.not (.call "_law_are_right" s__law_are_right [(.var 9), (.var 1)]))]) [.ret (.bl false) true] []],
  .ret (.bl true) true]
def n_determinant : List PySem.Str := ["matrix"]
def c_determinant : List CS := [.ret (.bin .sub (.bin .mul (.ix (.var 0) (.int 0)) (.ix (.var 0) (.int 3))) (.bin .mul (.ix (.var 0) (.int 1)) (.ix (.var 0) (.int 2)))) true]
def n_make_movement : List PySem.Str := ["matrix", "x", "y"]
def c_make_movement (s_determinant : Spec) : List CS := [.ifs (.mem true (.call "determinant" s_determinant [(.var 0)]) (.tup [(.int 1), (.neg (.int 1))])) [.rse "InvalidMovement"] [],
  .ret (.tup [(.ix (.var 0) (.int 0)), (.ix (.var 0) (.int 1)), (.ix (.var 0) (.int 2)), (.ix (.var 0) (.int 3)), (.var 1), (.var 2)]) true]
def n_product : List PySem.Str := ["first", "second", "a", "b", "c", "d", "e", "f", "g", "h"]
def c_product : List CS := [.asgT (.tp [(.nm 2), (.nm 3), (.nm 4), (.nm 5)]) (.sl (.var 0) .nop (.int 4)) [] false,
  .asgT (.tp [(.nm 6), (.nm 7), (.nm 8), (.nm 9)]) (.sl (.var 1) .nop (.int 4)) [] false,
  .ret (.tup [(.bin .add (.bin .mul (.var 6) (.var 2)) (.bin .mul (.var 7) (.var 4))), (.bin .add (.bin .mul (.var 6) (.var 3)) (.bin .mul (.var 7) (.var 5))), (.bin .add (.bin .mul (.var 8) (.var 2)) (.bin .mul (.var 9) (.var 4))), (.bin .add (.bin .mul (.var 8) (.var 3)) (.bin .mul (.var 9) (.var 5)))]) true]
def n_reverse_matrix : List PySem.Str := ["matrix", "sign", "a", "b", "c", "d"]
def c_reverse_matrix : List CS := [.asgT (.tp [(.nm 2), (.nm 3), (.nm 4), (.nm 5)]) (.sl (.var 0) .nop (.int 4)) [] false,
  .asg 1 (.bin .sub (.bin .mul (.var 2) (.var 5)) (.bin .mul (.var 3) (.var 4))) [] false,
  .ret (.tup [(.bin .mul (.var 1) (.var 5)), (.bin .mul (.neg (.var 1)) (.var 3)), (.bin .mul (.neg (.var 1)) (.var 4)), (.bin .mul (.var 1) (.var 2))]) true]
def n_led : List PySem.Str := ["matrix", "vector", "x", "y", "size", "a", "b", "c", "d"]
def c_led (s_fraction : Spec) : List CS := [.asgT (.tp [(.nm 5), (.nm 6), (.nm 7), (.nm 8)]) (.sl (.var 0) .nop (.int 4)) [] false,
  .asg 2 (.bin .mul (.ix (.ix (.var 1) (.int 0)) (.int 0)) (.ix (.ix (.var 1) (.int 1)) (.int 1))) [] false,
  .asg 3 (.bin .mul (.ix (.ix (.var 1) (.int 1)) (.int 0)) (.ix (.ix (.var 1) (.int 0)) (.int 1))) [] false,
  .asg 4 (.bin .mul (.ix (.ix (.var 1) (.int 0)) (.int 1)) (.ix (.ix (.var 1) (.int 1)) (.int 1))) [] false,
  .ret (.tup [(.call "fraction" s_fraction [(.bin .add (.bin .mul (.var 5) (.var 2)) (.bin .mul (.var 6) (.var 3))), (.var 4)]), (.call "fraction" s_fraction [(.bin .add (.bin .mul (.var 7) (.var 2)) (.bin .mul (.var 8) (.var 3))), (.var 4)])]) true]
def n_moved : List PySem.Str := ["m", "point", "x", "y"]
def c_moved (s_led : Spec) (s_plus : Spec) : List CS := [.asgT (.tp [(.nm 2), (.nm 3)]) (.call "led" s_led [(.var 0), (.var 1)]) [] false,
  .ret (.tup [(.call "plus" s_plus [(.var 2), (.ix (.var 0) (.int 4))]), (.call "plus" s_plus [(.var 3), (.ix (.var 0) (.int 5))])]) true]
def n_then : List PySem.Str := ["m", "n"]
def c_then (s_product : Spec) (s_moved : Spec) : List CS := [.ret (.bin .add (.call "product" s_product [(.var 0), (.var 1)]) (.call "moved" s_moved [(.var 1), (.tup [(.ix (.var 0) (.int 4)), (.ix (.var 0) (.int 5))])])) true]
def n_back : List PySem.Str := ["m", "matrix", "x", "y"]
def c_back (s_reverse_matrix : Spec) (s_led : Spec) (s_minus : Spec) : List CS := [.asg 1 (.call "reverse_matrix" s_reverse_matrix [(.var 0)]) [] false,
  .asgT (.tp [(.nm 2), (.nm 3)]) (.call "led" s_led [(.var 1), (.tup [(.ix (.var 0) (.int 4)), (.ix (.var 0) (.int 5))])]) [1] true,
  .ret (.bin .add (.var 1) (.tup [(.call "minus" s_minus [(.glob "ZERO" (.tup [(.int 0), (.int 1)])), (.var 2)]), (.call "minus" s_minus [(.glob "ZERO" (.tup [(.int 0), (.int 1)])), (.var 3)])])) true]
def n__law_det : List PySem.Str := ["m"]
def c__law_det : List CS := [.ret (.bin .sub (.bin .mul (.ix (.var 0) (.int 0)) (.ix (.var 0) (.int 3))) (.bin .mul (.ix (.var 0) (.int 1)) (.ix (.var 0) (.int 2)))) true]
def n__law_led : List PySem.Str := ["m", "p", "x", "y"]
def c__law_led (s__law_add : Spec) (s__law_mul : Spec) : List CS := [.asg 2 (.call "_law_add" s__law_add [(.call "_law_mul" s__law_mul [(.tup [(.ix (.var 0) (.int 0)), (.int 1)]), (.ix (.var 1) (.int 0))]), (.call "_law_mul" s__law_mul [(.tup [(.ix (.var 0) (.int 1)), (.int 1)]), (.ix (.var 1) (.int 1))])]) [] false,
  .asg 3 (.call "_law_add" s__law_add [(.call "_law_mul" s__law_mul [(.tup [(.ix (.var 0) (.int 2)), (.int 1)]), (.ix (.var 1) (.int 0))]), (.call "_law_mul" s__law_mul [(.tup [(.ix (.var 0) (.int 3)), (.int 1)]), (.ix (.var 1) (.int 1))])]) [] false,
  .ret (.tup [(.var 2), (.var 3)]) true]
def n__law_moved : List PySem.Str := ["m", "p", "x", "y"]
def c__law_moved (s__law_led : Spec) (s__law_add : Spec) : List CS := [.asgT (.tp [(.nm 2), (.nm 3)]) (.call "_law_led" s__law_led [(.var 0), (.var 1)]) [] false,
  .ret (.tup [(.call "_law_add" s__law_add [(.var 2), (.ix (.var 0) (.int 4))]), (.call "_law_add" s__law_add [(.var 3), (.ix (.var 0) (.int 5))])]) true]
def n__law_product : List PySem.Str := ["m", "n", "first"]
def c__law_product : List CS := [.asg 2 (.tup [(.bin .add (.bin .mul (.ix (.var 1) (.int 0)) (.ix (.var 0) (.int 0))) (.bin .mul (.ix (.var 1) (.int 1)) (.ix (.var 0) (.int 2)))), (.bin .add (.bin .mul (.ix (.var 1) (.int 0)) (.ix (.var 0) (.int 1))) (.bin .mul (.ix (.var 1) (.int 1)) (.ix (.var 0) (.int 3))))]) [] false,
  .ret (.bin .add (.var 2) (.tup [(.bin .add (.bin .mul (.ix (.var 1) (.int 2)) (.ix (.var 0) (.int 0))) (.bin .mul (.ix (.var 1) (.int 3)) (.ix (.var 0) (.int 2)))), (.bin .add (.bin .mul (.ix (.var 1) (.int 2)) (.ix (.var 0) (.int 1))) (.bin .mul (.ix (.var 1) (.int 3)) (.ix (.var 0) (.int 3))))])) true]
def n__law_then : List PySem.Str := ["m", "n"]
def c__law_then (s__law_product : Spec) (s__law_moved : Spec) : List CS := [.ret (.bin .add (.call "_law_product" s__law_product [(.var 0), (.var 1)]) (.call "_law_moved" s__law_moved [(.var 1), (.tup [(.ix (.var 0) (.int 4)), (.ix (.var 0) (.int 5))])])) true]
def n__law_back : List PySem.Str := ["m", "sign", "matrix", "x", "y"]
def c__law_back (s__law_det : Spec) (s__law_led : Spec) : List CS := [.asg 1 (.call "_law_det" s__law_det [(.var 0)]) [] false,
  .asg 2 (.tup [(.bin .mul (.var 1) (.ix (.var 0) (.int 3))), (.bin .sub (.int 0) (.bin .mul (.var 1) (.ix (.var 0) (.int 1)))), (.bin .sub (.int 0) (.bin .mul (.var 1) (.ix (.var 0) (.int 2)))), (.bin .mul (.var 1) (.ix (.var 0) (.int 0)))]) [1] true,
  .asgT (.tp [(.nm 3), (.nm 4)]) (.call "_law_led" s__law_led [(.var 2), (.tup [(.ix (.var 0) (.int 4)), (.ix (.var 0) (.int 5))])]) [] false,
  .ret (.bin .add (.var 2) (.tup [(.tup [(.bin .sub (.int 0) (.ix (.var 3) (.int 0))), (.ix (.var 3) (.int 1))]), (.tup [(.bin .sub (.int 0) (.ix (.var 4) (.int 0))), (.ix (.var 4) (.int 1))])])) true]
def n__law_axes : List PySem.Str := ["numbers", "k", "j"]
def c__law_axes : List CS := [.asg 1 (.bin .sub (.bin .mod (.ix (.var 0) (.int 0)) (.int 5)) (.int 2)) [] false,
  .asg 2 (.bin .sub (.bin .mod (.ix (.var 0) (.int 1)) (.int 5)) (.int 2)) [] false,
  .ifs (.cmp .eq (.bin .mod (.ix (.var 0) (.int 2)) (.int 2)) (.int 1)) [.ret (.tup [(.bin .add (.int 1) (.bin .mul (.var 1) (.var 2))), (.bin .sub (.int 0) (.var 1)), (.var 2), (.neg (.int 1))]) true] [],
  .ret (.tup [(.bin .add (.int 1) (.bin .mul (.var 1) (.var 2))), (.var 1), (.var 2), (.int 1)]) true]
def n__law_point : List PySem.Str := ["numbers", "x"]
def c__law_point (s__law_frac : Spec) : List CS := [.asg 1 (.call "_law_frac" s__law_frac [(.bin .sub (.bin .mod (.ix (.var 0) (.int 0)) (.int 97)) (.int 48)), (.bin .add (.int 1) (.bin .mod (.ix (.var 0) (.int 1)) (.int 12)))]) [] false,
  .ret (.tup [(.var 1), (.call "_law_frac" s__law_frac [(.bin .sub (.bin .mod (.ix (.var 0) (.int 2)) (.int 97)) (.int 48)), (.bin .add (.int 1) (.bin .mod (.ix (.var 0) (.int 3)) (.int 12)))])]) true]
def n__law_matrix : List PySem.Str := ["numbers", "matrix"]
def c__law_matrix (s__law_product : Spec) (s__law_axes : Spec) : List CS := [.ifs (.cmp .gt (.bin .mod (.ix (.var 0) (.int 0)) (.int 3)) (.int 0)) [.asg 1 (.call "_law_product" s__law_product [(.call "_law_axes" s__law_axes [(.sl (.var 0) (.int 1) .nop)]), (.call "_law_axes" s__law_axes [(.sl (.var 0) (.int 4) .nop)])]) [] false,
  .ifs (.cmp .eq (.bin .mod (.ix (.var 0) (.int 7)) (.int 2)) (.int 1)) [.ret (.bin .add (.sl (.var 1) (.int 2) .nop) (.sl (.var 1) .nop (.int 2))) true] [],
  .ret (.var 1) true] [],
  .ret (.tup [(.bin .sub (.bin .mod (.ix (.var 0) (.int 1)) (.int 9)) (.int 4)), (.bin .sub (.bin .mod (.ix (.var 0) (.int 2)) (.int 9)) (.int 4)), (.bin .sub (.bin .mod (.ix (.var 0) (.int 3)) (.int 9)) (.int 4)), (.bin .sub (.bin .mod (.ix (.var 0) (.int 4)) (.int 9)) (.int 4))]) true]
def n__law_any_shift : List PySem.Str := ["a", "b"]
def c__law_any_shift (s__law_frac : Spec) : List CS := [.ret (.call "_law_frac" s__law_frac [(.bin .sub (.bin .mul (.var 0) (.int 7)) (.int 3500)), (.bin .add (.int 1) (.bin .mod (.var 1) (.int 24)))]) true]
def n__law_made : List PySem.Str := ["matrix", "x", "y", "with_shift", "e"]
def c__law_made (s_make_movement : Spec) (s_make_movement_1 : Spec) : List CS := [.tryx [.ifs (.var 3) [.ret (.call "make_movement" s_make_movement [(.var 0), (.var 1), (.var 2)]) true] [],
  .ret (.call "make_movement" s_make_movement_1 [(.var 0)]) true] ["InvalidMovement"] "InvalidMovement" 4 [((.or [(.not (.isx "PatternError")), (.not (.isx "ValueError")), (.isx "NotFinite")]), (.str "?"))] (.str "refused")]
def n_law_k01 : List PySem.Str := ["script", "made", "k", "points", "m", "numbers", "matrix", "x", "y", "due", "passed", "p", "n"]
def c_law_k01 (s__law_numbers : Spec) (s__law_cell : Spec) (s__law_matrix : Spec) (s__law_any_shift : Spec) (s__law_det : Spec) (s__law_same : Spec) (s__law_made : Spec) (s__law_point : Spec) (s_moved : Spec) (s__law_moved : Spec) (s_back : Spec) (s__law_back : Spec) (s_then : Spec) (s__law_then : Spec) : List CS := [.asg 1 (.lst []) [] false,
  .for_ (.nm 2) (.rng [(.int 6)]) [] [.asg 5 (.call "_law_numbers" s__law_numbers [(.bin .add (.call "_law_cell" s__law_cell [(.var 0), (.var 2)]) (.var 2)), (.int 16)]) [] false,
  .asg 6 (.call "_law_matrix" s__law_matrix [(.var 5)]) [5] true,
  .asg 7 (.call "_law_any_shift" s__law_any_shift [(.ix (.var 5) (.int 8)), (.ix (.var 5) (.int 9))]) [] false,
  .asg 8 (.call "_law_any_shift" s__law_any_shift [(.ix (.var 5) (.int 10)), (.ix (.var 5) (.int 11))]) [] false,
  .asg 9 (.str "refused") [] false,
  .ifs (.mem false (.call "_law_det" s__law_det [(.var 6)]) (.lst [(.int 1), (.neg (.int 1))])) [.asg 9 (.bin .add (.var 6) (.tup [(.var 7), (.var 8)])) [6, 7, 8] true] [],
  .asg 10 (.blt .list_ [(.var 6)]) [] false,
  .ifs (.or [(.not (.call "_law_same" s__law_same [(.call "_law_made" s__law_made [(.var 10), (.var 7), (.var 8), (.bl true)]), (.var 9)])), (.cmp .ne (.var 10) (.blt .list_ [(.var 6)]))]) [.ret (.bl false) true] [],
  .ifs (.cmp .ne (.var 9) (.str "refused")) [.app 1 (.var 9) [] false,
  .ifs (.not (.call "_law_same" s__law_same [(.call "_law_made" s__law_made [(.var 6), (.var 7), (.var 8), (.bl false)]), (.bin .add (.var 6) (.tup [(.tup [(.int 0), (.int 1)]), (.tup [(.int 0), (.int 1)])]))])) [.ret (.bl false) true] []] [.ifs (.cmp .ne (.call "_law_made" s__law_made [(.var 6), (.var 7), (.var 8), (.bl false)]) (.str "refused")) [.ret (.bl false) true] []]],
  .asg 3 (.lc (.nm 2) (.rng [(.int 3)]) [] (.call "_law_point" s__law_point [(.call "_law_numbers" s__law_numbers [(.bin .add (.call "_law_cell" s__law_cell [(.var 0), (.bin .add (.int 6) (.var 2))]) (.var 2)), (.int 4)])])) [] false,
  .for_ (.nm 4) (.var 1) [1] [.for_ (.nm 11) (.var 3) [3] [.ifs (.or [(.not (.call "_law_same" s__law_same [(.call "moved" s_moved [(.var 4), (.var 11)]), (.call "_law_moved" s__law_moved [(.var 4), (.var 11)])])), (.cmp .ne (.call "moved" s_moved [(.call "back" s_back [(.var 4)]), (.call "moved" s_moved [(.var 4), (.var 11)])]) (.var 11))]) [.ret (.bl false) true] []],
  .ifs (.not (.call "_law_same" s__law_same [(.call "back" s_back [(.var 4)]), (.call "_law_back" s__law_back [(.var 4)])])) [.ret (.bl false) true] [],
  .for_ (.nm 12) (.var 1) [] [.ifs (.not (.call "_law_same" s__law_same [(.call "then" s_then [(.var 4), (.var 12)]), (.call "_law_then" s__law_then [(.var 4), (.var 12)])])) [.ret (.bl false) true] []]],
  .ret (.bl true) true]
def n_settled : List PySem.Str := ["m"]
def c_settled (s_rest : Spec) : List CS := [.ret (.bin .add (.sl (.var 0) .nop (.int 4)) (.tup [(.call "rest" s_rest [(.ix (.var 0) (.int 4))]), (.call "rest" s_rest [(.ix (.var 0) (.int 5))])])) true]
def n_order_of : List PySem.Str := ["m", "matrix", "count"]
def c_order_of (s_product : Spec) : List CS := [.asg 1 (.tup [(.int 1), (.int 0), (.int 0), (.int 1)]) [] false,
  .for_ (.nm 2) (.rng [(.int 1), (.int 7)]) [] [.asg 1 (.call "product" s_product [(.var 1), (.var 0)]) [] false,
  .ifs (.cmp .eq (.var 1) (.tup [(.int 1), (.int 0), (.int 0), (.int 1)])) [.ret (.var 2) false] []],
  .ret (.int 0) true]
def n_is_turn : List PySem.Str := ["m"]
def c_is_turn (s_determinant : Spec) : List CS := [.ret (.cmp .eq (.call "determinant" s_determinant [(.var 0)]) (.int 1)) true]
def n__law_settled : List PySem.Str := ["m"]
def c__law_settled (s__law_rest : Spec) : List CS := [.ret (.bin .add (.sl (.var 0) .nop (.int 4)) (.tup [(.call "_law_rest" s__law_rest [(.ix (.var 0) (.int 4))]), (.call "_law_rest" s__law_rest [(.ix (.var 0) (.int 5))])])) true]
def n__law_shift : List PySem.Str := ["a", "b"]
def c__law_shift (s__law_frac : Spec) : List CS := [.ret (.call "_law_frac" s__law_frac [(.bin .sub (.bin .mod (.var 0) (.int 49)) (.int 24)), (.ix (.lst [(.int 1), (.int 2), (.int 3), (.int 4), (.int 6), (.int 12)]) (.bin .mod (.var 1) (.int 6)))]) true]
def n__law_change : List PySem.Str := ["numbers"]
def c__law_change (s__law_axes : Spec) (s__law_shift : Spec) : List CS := [.ret (.bin .add (.call "_law_axes" s__law_axes [(.var 0)]) (.tup [(.call "_law_shift" s__law_shift [(.ix (.var 0) (.int 3)), (.ix (.var 0) (.int 4))]), (.call "_law_shift" s__law_shift [(.ix (.var 0) (.int 5)), (.ix (.var 0) (.int 6))])])) true]
def n__law_steps : List PySem.Str := ["numbers", "turns", "flips", "flip", "x", "y"]
def c__law_steps : List CS := [.asg 1 (.lst [(.tup [(.int 1), (.int 0), (.int 0), (.int 1)]), (.tup [(.neg (.int 1)), (.int 0), (.int 0), (.neg (.int 1))]), (.tup [(.int 0), (.neg (.int 1)), (.int 1), (.int 0)]), (.tup [(.int 0), (.neg (.int 1)), (.int 1), (.neg (.int 1))]), (.tup [(.int 1), (.neg (.int 1)), (.int 1), (.int 0)])]) [] false,
  .asg 2 (.lst [(.tup [(.int 1), (.int 0), (.int 0), (.int 1)]), (.tup [(.int 1), (.int 0), (.int 0), (.neg (.int 1))]), (.tup [(.int 0), (.int 1), (.int 1), (.int 0)]), (.tup [(.int 0), (.neg (.int 1)), (.neg (.int 1)), (.int 0)])]) [] false,
  .asg 3 (.ix (.var 2) (.bin .mod (.ix (.var 0) (.int 1)) (.int 4))) [2] true,
  .asg 4 (.ix (.lst [(.tup [(.int 0), (.int 1)]), (.tup [(.int 1), (.int 2)])]) (.bin .mod (.ix (.var 0) (.int 2)) (.int 2))) [] false,
  .asg 5 (.ix (.lst [(.tup [(.int 0), (.int 1)]), (.tup [(.int 1), (.int 2)])]) (.bin .mod (.ix (.var 0) (.int 3)) (.int 2))) [] false,
  .ifs (.cmp .eq (.bin .mod (.ix (.var 0) (.int 1)) (.int 4)) (.int 0)) [.ret (.lst [(.bin .add (.ix (.var 1) (.bin .mod (.ix (.var 0) (.int 0)) (.int 5))) (.tup [(.tup [(.int 0), (.int 1)]), (.tup [(.int 0), (.int 1)])]))]) true] [],
  .ret (.lst [(.bin .add (.ix (.var 1) (.bin .mod (.ix (.var 0) (.int 0)) (.int 5))) (.tup [(.tup [(.int 0), (.int 1)]), (.tup [(.int 0), (.int 1)])])), (.bin .add (.var 3) (.tup [(.var 4), (.var 5)]))]) true]
def n__law_order : List PySem.Str := ["m", "matrix", "count"]
def c__law_order (s__law_product : Spec) : List CS := [.asg 1 (.tup [(.int 1), (.int 0), (.int 0), (.int 1)]) [] false,
  .for_ (.nm 2) (.rng [(.int 1), (.int 13)]) [] [.asg 1 (.call "_law_product" s__law_product [(.var 1), (.var 0)]) [] false,
  .ifs (.cmp .eq (.var 1) (.tup [(.int 1), (.int 0), (.int 0), (.int 1)])) [.ret (.var 2) false] []],
  .ret (.int 0) true]
def n_law_k02 : List PySem.Str := ["script", "k", "numbers", "steps", "m", "change"]
def c_law_k02 (s__law_numbers : Spec) (s__law_cell : Spec) (s__law_steps : Spec) (s__law_then : Spec) (s__law_change : Spec) (s__law_back : Spec) (s__law_product : Spec) (s__law_axes : Spec) (s__law_add : Spec) (s__law_same : Spec) (s_order_of : Spec) (s__law_order : Spec) (s_is_turn : Spec) (s__law_det : Spec) (s_settled : Spec) (s__law_settled : Spec) : List CS := [.for_ (.nm 1) (.rng [(.int 12)]) [] [.asg 2 (.call "_law_numbers" s__law_numbers [(.bin .add (.call "_law_cell" s__law_cell [(.var 0), (.var 1)]) (.var 1)), (.int 20)]) [] false,
  .asg 3 (.call "_law_steps" s__law_steps [(.var 2)]) [2] true,
  .asg 4 (.ix (.var 3) (.bin .mod (.ix (.var 2) (.int 4)) (.blt .len [(.var 3)]))) [3] true,
  .ifs (.cmp .eq (.bin .mod (.ix (.var 2) (.int 5)) (.int 4)) (.int 0)) [.asg 4 (.bin .add (.tup [(.int 1), (.bin .sub (.bin .mod (.ix (.var 2) (.int 6)) (.int 5)) (.int 2)), (.int 0), (.int 1)]) (.sl (.var 4) (.int 4) .nop)) [] false] [],
  .ifs (.cmp .eq (.bin .mod (.ix (.var 2) (.int 5)) (.int 4)) (.int 1)) [.asg 4 (.call "_law_then" s__law_then [(.var 4), (.ix (.call "_law_steps" s__law_steps [(.sl (.var 2) (.int 7) .nop)]) (.int 0))]) [] false] [],
  .asg 5 (.call "_law_change" s__law_change [(.sl (.var 2) (.int 11) .nop)]) [] false,
  .asg 4 (.call "_law_then" s__law_then [(.call "_law_then" s__law_then [(.call "_law_back" s__law_back [(.var 5)]), (.var 4)]), (.var 5)]) [5] true,
  .ifs (.cmp .eq (.bin .mod (.ix (.var 2) (.int 5)) (.int 4)) (.int 2)) [.asg 4 (.bin .add (.call "_law_product" s__law_product [(.call "_law_axes" s__law_axes [(.sl (.var 2) (.int 6) .nop)]), (.call "_law_axes" s__law_axes [(.sl (.var 2) (.int 9) .nop)])]) (.sl (.var 4) (.int 4) .nop)) [4] true] [],
  .asg 4 (.bin .add (.sl (.var 4) .nop (.int 4)) (.tup [(.call "_law_add" s__law_add [(.ix (.var 4) (.int 4)), (.tup [(.bin .sub (.ix (.var 2) (.int 18)) (.int 500)), (.int 1)])]), (.ix (.var 4) (.int 5))])) [4] true,
  .ifs (.not (.call "_law_same" s__law_same [(.call "order_of" s_order_of [(.var 4)]), (.call "_law_order" s__law_order [(.var 4)])])) [.ret (.bl false) true] [],
  .ifs (.or [(.not (.isi (.call "is_turn" s_is_turn [(.var 4)]) .bl)), (.cmp .ne (.call "is_turn" s_is_turn [(.var 4)]) (.cmp .eq (.call "_law_det" s__law_det [(.var 4)]) (.int 1)))]) [.ret (.bl false) true] [],
  .ifs (.or [(.not (.call "_law_same" s__law_same [(.call "settled" s_settled [(.var 4)]), (.call "_law_settled" s__law_settled [(.var 4)])])), (.cmp .ne (.call "settled" s_settled [(.call "settled" s_settled [(.var 4)])]) (.call "settled" s_settled [(.var 4)]))]) [.ret (.bl false) true] []],
  .ret (.bl true) true]
def n_check_cell : List PySem.Str := ["cell", "a", "b", "c"]
def c_check_cell (s_less : Spec) (s_times : Spec) : List CS := [.asgT (.tp [(.nm 1), (.nm 2), (.nm 3)]) (.var 0) [] false,
  .ifs (.or [(.not (.call "less" s_less [(.glob "ZERO" (.tup [(.int 0), (.int 1)])), (.var 1)])), (.not (.call "less" s_less [(.glob "ZERO" (.tup [(.int 0), (.int 1)])), (.var 3)])), (.not (.call "less" s_less [(.call "times" s_times [(.var 2), (.var 2)]), (.call "times" s_times [(.var 1), (.var 3)])]))]) [.rse "InvalidCell"] []]
def n_scalar : List PySem.Str := ["cell", "one", "two", "mixed", "a", "b", "c"]
def c_scalar (s_plus : Spec) (s_times : Spec) : List CS := [.asgT (.tp [(.nm 4), (.nm 5), (.nm 6)]) (.var 0) [] false,
  .asg 3 (.call "plus" s_plus [(.call "times" s_times [(.ix (.var 1) (.int 0)), (.ix (.var 2) (.int 1))]), (.call "times" s_times [(.ix (.var 1) (.int 1)), (.ix (.var 2) (.int 0))])]) [] false,
  .ret (.call "plus" s_plus [(.call "times" s_times [(.var 4), (.call "times" s_times [(.ix (.var 1) (.int 0)), (.ix (.var 2) (.int 0))])]), (.call "plus" s_plus [(.call "times" s_times [(.var 5), (.var 3)]), (.call "times" s_times [(.var 6), (.call "times" s_times [(.ix (.var 1) (.int 1)), (.ix (.var 2) (.int 1))])])])]) true]
def n_square : List PySem.Str := ["cell", "x", "y"]
def c_square (s_scalar : Spec) : List CS := [.ret (.call "scalar" s_scalar [(.var 0), (.tup [(.var 1), (.var 2)]), (.tup [(.var 1), (.var 2)])]) true]
def n__law_short_cell : List PySem.Str := ["numbers", "a", "d", "sort", "c", "b"]
def c__law_short_cell (s__law_frac : Spec) (s__law_add : Spec) (s__law_mul : Spec) : List CS := [.asg 1 (.call "_law_frac" s__law_frac [(.bin .add (.int 1) (.bin .mod (.ix (.var 0) (.int 0)) (.int 30))), (.bin .add (.int 1) (.bin .mod (.ix (.var 0) (.int 1)) (.int 2)))]) [] false,
  .asg 2 (.call "_law_frac" s__law_frac [(.bin .add (.int 1) (.bin .mod (.ix (.var 0) (.int 2)) (.int 40))), (.bin .add (.int 1) (.bin .mod (.ix (.var 0) (.int 3)) (.int 4)))]) [] false,
  .asg 3 (.bin .mod (.ix (.var 0) (.int 4)) (.int 6)) [] false,
  .asg 4 (.var 1) [1] true,
  .ifs (.mem false (.var 3) (.lst [(.int 2), (.int 4), (.int 5)])) [.asg 4 (.call "_law_add" s__law_add [(.var 1), (.var 2)]) [2] true] [],
  .asg 5 (.tup [(.int 0), (.int 1)]) [] false,
  .ifs (.mem false (.var 3) (.lst [(.int 1), (.int 4)])) [.asg 5 (.call "_law_mul" s__law_mul [(.var 1), (.tup [(.int 1), (.int 2)])]) [] false] [],
  .ifs (.mem false (.var 3) (.lst [(.int 3), (.int 5)])) [.asg 5 (.call "_law_mul" s__law_mul [(.var 1), (.call "_law_frac" s__law_frac [(.bin .add (.int 1) (.bin .mod (.ix (.var 0) (.int 5)) (.int 5))), (.int 12)])]) [] false] [],
  .ret (.tup [(.var 1), (.var 5), (.var 4)]) true]
def n__law_scalar : List PySem.Str := ["cell", "p", "q", "total", "mixed"]
def c__law_scalar (s__law_mul : Spec) (s__law_add : Spec) : List CS := [.asg 3 (.call "_law_mul" s__law_mul [(.ix (.var 0) (.int 0)), (.call "_law_mul" s__law_mul [(.ix (.var 1) (.int 0)), (.ix (.var 2) (.int 0))])]) [] false,
  .asg 4 (.call "_law_add" s__law_add [(.call "_law_mul" s__law_mul [(.ix (.var 1) (.int 0)), (.ix (.var 2) (.int 1))]), (.call "_law_mul" s__law_mul [(.ix (.var 1) (.int 1)), (.ix (.var 2) (.int 0))])]) [] false,
  .ret (.call "_law_add" s__law_add [(.var 3), (.call "_law_add" s__law_add [(.call "_law_mul" s__law_mul [(.ix (.var 0) (.int 1)), (.var 4)]), (.call "_law_mul" s__law_mul [(.ix (.var 0) (.int 2)), (.call "_law_mul" s__law_mul [(.ix (.var 1) (.int 1)), (.ix (.var 2) (.int 1))])])])]) true]
def n__law_cell_of : List PySem.Str := ["cell", "f", "g"]
def c__law_cell_of (s__law_scalar : Spec) : List CS := [.ret (.tup [(.call "_law_scalar" s__law_scalar [(.var 0), (.var 1), (.var 1)]), (.call "_law_scalar" s__law_scalar [(.var 0), (.var 1), (.var 2)]), (.call "_law_scalar" s__law_scalar [(.var 0), (.var 2), (.var 2)])]) true]
def n__law_vector : List PySem.Str := ["x", "y"]
def c__law_vector : List CS := [.ret (.tup [(.tup [(.var 0), (.int 1)]), (.tup [(.var 1), (.int 1)])]) true]
def n__law_other_cell : List PySem.Str := ["cell", "matrix"]
def c__law_other_cell (s__law_cell_of : Spec) (s__law_vector : Spec) : List CS := [.ret (.call "_law_cell_of" s__law_cell_of [(.var 0), (.call "_law_vector" s__law_vector [(.ix (.var 1) (.int 0)), (.ix (.var 1) (.int 2))]), (.call "_law_vector" s__law_vector [(.ix (.var 1) (.int 1)), (.ix (.var 1) (.int 3))])]) true]
def n__law_told_k16 : List PySem.Str := ["cell", "e"]
def c__law_told_k16 (s_check_cell : Spec) : List CS := [.tryx [.ifs (.isN false (.call "check_cell" s_check_cell [(.var 0)])) [.ret (.bl true) true] [],
  .ret (.str "?") true] ["InvalidCell"] "InvalidCell" 1 [((.or [(.not (.isx "PatternError")), (.isx "InvalidPattern")]), (.str "?"))] (.bl false)]
def n_law_k16 : List PySem.Str := ["script", "k", "numbers", "cell", "sort", "due", "p", "q"]
def c_law_k16 (s__law_numbers : Spec) (s__law_cell : Spec) (s__law_other_cell : Spec) (s__law_short_cell : Spec) (s__law_axes : Spec) (s__law_frac : Spec) (s__law_less : Spec) (s__law_mul : Spec) (s__law_told : Spec) (s__law_point : Spec) (s__law_same : Spec) (s_scalar : Spec) (s__law_scalar : Spec) (s_square : Spec) : List CS := [.for_ (.nm 1) (.rng [(.int 10)]) [] [.asg 2 (.call "_law_numbers" s__law_numbers [(.bin .add (.call "_law_cell" s__law_cell [(.var 0), (.var 1)]) (.var 1)), (.int 16)]) [] false,
  .asg 3 (.call "_law_other_cell" s__law_other_cell [(.call "_law_short_cell" s__law_short_cell [(.var 2)]), (.call "_law_axes" s__law_axes [(.sl (.var 2) (.int 6) .nop)])]) [2] true,
  .asg 4 (.bin .mod (.ix (.var 2) (.int 9)) (.int 6)) [] false,
  .ifs (.cmp .eq (.var 4) (.int 0)) [.asg 3 (.tup [(.ix (.var 3) (.int 0)), (.ix (.var 3) (.int 1)), (.tup [(.bin .sub (.int 0) (.ix (.ix (.var 3) (.int 2)) (.int 0))), (.ix (.ix (.var 3) (.int 2)) (.int 1))])]) [3] true] [],
  .ifs (.cmp .eq (.var 4) (.int 1)) [.asg 3 (.tup [(.call "_law_frac" s__law_frac [(.bin .sub (.ix (.var 2) (.int 10)) (.int 500)), (.int 24)]), (.call "_law_frac" s__law_frac [(.bin .sub (.ix (.var 2) (.int 11)) (.int 500)), (.int 23)]), (.call "_law_frac" s__law_frac [(.bin .sub (.ix (.var 2) (.int 12)) (.int 500)), (.int 22)])]) [] false] [],
  .ifs (.cmp .eq (.var 4) (.int 2)) [.asg 3 (.tup [(.tup [(.bin .mod (.ix (.var 2) (.int 10)) (.int 30)), (.int 1)]), (.tup [(.bin .mod (.ix (.var 2) (.int 10)) (.int 30)), (.int 1)]), (.tup [(.bin .mod (.ix (.var 2) (.int 10)) (.int 30)), (.int 1)])]) [] false] [],
  .ifs (.cmp .eq (.var 4) (.int 3)) [.asg 3 (.tup [(.tup [(.int 1), (.int 1)]), (.tup [(.bin .sub (.bin .mod (.ix (.var 2) (.int 10)) (.int 7)) (.int 3)), (.int 1)]), (.tup [(.bin .add (.int 4) (.bin .mod (.ix (.var 2) (.int 11)) (.int 2))), (.int 1)])]) [] false] [],
  .asg 5 (.and [(.call "_law_less" s__law_less [(.tup [(.int 0), (.int 1)]), (.ix (.var 3) (.int 0))]), (.call "_law_less" s__law_less [(.tup [(.int 0), (.int 1)]), (.ix (.var 3) (.int 2))])]) [] false,
  .asg 5 (.and [(.var 5), (.call "_law_less" s__law_less [(.call "_law_mul" s__law_mul [(.ix (.var 3) (.int 1)), (.ix (.var 3) (.int 1))]), (.call "_law_mul" s__law_mul [(.ix (.var 3) (.int 0)), (.ix (.var 3) (.int 2))])])]) [] false,
  .ifs (.cmp .ne (.call "_law_told" s__law_told [(.var 3)]) (.var 5)) [.ret (.bl false) true] [],
  .ifs (.var 5) [.asg 6 (.call "_law_point" s__law_point [(.sl (.var 2) (.int 2) .nop)]) [] false,
  .asg 7 (.call "_law_point" s__law_point [(.sl (.var 2) (.int 12) .nop)]) [] false,
  .ifs (.not (.call "_law_same" s__law_same [(.call "scalar" s_scalar [(.var 3), (.var 6), (.var 7)]), (.call "_law_scalar" s__law_scalar [(.var 3), (.var 6), (.var 7)])])) [.ret (.bl false) true] [],
  .ifs (.not (.call "_law_same" s__law_same [(.call "square" s_square [(.var 3), (.ix (.var 6) (.int 0)), (.ix (.var 6) (.int 1))]), (.call "_law_scalar" s__law_scalar [(.var 3), (.var 6), (.var 6)])])) [.ret (.bl false) true] []] []],
  .ret (.bl true) true]
def n_divided : List PySem.Str := ["f", "g"]
def c_divided (s_fraction : Spec) : List CS := [.ret (.call "fraction" s_fraction [(.bin .mul (.ix (.var 0) (.int 0)) (.ix (.var 1) (.int 1))), (.bin .mul (.ix (.var 0) (.int 1)) (.ix (.var 1) (.int 0)))]) true]
def n_whole_vector : List PySem.Str := ["vector"]
def c_whole_vector (s_fraction_1 : Spec) : List CS := [.ret (.tup [(.call "fraction" s_fraction_1 [(.ix (.var 0) (.int 0))]), (.call "fraction" s_fraction_1 [(.ix (.var 0) (.int 1))])]) true]
def n_nearest : List PySem.Str := ["f"]
def c_nearest : List CS := [.ret (.bin .fdiv (.bin .add (.bin .mul (.int 2) (.ix (.var 0) (.int 0))) (.ix (.var 0) (.int 1))) (.bin .mul (.int 2) (.ix (.var 0) (.int 1)))) true]
def n_reduced_basis : List PySem.Str := ["cell", "f", "g", "going", "size", "k"]
def c_reduced_basis (s_scalar : Spec) (s_whole_vector : Spec) (s_nearest : Spec) (s_divided : Spec) (s_less : Spec) : List CS := [.asg 1 (.tup [(.int 1), (.int 0)]) [] false,
  .asg 2 (.tup [(.int 0), (.int 1)]) [] false,
  .asg 3 (.bl true) [] false,
  .whl (.var 3) [.asg 4 (.call "scalar" s_scalar [(.var 0), (.call "whole_vector" s_whole_vector [(.var 1)]), (.call "whole_vector" s_whole_vector [(.var 1)])]) [] false,
  .asg 5 (.call "nearest" s_nearest [(.call "divided" s_divided [(.call "scalar" s_scalar [(.var 0), (.call "whole_vector" s_whole_vector [(.var 1)]), (.call "whole_vector" s_whole_vector [(.var 2)])]), (.var 4)])]) [4] true,
  .asg 2 (.tup [(.bin .sub (.ix (.var 2) (.int 0)) (.bin .mul (.var 5) (.ix (.var 1) (.int 0)))), (.bin .sub (.ix (.var 2) (.int 1)) (.bin .mul (.var 5) (.ix (.var 1) (.int 1))))]) [5] true,
  .asg 3 (.call "less" s_less [(.call "scalar" s_scalar [(.var 0), (.call "whole_vector" s_whole_vector [(.var 2)]), (.call "whole_vector" s_whole_vector [(.var 2)])]), (.var 4)]) [] false,
  .ifs (.var 3) [.par 1 2 (.var 2) (.var 1)] []],
  .ifs (.call "less" s_less [(.call "scalar" s_scalar [(.var 0), (.call "whole_vector" s_whole_vector [(.var 1)]), (.call "whole_vector" s_whole_vector [(.var 2)])]), (.glob "ZERO" (.tup [(.int 0), (.int 1)]))]) [.asg 2 (.tup [(.neg (.ix (.var 2) (.int 0))), (.neg (.ix (.var 2) (.int 1)))]) [] false] [],
  .ret (.tup [(.var 1), (.var 2)]) true]
def n__law_reverse : List PySem.Str := ["matrix", "sign"]
def c__law_reverse (s__law_det : Spec) : List CS := [.asg 1 (.call "_law_det" s__law_det [(.var 0)]) [] false,
  .ret (.tup [(.bin .mul (.var 1) (.ix (.var 0) (.int 3))), (.bin .sub (.int 0) (.bin .mul (.var 1) (.ix (.var 0) (.int 1)))), (.bin .sub (.int 0) (.bin .mul (.var 1) (.ix (.var 0) (.int 2)))), (.bin .mul (.var 1) (.ix (.var 0) (.int 0)))]) true]
def n__law_wide_cell : List PySem.Str := ["numbers", "cell", "f"]
def c__law_wide_cell (s__law_short_cell : Spec) (s__law_mul : Spec) : List CS := [.asg 1 (.call "_law_short_cell" s__law_short_cell [(.var 0)]) [] false,
  .ifs (.cmp .gt (.bin .mod (.ix (.var 0) (.int 6)) (.int 3)) (.int 0)) [.ret (.var 1) true] [],
  .ret (.blt .tuple_ [(.lc (.nm 2) (.var 1) [] (.call "_law_mul" s__law_mul [(.var 2), (.tup [(.bin .add (.int 1) (.bin .mul (.ix (.var 0) (.int 7)) (.int 5))), (.int 1)])]))]) true]
def n__law_long_axes : List PySem.Str := ["cell", "numbers", "matrix", "k", "part", "longer", "f"]
def c__law_long_axes (s__law_product : Spec) (s__law_other_cell : Spec) (s__law_reverse : Spec) : List CS := [.asg 2 (.tup [(.int 1), (.int 0), (.int 0), (.int 1)]) [] false,
  .for_ (.nm 3) (.rng [(.bin .mod (.ix (.var 1) (.int 0)) (.int 17))]) [] [.asg 4 (.ix (.lst [(.bin .sub (.bin .mod (.ix (.var 1) (.bin .add (.int 2) (.var 3))) (.int 13)) (.int 6)), (.bin .add (.int 1) (.bin .mod (.ix (.var 1) (.bin .add (.int 2) (.var 3))) (.int 2))), (.bin .sub (.int 2) (.bin .mod (.ix (.var 1) (.bin .add (.int 2) (.var 3))) (.int 4)))]) (.bin .mod (.ix (.var 1) (.int 1)) (.int 3))) [] false,
  .asg 5 (.call "_law_product" s__law_product [(.var 2), (.tup [(.var 4), (.int 1), (.int 1), (.int 0)])]) [] false,
  .ifs (.cmp .ne (.lc (.nm 6) (.call "_law_other_cell" s__law_other_cell [(.var 0), (.call "_law_reverse" s__law_reverse [(.var 5)])]) [(.cmp .gt (.blt .abs [(.ix (.var 6) (.int 0))]) (.bin .pow (.int 10) (.int 6)))] (.var 6)) (.lst [])) [.brk] [],
  .asg 2 (.var 5) [5] true],
  .ret (.var 2) false]
def n__law_is_integer : List PySem.Str := ["n"]
def c__law_is_integer : List CS := [.ret (.and [(.isi (.var 0) .int), (.not (.isi (.var 0) .bl))]) false]
def n_law_k17 : List PySem.Str := ["script", "k", "numbers", "short", "matrix", "told", "cell", "f", "g", "n"]
def c_law_k17 (s__law_numbers : Spec) (s__law_cell : Spec) (s__law_wide_cell : Spec) (s__law_long_axes : Spec) (s_reduced_basis : Spec) (s__law_other_cell : Spec) (s__law_reverse : Spec) (s__law_is_integer : Spec) (s__law_det : Spec) (s__law_cell_of : Spec) (s__law_vector : Spec) : List CS := [.for_ (.nm 1) (.rng [(.int 12)]) [] [.asg 2 (.call "_law_numbers" s__law_numbers [(.bin .add (.call "_law_cell" s__law_cell [(.var 0), (.var 1)]) (.var 1)), (.int 26)]) [] false,
  .asg 3 (.call "_law_wide_cell" s__law_wide_cell [(.var 2)]) [2] true,
  .asg 4 (.call "_law_long_axes" s__law_long_axes [(.var 3), (.sl (.var 2) (.int 8) .nop)]) [3] true,
  .asg 5 (.call "reduced_basis" s_reduced_basis [(.call "_law_other_cell" s__law_other_cell [(.var 3), (.call "_law_reverse" s__law_reverse [(.var 4)])])]) [4] true,
  .ifs (.or [(.not (.isi (.var 5) .tup)), (.cmp .ne (.blt .len [(.var 5)]) (.int 2))]) [.ret (.bl false) true] [],
  .asgT (.tp [(.nm 7), (.nm 8)]) (.var 5) [5] true,
  .ifs (.or [(.not (.isi (.var 7) .tup)), (.not (.isi (.var 8) .tup)), (.cmp .ne (.blt .len [(.var 7)]) (.int 2)), (.cmp .ne (.blt .len [(.var 8)]) (.int 2))]) [.ret (.bl false) true] [],
  .ifs (.or [(.cmp .ne (.lc (.nm 9) (.bin .add (.var 7) (.var 8)) [(.not (.call "_law_is_integer" s__law_is_integer [(.var 9)]))] (.var 9)) (.lst [])), (.mem true (.call "_law_det" s__law_det [(.tup [(.ix (.var 7) (.int 0)), (.ix (.var 8) (.int 0)), (.ix (.var 7) (.int 1)), (.ix (.var 8) (.int 1))])]) (.lst [(.int 1), (.neg (.int 1))]))]) [.ret (.bl false) true] [],
  .asg 6 (.call "_law_other_cell" s__law_other_cell [(.var 3), (.call "_law_reverse" s__law_reverse [(.var 4)])]) [] false,
  .ifs (.cmp .ne (.call "_law_cell_of" s__law_cell_of [(.var 6), (.call "_law_vector" s__law_vector [(.ix (.var 7) (.int 0)), (.ix (.var 7) (.int 1))]), (.call "_law_vector" s__law_vector [(.ix (.var 8) (.int 0)), (.ix (.var 8) (.int 1))])]) (.var 3)) [.ret (.bl false) true] []],
  .ret (.bl true) true]
def n_in_cell : List PySem.Str := ["cell", "f", "g"]
def c_in_cell (s_scalar : Spec) : List CS := [.ret (.tup [(.call "scalar" s_scalar [(.var 0), (.var 1), (.var 1)]), (.call "scalar" s_scalar [(.var 0), (.var 1), (.var 2)]), (.call "scalar" s_scalar [(.var 0), (.var 2), (.var 2)])]) true]
def n_same_lengths : List PySem.Str := ["cell", "wanted", "vectors", "firsts", "seconds", "found", "one", "first", "vector", "entry", "two", "second"]
def c_same_lengths (s_whole_vector : Spec) (s_scalar : Spec) : List CS := [.asg 2 (.lc (.nm 8) (.glob "STEPS" (.tup [(.tup [(.int 1), (.int 0)]), (.tup [(.int 0), (.int 1)]), (.tup [(.int 1), (.int 1)]), (.tup [(.int 1), (.int (-1))]), (.tup [(.int (-1)), (.int 1)]), (.tup [(.int (-1)), (.int 0)]), (.tup [(.int 0), (.int (-1))]), (.tup [(.int (-1)), (.int (-1))])])) [] (.tup [(.var 8), (.call "whole_vector" s_whole_vector [(.var 8)])])) [] false,
  .asg 3 (.lc (.nm 9) (.var 2) [(.cmp .eq (.call "scalar" s_scalar [(.var 0), (.ix (.var 9) (.int 1)), (.ix (.var 9) (.int 1))]) (.ix (.var 1) (.int 0)))] (.var 9)) [2] true,
  .asg 4 (.lc (.nm 9) (.var 2) [(.cmp .eq (.call "scalar" s_scalar [(.var 0), (.ix (.var 9) (.int 1)), (.ix (.var 9) (.int 1))]) (.ix (.var 1) (.int 2)))] (.var 9)) [] false,
  .asg 5 (.lst []) [] false,
  .for_ (.tp [(.nm 6), (.nm 7)]) (.var 3) [3] [.for_ (.tp [(.nm 10), (.nm 11)]) (.var 4) [4] [.ifs (.and [(.cmp .ne (.bin .mul (.ix (.var 6) (.int 0)) (.ix (.var 10) (.int 1))) (.bin .mul (.ix (.var 6) (.int 1)) (.ix (.var 10) (.int 0)))), (.cmp .eq (.call "scalar" s_scalar [(.var 0), (.var 7), (.var 11)]) (.ix (.var 1) (.int 1)))]) [.app 5 (.tup [(.var 6), (.var 10)]) [] false] []]],
  .ret (.var 5) true]
def n_keeping : List PySem.Str := ["cell", "basis", "short", "found", "f", "g", "one", "two", "inner"]
def c_keeping (s_reduced_basis : Spec) (s_in_cell : Spec) (s_whole_vector : Spec) (s_product : Spec) (s_reverse_matrix : Spec) (s_same_lengths : Spec) : List CS := [.asgT (.tp [(.nm 4), (.nm 5)]) (.call "reduced_basis" s_reduced_basis [(.var 0)]) [] false,
  .asg 1 (.tup [(.ix (.var 4) (.int 0)), (.ix (.var 5) (.int 0)), (.ix (.var 4) (.int 1)), (.ix (.var 5) (.int 1))]) [] false,
  .asg 2 (.call "in_cell" s_in_cell [(.var 0), (.call "whole_vector" s_whole_vector [(.var 4)]), (.call "whole_vector" s_whole_vector [(.var 5)])]) [] false,
  .asg 3 (.lst []) [] false,
  .for_ (.tp [(.nm 6), (.nm 7)]) (.call "same_lengths" s_same_lengths [(.var 2), (.var 2)]) [2] [.asg 8 (.call "product" s_product [(.call "reverse_matrix" s_reverse_matrix [(.var 1)]), (.tup [(.ix (.var 6) (.int 0)), (.ix (.var 7) (.int 0)), (.ix (.var 6) (.int 1)), (.ix (.var 7) (.int 1))])]) [] false,
  .app 3 (.call "product" s_product [(.var 8), (.var 1)]) [8] true],
  .ret (.blt .sorted_ [(.var 3)]) true]
def n__law_small_matrices : List PySem.Str := ["found", "k", "matrix"]
def c__law_small_matrices (s__law_det : Spec) : List CS := [.asg 0 (.lst []) [] false,
  .for_ (.nm 1) (.rng [(.int 81)]) [] [.asg 2 (.tup [(.bin .sub (.bin .mod (.var 1) (.int 3)) (.int 1)), (.bin .sub (.bin .mod (.bin .fdiv (.var 1) (.int 3)) (.int 3)) (.int 1)), (.bin .sub (.bin .mod (.bin .fdiv (.var 1) (.int 9)) (.int 3)) (.int 1)), (.bin .sub (.bin .fdiv (.var 1) (.int 27)) (.int 1))]) [] false,
  .ifs (.mem false (.call "_law_det" s__law_det [(.var 2)]) (.lst [(.int 1), (.neg (.int 1))])) [.app 0 (.var 2) [] false] []],
  .ret (.var 0) true]
def n__law_keepers : List PySem.Str := ["cell", "matrix"]
def c__law_keepers (s__law_small_matrices : Spec) (s__law_other_cell : Spec) : List CS := [.ret (.lc (.nm 1) (.call "_law_small_matrices" s__law_small_matrices []) [(.cmp .eq (.call "_law_other_cell" s__law_other_cell [(.var 0), (.var 1)]) (.var 0))] (.var 1)) true]
def n_law_k18 : List PySem.Str := ["script", "k", "numbers", "short", "matrix", "cell", "due", "m", "told"]
def c_law_k18 (s__law_numbers : Spec) (s__law_cell : Spec) (s__law_wide_cell : Spec) (s__law_long_axes : Spec) (s__law_other_cell : Spec) (s__law_reverse : Spec) (s__law_product : Spec) (s__law_keepers : Spec) (s_keeping : Spec) (s__law_same : Spec) : List CS := [.for_ (.nm 1) (.rng [(.int 8)]) [] [.asg 2 (.call "_law_numbers" s__law_numbers [(.bin .add (.call "_law_cell" s__law_cell [(.var 0), (.var 1)]) (.var 1)), (.int 26)]) [] false,
  .asg 3 (.call "_law_wide_cell" s__law_wide_cell [(.var 2)]) [2] true,
  .asg 4 (.call "_law_long_axes" s__law_long_axes [(.var 3), (.sl (.var 2) (.int 8) .nop)]) [3] true,
  .asg 5 (.call "_law_other_cell" s__law_other_cell [(.var 3), (.call "_law_reverse" s__law_reverse [(.var 4)])]) [4] true,
  .asg 6 (.lst []) [] false,
  .for_ (.nm 7) (.call "_law_keepers" s__law_keepers [(.var 3)]) [] [.app 6 (.call "_law_product" s__law_product [(.call "_law_product" s__law_product [(.call "_law_reverse" s__law_reverse [(.var 4)]), (.var 7)]), (.var 4)]) [] false],
  .asg 6 (.blt .sorted_ [(.var 6)]) [6] false,
  .asg 8 (.call "keeping" s_keeping [(.var 5)]) [5] true,
  .ifs (.or [(.not (.call "_law_same" s__law_same [(.var 8), (.var 6)])), (.mem true (.blt .len [(.var 6)]) (.lst [(.int 2), (.int 4), (.int 8), (.int 12)]))]) [.ret (.bl false) true] [],
  .for_ (.nm 7) (.var 6) [6] [.ifs (.cmp .ne (.call "_law_other_cell" s__law_other_cell [(.var 5), (.var 7)]) (.var 5)) [.ret (.bl false) true] []],
  .clr 8,
  .ifs (.not (.call "_law_same" s__law_same [(.call "keeping" s_keeping [(.var 5)]), (.var 6)])) [.ret (.bl false) true] []],
  .ret (.bl true) true]
def n_cost : List PySem.Str := ["signature", "result", "n", "turning", "corners", "rims", "twists", "rings"]
def c_cost (s_fraction_1 : Spec) (s_plus : Spec) (s_fraction : Spec) : List CS := [.asgT (.tp [(.nm 3), (.nm 4), (.nm 5), (.nm 6), (.nm 7)]) (.var 0) [] false,
  .asg 1 (.call "fraction" s_fraction_1 [(.bin .add (.bin .add (.var 5) (.var 6)) (.bin .mul (.int 2) (.var 7)))]) [] false,
  .for_ (.nm 2) (.var 3) [] [.asg 1 (.call "plus" s_plus [(.var 1), (.call "fraction" s_fraction [(.bin .sub (.var 2) (.int 1)), (.var 2)])]) [1] false],
  .for_ (.nm 2) (.var 4) [] [.asg 1 (.call "plus" s_plus [(.var 1), (.call "fraction" s_fraction [(.bin .sub (.var 2) (.int 1)), (.bin .mul (.int 2) (.var 2))])]) [1] false],
  .ret (.var 1) true]
def n_ascending_rows : List PySem.Str := ["length", "least", "most", "rows", "last", "_", "row", "n"]
def c_ascending_rows : List CS := [.asg 3 (.lst [(.tup [])]) [] false,
  .asg 4 (.lst [(.tup [])]) [] false,
  .for_ (.nm 5) (.rng [(.var 0)]) [] [.asg 4 (.lc2 (.nm 6) (.var 4) (.nm 7) (.rng [(.var 1), (.bin .add (.var 2) (.int 1))]) [(.or [(.cmp .eq (.var 6) (.tup [])), (.cmp .le (.ix (.var 6) (.neg (.int 1))) (.var 7))])] (.bin .add (.var 6) (.tup [(.var 7)]))) [4] true,
  .ext 3 4],
  .ret (.var 3) true]
def n_all_signatures : List PySem.Str := ["rows", "found", "turning", "price", "row", "entry", "corners", "double", "rims", "missing", "n"]
def c_all_signatures (s_ascending_rows : Spec) : List CS := [.asg 0 (.lc (.nm 4) (.call "ascending_rows" s_ascending_rows [(.int 4), (.int 2), (.int 6)]) [] (.tup [(.var 4), (.blt .sum_ [(.lc (.nm 10) (.var 4) [] (.bin .fdiv (.bin .mul (.glob "UNIT" (.int 120)) (.bin .sub (.var 10) (.int 1))) (.var 10)))])])) [] false,
  .asg 0 (.lc (.nm 5) (.var 0) [(.cmp .le (.ix (.var 5) (.int 1)) (.bin .mul (.int 2) (.glob "UNIT" (.int 120))))] (.var 5)) [0] true,
  .asg 1 (.lst []) [] false,
  .for_ (.tp [(.nm 2), (.nm 3)]) (.var 0) [0] [.for_ (.tp [(.nm 6), (.nm 7)]) (.var 0) [] [.for_ (.nm 8) (.rng [(.int 3)]) [] [.asg 9 (.bin .sub (.bin .sub (.bin .sub (.bin .mul (.int 2) (.glob "UNIT" (.int 120))) (.var 3)) (.bin .fdiv (.var 7) (.int 2))) (.bin .mul (.var 8) (.glob "UNIT" (.int 120)))) [] false,
  .ifs (.and [(.cmp .ge (.var 9) (.int 0)), (.cmp .eq (.bin .mod (.var 9) (.glob "UNIT" (.int 120))) (.int 0)), (.or [(.cmp .gt (.var 8) (.int 0)), (.cmp .eq (.var 6) (.tup []))])]) [.app 1 (.tup [(.var 2), (.var 6), (.var 8), (.bin .fdiv (.var 9) (.glob "UNIT" (.int 120))), (.int 0)]) [] false,
  .ifs (.cmp .eq (.var 9) (.bin .mul (.int 2) (.glob "UNIT" (.int 120)))) [.app 1 (.tup [(.var 2), (.var 6), (.var 8), (.int 0), (.int 1)]) [] false] []] []]]],
  .ret (.blt .sorted_ [(.var 1)]) true]
def n__law_price : List PySem.Str := ["turning", "corners", "total", "n"]
def c__law_price (s__law_add : Spec) (s__law_frac : Spec) : List CS := [.asg 2 (.tup [(.int 0), (.int 1)]) [] false,
  .for_ (.nm 3) (.var 0) [] [.asg 2 (.call "_law_add" s__law_add [(.var 2), (.call "_law_frac" s__law_frac [(.bin .sub (.var 3) (.int 1)), (.var 3)])]) [] false],
  .for_ (.nm 3) (.var 1) [] [.asg 2 (.call "_law_add" s__law_add [(.var 2), (.call "_law_frac" s__law_frac [(.bin .sub (.var 3) (.int 1)), (.bin .mul (.int 2) (.var 3))])]) [] false],
  .ret (.var 2) false]
def n__law_rows : List PySem.Str := ["rows", "last", "k", "longer", "row", "price", "n", "total"]
def c__law_rows : List CS := [.asg 0 (.lst [(.tup [(.tup []), (.int 0)])]) [] false,
  .asg 1 (.lst [(.tup [(.tup []), (.int 0)])]) [] false,
  .for_ (.nm 2) (.rng [(.int 4)]) [] [.asg 3 (.lst []) [] false,
  .for_ (.tp [(.nm 4), (.nm 5)]) (.blt .list_ [(.var 1)]) [1] [.for_ (.nm 6) (.rng [(.int 2), (.int 13)]) [] [.ifs (.or [(.cmp .eq (.var 4) (.tup [])), (.cmp .le (.ix (.var 4) (.neg (.int 1))) (.var 6))]) [.asg 7 (.bin .add (.var 5) (.bin .fdiv (.bin .mul (.int 27720) (.bin .sub (.var 6) (.int 1))) (.var 6))) [] false,
  .ifs (.cmp .le (.var 7) (.bin .mul (.int 2) (.int 27720))) [.app 3 (.tup [(.bin .add (.var 4) (.tup [(.var 6)])), (.var 7)]) [] false] []] []]],
  .asg 1 (.var 3) [3] true,
  .asg 0 (.cat (.var 0) (.var 1)) [0] false],
  .ret (.var 0) true]
def n__law_all : List PySem.Str := ["found", "rows", "turning", "price", "corners", "double", "rims", "missing", "twists"]
def c__law_all (s__law_rows : Spec) : List CS := [.asg 0 (.lst []) [] false,
  .asg 1 (.call "_law_rows" s__law_rows []) [] false,
  .for_ (.tp [(.nm 2), (.nm 3)]) (.var 1) [1] [.for_ (.tp [(.nm 4), (.nm 5)]) (.var 1) [] [.ifs (.cmp .le (.bin .add (.bin .mul (.var 3) (.int 2)) (.var 5)) (.bin .mul (.int 4) (.int 27720))) [.for_ (.nm 6) (.rng [(.int 3)]) [] [.asg 7 (.bin .sub (.bin .sub (.bin .sub (.bin .mul (.int 4) (.int 27720)) (.bin .mul (.var 3) (.int 2))) (.var 5)) (.bin .mul (.bin .mul (.var 6) (.int 2)) (.int 27720))) [] false,
  .ifs (.and [(.cmp .ge (.var 7) (.int 0)), (.cmp .eq (.bin .mod (.var 7) (.bin .mul (.int 2) (.int 27720))) (.int 0)), (.or [(.cmp .gt (.var 6) (.int 0)), (.cmp .eq (.var 4) (.tup []))])]) [.asg 8 (.bin .fdiv (.var 7) (.bin .mul (.int 2) (.int 27720))) [] false,
  .app 0 (.tup [(.var 2), (.var 4), (.var 6), (.var 8), (.int 0)]) [] false,
  .ifs (.cmp .eq (.var 8) (.int 2)) [.app 0 (.tup [(.var 2), (.var 4), (.var 6), (.int 0), (.int 1)]) [] false] []] []]] []]],
  .ret (.blt .sorted_ [(.var 0)]) true]
def n_law_k09 : List PySem.Str := ["script", "k", "due", "told", "numbers", "turning", "corners", "rims", "twists", "rings", "n"]
def c_law_k09 (s__law_numbers : Spec) (s__law_cell : Spec) (s__law_add : Spec) (s__law_price : Spec) (s__law_same : Spec) (s_cost : Spec) (s__law_all : Spec) (s_all_signatures : Spec) : List CS := [.for_ (.nm 1) (.rng [(.int 8)]) [] [.asg 4 (.call "_law_numbers" s__law_numbers [(.bin .add (.call "_law_cell" s__law_cell [(.var 0), (.var 1)]) (.var 1)), (.int 14)]) [] false,
  .asg 5 (.blt .tuple_ [(.blt .sorted_ [(.lc (.nm 10) (.sl (.var 4) .nop (.bin .mod (.ix (.var 4) (.int 10)) (.int 5))) [] (.bin .add (.int 2) (.bin .mod (.var 10) (.int 59))))])]) [4] true,
  .asg 6 (.blt .tuple_ [(.blt .sorted_ [(.lc (.nm 10) (.sl (.var 4) (.int 5) (.bin .add (.int 5) (.bin .mod (.ix (.var 4) (.int 11)) (.int 5)))) [] (.bin .add (.int 2) (.bin .mod (.var 10) (.int 59))))])]) [] false,
  .asg 7 (.bin .mod (.ix (.var 4) (.int 12)) (.int 10)) [] false,
  .asg 8 (.bin .mod (.ix (.var 4) (.int 13)) (.int 10)) [] false,
  .asg 9 (.bin .mod (.bin .fdiv (.ix (.var 4) (.int 12)) (.int 10)) (.int 10)) [] false,
  .asg 2 (.call "_law_add" s__law_add [(.call "_law_price" s__law_price [(.var 5), (.var 6)]), (.tup [(.bin .add (.bin .add (.var 7) (.var 8)) (.bin .mul (.int 2) (.var 9))), (.int 1)])]) [] false,
  .ifs (.not (.call "_law_same" s__law_same [(.call "cost" s_cost [(.tup [(.var 5), (.var 6), (.var 7), (.var 8), (.var 9)])]), (.var 2)])) [.ret (.bl false) true] []],
  .asg 2 (.call "_law_all" s__law_all []) [] false,
  .asg 3 (.call "all_signatures" s_all_signatures []) [] false,
  .ifs (.or [(.cmp .ne (.blt .len [(.var 2)]) (.int 17)), (.not (.call "_law_same" s__law_same [(.var 3), (.var 2)]))]) [.ret (.bl false) true] [],
  .clr 3,
  .ret (.call "_law_same" s__law_same [(.call "all_signatures" s_all_signatures []), (.var 2)]) true]
end Dl

/-! DlLib: what the common defs compute: gcd, fractions; in plain Lean. -/
namespace Dl
/-- a spec of a def that lets nothing out: what it asks, what it may answer -/
def Spec.rel (pre : List D → Prop) (R : List D → D → Prop) : Spec := ⟨fun ds Q _ => pre ds ∧ ∀ d, R ds d → Q d, fun _ _ _ _ _ h hq _ => ⟨h.1, fun d r => hq d (h.2 d r)⟩⟩
def Spec.fn (pre : List D → Prop) (f : List D → D) : Spec := ⟨fun ds Q _ => pre ds ∧ Q (f ds), fun _ _ _ _ _ h hq _ => ⟨h.1, hq _ h.2⟩⟩
abbrev fr (n d : Int) : D := .tup [.int n, .int d]
/-- two ints, two fractions, one -/
def onI2 (p : Int → Int → Prop) : List D → Prop
  | [.int a, .int b] => p a b
  | _ => False
def mapI2 (f : Int → Int → D) : List D → D
  | [.int a, .int b] => f a b
  | _ => .non
def onF2 (p : Int → Int → Int → Int → Prop) : List D → Prop
  | [.tup [.int a, .int b], .tup [.int c, .int d]] => p a b c d
  | _ => False
def mapF2 (f : Int → Int → Int → Int → D) : List D → D
  | [.tup [.int a, .int b], .tup [.int c, .int d]] => f a b c d
  | _ => .non
def onF1 (p : Int → Int → Prop) : List D → Prop
  | [.tup [.int a, .int b]] => p a b
  | _ => False
def mapF1 (f : Int → Int → D) : List D → D
  | [.tup [.int a, .int b]] => f a b
  | _ => .non
theorem onI2_elim {p : Int → Int → Prop} {ds : List D} (h : onI2 p ds) : ∃ a b, ds = [.int a, .int b] ∧ p a b := by
  unfold onI2 at h
  split at h
  · exact ⟨_, _, rfl, h⟩
  · exact h.elim
theorem onF2_elim {p : Int → Int → Int → Int → Prop} {ds : List D} (h : onF2 p ds) : ∃ a b c d, ds = [fr a b, fr c d] ∧ p a b c d := by
  unfold onF2 at h
  split at h
  · exact ⟨_, _, _, _, rfl, h⟩
  · exact h.elim
theorem onF1_elim {p : Int → Int → Prop} {ds : List D} (h : onF1 p ds) : ∃ a b, ds = [fr a b] ∧ p a b := by
  unfold onF1 at h
  split at h
  · exact ⟨_, _, rfl, h⟩
  · exact h.elim
/-! ### numbers -/
/-- the divisor with d's sign -/
def sg (n d : Int) : Int := if d < 0 then -(Int.gcd n d : Int) else (Int.gcd n d : Int)
def nfn (n d : Int) : Int := n.fdiv (sg n d)
def nfd (n d : Int) : Int := d.fdiv (sg n d)
theorem sg_abs (n d : Int) : (sg n d).natAbs = Int.gcd n d := by
  unfold sg; split <;> simp
theorem gcd_pos {n d : Int} (h : d ≠ 0) : 0 < Int.gcd n d := by
  rw [Nat.pos_iff_ne_zero]
  intro e
  exact h (Int.gcd_eq_zero_iff.mp e).2
theorem sg_ne {n d : Int} (h : d ≠ 0) : sg n d ≠ 0 := fun e => by
  have h1 := sg_abs n d
  have h2 := gcd_pos (n := n) h
  rw [e, Int.natAbs_zero] at h1
  omega
theorem sg_dvd (n d : Int) : sg n d ∣ n ∧ sg n d ∣ d := by
  have h1 := Int.gcd_dvd_left n d
  have h2 := Int.gcd_dvd_right n d
  unfold sg
  split
  · exact ⟨Int.neg_dvd.mpr h1, Int.neg_dvd.mpr h2⟩
  · exact ⟨h1, h2⟩
theorem nf_all {n d : Int} (h : d ≠ 0) : n = sg n d * nfn n d ∧ d = sg n d * nfd n d ∧ 0 < nfd n d ∧ Int.gcd (nfn n d) (nfd n d) = 1 := by
  obtain ⟨⟨n', e1⟩, ⟨d', e2⟩⟩ := sg_dvd n d
  have hs := sg_ne (n := n) h
  have f1 : nfn n d = n' := by
    unfold nfn
    conv => lhs; arg 1; rw [e1]
    exact Int.mul_fdiv_cancel_left _ hs
  have f2 : nfd n d = d' := by
    unfold nfd
    conv => lhs; arg 1; rw [e2]
    exact Int.mul_fdiv_cancel_left _ hs
  rw [f1, f2]
  refine ⟨e1, e2, ?_, ?_⟩
  · have hp : (0:Int) < (Int.gcd n d : Int) := by have := gcd_pos (n := n) h; omega
    by_cases hd : d < 0
    · have es : sg n d = -(Int.gcd n d : Int) := by unfold sg; rw [if_pos hd]
      rw [es] at e2
      apply Classical.byContradiction
      intro hn
      have : 0 ≤ (Int.gcd n d : Int) * (-d') := Int.mul_nonneg (by omega) (by omega)
      rw [Int.mul_neg, ← Int.neg_mul, ← e2] at this
      omega
    · have es : sg n d = (Int.gcd n d : Int) := by unfold sg; rw [if_neg hd]
      rw [es] at e2
      apply Classical.byContradiction
      intro hn
      have : 0 ≤ (Int.gcd n d : Int) * (-d') := Int.mul_nonneg (by omega) (by omega)
      rw [Int.mul_neg, ← e2] at this
      omega
  · have q : Int.gcd (sg n d * n') (sg n d * d') = (sg n d).natAbs * Int.gcd n' d' := Int.gcd_mul_left ..
    rw [← e1, ← e2, sg_abs] at q
    have hp := gcd_pos (n := n) h
    exact (Nat.eq_of_mul_eq_mul_left hp (by rw [Nat.mul_one]; exact q)).symm
theorem nf_cross {n d : Int} (h : d ≠ 0) : nfn n d * d = n * nfd n d := by
  obtain ⟨e1, e2, _⟩ := nf_all (n := n) h
  generalize sg n d = s at *
  generalize nfn n d = a at *
  generalize nfd n d = b at *
  subst e1 e2
  rw [Int.mul_comm s b, ← Int.mul_assoc, Int.mul_comm a b, Int.mul_comm s a, Int.mul_comm b a, Int.mul_assoc, Int.mul_assoc, Int.mul_comm b s]
theorem nf_le {n d : Int} (h : d ≠ 0) : (nfn n d).natAbs ≤ n.natAbs ∧ (nfd n d).natAbs ≤ d.natAbs := by
  obtain ⟨e1, e2, _⟩ := nf_all (n := n) h
  have hs := sg_ne (n := n) h
  have hp : 1 ≤ (sg n d).natAbs := by omega
  have q1 : n.natAbs = (sg n d).natAbs * (nfn n d).natAbs := by rw [← Int.natAbs_mul, ← e1]
  have q2 : d.natAbs = (sg n d).natAbs * (nfd n d).natAbs := by rw [← Int.natAbs_mul, ← e2]
  rw [q1, q2]
  exact ⟨Nat.le_mul_of_pos_left _ hp, Nat.le_mul_of_pos_left _ hp⟩
/-- already settled -/
theorem nf_id {n d : Int} (h : 0 < d) (g : Int.gcd n d = 1) : nfn n d = n ∧ nfd n d = d := by
  have es : sg n d = 1 := by unfold sg; rw [if_neg (by omega), g]; rfl
  unfold nfn nfd
  rw [es]
  simp
end Dl

/-! DlLib2: the common defs' walks, in plain Lean. -/
namespace Dl
open PySem
def big : Nat := 2 ^ 4000
def sm : Nat := 2 ^ 1900
theorem log2_of {n k : Nat} (h : n < 2 ^ k) (hk : 0 < k) : n.log2 < k := by
  by_cases e : n = 0
  · subst e; simpa using hk
  · exact (Nat.log2_lt e).mpr h
theorem mulOk_sm {x y : Int} (hx : x.natAbs < sm) (hy : y.natAbs < sm) : MulOk x y := by
  have h1 := log2_of (k := 1900) hx (by omega)
  have h2 := log2_of (k := 1900) hy (by omega)
  unfold MulOk
  omega
theorem mul_big {x y : Int} (hx : x.natAbs < sm) (hy : y.natAbs < sm) : (x * y).natAbs < big := by
  rw [Int.natAbs_mul]
  calc x.natAbs * y.natAbs ≤ sm * sm := Nat.mul_le_mul (Nat.le_of_lt hx) (Nat.le_of_lt hy)
    _ = 2 ^ 3800 := by unfold sm; rw [← Nat.pow_add]
    _ < big := Nat.pow_lt_pow_right (by omega) (by omega)
theorem divOk_big {d : Int} (h0 : d ≠ 0) (h : d.natAbs < big) : DivOk d := ⟨h0, by have := log2_of (k := 4000) h (by omega); omega⟩
theorem absI_eq (a : Int) : absI a = (a.natAbs : Int) := by unfold absI; split <;> omega
theorem fmod_nat (x y : Nat) : (x : Int).fmod (y : Int) = ((x % y : Nat) : Int) := by
  rw [Int.fmod_eq_emod_of_nonneg _ (by omega)]
  rfl
/-! ### gcd -/
def spGcd : Spec := .fn (onI2 fun _ _ => True) (mapI2 fun a b => .int (Int.gcd a b))
theorem p_common_divisor (ds : List D) (Q : D → Prop) (E : Xn → Prop) (h : spGcd.run ds Q E) : wpDef n_common_divisor.length c_common_divisor ds Q E := by
  obtain ⟨h1, h⟩ := h
  obtain ⟨a, b, rfl, _⟩ := onI2_elim h1
  replace h : Q (.int (Int.gcd a b)) := h
  simp [wpDef, c_common_divisor, n_common_divisor, start]
  refine wS_whl (fun ρ => ∃ x y : Nat, ρ = [some (.int x), some (.int y)] ∧ Nat.gcd x y = Int.gcd a b) (fun ρ => match ρ with | [_, some (.int y)] => y.natAbs | _ => 0) ⟨a.natAbs, b.natAbs, by simp [absI_eq], rfl⟩ ?_
  rintro ρ ⟨x, y, rfl, hg⟩
  simp
  split
  · rename_i hy
    refine ⟨by omega, ⟨y, x % y, ⟨rfl, fmod_nat x y⟩, ?_⟩, ?_⟩
    · rw [← hg, Nat.gcd_comm x y, Nat.gcd_rec y x, Nat.gcd_comm]
    · rw [fmod_nat]
      exact Nat.mod_lt _ hy
  · rename_i hy
    have e : y = 0 := by omega
    subst e
    rw [Nat.gcd_zero_right] at hg
    rw [hg]
    exact h
def spLGcd : Spec := .fn (onI2 fun _ b => b.natAbs < big) (mapI2 fun a b => .int (Int.gcd a b))
theorem mod_half {x y : Nat} (h : y < x) (h0 : 0 < y) : 2 * (x % y) < x := by
  have h1 := Nat.mod_lt x h0
  have h2 := Nat.div_add_mod x y
  have h3 : 1 ≤ x / y := (Nat.one_le_div_iff h0).mpr (by omega)
  have h4 : y * 1 ≤ y * (x / y) := Nat.mul_le_mul_left y h3
  omega
def inv_gcd (a b : Int) (i : Nat) (ρ : DEnv) : Prop := ∃ (x y n : Nat) (o1 o2 : Option D), ρ = [some (.int x), some (.int y), o1, o2] ∧ Nat.gcd x y = Int.gcd a b ∧ ((y < 2 ^ n ∧ i + 2 * n ≤ 8000) ∨ (y < x ∧ x < 2 ^ n ∧ i + 2 * n ≤ 8001))
theorem p__law_gcd (ds : List D) (Q : D → Prop) (E : Xn → Prop) (h : spLGcd.run ds Q E) : wpDef n__law_gcd.length c__law_gcd ds Q E := by
  obtain ⟨h1, h⟩ := h
  obtain ⟨a, b, rfl, hb⟩ := onI2_elim h1
  replace h : Q (.int (Int.gcd a b)) := h
  simp [wpDef, c__law_gcd, n__law_gcd, start]
  refine wS_for (inv_gcd a b) ?_
  simp
  refine ⟨⟨a.natAbs, b.natAbs, 4000, none, none, by simp [absI_eq], rfl, .inl ⟨hb, by omega⟩⟩, ?_, ?_⟩
  · rintro i d ρ hi ⟨x, y, n, o1, o2, rfl, hg, hinv⟩
    simp
    split
    · rename_i hy
      subst hy
      rw [Nat.gcd_zero_right] at hg
      rw [hg]
      exact h
    · rename_i hy
      rw [fmod_nat]
      refine ⟨hy, ?_⟩
      have g1 : Nat.gcd y (x % y) = Int.gcd a b := by rw [← hg, Nat.gcd_comm x y, Nat.gcd_rec y x, Nat.gcd_comm]
      have l1 := Nat.mod_lt x (show 0 < y by omega)
      rcases hinv with ⟨h1, h2⟩ | ⟨h1, h2, h3⟩
      · exact ⟨y, x % y, n, _, _, rfl, g1, .inr ⟨l1, h1, by omega⟩⟩
      · obtain ⟨m, rfl⟩ : ∃ m, n = m + 1 := ⟨n - 1, by
          cases n with
          | zero => simp at h2; omega
          | succ m => rfl⟩
        have l2 := mod_half h1 (show 0 < y by omega)
        rw [Nat.pow_succ] at h2
        exact ⟨y, x % y, m, _, _, rfl, g1, .inl ⟨by omega, by omega⟩⟩
  · rintro ρ ⟨x, y, n, o1, o2, rfl, hg, hinv⟩
    rw [rng_len] at hinv
    omega
/-! ### fractions -/
def okFr (n d : Int) : Prop := d ≠ 0 ∧ d.natAbs < big
def spFr : Spec := .fn (onI2 okFr) (mapI2 fun n d => fr (nfn n d) (nfd n d))
theorem sg_big {n d : Int} (h : okFr n d) : DivOk (sg n d) := by
  refine divOk_big (sg_ne h.1) ?_
  rw [sg_abs]
  refine Nat.lt_of_le_of_lt ?_ h.2
  exact Nat.le_of_dvd (by have := h.1; omega) (by have := Int.natAbs_dvd_natAbs.mpr (Int.gcd_dvd_right n d); simpa using this)
theorem p_fraction (ds : List D) (Q : D → Prop) (E : Xn → Prop) (h : spFr.run ds Q E) : wpDef n_fraction.length (c_fraction spGcd) ds Q E := by
  obtain ⟨h1, h⟩ := h
  obtain ⟨n, d, rfl, hb⟩ := onI2_elim h1
  replace h : Q (fr (nfn n d) (nfd n d)) := h
  have hs := sg_big hb
  simp [wpDef, c_fraction, n_fraction, start]
  refine ⟨trivial, ?_⟩
  simp [mapI2]
  unfold nfn nfd at h
  unfold sg at hs h
  split
  · rename_i hd
    rw [if_pos hd] at hs h
    exact ⟨hs, h⟩
  · rename_i hd
    rw [if_neg hd] at hs h
    exact ⟨hs, h⟩
theorem p__law_frac (ds : List D) (Q : D → Prop) (E : Xn → Prop) (h : spFr.run ds Q E) : wpDef n__law_frac.length (c__law_frac spLGcd) ds Q E := by
  obtain ⟨h1, h⟩ := h
  obtain ⟨n, d, rfl, hb⟩ := onI2_elim h1
  replace h : Q (fr (nfn n d) (nfd n d)) := h
  have hs := sg_big hb
  simp [wpDef, c__law_frac, n__law_frac, start]
  refine ⟨hb.2, ?_⟩
  simp [mapI2]
  unfold nfn nfd at h
  unfold sg at hs h
  split
  · rename_i hd
    rw [if_pos hd] at hs h
    exact ⟨hs, h⟩
  · rename_i hd
    rw [if_neg hd] at hs h
    exact ⟨hs, h⟩
def ok4 (a b c d : Int) : Prop := b ≠ 0 ∧ d ≠ 0 ∧ a.natAbs < sm ∧ b.natAbs < sm ∧ c.natAbs < sm ∧ d.natAbs < sm
theorem okFr_mul {b d n : Int} (h1 : b ≠ 0) (h2 : d ≠ 0) (h3 : b.natAbs < sm) (h4 : d.natAbs < sm)  : onI2 okFr [.int n, .int (b * d)] := ⟨Int.mul_ne_zero h1 h2, mul_big h3 h4⟩
def addF (a b c d : Int) : D := fr (nfn (a * d + c * b) (b * d)) (nfd (a * d + c * b) (b * d))
def subFr (a b c d : Int) : D := fr (nfn (a * d - c * b) (b * d)) (nfd (a * d - c * b) (b * d))
def mulF (a b c d : Int) : D := fr (nfn (a * c) (b * d)) (nfd (a * c) (b * d))
def spAdd : Spec := .fn (onF2 ok4) (mapF2 addF)
def spSub : Spec := .fn (onF2 ok4) (mapF2 subFr)
def spMul : Spec := .fn (onF2 ok4) (mapF2 mulF)
def spLess : Spec := .fn (onF2 ok4) (mapF2 fun a b c d => .bl (decide (a * d < c * b)))
def spRest : Spec := .fn (onF1 fun _ b => b ≠ 0) (mapF1 fun a b => fr (a.fmod b) b)
theorem p_plus (ds : List D) (Q : D → Prop) (E : Xn → Prop) (h : spAdd.run ds Q E) : wpDef n_plus.length (c_plus spFr) ds Q E := by
  obtain ⟨h1, h⟩ := h
  obtain ⟨a, b, c, d, rfl, h1, h2, h3, h4, h5, h6⟩ := onF2_elim h1
  simp [wpDef, c_plus, n_plus, start]
  exact ⟨mulOk_sm h3 h6, mulOk_sm h5 h4, mulOk_sm h4 h6, ⟨okFr_mul h1 h2 h4 h6, h⟩⟩
theorem p__law_add (ds : List D) (Q : D → Prop) (E : Xn → Prop) (h : spAdd.run ds Q E) : wpDef n__law_add.length (c__law_add spFr) ds Q E := by
  obtain ⟨h1, h⟩ := h
  obtain ⟨a, b, c, d, rfl, h1, h2, h3, h4, h5, h6⟩ := onF2_elim h1
  simp [wpDef, c__law_add, n__law_add, start]
  exact ⟨mulOk_sm h3 h6, mulOk_sm h5 h4, mulOk_sm h4 h6, ⟨okFr_mul h1 h2 h4 h6, h⟩⟩
theorem p_minus (ds : List D) (Q : D → Prop) (E : Xn → Prop) (h : spSub.run ds Q E) : wpDef n_minus.length (c_minus spFr) ds Q E := by
  obtain ⟨h1, h⟩ := h
  obtain ⟨a, b, c, d, rfl, h1, h2, h3, h4, h5, h6⟩ := onF2_elim h1
  simp [wpDef, c_minus, n_minus, start]
  exact ⟨mulOk_sm h3 h6, mulOk_sm h5 h4, mulOk_sm h4 h6, ⟨okFr_mul h1 h2 h4 h6, h⟩⟩
theorem p__law_sub (ds : List D) (Q : D → Prop) (E : Xn → Prop) (h : spSub.run ds Q E) : wpDef n__law_sub.length (c__law_sub spFr) ds Q E := by
  obtain ⟨h1, h⟩ := h
  obtain ⟨a, b, c, d, rfl, h1, h2, h3, h4, h5, h6⟩ := onF2_elim h1
  simp [wpDef, c__law_sub, n__law_sub, start]
  exact ⟨mulOk_sm h3 h6, mulOk_sm h5 h4, mulOk_sm h4 h6, ⟨okFr_mul h1 h2 h4 h6, h⟩⟩
theorem p_times (ds : List D) (Q : D → Prop) (E : Xn → Prop) (h : spMul.run ds Q E) : wpDef n_times.length (c_times spFr) ds Q E := by
  obtain ⟨h1, h⟩ := h
  obtain ⟨a, b, c, d, rfl, h1, h2, h3, h4, h5, h6⟩ := onF2_elim h1
  simp [wpDef, c_times, n_times, start]
  exact ⟨mulOk_sm h3 h5, mulOk_sm h4 h6, ⟨okFr_mul h1 h2 h4 h6, h⟩⟩
theorem p__law_mul (ds : List D) (Q : D → Prop) (E : Xn → Prop) (h : spMul.run ds Q E) : wpDef n__law_mul.length (c__law_mul spFr) ds Q E := by
  obtain ⟨h1, h⟩ := h
  obtain ⟨a, b, c, d, rfl, h1, h2, h3, h4, h5, h6⟩ := onF2_elim h1
  simp [wpDef, c__law_mul, n__law_mul, start]
  exact ⟨mulOk_sm h3 h5, mulOk_sm h4 h6, ⟨okFr_mul h1 h2 h4 h6, h⟩⟩
theorem p_less (ds : List D) (Q : D → Prop) (E : Xn → Prop) (h : spLess.run ds Q E) : wpDef n_less.length c_less ds Q E := by
  obtain ⟨h1, h⟩ := h
  obtain ⟨a, b, c, d, rfl, h1, h2, h3, h4, h5, h6⟩ := onF2_elim h1
  simp [wpDef, c_less, n_less, start]
  exact ⟨mulOk_sm h3 h6, mulOk_sm h5 h4, h⟩
theorem p__law_less (ds : List D) (Q : D → Prop) (E : Xn → Prop) (h : spLess.run ds Q E) : wpDef n__law_less.length c__law_less ds Q E := by
  obtain ⟨h1, h⟩ := h
  obtain ⟨a, b, c, d, rfl, h1, h2, h3, h4, h5, h6⟩ := onF2_elim h1
  simp [wpDef, c__law_less, n__law_less, start]
  exact ⟨mulOk_sm h3 h6, mulOk_sm h5 h4, h⟩
theorem p_rest (ds : List D) (Q : D → Prop) (E : Xn → Prop) (h : spRest.run ds Q E) : wpDef n_rest.length c_rest ds Q E := by
  obtain ⟨h1, h⟩ := h
  obtain ⟨a, b, rfl, h1⟩ := onF1_elim h1
  simp [wpDef, c_rest, n_rest, start]
  exact ⟨h1, h⟩
theorem p__law_rest (ds : List D) (Q : D → Prop) (E : Xn → Prop) (h : spRest.run ds Q E) : wpDef n__law_rest.length c__law_rest ds Q E := by
  obtain ⟨h1, h⟩ := h
  obtain ⟨a, b, rfl, h1⟩ := onF1_elim h1
  simp [wpDef, c__law_rest, n__law_rest, start]
  exact ⟨h1, h⟩
def spIsF : Spec := .fn (onF1 fun _ b => b.natAbs < big) (mapF1 fun a b => .bl (decide (0 < b) && decide (Int.gcd a b = 1)))
theorem p__law_is_fraction (ds : List D) (Q : D → Prop) (E : Xn → Prop) (h : spIsF.run ds Q E) : wpDef n__law_is_fraction.length (c__law_is_fraction spLGcd) ds Q E := by
  obtain ⟨h1, h⟩ := h
  obtain ⟨a, b, rfl, h1'⟩ := onF1_elim h1
  simp [wpDef, c__law_is_fraction, n__law_is_fraction, start]
  refine wS_for' ?_
  simp
  split
  · rename_i hb
    refine ⟨h1', ?_⟩
    have e : decide ((a.gcd b : Int) = 1) = decide (a.gcd b = 1) := by rw [decide_eq_decide]; omega
    simp [mapI2, mapF1, hb] at h ⊢
    rw [e]
    exact h
  · rename_i hb
    simp [mapF1, hb] at h
    rw [decide_eq_false hb]
    exact h
/-! ### the drawn numbers -/
def onInts (p : List Int → Int → Prop) (ds : List D) : Prop := ∃ ns k, ds = [.lst (ns.map .int), .int k] ∧ p ns k
def isInt (d : D) : Prop := ∃ i, d = .int i
def spCell : Spec := .rel (onInts fun _ k => 0 ≤ k) fun _ d => isInt d
theorem p__law_cell (ds : List D) (Q : D → Prop) (E : Xn → Prop) (h : spCell.run ds Q E) : wpDef n__law_cell.length c__law_cell ds Q E := by
  obtain ⟨⟨ns, k, rfl, hk⟩, h⟩ := h
  simp [wpDef, c__law_cell, n__law_cell, start]
  split
  · rename_i hl
    obtain ⟨m, rfl⟩ := Int.eq_ofNat_of_zero_le hk
    have hm : m < ns.length := by omega
    rw [at_lit (z := .int ns[m]) (by rw [List.getElem?_map, List.getElem?_eq_getElem hm]; rfl)]
    simp
    exact h _ ⟨_, rfl⟩
  · exact h _ ⟨_, rfl⟩
def onI3 (p : Int → Int → Int → Prop) (ds : List D) : Prop := ∃ a b c, ds = [.int a, .int b, .int c] ∧ p a b c
def th (a : Int) : Prop := 0 ≤ a ∧ a < 1000
def spDrawn : Spec := .rel (onI3 fun a b c => th a ∧ th b ∧ th c) fun _ d => ∃ z, d = .int z ∧ -1000000 ≤ z ∧ z ≤ 1000000
theorem mulOk_lit {x y : Int} (hx : x.natAbs < 2 ^ 64) (hy : y.natAbs < 2 ^ 64) : MulOk x y :=
  mulOk_sm (Nat.lt_of_lt_of_le hx (Nat.pow_le_pow_right (by omega) (by omega))) (Nat.lt_of_lt_of_le hy (Nat.pow_le_pow_right (by omega) (by omega)))
theorem fmod_lt (a : Int) {b : Int} (h : 0 < b) : 0 ≤ a.fmod b ∧ a.fmod b < b := ⟨Int.fmod_nonneg_of_pos _ h, Int.fmod_lt_of_pos _ h⟩
theorem p__law_drawn (ds : List D) (Q : D → Prop) (E : Xn → Prop) (h : spDrawn.run ds Q E) : wpDef n__law_drawn.length c__law_drawn ds Q E := by
  obtain ⟨⟨a, b, c, rfl, ⟨a1, a2⟩, ⟨b1, b2⟩, c1, c2⟩, h⟩ := h
  simp [wpDef, c__law_drawn, n__law_drawn, start]
  refine ⟨mulOk_lit (by omega) (by omega), mulOk_lit (by omega) (by omega), ?_⟩
  obtain ⟨f1, f2⟩ := fmod_lt (a * 1000000 + b * 1000 + c) (b := 2000001) (by omega)
  exact h _ ⟨_, rfl, by omega, by omega⟩
def numsD (n : Nat) (d : D) : Prop := ∃ xs : List Int, xs.length = n ∧ (∀ x ∈ xs, th x) ∧ d = .lst (xs.map .int)
def spNums : Spec := .rel (onI2 fun _ n => 0 ≤ n ∧ n ≤ 1000) fun ds d => ∀ c n, ds = [.int c, .int n] → numsD n.toNat d
def inv_nums (n i : Nat) (ρ : DEnv) : Prop := ∃ (c : Int) (xs : List Int) (o1 o2 : Option D), ρ = [some (.int c), some (.int n), some (.lst (xs.map .int)), o1, o2] ∧ xs.length = i ∧ ∀ x ∈ xs, th x
def inv_nums2 (n i : Nat) (ρ : DEnv) : Prop := ∃ (c m : Int) (xs : List Int) (o2 : Option D), ρ = [some (.int c), some (.int n), some (.lst (xs.map .int)), some (.int m), o2] ∧ xs.length = i ∧ (∀ x ∈ xs, th x) ∧ 0 ≤ m ∧ m < 2147483647
theorem p__law_numbers (ds : List D) (Q : D → Prop) (E : Xn → Prop) (h : spNums.run ds Q E) : wpDef n__law_numbers.length c__law_numbers ds Q E := by
  obtain ⟨h1, h⟩ := h
  obtain ⟨c, n, rfl, hn⟩ := onI2_elim h1
  obtain ⟨n, rfl⟩ := Int.eq_ofNat_of_zero_le hn.1
  replace h : ∀ d, numsD n d → Q d := fun d hd => h d fun c' n' e => by cases e; exact hd
  simp [wpDef, c__law_numbers, n__law_numbers, start]
  refine ⟨by unfold PowOk; decide, ?_⟩
  split
  · refine wS_for (inv_nums n) ?_
    simp
    refine ⟨by omega, ⟨c, [], none, none, rfl, rfl, by simp⟩, ?_, ?_⟩
    · rintro i d ρ hi ⟨c', xs, o1, o2, rfl, hl, hx⟩
      obtain ⟨hi, rfl⟩ := rng_get hi
      simp
      refine ⟨by omega, by unfold DivOk; decide, ?_⟩
      refine ⟨c'.fdiv 1000, xs ++ [c'.fmod 1000], o1, some (.int i), by simp, by simp [hl], fun x hx' => ?_⟩
      rcases List.mem_append.mp hx' with z | z
      · exact hx x z
      · rw [List.mem_singleton.mp z]
        exact fmod_lt _ (by omega)
    · rintro ρ ⟨c', xs, o1, o2, rfl, hl, hx⟩
      rw [rng_len] at hl
      simp
      exact h _ ⟨xs, hl, hx, rfl⟩
  · refine wS_for (inv_nums2 n) ?_
    obtain ⟨f1, f2⟩ := fmod_lt c (b := 2147483647) (by omega)
    simp
    refine ⟨by omega, ⟨c, _, [], none, rfl, rfl, by simp, f1, f2⟩, ?_, ?_⟩
    · rintro i d ρ hi ⟨c', m, xs, o2, rfl, hl, hx, m1, m2⟩
      obtain ⟨hi, rfl⟩ := rng_get hi
      obtain ⟨g1, g2⟩ := fmod_lt (m * 48271 + 69621 * (0 + (i : Int) + 1)) (b := 2147483647) (by omega)
      simp at g1 g2
      simp
      refine ⟨mulOk_lit (by omega) (by omega), mulOk_lit (by omega) (by omega), by omega, by unfold DivOk; decide, ?_⟩
      refine ⟨c', _, xs ++ [((m * 48271 + 69621 * ((i : Int) + 1)).fmod 2147483647 |>.fdiv 7).fmod 1000], some (.int i), by simp, by simp [hl], fun x hx' => ?_, g1, g2⟩
      rcases List.mem_append.mp hx' with z | z
      · exact hx x z
      · rw [List.mem_singleton.mp z]
        exact fmod_lt _ (by omega)
    · rintro ρ ⟨c', m, xs, o2, rfl, hl, hx, m1, m2⟩
      rw [rng_len] at hl
      simp
      exact h _ ⟨xs, hl, hx, rfl⟩
/-! ### the same -/
-- data without dict or object, of bounded depth; texts of the model's length, short lists
mutual
def D.dat : Nat → D → Bool
  | 0, _ => false
  | _ + 1, .non => true
  | _ + 1, .bl _ => true
  | _ + 1, .int _ => true
  | _ + 1, .str x => PyData.strOk x
  | n + 1, .tup ds => decide (ds.length < 2 ^ 60) && D.dats n ds
  | n + 1, .lst ds => decide (ds.length < 2 ^ 60) && D.dats n ds
  | _, _ => false
def D.dats : Nat → List D → Bool
  | _, [] => true
  | n, d :: ds => D.dat n d && D.dats n ds
end
theorem dats_at : ∀ {n : Nat} {ds : List D} {i : Nat} {d : D}, D.dats n ds = true → ds[i]? = some d → D.dat n d = true
  | n, [], i, d, _, e => by simp at e
  | n, x :: ds, 0, d, h, e => by
    unfold D.dats at h
    rw [Bool.and_eq_true] at h
    simp at e
    rw [← e]; exact h.1
  | n, x :: ds, i + 1, d, h, e => by
    unfold D.dats at h
    rw [Bool.and_eq_true] at h
    exact dats_at h.2 (by simpa using e)
mutual
theorem eqv_refl : ∀ (d : D), (∃ n, D.dat n d = true) → PyData.eqv d.toP d.toP = true
  | .non, _ => by simp [D.toP, PyData.eqv]
  | .bl b, _ => by simp [D.toP, PyData.eqv]
  | .int b, _ => by simp [D.toP, PyData.eqv]
  | .str b, _ => by simp [D.toP, PyData.eqv]
  | .tup ds, ⟨n, h⟩ => by
    simp only [D.toP, PyData.eqv]
    cases n with
    | zero => simp [D.dat] at h
    | succ n => simp [D.dat] at h; exact eqvs_refl ds ⟨n, h.2⟩
  | .lst ds, ⟨n, h⟩ => by
    simp only [D.toP, PyData.eqv]
    cases n with
    | zero => simp [D.dat] at h
    | succ n => simp [D.dat] at h; exact eqvs_refl ds ⟨n, h.2⟩
  | .dict _ _, ⟨n, h⟩ => by cases n <;> simp [D.dat] at h
  | .obj _ _ _, ⟨n, h⟩ => by cases n <;> simp [D.dat] at h
theorem eqvs_refl : ∀ (ds : List D), (∃ n, D.dats n ds = true) → PyData.eqvAll (D.toPs ds) (D.toPs ds) = true
  | [], _ => by simp [D.toPs, PyData.eqvAll]
  | d :: ds, ⟨n, h⟩ => by
    simp only [D.toPs, PyData.eqvAll]
    unfold D.dats at h
    rw [Bool.and_eq_true] at h ⊢
    exact ⟨eqv_refl d ⟨n, h.1⟩, eqvs_refl ds ⟨n, h.2⟩⟩
end
def spSame : Nat → Spec
  | n => .fn (fun ds => ∃ d, ds = [d, d] ∧ D.dat n d = true) fun _ => .bl true
theorem run_same {n : Nat} {d : D} {Q : D → Prop} {E : Xn → Prop} (hd : D.dat n d = true) (h : Q (.bl true)) : (spSame n).run [d, d] Q E := ⟨⟨d, rfl, hd⟩, h⟩
def inv_same (d : D) (_ : Nat) (ρ : DEnv) : Prop := ∃ o, ρ = [some d, some d, o]
theorem p__law_same (n : Nat) (ds : List D) (Q : D → Prop) (E : Xn → Prop) (h : (spSame (n + 1)).run ds Q E) : wpDef n__law_same.length (c__law_same (spSame n)) ds Q E := by
  obtain ⟨⟨d, rfl, hd⟩, h⟩ := h
  have he := eqv_refl d ⟨_, hd⟩
  cases d with
  | dict _ _ => simp [D.dat] at hd
  | obj _ _ _ => simp [D.dat] at hd
  | non => simpa [wpDef, c__law_same, n__law_same, start] using h
  | bl b => simpa [wpDef, c__law_same, n__law_same, start] using h
  | int b => simpa [wpDef, c__law_same, n__law_same, start] using h
  | str x =>
    simp [D.dat] at hd
    simp [wpDef, c__law_same, n__law_same, start]
    simp [c_eqD, eqb, he, D.plain, hd]
    exact h
  | tup ds =>
    simp [D.dat] at hd
    simp [wpDef, c__law_same, n__law_same, start]
    refine wS_for (inv_same (.tup ds)) ?_
    simp
    refine ⟨by omega, ⟨none, rfl⟩, ?_, fun ρ _ => h⟩
    rintro i d ρ hi ⟨o, rfl⟩
    obtain ⟨hl, rfl⟩ := rng_get hi
    simp
    rw [at_lit (List.getElem?_eq_getElem hl)]
    simp
    refine run_same (dats_at hd.2 (List.getElem?_eq_getElem hl)) ?_
    simp
    exact ⟨_, rfl⟩
  | lst ds =>
    simp [D.dat] at hd
    simp [wpDef, c__law_same, n__law_same, start]
    refine wS_for (inv_same (.lst ds)) ?_
    simp
    refine ⟨by omega, ⟨none, rfl⟩, ?_, fun ρ _ => h⟩
    rintro i d ρ hi ⟨o, rfl⟩
    obtain ⟨hl, rfl⟩ := rng_get hi
    simp
    rw [at_lit (List.getElem?_eq_getElem hl)]
    simp
    refine run_same (dats_at hd.2 (List.getElem?_eq_getElem hl)) ?_
    simp
    exact ⟨_, rfl⟩
end Dl

/-! DlRat: fractions as rationals. -/
namespace Dl
open PySem
/-- a fraction in lowest terms -/
def fq (q : Rat) : D := .tup [.int q.num, .int (q.den : Int)]
theorem fq_inj {p q : Rat} (h : fq p = fq q) : p = q := by
  unfold fq at h
  simp at h
  exact Rat.ext h.1 (by omega)
theorem nf_q {n d : Int} (h : d ≠ 0) : nfn n d = (Rat.divInt n d).num ∧ nfd n d = ((Rat.divInt n d).den : Int) := by
  obtain ⟨_, _, h3, h4⟩ := nf_all (n := n) h
  have hc := nf_cross (n := n) h
  have hd : ((nfd n d).toNat : Int) = nfd n d := Int.toNat_of_nonneg (by omega)
  have e : (⟨nfn n d, (nfd n d).toNat, by omega, by
      have : (nfd n d).natAbs = (nfd n d).toNat := by omega
      unfold Nat.Coprime
      rw [← this]
      exact h4⟩ : Rat) = Rat.divInt n d := by
    rw [Rat.mk_eq_divInt, Rat.divInt_eq_divInt_iff (by omega) h, hd]
    exact hc
  rw [← e]
  exact ⟨rfl, hd.symm⟩
theorem fr_q {n d : Int} (h : d ≠ 0) : fr (nfn n d) (nfd n d) = fq (Rat.divInt n d) := by
  obtain ⟨e1, e2⟩ := nf_q (n := n) h
  unfold fq
  rw [e1, e2]
/-! ### sizes -/
def sz (q : Rat) : Nat := max q.num.natAbs.log2 q.den.log2 + 1
theorem lt_sz (q : Rat) : q.num.natAbs < 2 ^ sz q ∧ q.den < 2 ^ sz q := by
  unfold sz
  have h1 : q.num.natAbs.log2 + 1 ≤ max q.num.natAbs.log2 q.den.log2 + 1 := by omega
  have h2 : q.den.log2 + 1 ≤ max q.num.natAbs.log2 q.den.log2 + 1 := by omega
  exact ⟨Nat.lt_of_lt_of_le Nat.lt_log2_self (Nat.pow_le_pow_right (by omega) h1), Nat.lt_of_lt_of_le Nat.lt_log2_self (Nat.pow_le_pow_right (by omega) h2)⟩
theorem sz_of {q : Rat} {k : Nat} (h1 : q.num.natAbs < 2 ^ k) (h2 : q.den < 2 ^ k) (hk : 0 < k) : sz q ≤ k := by
  unfold sz
  have a := log2_of h1 hk
  have b := log2_of h2 hk
  omega
theorem mk_le (n : Int) (d : Nat) : (mkRat n d).num.natAbs ≤ n.natAbs ∧ (mkRat n d).den ≤ max d 1 := by
  rw [Rat.num_mkRat, Rat.den_mkRat]
  constructor
  · split
    · simp
    · rename_i h
      rw [Int.natAbs_ediv_of_dvd]
      · exact Nat.div_le_self ..
      · exact Int.ofNat_dvd_left.mpr (Nat.gcd_dvd_right ..)
  · split
    · omega
    · exact Nat.le_trans (Nat.div_le_self ..) (by omega)
theorem sz_mk {n : Int} {d k : Nat} (h1 : n.natAbs < 2 ^ k) (h2 : d < 2 ^ k) (hk : 0 < k) : sz (mkRat n d) ≤ k := by
  obtain ⟨a, b⟩ := mk_le n d
  refine sz_of (by omega) ?_ hk
  have : 1 < 2 ^ k := Nat.one_lt_two_pow (by omega)
  omega
theorem mul_lt2 {a b x y : Nat} (h1 : a < 2 ^ x) (h2 : b < 2 ^ y) : a * b < 2 ^ (x + y) := by
  rw [Nat.pow_add]
  have h3 : 0 < 2 ^ y := Nat.pow_pos (by omega)
  exact Nat.lt_of_le_of_lt (Nat.mul_le_mul_left _ (Nat.le_of_lt h2)) (Nat.mul_lt_mul_of_pos_right h1 h3)
theorem sz_pos (q : Rat) : 0 < sz q := by unfold sz; omega
theorem sz_mul (a b : Rat) : sz (a * b) ≤ sz a + sz b := by
  rw [Rat.mul_def']
  obtain ⟨a1, a2⟩ := lt_sz a
  obtain ⟨b1, b2⟩ := lt_sz b
  exact sz_mk (by rw [Int.natAbs_mul]; exact mul_lt2 a1 b1) (mul_lt2 a2 b2) (by have := sz_pos a; omega)
theorem cross_lt (a b : Rat) : (a.num * (b.den : Int)).natAbs < 2 ^ (sz a + sz b) := by
  rw [Int.natAbs_mul]
  exact mul_lt2 (lt_sz a).1 (lt_sz b).2
theorem sz_add (a b : Rat) : sz (a + b) ≤ sz a + sz b + 1 := by
  rw [Rat.add_def']
  have h1 := cross_lt a b
  have h2 := cross_lt b a
  rw [Nat.add_comm (sz b)] at h2
  have h3 := Int.natAbs_add_le (a.num * (b.den : Int)) (b.num * (a.den : Int))
  have h4 := mul_lt2 (lt_sz a).2 (lt_sz b).2
  refine sz_mk ?_ ?_ (by omega)
  · rw [Nat.pow_succ]; omega
  · rw [Nat.pow_succ]; omega
theorem sz_neg (a : Rat) : sz (-a) = sz a := by unfold sz; simp
theorem sz_sub (a b : Rat) : sz (a - b) ≤ sz a + sz b + 1 := by
  rw [Rat.sub_eq_add_neg]
  have := sz_add a (-b)
  rw [sz_neg] at this
  exact this
theorem sz_divInt {n d : Int} {k : Nat} (h1 : n.natAbs < 2 ^ k) (h2 : d.natAbs < 2 ^ k) (hk : 0 < k) : sz (Rat.divInt n d) ≤ k := by
  by_cases h : d = 0
  · subst h
    rw [Rat.divInt_zero]
    refine Nat.le_trans ?_ hk
    decide
  · obtain ⟨e1, e2⟩ := nf_q (n := n) h
    obtain ⟨l1, l2⟩ := nf_le (n := n) h
    refine sz_of (by rw [← e1]; omega) ?_ hk
    have : ((Rat.divInt n d).den : Int).natAbs < 2 ^ k := by rw [← e2]; omega
    simpa using this
theorem sz_int {n : Int} {k : Nat} (h1 : n.natAbs < 2 ^ k) (hk : 0 < k) : sz (n : Rat) ≤ k := by
  refine sz_of (by simpa using h1) ?_ hk
  show 1 < 2 ^ k
  exact Nat.one_lt_two_pow (by omega)
theorem lt_sm_sz {q : Rat} (h : sz q ≤ 1800) : q.num.natAbs < sm ∧ (q.den : Int).natAbs < sm := by
  obtain ⟨a, b⟩ := lt_sz q
  have : (2 : Nat) ^ sz q ≤ sm := Nat.pow_le_pow_right (by omega) (by omega)
  exact ⟨by omega, by simp; omega⟩
/-! ### the defs on rationals -/
def onQ2 (p : Rat → Rat → Prop) (ds : List D) : Prop := ∃ a b, ds = [fq a, fq b] ∧ p a b
def szk (k : Nat) (a b : Rat) : Prop := sz a ≤ k ∧ sz b ≤ k
theorem ok4_q {a b : Rat} (h : szk 1800 a b) : ok4 a.num a.den b.num b.den := by
  obtain ⟨a1, a2⟩ := lt_sm_sz h.1
  obtain ⟨b1, b2⟩ := lt_sm_sz h.2
  exact ⟨by have := a.den_nz; omega, by have := b.den_nz; omega, a1, a2, b1, b2⟩
theorem den_mul_ne (a b : Rat) : (a.den : Int) * (b.den : Int) ≠ 0 := Int.mul_ne_zero (by have := a.den_nz; omega) (by have := b.den_nz; omega)
theorem addF_q (a b : Rat) : addF a.num a.den b.num b.den = fq (a + b) := by
  unfold addF
  rw [fr_q (den_mul_ne a b), Rat.add_def']
  congr 1
theorem subF_q (a b : Rat) : subFr a.num a.den b.num b.den = fq (a - b) := by
  unfold subFr
  rw [fr_q (den_mul_ne a b), Rat.sub_def']
  congr 1
theorem mulF_q (a b : Rat) : mulF a.num a.den b.num b.den = fq (a * b) := by
  unfold mulF
  rw [fr_q (den_mul_ne a b), Rat.mul_def']
  congr 1
def qop (f : Rat → Rat → D) : Spec := ⟨fun ds Q _ => ∃ a b, ds = [fq a, fq b] ∧ szk 1800 a b ∧ Q (f a b), fun _ _ _ _ _ ⟨a, b, e, h, q⟩ hq _ => ⟨a, b, e, h, hq _ q⟩⟩
theorem run_qop {f : Rat → Rat → D} {a b : Rat} {Q : D → Prop} {E : Xn → Prop} : (qop f).run [fq a, fq b] Q E = (szk 1800 a b ∧ Q (f a b)) := by
  apply propext
  constructor
  · rintro ⟨a', b', e, h, q⟩
    simp at e
    obtain ⟨e1, e2⟩ := e
    cases fq_inj e1
    cases fq_inj e2
    exact ⟨h, q⟩
  · rintro ⟨h, q⟩
    exact ⟨a, b, rfl, h, q⟩
def spAddQ : Spec := qop fun a b => fq (a + b)
def spSubQ : Spec := qop fun a b => fq (a - b)
def spMulQ : Spec := qop fun a b => fq (a * b)
def spLessQ : Spec := qop fun a b => .bl (decide (a < b))
@[simp] theorem run_addQ {a b : Rat} {Q : D → Prop} {E : Xn → Prop} : spAddQ.run [fq a, fq b] Q E = (szk 1800 a b ∧ Q (fq (a + b))) := run_qop
@[simp] theorem run_subQ {a b : Rat} {Q : D → Prop} {E : Xn → Prop} : spSubQ.run [fq a, fq b] Q E = (szk 1800 a b ∧ Q (fq (a - b))) := run_qop
@[simp] theorem run_mulQ {a b : Rat} {Q : D → Prop} {E : Xn → Prop} : spMulQ.run [fq a, fq b] Q E = (szk 1800 a b ∧ Q (fq (a * b))) := run_qop
@[simp] theorem run_lessQ {a b : Rat} {Q : D → Prop} {E : Xn → Prop} : spLessQ.run [fq a, fq b] Q E = (szk 1800 a b ∧ Q (.bl (decide (a < b)))) := run_qop
theorem addQ_imp {ds : List D} {Q : D → Prop} {E : Xn → Prop} (h : spAddQ.run ds Q E) : spAdd.run ds Q E := by
  obtain ⟨a, b, rfl, h, q⟩ := h
  exact ⟨ok4_q h, by show Q (addF a.num a.den b.num b.den); rw [addF_q]; exact q⟩
theorem subQ_imp {ds : List D} {Q : D → Prop} {E : Xn → Prop} (h : spSubQ.run ds Q E) : spSub.run ds Q E := by
  obtain ⟨a, b, rfl, h, q⟩ := h
  exact ⟨ok4_q h, by show Q (subFr a.num a.den b.num b.den); rw [subF_q]; exact q⟩
theorem mulQ_imp {ds : List D} {Q : D → Prop} {E : Xn → Prop} (h : spMulQ.run ds Q E) : spMul.run ds Q E := by
  obtain ⟨a, b, rfl, h, q⟩ := h
  exact ⟨ok4_q h, by show Q (mulF a.num a.den b.num b.den); rw [mulF_q]; exact q⟩
theorem lessQ_imp {ds : List D} {Q : D → Prop} {E : Xn → Prop} (h : spLessQ.run ds Q E) : spLess.run ds Q E := by
  obtain ⟨a, b, rfl, h, q⟩ := h
  refine ⟨ok4_q h, ?_⟩
  show Q (.bl (decide (a.num * (b.den : Int) < b.num * (a.den : Int))))
  have e : decide (a < b) = decide (a.num * (b.den : Int) < b.num * (a.den : Int)) := by rw [decide_eq_decide]; exact Rat.lt_iff a b
  rw [← e]
  exact q
theorem p_plusQ (ds : List D) (Q : D → Prop) (E : Xn → Prop) (h : spAddQ.run ds Q E) : wpDef n_plus.length (c_plus spFr) ds Q E := p_plus _ _ _ (addQ_imp h)
theorem p_minusQ (ds : List D) (Q : D → Prop) (E : Xn → Prop) (h : spSubQ.run ds Q E) : wpDef n_minus.length (c_minus spFr) ds Q E := p_minus _ _ _ (subQ_imp h)
theorem p_timesQ (ds : List D) (Q : D → Prop) (E : Xn → Prop) (h : spMulQ.run ds Q E) : wpDef n_times.length (c_times spFr) ds Q E := p_times _ _ _ (mulQ_imp h)
theorem p_lessQ (ds : List D) (Q : D → Prop) (E : Xn → Prop) (h : spLessQ.run ds Q E) : wpDef n_less.length c_less ds Q E := p_less _ _ _ (lessQ_imp h)
theorem p__law_addQ (ds : List D) (Q : D → Prop) (E : Xn → Prop) (h : spAddQ.run ds Q E) : wpDef n__law_add.length (c__law_add spFr) ds Q E := p__law_add _ _ _ (addQ_imp h)
theorem p__law_subQ (ds : List D) (Q : D → Prop) (E : Xn → Prop) (h : spSubQ.run ds Q E) : wpDef n__law_sub.length (c__law_sub spFr) ds Q E := p__law_sub _ _ _ (subQ_imp h)
theorem p__law_mulQ (ds : List D) (Q : D → Prop) (E : Xn → Prop) (h : spMulQ.run ds Q E) : wpDef n__law_mul.length (c__law_mul spFr) ds Q E := p__law_mul _ _ _ (mulQ_imp h)
theorem p__law_lessQ (ds : List D) (Q : D → Prop) (E : Xn → Prop) (h : spLessQ.run ds Q E) : wpDef n__law_less.length c__law_less ds Q E := p__law_less _ _ _ (lessQ_imp h)
/-- n, d: any ints (d not 0) -/
@[simp] theorem run_frQ {n d : Int} {Q : D → Prop} {E : Xn → Prop} : spFr.run [.int n, .int d] Q E = (okFr n d ∧ Q (fq (Rat.divInt n d))) := by
  show (okFr n d ∧ Q (fr (nfn n d) (nfd n d))) = _
  apply propext
  constructor
  · rintro ⟨h, q⟩; exact ⟨h, by rw [← fr_q h.1]; exact q⟩
  · rintro ⟨h, q⟩; exact ⟨h, by rw [fr_q h.1]; exact q⟩
/-! ### fq as data -/
section
variable {q : Rat} {Q : D → Prop}
@[simp] theorem ix_fq0 : ixD (fq q) (.int 0) Q = Q (.int q.num) := by unfold fq; simp
@[simp] theorem ix_fq1 : ixD (fq q) (.int 1) Q = Q (.int q.den) := by unfold fq; simp
@[simp] theorem cont_fq : D.cont (fq q) = false := rfl
@[simp] theorem imm_fq : D.imm (fq q) = true := by unfold fq; simp
@[simp] theorem isNon_fq : D.isNon (fq q) = false := rfl
theorem dat_fq (n : Nat) : D.dat (n + 2) (fq q) = true := by unfold fq; exact dat_fr' n _ _
  where dat_fr' (n : Nat) (a b : Int) : D.dat (n + 2) (.tup [.int a, .int b]) = true := by simp [D.dat, D.dats]
@[simp] theorem fold_int {n : Int} : D.tup [.int n, .int 1] = fq (n : Rat) := rfl
@[simp] theorem fold_neg : D.tup [.int (0 - q.num), .int (q.den : Int)] = fq (-q) := by unfold fq; simp
@[simp] theorem fold_neg' : D.tup [.int (-q.num), .int (q.den : Int)] = fq (-q) := by unfold fq; simp
@[simp] theorem fold_self : D.tup [.int q.num, .int (q.den : Int)] = fq q := rfl
end
end Dl

/-! DlCell: cells, points, scalar products. -/
namespace Dl
open PySem
def cellD (a b c : Rat) : D := .tup [fq a, fq b, fq c]
def ptD (x y : Rat) : D := .tup [fq x, fq y]
theorem cellD_inj {a b c a' b' c' : Rat} (h : cellD a b c = cellD a' b' c') : a = a' ∧ b = b' ∧ c = c' := by
  unfold cellD at h
  simp at h
  exact ⟨fq_inj h.1, fq_inj h.2.1, fq_inj h.2.2⟩
def sc (a b c x y z w : Rat) : Rat := a * (x * z) + (b * (x * w + y * z) + c * (y * w))
section
variable {a b c x y : Rat} {Q : D → Prop}
@[simp] theorem ix_c0 : ixD (cellD a b c) (.int 0) Q = Q (fq a) := by unfold cellD; simp
@[simp] theorem ix_c1 : ixD (cellD a b c) (.int 1) Q = Q (fq b) := by unfold cellD; simp
@[simp] theorem ix_c2 : ixD (cellD a b c) (.int 2) Q = Q (fq c) := by unfold cellD; simp
@[simp] theorem ix_p0 : ixD (ptD x y) (.int 0) Q = Q (fq x) := by unfold ptD; simp
@[simp] theorem ix_p1 : ixD (ptD x y) (.int 1) Q = Q (fq y) := by unfold ptD; simp
@[simp] theorem fold_pt : D.tup [fq x, fq y] = ptD x y := rfl
@[simp] theorem fold_cell : D.tup [fq a, fq b, fq c] = cellD a b c := rfl
@[simp] theorem cont_cell : D.cont (cellD a b c) = false := rfl
@[simp] theorem cont_pt : D.cont (ptD x y) = false := rfl
@[simp] theorem imm_cell : D.imm (cellD a b c) = true := by unfold cellD; simp [-fold_cell]
@[simp] theorem imm_pt : D.imm (ptD x y) = true := by unfold ptD; simp [-fold_pt]
@[simp] theorem items_cell : items (cellD a b c) = some [fq a, fq b, fq c] := rfl
@[simp] theorem asgT_cell {ts : List CT} {ρ : DEnv} : asgT (.tp ts) (cellD a b c) ρ = asgTs ts [fq a, fq b, fq c] ρ := by unfold cellD; simp [-fold_cell]
@[simp] theorem asgT_pt {ts : List CT} {ρ : DEnv} : asgT (.tp ts) (ptD x y) ρ = asgTs ts [fq x, fq y] ρ := by unfold ptD; simp [-fold_pt]
end
theorem sz_sc {a b c x y z w : Rat} {k l : Nat} (ha : sz a ≤ k) (hb : sz b ≤ k) (hc : sz c ≤ k) (hx : sz x ≤ l) (hy : sz y ≤ l) (hz : sz z ≤ l) (hw : sz w ≤ l) :
    sz (x * z) ≤ 2 * l ∧ sz (y * w) ≤ 2 * l ∧ sz (x * w) ≤ 2 * l ∧ sz (y * z) ≤ 2 * l ∧ sz (x * w + y * z) ≤ 4 * l + 1 ∧ sz (a * (x * z)) ≤ k + 2 * l ∧ sz (b * (x * w + y * z)) ≤ k + 4 * l + 1 ∧ sz (c * (y * w)) ≤ k + 2 * l ∧
    sz (b * (x * w + y * z) + c * (y * w)) ≤ 2 * k + 6 * l + 2 ∧ sz (sc a b c x y z w) ≤ 3 * k + 8 * l + 3 := by
  have h1 := sz_mul x z
  have h2 := sz_mul y w
  have h3 := sz_mul x w
  have h4 := sz_mul y z
  have h5 := sz_add (x * w) (y * z)
  have h6 := sz_mul a (x * z)
  have h7 := sz_mul b (x * w + y * z)
  have h8 := sz_mul c (y * w)
  have h9 := sz_add (b * (x * w + y * z)) (c * (y * w))
  have h10 := sz_add (a * (x * z)) (b * (x * w + y * z) + c * (y * w))
  unfold sc
  omega
def onSc (p : Rat → Rat → Rat → Rat → Rat → Rat → Rat → Prop) (ds : List D) : Prop := ∃ a b c x y z w, ds = [cellD a b c, ptD x y, ptD z w] ∧ p a b c x y z w
def szSc (a b c x y z w : Rat) : Prop := sz a ≤ 170 ∧ sz b ≤ 170 ∧ sz c ≤ 170 ∧ sz x ≤ 170 ∧ sz y ≤ 170 ∧ sz z ≤ 170 ∧ sz w ≤ 170
theorem ptD_inj {x y x' y' : Rat} (h : ptD x y = ptD x' y') : x = x' ∧ y = y' := by
  unfold ptD at h
  simp [-fold_pt] at h
  exact ⟨fq_inj h.1, fq_inj h.2⟩
def spScalar : Spec := ⟨fun ds Q _ => ∃ a b c x y z w, ds = [cellD a b c, ptD x y, ptD z w] ∧ szSc a b c x y z w ∧ Q (fq (sc a b c x y z w)), fun _ _ _ _ _ ⟨a, b, c, x, y, z, w, e, h, q⟩ hq _ => ⟨a, b, c, x, y, z, w, e, h, hq _ q⟩⟩
@[simp] theorem run_scalar {a b c x y z w : Rat} {Q : D → Prop} {E : Xn → Prop} : spScalar.run [cellD a b c, ptD x y, ptD z w] Q E = (szSc a b c x y z w ∧ Q (fq (sc a b c x y z w))) := by
  apply propext
  constructor
  · rintro ⟨a', b', c', x', y', z', w', e, h, q⟩
    simp at e
    obtain ⟨e1, e2, e3⟩ := e
    obtain ⟨rfl, rfl, rfl⟩ := cellD_inj e1
    obtain ⟨rfl, rfl⟩ := ptD_inj e2
    obtain ⟨rfl, rfl⟩ := ptD_inj e3
    exact ⟨h, q⟩
  · rintro ⟨h, q⟩
    exact ⟨a, b, c, x, y, z, w, rfl, h, q⟩
theorem p_scalar (ds : List D) (Q : D → Prop) (E : Xn → Prop) (h : spScalar.run ds Q E) : wpDef n_scalar.length (c_scalar spAddQ spMulQ) ds Q E := by
  obtain ⟨a, b, c, x, y, z, w, rfl, ⟨h1, h2, h3, h4, h5, h6, h7⟩, q⟩ := h
  obtain ⟨s1, s2, s3, s4, s5, s6, s7, s8, s9, s10⟩ := sz_sc h1 h2 h3 h4 h5 h6 h7
  simp [wpDef, c_scalar, n_scalar, start, szk]
  exact ⟨⟨by omega, by omega⟩, ⟨by omega, by omega⟩, ⟨by omega, by omega⟩, ⟨by omega, by omega⟩, ⟨by omega, by omega⟩, ⟨by omega, by omega⟩, ⟨by omega, by omega⟩, ⟨by omega, by omega⟩, ⟨by omega, by omega⟩, ⟨by omega, by omega⟩, q⟩
theorem p__law_scalar (ds : List D) (Q : D → Prop) (E : Xn → Prop) (h : spScalar.run ds Q E) : wpDef n__law_scalar.length (c__law_scalar spMulQ spAddQ) ds Q E := by
  obtain ⟨a, b, c, x, y, z, w, rfl, ⟨h1, h2, h3, h4, h5, h6, h7⟩, q⟩ := h
  obtain ⟨s1, s2, s3, s4, s5, s6, s7, s8, s9, s10⟩ := sz_sc h1 h2 h3 h4 h5 h6 h7
  simp [wpDef, c__law_scalar, n__law_scalar, start, szk]
  exact ⟨⟨by omega, by omega⟩, ⟨by omega, by omega⟩, ⟨by omega, by omega⟩, ⟨by omega, by omega⟩, ⟨by omega, by omega⟩, ⟨by omega, by omega⟩, ⟨by omega, by omega⟩, ⟨by omega, by omega⟩, ⟨by omega, by omega⟩, ⟨by omega, by omega⟩, q⟩
def spSquare : Spec := ⟨fun ds Q _ => ∃ a b c x y, ds = [cellD a b c, fq x, fq y] ∧ szSc a b c x y x y ∧ Q (fq (sc a b c x y x y)), fun _ _ _ _ _ ⟨a, b, c, x, y, e, h, q⟩ hq _ => ⟨a, b, c, x, y, e, h, hq _ q⟩⟩
theorem p_square (ds : List D) (Q : D → Prop) (E : Xn → Prop) (h : spSquare.run ds Q E) : wpDef n_square.length (c_square spScalar) ds Q E := by
  obtain ⟨a, b, c, x, y, rfl, h, q⟩ := h
  simp [wpDef, c_square, n_square, start]
  exact ⟨h, q⟩
def spCellOf : Spec := ⟨fun ds Q _ => ∃ a b c x y z w, ds = [cellD a b c, ptD x y, ptD z w] ∧ szSc a b c x y z w ∧ Q (cellD (sc a b c x y x y) (sc a b c x y z w) (sc a b c z w z w)), fun _ _ _ _ _ ⟨a, b, c, x, y, z, w, e, h, q⟩ hq _ => ⟨a, b, c, x, y, z, w, e, h, hq _ q⟩⟩
theorem p__law_cell_of (ds : List D) (Q : D → Prop) (E : Xn → Prop) (h : spCellOf.run ds Q E) : wpDef n__law_cell_of.length (c__law_cell_of spScalar) ds Q E := by
  obtain ⟨a, b, c, x, y, z, w, rfl, h, q⟩ := h
  obtain ⟨h1, h2, h3, h4, h5, h6, h7⟩ := h
  simp [wpDef, c__law_cell_of, n__law_cell_of, start]
  exact ⟨⟨h1, h2, h3, h4, h5, h4, h5⟩, ⟨h1, h2, h3, h4, h5, h6, h7⟩, ⟨h1, h2, h3, h6, h7, h6, h7⟩, q⟩
def spVector : Spec := .fn (onI2 fun _ _ => True) (mapI2 fun x y => ptD (x : Rat) (y : Rat))
theorem p__law_vector (ds : List D) (Q : D → Prop) (E : Xn → Prop) (h : spVector.run ds Q E) : wpDef n__law_vector.length c__law_vector ds Q E := by
  obtain ⟨h1, q⟩ := h
  obtain ⟨x, y, rfl, _⟩ := onI2_elim h1
  simp [wpDef, c__law_vector, n__law_vector, start]
  exact q
@[simp] theorem run_vector {x y : Int} {Q : D → Prop} {E : Xn → Prop} : spVector.run [.int x, .int y] Q E = Q (ptD (x : Rat) (y : Rat)) := by
  show (onI2 (fun _ _ => True) [D.int x, D.int y] ∧ Q (ptD (x : Rat) (y : Rat))) = _
  simp [onI2]
abbrev mat (a b c d : Int) : D := .tup [.int a, .int b, .int c, .int d]
def spOther : Spec := ⟨fun ds Q _ => ∃ (a b c : Rat) (m0 m1 m2 m3 : Int), ds = [cellD a b c, mat m0 m1 m2 m3] ∧ szSc a b c m0 m2 m1 m3 ∧ Q (cellD (sc a b c m0 m2 m0 m2) (sc a b c m0 m2 m1 m3) (sc a b c m1 m3 m1 m3)), fun _ _ _ _ _ ⟨a, b, c, x, y, z, w, e, h, q⟩ hq _ => ⟨a, b, c, x, y, z, w, e, h, hq _ q⟩⟩
theorem p__law_other_cell (ds : List D) (Q : D → Prop) (E : Xn → Prop) (h : spOther.run ds Q E) : wpDef n__law_other_cell.length (c__law_other_cell spCellOf spVector) ds Q E := by
  obtain ⟨a, b, c, m0, m1, m2, m3, rfl, h, q⟩ := h
  simp [wpDef, c__law_other_cell, n__law_other_cell, start]
  exact ⟨_, _, _, _, _, _, _, rfl, h, q⟩
/-! ### drawn -/
def onNums (n : Nat) (ds : List D) : Prop := ∃ xs : List Int, ds = [.lst (xs.map .int)] ∧ n ≤ xs.length ∧ ∀ x ∈ xs, th x
theorem th_nth {xs : List Int} (h : ∀ x ∈ xs, th x) (k : Nat) : th (nth xs k) := by
  unfold nth
  cases e : xs[k]? with
  | none => exact ⟨by decide, by decide⟩
  | some x => exact h x (List.mem_of_getElem? e)
def spAxes : Spec := .rel (onNums 3) fun _ d => ∃ a b c e : Int, d = mat a b c e ∧ a.natAbs ≤ 5 ∧ b.natAbs ≤ 2 ∧ c.natAbs ≤ 2 ∧ e.natAbs ≤ 1 ∧ (a * e - b * c = 1 ∨ a * e - b * c = -1)
theorem sq_le {k j : Int} (hk : k.natAbs ≤ 2) (hj : j.natAbs ≤ 2) : (k * j).natAbs ≤ 4 := by
  rw [Int.natAbs_mul]
  exact Nat.mul_le_mul hk hj
theorem p__law_axes (ds : List D) (Q : D → Prop) (E : Xn → Prop) (h : spAxes.run ds Q E) : wpDef n__law_axes.length c__law_axes ds Q E := by
  obtain ⟨⟨xs, rfl, hl, hx⟩, h⟩ := h
  obtain ⟨a1, a2⟩ := fmod_lt (nth xs 0) (b := 5) (by omega)
  obtain ⟨b1, b2⟩ := fmod_lt (nth xs 1) (b := 5) (by omega)
  simp [wpDef, c__law_axes, n__law_axes, start, ixN hl, -ix_L]
  have hq := sq_le (k := (nth xs 0).fmod 5 - 2) (j := (nth xs 1).fmod 5 - 2) (by omega) (by omega)
  have mo : MulOk ((nth xs 0).fmod 5 - 2) ((nth xs 1).fmod 5 - 2) := mulOk_lit (by omega) (by omega)
  split
  · refine ⟨mo, h _ ⟨_, _, _, _, rfl, by omega, by omega, by omega, by omega, .inr ?_⟩⟩
    generalize (nth xs 0).fmod 5 - 2 = k
    generalize (nth xs 1).fmod 5 - 2 = j
    rw [Int.neg_mul]
    omega
  · refine ⟨mo, h _ ⟨_, _, _, _, rfl, by omega, by omega, by omega, by omega, .inl ?_⟩⟩
    generalize (nth xs 0).fmod 5 - 2 = k
    generalize (nth xs 1).fmod 5 - 2 = j
    omega
def spPoint : Spec := .rel (onNums 4) fun _ d => ∃ x y, d = ptD x y ∧ sz x ≤ 8 ∧ sz y ≤ 8
theorem p__law_point (ds : List D) (Q : D → Prop) (E : Xn → Prop) (h : spPoint.run ds Q E) : wpDef n__law_point.length (c__law_point spFr) ds Q E := by
  obtain ⟨⟨xs, rfl, hl, hx⟩, h⟩ := h
  obtain ⟨a1, a2⟩ := fmod_lt (nth xs 0) (b := 97) (by omega)
  obtain ⟨b1, b2⟩ := fmod_lt (nth xs 1) (b := 12) (by omega)
  obtain ⟨c1, c2⟩ := fmod_lt (nth xs 2) (b := 97) (by omega)
  obtain ⟨d1, d2⟩ := fmod_lt (nth xs 3) (b := 12) (by omega)
  simp [wpDef, c__law_point, n__law_point, start, ixN hl, -ix_L]
  refine ⟨⟨by omega, lt_big (k := 20) (by omega) (by omega)⟩, ⟨by omega, lt_big (k := 20) (by omega) (by omega)⟩, h _ ⟨_, _, rfl, sz_divInt (by omega) (by omega) (by omega), sz_divInt (by omega) (by omega) (by omega)⟩⟩
  where lt_big {x k : Nat} (h : x < 2 ^ k) (hk : k ≤ 4000) : x < big := Nat.lt_of_lt_of_le h (Nat.pow_le_pow_right (by omega) hk)
end Dl

/-! DlMov: movements: a matrix of ints, a shift. -/
namespace Dl
open PySem
/-- a tuple or a list that begins with a matrix -/
abbrev m4 (a b c d : Int) (r : List D) : D := .tup (.int a :: .int b :: .int c :: .int d :: r)
abbrev mov (a b c d : Int) (x y : Rat) : D := m4 a b c d [fq x, fq y]
def iok (k : Nat) (a b c d : Int) : Prop := a.natAbs < 2 ^ k ∧ b.natAbs < 2 ^ k ∧ c.natAbs < 2 ^ k ∧ d.natAbs < 2 ^ k
theorem cut4 {x0 x1 x2 x3 : D} {r : List D} : cutD (x0 :: x1 :: x2 :: x3 :: r) none (some 4) = [x0, x1, x2, x3] := by
  unfold cutD sIxD
  simp only [List.length_cons]
  have e : ((if (4 : Int) < 0 then max (4 + ((r.length + 1 + 1 + 1 + 1 : Nat) : Int)) 0 else min 4 ((r.length + 1 + 1 + 1 + 1 : Nat) : Int))).toNat = 4 := by
    rw [if_neg (by omega)]; omega
  rw [e]
  rfl
theorem mulOk_k {a b : Int} {k : Nat} (ha : a.natAbs < 2 ^ k) (hb : b.natAbs < 2 ^ k) (hk : k ≤ 1900) : MulOk a b :=
  mulOk_sm (Nat.lt_of_lt_of_le ha (Nat.pow_le_pow_right (by omega) hk)) (Nat.lt_of_lt_of_le hb (Nat.pow_le_pow_right (by omega) hk))
theorem mul_k {a b : Int} {k l : Nat} (ha : a.natAbs < 2 ^ k) (hb : b.natAbs < 2 ^ l) : (a * b).natAbs < 2 ^ (k + l) := by
  rw [Int.natAbs_mul]
  exact mul_lt2 ha hb
theorem add_k {a b : Int} {k : Nat} (ha : a.natAbs < 2 ^ k) (hb : b.natAbs < 2 ^ k) : (a + b).natAbs < 2 ^ (k + 1) := by
  rw [Nat.pow_succ]; omega
theorem sub_k {a b : Int} {k : Nat} (ha : a.natAbs < 2 ^ k) (hb : b.natAbs < 2 ^ k) : (a - b).natAbs < 2 ^ (k + 1) := by
  rw [Nat.pow_succ]; omega
theorem up_k {a : Int} {k l : Nat} (ha : a.natAbs < 2 ^ k) (h : k ≤ l) : a.natAbs < 2 ^ l := Nat.lt_of_lt_of_le ha (Nat.pow_le_pow_right (by omega) h)
@[simp] theorem b_addP {xs : List D} {x y : Rat} {Q : D → Prop} : binD .add (.tup xs) (ptD x y) Q = (xs.length + 2 ≤ szl ∧ Q (.tup (xs ++ [fq x, fq y]))) := rfl
/-! ### specs -/
def spDet : Spec := ⟨fun ds Q _ => ∃ a b c d r, ds = [m4 a b c d r] ∧ iok 400 a b c d ∧ Q (.int (a * d - b * c)), fun _ _ _ _ _ ⟨a, b, c, d, r, e, h, q⟩ hq _ => ⟨a, b, c, d, r, e, h, hq _ q⟩⟩
theorem p_determinant (ds : List D) (Q : D → Prop) (E : Xn → Prop) (h : spDet.run ds Q E) : wpDef n_determinant.length c_determinant ds Q E := by
  obtain ⟨a, b, c, d, r, rfl, ⟨h1, h2, h3, h4⟩, q⟩ := h
  simp [wpDef, c_determinant, n_determinant, start]
  exact ⟨mulOk_k h1 h4 (by omega), mulOk_k h2 h3 (by omega), q⟩
theorem p__law_det (ds : List D) (Q : D → Prop) (E : Xn → Prop) (h : spDet.run ds Q E) : wpDef n__law_det.length c__law_det ds Q E := by
  obtain ⟨a, b, c, d, r, rfl, ⟨h1, h2, h3, h4⟩, q⟩ := h
  simp [wpDef, c__law_det, n__law_det, start]
  exact ⟨mulOk_k h1 h4 (by omega), mulOk_k h2 h3 (by omega), q⟩
def spProd : Spec := ⟨fun ds Q _ => ∃ a b c d r e f g h s, ds = [m4 a b c d r, m4 e f g h s] ∧ iok 400 a b c d ∧ iok 400 e f g h ∧ Q (mat (e * a + f * c) (e * b + f * d) (g * a + h * c) (g * b + h * d)),
  fun _ _ _ _ _ ⟨a, b, c, d, r, e, f, g, h, s, e1, h1, h2, q⟩ hq _ => ⟨a, b, c, d, r, e, f, g, h, s, e1, h1, h2, hq _ q⟩⟩
theorem p_product (ds : List D) (Q : D → Prop) (E : Xn → Prop) (h : spProd.run ds Q E) : wpDef n_product.length c_product ds Q E := by
  obtain ⟨a, b, c, d, r, e, f, g, h, s, rfl, ⟨h1, h2, h3, h4⟩, ⟨g1, g2, g3, g4⟩, q⟩ := h
  simp [wpDef, c_product, n_product, start, cut4]
  exact ⟨mulOk_k g1 h1 (by omega), mulOk_k g2 h3 (by omega), mulOk_k g1 h2 (by omega), mulOk_k g2 h4 (by omega), mulOk_k g3 h1 (by omega), mulOk_k g4 h3 (by omega), mulOk_k g3 h2 (by omega), mulOk_k g4 h4 (by omega), q⟩
theorem p__law_product (ds : List D) (Q : D → Prop) (E : Xn → Prop) (h : spProd.run ds Q E) : wpDef n__law_product.length c__law_product ds Q E := by
  obtain ⟨a, b, c, d, r, e, f, g, h, s, rfl, ⟨h1, h2, h3, h4⟩, ⟨g1, g2, g3, g4⟩, q⟩ := h
  simp [wpDef, c__law_product, n__law_product, start]
  exact ⟨mulOk_k g1 h1 (by omega), mulOk_k g2 h3 (by omega), mulOk_k g1 h2 (by omega), mulOk_k g2 h4 (by omega), mulOk_k g3 h1 (by omega), mulOk_k g4 h3 (by omega), mulOk_k g3 h2 (by omega), mulOk_k g4 h4 (by omega), q⟩
def spRev : Spec := ⟨fun ds Q _ => ∃ a b c d r, ds = [m4 a b c d r] ∧ iok 400 a b c d ∧ Q (mat ((a * d - b * c) * d) (-((a * d - b * c) * b)) (-((a * d - b * c) * c)) ((a * d - b * c) * a)), fun _ _ _ _ _ ⟨a, b, c, d, r, e, h, q⟩ hq _ => ⟨a, b, c, d, r, e, h, hq _ q⟩⟩
theorem det_k {a b c d : Int} {k : Nat} (h : iok k a b c d) : (a * d - b * c).natAbs < 2 ^ (k + k + 1) := sub_k (mul_k h.1 h.2.2.2) (mul_k h.2.1 h.2.2.1)
theorem p_reverse_matrix (ds : List D) (Q : D → Prop) (E : Xn → Prop) (h : spRev.run ds Q E) : wpDef n_reverse_matrix.length c_reverse_matrix ds Q E := by
  obtain ⟨a, b, c, d, r, rfl, h, q⟩ := h
  have hd := det_k h
  obtain ⟨h1, h2, h3, h4⟩ := h
  have hd' : (-(a * d - b * c)).natAbs < 2 ^ (400 + 400 + 1) := by rw [Int.natAbs_neg]; exact hd
  simp [wpDef, c_reverse_matrix, n_reverse_matrix, start, cut4]
  have go : ∀ x y : Int, x.natAbs < 2 ^ (400 + 400 + 1) → y.natAbs < 2 ^ 400 → MulOk x y := fun x y hx hy => mulOk_k hx (up_k hy (by omega)) (by omega)
  refine ⟨mulOk_k h1 h4 (by omega), mulOk_k h2 h3 (by omega), go _ _ hd h4, go _ _ hd' h2, go _ _ hd' h3, go _ _ hd h1, ?_⟩
  rw [Int.neg_mul, Int.neg_mul]
  exact q
/-- what a matrix does to a point -/
def spLed : Spec := ⟨fun ds Q _ => ∃ (a b c d : Int) (r : List D) (x y : Rat), ds = [m4 a b c d r, ptD x y] ∧ iok 400 a b c d ∧ sz x ≤ 400 ∧ sz y ≤ 400 ∧ Q (ptD ((a : Rat) * x + b * y) ((c : Rat) * x + d * y)),
  fun _ _ _ _ _ ⟨a, b, c, d, r, x, y, e, h1, h2, h3, q⟩ hq _ => ⟨a, b, c, d, r, x, y, e, h1, h2, h3, hq _ q⟩⟩
theorem led_q (a b : Int) (x y : Rat) : Rat.divInt (a * (x.num * (y.den : Int)) + b * (y.num * (x.den : Int))) ((x.den : Int) * (y.den : Int)) = (a : Rat) * x + b * y := by
  rw [Rat.divInt_eq_div]
  have hx : ((x.den : Int) : Rat) ≠ 0 := by have := x.den_nz; simp [this]
  have hy : ((y.den : Int) : Rat) ≠ 0 := by have := y.den_nz; simp [this]
  have ex : x = (x.num : Rat) / ((x.den : Int) : Rat) := by rw [← Rat.divInt_eq_div, Rat.num_divInt_den]
  have ey : y = (y.num : Rat) / ((y.den : Int) : Rat) := by rw [← Rat.divInt_eq_div, Rat.num_divInt_den]
  conv => rhs; rw [ex, ey]
  simp only [Rat.intCast_add, Rat.intCast_mul]
  generalize ((x.den : Int) : Rat) = xd at *
  generalize ((y.den : Int) : Rat) = yd at *
  generalize (x.num : Rat) = xn at *
  generalize (y.num : Rat) = yn at *
  generalize (a : Rat) = a'
  generalize (b : Rat) = b'
  grind
theorem num_k {q : Rat} {k : Nat} (h : sz q ≤ k) : q.num.natAbs < 2 ^ k ∧ (q.den : Int).natAbs < 2 ^ k := by
  obtain ⟨a, b⟩ := lt_sz q
  have : (2 : Nat) ^ sz q ≤ 2 ^ k := Nat.pow_le_pow_right (by omega) h
  exact ⟨by omega, by simp; omega⟩
theorem p_led (ds : List D) (Q : D → Prop) (E : Xn → Prop) (h : spLed.run ds Q E) : wpDef n_led.length (c_led spFr) ds Q E := by
  obtain ⟨a, b, c, d, r, x, y, rfl, ⟨h1, h2, h3, h4⟩, sx, sy, q⟩ := h
  obtain ⟨x1, x2⟩ := num_k sx
  obtain ⟨y1, y2⟩ := num_k sy
  have hb : ((x.den : Int) * (y.den : Int)).natAbs < 2 ^ (400 + 400) := mul_k x2 y2
  have ok : ∀ n : Int, okFr n ((x.den : Int) * (y.den : Int)) := fun n => ⟨den_mul_ne x y, Nat.lt_of_lt_of_le hb (Nat.pow_le_pow_right (by omega) (by omega))⟩
  have m1 : (x.num * (y.den : Int)).natAbs < 2 ^ (400 + 400) := mul_k x1 y2
  have m2 : (y.num * (x.den : Int)).natAbs < 2 ^ (400 + 400) := mul_k y1 x2
  have go : ∀ u v : Int, u.natAbs < 2 ^ 400 → v.natAbs < 2 ^ (400 + 400) → MulOk u v := fun u v hu hv => mulOk_k (up_k hu (by omega)) hv (by omega)
  simp [wpDef, c_led, n_led, start, cut4]
  refine ⟨mulOk_k x1 y2 (by omega), mulOk_k y1 x2 (by omega), mulOk_k x2 y2 (by omega), go _ _ h1 m1, go _ _ h2 m2, ok _, go _ _ h3 m1, go _ _ h4 m2, ok _, ?_⟩
  rw [led_q, led_q]
  exact q
theorem sz_i {a : Int} {k : Nat} (h : a.natAbs < 2 ^ k) (hk : 0 < k) : sz ((a : Int) : Rat) ≤ k := sz_int h hk
theorem sz_lin {a b : Int} {x y : Rat} {k l : Nat} (ha : a.natAbs < 2 ^ k) (hb : b.natAbs < 2 ^ k) (hx : sz x ≤ l) (hy : sz y ≤ l) (hk : 0 < k) : sz ((a : Rat) * x) ≤ k + l ∧ sz ((b : Rat) * y) ≤ k + l ∧ sz ((a : Rat) * x + b * y) ≤ 2 * k + 2 * l + 1 := by
  have h1 := sz_mul (a : Rat) x
  have h2 := sz_mul (b : Rat) y
  have h3 := sz_add ((a : Rat) * x) (b * y)
  have h4 := sz_i ha hk
  have h5 := sz_i hb hk
  omega
theorem p__law_led (ds : List D) (Q : D → Prop) (E : Xn → Prop) (h : spLed.run ds Q E) : wpDef n__law_led.length (c__law_led spAddQ spMulQ) ds Q E := by
  obtain ⟨a, b, c, d, r, x, y, rfl, ⟨h1, h2, h3, h4⟩, sx, sy, q⟩ := h
  obtain ⟨l1, l2, l3⟩ := sz_lin (a := a) (b := b) h1 h2 sx sy (by omega)
  obtain ⟨l4, l5, l6⟩ := sz_lin (a := c) (b := d) h3 h4 sx sy (by omega)
  have i1 := sz_i h1 (by omega)
  have i2 := sz_i h2 (by omega)
  have i3 := sz_i h3 (by omega)
  have i4 := sz_i h4 (by omega)
  simp [wpDef, c__law_led, n__law_led, start, szk]
  exact ⟨⟨by omega, by omega⟩, ⟨by omega, by omega⟩, ⟨by omega, by omega⟩, ⟨by omega, by omega⟩, ⟨by omega, by omega⟩, ⟨by omega, by omega⟩, q⟩
/-- a movement, a point -/
def mokk (k : Nat) (a b c d : Int) (u v : Rat) : Prop := iok k a b c d ∧ sz u ≤ k ∧ sz v ≤ k
theorem mokk_up {k l : Nat} {a b c d : Int} {u v : Rat} (h : mokk k a b c d u v) (hl : k ≤ l) : mokk l a b c d u v :=
  ⟨⟨up_k h.1.1 hl, up_k h.1.2.1 hl, up_k h.1.2.2.1 hl, up_k h.1.2.2.2 hl⟩, by have := h.2.1; omega, by have := h.2.2; omega⟩
def spMoved : Spec := ⟨fun ds Q _ => ∃ (a b c d : Int) (u v x y : Rat), ds = [mov a b c d u v, ptD x y] ∧ mokk 300 a b c d u v ∧ sz x ≤ 300 ∧ sz y ≤ 300 ∧ Q (ptD ((a : Rat) * x + b * y + u) ((c : Rat) * x + d * y + v)),
  fun _ _ _ _ _ ⟨a, b, c, d, u, v, x, y, e, h1, h2, h3, q⟩ hq _ => ⟨a, b, c, d, u, v, x, y, e, h1, h2, h3, hq _ q⟩⟩
theorem p_moved (ds : List D) (Q : D → Prop) (E : Xn → Prop) (h : spMoved.run ds Q E) : wpDef n_moved.length (c_moved spLed spAddQ) ds Q E := by
  obtain ⟨a, b, c, d, u, v, x, y, rfl, ⟨h0, su, sv⟩, sx, sy, q⟩ := h
  obtain ⟨h1, h2, h3, h4⟩ := id h0
  obtain ⟨l1, l2, l3⟩ := sz_lin (a := a) (b := b) h1 h2 sx sy (by omega)
  obtain ⟨l4, l5, l6⟩ := sz_lin (a := c) (b := d) h3 h4 sx sy (by omega)
  simp [wpDef, c_moved, n_moved, start]
  refine ⟨a, b, c, d, _, x, y, rfl, ⟨up_k h1 (by omega), up_k h2 (by omega), up_k h3 (by omega), up_k h4 (by omega)⟩, by omega, by omega, ?_⟩
  simp [szk]
  exact ⟨⟨by omega, by omega⟩, ⟨by omega, by omega⟩, q⟩
theorem p__law_moved (ds : List D) (Q : D → Prop) (E : Xn → Prop) (h : spMoved.run ds Q E) : wpDef n__law_moved.length (c__law_moved spLed spAddQ) ds Q E := by
  obtain ⟨a, b, c, d, u, v, x, y, rfl, ⟨h0, su, sv⟩, sx, sy, q⟩ := h
  obtain ⟨h1, h2, h3, h4⟩ := id h0
  obtain ⟨l1, l2, l3⟩ := sz_lin (a := a) (b := b) h1 h2 sx sy (by omega)
  obtain ⟨l4, l5, l6⟩ := sz_lin (a := c) (b := d) h3 h4 sx sy (by omega)
  simp [wpDef, c__law_moved, n__law_moved, start]
  refine ⟨a, b, c, d, _, x, y, rfl, ⟨up_k h1 (by omega), up_k h2 (by omega), up_k h3 (by omega), up_k h4 (by omega)⟩, by omega, by omega, ?_⟩
  simp [szk]
  exact ⟨⟨by omega, by omega⟩, ⟨by omega, by omega⟩, q⟩
/-- m, then n -/
def thenD (a b c d : Int) (u v : Rat) (e f g h : Int) (p q : Rat) : D := mov (e * a + f * c) (e * b + f * d) (g * a + h * c) (g * b + h * d) ((e : Rat) * u + f * v + p) ((g : Rat) * u + h * v + q)
def spThen : Spec := ⟨fun ds Q _ => ∃ (a b c d : Int) (u v : Rat) (e f g h : Int) (p q : Rat), ds = [mov a b c d u v, mov e f g h p q] ∧ mokk 300 a b c d u v ∧ mokk 300 e f g h p q ∧ Q (thenD a b c d u v e f g h p q),
  fun _ _ _ _ _ ⟨a, b, c, d, u, v, e, f, g, h, p, q, e1, h1, h2, k⟩ hq _ => ⟨a, b, c, d, u, v, e, f, g, h, p, q, e1, h1, h2, hq _ k⟩⟩
theorem p_then (ds : List D) (Q : D → Prop) (E : Xn → Prop) (h : spThen.run ds Q E) : wpDef n_then.length (c_then spProd spMoved) ds Q E := by
  obtain ⟨a, b, c, d, u, v, e, f, g, h, p, q, rfl, h1, h2, k⟩ := h
  simp [wpDef, c_then, n_then, start]
  refine ⟨a, b, c, d, _, e, f, g, h, _, rfl, (mokk_up h1 (by omega)).1, (mokk_up h2 (by omega)).1, ?_⟩
  simp
  refine ⟨e, f, g, h, p, q, u, v, rfl, h2, h1.2.1, h1.2.2, ?_⟩
  simp
  exact k
theorem p__law_then (ds : List D) (Q : D → Prop) (E : Xn → Prop) (h : spThen.run ds Q E) : wpDef n__law_then.length (c__law_then spProd spMoved) ds Q E := by
  obtain ⟨a, b, c, d, u, v, e, f, g, h, p, q, rfl, h1, h2, k⟩ := h
  simp [wpDef, c__law_then, n__law_then, start]
  refine ⟨a, b, c, d, _, e, f, g, h, _, rfl, (mokk_up h1 (by omega)).1, (mokk_up h2 (by omega)).1, ?_⟩
  simp
  refine ⟨e, f, g, h, p, q, u, v, rfl, h2, h1.2.1, h1.2.2, ?_⟩
  simp
  exact k
end Dl

/-! DlLc: comprehensions: turn by turn, or by what is kept. -/
namespace Dl
open PySem
section
variable {ρ : DEnv} {P : Pn} {Q : D → Prop} {E : Xn → Prop} {it elt e : CE} {ifs es : List CE} {t : CT}
@[simp] theorem ifs_nil {Q : Bool → Prop} : wpIfs [] ρ Q = Q true := by simp only [wpIfs]
@[simp] theorem ifs_cons {Q : Bool → Prop} : wpIfs (e :: es) ρ Q = wpE e ρ (fun d => opt (truD d) fun k => if k = true then wpIfs es ρ Q else Q false) (fun _ => False) := by simp only [wpIfs]; rfl
def lcT (t : CT) (ifs : List CE) (elt : CE) (ρ : DEnv) (x : D) (K : Option D → Prop) : Prop := opt (asgT t x ρ) fun ρ' => wpIfs ifs ρ' fun b => if b = true then wpE elt ρ' (fun y => K (some y)) (fun _ => False) else K none
def lcG (t : CT) (ifs : List CE) (elt : CE) (ρ : DEnv) (xs acc : List D) (Q : List D → Prop) : Prop := wpLc (lcT t ifs elt ρ) xs acc Q
theorem wE_lcx : wpE (.lc t it ifs elt) ρ Q E = wpE it ρ (fun d => opt (items d) fun xs => lcG t ifs elt ρ xs [] fun acc => Q (.lst acc)) E := by
  simp only [wpE]; rfl
@[simp] theorem lcG_nil {acc : List D} {Q : List D → Prop} : lcG t ifs elt ρ [] acc Q = Q acc := by unfold lcG wpLc; rfl
@[simp] theorem lcG_cons {x : D} {xs acc : List D} {Q : List D → Prop} : lcG t ifs elt ρ (x :: xs) acc Q = opt (asgT t x ρ) fun ρ' => wpIfs ifs ρ' fun b => if b = true then wpE elt ρ' (fun y => acc.length < szl ∧ lcG t ifs elt ρ xs (acc ++ [y]) Q) (fun _ => False) else lcG t ifs elt ρ xs acc Q := by
  unfold lcG
  simp only [wpLc]
  rfl
theorem lcG_map (f : D → Option D) {xs : List D} {Q : List D → Prop} (hl : xs.length ≤ szl) (hg : ∀ x ∈ xs, ∀ K : Option D → Prop, K (f x) → lcT t ifs elt ρ x K) (hq : Q (xs.filterMap f)) : lcG t ifs elt ρ xs [] Q :=
  wpLc_map f hg (by simpa using hl) (by simpa using hq)
/-- [elt for t in it if ..], told by what is kept -/
theorem wE_lcm (f : D → Option D) (h : wpE it ρ (fun d => opt (items d) fun xs => xs.length ≤ szl ∧ (∀ x ∈ xs, ∀ K : Option D → Prop, K (f x) → lcT t ifs elt ρ x K) ∧ Q (.lst (xs.filterMap f))) E) : wpE (.lc t it ifs elt) ρ Q E := by
  rw [wE_lcx]
  exact wpE_mono it h (fun d ⟨xs, e, hl, hg, hq⟩ => ⟨xs, e, lcG_map f hl hg hq⟩) fun _ q => q
def lc2T (t t2 : CT) (it2 : CE) (ifs : List CE) (elt : CE) (ρ : DEnv) (x : D) (acc : List D) (K : List D → Prop) : Prop := opt (asgT t x ρ) fun ρ' => wpE it2 ρ' (fun d2 => opt (items d2) fun ys => lcG t2 ifs elt ρ' ys acc K) (fun _ => False)
theorem wE_lc2x {t2 : CT} {it2 : CE} : wpE (.lc2 t it t2 it2 ifs elt) ρ Q E = wpE it ρ (fun d => opt (items d) fun xs => wpLcN (lc2T t t2 it2 ifs elt (wipeD ρ t2.slots)) xs [] fun acc => Q (.lst acc)) E := by
  simp only [wpE]; rfl
theorem lcN_map {g : D → List D → (List D → Prop) → Prop} (N : Nat) (f : D → List D) : ∀ {xs acc : List D} {Q : List D → Prop}, (∀ x ∈ xs, ∀ acc (K : List D → Prop), acc.length + (f x).length ≤ N → K (acc ++ f x) → g x acc K) → acc.length + (xs.flatMap f).length ≤ N → Q (acc ++ xs.flatMap f) → wpLcN g xs acc Q
  | [], acc, Q, _, _, h => by unfold wpLcN; simpa using h
  | x :: xs, acc, Q, hg, hl, h => by
    unfold wpLcN
    rw [List.flatMap_cons] at hl h
    rw [List.length_append] at hl
    refine hg x List.mem_cons_self _ _ (by omega) ?_
    exact lcN_map N f (fun y hy => hg y (List.mem_cons_of_mem _ hy)) (by rw [List.length_append]; omega) (by simpa using h)
/-- [elt for t in it for t2 in it2 if ..], told by what each turn of the first adds -/
theorem wE_lc2m {t2 : CT} {it2 : CE} (N : Nat) (f : D → List D) (h : wpE it ρ (fun d => opt (items d) fun xs => (xs.flatMap f).length ≤ N ∧ (∀ x ∈ xs, ∀ acc (K : List D → Prop), acc.length + (f x).length ≤ N → K (acc ++ f x) → lc2T t t2 it2 ifs elt (wipeD ρ t2.slots) x acc K) ∧ Q (.lst (xs.flatMap f))) E) : wpE (.lc2 t it t2 it2 ifs elt) ρ Q E := by
  rw [wE_lc2x]
  exact wpE_mono it h (fun d ⟨xs, e, hl, hg, hq⟩ => ⟨xs, e, lcN_map N f hg (by simpa using hl) (by simpa using hq)⟩) fun _ q => q
theorem lcG_map' (f : D → Option D) {xs acc : List D} {Q : List D → Prop} (hl : acc.length + xs.length ≤ szl) (hg : ∀ x ∈ xs, ∀ K : Option D → Prop, K (f x) → lcT t ifs elt ρ x K) (hq : Q (acc ++ xs.filterMap f)) : lcG t ifs elt ρ xs acc Q :=
  wpLc_map f hg hl hq
/-- a for loop that adds f y to what is gathered, turn by turn -/
theorem wS_forM {α : Type} {body : List CS} {rd : List Nat} (ys : List α) (g : α → D) (f : α → List D) (acc0 : List D) (I : List D → DEnv → Prop) (N : Nat) (hN : acc0.length + (ys.flatMap f).length ≤ N)
    (h : wpE it ρ (fun d => items d = some (ys.map g) ∧ I acc0 ρ ∧ (∀ y ∈ ys, ∀ acc ρ, acc.length + (f y).length ≤ N → I acc ρ → opt (asgT t (g y) ρ) fun ρ' => wpB body ρ' { P with nx := I (acc ++ f y), ct := I (acc ++ f y), bk := P.nx }) ∧ ∀ ρ, I (acc0 ++ ys.flatMap f) ρ → P.nx ρ) (P.ex ρ)) :
    wpS (.for_ t it rd body) ρ P := by
  refine wS_for (fun i ρ => I (acc0 ++ (ys.take i).flatMap f) ρ) (wpE_mono it h (fun d ⟨e, h0, hs, hd⟩ => ?_) fun _ q => q)
  rw [e, opt_some]
  refine ⟨by simpa using h0, fun i x ρ hx hI => ?_, fun ρ hI => hd ρ ?_⟩
  · rw [List.getElem?_map] at hx
    obtain ⟨y, hy, rfl⟩ := Option.map_eq_some_iff.mp hx
    have hn : (ys.take (i + 1)).flatMap f = (ys.take i).flatMap f ++ f y := by
      rw [List.take_succ, hy]
      simp
    have hi : i < ys.length := (List.getElem?_eq_some_iff.mp hy).1
    have hl : (ys.flatMap f).length = ((ys.take (i + 1)).flatMap f).length + ((ys.drop (i + 1)).flatMap f).length := by
      conv => lhs; rw [← List.take_append_drop (i + 1) ys]
      rw [List.flatMap_append, List.length_append]
    rw [hn, List.length_append] at hl
    have := hs y (List.mem_of_getElem? hy) _ ρ (by rw [List.length_append]; omega) hI
    rw [List.append_assoc, ← hn] at this
    exact this
  · rw [List.length_map, List.take_length] at hI
    exact hI
end
end Dl

/-! DlQf: binary quadratic forms of ints: positive, reduced, and that a reduced one is told by its class. -/
namespace Dl
open PySem
def bf (A B C x y z w : Int) : Int := A * (x * z) + B * (x * w + y * z) + C * (y * w)
abbrev qf (A B C x y : Int) : Int := bf A B C x y x y
def pd (A B C : Int) : Prop := 0 < A ∧ 0 < C ∧ B * B < A * C
def red (A B C : Int) : Prop := 0 ≤ 2 * B ∧ 2 * B ≤ A ∧ A ≤ C ∧ 0 < A
def un (x : Int) : Prop := x = 1 ∨ x = -1
theorem un_sq {x : Int} (h : un x) : x * x = 1 := by rcases h with rfl | rfl <;> rfl
theorem sq0 (x : Int) : 0 ≤ x * x := by
  rcases Int.le_total 0 x with h | h
  · exact Int.mul_nonneg h h
  · exact Int.mul_nonneg_of_nonpos_of_nonpos h h
theorem sq1 {x : Int} (h : x ≠ 0) : 1 ≤ x * x := by
  have := sq0 x
  have : x * x ≠ 0 := Int.mul_ne_zero h h
  omega
theorem red_pd {A B C : Int} (h : red A B C) : pd A B C := by
  obtain ⟨h1, h2, h3, h4⟩ := h
  refine ⟨h4, by omega, ?_⟩
  have a1 : B * B ≤ B * A := Int.mul_le_mul_of_nonneg_left (by omega) (by omega)
  have a2 : (2 * B) * A ≤ A * A := Int.mul_le_mul_of_nonneg_right h2 (by omega)
  have a3 : A * A ≤ A * C := Int.mul_le_mul_of_nonneg_left h3 (by omega)
  have a4 : 0 < A * A := Int.mul_pos h4 h4
  have a5 : 2 * B * A = 2 * (B * A) := by rw [Int.mul_assoc]
  omega
theorem abs_cross (x y : Int) : -(absI x * absI y) ≤ x * y := by
  unfold absI
  split <;> split
  · rw [Int.neg_mul_neg]
    have := Int.mul_nonneg_of_nonpos_of_nonpos (a := x) (b := y) (by omega) (by omega)
    omega
  · rw [Int.neg_mul]
    omega
  · rw [Int.mul_neg]
    omega
  · have := Int.mul_nonneg (a := x) (b := y) (by omega) (by omega)
    omega
theorem abs_sq (x : Int) : absI x * absI x = x * x := by unfold absI; split; exact Int.neg_mul_neg _ _; rfl
theorem abs_nn (x : Int) : 0 ≤ absI x := by unfold absI; split <;> omega
theorem abs_pos {x : Int} (h : x ≠ 0) : 1 ≤ absI x := by unfold absI; split <;> omega
theorem red_low {A B C : Int} (h : red A B C) (x y : Int) : A * (absI x * (absI x - absI y)) + C * (absI y * absI y) ≤ qf A B C x y := by
  obtain ⟨h1, h2, h3, h4⟩ := h
  have c1 := abs_cross x y
  have c2 : 0 ≤ absI x * absI y := Int.mul_nonneg (abs_nn x) (abs_nn y)
  have c3 : (2 * B) * -(absI x * absI y) ≤ (2 * B) * (x * y) := Int.mul_le_mul_of_nonneg_left c1 h1
  have c4 : (2 * B) * (absI x * absI y) ≤ A * (absI x * absI y) := Int.mul_le_mul_of_nonneg_right h2 c2
  have e : qf A B C x y = A * (absI x * absI x) + (2 * B) * (x * y) + C * (absI y * absI y) := by
    rw [abs_sq, abs_sq]
    unfold qf bf
    grind
  rw [e, Int.mul_sub, Int.mul_sub]
  rw [Int.mul_neg] at c3
  omega
theorem red_min2 {A B C x y : Int} (h : red A B C) (hy : y ≠ 0) : C ≤ qf A B C x y := by
  have hl := red_low h x y
  obtain ⟨h1, h2, h3, h4⟩ := h
  have px := abs_nn x
  have py := abs_pos hy
  generalize absI x = X at *
  generalize absI y = Y at *
  rcases Int.le_total Y X with g | g
  · have a1 : 0 ≤ A * (X * (X - Y)) := Int.mul_nonneg (by omega) (Int.mul_nonneg px (by omega))
    have a2 : C * 1 ≤ C * (Y * Y) := Int.mul_le_mul_of_nonneg_left (by have := sq1 (x := Y) (by omega); omega) (by omega)
    omega
  · have a1 : X * (Y - X) * A ≤ X * (Y - X) * C := Int.mul_le_mul_of_nonneg_left h3 (Int.mul_nonneg px (by omega))
    have e1 : A * (X * (X - Y)) = -(X * (Y - X) * A) := by grind
    have e2 : C * (Y * Y) - X * (Y - X) * C = C * (Y * (Y - X) + X * X) := by grind
    have a2 : C * 1 ≤ C * (Y * (Y - X) + X * X) := by
      refine Int.mul_le_mul_of_nonneg_left ?_ (by omega)
      rcases Int.lt_or_eq_of_le g with g | rfl
      · have := Int.mul_pos (a := Y) (b := Y - X) (by omega) (by omega)
        have := sq0 X
        omega
      · have := sq1 (x := X) (by omega)
        rw [Int.sub_self]
        omega
    omega
theorem red_min1 {A B C x y : Int} (h : red A B C) (hy : x ≠ 0 ∨ y ≠ 0) : A ≤ qf A B C x y := by
  by_cases g : y = 0
  · subst g
    have hx : x ≠ 0 := by omega
    obtain ⟨h1, h2, h3, h4⟩ := h
    have e : qf A B C x 0 = A * (x * x) := by unfold qf bf; grind
    rw [e]
    have := Int.mul_le_mul_of_nonneg_left (sq1 hx) (c := A) (by omega)
    omega
  · have := red_min2 (x := x) h g
    obtain ⟨h1, h2, h3, h4⟩ := h
    omega
theorem disc {A B C x y z w : Int} (h : un (x * w - y * z)) : qf A B C x y * qf A B C z w - bf A B C x y z w * bf A B C x y z w = A * C - B * B := by
  have := un_sq h
  have e : qf A B C x y * qf A B C z w - bf A B C x y z w * bf A B C x y z w = (A * C - B * B) * ((x * w - y * z) * (x * w - y * z)) := by unfold qf bf; grind
  rw [e, this, Int.mul_one]
theorem qf_back1 {A B C x y z w : Int} (h : un (x * w - y * z)) : qf (qf A B C x y) (bf A B C x y z w) (qf A B C z w) w (-y) = A := by
  have := un_sq h
  have e : qf (qf A B C x y) (bf A B C x y z w) (qf A B C z w) w (-y) = A * ((x * w - y * z) * (x * w - y * z)) := by unfold qf bf; grind
  rw [e, this, Int.mul_one]
theorem qf_back2 {A B C x y z w : Int} (h : un (x * w - y * z)) : qf (qf A B C x y) (bf A B C x y z w) (qf A B C z w) (-z) x = C := by
  have := un_sq h
  have e : qf (qf A B C x y) (bf A B C x y z w) (qf A B C z w) (-z) x = C * ((x * w - y * z) * (x * w - y * z)) := by unfold qf bf; grind
  rw [e, this, Int.mul_one]
theorem nz_of {x y z w : Int} (h : un (x * w - y * z)) : (x ≠ 0 ∨ y ≠ 0) ∧ (w ≠ 0 ∨ y ≠ 0) ∧ (x ≠ 0 ∨ z ≠ 0) ∧ (z ≠ 0 ∨ w ≠ 0) := by
  refine ⟨?_, ?_, ?_, ?_⟩
  all_goals
    apply Classical.byContradiction
    intro g
    simp only [not_or, Decidable.not_not] at g
    obtain ⟨rfl, rfl⟩ := g
    unfold un at h
    simp at h
theorem red_uniq {A B C x y z w : Int} (h : un (x * w - y * z)) (h1 : red A B C) (h2 : red (qf A B C x y) (bf A B C x y z w) (qf A B C z w)) :
    qf A B C x y = A ∧ bf A B C x y z w = B ∧ qf A B C z w = C := by
  obtain ⟨n1, n2, n3, n4⟩ := nz_of h
  have b1 := qf_back1 (A := A) (B := B) (C := C) h
  have b2 := qf_back2 (A := A) (B := B) (C := C) h
  have dd := disc (A := A) (B := B) (C := C) h
  have a1 := red_min1 (x := x) (y := y) h1 n1
  have a2 := red_min1 (x := w) (y := -y) h2 (by omega)
  rw [b1] at a2
  have c1 : C ≤ qf A B C z w := by
    by_cases g : y = 0
    · exact red_min2 h1 (by omega)
    · have := red_min2 (x := x) h1 g
      obtain ⟨_, _, _, _⟩ := h2
      omega
  have c2 : qf A B C z w ≤ C := by
    by_cases g : y = 0
    · have := red_min2 (x := -z) (y := x) h2 (by omega)
      omega
    · have := red_min2 (x := w) (y := -y) h2 (by omega)
      obtain ⟨_, _, _, _⟩ := h1
      omega
  have e1 : qf A B C x y = A := by omega
  have e2 : qf A B C z w = C := by omega
  refine ⟨e1, ?_, e2⟩
  rw [e1, e2] at dd
  obtain ⟨p1, _⟩ := h1
  obtain ⟨p2, _⟩ := h2
  generalize bf A B C x y z w = B' at *
  have e3 : (B' - B) * (B' + B) = 0 := by grind
  rcases Int.mul_eq_zero.mp e3 with g | g <;> omega
/-! ### positive forms -/
theorem pd_sq {A B C : Int} (x y : Int) : A * qf A B C x y = (A * x + B * y) * (A * x + B * y) + (A * C - B * B) * (y * y) := by unfold qf bf; grind
theorem pd_sq' {A B C : Int} (x y : Int) : C * qf A B C x y = (C * y + B * x) * (C * y + B * x) + (A * C - B * B) * (x * x) := by unfold qf bf; grind
theorem pd_bound {A B C x y M : Int} (h : pd A B C) (ha : A ≤ M) (hc : C ≤ M) (hq : qf A B C x y ≤ M) : absI x ≤ M ∧ absI y ≤ M := by
  obtain ⟨h1, h2, h3⟩ := h
  have go : ∀ u t : Int, 0 < t → t ≤ M → u * u ≤ t * M → absI u ≤ M := by
    intro u t ht htm hu
    rw [← abs_sq] at hu
    have := abs_nn u
    apply Int.le_of_not_gt
    intro g
    have k1 : M * M < absI u * absI u := Int.lt_of_lt_of_le (Int.mul_lt_mul_of_pos_right g (by omega)) (Int.mul_le_mul_of_nonneg_left (by omega) (by omega))
    have k2 : t * M ≤ M * M := Int.mul_le_mul_of_nonneg_right htm (by omega)
    omega
  have one : ∀ u : Int, u * u ≤ (A * C - B * B) * (u * u) := fun u => by
    have := Int.mul_le_mul_of_nonneg_right (a := 1) (b := A * C - B * B) (c := u * u) (by omega) (sq0 u)
    omega
  refine ⟨go x C h2 hc ?_, go y A h1 ha ?_⟩
  · have e := pd_sq' (A := A) (B := B) (C := C) x y
    have := sq0 (C * y + B * x)
    have := one x
    have := Int.mul_le_mul_of_nonneg_left hq (c := C) (by omega)
    omega
  · have e := pd_sq (A := A) (B := B) (C := C) x y
    have := sq0 (A * x + B * y)
    have := one y
    have := Int.mul_le_mul_of_nonneg_left hq (c := A) (by omega)
    omega
theorem pd_pos {A B C x y : Int} (h : pd A B C) (hn : x ≠ 0 ∨ y ≠ 0) : 0 < qf A B C x y := by
  obtain ⟨h1, h2, h3⟩ := h
  have e := pd_sq (A := A) (B := B) (C := C) x y
  have e' := pd_sq' (A := A) (B := B) (C := C) x y
  have s1 := sq0 (A * x + B * y)
  have s2 := sq0 (C * y + B * x)
  by_cases g : y = 0
  · have g' : x ≠ 0 := by omega
    have := Int.mul_pos (a := A * C - B * B) (b := x * x) (by omega) (by have := sq1 g'; omega)
    exact Int.pos_of_mul_pos_right (a := C) (by omega) (by omega)
  · have := Int.mul_pos (a := A * C - B * B) (b := y * y) (by omega) (by have := sq1 g; omega)
    exact Int.pos_of_mul_pos_right (a := A) (by omega) (by omega)
theorem pd_of {A B C x y z w : Int} (h : pd A B C) (hu : un (x * w - y * z)) : pd (qf A B C x y) (bf A B C x y z w) (qf A B C z w) := by
  obtain ⟨n1, n2, n3, n4⟩ := nz_of hu
  have d := disc (A := A) (B := B) (C := C) hu
  exact ⟨pd_pos h n1, pd_pos h n4, by obtain ⟨_, _, h3⟩ := h; omega⟩
/-- one step of the reduction -/
theorem bf_step (A B C x y z w k : Int) : bf A B C x y (z - k * x) (w - k * y) = bf A B C x y z w - k * qf A B C x y := by unfold qf bf; grind
theorem qf_step {A B C x y z w k : Int} (hq : 0 < qf A B C x y) (h1 : -qf A B C x y ≤ 2 * (bf A B C x y z w - k * qf A B C x y)) (h2 : 2 * (bf A B C x y z w - k * qf A B C x y) < qf A B C x y) : qf A B C (z - k * x) (w - k * y) ≤ qf A B C z w := by
  have e : qf A B C (z - k * x) (w - k * y) = qf A B C z w - k * (k * qf A B C x y + 2 * (bf A B C x y z w - k * qf A B C x y)) := by unfold qf bf; grind
  rw [e]
  generalize qf A B C x y = q at *
  generalize bf A B C x y z w - k * q = r at *
  have : 0 ≤ k * (k * q + 2 * r) := by
    rcases Int.lt_trichotomy k 0 with g | rfl | g
    · refine Int.mul_nonneg_of_nonpos_of_nonpos (by omega) ?_
      have := Int.mul_le_mul_of_nonneg_right (a := k) (b := -1) (c := q) (by omega) (by omega)
      omega
    · omega
    · refine Int.mul_nonneg (by omega) ?_
      have := Int.mul_le_mul_of_nonneg_right (a := 1) (b := k) (c := q) (by omega) (by omega)
      omega
  omega
theorem un_step {x y z w : Int} (k : Int) (h : un (x * w - y * z)) : un (x * (w - k * y) - y * (z - k * x)) := by
  have e : x * (w - k * y) - y * (z - k * x) = x * w - y * z := by grind
  rw [e]; exact h
theorem un_swap {x y z w : Int} (h : un (x * w - y * z)) : un (z * y - w * x) := by
  have e : z * y - w * x = -(x * w - y * z) := by grind
  rw [e]
  rcases h with h | h <;> rw [h] <;> simp [un]
theorem un_negR {x y z w : Int} (h : un (x * w - y * z)) : un (x * (-w) - y * (-z)) := by
  have e : x * (-w) - y * (-z) = -(x * w - y * z) := by grind
  rw [e]
  rcases h with h | h <;> rw [h] <;> simp [un]
/-- the integer nearest to a fraction of ints -/
theorem near_q {b q : Int} (hq : 0 < q) {f : Rat} (hf : f = (b : Rat) / (q : Rat)) : -q ≤ 2 * (b - (2 * f.num + (f.den : Int)).fdiv (2 * (f.den : Int)) * q) ∧ 2 * (b - (2 * f.num + (f.den : Int)).fdiv (2 * (f.den : Int)) * q) < q := by
  have hd : (0 : Int) < f.den := by have := f.den_pos; omega
  have e : f.num * q = b * (f.den : Int) := by
    have h1 : f = (f.num : Rat) / ((f.den : Int) : Rat) := by
      rw [← Rat.divInt_eq_div]
      exact (Rat.num_divInt_den f).symm
    have hq' : (q : Rat) ≠ 0 := by
      intro h; have := Rat.intCast_eq_zero_iff.mp h; omega
    have hd' : ((f.den : Int) : Rat) ≠ 0 := by
      intro h; have := Rat.intCast_eq_zero_iff.mp h; omega
    have h2 : (f.num : Rat) * (q : Rat) = (b : Rat) * ((f.den : Int) : Rat) := by grind
    rw [← Rat.intCast_mul, ← Rat.intCast_mul] at h2
    exact Rat.intCast_inj.mp h2
  have hm := Int.mul_fdiv_add_fmod (2 * f.num + (f.den : Int)) (2 * (f.den : Int))
  have m1 := Int.fmod_nonneg_of_pos (2 * f.num + (f.den : Int)) (b := 2 * (f.den : Int)) (by omega)
  have m2 := Int.fmod_lt_of_pos (2 * f.num + (f.den : Int)) (b := 2 * (f.den : Int)) (by omega)
  generalize (2 * f.num + (f.den : Int)).fdiv (2 * (f.den : Int)) = k at *
  generalize (2 * f.num + (f.den : Int)).fmod (2 * (f.den : Int)) = r at *
  generalize (f.den : Int) = d at *
  have e2 : d * (2 * (b - k * q) + q) = r * q := by grind
  have k1 : 0 ≤ r * q := Int.mul_nonneg m1 (by omega)
  have k2 : r * q < 2 * d * q := Int.mul_lt_mul_of_pos_right m2 hq
  have k3 : 0 ≤ 2 * (b - k * q) + q := Int.nonneg_of_mul_nonneg_right (a := d) (by omega) hd
  have k4 : 2 * (b - k * q) + q < 2 * q := by
    refine Int.lt_of_mul_lt_mul_left (a := d) ?_ (by omega)
    have : d * (2 * q) = 2 * d * q := by grind
    omega
  omega
end Dl

/-! DlRed: cells as forms over one denominator; a reduced basis. -/
namespace Dl
open PySem
theorem lt_big' {x k : Nat} (h : x < 2 ^ k) (hk : k ≤ 4000) : x < big := Nat.lt_of_lt_of_le h (Nat.pow_le_pow_right (by omega) hk)
theorem fqI (x : Int) : sz (x : Rat) = sz ((x : Int) : Rat) := rfl
/-! ### fraction(n), whole_vector, divided, nearest -/
def spFr1Q : Spec := ⟨fun ds Q _ => ∃ n : Int, ds = [.int n] ∧ Q (fq (n : Rat)), fun _ _ _ _ _ ⟨n, e, q⟩ hq _ => ⟨n, e, hq _ q⟩⟩
@[simp] theorem run_fr1Q {n : Int} {Q : D → Prop} {E : Xn → Prop} : spFr1Q.run [.int n] Q E = Q (fq (n : Rat)) := by
  apply propext
  constructor
  · rintro ⟨m, e, q⟩
    simp at e
    subst e
    exact q
  · exact fun q => ⟨n, rfl, q⟩
theorem fr1Q_of (xs : List D) (Q : D → Prop) (E : Xn → Prop) (_ : xs.length = 1) (h : spFr1Q.run xs Q E) : spFr.run (xs ++ [.int 1]) Q E := by
  obtain ⟨n, rfl, h⟩ := h
  show spFr.run [.int n, .int 1] Q E
  rw [run_frQ]
  refine ⟨⟨by decide, by unfold big; decide⟩, ?_⟩
  have e : Rat.divInt n 1 = (n : Rat) := by rw [Rat.divInt_eq_div, Rat.div_def, show ((1 : Int) : Rat)⁻¹ = 1 from by decide +kernel, Rat.mul_one]
  rw [e]
  exact h
abbrev v2 (x y : Int) : D := .tup [.int x, .int y]
def spWhole : Spec := ⟨fun ds Q _ => ∃ x y : Int, ds = [v2 x y] ∧ Q (ptD (x : Rat) (y : Rat)), fun _ _ _ _ _ ⟨x, y, e, q⟩ hq _ => ⟨x, y, e, hq _ q⟩⟩
@[simp] theorem run_whole {x y : Int} {Q : D → Prop} {E : Xn → Prop} : spWhole.run [v2 x y] Q E = Q (ptD (x : Rat) (y : Rat)) := by
  apply propext
  constructor
  · rintro ⟨m, l, e, q⟩
    simp at e
    obtain ⟨rfl, rfl⟩ := e
    exact q
  · exact fun q => ⟨x, y, rfl, q⟩
theorem p_whole_vector (ds : List D) (Q : D → Prop) (E : Xn → Prop) (h : spWhole.run ds Q E) : wpDef n_whole_vector.length (c_whole_vector spFr1Q) ds Q E := by
  obtain ⟨x, y, rfl, q⟩ := h
  simp [wpDef, c_whole_vector, n_whole_vector, start]
  exact q
def spDivQ : Spec := ⟨fun ds Q _ => ∃ a b, ds = [fq a, fq b] ∧ szk 1800 a b ∧ b ≠ 0 ∧ Q (fq (a / b)), fun _ _ _ _ _ ⟨a, b, e, h, h', q⟩ hq _ => ⟨a, b, e, h, h', hq _ q⟩⟩
@[simp] theorem run_divQ {a b : Rat} {Q : D → Prop} {E : Xn → Prop} : spDivQ.run [fq a, fq b] Q E = (szk 1800 a b ∧ b ≠ 0 ∧ Q (fq (a / b))) := by
  apply propext
  constructor
  · rintro ⟨a', b', e, h⟩
    simp at e
    obtain ⟨e1, e2⟩ := e
    cases fq_inj e1
    cases fq_inj e2
    exact h
  · exact fun h => ⟨a, b, rfl, h⟩
theorem divF_q {a b : Rat} (hb : b ≠ 0) : Rat.divInt (a.num * (b.den : Int)) ((a.den : Int) * b.num) = a / b := by
  rw [← Rat.divInt_mul_divInt]
  rw [Rat.num_divInt_den, ← Rat.inv_divInt, Rat.num_divInt_den, Rat.div_def]
theorem p_divided (ds : List D) (Q : D → Prop) (E : Xn → Prop) (h : spDivQ.run ds Q E) : wpDef n_divided.length (c_divided spFr) ds Q E := by
  obtain ⟨a, b, rfl, ⟨h1, h2⟩, h3, q⟩ := h
  obtain ⟨a1, a2⟩ := num_k h1
  obtain ⟨b1, b2⟩ := num_k h2
  simp [wpDef, c_divided, n_divided, start]
  refine ⟨mulOk_k a1 b2 (by omega), mulOk_k a2 b1 (by omega), ⟨?_, lt_big' (mul_k a2 b1) (by omega)⟩, ?_⟩
  · refine Int.mul_ne_zero (by have := a.den_nz; omega) ?_
    intro h
    exact h3 (Rat.num_eq_zero.mp h)
  · rw [divF_q h3]
    exact q
def nearI (q : Rat) : Int := (2 * q.num + (q.den : Int)).fdiv (2 * (q.den : Int))
theorem nearI_q {b q k : Int} (hq : 0 < q) (h : nearI ((b : Rat) / (q : Rat)) = k) : -q ≤ 2 * (b - k * q) ∧ 2 * (b - k * q) < q := by
  have := near_q (b := b) hq rfl
  rw [← h]
  exact this
def spNear : Spec := ⟨fun ds Q _ => ∃ q, ds = [fq q] ∧ sz q ≤ 3900 ∧ Q (.int (nearI q)), fun _ _ _ _ _ ⟨q, e, h, k⟩ hq _ => ⟨q, e, h, hq _ k⟩⟩
@[simp] theorem run_near {q : Rat} {Q : D → Prop} {E : Xn → Prop} : spNear.run [fq q] Q E = (sz q ≤ 3900 ∧ Q (.int (nearI q))) := by
  apply propext
  constructor
  · rintro ⟨a', e, h⟩
    simp at e
    cases fq_inj e
    exact h
  · exact fun h => ⟨q, rfl, h⟩
theorem mulOk_k2 {a b : Int} {k : Nat} (ha : a.natAbs < 2 ^ k) (hb : b.natAbs < 2 ^ k) (hk : k ≤ 4000) (h0 : 0 < k) : MulOk a b := by
  have := log2_of ha h0
  have := log2_of hb h0
  unfold MulOk
  omega
theorem p_nearest (ds : List D) (Q : D → Prop) (E : Xn → Prop) (h : spNear.run ds Q E) : wpDef n_nearest.length c_nearest ds Q E := by
  obtain ⟨q, rfl, h, k⟩ := h
  obtain ⟨a1, a2⟩ := num_k h
  have t : (2 : Int).natAbs < 2 ^ 3900 := Nat.lt_of_lt_of_le (by decide : (2 : Int).natAbs < 2 ^ 2) (Nat.pow_le_pow_right (by omega) (by omega))
  simp [wpDef, c_nearest, n_nearest, start]
  refine ⟨mulOk_k2 t a1 (by omega) (by omega), mulOk_k2 t a2 (by omega) (by omega), ?_, k⟩
  refine divOk_big (by have := q.den_nz; omega) (lt_big' (k := 2 + 3900) (mul_k (by decide) a2) (by omega))
/-! ### a cell over one denominator -/
def cellI (N A B C : Int) : D := cellD ((A : Rat) / (N : Rat)) ((B : Rat) / (N : Rat)) ((C : Rat) / (N : Rat))
theorem sc_bf {N A B C x y z w : Int} : sc ((A : Rat) / (N : Rat)) ((B : Rat) / (N : Rat)) ((C : Rat) / (N : Rat)) (x : Rat) (y : Rat) (z : Rat) (w : Rat) = ((bf A B C x y z w : Int) : Rat) / (N : Rat) := by
  unfold sc bf
  simp only [Rat.intCast_add, Rat.intCast_mul, Rat.div_def]
  grind
theorem sz_over {a N : Int} {k : Nat} (ha : a.natAbs < 2 ^ k) (hN : N.natAbs < 2 ^ k) (hk : 0 < k) : sz ((a : Rat) / (N : Rat)) ≤ k := by
  rw [← Rat.divInt_eq_div]
  exact sz_divInt ha hN hk
theorem ratN_pos {N : Int} (h : 0 < N) : (0 : Rat) < (N : Rat) := Rat.intCast_pos.mpr h
theorem over_lt {a b N : Int} (h : 0 < N) : ((a : Rat) / (N : Rat) < (b : Rat) / (N : Rat)) ↔ a < b := by
  have hp := ratN_pos h
  rw [Rat.div_lt_iff hp, Rat.div_mul_cancel (by intro e; rw [e] at hp; exact absurd hp (by decide))]
  exact Rat.intCast_lt_intCast
theorem over_lt0 {a N : Int} (h : 0 < N) : ((a : Rat) / (N : Rat) < 0) ↔ a < 0 := by
  have e1 : (((0 : Int) : Rat) / (N : Rat)) = 0 := by rw [Rat.div_def]; exact Rat.zero_mul _
  rw [← e1]
  exact over_lt h
theorem over_div {a b N : Int} (h : 0 < N) : ((a : Rat) / (N : Rat)) / ((b : Rat) / (N : Rat)) = (a : Rat) / (b : Rat) := by
  have hp : (N : Rat) ≠ 0 := by intro e; have := Rat.intCast_eq_zero_iff.mp e; omega
  grind
theorem abs_nat {x M : Int} {k : Nat} (h : absI x ≤ M) (hm : M < 2 ^ k) : x.natAbs < 2 ^ k := by
  rw [absI_eq] at h
  have : ((x.natAbs : Nat) : Int) < ((2 ^ k : Nat) : Int) := by
    rw [Int.natCast_pow]
    exact Int.lt_of_le_of_lt h hm
  exact_mod_cast this
theorem sq_le_abs {b M : Int} (h : b * b ≤ M * M) (hm : 0 ≤ M) : absI b ≤ M := by
  rw [← abs_sq] at h
  have := abs_nn b
  apply Int.le_of_not_gt
  intro g
  have := Int.mul_lt_mul_of_pos_right g (c := M + 1) (by omega)
  have := Int.mul_le_mul_of_nonneg_left (a := M + 1) (b := absI b) (c := absI b) (by omega) (by omega)
  have e : M * (M + 1) = M * M + M := by grind
  omega
theorem pd_b {A B C M : Int} (h : pd A B C) (ha : A ≤ M) (hc : C ≤ M) : absI B ≤ M := by
  obtain ⟨h1, h2, h3⟩ := h
  refine sq_le_abs ?_ (by omega)
  have := Int.mul_le_mul (a := A) (b := C) (c := M) (d := M) ha hc (by omega) (by omega)
  omega
theorem near_abs {b q k M : Int} (hq : 0 < q) (hb : absI b ≤ M) (h1 : -q ≤ 2 * (b - k * q)) (h2 : 2 * (b - k * q) < q) : absI k ≤ M := by
  have hM := abs_nn b
  have hb' : -M ≤ b ∧ b ≤ M := by unfold absI at hb; split at hb <;> omega
  have k1 : k ≤ M := by
    apply Int.le_of_not_gt
    intro g
    have a1 := Int.mul_le_mul_of_nonneg_right (a := M + 1) (b := k) (c := q) (by omega) (by omega)
    have a2 := Int.mul_le_mul_of_nonneg_left (a := 1) (b := q) (c := M) (by omega) (by omega)
    have e : (M + 1) * q = M * q + q := by grind
    omega
  have k2 : -M ≤ k := by
    apply Int.le_of_not_gt
    intro g
    have a1 := Int.mul_le_mul_of_nonneg_right (a := k) (b := -M - 1) (c := q) (by omega) (by omega)
    have a2 := Int.mul_le_mul_of_nonneg_left (a := 1) (b := q) (c := M) (by omega) (by omega)
    have e : (-M - 1) * q = -(M * q) - q := by grind
    omega
  unfold absI
  split <;> omega
def halfed (q b : Int) : Prop := -q ≤ 2 * b ∧ 2 * b < q
def spRed : Spec := ⟨fun ds Q _ => ∃ N A B C : Int, ds = [cellI N A B C] ∧ 0 < N ∧ N.natAbs < 2 ^ 100 ∧ pd A B C ∧ A < 2 ^ 100 ∧ C < 2 ^ 100 ∧
    ∀ x y z w : Int, un (x * w - y * z) → red (qf A B C x y) (bf A B C x y z w) (qf A B C z w) → iok 100 x y z w → qf A B C z w < 2 ^ 100 → Q (.tup [v2 x y, v2 z w]),
  fun _ _ _ _ _ ⟨N, A, B, C, e, h1, h2, h3, h4, h5, h6⟩ hq _ => ⟨N, A, B, C, e, h1, h2, h3, h4, h5, fun x y z w a b c d => hq _ (h6 x y z w a b c d)⟩⟩
def iRed (N A B C M : Int) (ρ : DEnv) : Prop := ∃ (x y z w : Int) (k : Bool) (o4 o5 : Option D), ρ = [some (cellI N A B C), some (v2 x y), some (v2 z w), some (.bl k), o4, o5] ∧ un (x * w - y * z) ∧ qf A B C x y ≤ M ∧ qf A B C z w ≤ M ∧ (k = false → halfed (qf A B C x y) (bf A B C x y z w) ∧ qf A B C x y ≤ qf A B C z w)
def mRed (A B C : Int) : DEnv → Nat
  | [_, some (.tup [.int x, .int y]), _, some (.bl true), _, _] => (qf A B C x y).toNat + 1
  | _ => 0
theorem szBf {N A B C x y z w M : Int} (hN : N.natAbs < 2 ^ 100) (hp : pd A B C) (hA : A ≤ M) (hC : C ≤ M) (hM : M < 2 ^ 100) (h1 : qf A B C x y ≤ M) (h2 : qf A B C z w ≤ M) :
    szSc ((A : Rat) / (N : Rat)) ((B : Rat) / (N : Rat)) ((C : Rat) / (N : Rat)) (x : Rat) (y : Rat) (z : Rat) (w : Rat) ∧ sz (((bf A B C x y z w : Int) : Rat) / (N : Rat)) ≤ 1200 ∧ iok 100 x y z w := by
  have b0 := abs_nat (pd_b hp hA hC) hM
  have a0 := abs_nat (x := A) (M := M) (by obtain ⟨h, _, _⟩ := hp; unfold absI; rw [if_neg (by omega)]; exact hA) hM
  have c0 := abs_nat (x := C) (M := M) (by obtain ⟨_, h, _⟩ := hp; unfold absI; rw [if_neg (by omega)]; exact hC) hM
  obtain ⟨p1, p2⟩ := pd_bound hp hA hC h1
  obtain ⟨p3, p4⟩ := pd_bound hp hA hC h2
  have x0 := abs_nat p1 hM
  have y0 := abs_nat p2 hM
  have z0 := abs_nat p3 hM
  have w0 := abs_nat p4 hM
  have s1 := sz_over a0 hN (by omega)
  have s2 := sz_over b0 hN (by omega)
  have s3 := sz_over c0 hN (by omega)
  have t1 := sz_i x0 (by omega)
  have t2 := sz_i y0 (by omega)
  have t3 := sz_i z0 (by omega)
  have t4 := sz_i w0 (by omega)
  refine ⟨⟨by omega, by omega, by omega, by omega, by omega, by omega, by omega⟩, ?_, x0, y0, z0, w0⟩
  have := (sz_sc s1 s2 s3 t1 t2 t3 t4).2.2.2.2.2.2.2.2.2
  rw [sc_bf] at this
  omega
theorem sz_inv (a : Rat) : sz a⁻¹ ≤ sz a := by
  rw [Rat.inv_def]
  obtain ⟨h1, h2⟩ := lt_sz a
  exact sz_divInt (by simpa using h2) h1 (sz_pos a)
theorem sz_divQ {a b : Rat} (_ : b ≠ 0) : sz (a / b) ≤ sz a + sz b := by
  rw [Rat.div_def]
  have := sz_mul a b⁻¹
  have := sz_inv b
  omega
theorem run_scI {N A B C x y z w : Int} {Q : D → Prop} {E : Xn → Prop} : spScalar.run [cellI N A B C, ptD (x : Rat) (y : Rat), ptD (z : Rat) (w : Rat)] Q E = (szSc ((A : Rat) / (N : Rat)) ((B : Rat) / (N : Rat)) ((C : Rat) / (N : Rat)) (x : Rat) (y : Rat) (z : Rat) (w : Rat) ∧ Q (fq (((bf A B C x y z w : Int) : Rat) / (N : Rat)))) := by
  unfold cellI
  rw [run_scalar, sc_bf]
theorem p_reduced_basis (ds : List D) (Q : D → Prop) (E : Xn → Prop) (h : spRed.run ds Q E) : wpDef n_reduced_basis.length (c_reduced_basis spScalar spWhole spNear spDivQ spLessQ) ds Q E := by
  obtain ⟨N, A, B, C, rfl, hN, hN', hp, hA, hC, hq⟩ := h
  have hM : ∃ M : Int, A ≤ M ∧ C ≤ M ∧ M < 2 ^ 100 := ⟨max A C, by omega, by omega, by omega⟩
  obtain ⟨M, ha, hc, hM⟩ := hM
  have z0 : sz (0 : Rat) = 1 := by decide
  have fz : D.tup [.int 0, .int 1] = fq 0 := rfl
  refine wB_cut 3 (fun ρ => ρ = [some (cellI N A B C), some (v2 1 0), some (v2 0 1), some (.bl true), none, none]) ?_ ?_
  · simp [c_reduced_basis, n_reduced_basis, start]
  rintro _ rfl
  refine wB_cut 1 (fun ρ => ∃ (x y z w : Int) (o4 o5 : Option D), ρ = [some (cellI N A B C), some (v2 x y), some (v2 z w), some (.bl false), o4, o5] ∧ un (x * w - y * z) ∧ qf A B C x y ≤ M ∧ qf A B C z w ≤ M ∧ halfed (qf A B C x y) (bf A B C x y z w) ∧ qf A B C x y ≤ qf A B C z w) ?_ ?_
  · simp [c_reduced_basis, -wB_cons]
    simp only [wB_cons, wB_nil]
    refine wS_whl (iRed N A B C M) (mRed A B C) ⟨1, 0, 0, 1, true, none, none, rfl, .inl (by decide), ?_, ?_, by intro h; cases h⟩ ?_
    · have e : qf A B C 1 0 = A := by unfold qf bf; grind
      omega
    · have e : qf A B C 0 1 = C := by unfold qf bf; grind
      omega
    · rintro _ ⟨x, y, z, w, k, o4, o5, rfl, hu, h1, h2, h3⟩
      cases k with
      | false =>
        obtain ⟨h3, h4⟩ := h3 rfl
        simp
        exact ⟨x, y, z, w, ⟨⟨rfl, rfl⟩, rfl, rfl⟩, hu, h1, h2, h3, h4⟩
      | true =>
        obtain ⟨n1, n2, n3, n4⟩ := nz_of hu
        have qp := pd_pos hp n1
        obtain ⟨c1, c2, c3⟩ := szBf hN' hp ha hc hM h1 h1
        obtain ⟨d1, d2, d3⟩ := szBf hN' hp ha hc hM h1 h2
        have hp' := pd_of hp hu
        have hb := pd_b hp' h1 h2
        have hn : ((qf A B C x y : Int) : Rat) / (N : Rat) ≠ 0 := by
          intro e
          have e1 : ((0 : Int) : Rat) / (N : Rat) = 0 := by rw [Rat.div_def]; exact Rat.zero_mul _
          have := (over_lt (a := 0) (b := qf A B C x y) hN).mpr qp
          rw [e, e1] at this
          exact absurd this (by decide)
        have hs := sz_divQ (a := ((bf A B C x y z w : Int) : Rat) / (N : Rat)) (b := ((bf A B C x y x y : Int) : Rat) / (N : Rat)) hn
        obtain ⟨κ, hκ⟩ : ∃ κ, nearI (((bf A B C x y z w : Int) : Rat) / ((qf A B C x y : Int) : Rat)) = κ := ⟨_, rfl⟩
        obtain ⟨hn1, hn2⟩ := nearI_q (b := bf A B C x y z w) qp hκ
        rw [over_div hN] at hs
        replace hs : sz (((bf A B C x y z w : Int) : Rat) / ((bf A B C x y x y : Int) : Rat)) ≤ 3000 := Nat.le_trans hs (by omega)
        have hk := near_abs qp hb hn1 hn2
        have hst := qf_step qp hn1 hn2
        have hbs := bf_step A B C x y z w κ
        have hus := un_step κ hu
        obtain ⟨e1, e2, e3⟩ := szBf (x := x) (y := y) (z := z - κ * x) (w := w - κ * y) hN' hp ha hc hM h1 (by omega)
        obtain ⟨f1, f2, f3⟩ := szBf (x := z - κ * x) (y := w - κ * y) (z := z - κ * x) (w := w - κ * y) hN' hp ha hc hM (by omega) (by omega)
        have k0 := abs_nat hk hM
        have m1 := mulOk_k k0 d3.1 (by omega)
        have m2 := mulOk_k k0 d3.2.1 (by omega)
        simp [run_scI, c1, d1, f1, szk, over_div hN, hκ, hn, over_lt hN, m1, m2, -Rat.intCast_sub, -Rat.intCast_mul]
        refine ⟨by omega, by omega, ?_⟩
        by_cases g : qf A B C (z - κ * x) (w - κ * y) < qf A B C x y
        · refine ⟨⟨by omega, by omega⟩, ?_⟩
          rw [if_pos g, show decide (bf A B C (z - κ * x) (w - κ * y) (z - κ * x) (w - κ * y) < bf A B C x y x y) = true from decide_eq_true g]
          refine ⟨⟨z - κ * x, w - κ * y, x, y, true, _, _, rfl, un_swap hus, by omega, by omega, by intro h; cases h⟩, ?_⟩
          show (qf A B C (z - κ * x) (w - κ * y)).toNat + 1 < (qf A B C x y).toNat + 1
          omega
        · refine ⟨⟨by omega, by omega⟩, ?_⟩
          rw [if_neg g, show decide (bf A B C (z - κ * x) (w - κ * y) (z - κ * x) (w - κ * y) < bf A B C x y x y) = false from decide_eq_false g]
          refine ⟨⟨x, y, z - κ * x, w - κ * y, false, _, _, rfl, hus, by omega, by omega, fun _ => ⟨?_, by omega⟩⟩, ?_⟩
          · unfold halfed
            rw [hbs]
            omega
          · show 0 < (qf A B C x y).toNat + 1
            omega
  · rintro _ ⟨x, y, z, w, o4, o5, rfl, hu, h1, h2, h3, h4⟩
    obtain ⟨d1, d2, d3⟩ := szBf hN' hp ha hc hM h1 h2
    obtain ⟨n1, n2, n3, n4⟩ := nz_of hu
    have qp := pd_pos hp n1
    have e0 : (fq 0 : D) = fq (((0 : Int) : Rat) / (N : Rat)) := by rw [Rat.div_def]; show _ = fq (0 * _); rw [Rat.zero_mul]
    have e1 : (((0 : Int) : Rat) / (N : Rat)) = 0 := by rw [Rat.div_def]; exact Rat.zero_mul _
    obtain ⟨hh1, hh2⟩ := h3
    simp [c_reduced_basis, run_scI, d1, szk, fz, -fold_int, -Rat.intCast_sub, -Rat.intCast_mul]
    simp only [over_lt0 hN]
    refine ⟨by omega, ?_⟩
    split
    · rename_i g
      refine hq _ _ _ _ (un_negR hu) ?_ ?_ ?_
      · have t1 : qf A B C (-z) (-w) = qf A B C z w := by unfold qf bf; grind
        have t2 : bf A B C x y (-z) (-w) = - bf A B C x y z w := by unfold bf; grind
        rw [t1, t2]
        exact ⟨by omega, by omega, by omega, qp⟩
      · obtain ⟨i1, i2, i3, i4⟩ := d3
        exact ⟨i1, i2, by rw [Int.natAbs_neg]; exact i3, by rw [Int.natAbs_neg]; exact i4⟩
      · have t1 : qf A B C (-z) (-w) = qf A B C z w := by unfold qf bf; grind
        rw [t1]
        omega
    · exact hq _ _ _ _ hu ⟨by omega, by omega, by omega, qp⟩ d3 (by omega)
end Dl

/-! DlK01: the law of movements, in plain Lean. -/
namespace Dl
open PySem
/-! ### back -/
def backD (a b c d : Int) (u v : Rat) : D := mov ((a * d - b * c) * d) (-((a * d - b * c) * b)) (-((a * d - b * c) * c)) ((a * d - b * c) * a)
  (-((((a * d - b * c) * d : Int) : Rat) * u + ((-((a * d - b * c) * b) : Int) : Rat) * v)) (-(((-((a * d - b * c) * c) : Int) : Rat) * u + (((a * d - b * c) * a : Int) : Rat) * v))
def spBack : Spec := ⟨fun ds Q _ => ∃ (a b c d : Int) (u v : Rat), ds = [mov a b c d u v] ∧ mokk 100 a b c d u v ∧ Q (backD a b c d u v), fun _ _ _ _ _ ⟨a, b, c, d, u, v, e, h, q⟩ hq _ => ⟨a, b, c, d, u, v, e, h, hq _ q⟩⟩
theorem rev_k {a b c d : Int} {k : Nat} (h : iok k a b c d) : iok (3 * k + 1) ((a * d - b * c) * d) (-((a * d - b * c) * b)) (-((a * d - b * c) * c)) ((a * d - b * c) * a) := by
  have hd := det_k h
  obtain ⟨h1, h2, h3, h4⟩ := h
  have e : k + k + 1 + k = 3 * k + 1 := by omega
  refine ⟨?_, ?_, ?_, ?_⟩
  · rw [← e]; exact mul_k hd h4
  · rw [Int.natAbs_neg, ← e]; exact mul_k hd h2
  · rw [Int.natAbs_neg, ← e]; exact mul_k hd h3
  · rw [← e]; exact mul_k hd h1
@[simp] theorem zero_subQ {q : Rat} : (0 : Rat) - q = -q := by rw [Rat.sub_eq_add_neg, Rat.zero_add]
@[simp] theorem fold_00 : D.tup [.int 0, .int 1] = fq 0 := rfl
theorem p_back (ds : List D) (Q : D → Prop) (E : Xn → Prop) (h : spBack.run ds Q E) : wpDef n_back.length (c_back spRev spLed spSubQ) ds Q E := by
  obtain ⟨a, b, c, d, u, v, rfl, ⟨h0, su, sv⟩, q⟩ := h
  have hr := rev_k h0
  obtain ⟨r1, r2, r3, r4⟩ := id hr
  obtain ⟨l1, l2, l3⟩ := sz_lin r1 r2 su sv (by omega)
  obtain ⟨l4, l5, l6⟩ := sz_lin r3 r4 su sv (by omega)
  have z0 : sz 0 = 1 := by decide
  simp [wpDef, c_back, n_back, start]
  refine ⟨a, b, c, d, _, rfl, ⟨up_k h0.1 (by omega), up_k h0.2.1 (by omega), up_k h0.2.2.1 (by omega), up_k h0.2.2.2 (by omega)⟩, ?_⟩
  simp
  refine ⟨_, _, _, _, [], u, v, rfl, ⟨up_k r1 (by omega), up_k r2 (by omega), up_k r3 (by omega), up_k r4 (by omega)⟩, by omega, by omega, ?_⟩
  simp [szk]
  unfold backD at q
  simp at q l3 l6
  exact ⟨⟨by omega, by omega⟩, ⟨by omega, by omega⟩, q⟩
theorem p__law_back (ds : List D) (Q : D → Prop) (E : Xn → Prop) (h : spBack.run ds Q E) : wpDef n__law_back.length (c__law_back spDet spLed) ds Q E := by
  obtain ⟨a, b, c, d, u, v, rfl, ⟨h0, su, sv⟩, q⟩ := h
  have hr := rev_k h0
  have hd := det_k h0
  obtain ⟨r1, r2, r3, r4⟩ := id hr
  have go : ∀ x y : Int, x.natAbs < 2 ^ (100 + 100 + 1) → y.natAbs < 2 ^ 100 → MulOk x y := fun x y hx hy => mulOk_k hx (up_k hy (by omega)) (by omega)
  simp [wpDef, c__law_back, n__law_back, start]
  refine ⟨a, b, c, d, _, rfl, ⟨up_k h0.1 (by omega), up_k h0.2.1 (by omega), up_k h0.2.2.1 (by omega), up_k h0.2.2.2 (by omega)⟩, ?_⟩
  simp
  refine ⟨go _ _ hd h0.2.2.2, go _ _ hd h0.2.1, go _ _ hd h0.2.2.1, go _ _ hd h0.1, ?_⟩
  refine ⟨_, _, _, _, [], u, v, rfl, ⟨up_k r1 (by omega), up_k r2 (by omega), up_k r3 (by omega), up_k r4 (by omega)⟩, by omega, by omega, ?_⟩
  simp
  unfold backD at q
  simp at q
  exact q
/-! ### make_movement -/
def unit (a b c d : Int) : Prop := a * d - b * c = 1 ∨ a * d - b * c = -1
instance {a b c d : Int} : Decidable (unit a b c d) := by unfold unit; infer_instance
/-- a matrix in a tuple or in a list -/
def mats (t : Bool) (a b c d : Int) : D := if t = true then mat a b c d else .lst [.int a, .int b, .int c, .int d]
def spDetL : Spec := ⟨fun ds Q _ => ∃ t a b c d, ds = [mats t a b c d] ∧ iok 400 a b c d ∧ Q (.int (a * d - b * c)), fun _ _ _ _ _ ⟨t, a, b, c, d, e, h, q⟩ hq _ => ⟨t, a, b, c, d, e, h, hq _ q⟩⟩
theorem p_determinantL (ds : List D) (Q : D → Prop) (E : Xn → Prop) (h : spDetL.run ds Q E) : wpDef n_determinant.length c_determinant ds Q E := by
  obtain ⟨t, a, b, c, d, rfl, ⟨h1, h2, h3, h4⟩, q⟩ := h
  cases t <;> simp [wpDef, c_determinant, n_determinant, start, mats] <;> exact ⟨mulOk_k h1 h4 (by omega), mulOk_k h2 h3 (by omega), q⟩
def spMake : Spec := ⟨fun ds Q E => ∃ t a b c d u v, ds = [mats t a b c d, fq u, fq v] ∧ iok 400 a b c d ∧ if unit a b c d then Q (mov a b c d u v) else E ⟨"InvalidMovement", []⟩,
  fun _ _ _ _ _ ⟨t, a, b, c, d, u, v, e, h, q⟩ hq he => ⟨t, a, b, c, d, u, v, e, h, by
    by_cases g : unit a b c d
    · rw [if_pos g] at q ⊢; exact hq _ q
    · rw [if_neg g] at q ⊢; exact he _ q⟩⟩
theorem p_make_movement (ds : List D) (Q : D → Prop) (E : Xn → Prop) (h : spMake.run ds Q E) : wpDef n_make_movement.length (c_make_movement spDetL) ds Q E := by
  obtain ⟨t, a, b, c, d, u, v, rfl, h, q⟩ := h
  simp [wpDef, c_make_movement, n_make_movement, start]
  refine ⟨t, a, b, c, d, rfl, h, ?_⟩
  simp only [mem_t2]
  by_cases g : unit a b c d
  · rw [if_pos g] at q
    have e : (decide (1 = a * d - b * c) || decide (-1 = a * d - b * c)) = true := by unfold unit at g; simp; omega
    simp [e]
    cases t <;> simp [mats] <;> exact q
  · rw [if_neg g] at q
    have e : (decide (1 = a * d - b * c) || decide (-1 = a * d - b * c)) = false := by unfold unit at g; simp; omega
    simp [e]
    exact q
def spMake1 : Spec := ⟨fun ds Q E => ∃ t a b c d, ds = [mats t a b c d] ∧ iok 400 a b c d ∧ if unit a b c d then Q (mov a b c d 0 0) else E ⟨"InvalidMovement", []⟩,
  fun _ _ _ _ _ ⟨t, a, b, c, d, e, h, q⟩ hq he => ⟨t, a, b, c, d, e, h, by
    by_cases g : unit a b c d
    · rw [if_pos g] at q ⊢; exact hq _ q
    · rw [if_neg g] at q ⊢; exact he _ q⟩⟩
def madeD (a b c d : Int) (u v : Rat) : D := if unit a b c d then mov a b c d u v else .str "refused"
def spMade : Spec := ⟨fun ds Q _ => ∃ t a b c d u v w, ds = [mats t a b c d, fq u, fq v, .bl w] ∧ iok 400 a b c d ∧ Q (if w = true then madeD a b c d u v else madeD a b c d 0 0), fun _ _ _ _ _ ⟨t, a, b, c, d, u, v, w, e, h, q⟩ hq _ => ⟨t, a, b, c, d, u, v, w, e, h, hq _ q⟩⟩
theorem p__law_made (ds : List D) (Q : D → Prop) (E : Xn → Prop) (h : spMade.run ds Q E) : wpDef n__law_made.length (c__law_made spMake spMake1) ds Q E := by
  obtain ⟨t, a, b, c, d, u, v, w, rfl, h, q⟩ := h
  have e1 : subC ("InvalidMovement" : Str) ("InvalidMovement" : Str) = true := by decide +kernel
  have e2 : hdl ("InvalidMovement" : Str) [(XT.or [XT.not (.isx "PatternError"), XT.not (.isx "ValueError"), .isx "NotFinite"], CE.str "?")] (CE.str "refused") = CE.str "refused" := by rfl
  simp [wpDef, c__law_made, n__law_made, start]
  cases w with
  | true =>
    simp
    refine ⟨t, a, b, c, d, u, v, rfl, h, ?_⟩
    unfold madeD at q
    by_cases g : unit a b c d
    · simp [g] at q ⊢; exact q
    · simp [g] at q ⊢
      rw [if_pos e1, e2]
      simp
      exact q
  | false =>
    simp
    refine ⟨t, a, b, c, d, rfl, h, ?_⟩
    unfold madeD at q
    by_cases g : unit a b c d
    · simp [g] at q ⊢; exact q
    · simp [g] at q ⊢
      rw [if_pos e1, e2]
      simp
      exact q
/-! ### drawn -/
theorem cutA {x0 x1 x2 x3 : D} : cutD [x0, x1, x2, x3] (some 2) none = [x2, x3] := rfl
theorem cutB {x0 x1 x2 x3 : D} : cutD [x0, x1, x2, x3] none (some 2) = [x0, x1] := rfl
def spMatrix : Spec := .rel (onNums 8) fun _ d => ∃ a b c e : Int, d = mat a b c e ∧ iok 10 a b c e
theorem prod_ax {a b c e a' b' c' e' : Int} (h1 : a.natAbs ≤ 5) (h2 : b.natAbs ≤ 2) (h3 : c.natAbs ≤ 2) (h4 : e.natAbs ≤ 1) (g1 : a'.natAbs ≤ 5) (g2 : b'.natAbs ≤ 2) (g3 : c'.natAbs ≤ 2) (g4 : e'.natAbs ≤ 1) :
    iok 10 (a' * a + b' * c) (a' * b + b' * e) (c' * a + e' * c) (c' * b + e' * e) := by
  have k : ∀ x y : Int, x.natAbs ≤ 5 → y.natAbs ≤ 5 → (x * y).natAbs ≤ 25 := fun x y hx hy => by rw [Int.natAbs_mul]; exact Nat.mul_le_mul hx hy
  have k1 := k a' a g1 h1
  have k2 := k b' c (by omega) (by omega)
  have k3 := k a' b (by omega) (by omega)
  have k4 := k b' e (by omega) (by omega)
  have k5 := k c' a (by omega) (by omega)
  have k6 := k e' c (by omega) (by omega)
  have k7 := k c' b (by omega) (by omega)
  have k8 := k e' e (by omega) (by omega)
  exact ⟨by omega, by omega, by omega, by omega⟩
theorem p__law_matrix (ds : List D) (Q : D → Prop) (E : Xn → Prop) (h : spMatrix.run ds Q E) : wpDef n__law_matrix.length (c__law_matrix spProd spAxes) ds Q E := by
  obtain ⟨⟨xs, rfl, hl, hx⟩, h⟩ := h
  obtain ⟨a1, a2⟩ := fmod_lt (nth xs 1) (b := 9) (by omega)
  obtain ⟨b1, b2⟩ := fmod_lt (nth xs 2) (b := 9) (by omega)
  obtain ⟨c1, c2⟩ := fmod_lt (nth xs 3) (b := 9) (by omega)
  obtain ⟨d1, d2⟩ := fmod_lt (nth xs 4) (b := 9) (by omega)
  simp [wpDef, c__law_matrix, n__law_matrix, start, ixN hl, cut_nums, -ix_L, -sl_L]
  split
  · refine ⟨⟨xs.drop 1, by simp, by simp; omega, fun x hx' => hx x (List.mem_of_mem_drop hx')⟩, ?_⟩
    rintro _ ⟨a, b, c, e, rfl, p1, p2, p3, p4, _⟩
    refine ⟨⟨xs.drop 4, by simp, by simp; omega, fun x hx' => hx x (List.mem_of_mem_drop hx')⟩, ?_⟩
    rintro _ ⟨a', b', c', e', rfl, g1, g2, g3, g4, _⟩
    refine ⟨a, b, c, e, [], a', b', c', e', [], rfl, ⟨up_k (k := 3) (by omega) (by omega), up_k (k := 3) (by omega) (by omega), up_k (k := 3) (by omega) (by omega), up_k (k := 3) (by omega) (by omega)⟩, ⟨up_k (k := 3) (by omega) (by omega), up_k (k := 3) (by omega) (by omega), up_k (k := 3) (by omega) (by omega), up_k (k := 3) (by omega) (by omega)⟩, ?_⟩
    obtain ⟨k1, k2, k3, k4⟩ := prod_ax p1 p2 p3 p4 g1 g2 g3 g4
    simp [cutA, cutB]
    split
    · exact h _ ⟨_, _, _, _, rfl, k3, k4, k1, k2⟩
    · exact h _ ⟨_, _, _, _, rfl, k1, k2, k3, k4⟩
  · exact h _ ⟨_, _, _, _, rfl, by omega, by omega, by omega, by omega⟩
def spAny : Spec := .rel (onI2 fun a b => th a ∧ th b) fun _ d => ∃ q, d = fq q ∧ sz q ≤ 13
theorem p__law_any_shift (ds : List D) (Q : D → Prop) (E : Xn → Prop) (h : spAny.run ds Q E) : wpDef n__law_any_shift.length (c__law_any_shift spFr) ds Q E := by
  obtain ⟨h1, h⟩ := h
  obtain ⟨a, b, rfl, ⟨a1, a2⟩, b1, b2⟩ := onI2_elim h1
  obtain ⟨c1, c2⟩ := fmod_lt b (b := 24) (by omega)
  simp [wpDef, c__law_any_shift, n__law_any_shift, start]
  refine ⟨mulOk_lit (by omega) (by omega), ⟨by omega, Nat.lt_of_lt_of_le (show (1 + b.fmod 24).natAbs < 2 ^ 5 by omega) (Nat.pow_le_pow_right (by omega) (by omega))⟩, h _ ⟨_, rfl, sz_divInt (by omega) (by omega) (by omega)⟩⟩
end Dl

/-! DlK01b: the law of movements, its loop. -/
namespace Dl
open PySem
mutual
theorem dat_plain : ∀ (d : D) (n k : Nat), n ≤ k → D.dat n d = true → D.plain k d = true
  | .non, n, k, _, _ => by cases k <;> simp [D.plain]
  | .bl b, n, k, _, _ => by cases k <;> simp [D.plain]
  | .int b, n, k, _, _ => by cases k <;> simp [D.plain]
  | .str b, n, k, _, h => by cases n with
    | zero => simp [D.dat] at h
    | succ n => cases k <;> simpa [D.plain, D.dat] using h
  | .tup ds, n, k, hk, h => by
    cases n with
    | zero => simp [D.dat] at h
    | succ n =>
      cases k with
      | zero => omega
      | succ k =>
        simp [D.dat] at h
        simp only [D.plain]
        exact dats_plain ds n k (by omega) h.2
  | .lst ds, n, k, hk, h => by
    cases n with
    | zero => simp [D.dat] at h
    | succ n =>
      cases k with
      | zero => omega
      | succ k =>
        simp [D.dat] at h
        simp only [D.plain]
        exact dats_plain ds n k (by omega) h.2
  | .dict _ _, n, k, _, h => by cases n <;> simp [D.dat] at h
  | .obj _ _ _, n, k, _, h => by cases n <;> simp [D.dat] at h
theorem dats_plain : ∀ (ds : List D) (n k : Nat), n ≤ k → D.dats n ds = true → D.plains k ds = true
  | [], n, k, _, _ => by simp [D.plains]
  | d :: ds, n, k, hk, h => by
    unfold D.dats at h
    rw [Bool.and_eq_true] at h
    simp only [D.plains, Bool.and_eq_true]
    exact ⟨dat_plain d n k hk h.1, dats_plain ds n k hk h.2⟩
end
theorem ne_same {d : D} {Q : D → Prop} (n : Nat) (h : D.dat n d = true) (hn : n ≤ 64) : cmpD .ne d d Q = Q (.bl false) := by
  have p := dat_plain d n 64 hn h
  have e : eqb d d = true := eqv_refl d ⟨n, h⟩
  rw [c_neD, p, e]
  simp
theorem dat_mov (n : Nat) {a b c d : Int} {u v : Rat} : D.dat (n + 3) (mov a b c d u v) = true := by simp [D.dat, D.dats, fq, -fold_self]
theorem dat_pt (n : Nat) {u v : Rat} : D.dat (n + 3) (ptD u v) = true := by simp [D.dat, D.dats, fq, ptD, -fold_self, -fold_pt]
theorem dat_ints (n : Nat) {a b c d : Int} : D.dat (n + 2) (.lst [.int a, .int b, .int c, .int d]) = true := by simp [D.dat, D.dats]
theorem dat_ref (n : Nat) : D.dat (n + 1) (.str "refused") = true := by
  simp only [D.dat]
  decide +kernel
theorem ne_mov_str {a b c d : Int} {u v : Rat} {Q : D → Prop} : cmpD .ne (mov a b c d u v) (.str "refused") Q = Q (.bl true) := by
  have p1 := dat_plain _ 3 64 (by omega) (dat_mov 0 (a := a) (b := b) (c := c) (d := d) (u := u) (v := v))
  have p2 := dat_plain _ 1 64 (by omega) (dat_ref 0)
  have e : eqb (mov a b c d u v) (.str "refused") = false := by
    unfold eqb
    simp only [D.toP, PyData.eqv]
  rw [c_neD, p1, p2, e]
  simp
/-- back, then the same movement -/
theorem back_ok {a b c d : Int} (h : unit a b c d) (u v x y : Rat) :
    (((a * d - b * c) * d : Int) : Rat) * ((a : Rat) * x + b * y + u) + ((-((a * d - b * c) * b) : Int) : Rat) * ((c : Rat) * x + d * y + v) + -((((a * d - b * c) * d : Int) : Rat) * u + ((-((a * d - b * c) * b) : Int) : Rat) * v) = x ∧
    ((-((a * d - b * c) * c) : Int) : Rat) * ((a : Rat) * x + b * y + u) + (((a * d - b * c) * a : Int) : Rat) * ((c : Rat) * x + d * y + v) + -(((-((a * d - b * c) * c) : Int) : Rat) * u + (((a * d - b * c) * a : Int) : Rat) * v) = y := by
  have hs : (((a * d - b * c : Int)) : Rat) * ((a * d - b * c : Int) : Rat) = 1 := by
    rcases h with h | h <;> rw [h] <;> decide +kernel
  have he : ((a * d - b * c : Int) : Rat) = (a : Rat) * d - b * c := by simp only [Rat.intCast_sub, Rat.intCast_mul]
  simp only [Rat.intCast_mul, Rat.intCast_neg]
  generalize ((a * d - b * c : Int) : Rat) = s at *
  generalize (a : Rat) = a' at *
  generalize (b : Rat) = b' at *
  generalize (c : Rat) = c' at *
  generalize (d : Rat) = d' at *
  constructor <;> grind
structure Mv where
  a : Int
  b : Int
  c : Int
  d : Int
  u : Rat
  v : Rat
def Mv.D (m : Mv) : D := mov m.a m.b m.c m.d m.u m.v
def Mv.ok (m : Mv) : Prop := mokk 14 m.a m.b m.c m.d m.u m.v ∧ unit m.a m.b m.c m.d
def isPt (d : D) : Prop := ∃ x y, d = ptD x y ∧ sz x ≤ 8 ∧ sz y ≤ 8
def spLaw_k01 : Spec := .fn (fun ds => ∃ ns : List Int, ds = [.lst (ns.map .int)]) fun _ => .bl true
def invA (ns : List Int) (i : Nat) (ρ : DEnv) : Prop := ∃ (L : List Mv) (o2 o3 o4 o5 o6 o7 o8 o9 o10 o11 o12 : Option D), L.length ≤ i ∧ (∀ m ∈ L, m.ok) ∧
  ρ = [some (.lst (ns.map .int)), some (.lst (L.map Mv.D)), o2, o3, o4, o5, o6, o7, o8, o9, o10, o11, o12]
def invA1 (ns : List Int) (L : List Mv) (ρ : DEnv) : Prop := ∃ (a b c d : Int) (u v : Rat) (o2 o3 o4 o5 o9 o10 o11 o12 : Option D), iok 10 a b c d ∧ sz u ≤ 13 ∧ sz v ≤ 13 ∧
  ρ = [some (.lst (ns.map .int)), some (.lst (L.map Mv.D)), o2, o3, o4, o5, some (mat a b c d), some (fq u), some (fq v), o9, o10, o11, o12]
theorem p_law_body (ns : List Int) (L : List Mv) (hL : ∀ m ∈ L, m.ok) (i : Nat) (hLi : L.length ≤ i) (hi : i < 6) {P : Pn} (hct : P.nx = invA ns (i + 1)) (o3 o4 o5 o6 o7 o8 o9 o10 o11 o12 : Option D) (body : List CS)
    (hb : body = (match c_law_k01 spNums spCell spMatrix spAny spDet (spSame 4) spMade spPoint spMoved spMoved spBack spBack spThen spThen with | _ :: .for_ _ _ _ b :: _ => b | _ => [])) :
    wpB body [some (.lst (ns.map .int)), some (.lst (L.map Mv.D)), some (.int i), o3, o4, o5, o6, o7, o8, o9, o10, o11, o12] P := by
  subst hb
  refine wB_cut 4 (invA1 ns L) ?_ ?_
  · simp [c_law_k01]
    refine ⟨⟨ns, _, rfl, by omega⟩, ?_⟩
    rintro _ ⟨c, rfl⟩
    simp
    refine ⟨by simp [onI2], fun d hd => ?_⟩
    obtain ⟨xs, hxl, hx, rfl⟩ := hd _ _ rfl
    have hl16 : 16 ≤ xs.length := by simp at hxl; omega
    simp [ixN hl16, -ix_L]
    refine ⟨⟨xs, rfl, by omega, hx⟩, ?_⟩
    rintro _ ⟨a, b, c, e, rfl, h4⟩
    refine ⟨⟨th_nth hx 8, th_nth hx 9⟩, ?_⟩
    rintro _ ⟨u, rfl, su⟩
    refine ⟨⟨th_nth hx 10, th_nth hx 11⟩, ?_⟩
    rintro _ ⟨v, rfl, sv⟩
    exact ⟨a, b, c, e, u, v, _, _, _, _, _, _, _, _, h4, su, sv, rfl⟩
  · rintro _ ⟨a, b, c, d, u, v, o2, o3, o4, o5, o9, o10, o11, o12, h4, su, sv, rfl⟩
    obtain ⟨h1, h2, h3, h5⟩ := id h4
    have k400 : iok 400 a b c d := ⟨up_k h1 (by omega), up_k h2 (by omega), up_k h3 (by omega), up_k h5 (by omega)⟩
    simp [c_law_k01]
    refine ⟨a, b, c, d, [], rfl, k400, ?_⟩
    simp
    by_cases g : unit a b c d
    · have e : (1 = a * d - b * c ∨ -1 = a * d - b * c) := by unfold unit at g; omega
      simp [e]
      refine ⟨false, a, b, c, d, u, v, true, rfl, k400, ?_⟩
      simp [madeD, g]
      refine run_same (dat_mov 1) ?_
      simp [ne_same 2 (dat_ints 0), ne_mov_str]
      refine ⟨by omega, true, a, b, c, d, u, v, false, rfl, k400, ?_⟩
      simp [madeD, g]
      refine run_same (dat_mov 1) ?_
      simp [hct]
      have eL : (L ++ [(⟨a, b, c, d, u, v⟩ : Mv)]).map Mv.D = L.map Mv.D ++ [mov a b c d u v] := by simp [Mv.D]
      refine ⟨L ++ [⟨a, b, c, d, u, v⟩], _, _, _, _, _, _, _, _, _, _, _, by simp; omega, fun m hm => ?_, by rw [eL]⟩
      rcases List.mem_append.mp hm with hm | hm
      · exact hL m hm
      · rw [List.mem_singleton.mp hm]
        exact ⟨⟨⟨up_k h1 (by omega), up_k h2 (by omega), up_k h3 (by omega), up_k h5 (by omega)⟩, by show sz u ≤ 14; omega, by show sz v ≤ 14; omega⟩, g⟩
    · have e : ¬ (1 = a * d - b * c ∨ -1 = a * d - b * c) := by unfold unit at g; omega
      simp [e]
      refine ⟨false, a, b, c, d, u, v, true, rfl, k400, ?_⟩
      simp [madeD, g]
      refine run_same (dat_ref 3) ?_
      simp [ne_same 2 (dat_ints 0), ne_same 1 (dat_ref 0)]
      refine ⟨true, a, b, c, d, u, v, false, rfl, k400, ?_⟩
      simp [madeD, g, ne_same 1 (dat_ref 0), hct]
      exact ⟨L, _, _, _, _, _, _, _, _, _, _, _, by omega, hL, rfl⟩
end Dl

/-! DlNum: data of ints and tuples: == is sameness; so is what the order does not tell apart. -/
namespace Dl
open PySem
mutual
def numD : D → Bool
  | .int _ => true
  | .tup ds => numDs ds
  | _ => false
def numDs : List D → Bool
  | [] => true
  | d :: ds => numD d && numDs ds
end
mutual
theorem eqb_num : ∀ (d e : D), numD d = true → numD e = true → (PyData.eqv d.toP e.toP = true ↔ d = e)
  | .int i, e, h, g => by
    cases e with
    | int j => simp [D.toP, PyData.eqv]
    | tup es => simp [D.toP, PyData.eqv]
    | _ => simp [numD] at g
  | .tup ds, e, h, g => by
    cases e with
    | int j => simp [D.toP, PyData.eqv]
    | tup es =>
      simp only [D.toP, PyData.eqv, D.tup.injEq]
      exact eqbs_num ds es (by simpa [numD] using h) (by simpa [numD] using g)
    | _ => simp [numD] at g
  | .non, e, h, g => by simp [numD] at h
  | .bl _, e, h, g => by simp [numD] at h
  | .str _, e, h, g => by simp [numD] at h
  | .lst _, e, h, g => by simp [numD] at h
  | .dict _ _, e, h, g => by simp [numD] at h
  | .obj _ _ _, e, h, g => by simp [numD] at h
theorem eqbs_num : ∀ (ds es : List D), numDs ds = true → numDs es = true → (PyData.eqvAll (D.toPs ds) (D.toPs es) = true ↔ ds = es)
  | [], es, h, g => by cases es <;> simp [D.toPs, PyData.eqvAll]
  | d :: ds, es, h, g => by
    cases es with
    | nil => simp [D.toPs, PyData.eqvAll]
    | cons e es =>
      unfold numDs at h g
      rw [Bool.and_eq_true] at h g
      simp only [D.toPs, PyData.eqvAll, Bool.and_eq_true, List.cons.injEq]
      rw [eqb_num d e h.1 g.1, eqbs_num ds es h.2 g.2]
end
theorem eqb_iff {d e : D} (h : numD d = true) (g : numD e = true) : eqb d e = true ↔ d = e := eqb_num d e h g
theorem numD_fq (q : Rat) : numD (fq q) = true := rfl
theorem eqb_fq {p q : Rat} : eqb (fq p) (fq q) = decide (p = q) := by
  rw [Bool.eq_iff_iff, eqb_iff (numD_fq p) (numD_fq q), decide_eq_true_eq]
  exact ⟨fq_inj, fun h => by rw [h]⟩
mutual
theorem cmpT_num : ∀ (d e : D), numD d = true → numD e = true → cmpT d e = .eq → d = e
  | .int i, e, h, g, c => by
    cases e with
    | int j => simp only [cmpT] at c; rw [Int.compare_eq_eq.mp c]
    | tup es => simp [cmpT, rkD] at c <;> exact absurd c (by decide)
    | _ => simp [numD] at g
  | .tup ds, e, h, g, c => by
    cases e with
    | int j => simp [cmpT, rkD] at c <;> exact absurd c (by decide)
    | tup es =>
      simp only [cmpT] at c
      rw [cmpTs_num ds es (by simpa [numD] using h) (by simpa [numD] using g) c]
    | _ => simp [numD] at g
  | .non, e, h, g, c => by simp [numD] at h
  | .bl _, e, h, g, c => by simp [numD] at h
  | .str _, e, h, g, c => by simp [numD] at h
  | .lst _, e, h, g, c => by simp [numD] at h
  | .dict _ _, e, h, g, c => by simp [numD] at h
  | .obj _ _ _, e, h, g, c => by simp [numD] at h
theorem cmpTs_num : ∀ (ds es : List D), numDs ds = true → numDs es = true → cmpTs ds es = .eq → ds = es
  | [], es, h, g, c => by
    cases es with
    | nil => rfl
    | cons _ _ => simp [cmpTs] at c
  | d :: ds, es, h, g, c => by
    cases es with
    | nil => simp [cmpTs] at c
    | cons e es =>
      unfold numDs at h g
      rw [Bool.and_eq_true] at h g
      simp only [cmpTs] at c
      obtain ⟨c1, c2⟩ := then_eq c
      rw [cmpT_num d e h.1 g.1 c1, cmpTs_num ds es h.2 g.2 c2]
end
/-- sorting by the order, whatever the turn -/
theorem sortD_perm {xs ys : List D} (h : xs.Perm ys) (hn : ∀ d ∈ xs, numD d = true) : sortD xs = sortD ys := by
  refine srt_perm_eq swo_ltT h fun x hx y hy e => ?_
  obtain ⟨e1, e2⟩ := SrtO.eqv_iff.mp e
  rw [ltT_no] at e1 e2
  refine cmpT_num x y (hn x hx) (hn y hy) ?_
  cases q : cmpT x y with
  | eq => rfl
  | lt => exact absurd q e1
  | gt =>
    rw [cmpT_swap x y, q] at e2
    exact absurd rfl e2
theorem sortD_len (xs : List D) : (sortD xs).length = xs.length := (srt_perm xs).length_eq
theorem sortD_mem {xs : List D} {d : D} : d ∈ sortD xs ↔ d ∈ xs := (srt_perm xs).mem_iff
end Dl

/-! DlK09: costs and signatures. -/
namespace Dl
open PySem
/-! ### sums of fractions -/
def tn (n : Int) : Rat := Rat.divInt (n - 1) n
def cn (n : Int) : Rat := Rat.divInt (n - 1) (2 * n)
def sumR (f : Int → Rat) : List Int → Rat
  | [] => 0
  | n :: ns => f n + sumR f ns
theorem sumR_app (f : Int → Rat) : ∀ xs ys : List Int, sumR f (xs ++ ys) = sumR f xs + sumR f ys
  | [], ys => by show sumR f ys = 0 + sumR f ys; rw [Rat.zero_add]
  | x :: xs, ys => by
    show f x + sumR f (xs ++ ys) = (f x + sumR f xs) + sumR f ys
    rw [sumR_app f xs ys, Rat.add_assoc]
theorem sumR_take {f : Int → Rat} {xs : List Int} {i : Nat} {x : Int} (h : xs[i]? = some x) : sumR f (xs.take (i + 1)) = sumR f (xs.take i) + f x := by
  rw [List.take_succ, h, sumR_app]
  show _ = _
  congr 1
  show f x + 0 = f x
  rw [Rat.add_zero]
def ord (n : Int) : Prop := 2 ≤ n ∧ n ≤ 60
theorem sz_tn {n : Int} (h : ord n) : sz (tn n) ≤ 7 := by
  obtain ⟨h1, h2⟩ := h
  exact sz_divInt (by omega) (by omega) (by omega)
theorem sz_cn {n : Int} (h : ord n) : sz (cn n) ≤ 7 := by
  obtain ⟨h1, h2⟩ := h
  exact sz_divInt (by omega) (by omega) (by omega)
theorem sz_sumR {f : Int → Rat} : ∀ {xs : List Int}, (∀ x ∈ xs, sz (f x) ≤ 7) → sz (sumR f xs) ≤ 1 + 8 * xs.length
  | [], _ => by show sz 0 ≤ 1; decide
  | x :: xs, h => by
    have h1 := h x List.mem_cons_self
    have h2 := sz_sumR (xs := xs) fun y hy => h y (List.mem_cons_of_mem _ hy)
    have h3 := sz_add (f x) (sumR f xs)
    show sz (f x + sumR f xs) ≤ _
    rw [List.length_cons]
    omega
def rowT (ts : List Int) : D := .tup (ts.map .int)
def sigD (ts cs : List Int) (r w g : Int) : D := .tup [rowT ts, rowT cs, .int r, .int w, .int g]
def okRow (ts : List Int) : Prop := ts.length ≤ 4 ∧ ∀ t ∈ ts, ord t
def spCost : Spec := ⟨fun ds Q _ => ∃ ts cs r w g, ds = [sigD ts cs r w g] ∧ okRow ts ∧ okRow cs ∧ r.natAbs ≤ 9 ∧ w.natAbs ≤ 9 ∧ g.natAbs ≤ 9 ∧ Q (fq (sumR tn ts + sumR cn cs + ((r + w + 2 * g : Int) : Rat))),
  fun _ _ _ _ _ ⟨ts, cs, r, w, g, e, h1, h2, h3, h4, h5, q⟩ hq _ => ⟨ts, cs, r, w, g, e, h1, h2, h3, h4, h5, hq _ q⟩⟩
theorem kp1 (rd : List Nat) (ls : Bool) (e : CE) (q : Rat) : keep rd ls e (fq q) = True := eq_true (.inr (.inr (.inl imm_fq)))
def iC1 (ts cs : List Int) (r w g : Int) (x : Rat) (i : Nat) (ρ : DEnv) : Prop := ∃ o, ρ = [some (sigD ts cs r w g), some (fq (x + sumR tn (ts.take i))), o, some (rowT ts), some (rowT cs), some (.int r), some (.int w), some (.int g)]
def iC2 (ts cs : List Int) (r w g : Int) (x : Rat) (i : Nat) (ρ : DEnv) : Prop := ∃ o, ρ = [some (sigD ts cs r w g), some (fq (x + sumR tn ts + sumR cn (cs.take i))), o, some (rowT ts), some (rowT cs), some (.int r), some (.int w), some (.int g)]
@[simp] theorem items_row (ts : List Int) : items (rowT ts) = some (ts.map .int) := rfl
@[simp] theorem imm_row (ts : List Int) : D.imm (rowT ts) = true := by
  unfold rowT
  show D.imms (ts.map .int) = true
  induction ts with
  | nil => rfl
  | cons t ts ih => show (D.imm (.int t) && D.imms (ts.map .int)) = true; rw [ih]; rfl
@[simp] theorem cont_row (ts : List Int) : D.cont (rowT ts) = false := rfl
theorem frOk {n : Int} (h : ord n) : okFr (n - 1) n ∧ okFr (n - 1) (2 * n) := by
  obtain ⟨h1, h2⟩ := h
  exact ⟨⟨by omega, lt_big' (k := 10) (by omega) (by omega)⟩, ⟨by omega, lt_big' (k := 10) (by omega) (by omega)⟩⟩
theorem map_at' {ts : List Int} {i : Nat} {d : D} (h : (ts.map D.int)[i]? = some d) : ∃ n, ts[i]? = some n ∧ d = .int n := by
  rw [List.getElem?_map] at h
  obtain ⟨n, h1, h2⟩ := Option.map_eq_some_iff.mp h
  exact ⟨n, h1, h2.symm⟩
theorem take_ok {f : Int → Rat} {ts : List Int} (hf : ∀ {n}, ord n → sz (f n) ≤ 7) (h : okRow ts) (i : Nat) : sz (sumR f (ts.take i)) ≤ 33 := by
  have := sz_sumR (f := f) (xs := ts.take i) fun x hx => hf (h.2 x (List.mem_of_mem_take hx))
  have := h.1
  rw [List.length_take] at *
  omega
theorem p_cost (ds : List D) (Q : D → Prop) (E : Xn → Prop) (h : spCost.run ds Q E) : wpDef n_cost.length (c_cost spFr1Q spAddQ spFr) ds Q E := by
  obtain ⟨ts, cs, r, w, g, rfl, h1, h2, h3, h4, h5, q⟩ := h
  obtain ⟨x, hx⟩ : ∃ x : Rat, x = ((r + w + 2 * g : Int) : Rat) := ⟨_, rfl⟩
  have sx : sz x ≤ 7 := by rw [hx]; exact sz_int (by omega) (by omega)
  have mo : MulOk 2 g := mulOk_lit (by omega) (by omega)
  unfold wpDef
  refine wB_cut 2 (iC1 ts cs r w g x 0) ?_ ?_
  · simp [c_cost, n_cost, start, sigD, mo, -Rat.intCast_add, -Rat.intCast_mul]
    rw [← hx]
    refine ⟨none, ?_⟩
    show _ = [_, some (fq (x + 0)), _, _, _, _, _, _]
    rw [Rat.add_zero]
    rfl
  rintro _ ⟨o, rfl⟩
  refine wB_cut 1 (iC2 ts cs r w g x 0) ?_ ?_
  · simp only [c_cost, List.drop, List.take]
    rw [wB_cons]
    refine wS_for (iC1 ts cs r w g x) ?_
    simp [-wB_cons]
    refine ⟨⟨_, rfl⟩, ?_, ?_⟩
    · rintro i _ ρ n hn rfl ⟨o, rfl⟩
      have on := h1.2 n (List.mem_of_getElem? hn)
      have s1 := take_ok (f := tn) sz_tn h1 i
      have s2 := sz_tn on
      have s3 := sz_add x (sumR tn (ts.take i))
      simp [frOk on, szk, kp1]
      refine ⟨⟨by omega, Nat.le_trans s2 (by omega)⟩, some (.int n), ?_⟩
      rw [sumR_take hn, ← Rat.add_assoc]
      rfl
    · rintro ρ ⟨o, rfl⟩
      refine ⟨o, ?_⟩
      rw [List.take_length]
      show _ = [_, some (fq (x + sumR tn ts + 0)), _, _, _, _, _, _]
      rw [Rat.add_zero]
  rintro _ ⟨o, rfl⟩
  refine wB_cut 1 (iC2 ts cs r w g x cs.length) ?_ ?_
  · simp only [c_cost, List.drop, List.take]
    rw [wB_cons]
    refine wS_for (iC2 ts cs r w g x) ?_
    simp [-wB_cons]
    refine ⟨⟨_, rfl⟩, ?_⟩
    rintro i _ ρ n hn rfl ⟨o, rfl⟩
    have on := h2.2 n (List.mem_of_getElem? hn)
    have mo2 : MulOk 2 n := by obtain ⟨o1, o2⟩ := on; exact mulOk_lit (by omega) (by omega)
    have s0 := take_ok (f := tn) sz_tn h1 ts.length
    rw [List.take_length] at s0
    have s1 := take_ok (f := cn) sz_cn h2 i
    have s2 := sz_cn on
    have s3 := sz_add x (sumR tn ts)
    have s4 := sz_add (x + sumR tn ts) (sumR cn (cs.take i))
    simp [frOk on, szk, mo2, kp1]
    refine ⟨⟨by omega, Nat.le_trans s2 (by omega)⟩, some (.int n), ?_⟩
    rw [sumR_take hn, ← Rat.add_assoc]
    rfl
  rintro _ ⟨o, rfl⟩
  simp [c_cost]
  rw [← hx] at q
  have e : x + sumR tn ts + sumR cn cs = sumR tn ts + sumR cn cs + x := by grind
  rw [e]
  exact q
def spPrice : Spec := ⟨fun ds Q _ => ∃ ts cs, ds = [rowT ts, rowT cs] ∧ okRow ts ∧ okRow cs ∧ Q (fq (sumR tn ts + sumR cn cs)), fun _ _ _ _ _ ⟨ts, cs, e, h1, h2, q⟩ hq _ => ⟨ts, cs, e, h1, h2, hq _ q⟩⟩
def iP1 (ts cs : List Int) (i : Nat) (ρ : DEnv) : Prop := ∃ o, ρ = [some (rowT ts), some (rowT cs), some (fq (sumR tn (ts.take i))), o]
def iP2 (ts cs : List Int) (i : Nat) (ρ : DEnv) : Prop := ∃ o, ρ = [some (rowT ts), some (rowT cs), some (fq (sumR tn ts + sumR cn (cs.take i))), o]
theorem p__law_price (ds : List D) (Q : D → Prop) (E : Xn → Prop) (h : spPrice.run ds Q E) : wpDef n__law_price.length (c__law_price spAddQ spFr) ds Q E := by
  obtain ⟨ts, cs, rfl, h1, h2, q⟩ := h
  unfold wpDef
  refine wB_cut 1 (iP1 ts cs 0) ?_ ?_
  · simp [c__law_price, n__law_price, start]
    exact ⟨_, rfl⟩
  rintro _ ⟨o, rfl⟩
  refine wB_cut 1 (iP2 ts cs 0) ?_ ?_
  · simp only [c__law_price, List.drop, List.take]
    rw [wB_cons]
    refine wS_for (iP1 ts cs) ?_
    simp [-wB_cons]
    refine ⟨⟨_, rfl⟩, ?_, ?_⟩
    · rintro i _ ρ n hn rfl ⟨o, rfl⟩
      have on := h1.2 n (List.mem_of_getElem? hn)
      have s1 := take_ok (f := tn) sz_tn h1 i
      have s2 := sz_tn on
      simp [frOk on, szk, kp1]
      refine ⟨⟨by omega, Nat.le_trans s2 (by omega)⟩, some (.int n), ?_⟩
      rw [sumR_take hn]
      rfl
    · rintro ρ ⟨o, rfl⟩
      refine ⟨o, ?_⟩
      rw [List.take_length]
      show _ = [_, _, some (fq (sumR tn ts + 0)), _]
      rw [Rat.add_zero]
  rintro _ ⟨o, rfl⟩
  refine wB_cut 1 (iP2 ts cs cs.length) ?_ ?_
  · simp only [c__law_price, List.drop, List.take]
    rw [wB_cons]
    refine wS_for (iP2 ts cs) ?_
    simp [-wB_cons]
    refine ⟨⟨_, rfl⟩, ?_⟩
    rintro i _ ρ n hn rfl ⟨o, rfl⟩
    have on := h2.2 n (List.mem_of_getElem? hn)
    have mo2 : MulOk 2 n := by obtain ⟨o1, o2⟩ := on; exact mulOk_lit (by omega) (by omega)
    have s0 := take_ok (f := tn) sz_tn h1 ts.length
    rw [List.take_length] at s0
    have s1 := take_ok (f := cn) sz_cn h2 i
    have s2 := sz_cn on
    have s4 := sz_add (sumR tn ts) (sumR cn (cs.take i))
    simp [frOk on, szk, mo2, kp1]
    refine ⟨⟨by omega, Nat.le_trans s2 (by omega)⟩, some (.int n), ?_⟩
    rw [sumR_take hn, ← Rat.add_assoc]
    rfl
  rintro _ ⟨o, rfl⟩
  simp [c__law_price]
  exact q
/-! ### the law's rows -/
abbrev Row := List Int × Int
def rowD (r : Row) : D := .tup [rowT r.1, .int r.2]
def lastI : List Int → Int
  | [] => 0
  | [x] => x
  | _ :: y :: xs => lastI (y :: xs)
def fitR (r : List Int) (n : Int) : Bool := r.isEmpty || decide (lastI r ≤ n)
def addR (r : Row) (k : Nat) : List Row := if fitR r.1 (2 + k) = true then (if r.2 + (27720 * ((2 + k : Int) - 1)).fdiv (2 + k) ≤ 55440 then [(r.1 ++ [(2 + k : Int)], r.2 + (27720 * ((2 + k : Int) - 1)).fdiv (2 + k))] else []) else []
def stepR (r : Row) : List Row := (List.range 11).flatMap (addR r)
def lastR : Nat → List Row
  | 0 => [([], 0)]
  | i + 1 => (lastR i).flatMap stepR
def rowsR : Nat → List Row
  | 0 => [([], 0)]
  | i + 1 => rowsR i ++ lastR (i + 1)
def spRows : Spec := ⟨fun ds Q _ => ds = [] ∧ Q (.lst ((rowsR 4).map rowD)), fun _ _ _ _ _ ⟨e, q⟩ hq _ => ⟨e, hq _ q⟩⟩
theorem lens : (List.range 5).all (fun i => decide ((lastR i).length ≤ 100) && decide ((rowsR i).length ≤ 200) && (lastR i).all (fun r => decide (0 ≤ r.2) && decide (r.2 ≤ 55440) && decide (r.1.length ≤ 5))) = true := by decide +kernel
theorem len_at {i : Nat} (h : i ≤ 4) : (lastR i).length ≤ 100 ∧ (rowsR i).length ≤ 200 ∧ ∀ r ∈ lastR i, 0 ≤ r.2 ∧ r.2 ≤ 55440 ∧ r.1.length ≤ 5 := by
  have := List.all_eq_true.mp lens i (List.mem_range.mpr (by omega))
  simp only [Bool.and_eq_true, decide_eq_true_eq, List.all_eq_true] at this
  exact ⟨this.1.1, this.1.2, fun r hr => by have := this.2 r hr; exact ⟨this.1.1, this.1.2, this.2⟩⟩
theorem ix_last {ts : List Int} (h : ts ≠ []) {Q : D → Prop} : ixD (rowT ts) (.int (-1)) Q = Q (.int (lastI ts)) := by
  have e : atD (ts.map D.int) (-1) = some (.int (lastI ts)) := by
    unfold atD
    rw [if_neg (by omega), List.length_map]
    have hl : 0 < ts.length := List.length_pos_iff.mpr h
    rw [if_pos (by omega)]
    show (ts.map D.int)[((-1 : Int) + (ts.length : Int)).toNat]? = _
    have e1 : ((-1 : Int) + (ts.length : Int)).toNat = ts.length - 1 := by omega
    rw [e1, List.getElem?_map]
    have go : ∀ xs : List Int, xs ≠ [] → xs[xs.length - 1]? = some (lastI xs) := by
      intro xs
      induction xs with
      | nil => intro h; exact absurd rfl h
      | cons x xs ih =>
        intro _
        cases xs with
        | nil => rfl
        | cons y ys =>
          have := ih (by simp)
          simp only [List.length_cons, Nat.add_sub_cancel] at this ⊢
          rw [List.getElem?_cons_succ]
          exact this
    rw [go ts h]
    rfl
  show (∃ d, atD (ts.map D.int) (-1) = some d ∧ Q d) = _
  rw [e]
  simp
theorem eq_emp {ts : List Int} {Q : D → Prop} (hl : ts.length < 100) : cmpD .eq (rowT ts) (.tup []) Q = Q (.bl ts.isEmpty) := by
  have hp : D.plain 64 (rowT ts) = true := by
    show D.plains 63 (ts.map D.int) = true
    clear hl
    induction ts with
    | nil => rfl
    | cons t ts ih => show (D.plain 63 (.int t) && D.plains 63 (ts.map D.int)) = true; rw [ih]; rfl
  have he : eqb (rowT ts) (.tup []) = ts.isEmpty := by cases ts <;> rfl
  rw [c_eqD, hp, he]
  simp [D.plain, D.plains]
def iLi (rows : D) (row : Row) (last : D) (k : Int) (acc : List D) (ρ : DEnv) : Prop := ∃ o6 o7, ρ = [some rows, some last, some (.int k), some (.lst acc), some (rowT row.1), some (.int row.2), o6, o7]
def iLo (rows : D) (last : D) (k : Int) (acc : List D) (ρ : DEnv) : Prop := ∃ o4 o5 o6 o7, ρ = [some rows, some last, some (.int k), some (.lst acc), o4, o5, o6, o7]
def iLr (i : Nat) (ρ : DEnv) : Prop := ∃ o2 o3 o4 o5 o6 o7, ρ = [some (.lst ((rowsR i).map rowD)), some (.lst ((lastR i).map rowD)), o2, o3, o4, o5, o6, o7]
theorem flat_map {α β : Type} (f : α → List β) (g : β → D) (xs : List α) : (xs.flatMap f).map g = xs.flatMap fun x => (f x).map g := by
  induction xs with
  | nil => rfl
  | cons x xs ih => simp [List.flatMap_cons, ih]
theorem rowT_app (ts : List Int) (n : Int) : D.tup (ts.map D.int ++ [D.int n]) = rowT (ts ++ [n]) := by unfold rowT; simp
theorem p__law_rows (ds : List D) (Q : D → Prop) (E : Xn → Prop) (h : spRows.run ds Q E) : wpDef n__law_rows.length c__law_rows ds Q E := by
  obtain ⟨rfl, q⟩ := h
  unfold wpDef
  refine wB_cut 2 (iLr 0) ?_ ?_
  · simp [c__law_rows, n__law_rows, start]
    exact ⟨_, _, _, _, _, _, rfl⟩
  rintro _ ⟨o2, o3, o4, o5, o6, o7, rfl⟩
  refine wB_cut 1 (iLr 4) ?_ ?_
  · simp only [c__law_rows, List.drop, List.take]
    rw [wB_cons]
    refine wS_for iLr ?_
    simp [-wB_cons]
    refine ⟨⟨_, _, _, _, _, _, rfl⟩, ?_, fun ρ hρ => by rw [rng_len] at hρ; exact hρ⟩
    rintro i d ρ hi ⟨o2, o3, o4, o5, o6, o7, rfl⟩
    obtain ⟨hl, rfl⟩ := rng_get hi
    obtain ⟨l1, l2, l3⟩ := len_at (i := i) (by omega)
    obtain ⟨l4, l5, l6⟩ := len_at (i := i + 1) (by omega)
    simp [-wB_cons]
    refine wB_cut 1 (iLo (.lst ((rowsR i).map rowD)) (.lst ((lastR i).map rowD)) i []) ?_ ?_
    · simp
      exact ⟨_, _, _, _, rfl⟩
    rintro _ ⟨p4, p5, p6, p7, rfl⟩
    refine wB_cut 1 (iLo (.lst ((rowsR i).map rowD)) (.lst ((lastR i).map rowD)) i ((lastR (i + 1)).map rowD)) ?_ ?_
    · simp only [List.drop, List.take]
      rw [wB_cons]
      refine wS_forM (lastR i) rowD (fun r => (stepR r).map rowD) [] (iLo (.lst ((rowsR i).map rowD)) (.lst ((lastR i).map rowD)) i) 100 ?_ ?_
      · have e : (lastR i).flatMap (fun r => (stepR r).map rowD) = (lastR (i + 1)).map rowD := (flat_map stepR rowD (lastR i)).symm
        rw [e, List.length_map]
        simpa using l4
      simp [-wB_cons]
      refine ⟨⟨_, _, _, _, rfl⟩, ?_, fun ρ hρ => ?_⟩
      · rintro row p hm acc ρ hacc ⟨q4, q5, q6, q7, rfl⟩
        obtain ⟨r1, r2, r3⟩ := l3 _ hm
        simp only at r1 r2 r3
        simp [rowD, -wB_cons]
        rw [wB_cons]
        refine wS_forM (List.range 11) (fun k => .int (2 + (k : Int))) (fun k => (addR (row, p) k).map rowD) acc (iLi (.lst ((rowsR i).map rowD)) (row, p) (.lst ((lastR i).map rowD)) i) 100 ?_ ?_
        · rw [← flat_map (addR (row, p)) rowD, List.length_map]
          exact hacc
        simp [-wB_cons]
        refine ⟨rfl, ⟨_, _, rfl⟩, ?_, fun ρ hρ => ?_⟩
        · rintro k hk acc2 ρ hacc2 ⟨q6, q7, rfl⟩
          have m1 : MulOk 27720 (2 + (k : Int) - 1) := mulOk_lit (by omega) (by omega)
          have m2 : MulOk 2 27720 := mulOk_lit (by omega) (by omega)
          have dv : DivOk (2 + (k : Int)) := divOk_big (by omega) (lt_big' (k := 10) (by omega) (by omega))
          have fin : ∀ o6 o7, iLi (.lst ((rowsR i).map rowD)) (row, p) (.lst ((lastR i).map rowD)) i (acc2 ++ (addR (row, p) k).map rowD) [some (D.lst (List.map rowD (rowsR i))), some (D.lst (List.map rowD (lastR i))), some (D.int ↑i), some (D.lst (acc2 ++ (addR (row, p) k).map rowD)), some (rowT row), some (D.int p), o6, o7] := fun o6 o7 => ⟨o6, o7, rfl⟩
          have inner : fitR row (2 + k) = true → (if p + (27720 * ((2 + k : Int) - 1)).fdiv (2 + k) ≤ 55440 then acc2.length < 16777216 ∧ iLi (.lst ((rowsR i).map rowD)) (row, p) (.lst ((lastR i).map rowD)) i (acc2 ++ (addR (row, p) k).map rowD) [some (D.lst (List.map rowD (rowsR i))), some (D.lst (List.map rowD (lastR i))), some (D.int ↑i), some (D.lst (acc2 ++ [.tup [rowT (row ++ [(2 + k : Int)]), .int (p + (27720 * ((2 + k : Int) - 1)).fdiv (2 + k))]])), some (rowT row), some (D.int p), some (.int (2 + (k : Int))), some (.int (p + (27720 * ((2 + k : Int) - 1)).fdiv (2 + k)))]
              else iLi (.lst ((rowsR i).map rowD)) (row, p) (.lst ((lastR i).map rowD)) i (acc2 ++ (addR (row, p) k).map rowD) [some (D.lst (List.map rowD (rowsR i))), some (D.lst (List.map rowD (lastR i))), some (D.int ↑i), some (D.lst acc2), some (rowT row), some (D.int p), some (.int (2 + (k : Int))), some (.int (p + (27720 * ((2 + k : Int) - 1)).fdiv (2 + k)))]) := by
            intro f
            split
            · rename_i g
              have e : addR (row, p) k = [(row ++ [(2 + k : Int)], p + (27720 * ((2 + k : Int) - 1)).fdiv (2 + k))] := by unfold addR; rw [if_pos f, if_pos g]
              rw [e] at fin hacc2 ⊢
              exact ⟨by simp at hacc2; omega, fin _ _⟩
            · rename_i g
              have e : addR (row, p) k = [] := by unfold addR; rw [if_pos f, if_neg g]
              rw [e] at fin ⊢
              simpa using fin (some (.int (2 + (k : Int)))) (some (.int (p + (27720 * ((2 + k : Int) - 1)).fdiv (2 + k))))
          have outer : fitR row (2 + k) = false → iLi (.lst ((rowsR i).map rowD)) (row, p) (.lst ((lastR i).map rowD)) i (acc2 ++ (addR (row, p) k).map rowD) [some (D.lst (List.map rowD (rowsR i))), some (D.lst (List.map rowD (lastR i))), some (D.int ↑i), some (D.lst acc2), some (rowT row), some (D.int p), some (.int (2 + (k : Int))), q7] := by
            intro f
            have e : addR (row, p) k = [] := by unfold addR; rw [if_neg (by simp [f])]
            rw [e] at fin ⊢
            simpa using fin (some (.int (2 + (k : Int)))) q7
          have rT : D.tup (row.map D.int ++ [D.int (2 + k : Int)]) = rowT (row ++ [(2 + k : Int)]) := rowT_app row _
          have rb : ∀ Q : D → Prop, binD .add (rowT row) (.tup [.int (2 + k : Int)]) Q = Q (rowT (row ++ [(2 + k : Int)])) := by
            intro Q
            show (_ ∧ _) = _
            rw [rT]
            simp
            intro _
            omega
          generalize iLi (.lst ((rowsR i).map rowD)) (row, p) (.lst ((lastR i).map rowD)) i (acc2 ++ (addR (row, p) k).map rowD) = K at *
          simp
          rw [eq_emp (by omega)]
          simp
          by_cases f0 : row = []
          · rw [if_pos f0]
            have := inner (by simp [fitR, f0])
            simp [m1, m2, dv, rb]
            exact this
          · rw [if_neg f0, ix_last f0]
            simp
            by_cases f1 : lastI row ≤ 2 + k
            · have := inner (by simp [fitR, f1])
              simp [f1, m1, m2, dv, rb]
              exact this
            · have := outer (by simp [fitR, f0, f1])
              simp [f1]
              exact this
        · obtain ⟨q6, q7, rfl⟩ := hρ
          rw [← flat_map (addR (row, p)) rowD]
          exact ⟨_, _, _, _, rfl⟩
      · rw [← flat_map stepR rowD] at hρ
        exact hρ
    rintro _ ⟨p4, p5, p6, p7, rfl⟩
    have im : D.imms ((rowsR i).map rowD ++ (lastR (i + 1)).map rowD) = true := by
      have : ∀ ds : List D, (∀ d ∈ ds, D.imm d = true) → D.imms ds = true := by
        intro ds
        induction ds with
        | nil => intro _; rfl
        | cons d ds ih =>
          intro h
          show (D.imm d && D.imms ds) = true
          rw [h d List.mem_cons_self, ih fun e he => h e (List.mem_cons_of_mem _ he)]
          rfl
      refine this _ fun d hd => ?_
      rw [← List.map_append] at hd
      obtain ⟨r, _, rfl⟩ := List.mem_map.mp hd
      unfold rowD
      simp
    simp [keep, CE.owns, D.flat, im]
    refine ⟨by omega, some (.int i), some (.lst ((lastR (i + 1)).map rowD)), p4, p5, p6, p7, ?_⟩
    simp only [rowsR, List.map_append]
  rintro _ ⟨o2, o3, o4, o5, o6, o7, rfl⟩
  simp [c__law_rows]
  exact q
/-! ### the law's signatures -/
abbrev Sig := List Int × List Int × Int × Int × Int
def sgD (z : Sig) : D := sigD z.1 z.2.1 z.2.2.1 z.2.2.2.1 z.2.2.2.2
/-- what is missing -/
def missL (a b : Row) (k : Nat) : Int := 4 * 27720 - a.2 * 2 - b.2 - (k : Int) * 2 * 27720
def addL (a b : Row) (k : Nat) : List Sig :=
  if 0 ≤ missL a b k ∧ (missL a b k).fmod 55440 = 0 ∧ (0 < (k : Int) ∨ b.1 = []) then
    (a.1, b.1, (k : Int), (missL a b k).fdiv 55440, (0 : Int)) :: (if (missL a b k).fdiv 55440 = 2 then [(a.1, b.1, (k : Int), (0 : Int), (1 : Int))] else [])
  else []
def pairL (a b : Row) : List Sig := if a.2 * 2 + b.2 ≤ 110880 then (List.range 3).flatMap (addL a b) else []
def allL : List Sig := (rowsR 4).flatMap fun a => (rowsR 4).flatMap (pairL a)
def spAll : Spec := ⟨fun ds Q _ => ds = [] ∧ Q (.lst (sortD (allL.map sgD))), fun _ _ _ _ _ ⟨e, q⟩ hq _ => ⟨e, hq _ q⟩⟩
theorem allL_len : allL.length = 17 := by decide +kernel
theorem rows_ok : ∀ r ∈ rowsR 4, 0 ≤ r.2 ∧ r.2 ≤ 55440 ∧ r.1.length ≤ 5 := by
  have h : ((rowsR 4).all fun r => decide (0 ≤ r.2) && decide (r.2 ≤ 55440) && decide (r.1.length ≤ 5)) = true := by decide +kernel
  intro r hr
  have := List.all_eq_true.mp h r hr
  simp only [Bool.and_eq_true, decide_eq_true_eq] at this
  exact ⟨this.1.1, this.1.2, this.2⟩
def iA0 (rs : D) (acc : List D) (ρ : DEnv) : Prop := ∃ o2 o3 o4 o5 o6 o7 o8, ρ = [some (.lst acc), some rs, o2, o3, o4, o5, o6, o7, o8]
def iA1 (rs : D) (a : Row) (acc : List D) (ρ : DEnv) : Prop := ∃ o4 o5 o6 o7 o8, ρ = [some (.lst acc), some rs, some (rowT a.1), some (.int a.2), o4, o5, o6, o7, o8]
def iA2 (rs : D) (a b : Row) (acc : List D) (ρ : DEnv) : Prop := ∃ o6 o7 o8, ρ = [some (.lst acc), some rs, some (rowT a.1), some (.int a.2), some (rowT b.1), some (.int b.2), o6, o7, o8]
theorem tupsOk_sig {zs : List Sig} : TupsOk 60 (zs.map sgD) := by
  have hc : ∀ xs ys : List Int, cmpOks (xs.map D.int) (ys.map D.int) = true := by
    intro xs
    induction xs with
    | nil => intro ys; rfl
    | cons x xs ih =>
      intro ys
      cases ys with
      | nil => rfl
      | cons y ys => show (cmpOk (.int x) (.int y) && cmpOks (xs.map D.int) (ys.map D.int)) = true; rw [ih]; rfl
  have hp : ∀ xs : List Int, D.plains 58 (xs.map D.int) = true := by
    intro xs
    induction xs with
    | nil => rfl
    | cons x xs ih => show (D.plain 58 (.int x) && D.plains 58 (xs.map D.int)) = true; rw [ih]; rfl
  refine ⟨?_, ?_, ?_⟩
  · rintro d hd e he
    obtain ⟨⟨t, c, r, w, g⟩, _, rfl⟩ := List.mem_map.mp hd
    obtain ⟨⟨t', c', r', w', g'⟩, _, rfl⟩ := List.mem_map.mp he
    show (cmpOks (t.map D.int) (t'.map D.int) && (cmpOks (c.map D.int) (c'.map D.int) && true)) = true
    rw [hc, hc]
    rfl
  · rintro d hd
    obtain ⟨m, _, rfl⟩ := List.mem_map.mp hd
    rfl
  · rintro d hd
    obtain ⟨⟨t, c, r, w, g⟩, _, rfl⟩ := List.mem_map.mp hd
    show (D.plains 58 (t.map D.int) && (D.plains 58 (c.map D.int) && true)) = true
    rw [hp, hp]
    rfl
def allOf (R : List Row) : List Sig := R.flatMap fun a => R.flatMap (pairL a)
theorem p__law_all_ (R : List Row) (ro : ∀ r ∈ R, 0 ≤ r.2 ∧ r.2 ≤ 55440 ∧ r.1.length ≤ 5) (tot : (allOf R).length = 17) (Q : D → Prop) (E : Xn → Prop) (q : Q (.lst (sortD ((allOf R).map sgD)))) :
    wpDef n__law_all.length (c__law_all ⟨fun ds Q _ => ds = [] ∧ Q (.lst (R.map rowD)), fun _ _ _ _ _ ⟨e, q⟩ hq _ => ⟨e, hq _ q⟩⟩) [] Q E := by
  unfold wpDef
  refine wB_cut 2 (iA0 (.lst (R.map rowD)) []) ?_ ?_
  · simp [c__law_all, n__law_all, start]
    exact ⟨_, _, _, _, _, _, _, rfl⟩
  rintro _ ⟨o2, o3, o4, o5, o6, o7, o8, rfl⟩
  refine wB_cut 1 (iA0 (.lst (R.map rowD)) ((allOf R).map sgD)) ?_ ?_
  · simp only [c__law_all, List.drop, List.take]
    rw [wB_cons]
    refine wS_forM R rowD (fun a => (R.flatMap (pairL a)).map sgD) [] (iA0 (.lst (R.map rowD))) 17 ?_ ?_
    · rw [← flat_map (fun a => R.flatMap (pairL a)) sgD, List.length_map]
      show 0 + (allOf R).length ≤ 17
      omega
    simp [-wB_cons, -List.length_map, -List.length_flatMap]
    refine ⟨⟨_, _, _, _, _, _, _, rfl⟩, ?_, fun ρ hρ => ?_⟩
    · rintro at_ ap hma acc ρ hacc ⟨p2, p3, p4, p5, p6, p7, p8, rfl⟩
      obtain ⟨a1, a2, a3⟩ := ro _ hma
      simp only at a1 a2 a3
      simp [rowD, -wB_cons, -List.length_map, -List.length_flatMap]
      rw [wB_cons]
      refine wS_forM R rowD (fun b => (pairL (at_, ap) b).map sgD) acc (iA1 (.lst (R.map rowD)) (at_, ap)) 17 ?_ ?_
      · rw [← flat_map (pairL (at_, ap)) sgD]
        exact hacc
      simp [-wB_cons, -List.length_map, -List.length_flatMap]
      refine ⟨⟨_, _, _, _, _, rfl⟩, ?_, fun ρ hρ => ?_⟩
      · rintro bt bp hmb acc ρ hacc ⟨p4, p5, p6, p7, p8, rfl⟩
        obtain ⟨b1, b2, b3⟩ := ro _ hmb
        simp only at b1 b2 b3
        have m1 : MulOk ap 2 := mulOk_lit (by omega) (by omega)
        have m2 : MulOk 4 27720 := mulOk_lit (by omega) (by omega)
        have m3 : MulOk 2 27720 := mulOk_lit (by omega) (by omega)
        simp [rowD, m1, m2, -wB_cons, -List.length_map, -List.length_flatMap]
        rw [wB_cons]
        simp [m1, m2, -wB_cons, -List.length_map, -List.length_flatMap]
        by_cases hc : ap * 2 + bp ≤ 110880
        · rw [if_pos hc]
          have ep : pairL (at_, ap) (bt, bp) = (List.range 3).flatMap (addL (at_, ap) (bt, bp)) := by unfold pairL; rw [if_pos hc]
          rw [ep] at hacc ⊢
          rw [wB_cons]
          refine wS_forM (List.range 3) (fun k => .int (0 + (k : Int))) (fun k => (addL (at_, ap) (bt, bp) k).map sgD) acc (iA2 (.lst (R.map rowD)) (at_, ap) (bt, bp)) 17 ?_ ?_
          · rw [← flat_map (addL (at_, ap) (bt, bp)) sgD]
            exact hacc
          simp [-wB_cons, -List.length_map, -List.length_flatMap]
          refine ⟨?_, ⟨_, _, _, rfl⟩, ?_, fun ρ hρ => ?_⟩
          · simp [rangeD]
          · rintro k hk acc ρ hacc ⟨p6, p7, p8, rfl⟩
            have m4 : MulOk (k : Int) 2 := mulOk_lit (by omega) (by omega)
            have m5 : MulOk ((k : Int) * 2) 27720 := mulOk_lit (by omega) (by omega)
            have dv : DivOk 55440 := divOk_big (by omega) (lt_big' (k := 20) (by omega) (by omega))
            have eM : missL (at_, ap) (bt, bp) k = 110880 - ap * 2 - bp - (k : Int) * 2 * 27720 := by unfold missL; simp only; omega
            have eA : addL (at_, ap) (bt, bp) k = if 0 ≤ missL (at_, ap) (bt, bp) k ∧ (missL (at_, ap) (bt, bp) k).fmod 55440 = 0 ∧ (0 < (k : Int) ∨ bt = []) then
                (at_, bt, (k : Int), (missL (at_, ap) (bt, bp) k).fdiv 55440, (0 : Int)) :: (if (missL (at_, ap) (bt, bp) k).fdiv 55440 = 2 then [(at_, bt, (k : Int), (0 : Int), (1 : Int))] else []) else [] := rfl
            rw [eM] at eA
            obtain ⟨M, hM⟩ : ∃ M, 110880 - ap * 2 - bp - (k : Int) * 2 * 27720 = M := ⟨_, rfl⟩
            have fin : ∀ o6 o7 o8, iA2 (.lst (R.map rowD)) (at_, ap) (bt, bp) (acc ++ (addL (at_, ap) (bt, bp) k).map sgD) [some (.lst (acc ++ (addL (at_, ap) (bt, bp) k).map sgD)), some (.lst (R.map rowD)), some (rowT at_), some (.int ap), some (rowT bt), some (.int bp), o6, o7, o8] := fun o6 o7 o8 => ⟨o6, o7, o8, rfl⟩
            simp [rowD, m1, m2, m3, m4, m5, dv]
            rw [hM] at eA ⊢
            have cM : (k : Int) * 2 * 27720 ≤ 110880 - ap * 2 - bp ↔ 0 ≤ M := by omega
            have yes : 0 ≤ M → M.fmod 55440 = 0 → (0 < (k : Int) ∨ bt = []) → addL (at_, ap) (bt, bp) k = (at_, bt, (k : Int), M.fdiv 55440, (0 : Int)) :: (if M.fdiv 55440 = 2 then [(at_, bt, (k : Int), (0 : Int), (1 : Int))] else []) := fun h1 h2 h3 => by rw [eA, if_pos ⟨h1, h2, h3⟩]
            have no : ¬ (0 ≤ M ∧ M.fmod 55440 = 0 ∧ (0 < (k : Int) ∨ bt = [])) → addL (at_, ap) (bt, bp) k = [] := fun h => by rw [eA, if_neg h]
            generalize hK : iA2 (.lst (R.map rowD)) (at_, ap) (bt, bp) (acc ++ (addL (at_, ap) (bt, bp) k).map sgD) = K at *
            have out : addL (at_, ap) (bt, bp) k = [] → ∀ o6 o7 o8, K [some (.lst acc), some (.lst (R.map rowD)), some (rowT at_), some (.int ap), some (rowT bt), some (.int bp), o6, o7, o8] := fun e o6 o7 o8 => by
              have := fin o6 o7 o8
              rw [e] at this
              simpa using this
            have inn : 0 ≤ M → M.fmod 55440 = 0 → (0 < (k : Int) ∨ bt = []) → acc.length < 16777216 ∧ (if M.fdiv 55440 = 2 then acc.length + 1 < 16777216 ∧ ∀ o6 o7 o8, K [some (.lst (acc ++ [D.tup [rowT at_, rowT bt, .int k, .int (M.fdiv 55440), .int 0], D.tup [rowT at_, rowT bt, .int k, .int 0, .int 1]])), some (.lst (R.map rowD)), some (rowT at_), some (.int ap), some (rowT bt), some (.int bp), o6, o7, o8]
                else ∀ o6 o7 o8, K [some (.lst (acc ++ [D.tup [rowT at_, rowT bt, .int k, .int (M.fdiv 55440), .int 0]])), some (.lst (R.map rowD)), some (rowT at_), some (.int ap), some (rowT bt), some (.int bp), o6, o7, o8]) := by
              intro h1 h2 h3
              have e := yes h1 h2 h3
              have hl : acc.length ≤ 17 := by omega
              refine ⟨by omega, ?_⟩
              split
              · rename_i g
                rw [if_pos g] at e
                rw [e] at fin
                exact ⟨by omega, fin⟩
              · rename_i g
                rw [if_neg g] at e
                rw [e] at fin
                exact fin
            by_cases c1 : (k : Int) * 2 * 27720 ≤ 110880 - ap * 2 - bp
            · rw [if_pos c1]
              by_cases c2 : M.fmod 55440 = 0
              · rw [if_pos c2]
                by_cases c3 : 0 < k
                · rw [if_pos c3]
                  obtain ⟨x1, x2⟩ := inn (cM.mp c1) c2 (.inl (by omega))
                  refine ⟨x1, ?_⟩
                  split
                  · rename_i g; rw [if_pos g] at x2; exact ⟨x2.1, x2.2 _ _ _⟩
                  · rename_i g; rw [if_neg g] at x2; exact x2 _ _ _
                · rw [if_neg c3, eq_emp (by omega)]
                  by_cases c4 : bt = []
                  · obtain ⟨x1, x2⟩ := inn (cM.mp c1) c2 (.inr c4)
                    simp [c4]
                    rw [c4] at x2
                    refine ⟨x1, ?_⟩
                    split
                    · rename_i g; rw [if_pos g] at x2; exact ⟨x2.1, x2.2 _ _ _⟩
                    · rename_i g; rw [if_neg g] at x2; exact x2 _ _ _
                  · have := out (no (fun h => by
                      rcases h.2.2 with h | h
                      · omega
                      · exact c4 h))
                    simp [c4]
                    exact this _ _ _
              · rw [if_neg c2]
                exact out (no (by omega)) _ _ _
            · rw [if_neg c1]
              exact out (no (by omega)) _ _ _
          · obtain ⟨p6, p7, p8, rfl⟩ := hρ
            rw [← flat_map (addL (at_, ap) (bt, bp)) sgD]
            exact ⟨_, _, _, _, _, rfl⟩
        · rw [if_neg hc]
          have ep : pairL (at_, ap) (bt, bp) = [] := by unfold pairL; rw [if_neg hc]
          rw [ep]
          simp
          exact ⟨_, _, _, _, _, rfl⟩
      · obtain ⟨p4, p5, p6, p7, p8, rfl⟩ := hρ
        rw [← flat_map (pairL (at_, ap)) sgD]
        exact ⟨_, _, _, _, _, _, _, rfl⟩
    · rw [← flat_map (fun a => R.flatMap (pairL a)) sgD] at hρ
      exact hρ
  rintro _ ⟨o2, o3, o4, o5, o6, o7, o8, rfl⟩
  have ok := tupsOk_sig (zs := allOf R)
  generalize (allOf R).map sgD = L at *
  simp [c__law_all]
  exact ⟨.inr ok, q⟩
theorem p__law_all (ds : List D) (Q : D → Prop) (E : Xn → Prop) (h : spAll.run ds Q E) : wpDef n__law_all.length (c__law_all spRows) ds Q E := by
  obtain ⟨rfl, q⟩ := h
  exact p__law_all_ (rowsR 4) rows_ok allL_len Q E q
/-! ### the program's rows -/
def addA (r : List Int) (k : Nat) : List (List Int) := if fitR r (2 + k) = true then [r ++ [(2 + k : Int)]] else []
def stepA (r : List Int) : List (List Int) := (List.range 5).flatMap (addA r)
def lastA : Nat → List (List Int)
  | 0 => [[]]
  | i + 1 => (lastA i).flatMap stepA
def rowsA : Nat → List (List Int)
  | 0 => [[]]
  | i + 1 => rowsA i ++ lastA (i + 1)
def spAsc : Spec := ⟨fun ds Q _ => ds = [.int 4, .int 2, .int 6] ∧ Q (.lst ((rowsA 4).map rowT)), fun _ _ _ _ _ ⟨e, q⟩ hq _ => ⟨e, hq _ q⟩⟩
theorem lensA : (List.range 5).all (fun i => decide ((lastA i).length ≤ 100) && decide ((rowsA i).length ≤ 200) && (lastA i).all (fun r => decide (r.length ≤ 5))) = true := by decide +kernel
theorem lenA_at {i : Nat} (h : i ≤ 4) : (lastA i).length ≤ 100 ∧ (rowsA i).length ≤ 200 ∧ ∀ r ∈ lastA i, r.length ≤ 5 := by
  have := List.all_eq_true.mp lensA i (List.mem_range.mpr (by omega))
  simp only [Bool.and_eq_true, decide_eq_true_eq, List.all_eq_true] at this
  exact ⟨this.1.1, this.1.2, this.2⟩
def unI : D → Int
  | .int i => i
  | _ => 0
def unT : D → List Int
  | .tup ds => ds.map unI
  | _ => []
theorem unT_row (r : List Int) : unT (rowT r) = r := by
  unfold unT rowT
  simp only [List.map_map]
  induction r with
  | nil => rfl
  | cons x r ih => rw [List.map_cons, ih]; rfl
def iAs (i : Nat) (ρ : DEnv) : Prop := ∃ o5 o6 o7, ρ = [some (.int 4), some (.int 2), some (.int 6), some (.lst ((rowsA i).map rowT)), some (.lst ((lastA i).map rowT)), o5, o6, o7]
theorem filt_flat (a : List Int) : ∀ l : List Nat, (l.map fun (k : Nat) => D.int (2 + (k : Int))).filterMap (fun d => if fitR a (unI d) = true then some (rowT (a ++ [unI d])) else none) = (l.flatMap (addA a)).map rowT
  | [] => rfl
  | k :: l => by
    have ih := filt_flat a l
    rw [List.map_cons, List.filterMap_cons, List.flatMap_cons, List.map_append, ← ih]
    simp only [show unI (D.int (2 + (k : Int))) = 2 + (k : Int) from rfl]
    unfold addA
    by_cases g : fitR a (2 + (k : Int)) = true
    · rw [if_pos g, if_pos g]
      rfl
    · rw [if_neg g, if_neg g]
      rfl
theorem p_ascending_rows (ds : List D) (Q : D → Prop) (E : Xn → Prop) (h : spAsc.run ds Q E) : wpDef n_ascending_rows.length c_ascending_rows ds Q E := by
  obtain ⟨rfl, q⟩ := h
  unfold wpDef
  refine wB_cut 2 (iAs 0) ?_ ?_
  · simp [c_ascending_rows, n_ascending_rows, start]
    exact ⟨_, _, _, rfl⟩
  rintro _ ⟨o5, o6, o7, rfl⟩
  refine wB_cut 1 (iAs 4) ?_ ?_
  · simp only [c_ascending_rows, List.drop, List.take]
    rw [wB_cons]
    refine wS_for iAs ?_
    simp [-wB_cons]
    refine ⟨⟨_, _, _, rfl⟩, ?_, fun ρ hρ => by rw [rng_len] at hρ; exact hρ⟩
    rintro i d ρ hi ⟨o5, o6, o7, rfl⟩
    obtain ⟨hl, rfl⟩ := rng_get hi
    obtain ⟨l1, l2, l3⟩ := lenA_at (i := i) (by omega)
    obtain ⟨l4, l5, l6⟩ := lenA_at (i := i + 1) (by omega)
    simp [-wB_cons]
    refine wB_step (fun ρ => ρ = [some (.int 4), some (.int 2), some (.int 6), some (.lst ((rowsA i).map rowT)), some (.lst ((lastA (i + 1)).map rowT)), some (.int i), o6, o7]) ?_ ?_
    · rw [wS_asg]
      refine wE_lc2m 100 (fun x => (stepA (unT x)).map rowT) ?_
      have e1 : ((lastA i).map rowT).flatMap (fun x => (stepA (unT x)).map rowT) = (lastA (i + 1)).map rowT := by
        rw [List.flatMap_map]
        simp only [unT_row]
        exact (flat_map stepA rowT (lastA i)).symm
      simp [-List.length_flatMap, -List.flatMap_map]
      rw [e1]
      refine ⟨by rw [List.length_map]; omega, ?_, ?_⟩
      · rintro a ha acc K hl hK
        have r5 := l3 a ha
        rw [unT_row] at hl hK
        have sl : (stepA a).length ≤ 5 := by
          unfold stepA
          have e : List.range 5 = [0, 1, 2, 3, 4] := rfl
          have one : ∀ k, (addA a k).length ≤ 1 := fun k => by unfold addA; split <;> simp
          have h0 := one 0
          have h1 := one 1
          have h2 := one 2
          have h3 := one 3
          have h4 := one 4
          rw [e]
          simp only [List.flatMap_cons, List.flatMap_nil, List.length_append, List.length_nil]
          omega
        unfold lc2T
        simp [wipeD, CT.slots]
        refine lcG_map' (fun d => if fitR a (unI d) = true then some (rowT (a ++ [unI d])) else none) ?_ ?_ ?_
        · rw [rng_len]
          show acc.length + 5 ≤ 16777216
          omega
        · intro x hx K hK
          obtain ⟨k, hk, rfl⟩ : ∃ k : Nat, k < 5 ∧ x = .int (2 + (k : Int)) := by
            unfold rangeD at hx
            obtain ⟨k, hk, rfl⟩ := List.mem_map.mp hx
            exact ⟨k, by simpa using hk, rfl⟩
          have rb : ∀ Q : D → Prop, binD .add (rowT a) (.tup [.int (2 + k : Int)]) Q = Q (rowT (a ++ [(2 + k : Int)])) := by
            intro Q
            show (_ ∧ _) = _
            rw [rowT_app a _]
            simp
            intro _
            omega
          simp only [unI] at hK
          unfold lcT
          simp
          rw [eq_emp (by omega)]
          simp
          by_cases f0 : a = []
          · rw [if_pos f0]
            simp [fitR, f0] at hK
            rw [rb, f0]
            exact hK
          · rw [if_neg f0, ix_last f0]
            simp
            by_cases f1 : lastI a ≤ 2 + k
            · rw [if_pos f1, rb]
              simp [fitR, f1] at hK
              exact hK
            · rw [if_neg f1]
              simp [fitR, f0, f1] at hK
              exact hK
        · have e : (rangeD 2 5).filterMap (fun d => if fitR a (unI d) = true then some (rowT (a ++ [unI d])) else none) = (stepA a).map rowT := by
            exact filt_flat a (List.range 5)
          rw [e]
          exact hK
      · rfl
    rintro _ rfl
    have im : D.imms ((lastA (i + 1)).map rowT) = true := by
      have : ∀ ds : List D, (∀ d ∈ ds, D.imm d = true) → D.imms ds = true := by
        intro ds
        induction ds with
        | nil => intro _; rfl
        | cons d ds ih =>
          intro h
          show (D.imm d && D.imms ds) = true
          rw [h d List.mem_cons_self, ih fun e he => h e (List.mem_cons_of_mem _ he)]
          rfl
      refine this _ fun d hd => ?_
      obtain ⟨r, _, rfl⟩ := List.mem_map.mp hd
      simp
    simp
    refine ⟨by omega, im, some (.int i), o6, o7, ?_⟩
    simp only [rowsA, List.map_append]
  rintro _ ⟨o5, o6, o7, rfl⟩
  simp [c_ascending_rows]
  exact q
/-! ### the program's signatures -/
def sumA (r : List Int) : Int := (r.map fun n => (120 * (n - 1)).fdiv n).sum
def rowsP : List Row := ((rowsA 4).map fun r => (r, sumA r)).filter fun z => decide (z.2 ≤ 240)
def missP (a b : Row) (k : Nat) : Int := 2 * 120 - a.2 - b.2.fdiv 2 - (k : Int) * 120
def addP (a b : Row) (k : Nat) : List Sig :=
  if 0 ≤ missP a b k ∧ (missP a b k).fmod 120 = 0 ∧ (0 < (k : Int) ∨ b.1 = []) then
    (a.1, b.1, (k : Int), (missP a b k).fdiv 120, (0 : Int)) :: (if missP a b k = 240 then [(a.1, b.1, (k : Int), (0 : Int), (1 : Int))] else [])
  else []
def pairP (a b : Row) : List Sig := (List.range 3).flatMap (addP a b)
def allPr (R : List Row) : List Sig := R.flatMap fun a => R.flatMap (pairP a)
theorem allPr_len : (allPr rowsP).length = 17 := by decide +kernel
theorem all_perm : allL.Perm (allPr rowsP) := by
  rw [← List.isPerm_iff]
  decide +kernel
theorem rowsP_ok : ∀ r ∈ rowsP, 0 ≤ r.2 ∧ r.2 ≤ 240 ∧ r.1.length ≤ 5 := by
  have h : (rowsP.all fun r => decide (0 ≤ r.2) && decide (r.2 ≤ 240) && decide (r.1.length ≤ 5)) = true := by decide +kernel
  intro r hr
  have := List.all_eq_true.mp h r hr
  simp only [Bool.and_eq_true, decide_eq_true_eq] at this
  exact ⟨this.1.1, this.1.2, this.2⟩
theorem rowsA_ok : ∀ r ∈ rowsA 4, r.length ≤ 5 ∧ ∀ n ∈ r, 2 ≤ n ∧ n ≤ 6 := by
  have h : ((rowsA 4).all fun r => decide (r.length ≤ 5) && r.all fun n => decide (2 ≤ n) && decide (n ≤ 6)) = true := by decide +kernel
  intro r hr
  have := List.all_eq_true.mp h r hr
  simp only [Bool.and_eq_true, decide_eq_true_eq, List.all_eq_true] at this
  exact this
theorem rowsA_len : (rowsA 4).length ≤ 200 := (lenA_at (by omega)).2.1
theorem intsD_ints : ∀ ns : List Int, intsD (ns.map .int) = some ns
  | [] => rfl
  | n :: ns => by show (intsD (ns.map .int)).map (n :: ·) = _; rw [intsD_ints ns]; rfl
end Dl

/-! DlK09b: the program's signatures; the law. -/
namespace Dl
open PySem
def iB0 (rs : D) (acc : List D) (ρ : DEnv) : Prop := ∃ o2 o3 o4 o5 o6 o7 o8 o9 o10, ρ = [some rs, some (.lst acc), o2, o3, o4, o5, o6, o7, o8, o9, o10]
def iB1 (rs : D) (a : Row) (acc : List D) (ρ : DEnv) : Prop := ∃ o4 o5 o6 o7 o8 o9 o10, ρ = [some rs, some (.lst acc), some (rowT a.1), some (.int a.2), o4, o5, o6, o7, o8, o9, o10]
def iB2 (rs : D) (a b : Row) (acc : List D) (ρ : DEnv) : Prop := ∃ o4 o5 o8 o9 o10, ρ = [some rs, some (.lst acc), some (rowT a.1), some (.int a.2), o4, o5, some (rowT b.1), some (.int b.2), o8, o9, o10]
def mkR (d : D) : Option D := some (rowD (unT d, sumA (unT d)))
def leR : D → Option D
  | .tup [r, .int p] => if p ≤ 240 then some (.tup [r, .int p]) else none
  | _ => none
theorem leR_map (zs : List Row) : (zs.map rowD).filterMap leR = (zs.filter fun z => decide (z.2 ≤ 240)).map rowD := by
  induction zs with
  | nil => rfl
  | cons z zs ih =>
    rw [List.map_cons, List.filterMap_cons]
    have e : leR (rowD z) = if z.2 ≤ 240 then some (rowD z) else none := rfl
    rw [e]
    by_cases g : z.2 ≤ 240
    · rw [if_pos g, List.filter_cons_of_pos (by simpa using g), List.map_cons, ih]
    · rw [if_neg g, List.filter_cons_of_neg (by simpa using g), ih]
def spSigs : Spec := ⟨fun ds Q _ => ds = [] ∧ Q (.lst (sortD ((allPr rowsP).map sgD))), fun _ _ _ _ _ ⟨e, q⟩ hq _ => ⟨e, hq _ q⟩⟩
def rest_all : List CS := (c_all_signatures spAsc).drop 2
theorem p_sig_rest (R : List Row) (ro : ∀ r ∈ R, 0 ≤ r.2 ∧ r.2 ≤ 240 ∧ r.1.length ≤ 5) (tot : (allPr R).length = 17) (Q : D → Prop) (E : Xn → Prop) (q : Q (.lst (sortD ((allPr R).map sgD)))) (o1 o2 o3 o4 o5 o6 o7 o8 o9 o10 : Option D) :
    wpB rest_all [some (.lst (R.map rowD)), o1, o2, o3, o4, o5, o6, o7, o8, o9, o10] { nx := fun _ => Q .non, rt := Q, bk := fun _ => False, ct := fun _ => False, ex := fun _ => E } := by
  refine wB_cut 1 (iB0 (.lst (R.map rowD)) []) ?_ ?_
  · simp [rest_all, c_all_signatures]
    exact ⟨_, _, _, _, _, _, _, _, _, rfl⟩
  rintro _ ⟨o2, o3, o4, o5, o6, o7, o8, o9, o10, rfl⟩
  refine wB_cut 1 (iB0 (.lst (R.map rowD)) ((allPr R).map sgD)) ?_ ?_
  · simp only [rest_all, c_all_signatures, List.drop, List.take]
    rw [wB_cons]
    refine wS_forM R rowD (fun a => (R.flatMap (pairP a)).map sgD) [] (iB0 (.lst (R.map rowD))) 17 ?_ ?_
    · rw [← flat_map (fun a => R.flatMap (pairP a)) sgD, List.length_map]
      show 0 + (allPr R).length ≤ 17
      omega
    simp [-wB_cons, -List.length_map, -List.length_flatMap]
    refine ⟨⟨_, _, _, _, _, _, _, _, _, rfl⟩, ?_, fun ρ hρ => ?_⟩
    · rintro at_ ap hma acc ρ hacc ⟨p2, p3, p4, p5, p6, p7, p8, p9, p10, rfl⟩
      obtain ⟨a1, a2, a3⟩ := ro _ hma
      simp only at a1 a2 a3
      simp [rowD, -wB_cons, -List.length_map, -List.length_flatMap]
      rw [wB_cons]
      refine wS_forM R rowD (fun b => (pairP (at_, ap) b).map sgD) acc (iB1 (.lst (R.map rowD)) (at_, ap)) 17 ?_ ?_
      · rw [← flat_map (pairP (at_, ap)) sgD]
        exact hacc
      simp [-wB_cons, -List.length_map, -List.length_flatMap]
      refine ⟨⟨_, _, _, _, _, _, _, rfl⟩, ?_, fun ρ hρ => ?_⟩
      · rintro bt bp hmb acc ρ hacc ⟨p4, p5, p6, p7, p8, p9, p10, rfl⟩
        obtain ⟨b1, b2, b3⟩ := ro _ hmb
        simp only at b1 b2 b3
        simp [rowD, -wB_cons, -List.length_map, -List.length_flatMap]
        rw [wB_cons]
        refine wS_forM (List.range 3) (fun k => .int (0 + (k : Int))) (fun k => (addP (at_, ap) (bt, bp) k).map sgD) acc (iB2 (.lst (R.map rowD)) (at_, ap) (bt, bp)) 17 ?_ ?_
        · rw [← flat_map (addP (at_, ap) (bt, bp)) sgD]
          exact hacc
        simp [-wB_cons, -List.length_map, -List.length_flatMap]
        refine ⟨?_, ⟨_, _, _, _, _, rfl⟩, ?_, fun ρ hρ => ?_⟩
        · simp [rangeD]
        · rintro k hk acc ρ hacc ⟨p4, p5, p8, p9, p10, rfl⟩
          have m3 : MulOk 2 120 := mulOk_lit (by omega) (by omega)
          have m4 : MulOk (k : Int) 120 := mulOk_lit (by omega) (by omega)
          have dv : DivOk 120 := divOk_big (by omega) (lt_big' (k := 20) (by omega) (by omega))
          have dv2 : DivOk 2 := divOk_big (by omega) (lt_big' (k := 20) (by omega) (by omega))
          have eM : missP (at_, ap) (bt, bp) k = 240 - ap - bp.fdiv 2 - (k : Int) * 120 := by unfold missP; simp only; omega
          have eA : addP (at_, ap) (bt, bp) k = if 0 ≤ missP (at_, ap) (bt, bp) k ∧ (missP (at_, ap) (bt, bp) k).fmod 120 = 0 ∧ (0 < (k : Int) ∨ bt = []) then
              (at_, bt, (k : Int), (missP (at_, ap) (bt, bp) k).fdiv 120, (0 : Int)) :: (if missP (at_, ap) (bt, bp) k = 240 then [(at_, bt, (k : Int), (0 : Int), (1 : Int))] else []) else [] := rfl
          rw [eM] at eA
          obtain ⟨M, hM⟩ : ∃ M, 240 - ap - bp.fdiv 2 - (k : Int) * 120 = M := ⟨_, rfl⟩
          have fin : ∀ o4 o5 o8 o9 o10, iB2 (.lst (R.map rowD)) (at_, ap) (bt, bp) (acc ++ (addP (at_, ap) (bt, bp) k).map sgD) [some (.lst (R.map rowD)), some (.lst (acc ++ (addP (at_, ap) (bt, bp) k).map sgD)), some (rowT at_), some (.int ap), o4, o5, some (rowT bt), some (.int bp), o8, o9, o10] := fun o4 o5 o8 o9 o10 => ⟨o4, o5, o8, o9, o10, rfl⟩
          simp [rowD, m3, m4, dv, dv2]
          rw [hM] at eA ⊢
          have cF : (240 - ap - bp.fdiv 2).fmod 120 = M.fmod 120 := by rw [← hM]; simp
          rw [cF]
          have cM : (k : Int) * 120 ≤ 240 - ap - bp.fdiv 2 ↔ 0 ≤ M := by omega
          have yes : 0 ≤ M → M.fmod 120 = 0 → (0 < (k : Int) ∨ bt = []) → addP (at_, ap) (bt, bp) k = (at_, bt, (k : Int), M.fdiv 120, (0 : Int)) :: (if M = 240 then [(at_, bt, (k : Int), (0 : Int), (1 : Int))] else []) := fun h1 h2 h3 => by rw [eA, if_pos ⟨h1, h2, h3⟩]
          have no : ¬ (0 ≤ M ∧ M.fmod 120 = 0 ∧ (0 < (k : Int) ∨ bt = [])) → addP (at_, ap) (bt, bp) k = [] := fun h => by rw [eA, if_neg h]
          generalize hK : iB2 (.lst (R.map rowD)) (at_, ap) (bt, bp) (acc ++ (addP (at_, ap) (bt, bp) k).map sgD) = K at *
          have out : addP (at_, ap) (bt, bp) k = [] → ∀ o4 o5 o8 o9 o10, K [some (.lst (R.map rowD)), some (.lst acc), some (rowT at_), some (.int ap), o4, o5, some (rowT bt), some (.int bp), o8, o9, o10] := fun e o4 o5 o8 o9 o10 => by
            have := fin o4 o5 o8 o9 o10
            rw [e] at this
            simpa using this
          have inn : 0 ≤ M → M.fmod 120 = 0 → (0 < (k : Int) ∨ bt = []) → acc.length < 16777216 ∧ (if M = 240 then acc.length + 1 < 16777216 ∧ ∀ o4 o5 o8 o9 o10, K [some (.lst (R.map rowD)), some (.lst (acc ++ [D.tup [rowT at_, rowT bt, .int k, .int (M.fdiv 120), .int 0], D.tup [rowT at_, rowT bt, .int k, .int 0, .int 1]])), some (rowT at_), some (.int ap), o4, o5, some (rowT bt), some (.int bp), o8, o9, o10]
              else ∀ o4 o5 o8 o9 o10, K [some (.lst (R.map rowD)), some (.lst (acc ++ [D.tup [rowT at_, rowT bt, .int k, .int (M.fdiv 120), .int 0]])), some (rowT at_), some (.int ap), o4, o5, some (rowT bt), some (.int bp), o8, o9, o10]) := by
            intro h1 h2 h3
            have e := yes h1 h2 h3
            have hl : acc.length ≤ 17 := by omega
            refine ⟨by omega, ?_⟩
            split
            · rename_i g
              rw [if_pos g] at e
              rw [e] at fin
              exact ⟨by omega, fin⟩
            · rename_i g
              rw [if_neg g] at e
              rw [e] at fin
              exact fin
          by_cases c1 : (k : Int) * 120 ≤ 240 - ap - bp.fdiv 2
          · rw [if_pos c1]
            by_cases c2 : M.fmod 120 = 0
            · rw [if_pos c2]
              by_cases c3 : 0 < k
              · rw [if_pos c3]
                obtain ⟨x1, x2⟩ := inn (cM.mp c1) c2 (.inl (by omega))
                refine ⟨x1, ?_⟩
                split
                · rename_i g; rw [if_pos g] at x2; exact ⟨x2.1, x2.2 _ _ _ _ _⟩
                · rename_i g; rw [if_neg g] at x2; exact x2 _ _ _ _ _
              · rw [if_neg c3, eq_emp (by omega)]
                by_cases c4 : bt = []
                · obtain ⟨x1, x2⟩ := inn (cM.mp c1) c2 (.inr c4)
                  simp [c4]
                  rw [c4] at x2
                  refine ⟨x1, ?_⟩
                  split
                  · rename_i g; rw [if_pos g] at x2; exact ⟨x2.1, x2.2 _ _ _ _ _⟩
                  · rename_i g; rw [if_neg g] at x2; exact x2 _ _ _ _ _
                · have := out (no (fun h => by
                    rcases h.2.2 with h | h
                    · omega
                    · exact c4 h))
                  simp [c4]
                  exact this _ _ _ _ _
            · rw [if_neg c2]
              exact out (no (by omega)) _ _ _ _ _
          · rw [if_neg c1]
            exact out (no (by omega)) _ _ _ _ _
        · obtain ⟨p4, p5, p8, p9, p10, rfl⟩ := hρ
          rw [← flat_map (addP (at_, ap) (bt, bp)) sgD]
          exact ⟨_, _, _, _, _, _, _, rfl⟩
      · obtain ⟨p4, p5, p6, p7, p8, p9, p10, rfl⟩ := hρ
        rw [← flat_map (pairP (at_, ap)) sgD]
        exact ⟨_, _, _, _, _, _, _, _, _, rfl⟩
    · rw [← flat_map (fun a => R.flatMap (pairP a)) sgD] at hρ
      exact hρ
  rintro _ ⟨o2, o3, o4, o5, o6, o7, o8, o9, o10, rfl⟩
  have ok := tupsOk_sig (zs := allPr R)
  generalize (allPr R).map sgD = L at *
  simp [rest_all, c_all_signatures]
  exact ⟨.inr ok, q⟩
theorem p_all_signatures (ds : List D) (Q : D → Prop) (E : Xn → Prop) (h : spSigs.run ds Q E) : wpDef n_all_signatures.length (c_all_signatures spAsc) ds Q E := by
  obtain ⟨rfl, q⟩ := h
  unfold wpDef
  have hA := rowsA_ok
  have hl := rowsA_len
  have eP : rowsP = ((rowsA 4).map fun r => (r, sumA r)).filter fun z => decide (z.2 ≤ 240) := rfl
  have ro := rowsP_ok
  have tot := allPr_len
  have rest := p_sig_rest rowsP ro tot Q E q
  generalize rowsP = R at *
  refine wB_cut 2 (fun ρ => ∃ o1 o2 o3 o4 o5 o6 o7 o8 o9 o10, ρ = [some (.lst (R.map rowD)), o1, o2, o3, o4, o5, o6, o7, o8, o9, o10]) ?_ ?_
  · refine wB_cut 1 (fun ρ => ∃ o1 o2 o3 o4 o5 o6 o7 o8 o9 o10, ρ = [some (.lst (((rowsA 4).map fun r => (r, sumA r)).map rowD)), o1, o2, o3, o4, o5, o6, o7, o8, o9, o10]) ?_ ?_
    · generalize hR4 : rowsA 4 = R4 at *
      simp only [c_all_signatures, List.take, List.drop]
      rw [wB_cons, wS_asg]
      refine wE_lcm mkR ?_
      simp [n_all_signatures, start, -List.length_map]
      refine ⟨rfl, ?_⟩
      rw [hR4]
      simp [-List.length_map]
      refine ⟨by rw [List.length_map]; omega, ?_, ?_⟩
      · intro r hr K hK
        obtain ⟨r5, rn⟩ := hA r hr
        have eK : mkR (rowT r) = some (rowD (r, sumA r)) := by unfold mkR; rw [unT_row]
        rw [eK] at hK
        unfold lcT
        simp
        refine wE_lcm (fun d => some (.int ((120 * (unI d - 1)).fdiv (unI d)))) ?_
        simp
        refine ⟨by omega, ?_, ?_⟩
        · intro n hn K hK
          obtain ⟨n1, n2⟩ := rn n hn
          have m1 : MulOk 120 (n - 1) := mulOk_lit (by omega) (by omega)
          have dv : DivOk n := divOk_big (by omega) (lt_big' (k := 10) (by omega) (by omega))
          unfold lcT
          simp [m1, dv]
          exact hK
        · have e : List.map ((fun x => D.int ((120 * (unI x - 1)).fdiv (unI x))) ∘ D.int) r = (r.map fun x => (120 * (x - 1)).fdiv x).map D.int := by rw [List.map_map]; rfl
          rw [e]
          exact ⟨_, intsD_ints _, hK⟩
      · have go : ∀ l : List (List Int), l.filterMap (mkR ∘ rowT) = l.map (rowD ∘ fun r => (r, sumA r)) := by
          intro l
          induction l with
          | nil => rfl
          | cons r l ih =>
            have eK : (mkR ∘ rowT) r = some (rowD (r, sumA r)) := by show mkR (rowT r) = _; unfold mkR; rw [unT_row]
            rw [List.filterMap_cons, eK, ih]
            rfl
        exact go R4
    rintro _ ⟨o1, o2, o3, o4, o5, o6, o7, o8, o9, o10, rfl⟩
    simp only [c_all_signatures, List.take, List.drop]
    rw [wB_cons, wS_asg]
    refine wE_lcm leR ?_
    have m3 : MulOk 2 120 := mulOk_lit (by omega) (by omega)
    simp [-List.length_map]
    refine ⟨?_, ?_, ?_⟩
    · rw [List.length_map]; omega
    · intro r hr K hK
      have eK : leR (rowD (r, sumA r)) = if sumA r ≤ 240 then some (rowD (r, sumA r)) else none := rfl
      rw [eK] at hK
      unfold lcT
      simp [rowD, m3]
      by_cases g : sumA r ≤ 240
      · rw [if_pos g] at hK ⊢
        exact hK
      · rw [if_neg g] at hK ⊢
        exact hK
    · have := leR_map ((rowsA 4).map fun r => (r, sumA r))
      rw [← eP, List.filterMap_map, List.filterMap_map] at this
      exact this
  rintro _ ⟨o1, o2, o3, o4, o5, o6, o7, o8, o9, o10, rfl⟩
  exact rest _ _ _ _ _ _ _ _ _ _
/-! ### the law -/
theorem cut_hi {xs : List Int} {k : Int} {Q : D → Prop} (h0 : 0 ≤ k) : slD (.lst (xs.map .int)) none (some k) Q = Q (.lst ((xs.take k.toNat).map .int)) := by
  rw [sl_L]
  congr 2
  unfold cutD sIxD
  simp only [List.length_map]
  rw [if_neg (by omega), List.drop_zero, ← List.map_take, Nat.sub_zero]
  congr 1
  have e : (min k (xs.length : Int)).toNat = min k.toNat xs.length := by omega
  rw [e]
  by_cases g : k.toNat ≤ xs.length
  · rw [Nat.min_eq_left g]
  · rw [Nat.min_eq_right (by omega), List.take_of_length_le (Nat.le_refl _), List.take_of_length_le (by omega)]
theorem cut_both {xs : List Int} {a b : Int} {Q : D → Prop} (h0 : 0 ≤ a) (h1 : a ≤ b) (h2 : b ≤ (xs.length : Int)) : slD (.lst (xs.map .int)) (some a) (some b) Q = Q (.lst (((xs.drop a.toNat).take (b - a).toNat).map .int)) := by
  rw [sl_L]
  congr 2
  unfold cutD sIxD
  simp only [List.length_map]
  rw [if_neg (by omega), if_neg (by omega), ← List.map_drop, ← List.map_take]
  have e1 : (min a (xs.length : Int)).toNat = a.toNat := by omega
  have e2 : (min b (xs.length : Int)).toNat - a.toNat = (b - a).toNat := by omega
  rw [e1, e2]
theorem ints_back {ys : List Int} : ∀ {l : List D}, (∀ d ∈ l, d ∈ ys.map D.int) → ∃ ms : List Int, l = ms.map .int ∧ ∀ m ∈ ms, m ∈ ys
  | [], _ => ⟨[], rfl, fun _ h => by cases h⟩
  | d :: l, h => by
    obtain ⟨ms, e, hm⟩ := ints_back (l := l) fun x hx => h x (List.mem_cons_of_mem _ hx)
    obtain ⟨y, hy, rfl⟩ := List.mem_map.mp (h d List.mem_cons_self)
    refine ⟨y :: ms, by rw [e]; rfl, fun m hm' => ?_⟩
    rcases List.mem_cons.mp hm' with rfl | hm'
    · exact hy
    · exact hm m hm'
theorem sort_row {ys : List Int} (hl : ys.length ≤ 4) (h : ∀ y ∈ ys, ord y) : ∃ ts, okRow ts ∧ sortD (ys.map .int) = ts.map .int := by
  obtain ⟨ms, e, hm⟩ := ints_back (ys := ys) (l := sortD (ys.map .int)) fun d hd => sortD_mem.mp hd
  refine ⟨ms, ⟨?_, fun t ht => h t (hm t ht)⟩, e⟩
  have := congrArg List.length e
  rw [sortD_len, List.length_map, List.length_map] at this
  omega
def rowOfS (zs : List Int) : D → Option D := fun d => some (.int (2 + (unI d).fmod 59))
/-- tuple(sorted([2 + n % 59 for n in part])) -/
theorem row_made {zs : List Int} {ρ : DEnv} {Q : D → Prop} {E : Xn → Prop} {sl : CE} {n : Nat} (hl : zs.length ≤ 4) (hsl : ∀ (R : D → Prop), R (.lst (zs.map .int)) → wpE sl ρ R E) (hρ : ρ.length = 11)
    (hq : ∀ ts, okRow ts → Q (rowT ts)) : wpE (.blt .tuple_ [(.blt .sorted_ [(.lc (.nm 10) sl [] (.bin .add (.int 2) (.bin .mod (.var 10) (.int 59))))])]) ρ Q E := by
  simp only [wE_blt, wEs_cons, wEs_nil]
  refine wE_lcm (fun d => some (.int (2 + (unI d).fmod 59))) ?_
  refine hsl _ ?_
  simp
  refine ⟨by omega, ?_, ?_⟩
  · intro z hz K hK
    have hs : slot (List.set ρ 10 (some (D.int z))) 10 = some (.int z) := by
      unfold slot
      rw [List.getElem?_set_self (by omega)]
      rfl
    unfold lcT
    simp [hs]
    exact hK
  · have e : List.map ((fun x => D.int (2 + (unI x).fmod 59)) ∘ D.int) zs = (zs.map fun x => 2 + x.fmod 59).map D.int := by rw [List.map_map]; rfl
    rw [e]
    obtain ⟨ts, ok, es⟩ := sort_row (ys := zs.map fun x => 2 + x.fmod 59) (by rw [List.length_map]; exact hl) fun y hy => by
      obtain ⟨x, _, rfl⟩ := List.mem_map.mp hy
      obtain ⟨a, b⟩ := fmod_lt x (b := 59) (by omega)
      unfold ord
      omega
    have := hq ts ok
    refine ⟨.inl ⟨_, intsD_ints _⟩, ?_⟩
    rw [es]
    exact this
def spLaw_k09 : Spec := .fn (fun ds => ∃ ns : List Int, ds = [.lst (ns.map .int)]) fun _ => .bl true
def inv09 (ns : List Int) (_ : Nat) (ρ : DEnv) : Prop := ∃ o1 o2 o3 o4 o5 o6 o7 o8 o9 o10, ρ = [some (.lst (ns.map .int)), o1, o2, o3, o4, o5, o6, o7, o8, o9, o10]
theorem dat_sigs {zs : List Sig} (hl : zs.length ≤ 100) (h5 : ∀ z ∈ zs, z.1.length ≤ 50 ∧ z.2.1.length ≤ 50) : D.dat 5 (.lst (sortD (zs.map sgD))) = true := by
  have go : ∀ ds : List D, (∀ d ∈ ds, D.dat 4 d = true) → D.dats 4 ds = true := by
    intro ds
    induction ds with
    | nil => intro _; rfl
    | cons d ds ih =>
      intro h
      show (D.dat 4 d && D.dats 4 ds) = true
      rw [h d List.mem_cons_self, ih fun e he => h e (List.mem_cons_of_mem _ he)]
      rfl
  have hn : ∀ ts : List Int, D.dats 2 (ts.map D.int) = true := by
    intro ts
    induction ts with
    | nil => rfl
    | cons t ts ih => show (D.dat 2 (.int t) && D.dats 2 (ts.map D.int)) = true; rw [ih]; rfl
  have hlen : (sortD (zs.map sgD)).length ≤ 100 := by rw [sortD_len, List.length_map]; exact hl
  show (decide ((sortD (zs.map sgD)).length < 2 ^ 60) && D.dats 4 (sortD (zs.map sgD))) = true
  rw [go _ fun d hd => ?_, decide_eq_true (by omega)]
  · rfl
  · rw [sortD_mem] at hd
    obtain ⟨⟨t, c, r, w, g⟩, hz, rfl⟩ := List.mem_map.mp hd
    obtain ⟨q1, q2⟩ := h5 _ hz
    simp only at q1 q2
    show (decide ([rowT t, rowT c, D.int r, D.int w, D.int g].length < 2 ^ 60) && (D.dat 3 (rowT t) && (D.dat 3 (rowT c) && true))) = true
    have e1 : D.dat 3 (rowT t) = true := by
      show (decide ((t.map D.int).length < 2 ^ 60) && D.dats 2 (t.map D.int)) = true
      rw [hn, List.length_map, decide_eq_true (by omega)]
      rfl
    have e2 : D.dat 3 (rowT c) = true := by
      show (decide ((c.map D.int).length < 2 ^ 60) && D.dats 2 (c.map D.int)) = true
      rw [hn, List.length_map, decide_eq_true (by omega)]
      rfl
    rw [e1, e2]
    rfl
theorem allL_rows : ∀ z ∈ allL, z.1.length ≤ 50 ∧ z.2.1.length ≤ 50 := by
  have h : (allL.all fun z => decide (z.1.length ≤ 50) && decide (z.2.1.length ≤ 50)) = true := by decide +kernel
  intro z hz
  have := List.all_eq_true.mp h z hz
  simp only [Bool.and_eq_true, decide_eq_true_eq] at this
  exact this
theorem sig_num (z : Sig) : numD (sgD z) = true := by
  obtain ⟨t, c, r, w, g⟩ := z
  have hn : ∀ ts : List Int, numDs (ts.map D.int) = true := by
    intro ts
    induction ts with
    | nil => rfl
    | cons t ts ih => show (numD (.int t) && numDs (ts.map D.int)) = true; rw [ih]; rfl
  show (numDs (t.map D.int) && (numDs (c.map D.int) && true)) = true
  rw [hn, hn]
  rfl
theorem same_sigs : sortD (allL.map sgD) = sortD ((allPr rowsP).map sgD) := sortD_perm (all_perm.map sgD) fun d hd => by
  obtain ⟨z, _, rfl⟩ := List.mem_map.mp hd
  exact sig_num z
theorem p_law_k09 (ds : List D) (Q : D → Prop) (E : Xn → Prop) (h : spLaw_k09.run ds Q E) : wpDef n_law_k09.length (c_law_k09 spNums spCell spAddQ spPrice (spSame 5) spCost spAll spSigs) ds Q E := by
  obtain ⟨⟨ns, rfl⟩, h⟩ := h
  have e17 : (sortD (allL.map sgD)).length = 17 := by rw [sortD_len, List.length_map]; exact allL_len
  have hsame := same_sigs
  have hdat := dat_sigs (zs := allL) (by rw [allL_len]; omega) allL_rows
  unfold wpDef
  refine wB_cut 1 (inv09 ns 0) ?_ ?_
  · simp [c_law_k09, n_law_k09, start]
    refine wS_for (inv09 ns) ?_
    simp [-wB_cons]
    refine ⟨⟨none, none, none, none, none, none, none, none, none, none, rfl⟩, ?_, fun ρ hρ => hρ⟩
    rintro i d ρ hi ⟨o1, o2, o3, o4, o5, o6, o7, o8, o9, o10, rfl⟩
    obtain ⟨hl, rfl⟩ := rng_get hi
    simp [-wB_cons]
    refine wB_step (fun ρ => ∃ xs : List Int, xs.length = 14 ∧ (∀ x ∈ xs, th x) ∧ ρ = [some (.lst (ns.map .int)), some (.int i), o2, o3, some (.lst (xs.map .int)), o5, o6, o7, o8, o9, o10]) ?_ ?_
    · simp
      refine ⟨⟨ns, _, rfl, by omega⟩, ?_⟩
      rintro _ ⟨c, rfl⟩
      simp
      refine ⟨by simp [onI2], fun d hd => ?_⟩
      obtain ⟨xs, hxl, hx, rfl⟩ := hd _ _ rfl
      exact ⟨xs, hxl, hx, rfl⟩
    rintro _ ⟨xs, hxl, hx, rfl⟩
    have hl14 : 14 ≤ xs.length := by omega
    obtain ⟨a1, a2⟩ := fmod_lt (nth xs 10) (b := 5) (by omega)
    obtain ⟨b1, b2⟩ := fmod_lt (nth xs 11) (b := 5) (by omega)
    obtain ⟨c1, c2⟩ := fmod_lt (nth xs 12) (b := 10) (by omega)
    obtain ⟨d1, d2⟩ := fmod_lt (nth xs 13) (b := 10) (by omega)
    obtain ⟨e1, e2⟩ := fmod_lt ((nth xs 12).fdiv 10) (b := 10) (by omega)
    refine wB_step (fun ρ => ∃ ts, okRow ts ∧ ρ = [some (.lst (ns.map .int)), some (.int i), o2, o3, some (.lst (xs.map .int)), some (rowT ts), o6, o7, o8, o9, o10]) ?_ ?_
    · rw [wS_asg]
      refine row_made (n := 0) (zs := xs.take ((nth xs 10).fmod 5).toNat) (by rw [List.length_take]; omega) (fun R hR => ?_) (by simp) fun ts ok => ?_
      · simp [ixN hl14, -ix_L, -sl_L, CE.isNop, partD]
        rw [cut_hi (by omega)]
        exact hR
      · simp
        exact ⟨ts, ok, rfl⟩
    rintro _ ⟨ts, ot, rfl⟩
    refine wB_step (fun ρ => ∃ cs, okRow cs ∧ ρ = [some (.lst (ns.map .int)), some (.int i), o2, o3, some (.lst (xs.map .int)), some (rowT ts), some (rowT cs), o7, o8, o9, o10]) ?_ ?_
    · rw [wS_asg]
      refine row_made (n := 0) (zs := (xs.drop 5).take ((nth xs 11).fmod 5).toNat) (by rw [List.length_take]; omega) (fun R hR => ?_) (by simp) fun cs ok => ?_
      · simp [ixN hl14, -ix_L, -sl_L, CE.isNop, partD]
        rw [cut_both (by omega) (by omega) (by omega)]
        have e : ((5 : Int) + (nth xs 11).fmod 5 - 5).toNat = ((nth xs 11).fmod 5).toNat := by omega
        rw [e]
        exact hR
      · simp
        exact ⟨cs, ok, rfl⟩
    rintro _ ⟨cs, oc, rfl⟩
    have dv : DivOk 10 := divOk_big (by omega) (lt_big' (k := 10) (by omega) (by omega))
    refine wB_cut 3 (fun ρ => ρ = [some (.lst (ns.map .int)), some (.int i), o2, o3, some (.lst (xs.map .int)), some (rowT ts), some (rowT cs), some (.int ((nth xs 12).fmod 10)), some (.int ((nth xs 13).fmod 10)), some (.int (((nth xs 12).fdiv 10).fmod 10)), o10]) ?_ ?_
    · simp [ixN hl14, -ix_L, dv]
    rintro _ rfl
    generalize (nth xs 12).fmod 10 = r at *
    generalize (nth xs 13).fmod 10 = w at *
    generalize ((nth xs 12).fdiv 10).fmod 10 = g at *
    have mo : MulOk 2 g := mulOk_lit (by omega) (by omega)
    have s1 := take_ok (f := tn) sz_tn ot ts.length
    have s2 := take_ok (f := cn) sz_cn oc cs.length
    rw [List.take_length] at s1 s2
    have s3 := sz_add (sumR tn ts) (sumR cn cs)
    have s4 : sz ((r + w + 2 * g : Int) : Rat) ≤ 7 := sz_int (by omega) (by omega)
    simp [mo, -Rat.intCast_add, -Rat.intCast_mul]
    refine ⟨ts, cs, rfl, ot, oc, ?_⟩
    simp [szk, -Rat.intCast_add, -Rat.intCast_mul]
    refine ⟨⟨by omega, Nat.le_trans s4 (by omega)⟩, ?_⟩
    refine ⟨ts, cs, r, w, g, rfl, ot, oc, by omega, by omega, by omega, ?_⟩
    refine run_same (dat_fq 3) ?_
    simp
    exact ⟨_, _, _, _, _, _, _, _, _, _, rfl⟩
  rintro _ ⟨o1, o2, o3, o4, o5, o6, o7, o8, o9, o10, rfl⟩
  have all_ : ∀ (Q : D → Prop) (E : Xn → Prop), Q (.lst (sortD (allL.map sgD))) → spAll.run [] Q E := fun Q E q => ⟨rfl, q⟩
  have sig_ : ∀ (Q : D → Prop) (E : Xn → Prop), Q (.lst (sortD (allL.map sgD))) → spSigs.run [] Q E := fun Q E q => ⟨rfl, by rw [← hsame]; exact q⟩
  generalize sortD (allL.map sgD) = L at *
  simp [c_law_k09]
  refine all_ _ _ ?_
  refine sig_ _ _ ?_
  simp
  rw [if_pos (by omega)]
  refine run_same hdat ?_
  simp
  refine sig_ _ _ ?_
  exact run_same hdat h
end Dl

namespace Dl
open PySem PySem.Spec PyProof.Rows L2
/-! ### the written defs -/
def tp (i : Nat) : Stmt := PySem.Challenge.pw_seventeenways_k09_costs_and_signatures.main.body.getD i (.Pass ⟨0, 0, 0, 0⟩)
abbrev FnT (K : PySem.W.Frag) (x : Str) (i : Nat) (dv : List V) (f : Addr) (fd : FuncData) : Prop := FunD K x x (defArgs (tp i)) (defBody (tp i)) (defScope (tp i)) dv [] f fd
abbrev Free (mg : Str → Option Value) : Prop := ∀ x ∈ freeNames, mg x = none
theorem same0 {K : PySem.W.Frag} {mg : Str → Option Value} {n : Nat} {vs : List V} {H : Hp} {Q : VK} {E : XK} (h : spOf K mg (spSame 0) n vs H Q E) : False := by
  obtain ⟨_, S, ds, _, _, ⟨d, _, hd⟩, _⟩ := h
  unfold D.dat at hd
  cases hd
theorem one_reps {K : PySem.W.Frag} (H : Hp) : Reps K H [.int 1] [.int 1] := Reps.one (by unfold Rep; rfl)
theorem law_run {Q : D → Prop} {E : Xn → Prop} (ns : List Int) (_ : ns.length ≤ 63) (_ : ∀ z ∈ ns, Builtin.Int.intBits z ≤ 1048576) (h : Q (.bl true)) : spLaw_k09.run [.lst (ns.map .int)] Q E := ⟨⟨ns, rfl⟩, h⟩
section
variable {P : Program} {w : World} {K : PySem.W.Frag} {mg : Str → Option Value} {base : Heap} {f : Addr} {fd : FuncData} {k : Nat}
theorem sc_common_divisor : FnScope n_common_divisor ["a", "b"] (defScope (tp 1)) := ⟨rfl, rfl, rfl, by decide +kernel, rfl, by decide +kernel, by decide +kernel⟩
theorem ck_common_divisor : (chB n_common_divisor (defScope (tp 1)) true [] c_common_divisor (defBody (tp 1)) [] []).isBad = false := by decide +kernel
theorem ok_common_divisor (F : FnT K "common_divisor" 1 [] f fd) (hf : Free mg) : FnOk P w K mg base (L2.CX P w) (k + 1) f fd ["a", "b"] (spOf K mg spGcd 2) :=
  fnOk_D F sc_common_divisor hf ck_common_divisor (by repeat' first | exact trivial | assumption | apply And.intro) (fun ds Q E _ h => p_common_divisor ds Q E h)
theorem bn_common_divisor (F : FnT K "common_divisor" 1 [] f fd) : Binds K fd ["a", "b"] [] := FunD.bindsN F fun _ _ _ _ _ _ us hl => match us, hl with | [_, _], _ => rfl
theorem sc_fraction : FnScope n_fraction ["n", "d"] (defScope (tp 2)) := ⟨rfl, rfl, rfl, by decide +kernel, rfl, by decide +kernel, by decide +kernel⟩
theorem ck_fraction : (chB n_fraction (defScope (tp 2)) true [] (c_fraction (spGcd)) (defBody (tp 2)) [] []).isBad = false := by decide +kernel
theorem ok_fraction (F : FnT K "fraction" 2 [.int 1] f fd) (hf : Free mg) (h0 : FnC P w K mg base k "common_divisor" 2 (spGcd)) : FnOk P w K mg base (L2.CX P w) (k + 1) f fd ["n", "d"] (spOf K mg spFr 2) :=
  fnOk_D F sc_fraction hf ck_fraction (by repeat' first | exact trivial | assumption | apply And.intro) (fun ds Q E _ h => p_fraction ds Q E h)
theorem sc_plus : FnScope n_plus ["f", "g"] (defScope (tp 3)) := ⟨rfl, rfl, rfl, by decide +kernel, rfl, by decide +kernel, by decide +kernel⟩
theorem ck_plus : (chB n_plus (defScope (tp 3)) true [] (c_plus (spFr)) (defBody (tp 3)) [] []).isBad = false := by decide +kernel
theorem ok_plus (F : FnT K "plus" 3 [] f fd) (hf : Free mg) (h0 : FnC P w K mg base k "fraction" 2 (spFr)) : FnOk P w K mg base (L2.CX P w) (k + 1) f fd ["f", "g"] (spOf K mg spAddQ 2) :=
  fnOk_D F sc_plus hf ck_plus (by repeat' first | exact trivial | assumption | apply And.intro) (fun ds Q E _ h => p_plusQ ds Q E h)
theorem bn_plus (F : FnT K "plus" 3 [] f fd) : Binds K fd ["f", "g"] [] := FunD.bindsN F fun _ _ _ _ _ _ us hl => match us, hl with | [_, _], _ => rfl
theorem sc_cost : FnScope n_cost ["signature"] (defScope (tp 6)) := ⟨rfl, rfl, rfl, by decide +kernel, rfl, by decide +kernel, by decide +kernel⟩
theorem ck_cost : (chB n_cost (defScope (tp 6)) true [] (c_cost (spFr1Q) (spAddQ) (spFr)) (defBody (tp 6)) [] []).isBad = false := by decide +kernel
theorem ok_cost (F : FnT K "cost" 6 [] f fd) (hf : Free mg) (h0 : FnC P w K mg base k "fraction" 1 (spFr1Q)) (h1 : FnC P w K mg base k "plus" 2 (spAddQ)) (h2 : FnC P w K mg base k "fraction" 2 (spFr)) : FnOk P w K mg base (L2.CX P w) (k + 1) f fd ["signature"] (spOf K mg spCost 1) :=
  fnOk_D F sc_cost hf ck_cost (by repeat' first | exact trivial | assumption | apply And.intro) (fun ds Q E _ h => p_cost ds Q E h)
theorem bn_cost (F : FnT K "cost" 6 [] f fd) : Binds K fd ["signature"] [] := FunD.bindsN F fun _ _ _ _ _ _ us hl => match us, hl with | [_], _ => rfl
theorem sc_ascending_rows : FnScope n_ascending_rows ["length", "least", "most"] (defScope (tp 7)) := ⟨rfl, rfl, rfl, by decide +kernel, rfl, by decide +kernel, by decide +kernel⟩
theorem ck_ascending_rows : (chB n_ascending_rows (defScope (tp 7)) true [] c_ascending_rows (defBody (tp 7)) [] []).isBad = false := by decide +kernel
theorem ok_ascending_rows (F : FnT K "ascending_rows" 7 [] f fd) (hf : Free mg) : FnOk P w K mg base (L2.CX P w) (k + 1) f fd ["length", "least", "most"] (spOf K mg spAsc 3) :=
  fnOk_D F sc_ascending_rows hf ck_ascending_rows (by repeat' first | exact trivial | assumption | apply And.intro) (fun ds Q E _ h => p_ascending_rows ds Q E h)
theorem bn_ascending_rows (F : FnT K "ascending_rows" 7 [] f fd) : Binds K fd ["length", "least", "most"] [] := FunD.bindsN F fun _ _ _ _ _ _ us hl => match us, hl with | [_, _, _], _ => rfl
theorem sc_all_signatures : FnScope n_all_signatures [] (defScope (tp 8)) := ⟨rfl, rfl, rfl, by decide +kernel, rfl, by decide +kernel, by decide +kernel⟩
theorem ck_all_signatures : (chB n_all_signatures (defScope (tp 8)) true [] (c_all_signatures (spAsc)) (defBody (tp 8)) [] []).isBad = false := by decide +kernel
theorem ok_all_signatures (F : FnT K "all_signatures" 8 [] f fd) (hf : Free mg) (h0 : FnC P w K mg base k "ascending_rows" 3 (spAsc)) (G_UNIT : GlC K mg "UNIT" (.int 120)) : FnOk P w K mg base (L2.CX P w) (k + 1) f fd [] (spOf K mg spSigs 0) :=
  fnOk_D F sc_all_signatures hf ck_all_signatures (by repeat' first | exact trivial | assumption | apply And.intro) (fun ds Q E _ h => p_all_signatures ds Q E h)
theorem bn_all_signatures (F : FnT K "all_signatures" 8 [] f fd) : Binds K fd [] [] := FunD.bindsN F fun _ _ _ _ _ _ us hl => match us, hl with | [], _ => rfl
theorem sc__law_cell : FnScope n__law_cell ["script", "k"] (defScope (tp 10)) := ⟨rfl, rfl, rfl, by decide +kernel, rfl, by decide +kernel, by decide +kernel⟩
theorem ck__law_cell : (chB n__law_cell (defScope (tp 10)) true [] c__law_cell (defBody (tp 10)) [] []).isBad = false := by decide +kernel
theorem ok__law_cell (F : FnT K "_law_cell" 10 [] f fd) (hf : Free mg) : FnOk P w K mg base (L2.CX P w) (k + 1) f fd ["script", "k"] (spOf K mg spCell 2) :=
  fnOk_D F sc__law_cell hf ck__law_cell (by repeat' first | exact trivial | assumption | apply And.intro) (fun ds Q E _ h => p__law_cell ds Q E h)
theorem bn__law_cell (F : FnT K "_law_cell" 10 [] f fd) : Binds K fd ["script", "k"] [] := FunD.bindsN F fun _ _ _ _ _ _ us hl => match us, hl with | [_, _], _ => rfl
theorem sc__law_numbers : FnScope n__law_numbers ["cell", "count"] (defScope (tp 11)) := ⟨rfl, rfl, rfl, by decide +kernel, rfl, by decide +kernel, by decide +kernel⟩
theorem ck__law_numbers : (chB n__law_numbers (defScope (tp 11)) true [] c__law_numbers (defBody (tp 11)) [] []).isBad = false := by decide +kernel
theorem ok__law_numbers (F : FnT K "_law_numbers" 11 [] f fd) (hf : Free mg) : FnOk P w K mg base (L2.CX P w) (k + 1) f fd ["cell", "count"] (spOf K mg spNums 2) :=
  fnOk_D F sc__law_numbers hf ck__law_numbers (by repeat' first | exact trivial | assumption | apply And.intro) (fun ds Q E _ h => p__law_numbers ds Q E h)
theorem bn__law_numbers (F : FnT K "_law_numbers" 11 [] f fd) : Binds K fd ["cell", "count"] [] := FunD.bindsN F fun _ _ _ _ _ _ us hl => match us, hl with | [_, _], _ => rfl
theorem sc__law_same : FnScope n__law_same ["actual", "due"] (defScope (tp 12)) := ⟨rfl, rfl, rfl, by decide +kernel, rfl, by decide +kernel, by decide +kernel⟩
theorem ck__law_same (s : Spec) : (chB n__law_same (defScope (tp 12)) true [] (c__law_same s) (defBody (tp 12)) [] []).isBad = false := by rfl
theorem ok__law_same (n : Nat) (F : FnT K "_law_same" 12 [] f fd) (hf : Free mg) (h0 : FnC P w K mg base k "_law_same" 2 (spSame n)) : FnOk P w K mg base (L2.CX P w) (k + 1) f fd ["actual", "due"] (spOf K mg (spSame (n + 1)) 2) :=
  fnOk_D F sc__law_same hf (ck__law_same _) (by repeat' first | exact trivial | assumption | apply And.intro) (fun ds Q E _ h => p__law_same n ds Q E h)
theorem bn__law_same (F : FnT K "_law_same" 12 [] f fd) : Binds K fd ["actual", "due"] [] := FunD.bindsN F fun _ _ _ _ _ _ us hl => match us, hl with | [_, _], _ => rfl
theorem sc__law_gcd : FnScope n__law_gcd ["a", "b"] (defScope (tp 13)) := ⟨rfl, rfl, rfl, by decide +kernel, rfl, by decide +kernel, by decide +kernel⟩
theorem ck__law_gcd : (chB n__law_gcd (defScope (tp 13)) true [] c__law_gcd (defBody (tp 13)) [] []).isBad = false := by decide +kernel
theorem ok__law_gcd (F : FnT K "_law_gcd" 13 [] f fd) (hf : Free mg) : FnOk P w K mg base (L2.CX P w) (k + 1) f fd ["a", "b"] (spOf K mg spLGcd 2) :=
  fnOk_D F sc__law_gcd hf ck__law_gcd (by repeat' first | exact trivial | assumption | apply And.intro) (fun ds Q E _ h => p__law_gcd ds Q E h)
theorem bn__law_gcd (F : FnT K "_law_gcd" 13 [] f fd) : Binds K fd ["a", "b"] [] := FunD.bindsN F fun _ _ _ _ _ _ us hl => match us, hl with | [_, _], _ => rfl
theorem sc__law_frac : FnScope n__law_frac ["n", "d"] (defScope (tp 14)) := ⟨rfl, rfl, rfl, by decide +kernel, rfl, by decide +kernel, by decide +kernel⟩
theorem ck__law_frac : (chB n__law_frac (defScope (tp 14)) true [] (c__law_frac (spLGcd)) (defBody (tp 14)) [] []).isBad = false := by decide +kernel
theorem ok__law_frac (F : FnT K "_law_frac" 14 [] f fd) (hf : Free mg) (h0 : FnC P w K mg base k "_law_gcd" 2 (spLGcd)) : FnOk P w K mg base (L2.CX P w) (k + 1) f fd ["n", "d"] (spOf K mg spFr 2) :=
  fnOk_D F sc__law_frac hf ck__law_frac (by repeat' first | exact trivial | assumption | apply And.intro) (fun ds Q E _ h => p__law_frac ds Q E h)
theorem bn__law_frac (F : FnT K "_law_frac" 14 [] f fd) : Binds K fd ["n", "d"] [] := FunD.bindsN F fun _ _ _ _ _ _ us hl => match us, hl with | [_, _], _ => rfl
theorem sc__law_add : FnScope n__law_add ["f", "g"] (defScope (tp 15)) := ⟨rfl, rfl, rfl, by decide +kernel, rfl, by decide +kernel, by decide +kernel⟩
theorem ck__law_add : (chB n__law_add (defScope (tp 15)) true [] (c__law_add (spFr)) (defBody (tp 15)) [] []).isBad = false := by decide +kernel
theorem ok__law_add (F : FnT K "_law_add" 15 [] f fd) (hf : Free mg) (h0 : FnC P w K mg base k "_law_frac" 2 (spFr)) : FnOk P w K mg base (L2.CX P w) (k + 1) f fd ["f", "g"] (spOf K mg spAddQ 2) :=
  fnOk_D F sc__law_add hf ck__law_add (by repeat' first | exact trivial | assumption | apply And.intro) (fun ds Q E _ h => p__law_addQ ds Q E h)
theorem bn__law_add (F : FnT K "_law_add" 15 [] f fd) : Binds K fd ["f", "g"] [] := FunD.bindsN F fun _ _ _ _ _ _ us hl => match us, hl with | [_, _], _ => rfl
theorem sc__law_price : FnScope n__law_price ["turning", "corners"] (defScope (tp 16)) := ⟨rfl, rfl, rfl, by decide +kernel, rfl, by decide +kernel, by decide +kernel⟩
theorem ck__law_price : (chB n__law_price (defScope (tp 16)) true [] (c__law_price (spAddQ) (spFr)) (defBody (tp 16)) [] []).isBad = false := by decide +kernel
theorem ok__law_price (F : FnT K "_law_price" 16 [] f fd) (hf : Free mg) (h0 : FnC P w K mg base k "_law_add" 2 (spAddQ)) (h1 : FnC P w K mg base k "_law_frac" 2 (spFr)) : FnOk P w K mg base (L2.CX P w) (k + 1) f fd ["turning", "corners"] (spOf K mg spPrice 2) :=
  fnOk_D F sc__law_price hf ck__law_price (by repeat' first | exact trivial | assumption | apply And.intro) (fun ds Q E _ h => p__law_price ds Q E h)
theorem bn__law_price (F : FnT K "_law_price" 16 [] f fd) : Binds K fd ["turning", "corners"] [] := FunD.bindsN F fun _ _ _ _ _ _ us hl => match us, hl with | [_, _], _ => rfl
theorem sc__law_rows : FnScope n__law_rows [] (defScope (tp 17)) := ⟨rfl, rfl, rfl, by decide +kernel, rfl, by decide +kernel, by decide +kernel⟩
theorem ck__law_rows : (chB n__law_rows (defScope (tp 17)) true [] c__law_rows (defBody (tp 17)) [] []).isBad = false := by decide +kernel
theorem ok__law_rows (F : FnT K "_law_rows" 17 [] f fd) (hf : Free mg) : FnOk P w K mg base (L2.CX P w) (k + 1) f fd [] (spOf K mg spRows 0) :=
  fnOk_D F sc__law_rows hf ck__law_rows (by repeat' first | exact trivial | assumption | apply And.intro) (fun ds Q E _ h => p__law_rows ds Q E h)
theorem bn__law_rows (F : FnT K "_law_rows" 17 [] f fd) : Binds K fd [] [] := FunD.bindsN F fun _ _ _ _ _ _ us hl => match us, hl with | [], _ => rfl
theorem sc__law_all : FnScope n__law_all [] (defScope (tp 18)) := ⟨rfl, rfl, rfl, by decide +kernel, rfl, by decide +kernel, by decide +kernel⟩
theorem ck__law_all : (chB n__law_all (defScope (tp 18)) true [] (c__law_all (spRows)) (defBody (tp 18)) [] []).isBad = false := by decide +kernel
theorem ok__law_all (F : FnT K "_law_all" 18 [] f fd) (hf : Free mg) (h0 : FnC P w K mg base k "_law_rows" 0 (spRows)) : FnOk P w K mg base (L2.CX P w) (k + 1) f fd [] (spOf K mg spAll 0) :=
  fnOk_D F sc__law_all hf ck__law_all (by repeat' first | exact trivial | assumption | apply And.intro) (fun ds Q E _ h => p__law_all ds Q E h)
theorem bn__law_all (F : FnT K "_law_all" 18 [] f fd) : Binds K fd [] [] := FunD.bindsN F fun _ _ _ _ _ _ us hl => match us, hl with | [], _ => rfl
theorem sc_law : FnScope n_law_k09 ["script"] (defScope (tp 19)) := ⟨rfl, rfl, rfl, by decide +kernel, rfl, by decide +kernel, by decide +kernel⟩
theorem ck_law : (chB n_law_k09 (defScope (tp 19)) true [] (c_law_k09 (spNums) (spCell) (spAddQ) (spPrice) (spSame 5) (spCost) (spAll) (spSigs)) (defBody (tp 19)) [] []).isBad = false := by decide +kernel
theorem ok_law (F : FnT K "law" 19 [] f fd) (hf : Free mg) (h0 : FnC P w K mg base k "_law_numbers" 2 (spNums)) (h1 : FnC P w K mg base k "_law_cell" 2 (spCell)) (h2 : FnC P w K mg base k "_law_add" 2 (spAddQ)) (h3 : FnC P w K mg base k "_law_price" 2 (spPrice)) (h4 : FnC P w K mg base k "_law_same" 2 (spSame 5)) (h5 : FnC P w K mg base k "cost" 1 (spCost)) (h6 : FnC P w K mg base k "_law_all" 0 (spAll)) (h7 : FnC P w K mg base k "all_signatures" 0 (spSigs)) : FnOk P w K mg base (L2.CX P w) (k + 1) f fd ["script"] (spOf K mg spLaw_k09 1) :=
  fnOk_D F sc_law hf ck_law (by repeat' first | exact trivial | assumption | apply And.intro) (fun ds Q E _ h => p_law_k09 ds Q E h)
theorem bn_law (F : FnT K "law" 19 [] f fd) : Binds K fd ["script"] [] := FunD.bindsN F fun _ _ _ _ _ _ us hl => match us, hl with | [_], _ => rfl
end
/-! ### the head -/
def d_common_divisor : He.DefD := ⟨("common_divisor", none), "common_divisor", "common_divisor", defArgs (tp 1), defBody (tp 1), defScope (tp 1), [], []⟩
def d_fraction : He.DefD := ⟨("fraction", none), "fraction", "fraction", defArgs (tp 2), defBody (tp 2), defScope (tp 2), [.int 1], []⟩
def d_plus : He.DefD := ⟨("plus", none), "plus", "plus", defArgs (tp 3), defBody (tp 3), defScope (tp 3), [], []⟩
def d_cost : He.DefD := ⟨("cost", none), "cost", "cost", defArgs (tp 6), defBody (tp 6), defScope (tp 6), [], []⟩
def d_ascending_rows : He.DefD := ⟨("ascending_rows", none), "ascending_rows", "ascending_rows", defArgs (tp 7), defBody (tp 7), defScope (tp 7), [], []⟩
def d_all_signatures : He.DefD := ⟨("all_signatures", none), "all_signatures", "all_signatures", defArgs (tp 8), defBody (tp 8), defScope (tp 8), [], []⟩
def d__law_cell : He.DefD := ⟨("_law_cell", none), "_law_cell", "_law_cell", defArgs (tp 10), defBody (tp 10), defScope (tp 10), [], []⟩
def d__law_numbers : He.DefD := ⟨("_law_numbers", none), "_law_numbers", "_law_numbers", defArgs (tp 11), defBody (tp 11), defScope (tp 11), [], []⟩
def d__law_same : He.DefD := ⟨("_law_same", none), "_law_same", "_law_same", defArgs (tp 12), defBody (tp 12), defScope (tp 12), [], []⟩
def d__law_gcd : He.DefD := ⟨("_law_gcd", none), "_law_gcd", "_law_gcd", defArgs (tp 13), defBody (tp 13), defScope (tp 13), [], []⟩
def d__law_frac : He.DefD := ⟨("_law_frac", none), "_law_frac", "_law_frac", defArgs (tp 14), defBody (tp 14), defScope (tp 14), [], []⟩
def d__law_add : He.DefD := ⟨("_law_add", none), "_law_add", "_law_add", defArgs (tp 15), defBody (tp 15), defScope (tp 15), [], []⟩
def d__law_price : He.DefD := ⟨("_law_price", none), "_law_price", "_law_price", defArgs (tp 16), defBody (tp 16), defScope (tp 16), [], []⟩
def d__law_rows : He.DefD := ⟨("_law_rows", none), "_law_rows", "_law_rows", defArgs (tp 17), defBody (tp 17), defScope (tp 17), [], []⟩
def d__law_all : He.DefD := ⟨("_law_all", none), "_law_all", "_law_all", defArgs (tp 18), defBody (tp 18), defScope (tp 18), [], []⟩
def d_law : He.DefD := ⟨("law", none), "law", "law", defArgs (tp 19), defBody (tp 19), defScope (tp 19), [], []⟩
def hfn : List He.DefD := ([d_common_divisor, d_fraction, d_plus, d_cost, d_ascending_rows, d_all_signatures, d__law_cell, d__law_numbers, d__law_same, d__law_gcd, d__law_frac, d__law_add, d__law_price, d__law_rows, d__law_all, d_law] : List He.DefD)
def gls : List Str := (["common_divisor", "fraction", "plus", "cost", "ascending_rows", "all_signatures", "_law_cell", "_law_numbers", "_law_same", "_law_gcd", "_law_frac", "_law_add", "_law_price", "_law_rows", "_law_all", "law"] : List Str)
def asks : List Ask := ([.con "UNIT" (.int 120)] : List Ask)
def hfa : List Ask := gls.map Ask.glo ++ (freeNames.map Ask.free ++ asks)
abbrev Rw : PySem.W.OpenRow := PySem.W.OpenLaw.row PySem.Challenge.rw_seventeenways_k09_costs_and_signatures
abbrev hkk : PySem.W.Hook := hookX 5 hfa hfn
def hob (s : PySem.W.SharedT) : AlX := obsXG 5 hfa hfn (HandSHeadRun.getT s)
theorem hob_eq (s : PySem.W.SharedT) : hob s = hkk.obs s.abs := obsXG_eq (HandSHeadRun.getT_eq s)
def lse : List Str := (["common_divisor", "fraction", "plus", "cost", "ascending_rows", "all_signatures", "_law_cell", "_law_numbers", "_law_same", "_law_gcd", "_law_frac", "_law_add", "_law_price", "_law_rows", "_law_all", "UNIT"] : List Str)
theorem hrun (w : World) : HandSHeadRun.RunEq Rw (PySem.W.view Rw.prog [19]) hkk hob 4000 lse w := by
  intro os
  kernel_rfl
section
variable {K : PySem.W.Frag} {h : Heap} {mg : Str → Option Value}
theorem glo_of (X : K.In h) (G : h.Ns mainGlobals mg) (c : SaysX hfa hfn K) {x : Str} (hx : x ∈ gls) : mg x = some (.ref (He.ga K x)) := by
  exact He.glo_ok X G (c.ask (q := .glo x) (List.mem_append_left _ (List.mem_map.mpr ⟨x, hx, rfl⟩)))
theorem free_of (X : K.In h) (G : h.Ns mainGlobals mg) (c : SaysX hfa hfn K) : Free mg := fun x hx => by
  exact He.free_ok X G (c.ask (q := .free x) (List.mem_append_right _ (List.mem_append_left _ (List.mem_map.mpr ⟨x, hx, rfl⟩))))
theorem ask_of (c : SaysX hfa hfn K) (i : Nat) {q : Ask} (h : asks[i]? = some q) : q.ok K = true := c.ask (List.mem_append_right _ (List.mem_append_right _ (List.mem_of_getElem? h)))
end
theorem all_ok {P : Program} {w : World} {K : PySem.W.Frag} {h : Heap} {mg : Str → Option Value} (X : K.In h) (G : h.Ns mainGlobals mg) (c : SaysX hfa hfn K) :
    ∃ fd : FuncData, (∀ (s : Shared) (v : Value), BindsTo s fd ⟨[v], []⟩ [("script", v)]) ∧ ∀ base : Heap, FnOk P w K mg base (L2.CX P w) 7 (He.ga K "law") fd ["script"] (spOf K mg spLaw_k09 1) := by
  have hf := free_of X G c
  have G_UNIT := gloC_ok X G (ask_of c 0 (q := .con "UNIT" (.int 120)) rfl)
  obtain ⟨fd0, F0⟩ := c.def_ 0 (d := d_common_divisor) rfl
  have g0 := glo_of X G c (x := "common_divisor") (by decide +kernel)
  obtain ⟨fd1, F1⟩ := c.def_ 1 (d := d_fraction) rfl
  have g1 := glo_of X G c (x := "fraction") (by decide +kernel)
  obtain ⟨fd2, F2⟩ := c.def_ 2 (d := d_plus) rfl
  have g2 := glo_of X G c (x := "plus") (by decide +kernel)
  obtain ⟨fd3, F3⟩ := c.def_ 3 (d := d_cost) rfl
  have g3 := glo_of X G c (x := "cost") (by decide +kernel)
  obtain ⟨fd4, F4⟩ := c.def_ 4 (d := d_ascending_rows) rfl
  have g4 := glo_of X G c (x := "ascending_rows") (by decide +kernel)
  obtain ⟨fd5, F5⟩ := c.def_ 5 (d := d_all_signatures) rfl
  have g5 := glo_of X G c (x := "all_signatures") (by decide +kernel)
  obtain ⟨fd6, F6⟩ := c.def_ 6 (d := d__law_cell) rfl
  have g6 := glo_of X G c (x := "_law_cell") (by decide +kernel)
  obtain ⟨fd7, F7⟩ := c.def_ 7 (d := d__law_numbers) rfl
  have g7 := glo_of X G c (x := "_law_numbers") (by decide +kernel)
  obtain ⟨fd8, F8⟩ := c.def_ 8 (d := d__law_same) rfl
  have g8 := glo_of X G c (x := "_law_same") (by decide +kernel)
  obtain ⟨fd9, F9⟩ := c.def_ 9 (d := d__law_gcd) rfl
  have g9 := glo_of X G c (x := "_law_gcd") (by decide +kernel)
  obtain ⟨fd10, F10⟩ := c.def_ 10 (d := d__law_frac) rfl
  have g10 := glo_of X G c (x := "_law_frac") (by decide +kernel)
  obtain ⟨fd11, F11⟩ := c.def_ 11 (d := d__law_add) rfl
  have g11 := glo_of X G c (x := "_law_add") (by decide +kernel)
  obtain ⟨fd12, F12⟩ := c.def_ 12 (d := d__law_price) rfl
  have g12 := glo_of X G c (x := "_law_price") (by decide +kernel)
  obtain ⟨fd13, F13⟩ := c.def_ 13 (d := d__law_rows) rfl
  have g13 := glo_of X G c (x := "_law_rows") (by decide +kernel)
  obtain ⟨fd14, F14⟩ := c.def_ 14 (d := d__law_all) rfl
  have g14 := glo_of X G c (x := "_law_all") (by decide +kernel)
  obtain ⟨fd15, F15⟩ := c.def_ 15 (d := d_law) rfl
  have g15 := glo_of X G c (x := "law") (by decide +kernel)
  refine ⟨fd15, fun s v => FunD.bindsA (ps := ["script"]) F15 (fun _ _ _ _ _ _ us hl => match us, hl with | [_], _ => rfl) s [v] rfl, fun base => ?_⟩
  have O0 : FnOk P w K mg base (L2.CX P w) 1 (He.ga K "common_divisor") fd0 ["a", "b"] (spOf K mg spGcd 2) := ok_common_divisor F0 hf
  have C_common_divisor_2 : FnC P w K mg base 1 "common_divisor" 2 spGcd := FnC.full O0 g0 F0.kp (bn_common_divisor F0)
  have O1 : FnOk P w K mg base (L2.CX P w) 2 (He.ga K "fraction") fd1 ["n", "d"] (spOf K mg spFr 2) := ok_fraction F1 hf (C_common_divisor_2.mono (by decide))
  have C_fraction_1 : FnC P w K mg base 2 "fraction" 1 spFr1Q := by
    obtain ⟨ds, hv, hb⟩ := FunD.binds1 F1 (ps := ["n", "d"]) 1 0 (by intro z; cases z) rfl (fun T kV doc pm an cdv ct us its h1 h2 => match us, its, h1, h2 with | [_], [_], _, _ => ⟨_, rfl, rfl⟩)
    exact FnC.dfl (dds := [.int 1]) O1 g1 F1.kp hb hv one_reps rfl fr1Q_of
  have C_fraction_2 : FnC P w K mg base 2 "fraction" 2 spFr := by
    obtain ⟨ds, hv, hb⟩ := FunD.binds1 F1 (ps := ["n", "d"]) 2 1 (by intro z; cases z) rfl (fun T kV doc pm an cdv ct us its h1 h2 => match us, its, h1, h2 with | [_, _], [_], _, _ => ⟨_, rfl, rfl⟩)
    exact FnC.dfl (dds := []) O1 g1 F1.kp hb hv (fun H => by unfold Reps; rfl) rfl (fun xs Q E _ h => by rw [List.append_nil]; exact h)
  have O2 : FnOk P w K mg base (L2.CX P w) 3 (He.ga K "plus") fd2 ["f", "g"] (spOf K mg spAddQ 2) := ok_plus F2 hf (C_fraction_2.mono (by decide))
  have C_plus_2 : FnC P w K mg base 3 "plus" 2 spAddQ := FnC.full O2 g2 F2.kp (bn_plus F2)
  have O3 : FnOk P w K mg base (L2.CX P w) 4 (He.ga K "cost") fd3 ["signature"] (spOf K mg spCost 1) := ok_cost F3 hf (C_fraction_1.mono (by decide)) (C_plus_2.mono (by decide)) (C_fraction_2.mono (by decide))
  have C_cost_1 : FnC P w K mg base 4 "cost" 1 spCost := FnC.full O3 g3 F3.kp (bn_cost F3)
  have O4 : FnOk P w K mg base (L2.CX P w) 1 (He.ga K "ascending_rows") fd4 ["length", "least", "most"] (spOf K mg spAsc 3) := ok_ascending_rows F4 hf
  have C_ascending_rows_3 : FnC P w K mg base 1 "ascending_rows" 3 spAsc := FnC.full O4 g4 F4.kp (bn_ascending_rows F4)
  have O5 : FnOk P w K mg base (L2.CX P w) 2 (He.ga K "all_signatures") fd5 [] (spOf K mg spSigs 0) := ok_all_signatures F5 hf (C_ascending_rows_3.mono (by decide)) G_UNIT
  have C_all_signatures_0 : FnC P w K mg base 2 "all_signatures" 0 spSigs := FnC.full O5 g5 F5.kp (bn_all_signatures F5)
  have O6 : FnOk P w K mg base (L2.CX P w) 1 (He.ga K "_law_cell") fd6 ["script", "k"] (spOf K mg spCell 2) := ok__law_cell F6 hf
  have C__law_cell_2 : FnC P w K mg base 1 "_law_cell" 2 spCell := FnC.full O6 g6 F6.kp (bn__law_cell F6)
  have O7 : FnOk P w K mg base (L2.CX P w) 1 (He.ga K "_law_numbers") fd7 ["cell", "count"] (spOf K mg spNums 2) := ok__law_numbers F7 hf
  have C__law_numbers_2 : FnC P w K mg base 1 "_law_numbers" 2 spNums := FnC.full O7 g7 F7.kp (bn__law_numbers F7)
  have C__law_same_2 : FnC P w K mg base 6 "_law_same" 2 (spSame 5) := by
    have R : ∀ n, FnC P w K mg base (1 + n) "_law_same" 2 (spSame n) := fun n => by
      induction n with
      | zero => exact FnC.full (FnOk.never (fun vs H Q E hh => same0 hh)) g8 F8.kp (bn__law_same F8)
      | succ n ih => exact FnC.full (ok__law_same n F8 hf ih) g8 F8.kp (bn__law_same F8)
    exact (R 5).mono (by decide)
  have O9 : FnOk P w K mg base (L2.CX P w) 1 (He.ga K "_law_gcd") fd9 ["a", "b"] (spOf K mg spLGcd 2) := ok__law_gcd F9 hf
  have C__law_gcd_2 : FnC P w K mg base 1 "_law_gcd" 2 spLGcd := FnC.full O9 g9 F9.kp (bn__law_gcd F9)
  have O10 : FnOk P w K mg base (L2.CX P w) 2 (He.ga K "_law_frac") fd10 ["n", "d"] (spOf K mg spFr 2) := ok__law_frac F10 hf (C__law_gcd_2.mono (by decide))
  have C__law_frac_2 : FnC P w K mg base 2 "_law_frac" 2 spFr := FnC.full O10 g10 F10.kp (bn__law_frac F10)
  have O11 : FnOk P w K mg base (L2.CX P w) 3 (He.ga K "_law_add") fd11 ["f", "g"] (spOf K mg spAddQ 2) := ok__law_add F11 hf (C__law_frac_2.mono (by decide))
  have C__law_add_2 : FnC P w K mg base 3 "_law_add" 2 spAddQ := FnC.full O11 g11 F11.kp (bn__law_add F11)
  have O12 : FnOk P w K mg base (L2.CX P w) 4 (He.ga K "_law_price") fd12 ["turning", "corners"] (spOf K mg spPrice 2) := ok__law_price F12 hf (C__law_add_2.mono (by decide)) (C__law_frac_2.mono (by decide))
  have C__law_price_2 : FnC P w K mg base 4 "_law_price" 2 spPrice := FnC.full O12 g12 F12.kp (bn__law_price F12)
  have O13 : FnOk P w K mg base (L2.CX P w) 1 (He.ga K "_law_rows") fd13 [] (spOf K mg spRows 0) := ok__law_rows F13 hf
  have C__law_rows_0 : FnC P w K mg base 1 "_law_rows" 0 spRows := FnC.full O13 g13 F13.kp (bn__law_rows F13)
  have O14 : FnOk P w K mg base (L2.CX P w) 2 (He.ga K "_law_all") fd14 [] (spOf K mg spAll 0) := ok__law_all F14 hf (C__law_rows_0.mono (by decide))
  have C__law_all_0 : FnC P w K mg base 2 "_law_all" 0 spAll := FnC.full O14 g14 F14.kp (bn__law_all F14)
  exact ok_law F15 hf (C__law_numbers_2.mono (by decide)) (C__law_cell_2.mono (by decide)) (C__law_add_2.mono (by decide)) (C__law_price_2.mono (by decide)) (C__law_same_2.mono (by decide)) (C_cost_1.mono (by decide)) (C__law_all_0.mono (by decide)) (C_all_signatures_0.mono (by decide))
theorem law_at {K : PySem.W.Frag} {mg : Str → Option Value} {H : Hp} {a : Addr} (ns : List Int) (hl : ns.length ≤ 63) (hb : ∀ z ∈ ns, Builtin.Int.intBits z ≤ 1048576) (h : SqL K H a (ns.map V.int)) :
    spOf K mg spLaw_k09 1 [.ref a] H (fun v _ => v = .bl true) fun _ _ _ => False := by
  have e : hide H [] = H := by funext b; simp [hide]
  refine ⟨rfl, [], [.lst (ns.map .int)], SOk.nil, ?_, law_run ns hl hb fun v H' p => rep_bl p.rep⟩
  rw [e]
  refine Reps.one ?_
  unfold Rep
  exact ⟨a, _, rfl, h, Reps.ints ns⟩
end Dl
open PySem PySem.W PySem.Calls PyProof.Rows
theorem PySem.Challenge.cw_seventeenways_k09_costs_and_signatures_holds : PySem.Challenge.rw_seventeenways_k09_costs_and_signatures.Holds := by
  w_on; o_law
  refine HandSHeadRun.head_any (H := Dl.hkk) (ob := Dl.hob) (loose := Dl.lse) (kwd := []) (q := view Dl.Rw.prog [19]) (M := 4000) (r := Dl.Rw) (d := HandSHeadRun.topDef Dl.Rw.prog 19) Dl.hob_eq
    (by kernel_rfl) (fun s => by kernel_rfl) Dl.hrun (by kernel_rfl) (by kernel_rfl) (by kernel_rfl) (by rfl) (by first | assumption | decide +kernel) (by decide +kernel) ⟨rfl, rfl, rfl, rfl, rfl, by decide +kernel⟩ ?hw ?hc
  case hw => w_witness2
  case hc =>
    refine LamX.walk_ofTsE (l := PySem.Challenge.rw_seventeenways_k09_costs_and_signatures) (CX := fun w => L2.CX (PySem.Challenge.pw_seventeenways_k09_costs_and_signatures) w) (n := 63) (k := 7) (x := "script") rfl (by decide) (by kernel_rfl) ⟨rfl, by decide, by decide⟩ ?F (fun w H s e s' z => by obtain ⟨_, _, _, _, _, _, _, _, _, _, _, _, z⟩ := z; exact z)
    intro w mg fa h Y G hmg0
    obtain ⟨K, KX, c⟩ := Y
    have hmg : mg ("law" : PySem.Str) = some (.ref fa) := by
      have e : (HandSHeadRun.topDef Dl.Rw.prog 19).name = ("law" : PySem.Str) := by kernel_rfl
      rw [← e]
      exact hmg0
    have e := hmg.symm.trans (Dl.glo_of KX G c (by decide +kernel))
    cases e
    refine ⟨K, KX, ?_⟩
    obtain ⟨fd, hb, hF⟩ := Dl.all_ok (P := PySem.Challenge.pw_seventeenways_k09_costs_and_signatures) (w := w) KX G c
    exact ⟨fd, [], _, by simp, by simp, by simp, hb, fun H a ns hl hbits _ hS => Dl.law_at ns hl hbits hS, fun base hK hN _ => hF base⟩
