import PyProof.Rows.All
import Wide.All
import OpenK.AllK
import Wide.FinOn
import HandS.ForMost
import HandS.Wide
import HandS.TupAny
import HandS.TupSets
import HandS.IsInst
import HandS.ForExc
import HandS.Codes
import HandS.EndBits
import HandS.ExcCtx
import HandS.ExcInit
import HandS.WordsExc
import HandS.Conv
import HandS.Style
import HandS.TupMul
import KE.SortData
import KE.DataMinMax
import KE.DatumOrd
import KE.KeyNested
import HandS.Deep
import HandS.HotCalls
import PySem.Challenge.RW_covernets_k38_configurations
set_option Elab.async false
set_option linter.all false
set_option maxRecDepth 100000
set_option maxHeartbeats 4000000
/-! Cov1: the data, the small language, its runs (heap-free). -/
namespace Cov
open PySem

/-- how a list, an instance is held: frozen (shared, never changed any more), owned (by one slot alone), locked (owned, walked just now) -/
inductive Ow where
  | fz | ow | lk
  deriving DecidableEq, Repr

inductive D where
  | non | bl (b : Bool) | int (i : Int) | str (s : Str) | ty (n : String)
  | tup (ds : List D)
  /-- a list; its items are frozen -/
  | lst (o : Ow) (ds : List D)
  /-- an owned list whose items may be owned by it -/
  | own (ds : List D)
  | ins (o : Ow) (c : Str) (fn : List Str) (fv : List D)
  | dic (o : Ow) (ks : List D) (vs : List D)
  deriving Inhabited

/-- nothing of it is owned (non recursive: frozen things hold frozen things) -/
def isFz : D → Bool
  | .lst o _ => decide (o = .fz)
  | .own _ => false
  | .ins o _ _ _ => decide (o = .fz)
  | .dic o _ _ => decide (o = .fz)
  | _ => true

mutual
def frz : D → D
  | .lst _ ds => .lst .fz ds
  | .own ds => .lst .fz (frzL ds)
  | .ins _ c fn fv => .ins .fz c fn (frzL fv)
  | .dic _ ks vs => .dic .fz ks vs
  | d => d
def frzL : List D → List D
  | [] => []
  | d :: ds => frz d :: frzL ds
end

mutual
/-- no frozen list or instance within: it shares nothing with what stood before -/
def flat : D → Bool
  | .tup ds => flatL ds
  | .lst o ds => (match o with | .fz => false | _ => true) && flatL ds
  | .own ds => flatL ds
  | .ins o _ _ fv => (match o with | .fz => false | _ => true) && flatL fv
  | .dic o ks vs => (match o with | .fz => false | _ => true) && flatL ks && flatL vs
  | _ => true
def flatL : List D → Bool
  | [] => true
  | d :: ds => flat d && flatL ds
end

inductive Sel where
  | fld (f : Str) | idx (i : Nat)
  deriving DecidableEq

def lkp (f : Str) : List Str → List D → Option D
  | g :: gs, d :: ds => if g = f then some d else lkp f gs ds
  | _, _ => none
def putFv (f : Str) (d : D) : List Str → List D → List D
  | g :: gs, e :: ds => if g = f then d :: ds else e :: putFv f d gs ds
  | _, ds => ds
def getS : D → Sel → Option D
  | .ins _ _ fn fv, .fld f => lkp f fn fv
  | .own ds, .idx i => ds[i]?
  | _, _ => none
def setS : D → Sel → D → Option D
  | .ins .ow c fn fv, .fld f, d => if (lkp f fn fv).isSome then some (.ins .ow c fn (putFv f d fn fv)) else none
  | .own ds, .idx i, d => if i < ds.length then some (.own (ds.set i d)) else none
  | _, _, _ => none
def getP : D → List Sel → Option D
  | d, [] => some d
  | d, s :: p => (getS d s).bind fun e => getP e p
def setP : D → List Sel → D → Option D
  | _, [], e => some e
  | d, s :: p, e => (getS d s).bind fun d1 => (setP d1 p e).bind fun d2 => setS d s d2

abbrev Env := List (Option D)
def gt (ρ : Env) (i : Nat) : Option D := match ρ[i]? with | some (some d) => some d | _ => none
def gtP (ρ : Env) (i : Nat) (p : List Sel) : Option D := (gt ρ i).bind fun d => getP d p
def stP (ρ : Env) (i : Nat) (p : List Sel) (e : D) : Option Env := (gt ρ i).bind fun d => (setP d p e).map fun d2 => ρ.set i (some d2)

/-- what an expression gives: a value (frozen, or new and owned by nobody yet), or the thing that stands at a place -/
inductive Res where
  | val (d : D) | at (i : Nat) (p : List Sel)
  deriving Inhabited

inductive Out (α : Type) where
  | ok (a : α) (ρ : Env)
  | ex (c : Str) (d : Option D) (ρ : Env)
abbrev M (α : Type) := Option (Out α)
def bnd {α β : Type} (m : M α) (f : α → Env → M β) : M β := match m with
  | none => none
  | some (.ok a ρ) => f a ρ
  | some (.ex c d ρ) => some (.ex c d ρ)
/-- a pure step that may fail -/
def opt {α β : Type} (m : Option α) (f : α → M β) : M β := match m with
  | none => none
  | some a => f a
@[simp] theorem bnd_none {α β : Type} (f : α → Env → M β) : bnd (none : M α) f = none := (rfl)
@[simp] theorem bnd_ok {α β : Type} (a : α) (ρ : Env) (f : α → Env → M β) : bnd (some (.ok a ρ)) f = f a ρ := (rfl)
@[simp] theorem bnd_ex {α β : Type} (c : Str) (d : Option D) (ρ : Env) (f : α → Env → M β) : bnd (some (.ex c d ρ) : M α) f = some (.ex c d ρ) := (rfl)
@[simp] theorem opt_none {α β : Type} (f : α → M β) : opt (none : Option α) f = none := (rfl)
@[simp] theorem opt_some {α β : Type} (a : α) (f : α → M β) : opt (some a) f = f a := (rfl)

/-- the thing that is meant, as it stands now -/
def rd : Res → Env → Option D
  | .val d, _ => some d
  | .at i p, ρ => gtP ρ i p
/-- taken to be kept elsewhere: a place is frozen -/
def tk : Res → Env → Option (D × Env)
  | .val d, ρ => some (d, ρ)
  | .at i [], ρ => (gt ρ i).bind fun d => match d with
    | .lst .lk _ => none
    | d => some (frz d, ρ.set i (some (frz d)))
  | .at _ (_ :: _), _ => none

inductive O1 where
  | len | int_ | neg | tuple_ | list_ | sortedset | sorted | sum_ | abs_ | str_ | max_ | min_ | any_ | all_ | lenset
  | isinst (t : String)
  | rev                     -- xs[::-1]
  deriving DecidableEq
inductive O2 where
  | add | sub | mul | fdiv | mod | pow | shl | shr | band
  | eq | ne | lt | le | gt | ge | is_ | isnot | in_ | notin
  | max2 | min2 | ix | gcd_ | range2
  deriving DecidableEq

inductive Mu where
  | append | extend | pop | reverse
  deriving DecidableEq

inductive Tg where
  | nm (i : Nat) | tp (ts : List Tg)

mutual
inductive E where
  | c (d : D)
  | v (i : Nat)
  | g (x : Str) (d : D)
  | o1 (o : O1) (a : E)
  | o2 (o : O2) (a b : E)
  | slc (a : E) (lo hi : Option E)
  | ch (o o' : O2) (a b c : E)
  | and_ (a b : E) | or_ (a b : E) | not_ (a : E) | ife (t a b : E)
  | tup (es : List E) | lst (nst : Bool) (es : List E)
  | fld (a : E) (f : Str)
  | exf (i : Nat) (f : Str)
  | any                     -- anything: nothing is promised of it
  | lrg (t : Bool) (a : E)
  | call (f : Str) (es : List E)
  | meth (m : Str) (c : Str) (es : List E)
  | make (c : Str) (es : List E)
  | mu (m : Mu) (b : E) (es : List E)
  | comp (nst : Bool) (ow : List Nat) (elt : E) (tg : Tg) (it : It) (cond : Option E)
inductive It where
  | r1 (a : E) | r2 (a b : E) | r3 (a b c : E) | ex (a : E)
end

inductive S where
  | set (i : Nat) (e : E)
  | unp (t : Tg) (e : E)
  | par (i j : Nat) (a b : E)
  | setIx (b j e : E)
  | setFld (b : E) (c f : Str) (e : E)
  | aug (i : Nat) (o : O2) (e : E)
  | augIx (b j : E) (o : O2) (e : E)
  | augFld (b : E) (f : Str) (o : O2) (e : E)
  | ex (e : E)
  | ite (c : E) (a b : List S)
  | whl (c : E) (b : List S)
  | for_ (t : Tg) (it : It) (b : List S)
  | ret (e : E)
  | rai (c : Str) (e : Option (Str × E))
  | try_ (b : List S) (c : Str) (as_ : Option (Nat × Str)) (h : List S)
  | brk | cnt | pas | any

inductive Fl where
  | nx | bk | ct | rt (d : D)

/-- what a call of a def gives: the answer or the exception, and what its parameters hold in the end -/
inductive COut where
  | ret (d : D) (fin : List D)
  | ex (c : Str) (d : Option D) (fin : List D)
abbrev CF := Str → List D → Option COut

structure FD where
  np : Nat
  ns : Nat
  io : List Bool
  body : List S
end Cov

/-! Cf0: strict orders; sorting with each item once. -/
namespace Cov
open PySem PySem.W
/-- a strict order in which any two can be compared -/
structure STO {α : Type} (lt : α → α → Bool) : Prop where
  irr : ∀ x, lt x x = false
  trans : ∀ {x y z}, lt x y = true → lt y z = true → lt x z = true
  tot : ∀ x y, lt x y = true ∨ x = y ∨ lt y x = true
theorem sto_int : STO (DatumOrd.lt (α := Int)) := by
  refine ⟨fun x => ?_, fun {x y z} h1 h2 => ?_, fun x y => ?_⟩
  · show decide (x < x) = false
    simp
  · have h1 : x < y := of_decide_eq_true h1
    have h2 : y < z := of_decide_eq_true h2
    exact decide_eq_true (by omega : x < z)
  · show decide (x < y) = true ∨ x = y ∨ decide (y < x) = true
    simp only [decide_eq_true_eq]
    omega
section
variable {α β : Type} [DecidableEq α] [DatumOrd α] [DecidableEq β] [DatumOrd β]
theorem listLt_irr (S : STO (DatumOrd.lt (α := α))) : ∀ xs : List α, listLt xs xs = false
  | [] => rfl
  | x :: xs => by rw [listLt, if_pos rfl]; exact listLt_irr S xs
theorem listLt_tot (S : STO (DatumOrd.lt (α := α))) : ∀ xs ys : List α, listLt xs ys = true ∨ xs = ys ∨ listLt ys xs = true
  | [], [] => .inr (.inl rfl)
  | [], _ :: _ => .inl rfl
  | _ :: _, [] => .inr (.inr rfl)
  | x :: xs, y :: ys => by
    by_cases e : x = y
    · subst e
      rw [listLt, if_pos rfl, listLt, if_pos rfl]
      rcases listLt_tot S xs ys with h | h | h
      · exact .inl h
      · exact .inr (.inl (by rw [h]))
      · exact .inr (.inr h)
    · rw [listLt, if_neg e, listLt, if_neg (fun h => e h.symm)]
      rcases S.tot x y with h | h | h
      · exact .inl h
      · exact (e h).elim
      · exact .inr (.inr h)
theorem listLt_trans (S : STO (DatumOrd.lt (α := α))) : ∀ {xs ys zs : List α}, listLt xs ys = true → listLt ys zs = true → listLt xs zs = true
  | [], [], _, h, _ => by cases h
  | [], _ :: _, [], _, h => by cases h
  | [], _ :: _, _ :: _, _, _ => rfl
  | _ :: _, [], _, h, _ => by cases h
  | _ :: _, _ :: _, [], _, h => by cases h
  | x :: xs, y :: ys, z :: zs, h1, h2 => by
    rw [listLt] at h1 h2 ⊢
    by_cases e1 : x = y
    · subst e1
      rw [if_pos rfl] at h1
      by_cases e2 : x = z
      · rw [if_pos e2] at h2 ⊢
        exact listLt_trans S h1 h2
      · rw [if_neg e2] at h2 ⊢
        exact h2
    · rw [if_neg e1] at h1
      by_cases e2 : y = z
      · subst e2
        rw [if_neg e1]
        exact h1
      · rw [if_neg e2] at h2
        have h3 := S.trans h1 h2
        by_cases e3 : x = z
        · subst e3
          rw [S.irr] at h3
          cases h3
        · rw [if_neg e3]
          exact h3
theorem sto_tup (S : STO (DatumOrd.lt (α := α))) : STO (DatumOrd.lt (α := Tup α)) :=
  ⟨fun x => listLt_irr S x.items, fun h1 h2 => listLt_trans S h1 h2, fun x y => (listLt_tot S x.items y.items).imp id (Or.imp (fun e => by cases x; cases y; exact congrArg Tup.mk e) id)⟩
theorem sto_pair (S : STO (DatumOrd.lt (α := α))) (T : STO (DatumOrd.lt (α := β))) : STO (DatumOrd.lt (α := α × β)) := by
  have ex : ∀ p q : α × β, DatumOrd.lt p q = if p.1 = q.1 then DatumOrd.lt p.2 q.2 else DatumOrd.lt p.1 q.1 := fun _ _ => rfl
  refine ⟨fun x => ?_, fun {x y z} h1 h2 => ?_, fun x y => ?_⟩
  · rw [ex, if_pos rfl]; exact T.irr _
  · rw [ex] at h1 h2 ⊢
    by_cases e1 : x.1 = y.1
    · rw [if_pos e1] at h1
      by_cases e2 : y.1 = z.1
      · rw [if_pos e2] at h2
        rw [if_pos (e1.trans e2)]
        exact T.trans h1 h2
      · rw [if_neg e2] at h2
        rw [if_neg (fun h => e2 (e1 ▸ h)), e1]
        exact h2
    · rw [if_neg e1] at h1
      by_cases e2 : y.1 = z.1
      · rw [if_neg (fun h => e1 (h.trans e2.symm)), ← e2]
        exact h1
      · rw [if_neg e2] at h2
        have h3 := S.trans h1 h2
        by_cases e3 : x.1 = z.1
        · rw [e3, S.irr] at h3
          cases h3
        · rw [if_neg e3]
          exact h3
  · rw [ex, ex]
    by_cases e : x.1 = y.1
    · rw [if_pos e, if_pos e.symm]
      exact (T.tot x.2 y.2).imp id (Or.imp (fun h => Prod.ext e h) id)
    · rw [if_neg e, if_neg (fun h => e h.symm)]
      rcases S.tot x.1 y.1 with h | h | h
      · exact .inl h
      · exact (e h).elim
      · exact .inr (.inr h)
end
/-! sorted once each -/
section
variable {α : Type} [DecidableEq α]
def insG (lt : α → α → Bool) (x : α) : List α → List α
  | [] => [x]
  | y :: l => if x = y then y :: l else if lt x y then x :: y :: l else y :: insG lt x l
def sortG (lt : α → α → Bool) : List α → List α
  | [] => []
  | x :: l => insG lt x (sortG lt l)
variable {lt : α → α → Bool}
theorem mem_insG {x y : α} : ∀ {l : List α}, y ∈ insG lt x l ↔ y = x ∨ y ∈ l
  | [] => by simp [insG]
  | z :: l => by
    simp only [insG]
    split
    · rename_i h
      subst h
      simp
    · split
      · simp
      · simp only [List.mem_cons, mem_insG]
        constructor
        · rintro (h | h | h) <;> simp [h]
        · rintro (h | h | h) <;> simp [h]
theorem mem_sortG {y : α} : ∀ {l : List α}, y ∈ sortG lt l ↔ y ∈ l
  | [] => by simp [sortG]
  | x :: l => by simp only [sortG, mem_insG, mem_sortG, List.mem_cons]
theorem insG_pw (S : STO lt) {x : α} : ∀ {l : List α}, l.Pairwise (fun a b => lt a b = true) → (insG lt x l).Pairwise (fun a b => lt a b = true)
  | [], _ => by simp [insG]
  | z :: l, h => by
    have hz := List.pairwise_cons.mp h
    simp only [insG]
    split
    · exact h
    · rename_i hne
      split
      · rename_i hlt
        refine List.pairwise_cons.mpr ⟨fun b hb => ?_, h⟩
        rcases List.mem_cons.mp hb with e | e
        · rw [e]; exact hlt
        · exact S.trans hlt (hz.1 b e)
      · rename_i hlt
        refine List.pairwise_cons.mpr ⟨fun b hb => ?_, insG_pw S hz.2⟩
        rcases mem_insG.mp hb with e | e
        · subst e
          rcases S.tot b z with q | q | q
          · exact absurd q hlt
          · exact absurd q hne
          · exact q
        · exact hz.1 b e
theorem sortG_pw (S : STO lt) : ∀ (l : List α), (sortG lt l).Pairwise (fun a b => lt a b = true)
  | [] => List.Pairwise.nil
  | x :: l => insG_pw S (sortG_pw S l)
theorem sortG_len : ∀ {l : List α}, (sortG lt l).length ≤ l.length
  | [] => Nat.le_refl _
  | x :: l => by
    have h1 := sortG_len (l := l)
    have h2 : ∀ k : List α, (insG lt x k).length ≤ k.length + 1 := by
      intro k
      induction k with
      | nil => simp [insG]
      | cons z k ih =>
        simp only [insG]
        split
        · simp
        · split
          · simp
          · simp only [List.length_cons]; omega
    have := h2 (sortG lt l)
    simp only [sortG, List.length_cons]
    omega
theorem pwG_unique (S : STO lt) : ∀ {a b : List α}, a.Pairwise (fun a b => lt a b = true) → b.Pairwise (fun a b => lt a b = true) → (∀ x, x ∈ a ↔ x ∈ b) → a = b
  | [], [], _, _, _ => rfl
  | [], y :: _, _, _, h => absurd ((h y).mpr List.mem_cons_self) (by simp)
  | x :: _, [], _, _, h => absurd ((h x).mp List.mem_cons_self) (by simp)
  | x :: a, y :: b, ha, hb, h => by
    obtain ⟨ha1, ha2⟩ := List.pairwise_cons.mp ha
    obtain ⟨hb1, hb2⟩ := List.pairwise_cons.mp hb
    have exy : x = y := by
      rcases List.mem_cons.mp ((h x).mp List.mem_cons_self) with e | e
      · exact e
      · rcases List.mem_cons.mp ((h y).mpr List.mem_cons_self) with e2 | e2
        · exact e2.symm
        · have := S.trans (hb1 x e) (ha1 y e2)
          rw [S.irr] at this
          cases this
    subst exy
    rw [pwG_unique S ha2 hb2 fun z => ?_]
    constructor
    · intro hz
      rcases List.mem_cons.mp ((h z).mp (List.mem_cons_of_mem _ hz)) with e | e
      · subst e
        have := ha1 z hz
        rw [S.irr] at this
        cases this
      · exact e
    · intro hz
      rcases List.mem_cons.mp ((h z).mpr (List.mem_cons_of_mem _ hz)) with e | e
      · subst e
        have := hb1 z hz
        rw [S.irr] at this
        cases this
      · exact e
end
end Cov

/-! Cov2: the operations by data, the runs. -/
namespace Cov
open PySem

/-! ### equal data -/
mutual
def beqD : D → D → Bool
  | .non, .non => true
  | .bl a, .bl b => a == b
  | .int a, .int b => a == b
  | .str a, .str b => decide (a = b)
  | .ty a, .ty b => a == b
  | .tup a, .tup b => beqL a b
  | .lst o a, .lst p b => decide (o = p) && beqL a b
  | .own a, .own b => beqL a b
  | .ins o c f a, .ins p d g b => decide (o = p) && decide (c = d) && decide (f = g) && beqL a b
  | .dic o a b, .dic p c d => decide (o = p) && beqL a c && beqL b d
  | _, _ => false
def beqL : List D → List D → Bool
  | [], [] => true
  | a :: as, b :: bs => beqD a b && beqL as bs
  | _, _ => false
end
mutual
theorem beqD_refl : ∀ a : D, beqD a a = true
  | .non => rfl
  | .bl _ => by simp [beqD]
  | .int _ => by simp [beqD]
  | .str _ => by simp [beqD]
  | .ty _ => by simp [beqD]
  | .tup a => by simp [beqD, beqL_refl a]
  | .lst _ a => by simp [beqD, beqL_refl a]
  | .own a => by simp [beqD, beqL_refl a]
  | .ins _ _ _ a => by simp [beqD, beqL_refl a]
  | .dic _ a b => by simp [beqD, beqL_refl a, beqL_refl b]
@[simp] theorem beqL_refl : ∀ a : List D, beqL a a = true
  | [] => rfl
  | a :: as => by simp [beqL, beqD_refl a, beqL_refl as]
end
mutual
theorem beqD_eq : ∀ {a b : D}, beqD a b = true → a = b
  | .non, b, h => by cases b <;> simp [beqD] at h <;> rfl
  | .bl _, b, h => by cases b <;> simp [beqD] at h <;> rw [h]
  | .int _, b, h => by cases b <;> simp [beqD] at h <;> rw [h]
  | .str _, b, h => by cases b <;> simp [beqD] at h <;> rw [h]
  | .ty _, b, h => by cases b <;> simp [beqD] at h <;> rw [h]
  | .tup a, b, h => by cases b <;> simp [beqD] at h <;> rw [beqL_eq h]
  | .lst _ a, b, h => by
    cases b <;> simp [beqD] at h
    obtain ⟨h1, h2⟩ := h
    rw [h1, beqL_eq h2]
  | .own a, b, h => by cases b <;> simp [beqD] at h <;> rw [beqL_eq h]
  | .ins _ _ _ a, b, h => by
    cases b <;> simp [beqD] at h
    obtain ⟨⟨⟨h1, h2⟩, h3⟩, h4⟩ := h
    rw [h1, h2, h3, beqL_eq h4]
  | .dic _ a b, c, h => by
    cases c <;> simp [beqD] at h
    obtain ⟨⟨h1, h2⟩, h3⟩ := h
    rw [h1, beqL_eq h2, beqL_eq h3]
theorem beqL_eq : ∀ {a b : List D}, beqL a b = true → a = b
  | [], [], _ => rfl
  | [], _ :: _, h => by simp [beqL] at h
  | _ :: _, [], h => by simp [beqL] at h
  | a :: as, b :: bs, h => by
    simp only [beqL, Bool.and_eq_true] at h
    rw [beqD_eq h.1, beqL_eq h.2]
end
/-! ### data as the library's -/
mutual
def toPy : D → Option PyData
  | .non => some .none
  | .bl b => some (.bool b)
  | .int i => some (.int i)
  | .str x => some (.str x)
  | .tup ds => (toPyL ds).map .tuple
  | .lst _ ds => (toPyL ds).map .list
  | _ => none
def toPyL : List D → Option (List PyData)
  | [] => some []
  | d :: ds => (toPy d).bind fun p => (toPyL ds).map fun ps => p :: ps
end
def eqD (a b : D) : Option Bool := (toPy a).bind fun x => (toPy b).bind fun y => if SeqAt.shaped x && SeqAt.shaped y then some (PyData.eqv x y) else none

def intOf : D → Option Int
  | .int i => some i
  | _ => none
def intsOf : List D → Option (List Int)
  | [] => some []
  | d :: ds => (intOf d).bind fun i => (intsOf ds).map fun is => i :: is
def tupOf : D → Option (List Int)
  | .tup ds => intsOf ds
  | _ => none
def tupsOf : List D → Option (List (List Int))
  | [] => some []
  | d :: ds => (tupOf d).bind fun i => (tupsOf ds).map fun is => i :: is
/-! configurations: a tuple of ints, and a tuple of such -/
abbrev Cf := PySem.W.Tup Int × PySem.W.Tup (PySem.W.Tup Int)
abbrev ltC : Cf → Cf → Bool := PySem.W.DatumOrd.lt
def cfD (c : Cf) : D := .tup [.tup (c.1.items.map D.int), .tup (c.2.items.map fun t => .tup (t.items.map D.int))]
def cfOf : D → Option Cf
  | .tup [.tup ms, .tup ws] => (intsOf ms).bind fun m => (tupsOf ws).map fun w => (⟨m⟩, ⟨w.map PySem.W.Tup.mk⟩)
  | _ => none
def cfsOf : List D → Option (List Cf)
  | [] => some []
  | d :: ds => (cfOf d).bind fun c => (cfsOf ds).map fun cs => c :: cs
def blOf : D → Option Bool
  | .bl b => some b
  | _ => none
/-- the items of a list or a tuple -/
def seqOf : D → Option (List D)
  | .lst _ ds => some ds
  | .tup ds => some ds
  | _ => none
abbrev intsD (xs : List Int) : List D := xs.map .int
abbrev tupI (xs : List Int) : D := .tup (xs.map .int)

/-! ### sorted lists of tuples of ints, each once -/
def ltT : List Int → List Int → Bool
  | [], [] => false
  | [], _ :: _ => true
  | _ :: _, [] => false
  | x :: xs, y :: ys => if x = y then ltT xs ys else decide (x < y)
def insT (x : List Int) : List (List Int) → List (List Int)
  | [] => [x]
  | y :: ys => if x = y then y :: ys else if ltT x y then x :: y :: ys else y :: insT x ys
def sortT : List (List Int) → List (List Int)
  | [] => []
  | x :: xs => insT x (sortT xs)

/-- a bound for sums and products: below a million bits -/
def bitsOk (i j : Int) : Bool := decide (i.natAbs.log2 + j.natAbs.log2 < 900000)

def maxL : List Int → Option Int
  | [] => none
  | x :: xs => some (xs.foldl (fun a b => if a < b then b else a) x)
def minL : List Int → Option Int
  | [] => none
  | x :: xs => some (xs.foldl (fun a b => if b < a then b else a) x)
/-- flat data: compared by themselves -/
def flD : D → Bool
  | .non => true
  | .bl _ => true
  | .int _ => true
  | .str _ => true
  | _ => false
/-- x in ds -/
def inDs (x : D) (ds : List D) : Option Bool := (toPy x).bind fun p => (toPyL ds).bind fun ps => if SeqAt.shaped p && SeqAt.shaped (.list ps) then some (ps.any fun z => PyData.eqv z p) else none
def inD (x : D) : D → Option Bool
  | .lst _ ds => inDs x ds
  | .tup ds => if flD x && ds.all flD then inDs x ds else none
  | _ => none
/-- the built-in types that isinstance is asked about -/
def tyName : D → Option Nat
  | .int _ => some 0
  | .bl _ => some 1
  | .str _ => some 2
  | .tup _ => some 3
  | .lst _ _ => some 4
  | .non => some 6
  | _ => none
def tyId (t : String) : Option Nat := ["int", "bool", "str", "tuple", "list", "dict"].findIdx? (· == t)
def o1D : O1 → D → Option D
  | .len, .str s => if s.length ≤ sizeLine then some (.int s.length) else none
  | .len, .tup ds => some (.int ds.length)
  | .len, .lst _ ds => some (.int ds.length)
  | .int_, .int i => some (.int i)
  | .int_, .bl b => some (.int (if b then 1 else 0))
  | .neg, .int i => some (.int (-i))
  | .tuple_, .lst _ ds => some (.tup ds)
  | .tuple_, .tup ds => some (.tup ds)
  | .list_, .lst _ ds => some (.lst .ow ds)
  | .list_, .tup ds => some (.lst .ow ds)
  | .rev, .lst _ ds => some (.lst .ow ds.reverse)
  | .sortedset, .lst _ ds => match tupsOf ds with
    | some ts => if (sortT ts).length ≤ 4095 && ts.all (fun t => decide (1 ≤ t.length)) then some (.lst .ow ((sortT ts).map tupI)) else none
    | none => (cfsOf ds).bind fun cs => if (sortG ltC cs).length ≤ 4095 then some (.lst .ow ((sortG ltC cs).map cfD)) else none
  | .max_, d => (seqOf d).bind fun ds => (intsOf ds).bind fun is => (maxL is).map .int
  | .min_, d => (seqOf d).bind fun ds => (intsOf ds).bind fun is => (minL is).map .int
  | .sum_, .lst _ ds => (intsOf ds).map fun is => .int is.sum
  | .abs_, .int i => some (.int (if i < 0 then -i else i))
  | .isinst t, d => (tyName d).bind fun a => (tyId t).map fun b => .bl (a == b || (a == 1 && b == 0))
  | _, _ => none

def isNon : D → Bool
  | .non => true
  | _ => false
def o2D : O2 → D → D → Option D
  | .add, .int i, .int j => some (.int (i + j))
  | .add, .str i, .str j => if i.length + j.length ≤ sizeLine then some (.str (i ++ j)) else none
  | .add, .lst _ xs, .lst _ ys => if xs.length + ys.length ≤ sizeLine then some (.lst .ow (xs ++ ys)) else none
  | .add, .tup xs, .tup ys => if xs.length + ys.length ≤ sizeLine then some (.tup (xs ++ ys)) else none
  | .sub, .int i, .int j => some (.int (i - j))
  | .mul, .int i, .int j => if bitsOk i j then some (.int (i * j)) else none
  | .mul, .lst .ow ds, .int k => if ds.length ≤ 1000 ∧ 0 ≤ k ∧ k ≤ 1000 then some (.lst .ow (List.replicate k.toNat ds).flatten) else none
  | .mul, .tup ds, .int k => if ds.length ≤ 1000 ∧ 1 ≤ k ∧ k ≤ 1000 ∧ ds ≠ [] then some (.tup (List.replicate k.toNat ds).flatten) else none
  | .fdiv, .int i, .int j => if 0 < j ∧ j < 1073741824 then some (.int (i / j)) else none
  | .mod, .int i, .int j => if 0 < j then some (.int (i % j)) else none
  | .pow, .int i, .int j => if 0 ≤ j ∧ j ≤ 1000000 ∧ i.natAbs < 2 ^ 64 then some (.int (i ^ j.toNat)) else none
  | .eq, a, b => (eqD a b).map .bl
  | .ne, a, b => (eqD a b).map fun k => .bl (!k)
  | .in_, x, y => (inD x y).map .bl
  | .notin, x, y => (inD x y).map fun k => .bl (!k)
  | .is_, d, .non => some (.bl (isNon d))
  | .isnot, d, .non => some (.bl (!isNon d))
  | .lt, .int i, .int j => some (.bl (decide (i < j)))
  | .le, .int i, .int j => some (.bl (decide (i ≤ j)))
  | .gt, .int i, .int j => some (.bl (decide (j < i)))
  | .ge, .int i, .int j => some (.bl (decide (j ≤ i)))
  | .max2, .int i, .int j => some (.int (if j > i then j else i))
  | .min2, .int i, .int j => some (.int (if j < i then j else i))
  | .ix, .tup ds, .int i => L2.atI ds i
  | .ix, .lst _ ds, .int i => L2.atI ds i
  | .ix, .str s, .int i => if s.length ≤ sizeLine then (L2.atI s.cps.toList i).map fun c => .str ⟨#[c]⟩ else none
  | _, _, _ => none

/-- xs[lo:hi] -/
def cutD (ds : List D) (lo hi : Option Int) : List D := (ds.drop (HT.sIx ds.length 0 lo)).take (HT.sIx ds.length ds.length hi - HT.sIx ds.length 0 lo)
def slcD (lo hi : Option Int) : D → Option D
  | .tup ds => some (.tup (cutD ds lo hi))
  | .lst _ ds => some (.lst .ow (cutD ds lo hi))
  | _ => none
/-! ### the runs -/
mutual
/-- no held exception within -/
def noDic : D → Bool
  | .tup ds => noDicL ds
  | .lst _ ds => noDicL ds
  | .own ds => noDicL ds
  | .ins _ _ _ fv => noDicL fv
  | .dic _ _ _ => false
  | _ => true
def noDicL : List D → Bool
  | [] => true
  | d :: ds => noDic d && noDicL ds
end
/-- only the slots without a held exception -/
def clr (ρ : Env) : Env := ρ.map fun o => match o with
  | some d => if noDic d then some d else none
  | none => none
def noDicF : Fl → Bool
  | .rt d => noDic d
  | _ => true
def isLst : Option D → Bool
  | some (.lst .ow _) => true
  | _ => false
def deep : Res → Bool
  | .at _ (_ :: _) => true
  | _ => false
mutual
/-- changes nothing that stood -/
def pureE : E → Bool
  | .c _ => true
  | .v _ => true
  | .g _ _ => true
  | .o1 _ a => pureE a
  | .o2 _ a b => pureE a && pureE b
  | .not_ a => pureE a
  | .and_ a b => pureE a && pureE b
  | .or_ a b => pureE a && pureE b
  | .fld a _ => pureE a
  | .exf _ _ => true
  | _ => false
def pureL : List E → Bool
  | [] => true
  | e :: es => pureE e && pureL es
end
section
variable (cf : CF)

/-- the items that a loop walks -/
def itemsOf : D → Option (List D)
  | .lst _ ds => some ds
  | .tup ds => some ds
  | _ => none
def lock (d : D) : Option D := match d with
  | .lst .ow ds => some (.lst .lk ds)
  | _ => none
def unlock (d : D) : D := match d with
  | .lst .lk ds => .lst .ow ds
  | d => d
/-- what is walked: its items, and the place that is locked meanwhile -/
abbrev Wlk := List D × Option (Nat × Bool)
def walkRes (r : Res) (ρ : Env) : M Wlk := match r with
  | .val d => opt (itemsOf d) fun ds => some (.ok (ds, none) ρ)
  | .at i p => opt (gtP ρ i p) fun d => match d with
    | .lst .ow ds => if p.isEmpty then some (.ok (ds, some (i, true)) (ρ.set i (some (.lst .lk ds)))) else none
    | .lst .lk ds => if p.isEmpty then some (.ok (ds, some (i, false)) ρ) else none
    | _ => none
def unlk (ρ : Env) : Option (Nat × Bool) → Option Env
  | none => some ρ
  | some (_, false) => some ρ
  | some (i, true) => (gt ρ i).bind fun d => match d with
    | .lst .lk ds => some (ρ.set i (some (.lst .ow ds)))
    | _ => none
/-- the walked list still stands, locked -/
def lkOk (w : Wlk) (ρ : Env) : Bool := match w.2 with
  | none => true
  | some (i, _) => match gt ρ i with
    | some (.lst .lk ds) => beqL ds w.1
    | _ => false
def ranged (a b : Int) : List D := (List.range (b - a).toNat).map fun (k : Nat) => D.int (a + (k : Int))
def rngOk (a : Int) : Bool := decide (-(2 ^ 62) ≤ a) && decide (a < 2 ^ 62)

mutual
def bindTg : Tg → D → Env → Option Env
  | .nm i, d, ρ => if isFz d then some (ρ.set i (some d)) else none
  | .tp ts, d, ρ => match d with
    | .tup ds => bindTgs ts ds ρ
    | _ => none
def bindTgs : List Tg → List D → Env → Option Env
  | [], [], ρ => some ρ
  | t :: ts, d :: ds, ρ => (bindTg t d ρ).bind fun ρ' => bindTgs ts ds ρ'
  | _, _, _ => none
end

mutual
def tgS : Tg → List Nat
  | .nm i => [i]
  | .tp ts => tgSs ts
def tgSs : List Tg → List Nat
  | [] => []
  | t :: ts => tgS t ++ tgSs ts
end
mutual
/-- the slots that a statement stores into -/
def asg : S → List Nat
  | .set i _ => [i]
  | .unp t _ => tgS t
  | .par i j _ _ => [i, j]
  | .aug i _ _ => [i]
  | .ite _ a b => asgL a ++ asgL b
  | .whl _ b => asgL b
  | .for_ t _ b => tgS t ++ asgL b
  | .try_ b _ a h => asgL b ++ (match a with | some (i, _) => [i] | none => []) ++ asgL h
  | _ => []
def asgL : List S → List Nat
  | [] => []
  | s :: ss => asg s ++ asgL ss
end
/-- the loop of a comprehension: own: its own slots; the slots are wiped at each turn's beginning -/
def wipeE (ρ : Env) : List Nat → Env
  | [] => ρ
  | i :: is => (wipeE ρ is).set i none
def backE (old ρ : Env) : List Nat → Env
  | [] => ρ
  | i :: is => (backE old ρ is).set i (gt old i)
def compL (w : Wlk) (ow : List Nat) (turn : D → Env → M (Option D)) : List D → List D → Env → M (List D)
  | [], acc, ρ => if lkOk w ρ then some (.ok acc ρ) else none
  | x :: xs, acc, ρ => if lkOk w ρ then (match turn x ρ with
    | some (.ok none ρ1) => compL w ow turn xs acc (wipeE ρ1 ow)
    | some (.ok (some d) ρ1) => if acc.length < sizeLine then compL w ow turn xs (acc ++ [d]) (wipeE ρ1 ow) else none
    | _ => none) else none

/-- an argument of a call: b: its parameter may be changed -/
def isLk : D → Bool
  | .lst .lk _ => true
  | _ => false
def argOf (ρ : Env) (b : Bool) : Res → Option D
  | .val d => some (if b then d else frz d)
  | .at i [] => (gt ρ i).bind fun d => if b then (if isLk d then none else some d) else some (frz d)
  | .at _ (_ :: _) => none
def argsOf (ρ : Env) : List Bool → List Res → Option (List D)
  | _, [] => some []
  | io, r :: rs => (argOf ρ (io.headD false) r).bind fun d => (argsOf ρ io.tail rs).map fun ds => d :: ds
/-- the places behind the arguments: those that may be changed, those that are only read -/
def placesOf (b : Bool) : List Bool → List Res → List Nat
  | _, [] => []
  | io, .at i _ :: rs => if io.headD false = b then i :: placesOf b io.tail rs else placesOf b io.tail rs
  | io, .val _ :: rs => placesOf b io.tail rs
def apartOk (io : List Bool) (rs : List Res) : Bool := decide (placesOf true io rs).Nodup && (placesOf true io rs).all fun i => !(placesOf false io rs).contains i
/-- the slots behind a call: what the changed parameters hold; fz: what was only read is frozen -/
def backs (fz : Bool) : List Bool → List Res → List D → Env → Env
  | io, .at i _ :: rs, d :: fin, ρ => backs fz io.tail rs fin (if io.headD false then ρ.set i (some d) else if fz then ρ.set i ((gt ρ i).map frz) else ρ)
  | io, .val _ :: rs, _ :: fin, ρ => backs fz io.tail rs fin ρ
  | _, _, _, ρ => ρ
def flatIo : List Bool → List D → Bool
  | io, d :: ds => (if io.headD false then flat d else true) && flatIo io.tail ds
  | _, [] => true
def doCall (io : List Bool) (f : Str) (rs : List Res) (ρ : Env) : M Res :=
  opt (argsOf ρ io rs) fun as => if apartOk io rs then opt (cf f as) fun o => match o with
    | .ret d fin => if fin.length = rs.length then some (.ok (.val d) (backs (!((placesOf false io rs).isEmpty || (flat d && flatIo io fin))) io rs fin ρ)) else none
    | .ex x d fin => if fin.length = rs.length then some (.ex x d (backs (!((placesOf false io rs).isEmpty)) io rs fin ρ)) else none
  else none

/-- a class is called: its __init__ with a new instance; the instance is frozen behind it -/
def doMake (io : List Bool) (c : Str) (rs : List Res) (ρ : Env) : M Res :=
  opt (argsOf ρ io (.val (.ins .ow c [] []) :: rs)) fun as => if apartOk io (.val (.ins .ow c [] []) :: rs) && io.headD false then opt (cf c as) fun o => match o with
    | .ret .non (d :: fin) => if fin.length = rs.length then some (.ok (.val (frz d)) (backs (!((placesOf false io (.val (.ins .ow c [] []) :: rs)).isEmpty || flatIo io (d :: fin))) io (.val (.ins .ow c [] []) :: rs) (d :: fin) ρ)) else none
    | .ex x d fin => if fin.length = rs.length + 1 then some (.ex x d (backs (!((placesOf false io (.val (.ins .ow c [] []) :: rs)).isEmpty)) io (.val (.ins .ow c [] []) :: rs) fin ρ)) else none
    | _ => none
  else none

/-- a method that changes a list -/
def muD : Mu → D → List D → Option (D × D)
  | .append, .lst .ow ds, [x] => if ds.length < sizeLine then some (.non, .lst .ow (ds ++ [frz x])) else none
  | .extend, .lst .ow ds, [.lst .ow es] => if ds.length + es.length ≤ sizeLine then some (.non, .lst .ow (ds ++ es)) else none
  | .pop, .lst .ow ds, [] => (ds[ds.length - 1]?).map fun d => (d, .lst .ow ds.dropLast)
  | .reverse, .lst .ow ds, [] => some (.non, .lst .ow ds.reverse)
  | _, _, _ => none
/-- the arguments of such a method: taken to be kept -/
def tkAll : List Res → Env → Option (List D × Env)
  | [], ρ => some ([], ρ)
  | r :: rs, ρ => (tk r ρ).bind fun x => (tkAll rs x.2).bind fun y => some (x.1 :: y.1, y.2)
def noPlace : List Res → Bool := fun rs => rs.all fun r => match r with | .at _ _ => false | _ => true

def intM (m : M Res) : M (Option Int) := bnd m fun r ρ => match rd r ρ with
  | some (.int i) => some (.ok (some i) ρ)
  | _ => none
def blRes (r : Res) (ρ : Env) (k : Bool → M Res) : M Res := match rd r ρ with
  | some (.bl b) => k b
  | _ => none

variable (ios : Str → List Bool)

mutual
def runE : E → Env → M Res
  | .c d, ρ => some (.ok (.val d) ρ)
  | .v i, ρ => opt (gt ρ i) fun d => some (.ok (if isFz d then .val d else .at i []) ρ)
  | .g _ d, ρ => some (.ok (.val d) ρ)
  | .o1 o a, ρ => bnd (runE a ρ) fun r ρ1 => opt (rd r ρ1) fun d => opt (o1D o d) fun e => some (.ok (.val e) ρ1)
  | .o2 o a b, ρ => bnd (runE a ρ) fun r ρ1 => if deep r && !pureE b then none else bnd (runE b ρ1) fun r' ρ2 => opt (rd r ρ2) fun d => opt (rd r' ρ2) fun d' => opt (o2D o d d') fun e => some (.ok (.val e) ρ2)
  | .slc a lo hi, ρ => bnd (runE a ρ) fun r ρ1 => if deep r then none else bnd (match lo with
      | none => some (.ok none ρ1)
      | some e => intM (runE e ρ1)) fun l ρ2 => bnd (match hi with
      | none => some (.ok none ρ2)
      | some e => intM (runE e ρ2)) fun u ρ3 => opt (rd r ρ3) fun d => opt (slcD l u d) fun y => some (.ok (.val y) ρ3)
  | .ch o o' a b c, ρ => if !(pureE b && pureE c) then none else bnd (runE a ρ) fun r ρ1 => bnd (runE b ρ1) fun r' ρ2 => opt (rd r ρ2) fun d => opt (rd r' ρ2) fun d' => opt (o2D o d d') fun e => match e with
    | .bl true => bnd (runE c ρ2) fun r'' ρ3 => opt (rd r' ρ3) fun d' => opt (rd r'' ρ3) fun d'' => opt (o2D o' d' d'') fun e' => some (.ok (.val e') ρ3)
    | .bl false => some (.ok (.val (.bl false)) ρ2)
    | _ => none
  | .and_ a b, ρ => bnd (runE a ρ) fun r ρ1 => blRes r ρ1 fun k => if k then bnd (runE b ρ1) fun r' ρ2 => blRes r' ρ2 fun k' => some (.ok (.val (.bl k')) ρ2) else some (.ok (.val (.bl false)) ρ1)
  | .or_ a b, ρ => bnd (runE a ρ) fun r ρ1 => blRes r ρ1 fun k => if k then some (.ok (.val (.bl true)) ρ1) else bnd (runE b ρ1) fun r' ρ2 => blRes r' ρ2 fun k' => some (.ok (.val (.bl k')) ρ2)
  | .not_ a, ρ => bnd (runE a ρ) fun r ρ1 => blRes r ρ1 fun k => some (.ok (.val (.bl (!k))) ρ1)
  | .ife t a b, ρ => bnd (runE t ρ) fun r ρ1 => blRes r ρ1 fun k => if k then runE a ρ1 else runE b ρ1
  | .tup es, ρ => bnd (runL es ρ) fun rs ρ1 => opt (tkAll rs ρ1) fun x => if x.1.length ≤ sizeLine then some (.ok (.val (.tup (frzL x.1))) x.2) else none
  | .lst nst es, ρ => bnd (runL es ρ) fun rs ρ1 => opt (tkAll rs ρ1) fun x => if x.1.length ≤ sizeLine then some (.ok (.val (if nst then .own x.1 else .lst .ow (frzL x.1))) x.2) else none
  | .fld a f, ρ => bnd (runE a ρ) fun r ρ1 => opt (rd r ρ1) fun d => opt (getS d (.fld f)) fun e => if isFz e then some (.ok (.val e) ρ1) else match r with
    | .at i p => some (.ok (.at i (p ++ [.fld f])) ρ1)
    | .val _ => none
  | .lrg t a, ρ => bnd (runE a ρ) fun r ρ1 => match rd r ρ1 with
    | some (.int j) => if decide (-(2 ^ 62) ≤ j) && decide (j ≤ 16777216) then some (.ok (.val (if t then .tup (ranged 0 j) else .lst .ow (ranged 0 j))) ρ1) else none
    | _ => none
  | .any, _ => none
  | .exf i f, ρ => match gt ρ i with
    | some (.dic .fz [.str g] [.int k]) => if g = f then some (.ok (.val (.int k)) ρ) else none
    | _ => none
  | .call f es, ρ => bnd (runL es ρ) fun rs ρ1 => doCall cf (ios f) f rs ρ1
  | .meth m c es, ρ => bnd (runL es ρ) fun rs ρ1 => doCall cf (ios (c ++ "." ++ m)) (c ++ "." ++ m) rs ρ1
  | .make c es, ρ => bnd (runL es ρ) fun rs ρ1 => doMake cf (ios c) c rs ρ1
  | .mu m b es, ρ => bnd (runE b ρ) fun r ρ1 => if isLst (rd r ρ1) then bnd (runL es ρ1) fun rs ρ2 => opt (tkAll rs ρ2) fun x => match r with
    | .at i [] => opt (gt x.2 i) fun d => opt (muD m d x.1) fun y => some (.ok (.val y.1) (x.2.set i (some y.2)))
    | _ => none else none
  | .comp _ ow elt tg it cond, ρ => bnd (runIt it ρ) fun w ρ1 => if w.2.any (fun x => ow.contains x.1) || (tgS tg).any (fun i => !ow.contains i) then none else
      match compL w ow (fun x ρa => opt (bindTg tg x ρa) fun ρb => bnd (match cond with
          | none => some (.ok (.val (.bl true)) ρb)
          | some t => runE t ρb) fun rt ρc => match rd rt ρc with
            | some (.bl true) => bnd (runE elt ρc) fun re ρd => opt (tk re ρd) fun y => some (.ok (some (frz y.1)) y.2)
            | some (.bl false) => some (.ok none ρc)
            | _ => none) w.1 [] (wipeE ρ1 ow) with
      | some (.ok ds ρ2) => opt (unlk (backE ρ1 ρ2 ow) w.2) fun ρ3 => some (.ok (.val (.lst .ow ds)) ρ3)
      | _ => none
def runL : List E → Env → M (List Res)
  | [], ρ => some (.ok [] ρ)
  | e :: es, ρ => bnd (runE e ρ) fun r ρ1 => if deep r && !pureL es then none else bnd (runL es ρ1) fun rs ρ2 => some (.ok (r :: rs) ρ2)
def runIt : It → Env → M Wlk
  | .r1 a, ρ => bnd (runE a ρ) fun r ρ1 => match rd r ρ1 with
    | some (.int j) => if rngOk j then some (.ok (ranged 0 j, none) ρ1) else none
    | _ => none
  | .r2 a b, ρ => bnd (runE a ρ) fun r ρ1 => if deep r then none else bnd (runE b ρ1) fun r' ρ2 => match rd r ρ2, rd r' ρ2 with
    | some (.int i), some (.int j) => if rngOk i && rngOk j then some (.ok (ranged i j, none) ρ2) else none
    | _, _ => none
  | .r3 _ _ _, _ => none
  | .ex a, ρ => bnd (runE a ρ) fun r ρ1 => walkRes r ρ1
end

def whl (c : Env → M Bool) (b : Env → M Fl) (ρ : Env) : M Fl :=
  match c ρ with
  | none => none
  | some (.ex x d ρ1) => some (.ex x d ρ1)
  | some (.ok k ρ1) => if k then (match b ρ1 with
      | none => none
      | some (.ex x d ρ2) => some (.ex x d ρ2)
      | some (.ok .bk ρ2) => some (.ok .nx ρ2)
      | some (.ok (.rt d) ρ2) => some (.ok (.rt d) ρ2)
      | some (.ok _ ρ2) => whl c b ρ2)
    else some (.ok .nx ρ1)
partial_fixpoint

def forL (w : Wlk) (b : D → Env → M Fl) : List D → Env → M Fl
  | [], ρ => if lkOk w ρ then some (.ok .nx ρ) else none
  | x :: xs, ρ => if lkOk w ρ then bnd (b x ρ) fun f ρ1 => match f with
    | .bk => some (.ok .nx ρ1)
    | .rt d => some (.ok (.rt d) ρ1)
    | _ => forL w b xs ρ1 else none

/-- a local owned thing is handed out; a parameter's or a part is frozen -/
def retR (io : List Bool) (r : Res) (ρ : Env) : Option (D × Env) := match r with
  | .at i [] => if io.getD i false then tk r ρ else (gt ρ i).map fun d => (unlock d, ρ.set i none)
  | r => tk r ρ

end
def augF : O2 → Int → Int → Option Int
  | .add, x, y => some (x + y)
  | .sub, x, y => some (x - y)
  | _, _, _ => none
mutual
def runS (cf : CF) (ios : Str → List Bool) (io : List Bool) : S → Env → M Fl
  | .set i e, ρ => bnd (runE cf ios e ρ) fun r ρ1 => opt (tk r ρ1) fun x => some (.ok .nx (x.2.set i (some x.1)))
  | .unp t e, ρ => bnd (runE cf ios e ρ) fun r ρ1 => opt (rd r ρ1) fun d => opt (bindTg t d ρ1) fun ρ2 => some (.ok .nx ρ2)
  | .par i j a b, ρ => bnd (runE cf ios a ρ) fun r ρ1 => bnd (runE cf ios b ρ1) fun r' ρ2 => match r, r' with
    | .val d, .val d' => if isFz d && isFz d' then some (.ok .nx ((ρ2.set i (some d)).set j (some d'))) else none
    | _, _ => none
  | .setIx b j e, ρ => bnd (runE cf ios e ρ) fun r ρ1 => opt (tk r ρ1) fun x => bnd (runE cf ios b x.2) fun rb ρ2 => if !pureE j then none else bnd (runE cf ios j ρ2) fun rj ρ3 => match rb, rd rj ρ3 with
    | .at i [], some (.int k) => if isFz x.1 then opt (gt ρ3 i) fun d => (match d with
        | .lst .ow ds => opt (L2.ixN ds.length k) fun q => some (.ok .nx (ρ3.set i (some (.lst .ow (ds.set q x.1)))))
        | _ => none) else none
    | _, _ => none
  | .setFld b c f e, ρ => bnd (runE cf ios e ρ) fun r ρ1 => opt (tk r ρ1) fun x => match b with
    | .v i => opt (gt x.2 i) fun d => match d with
      | .ins .ow c' fn fv => if decide (c' = c) && !fn.contains f && decide (fn.length < 100) then some (.ok .nx (x.2.set i (some (.ins .ow c (fn ++ [f]) (fv ++ [frz x.1]))))) else none
      | _ => none
    | _ => none
  | .aug i o e, ρ => opt (gt ρ i) fun d0 => match d0 with
    | .int x => bnd (runE cf ios e ρ) fun r ρ1 => (match rd r ρ1 with
      | some (.int y) => opt (augF o x y) fun z => some (.ok .nx (ρ1.set i (some (.int z))))
      | _ => none)
    | _ => none
  | .augIx b j o e, ρ => match b with
    | .v i => opt (gt ρ i) fun _ => bnd (runE cf ios j ρ) fun rj ρ1 => match rd rj ρ1 with
      | some (.int k) => opt (gt ρ1 i) fun d => (match d with
        | .lst .ow ds => if decide (0 ≤ k) then (match ds[k.toNat]? with
          | some (.int x) => bnd (runE cf ios e ρ1) fun r ρ2 => match rd r ρ2 with
            | some (.int y) => opt (augF o x y) fun z => opt (gt ρ2 i) fun d2 => (match d2 with
              | .lst .ow ds2 => opt (L2.ixN ds2.length k) fun q => some (.ok .nx (ρ2.set i (some (.lst .ow (ds2.set q (.int z))))))
              | _ => none)
            | _ => none
          | _ => none) else none
        | _ => none)
      | _ => none
    | _ => none
  | .augFld _ _ _ _, _ => none
  | .ex e, ρ => bnd (runE cf ios e ρ) fun _ ρ1 => some (.ok .nx ρ1)
  | .ite c a b, ρ => bnd (runE cf ios c ρ) fun r ρ1 => match rd r ρ1 with
    | some (.bl true) => runSs cf ios io a ρ1
    | some (.bl false) => runSs cf ios io b ρ1
    | _ => none
  | .whl c b, ρ => whl (fun ρ => bnd (runE cf ios c ρ) fun r ρ1 => match rd r ρ1 with
      | some (.bl k) => some (.ok k ρ1)
      | _ => none) (fun ρ => runSs cf ios io b ρ) ρ
  | .for_ t it b, ρ => bnd (runIt cf ios it ρ) fun w ρ1 => if w.2.any (fun x => (tgS t ++ asgL b).contains x.1) then none else match forL w (fun x ρa => opt (bindTg t x ρa) fun ρb => runSs cf ios io b ρb) w.1 ρ1 with
    | none => none
    | some (.ok f ρ2) => opt (unlk ρ2 w.2) fun ρ3 => some (.ok f ρ3)
    | some (.ex x d ρ2) => opt (unlk ρ2 w.2) fun ρ3 => some (.ex x d ρ3)
  | .ret e, ρ => bnd (runE cf ios e ρ) fun r ρ1 => opt (retR io r ρ1) fun x => some (.ok (.rt x.1) x.2)
  | .rai c a, ρ => match a with
    | none => some (.ex c none ρ)
    | some (f, e) => bnd (runE cf ios e ρ) fun r ρ1 => match rd r ρ1 with
      | some (.int k) => some (.ex c (some (.tup [.str f, .int k])) ρ1)
      | _ => none
  | .try_ b c a h, ρ => match runSs cf ios io b ρ with
    | some (.ex x d ρ1) => if x = c then (match a, d with
        | none, _ => (match runSs cf ios io h ρ1 with
            | some (.ok fl ρ2) => some (.ok fl ρ2)
            | _ => none)
        | some (i, f), some (.tup [.str g, .int k]) => if g = f then (match runSs cf ios io h (ρ1.set i (some (.dic .fz [.str f] [.int k]))) with
            | some (.ok fl ρ2) => if noDicF fl then some (.ok fl (clr (ρ2.set i none))) else none
            | _ => none) else none
        | _, _ => none) else none
    | m => m
  | .brk, ρ => some (.ok .bk ρ)
  | .cnt, ρ => some (.ok .ct ρ)
  | .pas, ρ => some (.ok .nx ρ)
  | .any, _ => none
def runSs (cf : CF) (ios : Str → List Bool) (io : List Bool) : List S → Env → M Fl
  | [], ρ => some (.ok .nx ρ)
  | s :: ss, ρ => bnd (runS cf ios io s ρ) fun f ρ1 => match f with
    | .nx => runSs cf ios io ss ρ1
    | f => some (.ok f ρ1)
end

def fins (np : Nat) (ρ : Env) : List D := (List.range np).map fun i => (gt ρ i).getD .non
/-- the changed parameters still stand -/
def finOk (io : List Bool) (np : Nat) (ρ : Env) : Bool := (List.range np).all fun i => !(io.getD i false) || (gt ρ i).isSome
def iosOf (Γ : Str → Option FD) : Str → List Bool := fun f => match Γ f with
  | some d => d.io
  | none => []
def outOf (fd : FD) : M Fl → Option COut
  | some (.ok (.rt d) ρ) => if finOk fd.io fd.np ρ then some (.ret d (fins fd.np ρ)) else none
  | some (.ok .nx ρ) => if finOk fd.io fd.np ρ then some (.ret .non (fins fd.np ρ)) else none
  | some (.ex c d ρ) => if finOk fd.io fd.np ρ then some (.ex c d (fins fd.np ρ)) else none
  | _ => none
def callF (Γ : Str → Option FD) : Nat → CF
  | 0, _, _ => none
  | n + 1, f, args => match Γ f with
    | none => none
    | some fd => if args.length = fd.np then outOf fd (runSs (callF Γ n) (iosOf Γ) fd.io fd.body (args.map some ++ List.replicate (fd.ns - fd.np) none)) else none
end Cov

/-! Cov3: what stands for a datum in the abstract heap. F: what is frozen; H: all that is tracked. -/
namespace Cov
open PySem L2

/-- the addresses of the classes (plain ones, exceptions); the exception that a suite holds: where it is, its dict, its one field, what that holds -/
structure CLT where
  cl : Str → Option Addr
  xc : Str → Option Addr
  ex : Option (Addr × Addr × Str × Int)
/-- what must be known of the class of an instance with the fields fn -/
def ClsOk (K : PySem.W.Frag) (CL : CLT) (c : Str) (fn : List Str) (C : Addr) : Prop := CL.cl c = some C ∧ Cls K C ∧ ∀ f ∈ fn, NoAttr K C f

mutual
def Rep (K : PySem.W.Frag) (CL : CLT) (F H : Hp) : D → V → List Addr → Prop
  | .non, v, fp => v = .non ∧ fp = []
  | .bl b, v, fp => v = .bl b ∧ fp = []
  | .int i, v, fp => v = .int i ∧ fp = []
  | .str s, v, fp => v = .str s ∧ fp = []
  | .ty n, v, fp => v = .ty n ∧ fp = []
  | .tup ds, v, fp => fp = [] ∧ ∃ a vs, v = .ref a ∧ SqT K F a vs ∧ Reps K CL F H ds vs []
  | .lst .fz ds, v, fp => fp = [] ∧ ∃ a vs, v = .ref a ∧ SqL K F a vs ∧ Reps K CL F H ds vs []
  | .lst .ow ds, v, fp => ∃ a vs, v = .ref a ∧ fp = [a] ∧ H a = some (.lst vs) ∧ F a = none ∧ Reps K CL F H ds vs []
  | .lst .lk ds, v, fp => ∃ a vs, v = .ref a ∧ fp = [a] ∧ H a = some (.lst vs) ∧ F a = none ∧ Reps K CL F H ds vs []
  | .own ds, v, fp => ∃ a vs fp', v = .ref a ∧ fp = a :: fp' ∧ H a = some (.lst vs) ∧ F a = none ∧ Reps K CL F H ds vs fp'
  | .ins .fz c fn fv, v, fp => fp = [] ∧ ∃ a C dx fs, v = .ref a ∧ ClsOk K CL c fn C ∧ F a = some (.ins C dx fs) ∧ fs.map (·.1) = fn ∧ Reps K CL F H fv (fs.map (·.2)) []
  | .ins .ow c fn fv, v, fp => ∃ a C dx fs fp', v = .ref a ∧ fp = a :: fp' ∧ ClsOk K CL c fn C ∧ H a = some (.ins C dx fs) ∧ F a = none ∧ fs.map (·.1) = fn ∧ Reps K CL F H fv (fs.map (·.2)) fp'
  | .ins .lk _ _ _, _, _ => False
  | .dic _ ks vs, v, fp => fp = [] ∧ ∃ a d f k, CL.ex = some (a, d, f, k) ∧ ks = [.str f] ∧ vs = [.int k] ∧ v = .ref a
def Reps (K : PySem.W.Frag) (CL : CLT) (F H : Hp) : List D → List V → List Addr → Prop
  | [], vs, fp => vs = [] ∧ fp = []
  | d :: ds, vs, fp => ∃ v vr f1 f2, vs = v :: vr ∧ fp = f1 ++ f2 ∧ Rep K CL F H d v f1 ∧ Reps K CL F H ds vr f2
end

abbrev Sub (F H : Hp) : Prop := ∀ a o, F a = some o → H a = some o
theorem rd_mono {F F' : Hp} (m : Sub F F') {a : Addr} {u : HO} (h : Rd F a u) : Rd F' a u := by
  rcases h with h | ⟨o, h⟩
  · exact .inl (m _ _ h)
  · exact .inr ⟨o, m _ _ h⟩
theorem sqT_mono {K : PySem.W.Frag} {F F' : Hp} (m : Sub F F') {a : Addr} {vs : List V} (h : SqT K F a vs) : SqT K F' a vs := h.imp (rd_mono m) id
theorem sqL_mono {K : PySem.W.Frag} {F F' : Hp} (m : Sub F F') {a : Addr} {vs : List V} (h : SqL K F a vs) : SqL K F' a vs := h.imp (rd_mono m) id

section
variable {K : PySem.W.Frag} {CL : CLT} {F F' H H' : Hp}
theorem app_nil2 {α : Type} {f1 f2 : List α} (h : ([] : List α) = f1 ++ f2) : f1 = [] ∧ f2 = [] := by
  cases f1 with
  | nil => exact ⟨rfl, by simpa using h.symm⟩
  | cons a r => cases h
-- carried to a larger frozen part and another heap
mutual
theorem Rep.mono (m : Sub F F') : ∀ {d : D} {v : V} {fp : List Addr}, Rep K CL F H d v fp → (∀ a ∈ fp, H' a = H a) → (∀ a ∈ fp, F' a = none) → Rep K CL F' H' d v fp
  | .non, _, _, h, _, _ => by simpa only [Rep] using h
  | .bl _, _, _, h, _, _ => by simpa only [Rep] using h
  | .int _, _, _, h, _, _ => by simpa only [Rep] using h
  | .str _, _, _, h, _, _ => by simpa only [Rep] using h
  | .ty _, _, _, h, _, _ => by simpa only [Rep] using h
  | .tup ds, v, fp, h, _, _ => by
    simp only [Rep] at h ⊢
    obtain ⟨e, a, vs, ev, q, r⟩ := h
    exact ⟨e, a, vs, ev, sqT_mono m q, Reps.mono m r (fun _ z => nomatch z) fun _ z => nomatch z⟩
  | .lst .fz ds, v, fp, h, _, _ => by
    simp only [Rep] at h ⊢
    obtain ⟨e, a, vs, ev, q, r⟩ := h
    exact ⟨e, a, vs, ev, sqL_mono m q, Reps.mono m r (fun _ z => nomatch z) fun _ z => nomatch z⟩
  | .lst .ow ds, v, fp, h, hh, hf => by
    simp only [Rep] at h ⊢
    obtain ⟨a, vs, ev, ef, q, n, r⟩ := h
    subst ef
    exact ⟨a, vs, ev, rfl, (hh a List.mem_cons_self).trans q, hf a List.mem_cons_self, Reps.mono m r (fun _ z => nomatch z) fun _ z => nomatch z⟩
  | .lst .lk ds, v, fp, h, hh, hf => by
    simp only [Rep] at h ⊢
    obtain ⟨a, vs, ev, ef, q, n, r⟩ := h
    subst ef
    exact ⟨a, vs, ev, rfl, (hh a List.mem_cons_self).trans q, hf a List.mem_cons_self, Reps.mono m r (fun _ z => nomatch z) fun _ z => nomatch z⟩
  | .own ds, v, fp, h, hh, hf => by
    simp only [Rep] at h ⊢
    obtain ⟨a, vs, fp', ev, ef, q, n, r⟩ := h
    subst ef
    exact ⟨a, vs, fp', ev, rfl, (hh a List.mem_cons_self).trans q, hf a List.mem_cons_self, Reps.mono m r (fun b z => hh b (List.mem_cons_of_mem _ z)) fun b z => hf b (List.mem_cons_of_mem _ z)⟩
  | .ins .fz c fn fv, v, fp, h, _, _ => by
    simp only [Rep] at h ⊢
    obtain ⟨e, a, C, dx, fs, ev, q, s, n, r⟩ := h
    exact ⟨e, a, C, dx, fs, ev, q, m _ _ s, n, Reps.mono m r (fun _ z => nomatch z) fun _ z => nomatch z⟩
  | .ins .ow c fn fv, v, fp, h, hh, hf => by
    simp only [Rep] at h ⊢
    obtain ⟨a, C, dx, fs, fp', ev, ef, q, s, n, k, r⟩ := h
    subst ef
    exact ⟨a, C, dx, fs, fp', ev, rfl, q, (hh a List.mem_cons_self).trans s, hf a List.mem_cons_self, k, Reps.mono m r (fun b z => hh b (List.mem_cons_of_mem _ z)) fun b z => hf b (List.mem_cons_of_mem _ z)⟩
  | .ins .lk c fn fv, v, fp, h, _, _ => by simp only [Rep] at h
  | .dic _ _ _, v, fp, h, _, _ => by simpa only [Rep] using h
theorem Reps.mono (m : Sub F F') : ∀ {ds : List D} {vs : List V} {fp : List Addr}, Reps K CL F H ds vs fp → (∀ a ∈ fp, H' a = H a) → (∀ a ∈ fp, F' a = none) → Reps K CL F' H' ds vs fp
  | [], _, _, h, _, _ => by simpa only [Reps] using h
  | d :: ds, vs, fp, h, hh, hf => by
    simp only [Reps] at h ⊢
    obtain ⟨v, vr, f1, f2, ev, ef, r1, r2⟩ := h
    subst ef
    exact ⟨v, vr, f1, f2, ev, rfl, Rep.mono m r1 (fun a z => hh a (List.mem_append_left _ z)) (fun a z => hf a (List.mem_append_left _ z)), Reps.mono m r2 (fun a z => hh a (List.mem_append_right _ z)) fun a z => hf a (List.mem_append_right _ z)⟩
end
/-- what is owned is tracked, not frozen, and a list or an instance -/
def Obl : HO → Prop
  | .lst _ => True
  | .ins _ _ _ => True
  | _ => False
mutual
theorem Rep.fp : ∀ {d : D} {v : V} {fp : List Addr}, Rep K CL F H d v fp → ∀ a ∈ fp, F a = none ∧ ∃ o, H a = some o ∧ Obl o
  | .non, _, _, h, a, z => by simp only [Rep] at h; rw [h.2] at z; cases z
  | .bl _, _, _, h, a, z => by simp only [Rep] at h; rw [h.2] at z; cases z
  | .int _, _, _, h, a, z => by simp only [Rep] at h; rw [h.2] at z; cases z
  | .str _, _, _, h, a, z => by simp only [Rep] at h; rw [h.2] at z; cases z
  | .ty _, _, _, h, a, z => by simp only [Rep] at h; rw [h.2] at z; cases z
  | .tup ds, _, _, h, a, z => by simp only [Rep] at h; rw [h.1] at z; cases z
  | .lst .fz ds, _, _, h, a, z => by simp only [Rep] at h; rw [h.1] at z; cases z
  | .lst .ow ds, _, _, h, a, z => by
    simp only [Rep] at h
    obtain ⟨b, vs, ev, ef, q, n, r⟩ := h
    subst ef
    cases List.mem_singleton.mp z
    exact ⟨n, _, q, trivial⟩
  | .lst .lk ds, _, _, h, a, z => by
    simp only [Rep] at h
    obtain ⟨b, vs, ev, ef, q, n, r⟩ := h
    subst ef
    cases List.mem_singleton.mp z
    exact ⟨n, _, q, trivial⟩
  | .own ds, _, _, h, a, z => by
    simp only [Rep] at h
    obtain ⟨b, vs, fp', ev, ef, q, n, r⟩ := h
    subst ef
    rcases List.mem_cons.mp z with rfl | z
    · exact ⟨n, _, q, trivial⟩
    · exact Reps.fp r a z
  | .ins .fz _ _ _, _, _, h, a, z => by simp only [Rep] at h; rw [h.1] at z; cases z
  | .ins .ow c fn fv, _, _, h, a, z => by
    simp only [Rep] at h
    obtain ⟨b, C, dx, fs, fp', ev, ef, q, s, n, k, r⟩ := h
    subst ef
    rcases List.mem_cons.mp z with rfl | z
    · exact ⟨n, _, s, trivial⟩
    · exact Reps.fp r a z
  | .ins .lk c fn fv, v, fp, h, _, _ => by simp only [Rep] at h
  | .dic _ _ _, v, fp, h, a, z => by simp only [Rep] at h; rw [h.1] at z; cases z
theorem Reps.fp : ∀ {ds : List D} {vs : List V} {fp : List Addr}, Reps K CL F H ds vs fp → ∀ a ∈ fp, F a = none ∧ ∃ o, H a = some o ∧ Obl o
  | [], _, _, h, a, z => by simp only [Reps] at h; rw [h.2] at z; cases z
  | d :: ds, vs, fp, h, a, z => by
    simp only [Reps] at h
    obtain ⟨v, vr, f1, f2, ev, ef, r1, r2⟩ := h
    subst ef
    rcases List.mem_append.mp z with z | z
    · exact Rep.fp r1 a z
    · exact Reps.fp r2 a z
end
/-- what is frozen needs no heap -/
theorem Rep.fz_nil {d : D} {v : V} {fp : List Addr} (h : Rep K CL F H d v fp) (z : isFz d = true) : fp = [] := by
  cases d with
  | non => simp only [Rep] at h; exact h.2
  | bl b => simp only [Rep] at h; exact h.2
  | int b => simp only [Rep] at h; exact h.2
  | str b => simp only [Rep] at h; exact h.2
  | ty b => simp only [Rep] at h; exact h.2
  | tup ds => simp only [Rep] at h; exact h.1
  | lst o ds =>
    cases o with
    | fz => simp only [Rep] at h; exact h.1
    | ow => simp [isFz] at z
    | lk => simp [isFz] at z
  | own ds => simp [isFz] at z
  | ins o c fn fv =>
    cases o with
    | fz => simp only [Rep] at h; exact h.1
    | ow => simp [isFz] at z
    | lk => simp [isFz] at z
  | dic o a b => simp only [Rep] at h; exact h.1
/-- without a footprint: in any heap, over a larger frozen part -/
theorem Rep.any (m : Sub F F') {d : D} {v : V} (h : Rep K CL F H d v []) : Rep K CL F' H' d v [] := h.mono m (fun _ z => nomatch z) fun _ z => nomatch z
theorem Reps.any (m : Sub F F') {d : List D} {v : List V} (h : Reps K CL F H d v []) : Reps K CL F' H' d v [] := h.mono m (fun _ z => nomatch z) fun _ z => nomatch z
-- frozen: what it owned is now of the frozen part
mutual
theorem Rep.frz (m : Sub F F') : ∀ {d : D} {v : V} {fp : List Addr}, Rep K CL F H d v fp → (∀ a ∈ fp, F' a = H a) → Rep K CL F' H' (frz d) v []
  | .non, _, _, h, _ => by simp only [Rep, Cov.frz] at h ⊢; exact ⟨h.1, trivial⟩
  | .bl _, _, _, h, _ => by simp only [Rep, Cov.frz] at h ⊢; exact ⟨h.1, trivial⟩
  | .int _, _, _, h, _ => by simp only [Rep, Cov.frz] at h ⊢; exact ⟨h.1, trivial⟩
  | .str _, _, _, h, _ => by simp only [Rep, Cov.frz] at h ⊢; exact ⟨h.1, trivial⟩
  | .ty _, _, _, h, _ => by simp only [Rep, Cov.frz] at h ⊢; exact ⟨h.1, trivial⟩
  | .tup ds, v, fp, h, _ => by
    have e : fp = [] := by simp only [Rep] at h; exact h.1
    subst e
    exact Rep.any m h
  | .lst .fz ds, v, fp, h, _ => by
    have e : fp = [] := by simp only [Rep] at h; exact h.1
    subst e
    exact Rep.any m h
  | .lst .ow ds, v, fp, h, hh => by
    simp only [Rep, Cov.frz] at h ⊢
    obtain ⟨a, vs, ev, ef, q, n, r⟩ := h
    subst ef
    exact ⟨trivial, a, vs, ev, .of ((hh a List.mem_cons_self).trans q), r.any m⟩
  | .lst .lk ds, v, fp, h, hh => by
    simp only [Rep, Cov.frz] at h ⊢
    obtain ⟨a, vs, ev, ef, q, n, r⟩ := h
    subst ef
    exact ⟨trivial, a, vs, ev, .of ((hh a List.mem_cons_self).trans q), r.any m⟩
  | .own ds, v, fp, h, hh => by
    simp only [Rep, Cov.frz] at h ⊢
    obtain ⟨a, vs, fp', ev, ef, q, n, r⟩ := h
    subst ef
    exact ⟨trivial, a, vs, ev, .of ((hh a List.mem_cons_self).trans q), Reps.frz m r fun b z => hh b (List.mem_cons_of_mem _ z)⟩
  | .ins .fz c fn fv, v, fp, h, _ => by
    simp only [Rep, Cov.frz] at h ⊢
    obtain ⟨e, a, C, dx, fs, ev, q, s, n, r⟩ := h
    exact ⟨trivial, a, C, dx, fs, ev, q, m _ _ s, n, Reps.frz m r fun _ z => nomatch z⟩
  | .ins .ow c fn fv, v, fp, h, hh => by
    simp only [Rep, Cov.frz] at h ⊢
    obtain ⟨a, C, dx, fs, fp', ev, ef, q, s, n, k, r⟩ := h
    subst ef
    exact ⟨trivial, a, C, dx, fs, ev, q, (hh a List.mem_cons_self).trans s, k, Reps.frz m r fun b z => hh b (List.mem_cons_of_mem _ z)⟩
  | .ins .lk c fn fv, v, fp, h, _ => by simp only [Rep] at h
  | .dic _ _ _, v, fp, h, _ => by simp only [Rep, Cov.frz] at h ⊢; exact ⟨trivial, h.2⟩
theorem Reps.frz (m : Sub F F') : ∀ {ds : List D} {vs : List V} {fp : List Addr}, Reps K CL F H ds vs fp → (∀ a ∈ fp, F' a = H a) → Reps K CL F' H' (frzL ds) vs []
  | [], _, _, h, _ => by simp only [Reps, frzL] at h ⊢; exact ⟨h.1, trivial⟩
  | d :: ds, vs, fp, h, hh => by
    simp only [Reps, frzL] at h ⊢
    obtain ⟨v, vr, f1, f2, ev, ef, r1, r2⟩ := h
    subst ef
    exact ⟨v, vr, [], [], ev, rfl, Rep.frz m r1 fun a z => hh a (List.mem_append_left _ z), Reps.frz m r2 fun a z => hh a (List.mem_append_right _ z)⟩
end
-- flat: the frozen lists and instances may be taken out of the frozen part
mutual
theorem Rep.flat (t : ∀ a xs, Rd F a (.tup xs) → Rd F' a (.tup xs)) (hn : ∀ a, F a = none → F' a = none) : ∀ {d : D} {v : V} {fp : List Addr}, Rep K CL F H d v fp → flat d = true → Rep K CL F' H d v fp
  | .non, _, _, h, _ => by simpa only [Rep] using h
  | .bl _, _, _, h, _ => by simpa only [Rep] using h
  | .int _, _, _, h, _ => by simpa only [Rep] using h
  | .str _, _, _, h, _ => by simpa only [Rep] using h
  | .ty _, _, _, h, _ => by simpa only [Rep] using h
  | .tup ds, v, fp, h, z => by
    simp only [Rep] at h ⊢
    obtain ⟨e, a, vs, ev, q, r⟩ := h
    exact ⟨e, a, vs, ev, q.imp (t _ _) id, Reps.flat t hn r (by simpa [Cov.flat] using z)⟩
  | .lst .fz ds, v, fp, h, z => by simp [Cov.flat] at z
  | .lst .ow ds, v, fp, h, z => by
    simp only [Rep] at h ⊢
    obtain ⟨a, vs, ev, ef, q, n, r⟩ := h
    exact ⟨a, vs, ev, ef, q, hn _ n, Reps.flat t hn r (by simpa [Cov.flat] using z)⟩
  | .lst .lk ds, v, fp, h, z => by
    simp only [Rep] at h ⊢
    obtain ⟨a, vs, ev, ef, q, n, r⟩ := h
    exact ⟨a, vs, ev, ef, q, hn _ n, Reps.flat t hn r (by simpa [Cov.flat] using z)⟩
  | .own ds, v, fp, h, z => by
    simp only [Rep] at h ⊢
    obtain ⟨a, vs, fp', ev, ef, q, n, r⟩ := h
    exact ⟨a, vs, fp', ev, ef, q, hn _ n, Reps.flat t hn r (by simpa [Cov.flat] using z)⟩
  | .ins .fz c fn fv, v, fp, h, z => by simp [Cov.flat] at z
  | .ins .ow c fn fv, v, fp, h, z => by
    simp only [Rep] at h ⊢
    obtain ⟨a, C, dx, fs, fp', ev, ef, q, s, n, k, r⟩ := h
    exact ⟨a, C, dx, fs, fp', ev, ef, q, s, hn _ n, k, Reps.flat t hn r (by simpa [Cov.flat] using z)⟩
  | .ins .lk c fn fv, v, fp, h, _ => by simp only [Rep] at h
  | .dic _ _ _, v, fp, h, _ => by simpa only [Rep] using h
theorem Reps.flat (t : ∀ a xs, Rd F a (.tup xs) → Rd F' a (.tup xs)) (hn : ∀ a, F a = none → F' a = none) : ∀ {ds : List D} {vs : List V} {fp : List Addr}, Reps K CL F H ds vs fp → flatL ds = true → Reps K CL F' H ds vs fp
  | [], _, _, h, _ => by simpa only [Reps] using h
  | d :: ds, vs, fp, h, z => by
    simp only [Reps] at h ⊢
    simp only [flatL, Bool.and_eq_true] at z
    obtain ⟨v, vr, f1, f2, ev, ef, r1, r2⟩ := h
    exact ⟨v, vr, f1, f2, ev, ef, Rep.flat t hn r1 z.1, Reps.flat t hn r2 z.2⟩
end
mutual
/-- .. where no exception, or another one, is held -/
theorem Rep.re {CL' : CLT} (e : CL'.cl = CL.cl) : ∀ {d : D} {v : V} {fp : List Addr}, Rep K CL F H d v fp → (CL.ex = none ∨ noDic d = true) → Rep K CL' F H d v fp
  | .non, _, _, h, _ => by simpa only [Rep] using h
  | .bl _, _, _, h, _ => by simpa only [Rep] using h
  | .int _, _, _, h, _ => by simpa only [Rep] using h
  | .str _, _, _, h, _ => by simpa only [Rep] using h
  | .ty _, _, _, h, _ => by simpa only [Rep] using h
  | .tup ds, v, fp, h, z => by
    simp only [Rep] at h ⊢
    obtain ⟨e1, a, vs, ev, q, r⟩ := h
    exact ⟨e1, a, vs, ev, q, Reps.re e r (by simpa only [noDic] using z)⟩
  | .lst .fz ds, v, fp, h, z => by
    simp only [Rep] at h ⊢
    obtain ⟨e1, a, vs, ev, q, r⟩ := h
    exact ⟨e1, a, vs, ev, q, Reps.re e r (by simpa only [noDic] using z)⟩
  | .lst .ow ds, v, fp, h, z => by
    simp only [Rep] at h ⊢
    obtain ⟨a, vs, ev, ef, q, n, r⟩ := h
    exact ⟨a, vs, ev, ef, q, n, Reps.re e r (by simpa only [noDic] using z)⟩
  | .lst .lk ds, v, fp, h, z => by
    simp only [Rep] at h ⊢
    obtain ⟨a, vs, ev, ef, q, n, r⟩ := h
    exact ⟨a, vs, ev, ef, q, n, Reps.re e r (by simpa only [noDic] using z)⟩
  | .own ds, v, fp, h, z => by
    simp only [Rep] at h ⊢
    obtain ⟨a, vs, fp', ev, ef, q, n, r⟩ := h
    exact ⟨a, vs, fp', ev, ef, q, n, Reps.re e r (by simpa only [noDic] using z)⟩
  | .ins .fz c fn fv, v, fp, h, z => by
    simp only [Rep, ClsOk, e] at h ⊢
    obtain ⟨e1, a, C, dx, fs, ev, q, s, n, r⟩ := h
    exact ⟨e1, a, C, dx, fs, ev, q, s, n, Reps.re e r (by simpa only [noDic] using z)⟩
  | .ins .ow c fn fv, v, fp, h, z => by
    simp only [Rep, ClsOk, e] at h ⊢
    obtain ⟨a, C, dx, fs, fp', ev, ef, q, s, n, k, r⟩ := h
    exact ⟨a, C, dx, fs, fp', ev, ef, q, s, n, k, Reps.re e r (by simpa only [noDic] using z)⟩
  | .ins .lk c fn fv, v, fp, h, _ => by simp only [Rep] at h
  | .dic _ _ _, v, fp, h, z => by
    simp only [Rep] at h
    obtain ⟨_, a, d, f, k, q, _⟩ := h
    rcases z with z | z
    · rw [z] at q; cases q
    · simp [noDic] at z
theorem Reps.re {CL' : CLT} (e : CL'.cl = CL.cl) : ∀ {ds : List D} {vs : List V} {fp : List Addr}, Reps K CL F H ds vs fp → (CL.ex = none ∨ noDicL ds = true) → Reps K CL' F H ds vs fp
  | [], _, _, h, _ => by simpa only [Reps] using h
  | d :: ds, vs, fp, h, z => by
    simp only [Reps] at h ⊢
    obtain ⟨v, vr, f1, f2, ev, ef, r1, r2⟩ := h
    simp only [noDicL, Bool.and_eq_true] at z
    exact ⟨v, vr, f1, f2, ev, ef, Rep.re e r1 (z.imp id And.left), Reps.re e r2 (z.imp id And.right)⟩
end
theorem Reps.length : ∀ {ds : List D} {vs : List V} {fp : List Addr}, Reps K CL F H ds vs fp → vs.length = ds.length
  | [], _, _, h => by simp only [Reps] at h; rw [h.1]; rfl
  | d :: ds, vs, fp, h => by
    simp only [Reps] at h
    obtain ⟨v, vr, f1, f2, ev, ef, r1, r2⟩ := h
    rw [ev, List.length_cons, List.length_cons, Reps.length r2]
theorem Reps.get : ∀ {ds : List D} {vs : List V} {i : Nat} {d : D}, Reps K CL F H ds vs [] → ds[i]? = some d → ∃ v, vs[i]? = some v ∧ Rep K CL F H d v []
  | [], _, _, _, _, e => by simp at e
  | d :: ds, vs, 0, d', h, e => by
    simp only [Reps] at h
    obtain ⟨v, vr, f1, f2, ev, ef, r1, r2⟩ := h
    obtain ⟨rfl, rfl⟩ := app_nil2 ef
    cases (show d = d' from by simpa using e)
    exact ⟨v, by rw [ev]; rfl, r1⟩
  | d :: ds, vs, i + 1, d', h, e => by
    simp only [Reps] at h
    obtain ⟨v, vr, f1, f2, ev, ef, r1, r2⟩ := h
    obtain ⟨rfl, rfl⟩ := app_nil2 ef
    obtain ⟨w, e1, e2⟩ := Reps.get (i := i) r2 (by simpa using e)
    exact ⟨w, by rw [ev]; simpa using e1, e2⟩
theorem Reps.getV : ∀ {ds : List D} {vs : List V} {i : Nat} {v : V}, Reps K CL F H ds vs [] → vs[i]? = some v → ∃ d, ds[i]? = some d ∧ Rep K CL F H d v [] := fun {ds vs i v} h e => by
  have hl : i < ds.length := by rw [← h.length]; exact (List.getElem?_eq_some_iff.mp e).1
  obtain ⟨w, e1, r⟩ := h.get (List.getElem?_eq_getElem hl)
  rw [e] at e1
  cases e1
  exact ⟨_, List.getElem?_eq_getElem hl, r⟩
theorem Reps.app : ∀ {ds es : List D} {vs ws : List V} {f g : List Addr}, Reps K CL F H ds vs f → Reps K CL F H es ws g → Reps K CL F H (ds ++ es) (vs ++ ws) (f ++ g)
  | [], _, _, _, _, _, h, k => by
    simp only [Reps] at h
    rw [h.1, h.2]
    exact k
  | d :: ds, es, vs, ws, f, g, h, k => by
    simp only [Reps] at h
    obtain ⟨v, vr, f1, f2, ev, ef, r1, r2⟩ := h
    subst ev ef
    show Reps K CL F H (d :: (ds ++ es)) (v :: (vr ++ ws)) ((f1 ++ f2) ++ g)
    simp only [Reps]
    exact ⟨v, vr ++ ws, f1, f2 ++ g, rfl, List.append_assoc _ _ _, r1, Reps.app r2 k⟩
theorem Reps.one {d : D} {v : V} {f : List Addr} (h : Rep K CL F H d v f) : Reps K CL F H [d] [v] f := by
  simp only [Reps]
  exact ⟨v, [], f, [], rfl, (List.append_nil f).symm, h, rfl, rfl⟩
theorem Reps.nil : Reps K CL F H [] [] [] := by simp only [Reps]; exact ⟨trivial, trivial⟩
theorem Reps.set : ∀ {ds : List D} {vs : List V} {i : Nat} {d : D} {v : V}, Reps K CL F H ds vs [] → Rep K CL F H d v [] → Reps K CL F H (ds.set i d) (vs.set i v) []
  | [], _, _, _, _, h, _ => by
    simp only [Reps] at h
    rw [h.1]
    exact Reps.nil
  | e :: ds, vs, 0, d, v, h, r => by
    simp only [Reps] at h
    obtain ⟨w, vr, f1, f2, ev, ef, r1, r2⟩ := h
    obtain ⟨rfl, rfl⟩ := app_nil2 ef
    subst ev
    show Reps K CL F H (d :: ds) (v :: vr) []
    simp only [Reps]
    exact ⟨v, vr, [], [], rfl, rfl, r, r2⟩
  | e :: ds, vs, i + 1, d, v, h, r => by
    simp only [Reps] at h
    obtain ⟨w, vr, f1, f2, ev, ef, r1, r2⟩ := h
    obtain ⟨rfl, rfl⟩ := app_nil2 ef
    subst ev
    show Reps K CL F H (e :: ds.set i d) (w :: vr.set i v) []
    simp only [Reps]
    exact ⟨w, vr.set i v, [], [], rfl, rfl, r1, Reps.set r2 r⟩
theorem Reps.ext : ∀ {ds : List D} {vs : List V}, vs.length = ds.length → (∀ (i : Nat) (d : D), ds[i]? = some d → ∃ v, vs[i]? = some v ∧ Rep K CL F H d v []) → Reps K CL F H ds vs []
  | [], vs, e, _ => by
    have : vs = [] := List.length_eq_zero_iff.mp e
    rw [this]
    exact Reps.nil
  | d :: ds, [], e, _ => by simp at e
  | d :: ds, v :: vs, e, h => by
    obtain ⟨w, e1, r⟩ := h 0 d rfl
    cases (show v = w by simpa using e1)
    simp only [Reps]
    refine ⟨v, vs, [], [], rfl, rfl, r, Reps.ext (by simpa using e) fun i d' ed => ?_⟩
    obtain ⟨w, e2, r2⟩ := h (i + 1) d' (by simpa using ed)
    exact ⟨w, by simpa using e2, r2⟩
theorem Reps.take {ds : List D} {vs : List V} (n : Nat) (r : Reps K CL F H ds vs []) : Reps K CL F H (ds.take n) (vs.take n) [] :=
  Reps.ext (by rw [List.length_take, List.length_take, r.length]) fun i d e => by
    rw [List.getElem?_take] at e ⊢
    split at e
    · rename_i hi
      rw [if_pos hi]
      exact r.get e
    · cases e
theorem Reps.drop {ds : List D} {vs : List V} (n : Nat) (r : Reps K CL F H ds vs []) : Reps K CL F H (ds.drop n) (vs.drop n) [] :=
  Reps.ext (by rw [List.length_drop, List.length_drop, r.length]) fun i d e => by
    rw [List.getElem?_drop] at e ⊢
    exact r.get e
theorem Reps.dropLast {ds : List D} {vs : List V} (r : Reps K CL F H ds vs []) : Reps K CL F H ds.dropLast vs.dropLast [] := by
  rw [List.dropLast_eq_take, List.dropLast_eq_take, r.length]
  exact r.take _
theorem Reps.reverse {ds : List D} {vs : List V} (r : Reps K CL F H ds vs []) : Reps K CL F H ds.reverse vs.reverse [] :=
  Reps.ext (by rw [List.length_reverse, List.length_reverse, r.length]) fun i d e => by
    have hi : i < ds.length := by
      have := (List.getElem?_eq_some_iff.mp e).1
      simpa using this
    rw [List.getElem?_reverse hi] at e
    rw [List.getElem?_reverse (by rw [r.length]; exact hi), r.length]
    exact r.get e
end
end Cov

/-! Cov4: the slots against the data; steps; what a result stands for. -/
namespace Cov
open PySem L2

abbrev Ft := Nat → List Addr
def upF (ft : Ft) (i : Nat) (l : List Addr) : Ft := fun j => if j = i then l else ft j
theorem upF_same {ft : Ft} {i : Nat} {l : List Addr} : upF ft i l i = l := by unfold upF; rw [if_pos rfl]
theorem upF_ne {ft : Ft} {i j : Nat} {l : List Addr} (h : j ≠ i) : upF ft i l j = ft j := by unfold upF; rw [if_neg h]

theorem gt_set {ρ : Env} {i j : Nat} {o : Option D} : gt (ρ.set i o) j = if j = i then (if i < ρ.length then o else none) else gt ρ j := by
  unfold gt
  rw [List.getElem?_set]
  by_cases h : i = j
  · subst h
    rw [if_pos rfl, if_pos rfl]
    by_cases hl : i < ρ.length
    · rw [if_pos hl, if_pos hl]
      cases o <;> rfl
    · rw [if_neg hl, if_neg hl]
  · rw [if_neg h, if_neg (fun z => h z.symm)]
theorem gt_lt {ρ : Env} {i : Nat} {d : D} (h : gt ρ i = some d) : i < ρ.length := by
  unfold gt at h
  split at h
  · rename_i e
    exact (List.getElem?_eq_some_iff.mp e).1
  · cases h

structure Rel (K : PySem.W.Frag) (CL : CLT) (F H : Hp) (σ : L2.St) (ρ : Env) (ft : Ft) : Prop where
  sub : Sub F H
  len : σ.length = ρ.length
  rep : ∀ i d, gt ρ i = some d → ∃ v, σ[i]? = some (some v) ∧ Rep K CL F H d v (ft i)
  emp : ∀ i, gt ρ i = none → ft i = []
  nd : ∀ i, (ft i).Nodup
  dis : ∀ i j a, a ∈ ft i → a ∈ ft j → i = j
  exc : ∀ a d f k, CL.ex = some (a, d, f, k) → F d = some (.xd [(f, .int k)])
structure Stp (F H : Hp) (ft : Ft) (F' H' : Hp) (ft' : Ft) : Prop where
  fr : ∀ a o, H a = some o → (∀ i, a ∉ ft i) → H' a = some o
  dom : ∀ a, H' a = none → H a = none
  own : ∀ i a, a ∈ ft' i → (∃ j, a ∈ ft j) ∨ H a = none
  fro : ∀ a o, F' a = some o → F a = some o ∨ (∃ j, a ∈ ft j) ∨ H a = none
  mono : Sub F F'
/-- nothing that stood is changed -/
structure Pst (F H F' H' : Hp) : Prop where
  hh : Sub H H'
  ff : Sub F F'
  sub : Sub F' H'
  fro : ∀ a o, F' a = some o → F a = some o ∨ H a = none

def PathV (H : Hp) : V → List Sel → V → Prop
  | v, [], w => w = v
  | v, .fld f :: p, w => ∃ a C dx fs u, v = .ref a ∧ H a = some (.ins C dx fs) ∧ fs.lookup f = some u ∧ PathV H u p w
  | v, .idx i :: p, w => ∃ a vs u, v = .ref a ∧ H a = some (.lst vs) ∧ vs[i]? = some u ∧ PathV H u p w
theorem PathV.mono {H H' : Hp} (h : Sub H H') : ∀ {p : List Sel} {v w : V}, PathV H v p w → PathV H' v p w
  | [], _, _, q => q
  | .fld f :: p, _, _, ⟨a, C, dx, fs, u, e1, e2, e3, q⟩ => ⟨a, C, dx, fs, u, e1, h _ _ e2, e3, PathV.mono h q⟩
  | .idx i :: p, _, _, ⟨a, vs, u, e1, e2, e3, q⟩ => ⟨a, vs, u, e1, h _ _ e2, e3, PathV.mono h q⟩
theorem PathV.app {H : Hp} : ∀ {p q : List Sel} {v w z : V}, PathV H v p w → PathV H w q z → PathV H v (p ++ q) z
  | [], _, _, _, _, e, h => by cases e; exact h
  | .fld f :: p, _, _, _, _, ⟨a, C, dx, fs, u, e1, e2, e3, q⟩, h => ⟨a, C, dx, fs, u, e1, e2, e3, PathV.app q h⟩
  | .idx i :: p, _, _, _, _, ⟨a, vs, u, e1, e2, e3, q⟩, h => ⟨a, vs, u, e1, e2, e3, PathV.app q h⟩

/-- what a result stands for: r at v, with the footprint fp -/
def ResOk (K : PySem.W.Frag) (CL : CLT) (F H : Hp) (σ : L2.St) (ft : Ft) : Res → V → List Addr → Prop
  | .val d, v, fp => Rep K CL F H d v fp ∧ fp.Nodup ∧ ∀ a ∈ fp, ∀ i, a ∉ ft i
  | .at i p, v, fp => fp = [] ∧ ∃ v0, σ[i]? = some (some v0) ∧ PathV H v0 p v
abbrev New (H : Hp) (ft : Ft) (fp : List Addr) : Prop := ∀ a ∈ fp, (∃ j, a ∈ ft j) ∨ H a = none

section
variable {K : PySem.W.Frag} {CL : CLT} {F F' F1 F2 H H' H1 H2 : Hp} {σ : L2.St} {ρ ρ' ρ1 ρ2 : Env} {ft ft' ft1 ft2 : Ft}

theorem Sub.refl : Sub H H := fun _ _ h => h
theorem Sub.trans (a : Sub H H1) (b : Sub H1 H2) : Sub H H2 := fun x o h => b x o (a x o h)
theorem Sub.none (m : Sub H H') {a : Addr} (h : H' a = none) : H a = none := by
  cases q : H a with
  | none => rfl
  | some o => rw [m _ _ q] at h; cases h
theorem Stp.refl : Stp F H ft F H ft := ⟨fun _ _ h _ => h, fun _ h => h, fun i a h => .inl ⟨i, h⟩, fun _ _ h => .inl h, .refl⟩
theorem Rel.off (R : Rel K CL F H σ ρ ft) {a : Addr} {i : Nat} (h : a ∈ ft i) : F a = none ∧ ∃ o, H a = some o ∧ Obl o := by
  cases e : gt ρ i with
  | none => rw [R.emp i e] at h; cases h
  | some d =>
    obtain ⟨v, _, r⟩ := R.rep i d e
    exact r.fp a h
theorem Rel.off_ne (R : Rel K CL F H σ ρ ft) {a : Addr} {o : HO} (h : F a = some o) (i : Nat) : a ∉ ft i := fun z => by
  rw [(R.off z).1] at h; cases h
theorem Stp.trans (R1 : Rel K CL F1 H1 σ ρ1 ft1) (a : Stp F H ft F1 H1 ft1) (b : Stp F1 H1 ft1 F2 H2 ft2) : Stp F H ft F2 H2 ft2 where
  fr := fun x o h n => b.fr x o (a.fr x o h n) fun i z => by
    rcases a.own i x z with ⟨j, q⟩ | q
    · exact n j q
    · rw [h] at q; cases q
  dom := fun x h => a.dom x (b.dom x h)
  own := fun i x h => by
    rcases b.own i x h with ⟨j, q⟩ | q
    · exact a.own j x q
    · exact .inr (a.dom x q)
  fro := fun x o h => by
    rcases b.fro x o h with q | ⟨j, q⟩ | q
    · exact a.fro x o q
    · exact .inr (a.own j x q)
    · exact .inr (.inr (a.dom x q))
  mono := a.mono.trans b.mono
theorem New.stp {fp : List Addr} (a : Stp F H ft F1 H1 ft1) (n : New H1 ft1 fp) : New H ft fp := fun x h => by
  rcases n x h with ⟨j, q⟩ | q
  · exact a.own j x q
  · exact .inr (a.dom x q)
theorem Pst.refl (s : Sub F H) : Pst F H F H := ⟨.refl, .refl, s, fun _ _ h => .inl h⟩
theorem Pst.trans (a : Pst F H F1 H1) (b : Pst F1 H1 F2 H2) : Pst F H F2 H2 := ⟨a.hh.trans b.hh, a.ff.trans b.ff, b.sub, fun x o h => by
  rcases b.fro x o h with q | q
  · exact a.fro x o q
  · exact .inr (a.hh.none q)⟩
theorem Pst.stp (p : Pst F H F' H') : Stp F H ft F' H' ft := ⟨fun a o h _ => p.hh a o h, fun a h => p.hh.none h, fun i a h => .inl ⟨i, h⟩, fun a o h => (p.fro a o h).imp id .inr, p.ff⟩
/-- a datum that is not among what the step changes -/
theorem Rep.stp {d : D} {v : V} {fp : List Addr} (r : Rep K CL F H d v fp) (s : Stp F H ft F' H' ft') (n : ∀ a ∈ fp, ∀ i, a ∉ ft i) : Rep K CL F' H' d v fp :=
  r.mono s.mono (fun a h => by
    obtain ⟨_, o, e, _⟩ := r.fp a h
    rw [e]; exact s.fr a o e (n a h)) fun a h => by
    obtain ⟨e0, o, e, _⟩ := r.fp a h
    cases q : F' a with
    | none => rfl
    | some u =>
      rcases s.fro a u q with z | ⟨j, z⟩ | z
      · rw [e0] at z; cases z
      · exact absurd z (n a h j)
      · rw [e] at z; cases z
theorem Reps.stp {d : List D} {v : List V} {fp : List Addr} (r : Reps K CL F H d v fp) (s : Stp F H ft F' H' ft') (n : ∀ a ∈ fp, ∀ i, a ∉ ft i) : Reps K CL F' H' d v fp :=
  r.mono s.mono (fun a h => by
    obtain ⟨_, o, e, _⟩ := r.fp a h
    rw [e]; exact s.fr a o e (n a h)) fun a h => by
    obtain ⟨e0, o, e, _⟩ := r.fp a h
    cases q : F' a with
    | none => rfl
    | some u =>
      rcases s.fro a u q with z | ⟨j, z⟩ | z
      · rw [e0] at z; cases z
      · exact absurd z (n a h j)
      · rw [e] at z; cases z
/-- .. under a step that changes nothing -/
theorem Rep.pst {d : D} {v : V} {fp : List Addr} (r : Rep K CL F H d v fp) (s : Pst F H F' H') : Rep K CL F' H' d v fp :=
  r.stp (ft := fun _ => []) (ft' := fun _ => []) s.stp fun _ _ _ z => nomatch z
theorem Reps.pst {d : List D} {v : List V} {fp : List Addr} (r : Reps K CL F H d v fp) (s : Pst F H F' H') : Reps K CL F' H' d v fp :=
  r.stp (ft := fun _ => []) (ft' := fun _ => []) s.stp fun _ _ _ z => nomatch z
theorem Rel.pst (R : Rel K CL F H σ ρ ft) (s : Pst F H F' H') : Rel K CL F' H' σ ρ ft where
  sub := s.sub
  len := R.len
  rep := fun i d e => let ⟨v, q, r⟩ := R.rep i d e; ⟨v, q, r.pst s⟩
  emp := R.emp
  nd := R.nd
  dis := R.dis
  exc := fun a d f k e => s.ff _ _ (R.exc a d f k e)
theorem ResOk.stp {r : Res} {v : V} {fp : List Addr} (h : ResOk K CL F H σ ft r v fp) (s : Stp F H ft F' H' ft') (k : deep r = true → Sub H H') : ResOk K CL F' H' σ ft' r v fp := by
  cases r with
  | val d =>
    obtain ⟨h1, h2, h3⟩ := h
    refine ⟨h1.stp s h3, h2, fun a ha i z => ?_⟩
    rcases s.own i a z with ⟨j, q⟩ | q
    · exact h3 a ha j q
    · obtain ⟨_, o, e, _⟩ := h1.fp a ha
      rw [e] at q; cases q
  | «at» i p =>
    obtain ⟨h1, v0, h2, h3⟩ := h
    refine ⟨h1, v0, h2, ?_⟩
    cases p with
    | nil => exact h3
    | cons x p => exact h3.mono (k rfl)
theorem lkp_rep : ∀ {fv : List D} {fs : List (Str × V)} {fp : List Addr} {f : Str} {d : D}, Reps K CL F H fv (fs.map (·.2)) fp → lkp f (fs.map (·.1)) fv = some d → ∃ v fp', fs.lookup f = some v ∧ Rep K CL F H d v fp' ∧ fp'.Sublist fp
  | [], [], _, _, _, _, e => by simp [lkp] at e
  | [], _ :: _, _, _, _, h, _ => by simp [Reps] at h
  | _ :: _, [], _, _, _, h, _ => by simp [Reps] at h
  | d0 :: fv, (g, u) :: fs, fp, f, d, h, e => by
    simp only [List.map_cons, Reps] at h
    obtain ⟨v, vr, f1, f2, ev, ef, r1, r2⟩ := h
    cases ev
    subst ef
    simp only [List.map_cons, lkp] at e
    by_cases hg : g = f
    · rw [if_pos hg] at e
      cases e
      exact ⟨u, f1, by simp [List.lookup, hg], r1, List.sublist_append_left _ _⟩
    · rw [if_neg hg] at e
      obtain ⟨v, fp', q1, q2, q3⟩ := lkp_rep r2 e
      have : (f == g) = false := by simpa using fun z => hg z.symm
      exact ⟨v, fp', by simp [List.lookup, this, q1], q2, q3.trans (List.sublist_append_right _ _)⟩
theorem get_rep : ∀ {ds : List D} {vs : List V} {fp : List Addr} {i : Nat} {d : D}, Reps K CL F H ds vs fp → ds[i]? = some d → ∃ v fp', vs[i]? = some v ∧ Rep K CL F H d v fp' ∧ fp'.Sublist fp
  | [], _, _, _, _, _, e => by simp at e
  | d0 :: ds, vs, fp, 0, d, h, e => by
    simp only [Reps] at h
    obtain ⟨v, vr, f1, f2, ev, ef, r1, r2⟩ := h
    subst ev ef
    cases (show d0 = d by simpa using e)
    exact ⟨v, f1, rfl, r1, List.sublist_append_left _ _⟩
  | d0 :: ds, vs, fp, i + 1, d, h, e => by
    simp only [Reps] at h
    obtain ⟨v, vr, f1, f2, ev, ef, r1, r2⟩ := h
    subst ev ef
    obtain ⟨w, fp', q1, q2, q3⟩ := get_rep r2 (show ds[i]? = some d by simpa using e)
    exact ⟨w, fp', by simpa using q1, q2, q3.trans (List.sublist_append_right _ _)⟩
/-- the thing at the end of a way -/
theorem path_rep (sb : Sub F H) : ∀ {p : List Sel} {d0 d : D} {v0 v : V} {fp : List Addr}, Rep K CL F H d0 v0 fp → getP d0 p = some d → PathV H v0 p v → ∃ fp', Rep K CL F H d v fp' ∧ fp'.Sublist fp
  | [], d0, d, v0, v, fp, r, e, q => by
    cases (show d0 = d by simpa [getP] using e)
    cases q
    exact ⟨fp, r, .refl _⟩
  | .fld f :: p, d0, d, v0, v, fp, r, e, ⟨a, C, dx, fs, u, ev, ea, eu, q⟩ => by
    simp only [getP, Option.bind_eq_some_iff] at e
    obtain ⟨d1, e1, e2⟩ := e
    cases d0 with
    | ins o c fn fv =>
      have hl : lkp f fn fv = some d1 := by simpa [getS] using e1
      cases o with
      | fz =>
        simp only [Rep] at r
        obtain ⟨e0, b, C', dx', fs', eb, _, hb, hn, rs⟩ := r
        subst eb
        cases ev
        have hb' := sb _ _ hb
        rw [ea] at hb'
        cases hb'
        subst hn
        obtain ⟨w, fp', q1, q2, q3⟩ := lkp_rep rs hl
        rw [eu] at q1
        cases q1
        obtain ⟨fp2, q4, q5⟩ := path_rep sb q2 e2 q
        exact ⟨fp2, q4, by rw [e0]; exact q5.trans q3⟩
      | ow =>
        simp only [Rep] at r
        obtain ⟨b, C', dx', fs', fpr, eb, ef, _, hb, _, hn, rs⟩ := r
        subst eb
        cases ev
        rw [ea] at hb
        cases hb
        subst hn
        obtain ⟨w, fp', q1, q2, q3⟩ := lkp_rep rs hl
        rw [eu] at q1
        cases q1
        obtain ⟨fp2, q4, q5⟩ := path_rep sb q2 e2 q
        exact ⟨fp2, q4, by rw [ef]; exact (q5.trans q3).trans (List.sublist_cons_self _ _)⟩
      | lk => simp only [Rep] at r
    | _ => simp [getS] at e1
  | .idx i :: p, d0, d, v0, v, fp, r, e, ⟨a, vs, u, ev, ea, eu, q⟩ => by
    simp only [getP, Option.bind_eq_some_iff] at e
    obtain ⟨d1, e1, e2⟩ := e
    cases d0 with
    | own ds =>
      have hl : ds[i]? = some d1 := by simpa [getS] using e1
      simp only [Rep] at r
      obtain ⟨b, vs', fpr, eb, ef, hb, _, rs⟩ := r
      subst eb
      cases ev
      rw [ea] at hb
      cases hb
      obtain ⟨w, fp', q1, q2, q3⟩ := get_rep rs hl
      rw [eu] at q1
      cases q1
      obtain ⟨fp2, q4, q5⟩ := path_rep sb q2 e2 q
      exact ⟨fp2, q4, by rw [ef]; exact (q5.trans q3).trans (List.sublist_cons_self _ _)⟩
    | _ => simp [getS] at e1
/-- a result as it stands: its datum -/
theorem ResOk.rd (R : Rel K CL F H σ ρ ft) {r : Res} {v : V} {fp : List Addr} (h : ResOk K CL F H σ ft r v fp) {d : D} (e : rd r ρ = some d) : ∃ fp', Rep K CL F H d v fp' := by
  cases r with
  | val d0 =>
    cases (show d0 = d by simpa [Cov.rd] using e)
    exact ⟨fp, h.1⟩
  | «at» i p =>
    obtain ⟨_, v0, h2, h3⟩ := h
    simp only [Cov.rd, gtP, Option.bind_eq_some_iff] at e
    obtain ⟨d0, e1, e2⟩ := e
    obtain ⟨w, q1, q2⟩ := R.rep i d0 e1
    rw [h2] at q1
    cases q1
    obtain ⟨fp', q3, _⟩ := path_rep R.sub q2 e2 h3
    exact ⟨fp', q3⟩
end
end Cov

/-! OpRep: a list or a tuple, repeated. -/
namespace Cov
open PySem PySem.Spec PyProof.Rows L2
theorem tuple_mul1 (l : Addr) (items : Array Value) (n : Nat) (dd : Option Addr) (sl : Array (Option Value)) (u : Tok) :
    Meets (Builtin.«tuple.__mul__» ⟨[.ref l, .int 1 u], []⟩) (fun _ R s => s.heap.get? l = some { cls := .type "tuple", dict := dd, data := .seq items n, slots := sl } ∧ R (.ok (.ret (Value.ref l))) s) :=
  .of_wp fun prog w A R s h => by
    obtain ⟨hp, g, d, tk, os⟩ := s
    obtain ⟨hl, h⟩ := h
    have f1 := AutoSeq1.idx_int
    have c1 : (items.isEmpty || (1 : Int) == 1) = true := by rw [show ((1 : Int) == 1) = true from rfl, Bool.or_true]
    wp_walk using wpAny_loadPart' hl
    repeat (first
      | (refine wpAny_ite_false (by decide) ?_; wp_walk using wpAny_loadPart' hl)
      | (refine wpAny_ite_true (decide_eq_true c1) ?_; wp_walk using wpAny_loadPart' hl))
    exact ⟨_, rfl, h⟩
def rRep1 (K : PySem.W.Frag) : L2.R2 := fun x y H Q => ∃ l xs, x = .ref l ∧ y = .int 1 ∧ SqT K H l xs ∧ Q (.ref l) H
theorem op_rep1 {X : Cx} : OpR X (binaryOp .Mult) (rRep1 X.K) := by
  intro pins s σ H x y v u Q I rx ry h
  obtain ⟨l, xs, rfl, rfl, hT, q⟩ := h
  cases rx
  obtain ⟨t, rfl⟩ := ry
  obtain ⟨its, r, ⟨⟨cls, dd, data, sl⟩, ho, hc, n, hd⟩, hs⟩ := I.tuple hT
  simp only at hc hd
  subst hc hd
  exact wpAny_binaryOp_repeat_ref (T := "tuple") (U := "int") (by decide) ⟨_, ho, rfl⟩ (fun s' => typeIs_int s' 1 t) noFill_tuple_mul F.fills_int_mul F.slot_int_rmul repeat_tuple F.slot_int_index.lookup
    (call_meets F.slot_int_rmul (typeIs_int s 1 t) F.entry_int_rmul (F.args_int_rmul_2 _ _) (int_rmul_tuple 1 t l its.toArray n dd sl)
      ⟨ho, rfl, ⟨_, ho, rfl⟩, call_meets F.slot_tuple_mul ⟨_, ho, rfl⟩ F.entry_tuple_mul (F.args_tuple_mul_2 _ _) (tuple_mul1 l its.toArray n dd sl t) ⟨ho, .ref l, H, I.tok s.toks, rfl, q⟩⟩)
def rMul4 (K : PySem.W.Frag) : L2.R2 := fun x y H Q => (∃ i j, x = .int i ∧ y = .int j ∧ CMulW i j ∧ Q (.int (i * j)) H) ∨ (rRep x y H Q ∨ (rRepT K x y H Q ∨ rRep1 K x y H Q))
theorem op_mul4 {X : Cx} : OpR X (binaryOp .Mult) (rMul4 X.K) := OpR.or op_mulW (OpR.or op_rep (OpR.or op_repT op_rep1))
end Cov

/-! Cov5: the operations by values: what a rule of the layer asks follows from the datum. -/
namespace Cov
open PySem L2

/-- one datum in, a new one out -/
def OV1 (K : PySem.W.Frag) (CL : CLT) (f : D → Option D) : V → Hp → VK → Prop := fun x H Q => ∃ F d fp e, Sub F H ∧ Rep K CL F H d x fp ∧ f d = some e ∧
  ∀ v H' F' fp', Pst F H F' H' → Rep K CL F' H' e v fp' → fp'.Nodup → (∀ a ∈ fp', H a = none) → Q v H'
def OV2 (K : PySem.W.Frag) (CL : CLT) (f : D → D → Option D) : V → V → Hp → VK → Prop := fun x y H Q => ∃ F d d' fp fp' e, Sub F H ∧ Rep K CL F H d x fp ∧ Rep K CL F H d' y fp' ∧ f d d' = some e ∧
  ∀ v H' F' fp', Pst F H F' H' → Rep K CL F' H' e v fp' → fp'.Nodup → (∀ a ∈ fp', H a = none) → Q v H'

section
variable {K : PySem.W.Frag} {CL : CLT} {F F' H H' : Hp} {Q : VK}
theorem Rep.int_ {i : Int} {v : V} {fp : List Addr} (h : Rep K CL F H (.int i) v fp) : v = .int i := by simp only [Rep] at h; exact h.1
theorem Rep.bl_ {i : Bool} {v : V} {fp : List Addr} (h : Rep K CL F H (.bl i) v fp) : v = .bl i := by simp only [Rep] at h; exact h.1
theorem Rep.str_ {i : Str} {v : V} {fp : List Addr} (h : Rep K CL F H (.str i) v fp) : v = .str i := by simp only [Rep] at h; exact h.1
theorem Rep.non_ {v : V} {fp : List Addr} (h : Rep K CL F H .non v fp) : v = .non := by simp only [Rep] at h; exact h.1
theorem rep_int {i : Int} : Rep K CL F H (.int i) (.int i) [] := by simp only [Rep]; exact ⟨trivial, trivial⟩
theorem rep_bl {i : Bool} : Rep K CL F H (.bl i) (.bl i) [] := by simp only [Rep]; exact ⟨trivial, trivial⟩
theorem rep_str {i : Str} : Rep K CL F H (.str i) (.str i) [] := by simp only [Rep]; exact ⟨trivial, trivial⟩
theorem rep_non : Rep K CL F H .non .non [] := by simp only [Rep]; exact ⟨trivial, trivial⟩
theorem sqT_sub {a : Addr} {vs : List V} (s : Sub F H) (h : SqT K F a vs) : SqT K H a vs := sqT_mono s h
theorem Rep.list_ {o : Ow} {ds : List D} {v : V} {fp : List Addr} (s : Sub F H) (h : Rep K CL F H (.lst o ds) v fp) : ∃ a vs, v = .ref a ∧ SqL K H a vs ∧ Reps K CL F H ds vs [] := by
  cases o with
  | fz =>
    simp only [Rep] at h
    obtain ⟨_, a, vs, e, q, r⟩ := h
    exact ⟨a, vs, e, sqL_mono s q, r⟩
  | ow =>
    simp only [Rep] at h
    obtain ⟨a, vs, e, _, q, _, r⟩ := h
    exact ⟨a, vs, e, .of q, r⟩
  | lk =>
    simp only [Rep] at h
    obtain ⟨a, vs, e, _, q, _, r⟩ := h
    exact ⟨a, vs, e, .of q, r⟩
theorem Rep.tup_ {ds : List D} {v : V} {fp : List Addr} (s : Sub F H) (h : Rep K CL F H (.tup ds) v fp) : ∃ a vs, v = .ref a ∧ SqT K H a vs ∧ Reps K CL F H ds vs [] := by
  simp only [Rep] at h
  obtain ⟨_, a, vs, e, q, r⟩ := h
  exact ⟨a, vs, e, sqT_mono s q, r⟩
theorem sub_upd {p : Addr} {o : HO} (n : H p = none) : Sub H (upd H p o) := fun a u h => by rw [upd_ne (ne_of_none h n)]; exact h
theorem new_list {p : Addr} {ds : List D} {vs : List V} (s : Sub F H) (n : H p = none) (r : Reps K CL F H ds vs []) : Pst F H F (upd H p (.lst vs)) ∧ Rep K CL F (upd H p (.lst vs)) (.lst .ow ds) (.ref p) [p] := by
  refine ⟨⟨sub_upd n, .refl, fun a o h => sub_upd n _ _ (s _ _ h), fun _ _ h => .inl h⟩, ?_⟩
  simp only [Rep]
  exact ⟨p, vs, rfl, rfl, upd_same, s.none n, r.any .refl⟩
theorem new_tup {p : Addr} {ds : List D} {vs : List V} (s : Sub F H) (n : H p = none) (r : Reps K CL F H ds vs []) : Pst F H (upd F p (.tup vs)) (upd H p (.tup vs)) ∧ Rep K CL (upd F p (.tup vs)) (upd H p (.tup vs)) (.tup ds) (.ref p) [] := by
  have nf : F p = none := s.none n
  refine ⟨⟨sub_upd n, sub_upd nf, fun a o h => ?_, fun a o h => ?_⟩, ?_⟩
  · by_cases e : a = p
    · subst e
      rw [upd_same] at h ⊢
      exact h
    · rw [upd_ne e] at h ⊢
      exact s _ _ h
  · by_cases e : a = p
    · subst e
      exact .inr n
    · rw [upd_ne e] at h
      exact .inl h
  · simp only [Rep]
    exact ⟨trivial, p, vs, rfl, .of upd_same, r.any (sub_upd nf)⟩
theorem pl_ends {e : D} {v : V} (s : Sub F H) (r : Rep K CL F H e v []) (q : ∀ v H' F' fp', Pst F H F' H' → Rep K CL F' H' e v fp' → fp'.Nodup → (∀ a ∈ fp', H a = none) → Q v H') : Q v H :=
  q v H F [] (.refl s) r List.nodup_nil fun _ z => nomatch z
theorem list_ends {p : Addr} {ds : List D} {vs : List V} (s : Sub F H) (n : H p = none) (r : Reps K CL F H ds vs []) (q : ∀ v H' F' fp', Pst F H F' H' → Rep K CL F' H' (.lst .ow ds) v fp' → fp'.Nodup → (∀ a ∈ fp', H a = none) → Q v H') : Q (.ref p) (upd H p (.lst vs)) := by
  obtain ⟨q1, q2⟩ := new_list s n r
  exact q _ _ _ _ q1 q2 (by simp) fun a z => by rw [List.mem_singleton.mp z]; exact n
theorem tup_ends {p : Addr} {ds : List D} {vs : List V} (s : Sub F H) (n : H p = none) (r : Reps K CL F H ds vs []) (q : ∀ v H' F' fp', Pst F H F' H' → Rep K CL F' H' (.tup ds) v fp' → fp'.Nodup → (∀ a ∈ fp', H a = none) → Q v H') : Q (.ref p) (upd H p (.tup vs)) := by
  obtain ⟨q1, q2⟩ := new_tup s n r
  exact q _ _ _ _ q1 q2 List.nodup_nil fun _ z => nomatch z

/-! ### one place -/
theorem v_len {x : V} (h : OV1 K CL (o1D .len) x H Q) : (∃ z, [x] = [V.str z] ∧ z.length ≤ sizeLine ∧ Q (.int z.length) H) ∨ (∃ p ys, [x] = [.ref p] ∧ (SqL K H p ys ∨ SqT K H p ys) ∧ Q (.int ys.length) H) := by
  obtain ⟨F, d, fp, e, s, r, he, q⟩ := h
  cases d with
  | str z =>
    simp only [o1D] at he
    split at he
    · cases he
      cases r.str_
      exact .inl ⟨z, rfl, by assumption, pl_ends s rep_int q⟩
    · cases he
  | tup ds =>
    simp only [o1D] at he
    cases he
    obtain ⟨a, vs, e, q1, q2⟩ := r.tup_ s
    subst e
    exact .inr ⟨a, vs, rfl, .inr q1, by rw [q2.length]; exact pl_ends s rep_int q⟩
  | lst o ds =>
    simp only [o1D] at he
    cases he
    obtain ⟨a, vs, e, q1, q2⟩ := r.list_ s
    subst e
    exact .inr ⟨a, vs, rfl, .inl q1, by rw [q2.length]; exact pl_ends s rep_int q⟩
  | _ => simp [o1D] at he
theorem v_int {x : V} (h : OV1 K CL (o1D .int_) x H Q) : (∃ i, [x] = [V.int i] ∧ Q (.int i) H) ∨ ∃ k, [x] = [V.bl k] ∧ Q (.int (if k then 1 else 0)) H := by
  obtain ⟨F, d, fp, e, s, r, he, q⟩ := h
  cases d with
  | int i =>
    simp only [o1D] at he
    cases he
    cases r.int_
    exact .inl ⟨i, rfl, pl_ends s rep_int q⟩
  | bl k =>
    simp only [o1D] at he
    cases he
    cases r.bl_
    exact .inr ⟨k, rfl, pl_ends s rep_int q⟩
  | _ => simp [o1D] at he
theorem v_neg {x : V} (h : OV1 K CL (o1D .neg) x H Q) : ∃ i, x = V.int i ∧ Q (.int (-i)) H := by
  obtain ⟨F, d, fp, e, s, r, he, q⟩ := h
  cases d with
  | int i =>
    simp only [o1D] at he
    cases he
    cases r.int_
    exact ⟨i, rfl, pl_ends s rep_int q⟩
  | _ => simp [o1D] at he
theorem v_tuple {x : V} (h : OV1 K CL (o1D .tuple_) x H Q) : ∃ p ys, [x] = [V.ref p] ∧ ((SqL K H p ys ∧ ∀ l, H l = none → Q (.ref l) (upd H l (.tup ys))) ∨ (SqT K H p ys ∧ Q (.ref p) H)) := by
  obtain ⟨F, d, fp, e, s, r, he, q⟩ := h
  cases d with
  | tup ds =>
    simp only [o1D] at he
    cases he
    have r0 := r
    obtain ⟨a, vs, e, q1, q2⟩ := r.tup_ s
    subst e
    have e0 : fp = [] := by simp only [Rep] at r0; exact r0.1
    subst e0
    exact ⟨a, vs, rfl, .inr ⟨q1, pl_ends s r0 q⟩⟩
  | lst o ds =>
    simp only [o1D] at he
    cases he
    obtain ⟨a, vs, e, q1, q2⟩ := r.list_ s
    subst e
    exact ⟨a, vs, rfl, .inl ⟨q1, fun l hl => tup_ends s hl q2 q⟩⟩
  | _ => simp [o1D] at he
theorem v_rev {x : V} (h : OV1 K CL (o1D .rev) x H Q) : ∃ a xs, x = .ref a ∧ SqL K H a xs ∧ ∀ p, H p = none → Q (.ref p) (upd H p (.lst xs.reverse)) := by
  obtain ⟨F, d, fp, e, s, r, he, q⟩ := h
  cases d with
  | lst o ds =>
    simp only [o1D] at he
    cases he
    obtain ⟨a, vs, e, q1, q2⟩ := r.list_ s
    exact ⟨a, vs, e, q1, fun l hl => list_ends s hl q2.reverse q⟩
  | _ => simp [o1D] at he
theorem v_list {x : V} (h : OV1 K CL (o1D .list_) x H Q) : ∃ p ys, [x] = [V.ref p] ∧ (SqL K H p ys ∨ SqT K H p ys) ∧ ∀ l, H l = none → Q (.ref l) (upd H l (.lst ys)) := by
  obtain ⟨F, d, fp, e, s, r, he, q⟩ := h
  cases d with
  | tup ds =>
    simp only [o1D] at he
    cases he
    obtain ⟨a, vs, e, q1, q2⟩ := r.tup_ s
    subst e
    exact ⟨a, vs, rfl, .inr q1, fun l hl => list_ends s hl q2 q⟩
  | lst o ds =>
    simp only [o1D] at he
    cases he
    obtain ⟨a, vs, e, q1, q2⟩ := r.list_ s
    subst e
    exact ⟨a, vs, rfl, .inl q1, fun l hl => list_ends s hl q2 q⟩
  | _ => simp [o1D] at he

theorem Reps.cut {ds : List D} {vs : List V} (r : Reps K CL F H ds vs []) (a b : Nat) : Reps K CL F H ((ds.drop a).take b) ((vs.drop a).take b) [] := by
  have drop : ∀ (a : Nat) (ds : List D) (vs : List V), Reps K CL F H ds vs [] → Reps K CL F H (ds.drop a) (vs.drop a) [] := by
    intro a
    induction a with
    | zero => exact fun _ _ r => r
    | succ a ih =>
      intro ds vs r
      cases ds with
      | nil =>
        simp only [Reps] at r
        rw [r.1]
        exact Reps.nil
      | cons d ds =>
        simp only [Reps] at r
        obtain ⟨v, vr, f1, f2, rfl, e, r1, r2⟩ := r
        obtain ⟨rfl, rfl⟩ := List.append_eq_nil_iff.mp e.symm
        exact ih _ _ r2
  have take : ∀ (b : Nat) (ds : List D) (vs : List V), Reps K CL F H ds vs [] → Reps K CL F H (ds.take b) (vs.take b) [] := by
    intro b
    induction b with
    | zero => exact fun _ _ _ => Reps.nil
    | succ b ih =>
      intro ds vs r
      cases ds with
      | nil =>
        simp only [Reps] at r
        rw [r.1]
        exact Reps.nil
      | cons d ds =>
        simp only [Reps] at r
        obtain ⟨v, vr, f1, f2, rfl, e, r1, r2⟩ := r
        obtain ⟨rfl, rfl⟩ := List.append_eq_nil_iff.mp e.symm
        simp only [List.take_succ_cons, Reps]
        exact ⟨v, _, [], [], rfl, rfl, r1, ih _ _ r2⟩
  exact take b _ _ (drop a ds vs r)
theorem v_slc {lo hi : Option Int} {x : V} (h : OV1 K CL (slcD lo hi) x H Q) : rSlL K x lo hi H Q ∨ rSlA K x lo hi H Q := by
  obtain ⟨F, d, fp, e, s, r, he, q⟩ := h
  cases d with
  | tup ds =>
    simp only [slcD] at he
    cases he
    have r0 := r
    obtain ⟨a, vs, e, q1, q2⟩ := r.tup_ s
    subst e
    have e0 : fp = [] := by simp only [Rep] at r0; exact r0.1
    subst e0
    have c := q2.cut (HT.sIx ds.length 0 lo) (HT.sIx ds.length ds.length hi - HT.sIx ds.length 0 lo)
    refine .inr ⟨a, vs, rfl, q1, fun z => ?_, fun _ p hp => ?_⟩
    · have : cutD ds lo hi = ds := by
        unfold cutD
        rw [← q2.length, z.1, z.2]
        simp [q2.length]
      rw [this] at q
      exact pl_ends s r0 q
    · unfold cutV
      rw [q2.length]
      exact tup_ends s hp c q
  | lst o ds =>
    simp only [slcD] at he
    cases he
    obtain ⟨a, vs, e, q1, q2⟩ := r.list_ s
    subst e
    have c := q2.cut (HT.sIx ds.length 0 lo) (HT.sIx ds.length ds.length hi - HT.sIx ds.length 0 lo)
    refine .inl ⟨a, vs, rfl, q1, fun p hp => ?_⟩
    unfold cutV
    rw [q2.length]
    exact list_ends s hp c q
  | _ => simp [slcD] at he
/-! ### two places -/
/-- two ints -/
theorem v_II {o : O2} {C : Int → Int → Prop} {g : Int → Int → V} {x y : V} (hd : ∀ d d' e, o2D o d d' = some e → ∃ i j, d = .int i ∧ d' = .int j ∧ C i j ∧ ((∃ k, e = .int k ∧ g i j = .int k) ∨ ∃ k, e = .bl k ∧ g i j = .bl k))
    (h : OV2 K CL (o2D o) x y H Q) : ∃ i j, x = .int i ∧ y = .int j ∧ C i j ∧ Q (g i j) H := by
  obtain ⟨F, d, d', fp, fp', e, s, r, r', he, q⟩ := h
  obtain ⟨i, j, rfl, rfl, c, w⟩ := hd d d' e he
  cases r.int_
  cases r'.int_
  refine ⟨i, j, rfl, rfl, c, ?_⟩
  rcases w with ⟨k, rfl, e2⟩ | ⟨k, rfl, e2⟩
  · rw [e2]; exact pl_ends s rep_int q
  · rw [e2]; exact pl_ends s rep_bl q
theorem d_sub {d d' e : D} (h : o2D .sub d d' = some e) : ∃ i j, d = .int i ∧ d' = .int j ∧ True ∧ ((∃ k, e = .int k ∧ V.int (i - j) = .int k) ∨ ∃ k, e = .bl k ∧ V.int (i - j) = .bl k) := by
  cases d <;> cases d' <;> simp [o2D] at h
  exact ⟨_, _, rfl, rfl, trivial, .inl ⟨_, h.symm, rfl⟩⟩
theorem rep_flat {ds : List D} {vs : List V} (r : Reps K CL F H ds vs []) : ∀ n : Nat, Reps K CL F H (List.replicate n ds).flatten (List.replicate n vs).flatten []
  | 0 => Reps.nil
  | n + 1 => by
    simp only [List.replicate_succ, List.flatten_cons]
    exact r.app (rep_flat r n)
theorem v_mul {x y : V} (h : OV2 K CL (o2D .mul) x y H Q) : rMul4 K x y H Q := by
  obtain ⟨F, d, d', fp, fp', e, s, r, r', he, q⟩ := h
  cases d with
  | int i =>
    cases d' <;> simp only [o2D] at he <;> first | cases he | skip
    split at he
    · rename_i hb
      cases he
      cases r.int_
      cases r'.int_
      refine .inl ⟨i, _, rfl, rfl, ?_, pl_ends s rep_int q⟩
      simp only [bitsOk, decide_eq_true_eq] at hb
      unfold CMulW
      omega
    · cases he
  | lst o ds =>
    cases o <;> cases d' <;> simp only [o2D] at he <;> first | cases he | skip
    rename_i k
    split at he
    · rename_i hb
      cases he
      cases r'.int_
      simp only [Rep] at r
      obtain ⟨a, vs, rfl, rfl, ha, hn, rr⟩ := r
      refine .inr (.inl ⟨a, k, vs, rfl, rfl, ha, by omega, by omega, ?_, fun p hp => list_ends s hp (rep_flat rr k.toNat) q⟩)
      rw [rr.length, sizeLine_eq]
      have : ds.length * k.toNat ≤ 1000 * 1000 := Nat.mul_le_mul hb.1 (by omega)
      omega
    · cases he
  | tup ds =>
    cases d' <;> simp only [o2D] at he <;> first | cases he | skip
    rename_i k
    split at he
    · rename_i hb
      cases he
      cases r'.int_
      have r0 := r
      obtain ⟨a, vs, e, q1, q2⟩ := r.tup_ s
      subst e
      have z1 : fp = [] := by simp only [Rep] at r0; exact r0.1
      subst z1
      by_cases k1 : k = 1
      · subst k1
        have e1 : (List.replicate (1 : Int).toNat ds).flatten = ds := by simp
        rw [e1] at q
        exact .inr (.inr (.inr ⟨a, vs, rfl, rfl, q1, pl_ends s r0 q⟩))
      · refine .inr (.inr (.inl ⟨a, k, vs, rfl, rfl, q1, fun z => hb.2.2.2 (List.length_eq_zero_iff.mp (by rw [← q2.length, z]; rfl)), by omega, by omega, by rw [q2.length]; exact hb.1, fun p hp => tup_ends s hp (rep_flat q2 k.toNat) q⟩))
    · cases he
  | _ => simp [o2D] at he
theorem d_fdiv {d d' e : D} (h : o2D .fdiv d d' = some e) : ∃ i j, d = .int i ∧ d' = .int j ∧ CDiv i j ∧ ((∃ k, e = .int k ∧ V.int (i / j) = .int k) ∨ ∃ k, e = .bl k ∧ V.int (i / j) = .bl k) := by
  cases d <;> cases d' <;> simp [o2D] at h
  exact ⟨_, _, rfl, rfl, h.1, .inl ⟨_, h.2.symm, rfl⟩⟩
theorem d_mod {d d' e : D} (h : o2D .mod d d' = some e) : ∃ i j, d = .int i ∧ d' = .int j ∧ 0 < j ∧ ((∃ k, e = .int k ∧ V.int (i % j) = .int k) ∨ ∃ k, e = .bl k ∧ V.int (i % j) = .bl k) := by
  cases d <;> cases d' <;> simp [o2D] at h
  exact ⟨_, _, rfl, rfl, h.1, .inl ⟨_, h.2.symm, rfl⟩⟩
theorem d_pow {d d' e : D} (h : o2D .pow d d' = some e) : ∃ i j, d = .int i ∧ d' = .int j ∧ CPow i j ∧ ((∃ k, e = .int k ∧ V.int (i ^ j.toNat) = .int k) ∨ ∃ k, e = .bl k ∧ V.int (i ^ j.toNat) = .bl k) := by
  cases d <;> cases d' <;> simp only [o2D] at h <;> first | cases h | skip
  split at h
  · rename_i c
    cases h
    exact ⟨_, _, rfl, rfl, c, .inl ⟨_, rfl, rfl⟩⟩
  · cases h
theorem d_lt {d d' e : D} (h : o2D .lt d d' = some e) : ∃ i j, d = .int i ∧ d' = .int j ∧ True ∧ ((∃ k, e = .int k ∧ V.bl (decide (i < j)) = .int k) ∨ ∃ k, e = .bl k ∧ V.bl (decide (i < j)) = .bl k) := by
  cases d <;> cases d' <;> simp only [o2D] at h <;> first | cases h | skip
  exact ⟨_, _, rfl, rfl, trivial, .inr ⟨_, rfl, rfl⟩⟩
theorem d_le {d d' e : D} (h : o2D .le d d' = some e) : ∃ i j, d = .int i ∧ d' = .int j ∧ True ∧ ((∃ k, e = .int k ∧ V.bl (decide (i ≤ j)) = .int k) ∨ ∃ k, e = .bl k ∧ V.bl (decide (i ≤ j)) = .bl k) := by
  cases d <;> cases d' <;> simp only [o2D] at h <;> first | cases h | skip
  exact ⟨_, _, rfl, rfl, trivial, .inr ⟨_, rfl, rfl⟩⟩
theorem d_gt {d d' e : D} (h : o2D .gt d d' = some e) : ∃ i j, d = .int i ∧ d' = .int j ∧ True ∧ ((∃ k, e = .int k ∧ V.bl (decide (j < i)) = .int k) ∨ ∃ k, e = .bl k ∧ V.bl (decide (j < i)) = .bl k) := by
  cases d <;> cases d' <;> simp only [o2D] at h <;> first | cases h | skip
  exact ⟨_, _, rfl, rfl, trivial, .inr ⟨_, rfl, rfl⟩⟩
theorem d_ge {d d' e : D} (h : o2D .ge d d' = some e) : ∃ i j, d = .int i ∧ d' = .int j ∧ True ∧ ((∃ k, e = .int k ∧ V.bl (decide (j ≤ i)) = .int k) ∨ ∃ k, e = .bl k ∧ V.bl (decide (j ≤ i)) = .bl k) := by
  cases d <;> cases d' <;> simp only [o2D] at h <;> first | cases h | skip
  exact ⟨_, _, rfl, rfl, trivial, .inr ⟨_, rfl, rfl⟩⟩
theorem d_max {d d' e : D} (h : o2D .max2 d d' = some e) : ∃ i j, d = .int i ∧ d' = .int j ∧ True ∧ ((∃ k, e = .int k ∧ V.int (if j > i then j else i) = .int k) ∨ ∃ k, e = .bl k ∧ V.int (if j > i then j else i) = .bl k) := by
  cases d <;> cases d' <;> simp only [o2D] at h <;> first | cases h | skip
  exact ⟨_, _, rfl, rfl, trivial, .inl ⟨_, rfl, rfl⟩⟩
theorem d_min {d d' e : D} (h : o2D .min2 d d' = some e) : ∃ i j, d = .int i ∧ d' = .int j ∧ True ∧ ((∃ k, e = .int k ∧ V.int (if j < i then j else i) = .int k) ∨ ∃ k, e = .bl k ∧ V.int (if j < i then j else i) = .bl k) := by
  cases d <;> cases d' <;> simp only [o2D] at h <;> first | cases h | skip
  exact ⟨_, _, rfl, rfl, trivial, .inl ⟨_, rfl, rfl⟩⟩
/-- list + list of any that are read -/
def rCatL (K : PySem.W.Frag) : L2.R2 := fun x y H Q => ∃ l b xs zs, x = .ref l ∧ y = .ref b ∧ SqL K H l xs ∧ SqL K H b zs ∧ xs.length + zs.length ≤ sizeLine ∧ ∀ p, H p = none → Q (.ref p) (upd H p (.lst (xs ++ zs)))
theorem op_catL {X : Cx} : OpR X (binaryOp .Add) (rCatL X.K) := by
  intro pins s σ H x y v u Q I rx ry h
  obtain ⟨l, b, xs, zs, rfl, rfl, hH, hB, hz, q⟩ := h
  cases rx
  cases ry
  obtain ⟨its, r, p, z⟩ := I.list hH
  obtain ⟨its2, r2, p2, z2⟩ := I.list hB
  obtain ⟨⟨cls, dd, data, sl⟩, n, ho, hc, hd0, hd⟩ := p
  obtain ⟨⟨cls2, dd2, data2, sl2⟩, n2, ho2, hc2, hd02, hd2⟩ := p2
  simp only at hc hd hc2 hd2
  subst hc hd hc2 hd2
  have hl := r.length
  have hl2 := r2.length
  have ea : its.toArray ++ its2.toArray = (its ++ its2).toArray := by simp
  refine concat_meets ⟨_, ho, rfl⟩ ⟨_, ho2, rfl⟩ noFill_list_add seq_list_add PySem.F.slot_list_add PySem.F.entry_list_add (PySem.F.args_list_add_2 _ _) (PyProof.Rows.list_addW l b its.toArray its2.toArray n n2 dd dd2 sl sl2 (by rw [List.size_toArray, List.size_toArray]; omega)) ⟨ho, ho2, ?_⟩
  rw [ea]
  exact ⟨.ref _, _, I.lnew (t' := s.toks) (r.append r2) (by rw [List.length_append]; omega), rfl, q _ I.fresh⟩
/-- xs.extend(ys), ys any list that is read -/
def rExtendR : V → List V → Hp → VK → Prop := fun x vs H Q => ∃ l b xs zs, x = .ref l ∧ vs = [.ref b] ∧ H l = some (.lst xs) ∧ Rd H b (.lst zs) ∧ xs.length + zs.length ≤ sizeLine ∧ Q .non (upd H l (.lst (xs ++ zs)))
theorem mt_extendR {X : Cx} : MtM X "list.extend" rExtendR := by
  intro pins s σ H x vs v us Q I rx rv h
  obtain ⟨l, b, xs, zs, rfl, rfl, hH, hB, hz, q⟩ := h
  cases rx
  obtain ⟨u, rfl, ru⟩ := rv.one
  cases ru
  obtain ⟨z, its, n, r, hl, e⟩ := I.lstM hH
  obtain ⟨z2, its2, n2, r2, e2⟩ := hB.ok I.hok
  have hl2 := r2.length
  have big : its.toArray.size + its2.toArray.size ≤ sizeLine := by rw [List.size_toArray, List.size_toArray, ← hl, ← hl2]; exact hz
  refine call_meets F.slot_list_extend ⟨_, e, rfl⟩ F.entry_list_extend (F.args_list_extend_2 _ _) (AutoSeq1.list_extend_list_list_0 l its.toArray n b its2.toArray n2 ?_ (by rw [List.size_toArray, ← hl]; omega) (by omega)) ⟨e, e2, ?_⟩
  · rw [notLongL big, Bool.and_false]
    simp
  · exact ⟨.non, _, I.lset (its' := its ++ its2) hH e (by simp) (r.append r2) (by rw [List.length_append]; exact hz), rfl, q⟩
def rAdd4 (K : PySem.W.Frag) : L2.R2 := fun x y H Q => (∃ i j, x = .int i ∧ y = .int j ∧ Q (.int (i + j)) H) ∨ ((∃ i j, x = .str i ∧ y = .str j ∧ i.length + j.length ≤ sizeLine ∧ Q (.str (i ++ j)) H) ∨ (rCatL K x y H Q ∨ rCatA K x y H Q))
theorem op_add4 {X : Cx} : OpR X (binaryOp .Add) (rAdd4 X.K) := OpR.or op_add (OpR.or op_add_str (OpR.or op_catL op_catA))
theorem v_add {x y : V} (h : OV2 K CL (o2D .add) x y H Q) : rAdd4 K x y H Q := by
  obtain ⟨F, d, d', fp, fp', e, s, r, r', he, q⟩ := h
  cases d with
  | int i =>
    cases d' <;> simp only [o2D] at he <;> first | cases he | skip
    cases r.int_
    cases r'.int_
    exact .inl ⟨i, _, rfl, rfl, pl_ends s rep_int q⟩
  | str i =>
    cases d' <;> simp only [o2D] at he <;> first | cases he | skip
    split at he
    · cases he
      cases r.str_
      cases r'.str_
      exact .inr (.inl ⟨i, _, rfl, rfl, by assumption, pl_ends s rep_str q⟩)
    · cases he
  | lst o ds =>
    cases d' <;> simp only [o2D] at he <;> first | cases he | skip
    split at he
    · rename_i hz
      cases he
      obtain ⟨a, vs, e, q1, q2⟩ := r.list_ s
      obtain ⟨b, ws, e', q3, q4⟩ := r'.list_ s
      subst e e'
      refine .inr (.inr (.inl ⟨a, b, vs, ws, rfl, rfl, q1, q3, by rw [q2.length, q4.length]; exact hz, fun p hp => list_ends s hp (q2.app q4) q⟩))
    · cases he
  | tup ds =>
    cases d' <;> simp only [o2D] at he <;> first | cases he | skip
    rename_i es
    split at he
    · rename_i hz
      cases he
      have r0 := r
      have r0' := r'
      obtain ⟨a, vs, e, q1, q2⟩ := r.tup_ s
      obtain ⟨b, ws, e', q3, q4⟩ := r'.tup_ s
      subst e e'
      have z1 : fp = [] := by simp only [Rep] at r0; exact r0.1
      have z2 : fp' = [] := by simp only [Rep] at r0'; exact r0'.1
      subst z1 z2
      refine .inr (.inr (.inr ⟨a, b, vs, ws, rfl, rfl, q1, q3, by rw [q2.length, q4.length]; exact hz, fun z => ?_, fun _ z => ?_, fun _ _ p hp => tup_ends s hp (q2.app q4) q⟩))
      · have : ds = [] := List.length_eq_zero_iff.mp (by rw [← q2.length, z]; rfl)
        subst this
        exact pl_ends s r0' q
      · have : es = [] := List.length_eq_zero_iff.mp (by rw [← q4.length, z]; rfl)
        subst this
        rw [List.append_nil] at q
        exact pl_ends s r0 q
    · cases he
  | _ => simp [o2D] at he
/-! ### equality -/
mutual
theorem Rep.dp (s : Sub F H) : ∀ {d : D} {v : V} {fp : List Addr} {p : PyData}, Rep K CL F H d v fp → toPy d = some p → Dp K H v p
  | .non, _, _, _, r, e => by cases r.non_; simp only [toPy] at e; cases e; exact .non
  | .bl b, _, _, _, r, e => by cases r.bl_; simp only [toPy] at e; cases e; exact .bl b
  | .int b, _, _, _, r, e => by cases r.int_; simp only [toPy] at e; cases e; exact .int b
  | .str b, _, _, _, r, e => by cases r.str_; simp only [toPy] at e; cases e; exact .str b
  | .ty _, _, _, _, _, e => by simp [toPy] at e
  | .tup ds, _, _, _, r, e => by
    simp only [toPy, Option.map_eq_some_iff] at e
    obtain ⟨ps, e1, rfl⟩ := e
    obtain ⟨a, vs, rfl, q1, q2⟩ := r.tup_ s
    exact .tup q1 (Reps.dp s q2 e1)
  | .lst o ds, _, _, _, r, e => by
    simp only [toPy, Option.map_eq_some_iff] at e
    obtain ⟨ps, e1, rfl⟩ := e
    obtain ⟨a, vs, rfl, q1, q2⟩ := r.list_ s
    exact .lst q1 (Reps.dp s q2 e1)
  | .own _, _, _, _, _, e => by simp [toPy] at e
  | .ins _ _ _ _, _, _, _, _, e => by simp [toPy] at e
  | .dic _ _ _, _, _, _, _, e => by simp [toPy] at e
theorem Reps.dp (s : Sub F H) : ∀ {ds : List D} {vs : List V} {fp : List Addr} {ps : List PyData}, Reps K CL F H ds vs fp → toPyL ds = some ps → DpAll K H vs ps
  | [], _, _, _, r, e => by simp only [Reps] at r; simp only [toPyL] at e; cases e; rw [r.1]; exact .nil
  | d :: ds, _, _, _, r, e => by
    simp only [Reps] at r
    obtain ⟨v, vr, f1, f2, rfl, _, r1, r2⟩ := r
    simp only [toPyL, Option.bind_eq_some_iff, Option.map_eq_some_iff] at e
    obtain ⟨p, e1, ps, e2, rfl⟩ := e
    exact .cons (Rep.dp s r1 e1) (Reps.dp s r2 e2)
end
theorem eqD_some {d d' : D} {k : Bool} (h : eqD d d' = some k) : ∃ p p', toPy d = some p ∧ toPy d' = some p' ∧ SeqAt.shaped p = true ∧ SeqAt.shaped p' = true ∧ k = PyData.eqv p p' := by
  unfold eqD at h
  simp only [Option.bind_eq_some_iff] at h
  obtain ⟨p, e1, p', e2, h⟩ := h
  split at h
  · rename_i c
    simp only [Bool.and_eq_true] at c
    exact ⟨p, p', e1, e2, c.1, c.2, (Option.some.inj h).symm⟩
  · cases h
theorem v_eq {x y : V} (h : OV2 K CL (o2D .eq) x y H Q) : rEqD K x y H Q := by
  obtain ⟨F, d, d', fp, fp', e, s, r, r', he, q⟩ := h
  have he : (eqD d d').map D.bl = some e := by simpa only [o2D] using he
  simp only [Option.map_eq_some_iff] at he
  obtain ⟨k, e1, rfl⟩ := he
  obtain ⟨p, p', h1, h2, h3, h4, rfl⟩ := eqD_some e1
  exact ⟨p, p', r.dp s h1, r'.dp s h2, h3, h4, pl_ends s rep_bl q⟩
theorem v_ne {x y : V} (h : OV2 K CL (o2D .ne) x y H Q) : rNeD K x y H Q := by
  obtain ⟨F, d, d', fp, fp', e, s, r, r', he, q⟩ := h
  have he : (eqD d d').map (fun k => D.bl (!k)) = some e := by simpa only [o2D] using he
  simp only [Option.map_eq_some_iff] at he
  obtain ⟨k, e1, rfl⟩ := he
  obtain ⟨p, p', h1, h2, h3, h4, rfl⟩ := eqD_some e1
  exact ⟨p, p', r.dp s h1, r'.dp s h2, h3, h4, pl_ends s rep_bl q⟩
theorem Rep.isNon {d : D} {x : V} {fp : List Addr} (r : Rep K CL F H d x fp) : decide (x = .non) = Cov.isNon d := by
  cases d with
  | non => simp only [Rep] at r; rw [r.1]; rfl
  | bl _ => simp only [Rep] at r; rw [r.1]; rfl
  | int _ => simp only [Rep] at r; rw [r.1]; rfl
  | str _ => simp only [Rep] at r; rw [r.1]; rfl
  | ty _ => simp only [Rep] at r; rw [r.1]; rfl
  | tup _ => simp only [Rep] at r; obtain ⟨_, a, _, e, _⟩ := r; rw [e]; rfl
  | lst o _ => cases o <;> simp only [Rep] at r
               · obtain ⟨_, a, _, e, _⟩ := r; rw [e]; rfl
               · obtain ⟨a, _, e, _⟩ := r; rw [e]; rfl
               · obtain ⟨a, _, e, _⟩ := r; rw [e]; rfl
  | own _ => simp only [Rep] at r; obtain ⟨a, _, _, e, _⟩ := r; rw [e]; rfl
  | ins o _ _ _ => cases o <;> simp only [Rep] at r
                   · obtain ⟨_, a, _, _, _, e, _⟩ := r; rw [e]; rfl
                   · obtain ⟨a, _, _, _, _, e, _⟩ := r; rw [e]; rfl
  | dic _ _ _ => simp only [Rep] at r; obtain ⟨_, a, _, _, _, _, _, _, e⟩ := r; rw [e]; rfl
theorem v_is {x y : V} (h : OV2 K CL (o2D .is_) x y H Q) : y = .non ∧ Q (.bl (decide (x = .non))) H := by
  obtain ⟨F, d, d', fp, fp', e, s, r, r', he, q⟩ := h
  cases d' with
  | non =>
    have he : some (D.bl (Cov.isNon d)) = some e := by cases d <;> exact he
    cases he
    rw [r.isNon]
    exact ⟨by simp only [Rep] at r'; exact r'.1, pl_ends s rep_bl q⟩
  | _ => cases d <;> cases he
theorem v_isnot {x y : V} (h : OV2 K CL (o2D .isnot) x y H Q) : y = .non ∧ Q (.bl (!decide (x = .non))) H := by
  obtain ⟨F, d, d', fp, fp', e, s, r, r', he, q⟩ := h
  cases d' with
  | non =>
    have he : some (D.bl (!Cov.isNon d)) = some e := by cases d <;> exact he
    cases he
    rw [r.isNon]
    exact ⟨by simp only [Rep] at r'; exact r'.1, pl_ends s rep_bl q⟩
  | _ => cases d <;> cases he
/-! ### an item -/
theorem v_ix {x y : V} (h : OV2 K CL (o2D .ix) x y H Q) : rIx K x y H Q := by
  obtain ⟨F, d, d', fp, fp', e, s, r, r', he, q⟩ := h
  cases d with
  | tup ds =>
    cases d' <;> simp only [o2D] at he <;> first | cases he | skip
    cases r'.int_
    obtain ⟨a, vs, rfl, q1, q2⟩ := r.tup_ s
    unfold atI at he
    simp only [Option.bind_eq_some_iff] at he
    obtain ⟨j, e1, e2⟩ := he
    obtain ⟨v, e3, q3⟩ := q2.get e2
    exact .inr (.inl ⟨a, vs, _, v, rfl, rfl, q1, by unfold atI; rw [q2.length, e1]; exact e3, pl_ends s q3 q⟩)
  | lst o ds =>
    cases d' <;> simp only [o2D] at he <;> first | cases he | skip
    cases r'.int_
    obtain ⟨a, vs, rfl, q1, q2⟩ := r.list_ s
    unfold atI at he
    simp only [Option.bind_eq_some_iff] at he
    obtain ⟨j, e1, e2⟩ := he
    obtain ⟨v, e3, q3⟩ := q2.get e2
    exact .inl ⟨a, vs, _, v, rfl, rfl, q1, by unfold atI; rw [q2.length, e1]; exact e3, pl_ends s q3 q⟩
  | str z =>
    cases d' <;> simp only [o2D] at he <;> first | cases he | skip
    split at he
    · rename_i hz
      simp only [Option.map_eq_some_iff] at he
      obtain ⟨c, e1, rfl⟩ := he
      cases r.str_
      cases r'.int_
      exact .inr (.inr ⟨z, _, c, rfl, rfl, hz, e1, pl_ends s rep_str q⟩)
    · cases he
  | _ => simp [o2D] at he
/-! ### isinstance -/
def tyStr : Nat → String
  | 0 => "int"
  | 1 => "bool"
  | 2 => "str"
  | 3 => "tuple"
  | 4 => "list"
  | 5 => "dict"
  | _ => "NoneType"
theorem kit7 (K : PySem.W.Frag) : ∀ a b : Nat, a ≤ 6 → b ≤ 5 → PySem.W.kitOne K (.type (tyStr a)) (.type (tyStr b)) = some (a == b || (a == 1 && b == 0)) := by
  intro a b ha hb
  have h1 : a = 0 ∨ a = 1 ∨ a = 2 ∨ a = 3 ∨ a = 4 ∨ a = 5 ∨ a = 6 := by omega
  have h2 : b = 0 ∨ b = 1 ∨ b = 2 ∨ b = 3 ∨ b = 4 ∨ b = 5 := by omega
  clear ha hb
  rcases h1 with h1 | h1 | h1 | h1 | h1 | h1 | h1 <;> subst h1 <;> rcases h2 with h2 | h2 | h2 | h2 | h2 | h2 <;> subst h2 <;> exact kit_ty (by decide +kernel)
theorem Rep.tyX {d : D} {v : V} {fp : List Addr} {a : Nat} (s : Sub F H) (r : Rep K CL F H d v fp) (h : tyName d = some a) : a ≤ 6 ∧ TyX K H v (.type (tyStr a)) := by
  cases d with
  | non => simp only [tyName] at h; cases h; cases r.non_; exact ⟨by decide, .base .non⟩
  | bl b => simp only [tyName] at h; cases h; cases r.bl_; exact ⟨by decide, .base (.bl b)⟩
  | int b => simp only [tyName] at h; cases h; cases r.int_; exact ⟨by decide, .base (.int b)⟩
  | str b => simp only [tyName] at h; cases h; cases r.str_; exact ⟨by decide, .base (.str b)⟩
  | tup ds =>
    simp only [tyName] at h; cases h
    obtain ⟨p, vs, rfl, q, _⟩ := r.tup_ s
    refine ⟨by decide, ?_⟩
    rcases q with (q | ⟨o, q⟩) | ⟨o, its, n, q, c, _⟩
    · exact .base (.tup q)
    · exact .fTuple q
    · exact .kTuple q c
  | lst o ds =>
    simp only [tyName] at h; cases h
    obtain ⟨p, vs, rfl, q, _⟩ := r.list_ s
    refine ⟨by decide, ?_⟩
    rcases q with (q | ⟨o, q⟩) | ⟨o, its, n, q, c, _⟩
    · exact .base (.lst q)
    · exact .base (.frz q)
    · exact .kList q c
  | _ => simp [tyName] at h
theorem tyId_some {t : String} {b : Nat} (h : tyId t = some b) : b ≤ 5 ∧ t = tyStr b := by
  unfold tyId at h
  have hb : b < 6 := by
    have := (List.findIdx?_eq_some_iff_getElem.mp h).1
    simpa using this
  have hq := (List.findIdx?_eq_some_iff_getElem.mp h).2.1
  have : b = 0 ∨ b = 1 ∨ b = 2 ∨ b = 3 ∨ b = 4 ∨ b = 5 := by omega
  refine ⟨by omega, ?_⟩
  rcases this with rfl | rfl | rfl | rfl | rfl | rfl <;> (simp at hq; exact hq.symm)
theorem v_isi {t : String} {x : V} (h : OV1 K CL (o1D (.isinst t)) x H Q) : ∃ b, tyId t = some b ∧ rIsi K [x, .ty t] H Q := by
  obtain ⟨F, d, fp, e, s, r, he, q⟩ := h
  simp only [o1D, Option.bind_eq_some_iff, Option.map_eq_some_iff] at he
  obtain ⟨a, h1, b, h2, rfl⟩ := he
  obtain ⟨h3, rfl⟩ := tyId_some h2
  obtain ⟨h4, h5⟩ := r.tyX s h1
  exact ⟨b, h2, x, _, _, _, _, rfl, .ty _, h5, kit7 K a b h4 h3, pl_ends s rep_bl q⟩
end
end Cov

/-! Cov6: the readings of the small language, and the layer's rules for them. -/
namespace Cov
open PySem L2

/-- an exception of an own class: without own fields, or with one -/
def ExO (K : PySem.W.Frag) (CL : CLT) (F H : Hp) (c : Str) (d : Option D) (cls : Value) (dd : Option Addr) : Prop :=
  ∃ C, CL.xc c = some C ∧ cls = .ref C ∧ match d with
    | none => dd = none
    | some x => ∃ a f k, x = .tup [.str f, .int k] ∧ dd = some a ∧ F a = some (.xd [(f, .int k)])

section
variable (K : PySem.W.Frag) (CL : CLT) (W : WX) (cf : CF) (ios : Str → List Bool)
/-- what a run that ends may tell: r at the end, with the slots unchanged -/
def okQ (α : Type) (β : Type) (σ : L2.St) (F H : Hp) (ft : Ft) (ρ' : Env) (r : α) (pu : Bool) (P : Hp → Hp → Ft → α → β → List Addr → Prop) (Q : β → Hp → Prop) : Prop :=
  ∀ v H' F' ft' fp, Rel K CL F' H' σ ρ' ft' → Stp F H ft F' H' ft' → P F' H' ft' r v fp → New H ft fp → (pu = true → Sub H H') → Q v H'
def exQ (σ : L2.St) (F H : Hp) (ft : Ft) (ρ' : Env) (c : Str) (d : Option D) : Prop :=
  ∀ cls dd H' F' ft', Rel K CL F' H' σ ρ' ft' → Stp F H ft F' H' ft' → ExO K CL F' H' c d cls dd → W cls dd σ H'
/-- a run's wish -/
def wsh {α β : Type} (m : M α) (σ : L2.St) (F H : Hp) (ft : Ft) (pu : Bool) (P : Hp → Hp → Ft → α → β → List Addr → Prop) (Q : β → Hp → Prop) : Prop := match m with
  | none => False
  | some (.ok r ρ') => okQ K CL α β σ F H ft ρ' r pu P Q
  | some (.ex c d ρ') => exQ K CL W σ F H ft ρ' c d
def tE (e : E) : TE := fun σ H Q => ∃ F ρ ft, Rel K CL F H σ ρ ft ∧ wsh K CL W (runE cf ios e ρ) σ F H ft (pureE e) (fun F' H' ft' r v fp => ResOk K CL F' H' σ ft' r v fp) Q
/-- several results -/
def RessOk (F H : Hp) (σ : L2.St) (ft : Ft) : List Res → List V → List Addr → Prop
  | [], vs, fp => vs = [] ∧ fp = []
  | r :: rs, vs, fp => ∃ v vr f1 f2, vs = v :: vr ∧ fp = f1 ++ f2 ∧ ResOk K CL F H σ ft r v f1 ∧ RessOk F H σ ft rs vr f2 ∧ ∀ a ∈ f1, a ∉ f2
def tL (es : List E) : TA := fun σ H Q => ∃ F ρ ft, Rel K CL F H σ ρ ft ∧ wsh K CL W (runL cf ios es ρ) σ F H ft (pureL es) (fun F' H' ft' r v fp => RessOk K CL F' H' σ ft' r v fp) Q
end
section
variable {K : PySem.W.Frag} {CL : CLT} {W : WX} {cf : CF} {ios : Str → List Bool}
theorem PE.imp {X : Cx} {e : Expr} {t t' : TE} (h : PE X e t) (i : ∀ σ H Q, t' σ H Q → t σ H Q) : PE X e t' := ⟨fun pins s σ H Q I q => h.run pins s σ H Q I (i σ H Q q)⟩
theorem PT.imp {X : Cx} {e : Expr} {t t' : TT} (h : PT X e t) (i : ∀ σ H Q, t' σ H Q → t σ H Q) : PT X e t' := ⟨fun pins s σ H Q I q => h.run pins s σ H Q I (i σ H Q q)⟩
theorem PA.imp {X : Cx} {e : List Expr} {t t' : TA} (h : PA X e t) (i : ∀ σ H Q, t' σ H Q → t σ H Q) : PA X e t' := ⟨fun po pins s σ H Q I q => h.run po pins s σ H Q I (i σ H Q q)⟩

section
variable {F F1 H H1 : Hp} {σ : L2.St} {ρ ρ1 : Env} {ft ft1 : Ft}
/-- behind a step the rest's wish is the whole's -/
theorem exQ.stp {ρ' : Env} {c : Str} {d : Option D} (R : Rel K CL F1 H1 σ ρ1 ft1) (s : Stp F H ft F1 H1 ft1) (h : exQ K CL W σ F H ft ρ' c d) : exQ K CL W σ F1 H1 ft1 ρ' c d :=
  fun cls dd H' F' ft' R' s' x => h cls dd H' F' ft' R' (s.trans R s') x
theorem okQ.stp {α β : Type} {ρ' : Env} {r : α} {pu pu' : Bool} {P : Hp → Hp → Ft → α → β → List Addr → Prop} {Q : β → Hp → Prop} (R : Rel K CL F1 H1 σ ρ1 ft1) (s : Stp F H ft F1 H1 ft1) (hp : pu = true → Sub H H1 ∧ pu' = true) (h : okQ K CL α β σ F H ft ρ' r pu P Q) :
    okQ K CL α β σ F1 H1 ft1 ρ' r pu' P Q :=
  fun v H' F' ft' fp R' s' x n p => h v H' F' ft' fp R' (s.trans R s') x (n.stp s) fun z => ((hp z).1).trans (p (hp z).2)
/-- one expression's reading, then what is wished of its result -/
theorem wsh_bnd {α β : Type} {m : M α} {f : α → Env → M β} {γ δ : Type} {pu pu1 : Bool} {P : Hp → Hp → Ft → α → γ → List Addr → Prop} {P2 : Hp → Hp → Ft → β → δ → List Addr → Prop} {Q : γ → Hp → Prop} {Q2 : δ → Hp → Prop}
    (h : wsh K CL W (bnd m f) σ F H ft pu P2 Q2)
    (k : ∀ r ρ1 v H1 F1 ft1 fp, Rel K CL F1 H1 σ ρ1 ft1 → Stp F H ft F1 H1 ft1 → P F1 H1 ft1 r v fp → New H ft fp → (pu1 = true → Sub H H1) → wsh K CL W (f r ρ1) σ F H ft pu P2 Q2 → Q v H1) : wsh K CL W m σ F H ft pu1 P Q := by
  cases m with
  | none => exact h
  | some o =>
    cases o with
    | ok r ρ1 => exact fun v H1 F1 ft1 fp R s x n p => k r ρ1 v H1 F1 ft1 fp R s x n p h
    | ex c d ρ1 => exact h
/-- .. the same behind a first step, the wish left at its base -/
theorem wsh_bnd2 {F2 H2 : Hp} {ρ2 : Env} {ft2 : Ft} {α β : Type} {m : M α} {f : α → Env → M β} {γ δ : Type} {pu pu1 : Bool} {P : Hp → Hp → Ft → α → γ → List Addr → Prop} {P2 : Hp → Hp → Ft → β → δ → List Addr → Prop} {Q : γ → Hp → Prop} {Q2 : δ → Hp → Prop}
    (R2 : Rel K CL F2 H2 σ ρ2 ft2) (s0 : Stp F H ft F2 H2 ft2) (h : wsh K CL W (bnd m f) σ F H ft pu P2 Q2)
    (k : ∀ r ρ1 v H1 F1 ft1 fp, Rel K CL F1 H1 σ ρ1 ft1 → Stp F2 H2 ft2 F1 H1 ft1 → P F1 H1 ft1 r v fp → New H2 ft2 fp → (pu1 = true → Sub H2 H1) → wsh K CL W (f r ρ1) σ F H ft pu P2 Q2 → Q v H1) : wsh K CL W m σ F2 H2 ft2 pu1 P Q := by
  cases m with
  | none => exact h
  | some o =>
    cases o with
    | ok r ρ1 => exact fun v H1 F1 ft1 fp R s x n p => k r ρ1 v H1 F1 ft1 fp R s x n p h
    | ex c d ρ1 => exact exQ.stp R2 s0 h
/-- the same wish from behind the step -/
theorem wsh.stp {α β : Type} {m : M α} {pu pu' : Bool} {P : Hp → Hp → Ft → α → β → List Addr → Prop} {Q : β → Hp → Prop} (R : Rel K CL F1 H1 σ ρ1 ft1) (s : Stp F H ft F1 H1 ft1) (hp : pu = true → Sub H H1 ∧ pu' = true)
    (h : wsh K CL W m σ F H ft pu P Q) : wsh K CL W m σ F1 H1 ft1 pu' P Q := by
  cases m with
  | none => exact h
  | some o =>
    cases o with
    | ok r ρ2 => exact okQ.stp R s hp h
    | ex c d ρ2 => exact exQ.stp R s h
theorem wsh_opt {α β : Type} {m : Option α} {f : α → M β} {δ : Type} {pu : Bool} {P2 : Hp → Hp → Ft → β → δ → List Addr → Prop} {Q2 : δ → Hp → Prop} (h : wsh K CL W (opt m f) σ F H ft pu P2 Q2) : ∃ a, m = some a ∧ wsh K CL W (f a) σ F H ft pu P2 Q2 := by
  cases m with
  | none => exact h.elim
  | some a => exact ⟨a, rfl, h⟩
theorem wsh_ite {β : Type} {c : Bool} {m m' : M β} {δ : Type} {pu : Bool} {P2 : Hp → Hp → Ft → β → δ → List Addr → Prop} {Q2 : δ → Hp → Prop} (h : wsh K CL W (if c then m else m') σ F H ft pu P2 Q2) (z : m' = none) : c = true ∧ wsh K CL W m σ F H ft pu P2 Q2 := by
  cases c with
  | true => exact ⟨rfl, h⟩
  | false => subst z; exact h.elim
theorem wsh_ite' {β : Type} {c : Bool} {m m' : M β} {δ : Type} {pu : Bool} {P2 : Hp → Hp → Ft → β → δ → List Addr → Prop} {Q2 : δ → Hp → Prop} (h : wsh K CL W (if c then m else m') σ F H ft pu P2 Q2) (z : m = none) : c = false ∧ wsh K CL W m' σ F H ft pu P2 Q2 := by
  cases c with
  | false => exact ⟨rfl, h⟩
  | true => subst z; exact h.elim
/-- a value that an operation made, handed out -/
theorem ok_val {pu : Bool} {Q : VK} {e : D} (R1 : Rel K CL F1 H1 σ ρ1 ft1) (s : Stp F H ft F1 H1 ft1) (hp : pu = true → Sub H H1)
    (h : okQ K CL Res V σ F H ft ρ1 (.val e) pu (fun F' H' ft' r v fp => ResOk K CL F' H' σ ft' r v fp) Q) :
    ∀ v H' F' fp', Pst F1 H1 F' H' → Rep K CL F' H' e v fp' → fp'.Nodup → (∀ a ∈ fp', H1 a = none) → Q v H' := by
  intro v H' F' fp' p r nd nw
  refine h v H' F' ft1 fp' (R1.pst p) (s.trans R1 p.stp) ⟨r, nd, fun a ha i z => ?_⟩ (fun a ha => .inr (s.dom a (nw a ha))) fun z => (hp z).trans p.hh
  obtain ⟨_, o, e0, _⟩ := R1.off z
  rw [nw a ha] at e0
  cases e0
end

/-! ### one and two places -/
theorem tE_o1 {o : O1} {a : E} {σ : L2.St} {H : Hp} {Q : VK} (h : tE K CL W cf ios (.o1 o a) σ H Q) : tE K CL W cf ios a σ H fun x H1 => OV1 K CL (o1D o) x H1 Q := by
  obtain ⟨F, ρ, ft, R, h⟩ := h
  simp only [runE] at h
  refine ⟨F, ρ, ft, R, wsh_bnd h fun r ρ1 v H1 F1 ft1 fp R1 s1 x n p h => ?_⟩
  obtain ⟨d, e1, h⟩ := wsh_opt h
  obtain ⟨e, e2, h⟩ := wsh_opt h
  obtain ⟨fp', rd⟩ := x.rd R1 e1
  exact ⟨F1, d, fp', e, R1.sub, rd, e2, ok_val R1 s1 (fun z => p (by simpa [pureE] using z)) h⟩
theorem tE_o2 {o : O2} {a b : E} {σ : L2.St} {H : Hp} {Q : VK} (h : tE K CL W cf ios (.o2 o a b) σ H Q) : tE K CL W cf ios a σ H fun x H1 => tE K CL W cf ios b σ H1 fun y H2 => OV2 K CL (o2D o) x y H2 Q := by
  obtain ⟨F, ρ, ft, R, h⟩ := h
  simp only [runE] at h
  refine ⟨F, ρ, ft, R, wsh_bnd h fun r ρ1 v H1 F1 ft1 fp R1 s1 x n p h => ?_⟩
  obtain ⟨dp, h⟩ := wsh_ite' h rfl
  refine ⟨F1, ρ1, ft1, R1, wsh_bnd (h.stp R1 s1 (pu' := pureE b) fun z => ?_) fun r' ρ2 v' H2 F2 ft2 fp2 R2 s2 x2 n2 p2 h => ?_⟩
  · simp only [pureE, Bool.and_eq_true] at z
    exact ⟨p z.1, z.2⟩
  · have x' := x.stp s2 fun z => p2 (by rw [z] at dp; simpa using dp)
    obtain ⟨d, e1, h⟩ := wsh_opt h
    obtain ⟨d', e2, h⟩ := wsh_opt h
    obtain ⟨e, e3, h⟩ := wsh_opt h
    obtain ⟨fp', rd⟩ := x'.rd R2 e1
    obtain ⟨fp'', rd'⟩ := x2.rd R2 e2
    exact ⟨F2, d, d', fp', fp'', e, R2.sub, rd, rd', e3, ok_val R2 s2 p2 h⟩
/-- a bound of a slice -/
def tO (K : PySem.W.Frag) (CL : CLT) (W : WX) (cf : CF) (ios : Str → List Bool) : Option E → TO
  | none => tNoPart
  | some e => tPart (tE K CL W cf ios e)
def partM (cf : CF) (ios : Str → List Bool) (lo : Option E) (ρ : Env) : M (Option Int) := match lo with
  | none => some (.ok none ρ)
  | some e => intM (runE cf ios e ρ)
theorem tO_step {F1 H1 : Hp} {σ : L2.St} {ρ1 : Env} {ft1 : Ft} {lo : Option E} {β δ : Type} {f : Option Int → Env → M β} {pu : Bool} {P2 : Hp → Hp → Ft → β → δ → List Addr → Prop} {Q2 : δ → Hp → Prop} {Q : Option Int → Hp → Prop} (R1 : Rel K CL F1 H1 σ ρ1 ft1) (hpu : pu = false)
    (h : wsh K CL W (bnd (partM cf ios lo ρ1) f) σ F1 H1 ft1 pu P2 Q2) (k : ∀ l ρ2 H2 F2 ft2, Rel K CL F2 H2 σ ρ2 ft2 → Stp F1 H1 ft1 F2 H2 ft2 → wsh K CL W (f l ρ2) σ F2 H2 ft2 false P2 Q2 → Q l H2) : tO K CL W cf ios lo σ H1 Q := by
  subst hpu
  cases lo with
  | none => exact k none ρ1 H1 F1 ft1 R1 .refl h
  | some e =>
    have h' : wsh K CL W (bnd (runE cf ios e ρ1) fun r ρ => bnd (match rd r ρ with
      | some (.int i) => some (.ok (some i) ρ)
      | _ => none : M (Option Int)) f) σ F1 H1 ft1 false P2 Q2 := by
      simp only [partM, intM] at h
      generalize runE cf ios e ρ1 = m at h ⊢
      cases m with
      | none => exact h
      | some o => cases o <;> exact h
    refine ⟨F1, ρ1, ft1, R1, wsh_bnd h' fun r ρ2 v H2 F2 ft2 fp R2 s2 x n p h => ?_⟩
    cases hd : rd r ρ2 with
    | none => rw [hd] at h; exact h.elim
    | some d =>
      rw [hd] at h
      cases d <;> first | exact h.elim | skip
      obtain ⟨fp', q⟩ := x.rd R2 hd
      exact ⟨_, q.int_, k _ ρ2 H2 F2 ft2 R2 s2 (wsh.stp (pu := false) (pu' := false) R2 s2 (fun z => by cases z) h)⟩
theorem tE_slc {a : E} {lo hi : Option E} {σ : L2.St} {H : Hp} {Q : VK} (h : tE K CL W cf ios (.slc a lo hi) σ H Q) : tE K CL W cf ios a σ H fun x H1 => tO K CL W cf ios lo σ H1 fun l H2 => tO K CL W cf ios hi σ H2 fun u H3 => OV1 K CL (slcD l u) x H3 Q := by
  obtain ⟨F, ρ, ft, R, h⟩ := h
  simp only [runE] at h
  refine ⟨F, ρ, ft, R, wsh_bnd h fun r ρ1 v H1 F1 ft1 fp R1 s1 x n p h => ?_⟩
  obtain ⟨dp, h⟩ := wsh_ite' h rfl
  have h : wsh K CL W (bnd (partM cf ios lo ρ1) fun l ρ2 => bnd (partM cf ios hi ρ2) fun u ρ3 => opt (rd r ρ3) fun d => opt (slcD l u d) fun y => some (.ok (.val y) ρ3)) σ F1 H1 ft1 false (fun F' H' ft' r v fp => ResOk K CL F' H' σ ft' r v fp) Q := by
    refine (show wsh K CL W _ σ F H ft (pureE (.slc a lo hi)) _ Q from ?_).stp R1 s1 (fun z => by simp [pureE] at z)
    unfold partM
    exact h
  refine tO_step R1 rfl h fun l ρ2 H2 F2 ft2 R2 s2 h => ?_
  have x2 := x.stp s2 fun z => by rw [dp] at z; cases z
  refine tO_step R2 rfl h fun u ρ3 H3 F3 ft3 R3 s3 h => ?_
  have x3 := x2.stp s3 fun z => by rw [dp] at z; cases z
  obtain ⟨d, e1, h⟩ := wsh_opt h
  obtain ⟨y, e2, h⟩ := wsh_opt h
  obtain ⟨fp', q⟩ := x3.rd R3 e1
  exact ⟨F3, d, fp', y, R3.sub, q, e2, ok_val (pu := false) R3 .refl (fun z => by cases z) h⟩
theorem ov2_mono {o : D → D → Option D} {x y : V} {H : Hp} {Q Q' : VK} (h : OV2 K CL o x y H Q) (i : ∀ v H, Q v H → Q' v H) : OV2 K CL o x y H Q' := by
  obtain ⟨F, d, d', fp, fp', e, s, r, r', he, q⟩ := h
  exact ⟨F, d, d', fp, fp', e, s, r, r', he, fun v H' F' fp' p r nd nw => i _ _ (q v H' F' fp' p r nd nw)⟩
theorem tE_ch {o o' : O2} {a b c : E} {σ : L2.St} {H : Hp} {Q : VK} (h : tE K CL W cf ios (.ch o o' a b c) σ H Q) : tE K CL W cf ios a σ H fun x H1 => tE K CL W cf ios b σ H1 fun y H2 => OV2 K CL (o2D o) x y H2 fun z H3 => ∃ k, z = .bl k ∧
    if k = true then tE K CL W cf ios c σ H3 (fun w H4 => OV2 K CL (o2D o') y w H4 Q) else Q (.bl false) H3 := by
  obtain ⟨F, ρ, ft, R, h⟩ := h
  simp only [runE] at h
  obtain ⟨hp, h⟩ := wsh_ite' h rfl
  simp only [Bool.not_eq_false', Bool.and_eq_true] at hp
  refine ⟨F, ρ, ft, R, wsh_bnd h fun r ρ1 v H1 F1 ft1 fp R1 s1 x n p h => ?_⟩
  have h := wsh.stp (pu' := false) R1 s1 (fun z => by simp [pureE] at z) h
  refine ⟨F1, ρ1, ft1, R1, wsh_bnd h fun r' ρ2 v' H2 F2 ft2 fp2 R2 s2 x2 n2 p2 h => ?_⟩
  have h := wsh.stp (pu' := false) R2 s2 (fun z => by cases z) h
  have x' := x.stp s2 fun z => p2 hp.1
  obtain ⟨d, e1, h⟩ := wsh_opt h
  obtain ⟨d', e2, h⟩ := wsh_opt h
  obtain ⟨e, e3, h⟩ := wsh_opt h
  obtain ⟨fp', q1⟩ := x'.rd R2 e1
  obtain ⟨fp'', q2⟩ := x2.rd R2 e2
  refine ⟨F2, d, d', fp', fp'', e, R2.sub, q1, q2, e3, fun z H3 F3 fp3 pst rz nd nw => ?_⟩
  have R3 := R2.pst pst
  cases e with
  | bl k =>
    cases rz.bl_
    refine ⟨k, rfl, ?_⟩
    cases k with
    | true =>
      have h := wsh.stp (pu' := false) R3 pst.stp (fun z => by cases z) h
      have x3 := x2.stp pst.stp fun z => pst.hh
      refine ⟨F3, ρ2, ft2, R3, wsh_bnd h fun r'' ρ3 w H4 F4 ft4 fp4 R4 s4 x4 n4 p4 h => ?_⟩
      have h := wsh.stp (pu' := false) R4 s4 (fun z => by cases z) h
      have x5 := x3.stp s4 fun z => p4 hp.2
      obtain ⟨u, f1, h⟩ := wsh_opt h
      obtain ⟨u', f2, h⟩ := wsh_opt h
      obtain ⟨g, f3, h⟩ := wsh_opt h
      obtain ⟨_, q3⟩ := x5.rd R4 f1
      obtain ⟨_, q4⟩ := x4.rd R4 f2
      exact ⟨F4, u, u', _, _, g, R4.sub, q3, q4, f3, ok_val (pu := false) R4 .refl (fun z => by cases z) h⟩
    | false => exact ok_val (pu := false) R2 .refl (fun z => by cases z) h (.bl false) H3 F3 fp3 pst rz nd nw
  | _ => exact h.elim
/-! ### bools -/
theorem blRes_some {r : Res} {ρ : Env} {k : Bool → M Res} {β : Type} {F H : Hp} {σ : L2.St} {ft : Ft} {pu : Bool} {P : Hp → Hp → Ft → Res → β → List Addr → Prop} {Q : β → Hp → Prop}
    (h : wsh K CL W (blRes r ρ k) σ F H ft pu P Q) : ∃ b, rd r ρ = some (.bl b) ∧ wsh K CL W (k b) σ F H ft pu P Q := by
  unfold blRes at h
  split at h
  · exact ⟨_, by assumption, h⟩
  · exact h.elim
theorem ResOk.bl {F H : Hp} {σ : L2.St} {ρ : Env} {ft : Ft} {r : Res} {v : V} {fp : List Addr} {b : Bool} (x : ResOk K CL F H σ ft r v fp) (R : Rel K CL F H σ ρ ft) (e : Cov.rd r ρ = some (.bl b)) : v = .bl b := by
  obtain ⟨fp', rd⟩ := x.rd R e
  exact rd.bl_
theorem okQ.bl {F H : Hp} {σ : L2.St} {ρ : Env} {ft : Ft} {b : Bool} {pu : Bool} {Q : VK} (R : Rel K CL F H σ ρ ft) (h : okQ K CL Res V σ F H ft ρ (.val (.bl b)) pu (fun F' H' ft' r v fp => ResOk K CL F' H' σ ft' r v fp) Q) : Q (.bl b) H :=
  h (.bl b) H F ft [] R .refl ⟨rep_bl, List.nodup_nil, fun _ z => nomatch z⟩ (fun _ z => nomatch z) fun _ => .refl
theorem tE_and {a b : E} {σ : L2.St} {H : Hp} {Q : VK} (h : tE K CL W cf ios (.and_ a b) σ H Q) : tAndV (tE K CL W cf ios a) (tE K CL W cf ios b) σ H Q := by
  obtain ⟨F, ρ, ft, R, h⟩ := h
  simp only [runE] at h
  refine ⟨F, ρ, ft, R, wsh_bnd h fun r ρ1 v H1 F1 ft1 fp R1 s1 x n p h => ?_⟩
  obtain ⟨k, e1, h⟩ := blRes_some h
  refine ⟨k, x.bl R1 e1, ?_⟩
  cases k with
  | false =>
    simp only [Bool.false_eq_true, if_false] at h ⊢
    exact (okQ.stp R1 s1 (pu' := true) (fun z => ⟨p (by simp only [pureE, Bool.and_eq_true] at z; exact z.1), rfl⟩) h).bl R1
  | true =>
    simp only [if_true] at h ⊢
    refine ⟨F1, ρ1, ft1, R1, wsh_bnd (h.stp R1 s1 (pu' := pureE b) fun z => ?_) fun r' ρ2 v' H2 F2 ft2 fp2 R2 s2 x2 n2 p2 h => ?_⟩
    · simp only [pureE, Bool.and_eq_true] at z
      exact ⟨p z.1, z.2⟩
    · obtain ⟨k', e2, h⟩ := blRes_some h
      rw [x2.bl R2 e2]
      exact (okQ.stp R2 s2 (pu' := true) (fun z => ⟨p2 z, rfl⟩) h).bl R2
theorem tE_or {a b : E} {σ : L2.St} {H : Hp} {Q : VK} (h : tE K CL W cf ios (.or_ a b) σ H Q) : tOrV (tE K CL W cf ios a) (tE K CL W cf ios b) σ H Q := by
  obtain ⟨F, ρ, ft, R, h⟩ := h
  simp only [runE] at h
  refine ⟨F, ρ, ft, R, wsh_bnd h fun r ρ1 v H1 F1 ft1 fp R1 s1 x n p h => ?_⟩
  obtain ⟨k, e1, h⟩ := blRes_some h
  refine ⟨k, x.bl R1 e1, ?_⟩
  cases k with
  | true =>
    simp only [if_true] at h ⊢
    exact (okQ.stp R1 s1 (pu' := true) (fun z => ⟨p (by simp only [pureE, Bool.and_eq_true] at z; exact z.1), rfl⟩) h).bl R1
  | false =>
    simp only [Bool.false_eq_true, if_false] at h ⊢
    refine ⟨F1, ρ1, ft1, R1, wsh_bnd (h.stp R1 s1 (pu' := pureE b) fun z => ?_) fun r' ρ2 v' H2 F2 ft2 fp2 R2 s2 x2 n2 p2 h => ?_⟩
    · simp only [pureE, Bool.and_eq_true] at z
      exact ⟨p z.1, z.2⟩
    · obtain ⟨k', e2, h⟩ := blRes_some h
      rw [x2.bl R2 e2]
      exact (okQ.stp R2 s2 (pu' := true) (fun z => ⟨p2 z, rfl⟩) h).bl R2
theorem tE_not {a : E} {σ : L2.St} {H : Hp} {Q : VK} (h : tE K CL W cf ios (.not_ a) σ H Q) : tNotV (tE K CL W cf ios a) σ H Q := by
  obtain ⟨F, ρ, ft, R, h⟩ := h
  simp only [runE] at h
  refine ⟨F, ρ, ft, R, wsh_bnd h fun r ρ1 v H1 F1 ft1 fp R1 s1 x n p h => ?_⟩
  obtain ⟨k, e1, h⟩ := blRes_some h
  refine ⟨k, x.bl R1 e1, ?_⟩
  exact (okQ.stp R1 s1 (pu' := true) (fun z => ⟨p (by simpa only [pureE] using z), rfl⟩) h).bl R1
/-- as tests -/
def tT (K : PySem.W.Frag) (CL : CLT) (W : WX) (cf : CF) (ios : Str → List Bool) (e : E) : TT := tB (tE K CL W cf ios e)
theorem tE_ife {t a b : E} {σ : L2.St} {H : Hp} {Q : VK} (h : tE K CL W cf ios (.ife t a b) σ H Q) : tIf (tT K CL W cf ios t) (tE K CL W cf ios a) (tE K CL W cf ios b) σ H Q := by
  obtain ⟨F, ρ, ft, R, h⟩ := h
  simp only [runE] at h
  refine ⟨F, ρ, ft, R, wsh_bnd h fun r ρ1 v H1 F1 ft1 fp R1 s1 x n p h => ?_⟩
  obtain ⟨k, e1, h⟩ := blRes_some h
  refine ⟨k, x.bl R1 e1, ?_⟩
  cases k with
  | true => exact ⟨F1, ρ1, ft1, R1, h.stp R1 s1 fun z => by simp [pureE] at z⟩
  | false => exact ⟨F1, ρ1, ft1, R1, h.stp R1 s1 fun z => by simp [pureE] at z⟩
/-- and, or, not as tests -/
theorem tT_and {a b : E} {σ : L2.St} {H : Hp} {Q : Bool → Hp → Prop} (h : tT K CL W cf ios (.and_ a b) σ H Q) : tAnd (tT K CL W cf ios a) (tT K CL W cf ios b) σ H Q := by
  obtain ⟨F, ρ, ft, R, h⟩ := tE_and h
  refine ⟨F, ρ, ft, R, ?_⟩
  generalize runE cf ios a ρ = m at h ⊢
  cases m with
  | none => exact h
  | some o =>
    cases o with
    | ex c d ρ1 => exact h
    | ok r ρ1 =>
      intro v H1 F1 ft1 fp R1 s1 x n p
      obtain ⟨c, e, h1⟩ := h v H1 F1 ft1 fp R1 s1 x n p
      refine ⟨c, e, ?_⟩
      cases c with
      | true => exact h1
      | false =>
        obtain ⟨c, e, h2⟩ := h1
        cases e
        exact h2
theorem tT_or {a b : E} {σ : L2.St} {H : Hp} {Q : Bool → Hp → Prop} (h : tT K CL W cf ios (.or_ a b) σ H Q) : tOr (tT K CL W cf ios a) (tT K CL W cf ios b) σ H Q := by
  obtain ⟨F, ρ, ft, R, h⟩ := tE_or h
  refine ⟨F, ρ, ft, R, ?_⟩
  generalize runE cf ios a ρ = m at h ⊢
  cases m with
  | none => exact h
  | some o =>
    cases o with
    | ex c d ρ1 => exact h
    | ok r ρ1 =>
      intro v H1 F1 ft1 fp R1 s1 x n p
      obtain ⟨c, e, h1⟩ := h v H1 F1 ft1 fp R1 s1 x n p
      refine ⟨c, e, ?_⟩
      cases c with
      | false => exact h1
      | true =>
        obtain ⟨c, e, h2⟩ := h1
        cases e
        exact h2
theorem tT_not {a : E} {σ : L2.St} {H : Hp} {Q : Bool → Hp → Prop} (h : tT K CL W cf ios (.not_ a) σ H Q) : tNot (tT K CL W cf ios a) σ H Q := by
  obtain ⟨F, ρ, ft, R, h⟩ := tE_not h
  refine ⟨F, ρ, ft, R, ?_⟩
  generalize runE cf ios a ρ = m at h ⊢
  cases m with
  | none => exact h
  | some o =>
    cases o with
    | ex c d ρ1 => exact h
    | ok r ρ1 =>
      intro v H1 F1 ft1 fp R1 s1 x n p
      obtain ⟨c, e, c', e', h1⟩ := h v H1 F1 ft1 fp R1 s1 x n p
      cases e'
      exact ⟨c, e, h1⟩
end
end Cov

/-! Cov7: names, displays, methods of lists. -/
namespace Cov
open PySem L2
section
variable {K : PySem.W.Frag} {CL : CLT} {W : WX} {cf : CF} {ios : Str → List Bool}
theorem tE_v {i : Nat} {σ : L2.St} {H : Hp} {Q : VK} (h : tE K CL W cf ios (.v i) σ H Q) : tVar i σ H Q := by
  obtain ⟨F, ρ, ft, R, h⟩ := h
  simp only [runE] at h
  obtain ⟨d, e, h⟩ := wsh_opt h
  obtain ⟨v, e1, r⟩ := R.rep i d e
  refine ⟨v, e1, ?_⟩
  cases z : isFz d with
  | true =>
    rw [z] at h
    have hz := r.fz_nil z
    rw [hz] at r
    exact h v H F ft [] R .refl ⟨r, List.nodup_nil, fun _ z => nomatch z⟩ (fun _ z => nomatch z) fun _ => .refl
  | false =>
    rw [z] at h
    exact h v H F ft [] R .refl ⟨rfl, v, e1, rfl⟩ (fun _ z => nomatch z) fun _ => .refl
theorem tE_c {d : D} {v : V} {σ : L2.St} {H : Hp} {Q : VK} (hd : ∀ F H, Rep K CL F H d v []) (h : tE K CL W cf ios (.c d) σ H Q) : tC v σ H Q := by
  obtain ⟨F, ρ, ft, R, h⟩ := h
  simp only [runE] at h
  exact h v H F ft [] R .refl ⟨hd F H, List.nodup_nil, fun _ z => nomatch z⟩ (fun _ z => nomatch z) fun _ => .refl
theorem tE_g {x : Str} {d : D} {v : V} {σ : L2.St} {H : Hp} {Q : VK} (hd : ∀ F H, Rep K CL F H d v []) (h : tE K CL W cf ios (.g x d) σ H Q) : tC v σ H Q := by
  obtain ⟨F, ρ, ft, R, h⟩ := h
  simp only [runE] at h
  exact h v H F ft [] R .refl ⟨hd F H, List.nodup_nil, fun _ z => nomatch z⟩ (fun _ z => nomatch z) fun _ => .refl

/-! ### several -/
theorem RessOk.stp {F H F' H' : Hp} {σ : L2.St} {ft ft' : Ft} (s : Stp F H ft F' H' ft') : ∀ {rs : List Res} {vs : List V} {fp : List Addr}, RessOk K CL F H σ ft rs vs fp → (rs.any deep = true → Sub H H') → RessOk K CL F' H' σ ft' rs vs fp
  | [], _, _, h, _ => h
  | r :: rs, vs, fp, ⟨v, vr, f1, f2, e1, e2, h1, h2, h3⟩, k => ⟨v, vr, f1, f2, e1, e2, h1.stp s fun z => k (by simp [z]), RessOk.stp s h2 fun z => k (by simp only [List.any_cons, z, Bool.or_true]), h3⟩
theorem ResOk.fp_ {F H : Hp} {σ : L2.St} {ft : Ft} {r : Res} {v : V} {fp : List Addr} (h : ResOk K CL F H σ ft r v fp) : ∀ a ∈ fp, F a = none ∧ (∃ o, H a = some o) ∧ ∀ i, a ∉ ft i := by
  cases r with
  | val d => exact fun a ha => ⟨(h.1.fp a ha).1, let ⟨o, e, _⟩ := (h.1.fp a ha).2; ⟨o, e⟩, h.2.2 a ha⟩
  | «at» i p => rw [h.1]; exact fun _ z => nomatch z
theorem RessOk.fp_ {F H : Hp} {σ : L2.St} {ft : Ft} : ∀ {rs : List Res} {vs : List V} {fp : List Addr}, RessOk K CL F H σ ft rs vs fp → ∀ a ∈ fp, F a = none ∧ (∃ o, H a = some o) ∧ ∀ i, a ∉ ft i
  | [], _, _, h, a, ha => by rw [h.2] at ha; cases ha
  | r :: rs, vs, fp, ⟨v, vr, f1, f2, e1, e2, h1, h2, h3⟩, a, ha => by
    rw [e2] at ha
    rcases List.mem_append.mp ha with z | z
    · exact h1.fp_ a z
    · exact RessOk.fp_ h2 a z
theorem tL_nil {σ : L2.St} {H : Hp} {Q : List V → Hp → Prop} (h : tL K CL W cf ios [] σ H Q) : tNil σ H Q := by
  obtain ⟨F, ρ, ft, R, h⟩ := h
  simp only [runL] at h
  exact h [] H F ft [] R .refl ⟨rfl, rfl⟩ (fun _ z => nomatch z) fun _ => .refl
theorem tL_cons {e : E} {es : List E} {σ : L2.St} {H : Hp} {Q : List V → Hp → Prop} (h : tL K CL W cf ios (e :: es) σ H Q) : tCons (tE K CL W cf ios e) (tL K CL W cf ios es) σ H Q := by
  obtain ⟨F, ρ, ft, R, h⟩ := h
  simp only [runL] at h
  refine ⟨F, ρ, ft, R, wsh_bnd h fun r ρ1 v H1 F1 ft1 fp R1 s1 x n p h => ?_⟩
  obtain ⟨dp, h⟩ := wsh_ite' h rfl
  refine ⟨F1, ρ1, ft1, R1, wsh_bnd2 R1 s1 h fun rs ρ2 vs H2 F2 ft2 fp2 R2 s2 x2 n2 p2 h => ?_⟩
  have x' := x.stp s2 fun z => p2 (by rw [z] at dp; simpa using dp)
  refine h (v :: vs) H2 F2 ft2 (fp ++ fp2) R2 (s1.trans R1 s2) ⟨v, vs, fp, fp2, rfl, rfl, x', x2, fun a h1 h2 => ?_⟩ (fun a ha => ?_) fun z => ?_
  · obtain ⟨_, ⟨o, e⟩, nf⟩ := x.fp_ a h1
    rcases n2 a h2 with ⟨j, q⟩ | q
    · exact nf j q
    · rw [e] at q; cases q
  · rcases List.mem_append.mp ha with z | z
    · exact n a z
    · exact n2.stp s1 a z
  · simp only [pureL, Bool.and_eq_true] at z
    exact (p z.1).trans (p2 z.2)

/-! ### taken to be kept -/
/-- what is frozen of the addresses l -/
def fzF (F H : Hp) (l : List Addr) : Hp := fun a => if a ∈ l then H a else F a
theorem fzF_in {F H : Hp} {l : List Addr} {a : Addr} (h : a ∈ l) : fzF F H l a = H a := if_pos h
theorem fzF_out {F H : Hp} {l : List Addr} {a : Addr} (h : a ∉ l) : fzF F H l a = F a := if_neg h
theorem fzF_mono {F H : Hp} {l : List Addr} (s : Sub F H) : Sub F (fzF F H l) := fun a o e => by
  unfold fzF
  split
  · exact s a o e
  · exact e
theorem fzF_sub {F H : Hp} {l : List Addr} (s : Sub F H) : Sub (fzF F H l) H := fun a o e => by
  unfold fzF at e
  split at e
  · exact e
  · exact s a o e
theorem Rel.fz {F H : Hp} {σ : L2.St} {ρ : Env} {ft : Ft} (R : Rel K CL F H σ ρ ft) {l : List Addr} (n : ∀ a ∈ l, ∀ i, a ∉ ft i) : Rel K CL (fzF F H l) H σ ρ ft where
  sub := fzF_sub R.sub
  len := R.len
  rep := fun i d e => by
    obtain ⟨v, e1, r⟩ := R.rep i d e
    exact ⟨v, e1, r.mono (fzF_mono R.sub) (fun _ _ => rfl) fun a ha => by
      rw [fzF_out (fun z => n a z i ha)]
      exact (r.fp a ha).1⟩
  emp := R.emp
  nd := R.nd
  dis := R.dis
  exc := fun a d f k e => fzF_mono R.sub _ _ (R.exc a d f k e)
/-- a slot's thing is frozen -/
theorem Rel.fzSlot {F H : Hp} {σ : L2.St} {ρ : Env} {ft : Ft} {i : Nat} {d : D} (R : Rel K CL F H σ ρ ft) (e : gt ρ i = some d) :
    Rel K CL (fzF F H (ft i)) H σ (ρ.set i (some (frz d))) (upF ft i []) ∧ Stp F H ft (fzF F H (ft i)) H (upF ft i []) ∧ ∃ v, σ[i]? = some (some v) ∧ Rep K CL (fzF F H (ft i)) H (frz d) v [] := by
  obtain ⟨v, e1, r⟩ := R.rep i d e
  have r' : Rep K CL (fzF F H (ft i)) H (frz d) v [] := r.frz (fzF_mono R.sub) fun a ha => fzF_in ha
  have hi := gt_lt e
  refine ⟨⟨fzF_sub R.sub, by rw [List.length_set]; exact R.len, fun j d' ej => ?_, fun j ej => ?_, fun j => ?_, fun j k a h1 h2 => ?_, fun a d f k e => fzF_mono R.sub _ _ (R.exc a d f k e)⟩, ⟨fun a o h _ => h, fun a h => h, fun j a h => ?_, fun a o h => ?_, fzF_mono R.sub⟩, v, e1, r'⟩
  · rw [gt_set] at ej
    by_cases q : j = i
    · subst q
      rw [if_pos rfl, if_pos hi] at ej
      cases ej
      exact ⟨v, e1, by rw [upF_same]; exact r'⟩
    · rw [if_neg q] at ej
      obtain ⟨w, e2, r2⟩ := R.rep j d' ej
      refine ⟨w, e2, ?_⟩
      rw [upF_ne q]
      refine r2.mono (fzF_mono R.sub) (fun _ _ => rfl) fun a ha => ?_
      rw [fzF_out (fun z => q (R.dis j i a ha z))]
      exact (r2.fp a ha).1
  · rw [gt_set] at ej
    by_cases q : j = i
    · subst q; exact upF_same
    · rw [if_neg q] at ej
      rw [upF_ne q]
      exact R.emp j ej
  · by_cases q : j = i
    · subst q; rw [upF_same]; exact List.nodup_nil
    · rw [upF_ne q]; exact R.nd j
  · by_cases q : j = i
    · subst q; rw [upF_same] at h1; cases h1
    · by_cases q2 : k = i
      · subst q2; rw [upF_same] at h2; cases h2
      · rw [upF_ne q] at h1
        rw [upF_ne q2] at h2
        exact R.dis j k a h1 h2
  · by_cases q : j = i
    · subst q; rw [upF_same] at h; cases h
    · rw [upF_ne q] at h
      exact .inl ⟨j, h⟩
  · unfold fzF at h
    split at h
    · exact .inr (.inl ⟨i, by assumption⟩)
    · exact .inl h
theorem tk_ok {F H : Hp} {σ : L2.St} {ρ ρ' : Env} {ft : Ft} {r : Res} {v : V} {fp : List Addr} {d : D} (R : Rel K CL F H σ ρ ft) (x : ResOk K CL F H σ ft r v fp) (e : tk r ρ = some (d, ρ')) :
    ∃ F' ft', Rel K CL F' H σ ρ' ft' ∧ Stp F H ft F' H ft' ∧ Rep K CL F' H d v fp ∧ fp.Nodup ∧ ∀ a ∈ fp, ∀ i, a ∉ ft' i := by
  cases r with
  | val d0 =>
    simp only [tk, Option.some.injEq, Prod.mk.injEq] at e
    obtain ⟨rfl, rfl⟩ := e
    exact ⟨F, ft, R, .refl, x.1, x.2.1, x.2.2⟩
  | «at» i p =>
    cases p with
    | cons _ _ => simp [tk] at e
    | nil =>
      obtain ⟨rfl, v0, e0, pv⟩ := x
      cases pv
      simp only [tk, Option.bind_eq_some_iff] at e
      obtain ⟨d0, e1, e2⟩ := e
      have e3 : d = frz d0 ∧ ρ' = ρ.set i (some (frz d0)) := by
        split at e2
        · cases e2
        · simp only [Option.some.injEq, Prod.mk.injEq] at e2
          exact ⟨e2.1.symm, e2.2.symm⟩
      obtain ⟨rfl, rfl⟩ := e3
      obtain ⟨R', s', w, e4, r'⟩ := R.fzSlot e1
      rw [e0] at e4
      cases e4
      exact ⟨_, _, R', s', r', List.nodup_nil, fun _ z => nomatch z⟩
theorem tkAll_ok : ∀ {rs : List Res} {vs : List V} {fp : List Addr} {ds : List D} {F H : Hp} {σ : L2.St} {ρ ρ' : Env} {ft : Ft}, Rel K CL F H σ ρ ft → RessOk K CL F H σ ft rs vs fp → tkAll rs ρ = some (ds, ρ') →
    ∃ F' ft', Rel K CL F' H σ ρ' ft' ∧ Stp F H ft F' H ft' ∧ Reps K CL F' H ds vs fp ∧ fp.Nodup ∧ ∀ a ∈ fp, ∀ i, a ∉ ft' i
  | [], vs, fp, ds, F, H, σ, ρ, ρ', ft, R, x, e => by
    simp only [tkAll, Option.some.injEq, Prod.mk.injEq] at e
    obtain ⟨rfl, rfl⟩ := e
    obtain ⟨rfl, rfl⟩ := x
    exact ⟨F, ft, R, .refl, Reps.nil, List.nodup_nil, fun _ z => nomatch z⟩
  | r :: rs, vs, fp, ds, F, H, σ, ρ, ρ', ft, R, x, e => by
    obtain ⟨v, vr, f1, f2, rfl, rfl, x1, x2, dj⟩ := x
    simp only [tkAll, Option.bind_eq_some_iff] at e
    obtain ⟨⟨d, ρ1⟩, e1, ⟨ds1, ρ2⟩, e2, e3⟩ := e
    simp only [Option.some.injEq, Prod.mk.injEq] at e3
    obtain ⟨rfl, rfl⟩ := e3
    obtain ⟨F1, ft1, R1, s1, r1, n1, o1⟩ := tk_ok R x1 e1
    obtain ⟨F2, ft2, R2, s2, r2, n2, o2⟩ := tkAll_ok R1 (RessOk.stp s1 x2 fun _ => .refl) e2
    refine ⟨F2, ft2, R2, s1.trans R1 s2, ?_, ?_, fun a ha i z => ?_⟩
    · simp only [Reps]
      exact ⟨v, vr, f1, f2, rfl, rfl, r1.stp s2 o1, r2⟩
    · exact List.nodup_append.mpr ⟨n1, n2, fun a h1 b h2 q => dj a h1 (q ▸ h2)⟩
    · rcases List.mem_append.mp ha with q | q
      · rcases s2.own i a z with ⟨j, w⟩ | w
        · exact o1 a q j w
        · obtain ⟨_, o, e, _⟩ := r1.fp a q
          rw [e] at w; cases w
      · exact o2 a q i z
/-- temporaries frozen behind a step -/
theorem fz_stp {F H F2 H2 : Hp} {σ : L2.St} {ρ : Env} {ft ft2 : Ft} {l : List Addr} (R : Rel K CL F2 H2 σ ρ ft2) (s : Stp F H ft F2 H2 ft2) (n : New H ft l) (o : ∀ a ∈ l, ∀ i, a ∉ ft2 i) :
    Rel K CL (fzF F2 H2 l) H2 σ ρ ft2 ∧ Stp F H ft (fzF F2 H2 l) H2 ft2 :=
  ⟨R.fz o, ⟨s.fr, s.dom, s.own, fun a u h => by
    unfold fzF at h
    split at h
    · exact .inr (n a (by assumption))
    · exact s.fro a u h, s.mono.trans (fzF_mono R.sub)⟩⟩
theorem tE_tup {es : List E} {σ : L2.St} {H : Hp} {Q : VK} (h : tE K CL W cf ios (.tup es) σ H Q) : tTup (tL K CL W cf ios es) σ H Q := by
  obtain ⟨F, ρ, ft, R, h⟩ := h
  simp only [runE] at h
  refine ⟨F, ρ, ft, R, wsh_bnd h fun rs ρ1 vs H1 F1 ft1 fp R1 s1 x n p h => ?_⟩
  obtain ⟨⟨ds, ρ2⟩, e, h⟩ := wsh_opt h
  obtain ⟨F2, ft2, R2, s2, r2, n2, o2⟩ := tkAll_ok R1 x e
  simp only at h
  split at h
  · rename_i hz
    obtain ⟨R3, s3⟩ := fz_stp R2 (s1.trans R1 s2) n o2
    have r3 : Reps K CL (fzF F2 H1 fp) H1 (frzL ds) vs [] := r2.frz (fzF_mono R2.sub) fun a ha => fzF_in ha
    refine ⟨by rw [r2.length]; exact hz, fun q hq => ?_⟩
    exact tup_ends R3.sub hq r3 (ok_val R3 s3 (fun z => by simp [pureE] at z) h)
  · exact h.elim
theorem tE_lst {es : List E} {σ : L2.St} {H : Hp} {Q : VK} (h : tE K CL W cf ios (.lst false es) σ H Q) : tLst (tL K CL W cf ios es) σ H Q := by
  obtain ⟨F, ρ, ft, R, h⟩ := h
  simp only [runE] at h
  refine ⟨F, ρ, ft, R, wsh_bnd h fun rs ρ1 vs H1 F1 ft1 fp R1 s1 x n p h => ?_⟩
  obtain ⟨⟨ds, ρ2⟩, e, h⟩ := wsh_opt h
  obtain ⟨F2, ft2, R2, s2, r2, n2, o2⟩ := tkAll_ok R1 x e
  simp only at h
  split at h
  · rename_i hz
    obtain ⟨R3, s3⟩ := fz_stp R2 (s1.trans R1 s2) n o2
    have r3 : Reps K CL (fzF F2 H1 fp) H1 (frzL ds) vs [] := r2.frz (fzF_mono R2.sub) fun a ha => fzF_in ha
    refine ⟨by rw [r2.length]; exact hz, fun q hq => ?_⟩
    exact list_ends R3.sub hq r3 (ok_val R3 s3 (fun z => by simp [pureE] at z) h)
  · exact h.elim

/-! ### a list at a slot is changed -/
/-- the thing at a slot is written anew, at its own address -/
theorem Rel.wr {F H : Hp} {σ : L2.St} {ρ : Env} {ft : Ft} {i : Nat} {d d' : D} {l : Addr} {u0 : HO} (R : Rel K CL F H σ ρ ft) (e : gt ρ i = some d) (hl : l ∈ ft i) (hs : σ[i]? = some (some (.ref l)))
    (hr : Rep K CL F (upd H l u0) d' (.ref l) (ft i)) : Rel K CL F (upd H l u0) σ (ρ.set i (some d')) ft ∧ Stp F H ft F (upd H l u0) ft := by
  obtain ⟨fl, o, ol, _⟩ := R.off hl
  have hi := gt_lt e
  refine ⟨⟨fun a u h => ?_, by rw [List.length_set]; exact R.len, fun j dj ej => ?_, fun j ej => ?_, R.nd, R.dis, R.exc⟩, ⟨fun a u h n => ?_, fun a h => ?_, fun j a h => .inl ⟨j, h⟩, fun a u h => .inl h, .refl⟩⟩
  · have : a ≠ l := fun z => by rw [z, fl] at h; cases h
    rw [upd_ne this]
    exact R.sub a u h
  · rw [gt_set] at ej
    by_cases q : j = i
    · subst q
      rw [if_pos rfl, if_pos hi] at ej
      cases ej
      exact ⟨_, hs, hr⟩
    · rw [if_neg q] at ej
      obtain ⟨w, e2, r2⟩ := R.rep j dj ej
      exact ⟨w, e2, r2.mono .refl (fun a ha => upd_ne fun z => q (R.dis j i a ha (by rw [z]; exact hl))) fun a ha => (r2.fp a ha).1⟩
  · rw [gt_set] at ej
    by_cases q : j = i
    · subst q
      rw [if_pos rfl, if_pos hi] at ej
      cases ej
    · rw [if_neg q] at ej
      exact R.emp j ej
  · rw [upd_ne fun z => n i (by rw [z]; exact hl)]
    exact h
  · by_cases z : a = l
    · subst z
      rw [upd_same] at h
      cases h
    · rwa [upd_ne z] at h
/-- an owned list at a slot -/
theorem Rel.lst {F H : Hp} {σ : L2.St} {ρ : Env} {ft : Ft} {i : Nat} {ds : List D} (R : Rel K CL F H σ ρ ft) (e : gt ρ i = some (.lst .ow ds)) : ∃ l vs, σ[i]? = some (some (.ref l)) ∧ ft i = [l] ∧ H l = some (.lst vs) ∧ F l = none ∧ Reps K CL F H ds vs [] := by
  obtain ⟨v, e1, r⟩ := R.rep i _ e
  simp only [Rep] at r
  obtain ⟨l, vs, rfl, e2, e3, e4, e5⟩ := r
  exact ⟨l, vs, e1, e2, e3, e4, e5⟩
theorem Rel.wrLst {F H : Hp} {σ : L2.St} {ρ : Env} {ft : Ft} {i : Nat} {ds ds' : List D} {l : Addr} {ws : List V} (R : Rel K CL F H σ ρ ft) (e : gt ρ i = some (.lst .ow ds)) (hs : σ[i]? = some (some (.ref l))) (hf : ft i = [l]) (hr : Reps K CL F H ds' ws []) :
    Rel K CL F (upd H l (.lst ws)) σ (ρ.set i (some (.lst .ow ds'))) ft ∧ Stp F H ft F (upd H l (.lst ws)) ft := by
  have hl : l ∈ ft i := by rw [hf]; exact List.mem_singleton.mpr rfl
  refine R.wr e hl hs ?_
  simp only [Rep]
  exact ⟨l, ws, rfl, hf, upd_same, (R.off hl).1, hr.any .refl⟩
/-- what a method of lists does, by values -/
def rMu (m : Mu) : V → List V → Hp → VK → Prop := match m with
  | .append => rAppend
  | .extend => rExtendR
  | .pop => rPop
  | .reverse => rReverse
def muN : Mu → Str
  | .append => "append"
  | .extend => "extend"
  | .pop => "pop"
  | .reverse => "reverse"
theorem isLst_some {o : Option D} (h : isLst o = true) : ∃ ds, o = some (.lst .ow ds) := by
  unfold isLst at h
  split at h
  · exact ⟨_, rfl⟩
  · cases h
theorem tE_mu {m : Mu} {b : E} {es : List E} {σ : L2.St} {H : Hp} {Q : VK} (h : tE K CL W cf ios (.mu m b es) σ H Q) :
    tBM K "list" (rMu m) (tE K CL W cf ios b) (tL K CL W cf ios es) σ H Q := by
  obtain ⟨F, ρ, ft, R, h⟩ := h
  simp only [runE] at h
  refine ⟨F, ρ, ft, R, wsh_bnd h fun r ρ1 v H1 F1 ft1 fp R1 s1 x n p h => ?_⟩
  obtain ⟨hl, h⟩ := wsh_ite h rfl
  obtain ⟨ds0, e0⟩ := isLst_some hl
  have ty : tyV K "list" v H1 := by
    obtain ⟨fp', rd0⟩ := x.rd R1 e0
    obtain ⟨a, vs, rfl, q, _⟩ := rd0.list_ R1.sub
    exact .inl ⟨rfl, vs, q⟩
  refine ⟨ty, F1, ρ1, ft1, R1, wsh_bnd2 R1 s1 h fun rs ρ2 vs H2 F2 ft2 fp2 R2 s2 x2 n2 p2 h => ?_⟩
  obtain ⟨⟨as, ρ3⟩, e, h⟩ := wsh_opt h
  obtain ⟨F3, ft3, R3, s3, r3, n3, o3⟩ := tkAll_ok R2 x2 e
  cases r with
  | val d => exact h.elim
  | «at» i p =>
    cases p with
    | cons _ _ => exact h.elim
    | nil =>
      obtain ⟨d, e1, h⟩ := wsh_opt h
      obtain ⟨⟨d1, d2⟩, e2, h⟩ := wsh_opt h
      obtain ⟨rfl, v0, ev, pv⟩ := x
      cases pv
      obtain ⟨R4, s4⟩ := fz_stp R3 ((s1.trans R1 s2).trans R2 s3) (n2.stp s1) o3
      have r4 : Reps K CL (fzF F3 H2 fp2) H2 (frzL as) vs [] := r3.frz (fzF_mono R3.sub) fun a ha => fzF_in ha
      cases d with
      | lst o ds =>
        cases o with
        | ow =>
          obtain ⟨l, ys, g1, g2, g3, g4, g5⟩ := R4.lst e1
          rw [ev] at g1
          cases g1
          -- the end: the list holds zs, standing for ds'; the answer d1 at w
          have fin : ∀ {ds' : List D} {zs : List V} {w : V}, d2 = .lst .ow ds' → Reps K CL (fzF F3 H2 fp2) H2 ds' zs [] → Rep K CL (fzF F3 H2 fp2) H2 d1 w [] → Q w (upd H2 l (.lst zs)) := by
            intro ds' zs w q1 q2 q3
            subst q1
            obtain ⟨R5, s5⟩ := R4.wrLst e1 ev g2 q2
            exact h w _ _ ft3 [] R5 (s4.trans R4 s5) ⟨q3.any .refl, List.nodup_nil, fun _ z => nomatch z⟩ (fun _ z => nomatch z) fun z => by simp [pureE] at z
          have hlen := g5.length
          cases m with
          | append =>
            cases as with
            | nil => simp [muD] at e2
            | cons y as =>
              cases as with
              | cons _ _ => simp [muD] at e2
              | nil =>
                simp only [muD] at e2
                split at e2
                · rename_i hz
                  simp only [Option.some.injEq, Prod.mk.injEq] at e2
                  obtain ⟨rfl, rfl⟩ := e2
                  simp only [frzL, Reps] at r4
                  obtain ⟨u, vr, f1, f2, rfl, ef, q1, rfl, rfl⟩ := r4
                  obtain ⟨rfl, _⟩ := app_nil2 ef
                  exact ⟨l, ys, u, rfl, rfl, g3, by rw [hlen]; exact hz, fin rfl (g5.app (Reps.one q1)) rep_non⟩
                · cases e2
          | extend =>
            cases as with
            | nil => simp [muD] at e2
            | cons y as =>
              cases as with
              | cons _ _ => simp [muD] at e2
              | nil =>
                cases y with
                | lst o es =>
                  cases o with
                  | ow =>
                    simp only [muD] at e2
                    split at e2
                    · rename_i hz
                      simp only [Option.some.injEq, Prod.mk.injEq] at e2
                      obtain ⟨rfl, rfl⟩ := e2
                      simp only [Reps, Rep] at r3
                      obtain ⟨u, vr, f1, f2, rfl, ef, ⟨b', zs, rfl, _, q1, _, q2⟩, rfl, rfl⟩ := r3
                      exact ⟨l, b', ys, zs, rfl, rfl, g3, .of q1, by rw [hlen, q2.length]; exact hz, fin rfl (g5.app (q2.any (fzF_mono R3.sub))) rep_non⟩
                    · cases e2
                  | fz => simp [muD] at e2
                  | lk => simp [muD] at e2
                | _ => simp [muD] at e2
          | pop =>
            cases as with
            | cons _ _ => simp [muD] at e2
            | nil =>
              simp only [muD, Option.map_eq_some_iff] at e2
              obtain ⟨y, e3, e4⟩ := e2
              simp only [Prod.mk.injEq] at e4
              obtain ⟨rfl, rfl⟩ := e4
              simp only [frzL, Reps] at r4
              obtain ⟨rfl, _⟩ := r4
              obtain ⟨w, e5, q⟩ := g5.get e3
              refine ⟨l, ys, w, rfl, rfl, g3, by rw [hlen]; exact e5, fin rfl g5.dropLast q⟩
          | reverse =>
            cases as with
            | cons _ _ => simp [muD] at e2
            | nil =>
              simp only [muD, Option.some.injEq, Prod.mk.injEq] at e2
              obtain ⟨rfl, rfl⟩ := e2
              simp only [frzL, Reps] at r4
              obtain ⟨rfl, _⟩ := r4
              exact ⟨l, ys, rfl, rfl, g3, fin rfl g5.reverse rep_non⟩
        | fz => simp [muD] at e2
        | lk => simp [muD] at e2
      | _ => simp [muD] at e2
end
end Cov

/-! Cov8: calls of defs. -/
namespace Cov
open PySem L2

mutual
theorem frz_frz : ∀ d : D, frz (frz d) = frz d
  | .non => rfl
  | .bl _ => rfl
  | .int _ => rfl
  | .str _ => rfl
  | .ty _ => rfl
  | .tup _ => rfl
  | .lst _ _ => rfl
  | .own _ => rfl
  | .ins _ _ _ fv => by simp only [frz, frzL_frzL fv]
  | .dic _ _ _ => rfl
theorem frzL_frzL : ∀ d : List D, frzL (frzL d) = frzL d
  | [] => rfl
  | d :: ds => by simp only [frzL, frz_frz d, frzL_frzL ds]
end

/-- the slots of a call's frame when it ends: those of the parameters that may be changed -/
def maskE : List Bool → List D → Env
  | _, [] => []
  | io, d :: ds => (if io.headD false then some d else none) :: maskE io.tail ds
theorem headD_getD {io : List Bool} : io.headD false = io.getD 0 false := by cases io <;> rfl
theorem tail_getD {io : List Bool} {k : Nat} : io.tail.getD k false = io.getD (k + 1) false := by cases io <;> simp
theorem maskE_length : ∀ {ds : List D} {io : List Bool}, (maskE io ds).length = ds.length
  | [], _ => by simp [maskE]
  | d :: ds, io => by simp [maskE, maskE_length (ds := ds)]
theorem gt_cons_succ {o : Option D} {ρ : Env} {i : Nat} : gt (o :: ρ) (i + 1) = gt ρ i := by simp [gt]
theorem gt_cons_zero {o : Option D} {ρ : Env} : gt (o :: ρ) 0 = o := by cases o <;> rfl
theorem maskE_gt : ∀ {ds : List D} {io : List Bool} {k : Nat}, gt (maskE io ds) k = if io.getD k false then ds[k]? else none
  | [], io, k => by simp [maskE, gt]
  | d :: ds, io, 0 => by
    simp only [maskE, gt_cons_zero, headD_getD]
    cases io.getD 0 false <;> rfl
  | d :: ds, io, k + 1 => by
    simp only [maskE, gt_cons_succ, maskE_gt (ds := ds), tail_getD]
    cases io.getD (k + 1) false <;> simp

section
variable {K : PySem.W.Frag} {CL : CLT} {W : WX} {cf : CF} {ios : Str → List Bool}

/-- what a def promises, by its runs -/
def spF (K : PySem.W.Frag) (CL : CLT) (cf : CF) (f : Str) (io : List Bool) : Sp := fun vs H Q E => ∃ F args ft out, Rel K CL F H (vs.map some) (args.map some) ft ∧ cf f args = some out ∧ (∀ k, io.getD k false = false → ft k = []) ∧ match out with
  | .ret d fin => fin.length = args.length ∧ ∀ v H' F' ft' fp, Rel K CL F' H' (vs.map some) (maskE io fin) ft' → Stp F H ft F' H' ft' → Rep K CL F' H' d v fp → fp.Nodup → (∀ a ∈ fp, ∀ i, a ∉ ft' i) → New H ft fp → Q v H'
  | .ex c d fin => fin.length = args.length ∧ ∀ cls dd H' F' ft', Rel K CL F' H' (vs.map some) (maskE io fin) ft' → Stp F H ft F' H' ft' → ExO K CL F' H' c d cls dd → E cls dd H'

/-- slots of the caller behind the arguments (js), seen from the call -/
structure Args (K : PySem.W.Frag) (CL : CLT) (F H : Hp) (σ : L2.St) (ρ : Env) (ft : Ft) (io : List Bool) (js : List Nat) (vs : List V) (args : List D) : Prop where
  lv : vs.length = js.length
  la : args.length = js.length
  at_ : ∀ k j, js[k]? = some j → ∃ v d d', vs[k]? = some v ∧ σ[j]? = some (some v) ∧ gt ρ j = some d ∧ args[k]? = some d' ∧ d' = if io.getD k false then d else frz d
  apart : ∀ k k' j, js[k]? = some j → js[k']? = some j → io.getD k false = true → k = k'
open Classical in
/-- what is frozen for the call: all that the read-only arguments own -/
noncomputable def callFz (F H : Hp) (ft : Ft) (io : List Bool) (js : List Nat) : Hp := fun a => if ∃ k j, js[k]? = some j ∧ io.getD k false = false ∧ a ∈ ft j then H a else F a
open Classical in
noncomputable def callFt (ft : Ft) (io : List Bool) (js : List Nat) : Ft := fun k => if io.getD k false then (match js[k]? with | some j => ft j | none => []) else []
section
variable {F H : Hp} {σ : L2.St} {ρ : Env} {ft : Ft} {io : List Bool} {js : List Nat} {vs : List V} {args : List D}
theorem callFz_mono (s : Sub F H) : Sub F (callFz F H ft io js) := fun a o e => by
  unfold callFz
  split
  · exact s a o e
  · exact e
theorem callFz_sub (s : Sub F H) : Sub (callFz F H ft io js) H := fun a o e => by
  unfold callFz at e
  split at e
  · exact e
  · exact s a o e
theorem callFt_mem {a : Addr} {k : Nat} (h : a ∈ callFt ft io js k) : io.getD k false = true ∧ ∃ j, js[k]? = some j ∧ a ∈ ft j := by
  unfold callFt at h
  split at h
  · rename_i c
    cases e : js[k]? with
    | none => rw [e] at h; cases h
    | some j => rw [e] at h; exact ⟨c, j, rfl, h⟩
  · cases h
theorem callFt_at {k j : Nat} (h : io.getD k false = true) (e : js[k]? = some j) : callFt ft io js k = ft j := by
  unfold callFt
  rw [if_pos h, e]
theorem Args.rel (A : Args K CL F H σ ρ ft io js vs args) (R : Rel K CL F H σ ρ ft) : Rel K CL (callFz F H ft io js) H (vs.map some) (args.map some) (callFt ft io js) := by
  have gtA : ∀ k d', gt (args.map some) k = some d' → ∃ j, js[k]? = some j ∧ args[k]? = some d' := by
    intro k d' e
    have hk := gt_lt e
    rw [List.length_map] at hk
    have e2 : args[k]? = some d' := by
      simp only [gt, List.getElem?_map, List.getElem?_eq_getElem hk, Option.map_some] at e
      rw [List.getElem?_eq_getElem hk]
      exact e
    exact ⟨js[k]'(by rw [← A.la]; exact hk), List.getElem?_eq_getElem _, e2⟩
  have nfz : ∀ k j a, js[k]? = some j → io.getD k false = true → a ∈ ft j → callFz F H ft io js a = none := by
    intro k j a e c h
    unfold callFz
    rw [if_neg]
    · exact (R.off h).1
    · rintro ⟨k', j', e', c', h'⟩
      have : j' = j := R.dis j' j a h' h
      subst this
      have : k = k' := A.apart k k' j' e e' c
      subst this
      rw [c] at c'
      cases c'
  refine ⟨callFz_sub R.sub, by rw [List.length_map, List.length_map, A.lv, A.la], fun k d' e => ?_, fun k e => ?_, fun k => ?_, fun k k' a h1 h2 => ?_, fun a d f k e => callFz_mono R.sub _ _ (R.exc a d f k e)⟩
  · obtain ⟨j, ej, ea⟩ := gtA k d' e
    obtain ⟨v, d, d2, e1, e2, e3, e4, e5⟩ := A.at_ k j ej
    rw [ea] at e4
    cases e4
    obtain ⟨w, e6, r⟩ := R.rep j d e3
    rw [e2] at e6
    cases e6
    refine ⟨v, by rw [List.getElem?_map, e1]; rfl, ?_⟩
    by_cases c : io.getD k false = true
    · rw [if_pos c] at e5
      subst e5
      rw [callFt_at c ej]
      exact r.mono (callFz_mono R.sub) (fun _ _ => rfl) fun a ha => nfz k j a ej c ha
    · have c' : io.getD k false = false := by simpa using c
      rw [if_neg c] at e5
      subst e5
      have : callFt ft io js k = [] := by unfold callFt; rw [if_neg c]
      rw [this]
      refine r.frz (callFz_mono R.sub) fun a ha => ?_
      unfold callFz
      rw [if_pos ⟨k, j, ej, c', ha⟩]
  · cases ej : js[k]? with
    | none =>
      unfold callFt
      rw [ej]
      split <;> rfl
    | some j =>
      obtain ⟨v, d, d2, e1, e2, e3, e4, e5⟩ := A.at_ k j ej
      have : gt (args.map some) k = some d2 := by
        unfold gt
        rw [List.getElem?_map, e4]
        rfl
      rw [this] at e
      cases e
  · unfold callFt
    split
    · split
      · exact R.nd _
      · exact List.nodup_nil
    · exact List.nodup_nil
  · obtain ⟨c1, j1, e1, m1⟩ := callFt_mem h1
    obtain ⟨c2, j2, e2, m2⟩ := callFt_mem h2
    have : j1 = j2 := R.dis j1 j2 a m1 m2
    subst this
    exact A.apart k k' j1 e1 e2 c1

/-- the caller's slots behind a call -/
structure Backs (ρ ρ2 : Env) (io : List Bool) (js : List Nat) (fin : List D) (fz : Bool) : Prop where
  len : ρ2.length = ρ.length
  some_ : ∀ i d, gt ρ2 i = some d → (∃ k, js[k]? = some i ∧ io.getD k false = true ∧ fin[k]? = some d) ∨
    ((∀ k, js[k]? = some i → io.getD k false = false) ∧ ∃ d0, gt ρ i = some d0 ∧ ((fz = true ∧ (∃ k : Nat, js[k]? = some i) ∧ d = frz d0) ∨ ((fz = true → ∀ k : Nat, js[k]? ≠ some i) ∧ d = d0)))
  none_ : ∀ i, gt ρ2 i = none → gt ρ i = none
open Classical in
noncomputable def backFt (ft ft1 : Ft) (io : List Bool) (js : List Nat) (fz : Bool) : Ft := fun i =>
  if h : ∃ k, js[k]? = some i ∧ io.getD k false = true then ft1 h.choose else if fz = true ∧ ∃ k : Nat, js[k]? = some i then [] else ft i
open Classical in
/-- what stays frozen behind a call -/
noncomputable def backF (F F' : Hp) (ft : Ft) (io : List Bool) (js : List Nat) (fz : Bool) : Hp := fun a => if fz = false ∧ ∃ k j, js[k]? = some j ∧ io.getD k false = false ∧ a ∈ ft j then F a else F' a
section
variable {H' F' : Hp} {ft1 : Ft} {fin : List D} {fz : Bool} {ρ2 : Env}
theorem backFt_io (A : Args K CL F H σ ρ ft io js vs args) {k i : Nat} (e : js[k]? = some i) (c : io.getD k false = true) : backFt ft ft1 io js fz i = ft1 k := by
  unfold backFt
  have h : ∃ k, js[k]? = some i ∧ io.getD k false = true := ⟨k, e, c⟩
  rw [dif_pos h]
  have := A.apart k h.choose i e h.choose_spec.1 c
  rw [← this]
theorem backFt_fz {i : Nat} (n : ∀ k, js[k]? = some i → io.getD k false = false) (h : fz = true ∧ ∃ k : Nat, js[k]? = some i) : backFt ft ft1 io js fz i = [] := by
  unfold backFt
  rw [dif_neg (fun ⟨k, e, c⟩ => by rw [n k e] at c; cases c), if_pos h]
theorem backFt_else {i : Nat} (n : ∀ k, js[k]? = some i → io.getD k false = false) (h : ¬ (fz = true ∧ ∃ k : Nat, js[k]? = some i)) : backFt ft ft1 io js fz i = ft i := by
  unfold backFt
  rw [dif_neg (fun ⟨k, e, c⟩ => by rw [n k e] at c; cases c), if_neg h]
theorem backFt_cases {a : Addr} {i : Nat} (h : a ∈ backFt ft ft1 io js fz i) : (∃ k, js[k]? = some i ∧ io.getD k false = true ∧ a ∈ ft1 k) ∨ ((∀ k, js[k]? = some i → io.getD k false = false) ∧ ¬ (fz = true ∧ ∃ k : Nat, js[k]? = some i) ∧ a ∈ ft i) := by
  unfold backFt at h
  split at h
  · rename_i q
    exact .inl ⟨q.choose, q.choose_spec.1, q.choose_spec.2, h⟩
  · rename_i q
    split at h
    · cases h
    · refine .inr ⟨fun k e => ?_, by assumption, h⟩
      cases c : io.getD k false with
      | false => rfl
      | true => exact absurd ⟨k, e, c⟩ q
/-- the state behind a call, from the callee's end -/
theorem Args.back (A : Args K CL F H σ ρ ft io js vs args) (R : Rel K CL F H σ ρ ft) (B : Backs ρ ρ2 io js fin fz) (R' : Rel K CL F' H' (vs.map some) (maskE io fin) ft1)
    (s : Stp (callFz F H ft io js) H (callFt ft io js) F' H' ft1) (hfl : fz = false → ∀ k d, io.getD k false = true → fin[k]? = some d → flat d = true) :
    Rel K CL (backF F F' ft io js fz) H' σ ρ2 (backFt ft ft1 io js fz) ∧ Stp F H ft (backF F F' ft io js fz) H' (backFt ft ft1 io js fz) ∧
      ∀ {d : D} {v : V} {fp : List Addr}, Rep K CL F' H' d v fp → (fz = false → flat d = true) → (∀ a ∈ fp, ∀ k, a ∉ ft1 k) → New H (callFt ft io js) fp →
        Rep K CL (backF F F' ft io js fz) H' d v fp ∧ (∀ a ∈ fp, ∀ i, a ∉ backFt ft ft1 io js fz i) ∧ New H ft fp := by
  -- the read-only ones are lists and instances, as they were
  have lo : ∀ k j a, js[k]? = some j → io.getD k false = false → a ∈ ft j → F a = none ∧ (∃ o, H a = some o ∧ Obl o ∧ callFz F H ft io js a = some o ∧ F' a = some o) := by
    intro k j a e c h
    obtain ⟨h1, o, h2, h3⟩ := R.off h
    have h4 : callFz F H ft io js a = some o := by
      unfold callFz
      rw [if_pos ⟨k, j, e, c, h⟩]
      exact h2
    exact ⟨h1, o, h2, h3, h4, s.mono a o h4⟩
  have oldF : ∀ a o, F' a = some o → (∃ k j, js[k]? = some j ∧ io.getD k false = false ∧ a ∈ ft j) ∨ F a = some o ∨ (∃ k, a ∈ callFt ft io js k) ∨ H a = none := by
    intro a o h
    rcases s.fro a o h with q | q | q
    · unfold callFz at q
      split at q
      · exact .inl (by assumption)
      · exact .inr (.inl q)
    · exact .inr (.inr (.inl q))
    · exact .inr (.inr (.inr q))
  have bF : Sub (backF F F' ft io js fz) F' := fun a o h => by
    unfold backF at h
    split at h
    · exact s.mono a o (callFz_mono R.sub a o h)
    · exact h
  have bM : Sub F (backF F F' ft io js fz) := fun a o h => by
    unfold backF
    split
    · exact h
    · exact s.mono a o (callFz_mono R.sub a o h)
  have bT : ∀ a xs, Rd F' a (.tup xs) → Rd (backF F F' ft io js fz) a (.tup xs) := by
    intro a xs h
    have key : ∀ u, F' a = some u → ¬ Obl u → backF F F' ft io js fz a = some u := by
      intro u hu no
      unfold backF
      rw [if_neg]
      · exact hu
      · rintro ⟨_, k, j, e, c, m⟩
        obtain ⟨_, o, _, ob, _, h5⟩ := lo k j a e c m
        rw [hu] at h5
        cases h5
        exact no ob
    rcases h with h | ⟨o, h⟩
    · exact .inl (key _ h fun z => z)
    · exact .inr ⟨o, key _ h fun z => z⟩
  have bN : ∀ a, F' a = none → backF F F' ft io js fz a = none := by
    intro a h
    cases q : backF F F' ft io js fz a with
    | none => rfl
    | some o => rw [bF a o q] at h; cases h
  have bE : fz = true → backF F F' ft io js fz = F' := fun h => by
    funext a
    unfold backF
    rw [if_neg (fun z => by rw [h] at z; exact Bool.noConfusion z.1)]
  -- data of the callee's end
  have conv : ∀ {d : D} {v : V} {fp : List Addr}, Rep K CL F' H' d v fp → (fz = false → flat d = true) → Rep K CL (backF F F' ft io js fz) H' d v fp := by
    intro d v fp r hf
    cases hz : fz with
    | false => subst hz; exact r.flat bT bN (hf rfl)
    | true => rw [← hz, bE hz]; exact r
  -- what is not among the changed ones stands
  have keep : ∀ a o, H a = some o → (∀ k, a ∉ callFt ft io js k) → H' a = some o := fun a o h n => s.fr a o h n
  have notIn : ∀ i, (∀ k, js[k]? = some i → io.getD k false = false) → ∀ a ∈ ft i, ∀ k, a ∉ callFt ft io js k := by
    intro i n a ha k z
    obtain ⟨c, j, e, m⟩ := callFt_mem z
    have : j = i := R.dis j i a m ha
    subst this
    rw [n k e] at c
    cases c
  have ftNew : ∀ k a, a ∈ ft1 k → (∃ j, a ∈ ft j) ∨ H a = none := by
    intro k a h
    rcases s.own k a h with ⟨k', q⟩ | q
    · obtain ⟨_, j, _, m⟩ := callFt_mem q
      exact .inl ⟨j, m⟩
    · exact .inr q
  -- slots that were not changed, not frozen
  have same : ∀ i d, gt ρ i = some d → (∀ k, js[k]? = some i → io.getD k false = false) → ¬ (fz = true ∧ ∃ k : Nat, js[k]? = some i) → ∃ v, σ[i]? = some (some v) ∧ Rep K CL (backF F F' ft io js fz) H' d v (ft i) := by
    intro i d e n nz
    obtain ⟨v, e1, r⟩ := R.rep i d e
    refine ⟨v, e1, r.mono bM (fun a ha => ?_) fun a ha => ?_⟩
    · obtain ⟨_, o, h2, _⟩ := R.off ha
      rw [h2]
      exact keep a o h2 (notIn i n a ha)
    · obtain ⟨h1, o, h2, _⟩ := R.off ha
      unfold backF
      split
      · exact h1
      · rename_i q
        cases w : F' a with
        | none => rfl
        | some u =>
          rcases oldF a u w with ⟨k, j, e', c', m'⟩ | z | ⟨k, z⟩ | z
          · have : j = i := R.dis j i a m' ha
            subst this
            cases hz : fz with
            | false => exact absurd ⟨hz, k, j, e', c', m'⟩ q
            | true => exact absurd ⟨hz, k, e'⟩ nz
          · rw [h1] at z; cases z
          · exact absurd z (notIn i n a ha k)
          · rw [h2] at z; cases z
  refine ⟨⟨fun a o h => R'.sub a o (bF a o h), by rw [B.len]; exact R.len, fun i d e => ?_, fun i e => ?_, fun i => ?_, fun i i' a h1 h2 => ?_, fun a d f k e => bM _ _ (R.exc a d f k e)⟩, ⟨fun a o h n => ?_, s.dom, fun i a h => ?_, fun a o h => ?_, bM⟩, fun {d v fp} r hf hd hn => ⟨conv r hf, fun a ha i z => ?_, fun a ha => ?_⟩⟩
  · rcases B.some_ i d e with ⟨k, ek, ck, fk⟩ | ⟨n, d0, e0, ⟨hz, hk, rfl⟩ | ⟨hz, rfl⟩⟩
    · obtain ⟨v, d1, d2, e1, e2, e3, e4, e5⟩ := A.at_ k i ek
      have gm : gt (maskE io fin) k = some d := by rw [maskE_gt, if_pos ck]; exact fk
      obtain ⟨w, e6, r⟩ := R'.rep k d gm
      rw [List.getElem?_map, e1] at e6
      cases e6
      refine ⟨v, e2, ?_⟩
      rw [backFt_io A ek ck]
      exact conv r fun z => hfl z k d ck fk
    · obtain ⟨k, ek⟩ := hk
      obtain ⟨v, d1, d2, e1, e2, e3, e4, e5⟩ := A.at_ k i ek
      rw [e0] at e3
      cases e3
      obtain ⟨w, e6, r⟩ := R.rep i d0 e0
      rw [e2] at e6
      cases e6
      refine ⟨v, e2, ?_⟩
      rw [backFt_fz n ⟨hz, k, ek⟩, bE hz]
      refine r.frz ((callFz_mono R.sub).trans s.mono) fun a ha => ?_
      obtain ⟨_, o, h2, _, _, h5⟩ := lo k i a ek (n k ek) ha
      rw [h2, h5]
    · have nz : ¬ (fz = true ∧ ∃ k : Nat, js[k]? = some i) := fun ⟨z, k, ek⟩ => hz z k ek
      obtain ⟨v, e1, r⟩ := same i d e0 n nz
      exact ⟨v, e1, by rw [backFt_else n nz]; exact r⟩
  · have e0 := B.none_ i e
    have nj : ∀ k, js[k]? ≠ some i := fun k ek => by
      obtain ⟨v, d1, d2, e1, e2, e3, e4, e5⟩ := A.at_ k i ek
      rw [e0] at e3
      cases e3
    rw [backFt_else (fun k ek => absurd ek (nj k)) fun ⟨_, k, ek⟩ => nj k ek]
    exact R.emp i e0
  · unfold backFt
    split
    · exact R'.nd _
    · split
      · exact List.nodup_nil
      · exact R.nd i
  · rcases backFt_cases h1 with ⟨k, ek, ck, mk⟩ | ⟨n, _, m⟩
    · rcases backFt_cases h2 with ⟨k', ek', ck', mk'⟩ | ⟨n', _, m'⟩
      · have : k = k' := R'.dis k k' a mk mk'
        subst this
        rw [ek] at ek'
        cases ek'
        rfl
      · rcases s.own k a mk with ⟨q, z⟩ | z
        · exact absurd z (notIn i' n' a m' q)
        · obtain ⟨_, o, h, _⟩ := R.off m'
          rw [h] at z; cases z
    · rcases backFt_cases h2 with ⟨k', ek', ck', mk'⟩ | ⟨n', _, m'⟩
      · rcases s.own k' a mk' with ⟨q, z⟩ | z
        · exact absurd z (notIn i n a m q)
        · obtain ⟨_, o, h, _⟩ := R.off m
          rw [h] at z; cases z
      · exact R.dis i i' a m m'
  · refine keep a o h fun k z => ?_
    obtain ⟨_, j, _, m⟩ := callFt_mem z
    exact n j m
  · rcases backFt_cases h with ⟨k, ek, ck, mk⟩ | ⟨_, _, m⟩
    · exact ftNew k a mk
    · exact .inl ⟨i, m⟩
  · rcases oldF a o (bF a o h) with ⟨k, j, e', c', m'⟩ | z | ⟨k, z⟩ | z
    · exact .inr (.inl ⟨j, m'⟩)
    · exact .inl z
    · obtain ⟨_, j, _, m⟩ := callFt_mem z
      exact .inr (.inl ⟨j, m⟩)
    · exact .inr (.inr z)
  · rcases backFt_cases z with ⟨k, ek, ck, mk⟩ | ⟨n, _, m⟩
    · exact hd a ha k mk
    · rcases hn a ha with ⟨q, w⟩ | w
      · exact notIn i n a m q w
      · obtain ⟨_, o, h, _⟩ := R.off m
        rw [h] at w; cases w
  · rcases hn a ha with ⟨q, w⟩ | w
    · obtain ⟨_, j, _, m⟩ := callFt_mem w
      exact .inl ⟨j, m⟩
    · exact .inr w
end
end
end
end Cov

/-! Cov9: calls of defs: the results of the arguments as slots behind the caller's own. -/
namespace Cov
open PySem L2

theorem gt_app {ρ ξ : Env} {i : Nat} : gt (ρ ++ ξ) i = if i < ρ.length then gt ρ i else gt ξ (i - ρ.length) := by
  unfold gt
  by_cases h : i < ρ.length
  · rw [List.getElem?_append_left h, if_pos h]
  · rw [List.getElem?_append_right (by omega), if_neg h]
def jsOf (N : Nat) : Nat → List Res → List Nat
  | _, [] => []
  | k, .at i _ :: rs => i :: jsOf N (k + 1) rs
  | k, .val _ :: rs => (N + k) :: jsOf N (k + 1) rs
def jOf (N k : Nat) : Res → Nat
  | .at i _ => i
  | .val _ => N + k
theorem jsOf_get {N : Nat} : ∀ {rs : List Res} {k m : Nat}, (jsOf N k rs)[m]? = (rs[m]?).map (jOf N (k + m))
  | [], k, m => by simp [jsOf]
  | .at i p :: rs, k, 0 => by simp [jsOf, jOf]
  | .val d :: rs, k, 0 => by simp [jsOf, jOf]
  | .at i p :: rs, k, m + 1 => by
    show (i :: jsOf N (k + 1) rs)[m + 1]? = _
    rw [List.getElem?_cons_succ, List.getElem?_cons_succ, jsOf_get, show k + 1 + m = k + (m + 1) by omega]
  | .val d :: rs, k, m + 1 => by
    show ((N + k) :: jsOf N (k + 1) rs)[m + 1]? = _
    rw [List.getElem?_cons_succ, List.getElem?_cons_succ, jsOf_get, show k + 1 + m = k + (m + 1) by omega]
theorem jsOf_length {N : Nat} : ∀ {rs : List Res} {k : Nat}, (jsOf N k rs).length = rs.length
  | [], _ => rfl
  | .at i p :: rs, k => by simp [jsOf, jsOf_length]
  | .val d :: rs, k => by simp [jsOf, jsOf_length]
def ext0 (rs : List Res) : Env := rs.map fun r => match r with
  | .val d => some d
  | .at _ _ => none
theorem ext0_gt {rs : List Res} {k : Nat} : gt (ext0 rs) k = match rs[k]? with | some (.val d) => some d | _ => none := by
  unfold gt ext0
  rw [List.getElem?_map]
  cases rs[k]? with
  | none => rfl
  | some r => cases r <;> rfl
def extE (fz : Bool) : List Bool → List Res → List D → Env
  | io, .val d :: rs, f :: fin => (if io.headD false then some f else some (if fz then frz d else d)) :: extE fz io.tail rs fin
  | io, .at _ _ :: rs, _ :: fin => none :: extE fz io.tail rs fin
  | _, _, _ => []
theorem extE_gt {fz : Bool} : ∀ {rs : List Res} {fin : List D} {io : List Bool} {k : Nat}, fin.length = rs.length → gt (extE fz io rs fin) k = match rs[k]? with
    | some (.val d) => if io.getD k false then fin[k]? else some (if fz then frz d else d)
    | _ => none
  | [], fin, io, k, h => by
    cases fin <;> simp [extE, gt]
  | r :: rs, [], io, k, h => by simp at h
  | .val d :: rs, f :: fin, io, 0, h => by
    show gt ((if io.headD false then some f else some (if fz then frz d else d)) :: _) 0 = _
    rw [gt_cons_zero, headD_getD]
    cases io.getD 0 false <;> simp
  | .at i p :: rs, f :: fin, io, 0, h => by
    show gt (none :: _) 0 = _
    rw [gt_cons_zero]
    simp
  | .val d :: rs, f :: fin, io, k + 1, h => by
    show gt (_ :: extE fz io.tail rs fin) (k + 1) = _
    rw [gt_cons_succ, extE_gt (by simpa using h), tail_getD]
    simp
  | .at i p :: rs, f :: fin, io, k + 1, h => by
    show gt (none :: extE fz io.tail rs fin) (k + 1) = _
    rw [gt_cons_succ, extE_gt (by simpa using h), tail_getD]
    simp
theorem extE_length {fz : Bool} : ∀ {rs : List Res} {fin : List D} {io : List Bool}, fin.length = rs.length → (extE fz io rs fin).length = rs.length
  | [], fin, io, h => by cases fin <;> simp [extE]
  | r :: rs, [], io, h => by simp at h
  | .val d :: rs, f :: fin, io, h => by simp [extE, extE_length (rs := rs) (fin := fin) (io := io.tail) (by simpa using h)]
  | .at i p :: rs, f :: fin, io, h => by simp [extE, extE_length (rs := rs) (fin := fin) (io := io.tail) (by simpa using h)]
theorem places_mem {b : Bool} : ∀ {rs : List Res} {io : List Bool} {k i : Nat} {p : List Sel}, rs[k]? = some (.at i p) → io.getD k false = b → i ∈ placesOf b io rs
  | [], _, _, _, _, h, _ => by simp at h
  | .at j q :: rs, io, 0, i, p, h, c => by
    have e : j = i := by simp at h; exact h.1
    subst e
    show j ∈ (if io.headD false = b then j :: placesOf b io.tail rs else placesOf b io.tail rs)
    rw [headD_getD, if_pos c]
    exact List.mem_cons_self
  | .val d :: rs, io, 0, i, p, h, c => by simp at h
  | .at j q :: rs, io, k + 1, i, p, h, c => by
    have := places_mem (b := b) (rs := rs) (io := io.tail) (k := k) (i := i) (p := p) (by simpa using h) (by rw [tail_getD]; exact c)
    show i ∈ (if io.headD false = b then j :: placesOf b io.tail rs else placesOf b io.tail rs)
    split
    · exact List.mem_cons_of_mem _ this
    · exact this
  | .val d :: rs, io, k + 1, i, p, h, c => places_mem (rs := rs) (io := io.tail) (k := k) (i := i) (p := p) (by simpa using h) (by rw [tail_getD]; exact c)
theorem places_inj {b : Bool} : ∀ {rs : List Res} {io : List Bool} {k k' i : Nat} {p p' : List Sel}, (placesOf b io rs).Nodup → rs[k]? = some (.at i p) → rs[k']? = some (.at i p') → io.getD k false = b → io.getD k' false = b → k = k'
  | [], _, _, _, _, _, _, _, h, _, _, _ => by simp at h
  | .val d :: rs, io, 0, _, i, p, p', n, h, h', c, c' => by simp at h
  | .val d :: rs, io, k + 1, 0, i, p, p', n, h, h', c, c' => by simp at h'
  | .val d :: rs, io, k + 1, k' + 1, i, p, p', n, h, h', c, c' => by
    have := places_inj (rs := rs) (io := io.tail) (k := k) (k' := k') (i := i) (p := p) (p' := p') n (by simpa using h) (by simpa using h') (by rw [tail_getD]; exact c) (by rw [tail_getD]; exact c')
    omega
  | .at j q :: rs, io, 0, 0, i, p, p', n, h, h', c, c' => rfl
  | .at j q :: rs, io, 0, k' + 1, i, p, p', n, h, h', c, c' => by
    have e : j = i := by simp at h; exact h.1
    subst e
    have n : (if io.headD false = b then j :: placesOf b io.tail rs else placesOf b io.tail rs).Nodup := n
    rw [headD_getD, if_pos c] at n
    exact absurd (places_mem (rs := rs) (io := io.tail) (k := k') (i := j) (p := p') (by simpa using h') (by rw [tail_getD]; exact c')) (List.nodup_cons.mp n).1
  | .at j q :: rs, io, k + 1, 0, i, p, p', n, h, h', c, c' => by
    have e : j = i := by simp at h'; exact h'.1
    subst e
    have n : (if io.headD false = b then j :: placesOf b io.tail rs else placesOf b io.tail rs).Nodup := n
    rw [headD_getD, if_pos c'] at n
    exact absurd (places_mem (rs := rs) (io := io.tail) (k := k) (i := j) (p := p) (by simpa using h) (by rw [tail_getD]; exact c)) (List.nodup_cons.mp n).1
  | .at j q :: rs, io, k + 1, k' + 1, i, p, p', n, h, h', c, c' => by
    have n : (if io.headD false = b then j :: placesOf b io.tail rs else placesOf b io.tail rs).Nodup := n
    have n' : (placesOf b io.tail rs).Nodup := by
      split at n
      · exact (List.nodup_cons.mp n).2
      · exact n
    have := places_inj (rs := rs) (io := io.tail) (k := k) (k' := k') (i := i) (p := p) (p' := p') n' (by simpa using h) (by simpa using h') (by rw [tail_getD]; exact c) (by rw [tail_getD]; exact c')
    omega
theorem argsOf_get {ρ : Env} : ∀ {rs : List Res} {io : List Bool} {as : List D}, argsOf ρ io rs = some as → as.length = rs.length ∧ ∀ k r, rs[k]? = some r → ∃ d, as[k]? = some d ∧ argOf ρ (io.getD k false) r = some d
  | [], io, as, h => by
    simp only [argsOf, Option.some.injEq] at h
    subst h
    exact ⟨rfl, fun k r e => by simp at e⟩
  | r :: rs, io, as, h => by
    simp only [argsOf, Option.bind_eq_some_iff, Option.map_eq_some_iff] at h
    obtain ⟨d, e1, ds, e2, rfl⟩ := h
    obtain ⟨h1, h2⟩ := argsOf_get e2
    refine ⟨by simp [h1], fun k r' e => ?_⟩
    cases k with
    | zero =>
      cases (show r = r' by simpa using e)
      exact ⟨d, rfl, by rw [← headD_getD]; exact e1⟩
    | succ k =>
      obtain ⟨d', e3, e4⟩ := h2 k r' (by simpa using e)
      exact ⟨d', by simpa using e3, by rw [← tail_getD]; exact e4⟩
/-- what the slots hold behind a call -/
theorem backs_len {fz : Bool} : ∀ {rs : List Res} {io : List Bool} {fin : List D} {ρ : Env}, (backs fz io rs fin ρ).length = ρ.length
  | [], io, fin, ρ => by cases fin <;> simp [backs]
  | .val d :: rs, io, [], ρ => by simp [backs]
  | .at i p :: rs, io, [], ρ => by simp [backs]
  | .val d :: rs, io, f :: fin, ρ => by
    show (backs fz io.tail rs fin ρ).length = _
    exact backs_len
  | .at i p :: rs, io, f :: fin, ρ => by
    show (backs fz io.tail rs fin (if io.headD false then ρ.set i (some f) else if fz then ρ.set i ((gt ρ i).map frz) else ρ)).length = _
    rw [backs_len]
    split
    · rw [List.length_set]
    · split
      · rw [List.length_set]
      · rfl
theorem backs_noview : ∀ {rs : List Res} {io : List Bool} {fin : List D} {ρ : Env}, placesOf false io rs = [] → ∀ a b, backs a io rs fin ρ = backs b io rs fin ρ
  | [], io, fin, ρ, _, a, b => by cases fin <;> rfl
  | .val d :: rs, io, [], ρ, _, a, b => rfl
  | .at j q :: rs, io, [], ρ, _, a, b => rfl
  | .val d :: rs, io, g :: fin, ρ, hn, a, b => backs_noview (rs := rs) (io := io.tail) (fin := fin) (ρ := ρ) hn a b
  | .at j q :: rs, io, g :: fin, ρ, hn, a, b => by
    have hn : (if io.headD false = false then j :: placesOf false io.tail rs else placesOf false io.tail rs) = [] := hn
    cases c : io.headD false with
    | false =>
      rw [c, if_pos rfl] at hn
      cases hn
    | true =>
      rw [c, if_neg (by decide)] at hn
      simp only [backs, c, if_true]
      exact backs_noview hn a b
theorem backs_gt {fz : Bool} : ∀ {rs : List Res} {io : List Bool} {fin : List D} {ρ : Env} {i : Nat}, fin.length = rs.length → (placesOf true io rs).Nodup → (∀ j ∈ placesOf true io rs, j ∉ placesOf false io rs) →
    (∀ (k j : Nat) (p : List Sel), rs[k]? = some (Res.at j p) → ∃ d, gt ρ j = some d) →
    (∀ (k : Nat) (p : List Sel), rs[k]? = some (Res.at i p) → io.getD k false = true → gt (backs fz io rs fin ρ) i = fin[k]?) ∧
      (i ∉ placesOf true io rs → gt (backs fz io rs fin ρ) i = if fz = true ∧ i ∈ placesOf false io rs then (gt ρ i).map frz else gt ρ i)
  | [], io, fin, ρ, i, hl, n, dj, ne => by
    refine ⟨fun k p e => by simp at e, fun _ => ?_⟩
    have : placesOf false io [] = [] := by simp [placesOf]
    rw [this, if_neg (fun z => nomatch z.2)]
    cases fin <;> rfl
  | r :: rs, io, [], ρ, i, hl, n, dj, ne => by simp at hl
  | .val d :: rs, io, f :: fin, ρ, i, hl, n, dj, ne => by
    obtain ⟨h1, h2⟩ := backs_gt (fz := fz) (rs := rs) (io := io.tail) (fin := fin) (ρ := ρ) (i := i) (by simpa using hl) n dj fun k j p e => ne (k + 1) j p (by simpa using e)
    refine ⟨fun k p e c => ?_, h2⟩
    cases k with
    | zero => simp at e
    | succ k =>
      show gt (backs fz io.tail rs fin ρ) i = _
      rw [h1 k p (by simpa using e) (by rw [tail_getD]; exact c)]
      simp
  | .at j q :: rs, io, f :: fin, ρ, i, hl, n, dj, ne => by
    obtain ⟨dj0, ej⟩ := ne 0 j q rfl
    have hj := gt_lt ej
    cases c0 : io.headD false with
    | true =>
      have p1 : placesOf true io (.at j q :: rs) = j :: placesOf true io.tail rs := by
        simp only [placesOf, c0, if_true]
      have p2 : placesOf false io (.at j q :: rs) = placesOf false io.tail rs := by
        simp only [placesOf, c0, Bool.true_eq_false, if_false]
      rw [p1] at n dj ⊢
      rw [p2] at dj ⊢
      have e0 : backs fz io (.at j q :: rs) (f :: fin) ρ = backs fz io.tail rs fin (ρ.set j (some f)) := by
        simp only [backs, c0, if_true]
      rw [e0]
      obtain ⟨nj, n'⟩ := List.nodup_cons.mp n
      obtain ⟨h1, h2⟩ := backs_gt (fz := fz) (rs := rs) (io := io.tail) (fin := fin) (ρ := ρ.set j (some f)) (i := i) (by simpa using hl) n' (fun a ha => dj a (List.mem_cons_of_mem _ ha)) fun k j' p e => by
        rw [gt_set]
        by_cases hjj : j' = j
        · rw [if_pos hjj, if_pos hj]; exact ⟨_, rfl⟩
        · rw [if_neg hjj]; exact ne (k + 1) j' p (by simpa using e)
      refine ⟨fun k p e c => ?_, fun ni => ?_⟩
      · cases k with
        | zero =>
          have : j = i := by simp at e; exact e.1
          subst this
          rw [h2 nj, if_neg (fun z => dj j List.mem_cons_self z.2), gt_set, if_pos rfl, if_pos hj]
          rfl
        | succ k =>
          rw [h1 k p (by simpa using e) (by rw [tail_getD]; exact c)]
          simp
      · have n1 : i ≠ j := fun z => ni (z ▸ List.mem_cons_self)
        rw [h2 (fun z => ni (List.mem_cons_of_mem _ z)), gt_set, if_neg n1]
    | false =>
      have p1 : placesOf true io (.at j q :: rs) = placesOf true io.tail rs := by
        simp only [placesOf, c0, Bool.false_eq_true, if_false]
      have p2 : placesOf false io (.at j q :: rs) = j :: placesOf false io.tail rs := by
        simp only [placesOf, c0, if_true]
      rw [p1] at n dj ⊢
      rw [p2] at dj ⊢
      have e0 : backs fz io (.at j q :: rs) (f :: fin) ρ = backs fz io.tail rs fin (if fz then ρ.set j ((gt ρ j).map frz) else ρ) := by
        simp only [backs, c0, Bool.false_eq_true, if_false]
      rw [e0]
      have ne' : ∀ (k j' : Nat) (p : List Sel), rs[k]? = some (Res.at j' p) → ∃ d, gt (if fz = true then ρ.set j ((gt ρ j).map frz) else ρ) j' = some d := fun k j' p e => by
        obtain ⟨d', e'⟩ := ne (k + 1) j' p (by simpa using e)
        split
        · rw [gt_set]
          by_cases hjj : j' = j
          · rw [if_pos hjj, if_pos hj, ej]; exact ⟨_, rfl⟩
          · rw [if_neg hjj]; exact ⟨d', e'⟩
        · exact ⟨d', e'⟩
      obtain ⟨h1, h2⟩ := backs_gt (fz := fz) (rs := rs) (io := io.tail) (fin := fin) (ρ := if fz = true then ρ.set j ((gt ρ j).map frz) else ρ) (i := i) (by simpa using hl) n (fun a ha z => dj a ha (List.mem_cons_of_mem _ z)) ne'
      refine ⟨fun k p e c => ?_, fun ni => ?_⟩
      · cases k with
        | zero => rw [headD_getD] at c0; rw [c] at c0; cases c0
        | succ k =>
          rw [h1 k p (by simpa using e) (by rw [tail_getD]; exact c)]
          simp
      · rw [h2 ni]
        cases hz : fz with
        | false => simp
        | true =>
          simp only [if_true, true_and, gt_set, List.mem_cons]
          by_cases hi : i = j
          · subst hi
            simp only [if_true, true_or, ej, if_pos hj, Option.map_some, frz_frz]
            split <;> rfl
          · simp [hi]
section
variable {K : PySem.W.Frag} {CL : CLT} {W : WX} {cf : CF} {ios : Str → List Bool}
theorem RessOk.fs {F H : Hp} {σ : L2.St} {ft : Ft} : ∀ {rs : List Res} {vs : List V} {fp : List Addr}, RessOk K CL F H σ ft rs vs fp →
    vs.length = rs.length ∧ ∃ fs : Nat → List Addr, (∀ k r, rs[k]? = some r → ∃ v, vs[k]? = some v ∧ ResOk K CL F H σ ft r v (fs k)) ∧ (∀ k a, a ∈ fs k → a ∈ fp) ∧ (∀ k, rs.length ≤ k → fs k = []) ∧ ∀ k k' a, a ∈ fs k → a ∈ fs k' → k = k'
  | [], vs, fp, h => by
    obtain ⟨rfl, rfl⟩ := h
    exact ⟨rfl, fun _ => [], fun k r e => by simp at e, ⟨fun k a z => by simp at z, ⟨fun _ _ => rfl, fun k k' a z => by simp at z⟩⟩⟩
  | r :: rs, vs, fp, ⟨v, vr, f1, f2, e1, e2, h1, h2, h3⟩ => by
    subst e1 e2
    obtain ⟨hl, fs, q1, q2, q3, q4⟩ := RessOk.fs h2
    refine ⟨by simp [hl], fun k => match k with | 0 => f1 | k + 1 => fs k, fun k r' e => ?_, fun k a z => ?_, fun k hk => ?_, fun k k' a z z' => ?_⟩
    · cases k with
      | zero =>
        cases (show r = r' by simpa using e)
        exact ⟨v, rfl, h1⟩
      | succ k =>
        obtain ⟨w, e3, r3⟩ := q1 k r' (by simpa using e)
        exact ⟨w, by simpa using e3, r3⟩
    · cases k with
      | zero => exact List.mem_append_left _ z
      | succ k => exact List.mem_append_right _ (q2 k a z)
    · cases k with
      | zero => simp at hk
      | succ k => exact q3 k (by simpa using hk)
    · cases k with
      | zero =>
        cases k' with
        | zero => rfl
        | succ k' => exact absurd (q2 k' a z') (h3 a z)
      | succ k =>
        cases k' with
        | zero => exact absurd (q2 k a z) (h3 a z')
        | succ k' => rw [q4 k k' a z z']
/-- the results as slots behind the caller's own -/
theorem Rel.ext {F H : Hp} {σ : L2.St} {ρ : Env} {ft : Ft} {rs : List Res} {vs : List V} {fs : Nat → List Addr} (R : Rel K CL F H σ ρ ft) (hl : vs.length = rs.length)
    (q1 : ∀ k r, rs[k]? = some r → ∃ v, vs[k]? = some v ∧ ResOk K CL F H σ ft r v (fs k)) (q3 : ∀ k, rs.length ≤ k → fs k = []) (q4 : ∀ k k' a, a ∈ fs k → a ∈ fs k' → k = k') :
    Rel K CL F H (σ ++ vs.map some) (ρ ++ ext0 rs) (fun i => if i < ρ.length then ft i else fs (i - ρ.length)) := by
  have out : ∀ k a, a ∈ fs k → ∀ i, a ∉ ft i := by
    intro k a h
    cases e : rs[k]? with
    | none => rw [q3 k (List.getElem?_eq_none_iff.mp e)] at h; cases h
    | some r =>
      obtain ⟨v, _, x⟩ := q1 k r e
      exact (x.fp_ a h).2.2
  refine ⟨R.sub, ?_, fun i d e => ?_, fun i e => ?_, fun i => ?_, fun i j a h1 h2 => ?_, R.exc⟩
  · rw [List.length_append, List.length_append, R.len, List.length_map, hl]
    simp [ext0]
  · rw [gt_app] at e
    by_cases hi : i < ρ.length
    · rw [if_pos hi] at e ⊢
      obtain ⟨v, e1, r⟩ := R.rep i d e
      exact ⟨v, by rw [List.getElem?_append_left (by rw [R.len]; exact hi)]; exact e1, r⟩
    · rw [if_neg hi] at e ⊢
      rw [ext0_gt] at e
      split at e
      · rename_i d' e'
        cases e
        obtain ⟨v, e1, x⟩ := q1 _ _ e'
        refine ⟨v, ?_, x.1⟩
        rw [List.getElem?_append_right (by rw [R.len]; omega), R.len, List.getElem?_map, e1]
        rfl
      · cases e
  · rw [gt_app] at e
    by_cases hi : i < ρ.length
    · rw [if_pos hi] at e ⊢
      exact R.emp i e
    · rw [if_neg hi] at e ⊢
      rw [ext0_gt] at e
      cases e' : rs[i - ρ.length]? with
      | none => exact q3 _ (List.getElem?_eq_none_iff.mp e')
      | some r =>
        cases r with
        | val d => rw [e'] at e; cases e
        | «at» j p =>
          obtain ⟨v, e1, x⟩ := q1 _ _ e'
          exact x.1
  · by_cases hi : i < ρ.length
    · rw [if_pos hi]; exact R.nd i
    · rw [if_neg hi]
      cases e' : rs[i - ρ.length]? with
      | none => rw [q3 _ (List.getElem?_eq_none_iff.mp e')]; exact List.nodup_nil
      | some r =>
        obtain ⟨v, e1, x⟩ := q1 _ _ e'
        cases r with
        | val d => exact x.2.1
        | «at» j p => rw [x.1]; exact List.nodup_nil
  · by_cases hi : i < ρ.length
    · rw [if_pos hi] at h1
      by_cases hj : j < ρ.length
      · rw [if_pos hj] at h2
        exact R.dis i j a h1 h2
      · rw [if_neg hj] at h2
        exact absurd h1 (out _ a h2 i)
    · rw [if_neg hi] at h1
      by_cases hj : j < ρ.length
      · rw [if_pos hj] at h2
        exact absurd h2 (out _ a h1 j)
      · rw [if_neg hj] at h2
        have := q4 _ _ a h1 h2
        omega
/-- the first slots alone -/
theorem Rel.cut {F H : Hp} {σ τ : L2.St} {ρ ξ : Env} {ft : Ft} (R : Rel K CL F H (σ ++ τ) (ρ ++ ξ) ft) (hl : σ.length = ρ.length) : Rel K CL F H σ ρ (fun i => if i < ρ.length then ft i else []) := by
  refine ⟨R.sub, hl, fun i d e => ?_, fun i e => ?_, fun i => ?_, fun i j a h1 h2 => ?_, R.exc⟩
  · have hi := gt_lt e
    obtain ⟨v, e1, r⟩ := R.rep i d (by rw [gt_app, if_pos hi]; exact e)
    rw [List.getElem?_append_left (by rw [hl]; exact hi)] at e1
    rw [if_pos hi]
    exact ⟨v, e1, r⟩
  · split
    · rename_i hi
      exact R.emp i (by rw [gt_app, if_pos hi]; exact e)
    · rfl
  · split
    · exact R.nd i
    · exact List.nodup_nil
  · split at h1
    · split at h2
      · exact R.dis i j a h1 h2
      · cases h2
    · cases h1

theorem cut_mem {n : Nat} {ft : Ft} {a : Addr} {i : Nat} (h : a ∈ (if i < n then ft i else [])) : a ∈ ft i := by
  split at h
  · exact h
  · cases h
theorem Stp.cut {F H F' H' : Hp} {ft ft' : Ft} {n : Nat} (s : Stp F H ft F' H' ft') : Stp F H ft F' H' (fun i => if i < n then ft' i else []) := ⟨s.fr, s.dom, fun i a h => s.own i a (cut_mem h), s.fro, s.mono⟩
/-- a call's reading: from the results of the arguments to the callee's promise -/
theorem call_core {f : Str} {io : List Bool} {F F0 H H0 : Hp} {σ : L2.St} {ρ : Env} {ft ft0 : Ft} {rs : List Res} {vs : List V} {fp : List Addr} {Q : VK} {E : XK} {as : List D} {out : COut} (R : Rel K CL F H σ ρ ft) (s0 : Stp F0 H0 ft0 F H ft) (x : RessOk K CL F H σ ft rs vs fp) (nw : New H0 ft0 fp)
    (e1 : argsOf ρ io rs = some as) (ap : apartOk io rs = true) (e2 : cf f as = some out)
    (hret : ∀ d fin, out = .ret d fin → fin.length = rs.length ∧ ∃ fz0 : Bool, ((placesOf false io rs).isEmpty = false → fz0 = false → flat d = true ∧ flatIo io fin = true) ∧
      ∀ (fz : Bool) v H' F3 ft3 fp', Rel K CL F3 H' (σ ++ vs.map some) (backs fz0 io rs fin ρ ++ extE fz io rs fin) ft3 → Stp F0 H0 ft0 F3 H' ft3 → Rep K CL F3 H' d v fp' → fp'.Nodup → (∀ a ∈ fp', ∀ i, a ∉ ft3 i) → New H0 ft0 fp' → Q v H')
    (hex : ∀ c d fin, out = .ex c d fin → fin.length = rs.length ∧ ∀ cls dd H' F3 ft3, Rel K CL F3 H' σ (backs (!(placesOf false io rs).isEmpty) io rs fin ρ) ft3 → Stp F0 H0 ft0 F3 H' ft3 → ExO K CL F3 H' c d cls dd → E cls dd H') : spF K CL cf f io vs H Q E := by
  obtain ⟨hl, fs, q1, q2, q3, q4⟩ := x.fs
  obtain ⟨la, ga⟩ := argsOf_get e1
  have R1 := R.ext hl q1 q3 q4
  simp only [apartOk, Bool.and_eq_true, decide_eq_true_eq, List.all_eq_true, Bool.not_eq_true', List.contains_eq_mem, decide_eq_false_iff_not] at ap
  obtain ⟨nd, dj⟩ := ap
  have atSlot : ∀ (k i : Nat) (p : List Sel), rs[k]? = some (Res.at i p) → p = [] ∧ ∃ d v, gt ρ i = some d ∧ vs[k]? = some v ∧ σ[i]? = some (some v) ∧ as[k]? = some (if io.getD k false then d else frz d) := by
    intro k i p e
    obtain ⟨d', e3, e4⟩ := ga k _ e
    obtain ⟨v, e5, x5⟩ := q1 k _ e
    cases p with
    | cons _ _ => simp [argOf] at e4
    | nil =>
      obtain ⟨_, v0, e6, pv⟩ := x5
      cases pv
      simp only [argOf, Option.bind_eq_some_iff] at e4
      obtain ⟨d, e7, e8⟩ := e4
      refine ⟨rfl, d, v, e7, e5, e6, ?_⟩
      rw [e3]
      cases c : io.getD k false with
      | true =>
        rw [c] at e8
        simp only [if_true] at e8
        split at e8
        · cases e8
        · simp only [Option.some.injEq] at e8; simp [e8]
      | false =>
        rw [c] at e8
        simpa using e8.symm
  have A : Args K CL F H (σ ++ vs.map some) (ρ ++ ext0 rs) (fun i => if i < ρ.length then ft i else fs (i - ρ.length)) io (jsOf ρ.length 0 rs) vs as := by
    refine ⟨by rw [hl, jsOf_length], by rw [la, jsOf_length], fun k j ej => ?_, fun k k' j ej ej' c => ?_⟩
    · rw [jsOf_get] at ej
      simp only [Option.map_eq_some_iff, Nat.zero_add] at ej
      obtain ⟨r, er, rfl⟩ := ej
      cases r with
      | «at» i p =>
        obtain ⟨rfl, d, v, e3, e4, e5, e6⟩ := atSlot k i p er
        have hi := gt_lt e3
        refine ⟨v, d, _, e4, ?_, ?_, e6, rfl⟩
        · show (σ ++ vs.map some)[i]? = _
          rw [List.getElem?_append_left (by rw [R.len]; exact hi)]; exact e5
        · show gt (ρ ++ ext0 rs) i = _
          rw [gt_app, if_pos hi]; exact e3
      | val d =>
        obtain ⟨v, e5, x5⟩ := q1 k _ er
        obtain ⟨d', e3, e4⟩ := ga k _ er
        refine ⟨v, d, d', e5, ?_, ?_, e3, ?_⟩
        · show (σ ++ vs.map some)[ρ.length + k]? = _
          rw [List.getElem?_append_right (by rw [R.len]; omega), R.len, List.getElem?_map, show ρ.length + k - ρ.length = k by omega, e5]; rfl
        · show gt (ρ ++ ext0 rs) (ρ.length + k) = _
          rw [gt_app, if_neg (by omega), show ρ.length + k - ρ.length = k by omega, ext0_gt, er]
        · simp only [argOf, Option.some.injEq] at e4
          exact e4.symm
    · rw [jsOf_get] at ej ej'
      simp only [Option.map_eq_some_iff, Nat.zero_add] at ej ej'
      obtain ⟨r, er, hj⟩ := ej
      obtain ⟨r', er', hj'⟩ := ej'
      cases r with
      | «at» i p =>
        have hj : i = j := hj
        subst hj
        have hi : i < ρ.length := by
          obtain ⟨_, d, v, e3, _⟩ := atSlot k i p er
          exact gt_lt e3
        cases r' with
        | «at» i' p' =>
          have hj' : i' = i := hj'
          subst hj'
          cases c' : io.getD k' false with
          | true => exact places_inj nd er er' c c'
          | false => exact absurd (places_mem er' c') (dj _ (places_mem er c))
        | val d =>
          have hj' : ρ.length + k' = i := hj'
          omega
      | val d =>
        have hj : ρ.length + k = j := hj
        cases r' with
        | «at» i' p' =>
          have hj' : i' = j := hj'
          obtain ⟨_, d, v, e3, _⟩ := atSlot k' i' p' er'
          have := gt_lt e3
          omega
        | val d' =>
          have hj' : ρ.length + k' = j := hj'
          omega
  have R2 := A.rel R1
  -- behind the call
  have B : ∀ fz fin, fin.length = rs.length → Backs (ρ ++ ext0 rs) (backs fz io rs fin ρ ++ extE fz io rs fin) io (jsOf ρ.length 0 rs) fin fz := by
    intro fz fin hf
    have neAll : ∀ (k j : Nat) (p : List Sel), rs[k]? = some (Res.at j p) → ∃ d, gt ρ j = some d := fun k j p e => by
      obtain ⟨_, d, v, e3, _⟩ := atSlot k j p e
      exact ⟨d, e3⟩
    have jsAt : ∀ (k i : Nat), i < ρ.length → (jsOf ρ.length 0 rs)[k]? = some i → ∃ p : List Sel, rs[k]? = some (Res.at i p) := by
      intro k i hi e
      rw [jsOf_get] at e
      simp only [Option.map_eq_some_iff, Nat.zero_add] at e
      obtain ⟨r, er, hj⟩ := e
      cases r with
      | «at» i' p =>
        have hj : i' = i := hj
        subst hj
        exact ⟨p, er⟩
      | val d =>
        have hj : ρ.length + k = i := hj
        omega
    have jsVal : ∀ (k m : Nat), (jsOf ρ.length 0 rs)[k]? = some (ρ.length + m) → k = m ∧ ∃ d, rs[k]? = some (Res.val d) := by
      intro k m e
      rw [jsOf_get] at e
      simp only [Option.map_eq_some_iff, Nat.zero_add] at e
      obtain ⟨r, er, hj⟩ := e
      cases r with
      | «at» i' p =>
        have hj : i' = ρ.length + m := hj
        obtain ⟨_, d, v, e3, _⟩ := atSlot k i' p er
        have := gt_lt e3
        omega
      | val d =>
        have hj : ρ.length + k = ρ.length + m := hj
        exact ⟨by omega, d, er⟩
    have placeIdx : ∀ (b : Bool) (rs : List Res) (io : List Bool) (i : Nat), i ∈ placesOf b io rs → ∃ (k : Nat) (p : List Sel), rs[k]? = some (Res.at i p) ∧ io.getD k false = b := by
      intro b rs
      induction rs with
      | nil => intro io i h; simp [placesOf] at h
      | cons r rs ih =>
        intro io i h
        cases r with
        | val d =>
          obtain ⟨k, p, e, c⟩ := ih io.tail i h
          exact ⟨k + 1, p, by simpa using e, by rw [← tail_getD]; exact c⟩
        | «at» j q =>
          have h : i ∈ (if io.headD false = b then j :: placesOf b io.tail rs else placesOf b io.tail rs) := h
          split at h
          · rename_i c
            rcases List.mem_cons.mp h with rfl | h
            · exact ⟨0, q, rfl, by rw [← headD_getD]; exact c⟩
            · obtain ⟨k, p, e, c⟩ := ih io.tail i h
              exact ⟨k + 1, p, by simpa using e, by rw [← tail_getD]; exact c⟩
          · obtain ⟨k, p, e, c⟩ := ih io.tail i h
            exact ⟨k + 1, p, by simpa using e, by rw [← tail_getD]; exact c⟩
    refine ⟨by rw [List.length_append, List.length_append, backs_len, extE_length hf]; simp [ext0], fun i d e => ?_, fun i e => ?_⟩
    · rw [gt_app, backs_len] at e
      by_cases hi : i < ρ.length
      · rw [if_pos hi] at e
        obtain ⟨b1, b2⟩ := backs_gt (fz := fz) (i := i) hf nd dj neAll
        by_cases hm : i ∈ placesOf true io rs
        · obtain ⟨k, p, ek, ck⟩ := placeIdx true rs io i hm
          refine .inl ⟨k, by rw [jsOf_get, ek]; rfl, ck, ?_⟩
          rw [← b1 k p ek ck]; exact e
        · refine .inr ⟨fun k ek => ?_, ?_⟩
          · obtain ⟨p, er⟩ := jsAt k i hi ek
            cases c : io.getD k false with
            | false => rfl
            | true => exact absurd (places_mem er c) hm
          · rw [b2 hm] at e
            split at e
            · rename_i hz
              simp only [Option.map_eq_some_iff] at e
              obtain ⟨d0, e0, rfl⟩ := e
              obtain ⟨k, p, ek, ck⟩ := placeIdx false rs io i hz.2
              exact ⟨d0, by rw [gt_app, if_pos hi]; exact e0, .inl ⟨hz.1, ⟨k, by rw [jsOf_get, ek]; rfl⟩, rfl⟩⟩
            · rename_i hz
              refine ⟨d, by rw [gt_app, if_pos hi]; exact e, .inr ⟨fun z k ek => ?_, rfl⟩⟩
              obtain ⟨p, er⟩ := jsAt k i hi ek
              cases c : io.getD k false with
              | false => exact hz ⟨z, places_mem er c⟩
              | true => exact hm (places_mem er c)
      · rw [if_neg hi, extE_gt hf] at e
        obtain ⟨m, rfl⟩ : ∃ m, i = ρ.length + m := ⟨i - ρ.length, by omega⟩
        rw [show ρ.length + m - ρ.length = m by omega] at e
        split at e
        · rename_i d0 e0
          have ej : (jsOf ρ.length 0 rs)[m]? = some (ρ.length + m) := by rw [jsOf_get, e0]; simp [jOf]
          split at e
          · rename_i c
            exact .inl ⟨m, ej, c, e⟩
          · rename_i c
            have c' : io.getD m false = false := by simpa using c
            refine .inr ⟨fun k ek => ?_, d0, by rw [gt_app, if_neg (by omega), show ρ.length + m - ρ.length = m by omega, ext0_gt, e0], ?_⟩
            · obtain ⟨rfl, _⟩ := jsVal k m ek
              exact c'
            · cases hz : fz with
              | true => rw [hz] at e; simp only [if_true, Option.some.injEq] at e; exact .inl ⟨rfl, ⟨m, ej⟩, e.symm⟩
              | false => rw [hz] at e; simp only [Bool.false_eq_true, if_false, Option.some.injEq] at e; exact .inr ⟨fun z => (by cases z), e.symm⟩
        · cases e
    · rw [gt_app, backs_len] at e
      rw [gt_app]
      by_cases hi : i < ρ.length
      · rw [if_pos hi] at e ⊢
        obtain ⟨b1, b2⟩ := backs_gt (fz := fz) (i := i) hf nd dj neAll
        by_cases hm : i ∈ placesOf true io rs
        · obtain ⟨k, p, ek, ck⟩ := placeIdx true rs io i hm
          rw [b1 k p ek ck] at e
          have : k < rs.length := (List.getElem?_eq_some_iff.mp ek).1
          rw [List.getElem?_eq_getElem (by omega)] at e
          cases e
        · rw [b2 hm] at e
          split at e
          · simpa using e
          · exact e
      · rw [if_neg hi] at e ⊢
        rw [extE_gt hf] at e
        rw [ext0_gt]
        split at e
        · rename_i d0 e0
          split at e
          · have : i - ρ.length < rs.length := (List.getElem?_eq_some_iff.mp e0).1
            rw [List.getElem?_eq_getElem (by omega)] at e
            cases e
          · cases e
        · rename_i e0
          cases e1 : rs[i - ρ.length]? with
          | none => rfl
          | some r =>
            cases r with
            | val d0 => exact absurd e1 (e0 d0)
            | «at» j p => rfl
  have inExt : ∀ a, (∃ j, a ∈ (if j < ρ.length then ft j else fs (j - ρ.length))) → (∃ j, a ∈ ft0 j) ∨ H0 a = none := by
    rintro a ⟨j, hj⟩
    split at hj
    · exact s0.own j a hj
    · exact nw a (q2 _ a hj)
  have stpE : ∀ {F' H' : Hp} {ft' : Ft}, Stp F H (fun i => if i < ρ.length then ft i else fs (i - ρ.length)) F' H' ft' → Stp F0 H0 ft0 F' H' ft' := by
    intro F' H' ft' s
    refine ⟨fun a o h n => s.fr a o (s0.fr a o h n) fun i z => ?_, fun a h => s0.dom a (s.dom a h), fun i a h => ?_, fun a o h => ?_, s0.mono.trans s.mono⟩
    · rcases inExt a ⟨i, z⟩ with ⟨j, q⟩ | q
      · exact n j q
      · rw [h] at q; cases q
    · rcases s.own i a h with q | q
      · exact inExt a q
      · exact .inr (s0.dom a q)
    · rcases s.fro a o h with q | q | q
      · exact s0.fro a o q
      · exact .inr (inExt a q)
      · exact .inr (.inr (s0.dom a q))
  have newE : ∀ {fp : List Addr}, New H (fun i => if i < ρ.length then ft i else fs (i - ρ.length)) fp → New H0 ft0 fp := by
    intro fp n a ha
    rcases n a ha with ⟨j, q⟩ | q
    · exact inExt a ⟨j, q⟩
    · exact .inr (s0.dom a q)
  refine ⟨callFz F H _ io (jsOf ρ.length 0 rs), as, callFt _ io (jsOf ρ.length 0 rs), out, R2, e2, fun k c => ?_, ?_⟩
  · unfold callFt
    rw [c]
    rfl
  · cases out with
    | ret d fin =>
      obtain ⟨hf, fz0, hfz, hk⟩ := hret d fin rfl
      refine ⟨hf.trans la.symm, fun v H' F' ft' fp' R' s' rp nd' dd nn => ?_⟩
      have flatIo_get : ∀ (fin : List D) (io : List Bool), flatIo io fin = true → ∀ k d, io.getD k false = true → fin[k]? = some d → flat d = true := by
        intro fin
        induction fin with
        | nil => intro io _ k d _ e; simp at e
        | cons g fin ih =>
          intro io hi k d c e
          simp only [flatIo, Bool.and_eq_true] at hi
          cases k with
          | zero =>
            rw [← headD_getD] at c
            rw [c] at hi
            cases (show g = d by simpa using e)
            simpa using hi.1
          | succ k => exact ih io.tail hi.2 k d (by rw [tail_getD]; exact c) (by simpa using e)
      by_cases hv : (placesOf false io rs).isEmpty = true
      · -- no read-only place: the frozen part may stay as the callee left it
        have eq : backs fz0 io rs fin ρ = backs true io rs fin ρ := backs_noview (by simpa using hv) _ _
        obtain ⟨R3, s3, k3⟩ := A.back R1 (B true fin hf) R' s' (fun z => by cases z)
        obtain ⟨r4, d4, n4⟩ := k3 rp (fun z => by cases z) (fun a ha k => dd a ha k) nn
        rw [← eq] at R3
        exact hk true v H' _ _ fp' R3 (stpE s3) r4 nd' d4 (newE n4)
      · have fl := hfz (by simpa using hv)
        obtain ⟨R3, s3, k3⟩ := A.back R1 (B fz0 fin hf) R' s' (fun z k d' c e => flatIo_get fin io (fl z).2 k d' c e)
        obtain ⟨r4, d4, n4⟩ := k3 rp (fun z => (fl z).1) (fun a ha k => dd a ha k) nn
        exact hk fz0 v H' _ _ fp' R3 (stpE s3) r4 nd' d4 (newE n4)
    | ex c d fin =>
      obtain ⟨hf, hk⟩ := hex c d fin rfl
      refine ⟨hf.trans la.symm, fun cls dd H' F' ft' R' s' xo => ?_⟩
      have eq : backs (!(placesOf false io rs).isEmpty) io rs fin ρ = backs true io rs fin ρ := by
        by_cases hv : (placesOf false io rs).isEmpty = true
        · exact backs_noview (by simpa using hv) _ _
        · have hv' : (placesOf false io rs).isEmpty = false := by simpa using hv
          rw [hv']
          rfl
      obtain ⟨R3, s3, _⟩ := A.back R1 (B true fin hf) R' s' (fun z => by cases z)
      rw [← eq] at R3
      have R5 := R3.cut (by rw [backs_len]; exact R.len)
      have e5 : ∀ (F F' : Hp) (ft : Ft) (io : List Bool) (js : List Nat), backF F F' ft io js true = F' := fun F F' ft io js => by
        funext a
        unfold backF
        rw [if_neg (fun z => Bool.noConfusion z.1)]
      rw [e5] at R5 s3
      exact hk cls dd H' F' _ R5 (stpE s3).cut xo
/-- .. a def's -/
theorem doCall_ok {f : Str} {io : List Bool} {F F0 H H0 : Hp} {σ : L2.St} {ρ : Env} {ft ft0 : Ft} {rs : List Res} {vs : List V} {fp : List Addr} {Q : VK} {E : XK} {pu : Bool} (R : Rel K CL F H σ ρ ft) (s0 : Stp F0 H0 ft0 F H ft) (x : RessOk K CL F H σ ft rs vs fp) (nw : New H0 ft0 fp) (hpu : pu = false)
    (h : wsh K CL W (doCall cf io f rs ρ) σ F0 H0 ft0 pu (fun F' H' ft' r v fp => ResOk K CL F' H' σ ft' r v fp) Q) (hE : ∀ cls dd H', E cls dd H' ↔ W cls dd σ H') : spF K CL cf f io vs H Q E := by
  unfold doCall at h
  obtain ⟨as, e1, h⟩ := wsh_opt h
  obtain ⟨ap, h⟩ := wsh_ite h rfl
  obtain ⟨out, e2, h⟩ := wsh_opt h
  refine call_core R s0 x nw e1 ap e2 (fun d fin ho => ?_) (fun c d fin ho => ?_)
  · subst ho
    simp only at h
    obtain ⟨hf, h⟩ : fin.length = rs.length ∧ _ := by
      split at h
      · exact ⟨by assumption, h⟩
      · exact h.elim
    refine ⟨hf, !((placesOf false io rs).isEmpty || (flat d && flatIo io fin)), fun hv hz => ?_, fun fz v H' F3 ft3 fp' R3 s3 r4 nd' d4 n4 => ?_⟩
    · rw [hv, Bool.false_or] at hz
      simpa using hz
    · have R5 := R3.cut (by rw [backs_len]; exact R.len)
      exact h v H' _ _ fp' R5 s3.cut ⟨r4, nd', fun a ha i z => d4 a ha i (cut_mem z)⟩ n4 fun z => by rw [hpu] at z; cases z
  · subst ho
    simp only at h
    obtain ⟨hf, h⟩ : fin.length = rs.length ∧ _ := by
      split at h
      · exact ⟨by assumption, h⟩
      · exact h.elim
    exact ⟨hf, fun cls dd H' F3 ft3 R3 s3 xo => (hE cls dd H').mpr (h cls dd H' F3 ft3 R3 s3 xo)⟩
/-- .. a class's: its __init__ at a new instance -/
theorem doMake_ok {c : Str} {C : Addr} {io : List Bool} {F F0 H H0 : Hp} {σ : L2.St} {ρ : Env} {ft ft0 : Ft} {rs : List Res} {vs : List V} {fp : List Addr} {Q : VK} {E : XK} {pu : Bool} {a dx : Addr} (R : Rel K CL F H σ ρ ft) (s0 : Stp F0 H0 ft0 F H ft) (x : RessOk K CL F H σ ft rs vs fp) (nw : New H0 ft0 fp) (hpu : pu = false)
    (hC : ClsOk K CL c [] C) (na : H a = none) (nd : H dx = none) (ne : dx ≠ a)
    (h : wsh K CL W (doMake cf io c rs ρ) σ F0 H0 ft0 pu (fun F' H' ft' r v fp => ResOk K CL F' H' σ ft' r v fp) Q) (hE : ∀ cls dd H', E cls dd H' ↔ W cls dd σ H') : spF K CL cf c io (.ref a :: vs) (upd (upd H dx (.own a)) a (.ins C dx [])) (fun v H2 => v = .non ∧ Q (.ref a) H2) E := by
  unfold doMake at h
  obtain ⟨as, e1, h⟩ := wsh_opt h
  obtain ⟨ap, h⟩ := wsh_ite h rfl
  obtain ⟨out, e2, h⟩ := wsh_opt h
  simp only [Bool.and_eq_true] at ap
  obtain ⟨ap, hio⟩ := ap
  have ps : Pst F H F (upd (upd H dx (.own a)) a (.ins C dx [])) := by
    have hh : Sub H (upd (upd H dx (.own a)) a (.ins C dx [])) := fun b o e => by
      rw [upd_ne (fun z => by rw [z, na] at e; cases e), upd_ne (fun z => by rw [z, nd] at e; cases e)]
      exact e
    exact ⟨hh, .refl, R.sub.trans hh, fun _ _ e => .inl e⟩
  have Fa : F a = none := by
    cases q : F a with
    | none => rfl
    | some o => rw [R.sub a o q] at na; cases na
  have x1 : RessOk K CL F (upd (upd H dx (.own a)) a (.ins C dx [])) σ ft (.val (.ins .ow c [] []) :: rs) (.ref a :: vs) ([a] ++ fp) := by
    refine ⟨.ref a, vs, [a], fp, rfl, rfl, ⟨?_, by simp, fun b hb i z => ?_⟩, RessOk.stp ps.stp x fun _ => ps.hh, fun b hb z => ?_⟩
    · simp only [Rep]
      exact ⟨a, C, dx, [], [], rfl, rfl, hC, upd_same, Fa, rfl, Reps.nil⟩
    · cases List.mem_singleton.mp hb
      obtain ⟨_, o, e, _⟩ := R.off z
      rw [na] at e; cases e
    · cases List.mem_singleton.mp hb
      obtain ⟨_, ⟨o, e⟩, _⟩ := x.fp_ a z
      rw [na] at e; cases e
  have nw1 : New H0 ft0 ([a] ++ fp) := fun b hb => by
    rcases List.mem_append.mp hb with z | z
    · cases List.mem_singleton.mp z
      exact .inr (s0.dom a na)
    · exact nw b z
  refine call_core (R.pst ps) (s0.trans R ps.stp) x1 nw1 e1 ap e2 (fun d fin ho => ?_) (fun c d fin ho => ?_)
  · subst ho
    cases d with
    | non =>
      cases fin with
      | nil => exact h.elim
      | cons d0 fin =>
        simp only at h
        obtain ⟨hf, h⟩ : fin.length = rs.length ∧ _ := by
          split at h
          · exact ⟨by assumption, h⟩
          · exact h.elim
        have hf1 : (d0 :: fin).length = (Res.val (.ins .ow c [] []) :: rs).length := by simp [hf]
        refine ⟨hf1, !((placesOf false io (.val (.ins .ow c [] []) :: rs)).isEmpty || flatIo io (d0 :: fin)), fun hv hz => ?_, fun fz v H' F3 ft3 fp' R3 s3 r4 nd' d4 n4 => ?_⟩
        · rw [hv, Bool.false_or] at hz
          exact ⟨rfl, by simpa using hz⟩
        · have eg : gt (backs (!((placesOf false io (.val (.ins .ow c [] []) :: rs)).isEmpty || flatIo io (d0 :: fin))) io (.val (.ins .ow c [] []) :: rs) (d0 :: fin) ρ ++ extE fz io (.val (.ins .ow c [] []) :: rs) (d0 :: fin)) ρ.length = some d0 := by
            rw [gt_app, if_neg (by rw [backs_len]; omega), backs_len, Nat.sub_self, extE_gt hf1]
            simp only [List.getElem?_cons_zero]
            rw [← headD_getD, hio]
            rfl
          obtain ⟨w, e5, r5⟩ := R3.rep _ _ eg
          rw [List.getElem?_append_right (by rw [R.len]; omega), R.len, Nat.sub_self] at e5
          cases (show V.ref a = w by simpa using e5)
          have R5 := R3.cut (by rw [backs_len]; exact R.len)
          rw [backs_len] at R5
          have nl : ∀ b ∈ ft3 ρ.length, ∀ i, b ∉ (fun i => if i < ρ.length then ft3 i else []) i := fun b hb i z => by
            have z : b ∈ (if i < ρ.length then ft3 i else []) := z
            split at z
            · have := R3.dis _ _ b z hb
              omega
            · cases z
          obtain ⟨R6, s6⟩ := fz_stp R5 s3.cut (l := ft3 ρ.length) (fun b hb => s3.own _ b hb) nl
          have r6 : Rep K CL (fzF F3 H' (ft3 ρ.length)) H' (frz d0) (.ref a) [] := r5.frz (fzF_mono R3.sub) fun b hb => fzF_in hb
          exact ⟨by simpa only [Rep, and_true] using (show v = .non ∧ fp' = [] by simpa only [Rep] using r4).1, h (.ref a) H' _ _ [] R6 s6 ⟨r6, List.nodup_nil, fun _ z => nomatch z⟩ (fun _ z => nomatch z) fun z => by rw [hpu] at z; cases z⟩
    | _ => exact h.elim
  · subst ho
    simp only at h
    obtain ⟨hf, h⟩ : fin.length = rs.length + 1 ∧ _ := by
      split at h
      · exact ⟨by assumption, h⟩
      · exact h.elim
    exact ⟨by simp [hf], fun cls dd H' F3 ft3 R3 s3 xo => (hE cls dd H').mpr (h cls dd H' F3 ft3 R3 s3 xo)⟩
end
end Cov

/-! Cov10: targets, what is walked, comprehensions. -/
namespace Cov
open PySem L2
section
variable {K : PySem.W.Frag} {CL : CLT} {W : WX} {cf : CF} {ios : Str → List Bool}
/-! ### targets -/
/-- a slot is stored anew with a frozen datum -/
theorem Rel.put {F H : Hp} {σ : L2.St} {ρ : Env} {ft : Ft} {i : Nat} {d : D} {v : V} {fp : List Addr} (R : Rel K CL F H σ ρ ft) (r : Rep K CL F H d v fp) (nd : fp.Nodup) (o : ∀ a ∈ fp, ∀ j, a ∉ ft j) :
    Rel K CL F H (σ.set i (some v)) (ρ.set i (some d)) (if i < ρ.length then upF ft i fp else ft) := by
  by_cases hi : i < ρ.length
  · rw [if_pos hi]
    refine ⟨R.sub, by rw [List.length_set, List.length_set]; exact R.len, fun j d' e => ?_, fun j e => ?_, fun j => ?_, fun j k a h1 h2 => ?_, R.exc⟩
    · rw [gt_set] at e
      by_cases q : j = i
      · subst q
        rw [if_pos rfl, if_pos hi] at e
        cases e
        exact ⟨v, by rw [List.getElem?_set_self (by rw [R.len]; exact hi)], by rw [upF_same]; exact r⟩
      · rw [if_neg q] at e
        obtain ⟨w, e1, r1⟩ := R.rep j d' e
        exact ⟨w, by rw [List.getElem?_set_ne (fun z => q z.symm)]; exact e1, by rw [upF_ne q]; exact r1⟩
    · rw [gt_set] at e
      by_cases q : j = i
      · subst q
        rw [if_pos rfl, if_pos hi] at e
        cases e
      · rw [if_neg q] at e
        rw [upF_ne q]
        exact R.emp j e
    · by_cases q : j = i
      · subst q; rw [upF_same]; exact nd
      · rw [upF_ne q]; exact R.nd j
    · by_cases q : j = i
      · by_cases q2 : k = i
        · rw [q, q2]
        · subst q
          rw [upF_same] at h1
          rw [upF_ne q2] at h2
          exact absurd h2 (o a h1 k)
      · by_cases q2 : k = i
        · subst q2
          rw [upF_ne q] at h1
          rw [upF_same] at h2
          exact absurd h1 (o a h2 j)
        · rw [upF_ne q] at h1
          rw [upF_ne q2] at h2
          exact R.dis j k a h1 h2
  · rw [if_neg hi, List.set_eq_of_length_le (show σ.length ≤ i by rw [R.len]; omega), List.set_eq_of_length_le (show ρ.length ≤ i by omega)]
    exact R
theorem Rel.drop {F H : Hp} {σ : L2.St} {ρ : Env} {ft : Ft} {i : Nat} (R : Rel K CL F H σ ρ ft) : Rel K CL F H σ (ρ.set i none) (upF ft i []) := by
  refine ⟨R.sub, by rw [List.length_set]; exact R.len, fun j d' e => ?_, fun j e => ?_, fun j => ?_, fun j k a h1 h2 => ?_, R.exc⟩
  · rw [gt_set] at e
    by_cases q : j = i
    · rw [if_pos q] at e
      split at e <;> cases e
    · rw [if_neg q] at e
      rw [upF_ne q]
      exact R.rep j d' e
  · by_cases q : j = i
    · rw [q, upF_same]
    · rw [gt_set, if_neg q] at e
      rw [upF_ne q]
      exact R.emp j e
  · by_cases q : j = i
    · rw [q, upF_same]; exact List.nodup_nil
    · rw [upF_ne q]; exact R.nd j
  · by_cases q : j = i
    · rw [q, upF_same] at h1; cases h1
    · by_cases q2 : k = i
      · rw [q2, upF_same] at h2; cases h2
      · rw [upF_ne q] at h1
        rw [upF_ne q2] at h2
        exact R.dis j k a h1 h2
/-- behind a store the footprints are no larger -/
theorem put_sub {ft : Ft} {i n : Nat} {a : Addr} {j : Nat} (h : a ∈ (if i < n then upF ft i [] else ft) j) : a ∈ ft j := by
  split at h
  · by_cases q : j = i
    · rw [q, upF_same] at h; cases h
    · rwa [upF_ne q] at h
  · exact h
def tTg (K : PySem.W.Frag) (CL : CLT) (t : Tg) : TG := fun v σ H Q => ∃ F ρ ft d ρ', Rel K CL F H σ ρ ft ∧ Rep K CL F H d v [] ∧ bindTg t d ρ = some ρ' ∧
  ∀ σ' ft', Rel K CL F H σ' ρ' ft' → (∀ i a, a ∈ ft' i → a ∈ ft i) → (∀ j, j ∉ tgS t → σ'[j]? = σ[j]?) → Q σ' H
def tTgs (K : PySem.W.Frag) (CL : CLT) (ts : List Tg) : TGs := fun vs σ H Q => ∃ F ρ ft ds ρ', Rel K CL F H σ ρ ft ∧ Reps K CL F H ds vs [] ∧ bindTgs ts ds ρ = some ρ' ∧
  ∀ σ' ft', Rel K CL F H σ' ρ' ft' → (∀ i a, a ∈ ft' i → a ∈ ft i) → (∀ j, j ∉ tgSs ts → σ'[j]? = σ[j]?) → Q σ' H
mutual
theorem bindTg_len : ∀ {t : Tg} {d : D} {ρ ρ' : Env}, bindTg t d ρ = some ρ' → ρ'.length = ρ.length
  | .nm i, d, ρ, ρ', h => by
    simp only [bindTg] at h
    split at h
    · cases h; rw [List.length_set]
    · cases h
  | .tp ts, d, ρ, ρ', h => by
    cases d with
    | tup ds => simp only [bindTg] at h; exact bindTgs_len2 h
    | _ => simp [bindTg] at h
theorem bindTgs_len2 : ∀ {ts : List Tg} {ds : List D} {ρ ρ' : Env}, bindTgs ts ds ρ = some ρ' → ρ'.length = ρ.length
  | [], [], ρ, ρ', h => by simp only [bindTgs] at h; cases h; rfl
  | [], _ :: _, _, _, h => by simp [bindTgs] at h
  | _ :: _, [], _, _, h => by simp [bindTgs] at h
  | t :: ts, d :: ds, ρ, ρ', h => by
    simp only [bindTgs, Option.bind_eq_some_iff] at h
    obtain ⟨ρ1, e1, e2⟩ := h
    rw [bindTgs_len2 e2, bindTg_len e1]
end
theorem tTg_nm {i : Nat} {v : V} {σ : L2.St} {H : Hp} {Q : L2.St → Hp → Prop} (h : tTg K CL (.nm i) v σ H Q) : gName i v σ H Q := by
  obtain ⟨F, ρ, ft, d, ρ', R, r, e, k⟩ := h
  simp only [bindTg] at e
  split at e
  · cases e
    refine k _ _ (R.put r List.nodup_nil fun _ z => nomatch z) (fun j a h => put_sub h) fun j n => ?_
    rw [List.getElem?_set_ne]
    intro z
    subst z
    exact n (by simp [tgS])
  · cases e
theorem tTgs_nil {vs : List V} {σ : L2.St} {H : Hp} {Q : L2.St → Hp → Prop} (h : tTgs K CL [] vs σ H Q) : gNil vs σ H Q := by
  obtain ⟨F, ρ, ft, ds, ρ', R, r, e, k⟩ := h
  cases ds with
  | nil =>
    simp only [bindTgs, Option.some.injEq] at e
    subst e
    simp only [Reps] at r
    exact ⟨r.1, k σ ft R (fun _ _ h => h) fun _ _ => rfl⟩
  | cons _ _ => simp [bindTgs] at e
theorem tTgs_cons {t : Tg} {ts : List Tg} {vs : List V} {σ : L2.St} {H : Hp} {Q : L2.St → Hp → Prop} (h : tTgs K CL (t :: ts) vs σ H Q) : gCons (tTg K CL t) (tTgs K CL ts) vs σ H Q := by
  obtain ⟨F, ρ, ft, ds, ρ', R, r, e, k⟩ := h
  cases ds with
  | nil => simp [bindTgs] at e
  | cons d ds =>
    simp only [bindTgs, Option.bind_eq_some_iff] at e
    obtain ⟨ρ1, e1, e2⟩ := e
    simp only [Reps] at r
    obtain ⟨v, vr, f1, f2, rfl, ef, r1, r2⟩ := r
    obtain ⟨rfl, rfl⟩ := app_nil2 ef
    refine ⟨v, vr, rfl, F, ρ, ft, d, ρ1, R, r1, e1, fun σ1 ft1 R1 m1 p1 => ⟨F, ρ1, ft1, ds, ρ', R1, r2, e2, fun σ2 ft2 R2 m2 p2 => k σ2 ft2 R2 (fun i a h => m1 i a (m2 i a h)) fun j n => ?_⟩⟩
    simp only [tgSs, List.mem_append, not_or] at n
    exact (p2 j n.2).trans (p1 j n.1)
theorem bindTgs_len : ∀ {ts : List Tg} {ds : List D} {ρ ρ' : Env}, bindTgs ts ds ρ = some ρ' → ds.length = ts.length
  | [], [], _, _, _ => rfl
  | [], _ :: _, _, _, h => by simp [bindTgs] at h
  | _ :: _, [], _, _, h => by simp [bindTgs] at h
  | t :: ts, d :: ds, ρ, ρ', h => by
    simp only [bindTgs, Option.bind_eq_some_iff] at h
    obtain ⟨ρ1, _, e2⟩ := h
    simp [bindTgs_len e2]
theorem tTg_tp {ts : List Tg} {v : V} {σ : L2.St} {H : Hp} {Q : L2.St → Hp → Prop} (h : tTg K CL (.tp ts) v σ H Q) : gTup K ts.length (tTgs K CL ts) v σ H Q := by
  obtain ⟨F, ρ, ft, d, ρ', R, r, e, k⟩ := h
  cases d with
  | tup ds =>
    simp only [bindTg] at e
    obtain ⟨a, vs, rfl, q, rs⟩ := r.tup_ R.sub
    exact ⟨a, vs, rfl, q, by rw [rs.length, bindTgs_len e], F, ρ, ft, ds, ρ', R, rs, e, k⟩
  | _ => simp [bindTg] at e

/-! ### what is walked -/
def ItOk (K : PySem.W.Frag) (CL : CLT) (J : L2.It) (w : Wlk) (σ0 : L2.St) (F0 : Hp) : Prop :=
  ∀ F H σ ρ ft, Sub F0 F → Rel K CL F H σ ρ ft → (∀ i p, w.2 = some (i, p) → σ[i]? = σ0[i]?) → lkOk w ρ = true → J.stop w.1.length H ∧ ∀ (i : Nat) (d : D), w.1[i]? = some d → J.go i H ∧ ∀ x H', J.yld i H x H' → H' = H ∧ Rep K CL F H d x []
def tI (K : PySem.W.Frag) (CL : CLT) (W : WX) (cf : CF) (ios : Str → List Bool) (it : It) : TI := fun σ H R => ∃ F ρ ft, Rel K CL F H σ ρ ft ∧ wsh K CL W (runIt cf ios it ρ) σ F H ft false (fun F' H' ft' w J fp => ItOk K CL J w σ F' ∧ fp = []) R
theorem itOk_rng {lo : Int} {n : Nat} {σ : L2.St} {F : Hp} {ds : List D} (h : ds = (List.range n).map fun (k : Nat) => D.int (lo + (k : Int))) : ItOk K CL (Itr lo n) (ds, none) σ F := by
  subst h
  intro F' H σ' ρ ft _ R _ _
  refine ⟨by simp [Itr], fun i d e => ?_⟩
  simp only [List.getElem?_map, Option.map_eq_some_iff] at e
  obtain ⟨j, e1, rfl⟩ := e
  have hi : i < n := by
    have := (List.getElem?_eq_some_iff.mp e1).1
    simpa using this
  have ej : j = i := by
    rw [List.getElem?_range hi] at e1
    exact (Option.some.inj e1).symm
  subst ej
  exact ⟨hi, fun x H' y => ⟨y.1, by rw [y.2]; exact rep_int⟩⟩
theorem tI_r1 {a : E} {σ : L2.St} {H : Hp} {R : L2.It → Hp → Prop} (h : tI K CL W cf ios (.r1 a) σ H R) : iRng1 (tCons (tE K CL W cf ios a) tNil) σ H R := by
  obtain ⟨F, ρ, ft, Rr, h⟩ := h
  simp only [runIt] at h
  refine ⟨F, ρ, ft, Rr, wsh_bnd h fun r ρ1 v H1 F1 ft1 fp R1 s1 x n p h => ?_⟩
  split at h
  · rename_i j e
    obtain ⟨hj, h⟩ := wsh_ite h rfl
    obtain ⟨fp', rd0⟩ := x.rd R1 e
    cases rd0.int_
    simp only [rngOk, Bool.and_eq_true, decide_eq_true_eq] at hj
    exact ⟨j, rfl, hj.1, hj.2, h _ H1 F1 ft1 [] R1 s1 ⟨itOk_rng (by unfold ranged; simp), rfl⟩ (fun _ z => nomatch z) fun z => by cases z⟩
  · exact h.elim
theorem tI_r2 {a b : E} {σ : L2.St} {H : Hp} {R : L2.It → Hp → Prop} (h : tI K CL W cf ios (.r2 a b) σ H R) : iRng2 (tCons (tE K CL W cf ios a) (tCons (tE K CL W cf ios b) tNil)) σ H R := by
  obtain ⟨F, ρ, ft, Rr, h⟩ := h
  simp only [runIt] at h
  refine ⟨F, ρ, ft, Rr, wsh_bnd h fun r ρ1 v H1 F1 ft1 fp R1 s1 x n p h => ?_⟩
  obtain ⟨dp, h⟩ := wsh_ite' h rfl
  refine ⟨F1, ρ1, ft1, R1, wsh_bnd2 R1 s1 h fun r' ρ2 v' H2 F2 ft2 fp2 R2 s2 x2 n2 p2 h => ?_⟩
  have x' := x.stp s2 fun z => by rw [z] at dp; cases dp
  split at h
  · rename_i i j e e'
    obtain ⟨hj, h⟩ := wsh_ite h rfl
    obtain ⟨fp', rd0⟩ := x'.rd R2 e
    obtain ⟨fp'', rd1⟩ := x2.rd R2 e'
    cases rd0.int_
    cases rd1.int_
    simp only [rngOk, Bool.and_eq_true, decide_eq_true_eq] at hj
    exact ⟨i, j, rfl, ⟨hj.1.1, hj.1.2, hj.2.1, hj.2.2⟩, h _ H2 F2 ft2 [] R2 (s1.trans R1 s2) ⟨itOk_rng rfl, rfl⟩ (fun _ z => nomatch z) fun z => by cases z⟩
  · exact h.elim
/-- a list or a tuple -/
def iSeq (K : PySem.W.Frag) (tl : TE) : TI := fun σ H R => tl σ H fun x H1 => ∃ a, x = .ref a ∧ (((∃ xs, SqL K H1 a xs) ∧ R (Itl K a) H1) ∨ ((∃ xs, SqT K H1 a xs) ∧ R (Itt K a) H1))
theorem pi_seq {X : Cx} {tg l : Expr} {tl : TE} (hl : PE X l tl) : PI X tg l (iSeq X.K tl) := by
  refine ⟨fun pins s σ H R I h => ?_⟩
  refine thn (hl.run pins s σ H _ I h) fun v s1 ⟨x, H1, I1, r1, a, ex, q1⟩ => ?_
  subst ex
  rcases q1 with ⟨sq, q⟩ | ⟨sq, q⟩
  · have hc : PE X l (fun σ H Q => False) := ⟨fun _ _ _ _ _ _ z => z.elim⟩
    obtain ⟨xs, sq⟩ := sq
    obtain ⟨its, rv, p, hz⟩ := I1.list sq
    cases r1
    refine wpAny_pyIter_list p.isList ⟨s1.heap.objs.size, [s1.heap.objs.size], _, _, H1, rfl, I1.kept (t' := s1.toks) fun b o e => Heap.get?_push_of_some _ e, turn_list a _, ⟨_, Heap.get?_push_size _ rfl, rfl, rfl⟩, fun b hb => ?_, q⟩
    cases List.mem_singleton.mp hb
    exact I1.fpOk (Nat.le_refl _) (I1.hok.fresh (Nat.le_refl _))
  · obtain ⟨xs, sq⟩ := sq
    obtain ⟨its, rv, p, hz⟩ := I1.tuple sq
    cases r1
    refine wpAny_pyIter_tuple (show s1.heap.IsTuple a its.toArray from p) ⟨s1.heap.objs.size, [s1.heap.objs.size], _, _, H1, rfl, I1.kept (t' := s1.toks) fun b o e => Heap.get?_push_of_some _ e, turn_tuple a _, ⟨_, Heap.get?_push_size _ rfl, rfl, rfl⟩, fun b hb => ?_, q⟩
    cases List.mem_singleton.mp hb
    exact I1.fpOk (Nat.le_refl _) (I1.hok.fresh (Nat.le_refl _))
theorem itOk_lst {a : Addr} {vs : List V} {ds : List D} {σ : L2.St} {F H0 : Hp} (q : SqL K F a vs) (r : Reps K CL F H0 ds vs []) : ItOk K CL (Itl K a) (ds, none) σ F := by
  intro F' H σ' ρ ft m R _ _
  have sq : SqL K H a vs := sqL_mono (m.trans R.sub) q
  have r' : Reps K CL F' H ds vs [] := r.any m
  refine ⟨⟨vs, sq, by rw [r.length]; exact Nat.le_refl _⟩, fun i d e => ?_⟩
  obtain ⟨v, e1, rv⟩ := r'.get e
  refine ⟨⟨vs, v, sq, e1⟩, fun x H' y => ⟨y.1, ?_⟩⟩
  have := y.2 vs sq
  rw [e1] at this
  cases this
  exact rv
theorem itOk_tup {a : Addr} {vs : List V} {ds : List D} {σ : L2.St} {F H0 : Hp} (q : SqT K F a vs) (r : Reps K CL F H0 ds vs []) : ItOk K CL (Itt K a) (ds, none) σ F := by
  intro F' H σ' ρ ft m R _ _
  have sq : SqT K H a vs := sqT_mono (m.trans R.sub) q
  have r' : Reps K CL F' H ds vs [] := r.any m
  refine ⟨⟨vs, sq, by rw [r.length]; exact Nat.le_refl _⟩, fun i d e => ?_⟩
  obtain ⟨v, e1, rv⟩ := r'.get e
  refine ⟨⟨vs, v, sq, e1⟩, fun x H' y => ⟨y.1, ?_⟩⟩
  have := y.2 vs sq
  rw [e1] at this
  cases this
  exact rv
theorem itOk_lk {a : Addr} {ds : List D} {σ : L2.St} {F : Hp} {i : Nat} {p : Bool} (e : σ[i]? = some (some (.ref a))) : ItOk K CL (Itl K a) (ds, some (i, p)) σ F := by
  intro F' H σ' ρ ft m R es lk
  have es0 := es i p rfl
  simp only [lkOk] at lk
  split at lk
  · rename_i ds' e1
    have ed := beqL_eq lk
    subst ed
    obtain ⟨v, e2, r⟩ := R.rep i _ e1
    rw [es0, e] at e2
    cases e2
    obtain ⟨b, vs, eb, q, r'⟩ := r.list_ R.sub
    cases eb
    have sq : SqL K H a vs := q
    refine ⟨⟨vs, sq, by rw [r'.length]; exact Nat.le_refl _⟩, fun j d e => ?_⟩
    obtain ⟨v, e1, rv⟩ := r'.get e
    refine ⟨⟨vs, v, sq, e1⟩, fun x H' y => ⟨y.1, ?_⟩⟩
    have := y.2 vs sq
    rw [e1] at this
    cases this
    exact rv
  · cases lk
/-- an owned list is locked, unlocked: nothing is moved -/
theorem Rel.relock {F H : Hp} {σ : L2.St} {ρ : Env} {ft : Ft} {i : Nat} {o o' : Ow} {ds : List D} (R : Rel K CL F H σ ρ ft) (e : gt ρ i = some (.lst o ds)) (ho : o ≠ .fz) (ho' : o' ≠ .fz) : Rel K CL F H σ (ρ.set i (some (.lst o' ds))) ft := by
  have hi := gt_lt e
  refine ⟨R.sub, by rw [List.length_set]; exact R.len, fun j d' ej => ?_, fun j ej => ?_, R.nd, R.dis, R.exc⟩
  · rw [gt_set] at ej
    by_cases q : j = i
    · subst q
      rw [if_pos rfl, if_pos hi] at ej
      cases ej
      obtain ⟨v, e1, r⟩ := R.rep j _ e
      refine ⟨v, e1, ?_⟩
      cases o with
      | fz => exact absurd rfl ho
      | ow => cases o' with
        | fz => exact absurd rfl ho'
        | ow => exact r
        | lk => simpa only [Rep] using r
      | lk => cases o' with
        | fz => exact absurd rfl ho'
        | ow => simpa only [Rep] using r
        | lk => exact r
    · rw [if_neg q] at ej
      exact R.rep j d' ej
  · rw [gt_set] at ej
    by_cases q : j = i
    · subst q
      rw [if_pos rfl, if_pos hi] at ej
      cases ej
    · rw [if_neg q] at ej
      exact R.emp j ej
theorem tI_ex {a : E} {σ : L2.St} {H : Hp} {Rr : L2.It → Hp → Prop} (h : tI K CL W cf ios (.ex a) σ H Rr) : iSeq K (tE K CL W cf ios a) σ H Rr := by
  obtain ⟨F, ρ, ft, R, h⟩ := h
  simp only [runIt] at h
  refine ⟨F, ρ, ft, R, wsh_bnd h fun r ρ1 v H1 F1 ft1 fp R1 s1 x n p h => ?_⟩
  cases r with
  | val d =>
    simp only [walkRes] at h
    obtain ⟨ds, e, h⟩ := wsh_opt h
    cases d with
    | lst o ds' =>
      simp only [itemsOf, Option.some.injEq] at e
      subst e
      cases o with
      | fz =>
        have r := x.1
        simp only [Rep] at r
        obtain ⟨_, b, vs, rfl, q, rr⟩ := r
        exact ⟨b, rfl, .inl ⟨⟨vs, sqL_mono R1.sub q⟩, h _ H1 F1 ft1 [] R1 s1 ⟨itOk_lst q rr, rfl⟩ (fun _ z => nomatch z) fun z => by cases z⟩⟩
      | ow =>
        obtain ⟨R2, s2⟩ := fz_stp R1 s1 n x.2.2
        have r := x.1.frz (fzF_mono R1.sub) (H' := H1) (fun a ha => fzF_in ha)
        simp only [Cov.frz, Rep] at r
        obtain ⟨_, b, vs, rfl, q, rr⟩ := r
        exact ⟨b, rfl, .inl ⟨⟨vs, sqL_mono R2.sub q⟩, h _ H1 _ ft1 [] R2 s2 ⟨itOk_lst q rr, rfl⟩ (fun _ z => nomatch z) fun z => by cases z⟩⟩
      | lk =>
        obtain ⟨R2, s2⟩ := fz_stp R1 s1 n x.2.2
        have r := x.1.frz (fzF_mono R1.sub) (H' := H1) (fun a ha => fzF_in ha)
        simp only [Cov.frz, Rep] at r
        obtain ⟨_, b, vs, rfl, q, rr⟩ := r
        exact ⟨b, rfl, .inl ⟨⟨vs, sqL_mono R2.sub q⟩, h _ H1 _ ft1 [] R2 s2 ⟨itOk_lst q rr, rfl⟩ (fun _ z => nomatch z) fun z => by cases z⟩⟩
    | tup ds' =>
      simp only [itemsOf, Option.some.injEq] at e
      subst e
      have r := x.1
      simp only [Rep] at r
      obtain ⟨_, b, vs, rfl, q, rr⟩ := r
      exact ⟨b, rfl, .inr ⟨⟨vs, sqT_mono R1.sub q⟩, h _ H1 F1 ft1 [] R1 s1 ⟨itOk_tup q rr, rfl⟩ (fun _ z => nomatch z) fun z => by cases z⟩⟩
    | _ => simp [itemsOf] at e
  | «at» i p =>
    simp only [walkRes] at h
    obtain ⟨d, e, h⟩ := wsh_opt h
    cases d with
    | lst o ds =>
      cases o with
      | fz => exact h.elim
      | ow =>
        simp only at h
        obtain ⟨hp, h⟩ := wsh_ite h rfl
        have : p = [] := by simpa using hp
        subst this
        have e1 : gt ρ1 i = some (.lst .ow ds) := by simpa [gtP, getP] using e
        obtain ⟨_, v0, e2, pv⟩ := x
        cases pv
        obtain ⟨l, vs, e3, e4, e5, e6, e7⟩ := R1.lst e1
        rw [e2] at e3
        cases e3
        exact ⟨l, rfl, .inl ⟨⟨vs, .of e5⟩, h _ H1 F1 ft1 [] (R1.relock e1 (by decide) (by decide)) s1 ⟨itOk_lk e2, rfl⟩ (fun _ z => nomatch z) fun z => by cases z⟩⟩
      | lk =>
        simp only at h
        obtain ⟨hp, h⟩ := wsh_ite h rfl
        have : p = [] := by simpa using hp
        subst this
        have e1 : gt ρ1 i = some (.lst .lk ds) := by simpa [gtP, getP] using e
        obtain ⟨_, v0, e2, pv⟩ := x
        cases pv
        obtain ⟨w, e3, rr⟩ := R1.rep i _ e1
        rw [e2] at e3
        cases e3
        obtain ⟨l, vs, rfl, q, _⟩ := rr.list_ R1.sub
        exact ⟨l, rfl, .inl ⟨⟨vs, q⟩, h _ H1 F1 ft1 [] R1 s1 ⟨itOk_lk e2, rfl⟩ (fun _ z => nomatch z) fun z => by cases z⟩⟩
    | _ => exact h.elim
end
end Cov

/-! Cov11: list comprehensions. -/
namespace Cov
open PySem L2
abbrev W0 : WX := fun _ _ _ _ => False
section
variable {K : PySem.W.Frag} {CL : CLT} {W : WX} {cf : CF} {ios : Str → List Bool}
theorem wipeE_len {ρ : Env} : ∀ {is : List Nat}, (wipeE ρ is).length = ρ.length
  | [] => rfl
  | i :: is => by
    show ((wipeE ρ is).set i none).length = _
    rw [List.length_set, wipeE_len]
theorem wipeE_gt {ρ : Env} {j : Nat} : ∀ {is : List Nat}, gt (wipeE ρ is) j = if j ∈ is then none else gt ρ j
  | [] => by simp [wipeE]
  | i :: is => by
    show gt ((wipeE ρ is).set i none) j = _
    rw [gt_set, wipeE_gt]
    by_cases h : j = i
    · subst h
      rw [if_pos rfl, if_pos (show j ∈ j :: is from List.mem_cons_self)]
      split <;> rfl
    · rw [if_neg h]
      by_cases h2 : j ∈ is
      · rw [if_pos h2, if_pos (List.mem_cons_of_mem _ h2)]
      · rw [if_neg h2, if_neg (fun z => (List.mem_cons.mp z).elim h h2)]
theorem backE_len {old ρ : Env} : ∀ {is : List Nat}, (backE old ρ is).length = ρ.length
  | [] => rfl
  | i :: is => by
    show ((backE old ρ is).set i (gt old i)).length = _
    rw [List.length_set, backE_len]
theorem backE_gt {old ρ : Env} {j : Nat} (hl : old.length = ρ.length) : ∀ {is : List Nat}, gt (backE old ρ is) j = if j ∈ is then gt old j else gt ρ j
  | [] => by simp [backE]
  | i :: is => by
    show gt ((backE old ρ is).set i (gt old i)) j = _
    rw [gt_set, backE_gt hl, backE_len]
    by_cases h : j = i
    · subst h
      rw [if_pos rfl, if_pos (show j ∈ j :: is from List.mem_cons_self)]
      split
      · rfl
      · rename_i hi
        cases e : gt old j with
        | none => rfl
        | some d => exact absurd (gt_lt e) (by rw [hl]; exact hi)
    · rw [if_neg h]
      by_cases h2 : j ∈ is
      · rw [if_pos h2, if_pos (List.mem_cons_of_mem _ h2)]
      · rw [if_neg h2, if_neg (fun z => (List.mem_cons.mp z).elim h h2)]
theorem wipe_out' {σ : L2.St} {i : Nat} : ∀ {vs : List Nat}, i ∉ vs → (wipe σ vs)[i]? = σ[i]?
  | [], _ => rfl
  | v :: vs, h => by
    have h1 : v ≠ i := fun e => h (by rw [e]; exact List.mem_cons_self)
    have h2 : i ∉ vs := fun m => h (List.mem_cons_of_mem _ m)
    show ((wipe σ vs).set v none)[i]? = _
    rw [List.getElem?_set_ne h1]
    exact wipe_out' h2
theorem wipe_in {σ : L2.St} {i : Nat} : ∀ {vs : List Nat}, i ∈ vs → (wipe σ vs)[i]? = if i < σ.length then some none else none
  | [], h => nomatch h
  | v :: vs, h => by
    show ((wipe σ vs).set v none)[i]? = _
    by_cases e : v = i
    · subst e
      rw [List.getElem?_set, if_pos rfl, wipe_length]
    · rw [List.getElem?_set_ne e]
      exact wipe_in ((List.mem_cons.mp h).resolve_left fun z => e z.symm)
theorem wipe_eq {σ τ : L2.St} {vs : List Nat} (hl : τ.length = σ.length) (h : ∀ j, j ∉ vs → τ[j]? = σ[j]?) : wipe τ vs = wipe σ vs := by
  apply List.ext_getElem?
  intro i
  by_cases hi : i ∈ vs
  · rw [wipe_in hi, wipe_in hi, hl]
  · rw [wipe_out' hi, wipe_out' hi, h i hi]
/-- the footprints without the wiped slots' -/
def offF (ft : Ft) (ow : List Nat) : Ft := fun i => if i ∈ ow then [] else ft i
theorem offF_mem {ft : Ft} {ow : List Nat} {a : Addr} {i : Nat} (h : a ∈ offF ft ow i) : i ∉ ow ∧ a ∈ ft i := by
  unfold offF at h
  split at h
  · cases h
  · exact ⟨by assumption, h⟩
theorem Rel.wipe_ {F H : Hp} {σ : L2.St} {ρ : Env} {ft : Ft} (ow : List Nat) (R : Rel K CL F H σ ρ ft) : Rel K CL F H (wipe σ ow) (wipeE ρ ow) (offF ft ow) := by
  refine ⟨R.sub, by rw [wipe_length, wipeE_len]; exact R.len, fun i d e => ?_, fun i e => ?_, fun i => ?_, fun i j a h1 h2 => R.dis i j a (offF_mem h1).2 (offF_mem h2).2, R.exc⟩
  · rw [wipeE_gt] at e
    split at e
    · cases e
    · rename_i h
      obtain ⟨v, e1, r⟩ := R.rep i d e
      exact ⟨v, by rw [wipe_out' h]; exact e1, by unfold offF; rw [if_neg h]; exact r⟩
  · rw [wipeE_gt] at e
    unfold offF
    split
    · rfl
    · rename_i h
      rw [if_neg h] at e
      exact R.emp i e
  · unfold offF
    split
    · exact List.nodup_nil
    · exact R.nd i
/-- another tracked thing changes -/
theorem Rel.other {F H : Hp} {σ : L2.St} {ρ : Env} {ft : Ft} {D : Addr} {o : HO} (R : Rel K CL F H σ ρ ft) (hF : F D = none) (hD : ∀ i, D ∉ ft i) : Rel K CL F (upd H D o) σ ρ ft where
  sub := fun a u h => by
    rw [upd_ne (fun z => by rw [z, hF] at h; cases h)]
    exact R.sub a u h
  len := R.len
  rep := fun i d e => by
    obtain ⟨v, e1, r⟩ := R.rep i d e
    exact ⟨v, e1, r.mono .refl (fun a ha => upd_ne fun z => hD i (by rw [← z]; exact ha)) fun a ha => (r.fp a ha).1⟩
  emp := R.emp
  nd := R.nd
  dis := R.dis
  exc := R.exc
/-- what a turn gives -/
theorem compL_cons {w : Wlk} {ow : List Nat} {turn : D → Env → M (Option D)} {x : D} {xs acc ds : List D} {ρ ρ2 : Env} (h : compL w ow turn (x :: xs) acc ρ = some (.ok ds ρ2)) :
    lkOk w ρ = true ∧ ((∃ ρ1, turn x ρ = some (.ok none ρ1) ∧ compL w ow turn xs acc (wipeE ρ1 ow) = some (.ok ds ρ2)) ∨
      ∃ d ρ1, turn x ρ = some (.ok (some d) ρ1) ∧ acc.length < sizeLine ∧ compL w ow turn xs (acc ++ [d]) (wipeE ρ1 ow) = some (.ok ds ρ2)) := by
  simp only [compL] at h
  split at h
  · rename_i hl
    refine ⟨hl, ?_⟩
    split at h
    · exact .inl ⟨_, by assumption, h⟩
    · split at h
      · exact .inr ⟨_, _, by assumption, by assumption, h⟩
      · cases h
    · cases h
  · cases h
theorem compL_nil {w : Wlk} {ow : List Nat} {turn : D → Env → M (Option D)} {acc ds : List D} {ρ ρ2 : Env} (h : compL w ow turn [] acc ρ = some (.ok ds ρ2)) : lkOk w ρ = true ∧ ds = acc ∧ ρ2 = ρ := by
  simp only [compL] at h
  split at h
  · simp only [Option.some.injEq, Out.ok.injEq] at h
    exact ⟨by assumption, h.1.symm, h.2.symm⟩
  · cases h
def tCond (K : PySem.W.Frag) (CL : CLT) (cf : CF) (ios : Str → List Bool) : Option E → TT
  | none => tYes
  | some t => tT K CL W0 cf ios t
theorem bnd_some {α β : Type} {m : M α} {f : α → Env → M β} {r : β} {ρ : Env} (h : bnd m f = some (.ok r ρ)) : ∃ a ρ1, m = some (.ok a ρ1) ∧ f a ρ1 = some (.ok r ρ) := by
  cases m with
  | none => cases h
  | some o =>
    cases o with
    | ok a ρ1 => exact ⟨a, ρ1, rfl, h⟩
    | ex c d ρ1 => cases h
theorem opt_some' {α β : Type} {m : Option α} {f : α → M β} {r : Out β} (h : opt m f = some r) : ∃ a, m = some a ∧ f a = some r := by
  cases m with
  | none => cases h
  | some a => exact ⟨a, rfl, h⟩
/-- the new list's item is laid -/
theorem tE_comp {nst : Bool} {ow : List Nat} {elt : E} {tg : Tg} {it : It} {cond : Option E} {σ : L2.St} {H : Hp} {Q : VK} (h : tE K CL W cf ios (.comp nst ow elt tg it cond) σ H Q) :
    tLc (tI K CL W cf ios it) (tTg K CL tg) (tCond K CL cf ios cond) (tE K CL W0 cf ios elt) ow σ H Q := by
  obtain ⟨F, ρ, ft, R, h⟩ := h
  simp only [runE] at h
  refine ⟨F, ρ, ft, R, wsh_bnd h fun w ρ1 J H1 F1 ft1 fp R1 s1 x n p h => ?_⟩
  obtain ⟨hc, h⟩ := wsh_ite' h rfl
  simp only [Bool.or_eq_false_iff] at hc
  obtain ⟨hlk, htg⟩ := hc
  have tgOw : ∀ j, j ∉ ow → j ∉ tgS tg := fun j hj hm => by
    have := List.any_eq_false.mp htg j hm
    simp at this
    exact hj this
  obtain ⟨hJ, rfl⟩ := x
  -- the loop's run
  generalize htn : (fun (x : D) (ρa : Env) => opt (bindTg tg x ρa) fun ρb => bnd (match cond with
      | none => some (Out.ok (Res.val (.bl true)) ρb)
      | some t => runE cf ios t ρb) fun rt ρc => match rd rt ρc with
        | some (.bl true) => bnd (runE cf ios elt ρc) fun re ρd => opt (tk re ρd) fun y => some (Out.ok (some (frz y.1)) y.2)
        | some (.bl false) => some (Out.ok none ρc)
        | _ => none) = turn at h
  cases hcl : compL w ow turn w.1 [] (wipeE ρ1 ow) with
  | none => rw [hcl] at h; exact h.elim
  | some o =>
    cases o with
    | ex c d ρ2 => rw [hcl] at h; exact h.elim
    | ok ds ρ2 =>
      rw [hcl] at h
      simp only at h
      obtain ⟨ρ3, e3, h⟩ := wsh_opt h
      intro D hD
      have R1w := R1.wipe_ ow
      have hFD : F1 D = none := R1.sub.none hD
      have hoD : ∀ i, D ∉ offF ft1 ow i := fun i z => by
        obtain ⟨_, o, e, _⟩ := R1.off (offF_mem z).2
        rw [hD] at e; cases e
      refine ⟨fun i m H' => m = w.1.length - i ∧ i ≤ w.1.length ∧ ∃ F' ρ' ft' acc vacc, Rel K CL F' H' (wipe σ ow) ρ' ft' ∧ Stp F1 H1 (offF ft1 ow) F' H' ft' ∧ H' D = some (.lst vacc) ∧ F' D = none ∧ (∀ j, D ∉ ft' j) ∧ Reps K CL F' H' acc vacc [] ∧
        compL w ow turn (w.1.drop i) acc ρ' = some (.ok ds ρ2), ⟨_, rfl, Nat.zero_le _, F1, _, _, [], [], R1w.other hFD hoD, ?_, upd_same, hFD, hoD, Reps.nil, by simpa using hcl⟩, ?_⟩
      · exact ⟨fun a o h _ => by rw [upd_ne (ne_of_none h hD)]; exact h, fun a h => by
          by_cases z : a = D
          · rw [z]; exact hD
          · rwa [upd_ne z] at h, fun i a h => .inl ⟨i, h⟩, fun a o h => .inl h, .refl⟩
      · rintro i m H' ⟨rfl, hi, F', ρ', ft', acc, vacc, R', s', hD', hFD', hoD', ra, hrun⟩
        by_cases hlt : i < w.1.length
        · -- a turn
          have hx : w.1.drop i = w.1[i] :: w.1.drop (i + 1) := List.drop_eq_getElem_cons hlt
          rw [hx] at hrun
          obtain ⟨hl, hrun⟩ := compL_cons hrun
          have ji := hJ F' H' _ ρ' ft' s'.mono R' (fun j q e => wipe_out' fun z => by
            rw [e] at hlk
            simp at hlk
            exact hlk z) hl
          obtain ⟨jgo, jy⟩ := ji.2 i _ (List.getElem?_eq_getElem hlt)
          -- where the next turn begins
          refine .inr ⟨jgo, fun Hn => ∃ Fn σn ρn ftn an vn, Rel K CL Fn Hn σn ρn ftn ∧ wipe σn ow = wipe σ ow ∧ Stp F1 H1 (offF ft1 ow) Fn Hn ftn ∧ Hn D = some (.lst vn) ∧ Fn D = none ∧ (∀ j, D ∉ ftn j) ∧ Reps K CL Fn Hn an vn [] ∧
            compL w ow turn (w.1.drop (i + 1)) an (wipeE ρn ow) = some (.ok ds ρ2), ?_, fun x Hx y => ?_⟩
          · rintro Hn ⟨Fn, σn, ρn, ftn, an, vn, Rn, ew, sn, q1, q2, q3, q4, q5⟩
            refine ⟨_, by omega, rfl, by omega, Fn, wipeE ρn ow, offF ftn ow, an, vn, by rw [← ew]; exact Rn.wipe_ ow, ?_, q1, q2, fun j z => q3 j (offF_mem z).2, q4, q5⟩
            exact ⟨sn.fr, sn.dom, fun j a h => sn.own j a (offF_mem h).2, sn.fro, sn.mono⟩
          · obtain ⟨rfl, rx⟩ := jy x Hx y
            -- the target
            have tb : ∃ ρb, bindTg tg w.1[i] ρ' = some ρb ∧ ∀ r ρe, turn w.1[i] ρ' = some (.ok r ρe) → bnd (match cond with
                | none => some (Out.ok (Res.val (.bl true)) ρb)
                | some t => runE cf ios t ρb) (fun rt ρc => match rd rt ρc with
                  | some (.bl true) => bnd (runE cf ios elt ρc) fun re ρd => opt (tk re ρd) fun y => some (Out.ok (some (frz y.1)) y.2)
                  | some (.bl false) => some (Out.ok none ρc)
                  | _ => none) = some (.ok r ρe) := by
              have some_ : ∃ r ρe, turn w.1[i] ρ' = some (.ok r ρe) := by
                rcases hrun with ⟨ρe, e, _⟩ | ⟨d, ρe, e, _⟩
                · exact ⟨_, _, e⟩
                · exact ⟨_, _, e⟩
              obtain ⟨r, ρe, e⟩ := some_
              rw [← htn] at e
              obtain ⟨ρb, eb, e⟩ := opt_some' e
              refine ⟨ρb, eb, fun r' ρe' e' => ?_⟩
              rw [← htn] at e'
              obtain ⟨ρb', eb', e'⟩ := opt_some' e'
              rw [eb] at eb'
              cases eb'
              exact e'
            obtain ⟨ρb, eb, hturn⟩ := tb
            refine ⟨F', ρ', ft', w.1[i], ρb, R', rx, eb, fun σ2 ft2 R2 m2 p2 => ?_⟩
            have ew : wipe σ2 ow = wipe σ ow := by
              have h1 : wipe σ2 ow = wipe (wipe σ ow) ow := wipe_eq (R2.len.trans ((bindTg_len eb).trans R'.len.symm)) fun j hj => p2 j (tgOw j hj)
              have h2 : wipe (wipe σ ow) ow = wipe σ ow := wipe_eq (wipe_length _ _) fun j hj => wipe_out' hj
              rw [h1, h2]
            have s2 : Stp F1 H1 (offF ft1 ow) F' Hx ft2 := ⟨s'.fr, s'.dom, fun j a h => s'.own j a (m2 j a h), s'.fro, s'.mono⟩
            have hoD2 : ∀ j, D ∉ ft2 j := fun j z => hoD' j (m2 j D z)
            refine ⟨ew, ?_⟩
            -- behind the test
            have rest : ∀ (b : Bool) (ρc : Env) (H3 F3 : Hp) (ft3 : Ft), Rel K CL F3 H3 σ2 ρc ft3 → Stp F1 H1 (offF ft1 ow) F3 H3 ft3 → H3 D = some (.lst vacc) → F3 D = none → (∀ j, D ∉ ft3 j) → Reps K CL F3 H3 acc vacc [] →
                (b = true → ∀ r ρe, turn w.1[i] ρ' = some (.ok r ρe) → bnd (runE cf ios elt ρc) (fun re ρd => opt (tk re ρd) fun y => some (Out.ok (some (frz y.1)) y.2)) = some (.ok r ρe)) →
                (b = false → ∀ r ρe, turn w.1[i] ρ' = some (.ok r ρe) → r = none ∧ ρe = ρc) →
                if b = true then tE K CL W0 cf ios elt σ2 H3 fun y H4 => ∃ acc, H4 D = some (.lst acc) ∧ acc.length < sizeLine ∧ (fun Hn => ∃ Fn σn ρn ftn an vn, Rel K CL Fn Hn σn ρn ftn ∧ wipe σn ow = wipe σ ow ∧ Stp F1 H1 (offF ft1 ow) Fn Hn ftn ∧ Hn D = some (.lst vn) ∧ Fn D = none ∧ (∀ j, D ∉ ftn j) ∧ Reps K CL Fn Hn an vn [] ∧
                    compL w ow turn (w.1.drop (i + 1)) an (wipeE ρn ow) = some (.ok ds ρ2)) (upd H4 D (.lst (acc ++ [y])))
                else (fun Hn => ∃ Fn σn ρn ftn an vn, Rel K CL Fn Hn σn ρn ftn ∧ wipe σn ow = wipe σ ow ∧ Stp F1 H1 (offF ft1 ow) Fn Hn ftn ∧ Hn D = some (.lst vn) ∧ Fn D = none ∧ (∀ j, D ∉ ftn j) ∧ Reps K CL Fn Hn an vn [] ∧
                    compL w ow turn (w.1.drop (i + 1)) an (wipeE ρn ow) = some (.ok ds ρ2)) H3 := by
              intro b ρc H3 F3 ft3 R3 s3 d3 f3 o3 r3 hb1 hb0
              cases b with
              | false =>
                rw [if_neg (by decide)]
                rcases hrun with ⟨ρe, e, hr⟩ | ⟨d, ρe, e, _, hr⟩
                · obtain ⟨_, rfl⟩ := hb0 rfl _ _ e
                  exact ⟨F3, σ2, ρe, ft3, acc, vacc, R3, ew, s3, d3, f3, o3, r3, hr⟩
                · obtain ⟨z, _⟩ := hb0 rfl _ _ e
                  cases z
              | true =>
                rw [if_pos rfl]
                rcases hrun with ⟨ρe, e, hr⟩ | ⟨d, ρe, e, hz, hr⟩
                · have e' := hb1 rfl _ _ e
                  obtain ⟨re, ρd, _, e2⟩ := bnd_some e'
                  obtain ⟨y, _, e4⟩ := opt_some' e2
                  cases e4
                · have e' := hb1 rfl _ _ e
                  obtain ⟨re, ρd, e1, e2⟩ := bnd_some e'
                  obtain ⟨⟨y1, y2⟩, e4, e5⟩ := opt_some' e2
                  simp only [Option.some.injEq, Out.ok.injEq] at e5
                  obtain ⟨rfl, rfl⟩ := e5
                  refine ⟨F3, ρc, ft3, R3, ?_⟩
                  rw [e1]
                  intro v H4 F4 ft4 fp4 R4 s4 x4 n4 _
                  obtain ⟨F5, ft5, R5, s5, r5, nd5, o5⟩ := tk_ok R4 x4 e4
                  have s35 := s4.trans R4 s5
                  obtain ⟨R6, s6⟩ := fz_stp R5 s35 n4 o5
                  have hD4 : H4 D = some (.lst vacc) := s4.fr D _ d3 o3
                  -- D is apart from all that
                  have notD : D ∉ fp4 := fun z => by
                    rcases n4 D z with ⟨j, q⟩ | q
                    · exact o3 j q
                    · rw [d3] at q; cases q
                  have f5 : F5 D = none := by
                    cases q : F5 D with
                    | none => rfl
                    | some u =>
                      rcases s35.fro D u q with z | ⟨j, z⟩ | z
                      · rw [f3] at z; cases z
                      · exact absurd z (o3 j)
                      · rw [d3] at z; cases z
                  have f6 : fzF F5 H4 fp4 D = none := by rw [fzF_out notD]; exact f5
                  have o6 : ∀ j, D ∉ ft5 j := fun j z => by
                    rcases s35.own j D z with ⟨j', q⟩ | q
                    · exact o3 j' q
                    · rw [d3] at q; cases q
                  have r6 : Rep K CL (fzF F5 H4 fp4) H4 (frz y1) v [] := r5.frz (fzF_mono R5.sub) fun a ha => fzF_in ha
                  have ra6 : Reps K CL (fzF F5 H4 fp4) H4 acc vacc [] := r3.any (s6.mono)
                  refine ⟨vacc, hD4, by rw [ra6.length]; exact hz, fzF F5 H4 fp4, σ2, y2, ft5, acc ++ [frz y1], vacc ++ [v], R6.other f6 o6, ew, ?_, upd_same, f6, o6, (ra6.app (Reps.one r6)).any .refl, hr⟩
                  have s7 := s3.trans R3 s6
                  refine ⟨fun a o h n => ?_, fun a h => ?_, s7.own, s7.fro, s7.mono⟩
                  · rw [upd_ne (ne_of_none h hD)]
                    exact s7.fr a o h n
                  · by_cases z : a = D
                    · rw [z]; exact hD
                    · rw [upd_ne z] at h
                      exact s7.dom a h
            cases cond with
            | none =>
              refine rest true ρb Hx F' ft2 R2 s2 hD' hFD' hoD2 ra (fun _ r ρe e => ?_) fun z => by cases z
              exact hturn r ρe e
            | some t =>
              obtain ⟨r0, ρe0, e0⟩ : ∃ r ρe, turn w.1[i] ρ' = some (.ok r ρe) := by
                rcases hrun with ⟨ρe, e, _⟩ | ⟨d, ρe, e, _⟩
                · exact ⟨_, _, e⟩
                · exact ⟨_, _, e⟩
              obtain ⟨rt, ρc, et, ec⟩ := bnd_some (hturn r0 ρe0 e0)
              refine ⟨F', ρb, ft2, R2, ?_⟩
              rw [show runE cf ios t ρb = some (.ok rt ρc) from et]
              intro v H3 F3 ft3 fp3 R3 s3 x3 n3 _
              have s23 := s2.trans R2 s3
              have d3 : H3 D = some (.lst vacc) := s3.fr D _ hD' hoD2
              have f3 : F3 D = none := by
                cases q : F3 D with
                | none => rfl
                | some u =>
                  rcases s3.fro D u q with z | ⟨j, z⟩ | z
                  · rw [hFD'] at z; cases z
                  · exact absurd z (hoD2 j)
                  · rw [hD'] at z; cases z
              have o3 : ∀ j, D ∉ ft3 j := fun j z => by
                rcases s3.own j D z with ⟨j', q⟩ | q
                · exact hoD2 j' q
                · rw [hD'] at q; cases q
              have r3 : Reps K CL F3 H3 acc vacc [] := ra.any s3.mono
              have hturn' : ∀ r ρe, turn w.1[i] ρ' = some (.ok r ρe) → (match rd rt ρc with
                  | some (.bl true) => bnd (runE cf ios elt ρc) fun re ρd => opt (tk re ρd) fun y => some (Out.ok (some (frz y.1)) y.2)
                  | some (.bl false) => some (Out.ok none ρc)
                  | _ => none) = some (.ok r ρe) := fun r ρe e => by
                have := hturn r ρe e
                rw [et] at this
                exact this
              split at ec
              · rename_i eb2
                refine ⟨true, x3.bl R3 eb2, rest true ρc H3 F3 ft3 R3 s23 d3 f3 o3 r3 (fun _ r ρe e => ?_) fun z => by cases z⟩
                have := hturn' r ρe e
                rw [eb2] at this
                exact this
              · rename_i eb2
                refine ⟨false, x3.bl R3 eb2, rest false ρc H3 F3 ft3 R3 s23 d3 f3 o3 r3 (fun z => by cases z) fun _ r ρe e => ?_⟩
                have := hturn' r ρe e
                rw [eb2] at this
                simp only [Option.some.injEq, Out.ok.injEq] at this
                exact ⟨this.1.symm, this.2.symm⟩
              · cases ec
        · -- the end
          have e : i = w.1.length := by omega
          subst e
          rw [List.drop_length] at hrun
          obtain ⟨hl, rfl, rfl⟩ := compL_nil hrun
          have ji := hJ F' H' _ _ ft' s'.mono R' (fun j q e => wipe_out' fun z => by
            rw [e] at hlk
            simp at hlk
            exact hlk z) hl
          refine .inl ⟨ji.1, ?_⟩
          -- the slots as they were
          have hlen : ρ1.length = ρ2.length := by
            have h1 := R1.len
            have h2 := R'.len
            rw [wipe_length] at h2
            omega
          have apart : ∀ i a, a ∈ ft1 i → i ∈ ow → ∀ j, a ∉ ft' j := by
            intro i a h1 h2 j h3
            rcases s'.own j a h3 with ⟨k, q⟩ | q
            · obtain ⟨q1, q2⟩ := offF_mem q
              have := R1.dis i k a h1 q2
              subst this
              exact q1 h2
            · obtain ⟨_, o, e, _⟩ := R1.off h1
              rw [e] at q; cases q
          have Rb : Rel K CL F' H' σ (backE ρ1 ρ2 ow) (fun i => if i ∈ ow then ft1 i else ft' i) := by
            refine ⟨R'.sub, by rw [backE_len, ← hlen]; exact R1.len, fun i d e => ?_, fun i e => ?_, fun i => ?_, fun i j a h1 h2 => ?_, R'.exc⟩
            · rw [backE_gt hlen] at e
              by_cases hi : i ∈ ow
              · rw [if_pos hi] at e ⊢
                obtain ⟨v, e1, r⟩ := R1.rep i d e
                refine ⟨v, e1, r.stp s' fun a ha j z => ?_⟩
                obtain ⟨q1, q2⟩ := offF_mem z
                have := R1.dis i j a ha q2
                subst this
                exact q1 hi
              · rw [if_neg hi] at e ⊢
                obtain ⟨v, e1, r⟩ := R'.rep i d e
                exact ⟨v, by rw [← wipe_out' (σ := σ) hi]; exact e1, r⟩
            · rw [backE_gt hlen] at e
              by_cases hi : i ∈ ow
              · rw [if_pos hi] at e ⊢; exact R1.emp i e
              · rw [if_neg hi] at e ⊢; exact R'.emp i e
            · split
              · exact R1.nd i
              · exact R'.nd i
            · by_cases hi : i ∈ ow
              · rw [if_pos hi] at h1
                by_cases hj : j ∈ ow
                · rw [if_pos hj] at h2; exact R1.dis i j a h1 h2
                · rw [if_neg hj] at h2; exact absurd h2 (apart i a h1 hi j)
              · rw [if_neg hi] at h1
                by_cases hj : j ∈ ow
                · rw [if_pos hj] at h2; exact absurd h1 (apart j a h2 hj i)
                · rw [if_neg hj] at h2; exact R'.dis i j a h1 h2
          have sb : Stp F1 H1 ft1 F' H' (fun i => if i ∈ ow then ft1 i else ft' i) := by
            refine ⟨fun a o h n => s'.fr a o h fun i z => n i (offF_mem z).2, s'.dom, fun i a h => ?_, fun a o h => ?_, s'.mono⟩
            · split at h
              · exact .inl ⟨i, h⟩
              · rcases s'.own i a h with ⟨j, q⟩ | q
                · exact .inl ⟨j, (offF_mem q).2⟩
                · exact .inr q
            · rcases s'.fro a o h with q | ⟨j, q⟩ | q
              · exact .inl q
              · exact .inr (.inl ⟨j, (offF_mem q).2⟩)
              · exact .inr (.inr q)
          have hDb : ∀ j, D ∉ (fun i => if i ∈ ow then ft1 i else ft' i) j := fun j z => by
            have z : D ∈ (if j ∈ ow then ft1 j else ft' j) := z
            split at z
            · obtain ⟨_, o, e, _⟩ := R1.off z
              rw [hD] at e; cases e
            · exact hoD' j z
          -- unlocked
          have R3 : Rel K CL F' H' σ ρ3 (fun i => if i ∈ ow then ft1 i else ft' i) := by
            cases hw : w.2 with
            | none =>
              rw [hw] at e3
              cases e3
              exact Rb
            | some x =>
              obtain ⟨k, b⟩ := x
              rw [hw] at e3
              cases b with
              | false => cases e3; exact Rb
              | true =>
                simp only [unlk, Option.bind_eq_some_iff] at e3
                obtain ⟨d, e4, e5⟩ := e3
                split at e5
                · cases e5
                  exact Rb.relock e4 (by decide) (by decide)
                · cases e5
          refine h (.ref D) H' F' _ [D] R3 (s1.trans R1 sb) ⟨?_, by simp, fun a ha i => by rw [List.mem_singleton.mp ha]; exact hDb i⟩ (fun a ha => .inr ?_) fun z => by simp [pureE] at z
          · simp only [Rep]
            exact ⟨D, vacc, rfl, rfl, hD', hFD', ra⟩
          · rw [List.mem_singleton.mp ha]
            exact s1.dom D hD
end
end Cov

/-! Cov12: statements. -/
namespace Cov
open PySem L2
section
variable (K : PySem.W.Frag) (CL : CLT) (W : WX) (cf : CF) (ios : Str → List Bool) (io : List Bool)
abbrev Kept (A : List Nat) (σ σ' : L2.St) : Prop := ∀ j, j ∉ A → σ'[j]? = σ[j]?
def stW (σ : L2.St) (F H : Hp) (ft : Ft) (A : List Nat) (ρ' : Env) (P : L2.St → Hp → Prop) : Prop :=
  ∀ σ' H' F' ft', Rel K CL F' H' σ' ρ' ft' → Stp F H ft F' H' ft' → Kept A σ σ' → P σ' H'
def rtW (σ : L2.St) (F H : Hp) (ft : Ft) (A : List Nat) (ρ' : Env) (d : D) (P : VK) : Prop :=
  ∀ v fp σ' H' F' ft', Rel K CL F' H' σ' ρ' ft' → Stp F H ft F' H' ft' → Kept A σ σ' → Rep K CL F' H' d v fp → fp.Nodup → (∀ a ∈ fp, ∀ i, a ∉ ft' i) → New H ft fp → P v H'
def exW (σ : L2.St) (F H : Hp) (ft : Ft) (A : List Nat) (ρ' : Env) (c : Str) (d : Option D) : Prop :=
  ∀ cls dd σ' H' F' ft', Rel K CL F' H' σ' ρ' ft' → Stp F H ft F' H' ft' → Kept A σ σ' → ExO K CL F' H' c d cls dd → W cls dd σ' H'
def wS (m : M Fl) (σ : L2.St) (F H : Hp) (ft : Ft) (A : List Nat) (D : Ends) : Prop := match m with
  | none => False
  | some (.ok .nx ρ') => stW K CL σ F H ft A ρ' D.nx
  | some (.ok .bk ρ') => stW K CL σ F H ft A ρ' D.bk
  | some (.ok .ct ρ') => stW K CL σ F H ft A ρ' D.ct
  | some (.ok (.rt d) ρ') => rtW K CL σ F H ft A ρ' d D.rt
  | some (.ex c d ρ') => exW K CL W σ F H ft A ρ' c d
def tS (s : S) : TS := fun D σ H => ∃ F ρ ft, Rel K CL F H σ ρ ft ∧ wS K CL W (runS cf ios io s ρ) σ F H ft (asg s) D
def tSs (ss : List S) : TS := fun D σ H => ∃ F ρ ft, Rel K CL F H σ ρ ft ∧ wS K CL W (runSs cf ios io ss ρ) σ F H ft (asgL ss) D
end
section
variable {K : PySem.W.Frag} {CL : CLT} {W : WX} {cf : CF} {ios : Str → List Bool} {io : List Bool}
variable {F F1 H H1 : Hp} {σ σ1 : L2.St} {ρ ρ1 : Env} {ft ft1 : Ft} {A A' : List Nat} {D : Ends}
theorem Kept.trans {σ2 : L2.St} (a : Kept A σ σ1) (b : Kept A σ1 σ2) : Kept A σ σ2 := fun j n => (b j n).trans (a j n)
theorem Kept.le {σ1 : L2.St} (a : Kept A' σ σ1) (s : ∀ j, j ∈ A' → j ∈ A) : Kept A σ σ1 := fun j n => a j fun z => n (s j z)
theorem wS.stp {m : M Fl} (R : Rel K CL F1 H1 σ1 ρ1 ft1) (s : Stp F H ft F1 H1 ft1) (k : Kept A σ σ1) (sub : ∀ j, j ∈ A' → j ∈ A) (h : wS K CL W m σ F H ft A D) : wS K CL W m σ1 F1 H1 ft1 A' D := by
  cases m with
  | none => exact h
  | some o =>
    cases o with
    | ex c d ρ2 => exact fun cls dd σ' H' F' ft' R' s' k' x => h cls dd σ' H' F' ft' R' (s.trans R s') (k.trans (k'.le sub)) x
    | ok f ρ2 =>
      cases f with
      | nx => exact fun σ' H' F' ft' R' s' k' => h σ' H' F' ft' R' (s.trans R s') (k.trans (k'.le sub))
      | bk => exact fun σ' H' F' ft' R' s' k' => h σ' H' F' ft' R' (s.trans R s') (k.trans (k'.le sub))
      | ct => exact fun σ' H' F' ft' R' s' k' => h σ' H' F' ft' R' (s.trans R s') (k.trans (k'.le sub))
      | rt d => exact fun v fp σ' H' F' ft' R' s' k' r nd o n => h v fp σ' H' F' ft' R' (s.trans R s') (k.trans (k'.le sub)) r nd o (n.stp s)
theorem wS_bnd {α : Type} {m : M α} {f : α → Env → M Fl} {γ : Type} {pu1 : Bool} {P : Hp → Hp → Ft → α → γ → List Addr → Prop} {Q : γ → Hp → Prop}
    (h : wS K CL W (bnd m f) σ F H ft A D)
    (k : ∀ r ρ1 v H1 F1 ft1 fp, Rel K CL F1 H1 σ ρ1 ft1 → Stp F H ft F1 H1 ft1 → P F1 H1 ft1 r v fp → New H ft fp → (pu1 = true → Sub H H1) → wS K CL W (f r ρ1) σ F H ft A D → Q v H1) : wsh K CL W m σ F H ft pu1 P Q := by
  cases m with
  | none => exact h
  | some o =>
    cases o with
    | ok r ρ1 => exact fun v H1 F1 ft1 fp R s x n p => k r ρ1 v H1 F1 ft1 fp R s x n p h
    | ex c d ρ1 => exact fun cls dd H' F' ft' R' s' x => h cls dd σ H' F' ft' R' s' (fun _ _ => rfl) x
theorem wS_opt {α : Type} {m : Option α} {f : α → M Fl} (h : wS K CL W (opt m f) σ F H ft A D) : ∃ a, m = some a ∧ wS K CL W (f a) σ F H ft A D := by
  cases m with
  | none => exact h.elim
  | some a => exact ⟨a, rfl, h⟩
theorem wS_ite {c : Bool} {m m' : M Fl} (h : wS K CL W (if c then m else m') σ F H ft A D) (z : m' = none) : c = true ∧ wS K CL W m σ F H ft A D := by
  cases c with
  | true => exact ⟨rfl, h⟩
  | false => subst z; exact h.elim
theorem wS_ite' {c : Bool} {m m' : M Fl} (h : wS K CL W (if c then m else m') σ F H ft A D) (z : m = none) : c = false ∧ wS K CL W m' σ F H ft A D := by
  cases c with
  | false => exact ⟨rfl, h⟩
  | true => subst z; exact h.elim

/-! ### small statements -/
/-- a slot is given a datum -/
theorem put_stp {fp : List Addr} {i n : Nat} (s : Stp F H ft F1 H1 ft1) (nw : New H ft fp) : Stp F H ft F1 H1 (if i < n then upF ft1 i fp else ft1) := by
  refine ⟨s.fr, s.dom, fun j a h => ?_, s.fro, s.mono⟩
  split at h
  · by_cases q : j = i
    · rw [q, upF_same] at h; exact nw a h
    · rw [upF_ne q] at h; exact s.own j a h
  · exact s.own j a h
theorem put_kept {i : Nat} {v : V} (hi : i ∈ A) : Kept A σ (σ.set i (some v)) := fun j n => by
  rw [List.getElem?_set_ne]
  intro z
  subst z
  exact n hi
theorem tS_set {i : Nat} {e : E} (h : tS K CL W cf ios io (.set i e) D σ H) : tAsg (tE K CL W cf ios e) (gName i) D σ H := by
  obtain ⟨F, ρ, ft, R, h⟩ := h
  simp only [runS] at h
  refine ⟨F, ρ, ft, R, wS_bnd h fun r ρ1 v H1 F1 ft1 fp R1 s1 x n p h => ?_⟩
  obtain ⟨⟨y1, y2⟩, e1, h⟩ := wS_opt h
  obtain ⟨F5, ft5, R5, s5, r5, nd5, o5⟩ := tk_ok R1 x e1
  exact h _ _ F5 _ (R5.put r5 nd5 o5) (put_stp (s1.trans R1 s5) n) (put_kept (by simp [asg]))
theorem tS_unp {t : Tg} {e : E} (h : tS K CL W cf ios io (.unp t e) D σ H) : tAsg (tE K CL W cf ios e) (tTg K CL t) D σ H := by
  obtain ⟨F, ρ, ft, R, h⟩ := h
  simp only [runS] at h
  refine ⟨F, ρ, ft, R, wS_bnd h fun r ρ1 v H1 F1 ft1 fp R1 s1 x n p h => ?_⟩
  obtain ⟨d, e1, h⟩ := wS_opt h
  obtain ⟨ρ2, e2, h⟩ := wS_opt h
  obtain ⟨fp', r⟩ := x.rd R1 e1
  have hfz : fp' = [] := by
    cases t with
    | nm i =>
      simp only [bindTg] at e2
      split at e2
      · exact r.fz_nil (by assumption)
      · cases e2
    | tp ts =>
      cases d with
      | tup ds => exact r.fz_nil rfl
      | _ => simp [bindTg] at e2
  subst hfz
  exact ⟨F1, ρ1, ft1, d, ρ2, R1, r, e2, fun σ' ft' R' m k => h σ' H1 F1 ft' R' ⟨s1.fr, s1.dom, fun i a z => s1.own i a (m i a z), s1.fro, s1.mono⟩ k⟩
theorem tS_par {i j : Nat} {a b : E} (h : tS K CL W cf ios io (.par i j a b) D σ H) : tPar i j (tCons (tE K CL W cf ios a) (tCons (tE K CL W cf ios b) tNil)) D σ H := by
  obtain ⟨F, ρ, ft, R, h⟩ := h
  simp only [runS] at h
  refine ⟨F, ρ, ft, R, wS_bnd h fun r ρ1 v H1 F1 ft1 fp R1 s1 x n p h => ?_⟩
  refine ⟨F1, ρ1, ft1, R1, wS_bnd (h.stp R1 s1 (fun _ _ => rfl) fun _ z => z) fun r' ρ2 v' H2 F2 ft2 fp2 R2 s2 x2 n2 p2 h => ?_⟩
  split at h
  · obtain ⟨hz, h⟩ := wS_ite h rfl
    simp only [Bool.and_eq_true] at hz
    obtain ⟨q1, _, _⟩ := x
    obtain ⟨q2, _, _⟩ := x2
    have z1 := q1.fz_nil hz.1
    have z2 := q2.fz_nil hz.2
    subst z1 z2
    refine ⟨v, v', rfl, ?_⟩
    have R3 := R2.put (i := i) (q1.any s2.mono) List.nodup_nil (fun _ z => nomatch z)
    have R4 := R3.put (i := j) (q2.any .refl) List.nodup_nil (fun _ z => nomatch z)
    exact h _ _ _ _ R4 (put_stp (put_stp s2 fun _ z => nomatch z) fun _ z => nomatch z) ((put_kept (by simp [asg])).trans (put_kept (by simp [asg])))
  · exact h.elim
theorem tS_setIx {b j e : E} (h : tS K CL W cf ios io (.setIx b j e) D σ H) : tAsg (tE K CL W cf ios e) (gSub (tE K CL W cf ios b) (tE K CL W cf ios j) rSetL) D σ H := by
  obtain ⟨F, ρ, ft, R, h⟩ := h
  simp only [runS] at h
  refine ⟨F, ρ, ft, R, wS_bnd h fun r ρ1 v H1 F1 ft1 fp R1 s1 x n p h => ?_⟩
  obtain ⟨⟨y1, y2⟩, e1, h⟩ := wS_opt h
  obtain ⟨F5, ft5, R5, s5, r5, nd5, o5⟩ := tk_ok R1 x e1
  have s15 := s1.trans R1 s5
  refine ⟨F5, y2, ft5, R5, wS_bnd (h.stp R5 s15 (fun _ _ => rfl) fun _ z => z) fun rb ρ2 vb H2 F2 ft2 fp2 R2 s2 x2 n2 p2 h => ?_⟩
  obtain ⟨hp, h⟩ := wS_ite' h rfl
  refine ⟨F2, ρ2, ft2, R2, wS_bnd (h.stp R2 s2 (fun _ _ => rfl) fun _ z => z) fun rj ρ3 vj H3 F3 ft3 fp3 R3 s3 x3 n3 p3 h => ?_⟩
  cases rb with
  | val d => exact h.elim
  | «at» i pp =>
  cases pp with
  | cons _ _ => exact h.elim
  | nil =>
  generalize ek0 : Cov.rd rj ρ3 = ek1 at h
  split at h
  · rename_i i' k ea
    cases ea
    obtain ⟨hz, h⟩ := wS_ite h rfl
    have ek := ek0
    have z1 := r5.fz_nil hz
    subst z1
    obtain ⟨d, e4, h⟩ := wS_opt h
    split at h
    · rename_i ds
      obtain ⟨q, e5, h⟩ := wS_opt h
      obtain ⟨_, v0, e6, pv⟩ := x2
      cases pv
      obtain ⟨fp', rj0⟩ := x3.rd R3 ek
      cases rj0.int_
      obtain ⟨l, ys, g1, g2, g3, g4, g5⟩ := R3.lst e4
      rw [e6] at g1
      cases g1
      have r6 : Rep K CL F3 H3 y1 v [] := (r5.any (H' := H3) s2.mono).any s3.mono
      obtain ⟨R7, s7⟩ := R3.wrLst e4 e6 g2 (g5.set (i := q) r6)
      exact ⟨l, ys, k, q, rfl, rfl, g3, by rw [g5.length]; exact e5, h _ _ _ _ R7 (s3.trans R3 s7) fun _ _ => rfl⟩
    · exact h.elim
  · exact h.elim
theorem tS_ex {e : E} (h : tS K CL W cf ios io (.ex e) D σ H) : tDrop (tE K CL W cf ios e) D σ H := by
  obtain ⟨F, ρ, ft, R, h⟩ := h
  simp only [runS] at h
  exact ⟨F, ρ, ft, R, wS_bnd h fun r ρ1 v H1 F1 ft1 fp R1 s1 x n p h => h _ _ _ _ R1 s1 fun _ _ => rfl⟩
theorem tS_ite {c : E} {a b : List S} (h : tS K CL W cf ios io (.ite c a b) D σ H) : tIfS (tT K CL W cf ios c) (tSs K CL W cf ios io a) (tSs K CL W cf ios io b) D σ H := by
  obtain ⟨F, ρ, ft, R, h⟩ := h
  simp only [runS] at h
  refine ⟨F, ρ, ft, R, wS_bnd h fun r ρ1 v H1 F1 ft1 fp R1 s1 x n p h => ?_⟩
  split at h
  · rename_i e
    exact ⟨true, x.bl R1 e, F1, ρ1, ft1, R1, h.stp R1 s1 (fun _ _ => rfl) fun j z => by simp only [asg, List.mem_append]; exact .inl z⟩
  · rename_i e
    exact ⟨false, x.bl R1 e, F1, ρ1, ft1, R1, h.stp R1 s1 (fun _ _ => rfl) fun j z => by simp only [asg, List.mem_append]; exact .inr z⟩
  · exact h.elim
theorem tS_ret {e : E} (h : tS K CL W cf ios io (.ret e) D σ H) : tRet (tE K CL W cf ios e) D σ H := by
  obtain ⟨F, ρ, ft, R, h⟩ := h
  simp only [runS] at h
  refine ⟨F, ρ, ft, R, wS_bnd h fun r ρ1 v H1 F1 ft1 fp R1 s1 x n p h => ?_⟩
  obtain ⟨⟨y1, y2⟩, e1, h⟩ := wS_opt h
  have viaTk : tk r ρ1 = some (y1, y2) → D.rt v H1 := fun e1 => by
    obtain ⟨F5, ft5, R5, s5, r5, nd5, o5⟩ := tk_ok R1 x e1
    exact h v fp σ H1 F5 ft5 R5 (s1.trans R1 s5) (fun _ _ => rfl) r5 nd5 o5 n
  cases r with
  | val d => exact viaTk e1
  | «at» i p =>
    cases p with
    | cons _ _ => exact viaTk e1
    | nil =>
      simp only [retR] at e1
      split at e1
      · exact viaTk e1
      · simp only [Option.map_eq_some_iff, Prod.mk.injEq] at e1
        obtain ⟨d, e2, rfl, rfl⟩ := e1
        obtain ⟨_, v0, e3, pv⟩ := x
        cases pv
        obtain ⟨w, e4, r4⟩ := R1.rep i d e2
        rw [e3] at e4
        cases e4
        have r5 : Rep K CL F1 H1 (unlock d) v (ft1 i) := by
          cases d with
          | lst o ds => cases o with
            | lk => simpa only [unlock, Rep] using r4
            | _ => exact r4
          | _ => exact r4
        refine h v (ft1 i) σ H1 F1 _ (R1.drop (i := i)) ⟨s1.fr, s1.dom, fun j a z => ?_, s1.fro, s1.mono⟩ (fun _ _ => rfl) r5 (R1.nd i) (fun a ha j z => ?_) fun a ha => s1.own i a ha
        · by_cases q : j = i
          · rw [q, upF_same] at z; cases z
          · rw [upF_ne q] at z; exact s1.own j a z
        · by_cases q : j = i
          · rw [q, upF_same] at z; cases z
          · rw [upF_ne q] at z; exact q (R1.dis j i a z ha)
theorem tS_brk (h : tS K CL W cf ios io .brk D σ H) : tBreak D σ H := by
  obtain ⟨F, ρ, ft, R, h⟩ := h
  simp only [runS] at h
  exact h _ _ _ _ R .refl fun _ _ => rfl
theorem tS_cnt (h : tS K CL W cf ios io .cnt D σ H) : tCont D σ H := by
  obtain ⟨F, ρ, ft, R, h⟩ := h
  simp only [runS] at h
  exact h _ _ _ _ R .refl fun _ _ => rfl
theorem tS_pas (h : tS K CL W cf ios io .pas D σ H) : tNext D σ H := by
  obtain ⟨F, ρ, ft, R, h⟩ := h
  simp only [runS] at h
  exact h _ _ _ _ R .refl fun _ _ => rfl
theorem tSs_nil (h : tSs K CL W cf ios io [] D σ H) : tNext D σ H := by
  obtain ⟨F, ρ, ft, R, h⟩ := h
  simp only [runSs] at h
  exact h _ _ _ _ R .refl fun _ _ => rfl
theorem tSs_cons {s : S} {ss : List S} (h : tSs K CL W cf ios io (s :: ss) D σ H) : tSeq (tS K CL W cf ios io s) (tSs K CL W cf ios io ss) D σ H := by
  obtain ⟨F, ρ, ft, R, h⟩ := h
  simp only [runSs] at h
  refine ⟨F, ρ, ft, R, ?_⟩
  have sub1 : ∀ j, j ∈ asg s → j ∈ asgL (s :: ss) := fun j z => by simp only [asgL, List.mem_append]; exact .inl z
  have sub2 : ∀ j, j ∈ asgL ss → j ∈ asgL (s :: ss) := fun j z => by simp only [asgL, List.mem_append]; exact .inr z
  cases hr : runS cf ios io s ρ with
  | none => rw [hr] at h; exact h
  | some o =>
    rw [hr] at h
    cases o with
    | ex c d ρ2 => exact fun cls dd σ' H' F' ft' R' s' k' x => h cls dd σ' H' F' ft' R' s' (k'.le sub1) x
    | ok f ρ2 =>
      cases f with
      | nx => exact fun σ' H' F' ft' R' s' k' => ⟨F', ρ2, ft', R', h.stp R' s' (k'.le sub1) sub2⟩
      | bk => exact fun σ' H' F' ft' R' s' k' => h σ' H' F' ft' R' s' (k'.le sub1)
      | ct => exact fun σ' H' F' ft' R' s' k' => h σ' H' F' ft' R' s' (k'.le sub1)
      | rt d => exact fun v fp σ' H' F' ft' R' s' k' r nd o n => h v fp σ' H' F' ft' R' s' (k'.le sub1) r nd o n

/-! ### for -/
theorem unlk_rel {w : Option (Nat × Bool)} {ρ' : Env} (R : Rel K CL F H σ ρ ft) (e : unlk ρ w = some ρ') : Rel K CL F H σ ρ' ft := by
  cases w with
  | none => cases e; exact R
  | some x =>
    obtain ⟨k, b⟩ := x
    cases b with
    | false => cases e; exact R
    | true =>
      simp only [unlk, Option.bind_eq_some_iff] at e
      obtain ⟨d, e4, e5⟩ := e
      split at e5
      · cases e5
        exact R.relock e4 (by decide) (by decide)
      · cases e5
theorem tS_for {t : Tg} {it : It} {b : List S} (h : tS K CL W cf ios io (.for_ t it b) D σ H) : tFor (tI K CL W cf ios it) (tTg K CL t) (tSs K CL W cf ios io b) D σ H := by
  obtain ⟨F, ρ, ft, R, h⟩ := h
  simp only [runS] at h
  refine ⟨F, ρ, ft, R, wS_bnd h fun w ρ1 J H1 F1 ft1 fp R1 s1 x n p h => ?_⟩
  obtain ⟨hc, h⟩ := wS_ite' h rfl
  obtain ⟨hJ, rfl⟩ := x
  have h := h.stp R1 s1 (fun _ _ => rfl) fun _ z => z
  generalize hb : (fun (x : Cov.D) (ρa : Env) => opt (bindTg t x ρa) fun ρb => runSs cf ios io b ρb) = body at h
  generalize hr : forL w body w.1 ρ1 = r at h
  have subT : ∀ j, j ∈ tgS t → j ∈ asg (.for_ t it b) := fun j z => by simp only [asg, List.mem_append]; exact .inl z
  have subB : ∀ j, j ∈ asgL b → j ∈ asg (.for_ t it b) := fun j z => by simp only [asg, List.mem_append]; exact .inr z
  have hlk : ∀ k q, w.2 = some (k, q) → k ∉ asg (.for_ t it b) := fun k q e z => by
    rw [e] at hc
    simp only [asg] at z
    simp [z] at hc
    exact (List.mem_append.mp z).elim hc.1 hc.2
  generalize asg (.for_ t it b) = A at h subT subB hlk
  refine ⟨fun i m σ' H' => m = w.1.length - i ∧ i ≤ w.1.length ∧ ∃ F' ρ' ft', Rel K CL F' H' σ' ρ' ft' ∧ Stp F1 H1 ft1 F' H' ft' ∧ Kept A σ σ' ∧ forL w body (w.1.drop i) ρ' = r, ⟨_, rfl, Nat.zero_le _, F1, ρ1, ft1, R1, .refl, fun _ _ => rfl, by simpa using hr⟩, ?_⟩
  rintro i m σ' H' ⟨rfl, hi, F', ρ', ft', R', s', k', hrun⟩
  -- what the loop's end tells
  have rSome : r ≠ none := fun z => by rw [z] at h; exact h
  have lkk : ∀ ρ', lkOk w ρ' = true ∨ lkOk w ρ' = false := fun ρ' => by cases lkOk w ρ' <;> simp
  by_cases hlt : i < w.1.length
  · have hx : w.1.drop i = w.1[i] :: w.1.drop (i + 1) := List.drop_eq_getElem_cons hlt
    rw [hx] at hrun
    simp only [forL] at hrun
    have hl : lkOk w ρ' = true := by
      rcases lkk ρ' with z | z
      · exact z
      · rw [z] at hrun
        exact absurd hrun.symm (by simpa using rSome)
    rw [hl] at hrun
    simp only [if_true] at hrun
    have ji := hJ F' H' σ' ρ' ft' s'.mono R' (fun j q e => k' j (hlk j q e)) hl
    obtain ⟨jgo, jy⟩ := ji.2 i _ (List.getElem?_eq_getElem hlt)
    refine .inr ⟨jgo, fun σ3 H3 => ∃ F3 ρ3 ft3, Rel K CL F3 H3 σ3 ρ3 ft3 ∧ Stp F1 H1 ft1 F3 H3 ft3 ∧ Kept A σ σ3 ∧ forL w body (w.1.drop (i + 1)) ρ3 = r, ?_, fun x Hx y => ?_⟩
    · rintro σ3 H3 q
      exact ⟨_, by omega, rfl, by omega, q⟩
    · obtain ⟨rfl, rx⟩ := jy x Hx y
      rw [← hb] at hrun
      cases hbt : bindTg t w.1[i] ρ' with
      | none =>
        simp only [hbt, opt_none, bnd_none] at hrun
        exact absurd hrun.symm (by simpa using rSome)
      | some ρb =>
        simp only [hbt, opt_some] at hrun
        refine ⟨F', ρ', ft', w.1[i], ρb, R', rx, hbt, fun σ2 ft2 R2 m2 p2 => ⟨F', ρb, ft2, R2, ?_⟩⟩
        have s2 : Stp F1 H1 ft1 F' Hx ft2 := ⟨s'.fr, s'.dom, fun j a h => s'.own j a (m2 j a h), s'.fro, s'.mono⟩
        have k2 : Kept A σ σ2 := k'.trans fun j n => p2 j fun z => n (subT j z)
        rw [hb] at hrun
        cases hrs : runSs cf ios io b ρb with
        | none =>
          rw [hrs] at hrun
          exact absurd hrun.symm (by simpa using rSome)
        | some o =>
          rw [hrs] at hrun
          cases o with
          | ex c d ρ3 =>
            simp only [bnd_ex] at hrun
            subst hrun
            simp only at h
            obtain ⟨ρ4, e4, h⟩ := wS_opt h
            exact fun cls dd σ3 H3 F3 ft3 R3 s3 k3 x => h cls dd σ3 H3 F3 ft3 (unlk_rel R3 e4) (s2.trans R2 s3) (k2.trans (k3.le subB)) x
          | ok f ρ3 =>
            simp only [bnd_ok] at hrun
            cases f with
            | nx => exact fun σ3 H3 F3 ft3 R3 s3 k3 => ⟨F3, ρ3, ft3, R3, s2.trans R2 s3, k2.trans (k3.le subB), hrun⟩
            | ct => exact fun σ3 H3 F3 ft3 R3 s3 k3 => ⟨F3, ρ3, ft3, R3, s2.trans R2 s3, k2.trans (k3.le subB), hrun⟩
            | bk =>
              simp only at hrun
              subst hrun
              simp only at h
              obtain ⟨ρ4, e4, h⟩ := wS_opt h
              exact fun σ3 H3 F3 ft3 R3 s3 k3 => h σ3 H3 F3 ft3 (unlk_rel R3 e4) (s2.trans R2 s3) (k2.trans (k3.le subB))
            | rt d =>
              simp only at hrun
              subst hrun
              simp only at h
              obtain ⟨ρ4, e4, h⟩ := wS_opt h
              exact fun v fp σ3 H3 F3 ft3 R3 s3 k3 r nd o n => h v fp σ3 H3 F3 ft3 (unlk_rel R3 e4) (s2.trans R2 s3) (k2.trans (k3.le subB)) r nd o (n.stp s2)
  · have e : i = w.1.length := by omega
    subst e
    rw [List.drop_length] at hrun
    simp only [forL] at hrun
    have hl : lkOk w ρ' = true := by
      rcases lkk ρ' with z | z
      · exact z
      · rw [z] at hrun
        exact absurd hrun.symm (by simpa using rSome)
    rw [hl] at hrun
    simp only [if_true] at hrun
    subst hrun
    have ji := hJ F' H' σ' ρ' ft' s'.mono R' (fun j q e => k' j (hlk j q e)) hl
    simp only at h
    obtain ⟨ρ4, e4, h⟩ := wS_opt h
    exact .inl ⟨ji.1, h _ _ _ _ (unlk_rel R' e4) s' k'⟩
end
end Cov

/-! CovW: while. -/
namespace Cov
open PySem L2
/-- a loop that ends, by its turns -/
def whlN (c : Env → M Bool) (b : Env → M Fl) : Nat → Env → M Fl
  | 0, _ => none
  | n + 1, ρ => match c ρ with
    | none => none
    | some (.ex x d ρ1) => some (.ex x d ρ1)
    | some (.ok k ρ1) => if k then (match b ρ1 with
        | none => none
        | some (.ex x d ρ2) => some (.ex x d ρ2)
        | some (.ok .bk ρ2) => some (.ok .nx ρ2)
        | some (.ok (.rt d) ρ2) => some (.ok (.rt d) ρ2)
        | some (.ok _ ρ2) => whlN c b n ρ2)
      else some (.ok .nx ρ1)
theorem whl_fuel (c : Env → M Bool) (b : Env → M Fl) : ∀ (ρ : Env) (r : Out Fl), whl c b ρ = some r → ∃ n, whlN c b n ρ = some r := by
  refine whl.partial_correctness c b (fun ρ r => ∃ n, whlN c b n ρ = some r) ?_
  intro f ih ρ r h
  cases hc : c ρ with
  | none => rw [hc] at h; cases h
  | some o =>
    rw [hc] at h
    cases o with
    | ex x d ρ1 => exact ⟨1, by simp only [whlN, hc]; exact h⟩
    | ok k ρ1 =>
      cases k with
      | false => exact ⟨1, by simp only [whlN, hc]; exact h⟩
      | true =>
        simp only [if_true] at h
        cases hb : b ρ1 with
        | none => rw [hb] at h; cases h
        | some o2 =>
          rw [hb] at h
          cases o2 with
          | ex x d ρ2 => exact ⟨1, by simp only [whlN, hc, hb, if_true]; exact h⟩
          | ok fl ρ2 =>
            cases fl with
            | bk => exact ⟨1, by simp only [whlN, hc, hb, if_true]; exact h⟩
            | rt d => exact ⟨1, by simp only [whlN, hc, hb, if_true]; exact h⟩
            | nx => obtain ⟨n, e⟩ := ih ρ2 r h; exact ⟨n + 1, by simp only [whlN, hc, hb, if_true]; exact e⟩
            | ct => obtain ⟨n, e⟩ := ih ρ2 r h; exact ⟨n + 1, by simp only [whlN, hc, hb, if_true]; exact e⟩
section
variable {K : PySem.W.Frag} {CL : CLT} {W : WX} {cf : CF} {ios : Str → List Bool} {io : List Bool}
variable {F F1 H H1 : Hp} {σ σ1 : L2.St} {ρ ρ1 : Env} {ft ft1 : Ft} {A A' : List Nat} {D : Ends}
theorem tS_whl {c : E} {b : List S} (h : tS K CL W cf ios io (.whl c b) D σ H) : tWhile (tT K CL W cf ios c) (tSs K CL W cf ios io b) D σ H := by
  obtain ⟨F, ρ, ft, R, h⟩ := h
  simp only [runS] at h
  generalize hcd : (fun ρ => bnd (runE cf ios c ρ) fun r ρ1 => match rd r ρ1 with
      | some (.bl k) => some (.ok k ρ1)
      | _ => (none : M Bool)) = cd at h
  generalize hr : whl cd (fun ρ => runSs cf ios io b ρ) ρ = r at h
  cases r with
  | none => exact h.elim
  | some r =>
  obtain ⟨n0, hn0⟩ := whl_fuel _ _ _ _ hr
  have subB : ∀ j, j ∈ asgL b → j ∈ asg (.whl c b) := fun j z => by simpa only [asg] using z
  generalize asg (.whl c b) = A at h subB
  refine ⟨fun m σ' H' => ∃ F' ρ' ft', Rel K CL F' H' σ' ρ' ft' ∧ Stp F H ft F' H' ft' ∧ Kept A σ σ' ∧ whlN cd (fun ρ => runSs cf ios io b ρ) m ρ' = some r, ⟨n0, F, ρ, ft, R, .refl, fun _ _ => rfl, hn0⟩, ?_⟩
  rintro m σ' H' ⟨F', ρ', ft', R', s', k', hrun⟩
  cases m with
  | zero => cases hrun
  | succ m =>
  simp only [whlN] at hrun
  rw [← hcd] at hrun
  refine ⟨F', ρ', ft', R', ?_⟩
  cases he : runE cf ios c ρ' with
  | none => simp only [he, bnd_none] at hrun; cases hrun
  | some o =>
    simp only [he] at hrun
    cases o with
    | ex x d ρ1 =>
      simp only [bnd_ex] at hrun
      cases hrun
      exact fun cls dd H3 F3 ft3 R3 s3 x => h cls dd σ' H3 F3 ft3 R3 (s'.trans R' s3) k' x
    | ok r0 ρ1 =>
      simp only [bnd_ok] at hrun
      intro v H1 F1 ft1 fp R1 s1 x n p
      cases hd : rd r0 ρ1 with
      | none => simp only [hd] at hrun; cases hrun
      | some d =>
        simp only [hd] at hrun
        cases d with
        | bl k =>
          simp only at hrun
          refine ⟨k, x.bl R1 hd, ?_⟩
          have s2 := s'.trans R' s1
          cases k with
          | false =>
            simp only [Bool.false_eq_true, if_false] at hrun ⊢
            cases hrun
            exact h σ' H1 F1 ft1 R1 s2 k'
          | true =>
            simp only [if_true] at hrun ⊢
            refine ⟨fun σ3 H3 => ∃ F3 ρ3 ft3, Rel K CL F3 H3 σ3 ρ3 ft3 ∧ Stp F H ft F3 H3 ft3 ∧ Kept A σ σ3 ∧ whlN cd (fun ρ => runSs cf ios io b ρ) m ρ3 = some r, fun σ3 H3 q => ⟨m, Nat.lt_succ_self _, q⟩, F1, ρ1, ft1, R1, ?_⟩
            rw [hcd] at hrun
            cases hrs : runSs cf ios io b ρ1 with
            | none => rw [hrs] at hrun; cases hrun
            | some o =>
              rw [hrs] at hrun
              cases o with
              | ex c' d ρ3 =>
                simp only at hrun
                cases hrun
                exact fun cls dd σ3 H3 F3 ft3 R3 s3 k3 x => h cls dd σ3 H3 F3 ft3 R3 (s2.trans R1 s3) (k'.trans (k3.le subB)) x
              | ok f ρ3 =>
                cases f with
                | nx => exact fun σ3 H3 F3 ft3 R3 s3 k3 => ⟨F3, ρ3, ft3, R3, s2.trans R1 s3, k'.trans (k3.le subB), hrun⟩
                | ct => exact fun σ3 H3 F3 ft3 R3 s3 k3 => ⟨F3, ρ3, ft3, R3, s2.trans R1 s3, k'.trans (k3.le subB), hrun⟩
                | bk =>
                  simp only at hrun
                  cases hrun
                  exact fun σ3 H3 F3 ft3 R3 s3 k3 => h σ3 H3 F3 ft3 R3 (s2.trans R1 s3) (k'.trans (k3.le subB))
                | rt d =>
                  simp only at hrun
                  cases hrun
                  exact fun v fp σ3 H3 F3 ft3 R3 s3 k3 r nd o n => h v fp σ3 H3 F3 ft3 R3 (s2.trans R1 s3) (k'.trans (k3.le subB)) r nd o (n.stp s2)
        | _ => simp at hrun
end
end Cov

/-! SetB1: tables of sets of any size: the walk i -> 5 i + 1 meets all slots; what is put in is found again. -/
namespace Cov.BS
open PySem PySem.Spec PyProof.Rows L2
/-! ### i -> 5 i + 1, without a modulus -/
def Z (i : Int) : Nat → Int
  | 0 => i
  | k + 1 => 5 * Z i k + 1
theorem Z_add (i : Int) (a : Nat) : ∀ k, Z i (a + k) = Z (Z i a) k
  | 0 => rfl
  | k + 1 => congrArg (fun x => 5 * x + 1) (Z_add i a k)
theorem Z_lin (i : Int) : ∀ k, Z i k = i + Z 0 k * (4 * i + 1)
  | 0 => by simp [Z]
  | k + 1 => by
    have := Z_lin i k
    simp only [Z]
    rw [this]
    generalize Z 0 k = g
    have e1 : g * (4 * i + 1) = 4 * (g * i) + g := by rw [Int.mul_add, Int.mul_one, ← Int.mul_assoc, Int.mul_comm g 4, Int.mul_assoc]
    have e2 : (5 * g + 1) * (4 * i + 1) = 20 * (g * i) + 5 * g + 4 * i + 1 := by
      rw [Int.add_mul, Int.one_mul, Int.mul_assoc, e1]
      omega
    rw [e1, e2]
    omega
theorem Z_dbl (n : Nat) : Z 0 (n + n) = 2 * Z 0 n * (1 + 2 * Z 0 n) := by
  rw [Z_add, Z_lin]
  generalize Z 0 n = g
  have : g * (4 * g + 1) = 4 * (g * g) + g := by rw [Int.mul_add, Int.mul_one, ← Int.mul_assoc, Int.mul_comm g 4, Int.mul_assoc]
  have e2 : 2 * g * (1 + 2 * g) = 2 * g + 4 * (g * g) := by
    rw [Int.mul_add, Int.mul_one, Int.mul_assoc, ← Int.mul_assoc g 2 g, Int.mul_comm g 2, Int.mul_assoc 2 g g]
    omega
  rw [this, e2]
  omega
/-- behind 2 ^ e steps: an odd number of 2 ^ e -/
theorem Z_odd : ∀ e : Nat, ∃ c : Int, Z 0 (2 ^ e) = ((2 ^ e : Nat) : Int) * (2 * c + 1)
  | 0 => ⟨0, by simp [Z]⟩
  | e + 1 => by
    obtain ⟨c, h⟩ := Z_odd e
    have e1 : 2 ^ (e + 1) = 2 ^ e + 2 ^ e := by rw [Nat.pow_succ]; omega
    refine ⟨c + (2 * c + 1) * Z 0 (2 ^ e), ?_⟩
    rw [e1, Z_dbl]
    generalize Z 0 (2 ^ e) = g at h ⊢
    generalize 2 ^ e = N at h ⊢
    have e3 : (((N + N : Nat)) : Int) = 2 * (N : Int) := by omega
    rw [e3]
    have e4 : 2 * (c + (2 * c + 1) * g) + 1 = (2 * c + 1) * (1 + 2 * g) := by
      rw [Int.mul_add (2 * c + 1), Int.mul_one, ← Int.mul_assoc, Int.mul_comm (2 * c + 1) 2, Int.mul_assoc 2 (2 * c + 1) g]
      omega
    rw [e4, ← Int.mul_assoc, Int.mul_assoc 2 (N : Int), ← h]
theorem Z_step (e : Nat) (i : Int) : ∃ c : Int, Z i (2 ^ e) = i + ((2 ^ e : Nat) : Int) * (2 * c + 1) := by
  obtain ⟨c, h⟩ := Z_odd e
  refine ⟨c * (4 * i + 1) + 2 * i, ?_⟩
  rw [Z_lin, h, Int.mul_assoc]
  congr 2
  have : (2 * c + 1) * (4 * i + 1) = 2 * (c * (4 * i + 1)) + (4 * i + 1) := by rw [Int.add_mul, Int.one_mul, Int.mul_assoc]
  rw [this]
  omega
/-- all remainders come within 2 ^ e steps -/
theorem Z_meets : ∀ (e : Nat) (i j : Int), ∃ k : Nat, k < 2 ^ e ∧ ∃ q : Int, Z i k = j + ((2 ^ e : Nat) : Int) * q
  | 0, i, j => ⟨0, by simp, i - j, by simp [Z]; omega⟩
  | e + 1, i, j => by
    obtain ⟨k, hk, q, h⟩ := Z_meets e i j
    have e1 : 2 ^ (e + 1) = 2 ^ e + 2 ^ e := by rw [Nat.pow_succ]; omega
    have e2 : ((2 ^ (e + 1) : Nat) : Int) = 2 * ((2 ^ e : Nat) : Int) := by rw [e1]; omega
    obtain ⟨q', hq⟩ : ∃ q', q = 2 * q' ∨ q = 2 * q' + 1 := ⟨q / 2, by omega⟩
    rcases hq with rfl | rfl
    · refine ⟨k, by omega, q', ?_⟩
      rw [h, e2, ← Int.mul_assoc, Int.mul_comm _ 2]
    · obtain ⟨c, hc⟩ := Z_step e (Z i k)
      refine ⟨k + 2 ^ e, by omega, q' + c + 1, ?_⟩
      rw [Z_add, hc, h, e2]
      generalize ((2 ^ e : Nat) : Int) = N
      have a1 : N * (2 * q' + 1) = 2 * (N * q') + N := by rw [Int.mul_add, Int.mul_one, ← Int.mul_assoc, Int.mul_comm N 2, Int.mul_assoc]
      have a2 : N * (2 * c + 1) = 2 * (N * c) + N := by rw [Int.mul_add, Int.mul_one, ← Int.mul_assoc, Int.mul_comm N 2, Int.mul_assoc]
      have a3 : 2 * N * (q' + c + 1) = 2 * (N * q') + 2 * (N * c) + 2 * N := by
        rw [Int.mul_add, Int.mul_add, Int.mul_one, Int.mul_assoc, Int.mul_assoc]
      rw [a1, a2, a3]
      omega
/-- the masks: one less than a power of two, from 7 to 8191 -/
def BM (m : Nat) : Prop := ∃ e, 3 ≤ e ∧ e ≤ 13 ∧ m + 1 = 2 ^ e
theorem BM.ge {m : Nat} (h : BM m) : 7 ≤ m := by
  obtain ⟨e, h1, h2, h3⟩ := h
  have : 2 ^ 3 ≤ 2 ^ e := Nat.pow_le_pow_right (by decide) h1
  omega
theorem BM.le {m : Nat} (h : BM m) : m ≤ 8191 := by
  obtain ⟨e, h1, h2, h3⟩ := h
  have : 2 ^ e ≤ 2 ^ 13 := Nat.pow_le_pow_right (by decide) h2
  omega
theorem BM.odd {m : Nat} (h : BM m) : m % 2 = 1 := by
  obtain ⟨e, h1, h2, h3⟩ := h
  obtain ⟨e', rfl⟩ : ∃ e', e = e' + 1 := ⟨e - 1, by omega⟩
  rw [Nat.pow_succ] at h3
  omega
theorem bm7 : BM 7 := ⟨3, by decide, by decide, by decide⟩
theorem bm31 : BM 31 := ⟨5, by decide, by decide, by decide⟩
theorem bm127 : BM 127 := ⟨7, by decide, by decide, by decide⟩
theorem bm511 : BM 511 := ⟨9, by decide, by decide, by decide⟩
theorem bm2047 : BM 2047 := ⟨11, by decide, by decide, by decide⟩
theorem bm8191 : BM 8191 := ⟨13, by decide, by decide, by decide⟩
theorem lcgI_Z {m i : Nat} (hi : i ≤ m) : ∀ k, ((lcgI m i k : Nat) : Int) = Z i k % ((m + 1 : Nat) : Int)
  | 0 => by
    show (i : Int) = (i : Int) % _
    rw [Int.emod_eq_of_lt (by omega) (by omega)]
  | k + 1 => by
    show (((lcgI m i k * 5 + 1) % (m + 1) : Nat) : Int) = (5 * Z i k + 1) % _
    rw [Int.natCast_emod, Int.natCast_add, Int.natCast_mul, lcgI_Z hi k]
    have : Z i k % ((m + 1 : Nat) : Int) * ((5 : Nat) : Int) + ((1 : Nat) : Int) = 5 * (Z i k % ((m + 1 : Nat) : Int)) + 1 := by omega
    rw [this]
    generalize ((m + 1 : Nat) : Int) = M
    generalize Z i k = z
    have h1 := Int.mul_ediv_add_emod z M
    have h2 : 5 * z + 1 = 5 * (z % M) + 1 + M * (5 * (z / M)) := by
      have : M * (5 * (z / M)) = 5 * (M * (z / M)) := by rw [← Int.mul_assoc, Int.mul_comm M 5, Int.mul_assoc]
      rw [this]
      omega
    rw [h2, Int.add_mul_emod_self_left]
/-- from anywhere, each slot comes within a round -/
theorem round {m i j : Nat} (hm : BM m) (hi : i ≤ m) (hj : j ≤ m) : ∃ k, k ≤ m ∧ lcgI m i k = j := by
  obtain ⟨e, h1, h2, h3⟩ := hm
  obtain ⟨k, hk, q, h⟩ := Z_meets e i j
  refine ⟨k, by omega, ?_⟩
  have a := lcgI_Z hi k
  rw [h3, h, Int.add_mul_emod_self_left, Int.emod_eq_of_lt (by omega) (by omega)] at a
  omega
theorem starts_at {m j : Nat} (hm : BM m) (h : Int) (hj : j ≤ m) : ∃ n, n ≤ m + 12 ∧ runI m (SetTable.bits h) n = j := by
  obtain ⟨k, k1, k2⟩ := round hm (runI_le m (SetTable.bits h) 12) hj
  exact ⟨12 + k, by omega, (runI_tail (bits_lt h) k).trans k2⟩
theorem meets_at {m j : Nat} (hm : BM m) (h : Int) (hj : j ≤ m) : ∃ k, k < 10 * SetTable.turns m ∧ way m h k = j := by
  obtain ⟨n, n1, n2⟩ := starts_at hm h hj
  obtain ⟨k, k1, k2⟩ := run_nth m (SetTable.bits h) n
  exact ⟨k, by unfold SetTable.turns; omega, (congrArg SetTable.Probe.j k2).trans n2⟩
theorem way_bd {m : Nat} {h : Int} {k : Nat} : way m h k ≤ m := by
  have a : SetTable.bits h % (m + 1) ≤ m := Nat.le_of_lt_succ (Nat.mod_lt _ (Nat.succ_pos _))
  have b := runEnd_bd a
  have c := nth_in (m := m) k (runAt m (SetTable.bits h % (m + 1)) (SetTable.bits h)) (by simp only [runAt]; omega)
  exact Nat.le_trans (Nat.le_add_right _ _) c
/-! ### tables in which all is found again -/
structure TB (t : SetTable) (hs : List Int) : Prop where
  up : Ris t.place.toList
  nod : t.dummies = #[]
  size : t.place.size = hs.length
  mask : BM t.mask
  low : ∀ x ∈ t.place.toList, x ≤ t.mask
  back : ∀ (i : Nat) (h : Int) (j : Nat), hs[i]? = some h → t.place.toList[i]? = some j → ∃ k, way t.mask h k = j ∧ ∀ q, q < k → way t.mask h q ∈ t.place.toList
section
variable {t : SetTable} {hs : List Int} {h : Int}
theorem TB.free (T : TB t hs) (hl : hs.length ≤ t.mask) (h : Int) : ∃ K, K < 10 * SetTable.turns t.mask ∧ way t.mask h K ∉ t.place.toList ∧ ∀ q, q < K → way t.mask h q ∈ t.place.toList := by
  obtain ⟨j, j1, j2⟩ := st_missing t.place.toList (t.mask + 1) (by rw [Array.length_toList, T.size]; omega)
  obtain ⟨k, k1, k2⟩ := meets_at T.mask h (Nat.le_of_lt_succ j1)
  obtain ⟨K, a, b, c⟩ := st_least (p := fun q => way t.mask h q ∉ t.place.toList) k (by simp only [k2]; exact j2)
  exact ⟨K, by omega, b, fun q hq => Classical.not_not.mp (c q hq)⟩
theorem TB.ahead (T : TB t hs) {K i j : Nat} (hK : way t.mask h K ∉ t.place.toList) (hi : hs[i]? = some h) (hj : t.place.toList[i]? = some j) : ∃ k, k < K ∧ way t.mask h k = j := by
  obtain ⟨k, e, hb⟩ := T.back i h j hi hj
  refine ⟨k, Nat.lt_of_not_le fun hle => hK ?_, e⟩
  rcases Nat.lt_or_eq_of_le hle with z | z
  · exact hb K z
  · rw [z, e]
    exact List.mem_of_getElem? hj
/-- one more -/
theorem TB.add (T : TB t hs) {K : Nat} (hK : way t.mask h K ∉ t.place.toList) (hb : ∀ q, q < K → way t.mask h q ∈ t.place.toList) (p : Nat) (hp : SetTable.below t.place (way t.mask h K) = p) :
    p ≤ hs.length ∧ TB (t.put (way t.mask h K)).1 (hs.take p ++ h :: hs.drop p) ∧ (t.put (way t.mask h K)).1.fill = hs.length + 1 := by
  have hw : way t.mask h K ≤ t.mask := way_bd
  generalize hj : way t.mask h K = j at hK hp hw ⊢
  have cut := (below_cut T.up j).1
  rw [hp] at cut
  have l1 : p ≤ t.place.toList.length := by rw [Array.length_toList]; exact cut
  have l2 : p ≤ hs.length := T.size ▸ cut
  have pp := put_place t j
  rw [hp] at pp
  have sz : (t.put j).1.place.size = hs.length + 1 := by
    have := congrArg List.length pp
    rw [len_ins _ l1, Array.length_toList, Array.length_toList, T.size] at this
    exact this
  have more : ∀ {x : Nat}, x ∈ t.place.toList → x ∈ (t.put j).1.place.toList := fun hx => by
    rw [pp]; exact mem_ins.mpr (.inr hx)
  refine ⟨l2, ⟨ris_insert T.up (fun e => hK (List.mem_of_getElem? (by rw [Array.getElem?_toList]; exact e))), put_dm T.nod j, by rw [len_ins _ l2]; exact sz, T.mask, fun x hx => ?_, fun i g y g1 g2 => ?_⟩, ?_⟩
  · rw [pp] at hx
    rcases mem_ins.mp hx with z | z
    · exact z ▸ hw
    · exact T.low x z
  · rw [tins_get hs l2] at g1
    rw [pp, tins_get _ l1] at g2
    by_cases c : i < p
    · simp only [c, if_true] at g1 g2
      obtain ⟨k, e, z⟩ := T.back i g y g1 g2
      exact ⟨k, e, fun q hq => more (z q hq)⟩
    · simp only [c, if_false] at g1 g2
      by_cases d : i = p
      · simp only [d, if_true, Option.some.injEq] at g1 g2
        subst g1 g2
        exact ⟨K, hj, fun q hq => more (hb q hq)⟩
      · simp only [d, if_false] at g1 g2
        obtain ⟨k, e, z⟩ := T.back (i - 1) g y g1 g2
        exact ⟨k, e, fun q hq => more (z q hq)⟩
  · unfold SetTable.fill
    rw [sz, put_dm T.nod j]
    rfl
end
/-! ### laid anew -/
theorem free_at {m j : Nat} (hm : BM m) (owner : Array (Option Nat)) (h : Int) (hj : j ≤ m) (hf : oAt owner j = none) :
    ∃ K, SetTable.layClean.free m owner (SetTable.turns m) (SetTable.bits h % (m + 1)) (SetTable.bits h) = some (way m h K) ∧ oAt owner (way m h K) = none ∧ ∀ q, q < K → oAt owner (way m h q) ≠ none := by
  obtain ⟨n, n1, n2⟩ := starts_at hm h hj
  have hw : way m h (off m (SetTable.bits h % (m + 1)) (SetTable.bits h) n) = j := by
    unfold way
    rw [nth_off, itL_run]
    exact n2
  obtain ⟨K, a, b, c⟩ := st_least (p := fun q => oAt owner (way m h q) = none) (off m (SetTable.bits h % (m + 1)) (SetTable.bits h) n) (show oAt owner (way m h _) = none from hw ▸ hf)
  refine ⟨K, free_spec m owner _ n _ _ K (by unfold SetTable.turns; omega) a (fun q hq => ?_) (by rw [show oAt owner (nth m _ K).j = none from b]; rfl), b, c⟩
  have z := c q hq
  rw [Option.isNone_eq_false_iff, Option.isSome_iff_ne_none]
  exact z
theorem own_more {m : Nat} (hm : BM m) {done : List Int} {owner : Array (Option Nat)} (V : Own m done owner) (hl : done.length ≤ m) (h : Int) :
    ∃ j, SetTable.layClean.free m owner (SetTable.turns m) (SetTable.bits h % (m + 1)) (SetTable.bits h) = some j ∧ Own m (done ++ [h]) (owner.setIfInBounds j (some done.length)) := by
  obtain ⟨ps, p1, p2⟩ := V.ps
  obtain ⟨j0, j1, j2⟩ := st_missing ps (m + 1) (by omega)
  have jf : oAt owner j0 = none := Classical.byContradiction fun z => j2 (p2 j0 (Nat.le_of_lt_succ j1) z)
  obtain ⟨K, e1, e2, e3⟩ := free_at hm owner h (Nat.le_of_lt_succ j1) jf
  have wb : way m h K ≤ m := way_bd
  generalize hw : way m h K = y at e1 e2 wb
  have ys : y < owner.size := by rw [V.sz]; omega
  have here : oAt (owner.setIfInBounds y (some done.length)) y = some done.length := oAt_set_self _ ys
  have stays : ∀ {i : Nat}, oAt owner i ≠ none → oAt (owner.setIfInBounds y (some done.length)) i ≠ none := fun {i} hi => by
    by_cases c : i = y
    · rw [c, here]; simp
    · rwa [oAt_set_ne _ c]
  refine ⟨y, e1, ⟨(Array.size_setIfInBounds ..).trans V.sz, fun j k hj e => ?_, fun k hk => ?_, y :: ps, by simp [p1], fun j hj e => ?_⟩⟩
  · by_cases c : j = y
    · rw [c, here, Option.some.injEq] at e
      exact ⟨h, K, by rw [← e]; simp, hw.trans c.symm, fun q hq => stays (e3 q hq)⟩
    · rw [oAt_set_ne _ c] at e
      obtain ⟨g, G, a, b, d⟩ := V.at_ j k hj e
      exact ⟨g, G, by rw [List.getElem?_append_left (List.getElem?_eq_some_iff.mp a).1]; exact a, b, fun q hq => stays (d q hq)⟩
  · rw [List.length_append] at hk
    by_cases c : k < done.length
    · obtain ⟨j, hj, e⟩ := V.all k c
      exact ⟨j, hj, by rw [oAt_set_ne _ fun z => by rw [z, e2] at e; cases e]; exact e⟩
    · have : k = done.length := by simp at hk; omega
      exact ⟨y, wb, this ▸ here⟩
  · by_cases c : j = y
    · rw [c]; exact List.mem_cons_self
    · rw [oAt_set_ne _ c] at e
      exact List.mem_cons_of_mem _ (p2 j hj e)
theorem lay_fold {m : Nat} (hm : BM m) : ∀ (rest done : List Int) (owner : Array (Option Nat)), Own m done owner → done.length + rest.length ≤ m →
    ∃ o2, rest.foldl (stepF m) (some (owner, done.length)) = some (o2, (done ++ rest).length) ∧ Own m (done ++ rest) o2
  | [], done, owner, V, _ => ⟨owner, by simp, by simpa using V⟩
  | h :: rest, done, owner, V, hl => by
    simp only [List.length_cons] at hl
    obtain ⟨j, e, V1⟩ := own_more hm V (by omega) h
    obtain ⟨o2, f, V2⟩ := lay_fold hm rest (done ++ [h]) _ V1 (by simp; omega)
    refine ⟨o2, ?_, by simpa using V2⟩
    rw [List.foldl_cons, stepF_some e]
    simpa using f
theorem lay_ok {m : Nat} (hm : BM m) {hs : Array Int} (hn : hs.size ≤ m) : ∃ owner, SetTable.layClean m hs = some owner ∧ Own m hs.toList owner := by
  obtain ⟨owner, f, V⟩ := lay_fold hm hs.toList [] _ (Own.init m) (by simp; omega)
  refine ⟨owner, ?_, by simpa using V⟩
  have f' : hs.toList.foldl (stepF m) (some (Array.replicate (m + 1) none, 0)) = _ := f
  rw [layClean_eq, f']
  rfl
theorem anew (t : SetTable) {hs : Array Int} {wanted m : Nat} (hw : SetTable.sizeAbove wanted - 1 = m) (hm : BM m) (hn : hs.size ≤ m) :
    ∃ t2 order, t.relaid hs wanted = some (t2, order) ∧ order.toList.Perm (List.range hs.size) ∧ TB t2 (order.toList.map fun i => hs.getD i 0) ∧ t2.mask = m ∧ t2.led = t.led ∧ t2.plain = t.plain := by
  obtain ⟨owner, e, V⟩ := lay_ok hm hn
  have rl := ris_live (fun j => owner.getD j none) (List.range (m + 1)) (show Ris _ from List.pairwise_lt_range)
  have up : Ris ((liveOf m owner).map (·.1)) := rl.1
  have inr : ∀ x ∈ (liveOf m owner).map (·.1), x ∈ List.range (m + 1) := rl.2
  have mem : ∀ {j k : Nat}, (j, k) ∈ liveOf m owner ↔ j ≤ m ∧ oAt owner j = some k := mem_live V.sz
  have len : (liveOf m owner).length = hs.size := by
    obtain ⟨ps, p1, p2⟩ := V.ps
    have a := nat_nodup_len ((liveOf m owner).map (·.1)) ps (show ((liveOf m owner).map (·.1)).Nodup from List.Pairwise.imp (fun z => Nat.ne_of_lt z) up) fun x hx => by
      obtain ⟨⟨y, k⟩, hq, rfl⟩ := List.mem_map.mp hx
      have := mem.mp hq
      exact p2 y this.1 (by rw [this.2]; simp)
    have b := nat_nodup_len (List.range hs.size) ((liveOf m owner).map (·.2)) List.nodup_range fun k hk => by
      obtain ⟨j, b1, b2⟩ := V.all k (by simpa using hk)
      exact List.mem_map.mpr ⟨(j, k), mem.mpr ⟨b1, b2⟩, rfl⟩
    simp only [List.length_map, List.length_range] at a b
    have c : hs.toList.length = hs.size := rfl
    omega
  refine ⟨tabOf t m owner, ((liveOf m owner).map (·.2)).toArray, by rw [relaid_eq, hw, e]; rfl, ?_, ⟨up, rfl, ?_, hm, fun x hx => Nat.le_of_lt_succ (List.mem_range.mp (inr x hx)), fun i h j h1 h2 => ?_⟩, rfl, rfl, rfl⟩
  · refine perm_range _ _ (by simpa using len) fun k hk => ?_
    obtain ⟨j, b1, b2⟩ := V.all k (by simpa using hk)
    exact List.mem_map.mpr ⟨(j, k), mem.mpr ⟨b1, b2⟩, rfl⟩
  · simp [tabOf]
  · have h1 : (((liveOf m owner).map (·.2)).map fun i => hs.getD i 0)[i]? = some h := h1
    have h2 : ((liveOf m owner).map (·.1))[i]? = some j := h2
    simp only [List.getElem?_map, Option.map_map, Option.map_eq_some_iff] at h1 h2
    obtain ⟨⟨y, k⟩, q1, rfl⟩ := h2
    obtain ⟨q, q2, rfl⟩ := h1
    rw [q1] at q2
    cases q2
    have b := mem.mp (List.mem_of_getElem? q1)
    obtain ⟨g, G, a1, a2, a3⟩ := V.at_ y k b.1 b.2
    have eg : hs.getD k 0 = g := by
      rw [Array.getD_eq_getD_getElem?, ← Array.getElem?_toList, a1]
      rfl
    simp only [Function.comp, eg]
    refine ⟨G, a2, fun q hq => ?_⟩
    obtain ⟨k2, ek⟩ := Option.ne_none_iff_exists'.mp (a3 q hq)
    exact List.mem_map.mpr ⟨(_, k2), mem.mpr ⟨way_bd, ek⟩, rfl⟩
end Cov.BS

/-! SetB2: sets of keys of any kind, of any size: looked up, added to. -/
namespace Cov.BS
open PySem PySem.Spec PyProof.Rows L2
/-- a kind of keys: things at addresses that are told by their data alone -/
structure KS (P : Program) (w : World) (κ : Type) [DecidableEq κ] where
  is : Heap → κ → Addr → Prop
  hash : κ → Int
  draws : κ → Nat
  need : Nat
  eqB : ∀ {A : Around} {E : Value → Shared → Prop} {s : Shared} {x y : κ} {a b : Addr} {Q : Bool → Shared → Prop}, A.units + need < cLine → is s.heap x a → is s.heap y b → Q (decide (x = y)) s → wpAny (model P w) A (eqBool (.ref a) (.ref b)) Q E s
  hsh : ∀ {A : Around} {E : Value → Shared → Prop} {s : Shared} {k : κ} {a : Addr} {Q : Int → Shared → Prop}, A.units + need < cLine → is s.heap k a → Q (hash k) { s with toks := s.toks + draws k } → wpAny (model P w) A (pyHash (.ref a)) Q E s
  seen : ∀ {A : Around} {E : Value → Shared → Prop} {s : Shared} {k : κ} {b : Addr} {Q : Bool → Shared → Prop} {ys : List Value}, is s.heap k b → (∀ y ∈ ys, ∃ k' c, y = Value.ref c ∧ is s.heap k' c) → Q false s → wpAny (model P w) A (searchCouldBeSeen (.ref b) ys) Q E s
  byv : ∀ {A : Around} {E : Value → Shared → Prop} {s : Shared} {k : κ} {b : Addr} {Q : Bool → Shared → Prop}, is s.heap k b → Q true s → wpAny (model P w) A (hashByValue 8 (.ref b)) Q E s
  same : ∀ {h h' : Heap} {k : κ} {a b : Addr} {o : Obj} {es : Array (Int × Value)} {ep : Nat} {t : SetTable}, is h k b → h.get? a = some o → o.data = .set es ep t → Heap.SameBut a h h' → is h' k b
  keep : ∀ {h h' : Heap} {k : κ} {b : Addr}, is h k b → (∀ c o, h.get? c = some o → h'.get? c = some o) → is h' k b
section
variable {P : Program} {w : World} {κ : Type} [DecidableEq κ] (S : KS P w κ)
abbrev KL (κ : Type) := List (Addr × κ)
def rows (L : KL κ) : List (Int × Value) := L.map fun p => (S.hash p.2, Value.ref p.1)
abbrev hashes (L : KL κ) : List Int := L.map fun p => S.hash p.2
/-- the set at a holds the keys of L, in the order of its table -/
structure Holds (h : Heap) (a : Addr) (L : KL κ) (es : Array (Int × Value)) (ep : Nat) (t : SetTable) : Prop where
  obj : ∃ o, h.get? a = some o ∧ o.ExactSet ∧ o.data = .set es ep t
  rws : es.toList = rows S L
  tab : TB t (hashes S L)
  once : (L.map (·.2)).Nodup
  keys : ∀ p ∈ L, S.is h p.2 p.1
  pln : t.plain = true
  led : w.params.followText "set-order" = true ∨ t.led = true
  spare : L.length * 5 < t.mask * 3
variable {S} {A : Around} {E : Value → Shared → Prop} {s : Shared} {a : Addr} {L : KL κ} {es : Array (Int × Value)} {ep : Nat} {t : SetTable}
theorem rows_len {L : KL κ} : (rows S L).length = L.length := by simp [rows]
theorem Holds.cnt {h : Heap} (R : Holds S h a L es ep t) : es.size = L.length := by
  have := congrArg List.length R.rws
  rwa [rows_len, Array.length_toList] at this
theorem Holds.psz {h : Heap} (R : Holds S h a L es ep t) : t.place.size = L.length := by rw [R.tab.size, List.length_map]
theorem fits_of {n : Nat} (h1 : t.place.size = n) (h2 : t.dummies = #[]) (h3 : n ≤ t.mask) : t.fits n = true := by
  unfold SetTable.fits SetTable.fill
  simp only [h1, h2, beq_self_eq_true, Bool.true_and, decide_eq_true_eq]
  exact h3
theorem Holds.fit {h : Heap} (R : Holds S h a L es ep t) : t.fits es.size = true := fits_of (R.psz.trans R.cnt.symm) R.tab.nod (by have := R.spare; rw [R.cnt]; omega)
theorem row_at {L : KL κ} {es : Array (Int × Value)} (hr : es.toList = rows S L) {i : Nat} {p : Addr × κ} (h : L[i]? = some p) : es[i]? = some (S.hash p.2, Value.ref p.1) := by
  rw [← Array.getElem?_toList, hr]
  simp [rows, h]
/-- a key is searched, from the c-th step of its way on -/
theorem seek (R : Holds S s.heap a L es ep t) {x : Addr} {k : κ} (hx : S.is s.heap k x) (hu : A.units + S.need < cLine) {K : Nat} (hKf : K < 10 * SetTable.turns t.mask)
    (hK : way t.mask (S.hash k) K ∉ t.place.toList) (hKb : ∀ c, c < K → way t.mask (S.hash k) c ∈ t.place.toList) {Q : SetFound → Shared → Prop} (yes : k ∈ L.map (·.2) → Q (.there none) s) (no : k ∉ L.map (·.2) → Q (.free (way t.mask (S.hash k) K) false) s) :
    ∀ (f c : Nat) (st : Option SetTable.Probe), st.getD (t.probeStart (S.hash k)) = nth t.mask (t.probeStart (S.hash k)) c → c ≤ K → K - c < f →
      (∀ (i : Nat) p, L[i]? = some p → p.2 = k → ∃ q, c ≤ q ∧ q < K ∧ t.place.toList[i]? = some (way t.mask (S.hash k) q)) →
      wpAny (model P w) A (setSearchFrom a (.ref x) (S.hash k) true f st) Q E s
  | 0, c, st, _, _, hf, _ => (Nat.not_lt_zero _ hf).elim
  | f + 1, c, st, hst, hc, hf, hre => by
    obtain ⟨o, ho, hex, hd⟩ := R.obj
    have fit := R.fit
    generalize hg : S.hash k = g at hst hK hKb no hre ⊢
    have pos : ∀ q, (nth t.mask (nth t.mask (t.probeStart g) c) q).j = way t.mask g (c + q) := fun q => by rw [← nth_add]; rfl
    have dn : (nth t.mask (t.probeStart g) c).dummy = none := by
      have go : ∀ (n : Nat) (p : SetTable.Probe), p.dummy = none → (nth t.mask p n).dummy = none := by
        intro n
        induction n with
        | zero => exact fun _ h => h
        | succ n ih => exact fun p h => ih _ (by unfold adv; split <;> exact h)
      exact go c _ rfl
    have sp := go_spec t R.tab.up R.tab.nod (fun i => (es[i]?.map (·.1)).getD 0) g (10 * SetTable.turns t.mask) (K - c) _ dn (by omega) (fun q hq => by rw [pos]; exact hKb _ (by omega)) (by rw [pos, Nat.add_sub_cancel' hc]; exact hK)
    have hat : ∀ {i : Nat} {p : Addr × κ}, L[i]? = some p → (es[i]?.map (·.1)).getD 0 = S.hash p.2 := fun h => by rw [row_at R.rws h]; rfl
    rw [setSearchFrom_succ]
    refine wpAny_bind (wpAny_setState_of ho hd fit ?_)
    dsimp only
    refine wp_if_neg (by simp [SetTable.gaveWay, R.tab.mask.odd]) ?_
    (try refine wpAny_bind (wpAny_pure ?_))
    rcases sp with ⟨q, i, hq, hi, hh, hno, hpr⟩ | ⟨hno, hpr⟩
    · have pr : t.probe (fun i => (es[i]?.map (·.1)).getD 0) g (st.getD (t.probeStart g)) = some (.candidate (way t.mask g (c + q)) i (nth t.mask (t.probeStart g) (c + (q + 1)))) := by
        rw [hst, ← pos, nth_add]
        exact hpr
      rw [pos] at hi
      have iL : i < L.length := by
        have z := (List.getElem?_eq_some_iff.mp hi).1
        rw [Array.length_toList, R.psz] at z
        exact z
      obtain ⟨p, hp⟩ : ∃ p, L[i]? = some p := ⟨_, List.getElem?_eq_getElem iL⟩
      have pm := List.mem_of_getElem? hp
      have lives : t.slot (way t.mask g (c + q)) = .live i := slot_live R.tab.up hi
      rw [pr]
      dsimp only
      have after : wpAny (model P w) A (searchRest a (.ref x) g true f es t (way t.mask g (c + q)) i (nth t.mask (t.probeStart g) (c + (q + 1)))) Q E s := by
        unfold searchRest
        rw [row_at R.rws hp]
        dsimp only
        refine wpAny_bind (wpAny_holding (S.eqB hu (R.keys p pm) hx (wpAny_bind (wpAny_setState_of ho hd fit ?_))))
        dsimp only
        by_cases ek : p.2 = k
        · exact wp_if_pos (by simp [ek]) (wpAny_pure (yes (List.mem_map.mpr ⟨p, pm, ek⟩)))
        · refine wp_if_neg (by simp [ek]) ?_
          (try refine wpAny_bind (wpAny_pure ?_))
          rw [sameMem]
          simp only [if_true, lives, row_at R.rws hp]
          refine wpAny_bind (wpAny_isSame_ref_self (wpAny_bind (wpAny_pure ?_)))
          rw [if_pos rfl]
          dsimp only
          refine wp_if_neg (by simp [ek]) (hg ▸ seek R hx hu hKf (hg ▸ hK) (hg ▸ hKb) yes (hg ▸ no) f (c + (q + 1)) _ (by rw [hg]; rfl) (by omega) (by omega) fun i0 p0 h0 k0 => ?_)
          obtain ⟨y, y1, y2, y3⟩ := hre i0 p0 h0 k0
          rw [hg]
          refine ⟨y, ?_, y2, y3⟩
          rcases Nat.lt_trichotomy y (c + q) with z | z | z
          · refine (hno (y - c) i0 (by omega) (by rw [pos, Nat.add_sub_cancel' y1]; exact y3) ?_).elim
            exact (hat h0).trans (by rw [k0, hg])
          · have u := slot_live R.tab.up (z ▸ y3)
            rw [lives, SetTable.Slot.live.injEq] at u
            rw [← u, hp, Option.some.injEq] at h0
            exact (ek (h0 ▸ k0)).elim
          · omega
      by_cases ld : t.led = true
      · refine wp_if_neg (by simp [ld]) ?_
        (try refine wpAny_bind (wpAny_pure ?_))
        exact after
      · refine wp_if_pos (by simp [ld]) (wpAny_bind (S.seen hx (fun y hy => ?_) ?_))
        · obtain ⟨e, he, rfl⟩ := List.mem_map.mp hy
          have m1 : e ∈ es := by
            have z := he
            simp at z
            exact z.1
          have m2 : e ∈ rows S L := by rw [← R.rws]; simpa using m1
          obtain ⟨p2, b1, rfl⟩ := List.mem_map.mp m2
          exact ⟨p2.2, p2.1, rfl, R.keys p2 b1⟩
        · refine wp_if_neg (by decide) ?_
          (try refine wpAny_bind (wpAny_pure ?_))
          exact after
    · have pr : t.probe (fun i => (es[i]?.map (·.1)).getD 0) g (st.getD (t.probeStart g)) = some (.empty (way t.mask g K) none) := by
        have e2 := pos (K - c)
        rw [Nat.add_sub_cancel' hc] at e2
        rw [hst, ← e2]
        exact hpr
      rw [pr]
      dsimp only
      refine wpAny_pure (no fun hm => ?_)
      obtain ⟨p0, m0, k0⟩ := List.mem_map.mp hm
      obtain ⟨i0, l0, e0⟩ := List.getElem_of_mem m0
      have h0 : L[i0]? = some p0 := e0 ▸ List.getElem?_eq_getElem l0
      obtain ⟨y, y1, y2, y3⟩ := hre i0 p0 h0 k0
      exact hno (y - c) i0 (by omega) (by rw [pos, Nat.add_sub_cancel' y1]; exact y3) ((hat h0).trans (by rw [k0, hg]))
theorem lookup (R : Holds S s.heap a L es ep t) {x : Addr} {k : κ} (hx : S.is s.heap k x) (hu : A.units + S.need < cLine) {Q : SetFound → Shared → Prop} (yes : k ∈ L.map (·.2) → Q (.there none) s)
    (no : ∀ K, k ∉ L.map (·.2) → way t.mask (S.hash k) K ∉ t.place.toList → (∀ c, c < K → way t.mask (S.hash k) c ∈ t.place.toList) → Q (.free (way t.mask (S.hash k) K) false) s) : wpAny (model P w) A (setSearch a (.ref x) (S.hash k) true) Q E s := by
  have sp := R.spare
  obtain ⟨K, k1, k2, k3⟩ := R.tab.free (by rw [List.length_map]; omega) (S.hash k)
  have ml := R.tab.mask.le
  unfold setSearch
  refine seek R hx hu k1 k2 k3 yes (fun z => no K z k2 k3) 100000 0 none rfl (Nat.zero_le _) (by unfold SetTable.turns at k1; omega) fun i p hp hk => ?_
  have il : i < t.place.toList.length := by
    have := (List.getElem?_eq_some_iff.mp hp).1
    rw [Array.length_toList, R.psz]
    exact this
  have hj := List.getElem?_eq_getElem il
  obtain ⟨y, y1, y2⟩ := R.tab.ahead k2 (i := i) (h := S.hash k) (by simp [hp, hk]) hj
  exact ⟨y, Nat.zero_le _, y1, by rw [hj, y2]⟩
/-! ### laid anew -/
theorem reorder (L : KL κ) (es : Array (Int × Value)) (order : Array Nat) (hr : es.toList = rows S L) (hp : order.toList.Perm (List.range L.length)) :
    ∃ L2 : KL κ, (order.filterMap (es[·]?)).toList = rows S L2 ∧ L2.Perm L ∧ hashes S L2 = order.toList.map fun i => (es.map (·.1)).getD i 0 := by
  have at_ : ∀ i (h : i < L.length), es[i]? = some (S.hash L[i].2, Value.ref L[i].1) := fun i h => row_at hr (List.getElem?_eq_getElem h)
  have go : ∀ l : List Nat, (∀ i ∈ l, i < L.length) → l.filterMap (fun i => es[i]?) = rows S (l.filterMap fun i => L[i]?) ∧ hashes S (l.filterMap fun i => L[i]?) = l.map fun i => (es.map (·.1)).getD i 0 := by
    intro l
    induction l with
    | nil => exact fun _ => ⟨rfl, rfl⟩
    | cons i l ih =>
      intro hl
      have li := hl i List.mem_cons_self
      obtain ⟨e1, e2⟩ := ih fun j hj => hl j (List.mem_cons_of_mem _ hj)
      have e3 : (es.map (·.1)).getD i 0 = S.hash L[i].2 := by simp [Array.getD_eq_getD_getElem?, at_ i li]
      rw [List.filterMap_cons_some (at_ i li), List.filterMap_cons_some (List.getElem?_eq_getElem li), e1]
      exact ⟨rfl, by simp only [hashes, List.map_cons, e3] at e2 ⊢; rw [e2]⟩
  have whole : (List.range L.length).filterMap (fun i => L[i]?) = L := by
    apply List.ext_getElem?
    intro i
    have : ∀ n, n ≤ L.length → (List.range n).filterMap (fun i => L[i]?) = L.take n := by
      intro n
      induction n with
      | zero => intro _; rfl
      | succ n ih =>
        intro hn
        rw [List.range_succ, List.filterMap_append, ih (by omega), List.take_succ, List.getElem?_eq_getElem (by omega : n < L.length)]
        simp [List.getElem?_eq_getElem (by omega : n < L.length)]
    rw [this _ (Nat.le_refl _), List.take_length]
  obtain ⟨e1, e2⟩ := go order.toList fun i hi => List.mem_range.mp (hp.mem_iff.mp hi)
  have pp := hp.filterMap fun i => L[i]?
  rw [whole] at pp
  exact ⟨_, by rw [Array.toList_filterMap]; exact e1, pp, e2⟩
theorem relay {o : Obj} (ho : s.heap.get? a = some o) (hex : o.ExactSet) (hd : o.data = .set es ep t) (hr : es.toList = rows S L) (hp : t.place.size = es.size) (hn : t.dummies = #[]) (hf : es.size ≤ t.mask) (nd : (L.map (·.2)).Nodup) (ks : ∀ p ∈ L, S.is s.heap p.2 p.1) (pl : t.plain = true)
    (ld : w.params.followText "set-order" = true ∨ t.led = true) {wanted m : Nat} (hw : SetTable.sizeAbove wanted - 1 = m) (hm : BM m) (hw2 : SetTable.sizeAbove wanted ≤ 8192) (hl : L.length * 5 < m * 3) {Q : Unit → Shared → Prop}
    (hQ : ∀ h' L' es' ep' t', Heap.SameBut a s.heap h' → Holds S h' a L' es' ep' t' → t'.mask = m → L'.Perm L → Q () { s with heap := h' }) : wpAny (model P w) A (setRelay a wanted) Q E s := by
  have cnt : es.size = L.length := by
    have := congrArg List.length hr
    rwa [rows_len, Array.length_toList] at this
  obtain ⟨t2, order, e, pm, T, em, el, epl⟩ := anew t (hs := es.map (·.1)) hw hm (by rw [Array.size_map, cnt]; omega)
  rw [Array.size_map, cnt] at pm
  obtain ⟨L2, r1, r2, r3⟩ := reorder L es order hr pm
  rw [← r3] at T
  have c2 : (order.filterMap (es[·]?)).size = es.size := by
    have := congrArg List.length r1
    rw [rows_len, r2.length_eq, Array.length_toList] at this
    rw [this, cnt]
  rw [setRelay_eq]
  refine wpAny_bind (wpAny_setState_of ho hd (fits_of hp hn hf) ?_)
  dsimp only
  refine wp_if_neg (by rw [sizeLine_eq]; omega) ?_
  (try refine wpAny_bind (wpAny_pure ?_))
  rw [e]
  dsimp only
  refine wpAny_bind (wp_if_neg (by rw [c2]; simp) ?_)
  (try refine wpAny_bind (wpAny_pure ?_))
  refine wpAny_pure ?_
  dsimp only
  have sb : Heap.SameBut a s.heap (s.heap.update a (Obj.putSet (order.filterMap (es[·]?)) t2)) := Heap.SameBut.update ..
  refine wpAny_storeSet_of ho hd (hQ _ L2 _ (ep + 1) t2 sb ⟨⟨_, store_at ho hd, ⟨hex.1, hex.2.1, hex.2.2⟩, rfl⟩, r1, T, (r2.map (·.2)).nodup_iff.mpr nd, fun p hpm => S.same (ks p (r2.mem_iff.mp hpm)) ho hd sb, epl.trans pl, el ▸ ld, by rw [r2.length_eq, em]; exact hl⟩ em r2) (by have := hm.le; rw [c2, cnt, sizeLine_eq]; omega)
/-! ### adding -/
theorem above (n m : Nat) : SetTable.sizeAbove (SetTable.grown n) = m → n ≤ 50000 → SetTable.sizeAbove (n * 4) = m := fun h hn => by
  unfold SetTable.grown at h
  rwa [if_neg (by omega)] at h
theorem grow_table {m n : Nat} (hm : BM m) (hr : (n - 1) * 5 < m * 3) (hf : n * 5 ≥ m * 3) (hn : n ≤ 4900) (h1 : 1 ≤ n) (hk : m = 7 ∨ m = 31 ∨ m = 127 ∨ m = 511 ∨ m = 2047 ∨ m = 8191) : ∃ m2, SetTable.sizeAbove (SetTable.grown n) - 1 = m2 ∧ BM m2 ∧ SetTable.sizeAbove (SetTable.grown n) ≤ 8192 ∧ n * 5 < m2 * 3 ∧ (m2 = 7 ∨ m2 = 31 ∨ m2 = 127 ∨ m2 = 511 ∨ m2 = 2047 ∨ m2 = 8191) := by
  have e5 : SetTable.sizeAbove (SetTable.grown 5) = 32 := by decide +kernel
  have e19 : SetTable.sizeAbove (SetTable.grown 19) = 128 := by decide +kernel
  have e77 : SetTable.sizeAbove (SetTable.grown 77) = 512 := by decide +kernel
  have e307 : SetTable.sizeAbove (SetTable.grown 307) = 2048 := by decide +kernel
  have e1229 : SetTable.sizeAbove (SetTable.grown 1229) = 8192 := by decide +kernel
  rcases hk with rfl | rfl | rfl | rfl | rfl | rfl
  · obtain rfl : n = 5 := by omega
    exact ⟨31, by rw [e5], bm31, by rw [e5]; decide, by omega, .inr (.inl rfl)⟩
  · obtain rfl : n = 19 := by omega
    exact ⟨127, by rw [e19], bm127, by rw [e19]; decide, by omega, .inr (.inr (.inl rfl))⟩
  · obtain rfl : n = 77 := by omega
    exact ⟨511, by rw [e77], bm511, by rw [e77]; decide, by omega, .inr (.inr (.inr (.inl rfl)))⟩
  · obtain rfl : n = 307 := by omega
    exact ⟨2047, by rw [e307], bm2047, by rw [e307]; decide, by omega, .inr (.inr (.inr (.inr (.inl rfl))))⟩
  · obtain rfl : n = 1229 := by omega
    exact ⟨8191, by rw [e1229], bm8191, by rw [e1229]; decide, by omega, .inr (.inr (.inr (.inr (.inr rfl))))⟩
  · omega
/-- the masks that a set comes through -/
def MK (m : Nat) : Prop := m = 7 ∨ m = 31 ∨ m = 127 ∨ m = 511 ∨ m = 2047 ∨ m = 8191
theorem add (R : Holds S s.heap a L es ep t) (hk : MK t.mask) {x : Addr} {k : κ} (hx : S.is s.heap k x) (hu : A.units + S.need < cLine) (few : L.length < 4900) {Q : Bool → Shared → Prop}
    (hQ : ∀ b h' L' es' ep' t', Heap.SameBut a s.heap h' → Holds S h' a L' es' ep' t' → MK t'.mask → (k ∈ L.map (·.2) → L' = L) → (k ∉ L.map (·.2) → L'.Perm ((x, k) :: L)) → Q b { s with heap := h' }) : wpAny (model P w) A (setAddHashed a (.ref x) (S.hash k)) Q E s := by
  obtain ⟨o, ho, hex, hd⟩ := R.obj
  have cnt := R.cnt
  have sp := R.spare
  have fit := R.fit
  unfold setAddHashed
  refine wpAny_holding ?_
  rw [show (100000 : Nat) = Nat.succ 99999 from rfl, setAddHashedIn_succ]
  refine wpAny_bind (wpAny_setState_of ho hd fit ?_)
  dsimp only
  refine wp_if_neg (by simp [byScan, Value.scannable]) ?_
  (try refine wpAny_bind (wpAny_pure ?_))
  refine wpAny_bind (lookup R hx hu (fun hm => ?_) fun K hm hK hb => ?_)
  · dsimp only
    exact wpAny_pure (hQ false s.heap L es ep t (.refl a s.heap) R hk (fun _ => rfl) fun z => (z hm).elim)
  · dsimp only
    refine wpAny_bind (wpAny_setState_of ho hd fit ?_)
    dsimp only
    obtain ⟨q2, q3, q9⟩ := R.tab.add hK hb _ rfl
    obtain ⟨j, hj⟩ : ∃ j, j = way t.mask (S.hash k) K := ⟨_, rfl⟩
    rw [← hj] at q2 q3 q9 ⊢
    obtain ⟨p, hp⟩ : ∃ p, p = SetTable.below t.place j := ⟨_, rfl⟩
    rw [← hp] at q2 q3
    have ep2 : t.put j = ((t.put j).1, p) := by rw [hp]; rfl
    have mk2 : (t.put j).1.mask = t.mask := rfl
    have pl2 : (t.put j).1.plain = true := R.pln
    have ld2 : w.params.followText "set-order" = true ∨ (t.put j).1.led = true := R.led
    rw [ep2]
    dsimp only
    generalize (t.put j).1 = t1 at q3 q9 mk2 pl2 ld2 ⊢
    first
      | (refine wpAny_bind ?_; refine wp_if_pos pl2 ?_; refine S.byv hx ?_)
      | refine wp_if_pos pl2 (wpAny_bind (S.byv hx ?_))
    simp only [if_true]
    have pm := put_perm L p (x, k)
    have l1 : (L.take p ++ (x, k) :: L.drop p).length = L.length + 1 := pm.length_eq
    have r1 : (SetTable.insertAt es p (S.hash k, Value.ref x)).toList = rows S (L.take p ++ (x, k) :: L.drop p) := by
      rw [SetTable.toList_insertAt, R.rws]
      simp [rows, List.map_take, List.map_drop]
    have q3 : TB t1 (hashes S (L.take p ++ (x, k) :: L.drop p)) := by
      have : hashes S (L.take p ++ (x, k) :: L.drop p) = (hashes S L).take p ++ S.hash k :: (hashes S L).drop p := by simp [hashes, List.map_take, List.map_drop]
      rw [this]
      exact q3
    have n1 : ((L.take p ++ (x, k) :: L.drop p).map (·.2)).Nodup := (pm.map (·.2)).nodup_iff.mpr (List.nodup_cons.mpr ⟨hm, R.once⟩)
    generalize SetTable.insertAt es p (S.hash k, Value.ref x) = es1 at r1 ⊢
    generalize L.take p ++ (x, k) :: L.drop p = L1 at pm l1 q3 n1 r1
    have s1 : es1.size = L.length + 1 := by
      have := congrArg List.length r1
      rwa [rows_len, l1, Array.length_toList] at this
    have sb : Heap.SameBut a s.heap (s.heap.update a (Obj.putSet es1 t1)) := Heap.SameBut.update ..
    have o1 := store_at (es' := es1) (t' := t1) ho hd
    refine wpAny_bind (wpAny_storeSet_of ho hd ?_ (by rw [s1, sizeLine_eq]; omega))
    generalize s.heap.update a (Obj.putSet es1 t1) = h1 at sb o1 ⊢
    have k1 : ∀ q ∈ L1, S.is h1 q.2 q.1 := fun q hq => by
      rcases List.mem_cons.mp (pm.mem_iff.mp hq) with rfl | z
      · exact S.same hx ho hd sb
      · exact S.same (R.keys q z) ho hd sb
    have fl : t1.tooFull = decide ((L.length + 1) * 5 ≥ t.mask * 3) := by
      unfold SetTable.tooFull
      rw [q9, List.length_map, mk2]
    by_cases c : (L.length + 1) * 5 ≥ t.mask * 3
    · have ft : t1.tooFull = true := by rw [fl]; exact decide_eq_true c
      obtain ⟨m2, g1, g2, g3, g4, g5⟩ := grow_table R.tab.mask (n := L.length + 1) (by omega) c (by omega) (by omega) hk
      have ps1 : t1.place.size = es1.size := by rw [q3.size, List.length_map, l1, s1]
      have tm := R.tab.mask.ge
      first
        | (refine wpAny_bind ?_; refine wp_if_pos (by simp [ft]) ?_)
        | (refine wp_if_pos (by simp [ft]) ?_; refine wpAny_bind ?_)
      rw [cnt]
      refine relay (s := { s with heap := h1 }) o1 ⟨hex.1, hex.2.1, hex.2.2⟩ rfl r1 ps1 q3.nod (by rw [s1, mk2]; omega) n1 k1 pl2 ld2 g1 g2 g3 (by rw [l1]; exact g4) fun h2 L2 es2 e2 t2 sb2 R2 em2 pm2 => ?_
      exact wpAny_pure (hQ true h2 L2 es2 e2 t2 (sb.trans sb2) R2 (em2.symm ▸ g5) (fun z => (hm z).elim) fun _ => pm2.trans pm)
    · have ft : ¬ t1.tooFull = true := by rw [fl]; simpa using c
      first
        | refine wp_if_neg (by simp [ft]) ?_
        | (refine wpAny_bind ?_; refine wp_if_neg (by simp [ft]) ?_; refine wpAny_pure ?_)
      exact wpAny_pure (hQ true h1 L1 es1 (ep + 1) t1 sb ⟨⟨_, o1, ⟨hex.1, hex.2.1, hex.2.2⟩, rfl⟩, r1, q3, n1, k1, pl2, ld2, by rw [l1, mk2]; omega⟩ (mk2.symm ▸ hk) (fun z => (hm z).elim) fun _ => pm)
end
end Cov.BS

/-! SetB3: set(xs), xs a list of keys. -/
namespace Cov.BS
open PySem PySem.Spec PyProof.Rows L2
section
variable {P : Program} {w : World} {κ : Type} [DecidableEq κ] {S : KS P w κ}
variable {A : Around} {E : Value → Shared → Prop} {s : Shared} {a : Addr} {L : KL κ} {es : Array (Int × Value)} {ep : Nat} {t : SetTable}
/-- what a set has of the first i things -/
structure Part (ks : KL κ) (i : Nat) (L : KL κ) : Prop where
  of : ∀ p ∈ L, p ∈ ks.take i
  all : ∀ p ∈ ks.take i, p.2 ∈ L.map (·.2)
  le : L.length ≤ i
theorem Part.next {ks L L' : KL κ} {i : Nat} {x : Addr × κ} (g : Part ks i L) (h : ks[i]? = some x) (c1 : x.2 ∈ L.map (·.2) → L' = L) (c2 : x.2 ∉ L.map (·.2) → L'.Perm (x :: L)) : Part ks (i + 1) L' := by
  have ht : ks.take (i + 1) = ks.take i ++ [x] := by rw [List.take_succ, h]; rfl
  by_cases c : x.2 ∈ L.map (·.2)
  · rw [c1 c]
    refine ⟨fun p hp => ht ▸ List.mem_append_left _ (g.of p hp), fun p hp => ?_, Nat.le_succ_of_le g.le⟩
    rw [ht] at hp
    rcases List.mem_append.mp hp with z | z
    · exact g.all p z
    · exact List.mem_singleton.mp z ▸ c
  · have pm := c2 c
    refine ⟨fun p hp => ?_, fun p hp => ?_, by rw [pm.length_eq]; exact Nat.succ_le_succ g.le⟩
    · rw [ht]
      rcases List.mem_cons.mp (pm.mem_iff.mp hp) with rfl | z
      · simp
      · exact List.mem_append_left _ (g.of p z)
    · rw [ht] at hp
      refine (pm.map (·.2)).mem_iff.mpr ?_
      rcases List.mem_append.mp hp with z | z
      · exact List.mem_cons_of_mem _ (g.all p z)
      · rw [List.mem_singleton.mp z]
        exact List.mem_cons_self
theorem Holds.move {h h' : Heap} (R : Holds S h a L es ep t) (ha : ∀ o, h.get? a = some o → h'.get? a = some o) (hk : ∀ p ∈ L, S.is h' p.2 p.1) : Holds S h' a L es ep t := by
  obtain ⟨o, ho, r⟩ := R.obj
  exact ⟨⟨o, ha o ho, r⟩, R.rws, R.tab, R.once, hk, R.pln, R.led, R.spare⟩
/-- the empty set as it is made -/
abbrev set0 (w : World) : Obj := { cls := .type "set", dict := none, data := .set #[] 0 (.fresh 0 0 (!w.params.followText "set-order")) }
theorem holds0 {h : Heap} (ho : h.get? a = some (set0 w)) : Holds S h a [] #[] 0 (.fresh 0 0 (!w.params.followText "set-order")) := by
  refine ⟨⟨_, ho, ⟨rfl, rfl, rfl⟩, rfl⟩, rfl, ⟨List.Pairwise.nil, rfl, rfl, bm7, ?_, ?_⟩, List.nodup_nil, ?_, rfl, ?_, ?_⟩
  · intro x hx; cases hx
  · intro i h j hi; simp at hi
  · intro p hp; cases hp
  · show _ ∨ (!w.params.followText "set-order") = true
    cases w.params.followText "set-order" <;> simp
  · show 0 * 5 < 7 * 3
    decide
/-- few unlike keys -/
def FewK {κ : Type} (ks : KL κ) : Prop := ∃ D : List κ, D.length ≤ 4095 ∧ ∀ p ∈ ks, p.2 ∈ D
theorem FewK.of {κ : Type} {ks : KL κ} (h : ks.length ≤ 4095) : FewK ks := ⟨ks.map (·.2), by simpa using h, fun p hp => List.mem_map.mpr ⟨p, hp, rfl⟩⟩
theorem FewK.len {κ : Type} {ks L : KL κ} (h : FewK ks) (nd : (L.map (·.2)).Nodup) (sub : ∀ p ∈ L, p ∈ ks) : L.length ≤ 4095 := by
  obtain ⟨D, hD, hs⟩ := h
  have := List.Nodup.length_le_of_subset nd (fun t ht => by obtain ⟨p, hp, rfl⟩ := List.mem_map.mp ht; exact hs p (sub p hp) : ∀ t ∈ L.map (·.2), t ∈ D)
  rw [List.length_map] at this
  omega
/-- the loop of set.update -/
theorem loop {I : Addr} {fp wr : List Addr} {G : Array GenState → Array GenState → Prop} {n : Nat} {Pv : Nat → Value → Prop} {St : Nat → Shared → Prop} {R : Result → Shared → Prop}
    (V : WalksS P w A.in1 I fp wr G n Pv St) (D : Addr) (dn : D ∉ fp) (ks : KL κ) (hn : n = ks.length) (few : FewK ks) (val : ∀ i v, Pv i v → ∃ p, ks[i]? = some p ∧ v = .ref p.1) (h0 : Heap) (hk : ∀ p ∈ ks, S.is h0 p.2 p.1) (d0 : h0.get? D = none)
    (w0 : ∀ b ∈ wr, h0.get? b = none) (hu : A.units + 1 + S.need < cLine) :
    ∀ (k i : Nat) (s : Shared), n - i = k → i ≤ n → St i s → (∀ b o, h0.get? b = some o → s.heap.get? b = some o) → (∃ L es ep t, Holds S s.heap D L es ep t ∧ MK t.mask ∧ Part ks i L) →
      (∀ s' L es ep t, Moved (D :: wr) G s s' → Holds S s'.heap D L es ep t → Part ks n L → (∀ b o, h0.get? b = some o → s'.heap.get? b = some o) → R (.ok (.ret .none)) s') →
      codeAny (model P w) A (.builtin "set.update.loop" ⟨[.ref D, .ref I], []⟩) R s := by
  have dw : D ∉ wr := fun z => dn (V.sub _ z)
  have hu1 : A.in1.units + S.need < cLine := hu
  have keeps : ∀ {s s' : Shared}, Moved wr G s s' → (∀ b o, h0.get? b = some o → s.heap.get? b = some o) → ∀ b o, h0.get? b = some o → s'.heap.get? b = some o := fun m kp b o e =>
    m.heap b o (fun z => by rw [w0 b z] at e; cases e) (kp b o e)
  intro k
  induction k with
  | zero =>
    rintro i s hik hi st kp ⟨L, es, ep, t, hS, hm, g⟩ fin
    obtain rfl : i = n := by omega
    refine codeAny_builtin F.entry_set_update_loop ?_
    rw [Around.under_plainId F.plain_set_update_loop _]
    show wpAny _ _ (Bind.bind (pyNext (.ref I)) _) _ _ _
    refine wpAny_bind (V.done s _ _ st fun s' m => ?_)
    have kp2 := keeps m kp
    exact wpAny_pure (fin s' L es ep t (m.mono fun b z => List.mem_cons_of_mem _ z) (hS.move (fun o e => m.heap D o dw e) fun p hp => S.keep (hk p (List.mem_of_mem_take (g.of p hp))) kp2) g kp2)
  | succ k ih =>
    rintro i s hik hi st kp ⟨L, es, ep, t, hS, hm, g⟩ fin
    have lt : i < n := by omega
    refine codeAny_builtin F.entry_set_update_loop ?_
    rw [Around.under_plainId F.plain_set_update_loop _]
    show wpAny _ _ (Bind.bind (pyNext (.ref I)) _) _ _ _
    refine wpAny_bind (V.item i s _ _ lt st fun v s' pv st2 m => ?_)
    obtain ⟨p, hp, rfl⟩ := val i v pv
    have kp2 := keeps m kp
    have hS2 : Holds S s'.heap D L es ep t := hS.move (fun o e => m.heap D o dw e) fun q hq => S.keep (hk q (List.mem_of_mem_take (g.of q hq))) kp2
    have hx : S.is s'.heap p.2 p.1 := S.keep (hk p (List.mem_of_getElem? hp)) kp2
    show wpAny _ _ (Bind.bind (holding [Value.ref p.1] (setAdd D (.ref p.1))) _) _ _ _
    refine wpAny_bind (wpAny_holding ?_)
    unfold setAdd
    refine wpAny_holding (wpAny_bind (S.hsh hu1 hx ?_))
    have gl := few.len hS2.once fun q hq => List.mem_of_mem_take (g.of q hq)
    refine add (s := { s' with toks := s'.toks + S.draws p.2 }) hS2 hm hx hu1 (by omega) fun b h' L' es' ep' t' sb hS3 hm3 c1 c2 => ?_
    have kp3 : ∀ b o, h0.get? b = some o → h'.get? b = some o := fun b o e => (sb.2 b fun z => by rw [z, d0] at e; cases e).trans (kp2 b o e)
    have same : ∀ b o, b ≠ D → s'.heap.get? b = some o → h'.get? b = some o := fun b o z e => (sb.2 b z).trans e
    refine wpAny_pure ⟨plainId_quiet F.plain_set_update_loop _, ih (i + 1) _ (by omega) lt (V.frame _ s' _ _ st2 (Nat.le_add_right _ _) fun b hb o e => same b o (fun z => dn (z ▸ hb)) e) kp3 ⟨L', es', ep', t', hS3, hm3, g.next hp c1 c2⟩ fun s3 L3 es3 ep3 t3 m3 hS4 g4 kp4 => ?_⟩
    exact fin s3 L3 es3 ep3 t3 (Moved.trans V.gtrans ((m.mono fun b z => List.mem_cons_of_mem _ z).then_heap (Nat.le_add_right _ _) fun b o hb e => same b o (fun z => hb (z ▸ List.mem_cons_self)) e) m3) hS4 g4 kp4
set_option maxHeartbeats 8000000 in
theorem call_set {l : Addr} {items : Array Value} (ks : KL κ) {Q : Value → Shared → Prop} (hh : A.handled = none) (hl : s.heap.IsList l items) (hit : items.toList = ks.map fun p => Value.ref p.1) (hk : ∀ p ∈ ks, S.is s.heap p.2 p.1) (few : FewK ks) (hu : A.units + 5 + S.need < cLine)
    (h : ∀ (h' : Heap) (tk : Nat) L es ep t, Holds S h' s.heap.objs.size L es ep t → Part ks ks.length L → (∀ b o, s.heap.get? b = some o → h'.get? b = some o) → Q (.ref s.heap.objs.size) { s with heap := h', toks := tk }) :
    wpAny (model P w) A (call (.type "set") [.ref l]) Q E s := by
  have isz : items.size = ks.length := by
    have := congrArg List.length hit
    rwa [List.length_map, Array.length_toList] at this
  obtain ⟨c, tl, hmro⟩ := F.called_set.mro
  have b1 := F.called_set.made
  have b2 := F.called_set.sub
  have b3 := F.called_set.notType
  have b4 := F.called_set.canCreate
  have b5 := F.typeCall_set_1 (.ref l)
  refine wpAny_call (codeAny_of_tree (show wpAny _ _ (callAny (.type "set") _) _ _ _ from wpAny_pure ⟨Code.quiet_builtin _ (by decide +kernel), codeAny_builtin F.entry_type_call ?_⟩))
  rw [Around.under_plain (weight_type_call_type "set" [.ref l] []) rfl]
  repeat' (first | assumption | wp_step)
  refine codeAny_mono (code_set_led1 (.ref l) (E := E) (Q₁ := fun o s₁ => o = .ref s.heap.objs.size ∧ s₁ = { s with heap := s.heap.push (set0 w) }) ⟨rfl, rfl⟩) fun r s₁ hr => ?_
  cases r with
  | error e => exact hr
  | ok fl =>
    cases fl with
    | ret o =>
      obtain ⟨rfl, rfl⟩ := hr
      have g1 : (s.heap.push (set0 w)).get? s.heap.objs.size = some (set0 w) := Heap.get?_push_size _ rfl
      have g2 : Shared.TypeIs { s with heap := s.heap.push (set0 w) } (.ref s.heap.objs.size) "set" := ⟨_, g1, rfl⟩
      have g3 := F.called_set.init.lookup
      have g4 := F.called_set.init.bind (.ref s.heap.objs.size)
      repeat' (first | assumption | wp_step)
      refine codeAny_mono (codeAny_call_builtin (R := wants (fun r s₂ => r = .none ∧ ∃ h' tk L es ep t, s₂ = { s with heap := h', toks := tk } ∧ Holds S h' s.heap.objs.size L es ep t ∧ Part ks ks.length L ∧ ∀ b o, s.heap.get? b = some o → h'.get? b = some o) E) F.called_set.init.plain F.entry_set_init (check_set_init_1 g2 ?_)) fun r₂ s₂ hr₂ => ?_
      · obtain ⟨⟨ocls, odict, odata, oslots⟩, hol, hcl, nl, hdl⟩ := hl
        simp only at hcl hdl
        subst hcl hdl
        have p1 : (s.heap.push (set0 w)).get? l = some { cls := .type "list", dict := odict, data := .seq items nl, slots := oslots } := Heap.get?_push_of_some _ hol
        have p2 := F.sub_list_set
        have p3 := F.sub_list_frozenset
        have p4 : (Value.type "list" == Value.type "dict") = false := by decide
        have p5 : (s.heap.push (set0 w)).IsList l items := ⟨_, p1, rfl, nl, rfl⟩
        unfold Builtin.«set.__init__» noKeywords Builtin.Frozenset.updateFrom
        generalize hPI : pyIter = PI
        wp_walk
        subst hPI
        refine wpAny_pyIter_list p5 (wpAny_bind (wpAny_runValue ?_))
        have lS : l < s.heap.objs.size := Heap.lt_size hol
        have hh3 : A.in1.in1.in1.handled = none := hh
        have z1 : (s.heap.push (set0 w)).objs.size = s.heap.objs.size + 1 := Heap.size_push ..
        have out : ∀ b, s.heap.objs.size ≤ b → s.heap.get? b = none := fun b hb => by
          cases q : s.heap.get? b with
          | none => rfl
          | some o => exact absurd (Heap.lt_size q) (Nat.not_lt_of_le hb)
        refine loop (S := S) ((Walks.list hh3 _ l (by rw [z1]; exact Nat.ne_of_lt (Nat.lt_succ_of_lt lS)) items).toS) s.heap.objs.size (by rw [z1, List.mem_cons, List.mem_singleton, not_or]; exact ⟨Nat.ne_of_lt (Nat.lt_succ_self _), Nat.ne_of_gt lS⟩) ks isz few (fun i v hv => ?_) s.heap hk (out _ (Nat.le_refl _)) (fun b hb => out b (by rw [List.mem_singleton.mp hb, z1]; exact Nat.le_succ _)) (by show A.units + 1 + 1 + 1 + S.need < cLine; omega) (items.size - 0) 0 _ (by omega) (Nat.zero_le _)
          ⟨⟨_, Heap.get?_push_size _ rfl, rfl, rfl⟩, p5.push _⟩ (fun b o e => Heap.get?_push_of_some _ (Heap.get?_push_of_some _ e)) ⟨[], #[], 0, _, holds0 (Heap.get?_push_of_some _ g1), .inl rfl, ⟨fun p z => (by cases z), fun p z => (by simp at z), Nat.le_refl _⟩⟩ fun s' L es ep t hm hS g kp => ?_
        · have q : items.toList[i]? = some v := by rw [Array.getElem?_toList]; exact hv
          rw [hit, List.getElem?_map, Option.map_eq_some_iff] at q
          obtain ⟨p, e1, rfl⟩ := q
          exact ⟨p, e1, rfl⟩
        · obtain ⟨h', g', d', tk', os'⟩ := s'
          obtain rfl : g' = s.gens := hm.gens
          obtain rfl : d' = s.drawn := hm.drawn
          obtain rfl : os' = s.os := hm.os
          exact wpAny_pure (wpAny_pure ⟨rfl, h', tk', L, es, ep, t, rfl, hS, isz ▸ g, kp⟩)
      · cases r₂ with
        | error e => exact hr₂
        | ok fl₂ =>
          cases fl₂ with
          | ret r =>
            obtain ⟨rfl, h', tk, L, es, ep, t, rfl, hS, g, kp⟩ := hr₂
            repeat' (first | assumption | wp_step)
            exact h _ _ _ _ _ _ hS g kp
          | _ => exact hr₂.elim
    | _ => exact hr.elim
end
end Cov.BS

/-! SetB4: sets of tuples of ints, over the layer. -/
namespace Cov.BS
open PySem PySem.Spec PyProof.Rows L2
def ksT (P : Program) (w : World) : KS P w (List Int) where
  is := fun h k a => IsT P w h k a
  hash := thash P w
  draws := fun k => k.length + 1
  need := 0
  eqB := fun hu hx hy h => wpAny_eqBool_tuple (by omega) hx hy h
  hsh := fun hu hk h => wpAny_pyHash_tuple (by omega) hk h
  seen := fun hk hy h => seen_tup hk hy h
  byv := fun hk h => hashBy_tup hk h
  same := fun hk ho hd hs => isT_same hk ho hd hs
  keep := fun hk h => isT_keep hk h
section
variable {P : Program} {w : World} {κ : Type} [DecidableEq κ] (S : KS P w κ)
/-- the set at a, without its keys' own objects -/
structure Shell (h : Heap) (a : Addr) (L : KL κ) : Prop where
  ex : ∃ (es : Array (Int × Value)) (ep : Nat) (t : SetTable), (∃ o, h.get? a = some o ∧ o.ExactSet ∧ o.data = .set es ep t) ∧ es.toList = rows S L ∧ TB t (hashes S L) ∧ (L.map (·.2)).Nodup ∧ t.plain = true ∧ (w.params.followText "set-order" = true ∨ t.led = true) ∧ L.length * 5 < t.mask * 3
def setO (a : Addr) (L : KL κ) : HO := .ext fun h => Shell S h a L
variable {S}
theorem Holds.shell {h : Heap} {a : Addr} {L : KL κ} {es : Array (Int × Value)} {ep : Nat} {t : SetTable} (R : Holds S h a L es ep t) : Shell S h a L := ⟨es, ep, t, R.obj, R.rws, R.tab, R.once, R.pln, R.led, R.spare⟩
theorem Shell.full {h : Heap} {a : Addr} {L : KL κ} (R : Shell S h a L) (hk : ∀ p ∈ L, S.is h p.2 p.1) : ∃ es ep t, Holds S h a L es ep t := by
  obtain ⟨es, ep, t, a1, a2, a3, a4, a5, a6, a7⟩ := R.ex
  exact ⟨es, ep, t, a1, a2, a3, a4, hk, a5, a6, a7⟩
theorem setO_ok {H : Hp} {h : Heap} {a : Addr} {L : KL κ} (R : Shell S h a L) : ObjOk P w H h a (setO S a L) := by
  have ⟨es, ep, t, ⟨o, ho, r⟩, q⟩ := R.ex
  refine ⟨R, ⟨o, ho⟩, fun h1 h2 p k => ?_⟩
  have ⟨es', ep', t', ⟨o', ho', r'⟩, q'⟩ := Shell.ex p
  exact ⟨es', ep', t', ⟨o', k o' ho', r'⟩, q'⟩
theorem vals_refs : ∀ {ks : KL κ} {us : List Value}, Vals (ks.map fun p => V.ref p.1) us → us = ks.map fun p => Value.ref p.1
  | [], _, .nil => rfl
  | p :: ks, _, .cons r t => by
    cases r
    rw [vals_refs t]
    rfl
theorem refs_vals : ∀ ks : KL κ, Vals (ks.map fun p => V.ref p.1) (ks.map fun p => Value.ref p.1)
  | [] => .nil
  | p :: ks => .cons rfl (refs_vals ks)
/-- set(xs): J tells the keys' objects over the layer -/
def rSetB (S : KS P w κ) (J : Hp → Addr → κ → Prop) (K : PySem.W.Frag) : List V → Hp → VK → Prop := fun xs H Q => ∃ (l : Addr) (ks : KL κ), xs = [V.ref l] ∧ SqL K H l (ks.map fun p => V.ref p.1) ∧ (∀ p ∈ ks, J H p.1 p.2) ∧ FewK ks ∧
  ∀ a L, H a = none → (L.map (·.2)).Nodup → (∀ p ∈ L, p ∈ ks) → (∀ p ∈ ks, p.2 ∈ L.map (·.2)) → Q (.ref a) (upd H a (setO S a L))
end
theorem cr_setB {X : Cx} {κ : Type} [DecidableEq κ] (S : KS X.prog X.w κ) (J : Hp → Addr → κ → Prop) (hJ : ∀ {pins : List (Addr × Obj)} {σ : L2.St} {H : Hp} {s : Shared} {b : Addr} {k : κ}, Inv X pins σ H s → J H b k → S.is s.heap k b) (hc : X.calm = true) (hu : X.A.units + 5 + S.need < cLine) : CallR X (.type "set") (rSetB S J X.K) := by
  intro pins s σ H xs us Q I r h
  obtain ⟨l, ks, rfl, hl, hk, hf, q⟩ := h
  rw [Vals.ref1 r]
  obtain ⟨its, rv, pl, hz⟩ := I.list hl
  have hn : H s.heap.objs.size = none := I.hok.fresh (Nat.le_refl _)
  refine call_set (S := S) ks (I.ok.hd hc) pl.isList (by simpa using vals_refs rv) (fun p hp => hJ I (hk p hp)) hf hu fun h' tk L es ep t R g k => ?_
  exact ⟨.ref s.heap.objs.size, _, I.laid (t' := tk) k (Nat.le_refl _) (setO_ok R.shell), rfl, q _ L hn R.once (fun p hp => List.mem_of_mem_take (g.of p hp)) fun p hp => g.all p (by rw [List.take_length]; exact hp)⟩
end Cov.BS

/-! SortD: sorted(set) of tuples of any ints. -/
namespace Cov
open PySem PySem.Calls PyProof.Rows PySem.W L2
abbrev AK := Addr × List Int
abbrev encK (q : AK) : PyData := .tuple (q.2.map .int)
theorem rAll_ints {h : Heap} : ∀ {vs : List Value} {ns : List Int}, IntsAre vs ns → ReadsAll h vs (ns.map .int) []
  | _, _, .nil => .nil
  | _, _, .cons _ _ r => ReadsAll.cons (as := []) (.int _ _) (rAll_ints r)
theorem r_tup {h : Heap} {v : Value} {ns : List Int} (x : TS.TupInts h v ns) : Reads h v (.tuple (ns.map .int)) [] := by
  obtain ⟨a, xs, rfl, ⟨o, ho, hc, n, hd⟩, i⟩ := x
  exact .tuple ho hc hd (rAll_ints i)
theorem each_refs {R : Value → AK → Prop} : ∀ {L : List AK}, (∀ q ∈ L, R (.ref q.1) q) → EachIs R (L.map fun q => Value.ref q.1) L
  | [], _ => .nil
  | q :: L, h => .cons (h q List.mem_cons_self) (each_refs fun r hr => h r (List.mem_cons_of_mem _ hr))
theorem refs_each : ∀ {vs : List Value} {L : List AK}, EachIs (fun v q => v = Value.ref q.1) vs L → vs = L.map fun q => Value.ref q.1
  | _, _, .nil => rfl
  | _, _, .cons e t => by rw [e, refs_each t]; rfl
theorem leK (p q : AK) : dataLe false encK p q = decide (p.2 ≤ q.2) := by
  show (!dataLt (encK q) (encK p)) = _
  rw [dataLt_tuple]
  show (!rowLt (q.2.map .int) (p.2.map .int)) = _
  rw [dataLt_ints]
  by_cases c : q.2 < p.2
  · have c2 : ¬ p.2 ≤ q.2 := fun r => List.not_lt.mpr r c
    simp [c, c2]
  · have c2 : p.2 ≤ q.2 := List.not_lt.mp c
    simp [c, c2]
variable {P : Program} {w : World} {A : Around} {E : Value → Shared → Prop} {s : Shared}
theorem sorted_setD {a : Addr} {L : List AK} {es : Array (Int × Value)} {ep : Nat} {t : SetTable} {Q : Value → Shared → Prop} (R : BS.Holds (BS.ksT P w) s.heap a L es ep t) (hh : A.handled = none) (hu : A.units + 64 < cLine) (hd1 : ∀ p ∈ L, p.2 ≠ []) (hfew : L.length ≤ 4095)
    (hQ : ∀ s' p (out : Array Value) (c : Nat) (L' : List AK), (∀ b o, s.heap.get? b = some o → s'.heap.get? b = some o) → s'.gens = s.gens → s'.os = s.os → s.heap.objs.size ≤ p →
      s'.heap.get? p = some (seqObj "list" out c) → out.toList = L'.map (fun q => Value.ref q.1) → L'.Perm L → L'.Pairwise (fun q r => q.2 ≤ r.2) → Q (.ref p) s') :
    wpAny (model P w) A (call (.builtin "sorted") [.ref a]) Q E s := by
  obtain ⟨o, ho, hex, hd⟩ := R.obj
  have hsz2 := R.cnt
  refine Calls.call_function_entry kind_sorted plain_sorted entry_sorted (args_sorted1 _) ?_
  unfold Builtin.«sorted»
  refine wpAny_bind (m := checkCount "sorted" 1 1 _)  (wpAny_pure ?_)
  refine wpAny_bind (collect_set (A := A.in1) hh ⟨o, ho, hex.1, hd⟩ R.fit (by unfold scanBound; omega) R.tab.up R.led fun s1 vs k1 hz g1 o1 pm => ?_)
  have e0 : es.toList.map (·.2) = L.map fun q => Value.ref q.1 := by rw [R.rws, BS.rows, List.map_map] <;> rfl
  rw [e0] at pm
  have mem : ∀ v ∈ vs, ∃ q ∈ L, Value.ref q.1 = v := fun v hv => List.mem_map.mp (pm.mem_iff.mp hv)
  have pick : ∀ us : List Value, (∀ v ∈ us, ∃ q ∈ L, Value.ref q.1 = v) → ∃ M : List AK, us = M.map (fun q => Value.ref q.1) ∧ ∀ q ∈ M, q ∈ L := by
    intro us
    induction us with
    | nil => exact fun _ => ⟨[], rfl, fun q z => (nomatch z)⟩
    | cons v us ih =>
      intro hv
      obtain ⟨q, hq, e⟩ := hv v List.mem_cons_self
      obtain ⟨M, e1, hM⟩ := ih fun u z => hv u (List.mem_cons_of_mem _ z)
      exact ⟨q :: M, by rw [List.map_cons, e, e1], fun r z => (List.mem_cons.mp z).elim (fun y => y ▸ hq) (hM r)⟩
  obtain ⟨M, eM, hM⟩ := pick vs mem
  have uniq : ∀ q ∈ L, ∀ r ∈ L, q.1 = r.1 → q = r := fun q hq r hr e => by
    have b1 := R.keys q hq
    rw [e] at b1
    exact Prod.ext e (b1.inj (R.keys r hr))
  have pML : M.Perm L := by
    have nL : L.Nodup := nodup_of_map R.once
    have nr : (L.map fun q => Value.ref q.1).Nodup := List.pairwise_map.mpr (List.Pairwise.imp_of_mem (fun {q r} hq hr hne e => by
      injection e with e
      exact hne (uniq q hq r hr e)) nL)
    rw [eM] at pm
    have nM : M.Nodup := nodup_of_map (pm.nodup_iff.mpr nr)
    refine (List.perm_ext_iff_of_nodup nM nL).mpr fun q => ⟨hM q, fun hq => ?_⟩
    obtain ⟨r, hr, e⟩ := List.mem_map.mp (pm.mem_iff.mpr (List.mem_map.mpr ⟨q, hq, rfl⟩))
    injection e with e
    exact uniq r (hM r hr) q hq e ▸ hr
  have hvl : vs.length ≤ 4095 := by rw [eM, List.length_map, pML.length_eq]; exact hfew
  refine wpAny_bind (wpAny_newList ?_ (show vs.toArray.size ≤ sizeLine by rw [sizeLine_eq]; simp; omega))
  have hoL : (s1.heap.push (seqObj "list" vs.toArray 0)).get? s1.heap.objs.size = some (seqObj "list" vs.toArray 0) := Heap.get?_push_size _ rfl
  have tk : ∀ q ∈ L, TS.TupInts (s1.heap.push (seqObj "list" vs.toArray 0)) (.ref q.1) q.2 := fun q hq => tupInts_of (P := P) (w := w) (isT_keep (R.keys q hq) fun b u e => Heap.get?_push_of_some _ (k1 b u e))
  have enon : ∀ q ∈ M, ∃ x r, encK q = .tuple (x :: r) := fun q hq => by
    cases h2 : q.2 with
    | nil => exact (hd1 q (hM q hq) h2).elim
    | cons x r => exact ⟨.int x, r.map .int, by simp [encK, h2]⟩
  have er : EachIs (fun v q => ∃ as, Reads (s1.heap.push (seqObj "list" vs.toArray 0)) v (encK q) as ∧ s1.heap.objs.size ∉ as) vs M := by
    rw [eM]
    exact each_refs fun q hq => ⟨[], eM ▸ r_tup (tk q (hM q hq)), fun z => nomatch z⟩
  have e1 : EachIs (fun v (q : AK) => v = Value.ref q.1) vs M := by
    rw [eM]
    exact each_refs fun _ _ => rfl
  refine wpAny_bind (wpAny_holding (list_sort_data (s := { s1 with heap := s1.heap.push (seqObj "list" vs.toArray 0) }) (enc := encK) hoL e1 er (AllAlike.of fun q r => by simp only [encK, alike]; exact alike_ints _ _)
    (.inl fun d hd => by obtain ⟨q, hq, rfl⟩ := List.mem_map.mp hd; exact enon q hq) (by rw [pML.length_eq, sizeLine_eq]; omega) (fun q _ => by simp only [encK, PyData.depth, depth_ints]; show A.in1.units + 1 + (0 + 1) < cLine; unfold Around.in1; simp only; omega) fun out hlen hout => ?_))
  obtain ⟨c, hc⟩ := sortedHeap_at (vs := vs) (out := out.toArray) hoL
  have eo := refs_each hout
  have pS : (M.mergeSort (dataLe false encK)).Perm L := (List.mergeSort_perm _ _).trans pML
  have pw : (M.mergeSort (dataLe false encK)).Pairwise (fun q r => q.2 ≤ r.2) := by
    refine (List.pairwise_mergeSort (le := dataLe false encK) (fun a b c h1 h2 => ?_) (fun a b => ?_) M).imp fun {q r} h => ?_
    · rw [leK, decide_eq_true_eq] at h1 h2 ⊢
      exact List.le_trans h1 h2
    · rw [leK, leK, Bool.or_eq_true, decide_eq_true_eq, decide_eq_true_eq]
      exact List.le_total _ _
    · rw [leK, decide_eq_true_eq] at h
      exact h
  refine wpAny_pure ⟨_, rfl, hQ _ s1.heap.objs.size out.toArray c _ (fun b u e => ?_) g1 o1 hz hc eo pS pw⟩
  have q := k1 b u e
  have lt := Heap.lt_size q
  refine (sortedHeap_old (Nat.ne_of_lt lt) (by rw [size_push']; exact Nat.lt_succ_of_lt lt)).trans ?_
  exact Heap.get?_push_of_some _ q
end Cov

/-! SetB5: sets of nested tuples of ints. -/
namespace Cov.BS
open PySem PySem.Spec PyProof.Rows L2
mutual
/-- the value is the key: ints, tuples of such -/
inductive NI (h : Heap) : NestedKey → Value → Prop
  | int (i : Int) (t : Tok) : NI h (.num i) (.int i t)
  | tup {a : Addr} {o : Obj} {vs : Array Value} {n : Nat} {ks : List NestedKey} : h.get? a = some o → o.cls = .type "tuple" → o.data = .seq vs n → NIs h ks vs.toList → NI h (.tup ks) (.ref a)
inductive NIs (h : Heap) : List NestedKey → List Value → Prop
  | nil : NIs h [] []
  | cons {k : NestedKey} {v : Value} {ks : List NestedKey} {vs : List Value} : NI h k v → NIs h ks vs → NIs h (k :: ks) (v :: vs)
end
mutual
theorem NI.nested {h : Heap} : ∀ (k : NestedKey) (v : Value), NI h k v → NestedIs h k v
  | .none, _, x => by cases x
  | .num i, _, x => by cases x; exact .int _ _
  | .text _, _, x => by cases x
  | .tup ks, _, x => by cases x with | tup a b c d => exact .tup a b c (NIs.nested ks _ d)
theorem NIs.nested {h : Heap} : ∀ (ks : List NestedKey) (vs : List Value), NIs h ks vs → NestedAll h ks vs
  | [], _, x => by cases x; exact .nil
  | k :: ks, _, x => by cases x with | cons a b => exact .cons (NI.nested k _ a) (NIs.nested ks _ b)
end
mutual
theorem NI.at' {h h' : Heap} (hk : ∀ (b : Addr) (o : Obj) (vs : Array Value) (n : Nat), h.get? b = some o → o.data = .seq vs n → h'.get? b = some o) : ∀ (k : NestedKey) (v : Value), NI h k v → NI h' k v
  | .none, _, x => by cases x
  | .num i, _, x => by cases x; exact .int _ _
  | .text _, _, x => by cases x
  | .tup ks, _, x => by cases x with | tup a b c d => exact .tup (hk _ _ _ _ a c) b c (NIs.at' hk ks _ d)
theorem NIs.at' {h h' : Heap} (hk : ∀ (b : Addr) (o : Obj) (vs : Array Value) (n : Nat), h.get? b = some o → o.data = .seq vs n → h'.get? b = some o) : ∀ (ks : List NestedKey) (vs : List Value), NIs h ks vs → NIs h' ks vs
  | [], _, x => by cases x; exact .nil
  | k :: ks, _, x => by cases x with | cons a b => exact .cons (NI.at' hk k _ a) (NIs.at' hk ks _ b)
end
mutual
theorem NI.reads {h : Heap} : ∀ (k : NestedKey) (v : Value), NI h k v → PySem.Reads h v k.data []
  | .none, _, x => by cases x
  | .num i, _, x => by cases x; exact .int _ _
  | .text _, _, x => by cases x
  | .tup ks, _, x => by cases x with | tup a b c d => exact .tuple a b c (NIs.reads ks _ d)
theorem NIs.reads {h : Heap} : ∀ (ks : List NestedKey) (vs : List Value), NIs h ks vs → PySem.ReadsAll h vs (NestedKey.datas ks) []
  | [], _, x => by cases x; exact .nil
  | k :: ks, _, x => by cases x with | cons a b => exact ReadsAll.cons (as := []) (NI.reads k _ a) (NIs.reads ks _ b)
end
section
variable {P : Program} {w : World} {A : Around} {E : Value → Shared → Prop}
mutual
theorem hashBy_NI : ∀ (k : NestedKey) (v : Value) (n : Nat) (s : Shared) (Q : Bool → Shared → Prop), NI s.heap k v → k.depth ≤ n → Q true s → wpAny (model P w) A (hashByValue n v) Q E s
  | .none, _, n, s, Q, x, _, h => by cases x
  | .num i, _, n, s, Q, x, _, h => by
    cases x
    rw [hashBy_int]
    exact wpAny_pure h
  | .text _, _, n, s, Q, x, _, h => by cases x
  | .tup ks, _, 0, s, Q, x, hn, h => by simp [NestedKey.depth] at hn
  | .tup ks, _, n + 1, s, Q, x, hn, h => by
    cases x with
    | tup ho hc hd hi =>
      have hT : s.TypeIs (.ref _) "tuple" := ⟨_, ho, hc⟩
      unfold hashByValue
      refine wpAny_bind (wpAny_specialOf hT F.slot_tuple_hash.lookup ?_)
      show wpAny _ _ (seqItems? (.ref _) >>= _) _ _ s
      refine wpAny_bind (wpAny_seqItems ho hd ?_)
      refine wpAny_bind ?_
      show wpAny _ _ (forIn _ _ _) _ _ s
      rw [← Array.forIn_toList]
      simp only [NestedKey.depth] at hn
      exact hashBys_NI ks _ n s _ hi (by omega) (wpAny_pure h)
theorem hashBys_NI : ∀ (ks : List NestedKey) (vs : List Value) (n : Nat) (s : Shared) (Q : Option Bool × Unit → Shared → Prop), NIs s.heap ks vs → NestedKey.depthAll ks ≤ n → Q (none, ()) s →
    wpAny (model P w) A (forIn vs ((none, ()) : Option Bool × Unit) fun x _ => do
      let b ← hashByValue n x
      if (!b) = true then pure (ForInStep.done (some false, ())) else pure (ForInStep.yield (none, ()))) Q E s
  | [], _, n, s, Q, x, _, h => by cases x; exact wpAny_pure h
  | k :: ks, _, n, s, Q, x, hn, h => by
    cases x with
    | cons a b =>
      simp only [NestedKey.depthAll] at hn
      rw [List.forIn_cons]
      refine wpAny_bind (wpAny_bind (hashBy_NI k _ n s _ a (by omega) ?_))
      simp only [Bool.not_true, Bool.false_eq_true, if_false]
      exact wpAny_pure (hashBys_NI ks _ n s _ b (by omega) h)
end
mutual
theorem ofAClass_NI : ∀ (k : NestedKey) (v : Value) (n : Nat) (s : Shared) (Q : Bool → Shared → Prop), NI s.heap k v → k.depth ≤ n → Q false s → wpAny (model P w) A (ofAClassStatement n v) Q E s
  | .none, _, n, s, Q, x, _, h => by cases x
  | .num i, _, n, s, Q, x, _, h => by
    cases x
    rw [ofAClass_int]
    exact wpAny_pure h
  | .text _, _, n, s, Q, x, _, h => by cases x
  | .tup ks, _, 0, s, Q, x, hn, h => by simp [NestedKey.depth] at hn
  | .tup ks, _, n + 1, s, Q, x, hn, h => by
    cases x with
    | tup ho hc hd hi =>
      have hT : s.TypeIs (.ref _) "tuple" := ⟨_, ho, hc⟩
      unfold ofAClassStatement
      refine wpAny_bind (wpAny_typeOf hT ?_)
      dsimp only
      have e : (("tuple" : String) == "tuple") = true := by decide
      simp only [e, if_true, Bool.not_true, Bool.false_eq_true, if_false]
      try refine wpAny_bind (wpAny_pure ?_)
      try simp only [Bool.not_true, Bool.false_eq_true, if_false]
      show wpAny _ _ (seqItems? (.ref _) >>= _) _ _ s
      refine wpAny_bind (wpAny_seqItems ho hd ?_)
      dsimp only
      refine wpAny_bind ?_
      show wpAny _ _ (forIn _ _ _) _ _ s
      rw [← Array.forIn_toList]
      simp only [NestedKey.depth] at hn
      exact ofAClasses_NI ks _ n s _ hi (by omega) (wpAny_pure h)
theorem ofAClasses_NI : ∀ (ks : List NestedKey) (vs : List Value) (n : Nat) (s : Shared) (Q : Option Bool × Unit → Shared → Prop), NIs s.heap ks vs → NestedKey.depthAll ks ≤ n → Q (none, ()) s →
    wpAny (model P w) A (forIn vs ((none, ()) : Option Bool × Unit) fun x _ => do
      let b ← ofAClassStatement n x
      if b = true then pure (ForInStep.done (some true, ())) else pure (ForInStep.yield (none, ()))) Q E s
  | [], _, n, s, Q, x, _, h => by cases x; exact wpAny_pure h
  | k :: ks, _, n, s, Q, x, hn, h => by
    cases x with
    | cons a b =>
      simp only [NestedKey.depthAll] at hn
      rw [List.forIn_cons]
      refine wpAny_bind (wpAny_bind (ofAClass_NI k _ n s _ a (by omega) ?_))
      simp only [Bool.false_eq_true, if_false]
      exact wpAny_pure (ofAClasses_NI ks _ n s _ b (by omega) h)
end
variable {s : Shared}
theorem seen_NI {k : NestedKey} {b : Addr} {Q : Bool → Shared → Prop} (hk : NI s.heap k (.ref b)) (hd : k.depth ≤ 8) {ys : List Value} (hy : ∀ y ∈ ys, ∃ k' c, y = Value.ref c ∧ NI s.heap k' (.ref c) ∧ k'.depth ≤ 8) (h : Q false s) :
    wpAny (model P w) A (searchCouldBeSeen (.ref b) ys) Q E s := by
  unfold searchCouldBeSeen
  refine wpAny_bind ?_
  refine wpAny_forIn_list _ (fun rest r s' => r.1 = none ∧ s' = s ∧ ∀ y ∈ rest, ∃ k' c, y = Value.ref c ∧ NI s.heap k' (.ref c) ∧ k'.depth ≤ 8) _ ?_ ?_ _ _ ⟨rfl, rfl, hy⟩
  · rintro v rest r s' ⟨hr, rfl, hall⟩
    obtain ⟨k', c, rfl, hc, hd'⟩ := hall v List.mem_cons_self
    have rest' : ∀ y ∈ rest, ∃ k' c, y = Value.ref c ∧ NI s'.heap k' (.ref c) ∧ k'.depth ≤ 8 := fun u hu' => hall u (List.mem_cons_of_mem _ hu')
    dsimp only
    by_cases hv : (b == c || (carriedByValue (.ref b) && carriedByValue (.ref c))) = true
    · refine wp_if_pos hv ?_
      exact wpAny_pure ⟨rfl, rfl, rest'⟩
    · refine wp_if_neg hv ?_
      refine wpAny_bind (quiet_key k _ 8 s' (NI.nested _ _ hk) hd _ _ _ ?_)
      simp only [Bool.not_true, Bool.false_eq_true, if_false]
      refine wpAny_bind (quiet_key k' _ 8 s' (NI.nested _ _ hc) hd' _ _ _ ?_)
      simp only [Bool.not_true, Bool.false_eq_true, if_false]
      refine wpAny_bind (ofAClass_NI k _ 8 s' _ hk hd ?_)
      simp only [Bool.false_eq_true, if_false]
      refine wpAny_bind (ofAClass_NI k' _ 8 s' _ hc hd' ?_)
      simp only [Bool.false_eq_true, if_false]
      exact wpAny_pure ⟨rfl, rfl, rest'⟩
  · rintro ⟨r1, r2⟩ s' ⟨hr, rfl, _⟩
    simp only at hr
    subst hr
    exact wpAny_pure h
end
/-- keys that are told by a nested key -/
def ksN (P : Program) (w : World) {κ : Type} [DecidableEq κ] (key : κ → NestedKey) (inj : ∀ a b, key a = key b → a = b) (dep : ∀ a, (key a).depth ≤ 8) : KS P w κ where
  is := fun h k a => NI h (key k) (.ref a)
  hash := fun k => (key k).hash w
  draws := fun k => (key k).draws
  need := 8
  eqB := fun {A E s x y a b Q} hu hx hy h => eqAt_key (key x) (key y) A s _ _ (NI.nested _ _ hx) (NI.nested _ _ hy) (by have := dep x; omega) _ _ _ _ (by
    rw [← NestedKey.decide_eq]
    have e : decide (key x = key y) = decide (x = y) := decide_eq_decide.mpr ⟨inj x y, fun e => by rw [e]⟩
    rw [e]
    exact h)
  hsh := fun {A E s k a Q} hu hk h => pyHash_key _ _ _ _ _ (NI.nested _ _ hk) (by have := dep k; omega) h
  seen := fun hk hy h => seen_NI hk (dep _) (fun y m => by obtain ⟨k', c, e, n⟩ := hy y m; exact ⟨key k', c, e, n, dep k'⟩) h
  byv := fun {A E s k b Q} hk h => hashBy_NI _ _ 8 s _ hk (dep k) h
  same := fun {h h' k a b o es ep t} hk ho hd hs => NI.at' (fun c oc vs n hc hv => by
    refine (hs.2 c fun e => ?_).trans hc
    subst e
    rw [ho] at hc
    cases hc
    rw [hd] at hv
    cases hv) _ _ hk
  keep := fun hk hh => NI.at' (fun c oc vs n hc _ => hh c oc hc) _ _ hk
end Cov.BS

/-! SortN: sorted(set) of nested tuples of ints. -/
namespace Cov
open PySem PySem.Calls PyProof.Rows PySem.W L2
section
variable {P : Program} {w : World} {A : Around} {E : Value → Shared → Prop} {s : Shared} {κ : Type} [DecidableEq κ] [DatumOrd κ] {key : κ → NestedKey} {inj : ∀ a b, key a = key b → a = b} {dep : ∀ a, (key a).depth ≤ 8}
theorem each_refsN {R : Value → Addr × κ → Prop} : ∀ {L : List (Addr × κ)}, (∀ q ∈ L, R (.ref q.1) q) → EachIs R (L.map fun q => Value.ref q.1) L
  | [], _ => .nil
  | q :: L, h => .cons (h q List.mem_cons_self) (each_refsN fun r hr => h r (List.mem_cons_of_mem _ hr))
theorem refs_eachN : ∀ {vs : List Value} {L : List (Addr × κ)}, EachIs (fun v q => v = Value.ref q.1) vs L → vs = L.map fun q => Value.ref q.1
  | _, _, .nil => rfl
  | _, _, .cons e t => by rw [e, refs_eachN t]; rfl
theorem sorted_setN (hdat : ∀ k, (key k).data = Datum.toD k) (hne : ∀ k : κ, ∃ x r, Datum.toD k = .tuple (x :: r)) (hdp : ∀ k : κ, (Datum.toD k).depth ≤ 8) (hST : STO (DatumOrd.lt (α := κ))) {a : Addr} {L : List (Addr × κ)} {es : Array (Int × Value)} {ep : Nat} {t : SetTable} {Q : Value → Shared → Prop} (R : BS.Holds (BS.ksN P w key inj dep) s.heap a L es ep t) (hh : A.handled = none) (hu : A.units + 64 < cLine) (hfew : L.length ≤ 4095)
    (hQ : ∀ s' p (out : Array Value) (c : Nat) (L' : List (Addr × κ)), (∀ b o, s.heap.get? b = some o → s'.heap.get? b = some o) → s'.gens = s.gens → s'.os = s.os → s.heap.objs.size ≤ p →
      s'.heap.get? p = some (seqObj "list" out c) → out.toList = L'.map (fun q => Value.ref q.1) → L'.Perm L → L'.Pairwise (fun q r => DatumOrd.lt r.2 q.2 = false) → Q (.ref p) s') :
    wpAny (model P w) A (call (.builtin "sorted") [.ref a]) Q E s := by
  obtain ⟨o, ho, hex, hd⟩ := R.obj
  have hsz2 := R.cnt
  refine Calls.call_function_entry kind_sorted plain_sorted entry_sorted (args_sorted1 _) ?_
  unfold Builtin.«sorted»
  refine wpAny_bind (m := checkCount "sorted" 1 1 _)  (wpAny_pure ?_)
  refine wpAny_bind (collect_set (A := A.in1) hh ⟨o, ho, hex.1, hd⟩ R.fit (by unfold scanBound; omega) R.tab.up R.led fun s1 vs k1 hz g1 o1 pm => ?_)
  have e0 : es.toList.map (·.2) = L.map fun q => Value.ref q.1 := by rw [R.rws, BS.rows, List.map_map] <;> rfl
  rw [e0] at pm
  have mem : ∀ v ∈ vs, ∃ q ∈ L, Value.ref q.1 = v := fun v hv => List.mem_map.mp (pm.mem_iff.mp hv)
  have pick : ∀ us : List Value, (∀ v ∈ us, ∃ q ∈ L, Value.ref q.1 = v) → ∃ M : List (Addr × κ), us = M.map (fun q => Value.ref q.1) ∧ ∀ q ∈ M, q ∈ L := by
    intro us
    induction us with
    | nil => exact fun _ => ⟨[], rfl, fun q z => (nomatch z)⟩
    | cons v us ih =>
      intro hv
      obtain ⟨q, hq, e⟩ := hv v List.mem_cons_self
      obtain ⟨M, e1, hM⟩ := ih fun u z => hv u (List.mem_cons_of_mem _ z)
      exact ⟨q :: M, by rw [List.map_cons, e, e1], fun r z => (List.mem_cons.mp z).elim (fun y => y ▸ hq) (hM r)⟩
  obtain ⟨M, eM, hM⟩ := pick vs mem
  have uniq : ∀ q ∈ L, ∀ r ∈ L, q.1 = r.1 → q = r := fun q hq r hr e => by
    have b1 := R.keys q hq
    rw [e] at b1
    exact Prod.ext e (inj _ _ (NestedIs.inj _ _ _ (BS.NI.nested _ _ b1) (BS.NI.nested _ _ (R.keys r hr))))
  have pML : M.Perm L := by
    have nL : L.Nodup := nodup_of_map R.once
    have nr : (L.map fun q => Value.ref q.1).Nodup := List.pairwise_map.mpr (List.Pairwise.imp_of_mem (fun {q r} hq hr hne e => by
      injection e with e
      exact hne (uniq q hq r hr e)) nL)
    rw [eM] at pm
    have nM : M.Nodup := nodup_of_map (pm.nodup_iff.mpr nr)
    refine (List.perm_ext_iff_of_nodup nM nL).mpr fun q => ⟨hM q, fun hq => ?_⟩
    obtain ⟨r, hr, e⟩ := List.mem_map.mp (pm.mem_iff.mpr (List.mem_map.mpr ⟨q, hq, rfl⟩))
    injection e with e
    exact uniq r (hM r hr) q hq e ▸ hr
  have hvl : vs.length ≤ 4095 := by rw [eM, List.length_map, pML.length_eq]; exact hfew
  refine wpAny_bind (wpAny_newList ?_ (show vs.toArray.size ≤ sizeLine by rw [sizeLine_eq]; simp; omega))
  have hoL : (s1.heap.push (seqObj "list" vs.toArray 0)).get? s1.heap.objs.size = some (seqObj "list" vs.toArray 0) := Heap.get?_push_size _ rfl
  have er : EachIs (fun v q => ∃ as, Reads (s1.heap.push (seqObj "list" vs.toArray 0)) v (Datum.toD q.2) as ∧ s1.heap.objs.size ∉ as) vs M := by
    rw [eM]
    exact each_refsN fun q hq => ⟨[], by
      have kq := (BS.ksN P w key inj dep).keep (R.keys q (hM q hq)) fun b u e => Heap.get?_push_of_some (seqObj "list" vs.toArray 0) (k1 b u e)
      have rq := BS.NI.reads _ _ kq
      rw [hdat] at rq
      exact eM ▸ rq, fun z => nomatch z⟩
  have e1 : EachIs (fun v (q : Addr × κ) => v = Value.ref q.1) vs M := by
    rw [eM]
    exact each_refsN fun _ _ => rfl
  refine wpAny_bind (wpAny_holding (list_sort_data (s := { s1 with heap := s1.heap.push (seqObj "list" vs.toArray 0) }) (enc := fun q : Addr × κ => Datum.toD q.2) hoL e1 er (AllAlike.of fun q r => DatumOrd.alike q.2 r.2)
    (.inl fun d hd => by obtain ⟨q, hq, rfl⟩ := List.mem_map.mp hd; exact hne q.2) (by rw [pML.length_eq, sizeLine_eq]; omega) (fun q _ => by have := hdp q.2; show A.in1.units + 1 + _ < cLine; unfold Around.in1; simp only; omega) fun out hlen hout => ?_))
  obtain ⟨c, hc⟩ := sortedHeap_at (vs := vs) (out := out.toArray) hoL
  have eo := refs_eachN hout
  have pS : (M.mergeSort (dataLe false (fun q : Addr × κ => Datum.toD q.2))).Perm L := (List.mergeSort_perm _ _).trans pML
  have leN : ∀ q r : Addr × κ, dataLe false (fun q : Addr × κ => Datum.toD q.2) q r = !DatumOrd.lt r.2 q.2 := fun q r => by
    show (!dataLt (Datum.toD r.2) (Datum.toD q.2)) = _
    rw [DatumOrd.lt_eq]
  have pw : (M.mergeSort (dataLe false (fun q : Addr × κ => Datum.toD q.2))).Pairwise (fun q r => DatumOrd.lt r.2 q.2 = false) := by
    refine (List.pairwise_mergeSort (le := dataLe false (fun q : Addr × κ => Datum.toD q.2)) (fun a b c h1 h2 => ?_) (fun a b => ?_) M).imp fun {q r} h => ?_
    · rw [leN, Bool.not_eq_true'] at h1 h2 ⊢
      cases h3 : DatumOrd.lt c.2 a.2 with
      | false => rfl
      | true =>
        rcases hST.tot a.2 b.2 with e | e | e
        · have := hST.trans h3 e
          rw [h2] at this
          cases this
        · rw [e, h2] at h3
          cases h3
        · rw [h1] at e
          cases e
    · rw [leN, leN]
      cases h3 : DatumOrd.lt b.2 a.2 with
      | false => rfl
      | true =>
        cases h4 : DatumOrd.lt a.2 b.2 with
        | false => rfl
        | true =>
          have := hST.trans h3 h4
          rw [hST.irr] at this
          cases this
    · rw [leN, Bool.not_eq_true'] at h
      exact h
  refine wpAny_pure ⟨_, rfl, hQ _ s1.heap.objs.size out.toArray c _ (fun b u e => ?_) g1 o1 hz hc eo pS pw⟩
  have q := k1 b u e
  have lt := Heap.lt_size q
  refine (sortedHeap_old (Nat.ne_of_lt lt) (by rw [size_push']; exact Nat.lt_succ_of_lt lt)).trans ?_
  exact Heap.get?_push_of_some _ q
end
end Cov

/-! SetC: sets of configurations, over the layer. -/
namespace Cov
open PySem PySem.Calls PyProof.Rows PySem.W L2
mutual
/-- an int, or a tuple of such, over the layer -/
def NV (K : PySem.W.Frag) (F : Hp) : D → V → Prop
  | .int i, v => v = .int i
  | .tup ds, v => ∃ a vs, v = .ref a ∧ SqT K F a vs ∧ NVs K F ds vs
  | _, _ => False
def NVs (K : PySem.W.Frag) (F : Hp) : List D → List V → Prop
  | [], vs => vs = []
  | d :: ds, vs => ∃ v vr, vs = v :: vr ∧ NV K F d v ∧ NVs K F ds vr
end
mutual
def nD : D → Bool
  | .int _ => true
  | .tup ds => nDs ds
  | _ => false
def nDs : List D → Bool
  | [] => true
  | d :: ds => nD d && nDs ds
end
mutual
def keyD : D → NestedKey
  | .int i => .num i
  | .tup ds => .tup (keysD ds)
  | _ => .none
def keysD : List D → List NestedKey
  | [] => []
  | d :: ds => keyD d :: keysD ds
end
section
variable {K : PySem.W.Frag} {CL : CLT} {F F' H : Hp}
mutual
theorem nv_rep : ∀ {d : D} {v : V} {fp : List Addr}, nD d = true → Rep K CL F H d v fp → NV K F d v
  | .int i, v, fp, _, h => by simp only [Rep] at h; simp only [NV]; exact h.1
  | .tup ds, v, fp, n, h => by
    simp only [Rep] at h
    simp only [nD] at n
    simp only [NV]
    obtain ⟨_, a, vs, e, q, r⟩ := h
    exact ⟨a, vs, e, q, nvs_rep n r⟩
  | .non, _, _, n, _ => by simp [nD] at n
  | .bl _, _, _, n, _ => by simp [nD] at n
  | .str _, _, _, n, _ => by simp [nD] at n
  | .ty _, _, _, n, _ => by simp [nD] at n
  | .lst _ _, _, _, n, _ => by simp [nD] at n
  | .own _, _, _, n, _ => by simp [nD] at n
  | .ins _ _ _ _, _, _, n, _ => by simp [nD] at n
  | .dic _ _ _, _, _, n, _ => by simp [nD] at n
theorem nvs_rep : ∀ {ds : List D} {vs : List V} {fp : List Addr}, nDs ds = true → Reps K CL F H ds vs fp → NVs K F ds vs
  | [], vs, fp, _, h => by simp only [Reps] at h; simp only [NVs]; exact h.1
  | d :: ds, vs, fp, n, h => by
    simp only [Reps] at h
    simp only [nDs, Bool.and_eq_true] at n
    simp only [NVs]
    obtain ⟨v, vr, f1, f2, e, _, r1, r2⟩ := h
    exact ⟨v, vr, e, nv_rep n.1 r1, nvs_rep n.2 r2⟩
end
mutual
theorem rep_nv : ∀ {d : D} {v : V}, NV K F d v → Rep K CL F H d v []
  | .int i, v, h => by simp only [NV] at h; subst h; exact rep_int
  | .tup ds, v, h => by
    simp only [NV] at h
    obtain ⟨a, vs, e, q, r⟩ := h
    simp only [Rep]
    exact ⟨trivial, a, vs, e, q, reps_nv r⟩
  | .non, _, h => by simp [NV] at h
  | .bl _, _, h => by simp [NV] at h
  | .str _, _, h => by simp [NV] at h
  | .ty _, _, h => by simp [NV] at h
  | .lst _ _, _, h => by simp [NV] at h
  | .own _, _, h => by simp [NV] at h
  | .ins _ _ _ _, _, h => by simp [NV] at h
  | .dic _ _ _, _, h => by simp [NV] at h
theorem reps_nv : ∀ {ds : List D} {vs : List V}, NVs K F ds vs → Reps K CL F H ds vs []
  | [], vs, h => by simp only [NVs] at h; subst h; exact Reps.nil
  | d :: ds, vs, h => by
    simp only [NVs] at h
    obtain ⟨v, vr, e, r1, r2⟩ := h
    simp only [Reps]
    exact ⟨v, vr, [], [], e, rfl, rep_nv r1, reps_nv r2⟩
end
mutual
theorem nv_mono (m : Sub F F') : ∀ {d : D} {v : V}, NV K F d v → NV K F' d v
  | .int i, v, h => by simp only [NV] at h ⊢; exact h
  | .tup ds, v, h => by
    simp only [NV] at h ⊢
    obtain ⟨a, vs, e, q, r⟩ := h
    exact ⟨a, vs, e, sqT_mono m q, nvs_mono m r⟩
  | .non, _, h => by simp [NV] at h
  | .bl _, _, h => by simp [NV] at h
  | .str _, _, h => by simp [NV] at h
  | .ty _, _, h => by simp [NV] at h
  | .lst _ _, _, h => by simp [NV] at h
  | .own _, _, h => by simp [NV] at h
  | .ins _ _ _ _, _, h => by simp [NV] at h
  | .dic _ _ _, _, h => by simp [NV] at h
theorem nvs_mono (m : Sub F F') : ∀ {ds : List D} {vs : List V}, NVs K F ds vs → NVs K F' ds vs
  | [], vs, h => by simp only [NVs] at h ⊢; exact h
  | d :: ds, vs, h => by
    simp only [NVs] at h ⊢
    obtain ⟨v, vr, e, r1, r2⟩ := h
    exact ⟨v, vr, e, nv_mono m r1, nvs_mono m r2⟩
end
end
section
variable {X : Cx} {pins : List (Addr × Obj)} {σ : L2.St} {H : Hp} {s : Shared}
mutual
theorem nv_ni (I : Inv X pins σ H s) : ∀ {d : D} {v : V} {u : Value}, NV X.K H d v → RelV v u → BS.NI s.heap (keyD d) u
  | .int i, v, u, h, r => by
    simp only [NV] at h
    subst h
    obtain ⟨t, e⟩ : ∃ t, u = .int i t := r
    subst e
    simp only [keyD]
    exact .int _ _
  | .tup ds, v, u, h, r => by
    simp only [NV] at h
    obtain ⟨a, vs, e, q, h2⟩ := h
    subst e
    obtain rfl : u = .ref a := r
    obtain ⟨its, rv, ⟨o, ho, hc, n, hd⟩, _⟩ := I.tuple q
    simp only [keyD]
    exact .tup ho hc hd (by simpa using nvs_ni I h2 rv)
  | .non, _, _, h, _ => by simp [NV] at h
  | .bl _, _, _, h, _ => by simp [NV] at h
  | .str _, _, _, h, _ => by simp [NV] at h
  | .ty _, _, _, h, _ => by simp [NV] at h
  | .lst _ _, _, _, h, _ => by simp [NV] at h
  | .own _, _, _, h, _ => by simp [NV] at h
  | .ins _ _ _ _, _, _, h, _ => by simp [NV] at h
  | .dic _ _ _, _, _, h, _ => by simp [NV] at h
theorem nvs_ni (I : Inv X pins σ H s) : ∀ {ds : List D} {vs : List V} {us : List Value}, NVs X.K H ds vs → Vals vs us → BS.NIs s.heap (keysD ds) us
  | [], vs, us, h, r => by
    simp only [NVs] at h
    subst h
    cases r
    exact .nil
  | d :: ds, vs, us, h, r => by
    simp only [NVs] at h
    obtain ⟨v, vr, e, r1, r2⟩ := h
    subst e
    cases r with
    | cons a b => exact .cons (nv_ni I r1 a) (nvs_ni I r2 b)
end
end
/-! configurations -/
def keyC (c : Cf) : NestedKey := keyD (cfD c)
theorem nDs_ints : ∀ l : List Int, nDs (l.map D.int) = true
  | [] => rfl
  | x :: l => by simp only [List.map_cons, nDs, nD, Bool.true_and]; exact nDs_ints l
theorem nDs_tups : ∀ l : List (Tup Int), nDs (l.map fun t => D.tup (t.items.map D.int)) = true
  | [] => rfl
  | t :: l => by simp only [List.map_cons, nDs, nD, nDs_ints, Bool.true_and]; exact nDs_tups l
theorem nD_cf (c : Cf) : nD (cfD c) = true := by simp only [cfD, nD, nDs, nDs_ints, nDs_tups, Bool.and_true]
theorem dat_ints : ∀ l : List Int, NestedKey.datas (keysD (l.map D.int)) = l.map Datum.toD
  | [] => rfl
  | x :: l => by simp only [List.map_cons, keysD, keyD, NestedKey.datas, NestedKey.data, dat_ints l]; rfl
theorem dat_tups : ∀ l : List (Tup Int), NestedKey.datas (keysD (l.map fun t => D.tup (t.items.map D.int))) = l.map Datum.toD
  | [] => rfl
  | t :: l => by simp only [List.map_cons, keysD, keyD, NestedKey.datas, NestedKey.data, dat_ints, dat_tups l]; rfl
theorem keyC_dat (c : Cf) : (keyC c).data = Datum.toD c := by
  simp only [keyC, cfD, keyD, keysD, NestedKey.data, NestedKey.datas, dat_ints, dat_tups]
  rfl
theorem keyC_inj (a b : Cf) (h : keyC a = keyC b) : a = b := by
  have e := congrArg NestedKey.data h
  rw [keyC_dat, keyC_dat] at e
  have h1 := Datum.eqv a b
  have h2 := Datum.eqv b b
  rw [e, h2] at h1
  simpa using h1.symm
theorem dep_ints : ∀ l : List Int, NestedKey.depthAll (keysD (l.map D.int)) = 0
  | [] => rfl
  | x :: l => by simp only [List.map_cons, keysD, keyD, NestedKey.depthAll, NestedKey.depth, dep_ints l]; rfl
theorem dep_tups : ∀ l : List (Tup Int), NestedKey.depthAll (keysD (l.map fun t => D.tup (t.items.map D.int))) ≤ 1
  | [] => by simp [keysD, NestedKey.depthAll]
  | t :: l => by
    have := dep_tups l
    simp only [List.map_cons, keysD, keyD, NestedKey.depthAll, NestedKey.depth, dep_ints]
    omega
theorem keyC_dep (c : Cf) : (keyC c).depth ≤ 8 := by
  have := dep_tups c.2.items
  simp only [keyC, cfD, keyD, keysD, NestedKey.depth, NestedKey.depthAll, dep_ints]
  omega
def ksC (P : Program) (w : World) : BS.KS P w Cf := BS.ksN P w keyC keyC_inj keyC_dep
theorem sto_cf : STO ltC := sto_pair (sto_tup sto_int) (sto_tup (sto_tup sto_int))
abbrev jC (K : PySem.W.Frag) (H : Hp) (a : Addr) (c : Cf) : Prop := NV K H (cfD c) (.ref a)
theorem cr_setC {X : Cx} (hc : X.calm = true) (hu : X.A.units + 64 < cLine) : CallR X (.type "set") (BS.rSetB (ksC X.prog X.w) (jC X.K) X.K) := BS.cr_setB (ksC X.prog X.w) (jC X.K) (fun I h => nv_ni I h rfl) hc (by show X.A.units + 5 + 8 < cLine; omega)
def rSortedC (K : PySem.W.Frag) (P : Program) (w : World) : List V → Hp → VK → Prop := fun vs H Q => ∃ (a : Addr) (L : List (Addr × Cf)), vs = [V.ref a] ∧ H a = some (BS.setO (ksC P w) a L) ∧ (∀ p ∈ L, jC K H p.1 p.2) ∧ L.length ≤ 4095 ∧
  ∀ (L' : List (Addr × Cf)) (p : Addr), L'.Perm L → (L'.map (·.2)).Nodup → L'.Pairwise (fun q r => ltC r.2 q.2 = false) → H p = none → Q (.ref p) (upd H p (.lst (L'.map fun q => V.ref q.1)))
theorem vals_refsC : ∀ L : List (Addr × Cf), Vals (L.map fun q => V.ref q.1) (L.map fun q => Value.ref q.1)
  | [] => .nil
  | q :: L => .cons rfl (vals_refsC L)
theorem depC (c : Cf) : (Datum.toD c).depth ≤ 8 := Nat.le_trans (Datum.depth_le c) (by decide)
theorem cr_sortedC {X : Cx} (hc : X.calm = true) (hu : X.A.units + 64 < cLine) : CallR X (.builtin "sorted") (rSortedC X.K X.prog X.w) := by
  intro pins s σ H vs us Q I r h
  obtain ⟨a, L, rfl, ha, hk, hfew, q⟩ := h
  have R0 : BS.Shell (ksC X.prog X.w) s.heap a L := (I.hok a _ ha).1
  obtain ⟨es, ep, t, R⟩ := R0.full fun p hp => nv_ni I (hk p hp) rfl
  rw [Vals.ref1 r]
  refine sorted_setN keyC_dat (fun k => ⟨_, _, rfl⟩) depC sto_cf R (I.ok.hd hc) hu hfew fun s' p out c L' k g o hp hg hout pm pw => ?_
  have few : L'.length ≤ 4095 := by rw [pm.length_eq]; exact hfew
  have hl : (L'.map fun q => V.ref q.1).length ≤ sizeLine := by rw [List.length_map, sizeLine_eq]; omega
  have hn : H p = none := I.hok.fresh hp
  have hv : Vals (L'.map fun q => V.ref q.1) out.toList := by rw [hout]; exact vals_refsC L'
  have J : Inv X pins σ (upd H p (.lst (L'.map fun q => V.ref q.1))) { s with heap := s'.heap, gens := s'.gens, drawn := s'.drawn, toks := s'.toks } :=
    I.call (ch := []) (Un.laid k hp hn) (I.hok.laid k hp ⟨hl, out.toList, c, hv, hg⟩) (by rw [g]; exact I.bare) fun _ z => (nomatch z)
  have e : s' = { s with heap := s'.heap, gens := s'.gens, drawn := s'.drawn, toks := s'.toks } := by
    cases s'; cases s; cases o; rfl
  rw [e]
  exact ⟨.ref p, _, J, rfl, q L' p pm ((pm.map (·.2)).nodup_iff.mpr R.once) pw hn⟩
end Cov

/-! Cov13: sorted lists of tuples of ints, each once. -/
namespace Cov
open PySem L2
/-! ### the order -/
theorem ltT_irr : ∀ x : List Int, ltT x x = false
  | [] => rfl
  | x :: xs => by simp [ltT, ltT_irr xs]
theorem ltT_tot : ∀ x y : List Int, ltT x y = true ∨ x = y ∨ ltT y x = true
  | [], [] => .inr (.inl rfl)
  | [], _ :: _ => .inl rfl
  | _ :: _, [] => .inr (.inr rfl)
  | x :: xs, y :: ys => by
    simp only [ltT]
    rcases Int.lt_trichotomy x y with h | h | h
    · have : x ≠ y := by omega
      simp [this, h]
    · subst h
      simp only [if_true]
      rcases ltT_tot xs ys with h | h | h
      · exact .inl h
      · exact .inr (.inl (by rw [h]))
      · exact .inr (.inr h)
    · have : y ≠ x := by omega
      simp [this, h]
theorem ltT_trans : ∀ {x y z : List Int}, ltT x y = true → ltT y z = true → ltT x z = true
  | [], [], _, h, _ => by simp [ltT] at h
  | [], _ :: _, [], _, h => by simp [ltT] at h
  | [], _ :: _, _ :: _, _, _ => rfl
  | _ :: _, [], _, h, _ => by simp [ltT] at h
  | _ :: _, _ :: _, [], _, h => by simp [ltT] at h
  | x :: xs, y :: ys, z :: zs, h1, h2 => by
    simp only [ltT] at h1 h2 ⊢
    by_cases e1 : x = y
    · subst e1
      rw [if_pos rfl] at h1
      by_cases e2 : x = z
      · rw [if_pos e2] at h2 ⊢
        exact ltT_trans h1 h2
      · rw [if_neg e2] at h2 ⊢
        exact h2
    · rw [if_neg e1] at h1
      have h1 := of_decide_eq_true h1
      by_cases e2 : y = z
      · subst e2
        rw [if_neg e1]
        exact decide_eq_true h1
      · rw [if_neg e2] at h2
        have h2 := of_decide_eq_true h2
        rw [if_neg (by omega)]
        exact decide_eq_true (by omega)
theorem mem_insT {x y : List Int} : ∀ {l : List (List Int)}, y ∈ insT x l ↔ y = x ∨ y ∈ l
  | [] => by simp [insT]
  | z :: l => by
    simp only [insT]
    split
    · rename_i h
      subst h
      simp
    · split
      · simp
      · simp only [List.mem_cons, mem_insT]
        constructor
        · rintro (h | h | h) <;> simp [h]
        · rintro (h | h | h) <;> simp [h]
theorem mem_sortT {y : List Int} : ∀ {l : List (List Int)}, y ∈ sortT l ↔ y ∈ l
  | [] => by simp [sortT]
  | x :: l => by simp only [sortT, mem_insT, mem_sortT, List.mem_cons]
theorem insT_pw {x : List Int} : ∀ {l : List (List Int)}, l.Pairwise (fun a b => ltT a b = true) → (insT x l).Pairwise (fun a b => ltT a b = true)
  | [], _ => by simp [insT]
  | z :: l, h => by
    have hz := List.pairwise_cons.mp h
    simp only [insT]
    split
    · exact h
    · rename_i hne
      split
      · rename_i hlt
        refine List.pairwise_cons.mpr ⟨fun b hb => ?_, h⟩
        rcases List.mem_cons.mp hb with e | e
        · rw [e]; exact hlt
        · exact ltT_trans hlt (hz.1 b e)
      · rename_i hlt
        refine List.pairwise_cons.mpr ⟨fun b hb => ?_, insT_pw hz.2⟩
        rcases mem_insT.mp hb with e | e
        · subst e
          rcases ltT_tot b z with q | q | q
          · exact absurd q hlt
          · exact absurd q hne
          · exact q
        · exact hz.1 b e
theorem sortT_pw : ∀ (l : List (List Int)), (sortT l).Pairwise (fun a b => ltT a b = true)
  | [] => List.Pairwise.nil
  | x :: l => insT_pw (sortT_pw l)
/-- what is sorted strictly is known by its members -/
theorem pw_unique : ∀ {a b : List (List Int)}, a.Pairwise (fun a b => ltT a b = true) → b.Pairwise (fun a b => ltT a b = true) → (∀ x, x ∈ a ↔ x ∈ b) → a = b
  | [], [], _, _, _ => rfl
  | [], y :: _, _, _, h => absurd ((h y).mpr List.mem_cons_self) (by simp)
  | x :: _, [], _, _, h => absurd ((h x).mp List.mem_cons_self) (by simp)
  | x :: a, y :: b, ha, hb, h => by
    obtain ⟨ha1, ha2⟩ := List.pairwise_cons.mp ha
    obtain ⟨hb1, hb2⟩ := List.pairwise_cons.mp hb
    have exy : x = y := by
      rcases List.mem_cons.mp ((h x).mp List.mem_cons_self) with e | e
      · exact e
      · rcases List.mem_cons.mp ((h y).mpr List.mem_cons_self) with e2 | e2
        · exact e2.symm
        · have := ltT_trans (hb1 x e) (ha1 y e2)
          rw [ltT_irr] at this
          cases this
    subst exy
    rw [pw_unique ha2 hb2 fun z => ?_]
    constructor
    · intro hz
      rcases List.mem_cons.mp ((h z).mp (List.mem_cons_of_mem _ hz)) with e | e
      · subst e
        have := ha1 z hz
        rw [ltT_irr] at this
        cases this
      · exact e
    · intro hz
      rcases List.mem_cons.mp ((h z).mpr (List.mem_cons_of_mem _ hz)) with e | e
      · subst e
        have := hb1 z hz
        rw [ltT_irr] at this
        cases this
      · exact e
theorem code_ltT {B : Int} : ∀ {x y : List Int}, x.length = y.length → TS.Bd B x → TS.Bd B y → ltT x y = true → TS.code B x < TS.code B y
  | [], [], _, _, _, h => by simp [ltT] at h
  | [], _ :: _, h, _, _, _ => by simp at h
  | _ :: _, [], h, _, _, _ => by simp at h
  | x :: xs, y :: ys, hl, hx, hy, h => by
    have hl' : xs.length = ys.length := by simpa using hl
    simp only [ltT] at h
    by_cases e : x = y
    · subst e
      rw [if_pos rfl] at h
      exact (TS.code_same hl').mpr (code_ltT hl' hx.tail hy.tail h)
    · rw [if_neg e] at h
      exact TS.code_lt hl' hx.tail hy.tail (of_decide_eq_true h)
theorem ltT_of_code {B : Int} {x y : List Int} (hl : x.length = y.length) (hx : TS.Bd B x) (hy : TS.Bd B y) (h : TS.code B x ≤ TS.code B y) (ne : x ≠ y) : ltT x y = true := by
  rcases ltT_tot x y with q | q | q
  · exact q
  · exact absurd q ne
  · have := code_ltT hl.symm hy hx q
    omega
theorem bound_of : ∀ (ts : List (List Int)), (∀ t ∈ ts, ∀ x ∈ t, (0 : Int) ≤ x) → ∃ B : Int, ∀ t ∈ ts, TS.Bd B t := by
  have one : ∀ t : List Int, (∀ x ∈ t, (0 : Int) ≤ x) → ∃ B : Int, 0 ≤ B ∧ TS.Bd B t := by
    intro t
    induction t with
    | nil => exact fun _ => ⟨0, Int.le_refl _, fun x hx => nomatch hx⟩
    | cons x t ih =>
      intro h
      obtain ⟨B, b0, hB⟩ := ih fun y hy => h y (List.mem_cons_of_mem _ hy)
      have hx := h x List.mem_cons_self
      refine ⟨B + x + 1, by omega, fun y hy => ?_⟩
      rcases List.mem_cons.mp hy with e | e
      · subst e; omega
      · have := hB y e; omega
  intro ts
  induction ts with
  | nil => exact fun _ => ⟨0, fun t ht => nomatch ht⟩
  | cons t ts ih =>
    intro h
    obtain ⟨B, hB⟩ := ih fun t ht => h t (List.mem_cons_of_mem _ ht)
    obtain ⟨C, c0, hC⟩ := one t (h t List.mem_cons_self)
    refine ⟨max B C, fun u hu x hx => ?_⟩
    rcases List.mem_cons.mp hu with e | e
    · subst e
      have := hC x hx
      omega
    · have := hB u e x hx
      omega

/-! ### sorted(set(xs)) -/
section
variable {K : PySem.W.Frag} {CL : CLT} {F H : Hp}
theorem intsOf_some : ∀ {ds : List D} {is : List Int}, intsOf ds = some is → ds = is.map D.int
  | [], is, h => by simp only [intsOf, Option.some.injEq] at h; subst h; rfl
  | d :: ds, is, h => by
    simp only [intsOf, Option.bind_eq_some_iff, Option.map_eq_some_iff] at h
    obtain ⟨i, e1, js, e2, rfl⟩ := h
    cases d <;> simp only [intOf] at e1 <;> cases e1
    rw [intsOf_some e2]
    rfl
theorem tupsOf_some : ∀ {ds : List D} {ts : List (List Int)}, tupsOf ds = some ts → ds = ts.map tupI
  | [], ts, h => by simp only [tupsOf, Option.some.injEq] at h; subst h; rfl
  | d :: ds, ts, h => by
    simp only [tupsOf, Option.bind_eq_some_iff, Option.map_eq_some_iff] at h
    obtain ⟨t, e1, us, e2, rfl⟩ := h
    cases d <;> simp only [tupOf] at e1 <;> first | cases e1 | skip
    rw [intsOf_some e1, tupsOf_some e2]
    rfl
theorem reps_ints : ∀ {is : List Int} {vs : List V} {fp : List Addr}, Reps K CL F H (is.map D.int) vs fp → vs = is.map V.int
  | [], vs, fp, h => by simp only [List.map_nil, Reps] at h; exact h.1
  | i :: is, vs, fp, h => by
    simp only [List.map_cons, Reps] at h
    obtain ⟨v, vr, f1, f2, rfl, _, r1, r2⟩ := h
    rw [r1.int_, reps_ints r2]
    rfl
theorem reps_of_ints : ∀ (is : List Int), Reps K CL F H (is.map D.int) (is.map V.int) []
  | [] => Reps.nil
  | i :: is => by
    simp only [List.map_cons, Reps]
    exact ⟨_, _, [], [], rfl, rfl, rep_int, reps_of_ints is⟩
theorem reps_tups : ∀ {ts : List (List Int)} {vs : List V} {fp : List Addr}, Reps K CL F H (ts.map tupI) vs fp → ∃ ks : List (Addr × List Int), vs = ks.map (fun p => V.ref p.1) ∧ ts = ks.map (·.2) ∧ ∀ p ∈ ks, SqT K F p.1 (p.2.map V.int)
  | [], vs, fp, h => by
    simp only [List.map_nil, Reps] at h
    exact ⟨[], h.1, rfl, fun _ z => nomatch z⟩
  | t :: ts, vs, fp, h => by
    simp only [List.map_cons, Reps] at h
    obtain ⟨v, vr, f1, f2, rfl, _, r1, r2⟩ := h
    obtain ⟨ks, e1, e2, hk⟩ := reps_tups r2
    simp only [tupI, Rep] at r1
    obtain ⟨_, a, ws, rfl, q, rr⟩ := r1
    have ew := reps_ints rr
    subst ew
    refine ⟨(a, t) :: ks, by rw [e1]; rfl, by rw [e2]; rfl, fun p hp => ?_⟩
    rcases List.mem_cons.mp hp with e | e
    · subst e; exact q
    · exact hk p e
theorem reps_mk : ∀ (ks : List (Addr × List Int)), (∀ p ∈ ks, SqT K F p.1 (p.2.map V.int)) → Reps K CL F H ((ks.map (·.2)).map tupI) (ks.map fun p => V.ref p.1) []
  | [], _ => Reps.nil
  | p :: ks, h => by
    simp only [List.map_cons, Reps]
    refine ⟨_, _, [], [], rfl, rfl, ?_, reps_mk ks fun q hq => h q (List.mem_cons_of_mem _ hq)⟩
    simp only [tupI, Rep]
    exact ⟨trivial, p.1, _, rfl, h p List.mem_cons_self, reps_of_ints _⟩
theorem lt_ltT : ∀ {x y : List Int}, ltT x y = true → x < y
  | [], [], h => by simp [ltT] at h
  | [], _ :: _, _ => by simp
  | _ :: _, [], h => by simp [ltT] at h
  | x :: xs, y :: ys, h => by
    simp only [ltT] at h
    by_cases e : x = y
    · subst e
      rw [if_pos rfl] at h
      exact List.cons_lt_cons_iff.mpr (.inr ⟨rfl, lt_ltT h⟩)
    · rw [if_neg e] at h
      exact List.cons_lt_cons_iff.mpr (.inl (of_decide_eq_true h))
theorem ltT_le {x y : List Int} (h : x ≤ y) (ne : x ≠ y) : ltT x y = true := by
  rcases ltT_tot x y with q | q | q
  · exact q
  · exact (ne q).elim
  · exact (List.not_lt.mpr h (lt_ltT q)).elim
def rSortedD (K : PySem.W.Frag) (P : Program) (w : World) : List V → Hp → VK → Prop := fun vs H Q => ∃ (a : Addr) (L : List (Addr × List Int)), vs = [V.ref a] ∧ H a = some (BS.setO (BS.ksT P w) a L) ∧ (∀ p ∈ L, SqT K H p.1 (p.2.map V.int)) ∧ (∀ p ∈ L, p.2 ≠ []) ∧ L.length ≤ 4095 ∧
  ∀ (L' : List (Addr × List Int)) (p : Addr), L'.Perm L → (L'.map (·.2)).Nodup → L'.length ≤ 4095 → L'.Pairwise (fun q r => q.2 ≤ r.2) → H p = none → Q (.ref p) (upd H p (.lst (L'.map fun q => V.ref q.1)))
theorem cr_sortedD {X : Cx} (hc : X.calm = true) (hu : X.A.units + 64 < cLine) : CallR X (.builtin "sorted") (rSortedD X.K X.prog X.w) := by
  intro pins s σ H vs us Q I r h
  obtain ⟨a, L, rfl, ha, hk, hd, hfew, q⟩ := h
  have R0 : BS.Shell (BS.ksT X.prog X.w) s.heap a L := (I.hok a _ ha).1
  obtain ⟨es, ep, t, R⟩ := R0.full fun p hp => I.isT (hk p hp)
  rw [Vals.ref1 r]
  refine sorted_setD R (I.ok.hd hc) hu hd hfew fun s' p out c L' k g o hp hg hout pm pw => ?_
  have few : L'.length ≤ 4095 := by rw [pm.length_eq]; exact hfew
  have hl : (L'.map fun q => V.ref q.1).length ≤ sizeLine := by rw [List.length_map, sizeLine_eq]; omega
  have hn : H p = none := I.hok.fresh hp
  have hv : Vals (L'.map fun q => V.ref q.1) out.toList := by rw [hout]; exact vals_of_refs L'
  have J : Inv X pins σ (upd H p (.lst (L'.map fun q => V.ref q.1))) { s with heap := s'.heap, gens := s'.gens, drawn := s'.drawn, toks := s'.toks } :=
    I.call (ch := []) (Un.laid k hp hn) (I.hok.laid k hp ⟨hl, out.toList, c, hv, hg⟩) (by rw [g]; exact I.bare) fun _ z => (nomatch z)
  have e : s' = { s with heap := s'.heap, gens := s'.gens, drawn := s'.drawn, toks := s'.toks } := by
    cases s'; cases s; cases o; rfl
  rw [e]
  exact ⟨.ref p, _, J, rfl, q L' p pm ((pm.map (·.2)).nodup_iff.mpr R.once) few pw hn⟩
abbrev jT (K : PySem.W.Frag) (H : Hp) (a : Addr) (k : List Int) : Prop := SqT K H a (k.map V.int)
theorem cr_setT {X : Cx} (hc : X.calm = true) (hu : X.A.units + 64 < cLine) : CallR X (.type "set") (BS.rSetB (BS.ksT X.prog X.w) (jT X.K) X.K) := BS.cr_setB (BS.ksT X.prog X.w) (jT X.K) (fun I h => Inv.isT I h) hc (by show X.A.units + 5 + 0 < cLine; omega)
theorem rSetB_mono {P : Program} {w : World} {κ : Type} [DecidableEq κ] {S : BS.KS P w κ} {J : Hp → Addr → κ → Prop} {xs : List V} {Q Q' : VK} (m : ∀ y H2, Q y H2 → Q' y H2) (h : BS.rSetB S J K xs H Q) : BS.rSetB S J K xs H Q' := by
  obtain ⟨l, ks, a1, a2, a3, a4, q⟩ := h
  exact ⟨l, ks, a1, a2, a3, a4, fun a L b1 b2 b3 b4 => m _ _ (q a L b1 b2 b3 b4)⟩
theorem callR_or {X : Cx} {f : Value} {r1 r2 : List V → Hp → VK → Prop} (h1 : CallR X f r1) (h2 : CallR X f r2) : CallR X f (fun xs H Q => r1 xs H Q ∨ r2 xs H Q) := fun pins s σ H xs us Q I r h => h.elim (h1 pins s σ H xs us Q I r) (h2 pins s σ H xs us Q I r)
theorem cfOf_some : ∀ {d : D} {c : Cf}, cfOf d = some c → d = cfD c := fun {d c} h => by
  unfold cfOf at h
  split at h
  · simp only [Option.bind_eq_some_iff, Option.map_eq_some_iff] at h
    obtain ⟨m, e1, ws, e2, rfl⟩ := h
    rw [intsOf_some e1, tupsOf_some e2]
    simp only [cfD, List.map_map]
    rfl
  · cases h
theorem cfsOf_some : ∀ {ds : List D} {cs : List Cf}, cfsOf ds = some cs → ds = cs.map cfD
  | [], cs, h => by simp only [cfsOf, Option.some.injEq] at h; subst h; rfl
  | d :: ds, cs, h => by
    simp only [cfsOf, Option.bind_eq_some_iff, Option.map_eq_some_iff] at h
    obtain ⟨c, e1, us, e2, rfl⟩ := h
    rw [cfOf_some e1, cfsOf_some e2]
    rfl
theorem cf_ref {c : Cf} {v : V} (h : NV K F (cfD c) v) : ∃ a, v = .ref a := by
  simp only [cfD, NV] at h
  obtain ⟨a, _, e, _⟩ := h
  exact ⟨a, e⟩
theorem reps_cfs : ∀ {cs : List Cf} {vs : List V} {fp : List Addr}, Reps K CL F H (cs.map cfD) vs fp → ∃ ks : List (Addr × Cf), vs = ks.map (fun p => V.ref p.1) ∧ cs = ks.map (·.2) ∧ ∀ p ∈ ks, jC K F p.1 p.2
  | [], vs, fp, h => by
    simp only [List.map_nil, Reps] at h
    exact ⟨[], h.1, rfl, fun _ z => nomatch z⟩
  | c :: cs, vs, fp, h => by
    simp only [List.map_cons, Reps] at h
    obtain ⟨v, vr, f1, f2, rfl, _, r1, r2⟩ := h
    obtain ⟨ks, e1, e2, hk⟩ := reps_cfs r2
    have n := nv_rep (nD_cf c) r1
    obtain ⟨a, rfl⟩ := cf_ref n
    refine ⟨(a, c) :: ks, by rw [e1]; rfl, by rw [e2]; rfl, fun p hp => ?_⟩
    rcases List.mem_cons.mp hp with e | e
    · subst e; exact n
    · exact hk p e
theorem repsC_mk : ∀ (ks : List (Addr × Cf)), (∀ p ∈ ks, jC K F p.1 p.2) → Reps K CL F H ((ks.map (·.2)).map cfD) (ks.map fun p => V.ref p.1) []
  | [], _ => Reps.nil
  | p :: ks, h => by
    simp only [List.map_cons, Reps]
    exact ⟨_, _, [], [], rfl, rfl, rep_nv (h p List.mem_cons_self), repsC_mk ks fun q hq => h q (List.mem_cons_of_mem _ hq)⟩
theorem v_sset {P : Program} {w : World} {x : V} {Q : VK} (h : OV1 K CL (o1D .sortedset) x H Q) : (BS.rSetB (BS.ksT P w) (jT K) K [x] H fun y H2 => rSortedD K P w [y] H2 Q ∨ rSortedC K P w [y] H2 Q) ∨ (BS.rSetB (ksC P w) (jC K) K [x] H fun y H2 => rSortedD K P w [y] H2 Q ∨ rSortedC K P w [y] H2 Q) := by
  obtain ⟨F, d, fp, e, s, r, he, q⟩ := h
  cases d with
  | lst o ds =>
    simp only [o1D] at he
    cases e1 : tupsOf ds with
    | some ts =>
     refine .inl (rSetB_mono (Q := fun y H2 => rSortedD K P w [y] H2 Q) (fun _ _ z => .inl z) ?_)
     rw [e1] at he
     simp only at he
     split at he
     · rename_i hc
       cases he
       simp only [Bool.and_eq_true, decide_eq_true_eq, List.all_eq_true] at hc
       obtain ⟨h64, hall⟩ := hc
       obtain ⟨a, vs, rfl, q1, q2⟩ := r.list_ s
       rw [tupsOf_some e1] at q2
       obtain ⟨ks, rfl, rfl, hk⟩ := reps_tups q2
       refine ⟨a, ks, rfl, q1, fun p hp => sqT_mono s (hk p hp), ⟨sortT (ks.map (·.2)), h64, fun p hp => mem_sortT.mpr (List.mem_map.mpr ⟨p, hp, rfl⟩)⟩, fun b L hb hnd hsub hsup => ?_⟩
       have lenL : L.length ≤ 4095 := BS.FewK.len (ks := ks) ⟨sortT (ks.map (·.2)), h64, fun p hp => mem_sortT.mpr (List.mem_map.mpr ⟨p, hp, rfl⟩)⟩ hnd hsub
       have memL : ∀ t, t ∈ L.map (·.2) ↔ t ∈ ks.map (·.2) := fun t => by
         constructor
         · intro ht
           obtain ⟨p, hp, rfl⟩ := List.mem_map.mp ht
           exact List.mem_map.mpr ⟨p, hsub p hp, rfl⟩
         · intro ht
           obtain ⟨p, hp, rfl⟩ := List.mem_map.mp ht
           exact hsup p hp
       have sub1 : Sub H (upd H b (BS.setO (BS.ksT P w) b L)) := sub_upd hb
       refine ⟨b, L, rfl, upd_same, fun p hp => sqT_mono sub1 (sqT_mono s (hk p (hsub p hp))), fun p hp z => ?_, ?_, fun L' p pm nd hl pw hp => ?_⟩
       · have := hall p.2 ((memL _).mp (List.mem_map.mpr ⟨p, hp, rfl⟩))
         rw [z] at this
         exact absurd this (by decide)
       · exact lenL
       · have hpH : H p = none := Sub.none sub1 hp
         have eL : L'.map (·.2) = sortT (ks.map (·.2)) := by
           refine pw_unique ?_ (sortT_pw _) fun t => ?_
           · have nd' := List.pairwise_map.mp nd
             refine List.pairwise_map.mpr (List.Pairwise.imp_of_mem (fun {x y} hx hy hxy => ?_) (List.Pairwise.and pw nd'))
             exact ltT_le hxy.1 hxy.2
           · rw [mem_sortT, ← memL t]
             exact ⟨fun z => (pm.map (·.2)).mem_iff.mp z, fun z => (pm.map (·.2)).mem_iff.mpr z⟩
         refine q _ _ F [p] ⟨fun a o h => (sub_upd hp) _ _ (sub1 _ _ h), .refl, fun a o h => (sub_upd hp) _ _ (sub1 _ _ (s _ _ h)), fun _ _ h => .inl h⟩ ?_ (by simp) fun a z => by rw [List.mem_singleton.mp z]; exact hpH
         simp only [Rep]
         refine ⟨p, _, rfl, rfl, upd_same, s.none hpH, ?_⟩
         rw [← eL]
         exact reps_mk L' fun p hp => hk p (hsub p (pm.mem_iff.mp hp))
     · cases he
    | none =>
     refine .inr (rSetB_mono (Q := fun y H2 => rSortedC K P w [y] H2 Q) (fun _ _ z => .inr z) ?_)
     rw [e1] at he
     simp only [Option.bind_eq_some_iff] at he
     obtain ⟨cs, e2, he⟩ := he
     split at he
     · rename_i hc
       cases he
       obtain ⟨a, vs, rfl, q1, q2⟩ := r.list_ s
       rw [cfsOf_some e2] at q2
       obtain ⟨ks, rfl, rfl, hk⟩ := reps_cfs q2
       have few : BS.FewK ks := ⟨sortG ltC (ks.map (·.2)), hc, fun p hp => mem_sortG.mpr (List.mem_map.mpr ⟨p, hp, rfl⟩)⟩
       refine ⟨a, ks, rfl, q1, fun p hp => nv_mono s (hk p hp), few, fun b L hb hnd hsub hsup => ?_⟩
       have lenL : L.length ≤ 4095 := few.len hnd hsub
       have memL : ∀ t, t ∈ L.map (·.2) ↔ t ∈ ks.map (·.2) := fun t => by
         constructor
         · intro ht
           obtain ⟨p, hp, rfl⟩ := List.mem_map.mp ht
           exact List.mem_map.mpr ⟨p, hsub p hp, rfl⟩
         · intro ht
           obtain ⟨p, hp, rfl⟩ := List.mem_map.mp ht
           exact hsup p hp
       have sub1 : Sub H (upd H b (BS.setO (ksC P w) b L)) := sub_upd hb
       refine ⟨b, L, rfl, upd_same, fun p hp => nv_mono sub1 (nv_mono s (hk p (hsub p hp))), lenL, fun L' p pm nd pw hp => ?_⟩
       have hpH : H p = none := Sub.none sub1 hp
       have eL : L'.map (·.2) = sortG ltC (ks.map (·.2)) := by
         refine pwG_unique sto_cf ?_ (sortG_pw sto_cf _) fun t => ?_
         · have nd' := List.pairwise_map.mp nd
           refine List.pairwise_map.mpr (List.Pairwise.imp_of_mem (fun {x y} hx hy hxy => ?_) (List.Pairwise.and pw nd'))
           rcases sto_cf.tot x.2 y.2 with z | z | z
           · exact z
           · exact (hxy.2 z).elim
           · have := hxy.1
             rw [z] at this
             cases this
         · rw [mem_sortG, ← memL t]
           exact ⟨fun z => (pm.map (·.2)).mem_iff.mp z, fun z => (pm.map (·.2)).mem_iff.mpr z⟩
       refine q _ _ F [p] ⟨fun a o h => (sub_upd hp) _ _ (sub1 _ _ h), .refl, fun a o h => (sub_upd hp) _ _ (sub1 _ _ (s _ _ h)), fun _ _ h => .inl h⟩ ?_ (by simp) fun a z => by rw [List.mem_singleton.mp z]; exact hpH
       simp only [Rep]
       refine ⟨p, _, rfl, rfl, upd_same, s.none hpH, ?_⟩
       rw [← eL]
       exact repsC_mk L' fun p hp => hk p (hsub p (pm.mem_iff.mp hp))
     · cases he
  | _ => simp [o1D] at he
end
end Cov

/-! CovB: max, min, sum, abs; in. -/
namespace Cov
open PySem PySem.Calls PyProof.Rows PySem.W L2
/-! ### the greatest, the least -/
theorem fold_max : ∀ (xs : List Int) (x : Int), xs.foldl (fun a b => if a < b then b else a) x ∈ x :: xs ∧ ∀ y ∈ x :: xs, y ≤ xs.foldl (fun a b => if a < b then b else a) x
  | [], x => ⟨List.mem_singleton.mpr rfl, fun y h => by cases List.mem_singleton.mp h; exact Int.le_refl _⟩
  | z :: xs, x => by
    obtain ⟨h1, h2⟩ := fold_max xs (if x < z then z else x)
    simp only [List.foldl_cons]
    constructor
    · rcases List.mem_cons.mp h1 with h | h
      · rw [h]
        split
        · simp
        · simp
      · exact List.mem_cons_of_mem _ (List.mem_cons_of_mem _ h)
    · intro y hy
      have h0 := h2 _ List.mem_cons_self
      rcases List.mem_cons.mp hy with rfl | hy
      · refine Int.le_trans ?_ h0
        split <;> omega
      · rcases List.mem_cons.mp hy with rfl | hy
        · refine Int.le_trans ?_ h0
          split <;> omega
        · exact h2 y (List.mem_cons_of_mem _ hy)
theorem fold_min : ∀ (xs : List Int) (x : Int), xs.foldl (fun a b => if b < a then b else a) x ∈ x :: xs ∧ ∀ y ∈ x :: xs, xs.foldl (fun a b => if b < a then b else a) x ≤ y
  | [], x => ⟨List.mem_singleton.mpr rfl, fun y h => by cases List.mem_singleton.mp h; exact Int.le_refl _⟩
  | z :: xs, x => by
    obtain ⟨h1, h2⟩ := fold_min xs (if z < x then z else x)
    simp only [List.foldl_cons]
    constructor
    · rcases List.mem_cons.mp h1 with h | h
      · rw [h]
        split
        · simp
        · simp
      · exact List.mem_cons_of_mem _ (List.mem_cons_of_mem _ h)
    · intro y hy
      have h0 := h2 _ List.mem_cons_self
      rcases List.mem_cons.mp hy with rfl | hy
      · refine Int.le_trans h0 ?_
        split <;> omega
      · rcases List.mem_cons.mp hy with rfl | hy
        · refine Int.le_trans h0 ?_
          split <;> omega
        · exact h2 y (List.mem_cons_of_mem _ hy)
theorem maxL_iff {xs : List Int} {m : Int} : maxL xs = some m ↔ m ∈ xs ∧ ∀ y ∈ xs, y ≤ m := by
  cases xs with
  | nil => simp [maxL]
  | cons x xs =>
    obtain ⟨h1, h2⟩ := fold_max xs x
    simp only [maxL, Option.some.injEq]
    constructor
    · rintro rfl; exact ⟨h1, h2⟩
    · rintro ⟨h3, h4⟩
      have a := h2 m h3
      have b := h4 _ h1
      omega
theorem minL_iff {xs : List Int} {m : Int} : minL xs = some m ↔ m ∈ xs ∧ ∀ y ∈ xs, m ≤ y := by
  cases xs with
  | nil => simp [minL]
  | cons x xs =>
    obtain ⟨h1, h2⟩ := fold_min xs x
    simp only [minL, Option.some.injEq]
    constructor
    · rintro rfl; exact ⟨h1, h2⟩
    · rintro ⟨h3, h4⟩
      have a := h2 m h3
      have b := h4 _ h1
      omega
theorem maxL_len {xs : List Int} {m : Int} (h : maxL xs = some m) : 0 < xs.length := List.length_pos_of_mem (maxL_iff.mp h).1
theorem minL_len {xs : List Int} {m : Int} (h : minL xs = some m) : 0 < xs.length := List.length_pos_of_mem (minL_iff.mp h).1
section
variable {X : Cx}
theorem alikeI (ns : List Int) : AlikeAll (ns.map PyData.int) :=
  ⟨fun x hx y hy => by obtain ⟨i, _, rfl⟩ := List.mem_map.mp hx; obtain ⟨j, _, rfl⟩ := List.mem_map.mp hy; rfl, fun x hx => by obtain ⟨i, _, rfl⟩ := List.mem_map.mp hx; simp⟩
theorem depthI : ∀ ns : List Int, PyData.depthAll (ns.map PyData.int) ≤ 1
  | [] => by simp [PyData.depthAll]
  | n :: ns => by
    have := depthI ns
    simp only [List.map_cons, PyData.depthAll, PyData.depth]
    omega
def rMaxT (K : PySem.W.Frag) : List V → Hp → VK → Prop := fun vs H Q => ∃ (a : Addr) (ns : List Int), vs = [V.ref a] ∧ SqT K H a (ns.map V.int) ∧ ∀ m, maxL ns = some m → Q (.int m) H
def rMinT (K : PySem.W.Frag) : List V → Hp → VK → Prop := fun vs H Q => ∃ (a : Addr) (ns : List Int), vs = [V.ref a] ∧ SqT K H a (ns.map V.int) ∧ ∀ m, minL ns = some m → Q (.int m) H
theorem reads_int {h : Heap} {v : Value} {n : Int} {as : List Addr} (r : Reads h v (.int n) as) : ∃ t, v = .int n t := by
  cases r
  exact ⟨_, rfl⟩
theorem cr_maxT (hc : X.calm = true) (hu : X.A.units + 64 < cLine) : CallR X (.builtin "max") (fun vs H Q => ∃ (a : Addr) (ns : List Int), vs = [V.ref a] ∧ SqT X.K H a (ns.map V.int) ∧ 0 < ns.length ∧ ∀ m, maxL ns = some m → Q (.int m) H) := by
  intro pins s σ H vs us Q I r h
  obtain ⟨a, ns, rfl, hs, hl, q⟩ := h
  obtain ⟨its, rv, ht, _⟩ := I.tuple hs
  rw [Vals.ref1 r]
  cases ns with
  | nil => simp at hl
  | cons n ns =>
    have ra : ReadsAll s.heap its.toArray.toList ((n :: ns).map PyData.int) [] := by
      show ReadsAll s.heap its _ _
      exact rAll_ints rv.ints
    refine max_tuple_data (vs := its.toArray) (I.ok.hd hc) ht ra (alikeI (n :: ns)) (by have := depthI (n :: ns); show X.A.units + 1 + PyData.depthAll ((n :: ns).map PyData.int) < cLine; omega) fun i v h' tk bs hv r2 hk => ?_
    have e : maxD (.int n) (ns.map .int) = .int (ns.foldl max n) := maxD_ints n ns
    rw [e] at r2
    obtain ⟨t, rfl⟩ := reads_int r2
    refine ⟨.int _, H, I.kept hk, ⟨_, rfl⟩, q _ ?_⟩
    simp only [maxL, Option.some.injEq]
    congr 1
    funext a b
    show (if a < b then b else a) = max a b
    split <;> omega
theorem cr_minT (hc : X.calm = true) (hu : X.A.units + 64 < cLine) : CallR X (.builtin "min") (fun vs H Q => ∃ (a : Addr) (ns : List Int), vs = [V.ref a] ∧ SqT X.K H a (ns.map V.int) ∧ 0 < ns.length ∧ ∀ m, minL ns = some m → Q (.int m) H) := by
  intro pins s σ H vs us Q I r h
  obtain ⟨a, ns, rfl, hs, hl, q⟩ := h
  obtain ⟨its, rv, ht, _⟩ := I.tuple hs
  rw [Vals.ref1 r]
  cases ns with
  | nil => simp at hl
  | cons n ns =>
    have ra : ReadsAll s.heap its.toArray.toList ((n :: ns).map PyData.int) [] := by
      show ReadsAll s.heap its _ _
      exact rAll_ints rv.ints
    refine min_tuple_data (vs := its.toArray) (I.ok.hd hc) ht ra (alikeI (n :: ns)) (by have := depthI (n :: ns); show X.A.units + 1 + PyData.depthAll ((n :: ns).map PyData.int) < cLine; omega) fun i v h' tk bs hv r2 hk => ?_
    have e : minD (.int n) (ns.map .int) = .int (ns.foldl min n) := minD_ints n ns
    rw [e] at r2
    obtain ⟨t, rfl⟩ := reads_int r2
    refine ⟨.int _, H, I.kept hk, ⟨_, rfl⟩, q _ ?_⟩
    simp only [minL, Option.some.injEq]
    congr 1
    funext a b
    show (if b < a then b else a) = min a b
    split <;> omega
end
section
variable {K : PySem.W.Frag} {CL : CLT} {F F' H H' : Hp} {Q : VK}
theorem Reps.ints : ∀ {ns : List Int} {vs : List V} {fp : List Addr}, Reps K CL F H (ns.map D.int) vs fp → vs = ns.map V.int
  | [], vs, fp, h => by simp only [List.map_nil, Reps] at h; exact h.1
  | n :: ns, vs, fp, h => by
    simp only [List.map_cons, Reps] at h
    obtain ⟨v, vr, f1, f2, rfl, _, r1, r2⟩ := h
    rw [Reps.ints r2, r1.int_]
    rfl
theorem v_max {x : V} (h : OV1 K CL (o1D .max_) x H Q) : ∃ (a : Addr) (ns : List Int), [x] = [V.ref a] ∧ (SqL K H a (ns.map V.int) ∨ SqT K H a (ns.map V.int)) ∧ 0 < ns.length ∧ ∀ m, maxL ns = some m → Q (.int m) H := by
  obtain ⟨F, d, fp, e, s, r, he, q⟩ := h
  have he : ((seqOf d).bind fun ds => (intsOf ds).bind fun is => (maxL is).map D.int) = some e := by simpa only [o1D] using he
  simp only [Option.bind_eq_some_iff, Option.map_eq_some_iff] at he
  obtain ⟨ds, e1, is, e2, m, e3, rfl⟩ := he
  cases intsOf_some e2
  have q' : ∀ m', maxL is = some m' → Q (.int m') H := fun m' e4 => by rw [e3] at e4; cases e4; exact pl_ends s rep_int q
  cases d with
  | lst o ds' =>
    simp only [seqOf, Option.some.injEq] at e1
    subst e1
    obtain ⟨a, vs, rfl, q1, q2⟩ := r.list_ s
    cases q2.ints
    exact ⟨a, is, rfl, .inl q1, maxL_len e3, q'⟩
  | tup ds' =>
    simp only [seqOf, Option.some.injEq] at e1
    subst e1
    obtain ⟨a, vs, rfl, q1, q2⟩ := r.tup_ s
    cases q2.ints
    exact ⟨a, is, rfl, .inr q1, maxL_len e3, q'⟩
  | _ => simp [seqOf] at e1
theorem v_min {x : V} (h : OV1 K CL (o1D .min_) x H Q) : ∃ (a : Addr) (ns : List Int), [x] = [V.ref a] ∧ (SqL K H a (ns.map V.int) ∨ SqT K H a (ns.map V.int)) ∧ 0 < ns.length ∧ ∀ m, minL ns = some m → Q (.int m) H := by
  obtain ⟨F, d, fp, e, s, r, he, q⟩ := h
  have he : ((seqOf d).bind fun ds => (intsOf ds).bind fun is => (minL is).map D.int) = some e := by simpa only [o1D] using he
  simp only [Option.bind_eq_some_iff, Option.map_eq_some_iff] at he
  obtain ⟨ds, e1, is, e2, m, e3, rfl⟩ := he
  cases intsOf_some e2
  have q' : ∀ m', minL is = some m' → Q (.int m') H := fun m' e4 => by rw [e3] at e4; cases e4; exact pl_ends s rep_int q
  cases d with
  | lst o ds' =>
    simp only [seqOf, Option.some.injEq] at e1
    subst e1
    obtain ⟨a, vs, rfl, q1, q2⟩ := r.list_ s
    cases q2.ints
    exact ⟨a, is, rfl, .inl q1, minL_len e3, q'⟩
  | tup ds' =>
    simp only [seqOf, Option.some.injEq] at e1
    subst e1
    obtain ⟨a, vs, rfl, q1, q2⟩ := r.tup_ s
    cases q2.ints
    exact ⟨a, is, rfl, .inr q1, minL_len e3, q'⟩
  | _ => simp [seqOf] at e1
theorem v_sum {x : V} (h : OV1 K CL (o1D .sum_) x H Q) : ∃ (a : Addr) (ns : List Int), [x] = [V.ref a] ∧ SqL K H a (ns.map V.int) ∧ Q (.int ns.sum) H := by
  obtain ⟨F, d, fp, e, s, r, he, q⟩ := h
  cases d with
  | lst o ds =>
    simp only [o1D, Option.map_eq_some_iff] at he
    obtain ⟨is, e2, rfl⟩ := he
    cases intsOf_some e2
    obtain ⟨a, vs, rfl, q1, q2⟩ := r.list_ s
    cases q2.ints
    exact ⟨a, is, rfl, q1, pl_ends s rep_int q⟩
  | _ => simp [o1D] at he
theorem v_abs {x : V} (h : OV1 K CL (o1D .abs_) x H Q) : ∃ i, [x] = [V.int i] ∧ Q (.int (if i < 0 then -i else i)) H := by
  obtain ⟨F, d, fp, e, s, r, he, q⟩ := h
  cases d with
  | int i =>
    simp only [o1D, Option.some.injEq] at he
    subst he
    cases r.int_
    exact ⟨i, rfl, pl_ends s rep_int q⟩
  | _ => simp [o1D] at he
/-! ### in -/
theorem flD_flatV {d : D} {v : V} {fp : List Addr} (r : Rep K CL F H d v fp) (h : flD d = true) : flatV v = true := by
  cases d with
  | non => cases r.non_; rfl
  | bl _ => cases r.bl_; rfl
  | int _ => cases r.int_; rfl
  | str _ => cases r.str_; rfl
  | _ => simp [flD] at h
theorem flD_all : ∀ {ds : List D} {vs : List V} {fp : List Addr}, Reps K CL F H ds vs fp → ds.all flD = true → vs.all flatV = true
  | [], vs, fp, r, h => by simp only [Reps] at r; rw [r.1]; rfl
  | d :: ds, vs, fp, r, h => by
    simp only [Reps] at r
    obtain ⟨v, vr, f1, f2, rfl, _, r1, r2⟩ := r
    simp only [List.all_cons, Bool.and_eq_true] at h ⊢
    exact ⟨flD_flatV r1 h.1, flD_all r2 h.2⟩
theorem flat_eqv {d d' : D} {v v' : V} {fp fp' : List Addr} {p p' : PyData} (r : Rep K CL F H d v fp) (r' : Rep K CL F H d' v' fp') (h : flD d = true) (h' : flD d' = true) (e : toPy d = some p) (e' : toPy d' = some p') : PyData.eqv p p' = eqV v v' := by
  cases d with
  | non => cases r.non_; cases e; cases d' with
    | non => cases r'.non_; cases e'; rfl
    | bl _ => cases r'.bl_; cases e'; rfl
    | int _ => cases r'.int_; cases e'; rfl
    | str _ => cases r'.str_; cases e'; rfl
    | _ => simp [flD] at h'
  | bl _ => cases r.bl_; cases e; cases d' with
    | non => cases r'.non_; cases e'; rfl
    | bl _ => cases r'.bl_; cases e'; rfl
    | int _ => cases r'.int_; cases e'; rfl
    | str _ => cases r'.str_; cases e'; rfl
    | _ => simp [flD] at h'
  | int _ => cases r.int_; cases e; cases d' with
    | non => cases r'.non_; cases e'; rfl
    | bl _ => cases r'.bl_; cases e'; rfl
    | int _ => cases r'.int_; cases e'; rfl
    | str _ => cases r'.str_; cases e'; rfl
    | _ => simp [flD] at h'
  | str _ => cases r.str_; cases e; cases d' with
    | non => cases r'.non_; cases e'; rfl
    | bl _ => cases r'.bl_; cases e'; rfl
    | int _ => cases r'.int_; cases e'; rfl
    | str _ => cases r'.str_; cases e'; rfl
    | _ => simp [flD] at h'
  | _ => simp [flD] at h
theorem flat_in {x : D} {v : V} {fx : List Addr} {p : PyData} (rx : Rep K CL F H x v fx) (hx : flD x = true) (ex : toPy x = some p) : ∀ {ds : List D} {vs : List V} {fp : List Addr} {ps : List PyData}, Reps K CL F H ds vs fp → ds.all flD = true → toPyL ds = some ps → (ps.any fun z => PyData.eqv z p) = inV v vs
  | [], vs, fp, ps, r, h, e => by simp only [Reps] at r; simp only [toPyL] at e; cases e; rw [r.1]; rfl
  | d :: ds, vs, fp, ps, r, h, e => by
    simp only [Reps] at r
    obtain ⟨w, vr, f1, f2, rfl, _, r1, r2⟩ := r
    simp only [List.all_cons, Bool.and_eq_true] at h
    simp only [toPyL, Option.bind_eq_some_iff, Option.map_eq_some_iff] at e
    obtain ⟨q, e1, qs, e2, rfl⟩ := e
    have ih := flat_in rx hx ex r2 h.2 e2
    simp only [inV, List.any_cons] at ih ⊢
    rw [ih, flat_eqv r1 rx h.1 hx e1 ex]
theorem inDs_some {x : D} {ds : List D} {k : Bool} (h : inDs x ds = some k) : ∃ p ps, toPy x = some p ∧ toPyL ds = some ps ∧ SeqAt.shaped p = true ∧ SeqAt.shaped (.list ps) = true ∧ k = ps.any fun z => PyData.eqv z p := by
  unfold inDs at h
  simp only [Option.bind_eq_some_iff] at h
  obtain ⟨p, e1, ps, e2, h⟩ := h
  split at h
  · rename_i c
    simp only [Bool.and_eq_true] at c
    exact ⟨p, ps, e1, e2, c.1, c.2, (Option.some.inj h).symm⟩
  · cases h
def rInX (K : PySem.W.Frag) : L2.R2 := fun x y H Q => rInD K x y H Q ∨ rIn K false x y H Q
def rNotInX (K : PySem.W.Frag) : L2.R2 := fun x y H Q => rNotInD K x y H Q ∨ rIn K true x y H Q
theorem op_inX {X : Cx} (hu : X.A.units + 65 < cLine) : OpR X (compareOp .In) (rInX X.K) := OpR.or (op_inD hu) op_in_seq
theorem op_notinX {X : Cx} (hu : X.A.units + 65 < cLine) : OpR X (compareOp .NotIn) (rNotInX X.K) := OpR.or (op_notInD hu) op_notIn_seq
theorem v_in {x y : V} (h : OV2 K CL (o2D .in_) x y H Q) : rInX K x y H Q := by
  obtain ⟨F, d, d', fp, fp', e, s, r, r', he, q⟩ := h
  have he : (inD d d').map D.bl = some e := by simpa only [o2D] using he
  simp only [Option.map_eq_some_iff] at he
  obtain ⟨k, e1, rfl⟩ := he
  cases d' with
  | lst o ds =>
    obtain ⟨p, ps, h1, h2, h3, h4, rfl⟩ := inDs_some e1
    exact .inl ⟨p, ps, r.dp s h1, r'.dp s (by simp only [toPy, h2, Option.map_some]), h3, h4, pl_ends s rep_bl q⟩
  | tup ds =>
    simp only [inD] at e1
    split at e1
    · rename_i c
      simp only [Bool.and_eq_true] at c
      obtain ⟨p, ps, h1, h2, h3, h4, rfl⟩ := inDs_some e1
      obtain ⟨a, vs, rfl, q1, q2⟩ := r'.tup_ s
      refine .inr ⟨a, vs, rfl, .inr q1, flD_flatV r c.1, flD_all q2 c.2, ?_⟩
      rw [← flat_in r c.1 h1 q2 c.2 h2]
      exact pl_ends s rep_bl q
    · cases e1
  | _ => simp [inD] at e1
theorem v_notin {x y : V} (h : OV2 K CL (o2D .notin) x y H Q) : rNotInX K x y H Q := by
  obtain ⟨F, d, d', fp, fp', e, s, r, r', he, q⟩ := h
  have he : (inD d d').map (fun k => D.bl (!k)) = some e := by simpa only [o2D] using he
  simp only [Option.map_eq_some_iff] at he
  obtain ⟨k, e1, rfl⟩ := he
  cases d' with
  | lst o ds =>
    obtain ⟨p, ps, h1, h2, h3, h4, rfl⟩ := inDs_some e1
    exact .inl ⟨p, ps, r.dp s h1, r'.dp s (by simp only [toPy, h2, Option.map_some]), h3, h4, pl_ends s rep_bl q⟩
  | tup ds =>
    simp only [inD] at e1
    split at e1
    · rename_i c
      simp only [Bool.and_eq_true] at c
      obtain ⟨p, ps, h1, h2, h3, h4, rfl⟩ := inDs_some e1
      obtain ⟨a, vs, rfl, q1, q2⟩ := r'.tup_ s
      refine .inr ⟨a, vs, rfl, .inr q1, flD_flatV r c.1, flD_all q2 c.2, ?_⟩
      rw [if_pos rfl, ← flat_in r c.1 h1 q2 c.2 h2]
      exact pl_ends s rep_bl q
    · cases e1
  | _ => simp [inD] at e1
end
end Cov

/-! ExcN: an own exception with an own __init__ that stores its one argument: made, its context None. -/
namespace Cov
open PySem L2 PySem.Spec PyProof.Rows
/-- what such an __init__ promises: the new exception at a gets a dict with the one field -/
def spInit (K : PySem.W.Frag) (fl : Str) : Sp := fun vs H Q _ => ∃ (a C : Addr) (y : V), vs = [.ref a, y] ∧ OexC K C ∧ PySem.W.findIn K (.ref C) fl = some none ∧ H a = some (exo a C none) ∧
  ∀ dx, H dx = none → dx ≠ a → Q .non (upd (upd H dx (exd dx [(fl, y)])) a (exo a C (some dx)))
/-- its body: self.f = f -/
def isInit (fl : Str) (st : Stmt) : Bool := match defBody st with
  | [.Assign [.Attribute (.Name s _) f _] (.Name g _) _] => decide (s = "self") && decide (f = fl) && decide (g = fl)
  | _ => false
section
variable {P : Program} {w : World} {K : PySem.W.Frag} {mg : Str → Option Value} {base : Heap}
theorem init_ok {fl qual : Str} {st : Stmt} {fI : Addr} {fd : FuncData} (F : Fun K "__init__" qual st fI fd) (S : FnScope ["self", fl] ["self", fl] (defScope st)) (hb : isInit fl st = true) (h1 : (fl == ("__debug__" : Str)) = false) (h2 : (fl == ("__classdict__" : Str)) = false) :
    FnOk P w K mg base CX0 1 fI fd ["self", fl] (spInit K fl) := by
  unfold isInit at hb
  split at hb
  · rename_i s q1 f q2 g q3 q4 eb
    simp only [Bool.and_eq_true, decide_eq_true_eq] at hb
    obtain ⟨⟨rfl, rfl⟩, rfl⟩ := hb
    refine F.ok S (fun vs H Q E h => by obtain ⟨a, C, y, rfl, _⟩ := h; rfl) fun cdv A outer s H vs Q E hr h => ?_
    rw [eb]
    have vis : ∀ x ∈ (["self", g] : List Str), Vis (defScope st) x := fun x hx => (S.par x hx).elim .inl fun z => .inr (.inl z)
    refine ⟨_, pss_one (ps_ost (pe_var (i := 0) rfl (vis _ (by simp)) (by decide) (by decide)) (pe_var (i := 1) rfl (vis _ (by simp)) h1 h2) rfl), ?_⟩
    obtain ⟨a, C, y, rfl, T, n, ea, k⟩ := h
    exact ⟨y, rfl, .ref a, rfl, a, C, rfl, T, n, .inl ⟨ea, k⟩⟩
  · cases hb
variable {X : Cx} {x fl : Str} {C fI : Addr} {fd : FuncData} {a : Expr} {te : TE} {p pos : Pos}
theorem pmkN (T : OexC X.K C) (iC : PySem.W.findIn X.K (.ref C) "__init__" = some (some (.ref fI))) (tI : PySem.W.typeIn X.K (.ref fI) = some (.type "function")) (F1 : FnOk X.prog X.w X.K X.mg X.base CX0 1 fI fd ["self", fl] (spInit X.K fl)) (hr : Room 2 X.A)
    (hb : Binds X.K fd ["self", fl] []) (hn : PySem.W.findIn X.K (.ref C) fl = some none) (hg : Gl X x) (hm : X.mg x = some (.ref C)) (hdb : (x == ("__debug__" : Str)) = false) (ha : PE X a te) (he : starEach (a :: []) X.env = (false, eval a X.env) :: starEach [] X.env) :
    L2N.PMk X (.Call (.Name x p) [a] [] pos) (fun σ H Q => te σ H fun v H1 => ∀ d, H1 d = none → Q (.ref C) (some d) (upd H1 d (.xd [(fl, v)]))) := by
  intro pins s σ H Q I h
  obtain ⟨nm, q, N, bs, bm, sn, sub, ab, col, dd, k0, k1, k2, k3, k5, hC, hbm⟩ := T.cls
  refine wpAny_Call_Name_kw (ld_glob I hg hm ?_ hdb)
  have hA : PA X [a] (tCons te tNil) := pa_cons ha pa_nil he
  refine PySem.W.callWith_K (h₀ := X.base) I.ok.mod.kin T.kC (thn (hA.run pos pins s σ H (fun vs H1 => match vs with
    | [v] => ∀ d, H1 d = none → Q (.ref C) (some d) (upd H1 d (.xd [(fl, v)]))
    | _ => False) I h) fun us s1 ⟨vs, H1, I1, r1, q1⟩ => ⟨I1.kIn, ?_⟩) he rfl
  cases r1 with
  | nil => exact q1.elim
  | @cons v u vs us ru rr =>
  cases rr with
  | cons _ _ => exact q1.elim
  | nil =>
  obtain ⟨hp, g, dr, tk, os⟩ := s1
  show wpAny _ _ (call (.ref C) [u]) _ _ _
  -- the new exception, before its __init__
  generalize ehs : (hp.push (PySem.W.kdv_tup [u])).push (PySem.HandSPX.excO C hp.objs.size) = h1
  have old : ∀ b o, hp.get? b = some o → h1.get? b = some o := fun b o e => by rw [← ehs]; exact Heap.get?_push_of_some _ (Heap.get?_push_of_some _ e)
  have new : h1.get? (hp.objs.size + 1) = some (PySem.HandSPX.excO C hp.objs.size) := by rw [← ehs]; heap_get
  have le : hp.objs.size ≤ hp.objs.size + 1 := Nat.le_succ _
  have na : H1 (hp.objs.size + 1) = none := I1.hok.fresh le
  have J : Inv X pins σ (upd H1 (hp.objs.size + 1) (exo (hp.objs.size + 1) C none)) ⟨h1, g, dr, tk, os⟩ := I1.laid (t' := tk) old le (exo_ok new)
  have pr : spInit X.K fl [.ref (hp.objs.size + 1), v] (upd H1 (hp.objs.size + 1) (exo (hp.objs.size + 1) C none))
      (fun w H2 => w = .non ∧ ∃ dx, H1 dx = none ∧ dx ≠ hp.objs.size + 1 ∧ H2 = upd (upd (upd H1 (hp.objs.size + 1) (exo (hp.objs.size + 1) C none)) dx (exd dx [(fl, v)])) (hp.objs.size + 1) (exo (hp.objs.size + 1) C (some dx))) (fun _ _ _ => False) := by
    refine ⟨_, C, v, rfl, T, hn, upd_same, fun dx n ne => ⟨rfl, dx, ?_, ne, rfl⟩⟩
    rwa [upd_ne ne] at n
  have bd : BindsTo ⟨h1, g, dr, tk, os⟩ fd ⟨[.ref (hp.objs.size + 1), u], []⟩ ((["self", fl] : List Str).zip [.ref (hp.objs.size + 1), u]) := by
    have b := hb ⟨h1, g, dr, tk, os⟩ [.ref (hp.objs.size + 1), u] J.kIn rfl
    rwa [List.append_nil] at b
  refine wpAny_call ?_
  refine PySem.HandSPX.call_own F.excBase_ValueError (fun Y => PySem.HandSPX.refsVE_contains Y bm hbm) (I1.kIn _ _ hC) (PySem.W.looks_findIn I1.kIn iC) (fun self => PySem.W.bind_fn I1.kIn self tI) (by show 1 ≤ sizeLine; decide) ?_
  rw [ehs]
  refine codeAny_mono (F1.run _ X.stack _ _ ⟨[.ref (hp.objs.size + 1), u], []⟩ [.ref (hp.objs.size + 1), u] [.ref (hp.objs.size + 1), v] _ (fun _ _ _ => False) (hr.make C [u] []) (J.env0.make C [u] []) bd (.cons rfl (.cons ru .nil)) pr) fun r s' hq => ?_
  cases r with
  | error er => exact hq.elim
  | ok fl' =>
    cases fl' with
    | ret w =>
      obtain ⟨w', H2, eos, bare, un, hok, rw', ew, dx, nd, ne, eH⟩ := hq
      subst ew
      obtain ⟨h2, g2, d2, t2, os2⟩ := s'
      have ea : H2 (hp.objs.size + 1) = some (exo (hp.objs.size + 1) C (some dx)) := by rw [eH]; exact upd_same
      have ed : H2 dx = some (exd dx [(fl, v)]) := by rw [eH, upd_ne ne]; exact upd_same
      obtain ⟨t0, G, J2, kG, gN, oe, fin⟩ := mk_end0 (d2 := d2) (t2 := t2) I1 le old un hok eos bare ea ed nd
      have eE : upd (del H2 (hp.objs.size + 1)) dx (.xd [(fl, v)]) = upd H1 dx (.xd [(fl, v)]) := by
        funext b
        by_cases e1 : b = dx
        · rw [e1, upd_same, upd_same]
        · rw [upd_ne e1, upd_ne e1]
          by_cases e2 : b = hp.objs.size + 1
          · rw [e2, del_same, na]
          · rw [del_ne e2, eH, upd_ne e2, upd_ne e1, upd_ne e2]
      rw [eE] at J2 fin
      exact ⟨rw', ⟨_, _, _, ⟨G, g2, d2, t2, os2⟩, _, .ref C, some dx, rfl, J2, kG, gN, oe, ⟨rfl, rfl, fun vs e => by cases e; rfl⟩, rfl, rfl, fin, rfl, bare, raises_own T.exC T.tyC, q1 dx nd⟩⟩
    | next => exact hq.elim
    | brk => exact hq.elim
    | cont => exact hq.elim
/-- n.f, n the exception that the suite holds -/
theorem pe_held {b : Addr} {oe : Obj} {d : Addr} {k : Int} {pn : List (Addr × Obj)} {e : Expr} (ga : PySem.W.findIn X.K (.ref C) "__getattribute__" = some (some (.builtin "BaseException.__getattribute__"))) (gg : PySem.W.findIn X.K (.ref C) "__getattr__" = some none)
    (exC : PySem.W.subIn X.K (.ref C) (.type "BaseException") = some true) (hd : PySem.W.hasDictIn X.K C = true) (hn : PySem.W.findIn X.K (.ref C) fl = some none) (hz : Zc (.ref C) (some d) oe) (hf : ∃ vs, oe.data = .fields vs)
    (he : PE (X.suite b ((b, oe) :: pn)) e te) (hb : attributeBase e fl X.env (eval e X.env) = eval e X.env) :
    PE (X.suite b ((b, oe) :: pn)) (.Attribute e fl pos) (fun σ H Q => te σ H fun x H1 => x = .ref b ∧ H1 d = some (.xd [(fl, .int k)]) ∧ Q (.int k) H1) := by
  refine ⟨fun pins s σ H Q I h => attr_of hb (thn (he.run pins s σ H _ I h) fun u s1 ⟨x, H1, I1, rx, ex, ed, q⟩ => ?_)⟩
  subst ex
  obtain rfl : u = Value.ref b := rx
  obtain ⟨vs, hv⟩ := hf
  obtain ⟨at_, _⟩ := I1.pin (b, oe) (List.mem_append_left _ List.mem_cons_self)
  obtain ⟨m, hns, hr⟩ := (show ObjOk X.prog X.w H1 s1.heap d (.xd [(fl, .int k)]) from I1.hok d _ ed)
  obtain ⟨od, ho, hl⟩ := lookIn_ns hns
  obtain ⟨u, hu, ru⟩ := RelO.some_of (v := .int k) (o := m fl) (by
    have l : List.lookup fl [(fl, V.int k)] = some (V.int k) := by simp [List.lookup]
    rw [← l]
    exact hr fl)
  have J : PySem.W.InstAt s1.heap b oe C (some od) := ⟨at_, hz.1, by unfold PySem.W.notCls; rw [hv] <;> rfl, by rw [hz.2]; exact ho⟩
  exact HandSPX.exc_get I1.kIn J ga gg exC (PySem.W.findObj_own hd hn rfl (by rw [hl, hu])) (handed_of ru) ⟨_, H1, I1.tok _, ru, q⟩
/-- a class is called -/
theorem pe_makeS {CX : CXT} {k : Nat} {f : Addr} {ps : List Str} {sp : Sp} {E : L2.St → XK} {es : List Expr} {t : TA} (M : Mk X.K C f) (F : FnOk X.prog X.w X.K X.mg X.base CX k f fd ps sp) (hr : Room (k + 1) X.A) (hg : Gl X x) (hm : X.mg x = some (.ref C)) (hb : Binds X.K fd ps [])
    (hx : ∀ σ, PassesAt CX X σ (E σ)) (ha : PA X (a :: es) t) (hdb : (x == ("__debug__" : Str)) = false) (he : starEach (a :: es) X.env = (false, eval a X.env) :: starEach es X.env) (hpl : (backTo pos (starEach es X.env)).any (·.1) = false) :
    PE X (.Call (.Name x p) (a :: es) [] pos) (fun σ H Q => t σ H fun vs H1 => ∀ b dx, H1 b = none → H1 dx = none → dx ≠ b → sp (.ref b :: vs) (upd (upd H1 dx (.own b)) b (.ins C dx [])) (fun v H2 => v = .non ∧ Q (.ref b) H2) (E σ)) := by
  refine ⟨fun pins s σ H Q I h => wpAny_Call_Name_kw (ld_glob I hg hm ?_ hdb)⟩
  refine PySem.W.callWith_K (h₀ := X.base) I.ok.mod.kin M.kp (thn (ha.run pos pins s σ H _ I h) fun us s1 ⟨vs, H1, I1, r, q⟩ => ⟨I1.kIn, ?_⟩) he hpl
  have pr := q _ _ (I1.hok.fresh (Nat.le_succ s1.heap.objs.size)) (I1.hok.fresh (Nat.le_refl s1.heap.objs.size)) (Nat.ne_of_lt (Nat.lt_succ_self _))
  have J := Inv.made (C := C) I1
  have r2 : Vals (V.ref (s1.heap.objs.size + 1) :: vs) (Value.ref (s1.heap.objs.size + 1) :: us) := .cons rfl r
  have b := hb _ (Value.ref (s1.heap.objs.size + 1) :: us) J.kIn (by rw [List.append_nil, ← r2.length]; exact F.len _ _ _ _ pr)
  rw [List.append_nil] at b
  refine wpAny_call (make_map (f := f) I1.kIn M.makes M.init (beq_iff_eq.mp M.fn) (codeAny_mono (F.run _ X.stack _ _ ⟨Value.ref (s1.heap.objs.size + 1) :: us, []⟩ (Value.ref (s1.heap.objs.size + 1) :: us) _ _ _ (hr.make C us []) (J.env0.make C us []) b r2 pr) fun o s' hq => ?_))
  cases o with
  | error e => exact hx σ pins _ _ e s' J hq
  | ok fl =>
    cases fl with
    | ret u =>
      obtain ⟨v, H', J2, rv, ev, z⟩ := J.after hq
      subst ev
      exact ⟨rv, V.ref (s1.heap.objs.size + 1), H', J2, rfl, z⟩
    | next => exact hq.elim
    | brk => exact hq.elim
    | cont => exact hq.elim
end
end Cov

/-! CovX: instances: made, their fields; exceptions: raised, caught. -/
namespace Cov
open PySem L2 PySem.Spec PyProof.Rows
/-- while an exception is held -/
def CLT.hold (CL : CLT) (a d : Addr) (f : Str) (k : Int) : CLT := { CL with ex := some (a, d, f, k) }
section
variable {K : PySem.W.Frag} {CL : CLT} {W : WX} {cf : CF} {ios : Str → List Bool} {io : List Bool}
variable {F F1 H H1 : Hp} {σ σ1 : L2.St} {ρ ρ1 : Env} {ft ft1 : Ft} {A A' : List Nat} {D : Ends} {Q : VK}
/-! ### make -/
def tMakeS (C : Addr) (sp : Sp) (E : L2.St → XK) (t : TA) : TE := fun σ H Q => t σ H fun vs H1 => ∀ x dx, H1 x = none → H1 dx = none → dx ≠ x → sp (.ref x :: vs) (upd (upd H1 dx (.own x)) x (.ins C dx [])) (fun v H2 => v = .non ∧ Q (.ref x) H2) (E σ)
theorem tE_make {c : Str} {es : List E} {C : Addr} (hC : ClsOk K CL c [] C) (h : tE K CL W cf ios (.make c es) σ H Q) : tMakeS C (spF K CL cf c (ios c)) (WE W) (tL K CL W cf ios es) σ H Q := by
  obtain ⟨F, ρ, ft, R, h⟩ := h
  simp only [runE] at h
  exact ⟨F, ρ, ft, R, wsh_bnd h fun r ρ1 v H1 F1 ft1 fp R1 s1 x n p h => fun a dx na nd ne => doMake_ok R1 s1 x n rfl hC na nd ne h fun _ _ _ => Iff.rfl⟩
/-! ### fields -/
theorem PathV.fld {v : V} {f : Str} {a C dx : Addr} {fs : List (Str × V)} {u : V} {p : List Sel} {v0 : V} (h : PathV H v0 p v) (e : v = .ref a) (ea : H a = some (.ins C dx fs)) (l : fs.lookup f = some u) : PathV H v0 (p ++ [.fld f]) u :=
  h.app (show PathV H v [.fld f] u from ⟨a, C, dx, fs, u, e, ea, l, rfl⟩)
theorem tE_fld {a : E} {f : Str} (h : tE K CL W cf ios (.fld a f) σ H Q) : tFld K (tE K CL W cf ios a) f σ H Q := by
  obtain ⟨F, ρ, ft, R, h⟩ := h
  simp only [runE] at h
  refine ⟨F, ρ, ft, R, wsh_bnd h fun r ρ1 v H1 F1 ft1 fp R1 s1 x n p h => ?_⟩
  obtain ⟨d, e1, h2⟩ := wsh_opt h
  clear h
  obtain ⟨e, e2, h⟩ := wsh_opt h2
  clear h2
  obtain ⟨fp', r1⟩ := x.rd R1 e1
  cases d with
  | ins o c fn fv =>
    have hl : lkp f fn fv = some e := by simpa [getS] using e2
    have main : ∃ (b C dx : Addr) (fs : List (Str × V)) (fpr : List Addr), v = .ref b ∧ ClsOk K CL c fn C ∧ H1 b = some (.ins C dx fs) ∧ fs.map (·.1) = fn ∧ Reps K CL F1 H1 fv (fs.map (·.2)) fpr := by
      cases o with
      | fz =>
        simp only [Rep] at r1
        obtain ⟨_, b, C, dx, fs, eb, hc, hb, hn, rs⟩ := r1
        exact ⟨b, C, dx, fs, [], eb, hc, R1.sub _ _ hb, hn, rs⟩
      | ow =>
        simp only [Rep] at r1
        obtain ⟨b, C, dx, fs, fpr, eb, ef, hc, hb, _, hn, rs⟩ := r1
        exact ⟨b, C, dx, fs, fpr, eb, hc, hb, hn, rs⟩
      | lk => simp only [Rep] at r1
    obtain ⟨b, C, dx, fs, fpr, eb, ⟨c1, c2, c3⟩, hb, rfl, rs⟩ := main
    obtain ⟨u, fpu, l1, l2, l3⟩ := lkp_rep rs hl
    have hf : f ∈ fs.map (·.1) := by
      clear rs h e1 e2 x r1 hb c3 hl
      induction fs with
      | nil => simp at l1
      | cons q fs ih =>
        obtain ⟨g, y⟩ := q
        by_cases hg : f = g
        · simp [hg]
        · have : (f == g) = false := by simpa using hg
          rw [List.lookup, this] at l1
          exact List.mem_cons_of_mem _ (ih l1)
    refine ⟨b, C, dx, fs, u, eb, hb, c2, c3 f hf, l1, ?_⟩
    by_cases hz : isFz e = true
    · rw [if_pos hz] at h
      have z := l2.fz_nil hz
      subst z
      exact h u H1 F1 ft1 [] R1 s1 ⟨l2, List.nodup_nil, fun _ z => nomatch z⟩ (fun _ z => nomatch z) (fun z => p (by simpa [pureE] using z))
    · rw [if_neg hz] at h
      cases r with
      | val d => exact h.elim
      | «at» i pp =>
        obtain ⟨hfp, v0, e0, pv⟩ := x
        exact h u H1 F1 ft1 [] R1 s1 ⟨rfl, v0, e0, pv.fld eb hb l1⟩ (fun _ z => nomatch z) (fun z => p (by simpa [pureE] using z))
  | _ => simp [getS] at e2
/-- n.f, n the exception that is held -/
def tHeld (CL : CLT) (i : Nat) (f : Str) : TE := fun σ H Q => tVar i σ H fun x H1 => ∃ a d k, CL.ex = some (a, d, f, k) ∧ x = .ref a ∧ H1 d = some (.xd [(f, .int k)]) ∧ Q (.int k) H1
theorem tE_exf {i : Nat} {f : Str} (h : tE K CL W cf ios (.exf i f) σ H Q) : tHeld CL i f σ H Q := by
  obtain ⟨F, ρ, ft, R, h⟩ := h
  simp only [runE] at h
  split at h
  · rename_i g k e
    split at h
    · rename_i hg
      subst hg
      obtain ⟨v, e1, r⟩ := R.rep i _ e
      simp only [Rep] at r
      obtain ⟨_, a, d, f, k', q1, q2, q3, rfl⟩ := r
      cases q2
      cases q3
      exact ⟨_, e1, a, d, k, q1, rfl, R.sub _ _ (R.exc a d _ k q1), h (.int k) H F ft [] R .refl ⟨rep_int, List.nodup_nil, fun _ z => nomatch z⟩ (fun _ z => nomatch z) fun _ => .refl⟩
    · exact h.elim
  · exact h.elim
/-! ### a field is stored -/
theorem putF_new : ∀ {f : Str} {y : V} {fs : List (Str × V)}, f ∉ fs.map (·.1) → putF f y fs = fs ++ [(f, y)]
  | f, y, [], _ => rfl
  | f, y, (g, x) :: fs, h => by
    simp only [List.map_cons, List.mem_cons, not_or] at h
    show (if g = f then _ else _) = _
    rw [if_neg (fun z => h.1 z.symm), putF_new h.2]
    rfl
theorem tS_setFld {i : Nat} {c f : Str} {e : E} (hN : ∀ C, CL.cl c = some C → NoAttr K C f) (h : tS K CL W cf ios io (.setFld (.v i) c f e) D σ H) : sFld K (tVar i) (tE K CL W cf ios e) f D σ H := by
  obtain ⟨F, ρ, ft, R, h⟩ := h
  simp only [runS] at h
  refine ⟨F, ρ, ft, R, wS_bnd h fun r ρ1 v H1 F1 ft1 fp R1 s1 x n p h => ?_⟩
  obtain ⟨⟨y1, y2⟩, e1, h⟩ := wS_opt h
  obtain ⟨F5, ft5, R5, s5, r5, nd5, o5⟩ := tk_ok R1 x e1
  obtain ⟨d, e2, h⟩ := wS_opt h
  split at h
  · rename_i c' fn fv
    obtain ⟨hc, h⟩ := wS_ite h rfl
    simp only [Bool.and_eq_true, decide_eq_true_eq, Bool.not_eq_true', List.contains_eq_mem, decide_eq_false_iff_not] at hc
    obtain ⟨⟨rfl, hnew⟩, hlen⟩ := hc
    obtain ⟨R6, s6⟩ := fz_stp R5 (s1.trans R1 s5) n o5
    have r6 : Rep K CL (fzF F5 H1 fp) H1 (frz y1) v [] := r5.frz (fzF_mono R5.sub) fun a ha => fzF_in ha
    obtain ⟨w, e3, rw_⟩ := R6.rep i _ e2
    simp only [Rep] at rw_
    obtain ⟨a, C, dx, fs, fpr, rfl, ef, ⟨c1, c2, c3⟩, ha, hF, rfl, rs⟩ := rw_
    have hl : fs.length < 1000 := by rw [List.length_map] at hlen; omega
    refine ⟨.ref a, e3, a, C, dx, fs, rfl, ha, c2, hN C c1, hl, ?_⟩
    have hai : a ∈ ft5 i := by rw [ef]; exact List.mem_cons_self
    have ndi := R6.nd i
    rw [ef] at ndi
    obtain ⟨na, _⟩ := List.nodup_cons.mp ndi
    have hk : ∀ b ∈ fpr, upd H1 a (.ins C dx (putF f v fs)) b = H1 b := fun b hb => upd_ne fun z => na (by rw [← z]; exact hb)
    have nfp : ∀ b ∈ fpr, fzF F5 H1 fp b = none := fun b hb => (rs.fp b hb).1
    have rs' : Reps K CL (fzF F5 H1 fp) (upd H1 a (.ins C dx (putF f v fs))) (fv ++ [frz y1]) ((putF f v fs).map (·.2)) (fpr ++ []) := by
      have em : (putF f v fs).map (·.2) = fs.map (·.2) ++ [v] := by rw [putF_new hnew, List.map_append]; rfl
      rw [em]
      exact (rs.mono .refl hk nfp).app (Reps.one (r6.any .refl))
    obtain ⟨R7, s7⟩ := R6.wr (u0 := .ins C dx (putF f v fs)) (d' := .ins .ow c' (fs.map (·.1) ++ [f]) (fv ++ [frz y1])) e2 hai e3 (by
      rw [ef]
      simp only [Rep]
      refine ⟨a, C, dx, putF f v fs, fpr, rfl, rfl, ⟨c1, c2, fun g hg => ?_⟩, upd_same, hF, by rw [putF_new hnew, List.map_append]; rfl, by rw [← List.append_nil fpr]; exact rs'⟩
      rcases List.mem_append.mp hg with z | z
      · exact c3 g z
      · cases List.mem_singleton.mp z
        exact hN C c1)
    exact h _ _ _ _ R7 (s6.trans R6 s7) fun _ _ => rfl
  · exact h.elim
/-! ### raise -/
theorem tS_rai {c : Str} {C : Addr} (hC : CL.xc c = some C) (h : tS K CL W cf ios io (.rai c none) D σ H) : W (.ref C) none σ H := by
  obtain ⟨F, ρ, ft, R, h⟩ := h
  simp only [runS] at h
  exact h _ _ _ _ _ _ R .refl (fun _ _ => rfl) ⟨C, hC, rfl, rfl⟩
theorem tS_raiF {c f : Str} {e : E} {C : Addr} (hC : CL.xc c = some C) (h : tS K CL W cf ios io (.rai c (some (f, e))) D σ H) : tE K CL W cf ios e σ H fun v H1 => ∀ d, H1 d = none → W (.ref C) (some d) σ (upd H1 d (.xd [(f, v)])) := by
  obtain ⟨F, ρ, ft, R, h⟩ := h
  simp only [runS] at h
  refine ⟨F, ρ, ft, R, wS_bnd h fun r ρ1 v H1 F1 ft1 fp R1 s1 x n p h => fun d hd => ?_⟩
  split at h
  · rename_i k e1
    obtain ⟨fp', r1⟩ := x.rd R1 e1
    cases r1.int_
    have Fd : F1 d = none := by
      cases q : F1 d with
      | none => rfl
      | some o => rw [R1.sub d o q] at hd; cases hd
    have ps : Pst F1 H1 (upd F1 d (.xd [(f, .int k)])) (upd H1 d (.xd [(f, .int k)])) := by
      refine ⟨fun b o e => ?_, fun b o e => ?_, fun b o e => ?_, fun b o e => ?_⟩
      · rw [upd_ne (fun z => by rw [z, hd] at e; cases e)]; exact e
      · rw [upd_ne (fun z => by rw [z, Fd] at e; cases e)]; exact e
      · by_cases z : b = d
        · rw [z, upd_same] at e ⊢; exact e
        · rw [upd_ne z] at e ⊢; exact R1.sub b o e
      · by_cases z : b = d
        · rw [z]; exact .inr hd
        · rw [upd_ne z] at e; exact .inl e
    exact h _ _ _ _ _ _ (R1.pst ps) (s1.trans R1 ps.stp) (fun _ _ => rfl) ⟨C, hC, rfl, d, f, k, rfl, rfl, upd_same⟩
  · exact h.elim
/-! ### try -/
theorem Rel.hold {a d : Addr} {f : Str} {k : Int} (R : Rel K CL F H σ ρ ft) (n : CL.ex = none) (e : F d = some (.xd [(f, .int k)])) : Rel K (CL.hold a d f k) F H σ ρ ft :=
  ⟨R.sub, R.len, fun i x ex => let ⟨v, e1, r⟩ := R.rep i x ex; ⟨v, e1, r.re (CL := CL) (CL' := CL.hold a d f k) rfl (.inl n)⟩, R.emp, R.nd, R.dis, fun a' d' f' k' z => by
    simp only [CLT.hold, Option.some.injEq, Prod.mk.injEq] at z
    obtain ⟨_, rfl, rfl, rfl⟩ := z
    exact e⟩
theorem clr_gt {i : Nat} : gt (clr ρ) i = match gt ρ i with
    | some d => if noDic d then some d else none
    | none => none := by
  unfold clr gt
  rw [List.getElem?_map]
  cases ρ[i]? with
  | none => rfl
  | some o =>
    cases o with
    | none => rfl
    | some d =>
      simp only [Option.map_some]
      by_cases h : noDic d = true
      · simp [h]
      · simp [h]
theorem clr_some {i : Nat} {x : Cov.D} (h : gt (clr ρ) i = some x) : gt ρ i = some x ∧ noDic x = true := by
  rw [clr_gt] at h
  cases e : gt ρ i with
  | none => rw [e] at h; cases h
  | some d =>
    rw [e] at h
    simp only at h
    split at h
    · cases h; exact ⟨rfl, by assumption⟩
    · cases h
theorem clr_len : (clr ρ).length = ρ.length := by simp [clr]
open Classical in
noncomputable def clrF (ρ : Env) (ft : Ft) : Ft := fun j => if (gt (clr ρ) j).isSome then ft j else []
theorem clrF_mem {a : Addr} {j : Nat} (h : a ∈ clrF ρ ft j) : a ∈ ft j := by
  unfold clrF at h
  split at h
  · exact h
  · cases h
theorem Rel.unhold {a d : Addr} {f : Str} {k : Int} {i : Nat} {o : Option V} (R : Rel K (CL.hold a d f k) F H σ ρ ft) (n : CL.ex = none) : Rel K CL F H (σ.set i o) (clr (ρ.set i none)) (clrF (ρ.set i none) (upF ft i [])) := by
  have R1 := R.drop (i := i)
  refine ⟨R1.sub, by rw [List.length_set, clr_len]; exact R1.len, fun j x ex => ?_, fun j ex => ?_, fun j => ?_, fun j k a h1 h2 => R1.dis j k a (clrF_mem h1) (clrF_mem h2), fun a' d' f' k' q => by rw [n] at q; cases q⟩
  · obtain ⟨e0, nd⟩ := clr_some ex
    obtain ⟨v, e1, r⟩ := R1.rep j x e0
    have hj : j ≠ i := fun q => by
      rw [q, gt_set, if_pos rfl] at e0
      split at e0 <;> cases e0
    refine ⟨v, by rw [List.getElem?_set_ne (fun q => hj q.symm)]; exact e1, ?_⟩
    simp only [clrF, ex, Option.isSome_some, if_true]
    exact r.re (CL := CL.hold a d f k) (CL' := CL) rfl (.inr nd)
  · simp only [clrF, ex, Option.isSome_none, Bool.false_eq_true, if_false]
  · unfold clrF
    split
    · exact R1.nd j
    · exact List.nodup_nil
theorem asg_try {b hs : List S} {c : Str} {a : Option (Nat × Str)} : (∀ j, j ∈ asgL b → j ∈ asg (.try_ b c a hs)) ∧ (∀ j, j ∈ asgL hs → j ∈ asg (.try_ b c a hs)) ∧ ∀ i f, a = some (i, f) → i ∈ asg (.try_ b c a hs) := by
  refine ⟨fun j z => ?_, fun j z => ?_, fun i f e => ?_⟩
  · simp only [asg, List.mem_append]; exact .inl (.inl z)
  · simp only [asg, List.mem_append]; exact .inr z
  · subst e; simp [asg]
/-- .. without a name -/
theorem tS_try {b hs : List S} {c : Str} {C : Addr} (hC : CL.xc c = some C) (hm : PySem.W.exmOne K (.ref C) (.ref C) = some true) (h : tS K CL W cf ios io (.try_ b c none hs) D σ H) :
    tSs K CL (wMany K W D [(.ref C, fun _ _ _ => tSs K CL W0 cf ios io hs)]) cf ios io b D σ H := by
  obtain ⟨F, ρ, ft, R, h⟩ := h
  obtain ⟨sb, sh, _⟩ := asg_try (b := b) (hs := hs) (c := c) (a := none)
  simp only [runS] at h
  refine ⟨F, ρ, ft, R, ?_⟩
  generalize asg (.try_ b c none hs) = A at h sb sh
  cases hr : runSs cf ios io b ρ with
  | none => rw [hr] at h; exact h
  | some o =>
    rw [hr] at h
    cases o with
    | ex x d ρ1 =>
      simp only at h
      intro cls dd σ' H' F' ft' R' s' k' xo
      obtain ⟨C', e1, rfl, _⟩ := xo
      split at h
      · rename_i hx
        subst hx
        rw [hC] at e1
        cases e1
        refine ⟨true, hm, fun _ a na => ⟨F', ρ1, ft', R', ?_⟩, fun z => nomatch z⟩
        have h := h.stp R' s' (k'.le sb) sh
        cases hq : runSs cf ios io hs ρ1 with
        | none => rw [hq] at h; exact h
        | some o =>
          rw [hq] at h
          cases o with
          | ex c d ρ2 => exact h.elim
          | ok fl ρ2 => cases fl <;> exact h
      · exact h.elim
    | ok fl ρ1 =>
      simp only at h
      cases fl with
      | nx => exact fun σ' H' F' ft' R' s' k' => h σ' H' F' ft' R' s' (k'.le sb)
      | bk => exact fun σ' H' F' ft' R' s' k' => h σ' H' F' ft' R' s' (k'.le sb)
      | ct => exact fun σ' H' F' ft' R' s' k' => h σ' H' F' ft' R' s' (k'.le sb)
      | rt d => exact fun v fp σ' H' F' ft' R' s' k' r nd o n => h v fp σ' H' F' ft' R' s' (k'.le sb) r nd o n
/-- .. with a name -/
theorem tS_tryAs {b hs : List S} {c f : Str} {i : Nat} {C : Addr} (hC : CL.xc c = some C) (hm : PySem.W.exmOne K (.ref C) (.ref C) = some true) (hx : CL.ex = none) (h : tS K CL W cf ios io (.try_ b c (some (i, f)) hs) D σ H) :
    tSs K CL (wAs K (.ref C) i (fun a cls d D' σ' H' => cls = .ref C ∧ ∃ dx k, d = some dx ∧ tSs K (CL.hold a dx f k) W0 cf ios io hs D' σ' H') W D) cf ios io b D σ H := by
  obtain ⟨F, ρ, ft, R, h⟩ := h
  obtain ⟨sb, sh, si0⟩ := asg_try (b := b) (hs := hs) (c := c) (a := some (i, f))
  have si := si0 i f rfl
  clear si0
  simp only [runS] at h
  refine ⟨F, ρ, ft, R, ?_⟩
  generalize asg (.try_ b c (some (i, f)) hs) = A at h sb sh si
  cases hr : runSs cf ios io b ρ with
  | none => rw [hr] at h; exact h
  | some o =>
    rw [hr] at h
    cases o with
    | ex x d ρ1 =>
      simp only at h
      intro cls dd σ' H' F' ft' R' s' k' xo
      obtain ⟨C', e1, rfl, xo⟩ := xo
      split at h
      · rename_i hx'
        subst hx'
        rw [hC] at e1
        cases e1
        refine ⟨true, hm, fun _ a na => ?_, fun z => nomatch z⟩
        cases d with
        | none => exact h.elim
        | some x0 =>
          obtain ⟨dx, g, k, rfl, rfl, e3⟩ := xo
          simp only at h
          split at h
          · rename_i hg
            subst hg
            refine ⟨rfl, dx, k, rfl, ?_⟩
            have hk : Kept A σ (σ'.set i (some (.ref a))) := fun j n => by
              rw [List.getElem?_set_ne (fun q => n (by rw [← q]; exact si))]
              exact k' j fun q => n (sb j q)
            have R2 : Rel K (CL.hold a dx g k) F' H' (σ'.set i (some (.ref a))) (ρ1.set i (some (.dic .fz [.str g] [.int k]))) (if i < ρ1.length then upF ft' i [] else ft') :=
              (R'.hold hx e3).put (i := i) (d := .dic .fz [.str g] [.int k]) (v := .ref a) (fp := []) (by
                simp only [Rep, CLT.hold]
                exact ⟨trivial, a, dx, g, k, rfl, rfl, rfl, rfl⟩) List.nodup_nil fun _ z => nomatch z
            have s2 : Stp F H ft F' H' (if i < ρ1.length then upF ft' i [] else ft') := put_stp s' fun _ z => nomatch z
            refine ⟨F', _, _, R2, ?_⟩
            have kk : ∀ {σ3 : L2.St}, Kept (asgL hs) (σ'.set i (some (.ref a))) σ3 → Kept A σ (σ3.set i none) := fun {σ3} k3 j n => by
              rw [List.getElem?_set_ne (fun q => n (by rw [← q]; exact si)), k3 j fun q => n (sh j q)]
              exact hk j n
            have ss : ∀ {F3 H3 : Hp} {ft3 : Ft} {ρ3 : Env}, Stp F' H' (if i < ρ1.length then upF ft' i [] else ft') F3 H3 ft3 → Stp F H ft F3 H3 (clrF (ρ3.set i none) (upF ft3 i [])) := fun {F3 H3 ft3 ρ3} s3 => by
              have s4 := s2.trans R2 s3
              refine ⟨s4.fr, s4.dom, fun j b hb => ?_, s4.fro, s4.mono⟩
              have hb := clrF_mem hb
              by_cases q : j = i
              · rw [q, upF_same] at hb; cases hb
              · rw [upF_ne q] at hb; exact s4.own j b hb
            cases hq : runSs cf ios io hs (ρ1.set i (some (.dic .fz [.str g] [.int k]))) with
            | none => rw [hq] at h; exact h
            | some o =>
              rw [hq] at h
              cases o with
              | ex c d ρ2 => exact h.elim
              | ok fl ρ2 =>
                simp only at h
                obtain ⟨hz, h⟩ := wS_ite h rfl
                have z2 := hz
                cases fl with
                | nx => exact fun σ3 H3 F3 ft3 R3 s3 k3 => h _ H3 F3 _ (R3.unhold hx) (ss s3) (kk k3)
                | bk => exact fun σ3 H3 F3 ft3 R3 s3 k3 => h _ H3 F3 _ (R3.unhold hx) (ss s3) (kk k3)
                | ct => exact fun σ3 H3 F3 ft3 R3 s3 k3 => h _ H3 F3 _ (R3.unhold hx) (ss s3) (kk k3)
                | rt d =>
                  intro v fp σ3 H3 F3 ft3 R3 s3 k3 r nd o n
                  refine h v fp _ H3 F3 _ (R3.unhold hx) (ss s3) (kk k3) (r.re (CL := CL.hold a dx g k) (CL' := CL) rfl (.inr z2)) nd (fun b hb j q => ?_) (n.stp s2)
                  have q := clrF_mem q
                  by_cases hj : j = i
                  · rw [hj, upF_same] at q; cases q
                  · rw [upF_ne hj] at q; exact o b hb j q
          · exact h.elim
      · exact h.elim
    | ok fl ρ1 =>
      simp only at h
      cases fl with
      | nx => exact fun σ' H' F' ft' R' s' k' => h σ' H' F' ft' R' s' (k'.le sb)
      | bk => exact fun σ' H' F' ft' R' s' k' => h σ' H' F' ft' R' s' (k'.le sb)
      | ct => exact fun σ' H' F' ft' R' s' k' => h σ' H' F' ft' R' s' (k'.le sb)
      | rt d => exact fun v fp σ' H' F' ft' R' s' k' r nd o n => h v fp σ' H' F' ft' R' s' (k'.le sb) r nd o n
/-! ### list(range(n)), tuple(range(n)) -/
theorem ranged_reps {F H : Hp} (j : Int) : Reps K CL F H (ranged 0 j) (rgV 0 j) [] := by
  refine Reps.ext (by simp [ranged, rgV]) fun i d e => ?_
  simp only [ranged, List.getElem?_map, Option.map_eq_some_iff] at e
  obtain ⟨n, e1, rfl⟩ := e
  exact ⟨.int (0 + (n : Int)), by simp only [rgV, List.getElem?_map, e1, Option.map_some], rep_int⟩
theorem tE_lrg {t : Bool} {a : E} (h : tE K CL W cf ios (.lrg t a) σ H Q) : if t then tTupRg (tRg1 (tE K CL W cf ios a)) σ H Q else tLstRg (tRg1 (tE K CL W cf ios a)) σ H Q := by
  obtain ⟨F, ρ, ft, R, h⟩ := h
  simp only [runE] at h
  have main : wsh K CL W (runE cf ios a ρ) σ F H ft (pureE a) (fun F' H' ft' r v fp => ResOk K CL F' H' σ ft' r v fp) fun x H1 => ∃ n, x = V.int n ∧ RgOk 0 n ∧ if t then ∀ q, H1 q = none → Q (.ref q) (upd H1 q (.tup (rgV 0 n))) else ∀ q, H1 q = none → Q (.ref q) (upd H1 q (.lst (rgV 0 n))) := by
    refine wsh_bnd h fun r ρ1 v H1 F1 ft1 fp R1 s1 x n p h => ?_
    split at h
    · rename_i j e
      obtain ⟨fp', r1⟩ := x.rd R1 e
      cases r1.int_
      obtain ⟨hc, h⟩ := wsh_ite h rfl
      simp only [Bool.and_eq_true, decide_eq_true_eq] at hc
      refine ⟨j, rfl, ⟨by omega, by omega, by omega, by omega, by omega⟩, ?_⟩
      cases t with
      | true => exact fun q hq => tup_ends R1.sub hq (ranged_reps j) (ok_val R1 s1 (fun z => by simp [pureE] at z) h)
      | false => exact fun q hq => list_ends R1.sub hq (ranged_reps j) (ok_val R1 s1 (fun z => by simp [pureE] at z) h)
    · exact h.elim
  cases t with
  | true => exact ⟨F, ρ, ft, R, main⟩
  | false => exact ⟨F, ρ, ft, R, main⟩
/-! ### xs[i] += e -/
def rIxP (K : PySem.W.Frag) : V → V → Hp → VK → Prop := fun x y H Q => ∃ p xs i v, x = .ref p ∧ y = .int i ∧ 0 ≤ i ∧ SqL K H p xs ∧ xs[i.toNat]? = some v ∧ Q v H
theorem get_pos {X : Cx} : PGet X (rIxP X.K) := by
  intro pins s σ H o i ov iv Q I ro ri h
  obtain ⟨p, xs, k, z, rfl, rfl, h0, hs, he, q⟩ := h
  cases ro
  obtain ⟨t, rfl⟩ := ri
  obtain ⟨its, r, pl, hz⟩ := I.list hs
  obtain ⟨w, ew, rw'⟩ := r.get he
  have hl := r.length
  have hi := (List.getElem?_eq_some_iff.mp he).1
  have hn := line63
  exact wpAny_getItem_list pl.isList h0 (by omega) (by simpa using ew) ⟨z, H, I, rw', q⟩
def augIp (o : O2) : TIp := match o with
  | .add => ipI fun i j => i + j
  | _ => ipI fun i j => i - j
theorem tS_augIx {i : Nat} {j e : E} {o : O2} (h : tS K CL W cf ios io (.augIx (.v i) j o e) D σ H) : tAugS (tVar i) (tE K CL W cf ios j) (tE K CL W cf ios e) (rIxP K) (augIp o) rSetL D σ H := by
  obtain ⟨F, ρ, ft, R, h⟩ := h
  simp only [runS] at h
  obtain ⟨d0, e0, h⟩ := wS_opt h
  obtain ⟨v0, ev0, _⟩ := R.rep i d0 e0
  refine ⟨v0, ev0, F, ρ, ft, R, wS_bnd h fun rj ρ1 vj H1 F1 ft1 fp R1 s1 x n p h => ?_⟩
  split at h
  · rename_i k ek
    obtain ⟨fpj, rj1⟩ := x.rd R1 ek
    cases rj1.int_
    obtain ⟨d, e1, h⟩ := wS_opt h
    split at h
    · rename_i ds
      obtain ⟨hk, h⟩ := wS_ite h rfl
      simp only [decide_eq_true_eq] at hk
      obtain ⟨l, ys, g1, g2, g3, g4, g5⟩ := R1.lst e1
      rw [ev0] at g1
      cases g1
      split at h
      · rename_i x0 e2
        obtain ⟨w, e3, r3⟩ := g5.get e2
        cases r3.int_
        refine ⟨l, ys, k, _, rfl, rfl, hk, .of g3, e3, F1, ρ1, ft1, R1, wS_bnd (h.stp R1 s1 (fun _ _ => rfl) fun _ z => z) fun r ρ2 v H2 F2 ft2 fp2 R2 s2 x2 n2 p2 h => ?_⟩
        split at h
        · rename_i y ey
          obtain ⟨fpy, ry⟩ := x2.rd R2 ey
          cases ry.int_
          obtain ⟨z, ez, h⟩ := wS_opt h
          obtain ⟨d2, e4, h⟩ := wS_opt h
          split at h
          · rename_i ds2
            obtain ⟨q, e5, h⟩ := wS_opt h
            obtain ⟨l2, ys2, k1, k2, k3, k4, k5⟩ := R2.lst e4
            rw [ev0] at k1
            cases k1
            obtain ⟨R7, s7⟩ := R2.wrLst e4 ev0 k2 (k5.set (i := q) (d := .int z) (v := .int z) rep_int)
            have fin : rSetL (.ref l) (.int k) (.int z) H2 fun H6 => D.nx σ H6 := ⟨l, ys2, k, q, rfl, rfl, k3, by rw [k5.length]; exact e5, h _ _ _ _ R7 (s2.trans R2 s7) fun _ _ => rfl⟩
            cases o <;> simp only [augF, reduceCtorEq, Option.some.injEq] at ez
            · subst ez; exact ⟨_, _, rfl, rfl, fin⟩
            · subst ez; exact ⟨_, _, rfl, rfl, fin⟩
          · exact h.elim
        · exact h.elim
      · exact h.elim
    · exact h.elim
  · exact h.elim
theorem tS_aug {i : Nat} {e : E} {o : O2} (h : tS K CL W cf ios io (.aug i o e) D σ H) : tAug i (tE K CL W cf ios e) (augIp o) D σ H := by
  obtain ⟨F, ρ, ft, R, h⟩ := h
  simp only [runS] at h
  obtain ⟨d0, e0, h⟩ := wS_opt h
  obtain ⟨v0, ev0, r0⟩ := R.rep i d0 e0
  split at h
  · rename_i x
    cases r0.int_
    refine ⟨.int x, ev0, F, ρ, ft, R, wS_bnd h fun r ρ1 v H1 F1 ft1 fp R1 s1 x2 n p h => ?_⟩
    split at h
    · rename_i y ey
      obtain ⟨fpy, ry⟩ := x2.rd R1 ey
      cases ry.int_
      obtain ⟨z, ez, h⟩ := wS_opt h
      have fin : D.nx (σ.set i (some (.int z))) H1 := h _ _ F1 _ (R1.put (rep_int (i := z)) List.nodup_nil fun _ z => nomatch z) (put_stp s1 fun _ z => nomatch z) (put_kept (by simp [asg]))
      cases o <;> simp only [augF, reduceCtorEq, Option.some.injEq] at ez
      · subst ez; exact ⟨_, _, rfl, rfl, fin⟩
      · subst ez; exact ⟨_, _, rfl, rfl, fin⟩
    · exact h.elim
  · exact h.elim
end
end Cov

/-! Cov14: the look at an expression of the text, and what it proves. -/
namespace Cov
open PySem L2

/-- the classes of a text: those that are made, the fields that are stored, the exceptions that are raised with a text, with a field -/
structure CT where
  mks : List Str
  fls : List (Str × Str)
  exs : List Str
  exn : List (Str × Str)
  /-- defs that may be called within an except suite -/
  hfs : List Str
structure Ck where
  N : List Str
  sc : Scope
  fn : Str → Bool
  bl : List Str
  fs : List Str
  gc : List (Str × Int)
  ct : CT
  /-- within an except suite -/
  hot : Bool
  /-- the body of a def -/
  stm : Bool
  /-- the exception that is held: its slot, its name, its field -/
  exc : Option (Nat × Str × Str)
def Ck.vis (C : Ck) (x : Str) : Bool := decide (C.sc.names.lookup x = some .local) || (decide (C.sc.names.lookup x = some .cell) || decide (C.sc.names.lookup x = some .free))
def Ck.loc (C : Ck) (x : Str) : Bool := decide (C.sc.names.lookup x = some .local) || (decide (C.sc.names.lookup x = some .cell) && C.fn x)
def Ck.gl (C : Ck) (x : Str) : Bool := decide (C.sc.names.lookup x = some .globalImplicit)
def okName (x : Str) : Bool := !(x == ("__debug__" : Str)) && !(x == ("__classdict__" : Str))
def Ck.slot (C : Ck) (i : Nat) (x : Str) : Bool := decide (C.N[i]? = some x) && C.vis x && okName x
def Ck.put (C : Ck) (i : Nat) (x : Str) : Bool := decide (C.N[i]? = some x) && C.loc x
def Ck.clm (C : Ck) : Bool := !C.hot
def Ck.blt (C : Ck) (x : Str) : Bool := C.bl.any (fun y => decide (y = x)) && C.gl x
def notStar : Expr → Bool
  | .Starred _ _ => false
  | _ => true
def notSlice : Expr → Bool
  | .Slice _ _ _ _ => false
  | _ => true
def notSuper : Expr → Bool
  | .Name _ _ => true
  | .Attribute _ _ _ => true
  | .Subscript _ _ _ => true
  | .Call _ (_ :: _) _ _ => true
  | _ => false
def notSet : Expr → Bool
  | .Set _ _ _ => false
  | _ => true
def notComp : Expr → Bool
  | .ListComp _ _ _ _ => false
  | .SetComp _ _ _ _ => false
  | .DictComp _ _ _ _ _ => false
  | _ => true
def constOk : D → Expr → Bool
  | .int i, .Constant (.int j) _ _ => decide (i = j)
  | .bl i, .Constant (.bool j) _ _ => decide (i = j)
  | .str i, .Constant (.str j) _ _ => decide (i = j)
  | .non, .Constant .none _ _ => true
  | _, _ => false
/-- built-in names of one place -/
def nm1 : O1 → Option Str
  | .len => some "len"
  | .int_ => some "int"
  | .tuple_ => some "tuple"
  | .list_ => some "list"
  | .max_ => some "max"
  | .min_ => some "min"
  | .sum_ => some "sum"
  | .abs_ => some "abs"
  | _ => none
/-- .. that ask for a state in which no exception is held -/
def need1 : O1 → Bool
  | .max_ => true
  | .min_ => true
  | .sum_ => true
  | _ => false
/-- .. of two places -/
def nm2 : O2 → Option Str
  | .max2 => some "max"
  | .min2 => some "min"
  | _ => none
def bop : O2 → Option Operator
  | .add => some .Add
  | .sub => some .Sub
  | .mul => some .Mult
  | .fdiv => some .FloorDiv
  | .mod => some .Mod
  | .pow => some .Pow
  | _ => none
def cop : O2 → Option CmpOp
  | .eq => some .Eq
  | .ne => some .NotEq
  | .lt => some .Lt
  | .le => some .LtE
  | .gt => some .Gt
  | .ge => some .GtE
  | .is_ => some .Is
  | .isnot => some .IsNot
  | .in_ => some .In
  | .notin => some .NotIn
  | _ => none
def blkB (C : Ck) (scope : Scope) (ow : List Nat) : Bool :=
  decide (scope.kind = .function) && scope.names.all (fun y => decide (scope.names.lookup y.1 = some y.2)) && ow.all (fun i => decide (i < C.N.length)) &&
  scope.names.all (fun y => !decide (y.2 = .free) || (decide (C.sc.names.lookup y.1 = some .cell) || decide (C.sc.names.lookup y.1 = some .free))) &&
  scope.names.all (fun y => !(decide (y.2 = .local) || decide (y.2 = .cell)) || (ow.any (fun i => decide (C.N[i]? = some y.1)) || !(C.N.any fun z => decide (z = y.1))))
def Ck.blk (C : Ck) (scope : Scope) : Ck := { C with sc := relS scope C.sc, fn := fun x => scope.names.lookup x == some .cell, stm := false, exc := none, ct := { C.ct with hfs := [] } }

mutual
def chkT (C : Ck) : Tg → Expr → Bool
  | .nm i, a => match a with
    | .Name x _ => C.put i x
    | _ => false
  | .tp ts, a => match a with
    | .Tuple es _ _ => chkTs C ts es && C.clm
    | _ => false
def chkTs (C : Ck) : List Tg → List Expr → Bool
  | [], es => es.isEmpty
  | t :: ts, es => match es with
    | e :: es => notStar e && chkT C t e && chkTs C ts es
    | [] => false
end
mutual
def chkE (C : Ck) : E → Expr → Bool
  | .c d, a => constOk d a
  | .v i, a => match a with
    | .Name x _ => C.slot i x
    | _ => false
  | .g x d, a => match a with
    | .Name y _ => decide (y = x) && C.gl x && okName x && (match d with
      | .int i => C.gc.any (fun p => decide (p.1 = x) && decide (p.2 = i))
      | _ => false)
    | _ => false
  | .o1 o e, a => match a with
    | .UnaryOp .USub x _ => decide (o = .neg) && chkE C e x
    | .Subscript x (.Slice none none (some (.UnaryOp .USub (.Constant (.int i) _ _) _)) _) _ => decide (o = .rev) && decide (i = 1) && chkE C e x
    | .Call (.Name f _) [x] [] _ => if nm1 o = some f then C.blt f && notStar x && chkE C e x && (!need1 o || C.clm)
      else (match x with
        | .Call (.Name g _) [y] [] _ => decide (o = .sortedset) && decide (f = "sorted") && decide (g = "set") && C.blt f && C.blt g && notStar y && chkE C e y && C.clm
        | _ => false)
    | .Call (.Name f _) [x, .Name ty _] [] _ => (match o with
        | .isinst t => decide (f = "isinstance") && decide (ty = Str.ofString t) && (tyId t).isSome && C.blt f && C.blt ty && notStar x && chkE C e x
        | _ => false)
    | _ => false
  | .o2 o e e', a => match a with
    | .BinOp x op y _ => decide (bop o = some op) && chkE C e x && chkE C e' y
    | .Compare x [op] [y] _ => decide (cop o = some op) && chkE C e x && chkE C e' y && notSet y
    | .Subscript x y _ => decide (o = .ix) && notSlice y && chkE C e x && chkE C e' y
    | .Call (.Name f _) [x, y] [] _ => decide (nm2 o = some f) && C.blt f && notStar x && notStar y && chkE C e x && chkE C e' y && C.clm
    | _ => false
  | .slc e lo hi, a => match a with
    | .Subscript x (.Slice l h none _) _ => chkE C e x && chkP C lo l && chkP C hi h
    | _ => false
  | .ch o o' e e' e'', a => match a with
    | .Compare x [op, op'] [y, z] _ => decide (cop o = some op) && decide (cop o' = some op') && chkE C e x && chkE C e' y && chkE C e'' z && notSet z
    | _ => false
  | .and_ e e', a => match a with
    | .BoolOp .And [x, y] _ => chkE C e x && chkE C e' y
    | .BoolOp .And (x :: y :: z :: r) p => chkE C e x && chkE C e' (.BoolOp .And (y :: z :: r) p)
    | _ => false
  | .or_ e e', a => match a with
    | .BoolOp .Or [x, y] _ => chkE C e x && chkE C e' y
    | .BoolOp .Or (x :: y :: z :: r) p => chkE C e x && chkE C e' (.BoolOp .Or (y :: z :: r) p)
    | _ => false
  | .not_ e, a => match a with
    | .UnaryOp .Not x _ => chkE C e x
    | _ => false
  | .ife t e e', a => match a with
    | .IfExp x y z _ => chkE C t x && chkE C e y && chkE C e' z
    | _ => false
  | .tup es, a => match a with
    | .Tuple xs _ _ => chkL C es xs
    | _ => false
  | .lst nst es, a => match a with
    | .List xs _ => !nst && chkL C es xs
    | _ => false
  | .fld e f, a => match a with
    | .Attribute x g _ => decide (g = f) && notSuper x && chkE C e x
    | _ => false
  | .lrg t e, a => match a with
    | .Call (.Name f _) [.Call (.Name g q) [x] [] p2] [] _ => decide (f = if t then "tuple" else "list") && decide (g = "range") && C.blt f && C.blt g && notStar x && chkE C e x && C.clm
    | _ => false
  | .any, _ => false
  | .exf i f, a => match a with
    | .Attribute (.Name n _) g _ => decide (g = f) && decide (C.exc = some (i, n, f)) && C.slot i n
    | _ => false
  | .call f es, a => match a with
    | .Call (.Name g _) xs [] _ => decide (g = f) && C.gl f && okName f && (C.fs.any (fun y => decide (y = f)) || (C.hot && C.ct.hfs.any (fun y => decide (y = f)))) && !es.isEmpty && chkL C es xs
    | _ => false
  | .meth _ _ _, _ => false
  | .make c es, a => match a with
    | .Call (.Name g _) xs [] _ => decide (g = c) && C.gl c && okName c && C.ct.mks.any (fun y => decide (y = c)) && !es.isEmpty && chkL C es xs
    | _ => false
  | .mu m b es, a => match a with
    | .Call (.Attribute (.Name x q) name ap) xs [] cp => decide (name = muN m) && (ap.endLine == cp.line) && decide (xs.length < 30) && chkE C b (.Name x q) && chkL C es xs
    | _ => false
  | .comp nst ow elt tg it cond, a => match a with
    | .ListComp x [⟨t, i, ifs, 0⟩] scope _ => !nst && notSet i && blkB C scope ow && chkI C it i && chkT (C.blk scope) tg t && chkO (C.blk scope) cond ifs && chkE (C.blk scope) elt x && C.clm
    | _ => false
def chkL (C : Ck) : List E → List Expr → Bool
  | [], xs => xs.isEmpty
  | e :: es, xs => match xs with
    | x :: xs => notStar x && chkE C e x && chkL C es xs
    | [] => false
def chkP (C : Ck) : Option E → Option Expr → Bool
  | none, x => x.isNone
  | some e, x => match x with
    | some x => chkE C e x
    | none => false
def chkO (C : Ck) : Option E → List Expr → Bool
  | none, xs => xs.isEmpty
  | some e, xs => match xs with
    | [x] => chkE C e x
    | _ => false
def chkI (C : Ck) : It → Expr → Bool
  | .r1 e, a => match a with
    | .Call (.Name f _) [x] [] _ => decide (f = "range") && C.blt f && notStar x && chkE C e x
    | _ => false
  | .r2 e e', a => match a with
    | .Call (.Name f _) [x, y] [] _ => decide (f = "range") && C.blt f && notStar x && notStar y && chkE C e x && chkE C e' y
    | _ => false
  | .r3 _ _ _, _ => false
  | .ex e, a => notSet a && chkE C e a
end
end Cov

/-! Cov15: what the look at an expression proves. -/
namespace Cov
open PySem L2

/-- a def that may be called by its name -/
structure Cal (P : Program) (w : World) (K : PySem.W.Frag) (mg : Str → Option Value) (base : Heap) (k : Nat) (x : Str) (sp : Sp) : Prop where
  ex : ∃ (f : Addr) (fd : FuncData) (ps : List Str), FnOk P w K mg base (L2N.CX P w) k f fd ps sp ∧ mg x = some (.ref f) ∧ PySem.W.keepIn K (.ref f) = true ∧ Binds K fd ps []
/-- .. within an except suite -/
structure CalH (P : Program) (w : World) (K : PySem.W.Frag) (mg : Str → Option Value) (base : Heap) (k : Nat) (x : Str) (sp : Sp) : Prop where
  ex : ∃ (f : Addr) (fd : FuncData) (ps : List Str), L2H.FnH P w K mg base (L2N.CX P w) k f fd ps sp ∧ mg x = some (.ref f) ∧ PySem.W.keepIn K (.ref f) = true ∧ Binds K fd ps []
/-- a class that may be made by its name -/
structure Mkl (P : Program) (w : World) (K : PySem.W.Frag) (mg : Str → Option Value) (base : Heap) (CL : CLT) (k : Nat) (x : Str) (sp : Sp) : Prop where
  ex : ∃ (C f : Addr) (fd : FuncData) (ps : List Str), ClsOk K CL x [] C ∧ Mk K C f ∧ FnOk P w K mg base (L2N.CX P w) k f fd ps sp ∧ mg x = some (.ref C) ∧ Binds K fd ps []
/-- an exception that is raised with a text -/
structure ExT (K : PySem.W.Frag) (mg : Str → Option Value) (c : Str) (C : Addr) : Prop where
  gC : mg c = some (.ref C)
  q : PySem.W.excIn K C [.type "ValueError", .type "Exception", .type "BaseException", .type "object"] "ValueError.__new__" = true
  kC : PySem.W.keepIn K (.ref C) = true
  exC : PySem.W.subIn K (.ref C) (.type "BaseException") = some true
  tyC : PySem.W.typeIn K (.ref C) = some (.type "type")
  te : PySem.W.exmOne K (.ref C) (.ref C) = some true
/-- .. with a field -/
structure ExF (P : Program) (w : World) (K : PySem.W.Frag) (mg : Str → Option Value) (base : Heap) (c f : Str) (C : Addr) : Prop where
  gC : mg c = some (.ref C)
  T : OexC K C
  ini : ∃ (fI : Addr) (fd : FuncData), PySem.W.findIn K (.ref C) "__init__" = some (some (.ref fI)) ∧ PySem.W.typeIn K (.ref fI) = some (.type "function") ∧ FnOk P w K mg base CX0 1 fI fd ["self", f] (spInit K f) ∧ Binds K fd ["self", f] []
  ga : PySem.W.findIn K (.ref C) "__getattribute__" = some (some (.builtin "BaseException.__getattribute__"))
  gg : PySem.W.findIn K (.ref C) "__getattr__" = some none
  hd : PySem.W.hasDictIn K C = true
  nf : PySem.W.findIn K (.ref C) f = some none
  te : PySem.W.exmOne K (.ref C) (.ref C) = some true
/-- what is known of the classes of a text -/
structure CtOk (P : Program) (w : World) (K : PySem.W.Frag) (mg : Str → Option Value) (base : Heap) (CL : CLT) (ct : CT) : Prop where
  fls : ∀ p ∈ ct.fls, ∀ C, CL.cl p.1 = some C → NoAttr K C p.2
  exs : ∀ c ∈ ct.exs, ∃ C, CL.xc c = some C ∧ ExT K mg c C
  exn : ∀ p ∈ ct.exn, ∃ C, CL.xc p.1 = some C ∧ ExF P w K mg base p.1 p.2 C
structure XOk (X : Cx) (C : Ck) (cf : CF) (ios : Str → List Bool) (CL : CLT) (W : WX) : Prop where
  tk : L2N.Takes X W
  N : X.N = C.N
  nd : C.N.Nodup
  sc : X.env.scope = C.sc
  calm : C.hot = false → X.calm = true
  fn : X.fn = C.fn
  bl : ∀ x ∈ C.bl, X.mg x = none
  gc : ∀ p ∈ C.gc, ∃ t, X.mg p.1 = some (.int p.2 t)
  un : X.A.units + 80 < cLine
  call : ∀ f ∈ C.fs, ∃ k, Room k X.A ∧ Cal X.prog X.w X.K X.mg X.base k f (spF X.K CL cf f (ios f))
  mkc : ∀ c ∈ C.ct.mks, ∃ k, Room (k + 1) X.A ∧ Mkl X.prog X.w X.K X.mg X.base CL k c (spF X.K CL cf c (ios c))
  ct : CtOk X.prog X.w X.K X.mg X.base CL C.ct
  rx : C.ct.exn ≠ [] → Room 2 X.A
  st : C.stm = true → X.stack = X.env :: X.outer ∧ X.env.frame = some X.env.locals ∧ C.hot = false ∧ C.exc = none
  ex0 : C.hot = false → CL.ex = none
  exc : ∀ i n f, C.exc = some (i, n, f) → ∀ {p pos : Pos}, PE X (.Name n p) (tVar i) → PE X (.Attribute (.Name n p) f pos) (tHeld CL i f)
  hcl : ∀ f ∈ C.ct.hfs, ∃ k, L2H.RoomH k X.A ∧ ∀ CL' : CLT, CalH X.prog X.w X.K X.mg X.base k f (spF X.K CL' cf f (ios f))
  hotc : C.hot = true → C.ct.hfs ≠ [] → L2H.HotC X
theorem XOk.pass {X : Cx} {C : Ck} {cf : CF} {ios : Str → List Bool} {CL : CLT} {W : WX} (ok : XOk X C cf ios CL W) (σ : L2.St) : PassesAt (L2N.CX X.prog X.w) X σ (WE W σ) := L2N.passAt ok.tk σ
theorem takes_W0 {X : Cx} : L2N.Takes X W0 := fun _ _ ⟨_, _, _, _, _, _, _, _, _, _, _, _, _, _, _, _, w⟩ => w.elim
section
variable {X : Cx} {C : Ck} {cf : CF} {ios : Str → List Bool} {CL : CLT} {W : WX}
theorem XOk.vis (ok : XOk X C cf ios CL W) {x : Str} (h : C.vis x = true) : Vis X.env.scope x := by
  unfold Vis
  rw [ok.sc]
  simpa [Ck.vis] using h
theorem XOk.gl (ok : XOk X C cf ios CL W) {x : Str} (h : C.gl x = true) : Gl X x := by
  show X.env.scope.names.lookup x = some .globalImplicit
  rw [ok.sc]
  simpa [Ck.gl] using h
theorem XOk.blt (ok : XOk X C cf ios CL W) {x : Str} (h : C.blt x = true) : Gl X x ∧ X.mg x = none := by
  simp only [Ck.blt, Bool.and_eq_true, List.any_eq_true, decide_eq_true_eq] at h
  obtain ⟨⟨y, hy, rfl⟩, h2⟩ := h
  exact ⟨ok.gl h2, ok.bl y hy⟩
theorem XOk.put (ok : XOk X C cf ios CL W) {i : Nat} {x : Str} (h : C.put i x = true) : X.N[i]? = some x ∧ L2.Loc X.env.scope x ∧ (X.fn x = true ∨ X.env.scope.names.lookup x = some .local) := by
  simp only [Ck.put, Ck.loc, Bool.and_eq_true, Bool.or_eq_true, decide_eq_true_eq] at h
  obtain ⟨h1, h2⟩ := h
  refine ⟨by rw [ok.N]; exact h1, ?_, ?_⟩
  · unfold L2.Loc
    rw [ok.sc]
    exact h2.imp id fun z => z.1
  · rw [ok.sc, ok.fn]
    exact h2.elim .inr fun z => .inl z.2
theorem okName1 {x : Str} (h : okName x = true) : (x == ("__debug__" : Str)) = false ∧ (x == ("__classdict__" : Str)) = false := by
  simpa [okName] using h
theorem XOk.ndN (ok : XOk X C cf ios CL W) : X.N.Nodup := by rw [ok.N]; exact ok.nd
theorem XOk.blk (ok : XOk X C cf ios CL W) (scope : Scope) (s : Shared) (H : Hp) (c : Addr) (cl : List (Str × Addr)) (fp : List Addr) : XOk (X.blk s H scope (compEnvC scope cl c X.env) fp) (C.blk scope) cf ios CL W0 :=
  ⟨takes_W0, ok.N, ok.nd, by show relS scope X.env.scope = relS scope C.sc; rw [ok.sc], ok.calm, rfl, ok.bl, ok.gc, ok.un, ok.call, ok.mkc, ⟨ok.ct.fls, ok.ct.exs, ok.ct.exn⟩, ok.rx, fun z => (by cases z), ok.ex0, (fun _ _ _ z => by cases z), (fun _ z => nomatch z), fun _ z => absurd rfl z⟩
theorem XOk.cal (ok : XOk X C cf ios CL W) (h : C.clm = true) : X.calm = true := ok.calm (by simpa [Ck.clm] using h)
theorem star1 {e : Expr} {es : List Expr} {env : PySem.Env} (h : notStar e = true) : starEach (e :: es) env = (false, eval e env) :: starEach es env := by
  cases e <;> first | rfl | (simp [notStar] at h)
theorem starAll : ∀ {es : List Expr} {env : PySem.Env}, (es.all notStar) = true → (starEach es env).any (·.1) = false ∧ (starEach es env).all (fun x => !x.1) = true
  | [], _, _ => ⟨rfl, rfl⟩
  | e :: es, env, h => by
    simp only [List.all_cons, Bool.and_eq_true] at h
    rw [star1 h.1]
    simpa using starAll h.2
theorem backAny {l : List (Bool × Sem Value)} {pos : Pos} : (backTo pos l).any (·.1) = l.any (·.1) := by
  unfold backTo
  rw [List.any_map]
  rfl
theorem backAll {l : List (Bool × Sem Value)} {pos : Pos} : (backTo pos l).all (fun x => !x.1) = l.all (fun x => !x.1) := by
  unfold backTo
  rw [List.all_map]
  rfl
theorem plainIx1 {b : Expr} (h : notSlice b = true) : PlainIx b := by
  intro o i
  cases b <;> first | rfl | (simp [notSlice] at h)
theorem folded1 {a : Expr} {env : PySem.Env} (h : notSet a = true) : ∀ x, foldedSetIterable a env x = pure x := by
  intro x
  cases a <;> first | rfl | (simp [notSet] at h)
theorem tst_val {a : Expr} {t : TE} (h : PE X a t) (he : ∀ whole, isTrue a X.env whole = (do let v ← whole; standAt a.pos; holding [v] (truthy v)) := by intro _; rfl) : PE X a t ∧ PT X a (tB t) := ⟨h, pt_val h he⟩
theorem pc_op {op : CmpOp} {r : L2.R2} {a b : Expr} {ta tb : TE} (ho : OpR X (compareOp op) r) (ha : PE X a ta) (hb : PE X b tb) : PC X op a b (tOp r ta tb) :=
  ⟨fun pins s σ H Q I h => binT ha hb I h fun v u s2 x y H2 I2 rx ry q => ho pins s2 σ H2 x y v u Q I2 rx ry q⟩
theorem CallR.or {f : Value} {r r' : List V → Hp → VK → Prop} (h : CallR X f r) (h' : CallR X f r') : CallR X f (fun x H Q => r x H Q ∨ r' x H Q) := by
  intro pins s σ H xs us Q I rx q
  rcases q with q | q
  · exact h pins s σ H xs us Q I rx q
  · exact h' pins s σ H xs us Q I rx q
theorem pt_ifE {c a b : Expr} {pos : Pos} {tc ta tb : TT} (hc : PT X c tc) (ha : PT X a ta) (hb : PT X b tb) : PT X (.IfExp c a b pos) (fun σ H Q => tc σ H fun k H1 => if k = true then ta σ H1 Q else tb σ H1 Q) := by
  refine ⟨fun pins s σ H Q I h => ?_⟩
  show wpAny _ _ (do if ← isTrue c X.env (eval c X.env) then isTrue a X.env (eval a X.env) else isTrue b X.env (eval b X.env)) _ _ _
  refine wpAny_bind (thn (hc.run pins s σ H _ I h) fun k s1 ⟨H1, I1, q1⟩ => ?_)
  cases k with
  | true => exact ha.run pins s1 σ H1 Q I1 q1
  | false => exact hb.run pins s1 σ H1 Q I1 q1
theorem pw_of {op : PySem.BoolOp} {vs : List Expr} {pos : Pos} {t : TT} (h : PT X (.BoolOp op vs pos) t) : PW X (.BoolOp op vs pos) t := ⟨fun _ pins s σ H Q I q => h.run pins s σ H Q I q⟩
/-! ### constants -/
theorem const_ok {K : PySem.W.Frag} {d : D} {a : Expr} (h : constOk d a = true) : PE X a (tE K CL W cf ios (.c d)) ∧ PT X a (tT K CL W cf ios (.c d)) := by
  unfold constOk at h
  split at h
  · cases of_decide_eq_true h
    exact tst_val (PE.imp pe_int fun _ _ _ q => tE_c (fun _ _ => rep_int) q)
  · cases of_decide_eq_true h
    exact tst_val (PE.imp pe_bl fun _ _ _ q => tE_c (fun _ _ => rep_bl) q)
  · cases of_decide_eq_true h
    exact tst_val (PE.imp pe_str fun _ _ _ q => tE_c (fun _ _ => rep_str) q)
  · exact tst_val (PE.imp pe_non fun _ _ _ q => tE_c (fun _ _ => rep_non) q)
  · cases h
/-! ### operations -/
theorem room_u (ok : XOk X C cf ios CL W) : X.A.units + 64 < cLine := by have := ok.un; omega
theorem room_v (ok : XOk X C cf ios CL W) : X.A.units + 65 < cLine := by have := ok.un; omega
theorem noset1 {op : CmpOp} {y : Expr} (h : notSet y = true) : behindInMarks op y = false := by
  cases y <;> first | rfl | (simp [notSet] at h)
theorem op_bin {o : O2} {op : Operator} (h : bop o = some op) : ∃ r, OpR X (binaryOp op) r ∧ ∀ x y H Q, OV2 X.K CL (o2D o) x y H Q → r x y H Q := by
  cases o <;> simp only [bop, Option.some.injEq, reduceCtorEq] at h <;> subst h
  · exact ⟨_, op_add4, fun _ _ _ _ q => v_add q⟩
  · exact ⟨_, op_sub, fun _ _ _ _ q => let ⟨i, j, e1, e2, _, q⟩ := v_II (fun _ _ _ => d_sub) q; ⟨i, j, e1, e2, q⟩⟩
  · exact ⟨_, op_mul4, fun _ _ _ _ q => v_mul q⟩
  · exact ⟨_, op_fdiv, fun _ _ _ _ q => v_II (fun _ _ _ => d_fdiv) q⟩
  · exact ⟨_, op_mod, fun _ _ _ _ q => v_II (fun _ _ _ => d_mod) q⟩
  · exact ⟨_, op_pow, fun _ _ _ _ q => v_II (fun _ _ _ => d_pow) q⟩
theorem op_cmp (ok : XOk X C cf ios CL W) {o : O2} {op : CmpOp} (h : cop o = some op) : (∃ r, OpR X (compareOp op) r ∧ ∀ x y H Q, OV2 X.K CL (o2D o) x y H Q → r x y H Q) := by
  cases o <;> simp only [cop, Option.some.injEq, reduceCtorEq] at h <;> subst h
  · exact ⟨_, op_eqD (room_u ok), fun _ _ _ _ q => v_eq q⟩
  · exact ⟨_, op_neD (room_u ok), fun _ _ _ _ q => v_ne q⟩
  · exact ⟨_, op_lt, fun _ _ _ _ q => let ⟨i, j, e1, e2, _, q⟩ := v_II (fun _ _ _ => d_lt) q; ⟨i, j, e1, e2, q⟩⟩
  · exact ⟨_, op_le, fun _ _ _ _ q => let ⟨i, j, e1, e2, _, q⟩ := v_II (fun _ _ _ => d_le) q; ⟨i, j, e1, e2, q⟩⟩
  · exact ⟨_, op_gt, fun _ _ _ _ q => let ⟨i, j, e1, e2, _, q⟩ := v_II (fun _ _ _ => d_gt) q; ⟨i, j, e1, e2, q⟩⟩
  · exact ⟨_, op_ge, fun _ _ _ _ q => let ⟨i, j, e1, e2, _, q⟩ := v_II (fun _ _ _ => d_ge) q; ⟨i, j, e1, e2, q⟩⟩
  · exact ⟨_, op_isN, fun _ _ _ _ q => v_is q⟩
  · exact ⟨_, op_notN, fun _ _ _ _ q => v_isnot q⟩
  · exact ⟨_, op_inX (room_v ok), fun _ _ _ _ q => v_in q⟩
  · exact ⟨_, op_notinX (room_v ok), fun _ _ _ _ q => v_notin q⟩
theorem tE_mono {K : PySem.W.Frag} {e : E} {σ : L2.St} {H : Hp} {Q Q' : VK} (h : tE K CL W cf ios e σ H Q) (m : ∀ v H, Q v H → Q' v H) : tE K CL W cf ios e σ H Q' := by
  obtain ⟨F, ρ, ft, R, h⟩ := h
  refine ⟨F, ρ, ft, R, ?_⟩
  generalize runE cf ios e ρ = r at h ⊢
  cases r with
  | none => exact h
  | some o =>
    cases o with
    | ok r ρ1 => exact fun v H1 F1 ft1 fp R1 s1 x n p => m _ _ (h v H1 F1 ft1 fp R1 s1 x n p)
    | ex c d ρ1 => exact h
theorem tO_mono {K : PySem.W.Frag} {o : Option E} {σ : L2.St} {H : Hp} {Q Q' : Option Int → Hp → Prop} (h : tO K CL W cf ios o σ H Q) (m : ∀ v H, Q v H → Q' v H) : tO K CL W cf ios o σ H Q' := by
  cases o with
  | none => exact m _ _ h
  | some e => exact tE_mono h fun _ _ ⟨i, z, q⟩ => ⟨i, z, m _ _ q⟩
theorem lastMarks2 {op op' : CmpOp} (y : Expr) {z : Expr} (h : notSet z = true) : lastMarks [op, op'] [y, z] = false := by
  show behindInMarks op' z = false
  exact noset1 h
theorem bt_int : bootBuiltins "int" = some (.type "int") := by decide +kernel
theorem bt_tuple : bootBuiltins "tuple" = some (.type "tuple") := by decide +kernel
theorem bt_list : bootBuiltins "list" = some (.type "list") := by decide +kernel
theorem bt_set : bootBuiltins "set" = some (.type "set") := by decide +kernel
theorem bt_sorted : bootBuiltins "sorted" = some (.builtin "sorted") := by decide +kernel
theorem bt_max : bootBuiltins "max" = some (.builtin "max") := by decide +kernel
theorem bt_min : bootBuiltins "min" = some (.builtin "min") := by decide +kernel
theorem bt_sum : bootBuiltins "sum" = some (.builtin "sum") := by decide +kernel
theorem bt_abs : bootBuiltins "abs" = some (.builtin "abs") := by decide +kernel
/-- a built-in of one place -/
theorem call_1 (ok : XOk X C cf ios CL W) {o : O1} {f : Str} {a : Expr} {e : E} {p pos : Pos} (h : nm1 o = some f) (hc : (!need1 o || C.clm) = true) (hb : C.blt f = true) (hs : notStar a = true) (ha : PE X a (tE X.K CL W cf ios e)) :
    PE X (.Call (.Name f p) [a] [] pos) (tE X.K CL W cf ios (.o1 o e)) := by
  obtain ⟨g, m⟩ := ok.blt hb
  have pa : PA X [a] (tCons (tE X.K CL W cf ios e) tNil) := pa_cons ha pa_nil (star1 hs)
  cases o <;> simp only [nm1, Option.some.injEq, reduceCtorEq] at h <;> subst h
  · exact PE.imp (pe_callB (CallR.or call_len_str call_len_seq) g m boot_len pa (he := star1 hs)) fun σ H Q q => tE_mono (tE_o1 q) fun _ _ q => v_len q
  · exact PE.imp (pe_callTy call_int1 g m bt_int pa (he := star1 hs)) fun σ H Q q => tE_mono (tE_o1 q) fun _ _ q => v_int q
  · exact PE.imp (pe_callTy call_tuple_of g m bt_tuple pa (he := star1 hs)) fun σ H Q q => tE_mono (tE_o1 q) fun _ _ q => v_tuple q
  · exact PE.imp (pe_callTy call_list_of g m bt_list pa (he := star1 hs)) fun σ H Q q => tE_mono (tE_o1 q) fun _ _ q => v_list q
  · exact PE.imp (pe_callB (cr_sum (ok.cal (by simpa [need1] using hc))) g m bt_sum pa (he := star1 hs)) fun σ H Q q => tE_mono (tE_o1 q) fun _ _ q => v_sum q
  · exact PE.imp (pe_callB call_abs g m bt_abs pa (he := star1 hs)) fun σ H Q q => tE_mono (tE_o1 q) fun _ _ q => v_abs q
  · refine PE.imp (pe_callB (CallR.or (cr_max (ok.cal (by simpa [need1] using hc))) (cr_maxT (ok.cal (by simpa [need1] using hc)) (room_u ok))) g m bt_max pa (he := star1 hs)) fun σ H Q q => tE_mono (tE_o1 q) fun x H1 q => ?_
    obtain ⟨a, ns, e, z, l, q⟩ := v_max q
    rcases z with z | z
    · exact .inl ⟨a, ns, e, z, l, fun m h1 h2 => q m (maxL_iff.mpr ⟨h1, h2⟩)⟩
    · exact .inr ⟨a, ns, e, z, l, q⟩
  · refine PE.imp (pe_callB (CallR.or (cr_min (ok.cal (by simpa [need1] using hc))) (cr_minT (ok.cal (by simpa [need1] using hc)) (room_u ok))) g m bt_min pa (he := star1 hs)) fun σ H Q q => tE_mono (tE_o1 q) fun x H1 q => ?_
    obtain ⟨a, ns, e, z, l, q⟩ := v_min q
    rcases z with z | z
    · exact .inl ⟨a, ns, e, z, l, fun m h1 h2 => q m (minL_iff.mpr ⟨h1, h2⟩)⟩
    · exact .inr ⟨a, ns, e, z, l, q⟩
theorem call_2 (ok : XOk X C cf ios CL W) {o : O2} {f : Str} {a b : Expr} {e e' : E} {p pos : Pos} (h : nm2 o = some f) (hb : C.blt f = true) (hs : notStar a = true) (hs2 : notStar b = true) (hc : C.clm = true) (ha : PE X a (tE X.K CL W cf ios e)) (hb2 : PE X b (tE X.K CL W cf ios e')) :
    PE X (.Call (.Name f p) [a, b] [] pos) (tE X.K CL W cf ios (.o2 o e e')) := by
  obtain ⟨g, m⟩ := ok.blt hb
  have pa : PA X [a, b] (tCons (tE X.K CL W cf ios e) (tCons (tE X.K CL W cf ios e') tNil)) := pa_cons ha (pa_cons hb2 pa_nil (star1 hs2)) (star1 hs)
  have pl : (backTo pos (starEach [b] X.env)).any (·.1) = false := by rw [star1 hs2]; rfl
  cases o <;> simp only [nm2, Option.some.injEq, reduceCtorEq] at h <;> subst h
  · exact PE.imp (pe_callB (call_max2 (ok.cal hc)) g m bt_max pa (he := star1 hs) (hpl := pl)) fun σ H Q q => tE_mono (tE_o2 q) fun x H1 q => tE_mono q fun y H2 q => let ⟨i, j, e1, e2, _, q⟩ := v_II (fun _ _ _ => d_max) q; ⟨i, j, by rw [e1, e2], q⟩
  · exact PE.imp (pe_callB (call_min2 (ok.cal hc)) g m bt_min pa (he := star1 hs) (hpl := pl)) fun σ H Q q => tE_mono (tE_o2 q) fun x H1 q => tE_mono q fun y H2 q => let ⟨i, j, e1, e2, _, q⟩ := v_II (fun _ _ _ => d_min) q; ⟨i, j, by rw [e1, e2], q⟩
theorem call_sset (ok : XOk X C cf ios CL W) (hc : C.clm = true) {a : Expr} {e : E} {p pos p2 pos2 : Pos} (hb : C.blt "sorted" = true) (hb2 : C.blt "set" = true) (hs : notStar a = true) (ha : PE X a (tE X.K CL W cf ios e)) :
    PE X (.Call (.Name "sorted" p) [.Call (.Name "set" p2) [a] [] pos2] [] pos) (tE X.K CL W cf ios (.o1 .sortedset e)) := by
  obtain ⟨g, m⟩ := ok.blt hb
  obtain ⟨g2, m2⟩ := ok.blt hb2
  have pa : PA X [a] (tCons (tE X.K CL W cf ios e) tNil) := pa_cons ha pa_nil (star1 hs)
  have p1 := pe_callTy (callR_or (cr_setT (ok.cal hc) (room_u ok)) (cr_setC (ok.cal hc) (room_u ok))) g2 m2 bt_set pa (pos := pos2) (p := p2) (he := star1 hs)
  exact PE.imp (pe_callB (callR_or (cr_sortedD (ok.cal hc) (room_u ok)) (cr_sortedC (ok.cal hc) (room_u ok))) g m bt_sorted (pa_cons p1 pa_nil)) fun σ H Q q => tE_mono (tE_o1 q) fun _ _ q => v_sset q
theorem boot_ty {b : Nat} (h : b ≤ 5) : bootBuiltins (Str.ofString (tyStr b)) = some (.type (tyStr b)) := by
  have h2 : b = 0 ∨ b = 1 ∨ b = 2 ∨ b = 3 ∨ b = 4 ∨ b = 5 := by omega
  rcases h2 with rfl | rfl | rfl | rfl | rfl | rfl <;> decide +kernel
theorem ty_ne {b : Nat} (h : b ≤ 5) : Str.ofString (tyStr b) ≠ "__name__" ∧ (Str.ofString (tyStr b) == ("__debug__" : Str)) = false := by
  have h2 : b = 0 ∨ b = 1 ∨ b = 2 ∨ b = 3 ∨ b = 4 ∨ b = 5 := by omega
  rcases h2 with rfl | rfl | rfl | rfl | rfl | rfl <;> decide +kernel
theorem call_isin (ok : XOk X C cf ios CL W) {a : Expr} {e : E} {t : String} {p pos p2 : Pos} (ht : (tyId t).isSome = true) (hb : C.blt "isinstance" = true) (hb2 : C.blt (Str.ofString t) = true) (hs : notStar a = true) (ha : PE X a (tE X.K CL W cf ios e)) :
    PE X (.Call (.Name "isinstance" p) [a, .Name (Str.ofString t) p2] [] pos) (tE X.K CL W cf ios (.o1 (.isinst t) e)) := by
  obtain ⟨g, m⟩ := ok.blt hb
  obtain ⟨g2, m2⟩ := ok.blt hb2
  obtain ⟨b, hb3⟩ := Option.isSome_iff_exists.mp ht
  obtain ⟨b5, rfl⟩ := tyId_some hb3
  obtain ⟨n1, n2⟩ := ty_ne b5
  have pt : PE X (.Name (Str.ofString (tyStr b)) p2) (tC (.ty (tyStr b))) := pe_bltn g2 m2 (boot_ty b5) rfl n1 n2
  have pa : PA X [a, .Name (Str.ofString (tyStr b)) p2] (tCons (tE X.K CL W cf ios e) (tCons (tC (.ty (tyStr b))) tNil)) := pa_cons ha (pa_cons pt pa_nil) (star1 hs)
  exact PE.imp (pe_callB call_isi g m PyProof.Rows.boot_isinstance pa (he := star1 hs)) fun σ H Q q => tE_mono (tE_o1 q) fun _ _ q => let ⟨_, _, q⟩ := v_isi q; q
theorem mono2 {K : PySem.W.Frag} {o : O2} {a b : E} {r : L2.R2} {σ : L2.St} {H : Hp} {Q : VK} (h : tE K CL W cf ios (.o2 o a b) σ H Q) (m : ∀ x y H Q, OV2 K CL (o2D o) x y H Q → r x y H Q) : tOp r (tE K CL W cf ios a) (tE K CL W cf ios b) σ H Q :=
  tE_mono (tE_o2 h) fun _ _ q => tE_mono q fun _ _ q => m _ _ _ _ q
theorem tL_call {K : PySem.W.Frag} {f : Str} {es : List E} {σ : L2.St} {H : Hp} {Q : VK} (h : tE K CL W cf ios (.call f es) σ H Q) : tCallS (spF K CL cf f (ios f)) (WE W) (tL K CL W cf ios es) σ H Q := by
  obtain ⟨F, ρ, ft, R, h⟩ := h
  simp only [runE] at h
  exact ⟨F, ρ, ft, R, wsh_bnd h fun r ρ1 v H1 F1 ft1 fp R1 s1 x n p h => doCall_ok R1 s1 x n rfl h fun _ _ _ => Iff.rfl⟩
/-! ### targets -/
mutual
theorem chkT_ok (ok : XOk X C cf ios CL W) : ∀ {t : Tg} {a : Expr}, chkT C t a = true → PG X a (tTg X.K CL t)
  | .nm i, a, h => by
    simp only [chkT] at h
    split at h
    · obtain ⟨h1, h2, h3⟩ := ok.put h
      exact ⟨fun pins s σ H v u Q I r q => (pg_name ok.ndN h1 h2 h3).run pins s σ H v u Q I r (tTg_nm q)⟩
    · cases h
  | .tp ts, a, h => by
    simp only [chkT] at h
    split at h
    · simp only [Bool.and_eq_true] at h
      obtain ⟨h1, h2, h3⟩ := chkTs_ok ok h.1
      exact ⟨fun pins s σ H v u Q I r q => (pg_tup (ok.cal h.2) h1 h2 h3).run pins s σ H v u Q I r (tTg_tp q)⟩
    · cases h
theorem chkTs_ok (ok : XOk X C cf ios CL W) : ∀ {ts : List Tg} {es : List Expr}, chkTs C ts es = true → PGs X es (tTgs X.K CL ts) ∧ (assignEach es X.env).length = ts.length ∧ (assignEach es X.env).findIdx? (·.1) = none
  | [], es, h => by
    simp only [chkTs, List.isEmpty_iff] at h
    subst h
    exact ⟨⟨fun pins s σ H v u Q I r q => pgs_nil.run pins s σ H v u Q I r (tTgs_nil q)⟩, rfl, rfl⟩
  | t :: ts, es, h => by
    simp only [chkTs] at h
    split at h
    · rename_i e es
      simp only [Bool.and_eq_true] at h
      obtain ⟨⟨h1, h2⟩, h3⟩ := h
      obtain ⟨i1, i2, i3⟩ := chkTs_ok ok h3
      have as : assignEach (e :: es) X.env = (false, assign e X.env) :: assignEach es X.env := by
        cases e <;> first | rfl | (simp [notStar] at h1)
      refine ⟨⟨fun pins s σ H v u Q I r q => (pgs_cons (chkT_ok ok h2) i1 (by rw [as]; rfl)).run pins s σ H v u Q I r (tTgs_cons q)⟩, by rw [as]; simp [i2], ?_⟩
      rw [as]
      simp only [List.findIdx?_cons, i3]
      rfl
    · cases h
end
/-! ### the block of a comprehension -/
theorem blk_ok (ok : XOk X C cf ios CL W) {scope : Scope} {ow : List Nat} (h : blkB C scope ow = true) : BlkOk X.N X.env.scope scope (ow.map fun i => (C.N.getD i Str.empty, i)) := by
  simp only [blkB, Bool.and_eq_true, decide_eq_true_eq, List.all_eq_true, Bool.or_eq_true, Bool.not_eq_true', decide_eq_false_iff_not, List.any_eq_true, Bool.or_eq_false_iff, List.any_eq_false] at h
  obtain ⟨⟨⟨⟨h1, h2⟩, h3⟩, h4⟩, h5⟩ := h
  refine ⟨h1, h2, fun p hp => ?_, fun y hy e => ?_, fun y hy e => ?_⟩
  · obtain ⟨i, hi, rfl⟩ := List.mem_map.mp hp
    rw [ok.N]
    have := h3 i hi
    rw [List.getD_eq_getElem?_getD, List.getElem?_eq_getElem this]
    rfl
  · rw [ok.sc]
    exact (h4 y hy).resolve_left (fun z => z e)
  · rcases h5 y hy with z | z | z
    · exact absurd e (fun q => q.elim z.1 z.2)
    · obtain ⟨i, hi, q⟩ := z
      refine .inl (List.mem_map.mpr ⟨_, List.mem_map.mpr ⟨i, hi, rfl⟩, ?_⟩)
      rw [List.getD_eq_getElem?_getD, q]
      rfl
    · exact .inr (by rw [ok.N]; exact fun q => z _ q rfl)
theorem own_snd {N : List Str} {ow : List Nat} : (ow.map fun i => (N.getD i Str.empty, i)).map (·.2) = ow := by
  rw [List.map_map]
  exact List.map_id' ow
end
end Cov

/-! Cov16: the look at an expression proves its reading. -/
namespace Cov
open PySem L2
section
variable {cf : CF} {ios : Str → List Bool} {CL : CLT}
theorem PI.imp {X : Cx} {tg e : Expr} {t t' : TI} (h : PI X tg e t) (i : ∀ σ H Q, t' σ H Q → t σ H Q) : PI X tg e t' := ⟨fun pins s σ H Q I q => h.run pins s σ H Q I (i σ H Q q)⟩
/-- a method that changes a list -/
theorem mu_ok {X : Cx} {C : Ck} (ok : XOk X C cf ios CL W) {m : Mu} {b : E} {es : List E} {o : Expr} {xs : List Expr} {ap cp : Pos} (ho : PE X o (tE X.K CL W cf ios b)) (hx : PA X xs (tL X.K CL W cf ios es)) (hn : es = [] ↔ xs = []) (hs : xs.all notStar = true)
    (hline : (ap.endLine == cp.line) = true) (hlen : xs.length < 30) (hbase : attributeBase o (muN m) X.env (eval o X.env) = eval o X.env) : PE X (.Call (.Attribute o (muN m) ap) xs [] cp) (tE X.K CL W cf ios (.mu m b es)) := by
  have rule : ∃ id, Slot "list" (muN m) id ∧ typeOf (.builtin id) = pure (.type "method_descriptor") ∧ MtR X id (rMu m) := by
    cases m
    · exact ⟨_, PySem.F.slot_list_append, PySem.F.type_list_append, mt_append⟩
    · exact ⟨_, PySem.F.slot_list_extend, PySem.F.type_list_extend, mt_extendR⟩
    · exact ⟨_, PySem.F.slot_list_pop, PySem.F.type_list_pop, mt_pop⟩
    · exact ⟨_, PySem.F.slot_list_reverse, PySem.F.type_list_reverse, mt_reverse⟩
  obtain ⟨id, sl, ty, mt⟩ := rule
  cases xs with
  | nil =>
    have := hn.mpr rfl
    subst this
    exact PE.imp (pe_bm0 PySem.F.plainAttrs_list sl ty mt ho hbase hline) fun σ H Q q => tE_mono (tE_mu q) fun v H1 q => ⟨q.1, tL_nil q.2⟩
  | cons x xs =>
    simp only [List.all_cons, Bool.and_eq_true] at hs
    obtain ⟨s1, s2⟩ := starAll (env := X.env) hs.2
    refine PE.imp (pe_bm PySem.F.plainAttrs_list sl ty mt ho hx hbase ?_ hline (star1 hs.1) (by rw [backAny]; exact s1)) fun σ H Q q => tE_mu q
    rw [star1 hs.1, backAll]
    simp only [List.all_cons, Bool.not_false, Bool.true_and, s2]
    show ((backToKw cp []).all _ && decide (_ + _ + 0 < 30)) = true
    simp only [List.length_cons] at hlen ⊢
    simp [backToKw]
    omega
mutual
theorem chkE_ok : ∀ (e : E) (X : Cx) (C : Ck) (a : Expr) (W : WX), XOk X C cf ios CL W → chkE C e a = true → PE X a (tE X.K CL W cf ios e) ∧ PT X a (tT X.K CL W cf ios e)
  | .c d, X, C, a, W, ok, h => const_ok (by simpa only [chkE] using h)
  | .v i, X, C, a, W, ok, h => by
    simp only [chkE] at h
    split at h
    · simp only [Ck.slot, Bool.and_eq_true, decide_eq_true_eq] at h
      obtain ⟨⟨h1, h2⟩, h3⟩ := h
      obtain ⟨n1, n2⟩ := okName1 h3
      exact tst_val (PE.imp (pe_var (by rw [ok.N]; exact h1) (ok.vis h2) n1 n2) fun _ _ _ q => tE_v q)
    · cases h
  | .g x d, X, C, a, W, ok, h => by
    simp only [chkE] at h
    split at h
    · simp only [Bool.and_eq_true, decide_eq_true_eq] at h
      obtain ⟨⟨⟨rfl, h2⟩, h3⟩, h4⟩ := h
      split at h4
      · obtain ⟨p, hp, h5⟩ := List.any_eq_true.mp h4
        simp only [Bool.and_eq_true, decide_eq_true_eq] at h5
        obtain ⟨t, e⟩ := ok.gc p hp
        rw [h5.1, h5.2] at e
        exact tst_val (PE.imp (pe_glob (ok.gl h2) e (v := .int _) ⟨t, rfl⟩ (okName1 h3).1) fun _ _ _ q => tE_g (fun _ _ => rep_int) q)
      · cases h4
    · cases h
  | .o1 o e, X, C, a, W, ok, h => by
    simp only [chkE] at h
    split at h
    · simp only [Bool.and_eq_true, decide_eq_true_eq] at h
      obtain ⟨rfl, h2⟩ := h
      exact tst_val (PE.imp (pe_un un_neg (chkE_ok e X C _ _ ok h2).1) fun _ _ _ q => tE_mono (tE_o1 q) fun _ _ q => v_neg q)
    · simp only [Bool.and_eq_true, decide_eq_true_eq] at h
      obtain ⟨⟨rfl, rfl⟩, h3⟩ := h
      exact tst_val (PE.imp (pe_revL (chkE_ok e X C _ _ ok h3).1) fun _ _ _ q => tE_mono (tE_o1 q) fun _ _ q => v_rev q)
    · split at h
      · rename_i hf
        simp only [Bool.and_eq_true] at h
        exact tst_val (call_1 ok hf h.2 h.1.1.1 h.1.1.2 (chkE_ok e X C _ _ ok h.1.2).1)
      · split at h
        · simp only [Bool.and_eq_true, decide_eq_true_eq] at h
          obtain ⟨⟨⟨⟨⟨⟨⟨rfl, rfl⟩, rfl⟩, h4⟩, h5⟩, h6⟩, h7⟩, hc⟩ := h
          exact tst_val (call_sset ok hc h4 h5 h6 (chkE_ok e X C _ _ ok h7).1)
        · cases h
    · split at h
      · simp only [Bool.and_eq_true, decide_eq_true_eq] at h
        obtain ⟨⟨⟨⟨⟨⟨rfl, rfl⟩, h3⟩, h4⟩, h5⟩, h6⟩, h7⟩ := h
        exact tst_val (call_isin ok h3 h4 h5 h6 (chkE_ok e X C _ _ ok h7).1)
      · cases h
    · cases h
  | .o2 o e e', X, C, a, W, ok, h => by
    simp only [chkE] at h
    split at h
    · simp only [Bool.and_eq_true, decide_eq_true_eq] at h
      obtain ⟨⟨h1, h2⟩, h3⟩ := h
      obtain ⟨r, hr, hm⟩ := op_bin (X := X) (CL := CL) h1
      exact tst_val (PE.imp (pe_op hr (chkE_ok e X C _ _ ok h2).1 (chkE_ok e' X C _ _ ok h3).1) fun _ _ _ q => mono2 q hm)
    · simp only [Bool.and_eq_true, decide_eq_true_eq] at h
      obtain ⟨⟨⟨h1, h2⟩, h3⟩, h4⟩ := h
      obtain ⟨r, hr, hm⟩ := op_cmp ok h1
      have pc := pc_op hr (chkE_ok e X C _ _ ok h2).1 (chkE_ok e' X C _ _ ok h3).1
      refine ⟨PE.imp (pe_cmp pc (noset1 h4)) fun _ _ _ q => mono2 q hm, PT.imp (pt_cmp pc (noset1 h4)) fun σ H Q q => ?_⟩
      exact mono2 (show tE X.K CL W cf ios (.o2 o e e') σ H _ from q) hm
    · simp only [Bool.and_eq_true, decide_eq_true_eq] at h
      obtain ⟨⟨⟨rfl, h2⟩, h3⟩, h4⟩ := h
      exact tst_val (PE.imp (pe_ix ix_seq (chkE_ok e X C _ _ ok h3).1 (chkE_ok e' X C _ _ ok h4).1 (plainIx1 h2)) fun _ _ _ q => mono2 q fun _ _ _ _ q => v_ix q)
    · simp only [Bool.and_eq_true, decide_eq_true_eq] at h
      obtain ⟨⟨⟨⟨⟨⟨h1, h2⟩, h3⟩, h4⟩, h5⟩, h6⟩, hc⟩ := h
      exact tst_val (call_2 ok h1 h2 h3 h4 hc (chkE_ok e X C _ _ ok h5).1 (chkE_ok e' X C _ _ ok h6).1)
    · cases h
  | .slc e lo hi, X, C, a, W, ok, h => by
    simp only [chkE] at h
    split at h
    · simp only [Bool.and_eq_true] at h
      exact tst_val (PE.imp (pe_slice (SlR.or sl_list sl_tupA) (chkE_ok e X C _ _ ok h.1.1).1 (chkP_ok lo X C _ _ ok h.1.2) (chkP_ok hi X C _ _ ok h.2)) fun σ H Q q => tE_mono (tE_slc q) fun _ _ q => tO_mono q fun _ _ q => tO_mono q fun _ _ q => v_slc q)
    · cases h
  | .ch o o' e e' e'', X, C, a, W, ok, h => by
    simp only [chkE] at h
    split at h
    · rename_i x op op' y z p
      simp only [Bool.and_eq_true, decide_eq_true_eq] at h
      obtain ⟨⟨⟨⟨⟨h1, h2⟩, h3⟩, h4⟩, h5⟩, h6⟩ := h
      obtain ⟨r, hr, hm⟩ := op_cmp ok h1
      obtain ⟨r', hr', hm'⟩ := op_cmp ok h2
      have lm : lastMarks [op, op'] [y, z] = false := lastMarks2 _ h6
      have im : ∀ σ H Q, tE X.K CL W cf ios (.ch o o' e e' e'') σ H Q → tChain r r' (tE X.K CL W cf ios e) (tE X.K CL W cf ios e') (tE X.K CL W cf ios e'') σ H Q := fun σ H Q q => tE_mono (tE_ch q) fun _ _ q => tE_mono q fun _ _ q => hm _ _ _ _ (ov2_mono q fun _ _ q => by
        obtain ⟨k, e, q2⟩ := q
        refine ⟨k, e, ?_⟩
        cases k with
        | true => exact tE_mono q2 fun _ _ q => hm' _ _ _ _ q
        | false => exact q2)
      exact ⟨PE.imp (pe_chain hr hr' (chkE_ok e X C _ _ ok h3).1 (chkE_ok e' X C _ _ ok h4).1 (chkE_ok e'' X C _ _ ok h5).1 lm) im, PT.imp (pt_chain hr hr' (chkE_ok e X C _ _ ok h3).1 (chkE_ok e' X C _ _ ok h4).1 (chkE_ok e'' X C _ _ ok h5).1 lm) fun σ H Q q => im σ H _ q⟩
    · cases h
  | .and_ e e', X, C, a, W, ok, h => by
    simp only [chkE] at h
    split at h
    · simp only [Bool.and_eq_true] at h
      have h1 := chkE_ok e X C _ _ ok h.1
      have h2 := chkE_ok e' X C _ _ ok h.2
      exact ⟨PE.imp (pe_and h1.1 (pe_one h2.1)) fun _ _ _ q => tE_and q, PT.imp (pw_and h1.2 (pw_and1 h2.2)).pt fun _ _ _ q => tT_and q⟩
    · simp only [Bool.and_eq_true] at h
      have h1 := chkE_ok e X C _ _ ok h.1
      have h2 := chkE_ok e' X C _ _ ok h.2
      exact ⟨PE.imp (pe_and h1.1 h2.1) fun _ _ _ q => tE_and q, PT.imp (pw_and h1.2 (pw_of h2.2)).pt fun _ _ _ q => tT_and q⟩
    · cases h
  | .or_ e e', X, C, a, W, ok, h => by
    simp only [chkE] at h
    split at h
    · simp only [Bool.and_eq_true] at h
      have h1 := chkE_ok e X C _ _ ok h.1
      have h2 := chkE_ok e' X C _ _ ok h.2
      exact ⟨PE.imp (pe_or h1.1 (pe_one h2.1)) fun _ _ _ q => tE_or q, PT.imp (pw_or h1.2 (pw_or1 h2.2)).pt fun _ _ _ q => tT_or q⟩
    · simp only [Bool.and_eq_true] at h
      have h1 := chkE_ok e X C _ _ ok h.1
      have h2 := chkE_ok e' X C _ _ ok h.2
      exact ⟨PE.imp (pe_or h1.1 h2.1) fun _ _ _ q => tE_or q, PT.imp (pw_or h1.2 (pw_of h2.2)).pt fun _ _ _ q => tT_or q⟩
    · cases h
  | .not_ e, X, C, a, W, ok, h => by
    simp only [chkE] at h
    split at h
    · have h1 := chkE_ok e X C _ _ ok h
      exact ⟨PE.imp (pe_not h1.1) fun _ _ _ q => tE_not q, PT.imp (pt_not h1.2) fun _ _ _ q => tT_not q⟩
    · cases h
  | .ife t e e', X, C, a, W, ok, h => by
    simp only [chkE] at h
    split at h
    · simp only [Bool.and_eq_true] at h
      have h0 := chkE_ok t X C _ _ ok h.1.1
      have h1 := chkE_ok e X C _ _ ok h.1.2
      have h2 := chkE_ok e' X C _ _ ok h.2
      exact ⟨PE.imp (pe_ifExp h0.2 h1.1 h2.1) fun _ _ _ q => tE_ife q, PT.imp (pt_ifE h0.2 h1.2 h2.2) fun σ H Q q => tE_ife (Q := fun x H1 => ∃ c, x = V.bl c ∧ Q c H1) q⟩
    · cases h
  | .tup es, X, C, a, W, ok, h => by
    simp only [chkE] at h
    split at h
    · exact tst_val (PE.imp (pe_tup (chkL_ok es X C _ _ ok h).1) fun _ _ _ q => tE_tup q)
    · cases h
  | .lst nst es, X, C, a, W, ok, h => by
    simp only [chkE] at h
    split at h
    · simp only [Bool.and_eq_true, Bool.not_eq_true'] at h
      obtain ⟨rfl, h2⟩ := h
      exact tst_val (PE.imp (pe_lst (chkL_ok es X C _ _ ok h2).1) fun _ _ _ q => tE_lst q)
    · cases h
  | .fld e f, X, C, a, W, ok, h => by
    simp only [chkE] at h
    split at h
    · rename_i x g pos
      simp only [Bool.and_eq_true, decide_eq_true_eq] at h
      obtain ⟨⟨rfl, h2⟩, h3⟩ := h
      have hb : attributeBase x g X.env (eval x X.env) = eval x X.env := by
        cases x with
        | Call f as kw p =>
          cases as with
          | nil => simp [notSuper] at h2
          | cons a as => cases f <;> rfl
        | _ => first | rfl | (simp [notSuper] at h2)
      exact tst_val (PE.imp (pe_fld (chkE_ok e X C _ _ ok h3).1 hb) fun _ _ _ q => tE_fld q)
    · cases h
  | .lrg t e, X, C, a, W, ok, h => by
    simp only [chkE] at h
    split at h
    · rename_i f p1 g q x p2 pos
      simp only [Bool.and_eq_true, decide_eq_true_eq] at h
      obtain ⟨⟨⟨⟨⟨⟨rfl, rfl⟩, h3⟩, h4⟩, h5⟩, h6⟩, hc⟩ := h
      obtain ⟨g1, m1⟩ := ok.blt h3
      obtain ⟨g2, m2⟩ := ok.blt h4
      have pr := prg_1 (p := q) (pos := p2) g2 m2 (chkE_ok e X C _ _ ok h6).1 (star1 h5)
      cases t with
      | true => exact tst_val (PE.imp (pe_tupRg (ok.cal hc) g1 m1 pr) fun _ _ _ q => tE_lrg q)
      | false => exact tst_val (PE.imp (pe_listRg (ok.cal hc) g1 m1 pr) fun _ _ _ q => tE_lrg q)
    · cases h
  | .any, X, C, a, W, ok, h => by simp [chkE] at h
  | .exf i f, X, C, a, W, ok, h => by
    simp only [chkE] at h
    split at h
    · rename_i n np g pos
      simp only [Ck.slot, Bool.and_eq_true, decide_eq_true_eq] at h
      obtain ⟨⟨rfl, h2⟩, ⟨h3, h4⟩, h5⟩ := h
      obtain ⟨n1, n2⟩ := okName1 h5
      exact tst_val (PE.imp (ok.exc _ _ _ h2 (pe_var (by rw [ok.N]; exact h3) (ok.vis h4) n1 n2)) fun _ _ _ q => tE_exf q)
    · cases h
  | .call f es, X, C, a, W, ok, h => by
    simp only [chkE] at h
    split at h
    · rename_i g p xs pos
      simp only [Bool.and_eq_true, Bool.or_eq_true, decide_eq_true_eq, List.any_eq_true, Bool.not_eq_true', List.isEmpty_eq_false_iff] at h
      obtain ⟨⟨⟨⟨⟨rfl, h2⟩, h3⟩, h4⟩, h5⟩, h6⟩ := h
      obtain ⟨pa, st, en⟩ := chkL_ok es X C _ _ ok h6
      cases xs with
      | nil => exact absurd (en.mpr rfl) h5
      | cons x xs =>
        simp only [List.all_cons, Bool.and_eq_true] at st
        rcases h4 with ⟨y, hy, rfl⟩ | ⟨hot, y, hy, rfl⟩
        · obtain ⟨k, hr, ⟨f, fd, ps, F, hm, kp, hb⟩⟩ := ok.call _ hy
          exact tst_val (PE.imp (pe_callS F hr (ok.gl h2) hm kp hb ok.pass pa (okName1 h3).1 (star1 st.1) (by rw [backAny]; exact (starAll st.2).1)) fun _ _ _ q => tL_call q)
        · obtain ⟨k, hr, hcl⟩ := ok.hcl _ hy
          obtain ⟨f, fd, ps, F, hm, kp, hb⟩ := (hcl CL).ex
          exact tst_val (PE.imp (L2H.pe_callH F hr (ok.hotc hot (List.ne_nil_of_mem hy)) (ok.gl h2) hm kp hb ok.pass pa (okName1 h3).1 (star1 st.1) (by rw [backAny]; exact (starAll st.2).1)) fun _ _ _ q => tL_call q)
    · cases h
  | .meth _ _ _, X, C, a, W, ok, h => by simp [chkE] at h
  | .make c es, X, C, a, W, ok, h => by
    simp only [chkE] at h
    split at h
    · rename_i g p xs pos
      simp only [Bool.and_eq_true, decide_eq_true_eq, List.any_eq_true, Bool.not_eq_true', List.isEmpty_eq_false_iff] at h
      obtain ⟨⟨⟨⟨⟨rfl, h2⟩, h3⟩, ⟨y, hy, rfl⟩⟩, h5⟩, h6⟩ := h
      obtain ⟨pa, st, en⟩ := chkL_ok es X C _ _ ok h6
      obtain ⟨k, hr, ⟨A, f, fd, ps, hC, M, F, hm, hb⟩⟩ := ok.mkc _ hy
      cases xs with
      | nil => exact absurd (en.mpr rfl) h5
      | cons x xs =>
        simp only [List.all_cons, Bool.and_eq_true] at st
        exact tst_val (PE.imp (pe_makeS M F hr (ok.gl h2) hm hb ok.pass pa (okName1 h3).1 (star1 st.1) (by rw [backAny]; exact (starAll st.2).1)) fun _ _ _ q => tE_make hC q)
    · cases h
  | .mu m b es, X, C, a, W, ok, h => by
    simp only [chkE] at h
    split at h
    · simp only [Bool.and_eq_true, decide_eq_true_eq] at h
      obtain ⟨⟨⟨⟨rfl, h2⟩, h3⟩, h4⟩, h5⟩ := h
      obtain ⟨pa, st, en⟩ := chkL_ok es X C _ _ ok h5
      exact tst_val (mu_ok ok (chkE_ok b X C _ _ ok h4).1 pa en st h2 h3 rfl)
    · cases h
  | .comp nst ow elt tg it cond, X, C, a, W, ok, h => by
    simp only [chkE] at h
    split at h
    · rename_i x t i ifs scope pos
      simp only [Bool.and_eq_true, Bool.not_eq_true'] at h
      obtain ⟨⟨⟨⟨⟨⟨⟨rfl, h2⟩, h3⟩, h4⟩, h5⟩, h6⟩, h7⟩, hc⟩ := h
      have bo := blk_ok ok h3
      have p := pe_lc (pos := pos) (elt := x) (te := tE X.K CL W0 cf ios elt) (tt := tCond X.K CL cf ios cond) (g := tTg X.K CL tg) (ok.cal hc) ok.ndN (chkI_ok it X C t i _ ok h4) bo (fun s H c cl fp => chkT_ok (ok.blk scope s H c cl fp) h5) (fun s H c cl fp => chkO_ok cond _ _ ifs _ rfl (ok.blk scope s H c cl fp) h6)
        (fun s H c cl fp => (chkE_ok elt _ _ x _ (ok.blk scope s H c cl fp) h7).1) (folded1 h2)
      rw [own_snd] at p
      exact tst_val (PE.imp p fun _ _ _ q => tE_comp q)
    · cases h
theorem chkL_ok : ∀ (es : List E) (X : Cx) (C : Ck) (xs : List Expr) (W : WX), XOk X C cf ios CL W → chkL C es xs = true → PA X xs (tL X.K CL W cf ios es) ∧ xs.all notStar = true ∧ (es = [] ↔ xs = [])
  | [], X, C, xs, W, ok, h => by
    simp only [chkL, List.isEmpty_iff] at h
    subst h
    exact ⟨PA.imp pa_nil fun _ _ _ q => tL_nil q, rfl, by simp⟩
  | e :: es, X, C, xs, W, ok, h => by
    simp only [chkL] at h
    split at h
    · simp only [Bool.and_eq_true] at h
      obtain ⟨⟨h1, h2⟩, h3⟩ := h
      obtain ⟨p, s, _⟩ := chkL_ok es X C _ _ ok h3
      exact ⟨PA.imp (pa_cons (chkE_ok e X C _ _ ok h2).1 p (star1 h1)) fun _ _ _ q => tL_cons q, by simp [h1, s], by simp⟩
    · cases h
theorem chkP_ok : ∀ (o : Option E) (X : Cx) (C : Ck) (x : Option Expr) (W : WX), XOk X C cf ios CL W → chkP C o x = true → PO X x (tO X.K CL W cf ios o)
  | none, X, C, x, W, ok, h => by
    simp only [chkP, Option.isNone_iff_eq_none] at h
    subst h
    exact po_none
  | some e, X, C, x, W, ok, h => by
    simp only [chkP] at h
    split at h
    · exact po_some (chkE_ok e X C _ _ ok h).1
    · cases h
theorem chkO_ok : ∀ (o : Option E) (X : Cx) (C : Ck) (xs : List Expr) (W : WX), W = W0 → XOk X C cf ios CL W → chkO C o xs = true → PTs X xs (tCond X.K CL cf ios o)
  | none, X, C, xs, W, hW, ok, h => by
    simp only [chkO, List.isEmpty_iff] at h
    subst h
    exact pts_nil
  | some e, X, C, xs, W, hW, ok, h => by
    simp only [chkO] at h
    split at h
    · subst hW
      exact pts_one (chkE_ok e X C _ _ ok h).2
    · cases h
theorem chkI_ok : ∀ (it : It) (X : Cx) (C : Ck) (tg a : Expr) (W : WX), XOk X C cf ios CL W → chkI C it a = true → PI X tg a (tI X.K CL W cf ios it)
  | .r1 e, X, C, tg, a, W, ok, h => by
    simp only [chkI] at h
    split at h
    · simp only [Bool.and_eq_true, decide_eq_true_eq] at h
      obtain ⟨⟨⟨rfl, h2⟩, h3⟩, h4⟩ := h
      obtain ⟨g, m⟩ := ok.blt h2
      exact PI.imp (pi_range1 g m (pa_cons (chkE_ok e X C _ _ ok h4).1 pa_nil (star1 h3)) (star1 h3)) fun _ _ _ q => tI_r1 q
    · cases h
  | .r2 e e', X, C, tg, a, W, ok, h => by
    simp only [chkI] at h
    split at h
    · simp only [Bool.and_eq_true, decide_eq_true_eq] at h
      obtain ⟨⟨⟨⟨⟨rfl, h2⟩, h3⟩, h3'⟩, h4⟩, h5⟩ := h
      obtain ⟨g, m⟩ := ok.blt h2
      exact PI.imp (pi_range2 g m (pa_cons (chkE_ok e X C _ _ ok h4).1 (pa_cons (chkE_ok e' X C _ _ ok h5).1 pa_nil (star1 h3')) (star1 h3)) (by rw [star1 h3, star1 h3']; rfl) (by rw [star1 h3']; rfl)) fun _ _ _ q => tI_r2 q
    · cases h
  | .r3 _ _ _, X, C, tg, a, W, ok, h => by simp [chkI] at h
  | .ex e, X, C, tg, a, W, ok, h => by
    simp only [chkI, Bool.and_eq_true] at h
    exact PI.imp (pi_seq (chkE_ok e X C _ _ ok h.2).1) fun _ _ _ q => tI_ex q
end
end
end Cov

/-! Cov17: the look at statements, what it proves. -/
namespace Cov
open PySem L2
def notTup : Expr → Bool
  | .Tuple _ _ _ => false
  | _ => true
/-- a comprehension that is stored at once -/
def chkLc (C : Ck) (x : Str) (px : Pos) : E → Expr → Bool
  | .comp nst ow elt tg it cond, .ListComp x' [⟨t, i, ifs, 0⟩] scope lp => decide (C.sc.kind = .function) && decide (C.sc.names.lookup x = some .local) && (px.line == lp.line) && !(scope.names.any fun (n, k) => n == x && (k == .local || k == .cell)) &&
      (!nst && notSet i && blkB C scope ow && chkI C it i && chkT (C.blk scope) tg t && chkO (C.blk scope) cond ifs && chkE (C.blk scope) elt x' && C.clm)
  | _, _ => false
/-- within an except suite -/
def Ck.suiAs (C : Ck) (i : Nat) (n f : Str) : Ck := { C with fs := [], ct := ⟨[], [], [], [], C.ct.hfs⟩, hot := true, stm := false, exc := some (i, n, f) }
def Ck.sui (C : Ck) : Ck := { C with fs := [], ct := ⟨[], [], [], [], []⟩, hot := true, stm := false, exc := none }
mutual
def chkS (C : Ck) : S → Stmt → Bool
  | .set i e, st => match st with
    | .Assign [.Name x px] v _ => C.put i x && ((notComp v && chkE C e v) || (!decide (C.sc.names.lookup x = some .local) && chkE C e v) || chkLc C x px e v)
    | _ => false
  | .unp t e, st => match st with
    | .Assign [.Tuple es k tp] v _ => notTup v && chkT C t (.Tuple es k tp) && chkE C e v
    | _ => false
  | .par _ _ _ _, _ => false
  | .setIx b j e, st => match st with
    | .Assign [.Subscript o i _] v _ => notSlice i && chkE C b o && chkE C j i && chkE C e v
    | _ => false
  | .setFld b c f e, st => match st with
    | .Assign [.Attribute (.Name x _) g _] v _ => decide (g = f) && C.ct.fls.any (fun y => decide (y = (c, f))) && (match b with
      | .v i => C.slot i x
      | _ => false) && notComp v && chkE C e v
    | _ => false
  | .aug i o e, st => match st with
    | .AugAssign (.Name x _) op v _ => C.put i x && decide (o = .add ∧ op = .Add ∨ o = .sub ∧ op = .Sub) && chkE C e v
    | _ => false
  | .augIx b j o e, st => match st with
    | .AugAssign (.Subscript (.Name x _) k _) op v _ => (match b with
      | .v i => C.slot i x
      | _ => false) && notSlice k && decide (o = .add ∧ op = .Add ∨ o = .sub ∧ op = .Sub) && chkE C j k && chkE C e v
    | _ => false
  | .augFld _ _ _ _, _ => false
  | .ex e, st => match st with
    | .Expr v _ => notComp v && chkE C e v
    | _ => false
  | .ite c a b, st => match st with
    | .If t p q _ => chkE C c t && chkSs C a p && chkSs C b q
    | _ => false
  | .whl c b, st => match st with
    | .While t p [] _ => chkE C c t && chkSs C b p
    | _ => false
  | .for_ t it b, st => match st with
    | .For g i p [] _ => notSet i && chkI C it i && chkT C t g && chkSs C b p && C.clm
    | _ => false
  | .ret e, st => match st with
    | .Return (some v) _ => chkE C e v
    | .Return none _ => (match e with
      | .c .non => true
      | _ => false)
    | _ => false
  | .rai c none, st => match st with
    | .Raise (some (.Call (.Name x _) [.Constant (.str _) _ _] [] _)) none _ => decide (x = c) && C.gl c && okName c && C.ct.exs.any (fun y => decide (y = c)) && C.clm
    | _ => false
  | .rai c (some (f, e)), st => match st with
    | .Raise (some (.Call (.Name x _) [a] [] _)) none _ => decide (x = c) && C.gl c && okName c && C.ct.exn.any (fun y => decide (y = (c, f))) && notStar a && chkE C e a && C.clm
    | _ => false
  | .try_ b c none h, st => match st with
    | .Try body [.ExceptHandler (some (.Name x _)) none (b₀ :: suite) _] [] [] _ => decide (x = c) && C.gl c && okName c && (C.ct.exs.any (fun y => decide (y = c)) || C.ct.exn.any (fun y => decide (y.1 = c))) && C.stm && chkSs C b body && chkSs C.sui h (b₀ :: suite)
    | _ => false
  | .try_ b c (some (i, f)) h, st => match st with
    | .Try body [.ExceptHandler (some (.Name x _)) (some n) (b₀ :: suite) _] [] [] _ => decide (x = c) && C.gl c && okName c && C.ct.exn.any (fun y => decide (y = (c, f))) && C.stm && decide (C.N[i]? = some n) && decide (C.sc.names.lookup n = some .local) && chkSs C b body && chkSs (C.suiAs i n f) h (b₀ :: suite)
    | _ => false
  | .brk, st => match st with
    | .Break _ => true
    | _ => false
  | .cnt, st => match st with
    | .Continue _ => true
    | _ => false
  | .any, _ => true
  | .pas, st => match st with
    | .Pass _ => true
    | _ => false
def chkSs (C : Ck) : List S → List Stmt → Bool
  | [], sts => sts.isEmpty
  | s :: ss, sts => match sts with
    | st :: sts => chkS C s st && chkSs C ss sts
    | [] => false
end
section
variable {cf : CF} {ios : Str → List Bool} {io : List Bool}
theorem PS.imp {X : Cx} {e : Stmt} {t t' : TS} (h : PS X e t) (i : ∀ D σ H, t' D σ H → t D σ H) : PS X e t' := ⟨fun pins s σ H D I q => h.run pins s σ H D I (i D σ H q)⟩
theorem PSs.imp {X : Cx} {e : List Stmt} {t t' : TS} (h : PSs X e t) (i : ∀ D σ H, t' D σ H → t D σ H) : PSs X e t' := ⟨fun pins s σ H D I q => h.run pins s σ H D I (i D σ H q)⟩
theorem sw_no {v : Expr} {t : Option Expr} {l : Nat} {env : PySem.Env} (h : notComp v = true) : swapsWith v t l env = pure false := by
  cases v <;> first | rfl | (simp [notComp] at h)
theorem sw_cell {elt : Expr} {gs : List Comprehension} {scope : Scope} {pos py : Pos} {y : Str} {l : Nat} {env : PySem.Env} (hy : (env.kindOf y == some .local) = false) : swapsWith (.ListComp elt gs scope pos) (some (.Name y py)) l env = pure false := by
  unfold swapsWith
  simp only [hy, Bool.and_false, Bool.false_and]
/-- a comprehension, its value the statement's -/
theorem set_lc {CL : CLT} {W : WX} {X : Cx} {C : Ck} (ok : XOk X C cf ios CL W) {i : Nat} {x : Str} {px pos : Pos} {e : E} {v : Expr} (hp : C.put i x = true) (h : chkLc C x px e v = true) : PS X (.Assign [.Name x px] v pos) (tS X.K CL W cf ios io (.set i e)) := by
  unfold chkLc at h
  split at h
  · rename_i nst ow elt tg it cond x' t it' ifs scope lp
    simp only [Bool.and_eq_true, Bool.not_eq_true', decide_eq_true_eq] at h
    obtain ⟨⟨⟨⟨hk, hloc⟩, hline⟩, hany⟩, ⟨⟨⟨⟨⟨⟨⟨rfl, h2⟩, h3⟩, h4⟩, h5⟩, h6⟩, h7⟩, hc⟩⟩ := h
    obtain ⟨q1, q2, q3⟩ := ok.put hp
    have bo := blk_ok ok h3
    have hy : X.env.scope.names.lookup x = some .local := by rw [ok.sc]; exact hloc
    have hsw : swapsWith (.ListComp x' [⟨t, it', ifs, 0⟩] scope lp) (some (.Name x px)) pos.line X.env = pure true := sw_true (by rw [ok.sc]; exact hk) hy hline hany
    have p := ps_setLc (pos := lp) (spos := pos) (elt := x') (te := tE X.K CL W0 cf ios elt) (tt := tCond X.K CL cf ios cond) (g := tTg X.K CL tg) (ok.cal hc) ok.ndN q1 hy hsw (chkI_ok it X C t it' _ ok h4) bo (fun s H c cl fp => chkT_ok (ok.blk scope s H c cl fp) h5) (fun s H c cl fp => chkO_ok cond _ _ ifs _ rfl (ok.blk scope s H c cl fp) h6)
      (fun s H c cl fp => (chkE_ok elt _ _ x' _ (ok.blk scope s H c cl fp) h7).1) (folded1 h2)
    rw [own_snd] at p
    exact PS.imp p fun D σ H q => tE_comp (tS_set q)
  · cases h
section
variable {CL : CLT} {W : WX} {X : Cx} {C : Ck}
theorem XOk.exm (ok : XOk X C cf ios CL W) {c : Str} (h : (∃ y ∈ C.ct.exs, y = c) ∨ ∃ y ∈ C.ct.exn, y.1 = c) : ∃ A, CL.xc c = some A ∧ X.mg c = some (.ref A) ∧ PySem.W.exmOne X.K (.ref A) (.ref A) = some true := by
  rcases h with ⟨y, hy, rfl⟩ | ⟨y, hy, rfl⟩
  · obtain ⟨A, hA, T⟩ := ok.ct.exs _ hy
    exact ⟨A, hA, T.gC, T.te⟩
  · obtain ⟨A, hA, T⟩ := ok.ct.exn _ hy
    exact ⟨A, hA, T.gC, T.te⟩
theorem XOk.tr (ok : XOk X C cf ios CL W) (h : C.stm = true) {W' : WX} {pn : List (Addr × Obj)} {xe : Value → Shared → Prop} (tk : L2N.Takes (X.tr pn xe) W') : XOk (X.tr pn xe) C cf ios CL W' :=
  ⟨tk, ok.N, ok.nd, ok.sc, ok.calm, ok.fn, ok.bl, ok.gc, ok.un, ok.call, ok.mkc, ok.ct, ok.rx, ok.st, ok.ex0, (fun i n f e => by rw [(ok.st h).2.2.2] at e; cases e), ok.hcl, fun z => by rw [(ok.st h).2.2.1] at z; cases z⟩
theorem XOk.sui (ok : XOk X C cf ios CL W) (a : Addr) (pn : List (Addr × Obj)) : XOk (X.suite a pn) C.sui cf ios CL W0 :=
  ⟨takes_W0, ok.N, ok.nd, ok.sc, (fun z => by cases z), ok.fn, ok.bl, ok.gc, ok.un, (fun _ z => nomatch z), (fun _ z => nomatch z), ⟨(fun _ z => nomatch z), (fun _ z => nomatch z), (fun _ z => nomatch z)⟩, fun z => absurd rfl z, (fun z => by cases z), (fun z => by cases z), (fun _ _ _ z => by cases z), (fun _ z => nomatch z), fun _ z => absurd rfl z⟩
theorem XOk.suiAs (ok : XOk X C cf ios CL W) (a dx : Addr) (k : Int) (pn : List (Addr × Obj)) {i : Nat} {n f c : Str} {A : Addr} {oe : Obj} (T : ExF X.prog X.w X.K X.mg X.base c f A) (hz : L2N.Zn (.ref A) (some dx) oe) (hf : ∃ vs, oe.data = .fields vs) : XOk (X.suite a ((a, oe) :: pn)) (C.suiAs i n f) cf ios (CL.hold a dx f k) W0 :=
  ⟨takes_W0, ok.N, ok.nd, ok.sc, (fun z => by cases z), ok.fn, ok.bl, ok.gc, ok.un, (fun _ z => nomatch z), (fun _ z => nomatch z), ⟨(fun _ z => nomatch z), (fun _ z => nomatch z), (fun _ z => nomatch z)⟩, fun z => absurd rfl z, (fun z => by cases z), (fun z => by cases z), (fun i' n' f' z => by
    simp only [Ck.suiAs, Option.some.injEq, Prod.mk.injEq] at z
    obtain ⟨rfl, rfl, rfl⟩ := z
    intro p pos he
    exact PE.imp (pe_held (k := k) (pos := pos) T.ga T.gg T.T.exC T.hd T.nf hz.zc hf he rfl) fun σ H Q ⟨v, e, a', d, k', q1, q2, q3, q4⟩ => by
      simp only [CLT.hold, Option.some.injEq, Prod.mk.injEq] at q1
      obtain ⟨rfl, rfl, _, rfl⟩ := q1
      exact ⟨v, e, q2, q3, q4⟩), (fun f hf' => by obtain ⟨k', r, c⟩ := ok.hcl f hf'; exact ⟨k', ⟨r.dp, r.un⟩, c⟩), fun _ _ => ⟨(a, oe), ⟨rfl, by obtain ⟨vs, e⟩ := hf; exact ⟨vs, e, hz.2.2 vs e⟩⟩, List.mem_cons_self⟩⟩
end
mutual
theorem chkS_ok : ∀ (s : S) (X : Cx) (C : Ck) (st : Stmt) (W : WX) (CL : CLT), XOk X C cf ios CL W → PassesOwn (model X.prog X.w) X.A X.env X.xe → chkS C s st = true → PS X st (tS X.K CL W cf ios io s)
  | .set i e, X, C, st, W, CL, ok, hp, h => by
    simp only [chkS] at h
    split at h
    · rename_i x px v pos
      simp only [Bool.and_eq_true, Bool.or_eq_true, Bool.not_eq_true', decide_eq_false_iff_not] at h
      obtain ⟨h1, (⟨h2, h3⟩ | ⟨h2, h3⟩) | h2⟩ := h
      · obtain ⟨q1, q2, q3⟩ := ok.put h1
        exact PS.imp (ps_set ok.ndN q1 q2 (chkE_ok e X C _ _ ok h3).1 (sw_no h2) q3) fun _ _ _ q => tS_set q
      · obtain ⟨q1, q2, q3⟩ := ok.put h1
        have hsw : swapsWith v (some (.Name x px)) pos.line X.env = pure false := by
          cases v with
          | ListComp elt gs scope p =>
            refine sw_cell ?_
            show (X.env.scope.names.lookup x == some .local) = false
            rw [ok.sc]
            simpa using h2
          | SetComp _ _ _ _ => cases e <;> simp [chkE, constOk] at h3
          | DictComp _ _ _ _ _ => cases e <;> simp [chkE, constOk] at h3
          | _ => rfl
        exact PS.imp (ps_set ok.ndN q1 q2 (chkE_ok e X C _ _ ok h3).1 hsw q3) fun _ _ _ q => tS_set q
      · exact set_lc ok h1 h2
    · cases h
  | .unp t e, X, C, st, W, CL, ok, hp, h => by
    simp only [chkS] at h
    split at h
    · rename_i es k tp v pos
      simp only [Bool.and_eq_true] at h
      obtain ⟨⟨h1, h2⟩, h3⟩ := h
      refine PS.imp (ps_asg (chkE_ok e X C _ _ ok h3).1 (chkT_ok ok h2) ?_ ?_ rfl) fun _ _ _ q => tS_unp q
      · cases v <;> rfl
      · cases v <;> first | rfl | (simp [notTup] at h1)
    · cases h
  | .par _ _ _ _, X, C, st, W, CL, ok, hp, h => by simp [chkS] at h
  | .setIx b j e, X, C, st, W, CL, ok, hp, h => by
    simp only [chkS] at h
    split at h
    · rename_i o i sp v pos
      simp only [Bool.and_eq_true] at h
      obtain ⟨⟨⟨h1, h2⟩, h3⟩, h4⟩ := h
      refine PS.imp (ps_asg (chkE_ok e X C _ _ ok h4).1 (pg_sub (chkE_ok b X C _ _ ok h2).1 (chkE_ok j X C _ _ ok h3).1 set_list ?_) ?_ ?_ rfl) fun _ _ _ q => tS_setIx q
      · intro v
        cases i <;> first | rfl | (simp [notSlice] at h1)
      · cases v <;> rfl
      · cases v <;> rfl
    · cases h
  | .setFld b c f e, X, C, st, W, CL, ok, hp, h => by
    simp only [chkS] at h
    split at h
    · rename_i x np g ap v pos
      simp only [Bool.and_eq_true, decide_eq_true_eq, List.any_eq_true] at h
      obtain ⟨⟨⟨⟨rfl, ⟨y, hy, rfl⟩⟩, h3⟩, h4⟩, h5⟩ := h
      cases b with
      | v i =>
        simp only [Ck.slot, Bool.and_eq_true, decide_eq_true_eq] at h3
        obtain ⟨⟨q1, q2⟩, q3⟩ := h3
        obtain ⟨n1, n2⟩ := okName1 q3
        exact PS.imp (ps_fld (pe_var (by rw [ok.N]; exact q1) (ok.vis q2) n1 n2) (chkE_ok e X C _ _ ok h5).1 (sw_no h4)) fun _ _ _ q => tS_setFld (ok.ct.fls _ hy) q
      | _ => cases h3
    · cases h
  | .aug i o e, X, C, st, W, CL, ok, hp, h => by
    simp only [chkS] at h
    split at h
    · rename_i x np op v pos
      simp only [Bool.and_eq_true, decide_eq_true_eq] at h
      obtain ⟨⟨h1, h3⟩, h5⟩ := h
      obtain ⟨q1, q2, q3⟩ := ok.put h1
      have hip : PIp X op (augIp o) := by
        rcases h3 with ⟨rfl, rfl⟩ | ⟨rfl, rfl⟩
        · exact ip_add
        · exact ip_sub
      exact PS.imp (ps_aug ok.ndN q1 q2 (chkE_ok e X C _ _ ok h5).1 hip q3) fun _ _ _ q => tS_aug q
    · cases h
  | .augIx b j o e, X, C, st, W, CL, ok, hp, h => by
    simp only [chkS] at h
    split at h
    · rename_i x np k sp op v pos
      simp only [Bool.and_eq_true, decide_eq_true_eq] at h
      obtain ⟨⟨⟨⟨h1, h2⟩, h3⟩, h4⟩, h5⟩ := h
      cases b with
      | v i =>
        simp only [Ck.slot, Bool.and_eq_true, decide_eq_true_eq] at h1
        obtain ⟨⟨q1, q2⟩, q3⟩ := h1
        obtain ⟨n1, n2⟩ := okName1 q3
        have hip : PIp X op (augIp o) := by
          rcases h3 with ⟨rfl, rfl⟩ | ⟨rfl, rfl⟩
          · exact ip_add
          · exact ip_sub
        refine PS.imp (ps_augS (pe_var (by rw [ok.N]; exact q1) (ok.vis q2) n1 n2) (chkE_ok j X C _ _ ok h4).1 get_pos (chkE_ok e X C _ _ ok h5).1 hip set_list ?_) fun _ _ _ q => tS_augIx q
        intro ov iv new
        cases k <;> first | rfl | (simp [notSlice] at h2)
      | _ => cases h1
    · cases h
  | .augFld _ _ _ _, X, C, st, W, CL, ok, hp, h => by simp [chkS] at h
  | .ex e, X, C, st, W, CL, ok, hp, h => by
    simp only [chkS] at h
    split at h
    · simp only [Bool.and_eq_true] at h
      exact PS.imp (ps_expr (chkE_ok e X C _ _ ok h.2).1 (sw_no h.1)) fun _ _ _ q => tS_ex q
    · cases h
  | .ite c a b, X, C, st, W, CL, ok, hp, h => by
    simp only [chkS] at h
    split at h
    · simp only [Bool.and_eq_true] at h
      exact PS.imp (ps_if (chkE_ok c X C _ _ ok h.1.1).2 (chkSs_ok a X C _ _ _ ok hp h.1.2) (chkSs_ok b X C _ _ _ ok hp h.2)) fun _ _ _ q => tS_ite q
    · cases h
  | .whl c b, X, C, st, W, CL, ok, hp, h => by
    simp only [chkS] at h
    split at h
    · simp only [Bool.and_eq_true] at h
      exact PS.imp (ps_while hp (chkE_ok c X C _ _ ok h.1).2 (chkSs_ok b X C _ _ _ ok hp h.2)) fun _ _ _ q => tS_whl q
    · cases h
  | .for_ t it b, X, C, st, W, CL, ok, hp, h => by
    simp only [chkS] at h
    split at h
    · simp only [Bool.and_eq_true] at h
      obtain ⟨⟨⟨⟨h1, h2⟩, h3⟩, h4⟩, hc⟩ := h
      exact PS.imp (ps_for hp (ok.cal hc) (chkI_ok it X C _ _ _ ok h2) (chkT_ok ok h3) (chkSs_ok b X C _ _ _ ok hp h4) (folded1 h1)) fun _ _ _ q => tS_for q
    · cases h
  | .ret e, X, C, st, W, CL, ok, hp, h => by
    simp only [chkS] at h
    split at h
    · exact PS.imp (ps_ret (chkE_ok e X C _ _ ok h).1) fun _ _ _ q => tS_ret q
    · split at h
      · exact PS.imp ps_retN fun D σ H q => tE_c (d := .non) (v := .non) (fun _ _ => rep_non) (tS_ret q)
      · cases h
    · cases h
  | .rai c none, X, C, st, W, CL, ok, hp, h => by
    simp only [chkS] at h
    split at h
    · simp only [Bool.and_eq_true, decide_eq_true_eq, List.any_eq_true] at h
      obtain ⟨⟨⟨⟨rfl, h2⟩, h3⟩, ⟨y, hy, rfl⟩⟩, hc⟩ := h
      obtain ⟨A, hA, T⟩ := ok.ct.exs _ hy
      exact PS.imp (L2N.ps_raise (ok.cal hc) ok.tk (L2N.pmk_own PySem.F.excBase_ValueError T.q T.gC T.kC (raises_own T.exC T.tyC) (ok.gl h2) (okName1 h3).1)) fun _ _ _ q => tS_rai hA q
    · cases h
  | .rai c (some (f, e)), X, C, st, W, CL, ok, hp, h => by
    simp only [chkS] at h
    split at h
    · simp only [Bool.and_eq_true, decide_eq_true_eq, List.any_eq_true] at h
      obtain ⟨⟨⟨⟨⟨⟨rfl, h2⟩, h3⟩, ⟨y, hy, rfl⟩⟩, h5⟩, h6⟩, hc⟩ := h
      obtain ⟨A, hA, T⟩ := ok.ct.exn _ hy
      obtain ⟨fI, fd, i1, i2, i3, i4⟩ := T.ini
      have hr : Room 2 X.A := ok.rx fun z => by rw [z] at hy; cases hy
      exact PS.imp (L2N.ps_raise (ok.cal hc) ok.tk (pmkN T.T i1 i2 i3 hr i4 T.nf (ok.gl h2) T.gC (okName1 h3).1 (chkE_ok e X C _ _ ok h6).1 (star1 h5))) fun _ _ _ q => tS_raiF hA q
    · cases h
  | .try_ b c none hs, X, C, st, W, CL, ok, hp, h => by
    simp only [chkS] at h
    split at h
    · simp only [Bool.and_eq_true, decide_eq_true_eq, List.any_eq_true, Bool.or_eq_true] at h
      obtain ⟨⟨⟨⟨⟨⟨rfl, h2⟩, h3⟩, h4⟩, h5⟩, h6⟩, h7⟩ := h
      obtain ⟨s1, s2, s3, s4⟩ := ok.st h5
      obtain ⟨A, hA, gA, te⟩ := ok.exm h4
      refine PS.imp (L2N.ps_try_many (l := [(.ref A, fun _ _ _ => tSs X.K CL W0 cf ios io hs)]) (tb := fun W => tSs X.K CL W cf ios io b) (Wout := W) s1 s2 ok.tk (fun W' pn xe tk' hp' => chkSs_ok b (X.tr pn xe) C _ W' CL (ok.tr h5 tk') hp' h6)
        (.cons ⟨ok.gl h2, (okName1 h3).1, .inl gA⟩ (fun a oe cls d pn hz hf => chkSs_ok hs (X.suite a ((a, oe) :: pn)) C.sui _ W0 CL (ok.sui a _) PassesOwn.never h7) .nil)) fun _ _ _ q => tS_try hA te q
    · cases h
  | .try_ b c (some (i, f)) hs, X, C, st, W, CL, ok, hp, h => by
    simp only [chkS] at h
    split at h
    · rename_i x np n b₀ suite hpos pos
      simp only [Bool.and_eq_true, decide_eq_true_eq, List.any_eq_true] at h
      obtain ⟨⟨⟨⟨⟨⟨⟨⟨rfl, h2⟩, h3⟩, ⟨y, hy, rfl⟩⟩, h5⟩, h6⟩, h7⟩, h8⟩, h9⟩ := h
      obtain ⟨s1, s2, s3, s4⟩ := ok.st h5
      obtain ⟨A, hA, T⟩ := ok.ct.exn _ hy
      have hl : X.env.kindOf n = some .local := by
        show X.env.scope.names.lookup n = some .local
        rw [ok.sc]; exact h7
      refine PS.imp (L2N.ps_try_as (i := i) (c := .ref A) (tb := fun W => tSs X.K CL W cf ios io b) (ts := fun a cls d D' σ' H' => cls = .ref A ∧ ∃ dx k, d = some dx ∧ tSs X.K (CL.hold a dx f k) W0 cf ios io hs D' σ' H') (Wout := W) s1 s2 ok.ndN (by rw [ok.N]; exact h6) hl ⟨ok.gl h2, (okName1 h3).1, .inl T.gC⟩ ok.tk
        (fun W' pn xe tk' hp' => chkSs_ok b (X.tr pn xe) C _ W' CL (ok.tr h5 tk') hp' h8)
        (fun a oe cls d pn hz hf => ⟨fun pins s σ H D I ⟨q1, dx, k, q2, q⟩ => ?_⟩)) fun _ _ _ q => tS_tryAs hA T.te (ok.ex0 s3) q
      subst q1 q2
      exact (chkSs_ok hs (X.suite a ((a, oe) :: pn)) (C.suiAs i n f) _ W0 (CL.hold a dx f k) (ok.suiAs a dx k pn T hz hf) PassesOwn.never h9).run pins s σ H D I q
    · cases h
  | .brk, X, C, st, W, CL, ok, hp, h => by
    simp only [chkS] at h
    split at h
    · exact PS.imp ps_break fun _ _ _ q => tS_brk q
    · cases h
  | .cnt, X, C, st, W, CL, ok, hp, h => by
    simp only [chkS] at h
    split at h
    · exact PS.imp ps_continue fun _ _ _ q => tS_cnt q
    · cases h
  | .any, X, C, st, W, CL, ok, hp, h => ⟨fun pins s σ H D I q => by
    obtain ⟨F, ρ, ft, R, q⟩ := q
    simp only [runS] at q
    exact q.elim⟩
  | .pas, X, C, st, W, CL, ok, hp, h => by
    simp only [chkS] at h
    split at h
    · exact PS.imp ps_pass fun _ _ _ q => tS_pas q
    · cases h
theorem chkSs_ok : ∀ (ss : List S) (X : Cx) (C : Ck) (sts : List Stmt) (W : WX) (CL : CLT), XOk X C cf ios CL W → PassesOwn (model X.prog X.w) X.A X.env X.xe → chkSs C ss sts = true → PSs X sts (tSs X.K CL W cf ios io ss)
  | [], X, C, sts, W, CL, ok, hp, h => by
    simp only [chkSs, List.isEmpty_iff] at h
    subst h
    exact PSs.imp pss_nil fun _ _ _ q => tSs_nil q
  | s :: ss, X, C, sts, W, CL, ok, hp, h => by
    simp only [chkSs] at h
    split at h
    · simp only [Bool.and_eq_true] at h
      exact PSs.imp (pss_cons (chkS_ok s X C _ _ _ ok hp h.1) (chkSs_ok ss X C _ _ _ ok hp h.2)) fun _ _ _ q => tSs_cons q
    · cases h
end
end
end Cov

/-! Cov18: a def keeps its promise; all defs of a text. -/
namespace Cov
open PySem L2
theorem room80 {k : Nat} {A : Around} (r : Room k A) : A.units + 80 < cLine := by have := r.un; omega
section
variable {K : PySem.W.Frag} {CL : CLT} {F H : Hp}
theorem gt_someL {args : List D} {k : Nat} : gt (args.map some) k = args[k]? := by
  unfold gt
  rw [List.getElem?_map]
  cases args[k]? <;> rfl
theorem gt_rep {n k : Nat} : gt (List.replicate n (none : Option D)) k = none := by
  unfold gt
  rw [List.getElem?_replicate]
  split
  · rename_i h
    split at h <;> cases h
  · rfl
theorem Rel.start {σ : L2.St} {ρ : Env} {ft : Ft} {n : Nat} (R : Rel K CL F H σ ρ ft) : Rel K CL F H (σ ++ List.replicate n none) (ρ ++ List.replicate n none) ft := by
  refine ⟨R.sub, by rw [List.length_append, List.length_append, R.len, List.length_replicate, List.length_replicate], fun i d e => ?_, fun i e => ?_, R.nd, R.dis, R.exc⟩
  · rw [gt_app] at e
    split at e
    · rename_i hi
      obtain ⟨v, e1, r⟩ := R.rep i d e
      exact ⟨v, by rw [List.getElem?_append_left (by rw [R.len]; exact hi)]; exact e1, r⟩
    · rw [gt_rep] at e
      cases e
  · rw [gt_app] at e
    split at e
    · exact R.emp i e
    · rename_i hi
      refine R.emp i ?_
      unfold gt
      rw [List.getElem?_eq_none (by omega)]
theorem fins_get {np k : Nat} {ρ : Env} (h : k < np) : (fins np ρ)[k]? = some ((gt ρ k).getD .non) := by
  unfold fins
  rw [List.getElem?_map, List.getElem?_range h]
  rfl
theorem fins_length {np : Nat} {ρ : Env} : (fins np ρ).length = np := by simp [fins]
/-- what the caller sees of the end -/
theorem end_rel {vs : List V} {io : List Bool} {np : Nat} {σ : L2.St} {ρ : Env} {ft : Ft} (R : Rel K CL F H σ ρ ft) (hl : vs.length = np) (ok : finOk io np ρ = true) (hs : ∀ k v, io.getD k false = true → vs[k]? = some v → σ[k]? = some (some v)) :
    Rel K CL F H (vs.map some) (maskE io (fins np ρ)) (fun k => if io.getD k false = true ∧ k < np then ft k else []) := by
  have okk : ∀ k, k < np → io.getD k false = true → ∃ d, gt ρ k = some d := fun k hk hi => by
    have := List.all_eq_true.mp ok k (List.mem_range.mpr hk)
    rw [hi] at this
    exact Option.isSome_iff_exists.mp (by simpa using this)
  refine ⟨R.sub, by rw [List.length_map, maskE_length, fins_length, hl], fun k d e => ?_, fun k e => ?_, fun k => ?_, fun i j a h1 h2 => ?_, R.exc⟩
  · rw [maskE_gt] at e
    split at e
    · rename_i hi
      have hk : k < np := by
        have := (List.getElem?_eq_some_iff.mp e).1
        rwa [fins_length] at this
      rw [fins_get hk] at e
      obtain ⟨d', e'⟩ := okk k hk hi
      rw [e'] at e
      cases e
      obtain ⟨v, e1, r⟩ := R.rep k d' e'
      have hv : k < vs.length := by rw [hl]; exact hk
      have e2 := hs k vs[k] hi (List.getElem?_eq_getElem hv)
      rw [e1] at e2
      cases e2
      refine ⟨vs[k], by rw [List.getElem?_map, List.getElem?_eq_getElem hv]; rfl, ?_⟩
      rw [if_pos ⟨hi, hk⟩]
      exact r
    · cases e
  · split
    · rename_i h
      obtain ⟨d, e'⟩ := okk k h.2 h.1
      rw [maskE_gt, if_pos h.1, fins_get h.2, e'] at e
      cases e
    · rfl
  · split
    · exact R.nd k
    · exact List.nodup_nil
  · split at h1
    · split at h2
      · exact R.dis i j a h1 h2
      · cases h2
    · cases h1
theorem end_mem {io : List Bool} {np k : Nat} {ft : Ft} {a : Addr} (h : a ∈ (if io.getD k false = true ∧ k < np then ft k else [])) : a ∈ ft k := by
  split at h
  · exact h
  · cases h
end
section
variable {P : Program} {w : World} {K : PySem.W.Frag} {mg : Str → Option Value} {base : Heap} {CL : CLT} {Γ : Str → Option FD}
structure DefC (K : PySem.W.Frag) (Γ : Str → Option FD) (bl : List Str) (gc : List (Str × Int)) (ct : CT) (names : List Str) (lev : Str → Nat) (f nm qual : Str) (st : Stmt) (fa : Addr) (fdt : FuncData) (N ps : List Str) (fd : FD) (fs ms : List Str) (xn : List (Str × Str)) : Prop where
  fn : Fun K nm qual st fa fdt
  bd : Binds K fdt ps []
  sc : FnScope N ps (defScope st)
  tab : Γ f = some fd
  np : fd.np = ps.length
  ns : fd.ns = N.length
  io : ∀ k, fd.io.getD k false = true → k < fd.np ∧ k ∉ asgL fd.body
  pos : 1 ≤ lev f
  calls : ∀ g ∈ fs, g ∈ names ∧ lev g < lev f
  makes : ∀ g ∈ ms, g ∈ ct.mks ∧ lev g + 1 < lev f
  raises : ∀ p ∈ xn, p ∈ ct.exn ∧ 3 ≤ lev f
  chk : chkSs ⟨N, defScope st, fun _ => true, bl, fs, gc, ⟨ms, ct.fls, ct.exs, xn, if 2 ≤ lev f then ct.hfs else []⟩, false, true, none⟩ fd.body (defBody st) = true
/-- a def of the text -/
def DefF (K : PySem.W.Frag) (mg : Str → Option Value) (Γ : Str → Option FD) (bl : List Str) (gc : List (Str × Int)) (ct : CT) (names : List Str) (lev : Str → Nat) (f : Str) : Prop := ∃ st fa fdt N ps fd fs ms xn, DefC K Γ bl gc ct names lev f f f st fa fdt N ps fd fs ms xn ∧ mg f = some (.ref fa) ∧ PySem.W.keepIn K (.ref fa) = true
/-- a class of the text -/
def IniF (K : PySem.W.Frag) (mg : Str → Option Value) (CL : CLT) (Γ : Str → Option FD) (bl : List Str) (gc : List (Str × Int)) (ct : CT) (names : List Str) (lev : Str → Nat) (c : Str) : Prop := ∃ C qual st fa fdt N ps fd fs ms xn, DefC K Γ bl gc ct names lev c "__init__" qual st fa fdt N ps fd fs ms xn ∧ ClsOk K CL c [] C ∧ Mk K C fa ∧ mg c = some (.ref C)
/-- all that a look at the def's text can tell -/
def lookB (names bl : List Str) (gc : List (Str × Int)) (ct : CT) (lev : Str → Nat) (f : Str) (st : Stmt) (N ps : List Str) (fd : FD) (fs ms : List Str) (xn : List (Str × Str)) : Bool :=
  C8.scC N ps (defScope st) && decide (fd.np = ps.length) && decide (fd.ns = N.length) && (List.range fd.io.length).all (fun k => !(fd.io.getD k false) || (decide (k < fd.np) && !(asgL fd.body).any (fun j => decide (j = k)))) &&
  decide (1 ≤ lev f) && fs.all (fun g => names.any (fun y => decide (y = g)) && decide (lev g < lev f)) && ms.all (fun g => ct.mks.any (fun y => decide (y = g)) && decide (lev g + 1 < lev f)) && xn.all (fun p => ct.exn.any (fun y => decide (y = p)) && decide (3 ≤ lev f)) &&
  chkSs ⟨N, defScope st, fun _ => true, bl, fs, gc, ⟨ms, ct.fls, ct.exs, xn, if 2 ≤ lev f then ct.hfs else []⟩, false, true, none⟩ fd.body (defBody st)
theorem defC_mk {bl names : List Str} {gc : List (Str × Int)} {ct : CT} {lev : Str → Nat} {f nm qual : Str} {st : Stmt} {fa : Addr} {fdt : FuncData} {N ps : List Str} {fd : FD} {fs ms : List Str} {xn : List (Str × Str)} (hF : Fun K nm qual st fa fdt) (hb : Binds K fdt ps []) (hΓ : Γ f = some fd)
    (h : lookB names bl gc ct lev f st N ps fd fs ms xn = true) : DefC K Γ bl gc ct names lev f nm qual st fa fdt N ps fd fs ms xn := by
  simp only [lookB, Bool.and_eq_true, decide_eq_true_eq, List.all_eq_true, List.any_eq_true, Bool.or_eq_true, Bool.not_eq_true', List.mem_range] at h
  obtain ⟨⟨⟨⟨⟨⟨⟨⟨h1, h2⟩, h3⟩, h4⟩, h5⟩, h6⟩, h6m⟩, h6x⟩, h7⟩ := h
  refine ⟨hF, hb, C8.fnScope_by h1, hΓ, h2, h3, fun k hk => ?_, h5, fun g hg => ?_, fun g hg => ?_, fun p hp => ?_, h7⟩
  · have hlt : k < fd.io.length := by
      apply Classical.byContradiction
      intro z
      rw [List.getD_eq_getElem?_getD, List.getElem?_eq_none (by omega)] at hk
      cases hk
    rcases h4 k hlt with z | ⟨z1, z2⟩
    · rw [hk] at z; cases z
    · refine ⟨z1, fun hmem => ?_⟩
      have := List.any_eq_false.mp z2 k hmem
      simp at this
  · obtain ⟨⟨y, hy, rfl⟩, h8⟩ := h6 g hg
    exact ⟨hy, h8⟩
  · obtain ⟨⟨y, hy, rfl⟩, h8⟩ := h6m g hg
    exact ⟨hy, h8⟩
  · obtain ⟨⟨y, hy, rfl⟩, h8⟩ := h6x p hp
    exact ⟨hy, h8⟩
theorem spF_len {cf : CF} {f : Str} {io : List Bool} {vs : List V} {H : Hp} {Q : VK} {E : XK} (h : spF K CL cf f io vs H Q E) : ∃ args out, cf f args = some out ∧ vs.length = args.length := by
  obtain ⟨F, args, ft, out, R, e, _⟩ := h
  refine ⟨args, out, e, ?_⟩
  have := R.len
  simpa using this
theorem okN {x qual : Str} {st : Stmt} {f : Addr} {fd : FuncData} {N ps : List Str} {k : Nat} {sp : Sp} (F : Fun K x qual st f fd) (S : FnScope N ps (defScope st)) (len : ∀ vs H Q E, sp vs H Q E → vs.length = ps.length)
    (hbody : ∀ (cdv : Value) (A : Around) (outer : List PySem.Env) (s : Shared) (H : Hp) (vs : List V) (Q : VK) (E : XK), Room k (A.deeper (PyProof.Rows.envOfC qual (defScope st) s.heap.objs.size f cdv)) → sp vs H Q E →
      ∃ t, PSs (cxOf (L2N.CX P w) P w K mg base N qual (defScope st) f cdv A outer s H E) (defBody st) t ∧ t { nx := fun _ H' => Q .non H', rt := Q } (L2.start N vs) H) : FnOk P w K mg base (L2N.CX P w) (k + 1) f fd ps sp := by
  obtain ⟨oc, od, kV, doc, pm, an, cdv, ct, osl, rfl, lk, hcd⟩ := F.ex
  exact fn_of lk hcd S len fun A outer s H vs Q E hr h => hbody cdv A outer s H vs Q E hr h
theorem def_fn {bl names : List Str} {gc : List (Str × Int)} {ct : CT} {lev : Str → Nat} {f nm qual : Str} {st : Stmt} {fa : Addr} {fdt : FuncData} {N ps : List Str} {fd : FD} {fs ms : List Str} {xn : List (Str × Str)} (d : DefC K Γ bl gc ct names lev f nm qual st fa fdt N ps fd fs ms xn) (hbl : ∀ x ∈ bl, mg x = none) (hgc : ∀ p ∈ gc, ∃ t, mg p.1 = some (.int p.2 t)) (hct : CtOk P w K mg base CL ct) (hex : CL.ex = none) {n : Nat} (ih : ∀ g ∈ names, Cal P w K mg base (lev g) g (spF K CL (callF Γ n) g (iosOf Γ g))) (im : ∀ g ∈ ct.mks, Mkl P w K mg base CL (lev g) g (spF K CL (callF Γ n) g (iosOf Γ g))) (ihh : ∀ g ∈ ct.hfs, lev g = 1 ∧ ∀ CL' : CLT, CalH P w K mg base 1 g (spF K CL' (callF Γ n) g (iosOf Γ g))) :
    FnOk P w K mg base (L2N.CX P w) (lev f) fa fdt ps (spF K CL (callF Γ (n + 1)) f (iosOf Γ f)) := by
  obtain ⟨hF, hb, hS, hΓ, hnp, hns, hio, hlev, hfs, hms, hxn, hchk⟩ := d
  obtain ⟨k, hk⟩ : ∃ k, lev f = k + 1 := ⟨lev f - 1, by omega⟩
  have eio : iosOf Γ f = fd.io := by unfold iosOf; rw [hΓ]
  rw [hk, eio]
  have hcall : ∀ args, callF Γ (n + 1) f args = if args.length = fd.np then outOf fd (runSs (callF Γ n) (iosOf Γ) fd.io fd.body (args.map some ++ List.replicate (fd.ns - fd.np) none)) else none := fun args => by
    simp only [callF, hΓ]
  refine okN hF hS (fun vs H Q E h => ?_) fun cdv A outer s H vs Q E hr h => ?_
  · obtain ⟨args, out, e, hl⟩ := spF_len h
    rw [hcall] at e
    split at e
    · rename_i ha
      rw [hl, ha, hnp]
    · cases e
  · have tk := L2N.takes_of (X := cxOf (L2N.CX P w) P w K mg base N qual (defScope st) fa cdv A outer s H E) (E := E) rfl rfl rfl rfl
    refine ⟨tSs K CL (fun cls d _ H => E cls d H) (callF Γ n) (iosOf Γ) fd.io fd.body, chkSs_ok fd.body _ ⟨N, defScope st, fun _ => true, bl, fs, gc, ⟨ms, ct.fls, ct.exs, xn, if 2 ≤ lev f then ct.hfs else []⟩, false, true, none⟩ _ _ CL ⟨tk, rfl, hS.nd, rfl, fun _ => rfl, rfl, hbl, hgc, room80 hr, fun g hg => ?_, fun g hg => ?_, ⟨hct.fls, hct.exs, fun p hp => hct.exn p (hxn p hp).1⟩, fun z => ?_, fun _ => ⟨rfl, rfl, rfl, rfl⟩, fun _ => hex, (fun _ _ _ z => by cases z), fun g hg => ?_, fun z => by cases z⟩ (passes_of rfl) hchk, ?_⟩
    · obtain ⟨h1, h2⟩ := hfs g hg
      exact ⟨lev g, hr.mono (by omega), ih g h1⟩
    · obtain ⟨h1, h2⟩ := hms g hg
      exact ⟨lev g, hr.mono (by omega), im g h1⟩
    · cases xn with
      | nil => exact absurd rfl z
      | cons p r => exact hr.mono (by have := (hxn p (by simp)).2; omega)
    · by_cases h2 : 2 ≤ lev f
      · have hg : g ∈ ct.hfs := by simpa [h2] using hg
        exact ⟨1, L2H.roomH_of (hr.mono (by omega)), (ihh g hg).2⟩
      · simp [h2] at hg
    · obtain ⟨F, args, ft, out, R, e, hft, h⟩ := h
      have hl : vs.length = args.length := by simpa using R.len
      rw [hcall] at e
      split at e
      · rename_i ha
        have e0 : L2.start N vs = vs.map some ++ List.replicate (fd.ns - fd.np) none := by
          unfold L2.start
          rw [hns, ← ha, hl]
        rw [e0]
        refine ⟨F, _, ft, R.start, ?_⟩
        have hkeep : ∀ {σ' : L2.St}, Kept (asgL fd.body) (vs.map some ++ List.replicate (fd.ns - fd.np) none) σ' → ∀ k v, fd.io.getD k false = true → vs[k]? = some v → σ'[k]? = some (some v) := fun {σ'} kp k v hi hv => by
          rw [kp k (hio k hi).2]
          have hk : k < vs.length := (List.getElem?_eq_some_iff.mp hv).1
          rw [List.getElem?_append_left (by rw [List.length_map]; exact hk), List.getElem?_map, hv]
          rfl
        have hnv : vs.length = fd.np := hl.trans ha
        generalize runSs (callF Γ n) (iosOf Γ) fd.io fd.body (args.map some ++ List.replicate (fd.ns - fd.np) none) = m at e ⊢
        cases m with
        | none => cases e
        | some o =>
          cases o with
          | ex c d ρ' =>
            simp only [outOf] at e
            split at e
            · rename_i hok
              cases e
              intro cls dd σ' H' F' ft' R' s' kp x
              exact h.2 cls dd H' F' _ (end_rel R' hnv hok (hkeep kp)) ⟨s'.fr, s'.dom, fun i a z => s'.own i a (end_mem z), s'.fro, s'.mono⟩ x
            · cases e
          | ok fl ρ' =>
            cases fl with
            | bk => cases e
            | ct => cases e
            | nx =>
              simp only [outOf] at e
              split at e
              · rename_i hok
                cases e
                intro σ' H' F' ft' R' s' kp
                exact h.2 .non H' F' _ [] (end_rel R' hnv hok (hkeep kp)) ⟨s'.fr, s'.dom, fun i a z => s'.own i a (end_mem z), s'.fro, s'.mono⟩ rep_non List.nodup_nil (fun _ z => nomatch z) fun _ z => nomatch z
              · cases e
            | rt d =>
              simp only [outOf] at e
              split at e
              · rename_i hok
                cases e
                intro v fp σ' H' F' ft' R' s' kp r nd o nw
                exact h.2 v H' F' _ fp (end_rel R' hnv hok (hkeep kp)) ⟨s'.fr, s'.dom, fun i a z => s'.own i a (end_mem z), s'.fro, s'.mono⟩ r nd (fun a ha i z => o a ha i (end_mem z)) nw
              · cases e
      · cases e
theorem okNH {x qual : Str} {st : Stmt} {f : Addr} {fd : FuncData} {N ps : List Str} {k : Nat} {sp : Sp} (F : Fun K x qual st f fd) (S : FnScope N ps (defScope st)) (len : ∀ vs H Q E, sp vs H Q E → vs.length = ps.length)
    (hbody : ∀ (cdv : Value) (A : Around) (outer : List PySem.Env) (s : Shared) (H : Hp) (vs : List V) (Q : VK) (E : XK) (p : Addr × Obj), L2H.Hot1 A p → L2H.RoomH k (A.deeper (PyProof.Rows.envOfC qual (defScope st) s.heap.objs.size f cdv)) → sp vs H Q E →
      ∃ t, PSs (L2H.cxH (L2N.CX P w) P w K mg base N qual (defScope st) f cdv A outer s H E p) (defBody st) t ∧ t { nx := fun _ H' => Q .non H', rt := Q } (L2.start N vs) H) : L2H.FnH P w K mg base (L2N.CX P w) (k + 1) f fd ps sp := by
  obtain ⟨oc, od, kV, doc, pm, an, cdv, ct, osl, rfl, lk, hcd⟩ := F.ex
  exact L2H.fn_ofH lk hcd S len fun A outer s H vs Q E p hot hr h => hbody cdv A outer s H vs Q E p hot hr h
/-- .. a def whose look holds within an except suite, too -/
theorem def_fnH {bl names : List Str} {gc : List (Str × Int)} {ct : CT} {lev : Str → Nat} {f nm qual : Str} {st : Stmt} {fa : Addr} {fdt : FuncData} {N ps : List Str} {fd : FD} {fs ms : List Str} {xn : List (Str × Str)} (d : DefC K Γ bl gc ct names lev f nm qual st fa fdt N ps fd fs ms xn) (hbl : ∀ x ∈ bl, mg x = none) (hgc : ∀ p ∈ gc, ∃ t, mg p.1 = some (.int p.2 t))
    (hchkH : chkSs ⟨N, defScope st, fun _ => true, bl, [], gc, ⟨[], [], [], [], []⟩, true, false, none⟩ fd.body (defBody st) = true) (CL : CLT) {n : Nat} :
    L2H.FnH P w K mg base (L2N.CX P w) 1 fa fdt ps (spF K CL (callF Γ (n + 1)) f (iosOf Γ f)) := by
  obtain ⟨hF, hb, hS, hΓ, hnp, hns, hio, hlev, hfs, hms, hxn, hchk⟩ := d
  have eio : iosOf Γ f = fd.io := by unfold iosOf; rw [hΓ]
  rw [eio]
  have hcall : ∀ args, callF Γ (n + 1) f args = if args.length = fd.np then outOf fd (runSs (callF Γ n) (iosOf Γ) fd.io fd.body (args.map some ++ List.replicate (fd.ns - fd.np) none)) else none := fun args => by
    simp only [callF, hΓ]
  refine okNH hF hS (fun vs H Q E h => ?_) fun cdv A outer s H vs Q E p hot hr h => ?_
  · obtain ⟨args, out, e, hl⟩ := spF_len h
    rw [hcall] at e
    split at e
    · rename_i ha
      rw [hl, ha, hnp]
    · cases e
  · have tk := L2N.takes_of (X := L2H.cxH (L2N.CX P w) P w K mg base N qual (defScope st) fa cdv A outer s H E p) (E := E) rfl rfl rfl rfl
    refine ⟨tSs K CL (fun cls d _ H => E cls d H) (callF Γ n) (iosOf Γ) fd.io fd.body, chkSs_ok fd.body _ ⟨N, defScope st, fun _ => true, bl, [], gc, ⟨[], [], [], [], []⟩, true, false, none⟩ _ _ CL ⟨tk, rfl, hS.nd, rfl, (fun z => by cases z), rfl, hbl, hgc, (by have := hr.un; show (A.deeper _).units + 80 < cLine; omega), (fun _ z => nomatch z), (fun _ z => nomatch z), ⟨(fun _ z => nomatch z), (fun _ z => nomatch z), (fun _ z => nomatch z)⟩, (fun z => absurd rfl z), (fun z => by cases z), (fun z => by cases z), (fun _ _ _ z => by cases z), (fun _ z => nomatch z), fun _ z => absurd rfl z⟩ (passes_of rfl) hchkH, ?_⟩
    · obtain ⟨F, args, ft, out, R, e, hft, h⟩ := h
      have hl : vs.length = args.length := by simpa using R.len
      rw [hcall] at e
      split at e
      · rename_i ha
        have e0 : L2.start N vs = vs.map some ++ List.replicate (fd.ns - fd.np) none := by
          unfold L2.start
          rw [hns, ← ha, hl]
        rw [e0]
        refine ⟨F, _, ft, R.start, ?_⟩
        have hkeep : ∀ {σ' : L2.St}, Kept (asgL fd.body) (vs.map some ++ List.replicate (fd.ns - fd.np) none) σ' → ∀ k v, fd.io.getD k false = true → vs[k]? = some v → σ'[k]? = some (some v) := fun {σ'} kp k v hi hv => by
          rw [kp k (hio k hi).2]
          have hk : k < vs.length := (List.getElem?_eq_some_iff.mp hv).1
          rw [List.getElem?_append_left (by rw [List.length_map]; exact hk), List.getElem?_map, hv]
          rfl
        have hnv : vs.length = fd.np := hl.trans ha
        generalize runSs (callF Γ n) (iosOf Γ) fd.io fd.body (args.map some ++ List.replicate (fd.ns - fd.np) none) = m at e ⊢
        cases m with
        | none => cases e
        | some o =>
          cases o with
          | ex c d ρ' =>
            simp only [outOf] at e
            split at e
            · rename_i hok
              cases e
              intro cls dd σ' H' F' ft' R' s' kp x
              exact h.2 cls dd H' F' _ (end_rel R' hnv hok (hkeep kp)) ⟨s'.fr, s'.dom, fun i a z => s'.own i a (end_mem z), s'.fro, s'.mono⟩ x
            · cases e
          | ok fl ρ' =>
            cases fl with
            | bk => cases e
            | ct => cases e
            | nx =>
              simp only [outOf] at e
              split at e
              · rename_i hok
                cases e
                intro σ' H' F' ft' R' s' kp
                exact h.2 .non H' F' _ [] (end_rel R' hnv hok (hkeep kp)) ⟨s'.fr, s'.dom, fun i a z => s'.own i a (end_mem z), s'.fro, s'.mono⟩ rep_non List.nodup_nil (fun _ z => nomatch z) fun _ z => nomatch z
              · cases e
            | rt d =>
              simp only [outOf] at e
              split at e
              · rename_i hok
                cases e
                intro v fp σ' H' F' ft' R' s' kp r nd o nw
                exact h.2 v H' F' _ fp (end_rel R' hnv hok (hkeep kp)) ⟨s'.fr, s'.dom, fun i a z => s'.own i a (end_mem z), s'.fro, s'.mono⟩ r nd (fun a ha i z => o a ha i (end_mem z)) nw
              · cases e
      · cases e
/-- a def that may be called within an except suite -/
def HotF (K : PySem.W.Frag) (mg : Str → Option Value) (Γ : Str → Option FD) (bl : List Str) (gc : List (Str × Int)) (ct : CT) (names : List Str) (lev : Str → Nat) (f : Str) : Prop := ∃ st fa fdt N ps fd fs ms xn, DefC K Γ bl gc ct names lev f f f st fa fdt N ps fd fs ms xn ∧ mg f = some (.ref fa) ∧ PySem.W.keepIn K (.ref fa) = true ∧ lev f = 1 ∧
  chkSs ⟨N, defScope st, fun _ => true, bl, [], gc, ⟨[], [], [], [], []⟩, true, false, none⟩ fd.body (defBody st) = true
theorem hot_all {bl names : List Str} {gc : List (Str × Int)} {ct : CT} {lev : Str → Nat} (hh : ∀ f ∈ ct.hfs, HotF K mg Γ bl gc ct names lev f) (hbl : ∀ x ∈ bl, mg x = none) (hgc : ∀ p ∈ gc, ∃ t, mg p.1 = some (.int p.2 t)) (n : Nat) : ∀ g ∈ ct.hfs, lev g = 1 ∧ ∀ CL' : CLT, CalH P w K mg base 1 g (spF K CL' (callF Γ n) g (iosOf Γ g)) := fun g hg => by
  obtain ⟨st, fa, fdt, N, ps, fd, fs, ms, xn, d, m, k, l1, c⟩ := hh g hg
  refine ⟨l1, fun CL' => ?_⟩
  cases n with
  | zero =>
    have no : ∀ {vs H Q E}, spF K CL' (callF Γ 0) g (iosOf Γ g) vs H Q E → False := fun h => by
      obtain ⟨_, _, _, _, _, e, _⟩ := h
      cases e
    exact ⟨fa, fdt, ps, ⟨fun vs H Q E h => (no h).elim, fun A outer s H args us vs Q E p _ _ _ _ _ _ h => (no h).elim⟩, m, k, d.bd⟩
  | succ n => exact ⟨fa, fdt, ps, def_fnH d hbl hgc c CL', m, k, d.bd⟩
/-- all defs of the text -/
theorem cal_all {bl names : List Str} {gc : List (Str × Int)} {ct : CT} {lev : Str → Nat} (hd : ∀ f ∈ names, DefF K mg Γ bl gc ct names lev f) (hi : ∀ c ∈ ct.mks, IniF K mg CL Γ bl gc ct names lev c) (hbl : ∀ x ∈ bl, mg x = none) (hgc : ∀ p ∈ gc, ∃ t, mg p.1 = some (.int p.2 t)) (hct : CtOk P w K mg base CL ct) (hex : CL.ex = none) (hh : ∀ f ∈ ct.hfs, HotF K mg Γ bl gc ct names lev f) :
    ∀ n : Nat, (∀ f ∈ names, Cal P w K mg base (lev f) f (spF K CL (callF Γ n) f (iosOf Γ f))) ∧ ∀ c ∈ ct.mks, Mkl P w K mg base CL (lev c) c (spF K CL (callF Γ n) c (iosOf Γ c))
  | 0 => by
    have no : ∀ {f : Str} {vs H Q E}, spF K CL (callF Γ 0) f (iosOf Γ f) vs H Q E → False := fun h => by
      obtain ⟨_, _, _, _, _, e, _⟩ := h
      cases e
    refine ⟨fun f hf => ?_, fun c hc => ?_⟩
    · obtain ⟨st, fa, fdt, N, ps, fd, fs, ms, xn, d, m, k⟩ := hd f hf
      exact ⟨fa, fdt, ps, ⟨fun vs H Q E h => (no h).elim, fun A outer s H args us vs Q E _ _ _ _ h => (no h).elim⟩, m, k, d.bd⟩
    · obtain ⟨C, qual, st, fa, fdt, N, ps, fd, fs, ms, xn, d, q, M, m⟩ := hi c hc
      exact ⟨C, fa, fdt, ps, q, M, ⟨fun vs H Q E h => (no h).elim, fun A outer s H args us vs Q E _ _ _ _ h => (no h).elim⟩, m, d.bd⟩
  | n + 1 => by
    obtain ⟨ih, im⟩ := cal_all hd hi hbl hgc hct hex hh n
    have ihh := hot_all (P := P) (w := w) (base := base) hh hbl hgc n
    refine ⟨fun f hf => ?_, fun c hc => ?_⟩
    · obtain ⟨st, fa, fdt, N, ps, fd, fs, ms, xn, d, m, k⟩ := hd f hf
      exact ⟨fa, fdt, ps, def_fn d hbl hgc hct hex ih im ihh, m, k, d.bd⟩
    · obtain ⟨C, qual, st, fa, fdt, N, ps, fd, fs, ms, xn, d, q, M, m⟩ := hi c hc
      exact ⟨C, fa, fdt, ps, q, M, def_fn d hbl hgc hct hex ih im ihh, m, d.bd⟩
theorem FnOk.weak {CX : CXT} {k : Nat} {f : Addr} {fdt : FuncData} {ps : List Str} {sp sp' : Sp} (F : FnOk P w K mg base CX k f fdt ps sp) (h : ∀ vs H Q E, sp' vs H Q E → sp vs H Q E) : FnOk P w K mg base CX k f fdt ps sp' :=
  ⟨fun vs H Q E q => F.len vs H Q E (h _ _ _ _ q), fun A outer s H args us vs Q E h1 h2 h3 h4 q => F.run A outer s H args us vs Q E h1 h2 h3 h4 (h _ _ _ _ q)⟩
/-- the promise of a def, whatever the classes' addresses are -/
def spA (K : PySem.W.Frag) (cf : CF) (f : Str) (io : List Bool) : Sp := fun vs H Q E => ∀ CL : CLT, CL.ex = none → spF K CL cf f io vs H Q E
/-- an exception of a class is what that class's clause catches -/
theorem exm_own {K : PySem.W.Frag} {C : Addr} (h1 : PySem.W.subIn K (.ref C) (.type "BaseException") = some true) (h2 : PySem.W.isClsIn K C = true) (h3 : PySem.W.typeIn K (.ref C) = some (.type "type")) (h4 : PySem.W.subIn K (.ref C) (.ref C) = some true) :
    PySem.W.exmOne K (.ref C) (.ref C) = some true := by
  have h2' : (PySem.W.clsIn K C).isSome = true := h2
  have e1 : (PySem.W.subIn K (.ref C) (.type "BaseException") == some true) = true := by rw [h1] <;> rfl
  have e2 : ((PySem.W.clsIn K C).isSome && PySem.W.typeIn K (.ref C) == some (.type "type")) = true := by rw [h2', h3] <;> rfl
  show (if (PySem.W.subIn K (.ref C) (.type "BaseException") == some true) = true then (if ((PySem.W.clsIn K C).isSome && PySem.W.typeIn K (.ref C) == some (.type "type")) = true then PySem.W.subIn K (.ref C) (.ref C) else none) else none) = some true
  rw [if_pos e1, if_pos e2, h4]
/-- the addresses of a text's classes -/
def clOf (l m : List (Str × Addr)) : CLT := ⟨fun x => l.lookup x, fun x => m.lookup x, none⟩
theorem scI {f : Str} {st : Stmt} (h : C8.scC ["self", f] ["self", f] (defScope st) = true) : FnScope ["self", f] ["self", f] (defScope st) := C8.fnScope_by h
/-- nothing is let out -/
theorem cx_no {P : Program} {w : World} {H : Hp} {s : Shared} {e : Value} {s' : Shared} (h : L2N.CX P w [] H s (fun _ _ _ => False) e s') : False := by
  obtain ⟨_, _, _, _, _, _, _, _, _, _, _, _, z⟩ := h
  exact z
/-- the law's def, on a script -/
theorem law_sp {n : Nat} {ns : List Int} {H : Hp} {a : Addr} {fin : List D} {io : List Bool} (hs : SqL K H a (ns.map V.int)) (h : callF Γ n "law" [.lst .fz (ns.map D.int)] = some (.ret (.bl true) fin)) (hfin : fin.length = 1) : spA K (callF Γ n) "law" io [.ref a] H (fun v _ => v = .bl true) fun _ _ _ => False := by
  intro CL hex
  refine ⟨H, [.lst .fz (ns.map D.int)], fun _ => [], _, ⟨.refl, rfl, fun i d e => ?_, fun _ _ => rfl, fun _ => List.nodup_nil, (fun _ _ _ z => nomatch z), (fun _ _ _ _ z => by rw [hex] at z; cases z)⟩, h, fun _ _ => rfl, hfin, fun v H' F' ft' fp _ _ r _ _ _ => r.bl_⟩
  rw [gt_someL] at e
  cases i with
  | zero =>
    cases e
    refine ⟨.ref a, rfl, ?_⟩
    simp only [Rep]
    exact ⟨trivial, a, _, rfl, hs, reps_of_ints ns⟩
  | succ i => simp at e
end
end Cov

/-! Cov19: tools for the laws, in plain Lean. -/
namespace Cov
open PySem
/-! ### equal data -/
@[simp] theorem toPyL_ints : ∀ (xs : List Int), toPyL (xs.map D.int) = some (xs.map PyData.int)
  | [] => rfl
  | x :: xs => by simp [toPyL, toPy, toPyL_ints xs]
theorem toPy_tupI (xs : List Int) : toPy (tupI xs) = some (.tuple (xs.map PyData.int)) := by simp [tupI, toPy]
theorem toPyL_tups : ∀ (ts : List (List Int)), toPyL (ts.map tupI) = some (ts.map fun t => PyData.tuple (t.map PyData.int))
  | [] => rfl
  | t :: ts => by simp [toPyL, toPy_tupI, toPyL_tups ts]
theorem eqv_ints : ∀ (xs ys : List Int), PyData.eqvAll (xs.map PyData.int) (ys.map PyData.int) = decide (xs = ys)
  | [], [] => by simp [PyData.eqvAll]
  | [], _ :: _ => by simp [PyData.eqvAll]
  | _ :: _, [] => by simp [PyData.eqvAll]
  | x :: xs, y :: ys => by
    simp only [List.map_cons, PyData.eqvAll, PyData.eqv, eqv_ints xs ys]
    by_cases h : x = y <;> by_cases h' : xs = ys <;> simp [h, h']
theorem eqv_tups : ∀ (xs ys : List (List Int)), PyData.eqvAll (xs.map fun t => PyData.tuple (t.map PyData.int)) (ys.map fun t => PyData.tuple (t.map PyData.int)) = decide (xs = ys)
  | [], [] => by simp [PyData.eqvAll]
  | [], _ :: _ => by simp [PyData.eqvAll]
  | _ :: _, [] => by simp [PyData.eqvAll]
  | x :: xs, y :: ys => by
    simp only [List.map_cons, PyData.eqvAll, PyData.eqv, eqv_tups xs ys, eqv_ints]
    by_cases h : x = y <;> by_cases h' : xs = ys <;> simp [h, h']
theorem lay_ints : ∀ xs : List Int, PyData.canLayAll0 (xs.map PyData.int) = true ∧ PyData.depthAll (xs.map PyData.int) = 0
  | [] => ⟨rfl, rfl⟩
  | x :: xs => by simp [PyData.canLayAll0, PyData.canLay0, PyData.depthAll, PyData.depth, lay_ints xs]
theorem lay_tups : ∀ ts : List (List Int), PyData.canLayAll0 (ts.map fun t => PyData.tuple (t.map PyData.int)) = true ∧ PyData.depthAll (ts.map fun t => PyData.tuple (t.map PyData.int)) ≤ 1
  | [] => ⟨rfl, by simp [PyData.depthAll]⟩
  | t :: ts => by
    obtain ⟨h1, h2⟩ := lay_tups ts
    obtain ⟨h3, h4⟩ := lay_ints t
    refine ⟨by simp [PyData.canLayAll0, PyData.canLay0, h1, h3], ?_⟩
    simp only [List.map_cons, PyData.depthAll, PyData.depth, h4]
    omega
@[simp] theorem eqD_int (a b : Int) : eqD (.int a) (.int b) = some (decide (a = b)) := by
  simp only [eqD, toPy, Option.bind_some, SeqAt.shaped, PyData.canLay0, PyData.depth, PyData.eqv]
  by_cases h : a = b <;> simp [h]
@[simp] theorem eqD_bl (a b : Bool) : eqD (.bl a) (.bl b) = some (a == b) := by
  simp [eqD, toPy, SeqAt.shaped, PyData.canLay0, PyData.depth, PyData.eqv]
theorem eqD_tup (a b : List Int) : eqD (tupI a) (tupI b) = some (decide (a = b)) := by
  simp [eqD, toPy_tupI, SeqAt.shaped, PyData.canLay0, PyData.depth, PyData.eqv, lay_ints, eqv_ints]
theorem eqD_tups (o p : Ow) (a b : List (List Int)) : eqD (.lst o (a.map tupI)) (.lst p (b.map tupI)) = some (decide (a = b)) := by
  have h1 := lay_tups a
  have h2 := lay_tups b
  have d1 : PyData.depthAll (a.map fun t => PyData.tuple (t.map PyData.int)) + 1 ≤ 64 := by omega
  have d2 : PyData.depthAll (b.map fun t => PyData.tuple (t.map PyData.int)) + 1 ≤ 64 := by omega
  simp [eqD, toPy, toPyL_tups, SeqAt.shaped, PyData.canLay0, PyData.depth, PyData.eqv, h1.1, h2.1, d1, d2, eqv_tups]
/-! ### runs -/
theorem call_eq {Γ : Str → Option FD} {f : Str} {fd : FD} (h : Γ f = some fd) (n : Nat) (args : List D) : callF Γ (n + 1) f args = if args.length = fd.np then outOf fd (runSs (callF Γ n) (iosOf Γ) fd.io fd.body (args.map some ++ List.replicate (fd.ns - fd.np) none)) else none := by
  simp only [callF, h]
@[simp] theorem gt_z (o : Option D) (ρ : Env) : gt (o :: ρ) 0 = o := by cases o <;> rfl
@[simp] theorem gt_s (o : Option D) (ρ : Env) (i : Nat) : gt (o :: ρ) (i + 1) = gt ρ i := by simp [gt]
@[simp] theorem fz_non : isFz .non = true := (rfl)
@[simp] theorem fz_bl (b : Bool) : isFz (.bl b) = true := (rfl)
@[simp] theorem fz_int (b : Int) : isFz (.int b) = true := (rfl)
@[simp] theorem fz_str (b : Str) : isFz (.str b) = true := (rfl)
@[simp] theorem fz_tup (b : List D) : isFz (.tup b) = true := (rfl)
@[simp] theorem fz_fz (b : List D) : isFz (.lst .fz b) = true := (rfl)
@[simp] theorem fz_ow (b : List D) : isFz (.lst .ow b) = false := (rfl)
@[simp] theorem fz_lk (b : List D) : isFz (.lst .lk b) = false := (rfl)
@[simp] theorem frz_non : frz .non = .non := (rfl)
@[simp] theorem frz_bl (b : Bool) : frz (.bl b) = .bl b := (rfl)
@[simp] theorem frz_int (b : Int) : frz (.int b) = .int b := (rfl)
@[simp] theorem frz_str (b : Str) : frz (.str b) = .str b := (rfl)
@[simp] theorem frz_tup (b : List D) : frz (.tup b) = .tup b := (rfl)
@[simp] theorem frz_lst (o : Ow) (b : List D) : frz (.lst o b) = .lst .fz b := (rfl)
@[simp] theorem rd_val (d : D) (ρ : Env) : rd (.val d) ρ = some d := (rfl)
@[simp] theorem rd_at (i : Nat) (ρ : Env) : rd (.at i []) ρ = gt ρ i := by
  show (gt ρ i).bind (fun d => some d) = gt ρ i
  cases gt ρ i <;> rfl
@[simp] theorem tk_val (d : D) (ρ : Env) : tk (.val d) ρ = some (d, ρ) := (rfl)
@[simp] theorem deep_val (d : D) : deep (.val d) = false := (rfl)
@[simp] theorem deep_at (i : Nat) : deep (.at i []) = false := (rfl)
@[simp] theorem len_tup (ds : List D) : o1D .len (.tup ds) = some (.int ds.length) := (rfl)
@[simp] theorem len_lst (o : Ow) (ds : List D) : o1D .len (.lst o ds) = some (.int ds.length) := (rfl)
@[simp] theorem int_int (i : Int) : o1D .int_ (.int i) = some (.int i) := (rfl)
@[simp] theorem neg_int (i : Int) : o1D .neg (.int i) = some (.int (-i)) := (rfl)
@[simp] theorem tup_lst (o : Ow) (ds : List D) : o1D .tuple_ (.lst o ds) = some (.tup ds) := (rfl)
@[simp] theorem list_lst (o : Ow) (ds : List D) : o1D .list_ (.lst o ds) = some (.lst .ow ds) := (rfl)
@[simp] theorem list_tup (ds : List D) : o1D .list_ (.tup ds) = some (.lst .ow ds) := (rfl)
@[simp] theorem add_int (i j : Int) : o2D .add (.int i) (.int j) = some (.int (i + j)) := (rfl)
@[simp] theorem sub_int (i j : Int) : o2D .sub (.int i) (.int j) = some (.int (i - j)) := (rfl)
theorem mul_int (i j : Int) : o2D .mul (.int i) (.int j) = if bitsOk i j then some (.int (i * j)) else none := rfl
theorem fdiv_int (i j : Int) : o2D .fdiv (.int i) (.int j) = if 0 < j ∧ j < 1073741824 then some (.int (i / j)) else none := rfl
theorem mod_int (i j : Int) : o2D .mod (.int i) (.int j) = if 0 < j then some (.int (i % j)) else none := rfl
theorem pow_int (i j : Int) : o2D .pow (.int i) (.int j) = if 0 ≤ j ∧ j ≤ 1000000 ∧ i.natAbs < 2 ^ 64 then some (.int (i ^ j.toNat)) else none := rfl
@[simp] theorem lt_int (i j : Int) : o2D .lt (.int i) (.int j) = some (.bl (decide (i < j))) := (rfl)
@[simp] theorem le_int (i j : Int) : o2D .le (.int i) (.int j) = some (.bl (decide (i ≤ j))) := (rfl)
@[simp] theorem gt_int (i j : Int) : o2D .gt (.int i) (.int j) = some (.bl (decide (j < i))) := (rfl)
@[simp] theorem ge_int (i j : Int) : o2D .ge (.int i) (.int j) = some (.bl (decide (j ≤ i))) := (rfl)
@[simp] theorem eq_d (a b : D) : o2D .eq a b = (eqD a b).map .bl := by cases a <;> cases b <;> rfl
@[simp] theorem ne_d (a b : D) : o2D .ne a b = (eqD a b).map fun k => .bl (!k) := by cases a <;> cases b <;> rfl
@[simp] theorem ix_tup (ds : List D) (i : Int) : o2D .ix (.tup ds) (.int i) = L2.atI ds i := (rfl)
@[simp] theorem ix_lst (o : Ow) (ds : List D) (i : Int) : o2D .ix (.lst o ds) (.int i) = L2.atI ds i := (rfl)
section
variable {cf : CF} {ios : Str → List Bool} {io : List Bool} {ρ : Env}
@[simp] theorem e_c (d : D) : runE cf ios (.c d) ρ = some (.ok (.val d) ρ) := by rw [runE]
@[simp] theorem e_v (i : Nat) : runE cf ios (.v i) ρ = opt (gt ρ i) fun d => some (.ok (if isFz d then .val d else .at i []) ρ) := by rw [runE]
@[simp] theorem e_o1 (o : O1) (a : E) : runE cf ios (.o1 o a) ρ = bnd (runE cf ios a ρ) fun r ρ1 => opt (rd r ρ1) fun d => opt (o1D o d) fun e => some (.ok (.val e) ρ1) := by rw [runE]
@[simp] theorem e_o2 (o : O2) (a b : E) : runE cf ios (.o2 o a b) ρ = bnd (runE cf ios a ρ) fun r ρ1 => if deep r && !pureE b then none else bnd (runE cf ios b ρ1) fun r' ρ2 => opt (rd r ρ2) fun d => opt (rd r' ρ2) fun d' => opt (o2D o d d') fun e => some (.ok (.val e) ρ2) := by rw [runE]
@[simp] theorem bl_val (b : Bool) (k : Bool → M Res) : blRes (.val (.bl b)) ρ k = k b := (rfl)
@[simp] theorem e_and (a b : E) : runE cf ios (.and_ a b) ρ = bnd (runE cf ios a ρ) fun r ρ1 => blRes r ρ1 fun k => if k then bnd (runE cf ios b ρ1) fun r' ρ2 => blRes r' ρ2 fun k' => some (.ok (.val (.bl k')) ρ2) else some (.ok (.val (.bl false)) ρ1) := by rw [runE]
@[simp] theorem e_or (a b : E) : runE cf ios (.or_ a b) ρ = bnd (runE cf ios a ρ) fun r ρ1 => blRes r ρ1 fun k => if k then some (.ok (.val (.bl true)) ρ1) else bnd (runE cf ios b ρ1) fun r' ρ2 => blRes r' ρ2 fun k' => some (.ok (.val (.bl k')) ρ2) := by rw [runE]
@[simp] theorem e_not (a : E) : runE cf ios (.not_ a) ρ = bnd (runE cf ios a ρ) fun r ρ1 => blRes r ρ1 fun k => some (.ok (.val (.bl (!k))) ρ1) := by rw [runE]
@[simp] theorem e_ife (t a b : E) : runE cf ios (.ife t a b) ρ = bnd (runE cf ios t ρ) fun r ρ1 => blRes r ρ1 fun k => if k then runE cf ios a ρ1 else runE cf ios b ρ1 := by rw [runE]
@[simp] theorem e_tup (es : List E) : runE cf ios (.tup es) ρ = bnd (runL cf ios es ρ) fun rs ρ1 => opt (tkAll rs ρ1) fun x => if x.1.length ≤ sizeLine then some (.ok (.val (.tup (frzL x.1))) x.2) else none := by rw [runE]
@[simp] theorem e_lst (es : List E) : runE cf ios (.lst false es) ρ = bnd (runL cf ios es ρ) fun rs ρ1 => opt (tkAll rs ρ1) fun x => if x.1.length ≤ sizeLine then some (.ok (.val (.lst .ow (frzL x.1))) x.2) else none := by rw [runE]; rfl
@[simp] theorem e_call (f : Str) (es : List E) : runE cf ios (.call f es) ρ = bnd (runL cf ios es ρ) fun rs ρ1 => doCall cf (ios f) f rs ρ1 := by rw [runE]
@[simp] theorem l_nil : runL cf ios [] ρ = some (.ok [] ρ) := by rw [runL]
@[simp] theorem l_cons (e : E) (es : List E) : runL cf ios (e :: es) ρ = bnd (runE cf ios e ρ) fun r ρ1 => if deep r && !pureL es then none else bnd (runL cf ios es ρ1) fun rs ρ2 => some (.ok (r :: rs) ρ2) := by rw [runL]
@[simp] theorem tka_nil : tkAll [] ρ = some ([], ρ) := (rfl)
@[simp] theorem tka_cons (r : Res) (rs : List Res) : tkAll (r :: rs) ρ = (tk r ρ).bind fun x => (tkAll rs x.2).bind fun y => some (x.1 :: y.1, y.2) := (rfl)
@[simp] theorem frzL_nil : frzL [] = [] := (rfl)
@[simp] theorem frzL_cons (d : D) (ds : List D) : frzL (d :: ds) = frz d :: frzL ds := (rfl)
@[simp] theorem s_set (i : Nat) (e : E) : runS cf ios io (.set i e) ρ = bnd (runE cf ios e ρ) fun r ρ1 => opt (tk r ρ1) fun x => some (.ok .nx (x.2.set i (some x.1))) := by rw [runS]
@[simp] theorem s_ex (e : E) : runS cf ios io (.ex e) ρ = bnd (runE cf ios e ρ) fun _ ρ1 => some (.ok .nx ρ1) := by rw [runS]
/-- the branch that a test takes -/
def ifM (o : Option D) (a b : M Fl) : M Fl := match o with
  | some (.bl true) => a
  | some (.bl false) => b
  | _ => none
@[simp] theorem ifM_t (a b : M Fl) : ifM (some (.bl true)) a b = a := (rfl)
@[simp] theorem ifM_f (a b : M Fl) : ifM (some (.bl false)) a b = b := (rfl)
theorem ifM_b (k : Bool) (a b : M Fl) : ifM (some (.bl k)) a b = if k then a else b := by cases k <;> rfl
@[simp] theorem s_ite (c : E) (a b : List S) : runS cf ios io (.ite c a b) ρ = bnd (runE cf ios c ρ) fun r ρ1 => ifM (rd r ρ1) (runSs cf ios io a ρ1) (runSs cf ios io b ρ1) := by
  rw [runS]
  rfl
@[simp] theorem s_ret (e : E) : runS cf ios io (.ret e) ρ = bnd (runE cf ios e ρ) fun r ρ1 => opt (retR io r ρ1) fun x => some (.ok (.rt x.1) x.2) := by rw [runS]
@[simp] theorem ret_val (d : D) : retR io (.val d) ρ = some (d, ρ) := (rfl)
@[simp] theorem ret_at (i : Nat) (h : io.getD i false = false) : retR io (.at i []) ρ = (gt ρ i).map fun d => (unlock d, ρ.set i none) := by
  show (if io.getD i false then tk (.at i []) ρ else _) = _
  rw [h]
  rfl
theorem ss_nil : runSs cf ios io [] ρ = some (.ok .nx ρ) := by rw [runSs]
/-- the rest, unless the statement leaves -/
def seqM (f : Fl) (m : M Fl) (ρ : Env) : M Fl := match f with
  | .nx => m
  | f => some (.ok f ρ)
@[simp] theorem seq_nx (m : M Fl) : seqM .nx m ρ = m := (rfl)
@[simp] theorem seq_rt (d : D) (m : M Fl) : seqM (.rt d) m ρ = some (.ok (.rt d) ρ) := (rfl)
@[simp] theorem seq_bk (m : M Fl) : seqM .bk m ρ = some (.ok .bk ρ) := (rfl)
@[simp] theorem seq_ct (m : M Fl) : seqM .ct m ρ = some (.ok .ct ρ) := (rfl)
theorem ss_cons (s : S) (ss : List S) : runSs cf ios io (s :: ss) ρ = bnd (runS cf ios io s ρ) fun f ρ1 => seqM f (runSs cf ios io ss ρ1) ρ1 := by
  rw [runSs]
  congr
@[simp] theorem tg_nm (i : Nat) (d : D) : bindTg (.nm i) d ρ = if isFz d then some (ρ.set i (some d)) else none := by rw [bindTg]
/-- the loop's result -/
def endM (r : M Fl) (w : Option (Nat × Bool)) : M Fl := match r with
  | none => none
  | some (.ok f ρ2) => opt (unlk ρ2 w) fun ρ3 => some (.ok f ρ3)
  | some (.ex x d ρ2) => opt (unlk ρ2 w) fun ρ3 => some (.ex x d ρ3)
theorem s_for (t : Tg) (it : It) (b : List S) : runS cf ios io (.for_ t it b) ρ = bnd (runIt cf ios it ρ) fun w ρ1 => if w.2.any (fun x => (tgS t ++ asgL b).contains x.1) then none else
    endM (forL w (fun x ρa => opt (bindTg t x ρa) fun ρb => runSs cf ios io b ρb) w.1 ρ1) w.2 := by
  rw [runS]
  all_goals rfl
def rngM (o : Option D) (ρ1 : Env) : M Wlk := match o with
  | some (.int j) => if rngOk j then some (.ok (ranged 0 j, none) ρ1) else none
  | _ => none
theorem rngM_ok {j : Int} (h : rngOk j = true) : rngM (some (.int j)) ρ = some (.ok (ranged 0 j, none) ρ) := by
  show (if rngOk j then _ else _) = _
  rw [h]
  rfl
theorem it_r1 (a : E) : runIt cf ios (.r1 a) ρ = bnd (runE cf ios a ρ) fun r ρ1 => rngM (rd r ρ1) ρ1 := by
  rw [runIt]
  rfl
theorem it_val {a : E} {ρ1 : Env} {d : D} {ds : List D} (h : runE cf ios a ρ = some (.ok (.val d) ρ1)) (hd : itemsOf d = some ds) : runIt cf ios (.ex a) ρ = some (.ok (ds, none) ρ1) := by
  rw [runIt, h, bnd_ok]
  show opt (itemsOf d) _ = _
  rw [hd, opt_some]
theorem it_at {a : E} {ρ1 : Env} {i : Nat} {ds : List D} (h : runE cf ios a ρ = some (.ok (.at i []) ρ1)) (hd : gt ρ1 i = some (.lst .ow ds)) : runIt cf ios (.ex a) ρ = some (.ok (ds, some (i, true)) (ρ1.set i (some (.lst .lk ds)))) := by
  rw [runIt, h, bnd_ok]
  simp [walkRes, gtP, getP, hd]
theorem iosOf_eq {Γ : Str → Option FD} {f : Str} {fd : FD} (h : Γ f = some fd) : iosOf Γ f = fd.io := by unfold iosOf; rw [h]
theorem rngOk_nat {n : Nat} (h : n ≤ 100000) : rngOk (n : Int) = true := by
  unfold rngOk
  simp only [Bool.and_eq_true, decide_eq_true_eq]
  omega
theorem it_rng {a : E} {ρ1 : Env} {r : Res} {n : Nat} (h : runE cf ios a ρ = some (.ok r ρ1)) (hr : rd r ρ1 = some (.int (n : Int))) (hn : n ≤ 100000) : runIt cf ios (.r1 a) ρ = some (.ok (ranged 0 (n : Int), none) ρ1) := by
  rw [it_r1, h, bnd_ok, hr, rngM_ok (rngOk_nat hn)]
theorem it_ex (a : E) : runIt cf ios (.ex a) ρ = bnd (runE cf ios a ρ) fun r ρ1 => walkRes r ρ1 := by rw [runIt]
end
/-! ### what a run ends in -/
@[irreducible] def wp {α : Type} (m : M α) (P : α → Env → Prop) : Prop := match m with
  | some (.ok a ρ) => P a ρ
  | _ => False
@[simp] theorem wp_ok {α : Type} (a : α) (ρ : Env) (P : α → Env → Prop) : wp (some (.ok a ρ)) P = P a ρ := by unfold wp; rfl
@[simp] theorem wp_none {α : Type} (P : α → Env → Prop) : wp (none : M α) P = False := by unfold wp; rfl
theorem wp_bnd {α β : Type} (m : M α) (f : α → Env → M β) (P : β → Env → Prop) : wp (bnd m f) P = wp m fun a ρ => wp (f a ρ) P := by
  cases m with
  | none => simp
  | some o => cases o with
    | ok a ρ => simp
    | ex _ _ _ => unfold wp; rfl
theorem wp_some {α : Type} {m : M α} {P : α → Env → Prop} (h : wp m P) : ∃ a ρ, m = some (.ok a ρ) ∧ P a ρ := by
  unfold wp at h
  cases m with
  | none => exact h.elim
  | some o => cases o with
    | ok a ρ => exact ⟨a, ρ, rfl, h⟩
    | ex _ _ _ => exact h.elim
theorem wp_imp {α : Type} {m : M α} {P Q : α → Env → Prop} (h : wp m P) (i : ∀ a ρ, P a ρ → Q a ρ) : wp m Q := by
  obtain ⟨a, ρ, rfl, p⟩ := wp_some h
  rw [wp_ok]
  exact i _ _ p
theorem wp_gen {α : Type} {m : M α} {P : α → Env → Prop} (h : ∀ Q : α → Env → Prop, (∀ a ρ, P a ρ → Q a ρ) → wp m Q) : wp m P := h P fun _ _ p => p
@[simp] theorem pu_v (i : Nat) : pureE (.v i) = true := by rw [pureE]
@[simp] theorem pu_c (d : D) : pureE (.c d) = true := by rw [pureE]
section
variable {cf : CF} {ios : Str → List Bool} {io : List Bool} {ρ : Env} {P : Fl → Env → Prop}
theorem wp_nil : wp (runSs cf ios io [] ρ) P = P .nx ρ := by rw [ss_nil, wp_ok]
theorem wp_cons {s : S} {ss : List S} : wp (runSs cf ios io (s :: ss) ρ) P = wp (runS cf ios io s ρ) fun f ρ1 => wp (seqM f (runSs cf ios io ss ρ1) ρ1) P := by rw [ss_cons, wp_bnd]
end
theorem forL_rel {w : Wlk} {body : D → Env → M Fl} (I : List D → Env → Prop) (R : Fl → Env → Prop) : ∀ (xs pre : List D) (ρ : Env), I pre ρ →
    (∀ done x rest ρ, pre ++ xs = done ++ x :: rest → I done ρ → lkOk w ρ = true ∧ ∃ fl ρ1, body x ρ = some (.ok fl ρ1) ∧ (((fl = .nx ∨ fl = .ct) ∧ I (done ++ [x]) ρ1) ∨ (fl = .bk ∧ R .nx ρ1) ∨ ∃ d, fl = .rt d ∧ R fl ρ1)) →
    (∀ ρ, I (pre ++ xs) ρ → lkOk w ρ = true ∧ R .nx ρ) → ∃ fl ρ', forL w body xs ρ = some (.ok fl ρ') ∧ R fl ρ'
  | [], pre, ρ, h, st, en => by
    obtain ⟨h1, h2⟩ := en ρ (by simpa using h)
    exact ⟨.nx, ρ, by simp [forL, h1], h2⟩
  | x :: xs, pre, ρ, h, st, en => by
    obtain ⟨h1, fl, ρ1, h2, h3⟩ := st pre x xs ρ rfl h
    rcases h3 with ⟨h3, h4⟩ | ⟨rfl, h4⟩ | ⟨d, rfl, h4⟩
    · obtain ⟨fl', ρ', e, r⟩ := forL_rel I R xs (pre ++ [x]) ρ1 h4 (fun done y rest ρ e => st done y rest ρ (by rw [← e]; simp)) fun ρ hh => en ρ (by simpa using hh)
      refine ⟨fl', ρ', ?_, r⟩
      rcases h3 with rfl | rfl <;> simp [forL, h1, h2, e]
    · exact ⟨.nx, ρ1, by simp [forL, h1, h2], h4⟩
    · exact ⟨.rt d, ρ1, by simp [forL, h1, h2], h4⟩
theorem compL_rel {w : Wlk} {ow : List Nat} {turn : D → Env → M (Option D)} (I : List D → List D → Env → Prop) : ∀ (xs pre acc : List D) (ρ : Env), I pre acc ρ →
    (∀ done x rest acc ρ, pre ++ xs = done ++ x :: rest → I done acc ρ → lkOk w ρ = true ∧ ((∃ ρ1, turn x ρ = some (.ok none ρ1) ∧ I (done ++ [x]) acc (wipeE ρ1 ow)) ∨ ∃ d ρ1, turn x ρ = some (.ok (some d) ρ1) ∧ acc.length < sizeLine ∧ I (done ++ [x]) (acc ++ [d]) (wipeE ρ1 ow))) →
    (∀ acc ρ, I (pre ++ xs) acc ρ → lkOk w ρ = true) → ∃ ds ρ', compL w ow turn xs acc ρ = some (.ok ds ρ') ∧ I (pre ++ xs) ds ρ'
  | [], pre, acc, ρ, h, st, en => ⟨acc, ρ, by simp [compL, en acc ρ (by simpa using h)], by simpa using h⟩
  | x :: xs, pre, acc, ρ, h, st, en => by
    obtain ⟨h1, h3⟩ := st pre x xs acc ρ rfl h
    rcases h3 with ⟨ρ1, h2, h4⟩ | ⟨d, ρ1, h2, hz, h4⟩
    · obtain ⟨ds, ρ', e, r⟩ := compL_rel I xs (pre ++ [x]) acc _ h4 (fun done y rest acc ρ e => st done y rest acc ρ (by rw [← e]; simp)) fun acc ρ hh => en acc ρ (by simpa using hh)
      exact ⟨ds, ρ', by simp [compL, h1, h2, e], by simpa using r⟩
    · obtain ⟨ds, ρ', e, r⟩ := compL_rel I xs (pre ++ [x]) (acc ++ [d]) _ h4 (fun done y rest acc ρ e => st done y rest acc ρ (by rw [← e]; simp)) fun acc ρ hh => en acc ρ (by simpa using hh)
      exact ⟨ds, ρ', by simp [compL, h1, h2, hz, e], by simpa using r⟩
theorem split_map {α : Type} {g : α → D} {l : List α} {done rest : List D} {x : D} (h : l.map g = done ++ x :: rest) : ∃ (a : List α) (b : α) (c : List α), l = a ++ b :: c ∧ done = a.map g ∧ x = g b ∧ rest = c.map g := by
  obtain ⟨a, m, e1, e2, e3⟩ := List.map_eq_append_iff.mp h
  obtain ⟨b, c, e4, e5, e6⟩ := List.map_eq_cons_iff.mp e3
  exact ⟨a, b, c, by rw [e1, e4], e2.symm, e5.symm, e6.symm⟩
theorem split_rng {a b : Int} {done rest : List D} {x : D} (h : ranged a b = done ++ x :: rest) : x = .int (a + done.length) ∧ done.length < (b - a).toNat := by
  obtain ⟨u, k, c, e1, e2, e3, _⟩ := split_map h
  have hlen := congrArg List.length e1
  simp only [List.length_range, List.length_append, List.length_cons] at hlen
  have hk : k = u.length := by
    have : (List.range (b - a).toNat)[u.length]? = some k := by rw [e1]; simp
    rw [List.getElem?_range (by omega)] at this
    exact (Option.some.inj this).symm
  subst hk
  rw [e2, e3]
  simp
  omega
theorem ranged_length {a b : Int} : (ranged a b).length = (b - a).toNat := by simp [ranged]
/-- a loop by an invariant -/
theorem wp_for {cf : CF} {ios : Str → List Bool} {io : List Bool} {ρ ρ1 : Env} {t : Tg} {it : It} {b : List S} {w : Wlk} {P : Fl → Env → Prop} (I : List D → Env → Prop) (hit : runIt cf ios it ρ = some (.ok w ρ1)) (hw : w.2.any (fun x => (tgS t ++ asgL b).contains x.1) = false) (h0 : I [] ρ1)
    (st : ∀ done x rest ρ, w.1 = done ++ x :: rest → I done ρ → lkOk w ρ = true ∧ ∃ ρb, bindTg t x ρ = some ρb ∧ wp (runSs cf ios io b ρb) fun fl ρ2 => match fl with
      | .nx => I (done ++ [x]) ρ2
      | .ct => I (done ++ [x]) ρ2
      | .bk => ∃ ρ3, unlk ρ2 w.2 = some ρ3 ∧ P .nx ρ3
      | .rt d => ∃ ρ3, unlk ρ2 w.2 = some ρ3 ∧ P (.rt d) ρ3)
    (en : ∀ ρ, I w.1 ρ → lkOk w ρ = true ∧ ∃ ρ3, unlk ρ w.2 = some ρ3 ∧ P .nx ρ3) : wp (runS cf ios io (.for_ t it b) ρ) P := by
  rw [s_for, hit]
  simp only [bnd_ok, hw, Bool.false_eq_true, if_false]
  obtain ⟨fl, ρ', e, ρ3, e3, p⟩ := forL_rel (w := w) (body := fun x ρa => opt (bindTg t x ρa) fun ρb => runSs cf ios io b ρb) I (fun fl ρ => ∃ ρ3, unlk ρ w.2 = some ρ3 ∧ P fl ρ3) w.1 [] ρ1 h0 (fun done x rest ρ e hi => by
    obtain ⟨h1, ρb, h2, h3⟩ := st done x rest ρ (by simpa using e) hi
    obtain ⟨fl, ρ2, h4, h5⟩ := wp_some h3
    refine ⟨h1, fl, ρ2, by rw [h2]; exact h4, ?_⟩
    cases fl with
    | nx => exact .inl ⟨.inl rfl, h5⟩
    | ct => exact .inl ⟨.inr rfl, h5⟩
    | bk => exact .inr (.inl ⟨rfl, h5⟩)
    | rt d => exact .inr (.inr ⟨d, rfl, h5⟩)) (fun ρ hi => en ρ (by simpa using hi))
  rw [e]
  show wp (opt (unlk ρ' w.2) fun ρ3 => some (.ok fl ρ3)) P
  rw [e3, opt_some, wp_ok]
  exact p
/-- a call of a def, by the run of its body -/
theorem call_wp {Γ : Str → Option FD} {f : Str} {fd : FD} (h : Γ f = some fd) (n : Nat) {args : List D} {P : D → List D → Prop} (hl : args.length = fd.np)
    (b : wp (runSs (callF Γ n) (iosOf Γ) fd.io fd.body (args.map some ++ List.replicate (fd.ns - fd.np) none)) fun fl ρ => match fl with
      | .rt d => finOk fd.io fd.np ρ = true ∧ P d (fins fd.np ρ)
      | .nx => finOk fd.io fd.np ρ = true ∧ P .non (fins fd.np ρ)
      | _ => False) : ∃ d fin, callF Γ (n + 1) f args = some (.ret d fin) ∧ P d fin := by
  rw [call_eq h, if_pos hl]
  obtain ⟨fl, ρ, e, p⟩ := wp_some b
  rw [e]
  cases fl with
  | rt d => exact ⟨d, _, by simp only [outOf, p.1, if_true], p.2⟩
  | nx => exact ⟨.non, _, by simp only [outOf, p.1, if_true], p.2⟩
  | bk => exact p.elim
  | ct => exact p.elim
/-- .. over the images of a list -/
theorem wp_forM {α : Type} {g : α → D} {l : List α} {lk : Option (Nat × Bool)} {cf : CF} {ios : Str → List Bool} {io : List Bool} {ρ ρ1 : Env} {t : Tg} {it : It} {b : List S} {P : Fl → Env → Prop} (I : List α → Env → Prop) (hit : runIt cf ios it ρ = some (.ok (l.map g, lk) ρ1)) (hw : lk.any (fun x => (tgS t ++ asgL b).contains x.1) = false) (h0 : I [] ρ1)
    (st : ∀ pre x post ρ, l = pre ++ x :: post → I pre ρ → lkOk (l.map g, lk) ρ = true ∧ ∃ ρb, bindTg t (g x) ρ = some ρb ∧ wp (runSs cf ios io b ρb) fun fl ρ2 => match fl with
      | .nx => I (pre ++ [x]) ρ2
      | .ct => I (pre ++ [x]) ρ2
      | .bk => ∃ ρ3, unlk ρ2 lk = some ρ3 ∧ P .nx ρ3
      | .rt d => ∃ ρ3, unlk ρ2 lk = some ρ3 ∧ P (.rt d) ρ3)
    (en : ∀ ρ, I l ρ → lkOk (l.map g, lk) ρ = true ∧ ∃ ρ3, unlk ρ lk = some ρ3 ∧ P .nx ρ3) : wp (runS cf ios io (.for_ t it b) ρ) P := by
  refine wp_for (w := (l.map g, lk)) (fun done ρ => ∃ pre post, done = pre.map g ∧ l = pre ++ post ∧ I pre ρ) hit hw ⟨[], l, rfl, rfl, h0⟩ (fun done x rest ρ hs hi => ?_) fun ρ hi => ?_
  · obtain ⟨pre, post, rfl, e, hi⟩ := hi
    have hs : l.map g = pre.map g ++ x :: rest := hs
    rw [e, List.map_append] at hs
    have hs := List.append_cancel_left hs
    cases post with
    | nil => cases hs
    | cons y post =>
      simp only [List.map_cons, List.cons.injEq] at hs
      obtain ⟨rfl, _⟩ := hs
      obtain ⟨h1, ρb, h2, h3⟩ := st pre y post ρ e hi
      refine ⟨h1, ρb, h2, wp_imp h3 fun fl ρ2 h => ?_⟩
      cases fl with
      | nx => exact ⟨pre ++ [y], post, by simp, by rw [e]; simp, h⟩
      | ct => exact ⟨pre ++ [y], post, by simp, by rw [e]; simp, h⟩
      | bk => exact h
      | rt d => exact h
  · obtain ⟨pre, post, e1, e, hi⟩ := hi
    have hl := congrArg List.length e1
    rw [e] at hl
    simp at hl
    subst hl
    rw [List.append_nil] at e
    subst e
    exact en ρ hi
/-- .. over a range -/
theorem wp_forR {cf : CF} {ios : Str → List Bool} {io : List Bool} {ρ ρ1 : Env} {i : Nat} {a : E} {b : List S} {r : Res} {n : Nat} {P : Fl → Env → Prop} (I : Nat → Env → Prop) (h : runE cf ios a ρ = some (.ok r ρ1)) (hr : rd r ρ1 = some (.int (n : Int))) (hn : n ≤ 100000) (h0 : I 0 ρ1)
    (st : ∀ k ρ, k < n → I k ρ → wp (runSs cf ios io b (ρ.set i (some (.int (k : Int))))) fun fl ρ2 => match fl with
      | .nx => I (k + 1) ρ2
      | .ct => I (k + 1) ρ2
      | .bk => P .nx ρ2
      | .rt d => P (.rt d) ρ2)
    (en : ∀ ρ, I n ρ → P .nx ρ) : wp (runS cf ios io (.for_ (.nm i) (.r1 a) b) ρ) P := by
  refine wp_for (w := (ranged 0 (n : Int), none)) (fun done ρ => I done.length ρ) (it_rng h hr hn) rfl h0 (fun done x rest ρ hs hi => ?_) fun ρ hi => ?_
  · obtain ⟨rfl, hlt⟩ := split_rng hs
    simp only [Int.sub_zero, Int.toNat_natCast] at hlt
    refine ⟨rfl, ρ.set i (some (.int (done.length : Int))), by simp, wp_imp (st _ ρ hlt hi) fun fl ρ2 h => ?_⟩
    cases fl with
    | nx => simpa using h
    | ct => simpa using h
    | bk => exact ⟨ρ2, rfl, h⟩
    | rt d => exact ⟨ρ2, rfl, h⟩
  · refine ⟨rfl, ρ, rfl, en ρ ?_⟩
    have e : (ranged 0 (n : Int)).length = n := by simp [ranged_length]
    rw [e] at hi
    exact hi
theorem atI_nat {ds : List D} {k : Nat} (h : k < ds.length) : L2.atI ds (k : Int) = ds[k]? := by
  unfold L2.atI L2.ixN
  simp [h]
/-! ### comprehensions -/
def pickM (o : Option D) (a b : M (Option D)) : M (Option D) := match o with
  | some (.bl true) => a
  | some (.bl false) => b
  | _ => none
theorem pick_b (k : Bool) (a b : M (Option D)) : pickM (some (.bl k)) a b = if k then a else b := by cases k <;> rfl
def turnM (cf : CF) (ios : Str → List Bool) (elt : E) (tg : Tg) (cond : Option E) (x : D) (ρa : Env) : M (Option D) := opt (bindTg tg x ρa) fun ρb => bnd (match cond with
  | none => some (.ok (.val (.bl true)) ρb)
  | some t => runE cf ios t ρb) fun rt ρc => pickM (rd rt ρc) (bnd (runE cf ios elt ρc) fun re ρd => opt (tk re ρd) fun y => some (.ok (some (frz y.1)) y.2)) (some (.ok none ρc))
def compM (r : M (List D)) (ρ1 : Env) (ow : List Nat) (lk : Option (Nat × Bool)) : M Res := match r with
  | some (.ok ds ρ2) => opt (unlk (backE ρ1 ρ2 ow) lk) fun ρ3 => some (.ok (.val (.lst .ow ds)) ρ3)
  | _ => none
theorem e_comp {cf : CF} {ios : Str → List Bool} {nst : Bool} {ow : List Nat} {elt : E} {tg : Tg} {it : It} {cond : Option E} {ρ : Env} : runE cf ios (.comp nst ow elt tg it cond) ρ = bnd (runIt cf ios it ρ) fun w ρ1 => if w.2.any (fun x => ow.contains x.1) || (tgS tg).any (fun i => !ow.contains i) then none else
    compM (compL w ow (turnM cf ios elt tg cond) w.1 [] (wipeE ρ1 ow)) ρ1 ow w.2 := by
  rw [runE]
  rfl
theorem wp_comp {α : Type} {g : α → D} {l : List α} {lk : Option (Nat × Bool)} {cf : CF} {ios : Str → List Bool} {nst : Bool} {ow : List Nat} {elt : E} {tg : Tg} {it : It} {cond : Option E} {ρ ρ1 : Env} {P : Res → Env → Prop} (I : List α → List D → Env → Prop)
    (hit : runIt cf ios it ρ = some (.ok (l.map g, lk) ρ1)) (hw : (lk.any (fun x => ow.contains x.1) || (tgS tg).any (fun i => !ow.contains i)) = false) (h0 : I [] [] (wipeE ρ1 ow))
    (st : ∀ pre x post acc ρ, l = pre ++ x :: post → I pre acc ρ → lkOk (l.map g, lk) ρ = true ∧ wp (turnM cf ios elt tg cond (g x) ρ) fun o ρ2 => match o with
      | none => I (pre ++ [x]) acc (wipeE ρ2 ow)
      | some d => acc.length < sizeLine ∧ I (pre ++ [x]) (acc ++ [d]) (wipeE ρ2 ow))
    (en : ∀ acc ρ, I l acc ρ → lkOk (l.map g, lk) ρ = true ∧ ∃ ρ3, unlk (backE ρ1 ρ ow) lk = some ρ3 ∧ P (.val (.lst .ow acc)) ρ3) : wp (runE cf ios (.comp nst ow elt tg it cond) ρ) P := by
  have fin : ∀ {acc ρ}, (∃ pre post, l.map g = pre.map g ∧ l = pre ++ post ∧ I pre acc ρ) → lkOk (l.map g, lk) ρ = true ∧ ∃ ρ3, unlk (backE ρ1 ρ ow) lk = some ρ3 ∧ P (.val (.lst .ow acc)) ρ3 := by
    rintro acc ρ ⟨pre, post, e1, e, hi⟩
    have hl := congrArg List.length e1
    rw [e] at hl
    simp at hl
    subst hl
    rw [List.append_nil] at e
    subst e
    exact en acc ρ hi
  obtain ⟨ds, ρ', e, hi⟩ := compL_rel (w := (l.map g, lk)) (ow := ow) (turn := turnM cf ios elt tg cond) (fun done acc ρ => ∃ pre post, done = pre.map g ∧ l = pre ++ post ∧ I pre acc ρ) (l.map g) [] [] (wipeE ρ1 ow) ⟨[], l, rfl, rfl, h0⟩ (fun done x rest acc ρ hs hi => by
    obtain ⟨pre, post, rfl, e, hi⟩ := hi
    rw [List.nil_append, e, List.map_append] at hs
    have hs := List.append_cancel_left hs
    cases post with
    | nil => cases hs
    | cons y post =>
      simp only [List.map_cons, List.cons.injEq] at hs
      obtain ⟨rfl, _⟩ := hs
      obtain ⟨h1, h2⟩ := st pre y post acc ρ e hi
      obtain ⟨o, ρ2, h3, h4⟩ := wp_some h2
      refine ⟨h1, ?_⟩
      cases o with
      | none => exact .inl ⟨ρ2, h3, pre ++ [y], post, by simp, by rw [e]; simp, h4⟩
      | some d => exact .inr ⟨d, ρ2, h3, h4.1, pre ++ [y], post, by simp, by rw [e]; simp, h4.2⟩) (fun acc ρ hi => (fin (by simpa using hi)).1)
  obtain ⟨_, ρ3, e3, p⟩ := fin (by simpa using hi)
  rw [e_comp, hit]
  simp only [bnd_ok, hw, Bool.false_eq_true, if_false]
  rw [e]
  show wp (opt (unlk (backE ρ1 ρ' ow) lk) fun ρ3 => some (.ok (.val (.lst .ow ds)) ρ3)) P
  rw [e3, opt_some, wp_ok]
  exact p
theorem bitsOk_of {i j : Int} {a b : Nat} (hi : i.natAbs < 2 ^ a) (hj : j.natAbs < 2 ^ b) (h : a + b < 900000) : bitsOk i j = true := by
  have one : ∀ {n k : Nat}, n < 2 ^ k → n.log2 ≤ k := fun {n k} h => by
    by_cases h0 : n = 0
    · subst h0; simp
    · exact Nat.le_of_lt ((Nat.log2_lt h0).mpr h)
  have h1 := one hi
  have h2 := one hj
  unfold bitsOk
  exact decide_eq_true (by omega)
end Cov

/-! Cov20: more tools: calls and tests in long environments. -/
namespace Cov
open PySem
theorem isi_int_int (i : Int) : o1D (.isinst "int") (.int i) = some (.bl true) := (rfl)
theorem isi_bool_int (i : Int) : o1D (.isinst "bool") (.int i) = some (.bl false) := (rfl)
theorem isi_bool_bl (b : Bool) : o1D (.isinst "bool") (.bl b) = some (.bl true) := (rfl)
theorem isi_tuple (ds : List D) : o1D (.isinst "tuple") (.tup ds) = some (.bl true) := (rfl)
theorem isi_list (o : Ow) (ds : List D) : o1D (.isinst "list") (.lst o ds) = some (.bl true) := (rfl)
theorem flat_ints : ∀ xs : List Int, flatL (xs.map D.int) = true
  | [] => rfl
  | x :: xs => by simp [flatL, flat, flat_ints xs]
@[simp] theorem flat_tups : ∀ ts : List (List Int), flatL (ts.map tupI) = true
  | [] => rfl
  | t :: ts => by simp [flatL, flat, tupI, flat_ints, flat_tups ts]
@[simp] theorem flat_lst (ts : List (List Int)) : flat (.lst .ow (ts.map tupI)) = true := by simp [flat]
@[simp] theorem flat_bl (b : Bool) : flat (.bl b) = true := by simp [flat]
theorem turn_none {cf : CF} {ios : Str → List Bool} {elt : E} {tg : Tg} {x : D} {ρ : Env} : turnM cf ios elt tg none x ρ = opt (bindTg tg x ρ) fun ρb => bnd (runE cf ios elt ρb) fun re ρd => opt (tk re ρd) fun y => some (.ok (some (frz y.1)) y.2) := by
  unfold turnM
  cases bindTg tg x ρ <;> rfl
theorem args_vals {ρ : Env} : ∀ vs : List D, argsOf ρ (vs.map fun _ => false) (vs.map Res.val) = some (vs.map frz)
  | [] => by simp [argsOf]
  | v :: vs => by simp [argsOf, argOf, args_vals vs]
theorem places_vals {b : Bool} : ∀ (vs : List D) (io : List Bool), placesOf b io (vs.map Res.val) = []
  | [], io => by simp [placesOf]
  | v :: vs, io => by simp [placesOf, places_vals vs]
theorem backs_vals {z : Bool} {ρ : Env} : ∀ (vs fin : List D) (io : List Bool), backs z io (vs.map Res.val) fin ρ = ρ
  | [], fin, io => by simp [backs]
  | v :: vs, [], io => by simp [backs]
  | v :: vs, f :: fin, io => by simp [backs, backs_vals vs]
theorem call_io {cf : CF} {f : Str} {ρ : Env} {i : Nat} {d0 d1 d : D} {vs fin : List D} (h0 : gt ρ i = some d0) (hlk : isLk d0 = false) (hc : cf f (d0 :: vs.map frz) = some (.ret d (d1 :: fin))) (hl : fin.length = vs.length) :
    doCall cf (true :: vs.map fun _ => false) f (.at i [] :: vs.map Res.val) ρ = some (.ok (.val d) (ρ.set i (some d1))) := by
  have e1 : argsOf ρ (true :: vs.map fun _ => false) (.at i [] :: vs.map Res.val) = some (d0 :: vs.map frz) := by
    simp [argsOf, argOf, h0, hlk, args_vals]
  have e2 : apartOk (true :: vs.map fun _ => false) (.at i [] :: vs.map Res.val) = true := by
    simp [apartOk, placesOf, places_vals]
  have e3 : ∀ z, backs z (true :: vs.map fun _ => false) (.at i [] :: vs.map Res.val) (d1 :: fin) ρ = ρ.set i (some d1) := fun z => by
    simp [backs, backs_vals]
  unfold doCall
  rw [e1, opt_some, e2, if_pos rfl, hc, opt_some]
  simp only [e3]
  rw [if_pos (by simp [hl])]
theorem call_vals {cf : CF} {f : Str} {ρ : Env} {d : D} {vs fin : List D} (hc : cf f (vs.map frz) = some (.ret d fin)) (hl : fin.length = vs.length) :
    doCall cf (vs.map fun _ => false) f (vs.map Res.val) ρ = some (.ok (.val d) ρ) := by
  have e2 : apartOk (vs.map fun _ => false) (vs.map Res.val) = true := by simp [apartOk, places_vals]
  unfold doCall
  rw [args_vals, opt_some, e2, if_pos rfl, hc, opt_some]
  simp only [backs_vals]
  rw [if_pos (by simp [hl])]
theorem v_at {cf : CF} {ios : Str → List Bool} {ρ : Env} {i : Nat} {d : D} (h : gt ρ i = some d) (hf : isFz d = true) : runE cf ios (.v i) ρ = some (.ok (.val d) ρ) := by
  rw [e_v, h, opt_some, if_pos hf]
theorem is_b {cf : CF} {ios : Str → List Bool} {ρ : Env} {a : E} {k : Bool} (h : runE cf ios a ρ = some (.ok (.val (.bl k)) ρ)) : runE cf ios (.o1 (.isinst "bool") a) ρ = some (.ok (.val (.bl true)) ρ) := by
  rw [e_o1, h, bnd_ok, rd_val, opt_some, isi_bool_bl, opt_some]
theorem or_not {cf : CF} {ios : Str → List Bool} {a b : E} {ρ : Env} (h : runE cf ios a ρ = some (.ok (.val (.bl true)) ρ)) (h2 : runE cf ios b ρ = some (.ok (.val (.bl false)) ρ)) : runE cf ios (.or_ (.not_ a) b) ρ = some (.ok (.val (.bl false)) ρ) := by
  rw [e_or, e_not, h, bnd_ok, bl_val, bnd_ok, bl_val]
  simp only [Bool.not_true, Bool.false_eq_true, if_false]
  rw [h2, bnd_ok, bl_val]
theorem ne_same {cf : CF} {ios : Str → List Bool} {a b : E} {ρ : Env} {k : Bool} (h : runE cf ios a ρ = some (.ok (.val (.bl k)) ρ)) (h2 : runE cf ios b ρ = some (.ok (.val (.bl k)) ρ)) : runE cf ios (.o2 .ne a b) ρ = some (.ok (.val (.bl false)) ρ) := by
  rw [e_o2, h, bnd_ok, deep_val, Bool.false_and]
  simp only [Bool.false_eq_true, if_false]
  rw [h2, bnd_ok]
  simp only [rd_val, opt_some, ne_d, eqD_bl, Option.map_some, beq_self_eq_true, Bool.not_true]
theorem mu_app {cf : CF} {ios : Str → List Bool} {i : Nat} {a : E} {x : D} {ρ ρ2 : Env} {ds : List D} (h0 : gt ρ i = some (.lst .ow ds)) (h : runE cf ios a ρ = some (.ok (.val x) ρ2)) (h2 : gt ρ2 i = some (.lst .ow ds)) (hz : ds.length < sizeLine) :
    runE cf ios (.mu .append (.v i) [a]) ρ = some (.ok (.val .non) (ρ2.set i (some (.lst .ow (ds ++ [frz x]))))) := by
  rw [runE, e_v, h0, opt_some, fz_ow]
  simp only [Bool.false_eq_true, if_false, bnd_ok, rd_at, h0, isLst, if_true]
  rw [l_cons, h, bnd_ok]
  simp only [deep_val, Bool.false_and, Bool.false_eq_true, if_false, l_nil, bnd_ok, tka_cons, tk_val, tka_nil, Option.bind_some, opt_some, h2, muD, hz, if_true]
theorem wp_app {cf : CF} {ios : Str → List Bool} {io : List Bool} {i : Nat} {a : E} {x : D} {ρ ρ2 : Env} {ds : List D} {P : Fl → Env → Prop} (h0 : gt ρ i = some (.lst .ow ds)) (h : runE cf ios a ρ = some (.ok (.val x) ρ2)) (h2 : gt ρ2 i = some (.lst .ow ds)) (hz : ds.length < sizeLine)
    (hp : P .nx (ρ2.set i (some (.lst .ow (ds ++ [frz x]))))) : wp (runS cf ios io (.ex (.mu .append (.v i) [a])) ρ) P := by
  rw [s_ex, mu_app h0 h h2 hz, bnd_ok, wp_ok]
  exact hp
theorem wp_setcall {cf : CF} {ios : Str → List Bool} {io : List Bool} {i : Nat} {f : Str} {es : List E} {rs : List Res} {d : D} {ρ ρ1 ρ2 : Env} {P : Fl → Env → Prop} (hL : runL cf ios es ρ = some (.ok rs ρ1)) (hd : doCall cf (ios f) f rs ρ1 = some (.ok (.val d) ρ2))
    (hp : P .nx (ρ2.set i (some d))) : wp (runS cf ios io (.set i (.call f es)) ρ) P := by
  rw [s_set, e_call, hL, bnd_ok, hd, bnd_ok, tk_val, opt_some, wp_ok]
  exact hp
/-- a list that is only read, and a value; the answer shares nothing -/
theorem call_view {cf : CF} {f : Str} {ρ : Env} {i : Nat} {d0 x d f0 f1 : D} (h0 : gt ρ i = some d0) (hc : cf f [frz d0, frz x] = some (.ret d [f0, f1])) (hf : flat d = true) : doCall cf [false, false] f [.at i [], .val x] ρ = some (.ok (.val d) ρ) := by
  have e1 : argsOf ρ [false, false] [.at i [], .val x] = some [frz d0, frz x] := by simp [argsOf, argOf, h0]
  have e2 : apartOk [false, false] [.at i [], .val x] = true := by simp [apartOk, placesOf]
  have e3 : backs (!((placesOf false [false, false] [.at i [], .val x]).isEmpty || (flat d && flatIo [false, false] [f0, f1]))) [false, false] [.at i [], .val x] [f0, f1] ρ = ρ := by
    simp [backs, placesOf, hf, flatIo]
  unfold doCall
  rw [e1, opt_some, e2, if_pos rfl, hc, opt_some]
  simp only [e3]
  rfl
theorem e_callview {cf : CF} {ios : Str → List Bool} {f : Str} {a b : E} {ρ : Env} {i : Nat} {d0 x d f0 f1 : D} (hio : ios f = [false, false]) (ha : runE cf ios a ρ = some (.ok (.at i []) ρ)) (hb : runE cf ios b ρ = some (.ok (.val x) ρ)) (h0 : gt ρ i = some d0) (hc : cf f [frz d0, frz x] = some (.ret d [f0, f1])) (hf : flat d = true) :
    runE cf ios (.call f [a, b]) ρ = some (.ok (.val d) ρ) := by
  rw [e_call, l_cons, ha, bnd_ok]
  simp only [deep_at, Bool.false_and, Bool.false_eq_true, if_false]
  rw [l_cons, hb, bnd_ok]
  simp only [deep_val, Bool.false_and, Bool.false_eq_true, if_false, l_nil, bnd_ok]
  rw [hio, call_view h0 hc hf]
theorem at_v {cf : CF} {ios : Str → List Bool} {ρ : Env} {i : Nat} {d : D} (h : gt ρ i = some d) (hf : isFz d = false) : runE cf ios (.v i) ρ = some (.ok (.at i []) ρ) := by
  rw [e_v, h, opt_some, hf]
  rfl
theorem not_t {cf : CF} {ios : Str → List Bool} {b : E} {ρ : Env} (h : runE cf ios b ρ = some (.ok (.val (.bl true)) ρ)) : runE cf ios (.not_ b) ρ = some (.ok (.val (.bl false)) ρ) := by
  rw [e_not, h, bnd_ok, bl_val]
  rfl
end Cov

/-! Sim1: typed runs, and how the small language follows them. -/
namespace Cov.Sm
open PySem
/-! ### typed runs -/
inductive Rs (α : Type) where
  | ok (a : α)
  | ex (c : Str) (d : Option D)
abbrev R (α : Type) := Option (Rs α)
def ok {α : Type} (a : α) : R α := some (.ok a)
def rai {α : Type} (c : Str) (d : Option D) : R α := some (.ex c d)
def tb {α β : Type} (m : R α) (k : α → R β) : R β := match m with
  | none => none
  | some (.ok a) => k a
  | some (.ex c d) => some (.ex c d)
@[simp] theorem tb_ok {α β : Type} (a : α) (k : α → R β) : tb (ok a) k = k a := (rfl)
@[simp] theorem tb_none {α β : Type} (k : α → R β) : tb none k = none := (rfl)
@[simp] theorem tb_rai {α β : Type} (c : Str) (d : Option D) (k : α → R β) : tb (rai c d) k = rai c d := (rfl)
@[simp] theorem ok_inj {α : Type} {a b : α} : (ok a = ok b) = (a = b) := by simp [ok]
theorem tb_asc {α β γ : Type} (m : R α) (k : α → R β) (l : β → R γ) : tb (tb m k) l = tb m fun x => tb (k x) l := by
  cases m with
  | none => rfl
  | some o => cases o <;> rfl
/-- the steps of a loop -/
inductive Stp (σ β : Type) where
  | nx (s : σ) | bk (s : σ) | rt (b : β)
def foldT {α σ : Type} (f : α → σ → R σ) : List α → σ → R σ
  | [], s => ok s
  | x :: xs, s => tb (f x s) fun s' => foldT f xs s'
def goS {σ β : Type} (o : Stp σ β) (k : σ → R (Stp σ β)) : R (Stp σ β) := match o with
  | .nx s => k s
  | .bk s => ok (.bk s)
  | .rt b => ok (.rt b)
@[simp] theorem goS_nx {σ β : Type} (s : σ) (k : σ → R (Stp σ β)) : goS (.nx s) k = k s := (rfl)
@[simp] theorem goS_bk {σ β : Type} (s : σ) (k : σ → R (Stp σ β)) : goS (.bk s) k = ok (.bk s) := (rfl)
@[simp] theorem goS_rt {σ β : Type} (s : β) (k : σ → R (Stp σ β)) : goS (.rt s) k = ok (.rt s) := (rfl)
def forT {α σ β : Type} (f : α → σ → R (Stp σ β)) : List α → σ → R (Stp σ β)
  | [], s => ok (.nx s)
  | x :: xs, s => tb (f x s) fun o => goS o fun s' => forT f xs s'
/-- what stands behind a loop that may return -/
def outS {σ β γ : Type} (o : Stp σ β) (r : β → R γ) (k : σ → R γ) : R γ := match o with
  | .nx s => k s
  | .bk s => k s
  | .rt b => r b
@[simp] theorem outS_nx {σ β γ : Type} (s : σ) (r : β → R γ) (k : σ → R γ) : outS (.nx s) r k = k s := (rfl)
@[simp] theorem outS_bk {σ β γ : Type} (s : σ) (r : β → R γ) (k : σ → R γ) : outS (.bk s) r k = k s := (rfl)
@[simp] theorem outS_rt {σ β γ : Type} (b : β) (r : β → R γ) (k : σ → R γ) : outS (.rt b) r k = r b := (rfl)
/-- a comprehension: its items one by one -/
def mapL {α γ σ : Type} (f : α → σ → R (Option γ × σ)) : List α → σ → R (List γ × σ)
  | [], s => ok ([], s)
  | x :: xs, s => tb (f x s) fun p => tb (mapL f xs p.2) fun q => ok (p.1.toList ++ q.1, q.2)
/-- what raises promises nothing -/
def nx {α : Type} (m : R α) : R α := match m with
  | some (.ex _ _) => none
  | m => m
@[simp] theorem nx_ok {α : Type} (a : α) : nx (ok a) = ok a := (rfl)
@[simp] theorem nx_none {α : Type} : nx (none : R α) = none := (rfl)
@[simp] theorem nx_rai {α : Type} (c : Str) (d : Option D) : nx (rai c d : R α) = none := (rfl)
theorem nx_ne {α : Type} {m : R α} {c : Str} {d : Option D} : nx m ≠ some (.ex c d) := by
  unfold nx
  split
  · intro h; cases h
  · rename_i h; intro e; exact h _ _ e
theorem nx_eq {α : Type} {m : R α} {a : α} (h : nx m = ok a) : m = ok a := by
  unfold nx at h
  split at h
  · cases h
  · exact h
def mapS {α γ σ : Type} (f : α → σ → R (Option γ × σ)) (xs : List α) (s : σ) : R (List γ × σ) := nx (if xs.length ≤ sizeLine then mapL f xs s else none)
/-! ### operations -/
def ixT {α : Type} (xs : List α) (k : Int) : R α := match L2.atI xs k with
  | some x => ok x
  | none => none
def appT {α : Type} (xs : List α) (x : α) : R (List α) := if xs.length < sizeLine then ok (xs ++ [x]) else none
def extT {α : Type} (xs ys : List α) : R (List α) := if xs.length + ys.length ≤ sizeLine then ok (xs ++ ys) else none
def popT {α : Type} (xs : List α) : R (α × List α) := match xs[xs.length - 1]? with
  | some x => ok (x, xs.dropLast)
  | none => none
def putT {α : Type} (xs : List α) (k : Int) (x : α) : R (List α) := match L2.ixN xs.length k with
  | some q => ok (xs.set q x)
  | none => none
def mulT (a b : Int) : R Int := if bitsOk a b then ok (a * b) else none
def fdivT (a b : Int) : R Int := if 0 < b ∧ b < 1073741824 then ok (a / b) else none
def modT (a b : Int) : R Int := if 0 < b then ok (a % b) else none
def powT (a b : Int) : R Int := if 0 ≤ b ∧ b ≤ 1000000 ∧ a.natAbs < 2 ^ 64 then ok (a ^ b.toNat) else none
def rangeI (a b : Int) : List Int := (List.range (b - a).toNat).map fun (k : Nat) => a + (k : Int)
@[irreducible] def rngT (a b : Int) : R (List Int) := if rngOk a && rngOk b then ok (rangeI a b) else none
theorem ranged_I (a b : Int) : ranged a b = (rangeI a b).map D.int := by simp [ranged, rangeI]
theorem atI_map {α β : Type} (f : α → β) (xs : List α) (k : Int) : L2.atI (xs.map f) k = (L2.atI xs k).map f := by
  unfold L2.atI
  simp only [List.length_map]
  cases L2.ixN xs.length k with
  | none => rfl
  | some q => simp
/-! ### assertions about the slots -/
structure Sat (A ρ : Env) : Prop where
  len : ρ.length = A.length
  at_ : ∀ i d, gt A i = some d → gt ρ i = some d
theorem Sat.refl (ρ : Env) : Sat ρ ρ := ⟨rfl, fun _ _ h => h⟩
theorem gt_set (ρ : Env) (i j : Nat) (x : Option D) : gt (ρ.set i x) j = if i = j ∧ i < ρ.length then x else gt ρ j := by
  unfold gt
  rw [List.getElem?_set]
  by_cases h : i = j
  · subst h
    by_cases h2 : i < ρ.length
    · simp [h2]
      cases x <;> rfl
    · simp [h2]
  · simp [h]
theorem Sat.set {A ρ : Env} (s : Sat A ρ) (i : Nat) (x : Option D) : Sat (A.set i x) (ρ.set i x) := by
  refine ⟨by simp [s.len], fun j d h => ?_⟩
  rw [gt_set] at h ⊢
  rw [s.len]
  split
  · rename_i h2
    rw [if_pos h2] at h
    exact h
  · rename_i h2
    rw [if_neg h2] at h
    exact s.at_ j d h
theorem Sat.setW {A ρ : Env} (s : Sat A ρ) (i : Nat) {x y : Option D} (h : ∀ d, x = some d → y = some d) : Sat (A.set i x) (ρ.set i y) := by
  refine ⟨by simp [s.len], fun j d hd => ?_⟩
  rw [gt_set] at hd ⊢
  rw [s.len]
  split
  · rename_i h2
    rw [if_pos h2] at hd
    exact h d hd
  · rename_i h2
    rw [if_neg h2] at hd
    exact s.at_ j d hd
def Sub (A' A : Env) : Prop := ∀ ρ, Sat A' ρ → Sat A ρ
theorem sub_rfl {A : Env} : Sub A A := fun _ h => h
theorem sub_of {A A' : Env} (h : A' = A) : Sub A' A := h ▸ sub_rfl
/-- slot by slot -/
def subL : Env → Env → Prop
  | [], [] => True
  | none :: A, _ :: A' => subL A A'
  | some d :: A, x :: A' => x = some d ∧ subL A A'
  | _, _ => False
theorem subL_len : ∀ {A A' : Env}, subL A A' → A'.length = A.length
  | [], [], _ => rfl
  | none :: A, _ :: A', h => by simp [subL_len (A := A) (A' := A') h]
  | some d :: A, x :: A', h => by simp [subL_len (A := A) (A' := A') h.2]
theorem subL_at : ∀ {A A' : Env}, subL A A' → ∀ i d, gt A i = some d → gt A' i = some d
  | none :: A, _ :: A', h, 0, d, e => by simp at e
  | none :: A, _ :: A', h, i + 1, d, e => by simp at e ⊢; exact subL_at (A := A) (A' := A') h i d e
  | some d' :: A, x :: A', h, 0, d, e => by simp at e ⊢; rw [h.1, e]
  | some d' :: A, x :: A', h, i + 1, d, e => by simp at e ⊢; exact subL_at h.2 i d e
  | [], [], h, i, d, e => by simp [gt] at e
theorem sub_l {A A' : Env} (h : subL A A') : Sub A' A := fun ρ s => ⟨by rw [s.len, subL_len h], fun i d e => s.at_ i d (subL_at h i d e)⟩
theorem sl_nil : subL [] [] := trivial
theorem sl_none {A A' : Env} {x : Option D} (h : subL A A') : subL (none :: A) (x :: A') := h
theorem sl_some {A A' : Env} {d : D} (h : subL A A') : subL (some d :: A) (some d :: A') := ⟨rfl, h⟩
theorem rd_sat {A ρ : Env} (s : Sat A ρ) {r : Res} {d : D} (h : rd r A = some d) : rd r ρ = some d := by
  cases r with
  | val d' => exact h
  | «at» i p =>
    simp only [rd, gtP] at h ⊢
    cases e : gt A i with
    | none => rw [e] at h; cases h
    | some x => rw [s.at_ i x e]; rw [e] at h; exact h
theorem tk_sat {A ρ : Env} (s : Sat A ρ) {r : Res} {d : D} {A' : Env} (h : tk r A = some (d, A')) : ∃ ρ', tk r ρ = some (d, ρ') ∧ Sat A' ρ' := by
  cases r with
  | val d' =>
    simp only [tk, Option.some.injEq, Prod.mk.injEq] at h
    obtain ⟨rfl, rfl⟩ := h
    exact ⟨ρ, rfl, s⟩
  | «at» i p =>
    cases p with
    | cons _ _ => cases h
    | nil =>
      simp only [tk] at h ⊢
      cases e : gt A i with
      | none => rw [e] at h; cases h
      | some x =>
        rw [e] at h
        rw [s.at_ i x e]
        simp only [Option.bind_some] at h ⊢
        split at h
        · cases h
        · simp only [Option.some.injEq, Prod.mk.injEq] at h
          obtain ⟨rfl, rfl⟩ := h
          exact ⟨_, rfl, s.set i _⟩
theorem tkAll_sat : ∀ {rs : List Res} {A ρ : Env} (s : Sat A ρ) {x : List D × Env}, tkAll rs A = some x → ∃ ρ', tkAll rs ρ = some (x.1, ρ') ∧ Sat x.2 ρ'
  | [], A, ρ, s, x, h => by
    simp only [tkAll, Option.some.injEq] at h
    subst h
    exact ⟨ρ, rfl, s⟩
  | r :: rs, A, ρ, s, x, h => by
    simp only [tkAll] at h ⊢
    cases e : tk r A with
    | none => rw [e] at h; cases h
    | some y =>
      obtain ⟨ρ1, e1, s1⟩ := tk_sat s (A' := y.2) (d := y.1) e
      rw [e, Option.bind_some] at h
      cases e2 : tkAll rs y.2 with
      | none => rw [e2] at h; cases h
      | some z =>
        rw [e2, Option.bind_some] at h
        cases h
        obtain ⟨ρ2, e3, s2⟩ := tkAll_sat s1 e2
        refine ⟨ρ2, ?_, s2⟩
        rw [e1, Option.bind_some, e3, Option.bind_some]
mutual
theorem tg_sat : ∀ {t : Tg} {d : D} {A ρ A' : Env} (s : Sat A ρ), bindTg t d A = some A' → ∃ ρ', bindTg t d ρ = some ρ' ∧ Sat A' ρ'
  | .nm i, d, A, ρ, A', s, h => by
    simp only [bindTg] at h ⊢
    split at h
    · rename_i hf
      cases h
      exact ⟨_, by rw [if_pos hf], s.set i _⟩
    · cases h
  | .tp ts, d, A, ρ, A', s, h => by
    unfold bindTg at h ⊢
    split at h
    · exact tgs_sat s h
    · cases h
theorem tgs_sat : ∀ {ts : List Tg} {ds : List D} {A ρ A' : Env} (s : Sat A ρ), bindTgs ts ds A = some A' → ∃ ρ', bindTgs ts ds ρ = some ρ' ∧ Sat A' ρ'
  | [], [], A, ρ, A', s, h => by
    simp only [bindTgs, Option.some.injEq] at h ⊢
    exact ⟨ρ, rfl, h ▸ s⟩
  | [], _ :: _, A, ρ, A', s, h => by simp [bindTgs] at h
  | _ :: _, [], A, ρ, A', s, h => by simp [bindTgs] at h
  | t :: ts, d :: ds, A, ρ, A', s, h => by
    simp only [bindTgs] at h ⊢
    cases e : bindTg t d A with
    | none => rw [e] at h; cases h
    | some A1 =>
      obtain ⟨ρ1, e1, s1⟩ := tg_sat s e
      rw [e, Option.bind_some] at h
      rw [e1, Option.bind_some]
      exact tgs_sat s1 h
end
theorem unlk_sat {A ρ : Env} (s : Sat A ρ) {w : Option (Nat × Bool)} {A' : Env} (h : unlk A w = some A') : ∃ ρ', unlk ρ w = some ρ' ∧ Sat A' ρ' := by
  cases w with
  | none => cases h; exact ⟨ρ, rfl, s⟩
  | some p =>
    obtain ⟨i, b⟩ := p
    cases b with
    | false => cases h; exact ⟨ρ, rfl, s⟩
    | true =>
      simp only [unlk] at h ⊢
      cases e : gt A i with
      | none => rw [e] at h; cases h
      | some x =>
        rw [e] at h
        rw [s.at_ i x e]
        simp only [Option.bind_some] at h ⊢
        split at h
        · cases h
          exact ⟨_, rfl, s.set i _⟩
        · cases h
theorem lk_sat {A ρ : Env} (s : Sat A ρ) {w : Wlk} (h : lkOk w A = true) : lkOk w ρ = true := by
  obtain ⟨ds, o⟩ := w
  cases o with
  | none => rfl
  | some p =>
    obtain ⟨i, b⟩ := p
    simp only [lkOk] at h ⊢
    cases e : gt A i with
    | none => rw [e] at h; cases h
    | some x =>
      rw [s.at_ i x e]
      rw [e] at h
      exact h
theorem walk_sat {A ρ : Env} (s : Sat A ρ) {r : Res} {w : Wlk} {A' : Env} (h : walkRes r A = some (.ok w A')) : ∃ ρ', walkRes r ρ = some (.ok w ρ') ∧ Sat A' ρ' := by
  cases r with
  | val d =>
    simp only [walkRes] at h ⊢
    cases e : itemsOf d with
    | none => rw [e] at h; cases h
    | some ds =>
      rw [e] at h
      simp only [opt_some, Option.some.injEq, Out.ok.injEq] at h ⊢
      exact ⟨ρ, ⟨h.1, rfl⟩, h.2 ▸ s⟩
  | «at» i p =>
    simp only [walkRes, gtP] at h ⊢
    cases e : gt A i with
    | none => rw [e] at h; cases h
    | some x =>
      rw [e] at h
      rw [s.at_ i x e]
      simp only [Option.bind_some] at h ⊢
      cases e2 : getP x p with
      | none => rw [e2] at h; cases h
      | some y =>
        rw [e2] at h
        simp only [opt_some] at h ⊢
        split at h
        · split at h
          · rename_i hp
            simp only [Option.some.injEq, Out.ok.injEq] at h
            obtain ⟨rfl, rfl⟩ := h
            exact ⟨_, by simp only [hp, if_true], s.set i _⟩
          · cases h
        · split at h
          · rename_i hp
            simp only [Option.some.injEq, Out.ok.injEq] at h
            obtain ⟨rfl, rfl⟩ := h
            exact ⟨_, by simp only [hp, if_true], s⟩
          · cases h
        · cases h
theorem wipe_sat {A ρ : Env} (s : Sat A ρ) : ∀ ow : List Nat, Sat (wipeE A ow) (wipeE ρ ow)
  | [] => s
  | i :: ow => (wipe_sat s ow).set i none
theorem back_sat {A0 ρ0 A ρ : Env} (s0 : Sat A0 ρ0) (s : Sat A ρ) : ∀ ow : List Nat, Sat (backE A0 A ow) (backE ρ0 ρ ow)
  | [] => s
  | i :: ow => (back_sat s0 s ow).setW i fun d h => s0.at_ i d h
theorem arg_sat {A ρ : Env} (s : Sat A ρ) {b : Bool} {r : Res} {d : D} (h : argOf A b r = some d) : argOf ρ b r = some d := by
  cases r with
  | val _ => exact h
  | «at» i p =>
    cases p with
    | cons _ _ => cases h
    | nil =>
      simp only [argOf] at h ⊢
      cases e : gt A i with
      | none => rw [e] at h; cases h
      | some x => rw [s.at_ i x e]; rw [e] at h; exact h
theorem args_sat {A ρ : Env} (s : Sat A ρ) : ∀ {rs : List Res} {io : List Bool} {ds : List D}, argsOf A io rs = some ds → argsOf ρ io rs = some ds
  | [], io, ds, h => by simpa [argsOf] using h
  | r :: rs, io, ds, h => by
    simp only [argsOf] at h ⊢
    cases e : argOf A (io.headD false) r with
    | none => rw [e] at h; cases h
    | some d =>
      rw [e, Option.bind_some] at h
      rw [arg_sat s e, Option.bind_some]
      cases e2 : argsOf A io.tail rs with
      | none => rw [e2] at h; cases h
      | some ds2 =>
        rw [e2] at h
        rw [args_sat s e2]
        exact h
/-- lists of one length that are the same where a parameter may be changed -/
def ioEq : List Bool → List D → List D → Prop
  | io, f :: fs, g :: gs => (io.headD false = true → f = g) ∧ ioEq io.tail fs gs
  | _, [], [] => True
  | _, _, _ => False
theorem ioEq_refl : ∀ {io : List Bool} {fs : List D}, ioEq io fs fs
  | io, [] => by unfold ioEq; trivial
  | io, f :: fs => by unfold ioEq; exact ⟨fun _ => rfl, ioEq_refl⟩
theorem ioEq_len : ∀ {io : List Bool} {fs gs : List D}, ioEq io fs gs → fs.length = gs.length
  | io, [], [], _ => rfl
  | io, f :: fs, g :: gs, h => by
    unfold ioEq at h
    simp [ioEq_len h.2]
  | io, [], _ :: _, h => by simp [ioEq] at h
  | io, _ :: _, [], h => by simp [ioEq] at h
theorem ioEq_flat : ∀ {io : List Bool} {fs gs : List D}, ioEq io fs gs → flatIo io fs = flatIo io gs
  | io, [], [], _ => rfl
  | io, f :: fs, g :: gs, h => by
    unfold ioEq at h
    simp only [flatIo, ioEq_flat h.2]
    cases e : io.headD false with
    | false => rfl
    | true => rw [h.1 e]
  | io, [], _ :: _, h => by simp [ioEq] at h
  | io, _ :: _, [], h => by simp [ioEq] at h
theorem backs_sat {z : Bool} : ∀ {rs : List Res} {io : List Bool} {fs gs : List D} {A ρ : Env}, Sat A ρ → ioEq io fs gs → Sat (backs z io rs gs A) (backs z io rs fs ρ)
  | [], io, fs, gs, A, ρ, s, h => by simpa [backs] using s
  | r :: rs, io, [], [], A, ρ, s, h => by cases r <;> simpa [backs] using s
  | r :: rs, io, [], _ :: _, A, ρ, s, h => by simp [ioEq] at h
  | r :: rs, io, _ :: _, [], A, ρ, s, h => by simp [ioEq] at h
  | .val d :: rs, io, f :: fs, g :: gs, A, ρ, s, h => by
    unfold ioEq at h
    simp only [backs]
    exact backs_sat s h.2
  | .at i p :: rs, io, f :: fs, g :: gs, A, ρ, s, h => by
    unfold ioEq at h
    simp only [backs]
    refine backs_sat ?_ h.2
    split
    · rename_i e
      rw [h.1 e]
      exact s.set i _
    · split
      · refine s.setW i fun d hd => ?_
        cases e : gt A i with
        | none => rw [e] at hd; cases hd
        | some x => rw [e] at hd; rw [s.at_ i x e]; exact hd
      · exact s
end Cov.Sm

/-! Sim2: the judgement, expressions. -/
namespace Cov.Sm
open PySem
structure Cc where
  cf : CF
  ios : Str → List Bool
  io : List Bool
  /-- exceptions are followed, too -/
  tr : Bool
  x : Env → Prop
def live (C : Cc) {β : Type} (m : R β) : Prop := match m with
  | none => False
  | some (.ok _) => True
  | some (.ex _ _) => C.tr = true
/-- the run keeps up with m; Q: what is left of m behind it -/
def W (C : Cc) {γ β : Type} (run : Env → M γ) (A : Env) (m : R β) (Q : γ → Env → R β → Prop) : Prop := ∀ ρ, Sat A ρ → live C m →
  (∃ g ρ' A', run ρ = some (.ok g ρ') ∧ Sat A' ρ' ∧ Q g A' m) ∨ (∃ c d ρ', run ρ = some (.ex c d ρ') ∧ m = some (.ex c d) ∧ C.x ρ')
section
variable {C : Cc} {β : Type} {A : Env} {m : R β}
theorem w_imp {γ : Type} {run : Env → M γ} {Q Q' : γ → Env → R β → Prop} (h : W C run A m Q) (i : ∀ g A' , Q g A' m → Q' g A' m) : W C run A m Q' := fun ρ s l => by
  rcases h ρ s l with ⟨g, ρ', A', e, s', q⟩ | z
  · exact .inl ⟨g, ρ', A', e, s', i _ _ q⟩
  · exact .inr z
theorem w_sub {γ : Type} {run : Env → M γ} {Q : γ → Env → R β → Prop} {A0 : Env} (h : W C run A m Q) (z : Sub A0 A) : W C run A0 m Q := fun ρ s l => h ρ (z ρ s) l
theorem w_pure {γ : Type} {g : γ} {Q : γ → Env → R β → Prop} (h : Q g A m) : W C (fun ρ => some (.ok g ρ)) A m Q := fun ρ s _ => .inl ⟨g, ρ, A, rfl, s, h⟩
theorem w_bnd {γ δ : Type} {run : Env → M γ} {f : γ → Env → M δ} {Q : δ → Env → R β → Prop} (h : W C run A m fun g A' m' => W C (f g) A' m' Q) : W C (fun ρ => bnd (run ρ) f) A m Q := fun ρ s l => by
  rcases h ρ s l with ⟨g, ρ', A', e, s', q⟩ | ⟨c, d, ρ', e, e2, x⟩
  · show (∃ g ρ' A', bnd (run ρ) f = _ ∧ _) ∨ _
    rcases q ρ' s' l with ⟨g2, ρ2, A2, e3, s2, q2⟩ | ⟨c, d, ρ2, e3, e4, x⟩
    · exact .inl ⟨g2, ρ2, A2, by rw [e, bnd_ok]; exact e3, s2, q2⟩
    · exact .inr ⟨c, d, ρ2, by show bnd (run ρ) f = _; rw [e, bnd_ok]; exact e3, e4, x⟩
  · exact .inr ⟨c, d, ρ', by show bnd (run ρ) f = _; rw [e, bnd_ex], e2, x⟩
theorem w_eq {γ : Type} {run run' : Env → M γ} {Q : γ → Env → R β → Prop} (h : W C run A m Q) (e : ∀ ρ, run' ρ = run ρ) : W C run' A m Q := fun ρ s l => by rw [e]; exact h ρ s l
theorem w_live {γ : Type} {run : Env → M γ} {Q : γ → Env → R β → Prop} (h : live C m → W C run A m Q) : W C run A m Q := fun ρ s l => h l ρ s l
/-- a pure step -/
theorem w_opt {γ α : Type} {o : Env → Option α} {a : α} {f : Env → α → M γ} {Q : γ → Env → R β → Prop} (h : ∀ ρ, Sat A ρ → o ρ = some a) (k : W C (fun ρ => f ρ a) A m Q) : W C (fun ρ => opt (o ρ) (f ρ)) A m Q := fun ρ s l => by
  have e : (fun ρ => opt (o ρ) (f ρ)) ρ = f ρ a := by
    show opt (o ρ) (f ρ) = f ρ a
    rw [h ρ s, opt_some]
  rw [e]
  exact k ρ s l
/-- a typed step -/
theorem live_tb {α : Type} {o : R α} {k : α → R β} (h : live C (tb o k)) : (∃ a, o = ok a) ∨ ∃ c d, o = some (.ex c d) ∧ C.tr = true := by
  cases o with
  | none => exact h.elim
  | some r => cases r with
    | ok a => exact .inl ⟨a, rfl⟩
    | ex c d => exact .inr ⟨c, d, rfl, h⟩
end
section
variable (C : Cc) {β : Type}
abbrev WE (A : Env) (e : E) (m : R β) (Q : Res → Env → R β → Prop) : Prop := W C (runE C.cf C.ios e) A m Q
abbrev WL (A : Env) (es : List E) (m : R β) (Q : List Res → Env → R β → Prop) : Prop := W C (runL C.cf C.ios es) A m Q
abbrev WI (A : Env) (it : It) (m : R β) (Q : Wlk → Env → R β → Prop) : Prop := W C (runIt C.cf C.ios it) A m Q
abbrev W1 (A : Env) (s : S) (m : R β) (Q : Fl → Env → R β → Prop) : Prop := W C (runS C.cf C.ios C.io s) A m Q
abbrev WS (A : Env) (ss : List S) (m : R β) (Q : Fl → Env → R β → Prop) : Prop := W C (runSs C.cf C.ios C.io ss) A m Q
/-- a pure expression: its value -/
def PE (A : Env) (e : E) (d : D) : Prop := ∀ ρ, Sat A ρ → runE C.cf C.ios e ρ = some (.ok (.val d) ρ)
/-- .. or the place that has it -/
def PR (A : Env) (e : E) (d : D) : Prop := ∀ ρ, Sat A ρ → ∃ r, runE C.cf C.ios e ρ = some (.ok r ρ) ∧ rd r ρ = some d ∧ deep r = false
end
section
variable {C : Cc} {β : Type} {A : Env} {m : R β} {a b c : E} {d d' e' : D}
theorem pe_c {d : D} : PE C A (.c d) d := fun ρ _ => e_c d
theorem pe_g {x : Str} {d : D} : PE C A (.g x d) d := fun ρ _ => by rw [runE]
theorem pe_v {i : Nat} {d : D} (h : gt A i = some d) (f : isFz d = true) : PE C A (.v i) d := fun ρ s => by rw [e_v, s.at_ i d h, opt_some, if_pos f]
theorem pr_e (h : PE C A a d) : PR C A a d := fun ρ s => ⟨_, h ρ s, rfl, rfl⟩
theorem pr_v {i : Nat} {d : D} (h : gt A i = some d) : PR C A (.v i) d := fun ρ s => by
  rw [e_v, s.at_ i d h, opt_some]
  by_cases f : isFz d = true
  · exact ⟨_, by rw [if_pos f], rfl, rfl⟩
  · exact ⟨_, by rw [if_neg f], by rw [rd_at, s.at_ i d h], rfl⟩
theorem pe_o1 {o : O1} (h : PR C A a d) (e : o1D o d = some e') : PE C A (.o1 o a) e' := fun ρ s => by
  obtain ⟨r, h1, h2, _⟩ := h ρ s
  rw [e_o1, h1, bnd_ok, h2, opt_some, e, opt_some]
theorem pe_o2 {o : O2} (h : PR C A a d) (h' : PR C A b d') (e : o2D o d d' = some e') : PE C A (.o2 o a b) e' := fun ρ s => by
  obtain ⟨r, h1, h2, h3⟩ := h ρ s
  obtain ⟨r', h4, h5, _⟩ := h' ρ s
  rw [e_o2, h1, bnd_ok, h3, Bool.false_and]
  simp only [Bool.false_eq_true, if_false]
  rw [h4, bnd_ok, h2, opt_some, h5, opt_some, e, opt_some]
theorem pe_not {k : Bool} (h : PE C A a (.bl k)) : PE C A (.not_ a) (.bl (!k)) := fun ρ s => by rw [e_not, h ρ s, bnd_ok, bl_val]
theorem pe_and {k l : Bool} (h : PE C A a (.bl k)) (h' : PE C A b (.bl l)) : PE C A (.and_ a b) (.bl (k && l)) := fun ρ s => by
  rw [e_and, h ρ s, bnd_ok, bl_val]
  cases k with
  | true => simp only [if_true, Bool.true_and]; rw [h' ρ s, bnd_ok, bl_val]
  | false => rfl
theorem pe_or {k l : Bool} (h : PE C A a (.bl k)) (h' : PE C A b (.bl l)) : PE C A (.or_ a b) (.bl (k || l)) := fun ρ s => by
  rw [e_or, h ρ s, bnd_ok, bl_val]
  cases k with
  | true => rfl
  | false => simp only [Bool.false_eq_true, if_false, Bool.false_or]; rw [h' ρ s, bnd_ok, bl_val]
theorem pe_ife {α : Type} {k : Bool} {E : α → D} {x y : α} (h : PE C A c (.bl k)) (h1 : PE C A a (E x)) (h2 : PE C A b (E y)) : PE C A (.ife c a b) (E (if k then x else y)) := fun ρ s => by
  rw [e_ife, h ρ s, bnd_ok, bl_val]
  cases k with
  | true => exact h1 ρ s
  | false => exact h2 ρ s
/-- lists of pure expressions, kept -/
def PL (C : Cc) (A : Env) : List E → List D → Prop
  | [], [] => True
  | e :: es, d :: ds => PE C A e d ∧ PL C A es ds
  | _, _ => False
theorem pl_nil : PL C A [] [] := trivial
theorem pl_cons {es : List E} {ds : List D} (h : PE C A a d) (t : PL C A es ds) : PL C A (a :: es) (d :: ds) := ⟨h, t⟩
theorem pl_run : ∀ {es : List E} {ds : List D} (h : PL C A es ds) (ρ : Env) (s : Sat A ρ), runL C.cf C.ios es ρ = some (.ok (ds.map .val) ρ)
  | [], [], _, ρ, _ => l_nil
  | e :: es, d :: ds, h, ρ, s => by
    rw [l_cons, h.1 ρ s, bnd_ok]
    simp only [deep_val, Bool.false_and, Bool.false_eq_true, if_false]
    rw [pl_run h.2 ρ s, bnd_ok]
    rfl
  | [], _ :: _, h, _, _ => h.elim
  | _ :: _, [], h, _, _ => h.elim
theorem tka_vals {ρ : Env} : ∀ ds : List D, tkAll (ds.map .val) ρ = some (ds, ρ)
  | [] => rfl
  | d :: ds => by simp [tka_vals ds]
theorem pe_tup {es : List E} {ds : List D} (h : PL C A es ds) (z : ds.length ≤ sizeLine) : PE C A (.tup es) (.tup (frzL ds)) := fun ρ s => by
  rw [e_tup, pl_run h ρ s, bnd_ok, tka_vals, opt_some, if_pos z]
theorem pe_lst {es : List E} {ds : List D} (h : PL C A es ds) (z : ds.length ≤ sizeLine) : PE C A (.lst false es) (.lst .ow (frzL ds)) := fun ρ s => by
  rw [e_lst, pl_run h ρ s, bnd_ok, tka_vals, opt_some, if_pos z]
/-! rules -/
theorem we_pe {Q : Res → Env → R β → Prop} (h : PE C A a d) (q : Q (.val d) A m) : WE C A a m Q := fun ρ s _ => .inl ⟨_, ρ, A, h ρ s, s, q⟩
theorem we_va {i : Nat} {Q : Res → Env → R β → Prop} (h : gt A i = some d) (f : isFz d = false) (q : Q (.at i []) A m) : WE C A (.v i) m Q := fun ρ s _ =>
  .inl ⟨_, ρ, A, by rw [e_v, s.at_ i d h, opt_some, f]; rfl, s, q⟩
/-- what stands behind an operation -/
def K1 (C : Cc) {β : Type} (o : O1) (r : Res) (A : Env) (m : R β) (Q : Res → Env → R β → Prop) : Prop := live C m → ∃ d e', rd r A = some d ∧ o1D o d = some e' ∧ Q (.val e') A m
def K2 (C : Cc) {β : Type} (o : O2) (r r' : Res) (A : Env) (m : R β) (Q : Res → Env → R β → Prop) : Prop := live C m → ∃ d d' e', rd r A = some d ∧ rd r' A = some d' ∧ o2D o d d' = some e' ∧ Q (.val e') A m
theorem we_o1 {o : O1} {Q : Res → Env → R β → Prop} (h : WE C A a m fun r A1 m1 => K1 C o r A1 m1 Q) : WE C A (.o1 o a) m Q := by
  refine w_eq (w_bnd (w_imp h fun r A1 k => ?_)) fun ρ => e_o1 o a
  refine w_live fun l => ?_
  obtain ⟨d, e', h1, h2, q⟩ := k l
  refine w_opt (fun ρ s => rd_sat s h1) ?_
  rw [h2]
  exact w_pure q
theorem we_o2 {o : O2} {Q : Res → Env → R β → Prop} (h : WE C A a m fun r A1 m1 => (deep r && !pureE b) = false ∧ WE C A1 b m1 fun r' A2 m2 => K2 C o r r' A2 m2 Q) : WE C A (.o2 o a b) m Q := by
  refine w_eq (w_bnd (w_imp h fun r A1 k => ?_)) fun ρ => e_o2 o a b
  obtain ⟨k1, k2⟩ := k
  simp only [k1, Bool.false_eq_true, if_false]
  refine w_bnd (w_imp k2 fun r' A2 k => ?_)
  refine w_live fun l => ?_
  obtain ⟨d, d', e', h1, h2, h3, q⟩ := k l
  refine w_opt (fun ρ s => rd_sat s h1) (w_opt (fun ρ s => rd_sat s h2) ?_)
  rw [h3]
  exact w_pure q
theorem k1_p {o : O1} {r : Res} {Q : Res → Env → R β → Prop} (h1 : rd r A = some d) (h2 : o1D o d = some e') (q : Q (.val e') A m) : K1 C o r A m Q := fun _ => ⟨d, e', h1, h2, q⟩
theorem k2_p {o : O2} {r r' : Res} {Q : Res → Env → R β → Prop} (h1 : rd r A = some d) (h2 : rd r' A = some d') (h3 : o2D o d d' = some e') (q : Q (.val e') A m) : K2 C o r r' A m Q := fun _ => ⟨d, d', e', h1, h2, h3, q⟩
/-- an operation that may fail, in m's own words -/
theorem k1_t {α : Type} {o : O1} {r : Res} {op : R α} {k : α → R β} {E : α → D} {Q : Res → Env → R β → Prop} (h1 : rd r A = some d) (hx : ∀ c x, op ≠ some (.ex c x)) (h2 : ∀ x, op = ok x → o1D o d = some (E x)) (q : ∀ x, Q (.val (E x)) A (k x)) : K1 C o r A (tb op k) Q := fun l => by
  rcases live_tb l with ⟨x, e⟩ | ⟨c, x, e, _⟩
  · exact ⟨d, _, h1, h2 x e, by rw [e, tb_ok]; exact q x⟩
  · exact (hx _ _ e).elim
theorem k2_t {α : Type} {o : O2} {r r' : Res} {op : R α} {k : α → R β} {E : α → D} {Q : Res → Env → R β → Prop} (h1 : rd r A = some d) (h2 : rd r' A = some d') (hx : ∀ c x, op ≠ some (.ex c x)) (h3 : ∀ x, op = ok x → o2D o d d' = some (E x)) (q : ∀ x, Q (.val (E x)) A (k x)) : K2 C o r r' A (tb op k) Q := fun l => by
  rcases live_tb l with ⟨x, e⟩ | ⟨c, x, e, _⟩
  · exact ⟨d, d', _, h1, h2, h3 x e, by rw [e, tb_ok]; exact q x⟩
  · exact (hx _ _ e).elim
theorem some_ok {α : Type} {a b : α} (h : some (Rs.ok a) = ok b) : a = b := by
  simp [ok] at h; exact h
theorem k_ixl {α : Type} {r r' : Res} {o : Ow} {E : α → D} {xs : List α} {k : Int} {c : α → R β} {Q : Res → Env → R β → Prop} (h1 : rd r A = some (.lst o (xs.map E))) (h2 : rd r' A = some (.int k)) (q : ∀ x, Q (.val (E x)) A (c x)) : K2 C .ix r r' A (tb (ixT xs k) c) Q := by
  refine k2_t h1 h2 (fun _ _ e => ?_) (fun x e => ?_) q
  · unfold ixT at e; split at e <;> simp [ok] at e
  · unfold ixT at e
    rw [ix_lst, atI_map]
    split at e
    · rename_i y hy
      rw [hy, ← some_ok e]; rfl
    · cases e
theorem k_ixt {α : Type} {r r' : Res} {E : α → D} {xs : List α} {k : Int} {c : α → R β} {Q : Res → Env → R β → Prop} (h1 : rd r A = some (.tup (xs.map E))) (h2 : rd r' A = some (.int k)) (q : ∀ x, Q (.val (E x)) A (c x)) : K2 C .ix r r' A (tb (ixT xs k) c) Q := by
  refine k2_t h1 h2 (fun _ _ e => ?_) (fun x e => ?_) q
  · unfold ixT at e; split at e <;> simp [ok] at e
  · unfold ixT at e
    rw [ix_tup, atI_map]
    split at e
    · rename_i y hy
      rw [hy, ← some_ok e]; rfl
    · cases e
theorem k_mul {r r' : Res} {x y : Int} {c : Int → R β} {Q : Res → Env → R β → Prop} (h1 : rd r A = some (.int x)) (h2 : rd r' A = some (.int y)) (q : ∀ z, Q (.val (.int z)) A (c z)) : K2 C .mul r r' A (tb (mulT x y) c) Q := by
  refine k2_t (E := D.int) h1 h2 (fun _ _ e => ?_) (fun z e => ?_) q
  · unfold mulT at e; split at e <;> simp [ok] at e
  · unfold mulT at e
    rw [mul_int]
    split at e
    · rename_i hh; rw [if_pos hh, ← some_ok e]
    · cases e
theorem k_fdiv {r r' : Res} {x y : Int} {c : Int → R β} {Q : Res → Env → R β → Prop} (h1 : rd r A = some (.int x)) (h2 : rd r' A = some (.int y)) (q : ∀ z, Q (.val (.int z)) A (c z)) : K2 C .fdiv r r' A (tb (fdivT x y) c) Q := by
  refine k2_t (E := D.int) h1 h2 (fun _ _ e => ?_) (fun z e => ?_) q
  · unfold fdivT at e; split at e <;> simp [ok] at e
  · unfold fdivT at e
    rw [fdiv_int]
    split at e
    · rename_i hh; rw [if_pos hh, ← some_ok e]
    · cases e
theorem k_mod {r r' : Res} {x y : Int} {c : Int → R β} {Q : Res → Env → R β → Prop} (h1 : rd r A = some (.int x)) (h2 : rd r' A = some (.int y)) (q : ∀ z, Q (.val (.int z)) A (c z)) : K2 C .mod r r' A (tb (modT x y) c) Q := by
  refine k2_t (E := D.int) h1 h2 (fun _ _ e => ?_) (fun z e => ?_) q
  · unfold modT at e; split at e <;> simp [ok] at e
  · unfold modT at e
    rw [mod_int]
    split at e
    · rename_i hh; rw [if_pos hh, ← some_ok e]
    · cases e
theorem k_pow {r r' : Res} {x y : Int} {c : Int → R β} {Q : Res → Env → R β → Prop} (h1 : rd r A = some (.int x)) (h2 : rd r' A = some (.int y)) (q : ∀ z, Q (.val (.int z)) A (c z)) : K2 C .pow r r' A (tb (powT x y) c) Q := by
  refine k2_t (E := D.int) h1 h2 (fun _ _ e => ?_) (fun z e => ?_) q
  · unfold powT at e; split at e <;> simp [ok] at e
  · unfold powT at e
    rw [pow_int]
    split at e
    · rename_i hh; rw [if_pos hh, ← some_ok e]
    · cases e
/-! tests -/
theorem blRes_of {r : Res} {ρ : Env} {b : Bool} (h : rd r ρ = some (.bl b)) (k : Bool → M Res) : blRes r ρ k = k b := by
  unfold blRes
  rw [h]
theorem w_bl {r : Res} {p : Bool} {f : Env → Bool → M Res} {Q : Res → Env → R β → Prop} (h : rd r A = some (.bl p)) (k : W C (fun ρ => f ρ p) A m Q) : W C (fun ρ => blRes r ρ (f ρ)) A m Q := fun ρ s l => by
  have e : (fun ρ => blRes r ρ (f ρ)) ρ = f ρ p := blRes_of (rd_sat s h) _
  rw [e]
  exact k ρ s l
theorem we_not {Q : Res → Env → R β → Prop} (h : WE C A a m fun r A1 m1 => ∃ k, rd r A1 = some (.bl k) ∧ Q (.val (.bl (!k))) A1 m1) : WE C A (.not_ a) m Q := by
  refine w_eq (w_bnd (w_imp h fun r A1 k => ?_)) fun ρ => e_not a
  obtain ⟨k, h1, q⟩ := k
  exact w_bl h1 (w_pure q)
/-- the second operand is pure -/
theorem we_and_p {Q : Res → Env → R β → Prop} (h : WE C A a m fun r A1 m1 => ∃ p q, rd r A1 = some (.bl p) ∧ PE C A1 b (.bl q) ∧ Q (.val (.bl (p && q))) A1 m1) : WE C A (.and_ a b) m Q := by
  refine w_eq (w_bnd (w_imp h fun r A1 k => ?_)) fun ρ => e_and a b
  obtain ⟨p, q, h1, h2, q3⟩ := k
  refine w_bl h1 ?_
  cases p with
  | false => exact w_pure q3
  | true =>
    refine w_bnd (we_pe h2 ?_)
    exact w_bl rfl (w_pure q3)
theorem we_or_p {Q : Res → Env → R β → Prop} (h : WE C A a m fun r A1 m1 => ∃ p q, rd r A1 = some (.bl p) ∧ PE C A1 b (.bl q) ∧ Q (.val (.bl (p || q))) A1 m1) : WE C A (.or_ a b) m Q := by
  refine w_eq (w_bnd (w_imp h fun r A1 k => ?_)) fun ρ => e_or a b
  obtain ⟨p, q, h1, h2, q3⟩ := k
  refine w_bl h1 ?_
  cases p with
  | true => exact w_pure q3
  | false =>
    refine w_bnd (we_pe h2 ?_)
    exact w_bl rfl (w_pure q3)
theorem live_l {α : Type} {o : R α} {k : α → R β} (h : live C (tb o k)) : live C o := by
  cases o with
  | none => exact h
  | some r => cases r with
    | ok a => trivial
    | ex c d => exact h
/-- a part of m by itself -/
theorem w_tb {γ α : Type} {run : Env → M γ} {o : R α} {k : α → R β} {Q : γ → Env → R β → Prop} (h : W C run A o fun g A' o' => ∃ a, o' = ok a ∧ Q g A' (k a)) : W C run A (tb o k) Q := fun ρ s l => by
  rcases h ρ s (live_l l) with ⟨g, ρ', A', e, s', a, e2, q⟩ | ⟨c, d, ρ', e, e2, x⟩
  · exact .inl ⟨g, ρ', A', e, s', by rw [e2, tb_ok]; exact q⟩
  · exact .inr ⟨c, d, ρ', e, by rw [e2]; rfl, x⟩
/-- the second operand does something: σ is what it changes -/
theorem we_and_e {σ : Type} {Q : Res → Env → R β → Prop} (AJ : σ → Env) (h : WE C A a m fun r A1 m1 => ∃ p mb s0 k, rd r A1 = some (.bl p) ∧ m1 = tb (if p then mb else ok (false, s0)) k ∧ Sub A1 (AJ s0) ∧
    (WE C A1 b mb fun r' A2 m2 => ∃ q s, rd r' A2 = some (.bl q) ∧ m2 = ok (q, s) ∧ Sub A2 (AJ s)) ∧ ∀ p : Bool × σ, Q (.val (.bl p.1)) (AJ p.2) (k p)) : WE C A (.and_ a b) m Q := by
  refine w_eq (w_bnd (w_imp h fun r A1 k => ?_)) fun ρ => e_and a b
  obtain ⟨p, mb, s0, k, h1, e, hs, hb, hq⟩ := k
  subst e
  refine w_bl h1 ?_
  cases p with
  | false =>
    exact w_sub (w_pure (A := AJ s0) (hq (false, s0))) hs
  | true =>
    refine w_tb (w_bnd (w_imp hb fun r' A2 z => ?_))
    obtain ⟨q, s, h2, e, hs2⟩ := z
    exact w_bl h2 (w_sub (w_pure ⟨_, e, hq (q, s)⟩) hs2)
theorem we_or_e {σ : Type} {Q : Res → Env → R β → Prop} (AJ : σ → Env) (h : WE C A a m fun r A1 m1 => ∃ p mb s0 k, rd r A1 = some (.bl p) ∧ m1 = tb (if p then ok (true, s0) else mb) k ∧ Sub A1 (AJ s0) ∧
    (WE C A1 b mb fun r' A2 m2 => ∃ q s, rd r' A2 = some (.bl q) ∧ m2 = ok (q, s) ∧ Sub A2 (AJ s)) ∧ ∀ p : Bool × σ, Q (.val (.bl p.1)) (AJ p.2) (k p)) : WE C A (.or_ a b) m Q := by
  refine w_eq (w_bnd (w_imp h fun r A1 k => ?_)) fun ρ => e_or a b
  obtain ⟨p, mb, s0, k, h1, e, hs, hb, hq⟩ := k
  subst e
  refine w_bl h1 ?_
  cases p with
  | true =>
    exact w_sub (w_pure (A := AJ s0) (hq (true, s0))) hs
  | false =>
    refine w_tb (w_bnd (w_imp hb fun r' A2 z => ?_))
    obtain ⟨q, s, h2, e, hs2⟩ := z
    exact w_bl h2 (w_sub (w_pure ⟨_, e, hq (q, s)⟩) hs2)
/-- a conditional expression: c pure -/
theorem we_ife {α : Type} {p : Bool} {ma mb : R α} {k : α → R β} {E : α → D} {Q : Res → Env → R β → Prop} (h : PE C A c (.bl p)) (h1 : WE C A a ma fun r A1 m1 => ∃ x, r = .val (E x) ∧ m1 = ok x ∧ Sub A1 A) (h2 : WE C A b mb fun r A1 m1 => ∃ x, r = .val (E x) ∧ m1 = ok x ∧ Sub A1 A) (q : ∀ x, Q (.val (E x)) A (k x)) :
    WE C A (.ife c a b) (tb (if p then ma else mb) k) Q := by
  refine w_eq (w_bnd (we_pe h (w_bl rfl ?_))) fun ρ => e_ife c a b
  refine w_tb ?_
  cases p with
  | true =>
    simp only [if_true]
    refine fun ρ s l => ?_
    rcases h1 ρ s l with ⟨g, ρ', A', e, s', x, rfl, e2, hs⟩ | z
    · exact .inl ⟨_, ρ', A, e, hs _ s', x, e2, q x⟩
    · exact .inr z
  | false =>
    simp only [Bool.false_eq_true, if_false]
    refine fun ρ s l => ?_
    rcases h2 ρ s l with ⟨g, ρ', A', e, s', x, rfl, e2, hs⟩ | z
    · exact .inl ⟨_, ρ', A, e, hs _ s', x, e2, q x⟩
    · exact .inr z
/-! lists of expressions -/
theorem wl_nil {Q : List Res → Env → R β → Prop} (q : Q [] A m) : WL C A [] m Q := w_eq (w_pure q) fun ρ => l_nil
theorem wl_cons {es : List E} {Q : List Res → Env → R β → Prop} (h : WE C A a m fun r A1 m1 => (deep r && !pureL es) = false ∧ WL C A1 es m1 fun rs A2 m2 => Q (r :: rs) A2 m2) : WL C A (a :: es) m Q := by
  refine w_eq (w_bnd (w_imp h fun r A1 k => ?_)) fun ρ => l_cons a es
  obtain ⟨k1, k2⟩ := k
  simp only [k1, Bool.false_eq_true, if_false]
  exact w_bnd (w_imp k2 fun rs A2 q => w_pure q)
def KT (C : Cc) {β : Type} (rs : List Res) (A : Env) (m : R β) (Q : Res → Env → R β → Prop) : Prop := ∃ x : List D × Env, tkAll rs A = some x ∧ x.1.length ≤ sizeLine ∧ Q (.val (.tup (frzL x.1))) x.2 m
theorem w_tka {rs : List Res} {x : List D × Env} {γ : Type} {f : List D × Env → M γ} {Q : γ → Env → R β → Prop} (h : tkAll rs A = some x) (k : W C (fun ρ => f (x.1, ρ)) x.2 m Q) : W C (fun ρ => opt (tkAll rs ρ) f) A m Q := fun ρ s l => by
  obtain ⟨ρ', e, s'⟩ := tkAll_sat s h
  have e2 : (fun ρ => opt (tkAll rs ρ) f) ρ = f (x.1, ρ') := by
    show opt (tkAll rs ρ) f = _
    rw [e, opt_some]
  rw [e2]
  exact k ρ' s' l
theorem we_tup {es : List E} {Q : Res → Env → R β → Prop} (h : WL C A es m fun rs A1 m1 => ∃ x : List D × Env, tkAll rs A1 = some x ∧ x.1.length ≤ sizeLine ∧ Q (.val (.tup (frzL x.1))) x.2 m1) : WE C A (.tup es) m Q := by
  refine w_eq (w_bnd (w_imp h fun rs A1 k => ?_)) fun ρ => e_tup es
  obtain ⟨x, h1, h2, q⟩ := k
  refine w_tka h1 ?_
  simp only [h2, if_true]
  exact w_pure q
theorem we_lst {es : List E} {Q : Res → Env → R β → Prop} (h : WL C A es m fun rs A1 m1 => ∃ x : List D × Env, tkAll rs A1 = some x ∧ x.1.length ≤ sizeLine ∧ Q (.val (.lst .ow (frzL x.1))) x.2 m1) : WE C A (.lst false es) m Q := by
  refine w_eq (w_bnd (w_imp h fun rs A1 k => ?_)) fun ρ => e_lst es
  obtain ⟨x, h1, h2, q⟩ := k
  refine w_tka h1 ?_
  simp only [h2, if_true]
  exact w_pure q
/-! calls -/
structure CallOk (tr : Bool) (cf : CF) (io : List Bool) (f : Str) (as : List D) {α : Type} (m : R α) (ret : α → D) (fins : α → List D) : Prop where
  ok_ : ∀ a, m = ok a → ∃ fin, cf f as = some (.ret (ret a) fin) ∧ ioEq io fin (fins a)
  ex_ : tr = true → ∀ c d, m = some (.ex c d) → ∃ fin, cf f as = some (.ex c d fin) ∧ fin.length = as.length
def KC (C : Cc) {β : Type} (io : List Bool) (f : Str) (rs : List Res) (A : Env) (m : R β) (Q : Res → Env → R β → Prop) : Prop := W C (fun ρ => doCall C.cf io f rs ρ) A m Q
theorem we_call {f : Str} {io : List Bool} {es : List E} {Q : Res → Env → R β → Prop} (hio : C.ios f = io) (h : WL C A es m fun rs A1 m1 => KC C io f rs A1 m1 Q) : WE C A (.call f es) m Q := by
  subst hio
  exact w_eq (w_bnd (w_imp h fun rs A1 k => k)) fun ρ => e_call f es
/-- a call that raises nothing -/
theorem kc_t {α : Type} {io : List Bool} {f : Str} {rs : List Res} {as : List D} {mf : R α} {ret : α → D} {fins : α → List D} {z tr : Bool} {k : α → R β} {Q : Res → Env → R β → Prop} (c : CallOk tr C.cf io f as mf ret fins) (ha : argsOf A io rs = some as) (hp : apartOk io rs = true)
    (hl : ∀ a, (fins a).length = rs.length) (hz : ∀ a, (!((placesOf false io rs).isEmpty || (flat (ret a) && flatIo io (fins a)))) = z) (hx : C.tr = true → ∀ c d, mf ≠ some (.ex c d)) (q : ∀ a, Q (.val (ret a)) (backs z io rs (fins a) A) (k a)) : KC C io f rs A (tb mf k) Q := fun ρ s l => by
  rcases live_tb l with ⟨a, e⟩ | ⟨c2, d2, e, t⟩
  · obtain ⟨fin, e1, e2⟩ := c.ok_ a e
    have hfl : fin.length = rs.length := by rw [ioEq_len e2, hl a]
    refine .inl ⟨.val (ret a), backs z io rs fin ρ, backs z io rs (fins a) A, ?_, backs_sat s e2, by rw [e, tb_ok]; exact q a⟩
    show doCall C.cf io f rs ρ = _
    unfold doCall
    rw [args_sat s ha, opt_some, if_pos hp, e1, opt_some]
    simp only [hfl, if_true]
    rw [ioEq_flat e2, hz a]
  · exact (hx t _ _ e).elim
/-! methods of lists -/
def KM (C : Cc) {β : Type} (mm : Mu) (i : Nat) (rs : List Res) (A : Env) (m : R β) (Q : Res → Env → R β → Prop) : Prop := live C m → ∃ xs A2 d y, tkAll rs A = some (xs, A2) ∧ gt A2 i = some d ∧ muD mm d xs = some y ∧ Q (.val y.1) (A2.set i (some y.2)) m
theorem we_mu {mm : Mu} {i : Nat} {ds : List D} {es : List E} {Q : Res → Env → R β → Prop} (h0 : gt A i = some (.lst .ow ds)) (h : WL C A es m fun rs A1 m1 => KM C mm i rs A1 m1 Q) : WE C A (.mu mm (.v i) es) m Q := by
  refine w_live fun l => ?_
  intro ρ s l
  have e0 : runE C.cf C.ios (.mu mm (.v i) es) ρ = bnd (runL C.cf C.ios es ρ) fun rs ρ2 => opt (tkAll rs ρ2) fun x => opt (gt x.2 i) fun d => opt (muD mm d x.1) fun y => (some (.ok (.val y.1) (x.2.set i (some y.2))) : M Res) := by
    rw [runE, e_v, s.at_ i _ h0, opt_some, fz_ow]
    simp only [Bool.false_eq_true, if_false, bnd_ok, rd_at, s.at_ i _ h0, isLst, if_true]
  rw [e0]
  refine w_bnd (run := runL C.cf C.ios es) (f := fun rs ρ2 => opt (tkAll rs ρ2) fun x => opt (gt x.2 i) fun d => opt (muD mm d x.1) fun y => (some (.ok (.val y.1) (x.2.set i (some y.2))) : M Res)) (w_imp h fun rs A1 k => ?_) ρ s l
  obtain ⟨xs, A2, d, y, h1, h2, h3, q⟩ := k l
  refine w_tka h1 ?_
  refine fun ρ s _ => ?_
  have e1 : gt ρ i = some d := s.at_ i d h2
  refine .inl ⟨.val y.1, ρ.set i (some y.2), A2.set i (some y.2), ?_, s.set i _, q⟩
  show opt (gt ρ i) _ = _
  rw [e1, opt_some]
  show opt (muD mm d xs) _ = _
  rw [h3, opt_some]
theorem km_app {α : Type} {i : Nat} {rs : List Res} {A2 : Env} {xs : List α} {x : α} {E : α → D} {dx : D} {k : List α → R β} {Q : Res → Env → R β → Prop} (h1 : tkAll rs A = some ([dx], A2)) (hx : frz dx = E x) (h2 : gt A2 i = some (.lst .ow (xs.map E))) (q : ∀ ys, Q (.val .non) (A2.set i (some (.lst .ow (ys.map E)))) (k ys)) :
    KM C .append i rs A (tb (appT xs x) k) Q := fun l => by
  rcases live_tb l with ⟨ys, e⟩ | ⟨c2, d2, e, t⟩
  · have e' := e
    unfold appT at e
    split at e
    · rename_i hz
      have e := some_ok e
      refine ⟨[dx], A2, _, (.non, .lst .ow (ys.map E)), h1, h2, ?_, ?_⟩
      · simp only [muD, List.length_map, hz, if_true, hx, ← e, List.map_append, List.map_cons, List.map_nil]
      · rw [e', tb_ok]
        exact q ys
    · cases e
  · unfold appT at e
    split at e <;> simp [ok] at e
theorem km_pop {α : Type} {i : Nat} {rs : List Res} {A2 : Env} {xs : List α} {E : α → D} {k : α × List α → R β} {Q : Res → Env → R β → Prop} (h1 : tkAll rs A = some ([], A2)) (h2 : gt A2 i = some (.lst .ow (xs.map E))) (q : ∀ p : α × List α, Q (.val (E p.1)) (A2.set i (some (.lst .ow (p.2.map E)))) (k p)) :
    KM C .pop i rs A (tb (popT xs) k) Q := fun l => by
  rcases live_tb l with ⟨p, e⟩ | ⟨c2, d2, e, t⟩
  · have e' := e
    unfold popT at e
    split at e
    · rename_i x hx
      have e := some_ok e
      subst e
      refine ⟨[], A2, _, (E x, .lst .ow (xs.dropLast.map E)), h1, h2, ?_, ?_⟩
      · simp only [muD, List.length_map, List.getElem?_map, hx, Option.map_some, List.map_dropLast]
      · rw [e', tb_ok]
        exact q (x, xs.dropLast)
    · cases e
  · unfold popT at e
    split at e <;> simp [ok] at e
theorem km_rev {α : Type} {i : Nat} {rs : List Res} {A2 : Env} {xs : List α} {E : α → D} {Q : Res → Env → R β → Prop} (h1 : tkAll rs A = some ([], A2)) (h2 : gt A2 i = some (.lst .ow (xs.map E))) (q : Q (.val .non) (A2.set i (some (.lst .ow (xs.reverse.map E)))) m) :
    KM C .reverse i rs A m Q := fun l => ⟨[], A2, _, (.non, .lst .ow (xs.reverse.map E)), h1, h2, by simp [muD], q⟩
theorem km_ext {α : Type} {i : Nat} {rs : List Res} {A2 : Env} {xs ys : List α} {E : α → D} {k : List α → R β} {Q : Res → Env → R β → Prop} (h1 : tkAll rs A = some ([.lst .ow (ys.map E)], A2)) (h2 : gt A2 i = some (.lst .ow (xs.map E))) (q : ∀ zs, Q (.val .non) (A2.set i (some (.lst .ow (zs.map E)))) (k zs)) :
    KM C .extend i rs A (tb (extT xs ys) k) Q := fun l => by
  rcases live_tb l with ⟨zs, e⟩ | ⟨c2, d2, e, t⟩
  · have e' := e
    unfold extT at e
    split at e
    · rename_i hz
      have e := some_ok e
      refine ⟨_, A2, _, (.non, .lst .ow (zs.map E)), h1, h2, ?_, ?_⟩
      · simp only [muD, List.length_map, hz, if_true, ← e, List.map_append]
      · rw [e', tb_ok]
        exact q zs
    · cases e
  · unfold extT at e
    split at e <;> simp [ok] at e
end
end Cov.Sm

/-! Sim3: statements, loops, comprehensions, defs. -/
namespace Cov.Sm
open PySem
section
variable {C : Cc} {β : Type} {A : Env} {m : R β} {a b c e : E} {d d' e' : D}
/-! ### what is walked -/
theorem wi_r1 {Q : Wlk → Env → R β → Prop} (h : WE C A a m fun r A1 m1 => ∃ j k, rd r A1 = some (.int j) ∧ m1 = tb (rngT 0 j) k ∧ ∀ xs : List Int, Q (xs.map .int, none) A1 (k xs)) : WI C A (.r1 a) m Q := by
  refine w_eq (w_bnd (w_imp h fun r A1 k => ?_)) fun ρ => it_r1 a
  obtain ⟨j, k, h1, rfl, q⟩ := k
  refine fun ρ s l => ?_
  rcases live_tb l with ⟨xs, e⟩ | ⟨c2, d2, e, t⟩
  · have e' := e
    unfold rngT at e
    split at e
    · rename_i hz
      have e := some_ok e
      simp only [Bool.and_eq_true] at hz
      refine .inl ⟨_, ρ, A1, ?_, s, by rw [e', tb_ok]; exact q xs⟩
      show rngM (rd r ρ) ρ = _
      rw [rd_sat s h1, rngM_ok hz.2, ranged_I, e]
    · cases e
  · unfold rngT at e
    split at e <;> simp [ok] at e
theorem wi_r2 {Q : Wlk → Env → R β → Prop} (h : WE C A a m fun r A1 m1 => deep r = false ∧ WE C A1 b m1 fun r' A2 m2 => ∃ i j k, rd r A2 = some (.int i) ∧ rd r' A2 = some (.int j) ∧ m2 = tb (rngT i j) k ∧ ∀ xs : List Int, Q (xs.map .int, none) A2 (k xs)) : WI C A (.r2 a b) m Q := by
  have eq : ∀ ρ, runIt C.cf C.ios (.r2 a b) ρ = bnd (runE C.cf C.ios a ρ) fun r ρ1 => if deep r then none else bnd (runE C.cf C.ios b ρ1) fun r' ρ2 => (match rd r ρ2, rd r' ρ2 with
    | some (.int i), some (.int j) => if rngOk i && rngOk j then some (.ok (ranged i j, none) ρ2) else none
    | _, _ => none : M Wlk) := fun ρ => by rw [runIt] <;> rfl
  refine w_eq (w_bnd (w_imp h fun r A1 k => ?_)) eq
  obtain ⟨k1, k2⟩ := k
  simp only [k1, Bool.false_eq_true, if_false]
  refine w_bnd (w_imp k2 fun r' A2 k => ?_)
  obtain ⟨i, j, k, h1, h2, rfl, q⟩ := k
  refine fun ρ s l => ?_
  rcases live_tb l with ⟨xs, e⟩ | ⟨c2, d2, e, t⟩
  · have e' := e
    unfold rngT at e
    split at e
    · rename_i hz
      have e := some_ok e
      refine .inl ⟨_, ρ, A2, ?_, s, by rw [e', tb_ok]; exact q xs⟩
      show (match rd r ρ, rd r' ρ with
        | some (.int i), some (.int j) => if rngOk i && rngOk j then some (.ok (ranged i j, none) ρ) else none
        | _, _ => none : M Wlk) = _
      rw [rd_sat s h1, rd_sat s h2]
      show (if rngOk i && rngOk j then some (.ok (ranged i j, none) ρ) else none : M Wlk) = _
      rw [if_pos hz, ranged_I, e]
    · cases e
  · unfold rngT at e
    split at e <;> simp [ok] at e
theorem wi_ex {Q : Wlk → Env → R β → Prop} (h : WE C A a m fun r A1 m1 => ∃ w A2, walkRes r A1 = some (.ok w A2) ∧ Q w A2 m1) : WI C A (.ex a) m Q := by
  refine w_eq (w_bnd (w_imp h fun r A1 k => ?_)) fun ρ => it_ex a
  obtain ⟨w, A2, h1, q⟩ := k
  refine fun ρ s l => ?_
  obtain ⟨ρ', e, s'⟩ := walk_sat s h1
  exact .inl ⟨w, ρ', A2, e, s', q⟩
/-! ### statements -/
theorem w1_set {i : Nat} {Q : Fl → Env → R β → Prop} (h : WE C A e m fun r A1 m1 => ∃ d A2, tk r A1 = some (d, A2) ∧ Q .nx (A2.set i (some d)) m1) : W1 C A (.set i e) m Q := by
  refine w_eq (w_bnd (w_imp h fun r A1 k => ?_)) fun ρ => s_set i e
  obtain ⟨d, A2, h1, q⟩ := k
  refine fun ρ s l => ?_
  obtain ⟨ρ', e2, s'⟩ := tk_sat s h1
  refine .inl ⟨.nx, ρ'.set i (some d), A2.set i (some d), ?_, s'.set i _, q⟩
  show opt (tk r ρ) _ = _
  rw [e2, opt_some]
theorem w1_ex {Q : Fl → Env → R β → Prop} (h : WE C A e m fun _ A1 m1 => Q .nx A1 m1) : W1 C A (.ex e) m Q :=
  w_eq (w_bnd (w_imp h fun r A1 q => w_pure q)) fun ρ => s_ex e
theorem w1_unp {t : Tg} {Q : Fl → Env → R β → Prop} (h : WE C A e m fun r A1 m1 => ∃ d A2, rd r A1 = some d ∧ bindTg t d A1 = some A2 ∧ Q .nx A2 m1) : W1 C A (.unp t e) m Q := by
  have eq : ∀ ρ, runS C.cf C.ios C.io (.unp t e) ρ = bnd (runE C.cf C.ios e ρ) fun r ρ1 => opt (rd r ρ1) fun d => opt (bindTg t d ρ1) fun ρ2 => some (.ok .nx ρ2) := fun ρ => by rw [runS]
  refine w_eq (w_bnd (w_imp h fun r A1 k => ?_)) eq
  obtain ⟨d, A2, h1, h2, q⟩ := k
  refine fun ρ s l => ?_
  obtain ⟨ρ', e2, s'⟩ := tg_sat s h2
  refine .inl ⟨.nx, ρ', A2, ?_, s', q⟩
  show opt (rd r ρ) _ = _
  rw [rd_sat s h1, opt_some, e2, opt_some]
def putM (i : Nat) (o : Option D) (x : D) (ρ3 : Env) : M Fl := match o with
  | some (.int k) => if isFz x then opt (gt ρ3 i) fun d => (match d with
        | .lst .ow ds => opt (L2.ixN ds.length k) fun q => some (.ok .nx (ρ3.set i (some (.lst .ow (ds.set q x)))))
        | _ => none) else none
  | _ => none
/-- xs[j] = e -/
theorem w1_setIx {α : Type} {i : Nat} {j : E} {Q : Fl → Env → R β → Prop} (hj : pureE j = true) (h : WE C A e m fun r A1 m1 => ∃ (y : α) (E : α → D) (A2 : Env) (ds : List D), tk r A1 = some (E y, A2) ∧ isFz (E y) = true ∧ gt A2 i = some (.lst .ow ds) ∧ WE C A2 j m1 fun rj A3 m2 => ∃ (k : Int) (xs : List α) (c : List α → R β), rd rj A3 = some (.int k) ∧ gt A3 i = some (.lst .ow (xs.map E)) ∧ m2 = tb (putT xs k y) c ∧
    ∀ ys, Q .nx (A3.set i (some (.lst .ow (ys.map E)))) (c ys)) : W1 C A (.setIx (.v i) j e) m Q := by
  have eq : ∀ ρ, runS C.cf C.ios C.io (.setIx (.v i) j e) ρ = bnd (runE C.cf C.ios e ρ) fun r ρ1 => opt (tk r ρ1) fun x => bnd (runE C.cf C.ios (.v i) x.2) fun rb ρ2 => bnd (runE C.cf C.ios j ρ2) fun rj ρ3 => (match rb, rd rj ρ3 with
    | .at i [], some (.int k) => if isFz x.1 then opt (gt ρ3 i) fun d => (match d with
        | .lst .ow ds => opt (L2.ixN ds.length k) fun q => some (.ok .nx (ρ3.set i (some (.lst .ow (ds.set q x.1)))))
        | _ => none) else none
    | _, _ => none : M Fl) := fun ρ => by
    rw [runS]
    simp only [hj, Bool.not_true, Bool.false_eq_true, if_false] <;> rfl
  refine w_eq (w_bnd (w_imp h fun r A1 k => ?_)) eq
  obtain ⟨y, E, A2, ds, h1, hf, h0, h2⟩ := k
  refine fun ρ s l => ?_
  obtain ⟨ρ', e2, s'⟩ := tk_sat s h1
  have e3 : runE C.cf C.ios (.v i) ρ' = some (.ok (.at i []) ρ') := by
    rw [e_v, s'.at_ i _ h0, opt_some, fz_ow]; rfl
  have key : W C (fun ρ2 => bnd (runE C.cf C.ios j ρ2) fun rj ρ3 => putM i (rd rj ρ3) (E y) ρ3) A2 m Q := by
    refine w_bnd (w_imp h2 fun rj A3 z => ?_)
    obtain ⟨k, xs, c, k1, k2, rfl, q⟩ := z
    refine fun ρ s l => ?_
    rcases live_tb l with ⟨ys, e⟩ | ⟨c2, d2, e, t⟩
    · have e' := e
      unfold putT at e
      split at e
      · rename_i p hp
        have e := some_ok e
        refine .inl ⟨.nx, ρ.set i (some (.lst .ow (ys.map E))), _, ?_, s.set i _, by rw [e', tb_ok]; exact q ys⟩
        show putM i (rd rj ρ) (E y) ρ = _
        rw [rd_sat s k1]
        simp only [putM, hf, if_true, s.at_ i _ k2, opt_some, List.length_map, hp, ← e, List.map_set]
      · cases e
    · unfold putT at e
      split at e <;> simp [ok] at e
  have e4 : (fun ρ => opt (tk r ρ) fun x => bnd (runE C.cf C.ios (.v i) x.2) fun rb ρ2 => bnd (runE C.cf C.ios j ρ2) fun rj ρ3 => (match rb, rd rj ρ3 with
    | .at i [], some (.int k) => if isFz x.1 then opt (gt ρ3 i) fun d => (match d with
        | .lst .ow ds => opt (L2.ixN ds.length k) fun q => some (.ok .nx (ρ3.set i (some (.lst .ow (ds.set q x.1)))))
        | _ => none) else none
    | _, _ => none : M Fl)) ρ = (fun ρ2 => bnd (runE C.cf C.ios j ρ2) fun rj ρ3 => putM i (rd rj ρ3) (E y) ρ3) ρ' := by
    show opt (tk r ρ) _ = _
    rw [e2, opt_some, e3, bnd_ok]
    refine congrArg (bnd (runE C.cf C.ios j ρ')) (funext fun rj => funext fun ρ3 => ?_)
    cases rd rj ρ3 with
    | none => rfl
    | some d => cases d <;> rfl
  rw [e4]
  exact key ρ' s' l
theorem w1_ret {Q : Fl → Env → R β → Prop} (h : WE C A e m fun r A1 m1 => ∃ d A2, retR C.io r A1 = some (d, A2) ∧ Q (.rt d) A2 m1) : W1 C A (.ret e) m Q := by
  refine w_eq (w_bnd (w_imp h fun r A1 k => ?_)) fun ρ => s_ret e
  obtain ⟨d, A2, h1, q⟩ := k
  have sat : ∀ ρ, Sat A1 ρ → ∃ ρ', retR C.io r ρ = some (d, ρ') ∧ Sat A2 ρ' := fun ρ s => by
    unfold retR at h1 ⊢
    split
    · rename_i i
      simp only at h1
      split at h1
      · rename_i hb
        obtain ⟨ρ', e2, s'⟩ := tk_sat s h1
        exact ⟨ρ', by rw [if_pos hb]; exact e2, s'⟩
      · rename_i hb
        rw [if_neg hb]
        cases e : gt A1 i with
        | none => rw [e] at h1; cases h1
        | some x =>
          rw [e] at h1
          simp only [Option.map_some, Option.some.injEq, Prod.mk.injEq] at h1
          obtain ⟨rfl, rfl⟩ := h1
          exact ⟨ρ.set i none, by rw [s.at_ i x e]; rfl, s.set i none⟩
    · rename_i hh
      split at h1
      · exact (hh _ rfl).elim
      · exact tk_sat s h1
  refine fun ρ s l => ?_
  obtain ⟨ρ', e2, s'⟩ := sat ρ s
  refine .inl ⟨.rt d, ρ', A2, ?_, s', q⟩
  show opt (retR C.io r ρ) _ = _
  rw [e2, opt_some]
theorem w1_brk {Q : Fl → Env → R β → Prop} (q : Q .bk A m) : W1 C A .brk m Q := w_eq (w_pure q) fun ρ => by rw [runS]
theorem w1_cnt {Q : Fl → Env → R β → Prop} (q : Q .ct A m) : W1 C A .cnt m Q := w_eq (w_pure q) fun ρ => by rw [runS]
theorem w1_pas {Q : Fl → Env → R β → Prop} (q : Q .nx A m) : W1 C A .pas m Q := w_eq (w_pure q) fun ρ => by rw [runS]
theorem w1_aug {i : Nat} {o : O2} {x : Int} {Q : Fl → Env → R β → Prop} (h0 : gt A i = some (.int x)) (h : WE C A e m fun r A1 m1 => ∃ y z, rd r A1 = some (.int y) ∧ augF o x y = some z ∧ Q .nx (A1.set i (some (.int z))) m1) : W1 C A (.aug i o e) m Q := by
  have eq : ∀ ρ, Sat A ρ → runS C.cf C.ios C.io (.aug i o e) ρ = bnd (runE C.cf C.ios e ρ) fun r ρ1 => match rd r ρ1 with
      | some (.int y) => opt (augF o x y) fun z => some (.ok .nx (ρ1.set i (some (.int z))))
      | _ => none := fun ρ s => by
    rw [runS, s.at_ i _ h0, opt_some] <;> rfl
  refine fun ρ s l => ?_
  rw [eq ρ s]
  refine w_bnd (run := runE C.cf C.ios e) (f := fun r ρ1 => (match rd r ρ1 with
      | some (.int y) => opt (augF o x y) fun z => some (.ok .nx (ρ1.set i (some (.int z))))
      | _ => none : M Fl)) (w_imp h fun r A1 k => ?_) ρ s l
  refine fun ρ s l => ?_
  obtain ⟨y, z, h1, h2, q⟩ := k
  refine .inl ⟨.nx, ρ.set i (some (.int z)), _, ?_, s.set i _, q⟩
  show (match rd r ρ with | some (.int y) => _ | _ => _) = _
  rw [rd_sat s h1]
  simp only [h2, opt_some]
/-! tests -/
def KIte (C : Cc) {β : Type} (p : Bool) (a b : List S) (A : Env) (m : R β) (Q : Fl → Env → R β → Prop) : Prop := W C (fun ρ => if p then runSs C.cf C.ios C.io a ρ else runSs C.cf C.ios C.io b ρ) A m Q
theorem w1_ite {s1 s2 : List S} {Q : Fl → Env → R β → Prop} (h : WE C A c m fun r A1 m1 => ∃ p, rd r A1 = some (.bl p) ∧ KIte C p s1 s2 A1 m1 Q) : W1 C A (.ite c s1 s2) m Q := by
  refine w_eq (w_bnd (w_imp h fun r A1 k => ?_)) fun ρ => s_ite c s1 s2
  obtain ⟨p, h1, q⟩ := k
  refine fun ρ s l => ?_
  have e2 : (fun ρ => ifM (rd r ρ) (runSs C.cf C.ios C.io s1 ρ) (runSs C.cf C.ios C.io s2 ρ)) ρ = (fun ρ => if p then runSs C.cf C.ios C.io s1 ρ else runSs C.cf C.ios C.io s2 ρ) ρ := by
    show ifM (rd r ρ) _ _ = _
    rw [rd_sat s h1, ifM_b]
  rw [e2]
  exact q ρ s l
theorem ki_c {p : Bool} {s1 s2 : List S} {ma mb : R β} {Q : Fl → Env → R β → Prop} (h1 : WS C A s1 ma Q) (h2 : WS C A s2 mb Q) : KIte C p s1 s2 A (if p then ma else mb) Q := by
  cases p with
  | true => exact h1
  | false => exact h2
theorem ki_j {σ : Type} {p : Bool} {s1 s2 : List S} {ma mb : R σ} {k : σ → R β} {Q : Fl → Env → R β → Prop} (AJ : σ → Env) (h1 : WS C A s1 ma fun fl A' m' => ∃ s, fl = .nx ∧ m' = ok s ∧ Sub A' (AJ s)) (h2 : WS C A s2 mb fun fl A' m' => ∃ s, fl = .nx ∧ m' = ok s ∧ Sub A' (AJ s)) (q : ∀ s, Q .nx (AJ s) (k s)) : KIte C p s1 s2 A (tb (if p then ma else mb) k) Q := by
  refine w_tb ?_
  have go : ∀ {ss : List S} {mm : R σ}, (WS C A ss mm fun fl A' m' => ∃ s, fl = .nx ∧ m' = ok s ∧ Sub A' (AJ s)) → W C (runSs C.cf C.ios C.io ss) A mm fun g A' o' => ∃ a, o' = ok a ∧ Q g A' (k a) := fun {ss mm} h ρ s l => by
    rcases h ρ s l with ⟨g, ρ', A', e, s', x, rfl, e2, hs⟩ | z
    · exact .inl ⟨_, ρ', AJ x, e, hs _ s', x, e2, q x⟩
    · exact .inr z
  cases p with
  | true => exact go h1
  | false => exact go h2
/-! sequences -/
def KS (C : Cc) {β : Type} (fl : Fl) (ss : List S) (A : Env) (m : R β) (Q : Fl → Env → R β → Prop) : Prop := match fl with
  | .nx => WS C A ss m Q
  | fl => Q fl A m
theorem ws_nil {Q : Fl → Env → R β → Prop} (q : Q .nx A m) : WS C A [] m Q := w_eq (w_pure q) fun ρ => ss_nil
theorem ws_cons {s : S} {ss : List S} {Q : Fl → Env → R β → Prop} (h : W1 C A s m fun fl A1 m1 => KS C fl ss A1 m1 Q) : WS C A (s :: ss) m Q := by
  refine w_eq (w_bnd (w_imp h fun fl A1 k => ?_)) fun ρ => ss_cons s ss
  cases fl with
  | nx => exact k
  | bk => exact w_pure k
  | ct => exact w_pure k
  | rt d => exact w_pure k
theorem ks_n {ss : List S} {Q : Fl → Env → R β → Prop} (h : WS C A ss m Q) : KS C .nx ss A m Q := h
theorem ks_r {ss : List S} {d : D} {Q : Fl → Env → R β → Prop} (h : Q (.rt d) A m) : KS C (.rt d) ss A m Q := h
theorem ks_b {ss : List S} {Q : Fl → Env → R β → Prop} (h : Q .bk A m) : KS C .bk ss A m Q := h
theorem ks_c {ss : List S} {Q : Fl → Env → R β → Prop} (h : Q .ct A m) : KS C .ct ss A m Q := h
/-! loops -/
def KFor (C : Cc) {β : Type} (t : Tg) (b : List S) (w : Wlk) (A : Env) (m : R β) (Q : Fl → Env → R β → Prop) : Prop := W C (fun ρ1 => if w.2.any (fun x => (tgS t ++ asgL b).contains x.1) then none else
    endM (forL w (fun x ρa => opt (bindTg t x ρa) fun ρb => runSs C.cf C.ios C.io b ρb) w.1 ρ1) w.2) A m Q
theorem w1_for {t : Tg} {it : It} {b : List S} {Q : Fl → Env → R β → Prop} (h : WI C A it m fun w A1 m1 => KFor C t b w A1 m1 Q) : W1 C A (.for_ t it b) m Q :=
  w_eq (w_bnd (w_imp h fun w A1 k => k)) fun ρ => s_for t it b
/-- the context within a loop: what leaves it unlocks -/
def inL (C : Cc) (w : Option (Nat × Bool)) : Cc := { C with x := fun ρ => ∃ ρ3, unlk ρ w = some ρ3 ∧ C.x ρ3 }
/-- the body's turns -/
def FB (C : Cc) {α σ γ : Type} (t : Tg) (b : List S) (w : Option (Nat × Bool)) (E : α → D) (AL : σ → Env) (f : α → σ → R γ) (Q : Fl → Env → R γ → Prop) : Prop :=
  ∀ x s, ∃ Ab, bindTg t (E x) (AL s) = some Ab ∧ WS (inL C w) Ab b (f x s) Q
theorem forL_fold {α σ : Type} {t : Tg} {b : List S} {w : Wlk} {E : α → D} {AL : σ → Env} {f : α → σ → R σ} (hk : ∀ s, lkOk w (AL s) = true) (hb : FB C t b w.2 E AL f fun fl A' m' => ∃ s', (fl = .nx ∨ fl = .ct) ∧ m' = ok s' ∧ Sub A' (AL s')) :
    ∀ (xs : List α) (s : σ) (ρ : Env), Sat (AL s) ρ → live C (foldT f xs s) →
      (∃ ρ' s', forL w (fun x ρa => opt (bindTg t x ρa) fun ρb => runSs C.cf C.ios C.io b ρb) (xs.map E) ρ = some (.ok .nx ρ') ∧ foldT f xs s = ok s' ∧ Sat (AL s') ρ') ∨
      (∃ c d ρ', forL w (fun x ρa => opt (bindTg t x ρa) fun ρb => runSs C.cf C.ios C.io b ρb) (xs.map E) ρ = some (.ex c d ρ') ∧ foldT f xs s = some (.ex c d) ∧ (inL C w.2).x ρ')
  | [], s, ρ, st, l => .inl ⟨ρ, s, by simp only [List.map_nil, forL, lk_sat st (hk s), if_true], rfl, st⟩
  | x :: xs, s, ρ, st, l => by
    obtain ⟨Ab, h1, h2⟩ := hb x s
    obtain ⟨ρb, e1, s1⟩ := tg_sat st h1
    have unf : forL w (fun x ρa => opt (bindTg t x ρa) fun ρb => runSs C.cf C.ios C.io b ρb) ((x :: xs).map E) ρ = bnd (runSs C.cf C.ios C.io b ρb) fun f ρ1 => match f with
        | .bk => some (.ok .nx ρ1)
        | .rt d => some (.ok (.rt d) ρ1)
        | _ => forL w (fun x ρa => opt (bindTg t x ρa) fun ρb => runSs C.cf C.ios C.io b ρb) (xs.map E) ρ1 := by
      simp only [List.map_cons, forL, lk_sat st (hk s), if_true, e1, opt_some]
      try rfl
    rw [unf]
    have l' : live C (f x s) := live_l (k := fun s' => foldT f xs s') l
    rcases h2 ρb s1 l' with ⟨fl, ρ2, A2, e2, s2, s', hfl, e3, hs⟩ | ⟨c2, d2, ρ2, e2, e3, x2⟩
    · have e2 : runSs C.cf C.ios C.io b ρb = some (.ok fl ρ2) := e2
      have step : foldT f (x :: xs) s = foldT f xs s' := by simp only [foldT, e3, tb_ok]
      rw [step] at l ⊢
      rw [e2, bnd_ok]
      rcases hfl with rfl | rfl <;> exact forL_fold hk hb xs s' ρ2 (hs _ s2) l
    · have e2 : runSs C.cf C.ios C.io b ρb = some (.ex c2 d2 ρ2) := e2
      refine .inr ⟨c2, d2, ρ2, by rw [e2, bnd_ex], ?_, x2⟩
      simp only [foldT, e3]
      rfl
theorem kf_fold {α σ : Type} {t : Tg} {b : List S} {w : Wlk} {E : α → D} {xs : List α} {f : α → σ → R σ} {s0 : σ} {k : σ → R β} {Q : Fl → Env → R β → Prop} (AL : σ → Env) (hw : w.1 = xs.map E) (hn : w.2.any (fun x => (tgS t ++ asgL b).contains x.1) = false) (h0 : Sub A (AL s0)) (hk : ∀ s, lkOk w (AL s) = true)
    (hb : FB C t b w.2 E AL f fun fl A' m' => ∃ s', (fl = .nx ∨ fl = .ct) ∧ m' = ok s' ∧ Sub A' (AL s')) (q : ∀ s, ∃ A3, unlk (AL s) w.2 = some A3 ∧ Q .nx A3 (k s)) : KFor C t b w A (tb (foldT f xs s0) k) Q := fun ρ s l => by
  simp only [hn, Bool.false_eq_true, if_false, hw]
  rcases forL_fold hk hb xs s0 ρ (h0 _ s) (live_l l) with ⟨ρ', s', e1, e2, s2⟩ | ⟨c, d, ρ', e1, e2, ρ3, e3, x⟩
  · obtain ⟨A3, h3, q3⟩ := q s'
    obtain ⟨ρ3, e3, s3⟩ := unlk_sat s2 h3
    refine .inl ⟨.nx, ρ3, A3, ?_, s3, by rw [e2, tb_ok]; exact q3⟩
    rw [e1]
    simp only [endM, e3, opt_some]
  · refine .inr ⟨c, d, ρ3, ?_, by rw [e2]; rfl, x⟩
    rw [e1]
    simp only [endM, e3, opt_some]
theorem forL_for {α σ γ : Type} {t : Tg} {b : List S} {w : Wlk} {E : α → D} {AL : σ → Env} {AR : γ → Env} {rv : γ → D} {f : α → σ → R (Stp σ γ)} (hk : ∀ s, lkOk w (AL s) = true) (hb : FB C t b w.2 E AL f fun fl A' m' => match fl with
      | .rt d => ∃ g, m' = ok (.rt g) ∧ d = rv g ∧ Sub A' (AR g)
      | .bk => ∃ s', m' = ok (.bk s') ∧ Sub A' (AL s')
      | _ => ∃ s', m' = ok (.nx s') ∧ Sub A' (AL s')) :
    ∀ (xs : List α) (s : σ) (ρ : Env), Sat (AL s) ρ → live C (forT f xs s) →
      (∃ ρ' s', forL w (fun x ρa => opt (bindTg t x ρa) fun ρb => runSs C.cf C.ios C.io b ρb) (xs.map E) ρ = some (.ok .nx ρ') ∧ (forT f xs s = ok (.nx s') ∨ forT f xs s = ok (.bk s')) ∧ Sat (AL s') ρ') ∨
      (∃ ρ' g, forL w (fun x ρa => opt (bindTg t x ρa) fun ρb => runSs C.cf C.ios C.io b ρb) (xs.map E) ρ = some (.ok (.rt (rv g)) ρ') ∧ forT f xs s = ok (.rt g) ∧ Sat (AR g) ρ') ∨
      (∃ c d ρ', forL w (fun x ρa => opt (bindTg t x ρa) fun ρb => runSs C.cf C.ios C.io b ρb) (xs.map E) ρ = some (.ex c d ρ') ∧ forT f xs s = some (.ex c d) ∧ (inL C w.2).x ρ')
  | [], s, ρ, st, l => .inl ⟨ρ, s, by simp only [List.map_nil, forL, lk_sat st (hk s), if_true], .inl rfl, st⟩
  | x :: xs, s, ρ, st, l => by
    obtain ⟨Ab, h1, h2⟩ := hb x s
    obtain ⟨ρb, e1, s1⟩ := tg_sat st h1
    have unf : forL w (fun x ρa => opt (bindTg t x ρa) fun ρb => runSs C.cf C.ios C.io b ρb) ((x :: xs).map E) ρ = bnd (runSs C.cf C.ios C.io b ρb) fun f ρ1 => match f with
        | .bk => some (.ok .nx ρ1)
        | .rt d => some (.ok (.rt d) ρ1)
        | _ => forL w (fun x ρa => opt (bindTg t x ρa) fun ρb => runSs C.cf C.ios C.io b ρb) (xs.map E) ρ1 := by
      simp only [List.map_cons, forL, lk_sat st (hk s), if_true, e1, opt_some]
      try rfl
    rw [unf]
    have l' : live C (f x s) := live_l (k := fun o => goS o fun s' => forT f xs s') l
    rcases h2 ρb s1 l' with ⟨fl, ρ2, A2, e2, s2, q⟩ | ⟨c2, d2, ρ2, e2, e3, x2⟩
    · have e2 : runSs C.cf C.ios C.io b ρb = some (.ok fl ρ2) := e2
      rw [e2, bnd_ok]
      cases fl with
      | nx =>
        obtain ⟨s', e3, hs⟩ := q
        have step : forT f (x :: xs) s = forT f xs s' := by simp only [forT, e3, tb_ok, goS_nx]
        rw [step] at l ⊢
        exact forL_for hk hb xs s' ρ2 (hs _ s2) l
      | ct =>
        obtain ⟨s', e3, hs⟩ := q
        have step : forT f (x :: xs) s = forT f xs s' := by simp only [forT, e3, tb_ok, goS_nx]
        rw [step] at l ⊢
        exact forL_for hk hb xs s' ρ2 (hs _ s2) l
      | bk =>
        obtain ⟨s', e3, hs⟩ := q
        exact .inl ⟨ρ2, s', rfl, .inr (by simp only [forT, e3, tb_ok, goS_bk]), hs _ s2⟩
      | rt d =>
        obtain ⟨g, e3, rfl, hs⟩ := q
        exact .inr (.inl ⟨ρ2, g, rfl, by simp only [forT, e3, tb_ok, goS_rt], hs _ s2⟩)
    · have e2 : runSs C.cf C.ios C.io b ρb = some (.ex c2 d2 ρ2) := e2
      refine .inr (.inr ⟨c2, d2, ρ2, by rw [e2, bnd_ex], ?_, x2⟩)
      simp only [forT, e3]
      rfl
/-- what a turn of a loop that may return leaves -/
def QF {σ γ : Type} (AL : σ → Env) (AR : γ → Env) (rv : γ → D) : Fl → Env → R (Stp σ γ) → Prop := fun fl A' m' => match fl with
      | .rt d => ∃ g, m' = ok (.rt g) ∧ d = rv g ∧ Sub A' (AR g)
      | .bk => ∃ s', m' = ok (.bk s') ∧ Sub A' (AL s')
      | _ => ∃ s', m' = ok (.nx s') ∧ Sub A' (AL s')
theorem kf_for {α σ γ : Type} {t : Tg} {b : List S} {w : Wlk} {E : α → D} {xs : List α} {f : α → σ → R (Stp σ γ)} {s0 : σ} {r : γ → R β} {k : σ → R β} {Q : Fl → Env → R β → Prop} (AL : σ → Env) (AR : γ → Env) (rv : γ → D) (hw : w.1 = xs.map E) (hn : w.2.any (fun x => (tgS t ++ asgL b).contains x.1) = false) (h0 : Sub A (AL s0)) (hk : ∀ s, lkOk w (AL s) = true)
    (hb : FB C t b w.2 E AL f (QF AL AR rv)) (qr : ∀ g, ∃ A3, unlk (AR g) w.2 = some A3 ∧ Q (.rt (rv g)) A3 (r g)) (q : ∀ s, ∃ A3, unlk (AL s) w.2 = some A3 ∧ Q .nx A3 (k s)) : KFor C t b w A (tb (forT f xs s0) fun o => outS o r k) Q := fun ρ s l => by
  simp only [hn, Bool.false_eq_true, if_false, hw]
  rcases forL_for hk hb xs s0 ρ (h0 _ s) (live_l l) with ⟨ρ', s', e1, e2, s2⟩ | ⟨ρ', g, e1, e2, s2⟩ | ⟨c, d, ρ', e1, e2, ρ3, e3, x⟩
  · obtain ⟨A3, h3, q3⟩ := q s'
    obtain ⟨ρ3, e3, s3⟩ := unlk_sat s2 h3
    refine .inl ⟨.nx, ρ3, A3, ?_, s3, ?_⟩
    · rw [e1]
      simp only [endM, e3, opt_some]
    · rcases e2 with e2 | e2 <;> (rw [e2, tb_ok]; exact q3)
  · obtain ⟨A3, h3, q3⟩ := qr g
    obtain ⟨ρ3, e3, s3⟩ := unlk_sat s2 h3
    refine .inl ⟨.rt (rv g), ρ3, A3, ?_, s3, by rw [e2, tb_ok]; exact q3⟩
    rw [e1]
    simp only [endM, e3, opt_some]
  · refine .inr ⟨c, d, ρ3, ?_, by rw [e2]; rfl, x⟩
    rw [e1]
    simp only [endM, e3, opt_some]
/-! comprehensions -/
def KCo (C : Cc) {β : Type} (ow : List Nat) (elt : E) (tg : Tg) (cond : Option E) (w : Wlk) (A : Env) (m : R β) (Q : Res → Env → R β → Prop) : Prop := W C (fun ρ1 => if w.2.any (fun x => ow.contains x.1) || (tgS tg).any (fun i => !ow.contains i) then none else
    compM (compL w ow (turnM C.cf C.ios elt tg cond) w.1 [] (wipeE ρ1 ow)) ρ1 ow w.2) A m Q
theorem we_comp {nst : Bool} {ow : List Nat} {elt : E} {tg : Tg} {it : It} {cond : Option E} {Q : Res → Env → R β → Prop} (h : WI C A it m fun w A1 m1 => KCo C ow elt tg cond w A1 m1 Q) : WE C A (.comp nst ow elt tg it cond) m Q :=
  w_eq (w_bnd (w_imp h fun w A1 k => k)) fun ρ => e_comp
/-- no exceptions leave a turn of a comprehension -/
def inC (C : Cc) : Cc := { C with tr := false }
def CB (C : Cc) {α σ γ : Type} (ow : List Nat) (elt : E) (tg : Tg) (cond : Option E) (E : α → D) (F : γ → D) (AL : σ → Env) (f : α → σ → R (Option γ × σ)) : Prop :=
  ∀ x s, W (inC C) (turnM C.cf C.ios elt tg cond (E x)) (AL s) (f x s) fun o A' m' => ∃ og s', m' = ok (og, s') ∧ o = og.map F ∧ Sub (wipeE A' ow) (AL s')
theorem compL_map {α σ γ : Type} {ow : List Nat} {elt : E} {tg : Tg} {cond : Option E} {w : Wlk} {E : α → D} {F : γ → D} {AL : σ → Env} {f : α → σ → R (Option γ × σ)} (hk : ∀ s, lkOk w (AL s) = true) (hb : CB C ow elt tg cond E F AL f) :
    ∀ (xs : List α) (acc : List γ) (s : σ) (ρ : Env) (p : List γ × σ), Sat (AL s) ρ → mapL f xs s = ok p → acc.length + xs.length ≤ sizeLine →
      ∃ ρ', compL w ow (turnM C.cf C.ios elt tg cond) (xs.map E) (acc.map F) ρ = some (.ok ((acc ++ p.1).map F) ρ') ∧ Sat (AL p.2) ρ'
  | [], acc, s, ρ, p, st, e, z => by
    simp only [mapL, ok_inj] at e
    subst e
    exact ⟨ρ, by simp only [List.map_nil, compL, lk_sat st (hk s), if_true, List.append_nil], st⟩
  | x :: xs, acc, s, ρ, p, st, e, z => by
    simp only [mapL] at e
    cases hf : f x s with
    | none => rw [hf] at e; cases e
    | some o => cases o with
      | ex c d => rw [hf] at e; cases e
      | ok y =>
        have hf : f x s = ok y := hf
        rw [hf, tb_ok] at e
        cases hm : mapL f xs y.2 with
        | none => rw [hm] at e; cases e
        | some o2 => cases o2 with
          | ex c d => rw [hm] at e; cases e
          | ok q =>
            have hm : mapL f xs y.2 = ok q := hm
            rw [hm, tb_ok, ok_inj] at e
            subst e
            simp only [List.length_cons] at z
            rcases hb x s ρ st (by rw [hf]; trivial) with ⟨o, ρ1, A1, e1, s1, og, s', e2, rfl, hs⟩ | ⟨c, d, ρ1, e1, e2, _⟩
            · rw [hf, ok_inj] at e2
              subst e2
              have sw := hs _ (wipe_sat s1 ow)
              cases og with
              | none =>
                obtain ⟨ρ', e3, s3⟩ := compL_map hk hb xs acc s' _ q sw hm (by omega)
                refine ⟨ρ', ?_, s3⟩
                simp only [List.map_cons, compL, lk_sat st (hk s), if_true, e1, Option.map_none]
                simpa using e3
              | some g =>
                obtain ⟨ρ', e3, s3⟩ := compL_map hk hb xs (acc ++ [g]) s' _ q sw hm (by simp only [List.length_append, List.length_singleton]; omega)
                refine ⟨ρ', ?_, s3⟩
                have hz : acc.length < sizeLine := by omega
                simp only [List.map_cons, compL, lk_sat st (hk s), if_true, e1, Option.map_some, List.length_map, hz]
                simpa using e3
            · rw [hf] at e2
              cases e2
theorem kco {α σ γ : Type} {ow : List Nat} {elt : E} {tg : Tg} {cond : Option E} {w : Wlk} {E : α → D} {xs : List α} {f : α → σ → R (Option γ × σ)} {s0 : σ} {k : List γ × σ → R β} {Q : Res → Env → R β → Prop} (F : γ → D) (AL : σ → Env) (hw : w.1 = xs.map E)
    (hn : (w.2.any (fun x => ow.contains x.1) || (tgS tg).any (fun i => !ow.contains i)) = false) (h0 : Sub (wipeE A ow) (AL s0)) (hk : ∀ s, lkOk w (AL s) = true) (hb : CB C ow elt tg cond E F AL f)
    (q : ∀ p : List γ × σ, ∃ A3, unlk (backE A (AL p.2) ow) w.2 = some A3 ∧ Q (.val (.lst .ow (p.1.map F))) A3 (k p)) : KCo C ow elt tg cond w A (tb (mapS f xs s0) k) Q := fun ρ s l => by
  simp only [hn, Bool.false_eq_true, if_false, hw]
  rcases live_tb l with ⟨p, e⟩ | ⟨c, d, e, t⟩
  · have e' := e
    unfold mapS at e
    have e := nx_eq e
    split at e
    · rename_i hz
      obtain ⟨ρ', e1, s1⟩ := compL_map hk hb xs [] s0 (wipeE ρ ow) p (h0 _ (wipe_sat s ow)) e (by simpa using hz)
      obtain ⟨A3, h3, q3⟩ := q p
      obtain ⟨ρ3, e3, s3⟩ := unlk_sat (back_sat s s1 ow) h3
      refine .inl ⟨_, ρ3, A3, ?_, s3, by rw [e', tb_ok]; exact q3⟩
      simp only [List.map_nil, List.nil_append] at e1
      rw [e1]
      simp only [compM, e3, opt_some]
    · cases e
  · exact (nx_ne e).elim
/-- a turn without a test -/
theorem tu_n {γ σ : Type} {elt : E} {tg : Tg} {x : D} {Ab : Env} {mm : R (Option γ × σ)} {Q : Option D → Env → R (Option γ × σ) → Prop} (h : bindTg tg x A = some Ab) (he : WE C Ab elt mm fun r A1 m1 => ∃ y A2, tk r A1 = some (y, A2) ∧ Q (some (frz y)) A2 m1) : W C (turnM C.cf C.ios elt tg none x) A mm Q := fun ρ s l => by
  obtain ⟨ρb, e1, s1⟩ := tg_sat s h
  rw [turn_none, e1, opt_some]
  refine w_bnd (w_imp he fun r A1 k => ?_) ρb s1 l
  obtain ⟨y, A2, h1, q⟩ := k
  refine fun ρ s l => ?_
  obtain ⟨ρ', e2, s'⟩ := tk_sat s h1
  refine .inl ⟨some (frz y), ρ', A2, ?_, s', q⟩
  show opt (tk r ρ) _ = _
  rw [e2, opt_some]
theorem tu_c {γ σ : Type} {elt : E} {tg : Tg} {x : D} {t : E} {Ab : Env} {mm : R (Option γ × σ)} {Q : Option D → Env → R (Option γ × σ) → Prop} (h : bindTg tg x A = some Ab)
    (he : WE C Ab t mm fun r A1 m1 => ∃ p m2 m3, rd r A1 = some (.bl p) ∧ m1 = (if p then m2 else m3) ∧ (WE C A1 elt m2 fun r A2 m' => ∃ y A3, tk r A2 = some (y, A3) ∧ Q (some (frz y)) A3 m') ∧ Q none A1 m3) : W C (turnM C.cf C.ios elt tg (some t) x) A mm Q := fun ρ s l => by
  obtain ⟨ρb, e1, s1⟩ := tg_sat s h
  unfold turnM
  rw [e1, opt_some]
  refine w_bnd (w_imp he fun r A1 k => ?_) ρb s1 l
  obtain ⟨p, m2, m3, h1, rfl, h2, h3⟩ := k
  refine fun ρ s l => ?_
  have e2 : (fun ρc => pickM (rd r ρc) (bnd (runE C.cf C.ios elt ρc) fun re ρd => opt (tk re ρd) fun y => some (Out.ok (some (frz y.1)) y.2)) (some (Out.ok none ρc))) ρ = if p then (bnd (runE C.cf C.ios elt ρ) fun re ρd => opt (tk re ρd) fun y => some (Out.ok (some (frz y.1)) y.2)) else (some (Out.ok none ρ)) := by
    show pickM (rd r ρ) _ _ = _
    rw [rd_sat s h1, pick_b]
  rw [e2]
  cases p with
  | true =>
    simp only [if_true] at l ⊢
    refine w_bnd (w_imp h2 fun r A1 k => ?_) ρ s l
    obtain ⟨y, A2, h1, q⟩ := k
    refine fun ρ s l => ?_
    obtain ⟨ρ', e2, s'⟩ := tk_sat s h1
    refine .inl ⟨some (frz y), ρ', A2, ?_, s', q⟩
    show opt (tk r ρ) _ = _
    rw [e2, opt_some]
  | false =>
    simp only [Bool.false_eq_true, if_false] at l ⊢
    exact .inl ⟨none, ρ, A1, rfl, s, h3⟩
end
/-! ### defs -/
theorem fin_sat {io : List Bool} {np : Nat} {A ρ : Env} (s : Sat A ρ) (h : finOk io np A = true) : finOk io np ρ = true := by
  unfold finOk at h ⊢
  rw [List.all_eq_true] at h ⊢
  intro k hk
  have := h k hk
  cases e : io.getD k false with
  | false => rfl
  | true =>
    rw [e] at this
    cases e2 : gt A k with
    | none => rw [e2] at this; cases this
    | some d => rw [s.at_ k d e2]; rfl
theorem ioEq_mk : ∀ {io : List Bool} {fs gs : List D}, fs.length = gs.length → (∀ k, io.getD k false = true → fs[k]? = gs[k]?) → ioEq io fs gs
  | io, [], [], _, _ => by unfold ioEq; trivial
  | io, f :: fs, g :: gs, hl, h => by
    unfold ioEq
    refine ⟨fun e => ?_, ioEq_mk (by simpa using hl) fun k hk => ?_⟩
    · have := h 0 (by cases io <;> simpa using e)
      simpa using this
    · have := h (k + 1) (by
        cases io with
        | nil => simp at hk
        | cons b io => simpa using hk)
      simpa using this
  | io, [], _ :: _, hl, _ => by simp at hl
  | io, _ :: _, [], hl, _ => by simp at hl
theorem fins_io {io : List Bool} {np : Nat} {A ρ : Env} (s : Sat A ρ) (h : finOk io np A = true) : ioEq io (fins np ρ) (fins np A) := by
  refine ioEq_mk (by simp [fins]) fun k hk => ?_
  unfold fins
  rw [List.getElem?_map, List.getElem?_map]
  by_cases hn : k < np
  · rw [List.getElem?_range hn]
    have := List.all_eq_true.mp h k (List.mem_range.mpr hn)
    rw [hk] at this
    cases e2 : gt A k with
    | none => rw [e2] at this; cases this
    | some d => simp [e2, s.at_ k d e2]
  · rw [List.getElem?_eq_none (by simpa using hn)]
    rfl
theorem ioEq_trans : ∀ {io : List Bool} {a b c : List D}, ioEq io a b → ioEq io b c → ioEq io a c
  | io, [], [], [], _, _ => by unfold ioEq; trivial
  | io, a :: as, b :: bs, c :: cs, h, h2 => by
    unfold ioEq at h h2 ⊢
    exact ⟨fun e => (h.1 e).trans (h2.1 e), ioEq_trans h.2 h2.2⟩
  | io, [], [], _ :: _, _, h => by simp [ioEq] at h
  | io, _ :: _, _ :: _, [], _, h => by simp [ioEq] at h
  | io, [], _ :: _, _, h, _ => by simp [ioEq] at h
  | io, _ :: _, [], _, h, _ => by simp [ioEq] at h
theorem io_nil {io : List Bool} : ioEq io [] [] := by unfold ioEq; trivial
theorem io_t {io : List Bool} {f g : D} {fs gs : List D} (e : f = g) (h : ioEq io fs gs) : ioEq (true :: io) (f :: fs) (g :: gs) := by unfold ioEq; exact ⟨fun _ => e, h⟩
theorem io_f {io : List Bool} {f g : D} {fs gs : List D} (h : ioEq io fs gs) : ioEq (false :: io) (f :: fs) (g :: gs) := by unfold ioEq; exact ⟨fun z => (nomatch z), h⟩
/-- what a def's body must come to -/
def QD {α : Type} (fd : FD) (ret : α → D) (fs : α → List D) : Fl → Env → R α → Prop := fun fl A' m' => ∃ a, m' = ok a ∧ (fl = .rt (ret a) ∨ (fl = .nx ∧ ret a = .non)) ∧ finOk fd.io fd.np A' = true ∧ ioEq fd.io (fins fd.np A') (fs a)
def ctx (tr : Bool) (cf : CF) (ios : Str → List Bool) (fd : FD) : Cc := ⟨cf, ios, fd.io, tr, fun ρ => finOk fd.io fd.np ρ = true⟩
theorem def_ok {Γ : Str → Option FD} {f : Str} {fd : FD} {n : Nat} {args : List D} {α : Type} {m : R α} {ret : α → D} {fs : α → List D} {tr : Bool} (h : Γ f = some fd) (hl : args.length = fd.np)
    (b : WS (ctx tr (callF Γ n) (iosOf Γ) fd) (args.map some ++ List.replicate (fd.ns - fd.np) none) fd.body m (QD fd ret fs)) : CallOk tr (callF Γ (n + 1)) fd.io f args m ret fs := by
  constructor
  · intro a e
    rw [call_eq h, if_pos hl]
    rcases b _ (.refl _) (by rw [e]; trivial) with ⟨fl, ρ', A', e1, s', a', e2, hfl, hf, hi⟩ | ⟨c, d, ρ', e1, e2, _⟩
    · rw [e, ok_inj] at e2
      subst e2
      have e1 : runSs (callF Γ n) (iosOf Γ) fd.io fd.body (args.map some ++ List.replicate (fd.ns - fd.np) none) = some (.ok fl ρ') := e1
      refine ⟨fins fd.np ρ', ?_, ioEq_trans (fins_io s' hf) hi⟩
      rw [e1]
      rcases hfl with rfl | ⟨rfl, e3⟩
      · simp only [outOf, fin_sat s' hf, if_true]
      · simp only [outOf, fin_sat s' hf, if_true, e3]
    · rw [e] at e2
      cases e2
  · intro tt c d e
    rw [call_eq h, if_pos hl]
    rcases b _ (.refl _) (by rw [e]; exact tt) with ⟨fl, ρ', A', e1, s', a', e2, z⟩ | ⟨c2, d2, ρ', e1, e2, hf⟩
    · rw [e] at e2
      cases e2
    · rw [e] at e2
      cases e2
      have e1 : runSs (callF Γ n) (iosOf Γ) fd.io fd.body (args.map some ++ List.replicate (fd.ns - fd.np) none) = some (.ex c d ρ') := e1
      have hf : finOk fd.io fd.np ρ' = true := hf
      refine ⟨fins fd.np ρ', ?_, by rw [fins_length, hl]⟩
      rw [e1]
      simp only [outOf, hf, if_true]
end Cov.Sm

/-! Sim4: how values are written; closings. -/
namespace Cov.Sm
open PySem
/-! ### how values are written -/
abbrev eN : Unit → D := fun _ => .non
abbrev eT {α : Type} (e : α → D) (xs : List α) : D := .tup (xs.map e)
abbrev eL {α : Type} (e : α → D) (xs : List α) : D := .lst .fz (xs.map e)
abbrev eLo {α : Type} (o : Ow) (e : α → D) (xs : List α) : D := .lst o (xs.map e)
abbrev eP2 {α β : Type} (e : α → D) (f : β → D) (p : α × β) : D := .tup [e p.1, f p.2]
abbrev eP3 {α β γ : Type} (e : α → D) (f : β → D) (g : γ → D) (p : α × β × γ) : D := .tup [e p.1, f p.2.1, g p.2.2]
abbrev eP4 {α β γ δ : Type} (e : α → D) (f : β → D) (g : γ → D) (h : δ → D) (p : α × β × γ × δ) : D := .tup [e p.1, f p.2.1, g p.2.2.1, h p.2.2.2]
def eO {α : Type} (e : α → D) : Option α → D
  | none => .non
  | some x => e x
/-- as the library's data -/
structure PyE {α : Type} [DecidableEq α] (E : α → D) (p : α → PyData) (n : Nat) : Prop where
  to : ∀ x, toPy (E x) = some (p x)
  eq : ∀ x y, PyData.eqv (p x) (p y) = decide (x = y)
  lay : ∀ x, (p x).canLay0 = true
  dep : ∀ x, (p x).depth ≤ n
theorem py_int : PyE D.int PyData.int 0 := ⟨fun x => by rw [toPy], fun x y => by by_cases h : x = y <;> simp [PyData.eqv, h], fun x => by simp [PyData.canLay0], fun x => by simp [PyData.depth]⟩
theorem py_bool : PyE D.bl PyData.bool 0 := ⟨fun x => by rw [toPy], fun x y => by cases x <;> cases y <;> simp [PyData.eqv], fun x => by simp [PyData.canLay0], fun x => by simp [PyData.depth]⟩
section
variable {α β γ : Type} [DecidableEq α] [DecidableEq β] [DecidableEq γ]
theorem py_all_to {E : α → D} {p : α → PyData} {n : Nat} (h : PyE E p n) : ∀ xs : List α, toPyL (xs.map E) = some (xs.map p)
  | [] => rfl
  | x :: xs => by simp [toPyL, h.to, py_all_to h xs]
theorem py_all_eq {E : α → D} {p : α → PyData} {n : Nat} (h : PyE E p n) : ∀ xs ys : List α, PyData.eqvAll (xs.map p) (ys.map p) = decide (xs = ys)
  | [], [] => by simp [PyData.eqvAll]
  | [], _ :: _ => by simp [PyData.eqvAll]
  | _ :: _, [] => by simp [PyData.eqvAll]
  | x :: xs, y :: ys => by
    simp only [List.map_cons, PyData.eqvAll, h.eq, py_all_eq h xs ys]
    by_cases h1 : x = y <;> by_cases h2 : xs = ys <;> simp [h1, h2]
theorem py_all_lay {E : α → D} {p : α → PyData} {n : Nat} (h : PyE E p n) : ∀ xs : List α, PyData.canLayAll0 (xs.map p) = true ∧ PyData.depthAll (xs.map p) ≤ n
  | [] => by simp [PyData.canLayAll0, PyData.depthAll]
  | x :: xs => by
    obtain ⟨h1, h2⟩ := py_all_lay h xs
    refine ⟨by simp [PyData.canLayAll0, h.lay, h1], ?_⟩
    simp only [List.map_cons, PyData.depthAll]
    have := h.dep x
    omega
theorem py_tup {E : α → D} {p : α → PyData} {n : Nat} (h : PyE E p n) : PyE (eT E) (fun xs => .tuple (xs.map p)) (n + 1) := by
  refine ⟨fun xs => by simp [toPy, py_all_to h], fun xs ys => by simp [PyData.eqv, py_all_eq h], fun xs => by simp [PyData.canLay0, py_all_lay h], fun xs => ?_⟩
  have := (py_all_lay h xs).2
  simp only [PyData.depth]
  omega
theorem py_lst {o : Ow} {E : α → D} {p : α → PyData} {n : Nat} (h : PyE E p n) : PyE (eLo o E) (fun xs => .list (xs.map p)) (n + 1) := by
  refine ⟨fun xs => by simp [toPy, py_all_to h], fun xs ys => by simp [PyData.eqv, py_all_eq h], fun xs => by simp [PyData.canLay0, py_all_lay h], fun xs => ?_⟩
  have := (py_all_lay h xs).2
  simp only [PyData.depth]
  omega
theorem py_p2 {E : α → D} {F : β → D} {p : α → PyData} {q : β → PyData} {n m : Nat} (h : PyE E p n) (k : PyE F q m) : PyE (eP2 E F) (fun x => .tuple [p x.1, q x.2]) (n + m + 1) := by
  refine ⟨fun x => by simp [toPy, toPyL, h.to, k.to], fun x y => ?_, fun x => by simp [PyData.canLay0, PyData.canLayAll0, h.lay, k.lay], fun x => ?_⟩
  · obtain ⟨a, b⟩ := x
    obtain ⟨c, d⟩ := y
    simp only [PyData.eqv, PyData.eqvAll, h.eq, k.eq, Bool.and_true]
    by_cases h1 : a = c <;> by_cases h2 : b = d <;> simp [h1, h2]
  · have h1 := h.dep x.1
    have h2 := k.dep x.2
    simp only [PyData.depth, PyData.depthAll]
    omega
theorem eqD_of {E E' : α → D} {p : α → PyData} {n m : Nat} (h : PyE E p n) (k : PyE E' p m) (hn : n ≤ 64 ∧ m ≤ 64) {x y : α} : eqD (E x) (E' y) = some (decide (x = y)) := by
  have h1 := h.dep x
  have h2 := k.dep y
  simp only [eqD, h.to, k.to, Option.bind_some, SeqAt.shaped, h.lay, k.lay, Bool.true_and]
  rw [if_pos (by simp only [Bool.and_eq_true, decide_eq_true_eq]; omega), h.eq]
end
/-! ### pure expressions, typed -/
section
variable {C : Cc} {β α : Type} {A : Env} {m : R β} {a b c : E} {d d' e' : D}
theorem sz {n : Nat} (h : Nat.ble n 64 = true) : n ≤ sizeLine := by have := Nat.le_of_ble_eq_true h; rw [sizeLine_eq]; omega
theorem pe_lenl {o : Ow} {xs : List α} {E : α → D} (h : PR C A a (.lst o (xs.map E))) : PE C A (.o1 .len a) (.int (xs.length : Int)) := pe_o1 h (by rw [len_lst, List.length_map])
theorem pe_lent {xs : List α} {E : α → D} (h : PR C A a (.tup (xs.map E))) : PE C A (.o1 .len a) (.int (xs.length : Int)) := pe_o1 h (by rw [len_tup, List.length_map])
theorem pe_eq {x y : D} {k : Bool} (h : PR C A a x) (h' : PR C A b y) (q : eqD x y = some k) : PE C A (.o2 .eq a b) (.bl k) := pe_o2 h h' (by rw [eq_d, q]; rfl)
theorem pe_ne {x y : D} {k : Bool} (h : PR C A a x) (h' : PR C A b y) (q : eqD x y = some k) : PE C A (.o2 .ne a b) (.bl (!k)) := pe_o2 h h' (by rw [ne_d, q]; rfl)
theorem o2_eq {x y : D} {k : Bool} (q : eqD x y = some k) : o2D .eq x y = some (.bl k) := by rw [eq_d, q]; rfl
theorem o2_ne {x y : D} {k : Bool} (q : eqD x y = some k) : o2D .ne x y = some (.bl (!k)) := by rw [ne_d, q]; rfl
theorem pe_lstT {es : List E} {ds : List D} {E : α → D} {xs : List α} (h : PL C A es ds) (e : frzL ds = xs.map E) (z : ds.length ≤ sizeLine) : PE C A (.lst false es) (.lst .ow (xs.map E)) := e ▸ pe_lst h z
theorem pe_tupT {es : List E} {ds : List D} {E : α → D} {xs : List α} (h : PL C A es ds) (e : frzL ds = xs.map E) (z : ds.length ≤ sizeLine) : PE C A (.tup es) (.tup (xs.map E)) := e ▸ pe_tup h z
theorem pe_tupD {es : List E} {ds ds' : List D} (h : PL C A es ds) (e : frzL ds = ds') (z : ds.length ≤ sizeLine) : PE C A (.tup es) (.tup ds') := e ▸ pe_tup h z
theorem we_lstT {es : List E} {E : α → D} {Q : Res → Env → R β → Prop} (h : WL C A es m fun rs A1 m1 => ∃ (x : List D × Env) (xs : List α), tkAll rs A1 = some x ∧ frzL x.1 = xs.map E ∧ x.1.length ≤ sizeLine ∧ Q (.val (.lst .ow (xs.map E))) x.2 m1) : WE C A (.lst false es) m Q :=
  we_lst (w_imp h fun rs A1 ⟨x, xs, h1, h2, h3, q⟩ => ⟨x, h1, h3, h2 ▸ q⟩)
theorem we_tupT {es : List E} {E : α → D} {Q : Res → Env → R β → Prop} (h : WL C A es m fun rs A1 m1 => ∃ (x : List D × Env) (xs : List α), tkAll rs A1 = some x ∧ frzL x.1 = xs.map E ∧ x.1.length ≤ sizeLine ∧ Q (.val (.tup (xs.map E))) x.2 m1) : WE C A (.tup es) m Q :=
  we_tup (w_imp h fun rs A1 ⟨x, xs, h1, h2, h3, q⟩ => ⟨x, h1, h3, h2 ▸ q⟩)
theorem k_lenl {o : Ow} {r : Res} {xs : List α} {E : α → D} {Q : Res → Env → R β → Prop} (h : rd r A = some (.lst o (xs.map E))) (q : Q (.val (.int (xs.length : Int))) A m) : K1 C .len r A m Q := k1_p h (by rw [len_lst, List.length_map]) q
theorem k_lent {r : Res} {xs : List α} {E : α → D} {Q : Res → Env → R β → Prop} (h : rd r A = some (.tup (xs.map E))) (q : Q (.val (.int (xs.length : Int))) A m) : K1 C .len r A m Q := k1_p h (by rw [len_tup, List.length_map]) q
/-! ### typed operations -/
theorem k_cat {o o' : Ow} {r r' : Res} {xs ys : List α} {E : α → D} {c : List α → R β} {Q : Res → Env → R β → Prop} (h1 : rd r A = some (.lst o (xs.map E))) (h2 : rd r' A = some (.lst o' (ys.map E))) (q : ∀ z, Q (.val (.lst .ow (z.map E))) A (c z)) : K2 C .add r r' A (tb (extT xs ys) c) Q := by
  refine k2_t (E := eLo .ow E) h1 h2 (fun _ _ e => ?_) (fun z e => ?_) q
  · unfold extT at e; split at e <;> simp [ok] at e
  · unfold extT at e
    split at e
    · rename_i hz
      rw [← some_ok e]
      simp [o2D, hz]
    · cases e
theorem k_catt {r r' : Res} {xs ys : List α} {E : α → D} {c : List α → R β} {Q : Res → Env → R β → Prop} (h1 : rd r A = some (.tup (xs.map E))) (h2 : rd r' A = some (.tup (ys.map E))) (q : ∀ z, Q (.val (.tup (z.map E))) A (c z)) : K2 C .add r r' A (tb (extT xs ys) c) Q := by
  refine k2_t (E := eT E) h1 h2 (fun _ _ e => ?_) (fun z e => ?_) q
  · unfold extT at e; split at e <;> simp [ok] at e
  · unfold extT at e
    split at e
    · rename_i hz
      rw [← some_ok e]
      simp [o2D, hz]
    · cases e
/-- repeated -/
def repT {α : Type} (xs : List α) (k : Int) : R (List α) := if xs.length ≤ 1000 ∧ 0 ≤ k ∧ k ≤ 1000 then ok (List.replicate k.toNat xs).flatten else none
def repU {α : Type} (xs : List α) (k : Int) : R (List α) := if xs.length ≤ 1000 ∧ 1 ≤ k ∧ k ≤ 1000 ∧ xs ≠ [] then ok (List.replicate k.toNat xs).flatten else none
theorem map_rep {α β : Type} (f : α → β) (xs : List α) : ∀ n : Nat, ((List.replicate n xs).flatten).map f = (List.replicate n (xs.map f)).flatten
  | 0 => rfl
  | n + 1 => by simp [List.replicate_succ, map_rep f xs n]
theorem k_repl {r r' : Res} {xs : List α} {k : Int} {E : α → D} {c : List α → R β} {Q : Res → Env → R β → Prop} (h1 : rd r A = some (.lst .ow (xs.map E))) (h2 : rd r' A = some (.int k)) (q : ∀ z, Q (.val (.lst .ow (z.map E))) A (c z)) : K2 C .mul r r' A (tb (repT xs k) c) Q := by
  refine k2_t (E := eLo .ow E) h1 h2 (fun _ _ e => ?_) (fun z e => ?_) q
  · unfold repT at e; split at e <;> simp [ok] at e
  · unfold repT at e
    split at e
    · rename_i hz
      rw [← some_ok e]
      simp only [o2D, List.length_map, eLo, map_rep]
      rw [if_pos hz]
    · cases e
theorem k_rept {r r' : Res} {xs : List α} {k : Int} {E : α → D} {c : List α → R β} {Q : Res → Env → R β → Prop} (h1 : rd r A = some (.tup (xs.map E))) (h2 : rd r' A = some (.int k)) (q : ∀ z, Q (.val (.tup (z.map E))) A (c z)) : K2 C .mul r r' A (tb (repU xs k) c) Q := by
  refine k2_t (E := eT E) h1 h2 (fun _ _ e => ?_) (fun z e => ?_) q
  · unfold repU at e; split at e <;> simp [ok] at e
  · unfold repU at e
    split at e
    · rename_i hz
      rw [← some_ok e]
      simp only [o2D, List.length_map, eT, map_rep]
      rw [if_pos ⟨hz.1, hz.2.1, hz.2.2.1, by simpa using hz.2.2.2⟩]
    · cases e
def ssetT (ts : List (List Int)) : R (List (List Int)) := if (sortT ts).length ≤ 4095 && ts.all (fun t => decide (1 ≤ t.length)) then ok (sortT ts) else none
theorem intsOf_map (xs : List Int) : intsOf (xs.map D.int) = some xs := by
  induction xs with
  | nil => rfl
  | cons x xs ih => simp [intsOf, intOf, ih]
theorem tupsOf_eT : ∀ ts : List (List Int), tupsOf (ts.map (eT D.int)) = some ts
  | [] => rfl
  | t :: ts => by simp [tupsOf, tupOf, intsOf_map, tupsOf_eT ts]
theorem k_sset {o : Ow} {r : Res} {ts : List (List Int)} {c : List (List Int) → R β} {Q : Res → Env → R β → Prop} (h1 : rd r A = some (.lst o (ts.map (eT D.int)))) (q : ∀ z, Q (.val (.lst .ow (z.map (eT D.int)))) A (c z)) : K1 C .sortedset r A (tb (ssetT ts) c) Q := by
  refine k1_t (E := eLo .ow (eT D.int)) h1 (fun _ _ e => ?_) (fun z e => ?_) q
  · unfold ssetT at e; split at e <;> simp [ok] at e
  · unfold ssetT at e
    split at e
    · rename_i hz
      rw [← some_ok e]
      simp only [o1D, tupsOf_eT]
      rw [if_pos hz]
    · cases e
abbrev maxI (i j : Int) : Int := if j > i then j else i
abbrev minI (i j : Int) : Int := if j < i then j else i
/-! ### closings -/
theorem w_let {γ δ : Type} {P : γ → R δ → Prop} {k : γ → R δ} {t : γ} (h : ∀ x, P x (k x)) : P t (tb (ok t) k) := h t
theorem w_start {C : Cc} {A A' : Env} {b b' : List S} {Q : Fl → Env → R β → Prop} (e : A = A') (e2 : b = b') (h : WS C A' b' m Q) : WS C A b m Q := by subst e; subst e2; exact h
theorem lk_of {i : Nat} {k : Bool} {ds : List D} (h : gt A i = some (.lst .lk ds)) : lkOk (ds, some (i, k)) A = true := by
  simp only [lkOk, h, beqL_refl]
theorem qd_rt {fd : FD} {ret : α → D} {fs : α → List D} {a : α} (h : finOk fd.io fd.np A = true) (i : ioEq fd.io (fins fd.np A) (fs a)) : QD fd ret fs (.rt (ret a)) A (ok a) := ⟨a, rfl, .inl rfl, h, i⟩
theorem qd_nx {fd : FD} {ret : α → D} {fs : α → List D} {a : α} (h : finOk fd.io fd.np A = true) (z : ret a = .non) (i : ioEq fd.io (fins fd.np A) (fs a)) : QD fd ret fs .nx A (ok a) := ⟨a, rfl, .inr ⟨rfl, z⟩, h, i⟩
section
variable {σ γ : Type} {AL : σ → Env} {AR : γ → Env} {rv : γ → D} {m' : R (Stp σ γ)} {A' : Env}
theorem qf_nx {s : σ} (e : m' = ok (.nx s)) (h : Sub A' (AL s)) : QF AL AR rv .nx A' m' := ⟨s, e, h⟩
theorem qf_ct {s : σ} (e : m' = ok (.nx s)) (h : Sub A' (AL s)) : QF AL AR rv .ct A' m' := ⟨s, e, h⟩
theorem qf_bk {s : σ} (e : m' = ok (.bk s)) (h : Sub A' (AL s)) : QF AL AR rv .bk A' m' := ⟨s, e, h⟩
theorem qf_rt {g : γ} {d : D} (e : m' = ok (.rt g)) (z : d = rv g) (h : Sub A' (AR g)) : QF AL AR rv (.rt d) A' m' := ⟨g, e, z, h⟩
end
/-! ### shares nothing -/
theorem fl_map {xs : List α} {E : α → D} (h : ∀ x, flat (E x) = true) : flatL (xs.map E) = true := by
  induction xs with
  | nil => rfl
  | cons x xs ih => simp [flatL, h, ih]
theorem fl_tup {xs : List α} {E : α → D} (h : ∀ x, flat (E x) = true) : flat (.tup (xs.map E)) = true := by rw [flat]; exact fl_map h
theorem fl_lst {xs : List α} {E : α → D} (h : ∀ x, flat (E x) = true) : flat (.lst .ow (xs.map E)) = true := by simp [flat, fl_map h]
theorem fl_p2 {d d' : D} (h : flat d = true) (h' : flat d' = true) : flat (.tup [d, d']) = true := by simp [flat, flatL, h, h']
theorem fl_p3 {d d' d2 : D} (h : flat d = true) (h' : flat d' = true) (h2 : flat d2 = true) : flat (.tup [d, d', d2]) = true := by simp [flat, flatL, h, h', h2]
theorem fi_nil {io : List Bool} : flatIo io [] = true := by cases io <;> rfl
theorem fi_t {io : List Bool} {d : D} {ds : List D} (h : flat d = true) (t : flatIo io ds = true) : flatIo (true :: io) (d :: ds) = true := by simp [flatIo, h, t]
theorem fi_f {io : List Bool} {d : D} {ds : List D} (t : flatIo io ds = true) : flatIo (false :: io) (d :: ds) = true := by simp [flatIo, t]
theorem hzf {p : Bool} {d : D} {io : List Bool} {ds : List D} (h : flat d = true) (t : flatIo io ds = true) : (!(p || (flat d && flatIo io ds))) = false := by rw [h, t]; cases p <;> rfl
end
end Cov.Sm

/-! Sim5: slices, chains, lists held in two ways. -/
namespace Cov.Sm
open PySem
section
variable {C : Cc} {β α : Type} {A : Env} {m : R β} {a b c : E} {d d' e' : D}
def cutT {α : Type} (xs : List α) (lo hi : Option Int) : List α := (xs.drop (HT.sIx xs.length 0 lo)).take (HT.sIx xs.length xs.length hi - HT.sIx xs.length 0 lo)
theorem cut_map {α β : Type} (f : α → β) (xs : List α) (lo hi : Option Int) : (cutT xs lo hi).map f = (((xs.map f).drop (HT.sIx (xs.map f).length 0 lo)).take (HT.sIx (xs.map f).length (xs.map f).length hi - HT.sIx (xs.map f).length 0 lo)) := by
  simp [cutT, List.map_take, List.map_drop]
/-- a pure bound of a slice -/
def PP (C : Cc) (A : Env) : Option E → Option Int → Prop
  | none, none => True
  | some e, some i => PE C A e (.int i)
  | _, _ => False
theorem pp_n : PP C A none none := trivial
theorem pp_s {i : Int} (h : PE C A a (.int i)) : PP C A (some a) (some i) := h
theorem pp_run {lo : Option E} {l : Option Int} (h : PP C A lo l) (ρ : Env) (s : Sat A ρ) : partM C.cf C.ios lo ρ = some (.ok l ρ) := by
  cases lo with
  | none => cases l with
    | none => rfl
    | some _ => exact h.elim
  | some e => cases l with
    | none => exact h.elim
    | some i =>
      show intM (runE C.cf C.ios e ρ) = _
      have h : PE C A e (.int i) := h
      rw [h ρ s]
      rfl
theorem pe_slc {lo hi : Option E} {l u : Option Int} (h : PR C A a d) (hl : PP C A lo l) (hu : PP C A hi u) (e : slcD l u d = some e') : PE C A (.slc a lo hi) e' := fun ρ s => by
  obtain ⟨r, h1, h2, h3⟩ := h ρ s
  have e0 : runE C.cf C.ios (.slc a lo hi) ρ = bnd (runE C.cf C.ios a ρ) fun r ρ1 => if deep r then none else bnd (partM C.cf C.ios lo ρ1) fun l ρ2 => bnd (partM C.cf C.ios hi ρ2) fun u ρ3 => opt (rd r ρ3) fun d => opt (slcD l u d) fun y => some (.ok (.val y) ρ3) := by
    rw [runE] <;> rfl
  rw [e0, h1, bnd_ok, h3]
  simp only [Bool.false_eq_true, if_false]
  rw [pp_run hl ρ s, bnd_ok, pp_run hu ρ s, bnd_ok, h2, opt_some, e, opt_some]
theorem pe_slcl {lo hi : Option E} {l u : Option Int} {o : Ow} {xs : List α} {E : α → D} (h : PR C A a (.lst o (xs.map E))) (hl : PP C A lo l) (hu : PP C A hi u) : PE C A (.slc a lo hi) (.lst .ow ((cutT xs l u).map E)) := pe_slc h hl hu (by rw [cut_map]; rfl)
theorem pe_slct {lo hi : Option E} {l u : Option Int} {xs : List α} {E : α → D} (h : PR C A a (.tup (xs.map E))) (hl : PP C A lo l) (hu : PP C A hi u) : PE C A (.slc a lo hi) (.tup ((cutT xs l u).map E)) := pe_slc h hl hu (by rw [cut_map]; rfl)
theorem pe_ch {o o' : O2} {p q : Bool} {d2 d3 : D} (h : PR C A a d) (h2 : PR C A b d2) (h3 : PR C A c d3) (e : o2D o d d2 = some (.bl p)) (e' : o2D o' d2 d3 = some (.bl q)) (hb : (pureE b && pureE c) = true) : PE C A (.ch o o' a b c) (.bl (p && q)) := fun ρ s => by
  obtain ⟨r, a1, a2, a3⟩ := h ρ s
  obtain ⟨r2, b1, b2, b3⟩ := h2 ρ s
  obtain ⟨r3, c1, c2, c3⟩ := h3 ρ s
  rw [runE, hb]
  simp only [Bool.not_true, Bool.false_eq_true, if_false]
  rw [a1, bnd_ok, b1, bnd_ok, a2, opt_some, b2, opt_some, e, opt_some]
  cases p with
  | false => rfl
  | true =>
    show bnd _ _ = _
    rw [c1, bnd_ok, b2, opt_some, c2, opt_some, e', opt_some]
    rfl
/-- owned or frozen -/
abbrev ob (b : Bool) : Ow := if b then .ow else .fz
theorem w_ob {γ : Type} {run : Env → M γ} {Q : γ → Env → R β → Prop} (F : Ow → Env) (k : Bool) (h : A = F (ob k)) (h1 : W C run (F .ow) m Q) (h2 : W C run (F .fz) m Q) : W C run A m Q := by
  subst h
  cases k with
  | true => exact h1
  | false => exact h2
theorem Sat.drop {ρ : Env} (s : Sat A ρ) (i : Nat) : Sat (A.set i none) ρ := by
  refine ⟨by simp [s.len], fun j d h => ?_⟩
  rw [gt_set] at h
  split at h
  · cases h
  · exact s.at_ j d h
theorem w1_retob {i : Nat} {k : Bool} {ds : List D} {Q : Fl → Env → R β → Prop} (h : gt A i = some (.lst (ob k) ds)) (hio : C.io.getD i false = false) (q : Q (.rt (.lst (ob k) ds)) (A.set i none) m) : W1 C A (.ret (.v i)) m Q := fun ρ s l => by
  cases k with
  | true =>
    refine .inl ⟨_, ρ.set i none, _, ?_, s.set i none, q⟩
    show runS C.cf C.ios C.io (.ret (.v i)) ρ = _
    rw [s_ret, e_v, s.at_ i _ h, opt_some]
    show opt (retR C.io (.at i []) ρ) _ = _
    rw [ret_at i hio, s.at_ i _ h]
    rfl
  | false =>
    refine .inl ⟨_, ρ, _, ?_, Sat.drop s i, q⟩
    show runS C.cf C.ios C.io (.ret (.v i)) ρ = _
    rw [s_ret, e_v, s.at_ i _ h, opt_some]
    rfl
end
end Cov.Sm

/-! Sim6: exceptions, instances, xs[i] += e, list(range(n)). -/
namespace Cov.Sm
open PySem
/-! ### typed -/
def catchT {α : Type} (m : R α) (c : Str) (h : R α) : R α := match m with
  | some (.ex x _) => if x = c then h else none
  | m => m
def catchF {α : Type} (m : R α) (c f : Str) (h : Int → R α) : R α := match m with
  | some (.ex x d) => if x = c then (match d with
    | some (.tup [.str g, .int k]) => if g = f then h k else none
    | _ => none) else none
  | m => m
def raiF {α : Type} (c f : Str) (k : Int) : R α := rai c (some (.tup [.str f, .int k]))
@[simp] theorem catchT_ok {α : Type} (a : α) (c : Str) (h : R α) : catchT (ok a) c h = ok a := (rfl)
@[simp] theorem catchF_ok {α : Type} (a : α) (c f : Str) (h : Int → R α) : catchF (ok a) c f h = ok a := (rfl)
@[simp] theorem catchT_rai {α : Type} (c : Str) (d : Option D) (h : R α) : catchT (rai c d) c h = h := by simp [catchT, rai]
@[simp] theorem catchF_rai {α : Type} (c f : Str) (k : Int) (h : Int → R α) : catchF (raiF c f k) c f h = h k := by simp [catchF, raiF, rai]
section
variable {C : Cc} {β : Type} {A : Env} {m : R β} {a b c : E} {d d' e' : D}
/-! ### fields -/
theorem pe_fld {f : Str} (h : PR C A a d) (e : getS d (.fld f) = some e') (z : isFz e' = true) : PE C A (.fld a f) e' := fun ρ s => by
  obtain ⟨r, h1, h2, _⟩ := h ρ s
  rw [runE, h1, bnd_ok, h2, opt_some, e, opt_some, if_pos z]
theorem we_fld {f : Str} {Q : Res → Env → R β → Prop} (h : WE C A a m fun r A1 m1 => ∃ d e, rd r A1 = some d ∧ getS d (.fld f) = some e ∧ isFz e = true ∧ Q (.val e) A1 m1) : WE C A (.fld a f) m Q := by
  refine w_eq (run := fun ρ => bnd (runE C.cf C.ios a ρ) fun r ρ1 => opt (rd r ρ1) fun d => opt (getS d (.fld f)) fun e => if isFz e then some (.ok (.val e) ρ1) else match r with
    | .at i p => some (.ok (.at i (p ++ [.fld f])) ρ1)
    | .val _ => none) (w_bnd (w_imp h fun r A1 k => ?_)) fun ρ => by rw [runE] <;> rfl
  obtain ⟨d, e, h1, h2, h3, q⟩ := k
  refine fun ρ s l => .inl ⟨.val e, ρ, A1, ?_, s, q⟩
  show opt (rd r ρ) _ = _
  rw [rd_sat s h1, opt_some, h2, opt_some, if_pos h3]
theorem pe_exf {i : Nat} {f : Str} {k : Int} (h : gt A i = some (.dic .fz [.str f] [.int k])) : PE C A (.exf i f) (.int k) := fun ρ s => by
  rw [runE, s.at_ i _ h]
  simp only [if_true]
/-- self.f = e -/
theorem w1_setFld {i : Nat} {cl f : Str} {Q : Fl → Env → R β → Prop} (h : WE C A a m fun r A1 m1 => ∃ (x : D) (A2 : Env) (fn : List Str) (fv : List D), tk r A1 = some (x, A2) ∧ gt A2 i = some (.ins .ow cl fn fv) ∧ fn.contains f = false ∧ fn.length < 100 ∧ Q .nx (A2.set i (some (.ins .ow cl (fn ++ [f]) (fv ++ [frz x])))) m1) : W1 C A (.setFld (.v i) cl f a) m Q := by
  refine w_eq (run := fun ρ => bnd (runE C.cf C.ios a ρ) fun r ρ1 => opt (tk r ρ1) fun x => opt (gt x.2 i) fun d => match d with
      | .ins .ow c' fn fv => if decide (c' = cl) && !fn.contains f && decide (fn.length < 100) then some (.ok .nx (x.2.set i (some (.ins .ow cl (fn ++ [f]) (fv ++ [frz x.1]))))) else none
      | _ => none) (w_bnd (w_imp h fun r A1 k => ?_)) fun ρ => by rw [runS] <;> rfl
  obtain ⟨x, A2, fn, fv, h1, h2, h3, h4, q⟩ := k
  refine fun ρ s l => ?_
  obtain ⟨ρ', e1, s1⟩ := tk_sat s h1
  refine .inl ⟨.nx, _, _, ?_, s1.set i _, q⟩
  show opt (tk r ρ) _ = _
  rw [e1, opt_some]
  simp only [s1.at_ i _ h2, opt_some, h3, h4, decide_true, Bool.not_false, Bool.and_self, if_true]
/-! ### raise -/
theorem w1_rai {x : Str} {Q : Fl → Env → R β → Prop} (hx : ∀ ρ, Sat A ρ → C.x ρ) : W1 C A (.rai x none) (rai x none) Q := fun ρ s l => .inr ⟨x, none, ρ, by rw [runS], rfl, hx ρ s⟩
theorem w1_raiF {x f : Str} {Q : Fl → Env → R β → Prop} (h : WE C A a m fun r A1 m1 => ∃ k, rd r A1 = some (.int k) ∧ m1 = raiF x f k ∧ ∀ ρ, Sat A1 ρ → C.x ρ) : W1 C A (.rai x (some (f, a))) m Q := by
  refine w_eq (run := fun ρ => bnd (runE C.cf C.ios a ρ) fun r ρ1 => match rd r ρ1 with
      | some (.int k) => some (.ex x (some (.tup [.str f, .int k])) ρ1)
      | _ => none) (w_bnd (w_imp h fun r A1 k => ?_)) fun ρ => by rw [runS] <;> rfl
  obtain ⟨k, h1, rfl, hx⟩ := k
  refine fun ρ s l => .inr ⟨x, _, ρ, ?_, rfl, hx ρ s⟩
  show (match rd r ρ with | some (.int k) => _ | _ => _) = _
  rw [rd_sat s h1]
/-- what stands when an exception leaves -/
theorem x_fn {tr : Bool} {cf : CF} {ios : Str → List Bool} {fd : FD} (h : finOk fd.io fd.np A = true) : ∀ ρ, Sat A ρ → (ctx tr cf ios fd).x ρ := fun ρ s => fin_sat s h
theorem x_lp {w : Option (Nat × Bool)} {A3 : Env} (h : unlk A w = some A3) (k : ∀ ρ, Sat A3 ρ → C.x ρ) : ∀ ρ, Sat A ρ → (inL C w).x ρ := fun ρ s => by
  obtain ⟨ρ3, e, s3⟩ := unlk_sat s h
  exact ⟨ρ3, e, k ρ3 s3⟩
/-- a call that may raise; no argument may be changed -/
theorem kc_x {α : Type} {io : List Bool} {f : Str} {rs : List Res} {as : List D} {mf : R α} {ret : α → D} {fins : α → List D} {z : Bool} {k : α → R β} {Q : Res → Env → R β → Prop} (cc : CallOk true C.cf io f as mf ret fins) (ha : argsOf A io rs = some as) (hp : apartOk io rs = true)
    (hl : ∀ a, (fins a).length = rs.length) (hz : ∀ a, (!((placesOf false io rs).isEmpty || (flat (ret a) && flatIo io (fins a)))) = z) (hi : ∀ fin : List D, fin.length = rs.length → ioEq io fin (rs.map fun _ => .non)) (hla : as.length = rs.length)
    (hx : ∀ ρ, Sat (backs (!((placesOf false io rs).isEmpty)) io rs (rs.map fun _ => .non) A) ρ → C.x ρ) (q : ∀ a, Q (.val (ret a)) (backs z io rs (fins a) A) (k a)) : KC C io f rs A (tb mf k) Q := fun ρ s l => by
  rcases live_tb l with ⟨a, e⟩ | ⟨c2, d2, e, t⟩
  · obtain ⟨fin, e1, e2⟩ := cc.ok_ a e
    have hfl : fin.length = rs.length := by rw [ioEq_len e2, hl a]
    refine .inl ⟨.val (ret a), backs z io rs fin ρ, backs z io rs (fins a) A, ?_, backs_sat s e2, by rw [e, tb_ok]; exact q a⟩
    show doCall C.cf io f rs ρ = _
    unfold doCall
    rw [args_sat s ha, opt_some, if_pos hp, e1, opt_some]
    simp only [hfl, if_true]
    rw [ioEq_flat e2, hz a]
  · obtain ⟨fin, e1, e2⟩ := cc.ex_ rfl c2 d2 e
    have hfl : fin.length = rs.length := e2.trans hla
    refine .inr ⟨c2, d2, backs (!((placesOf false io rs).isEmpty)) io rs fin ρ, ?_, by rw [e]; rfl, hx _ (backs_sat s (hi fin hfl))⟩
    show doCall C.cf io f rs ρ = _
    unfold doCall
    rw [args_sat s ha, opt_some, if_pos hp, e1, opt_some]
    simp only [hfl, if_true]
theorem ioEq_ro : ∀ {io : List Bool} {fs gs : List D}, (∀ k, io.getD k false = false) → fs.length = gs.length → ioEq io fs gs := fun {io fs gs} h hl => ioEq_mk hl fun k hk => by rw [h k] at hk; cases hk
/-! ### make -/
def KMk (C : Cc) {β : Type} (io : List Bool) (cl : Str) (rs : List Res) (A : Env) (m : R β) (Q : Res → Env → R β → Prop) : Prop := W C (fun ρ => doMake C.cf io cl rs ρ) A m Q
theorem we_make {cl : Str} {io : List Bool} {es : List E} {Q : Res → Env → R β → Prop} (hio : C.ios cl = io) (h : WL C A es m fun rs A1 m1 => KMk C io cl rs A1 m1 Q) : WE C A (.make cl es) m Q := by
  subst hio
  exact w_eq (w_bnd (w_imp h fun rs A1 k => k)) fun ρ => by rw [runE]
/-- an instance is made; no exception -/
theorem kmk {α : Type} {io : List Bool} {cl : Str} {rs : List Res} {as : List D} {mf : R α} {self : α → D} {fins : α → List D} {z tr : Bool} {k : α → R β} {Q : Res → Env → R β → Prop} (cc : CallOk tr C.cf io cl as mf (fun _ => .non) (fun a => self a :: fins a)) (ha : argsOf A io (.val (.ins .ow cl [] []) :: rs) = some as) (hp : (apartOk io (.val (.ins .ow cl [] []) :: rs) && io.headD false) = true)
    (hl : ∀ a, (fins a).length = rs.length) (hz : ∀ a, (!((placesOf false io (.val (.ins .ow cl [] []) :: rs)).isEmpty || flatIo io (self a :: fins a))) = z) (hx : C.tr = true → ∀ c d, mf ≠ some (.ex c d)) (q : ∀ a, Q (.val (frz (self a))) (backs z io (.val (.ins .ow cl [] []) :: rs) (self a :: fins a) A) (k a)) : KMk C io cl rs A (tb mf k) Q := fun ρ s l => by
  rcases live_tb l with ⟨a, e⟩ | ⟨c2, d2, e, t⟩
  · obtain ⟨fin, e1, e2⟩ := cc.ok_ a e
    cases fin with
    | nil => simp [ioEq] at e2
    | cons s0 fin =>
      have hd : s0 = self a := by
        unfold ioEq at e2
        simp only [Bool.and_eq_true] at hp
        exact e2.1 hp.2
      subst hd
      have hfl : fin.length = rs.length := by
        have := ioEq_len e2
        simp only [List.length_cons] at this
        have := hl a
        omega
      refine .inl ⟨.val (frz (self a)), backs z io (.val (.ins .ow cl [] []) :: rs) (self a :: fin) ρ, _, ?_, backs_sat s e2, by rw [e, tb_ok]; exact q a⟩
      show doMake C.cf io cl rs ρ = _
      unfold doMake
      rw [args_sat s ha, opt_some, if_pos hp, e1, opt_some]
      simp only [hfl, if_true]
      rw [ioEq_flat e2, hz a]
  · exact (hx t _ _ e).elim
/-! ### try -/
def tryC (C : Cc) (AX : Env) : Cc := { C with tr := true, x := fun ρ => Sat AX ρ }
def QT {σ γ : Type} (AL : σ → Env) (AR : γ → Env) (rv : γ → D) : Fl → Env → R (Stp σ γ) → Prop := fun fl A' m' => match fl with
  | .rt d => ∃ g, m' = ok (.rt g) ∧ d = rv g ∧ Sub A' (AR g)
  | .nx => ∃ s, m' = ok (.nx s) ∧ Sub A' (AL s)
  | _ => False
theorem qt_nx {σ γ : Type} {AL : σ → Env} {AR : γ → Env} {rv : γ → D} {m' : R (Stp σ γ)} {A' : Env} {s : σ} (e : m' = ok (.nx s)) (h : Sub A' (AL s)) : QT AL AR rv .nx A' m' := ⟨s, e, h⟩
theorem qt_rt {σ γ : Type} {AL : σ → Env} {AR : γ → Env} {rv : γ → D} {m' : R (Stp σ γ)} {A' : Env} {g : γ} {d : D} (e : m' = ok (.rt g)) (z : d = rv g) (h : Sub A' (AR g)) : QT AL AR rv (.rt d) A' m' := ⟨g, e, z, h⟩
/-- the end of a body or a suite -/
theorem qt_end {σ γ : Type} {AL : σ → Env} {AR : γ → Env} {rv : γ → D} {r : γ → R β} {k : σ → R β} {Q : Fl → Env → R β → Prop} {fl : Fl} {A' : Env} {mm : R (Stp σ γ)} {ρ' : Env} (qr : ∀ g, Q (.rt (rv g)) (AR g) (r g)) (q : ∀ s, Q .nx (AL s) (k s)) (h : QT AL AR rv fl A' mm) (s : Sat A' ρ') :
    ∃ A2, Sat A2 ρ' ∧ Q fl A2 (tb mm fun o => outS o r k) := by
  cases fl with
  | nx => obtain ⟨x, e, z⟩ := h; exact ⟨AL x, z _ s, by rw [e, tb_ok, outS_nx]; exact q x⟩
  | rt d => obtain ⟨g, e, rfl, z⟩ := h; exact ⟨AR g, z _ s, by rw [e, tb_ok, outS_rt]; exact qr g⟩
  | bk => exact h.elim
  | ct => exact h.elim
theorem qt_ok {σ γ : Type} {AL : σ → Env} {AR : γ → Env} {rv : γ → D} {fl : Fl} {A' : Env} {mm : R (Stp σ γ)} (h : QT AL AR rv fl A' mm) : ∃ o, mm = ok o := by
  cases fl with
  | nx => exact ⟨_, h.choose_spec.1⟩
  | rt d => exact ⟨_, h.choose_spec.1⟩
  | bk => exact h.elim
  | ct => exact h.elim
theorem w1_try {σ γ : Type} {bs hs : List S} {x : Str} {mb mh : R (Stp σ γ)} {r : γ → R β} {k : σ → R β} {Q : Fl → Env → R β → Prop} (AX : Env) (AL : σ → Env) (AR : γ → Env) (rv : γ → D) (hb : WS (tryC C AX) A bs mb (QT AL AR rv)) (hh : WS C AX hs mh (QT AL AR rv)) (hn : ∀ c d, mh ≠ some (.ex c d))
    (qr : ∀ g, Q (.rt (rv g)) (AR g) (r g)) (q : ∀ s, Q .nx (AL s) (k s)) : W1 C A (.try_ bs x none hs) (tb (catchT mb x mh) fun o => outS o r k) Q := fun ρ s l => by
  have l2 : live C (catchT mb x mh) := live_l (k := fun o => outS o r k) l
  cases hm : mb with
  | none => rw [hm] at l2; exact l2.elim
  | some o =>
    rw [hm] at l2
    cases o with
    | ok o =>
      rcases hb ρ s (by rw [hm]; trivial) with ⟨fl, ρ', A', e, s', h⟩ | ⟨c, d, ρ', e, e2, _⟩
      · have e : runSs C.cf C.ios C.io bs ρ = some (.ok fl ρ') := e
        obtain ⟨A2, s2, h2⟩ := qt_end qr q h s'
        refine .inl ⟨fl, ρ', A2, by rw [runS, e], s2, ?_⟩
        rw [hm] at h2
        exact h2
      · rw [hm] at e2; cases e2
    | ex c d =>
      rcases hb ρ s (by rw [hm]; rfl) with ⟨fl, ρ', A', e, s', h⟩ | ⟨c2, d2, ρ', e, e2, sx⟩
      · obtain ⟨o, z⟩ := qt_ok h
        rw [hm] at z; cases z
      · rw [hm] at e2; cases e2
        have e : runSs C.cf C.ios C.io bs ρ = some (.ex c d ρ') := e
        by_cases hc : c = x
        · subst hc
          have em : catchT (some (.ex c d)) c mh = mh := by simp [catchT]
          rw [em] at l2
          rcases hh ρ' sx l2 with ⟨fl, ρ2, A', e3, s', h⟩ | ⟨c2, d2, ρ2, _, e4, _⟩
          · have e3 : runSs C.cf C.ios C.io hs ρ' = some (.ok fl ρ2) := e3
            obtain ⟨A2, s2, h2⟩ := qt_end qr q h s'
            refine .inl ⟨fl, ρ2, A2, ?_, s2, by rw [em]; exact h2⟩
            rw [runS, e]
            simp only [if_true, e3]
          · exact (hn _ _ e4).elim
        · have em : catchT (some (.ex c d)) x mh = none := by simp [catchT, hc]
          rw [em] at l2
          exact l2.elim
theorem clr_sat {A ρ : Env} (s : Sat A ρ) (h : ∀ i d, gt A i = some d → noDic d = true) : Sat A (clr ρ) := by
  refine ⟨by rw [clr_len]; exact s.len, fun i d e => ?_⟩
  rw [clr_gt, s.at_ i d e]
  simp only [h i d e, if_true]
theorem w1_tryAs {σ γ : Type} {bs hs : List S} {x f : Str} {i : Nat} {mb : R (Stp σ γ)} {mh : Int → R (Stp σ γ)} {r : γ → R β} {k : σ → R β} {Q : Fl → Env → R β → Prop} (AX : Env) (AL : σ → Env) (AR : γ → Env) (rv : γ → D) (hb : WS (tryC C AX) A bs mb (QT AL AR rv)) (hh : ∀ n, WS C (AX.set i (some (.dic .fz [.str f] [.int n]))) hs (mh n) fun fl A' m' => QT AL AR rv fl (A'.set i none) m' ∧ (∀ j d, gt (A'.set i none) j = some d → noDic d = true) ∧ noDicF fl = true) (hn : ∀ n c d, mh n ≠ some (.ex c d))
    (qr : ∀ g, Q (.rt (rv g)) (AR g) (r g)) (q : ∀ s, Q .nx (AL s) (k s)) : W1 C A (.try_ bs x (some (i, f)) hs) (tb (catchF mb x f mh) fun o => outS o r k) Q := fun ρ s l => by
  have l2 : live C (catchF mb x f mh) := live_l (k := fun o => outS o r k) l
  cases hm : mb with
  | none => rw [hm] at l2; exact l2.elim
  | some o =>
    rw [hm] at l2
    cases o with
    | ok o =>
      rcases hb ρ s (by rw [hm]; trivial) with ⟨fl, ρ', A', e, s', h⟩ | ⟨c, d, ρ', e, e2, _⟩
      · have e : runSs C.cf C.ios C.io bs ρ = some (.ok fl ρ') := e
        obtain ⟨A2, s2, h2⟩ := qt_end qr q h s'
        refine .inl ⟨fl, ρ', A2, by rw [runS, e], s2, ?_⟩
        rw [hm] at h2
        exact h2
      · rw [hm] at e2; cases e2
    | ex c d =>
      rcases hb ρ s (by rw [hm]; rfl) with ⟨fl, ρ', A', e, s', h⟩ | ⟨c2, d2, ρ', e, e2, sx⟩
      · obtain ⟨o, z⟩ := qt_ok h
        rw [hm] at z; cases z
      · rw [hm] at e2; cases e2
        have e : runSs C.cf C.ios C.io bs ρ = some (.ex c d ρ') := e
        by_cases hc : c = x ∧ ∃ n, d = some (.tup [.str f, .int n])
        · obtain ⟨rfl, n, rfl⟩ := hc
          have em : catchF (some (.ex c (some (.tup [.str f, .int n])))) c f mh = mh n := by simp [catchF]
          rw [em] at l2
          rcases hh n _ (sx.set i _) l2 with ⟨fl, ρ2, A', e3, s', h, nd, nf⟩ | ⟨c2, d2, ρ2, _, e4, _⟩
          · have e3 : runSs C.cf C.ios C.io hs (ρ'.set i (some (.dic .fz [.str f] [.int n]))) = some (.ok fl ρ2) := e3
            obtain ⟨A2, s2, h2⟩ := qt_end qr q h (clr_sat (s'.set i none) nd)
            refine .inl ⟨fl, clr (ρ2.set i none), A2, ?_, s2, by rw [em]; exact h2⟩
            rw [runS, e]
            simp only [if_true, e3, nf]
          · exact (hn _ _ _ e4).elim
        · have em : catchF (some (.ex c d)) x f mh = none := by
            unfold catchF
            by_cases h1 : c = x
            · subst h1
              simp only [if_true]
              split
              · rename_i g n _ _
                split
                · rename_i h2
                  exact (hc ⟨rfl, _, by rw [← h2]⟩).elim
                · rfl
              · rfl
            · simp only [h1, if_false]
          rw [em] at l2
          exact l2.elim
end
end Cov.Sm

/-! Sim7: encoders of instances; xs[i] += e, list(range(n)). -/
namespace Cov.Sm
open PySem
section
variable {α β γ δ : Type}
def eI1 (c f1 : Str) (E1 : α → D) : α → D := fun p => .ins .fz c [f1] [E1 p]
def eI2 (c f1 f2 : Str) (E1 : α → D) (E2 : β → D) : α × β → D := fun p => .ins .fz c [f1, f2] [E1 p.1, E2 p.2]
def eI3 (c f1 f2 f3 : Str) (E1 : α → D) (E2 : β → D) (E3 : γ → D) : α × β × γ → D := fun p => .ins .fz c [f1, f2, f3] [E1 p.1, E2 p.2.1, E3 p.2.2]
def eI4 (c f1 f2 f3 f4 : Str) (E1 : α → D) (E2 : β → D) (E3 : γ → D) (E4 : δ → D) : α × β × γ × δ → D := fun p => .ins .fz c [f1, f2, f3, f4] [E1 p.1, E2 p.2.1, E3 p.2.2.1, E4 p.2.2.2]
end
/-- the numbers of a range as a list of its own -/
def rgLT (n : Int) : R (List Int) := if decide (-(2 ^ 62) ≤ n) && decide (n ≤ 16777216) then ok (rangeI 0 n) else none
/-- an item at a place from the left -/
def posT {α : Type} (xs : List α) (k : Int) : R α := if decide (0 ≤ k) then (match xs[k.toNat]? with
  | some x => ok x
  | none => none) else none
section
variable {C : Cc} {β : Type} {A : Env} {m : R β} {a e j : E}
def KLr (C : Cc) {β : Type} (t : Bool) (r : Res) (A : Env) (m : R β) (Q : Res → Env → R β → Prop) : Prop := live C m → ∃ n, rd r A = some (.int n) ∧ (decide (-(2 ^ 62) ≤ n) && decide (n ≤ 16777216)) = true ∧ Q (.val (if t then .tup (ranged 0 n) else .lst .ow (ranged 0 n))) A m
theorem we_lrg {t : Bool} {Q : Res → Env → R β → Prop} (h : WE C A a m fun r A1 m1 => KLr C t r A1 m1 Q) : WE C A (.lrg t a) m Q := by
  refine w_eq (run := fun ρ => bnd (runE C.cf C.ios a ρ) fun r ρ1 => match rd r ρ1 with
    | some (.int j) => if decide (-(2 ^ 62) ≤ j) && decide (j ≤ 16777216) then some (.ok (.val (if t then .tup (ranged 0 j) else .lst .ow (ranged 0 j))) ρ1) else none
    | _ => none) (w_bnd (w_imp h fun r A1 k => ?_)) fun ρ => by rw [runE] <;> rfl
  refine fun ρ s l => ?_
  obtain ⟨n, h1, h2, q⟩ := k l
  refine .inl ⟨_, ρ, A1, ?_, s, q⟩
  show (match rd r ρ with | some (.int j) => _ | _ => _) = _
  rw [rd_sat s h1]
  simp only [h2, if_true]
theorem k_lrg {t : Bool} {n : Int} {r : Res} {k : List Int → R β} {Q : Res → Env → R β → Prop} (h : rd r A = some (.int n)) (q : ∀ xs : List Int, Q (.val (if t then .tup (xs.map D.int) else .lst .ow (xs.map D.int))) A (k xs)) : KLr C t r A (tb (rgLT n) k) Q := fun l => by
  unfold rgLT at l
  by_cases hc : (decide (-(2 ^ 62) ≤ n) && decide (n ≤ 16777216)) = true
  · refine ⟨n, h, hc, ?_⟩
    rw [ranged_I]
    unfold rgLT
    rw [if_pos hc, tb_ok]
    exact q _
  · rw [if_neg hc] at l
    exact l.elim
theorem k_rev {α : Type} {o : Ow} {E : α → D} {xs : List α} {r : Res} {Q : Res → Env → R β → Prop} (h1 : rd r A = some (.lst o (xs.map E))) (q : Q (.val (.lst .ow (xs.reverse.map E))) A m) : K1 C .rev r A m Q := fun _ => ⟨_, _, h1, rfl, by rw [← List.map_reverse]; exact q⟩
theorem o2_isO {α : Type} {E : α → D} {x : Option α} (h : ∀ y, isNon (E y) = false) : o2D .is_ (eO E x) .non = some (.bl x.isNone) := by
  cases x with
  | none => rfl
  | some y =>
    have e : ∀ d : D, o2D .is_ d .non = some (.bl (isNon d)) := fun d => by cases d <;> rfl
    rw [e]
    show some (D.bl (isNon (E y))) = _
    rw [h y]
    rfl
theorem o2_isS {α : Type} {E : α → D} {x : Option α} (h : ∀ y, isNon (E y) = false) : o2D .isnot (eO E x) .non = some (.bl x.isSome) := by
  cases x with
  | none => rfl
  | some y =>
    have e : ∀ d : D, o2D .isnot d .non = some (.bl (!isNon d)) := fun d => by cases d <;> rfl
    rw [e]
    show some (D.bl (!isNon (E y))) = _
    rw [h y]
    rfl
theorem fl_o {α : Type} {E : α → D} {x : Option α} (h : ∀ y, flat (E y) = true) : flat (eO E x) = true := by
  cases x with
  | none => rfl
  | some y => exact h y
theorem ki_t {s1 s2 : List S} {Q : Fl → Env → R β → Prop} (h : WS C A s1 m Q) : KIte C true s1 s2 A m Q := h
theorem ki_f {s1 s2 : List S} {Q : Fl → Env → R β → Prop} (h : WS C A s2 m Q) : KIte C false s1 s2 A m Q := h
theorem w1_augIx {i : Nat} {o : O2} {d0 : D} {Q : Fl → Env → R β → Prop} (h0 : gt A i = some d0) (h : WE C A j m fun rj A1 m1 => ∃ (k : Int) (xs : List Int) (c1 : Int → R β), rd rj A1 = some (.int k) ∧ gt A1 i = some (.lst .ow (xs.map D.int)) ∧ m1 = tb (posT xs k) c1 ∧
    ∀ x, WE C A1 e (c1 x) fun r A2 m2 => ∃ (y z : Int) (ys : List Int) (c2 : List Int → R β), rd r A2 = some (.int y) ∧ augF o x y = some z ∧ gt A2 i = some (.lst .ow (ys.map D.int)) ∧ m2 = tb (putT ys k z) c2 ∧ ∀ zs, Q .nx (A2.set i (some (.lst .ow (zs.map D.int)))) (c2 zs)) : W1 C A (.augIx (.v i) j o e) m Q := by
  refine w_eq (run := fun ρ => opt (gt ρ i) fun _ => bnd (runE C.cf C.ios j ρ) fun rj ρ1 => match rd rj ρ1 with
      | some (.int k) => opt (gt ρ1 i) fun d => (match d with
        | .lst .ow ds => if decide (0 ≤ k) then (match ds[k.toNat]? with
          | some (.int x) => bnd (runE C.cf C.ios e ρ1) fun r ρ2 => match rd r ρ2 with
            | some (.int y) => opt (augF o x y) fun z => opt (gt ρ2 i) fun d2 => (match d2 with
              | .lst .ow ds2 => opt (L2.ixN ds2.length k) fun q => some (.ok .nx (ρ2.set i (some (.lst .ow (ds2.set q (.int z))))))
              | _ => none)
            | _ => none
          | _ => none) else none
        | _ => none)
      | _ => none) ?_ fun ρ => by rw [runS] <;> rfl
  refine w_opt (a := d0) (fun ρ s => s.at_ i d0 h0) ?_
  refine w_bnd (w_imp h fun rj A1 kk => ?_)
  obtain ⟨k, xs, c1, h1, h2, rfl, h3⟩ := kk
  refine w_live fun l => ?_
  have lp : ∃ x, posT xs k = ok x ∧ 0 ≤ k ∧ xs[k.toNat]? = some x := by
    rcases live_tb l with ⟨x, e⟩ | ⟨c, d, e, _⟩
    · refine ⟨x, e, ?_⟩
      unfold posT at e
      split at e
      · rename_i hk
        split at e
        · rename_i y hy
          rw [ok_inj] at e
          exact ⟨by simpa using hk, by rw [hy, e]⟩
        · cases e
      · cases e
    · unfold posT at e
      split at e
      · split at e <;> cases e
      · cases e
  obtain ⟨x, e1, hk, hx⟩ := lp
  rw [e1, tb_ok]
  have eq : ∀ ρ, Sat A1 ρ → (match rd rj ρ with
      | some (.int k) => opt (gt ρ i) fun d => (match d with
        | .lst .ow ds => if decide (0 ≤ k) then (match ds[k.toNat]? with
          | some (.int x) => bnd (runE C.cf C.ios e ρ) fun r ρ2 => match rd r ρ2 with
            | some (.int y) => opt (augF o x y) fun z => opt (gt ρ2 i) fun d2 => (match d2 with
              | .lst .ow ds2 => opt (L2.ixN ds2.length k) fun q => some (.ok .nx (ρ2.set i (some (.lst .ow (ds2.set q (.int z))))))
              | _ => none)
            | _ => none
          | _ => none) else none
        | _ => none)
      | _ => none : M Fl) = bnd (runE C.cf C.ios e ρ) fun r ρ2 => match rd r ρ2 with
            | some (.int y) => opt (augF o x y) fun z => opt (gt ρ2 i) fun d2 => (match d2 with
              | .lst .ow ds2 => opt (L2.ixN ds2.length k) fun q => some (.ok .nx (ρ2.set i (some (.lst .ow (ds2.set q (.int z))))))
              | _ => none)
            | _ => none := fun ρ s => by
    rw [rd_sat s h1]
    simp only [s.at_ i _ h2, opt_some, hk, decide_true, if_true, List.getElem?_map, hx, Option.map_some]
  refine fun ρ s l2 => ?_
  have go : W C (fun ρ => bnd (runE C.cf C.ios e ρ) fun r ρ2 => match rd r ρ2 with
            | some (.int y) => opt (augF o x y) fun z => opt (gt ρ2 i) fun d2 => (match d2 with
              | .lst .ow ds2 => opt (L2.ixN ds2.length k) fun q => some (.ok .nx (ρ2.set i (some (.lst .ow (ds2.set q (.int z))))))
              | _ => none)
            | _ => none) A1 (c1 x) Q := by
    refine w_bnd (w_imp (h3 x) fun r A2 kk => ?_)
    obtain ⟨y, z, ys, c2, g1, g2, g3, g4, g5⟩ := kk
    rw [g4]
    refine fun ρ s l3 => ?_
    rcases live_tb l3 with ⟨zs, e3⟩ | ⟨c, d, e3, _⟩
    · unfold putT at e3
      cases hq : L2.ixN ys.length k with
      | none => rw [hq] at e3; cases e3
      | some q =>
        rw [hq] at e3
        simp only [ok_inj] at e3
        refine .inl ⟨.nx, ρ.set i (some (.lst .ow ((ys.map D.int).set q (.int z)))), A2.set i (some (.lst .ow (zs.map D.int))), ?_, ?_, ?_⟩
        · show (match rd r ρ with | some (.int y) => _ | _ => _) = _
          rw [rd_sat s g1]
          simp only [g2, opt_some, s.at_ i _ g3, List.length_map, hq]
        · rw [← e3, List.map_set]
          exact s.set i _
        · unfold putT
          rw [hq]
          simp only [e3, tb_ok]
          exact g5 zs
    · unfold putT at e3
      split at e3 <;> cases e3
  rcases go ρ s l2 with ⟨g, ρ', A', e5, z⟩ | ⟨c, d, ρ', e5, z⟩
  · exact .inl ⟨g, ρ', A', (eq ρ s).trans e5, z⟩
  · exact .inr ⟨c, d, ρ', (eq ρ s).trans e5, z⟩
end
end Cov.Sm

/-! Sim8: try in typed runs. -/
namespace Cov.Sm
open PySem
theorem CallOk.nx {tr t2 : Bool} {cf : CF} {io : List Bool} {f : Str} {as : List D} {α : Type} {m : R α} {ret : α → D} {fins : α → List D} (c : CallOk tr cf io f as m ret fins) : CallOk t2 cf io f as (nx m) ret fins :=
  ⟨fun a e => c.ok_ a (nx_eq e), fun _ _ _ e => (nx_ne e).elim⟩
theorem roAll {io : List Bool} (h : io.all (fun b => !b) = true) : ∀ k, io.getD k false = false := fun k => by
  rw [List.getD_eq_getElem?_getD]
  cases e : io[k]? with
  | none => rfl
  | some b =>
    have := List.all_eq_true.mp h b (List.mem_of_getElem? e)
    simpa using this
theorem ioRo {io : List Bool} {rs : List Res} (h : io.all (fun b => !b) = true) : ∀ fin : List D, fin.length = rs.length → ioEq io fin (rs.map fun _ => .non) := fun fin e => ioEq_ro (roAll h) (by rw [e, List.length_map])
section
variable {C : Cc} {β : Type} {A : Env} {m : R β}
/-- an instance is made; its __init__ may raise -/
theorem kmk_x {α : Type} {io : List Bool} {cl : Str} {rs : List Res} {as : List D} {mf : R α} {self : α → D} {fins : α → List D} {z : Bool} {k : α → R β} {Q : Res → Env → R β → Prop} (cc : CallOk true C.cf io cl as mf (fun _ => .non) (fun a => self a :: fins a)) (ha : argsOf A io (.val (.ins .ow cl [] []) :: rs) = some as) (hp : (apartOk io (.val (.ins .ow cl [] []) :: rs) && io.headD false) = true)
    (hl : ∀ a, (fins a).length = rs.length) (hz : ∀ a, (!((placesOf false io (.val (.ins .ow cl [] []) :: rs)).isEmpty || flatIo io (self a :: fins a))) = z) (hi : io.tail.all (fun b => !b) = true) (hla : as.length = rs.length + 1)
    (hx : ∀ ρ, Sat (backs (!((placesOf false io (.val (.ins .ow cl [] []) :: rs)).isEmpty)) io.tail rs (rs.map fun _ => .non) A) ρ → C.x ρ) (q : ∀ a, Q (.val (frz (self a))) (backs z io (.val (.ins .ow cl [] []) :: rs) (self a :: fins a) A) (k a)) : KMk C io cl rs A (tb mf k) Q := fun ρ s l => by
  cases hm : mf with
  | none => rw [hm] at l; exact l.elim
  | some o => cases o with
    | ok a =>
      have h2 := kmk (C := C) (k := k) (mf := nx mf) (z := z) (cc.nx (t2 := false)) ha hp hl hz (fun _ _ _ => nx_ne) q
      have e : nx mf = ok a := by rw [hm]; rfl
      rw [e] at h2
      exact h2 ρ s (by rw [hm] at l; exact l)
    | ex c2 d2 =>
      obtain ⟨fin, e1, e2⟩ := cc.ex_ rfl c2 d2 hm
      cases fin with
      | nil => rw [hla] at e2; cases e2
      | cons f0 fin =>
        have hfl : fin.length = rs.length := by
          simp only [List.length_cons] at e2
          omega
        refine .inr ⟨c2, d2, backs (!((placesOf false io (.val (.ins .ow cl [] []) :: rs)).isEmpty)) io.tail rs fin ρ, ?_, rfl, hx _ (backs_sat s (ioRo hi fin hfl))⟩
        show doMake C.cf io cl rs ρ = _
        unfold doMake
        rw [args_sat s ha, opt_some, if_pos hp, e1, opt_some]
        simp only [List.length_cons, hfl, if_true, backs]
theorem w_none {γ : Type} {run : Env → M γ} {Q : γ → Env → R β → Prop} : W C run A none Q := fun _ _ l => l.elim
theorem w1_tryN {σ γ : Type} {bs hs : List S} {x : Str} {mb mh : R (Stp σ γ)} {r : γ → R β} {k : σ → R β} {Q : Fl → Env → R β → Prop} (AX : Env) (AL : σ → Env) (AR : γ → Env) (rv : γ → D) (hb : WS (tryC C AX) A bs mb (QT AL AR rv)) (hh : WS C AX hs mh (QT AL AR rv))
    (qr : ∀ g, Q (.rt (rv g)) (AR g) (r g)) (q : ∀ s, Q .nx (AL s) (k s)) : W1 C A (.try_ bs x none hs) (tb (catchT mb x (nx mh)) fun o => outS o r k) Q := by
  refine w1_try AX AL AR rv hb ?_ (fun _ _ => nx_ne) qr q
  cases mh with
  | none => exact hh
  | some o => cases o with
    | ok a => exact hh
    | ex c d => exact w_none
/-- no slot holds an exception -/
def ndL : Env → Prop
  | [] => True
  | none :: A => ndL A
  | some d :: A => noDic d = true ∧ ndL A
theorem nl_nil : ndL [] := trivial
theorem nl_none {A : Env} (h : ndL A) : ndL (none :: A) := h
theorem nl_some {A : Env} {d : D} (z : noDic d = true) (h : ndL A) : ndL (some d :: A) := ⟨z, h⟩
theorem ndL_at : ∀ {A : Env}, ndL A → ∀ j d, gt A j = some d → noDic d = true
  | none :: A, h, 0, d, e => by simp at e
  | none :: A, h, j + 1, d, e => by simp at e; exact ndL_at (A := A) h j d e
  | some x :: A, h, 0, d, e => by simp at e; rw [← e]; exact h.1
  | some x :: A, h, j + 1, d, e => by simp at e; exact ndL_at h.2 j d e
  | [], h, j, d, e => by simp [gt] at e
theorem w1_tryAsN {σ γ : Type} {bs hs : List S} {x f : Str} {i : Nat} {mb : R (Stp σ γ)} {mh : Int → R (Stp σ γ)} {r : γ → R β} {k : σ → R β} {Q : Fl → Env → R β → Prop} (AX : Env) (AL : σ → Env) (AR : γ → Env) (rv : γ → D) (hb : WS (tryC C AX) A bs mb (QT AL AR rv)) (hh : ∀ n, WS C (AX.set i (some (.dic .fz [.str f] [.int n]))) hs (mh n) fun fl A' m' => QT AL AR rv fl (A'.set i none) m' ∧ ndL (A'.set i none) ∧ noDicF fl = true)
    (qr : ∀ g, Q (.rt (rv g)) (AR g) (r g)) (q : ∀ s, Q .nx (AL s) (k s)) : W1 C A (.try_ bs x (some (i, f)) hs) (tb (catchF mb x f fun n => nx (mh n)) fun o => outS o r k) Q := by
  refine w1_tryAs AX AL AR rv hb (fun n => ?_) (fun _ _ _ => nx_ne) qr q
  have h := hh n
  cases hm : mh n with
  | none => exact w_none
  | some o => cases o with
    | ok a =>
      rw [hm] at h
      exact w_imp h fun fl A' z => ⟨z.1, fun j d e => ndL_at z.2.1 j d e, z.2.2⟩
    | ex c d => exact w_none
end
section
variable {α β γ δ : Type}
theorem nd_map {E : α → D} (h : ∀ x, noDic (E x) = true) : ∀ xs : List α, noDicL (xs.map E) = true
  | [] => rfl
  | x :: xs => by simp only [List.map_cons, noDicL, h x, nd_map h xs, Bool.and_self]
theorem nd_tup {E : α → D} {xs : List α} (h : ∀ x, noDic (E x) = true) : noDic (.tup (xs.map E)) = true := by simpa only [noDic] using nd_map h xs
theorem nd_lst {o : Ow} {E : α → D} {xs : List α} (h : ∀ x, noDic (E x) = true) : noDic (.lst o (xs.map E)) = true := by simpa only [noDic] using nd_map h xs
theorem nd_o {E : α → D} (h : ∀ x, noDic (E x) = true) {x : Option α} : noDic (eO E x) = true := by
  cases x with
  | none => rfl
  | some y => exact h y
theorem nd_p2 {E1 : α → D} {E2 : β → D} {p : α × β} (h1 : ∀ x, noDic (E1 x) = true) (h2 : ∀ x, noDic (E2 x) = true) : noDic (eP2 E1 E2 p) = true := by simp [eP2, noDic, noDicL, h1, h2]
theorem nd_p3 {E1 : α → D} {E2 : β → D} {E3 : γ → D} {p : α × β × γ} (h1 : ∀ x, noDic (E1 x) = true) (h2 : ∀ x, noDic (E2 x) = true) (h3 : ∀ x, noDic (E3 x) = true) : noDic (eP3 E1 E2 E3 p) = true := by simp [eP3, noDic, noDicL, h1, h2, h3]
theorem nd_i1 {c f1 : Str} {E1 : α → D} {p : α} (h1 : ∀ x, noDic (E1 x) = true) : noDic (eI1 c f1 E1 p) = true := by simp [eI1, noDic, noDicL, h1]
theorem nd_i2 {c f1 f2 : Str} {E1 : α → D} {E2 : β → D} {p : α × β} (h1 : ∀ x, noDic (E1 x) = true) (h2 : ∀ x, noDic (E2 x) = true) : noDic (eI2 c f1 f2 E1 E2 p) = true := by simp [eI2, noDic, noDicL, h1, h2]
theorem nd_i3 {c f1 f2 f3 : Str} {E1 : α → D} {E2 : β → D} {E3 : γ → D} {p : α × β × γ} (h1 : ∀ x, noDic (E1 x) = true) (h2 : ∀ x, noDic (E2 x) = true) (h3 : ∀ x, noDic (E3 x) = true) : noDic (eI3 c f1 f2 f3 E1 E2 E3 p) = true := by simp [eI3, noDic, noDicL, h1, h2, h3]
end
end Cov.Sm

/-! Sim9: max, min, sum, abs, in; alternatives. -/
namespace Cov.Sm
open PySem
def maxT (xs : List Int) : R Int := match maxL xs with
  | some m => ok m
  | none => none
def minT (xs : List Int) : R Int := match minL xs with
  | some m => ok m
  | none => none
def absI (i : Int) : Int := if i < 0 then -i else i
def inT {α : Type} [DecidableEq α] (x : α) (xs : List α) : Bool := xs.any fun y => decide (y = x)
section
variable {C : Cc} {β : Type} {A : Env} {m : R β} {a b : E}
theorem ints_map : ∀ xs : List Int, intsOf (xs.map D.int) = some xs
  | [] => rfl
  | x :: xs => by simp [intsOf, intOf, ints_map xs]
theorem max_seq {d : D} {ds : List D} (h : seqOf d = some ds) : o1D .max_ d = (intsOf ds).bind fun is => (maxL is).map .int := by
  show ((seqOf d).bind fun ds => (intsOf ds).bind fun is => (maxL is).map D.int) = _
  rw [h]
  rfl
theorem min_seq {d : D} {ds : List D} (h : seqOf d = some ds) : o1D .min_ d = (intsOf ds).bind fun is => (minL is).map .int := by
  show ((seqOf d).bind fun ds => (intsOf ds).bind fun is => (minL is).map D.int) = _
  rw [h]
  rfl
theorem k_max {r : Res} {d : D} {xs : List Int} {c : Int → R β} {Q : Res → Env → R β → Prop} (h : rd r A = some d) (e : seqOf d = some (xs.map D.int)) (q : ∀ z, Q (.val (.int z)) A (c z)) : K1 C .max_ r A (tb (maxT xs) c) Q := by
  refine k1_t (E := D.int) h (fun _ _ e => ?_) (fun z e2 => ?_) q
  · unfold maxT at e; split at e <;> simp [ok] at e
  · unfold maxT at e2
    split at e2
    · rename_i m hm
      have e2 := some_ok e2
      subst e2
      rw [max_seq e, ints_map, Option.bind_some, hm]
      rfl
    · cases e2
theorem k_min {r : Res} {d : D} {xs : List Int} {c : Int → R β} {Q : Res → Env → R β → Prop} (h : rd r A = some d) (e : seqOf d = some (xs.map D.int)) (q : ∀ z, Q (.val (.int z)) A (c z)) : K1 C .min_ r A (tb (minT xs) c) Q := by
  refine k1_t (E := D.int) h (fun _ _ e => ?_) (fun z e2 => ?_) q
  · unfold minT at e; split at e <;> simp [ok] at e
  · unfold minT at e2
    split at e2
    · rename_i m hm
      have e2 := some_ok e2
      subst e2
      rw [min_seq e, ints_map, Option.bind_some, hm]
      rfl
    · cases e2
theorem sum_ints {o : Ow} (xs : List Int) : o1D .sum_ (.lst o (xs.map D.int)) = some (.int (List.sum xs)) := by
  show (intsOf (xs.map D.int)).map (fun is => D.int is.sum) = _
  rw [ints_map]
  rfl
theorem k_sum {r : Res} {o : Ow} {xs : List Int} {Q : Res → Env → R β → Prop} (h : rd r A = some (.lst o (xs.map D.int))) (q : Q (.val (.int (List.sum xs))) A m) : K1 C .sum_ r A m Q := k1_p h (sum_ints xs) q
theorem pe_sum {o : Ow} {xs : List Int} (h : PR C A a (.lst o (xs.map D.int))) : PE C A (.o1 .sum_ a) (.int (List.sum xs)) := pe_o1 h (sum_ints xs)
end
section
variable {α : Type} [DecidableEq α]
theorem py_any {E : α → D} {p : α → PyData} {n : Nat} (h : PyE E p n) (x : α) : ∀ xs : List α, ((xs.map p).any fun z => PyData.eqv z (p x)) = inT x xs
  | [] => rfl
  | y :: xs => by
    have ih := py_any h x xs
    simp only [List.map_cons, List.any_cons, inT] at ih ⊢
    rw [ih, h.eq]
theorem inDs_of {E : α → D} {p : α → PyData} {n : Nat} (h : PyE E p n) (hn : n ≤ 63) (x : α) (xs : List α) : inDs (E x) (xs.map E) = some (inT x xs) := by
  have h1 := h.dep x
  have h2 := py_all_lay h xs
  have h3 : (p x).depth ≤ 64 := by omega
  have h4 : PyData.depthAll (xs.map p) + 1 ≤ 64 := by omega
  unfold inDs
  simp only [h.to, py_all_to h, Option.bind_some, SeqAt.shaped, h.lay, Bool.true_and, PyData.canLay0, h2.1, PyData.depth, py_any h]
  simp [h3]
  omega
theorem o2_inl {o : Ow} {E : α → D} {p : α → PyData} {n : Nat} (h : PyE E p n) (hn : n ≤ 63) {x : α} {xs : List α} : o2D .in_ (E x) (.lst o (xs.map E)) = some (.bl (inT x xs)) := by
  show (inDs (E x) (xs.map E)).map D.bl = _
  rw [inDs_of h hn]
  rfl
theorem o2_notinl {o : Ow} {E : α → D} {p : α → PyData} {n : Nat} (h : PyE E p n) (hn : n ≤ 63) {x : α} {xs : List α} : o2D .notin (E x) (.lst o (xs.map E)) = some (.bl (!inT x xs)) := by
  show (inDs (E x) (xs.map E)).map (fun k => D.bl (!k)) = _
  rw [inDs_of h hn]
  rfl
theorem in_tup {x : D} {ds : List D} (h : (flD x && ds.all flD) = true) : inD x (.tup ds) = inDs x ds := by
  show (if (flD x && ds.all flD) = true then inDs x ds else none) = _
  rw [if_pos h]
theorem fl_all {E : α → D} (f : ∀ x, flD (E x) = true) (x : α) (xs : List α) : (flD (E x) && (xs.map E).all flD) = true := by
  rw [f x, Bool.true_and, List.all_map, List.all_eq_true]
  exact fun y _ => f y
theorem o2_int {E : α → D} {p : α → PyData} {n : Nat} (h : PyE E p n) (hn : n ≤ 63) (f : ∀ x, flD (E x) = true) {x : α} {xs : List α} : o2D .in_ (E x) (.tup (xs.map E)) = some (.bl (inT x xs)) := by
  have e : o2D .in_ (E x) (.tup (xs.map E)) = (inD (E x) (.tup (xs.map E))).map D.bl := (rfl)
  rw [e, in_tup (fl_all f x xs), inDs_of h hn]
  rfl
theorem o2_notint {E : α → D} {p : α → PyData} {n : Nat} (h : PyE E p n) (hn : n ≤ 63) (f : ∀ x, flD (E x) = true) {x : α} {xs : List α} : o2D .notin (E x) (.tup (xs.map E)) = some (.bl (!inT x xs)) := by
  have e : o2D .notin (E x) (.tup (xs.map E)) = (inD (E x) (.tup (xs.map E))).map fun k => D.bl (!k) := (rfl)
  rw [e, in_tup (fl_all f x xs), inDs_of h hn]
  rfl
end
/-- texts of true signs -/
abbrev Sx := { s : Str // PyData.strOk s = true }
def eS (s : Sx) : D := .str s.1
def sx (s : Str) (h : PyData.strOk s = true := by decide +kernel) : Sx := ⟨s, h⟩
theorem py_str : PyE eS (fun s => PyData.str s.1) 0 := ⟨fun x => by rw [eS, toPy], fun x y => by by_cases h : x = y <;> simp [PyData.eqv, h, Subtype.ext_iff] <;> (try exact fun e => h (Subtype.ext e)), fun x => by simp [PyData.canLay0, x.2], fun x => by simp [PyData.depth]⟩
example : Sx := sx "end"
section
variable {α β γ δ : Type}
/-! ### alternatives -/
def eU (E : α → D) (F : β → D) : α ⊕ β → D
  | .inl x => E x
  | .inr y => F y
def fstU : (α × β) ⊕ (α × γ) → α
  | .inl p => p.1
  | .inr p => p.1
def leftT : α ⊕ β → R α
  | .inl x => ok x
  | .inr _ => none
def rightT : α ⊕ β → R β
  | .inl _ => none
  | .inr y => ok y
@[simp] theorem leftT_l (x : α) : leftT (.inl x : α ⊕ β) = ok x := (rfl)
@[simp] theorem rightT_r (x : β) : rightT (.inr x : α ⊕ β) = ok x := (rfl)
@[simp] theorem fstU_l (p : α × β) : fstU (.inl p : (α × β) ⊕ (α × γ)) = p.1 := (rfl)
@[simp] theorem fstU_r (p : α × γ) : fstU (.inr p : (α × β) ⊕ (α × γ)) = p.1 := (rfl)
theorem py_u [DecidableEq α] [DecidableEq β] {E : α → D} {F : β → D} {p : α → PyData} {q : β → PyData} {n m : Nat} (h : PyE E p n) (k : PyE F q m) (d1 : ∀ x y, PyData.eqv (p x) (q y) = false) (d2 : ∀ x y, PyData.eqv (q y) (p x) = false) : PyE (eU E F) (fun u => match u with | .inl x => p x | .inr y => q y) (n + m) := by
  refine ⟨fun u => ?_, fun u v => ?_, fun u => ?_, fun u => ?_⟩
  · cases u with
    | inl x => exact h.to x
    | inr y => exact k.to y
  · cases u with
    | inl x => cases v with
      | inl y => simp [h.eq]
      | inr y => simp [d1]
    | inr x => cases v with
      | inl y => simp [d2]
      | inr y => simp [k.eq]
  · cases u with
    | inl x => exact h.lay x
    | inr y => exact k.lay y
  · cases u with
    | inl x => have := h.dep x; show (p x).depth ≤ _; omega
    | inr y => have := k.dep y; show (q y).depth ≤ _; omega
theorem fl_u {E : α → D} {F : β → D} {u : α ⊕ β} (h : ∀ x, flat (E x) = true) (k : ∀ y, flat (F y) = true) : flat (eU E F u) = true := by
  cases u with
  | inl x => exact h x
  | inr y => exact k y
theorem nd_u {E : α → D} {F : β → D} {u : α ⊕ β} (h : ∀ x, noDic (E x) = true) (k : ∀ y, noDic (F y) = true) : noDic (eU E F u) = true := by
  cases u with
  | inl x => exact h x
  | inr y => exact k y
theorem fz_u {E : α → D} {F : β → D} {u : α ⊕ β} (h : ∀ x, isFz (E x) = true) (k : ∀ y, isFz (F y) = true) : isFz (eU E F u) = true := by
  cases u with
  | inl x => exact h x
  | inr y => exact k y
theorem fz_o {E : α → D} {u : Option α} (h : ∀ x, isFz (E x) = true) : isFz (eO E u) = true := by
  cases u with
  | none => rfl
  | some y => exact h y
theorem o2_fstU {E : α → D} {F : β → D} {G : γ → D} {u : (α × β) ⊕ (α × γ)} : o2D .ix (eU (eP2 E F) (eP2 E G) u) (.int 0) = some (E (fstU u)) := by cases u <;> rfl
end
section
variable {C : Cc} {σ : Type} {A : Env} {m : R σ} {α β γ : Type}
theorem k_left {r r' : Res} {E : α → D} {F : β → D} {G : γ → D} {u : (α × β) ⊕ γ} {c : α × β → R σ} {Q : Res → Env → R σ → Prop} (h1 : rd r A = some (eU (eP2 E F) G u)) (h2 : rd r' A = some (.int 1)) (q : ∀ p : α × β, Q (.val (F p.2)) A (c p)) : K2 C .ix r r' A (tb (leftT u) c) Q := by
  refine k2_t (E := fun p : α × β => F p.2) h1 h2 (fun _ _ e => ?_) (fun z e2 => ?_) q
  · cases u <;> cases e
  · cases u with
    | inl p =>
      have e2 := some_ok e2
      subst e2
      rfl
    | inr y => cases e2
end
section
variable {C : Cc} {β : Type} {A : Env} {m : R β} {a b : E}
theorem we_andF {Q : Res → Env → R β → Prop} (h : PE C A a (.bl false)) (q : Q (.val (.bl false)) A m) : WE C A (.and_ a b) m Q :=
  w_eq (w_bnd (we_pe h (w_bl rfl (w_pure q)))) fun ρ => e_and a b
theorem we_andT {Q : Res → Env → R β → Prop} (h : PE C A a (.bl true)) (hb : WE C A b m fun r A1 m1 => ∃ q, rd r A1 = some (.bl q) ∧ Q (.val (.bl q)) A1 m1) : WE C A (.and_ a b) m Q :=
  w_eq (w_bnd (we_pe h (w_bl rfl (w_bnd (w_imp hb fun r A1 ⟨q, h1, h2⟩ => w_bl h1 (w_pure h2)))))) fun ρ => e_and a b
theorem we_orT {Q : Res → Env → R β → Prop} (h : PE C A a (.bl true)) (q : Q (.val (.bl true)) A m) : WE C A (.or_ a b) m Q :=
  w_eq (w_bnd (we_pe h (w_bl rfl (w_pure q)))) fun ρ => e_or a b
theorem we_orF {Q : Res → Env → R β → Prop} (h : PE C A a (.bl false)) (hb : WE C A b m fun r A1 m1 => ∃ q, rd r A1 = some (.bl q) ∧ Q (.val (.bl q)) A1 m1) : WE C A (.or_ a b) m Q :=
  w_eq (w_bnd (we_pe h (w_bl rfl (w_bnd (w_imp hb fun r A1 ⟨q, h1, h2⟩ => w_bl h1 (w_pure h2)))))) fun ρ => e_or a b
end
end Cov.Sm

/-! Sim10: while. -/
namespace Cov.Sm
open PySem
def whlT {σ γ : Type} (c : σ → R Bool) (f : σ → R (Stp σ γ)) (s : σ) : R (Stp σ γ) := match c s with
  | none => none
  | some (.ex x d) => some (.ex x d)
  | some (.ok k) => if k then (match f s with
      | none => none
      | some (.ex x d) => some (.ex x d)
      | some (.ok (.nx s')) => whlT c f s'
      | some (.ok (.bk s')) => some (.ok (.bk s'))
      | some (.ok (.rt b)) => some (.ok (.rt b)))
    else some (.ok (.nx s))
partial_fixpoint
theorem whlT_step {σ γ : Type} (c : σ → R Bool) (f : σ → R (Stp σ γ)) (s : σ) : whlT c f s = tb (c s) fun k => if k then tb (f s) fun o => goS o (whlT c f) else ok (.nx s) := by
  rw [whlT]
  cases c s with
  | none => rfl
  | some o => cases o with
    | ex x d => rfl
    | ok k =>
      cases k with
      | false => rfl
      | true =>
        cases f s with
        | none => rfl
        | some o => cases o with
          | ex x d => rfl
          | ok o => cases o <;> rfl
theorem whl_run {c : Env → M Bool} {b : Env → M Fl} : ∀ (n : Nat) (ρ : Env) (r : Out Fl), whlN c b n ρ = some r → whl c b ρ = some r
  | 0, ρ, r, h => by cases h
  | n + 1, ρ, r, h => by
    rw [whl]
    simp only [whlN] at h
    cases hc : c ρ with
    | none => rw [hc] at h; cases h
    | some o =>
      rw [hc] at h
      cases o with
      | ex x d ρ1 => exact h
      | ok k ρ1 =>
        cases k with
        | false => exact h
        | true =>
          simp only [if_true] at h ⊢
          cases hb : b ρ1 with
          | none => rw [hb] at h; cases h
          | some o2 =>
            rw [hb] at h
            cases o2 with
            | ex x d ρ2 => exact h
            | ok fl ρ2 =>
              cases fl with
              | bk => exact h
              | rt d => exact h
              | nx => exact whl_run n ρ2 r h
              | ct => exact whl_run n ρ2 r h
section
variable {C : Cc} {β σ γ : Type} {c : E} {b : List S} {ct : σ → R Bool} {ft : σ → R (Stp σ γ)} {AL : σ → Env} {AR : γ → Env} {rv : γ → D}
def condM (C : Cc) (c : E) : Env → M Bool := fun ρ => bnd (runE C.cf C.ios c ρ) fun r ρ1 => match rd r ρ1 with
      | some (.bl k) => some (.ok k ρ1)
      | _ => none
/-- what a loop's end is -/
def WhE (C : Cc) (AL : σ → Env) (AR : γ → Env) (rv : γ → D) (run : M Fl) : Rs (Stp σ γ) → Prop
  | .ok (.nx s) => ∃ ρ', run = some (.ok .nx ρ') ∧ Sat (AL s) ρ'
  | .ok (.bk s) => ∃ ρ', run = some (.ok .nx ρ') ∧ Sat (AL s) ρ'
  | .ok (.rt g) => ∃ ρ', run = some (.ok (.rt (rv g)) ρ') ∧ Sat (AR g) ρ'
  | .ex x d => C.tr = true → ∃ ρ', run = some (.ex x d ρ') ∧ C.x ρ'
theorem whl_go (hc : ∀ s, WE C (AL s) c (ct s) fun r A1 m1 => ∃ k, rd r A1 = some (.bl k) ∧ m1 = ok k ∧ Sub A1 (AL s)) (hb : ∀ s, WS C (AL s) b (ft s) (QF AL AR rv)) :
    ∀ (s : σ) (r : Rs (Stp σ γ)), whlT ct ft s = some r → ∀ ρ, Sat (AL s) ρ → WhE C AL AR rv (whl (condM C c) (fun ρ => runSs C.cf C.ios C.io b ρ) ρ) r := by
  refine whlT.partial_correctness ct ft (fun s r => ∀ ρ, Sat (AL s) ρ → WhE C AL AR rv (whl (condM C c) (fun ρ => runSs C.cf C.ios C.io b ρ) ρ) r) ?_
  intro go ih s r h ρ st
  have cw := hc s ρ st
  rw [whl]
  cases hct : ct s with
  | none => rw [hct] at h; cases h
  | some o =>
    rw [hct] at h cw
    cases o with
    | ex x d =>
      simp only at h
      cases h
      intro tr
      rcases cw tr with ⟨g, ρ', A', e, s', k, h1, h2, h3⟩ | ⟨x', d', ρ', e, e2, cx⟩
      · cases h2
      · cases e2
        refine ⟨ρ', ?_, cx⟩
        have e : runE C.cf C.ios c ρ = _ := e
        simp only [condM, e, bnd_ex]
    | ok k =>
      rcases cw trivial with ⟨g, ρ', A', e, s', k', h1, h2, h3⟩ | ⟨x', d', ρ', e, e2, cx⟩
      · cases h2
        have e : runE C.cf C.ios c ρ = _ := e
        have e1 : condM C c ρ = some (.ok k ρ') := by
          simp only [condM, e, bnd_ok, rd_sat s' h1]
        rw [e1]
        have s2 := h3 _ s'
        cases k with
        | false =>
          simp only [Bool.false_eq_true, if_false] at h ⊢
          cases h
          exact ⟨ρ', rfl, s2⟩
        | true =>
          simp only [if_true] at h ⊢
          have bw := hb s ρ' s2
          cases hft : ft s with
          | none => rw [hft] at h; cases h
          | some o2 =>
            rw [hft] at h bw
            cases o2 with
            | ex x d =>
              simp only at h
              cases h
              intro tr
              rcases bw tr with ⟨fl, ρ2, A2, e, s3, q⟩ | ⟨x', d', ρ2, e, e2, cx⟩
              · exfalso
                cases fl with
                | nx => obtain ⟨_, z, _⟩ := q; cases z
                | ct => obtain ⟨_, z, _⟩ := q; cases z
                | bk => obtain ⟨_, z, _⟩ := q; cases z
                | rt d => obtain ⟨_, z, _⟩ := q; cases z
              · cases e2
                have e : runSs C.cf C.ios C.io b ρ' = _ := e
                exact ⟨ρ2, by simp only [e], cx⟩
            | ok o3 =>
              rcases bw trivial with ⟨fl, ρ2, A2, e, s3, q⟩ | ⟨x', d', ρ2, e, e2, cx⟩
              · have e : runSs C.cf C.ios C.io b ρ' = _ := e
                cases fl with
                | nx =>
                  obtain ⟨s', z, w⟩ := q
                  cases z
                  simp only at h
                  simp only [e]
                  exact ih s' r h ρ2 (w _ s3)
                | ct =>
                  obtain ⟨s', z, w⟩ := q
                  cases z
                  simp only at h
                  simp only [e]
                  exact ih s' r h ρ2 (w _ s3)
                | bk =>
                  obtain ⟨s', z, w⟩ := q
                  cases z
                  simp only at h
                  cases h
                  exact ⟨ρ2, by simp only [e], w _ s3⟩
                | rt d =>
                  obtain ⟨g, z, rfl, w⟩ := q
                  cases z
                  simp only at h
                  cases h
                  exact ⟨ρ2, by simp only [e], w _ s3⟩
              · cases e2
      · cases e2
theorem w1_whl {A : Env} {s0 : σ} {r : γ → R β} {k : σ → R β} {Q : Fl → Env → R β → Prop} (AL : σ → Env) (AR : γ → Env) (rv : γ → D) (h0 : Sub A (AL s0)) (hc : ∀ s, WE C (AL s) c (ct s) fun r A1 m1 => ∃ k, rd r A1 = some (.bl k) ∧ m1 = ok k ∧ Sub A1 (AL s)) (hb : ∀ s, WS C (AL s) b (ft s) (QF AL AR rv))
    (qr : ∀ g, Q (.rt (rv g)) (AR g) (r g)) (q : ∀ s, Q .nx (AL s) (k s)) : W1 C A (.whl c b) (tb (whlT ct ft s0) fun o => outS o r k) Q := fun ρ s l => by
  have l2 : live C (whlT ct ft s0) := live_l (k := fun o => outS o r k) l
  have er : runS C.cf C.ios C.io (.whl c b) ρ = whl (condM C c) (fun ρ => runSs C.cf C.ios C.io b ρ) ρ := by rw [runS] <;> rfl
  cases hw : whlT ct ft s0 with
  | none => rw [hw] at l2; exact l2.elim
  | some o =>
    have g := whl_go hc hb s0 o hw ρ (h0 _ s)
    rw [hw] at l2
    cases o with
    | ex x d =>
      obtain ⟨ρ', e, cx⟩ := g l2
      exact .inr ⟨x, d, ρ', er.trans e, rfl, cx⟩
    | ok o =>
      cases o with
      | nx s1 => obtain ⟨ρ', e, s2⟩ := g; exact .inl ⟨.nx, ρ', AL s1, er.trans e, s2, q s1⟩
      | bk s1 => obtain ⟨ρ', e, s2⟩ := g; exact .inl ⟨.nx, ρ', AL s1, er.trans e, s2, q s1⟩
      | rt g1 => obtain ⟨ρ', e, s2⟩ := g; exact .inl ⟨.rt (rv g1), ρ', AR g1, er.trans e, s2, qr g1⟩
end
/-! sets of configurations -/
abbrev Cfg := List Int × List (List Int)
abbrev eCf : Cfg → D := eP2 (eT D.int) (eT (eT D.int))
def toCf (c : Cfg) : Cf := (⟨c.1⟩, ⟨c.2.map PySem.W.Tup.mk⟩)
def ofCf (c : Cf) : Cfg := (c.1.items, c.2.items.map (·.items))
def ssetC (cs : List Cfg) : R (List Cfg) := if (sortG ltC (cs.map toCf)).length ≤ 4095 then ok ((sortG ltC (cs.map toCf)).map ofCf) else none
theorem cfOf_e (c : Cfg) : cfOf (eCf c) = some (toCf c) := by
  show ((intsOf (c.1.map D.int)).bind fun m => (tupsOf (c.2.map (eT D.int))).map fun w => ((⟨m⟩, ⟨w.map PySem.W.Tup.mk⟩) : Cf)) = _
  rw [intsOf_map, tupsOf_eT]
  rfl
theorem cfsOf_e : ∀ cs : List Cfg, cfsOf (cs.map eCf) = some (cs.map toCf)
  | [] => rfl
  | c :: cs => by simp only [List.map_cons, cfsOf, cfOf_e, cfsOf_e cs, Option.bind_some, Option.map_some]
theorem cfD_e (c : Cf) : cfD c = eCf (ofCf c) := by
  show D.tup [.tup (c.1.items.map D.int), .tup (c.2.items.map fun t => .tup (t.items.map D.int))] = D.tup [.tup (c.1.items.map D.int), .tup ((c.2.items.map (·.items)).map (eT D.int))]
  rw [List.map_map]
  rfl
theorem k_ssetC {β : Type} {C : Cc} {A : Env} {o : Ow} {r : Res} {ts : List Cfg} {c : List Cfg → R β} {Q : Res → Env → R β → Prop} (h1 : rd r A = some (.lst o (ts.map eCf))) (q : ∀ z, Q (.val (.lst .ow (z.map eCf))) A (c z)) : K1 C .sortedset r A (tb (ssetC ts) c) Q := by
  refine k1_t (E := eLo .ow eCf) h1 (fun _ _ e => ?_) (fun z e => ?_) q
  · unfold ssetC at e; split at e <;> simp [ok] at e
  · unfold ssetC at e
    split at e
    · rename_i hz
      rw [← some_ok e]
      cases ts with
      | nil => rfl
      | cons t ts =>
        have e1 : tupsOf ((t :: ts).map eCf) = none := rfl
        simp only [o1D, e1, cfsOf_e, Option.bind_some]
        rw [if_pos hz]
        simp only [eLo, List.map_map]
        congr 2
        exact List.map_congr_left fun c _ => cfD_e c
    · cases e
end Cov.Sm

namespace Cov
open PySem
def ir__law_take : FD := { np := 2, ns := 2, io := [true, false], body := [.ite (.o2 .eq (.o1 .len (.v 0)) (.c (.int 0))) [.ret (.c (.int 0))] [],
  .ret (.o2 .mod (.o1 .int_ (.mu .pop (.v 0) [])) (.v 1))] }
def ir__law_marking : FD := { np := 3, ns := 4, io := [true, false, false], body := [.ret (.o1 .tuple_ (.comp false [3] (.call "_law_take" [(.v 0), (.o2 .add (.v 2) (.c (.int 1)))]) (.nm 3) (.r1 (.v 1)) none))] }
def ir__law_word : FD := { np := 3, ns := 4, io := [true, false, false], body := [.ret (.o1 .tuple_ (.comp false [3] (.call "_law_take" [(.v 0), (.v 1)]) (.nm 3) (.r1 (.call "_law_take" [(.v 0), (.o2 .add (.v 2) (.c (.int 1)))])) none))] }
def ir__law_config : FD := { np := 5, ns := 7, io := [true, false, false, false, false], body := [.set 5 (.call "_law_marking" [(.v 0), (.v 1), (.v 3)]),
  .ret (.tup [(.v 5), (.o1 .tuple_ (.comp false [6] (.call "_law_word" [(.v 0), (.v 6), (.v 4)]) (.nm 6) (.ex (.v 2)) none))])] }
def ir__law_covers : FD := { np := 2, ns := 3, io := [false, false], body := [.for_ (.nm 2) (.r1 (.o1 .len (.v 0))) [.ite (.o2 .lt (.o2 .ix (.v 0) (.v 2)) (.o2 .ix (.v 1) (.v 2))) [.ret (.c (.bl false))] []],
  .ret (.c (.bl true))] }
def ir__law_subword : FD := { np := 2, ns := 4, io := [false, false], body := [.set 2 (.c (.int 0)),
  .for_ (.nm 3) (.ex (.v 1)) [.ite (.and_ (.o2 .lt (.v 2) (.o1 .len (.v 0))) (.o2 .eq (.o2 .ix (.v 0) (.v 2)) (.v 3))) [.set 2 (.o2 .add (.v 2) (.c (.int 1)))] []],
  .ret (.o2 .eq (.v 2) (.o1 .len (.v 0)))] }
def ir__law_config_covers : FD := { np := 2, ns := 3, io := [false, false], body := [.ite (.not_ (.call "_law_covers" [(.o2 .ix (.v 0) (.c (.int 0))), (.o2 .ix (.v 1) (.c (.int 0)))])) [.ret (.c (.bl false))] [],
  .for_ (.nm 2) (.r1 (.o1 .len (.o2 .ix (.v 0) (.c (.int 1))))) [.ite (.not_ (.call "_law_subword" [(.o2 .ix (.o2 .ix (.v 1) (.c (.int 1))) (.v 2)), (.o2 .ix (.o2 .ix (.v 0) (.c (.int 1))) (.v 2))])) [.ret (.c (.bl false))] []],
  .ret (.c (.bl true))] }
def ir__law_config_inside : FD := { np := 2, ns := 3, io := [false, false], body := [.for_ (.nm 2) (.ex (.v 0)) [.ite (.call "_law_config_covers" [(.v 1), (.v 2)]) [.ret (.c (.bl true))] []],
  .ret (.c (.bl false))] }
def ir__law_config_least : FD := { np := 1, ns := 5, io := [false], body := [.set 1 (.lst false []),
  .for_ (.nm 2) (.ex (.o1 .sortedset (.v 0))) [.set 3 (.comp false [4] (.v 4) (.nm 4) (.ex (.v 0)) (some (.and_ (.o2 .ne (.v 4) (.v 2)) (.call "_law_config_covers" [(.v 2), (.v 4)])))), .ite (.o2 .eq (.o1 .len (.v 3)) (.c (.int 0))) [.ex (.mu .append (.v 1) [(.v 2)])] []],
  .ret (.v 1)] }
def ir__law_draws : FD := { np := 2, ns := 9, io := [false, false], body := [.set 2 (.o1 .list_ (.v 0)),
  .ite (.o2 .eq (.o1 .len (.v 2)) (.c (.int 0))) [.set 2 (.lst false [(.c (.int 7))])] [],
  .set 3 (.lst false []),
  .set 4 (.c (.int 12345)),
  .for_ (.nm 5) (.r1 (.v 1)) [.set 6 (.o2 .mod (.v 5) (.o1 .len (.v 2))), .set 7 (.o2 .ix (.v 2) (.v 6)), .set 4 (.o2 .mod (.o1 .int_ (.o2 .add (.o2 .add (.o2 .add (.o2 .mul (.v 4) (.c (.int 48271))) (.o2 .mul (.o2 .mod (.o1 .int_ (.v 7)) (.c (.int 1000003))) (.c (.int 69621)))) (.o2 .mul (.v 5) (.c (.int 7919)))) (.c (.int 11)))) (.c (.int 2147483647))), .set 8 (.o2 .mod (.o1 .int_ (.o2 .add (.o2 .add (.o2 .mul (.v 4) (.v 4)) (.o2 .mul (.c (.int 31)) (.v 4))) (.v 5))) (.c (.int 1000003))), .ite (.o2 .ge (.v 7) (.o2 .pow (.c (.int 10)) (.c (.int 18)))) [.ex (.mu .append (.v 3) [(.o2 .mod (.o1 .int_ (.v 7)) (.c (.int 1000)))]), .setIx (.v 2) (.v 6) (.o2 .fdiv (.v 7) (.c (.int 1000)))] [.ex (.mu .append (.v 3) [(.o2 .mod (.o1 .int_ (.v 8)) (.c (.int 1000)))])]],
  .ex (.mu .reverse (.v 3) []),
  .ret (.v 3)] }
def ir_covers : FD := { np := 2, ns := 3, io := [false, false], body := [.for_ (.nm 2) (.r1 (.o1 .len (.v 0))) [.ite (.o2 .lt (.o2 .ix (.v 0) (.v 2)) (.o2 .ix (.v 1) (.v 2))) [.ret (.c (.bl false))] []],
  .ret (.c (.bl true))] }
def ir_is_within : FD := { np := 2, ns := 4, io := [false, false], body := [.set 2 (.c (.int 0)),
  .for_ (.nm 3) (.ex (.v 1)) [.ite (.and_ (.o2 .lt (.v 2) (.o1 .len (.v 0))) (.o2 .eq (.o2 .ix (.v 0) (.v 2)) (.v 3))) [.aug 2 .add (.c (.int 1))] []],
  .ret (.o2 .eq (.v 2) (.o1 .len (.v 0)))] }
def ir_config_covers : FD := { np := 2, ns := 3, io := [false, false], body := [.ite (.not_ (.call "covers" [(.o2 .ix (.v 0) (.c (.int 0))), (.o2 .ix (.v 1) (.c (.int 0)))])) [.ret (.c (.bl false))] [],
  .for_ (.nm 2) (.r1 (.o1 .len (.o2 .ix (.v 0) (.c (.int 1))))) [.ite (.not_ (.call "is_within" [(.o2 .ix (.o2 .ix (.v 1) (.c (.int 1))) (.v 2)), (.o2 .ix (.o2 .ix (.v 0) (.c (.int 1))) (.v 2))])) [.ret (.c (.bl false))] []],
  .ret (.c (.bl true))] }
def ir_config_basis : FD := { np := 1, ns := 5, io := [false], body := [.set 1 (.lst false []),
  .for_ (.nm 2) (.ex (.o1 .sortedset (.v 0))) [.set 3 (.c (.bl true)), .for_ (.nm 4) (.ex (.v 0)) [.ite (.and_ (.o2 .ne (.v 4) (.v 2)) (.call "config_covers" [(.v 2), (.v 4)])) [.set 3 (.c (.bl false))] []], .ite (.v 3) [.ex (.mu .append (.v 1) [(.v 2)])] []],
  .ret (.v 1)] }
def ir_in_config_set : FD := { np := 2, ns := 3, io := [false, false], body := [.for_ (.nm 2) (.ex (.v 0)) [.ite (.call "config_covers" [(.v 1), (.v 2)]) [.ret (.c (.bl true))] []],
  .ret (.c (.bl false))] }
def ir_law : FD := { np := 1, ns := 15, io := [false], body := [.set 1 (.call "_law_draws" [(.v 0), (.c (.int 200))]),
  .set 2 (.o2 .add (.c (.int 1)) (.call "_law_take" [(.v 1), (.c (.int 2))])),
  .set 3 (.comp false [4] (.o2 .add (.c (.int 1)) (.call "_law_take" [(.v 1), (.c (.int 3))])) (.nm 4) (.r1 (.call "_law_take" [(.v 1), (.c (.int 3))])) none),
  .set 5 (.comp false [4] (.call "_law_config" [(.v 1), (.v 2), (.v 3), (.c (.int 2)), (.c (.int 4))]) (.nm 4) (.r1 (.call "_law_take" [(.v 1), (.c (.int 7))])) none),
  .ite (.and_ (.o2 .gt (.o1 .len (.v 5)) (.c (.int 0))) (.o2 .eq (.call "_law_take" [(.v 1), (.c (.int 2))]) (.c (.int 0)))) [.ex (.mu .append (.v 5) [(.o2 .ix (.v 5) (.call "_law_take" [(.v 1), (.o1 .len (.v 5))]))])] [],
  .set 6 (.call "_law_config" [(.v 1), (.v 2), (.v 3), (.c (.int 3)), (.c (.int 6))]),
  .set 7 (.call "_law_word" [(.v 1), (.c (.int 3)), (.c (.int 4))]),
  .set 8 (.call "_law_word" [(.v 1), (.c (.int 3)), (.c (.int 7))]),
  .set 9 (.call "is_within" [(.v 7), (.v 8)]),
  .ite (.or_ (.not_ (.o1 (.isinst "bool") (.v 9))) (.o2 .ne (.v 9) (.call "_law_subword" [(.v 7), (.v 8)]))) [.ret (.c (.bl false))] [],
  .for_ (.nm 10) (.ex (.v 5)) [.set 11 (.call "config_covers" [(.v 6), (.v 10)]), .ite (.or_ (.not_ (.o1 (.isinst "bool") (.v 11))) (.o2 .ne (.v 11) (.call "_law_config_covers" [(.v 6), (.v 10)]))) [.ret (.c (.bl false))] []],
  .set 12 (.o1 .list_ (.v 5)),
  .set 13 (.call "in_config_set" [(.v 12), (.v 6)]),
  .ite (.or_ (.not_ (.o1 (.isinst "bool") (.v 13))) (.o2 .ne (.v 13) (.call "_law_config_inside" [(.v 5), (.v 6)]))) [.ret (.c (.bl false))] [],
  .set 14 (.call "config_basis" [(.v 12)]),
  .ret (.and_ (.o2 .eq (.v 12) (.v 5)) (.and_ (.o1 (.isinst "list") (.v 14)) (.o2 .eq (.v 14) (.call "_law_config_least" [(.v 5)]))))] }
def G : Str → Option FD := fun x => ([(("_law_take" : Str), ir__law_take),
  (("_law_marking" : Str), ir__law_marking),
  (("_law_word" : Str), ir__law_word),
  (("_law_config" : Str), ir__law_config),
  (("_law_covers" : Str), ir__law_covers),
  (("_law_subword" : Str), ir__law_subword),
  (("_law_config_covers" : Str), ir__law_config_covers),
  (("_law_config_inside" : Str), ir__law_config_inside),
  (("_law_config_least" : Str), ir__law_config_least),
  (("_law_draws" : Str), ir__law_draws),
  (("covers" : Str), ir_covers),
  (("is_within" : Str), ir_is_within),
  (("config_covers" : Str), ir_config_covers),
  (("config_basis" : Str), ir_config_basis),
  (("in_config_set" : Str), ir_in_config_set),
  (("law" : Str), ir_law)] : List (Str × FD)).lookup x
theorem tb__law_take : G "_law_take" = some ir__law_take := by kernel_rfl
theorem io__law_take : iosOf G "_law_take" = [true, false] := by unfold iosOf; rw [tb__law_take]; rfl
theorem tb__law_marking : G "_law_marking" = some ir__law_marking := by kernel_rfl
theorem io__law_marking : iosOf G "_law_marking" = [true, false, false] := by unfold iosOf; rw [tb__law_marking]; rfl
theorem tb__law_word : G "_law_word" = some ir__law_word := by kernel_rfl
theorem io__law_word : iosOf G "_law_word" = [true, false, false] := by unfold iosOf; rw [tb__law_word]; rfl
theorem tb__law_config : G "_law_config" = some ir__law_config := by kernel_rfl
theorem io__law_config : iosOf G "_law_config" = [true, false, false, false, false] := by unfold iosOf; rw [tb__law_config]; rfl
theorem tb__law_covers : G "_law_covers" = some ir__law_covers := by kernel_rfl
theorem io__law_covers : iosOf G "_law_covers" = [false, false] := by unfold iosOf; rw [tb__law_covers]; rfl
theorem tb__law_subword : G "_law_subword" = some ir__law_subword := by kernel_rfl
theorem io__law_subword : iosOf G "_law_subword" = [false, false] := by unfold iosOf; rw [tb__law_subword]; rfl
theorem tb__law_config_covers : G "_law_config_covers" = some ir__law_config_covers := by kernel_rfl
theorem io__law_config_covers : iosOf G "_law_config_covers" = [false, false] := by unfold iosOf; rw [tb__law_config_covers]; rfl
theorem tb__law_config_inside : G "_law_config_inside" = some ir__law_config_inside := by kernel_rfl
theorem io__law_config_inside : iosOf G "_law_config_inside" = [false, false] := by unfold iosOf; rw [tb__law_config_inside]; rfl
theorem tb__law_config_least : G "_law_config_least" = some ir__law_config_least := by kernel_rfl
theorem io__law_config_least : iosOf G "_law_config_least" = [false] := by unfold iosOf; rw [tb__law_config_least]; rfl
theorem tb__law_draws : G "_law_draws" = some ir__law_draws := by kernel_rfl
theorem io__law_draws : iosOf G "_law_draws" = [false, false] := by unfold iosOf; rw [tb__law_draws]; rfl
theorem tb_covers : G "covers" = some ir_covers := by kernel_rfl
theorem io_covers : iosOf G "covers" = [false, false] := by unfold iosOf; rw [tb_covers]; rfl
theorem tb_is_within : G "is_within" = some ir_is_within := by kernel_rfl
theorem io_is_within : iosOf G "is_within" = [false, false] := by unfold iosOf; rw [tb_is_within]; rfl
theorem tb_config_covers : G "config_covers" = some ir_config_covers := by kernel_rfl
theorem io_config_covers : iosOf G "config_covers" = [false, false] := by unfold iosOf; rw [tb_config_covers]; rfl
theorem tb_config_basis : G "config_basis" = some ir_config_basis := by kernel_rfl
theorem io_config_basis : iosOf G "config_basis" = [false] := by unfold iosOf; rw [tb_config_basis]; rfl
theorem tb_in_config_set : G "in_config_set" = some ir_in_config_set := by kernel_rfl
theorem io_in_config_set : iosOf G "in_config_set" = [false, false] := by unfold iosOf; rw [tb_in_config_set]; rfl
theorem tb_law : G "law" = some ir_law := by kernel_rfl
theorem io_law : iosOf G "law" = [false] := by unfold iosOf; rw [tb_law]; rfl
end Cov

/-! PureA: sets of markings. -/
namespace Cov
open PySem
def covB (xs ys : List Int) : Bool := (List.range xs.length).all fun k => decide (ys.getD k 0 ≤ xs.getD k 0)
theorem covB_false {xs ys : List Int} {j : Nat} (h : j < xs.length) (hc : xs.getD j 0 < ys.getD j 0) : covB xs ys = false := by
  refine List.all_eq_false.mpr ⟨j, List.mem_range.mpr h, ?_⟩
  rw [decide_eq_true_eq]
  omega
theorem covB_true {xs ys : List Int} (h : ∀ k < xs.length, ys.getD k 0 ≤ xs.getD k 0) : covB xs ys = true :=
  List.all_eq_true.mpr fun k hk => decide_eq_true (h k (List.mem_range.mp hk))
theorem tupsOf_map : ∀ ts : List (List Int), tupsOf (ts.map tupI) = some ts := by
  have hints : ∀ xs : List Int, intsOf (xs.map D.int) = some xs := by
    intro xs
    induction xs with
    | nil => rfl
    | cons x xs ih => simp [intsOf, intOf, ih]
  intro ts
  induction ts with
  | nil => rfl
  | cons t ts ih => simp [tupsOf, tupOf, tupI, hints, ih]
/-- tuples of one length, without negative numbers -/
structure Good (d : Nat) (ms : List (List Int)) : Prop where
  len : ∀ t ∈ ms, t.length = d
  nn : ∀ t ∈ ms, ∀ x ∈ t, (0 : Int) ≤ x
def addB (found : List (List Int)) (m : List Int) : List (List Int) := if found.all (fun o => !covB m o) then found ++ [m] else found
def basis (ms : List (List Int)) : List (List Int) := (sortT ms).foldl addB []
theorem addB_sub {found : List (List Int)} {m x : List Int} (h : x ∈ addB found m) : x ∈ found ∨ x = m := by
  unfold addB at h
  split at h
  · simpa using h
  · exact .inl h
theorem foldB_sub : ∀ {l found : List (List Int)} {x : List Int}, x ∈ l.foldl addB found → x ∈ found ∨ x ∈ l
  | [], _, _, h => .inl h
  | m :: l, found, x, h => by
    rcases foldB_sub (l := l) h with h | h
    · rcases addB_sub h with h | h
      · exact .inl h
      · exact .inr (by rw [h]; exact List.mem_cons_self)
    · exact .inr (List.mem_cons_of_mem _ h)
theorem foldB_len : ∀ {l found : List (List Int)}, (l.foldl addB found).length ≤ found.length + l.length
  | [], _ => Nat.le_refl _
  | m :: l, found => by
    have h := foldB_len (l := l) (found := addB found m)
    have h2 : (addB found m).length ≤ found.length + 1 := by unfold addB; split <;> simp
    simp only [List.foldl_cons, List.length_cons]
    omega
theorem insT_len {x : List Int} : ∀ {l : List (List Int)}, (insT x l).length ≤ l.length + 1
  | [] => by simp [insT]
  | y :: l => by
    simp only [insT]
    split
    · simp
    · split
      · simp
      · have := insT_len (x := x) (l := l)
        simp only [List.length_cons]
        omega
theorem sortT_len : ∀ {l : List (List Int)}, (sortT l).length ≤ l.length
  | [] => Nat.le_refl _
  | x :: l => by
    have h1 := sortT_len (l := l)
    have h2 := insT_len (x := x) (l := sortT l)
    simp only [sortT, List.length_cons]
    omega
def lowB (ms : List (List Int)) (m : List Int) : Bool := ms.all fun o => !(decide (o ≠ m) && covB m o)
def lowA (ms : List (List Int)) (f : List (List Int)) (m : List Int) : List (List Int) := if lowB ms m then f ++ [m] else f
def least (ms : List (List Int)) : List (List Int) := (sortT ms).foldl (lowA ms) []
theorem covB_cons {x y : Int} {xs ys : List Int} : covB (x :: xs) (y :: ys) = (decide (y ≤ x) && covB xs ys) := by
  unfold covB
  rw [List.length_cons, List.range_succ_eq_map, List.all_cons, List.all_map]
  rfl
theorem covB_ltT : ∀ {xs ys : List Int}, xs.length = ys.length → covB xs ys = true → ys ≠ xs → ltT ys xs = true
  | [], [], _, _, h => absurd rfl h
  | [], _ :: _, h, _, _ => by simp at h
  | _ :: _, [], h, _, _ => by simp at h
  | x :: xs, y :: ys, hl, h, hn => by
    rw [covB_cons, Bool.and_eq_true, decide_eq_true_eq] at h
    simp only [ltT]
    by_cases e : y = x
    · rw [if_pos e]
      exact covB_ltT (by simpa using hl) h.2 fun z => hn (by rw [e, z])
    · rw [if_neg e]
      exact decide_eq_true (by omega)
theorem covB_trans : ∀ {xs ys zs : List Int}, xs.length = ys.length → ys.length = zs.length → covB xs ys = true → covB ys zs = true → covB xs zs = true
  | [], [], [], _, _, _, _ => rfl
  | [], [], _ :: _, _, h, _, _ => by simp at h
  | [], _ :: _, _, h, _, _, _ => by simp at h
  | _ :: _, [], _, h, _, _, _ => by simp at h
  | _ :: _, _ :: _, [], _, h, _, _ => by simp at h
  | x :: xs, y :: ys, z :: zs, h1, h2, h3, h4 => by
    rw [covB_cons, Bool.and_eq_true, decide_eq_true_eq] at h3 h4 ⊢
    exact ⟨by omega, covB_trans (by simpa using h1) (by simpa using h2) h3.2 h4.2⟩
theorem low_below {d : Nat} {ms l : List (List Int)} (hlen : ∀ t ∈ ms, t.length = d) (mem : ∀ t, t ∈ l ↔ t ∈ ms) (pw : l.Pairwise (fun a b => ltT a b = true)) : ∀ (k : Nat) (u c : List (List Int)) (m : List Int), u.length ≤ k → l = u ++ m :: c → lowB ms m = false → ∃ o ∈ u, lowB ms o = true ∧ covB m o = true := by
  intro k
  induction k with
  | zero =>
    intro u c m hk e h
    have hu : u = [] := List.length_eq_zero_iff.mp (by omega)
    subst hu
    obtain ⟨o, ho, h2⟩ := List.all_eq_false.mp h
    simp at h2
    exfalso
    have hm : m ∈ ms := (mem m).mp (by rw [e]; simp)
    have lt := covB_ltT ((hlen m hm).trans (hlen o ho).symm) h2.2 h2.1
    have hol : o ∈ l := (mem o).mpr ho
    rw [e] at hol pw
    rcases List.mem_cons.mp hol with z | z
    · exact h2.1 z
    · have := ltT_trans lt ((List.pairwise_cons.mp pw).1 o z)
      rw [ltT_irr] at this
      cases this
  | succ k ih =>
    intro u c m hk e h
    obtain ⟨o, ho, h2⟩ := List.all_eq_false.mp h
    simp at h2
    have hm : m ∈ ms := (mem m).mp (by rw [e]; simp)
    have lt := covB_ltT ((hlen m hm).trans (hlen o ho).symm) h2.2 h2.1
    have hol : o ∈ l := (mem o).mpr ho
    have hou : o ∈ u := by
      rw [e] at hol pw
      rcases List.mem_append.mp hol with z | z
      · exact z
      · exfalso
        rcases List.mem_cons.mp z with z | z
        · exact h2.1 z
        · have := ltT_trans lt ((List.pairwise_cons.mp (List.pairwise_append.mp pw).2.1).1 o z)
          rw [ltT_irr] at this
          cases this
    cases hlo : lowB ms o
    · obtain ⟨u1, c1, rfl⟩ := List.append_of_mem hou
      obtain ⟨p, hp, h3, h4⟩ := ih u1 (c1 ++ m :: c) o (by simp at hk; omega) (by rw [e]; simp) hlo
      have hpm : p ∈ ms := (mem p).mp (by rw [e]; simp [hp])
      exact ⟨p, by simp [hp], h3, covB_trans ((hlen m hm).trans (hlen o ho).symm) ((hlen o ho).trans (hlen p hpm).symm) h2.2 h4⟩
    · exact ⟨o, hou, hlo, h2.2⟩
theorem lowA_filter {ms : List (List Int)} : ∀ {u F : List (List Int)}, u.foldl (lowA ms) F = F ++ u.filter (lowB ms)
  | [], F => by simp
  | m :: u, F => by
    rw [List.foldl_cons, lowA_filter (u := u)]
    unfold lowA
    cases h : lowB ms m <;> simp [h]
theorem basis_least {d : Nat} {ms : List (List Int)} (hlen : ∀ t ∈ ms, t.length = d) : basis ms = least ms := by
  have key : ∀ (c u : List (List Int)), sortT ms = u ++ c → c.foldl addB (u.foldl (lowA ms) []) = c.foldl (lowA ms) (u.foldl (lowA ms) []) := by
    intro c
    induction c with
    | nil => intro u _; rfl
    | cons m c ih =>
      intro u e
      have hm : m ∈ ms := mem_sortT.mp (by rw [e]; simp)
      have pw := sortT_pw ms
      have step : addB (u.foldl (lowA ms) []) m = lowA ms (u.foldl (lowA ms) []) m := by
        have hF : u.foldl (lowA ms) [] = u.filter (lowB ms) := by rw [lowA_filter]; simp
        rw [hF]
        unfold addB lowA
        cases h : lowB ms m
        · obtain ⟨o, ho, h1, h2⟩ := low_below hlen (fun t => mem_sortT) pw u.length u c m (Nat.le_refl _) e h
          have hall : ((u.filter (lowB ms)).all fun o => !covB m o) = false := List.all_eq_false.mpr ⟨o, List.mem_filter.mpr ⟨ho, h1⟩, by simp [h2]⟩
          rw [hall]
        · have hall : ((u.filter (lowB ms)).all fun o => !covB m o) = true := by
            refine List.all_eq_true.mpr fun o ho => ?_
            have hou := (List.mem_filter.mp ho).1
            have hom : o ∈ ms := mem_sortT.mp (by rw [e]; simp [hou])
            have := List.all_eq_true.mp h o hom
            have hne : o ≠ m := fun z => by
              rw [e] at pw
              have := (List.pairwise_append.mp pw).2.2 o hou m (by simp)
              rw [z, ltT_irr] at this
              cases this
            simpa [hne] using this
          rw [hall]
      rw [List.foldl_cons, List.foldl_cons, step]
      have := ih (u ++ [m]) (by rw [e]; simp)
      rw [List.foldl_append] at this
      exact this
  exact key (sortT ms) [] rfl
theorem least_sub {ms : List (List Int)} {t : List Int} (h : t ∈ least ms) : t ∈ ms := by
  unfold least at h
  rw [lowA_filter] at h
  exact mem_sortT.mp (List.mem_filter.mp (by simpa using h)).1
theorem least_len {ms : List (List Int)} : (least ms).length ≤ ms.length := by
  unfold least
  rw [lowA_filter]
  have h1 := List.length_filter_le (lowB ms) (sortT ms)
  have h2 := sortT_len (l := ms)
  simp
  omega
def joinT (xs ys : List Int) : List Int := (List.range xs.length).map fun k => if ys.getD k 0 > xs.getD k 0 then ys.getD k 0 else xs.getD k 0
theorem joinT_len {xs ys : List Int} : (joinT xs ys).length = xs.length := by simp [joinT]
def joins (xs ys : List (List Int)) : List (List Int) := xs.flatMap fun x => ys.map fun y => joinT x y
theorem covB_refl : ∀ xs : List Int, covB xs xs = true
  | [] => rfl
  | x :: xs => by rw [covB_cons, covB_refl xs]; simp
theorem joinT_cons {x y : Int} {xs ys : List Int} : joinT (x :: xs) (y :: ys) = (if y > x then y else x) :: joinT xs ys := by
  unfold joinT
  rw [List.length_cons, List.range_succ_eq_map, List.map_cons, List.map_map]
  rfl
theorem covB_join : ∀ {m a b : List Int}, m.length = a.length → a.length = b.length → covB m (joinT a b) = (covB m a && covB m b)
  | [], [], [], _, _ => rfl
  | [], [], _ :: _, _, h => by simp at h
  | [], _ :: _, _, h, _ => by simp at h
  | _ :: _, [], _, h, _ => by simp at h
  | _ :: _, _ :: _, [], _, h => by simp at h
  | m :: ms, a :: as, b :: bs, h1, h2 => by
    rw [joinT_cons, covB_cons, covB_cons, covB_cons, covB_join (by simpa using h1) (by simpa using h2)]
    by_cases h : b > a
    · rw [if_pos h]
      by_cases hb : b ≤ m
      · have ha : a ≤ m := by omega
        simp [ha, hb]
      · simp [hb]
    · rw [if_neg h]
      by_cases ha : a ≤ m
      · have hb : b ≤ m := by omega
        simp [ha, hb]
      · simp [ha]
theorem covB_joinL {a b : List Int} (h : a.length = b.length) : covB (joinT a b) a = true := by
  have := covB_join (m := joinT a b) (by rw [joinT_len]) h
  rw [covB_refl] at this
  exact (Bool.and_eq_true_iff.mp this.symm).1
theorem covB_joinR {a b : List Int} (h : a.length = b.length) : covB (joinT a b) b = true := by
  have := covB_join (m := joinT a b) (by rw [joinT_len]) h
  rw [covB_refl] at this
  exact (Bool.and_eq_true_iff.mp this.symm).2
theorem mem_least {ms : List (List Int)} {t : List Int} : t ∈ least ms ↔ t ∈ ms ∧ lowB ms t = true := by
  unfold least
  rw [lowA_filter, List.nil_append, List.mem_filter, mem_sortT]
/-- a marking covers one of the least ones if it covers one -/
theorem any_least {d : Nat} {ms : List (List Int)} (hlen : ∀ t ∈ ms, t.length = d) {m : List Int} (hm : m.length = d) : ((least ms).any fun x => covB m x) = ms.any fun x => covB m x := by
  cases h : ms.any fun x => covB m x
  · refine List.any_eq_false.mpr fun x hx => ?_
    have := List.any_eq_false.mp h x (mem_least.mp hx).1
    exact this
  · obtain ⟨x, hx, hc⟩ := List.any_eq_true.mp h
    cases hlo : lowB ms x
    · obtain ⟨u, c, e⟩ := List.append_of_mem (mem_sortT.mpr hx)
      obtain ⟨o, ho, h1, h2⟩ := low_below hlen (fun t => mem_sortT) (sortT_pw ms) u.length u c x (Nat.le_refl _) e hlo
      have hom : o ∈ ms := mem_sortT.mp (by rw [e]; simp [ho])
      exact List.any_eq_true.mpr ⟨o, mem_least.mpr ⟨hom, h1⟩, covB_trans (hm.trans (hlen x hx).symm) ((hlen x hx).trans (hlen o hom).symm) hc h2⟩
    · exact List.any_eq_true.mpr ⟨x, mem_least.mpr ⟨hx, hlo⟩, hc⟩
/-- the least of the least -/
theorem least_least {ms : List (List Int)} : least (least ms) = least ms := by
  have e : least ms = (sortT ms).filter (lowB ms) := by
    unfold least
    rw [lowA_filter, List.nil_append]
  have pw : (least ms).Pairwise (fun a b => ltT a b = true) := by
    rw [e]
    exact (sortT_pw ms).filter _
  have hs : sortT (least ms) = least ms := pw_unique (sortT_pw _) pw fun x => mem_sortT
  have : least (least ms) = (sortT (least ms)).filter (lowB (least ms)) := by
    rw [least, lowA_filter, List.nil_append]
  rw [this, hs]
  refine List.filter_eq_self.mpr fun x hx => ?_
  have hlo := (mem_least.mp hx).2
  refine List.all_eq_true.mpr fun o ho => ?_
  exact List.all_eq_true.mp hlo o (mem_least.mp ho).1
theorem mem_joins {xs ys : List (List Int)} {t : List Int} : t ∈ joins xs ys ↔ ∃ x ∈ xs, ∃ y ∈ ys, joinT x y = t := by
  simp [joins]
theorem any_joins {d : Nat} {xs ys : List (List Int)} (hx : ∀ t ∈ xs, t.length = d) (hy : ∀ t ∈ ys, t.length = d) {m : List Int} (hm : m.length = d) : ((joins xs ys).any fun t => covB m t) = ((xs.any fun t => covB m t) && ys.any fun t => covB m t) := by
  rw [Bool.eq_iff_iff, Bool.and_eq_true]
  simp only [List.any_eq_true]
  constructor
  · rintro ⟨t, ht, hc⟩
    obtain ⟨x, h1, y, h2, rfl⟩ := mem_joins.mp ht
    rw [covB_join (hm.trans (hx x h1).symm) ((hx x h1).trans (hy y h2).symm), Bool.and_eq_true] at hc
    exact ⟨⟨x, h1, hc.1⟩, y, h2, hc.2⟩
  · rintro ⟨⟨x, h1, c1⟩, y, h2, c2⟩
    refine ⟨joinT x y, mem_joins.mpr ⟨x, h1, y, h2, rfl⟩, ?_⟩
    rw [covB_join (hm.trans (hx x h1).symm) ((hx x h1).trans (hy y h2).symm), c1, c2]
    rfl
theorem joins_good {d : Nat} {xs ys : List (List Int)} (gx : Good d xs) (gy : Good d ys) : Good d (joins xs ys) := by
  constructor
  · intro t ht
    obtain ⟨x, h1, y, h2, rfl⟩ := mem_joins.mp ht
    rw [joinT_len, gx.len x h1]
  · intro t ht z hz
    obtain ⟨x, h1, y, h2, rfl⟩ := mem_joins.mp ht
    obtain ⟨k, hk, rfl⟩ := List.mem_map.mp hz
    have hk := List.mem_range.mp hk
    have a : (0 : Int) ≤ x.getD k 0 := gx.nn x h1 _ (by rw [List.getD_eq_getElem?_getD, List.getElem?_eq_getElem hk]; exact List.getElem_mem _)
    have hk2 : k < y.length := by rw [gy.len y h2, ← gx.len x h1]; exact hk
    have b : (0 : Int) ≤ y.getD k 0 := gy.nn y h2 _ (by rw [List.getD_eq_getElem?_getD, List.getElem?_eq_getElem hk2]; exact List.getElem_mem _)
    split <;> assumption
theorem joins_len {xs ys : List (List Int)} : (joins xs ys).length = xs.length * ys.length := by
  induction xs with
  | nil => simp [joins]
  | cons x xs ih =>
    have : joins (x :: xs) ys = ys.map (joinT x) ++ joins xs ys := by simp [joins]
    rw [this, List.length_append, List.length_map, ih, List.length_cons, Nat.succ_mul]
    omega
end Cov

/-! Pl1: reasoning about typed runs. -/
namespace Cov.Sm
open PySem
section
variable {α β γ σ : Type}
def Ok (m : R α) (P : α → Prop) : Prop := ∃ a, m = ok a ∧ P a
theorem ok_ok {a : α} {P : α → Prop} (h : P a) : Ok (ok a) P := ⟨a, rfl, h⟩
theorem ok_tb {m : R α} {k : α → R β} {P : α → Prop} {Q : β → Prop} (h : Ok m P) (hk : ∀ a, P a → Ok (k a) Q) : Ok (tb m k) Q := by
  obtain ⟨a, rfl, p⟩ := h
  exact hk a p
theorem ok_go {m : R α} {a : α} {k : α → R β} {Q : β → Prop} (e : m = ok a) (h : Ok (k a) Q) : Ok (tb m k) Q := by
  rw [e]
  exact h
theorem ok_imp {m : R α} {P Q : α → Prop} (h : Ok m P) (i : ∀ a, P a → Q a) : Ok m Q := by
  obtain ⟨a, e, p⟩ := h
  exact ⟨a, e, i a p⟩
theorem ok_eq {m : R α} {a : α} {P : α → Prop} (e : m = ok a) (h : P a) : Ok m P := ⟨a, e, h⟩
theorem ok_true {m : R Bool} (h : Ok m fun b => b = true) : m = ok true := by
  obtain ⟨a, e, rfl⟩ := h
  exact e
theorem ok_ite {c : Prop} [Decidable c] {a b : R α} {P : α → Prop} (h1 : c → Ok a P) (h2 : ¬ c → Ok b P) : Ok (if c then a else b) P := by
  split
  · exact h1 ‹_›
  · exact h2 ‹_›
theorem foldT_ok {f : α → σ → R σ} {xs : List α} {s : σ} (I : List α → σ → Prop) (h0 : I [] s) (st : ∀ pre x post s, xs = pre ++ x :: post → I pre s → Ok (f x s) (I (pre ++ [x]))) : Ok (foldT f xs s) (I xs) := by
  have go : ∀ (ys pre : List α) (s : σ), xs = pre ++ ys → I pre s → Ok (foldT f ys s) (I xs) := by
    intro ys
    induction ys with
    | nil => intro pre s e h; rw [List.append_nil] at e; subst e; exact ok_ok h
    | cons y ys ih =>
      intro pre s e h
      refine ok_tb (st pre y ys s e h) fun s' h' => ih (pre ++ [y]) s' (by rw [e]; simp) h'
  exact go xs [] s rfl h0
/-- a loop as a fold -/
theorem foldT_eq {f : α → σ → R σ} {g : σ → α → σ} {xs : List α} {s : σ} (P : σ → Prop) (h0 : P s) (h : ∀ x ∈ xs, ∀ s, P s → f x s = ok (g s x) ∧ P (g s x)) : foldT f xs s = ok (xs.foldl g s) ∧ P (xs.foldl g s) := by
  induction xs generalizing s with
  | nil => exact ⟨rfl, h0⟩
  | cons x xs ih =>
    obtain ⟨e, p⟩ := h x List.mem_cons_self s h0
    have := ih p fun y hy => h y (List.mem_cons_of_mem _ hy)
    simp only [foldT, e, tb_ok, List.foldl_cons]
    exact this
/-- a loop that looks for a reason to return -/
theorem forT_all {f : α → Unit → R (Stp Unit β)} {xs : List α} (p : α → Bool) (b : β) (h : ∀ x ∈ xs, f x () = if p x then ok (.nx ()) else ok (.rt b)) : forT f xs () = if xs.all p then ok (.nx ()) else ok (.rt b) := by
  induction xs with
  | nil => rfl
  | cons x xs ih =>
    have h1 := h x List.mem_cons_self
    have h2 := ih fun y hy => h y (List.mem_cons_of_mem _ hy)
    simp only [forT, h1, List.all_cons]
    by_cases hp : p x = true
    · simp only [hp, if_true, tb_ok, goS_nx, h2, Bool.true_and]
    · simp [hp]
theorem forT_nx {f : α → Unit → R (Stp Unit β)} {xs : List α} (h : ∀ x ∈ xs, f x () = ok (.nx ())) : forT f xs () = ok (.nx ()) := by
  induction xs with
  | nil => rfl
  | cons x xs ih => simp only [forT, h x List.mem_cons_self, tb_ok, goS_nx, ih fun y hy => h y (List.mem_cons_of_mem _ hy)]
/-- .. as any -/
theorem forT_any {f : α → Unit → R (Stp Unit β)} {xs : List α} (p : α → Bool) (b : β) (h : ∀ x ∈ xs, f x () = if p x then ok (.rt b) else ok (.nx ())) : forT f xs () = if xs.any p then ok (.rt b) else ok (.nx ()) := by
  induction xs with
  | nil => rfl
  | cons x xs ih =>
    have h1 := h x List.mem_cons_self
    have h2 := ih fun y hy => h y (List.mem_cons_of_mem _ hy)
    simp only [forT, h1, List.any_cons]
    by_cases hp : p x = true
    · simp [hp]
    · simp only [hp, Bool.false_eq_true, if_false, tb_ok, goS_nx, h2, Bool.false_or]
theorem outS_if {c : Bool} {γ' : Type} {r : β → R γ'} {k : σ → R γ'} {s : σ} {b : β} : tb (if c then ok (.nx s) else ok (.rt b)) (fun o => outS o r k) = if c then k s else r b := by cases c <;> rfl
theorem outS_if' {c : Bool} {γ' : Type} {r : β → R γ'} {k : σ → R γ'} {s : σ} {b : β} : tb (if c then ok (.rt b) else ok (.nx s)) (fun o => outS o r k) = if c then r b else k s := by cases c <;> rfl
/-- comprehensions -/
inductive Fa2 (T : α → γ → Prop) : List α → List γ → Prop where
  | nil : Fa2 T [] []
  | cons {x : α} {y : γ} {xs : List α} {ys : List γ} (h : T x y) (t : Fa2 T xs ys) : Fa2 T (x :: xs) (y :: ys)
theorem mapS_eq {f : α → Unit → R (Option γ × Unit)} {xs : List α} (g : α → γ) (hz : xs.length ≤ sizeLine) (h : ∀ x ∈ xs, f x () = ok (some (g x), ())) : mapS f xs () = ok (xs.map g, ()) := by
  have go : mapL f xs () = ok (xs.map g, ()) := by
    clear hz
    induction xs with
    | nil => rfl
    | cons x xs ih => simp only [mapL, h x List.mem_cons_self, tb_ok, ih fun y hy => h y (List.mem_cons_of_mem _ hy), List.map_cons, Option.toList_some, List.singleton_append]
  rw [mapS, if_pos hz, go, nx_ok]
theorem mapS_fil {f : α → Unit → R (Option γ × Unit)} {xs : List α} (p : α → Bool) (g : α → γ) (hz : xs.length ≤ sizeLine) (h : ∀ x ∈ xs, f x () = ok (if p x then some (g x) else none, ())) : mapS f xs () = ok ((xs.filter p).map g, ()) := by
  have go : mapL f xs () = ok ((xs.filter p).map g, ()) := by
    clear hz
    induction xs with
    | nil => rfl
    | cons x xs ih =>
      simp only [mapL, h x List.mem_cons_self, tb_ok, ih fun y hy => h y (List.mem_cons_of_mem _ hy), List.filter_cons]
      cases p x <;> simp
  rw [mapS, if_pos hz, go, nx_ok]
theorem mapS_ok {f : α → σ → R (Option γ × σ)} {xs : List α} {s : σ} (P : σ → Prop) (T : α → γ → Prop) (hz : xs.length ≤ sizeLine) (h0 : P s) (h : ∀ x ∈ xs, ∀ s, P s → Ok (f x s) fun p => P p.2 ∧ ∃ g, p.1 = some g ∧ T x g) : Ok (mapS f xs s) fun p => P p.2 ∧ Fa2 T xs p.1 := by
  have go : Ok (mapL f xs s) fun p => P p.2 ∧ Fa2 T xs p.1 := by
    clear hz
    induction xs generalizing s with
    | nil => exact ok_ok ⟨h0, .nil⟩
    | cons x xs ih =>
      refine ok_tb (h x List.mem_cons_self s h0) fun p ⟨hp, g, e, t⟩ => ok_tb (ih hp fun y hy => h y (List.mem_cons_of_mem _ hy)) fun q ⟨hq, w⟩ => ok_ok ⟨hq, ?_⟩
      rw [e]
      exact .cons t w
  obtain ⟨p, e, hp⟩ := go
  exact ⟨p, by rw [mapS, if_pos hz, e, nx_ok], hp⟩
theorem fa2_len {T : α → γ → Prop} {xs : List α} {ys : List γ} (h : Fa2 T xs ys) : ys.length = xs.length := by
  induction h with
  | nil => rfl
  | cons _ _ ih => simp [ih]
theorem fa2_mem {T : α → γ → Prop} {xs : List α} {ys : List γ} (h : Fa2 T xs ys) {y : γ} (hy : y ∈ ys) : ∃ x ∈ xs, T x y := by
  induction h with
  | nil => cases hy
  | cons t _ ih =>
    rcases List.mem_cons.mp hy with rfl | hy
    · exact ⟨_, List.mem_cons_self, t⟩
    · obtain ⟨x, hx, t⟩ := ih hy
      exact ⟨x, List.mem_cons_of_mem _ hx, t⟩
end
theorem small {n : Nat} (h : n ≤ 1000000) : n ≤ sizeLine := by rw [sizeLine_eq]; omega
theorem small' {n : Nat} (h : n < 1000000) : n < sizeLine := by rw [sizeLine_eq]; omega
/-! ### operations -/
abbrev natsI (n : Nat) : List Int := (List.range n).map fun (k : Nat) => (k : Int)
theorem rng_ok {n : Nat} (h : n ≤ 100000) : rngT 0 (n : Int) = ok (natsI n) := by
  unfold rngT
  have h0 : rngOk 0 = true := rngOk_nat (n := 0) (by omega)
  rw [h0, rngOk_nat h, Bool.true_and, if_pos rfl]
  simp [rangeI, natsI]
theorem ix_ok {α : Type} {xs : List α} {k : Nat} (h : k < xs.length) : ixT xs (k : Int) = ok xs[k] := by
  unfold ixT
  simp [L2.atI, L2.ixN, h]
theorem ix_getD {xs : List Int} {k : Nat} (h : k < xs.length) : ixT xs (k : Int) = ok (xs.getD k 0) := by
  rw [ix_ok h]
  simp [List.getD_eq_getElem?_getD, h]
theorem app_ok {α : Type} {xs : List α} {x : α} (h : xs.length < 1000000) : appT xs x = ok (xs ++ [x]) := by rw [appT, if_pos (small' h)]
theorem ext_ok {α : Type} {xs ys : List α} (h : xs.length + ys.length ≤ 1000000) : extT xs ys = ok (xs ++ ys) := by rw [extT, if_pos (small h)]
theorem mod_ok {a b : Int} (h : 0 < b) : modT a b = ok (a % b) := by rw [modT, if_pos h]
theorem mul_ok {a b : Int} {x y : Nat} (ha : a.natAbs < 2 ^ x) (hb : b.natAbs < 2 ^ y) (h : x + y < 900000) : mulT a b = ok (a * b) := by rw [mulT, if_pos (bitsOk_of ha hb h)]
theorem fdiv_ok {a b : Int} (h : 0 < b) (h' : b < 1073741824) : fdivT a b = ok (a / b) := by rw [fdivT, if_pos ⟨h, h'⟩]
theorem pop_ok {α : Type} {xs : List α} (h : xs ≠ []) : popT xs = ok (xs.getLast h, xs.dropLast) := by
  have : xs[xs.length - 1]? = some (xs.getLast h) := by
    rw [List.getElem?_eq_getElem (by have := List.length_pos_iff.mpr h; omega), List.getLast_eq_getElem]
  rw [popT, this]
theorem put_ok {α : Type} {xs : List α} {k : Nat} {x : α} (h : k < xs.length) : putT xs (k : Int) x = ok (xs.set k x) := by
  unfold putT
  simp [L2.ixN, h]
/-- the end: from the typed run to the run of the law -/
theorem law_end {cf : CF} {io : List Bool} {f : Str} {args : List D} {m : R Bool} {fs : Bool → List D} (c : CallOk false cf io f args m (fun r => D.bl r) fs) (h : m = ok true) (hl : (fs true).length = 1) : ∃ fin, cf f args = some (.ret (.bl true) fin) ∧ fin.length = 1 := by
  obtain ⟨fin, e, i⟩ := c.ok_ true h
  exact ⟨fin, e, by rw [ioEq_len i, hl]⟩
end Cov.Sm
namespace Cov.Sm
open PySem
/-- a search through the places -/
theorem scan_eq {n : Nat} {f : Int → Unit → R (Stp Unit Bool)} (p : Nat → Bool) (hz : n ≤ 100000) (h : ∀ k < n, f (k : Int) () = if p k then ok (.rt false) else ok (.nx ())) : (tb (rngT 0 (n : Int)) fun xs => tb (forT f xs ()) fun o => outS (β := Bool) o (fun g => ok g) fun _ => ok true) = ok ((List.range n).all fun k => !p k) := by
  rw [rng_ok hz, tb_ok, forT_any (fun x : Int => p x.toNat) false, outS_if']
  · have e : ((natsI n).any fun x : Int => p x.toNat) = !((List.range n).all fun k => !p k) := by
      rw [List.any_map, List.not_all_eq_any_not]
      simp [Function.comp_def]
    rw [e]
    cases (List.range n).all fun k => !p k <;> rfl
  · intro x hx
    obtain ⟨k, hk, rfl⟩ := List.mem_map.mp hx
    exact h k (List.mem_range.mp hk)
/-- a loop that keeps some of the items -/
theorem fold_filter {α : Type} {f : α → List α → R (List α)} {xs : List α} (p : α → Bool) (hz : xs.length < 1000000) (h : ∀ x ∈ xs, ∀ s, s.length < 1000000 → f x s = ok (if p x then s ++ [x] else s)) : foldT f xs [] = ok (xs.filter p) := by
  obtain ⟨s, e, rfl⟩ := foldT_ok (f := f) (xs := xs) (s := []) (fun pre s => s = pre.filter p) rfl (by
    rintro pre x post s e rfl
    have hl : (pre.filter p).length < 1000000 := by
      have h1 := List.length_filter_le p pre
      have h2 := congrArg List.length e
      simp at h2
      omega
    refine ok_eq (h x (by rw [e]; simp) _ hl) ?_
    rw [List.filter_append]
    by_cases hp : p x = true <;> simp [hp])
  exact e
/-- all of a list, by a name -/
theorem fold_all {α : Type} {f : α → Bool → R Bool} {xs : List α} (q : α → Bool) (h : ∀ x ∈ xs, ∀ s, f x s = ok (s && q x)) (b : Bool) : foldT f xs b = ok (b && xs.all q) := by
  have e := (foldT_eq (f := f) (g := fun s x => s && q x) (xs := xs) (s := b) (fun _ => True) trivial fun x hx s _ => ⟨h x hx s, trivial⟩).1
  rw [e]
  congr 1
  clear e h
  induction xs generalizing b with
  | nil => simp
  | cons x xs ih => rw [List.foldl_cons, ih, List.all_cons, Bool.and_assoc]
/-- members of a list that a comprehension counts -/
theorem len_fil {α : Type} (xs : List α) (p : α → Bool) : decide ((((((xs.filter p).map id)).length : Nat) : Int) = 0) = xs.all fun x => !p x := by
  rw [List.map_id]
  cases h : xs.all fun x => !p x with
  | true =>
    rw [decide_eq_true_eq]
    have : xs.filter p = [] := by
      rw [List.filter_eq_nil_iff]
      intro x hx hh
      have := List.all_eq_true.mp h x hx
      rw [hh] at this
      cases this
    rw [this]; rfl
  | false =>
    rw [decide_eq_false_iff_not]
    intro h0
    obtain ⟨x, hx, h1⟩ := List.all_eq_false.mp h
    have : x ∈ xs.filter p := List.mem_filter.mpr ⟨hx, by simpa using h1⟩
    have := List.length_pos_of_mem this
    omega
end Cov.Sm

/-! PureL: limits, plainly. -/
namespace Cov.Sm
open PySem
def admB (l m : List Int) : Bool := (List.range l.length).all fun k => !(!decide (l.getD k 0 = -1) && decide (l.getD k 0 < m.getD k 0))
def witB (a b : List Int) : Bool := (List.range a.length).all fun k => !(!decide (b.getD k 0 = -1) && (decide (a.getD k 0 = -1) || decide (b.getD k 0 < a.getD k 0)))
/-- limits of one size -/
structure Lim (n : Nat) (ls : List (List Int)) : Prop where
  len : ∀ t ∈ ls, t.length = n
  lo : ∀ t ∈ ls, ∀ x ∈ t, (-1 : Int) ≤ x
theorem getD_mem {xs : List Int} {k : Nat} (h : k < xs.length) : xs.getD k 0 ∈ xs := by
  rw [List.getD_eq_getElem?_getD, List.getElem?_eq_getElem h]
  exact List.getElem_mem h
theorem ge0 {x : Int} (h : -1 ≤ x) : decide (0 ≤ x) = !decide (x = -1) := by
  by_cases e : x = -1
  · subst e; rfl
  · have : 0 ≤ x := by omega
    simp [e, this]
theorem lt0 {x : Int} (h : -1 ≤ x) : decide (x < 0) = decide (x = -1) := by
  by_cases e : x = -1
  · subst e; rfl
  · have : ¬ x < 0 := by omega
    simp [e, this]
def topB (ls : List (List Int)) (l : List Int) : Bool := ls.all fun o => !(decide (o ≠ l) && witB l o)
/-- the frame -/
def frameL (ls : List (List Int)) : List (List Int) := (sortT ls).filter (topB ls)
theorem frame_mem {ls : List (List Int)} {l : List Int} : l ∈ frameL ls ↔ l ∈ ls ∧ topB ls l = true := by
  unfold frameL
  rw [List.mem_filter, mem_sortT]
theorem frame_len {ls : List (List Int)} : (frameL ls).length ≤ ls.length := Nat.le_trans (List.length_filter_le _ _) sortT_len
theorem Lim.frame {n : Nat} {ls : List (List Int)} (g : Lim n ls) : Lim n (frameL ls) := ⟨fun t ht => g.len t (frame_mem.mp ht).1, fun t ht => g.lo t (frame_mem.mp ht).1⟩
theorem admB_iff {l m : List Int} : admB l m = true ↔ ∀ k < l.length, l.getD k 0 = -1 ∨ m.getD k 0 ≤ l.getD k 0 := by
  unfold admB
  rw [List.all_eq_true]
  refine forall_congr' fun k => ?_
  rw [List.mem_range]
  refine imp_congr_right fun _ => ?_
  generalize l.getD k 0 = u
  generalize m.getD k 0 = v
  simp only [Bool.not_and, Bool.not_not, Bool.or_eq_true, decide_eq_true_eq, Bool.not_eq_true', decide_eq_false_iff_not]
  omega
theorem witB_iff {a b : List Int} : witB a b = true ↔ ∀ k < a.length, b.getD k 0 = -1 ∨ (a.getD k 0 ≠ -1 ∧ a.getD k 0 ≤ b.getD k 0) := by
  unfold witB
  rw [List.all_eq_true]
  refine forall_congr' fun k => ?_
  rw [List.mem_range]
  refine imp_congr_right fun _ => ?_
  generalize b.getD k 0 = u
  generalize a.getD k 0 = v
  simp only [Bool.not_and, Bool.not_not, Bool.or_eq_true, decide_eq_true_eq, Bool.not_eq_true', decide_eq_false_iff_not, Bool.not_or, Bool.and_eq_true]
  omega
theorem wit_refl (a : List Int) : witB a a = true := witB_iff.mpr fun k _ => by omega
theorem wit_trans {a b c : List Int} (h : a.length = b.length) (h1 : witB a b = true) (h2 : witB b c = true) : witB a c = true := by
  rw [witB_iff] at *
  intro k hk
  have := h1 k hk
  have := h2 k (by omega)
  omega
theorem ext_getD {a b : List Int} (h : a.length = b.length) (e : ∀ k < a.length, a.getD k 0 = b.getD k 0) : a = b := by
  refine List.ext_getElem h fun k h1 h2 => ?_
  have := e k h1
  simpa [List.getD_eq_getElem?_getD, h1, h2] using this
theorem wit_anti {a b : List Int} (h : a.length = b.length) (h1 : witB a b = true) (h2 : witB b a = true) : a = b := by
  rw [witB_iff] at h1 h2
  refine ext_getD h fun k hk => ?_
  have := h1 k hk
  have := h2 k (by omega)
  omega
theorem wit_adm {a b m : List Int} (h : a.length = b.length) (h1 : witB a b = true) (h2 : admB a m = true) : admB b m = true := by
  rw [witB_iff] at h1
  rw [admB_iff] at *
  intro k hk
  have := h1 k (by omega)
  have := h2 k (by omega)
  omega
theorem topB_false {ls : List (List Int)} {l : List Int} (h : topB ls l = false) : ∃ o ∈ ls, o ≠ l ∧ witB l o = true := by
  obtain ⟨o, ho, h1⟩ := List.all_eq_false.mp h
  simp at h1
  exact ⟨o, ho, h1.1, h1.2⟩
theorem topB_true {ls : List (List Int)} {l : List Int} (h : topB ls l = true) {o : List Int} (ho : o ∈ ls) (hw : witB l o = true) : o = l := by
  have := List.all_eq_true.mp h o ho
  rw [hw] at this
  simpa using this
/-- above each limit of a list stands one of the frame -/
theorem top_above {n : Nat} {ls : List (List Int)} (hl : ∀ t ∈ ls, t.length = n) : ∀ (k : Nat) (l : List Int), l ∈ ls → (ls.filter fun o => decide (o ≠ l) && witB l o).length ≤ k → ∃ o ∈ frameL ls, witB l o = true := by
  intro k
  induction k with
  | zero =>
    intro l hm hk
    refine ⟨l, frame_mem.mpr ⟨hm, ?_⟩, wit_refl l⟩
    cases h : topB ls l with
    | true => rfl
    | false =>
      obtain ⟨o, ho, h1, h2⟩ := topB_false h
      have : o ∈ ls.filter fun o => decide (o ≠ l) && witB l o := List.mem_filter.mpr ⟨ho, by simp [h1, h2]⟩
      have := List.length_pos_of_mem this
      omega
  | succ k ih =>
    intro l hm hk
    cases h : topB ls l with
    | true => exact ⟨l, frame_mem.mpr ⟨hm, h⟩, wit_refl l⟩
    | false =>
      obtain ⟨o, ho, h1, h2⟩ := topB_false h
      have lo : l.length = o.length := by rw [hl l hm, hl o ho]
      have less : (ls.filter fun p => decide (p ≠ o) && witB o p).length < (ls.filter fun p => decide (p ≠ l) && witB l p).length := by
        have sub : ∀ (xs : List (List Int)), (∀ p ∈ xs, p.length = n) → (xs.filter fun p => decide (p ≠ o) && witB o p).length + (xs.filter fun p => decide (p = o)).length ≤ (xs.filter fun p => decide (p ≠ l) && witB l p).length := by
          intro xs hx
          induction xs with
          | nil => simp
          | cons p xs ih =>
            have ih := ih fun q hq => hx q (List.mem_cons_of_mem _ hq)
            have hp := hx p List.mem_cons_self
            simp only [List.filter_cons]
            by_cases e1 : p = o
            · subst e1
              simp [h1, h2]
              simp at ih
              omega
            · by_cases e2 : witB o p = true
              · have e3 : witB l p = true := wit_trans lo h2 e2
                have e4 : p ≠ l := fun e => by
                  subst e
                  exact h1 (wit_anti lo h2 e2).symm
                simp [e1, e2, e3, e4]
                simp at ih
                omega
              · simp only [e1, e2, decide_false, ne_eq, not_false_eq_true, decide_true, Bool.true_and, if_false, Bool.false_eq_true]
                split <;> simp at ih ⊢ <;> omega
        have hs := sub ls hl
        have : o ∈ ls.filter fun p => decide (p = o) := List.mem_filter.mpr ⟨ho, by simp⟩
        have := List.length_pos_of_mem this
        omega
      obtain ⟨p, hp, h3⟩ := ih o ho (by omega)
      exact ⟨p, hp, wit_trans lo h2 h3⟩
theorem any_frame_wit {n : Nat} {ls : List (List Int)} (hl : ∀ t ∈ ls, t.length = n) {x : List Int} (hx : x.length = n) : ((frameL ls).any fun l => witB x l) = ls.any fun l => witB x l := by
  rw [Bool.eq_iff_iff, List.any_eq_true, List.any_eq_true]
  constructor
  · rintro ⟨l, h, w⟩
    exact ⟨l, (frame_mem.mp h).1, w⟩
  · rintro ⟨l, h, w⟩
    obtain ⟨o, ho, w2⟩ := top_above hl _ l h (Nat.le_refl _)
    exact ⟨o, ho, wit_trans (by rw [hx, hl l h]) w w2⟩
theorem any_frame_adm {n : Nat} {ls : List (List Int)} (hl : ∀ t ∈ ls, t.length = n) (m : List Int) : ((frameL ls).any fun l => admB l m) = ls.any fun l => admB l m := by
  rw [Bool.eq_iff_iff, List.any_eq_true, List.any_eq_true]
  constructor
  · rintro ⟨l, h, w⟩
    exact ⟨l, (frame_mem.mp h).1, w⟩
  · rintro ⟨l, h, w⟩
    obtain ⟨o, ho, w2⟩ := top_above hl _ l h (Nat.le_refl _)
    exact ⟨o, ho, wit_adm (by rw [hl l h, hl o (frame_mem.mp ho).1]) w2 w⟩
theorem frame_pw (ls : List (List Int)) : (frameL ls).Pairwise (fun a b => ltT a b = true) := (sortT_pw ls).filter _
theorem frame_frame (ls : List (List Int)) : frameL (frameL ls) = frameL ls := by
  refine pw_unique (frame_pw _) (frame_pw _) fun x => ?_
  rw [frame_mem]
  refine ⟨fun h => h.1, fun h => ⟨h, ?_⟩⟩
  refine List.all_eq_true.mpr fun o ho => ?_
  have ht := (frame_mem.mp h).2
  cases hw : witB x o with
  | false => simp
  | true =>
    have := topB_true ht (frame_mem.mp ho).1 hw
    simp [this]
/-! ### the common part -/
def lessI (a b : Int) : Int := if a = -1 then b else if b = -1 then a else minI a b
def meetL (a b : List Int) : List Int := (List.range a.length).map fun k => lessI (a.getD k 0) (b.getD k 0)
theorem meetL_len {a b : List Int} : (meetL a b).length = a.length := by simp [meetL]
theorem meetL_at {a b : List Int} {k : Nat} (h : k < a.length) : (meetL a b).getD k 0 = lessI (a.getD k 0) (b.getD k 0) := by
  simp [meetL, List.getD_eq_getElem?_getD, h]
theorem lessI_cases (a b : Int) : (a = -1 ∧ lessI a b = b) ∨ (b = -1 ∧ lessI a b = a) ∨ (a ≠ -1 ∧ b ≠ -1 ∧ a ≤ b ∧ lessI a b = a) ∨ (a ≠ -1 ∧ b ≠ -1 ∧ b ≤ a ∧ lessI a b = b) := by
  unfold lessI minI
  by_cases h1 : a = -1
  · exact .inl ⟨h1, by rw [if_pos h1]⟩
  · by_cases h2 : b = -1
    · exact .inr (.inl ⟨h2, by rw [if_neg h1, if_pos h2]⟩)
    · rw [if_neg h1, if_neg h2]
      by_cases h3 : b < a
      · exact .inr (.inr (.inr ⟨h1, h2, by omega, by rw [if_pos h3]⟩))
      · exact .inr (.inr (.inl ⟨h1, h2, by omega, by rw [if_neg h3]⟩))
theorem meet_adm {a b m : List Int} (h : a.length = b.length) : admB (meetL a b) m = (admB a m && admB b m) := by
  rw [Bool.eq_iff_iff, Bool.and_eq_true, admB_iff, admB_iff, admB_iff, meetL_len]
  constructor
  · intro z
    refine ⟨fun k hk => ?_, fun k hk => ?_⟩
    · have := z k hk
      rw [meetL_at hk] at this
      have := lessI_cases (a.getD k 0) (b.getD k 0)
      omega
    · have hk' : k < a.length := by omega
      have := z k hk'
      rw [meetL_at hk'] at this
      have := lessI_cases (a.getD k 0) (b.getD k 0)
      omega
  · rintro ⟨z1, z2⟩ k hk
    rw [meetL_at hk]
    have := z1 k hk
    have := z2 k (by omega)
    have := lessI_cases (a.getD k 0) (b.getD k 0)
    omega
theorem meet_wit {a b x : List Int} (h : a.length = b.length) (hx : x.length = a.length) : witB x (meetL a b) = (witB x a && witB x b) := by
  rw [Bool.eq_iff_iff, Bool.and_eq_true, witB_iff, witB_iff, witB_iff]
  constructor
  · intro z
    refine ⟨fun k hk => ?_, fun k hk => ?_⟩
    · have := z k hk
      rw [meetL_at (by omega)] at this
      have := lessI_cases (a.getD k 0) (b.getD k 0)
      omega
    · have := z k hk
      rw [meetL_at (by omega)] at this
      have := lessI_cases (a.getD k 0) (b.getD k 0)
      omega
  · rintro ⟨z1, z2⟩ k hk
    rw [meetL_at (by omega)]
    have := z1 k hk
    have := z2 k hk
    have := lessI_cases (a.getD k 0) (b.getD k 0)
    omega
theorem meetL_lo {a b : List Int} (h : a.length = b.length) (ha : ∀ x ∈ a, (-1 : Int) ≤ x) (hb : ∀ x ∈ b, (-1 : Int) ≤ x) : ∀ x ∈ meetL a b, (-1 : Int) ≤ x := by
  intro x hx
  obtain ⟨k, hk, rfl⟩ := List.mem_map.mp hx
  have hk := List.mem_range.mp hk
  have h1 := ha _ (getD_mem hk)
  have h2 := hb _ (getD_mem (show k < b.length by omega))
  have := lessI_cases (a.getD k 0) (b.getD k 0)
  omega
def meetsL (xs ys : List (List Int)) : List (List Int) := xs.flatMap fun x => ys.map fun y => meetL x y
theorem mem_meetsL {xs ys : List (List Int)} {t : List Int} : t ∈ meetsL xs ys ↔ ∃ x ∈ xs, ∃ y ∈ ys, meetL x y = t := by
  simp [meetsL, List.mem_flatMap]
theorem meetsL_len {xs ys : List (List Int)} : (meetsL xs ys).length = xs.length * ys.length := by
  induction xs with
  | nil => simp [meetsL]
  | cons x xs ih =>
    have : meetsL (x :: xs) ys = ys.map (meetL x) ++ meetsL xs ys := by simp [meetsL]
    rw [this, List.length_append, List.length_map, ih, List.length_cons, Nat.succ_mul]
    omega
theorem Lim.meets {n : Nat} {xs ys : List (List Int)} (gx : Lim n xs) (gy : Lim n ys) : Lim n (meetsL xs ys) := by
  refine ⟨fun t ht => ?_, fun t ht => ?_⟩
  · obtain ⟨x, hx, y, hy, rfl⟩ := mem_meetsL.mp ht
    rw [meetL_len, gx.len x hx]
  · obtain ⟨x, hx, y, hy, rfl⟩ := mem_meetsL.mp ht
    exact meetL_lo (by rw [gx.len x hx, gy.len y hy]) (gx.lo x hx) (gy.lo y hy)
theorem any_meets_adm {n : Nat} {xs ys : List (List Int)} (hx : ∀ t ∈ xs, t.length = n) (hy : ∀ t ∈ ys, t.length = n) (m : List Int) : ((meetsL xs ys).any fun l => admB l m) = ((xs.any fun l => admB l m) && ys.any fun l => admB l m) := by
  rw [Bool.eq_iff_iff, Bool.and_eq_true, List.any_eq_true, List.any_eq_true, List.any_eq_true]
  constructor
  · rintro ⟨t, ht, h⟩
    obtain ⟨x, h1, y, h2, rfl⟩ := mem_meetsL.mp ht
    rw [meet_adm (by rw [hx x h1, hy y h2]), Bool.and_eq_true] at h
    exact ⟨⟨x, h1, h.1⟩, y, h2, h.2⟩
  · rintro ⟨⟨x, h1, c1⟩, y, h2, c2⟩
    refine ⟨meetL x y, mem_meetsL.mpr ⟨x, h1, y, h2, rfl⟩, ?_⟩
    rw [meet_adm (by rw [hx x h1, hy y h2]), c1, c2]
    rfl
theorem any_meets_wit {n : Nat} {xs ys : List (List Int)} (hx : ∀ t ∈ xs, t.length = n) (hy : ∀ t ∈ ys, t.length = n) {m : List Int} (hm : m.length = n) : ((meetsL xs ys).any fun l => witB m l) = ((xs.any fun l => witB m l) && ys.any fun l => witB m l) := by
  rw [Bool.eq_iff_iff, Bool.and_eq_true, List.any_eq_true, List.any_eq_true, List.any_eq_true]
  constructor
  · rintro ⟨t, ht, h⟩
    obtain ⟨x, h1, y, h2, rfl⟩ := mem_meetsL.mp ht
    rw [meet_wit (by rw [hx x h1, hy y h2]) (by rw [hm, hx x h1]), Bool.and_eq_true] at h
    exact ⟨⟨x, h1, h.1⟩, y, h2, h.2⟩
  · rintro ⟨⟨x, h1, c1⟩, y, h2, c2⟩
    refine ⟨meetL x y, mem_meetsL.mpr ⟨x, h1, y, h2, rfl⟩, ?_⟩
    rw [meet_wit (by rw [hx x h1, hy y h2]) (by rw [hm, hx x h1]), c1, c2]
    rfl
end Cov.Sm

/-! PureX: complements, plainly. -/
namespace Cov.Sm
open PySem
/-! ### counting -/
theorem nodup_len {α : Type} [DecidableEq α] : ∀ (l d : List α), l.Nodup → (∀ x ∈ l, x ∈ d) → l.length ≤ d.length
  | [], _, _, _ => Nat.zero_le _
  | x :: l, d, hn, hs => by
    obtain ⟨h1, h2⟩ := List.nodup_cons.mp hn
    have hx := hs x List.mem_cons_self
    have ih := nodup_len l (d.erase x) h2 fun y hy => (List.mem_erase_of_ne fun (e : y = x) => h1 (e ▸ hy)).2 (hs y (List.mem_cons_of_mem _ hy))
    have e := List.length_erase_of_mem hx
    have := List.length_pos_of_mem hx
    rw [List.length_cons]
    omega
def cart : List (List Int) → List (List Int)
  | [] => [[]]
  | V :: Vs => V.flatMap fun v => (cart Vs).map fun t => v :: t
theorem cart_len : ∀ (Vs : List (List Int)) (k : Nat), (∀ V ∈ Vs, V.length ≤ k) → (cart Vs).length ≤ k ^ Vs.length
  | [], k, _ => by simp [cart]
  | V :: Vs, k, h => by
    have ih := cart_len Vs k fun W hW => h W (List.mem_cons_of_mem _ hW)
    have hV := h V List.mem_cons_self
    have e0 : ∀ U : List Int, (U.flatMap fun v => (cart Vs).map fun t => v :: t).length = U.length * (cart Vs).length := by
      intro U
      induction U with
      | nil => simp
      | cons v U ihU => rw [List.flatMap_cons, List.length_append, List.length_map, ihU, List.length_cons, Nat.succ_mul, Nat.add_comm]
    have e : (cart (V :: Vs)).length = V.length * (cart Vs).length := e0 V
    rw [e, List.length_cons, Nat.pow_succ, Nat.mul_comm]
    exact Nat.mul_le_mul ih hV
theorem mem_cart : ∀ (Vs : List (List Int)) (t : List Int), t.length = Vs.length → (∀ k < t.length, t.getD k 0 ∈ Vs.getD k []) → t ∈ cart Vs
  | [], [], _, _ => by simp [cart]
  | [], _ :: _, h, _ => by simp at h
  | _ :: _, [], h, _ => by simp at h
  | V :: Vs, x :: t, h, hk => by
    have h0 := hk 0 (by simp)
    have ih := mem_cart Vs t (by simpa using h) fun k hk' => by
      have := hk (k + 1) (by simpa using hk')
      simpa using this
    simp only [cart, List.mem_flatMap, List.mem_map]
    exact ⟨x, by simpa using h0, t, ih, rfl⟩
/-- a list in which tails tell the members apart -/
theorem tails_len {F : List (List Int)} (hn : F.Nodup) (inj : ∀ a ∈ F, ∀ b ∈ F, a.tail = b.tail → a = b) {Vs : List (List Int)} {k : Nat} (hV : ∀ V ∈ Vs, V.length ≤ k) (hm : ∀ t ∈ F, t.tail ∈ cart Vs) : F.length ≤ k ^ Vs.length := by
  have h1 : (F.map List.tail).Nodup := List.pairwise_map.mpr (List.Pairwise.imp_of_mem (fun {a b} ha hb ne e => ne (inj a ha b hb e)) hn)
  have h2 := nodup_len _ (cart Vs) h1 fun x hx => by
    obtain ⟨t, ht, rfl⟩ := List.mem_map.mp hx
    exact hm t ht
  rw [List.length_map] at h2
  exact Nat.le_trans h2 (cart_len Vs k hV)
theorem nodup_ltT {l : List (List Int)} (h : l.Pairwise (fun a b => ltT a b = true)) : l.Nodup := h.imp fun {a b} hab e => by
  subst e
  rw [ltT_irr] at hab
  cases hab
/-! ### one place -/
def singleL (n p : Nat) (v r : Int) : List Int := (List.replicate n r).set p v
theorem singleL_len {n p : Nat} {v r : Int} : (singleL n p v r).length = n := by simp [singleL]
theorem singleL_at {n p k : Nat} {v r : Int} (h : k < n) : (singleL n p v r).getD k 0 = if p = k then v else r := by
  simp only [singleL, List.getD_eq_getElem?_getD, List.getElem?_set, List.length_replicate]
  by_cases e : p = k
  · subst e; simp [h]
  · simp [e, h]
theorem singleL_mem {n p : Nat} {v r x : Int} (h : x ∈ singleL n p v r) : x = v ∨ x = r := by
  rcases List.mem_or_eq_of_mem_set h with z | z
  · exact .inr (List.mem_replicate.mp z).2
  · exact .inl z
def repl (n : Nat) (r : Int) : List Int := List.replicate n r
theorem repl_at {n k : Nat} {r : Int} (h : k < n) : (repl n r).getD k 0 = r := by simp [repl, List.getD_eq_getElem?_getD, h]
theorem rep_one (n : Nat) (r : Int) : (List.replicate n [r]).flatten = repl n r := by
  unfold repl
  induction n with
  | zero => rfl
  | succ n ih => simp [List.replicate_succ, ih]
theorem covB_iff {a b : List Int} : covB a b = true ↔ ∀ k < a.length, b.getD k 0 ≤ a.getD k 0 := by
  unfold covB
  rw [List.all_eq_true]
  refine forall_congr' fun k => ?_
  rw [List.mem_range, decide_eq_true_eq]
/-! ### the complement of a closed set -/
def belowL (n : Nat) (m : List Int) : List (List Int) := ((List.range n).filter fun p => decide (0 < m.getD p 0)).map fun p => singleL n p (m.getD p 0 - 1) (-1)
theorem below_len (n : Nat) (m : List Int) : (belowL n m).length ≤ n := by
  unfold belowL
  rw [List.length_map]
  exact Nat.le_trans (List.length_filter_le _ _) (by simp)
theorem mem_below {n : Nat} {m t : List Int} : t ∈ belowL n m ↔ ∃ p, p < n ∧ 0 < m.getD p 0 ∧ singleL n p (m.getD p 0 - 1) (-1) = t := by
  simp only [belowL, List.mem_map, List.mem_filter, List.mem_range, decide_eq_true_eq]
  constructor
  · rintro ⟨p, ⟨a, b⟩, c⟩; exact ⟨p, a, b, c⟩
  · rintro ⟨p, a, b, c⟩; exact ⟨p, ⟨a, b⟩, c⟩
theorem Lim.below (n : Nat) (m : List Int) : Lim n (belowL n m) := by
  refine ⟨fun t ht => ?_, fun t ht x hx => ?_⟩
  · obtain ⟨p, _, _, rfl⟩ := mem_below.mp ht
    exact singleL_len
  · obtain ⟨p, _, h, rfl⟩ := mem_below.mp ht
    rcases singleL_mem hx with e | e <;> omega
theorem below_adm {n : Nat} {m x : List Int} (hx : x.length = n) (h0 : ∀ z ∈ x, (0 : Int) ≤ z) : ((belowL n m).any fun l => admB l x) = !covB x m := by
  rw [Bool.eq_iff_iff, List.any_eq_true, Bool.not_eq_true']
  constructor
  · rintro ⟨t, ht, h⟩
    obtain ⟨p, hp, hm, rfl⟩ := mem_below.mp ht
    rw [admB_iff, singleL_len] at h
    have := h p hp
    rw [singleL_at hp, if_pos rfl] at this
    refine covB_false (j := p) (by omega) (by omega)
  · intro h
    obtain ⟨p, hp, h1⟩ := List.all_eq_false.mp h
    have hp := List.mem_range.mp hp
    rw [decide_eq_true_eq] at h1
    have hz := h0 _ (getD_mem hp)
    refine ⟨_, mem_below.mpr ⟨p, by omega, by omega, rfl⟩, ?_⟩
    rw [admB_iff, singleL_len]
    intro k hk
    rw [singleL_at hk]
    by_cases e : p = k
    · subst e; rw [if_pos rfl]; omega
    · rw [if_neg e]; exact .inl rfl
def stepC (n : Nat) (F : List (List Int)) (m : List Int) : List (List Int) := frameL (meetsL F (belowL n m))
def compC (n : Nat) (ms : List (List Int)) : List (List Int) := ms.foldl (stepC n) [repl n (-1)]
theorem frame_one (x : List Int) : frameL [x] = [x] := by
  unfold frameL topB
  simp [sortT, insT]
/-- what the complement so far says -/
structure CompC (n : Nat) (pre F : List (List Int)) : Prop where
  lim : Lim n F
  fr : frameL F = F
  adm : ∀ x : List Int, x.length = n → (∀ z ∈ x, (0 : Int) ≤ z) → (F.any fun l => admB l x) = !(pre.any fun m => covB x m)
  hi : ∀ t ∈ F, ∀ x ∈ t, x ≤ 2
theorem compC_start (n : Nat) : CompC n [] [repl n (-1)] := by
  refine ⟨⟨fun t ht => ?_, fun t ht x hx => ?_⟩, frame_one _, fun x hx _ => ?_, fun t ht x hx => ?_⟩
  · rw [List.mem_singleton.mp ht]; simp [repl]
  · rw [List.mem_singleton.mp ht] at hx
    have := (List.mem_replicate.mp hx).2
    omega
  · simp only [List.any_cons, List.any_nil, Bool.or_false, Bool.not_false]
    rw [admB_iff]
    intro k hk
    have hk : k < n := by simpa [repl] using hk
    rw [repl_at hk]
    exact .inl rfl
  · rw [List.mem_singleton.mp ht] at hx
    have := (List.mem_replicate.mp hx).2
    omega
theorem compC_step {n : Nat} {pre F : List (List Int)} {m : List Int} (c : CompC n pre F) (hm : ∀ z ∈ m, z ≤ 3) (hl : m.length = n) : CompC n (pre ++ [m]) (stepC n F m) := by
  have gb := Lim.below n m
  have gm := c.lim.meets gb
  refine ⟨gm.frame, frame_frame _, fun x hx h0 => ?_, fun t ht x hx => ?_⟩
  · unfold stepC
    rw [any_frame_adm gm.len, any_meets_adm c.lim.len gb.len, c.adm x hx h0, below_adm hx h0, List.any_append]
    simp
  · have ht := (frame_mem.mp ht).1
    obtain ⟨a, ha, b, hb, rfl⟩ := mem_meetsL.mp ht
    obtain ⟨k, hk, rfl⟩ := List.mem_map.mp hx
    have hk := List.mem_range.mp hk
    have h1 := c.hi a ha _ (getD_mem hk)
    have lb : b.length = a.length := by rw [gb.len b hb, c.lim.len a ha]
    have h2 : b.getD k 0 ≤ 2 := by
      obtain ⟨p, hp, h3, rfl⟩ := mem_below.mp hb
      rw [singleL_len] at lb
      rw [singleL_at (by omega)]
      split
      · have := hm _ (getD_mem (show p < m.length by omega))
        omega
      · omega
    have := lessI_cases (a.getD k 0) (b.getD k 0)
    omega
theorem frame_anti {F : List (List Int)} (h : frameL F = F) {a b : List Int} (ha : a ∈ F) (hb : b ∈ F) (w : witB a b = true) : a = b := by
  rw [← h] at ha
  exact (topB_true (frame_mem.mp ha).2 hb w).symm
theorem wit_cons {x y : Int} {r : List Int} (hx : -1 ≤ x) (hy : -1 ≤ y) : witB (x :: r) (y :: r) = true ∨ witB (y :: r) (x :: r) = true := by
  have key : ∀ u v : Int, (v = -1 ∨ (u ≠ -1 ∧ u ≤ v)) → witB (u :: r) (v :: r) = true := by
    intro u v h
    rw [witB_iff]
    intro k hk
    cases k with
    | zero => simpa using h
    | succ k => simp only [List.getD_cons_succ]; omega
  by_cases h : y = -1 ∨ (x ≠ -1 ∧ x ≤ y)
  · exact .inl (key x y h)
  · exact .inr (key y x (by omega))
theorem compC_len {n : Nat} {pre F : List (List Int)} (c : CompC n pre F) (hn : 1 ≤ n) : F.length ≤ 4 ^ (n - 1) := by
  have e : (List.replicate (n - 1) ([-1, 0, 1, 2] : List Int)).length = n - 1 := by simp
  rw [← e]
  refine tails_len ?_ (fun a ha b hb h => ?_) (k := 4) (Vs := List.replicate (n - 1) [-1, 0, 1, 2]) (fun V hV => ?_) fun t ht => ?_
  · rw [← c.fr]
    exact nodup_ltT (frame_pw _)
  · have la := c.lim.len a ha
    have lb := c.lim.len b hb
    have oa := c.lim.lo a ha
    have ob := c.lim.lo b hb
    cases a with
    | nil => simp at la; omega
    | cons x r =>
      cases b with
      | nil => simp at lb; omega
      | cons y r' =>
        simp only [List.tail_cons] at h
        subst h
        rcases wit_cons (oa x List.mem_cons_self) (ob y List.mem_cons_self) with w | w
        · exact frame_anti c.fr ha hb w
        · exact (frame_anti c.fr hb ha w).symm
  · rw [(List.mem_replicate.mp hV).2]
    decide
  · have l := c.lim.len t ht
    refine mem_cart _ _ (by simp; omega) fun k hk => ?_
    have hk' : k < n - 1 := by simp at hk; omega
    have e2 : (List.replicate (n - 1) ([-1, 0, 1, 2] : List Int)).getD k [] = [-1, 0, 1, 2] := by simp [List.getD_eq_getElem?_getD, hk']
    rw [e2]
    have hm : t.tail.getD k 0 ∈ t := List.mem_of_mem_tail (getD_mem hk)
    have h1 := c.lim.lo t ht _ hm
    have h2 := c.hi t ht _ hm
    generalize t.tail.getD k 0 = z at h1 h2
    have : z = -1 ∨ z = 0 ∨ z = 1 ∨ z = 2 := by omega
    rcases this with rfl | rfl | rfl | rfl <;> simp
/-! ### a changed place -/
theorem cut_set {x : List Int} {p : Nat} (v : Int) (h : p < x.length) : (cutT x none (some (p : Int)) ++ [v]) ++ cutT x (some ((p : Int) + 1)) none = x.set p v := by
  have e1 : cutT x none (some (p : Int)) = x.take p := by
    simp only [cutT, HT.sIx, List.drop_zero, Nat.sub_zero]
    rw [if_neg (by omega), Int.toNat_natCast, Nat.min_eq_left (by omega)]
  have e2 : cutT x (some ((p : Int) + 1)) none = x.drop (p + 1) := by
    simp only [cutT, HT.sIx]
    rw [if_neg (by omega), show ((p : Int) + 1).toNat = p + 1 by omega, Nat.min_eq_left (by omega)]
    rw [List.take_of_length_le (by simp)]
  rw [e1, e2, List.set_eq_take_append_cons_drop, if_pos h, List.append_assoc]
  rfl
theorem set_at {x : List Int} {p k : Nat} {v : Int} (hk : k < x.length) : (x.set p v).getD k 0 = if p = k then v else x.getD k 0 := by
  simp only [List.getD_eq_getElem?_getD, List.getElem?_set]
  split
  · rename_i e
    subst e
    simp [hk]
  · rfl
/-- a limit of the complement is a greatest one -/
theorem compC_least {n : Nat} {ms F : List (List Int)} (c : CompC n ms F) (hl : ∀ m ∈ ms, m.length = n) {l : List Int} (h : l ∈ F) {p : Nat} (hp : p < n) (h0 : 0 ≤ l.getD p 0) : (ms.any fun m => admB (l.set p (l.getD p 0 + 1)) m) = true := by
  have ll := c.lim.len l h
  apply Classical.byContradiction
  intro hno
  rw [Bool.not_eq_true] at hno
  have none_ : ∀ m ∈ ms, admB (l.set p (l.getD p 0 + 1)) m = false := fun m hm => by
    have := List.any_eq_false.mp hno m hm
    simpa using this
  -- a marking above all numbers where the limit has none
  have xk : ∀ k, k < n → ((List.range n).map fun k => if p = k then l.getD k 0 + 1 else if l.getD k 0 = -1 then (3 : Int) + (ms.flatMap id).foldl (fun a b => max a b) 0 else l.getD k 0).getD k 0 = if p = k then l.getD k 0 + 1 else if l.getD k 0 = -1 then (3 : Int) + (ms.flatMap id).foldl (fun a b => max a b) 0 else l.getD k 0 := fun k hk => by
    simp [List.getD_eq_getElem?_getD, hk]
  have big : ∀ (ys : List Int) (a : Int), a ≤ ys.foldl (fun a b => max a b) a ∧ ∀ y ∈ ys, y ≤ ys.foldl (fun a b => max a b) a := by
    intro ys
    induction ys with
    | nil => intro a; exact ⟨Int.le_refl _, fun y hy => (nomatch hy)⟩
    | cons y ys ih =>
      intro a
      obtain ⟨i1, i2⟩ := ih (max a y)
      refine ⟨?_, fun z hz => ?_⟩
      · rw [List.foldl_cons]; omega
      · rw [List.foldl_cons]
        rcases List.mem_cons.mp hz with rfl | hz
        · omega
        · exact i2 z hz
  obtain ⟨B0, _⟩ := big (ms.flatMap id) 0
  generalize hB : (3 : Int) + (ms.flatMap id).foldl (fun a b => max a b) 0 = B at xk
  have B3 : 3 ≤ B := by omega
  generalize hX : ((List.range n).map fun k => if p = k then l.getD k 0 + 1 else if l.getD k 0 = -1 then B else l.getD k 0) = x at xk
  have lx : x.length = n := by rw [← hX]; simp
  have x0 : ∀ z ∈ x, (0 : Int) ≤ z := by
    intro z hz
    rw [← hX] at hz
    obtain ⟨k, hk, rfl⟩ := List.mem_map.mp hz
    have hk := List.mem_range.mp hk
    have := c.lim.lo l h _ (getD_mem (show k < l.length by omega))
    split
    · omega
    · split <;> omega
  have hc : (ms.any fun m => covB x m) = false := by
    rw [List.any_eq_false]
    intro m hm hcov
    have := none_ m hm
    rw [covB_iff] at hcov
    have hadm : admB (l.set p (l.getD p 0 + 1)) m = true := by
      rw [admB_iff]
      intro k hk
      have hk : k < n := by simpa [ll] using hk
      have h1 := hcov k (by omega)
      rw [xk k hk] at h1
      rw [set_at (by omega)]
      by_cases e : p = k
      · subst e
        rw [if_pos rfl] at h1 ⊢
        exact .inr h1
      · rw [if_neg e] at h1 ⊢
        by_cases e2 : l.getD k 0 = -1
        · exact .inl e2
        · rw [if_neg e2] at h1
          exact .inr h1
    rw [hadm] at this
    cases this
  have ha := c.adm x lx x0
  rw [hc] at ha
  obtain ⟨l', hl', a'⟩ := List.any_eq_true.mp ha
  rw [admB_iff] at a'
  have ll' := c.lim.len l' hl'
  have w : witB l l' = true := by
    rw [witB_iff]
    intro k hk
    have h1 := a' k (by omega)
    rw [xk k (by omega)] at h1
    have h2 := c.hi l' hl' _ (getD_mem (show k < l'.length by omega))
    by_cases e : p = k
    · subst e
      rw [if_pos rfl] at h1
      omega
    · rw [if_neg e] at h1
      by_cases e2 : l.getD k 0 = -1
      · rw [if_pos e2] at h1
        omega
      · rw [if_neg e2] at h1
        omega
  have e := frame_anti c.fr h hl' w
  have h1 := a' p (by omega)
  rw [xk p hp, if_pos rfl, ← e] at h1
  omega
/-! ### the complement of a frame -/
def aboveL (n : Nat) (l : List Int) : List (List Int) := ((List.range n).filter fun p => !decide (l.getD p 0 = -1)).map fun p => singleL n p (l.getD p 0 + 1) 0
theorem above_len (n : Nat) (m : List Int) : (aboveL n m).length ≤ n := by
  unfold aboveL
  rw [List.length_map]
  exact Nat.le_trans (List.length_filter_le _ _) (by simp)
theorem mem_above {n : Nat} {l t : List Int} : t ∈ aboveL n l ↔ ∃ p, p < n ∧ l.getD p 0 ≠ -1 ∧ singleL n p (l.getD p 0 + 1) 0 = t := by
  simp only [aboveL, List.mem_map, List.mem_filter, List.mem_range, Bool.not_eq_true', decide_eq_false_iff_not]
  constructor
  · rintro ⟨p, ⟨a, b⟩, c⟩; exact ⟨p, a, b, c⟩
  · rintro ⟨p, a, b, c⟩; exact ⟨p, ⟨a, b⟩, c⟩
theorem good_above {n : Nat} {l : List Int} (hl : l.length = n) (lo : ∀ x ∈ l, (-1 : Int) ≤ x) : Good n (aboveL n l) := by
  refine ⟨fun t ht => ?_, fun t ht x hx => ?_⟩
  · obtain ⟨p, _, _, rfl⟩ := mem_above.mp ht
    exact singleL_len
  · obtain ⟨p, hp, h, rfl⟩ := mem_above.mp ht
    have := lo _ (getD_mem (show p < l.length by omega))
    rcases singleL_mem hx with e | e <;> omega
theorem above_cov {n : Nat} {l x : List Int} (hl : l.length = n) (hx : x.length = n) (h0 : ∀ z ∈ x, (0 : Int) ≤ z) : ((aboveL n l).any fun s => covB x s) = !admB l x := by
  rw [Bool.eq_iff_iff, List.any_eq_true, Bool.not_eq_true']
  constructor
  · rintro ⟨t, ht, h⟩
    obtain ⟨p, hp, hm, rfl⟩ := mem_above.mp ht
    rw [covB_iff] at h
    have := h p (by omega)
    rw [singleL_at hp, if_pos rfl] at this
    refine List.all_eq_false.mpr ⟨p, List.mem_range.mpr (by omega), ?_⟩
    simp only [Bool.not_and, Bool.not_not, Bool.or_eq_true, decide_eq_true_eq, Bool.not_eq_true', decide_eq_false_iff_not]
    omega
  · intro h
    obtain ⟨p, hp, h1⟩ := List.all_eq_false.mp h
    have hp := List.mem_range.mp hp
    simp only [Bool.not_and, Bool.not_not, Bool.or_eq_true, decide_eq_true_eq, Bool.not_eq_true', decide_eq_false_iff_not] at h1
    refine ⟨_, mem_above.mpr ⟨p, by omega, by omega, rfl⟩, ?_⟩
    rw [covB_iff]
    intro k hk
    have hz := h0 _ (getD_mem hk)
    rw [singleL_at (by omega)]
    by_cases e : p = k
    · subst e; rw [if_pos rfl]; omega
    · rw [if_neg e]; exact hz
def stepF (n : Nat) (G : List (List Int)) (l : List Int) : List (List Int) := basis (joins G (aboveL n l))
def compF (n : Nat) (ls : List (List Int)) : List (List Int) := ls.foldl (stepF n) [repl n 0]
structure CompF (n : Nat) (pre G : List (List Int)) : Prop where
  good : Good n G
  le : least G = G
  cov : ∀ x : List Int, x.length = n → (∀ z ∈ x, (0 : Int) ≤ z) → (G.any fun m => covB x m) = !(pre.any fun l => admB l x)
  vals : ∀ t ∈ G, ∀ k < n, t.getD k 0 ∈ (0 : Int) :: pre.map fun l => l.getD k 0 + 1
theorem least_one (x : List Int) : least [x] = [x] := by
  simp [least, sortT, insT, lowA, lowB]
theorem compF_start (n : Nat) : CompF n [] [repl n 0] := by
  refine ⟨⟨fun t ht => ?_, fun t ht x hx => ?_⟩, least_one _, fun x hx h0 => ?_, fun t ht k hk => ?_⟩
  · rw [List.mem_singleton.mp ht]; simp [repl]
  · rw [List.mem_singleton.mp ht] at hx
    have := (List.mem_replicate.mp hx).2
    omega
  · simp only [List.any_cons, List.any_nil, Bool.or_false, Bool.not_false]
    rw [covB_iff]
    intro k hk
    rw [repl_at (by omega)]
    exact h0 _ (getD_mem hk)
  · rw [List.mem_singleton.mp ht, repl_at hk]
    simp
theorem joinT_at {a b : List Int} {k : Nat} (h : k < a.length) : (joinT a b).getD k 0 = if b.getD k 0 > a.getD k 0 then b.getD k 0 else a.getD k 0 := by
  simp [joinT, List.getD_eq_getElem?_getD, h]
theorem compF_step {n : Nat} {pre G : List (List Int)} {l : List Int} (c : CompF n pre G) (hl : l.length = n) (lo : ∀ x ∈ l, (-1 : Int) ≤ x) : CompF n (pre ++ [l]) (stepF n G l) := by
  have gb := good_above hl lo
  have gm := joins_good c.good gb
  unfold stepF
  rw [basis_least gm.len]
  refine ⟨⟨fun t ht => gm.len t (least_sub ht), fun t ht => gm.nn t (least_sub ht)⟩, least_least, fun x hx h0 => ?_, fun t ht k hk => ?_⟩
  · rw [any_least gm.len hx, any_joins c.good.len gb.len hx, c.cov x hx h0, above_cov hl hx h0, List.any_append]
    simp
  · obtain ⟨a, ha, b, hb, rfl⟩ := mem_joins.mp (least_sub ht)
    have la := c.good.len a ha
    rw [joinT_at (by omega)]
    have h1 := c.vals a ha k hk
    obtain ⟨p, hp, h2, rfl⟩ := mem_above.mp hb
    rw [singleL_at hk]
    have more : ∀ z : Int, z ∈ (0 : Int) :: pre.map (fun l => l.getD k 0 + 1) → z ∈ (0 : Int) :: (pre ++ [l]).map fun l => l.getD k 0 + 1 := fun z hz => by
      rcases List.mem_cons.mp hz with e | e
      · exact e ▸ List.mem_cons_self
      · rw [List.map_append]
        exact List.mem_cons_of_mem _ (List.mem_append_left _ e)
    by_cases e : p = k
    · subst e
      rw [if_pos rfl]
      split
      · simp
      · exact more _ h1
    · rw [if_neg e]
      split
      · exact List.mem_cons_self
      · exact more _ h1
theorem least_anti {G : List (List Int)} (h : least G = G) {a b : List Int} (ha : a ∈ G) (hb : b ∈ G) (w : covB a b = true) : b = a := by
  rw [← h] at ha
  have := List.all_eq_true.mp (mem_least.mp ha).2 b hb
  rw [w] at this
  simpa using this
theorem compF_len {n : Nat} {pre G : List (List Int)} (c : CompF n pre G) (hn : 1 ≤ n) : G.length ≤ (pre.length + 1) ^ (n - 1) := by
  have e : ((List.range (n - 1)).map fun k => (0 : Int) :: pre.map fun l => l.getD (k + 1) 0 + 1).length = n - 1 := by simp
  refine Nat.le_trans (tails_len ?_ (fun a ha b hb h => ?_) (k := pre.length + 1) (Vs := (List.range (n - 1)).map fun k => (0 : Int) :: pre.map fun l => l.getD (k + 1) 0 + 1) (fun V hV => ?_) fun t ht => ?_) (Nat.le_of_eq (by rw [e]))
  · rw [← c.le]
    unfold least
    rw [lowA_filter, List.nil_append]
    exact nodup_ltT ((sortT_pw _).filter _)
  · have la := c.good.len a ha
    have lb := c.good.len b hb
    cases a with
    | nil => simp at la; omega
    | cons x r =>
      cases b with
      | nil => simp at lb; omega
      | cons y r' =>
        simp only [List.tail_cons] at h
        subst h
        by_cases hxy : y ≤ x
        · exact (least_anti c.le ha hb (by rw [covB_cons, covB_refl]; simp [hxy])).symm
        · exact least_anti c.le hb ha (by rw [covB_cons, covB_refl]; simp; omega)
  · obtain ⟨k, _, rfl⟩ := List.mem_map.mp hV
    simp
  · have l := c.good.len t ht
    refine mem_cart _ _ (by simp; omega) fun k hk => ?_
    have hk' : k < n - 1 := by simp at hk; omega
    have e2 : ((List.range (n - 1)).map fun k => (0 : Int) :: pre.map fun l => l.getD (k + 1) 0 + 1).getD k [] = (0 : Int) :: pre.map fun l => l.getD (k + 1) 0 + 1 := by simp [List.getD_eq_getElem?_getD, hk']
    rw [e2]
    have := c.vals t ht (k + 1) (by omega)
    cases t with
    | nil => simp at l; omega
    | cons x r => simpa using this
theorem compF_least {n : Nat} {ls G : List (List Int)} (c : CompF n ls G) {g : List Int} (h : g ∈ G) {p : Nat} (hp : p < n) (h0 : 0 < g.getD p 0) : (ls.any fun l => admB l (g.set p (g.getD p 0 - 1))) = true := by
  have lg := c.good.len g h
  have l2 : (g.set p (g.getD p 0 - 1)).length = n := by simp [lg]
  have nn : ∀ z ∈ g.set p (g.getD p 0 - 1), (0 : Int) ≤ z := by
    intro z hz
    rcases List.mem_or_eq_of_mem_set hz with e | e
    · exact c.good.nn g h z e
    · omega
  have hc := c.cov _ l2 nn
  cases ha : (ls.any fun l => admB l (g.set p (g.getD p 0 - 1))) with
  | true => rfl
  | false =>
    rw [ha] at hc
    obtain ⟨g', hg', w⟩ := List.any_eq_true.mp hc
    have w2 : covB g (g.set p (g.getD p 0 - 1)) = true := by
      rw [covB_iff]
      intro k hk
      rw [set_at hk]
      split
      · rename_i e; subst e; omega
      · omega
    have e := least_anti c.le h hg' (covB_trans (by omega) (by rw [l2, c.good.len g' hg']) w2 w)
    subst e
    rw [covB_iff] at w
    have := w p (by omega)
    rw [set_at (by omega), if_pos rfl] at this
    omega
end Cov.Sm

/-! PureY: complements are inverse; frames and bases are told by what they admit. -/
namespace Cov.Sm
open PySem
theorem fold_max : ∀ (ys : List Int) (a : Int), a ≤ ys.foldl (fun a b => max a b) a ∧ ∀ y ∈ ys, y ≤ ys.foldl (fun a b => max a b) a
  | [], a => ⟨Int.le_refl _, fun y hy => (nomatch hy)⟩
  | y :: ys, a => by
    obtain ⟨i1, i2⟩ := fold_max ys (max a y)
    refine ⟨?_, fun z hz => ?_⟩
    · rw [List.foldl_cons]; omega
    · rw [List.foldl_cons]
      rcases List.mem_cons.mp hz with rfl | hz
      · omega
      · exact i2 z hz
/-- what one list admits the other one admits: its limits are within those -/
theorem frame_half {n : Nat} {F G : List (List Int)} (gF : Lim n F) (gG : Lim n G) (h : ∀ x : List Int, x.length = n → (∀ z ∈ x, (0 : Int) ≤ z) → (F.any fun l => admB l x) = true → (G.any fun l => admB l x) = true) {l : List Int} (hl : l ∈ F) : ∃ g ∈ G, witB l g = true := by
  have ll := gF.len l hl
  obtain ⟨b0, b1⟩ := fold_max G.flatten 0
  generalize (G.flatten).foldl (fun a b => max a b) (0 : Int) = B at b0 b1
  have hx := h ((List.range n).map fun k => if l.getD k 0 = -1 then B + 1 else l.getD k 0) (by simp) (fun z hz => by
    obtain ⟨k, hk, rfl⟩ := List.mem_map.mp hz
    have hk := List.mem_range.mp hk
    have := gF.lo l hl _ (getD_mem (show k < l.length by omega))
    split <;> omega)
  have xk : ∀ k, k < n → ((List.range n).map fun k => if l.getD k 0 = -1 then B + 1 else l.getD k 0).getD k 0 = if l.getD k 0 = -1 then B + 1 else l.getD k 0 := fun k hk => by
    simp [List.getD_eq_getElem?_getD, hk]
  generalize ((List.range n).map fun k => if l.getD k 0 = -1 then B + 1 else l.getD k 0) = x at hx xk
  obtain ⟨g, hg, a⟩ := List.any_eq_true.mp (hx (List.any_eq_true.mpr ⟨l, hl, by
    rw [admB_iff]
    intro k hk
    rw [xk k (by omega)]
    by_cases e : l.getD k 0 = -1
    · exact .inl e
    · rw [if_neg e]; exact .inr (Int.le_refl _)⟩))
  have lg := gG.len g hg
  refine ⟨g, hg, ?_⟩
  rw [admB_iff] at a
  rw [witB_iff]
  intro k hk
  have h1 := a k (by omega)
  rw [xk k (by omega)] at h1
  have h2 := b1 _ (List.mem_flatten.mpr ⟨g, hg, getD_mem (show k < g.length by omega)⟩)
  by_cases e : l.getD k 0 = -1
  · rw [if_pos e] at h1; omega
  · rw [if_neg e] at h1; omega
theorem frame_sub {n : Nat} {F G : List (List Int)} (gF : Lim n F) (gG : Lim n G) (fF : frameL F = F) (h : ∀ x : List Int, x.length = n → (∀ z ∈ x, (0 : Int) ≤ z) → (F.any fun l => admB l x) = (G.any fun l => admB l x)) {l : List Int} (hl : l ∈ F) : l ∈ G := by
  obtain ⟨g, hg, w⟩ := frame_half gF gG (fun x a b c => (h x a b) ▸ c) hl
  obtain ⟨l', hl', w'⟩ := frame_half gG gF (fun x a b c => (h x a b).symm ▸ c) hg
  have e := frame_anti fF hl hl' (wit_trans (by rw [gF.len l hl, gG.len g hg]) w w')
  subst e
  rw [wit_anti (by rw [gF.len l hl, gG.len g hg]) w w']
  exact hg
theorem frame_unique {n : Nat} {F G : List (List Int)} (gF : Lim n F) (gG : Lim n G) (fF : frameL F = F) (fG : frameL G = G) (h : ∀ x : List Int, x.length = n → (∀ z ∈ x, (0 : Int) ≤ z) → (F.any fun l => admB l x) = (G.any fun l => admB l x)) : F = G :=
  pw_unique (fF ▸ frame_pw F) (fG ▸ frame_pw G) fun l => ⟨frame_sub gF gG fF h, frame_sub gG gF fG fun x a b => (h x a b).symm⟩
theorem cov_anti {a b : List Int} (h : a.length = b.length) (h1 : covB a b = true) (h2 : covB b a = true) : a = b := by
  rw [covB_iff] at h1 h2
  refine ext_getD h fun k hk => ?_
  have := h1 k hk
  have := h2 k (by omega)
  omega
theorem basis_sub {n : Nat} {F G : List (List Int)} (gF : Good n F) (gG : Good n G) (fF : least F = F) (h : ∀ x : List Int, x.length = n → (∀ z ∈ x, (0 : Int) ≤ z) → (F.any fun l => covB x l) = (G.any fun l => covB x l)) {l : List Int} (hl : l ∈ F) : l ∈ G := by
  have lF := gF.len l hl
  obtain ⟨g, hg, w⟩ := List.any_eq_true.mp ((h l lF (gF.nn l hl)) ▸ List.any_eq_true.mpr ⟨l, hl, covB_refl l⟩)
  have lG := gG.len g hg
  obtain ⟨l', hl', w'⟩ := List.any_eq_true.mp ((h g lG (gG.nn g hg)).symm ▸ List.any_eq_true.mpr ⟨g, hg, covB_refl g⟩)
  have lF' := gF.len l' hl'
  have e := least_anti fF hl hl' (covB_trans (by omega) (by omega) w w')
  subst e
  rw [cov_anti (by omega) w w']
  exact hg
theorem least_pw (G : List (List Int)) : (least G).Pairwise (fun a b => ltT a b = true) := by
  unfold least
  rw [lowA_filter, List.nil_append]
  exact (sortT_pw _).filter _
theorem basis_unique {n : Nat} {F G : List (List Int)} (gF : Good n F) (gG : Good n G) (fF : least F = F) (fG : least G = G) (h : ∀ x : List Int, x.length = n → (∀ z ∈ x, (0 : Int) ≤ z) → (F.any fun l => covB x l) = (G.any fun l => covB x l)) : F = G :=
  pw_unique (fF ▸ least_pw F) (fG ▸ least_pw G) fun l => ⟨basis_sub gF gG fF h, basis_sub gG gF fG fun x a b => (h x a b).symm⟩
/-! ### the complement of a closed set, its numbers told by a list -/
structure CoC (n : Nat) (V : List Int) (pre F : List (List Int)) : Prop where
  lim : Lim n F
  fr : frameL F = F
  adm : ∀ x : List Int, x.length = n → (∀ z ∈ x, (0 : Int) ≤ z) → (F.any fun l => admB l x) = !(pre.any fun m => covB x m)
  vals : ∀ t ∈ F, ∀ k < n, t.getD k 0 ∈ V
theorem CompC.start {n : Nat} {V : List Int} (h : (-1 : Int) ∈ V) : CoC n V [] [repl n (-1)] := by
  obtain ⟨a, b, c, _⟩ := compC_start n
  refine ⟨a, b, c, fun t ht k hk => ?_⟩
  rw [List.mem_singleton.mp ht, repl_at hk]
  exact h
theorem CoC.step {n : Nat} {V : List Int} {pre F : List (List Int)} {m : List Int} (c : CoC n V pre F) (hv : (-1 : Int) ∈ V) (hm : ∀ z ∈ m, 0 < z → z - 1 ∈ V) (hl : m.length = n) : CoC n V (pre ++ [m]) (stepC n F m) := by
  have gb := Lim.below n m
  have gm := c.lim.meets gb
  refine ⟨gm.frame, frame_frame _, fun x hx h0 => ?_, fun t ht k hk => ?_⟩
  · unfold stepC
    rw [any_frame_adm gm.len, any_meets_adm c.lim.len gb.len, c.adm x hx h0, below_adm hx h0, List.any_append]
    simp
  · have ht := (frame_mem.mp ht).1
    obtain ⟨a, ha, b, hb, rfl⟩ := mem_meetsL.mp ht
    have la := c.lim.len a ha
    rw [meetL_at (by omega)]
    have h1 := c.vals a ha k hk
    have h2 : b.getD k 0 ∈ V := by
      obtain ⟨p, hp, h3, rfl⟩ := mem_below.mp hb
      rw [singleL_at hk]
      split
      · exact hm _ (getD_mem (show p < m.length by omega)) h3
      · exact hv
    rcases lessI_cases (a.getD k 0) (b.getD k 0) with ⟨_, e⟩ | ⟨_, e⟩ | ⟨_, _, _, e⟩ | ⟨_, _, _, e⟩ <;> rw [e] <;> assumption
theorem CoC.len {n : Nat} {V : List Int} {pre F : List (List Int)} (c : CoC n V pre F) (hn : 1 ≤ n) : F.length ≤ V.length ^ (n - 1) := by
  have e : (List.replicate (n - 1) V).length = n - 1 := by simp
  rw [← e]
  refine Nat.le_trans (tails_len ?_ (fun a ha b hb h => ?_) (k := V.length) (Vs := List.replicate (n - 1) V) (fun W hW => ?_) fun t ht => ?_) (Nat.le_of_eq (by simp))
  · rw [← c.fr]
    exact nodup_ltT (frame_pw _)
  · have la := c.lim.len a ha
    have lb := c.lim.len b hb
    have oa := c.lim.lo a ha
    have ob := c.lim.lo b hb
    cases a with
    | nil => simp at la; omega
    | cons x r =>
      cases b with
      | nil => simp at lb; omega
      | cons y r' =>
        simp only [List.tail_cons] at h
        subst h
        rcases wit_cons (oa x List.mem_cons_self) (ob y List.mem_cons_self) with w | w
        · exact frame_anti c.fr ha hb w
        · exact (frame_anti c.fr hb ha w).symm
  · rw [(List.mem_replicate.mp hW).2]
    exact Nat.le_refl _
  · have l := c.lim.len t ht
    refine mem_cart _ _ (by simp; omega) fun k hk => ?_
    have hk' : k < n - 1 := by simp at hk; omega
    have e2 : (List.replicate (n - 1) V).getD k [] = V := by simp [List.getD_eq_getElem?_getD, hk']
    rw [e2]
    have := c.vals t ht (k + 1) (by omega)
    cases t with
    | nil => simp at l; omega
    | cons x r => simpa using this
/-! ### the complement of a frame, its numbers told by a list -/
structure CoF (n : Nat) (V : List Int) (pre G : List (List Int)) : Prop where
  good : Good n G
  le : least G = G
  cov : ∀ x : List Int, x.length = n → (∀ z ∈ x, (0 : Int) ≤ z) → (G.any fun m => covB x m) = !(pre.any fun l => admB l x)
  vals : ∀ t ∈ G, ∀ k < n, t.getD k 0 ∈ V
theorem CoF.start {n : Nat} {V : List Int} (h : (0 : Int) ∈ V) : CoF n V [] [repl n 0] := by
  obtain ⟨a, b, c, _⟩ := compF_start n
  refine ⟨a, b, c, fun t ht k hk => ?_⟩
  rw [List.mem_singleton.mp ht, repl_at hk]
  exact h
theorem CoF.step {n : Nat} {V : List Int} {pre G : List (List Int)} {l : List Int} (c : CoF n V pre G) (h0 : (0 : Int) ∈ V) (hm : ∀ z ∈ l, z ≠ -1 → z + 1 ∈ V) (hl : l.length = n) (lo : ∀ x ∈ l, (-1 : Int) ≤ x) : CoF n V (pre ++ [l]) (stepF n G l) := by
  have gb := good_above hl lo
  have gm := joins_good c.good gb
  unfold stepF
  rw [basis_least gm.len]
  refine ⟨⟨fun t ht => gm.len t (least_sub ht), fun t ht => gm.nn t (least_sub ht)⟩, least_least, fun x hx h0 => ?_, fun t ht k hk => ?_⟩
  · rw [any_least gm.len hx, any_joins c.good.len gb.len hx, c.cov x hx h0, above_cov hl hx h0, List.any_append]
    simp
  · obtain ⟨a, ha, b, hb, rfl⟩ := mem_joins.mp (least_sub ht)
    have la := c.good.len a ha
    rw [joinT_at (by omega)]
    have h1 := c.vals a ha k hk
    have h2 : b.getD k 0 ∈ V := by
      obtain ⟨p, hp, h3, rfl⟩ := mem_above.mp hb
      rw [singleL_at hk]
      split
      · exact hm _ (getD_mem (show p < l.length by omega)) h3
      · exact h0
    split <;> assumption
theorem CoF.len {n : Nat} {V : List Int} {pre G : List (List Int)} (c : CoF n V pre G) (hn : 1 ≤ n) : G.length ≤ V.length ^ (n - 1) := by
  have e : (List.replicate (n - 1) V).length = n - 1 := by simp
  rw [← e]
  refine Nat.le_trans (tails_len ?_ (fun a ha b hb h => ?_) (k := V.length) (Vs := List.replicate (n - 1) V) (fun W hW => ?_) fun t ht => ?_) (Nat.le_of_eq (by simp))
  · rw [← c.le]
    exact nodup_ltT (least_pw _)
  · have la := c.good.len a ha
    have lb := c.good.len b hb
    cases a with
    | nil => simp at la; omega
    | cons x r =>
      cases b with
      | nil => simp at lb; omega
      | cons y r' =>
        simp only [List.tail_cons] at h
        subst h
        by_cases hxy : y ≤ x
        · exact (least_anti c.le ha hb (by rw [covB_cons, covB_refl]; simp [hxy])).symm
        · exact least_anti c.le hb ha (by rw [covB_cons, covB_refl]; simp; omega)
  · rw [(List.mem_replicate.mp hW).2]
    exact Nat.le_refl _
  · have l := c.good.len t ht
    refine mem_cart _ _ (by simp; omega) fun k hk => ?_
    have hk' : k < n - 1 := by simp at hk; omega
    have e2 : (List.replicate (n - 1) V).getD k [] = V := by simp [List.getD_eq_getElem?_getD, hk']
    rw [e2]
    have := c.vals t ht (k + 1) (by omega)
    cases t with
    | nil => simp at l; omega
    | cons x r => simpa using this
/-! ### a common part of two frames is not too long -/
theorem meets_few {n : Nat} {V : List Int} {F G : List (List Int)} (gF : Lim n F) (gG : Lim n G) (vF : ∀ t ∈ F, ∀ k < n, t.getD k 0 ∈ V) (vG : ∀ t ∈ G, ∀ k < n, t.getD k 0 ∈ V) (hv : (-1 : Int) ∈ V) (h0 : repl n (-1) ∉ F) : (sortT (meetsL F G)).length + 1 ≤ V.length ^ n := by
  have eV : ∀ k, k < n → (List.replicate n V).getD k [] = V := fun k hk => by simp [List.getD_eq_getElem?_getD, hk]
  have hr : repl n (-1) ∈ cart (List.replicate n V) := mem_cart _ _ (by simp [repl]) fun k hk => by
    have hk : k < n := by simpa [repl] using hk
    rw [eV k hk, repl_at hk]
    exact hv
  have h1 := nodup_len (repl n (-1) :: sortT (meetsL F G)) (cart (List.replicate n V)) (List.nodup_cons.mpr ⟨fun hm => ?_, nodup_ltT (sortT_pw _)⟩) fun t ht => ?_
  · have h2 := cart_len (List.replicate n V) V.length fun W hW => by rw [(List.mem_replicate.mp hW).2]; exact Nat.le_refl _
    rw [List.length_cons] at h1
    rw [List.length_replicate] at h2
    omega
  · obtain ⟨a, ha, b, hb, e⟩ := mem_meetsL.mp (mem_sortT.mp hm)
    have la := gF.len a ha
    have lb := gG.len b hb
    apply h0
    have : a = repl n (-1) := ext_getD (by simp [repl, la]) fun k hk => by
      have hk : k < n := by omega
      have e2 := congrArg (fun t => t.getD k 0) e
      simp only [meetL_at (show k < a.length by omega), repl_at hk] at e2
      rw [repl_at hk]
      rcases lessI_cases (a.getD k 0) (b.getD k 0) with ⟨h, _⟩ | ⟨h, e3⟩ | ⟨h, _, _, e3⟩ | ⟨_, h, _, e3⟩ <;> omega
    rw [← this]
    exact ha
  · rcases List.mem_cons.mp ht with rfl | ht
    · exact hr
    · obtain ⟨a, ha, b, hb, rfl⟩ := mem_meetsL.mp (mem_sortT.mp ht)
      have la := gF.len a ha
      refine mem_cart _ _ (by simp [meetL_len, la]) fun k hk => ?_
      have hk : k < n := by rw [meetL_len] at hk; omega
      rw [eV k hk, meetL_at (by omega)]
      have h1 := vF a ha k hk
      have h2 := vG b hb k hk
      rcases lessI_cases (a.getD k 0) (b.getD k 0) with ⟨_, e⟩ | ⟨_, e⟩ | ⟨_, _, _, e⟩ | ⟨_, _, _, e⟩ <;> rw [e] <;> assumption
end Cov.Sm

/-! PureN: nets. -/
namespace Cov.Sm
open PySem
abbrev Trn := List Int × List Int × List Int
/-- a transition of n places -/
structure Tr (n : Nat) (t : Trn) : Prop where
  l1 : t.1.length = n
  l2 : t.2.1.length = n
  l3 : t.2.2.length = n
  t0 : ∀ x ∈ t.1, (0 : Int) ≤ x
  t9 : ∀ x ∈ t.1, x ≤ 2
  g0 : ∀ x ∈ t.2.1, (0 : Int) ≤ x
  g9 : ∀ x ∈ t.2.1, x ≤ 3
  m0 : ∀ x ∈ t.2.2, (-1 : Int) ≤ x
  m9 : ∀ x ∈ t.2.2, x < (n : Int)
abbrev ownL (n : Nat) : List Int := (List.range n).map fun (k : Nat) => (k : Int)
def fireS (t : Trn) (m f : List Int) (k : Nat) : List Int := if 0 ≤ t.2.2.getD k 0 then f.set (t.2.2.getD k 0).toNat (f.getD (t.2.2.getD k 0).toNat 0 + m.getD k 0 - t.1.getD k 0) else f
/-- the marking behind t -/
def fireL (t : Trn) (m : List Int) : List Int := (List.range m.length).foldl (fireS t m) t.2.1
theorem fireS_len {t : Trn} {m f : List Int} {k : Nat} : (fireS t m f k).length = f.length := by
  unfold fireS
  split
  · simp
  · rfl
theorem fireS_foldl_len {t : Trn} {m : List Int} : ∀ (l : List Nat) (f : List Int), (l.foldl (fireS t m) f).length = f.length
  | [], f => rfl
  | k :: l, f => by rw [List.foldl_cons, fireS_foldl_len l, fireS_len]
theorem fireL_len {t : Trn} {m : List Int} : (fireL t m).length = t.2.1.length := fireS_foldl_len _ _
theorem tab_at {n k : Nat} {f : Nat → Int} (h : k < n) : ((List.range n).map f).getD k 0 = f k := by simp [List.getD_eq_getElem?_getD, h]
theorem tab_len {n : Nat} {f : Nat → Int} : ((List.range n).map f).length = n := by simp
theorem own_at {n k : Nat} (h : k < n) : (ownL n).getD k 0 = (k : Int) := tab_at h
theorem tab_ext {n : Nat} {a : List Int} {f : Nat → Int} (h : a.length = n) (e : ∀ k < n, a.getD k 0 = f k) : a = (List.range n).map f := ext_getD (by rw [h, tab_len]) fun k hk => by rw [tab_at (by omega)]; exact e k (by omega)
theorem getD_lo {xs : List Int} {c : Int} {k : Nat} (h : ∀ x ∈ xs, c ≤ x) (hk : k < xs.length) : c ≤ xs.getD k 0 := h _ (getD_mem hk)
theorem getD_hi {xs : List Int} {c : Int} {k : Nat} (h : ∀ x ∈ xs, x ≤ c) (hk : k < xs.length) : xs.getD k 0 ≤ c := h _ (getD_mem hk)
/-- a plain transition moves nothing -/
def plainFire (n : Nat) (t : Trn) (m : List Int) : List Int := (List.range n).map fun k => t.2.1.getD k 0 + m.getD k 0 - t.1.getD k 0
theorem fire_plain {n : Nat} {t : Trn} {m : List Int} (ht : t.2.1.length = n) (hp : t.2.2 = ownL n) (hm : m.length = n) : fireL t m = plainFire n t m := by
  have go : ∀ j ≤ n, ∀ k < n, (((List.range j).foldl (fireS t m) t.2.1).getD k 0 = if k < j then t.2.1.getD k 0 + m.getD k 0 - t.1.getD k 0 else t.2.1.getD k 0) := by
    intro j
    induction j with
    | zero => intro _ k hk; simp
    | succ j ih =>
      intro hj k hk
      have ih := ih (by omega) k hk
      rw [List.range_succ, List.foldl_append, List.foldl_cons, List.foldl_nil]
      have hl : ((List.range j).foldl (fireS t m) t.2.1).length = n := by rw [fireS_foldl_len, ht]
      have ih2 : ((List.range j).foldl (fireS t m) t.2.1).getD j 0 = t.2.1.getD j 0 := by
        rename_i ih0
        have := ih0 (by omega) j (by omega)
        simpa using this
      generalize (List.range j).foldl (fireS t m) t.2.1 = f at ih hl ih2
      unfold fireS
      rw [hp, own_at (by omega : j < n), if_pos (by omega), Int.toNat_natCast, set_at (by omega)]
      by_cases e : j = k
      · subst e
        rw [if_pos rfl, if_pos (by omega), ih2]
      · rw [if_neg e, ih]
        by_cases e2 : k < j
        · rw [if_pos e2, if_pos (by omega)]
        · rw [if_neg e2, if_neg (by omega)]
  refine tab_ext (by rw [fireL_len, ht]) fun k hk => ?_
  unfold fireL
  rw [hm, go n (Nat.le_refl _) k hk, if_pos hk]
theorem plainFire_at {n k : Nat} {t : Trn} {m : List Int} (h : k < n) : (plainFire n t m).getD k 0 = t.2.1.getD k 0 + m.getD k 0 - t.1.getD k 0 := tab_at h
theorem plainFire_len {n : Nat} {t : Trn} {m : List Int} : (plainFire n t m).length = n := tab_len
/-- firing, and a run -/
def fireO (t : Trn) (m : List Int) : Option (List Int) := if covB m t.1 then some (fireL t m) else none
def trAt (ts : List Trn) (i : Int) : Trn := ts.getD i.toNat ([], [], [])
def runO (ts : List Trn) : List Int → List Int → Option (List Int)
  | m, [] => some m
  | m, i :: run => match fireO (trAt ts i) m with
    | none => none
    | some m' => runO ts m' run
/-- the least marking before t, and then f -/
def needS (n : Nat) (t : Trn) (f : List Int) : List Int := (List.range n).map fun k => t.1.getD k 0 + maxI 0 (f.getD k 0 - t.2.1.getD k 0)
def needL (n : Nat) (ts : List Trn) (run : List Int) : List Int := run.foldr (fun i f => needS n (trAt ts i) f) (repl n 0)
def effS (n : Nat) (t : Trn) (f : List Int) : List Int := (List.range n).map fun k => f.getD k 0 + (t.2.1.getD k 0 - t.1.getD k 0)
def effL (n : Nat) (ts : List Trn) (run : List Int) : List Int := run.foldl (fun f i => effS n (trAt ts i) f) (repl n 0)
def plusL (n : Nat) (a b : List Int) : List Int := (List.range n).map fun k => a.getD k 0 + b.getD k 0
theorem repl_len {n : Nat} {r : Int} : (repl n r).length = n := by simp [repl]
theorem needL_len {n : Nat} {ts : List Trn} : ∀ {run : List Int}, (needL n ts run).length = n
  | [] => repl_len
  | _ :: _ => tab_len
theorem needL_lo {n : Nat} {ts : List Trn} (ht : ∀ t ∈ ts, Tr n t) : ∀ {run : List Int}, (∀ i ∈ run, 0 ≤ i ∧ i.toNat < ts.length) → ∀ k < n, 0 ≤ (needL n ts run).getD k 0
  | [], _, k, hk => by rw [needL, List.foldr_nil, repl_at hk]; exact Int.le_refl _
  | i :: run, h, k, hk => by
    have hi := h i List.mem_cons_self
    have tt : Tr n (trAt ts i) := ht _ (by unfold trAt; rw [List.getD_eq_getElem?_getD, List.getElem?_eq_getElem hi.2]; exact List.getElem_mem hi.2)
    rw [needL, List.foldr_cons, needS, tab_at hk]
    have := getD_lo tt.t0 (k := k) (by rw [tt.l1]; exact hk)
    unfold maxI
    split <;> omega
theorem trAt_mem {ts : List Trn} {i : Int} (h : i.toNat < ts.length) : trAt ts i ∈ ts := by
  unfold trAt; rw [List.getD_eq_getElem?_getD, List.getElem?_eq_getElem h]; exact List.getElem_mem h
/-- effects add up -/
def effR (ts : List Trn) (run : List Int) (k : Nat) : Int := run.foldr (fun i s => ((trAt ts i).2.1.getD k 0 - (trAt ts i).1.getD k 0) + s) 0
theorem effL_at {n : Nat} {ts : List Trn} {k : Nat} (hk : k < n) {run : List Int} : (effL n ts run).getD k 0 = effR ts run k := by
  have go : ∀ (run f : List Int), (run.foldl (fun f i => effS n (trAt ts i) f) f).getD k 0 = f.getD k 0 + effR ts run k := by
    intro run
    induction run with
    | nil => intro f; simp [effR]
    | cons i run ih =>
      intro f
      rw [List.foldl_cons, ih, effS, tab_at hk]
      simp only [effR, List.foldr_cons]
      omega
  rw [effL, go, repl_at hk]
  omega
theorem effL_len {n : Nat} {ts : List Trn} {run : List Int} : (effL n ts run).length = n := by
  have go : ∀ (run f : List Int), f.length = n → (run.foldl (fun f i => effS n (trAt ts i) f) f).length = n := by
    intro run
    induction run with
    | nil => intro f h; exact h
    | cons i run ih => intro f h; exact ih _ tab_len
  exact go _ _ repl_len
/-- a run of a plain net can be fired exactly from need on, and leads to the sum -/
theorem run_plain {n : Nat} {ts : List Trn} (ht : ∀ t ∈ ts, Tr n t) (hp : ∀ t ∈ ts, t.2.2 = ownL n) : ∀ (run m : List Int), (∀ i ∈ run, 0 ≤ i ∧ i.toNat < ts.length) → m.length = n → (∀ k < n, 0 ≤ m.getD k 0 ∨ run = []) →
    runO ts m run = if covB m (needL n ts run) ∨ run = [] then some ((List.range n).map fun k => m.getD k 0 + effR ts run k) else none
  | [], m, _, hm, _ => by
    rw [if_pos (.inr rfl), runO]
    exact congrArg some (tab_ext hm fun k _ => by simp [effR])
  | i :: run, m, h, hm, h0 => by
    have hi := h i List.mem_cons_self
    have hmem := trAt_mem hi.2
    have tt : Tr n (trAt ts i) := ht _ hmem
    have pp := hp _ hmem
    have hnn : ∀ k < n, 0 ≤ m.getD k 0 := fun k hk => (h0 k hk).resolve_right (by simp)
    have e1 : (if covB m (needL n ts (i :: run)) ∨ i :: run = [] then some ((List.range n).map fun k => m.getD k 0 + effR ts (i :: run) k) else none) = if covB m (needL n ts (i :: run)) then some ((List.range n).map fun k => m.getD k 0 + effR ts (i :: run) k) else none := by simp
    rw [e1, runO, fireO]
    by_cases hc : covB m (trAt ts i).1 = true
    · rw [if_pos hc, fire_plain tt.l2 pp hm]
      simp only
      have hc' := covB_iff.mp hc
      have hf : ∀ k < n, 0 ≤ (plainFire n (trAt ts i) m).getD k 0 := fun k hk => by
        rw [plainFire_at hk]
        have := hc' k (by omega)
        have := getD_lo tt.g0 (k := k) (by rw [tt.l2]; exact hk)
        omega
      rw [run_plain ht hp run _ (fun j hj => h j (List.mem_cons_of_mem _ hj)) plainFire_len fun k hk => .inl (hf k hk)]
      have hcov : (covB (plainFire n (trAt ts i) m) (needL n ts run) = true ∨ run = []) ↔ covB m (needL n ts (i :: run)) = true := by
        have a1 : covB m (needL n ts (i :: run)) = true ↔ ∀ k < n, (needL n ts run).getD k 0 ≤ (plainFire n (trAt ts i) m).getD k 0 := by
          rw [covB_iff, hm]
          refine forall_congr' fun k => imp_congr_right fun hk => ?_
          rw [needL, List.foldr_cons, needS, tab_at hk, plainFire_at hk]
          have := hc' k (by omega)
          have h3 : (List.foldr (fun i f => needS n (trAt ts i) f) (repl n 0) run) = needL n ts run := rfl
          rw [h3]
          unfold maxI
          split <;> omega
        rw [a1, covB_iff, plainFire_len]
        constructor
        · rintro (h | rfl)
          · exact h
          · intro k hk
            rw [needL, List.foldr_nil, repl_at hk]
            exact hf k hk
        · exact .inl
      by_cases hd : covB m (needL n ts (i :: run)) = true
      · rw [if_pos (hcov.mpr hd), if_pos hd]
        refine congrArg some (List.map_congr_left fun k hk => ?_)
        have hk := List.mem_range.mp hk
        rw [plainFire_at hk]
        simp only [effR, List.foldr_cons]
        omega
      · rw [if_neg (fun x => hd (hcov.mp x)), if_neg hd]
    · rw [if_neg hc, if_neg]
      intro hd
      apply hc
      rw [covB_iff] at hd ⊢
      intro k hk
      have := hd k hk
      rw [needL, List.foldr_cons, needS, tab_at (by omega)] at this
      unfold maxI at this
      split at this <;> omega
end Cov.Sm

namespace Cov.Sm
open PySem
def t__law_take (drawsher1 : (List Int)) (limit2 : Int) : R (Int × (List Int)) := if (decide ((List.length drawsher1 : Int) = (0 : Int))) then (ok ((0 : Int), drawsher1)) else (tb (popT drawsher1) fun p3 => tb (modT p3.1 limit2) fun x4 => ok (x4, p3.2))
theorem s__law_take (drawsher1 : (List Int)) (limit2 : Int) (n : Nat) : CallOk false (callF G (n + 1)) [true, false] "_law_take" [(D.lst .ow (List.map D.int drawsher1)), (D.int limit2)] (t__law_take drawsher1 limit2) (fun r => (D.int r.1)) (fun r => [(D.lst .ow (List.map D.int r.2)), (D.int limit2)]) := by
  refine def_ok (n := n + 0) tb__law_take rfl ?_
  unfold t__law_take
  refine w_start (A' := [some (D.lst .ow (List.map D.int drawsher1)), some (D.int limit2)]) rfl (b' := [.ite (.o2 .eq (.o1 .len (.v 0)) (.c (.int 0))) [.ret (.c (.int 0))] [],   .ret (.o2 .mod (.o1 .int_ (.mu .pop (.v 0) [])) (.v 1))]) rfl ?_
  refine ws_cons ?_
  refine w1_ite ?_
  refine we_pe (pe_eq (pr_e (pe_lenl (pr_v rfl))) (pr_e pe_c) (eqD_of (x := (List.length drawsher1 : Int)) (y := (0 : Int)) py_int py_int (by decide))) ?_
  refine ⟨_, rfl, ?_⟩
  refine ki_c ?_ ?_
  · refine ws_cons ?_
    refine w1_ret ?_
    refine we_pe pe_c ?_
    refine ⟨_, _, rfl, ?_⟩
    refine ks_r ?_
    refine ks_r ?_
    exact qd_rt (a := ((0 : Int), drawsher1)) rfl (io_t rfl (io_f io_nil))
  · refine ws_nil ?_
    refine ks_n ?_
    refine ws_cons ?_
    refine w1_ret ?_
    refine we_o2 ?_
    refine we_o1 ?_
    refine we_mu rfl ?_
    refine wl_nil ?_
    refine km_pop rfl rfl fun p3 => ?_
    refine k1_p rfl rfl ?_
    refine ⟨rfl, ?_⟩
    refine we_pe (pe_v rfl rfl) ?_
    refine k_mod rfl rfl fun x4 => ?_
    refine ⟨_, _, rfl, ?_⟩
    refine ks_r ?_
    exact qd_rt (a := (x4, p3.2)) rfl (io_t rfl (io_f io_nil))

def t__law_marking (drawsher1 : (List Int)) (size2 : Int) (most3 : Int) : R ((List Int) × (List Int)) := tb (rngT 0 size2) fun xs4 => tb (mapS (fun (x5 : Int) (s6 : (List Int)) => tb (t__law_take s6 (most3 + (1 : Int))) fun r8 => ok (some r8.1, r8.2)) xs4 drawsher1) fun p7 => ok (p7.1, p7.2)
theorem s__law_marking (drawsher1 : (List Int)) (size2 : Int) (most3 : Int) (n : Nat) : CallOk false (callF G (n + 2)) [true, false, false] "_law_marking" [(D.lst .ow (List.map D.int drawsher1)), (D.int size2), (D.int most3)] (t__law_marking drawsher1 size2 most3) (fun r => (D.tup (List.map D.int r.1))) (fun r => [(D.lst .ow (List.map D.int r.2)), (D.int size2), (D.int most3)]) := by
  refine def_ok (n := n + 1) tb__law_marking rfl ?_
  unfold t__law_marking
  refine w_start (A' := [some (D.lst .ow (List.map D.int drawsher1)), some (D.int size2), some (D.int most3), none]) rfl (b' := [.ret (.o1 .tuple_ (.comp false [3] (.call "_law_take" [(.v 0), (.o2 .add (.v 2) (.c (.int 1)))]) (.nm 3) (.r1 (.v 1)) none))]) rfl ?_
  refine ws_cons ?_
  refine w1_ret ?_
  refine we_o1 ?_
  refine we_comp ?_
  refine wi_r1 ?_
  refine we_pe (pe_v rfl rfl) ?_
  refine ⟨_, _, rfl, rfl, fun xs4 => ?_⟩
  refine kco (E := D.int) (σ := (List Int)) (γ := Int) D.int (fun s => [some (D.lst .ow (List.map D.int s)), some (D.int size2), some (D.int most3), none]) rfl rfl (sub_l (sl_some (sl_some (sl_some (sl_none sl_nil))))) (fun _ => rfl) (fun x5 s6 => ?_) fun p7 => ⟨_, rfl, ?_⟩
  · refine tu_n rfl ?_
    refine we_call (io := [true, false]) io__law_take ?_
    refine wl_cons ?_
    refine we_va rfl rfl ?_
    refine ⟨rfl, ?_⟩
    refine wl_cons ?_
    refine we_pe (pe_o2 (pr_v rfl) (pr_e pe_c) rfl) ?_
    refine ⟨rfl, ?_⟩
    refine wl_nil ?_
    refine kc_t (s__law_take s6 (most3 + (1 : Int)) (n + 0)) rfl rfl (fun _ => rfl) (fun _ => rfl) (fun h => nomatch h) fun r8 => ?_
    exact ⟨_, _, rfl, some r8.1, r8.2, rfl, rfl, (sub_l (sl_some (sl_some (sl_some (sl_none sl_nil)))))⟩
  refine k1_p rfl rfl ?_
  refine ⟨_, _, rfl, ?_⟩
  refine ks_r ?_
  exact qd_rt (a := (p7.1, p7.2)) rfl (io_t rfl (io_f (io_f io_nil)))

def t__law_word (drawsher1 : (List Int)) (letters2 : Int) (most3 : Int) : R ((List Int) × (List Int)) := tb (t__law_take drawsher1 (most3 + (1 : Int))) fun r4 => tb (rngT 0 r4.1) fun xs5 => tb (mapS (fun (x6 : Int) (s7 : (List Int)) => tb (t__law_take s7 letters2) fun r9 => ok (some r9.1, r9.2)) xs5 r4.2) fun p8 => ok (p8.1, p8.2)
theorem s__law_word (drawsher1 : (List Int)) (letters2 : Int) (most3 : Int) (n : Nat) : CallOk false (callF G (n + 2)) [true, false, false] "_law_word" [(D.lst .ow (List.map D.int drawsher1)), (D.int letters2), (D.int most3)] (t__law_word drawsher1 letters2 most3) (fun r => (D.tup (List.map D.int r.1))) (fun r => [(D.lst .ow (List.map D.int r.2)), (D.int letters2), (D.int most3)]) := by
  refine def_ok (n := n + 1) tb__law_word rfl ?_
  unfold t__law_word
  refine w_start (A' := [some (D.lst .ow (List.map D.int drawsher1)), some (D.int letters2), some (D.int most3), none]) rfl (b' := [.ret (.o1 .tuple_ (.comp false [3] (.call "_law_take" [(.v 0), (.v 1)]) (.nm 3) (.r1 (.call "_law_take" [(.v 0), (.o2 .add (.v 2) (.c (.int 1)))])) none))]) rfl ?_
  refine ws_cons ?_
  refine w1_ret ?_
  refine we_o1 ?_
  refine we_comp ?_
  refine wi_r1 ?_
  refine we_call (io := [true, false]) io__law_take ?_
  refine wl_cons ?_
  refine we_va rfl rfl ?_
  refine ⟨rfl, ?_⟩
  refine wl_cons ?_
  refine we_pe (pe_o2 (pr_v rfl) (pr_e pe_c) rfl) ?_
  refine ⟨rfl, ?_⟩
  refine wl_nil ?_
  refine kc_t (s__law_take drawsher1 (most3 + (1 : Int)) (n + 0)) rfl rfl (fun _ => rfl) (fun _ => rfl) (fun h => nomatch h) fun r4 => ?_
  refine ⟨_, _, rfl, rfl, fun xs5 => ?_⟩
  refine kco (E := D.int) (σ := (List Int)) (γ := Int) D.int (fun s => [some (D.lst .ow (List.map D.int s)), some (D.int letters2), some (D.int most3), none]) rfl rfl (sub_l (sl_some (sl_some (sl_some (sl_none sl_nil))))) (fun _ => rfl) (fun x6 s7 => ?_) fun p8 => ⟨_, rfl, ?_⟩
  · refine tu_n rfl ?_
    refine we_call (io := [true, false]) io__law_take ?_
    refine wl_cons ?_
    refine we_va rfl rfl ?_
    refine ⟨rfl, ?_⟩
    refine wl_cons ?_
    refine we_pe (pe_v rfl rfl) ?_
    refine ⟨rfl, ?_⟩
    refine wl_nil ?_
    refine kc_t (s__law_take s7 letters2 (n + 0)) rfl rfl (fun _ => rfl) (fun _ => rfl) (fun h => nomatch h) fun r9 => ?_
    exact ⟨_, _, rfl, some r9.1, r9.2, rfl, rfl, (sub_l (sl_some (sl_some (sl_some (sl_none sl_nil)))))⟩
  refine k1_p rfl rfl ?_
  refine ⟨_, _, rfl, ?_⟩
  refine ks_r ?_
  exact qd_rt (a := (p8.1, p8.2)) rfl (io_t rfl (io_f (io_f io_nil)))

def t__law_config (drawsher1 : (List Int)) (places2 : Int) (channels3 : (List Int)) (most4 : Int) (longest5 : Int) : R (((List Int) × (List (List Int))) × (List Int)) := tb (t__law_marking drawsher1 places2 most4) fun r6 => tb (mapS (fun (x7 : Int) (s8 : (List Int)) => tb (t__law_word s8 x7 longest5) fun r10 => ok (some r10.1, r10.2)) channels3 r6.2) fun p9 => ok ((r6.1, p9.1), p9.2)
theorem s__law_config (drawsher1 : (List Int)) (places2 : Int) (channels3 : (List Int)) (most4 : Int) (longest5 : Int) (n : Nat) : CallOk false (callF G (n + 3)) [true, false, false, false, false] "_law_config" [(D.lst .ow (List.map D.int drawsher1)), (D.int places2), (D.lst .fz (List.map D.int channels3)), (D.int most4), (D.int longest5)] (t__law_config drawsher1 places2 channels3 most4 longest5) (fun r => ((eP2 (eT D.int) (eT (eT D.int))) r.1)) (fun r => [(D.lst .ow (List.map D.int r.2)), (D.int places2), (D.lst .fz (List.map D.int channels3)), (D.int most4), (D.int longest5)]) := by
  refine def_ok (n := n + 2) tb__law_config rfl ?_
  unfold t__law_config
  refine w_start (A' := [some (D.lst .ow (List.map D.int drawsher1)), some (D.int places2), some (D.lst .fz (List.map D.int channels3)), some (D.int most4), some (D.int longest5), none, none]) rfl (b' := [.set 5 (.call "_law_marking" [(.v 0), (.v 1), (.v 3)]),   .ret (.tup [(.v 5), (.o1 .tuple_ (.comp false [6] (.call "_law_word" [(.v 0), (.v 6), (.v 4)]) (.nm 6) (.ex (.v 2)) none))])]) rfl ?_
  refine ws_cons ?_
  refine w1_set ?_
  refine we_call (io := [true, false, false]) io__law_marking ?_
  refine wl_cons ?_
  refine we_va rfl rfl ?_
  refine ⟨rfl, ?_⟩
  refine wl_cons ?_
  refine we_pe (pe_v rfl rfl) ?_
  refine ⟨rfl, ?_⟩
  refine wl_cons ?_
  refine we_pe (pe_v rfl rfl) ?_
  refine ⟨rfl, ?_⟩
  refine wl_nil ?_
  refine kc_t (s__law_marking drawsher1 places2 most4 (n + 0)) rfl rfl (fun _ => rfl) (fun _ => rfl) (fun h => nomatch h) fun r6 => ?_
  refine ⟨_, _, rfl, ?_⟩
  refine ks_n ?_
  refine ws_cons ?_
  refine w1_ret ?_
  refine we_tup ?_
  refine wl_cons ?_
  refine we_pe (pe_v rfl rfl) ?_
  refine ⟨rfl, ?_⟩
  refine wl_cons ?_
  refine we_o1 ?_
  refine we_comp ?_
  refine wi_ex ?_
  refine we_pe (pe_v rfl rfl) ?_
  refine ⟨_, _, rfl, ?_⟩
  refine kco (E := D.int) (σ := (List Int)) (γ := (List Int)) (eT D.int) (fun s => [some (D.lst .ow (List.map D.int s)), some (D.int places2), some (D.lst .fz (List.map D.int channels3)), some (D.int most4), some (D.int longest5), some (D.tup (List.map D.int r6.1)), none]) rfl rfl (sub_l (sl_some (sl_some (sl_some (sl_some (sl_some (sl_some (sl_none sl_nil)))))))) (fun _ => rfl) (fun x7 s8 => ?_) fun p9 => ⟨_, rfl, ?_⟩
  · refine tu_n rfl ?_
    refine we_call (io := [true, false, false]) io__law_word ?_
    refine wl_cons ?_
    refine we_va rfl rfl ?_
    refine ⟨rfl, ?_⟩
    refine wl_cons ?_
    refine we_pe (pe_v rfl rfl) ?_
    refine ⟨rfl, ?_⟩
    refine wl_cons ?_
    refine we_pe (pe_v rfl rfl) ?_
    refine ⟨rfl, ?_⟩
    refine wl_nil ?_
    refine kc_t (s__law_word s8 x7 longest5 (n + 0)) rfl rfl (fun _ => rfl) (fun _ => rfl) (fun h => nomatch h) fun r10 => ?_
    exact ⟨_, _, rfl, some r10.1, r10.2, rfl, rfl, (sub_l (sl_some (sl_some (sl_some (sl_some (sl_some (sl_some (sl_none sl_nil))))))))⟩
  refine k1_p rfl rfl ?_
  refine ⟨rfl, ?_⟩
  refine wl_nil ?_
  refine ⟨_, rfl, sz rfl, ?_⟩
  refine ⟨_, _, rfl, ?_⟩
  refine ks_r ?_
  exact qd_rt (a := ((r6.1, p9.1), p9.2)) rfl (io_t rfl (io_f (io_f (io_f (io_f io_nil)))))

def t__law_covers (first1 : (List Int)) (second2 : (List Int)) : R (Bool) := tb (rngT 0 (List.length first1 : Int)) fun xs3 => tb (forT (fun (x4 : Int) (s5 : Unit) => tb (ixT first1 x4) fun x7 => tb (ixT second2 x4) fun x8 => if (decide (x7 < x8)) then (ok (.rt false)) else (ok (.nx ()))) xs3 ()) fun o => outS (β := Bool) o (fun g9 => ok g9) fun s6 => ok true
theorem s__law_covers (first1 : (List Int)) (second2 : (List Int)) (n : Nat) : CallOk false (callF G (n + 1)) [false, false] "_law_covers" [(D.tup (List.map D.int first1)), (D.tup (List.map D.int second2))] (t__law_covers first1 second2) (fun r => (D.bl r)) (fun r => [(D.tup (List.map D.int first1)), (D.tup (List.map D.int second2))]) := by
  refine def_ok (n := n + 0) tb__law_covers rfl ?_
  unfold t__law_covers
  refine w_start (A' := [some (D.tup (List.map D.int first1)), some (D.tup (List.map D.int second2)), none]) rfl (b' := [.for_ (.nm 2) (.r1 (.o1 .len (.v 0))) [.ite (.o2 .lt (.o2 .ix (.v 0) (.v 2)) (.o2 .ix (.v 1) (.v 2))) [.ret (.c (.bl false))] []],   .ret (.c (.bl true))]) rfl ?_
  refine ws_cons ?_
  refine w1_for ?_
  refine wi_r1 ?_
  refine we_pe (pe_lent (pr_v rfl)) ?_
  refine ⟨_, _, rfl, rfl, fun xs3 => ?_⟩
  refine kf_for (E := D.int) (σ := Unit) (γ := Bool) (fun s => [some (D.tup (List.map D.int first1)), some (D.tup (List.map D.int second2)), none]) (fun g => [none, none, none]) (fun g => (D.bl g)) rfl rfl (sub_l (sl_some (sl_some (sl_none sl_nil)))) (fun _ => rfl) (fun x4 s5 => ⟨_, rfl, ?_⟩) (fun g9 => ⟨_, rfl, ?_⟩) fun s6 => ⟨_, rfl, ?_⟩
  · refine ws_cons ?_
    refine w1_ite ?_
    refine we_o2 ?_
    refine we_o2 ?_
    refine we_pe (pe_v rfl rfl) ?_
    refine ⟨rfl, ?_⟩
    refine we_pe (pe_v rfl rfl) ?_
    refine k_ixt rfl rfl fun x7 => ?_
    refine ⟨rfl, ?_⟩
    refine we_o2 ?_
    refine we_pe (pe_v rfl rfl) ?_
    refine ⟨rfl, ?_⟩
    refine we_pe (pe_v rfl rfl) ?_
    refine k_ixt rfl rfl fun x8 => ?_
    refine k2_p rfl rfl rfl ?_
    refine ⟨_, rfl, ?_⟩
    refine ki_c ?_ ?_
    · refine ws_cons ?_
      refine w1_ret ?_
      refine we_pe pe_c ?_
      refine ⟨_, _, rfl, ?_⟩
      refine ks_r ?_
      refine ks_r ?_
      exact qf_rt (g := false) rfl rfl (sub_l (sl_none (sl_none (sl_none sl_nil))))
    · refine ws_nil ?_
      refine ks_n ?_
      refine ws_nil ?_
      exact qf_nx (s := ()) rfl (sub_l (sl_some (sl_some (sl_none sl_nil))))
  · refine ks_r ?_
    exact qd_rt (a := g9) rfl (io_f (io_f io_nil))
  refine ks_n ?_
  refine ws_cons ?_
  refine w1_ret ?_
  refine we_pe pe_c ?_
  refine ⟨_, _, rfl, ?_⟩
  refine ks_r ?_
  exact qd_rt (a := true) rfl (io_f (io_f io_nil))

def t__law_subword (first1 : (List Int)) (second2 : (List Int)) : R (Bool) := tb (foldT (fun (x3 : Int) (s4 : Int) => tb (if (decide (s4 < (List.length first1 : Int))) then (tb (ixT first1 s4) fun x8 => ok ((decide (x8 = x3)), ())) else ok (false, ())) fun p7 => tb (if p7.1 then (tb (ok (s4 + (1 : Int))) fun at10 => ok at10) else (ok s4)) fun (s11 : Int) => ok s11) second2 (0 : Int)) fun s5 => ok (decide (s5 = (List.length first1 : Int)))
theorem s__law_subword (first1 : (List Int)) (second2 : (List Int)) (n : Nat) : CallOk false (callF G (n + 1)) [false, false] "_law_subword" [(D.tup (List.map D.int first1)), (D.tup (List.map D.int second2))] (t__law_subword first1 second2) (fun r => (D.bl r)) (fun r => [(D.tup (List.map D.int first1)), (D.tup (List.map D.int second2))]) := by
  refine def_ok (n := n + 0) tb__law_subword rfl ?_
  unfold t__law_subword
  refine w_start (A' := [some (D.tup (List.map D.int first1)), some (D.tup (List.map D.int second2)), none, none]) rfl (b' := [.set 2 (.c (.int 0)),   .for_ (.nm 3) (.ex (.v 1)) [.ite (.and_ (.o2 .lt (.v 2) (.o1 .len (.v 0))) (.o2 .eq (.o2 .ix (.v 0) (.v 2)) (.v 3))) [.set 2 (.o2 .add (.v 2) (.c (.int 1)))] []],   .ret (.o2 .eq (.v 2) (.o1 .len (.v 0)))]) rfl ?_
  refine ws_cons ?_
  refine w1_set ?_
  refine we_pe pe_c ?_
  refine ⟨_, _, rfl, ?_⟩
  refine ks_n ?_
  refine ws_cons ?_
  refine w1_for ?_
  refine wi_ex ?_
  refine we_pe (pe_v rfl rfl) ?_
  refine ⟨_, _, rfl, ?_⟩
  refine kf_fold (E := D.int) (σ := Int) (fun s => [some (D.tup (List.map D.int first1)), some (D.tup (List.map D.int second2)), some (D.int s), none]) rfl rfl (sub_l (sl_some (sl_some (sl_some (sl_none sl_nil))))) (fun _ => rfl) (fun x3 s4 => ⟨_, rfl, ?_⟩) fun s5 => ⟨_, rfl, ?_⟩
  · refine ws_cons ?_
    refine w1_ite ?_
    refine we_and_e (σ := Unit) (fun s => [some (D.tup (List.map D.int first1)), some (D.tup (List.map D.int second2)), some (D.int s4), some (D.int x3)]) ?_
    refine we_pe (pe_o2 (pr_v rfl) (pr_e (pe_lent (pr_v rfl))) rfl) ?_
    refine ⟨_, _, (), _, rfl, rfl, (sub_l (sl_some (sl_some (sl_some (sl_some sl_nil))))), ?_, fun p7 => ?_⟩
    · refine we_o2 ?_
      refine we_o2 ?_
      refine we_pe (pe_v rfl rfl) ?_
      refine ⟨rfl, ?_⟩
      refine we_pe (pe_v rfl rfl) ?_
      refine k_ixt rfl rfl fun x8 => ?_
      refine ⟨rfl, ?_⟩
      refine we_pe (pe_v rfl rfl) ?_
      refine k2_p rfl rfl (o2_eq (eqD_of (x := x8) (y := x3) py_int py_int (by decide))) ?_
      exact ⟨_, (), rfl, rfl, (sub_l (sl_some (sl_some (sl_some (sl_some sl_nil)))))⟩
    refine ⟨_, rfl, ?_⟩
    refine ki_j (σ := Int) (fun s => [some (D.tup (List.map D.int first1)), some (D.tup (List.map D.int second2)), some (D.int s), some (D.int x3)]) ?_ ?_ fun s11 => ?_
    · refine ws_cons ?_
      refine w1_set ?_
      refine we_pe (pe_o2 (pr_v rfl) (pr_e pe_c) rfl) ?_
      refine ⟨_, _, rfl, ?_⟩
      refine w_let (P := fun x m => KS _ _ _ (List.set _ _ (some (D.int x))) m _) ?_
      intro at10
      refine ks_n ?_
      refine ws_nil ?_
      exact ⟨at10, rfl, rfl, (sub_l (sl_some (sl_some (sl_some (sl_some sl_nil)))))⟩
    · refine ws_nil ?_
      exact ⟨s4, rfl, rfl, (sub_l (sl_some (sl_some (sl_some (sl_some sl_nil)))))⟩
    refine ks_n ?_
    refine ws_nil ?_
    exact ⟨s11, .inl rfl, rfl, (sub_l (sl_some (sl_some (sl_some (sl_none sl_nil)))))⟩
  refine ks_n ?_
  refine ws_cons ?_
  refine w1_ret ?_
  refine we_pe (pe_eq (pr_v rfl) (pr_e (pe_lent (pr_v rfl))) (eqD_of (x := s5) (y := (List.length first1 : Int)) py_int py_int (by decide))) ?_
  refine ⟨_, _, rfl, ?_⟩
  refine ks_r ?_
  exact qd_rt (a := (decide (s5 = (List.length first1 : Int)))) rfl (io_f (io_f io_nil))

def t__law_config_covers (first1 : ((List Int) × (List (List Int)))) (second2 : ((List Int) × (List (List Int)))) : R (Bool) := tb (t__law_covers first1.1 second2.1) fun r3 => if (!r3) then (ok false) else (tb (rngT 0 (List.length first1.2 : Int)) fun xs4 => tb (forT (fun (x5 : Int) (s6 : Unit) => tb (ixT second2.2 x5) fun x8 => tb (ixT first1.2 x5) fun x9 => tb (t__law_subword x8 x9) fun r10 => if (!r10) then (ok (.rt false)) else (ok (.nx ()))) xs4 ()) fun o => outS (β := Bool) o (fun g11 => ok g11) fun s7 => ok true)
theorem s__law_config_covers (first1 : ((List Int) × (List (List Int)))) (second2 : ((List Int) × (List (List Int)))) (n : Nat) : CallOk false (callF G (n + 2)) [false, false] "_law_config_covers" [((eP2 (eT D.int) (eT (eT D.int))) first1), ((eP2 (eT D.int) (eT (eT D.int))) second2)] (t__law_config_covers first1 second2) (fun r => (D.bl r)) (fun r => [((eP2 (eT D.int) (eT (eT D.int))) first1), ((eP2 (eT D.int) (eT (eT D.int))) second2)]) := by
  refine def_ok (n := n + 1) tb__law_config_covers rfl ?_
  unfold t__law_config_covers
  refine w_start (A' := [some ((eP2 (eT D.int) (eT (eT D.int))) first1), some ((eP2 (eT D.int) (eT (eT D.int))) second2), none]) rfl (b' := [.ite (.not_ (.call "_law_covers" [(.o2 .ix (.v 0) (.c (.int 0))), (.o2 .ix (.v 1) (.c (.int 0)))])) [.ret (.c (.bl false))] [],   .for_ (.nm 2) (.r1 (.o1 .len (.o2 .ix (.v 0) (.c (.int 1))))) [.ite (.not_ (.call "_law_subword" [(.o2 .ix (.o2 .ix (.v 1) (.c (.int 1))) (.v 2)), (.o2 .ix (.o2 .ix (.v 0) (.c (.int 1))) (.v 2))])) [.ret (.c (.bl false))] []],   .ret (.c (.bl true))]) rfl ?_
  refine ws_cons ?_
  refine w1_ite ?_
  refine we_not ?_
  refine we_call (io := [false, false]) io__law_covers ?_
  refine wl_cons ?_
  refine we_pe (pe_o2 (pr_v rfl) (pr_e pe_c) rfl) ?_
  refine ⟨rfl, ?_⟩
  refine wl_cons ?_
  refine we_pe (pe_o2 (pr_v rfl) (pr_e pe_c) rfl) ?_
  refine ⟨rfl, ?_⟩
  refine wl_nil ?_
  refine kc_t (s__law_covers first1.1 second2.1 (n + 0)) rfl rfl (fun _ => rfl) (fun _ => rfl) (fun h => nomatch h) fun r3 => ?_
  refine ⟨_, rfl, ?_⟩
  refine ⟨_, rfl, ?_⟩
  refine ki_c ?_ ?_
  · refine ws_cons ?_
    refine w1_ret ?_
    refine we_pe pe_c ?_
    refine ⟨_, _, rfl, ?_⟩
    refine ks_r ?_
    refine ks_r ?_
    exact qd_rt (a := false) rfl (io_f (io_f io_nil))
  · refine ws_nil ?_
    refine ks_n ?_
    refine ws_cons ?_
    refine w1_for ?_
    refine wi_r1 ?_
    refine we_pe (pe_lent (pr_e (pe_o2 (pr_v rfl) (pr_e pe_c) rfl))) ?_
    refine ⟨_, _, rfl, rfl, fun xs4 => ?_⟩
    refine kf_for (E := D.int) (σ := Unit) (γ := Bool) (fun s => [some ((eP2 (eT D.int) (eT (eT D.int))) first1), some ((eP2 (eT D.int) (eT (eT D.int))) second2), none]) (fun g => [none, none, none]) (fun g => (D.bl g)) rfl rfl (sub_l (sl_some (sl_some (sl_none sl_nil)))) (fun _ => rfl) (fun x5 s6 => ⟨_, rfl, ?_⟩) (fun g11 => ⟨_, rfl, ?_⟩) fun s7 => ⟨_, rfl, ?_⟩
    · refine ws_cons ?_
      refine w1_ite ?_
      refine we_not ?_
      refine we_call (io := [false, false]) io__law_subword ?_
      refine wl_cons ?_
      refine we_o2 ?_
      refine we_pe (pe_o2 (pr_v rfl) (pr_e pe_c) rfl) ?_
      refine ⟨rfl, ?_⟩
      refine we_pe (pe_v rfl rfl) ?_
      refine k_ixt rfl rfl fun x8 => ?_
      refine ⟨rfl, ?_⟩
      refine wl_cons ?_
      refine we_o2 ?_
      refine we_pe (pe_o2 (pr_v rfl) (pr_e pe_c) rfl) ?_
      refine ⟨rfl, ?_⟩
      refine we_pe (pe_v rfl rfl) ?_
      refine k_ixt rfl rfl fun x9 => ?_
      refine ⟨rfl, ?_⟩
      refine wl_nil ?_
      refine kc_t (s__law_subword x8 x9 (n + 0)) rfl rfl (fun _ => rfl) (fun _ => rfl) (fun h => nomatch h) fun r10 => ?_
      refine ⟨_, rfl, ?_⟩
      refine ⟨_, rfl, ?_⟩
      refine ki_c ?_ ?_
      · refine ws_cons ?_
        refine w1_ret ?_
        refine we_pe pe_c ?_
        refine ⟨_, _, rfl, ?_⟩
        refine ks_r ?_
        refine ks_r ?_
        exact qf_rt (g := false) rfl rfl (sub_l (sl_none (sl_none (sl_none sl_nil))))
      · refine ws_nil ?_
        refine ks_n ?_
        refine ws_nil ?_
        exact qf_nx (s := ()) rfl (sub_l (sl_some (sl_some (sl_none sl_nil))))
    · refine ks_r ?_
      exact qd_rt (a := g11) rfl (io_f (io_f io_nil))
    refine ks_n ?_
    refine ws_cons ?_
    refine w1_ret ?_
    refine we_pe pe_c ?_
    refine ⟨_, _, rfl, ?_⟩
    refine ks_r ?_
    exact qd_rt (a := true) rfl (io_f (io_f io_nil))

def t__law_config_inside (members1 : (List ((List Int) × (List (List Int))))) (confighe2 : ((List Int) × (List (List Int)))) : R (Bool) := tb (forT (fun (x3 : ((List Int) × (List (List Int)))) (s4 : Unit) => tb (t__law_config_covers confighe2 x3) fun r6 => if r6 then (ok (.rt true)) else (ok (.nx ()))) members1 ()) fun o => outS (β := Bool) o (fun g7 => ok g7) fun s5 => ok false
theorem s__law_config_inside (members1 : (List ((List Int) × (List (List Int))))) (confighe2 : ((List Int) × (List (List Int)))) (n : Nat) : CallOk false (callF G (n + 3)) [false, false] "_law_config_inside" [(D.lst .fz (List.map (eP2 (eT D.int) (eT (eT D.int))) members1)), ((eP2 (eT D.int) (eT (eT D.int))) confighe2)] (t__law_config_inside members1 confighe2) (fun r => (D.bl r)) (fun r => [(D.lst .fz (List.map (eP2 (eT D.int) (eT (eT D.int))) members1)), ((eP2 (eT D.int) (eT (eT D.int))) confighe2)]) := by
  refine def_ok (n := n + 2) tb__law_config_inside rfl ?_
  unfold t__law_config_inside
  refine w_start (A' := [some (D.lst .fz (List.map (eP2 (eT D.int) (eT (eT D.int))) members1)), some ((eP2 (eT D.int) (eT (eT D.int))) confighe2), none]) rfl (b' := [.for_ (.nm 2) (.ex (.v 0)) [.ite (.call "_law_config_covers" [(.v 1), (.v 2)]) [.ret (.c (.bl true))] []],   .ret (.c (.bl false))]) rfl ?_
  refine ws_cons ?_
  refine w1_for ?_
  refine wi_ex ?_
  refine we_pe (pe_v rfl rfl) ?_
  refine ⟨_, _, rfl, ?_⟩
  refine kf_for (E := (eP2 (eT D.int) (eT (eT D.int)))) (σ := Unit) (γ := Bool) (fun s => [some (D.lst .fz (List.map (eP2 (eT D.int) (eT (eT D.int))) members1)), some ((eP2 (eT D.int) (eT (eT D.int))) confighe2), none]) (fun g => [none, none, none]) (fun g => (D.bl g)) rfl rfl (sub_l (sl_some (sl_some (sl_none sl_nil)))) (fun _ => rfl) (fun x3 s4 => ⟨_, rfl, ?_⟩) (fun g7 => ⟨_, rfl, ?_⟩) fun s5 => ⟨_, rfl, ?_⟩
  · refine ws_cons ?_
    refine w1_ite ?_
    refine we_call (io := [false, false]) io__law_config_covers ?_
    refine wl_cons ?_
    refine we_pe (pe_v rfl rfl) ?_
    refine ⟨rfl, ?_⟩
    refine wl_cons ?_
    refine we_pe (pe_v rfl rfl) ?_
    refine ⟨rfl, ?_⟩
    refine wl_nil ?_
    refine kc_t (s__law_config_covers confighe2 x3 (n + 0)) rfl rfl (fun _ => rfl) (fun _ => rfl) (fun h => nomatch h) fun r6 => ?_
    refine ⟨_, rfl, ?_⟩
    refine ki_c ?_ ?_
    · refine ws_cons ?_
      refine w1_ret ?_
      refine we_pe pe_c ?_
      refine ⟨_, _, rfl, ?_⟩
      refine ks_r ?_
      refine ks_r ?_
      exact qf_rt (g := true) rfl rfl (sub_l (sl_none (sl_none (sl_none sl_nil))))
    · refine ws_nil ?_
      refine ks_n ?_
      refine ws_nil ?_
      exact qf_nx (s := ()) rfl (sub_l (sl_some (sl_some (sl_none sl_nil))))
  · refine ks_r ?_
    exact qd_rt (a := g7) rfl (io_f (io_f io_nil))
  refine ks_n ?_
  refine ws_cons ?_
  refine w1_ret ?_
  refine we_pe pe_c ?_
  refine ⟨_, _, rfl, ?_⟩
  refine ks_r ?_
  exact qd_rt (a := false) rfl (io_f (io_f io_nil))

def t__law_config_least (members1 : (List ((List Int) × (List (List Int))))) : R ((List ((List Int) × (List (List Int))))) := tb (ssetC members1) fun x2 => tb (foldT (fun (x3 : ((List Int) × (List (List Int)))) (s4 : (List ((List Int) × (List (List Int))))) => tb (mapS (fun (x6 : ((List Int) × (List (List Int)))) (s7 : Unit) => tb (if (!(decide (x6 = x3))) then (tb (t__law_config_covers x3 x6) fun r11 => ok (r11, ())) else ok (false, ())) fun p10 => if p10.1 then (ok (some x6, ())) else ok (none, ())) members1 ()) fun p8 => tb (if (decide ((List.length p8.1 : Int) = (0 : Int))) then (tb (appT s4 x3) fun found13 => ok found13) else (ok s4)) fun (s14 : (List ((List Int) × (List (List Int))))) => ok s14) x2 ([] : (List ((List Int) × (List (List Int)))))) fun s5 => ok s5
theorem s__law_config_least (members1 : (List ((List Int) × (List (List Int))))) (n : Nat) : CallOk false (callF G (n + 3)) [false] "_law_config_least" [(D.lst .fz (List.map (eP2 (eT D.int) (eT (eT D.int))) members1))] (t__law_config_least members1) (fun r => (D.lst .ow (List.map (eP2 (eT D.int) (eT (eT D.int))) r))) (fun r => [(D.lst .fz (List.map (eP2 (eT D.int) (eT (eT D.int))) members1))]) := by
  refine def_ok (n := n + 2) tb__law_config_least rfl ?_
  unfold t__law_config_least
  refine w_start (A' := [some (D.lst .fz (List.map (eP2 (eT D.int) (eT (eT D.int))) members1)), none, none, none, none]) rfl (b' := [.set 1 (.lst false []),   .for_ (.nm 2) (.ex (.o1 .sortedset (.v 0))) [.set 3 (.comp false [4] (.v 4) (.nm 4) (.ex (.v 0)) (some (.and_ (.o2 .ne (.v 4) (.v 2)) (.call "_law_config_covers" [(.v 2), (.v 4)])))), .ite (.o2 .eq (.o1 .len (.v 3)) (.c (.int 0))) [.ex (.mu .append (.v 1) [(.v 2)])] []],   .ret (.v 1)]) rfl ?_
  refine ws_cons ?_
  refine w1_set ?_
  refine we_pe (pe_lstT (E := (eP2 (eT D.int) (eT (eT D.int)))) (xs := []) pl_nil rfl (sz rfl)) ?_
  refine ⟨_, _, rfl, ?_⟩
  refine ks_n ?_
  refine ws_cons ?_
  refine w1_for ?_
  refine wi_ex ?_
  refine we_o1 ?_
  refine we_pe (pe_v rfl rfl) ?_
  refine k_ssetC rfl fun x2 => ?_
  refine ⟨_, _, rfl, ?_⟩
  refine kf_fold (E := (eP2 (eT D.int) (eT (eT D.int)))) (σ := (List ((List Int) × (List (List Int))))) (fun s => [some (D.lst .fz (List.map (eP2 (eT D.int) (eT (eT D.int))) members1)), some (D.lst .ow (List.map (eP2 (eT D.int) (eT (eT D.int))) s)), none, none, none]) rfl rfl (sub_l (sl_some (sl_some (sl_none (sl_none (sl_none sl_nil)))))) (fun _ => rfl) (fun x3 s4 => ⟨_, rfl, ?_⟩) fun s5 => ⟨_, rfl, ?_⟩
  · refine ws_cons ?_
    refine w1_set ?_
    refine we_comp ?_
    refine wi_ex ?_
    refine we_pe (pe_v rfl rfl) ?_
    refine ⟨_, _, rfl, ?_⟩
    refine kco (E := (eP2 (eT D.int) (eT (eT D.int)))) (σ := Unit) (γ := ((List Int) × (List (List Int)))) (eP2 (eT D.int) (eT (eT D.int))) (fun s => [some (D.lst .fz (List.map (eP2 (eT D.int) (eT (eT D.int))) members1)), some (D.lst .ow (List.map (eP2 (eT D.int) (eT (eT D.int))) s4)), some ((eP2 (eT D.int) (eT (eT D.int))) x3), none, none]) rfl rfl (sub_l (sl_some (sl_some (sl_some (sl_none (sl_none sl_nil)))))) (fun _ => rfl) (fun x6 s7 => ?_) fun p8 => ⟨_, rfl, ?_⟩
    · refine tu_c rfl ?_
      refine we_and_e (σ := Unit) (fun s => [some (D.lst .fz (List.map (eP2 (eT D.int) (eT (eT D.int))) members1)), some (D.lst .ow (List.map (eP2 (eT D.int) (eT (eT D.int))) s4)), some ((eP2 (eT D.int) (eT (eT D.int))) x3), none, some ((eP2 (eT D.int) (eT (eT D.int))) x6)]) ?_
      refine we_pe (pe_ne (pr_v rfl) (pr_v rfl) (eqD_of (x := x6) (y := x3) (py_p2 (py_tup py_int) (py_tup (py_tup py_int))) (py_p2 (py_tup py_int) (py_tup (py_tup py_int))) (by decide))) ?_
      refine ⟨_, _, (), _, rfl, rfl, (sub_l (sl_some (sl_some (sl_some (sl_none (sl_some sl_nil)))))), ?_, fun p10 => ?_⟩
      · refine we_call (io := [false, false]) io__law_config_covers ?_
        refine wl_cons ?_
        refine we_pe (pe_v rfl rfl) ?_
        refine ⟨rfl, ?_⟩
        refine wl_cons ?_
        refine we_pe (pe_v rfl rfl) ?_
        refine ⟨rfl, ?_⟩
        refine wl_nil ?_
        refine kc_t (s__law_config_covers x3 x6 (n + 0)) rfl rfl (fun _ => rfl) (fun _ => rfl) (fun h => nomatch h) fun r11 => ?_
        exact ⟨_, (), rfl, rfl, (sub_l (sl_some (sl_some (sl_some (sl_none (sl_some sl_nil))))))⟩
      refine ⟨_, _, _, rfl, rfl, ?_, ⟨none, (), rfl, rfl, (sub_l (sl_some (sl_some (sl_some (sl_none (sl_none sl_nil))))))⟩⟩
      · refine we_pe (pe_v rfl rfl) ?_
        exact ⟨_, _, rfl, some x6, (), rfl, rfl, (sub_l (sl_some (sl_some (sl_some (sl_none (sl_none sl_nil))))))⟩
    refine ⟨_, _, rfl, ?_⟩
    refine ks_n ?_
    refine ws_cons ?_
    refine w1_ite ?_
    refine we_pe (pe_eq (pr_e (pe_lenl (pr_v rfl))) (pr_e pe_c) (eqD_of (x := (List.length p8.1 : Int)) (y := (0 : Int)) py_int py_int (by decide))) ?_
    refine ⟨_, rfl, ?_⟩
    refine ki_j (σ := (List ((List Int) × (List (List Int))))) (fun s => [some (D.lst .fz (List.map (eP2 (eT D.int) (eT (eT D.int))) members1)), some (D.lst .ow (List.map (eP2 (eT D.int) (eT (eT D.int))) s)), some ((eP2 (eT D.int) (eT (eT D.int))) x3), some (D.lst .ow (List.map (eP2 (eT D.int) (eT (eT D.int))) p8.1)), none]) ?_ ?_ fun s14 => ?_
    · refine ws_cons ?_
      refine w1_ex ?_
      refine we_mu rfl ?_
      refine wl_cons ?_
      refine we_pe (pe_v rfl rfl) ?_
      refine ⟨rfl, ?_⟩
      refine wl_nil ?_
      refine km_app (x := x3) (E := (eP2 (eT D.int) (eT (eT D.int)))) rfl rfl rfl fun found13 => ?_
      refine ks_n ?_
      refine ws_nil ?_
      exact ⟨found13, rfl, rfl, (sub_l (sl_some (sl_some (sl_some (sl_some (sl_none sl_nil))))))⟩
    · refine ws_nil ?_
      exact ⟨s4, rfl, rfl, (sub_l (sl_some (sl_some (sl_some (sl_some (sl_none sl_nil))))))⟩
    refine ks_n ?_
    refine ws_nil ?_
    exact ⟨s14, .inl rfl, rfl, (sub_l (sl_some (sl_some (sl_none (sl_none (sl_none sl_nil))))))⟩
  refine ks_n ?_
  refine ws_cons ?_
  refine w1_ret ?_
  refine we_va rfl rfl ?_
  refine ⟨_, _, rfl, ?_⟩
  refine ks_r ?_
  exact qd_rt (a := s5) rfl (io_f io_nil)

def t__law_draws (script1 : (List Int)) (count2 : Int) : R ((List Int)) := tb (if (decide ((List.length script1 : Int) = (0 : Int))) then (ok ([(7 : Int)] : (List Int))) else (ok script1)) fun (s3 : (List Int)) => tb (rngT 0 count2) fun xs4 => tb (foldT (fun (x5 : Int) (s6 : (List Int) × (List Int) × Int) => tb (modT x5 (List.length s6.1 : Int)) fun x8 => tb (ixT s6.1 x8) fun x9 => tb (mulT s6.2.2 (48271 : Int)) fun x10 => tb (modT x9 (1000003 : Int)) fun x11 => tb (mulT x11 (69621 : Int)) fun x12 => tb (mulT x5 (7919 : Int)) fun x13 => tb (modT (((x10 + x12) + x13) + (11 : Int)) (2147483647 : Int)) fun x14 => tb (mulT x14 x14) fun x15 => tb (mulT (31 : Int) x14) fun x16 => tb (modT ((x15 + x16) + x5) (1000003 : Int)) fun x17 => tb (powT (10 : Int) (18 : Int)) fun x18 => tb (if (decide (x18 ≤ x9)) then (tb (modT x9 (1000 : Int)) fun x25 => tb (appT s6.2.1 x25) fun found26 => tb (fdivT x9 (1000 : Int)) fun x27 => tb (putT s6.1 x8 x27) fun cells28 => ok (cells28, found26)) else (tb (modT x17 (1000 : Int)) fun x29 => tb (appT s6.2.1 x29) fun found30 => ok (s6.1, found30))) fun (s31 : (List Int) × (List Int)) => ok (s31.1, s31.2, x14)) xs4 (s3, ([] : (List Int)), (12345 : Int))) fun s7 => ok (List.reverse s7.2.1)
theorem s__law_draws (script1 : (List Int)) (count2 : Int) (n : Nat) : CallOk false (callF G (n + 1)) [false, false] "_law_draws" [(D.lst .fz (List.map D.int script1)), (D.int count2)] (t__law_draws script1 count2) (fun r => (D.lst .ow (List.map D.int r))) (fun r => [(D.lst .fz (List.map D.int script1)), (D.int count2)]) := by
  refine def_ok (n := n + 0) tb__law_draws rfl ?_
  unfold t__law_draws
  refine w_start (A' := [some (D.lst .fz (List.map D.int script1)), some (D.int count2), none, none, none, none, none, none, none]) rfl (b' := [.set 2 (.o1 .list_ (.v 0)),   .ite (.o2 .eq (.o1 .len (.v 2)) (.c (.int 0))) [.set 2 (.lst false [(.c (.int 7))])] [],   .set 3 (.lst false []),   .set 4 (.c (.int 12345)),   .for_ (.nm 5) (.r1 (.v 1)) [.set 6 (.o2 .mod (.v 5) (.o1 .len (.v 2))), .set 7 (.o2 .ix (.v 2) (.v 6)), .set 4 (.o2 .mod (.o1 .int_ (.o2 .add (.o2 .add (.o2 .add (.o2 .mul (.v 4) (.c (.int 48271))) (.o2 .mul (.o2 .mod (.o1 .int_ (.v 7)) (.c (.int 1000003))) (.c (.int 69621)))) (.o2 .mul (.v 5) (.c (.int 7919)))) (.c (.int 11)))) (.c (.int 2147483647))), .set 8 (.o2 .mod (.o1 .int_ (.o2 .add (.o2 .add (.o2 .mul (.v 4) (.v 4)) (.o2 .mul (.c (.int 31)) (.v 4))) (.v 5))) (.c (.int 1000003))), .ite (.o2 .ge (.v 7) (.o2 .pow (.c (.int 10)) (.c (.int 18)))) [.ex (.mu .append (.v 3) [(.o2 .mod (.o1 .int_ (.v 7)) (.c (.int 1000)))]), .setIx (.v 2) (.v 6) (.o2 .fdiv (.v 7) (.c (.int 1000)))] [.ex (.mu .append (.v 3) [(.o2 .mod (.o1 .int_ (.v 8)) (.c (.int 1000)))])]],   .ex (.mu .reverse (.v 3) []),   .ret (.v 3)]) rfl ?_
  refine ws_cons ?_
  refine w1_set ?_
  refine we_pe (pe_o1 (pr_v rfl) rfl) ?_
  refine ⟨_, _, rfl, ?_⟩
  refine ks_n ?_
  refine ws_cons ?_
  refine w1_ite ?_
  refine we_pe (pe_eq (pr_e (pe_lenl (pr_v rfl))) (pr_e pe_c) (eqD_of (x := (List.length script1 : Int)) (y := (0 : Int)) py_int py_int (by decide))) ?_
  refine ⟨_, rfl, ?_⟩
  refine ki_j (σ := (List Int)) (fun s => [some (D.lst .fz (List.map D.int script1)), some (D.int count2), some (D.lst .ow (List.map D.int s)), none, none, none, none, none, none]) ?_ ?_ fun s3 => ?_
  · refine ws_cons ?_
    refine w1_set ?_
    refine we_pe (pe_lstT (E := D.int) (xs := [(7 : Int)]) (pl_cons pe_c pl_nil) rfl (sz rfl)) ?_
    refine ⟨_, _, rfl, ?_⟩
    refine ks_n ?_
    refine ws_nil ?_
    exact ⟨([(7 : Int)] : (List Int)), rfl, rfl, (sub_l (sl_some (sl_some (sl_some (sl_none (sl_none (sl_none (sl_none (sl_none (sl_none sl_nil))))))))))⟩
  · refine ws_nil ?_
    exact ⟨script1, rfl, rfl, (sub_l (sl_some (sl_some (sl_some (sl_none (sl_none (sl_none (sl_none (sl_none (sl_none sl_nil))))))))))⟩
  refine ks_n ?_
  refine ws_cons ?_
  refine w1_set ?_
  refine we_pe (pe_lstT (E := D.int) (xs := []) pl_nil rfl (sz rfl)) ?_
  refine ⟨_, _, rfl, ?_⟩
  refine ks_n ?_
  refine ws_cons ?_
  refine w1_set ?_
  refine we_pe pe_c ?_
  refine ⟨_, _, rfl, ?_⟩
  refine ks_n ?_
  refine ws_cons ?_
  refine w1_for ?_
  refine wi_r1 ?_
  refine we_pe (pe_v rfl rfl) ?_
  refine ⟨_, _, rfl, rfl, fun xs4 => ?_⟩
  refine kf_fold (E := D.int) (σ := (List Int) × (List Int) × Int) (fun s => [some (D.lst .fz (List.map D.int script1)), some (D.int count2), some (D.lst .ow (List.map D.int s.1)), some (D.lst .ow (List.map D.int s.2.1)), some (D.int s.2.2), none, none, none, none]) rfl rfl (sub_l (sl_some (sl_some (sl_some (sl_some (sl_some (sl_none (sl_none (sl_none (sl_none sl_nil)))))))))) (fun _ => rfl) (fun x5 s6 => ⟨_, rfl, ?_⟩) fun s7 => ⟨_, rfl, ?_⟩
  · refine ws_cons ?_
    refine w1_set ?_
    refine we_o2 ?_
    refine we_pe (pe_v rfl rfl) ?_
    refine ⟨rfl, ?_⟩
    refine we_pe (pe_lenl (pr_v rfl)) ?_
    refine k_mod rfl rfl fun x8 => ?_
    refine ⟨_, _, rfl, ?_⟩
    refine ks_n ?_
    refine ws_cons ?_
    refine w1_set ?_
    refine we_o2 ?_
    refine we_va rfl rfl ?_
    refine ⟨rfl, ?_⟩
    refine we_pe (pe_v rfl rfl) ?_
    refine k_ixl rfl rfl fun x9 => ?_
    refine ⟨_, _, rfl, ?_⟩
    refine ks_n ?_
    refine ws_cons ?_
    refine w1_set ?_
    refine we_o2 ?_
    refine we_o1 ?_
    refine we_o2 ?_
    refine we_o2 ?_
    refine we_o2 ?_
    refine we_o2 ?_
    refine we_pe (pe_v rfl rfl) ?_
    refine ⟨rfl, ?_⟩
    refine we_pe pe_c ?_
    refine k_mul rfl rfl fun x10 => ?_
    refine ⟨rfl, ?_⟩
    refine we_o2 ?_
    refine we_o2 ?_
    refine we_pe (pe_o1 (pr_v rfl) rfl) ?_
    refine ⟨rfl, ?_⟩
    refine we_pe pe_c ?_
    refine k_mod rfl rfl fun x11 => ?_
    refine ⟨rfl, ?_⟩
    refine we_pe pe_c ?_
    refine k_mul rfl rfl fun x12 => ?_
    refine k2_p rfl rfl rfl ?_
    refine ⟨rfl, ?_⟩
    refine we_o2 ?_
    refine we_pe (pe_v rfl rfl) ?_
    refine ⟨rfl, ?_⟩
    refine we_pe pe_c ?_
    refine k_mul rfl rfl fun x13 => ?_
    refine k2_p rfl rfl rfl ?_
    refine ⟨rfl, ?_⟩
    refine we_pe pe_c ?_
    refine k2_p rfl rfl rfl ?_
    refine k1_p rfl rfl ?_
    refine ⟨rfl, ?_⟩
    refine we_pe pe_c ?_
    refine k_mod rfl rfl fun x14 => ?_
    refine ⟨_, _, rfl, ?_⟩
    refine ks_n ?_
    refine ws_cons ?_
    refine w1_set ?_
    refine we_o2 ?_
    refine we_o1 ?_
    refine we_o2 ?_
    refine we_o2 ?_
    refine we_o2 ?_
    refine we_pe (pe_v rfl rfl) ?_
    refine ⟨rfl, ?_⟩
    refine we_pe (pe_v rfl rfl) ?_
    refine k_mul rfl rfl fun x15 => ?_
    refine ⟨rfl, ?_⟩
    refine we_o2 ?_
    refine we_pe pe_c ?_
    refine ⟨rfl, ?_⟩
    refine we_pe (pe_v rfl rfl) ?_
    refine k_mul rfl rfl fun x16 => ?_
    refine k2_p rfl rfl rfl ?_
    refine ⟨rfl, ?_⟩
    refine we_pe (pe_v rfl rfl) ?_
    refine k2_p rfl rfl rfl ?_
    refine k1_p rfl rfl ?_
    refine ⟨rfl, ?_⟩
    refine we_pe pe_c ?_
    refine k_mod rfl rfl fun x17 => ?_
    refine ⟨_, _, rfl, ?_⟩
    refine ks_n ?_
    refine ws_cons ?_
    refine w1_ite ?_
    refine we_o2 ?_
    refine we_pe (pe_v rfl rfl) ?_
    refine ⟨rfl, ?_⟩
    refine we_o2 ?_
    refine we_pe pe_c ?_
    refine ⟨rfl, ?_⟩
    refine we_pe pe_c ?_
    refine k_pow rfl rfl fun x18 => ?_
    refine k2_p rfl rfl rfl ?_
    refine ⟨_, rfl, ?_⟩
    refine ki_j (σ := (List Int) × (List Int)) (fun s => [some (D.lst .fz (List.map D.int script1)), some (D.int count2), some (D.lst .ow (List.map D.int s.1)), some (D.lst .ow (List.map D.int s.2)), some (D.int x14), some (D.int x5), some (D.int x8), some (D.int x9), some (D.int x17)]) ?_ ?_ fun s31 => ?_
    · refine ws_cons ?_
      refine w1_ex ?_
      refine we_mu rfl ?_
      refine wl_cons ?_
      refine we_o2 ?_
      refine we_pe (pe_o1 (pr_v rfl) rfl) ?_
      refine ⟨rfl, ?_⟩
      refine we_pe pe_c ?_
      refine k_mod rfl rfl fun x25 => ?_
      refine ⟨rfl, ?_⟩
      refine wl_nil ?_
      refine km_app (x := x25) (E := D.int) rfl rfl rfl fun found26 => ?_
      refine ks_n ?_
      refine ws_cons ?_
      refine w1_setIx (α := Int) rfl ?_
      refine we_o2 ?_
      refine we_pe (pe_v rfl rfl) ?_
      refine ⟨rfl, ?_⟩
      refine we_pe pe_c ?_
      refine k_fdiv rfl rfl fun x27 => ?_
      refine ⟨x27, D.int, _, _, rfl, rfl, rfl, ?_⟩
      refine we_pe (pe_v rfl rfl) ?_
      refine ⟨_, _, _, rfl, rfl, rfl, fun cells28 => ?_⟩
      refine ks_n ?_
      refine ws_nil ?_
      exact ⟨(cells28, found26), rfl, rfl, (sub_l (sl_some (sl_some (sl_some (sl_some (sl_some (sl_some (sl_some (sl_some (sl_some sl_nil))))))))))⟩
    · refine ws_cons ?_
      refine w1_ex ?_
      refine we_mu rfl ?_
      refine wl_cons ?_
      refine we_o2 ?_
      refine we_pe (pe_o1 (pr_v rfl) rfl) ?_
      refine ⟨rfl, ?_⟩
      refine we_pe pe_c ?_
      refine k_mod rfl rfl fun x29 => ?_
      refine ⟨rfl, ?_⟩
      refine wl_nil ?_
      refine km_app (x := x29) (E := D.int) rfl rfl rfl fun found30 => ?_
      refine ks_n ?_
      refine ws_nil ?_
      exact ⟨(s6.1, found30), rfl, rfl, (sub_l (sl_some (sl_some (sl_some (sl_some (sl_some (sl_some (sl_some (sl_some (sl_some sl_nil))))))))))⟩
    refine ks_n ?_
    refine ws_nil ?_
    exact ⟨(s31.1, s31.2, x14), .inl rfl, rfl, (sub_l (sl_some (sl_some (sl_some (sl_some (sl_some (sl_none (sl_none (sl_none (sl_none sl_nil))))))))))⟩
  refine ks_n ?_
  refine ws_cons ?_
  refine w1_ex ?_
  refine we_mu rfl ?_
  refine wl_nil ?_
  refine km_rev rfl rfl ?_
  refine ks_n ?_
  refine ws_cons ?_
  refine w1_ret ?_
  refine we_va rfl rfl ?_
  refine ⟨_, _, rfl, ?_⟩
  refine ks_r ?_
  exact qd_rt (a := (List.reverse s7.2.1)) rfl (io_f (io_f io_nil))

def t_covers (first1 : (List Int)) (second2 : (List Int)) : R (Bool) := tb (rngT 0 (List.length first1 : Int)) fun xs3 => tb (forT (fun (x4 : Int) (s5 : Unit) => tb (ixT first1 x4) fun x7 => tb (ixT second2 x4) fun x8 => if (decide (x7 < x8)) then (ok (.rt false)) else (ok (.nx ()))) xs3 ()) fun o => outS (β := Bool) o (fun g9 => ok g9) fun s6 => ok true
theorem s_covers (first1 : (List Int)) (second2 : (List Int)) (n : Nat) : CallOk false (callF G (n + 1)) [false, false] "covers" [(D.tup (List.map D.int first1)), (D.tup (List.map D.int second2))] (t_covers first1 second2) (fun r => (D.bl r)) (fun r => [(D.tup (List.map D.int first1)), (D.tup (List.map D.int second2))]) := by
  refine def_ok (n := n + 0) tb_covers rfl ?_
  unfold t_covers
  refine w_start (A' := [some (D.tup (List.map D.int first1)), some (D.tup (List.map D.int second2)), none]) rfl (b' := [.for_ (.nm 2) (.r1 (.o1 .len (.v 0))) [.ite (.o2 .lt (.o2 .ix (.v 0) (.v 2)) (.o2 .ix (.v 1) (.v 2))) [.ret (.c (.bl false))] []],   .ret (.c (.bl true))]) rfl ?_
  refine ws_cons ?_
  refine w1_for ?_
  refine wi_r1 ?_
  refine we_pe (pe_lent (pr_v rfl)) ?_
  refine ⟨_, _, rfl, rfl, fun xs3 => ?_⟩
  refine kf_for (E := D.int) (σ := Unit) (γ := Bool) (fun s => [some (D.tup (List.map D.int first1)), some (D.tup (List.map D.int second2)), none]) (fun g => [none, none, none]) (fun g => (D.bl g)) rfl rfl (sub_l (sl_some (sl_some (sl_none sl_nil)))) (fun _ => rfl) (fun x4 s5 => ⟨_, rfl, ?_⟩) (fun g9 => ⟨_, rfl, ?_⟩) fun s6 => ⟨_, rfl, ?_⟩
  · refine ws_cons ?_
    refine w1_ite ?_
    refine we_o2 ?_
    refine we_o2 ?_
    refine we_pe (pe_v rfl rfl) ?_
    refine ⟨rfl, ?_⟩
    refine we_pe (pe_v rfl rfl) ?_
    refine k_ixt rfl rfl fun x7 => ?_
    refine ⟨rfl, ?_⟩
    refine we_o2 ?_
    refine we_pe (pe_v rfl rfl) ?_
    refine ⟨rfl, ?_⟩
    refine we_pe (pe_v rfl rfl) ?_
    refine k_ixt rfl rfl fun x8 => ?_
    refine k2_p rfl rfl rfl ?_
    refine ⟨_, rfl, ?_⟩
    refine ki_c ?_ ?_
    · refine ws_cons ?_
      refine w1_ret ?_
      refine we_pe pe_c ?_
      refine ⟨_, _, rfl, ?_⟩
      refine ks_r ?_
      refine ks_r ?_
      exact qf_rt (g := false) rfl rfl (sub_l (sl_none (sl_none (sl_none sl_nil))))
    · refine ws_nil ?_
      refine ks_n ?_
      refine ws_nil ?_
      exact qf_nx (s := ()) rfl (sub_l (sl_some (sl_some (sl_none sl_nil))))
  · refine ks_r ?_
    exact qd_rt (a := g9) rfl (io_f (io_f io_nil))
  refine ks_n ?_
  refine ws_cons ?_
  refine w1_ret ?_
  refine we_pe pe_c ?_
  refine ⟨_, _, rfl, ?_⟩
  refine ks_r ?_
  exact qd_rt (a := true) rfl (io_f (io_f io_nil))

def t_is_within (first1 : (List Int)) (second2 : (List Int)) : R (Bool) := tb (foldT (fun (x3 : Int) (s4 : Int) => tb (if (decide (s4 < (List.length first1 : Int))) then (tb (ixT first1 s4) fun x8 => ok ((decide (x8 = x3)), ())) else ok (false, ())) fun p7 => tb (if p7.1 then (ok (s4 + (1 : Int))) else (ok s4)) fun (s9 : Int) => ok s9) second2 (0 : Int)) fun s5 => ok (decide (s5 = (List.length first1 : Int)))
theorem s_is_within (first1 : (List Int)) (second2 : (List Int)) (n : Nat) : CallOk false (callF G (n + 1)) [false, false] "is_within" [(D.tup (List.map D.int first1)), (D.tup (List.map D.int second2))] (t_is_within first1 second2) (fun r => (D.bl r)) (fun r => [(D.tup (List.map D.int first1)), (D.tup (List.map D.int second2))]) := by
  refine def_ok (n := n + 0) tb_is_within rfl ?_
  unfold t_is_within
  refine w_start (A' := [some (D.tup (List.map D.int first1)), some (D.tup (List.map D.int second2)), none, none]) rfl (b' := [.set 2 (.c (.int 0)),   .for_ (.nm 3) (.ex (.v 1)) [.ite (.and_ (.o2 .lt (.v 2) (.o1 .len (.v 0))) (.o2 .eq (.o2 .ix (.v 0) (.v 2)) (.v 3))) [.aug 2 .add (.c (.int 1))] []],   .ret (.o2 .eq (.v 2) (.o1 .len (.v 0)))]) rfl ?_
  refine ws_cons ?_
  refine w1_set ?_
  refine we_pe pe_c ?_
  refine ⟨_, _, rfl, ?_⟩
  refine ks_n ?_
  refine ws_cons ?_
  refine w1_for ?_
  refine wi_ex ?_
  refine we_pe (pe_v rfl rfl) ?_
  refine ⟨_, _, rfl, ?_⟩
  refine kf_fold (E := D.int) (σ := Int) (fun s => [some (D.tup (List.map D.int first1)), some (D.tup (List.map D.int second2)), some (D.int s), none]) rfl rfl (sub_l (sl_some (sl_some (sl_some (sl_none sl_nil))))) (fun _ => rfl) (fun x3 s4 => ⟨_, rfl, ?_⟩) fun s5 => ⟨_, rfl, ?_⟩
  · refine ws_cons ?_
    refine w1_ite ?_
    refine we_and_e (σ := Unit) (fun s => [some (D.tup (List.map D.int first1)), some (D.tup (List.map D.int second2)), some (D.int s4), some (D.int x3)]) ?_
    refine we_pe (pe_o2 (pr_v rfl) (pr_e (pe_lent (pr_v rfl))) rfl) ?_
    refine ⟨_, _, (), _, rfl, rfl, (sub_l (sl_some (sl_some (sl_some (sl_some sl_nil))))), ?_, fun p7 => ?_⟩
    · refine we_o2 ?_
      refine we_o2 ?_
      refine we_pe (pe_v rfl rfl) ?_
      refine ⟨rfl, ?_⟩
      refine we_pe (pe_v rfl rfl) ?_
      refine k_ixt rfl rfl fun x8 => ?_
      refine ⟨rfl, ?_⟩
      refine we_pe (pe_v rfl rfl) ?_
      refine k2_p rfl rfl (o2_eq (eqD_of (x := x8) (y := x3) py_int py_int (by decide))) ?_
      exact ⟨_, (), rfl, rfl, (sub_l (sl_some (sl_some (sl_some (sl_some sl_nil)))))⟩
    refine ⟨_, rfl, ?_⟩
    refine ki_j (σ := Int) (fun s => [some (D.tup (List.map D.int first1)), some (D.tup (List.map D.int second2)), some (D.int s), some (D.int x3)]) ?_ ?_ fun s9 => ?_
    · refine ws_cons ?_
      refine w1_aug rfl ?_
      refine we_pe pe_c ?_
      refine ⟨_, _, rfl, rfl, ?_⟩
      refine ks_n ?_
      refine ws_nil ?_
      exact ⟨(s4 + (1 : Int)), rfl, rfl, (sub_l (sl_some (sl_some (sl_some (sl_some sl_nil)))))⟩
    · refine ws_nil ?_
      exact ⟨s4, rfl, rfl, (sub_l (sl_some (sl_some (sl_some (sl_some sl_nil)))))⟩
    refine ks_n ?_
    refine ws_nil ?_
    exact ⟨s9, .inl rfl, rfl, (sub_l (sl_some (sl_some (sl_some (sl_none sl_nil)))))⟩
  refine ks_n ?_
  refine ws_cons ?_
  refine w1_ret ?_
  refine we_pe (pe_eq (pr_v rfl) (pr_e (pe_lent (pr_v rfl))) (eqD_of (x := s5) (y := (List.length first1 : Int)) py_int py_int (by decide))) ?_
  refine ⟨_, _, rfl, ?_⟩
  refine ks_r ?_
  exact qd_rt (a := (decide (s5 = (List.length first1 : Int)))) rfl (io_f (io_f io_nil))

def t_config_covers (first1 : ((List Int) × (List (List Int)))) (second2 : ((List Int) × (List (List Int)))) : R (Bool) := tb (t_covers first1.1 second2.1) fun r3 => if (!r3) then (ok false) else (tb (rngT 0 (List.length first1.2 : Int)) fun xs4 => tb (forT (fun (x5 : Int) (s6 : Unit) => tb (ixT second2.2 x5) fun x8 => tb (ixT first1.2 x5) fun x9 => tb (t_is_within x8 x9) fun r10 => if (!r10) then (ok (.rt false)) else (ok (.nx ()))) xs4 ()) fun o => outS (β := Bool) o (fun g11 => ok g11) fun s7 => ok true)
theorem s_config_covers (first1 : ((List Int) × (List (List Int)))) (second2 : ((List Int) × (List (List Int)))) (n : Nat) : CallOk false (callF G (n + 2)) [false, false] "config_covers" [((eP2 (eT D.int) (eT (eT D.int))) first1), ((eP2 (eT D.int) (eT (eT D.int))) second2)] (t_config_covers first1 second2) (fun r => (D.bl r)) (fun r => [((eP2 (eT D.int) (eT (eT D.int))) first1), ((eP2 (eT D.int) (eT (eT D.int))) second2)]) := by
  refine def_ok (n := n + 1) tb_config_covers rfl ?_
  unfold t_config_covers
  refine w_start (A' := [some ((eP2 (eT D.int) (eT (eT D.int))) first1), some ((eP2 (eT D.int) (eT (eT D.int))) second2), none]) rfl (b' := [.ite (.not_ (.call "covers" [(.o2 .ix (.v 0) (.c (.int 0))), (.o2 .ix (.v 1) (.c (.int 0)))])) [.ret (.c (.bl false))] [],   .for_ (.nm 2) (.r1 (.o1 .len (.o2 .ix (.v 0) (.c (.int 1))))) [.ite (.not_ (.call "is_within" [(.o2 .ix (.o2 .ix (.v 1) (.c (.int 1))) (.v 2)), (.o2 .ix (.o2 .ix (.v 0) (.c (.int 1))) (.v 2))])) [.ret (.c (.bl false))] []],   .ret (.c (.bl true))]) rfl ?_
  refine ws_cons ?_
  refine w1_ite ?_
  refine we_not ?_
  refine we_call (io := [false, false]) io_covers ?_
  refine wl_cons ?_
  refine we_pe (pe_o2 (pr_v rfl) (pr_e pe_c) rfl) ?_
  refine ⟨rfl, ?_⟩
  refine wl_cons ?_
  refine we_pe (pe_o2 (pr_v rfl) (pr_e pe_c) rfl) ?_
  refine ⟨rfl, ?_⟩
  refine wl_nil ?_
  refine kc_t (s_covers first1.1 second2.1 (n + 0)) rfl rfl (fun _ => rfl) (fun _ => rfl) (fun h => nomatch h) fun r3 => ?_
  refine ⟨_, rfl, ?_⟩
  refine ⟨_, rfl, ?_⟩
  refine ki_c ?_ ?_
  · refine ws_cons ?_
    refine w1_ret ?_
    refine we_pe pe_c ?_
    refine ⟨_, _, rfl, ?_⟩
    refine ks_r ?_
    refine ks_r ?_
    exact qd_rt (a := false) rfl (io_f (io_f io_nil))
  · refine ws_nil ?_
    refine ks_n ?_
    refine ws_cons ?_
    refine w1_for ?_
    refine wi_r1 ?_
    refine we_pe (pe_lent (pr_e (pe_o2 (pr_v rfl) (pr_e pe_c) rfl))) ?_
    refine ⟨_, _, rfl, rfl, fun xs4 => ?_⟩
    refine kf_for (E := D.int) (σ := Unit) (γ := Bool) (fun s => [some ((eP2 (eT D.int) (eT (eT D.int))) first1), some ((eP2 (eT D.int) (eT (eT D.int))) second2), none]) (fun g => [none, none, none]) (fun g => (D.bl g)) rfl rfl (sub_l (sl_some (sl_some (sl_none sl_nil)))) (fun _ => rfl) (fun x5 s6 => ⟨_, rfl, ?_⟩) (fun g11 => ⟨_, rfl, ?_⟩) fun s7 => ⟨_, rfl, ?_⟩
    · refine ws_cons ?_
      refine w1_ite ?_
      refine we_not ?_
      refine we_call (io := [false, false]) io_is_within ?_
      refine wl_cons ?_
      refine we_o2 ?_
      refine we_pe (pe_o2 (pr_v rfl) (pr_e pe_c) rfl) ?_
      refine ⟨rfl, ?_⟩
      refine we_pe (pe_v rfl rfl) ?_
      refine k_ixt rfl rfl fun x8 => ?_
      refine ⟨rfl, ?_⟩
      refine wl_cons ?_
      refine we_o2 ?_
      refine we_pe (pe_o2 (pr_v rfl) (pr_e pe_c) rfl) ?_
      refine ⟨rfl, ?_⟩
      refine we_pe (pe_v rfl rfl) ?_
      refine k_ixt rfl rfl fun x9 => ?_
      refine ⟨rfl, ?_⟩
      refine wl_nil ?_
      refine kc_t (s_is_within x8 x9 (n + 0)) rfl rfl (fun _ => rfl) (fun _ => rfl) (fun h => nomatch h) fun r10 => ?_
      refine ⟨_, rfl, ?_⟩
      refine ⟨_, rfl, ?_⟩
      refine ki_c ?_ ?_
      · refine ws_cons ?_
        refine w1_ret ?_
        refine we_pe pe_c ?_
        refine ⟨_, _, rfl, ?_⟩
        refine ks_r ?_
        refine ks_r ?_
        exact qf_rt (g := false) rfl rfl (sub_l (sl_none (sl_none (sl_none sl_nil))))
      · refine ws_nil ?_
        refine ks_n ?_
        refine ws_nil ?_
        exact qf_nx (s := ()) rfl (sub_l (sl_some (sl_some (sl_none sl_nil))))
    · refine ks_r ?_
      exact qd_rt (a := g11) rfl (io_f (io_f io_nil))
    refine ks_n ?_
    refine ws_cons ?_
    refine w1_ret ?_
    refine we_pe pe_c ?_
    refine ⟨_, _, rfl, ?_⟩
    refine ks_r ?_
    exact qd_rt (a := true) rfl (io_f (io_f io_nil))

def t_config_basis (members1 : (List ((List Int) × (List (List Int))))) : R ((List ((List Int) × (List (List Int))))) := tb (ssetC members1) fun x2 => tb (foldT (fun (x3 : ((List Int) × (List (List Int)))) (s4 : (List ((List Int) × (List (List Int))))) => tb (foldT (fun (x6 : ((List Int) × (List (List Int)))) (s7 : Bool) => tb (if (!(decide (x6 = x3))) then (tb (t_config_covers x3 x6) fun r11 => ok (r11, ())) else ok (false, ())) fun p10 => tb (if p10.1 then (ok false) else (ok s7)) fun (s12 : Bool) => ok s12) members1 true) fun s8 => tb (if s8 then (tb (appT s4 x3) fun found14 => ok found14) else (ok s4)) fun (s15 : (List ((List Int) × (List (List Int))))) => ok s15) x2 ([] : (List ((List Int) × (List (List Int)))))) fun s5 => ok s5
theorem s_config_basis (members1 : (List ((List Int) × (List (List Int))))) (n : Nat) : CallOk false (callF G (n + 3)) [false] "config_basis" [(D.lst .fz (List.map (eP2 (eT D.int) (eT (eT D.int))) members1))] (t_config_basis members1) (fun r => (D.lst .ow (List.map (eP2 (eT D.int) (eT (eT D.int))) r))) (fun r => [(D.lst .fz (List.map (eP2 (eT D.int) (eT (eT D.int))) members1))]) := by
  refine def_ok (n := n + 2) tb_config_basis rfl ?_
  unfold t_config_basis
  refine w_start (A' := [some (D.lst .fz (List.map (eP2 (eT D.int) (eT (eT D.int))) members1)), none, none, none, none]) rfl (b' := [.set 1 (.lst false []),   .for_ (.nm 2) (.ex (.o1 .sortedset (.v 0))) [.set 3 (.c (.bl true)), .for_ (.nm 4) (.ex (.v 0)) [.ite (.and_ (.o2 .ne (.v 4) (.v 2)) (.call "config_covers" [(.v 2), (.v 4)])) [.set 3 (.c (.bl false))] []], .ite (.v 3) [.ex (.mu .append (.v 1) [(.v 2)])] []],   .ret (.v 1)]) rfl ?_
  refine ws_cons ?_
  refine w1_set ?_
  refine we_pe (pe_lstT (E := (eP2 (eT D.int) (eT (eT D.int)))) (xs := []) pl_nil rfl (sz rfl)) ?_
  refine ⟨_, _, rfl, ?_⟩
  refine ks_n ?_
  refine ws_cons ?_
  refine w1_for ?_
  refine wi_ex ?_
  refine we_o1 ?_
  refine we_pe (pe_v rfl rfl) ?_
  refine k_ssetC rfl fun x2 => ?_
  refine ⟨_, _, rfl, ?_⟩
  refine kf_fold (E := (eP2 (eT D.int) (eT (eT D.int)))) (σ := (List ((List Int) × (List (List Int))))) (fun s => [some (D.lst .fz (List.map (eP2 (eT D.int) (eT (eT D.int))) members1)), some (D.lst .ow (List.map (eP2 (eT D.int) (eT (eT D.int))) s)), none, none, none]) rfl rfl (sub_l (sl_some (sl_some (sl_none (sl_none (sl_none sl_nil)))))) (fun _ => rfl) (fun x3 s4 => ⟨_, rfl, ?_⟩) fun s5 => ⟨_, rfl, ?_⟩
  · refine ws_cons ?_
    refine w1_set ?_
    refine we_pe pe_c ?_
    refine ⟨_, _, rfl, ?_⟩
    refine ks_n ?_
    refine ws_cons ?_
    refine w1_for ?_
    refine wi_ex ?_
    refine we_pe (pe_v rfl rfl) ?_
    refine ⟨_, _, rfl, ?_⟩
    refine kf_fold (E := (eP2 (eT D.int) (eT (eT D.int)))) (σ := Bool) (fun s => [some (D.lst .fz (List.map (eP2 (eT D.int) (eT (eT D.int))) members1)), some (D.lst .ow (List.map (eP2 (eT D.int) (eT (eT D.int))) s4)), some ((eP2 (eT D.int) (eT (eT D.int))) x3), some (D.bl s), none]) rfl rfl (sub_l (sl_some (sl_some (sl_some (sl_some (sl_none sl_nil)))))) (fun _ => rfl) (fun x6 s7 => ⟨_, rfl, ?_⟩) fun s8 => ⟨_, rfl, ?_⟩
    · refine ws_cons ?_
      refine w1_ite ?_
      refine we_and_e (σ := Unit) (fun s => [some (D.lst .fz (List.map (eP2 (eT D.int) (eT (eT D.int))) members1)), some (D.lst .ow (List.map (eP2 (eT D.int) (eT (eT D.int))) s4)), some ((eP2 (eT D.int) (eT (eT D.int))) x3), some (D.bl s7), some ((eP2 (eT D.int) (eT (eT D.int))) x6)]) ?_
      refine we_pe (pe_ne (pr_v rfl) (pr_v rfl) (eqD_of (x := x6) (y := x3) (py_p2 (py_tup py_int) (py_tup (py_tup py_int))) (py_p2 (py_tup py_int) (py_tup (py_tup py_int))) (by decide))) ?_
      refine ⟨_, _, (), _, rfl, rfl, (sub_l (sl_some (sl_some (sl_some (sl_some (sl_some sl_nil)))))), ?_, fun p10 => ?_⟩
      · refine we_call (io := [false, false]) io_config_covers ?_
        refine wl_cons ?_
        refine we_pe (pe_v rfl rfl) ?_
        refine ⟨rfl, ?_⟩
        refine wl_cons ?_
        refine we_pe (pe_v rfl rfl) ?_
        refine ⟨rfl, ?_⟩
        refine wl_nil ?_
        refine kc_t (s_config_covers x3 x6 (n + 0)) rfl rfl (fun _ => rfl) (fun _ => rfl) (fun h => nomatch h) fun r11 => ?_
        exact ⟨_, (), rfl, rfl, (sub_l (sl_some (sl_some (sl_some (sl_some (sl_some sl_nil))))))⟩
      refine ⟨_, rfl, ?_⟩
      refine ki_j (σ := Bool) (fun s => [some (D.lst .fz (List.map (eP2 (eT D.int) (eT (eT D.int))) members1)), some (D.lst .ow (List.map (eP2 (eT D.int) (eT (eT D.int))) s4)), some ((eP2 (eT D.int) (eT (eT D.int))) x3), some (D.bl s), some ((eP2 (eT D.int) (eT (eT D.int))) x6)]) ?_ ?_ fun s12 => ?_
      · refine ws_cons ?_
        refine w1_set ?_
        refine we_pe pe_c ?_
        refine ⟨_, _, rfl, ?_⟩
        refine ks_n ?_
        refine ws_nil ?_
        exact ⟨false, rfl, rfl, (sub_l (sl_some (sl_some (sl_some (sl_some (sl_some sl_nil))))))⟩
      · refine ws_nil ?_
        exact ⟨s7, rfl, rfl, (sub_l (sl_some (sl_some (sl_some (sl_some (sl_some sl_nil))))))⟩
      refine ks_n ?_
      refine ws_nil ?_
      exact ⟨s12, .inl rfl, rfl, (sub_l (sl_some (sl_some (sl_some (sl_some (sl_none sl_nil))))))⟩
    refine ks_n ?_
    refine ws_cons ?_
    refine w1_ite ?_
    refine we_pe (pe_v rfl rfl) ?_
    refine ⟨_, rfl, ?_⟩
    refine ki_j (σ := (List ((List Int) × (List (List Int))))) (fun s => [some (D.lst .fz (List.map (eP2 (eT D.int) (eT (eT D.int))) members1)), some (D.lst .ow (List.map (eP2 (eT D.int) (eT (eT D.int))) s)), some ((eP2 (eT D.int) (eT (eT D.int))) x3), some (D.bl s8), none]) ?_ ?_ fun s15 => ?_
    · refine ws_cons ?_
      refine w1_ex ?_
      refine we_mu rfl ?_
      refine wl_cons ?_
      refine we_pe (pe_v rfl rfl) ?_
      refine ⟨rfl, ?_⟩
      refine wl_nil ?_
      refine km_app (x := x3) (E := (eP2 (eT D.int) (eT (eT D.int)))) rfl rfl rfl fun found14 => ?_
      refine ks_n ?_
      refine ws_nil ?_
      exact ⟨found14, rfl, rfl, (sub_l (sl_some (sl_some (sl_some (sl_some (sl_none sl_nil))))))⟩
    · refine ws_nil ?_
      exact ⟨s4, rfl, rfl, (sub_l (sl_some (sl_some (sl_some (sl_some (sl_none sl_nil))))))⟩
    refine ks_n ?_
    refine ws_nil ?_
    exact ⟨s15, .inl rfl, rfl, (sub_l (sl_some (sl_some (sl_none (sl_none (sl_none sl_nil))))))⟩
  refine ks_n ?_
  refine ws_cons ?_
  refine w1_ret ?_
  refine we_va rfl rfl ?_
  refine ⟨_, _, rfl, ?_⟩
  refine ks_r ?_
  exact qd_rt (a := s5) rfl (io_f io_nil)

def t_in_config_set (members1 : (List ((List Int) × (List (List Int))))) (config2 : ((List Int) × (List (List Int)))) : R (Bool) := tb (forT (fun (x3 : ((List Int) × (List (List Int)))) (s4 : Unit) => tb (t_config_covers config2 x3) fun r6 => if r6 then (ok (.rt true)) else (ok (.nx ()))) members1 ()) fun o => outS (β := Bool) o (fun g7 => ok g7) fun s5 => ok false
theorem s_in_config_set (members1 : (List ((List Int) × (List (List Int))))) (config2 : ((List Int) × (List (List Int)))) (n : Nat) : CallOk false (callF G (n + 3)) [false, false] "in_config_set" [(D.lst .fz (List.map (eP2 (eT D.int) (eT (eT D.int))) members1)), ((eP2 (eT D.int) (eT (eT D.int))) config2)] (t_in_config_set members1 config2) (fun r => (D.bl r)) (fun r => [(D.lst .fz (List.map (eP2 (eT D.int) (eT (eT D.int))) members1)), ((eP2 (eT D.int) (eT (eT D.int))) config2)]) := by
  refine def_ok (n := n + 2) tb_in_config_set rfl ?_
  unfold t_in_config_set
  refine w_start (A' := [some (D.lst .fz (List.map (eP2 (eT D.int) (eT (eT D.int))) members1)), some ((eP2 (eT D.int) (eT (eT D.int))) config2), none]) rfl (b' := [.for_ (.nm 2) (.ex (.v 0)) [.ite (.call "config_covers" [(.v 1), (.v 2)]) [.ret (.c (.bl true))] []],   .ret (.c (.bl false))]) rfl ?_
  refine ws_cons ?_
  refine w1_for ?_
  refine wi_ex ?_
  refine we_pe (pe_v rfl rfl) ?_
  refine ⟨_, _, rfl, ?_⟩
  refine kf_for (E := (eP2 (eT D.int) (eT (eT D.int)))) (σ := Unit) (γ := Bool) (fun s => [some (D.lst .fz (List.map (eP2 (eT D.int) (eT (eT D.int))) members1)), some ((eP2 (eT D.int) (eT (eT D.int))) config2), none]) (fun g => [none, none, none]) (fun g => (D.bl g)) rfl rfl (sub_l (sl_some (sl_some (sl_none sl_nil)))) (fun _ => rfl) (fun x3 s4 => ⟨_, rfl, ?_⟩) (fun g7 => ⟨_, rfl, ?_⟩) fun s5 => ⟨_, rfl, ?_⟩
  · refine ws_cons ?_
    refine w1_ite ?_
    refine we_call (io := [false, false]) io_config_covers ?_
    refine wl_cons ?_
    refine we_pe (pe_v rfl rfl) ?_
    refine ⟨rfl, ?_⟩
    refine wl_cons ?_
    refine we_pe (pe_v rfl rfl) ?_
    refine ⟨rfl, ?_⟩
    refine wl_nil ?_
    refine kc_t (s_config_covers config2 x3 (n + 0)) rfl rfl (fun _ => rfl) (fun _ => rfl) (fun h => nomatch h) fun r6 => ?_
    refine ⟨_, rfl, ?_⟩
    refine ki_c ?_ ?_
    · refine ws_cons ?_
      refine w1_ret ?_
      refine we_pe pe_c ?_
      refine ⟨_, _, rfl, ?_⟩
      refine ks_r ?_
      refine ks_r ?_
      exact qf_rt (g := true) rfl rfl (sub_l (sl_none (sl_none (sl_none sl_nil))))
    · refine ws_nil ?_
      refine ks_n ?_
      refine ws_nil ?_
      exact qf_nx (s := ()) rfl (sub_l (sl_some (sl_some (sl_none sl_nil))))
  · refine ks_r ?_
    exact qd_rt (a := g7) rfl (io_f (io_f io_nil))
  refine ks_n ?_
  refine ws_cons ?_
  refine w1_ret ?_
  refine we_pe pe_c ?_
  refine ⟨_, _, rfl, ?_⟩
  refine ks_r ?_
  exact qd_rt (a := false) rfl (io_f (io_f io_nil))

def t_law (script1 : (List Int)) : R (Bool) := tb (t__law_draws script1 (200 : Int)) fun r2 => tb (t__law_take r2 (2 : Int)) fun r3 => tb (ok ((1 : Int) + r3.1)) fun places4 => tb (t__law_take r3.2 (3 : Int)) fun r5 => tb (rngT 0 r5.1) fun xs6 => tb (mapS (fun (x7 : Int) (s8 : (List Int)) => tb (t__law_take s8 (3 : Int)) fun r10 => ok (some ((1 : Int) + r10.1), r10.2)) xs6 r5.2) fun p9 => tb (t__law_take p9.2 (7 : Int)) fun r11 => tb (rngT 0 r11.1) fun xs12 => tb (mapS (fun (x13 : Int) (s14 : (List Int)) => tb (t__law_config s14 places4 p9.1 (2 : Int) (4 : Int)) fun r16 => ok (some r16.1, r16.2)) xs12 r11.2) fun p15 => tb (if (decide ((0 : Int) < (List.length p15.1 : Int))) then (tb (t__law_take p15.2 (2 : Int)) fun r19 => ok ((decide (r19.1 = (0 : Int))), r19.2)) else ok (false, p15.2)) fun p18 => tb (if p18.1 then (tb (t__law_take p18.2 (List.length p15.1 : Int)) fun r23 => tb (ixT p15.1 r23.1) fun x24 => tb (appT p15.1 x24) fun members25 => ok (r23.2, members25)) else (ok (p18.2, p15.1))) fun (s26 : (List Int) × (List ((List Int) × (List (List Int))))) => tb (t__law_config s26.1 places4 p9.1 (3 : Int) (6 : Int)) fun r27 => tb (t__law_word r27.2 (3 : Int) (4 : Int)) fun r28 => tb (t__law_word r28.2 (3 : Int) (7 : Int)) fun r29 => tb (t_is_within r28.1 r29.1) fun r30 => tb (if (!true) then ok (true, ()) else (tb (t__law_subword r28.1 r29.1) fun r33 => ok ((!(decide (r30 = r33))), ()))) fun p32 => if p32.1 then (ok false) else (tb (forT (fun (x34 : ((List Int) × (List (List Int)))) (s35 : Unit) => tb (t_config_covers r27.1 x34) fun r37 => tb (if (!true) then ok (true, ()) else (tb (t__law_config_covers r27.1 x34) fun r40 => ok ((!(decide (r37 = r40))), ()))) fun p39 => if p39.1 then (ok (.rt false)) else (ok (.nx ()))) s26.2 ()) fun o => outS (β := Bool) o (fun g41 => ok g41) fun s36 => tb (t_in_config_set s26.2 r27.1) fun r42 => tb (if (!true) then ok (true, ()) else (tb (t__law_config_inside s26.2 r27.1) fun r45 => ok ((!(decide (r42 = r45))), ()))) fun p44 => if p44.1 then (ok false) else (tb (t_config_basis s26.2) fun r46 => tb (if (decide (s26.2 = s26.2)) then (tb (t__law_config_least s26.2) fun r49 => ok ((decide (r46 = r49)), ())) else ok (false, ())) fun p48 => ok p48.1))
theorem s_law (script1 : (List Int)) (n : Nat) : CallOk false (callF G (n + 4)) [false] "law" [(D.lst .fz (List.map D.int script1))] (t_law script1) (fun r => (D.bl r)) (fun r => [(D.lst .fz (List.map D.int script1))]) := by
  refine def_ok (n := n + 3) tb_law rfl ?_
  unfold t_law
  refine w_start (A' := [some (D.lst .fz (List.map D.int script1)), none, none, none, none, none, none, none, none, none, none, none, none, none, none]) rfl (b' := [.set 1 (.call "_law_draws" [(.v 0), (.c (.int 200))]),   .set 2 (.o2 .add (.c (.int 1)) (.call "_law_take" [(.v 1), (.c (.int 2))])),   .set 3 (.comp false [4] (.o2 .add (.c (.int 1)) (.call "_law_take" [(.v 1), (.c (.int 3))])) (.nm 4) (.r1 (.call "_law_take" [(.v 1), (.c (.int 3))])) none),   .set 5 (.comp false [4] (.call "_law_config" [(.v 1), (.v 2), (.v 3), (.c (.int 2)), (.c (.int 4))]) (.nm 4) (.r1 (.call "_law_take" [(.v 1), (.c (.int 7))])) none),   .ite (.and_ (.o2 .gt (.o1 .len (.v 5)) (.c (.int 0))) (.o2 .eq (.call "_law_take" [(.v 1), (.c (.int 2))]) (.c (.int 0)))) [.ex (.mu .append (.v 5) [(.o2 .ix (.v 5) (.call "_law_take" [(.v 1), (.o1 .len (.v 5))]))])] [],   .set 6 (.call "_law_config" [(.v 1), (.v 2), (.v 3), (.c (.int 3)), (.c (.int 6))]),   .set 7 (.call "_law_word" [(.v 1), (.c (.int 3)), (.c (.int 4))]),   .set 8 (.call "_law_word" [(.v 1), (.c (.int 3)), (.c (.int 7))]),   .set 9 (.call "is_within" [(.v 7), (.v 8)]),   .ite (.or_ (.not_ (.o1 (.isinst "bool") (.v 9))) (.o2 .ne (.v 9) (.call "_law_subword" [(.v 7), (.v 8)]))) [.ret (.c (.bl false))] [],   .for_ (.nm 10) (.ex (.v 5)) [.set 11 (.call "config_covers" [(.v 6), (.v 10)]), .ite (.or_ (.not_ (.o1 (.isinst "bool") (.v 11))) (.o2 .ne (.v 11) (.call "_law_config_covers" [(.v 6), (.v 10)]))) [.ret (.c (.bl false))] []],   .set 12 (.o1 .list_ (.v 5)),   .set 13 (.call "in_config_set" [(.v 12), (.v 6)]),   .ite (.or_ (.not_ (.o1 (.isinst "bool") (.v 13))) (.o2 .ne (.v 13) (.call "_law_config_inside" [(.v 5), (.v 6)]))) [.ret (.c (.bl false))] [],   .set 14 (.call "config_basis" [(.v 12)]),   .ret (.and_ (.o2 .eq (.v 12) (.v 5)) (.and_ (.o1 (.isinst "list") (.v 14)) (.o2 .eq (.v 14) (.call "_law_config_least" [(.v 5)]))))]) rfl ?_
  refine ws_cons ?_
  refine w1_set ?_
  refine we_call (io := [false, false]) io__law_draws ?_
  refine wl_cons ?_
  refine we_pe (pe_v rfl rfl) ?_
  refine ⟨rfl, ?_⟩
  refine wl_cons ?_
  refine we_pe pe_c ?_
  refine ⟨rfl, ?_⟩
  refine wl_nil ?_
  refine kc_t (s__law_draws script1 (200 : Int) (n + 2)) rfl rfl (fun _ => rfl) (fun _ => rfl) (fun h => nomatch h) fun r2 => ?_
  refine ⟨_, _, rfl, ?_⟩
  refine ks_n ?_
  refine ws_cons ?_
  refine w1_set ?_
  refine we_o2 ?_
  refine we_pe pe_c ?_
  refine ⟨rfl, ?_⟩
  refine we_call (io := [true, false]) io__law_take ?_
  refine wl_cons ?_
  refine we_va rfl rfl ?_
  refine ⟨rfl, ?_⟩
  refine wl_cons ?_
  refine we_pe pe_c ?_
  refine ⟨rfl, ?_⟩
  refine wl_nil ?_
  refine kc_t (s__law_take r2 (2 : Int) (n + 2)) rfl rfl (fun _ => rfl) (fun _ => rfl) (fun h => nomatch h) fun r3 => ?_
  refine k2_p rfl rfl rfl ?_
  refine ⟨_, _, rfl, ?_⟩
  refine w_let (P := fun x m => KS _ _ _ (List.set _ _ (some (D.int x))) m _) ?_
  intro places4
  refine ks_n ?_
  refine ws_cons ?_
  refine w1_set ?_
  refine we_comp ?_
  refine wi_r1 ?_
  refine we_call (io := [true, false]) io__law_take ?_
  refine wl_cons ?_
  refine we_va rfl rfl ?_
  refine ⟨rfl, ?_⟩
  refine wl_cons ?_
  refine we_pe pe_c ?_
  refine ⟨rfl, ?_⟩
  refine wl_nil ?_
  refine kc_t (s__law_take r3.2 (3 : Int) (n + 2)) rfl rfl (fun _ => rfl) (fun _ => rfl) (fun h => nomatch h) fun r5 => ?_
  refine ⟨_, _, rfl, rfl, fun xs6 => ?_⟩
  refine kco (E := D.int) (σ := (List Int)) (γ := Int) D.int (fun s => [some (D.lst .fz (List.map D.int script1)), some (D.lst .ow (List.map D.int s)), some (D.int places4), none, none, none, none, none, none, none, none, none, none, none, none]) rfl rfl (sub_l (sl_some (sl_some (sl_some (sl_none (sl_none (sl_none (sl_none (sl_none (sl_none (sl_none (sl_none (sl_none (sl_none (sl_none (sl_none sl_nil)))))))))))))))) (fun _ => rfl) (fun x7 s8 => ?_) fun p9 => ⟨_, rfl, ?_⟩
  · refine tu_n rfl ?_
    refine we_o2 ?_
    refine we_pe pe_c ?_
    refine ⟨rfl, ?_⟩
    refine we_call (io := [true, false]) io__law_take ?_
    refine wl_cons ?_
    refine we_va rfl rfl ?_
    refine ⟨rfl, ?_⟩
    refine wl_cons ?_
    refine we_pe pe_c ?_
    refine ⟨rfl, ?_⟩
    refine wl_nil ?_
    refine kc_t (s__law_take s8 (3 : Int) (n + 2)) rfl rfl (fun _ => rfl) (fun _ => rfl) (fun h => nomatch h) fun r10 => ?_
    refine k2_p rfl rfl rfl ?_
    exact ⟨_, _, rfl, some ((1 : Int) + r10.1), r10.2, rfl, rfl, (sub_l (sl_some (sl_some (sl_some (sl_none (sl_none (sl_none (sl_none (sl_none (sl_none (sl_none (sl_none (sl_none (sl_none (sl_none (sl_none sl_nil))))))))))))))))⟩
  refine ⟨_, _, rfl, ?_⟩
  refine ks_n ?_
  refine ws_cons ?_
  refine w1_set ?_
  refine we_comp ?_
  refine wi_r1 ?_
  refine we_call (io := [true, false]) io__law_take ?_
  refine wl_cons ?_
  refine we_va rfl rfl ?_
  refine ⟨rfl, ?_⟩
  refine wl_cons ?_
  refine we_pe pe_c ?_
  refine ⟨rfl, ?_⟩
  refine wl_nil ?_
  refine kc_t (s__law_take p9.2 (7 : Int) (n + 2)) rfl rfl (fun _ => rfl) (fun _ => rfl) (fun h => nomatch h) fun r11 => ?_
  refine ⟨_, _, rfl, rfl, fun xs12 => ?_⟩
  refine kco (E := D.int) (σ := (List Int)) (γ := ((List Int) × (List (List Int)))) (eP2 (eT D.int) (eT (eT D.int))) (fun s => [some (D.lst .fz (List.map D.int script1)), some (D.lst .ow (List.map D.int s)), some (D.int places4), some (D.lst .ow (List.map D.int p9.1)), none, none, none, none, none, none, none, none, none, none, none]) rfl rfl (sub_l (sl_some (sl_some (sl_some (sl_some (sl_none (sl_none (sl_none (sl_none (sl_none (sl_none (sl_none (sl_none (sl_none (sl_none (sl_none sl_nil)))))))))))))))) (fun _ => rfl) (fun x13 s14 => ?_) fun p15 => ⟨_, rfl, ?_⟩
  · refine tu_n rfl ?_
    refine we_call (io := [true, false, false, false, false]) io__law_config ?_
    refine wl_cons ?_
    refine we_va rfl rfl ?_
    refine ⟨rfl, ?_⟩
    refine wl_cons ?_
    refine we_pe (pe_v rfl rfl) ?_
    refine ⟨rfl, ?_⟩
    refine wl_cons ?_
    refine we_va rfl rfl ?_
    refine ⟨rfl, ?_⟩
    refine wl_cons ?_
    refine we_pe pe_c ?_
    refine ⟨rfl, ?_⟩
    refine wl_cons ?_
    refine we_pe pe_c ?_
    refine ⟨rfl, ?_⟩
    refine wl_nil ?_
    refine kc_t (s__law_config s14 places4 p9.1 (2 : Int) (4 : Int) (n + 0)) rfl rfl (fun _ => rfl) (fun _ => hzf (fl_p2 (fl_tup fun _ => rfl) (fl_tup fun _ => (fl_tup fun _ => rfl))) (fi_t (fl_lst fun _ => rfl) (fi_f (fi_f (fi_f (fi_f fi_nil)))))) (fun h => nomatch h) fun r16 => ?_
    exact ⟨_, _, rfl, some r16.1, r16.2, rfl, rfl, (sub_l (sl_some (sl_some (sl_some (sl_some (sl_none (sl_none (sl_none (sl_none (sl_none (sl_none (sl_none (sl_none (sl_none (sl_none (sl_none sl_nil))))))))))))))))⟩
  refine ⟨_, _, rfl, ?_⟩
  refine ks_n ?_
  refine ws_cons ?_
  refine w1_ite ?_
  refine we_and_e (σ := (List Int)) (fun s => [some (D.lst .fz (List.map D.int script1)), some (D.lst .ow (List.map D.int s)), some (D.int places4), some (D.lst .ow (List.map D.int p9.1)), none, some (D.lst .ow (List.map (eP2 (eT D.int) (eT (eT D.int))) p15.1)), none, none, none, none, none, none, none, none, none]) ?_
  refine we_pe (pe_o2 (pr_e (pe_lenl (pr_v rfl))) (pr_e pe_c) rfl) ?_
  refine ⟨_, _, p15.2, _, rfl, rfl, (sub_l (sl_some (sl_some (sl_some (sl_some (sl_none (sl_some (sl_none (sl_none (sl_none (sl_none (sl_none (sl_none (sl_none (sl_none (sl_none sl_nil)))))))))))))))), ?_, fun p18 => ?_⟩
  · refine we_o2 ?_
    refine we_call (io := [true, false]) io__law_take ?_
    refine wl_cons ?_
    refine we_va rfl rfl ?_
    refine ⟨rfl, ?_⟩
    refine wl_cons ?_
    refine we_pe pe_c ?_
    refine ⟨rfl, ?_⟩
    refine wl_nil ?_
    refine kc_t (s__law_take p15.2 (2 : Int) (n + 2)) rfl rfl (fun _ => rfl) (fun _ => rfl) (fun h => nomatch h) fun r19 => ?_
    refine ⟨rfl, ?_⟩
    refine we_pe pe_c ?_
    refine k2_p rfl rfl (o2_eq (eqD_of (x := r19.1) (y := (0 : Int)) py_int py_int (by decide))) ?_
    exact ⟨_, r19.2, rfl, rfl, (sub_l (sl_some (sl_some (sl_some (sl_some (sl_none (sl_some (sl_none (sl_none (sl_none (sl_none (sl_none (sl_none (sl_none (sl_none (sl_none sl_nil))))))))))))))))⟩
  refine ⟨_, rfl, ?_⟩
  refine ki_j (σ := (List Int) × (List ((List Int) × (List (List Int))))) (fun s => [some (D.lst .fz (List.map D.int script1)), some (D.lst .ow (List.map D.int s.1)), some (D.int places4), some (D.lst .ow (List.map D.int p9.1)), none, some (D.lst .ow (List.map (eP2 (eT D.int) (eT (eT D.int))) s.2)), none, none, none, none, none, none, none, none, none]) ?_ ?_ fun s26 => ?_
  · refine ws_cons ?_
    refine w1_ex ?_
    refine we_mu rfl ?_
    refine wl_cons ?_
    refine we_o2 ?_
    refine we_va rfl rfl ?_
    refine ⟨rfl, ?_⟩
    refine we_call (io := [true, false]) io__law_take ?_
    refine wl_cons ?_
    refine we_va rfl rfl ?_
    refine ⟨rfl, ?_⟩
    refine wl_cons ?_
    refine we_pe (pe_lenl (pr_v rfl)) ?_
    refine ⟨rfl, ?_⟩
    refine wl_nil ?_
    refine kc_t (s__law_take p18.2 (List.length p15.1 : Int) (n + 2)) rfl rfl (fun _ => rfl) (fun _ => rfl) (fun h => nomatch h) fun r23 => ?_
    refine k_ixl rfl rfl fun x24 => ?_
    refine ⟨rfl, ?_⟩
    refine wl_nil ?_
    refine km_app (x := x24) (E := (eP2 (eT D.int) (eT (eT D.int)))) rfl rfl rfl fun members25 => ?_
    refine ks_n ?_
    refine ws_nil ?_
    exact ⟨(r23.2, members25), rfl, rfl, (sub_l (sl_some (sl_some (sl_some (sl_some (sl_none (sl_some (sl_none (sl_none (sl_none (sl_none (sl_none (sl_none (sl_none (sl_none (sl_none sl_nil))))))))))))))))⟩
  · refine ws_nil ?_
    exact ⟨(p18.2, p15.1), rfl, rfl, (sub_l (sl_some (sl_some (sl_some (sl_some (sl_none (sl_some (sl_none (sl_none (sl_none (sl_none (sl_none (sl_none (sl_none (sl_none (sl_none sl_nil))))))))))))))))⟩
  refine ks_n ?_
  refine ws_cons ?_
  refine w1_set ?_
  refine we_call (io := [true, false, false, false, false]) io__law_config ?_
  refine wl_cons ?_
  refine we_va rfl rfl ?_
  refine ⟨rfl, ?_⟩
  refine wl_cons ?_
  refine we_pe (pe_v rfl rfl) ?_
  refine ⟨rfl, ?_⟩
  refine wl_cons ?_
  refine we_va rfl rfl ?_
  refine ⟨rfl, ?_⟩
  refine wl_cons ?_
  refine we_pe pe_c ?_
  refine ⟨rfl, ?_⟩
  refine wl_cons ?_
  refine we_pe pe_c ?_
  refine ⟨rfl, ?_⟩
  refine wl_nil ?_
  refine kc_t (s__law_config s26.1 places4 p9.1 (3 : Int) (6 : Int) (n + 0)) rfl rfl (fun _ => rfl) (fun _ => hzf (fl_p2 (fl_tup fun _ => rfl) (fl_tup fun _ => (fl_tup fun _ => rfl))) (fi_t (fl_lst fun _ => rfl) (fi_f (fi_f (fi_f (fi_f fi_nil)))))) (fun h => nomatch h) fun r27 => ?_
  refine ⟨_, _, rfl, ?_⟩
  refine ks_n ?_
  refine ws_cons ?_
  refine w1_set ?_
  refine we_call (io := [true, false, false]) io__law_word ?_
  refine wl_cons ?_
  refine we_va rfl rfl ?_
  refine ⟨rfl, ?_⟩
  refine wl_cons ?_
  refine we_pe pe_c ?_
  refine ⟨rfl, ?_⟩
  refine wl_cons ?_
  refine we_pe pe_c ?_
  refine ⟨rfl, ?_⟩
  refine wl_nil ?_
  refine kc_t (s__law_word r27.2 (3 : Int) (4 : Int) (n + 1)) rfl rfl (fun _ => rfl) (fun _ => rfl) (fun h => nomatch h) fun r28 => ?_
  refine ⟨_, _, rfl, ?_⟩
  refine ks_n ?_
  refine ws_cons ?_
  refine w1_set ?_
  refine we_call (io := [true, false, false]) io__law_word ?_
  refine wl_cons ?_
  refine we_va rfl rfl ?_
  refine ⟨rfl, ?_⟩
  refine wl_cons ?_
  refine we_pe pe_c ?_
  refine ⟨rfl, ?_⟩
  refine wl_cons ?_
  refine we_pe pe_c ?_
  refine ⟨rfl, ?_⟩
  refine wl_nil ?_
  refine kc_t (s__law_word r28.2 (3 : Int) (7 : Int) (n + 1)) rfl rfl (fun _ => rfl) (fun _ => rfl) (fun h => nomatch h) fun r29 => ?_
  refine ⟨_, _, rfl, ?_⟩
  refine ks_n ?_
  refine ws_cons ?_
  refine w1_set ?_
  refine we_call (io := [false, false]) io_is_within ?_
  refine wl_cons ?_
  refine we_pe (pe_v rfl rfl) ?_
  refine ⟨rfl, ?_⟩
  refine wl_cons ?_
  refine we_pe (pe_v rfl rfl) ?_
  refine ⟨rfl, ?_⟩
  refine wl_nil ?_
  refine kc_t (s_is_within r28.1 r29.1 (n + 2)) rfl rfl (fun _ => rfl) (fun _ => rfl) (fun h => nomatch h) fun r30 => ?_
  refine ⟨_, _, rfl, ?_⟩
  refine ks_n ?_
  refine ws_cons ?_
  refine w1_ite ?_
  refine we_or_e (σ := Unit) (fun s => [some (D.lst .fz (List.map D.int script1)), some (D.lst .ow (List.map D.int r29.2)), some (D.int places4), some (D.lst .ow (List.map D.int p9.1)), none, some (D.lst .ow (List.map (eP2 (eT D.int) (eT (eT D.int))) s26.2)), some ((eP2 (eT D.int) (eT (eT D.int))) r27.1), some (D.tup (List.map D.int r28.1)), some (D.tup (List.map D.int r29.1)), some (D.bl r30), none, none, none, none, none]) ?_
  refine we_pe (pe_not (pe_o1 (e' := .bl true) (pr_v rfl) rfl)) ?_
  refine ⟨_, _, (), _, rfl, rfl, (sub_l (sl_some (sl_some (sl_some (sl_some (sl_none (sl_some (sl_some (sl_some (sl_some (sl_some (sl_none (sl_none (sl_none (sl_none (sl_none sl_nil)))))))))))))))), ?_, fun p32 => ?_⟩
  · refine we_o2 ?_
    refine we_pe (pe_v rfl rfl) ?_
    refine ⟨rfl, ?_⟩
    refine we_call (io := [false, false]) io__law_subword ?_
    refine wl_cons ?_
    refine we_pe (pe_v rfl rfl) ?_
    refine ⟨rfl, ?_⟩
    refine wl_cons ?_
    refine we_pe (pe_v rfl rfl) ?_
    refine ⟨rfl, ?_⟩
    refine wl_nil ?_
    refine kc_t (s__law_subword r28.1 r29.1 (n + 2)) rfl rfl (fun _ => rfl) (fun _ => rfl) (fun h => nomatch h) fun r33 => ?_
    refine k2_p rfl rfl (o2_ne (eqD_of (x := r30) (y := r33) py_bool py_bool (by decide))) ?_
    exact ⟨_, (), rfl, rfl, (sub_l (sl_some (sl_some (sl_some (sl_some (sl_none (sl_some (sl_some (sl_some (sl_some (sl_some (sl_none (sl_none (sl_none (sl_none (sl_none sl_nil))))))))))))))))⟩
  refine ⟨_, rfl, ?_⟩
  refine ki_c ?_ ?_
  · refine ws_cons ?_
    refine w1_ret ?_
    refine we_pe pe_c ?_
    refine ⟨_, _, rfl, ?_⟩
    refine ks_r ?_
    refine ks_r ?_
    exact qd_rt (a := false) rfl (io_f io_nil)
  · refine ws_nil ?_
    refine ks_n ?_
    refine ws_cons ?_
    refine w1_for ?_
    refine wi_ex ?_
    refine we_va rfl rfl ?_
    refine ⟨_, _, rfl, ?_⟩
    refine kf_for (E := (eP2 (eT D.int) (eT (eT D.int)))) (σ := Unit) (γ := Bool) (fun s => [some (D.lst .fz (List.map D.int script1)), some (D.lst .ow (List.map D.int r29.2)), some (D.int places4), some (D.lst .ow (List.map D.int p9.1)), none, some (D.lst .lk (List.map (eP2 (eT D.int) (eT (eT D.int))) s26.2)), some ((eP2 (eT D.int) (eT (eT D.int))) r27.1), some (D.tup (List.map D.int r28.1)), some (D.tup (List.map D.int r29.1)), some (D.bl r30), none, none, none, none, none]) (fun g => [none, none, none, none, none, some (D.lst .lk (List.map (eP2 (eT D.int) (eT (eT D.int))) s26.2)), none, none, none, none, none, none, none, none, none]) (fun g => (D.bl g)) rfl rfl (sub_l (sl_some (sl_some (sl_some (sl_some (sl_none (sl_some (sl_some (sl_some (sl_some (sl_some (sl_none (sl_none (sl_none (sl_none (sl_none sl_nil)))))))))))))))) (fun _ => lk_of rfl) (fun x34 s35 => ⟨_, rfl, ?_⟩) (fun g41 => ⟨_, rfl, ?_⟩) fun s36 => ⟨_, rfl, ?_⟩
    · refine ws_cons ?_
      refine w1_set ?_
      refine we_call (io := [false, false]) io_config_covers ?_
      refine wl_cons ?_
      refine we_pe (pe_v rfl rfl) ?_
      refine ⟨rfl, ?_⟩
      refine wl_cons ?_
      refine we_pe (pe_v rfl rfl) ?_
      refine ⟨rfl, ?_⟩
      refine wl_nil ?_
      refine kc_t (s_config_covers r27.1 x34 (n + 1)) rfl rfl (fun _ => rfl) (fun _ => rfl) (fun h => nomatch h) fun r37 => ?_
      refine ⟨_, _, rfl, ?_⟩
      refine ks_n ?_
      refine ws_cons ?_
      refine w1_ite ?_
      refine we_or_e (σ := Unit) (fun s => [some (D.lst .fz (List.map D.int script1)), some (D.lst .ow (List.map D.int r29.2)), some (D.int places4), some (D.lst .ow (List.map D.int p9.1)), none, some (D.lst .lk (List.map (eP2 (eT D.int) (eT (eT D.int))) s26.2)), some ((eP2 (eT D.int) (eT (eT D.int))) r27.1), some (D.tup (List.map D.int r28.1)), some (D.tup (List.map D.int r29.1)), some (D.bl r30), some ((eP2 (eT D.int) (eT (eT D.int))) x34), some (D.bl r37), none, none, none]) ?_
      refine we_pe (pe_not (pe_o1 (e' := .bl true) (pr_v rfl) rfl)) ?_
      refine ⟨_, _, (), _, rfl, rfl, (sub_l (sl_some (sl_some (sl_some (sl_some (sl_none (sl_some (sl_some (sl_some (sl_some (sl_some (sl_some (sl_some (sl_none (sl_none (sl_none sl_nil)))))))))))))))), ?_, fun p39 => ?_⟩
      · refine we_o2 ?_
        refine we_pe (pe_v rfl rfl) ?_
        refine ⟨rfl, ?_⟩
        refine we_call (io := [false, false]) io__law_config_covers ?_
        refine wl_cons ?_
        refine we_pe (pe_v rfl rfl) ?_
        refine ⟨rfl, ?_⟩
        refine wl_cons ?_
        refine we_pe (pe_v rfl rfl) ?_
        refine ⟨rfl, ?_⟩
        refine wl_nil ?_
        refine kc_t (s__law_config_covers r27.1 x34 (n + 1)) rfl rfl (fun _ => rfl) (fun _ => rfl) (fun h => nomatch h) fun r40 => ?_
        refine k2_p rfl rfl (o2_ne (eqD_of (x := r37) (y := r40) py_bool py_bool (by decide))) ?_
        exact ⟨_, (), rfl, rfl, (sub_l (sl_some (sl_some (sl_some (sl_some (sl_none (sl_some (sl_some (sl_some (sl_some (sl_some (sl_some (sl_some (sl_none (sl_none (sl_none sl_nil))))))))))))))))⟩
      refine ⟨_, rfl, ?_⟩
      refine ki_c ?_ ?_
      · refine ws_cons ?_
        refine w1_ret ?_
        refine we_pe pe_c ?_
        refine ⟨_, _, rfl, ?_⟩
        refine ks_r ?_
        refine ks_r ?_
        exact qf_rt (g := false) rfl rfl (sub_l (sl_none (sl_none (sl_none (sl_none (sl_none (sl_some (sl_none (sl_none (sl_none (sl_none (sl_none (sl_none (sl_none (sl_none (sl_none sl_nil))))))))))))))))
      · refine ws_nil ?_
        refine ks_n ?_
        refine ws_nil ?_
        exact qf_nx (s := ()) rfl (sub_l (sl_some (sl_some (sl_some (sl_some (sl_none (sl_some (sl_some (sl_some (sl_some (sl_some (sl_none (sl_none (sl_none (sl_none (sl_none sl_nil))))))))))))))))
    · refine ks_r ?_
      exact qd_rt (a := g41) rfl (io_f io_nil)
    refine ks_n ?_
    refine ws_cons ?_
    refine w1_set ?_
    refine we_pe (pe_o1 (pr_v rfl) rfl) ?_
    refine ⟨_, _, rfl, ?_⟩
    refine ks_n ?_
    refine ws_cons ?_
    refine w1_set ?_
    refine we_call (io := [false, false]) io_in_config_set ?_
    refine wl_cons ?_
    refine we_va rfl rfl ?_
    refine ⟨rfl, ?_⟩
    refine wl_cons ?_
    refine we_pe (pe_v rfl rfl) ?_
    refine ⟨rfl, ?_⟩
    refine wl_nil ?_
    refine kc_t (s_in_config_set s26.2 r27.1 (n + 0)) rfl rfl (fun _ => rfl) (fun _ => hzf rfl (fi_f (fi_f fi_nil))) (fun h => nomatch h) fun r42 => ?_
    refine ⟨_, _, rfl, ?_⟩
    refine ks_n ?_
    refine ws_cons ?_
    refine w1_ite ?_
    refine we_or_e (σ := Unit) (fun s => [some (D.lst .fz (List.map D.int script1)), some (D.lst .ow (List.map D.int r29.2)), some (D.int places4), some (D.lst .ow (List.map D.int p9.1)), none, some (D.lst .ow (List.map (eP2 (eT D.int) (eT (eT D.int))) s26.2)), some ((eP2 (eT D.int) (eT (eT D.int))) r27.1), some (D.tup (List.map D.int r28.1)), some (D.tup (List.map D.int r29.1)), some (D.bl r30), none, none, some (D.lst .ow (List.map (eP2 (eT D.int) (eT (eT D.int))) s26.2)), some (D.bl r42), none]) ?_
    refine we_pe (pe_not (pe_o1 (e' := .bl true) (pr_v rfl) rfl)) ?_
    refine ⟨_, _, (), _, rfl, rfl, (sub_l (sl_some (sl_some (sl_some (sl_some (sl_none (sl_some (sl_some (sl_some (sl_some (sl_some (sl_none (sl_none (sl_some (sl_some (sl_none sl_nil)))))))))))))))), ?_, fun p44 => ?_⟩
    · refine we_o2 ?_
      refine we_pe (pe_v rfl rfl) ?_
      refine ⟨rfl, ?_⟩
      refine we_call (io := [false, false]) io__law_config_inside ?_
      refine wl_cons ?_
      refine we_va rfl rfl ?_
      refine ⟨rfl, ?_⟩
      refine wl_cons ?_
      refine we_pe (pe_v rfl rfl) ?_
      refine ⟨rfl, ?_⟩
      refine wl_nil ?_
      refine kc_t (s__law_config_inside s26.2 r27.1 (n + 0)) rfl rfl (fun _ => rfl) (fun _ => hzf rfl (fi_f (fi_f fi_nil))) (fun h => nomatch h) fun r45 => ?_
      refine k2_p rfl rfl (o2_ne (eqD_of (x := r42) (y := r45) py_bool py_bool (by decide))) ?_
      exact ⟨_, (), rfl, rfl, (sub_l (sl_some (sl_some (sl_some (sl_some (sl_none (sl_some (sl_some (sl_some (sl_some (sl_some (sl_none (sl_none (sl_some (sl_some (sl_none sl_nil))))))))))))))))⟩
    refine ⟨_, rfl, ?_⟩
    refine ki_c ?_ ?_
    · refine ws_cons ?_
      refine w1_ret ?_
      refine we_pe pe_c ?_
      refine ⟨_, _, rfl, ?_⟩
      refine ks_r ?_
      refine ks_r ?_
      exact qd_rt (a := false) rfl (io_f io_nil)
    · refine ws_nil ?_
      refine ks_n ?_
      refine ws_cons ?_
      refine w1_set ?_
      refine we_call (io := [false]) io_config_basis ?_
      refine wl_cons ?_
      refine we_va rfl rfl ?_
      refine ⟨rfl, ?_⟩
      refine wl_nil ?_
      refine kc_t (s_config_basis s26.2 (n + 0)) rfl rfl (fun _ => rfl) (fun _ => hzf (fl_lst fun _ => (fl_p2 (fl_tup fun _ => rfl) (fl_tup fun _ => (fl_tup fun _ => rfl)))) (fi_f fi_nil)) (fun h => nomatch h) fun r46 => ?_
      refine ⟨_, _, rfl, ?_⟩
      refine ks_n ?_
      refine ws_cons ?_
      refine w1_ret ?_
      refine we_and_e (σ := Unit) (fun s => [some (D.lst .fz (List.map D.int script1)), some (D.lst .ow (List.map D.int r29.2)), some (D.int places4), some (D.lst .ow (List.map D.int p9.1)), none, some (D.lst .ow (List.map (eP2 (eT D.int) (eT (eT D.int))) s26.2)), some ((eP2 (eT D.int) (eT (eT D.int))) r27.1), some (D.tup (List.map D.int r28.1)), some (D.tup (List.map D.int r29.1)), some (D.bl r30), none, none, some (D.lst .ow (List.map (eP2 (eT D.int) (eT (eT D.int))) s26.2)), some (D.bl r42), some (D.lst .ow (List.map (eP2 (eT D.int) (eT (eT D.int))) r46))]) ?_
      refine we_pe (pe_eq (pr_v rfl) (pr_v rfl) (eqD_of (x := s26.2) (y := s26.2) (py_lst (o := .ow) (py_p2 (py_tup py_int) (py_tup (py_tup py_int)))) (py_lst (o := .ow) (py_p2 (py_tup py_int) (py_tup (py_tup py_int)))) (by decide))) ?_
      refine ⟨_, _, (), _, rfl, rfl, (sub_l (sl_some (sl_some (sl_some (sl_some (sl_none (sl_some (sl_some (sl_some (sl_some (sl_some (sl_none (sl_none (sl_some (sl_some (sl_some sl_nil)))))))))))))))), ?_, fun p48 => ?_⟩
      · refine we_andT (pe_o1 (e' := .bl true) (pr_v rfl) rfl) ?_
        refine we_o2 ?_
        refine we_va rfl rfl ?_
        refine ⟨rfl, ?_⟩
        refine we_call (io := [false]) io__law_config_least ?_
        refine wl_cons ?_
        refine we_va rfl rfl ?_
        refine ⟨rfl, ?_⟩
        refine wl_nil ?_
        refine kc_t (s__law_config_least s26.2 (n + 0)) rfl rfl (fun _ => rfl) (fun _ => hzf (fl_lst fun _ => (fl_p2 (fl_tup fun _ => rfl) (fl_tup fun _ => (fl_tup fun _ => rfl)))) (fi_f fi_nil)) (fun h => nomatch h) fun r49 => ?_
        refine k2_p rfl rfl (o2_eq (eqD_of (x := r46) (y := r49) (py_lst (o := .ow) (py_p2 (py_tup py_int) (py_tup (py_tup py_int)))) (py_lst (o := .ow) (py_p2 (py_tup py_int) (py_tup (py_tup py_int)))) (by decide))) ?_
        refine ⟨_, rfl, ?_⟩
        exact ⟨_, (), rfl, rfl, (sub_l (sl_some (sl_some (sl_some (sl_some (sl_none (sl_some (sl_some (sl_some (sl_some (sl_some (sl_none (sl_none (sl_some (sl_some (sl_some sl_nil))))))))))))))))⟩
      refine ⟨_, _, rfl, ?_⟩
      refine ks_r ?_
      exact qd_rt (a := p48.1) rfl (io_f io_nil)

end Cov.Sm

namespace Cov.Sm
open PySem
theorem take_ok (l : List Int) {k : Int} (hk : 0 < k) : Ok (t__law_take l k) fun p => 0 ≤ p.1 ∧ p.1 < k := by
  unfold t__law_take
  by_cases h : l = []
  · subst h
    exact ok_ok ⟨Int.le_refl 0, hk⟩
  · have hl : ¬ ((l.length : Int) = 0) := by have := List.length_pos_iff.mpr h; omega
    simp only [hl, decide_false, Bool.false_eq_true, if_false, pop_ok h, tb_ok, mod_ok hk]
    exact ok_ok ⟨Int.emod_nonneg _ (by omega), Int.emod_lt_of_pos _ hk⟩
theorem draws_ok (l : List Int) {k : Nat} (hk : k ≤ 1000) (hl : l.length ≤ 1000) : Ok (t__law_draws l (k : Int)) fun _ => True := by
  unfold t__law_draws
  obtain ⟨cs, e, h0, h1⟩ : ∃ cs : List Int, (if (decide ((l.length : Int) = 0)) = true then ok ([7] : List Int) else ok l) = ok cs ∧ 0 < cs.length ∧ cs.length ≤ 1000 := by
    by_cases h : l = []
    · subst h
      exact ⟨[7], rfl, by simp, by simp⟩
    · have hp := List.length_pos_iff.mpr h
      have hl' : ¬ ((l.length : Int) = 0) := by omega
      exact ⟨l, by simp only [hl', decide_false, Bool.false_eq_true, if_false], hp, hl⟩
  rw [e, tb_ok, rng_ok (by omega), tb_ok]
  refine ok_tb (P := fun _ => True) (ok_imp (foldT_ok (fun pre s => s.1.length = cs.length ∧ s.2.1.length = pre.length ∧ 0 ≤ s.2.2 ∧ s.2.2 < 2147483647) ⟨rfl, rfl, by simp, by simp⟩ ?_) fun _ _ => trivial) fun s _ => ok_ok trivial
  rintro pre x post ⟨c, fs, mx⟩ hs ⟨e1, e2, e3, e4⟩
  simp only at e1 e2 e3 e4 ⊢
  obtain ⟨j, hj, rfl⟩ : ∃ j : Nat, j < k ∧ x = (j : Int) := by
    have : x ∈ natsI k := by rw [hs]; simp
    obtain ⟨j, hj, e⟩ := List.mem_map.mp this
    exact ⟨j, List.mem_range.mp hj, e.symm⟩
  have hpre : pre.length < k := by
    have := congrArg List.length hs
    simp [natsI] at this
    omega
  have hpos : (0 : Int) < (c.length : Int) := by omega
  have hq : (j : Int) % (c.length : Int) = ((j % c.length : Nat) : Int) := by simp
  have hlt : j % c.length < c.length := Nat.mod_lt _ (by omega)
  rw [mod_ok hpos, tb_ok, hq, ix_ok hlt, tb_ok]
  generalize j % c.length = q at hlt
  generalize c[q] = v
  have hv := Int.emod_nonneg v (b := 1000003) (by omega)
  have hv2 := Int.emod_lt_of_pos v (b := 1000003) (by omega)
  rw [mul_ok (x := 31) (y := 16) (by omega) (by decide) (by omega), tb_ok, mod_ok (by omega), tb_ok, mul_ok (x := 20) (y := 17) (by omega) (by decide) (by omega), tb_ok, mul_ok (x := 10) (y := 13) (by omega) (by decide) (by omega), tb_ok, mod_ok (by omega), tb_ok]
  have hx := Int.emod_nonneg (mx * 48271 + v % 1000003 * 69621 + (j : Int) * 7919 + 11) (b := 2147483647) (by omega)
  have hx2 := Int.emod_lt_of_pos (mx * 48271 + v % 1000003 * 69621 + (j : Int) * 7919 + 11) (b := 2147483647) (by omega)
  generalize (mx * 48271 + v % 1000003 * 69621 + (j : Int) * 7919 + 11) % 2147483647 = mz at hx hx2 ⊢
  rw [mul_ok (x := 31) (y := 31) (by omega) (by omega) (by omega), tb_ok, mul_ok (x := 5) (y := 31) (by decide) (by omega) (by omega), tb_ok, mod_ok (by omega), tb_ok]
  have pw : powT 10 18 = ok (10 ^ 18) := by rw [powT, if_pos (by decide)]; rfl
  rw [pw, tb_ok]
  refine ok_tb (P := fun s : List Int × List Int => s.1.length = cs.length ∧ s.2.length = pre.length + 1) ?_ fun s h => ok_ok ⟨h.1, by rw [h.2]; simp, hx, hx2⟩
  refine ok_ite (fun _ => ?_) fun _ => ?_
  · rw [mod_ok (by omega), tb_ok, app_ok (by omega), tb_ok, fdiv_ok (by omega) (by omega), tb_ok, put_ok hlt, tb_ok]
    exact ok_ok ⟨by simp [e1], by simp [e2]⟩
  · rw [mod_ok (by omega), tb_ok, app_ok (by omega), tb_ok]
    exact ok_ok ⟨e1, by simp [e2]⟩
/-- numbers from low to high, n of them -/
structure Mk (n : Nat) (low high : Int) (t : List Int) : Prop where
  len : t.length = n
  lo : ∀ x ∈ t, low ≤ x
  hi : ∀ x ∈ t, x ≤ high
theorem marking_ok (l : List Int) {n : Nat} {k : Int} (hk : 0 ≤ k) (hn : n ≤ 1000) : Ok (t__law_marking l (n : Int) k) fun p => Mk n 0 k p.1 := by
  unfold t__law_marking
  rw [rng_ok (by omega), tb_ok]
  refine ok_tb (mapS_ok (fun _ => True) (fun _ y => 0 ≤ y ∧ y ≤ k) (small (by simp [natsI]; omega)) trivial fun x _ s _ => ?_) fun p h => ok_ok ⟨by rw [fa2_len h.2]; simp [natsI], fun x hx => ?_, fun x hx => ?_⟩
  · refine ok_tb (take_ok s (k := k + 1) (by omega)) fun p h => ok_ok ⟨trivial, _, rfl, h.1, by omega⟩
  · obtain ⟨_, _, h⟩ := fa2_mem h.2 hx; exact h.1
  · obtain ⟨_, _, h⟩ := fa2_mem h.2 hx; exact h.2
/-- the search through the places -/
theorem place_loop {xs ys : List Int} (h : xs.length ≤ ys.length) (hz : xs.length ≤ 100000) : (tb (rngT 0 (xs.length : Int)) fun xs3 => tb (forT (fun (x4 : Int) (_ : Unit) => tb (ixT xs x4) fun x7 => tb (ixT ys x4) fun x8 => if (decide (x7 < x8)) then (ok (.rt false)) else (ok (.nx ()))) xs3 ()) fun o => outS (β := Bool) o (fun g9 => ok g9) fun _ => ok true) = ok (covB xs ys) := by
  rw [rng_ok hz, tb_ok, forT_any (fun x : Int => decide (xs.getD x.toNat 0 < ys.getD x.toNat 0)) false, outS_if']
  · cases hc : covB xs ys with
    | true =>
      rw [if_neg]
      intro hh
      obtain ⟨x, hx, hlt⟩ := List.any_eq_true.mp hh
      obtain ⟨k, hk, rfl⟩ := List.mem_map.mp hx
      have h1 := List.all_eq_true.mp hc k hk
      simp only [decide_eq_true_eq, Int.toNat_natCast] at hlt h1
      omega
    | false =>
      rw [if_pos]
      obtain ⟨k, hk, h1⟩ := List.all_eq_false.mp hc
      refine List.any_eq_true.mpr ⟨(k : Int), List.mem_map.mpr ⟨k, hk, rfl⟩, ?_⟩
      simp only [decide_eq_true_eq, Int.toNat_natCast] at h1 ⊢
      omega
  · intro x hx
    obtain ⟨k, hk, rfl⟩ := List.mem_map.mp hx
    have hk := List.mem_range.mp hk
    rw [ix_getD hk, tb_ok, ix_getD (Nat.lt_of_lt_of_le hk h), tb_ok]
    rfl
theorem lcov_eq {xs ys : List Int} (h : xs.length ≤ ys.length) (hz : xs.length ≤ 100000) : t__law_covers xs ys = ok (covB xs ys) := by
  unfold t__law_covers
  exact place_loop h hz

theorem sset_any {ms : List (List Int)} (h : ∀ t ∈ ms, 1 ≤ t.length) (h64 : (sortT ms).length ≤ 4095) : ssetT ms = ok (sortT ms) := by
  unfold ssetT
  rw [if_pos]
  simp only [Bool.and_eq_true, decide_eq_true_eq, List.all_eq_true]
  exact ⟨h64, h⟩
theorem sset_ok {d : Nat} {ms : List (List Int)} (g : Good d ms) (hd : 1 ≤ d) (h64 : ms.length ≤ 4095) : ssetT ms = ok (sortT ms) := sset_any (fun t ht => by rw [g.len t ht]; exact hd) (Nat.le_trans sortT_len h64)
theorem cov_eq {xs ys : List Int} (h : xs.length ≤ ys.length) (hz : xs.length ≤ 100000) : t_covers xs ys = ok (covB xs ys) := by
  unfold t_covers
  exact place_loop h hz
theorem search_eq {f : List Int → R Bool} {p : List Int → Bool} {ms : List (List Int)} (h : ∀ m ∈ ms, f m = ok (p m)) : (tb (forT (fun (x3 : List Int) (_ : Unit) => tb (f x3) fun r6 => if r6 then (ok (.rt true)) else (ok (.nx ()))) ms ()) fun o => outS (β := Bool) o (fun g7 => ok g7) fun _ => ok false) = ok (ms.any p) := by
  rw [forT_any p true, outS_if']
  · cases ms.any p <;> rfl
  · intro x hx
    rw [h x hx, tb_ok]
theorem rglt_ok {n : Nat} (h : n ≤ 100000) : rgLT (n : Int) = ok (natsI n) := by
  unfold rgLT
  rw [if_pos (by simp; omega)]
  simp [rangeI, natsI]
theorem pos_ok {xs : List Int} {k : Nat} (h : k < xs.length) : posT xs (k : Int) = ok (xs.getD k 0) := by
  unfold posT
  rw [if_pos (by simp)]
  simp [List.getD_eq_getElem?_getD, h]
theorem pick_ok {xs : List Int} {b i : Int} (h0 : 0 ≤ i) (h1 : i < (xs.length : Int)) (hx : ∀ x ∈ xs, 0 ≤ x ∧ x ≤ b) : ∃ c : Nat, (c : Int) ≤ b ∧ ixT xs i = ok (c : Int) := by
  obtain ⟨k, rfl⟩ : ∃ k : Nat, i = (k : Int) := ⟨i.toNat, by omega⟩
  have hk : k < xs.length := by omega
  have h := hx _ (List.getElem_mem hk)
  exact ⟨xs[k].toNat, by omega, by rw [ix_ok hk]; congr 1; omega⟩
theorem of_take {p : Int × List Int} {n : Nat} (h : 0 ≤ p.1 ∧ p.1 < (n : Int)) : ∃ k : Nat, k < n ∧ p.1 = (k : Int) := ⟨p.1.toNat, by omega, by omega⟩
theorem mem_set {xs : List Int} {k : Nat} {v x : Int} (h : x ∈ xs.set k v) : x = v ∨ x ∈ xs := by
  rcases List.mem_or_eq_of_mem_set h with h | h
  · exact .inr h
  · exact .inl h
theorem raise_ok {n c : Nat} (l xs : List Int) (hn : 1 ≤ n) (hx : xs.length = n) (h0 : ∀ x ∈ xs, x = 0) : Ok (foldT (fun (x9 : Int) (s10 : List Int × List Int) => tb (t__law_take s10.1 (n : Int)) fun r12 => tb (posT s10.2 r12.1) fun y13 => tb (putT s10.2 r12.1 (y13 + (1 : Int))) fun takes14 => ok (r12.2, takes14)) (natsI c) (l, xs)) fun s => s.2.length = n ∧ ∀ x ∈ s.2, 0 ≤ x ∧ x ≤ (c : Int) := by
  refine ok_imp (foldT_ok (fun pre s => s.2.length = n ∧ ∀ x ∈ s.2, 0 ≤ x ∧ x ≤ (pre.length : Int)) ⟨hx, fun x h => by rw [h0 x h]; simp⟩ ?_) fun s h => ⟨h.1, fun x hx => by have := h.2 x hx; simpa [natsI] using this⟩
  rintro pre x post ⟨l, s⟩ e ⟨h1, h2⟩
  refine ok_tb (take_ok l (k := (n : Int)) (by omega)) fun p hp => ?_
  obtain ⟨k, hk, e⟩ := of_take hp
  simp only at h1 h2 ⊢
  rw [e, pos_ok (by omega), tb_ok, put_ok (by omega), tb_ok]
  refine ok_ok ⟨by simp [h1], fun x hx => ?_⟩
  rw [List.length_append, List.length_singleton]
  rcases mem_set hx with rfl | hx
  · have := h2 _ (getD_mem (xs := s) (k := k) (by omega))
    omega
  · have := h2 x hx
    omega
theorem ixm_ok {α : Type} {xs : List α} {i : Int} (d : α) (h0 : 0 ≤ i) (h : i.toNat < xs.length) : ixT xs i = ok (xs.getD i.toNat d) := by
  obtain ⟨k, rfl⟩ : ∃ k : Nat, i = (k : Int) := ⟨i.toNat, by omega⟩
  have hk : k < xs.length := by simpa using h
  rw [ix_ok hk]
  simp [List.getD_eq_getElem?_getD, hk]
theorem natsI_at {n : Nat} {x : Int} (h : x ∈ natsI n) : ∃ k : Nat, k < n ∧ x = (k : Int) := by
  obtain ⟨k, hk, rfl⟩ := List.mem_map.mp h
  exact ⟨k, List.mem_range.mp hk, rfl⟩
/-- a fold over a range -/
theorem foldN_eq {σ : Type} {f : Int → σ → R σ} {g : σ → Nat → σ} {n : Nat} {s : σ} (P : σ → Prop) (h0 : P s) (h : ∀ k < n, ∀ s, P s → f (k : Int) s = ok (g s k) ∧ P (g s k)) : foldT f (natsI n) s = ok ((List.range n).foldl g s) ∧ P ((List.range n).foldl g s) := by
  have := foldT_eq (f := f) (g := fun s x => g s x.toNat) (xs := natsI n) (s := s) P h0 fun x hx s hs => by
    obtain ⟨k, hk, rfl⟩ := natsI_at hx
    exact h k hk s hs
  rw [List.foldl_map] at this
  exact this
theorem fireO_len {n : Nat} {t : Trn} {m r : List Int} (h : Tr n t) (e : fireO t m = some r) : r.length = n := by
  unfold fireO at e
  split at e
  · cases e
    rw [fireL_len, h.l2]
  · cases e
end Cov.Sm

/-! The law k38. -/
namespace Cov.Sm
open PySem
def swS (first : List Int) (s x : Int) : Int := if decide (s < (first.length : Int)) && decide (first.getD s.toNat 0 = x) then s + 1 else s
def subB (first second : List Int) : Bool := decide (second.foldl (swS first) 0 = (first.length : Int))
theorem swS_lo {first : List Int} {s x : Int} (h : 0 ≤ s) : 0 ≤ swS first s x := by unfold swS; split <;> omega
theorem ix_at {xs : List Int} {s : Int} (h0 : 0 ≤ s) (h : s < (xs.length : Int)) : ixT xs s = ok (xs.getD s.toNat 0) := by
  obtain ⟨k, rfl⟩ : ∃ k : Nat, s = (k : Int) := ⟨s.toNat, by omega⟩
  rw [ix_getD (by omega), Int.toNat_natCast]
theorem within_sub {a b : List Int} : t_is_within a b = ok (subB a b) := by
  unfold t_is_within
  rw [(foldT_eq (g := swS a) (fun s : Int => 0 ≤ s) (Int.le_refl _) fun x hx s hs => ⟨?_, swS_lo hs⟩).1, tb_ok]
  · rfl
  · unfold swS
    by_cases c : s < (a.length : Int)
    · simp only [c, decide_true, if_true, Bool.true_and]
      rw [ix_at hs c, tb_ok, tb_ok]
      generalize decide (a.getD s.toNat 0 = x) = q
      cases q <;> rfl
    · simp [c]
theorem lsub_sub {a b : List Int} : t__law_subword a b = ok (subB a b) := by
  unfold t__law_subword
  rw [(foldT_eq (g := swS a) (fun s : Int => 0 ≤ s) (Int.le_refl _) fun x hx s hs => ⟨?_, swS_lo hs⟩).1, tb_ok]
  · rfl
  · unfold swS
    by_cases c : s < (a.length : Int)
    · simp only [c, decide_true, if_true, Bool.true_and]
      rw [ix_at hs c, tb_ok, tb_ok]
      generalize decide (a.getD s.toNat 0 = x) = q
      cases q <;> rfl
    · simp [c]
def ccB (a b : Cfg) : Bool := covB a.1 b.1 && (List.range a.2.length).all fun k => subB (b.2.getD k []) (a.2.getD k [])
structure CfW (n c : Nat) (x : Cfg) : Prop where
  l1 : x.1.length = n
  l2 : x.2.length = c
theorem ixw_ok {xs : List (List Int)} {k : Nat} (h : k < xs.length) : ixT xs (k : Int) = ok (xs.getD k []) := ixm_ok [] (by omega) (by simpa using h)
theorem cc_eq {n c : Nat} {a b : Cfg} (ha : CfW n c a) (hb : CfW n c b) (hn : n ≤ 1000) (hc : c ≤ 1000) : t_config_covers a b = ok (ccB a b) := by
  unfold t_config_covers
  have l1 := ha.l1
  have l2 := ha.l2
  have m1 := hb.l1
  have m2 := hb.l2
  rw [cov_eq (by omega) (by omega), tb_ok]
  unfold ccB
  cases hcv : covB a.1 b.1 with
  | false => rfl
  | true =>
    simp only [Bool.not_true, Bool.false_eq_true, if_false, Bool.true_and]
    rw [scan_eq (fun k => !subB (b.2.getD k []) (a.2.getD k [])) (by omega) fun k hk => ?_]
    · simp only [Bool.not_not]
    · rw [ixw_ok (by omega), tb_ok, ixw_ok (by omega), tb_ok, within_sub, tb_ok]
theorem lcc_eq {n c : Nat} {a b : Cfg} (ha : CfW n c a) (hb : CfW n c b) (hn : n ≤ 1000) (hc : c ≤ 1000) : t__law_config_covers a b = ok (ccB a b) := by
  unfold t__law_config_covers
  have l1 := ha.l1
  have l2 := ha.l2
  have m1 := hb.l1
  have m2 := hb.l2
  rw [lcov_eq (by omega) (by omega), tb_ok]
  unfold ccB
  cases hcv : covB a.1 b.1 with
  | false => rfl
  | true =>
    simp only [Bool.not_true, Bool.false_eq_true, if_false, Bool.true_and]
    rw [scan_eq (fun k => !subB (b.2.getD k []) (a.2.getD k [])) (by omega) fun k hk => ?_]
    · simp only [Bool.not_not]
    · rw [ixw_ok (by omega), tb_ok, ixw_ok (by omega), tb_ok, lsub_sub, tb_ok]
theorem to_of (c : Cfg) : ofCf (toCf c) = c := by
  obtain ⟨a, b⟩ := c
  simp [ofCf, toCf, List.map_map, Function.comp_def]
theorem ssetC_ok {ms : List Cfg} (h : ms.length ≤ 4095) : ∃ S, ssetC ms = ok S ∧ (∀ m ∈ S, m ∈ ms) ∧ S.length ≤ ms.length := by
  refine ⟨(sortG ltC (ms.map toCf)).map ofCf, ?_, fun m hm => ?_, ?_⟩
  · unfold ssetC
    rw [if_pos]
    exact Nat.le_trans sortG_len (by rw [List.length_map]; exact h)
  · obtain ⟨q, hq, rfl⟩ := List.mem_map.mp hm
    obtain ⟨x, hx, rfl⟩ := List.mem_map.mp (mem_sortG.mp hq)
    rw [to_of]
    exact hx
  · rw [List.length_map]
    exact Nat.le_trans sortG_len (by rw [List.length_map]; exact Nat.le_refl _)
def lowC (ms : List Cfg) (m : Cfg) : Bool := ms.all fun o => !(!decide (o = m) && ccB m o)
theorem cbasis_eq {n c : Nat} {ms S : List Cfg} (g : ∀ m ∈ ms, CfW n c m) (hn : n ≤ 1000) (hc : c ≤ 1000) (hS : ssetC ms = ok S) (sub : ∀ m ∈ S, m ∈ ms) (hl : S.length < 1000000) : t_config_basis ms = ok (S.filter (lowC ms)) := by
  unfold t_config_basis
  rw [hS, tb_ok, fold_filter (lowC ms) hl, tb_ok]
  intro m hm s hz
  have hm := g m (sub m hm)
  rw [fold_all (fun o => !(!decide (o = m) && ccB m o)) (fun o ho s => ?_), tb_ok, Bool.true_and]
  · show _ = ok (if lowC ms m = true then _ else _)
    unfold lowC
    cases (ms.all fun o => !(!decide (o = m) && ccB m o)) <;> simp [app_ok hz]
  · rw [cc_eq hm (g o ho) hn hc]
    by_cases e : o = m
    · simp [e]
    · cases ccB m o <;> simp [e]
theorem lleastC_eq {n c : Nat} {ms S : List Cfg} (g : ∀ m ∈ ms, CfW n c m) (hn : n ≤ 1000) (hc : c ≤ 1000) (hS : ssetC ms = ok S) (sub : ∀ m ∈ S, m ∈ ms) (hl : S.length < 1000000) (hl2 : ms.length ≤ 1000000) : t__law_config_least ms = ok (S.filter (lowC ms)) := by
  unfold t__law_config_least
  rw [hS, tb_ok, fold_filter (lowC ms) hl, tb_ok]
  intro m hm s hz
  have hm := g m (sub m hm)
  rw [mapS_fil (fun o => !decide (o = m) && ccB m o) id (small hl2) (fun o ho => ?_), tb_ok]
  · simp only [len_fil]
    show _ = ok (if lowC ms m = true then _ else _)
    unfold lowC
    cases (ms.all fun o => !(!decide (o = m) && ccB m o)) <;> simp [app_ok hz]
  · rw [lcc_eq hm (g o ho) hn hc]
    by_cases e : o = m
    · simp [e]
    · cases ccB m o <;> simp [e]
theorem word_ok (l : List Int) {k m : Int} (hk : 0 < k) (hm : 0 ≤ m ∧ m ≤ 100) : Ok (t__law_word l k m) fun p => p.1.length ≤ 100 := by
  unfold t__law_word
  refine ok_tb (take_ok l (k := m + 1) (by omega)) fun p1 h1 => ?_
  obtain ⟨c, hc⟩ : ∃ c : Nat, p1.1 = (c : Int) := ⟨p1.1.toNat, by omega⟩
  rw [hc, rng_ok (by omega), tb_ok]
  refine ok_tb (mapS_ok (fun _ => True) (fun _ (y : Int) => True) (small (by simp [natsI]; omega)) trivial fun x _ s _ => ?_) fun p h => ok_ok ?_
  · exact ok_tb (take_ok s (k := k) hk) fun p h => ok_ok ⟨trivial, _, rfl, trivial⟩
  · rw [fa2_len h.2]
    simp [natsI]
    omega
theorem config_ok (l : List Int) {n : Nat} {cs : List Int} {k m : Int} (hn : n ≤ 1000) (hk : 0 ≤ k) (hm : 0 ≤ m ∧ m ≤ 100) (hcs : ∀ x ∈ cs, 0 < x) (hl : cs.length ≤ 1000) : Ok (t__law_config l (n : Int) cs k m) fun p => CfW n cs.length p.1 := by
  unfold t__law_config
  refine ok_tb (marking_ok l hk hn) fun p1 h1 => ?_
  refine ok_tb (mapS_ok (fun _ => True) (fun _ (y : List Int) => True) (small (by omega)) trivial fun x hx s _ => ?_) fun p h => ok_ok ⟨h1.len, fa2_len h.2⟩
  exact ok_tb (word_ok s (hcs x hx) hm) fun p h => ok_ok ⟨trivial, _, rfl, trivial⟩
theorem law_true (ns : List Int) (hl : ns.length ≤ 63) : t_law ns = ok true := by
  refine ok_true ?_
  unfold t_law
  refine ok_tb (draws_ok ns (k := 200) (by omega) (by omega)) fun l1 _ => ?_
  refine ok_tb (take_ok l1 (k := 2) (by omega)) fun p1 h1 => ?_
  rw [tb_ok]
  obtain ⟨n, hn, hn1, hn2⟩ : ∃ n : Nat, (1 : Int) + p1.1 = (n : Int) ∧ 1 ≤ n ∧ n ≤ 2 := ⟨(1 + p1.1).toNat, by omega, by omega, by omega⟩
  rw [hn]
  refine ok_tb (take_ok _ (k := 3) (by omega)) fun p2 h2 => ?_
  obtain ⟨c, hc, hc2⟩ : ∃ c : Nat, p2.1 = (c : Int) ∧ c ≤ 2 := ⟨p2.1.toNat, by omega, by omega⟩
  rw [hc, rng_ok (by omega), tb_ok]
  refine ok_tb (mapS_ok (fun _ => True) (fun _ (y : Int) => 0 < y) (small (by simp [natsI]; omega)) trivial fun x _ s _ => ?_) fun p3 h3 => ?_
  · exact ok_tb (take_ok s (k := 3) (by omega)) fun p h => ok_ok ⟨trivial, _, rfl, by omega⟩
  have lc : p3.1.length ≤ 2 := by rw [fa2_len h3.2]; simp [natsI]; exact hc2
  have hcs : ∀ x ∈ p3.1, 0 < x := fun x hx => by obtain ⟨_, _, h⟩ := fa2_mem h3.2 hx; exact h
  generalize p3.1 = cs at lc hcs
  refine ok_tb (take_ok _ (k := 7) (by omega)) fun p4 h4 => ?_
  obtain ⟨e, he, he6⟩ : ∃ e : Nat, p4.1 = (e : Int) ∧ e ≤ 6 := ⟨p4.1.toNat, by omega, by omega⟩
  rw [he, rng_ok (by omega), tb_ok]
  refine ok_tb (mapS_ok (fun _ => True) (fun _ (y : Cfg) => CfW n cs.length y) (small (by simp [natsI]; omega)) trivial fun x _ s _ => ?_) fun p5 h5 => ?_
  · exact ok_tb (config_ok s (by omega) (by omega) (by omega) hcs (by omega)) fun p h => ok_ok ⟨trivial, _, rfl, h⟩
  have lm : p5.1.length ≤ 6 := by rw [fa2_len h5.2]; simp [natsI]; exact he6
  have hm : ∀ x ∈ p5.1, CfW n cs.length x := fun x hx => by obtain ⟨_, _, h⟩ := fa2_mem h5.2 hx; exact h
  generalize p5.1 = ms at lm hm
  refine ok_tb (P := fun p : Bool × List Int => p.1 = true → 0 < ms.length) (ok_ite (fun h => ?_) fun _ => ok_ok fun z => by cases z) fun p6 h6 => ?_
  · rw [decide_eq_true_eq] at h
    exact ok_tb (take_ok _ (k := 2) (by omega)) fun p _ => ok_ok fun _ => by omega
  refine ok_tb (P := fun s : List Int × List Cfg => s.2.length ≤ 7 ∧ ∀ x ∈ s.2, CfW n cs.length x) (ok_ite (fun h => ?_) fun _ => ok_ok ⟨by simp only; omega, hm⟩) fun s hs => ?_
  · have h0 := h6 h
    refine ok_tb (take_ok _ (k := (ms.length : Int)) (by omega)) fun p7 h7 => ?_
    have e7 : ixT ms p7.1 = ok (ms.getD p7.1.toNat ([], [])) := ixm_ok ([], []) h7.1 (by omega)
    rw [e7, tb_ok, app_ok (by omega), tb_ok]
    refine ok_ok ⟨by simp; omega, fun x hx => ?_⟩
    rcases List.mem_append.mp hx with z | z
    · exact hm x z
    · rw [List.mem_singleton.mp z]
      have hlt : p7.1.toNat < ms.length := by omega
      rw [List.getD_eq_getElem?_getD, List.getElem?_eq_getElem hlt]
      exact hm _ (List.getElem_mem hlt)
  obtain ⟨l7, hw⟩ := hs
  generalize s.2 = M at l7 hw
  clear hm lm h6 h5
  refine ok_tb (config_ok _ (by omega) (by omega) (by omega) hcs (by omega)) fun p8 h8 => ?_
  refine ok_tb (word_ok _ (by omega) (by omega)) fun p9 h9 => ?_
  refine ok_tb (word_ok _ (by omega) (by omega)) fun p10 h10 => ?_
  rw [within_sub, tb_ok, lsub_sub]
  simp only [Bool.not_true, Bool.false_eq_true, if_false, tb_ok, decide_true]
  rw [forT_nx, tb_ok, outS_nx]
  rotate_left
  · intro x hx
    rw [cc_eq h8 (hw x hx) (by omega) (by omega), tb_ok, lcc_eq h8 (hw x hx) (by omega) (by omega)]
    simp
  have i1 : t_in_config_set M p8.1 = ok (M.any fun m => ccB p8.1 m) := by
    unfold t_in_config_set
    rw [forT_any (fun m => ccB p8.1 m) true, outS_if']
    · cases (M.any fun m => ccB p8.1 m) <;> rfl
    · intro x hx
      rw [cc_eq h8 (hw x hx) (by omega) (by omega), tb_ok]
  have i2 : t__law_config_inside M p8.1 = ok (M.any fun m => ccB p8.1 m) := by
    unfold t__law_config_inside
    rw [forT_any (fun m => ccB p8.1 m) true, outS_if']
    · cases (M.any fun m => ccB p8.1 m) <;> rfl
    · intro x hx
      rw [lcc_eq h8 (hw x hx) (by omega) (by omega), tb_ok]
  rw [i1, tb_ok, i2]
  simp only [tb_ok, decide_true, Bool.not_true, Bool.false_eq_true, if_false]
  obtain ⟨S, hS, sub, lS⟩ := ssetC_ok (ms := M) (by omega)
  rw [cbasis_eq hw (by omega) (by omega) hS sub (by omega), tb_ok, lleastC_eq hw (by omega) (by omega) hS sub (by omega) (by omega)]
  simp only [if_true, tb_ok, decide_true]
  exact ok_ok rfl
end Cov.Sm
namespace Cov
open PySem
theorem plain (ns : List Int) (hl : ns.length ≤ 63) (hb : ∀ z ∈ ns, Builtin.Int.intBits z ≤ 1048576) : ∃ fin, callF G 4 "law" [.lst .fz (ns.map D.int)] = some (.ret (.bl true) fin) ∧ fin.length = 1 :=
  Sm.law_end (Sm.s_law ns 0) (Sm.law_true ns hl) rfl
end Cov

namespace Cov
open PySem L2
def top (i : Nat) : Stmt := PySem.Challenge.pw_covernets_k38_configurations.main.body.getD i (.Pass ⟨0, 0, 0, 0⟩)
def names : List Str := ["_law_take", "_law_marking", "_law_word", "_law_config", "_law_covers", "_law_subword", "_law_config_covers", "_law_config_inside", "_law_config_least", "_law_draws", "covers", "is_within", "config_covers", "config_basis", "in_config_set", "law"]
def bl : List Str := ["bool", "int", "isinstance", "len", "list", "range", "set", "sorted", "tuple"]
def gc : List (Str × Int) := []
def ct : CT := ⟨[], [], [], [], []⟩
def lev : Str → Nat := fun x => (([(("_law_take" : Str), 1), (("_law_marking" : Str), 2), (("_law_word" : Str), 2), (("_law_config" : Str), 3), (("_law_covers" : Str), 1), (("_law_subword" : Str), 1), (("_law_config_covers" : Str), 2), (("_law_config_inside" : Str), 3), (("_law_config_least" : Str), 3), (("_law_draws" : Str), 1), (("covers" : Str), 1), (("is_within" : Str), 1), (("config_covers" : Str), 2), (("config_basis" : Str), 3), (("in_config_set" : Str), 3), (("law" : Str), 4)] : List (Str × Nat)).lookup x).getD 0
abbrev st__law_take : Stmt := top 9
theorem lk__law_take : lookB names bl gc ct lev "_law_take" st__law_take ["_law_draws_here", "_law_limit"] ["_law_draws_here", "_law_limit"] ir__law_take [] [] [] = true := by decide +kernel
abbrev st__law_marking : Stmt := top 10
theorem lk__law_marking : lookB names bl gc ct lev "_law_marking" st__law_marking ["_law_draws_here", "_law_size", "_law_most", "_law_k"] ["_law_draws_here", "_law_size", "_law_most"] ir__law_marking ["_law_take"] [] [] = true := by decide +kernel
abbrev st__law_word : Stmt := top 16
theorem lk__law_word : lookB names bl gc ct lev "_law_word" st__law_word ["_law_draws_here", "_law_letters", "_law_most", "_law_k"] ["_law_draws_here", "_law_letters", "_law_most"] ir__law_word ["_law_take"] [] [] = true := by decide +kernel
abbrev st__law_config : Stmt := top 17
theorem lk__law_config : lookB names bl gc ct lev "_law_config" st__law_config ["_law_draws_here", "_law_places", "_law_channels", "_law_most", "_law_longest", "_law_marking_here", "_law_letters"] ["_law_draws_here", "_law_places", "_law_channels", "_law_most", "_law_longest"] ir__law_config ["_law_marking", "_law_word"] [] [] = true := by decide +kernel
abbrev st__law_covers : Stmt := top 11
theorem lk__law_covers : lookB names bl gc ct lev "_law_covers" st__law_covers ["_law_first", "_law_second", "_law_k"] ["_law_first", "_law_second"] ir__law_covers [] [] [] = true := by decide +kernel
abbrev st__law_subword : Stmt := top 12
theorem lk__law_subword : lookB names bl gc ct lev "_law_subword" st__law_subword ["_law_first", "_law_second", "_law_at", "_law_letter"] ["_law_first", "_law_second"] ir__law_subword [] [] [] = true := by decide +kernel
abbrev st__law_config_covers : Stmt := top 13
theorem lk__law_config_covers : lookB names bl gc ct lev "_law_config_covers" st__law_config_covers ["_law_first", "_law_second", "_law_k"] ["_law_first", "_law_second"] ir__law_config_covers ["_law_covers", "_law_subword"] [] [] = true := by decide +kernel
abbrev st__law_config_inside : Stmt := top 14
theorem lk__law_config_inside : lookB names bl gc ct lev "_law_config_inside" st__law_config_inside ["_law_members", "_law_config_here", "_law_member"] ["_law_members", "_law_config_here"] ir__law_config_inside ["_law_config_covers"] [] [] = true := by decide +kernel
abbrev st__law_config_least : Stmt := top 15
theorem lk__law_config_least : lookB names bl gc ct lev "_law_config_least" st__law_config_least ["_law_members", "_law_found", "_law_member", "_law_smaller", "_law_other"] ["_law_members"] ir__law_config_least ["_law_config_covers"] [] [] = true := by decide +kernel
abbrev st__law_draws : Stmt := top 8
theorem lk__law_draws : lookB names bl gc ct lev "_law_draws" st__law_draws ["_law_script", "_law_count", "_law_cells", "_law_found", "_law_mixed", "_law_k", "_law_j", "_law_cell", "_law_again"] ["_law_script", "_law_count"] ir__law_draws [] [] [] = true := by decide +kernel
abbrev st_covers : Stmt := top 1
theorem lk_covers : lookB names bl gc ct lev "covers" st_covers ["first", "second", "k"] ["first", "second"] ir_covers [] [] [] = true := by decide +kernel
abbrev st_is_within : Stmt := top 3
theorem lk_is_within : lookB names bl gc ct lev "is_within" st_is_within ["first", "second", "at", "letter"] ["first", "second"] ir_is_within [] [] [] = true := by decide +kernel
abbrev st_config_covers : Stmt := top 4
theorem lk_config_covers : lookB names bl gc ct lev "config_covers" st_config_covers ["first", "second", "k"] ["first", "second"] ir_config_covers ["covers", "is_within"] [] [] = true := by decide +kernel
abbrev st_config_basis : Stmt := top 6
theorem lk_config_basis : lookB names bl gc ct lev "config_basis" st_config_basis ["members", "found", "member", "least", "other"] ["members"] ir_config_basis ["config_covers"] [] [] = true := by decide +kernel
abbrev st_in_config_set : Stmt := top 5
theorem lk_in_config_set : lookB names bl gc ct lev "in_config_set" st_in_config_set ["members", "config", "member"] ["members", "config"] ir_in_config_set ["config_covers"] [] [] = true := by decide +kernel
abbrev st_law : Stmt := top 18
theorem lk_law : lookB names bl gc ct lev "law" st_law ["_law_script", "_law_draws_here", "_law_places", "_law_channels", "_law_k", "_law_members", "_law_config_here", "_law_first", "_law_second", "_law_one", "_law_member", "_law_two", "_law_passed", "_law_three", "_law_found"] ["_law_script"] ir_law ["_law_config", "_law_config_covers", "_law_config_inside", "_law_config_least", "_law_draws", "_law_subword", "_law_take", "_law_word", "config_basis", "config_covers", "in_config_set", "is_within"] [] [] = true := by decide +kernel
theorem lev_law : lev "law" = 4 := by decide +kernel
theorem all_mk {l : PySem.W.OpenLaw} {w : World} {K : PySem.W.Frag} {h : Heap} {mg : Str → Option Value} {fa f0 f1 f2 f3 f4 f5 f6 f7 f8 f9 f10 f11 f12 f13 f14 f15 : Addr} (X : K.In h) (Gm : h.Ns mainGlobals mg) (hfa : mg "law" = some (.ref fa))
    {od0 an0 : Option Addr} {sl0 : Array (Option Value)} {oc0 kV0 dc0 pm0 cd0 ct0 : Value}
    {od1 an1 : Option Addr} {sl1 : Array (Option Value)} {oc1 kV1 dc1 pm1 cd1 ct1 : Value}
    {od2 an2 : Option Addr} {sl2 : Array (Option Value)} {oc2 kV2 dc2 pm2 cd2 ct2 : Value}
    {od3 an3 : Option Addr} {sl3 : Array (Option Value)} {oc3 kV3 dc3 pm3 cd3 ct3 : Value}
    {od4 an4 : Option Addr} {sl4 : Array (Option Value)} {oc4 kV4 dc4 pm4 cd4 ct4 : Value}
    {od5 an5 : Option Addr} {sl5 : Array (Option Value)} {oc5 kV5 dc5 pm5 cd5 ct5 : Value}
    {od6 an6 : Option Addr} {sl6 : Array (Option Value)} {oc6 kV6 dc6 pm6 cd6 ct6 : Value}
    {od7 an7 : Option Addr} {sl7 : Array (Option Value)} {oc7 kV7 dc7 pm7 cd7 ct7 : Value}
    {od8 an8 : Option Addr} {sl8 : Array (Option Value)} {oc8 kV8 dc8 pm8 cd8 ct8 : Value}
    {od9 an9 : Option Addr} {sl9 : Array (Option Value)} {oc9 kV9 dc9 pm9 cd9 ct9 : Value}
    {od10 an10 : Option Addr} {sl10 : Array (Option Value)} {oc10 kV10 dc10 pm10 cd10 ct10 : Value}
    {od11 an11 : Option Addr} {sl11 : Array (Option Value)} {oc11 kV11 dc11 pm11 cd11 ct11 : Value}
    {od12 an12 : Option Addr} {sl12 : Array (Option Value)} {oc12 kV12 dc12 pm12 cd12 ct12 : Value}
    {od13 an13 : Option Addr} {sl13 : Array (Option Value)} {oc13 kV13 dc13 pm13 cd13 ct13 : Value}
    {od14 an14 : Option Addr} {sl14 : Array (Option Value)} {oc14 kV14 dc14 pm14 cd14 ct14 : Value}
    {od15 an15 : Option Addr} {sl15 : Array (Option Value)} {oc15 kV15 dc15 pm15 cd15 ct15 : Value}
    (a0 : PySem.W.nsIn K mainGlobals "_law_take" = some (some (.ref f0)))
    (l0 : K.lookup f0 = some ⟨oc0, od0, .func (PySem.W.fnOf "_law_take" "_law_take" (defArgs st__law_take) (defBody st__law_take) (defScope st__law_take) .none kV0 dc0 pm0 an0 cd0 ct0), sl0⟩)
    (c0 : PySem.W.codeIn K cd0 "_law_take" = true)
    (k0 : PySem.W.keepIn K (.ref f0) = true)
    (a1 : PySem.W.nsIn K mainGlobals "_law_marking" = some (some (.ref f1)))
    (l1 : K.lookup f1 = some ⟨oc1, od1, .func (PySem.W.fnOf "_law_marking" "_law_marking" (defArgs st__law_marking) (defBody st__law_marking) (defScope st__law_marking) .none kV1 dc1 pm1 an1 cd1 ct1), sl1⟩)
    (c1 : PySem.W.codeIn K cd1 "_law_marking" = true)
    (k1 : PySem.W.keepIn K (.ref f1) = true)
    (a2 : PySem.W.nsIn K mainGlobals "_law_word" = some (some (.ref f2)))
    (l2 : K.lookup f2 = some ⟨oc2, od2, .func (PySem.W.fnOf "_law_word" "_law_word" (defArgs st__law_word) (defBody st__law_word) (defScope st__law_word) .none kV2 dc2 pm2 an2 cd2 ct2), sl2⟩)
    (c2 : PySem.W.codeIn K cd2 "_law_word" = true)
    (k2 : PySem.W.keepIn K (.ref f2) = true)
    (a3 : PySem.W.nsIn K mainGlobals "_law_config" = some (some (.ref f3)))
    (l3 : K.lookup f3 = some ⟨oc3, od3, .func (PySem.W.fnOf "_law_config" "_law_config" (defArgs st__law_config) (defBody st__law_config) (defScope st__law_config) .none kV3 dc3 pm3 an3 cd3 ct3), sl3⟩)
    (c3 : PySem.W.codeIn K cd3 "_law_config" = true)
    (k3 : PySem.W.keepIn K (.ref f3) = true)
    (a4 : PySem.W.nsIn K mainGlobals "_law_covers" = some (some (.ref f4)))
    (l4 : K.lookup f4 = some ⟨oc4, od4, .func (PySem.W.fnOf "_law_covers" "_law_covers" (defArgs st__law_covers) (defBody st__law_covers) (defScope st__law_covers) .none kV4 dc4 pm4 an4 cd4 ct4), sl4⟩)
    (c4 : PySem.W.codeIn K cd4 "_law_covers" = true)
    (k4 : PySem.W.keepIn K (.ref f4) = true)
    (a5 : PySem.W.nsIn K mainGlobals "_law_subword" = some (some (.ref f5)))
    (l5 : K.lookup f5 = some ⟨oc5, od5, .func (PySem.W.fnOf "_law_subword" "_law_subword" (defArgs st__law_subword) (defBody st__law_subword) (defScope st__law_subword) .none kV5 dc5 pm5 an5 cd5 ct5), sl5⟩)
    (c5 : PySem.W.codeIn K cd5 "_law_subword" = true)
    (k5 : PySem.W.keepIn K (.ref f5) = true)
    (a6 : PySem.W.nsIn K mainGlobals "_law_config_covers" = some (some (.ref f6)))
    (l6 : K.lookup f6 = some ⟨oc6, od6, .func (PySem.W.fnOf "_law_config_covers" "_law_config_covers" (defArgs st__law_config_covers) (defBody st__law_config_covers) (defScope st__law_config_covers) .none kV6 dc6 pm6 an6 cd6 ct6), sl6⟩)
    (c6 : PySem.W.codeIn K cd6 "_law_config_covers" = true)
    (k6 : PySem.W.keepIn K (.ref f6) = true)
    (a7 : PySem.W.nsIn K mainGlobals "_law_config_inside" = some (some (.ref f7)))
    (l7 : K.lookup f7 = some ⟨oc7, od7, .func (PySem.W.fnOf "_law_config_inside" "_law_config_inside" (defArgs st__law_config_inside) (defBody st__law_config_inside) (defScope st__law_config_inside) .none kV7 dc7 pm7 an7 cd7 ct7), sl7⟩)
    (c7 : PySem.W.codeIn K cd7 "_law_config_inside" = true)
    (k7 : PySem.W.keepIn K (.ref f7) = true)
    (a8 : PySem.W.nsIn K mainGlobals "_law_config_least" = some (some (.ref f8)))
    (l8 : K.lookup f8 = some ⟨oc8, od8, .func (PySem.W.fnOf "_law_config_least" "_law_config_least" (defArgs st__law_config_least) (defBody st__law_config_least) (defScope st__law_config_least) .none kV8 dc8 pm8 an8 cd8 ct8), sl8⟩)
    (c8 : PySem.W.codeIn K cd8 "_law_config_least" = true)
    (k8 : PySem.W.keepIn K (.ref f8) = true)
    (a9 : PySem.W.nsIn K mainGlobals "_law_draws" = some (some (.ref f9)))
    (l9 : K.lookup f9 = some ⟨oc9, od9, .func (PySem.W.fnOf "_law_draws" "_law_draws" (defArgs st__law_draws) (defBody st__law_draws) (defScope st__law_draws) .none kV9 dc9 pm9 an9 cd9 ct9), sl9⟩)
    (c9 : PySem.W.codeIn K cd9 "_law_draws" = true)
    (k9 : PySem.W.keepIn K (.ref f9) = true)
    (a10 : PySem.W.nsIn K mainGlobals "covers" = some (some (.ref f10)))
    (l10 : K.lookup f10 = some ⟨oc10, od10, .func (PySem.W.fnOf "covers" "covers" (defArgs st_covers) (defBody st_covers) (defScope st_covers) .none kV10 dc10 pm10 an10 cd10 ct10), sl10⟩)
    (c10 : PySem.W.codeIn K cd10 "covers" = true)
    (k10 : PySem.W.keepIn K (.ref f10) = true)
    (a11 : PySem.W.nsIn K mainGlobals "is_within" = some (some (.ref f11)))
    (l11 : K.lookup f11 = some ⟨oc11, od11, .func (PySem.W.fnOf "is_within" "is_within" (defArgs st_is_within) (defBody st_is_within) (defScope st_is_within) .none kV11 dc11 pm11 an11 cd11 ct11), sl11⟩)
    (c11 : PySem.W.codeIn K cd11 "is_within" = true)
    (k11 : PySem.W.keepIn K (.ref f11) = true)
    (a12 : PySem.W.nsIn K mainGlobals "config_covers" = some (some (.ref f12)))
    (l12 : K.lookup f12 = some ⟨oc12, od12, .func (PySem.W.fnOf "config_covers" "config_covers" (defArgs st_config_covers) (defBody st_config_covers) (defScope st_config_covers) .none kV12 dc12 pm12 an12 cd12 ct12), sl12⟩)
    (c12 : PySem.W.codeIn K cd12 "config_covers" = true)
    (k12 : PySem.W.keepIn K (.ref f12) = true)
    (a13 : PySem.W.nsIn K mainGlobals "config_basis" = some (some (.ref f13)))
    (l13 : K.lookup f13 = some ⟨oc13, od13, .func (PySem.W.fnOf "config_basis" "config_basis" (defArgs st_config_basis) (defBody st_config_basis) (defScope st_config_basis) .none kV13 dc13 pm13 an13 cd13 ct13), sl13⟩)
    (c13 : PySem.W.codeIn K cd13 "config_basis" = true)
    (k13 : PySem.W.keepIn K (.ref f13) = true)
    (a14 : PySem.W.nsIn K mainGlobals "in_config_set" = some (some (.ref f14)))
    (l14 : K.lookup f14 = some ⟨oc14, od14, .func (PySem.W.fnOf "in_config_set" "in_config_set" (defArgs st_in_config_set) (defBody st_in_config_set) (defScope st_in_config_set) .none kV14 dc14 pm14 an14 cd14 ct14), sl14⟩)
    (c14 : PySem.W.codeIn K cd14 "in_config_set" = true)
    (k14 : PySem.W.keepIn K (.ref f14) = true)
    (a15 : PySem.W.nsIn K mainGlobals "law" = some (some (.ref f15)))
    (l15 : K.lookup f15 = some ⟨oc15, od15, .func (PySem.W.fnOf "law" "law" (defArgs st_law) (defBody st_law) (defScope st_law) .none kV15 dc15 pm15 an15 cd15 ct15), sl15⟩)
    (c15 : PySem.W.codeIn K cd15 "law" = true)
    (k15 : PySem.W.keepIn K (.ref f15) = true)
    (z0 : PySem.W.nsIn K mainGlobals "bool" = some none)
    (z1 : PySem.W.nsIn K mainGlobals "int" = some none)
    (z2 : PySem.W.nsIn K mainGlobals "isinstance" = some none)
    (z3 : PySem.W.nsIn K mainGlobals "len" = some none)
    (z4 : PySem.W.nsIn K mainGlobals "list" = some none)
    (z5 : PySem.W.nsIn K mainGlobals "range" = some none)
    (z6 : PySem.W.nsIn K mainGlobals "set" = some none)
    (z7 : PySem.W.nsIn K mainGlobals "sorted" = some none)
    (z8 : PySem.W.nsIn K mainGlobals "tuple" = some none)
    : ∃ fd : FuncData, (∀ (s : Shared) (v : Value), BindsTo s fd ⟨[v], []⟩ [("_law_script", v)]) ∧ ∀ base : Heap, K.In base → base.Ns mainGlobals mg → FnOk l.prog w K mg base (L2N.CX l.prog w) 4 fa fd ["_law_script"] (spA K (callF G 4) "law" (iosOf G "law")) := by
  have e := hfa.symm.trans (PySem.W.mg_of X Gm a15)
  cases e
  have hbl : ∀ x ∈ bl, mg x = none := by
    intro x hx
    simp only [bl, List.mem_cons, List.not_mem_nil, or_false] at hx
    rcases hx with rfl | rfl | rfl | rfl | rfl | rfl | rfl | rfl | rfl
    · exact PySem.W.mg_none_of X Gm z0
    · exact PySem.W.mg_none_of X Gm z1
    · exact PySem.W.mg_none_of X Gm z2
    · exact PySem.W.mg_none_of X Gm z3
    · exact PySem.W.mg_none_of X Gm z4
    · exact PySem.W.mg_none_of X Gm z5
    · exact PySem.W.mg_none_of X Gm z6
    · exact PySem.W.mg_none_of X Gm z7
    · exact PySem.W.mg_none_of X Gm z8
  have hgc : ∀ p ∈ gc, ∃ t, mg p.1 = some (.int p.2 t) := by
    intro p hx
    cases hx
  have F0 := fun_mk (st := st__law_take) l0 c0 k0
  have D0 := defC_mk (Γ := G) F0 (F0.binds (ps := ["_law_draws_here", "_law_limit"]) fun _ _ _ _ _ _ us hl => match us, hl with | [_, _], _ => rfl) tb__law_take lk__law_take
  have F1 := fun_mk (st := st__law_marking) l1 c1 k1
  have D1 := defC_mk (Γ := G) F1 (F1.binds (ps := ["_law_draws_here", "_law_size", "_law_most"]) fun _ _ _ _ _ _ us hl => match us, hl with | [_, _, _], _ => rfl) tb__law_marking lk__law_marking
  have F2 := fun_mk (st := st__law_word) l2 c2 k2
  have D2 := defC_mk (Γ := G) F2 (F2.binds (ps := ["_law_draws_here", "_law_letters", "_law_most"]) fun _ _ _ _ _ _ us hl => match us, hl with | [_, _, _], _ => rfl) tb__law_word lk__law_word
  have F3 := fun_mk (st := st__law_config) l3 c3 k3
  have D3 := defC_mk (Γ := G) F3 (F3.binds (ps := ["_law_draws_here", "_law_places", "_law_channels", "_law_most", "_law_longest"]) fun _ _ _ _ _ _ us hl => match us, hl with | [_, _, _, _, _], _ => rfl) tb__law_config lk__law_config
  have F4 := fun_mk (st := st__law_covers) l4 c4 k4
  have D4 := defC_mk (Γ := G) F4 (F4.binds (ps := ["_law_first", "_law_second"]) fun _ _ _ _ _ _ us hl => match us, hl with | [_, _], _ => rfl) tb__law_covers lk__law_covers
  have F5 := fun_mk (st := st__law_subword) l5 c5 k5
  have D5 := defC_mk (Γ := G) F5 (F5.binds (ps := ["_law_first", "_law_second"]) fun _ _ _ _ _ _ us hl => match us, hl with | [_, _], _ => rfl) tb__law_subword lk__law_subword
  have F6 := fun_mk (st := st__law_config_covers) l6 c6 k6
  have D6 := defC_mk (Γ := G) F6 (F6.binds (ps := ["_law_first", "_law_second"]) fun _ _ _ _ _ _ us hl => match us, hl with | [_, _], _ => rfl) tb__law_config_covers lk__law_config_covers
  have F7 := fun_mk (st := st__law_config_inside) l7 c7 k7
  have D7 := defC_mk (Γ := G) F7 (F7.binds (ps := ["_law_members", "_law_config_here"]) fun _ _ _ _ _ _ us hl => match us, hl with | [_, _], _ => rfl) tb__law_config_inside lk__law_config_inside
  have F8 := fun_mk (st := st__law_config_least) l8 c8 k8
  have D8 := defC_mk (Γ := G) F8 (F8.binds (ps := ["_law_members"]) fun _ _ _ _ _ _ us hl => match us, hl with | [_], _ => rfl) tb__law_config_least lk__law_config_least
  have F9 := fun_mk (st := st__law_draws) l9 c9 k9
  have D9 := defC_mk (Γ := G) F9 (F9.binds (ps := ["_law_script", "_law_count"]) fun _ _ _ _ _ _ us hl => match us, hl with | [_, _], _ => rfl) tb__law_draws lk__law_draws
  have F10 := fun_mk (st := st_covers) l10 c10 k10
  have D10 := defC_mk (Γ := G) F10 (F10.binds (ps := ["first", "second"]) fun _ _ _ _ _ _ us hl => match us, hl with | [_, _], _ => rfl) tb_covers lk_covers
  have F11 := fun_mk (st := st_is_within) l11 c11 k11
  have D11 := defC_mk (Γ := G) F11 (F11.binds (ps := ["first", "second"]) fun _ _ _ _ _ _ us hl => match us, hl with | [_, _], _ => rfl) tb_is_within lk_is_within
  have F12 := fun_mk (st := st_config_covers) l12 c12 k12
  have D12 := defC_mk (Γ := G) F12 (F12.binds (ps := ["first", "second"]) fun _ _ _ _ _ _ us hl => match us, hl with | [_, _], _ => rfl) tb_config_covers lk_config_covers
  have F13 := fun_mk (st := st_config_basis) l13 c13 k13
  have D13 := defC_mk (Γ := G) F13 (F13.binds (ps := ["members"]) fun _ _ _ _ _ _ us hl => match us, hl with | [_], _ => rfl) tb_config_basis lk_config_basis
  have F14 := fun_mk (st := st_in_config_set) l14 c14 k14
  have D14 := defC_mk (Γ := G) F14 (F14.binds (ps := ["members", "config"]) fun _ _ _ _ _ _ us hl => match us, hl with | [_, _], _ => rfl) tb_in_config_set lk_in_config_set
  have F15 := fun_mk (st := st_law) l15 c15 k15
  have D15 := defC_mk (Γ := G) F15 (F15.binds (ps := ["_law_script"]) fun _ _ _ _ _ _ us hl => match us, hl with | [_], _ => rfl) tb_law lk_law
  have hd : ∀ f ∈ names, DefF K mg G bl gc ct names lev f := by
    intro f hx
    simp only [names, List.mem_cons, List.not_mem_nil, or_false] at hx
    rcases hx with rfl | rfl | rfl | rfl | rfl | rfl | rfl | rfl | rfl | rfl | rfl | rfl | rfl | rfl | rfl | rfl
    · exact ⟨_, _, _, _, _, _, _, _, _, D0, PySem.W.mg_of X Gm a0, k0⟩
    · exact ⟨_, _, _, _, _, _, _, _, _, D1, PySem.W.mg_of X Gm a1, k1⟩
    · exact ⟨_, _, _, _, _, _, _, _, _, D2, PySem.W.mg_of X Gm a2, k2⟩
    · exact ⟨_, _, _, _, _, _, _, _, _, D3, PySem.W.mg_of X Gm a3, k3⟩
    · exact ⟨_, _, _, _, _, _, _, _, _, D4, PySem.W.mg_of X Gm a4, k4⟩
    · exact ⟨_, _, _, _, _, _, _, _, _, D5, PySem.W.mg_of X Gm a5, k5⟩
    · exact ⟨_, _, _, _, _, _, _, _, _, D6, PySem.W.mg_of X Gm a6, k6⟩
    · exact ⟨_, _, _, _, _, _, _, _, _, D7, PySem.W.mg_of X Gm a7, k7⟩
    · exact ⟨_, _, _, _, _, _, _, _, _, D8, PySem.W.mg_of X Gm a8, k8⟩
    · exact ⟨_, _, _, _, _, _, _, _, _, D9, PySem.W.mg_of X Gm a9, k9⟩
    · exact ⟨_, _, _, _, _, _, _, _, _, D10, PySem.W.mg_of X Gm a10, k10⟩
    · exact ⟨_, _, _, _, _, _, _, _, _, D11, PySem.W.mg_of X Gm a11, k11⟩
    · exact ⟨_, _, _, _, _, _, _, _, _, D12, PySem.W.mg_of X Gm a12, k12⟩
    · exact ⟨_, _, _, _, _, _, _, _, _, D13, PySem.W.mg_of X Gm a13, k13⟩
    · exact ⟨_, _, _, _, _, _, _, _, _, D14, PySem.W.mg_of X Gm a14, k14⟩
    · exact ⟨_, _, _, _, _, _, _, _, _, D15, PySem.W.mg_of X Gm a15, k15⟩
  have hi : ∀ c ∈ ct.mks, IniF K mg (clOf [] []) G bl gc ct names lev c := by
    intro c hx
    cases hx
  refine ⟨PySem.W.fnOf "law" "law" (defArgs st_law) (defBody st_law) (defScope st_law) .none kV15 dc15 pm15 an15 cd15 ct15, fun s v => .of_eq rfl, fun base _ _ => ?_⟩
  refine FnOk.weak ?_ fun vs H Q E h => h (clOf [] []) rfl
  have h1 : ∀ p ∈ ct.fls, ∀ C, ((clOf [] [])).cl p.1 = some C → NoAttr K C p.2 := by
    intro p hx
    cases hx
  have h2 : ∀ c ∈ ct.exs, ∃ C, ((clOf [] [])).xc c = some C ∧ ExT K mg c C := by
    intro c hx
    cases hx
  have h3 : ∀ p ∈ ct.exn, ∃ C, ((clOf [] [])).xc p.1 = some C ∧ ExF l.prog w K mg base p.1 p.2 C := by
    intro p hx
    cases hx
  have hh : ∀ f ∈ ct.hfs, HotF K mg G bl gc ct names lev f := by
    intro f hx
    cases hx
  have al := cal_all (P := l.prog) (w := w) (base := base) hd hi hbl hgc ⟨h1, h2, h3⟩ rfl hh 3
  have q := def_fn (P := l.prog) (w := w) (base := base) D15 hbl hgc ⟨h1, h2, h3⟩ rfl al.1 al.2 (hot_all (P := l.prog) (w := w) (base := base) hh hbl hgc 3)
  rw [lev_law] at q
  exact q
theorem walk {l : PySem.W.OpenLaw} {q : Program} {loose : List Str} {XP : (Str → Option Value) → Heap → Prop} {YP : World → Heap → Prop} {d : DefRec} {K : Params → PySem.W.Frag} (hn : l.most = some 63) (hdf : d.params.defaults = [])
    (hY : ∀ (w : World) (h : Heap), YP w h → (K w.params).In h)
    (F : ∀ (w : World) (mg : Str → Option Value) (fa : Addr) (h : Heap), (K w.params).In h → h.Ns mainGlobals mg → mg d.name = some (.ref fa) →
      ∃ fd : FuncData, (∀ (s : Shared) (u : Value), BindsTo s fd ⟨[u], []⟩ [("_law_script", u)]) ∧ ∀ base : Heap, (K w.params).In base → base.Ns mainGlobals mg → FnOk l.prog w (K w.params) mg base (L2N.CX l.prog w) 4 fa fd ["_law_script"] (spA (K w.params) (callF G 4) "law" (iosOf G "law"))) :
    PySem.W.WalkO q loose XP YP l.row.toRowW d [] (fun f vs => PySem.call f vs) :=
  L2.walk_ofB (n := 63) (k := 4) (x := "_law_script") (CX := fun w => L2N.CX l.prog w) (sp := fun w => spA (K w.params) (callF G 4) "law" (iosOf G "law")) hn (by decide) hdf ⟨rfl, by decide, by decide⟩ hY F
    (fun w H a ns hl hb _ hS => let ⟨fin, e, hf⟩ := plain ns hl hb; law_sp hS e hf) fun _ _ _ _ _ z => cx_no z
end Cov
open PySem PySem.W PyProof.Rows in
set_option maxRecDepth 100000 in
set_option maxHeartbeats 0 in
theorem PySem.Challenge.cw_covernets_k38_configurations_holds : PySem.Challenge.rw_covernets_k38_configurations.Holds := by
  w_on; o_law; k_head; (case hw => w_witness2)
  k_fill
  refine Cov.walk (l := PySem.Challenge.rw_covernets_k38_configurations) rfl rfl (fun w h Y => PySem.W.kIn_of Y) ?F
  case F =>
    intro w mg fa h KX G hmg
    refine' Cov.all_mk KX G hmg ?a0 ?l0 ?c0 ?k0 ?a1 ?l1 ?c1 ?k1 ?a2 ?l2 ?c2 ?k2 ?a3 ?l3 ?c3 ?k3 ?a4 ?l4 ?c4 ?k4 ?a5 ?l5 ?c5 ?k5 ?a6 ?l6 ?c6 ?k6 ?a7 ?l7 ?c7 ?k7 ?a8 ?l8 ?c8 ?k8 ?a9 ?l9 ?c9 ?k9 ?a10 ?l10 ?c10 ?k10 ?a11 ?l11 ?c11 ?k11 ?a12 ?l12 ?c12 ?k12 ?a13 ?l13 ?c13 ?k13 ?a14 ?l14 ?c14 ?k14 ?a15 ?l15 ?c15 ?k15 ?z0 ?z1 ?z2 ?z3 ?z4 ?z5 ?z6 ?z7 ?z8
    (case a0 => k_is)
    (case l0 => k_is)
    (case c0 => k_is)
    (case k0 => k_is)
    (case a1 => k_is)
    (case l1 => k_is)
    (case c1 => k_is)
    (case k1 => k_is)
    (case a2 => k_is)
    (case l2 => k_is)
    (case c2 => k_is)
    (case k2 => k_is)
    (case a3 => k_is)
    (case l3 => k_is)
    (case c3 => k_is)
    (case k3 => k_is)
    (case a4 => k_is)
    (case l4 => k_is)
    (case c4 => k_is)
    (case k4 => k_is)
    (case a5 => k_is)
    (case l5 => k_is)
    (case c5 => k_is)
    (case k5 => k_is)
    (case a6 => k_is)
    (case l6 => k_is)
    (case c6 => k_is)
    (case k6 => k_is)
    (case a7 => k_is)
    (case l7 => k_is)
    (case c7 => k_is)
    (case k7 => k_is)
    (case a8 => k_is)
    (case l8 => k_is)
    (case c8 => k_is)
    (case k8 => k_is)
    (case a9 => k_is)
    (case l9 => k_is)
    (case c9 => k_is)
    (case k9 => k_is)
    (case a10 => k_is)
    (case l10 => k_is)
    (case c10 => k_is)
    (case k10 => k_is)
    (case a11 => k_is)
    (case l11 => k_is)
    (case c11 => k_is)
    (case k11 => k_is)
    (case a12 => k_is)
    (case l12 => k_is)
    (case c12 => k_is)
    (case k12 => k_is)
    (case a13 => k_is)
    (case l13 => k_is)
    (case c13 => k_is)
    (case k13 => k_is)
    (case a14 => k_is)
    (case l14 => k_is)
    (case c14 => k_is)
    (case k14 => k_is)
    (case a15 => k_is)
    (case l15 => k_is)
    (case c15 => k_is)
    (case k15 => k_is)
    (case z0 => k_is)
    (case z1 => k_is)
    (case z2 => k_is)
    (case z3 => k_is)
    (case z4 => k_is)
    (case z5 => k_is)
    (case z6 => k_is)
    (case z7 => k_is)
    (case z8 => k_is)
#print axioms PySem.Challenge.cw_covernets_k38_configurations_holds
