import PyProof.Rows.All
import Wide.All
import OpenK.AllK
import Wide.FinOn
import HandS.ForMost
import HandS.ForExc
import HandS.Deep
import HandS.ExcInit
import HandS.ExcField
import HandS.Style
import HandS.TupLe
import HandS.TupAny
import HandS.Wide
import HandS.Conv
import HandS.IsInst
import KE.KDictKeyed
import HandS.Zip
import HandS.More
import KE.KDictDisplayH
import HandS.TryOnly
import HandS.Defaults
import KE.KStateDown
import HandS.Head2
import HandS.HeadHook2
import PySem.Challenge.RW_mumtrial_k05_still_rounds
set_option linter.all false
set_option Elab.async false
namespace Pd

/-! Values as trees: tuples by value, lists handed in from outside by value (rol), all else that may change by its place. -/
inductive D where
  | non | bl (b : Bool) | int (i : Int) | str (s : List Nat) | tup (xs : List D) | rol (xs : List D) | ref (a : Nat)
  deriving Inhabited

namespace D
mutual
def beq : D → D → Bool
  | .non, .non => true
  | .bl a, .bl b => decide (a = b)
  | .int a, .int b => decide (a = b)
  | .str a, .str b => decide (a = b)
  | .tup a, .tup b => beqs a b
  | .rol a, .rol b => beqs a b
  | .ref a, .ref b => decide (a = b)
  | .non, .bl _ | .non, .int _ | .non, .str _ | .non, .tup _ | .non, .rol _ | .non, .ref _ => false
  | .bl _, .non | .bl _, .int _ | .bl _, .str _ | .bl _, .tup _ | .bl _, .rol _ | .bl _, .ref _ => false
  | .int _, .non | .int _, .bl _ | .int _, .str _ | .int _, .tup _ | .int _, .rol _ | .int _, .ref _ => false
  | .str _, .non | .str _, .bl _ | .str _, .int _ | .str _, .tup _ | .str _, .rol _ | .str _, .ref _ => false
  | .tup _, .non | .tup _, .bl _ | .tup _, .int _ | .tup _, .str _ | .tup _, .rol _ | .tup _, .ref _ => false
  | .rol _, .non | .rol _, .bl _ | .rol _, .int _ | .rol _, .str _ | .rol _, .tup _ | .rol _, .ref _ => false
  | .ref _, .non | .ref _, .bl _ | .ref _, .int _ | .ref _, .str _ | .ref _, .tup _ | .ref _, .rol _ => false
def beqs : List D → List D → Bool
  | [], [] => true
  | a :: as, b :: bs => beq a b && beqs as bs
  | [], _ :: _ => false
  | _ :: _, [] => false
end
mutual
theorem beq_self : ∀ a : D, beq a a = true
  | .non => rfl
  | .bl a => by simp [beq]
  | .int a => by simp [beq]
  | .str a => by simp [beq]
  | .tup a => by rw [beq]; exact beqs_self a
  | .rol a => by rw [beq]; exact beqs_self a
  | .ref a => by simp [beq]
theorem beqs_self : ∀ a : List D, beqs a a = true
  | [] => rfl
  | a :: as => by rw [beqs, beq_self a, beqs_self as]; rfl
end
mutual
theorem eq_of_beq : ∀ a b : D, beq a b = true → a = b
  | .non, b, h => by cases b <;> first | rfl | simp [beq] at h
  | .bl a, b, h => by cases b <;> first | (simp only [beq, decide_eq_true_eq] at h; rw [h]) | simp [beq] at h
  | .int a, b, h => by cases b <;> first | (simp only [beq, decide_eq_true_eq] at h; rw [h]) | simp [beq] at h
  | .str a, b, h => by cases b <;> first | (simp only [beq, decide_eq_true_eq] at h; rw [h]) | simp [beq] at h
  | .tup a, .tup b, h => by rw [beq] at h; rw [eq_of_beqs a b h]
  | .rol a, .rol b, h => by rw [beq] at h; rw [eq_of_beqs a b h]
  | .ref a, b, h => by cases b <;> first | (simp only [beq, decide_eq_true_eq] at h; rw [h]) | simp [beq] at h
  | .tup _, .non, h | .tup _, .bl _, h | .tup _, .int _, h | .tup _, .str _, h | .tup _, .rol _, h | .tup _, .ref _, h => by simp [beq] at h
  | .rol _, .non, h | .rol _, .bl _, h | .rol _, .int _, h | .rol _, .str _, h | .rol _, .tup _, h | .rol _, .ref _, h => by simp [beq] at h
theorem eq_of_beqs : ∀ a b : List D, beqs a b = true → a = b
  | [], [], _ => rfl
  | a :: as, b :: bs, h => by
    rw [beqs, Bool.and_eq_true] at h
    rw [eq_of_beq a b h.1, eq_of_beqs as bs h.2]
  | [], _ :: _, h => by simp [beqs] at h
  | _ :: _, [], h => by simp [beqs] at h
end
instance : DecidableEq D := fun a b => if h : beq a b = true then .isTrue (eq_of_beq a b h) else .isFalse fun e => h (e ▸ beq_self a)

mutual
/-- none, numbers, textsD, tuples of them: what == tells by itself -/
def pure : D → Bool
  | .non => true
  | .bl _ => false
  | .int _ => true
  | .str _ => true
  | .tup xs => pures xs
  | .rol xs => pures xs
  | .ref _ => false
def pures : List D → Bool
  | [] => true
  | x :: xs => pure x && pures xs
end
mutual
def depth : D → Nat
  | .tup xs => depths xs + 1
  | .rol xs => depths xs + 1
  | _ => 0
def depths : List D → Nat
  | [] => 0
  | x :: xs => max (depth x) (depths xs)
end
mutual
/-- what may be a dict's key -/
def keyish : D → Bool
  | .non => true
  | .int _ => true
  | .str _ => true
  | .tup xs => keyishs xs
  | _ => false
def keyishs : List D → Bool
  | [] => true
  | x :: xs => keyish x && keyishs xs
end
end D

inductive O where
  | lst (xs : List D) | dic (t : Bool) (kvs : List (D × D)) | ins (c : String) (fs : List (String × D))
  deriving Inhabited
abbrev G := Nat → Option O
def G.upd (g : G) (a : Nat) (o : O) : G := fun b => if b = a then some o else g b
def G.le (g h : G) : Prop := ∀ a o, g a = some o → h a = some o
theorem G.le_refl (g : G) : g.le g := fun _ _ h => h
theorem G.le_trans {a b c : G} (h : a.le b) (h' : b.le c) : a.le c := fun x o e => h' x o (h x o e)
@[simp] theorem G.upd_same {g : G} {a : Nat} {o : O} : g.upd a o a = some o := by simp [G.upd]
theorem G.upd_ne {g : G} {a b : Nat} {o : O} (h : b ≠ a) : g.upd a o b = g b := by simp [G.upd, h]
@[simp] theorem G.upd_upd {g : G} {a : Nat} {o u : O} : (g.upd a o).upd a u = g.upd a u := by
  funext b; simp only [G.upd]; split <;> rfl
theorem G.le_upd {g : G} {a : Nat} {o : O} (h : g a = none) : g.le (g.upd a o) := fun b u e => by
  have : b ≠ a := fun q => by rw [q, h] at e; cases e
  rw [G.upd_ne this]; exact e

/-- what stands in a slot: a value, an object of one's own that nobody else holds, one that was lent -/
inductive Sl where
  | d (x : D) | own (o : O) | bor (o : O)
abbrev Psi := List (Option Sl)
/-- what an expression gives: a value, a new object, the name of a slot -/
inductive R where
  | d (x : D) | own (o : O) | sl (i : Nat)
/-- what is to be read there -/
inductive C where
  | d (x : D) | o (x : O)

def lookD (g : G) : D → Option C
  | .ref a => (g a).map C.o
  | x => some (.d x)
def lookS (g : G) : Sl → Option C
  | .d x => lookD g x
  | .own o => some (.o o)
  | .bor o => some (.o o)
def look (ψ : Psi) (g : G) : R → Option C
  | .d x => lookD g x
  | .own o => some (.o o)
  | .sl i => match ψ[i]? with
    | some (some s) => lookS g s
    | _ => none

/-- an exception: its class and its fields -/
structure X where
  cls : String
  fs : List (String × D)

abbrev EX := X → Psi → G → Prop
abbrev WE := EX → Psi → G → (R → Psi → G → Prop) → Prop
abbrev WA := EX → Psi → G → (List R → Psi → G → Prop) → Prop
abbrev WT := EX → Psi → G → (Bool → Psi → G → Prop) → Prop
structure Ends where
  nx : Psi → G → Prop
  rt : R → G → Prop
  bk : Psi → G → Prop
  ct : Psi → G → Prop
  ex : EX
abbrev WS := Ends → Psi → G → Prop
abbrev WG := D → Psi → G → (Psi → G → Prop) → Prop
abbrev WI := EX → Psi → G → (List D → (Psi → G → Prop) → Psi → G → Prop) → Prop
/-- a def's promise: what it is handed, the objects, what is wanted of an exception, of its end -/
abbrev SpD := List Sl → G → (X → G → Prop) → (R → G → Prop) → Prop

/-- what stands behind is left alone while a value is worked out: a word that hangs on k keeps k as it is -/
def Hid {α : Sort _} (_ : α) : Type := Unit
def optQ {α : Type} (o : Option α) (k : α → Prop) (_ : Hid k := ()) : Prop := match o with
  | some x => k x
  | none => False
@[simp] theorem optQ_some {α : Type} {x : α} {k : α → Prop} : optQ (some x) k = k x := rfl
theorem optQ_of {α : Type} {o : Option α} {x : α} {k : α → Prop} (h : o = some x) (q : k x) : optQ o k := by rw [h]; exact q

/-- as a value that may be kept: an object of one's own is given away -/
def toD (r : R) (ψ : Psi) (g : G) (k : D → Psi → G → Prop) : Prop := match r with
  | .d x => k x ψ g
  | .own o => ∀ p, g p = none → k (.ref p) ψ (g.upd p o)
  | .sl i => match ψ[i]? with
    | some (some (.d x)) => k x ψ g
    | some (some (.own o)) => ∀ p, g p = none → k (.ref p) (ψ.set i (some (.d (.ref p)))) (g.upd p o)
    | _ => False
def toDs : List R → Psi → G → (List D → Psi → G → Prop) → Prop
  | [], ψ, g, k => k [] ψ g
  | r :: rs, ψ, g, k => toD r ψ g fun x ψ g => toDs rs ψ g fun xs ψ g => k (x :: xs) ψ g

/-! ### expressions -/
def eC (x : D) : WE := fun _ ψ g Q => Q (.d x) ψ g
def eVar (i : Nat) : WE := fun _ ψ g Q => match ψ[i]? with
  | some (some _) => Q (.sl i) ψ g
  | _ => False
def aNil : WA := fun _ ψ g Q => Q [] ψ g
def aCons (t : WE) (u : WA) : WA := fun E ψ g Q => t E ψ g fun r ψ g => u E ψ g fun rs ψ g => Q (r :: rs) ψ g
/-- an operation upon what is read -/
def eUn (f : G → C → Option R) (t : WE) : WE := fun E ψ g Q => t E ψ g fun r ψ g => optQ (look ψ g r) fun c => optQ (f g c) fun x => Q x ψ g
def eBin (f : G → C → C → Option R) (t u : WE) : WE := fun E ψ g Q => t E ψ g fun r ψ g => u E ψ g fun r' ψ g =>
  optQ (look ψ g r) fun c => optQ (look ψ g r') fun c' => optQ (f g c c') fun x => Q x ψ g
/-- is None, is not None, by the value alone -/
def isNon (ψ : Psi) : R → Option Bool
  | .d x => some (decide (x = .non))
  | .own _ => some false
  | .sl i => match ψ[i]? with
    | some (some (.d x)) => some (decide (x = .non))
    | some (some _) => some false
    | _ => none
def eIsN (neg : Bool) (t : WE) : WE := fun E ψ g Q => t E ψ g fun r ψ g => optQ (isNon ψ r) fun b => Q (.d (.bl (if neg then !b else b))) ψ g
/-- a tuple, a list, of what is written; an empty dict -/
def aDs (u : WA) (E : EX) (ψ : Psi) (g : G) (Q : List D → Psi → G → Prop) : Prop := u E ψ g fun rs ψ g => toDs rs ψ g Q
def dNil : EX → Psi → G → (List D → Psi → G → Prop) → Prop := fun _ ψ g Q => Q [] ψ g
def dCons (t : WE) (u : EX → Psi → G → (List D → Psi → G → Prop) → Prop) : EX → Psi → G → (List D → Psi → G → Prop) → Prop :=
  fun E ψ g Q => t E ψ g fun r ψ g => toD r ψ g fun x ψ g => u E ψ g fun xs ψ g => Q (x :: xs) ψ g
abbrev WD := EX → Psi → G → (List D → Psi → G → Prop) → Prop
def most : Nat := 16777216
def eTup (u : WD) : WE := fun E ψ g Q => u E ψ g fun xs ψ g => Q (.d (.tup xs)) ψ g
def eLst (u : WD) : WE := fun E ψ g Q => u E ψ g fun xs ψ g => Q (.own (.lst xs)) ψ g
def eDic (t : Bool) : WE := fun _ ψ g Q => Q (.own (.dic t [])) ψ g
/-- tests -/
def tV (t : WE) : WT := fun E ψ g Q => t E ψ g fun r ψ g => match look ψ g r with
  | some (.d (.bl b)) => Q b ψ g
  | _ => False
def tAnd (t u : WT) : WT := fun E ψ g Q => t E ψ g fun b ψ g => if b = true then u E ψ g Q else Q false ψ g
def tOr (t u : WT) : WT := fun E ψ g Q => t E ψ g fun b ψ g => if b = true then Q true ψ g else u E ψ g Q
def tNot (t : WT) : WT := fun E ψ g Q => t E ψ g fun b ψ g => Q (!b) ψ g
def eT (t : WT) : WE := fun E ψ g Q => t E ψ g fun b ψ g => Q (.d (.bl b)) ψ g
/-- .. as values: all but the last are truths -/
def eAnd (t u : WE) : WE := fun E ψ g Q => t E ψ g fun r ψ g => match look ψ g r with
  | some (.d (.bl b)) => if b = true then u E ψ g Q else Q (.d (.bl false)) ψ g
  | _ => False
def eOr (t u : WE) : WE := fun E ψ g Q => t E ψ g fun r ψ g => match look ψ g r with
  | some (.d (.bl b)) => if b = true then Q (.d (.bl true)) ψ g else u E ψ g Q
  | _ => False
def eNot (t : WE) : WE := fun E ψ g Q => t E ψ g fun r ψ g => match look ψ g r with
  | some (.d (.bl b)) => Q (.d (.bl (!b))) ψ g
  | _ => False
def eIf (c : WT) (t u : WE) : WE := fun E ψ g Q => c E ψ g fun b ψ g => if b = true then t E ψ g Q else u E ψ g Q
/-- a op b op' c -/
def eChain (f f' : G → C → C → Option R) (t u v : WE) : WE := fun E ψ g Q => t E ψ g fun r ψ g => u E ψ g fun r' ψ g =>
  optQ (look ψ g r) fun c => optQ (look ψ g r') fun c' => match f g c c' with
    | some (.d (.bl true)) => v E ψ g fun r'' ψ g => optQ (look ψ g r') fun c' => optQ (look ψ g r'') fun c'' => optQ (f' g c' c'') fun x => Q x ψ g
    | some (.d (.bl false)) => Q (.d (.bl false)) ψ g
    | _ => False
def eFld (c f : String) (t : WE) : WE := fun E ψ g Q => t E ψ g fun r ψ g => match look ψ g r with
  | some (.o (.ins c' fs)) => c' = c ∧ optQ (fs.lookup f) fun x => Q (.d x) ψ g
  | _ => False
/-- a built-in method that reads and changes its object: arguments as values, the new object, the answer -/
def wr (r : R) (o : O) (ψ : Psi) (g : G) (k : Psi → G → Prop) : Prop := match r with
  | .d (.ref a) => k ψ (g.upd a o)
  | .sl i => match ψ[i]? with
    | some (some (.own _)) => k (ψ.set i (some (.own o))) g
    | some (some (.d (.ref a))) => k ψ (g.upd a o)
    | _ => False
  | _ => False
def lstAt (ψ : Psi) (g : G) (r : R) : Prop := match look ψ g r with
  | some (.o (.lst _)) => True
  | _ => False
def eMut (f : List D → List D → Option (List D × D)) (t : WE) (u : WD) : WE := fun E ψ g Q => t E ψ g fun r ψ g => lstAt ψ g r ∧ u E ψ g fun ds ψ g =>
  match look ψ g r with
  | some (.o (.lst xs)) => optQ (f xs ds) fun p => wr r (.lst p.1) ψ g fun ψ g => Q (.d p.2) ψ g
  | _ => False
/-- .. with one argument that is read (extend) -/
def eMutC (f : List D → C → Option (List D)) (t u : WE) : WE := fun E ψ g Q => t E ψ g fun r ψ g => lstAt ψ g r ∧ u E ψ g fun r' ψ g =>
  match look ψ g r with
  | some (.o (.lst xs)) => optQ (look ψ g r') fun c => optQ (f xs c) fun o' => wr r (.lst o') ψ g fun ψ g => Q (.d .non) ψ g
  | _ => False

/-! ### calls -/
/-- given away where so marked (true) -/
def giveAll : List Bool → List R → Psi → G → (List R → Psi → G → Prop) → Prop
  | _, [], ψ, g, k => k [] ψ g
  | true :: ms, r :: rs, ψ, g, k => toD r ψ g fun x ψ g => giveAll ms rs ψ g fun rs ψ g => k (.d x :: rs) ψ g
  | false :: ms, r :: rs, ψ, g, k => giveAll ms rs ψ g fun rs ψ g => k (r :: rs) ψ g
  | [], _ :: _, _, _, _ => False
def lendS : Sl → Sl
  | .own o => .bor o
  | s => s
def lendR (ψ : Psi) : R → Option Sl
  | .d x => some (.d x)
  | .own o => some (.bor o)
  | .sl i => match ψ[i]? with
    | some (some s) => some (lendS s)
    | _ => none
def lendRs (ψ : Psi) : List R → Option (List Sl)
  | [] => some []
  | r :: rs => match lendR ψ r, lendRs ψ rs with
    | some s, some ss => some (s :: ss)
    | _, _ => none
/-- .. and the others are lent -/
def argsSl (ms : List Bool) (rs : List R) (ψ : Psi) (g : G) (k : List Sl → Psi → G → Prop) : Prop := giveAll ms rs ψ g fun rs ψ g => optQ (lendRs ψ rs) fun ss => k ss ψ g
def eCall (φ : SpD) (ms : List Bool) (u : WA) : WE := fun E ψ g Q => u E ψ g fun rs ψ g => argsSl ms rs ψ g fun ss ψ g =>
  φ ss g (fun x g' => E x ψ g') fun r g' => Q r ψ g'
/-- an instance of that class without such a field -/
def IsIns (g : G) (a : Nat) (c m : String) : Prop := match g a with
  | some (.ins c' fs) => c' = c ∧ fs.lookup m = none
  | _ => False
def eMeth (c m : String) (φ : SpD) (ms : List Bool) (t : WE) (u : WA) : WE := fun E ψ g Q => t E ψ g fun r ψ g => toD r ψ g fun x ψ g => match x with
  | .ref a => IsIns g a c m ∧ u E ψ g fun rs ψ g => argsSl ms rs ψ g fun ss ψ g => φ (.d (.ref a) :: ss) g (fun x g' => E x ψ g') fun r g' => Q r ψ g'
  | _ => False
def eNew (c : String) (φ : SpD) (ms : List Bool) (u : WA) : WE := fun E ψ g Q => u E ψ g fun rs ψ g => argsSl ms rs ψ g fun ss ψ g =>
  ∀ p, g p = none → φ (.d (.ref p) :: ss) (g.upd p (.ins c [])) (fun x g' => E x ψ g') fun r g' => r = .d .non ∧ Q (.d (.ref p)) ψ g'

/-! ### what is walked -/
def itemsC : C → Option (List D)
  | .d (.tup xs) => some xs
  | .d (.rol xs) => some xs
  | .o (.lst xs) => some xs
  | _ => none
/-- it stands as it stood -/
def still (r : R) (c : C) (ψ : Psi) (g : G) : Prop := match r with
  | .own _ => True
  | r => look ψ g r = some c
/-- no slot's name -/
def eNs (t : WE) : WE := fun E ψ g Q => t E ψ g fun r ψ g => match r with
  | .sl _ => False
  | r => Q r ψ g
def iIt (t : WE) : WI := fun E ψ g K => t E ψ g fun r ψ g => optQ (look ψ g r) fun c => optQ (itemsC c) fun xs => K xs (still r c) ψ g
def numbered : Nat → List D → List D
  | _, [] => []
  | n, x :: xs => .tup [.int (n : Int), x] :: numbered (n + 1) xs
def lstC : C → Option (List D)
  | .o (.lst xs) => some xs
  | .d (.rol xs) => some xs
  | _ => none
def tupC : C → Option (List D)
  | .d (.tup xs) => some xs
  | _ => none
def zipC (c c' : C) : Option (List D × List D) := match lstC c, lstC c' with
  | some xs, some ys => some (xs, ys)
  | _, _ => match tupC c, tupC c' with
    | some xs, some ys => some (xs, ys)
    | _, _ => none
def iEnum (t : WE) : WI := fun E ψ g K => t E ψ g fun r ψ g => optQ (look ψ g r) fun c => optQ (lstC c) fun xs => K (numbered 0 xs) (still r c) ψ g
def iRange (t : WE) : WI := fun E ψ g K => t E ψ g fun r ψ g => match look ψ g r with
  | some (.d (.int n)) => n < 4611686018427387904 ∧ -(4611686018427387904) ≤ n ∧ K ((List.range n.toNat).map fun i : Nat => D.int (i : Int)) (fun _ _ => True) ψ g
  | _ => False
def iRange2 (t u : WE) : WI := fun E ψ g K => t E ψ g fun r ψ g => u E ψ g fun r' ψ g => match look ψ g r with
  | some (.d (.int i)) => match look ψ g r' with
    | some (.d (.int j)) => (-(4611686018427387904) ≤ i ∧ i < 4611686018427387904 ∧ -(4611686018427387904) ≤ j ∧ j < 4611686018427387904) ∧ K ((List.range (j - i).toNat).map fun k : Nat => D.int (i + k)) (fun _ _ => True) ψ g
    | _ => False
  | _ => False
def iStr (t : WE) : WI := fun E ψ g K => t E ψ g fun r ψ g => match look ψ g r with
  | some (.d (.str s)) => K (s.map fun c => .str [c]) (fun _ _ => True) ψ g
  | _ => False
def pairUp : List D → List D → List D
  | x :: xs, y :: ys => .tup [x, y] :: pairUp xs ys
  | _, _ => []
def iZip (t u : WE) : WI := fun E ψ g K => t E ψ g fun r ψ g => u E ψ g fun r' ψ g => optQ (look ψ g r) fun c => optQ (look ψ g r') fun c' => optQ (zipC c c') fun p =>
  K (pairUp p.1 p.2) (fun ψ g => still r c ψ g ∧ still r' c' ψ g) ψ g
/-- targets -/
def gName (i : Nat) : WG := fun x ψ g Q => Q (ψ.set i (some (.d x))) g
def gAll : List WG → List D → Psi → G → (Psi → G → Prop) → Prop
  | [], [], ψ, g, Q => Q ψ g
  | t :: ts, x :: xs, ψ, g, Q => t x ψ g fun ψ g => gAll ts xs ψ g Q
  | _, _, _, _, _ => False
def gTup (ts : List WG) : WG := fun x ψ g Q => match x with
  | .tup xs => xs.length = ts.length ∧ gAll ts xs ψ g Q
  | _ => False
/-- comprehensions: vs the places of their own names -/
def wipe (ψ : Psi) : List Nat → Psi
  | [] => ψ
  | v :: vs => (wipe ψ vs).set v none
def noX : EX := fun _ _ _ => False
def lend : Option Sl → Option Sl
  | some (.own o) => some (.bor o)
  | s => s
def lendAll (ψ : Psi) : Psi := ψ.map lend
def compL (tg : WG) (tt : WT) (te : WE) (ok : Psi → G → Prop) (ψ0 ψw : Psi) : List D → List D → G → (List D → G → Prop) → Prop
  | [], acc, g, Q => Q acc g
  | x :: xs, acc, g, Q => tg x ψw g fun ψ1 g => tt noX ψ1 g fun b ψ2 g =>
    if b = true then te noX ψ2 g fun r ψ3 g => toD r ψ3 g fun d _ g => ok ψ0 g ∧ acc.length < most ∧ compL tg tt te ok ψ0 ψw xs (acc ++ [d]) g Q
    else ok ψ0 g ∧ compL tg tt te ok ψ0 ψw xs acc g Q
def tYes : WT := fun _ ψ g Q => Q true ψ g
def eComp (vs : List Nat) (it : WI) (tg : WG) (tt : WT) (te : WE) : WE := fun E ψ g Q => it E ψ g fun xs ok ψ g =>
  compL tg tt te ok ψ (wipe (lendAll ψ) vs) xs [] g fun acc g => Q (.own (.lst acc)) ψ g

/-! ### statements -/
def sNx : WS := fun Dn ψ g => Dn.nx ψ g
def sSeq (s t : WS) : WS := fun Dn ψ g => s { Dn with nx := t Dn } ψ g
def sBk : WS := fun Dn ψ g => Dn.bk ψ g
def sCt : WS := fun Dn ψ g => Dn.ct ψ g
def sE (t : WE) : WS := fun Dn ψ g => t Dn.ex ψ g fun _ ψ g => Dn.nx ψ g
/-- a slot stores what an expression gave -/
def bind (i : Nat) (r : R) (ψ : Psi) (g : G) (k : Psi → G → Prop) : Prop := match r with
  | .d x => k (ψ.set i (some (.d x))) g
  | .own o => k (ψ.set i (some (.own o))) g
  | .sl j => match ψ[j]? with
    | some (some (.d x)) => k (ψ.set i (some (.d x))) g
    | some (some (.bor o)) => k (ψ.set i (some (.bor o))) g
    | some (some (.own o)) => ∀ p, g p = none → k ((ψ.set j (some (.d (.ref p)))).set i (some (.d (.ref p)))) (g.upd p o)
    | _ => False
def sSet (i : Nat) (t : WE) : WS := fun Dn ψ g => t Dn.ex ψ g fun r ψ g => bind i r ψ g Dn.nx
/-- a, b = e -/
def sUnp (tg : WG) (t : WE) : WS := fun Dn ψ g => t Dn.ex ψ g fun r ψ g => toD r ψ g fun x ψ g => tg x ψ g Dn.nx
/-- a, b = e1, e2 at two names -/
def sPar (i j : Nat) (t u : WE) : WS := fun Dn ψ g => t Dn.ex ψ g fun r ψ g => toD r ψ g fun x ψ g => u Dn.ex ψ g fun r ψ g => toD r ψ g fun y ψ g =>
  Dn.nx ((ψ.set i (some (.d x))).set j (some (.d y))) g
def sIf (c : WT) (s t : WS) : WS := fun Dn ψ g => c Dn.ex ψ g fun b ψ g => if b = true then s Dn ψ g else t Dn ψ g
def retR (r : R) (ψ : Psi) (g : G) (k : R → G → Prop) : Prop := match r with
  | .d x => k (.d x) g
  | .own o => k (.own o) g
  | .sl i => match ψ[i]? with
    | some (some (.d x)) => k (.d x) g
    | some (some (.own o)) => k (.own o) g
    | _ => False
def sRet (t : WE) : WS := fun Dn ψ g => t Dn.ex ψ g fun r ψ g => retR r ψ g fun r g => ∃ g2, G.le g2 g ∧ Dn.rt r g2
def sRetN : WS := fun Dn ψ g => ∃ g2, G.le g2 g ∧ Dn.rt (.d .non) g2
/-- x[i] = e -/
def sSetIx (f : O → D → D → Option O) (tr ti tv : WE) : WS := fun Dn ψ g => tv Dn.ex ψ g fun v ψ g => toD v ψ g fun v ψ g => tr Dn.ex ψ g fun r ψ g => ti Dn.ex ψ g fun i ψ g => toD i ψ g fun i ψ g =>
  match look ψ g r with
  | some (.o o) => optQ (f o i v) fun o' => wr r o' ψ g Dn.nx
  | _ => False
def putF (f : String) (v : D) : List (String × D) → List (String × D)
  | [] => [(f, v)]
  | (h, w) :: r => if f = h then (h, v) :: r else (h, w) :: putF f v r
/-- x.f = e -/
def sFld (c f : String) (tr tv : WE) : WS := fun Dn ψ g => tv Dn.ex ψ g fun v ψ g => toD v ψ g fun v ψ g => tr Dn.ex ψ g fun r ψ g => toD r ψ g fun x ψ g => match x with
  | .ref a => (match g a with
    | some (.ins c' fs) => c' = c ∧ fs.length < 900 ∧ Dn.nx ψ (g.upd a (.ins c (putF f v fs)))
    | _ => False)
  | _ => False
def sRaise (c : String) (fs : List String) (u : WD) : WS := fun Dn ψ g => u Dn.ex ψ g fun ds ψ g => Dn.ex ⟨c, fs.zip ds⟩ ψ g
/-- try: body / except one class (cs: it and those under it) as slot i: h -/
def sTry (b : WS) (cs : List String) (h : X → WS) : WS := fun Dn ψ g => b { Dn with ex := fun x ψ g => if x.cls ∈ cs then h x Dn ψ g else Dn.ex x ψ g } ψ g
/-- the clause's suite gives one name a value: the clause's own name in slot i, or none -/
def hAs (i j : Nat) (t : X → Option D) : X → WS := fun x Dn ψ g => optQ (t x) fun y => Dn.nx (((ψ.set i none).set j (some (.d y))).set i none) g
def hOnly (j : Nat) (t : X → Option D) : X → WS := fun x Dn ψ g => optQ (t x) fun y => Dn.nx (ψ.set j (some (.d y))) g
def sTryAs (b : WS) (cs : List String) (i j : Nat) (t : X → Option D) : WS := fun Dn ψ g => i < ψ.length ∧ sTry b cs (hAs i j t) Dn ψ g
def sTryOnly (b : WS) (cs : List String) (j : Nat) (t : X → Option D) : WS := fun Dn ψ g => sTry b cs (hOnly j t) Dn ψ g
def whileN (c : WT) (b : WS) (Dn : Ends) : Nat → Psi → G → Prop
  | 0, _, _ => False
  | n + 1, ψ, g => c Dn.ex ψ g fun v ψ g => if v = true then
      b { Dn with nx := fun ψ' g' => ∃ g2, G.le g2 g' ∧ whileN c b Dn n ψ' g2, ct := fun ψ' g' => ∃ g2, G.le g2 g' ∧ whileN c b Dn n ψ' g2, bk := Dn.nx } ψ g
    else Dn.nx ψ g
def sWhile (c : WT) (b : WS) : WS := fun Dn ψ g => ∃ n, whileN c b Dn n ψ g
def forL (tg : WG) (b : WS) (Dn : Ends) (ok : Psi → G → Prop) : List D → Psi → G → Prop
  | [], ψ, g => Dn.nx ψ g
  | x :: xs, ψ, g => tg x ψ g fun ψ g => b { Dn with nx := fun ψ' g' => ∃ g2, G.le g2 g' ∧ ok ψ' g2 ∧ forL tg b Dn ok xs ψ' g2, ct := fun ψ' g' => ∃ g2, G.le g2 g' ∧ ok ψ' g2 ∧ forL tg b Dn ok xs ψ' g2, bk := Dn.nx } ψ g
def sFor (it : WI) (tg : WG) (b : WS) : WS := fun Dn ψ g => it Dn.ex ψ g fun xs ok ψ g => forL tg b Dn ok xs ψ g

/-- the end of a def -/
def endsOf (E : X → G → Prop) (Q : R → G → Prop) : Ends := ⟨fun _ g => ∃ g2, G.le g2 g ∧ Q (.d .non) g2, Q, fun _ _ => False, fun _ _ => False, fun x _ g => E x g⟩
/-- the slots of a def at its beginning -/
def begin_ (ss : List Sl) (n : Nat) : Psi := ss.map some ++ List.replicate n none
/-- the body keeps the promise -/
def Keeps (φ : SpD) (b : WS) (n : Nat) : Prop := ∀ ss g E Q, φ ss g E Q → b (endsOf E Q) (begin_ ss (n - ss.length)) g

/-! ### operations -/
def lenC : C → Option Int
  | .d (.str s) => if s.length ≤ most then some s.length else none
  | .d (.tup xs) => some xs.length
  | .d (.rol xs) => some xs.length
  | .o (.lst xs) => some xs.length
  | _ => none
def oLen : G → C → Option R := fun _ c => (lenC c).map fun n => .d (.int n)
def oIntP (f : Int → Int → Option D) : G → C → C → Option R
  | _, .d (.int i), .d (.int j) => (f i j).map R.d
  | _, _, _ => none
def oLt := oIntP fun i j => some (.bl (decide (i < j)))
def oLe := oIntP fun i j => some (.bl (decide (i ≤ j)))
def oGt := oIntP fun i j => some (.bl (decide (j < i)))
def oGe := oIntP fun i j => some (.bl (decide (j ≤ i)))
def oAdd : G → C → C → Option R
  | _, .d (.int i), .d (.int j) => some (.d (.int (i + j)))
  | _, .d (.str s), .d (.str t) => if s.length + t.length ≤ most then some (.d (.str (s ++ t))) else none
  | _, .d (.tup s), .d (.tup t) => if s.length + t.length ≤ most then some (.d (.tup (s ++ t))) else none
  | _, .o (.lst s), .o (.lst t) => if s.length + t.length ≤ most then some (.own (.lst (s ++ t))) else none
  | _, _, _ => none
def oSub := oIntP fun i j => some (.int (i - j))
def small (i : Int) : Prop := i.natAbs < 18446744073709551616
instance (i : Int) : Decidable (small i) := Nat.decLt _ _
/-- a product: one factor small, or both below some thousand bits -/
def oMul : G → C → C → Option R
  | _, .d (.int i), .d (.int j) => if small i ∨ small j then some (.d (.int (i * j))) else none
  | _, .o (.lst xs), .d (.int k) => if -(4611686018427387904) ≤ k ∧ k < 4611686018427387904 ∧ xs.length * k.toNat ≤ most then some (.own (.lst (List.replicate k.toNat xs).flatten)) else none
  | _, _, _ => none
def oMod := oIntP fun i j => if 0 < j then some (.int (i % j)) else none
def oDiv := oIntP fun i j => if 0 < j ∧ j < 1073741824 then some (.int (i / j)) else none
def oPow := oIntP fun i j => if 0 ≤ j ∧ j ≤ 1000 ∧ small i then some (.int (i ^ j.toNat)) else none
/-- lists within a value written out (to a depth) -/
def rsv : Nat → G → D → Option D
  | 0, _, x => if x.pure then some x else none
  | n + 1, g, x => if x.pure then some x else match x with
    | .ref a => (match g a with
      | some (.lst xs) => (xs.mapM (rsv n g)).map D.rol
      | _ => none)
    | .tup xs => (xs.mapM (rsv n g)).map D.tup
    | _ => none
def rsvC (g : G) : C → Option D
  | .d x => rsv 6 g x
  | .o (.lst xs) => (xs.mapM (rsv 6 g)).map D.rol
  | _ => none
def eqC (g : G) : C → C → Option Bool
  | .d (.bl a), .d (.bl b) => some (decide (a = b))
  | a, b => match rsvC g a, rsvC g b with
    | some x, some y => if x.depth ≤ 60 ∧ y.depth ≤ 60 then some (decide (x = y)) else none
    | _, _ => none
def oEq : G → C → C → Option R := fun g a b => (eqC g a b).map fun k => .d (.bl k)
def oNe : G → C → C → Option R := fun g a b => (eqC g a b).map fun k => .d (.bl (!k))
/-- flat things -/
def flatD : D → Bool
  | .non => true
  | .int _ => true
  | .str _ => true
  | _ => false
def keyOk : Bool → D → Bool
  | false, .int _ => true
  | false, .str _ => true
  | true, .tup xs => D.keyishs xs && decide (D.depths xs < 8)
  | _, _ => false
def hasK (kvs : List (D × D)) (k : D) : Bool := kvs.any fun p => decide (p.1 = k)
def lookK : List (D × D) → D → Option D
  | [], _ => none
  | p :: r, k => if p.1 = k then some p.2 else lookK r k
def putK : List (D × D) → D → D → List (D × D)
  | [], k, v => [(k, v)]
  | p :: r, k, v => if p.1 = k then (k, v) :: r else p :: putK r k v
def inC (g : G) : C → C → Option Bool
  | .d x, .o (.dic t kvs) => if keyOk t x then some (hasK kvs x) else none
  | .d x, .o (.lst xs) => if x.pure && D.pures xs && decide (x.depth ≤ 50) && decide (D.depths xs ≤ 50) then some (decide (x ∈ xs)) else none
  | .d x, .d (.rol xs) => if x.pure && D.pures xs && decide (x.depth ≤ 50) && decide (D.depths xs ≤ 50) then some (decide (x ∈ xs)) else none
  | .d x, .d (.tup xs) => if flatD x && xs.all flatD then some (decide (x ∈ xs)) else none
  | _, _ => none
def inT (g : G) (a b : C) : Option Bool := match a, b with
  | .d (.str [c]), .d (.str t) => some (decide (c ∈ t))
  | a, b => inC g a b
def oIn : G → C → C → Option R := fun g a b => (inT g a b).map fun k => .d (.bl k)
def oNin : G → C → C → Option R := fun g a b => (inC g a b).map fun k => .d (.bl (!k))
def idxOf (n : Nat) (i : Int) : Option Nat := if 0 ≤ i ∧ i < n then some i.toNat else if -(n : Int) ≤ i ∧ i < 0 then some (n + i).toNat else none
def atI {α : Type} (xs : List α) (i : Int) : Option α := (idxOf xs.length i).bind fun k => xs[k]?
def ixC : C → C → Option D
  | .d (.str s), .d (.int i) => if s.length ≤ most then (atI s i).map fun c => .str [c] else none
  | .d (.tup xs), .d (.int i) => atI xs i
  | .d (.rol xs), .d (.int i) => atI xs i
  | .o (.lst xs), .d (.int i) => atI xs i
  | .o (.dic t kvs), .d k => if keyOk t k then lookK kvs k else none
  | _, _ => none
def oIx : G → C → C → Option R := fun _ a b => (ixC a b).map R.d
def clampI (n : Nat) (i : Int) : Nat := if i < 0 then (n + i).toNat else min i.toNat n
def bndN (n d : Nat) : Option Int → Nat
  | some i => clampI n i
  | none => d
def cut {α : Type} (xs : List α) (lo hi : Option Int) : List α := (xs.take (bndN xs.length xs.length hi)).drop (bndN xs.length 0 lo)
def cutC (lo hi : Option Int) : C → Option R
  | .d (.str s) => if s.length ≤ most then some (.d (.str (cut s lo hi))) else none
  | .d (.tup xs) => some (.d (.tup (cut xs lo hi)))
  | .d (.rol xs) => some (.own (.lst (cut xs lo hi)))
  | .o (.lst xs) => some (.own (.lst (cut xs lo hi)))
  | _ => none
/-- x[lo:hi], each bound there or not -/
def bndQ (t : Option WE) (E : EX) (ψ : Psi) (g : G) (k : Option Int → Psi → G → Prop) : Prop := match t with
  | none => k none ψ g
  | some t => t E ψ g fun r ψ g => match look ψ g r with
    | some (.d (.int i)) => -(4611686018427387904) ≤ i ∧ i < 4611686018427387904 ∧ k (some i) ψ g
    | _ => False
def eCut (t : WE) (lo hi : Option WE) : WE := fun E ψ g Q => t E ψ g fun r ψ g => bndQ lo E ψ g fun a ψ g => bndQ hi E ψ g fun b ψ g =>
  optQ (look ψ g r) fun c => optQ (cutC a b c) fun x => Q x ψ g
def revC : C → Option R
  | .o (.lst xs) => some (.own (.lst xs.reverse))
  | _ => none
def oRev : G → C → Option R := fun _ c => revC c
def oList : G → C → Option R
  | _, .o (.lst xs) => some (.own (.lst xs))
  | _, .d (.tup xs) => some (.own (.lst xs))
  | _, .d (.rol xs) => some (.own (.lst xs))
  | _, _ => none
/-- list(d) of a dict -/
def oListD : G → C → Option R
  | _, .o (.dic _ kvs) => some (.own (.lst (kvs.map (·.1))))
  | _, _ => none
def oTuple : G → C → Option R
  | _, .o (.lst xs) => some (.d (.tup xs))
  | _, .d (.tup xs) => some (.d (.tup xs))
  | _, _ => none
def boolsD : List D → Option (List Bool)
  | [] => some []
  | .bl b :: r => (boolsD r).map (b :: ·)
  | _ => none
def oAll : G → C → Option R
  | _, .o (.lst xs) => (boolsD xs).map fun bs => .d (.bl (bs.all id))
  | _, _ => none
def intsD : List D → Option (List Int)
  | [] => some []
  | .int i :: r => (intsD r).map (i :: ·)
  | _ => none
def textsD : List D → Option (List (List Nat))
  | [] => some []
  | .str s :: r => (textsD r).map (s :: ·)
  | _ => none
def oNeg : G → C → Option R
  | _, .d (.int i) => some (.d (.int (-i)))
  | _, _ => none
def oSum : G → C → Option R
  | _, .o (.lst xs) => (intsD xs).map fun ns => .d (.int ns.sum)
  | _, _ => none
def oInt : G → C → Option R
  | _, .d (.int i) => some (.d (.int i))
  | _, .d (.bl b) => some (.d (.int (if b then 1 else 0)))
  | _, _ => none
def oMax2 := oIntP fun i j => some (.int (if j > i then j else i))
def oMin2 := oIntP fun i j => some (.int (if j < i then j else i))
/-- is True, is False -/
def oIsB (neg : Bool) : G → C → C → Option R
  | _, .d (.bl a), .d (.bl b) => some (.d (.bl (if neg then !decide (a = b) else decide (a = b))))
  | _, _, .d (.bl _) => some (.d (.bl neg))
  | _, _, _ => none
def joinL (sep : List Nat) : List (List Nat) → List Nat
  | [] => []
  | [x] => x
  | x :: r => x ++ sep ++ joinL sep r
def oJoin (sep : List Nat) : G → C → Option R
  | _, .o (.lst xs) => (textsD xs).bind fun ts => if (ts.map List.length).sum + ts.length * sep.length ≤ most then some (.d (.str (joinL sep ts))) else none
  | _, _ => none
/-- isinstance(x, one class) -/
inductive Ty where
  | str | int | bool | list | tuple
def isT : Ty → C → Option Bool
  | .str, .d (.str _) => some true
  | .int, .d (.int _) => some true
  | .int, .d (.bl _) => some true
  | .bool, .d (.bl _) => some true
  | .list, .o (.lst _) => some true
  | .list, .d (.rol _) => some true
  | .tuple, .d (.tup _) => some true
  | _, .d (.ref _) => none
  | _, .o (.ins _ _) => none
  | _, .o (.dic _ _) => none
  | _, _ => some false
def oIsT (t : Ty) : G → C → Option R := fun _ c => (isT t c).map fun b => .d (.bl b)
/-! methods -/
def mAppend : List D → List D → Option (List D × D)
  | xs, [x] => if xs.length < most then some (xs ++ [x], .non) else none
  | _, _ => none
def mPop : List D → List D → Option (List D × D)
  | xs, [] => (xs[xs.length - 1]?).map fun y => (xs.dropLast, y)
  | _, _ => none
def mPopAt : List D → List D → Option (List D × D)
  | xs, [.int i] => if -(4611686018427387904) ≤ i ∧ i < 4611686018427387904 then (idxOf xs.length i).bind fun k => (xs[k]?).map fun y => (xs.eraseIdx k, y) else none
  | _, _ => none
def mInsert : List D → List D → Option (List D × D)
  | xs, [.int i, y] => if xs.length < most ∧ 0 ≤ i ∧ i < 4611686018427387904 then some (xs.take i.toNat ++ [y] ++ xs.drop i.toNat, .non) else none
  | _, _ => none
def mReverse : List D → List D → Option (List D × D)
  | xs, [] => some (xs.reverse, .non)
  | _, _ => none
def mExtend : List D → C → Option (List D)
  | xs, .o (.lst ys) => if xs.length + ys.length ≤ most then some (xs ++ ys) else none
  | _, _ => none
def putIx : O → D → D → Option O
  | .lst xs, .int i, v => (idxOf xs.length i).map fun k => .lst (xs.set k v)
  | .dic t kvs, k, v => if keyOk t k = true ∧ kvs.length < most then some (.dic t (putK kvs k v)) else none
  | _, _, _ => none
/-- the greatest and the least of a list of ints -/
def topI : List Int → Option Int
  | [] => none
  | x :: xs => some (xs.foldl max x)
def lowI : List Int → Option Int
  | [] => none
  | x :: xs => some (xs.foldl min x)
def oMaxL : G → C → Option R
  | _, .o (.lst xs) => (intsD xs).bind fun bs => (topI bs).map fun m => .d (.int m)
  | _, _ => none
def oMinL : G → C → Option R
  | _, .o (.lst xs) => (intsD xs).bind fun bs => (lowI bs).map fun m => .d (.int m)
  | _, _ => none
def mClear : List D → List D → Option (List D × D)
  | _, [] => some ([], .non)
  | _, _ => none
def eDic1 (t : Bool) (tk tv : WE) : WE := fun E ψ g Q => tk E ψ g fun r ψ g => toD r ψ g fun k ψ g => tv E ψ g fun r ψ g => toD r ψ g fun v ψ g => keyOk t k = true ∧ Q (.own (.dic t [(k, v)])) ψ g
end Pd
set_option Elab.async false
set_option linter.all false
set_option maxRecDepth 100000
namespace Pd
open PySem PySem.Spec PyProof.Rows L2

/-- what is fixed through a law: the text, the world, the written part, where the classes stand -/
structure Bx where
  P : Program
  w : World
  K : PySem.W.Frag
  cl : String → Option Addr

def SqF (K : PySem.W.Frag) (H : Hp) (a : Addr) (xs : List V) : Prop :=
  (∃ o, H a = some (.frz o (.lst xs))) ∨
    ∃ (o : Obj) (its : Array Value) (n : Nat), K.lookup a = some o ∧ o.cls = .type "list" ∧ o.dict = none ∧ o.data = .seq its n ∧ its.size ≤ sizeLine ∧ Vals xs its.toList
theorem SqF.seq {K : PySem.W.Frag} {H : Hp} {a : Addr} {xs : List V} (h : SqF K H a xs) : SqL K H a xs := by
  rcases h with ⟨o, h⟩ | h
  · exact .inl (.inr ⟨o, h⟩)
  · exact .inr h

/-- signs that there are -/
def OkS (s : List Nat) : Prop := ∀ c ∈ s, c < 1114112
mutual
inductive RV (K : PySem.W.Frag) (H : Hp) : D → V → Prop
  | non : RV K H .non .non
  | bl (b : Bool) : RV K H (.bl b) (.bl b)
  | int (i : Int) : RV K H (.int i) (.int i)
  | str (s : List Nat) (h : OkS s) : RV K H (.str s) (.str ⟨s.toArray⟩)
  | ref (a : Nat) : RV K H (.ref a) (.ref a)
  | tup {p : Addr} {vs : List V} {ds : List D} : SqT K H p vs → RVs K H ds vs → RV K H (.tup ds) (.ref p)
  | rol {p : Addr} {vs : List V} {ds : List D} : SqF K H p vs → RVs K H ds vs → RV K H (.rol ds) (.ref p)
inductive RVs (K : PySem.W.Frag) (H : Hp) : List D → List V → Prop
  | nil : RVs K H [] []
  | cons {d : D} {v : V} {ds : List D} {vs : List V} : RV K H d v → RVs K H ds vs → RVs K H (d :: ds) (v :: vs)
end

/-- what never changes is kept -/
structure Keep (H H' : Hp) : Prop where
  tup : ∀ a xs, H a = some (.tup xs) → H' a = some (.tup xs)
  frl : ∀ a o xs, H a = some (.frz o (.lst xs)) → H' a = some (.frz o (.lst xs))
  frt : ∀ a o xs, H a = some (.frz o (.tup xs)) → H' a = some (.frz o (.tup xs))
  xd : ∀ a fs, H a = some (.xd fs) → H' a = some (.xd fs)
theorem Keep.refl (H : Hp) : Keep H H := ⟨fun _ _ h => h, fun _ _ _ h => h, fun _ _ _ h => h, fun _ _ h => h⟩
theorem Keep.trans {a b c : Hp} (x : Keep a b) (y : Keep b c) : Keep a c :=
  ⟨fun p q h => y.tup p q (x.tup p q h), fun p q r h => y.frl p q r (x.frl p q r h), fun p q r h => y.frt p q r (x.frt p q r h), fun p q h => y.xd p q (x.xd p q h)⟩
/-- what a write may stand upon -/
def Soft : Option HO → Prop
  | some (.tup _) => False
  | some (.frz _ _) => False
  | some (.xd _) => False
  | _ => True
theorem Keep.upd {H : Hp} {a : Addr} {o : HO} (h : Soft (H a)) : Keep H (L2.upd H a o) := by
  have ne : ∀ b u, H b = some u → ¬ Soft (some u) → b ≠ a := fun b u e n z => by subst z; rw [e] at h; exact n h
  exact ⟨fun b xs e => by rw [upd_ne (ne b _ e (fun z => z))]; exact e, fun b o xs e => by rw [upd_ne (ne b _ e (fun z => z))]; exact e,
    fun b o xs e => by rw [upd_ne (ne b _ e (fun z => z))]; exact e, fun b xs e => by rw [upd_ne (ne b _ e (fun z => z))]; exact e⟩
theorem Keep.new {H : Hp} {a : Addr} {o : HO} (h : H a = none) : Keep H (L2.upd H a o) := Keep.upd (by rw [h]; trivial)
theorem Keep.sqT {K : PySem.W.Frag} {H H' : Hp} {a : Addr} {xs : List V} (k : Keep H H') (h : SqT K H a xs) : SqT K H' a xs := by
  rcases h with (h | ⟨o, h⟩) | h
  · exact .inl (.inl (k.tup _ _ h))
  · exact .inl (.inr ⟨o, k.frt _ _ _ h⟩)
  · exact .inr h
theorem Keep.sqF {K : PySem.W.Frag} {H H' : Hp} {a : Addr} {xs : List V} (k : Keep H H') (h : SqF K H a xs) : SqF K H' a xs := by
  rcases h with ⟨o, h⟩ | h
  · exact .inl ⟨o, k.frl _ _ _ h⟩
  · exact .inr h
mutual
theorem RV.keep {K : PySem.W.Frag} {H H' : Hp} (k : Keep H H') : ∀ {d : D} {v : V}, RV K H d v → RV K H' d v
  | _, _, .non => .non
  | _, _, .bl b => .bl b
  | _, _, .int i => .int i
  | _, _, .str s h => .str s h
  | _, _, .ref a => .ref a
  | _, _, .tup h r => .tup (k.sqT h) (RVs.keep k r)
  | _, _, .rol h r => .rol (k.sqF h) (RVs.keep k r)
theorem RVs.keep {K : PySem.W.Frag} {H H' : Hp} (k : Keep H H') : ∀ {d : List D} {v : List V}, RVs K H d v → RVs K H' d v
  | _, _, .nil => .nil
  | _, _, .cons r t => .cons (RV.keep k r) (RVs.keep k t)
end
section
variable {K : PySem.W.Frag} {H : Hp}
theorem RVs.length : ∀ {ds : List D} {vs : List V}, RVs K H ds vs → ds.length = vs.length
  | _, _, .nil => rfl
  | _, _, .cons _ t => by simp [RVs.length t]
theorem RVs.append : ∀ {ds : List D} {vs : List V} {ds' : List D} {vs' : List V}, RVs K H ds vs → RVs K H ds' vs' → RVs K H (ds ++ ds') (vs ++ vs')
  | _, _, _, _, .nil, h => h
  | _, _, _, _, .cons r t, h => .cons r (RVs.append t h)
theorem RVs.get : ∀ {ds : List D} {vs : List V} {i : Nat} {d : D}, RVs K H ds vs → ds[i]? = some d → ∃ v, vs[i]? = some v ∧ RV K H d v
  | _, _, _, _, .nil, e => by simp at e
  | _, _, 0, _, .cons r _, e => by simp at e; subst e; exact ⟨_, rfl, r⟩
  | _, _, i + 1, d, .cons _ t, e => by
    obtain ⟨v, h1, h2⟩ := RVs.get (i := i) (d := d) t (by simpa using e)
    exact ⟨v, by simpa using h1, h2⟩
theorem RVs.take : ∀ {ds : List D} {vs : List V} (n : Nat), RVs K H ds vs → RVs K H (ds.take n) (vs.take n)
  | _, _, 0, _ => .nil
  | _, _, _ + 1, .nil => .nil
  | _, _, n + 1, .cons r t => .cons r (RVs.take n t)
theorem RVs.drop : ∀ {ds : List D} {vs : List V} (n : Nat), RVs K H ds vs → RVs K H (ds.drop n) (vs.drop n)
  | _, _, 0, r => r
  | _, _, _ + 1, .nil => .nil
  | _, _, n + 1, .cons _ t => RVs.drop n t
theorem RVs.set {d : D} {v : V} (r : RV K H d v) : ∀ {ds : List D} {vs : List V} (i : Nat), RVs K H ds vs → RVs K H (ds.set i d) (vs.set i v)
  | _, _, _, .nil => .nil
  | _, _, 0, .cons _ t => .cons r t
  | _, _, i + 1, .cons q t => .cons q (RVs.set r i t)
theorem RVs.eraseIdx : ∀ {ds : List D} {vs : List V} (i : Nat), RVs K H ds vs → RVs K H (ds.eraseIdx i) (vs.eraseIdx i)
  | _, _, _, .nil => .nil
  | _, _, 0, .cons _ t => t
  | _, _, i + 1, .cons q t => .cons q (RVs.eraseIdx i t)
theorem RVs.dropLast : ∀ {ds : List D} {vs : List V}, RVs K H ds vs → RVs K H ds.dropLast vs.dropLast
  | _, _, .nil => .nil
  | _, _, .cons _ .nil => .nil
  | _, _, .cons q (.cons r t) => .cons q (RVs.dropLast (.cons r t))
theorem RVs.reverse : ∀ {ds : List D} {vs : List V}, RVs K H ds vs → RVs K H ds.reverse vs.reverse
  | _, _, .nil => .nil
  | _, _, .cons q t => by rw [List.reverse_cons, List.reverse_cons]; exact (RVs.reverse t).append (.cons q .nil)
theorem RVs.rep {ds : List D} {vs : List V} (h : RVs K H ds vs) : ∀ k : Nat, RVs K H (List.replicate k ds).flatten (List.replicate k vs).flatten
  | 0 => .nil
  | k + 1 => by rw [List.replicate_succ, List.replicate_succ, List.flatten_cons, List.flatten_cons]; exact h.append (RVs.rep h k)
theorem RVs.isEmpty {ds : List D} {vs : List V} (h : RVs K H ds vs) : ds.isEmpty = vs.isEmpty := by cases h <;> rfl
end

/-- a dict whose keys are nested tuples: its entries as they stand -/
def dN (P : Program) (w : World) (a : Addr) (xs : List (NestedKey × Addr × Value)) : HO :=
  .ext fun h => ∃ o es ep, h.get? a = some o ∧ o.ExactDict ∧ o.data = .dict es ep ∧ es.toList = xs.map (entryOfKey (nestedKind P w))
mutual
def nk : D → Option NestedKey
  | .non => some .none
  | .int i => some (.num i)
  | .str s => some (.text ⟨s.toArray⟩)
  | .tup xs => (nks xs).map .tup
  | _ => none
def nks : List D → Option (List NestedKey)
  | [] => some []
  | x :: xs => match nk x, nks xs with
    | some k, some ks => some (k :: ks)
    | _, _ => none
end
def RDic (B : Bx) (H : Hp) (t : Bool) (kvs : List (D × D)) (a : Addr) : Prop := match t with
  | false => ∃ ks : List (Key × V), H a = some (.dK ks) ∧ (ks.map (·.1)).Nodup ∧ Paired (fun (p : D × D) (q : Key × V) => RV B.K H p.1 (kV q.1) ∧ RV B.K H p.2 q.2) kvs ks
  | true => (kvs = [] ∧ H a = some (.dK [])) ∨
    (∃ xs : List (NestedKey × Addr × Value), H a = some (dN B.P B.w a xs) ∧ (a == sysModules) = false ∧ (xs.map (·.1)).Nodup ∧ xs.length ≤ sizeLine ∧
      Paired (fun (p : D × D) (x : NestedKey × Addr × Value) => nk p.1 = some x.1 ∧ p.1.depth ≤ 8 ∧ RV B.K H p.1 (.ref x.2.1) ∧ ∃ v, RelV v x.2.2 ∧ RV B.K H p.2 v) kvs xs)
def RFs (K : PySem.W.Frag) (H : Hp) : List (String × D) → List (Str × V) → Prop := Paired fun p q => Str.ofString p.1 = q.1 ∧ RV K H p.2 q.2
def RO (B : Bx) (H : Hp) (o : O) (a : Addr) : Prop := match o with
  | .lst ds => ∃ vs, H a = some (.lst vs) ∧ RVs B.K H ds vs
  | .dic t kvs => RDic B H t kvs a
  | .ins c fs => ∃ C dx vfs, B.cl c = some C ∧ H a = some (.ins C dx vfs) ∧ RFs B.K H fs vfs
theorem RO.there {B : Bx} {H : Hp} {o : O} {a : Addr} (h : RO B H o a) : ∃ u, H a = some u ∧ Soft (some u) := by
  cases o with
  | lst ds => obtain ⟨vs, e, _⟩ := h; exact ⟨_, e, trivial⟩
  | dic t kvs =>
    cases t with
    | false => obtain ⟨ks, e, _⟩ := h; exact ⟨_, e, trivial⟩
    | true =>
      rcases h with ⟨_, e⟩ | ⟨xs, e, _⟩
      · exact ⟨_, e, trivial⟩
      · exact ⟨_, e, trivial⟩
  | ins c fs => obtain ⟨C, dx, vfs, _, e, _⟩ := h; exact ⟨_, e, trivial⟩
theorem RO.soft {B : Bx} {H : Hp} {o : O} {a : Addr} (h : RO B H o a) : Soft (H a) := by
  obtain ⟨u, e, s⟩ := h.there; rw [e]; exact s
theorem RO.keep {B : Bx} {H H' : Hp} {o : O} {a : Addr} (k : Keep H H') (e : H' a = H a) (h : RO B H o a) : RO B H' o a := by
  cases o with
  | lst ds => obtain ⟨vs, q, r⟩ := h; exact ⟨vs, e.trans q, r.keep k⟩
  | dic t kvs =>
    cases t with
    | false =>
      obtain ⟨ks, q, hn, r⟩ := h
      exact ⟨ks, e.trans q, hn, L2.Paired.mapP r fun _ _ z => ⟨z.1.keep k, z.2.keep k⟩⟩
    | true =>
      rcases h with ⟨h0, q⟩ | ⟨xs, q, h1, h2, h3, r⟩
      · exact .inl ⟨h0, e.trans q⟩
      exact .inr ⟨xs, e.trans q, h1, h2, h3, L2.Paired.mapP r fun _ _ ⟨z1, z2, z3, v, z4, z5⟩ => ⟨z1, z2, z3.keep k, v, z4, z5.keep k⟩⟩
  | ins c fs =>
    obtain ⟨C, dx, vfs, h1, q, r⟩ := h
    exact ⟨C, dx, vfs, h1, e.trans q, L2.Paired.mapP r fun _ _ z => ⟨z.1, z.2.keep k⟩⟩

abbrev Own := List (Addr × O)
def Glob (B : Bx) (g : G) (H : Hp) : Prop := ∀ a o, g a = some o → RO B H o a
def Owns (B : Bx) (g : G) (W : Own) (H : Hp) : Prop := (∀ p ∈ W, RO B H p.2 p.1 ∧ g p.1 = none) ∧ (W.map (·.1)).Nodup
def own1 : Option Sl → Option V → Own
  | some (.own o), some (.ref a) => [(a, o)]
  | _, _ => []
def ownL : Psi → L2.St → Own
  | s :: ψ, v :: σ => own1 s v ++ ownL ψ σ
  | _, _ => []
def SlRel (B : Bx) (F : Own) (H : Hp) : Sl → V → Prop
  | .d x, v => RV B.K H x v
  | .own _, v => ∃ a, v = .ref a
  | .bor o, v => ∃ a, v = .ref a ∧ (a, o) ∈ F
/-- the slots and objects as told lie in the slots and objects as tracked: F what was lent to the def, T what is at hand -/
structure Rel (B : Bx) (F : Own) (ψ : Psi) (g : G) (T : Own) (σ : L2.St) (H : Hp) : Prop where
  len : ψ.length = σ.length
  sl : ∀ (i : Nat) s, ψ[i]? = some (some s) → ∃ v, σ[i]? = some (some v) ∧ SlRel B F H s v
  gl : Glob B g H
  ow : Owns B g (ownL ψ σ ++ (T ++ F)) H

theorem Owns.perm {B : Bx} {g : G} {W W' : Own} {H : Hp} (h : Owns B g W H) (p : W.Perm W') : Owns B g W' H :=
  ⟨fun x hx => h.1 x (p.mem_iff.mpr hx), (p.map (·.1)).nodup_iff.mp h.2⟩
theorem Owns.sub {B : Bx} {g : G} {W W' : Own} {H : Hp} (h : Owns B g W H) (p : W'.Sublist W) : Owns B g W' H :=
  ⟨fun x hx => h.1 x (p.subset hx), h.2.sublist (p.map _)⟩
theorem ownL_set : ∀ {ψ : Psi} {σ : L2.St} {i : Nat}, ψ.length = σ.length → i < ψ.length →
    ∃ L s0 v0, ψ[i]? = some s0 ∧ σ[i]? = some v0 ∧ (ownL ψ σ).Perm (own1 s0 v0 ++ L) ∧ ∀ s v, (ownL (ψ.set i s) (σ.set i v)).Perm (own1 s v ++ L)
  | s :: ψ, v :: σ, 0, _, _ => ⟨ownL ψ σ, s, v, rfl, rfl, .refl _, fun _ _ => .refl _⟩
  | s :: ψ, v :: σ, i + 1, hl, hi => by
    obtain ⟨L, s0, v0, h1, h2, h3, h4⟩ := ownL_set (ψ := ψ) (σ := σ) (i := i) (by simpa using hl) (by simpa using hi)
    refine ⟨own1 s v ++ L, s0, v0, by simpa using h1, by simpa using h2, ?_, fun s' v' => ?_⟩
    · show (own1 s v ++ ownL ψ σ).Perm (own1 s0 v0 ++ (own1 s v ++ L))
      refine (h3.append_left _).trans ?_
      rw [← List.append_assoc, ← List.append_assoc]
      exact List.perm_append_comm.append_right _
    · show (own1 s v ++ ownL (ψ.set i s') (σ.set i v')).Perm (own1 s' v' ++ (own1 s v ++ L))
      refine ((h4 s' v').append_left _).trans ?_
      rw [← List.append_assoc, ← List.append_assoc]
      exact List.perm_append_comm.append_right _
theorem own1_set (σ : L2.St) (i : Nat) (v : Option V) (h : σ[i]? = some v) : σ.set i v = σ := by
  refine List.ext_getElem? fun j => ?_
  rw [List.getElem?_set]
  split
  · rename_i e; subst e
    split
    · exact h.symm
    · rename_i hl; rw [List.getElem?_eq_none (Nat.le_of_not_lt hl)] at h; cases h
  · rfl

section
variable {B : Bx} {F : Own} {ψ : Psi} {g : G} {T : Own} {σ : L2.St} {H H' : Hp}
theorem Rel.fresh (R : Rel B F ψ g T σ H) {p : Addr} (h : H p = none) : g p = none ∧ ∀ q ∈ ownL ψ σ ++ (T ++ F), q.1 ≠ p := by
  constructor
  · cases e : g p with
    | none => rfl
    | some o => obtain ⟨u, q, _⟩ := (R.gl p o e).there; rw [h] at q; cases q
  · rintro q hq rfl
    obtain ⟨u, e, _⟩ := (R.ow.1 q hq).1.there
    rw [h] at e; cases e
theorem SlRel.keep (k : Keep H H') {s : Sl} {v : V} (h : SlRel B F H s v) : SlRel B F H' s v := by
  cases s with
  | d x => exact RV.keep k h
  | own o => exact h
  | bor o => exact h
/-- the heap grows or changes elsewhere -/
theorem Rel.move (R : Rel B F ψ g T σ H) (k : Keep H H') (e1 : ∀ a o, g a = some o → H' a = H a) (e2 : ∀ p ∈ ownL ψ σ ++ (T ++ F), H' p.1 = H p.1) : Rel B F ψ g T σ H' :=
  ⟨R.len, fun i s h => let ⟨v, a, b⟩ := R.sl i s h; ⟨v, a, b.keep k⟩, fun a o h => (R.gl a o h).keep k (e1 a o h), fun p hp => ⟨((R.ow.1 p hp).1).keep k (e2 p hp), (R.ow.1 p hp).2⟩, R.ow.2⟩
theorem Rel.alloc (R : Rel B F ψ g T σ H) {p : Addr} {u : HO} (h : H p = none) : Rel B F ψ g T σ (L2.upd H p u) := by
  have hf := R.fresh h
  refine R.move (Keep.new h) (fun a o e => upd_ne fun z => ?_) fun q hq => upd_ne (hf.2 q hq)
  subst z; rw [hf.1] at e; cases e
theorem Rel.pushT (R : Rel B F ψ g T σ H) {p : Addr} {o : O} (h : RO B H o p) (hg : g p = none) (hn : ∀ q ∈ ownL ψ σ ++ (T ++ F), q.1 ≠ p) : Rel B F ψ g ((p, o) :: T) σ H := by
  refine ⟨R.len, R.sl, R.gl, ?_⟩
  refine Owns.perm (W := (p, o) :: (ownL ψ σ ++ (T ++ F))) ⟨fun q hq => ?_, ?_⟩ ?_
  · rcases List.mem_cons.mp hq with rfl | hq
    · exact ⟨h, hg⟩
    · exact R.ow.1 q hq
  · rw [List.map_cons, List.nodup_cons]
    refine ⟨fun hm => ?_, R.ow.2⟩
    obtain ⟨q, hq, e⟩ := List.mem_map.mp hm
    exact hn q hq e
  · exact List.perm_middle.symm
/-- a new object at hand -/
theorem Rel.new (R : Rel B F ψ g T σ H) {p : Addr} {u : HO} {o : O} (h : H p = none) (ho : RO B (L2.upd H p u) o p) : Rel B F ψ g ((p, o) :: T) σ (L2.upd H p u) :=
  (R.alloc h).pushT ho (R.fresh h).1 (R.fresh h).2
theorem Rel.dropT {T' : Own} (R : Rel B F ψ g (T' ++ T) σ H) : Rel B F ψ g T σ H :=
  ⟨R.len, R.sl, R.gl, R.ow.sub (List.Sublist.append (List.Sublist.refl _) (List.Sublist.append (List.sublist_append_right _ _) (List.Sublist.refl _)))⟩
theorem Rel.drop1 {p : Addr × O} (R : Rel B F ψ g (p :: T) σ H) : Rel B F ψ g T σ H := Rel.dropT (T' := [p]) R
theorem Rel.le (R : Rel B F ψ g T σ H) {g2 : G} (h : G.le g2 g) : Rel B F ψ g2 T σ H :=
  ⟨R.len, R.sl, fun a o e => R.gl a o (h a o e), fun p hp => ⟨(R.ow.1 p hp).1, by
    cases e : g2 p.1 with
    | none => rfl
    | some o => have := (R.ow.1 p hp).2; rw [h _ _ e] at this; cases this⟩, R.ow.2⟩
theorem Rel.lt (R : Rel B F ψ g T σ H) {i : Nat} {s : Option Sl} (h : ψ[i]? = some s) : i < ψ.length := (List.getElem?_eq_some_iff.mp h).1
/-- a slot stores a value -/
theorem Rel.setD (R : Rel B F ψ g T σ H) {i : Nat} {x : D} {v : V} (h : RV B.K H x v) : Rel B F (ψ.set i (some (.d x))) g T (σ.set i (some v)) H := by
  refine ⟨by simp [R.len], fun j s e => ?_, R.gl, ?_⟩
  · rw [List.getElem?_set] at e
    split at e
    · rename_i hij; subst hij
      split at e
      · rename_i hl
        cases e
        exact ⟨v, by rw [List.getElem?_set_self (by rw [← R.len]; exact hl)], h⟩
      · cases e
    · rename_i hij
      obtain ⟨u, a, b⟩ := R.sl j s e
      exact ⟨u, by rw [List.getElem?_set_ne hij]; exact a, b⟩
  · by_cases hi : i < ψ.length
    · obtain ⟨L, s0, v0, _, _, h3, h4⟩ := ownL_set R.len hi
      refine (R.ow.sub (W' := ownL ψ σ ++ (T ++ F)) (List.Sublist.refl _)).perm (h3.append_right _) |>.sub (W' := L ++ (T ++ F)) ?_ |>.perm ?_
      · rw [List.append_assoc]; exact List.sublist_append_right _ _
      · exact ((h4 (some (.d x)) (some v)).append_right _).symm
    · rw [List.set_eq_of_length_le (Nat.le_of_not_lt hi), List.set_eq_of_length_le (by rw [← R.len]; exact Nat.le_of_not_lt hi)]
      exact R.ow
/-- a slot is forgotten -/
theorem Rel.setN (R : Rel B F ψ g T σ H) {i : Nat} {v : Option V} : Rel B F (ψ.set i none) g T (σ.set i v) H := by
  refine ⟨by simp [R.len], fun j s e => ?_, R.gl, ?_⟩
  · rw [List.getElem?_set] at e
    split at e
    · split at e <;> cases e
    · rename_i hij
      obtain ⟨u, a, b⟩ := R.sl j s e
      exact ⟨u, by rw [List.getElem?_set_ne hij]; exact a, b⟩
  · by_cases hi : i < ψ.length
    · obtain ⟨L, s0, v0, _, _, h3, h4⟩ := ownL_set R.len hi
      refine R.ow.perm (h3.append_right _) |>.sub (W' := L ++ (T ++ F)) ?_ |>.perm ?_
      · rw [List.append_assoc]; exact List.sublist_append_right _ _
      · exact ((h4 none v).append_right _).symm
    · rw [List.set_eq_of_length_le (Nat.le_of_not_lt hi), List.set_eq_of_length_le (by rw [← R.len]; exact Nat.le_of_not_lt hi)]
      exact R.ow
/-- a slot takes an object at hand -/
theorem Rel.setOwn {a : Addr} {o : O} (R : Rel B F ψ g ((a, o) :: T) σ H) {i : Nat} (hi : i < ψ.length) : Rel B F (ψ.set i (some (.own o))) g T (σ.set i (some (.ref a))) H := by
  refine ⟨by simp [R.len], fun j s e => ?_, R.gl, ?_⟩
  · rw [List.getElem?_set] at e
    split at e
    · rename_i hij; subst hij
      cases e
      exact ⟨.ref a, by rw [List.getElem?_set_self (by rw [← R.len]; exact hi)], a, rfl⟩
    · rename_i hij
      obtain ⟨u, a, b⟩ := R.sl j s e
      exact ⟨u, by rw [List.getElem?_set_ne hij]; exact a, b⟩
  · obtain ⟨L, s0, v0, _, _, h3, h4⟩ := ownL_set R.len hi
    refine R.ow.perm (h3.append_right _) |>.sub (W' := L ++ ((a, o) :: T ++ F)) ?_ |>.perm ?_
    · rw [List.append_assoc]; exact List.sublist_append_right _ _
    · refine List.Perm.trans ?_ ((h4 (some (.own o)) (some (.ref a))).append_right _).symm
      exact List.perm_middle
/-- a slot takes what was lent -/
theorem Rel.setBor (R : Rel B F ψ g T σ H) {i : Nat} {a : Addr} {o : O} (h : (a, o) ∈ F) : Rel B F (ψ.set i (some (.bor o))) g T (σ.set i (some (.ref a))) H := by
  refine ⟨by simp [R.len], fun j s e => ?_, R.gl, ?_⟩
  · rw [List.getElem?_set] at e
    split at e
    · rename_i hij; subst hij
      split at e
      · rename_i hl
        cases e
        exact ⟨.ref a, by rw [List.getElem?_set_self (by rw [← R.len]; exact hl)], a, rfl, h⟩
      · cases e
    · rename_i hij
      obtain ⟨u, a, b⟩ := R.sl j s e
      exact ⟨u, by rw [List.getElem?_set_ne hij]; exact a, b⟩
  · by_cases hi : i < ψ.length
    · obtain ⟨L, s0, v0, _, _, h3, h4⟩ := ownL_set R.len hi
      refine R.ow.perm (h3.append_right _) |>.sub (W' := L ++ (T ++ F)) ?_ |>.perm ?_
      · rw [List.append_assoc]; exact List.sublist_append_right _ _
      · exact ((h4 (some (.bor o)) (some (.ref a))).append_right _).symm
    · rw [List.set_eq_of_length_le (Nat.le_of_not_lt hi), List.set_eq_of_length_le (by rw [← R.len]; exact Nat.le_of_not_lt hi)]
      exact R.ow
/-- the object of a slot: where it stands -/
theorem Rel.ownAt (R : Rel B F ψ g T σ H) {i : Nat} {o : O} (h : ψ[i]? = some (some (.own o))) :
    ∃ a L, σ[i]? = some (some (.ref a)) ∧ (ownL ψ σ ++ (T ++ F)).Perm ((a, o) :: (L ++ (T ++ F))) ∧ ∀ s v, (ownL (ψ.set i s) (σ.set i v) ++ (T ++ F)).Perm (own1 s v ++ (L ++ (T ++ F))) := by
  obtain ⟨v, e, a, rfl⟩ := R.sl i _ h
  obtain ⟨L, s0, v0, h1, h2, h3, h4⟩ := ownL_set R.len (R.lt h)
  rw [h] at h1; cases h1
  rw [e] at h2; cases h2
  refine ⟨a, L, e, h3.append_right _, fun s v => ?_⟩
  refine ((h4 s v).append_right (T ++ F)).trans ?_
  rw [List.append_assoc]
/-- what is at hand is given away -/
theorem Rel.giveT {a : Addr} {o : O} (R : Rel B F ψ g ((a, o) :: T) σ H) : g a = none ∧ Rel B F ψ (g.upd a o) T σ H := by
  have hp : (ownL ψ σ ++ ((a, o) :: T ++ F)).Perm ((a, o) :: (ownL ψ σ ++ (T ++ F))) := List.perm_middle
  have hw := R.ow.perm hp
  have h0 := hw.1 (a, o) (List.Mem.head _)
  refine ⟨h0.2, R.len, R.sl, fun b u e => ?_, fun q hq => ?_, ?_⟩
  · by_cases hb : b = a
    · subst hb; rw [G.upd_same] at e; cases e; exact h0.1
    · rw [G.upd_ne hb] at e; exact R.gl b u e
  · refine ⟨(hw.1 q (List.Mem.tail _ hq)).1, ?_⟩
    have hne : q.1 ≠ a := fun z => by
      have := hw.2
      rw [List.map_cons, List.nodup_cons] at this
      exact this.1 (List.mem_map.mpr ⟨q, hq, z⟩)
    rw [G.upd_ne hne]; exact (hw.1 q (List.Mem.tail _ hq)).2
  · have := hw.2
    rw [List.map_cons, List.nodup_cons] at this
    exact this.2
theorem Rel.giveS (R : Rel B F ψ g T σ H) {i : Nat} {o : O} (h : ψ[i]? = some (some (.own o))) : ∃ a, σ[i]? = some (some (.ref a)) ∧ g a = none ∧ Rel B F (ψ.set i (some (.d (.ref a)))) (g.upd a o) T σ H := by
  obtain ⟨a, L, e, hp, h4⟩ := R.ownAt h
  have hw := R.ow.perm hp
  have h0 := hw.1 (a, o) (List.Mem.head _)
  have hnd := hw.2
  rw [List.map_cons, List.nodup_cons] at hnd
  refine ⟨a, e, h0.2, by simp [R.len], fun j s q => ?_, fun b u q => ?_, ?_⟩
  · rw [List.getElem?_set] at q
    split at q
    · rename_i hij; subst hij
      split at q <;> cases q
      exact ⟨_, e, .ref a⟩
    · exact R.sl j s q
  · by_cases hb : b = a
    · subst hb; rw [G.upd_same] at q; cases q; exact h0.1
    · rw [G.upd_ne hb] at q; exact R.gl b u q
  · have hq := h4 (some (.d (.ref a))) (some (.ref a))
    rw [own1_set σ i _ e] at hq
    refine Owns.perm (W := L ++ (T ++ F)) ⟨fun q hq => ?_, hnd.2⟩ hq.symm
    refine ⟨(hw.1 q (List.Mem.tail _ hq)).1, ?_⟩
    have hne : q.1 ≠ a := fun z => hnd.1 (List.mem_map.mpr ⟨q, hq, z⟩)
    rw [G.upd_ne hne]; exact (hw.1 q (List.Mem.tail _ hq)).2
/-- the object of a slot is written -/
theorem Rel.writeS (R : Rel B F ψ g T σ H) {i : Nat} {o o' : O} {a : Addr} {u : HO} (h : ψ[i]? = some (some (.own o))) (e : σ[i]? = some (some (.ref a))) (ho : RO B (L2.upd H a u) o' a) :
    Rel B F (ψ.set i (some (.own o'))) g T σ (L2.upd H a u) ∧ Keep H (L2.upd H a u) := by
  obtain ⟨a', L, e', hp, h4⟩ := R.ownAt h
  rw [e] at e'; cases e'
  have hw := R.ow.perm hp
  have h0 := hw.1 (a, o) (List.Mem.head _)
  have hnd := hw.2
  rw [List.map_cons, List.nodup_cons] at hnd
  have k : Keep H (L2.upd H a u) := Keep.upd h0.1.soft
  refine ⟨⟨by simp [R.len], fun j s q => ?_, fun b v q => ?_, ?_⟩, k⟩
  · rw [List.getElem?_set] at q
    split at q
    · rename_i hij; subst hij
      split at q <;> cases q
      exact ⟨_, e, a, rfl⟩
    · obtain ⟨v, x, y⟩ := R.sl j s q
      exact ⟨v, x, y.keep k⟩
  · refine (R.gl b v q).keep k (upd_ne fun z => ?_)
    subst z; rw [h0.2] at q; cases q
  · have hq := h4 (some (.own o')) (some (.ref a))
    rw [own1_set σ i _ e] at hq
    refine Owns.perm (W := (a, o') :: (L ++ (T ++ F))) ⟨fun q hq => ?_, by rw [List.map_cons, List.nodup_cons]; exact hnd⟩ hq.symm
    rcases List.mem_cons.mp hq with rfl | hq
    · exact ⟨ho, h0.2⟩
    · refine ⟨((hw.1 q (List.Mem.tail _ hq)).1).keep k (upd_ne fun z => hnd.1 (List.mem_map.mpr ⟨q, hq, z⟩)), (hw.1 q (List.Mem.tail _ hq)).2⟩
/-- a known object is written -/
theorem Rel.writeG (R : Rel B F ψ g T σ H) {o o' : O} {a : Addr} {u : HO} (h : g a = some o) (ho : RO B (L2.upd H a u) o' a) :
    Rel B F ψ (g.upd a o') T σ (L2.upd H a u) ∧ Keep H (L2.upd H a u) := by
  have k : Keep H (L2.upd H a u) := Keep.upd (R.gl a o h).soft
  have ne : ∀ q ∈ ownL ψ σ ++ (T ++ F), q.1 ≠ a := fun q hq z => by
    have := (R.ow.1 q hq).2; rw [z, h] at this; cases this
  refine ⟨⟨R.len, fun j s q => ?_, fun b v q => ?_, fun q hq => ?_, R.ow.2⟩, k⟩
  · obtain ⟨v, x, y⟩ := R.sl j s q
    exact ⟨v, x, y.keep k⟩
  · by_cases hb : b = a
    · subst hb; rw [G.upd_same] at q; cases q; exact ho
    · rw [G.upd_ne hb] at q
      exact (R.gl b v q).keep k (upd_ne hb)
  · exact ⟨((R.ow.1 q hq).1).keep k (upd_ne (ne q hq)), by rw [G.upd_ne (ne q hq)]; exact (R.ow.1 q hq).2⟩
end

/-- what an expression gave -/
def RR (B : Bx) (r : R) (v : V) (T T1 : Own) (σ : L2.St) (H : Hp) : Prop := match r with
  | .d x => RV B.K H x v ∧ T1 = T
  | .own o => ∃ a, v = .ref a ∧ T1 = (a, o) :: T
  | .sl i => σ[i]? = some (some v) ∧ T1 = T
theorem RR.suffix {B : Bx} {r : Pd.R} {v : V} {T T1 : Own} {σ : L2.St} {H : Hp} (h : RR B r v T T1 σ H) : ∃ T', T1 = T' ++ T := by
  cases r with
  | d x => exact ⟨[], h.2⟩
  | own o => obtain ⟨a, _, e⟩ := h; exact ⟨[(a, o)], e⟩
  | sl i => exact ⟨[], h.2⟩
theorem RR.keep {B : Bx} {r : Pd.R} {v : V} {T T1 : Own} {σ : L2.St} {H H' : Hp} (k : Keep H H') (h : RR B r v T T1 σ H) : RR B r v T T1 σ H' := by
  cases r with
  | d x => exact ⟨h.1.keep k, h.2⟩
  | own o => exact h
  | sl i => exact h
/-- what is read there -/
def RC (B : Bx) (H : Hp) : C → V → Prop
  | .d x, v => RV B.K H x v
  | .o o, v => ∃ a, v = .ref a ∧ RO B H o a
section
variable {B : Bx} {F : Own} {ψ : Psi} {g : G} {T T1 : Own} {σ : L2.St} {H H' : Hp}
theorem Rel.lookD (R : Rel B F ψ g T σ H) {x : D} {v : V} {c : C} (h : RV B.K H x v) (e : lookD g x = some c) : RC B H c v := by
  cases h with
  | ref a =>
    obtain ⟨o, h1, rfl⟩ := Option.map_eq_some_iff.mp e
    exact ⟨a, rfl, R.gl a o h1⟩
  | non => cases e; exact .non
  | bl b => cases e; exact .bl b
  | int i => cases e; exact .int i
  | str s h => cases e; exact .str s h
  | tup h r => cases e; exact .tup h r
  | rol h r => cases e; exact .rol h r
theorem Rel.look {T2 : Own} (R : Rel B F ψ g T2 σ H) {r : Pd.R} {v : V} {c : C} (h : RR B r v T T1 σ H) (e : look ψ g r = some c) (hT : ∃ T', T2 = T' ++ T1) : RC B H c v := by
  cases r with
  | d x => exact R.lookD h.1 e
  | own o =>
    obtain ⟨a, rfl, rfl⟩ := h
    obtain ⟨T', rfl⟩ := hT
    cases e
    exact ⟨a, rfl, (R.ow.1 (a, o) (by simp)).1⟩
  | sl i =>
    have e' : (match ψ[i]? with | some (some s) => lookS g s | _ => none) = some c := e
    cases q : ψ[i]? with
    | none => rw [q] at e'; cases e'
    | some s =>
      cases s with
      | none => rw [q] at e'; cases e'
      | some s =>
        rw [q] at e'
        obtain ⟨u, h1, h2⟩ := R.sl i s q
        rw [h.1] at h1; cases h1
        cases s with
        | d x => exact R.lookD h2 e'
        | own o =>
          cases e'
          obtain ⟨a, L, e2, hp, _⟩ := R.ownAt q
          rw [h.1] at e2; cases e2
          exact ⟨a, rfl, (R.ow.1 (a, o) (hp.mem_iff.mpr (List.Mem.head _))).1⟩
        | bor o =>
          cases e'
          obtain ⟨a, rfl, hF⟩ := h2
          exact ⟨a, rfl, (R.ow.1 (a, o) (by simp [hF])).1⟩
/-- as a value to keep -/
theorem Rel.toD (R : Rel B F ψ g T1 σ H) {r : Pd.R} {v : V} {k : D → Psi → G → Prop} (h : RR B r v T T1 σ H) (q : toD r ψ g k) : ∃ x ψ1 g1, k x ψ1 g1 ∧ RV B.K H x v ∧ Rel B F ψ1 g1 T σ H := by
  cases r with
  | d x => exact ⟨x, ψ, g, q, h.1, by have := h.2; subst this; exact R⟩
  | own o =>
    obtain ⟨a, rfl, rfl⟩ := h
    obtain ⟨h1, h2⟩ := R.giveT
    exact ⟨.ref a, ψ, _, q a h1, .ref a, h2⟩
  | sl i =>
    obtain ⟨h1, rfl⟩ := h
    have q' : (match ψ[i]? with | some (some (.d x)) => k x ψ g | some (some (.own o)) => ∀ p, g p = none → k (.ref p) (ψ.set i (some (.d (.ref p)))) (g.upd p o) | _ => False) := q
    cases e : ψ[i]? with
    | none => rw [e] at q'; exact q'.elim
    | some s =>
      cases s with
      | none => rw [e] at q'; exact q'.elim
      | some s =>
        rw [e] at q'
        cases s with
        | d x =>
          obtain ⟨u, e1, e2⟩ := R.sl i _ e
          rw [h1] at e1; cases e1
          exact ⟨x, ψ, g, q', e2, R⟩
        | own o =>
          obtain ⟨a, e1, e2, R'⟩ := R.giveS e
          rw [h1] at e1; cases e1
          exact ⟨.ref a, _, _, q' a e2, .ref a, R'⟩
        | bor o => exact q'.elim
end
end Pd
set_option Elab.async false
set_option linter.all false
set_option maxRecDepth 100000
set_option maxHeartbeats 1000000
namespace Pd
open PySem PySem.Spec PyProof.Rows L2

/-- an exception as told: its class, its fields in its own dict -/
def RX (ec : String → Option Addr) (K : PySem.W.Frag) (x : Pd.X) (cls : Value) (dx : Option Addr) (H : Hp) : Prop :=
  (∃ c, ec x.cls = some c ∧ cls = .ref c) ∧ ∀ f v, x.fs.lookup f = some v → ∃ d fs u, dx = some d ∧ H d = some (.xd fs) ∧ fs.lookup (Str.ofString f) = some u ∧ RV K H v u
theorem RX.keep {ec : String → Option Addr} {K : PySem.W.Frag} {x : Pd.X} {cls : Value} {dx : Option Addr} {H H' : Hp} (k : Keep H H') (h : RX ec K x cls dx H) : RX ec K x cls dx H' :=
  ⟨h.1, fun f v e => let ⟨d, fs, u, h1, h2, h3, h4⟩ := h.2 f v e; ⟨d, fs, u, h1, k.xd _ _ h2, h3, h4.keep k⟩⟩
/-- the classes: of instances, of exceptions -/
structure Tb where
  cl : String → Option Addr
  ec : String → Option Addr
abbrev bx (X : Cx) (tb : Tb) : Bx := ⟨X.prog, X.w, X.K, tb.cl⟩
def ExOk (B : Bx) (ec : String → Option Addr) (W : WX) (E : EX) (F T : Own) (σ : L2.St) (H0 : Hp) : Prop :=
  ∀ x ψ g H cls dx, E x ψ g → Rel B F ψ g T σ H → RX ec B.K x cls dx H → Keep H0 H → W cls dx σ H
section
variable {B : Bx} {ec : String → Option Addr} {W : WX} {E : EX} {F T T' : Own} {σ : L2.St} {H0 H1 : Hp}
theorem ExOk.more (h : ExOk B ec W E F T σ H0) (k : Keep H0 H1) : ExOk B ec W E F (T' ++ T) σ H1 :=
  fun x ψ g H cls dx e R rx kk => h x ψ g H cls dx e R.dropT rx (k.trans kk)
theorem ExOk.on (h : ExOk B ec W E F T σ H0) (k : Keep H0 H1) : ExOk B ec W E F T σ H1 := ExOk.more (T' := []) h k
theorem ExOk.none : ExOk B ec W noX F T σ H0 := fun _ _ _ _ _ _ e => e.elim
end
section
variable (X : Cx) (tb : Tb) (W : WX)
def RefE (t : WE) (t0 : TE) : Prop := ∀ (E : EX) (F T : Own) (ψ : Psi) (g : G) (σ : L2.St) (H : Hp) (Q' : R → Psi → G → Prop) (Q : VK),
  Rel (bx X tb) F ψ g T σ H → ExOk (bx X tb) tb.ec W E F T σ H → t E ψ g Q' →
  (∀ r ψ1 g1 T1 v H1, Q' r ψ1 g1 → RR (bx X tb) r v T T1 σ H1 → Rel (bx X tb) F ψ1 g1 T1 σ H1 → Keep H H1 → Q v H1) → t0 σ H Q
def RefD (t : WD) (t0 : TA) (n : Nat) : Prop := ∀ (E : EX) (F T : Own) (ψ : Psi) (g : G) (σ : L2.St) (H : Hp) (Q' : List D → Psi → G → Prop) (Q : List V → Hp → Prop),
  Rel (bx X tb) F ψ g T σ H → ExOk (bx X tb) tb.ec W E F T σ H → t E ψ g Q' →
  (∀ ds ψ1 g1 vs H1, Q' ds ψ1 g1 → RVs X.K H1 ds vs → ds.length = n → Rel (bx X tb) F ψ1 g1 T σ H1 → Keep H H1 → Q vs H1) → t0 σ H Q
def RefT (t : WT) (t0 : TT) : Prop := ∀ (E : EX) (F T : Own) (ψ : Psi) (g : G) (σ : L2.St) (H : Hp) (Q' : Bool → Psi → G → Prop) (Q : Bool → Hp → Prop),
  Rel (bx X tb) F ψ g T σ H → ExOk (bx X tb) tb.ec W E F T σ H → t E ψ g Q' →
  (∀ b ψ1 g1 H1, Q' b ψ1 g1 → Rel (bx X tb) F ψ1 g1 T σ H1 → Keep H H1 → Q b H1) → t0 σ H Q
inductive RRs (B : Bx) (σ : L2.St) (H : Hp) : List R → List V → Own → Own → Prop
  | nil {T : Own} : RRs B σ H [] [] T T
  | cons {r : R} {v : V} {rs : List R} {vs : List V} {T T1 T2 : Own} : RR B r v T T1 σ H → RRs B σ H rs vs T1 T2 → RRs B σ H (r :: rs) (v :: vs) T T2
def RefA (t : WA) (t0 : TA) : Prop := ∀ (E : EX) (F T : Own) (ψ : Psi) (g : G) (σ : L2.St) (H : Hp) (Q' : List R → Psi → G → Prop) (Q : List V → Hp → Prop),
  Rel (bx X tb) F ψ g T σ H → ExOk (bx X tb) tb.ec W E F T σ H → t E ψ g Q' →
  (∀ rs ψ1 g1 T1 vs H1, Q' rs ψ1 g1 → RRs (bx X tb) σ H1 rs vs T T1 → Rel (bx X tb) F ψ1 g1 T1 σ H1 → Keep H H1 → Q vs H1) → t0 σ H Q
end
def DE (X : Cx) (tb : Tb) (e : Expr) (t : WE) : Prop := ∀ W : WX, Takes X W → ∃ t0, PE X e t0 ∧ RefE X tb W t t0
def DD (X : Cx) (tb : Tb) (es : List Expr) (t : WD) : Prop := ∀ W : WX, Takes X W → ∃ t0, PA X es t0 ∧ RefD X tb W t t0 es.length
def DA (X : Cx) (tb : Tb) (es : List Expr) (t : WA) : Prop := ∀ W : WX, Takes X W → ∃ t0, PA X es t0 ∧ RefA X tb W t t0
def DT (X : Cx) (tb : Tb) (e : Expr) (t : WT) : Prop := ∀ W : WX, Takes X W → ∃ t0, PT X e t0 ∧ RefT X tb W t t0
def DW (X : Cx) (tb : Tb) (e : Expr) (t : WT) : Prop := ∀ W : WX, Takes X W → ∃ t0, PW X e t0 ∧ RefT X tb W t t0
theorem DW.dt {X : Cx} {tb : Tb} {e : Expr} {t : WT} (h : DW X tb e t) : DT X tb e t := fun W tk => let ⟨t0, a, b⟩ := h W tk; ⟨t0, a.pt, b⟩

section
variable {X : Cx} {tb : Tb} {e a b : Expr} {ta te : WE} {u : WE} {pos : Pos}
/-! ### names, constants -/
theorem de_var (i : Nat) {x : Str} (hN : X.N[i]? = some x := by rfl) (hv : Vis X.env.scope x := by first | exact Or.inl rfl | exact Or.inr (Or.inl rfl) | exact Or.inr (Or.inr rfl)) (hd : (x == ("__debug__" : Str)) = false := by decide)
    (hcd : (x == ("__classdict__" : Str)) = false := by decide) : DE X tb (.Name x pos) (eVar i) := fun W tk =>
  ⟨_, pe_var hN hv hd hcd, fun E F T ψ g σ H Q' Q R ex q k => by
    have q' : (match ψ[i]? with | some (some _) => Q' (.sl i) ψ g | _ => False) := q
    cases e : ψ[i]? with
    | none => rw [e] at q'; exact q'.elim
    | some s =>
      cases s with
      | none => rw [e] at q'; exact q'.elim
      | some s =>
        rw [e] at q'
        obtain ⟨v, h1, h2⟩ := R.sl i s e
        exact ⟨v, h1, k _ ψ g T v H q' ⟨h1, rfl⟩ R (Keep.refl H)⟩⟩
theorem refC {W : WX} {x : D} {v : V} (h : ∀ H, RV X.K H x v) : RefE X tb W (eC x) (tC v) := fun E F T ψ g σ H Q' Q R ex q k => k _ ψ g T v H q ⟨h H, rfl⟩ R (Keep.refl H)
theorem de_int {i : Int} {j : Nat} : DE X tb (.Constant (.int i) j pos) (eC (.int i)) := fun W tk => ⟨_, pe_int, refC fun _ => .int i⟩
theorem de_bl {i : Bool} {j : Nat} : DE X tb (.Constant (.bool i) j pos) (eC (.bl i)) := fun W tk => ⟨_, pe_bl, refC fun _ => .bl i⟩
theorem de_non {j : Nat} : DE X tb (.Constant .none j pos) (eC .non) := fun W tk => ⟨_, pe_non, refC fun _ => .non⟩
theorem de_str (s : List Nat) {x : Str} {j : Nat} (h : x = ⟨s.toArray⟩ := by decide +kernel) (hs : (s.all fun c => decide (c < 1114112)) = true := by rfl) : DE X tb (.Constant (.str x) j pos) (eC (.str s)) := fun W tk => ⟨_, pe_str, refC fun _ => by rw [h]; exact .str s fun c hc => of_decide_eq_true (List.all_eq_true.mp hs c hc)⟩
/-- a constant of the module -/
structure GlV (mg : Str → Option Value) (K : PySem.W.Frag) (x : Str) (d : D) : Prop where
  is : ∃ u v, mg x = some u ∧ RelV v u ∧ ∀ H, RV K H d v
theorem de_glob {x : Str} {d : D} (h : GlV X.mg X.K x d) (hg : Gl X x := by rfl) (hd : (x == ("__debug__" : Str)) = false := by decide) : DE X tb (.Name x pos) (eC d) := fun W tk => by
  obtain ⟨u, v, h1, h2, h3⟩ := h.is
  exact ⟨_, pe_glob hg h1 h2 hd, refC h3⟩

/-! ### operations by what is read -/
def OpOk (X : Cx) (tb : Tb) (f : G → C → C → Option R) (r : R2) : Prop := ∀ (F T : Own) (ψ : Psi) (g : G) (σ : L2.St) (H : Hp) (c c' : C) (x y : V) (z : R) (Q : VK),
  Rel (bx X tb) F ψ g T σ H → RC (bx X tb) H c x → RC (bx X tb) H c' y → f g c c' = some z →
  (∀ v T1 H1, RR (bx X tb) z v T T1 σ H1 → Rel (bx X tb) F ψ g T1 σ H1 → Keep H H1 → Q v H1) → r x y H Q
theorem optQ_inv {α : Type} {o : Option α} {k : α → Prop} (h : optQ o k) : ∃ x, o = some x ∧ k x := by
  cases o with
  | none => exact h.elim
  | some x => exact ⟨x, rfl, h⟩
theorem look_keep {B : Bx} {F T T1 : Own} {ψ : Psi} {g : G} {σ : L2.St} {H : Hp} {r : Pd.R} {v : V} {c : C} {T2 : Own} (R : Rel B F ψ g T2 σ H) (h : RR B r v T T1 σ H) (e : look ψ g r = some c) (hT : ∃ T', T2 = T' ++ T1) : RC B H c v := R.look h e hT
theorem ref_bin {W : WX} {f : G → C → C → Option R} {r : R2} {t1 t2 : TE} (ho : OpOk X tb f r) (ha : RefE X tb W ta t1) (hb : RefE X tb W u t2) : RefE X tb W (eBin f ta u) (tOp r t1 t2) :=
  fun E F T ψ g σ H Q' Q R ex q k => ha E F T ψ g σ H _ _ R ex q fun r1 ψ1 g1 T1 v1 H1 q1 rr1 R1 k1 => by
    obtain ⟨T', rfl⟩ := rr1.suffix
    refine hb E F (T' ++ T) ψ1 g1 σ H1 _ _ R1 (ex.more k1) q1 fun r2 ψ2 g2 T2 v2 H2 q2 rr2 R2 k2 => ?_
    obtain ⟨T'', rfl⟩ := rr2.suffix
    obtain ⟨c, e1, q3⟩ := optQ_inv q2
    obtain ⟨c', e2, q4⟩ := optQ_inv q3
    obtain ⟨z, e3, q5⟩ := optQ_inv q4
    have x1 := R2.look (rr1.keep k2) e1 ⟨T'', rfl⟩
    have x2 := R2.look rr2 e2 ⟨[], rfl⟩
    exact ho F T ψ2 g2 σ H2 c c' v1 v2 z Q (Rel.dropT (Rel.dropT R2)) x1 x2 e3 fun v T3 H3 rr R3 k3 => k z ψ2 g2 T3 v H3 q5 rr R3 ((k1.trans k2).trans k3)
theorem de_bin {op : Operator} {f : G → C → C → Option R} {r : R2} (ho : OpR X (binaryOp op) r) (ok : OpOk X tb f r) (ha : DE X tb a ta) (hb : DE X tb b u) : DE X tb (.BinOp a op b pos) (eBin f ta u) := fun W tk =>
  let ⟨_, h1, h2⟩ := ha W tk
  let ⟨_, h3, h4⟩ := hb W tk
  ⟨_, pe_op ho h1 h3, ref_bin ok h2 h4⟩
theorem de_cmp {op : CmpOp} {f : G → C → C → Option R} {r : R2} (ho : OpR X (compareOp op) r) (ok : OpOk X tb f r) (ha : DE X tb a ta) (hb : DE X tb b u) (hm : behindInMarks op b = false := by first | exact nomark b | rfl) : DE X tb (.Compare a [op] [b] pos) (eBin f ta u) := fun W tk =>
  let ⟨_, h1, h2⟩ := ha W tk
  let ⟨_, h3, h4⟩ := hb W tk
  ⟨_, pe_cmpR ho h1 h3 hm, ref_bin ok h2 h4⟩
def UnOk (X : Cx) (tb : Tb) (f : G → C → Option R) (r : V → Hp → VK → Prop) : Prop := ∀ (F T : Own) (ψ : Psi) (g : G) (σ : L2.St) (H : Hp) (c : C) (x : V) (z : R) (Q : VK),
  Rel (bx X tb) F ψ g T σ H → RC (bx X tb) H c x → f g c = some z →
  (∀ v T1 H1, RR (bx X tb) z v T T1 σ H1 → Rel (bx X tb) F ψ g T1 σ H1 → Keep H H1 → Q v H1) → r x H Q
theorem ref_un {W : WX} {f : G → C → Option R} {r : V → Hp → VK → Prop} {t1 : TE} (ho : UnOk X tb f r) (ha : RefE X tb W ta t1) : RefE X tb W (eUn f ta) (tUn r t1) :=
  fun E F T ψ g σ H Q' Q R ex q k => ha E F T ψ g σ H _ _ R ex q fun r1 ψ1 g1 T1 v1 H1 q1 rr1 R1 k1 => by
    obtain ⟨T', rfl⟩ := rr1.suffix
    obtain ⟨c, e1, q3⟩ := optQ_inv q1
    obtain ⟨z, e3, q5⟩ := optQ_inv q3
    have x1 := R1.look rr1 e1 ⟨[], rfl⟩
    exact ho F T ψ1 g1 σ H1 c v1 z Q (Rel.dropT R1) x1 e3 fun v T3 H3 rr R3 k3 => k z ψ1 g1 T3 v H3 q5 rr R3 (k1.trans k3)
theorem de_un {op : UnaryOp} {f : G → C → Option R} {r : V → Hp → VK → Prop} (ho : UnR X (unaryOp op) r) (ok : UnOk X tb f r) (ha : DE X tb a ta) : DE X tb (.UnaryOp op a pos) (eUn f ta) := fun W tk =>
  let ⟨_, h1, h2⟩ := ha W tk
  ⟨_, pe_un ho h1, ref_un ok h2⟩
/-- a built-in of one argument -/
theorem de_call1 {x : Str} {w' : Value} {p : Pos} {f : G → C → Option R} {r : List V → Hp → VK → Prop} (hr : CallR X w' r) (ok : UnOk X tb f fun v H Q => r [v] H Q) (hp : ∀ (t : TA), PA X [a] t → PE X (.Call (.Name x p) [a] [] pos) (fun σ H Q => t σ H fun vs H1 => r vs H1 Q))
    (ha : DE X tb a ta) (hs : starEach [a] X.env = (false, eval a X.env) :: starEach [] X.env := by rfl) : DE X tb (.Call (.Name x p) [a] [] pos) (eUn f ta) := fun W tk => by
  obtain ⟨t1, h1, h2⟩ := ha W tk
  exact ⟨_, hp _ (pa_cons h1 pa_nil hs), ref_un ok h2⟩
end
end Pd
set_option Elab.async false
set_option linter.all false
set_option maxRecDepth 100000
set_option maxHeartbeats 1000000
namespace Pd
open PySem PySem.Spec PyProof.Rows L2
section
variable {X : Cx} {tb : Tb}
/-- a new list, a new tuple, is handed on -/
theorem give_lst {F T : Own} {ψ : Psi} {g : G} {σ : L2.St} {H : Hp} {ds : List D} {vs : List V} {Q : VK} (R : Rel (bx X tb) F ψ g T σ H) (r : RVs X.K H ds vs)
    (k : ∀ v T1 H1, RR (bx X tb) (.own (.lst ds)) v T T1 σ H1 → Rel (bx X tb) F ψ g T1 σ H1 → Keep H H1 → Q v H1) : ∀ p, H p = none → Q (.ref p) (L2.upd H p (.lst vs)) := fun p hp => by
  have kp : Keep H (L2.upd H p (.lst vs)) := Keep.new hp
  exact k _ _ _ ⟨p, rfl, rfl⟩ (R.new hp ⟨_, upd_same, r.keep kp⟩) kp
theorem give_tup {F T : Own} {ψ : Psi} {g : G} {σ : L2.St} {H : Hp} {ds : List D} {vs : List V} {Q : VK} (R : Rel (bx X tb) F ψ g T σ H) (r : RVs X.K H ds vs)
    (k : ∀ v T1 H1, RR (bx X tb) (.d (.tup ds)) v T T1 σ H1 → Rel (bx X tb) F ψ g T1 σ H1 → Keep H H1 → Q v H1) : ∀ p, H p = none → Q (.ref p) (L2.upd H p (.tup vs)) := fun p hp => by
  have kp : Keep H (L2.upd H p (.tup vs)) := Keep.new hp
  exact k _ T _ ⟨.tup (.inl (.inl upd_same)) (r.keep kp), rfl⟩ (R.alloc hp) kp
theorem most_eq : most = sizeLine := by decide
theorem small_lr {i : Int} (h : small i) : -(2 ^ 64) < i ∧ i < 2 ^ 64 := by
  have h' : i.natAbs < 18446744073709551616 := h
  constructor <;> omega
/-! ### whole numbers -/
theorem oIntP_inv {f : Int → Int → Option D} {g : G} {c c' : C} {z : R} (h : oIntP f g c c' = some z) : ∃ i j d, c = .d (.int i) ∧ c' = .d (.int j) ∧ f i j = some d ∧ z = .d d := by
  unfold oIntP at h
  split at h
  · obtain ⟨d, e, rfl⟩ := Option.map_eq_some_iff.mp h
    exact ⟨_, _, d, rfl, rfl, e, rfl⟩
  · cases h
theorem ok_int {f : Int → Int → Option D} {Cd : Int → Int → Prop} {gv : Int → Int → V} (h : ∀ i j d, f i j = some d → Cd i j ∧ ∀ H, RV X.K H d (gv i j)) : OpOk X tb (oIntP f) (rI Cd gv) :=
  fun F T ψ g σ H c c' x y z Q R hc hc' e k => by
    obtain ⟨i, j, d, rfl, rfl, e1, rfl⟩ := oIntP_inv e
    cases hc; cases hc'
    obtain ⟨h1, h2⟩ := h i j d e1
    exact ⟨i, j, rfl, rfl, h1, k _ T H ⟨h2 H, rfl⟩ R (Keep.refl H)⟩
theorem ok_int0 {f : Int → Int → D} {gv : Int → Int → V} (h : ∀ i j H, RV X.K H (f i j) (gv i j)) : OpOk X tb (oIntP fun i j => some (f i j)) (rI0 gv) :=
  fun F T ψ g σ H c c' x y z Q R hc hc' e k => by
    obtain ⟨i, j, d, rfl, rfl, e1, rfl⟩ := oIntP_inv e
    cases hc; cases hc'; cases e1
    exact ⟨i, j, rfl, rfl, k _ T H ⟨h i j H, rfl⟩ R (Keep.refl H)⟩
theorem ok_lt : OpOk X tb oLt (rI0 fun i j => .bl (decide (i < j))) := ok_int0 fun _ _ _ => .bl _
theorem ok_le : OpOk X tb oLe (rI0 fun i j => .bl (decide (i ≤ j))) := ok_int0 fun _ _ _ => .bl _
theorem ok_gt : OpOk X tb oGt (rI0 fun i j => .bl (decide (j < i))) := ok_int0 fun _ _ _ => .bl _
theorem ok_ge : OpOk X tb oGe (rI0 fun i j => .bl (decide (j ≤ i))) := ok_int0 fun _ _ _ => .bl _
theorem ok_sub : OpOk X tb oSub (rI0 fun i j => .int (i - j)) := ok_int0 fun _ _ _ => .int _
theorem ok_mod : OpOk X tb oMod (rI (fun _ j => 0 < j) fun i j => .int (i % j)) := ok_int fun i j d e => by
  split at e
  · rename_i h; cases e; exact ⟨h, fun _ => .int _⟩
  · cases e
theorem ok_div : OpOk X tb oDiv (rI CDiv fun i j => .int (i / j)) := ok_int fun i j d e => by
  split at e
  · rename_i h; cases e; exact ⟨h, fun _ => .int _⟩
  · cases e
theorem ok_pow : OpOk X tb oPow (rI CPow fun i j => .int (i ^ j.toNat)) := ok_int fun i j d e => by
  split at e
  · rename_i h
    cases e
    obtain ⟨h1, h2, h3⟩ := h
    have h4 := small_lr h3
    exact ⟨⟨h1, by omega, by omega⟩, fun _ => .int _⟩
  · cases e
/-! ### a sum: numbers, texts, tuples, lists -/
def rAddS : R2 := fun x y H Q => ∃ i j, x = .str i ∧ y = .str j ∧ i.length + j.length ≤ sizeLine ∧ Q (.str (i ++ j)) H
def rAddAll (K : PySem.W.Frag) : R2 := fun x y H Q => rI0 (fun i j => .int (i + j)) x y H Q ∨ (rAddS x y H Q ∨ (rCatA K x y H Q ∨ rCat x y H Q))
theorem op_addAll : OpR X (binaryOp .Add) (rAddAll X.K) := op_add.or (OpR.or op_add_str (op_catA.or op_cat))
theorem str_app (s t : List Nat) : ((⟨s.toArray⟩ : Str) ++ ⟨t.toArray⟩ : Str) = ⟨(s ++ t).toArray⟩ := by
  show Str.append _ _ = _
  simp [Str.append]
theorem ok_add : OpOk X tb oAdd (rAddAll X.K) := fun F T ψ g σ H c c' x y z Q R hc hc' e k => by
  unfold oAdd at e
  split at e
  · cases hc; cases hc'; cases e
    exact .inl ⟨_, _, rfl, rfl, k _ T H ⟨.int _, rfl⟩ R (Keep.refl H)⟩
  · split at e
    · rename_i s t h
      cases hc with | str _ o1 => ?_
      cases hc' with | str _ o2 => ?_
      cases e
      refine .inr (.inl ⟨_, _, rfl, rfl, ?_, ?_⟩)
      · rw [← most_eq]; simpa [Str.length] using h
      · rw [str_app]; exact k _ T H ⟨.str _ fun c hc => (List.mem_append.mp hc).elim (o1 c) (o2 c), rfl⟩ R (Keep.refl H)
    · cases e
  · split at e
    · rename_i s t h
      cases e
      obtain ⟨hx, rx⟩ : ∃ p vs, x = .ref p ∧ SqT X.K H p vs ∧ RVs X.K H s vs := by cases hc with | tup a b => exact ⟨_, _, rfl, a, b⟩
      obtain ⟨vs, rfl, hx, rx⟩ := rx
      obtain ⟨q, ws, rfl, hy, ry⟩ : ∃ p vs, y = .ref p ∧ SqT X.K H p vs ∧ RVs X.K H t vs := by cases hc' with | tup a b => exact ⟨_, _, rfl, a, b⟩
      refine .inr (.inr (.inl ⟨_, _, vs, ws, rfl, rfl, hx, hy, by rw [← most_eq, ← rx.length, ← ry.length]; exact h, fun e0 => ?_, fun _ e0 => ?_, fun _ _ p hp => ?_⟩))
      · subst e0
        cases rx
        exact k _ T H ⟨.tup hy ry, rfl⟩ R (Keep.refl H)
      · subst e0
        cases ry
        rw [List.append_nil] at k
        exact k _ T H ⟨.tup hx rx, rfl⟩ R (Keep.refl H)
      · have kp : Keep H (L2.upd H p (.tup (vs ++ ws))) := Keep.new hp
        exact k _ T _ ⟨.tup (.inl (.inl upd_same)) ((rx.append ry).keep kp), rfl⟩ (R.alloc hp) kp
    · cases e
  · split at e
    · rename_i s t h
      cases e
      obtain ⟨a, rfl, vs, ha, rx⟩ := hc
      obtain ⟨b, rfl, ws, hb, ry⟩ := hc'
      refine .inr (.inr (.inr ⟨a, b, vs, ws, rfl, rfl, ha, hb, by rw [← most_eq, ← rx.length, ← ry.length]; exact h, fun p hp => ?_⟩))
      have kp : Keep H (L2.upd H p (.lst (vs ++ ws))) := Keep.new hp
      exact k _ _ _ ⟨p, rfl, rfl⟩ (R.new hp ⟨_, upd_same, (rx.append ry).keep kp⟩) kp
    · cases e
  · cases e
def rMulAll : R2 := fun x y H Q => rI CMul (fun i j => .int (i * j)) x y H Q ∨ rRep x y H Q
theorem op_mulAll : OpR X (binaryOp .Mult) rMulAll := op_mul.or op_rep
theorem ok_mul : OpOk X tb oMul rMulAll := fun F T ψ g σ H c c' x y z Q R hc hc' e k => by
  unfold oMul at e
  split at e
  · split at e
    · rename_i h
      cases hc; cases hc'; cases e
      exact .inl ⟨_, _, rfl, rfl, h.imp small_lr small_lr, k _ T H ⟨.int _, rfl⟩ R (Keep.refl H)⟩
    · cases e
  · split at e
    · rename_i xs n h
      cases e; cases hc'
      obtain ⟨a, rfl, vs, ha, rx⟩ := hc
      obtain ⟨h1, h2, h3⟩ := h
      refine .inr ⟨a, n, vs, rfl, rfl, ha, by omega, by omega, by rw [← most_eq, ← rx.length]; exact h3, fun p hp => ?_⟩
      have kp : Keep H (L2.upd H p (.lst (List.replicate n.toNat vs).flatten)) := Keep.new hp
      exact k _ _ _ ⟨p, rfl, rfl⟩ (R.new hp ⟨_, upd_same, (rx.rep _).keep kp⟩) kp
    · cases e
  · cases e
theorem ok_neg : UnOk X tb oNeg (rU fun i => .int (-i)) := fun F T ψ g σ H c x z Q R hc e k => by
  unfold oNeg at e
  split at e
  · cases hc; cases e
    exact ⟨_, rfl, k _ T H ⟨.int _, rfl⟩ R (Keep.refl H)⟩
  · cases e

/-! ### equality of data -/
mutual
def toPy : D → PyData
  | .non => .none
  | .bl b => .bool b
  | .int i => .int i
  | .str s => .str ⟨s.toArray⟩
  | .tup xs => .tuple (toPys xs)
  | .rol xs => .list (toPys xs)
  | .ref _ => .none
def toPys : List D → List PyData
  | [] => []
  | x :: xs => toPy x :: toPys xs
end
mutual
theorem toPy_depth : ∀ x : D, (toPy x).depth = x.depth
  | .non => rfl
  | .bl _ => rfl
  | .int _ => rfl
  | .str _ => rfl
  | .tup xs => by show PyData.depthAll (toPys xs) + 1 = D.depths xs + 1; rw [toPys_depth xs]
  | .rol xs => by show PyData.depthAll (toPys xs) + 1 = D.depths xs + 1; rw [toPys_depth xs]
  | .ref _ => rfl
theorem toPys_depth : ∀ x : List D, PyData.depthAll (toPys x) = D.depths x
  | [] => rfl
  | x :: xs => by show max (toPy x).depth (PyData.depthAll (toPys xs)) = max x.depth (D.depths xs); rw [toPy_depth x, toPys_depth xs]
end
theorem toPy_shaped {x : D} (h : x.depth ≤ 60) (hl : (toPy x).canLay0 = true) : SeqAt.shaped (toPy x) = true := by
  unfold SeqAt.shaped
  rw [hl, toPy_depth]
  simp; omega
theorem strA_inj {s t : List Nat} : ((⟨s.toArray⟩ : Str) == ⟨t.toArray⟩) = decide (s = t) := by
  by_cases h : s = t
  · subst h; simp
  · rw [decide_eq_false h]
    refine beq_eq_false_iff_ne.mpr fun e => h ?_
    have := congrArg Str.cps e
    exact (by simpa using this)
mutual
theorem toPy_eqv : ∀ x y : D, x.pure = true → y.pure = true → PyData.eqv (toPy x) (toPy y) = D.beq x y
  | .non, y, _, h => by cases y <;> first | rfl | cases h
  | .int i, y, _, h => by
    cases y <;> first | rfl | cases h
  | .str s, y, _, h => by
    cases y <;> first | rfl | cases h | skip
    exact strA_inj
  | .tup xs, .tup ys, h, h' => toPys_eqv xs ys h h'
  | .rol xs, .rol ys, h, h' => toPys_eqv xs ys h h'
  | .tup xs, .non, _, _ | .tup xs, .int _, _, _ | .tup xs, .str _, _, _ | .tup xs, .rol _, _, _ => rfl
  | .rol xs, .non, _, _ | .rol xs, .int _, _, _ | .rol xs, .str _, _, _ | .rol xs, .tup _, _, _ => rfl
  | .tup xs, .bl _, _, h | .tup xs, .ref _, _, h | .rol xs, .bl _, _, h | .rol xs, .ref _, _, h => nomatch h
  | .bl _, _, h, _ | .ref _, _, h, _ => nomatch h
theorem toPys_eqv : ∀ x y : List D, D.pures x = true → D.pures y = true → PyData.eqvAll (toPys x) (toPys y) = D.beqs x y
  | [], [], _, _ => rfl
  | [], _ :: _, _, _ => rfl
  | _ :: _, [], _, _ => rfl
  | x :: xs, y :: ys, h, h' => by
    have h1 : x.pure = true ∧ D.pures xs = true := by simpa [D.pures] using h
    have h2 : y.pure = true ∧ D.pures ys = true := by simpa [D.pures] using h'
    show (PyData.eqv (toPy x) (toPy y) && PyData.eqvAll (toPys xs) (toPys ys)) = (D.beq x y && D.beqs xs ys)
    rw [toPy_eqv x y h1.1 h2.1, toPys_eqv xs ys h1.2 h2.2]
end
theorem beq_decide (x y : D) : D.beq x y = decide (x = y) := by
  cases h : D.beq x y with
  | true => exact (decide_eq_true (D.eq_of_beq x y h)).symm
  | false => exact (decide_eq_false fun e => by rw [e, D.beq_self] at h; cases h).symm
theorem lay_str {s : List Nat} (h : OkS s) : (PyData.str ⟨s.toArray⟩).canLay0 = true := by
  show PySem.PyData.strOk _ = true
  unfold PySem.PyData.strOk
  rw [← Array.all_toList]
  exact List.all_eq_true.mpr fun c hc => decide_eq_true (h c hc)
theorem lay_cons {x : PyData} {xs : List PyData} (h : x.canLay0 = true) (h' : PyData.canLayAll0 xs = true) : PyData.canLayAll0 (x :: xs) = true := by
  show (x.canLay0 && PyData.canLayAll0 xs) = true
  rw [h, h']; rfl
mutual
theorem dp_pure {K : PySem.W.Frag} {H : Hp} : ∀ (x : D) (v : V), x.pure = true → RV K H x v → Dp K H v (toPy x) ∧ (toPy x).canLay0 = true
  | .non, _, _, .non => ⟨.non, rfl⟩
  | .bl b, _, h, _ => nomatch h
  | .int i, _, _, .int _ => ⟨.int i, rfl⟩
  | .str s, _, _, .str _ hs => ⟨.str _, lay_str hs⟩
  | .tup xs, _, h, .tup a r => let ⟨h1, h2⟩ := dp_pures xs _ h r; ⟨.tup a h1, h2⟩
  | .rol xs, _, h, .rol a r => let ⟨h1, h2⟩ := dp_pures xs _ h r; ⟨.lst a.seq h1, h2⟩
  | .ref _, _, h, _ => nomatch h
theorem dp_pures {K : PySem.W.Frag} {H : Hp} : ∀ (x : List D) (v : List V), D.pures x = true → RVs K H x v → DpAll K H v (toPys x) ∧ PyData.canLayAll0 (toPys x) = true
  | [], _, _, .nil => ⟨.nil, rfl⟩
  | x :: xs, _, h, .cons r t => by
    have h1 : x.pure = true ∧ D.pures xs = true := by simpa [D.pures] using h
    obtain ⟨a1, a2⟩ := dp_pure x _ h1.1 r
    obtain ⟨b1, b2⟩ := dp_pures xs _ h1.2 t
    exact ⟨.cons a1 b1, lay_cons a2 b2⟩
end
theorem mapM_some {α β : Type} {f : α → Option β} : ∀ {xs : List α} {ys : List β}, xs.mapM f = some ys → Paired (fun x y => f x = some y) xs ys
  | [], ys, h => by simp at h; subst h; exact .nil
  | x :: xs, ys, h => by
    simp only [List.mapM_cons, Option.bind_eq_bind, Option.pure_def, Option.bind_eq_some_iff, Option.some.injEq] at h
    obtain ⟨y, h1, zs, h2, rfl⟩ := h
    exact .cons h1 (mapM_some h2)
theorem pures_of {xs : List D} (h : ∀ x ∈ xs, x.pure = true) : D.pures xs = true := by
  induction xs with
  | nil => rfl
  | cons x xs ih =>
    show (x.pure && D.pures xs) = true
    rw [h x (List.Mem.head _), ih fun y hy => h y (List.Mem.tail _ hy)]; rfl
theorem dp_list {B : Bx} {H : Hp} {f : D → Option D} (hf : ∀ x y v, f x = some y → RV B.K H x v → y.pure = true ∧ Dp B.K H v (toPy y) ∧ (toPy y).canLay0 = true) :
    ∀ {xs ys : List D} {vs : List V}, Paired (fun x y => f x = some y) xs ys → RVs B.K H xs vs → D.pures ys = true ∧ DpAll B.K H vs (toPys ys) ∧ PyData.canLayAll0 (toPys ys) = true
  | _, _, _, .nil, .nil => ⟨rfl, .nil, rfl⟩
  | _, _, _, .cons e t, .cons r u => by
    obtain ⟨h1, h2, l1⟩ := hf _ _ _ e r
    obtain ⟨h3, h4, l2⟩ := dp_list hf t u
    exact ⟨by show (_ && _) = true; rw [h1, h3]; rfl, .cons h2 h4, lay_cons l1 l2⟩
theorem rsv_ok {B : Bx} {g : G} {H : Hp} (gl : Glob B g H) : ∀ (n : Nat) (x y : D) (v : V), rsv n g x = some y → RV B.K H x v → y.pure = true ∧ Dp B.K H v (toPy y) ∧ (toPy y).canLay0 = true
  | 0, x, y, v, h, r => by
    unfold rsv at h
    split at h
    · rename_i hp; cases h; exact ⟨hp, dp_pure _ _ hp r⟩
    · cases h
  | n + 1, x, y, v, h, r => by
    unfold rsv at h
    split at h
    · rename_i hp; cases h; exact ⟨hp, dp_pure _ _ hp r⟩
    · split at h
      · rename_i a _
        split at h
        · rename_i xs e
          obtain ⟨ys, h1, rfl⟩ := Option.map_eq_some_iff.mp h
          cases r
          obtain ⟨vs, h2, h3⟩ := gl a _ e
          obtain ⟨h4, h5, h6⟩ := dp_list (rsv_ok gl n) (mapM_some h1) h3
          exact ⟨h4, .lst (SqL.of h2) h5, h6⟩
        · cases h
      · obtain ⟨ys, h1, rfl⟩ := Option.map_eq_some_iff.mp h
        cases r with
        | tup h2 h3 =>
          obtain ⟨h4, h5, h6⟩ := dp_list (rsv_ok gl n) (mapM_some h1) h3
          exact ⟨h4, .tup h2 h5, h6⟩
      · cases h
theorem rsvC_ok {B : Bx} {g : G} {H : Hp} (gl : Glob B g H) {c : C} {y : D} {v : V} (h : rsvC g c = some y) (r : RC B H c v) : y.pure = true ∧ Dp B.K H v (toPy y) ∧ (toPy y).canLay0 = true := by
  unfold rsvC at h
  split at h
  · exact rsv_ok gl _ _ _ _ h r
  · obtain ⟨ys, h1, rfl⟩ := Option.map_eq_some_iff.mp h
    obtain ⟨a, rfl, vs, h2, h3⟩ := r
    obtain ⟨h4, h5, h6⟩ := dp_list (rsv_ok gl 6) (mapM_some h1) h3
    exact ⟨h4, .lst (SqL.of h2) h5, h6⟩
  · cases h
theorem eqC_ok {B : Bx} {g : G} {H : Hp} (gl : Glob B g H) {c c' : C} {x y : V} {k : Bool} (h : eqC g c c' = some k) (r : RC B H c x) (r' : RC B H c' y) :
    ∃ d e, Dp B.K H x d ∧ Dp B.K H y e ∧ SeqAt.shaped d = true ∧ SeqAt.shaped e = true ∧ PyData.eqv d e = k := by
  unfold eqC at h
  split at h
  · cases r; cases r'; cases h
    exact ⟨_, _, .bl _, .bl _, rfl, rfl, rfl⟩
  · split at h
    · rename_i y1 y2 e1 e2
      split at h
      · rename_i hd
        cases h
        obtain ⟨p1, d1, l1⟩ := rsvC_ok gl e1 r
        obtain ⟨p2, d2, l2⟩ := rsvC_ok gl e2 r'
        exact ⟨_, _, d1, d2, toPy_shaped hd.1 l1, toPy_shaped hd.2 l2, by rw [toPy_eqv _ _ p1 p2, beq_decide]⟩
      · cases h
    · cases h
theorem ok_eq : OpOk X tb oEq (rEqD X.K) := fun F T ψ g σ H c c' x y z Q R hc hc' e k => by
  obtain ⟨b, e1, rfl⟩ := Option.map_eq_some_iff.mp e
  obtain ⟨d, d', h1, h2, h3, h4, h5⟩ := eqC_ok R.gl e1 hc hc'
  exact ⟨d, d', h1, h2, h3, h4, by rw [h5]; exact k _ T H ⟨.bl _, rfl⟩ R (Keep.refl H)⟩
theorem ok_ne : OpOk X tb oNe (rNeD X.K) := fun F T ψ g σ H c c' x y z Q R hc hc' e k => by
  obtain ⟨b, e1, rfl⟩ := Option.map_eq_some_iff.mp e
  obtain ⟨d, d', h1, h2, h3, h4, h5⟩ := eqC_ok R.gl e1 hc hc'
  exact ⟨d, d', h1, h2, h3, h4, by rw [h5]; exact k _ T H ⟨.bl _, rfl⟩ R (Keep.refl H)⟩
end
end Pd
set_option Elab.async false
set_option linter.all false
set_option maxRecDepth 100000
set_option maxHeartbeats 1000000
namespace Pd
open PySem PySem.Spec PyProof.Rows L2
section
variable {X : Cx} {tb : Tb}
/-! ### keys that are nested tuples -/
mutual
theorem nested_of {pins : List (Addr × Obj)} {σ : L2.St} {H : Hp} {s : Shared} (I : Inv X pins σ H s) : ∀ (d : D) (v : V) (u : Value) (k : NestedKey), RV X.K H d v → RelV v u → nk d = some k → NestedIs s.heap k u
  | .non, _, _, _, .non, r, e => by
    cases e
    obtain rfl : _ = Value.none := r
    exact .none
  | .int i, _, _, _, .int _, r, e => by
    cases e
    obtain ⟨t, rfl⟩ := r
    exact .int i t
  | .str x, _, _, _, .str _ _, r, e => by
    cases e
    obtain ⟨t, rfl⟩ := r
    exact .text _ t
  | .tup xs, _, _, _, .tup (p := p) (vs := vs) h1 h2, r, e => by
    obtain ⟨ks, e1, rfl⟩ := Option.map_eq_some_iff.mp e
    obtain rfl : _ = Value.ref p := r
    obtain ⟨its, r1, ⟨o, h3, h4, n, h5⟩, _⟩ := I.tuple h1
    exact .tup h3 h4 h5 (nesteds_of I xs vs its ks h2 r1 e1)
theorem nesteds_of {pins : List (Addr × Obj)} {σ : L2.St} {H : Hp} {s : Shared} (I : Inv X pins σ H s) : ∀ (d : List D) (v : List V) (u : List Value) (k : List NestedKey), RVs X.K H d v → Vals v u → nks d = some k → NestedAll s.heap k u
  | [], _, _, _, .nil, .nil, e => by cases e; exact .nil
  | x :: xs, _, _, _, .cons (v := v) (vs := vs) r t, .cons (b := u) (l₂ := us) q w, e => by
    have e' : (match nk x, nks xs with | some k, some ks => some (k :: ks) | _, _ => none) = some _ := e
    split at e'
    · rename_i k ks e1 e2
      cases e'
      exact .cons (nested_of I x v u k r q e1) (nesteds_of I xs vs us ks t w e2)
    · cases e'
end
mutual
theorem nk_depth : ∀ (d : D) (k : NestedKey), nk d = some k → k.depth = d.depth
  | .non, _, e => by cases e; rfl
  | .bl _, _, e => nomatch e
  | .int _, _, e => by cases e; rfl
  | .str _, _, e => by cases e; rfl
  | .rol _, _, e => nomatch e
  | .ref _, _, e => nomatch e
  | .tup xs, _, e => by
    obtain ⟨ks, e1, rfl⟩ := Option.map_eq_some_iff.mp e
    show NestedKey.depthAll ks + 1 = D.depths xs + 1
    rw [nks_depth xs ks e1]
theorem nks_depth : ∀ (d : List D) (k : List NestedKey), nks d = some k → NestedKey.depthAll k = D.depths d
  | [], _, e => by cases e; rfl
  | x :: xs, _, e => by
    have e' : (match nk x, nks xs with | some k, some ks => some (k :: ks) | _, _ => none) = some _ := e
    split at e'
    · rename_i k ks e1 e2
      cases e'
      show max k.depth (NestedKey.depthAll ks) = max x.depth (D.depths xs)
      rw [nk_depth x k e1, nks_depth xs ks e2]
    · cases e'
end
mutual
theorem nk_some : ∀ (d : D), d.keyish = true → ∃ k, nk d = some k
  | .non, _ => ⟨_, rfl⟩
  | .int _, _ => ⟨_, rfl⟩
  | .str _, _ => ⟨_, rfl⟩
  | .tup xs, h => let ⟨ks, e⟩ := nks_some xs h; ⟨.tup ks, by show (nks xs).map _ = _; rw [e]; rfl⟩
  | .bl _, h => nomatch h
  | .rol _, h => nomatch h
  | .ref _, h => nomatch h
theorem nks_some : ∀ (d : List D), D.keyishs d = true → ∃ k, nks d = some k
  | [], _ => ⟨[], rfl⟩
  | x :: xs, h => by
    have h' : x.keyish = true ∧ D.keyishs xs = true := by simpa [D.keyishs] using h
    obtain ⟨k, e1⟩ := nk_some x h'.1
    obtain ⟨ks, e2⟩ := nks_some xs h'.2
    exact ⟨k :: ks, by show (match nk x, nks xs with | some k, some ks => some (k :: ks) | _, _ => none) = _; rw [e1, e2]⟩
end
mutual
theorem nk_inj : ∀ (d d' : D) (k : NestedKey), nk d = some k → nk d' = some k → d = d'
  | .non, d', _, e, e' => by cases e; cases d' <;> first | rfl | (simp [nk] at e')
  | .int _, d', _, e, e' => by cases e; cases d' <;> simp [nk] at e'; rw [e']
  | .str s, d', _, e, e' => by cases e; cases d' <;> simp [nk] at e'; rw [e']
  | .tup xs, d', _, e, e' => by
    obtain ⟨ks, e1, rfl⟩ := Option.map_eq_some_iff.mp e
    cases d' with
    | tup ys =>
      obtain ⟨ks', e2, e3⟩ := Option.map_eq_some_iff.mp e'
      cases e3
      rw [nks_inj xs ys ks e1 e2]
    | _ => simp [nk] at e'
  | .bl _, _, _, e, _ => nomatch e
  | .rol _, _, _, e, _ => nomatch e
  | .ref _, _, _, e, _ => nomatch e
theorem nks_inj : ∀ (d d' : List D) (k : List NestedKey), nks d = some k → nks d' = some k → d = d'
  | [], d', _, e, e' => by
    cases e
    cases d' with
    | nil => rfl
    | cons y ys =>
      have q : (match nk y, nks ys with | some k, some ks => some (k :: ks) | _, _ => none) = some [] := e'
      split at q <;> cases q
  | x :: xs, d', _, e, e' => by
    have q1 : (match nk x, nks xs with | some k, some ks => some (k :: ks) | _, _ => none) = some _ := e
    split at q1
    · rename_i k ks e1 e2
      cases q1
      cases d' with
      | nil => cases e'
      | cons y ys =>
        have q : (match nk y, nks ys with | some k, some ks => some (k :: ks) | _, _ => none) = some (k :: ks) := e'
        split at q
        · rename_i k2 ks2 f1 f2
          cases q
          rw [nk_inj x y k e1 f1, nks_inj xs ys ks e2 f2]
        · cases q
    · cases q1
end
/-- a dict of that kind, as the library tells it -/
def Nest (X : Cx) (H : Hp) (a : Addr) (xs : List (NestedKey × Addr × Value)) : Prop :=
  H a = some (dN X.prog X.w a xs) ∧ (a == sysModules) = false ∧ (xs.map (·.1)).Nodup ∧ xs.length ≤ sizeLine ∧ ∀ x ∈ xs, ∃ d, RV X.K H d (.ref x.2.1) ∧ nk d = some x.1 ∧ d.depth ≤ 8
theorem Nest.is {pins : List (Addr × Obj)} {σ : L2.St} {H : Hp} {s : Shared} {a : Addr} {xs : List (NestedKey × Addr × Value)} (I : Inv X pins σ H s) (n : Nest X H a xs) :
    s.heap.DictOfH (nestedKind X.prog X.w) a xs := by
  obtain ⟨h1, h2, h3, h4, h5⟩ := n
  obtain ⟨⟨o, es, ep, e1, e2, e3, e4⟩, _⟩ := I.hok a _ h1
  refine ⟨o, es, ep, e1, e2, e3, e4, fun x hx => ?_, h3⟩
  obtain ⟨d, r, e, hd⟩ := h5 x hx
  exact ⟨nested_of I d _ _ _ r rfl e, by rw [nk_depth d _ e]; exact hd⟩
theorem nest_atKey (k : NestedKey) : ∀ xs : List (NestedKey × Addr × Value), (atKey xs k).isSome = xs.any fun x => decide (x.1 = k)
  | [] => rfl
  | x :: xs => by
    by_cases h : x.1 = k
    · simp [atKey, h]
    · have := nest_atKey k xs
      simp [atKey, h] at this ⊢
      exact this
theorem dict_empty_N {P : Program} {w : World} {H : Hp} {h : Heap} {a : Addr} (ok : HOk P w H h) (e : H a = some (.dK [])) : (a == sysModules) = false ∧ h.DictOfH (nestedKind P w) a [] := by
  obtain ⟨_, h2, vs, kv, o, es, ep, h3, h4, h5, _, h6, _⟩ := ok a _ e
  cases kv
  have h7 : es.toList = [] := by cases q : es.toList with
    | nil => rfl
    | cons x r => rw [q] at h6; cases h6
  exact ⟨h2, o, es, ep, h3, h4, h5, by rw [h7]; rfl, (fun _ hx => nomatch hx), List.nodup_nil⟩
theorem nest_or {pins : List (Addr × Obj)} {σ : L2.St} {H : Hp} {s : Shared} {a : Addr} {xs : List (NestedKey × Addr × Value)} (I : Inv X pins σ H s) (n : Nest X H a xs ∨ (xs = [] ∧ H a = some (.dK []))) :
    (a == sysModules) = false ∧ s.heap.DictOfH (nestedKind X.prog X.w) a xs := by
  rcases n with n | ⟨rfl, n⟩
  · exact ⟨n.2.1, n.is I⟩
  · exact dict_empty_N I.hok n
/-- y in d -/
def rInN (X : Cx) (neg : Bool) : R2 := fun x y H Q => ∃ (p a : Addr) (d : D) (k : NestedKey) (xs : List (NestedKey × Addr × Value)), x = .ref p ∧ y = .ref a ∧ (Nest X H a xs ∨ (xs = [] ∧ H a = some (.dK []))) ∧ RV X.K H d (.ref p) ∧ nk d = some k ∧ d.depth ≤ 8 ∧
  Q (.bl (if neg then !(atKey xs k).isSome else (atKey xs k).isSome)) H
theorem op_inN (hu : X.A.units + 64 < cLine) : OpR X (compareOp .In) (rInN X false) := by
  intro pins s σ H x y v u Q I rx ry h
  obtain ⟨p, a, d, k, xs, rfl, rfl, n, r, e, hd, q⟩ := h
  obtain rfl : v = Value.ref p := rx
  obtain ⟨hsm, hm⟩ := nest_or I n
  obtain rfl : u = Value.ref a := ry
  have hk : (nestedKind X.prog X.w).is s.heap k p := ⟨nested_of I d _ _ _ r rfl e, by rw [nk_depth d _ e]; exact hd⟩
  refine wpAny_in_heap (knd := nestedKind X.prog X.w) (by show X.A.units + 1 + 8 < cLine; omega) hk hsm hm ?_
  exact ⟨.bl (atKey xs k).isSome, H, I.tok _, rfl, q⟩
theorem op_notInN (hu : X.A.units + 64 < cLine) : OpR X (compareOp .NotIn) (rInN X true) := by
  intro pins s σ H x y v u Q I rx ry h
  obtain ⟨p, a, d, k, xs, rfl, rfl, n, r, e, hd, q⟩ := h
  obtain rfl : v = Value.ref p := rx
  obtain ⟨hsm, hm⟩ := nest_or I n
  obtain rfl : u = Value.ref a := ry
  have hk : (nestedKind X.prog X.w).is s.heap k p := ⟨nested_of I d _ _ _ r rfl e, by rw [nk_depth d _ e]; exact hd⟩
  show wpAny _ _ (do return Value.bool (!(← contains (.ref a) (.ref p)))) _ X.xe s
  refine wpAny_bind (wpAny_contains_heap (knd := nestedKind X.prog X.w) (by show X.A.units + 1 + 8 < cLine; omega) hk hsm hm (wpAny_pure ?_))
  exact ⟨.bl (!(atKey xs k).isSome), H, I.tok _, rfl, q⟩
/-- d[y] -/
def rIxN (X : Cx) : R2 := fun x y H Q => ∃ (p a : Addr) (d : D) (k : NestedKey) (xs : List (NestedKey × Addr × Value)) (b : Addr) (u : Value) (v : V), x = .ref a ∧ y = .ref p ∧ Nest X H a xs ∧ RV X.K H d (.ref p) ∧ nk d = some k ∧ d.depth ≤ 8 ∧
  atKey xs k = some (b, u) ∧ RelV v u ∧ Q v H
theorem ix_N (hu : X.A.units + 64 < cLine) : IxR X (rIxN X) := by
  intro value slice pins s σ H x y v u Q I rx ry h hs
  obtain ⟨p, a, d, k, xs, b, w', v', rfl, rfl, n, r, e, hd, hp, rv, q⟩ := h
  obtain rfl : v = Value.ref a := rx
  obtain rfl : u = Value.ref p := ry
  have hk : (nestedKind X.prog X.w).is s.heap k p := ⟨nested_of I d _ _ _ r rfl e, by rw [nk_depth d _ e]; exact hd⟩
  refine tail_any (n.is I).typeIs slot_dict_getitem.lookup (wpAny_getItem_heap (knd := nestedKind X.prog X.w) (by show X.A.units + 1 + 8 < cLine; omega) hk (n.is I) hp ?_) hs
  exact ⟨v', H, I.tok _, rv, q⟩
def rIxK (X : Cx) : R2 := fun x y H Q => ∃ (a : Addr) (v : V), x = .ref a ∧ DGet H a y (some v) ∧ Q v H
theorem ix_K (hu : X.A.units + 64 < cLine) : IxR X (rIxK X) := by
  intro value slice pins s σ H x y v u Q I rx ry h hs
  obtain ⟨a, v', rfl, hg, q⟩ := h
  obtain rfl : v = Value.ref a := rx
  exact tail_any (dict_typeIs I hg) slot_dict_getitem.lookup (d_getItem (by omega) I hg ry fun w' s' I' r' => ⟨v', H, I', r', q⟩) hs
/-- d[y] = v -/
def rSetK : V → V → V → Hp → (Hp → Prop) → Prop := fun o i v H Q => ∃ a H', o = .ref a ∧ DPut H a i v H' ∧ Q H'
theorem set_K (hu : X.A.units + 64 < cLine) : PSet X rSetK := by
  intro pins s σ H o i v ov iv u Q I ro ri rv h
  obtain ⟨a, H', rfl, hp, q⟩ := h
  obtain rfl : ov = Value.ref a := ro
  exact d_setItem (by omega) I hp ri rv fun s' I' => ⟨H', I', q⟩
def rSetN (X : Cx) : V → V → V → Hp → (Hp → Prop) → Prop := fun o i v H Q => ∃ (p a : Addr) (d : D) (k : NestedKey) (xs : List (NestedKey × Addr × Value)), o = .ref a ∧ i = .ref p ∧ (Nest X H a xs ∨ (xs = [] ∧ H a = some (.dK []))) ∧ RV X.K H d (.ref p) ∧ nk d = some k ∧ d.depth ≤ 8 ∧ xs.length < sizeLine ∧
  ∀ u, RelV v u → (a == sysModules) = false → Q (upd H a (dN X.prog X.w a (storedH xs k p u)))
theorem set_N (hu : X.A.units + 64 < cLine) : PSet X (rSetN X) := by
  intro pins s σ H o i v ov iv u Q I ro ri rv h
  obtain ⟨p, a, d, k, xs, rfl, rfl, hn, r, e, hd, hz, q⟩ := h
  obtain rfl : ov = Value.ref a := ro
  obtain rfl : iv = Value.ref p := ri
  have hk : (nestedKind X.prog X.w).is s.heap k p := ⟨nested_of I d _ _ _ r rfl e, by rw [nk_depth d _ e]; exact hd⟩
  obtain ⟨hsm, hm, mu⟩ : (a == sysModules) = false ∧ s.heap.DictOfH (nestedKind X.prog X.w) a xs ∧ Mut (H a) := by
    rcases hn with n | ⟨rfl, n⟩
    · exact ⟨n.2.1, n.is I, by rw [n.1]; trivial⟩
    · obtain ⟨h1, h2⟩ := dict_empty_N I.hok n
      exact ⟨h1, h2, by rw [n]; trivial⟩
  refine wpAny_setItem_heap (knd := nestedKind X.prog X.w) (by show X.A.units + 1 + 8 < cLine; omega) hk hm (fun h' hm' hs => ?_) (by omega)
  obtain ⟨o', es, ep, h1, h2, h3, h4, _⟩ := hm'
  refine ⟨_, d_write I mu hs ⟨o', h1⟩ ?_, q u rv hsm⟩
  exact ⟨⟨o', es, ep, h1, h2, h3, h4⟩, ⟨o', h1⟩, fun g1 g2 ⟨o2, es2, ep2, k1, k2, k3, k4⟩ st => ⟨o2, es2, ep2, st _ k1, k2, k3, k4⟩⟩

/-! ### as told -/
/-- a key that is a number or a text -/
def flatK : D → Option Key
  | .int i => some (.inl i)
  | .str s => some (.inr ⟨s.toArray⟩)
  | _ => none
theorem keyOk_nest {k : D} (h : keyOk true k = true) : k.keyish = true ∧ k.depth ≤ 8 ∧ ∃ xs, k = .tup xs := by
  cases k with
  | tup xs =>
    have h' : (D.keyishs xs && decide (D.depths xs < 8)) = true := h
    rw [Bool.and_eq_true] at h'
    exact ⟨h'.1, of_decide_eq_true h'.2, xs, rfl⟩
  | _ => cases h
theorem keyOk_flat {k : D} (h : keyOk false k = true) : ∃ q, flatK k = some q := by
  cases k with
  | int i => exact ⟨_, rfl⟩
  | str s => exact ⟨_, rfl⟩
  | _ => cases h
theorem flat_V {K : PySem.W.Frag} {H : Hp} {d : D} {v : V} {q : Key} (h : RV K H d v) (e : flatK d = some q) : v = kV q := by
  cases h with
  | int i => cases e; rfl
  | str s _ => cases e; rfl
  | _ => cases e
theorem nodup_put {κ : Type} [DecidableEq κ] (k : κ) (v : V) : ∀ ks : List (κ × V), (ks.map (·.1)).Nodup → ((L2.putK ks k v).map (·.1)).Nodup := fun ks hn => by
  unfold L2.putK
  split
  · rename_i h
    rw [List.map_map]
    have e : ((fun x : κ × V => x.1) ∘ fun kv : κ × V => if kv.1 = k then (kv.1, v) else kv) = fun x => x.1 := by
      funext x
      show (if x.1 = k then (x.1, v) else x).1 = x.1
      split <;> rfl
    rw [e]; exact hn
  · rename_i h
    rw [List.map_append]
    refine List.nodup_append.mpr ⟨hn, by simp, fun a ha b hb z => h ?_⟩
    obtain ⟨p, hp, rfl⟩ := List.mem_map.mp ha
    have hb' : b = k := by simpa using hb
    exact List.any_eq_true.mpr ⟨p, hp, decide_eq_true (by rw [z, hb'])⟩
theorem nodup_stored (k : NestedKey) (p : Addr) (u : Value) (xs : List (NestedKey × Addr × Value)) (hn : (xs.map (·.1)).Nodup) : ((storedH xs k p u).map (·.1)).Nodup := by
  unfold storedH
  split
  · rw [keys_map_putAt]; exact hn
  · rename_i h
    rw [List.map_append]
    refine List.nodup_append.mpr ⟨hn, by simp, fun a ha b hb z => h ?_⟩
    obtain ⟨q, hq, rfl⟩ := List.mem_map.mp ha
    have hb' : b = k := by simpa using hb
    rw [nest_atKey]
    exact List.any_eq_true.mpr ⟨q, hq, decide_eq_true (by rw [z, hb'])⟩
theorem paired_any {α β : Type} {F : α → β → Prop} {p : α → Bool} {q : β → Bool} (h : ∀ a b, F a b → p a = q b) : ∀ {xs : List α} {ys : List β}, Paired F xs ys → xs.any p = ys.any q
  | _, _, .nil => rfl
  | _, _, .cons r t => by rw [List.any_cons, List.any_cons, h _ _ r, paired_any h t]
theorem paired_len {α β : Type} {F : α → β → Prop} : ∀ {xs : List α} {ys : List β}, Paired F xs ys → xs.length = ys.length
  | _, _, .nil => rfl
  | _, _, .cons _ t => by rw [List.length_cons, List.length_cons, paired_len t]
theorem paired_mem {α β : Type} {F : α → β → Prop} : ∀ {xs : List α} {ys : List β}, Paired F xs ys → ∀ y ∈ ys, ∃ x ∈ xs, F x y
  | _, _, .nil, _, h => nomatch h
  | _, _, .cons r t, y, h => by
    rcases List.mem_cons.mp h with rfl | h
    · exact ⟨_, List.Mem.head _, r⟩
    · obtain ⟨x, h1, h2⟩ := paired_mem t y h
      exact ⟨x, List.Mem.tail _ h1, h2⟩
theorem RV.flat {K : PySem.W.Frag} {H : Hp} {d : D} {q : Key} (h : RV K H d (kV q)) : flatK d = some q := by
  cases q with
  | inl i => cases h; rfl
  | inr x => cases h; rfl
theorem flatK_inj {d d' : D} {q : Key} (h : flatK d = some q) (h' : flatK d' = some q) : d = d' := by
  cases d <;> cases d' <;> simp [flatK] at h h' <;> first | (subst h; cases h'; rfl) | (subst h; simp_all) | skip
theorem flat_dec {d d' : D} {q q' : Key} (h : flatK d = some q) (h' : flatK d' = some q') : decide (d = d') = decide (q = q') := by
  by_cases e : q = q'
  · subst e
    rw [flatK_inj h h']; simp
  · rw [decide_eq_false e]
    exact decide_eq_false fun z => e (by subst z; rw [h] at h'; exact Option.some.inj h')
theorem nk_dec {d d' : D} {q q' : NestedKey} (h : nk d = some q) (h' : nk d' = some q') : decide (d = d') = decide (q = q') := by
  by_cases e : q = q'
  · subst e
    rw [nk_inj _ _ _ h h']; simp
  · rw [decide_eq_false e]
    exact decide_eq_false fun z => e (by subst z; rw [h] at h'; exact Option.some.inj h')
abbrev KR (K : PySem.W.Frag) (H : Hp) : List (D × D) → List (Key × V) → Prop := Paired fun (p : D × D) (q : Key × V) => RV K H p.1 (kV q.1) ∧ RV K H p.2 q.2
abbrev NR (K : PySem.W.Frag) (H : Hp) : List (D × D) → List (NestedKey × Addr × Value) → Prop :=
  Paired fun (p : D × D) (x : NestedKey × Addr × Value) => nk p.1 = some x.1 ∧ p.1.depth ≤ 8 ∧ RV K H p.1 (.ref x.2.1) ∧ ∃ v, RelV v x.2.2 ∧ RV K H p.2 v
theorem KR.has {K : PySem.W.Frag} {H : Hp} {kvs : List (D × D)} {ks : List (Key × V)} (h : KR K H kvs ks) {d : D} {q : Key} (e : flatK d = some q) : hasK kvs d = (valV ks q).isSome := by
  rw [← valV_any]
  exact paired_any (fun a b z => flat_dec z.1.flat e) h
theorem KR.look {K : PySem.W.Frag} {H : Hp} {d : D} {q : Key} (e : flatK d = some q) : ∀ {kvs : List (D × D)} {ks : List (Key × V)}, KR K H kvs ks → ∀ {x : D}, lookK kvs d = some x → ∃ v, valV ks q = some v ∧ RV K H x v
  | _, _, .nil, _, h => nomatch h
  | p :: kvs, b :: ks, .cons r t, x, h => by
    have dd := flat_dec r.1.flat e
    unfold lookK at h
    split at h
    · rename_i hp
      rw [decide_eq_true hp] at dd
      cases h
      exact ⟨_, valV_pos (of_decide_eq_true dd.symm), r.2⟩
    · rename_i hp
      rw [decide_eq_false hp] at dd
      obtain ⟨v, h1, h2⟩ := KR.look e t h
      exact ⟨v, by rw [valV_neg (of_decide_eq_false dd.symm)]; exact h1, h2⟩
theorem putK_cons {κ : Type} [DecidableEq κ] (p : κ × V) (r : List (κ × V)) (k : κ) (v : V) (hn : ((p :: r).map (·.1)).Nodup) : L2.putK (p :: r) k v = if p.1 = k then (k, v) :: r else p :: L2.putK r k v := by
  unfold L2.putK
  by_cases h : p.1 = k
  · rw [if_pos (by simp [h]), if_pos h, List.map_cons, if_pos h]
    have : ∀ q ∈ r, q.1 ≠ k := fun q hq z => by
      rw [List.map_cons, List.nodup_cons] at hn
      exact hn.1 (by rw [h, ← z]; exact List.mem_map.mpr ⟨q, hq, rfl⟩)
    congr 1
    · rw [h]
    · exact (List.map_congr_left fun q hq => if_neg (this q hq)).trans (List.map_id _)
  · rw [if_neg h]
    by_cases h2 : (r.any fun kv => decide (kv.1 = k)) = true
    · rw [if_pos (by rw [List.any_cons, h2, Bool.or_true]), if_pos h2, List.map_cons, if_neg h]
    · rw [if_neg (by rw [List.any_cons, decide_eq_false h, Bool.false_or]; exact h2), if_neg h2, List.cons_append]
theorem KR.put {K : PySem.W.Frag} {H H' : Hp} (kp : Keep H H') {d x : D} {q : Key} {v : V} (e : RV K H d (kV q)) (rx : RV K H x v) : ∀ {kvs : List (D × D)} {ks : List (Key × V)}, KR K H kvs ks → (ks.map (·.1)).Nodup → KR K H' (putK kvs d x) (L2.putK ks q v)
  | _, _, .nil, _ => .cons ⟨e.keep kp, rx.keep kp⟩ .nil
  | p :: kvs, b :: ks, .cons r t, hn => by
    have dd := flat_dec r.1.flat e.flat
    rw [putK_cons b ks q v hn]
    unfold putK
    by_cases hp : p.1 = d
    · rw [decide_eq_true hp] at dd
      rw [if_pos hp, if_pos (of_decide_eq_true dd.symm)]
      exact .cons ⟨e.keep kp, rx.keep kp⟩ (L2.Paired.mapP t fun _ _ z => ⟨z.1.keep kp, z.2.keep kp⟩)
    · rw [decide_eq_false hp] at dd
      rw [if_neg hp, if_neg (of_decide_eq_false dd.symm)]
      rw [List.map_cons, List.nodup_cons] at hn
      exact .cons ⟨r.1.keep kp, r.2.keep kp⟩ (KR.put kp e rx t hn.2)
theorem NR.has {K : PySem.W.Frag} {H : Hp} {kvs : List (D × D)} {xs : List (NestedKey × Addr × Value)} (h : NR K H kvs xs) {d : D} {q : NestedKey} (e : nk d = some q) : hasK kvs d = (atKey xs q).isSome := by
  rw [nest_atKey]
  exact paired_any (fun a b z => nk_dec z.1 e) h
theorem atKey_cons (x : NestedKey × Addr × Value) (xs : List (NestedKey × Addr × Value)) (k : NestedKey) : atKey (x :: xs) k = if x.1 = k then some x.2 else atKey xs k := by
  by_cases h : x.1 = k <;> simp [atKey, h]
theorem NR.look {K : PySem.W.Frag} {H : Hp} {d : D} {q : NestedKey} (e : nk d = some q) : ∀ {kvs : List (D × D)} {xs : List (NestedKey × Addr × Value)}, NR K H kvs xs → ∀ {x : D}, lookK kvs d = some x → ∃ b u v, atKey xs q = some (b, u) ∧ RelV v u ∧ RV K H x v
  | _, _, .nil, _, h => nomatch h
  | p :: kvs, b :: xs, .cons r t, x, h => by
    have dd := nk_dec r.1 e
    rw [atKey_cons]
    unfold lookK at h
    split at h
    · rename_i hp
      rw [decide_eq_true hp] at dd
      cases h
      obtain ⟨_, _, _, v, h1, h2⟩ := r
      exact ⟨b.2.1, b.2.2, v, by rw [if_pos (of_decide_eq_true dd.symm)], h1, h2⟩
    · rename_i hp
      rw [decide_eq_false hp] at dd
      rw [if_neg (of_decide_eq_false dd.symm)]
      exact NR.look e t h
theorem storedH_cons (x : NestedKey × Addr × Value) (xs : List (NestedKey × Addr × Value)) (k : NestedKey) (p : Addr) (u : Value) (hn : ((x :: xs).map (·.1)).Nodup) : storedH (x :: xs) k p u = if x.1 = k then (x.1, x.2.1, u) :: xs else x :: storedH xs k p u := by
  unfold storedH
  rw [atKey_cons]
  by_cases h : x.1 = k
  · rw [if_pos h, if_pos h, if_pos (show (some x.2).isSome = true from rfl), List.map_cons, putAt, if_pos h, map_putAt_of_not_mem]
    rw [List.map_cons, List.nodup_cons] at hn
    rw [← h]; exact hn.1
  · rw [if_neg h, if_neg h]
    split
    · rw [List.map_cons, putAt, if_neg h]
    · rfl
theorem NR.put {K : PySem.W.Frag} {H H' : Hp} (kp : Keep H H') {d x : D} {q : NestedKey} {p : Addr} {v : V} {u : Value} (e : nk d = some q) (hd : d.depth ≤ 8) (rd : RV K H d (.ref p)) (rx : RV K H x v) (rv : RelV v u) :
    ∀ {kvs : List (D × D)} {xs : List (NestedKey × Addr × Value)}, NR K H kvs xs → (xs.map (·.1)).Nodup → NR K H' (putK kvs d x) (storedH xs q p u)
  | _, _, .nil, _ => .cons ⟨e, hd, rd.keep kp, v, rv, rx.keep kp⟩ .nil
  | b :: kvs, y :: xs, .cons r t, hn => by
    have dd := nk_dec r.1 e
    rw [storedH_cons y xs q p u hn]
    unfold putK
    by_cases hp : b.1 = d
    · rw [decide_eq_true hp] at dd
      rw [if_pos hp, if_pos (of_decide_eq_true dd.symm)]
      obtain ⟨h1, h2, h3, _⟩ := r
      exact .cons ⟨by rw [← hp]; exact h1, hd, by rw [← hp]; exact h3.keep kp, v, rv, rx.keep kp⟩ (L2.Paired.mapP t fun _ _ ⟨z1, z2, z3, w, z4, z5⟩ => ⟨z1, z2, z3.keep kp, w, z4, z5.keep kp⟩)
    · rw [decide_eq_false hp] at dd
      rw [if_neg hp, if_neg (of_decide_eq_false dd.symm)]
      rw [List.map_cons, List.nodup_cons] at hn
      obtain ⟨z1, z2, z3, w, z4, z5⟩ := r
      exact .cons ⟨z1, z2, z3.keep kp, w, z4, z5.keep kp⟩ (NR.put kp e hd rd rx rv t hn.2)
theorem NR.nest {H : Hp} {a : Addr} {kvs : List (D × D)} {xs : List (NestedKey × Addr × Value)} (h1 : H a = some (dN X.prog X.w a xs)) (h2 : (a == sysModules) = false) (h3 : (xs.map (·.1)).Nodup) (h4 : xs.length ≤ sizeLine) (r : NR X.K H kvs xs) : Nest X H a xs :=
  ⟨h1, h2, h3, h4, fun x hx => let ⟨p, _, z1, z2, z3, _⟩ := paired_mem r x hx; ⟨p.1, z3, z1, z2⟩⟩
end
end Pd
set_option Elab.async false
set_option linter.all false
set_option maxRecDepth 100000
set_option maxHeartbeats 1000000
namespace Pd
open PySem PySem.Spec PyProof.Rows L2
section
variable {X : Cx} {tb : Tb}
/-! ### in -/
def rInF (K : PySem.W.Frag) (neg : Bool) : R2 := fun x y H Q => ∃ a o, y = .ref a ∧ DGet H a x o ∧ Q (.bl (if neg then !o.isSome else o.isSome)) H
theorem op_inF (hu : X.A.units + 64 < cLine) : OpR X (compareOp .In) (rInF X.K false) := by
  intro pins s σ H x y v u Q I rx ry h
  obtain ⟨a, o, rfl, hg, q⟩ := h
  obtain rfl : u = Value.ref a := ry
  exact d_in (by omega) I hg rx fun s' I' => ⟨.bl _, H, I', rfl, q⟩
theorem op_notInF (hu : X.A.units + 64 < cLine) : OpR X (compareOp .NotIn) (rInF X.K true) := by
  intro pins s σ H x y v u Q I rx ry h
  obtain ⟨a, o, rfl, hg, q⟩ := h
  obtain rfl : u = Value.ref a := ry
  exact d_notIn (by omega) I hg rx fun s' I' => ⟨.bl _, H, I', rfl, q⟩
/-- a sign in a text -/
def rInS : R2 := fun x y H Q => ∃ (c : Nat) (z : Str), x = .str ⟨#[c]⟩ ∧ y = .str z ∧ Q (.bl (decide (c ∈ z.cps.toList))) H
def rInAll (X : Cx) : R2 := fun x y H Q => rInF X.K false x y H Q ∨ (rInN X false x y H Q ∨ (rInD X.K x y H Q ∨ (rIn X.K false x y H Q ∨ rInS x y H Q)))
def rNinAll (X : Cx) : R2 := fun x y H Q => rInF X.K true x y H Q ∨ (rInN X true x y H Q ∨ (rNotInD X.K x y H Q ∨ rIn X.K true x y H Q))
theorem op_inAll (hu : X.A.units + 128 < cLine) : OpR X (compareOp .In) (rInAll X) :=
  (op_inF (by omega)).or ((op_inN (by omega)).or (OpR.or (op_inD (by omega)) (op_in_seq.or op_in_sign)))
theorem op_ninAll (hu : X.A.units + 128 < cLine) : OpR X (compareOp .NotIn) (rNinAll X) :=
  (op_notInF (by omega)).or ((op_notInN (by omega)).or (OpR.or (op_notInD (by omega)) op_notIn_seq))
theorem mem_eqv {x : D} (hx : x.pure = true) : ∀ {xs : List D}, D.pures xs = true → ((toPys xs).any fun z => PyData.eqv z (toPy x)) = decide (x ∈ xs)
  | [], _ => rfl
  | y :: ys, h => by
    have h' : y.pure = true ∧ D.pures ys = true := by simpa [D.pures] using h
    show (PyData.eqv (toPy y) (toPy x) || (toPys ys).any fun z => PyData.eqv z (toPy x)) = _
    rw [toPy_eqv _ _ h'.1 hx, mem_eqv hx h'.2, beq_decide, ← Bool.decide_or]
    congr 1
    simp [eq_comm]
theorem flat_V2 {K : PySem.W.Frag} {H : Hp} {d : D} {v : V} (h : RV K H d v) (e : flatD d = true) : flatV v = true := by
  cases h <;> first | rfl | cases e
theorem flat_Vs {K : PySem.W.Frag} {H : Hp} : ∀ {ds : List D} {vs : List V}, RVs K H ds vs → ds.all flatD = true → vs.all flatV = true
  | _, _, .nil, _ => rfl
  | _, _, .cons r t, h => by
    rw [List.all_cons, Bool.and_eq_true] at h ⊢
    exact ⟨flat_V2 r h.1, flat_Vs t h.2⟩
theorem beq_dec_int (i j : Int) : (i == j) = decide (i = j) := by
  by_cases h : i = j
  · subst h; simp
  · rw [decide_eq_false h]; exact beq_eq_false_iff_ne.mpr h
theorem eqV_dec {K : PySem.W.Frag} {H : Hp} {d d' : D} {v v' : V} (h : RV K H d v) (h' : RV K H d' v') (e : flatD d = true) (e' : flatD d' = true) : eqV v v' = decide (d = d') := by
  cases h <;> first | (cases e; done) | skip
  all_goals (cases h' <;> first | (cases e'; done) | skip)
  all_goals first | rfl | exact strA_inj.trans (by simp) | (simp [eqV]; done) | exact (beq_dec_int _ _).trans (by simp)
theorem inV_dec {K : PySem.W.Frag} {H : Hp} {d : D} {v : V} (h : RV K H d v) (e : flatD d = true) : ∀ {ds : List D} {vs : List V}, RVs K H ds vs → ds.all flatD = true → inV v vs = decide (d ∈ ds)
  | _, _, .nil, _ => rfl
  | _, _, .cons (d := x) (ds := xs) r t, hf => by
    rw [List.all_cons, Bool.and_eq_true] at hf
    show (eqV _ v || inV v _) = _
    rw [eqV_dec r h hf.1 e, inV_dec h e t hf.2, ← Bool.decide_or]
    congr 1
    simp [eq_comm]
theorem inC_ok {F T : Own} {ψ : Psi} {g : G} {σ : L2.St} {H : Hp} {c c' : C} {x y : V} {k : Bool} (R : Rel (bx X tb) F ψ g T σ H) (hc : RC (bx X tb) H c x) (hc' : RC (bx X tb) H c' y) (e : inC g c c' = some k) :
    (∀ neg Q, Q (.bl (if neg then !k else k)) H → rInF X.K neg x y H Q) ∨ (∀ neg Q, Q (.bl (if neg then !k else k)) H → rInN X neg x y H Q) ∨
    ((∀ Q : VK, Q (.bl k) H → rInD X.K x y H Q) ∧ ∀ Q : VK, Q (.bl (!k)) H → rNotInD X.K x y H Q) ∨ (∀ neg Q, Q (.bl (if neg then !k else k)) H → rIn X.K neg x y H Q) := by
  unfold inC at e
  split at e
  · rename_i d t kvs
    split at e
    · rename_i hk
      cases e
      obtain ⟨a, rfl, ra⟩ := hc'
      cases t with
      | false =>
        obtain ⟨q, eq⟩ := keyOk_flat hk
        have hx := flat_V hc eq
        subst hx
        obtain ⟨ks, h1, _, h3⟩ := ra
        refine .inl fun neg Q hq => ⟨a, _, rfl, DGet.k h1, ?_⟩
        rw [← KR.has h3 eq]; exact hq
      | true =>
        obtain ⟨h1, h2, xs, rfl⟩ := keyOk_nest hk
        obtain ⟨nkk, en⟩ := nk_some _ h1
        obtain ⟨p, rfl⟩ : ∃ p, x = .ref p := by cases hc with | tup a b => exact ⟨_, rfl⟩
        rcases ra with ⟨rfl, h3⟩ | ⟨ys, h3, h4, h5, h6, h7⟩
        · refine .inr (.inl fun neg Q hq => ⟨p, a, _, nkk, [], rfl, rfl, .inr ⟨rfl, h3⟩, hc, en, h2, ?_⟩)
          exact hq
        · refine .inr (.inl fun neg Q hq => ⟨p, a, _, nkk, ys, rfl, rfl, .inl (NR.nest h3 h4 h5 h6 h7), hc, en, h2, ?_⟩)
          rw [← NR.has h7 en]; exact hq
    · cases e
  · rename_i d xs
    split at e
    · rename_i hp
      cases e
      simp only [Bool.and_eq_true, decide_eq_true_eq] at hp
      obtain ⟨⟨⟨p1, p2⟩, d1⟩, d2⟩ := hp
      obtain ⟨a, rfl, vs, h1, h2⟩ := hc'
      obtain ⟨q1, l1⟩ := dp_pure _ _ p1 hc
      obtain ⟨q2, l2⟩ := dp_pures _ _ p2 h2
      have s1 : SeqAt.shaped (toPy d) = true := toPy_shaped (by omega) l1
      have s2 : SeqAt.shaped (.list (toPys xs)) = true := toPy_shaped (x := .rol xs) (by show D.depths xs + 1 ≤ 60; omega) l2
      refine .inr (.inr (.inl ⟨fun Q hq => ⟨_, _, q1, .lst (SqL.of h1) q2, s1, s2, by rw [mem_eqv p1 p2]; exact hq⟩, fun Q hq => ⟨_, _, q1, .lst (SqL.of h1) q2, s1, s2, by rw [mem_eqv p1 p2]; exact hq⟩⟩))
    · cases e
  · rename_i d xs
    split at e
    · rename_i hp
      cases e
      simp only [Bool.and_eq_true, decide_eq_true_eq] at hp
      obtain ⟨⟨⟨p1, p2⟩, d1⟩, d2⟩ := hp
      obtain ⟨q1, l1⟩ := dp_pure _ _ p1 hc
      cases hc' with
      | rol h1 h2 =>
        obtain ⟨q2, l2⟩ := dp_pures _ _ p2 h2
        have s1 : SeqAt.shaped (toPy d) = true := toPy_shaped (by omega) l1
        have s2 : SeqAt.shaped (.list (toPys xs)) = true := toPy_shaped (x := .rol xs) (by show D.depths xs + 1 ≤ 60; omega) l2
        refine .inr (.inr (.inl ⟨fun Q hq => ⟨_, _, q1, .lst h1.seq q2, s1, s2, by rw [mem_eqv p1 p2]; exact hq⟩, fun Q hq => ⟨_, _, q1, .lst h1.seq q2, s1, s2, by rw [mem_eqv p1 p2]; exact hq⟩⟩))
    · cases e
  · rename_i d xs
    split at e
    · rename_i hp
      cases e
      rw [Bool.and_eq_true] at hp
      cases hc' with
      | tup h1 h2 =>
        refine .inr (.inr (.inr fun neg Q hq => ⟨_, _, rfl, .inr h1, flat_V2 hc hp.1, flat_Vs h2 hp.2, ?_⟩))
        rw [inV_dec hc hp.1 h2 hp.2]; exact hq
    · cases e
  · cases e
theorem ok_in : OpOk X tb oIn (rInAll X) := fun F T ψ g σ H c c' x y z Q R hc hc' e k => by
  obtain ⟨b, e1, rfl⟩ := Option.map_eq_some_iff.mp e
  have fin : Q (.bl b) H := k _ T H ⟨.bl _, rfl⟩ R (Keep.refl H)
  unfold inT at e1
  split at e1
  · cases e1
    cases hc; cases hc'
    exact .inr (.inr (.inr (.inr ⟨_, _, rfl, rfl, fin⟩)))
  · rcases inC_ok R hc hc' e1 with h | h | h | h
    · exact .inl (h false Q fin)
    · exact .inr (.inl (h false Q fin))
    · exact .inr (.inr (.inl (h.1 Q fin)))
    · exact .inr (.inr (.inr (.inl (h false Q fin))))
theorem ok_nin : OpOk X tb oNin (rNinAll X) := fun F T ψ g σ H c c' x y z Q R hc hc' e k => by
  obtain ⟨b, e1, rfl⟩ := Option.map_eq_some_iff.mp e
  have fin : Q (.bl (!b)) H := k _ T H ⟨.bl _, rfl⟩ R (Keep.refl H)
  rcases inC_ok R hc hc' e1 with h | h | h | h
  · exact .inl (h true Q fin)
  · exact .inr (.inl (h true Q fin))
  · exact .inr (.inr (.inl (h.2 Q fin)))
  · exact .inr (.inr (.inr (h true Q fin)))

/-! ### items, slices -/
theorem atI_same {α : Type} (xs : List α) (i : Int) : atI xs i = L2.atI xs i := by
  unfold atI L2.atI
  congr 1
  unfold idxOf L2.ixN
  by_cases h0 : 0 ≤ i
  · by_cases h1 : i < xs.length
    · rw [if_pos ⟨h0, h1⟩, if_pos h0, if_pos h1]
    · rw [if_neg (fun z => h1 z.2), if_neg (by omega), if_pos h0, if_neg h1]
  · rw [if_neg (fun z => h0 z.1), if_neg h0]
    by_cases h1 : -(xs.length : Int) ≤ i
    · rw [if_pos ⟨h1, by omega⟩, if_pos h1, Int.add_comm]
    · rw [if_neg (fun z => h1 z.1), if_neg h1]
theorem atI_rel {K : PySem.W.Frag} {H : Hp} {ds : List D} {vs : List V} {i : Int} {d : D} (r : RVs K H ds vs) (e : atI ds i = some d) : ∃ v, L2.atI vs i = some v ∧ RV K H d v := by
  rw [atI_same] at e
  unfold L2.atI at e ⊢
  obtain ⟨j, e1, e2⟩ := Option.bind_eq_some_iff.mp e
  obtain ⟨v, h1, h2⟩ := r.get e2
  exact ⟨v, by rw [← r.length, e1]; exact h1, h2⟩
def rIxAll (X : Cx) : R2 := fun x y H Q => rIx X.K x y H Q ∨ (rIxK X x y H Q ∨ rIxN X x y H Q)
theorem ix_all (hu : X.A.units + 128 < cLine) : IxR X (rIxAll X) := ix_seq.or ((ix_K (by omega)).or (ix_N (by omega)))
theorem ok_ix : OpOk X tb oIx (rIxAll X) := fun F T ψ g σ H c c' x y z Q R hc hc' e k => by
  obtain ⟨d, e1, rfl⟩ := Option.map_eq_some_iff.mp e
  unfold ixC at e1
  split at e1
  · rename_i s i
    split at e1
    · rename_i hl
      obtain ⟨ch, e2, rfl⟩ := Option.map_eq_some_iff.mp e1
      cases hc with | str _ o1 => ?_
      cases hc'
      rw [atI_same] at e2
      have hm : ch ∈ s := by
        unfold L2.atI at e2
        obtain ⟨j, _, e3⟩ := Option.bind_eq_some_iff.mp e2
        exact List.mem_of_getElem? e3
      refine .inl (.inr (.inr ⟨_, _, ch, rfl, rfl, by rw [← most_eq]; simpa [Str.length] using hl, by simpa using e2, ?_⟩))
      exact k _ T H ⟨.str [ch] fun c hc => by rw [List.mem_singleton.mp hc]; exact o1 _ hm, rfl⟩ R (Keep.refl H)
    · cases e1
  · cases hc' with | int i => ?_
    cases hc with | tup h1 h2 => ?_
    obtain ⟨v, h3, h4⟩ := atI_rel h2 e1
    exact .inl (.inr (.inl ⟨_, _, _, v, rfl, rfl, h1, h3, k _ T H ⟨h4, rfl⟩ R (Keep.refl H)⟩))
  · cases hc' with | int i => ?_
    cases hc with | rol h1 h2 => ?_
    obtain ⟨v, h3, h4⟩ := atI_rel h2 e1
    exact .inl (.inl ⟨_, _, _, v, rfl, rfl, h1.seq, h3, k _ T H ⟨h4, rfl⟩ R (Keep.refl H)⟩)
  · cases hc' with | int i => ?_
    obtain ⟨a, rfl, vs, h1, h2⟩ := hc
    obtain ⟨v, h3, h4⟩ := atI_rel h2 e1
    exact .inl (.inl ⟨_, _, _, v, rfl, rfl, SqL.of h1, h3, k _ T H ⟨h4, rfl⟩ R (Keep.refl H)⟩)
  · rename_i t kvs kk
    split at e1
    · rename_i hk
      obtain ⟨a, rfl, ra⟩ := hc
      cases t with
      | false =>
        obtain ⟨q, eq⟩ := keyOk_flat hk
        have hx := flat_V hc' eq
        subst hx
        obtain ⟨ks, h1, _, h3⟩ := ra
        obtain ⟨v, h4, h5⟩ := KR.look eq h3 e1
        refine .inr (.inl ⟨a, v, rfl, ?_, k _ T H ⟨h5, rfl⟩ R (Keep.refl H)⟩)
        rw [← h4]; exact DGet.k h1
      | true =>
        obtain ⟨h1, h2, xs, rfl⟩ := keyOk_nest hk
        obtain ⟨nkk, en⟩ := nk_some _ h1
        obtain ⟨p, rfl⟩ : ∃ p, y = .ref p := by cases hc' with | tup a b => exact ⟨_, rfl⟩
        rcases ra with ⟨rfl, h3⟩ | ⟨ys, h3, h4, h5, h6, h7⟩
        · cases e1
        · obtain ⟨b, u, v, g1, g2, g3⟩ := NR.look en h7 e1
          exact .inr (.inr ⟨p, a, _, nkk, ys, b, u, v, rfl, rfl, NR.nest h3 h4 h5 h6 h7, hc', en, h2, g1, g2, k _ T H ⟨g3, rfl⟩ R (Keep.refl H)⟩)
    · cases e1
  · cases e1
theorem de_ix {a b : Expr} {ta u : WE} {pos : Pos} (hu : X.A.units + 128 < cLine) (ha : DE X tb a ta) (hb : DE X tb b u) (hs : PlainIx b := by exact fun _ _ => rfl) : DE X tb (.Subscript a b pos) (eBin oIx ta u) := fun W tk =>
  let ⟨_, h1, h2⟩ := ha W tk
  let ⟨_, h3, h4⟩ := hb W tk
  ⟨_, pe_ix (ix_all hu) h1 h3 hs, ref_bin ok_ix h2 h4⟩
theorem clamp_sIx (n : Nat) (d : Nat) (i : Int) : clampI n i = HT.sIx n d (some i) := by
  have := HT.clip_eq i n d
  unfold clampI
  by_cases h : i < 0
  · rw [if_pos h] at this ⊢
    omega
  · rw [if_neg h] at this ⊢
    omega
theorem cut_eq {α : Type} (xs : List α) (lo hi : Option Int) : cut xs lo hi = (xs.drop (HT.sIx xs.length 0 lo)).take (HT.sIx xs.length xs.length hi - HT.sIx xs.length 0 lo) := by
  have e1 : ∀ d, ∀ o : Option Int, bndN xs.length d o = HT.sIx xs.length d o := fun d o => by
    cases o with
    | none => exact (HT.sIx_none _ _).symm
    | some i => exact clamp_sIx _ _ i
  unfold cut
  rw [e1, e1, List.drop_take]
theorem cut_rel {K : PySem.W.Frag} {H : Hp} {ds : List D} {vs : List V} (r : RVs K H ds vs) (lo hi : Option Int) : RVs K H (cut ds lo hi) (cutV vs lo hi) := by
  rw [cut_eq]
  unfold cutV
  rw [← r.length]
  exact (r.drop _).take _
def rSlAll (X : Cx) : V → Option Int → Option Int → Hp → VK → Prop := fun x lo hi H Q => rSlL X.K x lo hi H Q ∨ (rSlA X.K x lo hi H Q ∨ rSlS x lo hi H Q)
theorem sl_all : SlR X (rSlAll X) := sl_list.or (sl_tupA.or sl_str)
theorem cut_whole {α : Type} (xs : List α) (lo hi : Option Int) (h1 : HT.sIx xs.length 0 lo = 0) (h2 : HT.sIx xs.length xs.length hi = xs.length) : cut xs lo hi = xs := by
  rw [cut_eq, h1, h2]; simp
theorem ok_cut {F T : Own} {ψ : Psi} {g : G} {σ : L2.St} {H : Hp} {c : C} {x : V} {z : R} {lo hi : Option Int} {Q : VK} (R : Rel (bx X tb) F ψ g T σ H) (hc : RC (bx X tb) H c x) (e : cutC lo hi c = some z)
    (k : ∀ v T1 H1, RR (bx X tb) z v T T1 σ H1 → Rel (bx X tb) F ψ g T1 σ H1 → Keep H H1 → Q v H1) : rSlAll X x lo hi H Q := by
  unfold cutC at e
  split at e
  · rename_i s
    split at e
    · rename_i hl
      cases e
      cases hc with | str _ o1 => ?_
      refine .inr (.inr ⟨_, rfl, by rw [← most_eq]; simpa [Str.length] using hl, ?_⟩)
      have e1 : L2.cutS ⟨s.toArray⟩ lo hi = ⟨(cut s lo hi).toArray⟩ := by
        unfold L2.cutS
        rw [cut_eq]
        simp [Str.length]
      rw [e1]
      refine k _ T H ⟨.str _ fun c hc => o1 c ?_, rfl⟩ R (Keep.refl H)
      unfold cut at hc
      exact List.mem_of_mem_take (List.mem_of_mem_drop hc)
    · cases e
  · rename_i xs
    cases e
    cases hc with | tup h1 h2 => ?_
    refine .inr (.inl ⟨_, _, rfl, h1, fun w => ?_, fun _ => give_tup R (cut_rel h2 lo hi) k⟩)
    have q := cut_whole xs lo hi (by rw [h2.length]; exact w.1) (by rw [h2.length]; exact w.2)
    rw [q] at k
    exact k _ T H ⟨.tup h1 h2, rfl⟩ R (Keep.refl H)
  · cases e
    cases hc with | rol h1 h2 => ?_
    exact .inl ⟨_, _, rfl, h1.seq, give_lst R (cut_rel h2 lo hi) k⟩
  · cases e
    obtain ⟨a, rfl, vs, h1, h2⟩ := hc
    exact .inl ⟨_, _, rfl, SqL.of h1, give_lst R (cut_rel h2 lo hi) k⟩
  · cases e
theorem eq8 (hu : X.A.units + 128 < cLine) : OpR X (compareOp .Eq) (rEqD X.K) := op_eqD (by omega)
theorem ne8 (hu : X.A.units + 128 < cLine) : OpR X (compareOp .NotEq) (rNeD X.K) := op_neD (by omega)
theorem room8 {A : Around} {k : Nat} (h : Room k A) : A.units + 128 < cLine := by have := h.un; omega
end
end Pd
set_option Elab.async false
set_option linter.all false
set_option maxRecDepth 100000
set_option maxHeartbeats 1000000
namespace Pd
open PySem PySem.Spec PyProof.Rows L2
section
variable {X : Cx} {tb : Tb} {e a b : Expr} {es : List Expr} {te ta u : WE} {pos : Pos}
/-! ### slices -/
def RefO (X : Cx) (tb : Tb) (W : WX) (t : Option WE) (t0 : TO) : Prop := ∀ (E : EX) (F T : Own) (ψ : Psi) (g : G) (σ : L2.St) (H : Hp) (Q' : Option Int → Psi → G → Prop) (Q : Option Int → Hp → Prop),
  Rel (bx X tb) F ψ g T σ H → ExOk (bx X tb) tb.ec W E F T σ H → bndQ t E ψ g Q' →
  (∀ o ψ1 g1 H1, Q' o ψ1 g1 → Rel (bx X tb) F ψ1 g1 T σ H1 → Keep H H1 → Q o H1) → t0 σ H Q
def DO (X : Cx) (tb : Tb) (e : Option Expr) (t : Option WE) : Prop := ∀ W : WX, Takes X W → ∃ t0, PO X e t0 ∧ RefO X tb W t t0
theorem do_none : DO X tb none none := fun W tk => ⟨_, po_none, fun E F T ψ g σ H Q' Q R ex q k => k _ ψ g H q R (Keep.refl H)⟩
theorem do_some (h : DE X tb e te) : DO X tb (some e) (some te) := fun W tk => by
  obtain ⟨t1, h1, h2⟩ := h W tk
  refine ⟨_, po_some h1, fun E F T ψ g σ H Q' Q R ex q k => h2 E F T ψ g σ H _ _ R ex q fun r ψ1 g1 T1 v H1 q1 rr R1 k1 => ?_⟩
  obtain ⟨T', rfl⟩ := rr.suffix
  have q1' : (match look ψ1 g1 r with | some (.d (.int i)) => -(2 ^ 62) ≤ i ∧ i < 2 ^ 62 ∧ Q' (some i) ψ1 g1 | _ => False) := q1
  split at q1'
  · rename_i i e1
    have x1 := R1.look rr e1 ⟨[], rfl⟩
    cases x1
    exact ⟨i, rfl, k _ ψ1 g1 H1 q1'.2.2 R1.dropT k1⟩
  · exact q1'.elim
theorem de_cut {lo hi : Option Expr} {tl th : Option WE} {p2 : Pos} (ha : DE X tb a ta) (hl : DO X tb lo tl) (hh : DO X tb hi th) : DE X tb (.Subscript a (.Slice lo hi none p2) pos) (eCut ta tl th) := fun W tk => by
  obtain ⟨t1, h1, h2⟩ := ha W tk
  obtain ⟨t2, h3, h4⟩ := hl W tk
  obtain ⟨t3, h5, h6⟩ := hh W tk
  refine ⟨_, pe_slice sl_all h1 h3 h5, fun E F T ψ g σ H Q' Q R ex q k => h2 E F T ψ g σ H _ _ R ex q fun r ψ1 g1 T1 v H1 q1 rr R1 k1 => ?_⟩
  obtain ⟨T', rfl⟩ := rr.suffix
  refine h4 E F (T' ++ T) ψ1 g1 σ H1 _ _ R1 (ex.more k1) q1 fun o1 ψ2 g2 H2 q2 R2 k2 => ?_
  refine h6 E F (T' ++ T) ψ2 g2 σ H2 _ _ R2 (ex.more (k1.trans k2)) q2 fun o2 ψ3 g3 H3 q3 R3 k3 => ?_
  obtain ⟨c, e1, q4⟩ := optQ_inv q3
  obtain ⟨z, e2, q5⟩ := optQ_inv q4
  have x1 := R3.look (rr.keep (k2.trans k3)) e1 ⟨[], rfl⟩
  exact ok_cut R3.dropT x1 e2 fun v T3 H4 rr4 R4 k4 => k z ψ3 g3 T3 v H4 q5 rr4 R4 (((k1.trans k2).trans k3).trans k4)
/-! ### built-ins -/
theorem ok_len : UnOk X tb oLen (fun v H Q => (∃ p ys, [v] = [V.ref p] ∧ (SqL X.K H p ys ∨ SqT X.K H p ys) ∧ Q (.int ys.length) H) ∨ ∃ z, [v] = [V.str z] ∧ z.length ≤ sizeLine ∧ Q (.int z.length) H) :=
  fun F T ψ g σ H c x z Q R hc e k => by
  obtain ⟨n, e1, rfl⟩ := Option.map_eq_some_iff.mp e
  have fin : Q (.int n) H := k _ T H ⟨.int _, rfl⟩ R (Keep.refl H)
  unfold lenC at e1
  split at e1
  · split at e1
    · rename_i hl
      cases e1
      cases hc with | str s o1 => ?_
      exact .inr ⟨_, rfl, by rw [← most_eq]; simpa [Str.length] using hl, by simpa [Str.length] using fin⟩
    · cases e1
  · cases e1
    cases hc with | tup h1 h2 => ?_
    exact .inl ⟨_, _, rfl, .inr h1, by rw [← h2.length]; exact fin⟩
  · cases e1
    cases hc with | rol h1 h2 => ?_
    exact .inl ⟨_, _, rfl, .inl h1.seq, by rw [← h2.length]; exact fin⟩
  · cases e1
    obtain ⟨a, rfl, vs, h1, h2⟩ := hc
    exact .inl ⟨_, _, rfl, .inl (SqL.of h1), by rw [← h2.length]; exact fin⟩
  · cases e1
/-- a built-in's name is the built-in's -/
structure Bl (mg : Str → Option Value) (x : Str) (v : Value) : Prop where
  no : mg x = none
  is : bootBuiltins x = some v
theorem de_len {p : Pos} (B : Bl X.mg "len" (.builtin "len")) (ha : DE X tb a ta) (hg : Gl X "len" := by rfl) (hs : starEach [a] X.env = (false, eval a X.env) :: starEach [] X.env := by rfl) : DE X tb (.Call (.Name "len" p) [a] [] pos) (eUn oLen ta) :=
  de_call1 (call_len_seq.or call_len_str) ok_len (fun t h => pe_callB (call_len_seq.or call_len_str) hg B.no B.is h (he := hs)) ha hs
theorem ok_list : UnOk X tb oList (fun v H Q => ∃ p ys, [v] = [V.ref p] ∧ (SqL X.K H p ys ∨ SqT X.K H p ys) ∧ ∀ l, H l = none → Q (.ref l) (L2.upd H l (.lst ys))) := fun F T ψ g σ H c x z Q R hc e k => by
  unfold oList at e
  split at e
  · cases e
    obtain ⟨a, rfl, vs, h1, h2⟩ := hc
    exact ⟨_, _, rfl, .inl (SqL.of h1), give_lst R h2 k⟩
  · cases e
    cases hc with | tup h1 h2 => ?_
    exact ⟨_, _, rfl, .inr h1, give_lst R h2 k⟩
  · cases e
    cases hc with | rol h1 h2 => ?_
    exact ⟨_, _, rfl, .inl h1.seq, give_lst R h2 k⟩
  · cases e
theorem de_list {p : Pos} (B : Bl X.mg "list" (.type "list")) (ha : DE X tb a ta) (hg : Gl X "list" := by rfl) (hs : starEach [a] X.env = (false, eval a X.env) :: starEach [] X.env := by rfl) : DE X tb (.Call (.Name "list" p) [a] [] pos) (eUn oList ta) :=
  de_call1 call_list_of ok_list (fun t h => pe_callTy call_list_of hg B.no B.is h (he := hs)) ha hs
/-- list(d): the keys -/
theorem keys_rel {K : PySem.W.Frag} {H : Hp} : ∀ {kvs : List (D × D)} {ks : List (Key × V)}, KR K H kvs ks → RVs K H (kvs.map (·.1)) (ks.map fun kv => kV kv.1)
  | _, _, .nil => .nil
  | _, _, .cons r t => .cons r.1 (keys_rel t)
/-- list(d), the keys nested tuples -/
def rListN (X : Cx) : List V → Hp → VK → Prop := fun vs H Q => ∃ a xs, vs = [.ref a] ∧ Nest X H a xs ∧ ∀ p, H p = none → Q (.ref p) (upd H p (.lst (xs.map fun x => V.ref x.2.1)))
theorem refs_vals : ∀ xs : List (NestedKey × Addr × Value), Vals (xs.map fun x => V.ref x.2.1) (xs.map fun x => Value.ref x.2.1)
  | [] => .nil
  | _ :: r => .cons rfl (refs_vals r)
theorem call_list_dN (hc : X.calm = true) : CallR X (.type "list") (rListN X) := by
  intro pins s σ H xs us Q I r h
  obtain ⟨d, ks, rfl, n, q⟩ := h
  obtain ⟨u, rfl, rx⟩ := r.one
  cases rx
  obtain ⟨h1, hs, hn, hz, h5⟩ := n
  obtain ⟨⟨o, es, ep, ho, hx, hdt, he⟩, _⟩ := I.hok d _ h1
  have l1 : es.size = ks.length := size_of_entries he
  refine PySem.W.kdl_call (kdl_raw hs hx hdt) (I.ok.hd hc) ho (by omega) fun h' tk acc' c' kp e it => ?_
  have ea : acc'.toList = ks.map fun x => Value.ref x.2.1 := by
    have hl : acc'.toList.length = ks.length := by rw [Array.length_toList, it.1]; exact l1
    apply List.ext_getElem?
    intro j
    rw [List.getElem?_map]
    cases hj : acc'.toList[j]? with
    | none =>
      have h1 := List.getElem?_eq_none_iff.mp hj
      rw [List.getElem?_eq_none (by omega)]
      all_goals rfl
    | some v =>
      obtain ⟨en, hen, hv⟩ := it.2 j v (by rw [← Array.getElem?_toList]; exact hj)
      have qe := entry_at he j
      rw [hen] at qe
      cases hb : ks[j]? with
      | none =>
        rw [hb] at qe
        exact nomatch (show some en = none from qe)
      | some b =>
        rw [hb] at qe
        have e2 : en = entryOfKey (nestedKind X.prog X.w) b := Option.some.inj qe
        rw [hv, e2]
        all_goals rfl
  have rv : Vals (ks.map fun x => V.ref x.2.1) acc'.toList := by rw [ea]; exact refs_vals _
  have hz' : (ks.map fun x => V.ref x.2.1).length ≤ sizeLine := by rw [List.length_map]; omega
  refine ⟨.ref s.heap.objs.size, _, I.laid (t' := tk) (o := .lst (ks.map fun x => V.ref x.2.1)) kp (Nat.le_refl _) ?_, rfl, q _ (I.hok.fresh (Nat.le_refl _))⟩
  exact ⟨hz', acc'.toList, c', rv, by rw [Array.toArray_toList]; exact e⟩
def rListB (X : Cx) : List V → Hp → VK → Prop := fun vs H Q => rListD vs H Q ∨ rListN X vs H Q
theorem call_list_dB (hc : X.calm = true) : CallR X (.type "list") (rListB X) := fun pins s σ H xs us Q I r h => by
  rcases h with h | h
  · exact call_list_dK hc pins s σ H xs us Q I r h
  · exact call_list_dN hc pins s σ H xs us Q I r h
theorem keysN_rel {K : PySem.W.Frag} {H : Hp} : ∀ {kvs : List (D × D)} {xs : List (NestedKey × Addr × Value)}, Paired (fun (p : D × D) (x : NestedKey × Addr × Value) => nk p.1 = some x.1 ∧ p.1.depth ≤ 8 ∧ RV K H p.1 (.ref x.2.1) ∧ ∃ v, RelV v x.2.2 ∧ RV K H p.2 v) kvs xs → RVs K H (kvs.map (·.1)) (xs.map fun x => V.ref x.2.1)
  | _, _, .nil => .nil
  | _, _, .cons r t => .cons r.2.2.1 (keysN_rel t)
theorem nest_all {K : PySem.W.Frag} {H : Hp} : ∀ {kvs : List (D × D)} {xs : List (NestedKey × Addr × Value)}, Paired (fun (p : D × D) (x : NestedKey × Addr × Value) => nk p.1 = some x.1 ∧ p.1.depth ≤ 8 ∧ RV K H p.1 (.ref x.2.1) ∧ ∃ v, RelV v x.2.2 ∧ RV K H p.2 v) kvs xs → ∀ x ∈ xs, ∃ d, RV K H d (.ref x.2.1) ∧ nk d = some x.1 ∧ d.depth ≤ 8
  | _, _, .nil, x, hx => nomatch hx
  | _, _, .cons r t, x, hx => by
    rcases List.mem_cons.mp hx with rfl | hx
    · exact ⟨_, r.2.2.1, r.1, r.2.1⟩
    · exact nest_all t x hx
theorem ok_listD : UnOk X tb oListD (fun v H Q => rListB X [v] H Q) := fun F T ψ g σ H c x z Q R hc e k => by
  unfold oListD at e
  split at e
  · rename_i t kvs
    cases e
    cases t with
    | false =>
      obtain ⟨a, rfl, ks, h1, _, h3⟩ := hc
      exact .inl ⟨_, _, rfl, h1, give_lst R (keys_rel h3) k⟩
    | true =>
      obtain ⟨a, rfl, h⟩ := hc
      rcases h with ⟨rfl, h1⟩ | ⟨xs, h1, h2, h3, h4, h5⟩
      · exact .inl ⟨_, _, rfl, h1, give_lst (ds := []) (vs := []) R .nil k⟩
      · exact .inr ⟨_, _, rfl, ⟨h1, h2, h3, h4, nest_all h5⟩, give_lst R (keysN_rel h5) k⟩
  · cases e
theorem de_listD {p : Pos} (B : Bl X.mg "list" (.type "list")) (ha : DE X tb a ta) (hg : Gl X "list" := by rfl) (hs : starEach [a] X.env = (false, eval a X.env) :: starEach [] X.env := by rfl) (hc : X.calm = true := by rfl) : DE X tb (.Call (.Name "list" p) [a] [] pos) (eUn oListD ta) :=
  de_call1 (call_list_dB hc) ok_listD (fun t h => pe_callTy (call_list_dB hc) hg B.no B.is h (he := hs)) ha hs
theorem ok_tuple : UnOk X tb oTuple (fun v H Q => ∃ p ys, [v] = [V.ref p] ∧ ((SqL X.K H p ys ∧ ∀ l, H l = none → Q (.ref l) (L2.upd H l (.tup ys))) ∨ (SqT X.K H p ys ∧ Q (.ref p) H))) := fun F T ψ g σ H c x z Q R hc e k => by
  unfold oTuple at e
  split at e
  · cases e
    obtain ⟨a, rfl, vs, h1, h2⟩ := hc
    exact ⟨_, _, rfl, .inl ⟨SqL.of h1, give_tup R h2 k⟩⟩
  · cases e
    cases hc with | tup h1 h2 => ?_
    exact ⟨_, _, rfl, .inr ⟨h1, k _ T H ⟨.tup h1 h2, rfl⟩ R (Keep.refl H)⟩⟩
  · cases e
theorem de_tuple {p : Pos} (B : Bl X.mg "tuple" (.type "tuple")) (ha : DE X tb a ta) (hg : Gl X "tuple" := by rfl) (hs : starEach [a] X.env = (false, eval a X.env) :: starEach [] X.env := by rfl) : DE X tb (.Call (.Name "tuple" p) [a] [] pos) (eUn oTuple ta) :=
  de_call1 call_tuple_of ok_tuple (fun t h => pe_callTy call_tuple_of hg B.no B.is h (he := hs)) ha hs
theorem boolsD_rel {K : PySem.W.Frag} {H : Hp} : ∀ {ds : List D} {vs : List V} {bs : List Bool}, RVs K H ds vs → boolsD ds = some bs → vs = bs.map V.bl
  | _, _, _, .nil, e => by cases e; rfl
  | d :: ds, _, bs, .cons r t, e => by
    cases r <;> first | (cases e; done) | skip
    obtain ⟨cs, e1, rfl⟩ := Option.map_eq_some_iff.mp e
    rw [boolsD_rel t e1]; rfl
theorem intsD_rel {K : PySem.W.Frag} {H : Hp} : ∀ {ds : List D} {vs : List V} {bs : List Int}, RVs K H ds vs → intsD ds = some bs → vs = bs.map V.int
  | _, _, _, .nil, e => by cases e; rfl
  | d :: ds, _, bs, .cons r t, e => by
    cases r <;> first | (cases e; done) | skip
    obtain ⟨cs, e1, rfl⟩ := Option.map_eq_some_iff.mp e
    rw [intsD_rel t e1]; rfl
theorem textsD_rel {K : PySem.W.Frag} {H : Hp} : ∀ {ds : List D} {vs : List V} {bs : List (List Nat)}, RVs K H ds vs → textsD ds = some bs → vs = (bs.map fun s => (⟨s.toArray⟩ : Str)).map V.str ∧ ∀ s ∈ bs, OkS s
  | _, _, _, .nil, e => by cases e; exact ⟨rfl, fun _ h => nomatch h⟩
  | d :: ds, _, bs, .cons r t, e => by
    cases r <;> first | (cases e; done) | skip
    rename_i s hs
    obtain ⟨cs, e1, rfl⟩ := Option.map_eq_some_iff.mp e
    obtain ⟨h1, h2⟩ := textsD_rel t e1
    exact ⟨by rw [h1]; rfl, fun x hx => (List.mem_cons.mp hx).elim (fun z => z ▸ hs) (h2 x)⟩
theorem ok_all : UnOk X tb oAll (fun v H Q => rAll X.K [v] H Q) := fun F T ψ g σ H c x z Q R hc e k => by
  unfold oAll at e
  split at e
  · obtain ⟨bs, e1, rfl⟩ := Option.map_eq_some_iff.mp e
    obtain ⟨a, rfl, vs, h1, h2⟩ := hc
    exact ⟨a, bs, rfl, by rw [← boolsD_rel h2 e1]; exact SqL.of h1, k _ T H ⟨.bl _, rfl⟩ R (Keep.refl H)⟩
  · cases e
theorem de_all {p : Pos} (B : Bl X.mg "all" (.builtin "all")) (ha : DE X tb a ta) (hg : Gl X "all" := by rfl) (hs : starEach [a] X.env = (false, eval a X.env) :: starEach [] X.env := by rfl) (hc : X.calm = true := by rfl) : DE X tb (.Call (.Name "all" p) [a] [] pos) (eUn oAll ta) :=
  de_call1 (cr_all hc) ok_all (fun t h => pe_callB (cr_all hc) hg B.no B.is h (he := hs)) ha hs
theorem ok_sum : UnOk X tb oSum (fun v H Q => rSum X.K [v] H Q) := fun F T ψ g σ H c x z Q R hc e k => by
  unfold oSum at e
  split at e
  · obtain ⟨bs, e1, rfl⟩ := Option.map_eq_some_iff.mp e
    obtain ⟨a, rfl, vs, h1, h2⟩ := hc
    exact ⟨a, bs, rfl, by rw [← intsD_rel h2 e1]; exact SqL.of h1, k _ T H ⟨.int _, rfl⟩ R (Keep.refl H)⟩
  · cases e
theorem de_sum {p : Pos} (B : Bl X.mg "sum" (.builtin "sum")) (ha : DE X tb a ta) (hg : Gl X "sum" := by rfl) (hs : starEach [a] X.env = (false, eval a X.env) :: starEach [] X.env := by rfl) (hc : X.calm = true := by rfl) : DE X tb (.Call (.Name "sum" p) [a] [] pos) (eUn oSum ta) :=
  de_call1 (cr_sum hc) ok_sum (fun t h => pe_callB (cr_sum hc) hg B.no B.is h (he := hs)) ha hs
theorem ok_intc : UnOk X tb oInt (fun v H Q => (∃ i, [v] = [V.int i] ∧ Q (.int i) H) ∨ ∃ k, [v] = [V.bl k] ∧ Q (.int (if k then 1 else 0)) H) := fun F T ψ g σ H c x z Q R hc e k => by
  unfold oInt at e
  split at e
  · cases e; cases hc
    exact .inl ⟨_, rfl, k _ T H ⟨.int _, rfl⟩ R (Keep.refl H)⟩
  · cases e; cases hc
    exact .inr ⟨_, rfl, k _ T H ⟨.int _, rfl⟩ R (Keep.refl H)⟩
  · cases e
theorem de_intc {p : Pos} (B : Bl X.mg "int" (.type "int")) (ha : DE X tb a ta) (hg : Gl X "int" := by rfl) (hs : starEach [a] X.env = (false, eval a X.env) :: starEach [] X.env := by rfl) : DE X tb (.Call (.Name "int" p) [a] [] pos) (eUn oInt ta) :=
  de_call1 call_int1 ok_intc (fun t h => pe_callTy call_int1 hg B.no B.is h (he := hs)) ha hs
end
end Pd
set_option Elab.async false
set_option linter.all false
set_option maxRecDepth 100000
set_option maxHeartbeats 1000000
namespace Pd
open PySem PySem.Spec PyProof.Rows L2
section
variable {X : Cx} {tb : Tb} {e a b c : Expr} {es : List Expr} {te ta u v : WE} {ts : WD} {as : WA} {pos : Pos}
/-! ### rows of expressions -/
theorem dd_nil : DD X tb [] dNil := fun W tk => ⟨_, pa_nil, fun E F T ψ g σ H Q' Q R ex q k => k [] ψ g [] H q .nil rfl R (Keep.refl H)⟩
theorem dd_cons (ha : DE X tb e te) (hr : DD X tb es ts) (hs : starEach (e :: es) X.env = (false, eval e X.env) :: starEach es X.env := by rfl) : DD X tb (e :: es) (dCons te ts) := fun W tk => by
  obtain ⟨t1, h1, h2⟩ := ha W tk
  obtain ⟨t2, h3, h4⟩ := hr W tk
  refine ⟨_, pa_cons h1 h3 hs, fun E F T ψ g σ H Q' Q R ex q k => h2 E F T ψ g σ H _ _ R ex q fun r ψ1 g1 T1 v H1 q1 rr R1 k1 => ?_⟩
  obtain ⟨x, ψ2, g2, q2, rx, R2⟩ := R1.toD rr q1
  refine h4 E F T ψ2 g2 σ H1 _ _ R2 (ex.on k1) q2 fun ds ψ3 g3 vs H3 q3 rs hl R3 k3 => ?_
  exact k (x :: ds) ψ3 g3 (v :: vs) H3 q3 (.cons (rx.keep k3) rs) (by simp [hl]) R3 (k1.trans k3)
theorem RRs.keep {B : Bx} {σ : L2.St} {H H' : Hp} (k : Keep H H') : ∀ {rs : List R} {vs : List V} {T T1 : Own}, RRs B σ H rs vs T T1 → RRs B σ H' rs vs T T1
  | _, _, _, _, .nil => .nil
  | _, _, _, _, .cons r t => .cons (r.keep k) (RRs.keep k t)
theorem RRs.suffix {B : Bx} {σ : L2.St} {H : Hp} : ∀ {rs : List R} {vs : List V} {T T1 : Own}, RRs B σ H rs vs T T1 → ∃ T', T1 = T' ++ T
  | _, _, _, _, .nil => ⟨[], rfl⟩
  | _, _, _, _, .cons r t => by
    obtain ⟨T', rfl⟩ := r.suffix
    obtain ⟨T'', rfl⟩ := RRs.suffix t
    exact ⟨T'' ++ T', by rw [List.append_assoc]⟩
theorem da_nil : DA X tb [] aNil := fun W tk => ⟨_, pa_nil, fun E F T ψ g σ H Q' Q R ex q k => k [] ψ g T [] H q .nil R (Keep.refl H)⟩
theorem da_cons (ha : DE X tb e te) (hr : DA X tb es as) (hs : starEach (e :: es) X.env = (false, eval e X.env) :: starEach es X.env := by rfl) : DA X tb (e :: es) (aCons te as) := fun W tk => by
  obtain ⟨t1, h1, h2⟩ := ha W tk
  obtain ⟨t2, h3, h4⟩ := hr W tk
  refine ⟨_, pa_cons h1 h3 hs, fun E F T ψ g σ H Q' Q R ex q k => h2 E F T ψ g σ H _ _ R ex q fun r ψ1 g1 T1 v H1 q1 rr R1 k1 => ?_⟩
  obtain ⟨T', rfl⟩ := rr.suffix
  exact h4 E F (T' ++ T) ψ1 g1 σ H1 _ _ R1 (ex.more k1) q1 fun rs ψ3 g3 T3 vs H3 q3 rrs R3 k3 => k (r :: rs) ψ3 g3 T3 (v :: vs) H3 q3 (.cons (rr.keep k3) rrs) R3 (k1.trans k3)
theorem thousand {n : Nat} (h : Nat.ble n 1000 = true) : n ≤ sizeLine := by
  have h1 := Nat.le_of_ble_eq_true h
  have h2 : (1000 : Nat) ≤ sizeLine := by decide
  omega
theorem de_tup {x1} (h : DD X tb es ts) (hn : Nat.ble es.length 1000 = true := by rfl) : DE X tb (.Tuple es x1 pos) (eTup ts) := fun W tk => by
  obtain ⟨t1, h1, h2⟩ := h W tk
  refine ⟨_, pe_tup h1, fun E F T ψ g σ H Q' Q R ex q k => h2 E F T ψ g σ H _ _ R ex q fun ds ψ1 g1 vs H1 q1 rs hl R1 k1 => ⟨?_, give_tup R1 rs fun v T1 H2 rr R2 k2 => k _ ψ1 g1 T1 v H2 q1 rr R2 (k1.trans k2)⟩⟩
  rw [← rs.length, hl]; exact thousand hn
theorem de_lst (h : DD X tb es ts) (hn : Nat.ble es.length 1000 = true := by rfl) : DE X tb (.List es pos) (eLst ts) := fun W tk => by
  obtain ⟨t1, h1, h2⟩ := h W tk
  refine ⟨_, pe_lst h1, fun E F T ψ g σ H Q' Q R ex q k => h2 E F T ψ g σ H _ _ R ex q fun ds ψ1 g1 vs H1 q1 rs hl R1 k1 => ⟨?_, give_lst R1 rs fun v T1 H2 rr R2 k2 => k _ ψ1 g1 T1 v H2 q1 rr R2 (k1.trans k2)⟩⟩
  rw [← rs.length, hl]; exact thousand hn
theorem de_dic (t : Bool) : DE X tb (.Dict [] [] pos) (eDic t) := fun W tk => ⟨_, pe_dnewK, fun E F T ψ g σ H Q' Q R ex q k p hp => by
  have kp : Keep H (L2.upd H p (.dK [])) := Keep.new hp
  refine k _ ψ g _ _ _ q ⟨p, rfl, rfl⟩ (R.new hp ?_) kp
  cases t with
  | false => exact ⟨[], upd_same, List.nodup_nil, .nil⟩
  | true => exact .inl ⟨rfl, upd_same⟩⟩

/-! ### tests -/
theorem tV_inv {t : WE} {E : EX} {ψ : Psi} {g : G} {Q : Bool → Psi → G → Prop} (h : tV t E ψ g Q) : t E ψ g fun r ψ g => match look ψ g r with
  | some (.d (.bl b)) => Q b ψ g
  | _ => False := h
theorem bl_at {F T T1 : Own} {ψ : Psi} {g : G} {σ : L2.St} {H : Hp} {r : Pd.R} {v : V} {k : Bool → Prop} (R : Rel (bx X tb) F ψ g T1 σ H) (rr : RR (bx X tb) r v T T1 σ H)
    (q : match look ψ g r with | some (.d (.bl b)) => k b | _ => False) : ∃ b, v = .bl b ∧ k b ∧ Rel (bx X tb) F ψ g T σ H := by
  obtain ⟨T', rfl⟩ := id rr.suffix
  split at q
  · rename_i b e1
    have x1 := R.look rr e1 ⟨[], rfl⟩
    cases x1
    exact ⟨b, rfl, q, R.dropT⟩
  · exact q.elim
theorem ref_tV {W : WX} {t : WE} {t0 : TE} (h : RefE X tb W t t0) : RefT X tb W (tV t) (tTest t0) := fun E F T ψ g σ H Q' Q R ex q k => h E F T ψ g σ H _ _ R ex q fun r ψ1 g1 T1 v H1 q1 rr R1 k1 => by
  obtain ⟨b, rfl, q2, R2⟩ := bl_at R1 rr q1
  exact ⟨b, rfl, k b ψ1 g1 H1 q2 R2 k1⟩
theorem dt_v (h : DE X tb e te) (he : ∀ whole, isTrue e X.env whole = (do let v ← whole; standAt e.pos; holding [v] (truthy v)) := by intro _; rfl) : DT X tb e (tV te) := fun W tk => by
  obtain ⟨t1, h1, h2⟩ := h W tk
  exact ⟨_, pt_val h1 he, ref_tV h2⟩
theorem dt_cmp {op : CmpOp} {f : G → C → C → Option R} {r : R2} (ho : OpR X (compareOp op) r) (ok : OpOk X tb f r) (ha : DE X tb a ta) (hb : DE X tb b u) (hm : behindInMarks op b = false := by first | exact nomark b | rfl) : DT X tb (.Compare a [op] [b] pos) (tV (eBin f ta u)) := fun W tk =>
  let ⟨_, h1, h2⟩ := ha W tk
  let ⟨_, h3, h4⟩ := hb W tk
  ⟨_, pt_cmpR ho h1 h3 hm, ref_tV (ref_bin ok h2 h4)⟩
theorem dt_not {t : WT} (h : DT X tb a t) : DT X tb (.UnaryOp .Not a pos) (tNot t) := fun W tk => by
  obtain ⟨t1, h1, h2⟩ := h W tk
  exact ⟨_, pt_not h1, fun E F T ψ g σ H Q' Q R ex q k => h2 E F T ψ g σ H _ _ R ex q fun b ψ1 g1 H1 q1 R1 k1 => k _ ψ1 g1 H1 q1 R1 k1⟩
theorem dw_and1 {t : WT} (h : DT X tb a t) : DW X tb (.BoolOp .And [a] pos) t := fun W tk => let ⟨_, h1, h2⟩ := h W tk; ⟨_, pw_and1 h1, h2⟩
theorem dw_or1 {t : WT} (h : DT X tb a t) : DW X tb (.BoolOp .Or [a] pos) t := fun W tk => let ⟨_, h1, h2⟩ := h W tk; ⟨_, pw_or1 h1, h2⟩
theorem dw_and {t t' : WT} {rest : List Expr} (h : DT X tb a t) (h' : DW X tb (.BoolOp .And (b :: rest) pos) t') : DW X tb (.BoolOp .And (a :: b :: rest) pos) (tAnd t t') := fun W tk => by
  obtain ⟨t1, h1, h2⟩ := h W tk
  obtain ⟨t2, h3, h4⟩ := h' W tk
  refine ⟨_, pw_and h1 h3, fun E F T ψ g σ H Q' Q R ex q k => h2 E F T ψ g σ H _ _ R ex q fun b ψ1 g1 H1 q1 R1 k1 => ?_⟩
  cases b with
  | true => exact h4 E F T ψ1 g1 σ H1 _ _ R1 (ex.on k1) q1 fun b ψ2 g2 H2 q2 R2 k2 => k b ψ2 g2 H2 q2 R2 (k1.trans k2)
  | false => exact k false ψ1 g1 H1 q1 R1 k1
theorem dw_or {t t' : WT} {rest : List Expr} (h : DT X tb a t) (h' : DW X tb (.BoolOp .Or (b :: rest) pos) t') : DW X tb (.BoolOp .Or (a :: b :: rest) pos) (tOr t t') := fun W tk => by
  obtain ⟨t1, h1, h2⟩ := h W tk
  obtain ⟨t2, h3, h4⟩ := h' W tk
  refine ⟨_, pw_or h1 h3, fun E F T ψ g σ H Q' Q R ex q k => h2 E F T ψ g σ H _ _ R ex q fun b ψ1 g1 H1 q1 R1 k1 => ?_⟩
  cases b with
  | false => exact h4 E F T ψ1 g1 σ H1 _ _ R1 (ex.on k1) q1 fun b ψ2 g2 H2 q2 R2 k2 => k b ψ2 g2 H2 q2 R2 (k1.trans k2)
  | true => exact k true ψ1 g1 H1 q1 R1 k1

/-! ### and, or, not, if as values -/
theorem de_one {op} (h : DE X tb a ta) : DE X tb (.BoolOp op [a] pos) ta := fun W tk => let ⟨_, h1, h2⟩ := h W tk; ⟨_, pe_one h1, h2⟩
theorem de_and {rest : List Expr} (h : DE X tb a ta) (h' : DE X tb (.BoolOp .And (b :: rest) pos) u) : DE X tb (.BoolOp .And (a :: b :: rest) pos) (eAnd ta u) := fun W tk => by
  obtain ⟨t1, h1, h2⟩ := h W tk
  obtain ⟨t2, h3, h4⟩ := h' W tk
  refine ⟨_, pe_and h1 h3, fun E F T ψ g σ H Q' Q R ex q k => h2 E F T ψ g σ H _ _ R ex q fun r ψ1 g1 T1 v H1 q1 rr R1 k1 => ?_⟩
  obtain ⟨b, rfl, q2, R2⟩ := bl_at R1 rr q1
  refine ⟨b, rfl, ?_⟩
  cases b with
  | true => exact h4 E F T ψ1 g1 σ H1 _ _ R2 (ex.on k1) q2 fun r ψ2 g2 T2 v H2 q2 rr R2 k2 => k r ψ2 g2 T2 v H2 q2 rr R2 (k1.trans k2)
  | false => exact k _ ψ1 g1 T _ H1 q2 ⟨.bl _, rfl⟩ R2 k1
theorem de_or {rest : List Expr} (h : DE X tb a ta) (h' : DE X tb (.BoolOp .Or (b :: rest) pos) u) : DE X tb (.BoolOp .Or (a :: b :: rest) pos) (eOr ta u) := fun W tk => by
  obtain ⟨t1, h1, h2⟩ := h W tk
  obtain ⟨t2, h3, h4⟩ := h' W tk
  refine ⟨_, pe_or h1 h3, fun E F T ψ g σ H Q' Q R ex q k => h2 E F T ψ g σ H _ _ R ex q fun r ψ1 g1 T1 v H1 q1 rr R1 k1 => ?_⟩
  obtain ⟨b, rfl, q2, R2⟩ := bl_at R1 rr q1
  refine ⟨b, rfl, ?_⟩
  cases b with
  | false => exact h4 E F T ψ1 g1 σ H1 _ _ R2 (ex.on k1) q2 fun r ψ2 g2 T2 v H2 q2 rr R2 k2 => k r ψ2 g2 T2 v H2 q2 rr R2 (k1.trans k2)
  | true => exact k _ ψ1 g1 T _ H1 q2 ⟨.bl _, rfl⟩ R2 k1
theorem de_not (h : DE X tb a ta) : DE X tb (.UnaryOp .Not a pos) (eNot ta) := fun W tk => by
  obtain ⟨t1, h1, h2⟩ := h W tk
  refine ⟨_, pe_not h1, fun E F T ψ g σ H Q' Q R ex q k => h2 E F T ψ g σ H _ _ R ex q fun r ψ1 g1 T1 v H1 q1 rr R1 k1 => ?_⟩
  obtain ⟨b, rfl, q2, R2⟩ := bl_at R1 rr q1
  exact ⟨b, rfl, k _ ψ1 g1 T _ H1 q2 ⟨.bl _, rfl⟩ R2 k1⟩
theorem de_if {t : WT} (hc : DT X tb c t) (ha : DE X tb a ta) (hb : DE X tb b u) : DE X tb (.IfExp c a b pos) (eIf t ta u) := fun W tk => by
  obtain ⟨t0, h1, h2⟩ := hc W tk
  obtain ⟨t1, h3, h4⟩ := ha W tk
  obtain ⟨t2, h5, h6⟩ := hb W tk
  refine ⟨_, pe_ifExp h1 h3 h5, fun E F T ψ g σ H Q' Q R ex q k => h2 E F T ψ g σ H _ _ R ex q fun b ψ1 g1 H1 q1 R1 k1 => ?_⟩
  cases b with
  | true => exact h4 E F T ψ1 g1 σ H1 _ _ R1 (ex.on k1) q1 fun r ψ2 g2 T2 v H2 q2 rr R2 k2 => k r ψ2 g2 T2 v H2 q2 rr R2 (k1.trans k2)
  | false => exact h6 E F T ψ1 g1 σ H1 _ _ R1 (ex.on k1) q1 fun r ψ2 g2 T2 v H2 q2 rr R2 k2 => k r ψ2 g2 T2 v H2 q2 rr R2 (k1.trans k2)
/-! ### a op b op' c -/
theorem ref_chain {W : WX} {f f' : G → C → C → Option R} {r r' : R2} {t1 t2 t3 : TE} (ho : OpOk X tb f r) (ho' : OpOk X tb f' r') (ha : RefE X tb W ta t1) (hb : RefE X tb W u t2) (hc : RefE X tb W v t3) : RefE X tb W (eChain f f' ta u v) (tChain r r' t1 t2 t3) :=
  fun E F T ψ g σ H Q' Q R ex q k => ha E F T ψ g σ H _ _ R ex q fun r1 ψ1 g1 T1 v1 H1 q1 rr1 R1 k1 => by
    obtain ⟨T', rfl⟩ := id rr1.suffix
    refine hb E F (T' ++ T) ψ1 g1 σ H1 _ _ R1 (ex.more k1) q1 fun r2 ψ2 g2 T2 v2 H2 q2 rr2 R2 k2 => ?_
    obtain ⟨T'', rfl⟩ := id rr2.suffix
    obtain ⟨c1, e1, q3⟩ := optQ_inv q2
    obtain ⟨c2, e2, q4⟩ := optQ_inv q3
    have x1 := R2.look (rr1.keep k2) e1 ⟨T'', rfl⟩
    have x2 := R2.look rr2 e2 ⟨[], rfl⟩
    split at q4
    · rename_i e3
      refine ho F (T'' ++ (T' ++ T)) ψ2 g2 σ H2 c1 c2 v1 v2 _ _ R2 x1 x2 e3 fun z T3 H3 rr R3 k3 => ?_
      obtain ⟨rz, rfl⟩ := rr
      cases rz
      refine ⟨true, rfl, ?_⟩
      refine hc E F (T'' ++ (T' ++ T)) ψ2 g2 σ H3 _ _ R3 (ExOk.more (T' := T'') (ex.more (T' := T') ((k1.trans k2).trans k3)) (Keep.refl _)) q4 fun r4 ψ4 g4 T4 v4 H4 q5 rr4 R4 k4 => ?_
      obtain ⟨T4', rfl⟩ := id rr4.suffix
      obtain ⟨c2', e4, q6⟩ := optQ_inv q5
      obtain ⟨c4, e5, q7⟩ := optQ_inv q6
      obtain ⟨z, e6, q8⟩ := optQ_inv q7
      have y1 := R4.look ((rr2.keep k3).keep k4) e4 ⟨T4', rfl⟩
      have y2 := R4.look rr4 e5 ⟨[], rfl⟩
      exact ho' F T ψ4 g4 σ H4 c2' c4 v2 v4 z Q (Rel.dropT (Rel.dropT (Rel.dropT R4))) y1 y2 e6 fun v T5 H5 rr5 R5 k5 => k z ψ4 g4 T5 v H5 q8 rr5 R5 ((((k1.trans k2).trans k3).trans k4).trans k5)
    · rename_i e3
      refine ho F T ψ2 g2 σ H2 c1 c2 v1 v2 _ _ (Rel.dropT (Rel.dropT R2)) x1 x2 e3 fun z T3 H3 rr R3 k3 => ?_
      obtain ⟨rz, e9⟩ := rr
      cases rz
      exact ⟨false, rfl, k _ ψ2 g2 T3 _ H3 q4 ⟨.bl _, e9⟩ R3 ((k1.trans k2).trans k3)⟩
    · exact q4.elim
theorem de_chain {op op' : CmpOp} {f f' : G → C → C → Option R} {r r' : R2} (ho : OpR X (compareOp op) r) (ho' : OpR X (compareOp op') r') (ok : OpOk X tb f r) (ok' : OpOk X tb f' r') (ha : DE X tb a ta) (hb : DE X tb b u) (hc : DE X tb c v)
    (hm : lastMarks [op, op'] [b, c] = false := by with_unfolding_all rfl) : DE X tb (.Compare a [op, op'] [b, c] pos) (eChain f f' ta u v) := fun W tk =>
  let ⟨_, h1, h2⟩ := ha W tk
  let ⟨_, h3, h4⟩ := hb W tk
  let ⟨_, h5, h6⟩ := hc W tk
  ⟨_, pe_chain ho ho' h1 h3 h5 hm, ref_chain ok ok' h2 h4 h6⟩
theorem dt_chain {op op' : CmpOp} {f f' : G → C → C → Option R} {r r' : R2} (ho : OpR X (compareOp op) r) (ho' : OpR X (compareOp op') r') (ok : OpOk X tb f r) (ok' : OpOk X tb f' r') (ha : DE X tb a ta) (hb : DE X tb b u) (hc : DE X tb c v)
    (hm : lastMarks [op, op'] [b, c] = false := by with_unfolding_all rfl) : DT X tb (.Compare a [op, op'] [b, c] pos) (tV (eChain f f' ta u v)) := fun W tk =>
  let ⟨_, h1, h2⟩ := ha W tk
  let ⟨_, h3, h4⟩ := hb W tk
  let ⟨_, h5, h6⟩ := hc W tk
  ⟨_, pt_chain ho ho' h1 h3 h5 hm, ref_tV (ref_chain ok ok' h2 h4 h6)⟩
/-! ### is None -/
theorem RV.non_iff {K : PySem.W.Frag} {H : Hp} {d : D} {v : V} (h : RV K H d v) : decide (v = .non) = decide (d = .non) := by
  cases h <;> simp
theorem isNon_ok {F T T1 : Own} {ψ : Psi} {g : G} {σ : L2.St} {H : Hp} {r : Pd.R} {v : V} {k : Bool} (R : Rel (bx X tb) F ψ g T1 σ H) (rr : RR (bx X tb) r v T T1 σ H) (h : isNon ψ r = some k) : decide (v = .non) = k := by
  cases r with
  | d x => cases h; exact rr.1.non_iff
  | own o => cases h; obtain ⟨a, rfl, _⟩ := rr; rfl
  | sl i =>
    have h' : (match ψ[i]? with | some (some (.d x)) => some (decide (x = .non)) | some (some _) => some false | _ => none) = some k := h
    split at h'
    · rename_i x e
      cases h'
      obtain ⟨u, e1, e2⟩ := R.sl i _ e
      rw [rr.1] at e1; cases e1
      exact RV.non_iff e2
    · rename_i s hs e
      cases h'
      obtain ⟨u, e1, e2⟩ := R.sl i _ e
      rw [rr.1] at e1; cases e1
      cases s with
      | d x => exact (hs x rfl).elim
      | own o => obtain ⟨a, rfl⟩ := e2; rfl
      | bor o => obtain ⟨a, rfl, _⟩ := e2; rfl
    · cases h'
theorem ref_isN {W : WX} {t0 : TE} (h : RefE X tb W ta t0) : RefE X tb W (eIsN false ta) (tIsN t0) := fun E F T ψ g σ H Q' Q R ex q k => h E F T ψ g σ H _ _ R ex q fun r ψ1 g1 T1 v H1 q1 rr R1 k1 => by
  obtain ⟨b, e1, q2⟩ := optQ_inv q1
  obtain ⟨T', rfl⟩ := id rr.suffix
  rw [isNon_ok R1 rr e1]
  exact k _ ψ1 g1 T _ H1 q2 ⟨.bl _, rfl⟩ R1.dropT k1
theorem ref_notN {W : WX} {t0 : TE} (h : RefE X tb W ta t0) : RefE X tb W (eIsN true ta) (tNotN t0) := fun E F T ψ g σ H Q' Q R ex q k => h E F T ψ g σ H _ _ R ex q fun r ψ1 g1 T1 v H1 q1 rr R1 k1 => by
  obtain ⟨b, e1, q2⟩ := optQ_inv q1
  obtain ⟨T', rfl⟩ := id rr.suffix
  rw [isNon_ok R1 rr e1]
  exact k _ ψ1 g1 T _ H1 q2 ⟨.bl _, rfl⟩ R1.dropT k1
theorem de_isN {j pos'} (h : DE X tb a ta) : DE X tb (.Compare a [.Is] [.Constant .none j pos'] pos) (eIsN false ta) := fun W tk => let ⟨_, h1, h2⟩ := h W tk; ⟨_, pe_cmp (pc_isN h1), ref_isN h2⟩
theorem de_notN {j pos'} (h : DE X tb a ta) : DE X tb (.Compare a [.IsNot] [.Constant .none j pos'] pos) (eIsN true ta) := fun W tk => let ⟨_, h1, h2⟩ := h W tk; ⟨_, pe_cmp (pc_notN h1), ref_notN h2⟩
theorem dt_isN {j pos'} (h : DE X tb a ta) : DT X tb (.Compare a [.Is] [.Constant .none j pos'] pos) (tV (eIsN false ta)) := fun W tk => let ⟨_, h1, h2⟩ := h W tk; ⟨_, pt_cmp (pc_isN h1), ref_tV (ref_isN h2)⟩
theorem dt_notN {j pos'} (h : DE X tb a ta) : DT X tb (.Compare a [.IsNot] [.Constant .none j pos'] pos) (tV (eIsN true ta)) := fun W tk => let ⟨_, h1, h2⟩ := h W tk; ⟨_, pt_cmp (pc_notN h1), ref_tV (ref_notN h2)⟩
def rIsB2 : R2 := fun x y H Q => ∃ b : Bool, y = .bl b ∧ Q (.bl (decide (x = .bl b))) H
def rNotB2 : R2 := fun x y H Q => ∃ b : Bool, y = .bl b ∧ Q (.bl (!decide (x = .bl b))) H
theorem is_bool {M : Model} {A : Around} {E : Value → Shared → Prop} {s : Shared} {x : V} {v : Value} {b : Bool} {R : Bool → Shared → Prop} (r : RelV x v) (q : R (decide (x = .bl b)) s) : wpAny M A (isSame v (.bool b)) R E s := by
  have go : plainIs v (.bool b) = true → (v == Value.bool b) = decide (x = .bl b) → wpAny M A (isSame v (.bool b)) R E s := fun h1 h2 => wpAny_isSame_plain h1 (by rw [h2]; exact q)
  cases x with
  | bl a =>
    cases r
    refine go rfl ?_
    by_cases e : a = b
    · subst e; simp
    · have h1 : (Value.bool a == Value.bool b) = false := beq_eq_false_iff_ne.mpr fun z => e (Value.bool.inj z)
      rw [h1]; simp [e]
  | ref a => cases r; exact go rfl rfl
  | non => cases r; exact go rfl rfl
  | int i => obtain ⟨t, rfl⟩ := r; exact go rfl rfl
  | str x => obtain ⟨t, rfl⟩ := r; exact go rfl rfl
  | byt x => obtain ⟨t, rfl⟩ := r; exact go rfl rfl
  | flt x => obtain ⟨t, rfl⟩ := r; exact go rfl rfl
  | ty n => cases r; exact go rfl rfl
theorem op_isBl2 {X : Cx} : OpR X (compareOp .Is) rIsB2 := by
  intro pins s σ H x y v u Q I rx ry h
  obtain ⟨b, rfl, q⟩ := h
  cases ry
  show wpAny _ _ ((isSame v (Value.bool b)) >>= fun z => pure (Value.bool z)) _ _ s
  exact wpAny_bind (is_bool rx (wpAny_pure (fin_bl I q rfl)))
theorem op_notBl2 {X : Cx} : OpR X (compareOp .IsNot) rNotB2 := by
  intro pins s σ H x y v u Q I rx ry h
  obtain ⟨b, rfl, q⟩ := h
  cases ry
  show wpAny _ _ ((isSame v (Value.bool b)) >>= fun z => pure (Value.bool (!z))) _ _ s
  exact wpAny_bind (is_bool rx (wpAny_pure (fin_bl I q rfl)))
def isBlC (b : Bool) : C → Bool
  | .d (.bl a) => decide (a = b)
  | _ => false
theorem rc_bl {B : Bx} {H : Hp} {c : C} {x : V} (h : RC B H c x) (b : Bool) : decide (x = .bl b) = isBlC b c := by
  cases c with
  | o o => obtain ⟨a, rfl, _⟩ := h; rfl
  | d y =>
    cases h with
    | bl a =>
      show decide (V.bl a = V.bl b) = decide (a = b)
      exact decide_eq_decide.mpr ⟨fun z => V.bl.inj z, fun z => by rw [z]⟩
    | _ => rfl
theorem isB_eq {neg : Bool} {g : G} {c c' : C} {z : Pd.R} (e : oIsB neg g c c' = some z) : ∃ b, c' = .d (.bl b) ∧ z = .d (.bl (if neg then !isBlC b c else isBlC b c)) := by
  cases c' with
  | o o => cases c with
    | o _ => cases e
    | d x => cases x <;> cases e
  | d y => cases y with
    | bl b =>
      refine ⟨b, rfl, ?_⟩
      cases c with
      | o _ => cases e; cases neg <;> rfl
      | d x => cases x <;> (cases e; cases neg <;> rfl)
    | _ => cases c with
      | o _ => cases e
      | d x => cases x <;> cases e
theorem ok_isB : OpOk X tb (oIsB false) rIsB2 := fun F T ψ g σ H c c' x y z Q R hc hc' e k => by
  obtain ⟨b, rfl, rfl⟩ := isB_eq e
  cases hc'
  refine ⟨b, rfl, ?_⟩
  rw [rc_bl hc b]
  exact k _ T H ⟨.bl _, rfl⟩ R (Keep.refl H)
theorem ok_notB : OpOk X tb (oIsB true) rNotB2 := fun F T ψ g σ H c c' x y z Q R hc hc' e k => by
  obtain ⟨b, rfl, rfl⟩ := isB_eq e
  cases hc'
  refine ⟨b, rfl, ?_⟩
  rw [rc_bl hc b]
  exact k _ T H ⟨.bl _, rfl⟩ R (Keep.refl H)
/-! ### attributes -/
/-- the class of that name: a plain one, which has no such attribute of its own -/
structure InsOk (K : PySem.W.Frag) (tb : Tb) (c : String) (f : Str) : Prop where
  is : ∀ C, tb.cl c = some C → Cls K C ∧ NoAttr K C f
theorem char_inj {a b : Char} (h : a.toNat = b.toNat) : a = b := Char.ext (UInt32.toNat_inj.mp h)
theorem ofString_inj {s t : String} (h : Str.ofString s = Str.ofString t) : s = t := by
  have h1 : s.toList.map Char.toNat = t.toList.map Char.toNat := by
    rw [Str.ofString_eq_toList, Str.ofString_eq_toList] at h
    have := congrArg (fun z : Str => z.cps.toList) h
    simpa using this
  have : s.toList = t.toList := (List.map_inj_right fun _ _ => char_inj).mp h1
  exact String.toList_inj.mp this
theorem beq_ofString (s t : String) : (s == t) = (Str.ofString s == Str.ofString t) := by
  by_cases h : s = t
  · subst h; simp
  · rw [beq_eq_false_iff_ne.mpr h]
    exact (beq_eq_false_iff_ne.mpr fun e => h (ofString_inj e)).symm
theorem RFs.look {K : PySem.W.Frag} {H : Hp} {f : String} : ∀ {fs : List (String × D)} {vs : List (Str × V)}, RFs K H fs vs → (∀ d, fs.lookup f = some d → ∃ v, vs.lookup (Str.ofString f) = some v ∧ RV K H d v) ∧ (fs.lookup f = none → vs.lookup (Str.ofString f) = none)
  | _, _, .nil => ⟨fun _ h => (nomatch h), fun _ => (show [].lookup (Str.ofString f) = none from rfl)⟩
  | (p :: fs), (q :: vs), .cons r t => by
    obtain ⟨r1, r2⟩ := r
    have ih := RFs.look (f := f) t
    rw [List.lookup_cons, List.lookup_cons]
    rw [beq_ofString f p.1, r1]
    cases Str.ofString f == q.1 with
    | true => exact ⟨fun d e => by cases e; exact ⟨_, rfl, r2⟩, fun e => (nomatch e)⟩
    | false => exact ih
theorem de_fld {x : Str} (cn f : String) (I : InsOk X.K tb cn x) (h : DE X tb a ta) (hx : Str.ofString f = x := by rfl) (hb : attributeBase a x X.env (eval a X.env) = eval a X.env := by rfl) : DE X tb (.Attribute a x pos) (eFld cn f ta) := fun W tk => by
  obtain ⟨t1, h1, h2⟩ := h W tk
  refine ⟨_, pe_fld h1 hb, fun E F T ψ g σ H Q' Q R ex q k => h2 E F T ψ g σ H _ _ R ex q fun r ψ1 g1 T1 v H1 q1 rr R1 k1 => ?_⟩
  obtain ⟨T', rfl⟩ := id rr.suffix
  split at q1
  · rename_i c' fs e1
    obtain ⟨rfl, q2⟩ := q1
    obtain ⟨d, e2, q3⟩ := optQ_inv q2
    obtain ⟨p, rfl, C, dx, vfs, e3, e4, e5⟩ := R1.look rr e1 ⟨[], rfl⟩
    obtain ⟨y, e6, e7⟩ := (RFs.look e5).1 d e2
    exact ⟨p, C, dx, vfs, y, rfl, e4, (I.is C e3).1, (I.is C e3).2, by rw [← hx]; exact e6, k _ ψ1 g1 T _ H1 q3 ⟨e7, rfl⟩ R1.dropT k1⟩
  · exact q1.elim
end
end Pd
set_option Elab.async false
set_option linter.all false
set_option maxRecDepth 100000
set_option maxHeartbeats 1000000
namespace Pd
open PySem PySem.Spec PyProof.Rows L2
section
variable {X : Cx} {tb : Tb} {e a b c : Expr} {es : List Expr} {te ta u v : WE} {ts : WD} {as : WA} {pos : Pos}
theorem lstAt_inv {ψ : Psi} {g : G} {r : Pd.R} (h : lstAt ψ g r) : ∃ xs, look ψ g r = some (.o (.lst xs)) := by
  unfold lstAt at h
  split at h
  · rename_i xs e; exact ⟨xs, e⟩
  · exact h.elim
/-- what is named is written -/
theorem rel_wr {B : Bx} {F T T1 : Own} {ψ : Psi} {g : G} {σ : L2.St} {H : Hp} {r : Pd.R} {v : V} {o o' : O} {k : Psi → G → Prop} (R : Rel B F ψ g T1 σ H) (rr : RR B r v T T1 σ H) (e : look ψ g r = some (.o o)) (q : wr r o' ψ g k) :
    ∃ a, v = .ref a ∧ RO B H o a ∧ ∀ w, RO B (L2.upd H a w) o' a → ∃ ψ' g', k ψ' g' ∧ Rel B F ψ' g' T σ (L2.upd H a w) ∧ Keep H (L2.upd H a w) := by
  have glb : ∀ {x : D} {v : V}, RV B.K H x v → lookD g x = some (.o o) → ∃ a, x = .ref a ∧ v = .ref a ∧ g a = some o := fun {x v} rx e => by
    cases rx with
    | ref a =>
      obtain ⟨o2, h1, h2⟩ := Option.map_eq_some_iff.mp e
      cases h2
      exact ⟨a, rfl, rfl, h1⟩
    | _ => cases e
  cases r with
  | own o2 => exact q.elim
  | d x =>
    obtain ⟨rx, rfl⟩ := rr
    obtain ⟨a, rfl, rfl, ga⟩ := glb rx e
    refine ⟨a, rfl, R.gl a o ga, fun w ho => ?_⟩
    obtain ⟨R', k'⟩ := R.writeG ga ho
    exact ⟨ψ, _, q, R', k'⟩
  | sl i =>
    obtain ⟨hσ, rfl⟩ := rr
    have e' : (match ψ[i]? with | some (some s) => lookS g s | _ => none) = some (.o o) := e
    have q' : (match ψ[i]? with | some (some (.own _)) => k (ψ.set i (some (.own o'))) g | some (some (.d (.ref a))) => k ψ (g.upd a o') | _ => False) := q
    cases hs : ψ[i]? with
    | none => rw [hs] at e'; cases e'
    | some s =>
      cases s with
      | none => rw [hs] at e'; cases e'
      | some s =>
        rw [hs] at e' q'
        cases s with
        | bor o2 => exact q'.elim
        | own o2 =>
          cases e'
          obtain ⟨a, L, h1, h2, _⟩ := R.ownAt hs
          rw [hσ] at h1; cases h1
          refine ⟨a, rfl, (R.ow.1 (a, _) (h2.mem_iff.mpr (List.Mem.head _))).1, fun w ho => ?_⟩
          obtain ⟨R', k'⟩ := R.writeS hs hσ ho
          exact ⟨_, g, q', R', k'⟩
        | d x =>
          obtain ⟨u, h1, h2⟩ := R.sl i _ hs
          rw [hσ] at h1; cases h1
          obtain ⟨a, rfl, rfl, ga⟩ := glb h2 e'
          refine ⟨a, rfl, R.gl a o ga, fun w ho => ?_⟩
          obtain ⟨R', k'⟩ := R.writeG ga ho
          exact ⟨ψ, _, q', R', k'⟩
def MtOk (X : Cx) (f : List D → List D → Option (List D × D)) (r : V → List V → Hp → VK → Prop) : Prop :=
  ∀ (H : Hp) (a : Addr) (xs ds : List D) (vs ws : List V) (p : List D × D) (Q : VK), H a = some (.lst vs) → RVs X.K H xs vs → RVs X.K H ds ws → f xs ds = some p →
    (∀ vs' v, RVs X.K H p.1 vs' → RV X.K H p.2 v → Q v (L2.upd H a (.lst vs'))) → r (.ref a) ws H Q
theorem soft_lst {H : Hp} {a : Addr} {vs : List V} {u : HO} (h : H a = some (.lst vs)) : Keep H (L2.upd H a u) := Keep.upd (by rw [h]; trivial)
theorem ref_mut {W : WX} {f : List D → List D → Option (List D × D)} {r : V → List V → Hp → VK → Prop} {t1 : TE} {t2 : TA} {n : Nat} (ok : MtOk X f r) (ha : RefE X tb W ta t1) (hb : RefD X tb W ts t2 n) : RefE X tb W (eMut f ta ts) (tBM X.K "list" r t1 t2) :=
  fun E F T ψ g σ H Q' Q R ex q k => ha E F T ψ g σ H _ _ R ex q fun r1 ψ1 g1 T1 v1 H1 q1 rr1 R1 k1 => by
  obtain ⟨la, q1⟩ := q1
  obtain ⟨xs0, e0⟩ := lstAt_inv la
  obtain ⟨a, rfl, vs0, h0, _⟩ := R1.look rr1 e0 ⟨[], rfl⟩
  refine ⟨.inl ⟨rfl, vs0, SqL.of h0⟩, ?_⟩
  obtain ⟨T', rfl⟩ := id rr1.suffix
  refine hb E F (T' ++ T) ψ1 g1 σ H1 _ _ R1 (ex.more k1) q1 fun ds ψ2 g2 ws H2 q2 rs hl R2 k2 => ?_
  split at q2
  · rename_i xs e1
    obtain ⟨p, e2, q3⟩ := optQ_inv q2
    obtain ⟨a', e3, ⟨vs, h1, h2⟩, wq⟩ := rel_wr R2 (rr1.keep k2) e1 q3
    cases e3
    refine ok H2 a xs ds vs ws p Q h1 h2 rs e2 fun vs' v r1 r2 => ?_
    obtain ⟨ψ3, g3, q4, R3, k3⟩ := wq (.lst vs') ⟨vs', upd_same, r1.keep (soft_lst h1)⟩
    exact k (.d p.2) ψ3 g3 T v _ q4 ⟨r2.keep k3, rfl⟩ R3 ((k1.trans k2).trans k3)
  · exact q2.elim
theorem ref_mut0 {W : WX} {f : List D → List D → Option (List D × D)} {r : V → List V → Hp → VK → Prop} {t1 : TE} (ok : MtOk X f r) (ha : RefE X tb W ta t1) : RefE X tb W (eMut f ta dNil) (tBM0 X.K "list" r t1) :=
  fun E F T ψ g σ H Q' Q R ex q k => ha E F T ψ g σ H _ _ R ex q fun r1 ψ1 g1 T1 v1 H1 q1 rr1 R1 k1 => by
  obtain ⟨la, q1⟩ := q1
  obtain ⟨xs0, e0⟩ := lstAt_inv la
  obtain ⟨a, rfl, vs0, h0, _⟩ := R1.look rr1 e0 ⟨[], rfl⟩
  refine ⟨.inl ⟨rfl, vs0, SqL.of h0⟩, ?_⟩
  have q2 : (match look ψ1 g1 r1 with | some (.o (.lst xs)) => optQ (f xs []) fun p => wr r1 (.lst p.1) ψ1 g1 fun ψ g => Q' (.d p.2) ψ g | _ => False) := q1
  split at q2
  · rename_i xs e1
    obtain ⟨p, e2, q3⟩ := optQ_inv q2
    obtain ⟨a', e3, ⟨vs, h1, h2⟩, wq⟩ := rel_wr R1 rr1 e1 q3
    cases e3
    refine ok H1 a xs [] vs [] p Q h1 h2 .nil e2 fun vs' v r1 r2 => ?_
    obtain ⟨ψ3, g3, q4, R3, k3⟩ := wq (.lst vs') ⟨vs', upd_same, r1.keep (soft_lst h1)⟩
    exact k (.d p.2) ψ3 g3 T v _ q4 ⟨r2.keep k3, rfl⟩ R3 (k1.trans k3)
  · exact q2.elim
theorem idxOf_ixN (n : Nat) (i : Int) : idxOf n i = L2.ixN n i := by
  unfold idxOf L2.ixN
  by_cases h0 : 0 ≤ i
  · by_cases h1 : i < n
    · rw [if_pos ⟨h0, h1⟩, if_pos h0, if_pos h1]
    · rw [if_neg (fun z => h1 z.2), if_neg (by omega), if_pos h0, if_neg h1]
  · rw [if_neg (fun z => h0 z.1), if_neg h0]
    by_cases h1 : -(n : Int) ≤ i
    · rw [if_pos ⟨h1, by omega⟩, if_pos h1, Int.add_comm]
    · rw [if_neg (fun z => h1 z.1), if_neg h1]
theorem mt_ok_append : MtOk X mAppend rAppend := fun H a xs ds vs ws p Q h hx hd e k => by
  unfold mAppend at e
  split at e
  · split at e
    · rename_i x hl
      cases e
      cases hd with | cons r t => cases t; exact ⟨a, vs, _, rfl, rfl, h, by rw [← hx.length, ← most_eq]; exact hl, k _ _ (hx.append (.cons r .nil)) .non⟩
    · cases e
  · cases e
theorem mt_ok_pop : MtOk X mPop rPop := fun H a xs ds vs ws p Q h hx hd e k => by
  unfold mPop at e
  split at e
  · obtain ⟨y, e1, rfl⟩ := Option.map_eq_some_iff.mp e
    cases hd
    obtain ⟨v, h1, h2⟩ := hx.get e1
    exact ⟨a, vs, v, rfl, rfl, h, by rw [← hx.length]; exact h1, k _ _ hx.dropLast h2⟩
  · cases e
theorem mt_ok_popAt : MtOk X mPopAt rPopAt := fun H a xs ds vs ws p Q h hx hd e k => by
  unfold mPopAt at e
  split at e
  · rename_i i
    split at e
    · rename_i hi
      obtain ⟨j, e1, e2⟩ := Option.bind_eq_some_iff.mp e
      obtain ⟨y, e3, rfl⟩ := Option.map_eq_some_iff.mp e2
      cases hd with | cons r t => ?_
      cases t; cases r
      obtain ⟨v, h1, h2⟩ := hx.get e3
      rw [idxOf_ixN] at e1
      have hq := L2.ixN_seq e1
      refine ⟨a, vs, i, j, v, rfl, rfl, h, by omega, by omega, by rw [← hx.length]; exact hq.1, h1, k _ _ (hx.eraseIdx j) h2⟩
    · cases e
  · cases e
def rInsert : V → List V → Hp → VK → Prop := fun x vs H Q => ∃ (l : Addr) (xs : List V) (i : Int) (y : V), x = .ref l ∧ vs = [.int i, y] ∧ H l = some (.lst xs) ∧ xs.length < sizeLine ∧ 0 ≤ i ∧ i < 2 ^ 63 ∧
    Q .non (L2.upd H l (.lst (xs.take i.toNat ++ [y] ++ xs.drop i.toNat)))
theorem mt_ok_insert : MtOk X mInsert rInsert := fun H a xs ds vs ws p Q h hx hd e k => by
  unfold mInsert at e
  split at e
  · split at e
    · rename_i i y hl
      cases e
      cases hd with | cons r t => ?_
      cases t with | cons r2 t => ?_
      cases t; cases r
      refine ⟨a, vs, i, _, rfl, rfl, h, by rw [← hx.length, ← most_eq]; exact hl.1, hl.2.1, by omega, k _ _ (((hx.take _).append (.cons r2 .nil)).append (hx.drop _)) .non⟩
    · cases e
  · cases e
theorem mt_ok_reverse : MtOk X mReverse rReverse := fun H a xs ds vs ws p Q h hx hd e k => by
  unfold mReverse at e
  split at e
  · cases e
    cases hd
    exact ⟨a, vs, rfl, rfl, h, k _ _ hx.reverse .non⟩
  · cases e
section
variable {apos : Pos} {name : Str} {id : String} {f : List D → List D → Option (List D × D)} {r : V → List V → Hp → VK → Prop}
theorem de_mut (slot : Slot "list" name id) (hty : typeOf (.builtin id) = pure (.type "method_descriptor")) (hm : MtR X id r) (ok : MtOk X f r) (ha : DE X tb a ta) (hb : DD X tb (e :: es) ts)
    (hbase : attributeBase a name X.env (eval a X.env) = eval a X.env)
    (hfew : ((backTo pos (starEach (e :: es) X.env)).all (fun x => !x.1) && (backToKw pos (keywordEach [] X.env)).all (fun x => x.1.isSome)
      && decide ((e :: es).length + ([] : List Keyword).length + (if ([] : List Keyword).isEmpty then 0 else 1) < 30)) = true)
    (hline : (apos.endLine == pos.line) = true) (hs : starEach (e :: es) X.env = (false, eval e X.env) :: starEach es X.env) (hplain : (backTo pos (starEach es X.env)).any (·.1) = false) :
    DE X tb (.Call (.Attribute a name apos) (e :: es) [] pos) (eMut f ta ts) := fun W tk => by
  obtain ⟨t1, h1, h2⟩ := ha W tk
  obtain ⟨t2, h3, h4⟩ := hb W tk
  exact ⟨_, pe_bm F.plainAttrs_list slot hty hm h1 h3 hbase hfew hline hs hplain, ref_mut ok h2 h4⟩
theorem de_mut0 (slot : Slot "list" name id) (hty : typeOf (.builtin id) = pure (.type "method_descriptor")) (hm : MtR X id r) (ok : MtOk X f r) (ha : DE X tb a ta)
    (hbase : attributeBase a name X.env (eval a X.env) = eval a X.env) (hline : (apos.endLine == pos.line) = true) :
    DE X tb (.Call (.Attribute a name apos) [] [] pos) (eMut f ta dNil) := fun W tk => by
  obtain ⟨t1, h1, h2⟩ := ha W tk
  exact ⟨_, pe_bm0 F.plainAttrs_list slot hty hm h1 hbase hline, ref_mut0 ok h2⟩
theorem de_append (ha : DE X tb a ta) (hb : DD X tb [e] ts) (hbase : attributeBase a "append" X.env (eval a X.env) = eval a X.env := by rfl) (hline : (apos.endLine == pos.line) = true := by rfl)
    (hfew : ((backTo pos (starEach [e] X.env)).all (fun x => !x.1) && (backToKw pos (keywordEach [] X.env)).all (fun x => x.1.isSome) && decide ([e].length + ([] : List Keyword).length + (if ([] : List Keyword).isEmpty then 0 else 1) < 30)) = true := by rfl)
    (hs : starEach [e] X.env = (false, eval e X.env) :: starEach [] X.env := by rfl) : DE X tb (.Call (.Attribute a "append" apos) [e] [] pos) (eMut mAppend ta ts) :=
  de_mut F.slot_list_append F.type_list_append mt_append mt_ok_append ha hb hbase hfew hline hs rfl
theorem de_popAt (ha : DE X tb a ta) (hb : DD X tb [e] ts) (hbase : attributeBase a "pop" X.env (eval a X.env) = eval a X.env := by rfl) (hline : (apos.endLine == pos.line) = true := by rfl)
    (hfew : ((backTo pos (starEach [e] X.env)).all (fun x => !x.1) && (backToKw pos (keywordEach [] X.env)).all (fun x => x.1.isSome) && decide ([e].length + ([] : List Keyword).length + (if ([] : List Keyword).isEmpty then 0 else 1) < 30)) = true := by rfl)
    (hs : starEach [e] X.env = (false, eval e X.env) :: starEach [] X.env := by rfl) : DE X tb (.Call (.Attribute a "pop" apos) [e] [] pos) (eMut mPopAt ta ts) :=
  de_mut F.slot_list_pop F.type_list_pop mt_popAt mt_ok_popAt ha hb hbase hfew hline hs rfl
theorem de_insert {e2 : Expr} (ha : DE X tb a ta) (hb : DD X tb [e, e2] ts) (hbase : attributeBase a "insert" X.env (eval a X.env) = eval a X.env := by rfl) (hline : (apos.endLine == pos.line) = true := by rfl)
    (hfew : ((backTo pos (starEach [e, e2] X.env)).all (fun x => !x.1) && (backToKw pos (keywordEach [] X.env)).all (fun x => x.1.isSome) && decide ([e, e2].length + ([] : List Keyword).length + (if ([] : List Keyword).isEmpty then 0 else 1) < 30)) = true := by rfl)
    (hs : starEach [e, e2] X.env = (false, eval e X.env) :: starEach [e2] X.env := by rfl) (hpl : (backTo pos (starEach [e2] X.env)).any (·.1) = false := by rfl) : DE X tb (.Call (.Attribute a "insert" apos) [e, e2] [] pos) (eMut mInsert ta ts) :=
  de_mut F.slot_list_insert F.type_list_insert (show MtR X _ rInsert from mt_insert) mt_ok_insert ha hb hbase hfew hline hs hpl
theorem de_pop (ha : DE X tb a ta) (hbase : attributeBase a "pop" X.env (eval a X.env) = eval a X.env := by rfl) (hline : (apos.endLine == pos.line) = true := by rfl) : DE X tb (.Call (.Attribute a "pop" apos) [] [] pos) (eMut mPop ta dNil) :=
  de_mut0 F.slot_list_pop F.type_list_pop mt_pop mt_ok_pop ha hbase hline
theorem de_reverse (ha : DE X tb a ta) (hbase : attributeBase a "reverse" X.env (eval a X.env) = eval a X.env := by rfl) (hline : (apos.endLine == pos.line) = true := by rfl) : DE X tb (.Call (.Attribute a "reverse" apos) [] [] pos) (eMut mReverse ta dNil) :=
  de_mut0 F.slot_list_reverse F.type_list_reverse mt_reverse mt_ok_reverse ha hbase hline
end
end
end Pd
set_option Elab.async false
set_option linter.all false
set_option maxRecDepth 100000
set_option maxHeartbeats 1000000
namespace Pd
open PySem PySem.Spec PyProof.Rows L2
section
variable {X : Cx} {tb : Tb} {e a b c : Expr} {es : List Expr} {te ta u v : WE} {ts : WD} {as : WA} {pos apos : Pos}
/-! ### join -/
theorem joinL_eq (S : List Nat) : ∀ ps : List (List Nat), TL.joinL S ps = Pd.joinL S ps
  | [] => rfl
  | [_] => rfl
  | p :: q :: r => by
    show p ++ (S ++ TL.joinL S (q :: r)) = p ++ S ++ Pd.joinL S (q :: r)
    rw [joinL_eq S (q :: r), List.append_assoc]
theorem joinL_ok {S : List Nat} (h : OkS S) : ∀ {ps : List (List Nat)}, (∀ p ∈ ps, OkS p) → OkS (Pd.joinL S ps)
  | [], _ => fun _ z => nomatch z
  | [p], hp => hp p (List.Mem.head _)
  | p :: q :: r, hp => fun c hc => by
    have hc' : c ∈ p ++ S ++ Pd.joinL S (q :: r) := hc
    rcases List.mem_append.mp hc' with z | z
    · rcases List.mem_append.mp z with z | z
      · exact hp p (List.Mem.head _) c z
      · exact h c z
    · exact joinL_ok h (fun x hx => hp x (List.Mem.tail _ hx)) c z
theorem join_str (S : List Nat) (ps : List (List Nat)) : Txt.join ⟨S.toArray⟩ (ps.map fun s => (⟨s.toArray⟩ : Str)) = ⟨(Pd.joinL S ps).toArray⟩ := by
  rw [TL.join_eq]
  have h := TL.tl_join (⟨S.toArray⟩ : Str) (ps.map fun s => (⟨s.toArray⟩ : Str))
  have e1 : (ps.map fun s => (⟨s.toArray⟩ : Str)).map TL.tl = ps := by
    rw [List.map_map]
    exact (List.map_congr_left fun s _ => rfl).trans (List.map_id _)
  rw [e1, joinL_eq] at h
  have h2 : (Str.join ⟨S.toArray⟩ (ps.map fun s => (⟨s.toArray⟩ : Str))).cps.toList = Pd.joinL S ps := h
  cases hj : Str.join ⟨S.toArray⟩ (ps.map fun s => (⟨s.toArray⟩ : Str)) with
  | mk z => rw [hj] at h2; rw [← h2]
def rJoin (K : PySem.W.Frag) : V → List V → Hp → VK → Prop := fun x xs H Q => ∃ a p, ∃ ys : List Str, x = .str a ∧ xs = [.ref p] ∧ (SqL K H p (ys.map V.str) ∨ SqT K H p (ys.map V.str)) ∧
  (ys.map (·.length)).sum + ys.length * a.length ≤ 16777216 ∧ Q (.str (Txt.join a ys)) H
theorem ok_join (S : List Nat) (hS : OkS S) : UnOk X tb (oJoin S) (fun v H Q => rJoin X.K (.str ⟨S.toArray⟩) [v] H Q) := fun F T ψ g σ H c x z Q R hc e k => by
  unfold oJoin at e
  split at e
  · obtain ⟨bs, e1, e2⟩ := Option.bind_eq_some_iff.mp e
    split at e2
    · rename_i hl
      cases e2
      obtain ⟨a, rfl, vs, h1, h2⟩ := hc
      obtain ⟨h3, h4⟩ := textsD_rel h2 e1
      refine ⟨_, a, bs.map fun s => (⟨s.toArray⟩ : Str), rfl, rfl, .inl (by rw [← h3]; exact SqL.of h1), ?_, ?_⟩
      · have e3 : (bs.map fun s => (⟨s.toArray⟩ : Str)).map (·.length) = bs.map List.length := by
          rw [List.map_map]; exact List.map_congr_left fun s _ => by simp [Str.length]
        rw [e3, List.length_map]
        have e4 : (⟨S.toArray⟩ : Str).length = S.length := by simp [Str.length]
        rw [e4]; exact hl
      · rw [join_str]
        exact k _ T H ⟨.str _ (joinL_ok hS h4), rfl⟩ R (Keep.refl H)
    · cases e2
  · cases e
theorem de_join (S : List Nat) {x : Str} {j : Nat} {p : Pos} (ha : DE X tb a ta) (hx : x = ⟨S.toArray⟩ := by decide +kernel) (hS : (S.all fun c => decide (c < 1114112)) = true := by rfl)
    (hs : starEach [a] X.env = [(false, eval a X.env)] := by rfl) (hbase : attributeBase (.Constant (.str x) j p) "join" X.env (eval (.Constant (.str x) j p) X.env) = eval (.Constant (.str x) j p) X.env := by rfl) (hline : (apos.endLine == pos.line) = true := by rfl) :
    DE X tb (.Call (.Attribute (.Constant (.str x) j p) "join" apos) [a] [] pos) (eUn (oJoin S) ta) := fun W tk => by
  obtain ⟨t1, h1, h2⟩ := ha W tk
  have hk : OkS S := fun c hc => of_decide_eq_true (List.all_eq_true.mp hS c hc)
  refine ⟨_, pe_m1 F.slot_str_join F.type_str_join (show MtR X _ (rJoin X.K) from mt_join) pe_str h1 hs hbase hline, fun E F T ψ g σ H Q' Q R ex q k => ⟨⟨_, rfl⟩, ?_⟩⟩
  subst hx
  exact ref_un (ok_join S hk) h2 E F T ψ g σ H Q' Q R ex q k
/-! ### isinstance -/
def tyName : Ty → String
  | .str => "str" | .int => "int" | .bool => "bool" | .list => "list" | .tuple => "tuple"
theorem tyX_seqL {K : PySem.W.Frag} {H : Hp} {a : Addr} {vs : List V} (h : SqL K H a vs) : TyX K H (.ref a) (.type "list") := by
  rcases h with (h | ⟨o, h⟩) | ⟨o, its, n, h, c, _⟩
  · exact .base (.lst h)
  · exact .base (.frz h)
  · exact .kList h c
theorem tyX_seqT {K : PySem.W.Frag} {H : Hp} {a : Addr} {vs : List V} (h : SqT K H a vs) : TyX K H (.ref a) (.type "tuple") := by
  rcases h with (h | ⟨o, h⟩) | ⟨o, its, n, h, c, _⟩
  · exact .base (.tup h)
  · exact .fTuple h
  · exact .kTuple h c

theorem isT_ok (t : Ty) : UnOk X tb (oIsT t) (fun v H Q => rIsi X.K [v, .ty (tyName t)] H Q) := fun F T ψ g σ H c x z Q R hc e k => by
  obtain ⟨b, e1, rfl⟩ := Option.map_eq_some_iff.mp e
  have fin : Q (.bl b) H := k _ T H ⟨.bl _, rfl⟩ R (Keep.refl H)
  have go : ∀ n, TyX X.K H x (.type n) → kitB n (tyName t) = some b → rIsi X.K [x, .ty (tyName t)] H Q := fun n h1 h2 => ⟨x, .ty (tyName t), .type n, .type (tyName t), b, rfl, .ty _, h1, kit_ty h2, fin⟩
  cases c with
  | o o =>
    cases o with
    | lst xs =>
      obtain ⟨a, rfl, vs, h1, h2⟩ := hc
      refine go "list" (.base (.lst h1)) ?_
      cases t <;> cases e1 <;> decide +kernel
    | dic _ _ => cases t <;> cases e1
    | ins _ _ => cases t <;> cases e1
  | d d =>
    cases hc with
    | non => refine go "NoneType" (.base .non) ?_; cases t <;> cases e1 <;> decide +kernel
    | bl _ => refine go "bool" (.base (.bl _)) ?_; cases t <;> cases e1 <;> decide +kernel
    | int _ => refine go "int" (.base (.int _)) ?_; cases t <;> cases e1 <;> decide +kernel
    | str _ _ => refine go "str" (.base (.str _)) ?_; cases t <;> cases e1 <;> decide +kernel
    | ref _ => cases t <;> cases e1
    | tup h1 h2 => refine go "tuple" (tyX_seqT h1) ?_; cases t <;> cases e1 <;> decide +kernel
    | rol h1 h2 => refine go "list" (tyX_seqL h1.seq) ?_; cases t <;> cases e1 <;> decide +kernel
theorem de_isT (t : Ty) {x : Str} {p q : Pos} (B : Bl X.mg "isinstance" (.builtin "isinstance")) (C : Bl X.mg x (.type (tyName t))) (ha : DE X tb a ta) (hg : Gl X "isinstance" := by rfl) (hx : Gl X x := by rfl)
    (hn : x ≠ "__name__" := by decide) (hdb : (x == ("__debug__" : Str)) = false := by decide)
    (hs : starEach [a, .Name x p] X.env = (false, eval a X.env) :: starEach [.Name x p] X.env := by rfl) (hs2 : starEach [.Name x p] X.env = (false, eval (.Name x p) X.env) :: starEach [] X.env := by rfl) (hpl : (backTo pos (starEach [.Name x p] X.env)).any (·.1) = false := by rfl) :
    DE X tb (.Call (.Name "isinstance" q) [a, .Name x p] [] pos) (eUn (oIsT t) ta) := fun W tk => by
  obtain ⟨t1, h1, h2⟩ := ha W tk
  refine ⟨_, pe_callB call_isi hg B.no B.is (pa_cons h1 (pa_cons (pe_bltn (v := .ty (tyName t)) hx C.no C.is rfl hn hdb) pa_nil hs2) hs) (he := hs), ?_⟩
  exact ref_un (isT_ok t) h2

/-! ### what is walked -/
structure ItOk (B : Bx) (F T : Own) (S : List Nat) (σ : L2.St) (H0 : Hp) (xs : List D) (ok : Psi → G → Prop) (J : L2.It) : Prop where
  turn : ∀ (i : Nat) (ψ : Psi) (g : G) (T2 : Own) (σ' : L2.St) (H : Hp), ok ψ g → Rel B F ψ g (T2 ++ T) σ' H → (∀ j ∈ S, σ'[j]? = σ[j]?) → Keep H0 H →
    (∀ d, xs[i]? = some d → J.go i H ∧ ∀ v H', J.yld i H v H' → RV B.K H' d v ∧ Rel B F ψ g (T2 ++ T) σ' H' ∧ Keep H H') ∧ (xs.length ≤ i → J.stop i H)
def RefI (X : Cx) (tb : Tb) (W : WX) (S : List Nat) (w : WI) (wi : TI) : Prop := ∀ (E : EX) (F T : Own) (ψ : Psi) (g : G) (σ : L2.St) (H : Hp) (K : List D → (Psi → G → Prop) → Psi → G → Prop) (Q : L2.It → Hp → Prop),
  Rel (bx X tb) F ψ g T σ H → ExOk (bx X tb) tb.ec W E F T σ H → w E ψ g K →
  (∀ xs ok ψ1 g1 T' J H1, K xs ok ψ1 g1 → ok ψ1 g1 → Rel (bx X tb) F ψ1 g1 (T' ++ T) σ H1 → Keep H H1 → ItOk (bx X tb) F (T' ++ T) S σ H1 xs ok J → Q J H1) → wi σ H Q
def DI (X : Cx) (tb : Tb) (tg e : Expr) (S : List Nat) (w : WI) : Prop := ∀ W : WX, Takes X W → ∃ wi, PI X tg e wi ∧ RefI X tb W S w wi
def slotIn (S : List Nat) : R → Prop
  | .sl i => i ∈ S
  | _ => True
def RefS1 (X : Cx) (tb : Tb) (W : WX) (S : List Nat) (t : WE) (t0 : TE) : Prop := ∀ (E : EX) (F T : Own) (ψ : Psi) (g : G) (σ : L2.St) (H : Hp) (Q' : R → Psi → G → Prop) (Q : VK),
  Rel (bx X tb) F ψ g T σ H → ExOk (bx X tb) tb.ec W E F T σ H → t E ψ g Q' →
  (∀ r ψ1 g1 T1 v H1, Q' r ψ1 g1 → slotIn S r → RR (bx X tb) r v T T1 σ H1 → Rel (bx X tb) F ψ1 g1 T1 σ H1 → Keep H H1 → Q v H1) → t0 σ H Q
/-- a source: an expression whose answer is leaned upon while it is walked -/
def DSo (X : Cx) (tb : Tb) (e : Expr) (S : List Nat) (t : WE) : Prop := ∀ W : WX, Takes X W → ∃ t0, PE X e t0 ∧ RefS1 X tb W S t t0
theorem so_var (i : Nat) (h : DE X tb e (eVar i)) : DSo X tb e [i] (eVar i) := fun W tk => by
  obtain ⟨t1, h1, h2⟩ := h W tk
  refine ⟨_, h1, fun E F T ψ g σ H Q' Q R ex q k => ?_⟩
  refine h2 E F T ψ g σ H (fun r ψ g => Q' r ψ g ∧ slotIn [i] r) Q R ex ?_ fun r ψ1 g1 T1 v H1 q1 rr R1 k1 => k r ψ1 g1 T1 v H1 q1.1 q1.2 rr R1 k1
  have q' : (match ψ[i]? with | some (some _) => Q' (.sl i) ψ g | _ => False) := q
  show (match ψ[i]? with | some (some _) => Q' (.sl i) ψ g ∧ slotIn [i] (.sl i) | _ => False)
  split at q' <;> first | exact ⟨q', List.mem_singleton.mpr rfl⟩ | exact q'.elim
theorem so_exp (h : DE X tb e te) : DSo X tb e [] (eNs te) := fun W tk => by
  obtain ⟨t1, h1, h2⟩ := h W tk
  refine ⟨_, h1, fun E F T ψ g σ H Q' Q R ex q k => h2 E F T ψ g σ H _ Q R ex q fun r ψ1 g1 T1 v H1 q1 rr R1 k1 => ?_⟩
  cases r with
  | sl i => exact q1.elim
  | d x => exact k _ ψ1 g1 T1 v H1 q1 trivial rr R1 k1
  | own o => exact k _ ψ1 g1 T1 v H1 q1 trivial rr R1 k1
theorem RR.at {B : Bx} {r : Pd.R} {v : V} {T T1 : Own} {σ σ' : L2.St} {H H' : Hp} {S : List Nat} (h : RR B r v T T1 σ H) (hs : slotIn S r) (e : ∀ j ∈ S, σ'[j]? = σ[j]?) (k : Keep H H') : RR B r v T T1 σ' H' := by
  cases r with
  | d x => exact ⟨h.1.keep k, h.2⟩
  | own o => exact h
  | sl i => exact ⟨by rw [e i hs]; exact h.1, h.2⟩
theorem still_now {ψ : Psi} {g : G} {r : Pd.R} {c : C} (e : look ψ g r = some c) : still r c ψ g := by
  cases r with
  | own o => trivial
  | d x => exact e
  | sl i => exact e
/-- what stands, read again -/
theorem still_rc {B : Bx} {F T T1 T2 : Own} {ψ0 ψ : Psi} {g0 g : G} {σ σ' : L2.St} {H0 H : Hp} {r : Pd.R} {v : V} {c : C} {S : List Nat} (rr : RR B r v T T1 σ H0) (hs : slotIn S r) (e0 : look ψ0 g0 r = some c) (h : still r c ψ g)
    (R : Rel B F ψ g (T2 ++ T1) σ' H) (e : ∀ j ∈ S, σ'[j]? = σ[j]?) (k : Keep H0 H) : RC B H c v := by
  refine R.look (rr.at hs e k) ?_ ⟨T2, rfl⟩
  cases r with
  | own o => exact e0
  | d x => exact h
  | sl i => exact h
theorem lstC_rc {B : Bx} {H : Hp} {c : C} {v : V} {xs : List D} (h : RC B H c v) (e : lstC c = some xs) : ∃ a vs, v = .ref a ∧ SqL B.K H a vs ∧ RVs B.K H xs vs := by
  unfold lstC at e
  split at e
  · cases e
    obtain ⟨a, rfl, vs, h1, h2⟩ := h
    exact ⟨a, vs, rfl, SqL.of h1, h2⟩
  · cases e
    cases h with | rol h1 h2 => exact ⟨_, _, rfl, h1.seq, h2⟩
  · cases e
theorem tupC_rc {B : Bx} {H : Hp} {c : C} {v : V} {xs : List D} (h : RC B H c v) (e : tupC c = some xs) : ∃ a vs, v = .ref a ∧ SqT B.K H a vs ∧ RVs B.K H xs vs := by
  unfold tupC at e
  split at e
  · cases e
    cases h with | tup h1 h2 => exact ⟨_, _, rfl, h1, h2⟩
  · cases e
theorem items_or {c : C} {xs : List D} (e : itemsC c = some xs) : lstC c = some xs ∨ tupC c = some xs := by
  unfold itemsC at e
  split at e
  · exact .inr e
  · exact .inl e
  · exact .inl e
  · cases e
/-- a list or a tuple, as it comes -/
def iSeq (K : PySem.W.Frag) (tl : TE) : TI := fun σ H R => tl σ H fun x H1 => ∃ a, x = .ref a ∧ (((∃ xs, SqL K H1 a xs) ∧ R (Itl K a) H1) ∨ ((∃ xs, SqT K H1 a xs) ∧ R (Itt K a) H1))
theorem pi_seq {tg l : Expr} {tl : TE} (hl : PE X l tl) : PI X tg l (iSeq X.K tl) := by
  refine ⟨fun pins s0 σ H R I hw => ?_⟩
  refine thn (hl.run pins s0 σ H _ I hw) fun v s1 ⟨x, H1, I1, r1, a, ex, q1⟩ => ?_
  subst ex
  cases r1
  have near : ∀ b ∈ [s1.heap.objs.size], FpOk X pins H1 b := fun b hb => by
    rw [List.mem_singleton.mp hb]
    exact I1.fpOk (Nat.le_refl _) (I1.hok.fresh (Nat.le_refl _))
  rcases q1 with ⟨⟨xs, hq⟩, q⟩ | ⟨⟨xs, hq⟩, q⟩
  · obtain ⟨us, _, hp, _⟩ := I1.list hq
    refine wpAny_pyIter_list hp.isList ⟨s1.heap.objs.size, [s1.heap.objs.size], _, _, H1, rfl, ?_, turn_list a _, ?_, near, q⟩
    · exact I1.kept (t' := s1.toks) fun _ _ e0 => Heap.get?_push_of_some _ e0
    · exact ⟨_, Heap.get?_push_size _ rfl, rfl, rfl⟩
  · obtain ⟨us, _, hp, _⟩ := I1.tuple hq
    refine wpAny_pyIter_tuple (items := us.toArray) hp ⟨s1.heap.objs.size, [s1.heap.objs.size], _, _, H1, rfl, ?_, turn_tuple a _, ?_, near, q⟩
    · exact I1.kept (t' := s1.toks) fun _ _ e0 => Heap.get?_push_of_some _ e0
    · exact ⟨_, Heap.get?_push_size _ rfl, rfl, rfl⟩
theorem itl_turn {B : Bx} {F T : Own} {ψ : Psi} {g : G} {σ : L2.St} {H : Hp} {a : Addr} {vs : List V} {xs : List D} {i : Nat} (R : Rel B F ψ g T σ H) (h : SqL B.K H a vs) (r : RVs B.K H xs vs) :
    (∀ d, xs[i]? = some d → (Itl B.K a).go i H ∧ ∀ v H', (Itl B.K a).yld i H v H' → RV B.K H' d v ∧ Rel B F ψ g T σ H' ∧ Keep H H') ∧ (xs.length ≤ i → (Itl B.K a).stop i H) := by
  refine ⟨fun d e => ?_, fun hl => ⟨vs, h, by rw [← r.length]; exact hl⟩⟩
  obtain ⟨w, h1, h2⟩ := r.get e
  refine ⟨⟨vs, w, h, h1⟩, fun v H' y => ?_⟩
  obtain ⟨rfl, y⟩ := y
  have e2 := y vs h
  rw [h1] at e2; cases e2
  exact ⟨h2, R, Keep.refl _⟩
theorem itt_turn {B : Bx} {F T : Own} {ψ : Psi} {g : G} {σ : L2.St} {H : Hp} {a : Addr} {vs : List V} {xs : List D} {i : Nat} (R : Rel B F ψ g T σ H) (h : SqT B.K H a vs) (r : RVs B.K H xs vs) :
    (∀ d, xs[i]? = some d → (Itt B.K a).go i H ∧ ∀ v H', (Itt B.K a).yld i H v H' → RV B.K H' d v ∧ Rel B F ψ g T σ H' ∧ Keep H H') ∧ (xs.length ≤ i → (Itt B.K a).stop i H) := by
  refine ⟨fun d e => ?_, fun hl => ⟨vs, h, by rw [← r.length]; exact hl⟩⟩
  obtain ⟨w, h1, h2⟩ := r.get e
  refine ⟨⟨vs, w, h, h1⟩, fun v H' y => ?_⟩
  obtain ⟨rfl, y⟩ := y
  have e2 := y vs h
  rw [h1] at e2; cases e2
  exact ⟨h2, R, Keep.refl _⟩
theorem di_seq {tg : Expr} {S : List Nat} (h : DSo X tb e S te) : DI X tb tg e S (iIt te) := fun W tk => by
  obtain ⟨t1, h1, h2⟩ := h W tk
  refine ⟨_, pi_seq h1, fun E F T ψ g σ H K Q R ex q k => h2 E F T ψ g σ H _ _ R ex q fun r ψ1 g1 T1 v H1 q1 sl rr R1 k1 => ?_⟩
  obtain ⟨c, e1, q2⟩ := optQ_inv q1
  obtain ⟨xs, e2, q3⟩ := optQ_inv q2
  have rc := R1.look rr e1 ⟨[], rfl⟩
  obtain ⟨T', rfl⟩ := id rr.suffix
  rcases items_or e2 with e3 | e3
  · obtain ⟨a, vs, rfl, h3, h4⟩ := lstC_rc rc e3
    refine ⟨a, rfl, .inl ⟨⟨vs, h3⟩, k xs _ ψ1 g1 T' _ H1 q3 (still_now e1) R1 k1 ⟨fun i ψ g T2 σ' H ok R2 es kk => ?_⟩⟩⟩
    obtain ⟨a', vs', e4, h5, h6⟩ := lstC_rc (still_rc rr sl e1 ok R2 es kk) e3
    cases e4
    exact itl_turn R2 h5 h6
  · obtain ⟨a, vs, rfl, h3, h4⟩ := tupC_rc rc e3
    refine ⟨a, rfl, .inr ⟨⟨vs, h3⟩, k xs _ ψ1 g1 T' _ H1 q3 (still_now e1) R1 k1 ⟨fun i ψ g T2 σ' H ok R2 es kk => ?_⟩⟩⟩
    obtain ⟨a', vs', e4, h5, h6⟩ := tupC_rc (still_rc rr sl e1 ok R2 es kk) e3
    cases e4
    exact itt_turn R2 h5 h6
theorem numbered_get : ∀ (n i : Nat) (xs : List D), (numbered n xs)[i]? = (xs[i]?).map fun x => .tup [.int ((n + i : Nat) : Int), x]
  | _, _, [] => rfl
  | n, 0, x :: xs => rfl
  | n, i + 1, x :: xs => by
    show (numbered (n + 1) xs)[i]? = _
    rw [numbered_get (n + 1) i xs, List.getElem?_cons_succ]
    have : n + 1 + i = n + (i + 1) := by omega
    rw [this]
theorem numbered_length : ∀ (n : Nat) (xs : List D), (numbered n xs).length = xs.length
  | _, [] => rfl
  | n, x :: xs => by show (numbered (n + 1) xs).length + 1 = xs.length + 1; rw [numbered_length]
theorem di_enum {S : List Nat} {p tpos : Pos} {elts : List Expr} {kk : Nat} (B : Bl X.mg "enumerate" (.type "enumerate")) (h : DSo X tb e S te) (hg : Gl X "enumerate" := by rfl) (hs : starEach [e] X.env = [(false, eval e X.env)] := by rfl) :
    DI X tb (.Tuple elts kk tpos) (.Call (.Name "enumerate" p) [e] [] pos) S (iEnum te) := fun W tk => by
  obtain ⟨t1, h1, h2⟩ := h W tk
  refine ⟨_, pi_enum hg B.no (pa_cons h1 pa_nil hs) hs, fun E F T ψ g σ H K Q R ex q k => h2 E F T ψ g σ H _ _ R ex q fun r ψ1 g1 T1 v H1 q1 sl rr R1 k1 => ?_⟩
  obtain ⟨c, e1, q2⟩ := optQ_inv q1
  obtain ⟨xs, e3, q3⟩ := optQ_inv q2
  obtain ⟨T', rfl⟩ := id rr.suffix
  obtain ⟨a, vs, rfl, h3, h4⟩ := lstC_rc (R1.look rr e1 ⟨[], rfl⟩) e3
  refine ⟨a, vs, rfl, h3, k _ _ ψ1 g1 T' _ H1 q3 (still_now e1) R1 k1 ⟨fun i ψ g T2 σ' H ok R2 es kk => ?_⟩⟩
  obtain ⟨a', ws, e4, h5, h6⟩ := lstC_rc (still_rc rr sl e1 ok R2 es kk) e3
  cases e4
  refine ⟨fun d e5 => ?_, fun hl => ⟨ws, h5, by rw [← h6.length, ← numbered_length 0 xs]; exact hl⟩⟩
  rw [numbered_get] at e5
  obtain ⟨x, e6, rfl⟩ := Option.map_eq_some_iff.mp e5
  obtain ⟨w, h7, h8⟩ := h6.get e6
  refine ⟨⟨ws, w, h5, h7⟩, fun v H' y => ?_⟩
  obtain ⟨t, w2, rfl, ht, rfl, y⟩ := y
  have e7 := y ws h5
  rw [h7] at e7; cases e7
  have kp : Keep H (L2.upd H t (.tup [.int (i : Nat), w])) := Keep.new ht
  refine ⟨.tup (.inl (.inl upd_same)) (.cons ?_ (.cons (h8.keep kp) .nil)), R2.alloc ht, kp⟩
  rw [Nat.zero_add]
  exact .int _
theorem pairUp_get : ∀ (i : Nat) (xs ys : List D) (d : D), (pairUp xs ys)[i]? = some d → ∃ x y, xs[i]? = some x ∧ ys[i]? = some y ∧ d = .tup [x, y]
  | _, [], _, _, h => nomatch h
  | _, _ :: _, [], _, h => nomatch h
  | 0, x :: xs, y :: ys, d, h => by cases h; exact ⟨x, y, rfl, rfl, rfl⟩
  | i + 1, x :: xs, y :: ys, d, h => by
    obtain ⟨x', y', h1, h2, h3⟩ := pairUp_get i xs ys d h
    exact ⟨x', y', by simpa using h1, by simpa using h2, h3⟩
theorem pairUp_end : ∀ (i : Nat) (xs ys : List D), (pairUp xs ys).length ≤ i → xs.length ≤ i ∨ ys.length ≤ i
  | _, [], _, _ => .inl (Nat.zero_le _)
  | _, _ :: _, [], _ => .inr (Nat.zero_le _)
  | 0, x :: xs, y :: ys, h => by exact absurd h (Nat.not_succ_le_zero _)
  | i + 1, x :: xs, y :: ys, h => (pairUp_end i xs ys (Nat.le_of_succ_le_succ h)).imp Nat.succ_le_succ Nat.succ_le_succ
theorem zipC_or {c c' : C} {p : List D × List D} (h : zipC c c' = some p) : (lstC c = some p.1 ∧ lstC c' = some p.2) ∨ (tupC c = some p.1 ∧ tupC c' = some p.2) := by
  unfold zipC at h
  split at h
  · rename_i e1 e2; cases h; exact .inl ⟨e1, e2⟩
  · split at h
    · rename_i e1 e2; cases h; exact .inr ⟨e1, e2⟩
    · cases h
theorem zip_give {B : Bx} {F T : Own} {ψ : Psi} {g : G} {σ : L2.St} {H : Hp} {t : Addr} {x y : D} {w w' : V} (R : Rel B F ψ g T σ H) (ht : H t = none) (rx : RV B.K H x w) (ry : RV B.K H y w') :
    RV B.K (L2.upd H t (.tup [w, w'])) (.tup [x, y]) (.ref t) ∧ Rel B F ψ g T σ (L2.upd H t (.tup [w, w'])) ∧ Keep H (L2.upd H t (.tup [w, w'])) := by
  have kp : Keep H (L2.upd H t (.tup [w, w'])) := Keep.new ht
  exact ⟨.tup (.inl (.inl upd_same)) (.cons (rx.keep kp) (.cons (ry.keep kp) .nil)), R.alloc ht, kp⟩
theorem di_zip {e2 : Expr} {S S' : List Nat} {p tpos : Pos} {elts : List Expr} {kk : Nat} (B : Bl X.mg "zip" (.type "zip")) (h : DSo X tb e S te) (h' : DSo X tb e2 S' u) (hg : Gl X "zip" := by rfl)
    (hs : starEach [e, e2] X.env = (false, eval e X.env) :: starEach [e2] X.env := by rfl) (hs2 : starEach [e2] X.env = (false, eval e2 X.env) :: starEach [] X.env := by rfl) (hpl : (backTo pos (starEach [e2] X.env)).any (·.1) = false := by rfl) :
    DI X tb (.Tuple elts kk tpos) (.Call (.Name "zip" p) [e, e2] [] pos) (S ++ S') (iZip te u) := fun W tk => by
  obtain ⟨t1, h1, h2⟩ := h W tk
  obtain ⟨t2, h1', h2'⟩ := h' W tk
  refine ⟨_, RZ.pi_zipA hg B.no (pa_cons h1 (pa_cons h1' pa_nil hs2) hs) hs hpl, fun E F T ψ g σ H K Q R ex q k => h2 E F T ψ g σ H _ _ R ex q fun r ψ1 g1 T1 v H1 q1 sl rr R1 k1 => ?_⟩
  obtain ⟨T', rfl⟩ := id rr.suffix
  refine h2' E F (T' ++ T) ψ1 g1 σ H1 _ _ R1 (ex.more k1) q1 fun r' ψ2 g2 T2 v' H2 q2 sl' rr' R2 k2 => ?_
  obtain ⟨T'', rfl⟩ := id rr'.suffix
  obtain ⟨c, e1, q3⟩ := optQ_inv q2
  obtain ⟨c', e1', q4⟩ := optQ_inv q3
  obtain ⟨p, e3, q5⟩ := optQ_inv q4
  have rA := rr.keep k2
  have rc := R2.look rA e1 ⟨T'', rfl⟩
  have rc' := R2.look rr' e1' ⟨[], rfl⟩
  have okA : ∀ {ψ : Psi} {g : G} {T2 : Own} {σ' : L2.St} {H : Hp}, still r c ψ g → Rel (bx X tb) F ψ g (T2 ++ (T'' ++ (T' ++ T))) σ' H → (∀ j ∈ S ++ S', σ'[j]? = σ[j]?) → Keep H2 H → RC (bx X tb) H c v := fun {ψ g T2 σ' H} o R3 es kk =>
    still_rc (T2 := T2 ++ T'') rA sl e1 o (by rw [List.append_assoc]; exact R3) (fun j hj => es j (List.mem_append_left _ hj)) kk
  have okB : ∀ {ψ : Psi} {g : G} {T2 : Own} {σ' : L2.St} {H : Hp}, still r' c' ψ g → Rel (bx X tb) F ψ g (T2 ++ (T'' ++ (T' ++ T))) σ' H → (∀ j ∈ S ++ S', σ'[j]? = σ[j]?) → Keep H2 H → RC (bx X tb) H c' v' := fun {ψ g T2 σ' H} o R3 es kk =>
    still_rc (T2 := T2) rr' sl' e1' o R3 (fun j hj => es j (List.mem_append_right _ hj)) kk
  have R2' : Rel (bx X tb) F ψ2 g2 ((T'' ++ T') ++ T) σ H2 := by rw [List.append_assoc]; exact R2
  have ok0 : still r c ψ2 g2 ∧ still r' c' ψ2 g2 := ⟨still_now e1, still_now e1'⟩
  rcases zipC_or e3 with ⟨f1, f2⟩ | ⟨f1, f2⟩
  · obtain ⟨a, vs, rfl, h3, h4⟩ := lstC_rc rc f1
    obtain ⟨b, ws, rfl, h3', h4'⟩ := lstC_rc rc' f2
    refine ⟨a, b, vs, ws, rfl, .inl ⟨h3, h3', k _ _ ψ2 g2 (T'' ++ T') _ H2 q5 ok0 R2' (k1.trans k2) ⟨fun i ψ g T2 σ' H ok R3 es kk => ?_⟩⟩⟩
    rw [List.append_assoc] at R3
    obtain ⟨a', vs, e4, h5, h6⟩ := lstC_rc (okA ok.1 R3 es kk) f1
    obtain ⟨b', ws, e4', h5', h6'⟩ := lstC_rc (okB ok.2 R3 es kk) f2
    cases e4; cases e4'
    refine ⟨fun d e5 => ?_, fun hl => ⟨vs, ws, h5, h5', by rw [← h6.length, ← h6'.length]; exact pairUp_end i _ _ hl⟩⟩
    obtain ⟨x, y, e6, e7, rfl⟩ := pairUp_get i _ _ d e5
    obtain ⟨w, h7, h8⟩ := h6.get e6
    obtain ⟨w', h7', h8'⟩ := h6'.get e7
    refine ⟨⟨vs, ws, w, w', h5, h5', h7, h7'⟩, fun v H' y => ?_⟩
    obtain ⟨t, z, z', rfl, ht, rfl, y1, y2⟩ := y
    have e8 := y1 vs h5
    have e9 := y2 ws h5'
    rw [h7] at e8; rw [h7'] at e9; cases e8; cases e9
    rw [List.append_assoc]
    exact zip_give R3 ht h8 h8'
  · obtain ⟨a, vs, rfl, h3, h4⟩ := tupC_rc rc f1
    obtain ⟨b, ws, rfl, h3', h4'⟩ := tupC_rc rc' f2
    refine ⟨a, b, vs, ws, rfl, .inr ⟨h3, h3', k _ _ ψ2 g2 (T'' ++ T') _ H2 q5 ok0 R2' (k1.trans k2) ⟨fun i ψ g T2 σ' H ok R3 es kk => ?_⟩⟩⟩
    rw [List.append_assoc] at R3
    obtain ⟨a', vs, e4, h5, h6⟩ := tupC_rc (okA ok.1 R3 es kk) f1
    obtain ⟨b', ws, e4', h5', h6'⟩ := tupC_rc (okB ok.2 R3 es kk) f2
    cases e4; cases e4'
    refine ⟨fun d e5 => ?_, fun hl => ⟨vs, ws, h5, h5', by rw [← h6.length, ← h6'.length]; exact pairUp_end i _ _ hl⟩⟩
    obtain ⟨x, y, e6, e7, rfl⟩ := pairUp_get i _ _ d e5
    obtain ⟨w, h7, h8⟩ := h6.get e6
    obtain ⟨w', h7', h8'⟩ := h6'.get e7
    refine ⟨⟨vs, ws, w, w', h5, h5', h7, h7'⟩, fun v H' y => ?_⟩
    obtain ⟨t, z, z', rfl, ht, rfl, y1, y2⟩ := y
    have e8 := y1 vs h5
    have e9 := y2 ws h5'
    rw [h7] at e8; rw [h7'] at e9; cases e8; cases e9
    rw [List.append_assoc]
    exact zip_give R3 ht h8 h8'
theorem di_range {tg : Expr} {p : Pos} (B : Bl X.mg "range" (.type "range")) (h : DE X tb e te) (hg : Gl X "range" := by rfl) (hs : starEach [e] X.env = [(false, eval e X.env)] := by rfl) :
    DI X tb tg (.Call (.Name "range" p) [e] [] pos) [] (iRange te) := fun W tk => by
  obtain ⟨t1, h1, h2⟩ := h W tk
  refine ⟨_, pi_range1 hg B.no (pa_cons h1 pa_nil hs) hs, fun E F T ψ g σ H K Q R ex q k => h2 E F T ψ g σ H _ _ R ex q fun r ψ1 g1 T1 v H1 q1 rr R1 k1 => ?_⟩
  obtain ⟨T', rfl⟩ := id rr.suffix
  split at q1
  · rename_i n e1
    have x1 := R1.look rr e1 ⟨[], rfl⟩
    cases x1
    refine ⟨n, rfl, q1.2.1, q1.1, k _ _ ψ1 g1 T' _ H1 q1.2.2 trivial R1 k1 ⟨fun i ψ g T2 σ' H ok R2 es kk => ⟨fun d e5 => ?_, fun hl => ?_⟩⟩⟩
    · rw [List.getElem?_map] at e5
      obtain ⟨j, e6, rfl⟩ := Option.map_eq_some_iff.mp e5
      obtain ⟨e7, e8⟩ := List.getElem?_eq_some_iff.mp e6
      rw [List.getElem_range] at e8
      subst e8
      rw [List.length_range] at e7
      refine ⟨e7, fun v H' y => ?_⟩
      obtain ⟨rfl, rfl⟩ := y
      rw [Int.zero_add]
      exact ⟨.int _, R2, Keep.refl _⟩
    · rw [List.length_map, List.length_range] at hl
      exact hl
  · exact q1.elim
theorem di_range2 {tg e2 : Expr} {u : WE} {p : Pos} (B : Bl X.mg "range" (.type "range")) (h : DE X tb e te) (h' : DE X tb e2 u) (hg : Gl X "range" := by rfl) (hs : starEach [e, e2] X.env = [(false, eval e X.env), (false, eval e2 X.env)] := by rfl) (hs2 : starEach [e2] X.env = [(false, eval e2 X.env)] := by rfl) :
    DI X tb tg (.Call (.Name "range" p) [e, e2] [] pos) [] (iRange2 te u) := fun W tk => by
  obtain ⟨t1, h1, h2⟩ := h W tk
  obtain ⟨t2, h3, h4⟩ := h' W tk
  refine ⟨_, pi_range2 hg B.no (pa_cons h1 (pa_cons h3 pa_nil hs2) (by rw [hs, hs2])) hs hs2, fun E F T ψ g σ H K Q R ex q k => h2 E F T ψ g σ H _ _ R ex q fun r ψ1 g1 T1 v H1 q1 rr R1 k1 => ?_⟩
  obtain ⟨T', rfl⟩ := id rr.suffix
  refine h4 E F (T' ++ T) ψ1 g1 σ H1 _ _ R1 (ex.more k1) q1 fun r' ψ2 g2 T2 v' H2 q2 rr2 R2 k2 => ?_
  obtain ⟨T'', rfl⟩ := id rr2.suffix
  split at q2
  · rename_i a e1
    split at q2
    · rename_i b e2
      have x1 := R2.look (rr.keep k2) e1 ⟨T'', rfl⟩
      have x2 := R2.look rr2 e2 ⟨[], rfl⟩
      cases x1; cases x2
      rw [← List.append_assoc] at R2
      refine ⟨a, b, rfl, q2.1, k _ _ ψ2 g2 (T'' ++ T') _ H2 q2.2 trivial R2 (k1.trans k2) ⟨fun i ψ g T2 σ' H ok R2 es kk => ⟨fun d e5 => ?_, fun hl => ?_⟩⟩⟩
      · rw [List.getElem?_map] at e5
        obtain ⟨j, e6, rfl⟩ := Option.map_eq_some_iff.mp e5
        obtain ⟨e7, e8⟩ := List.getElem?_eq_some_iff.mp e6
        rw [List.getElem_range] at e8
        subst e8
        rw [List.length_range] at e7
        refine ⟨e7, fun v H' y => ?_⟩
        obtain ⟨rfl, rfl⟩ := y
        exact ⟨.int _, R2, Keep.refl _⟩
      · rw [List.length_map, List.length_range] at hl
        exact hl
    · exact q2.elim
  · exact q2.elim
theorem di_str {tg : Expr} (h : DE X tb e te) : DI X tb tg e [] (iStr te) := fun W tk => by
  obtain ⟨t1, h1, h2⟩ := h W tk
  refine ⟨_, pi_str h1, fun E F T ψ g σ H K Q R ex q k => h2 E F T ψ g σ H _ _ R ex q fun r ψ1 g1 T1 v H1 q1 rr R1 k1 => ?_⟩
  obtain ⟨T', rfl⟩ := id rr.suffix
  split at q1
  · rename_i s e1
    have x1 := R1.look rr e1 ⟨[], rfl⟩
    cases x1 with | str _ os => ?_
    refine ⟨_, rfl, k _ _ ψ1 g1 T' _ H1 q1 trivial R1 k1 ⟨fun i ψ g T2 σ' H ok R2 es kk => ⟨fun d e5 => ?_, fun hl => ?_⟩⟩⟩
    · rw [List.getElem?_map] at e5
      obtain ⟨ch, e6, rfl⟩ := Option.map_eq_some_iff.mp e5
      obtain ⟨e7, e8⟩ := List.getElem?_eq_some_iff.mp e6
      refine ⟨by show i < (⟨s.toArray⟩ : Str).cps.size; simpa using e7, fun v H' y => ?_⟩
      obtain ⟨rfl, c, e9, rfl⟩ := y
      have e10 : s[i]? = some c := by simpa using e9
      rw [e6] at e10; cases e10
      exact ⟨.str [ch] fun z hz => by rw [List.mem_singleton.mp hz]; exact os _ (List.mem_of_getElem? e6), R2, Keep.refl _⟩
    · rw [List.length_map] at hl
      show (⟨s.toArray⟩ : Str).cps.size ≤ i
      simpa using hl
  · exact q1.elim
end
end Pd
set_option Elab.async false
set_option linter.all false
set_option maxRecDepth 100000
set_option maxHeartbeats 1000000
namespace Pd
open PySem PySem.Spec PyProof.Rows L2
section
variable {X : Cx} {tb : Tb} {e a b : Expr} {es : List Expr} {te ta u : WE} {pos : Pos}
/-! ### more built-ins -/
theorem topI_is : ∀ (xs : List Int) (x : Int), xs.foldl max x ∈ x :: xs ∧ ∀ y ∈ x :: xs, y ≤ xs.foldl max x
  | [], x => ⟨by simp, fun y hy => by simp at hy; subst hy; simp⟩
  | z :: zs, x => by
    obtain ⟨h1, h2⟩ := topI_is zs (max x z)
    show zs.foldl max (max x z) ∈ _ ∧ ∀ y ∈ _, y ≤ zs.foldl max (max x z)
    constructor
    · rcases List.mem_cons.mp h1 with h | h
      · rw [h]
        by_cases c : x ≤ z
        · rw [Int.max_eq_right c]; simp
        · rw [Int.max_eq_left (by omega)]; simp
      · simp [h]
    · intro y hy
      have h3 := h2 (max x z) (by simp)
      rcases List.mem_cons.mp hy with rfl | hy
      · have := Int.le_max_left y z; omega
      · rcases List.mem_cons.mp hy with rfl | hy
        · have := Int.le_max_right x y; omega
        · exact h2 y (by simp [hy])
theorem lowI_is : ∀ (xs : List Int) (x : Int), xs.foldl min x ∈ x :: xs ∧ ∀ y ∈ x :: xs, xs.foldl min x ≤ y
  | [], x => ⟨by simp, fun y hy => by simp at hy; subst hy; simp⟩
  | z :: zs, x => by
    obtain ⟨h1, h2⟩ := lowI_is zs (min x z)
    show zs.foldl min (min x z) ∈ _ ∧ ∀ y ∈ _, zs.foldl min (min x z) ≤ y
    constructor
    · rcases List.mem_cons.mp h1 with h | h
      · rw [h]
        by_cases c : x ≤ z
        · rw [Int.min_eq_left c]; simp
        · rw [Int.min_eq_right (by omega)]; simp
      · simp [h]
    · intro y hy
      have h3 := h2 (min x z) (by simp)
      rcases List.mem_cons.mp hy with rfl | hy
      · have := Int.min_le_left y z; omega
      · rcases List.mem_cons.mp hy with rfl | hy
        · have := Int.min_le_right x y; omega
        · exact h2 y (by simp [hy])
theorem ok_maxL : UnOk X tb oMaxL (fun v H Q => rMax X.K [v] H Q) := fun F T ψ g σ H c x z Q R hc e k => by
  unfold oMaxL at e
  split at e
  · obtain ⟨bs, e1, e2⟩ := Option.bind_eq_some_iff.mp e
    obtain ⟨m, e3, rfl⟩ := Option.map_eq_some_iff.mp e2
    obtain ⟨a, rfl, vs, h1, h2⟩ := hc
    have fin : Q (.int m) H := k _ T H ⟨.int _, rfl⟩ R (Keep.refl H)
    cases bs with
    | nil => cases e3
    | cons x xs =>
      cases e3
      refine ⟨a, x :: xs, rfl, by rw [← intsD_rel h2 e1]; exact SqL.of h1, by simp, fun m' hm hy => ?_⟩
      obtain ⟨k1, k2⟩ := topI_is xs x
      have a1 := hy _ k1
      have a2 := k2 _ hm
      rw [show m' = xs.foldl max x by omega]; exact fin
  · cases e
theorem ok_minL : UnOk X tb oMinL (fun v H Q => rMin X.K [v] H Q) := fun F T ψ g σ H c x z Q R hc e k => by
  unfold oMinL at e
  split at e
  · obtain ⟨bs, e1, e2⟩ := Option.bind_eq_some_iff.mp e
    obtain ⟨m, e3, rfl⟩ := Option.map_eq_some_iff.mp e2
    obtain ⟨a, rfl, vs, h1, h2⟩ := hc
    have fin : Q (.int m) H := k _ T H ⟨.int _, rfl⟩ R (Keep.refl H)
    cases bs with
    | nil => cases e3
    | cons x xs =>
      cases e3
      refine ⟨a, x :: xs, rfl, by rw [← intsD_rel h2 e1]; exact SqL.of h1, by simp, fun m' hm hy => ?_⟩
      obtain ⟨k1, k2⟩ := lowI_is xs x
      have a1 := hy _ k1
      have a2 := k2 _ hm
      rw [show m' = xs.foldl min x by omega]; exact fin
  · cases e
theorem de_maxL {p : Pos} (B : Bl X.mg "max" (.builtin "max")) (ha : DE X tb a ta) (hg : Gl X "max" := by rfl) (hs : starEach [a] X.env = (false, eval a X.env) :: starEach [] X.env := by rfl) (hc : X.calm = true := by rfl) : DE X tb (.Call (.Name "max" p) [a] [] pos) (eUn oMaxL ta) :=
  de_call1 (cr_max hc) ok_maxL (fun t h => pe_callB (cr_max hc) hg B.no B.is h (he := hs)) ha hs
theorem de_minL {p : Pos} (B : Bl X.mg "min" (.builtin "min")) (ha : DE X tb a ta) (hg : Gl X "min" := by rfl) (hs : starEach [a] X.env = (false, eval a X.env) :: starEach [] X.env := by rfl) (hc : X.calm = true := by rfl) : DE X tb (.Call (.Name "min" p) [a] [] pos) (eUn oMinL ta) :=
  de_call1 (cr_min hc) ok_minL (fun t h => pe_callB (cr_min hc) hg B.no B.is h (he := hs)) ha hs
/-- a built-in of two arguments -/
theorem de_call2 {x : Str} {w' : Value} {p : Pos} {f : G → C → C → Option R} {r : List V → Hp → VK → Prop} (hr : CallR X w' r) (ok : OpOk X tb f fun v v' H Q => r [v, v'] H Q) (hp : ∀ (t : TA), PA X [a, b] t → PE X (.Call (.Name x p) [a, b] [] pos) (fun σ H Q => t σ H fun vs H1 => r vs H1 Q))
    (ha : DE X tb a ta) (hb : DE X tb b u) (hs : starEach [a, b] X.env = (false, eval a X.env) :: starEach [b] X.env := by rfl) (hs2 : starEach [b] X.env = (false, eval b X.env) :: starEach [] X.env := by rfl) : DE X tb (.Call (.Name x p) [a, b] [] pos) (eBin f ta u) := fun W tk => by
  obtain ⟨t1, h1, h2⟩ := ha W tk
  obtain ⟨t2, h3, h4⟩ := hb W tk
  exact ⟨_, hp _ (pa_cons h1 (pa_cons h3 pa_nil hs2) hs), ref_bin ok h2 h4⟩
theorem ok_max2 : OpOk X tb oMax2 (fun v v' H Q => ∃ i j, [v, v'] = [.int i, .int j] ∧ Q (.int (if j > i then j else i)) H) := fun F T ψ g σ H c c' x y z Q R hc hc' e k => by
  unfold oMax2 oIntP at e
  split at e
  · cases e; cases hc; cases hc'
    exact ⟨_, _, rfl, k _ T H ⟨.int _, rfl⟩ R (Keep.refl H)⟩
  · cases e
theorem ok_min2 : OpOk X tb oMin2 (fun v v' H Q => ∃ i j, [v, v'] = [.int i, .int j] ∧ Q (.int (if j < i then j else i)) H) := fun F T ψ g σ H c c' x y z Q R hc hc' e k => by
  unfold oMin2 oIntP at e
  split at e
  · cases e; cases hc; cases hc'
    exact ⟨_, _, rfl, k _ T H ⟨.int _, rfl⟩ R (Keep.refl H)⟩
  · cases e
theorem de_max2 {p : Pos} (B : Bl X.mg "max" (.builtin "max")) (ha : DE X tb a ta) (hb : DE X tb b u) (hg : Gl X "max" := by rfl) (hs : starEach [a, b] X.env = (false, eval a X.env) :: starEach [b] X.env := by rfl) (hs2 : starEach [b] X.env = (false, eval b X.env) :: starEach [] X.env := by rfl)
    (hpl : (backTo pos (starEach [b] X.env)).any (·.1) = false := by rfl) (hc : X.calm = true := by rfl) : DE X tb (.Call (.Name "max" p) [a, b] [] pos) (eBin oMax2 ta u) :=
  de_call2 (call_max2 hc) ok_max2 (fun t h => pe_callB (call_max2 hc) hg B.no B.is h (he := hs) (hpl := hpl)) ha hb hs hs2
theorem de_min2 {p : Pos} (B : Bl X.mg "min" (.builtin "min")) (ha : DE X tb a ta) (hb : DE X tb b u) (hg : Gl X "min" := by rfl) (hs : starEach [a, b] X.env = (false, eval a X.env) :: starEach [b] X.env := by rfl) (hs2 : starEach [b] X.env = (false, eval b X.env) :: starEach [] X.env := by rfl)
    (hpl : (backTo pos (starEach [b] X.env)).any (·.1) = false := by rfl) (hc : X.calm = true := by rfl) : DE X tb (.Call (.Name "min" p) [a, b] [] pos) (eBin oMin2 ta u) :=
  de_call2 (call_min2 hc) ok_min2 (fun t h => pe_callB (call_min2 hc) hg B.no B.is h (he := hs) (hpl := hpl)) ha hb hs hs2
/-! ### xs.clear(), xs[::-1] -/
theorem mt_ok_clear : MtOk X mClear rClear := fun H a xs ds vs ws p Q h hx hd e k => by
  unfold mClear at e
  split at e
  · cases e
    cases hd
    exact ⟨a, vs, rfl, rfl, h, k _ _ .nil .non⟩
  · cases e
theorem de_clear {apos : Pos} (ha : DE X tb a ta) (hbase : attributeBase a "clear" X.env (eval a X.env) = eval a X.env := by rfl) (hline : (apos.endLine == pos.line) = true := by rfl) : DE X tb (.Call (.Attribute a "clear" apos) [] [] pos) (eMut mClear ta dNil) :=
  de_mut0 F.slot_list_clear F.type_list_clear mt_clear mt_ok_clear ha hbase hline
end
end Pd
set_option Elab.async false
set_option linter.all false
set_option maxRecDepth 100000
set_option maxHeartbeats 1000000
namespace Pd
open PySem PySem.Spec PyProof.Rows L2
section
variable {X : Cx} {tb : Tb} {e a b c : Expr} {es : List Expr} {te ta u v : WE} {ts : WD} {as : WA} {pos apos : Pos}
/-! ### targets -/
def RefG (X : Cx) (tb : Tb) (S : List Nat) (t : WG) (g0 : TG) : Prop := ∀ (F T : Own) (ψ : Psi) (g : G) (σ : L2.St) (H : Hp) (x : D) (v : V) (Q' : Psi → G → Prop) (Q : L2.St → Hp → Prop),
  Rel (bx X tb) F ψ g T σ H → RV X.K H x v → t x ψ g Q' →
  (∀ ψ1 g1 σ1 H1, Q' ψ1 g1 → Rel (bx X tb) F ψ1 g1 T σ1 H1 → Keep H H1 → (∀ j, j ∉ S → σ1[j]? = σ[j]?) → σ1.length = σ.length → Q σ1 H1) → g0 v σ H Q
def RefGs (X : Cx) (tb : Tb) (S : List Nat) (ts : List WG) (g0 : TGs) : Prop := ∀ (F T : Own) (ψ : Psi) (g : G) (σ : L2.St) (H : Hp) (xs : List D) (vs : List V) (Q' : Psi → G → Prop) (Q : L2.St → Hp → Prop),
  Rel (bx X tb) F ψ g T σ H → RVs X.K H xs vs → gAll ts xs ψ g Q' →
  (∀ ψ1 g1 σ1 H1, Q' ψ1 g1 → Rel (bx X tb) F ψ1 g1 T σ1 H1 → Keep H H1 → (∀ j, j ∉ S → σ1[j]? = σ[j]?) → σ1.length = σ.length → Q σ1 H1) → g0 vs σ H Q
def DG (X : Cx) (tb : Tb) (tg : Expr) (S : List Nat) (t : WG) : Prop := ∃ g0, PG X tg g0 ∧ RefG X tb S t g0
def DGs (X : Cx) (tb : Tb) (es : List Expr) (S : List Nat) (ts : List WG) : Prop := ∃ g0, PGs X es g0 ∧ RefGs X tb S ts g0
theorem dg_name (i : Nat) {x : Str} (hN : X.N.Nodup) (hi : X.N[i]? = some x := by rfl) (hx : Loc X.env.scope x := by first | exact Or.inl rfl | exact Or.inr rfl) (hf : X.fn x = true ∨ X.env.scope.names.lookup x = some .local := by first | exact .inl rfl | exact .inr rfl) : DG X tb (.Name x pos) [i] (gName i) :=
  ⟨_, pg_name hN hi hx hf, fun F T ψ g σ H x v Q' Q R rv q k => k _ g _ H q (R.setD rv) (Keep.refl H) (fun j hj => List.getElem?_set_ne fun z => hj (by rw [z]; exact List.mem_singleton.mpr rfl)) (List.length_set ..)⟩
theorem dgs_nil : DGs X tb [] [] [] := ⟨_, pgs_nil, fun F T ψ g σ H xs vs Q' Q R rv q k => by
  cases rv with
  | nil => exact ⟨rfl, k ψ g σ H q R (Keep.refl H) (fun _ _ => rfl) rfl⟩
  | cons _ _ => exact q.elim⟩
theorem dgs_cons {t : WG} {us : List WG} {S S' : List Nat} (h : DG X tb e S t) (h' : DGs X tb es S' us) (hs : (assignEach (e :: es) X.env).map (·.2) = assign e X.env :: (assignEach es X.env).map (·.2) := by rfl) : DGs X tb (e :: es) (S ++ S') (t :: us) := by
  obtain ⟨t1, h1, h2⟩ := h
  obtain ⟨t2, h3, h4⟩ := h'
  refine ⟨_, pgs_cons h1 h3 hs, fun F T ψ g σ H xs vs Q' Q R rv q k => ?_⟩
  cases rv with
  | nil => exact q.elim
  | cons r t =>
    refine ⟨_, _, rfl, h2 F T ψ g σ H _ _ _ _ R r q fun ψ1 g1 σ1 H1 q1 R1 k1 e1 l1 => ?_⟩
    exact h4 F T ψ1 g1 σ1 H1 _ _ _ _ R1 (t.keep k1) q1 fun ψ2 g2 σ2 H2 q2 R2 k2 e2 l2 => k ψ2 g2 σ2 H2 q2 R2 (k1.trans k2)
      (fun j hj => (e2 j fun z => hj (List.mem_append_right _ z)).trans (e1 j fun z => hj (List.mem_append_left _ z))) (l2.trans l1)
theorem dg_tup {us : List WG} {S : List Nat} {kk : Nat} (h : DGs X tb es S us) (hc : X.calm = true := by rfl) (hn : (assignEach es X.env).length = us.length := by rfl) (hst : (assignEach es X.env).findIdx? (·.1) = none := by rfl) : DG X tb (.Tuple es kk pos) S (gTup us) := by
  obtain ⟨t1, h1, h2⟩ := h
  refine ⟨_, pg_tup hc h1 hn hst, fun F T ψ g σ H x v Q' Q R rv q k => ?_⟩
  cases rv with
  | tup h3 h4 => exact ⟨_, _, rfl, h3, by rw [← h4.length]; exact q.1, h2 F T ψ g σ H _ _ Q' Q R h4 q.2 k⟩
  | _ => exact q.elim

/-! ### comprehensions: blocks -/
theorem wipe_rel {B : Bx} {F T : Own} {ψ : Psi} {g : G} {σ : L2.St} {H : Hp} (R : Rel B F ψ g T σ H) : ∀ vs : List Nat, Rel B F (Pd.wipe ψ vs) g T (L2.wipe σ vs) H
  | [] => R
  | v :: vs => (wipe_rel R vs).setN
theorem wipe_eq {σ σ' : L2.St} {vs : List Nat} (hl : σ'.length = σ.length) (h : ∀ j, j ∉ vs → σ'[j]? = σ[j]?) : L2.wipe σ' vs = L2.wipe σ vs := by
  refine List.ext_getElem? fun j => ?_
  by_cases hj : j ∈ vs
  · have : ∀ (τ : L2.St) (ws : List Nat), j ∈ ws → (L2.wipe τ ws)[j]? = if j < τ.length then some none else none := fun τ ws => by
      induction ws with
      | nil => intro z; cases z
      | cons w ws ih =>
        intro z
        show ((L2.wipe τ ws).set w none)[j]? = _
        rw [List.getElem?_set]
        by_cases e : w = j
        · subst e; rw [if_pos rfl, L2.wipe_length]
        · rw [if_neg e]
          exact ih ((List.mem_cons.mp z).resolve_left fun q => e q.symm)
    rw [this σ' vs hj, this σ vs hj, hl]
  · rw [L2.wipe_out hj, L2.wipe_out hj]
    exact h j hj
theorem wipe_wipe {σ σ' : L2.St} {vs : List Nat} (hl : σ'.length = σ.length) (h : ∀ j, j ∉ vs → σ'[j]? = (L2.wipe σ vs)[j]?) : L2.wipe σ' vs = L2.wipe σ vs := by
  refine wipe_eq hl fun j hj => ?_
  rw [h j hj, L2.wipe_out hj]
def DTs (X : Cx) (tb : Tb) (ifs : List Expr) (t : WT) : Prop := ∀ W : WX, Takes X W → ∃ t0, PTs X ifs t0 ∧ RefT X tb W t t0
theorem dts_nil : DTs X tb [] Pd.tYes := fun W tk => ⟨_, pts_nil, fun E F T ψ g σ H Q' Q R ex q k => k true ψ g H q R (Keep.refl H)⟩
theorem dts_one {t : WT} (h : DT X tb c t) : DTs X tb [c] t := fun W tk => let ⟨_, h1, h2⟩ := h W tk; ⟨_, pts_one h1, h2⟩
def noW : WX := fun _ _ _ _ => False
theorem takes_no (Y : Cx) : Takes Y noW := fun _ _ ⟨_, _, _, _, _, _, _, _, _, _, _, _, _, _, _, _, w⟩ => w.elim
theorem PE.weak {Y : Cx} {t t' : TE} (h : PE Y e t) (hh : ∀ σ H Q, t' σ H Q → t σ H Q) : PE Y e t' := ⟨fun pins s σ H Q I q => h.run pins s σ H Q I (hh _ _ _ q)⟩
theorem PG.weak {Y : Cx} {t t' : TG} (h : PG Y e t) (hh : ∀ v σ H Q, t' v σ H Q → t v σ H Q) : PG Y e t' := ⟨fun pins s σ H v u Q I r q => h.run pins s σ H v u Q I r (hh _ _ _ _ q)⟩
theorem PTs.weak {Y : Cx} {t t' : TT} (h : PTs Y es t) (hh : ∀ σ H Q, t' σ H Q → t σ H Q) : PTs Y es t' := ⟨fun pins s σ H Q I q => h.run pins s σ H Q I (hh _ _ _ q)⟩
theorem uni_e {ι : Type} {Y : ι → Cx} (hb : ∀ i, bx (Y i) tb = bx X tb) (h : ∀ i, DE (Y i) tb e te) : ∃ t0, (∀ i, PE (Y i) e t0) ∧ RefE X tb noW te t0 := by
  refine ⟨fun σ H Q => ∀ i, (h i noW (takes_no _)).choose σ H Q, fun i => PE.weak (h i noW (takes_no _)).choose_spec.1 fun σ H Q q => q i, fun E F T ψ g σ H Q' Q R ex q k i => ?_⟩
  have z := (h i noW (takes_no _)).choose_spec.2 E F T ψ g σ H Q' Q
  rw [hb i] at z
  exact z R ex q k
theorem uni_t {ι : Type} {Y : ι → Cx} {ifs : List Expr} {t : WT} (hb : ∀ i, bx (Y i) tb = bx X tb) (h : ∀ i, DTs (Y i) tb ifs t) : ∃ t0, (∀ i, PTs (Y i) ifs t0) ∧ RefT X tb noW t t0 := by
  refine ⟨fun σ H Q => ∀ i, (h i noW (takes_no _)).choose σ H Q, fun i => PTs.weak (h i noW (takes_no _)).choose_spec.1 fun σ H Q q => q i, fun E F T ψ g σ H Q' Q R ex q k i => ?_⟩
  have z := (h i noW (takes_no _)).choose_spec.2 E F T ψ g σ H Q' Q
  rw [hb i] at z
  exact z R ex q k
theorem uni_g {ι : Type} {Y : ι → Cx} {tg : Expr} {S : List Nat} {t : WG} (hb : ∀ i, bx (Y i) tb = bx X tb) (hK : ∀ i, (Y i).K = X.K) (h : ∀ i, DG (Y i) tb tg S t) : ∃ t0, (∀ i, PG (Y i) tg t0) ∧ RefG X tb S t t0 := by
  refine ⟨fun v σ H Q => ∀ i, (h i).choose v σ H Q, fun i => PG.weak (h i).choose_spec.1 fun v σ H Q q => q i, fun F T ψ g σ H x v Q' Q R rv q k i => ?_⟩
  have z := (h i).choose_spec.2 F T ψ g σ H x v Q' Q
  rw [hb i, hK i] at z
  exact z R rv q k

/-! ### comprehensions: lending -/
theorem own_lend : ∀ (ψ : Psi) (σ : L2.St), ownL (lendAll ψ) σ = []
  | [], _ => rfl
  | _ :: _, [] => rfl
  | s :: ψ, v :: σ => by
    show own1 (lend s) v ++ ownL (lendAll ψ) σ = []
    rw [own_lend ψ σ, List.append_nil]
    cases s with
    | none => rfl
    | some s => cases s <;> rfl
theorem Rel.lent {B : Bx} {F T : Own} {ψ : Psi} {g : G} {σ : L2.St} {H : Hp} (R : Rel B F ψ g T σ H) : Rel B (ownL ψ σ ++ (T ++ F)) (lendAll ψ) g [] σ H := by
  refine ⟨by rw [lendAll, List.length_map]; exact R.len, fun i s h => ?_, R.gl, ?_⟩
  · rw [lendAll, List.getElem?_map] at h
    obtain ⟨s0, h1, h2⟩ := Option.map_eq_some_iff.mp h
    cases s0 with
    | none => cases h2
    | some s0 =>
      obtain ⟨v, h3, h4⟩ := R.sl i s0 h1
      refine ⟨v, h3, ?_⟩
      cases s0 with
      | d x => cases h2; exact h4
      | bor o =>
        cases h2
        obtain ⟨a, e1, e2⟩ := h4
        exact ⟨a, e1, List.mem_append_right _ (List.mem_append_right _ e2)⟩
      | own o =>
        cases h2
        obtain ⟨a, L, e1, e2, _⟩ := R.ownAt h1
        rw [h3] at e1; cases e1
        exact ⟨a, rfl, e2.mem_iff.mpr (List.Mem.head _)⟩
  · rw [own_lend]; exact R.ow
theorem Rel.unlent {B : Bx} {F T T2 : Own} {ψ ψ2 : Psi} {g g2 : G} {σ σ2 : L2.St} {H H2 : Hp} (R : Rel B F ψ g T σ H) (R2 : Rel B (ownL ψ σ ++ (T ++ F)) ψ2 g2 T2 σ2 H2) (k : Keep H H2) : Rel B F ψ g2 T σ H2 :=
  ⟨R.len, fun i s h => let ⟨v, h1, h2⟩ := R.sl i s h; ⟨v, h1, h2.keep k⟩, R2.gl, R2.ow.sub ((List.sublist_append_right _ _).trans (List.sublist_append_right _ _))⟩
/-- an object at hand is written -/
theorem Rel.writeT {B : Bx} {F T : Own} {ψ : Psi} {g : G} {σ : L2.St} {H : Hp} {a : Addr} {o o' : O} {w : HO} (R : Rel B F ψ g ((a, o) :: T) σ H) (ho : RO B (L2.upd H a w) o' a) :
    Rel B F ψ g ((a, o') :: T) σ (L2.upd H a w) ∧ Keep H (L2.upd H a w) := by
  have hw := R.ow.perm (List.perm_middle (l₁ := ownL ψ σ) (a := (a, o)) (l₂ := T ++ F))
  have h0 := hw.1 (a, o) (List.Mem.head _)
  have hnd := hw.2
  rw [List.map_cons, List.nodup_cons] at hnd
  have k : Keep H (L2.upd H a w) := Keep.upd h0.1.soft
  refine ⟨⟨R.len, fun i s h => let ⟨v, h1, h2⟩ := R.sl i s h; ⟨v, h1, h2.keep k⟩, fun b v q => ?_, ?_⟩, k⟩
  · refine (R.gl b v q).keep k (upd_ne fun z => ?_)
    subst z; rw [h0.2] at q; cases q
  · refine Owns.perm (W := (a, o') :: (ownL ψ σ ++ (T ++ F))) ⟨fun q hq => ?_, by rw [List.map_cons, List.nodup_cons]; exact hnd⟩ (List.perm_middle (l₁ := ownL ψ σ) (a := (a, o')) (l₂ := T ++ F)).symm
    rcases List.mem_cons.mp hq with rfl | hq
    · exact ⟨ho, h0.2⟩
    · exact ⟨((hw.1 q (List.Mem.tail _ hq)).1).keep k (upd_ne fun z => hnd.1 (List.mem_map.mpr ⟨q, hq, z⟩)), (hw.1 q (List.Mem.tail _ hq)).2⟩
theorem Rel.midT {B : Bx} {F T T' : Own} {p : Addr × O} {ψ : Psi} {g : G} {σ : L2.St} {H : Hp} (R : Rel B F ψ g (p :: (T' ++ T)) σ H) : Rel B F ψ g (p :: T) σ H :=
  ⟨R.len, R.sl, R.gl, R.ow.sub (List.Sublist.append (List.Sublist.refl _) (List.Sublist.append ((List.sublist_append_right _ _).cons₂ _) (List.Sublist.refl _)))⟩

theorem ref_lc {W : WX} {S St vs : List Nat} {it : WI} {tg : WG} {tt : WT} {wi : TI} {g0 : TG} {t1 : TT} {t2 : TE} (hi : RefI X tb W S it wi) (hg : RefG X tb St tg g0) (ht : RefT X tb noW tt t1) (he : RefE X tb noW te t2) (hv : ∀ j ∈ St, j ∈ vs) :
    RefE X tb W (eComp vs it tg tt te) (tLc wi g0 t1 t2 vs) := fun E F T ψ g σ H Q' Q R ex q k => hi E F T ψ g σ H _ _ R ex q fun xs ok ψ1 g1 T' J H1 q1 ok1 R1 k1 io => by
  intro D hD
  refine ⟨fun i m H => m = xs.length - i ∧ i ≤ xs.length ∧ ∃ g acc, ok ψ1 g ∧ compL tg tt te ok ψ1 (Pd.wipe (lendAll ψ1) vs) (xs.drop i) acc g (fun acc g => Q' (.own (.lst acc)) ψ1 g) ∧ Rel (bx X tb) F ψ1 g ((D, .lst acc) :: (T' ++ T)) σ H ∧ Keep H1 H,
    ⟨_, rfl, Nat.zero_le _, g1, [], ok1, q1, R1.new hD ⟨[], upd_same, .nil⟩, Keep.new hD⟩, ?_⟩
  rintro i m H2 ⟨rfl, hl, g2, acc, ok2, q2, R2, k2⟩
  have tn := io.turn i ψ1 g2 [(D, .lst acc)] σ H2 ok2 R2 (fun _ _ => rfl) k2
  by_cases hlt : i < xs.length
  · have hx : xs[i]? = some xs[i] := List.getElem?_eq_getElem hlt
    rw [List.drop_eq_getElem_cons hlt] at q2
    refine .inr ⟨(tn.1 _ hx).1, fun H' => i + 1 ≤ xs.length ∧ ∃ g acc, ok ψ1 g ∧ compL tg tt te ok ψ1 (Pd.wipe (lendAll ψ1) vs) (xs.drop (i + 1)) acc g (fun acc g => Q' (.own (.lst acc)) ψ1 g) ∧ Rel (bx X tb) F ψ1 g ((D, .lst acc) :: (T' ++ T)) σ H' ∧ Keep H1 H',
      fun H' w => ⟨xs.length - (i + 1), by omega, rfl, w⟩, fun v H3 y => ?_⟩
    obtain ⟨rv, R3, k3⟩ := (tn.1 _ hx).2 v H3 y
    refine hg _ [] _ g2 _ H3 xs[i] v _ _ (wipe_rel (Rel.lent R3) vs) rv q2 fun ψ4 g4 σ4 H4 q4 R4 k4 e4 l4 => ?_
    refine ⟨wipe_wipe (by rw [l4, L2.wipe_length]) fun j hj => e4 j fun z => hj (hv j z), ?_⟩
    refine ht noX _ [] ψ4 g4 σ4 H4 _ _ R4 ExOk.none q4 fun b ψ5 g5 H5 q5 R5 k5 => ?_
    cases b with
    | false =>
      have q5' : ok ψ1 g5 ∧ compL tg tt te ok ψ1 (Pd.wipe (lendAll ψ1) vs) (xs.drop (i + 1)) acc g5 (fun acc g => Q' (.own (.lst acc)) ψ1 g) := q5
      exact ⟨hlt, g5, acc, q5'.1, q5'.2, R3.unlent R5 (k4.trans k5), ((k2.trans k3).trans k4).trans k5⟩
    | true =>
      have q5' : te noX ψ5 g5 fun r ψ3 g => toD r ψ3 g fun d _ g => ok ψ1 g ∧ acc.length < most ∧ compL tg tt te ok ψ1 (Pd.wipe (lendAll ψ1) vs) (xs.drop (i + 1)) (acc ++ [d]) g (fun acc g => Q' (.own (.lst acc)) ψ1 g) := q5
      refine he noX _ [] ψ5 g5 σ4 H5 _ _ R5 ExOk.none q5' fun r ψ6 g6 T6 y H6 q6 rr R6 k6 => ?_
      obtain ⟨d, ψ7, g7, ⟨ok7, hl7, q7⟩, ry, R7⟩ := R6.toD rr q6
      have R8 := R3.unlent R7 ((k4.trans k5).trans k6)
      obtain ⟨ws, h1, h2⟩ : RO (bx X tb) H6 (.lst acc) D := (R8.ow.1 (D, .lst acc) (by simp)).1
      have kw : Keep H6 (L2.upd H6 D (.lst (ws ++ [y]))) := soft_lst h1
      obtain ⟨R9, k9⟩ := R8.writeT (o' := .lst (acc ++ [d])) (w := .lst (ws ++ [y])) ⟨_, upd_same, (h2.append (.cons ry .nil)).keep kw⟩
      exact ⟨ws, h1, by rw [← h2.length, ← most_eq]; exact hl7, hlt, g7, acc ++ [d], ok7, q7, R9, (((((k2.trans k3).trans k4).trans k5).trans k6).trans k9)⟩
  · have e : i = xs.length := by omega
    rw [List.drop_eq_nil_of_le (by omega)] at q2
    exact .inl ⟨tn.2 (by omega), k _ ψ1 g2 _ _ H2 q2 ⟨D, rfl, rfl⟩ R2.midT (k1.trans k2)⟩
theorem de_comp {elt tg iter : Expr} {ifs : List Expr} {scope : Scope} (own : List (Str × Nat)) {S St : List Nat} {it : WI} {gt : WG} {tt : WT} (hN : X.N.Nodup) (hi : DI X tb tg iter S it)
    (hg : ∀ (s : Shared) (H : Hp) (C : Addr) (cl : List (Str × Addr)) (fp : List Addr), DG (X.blk s H scope (compEnvC scope cl C X.env) fp) tb tg St gt)
    (ht : ∀ (s : Shared) (H : Hp) (C : Addr) (cl : List (Str × Addr)) (fp : List Addr), DTs (X.blk s H scope (compEnvC scope cl C X.env) fp) tb ifs tt)
    (he : ∀ (s : Shared) (H : Hp) (C : Addr) (cl : List (Str × Addr)) (fp : List Addr), DE (X.blk s H scope (compEnvC scope cl C X.env) fp) tb elt te)
    (ok : blkC X.N X.env.scope scope own = true := by rfl) (hc : X.calm = true := by rfl) (hv : ∀ j ∈ St, j ∈ own.map (·.2) := by decide) (hs : ∀ x, foldedSetIterable iter X.env x = pure x := by intro _; rfl) :
    DE X tb (.ListComp elt [⟨tg, iter, ifs, 0⟩] scope pos) (eComp (own.map (·.2)) it gt tt te) := fun W tk => by
  obtain ⟨wi, h1, h2⟩ := hi W tk
  obtain ⟨g0, h3, h4⟩ := uni_g (X := X) (ι := Shared × Hp × Addr × List (Str × Addr) × List Addr) (Y := fun i => X.blk i.1 i.2.1 scope (compEnvC scope i.2.2.2.1 i.2.2.1 X.env) i.2.2.2.2) (fun _ => rfl) (fun _ => rfl) fun i => hg _ _ _ _ _
  obtain ⟨t1, h5, h6⟩ := uni_t (X := X) (ι := Shared × Hp × Addr × List (Str × Addr) × List Addr) (Y := fun i => X.blk i.1 i.2.1 scope (compEnvC scope i.2.2.2.1 i.2.2.1 X.env) i.2.2.2.2) (fun _ => rfl) fun i => ht _ _ _ _ _
  obtain ⟨t2, h7, h8⟩ := uni_e (X := X) (ι := Shared × Hp × Addr × List (Str × Addr) × List Addr) (Y := fun i => X.blk i.1 i.2.1 scope (compEnvC scope i.2.2.2.1 i.2.2.1 X.env) i.2.2.2.2) (fun _ => rfl) fun i => he _ _ _ _ _
  exact ⟨_, pe_lc hc hN h1 (blkOk_by ok) (fun s H C cl fp => h3 (s, H, C, cl, fp)) (fun s H C cl fp => h5 (s, H, C, cl, fp)) (fun s H C cl fp => h7 (s, H, C, cl, fp)) hs, ref_lc h2 h4 h6 h8 hv⟩
end
end Pd
set_option Elab.async false
set_option linter.all false
set_option maxRecDepth 100000
set_option maxHeartbeats 1000000
namespace Pd
open PySem PySem.Spec PyProof.Rows L2
section
variable {X : Cx} {tb : Tb} {ek ev : Expr} {te ta u : WE} {pos : Pos}
/-! ### {k: v} -/
def tDispN (X : Cx) (tk tv : TE) : TE := fun σ H Q => ∀ p, H p = none → tk σ (L2.upd H p (.dK [])) fun x H1 => tv σ H1 fun y H2 => (Nest X H2 p [] ∨ (([] : List (NestedKey × Addr × Value)) = [] ∧ H2 p = some (.dK []))) ∧ ∃ (q : Addr) (d : D) (k : NestedKey), x = .ref q ∧ RV X.K H2 d (.ref q) ∧ nk d = some k ∧ d.depth ≤ 8 ∧
  ∀ u, RelV y u → (p == sysModules) = false → Q (.ref p) (L2.upd H2 p (dN X.prog X.w p (storedH [] k q u)))
theorem pe_dispN {tk tv : TE} (hu : X.A.units + 64 < cLine) (hk : PE X ek tk) (hv : PE X ev tv) : PE X (.Dict [some ek] [ev] pos) (tDispN X tk tv) := by
  refine ⟨fun pins s σ H Q I q => ?_⟩
  have hn := I.hok.fresh (Nat.le_refl s.heap.objs.size)
  have I1 := I.laid (a := s.heap.objs.size) (o := .dK []) (h' := s.heap.push { cls := .type "dict", data := .dict #[] }) (t' := s.toks) (fun _ _ q => Heap.get?_push_of_some _ q) (Nat.le_refl _) (dk_empty s.heap I.big)
  rw [arm_eval_Dict, zip_pairTrees [some ek] [ev] X.env pos rfl rfl, dictDisplay_pairs (pairTrees [some ek] [ev] X.env pos) (by intro h; have := congrArg List.length h; rw [pairTrees_length _ _ _ _ rfl rfl] at this; cases this) (by rw [pairTrees_length _ _ _ _ rfl rfl]; show 1 < 17; omega)]
  refine wpAny_bind (wpAny_standAt (wpAny_bind (wpAny_subDictH (knd := nestedKind X.prog X.w) (by show X.A.units + 8 < cLine; omega) (by rw [pairTrees_length _ _ _ _ rfl rfl]; show 1 ≤ 15; omega) ?_)))
  refine pairTrees_cons_walk (thn (hk.run pins _ σ _ _ I1 (q _ hn)) fun kv s1 ⟨x, H1, I1, rx, q1⟩ => thn (hv.run pins s1 σ H1 _ I1 q1) fun w2 s2 ⟨y, H2, I2, ry, q2⟩ => pairTrees_nil_walk ?_)
  obtain ⟨e, qa, d, k, rfl, r, en, hd, q3⟩ := q2
  obtain rfl : kv = Value.ref qa := rx
  obtain ⟨hsm, hm⟩ := nest_or I2 e
  have mu : Mut (H2 s.heap.objs.size) := by
    rcases e with n | ⟨_, n⟩
    · rw [n.1]; trivial
    · rw [n]; trivial
  have hk2 : (nestedKind X.prog X.w).is s2.heap k qa := ⟨nested_of I2 d _ _ _ r rfl en, by rw [nk_depth d _ en]; exact hd⟩
  refine ⟨[(k, qa, w2)], ⟨rfl, rfl, hk2, trivial⟩, hm, fun h' tk hm' hs => wpAny_pure ?_⟩
  obtain ⟨o', es, ep, h1, h2, h3, h4, _⟩ := hm'
  refine ⟨.ref s.heap.objs.size, _, d_write I2 mu hs ⟨o', h1⟩ ?_, rfl, q3 w2 ry hsm⟩
  exact ⟨⟨o', es, ep, h1, h2, h3, h4⟩, ⟨o', h1⟩, fun g1 g2 ⟨o2, es2, ep2, k1, k2, k3, k4⟩ st => ⟨o2, es2, ep2, st _ k1, k2, k3, k4⟩⟩
theorem de_dic1 {tk tv : WE} (hu : X.A.units + 128 < cLine) (hk : DE X tb ek tk) (hv : DE X tb ev tv) : DE X tb (.Dict [some ek] [ev] pos) (eDic1 true tk tv) := fun W tkk => by
  obtain ⟨t1, h1, h2⟩ := hk W tkk
  obtain ⟨t2, h3, h4⟩ := hv W tkk
  refine ⟨_, pe_dispN (by omega) h1 h3, fun E F T ψ g σ H Q' Q R ex q k p hp => ?_⟩
  have kp : Keep H (L2.upd H p (.dK [])) := Keep.new hp
  have R0 : Rel (bx X tb) F ψ g ((p, .dic true []) :: T) σ (L2.upd H p (.dK [])) := R.new hp (.inl ⟨rfl, upd_same⟩)
  refine h2 E F ((p, .dic true []) :: T) ψ g σ _ _ _ R0 (ExOk.more (T' := [(p, .dic true [])]) ex kp) q fun r ψ1 g1 T1 v H1 q1 rr R1 k1 => ?_
  obtain ⟨x, ψ2, g2, q2, rx, R2⟩ := R1.toD rr q1
  refine h4 E F ((p, .dic true []) :: T) ψ2 g2 σ H1 _ _ R2 (ExOk.more (T' := [(p, .dic true [])]) ex (kp.trans k1)) q2 fun r' ψ3 g3 T3 v' H3 q3 rr3 R3 k3 => ?_
  obtain ⟨y, ψ4, g4, q4, ry, R4⟩ := R3.toD rr3 q3
  obtain ⟨hkey, q5⟩ := q4
  obtain ⟨a1, a2, xs, rfl⟩ := keyOk_nest hkey
  obtain ⟨nkk, en⟩ := nk_some _ a1
  obtain ⟨pk, rfl⟩ : ∃ pk, v = .ref pk := by cases rx with | tup a b => exact ⟨_, rfl⟩
  have ro : RO (bx X tb) H3 (.dic true []) p := (R4.ow.1 (p, .dic true []) (by simp)).1
  have he : Nest X H3 p [] ∨ (([] : List (NestedKey × Addr × Value)) = [] ∧ H3 p = some (.dK [])) := by
    rcases ro with ⟨_, e⟩ | ⟨ys, e1, e2, e3, e4, z⟩
    · exact .inr ⟨rfl, e⟩
    · cases z; exact .inl (NR.nest e1 e2 e3 e4 .nil)
  have rx3 := rx.keep k3
  refine ⟨he, pk, .tup xs, nkk, rfl, rx3, en, a2, fun u ru sm => ?_⟩
  have kw : ∀ w, Keep H3 (L2.upd H3 p w) := fun w => Keep.upd ro.soft
  obtain ⟨R5, k5⟩ := R4.writeT (o' := .dic true [(.tup xs, y)]) (w := dN X.prog X.w p (storedH [] nkk pk u)) (.inr ⟨_, upd_same, sm, nodup_stored _ _ _ _ List.nodup_nil, by show 1 ≤ sizeLine; decide, NR.put (kw _) en a2 rx3 ry ru .nil List.nodup_nil⟩)
  exact k _ ψ4 g4 _ _ _ q5 ⟨p, rfl, rfl⟩ R5 (((kp.trans k1).trans k3).trans k5)
/-! ### xs[::-1] of a list -/
theorem ok_rev : UnOk X tb oRev (fun x H Q => ∃ a xs, x = V.ref a ∧ SqL X.K H a xs ∧ ∀ p, H p = none → Q (.ref p) (L2.upd H p (.lst xs.reverse))) := fun F T ψ g σ H c x z Q R hc e k => by
  unfold oRev revC at e
  split at e
  · cases e
    obtain ⟨a, rfl, vs, h1, h2⟩ := hc
    exact ⟨a, vs, rfl, SqL.of h1, give_lst R h2.reverse k⟩
  · cases e
theorem de_rev {i : Nat} {p1 p2 p3 : Pos} (ha : DE X tb ek ta) : DE X tb (.Subscript ek (.Slice none none (some (.UnaryOp .USub (.Constant (.int 1) i p1) p2)) p3) pos) (eUn oRev ta) := fun W tk =>
  let ⟨_, h1, h2⟩ := ha W tk
  ⟨_, pe_revL h1, ref_un ok_rev h2⟩
end
end Pd
set_option Elab.async false
set_option linter.all false
set_option maxRecDepth 100000
set_option maxHeartbeats 1000000
namespace Pd
open PySem PySem.Spec PyProof.Rows L2
def RetR (B : Bx) (F : Own) (r : Pd.R) (v : V) (g : G) (H : Hp) : Prop := match r with
  | .d x => RV B.K H x v ∧ Glob B g H ∧ Owns B g F H
  | .own o => ∃ a, v = .ref a ∧ Glob B g H ∧ Owns B g ((a, o) :: F) H
  | .sl _ => False
abbrev SameS (S : List Nat) (σ σ1 : L2.St) : Prop := ∀ j, j ∉ S → σ1[j]? = σ[j]?
structure Outs (B : Bx) (Dn : Pd.Ends) (E : L2.Ends) (F T : Own) (σ : L2.St) (H : Hp) (S : List Nat) : Prop where
  nx : ∀ ψ1 g1 σ1 H1, Dn.nx ψ1 g1 → Rel B F ψ1 g1 T σ1 H1 → Keep H H1 → SameS S σ σ1 → E.nx σ1 H1
  rt : ∀ r g1 v H1, Dn.rt r g1 → RetR B F r v g1 H1 → Keep H H1 → E.rt v H1
  bk : ∀ ψ1 g1 σ1 H1, Dn.bk ψ1 g1 → Rel B F ψ1 g1 T σ1 H1 → Keep H H1 → SameS S σ σ1 → E.bk σ1 H1
  ct : ∀ ψ1 g1 σ1 H1, Dn.ct ψ1 g1 → Rel B F ψ1 g1 T σ1 H1 → Keep H H1 → SameS S σ σ1 → E.ct σ1 H1
section
variable {X : Cx} {tb : Tb} {e a b c : Expr} {es : List Expr} {te ta u v : WE} {ts : WD} {as : WA} {pos apos : Pos}
section
variable {B : Bx} {Dn : Pd.Ends} {E : L2.Ends} {F T : Own} {σ σ1 : L2.St} {H H1 : Hp} {S S' : List Nat}
theorem SameS.trans {σ2 : L2.St} (h : SameS S σ σ1) (h' : SameS S σ1 σ2) : SameS S σ σ2 := fun j hj => (h' j hj).trans (h j hj)
theorem SameS.sub (h : SameS S σ σ1) (s : ∀ j ∈ S, j ∈ S') : SameS S' σ σ1 := fun j hj => h j fun z => hj (s j z)
theorem Outs.at (o : Outs B Dn E F T σ H S) (k : Keep H H1) (e : SameS S σ σ1) : Outs B Dn E F T σ1 H1 S :=
  ⟨fun ψ g τ H2 d R k2 e2 => o.nx ψ g τ H2 d R (k.trans k2) (e.trans e2), fun r g v H2 d R k2 => o.rt r g v H2 d R (k.trans k2),
    fun ψ g τ H2 d R k2 e2 => o.bk ψ g τ H2 d R (k.trans k2) (e.trans e2), fun ψ g τ H2 d R k2 e2 => o.ct ψ g τ H2 d R (k.trans k2) (e.trans e2)⟩
theorem Outs.sub (o : Outs B Dn E F T σ H S') (s : ∀ j ∈ S, j ∈ S') : Outs B Dn E F T σ H S :=
  ⟨fun ψ g τ H2 d R k2 e2 => o.nx ψ g τ H2 d R k2 (e2.sub s), o.rt, fun ψ g τ H2 d R k2 e2 => o.bk ψ g τ H2 d R k2 (e2.sub s), fun ψ g τ H2 d R k2 e2 => o.ct ψ g τ H2 d R k2 (e2.sub s)⟩
theorem Outs.keep (o : Outs B Dn E F T σ H S) (k : Keep H H1) : Outs B Dn E F T σ H1 S := o.at k fun _ _ => rfl
end
/-- exceptions are taken at whatever the written slots hold by then -/
def ExS (B : Bx) (ec : String → Option Addr) (W : WX) (E : EX) (F T : Own) (S : List Nat) (σ : L2.St) (H0 : Hp) : Prop := ∀ σ1, SameS S σ σ1 → ExOk B ec W E F T σ1 H0
section
variable {B : Bx} {ec : String → Option Addr} {W : WX} {E : EX} {F T T' : Own} {S S' : List Nat} {σ σ1 : L2.St} {H0 H1 : Hp}
theorem ExS.now (h : ExS B ec W E F T S σ H0) : ExOk B ec W E F T σ H0 := h σ fun _ _ => rfl
theorem ExS.more (h : ExS B ec W E F T S σ H0) (k : Keep H0 H1) : ExS B ec W E F (T' ++ T) S σ H1 := fun τ e => (h τ e).more k
theorem ExS.on (h : ExS B ec W E F T S σ H0) (k : Keep H0 H1) : ExS B ec W E F T S σ H1 := fun τ e => (h τ e).on k
theorem ExS.at (h : ExS B ec W E F T S σ H0) (e : SameS S σ σ1) : ExS B ec W E F T S σ1 H0 := fun τ e' => h τ (e.trans e')
theorem ExS.sub (h : ExS B ec W E F T S' σ H0) (s : ∀ j ∈ S, j ∈ S') : ExS B ec W E F T S σ H0 := fun τ e => h τ (e.sub s)
end
def RefS (X : Cx) (tb : Tb) (W : WX) (S : List Nat) (s : WS) (t : TS) : Prop := ∀ (Dn : Pd.Ends) (E : L2.Ends) (F T : Own) (ψ : Psi) (g : G) (σ : L2.St) (H : Hp),
  Rel (bx X tb) F ψ g T σ H → ExS (bx X tb) tb.ec W Dn.ex F T S σ H → Outs (bx X tb) Dn E F T σ H S → s Dn ψ g → t E σ H
def DSt (X : Cx) (tb : Tb) (st : Stmt) (S : List Nat) (s : WS) : Prop := ∀ W : WX, Takes X W → ∃ t0, PS X st t0 ∧ RefS X tb W S s t0
def DSs (X : Cx) (tb : Tb) (st : List Stmt) (S : List Nat) (s : WS) : Prop := ∀ W : WX, Takes X W → ∃ t0, PSs X st t0 ∧ RefS X tb W S s t0
theorem refS_next {W : WX} : RefS X tb W [] sNx tNext := fun Dn E F T ψ g σ H R ex o q => o.nx ψ g σ H q R (Keep.refl H) fun _ _ => rfl
variable {st : Stmt} {rest : List Stmt} {s1 s2 : WS} {S S' : List Nat}
theorem dss_nil : DSs X tb [] [] sNx := fun W tk => ⟨_, pss_nil, refS_next⟩
theorem dss_one (h : DSt X tb st S s1) : DSs X tb [st] S s1 := fun W tk => let ⟨_, h1, h2⟩ := h W tk; ⟨_, pss_one h1, h2⟩
theorem dss_cons (h : DSt X tb st S s1) (h' : DSs X tb rest S' s2) : DSs X tb (st :: rest) (S ++ S') (sSeq s1 s2) := fun W tk => by
  obtain ⟨t1, h1, h2⟩ := h W tk
  obtain ⟨t2, h3, h4⟩ := h' W tk
  refine ⟨_, pss_cons h1 h3, fun Dn E F T ψ g σ H R ex o q => ?_⟩
  have m1 : ∀ j ∈ S, j ∈ S ++ S' := fun j hj => List.mem_append_left _ hj
  have m2 : ∀ j ∈ S', j ∈ S ++ S' := fun j hj => List.mem_append_right _ hj
  refine h2 { Dn with nx := s2 Dn } { E with nx := t2 E } F T ψ g σ H R (ex.sub m1) ⟨fun ψ1 g1 σ1 H1 q1 R1 k1 e1 => ?_, o.rt, (o.sub m1).bk, (o.sub m1).ct⟩ q
  exact h4 Dn E F T ψ1 g1 σ1 H1 R1 (((ex.on k1).at (SameS.sub e1 m1)).sub m2) ((o.at k1 (SameS.sub e1 m1)).sub m2) q1
theorem ds_pass : DSt X tb (.Pass pos) [] sNx := fun W tk => ⟨_, ps_pass, refS_next⟩
theorem ds_doc {x j pos'} : DSt X tb (.Expr (.Constant (.str x) j pos) pos') [] sNx := fun W tk => ⟨_, ps_doc, refS_next⟩
theorem ds_break : DSt X tb (.Break pos) [] sBk := fun W tk => ⟨_, ps_break, fun Dn E F T ψ g σ H R ex o q => o.bk ψ g σ H q R (Keep.refl H) fun _ _ => rfl⟩
theorem ds_continue : DSt X tb (.Continue pos) [] sCt := fun W tk => ⟨_, ps_continue, fun Dn E F T ψ g σ H R ex o q => o.ct ψ g σ H q R (Keep.refl H) fun _ _ => rfl⟩
theorem ds_expr (h : DE X tb e te) (hs : swapsWith e none pos.line X.env = pure false := by rfl) : DSt X tb (.Expr e pos) [] (sE te) := fun W tk => by
  obtain ⟨t1, h1, h2⟩ := h W tk
  refine ⟨_, ps_expr h1 hs, fun Dn E F T ψ g σ H R ex o q => h2 Dn.ex F T ψ g σ H _ _ R ex.now q fun r ψ1 g1 T1 v H1 q1 rr R1 k1 => ?_⟩
  obtain ⟨T', rfl⟩ := rr.suffix
  exact o.nx ψ1 g1 σ H1 q1 R1.dropT k1 fun _ _ => rfl
/-! ### stores -/
theorem rel_bind {B : Bx} {F T T1 : Own} {ψ : Psi} {g : G} {σ : L2.St} {H : Hp} {r : Pd.R} {v : V} {i : Nat} {k : Psi → G → Prop} (R : Rel B F ψ g T1 σ H) (rr : RR B r v T T1 σ H) (q : bind i r ψ g k) :
    ∃ ψ1 g1, k ψ1 g1 ∧ Rel B F ψ1 g1 T (σ.set i (some v)) H := by
  cases r with
  | d x =>
    obtain ⟨rx, rfl⟩ := rr
    exact ⟨_, _, q, R.setD rx⟩
  | own o =>
    obtain ⟨a, rfl, rfl⟩ := rr
    refine ⟨_, _, q, ?_⟩
    by_cases hi : i < ψ.length
    · exact R.setOwn hi
    · rw [List.set_eq_of_length_le (Nat.le_of_not_lt hi), List.set_eq_of_length_le (by rw [← R.len]; exact Nat.le_of_not_lt hi)]
      exact R.drop1
  | sl j =>
    obtain ⟨hσ, rfl⟩ := rr
    have q' : (match ψ[j]? with | some (some (.d x)) => k (ψ.set i (some (.d x))) g | some (some (.bor o)) => k (ψ.set i (some (.bor o))) g | some (some (.own o)) => ∀ p, g p = none → k ((ψ.set j (some (.d (.ref p)))).set i (some (.d (.ref p)))) (g.upd p o) | _ => False) := q
    cases hs : ψ[j]? with
    | none => rw [hs] at q'; exact q'.elim
    | some s =>
      cases s with
      | none => rw [hs] at q'; exact q'.elim
      | some s =>
        rw [hs] at q'
        obtain ⟨w, h1, h2⟩ := R.sl j s hs
        rw [hσ] at h1; cases h1
        cases s with
        | d x => exact ⟨_, _, q', R.setD h2⟩
        | bor o =>
          obtain ⟨a, rfl, hF⟩ := h2
          exact ⟨_, _, q', R.setBor hF⟩
        | own o =>
          obtain ⟨a, h3, ga, R'⟩ := R.giveS hs
          rw [hσ] at h3; cases h3
          exact ⟨_, _, q' a ga, R'.setD (.ref a)⟩
theorem same_set {σ : L2.St} {i : Nat} {w : Option V} : SameS [i] σ (σ.set i w) := fun j hj => List.getElem?_set_ne fun z => hj (by rw [z]; exact List.mem_singleton.mpr rfl)
theorem refS_set {W : WX} {i : Nat} {t0 : TE} (h : RefE X tb W te t0) : RefS X tb W [i] (sSet i te) (tAsg t0 (L2.gName i)) := fun Dn E F T ψ g σ H R ex o q => h Dn.ex F T ψ g σ H _ _ R ex.now q fun r ψ1 g1 T1 v H1 q1 rr R1 k1 => by
  obtain ⟨ψ2, g2, q2, R2⟩ := rel_bind R1 rr q1
  exact o.nx ψ2 g2 _ H1 q2 R2 k1 same_set
theorem ds_set (i : Nat) {x : Str} {p : Pos} (hN : X.N.Nodup) (h : DE X tb e te) (hi : X.N[i]? = some x := by rfl) (hx : Loc X.env.scope x := by first | exact Or.inl rfl | exact Or.inr rfl) (hs : swapsWith e (some (.Name x p)) pos.line X.env = pure false := by rfl)
    (hf : X.fn x = true ∨ X.env.scope.names.lookup x = some .local := by first | exact .inl rfl | exact .inr rfl) : DSt X tb (.Assign [.Name x p] e pos) [i] (sSet i te) := fun W tk => by
  obtain ⟨t1, h1, h2⟩ := h W tk
  exact ⟨_, ps_set hN hi hx h1 hs hf, refS_set h2⟩
/-- a name gets a comprehension that stands in the same row -/
theorem ds_setC (i : Nat) {x : Str} {p sp : Pos} {elt tg iter : Expr} {ifs : List Expr} {scope : Scope} (own : List (Str × Nat)) {SI St : List Nat} {it : WI} {gt : WG} {tt : WT} (hN : X.N.Nodup) (hi : DI X tb tg iter SI it)
    (hg : ∀ (s : Shared) (H : Hp) (C : Addr) (cl : List (Str × Addr)) (fp : List Addr), DG (X.blk s H scope (compEnvC scope cl C X.env) fp) tb tg St gt)
    (ht : ∀ (s : Shared) (H : Hp) (C : Addr) (cl : List (Str × Addr)) (fp : List Addr), DTs (X.blk s H scope (compEnvC scope cl C X.env) fp) tb ifs tt)
    (he : ∀ (s : Shared) (H : Hp) (C : Addr) (cl : List (Str × Addr)) (fp : List Addr), DE (X.blk s H scope (compEnvC scope cl C X.env) fp) tb elt te)
    (hx : X.N[i]? = some x := by rfl) (hxl : X.env.scope.names.lookup x = some .local := by rfl)
    (hsw : swapsWith (.ListComp elt [⟨tg, iter, ifs, 0⟩] scope pos) (some (.Name x p)) sp.line X.env = pure true := by exact sw_true rfl rfl rfl rfl)
    (ok : blkC X.N X.env.scope scope own = true := by rfl) (hc : X.calm = true := by rfl) (hv : ∀ j ∈ St, j ∈ own.map (·.2) := by decide) (hs : ∀ x, foldedSetIterable iter X.env x = pure x := by intro _; rfl) :
    DSt X tb (.Assign [.Name x p] (.ListComp elt [⟨tg, iter, ifs, 0⟩] scope pos) sp) [i] (sSet i (eComp (own.map (·.2)) it gt tt te)) := fun W tk => by
  obtain ⟨wi, h1, h2⟩ := hi W tk
  obtain ⟨g0, h3, h4⟩ := uni_g (X := X) (ι := Shared × Hp × Addr × List (Str × Addr) × List Addr) (Y := fun i => X.blk i.1 i.2.1 scope (compEnvC scope i.2.2.2.1 i.2.2.1 X.env) i.2.2.2.2) (fun _ => rfl) (fun _ => rfl) fun i => hg _ _ _ _ _
  obtain ⟨t1, h5, h6⟩ := uni_t (X := X) (ι := Shared × Hp × Addr × List (Str × Addr) × List Addr) (Y := fun i => X.blk i.1 i.2.1 scope (compEnvC scope i.2.2.2.1 i.2.2.1 X.env) i.2.2.2.2) (fun _ => rfl) fun i => ht _ _ _ _ _
  obtain ⟨t2, h7, h8⟩ := uni_e (X := X) (ι := Shared × Hp × Addr × List (Str × Addr) × List Addr) (Y := fun i => X.blk i.1 i.2.1 scope (compEnvC scope i.2.2.2.1 i.2.2.1 X.env) i.2.2.2.2) (fun _ => rfl) fun i => he _ _ _ _ _
  exact ⟨_, ps_setLc hc hN hx hxl hsw h1 (blkOk_by ok) (fun s H C cl fp => h3 (s, H, C, cl, fp)) (fun s H C cl fp => h5 (s, H, C, cl, fp)) (fun s H C cl fp => h7 (s, H, C, cl, fp)) hs, refS_set (ref_lc h2 h4 h6 h8 hv)⟩
/-- a, b = e -/
theorem ds_unp {tg : Expr} {gt : WG} (hg : DG X tb tg S gt) (h : DE X tb e te) (hs : swapsWithSole [tg] e pos.line X.env = pure false := by rfl) (hw : swappedStores [tg] e X.env = pure none := by rfl)
    (h1 : (assignEach [tg] X.env).map (·.2) = [assign tg X.env] := by rfl) : DSt X tb (.Assign [tg] e pos) S (sUnp gt te) := fun W tk => by
  obtain ⟨t1, h2, h3⟩ := h W tk
  obtain ⟨g0, h4, h5⟩ := hg
  refine ⟨_, ps_asg h2 h4 hs hw h1, fun Dn E F T ψ g σ H R ex o q => h3 Dn.ex F T ψ g σ H _ _ R ex.now q fun r ψ1 g1 T1 v H1 q1 rr R1 k1 => ?_⟩
  obtain ⟨x, ψ2, g2, q2, rx, R2⟩ := R1.toD rr q1
  exact h5 F T ψ2 g2 σ H1 x v _ _ R2 rx q2 fun ψ3 g3 σ3 H3 q3 R3 k3 e3 l3 => o.nx ψ3 g3 σ3 H3 q3 R3 (k1.trans k3) e3
/-- a, b = x, y -/
theorem ds_par (i j : Nat) {x y : Str} {px py pt : Pos} {kt k2 pt2} (hN : X.N.Nodup) (ha : DE X tb a ta) (hb : DE X tb b u) (hi : X.N[i]? = some x := by rfl) (hj : X.N[j]? = some y := by rfl) (hij : i ≠ j := by decide)
    (hx : X.env.scope.names.lookup x = some .local := by rfl) (hy : X.env.scope.names.lookup y = some .local := by rfl)
    (hw : swappedStores [.Tuple [.Name x px, .Name y py] kt pt] (.Tuple [a, b] k2 pt2) X.env = pure (some [x, y]) := by rfl)
    (hs : swapsWithSole [.Tuple [.Name x px, .Name y py] kt pt] (.Tuple [a, b] k2 pt2) pos.line X.env = pure false := by rfl) (hc : X.calm = true := by rfl)
    (h1 : starEach [a, b] X.env = (false, eval a X.env) :: starEach [b] X.env := by rfl) (h2 : starEach [b] X.env = (false, eval b X.env) :: starEach [] X.env := by rfl) :
    DSt X tb (.Assign [.Tuple [.Name x px, .Name y py] kt pt] (.Tuple [a, b] k2 pt2) pos) [i, j] (sPar i j ta u) := fun W tk => by
  obtain ⟨t1, h3, h4⟩ := ha W tk
  obtain ⟨t2, h5, h6⟩ := hb W tk
  refine ⟨_, ps_par hc hN hi hj hij hx hy (pa_cons h3 (pa_cons h5 pa_nil h2) h1) hw hs, fun Dn E F T ψ g σ H R ex o q => h4 Dn.ex F T ψ g σ H _ _ R ex.now q fun r ψ1 g1 T1 v H1 q1 rr R1 k1 => ?_⟩
  obtain ⟨d, ψ2, g2, q2, rx, R2⟩ := R1.toD rr q1
  refine h6 Dn.ex F T ψ2 g2 σ H1 _ _ R2 (ex.now.on k1) q2 fun r' ψ3 g3 T3 w H3 q3 rr' R3 k3 => ?_
  obtain ⟨d', ψ4, g4, q4, ry, R4⟩ := R3.toD rr' q3
  refine ⟨v, w, rfl, o.nx _ _ _ H3 q4 ((R4.setD (rx.keep k3)).setD ry) (k1.trans k3) fun l hl => ?_⟩
  rw [List.getElem?_set_ne fun z => hl (by rw [← z]; exact List.Mem.tail _ (List.Mem.head _)), List.getElem?_set_ne fun z => hl (by rw [← z]; exact List.Mem.head _)]
/-! ### if, return -/
theorem ds_if {t : WT} {a b : List Stmt} (hc : DT X tb c t) (ha : DSs X tb a S s1) (hb : DSs X tb b S' s2) : DSt X tb (.If c a b pos) (S ++ S') (sIf t s1 s2) := fun W tk => by
  obtain ⟨t0, h1, h2⟩ := hc W tk
  obtain ⟨t1, h3, h4⟩ := ha W tk
  obtain ⟨t2, h5, h6⟩ := hb W tk
  refine ⟨_, ps_if h1 h3 h5, fun Dn E F T ψ g σ H R ex o q => h2 Dn.ex F T ψ g σ H _ _ R ex.now q fun b ψ1 g1 H1 q1 R1 k1 => ?_⟩
  cases b with
  | true => exact h4 Dn E F T ψ1 g1 σ H1 R1 ((ex.on k1).sub fun j hj => List.mem_append_left _ hj) ((o.keep k1).sub fun j hj => List.mem_append_left _ hj) q1
  | false => exact h6 Dn E F T ψ1 g1 σ H1 R1 ((ex.on k1).sub fun j hj => List.mem_append_right _ hj) ((o.keep k1).sub fun j hj => List.mem_append_right _ hj) q1
theorem rel_ret {B : Bx} {F T T1 : Own} {ψ : Psi} {g : G} {σ : L2.St} {H : Hp} {r : Pd.R} {v : V} {k : R → G → Prop} (R : Rel B F ψ g T1 σ H) (rr : RR B r v T T1 σ H) (q : retR r ψ g fun r g => ∃ g2, G.le g2 g ∧ k r g2) :
    ∃ r' g', k r' g' ∧ RetR B F r' v g' H := by
  have subF : ∀ {g2 : G} {T : Own}, Rel B F ψ g2 T σ H → Owns B g2 F H := fun {g2 T} R2 => R2.ow.sub ((List.sublist_append_right _ _).trans (List.sublist_append_right _ _))
  cases r with
  | d x =>
    obtain ⟨g2, hl, q2⟩ := q
    exact ⟨_, g2, q2, rr.1, (R.le hl).gl, subF (R.le hl)⟩
  | own o =>
    obtain ⟨a, rfl, rfl⟩ := rr
    obtain ⟨g2, hl, q2⟩ := q
    refine ⟨_, g2, q2, a, rfl, (R.le hl).gl, (R.le hl).ow.sub ?_⟩
    refine List.Sublist.trans ?_ (List.sublist_append_right _ _)
    exact (List.sublist_append_right T F).cons₂ (a, o)
  | sl i =>
    obtain ⟨hσ, rfl⟩ := rr
    have q' : (match ψ[i]? with | some (some (.d x)) => ∃ g2, G.le g2 g ∧ k (.d x) g2 | some (some (.own o)) => ∃ g2, G.le g2 g ∧ k (.own o) g2 | _ => False) := q
    split at q'
    · rename_i x e
      obtain ⟨w, h1, h2⟩ := R.sl i _ e
      rw [hσ] at h1; cases h1
      obtain ⟨g2, hl, q2⟩ := q'
      exact ⟨_, g2, q2, h2, (R.le hl).gl, subF (R.le hl)⟩
    · rename_i o e
      obtain ⟨g2, hl, q2⟩ := q'
      obtain ⟨a, L, h1, h2, _⟩ := (R.le hl).ownAt e
      rw [hσ] at h1; cases h1
      refine ⟨_, g2, q2, a, rfl, (R.le hl).gl, ((R.le hl).ow.perm h2).sub (List.Sublist.cons₂ (a, o) ?_)⟩
      exact (List.sublist_append_right _ _).trans (List.sublist_append_right _ _)
    · exact q'.elim
theorem ds_ret (h : DE X tb e te) : DSt X tb (.Return (some e) pos) [] (sRet te) := fun W tk => by
  obtain ⟨t1, h1, h2⟩ := h W tk
  refine ⟨_, ps_ret h1, fun Dn E F T ψ g σ H R ex o q => h2 Dn.ex F T ψ g σ H _ _ R ex.now q fun r ψ1 g1 T1 v H1 q1 rr R1 k1 => ?_⟩
  obtain ⟨r', g', q2, rt⟩ := rel_ret R1 rr q1
  exact o.rt r' g' v H1 q2 rt k1
theorem ds_retN : DSt X tb (.Return none pos) [] sRetN := fun W tk => ⟨_, ps_retN, fun Dn E F T ψ g σ H R ex o q => by
  obtain ⟨g2, hl, q2⟩ := q
  exact o.rt (.d .non) g2 .non H q2 ⟨.non, (R.le hl).gl, (R.le hl).ow.sub ((List.sublist_append_right _ _).trans (List.sublist_append_right _ _))⟩ (Keep.refl H)⟩
/-! ### loops -/
theorem ds_while {t : WT} {body : List Stmt} (hp : PassesOwn (model X.prog X.w) X.A X.env X.xe) (hc : DT X tb c t) (hb : DSs X tb body S s1) : DSt X tb (.While c body [] pos) S (sWhile t s1) := fun W tk => by
  obtain ⟨t0, h1, h2⟩ := hc W tk
  obtain ⟨t1, h3, h4⟩ := hb W tk
  refine ⟨_, ps_while hp h1 h3, fun Dn E F T ψ g σ H R ex o q => ?_⟩
  obtain ⟨n, q⟩ := q
  refine ⟨fun m σ' H' => Keep H H' ∧ SameS S σ σ' ∧ ∃ ψ g, whileN t s1 Dn m ψ g ∧ Rel (bx X tb) F ψ g T σ' H', ⟨n, Keep.refl H, fun _ _ => rfl, ψ, g, q, R⟩, ?_⟩
  rintro m σ' H' ⟨k1, e1, ψ1, g1, q1, R1⟩
  cases m with
  | zero => exact q1.elim
  | succ m =>
    refine h2 Dn.ex F T ψ1 g1 σ' H' _ _ R1 ((ex.on k1).at e1).now q1 fun b ψ2 g2 H2 q2 R2 k2 => ?_
    cases b with
    | false => exact o.nx ψ2 g2 σ' H2 q2 R2 (k1.trans k2) e1
    | true =>
      refine ⟨fun σ'' H'' => Keep H H'' ∧ SameS S σ σ'' ∧ ∃ ψ g, whileN t s1 Dn m ψ g ∧ Rel (bx X tb) F ψ g T σ'' H'', fun σ'' H'' w => ⟨m, Nat.lt_succ_self m, w⟩, ?_⟩
      have o2 := o.at (k1.trans k2) e1
      refine h4 { Dn with nx := fun ψ' g' => ∃ g2, G.le g2 g' ∧ whileN t s1 Dn m ψ' g2, ct := fun ψ' g' => ∃ g2, G.le g2 g' ∧ whileN t s1 Dn m ψ' g2, bk := Dn.nx } _ F T ψ2 g2 σ' H2 R2 ((ex.on (k1.trans k2)).at e1) ⟨fun ψ3 g3 σ3 H3 q3 R3 k3 e3 => ?_, o2.rt, o2.nx, fun ψ3 g3 σ3 H3 q3 R3 k3 e3 => ?_⟩ q2
      · obtain ⟨g4, hl, w⟩ := q3
        exact ⟨(k1.trans k2).trans k3, e1.trans e3, ψ3, g4, w, R3.le hl⟩
      · obtain ⟨g4, hl, w⟩ := q3
        exact ⟨(k1.trans k2).trans k3, e1.trans e3, ψ3, g4, w, R3.le hl⟩
theorem ds_for {tg iter : Expr} {gt : WG} {it : WI} {SI SG : List Nat} {body : List Stmt} (hp : PassesOwn (model X.prog X.w) X.A X.env X.xe) (hi : DI X tb tg iter SI it) (hg : DG X tb tg SG gt) (hb : DSs X tb body S s1)
    (hd : (SI.all fun j => !(SG ++ S).contains j) = true := by rfl) (hc : X.calm = true := by rfl) (hs : ∀ x, foldedSetIterable iter X.env x = pure x := by intro _; rfl) : DSt X tb (.For tg iter body [] pos) (SG ++ S) (sFor it gt s1) := fun W tk => by
  obtain ⟨wi, h1, h2⟩ := hi W tk
  obtain ⟨g0, h3, h4⟩ := hg
  obtain ⟨t1, h5, h6⟩ := hb W tk
  have apart : ∀ j ∈ SI, j ∉ SG ++ S := fun j hj z => by
    have := List.all_eq_true.mp hd j hj
    rw [Bool.not_eq_true', List.contains_eq_mem, decide_eq_false_iff_not] at this
    exact this z
  refine ⟨_, ps_for hp hc h1 h3 h5 hs, fun Dn E F T ψ g σ H R ex o q => h2 Dn.ex F T ψ g σ H _ _ R ex.now q fun xs ok ψ1 g1 T' J H1 q1 ok1 R1 k1 io => ?_⟩
  refine ⟨fun i m σ' H' => m = xs.length - i ∧ i ≤ xs.length ∧ Keep H1 H' ∧ SameS (SG ++ S) σ σ' ∧ ∃ ψ g, ok ψ g ∧ forL gt s1 Dn ok (xs.drop i) ψ g ∧ Rel (bx X tb) F ψ g (T' ++ T) σ' H',
    ⟨_, rfl, Nat.zero_le _, Keep.refl H1, fun _ _ => rfl, ψ1, g1, ok1, q1, R1⟩, ?_⟩
  rintro i m σ' H' ⟨rfl, hl, k2, e2, ψ2, g2, ok2, q2, R2⟩
  have tn := io.turn i ψ2 g2 [] σ' H' ok2 R2 (fun j hj => e2 j (apart j hj)) k2
  by_cases hlt : i < xs.length
  · have hx : xs[i]? = some xs[i] := List.getElem?_eq_getElem hlt
    rw [List.drop_eq_getElem_cons hlt] at q2
    refine .inr ⟨(tn.1 _ hx).1, fun σ'' H'' => i + 1 ≤ xs.length ∧ Keep H1 H'' ∧ SameS (SG ++ S) σ σ'' ∧ ∃ ψ g, ok ψ g ∧ forL gt s1 Dn ok (xs.drop (i + 1)) ψ g ∧ Rel (bx X tb) F ψ g (T' ++ T) σ'' H'',
      fun σ'' H'' w => ⟨xs.length - (i + 1), by omega, rfl, w⟩, fun v H3 y => ?_⟩
    obtain ⟨rv, R3, k3⟩ := (tn.1 _ hx).2 v H3 y
    have R3' : Rel (bx X tb) F ψ2 g2 (T' ++ T) σ' H3 := R3
    refine h4 F (T' ++ T) ψ2 g2 σ' H3 xs[i] v _ _ R3' rv q2 fun ψ4 g4 σ4 H4 q4 R4 k4 e4 _ => ?_
    have kk := (k2.trans k3).trans k4
    have e4' : SameS (SG ++ S) σ σ4 := e2.trans (SameS.sub e4 fun j hj => List.mem_append_left _ hj)
    have o4 := o.at (k1.trans kk) e4'
    have again : ∀ ψ5 g5 σ5 H5, (∃ g2, G.le g2 g5 ∧ ok ψ5 g2 ∧ forL gt s1 Dn ok (xs.drop (i + 1)) ψ5 g2) → Rel (bx X tb) F ψ5 g5 (T' ++ T) σ5 H5 → Keep H4 H5 → SameS S σ4 σ5 →
        i + 1 ≤ xs.length ∧ Keep H1 H5 ∧ SameS (SG ++ S) σ σ5 ∧ ∃ ψ g, ok ψ g ∧ forL gt s1 Dn ok (xs.drop (i + 1)) ψ g ∧ Rel (bx X tb) F ψ g (T' ++ T) σ5 H5 := fun ψ5 g5 σ5 H5 ⟨g6, hle, ok6, w6⟩ R5 k5 e5 =>
      ⟨hlt, kk.trans k5, e4'.trans (SameS.sub e5 fun j hj => List.mem_append_right _ hj), ψ5, g6, ok6, w6, R5.le hle⟩
    refine h6 { Dn with nx := fun ψ' g' => ∃ g2, G.le g2 g' ∧ ok ψ' g2 ∧ forL gt s1 Dn ok (xs.drop (i + 1)) ψ' g2, ct := fun ψ' g' => ∃ g2, G.le g2 g' ∧ ok ψ' g2 ∧ forL gt s1 Dn ok (xs.drop (i + 1)) ψ' g2, bk := Dn.nx } _ F (T' ++ T) ψ4 g4 σ4 H4 R4 (((ex.more (k1.trans kk)).at e4').sub fun j hj => List.mem_append_right _ hj) ⟨again, fun r g5 v5 H5 q5 R5 k5 => o4.rt r g5 v5 H5 q5 R5 k5, fun ψ5 g5 σ5 H5 q5 R5 k5 e5 => ?_, again⟩ q4
    exact o4.nx ψ5 g5 σ5 H5 q5 R5.dropT k5 (SameS.sub e5 fun j hj => List.mem_append_right _ hj)
  · rw [List.drop_eq_nil_of_le (by omega)] at q2
    exact .inl ⟨tn.2 (by omega), o.nx ψ2 g2 σ' H' q2 R2.dropT (k1.trans k2) e2⟩
end
end Pd
set_option Elab.async false
set_option linter.all false
set_option maxRecDepth 100000
set_option maxHeartbeats 1000000
namespace Pd
open PySem PySem.Spec PyProof.Rows L2
/-- a promise over trees, as one over values -/
def lift (B : Bx) (ec : String → Option Addr) (φ : SpD) : Sp := fun vs H Q E => ∃ (ss : List Sl) (g : G) (F : Own), Paired (SlRel B F H) ss vs ∧ (∀ s ∈ ss, ∀ o, s ≠ .own o) ∧ Glob B g H ∧ Owns B g F H ∧
  φ ss g (fun x g' => ∀ cls dx H', Glob B g' H' → Owns B g' F H' → RX ec B.K x cls dx H' → Keep H H' → E cls dx H') (fun r g' => ∀ v H', RetR B F r v g' H' → Keep H H' → Q v H')
section
variable {B : Bx} {F T T1 : Own} {ψ : Psi} {g : G} {σ : L2.St} {H H' : Hp}
theorem Rel.permT {T' : Own} (R : Rel B F ψ g T σ H) (p : T.Perm T') : Rel B F ψ g T' σ H :=
  ⟨R.len, R.sl, R.gl, R.ow.perm (List.Perm.append_left _ (p.append_right F))⟩
theorem Rel.back {T0 : Own} {g' : G} (R : Rel B F ψ g T σ H) (gl : Glob B g' H') (ow : Owns B g' (T0 ++ (ownL ψ σ ++ (T ++ F))) H') (k : Keep H H') : Rel B F ψ g' (T0 ++ T) σ H' := by
  refine ⟨R.len, fun i s h => let ⟨v, h1, h2⟩ := R.sl i s h; ⟨v, h1, h2.keep k⟩, gl, ow.perm ?_⟩
  rw [List.append_assoc T0 T F]
  exact List.perm_append_comm_assoc _ _ _
/-- an argument's answer -/
def IR (B : Bx) (σ : L2.St) (H : Hp) : Pd.R → V → Prop
  | .d x, v => RV B.K H x v
  | .own _, v => ∃ a, v = .ref a
  | .sl i, v => σ[i]? = some (some v)
def temps : List R → List V → Own
  | .own o :: rs, .ref a :: vs => (a, o) :: temps rs vs
  | _ :: rs, _ :: vs => temps rs vs
  | _, _ => []
def IK (B : Bx) (σ : L2.St) (H : Hp) (Tk : Own) : Pd.R → V → Prop
  | .d x, v => RV B.K H x v
  | .own o, v => ∃ a, v = .ref a ∧ (a, o) ∈ Tk
  | .sl i, v => σ[i]? = some (some v)
theorem rrs_ir : ∀ {rs : List R} {vs : List V} {T T1 : Own}, RRs B σ H rs vs T T1 → Paired (IR B σ H) rs vs ∧ T1.Perm (temps rs vs ++ T)
  | _, _, _, _, .nil => ⟨.nil, List.Perm.refl _⟩
  | r :: rs, v :: vs, T, T1, .cons h t => by
    obtain ⟨h1, h2⟩ := rrs_ir t
    cases r with
    | d x =>
      obtain ⟨rx, rfl⟩ := h
      exact ⟨.cons rx h1, h2⟩
    | sl i =>
      obtain ⟨rx, rfl⟩ := h
      exact ⟨.cons rx h1, h2⟩
    | own o =>
      obtain ⟨a, rfl, rfl⟩ := h
      exact ⟨.cons ⟨a, rfl⟩ h1, h2.trans List.perm_middle⟩
theorem IK.mono {Tk Tk' : Own} (h : ∀ p ∈ Tk, p ∈ Tk') {r : Pd.R} {v : V} (q : IK B σ H Tk r v) : IK B σ H Tk' r v := by
  cases r with
  | d x => exact q
  | sl i => exact q
  | own o => obtain ⟨a, e, m⟩ := q; exact ⟨a, e, h _ m⟩
theorem give_ok : ∀ (rs : List R) (ms : List Bool) (vs : List V) (Tk : Own) (ψ : Psi) (g : G) (k : List R → Psi → G → Prop), Paired (IR B σ H) rs vs → Rel B F ψ g (Tk ++ (temps rs vs ++ T)) σ H → giveAll ms rs ψ g k →
    ∃ rs' ψ1 g1 Tk', k rs' ψ1 g1 ∧ Paired (IK B σ H Tk') rs' vs ∧ Rel B F ψ1 g1 (Tk' ++ T) σ H ∧ ∀ p ∈ Tk, p ∈ Tk'
  | [], ms, _, Tk, ψ, g, k, .nil, R, q => by
    refine ⟨[], ψ, g, Tk, ?_, .nil, R, fun _ h => h⟩
    cases ms <;> exact q
  | r :: rs, [], _, Tk, ψ, g, k, .cons h t, R, q => q.elim
  | r :: rs, true :: ms, v :: vs, Tk, ψ, g, k, .cons h t, R, q => by
    have q' : toD r ψ g fun x ψ g => giveAll ms rs ψ g fun rs ψ g => k (.d x :: rs) ψ g := q
    have fin : ∀ {x : D} {ψ2 : Psi} {g2 : G}, RV B.K H x v → Rel B F ψ2 g2 (Tk ++ (temps rs vs ++ T)) σ H → (giveAll ms rs ψ2 g2 fun rs ψ g => k (.d x :: rs) ψ g) →
        ∃ rs' ψ1 g1 Tk', k rs' ψ1 g1 ∧ Paired (IK B σ H Tk') rs' (v :: vs) ∧ Rel B F ψ1 g1 (Tk' ++ T) σ H ∧ ∀ p ∈ Tk, p ∈ Tk' := fun {x ψ2 g2} rx R2 q2 => by
      obtain ⟨rs', ψ1, g1, Tk', h1, h2, h3, h4⟩ := give_ok rs ms vs Tk ψ2 g2 _ t R2 q2
      exact ⟨.d x :: rs', ψ1, g1, Tk', h1, .cons rx h2, h3, h4⟩
    cases r with
    | d x => exact fin h R q'
    | own o =>
      obtain ⟨a, rfl⟩ := h
      have R2 : Rel B F ψ g ((a, o) :: (Tk ++ (temps rs vs ++ T))) σ H := R.permT List.perm_middle
      obtain ⟨h1, h2⟩ := R2.giveT
      exact fin (.ref a) h2 (q' a h1)
    | sl i =>
      obtain ⟨x, ψ2, g2, h1, h2, h3⟩ := Rel.toD (T := Tk ++ (temps rs vs ++ T)) R (r := .sl i) ⟨h, rfl⟩ q'
      exact fin h2 h3 h1
  | r :: rs, false :: ms, v :: vs, Tk, ψ, g, k, .cons h t, R, q => by
    have q' : giveAll ms rs ψ g fun rs ψ g => k (r :: rs) ψ g := q
    cases r with
    | d x =>
      obtain ⟨rs', ψ1, g1, Tk', h1, h2, h3, h4⟩ := give_ok rs ms vs Tk ψ g _ t R q'
      exact ⟨_, ψ1, g1, Tk', h1, .cons h h2, h3, h4⟩
    | sl i =>
      obtain ⟨rs', ψ1, g1, Tk', h1, h2, h3, h4⟩ := give_ok rs ms vs Tk ψ g _ t R q'
      exact ⟨_, ψ1, g1, Tk', h1, .cons h h2, h3, h4⟩
    | own o =>
      obtain ⟨a, rfl⟩ := h
      have R2 : Rel B F ψ g ((Tk ++ [(a, o)]) ++ (temps rs vs ++ T)) σ H := by rw [List.append_assoc]; exact R
      obtain ⟨rs', ψ1, g1, Tk', h1, h2, h3, h4⟩ := give_ok rs ms vs (Tk ++ [(a, o)]) ψ g _ t R2 q'
      exact ⟨_, ψ1, g1, Tk', h1, .cons ⟨a, rfl, h4 _ (by simp)⟩ h2, h3, fun p hp => h4 p (List.mem_append_left _ hp)⟩
theorem lend_ok (R : Rel B F ψ g T σ H) : ∀ (rs : List Pd.R) (vs : List V) (ss : List Sl), Paired (IK B σ H T) rs vs → lendRs ψ rs = some ss → Paired (SlRel B (ownL ψ σ ++ (T ++ F)) H) ss vs ∧ ∀ s ∈ ss, ∀ o, s ≠ .own o
  | [], _, _, .nil, e => by cases e; exact ⟨.nil, fun _ h => nomatch h⟩
  | r :: rs, v :: vs, ss, .cons h t, e => by
    have e' : (match lendR ψ r, lendRs ψ rs with | some s, some ss => some (s :: ss) | _, _ => none) = some ss := e
    split at e'
    · rename_i s ss' e1 e2
      cases e'
      obtain ⟨h1, h2⟩ := lend_ok R rs vs ss' t e2
      have hd : SlRel B (ownL ψ σ ++ (T ++ F)) H s v ∧ ∀ o, s ≠ .own o := by
        cases r with
        | d x => cases e1; exact ⟨h, fun o z => nomatch z⟩
        | own o =>
          cases e1
          obtain ⟨a, rfl, m⟩ := h
          exact ⟨⟨a, rfl, List.mem_append_right _ (List.mem_append_left _ m)⟩, fun o z => nomatch z⟩
        | sl i =>
          have e3 : (match ψ[i]? with | some (some s) => some (lendS s) | _ => none) = some s := e1
          split at e3
          · rename_i s0 e4
            cases e3
            obtain ⟨w, e5, e6⟩ := R.sl i s0 e4
            have e7 : σ[i]? = some (some v) := h
            rw [e7] at e5; cases e5
            cases s0 with
            | d x => exact ⟨e6, fun o z => nomatch z⟩
            | bor o =>
              obtain ⟨a, rfl, m⟩ := e6
              exact ⟨⟨a, rfl, List.mem_append_right _ (List.mem_append_right _ m)⟩, fun o z => nomatch z⟩
            | own o =>
              obtain ⟨a, L, e8, e9, _⟩ := R.ownAt e4
              rw [e7] at e8; cases e8
              exact ⟨⟨a, rfl, e9.mem_iff.mpr (List.Mem.head _)⟩, fun o z => nomatch z⟩
          · cases e3
      exact ⟨.cons hd.1 h1, fun s hs => (List.mem_cons.mp hs).elim (fun z => z ▸ hd.2) (h2 s)⟩
    · cases e'
/-- what a callee is handed -/
theorem args_ok {rs : List R} {vs : List V} {ms : List Bool} {k : List Sl → Psi → G → Prop} (rr : RRs B σ H rs vs T T1) (R : Rel B F ψ g T1 σ H) (q : argsSl ms rs ψ g k) :
    ∃ ss ψ1 g1 Tk, k ss ψ1 g1 ∧ Rel B F ψ1 g1 (Tk ++ T) σ H ∧ Paired (SlRel B (ownL ψ1 σ ++ ((Tk ++ T) ++ F)) H) ss vs ∧ ∀ s ∈ ss, ∀ o, s ≠ .own o := by
  obtain ⟨h1, h2⟩ := rrs_ir rr
  obtain ⟨rs', ψ1, g1, Tk, h3, h4, h5, _⟩ := give_ok rs ms vs [] ψ g _ h1 (R.permT h2) q
  obtain ⟨ss, e1, q2⟩ := optQ_inv h3
  obtain ⟨h6, h7⟩ := lend_ok h5 rs' vs ss (L2.Paired.mapP h4 fun _ _ z => IK.mono (fun p hp => List.mem_append_left _ hp) z) e1
  exact ⟨ss, ψ1, g1, Tk, q2, h5, h6, h7⟩
end

section
variable {X : Cx} {tb : Tb} {W : WX}
/-- the callee's promise, asked -/
theorem ask {F T Tk : Own} {ψ : Psi} {g : G} {σ : L2.St} {H : Hp} {ss : List Sl} {vs : List V} {φ : SpD} {E : EX} {Q' : Pd.R → Psi → G → Prop} {Q : VK} (R : Rel (bx X tb) F ψ g (Tk ++ T) σ H) (ex : ExOk (bx X tb) tb.ec W E F T σ H)
    (ps : Paired (SlRel (bx X tb) (ownL ψ σ ++ ((Tk ++ T) ++ F)) H) ss vs) (no : ∀ s ∈ ss, ∀ o, s ≠ .own o) (q : φ ss g (fun x g' => E x ψ g') fun r g' => Q' r ψ g')
    (mono : ∀ (A A' : Pd.X → G → Prop) (C C' : Pd.R → G → Prop), (∀ x g, A x g → A' x g) → (∀ r g, C r g → C' r g) → φ ss g A C → φ ss g A' C')
    (k : ∀ r g1 T1 v H1, Q' r ψ g1 → RR (bx X tb) r v T T1 σ H1 → Rel (bx X tb) F ψ g1 T1 σ H1 → Keep H H1 → Q v H1) : lift (bx X tb) tb.ec φ vs H Q (L2.WE W σ) := by
  refine ⟨ss, g, ownL ψ σ ++ ((Tk ++ T) ++ F), ps, no, R.gl, R.ow, mono _ _ _ _ (fun x g' e cls dx H' gl ow rx kk => ?_) (fun r g' qr v H' rt kk => ?_) q⟩
  · have R2 : Rel (bx X tb) F ψ g' ([] ++ (Tk ++ T)) σ H' := Rel.back (T0 := []) R gl ow kk
    exact ex x ψ g' H' cls dx e (Rel.dropT (T' := Tk) R2) rx kk
  · cases r with
    | sl i => exact rt.elim
    | d x =>
      obtain ⟨rx, gl, ow⟩ := rt
      have R2 : Rel (bx X tb) F ψ g' ([] ++ (Tk ++ T)) σ H' := Rel.back (T0 := []) R gl ow kk
      exact k _ g' T v H' qr ⟨rx, rfl⟩ (Rel.dropT (T' := Tk) R2) kk
    | own o =>
      obtain ⟨a, rfl, gl, ow⟩ := rt
      have R2 : Rel (bx X tb) F ψ g' ([(a, o)] ++ (Tk ++ T)) σ H' := Rel.back (T0 := [(a, o)]) R gl ow kk
      exact k _ g' _ _ H' qr ⟨a, rfl, rfl⟩ (Rel.midT R2) kk

def Mono (φ : SpD) : Prop := ∀ (ss : List Sl) (g : G) (A A' : Pd.X → G → Prop) (C C' : Pd.R → G → Prop), (∀ x g, A x g → A' x g) → (∀ r g, C r g → C' r g) → φ ss g A C → φ ss g A' C'
/-- a def of the module that keeps its promise -/
structure Cal (P : Program) (w : World) (K : PySem.W.Frag) (mg : Str → Option Value) (base : Heap) (tb : Tb) (x : Str) (k : Nat) (φ : SpD) : Prop where
  ex : ∃ (f : Addr) (fd : FuncData) (ps : List Str), FnOk P w K mg base (L2.CX P w) k f fd ps (lift ⟨P, w, K, tb.cl⟩ tb.ec φ) ∧ mg x = some (.ref f) ∧ PySem.W.keepIn K (.ref f) = true ∧ Binds K fd ps []
  mono : Mono φ
structure CalM (P : Program) (w : World) (K : PySem.W.Frag) (mg : Str → Option Value) (base : Heap) (tb : Tb) (c : String) (m : Str) (k : Nat) (φ : SpD) : Prop where
  ex : ∃ (C f : Addr) (fd : FuncData) (ps : List Str), tb.cl c = some C ∧ Cls K C ∧ Meth K C m f ∧ FnOk P w K mg base (L2.CX P w) k f fd ps (lift ⟨P, w, K, tb.cl⟩ tb.ec φ) ∧ Binds K fd ps []
  mono : Mono φ
structure CalN (P : Program) (w : World) (K : PySem.W.Frag) (mg : Str → Option Value) (base : Heap) (tb : Tb) (c : String) (x : Str) (k : Nat) (φ : SpD) : Prop where
  ex : ∃ (C f : Addr) (fd : FuncData) (ps : List Str), tb.cl c = some C ∧ mg x = some (.ref C) ∧ Mk K C f ∧ FnOk P w K mg base (L2.CX P w) k f fd ps (lift ⟨P, w, K, tb.cl⟩ tb.ec φ) ∧ Binds K fd ps []
  mono : Mono φ
variable {e o : Expr} {es : List Expr} {to : WE} {as : WA} {pos apos p : Pos} {x m : Str} {k : Nat} {φ : SpD}
/-! ### calls whose exceptions are taken at the slots as they stand -/
section
variable {f C : Addr} {fd : FuncData} {prs : List Str} {sp : Sp} {E : L2.St → XK} {t0 : TE} {t : TA} {kk : Nat}
theorem pc_call0 (Fk : FnOk X.prog X.w X.K X.mg X.base (L2.CX X.prog X.w) kk f fd prs sp) (rm : Room kk X.A) (gl : Gl X x) (mx : X.mg x = some (.ref f)) (kf : PySem.W.keepIn X.K (.ref f) = true) (bd : Binds X.K fd prs []) (px : ∀ σ, PassesAt (L2.CX X.prog X.w) X σ (E σ))
    (nd : (x == ("__debug__" : Str)) = false) : PE X (.Call (.Name x p) [] [] pos) (fun σ H Q => sp [] H Q (E σ)) :=
  ⟨fun pins s σ H Q I hw => wpAny_Call_Name_kw (ld_glob I gl mx (PySem.W.callWith_K0 I.kIn kf (run_fnS (us := []) Fk rm bd (px σ) I .nil hw)) nd)⟩
def tMethP (C : Addr) (m : Str) (sp : Sp) (E : L2.St → XK) (t0 : TE) (t : TA) : TE := fun σ H Q => t0 σ H fun x H1 => ∃ a dx fs, x = .ref a ∧ H1 a = some (.ins C dx fs) ∧ fs.lookup m = none ∧ t σ H1 fun vs H2 => sp (x :: vs) H2 Q (E σ)
theorem pc_meth {pl : Sem Bool} (he : PE X o t0) (cl : Cls X.K C) (mt : Meth X.K C m f) (Fk : FnOk X.prog X.w X.K X.mg X.base (L2.CX X.prog X.w) kk f fd prs sp) (rm : Room kk X.A) (bd : Binds X.K fd prs []) (px : ∀ σ, PassesAt (L2.CX X.prog X.w) X σ (E σ)) (ha : PA X (e :: es) t)
    (st : starEach (e :: es) X.env = (false, eval e X.env) :: starEach es X.env) (pn : (backTo pos (starEach es X.env)).any (·.1) = false)
    (ev : eval (.Call (.Attribute o m apos) (e :: es) [] pos) X.env = (do let ov ← eval o X.env; standAt apos.atName; let (f, first) ← holding [ov] (getMethod ov m pl); callWith pos f first (backTo pos (starEach (e :: es) X.env)) (backToKw pos (keywordEach [] X.env)))) :
    PE X (.Call (.Attribute o m apos) (e :: es) [] pos) (tMethP C m sp E t0 t) := by
  refine ⟨fun pins s σ H Q I hw => PySem.W.methodCall_KW (pl := pl) (thn (he.run pins s σ H _ I hw) fun u s1 ⟨y, H1, I1, ry, a, dx, fs, ey, ea, ln, q⟩ => ?_) ev⟩
  subst ey
  cases (show u = Value.ref a from ry)
  refine getmeth_ok I1 ea cl mt ln (PySem.W.callWith_K (first := [.ref a]) (h₀ := X.base) I.ok.mod.kin mt.kp (thn (ha.run pos pins s1 σ H1 _ I1 q) fun us s2 ⟨vs, H2, I2, rv, q2⟩ => ⟨I2.kIn, ?_⟩) st pn)
  exact run_fnS (us := .ref a :: us) (vs := .ref a :: vs) Fk rm bd (px σ) I2 (.cons rfl rv) q2
theorem pc_meth0 {pl : Sem Bool} (he : PE X o t0) (cl : Cls X.K C) (mt : Meth X.K C m f) (Fk : FnOk X.prog X.w X.K X.mg X.base (L2.CX X.prog X.w) kk f fd prs sp) (rm : Room kk X.A) (bd : Binds X.K fd prs []) (px : ∀ σ, PassesAt (L2.CX X.prog X.w) X σ (E σ))
    (ev : eval (.Call (.Attribute o m apos) [] [] pos) X.env = (do let ov ← eval o X.env; standAt apos.atName; let (f, first) ← holding [ov] (getMethod ov m pl); callWith pos f first (backTo pos (starEach [] X.env)) (backToKw pos (keywordEach [] X.env)))) :
    PE X (.Call (.Attribute o m apos) [] [] pos) (tMethP C m sp E t0 tNil) := by
  refine ⟨fun pins s σ H Q I hw => PySem.W.methodCall_KW (pl := pl) (thn (he.run pins s σ H _ I hw) fun u s1 ⟨y, H1, I1, ry, a, dx, fs, ey, ea, ln, q⟩ => ?_) ev⟩
  subst ey
  cases (show u = Value.ref a from ry)
  exact getmeth_ok I1 ea cl mt ln (PySem.W.callWith_K0 (first := [.ref a]) I1.kIn mt.kp (run_fnS (us := [.ref a]) (vs := [.ref a]) Fk rm bd (px σ) I1 (.cons rfl .nil) q))
def tMakeP (C : Addr) (sp : Sp) (E : L2.St → XK) (t : TA) : TE := fun σ H Q => t σ H fun vs H1 => ∀ y dx, H1 y = none → H1 dx = none → dx ≠ y →
  sp (.ref y :: vs) (L2.upd (L2.upd H1 dx (.own y)) y (.ins C dx [])) (fun v H2 => v = .non ∧ Q (.ref y) H2) (E σ)
theorem run_mk {pins : List (Addr × Obj)} {σ : L2.St} {H : Hp} {s : Shared} {Q : VK} {us : List Value} {vs : List V} (M : Mk X.K C f) (Fk : FnOk X.prog X.w X.K X.mg X.base (L2.CX X.prog X.w) kk f fd prs sp) (rm : Room (kk + 1) X.A) (bd : Binds X.K fd prs [])
    (px : PassesAt (L2.CX X.prog X.w) X σ (E σ)) (I : Inv X pins σ H s) (rv : Vals vs us)
    (hw : ∀ y dx, H y = none → H dx = none → dx ≠ y → sp (.ref y :: vs) (L2.upd (L2.upd H dx (.own y)) y (.ins C dx [])) (fun v H2 => v = .non ∧ Q (.ref y) H2) (E σ)) :
    wpAny (model X.prog X.w) X.A (call (.ref C) us) (EP X pins σ Q) X.xe s := by
  have qq := hw (s.heap.objs.size + 1) s.heap.objs.size (I.hok.fresh (Nat.le_succ _)) (I.hok.fresh (Nat.le_refl _)) (Nat.ne_of_lt (Nat.lt_succ_self _))
  have J := Inv.made (C := C) I
  have rr : Vals (V.ref (s.heap.objs.size + 1) :: vs) (Value.ref (s.heap.objs.size + 1) :: us) := .cons rfl rv
  have ln : (Value.ref (s.heap.objs.size + 1) :: us ++ []).length = prs.length := by
    rw [List.append_nil, ← rr.length]; exact Fk.len _ _ _ _ qq
  have bb := bd _ (Value.ref (s.heap.objs.size + 1) :: us) J.kIn ln
  rw [List.append_nil] at bb
  refine wpAny_call (make_map (f := f) I.kIn M.makes M.init (beq_iff_eq.mp M.fn) (codeAny_mono (Fk.run _ X.stack _ _ ⟨Value.ref (s.heap.objs.size + 1) :: us, []⟩ (Value.ref (s.heap.objs.size + 1) :: us) _ _ (E σ) (rm.make C us [])
    (J.env0.make C us []) bb rr qq) fun r s' z => ?_))
  cases r with
  | error e => exact px pins _ _ e s' J z
  | ok fl =>
    cases fl with
    | ret u =>
      obtain ⟨v, H', I3, rv3, ev, q3⟩ := J.after z
      subst ev
      exact ⟨rv3, ⟨V.ref (s.heap.objs.size + 1), H', I3, rfl, q3⟩⟩
    | next => exact z.elim
    | brk => exact z.elim
    | cont => exact z.elim
theorem pc_make (M : Mk X.K C f) (Fk : FnOk X.prog X.w X.K X.mg X.base (L2.CX X.prog X.w) kk f fd prs sp) (rm : Room (kk + 1) X.A) (gl : Gl X x) (mx : X.mg x = some (.ref C)) (bd : Binds X.K fd prs []) (px : ∀ σ, PassesAt (L2.CX X.prog X.w) X σ (E σ)) (ha : PA X (e :: es) t)
    (nd : (x == ("__debug__" : Str)) = false) (st : starEach (e :: es) X.env = (false, eval e X.env) :: starEach es X.env) (pn : (backTo pos (starEach es X.env)).any (·.1) = false) : PE X (.Call (.Name x p) (e :: es) [] pos) (tMakeP C sp E t) :=
  ⟨fun pins s σ H Q I hw => wpAny_Call_Name_kw (ld_glob I gl mx (PySem.W.callWith_K (h₀ := X.base) I.ok.mod.kin M.kp (thn (ha.run pos pins s σ H _ I hw) fun us s1 ⟨vs, H1, I1, rv, q⟩ => ⟨I1.kIn, run_mk M Fk rm bd (px σ) I1 rv q⟩) st pn) nd)⟩
end
/-! ### .. over trees -/
theorem de_call (ms : List Bool) (Cc : Cal X.prog X.w X.K X.mg X.base tb x k φ) (hr : Room k X.A) (ha : DA X tb (e :: es) as) (hg : Gl X x := by rfl) (hdb : (x == ("__debug__" : Str)) = false := by decide)
    (he : starEach (e :: es) X.env = (false, eval e X.env) :: starEach es X.env := by rfl) (hpl : (backTo pos (starEach es X.env)).any (·.1) = false := by rfl) : DE X tb (.Call (.Name x p) (e :: es) [] pos) (eCall φ ms as) := fun W tk => by
  obtain ⟨t1, h1, h2⟩ := ha W tk
  obtain ⟨f, fd, prs, F1, mx, kf, bd⟩ := Cc.ex
  refine ⟨_, pe_callS F1 hr hg mx kf bd (passAt tk) h1 hdb he hpl, fun E F T ψ g σ H Q' Q R ex q kq => h2 E F T ψ g σ H _ _ R ex q fun rs ψ1 g1 T1 vs H1 q1 rr R1 k1 => ?_⟩
  obtain ⟨ss, ψ2, g2, Tk, q2, R2, pr, no⟩ := args_ok rr R1 q1
  exact ask R2 (ex.on k1) pr no q2 (Cc.mono _ _) fun r g3 T3 v H3 q3 rr3 R3 k3 => kq r ψ2 g3 T3 v H3 q3 rr3 R3 (k1.trans k3)
theorem de_call0 (Cc : Cal X.prog X.w X.K X.mg X.base tb x k φ) (hr : Room k X.A) (hg : Gl X x := by rfl) (hdb : (x == ("__debug__" : Str)) = false := by decide) : DE X tb (.Call (.Name x p) [] [] pos) (eCall φ [] aNil) := fun W tk => by
  obtain ⟨f, fd, prs, F1, mx, kf, bd⟩ := Cc.ex
  refine ⟨_, pc_call0 F1 hr hg mx kf bd (passAt tk) hdb, fun E F T ψ g σ H Q' Q R ex q kq => ?_⟩
  exact ask (Tk := []) (ss := []) R ex .nil (fun _ h => nomatch h) q (Cc.mono _ _) fun r g3 T3 v H3 q3 rr3 R3 k3 => kq r ψ g3 T3 v H3 q3 rr3 R3 k3
theorem isIns_at {B : Bx} {F T : Own} {ψ : Psi} {g : G} {σ : L2.St} {H : Hp} {a C : Addr} {c m : String} {x : Str} (R : Rel B F ψ g T σ H) (h : IsIns g a c m) (hc : B.cl c = some C) (hx : Str.ofString m = x) : ∃ dx fs, H a = some (.ins C dx fs) ∧ fs.lookup x = none := by
  unfold IsIns at h
  split at h
  · rename_i c' fs e
    obtain ⟨rfl, hl⟩ := h
    obtain ⟨C', dx, vfs, e1, e2, e3⟩ := R.gl a _ e
    rw [hc] at e1; cases e1
    exact ⟨dx, vfs, e2, by rw [← hx]; exact (RFs.look e3).2 hl⟩
  · exact h.elim
theorem de_meth (c m : String) (ms : List Bool) (Cc : CalM X.prog X.w X.K X.mg X.base tb c x k φ) (hr : Room k X.A) (ho : DE X tb o to) (ha : DA X tb (e :: es) as) {pl : Sem Bool} (hx : Str.ofString m = x := by rfl)
    (st : starEach (e :: es) X.env = (false, eval e X.env) :: starEach es X.env := by rfl) (pn : (backTo pos (starEach es X.env)).any (·.1) = false := by rfl)
    (ev : eval (.Call (.Attribute o x apos) (e :: es) [] pos) X.env = (do let ov ← eval o X.env; standAt apos.atName; let (f, first) ← holding [ov] (getMethod ov x pl); callWith pos f first (backTo pos (starEach (e :: es) X.env)) (backToKw pos (keywordEach [] X.env))) := by rfl) :
    DE X tb (.Call (.Attribute o x apos) (e :: es) [] pos) (eMeth c m φ ms to as) := fun W tk => by
  obtain ⟨t0, h1, h2⟩ := ho W tk
  obtain ⟨t1, h3, h4⟩ := ha W tk
  obtain ⟨C, f, fd, prs, hcl, cl, mt, F1, bd⟩ := Cc.ex
  refine ⟨_, pc_meth h1 cl mt F1 hr bd (passAt tk) h3 st pn ev, fun E F T ψ g σ H Q' Q R ex q kq => h2 E F T ψ g σ H _ _ R ex q fun r ψ1 g1 T1 v H1 q1 rr R1 k1 => ?_⟩
  obtain ⟨y, ψ2, g2, q2, ry, R2⟩ := R1.toD rr q1
  cases y with
  | ref a =>
    cases ry
    obtain ⟨ins, q3⟩ := q2
    obtain ⟨dx, fs, e1, e2⟩ := isIns_at R2 ins hcl hx
    refine ⟨a, dx, fs, rfl, e1, e2, h4 E F T ψ2 g2 σ H1 _ _ R2 (ex.on k1) q3 fun rs ψ3 g3 T3 vs H3 q3 rr3 R3 k3 => ?_⟩
    obtain ⟨ss, ψ4, g4, Tk, q4, R4, pr, no⟩ := args_ok rr3 R3 q3
    refine ask (ss := .d (.ref a) :: ss) R4 (ex.on (k1.trans k3)) (.cons (.ref a) pr) (fun s hs => ?_) q4 (Cc.mono _ _) fun r g5 T5 v H5 q5 rr5 R5 k5 => kq r ψ4 g5 T5 v H5 q5 rr5 R5 ((k1.trans k3).trans k5)
    rcases List.mem_cons.mp hs with rfl | hs
    · exact fun o z => nomatch z
    · exact no s hs
  | _ => exact q2.elim
theorem de_meth0 (c m : String) (Cc : CalM X.prog X.w X.K X.mg X.base tb c x k φ) (hr : Room k X.A) (ho : DE X tb o to) {pl : Sem Bool} (hx : Str.ofString m = x := by rfl)
    (ev : eval (.Call (.Attribute o x apos) [] [] pos) X.env = (do let ov ← eval o X.env; standAt apos.atName; let (f, first) ← holding [ov] (getMethod ov x pl); callWith pos f first (backTo pos (starEach [] X.env)) (backToKw pos (keywordEach [] X.env))) := by rfl) :
    DE X tb (.Call (.Attribute o x apos) [] [] pos) (eMeth c m φ [] to aNil) := fun W tk => by
  obtain ⟨t0, h1, h2⟩ := ho W tk
  obtain ⟨C, f, fd, prs, hcl, cl, mt, F1, bd⟩ := Cc.ex
  refine ⟨_, pc_meth0 h1 cl mt F1 hr bd (passAt tk) ev, fun E F T ψ g σ H Q' Q R ex q kq => h2 E F T ψ g σ H _ _ R ex q fun r ψ1 g1 T1 v H1 q1 rr R1 k1 => ?_⟩
  obtain ⟨y, ψ2, g2, q2, ry, R2⟩ := R1.toD rr q1
  cases y with
  | ref a =>
    cases ry
    obtain ⟨ins, q3⟩ := q2
    obtain ⟨dx, fs, e1, e2⟩ := isIns_at R2 ins hcl hx
    refine ⟨a, dx, fs, rfl, e1, e2, ?_⟩
    refine ask (Tk := []) (ss := [.d (.ref a)]) R2 (ex.on k1) (.cons (.ref a) .nil) (fun s hs => ?_) q3 (Cc.mono _ _) fun r g5 T5 v H5 q5 rr5 R5 k5 => kq r ψ2 g5 T5 v H5 q5 rr5 R5 (k1.trans k5)
    rw [List.mem_singleton.mp hs]
    exact fun o z => nomatch z
  | _ => exact q2.elim
theorem de_new (c : String) (ms : List Bool) (Cc : CalN X.prog X.w X.K X.mg X.base tb c x k φ) (hr : Room (k + 1) X.A) (ha : DA X tb (e :: es) as) (hg : Gl X x := by rfl) (hdb : (x == ("__debug__" : Str)) = false := by decide)
    (he : starEach (e :: es) X.env = (false, eval e X.env) :: starEach es X.env := by rfl) (hpl : (backTo pos (starEach es X.env)).any (·.1) = false := by rfl) : DE X tb (.Call (.Name x p) (e :: es) [] pos) (eNew c φ ms as) := fun W tk => by
  obtain ⟨t1, h1, h2⟩ := ha W tk
  obtain ⟨C, f, fd, prs, hcl, mx, M, F1, bd⟩ := Cc.ex
  refine ⟨_, pc_make M F1 hr hg mx bd (passAt tk) h1 hdb he hpl, fun E F T ψ g σ H Q' Q R ex q kq => h2 E F T ψ g σ H _ _ R ex q fun rs ψ1 g1 T1 vs H1 q1 rr R1 k1 y dx hy hdx ne => ?_⟩
  obtain ⟨ss, ψ2, g2, Tk, q2, R2, pr, no⟩ := args_ok rr R1 q1
  have hy2 : L2.upd H1 dx (.own y) y = none := by rw [upd_ne (Ne.symm ne)]; exact hy
  have Ra : Rel (bx X tb) F ψ2 g2 (Tk ++ T) σ (L2.upd H1 dx (.own y)) := R2.alloc hdx
  have ka : Keep H1 (L2.upd H1 dx (.own y)) := Keep.new hdx
  have Rb : Rel (bx X tb) F ψ2 g2 ((y, .ins c []) :: (Tk ++ T)) σ (L2.upd (L2.upd H1 dx (.own y)) y (.ins C dx [])) := Ra.new hy2 ⟨C, dx, [], hcl, upd_same, .nil⟩
  have kb : Keep H1 (L2.upd (L2.upd H1 dx (.own y)) y (.ins C dx [])) := ka.trans (Keep.new hy2)
  obtain ⟨gn, Rc⟩ := Rb.giveT
  refine ask (E := E) (Q' := fun r ψ g => r = .d .non ∧ Q' (.d (.ref y)) ψ g) (ss := .d (.ref y) :: ss) Rc (ex.on (k1.trans kb)) (.cons (.ref y) (L2.Paired.mapP pr fun _ _ z => SlRel.keep kb z)) (fun s hs => ?_) (q2 y gn) (Cc.mono _ _) fun r g5 T5 v H5 q5 rr5 R5 k5 => ?_
  · rcases List.mem_cons.mp hs with rfl | hs
    · exact fun o z => nomatch z
    · exact no s hs
  · obtain ⟨rfl, q6⟩ := q5
    obtain ⟨rv, rfl⟩ := rr5
    cases rv
    exact ⟨rfl, kq _ ψ2 g5 T5 _ H5 q6 ⟨.ref y, rfl⟩ R5 ((k1.trans kb).trans k5)⟩
end
end Pd
set_option linter.all false
namespace Pd
/-- an equality that holds by unfolding, not told to be one -/
theorem nrfl {α : Sort _} {a b : α} (h : a = b) : a = b := h
/-! Running a combinator term step by step: outermost first, continuations untouched until their value has come. -/
@[simp] theorem optQ_none {α : Type} {k : α → Prop} : optQ (none : Option α) k = False := nrfl rfl
def has (ψ : Psi) (i : Nat) (p : Prop) (_ : Hid p := ()) : Prop := match ψ[i]? with
  | some (some _) => p
  | _ => False
@[simp ↓] theorem has_zero {s : Sl} {ψ : Psi} {p : Prop} : has (some s :: ψ) 0 p = p := nrfl rfl
@[simp ↓] theorem has_succ {s : Option Sl} {ψ : Psi} {i : Nat} {p : Prop} : has (s :: ψ) (i + 1) p = has ψ i p := nrfl rfl
def blQ (o : Option C) (k : Bool → Prop) (_ : Hid k := ()) : Prop := match o with
  | some (.d (.bl b)) => k b
  | _ => False
@[simp] theorem blQ_some {b : Bool} {k : Bool → Prop} : blQ (some (.d (.bl b))) k = k b := nrfl rfl
def inQ (o : Option C) (k : Int → Prop) (_ : Hid k := ()) : Prop := match o with
  | some (.d (.int b)) => k b
  | _ => False
@[simp] theorem inQ_some {b : Int} {k : Int → Prop} : inQ (some (.d (.int b))) k = k b := nrfl rfl
def stQ (o : Option C) (k : List Nat → Prop) (_ : Hid k := ()) : Prop := match o with
  | some (.d (.str b)) => k b
  | _ => False
@[simp] theorem stQ_some {b : List Nat} {k : List Nat → Prop} : stQ (some (.d (.str b))) k = k b := nrfl rfl
def lsQ (o : Option C) (k : List D → Prop) (_ : Hid k := ()) : Prop := match o with
  | some (.o (.lst b)) => k b
  | _ => False
@[simp] theorem lsQ_some {b : List D} {k : List D → Prop} : lsQ (some (.o (.lst b))) k = k b := nrfl rfl
def obQ (o : Option C) (k : O → Prop) (_ : Hid k := ()) : Prop := match o with
  | some (.o b) => k b
  | _ => False
@[simp] theorem obQ_some {b : O} {k : O → Prop} : obQ (some (.o b)) k = k b := nrfl rfl
def gQ (o : Option O) (k : String → List (String × D) → Prop) (_ : Hid k := ()) : Prop := match o with
  | some (.ins c fs) => k c fs
  | _ => False
@[simp] theorem gQ_some {c : String} {fs : List (String × D)} {k : String → List (String × D) → Prop} : gQ (some (.ins c fs)) k = k c fs := nrfl rfl
/-! what a slot holds, as it is asked -/
@[simp] theorem look_d {ψ : Psi} {g : G} {x : D} : look ψ g (.d x) = lookD g x := nrfl rfl
@[simp] theorem look_own {ψ : Psi} {g : G} {o : O} : look ψ g (.own o) = some (.o o) := nrfl rfl
@[simp] theorem look_0 {ψ : Psi} {s : Sl} {g : G} : look (some s :: ψ) g (.sl 0) = lookS g s := nrfl rfl
@[simp] theorem look_s {ψ : Psi} {s : Option Sl} {g : G} {i : Nat} : look (s :: ψ) g (.sl (i + 1)) = look ψ g (.sl i) := nrfl rfl
@[simp] theorem lookS_d {g : G} {x : D} : lookS g (.d x) = lookD g x := nrfl rfl
@[simp] theorem lookS_own {g : G} {o : O} : lookS g (.own o) = some (.o o) := nrfl rfl
@[simp] theorem lookS_bor {g : G} {o : O} : lookS g (.bor o) = some (.o o) := nrfl rfl
@[simp] theorem lookD_ref {g : G} {a : Nat} : lookD g (.ref a) = (g a).map C.o := nrfl rfl
@[simp] theorem lookD_non {g : G} : lookD g .non = some (.d .non) := nrfl rfl
@[simp] theorem lookD_bl {g : G} {b : Bool} : lookD g (.bl b) = some (.d (.bl b)) := nrfl rfl
@[simp] theorem lookD_int {g : G} {b : Int} : lookD g (.int b) = some (.d (.int b)) := nrfl rfl
@[simp] theorem lookD_str {g : G} {b : List Nat} : lookD g (.str b) = some (.d (.str b)) := nrfl rfl
@[simp] theorem lookD_tup {g : G} {b : List D} : lookD g (.tup b) = some (.d (.tup b)) := nrfl rfl
@[simp] theorem lookD_rol {g : G} {b : List D} : lookD g (.rol b) = some (.d (.rol b)) := nrfl rfl
/-! stepping: one rule a combinator, taken from outside -/
section
variable (E : EX) (ψ : Psi) (g : G) (Q : R → Psi → G → Prop) (QA : List R → Psi → G → Prop) (QD : List D → Psi → G → Prop) (QT : Bool → Psi → G → Prop) (QG : Psi → G → Prop) (QI : List D → (Psi → G → Prop) → Psi → G → Prop) (Dn : Ends) (t u v : WE) (as : WA) (ds : WD) (c d : WT) (s b : WS)
@[simp ↓] theorem s_eC (x : D) : eC x E ψ g Q = Q (.d x) ψ g := nrfl rfl
@[simp ↓] theorem s_eVar (i : Nat) : eVar i E ψ g Q = has ψ i (Q (.sl i) ψ g) := nrfl rfl
@[simp ↓] theorem s_aNil : aNil E ψ g QA = QA [] ψ g := nrfl rfl
@[simp ↓] theorem s_aCons : aCons t as E ψ g QA = t E ψ g fun r ψ g => as E ψ g fun rs ψ g => QA (r :: rs) ψ g := nrfl rfl
@[simp ↓] theorem s_eUn (f : G → C → Option R) : eUn f t E ψ g Q = t E ψ g fun r ψ g => optQ (look ψ g r) fun c => optQ (f g c) fun x => Q x ψ g := nrfl rfl
@[simp ↓] theorem s_eBin (f : G → C → C → Option R) : eBin f t u E ψ g Q = t E ψ g fun r ψ g => u E ψ g fun r' ψ g => optQ (look ψ g r) fun c => optQ (look ψ g r') fun c' => optQ (f g c c') fun x => Q x ψ g := nrfl rfl
@[simp ↓] theorem s_eIsN (n : Bool) : eIsN n t E ψ g Q = t E ψ g fun r ψ g => optQ (isNon ψ r) fun b => Q (.d (.bl (if n then !b else b))) ψ g := nrfl rfl
@[simp ↓] theorem s_dNil : dNil E ψ g QD = QD [] ψ g := nrfl rfl
@[simp ↓] theorem s_dCons : dCons t ds E ψ g QD = t E ψ g fun r ψ g => toD r ψ g fun x ψ g => ds E ψ g fun xs ψ g => QD (x :: xs) ψ g := nrfl rfl
@[simp ↓] theorem s_eTup : eTup ds E ψ g Q = ds E ψ g fun xs ψ g => Q (.d (.tup xs)) ψ g := nrfl rfl
@[simp ↓] theorem s_eLst : eLst ds E ψ g Q = ds E ψ g fun xs ψ g => Q (.own (.lst xs)) ψ g := nrfl rfl
@[simp ↓] theorem s_eDic (k : Bool) : eDic k E ψ g Q = Q (.own (.dic k [])) ψ g := nrfl rfl
@[simp ↓] theorem s_tV : tV t E ψ g QT = t E ψ g fun r ψ g => blQ (look ψ g r) fun b => QT b ψ g := nrfl rfl
@[simp ↓] theorem s_tAnd : tAnd c d E ψ g QT = c E ψ g fun b ψ g => if b = true then d E ψ g QT else QT false ψ g := nrfl rfl
@[simp ↓] theorem s_tOr : tOr c d E ψ g QT = c E ψ g fun b ψ g => if b = true then QT true ψ g else d E ψ g QT := nrfl rfl
@[simp ↓] theorem s_tNot : tNot c E ψ g QT = c E ψ g fun b ψ g => QT (!b) ψ g := nrfl rfl
@[simp ↓] theorem s_eAnd : eAnd t u E ψ g Q = t E ψ g fun r ψ g => blQ (look ψ g r) fun b => if b = true then u E ψ g Q else Q (.d (.bl false)) ψ g := nrfl rfl
@[simp ↓] theorem s_eOr : eOr t u E ψ g Q = t E ψ g fun r ψ g => blQ (look ψ g r) fun b => if b = true then Q (.d (.bl true)) ψ g else u E ψ g Q := nrfl rfl
@[simp ↓] theorem s_eNot : eNot t E ψ g Q = t E ψ g fun r ψ g => blQ (look ψ g r) fun b => Q (.d (.bl (!b))) ψ g := nrfl rfl
@[simp ↓] theorem s_eIf : eIf c t u E ψ g Q = c E ψ g fun b ψ g => if b = true then t E ψ g Q else u E ψ g Q := nrfl rfl
def chQ (o : Option R) (a b : Prop) (_ : Hid a := ()) (_ : Hid b := ()) : Prop := match o with
  | some (.d (.bl true)) => a
  | some (.d (.bl false)) => b
  | _ => False
@[simp] theorem chQ_some {x : Bool} {a b : Prop} : chQ (some (.d (.bl x))) a b = if x = true then a else b := by cases x <;> simp [chQ]
@[simp ↓] theorem s_eChain (f f' : G → C → C → Option R) : eChain f f' t u v E ψ g Q = t E ψ g fun r ψ g => u E ψ g fun r' ψ g => optQ (look ψ g r) fun c => optQ (look ψ g r') fun c' =>
  chQ (f g c c') (v E ψ g fun r'' ψ g => optQ (look ψ g r') fun c' => optQ (look ψ g r'') fun c'' => optQ (f' g c' c'') fun x => Q x ψ g) (Q (.d (.bl false)) ψ g) := nrfl rfl
def fldQ (o : Option C) (c f : String) (k : D → Prop) (_ : Hid k := ()) : Prop := match o with
  | some (.o (.ins c' fs)) => c' = c ∧ optQ (fs.lookup f) k
  | _ => False
@[simp] theorem fldQ_some {c c' f : String} {fs : List (String × D)} {k : D → Prop} : fldQ (some (.o (.ins c' fs))) c f k = (c' = c ∧ optQ (fs.lookup f) k) := nrfl rfl
@[simp ↓] theorem s_eFld (cn f : String) : eFld cn f t E ψ g Q = t E ψ g fun r ψ g => fldQ (look ψ g r) cn f fun x => Q (.d x) ψ g := nrfl rfl
@[simp] theorem s_lstAt (r : R) : lstAt ψ g r = lsQ (look ψ g r) fun _ => True := by
  unfold lstAt lsQ; rfl
@[simp ↓] theorem s_eMut (f : List D → List D → Option (List D × D)) : eMut f t ds E ψ g Q = t E ψ g fun r ψ g => lstAt ψ g r ∧ ds E ψ g fun xs ψ g => lsQ (look ψ g r) fun ys => optQ (f ys xs) fun p => wr r (.lst p.1) ψ g fun ψ g => Q (.d p.2) ψ g := nrfl rfl
@[simp ↓] theorem s_eMutC (f : List D → C → Option (List D)) : eMutC f t u E ψ g Q = t E ψ g fun r ψ g => lstAt ψ g r ∧ u E ψ g fun r' ψ g => lsQ (look ψ g r) fun ys => optQ (look ψ g r') fun c => optQ (f ys c) fun o' => wr r (.lst o') ψ g fun ψ g => Q (.d .non) ψ g := nrfl rfl
def callQ (φ : SpD) (ss : List Sl) (g : G) (E : X → G → Prop) (Q : R → G → Prop) (_ : Hid E := ()) (_ : Hid Q := ()) : Prop := φ ss g E Q
def compQ (tg : WG) (tt : WT) (te : WE) (ok : Psi → G → Prop) (ψ0 ψw : Psi) (xs acc : List D) (g : G) (Q : List D → G → Prop) (_ : Hid Q := ()) (_ : Hid ok := ()) : Prop := compL tg tt te ok ψ0 ψw xs acc g Q
def forQ (tg : WG) (b : WS) (Dn : Ends) (ok : Psi → G → Prop) (xs : List D) (ψ : Psi) (g : G) (_ : Hid Dn := ()) (_ : Hid ok := ()) : Prop := forL tg b Dn ok xs ψ g
def whileQ (c : WT) (b : WS) (Dn : Ends) (ψ : Psi) (g : G) (_ : Hid Dn := ()) : Prop := sWhile c b Dn ψ g
@[simp ↓] theorem s_eCall (φ : SpD) (ms : List Bool) : eCall φ ms as E ψ g Q = as E ψ g fun rs ψ g => argsSl ms rs ψ g fun ss ψ g => callQ φ ss g (fun x g' => E x ψ g') fun r g' => Q r ψ g' := nrfl rfl
def rfQ (x : D) (k : Nat → Prop) : Prop := match x with
  | .ref a => k a
  | _ => False
@[simp ↓] theorem rfQ_ref {a : Nat} {k : Nat → Prop} : rfQ (.ref a) k = k a := nrfl rfl
@[simp ↓] theorem s_eMeth (cn m : String) (φ : SpD) (ms : List Bool) : eMeth cn m φ ms t as E ψ g Q = t E ψ g fun r ψ g => toD r ψ g fun x ψ g => rfQ x fun a => IsIns g a cn m ∧ as E ψ g fun rs ψ g => argsSl ms rs ψ g fun ss ψ g => callQ φ (.d (.ref a) :: ss) g (fun x g' => E x ψ g') fun r g' => Q r ψ g' := nrfl rfl
@[simp ↓] theorem s_eNew (cn : String) (φ : SpD) (ms : List Bool) : eNew cn φ ms as E ψ g Q = as E ψ g fun rs ψ g => argsSl ms rs ψ g fun ss ψ g => ∀ p, g p = none → callQ φ (.d (.ref p) :: ss) (g.upd p (.ins cn [])) (fun x g' => E x ψ g') fun r g' => r = .d .non ∧ Q (.d (.ref p)) ψ g' := nrfl rfl
def nsQ (r : R) (k : Prop) : Prop := match r with
  | .sl _ => False
  | _ => k
@[simp ↓] theorem nsQ_d {x : D} {k : Prop} : nsQ (.d x) k = k := nrfl rfl
@[simp ↓] theorem nsQ_own {x : O} {k : Prop} : nsQ (.own x) k = k := nrfl rfl
@[simp ↓] theorem s_eNs : eNs t E ψ g Q = t E ψ g fun r ψ g => nsQ r (Q r ψ g) := by
  show (t E ψ g fun r ψ g => match r with | .sl _ => False | r => Q r ψ g) = _
  congr 1
  funext r ψ g
  cases r <;> rfl
@[simp ↓] theorem s_iIt : iIt t E ψ g QI = t E ψ g fun r ψ g => optQ (look ψ g r) fun c => optQ (itemsC c) fun xs => QI xs (still r c) ψ g := nrfl rfl
@[simp ↓] theorem s_iEnum : iEnum t E ψ g QI = t E ψ g fun r ψ g => optQ (look ψ g r) fun c => optQ (lstC c) fun xs => QI (numbered 0 xs) (still r c) ψ g := nrfl rfl
@[simp ↓] theorem s_iRange2 (u : WE) : iRange2 t u E ψ g QI = t E ψ g fun r ψ g => u E ψ g fun r' ψ g => inQ (look ψ g r) fun i => inQ (look ψ g r') fun j => (-(4611686018427387904) ≤ i ∧ i < 4611686018427387904 ∧ -(4611686018427387904) ≤ j ∧ j < 4611686018427387904) ∧ QI ((List.range (j - i).toNat).map fun k : Nat => D.int (i + k)) (fun _ _ => True) ψ g := nrfl rfl
@[simp ↓] theorem s_iRange : iRange t E ψ g QI = t E ψ g fun r ψ g => inQ (look ψ g r) fun n => n < 4611686018427387904 ∧ -(4611686018427387904) ≤ n ∧ QI ((List.range n.toNat).map fun i : Nat => D.int (i : Int)) (fun _ _ => True) ψ g := nrfl rfl
@[simp ↓] theorem s_iStr : iStr t E ψ g QI = t E ψ g fun r ψ g => stQ (look ψ g r) fun z => QI (z.map fun c => .str [c]) (fun _ _ => True) ψ g := nrfl rfl
@[simp ↓] theorem s_iZip : iZip t u E ψ g QI = t E ψ g fun r ψ g => u E ψ g fun r' ψ g => optQ (look ψ g r) fun c => optQ (look ψ g r') fun c' => optQ (zipC c c') fun p => QI (pairUp p.1 p.2) (fun ψ g => still r c ψ g ∧ still r' c' ψ g) ψ g := nrfl rfl
@[simp ↓] theorem s_gName (i : Nat) (x : D) : gName i x ψ g QG = QG (ψ.set i (some (.d x))) g := nrfl rfl
@[simp ↓] theorem s_gTup (ts : List WG) (xs : List D) : gTup ts (.tup xs) ψ g QG = (xs.length = ts.length ∧ gAll ts xs ψ g QG) := nrfl rfl
@[simp ↓] theorem s_gNil : gAll [] [] ψ g QG = QG ψ g := nrfl rfl
@[simp ↓] theorem s_gCons (tg : WG) (ts : List WG) (x : D) (xs : List D) : gAll (tg :: ts) (x :: xs) ψ g QG = tg x ψ g fun ψ g => gAll ts xs ψ g QG := nrfl rfl
@[simp ↓] theorem s_tYes : tYes E ψ g QT = QT true ψ g := nrfl rfl
@[simp ↓] theorem s_eComp (vs : List Nat) (it : WI) (tg : WG) : eComp vs it tg c t E ψ g Q = it E ψ g fun xs ok ψ g => compQ tg c t ok ψ (wipe (lendAll ψ) vs) xs [] g fun acc g => Q (.own (.lst acc)) ψ g := nrfl rfl
@[simp ↓] theorem s_sNx : sNx Dn ψ g = Dn.nx ψ g := nrfl rfl
theorem s_sSeq : sSeq s b Dn ψ g = s ⟨b Dn, Dn.rt, Dn.bk, Dn.ct, Dn.ex⟩ ψ g := nrfl rfl
@[simp ↓] theorem s_sBk : sBk Dn ψ g = Dn.bk ψ g := nrfl rfl
@[simp ↓] theorem s_sCt : sCt Dn ψ g = Dn.ct ψ g := nrfl rfl
@[simp ↓] theorem s_sE : sE t Dn ψ g = t Dn.ex ψ g fun _ ψ g => Dn.nx ψ g := nrfl rfl
@[simp ↓] theorem s_sSet (i : Nat) : sSet i t Dn ψ g = t Dn.ex ψ g fun r ψ g => bind i r ψ g Dn.nx := nrfl rfl
@[simp ↓] theorem s_sUnp (tg : WG) : sUnp tg t Dn ψ g = t Dn.ex ψ g fun r ψ g => toD r ψ g fun x ψ g => tg x ψ g Dn.nx := nrfl rfl
@[simp ↓] theorem s_sPar (i j : Nat) : sPar i j t u Dn ψ g = t Dn.ex ψ g fun r ψ g => toD r ψ g fun x ψ g => u Dn.ex ψ g fun r ψ g => toD r ψ g fun y ψ g => Dn.nx ((ψ.set i (some (.d x))).set j (some (.d y))) g := nrfl rfl
@[simp ↓] theorem s_sIf : sIf c s b Dn ψ g = c Dn.ex ψ g fun v ψ g => if v = true then s Dn ψ g else b Dn ψ g := nrfl rfl
@[simp ↓] theorem s_sRet : sRet t Dn ψ g = t Dn.ex ψ g fun r ψ g => retR r ψ g fun r g => ∃ g2, G.le g2 g ∧ Dn.rt r g2 := nrfl rfl
@[simp ↓] theorem s_sRetN : sRetN Dn ψ g = ∃ g2, G.le g2 g ∧ Dn.rt (.d .non) g2 := nrfl rfl
@[simp ↓] theorem s_sSetIx (f : O → D → D → Option O) : sSetIx f t u v Dn ψ g = v Dn.ex ψ g fun v ψ g => toD v ψ g fun v ψ g => t Dn.ex ψ g fun r ψ g => u Dn.ex ψ g fun i ψ g => toD i ψ g fun i ψ g => obQ (look ψ g r) fun o => optQ (f o i v) fun o' => wr r o' ψ g Dn.nx := nrfl rfl
@[simp ↓] theorem s_sFld (cn f : String) : sFld cn f t u Dn ψ g = u Dn.ex ψ g fun v ψ g => toD v ψ g fun v ψ g => t Dn.ex ψ g fun r ψ g => toD r ψ g fun x ψ g => rfQ x fun a => gQ (g a) fun c' fs => c' = cn ∧ fs.length < 900 ∧ Dn.nx ψ (g.upd a (.ins cn (putF f v fs))) := nrfl rfl
@[simp ↓] theorem s_sRaise (cn : String) (fs : List String) : sRaise cn fs ds Dn ψ g = ds Dn.ex ψ g fun xs ψ g => Dn.ex ⟨cn, fs.zip xs⟩ ψ g := nrfl rfl
@[simp ↓] theorem s_sTry (cs : List String) (h : X → WS) : sTry b cs h Dn ψ g = b ⟨Dn.nx, Dn.rt, Dn.bk, Dn.ct, fun x ψ g => if x.cls ∈ cs then h x Dn ψ g else Dn.ex x ψ g⟩ ψ g := nrfl rfl
@[simp ↓] theorem s_hAs (i j : Nat) (f : X → Option D) (x : X) : hAs i j f x Dn ψ g = optQ (f x) fun y => Dn.nx (((ψ.set i none).set j (some (.d y))).set i none) g := nrfl rfl
@[simp ↓] theorem s_hOnly (j : Nat) (f : X → Option D) (x : X) : hOnly j f x Dn ψ g = optQ (f x) fun y => Dn.nx (ψ.set j (some (.d y))) g := nrfl rfl
@[simp ↓] theorem s_sTryAs (cs : List String) (i j : Nat) (f : X → Option D) : sTryAs b cs i j f Dn ψ g = (i < ψ.length ∧ sTry b cs (hAs i j f) Dn ψ g) := nrfl rfl
@[simp ↓] theorem s_sTryOnly (cs : List String) (j : Nat) (f : X → Option D) : sTryOnly b cs j f Dn ψ g = sTry b cs (hOnly j f) Dn ψ g := nrfl rfl
@[simp ↓] theorem s_sFor (it : WI) (tg : WG) : sFor it tg b Dn ψ g = it Dn.ex ψ g fun xs ok ψ g => forQ tg b Dn ok xs ψ g := nrfl rfl
@[simp ↓] theorem s_sWhile (cc : WT) : sWhile cc b Dn ψ g = whileQ cc b Dn ψ g := nrfl rfl
@[simp ↓] theorem s_bndN (k : Option Int → Psi → G → Prop) : bndQ none E ψ g k = k none ψ g := nrfl rfl
@[simp ↓] theorem s_bndS (k : Option Int → Psi → G → Prop) : bndQ (some t) E ψ g k = t E ψ g fun r ψ g => inQ (look ψ g r) fun i => -(4611686018427387904) ≤ i ∧ i < 4611686018427387904 ∧ k (some i) ψ g := nrfl rfl
@[simp ↓] theorem s_eDic1 (t : Bool) (tk tv : WE) : eDic1 t tk tv E ψ g Q = tk E ψ g fun r ψ g => toD r ψ g fun k ψ g => tv E ψ g fun r ψ g => toD r ψ g fun v ψ g => keyOk t k = true ∧ Q (.own (.dic t [(k, v)])) ψ g := nrfl rfl
@[simp] theorem o_rev : oRev g (.o (.lst xs)) = some (.own (.lst xs.reverse)) := nrfl rfl
@[simp ↓] theorem s_eCut (lo hi : Option WE) : eCut t lo hi E ψ g Q = t E ψ g fun r ψ g => bndQ lo E ψ g fun a ψ g => bndQ hi E ψ g fun b ψ g => optQ (look ψ g r) fun c => optQ (cutC a b c) fun x => Q x ψ g := nrfl rfl
@[simp ↓] theorem s_endsR (A : X → G → Prop) (P : R → G → Prop) (r : R) : (endsOf A P).rt r g = P r g := nrfl rfl
@[simp ↓] theorem s_endsN (A : X → G → Prop) (P : R → G → Prop) : (endsOf A P).nx ψ g = ∃ g2, G.le g2 g ∧ P (.d .non) g2 := nrfl rfl
@[simp ↓] theorem s_endsX (A : X → G → Prop) (P : R → G → Prop) (x : X) : (endsOf A P).ex x ψ g = A x g := nrfl rfl
end
/-! values given away, bound, returned -/
section
variable (ψ : Psi) (g : G) (k : D → Psi → G → Prop) (kp : Psi → G → Prop) (kr : R → G → Prop) (i : Nat)
@[simp ↓] theorem s_toDd (x : D) : toD (.d x) ψ g k = k x ψ g := nrfl rfl
@[simp ↓] theorem s_toDo (o : O) : toD (.own o) ψ g k = ∀ p, g p = none → k (.ref p) ψ (g.upd p o) := nrfl rfl
def toDS (s : Option (Option Sl)) (i : Nat) (ψ : Psi) (g : G) (k : D → Psi → G → Prop) (_ : Hid k := ()) : Prop := match s with
  | some (some (.d x)) => k x ψ g
  | some (some (.own o)) => ∀ p, g p = none → k (.ref p) (ψ.set i (some (.d (.ref p)))) (g.upd p o)
  | _ => False
@[simp ↓] theorem s_toDs : toD (.sl i) ψ g k = toDS ψ[i]? i ψ g k := nrfl rfl
@[simp] theorem toDS_d (x : D) : toDS (some (some (.d x))) i ψ g k = k x ψ g := nrfl rfl
@[simp] theorem toDS_own (o : O) : toDS (some (some (.own o))) i ψ g k = ∀ p, g p = none → k (.ref p) (ψ.set i (some (.d (.ref p)))) (g.upd p o) := nrfl rfl
@[simp ↓] theorem s_bindd (x : D) : bind i (.d x) ψ g kp = kp (ψ.set i (some (.d x))) g := nrfl rfl
@[simp ↓] theorem s_bindo (o : O) : bind i (.own o) ψ g kp = kp (ψ.set i (some (.own o))) g := nrfl rfl
def bindS (s : Option (Option Sl)) (i j : Nat) (ψ : Psi) (g : G) (k : Psi → G → Prop) (_ : Hid k := ()) : Prop := match s with
  | some (some (.d x)) => k (ψ.set i (some (.d x))) g
  | some (some (.bor o)) => k (ψ.set i (some (.bor o))) g
  | some (some (.own o)) => ∀ p, g p = none → k ((ψ.set j (some (.d (.ref p)))).set i (some (.d (.ref p)))) (g.upd p o)
  | _ => False
@[simp ↓] theorem s_binds (j : Nat) : bind i (.sl j) ψ g kp = bindS ψ[j]? i j ψ g kp := nrfl rfl
@[simp] theorem bindS_d (j : Nat) (x : D) : bindS (some (some (.d x))) i j ψ g kp = kp (ψ.set i (some (.d x))) g := nrfl rfl
@[simp] theorem bindS_bor (j : Nat) (o : O) : bindS (some (some (.bor o))) i j ψ g kp = kp (ψ.set i (some (.bor o))) g := nrfl rfl
@[simp] theorem bindS_own (j : Nat) (o : O) : bindS (some (some (.own o))) i j ψ g kp = ∀ p, g p = none → kp ((ψ.set j (some (.d (.ref p)))).set i (some (.d (.ref p)))) (g.upd p o) := nrfl rfl
@[simp ↓] theorem s_retd (x : D) : retR (.d x) ψ g kr = kr (.d x) g := nrfl rfl
@[simp ↓] theorem s_reto (o : O) : retR (.own o) ψ g kr = kr (.own o) g := nrfl rfl
def retS (s : Option (Option Sl)) (g : G) (k : R → G → Prop) (_ : Hid k := ()) : Prop := match s with
  | some (some (.d x)) => k (.d x) g
  | some (some (.own o)) => k (.own o) g
  | _ => False
@[simp ↓] theorem s_rets : retR (.sl i) ψ g kr = retS ψ[i]? g kr := nrfl rfl
@[simp] theorem retS_d (x : D) : retS (some (some (.d x))) g kr = kr (.d x) g := nrfl rfl
@[simp] theorem retS_own (o : O) : retS (some (some (.own o))) g kr = kr (.own o) g := nrfl rfl
@[simp ↓] theorem s_wrd (a : Nat) (o : O) : wr (.d (.ref a)) o ψ g kp = kp ψ (g.upd a o) := nrfl rfl
def wrS (s : Option (Option Sl)) (i : Nat) (o : O) (ψ : Psi) (g : G) (k : Psi → G → Prop) (_ : Hid k := ()) : Prop := match s with
  | some (some (.own _)) => k (ψ.set i (some (.own o))) g
  | some (some (.d (.ref a))) => k ψ (g.upd a o)
  | _ => False
@[simp ↓] theorem s_wrs (o : O) : wr (.sl i) o ψ g kp = wrS ψ[i]? i o ψ g kp := nrfl rfl
@[simp] theorem wrS_own (o o' : O) : wrS (some (some (.own o'))) i o ψ g kp = kp (ψ.set i (some (.own o))) g := nrfl rfl
@[simp] theorem wrS_ref (o : O) (a : Nat) : wrS (some (some (.d (.ref a)))) i o ψ g kp = kp ψ (g.upd a o) := nrfl rfl
@[simp] theorem isNon_d (x : D) : isNon ψ (.d x) = some (decide (x = .non)) := nrfl rfl
@[simp] theorem isNon_o (o : O) : isNon ψ (.own o) = some false := nrfl rfl
@[simp] theorem isNon_0d (x : D) : isNon (some (.d x) :: ψ) (.sl 0) = some (decide (x = .non)) := nrfl rfl
@[simp] theorem isNon_0o (o : O) : isNon (some (.own o) :: ψ) (.sl 0) = some false := nrfl rfl
@[simp] theorem isNon_0b (o : O) : isNon (some (.bor o) :: ψ) (.sl 0) = some false := nrfl rfl
@[simp] theorem isNon_s (s : Option Sl) : isNon (s :: ψ) (.sl (i + 1)) = isNon ψ (.sl i) := nrfl rfl
/-! arguments -/
variable (ks : List Sl → Psi → G → Prop) (kl : List R → Psi → G → Prop) (ms : List Bool) (rs : List R) (r : R)
@[simp ↓] theorem s_args : argsSl ms rs ψ g ks = giveAll ms rs ψ g fun rs ψ g => optQ (lendRs ψ rs) fun ss => ks ss ψ g := nrfl rfl
@[simp ↓] theorem s_giveN : giveAll ms [] ψ g kl = kl [] ψ g := by cases ms <;> rfl
@[simp ↓] theorem s_giveT : giveAll (true :: ms) (r :: rs) ψ g kl = toD r ψ g fun x ψ g => giveAll ms rs ψ g fun rs ψ g => kl (.d x :: rs) ψ g := nrfl rfl
@[simp ↓] theorem s_giveF : giveAll (false :: ms) (r :: rs) ψ g kl = giveAll ms rs ψ g fun rs ψ g => kl (r :: rs) ψ g := nrfl rfl
@[simp] theorem s_lendN : lendRs ψ [] = some [] := nrfl rfl
@[simp] theorem s_lendC : lendRs ψ (r :: rs) = (lendR ψ r).bind fun s => (lendRs ψ rs).map fun ss => s :: ss := by
  show (match lendR ψ r, lendRs ψ rs with | some s, some ss => some (s :: ss) | _, _ => none) = _
  cases lendR ψ r <;> cases lendRs ψ rs <;> rfl
@[simp] theorem lendR_d (x : D) : lendR ψ (.d x) = some (.d x) := nrfl rfl
@[simp] theorem lendR_o (o : O) : lendR ψ (.own o) = some (.bor o) := nrfl rfl
@[simp] theorem lendR_0 (s : Sl) : lendR (some s :: ψ) (.sl 0) = some (lendS s) := nrfl rfl
@[simp] theorem lendR_s (s : Option Sl) : lendR (s :: ψ) (.sl (i + 1)) = lendR ψ (.sl i) := nrfl rfl
@[simp] theorem lendS_own (o : O) : lendS (.own o) = .bor o := nrfl rfl
@[simp] theorem lendS_bor (o : O) : lendS (.bor o) = .bor o := nrfl rfl
@[simp] theorem lendS_d (x : D) : lendS (.d x) = .d x := nrfl rfl
end
/-! operations -/
section
variable (g : G) (i j : Int) (s t : List Nat) (xs ys : List D)
@[simp] theorem o_lt : oLt g (.d (.int i)) (.d (.int j)) = some (.d (.bl (decide (i < j)))) := nrfl rfl
@[simp] theorem o_le : oLe g (.d (.int i)) (.d (.int j)) = some (.d (.bl (decide (i ≤ j)))) := nrfl rfl
@[simp] theorem o_gt : oGt g (.d (.int i)) (.d (.int j)) = some (.d (.bl (decide (j < i)))) := nrfl rfl
@[simp] theorem o_ge : oGe g (.d (.int i)) (.d (.int j)) = some (.d (.bl (decide (j ≤ i)))) := nrfl rfl
@[simp] theorem o_addI : oAdd g (.d (.int i)) (.d (.int j)) = some (.d (.int (i + j))) := nrfl rfl
@[simp] theorem o_addS : oAdd g (.d (.str s)) (.d (.str t)) = if s.length + t.length ≤ most then some (.d (.str (s ++ t))) else none := nrfl rfl
@[simp] theorem o_addL : oAdd g (.o (.lst xs)) (.o (.lst ys)) = if xs.length + ys.length ≤ most then some (.own (.lst (xs ++ ys))) else none := nrfl rfl
@[simp] theorem o_addT : oAdd g (.d (.tup xs)) (.d (.tup ys)) = if xs.length + ys.length ≤ most then some (.d (.tup (xs ++ ys))) else none := nrfl rfl
@[simp] theorem o_sub : oSub g (.d (.int i)) (.d (.int j)) = some (.d (.int (i - j))) := nrfl rfl
theorem o_mul : oMul g (.d (.int i)) (.d (.int j)) = if small i ∨ small j then some (.d (.int (i * j))) else none := nrfl rfl
@[simp] theorem o_mod : oMod g (.d (.int i)) (.d (.int j)) = if 0 < j then some (.d (.int (i % j))) else none := by
  show (if 0 < j then some (D.int (i % j)) else none).map R.d = _
  split <;> rfl
@[simp] theorem o_div : oDiv g (.d (.int i)) (.d (.int j)) = if 0 < j ∧ j < 1073741824 then some (.d (.int (i / j))) else none := by
  show (if 0 < j ∧ j < 1073741824 then some (D.int (i / j)) else none).map R.d = _
  split <;> rfl
@[simp] theorem o_pow : oPow g (.d (.int i)) (.d (.int j)) = if 0 ≤ j ∧ j ≤ 1000 ∧ small i then some (.d (.int (i ^ j.toNat))) else none := by
  show (if 0 ≤ j ∧ j ≤ 1000 ∧ small i then some (D.int (i ^ j.toNat)) else none).map R.d = _
  split <;> rfl
@[simp] theorem o_neg : oNeg g (.d (.int i)) = some (.d (.int (-i))) := nrfl rfl
@[simp] theorem o_lenS : oLen g (.d (.str s)) = if s.length ≤ most then some (.d (.int s.length)) else none := by
  show (if s.length ≤ most then some (s.length : Int) else none).map (fun n => R.d (D.int n)) = _
  split <;> rfl
@[simp] theorem o_lenT : oLen g (.d (.tup xs)) = some (.d (.int xs.length)) := nrfl rfl
@[simp] theorem o_lenR : oLen g (.d (.rol xs)) = some (.d (.int xs.length)) := nrfl rfl
@[simp] theorem o_lenL : oLen g (.o (.lst xs)) = some (.d (.int xs.length)) := nrfl rfl
@[simp] theorem o_ixL : oIx g (.o (.lst xs)) (.d (.int i)) = (atI xs i).map R.d := nrfl rfl
@[simp] theorem o_ixT : oIx g (.d (.tup xs)) (.d (.int i)) = (atI xs i).map R.d := nrfl rfl
@[simp] theorem o_ixR : oIx g (.d (.rol xs)) (.d (.int i)) = (atI xs i).map R.d := nrfl rfl
@[simp] theorem o_ixS : oIx g (.d (.str s)) (.d (.int i)) = if s.length ≤ most then (atI s i).map fun c => .d (.str [c]) else none := by
  show (if s.length ≤ most then (atI s i).map fun c => D.str [c] else none).map R.d = _
  split
  · rw [Option.map_map]; rfl
  · rfl
@[simp] theorem o_ixD (k : Bool) (kvs : List (D × D)) (x : D) : oIx g (.o (.dic k kvs)) (.d x) = if keyOk k x = true then (lookK kvs x).map R.d else none := by
  have h : ixC (.o (.dic k kvs)) (.d x) = if keyOk k x then lookK kvs x else none := by cases x <;> rfl
  unfold oIx; rw [h]; split <;> rfl
@[simp] theorem c_S (a b : Option Int) : cutC a b (.d (.str s)) = if s.length ≤ most then some (.d (.str (cut s a b))) else none := nrfl rfl
@[simp] theorem c_T (a b : Option Int) : cutC a b (.d (.tup xs)) = some (.d (.tup (cut xs a b))) := nrfl rfl
@[simp] theorem c_R (a b : Option Int) : cutC a b (.d (.rol xs)) = some (.own (.lst (cut xs a b))) := nrfl rfl
@[simp] theorem c_L (a b : Option Int) : cutC a b (.o (.lst xs)) = some (.own (.lst (cut xs a b))) := nrfl rfl
@[simp] theorem o_listL : oList g (.o (.lst xs)) = some (.own (.lst xs)) := nrfl rfl
@[simp] theorem o_listT : oList g (.d (.tup xs)) = some (.own (.lst xs)) := nrfl rfl
@[simp] theorem o_listR : oList g (.d (.rol xs)) = some (.own (.lst xs)) := nrfl rfl
@[simp] theorem o_listD (t : Bool) (kvs : List (D × D)) : oListD g (.o (.dic t kvs)) = some (.own (.lst (kvs.map (·.1)))) := nrfl rfl
@[simp] theorem o_tupL : oTuple g (.o (.lst xs)) = some (.d (.tup xs)) := nrfl rfl
@[simp] theorem o_tupT : oTuple g (.d (.tup xs)) = some (.d (.tup xs)) := nrfl rfl
@[simp] theorem o_all : oAll g (.o (.lst xs)) = (boolsD xs).map fun bs => .d (.bl (bs.all id)) := nrfl rfl
@[simp] theorem o_sum : oSum g (.o (.lst xs)) = (intsD xs).map fun ns => .d (.int ns.sum) := nrfl rfl
@[simp] theorem o_intI : oInt g (.d (.int i)) = some (.d (.int i)) := nrfl rfl
@[simp] theorem o_intB (b : Bool) : oInt g (.d (.bl b)) = some (.d (.int (if b then 1 else 0))) := nrfl rfl
theorem o_join : oJoin s g (.o (.lst xs)) = (textsD xs).bind fun ts => if (ts.map List.length).sum + ts.length * s.length ≤ most then some (.d (.str (joinL s ts))) else none := nrfl rfl
@[simp] theorem o_isB (n a b : Bool) : oIsB n g (.d (.bl a)) (.d (.bl b)) = some (.d (.bl (if n then !decide (a = b) else decide (a = b)))) := nrfl rfl
@[simp] theorem o_isBi (n b : Bool) : oIsB n g (.d (.int i)) (.d (.bl b)) = some (.d (.bl n)) := nrfl rfl
@[simp] theorem o_isBs (n b : Bool) : oIsB n g (.d (.str s)) (.d (.bl b)) = some (.d (.bl n)) := nrfl rfl
@[simp] theorem o_isBt (n b : Bool) : oIsB n g (.d (.tup xs)) (.d (.bl b)) = some (.d (.bl n)) := nrfl rfl
@[simp] theorem o_isBr (n b : Bool) : oIsB n g (.d (.rol xs)) (.d (.bl b)) = some (.d (.bl n)) := nrfl rfl
@[simp] theorem o_isBo (n b : Bool) (o : O) : oIsB n g (.o o) (.d (.bl b)) = some (.d (.bl n)) := nrfl rfl
@[simp] theorem o_isBn (n b : Bool) : oIsB n g (.d .non) (.d (.bl b)) = some (.d (.bl n)) := nrfl rfl
@[simp] theorem m_app (x : D) : mAppend xs [x] = if xs.length < most then some (xs ++ [x], .non) else none := nrfl rfl
@[simp] theorem m_pop : mPop xs [] = (xs[xs.length - 1]?).map fun y => (xs.dropLast, y) := nrfl rfl
@[simp] theorem m_clear : mClear xs [] = some ([], .non) := nrfl rfl
@[simp] theorem o_max2 : oMax2 g (.d (.int i)) (.d (.int j)) = some (.d (.int (if j > i then j else i))) := nrfl rfl
@[simp] theorem o_min2 : oMin2 g (.d (.int i)) (.d (.int j)) = some (.d (.int (if j < i then j else i))) := nrfl rfl
@[simp] theorem o_maxL : oMaxL g (.o (.lst xs)) = (intsD xs).bind fun bs => (topI bs).map fun m => .d (.int m) := nrfl rfl
@[simp] theorem o_minL : oMinL g (.o (.lst xs)) = (intsD xs).bind fun bs => (lowI bs).map fun m => .d (.int m) := nrfl rfl
@[simp] theorem m_rev : mReverse xs [] = some (xs.reverse, .non) := nrfl rfl
@[simp] theorem p_L (v : D) : putIx (.lst xs) (.int i) v = (idxOf xs.length i).map fun k => .lst (xs.set k v) := nrfl rfl
@[simp] theorem p_D (k : Bool) (kvs : List (D × D)) (x v : D) : putIx (.dic k kvs) x v = if keyOk k x = true ∧ kvs.length < most then some (.dic k (putK kvs x v)) else none := nrfl rfl
@[simp] theorem i_L : itemsC (.o (.lst xs)) = some xs := nrfl rfl
@[simp] theorem i_T : itemsC (.d (.tup xs)) = some xs := nrfl rfl
@[simp] theorem i_R : itemsC (.d (.rol xs)) = some xs := nrfl rfl
@[simp] theorem l_L : lstC (.o (.lst xs)) = some xs := nrfl rfl
@[simp] theorem l_R : lstC (.d (.rol xs)) = some xs := nrfl rfl
@[simp] theorem z_LL : zipC (.o (.lst xs)) (.o (.lst ys)) = some (xs, ys) := nrfl rfl
@[simp] theorem z_TT : zipC (.d (.tup xs)) (.d (.tup ys)) = some (xs, ys) := nrfl rfl
@[simp] theorem z_LR : zipC (.o (.lst xs)) (.d (.rol ys)) = some (xs, ys) := nrfl rfl
@[simp] theorem z_RL : zipC (.d (.rol xs)) (.o (.lst ys)) = some (xs, ys) := nrfl rfl
theorem pure_str : (D.str s).pure = true := rfl
@[simp] theorem eq_SS : oEq g (.d (.str s)) (.d (.str t)) = some (.d (.bl (decide (s = t)))) := by
  have h : eqC g (.d (.str s)) (.d (.str t)) = some (decide (D.str s = D.str t)) := rfl
  unfold oEq; rw [h]; simp
@[simp] theorem ne_SS : oNe g (.d (.str s)) (.d (.str t)) = some (.d (.bl (!decide (s = t)))) := by
  have h : eqC g (.d (.str s)) (.d (.str t)) = some (decide (D.str s = D.str t)) := rfl
  unfold oNe; rw [h]; simp
@[simp] theorem eq_II : oEq g (.d (.int i)) (.d (.int j)) = some (.d (.bl (decide (i = j)))) := by
  have h : eqC g (.d (.int i)) (.d (.int j)) = some (decide (D.int i = D.int j)) := rfl
  unfold oEq; rw [h]; simp
@[simp] theorem ne_II : oNe g (.d (.int i)) (.d (.int j)) = some (.d (.bl (!decide (i = j)))) := by
  have h : eqC g (.d (.int i)) (.d (.int j)) = some (decide (D.int i = D.int j)) := rfl
  unfold oNe; rw [h]; simp
@[simp] theorem eq_BB (a b : Bool) : oEq g (.d (.bl a)) (.d (.bl b)) = some (.d (.bl (decide (a = b)))) := nrfl rfl
end
theorem small_of {i : Int} (h : -(2 ^ 60) ≤ i) (h' : i ≤ 2 ^ 60) : small i := by show i.natAbs < 18446744073709551616; omega
@[simp] theorem optQ_ite {α : Type} {p : Prop} [Decidable p] {x : α} {k : α → Prop} : optQ (if p then some x else none) k = (p ∧ k x) := by
  by_cases h : p <;> simp [h]
@[simp] theorem small_num {n : Nat} (h : Nat.blt n 18446744073709551616 = true) : small (no_index (OfNat.ofNat n : Int)) = True := by
  have h1 : n < 18446744073709551616 := by simpa [Nat.blt_eq] using h
  have h2 : (OfNat.ofNat n : Int) = (n : Int) := rfl
  rw [h2]
  exact eq_true (by show Int.natAbs _ < 18446744073709551616; omega)
@[simp] theorem small_mod {n : Nat} {x : Int} (h : (Nat.blt n 18446744073709551616 && Nat.blt 0 n) = true) : small (x % no_index (OfNat.ofNat n : Int)) = True := by
  rw [Bool.and_eq_true] at h
  have h1 : n < 18446744073709551616 := by simpa [Nat.blt_eq] using h.1
  have h0 : 0 < n := by simpa [Nat.blt_eq] using h.2
  have h2 : (OfNat.ofNat n : Int) = (n : Int) := rfl
  rw [h2]
  have := Int.emod_nonneg x (show (n : Int) ≠ 0 by omega)
  have := Int.emod_lt_of_pos x (show (0 : Int) < n by omega)
  exact eq_true (by show Int.natAbs _ < 18446744073709551616; omega)
/-- a promise by what is asked, what comes back, what may be raised; x: what the caller has in mind -/
structure Sg (α : Type) where
  pre : α → List Sl → G → Prop
  post : α → G → R → G → Prop
  exc : α → G → X → G → Prop := fun _ _ _ _ => False
def Sg.wp {α : Type} (s : Sg α) : SpD := fun ss g E Q => ∃ x, s.pre x ss g ∧ (∀ r g', s.post x g r g' → Q r g') ∧ ∀ z g', s.exc x g z g' → E z g'
theorem call_of {α : Type} {s : Sg α} {ss : List Sl} {g : G} {E : X → G → Prop} {Q : R → G → Prop} (x : α) (h : s.pre x ss g) (k : ∀ r g', s.post x g r g' → Q r g') (e : ∀ z g', s.exc x g z g' → E z g' := by intro _ _ h; exact h.elim) : s.wp ss g E Q := ⟨x, h, k, e⟩
/-- taking the ends apart -/
theorem ret_now {g : G} {P : R → G → Prop} {r : R} (h : P r g) : ∃ g2, G.le g2 g ∧ P r g2 := ⟨g, G.le_refl g, h⟩
/-- a word J between two statements -/
theorem seq_of {s t : WS} {Dn : Ends} {ψ : Psi} {g : G} (J : Psi → G → Prop) (h1 : ∀ nx : Psi → G → Prop, (∀ ψ g, J ψ g → nx ψ g) → s ⟨nx, Dn.rt, Dn.bk, Dn.ct, Dn.ex⟩ ψ g) (h2 : ∀ ψ g, J ψ g → t Dn ψ g) : sSeq s t Dn ψ g := h1 (t Dn) h2
/-! loops by an invariant; what comes behind a turn is any K -/
theorem for_ind {tg : WG} {b : WS} {Dn : Ends} {ok : Psi → G → Prop} (I : List D → Psi → G → Prop)
    (step : ∀ (x : D) (xs : List D) (ψ : Psi) (g : G) (K : Psi → G → Prop), I (x :: xs) ψ g → (∀ ψ' g', I xs ψ' g' → K ψ' g') →
      tg x ψ g fun ψ g => b ⟨fun ψ' g' => ∃ g2, G.le g2 g' ∧ ok ψ' g2 ∧ K ψ' g2, Dn.rt, Dn.nx, fun ψ' g' => ∃ g2, G.le g2 g' ∧ ok ψ' g2 ∧ K ψ' g2, Dn.ex⟩ ψ g)
    (fin : ∀ ψ g, I [] ψ g → Dn.nx ψ g) : ∀ (xs : List D) (ψ : Psi) (g : G), I xs ψ g → forL tg b Dn ok xs ψ g
  | [], ψ, g, h => fin ψ g h
  | x :: xs, ψ, g, h => step x xs ψ g (forL tg b Dn ok xs) h fun ψ' g' h' => for_ind I step fin xs ψ' g' h'
theorem comp_ind {tg : WG} {tt : WT} {te : WE} {ok : Psi → G → Prop} {ψ0 ψw : Psi} {Q : List D → G → Prop} (I : List D → List D → G → Prop)
    (step : ∀ (x : D) (xs acc : List D) (g : G) (K : List D → G → Prop), I (x :: xs) acc g → (∀ acc' g', I xs acc' g' → K acc' g') →
      tg x ψw g fun ψ1 g => tt noX ψ1 g fun b ψ2 g => if b = true then te noX ψ2 g fun r ψ3 g => toD r ψ3 g fun d _ g => ok ψ0 g ∧ acc.length < most ∧ K (acc ++ [d]) g else ok ψ0 g ∧ K acc g)
    (fin : ∀ acc g, I [] acc g → Q acc g) : ∀ (xs acc : List D) (g : G), I xs acc g → compL tg tt te ok ψ0 ψw xs acc g Q
  | [], acc, g, h => fin acc g h
  | x :: xs, acc, g, h => step x xs acc g (fun acc' g' => compL tg tt te ok ψ0 ψw xs acc' g' Q) h fun acc' g' h' => comp_ind I step fin xs acc' g' h'
theorem while_ind {c : WT} {b : WS} {Dn : Ends} (I : Nat → Psi → G → Prop)
    (step : ∀ (n : Nat) (ψ : Psi) (g : G) (K : Psi → G → Prop), I n ψ g → (∀ m ψ' g', m < n → I m ψ' g' → K ψ' g') →
      c Dn.ex ψ g fun v ψ g => if v = true then b ⟨fun ψ' g' => ∃ g2, G.le g2 g' ∧ K ψ' g2, Dn.rt, Dn.nx, fun ψ' g' => ∃ g2, G.le g2 g' ∧ K ψ' g2, Dn.ex⟩ ψ g else Dn.nx ψ g) :
    ∀ (n : Nat) (ψ : Psi) (g : G), I n ψ g → sWhile c b Dn ψ g := by
  have key : ∀ (N n : Nat) (ψ : Psi) (g : G), n < N → I n ψ g → whileN c b Dn N ψ g := by
    intro N
    induction N with
    | zero => intro n ψ g h; omega
    | succ N ih => intro n ψ g h hI; exact step n ψ g (whileN c b Dn N) hI fun m ψ' g' hm hI' => ih m ψ' g' (by omega) hI'
  exact fun n ψ g h => ⟨n + 1, key (n + 1) n ψ g (Nat.lt_succ_self n) h⟩
theorem now {g : G} {P : G → Prop} (h : P g) : ∃ g2, G.le g2 g ∧ P g2 := ⟨g, G.le_refl g, h⟩
theorem atI_lt {α : Type} {xs : List α} {i : Int} (h0 : 0 ≤ i) (h1 : i < xs.length) : atI xs i = xs[i.toNat]? := by
  unfold atI idxOf
  rw [if_pos ⟨h0, h1⟩]; rfl
theorem idxOf_lt {n : Nat} {i : Int} (h0 : 0 ≤ i) (h1 : i < n) : idxOf n i = some i.toNat := if_pos ⟨h0, h1⟩
@[simp] theorem atI_lit {α : Type} (xs : List α) (n : Nat) : atI xs (no_index (OfNat.ofNat n : Int)) = xs[n]? := by
  have h2 : (OfNat.ofNat n : Int) = (n : Int) := rfl
  rw [h2]
  unfold atI idxOf
  by_cases h : n < xs.length
  · rw [if_pos ⟨by omega, by omega⟩]; simp
  · rw [if_neg (by omega), if_neg (by omega)]
    simp [List.getElem?_eq_none (Nat.le_of_not_lt h)]
@[simp] theorem numbered_cons (n : Nat) (x : D) (xs : List D) : numbered n (x :: xs) = .tup [.int n, x] :: numbered (n + 1) xs := nrfl rfl
@[simp] theorem numbered_nil (n : Nat) : numbered n [] = [] := nrfl rfl
theorem clampI_pos {n : Nat} {i : Int} (h : 0 ≤ i) : clampI n i = min i.toNat n := if_neg (by omega)
theorem cut_take {α : Type} (xs : List α) {i : Int} (h : 0 ≤ i) : cut xs none (some i) = xs.take i.toNat := by
  unfold cut bndN
  simp only [clampI_pos h, List.drop_zero]
  by_cases hl : i.toNat ≤ xs.length
  · rw [Nat.min_eq_left hl]
  · rw [Nat.min_eq_right (by omega), List.take_length, List.take_of_length_le (by omega)]
theorem cut_drop {α : Type} (xs : List α) {i : Int} (h : 0 ≤ i) : cut xs (some i) none = xs.drop i.toNat := by
  unfold cut bndN
  simp only [clampI_pos h, List.take_length]
  by_cases hl : i.toNat ≤ xs.length
  · rw [Nat.min_eq_left hl]
  · rw [Nat.min_eq_right (by omega), List.drop_length, List.drop_of_length_le (by omega)]
theorem cut_two {α : Type} (xs : List α) {i j : Int} (h : 0 ≤ i) (h' : 0 ≤ j) : cut xs (some i) (some j) = (xs.take j.toNat).drop i.toNat := by
  have e1 : xs.take (min j.toNat xs.length) = xs.take j.toNat := by
    by_cases hl : j.toNat ≤ xs.length
    · rw [Nat.min_eq_left hl]
    · rw [Nat.min_eq_right (by omega), List.take_length, List.take_of_length_le (by omega)]
  unfold cut bndN
  simp only [clampI_pos h, clampI_pos h', e1]
  by_cases hl : i.toNat ≤ xs.length
  · rw [Nat.min_eq_left hl]
  · rw [Nat.min_eq_right (by omega), List.drop_of_length_le (by rw [List.length_take]; omega), List.drop_of_length_le (by rw [List.length_take]; omega)]
@[simp] theorem cut_takeL {α : Type} (xs : List α) (n : Nat) : cut xs none (some (no_index (OfNat.ofNat n : Int))) = xs.take n := cut_take xs (i := (n : Int)) (by omega)
@[simp] theorem cut_dropL {α : Type} (xs : List α) (n : Nat) : cut xs (some (no_index (OfNat.ofNat n : Int))) none = xs.drop n := cut_drop xs (i := (n : Int)) (by omega)
@[simp] theorem cut_twoL {α : Type} (xs : List α) (n m : Nat) : cut xs (some (no_index (OfNat.ofNat n : Int))) (some (no_index (OfNat.ofNat m : Int))) = (xs.take m).drop n := cut_two xs (i := (n : Int)) (j := (m : Int)) (by omega) (by omega)
@[simp] theorem cut_takeN {α : Type} (xs : List α) (n : Nat) : cut xs none (some (n : Int)) = xs.take n := cut_take xs (i := (n : Int)) (by omega)
@[simp] theorem cut_dropN {α : Type} (xs : List α) (n : Nat) : cut xs (some (n : Int)) none = xs.drop n := cut_drop xs (i := (n : Int)) (by omega)
@[simp] theorem atI_map {α β : Type} (f : α → β) (xs : List α) (i : Int) : atI (xs.map f) i = (atI xs i).map f := by
  unfold atI
  rw [List.length_map]
  cases idxOf xs.length i <;> simp
theorem atI_in {α : Type} {xs : List α} {i : Int} (h0 : 0 ≤ i) (h1 : i < xs.length) : ∃ h : i.toNat < xs.length, atI xs i = some xs[i.toNat] := by
  have h : i.toNat < xs.length := by omega
  exact ⟨h, by rw [atI_lt h0 h1, List.getElem?_eq_getElem h]⟩
@[simp] theorem still_own (o : O) (c : C) (ψ : Psi) (g : G) : still (.own o) c ψ g = True := nrfl rfl
@[simp] theorem still_d (x : D) (c : C) (ψ : Psi) (g : G) : still (.d x) c ψ g = (lookD g x = some c) := nrfl rfl
@[simp] theorem still_sl (i : Nat) (c : C) (ψ : Psi) (g : G) : still (.sl i) c ψ g = (look ψ g (.sl i) = some c) := nrfl rfl
@[simp] theorem idxOf_lit (n k : Nat) : idxOf n (no_index (OfNat.ofNat k : Int)) = if k < n then some k else none := by
  have h2 : (OfNat.ofNat k : Int) = (k : Int) := rfl
  rw [h2]
  unfold idxOf
  by_cases h : k < n
  · rw [if_pos ⟨by omega, by omega⟩, if_pos h]; simp
  · rw [if_neg (by omega), if_neg (by omega), if_neg h]
/-! texts -/
abbrev T (ws : List (List Nat)) : List D := ws.map D.str
theorem cut_map {α β : Type} (f : α → β) (xs : List α) (lo hi : Option Int) : cut (xs.map f) lo hi = (cut xs lo hi).map f := by
  unfold cut
  rw [List.length_map, ← List.map_take, ← List.map_drop]
@[simp] theorem in_sign (g : G) (c : Nat) (t : List Nat) : oIn g (.d (.str [c])) (.d (.str t)) = some (.d (.bl (decide (c ∈ t)))) := nrfl rfl
theorem hasK_mem (kvs : List (D × D)) (k : D) : hasK kvs k = decide (k ∈ kvs.map (·.1)) := by
  unfold hasK
  induction kvs with
  | nil => simp
  | cons p r ih => rw [List.any_cons, ih, ← Bool.decide_or]; congr 1; simp [eq_comm]
@[simp] theorem in_dic (g : G) (x : D) (t : Bool) (kvs : List (D × D)) : oIn g (.d x) (.o (.dic t kvs)) = if keyOk t x = true then some (.d (.bl (decide (x ∈ kvs.map (·.1))))) else none := by
  have h : inT g (.d x) (.o (.dic t kvs)) = if keyOk t x then some (hasK kvs x) else none := by
    cases x with
    | str s => rcases s with _ | ⟨a, _ | ⟨b, s⟩⟩ <;> rfl
    | _ => rfl
  unfold oIn; rw [h, hasK_mem]; split <;> rfl
@[simp] theorem nin_dic (g : G) (x : D) (t : Bool) (kvs : List (D × D)) : oNin g (.d x) (.o (.dic t kvs)) = if keyOk t x = true then some (.d (.bl (!decide (x ∈ kvs.map (·.1))))) else none := by
  have h : inC g (.d x) (.o (.dic t kvs)) = if keyOk t x then some (hasK kvs x) else none := by cases x <;> rfl
  unfold oNin; rw [h, hasK_mem]; split <;> rfl
theorem pures_T : ∀ ws : List (List Nat), D.pures (T ws) = true
  | [] => rfl
  | w :: ws => by show (true && D.pures (T ws)) = true; rw [pures_T ws]; rfl
theorem depths_T : ∀ ws : List (List Nat), D.depths (T ws) = 0
  | [] => rfl
  | w :: ws => by show max 0 (D.depths (T ws)) = 0; rw [depths_T ws]; rfl
theorem mem_T {w : List Nat} {ws : List (List Nat)} : D.str w ∈ T ws ↔ w ∈ ws := by simp [T]
@[simp] theorem in_T (g : G) (w : List Nat) (ws : List (List Nat)) : oIn g (.d (.str w)) (.o (.lst (ws.map D.str))) = some (.d (.bl (decide (w ∈ ws)))) := by
  have h : inT g (.d (.str w)) (.o (.lst (T ws))) = some (decide (w ∈ ws)) := by
    have h0 : inT g (.d (.str w)) (.o (.lst (T ws))) = inC g (.d (.str w)) (.o (.lst (T ws))) := by rcases w with _ | ⟨a, _ | ⟨b, w⟩⟩ <;> rfl
    rw [h0]
    show (if (D.str w).pure && D.pures (T ws) && decide ((D.str w).depth ≤ 50) && decide (D.depths (T ws) ≤ 50) then some (decide (D.str w ∈ T ws)) else none) = _
    rw [pures_T, depths_T]
    simp [D.pure, D.depth]
  unfold oIn; rw [h]; rfl
@[simp] theorem nin_T (g : G) (w : List Nat) (ws : List (List Nat)) : oNin g (.d (.str w)) (.o (.lst (ws.map D.str))) = some (.d (.bl (!decide (w ∈ ws)))) := by
  have h : inC g (.d (.str w)) (.o (.lst (T ws))) = some (decide (w ∈ ws)) := by
    show (if (D.str w).pure && D.pures (T ws) && decide ((D.str w).depth ≤ 50) && decide (D.depths (T ws) ≤ 50) then some (decide (D.str w ∈ T ws)) else none) = _
    rw [pures_T, depths_T]
    simp [D.pure, D.depth]
  unfold oNin; rw [h]; rfl
@[simp] theorem in_0 (g : G) (w : List Nat) : oIn g (.d (.str w)) (.o (.lst [])) = some (.d (.bl false)) := by
  have := in_T g w []; simpa using this
@[simp] theorem nin_0 (g : G) (w : List Nat) : oNin g (.d (.str w)) (.o (.lst [])) = some (.d (.bl true)) := by
  have := nin_T g w []; simpa using this
theorem rsv_T (n : Nat) (g : G) : ∀ ws : List (List Nat), (T ws).mapM (rsv n g) = some (T ws)
  | [] => rfl
  | w :: ws => by
    have h : rsv n g (.str w) = some (.str w) := by cases n <;> rfl
    show ((D.str w) :: T ws).mapM (rsv n g) = _
    rw [List.mapM_cons, h, rsv_T n g ws]; rfl
theorem rsvC_T (g : G) (ws : List (List Nat)) : rsvC g (.o (.lst (T ws))) = some (.rol (T ws)) := by
  show ((T ws).mapM (rsv 6 g)).map D.rol = _
  rw [rsv_T]; rfl
theorem T_inj {a b : List (List Nat)} : (D.rol (T a) = D.rol (T b)) ↔ a = b := by
  constructor
  · intro h
    have h' : T a = T b := D.rol.inj h
    exact (List.map_inj_right fun _ _ e => D.str.inj e).mp h'
  · rintro rfl; rfl
theorem eqC_T (g : G) (a b : List (List Nat)) : eqC g (.o (.lst (T a))) (.o (.lst (T b))) = some (decide (a = b)) := by
  have h0 : eqC g (.o (.lst (T a))) (.o (.lst (T b))) = match rsvC g (.o (.lst (T a))), rsvC g (.o (.lst (T b))) with
    | some x, some y => if x.depth ≤ 60 ∧ y.depth ≤ 60 then some (decide (x = y)) else none
    | _, _ => none := rfl
  rw [h0, rsvC_T, rsvC_T]
  have d : ∀ c, (D.rol (T c)).depth = 1 := fun c => by show D.depths (T c) + 1 = 1; rw [depths_T]
  simp only [d]
  rw [if_pos ⟨by omega, by omega⟩]
  congr 1
  exact decide_eq_decide.mpr T_inj
@[simp] theorem eq_T (g : G) (a b : List (List Nat)) : oEq g (.o (.lst (a.map D.str))) (.o (.lst (b.map D.str))) = some (.d (.bl (decide (a = b)))) := by
  unfold oEq; rw [eqC_T]; rfl
@[simp] theorem ne_T (g : G) (a b : List (List Nat)) : oNe g (.o (.lst (a.map D.str))) (.o (.lst (b.map D.str))) = some (.d (.bl (!decide (a = b)))) := by
  unfold oNe; rw [eqC_T]; rfl
@[simp] theorem eq_T0 (g : G) (a : List (List Nat)) : oEq g (.o (.lst (a.map D.str))) (.o (.lst [])) = some (.d (.bl (decide (a = [])))) := eq_T g a []
@[simp] theorem ne_T0 (g : G) (a : List (List Nat)) : oNe g (.o (.lst (a.map D.str))) (.o (.lst [])) = some (.d (.bl (!decide (a = [])))) := ne_T g a []
@[simp] theorem textsD_T : ∀ ws : List (List Nat), textsD (ws.map D.str) = some ws
  | [] => rfl
  | w :: ws => by show (textsD (ws.map D.str)).map (w :: ·) = _; rw [textsD_T ws]; rfl
@[simp] theorem boolsD_B : ∀ bs : List Bool, boolsD (bs.map D.bl) = some bs
  | [] => rfl
  | w :: ws => by show (boolsD (ws.map D.bl)).map (w :: ·) = _; rw [boolsD_B ws]; rfl
@[simp] theorem lookS_lendS (g : G) (s : Sl) : lookS g (lendS s) = lookS g s := by cases s <;> rfl
theorem lookS_new {g : G} {s : Sl} {c : C} {q : Nat} {o : O} (h : lookS g s = some c) (hq : g q = none) : lookS (g.upd q o) s = some c := by
  cases s with
  | own o' => exact h
  | bor o' => exact h
  | d x =>
    cases x with
    | ref a =>
      have h' : (g a).map C.o = some c := h
      show ((g.upd q o) a).map C.o = some c
      rw [G.upd_ne]; exact h'
      rintro rfl; rw [hq] at h'; cases h'
    | _ => exact h
theorem lookS_upd {g : G} {s : Sl} {c : C} {q : Nat} {o : O} (h : lookS g s = some c) (hq : ∀ o', g q = some o' → c ≠ .o o') : lookS (g.upd q o) s = some c := by
  cases s with
  | own o' => exact h
  | bor o' => exact h
  | d x =>
    cases x with
    | ref a =>
      have h' : (g a).map C.o = some c := h
      show ((g.upd q o) a).map C.o = some c
      rw [G.upd_ne]; exact h'
      rintro rfl
      obtain ⟨o', e1, rfl⟩ := Option.map_eq_some_iff.mp h'
      exact hq o' e1 rfl
    | _ => exact h
theorem joinL_single : ∀ cs : List Nat, joinL [] (cs.map fun c => [c]) = cs
  | [] => rfl
  | [c] => rfl
  | c :: d :: cs => by
    show [c] ++ [] ++ joinL [] ((d :: cs).map fun c => [c]) = _
    rw [joinL_single (d :: cs)]; rfl
theorem sum_single : ∀ cs : List Nat, ((cs.map fun c => [c]).map List.length).sum = cs.length
  | [] => rfl
  | c :: cs => by
    show 1 + ((cs.map fun c => [c]).map List.length).sum = _
    rw [sum_single cs, List.length_cons]; omega
@[simp high] theorem join_single (g : G) (cs : List Nat) (h : cs.length ≤ most) : oJoin [] g (.o (.lst (cs.map fun c => D.str [c]))) = some (.d (.str cs)) := by
  have e : cs.map (fun c => D.str [c]) = (cs.map fun c => [c]).map D.str := by rw [List.map_map]; rfl
  rw [e, o_join, textsD_T]
  simp only [Option.bind_some, sum_single, joinL_single, List.length_nil, Nat.mul_zero, Nat.add_zero]
  rw [if_pos h]
@[simp] theorem join_T (g : G) (s : List Nat) (ws : List (List Nat)) : oJoin s g (.o (.lst (ws.map D.str))) = if (ws.map List.length).sum + ws.length * s.length ≤ most then some (.d (.str (joinL s ws))) else none := by
  rw [o_join, textsD_T]; rfl
@[simp] theorem o_mulL {g : G} {i j : Int} (h : small i) : oMul g (.d (.int i)) (.d (.int j)) = some (.d (.int (i * j))) := (o_mul g i j).trans (if_pos (.inl h))
@[simp] theorem o_mulR {g : G} {i j : Int} (h : small j) : oMul g (.d (.int i)) (.d (.int j)) = some (.d (.int (i * j))) := (o_mul g i j).trans (if_pos (.inr h))
@[simp] theorem forQ_nil {tg : WG} {b : WS} {Dn : Ends} {ok : Psi → G → Prop} {ψ : Psi} {g : G} : forQ tg b Dn ok [] ψ g = Dn.nx ψ g := nrfl rfl
@[simp] theorem forL_nil {tg : WG} {b : WS} {Dn : Ends} {ok : Psi → G → Prop} {ψ : Psi} {g : G} : forL tg b Dn ok [] ψ g = Dn.nx ψ g := nrfl rfl
theorem look_kept {g g' : G} {s : Sl} {xs : List D} (h : lookS g s = some (.o (.lst xs))) (k : ∀ a, g a = some (.lst xs) → g' a = some (.lst xs)) : lookS g' s = some (.o (.lst xs)) := by
  cases s with
  | own o => exact h
  | bor o => exact h
  | d x =>
    cases x with
    | ref a =>
      have h' : (g a).map C.o = some (.o (.lst xs)) := h
      obtain ⟨o, e1, e2⟩ := Option.map_eq_some_iff.mp h'
      cases e2
      show (g' a).map C.o = _
      rw [k a e1]; rfl
    | _ => exact h
theorem look_mid {g g' : G} {s : Sl} {xs : List D} {q : Nat} {o : O} (h : lookS g s = some (.o (.lst xs))) (hq : g q = some o) (ho : o ≠ .lst xs) (k : ∀ a u, g a = some u → a ≠ q → g' a = some u) : lookS g' s = some (.o (.lst xs)) :=
  look_kept h fun a e => k a _ e fun z => by rw [z, hq] at e; exact ho (Option.some.inj e)
theorem lend_some (s : Sl) : lend (some s) = some (lendS s) := by cases s <;> rfl
theorem lend_none : lend none = none := rfl
end Pd
set_option Elab.async false
set_option linter.all false
set_option maxRecDepth 100000
set_option maxHeartbeats 1000000
namespace Pd
open PySem PySem.Spec PyProof.Rows L2
section
variable {X : Cx} {tb : Tb} {e a b c o : Expr} {es : List Expr} {te ta tv to u : WE} {ts : WD} {pos apos : Pos}
/-! ### attributes, items stored -/
theorem RFs.put {K : PySem.W.Frag} {H H' : Hp} (kp : Keep H H') {f : String} {d : D} {v : V} (rd : RV K H' d v) : ∀ {fs : List (String × D)} {vs : List (Str × V)}, RFs K H fs vs → RFs K H' (Pd.putF f d fs) (L2.putF (Str.ofString f) v vs)
  | _, _, .nil => .cons ⟨rfl, rd⟩ .nil
  | p :: fs, q :: vs, .cons r t => by
    obtain ⟨h, x⟩ := p
    obtain ⟨g, y⟩ := q
    obtain ⟨r1, r2⟩ := r
    have r1' : Str.ofString h = g := r1
    subst r1'
    show RFs K H' (if f = h then (h, d) :: fs else (h, x) :: Pd.putF f d fs) (if Str.ofString h = Str.ofString f then (Str.ofString h, v) :: vs else (Str.ofString h, y) :: L2.putF (Str.ofString f) v vs)
    by_cases e : f = h
    · subst e
      rw [if_pos rfl, if_pos rfl]
      exact .cons ⟨rfl, rd⟩ (L2.Paired.mapP t fun _ _ z => ⟨z.1, z.2.keep kp⟩)
    · rw [if_neg e, if_neg fun z => e (ofString_inj z).symm]
      exact .cons ⟨rfl, r2.keep kp⟩ (RFs.put kp rd t)
theorem RFs.length {K : PySem.W.Frag} {H : Hp} {fs : List (String × D)} {vs : List (Str × V)} (h : RFs K H fs vs) : fs.length = vs.length := paired_len h
theorem ds_fld {x : Str} {p : Pos} (cn f : String) (I : InsOk X.K tb cn x) (ho : DE X tb o to) (hv : DE X tb e tv) (hx : Str.ofString f = x := by rfl) (hs : swapsWith e (some (.Attribute o x p)) pos.line X.env = pure false := by rfl) :
    DSt X tb (.Assign [.Attribute o x p] e pos) [] (sFld cn f to tv) := fun W tk => by
  obtain ⟨t1, h1, h2⟩ := hv W tk
  obtain ⟨t2, h3, h4⟩ := ho W tk
  refine ⟨_, ps_fld h3 h1 hs, fun Dn E F T ψ g σ H R ex ou q => h2 Dn.ex F T ψ g σ H _ _ R ex.now q fun r ψ1 g1 T1 v H1 q1 rr R1 k1 => ?_⟩
  obtain ⟨d, ψ2, g2, q2, rd, R2⟩ := R1.toD rr q1
  refine h4 Dn.ex F T ψ2 g2 σ H1 _ _ R2 (ex.now.on k1) q2 fun r' ψ3 g3 T3 w H3 q3 rr3 R3 k3 => ?_
  obtain ⟨y, ψ4, g4, q4, ry, R4⟩ := R3.toD rr3 q3
  cases y with
  | ref a =>
    cases ry
    have q4' : (match g4 a with | some (.ins c' fs) => c' = cn ∧ fs.length < 900 ∧ Dn.nx ψ4 (g4.upd a (.ins cn (Pd.putF f d fs))) | _ => False) := q4
    split at q4'
    · rename_i c' fs e1
      obtain ⟨rfl, hl, q5⟩ := q4'
      obtain ⟨C, dx, vfs, e2, e3, e4⟩ := R4.gl a _ e1
      refine ⟨a, C, dx, vfs, rfl, e3, (I.is C e2).1, (I.is C e2).2, by rw [← RFs.length e4]; omega, ?_⟩
      have kw : Keep H3 (L2.upd H3 a (.ins C dx (L2.putF x v vfs))) := Keep.upd (by rw [e3]; trivial)
      obtain ⟨R5, k5⟩ := R4.writeG (o' := .ins c' (Pd.putF f d fs)) (u := .ins C dx (L2.putF x v vfs)) e1 ⟨C, dx, _, e2, upd_same, by rw [← hx]; exact RFs.put (by rw [hx]; exact kw) ((rd.keep k3).keep (by rw [hx]; exact kw)) e4⟩
      exact ou.nx ψ4 _ σ _ q5 R5 ((k1.trans k3).trans k5) fun _ _ => rfl
    · exact q4'.elim
  | _ => exact q4.elim
theorem PSet.or {r r' : L2.TSet} (h : PSet X r) (h' : PSet X r') : PSet X (fun o i v H Q => r o i v H Q ∨ r' o i v H Q) := by
  intro pins s σ H o i v ov iv u Q I ro ri rv q
  rcases q with q | q
  · exact h pins s σ H o i v ov iv u Q I ro ri rv q
  · exact h' pins s σ H o i v ov iv u Q I ro ri rv q
def rSetAll (X : Cx) : L2.TSet := fun o i v H Q => rSetL o i v H Q ∨ (rSetK o i v H Q ∨ rSetN X o i v H Q)
theorem set_all (hu : X.A.units + 128 < cLine) : PSet X (rSetAll X) := PSet.or set_list (PSet.or (set_K (by omega)) (set_N (by omega)))
theorem putK_le : ∀ (kvs : List (D × D)) (k v : D), (Pd.putK kvs k v).length ≤ kvs.length + 1
  | [], _, _ => Nat.le_refl _
  | p :: r, k, v => by
    unfold Pd.putK
    split
    · exact Nat.le_succ _
    · exact Nat.succ_le_succ (putK_le r k v)
theorem ok_putIx {H : Hp} {ad : Addr} {ob ob' : O} {i x : D} {iv xv : V} {Q : Hp → Prop} (ro : RO (bx X tb) H ob ad) (ri : RV X.K H i iv) (rx : RV X.K H x xv) (e : putIx ob i x = some ob') (k : ∀ w, RO (bx X tb) (L2.upd H ad w) ob' ad → Q (L2.upd H ad w)) :
    rSetAll X (.ref ad) iv xv H Q := by
  have kp : ∀ w, Keep H (L2.upd H ad w) := fun w => Keep.upd ro.soft
  unfold putIx at e
  split at e
  · obtain ⟨j, e1, rfl⟩ := Option.map_eq_some_iff.mp e
    obtain ⟨vs, h1, h2⟩ := ro
    cases ri
    rw [idxOf_ixN] at e1
    exact .inl ⟨ad, vs, _, j, rfl, rfl, h1, by rw [← h2.length]; exact e1, k _ ⟨_, upd_same, RVs.set (rx.keep (kp _)) j (h2.keep (kp _))⟩⟩
  · rename_i t kvs
    split at e
    · rename_i hk
      cases e
      cases t with
      | false =>
        obtain ⟨q, eq⟩ := keyOk_flat hk.1
        have hx := flat_V ri eq
        subst hx
        obtain ⟨ks, h1, h2, h3⟩ := ro
        refine .inr (.inl ⟨ad, _, rfl, DPut.k h1 (by rw [← paired_len h3, ← most_eq]; exact hk.2), k _ ⟨_, upd_same, nodup_put _ _ _ h2, KR.put (kp _) ri rx h3 h2⟩⟩)
      | true =>
        obtain ⟨h1, h2, xs, rfl⟩ := keyOk_nest hk.1
        obtain ⟨nkk, en⟩ := nk_some _ h1
        obtain ⟨p, rfl⟩ : ∃ p, iv = .ref p := by cases ri with | tup a b => exact ⟨_, rfl⟩
        rcases ro with ⟨rfl, h3⟩ | ⟨ys, h3, h4, h5, h6, h7⟩
        · refine .inr (.inr ⟨p, ad, _, nkk, [], rfl, rfl, .inr ⟨rfl, h3⟩, ri, en, h2, by show 0 < sizeLine; decide, fun u ru sm => k _ (.inr ⟨_, upd_same, sm, nodup_stored _ _ _ _ List.nodup_nil, ?_, NR.put (kp _) en h2 ri rx ru .nil List.nodup_nil⟩)⟩)
          show 1 ≤ sizeLine
          decide
        · refine .inr (.inr ⟨p, ad, _, nkk, ys, rfl, rfl, .inl (NR.nest h3 h4 h5 h6 h7), ri, en, h2, by rw [← paired_len h7, ← most_eq]; exact hk.2, fun u ru sm => ?_⟩)
          have z := NR.put (kp (dN X.prog X.w ad (storedH ys nkk p u))) en h2 ri rx ru h7 h5
          refine k _ (.inr ⟨_, upd_same, sm, nodup_stored _ _ _ _ h5, ?_, z⟩)
          rw [← paired_len z]
          have := putK_le kvs (.tup xs) x
          have h9 := hk.2
          rw [most_eq] at h9
          omega
    · cases e
  · cases e
theorem ds_setIx {i : Expr} {ti : WE} {p : Pos} (hu : X.A.units + 128 < cLine) (ho : DE X tb o to) (hi : DE X tb i ti) (hv : DE X tb e tv) (hs : swapsWithSole [.Subscript o i p] e pos.line X.env = pure false := by rfl) (hw : swappedStores [.Subscript o i p] e X.env = pure none := by rfl)
    (h1 : (assignEach [.Subscript o i p] X.env).map (·.2) = [assign (.Subscript o i p) X.env] := by rfl)
    (ha : ∀ v, assign (.Subscript o i p) X.env v = (do
      let ov ← holding [v] (eval o X.env)
      let iv ← holding [v, ov] (eval i X.env)
      standAt p
      holding [v, ov, iv] (setItem ov iv v)
      release [v, ov, iv] []) := by intro _; rfl) : DSt X tb (.Assign [.Subscript o i p] e pos) [] (sSetIx putIx to ti tv) := fun W tk => by
  obtain ⟨t1, h2, h3⟩ := hv W tk
  obtain ⟨t2, h4, h5⟩ := ho W tk
  obtain ⟨t3, h6, h7⟩ := hi W tk
  refine ⟨_, ps_asg h2 (pg_sub h4 h6 (set_all hu) ha) hs hw h1, fun Dn E F T ψ g σ H R ex ou q => h3 Dn.ex F T ψ g σ H _ _ R ex.now q fun r ψ1 g1 T1 v H1 q1 rr R1 k1 => ?_⟩
  obtain ⟨d, ψ2, g2, q2, rd, R2⟩ := R1.toD rr q1
  refine h5 Dn.ex F T ψ2 g2 σ H1 _ _ R2 (ex.now.on k1) q2 fun r3 ψ3 g3 T3 w H3 q3 rr3 R3 k3 => ?_
  obtain ⟨T', rfl⟩ := id rr3.suffix
  refine h7 Dn.ex F (T' ++ T) ψ3 g3 σ H3 _ _ R3 (ex.now.more (k1.trans k3)) q3 fun r4 ψ4 g4 T4 z H4 q4 rr4 R4 k4 => ?_
  obtain ⟨iD, ψ5, g5, q5, ri, R5⟩ := R4.toD rr4 q4
  split at q5
  · rename_i ob e1
    obtain ⟨ob', e2, q6⟩ := optQ_inv q5
    obtain ⟨ad, rfl, ro, wq⟩ := rel_wr R5 (rr3.keep k4) e1 q6
    refine ok_putIx ro ri ((rd.keep k3).keep k4) e2 fun w ho' => ?_
    obtain ⟨ψ6, g6, q7, R6, k6⟩ := wq w ho'
    exact ou.nx ψ6 g6 σ _ q7 R6 (((k1.trans k3).trans k4).trans k6) fun _ _ => rfl
  · exact q5.elim
end

/-! ### a def keeps its promise -/
section
variable {P : Program} {w : World} {K : PySem.W.Frag} {mg : Str → Option Value} {base : Heap} {tb : Tb}
theorem own_none : ∀ (ψ : Psi) (σ : L2.St), (∀ (i : Nat) (s : Sl), ψ[i]? = some (some s) → ∀ o, s ≠ .own o) → ownL ψ σ = []
  | [], _, _ => rfl
  | _ :: _, [], _ => rfl
  | s :: ψ, v :: σ, h => by
    show own1 s v ++ ownL ψ σ = []
    rw [own_none ψ σ fun i z e => h (i + 1) z (by simpa using e), List.append_nil]
    cases s with
    | none => rfl
    | some s =>
      cases s with
      | own o => exact absurd rfl (h 0 _ rfl o)
      | d x => rfl
      | bor o => rfl
theorem paired_get {α β : Type} {Rr : α → β → Prop} : ∀ {xs : List α} {ys : List β} {i : Nat} {x : α}, Paired Rr xs ys → xs[i]? = some x → ∃ y, ys[i]? = some y ∧ Rr x y
  | _, _, _, _, .nil, e => by simp at e
  | _, _, 0, _, .cons r _, e => by simp at e; subst e; exact ⟨_, rfl, r⟩
  | _, _, i + 1, x, .cons _ t, e => by
    obtain ⟨v, h1, h2⟩ := paired_get (i := i) (x := x) t (by simpa using e)
    exact ⟨v, by simpa using h1, h2⟩
theorem begin_get {ss : List Sl} {n i : Nat} {s : Sl} (h : (begin_ ss n)[i]? = some (some s)) : ss[i]? = some s := by
  unfold begin_ at h
  by_cases hi : i < ss.length
  · rw [List.getElem?_append_left (by simpa using hi), List.getElem?_map] at h
    obtain ⟨x, e1, e2⟩ := Option.map_eq_some_iff.mp h
    cases e2; exact e1
  · rw [List.getElem?_append_right (by simpa using hi), List.getElem?_replicate] at h
    split at h <;> cases h
theorem rel_begin {B : Bx} {ss : List Sl} {vs : List V} {N : List Str} {g : G} {F : Own} {H : Hp} (pr : Paired (SlRel B F H) ss vs) (no : ∀ s ∈ ss, ∀ o, s ≠ .own o) (gl : Glob B g H) (ow : Owns B g F H) : Rel B F (begin_ ss (N.length - ss.length)) g [] (L2.start N vs) H := by
  have hl := paired_len pr
  refine ⟨?_, fun i s h => ?_, gl, ?_⟩
  · unfold begin_ L2.start
    rw [List.length_append, List.length_append, List.length_map, List.length_map, List.length_replicate, List.length_replicate, hl]
  · have e := begin_get h
    obtain ⟨v, h1, h2⟩ := paired_get pr e
    refine ⟨v, ?_, h2⟩
    unfold L2.start
    rw [List.getElem?_append_left (by rw [List.length_map]; exact (List.getElem?_eq_some_iff.mp h1).1), List.getElem?_map, h1]
    rfl
  · rw [own_none _ _ fun i s h => no s (List.mem_of_getElem? (begin_get h))]
    exact ow
theorem fn_d {x qual : Str} {st : Stmt} {f : Addr} {fd : FuncData} {N prs : List Str} {k : Nat} {φ : SpD} {bd : WS} (Fd : Fun K x qual st f fd) (Sc : FnScope N prs (defScope st)) (hlen : ∀ ss g E Q, φ ss g E Q → ss.length = prs.length)
    (hd : ∀ (cdv : Value) (A : Around) (outer : List Env) (s : Shared) (H : Hp) (E : XK), Room k (A.deeper (envOfC qual (defScope st) s.heap.objs.size f cdv)) → ∃ Sw, DSs (cxOf (L2.CX P w) P w K mg base N qual (defScope st) f cdv A outer s H E) tb (defBody st) Sw bd)
    (kp : Keeps φ bd N.length) : FnOk P w K mg base (L2.CX P w) (k + 1) f fd prs (lift ⟨P, w, K, tb.cl⟩ tb.ec φ) := by
  refine Fd.okX Sc (fun vs H Q E h => ?_) fun cdv A outer s H vs Q E hr h => ?_
  · obtain ⟨ss, g, F, h1, _, _, _, h2⟩ := h
    rw [← paired_len h1]; exact hlen _ _ _ _ h2
  · obtain ⟨ss, g, F, pr, no, gl, ow, q⟩ := h
    obtain ⟨Sw, hd1⟩ := hd cdv A outer s H E hr
    obtain ⟨t0, h1, h2⟩ := hd1 (fun cls d _ H' => E cls d H') (takes_of rfl rfl rfl rfl)
    refine ⟨t0, h1, h2 (endsOf (fun x g' => ∀ cls dx H', Glob ⟨P, w, K, tb.cl⟩ g' H' → Owns ⟨P, w, K, tb.cl⟩ g' F H' → RX tb.ec K x cls dx H' → Keep H H' → E cls dx H') (fun r g' => ∀ v H', RetR ⟨P, w, K, tb.cl⟩ F r v g' H' → Keep H H' → Q v H'))
      { nx := fun _ H' => Q .non H', rt := Q } F [] _ g _ H (rel_begin pr no gl ow) (fun σ' _ x ψ g' H' cls dx e R rx kk => ?_) ⟨fun ψ1 g1 σ1 H1 q1 R1 k1 _ => ?_, fun r g1 v H1 q1 rt k1 => q1 v H1 rt k1, fun _ _ _ _ z => z.elim, fun _ _ _ _ z => z.elim⟩ (kp ss g _ _ q)⟩
    · exact e cls dx H' R.gl (R.ow.sub ((List.sublist_append_right _ _).trans (List.sublist_append_right _ _))) rx kk
    · obtain ⟨g2, hle, q2⟩ := q1
      exact q2 .non H1 ⟨.non, (R1.le hle).gl, (R1.le hle).ow.sub ((List.sublist_append_right _ _).trans (List.sublist_append_right _ _))⟩ k1
theorem Sg.mono {α : Type} (s : Sg α) : Mono s.wp := fun ss g A A' C C' h h' ⟨x, a, b, c⟩ => ⟨x, a, fun r g' z => h' _ _ (b r g' z), fun z g' y => h _ _ (c z g' y)⟩
theorem passes_cx {N : List Str} {qual : Str} {sc : Scope} {f : Addr} {cd : Value} {A : Around} {outer : List Env} {s : Shared} {H : Hp} {E : XK} {CX : CXT} :
    PassesOwn (model (cxOf CX P w K mg base N qual sc f cd A outer s H E).prog (cxOf CX P w K mg base N qual sc f cd A outer s H E).w) (cxOf CX P w K mg base N qual sc f cd A outer s H E).A (cxOf CX P w K mg base N qual sc f cd A outer s H E).env (cxOf CX P w K mg base N qual sc f cd A outer s H E).xe := passes_of rfl
theorem fn_no {f : Addr} {fd : FuncData} {prs : List Str} {k : Nat} {B : Bx} {ec : String → Option Addr} : FnOk P w K mg base (L2.CX P w) k f fd prs (lift B ec fun _ _ _ _ => False) :=
  ⟨fun _ _ _ _ h => let ⟨_, _, _, _, _, _, _, z⟩ := h; z.elim, fun _ _ _ _ _ _ _ _ _ _ _ _ _ h => let ⟨_, _, _, _, _, _, _, z⟩ := h; z.elim⟩
end
end Pd
set_option Elab.async false
set_option linter.all false
set_option maxRecDepth 100000
set_option maxHeartbeats 1000000
namespace Pd
open PySem PySem.Spec PyProof.Rows L2
/-! ### an own class's __init__ over that of ValueError -/
/-- the class through whose name __init__ is called -/
structure BaseX (K : PySem.W.Frag) (mg : Str → Option Value) (x : Str) : Prop where
  ex : ∃ (C : Addr) (mc : Value), mg x = some (.ref C) ∧ PySem.W.specialIn K (.ref C) "__getattribute__" = some (some (.builtin "type.__getattribute__")) ∧ PySem.W.readsIn K C mc = true ∧
    PySem.W.findCls K (.ref C) mc "__init__" = some (.val (.builtin "ValueError.__init__"))
section
variable {X : Cx} {tb : Tb} {e a b c o : Expr} {es : List Expr} {te ta tv to u : WE} {ts : WD} {pos apos p p1 p2 : Pos} {x : Str}
theorem pc_initB {t0 : TA} {pl : Sem Bool} (bb : BaseX X.K X.mg x) (hg : Gl X x) (nd : (x == ("__debug__" : Str)) = false) (ha : PA X (e :: es) t0)
    (ev : eval (.Call (.Attribute (.Name x p1) "__init__" p2) (e :: es) [] pos) X.env = (do let ov ← eval (.Name x p1) X.env; standAt p2.atName; let (f, first) ← holding [ov] (getMethod ov "__init__" pl); callWith pos f first (backTo pos (starEach (e :: es) X.env)) (backToKw pos (keywordEach [] X.env))))
    (st : starEach (e :: es) X.env = (false, eval e X.env) :: starEach es X.env) (pn : (backTo pos (starEach es X.env)).any (·.1) = false) : PE X (.Call (.Attribute (.Name x p1) "__init__" p2) (e :: es) [] pos) (tVeI X.K t0) := by
  obtain ⟨C, mc, mx, ga, rd, fi⟩ := bb.ex
  refine ⟨fun pins s σ H Q I hw => PySem.W.methodCall_KW (ld_glob I hg mx (PySem.W.method_cls I.kIn ga (PySem.W.cls_value I.kIn rd fi (by decide +kernel) ?_)) nd) ev⟩
  show wpAny _ _ (callWith pos (Value.builtin "ValueError.__init__") [] (backTo pos (starEach (e :: es) X.env)) []) _ _ _
  refine PyProof.Rows.callWith_method1 (thn (ha.run pos pins _ σ H _ (I.tok _) hw) fun us s1 ⟨vs, H1, I1, rv, ad, C', ws, ew, hl, T, ea, q⟩ => ?_) st pn
  subst ew
  cases rv with
  | @cons _ u0 _ ur ra rr =>
    cases (show u0 = Value.ref ad from ra)
    refine oinit_ok T I1 ea ?_ fun s' J => ⟨.non, H1, J, rfl, q⟩
    rw [← Paired.length rr, sizeLine_eq]
    omega
/-- a promise of such an __init__: the arguments are the fields -/
def spX (C : Addr) (ns : List Str) : Sp := fun vs H Q _ => ∃ (ad : Addr) (ws : List V), vs = .ref ad :: ws ∧ ws.length = ns.length ∧ H ad = some (exo ad C none) ∧
  ∀ (d : Addr) (H2 : Hp), H d = none → d ≠ ad → H2 ad = some (exo ad C (some d)) → H2 d = some (exd d (ns.zip ws).reverse) → (∀ b, b ≠ ad → b ≠ d → H2 b = H b) → Q .non H2
section
variable {P : Program} {w : World} {K : PySem.W.Frag} {mg : Str → Option Value} {base : Heap} {CX : CXT}
abbrev tI (K : PySem.W.Frag) (m : Str) : TS := tDrop (tVeI K (tCons (tVar 0) (tCons (tC (.str m)) tNil)))
theorem ok_init1 {qn x n1 f1 m : Str} {st : Stmt} {f C : Addr} {fd : FuncData} {k : Nat} (Fd : Fun K x qn st f fd) (Sc : FnScope ["self", n1] ["self", n1] (defScope st)) (T : OexC K C) (no1 : PySem.W.findIn K (.ref C) f1 = some none)
    (bd : ∀ (cdv : Value) (A : Around) (outer : List Env) (s : Shared) (H : Hp) (E : XK), PSs (cxOf (L2.CX P w) P w K mg base ["self", n1] qn (defScope st) f cdv A outer s H E) (defBody st) (tSeq (tI K m) (tOst K f1 (tVar 0) (tVar 1)))) :
    FnOk P w K mg base (L2.CX P w) (k + 1) f fd ["self", n1] (spX C [f1]) := by
  refine Fd.okX Sc (fun vs H Q E h => ?_) fun cdv A outer s H vs Q E hr h => ⟨_, bd cdv A outer s H E, ?_⟩
  · obtain ⟨ad, ws, rfl, hl, _⟩ := h
    simp [hl]
  · obtain ⟨ad, ws, rfl, hl, ea, kq⟩ := h
    match ws, hl with
    | [y], _ =>
      refine ⟨_, rfl, ad, C, [.str m], rfl, by show 1 ≤ 1000; decide, T, ea, _, rfl, _, rfl, ad, C, rfl, T, no1, .inl ⟨ea, fun dx hdx ne => ?_⟩⟩
      refine kq dx _ hdx ne upd_same (by rw [upd_ne ne, upd_same]; rfl) fun b hb hd => by rw [upd_ne hb, upd_ne hd]
theorem ok_init2 {qn x n1 n2 f1 f2 m : Str} {st : Stmt} {f C : Addr} {fd : FuncData} {k : Nat} (Fd : Fun K x qn st f fd) (Sc : FnScope ["self", n1, n2] ["self", n1, n2] (defScope st)) (T : OexC K C) (no1 : PySem.W.findIn K (.ref C) f1 = some none) (no2 : PySem.W.findIn K (.ref C) f2 = some none)
    (bd : ∀ (cdv : Value) (A : Around) (outer : List Env) (s : Shared) (H : Hp) (E : XK), PSs (cxOf (L2.CX P w) P w K mg base ["self", n1, n2] qn (defScope st) f cdv A outer s H E) (defBody st) (tSeq (tI K m) (tSeq (tOst K f1 (tVar 0) (tVar 1)) (tOst K f2 (tVar 0) (tVar 2))))) :
    FnOk P w K mg base (L2.CX P w) (k + 1) f fd ["self", n1, n2] (spX C [f1, f2]) := by
  refine Fd.okX Sc (fun vs H Q E h => ?_) fun cdv A outer s H vs Q E hr h => ⟨_, bd cdv A outer s H E, ?_⟩
  · obtain ⟨ad, ws, rfl, hl, _⟩ := h
    simp [hl]
  · obtain ⟨ad, ws, rfl, hl, ea, kq⟩ := h
    match ws, hl with
    | [y, z], _ =>
      refine ⟨_, rfl, ad, C, [.str m], rfl, by show 1 ≤ 1000; decide, T, ea, _, rfl, _, rfl, ad, C, rfl, T, no1, .inl ⟨ea, fun dx hdx ne => ?_⟩⟩
      refine ⟨_, rfl, _, rfl, ad, C, rfl, T, no2, .inr ⟨dx, [(f1, y)], upd_same, by rw [upd_ne ne, upd_same], by show 1 ≤ 900; decide, ?_⟩⟩
      refine kq dx _ hdx ne (by rw [upd_ne (Ne.symm ne), upd_same]) (by rw [upd_same]; rfl) fun b hb hd => by rw [upd_ne hd, upd_ne hb, upd_ne hd]
end
theorem lookup_mem {α : Type} : ∀ {l : List (Str × α)}, (l.map (·.1)).Nodup → ∀ {k : Str} {v : α}, l.lookup k = some v ↔ (k, v) ∈ l
  | [], _, k, v => by simp
  | (k', v') :: l, nd, k, v => by
    rw [List.map_cons, List.nodup_cons] at nd
    rw [List.lookup_cons]
    by_cases h : k = k'
    · subst h
      rw [show (k == k) = true from by simp]
      constructor
      · intro e; cases e; exact List.Mem.head _
      · intro e
        rcases List.mem_cons.mp e with z | z
        · cases z; rfl
        · exact absurd (List.mem_map.mpr ⟨_, z, rfl⟩) nd.1
    · rw [show (k == k') = false from beq_eq_false_iff_ne.mpr h]
      simp only [List.mem_cons, Prod.mk.injEq, h, false_and, false_or]
      exact lookup_mem nd.2
theorem lookup_rev {α : Type} {l : List (Str × α)} (nd : (l.map (·.1)).Nodup) {k : Str} {v : α} (h : l.lookup k = some v) : l.reverse.lookup k = some v := by
  refine (lookup_mem (l := l.reverse) ?_).mpr (List.mem_reverse.mpr ((lookup_mem nd).mp h))
  rw [List.map_reverse]
  exact (List.reverse_perm _).nodup_iff.mpr nd
theorem rfs_zip {K : PySem.W.Frag} {H : Hp} : ∀ {fs : List String} {ds : List D} {vs : List V}, RVs K H ds vs → RFs K H (fs.zip ds) ((fs.map Str.ofString).zip vs)
  | [], _, _, _ => .nil
  | _ :: _, _, _, .nil => .nil
  | f :: fs, _, _, .cons r t => .cons ⟨rfl, r⟩ (rfs_zip t)
theorem zip_keys {α : Type} : ∀ {ks : List Str} {vs : List α}, (ks.zip vs).map (·.1) = ks.take vs.length
  | [], _ => by simp
  | _ :: _, [] => by simp
  | k :: ks, v :: vs => by simp [zip_keys]
/-- a class of exceptions whose __init__ takes its fields -/
structure CalX (P : Program) (w : World) (K : PySem.W.Frag) (mg : Str → Option Value) (base : Heap) (tb : Tb) (c : String) (x : Str) (fs : List String) (k : Nat) : Prop where
  ex : ∃ (C fI : Addr) (fd : FuncData) (ps : List Str), tb.ec c = some C ∧ mg x = some (.ref C) ∧ OexC K C ∧ PySem.W.findIn K (.ref C) "__init__" = some (some (.ref fI)) ∧ PySem.W.typeIn K (.ref fI) = some (.type "function") ∧
    FnOk P w K mg base (L2.CX P w) k fI fd ps (spX C (fs.map Str.ofString)) ∧ Binds K fd ps []
  nd : (fs.map Str.ofString).Nodup
theorem ds_raise (c : String) (fs : List String) {k : Nat} (Cc : CalX X.prog X.w X.K X.mg X.base tb c x fs k) (hr : Room (k + 1) X.A) (ha : DD X tb (e :: es) ts) (hl : (e :: es).length = fs.length := by rfl) (hg : Gl X x := by rfl) (hdb : (x == ("__debug__" : Str)) = false := by decide)
    (hc : X.calm = true := by rfl) (he : starEach (e :: es) X.env = (false, eval e X.env) :: starEach es X.env := by rfl) (hpl : (backTo pos (starEach es X.env)).any (·.1) = false := by rfl) (hfew : Nat.ble fs.length 1000 = true := by rfl) :
    DSt X tb (.Raise (some (.Call (.Name x p) (e :: es) [] pos)) none apos) [] (sRaise c fs ts) := fun W tk => by
  obtain ⟨C, fI, fd, prs, hec, mx, T, iC, ti, F1, bd⟩ := Cc.ex
  obtain ⟨t1, h1, h2⟩ := ha W tk
  refine ⟨_, ps_raise hc tk (pmk_oex (dvs := []) T iC ti F1 hr bd .nil (passes_call tk fun _ _ _ _ z => z.elim) hg mx h1 hdb he hpl), fun Dn E F T' ψ g σ H R ex ou q => h2 Dn.ex F T' ψ g σ H _ _ R ex.now q fun ds ψ1 g1 vs H1 q1 rs hn R1 k1 => ?_⟩
  have hlv : vs.length = fs.length := by rw [← rs.length, hn, hl]
  refine ⟨by rw [hlv]; exact Nat.le_of_ble_eq_true hfew, fun ad hn1 => ⟨ad, vs, by rw [List.append_nil], by rw [List.length_map, hlv], upd_same, fun d H2 hd hda e1 e2 oth => ⟨rfl, d, _, e1, e2, ?_, ?_⟩⟩⟩
  · rw [upd_ne hda] at hd; exact hd
  · rw [upd_ne hda] at hd
    have same : ∀ b u, H1 b = some u → L2.upd (del H2 ad) d (.xd ((fs.map Str.ofString).zip vs).reverse) b = some u := fun b u e => by
      have hb : b ≠ ad := fun z => by rw [z, hn1] at e; cases e
      have hb2 : b ≠ d := fun z => by rw [z, hd] at e; cases e
      rw [upd_ne hb2, del_ne hb, oth b hb hb2, upd_ne hb]; exact e
    have kw : Keep H1 (L2.upd (del H2 ad) d (.xd ((fs.map Str.ofString).zip vs).reverse)) := ⟨fun a _ h => same a _ h, fun a _ _ h => same a _ h, fun a _ _ h => same a _ h, fun a _ h => same a _ h⟩
    refine ex.now _ ψ1 g1 _ (.ref C) (some d) q1 (R1.move kw (fun a o e => ?_) fun p hp => ?_) ⟨⟨C, hec, rfl⟩, fun f v hf => ?_⟩ (k1.trans kw)
    · obtain ⟨u, e3, _⟩ := (R1.gl a o e).there
      rw [e3]; exact same a u e3
    · obtain ⟨u, e3, _⟩ := (R1.ow.1 p hp).1.there
      rw [e3]; exact same p.1 u e3
    · obtain ⟨u, e3, e4⟩ := (RFs.look (rfs_zip (fs := fs) rs)).1 v hf
      refine ⟨d, _, u, rfl, upd_same, lookup_rev ?_ e3, e4.keep kw⟩
      rw [zip_keys]
      exact Cc.nd.sublist (List.take_sublist _ _)
/-- a class of exceptions without fields -/
structure CalY (K : PySem.W.Frag) (mg : Str → Option Value) (tb : Tb) (c : String) (x : Str) : Prop where
  ex : ∃ (C : Addr), tb.ec c = some C ∧ PySem.W.excIn K C [.type "ValueError", .type "Exception", .type "BaseException", .type "object"] "ValueError.__new__" = true ∧ mg x = some (.ref C) ∧ PySem.W.keepIn K (.ref C) = true ∧
    PySem.W.subIn K (.ref C) (.type "BaseException") = some true ∧ PySem.W.typeIn K (.ref C) = some (.type "type")
theorem ds_raise0 (c : String) {m : Str} {j : Nat} {p3 : Pos} (Cc : CalY X.K X.mg tb c x) (hg : Gl X x := by rfl) (hdb : (x == ("__debug__" : Str)) = false := by decide) (hc : X.calm = true := by rfl) :
    DSt X tb (.Raise (some (.Call (.Name x p) [.Constant (.str m) j p3] [] pos)) none apos) [] (sRaise c [] dNil) := fun W tk => by
  obtain ⟨C, hec, q1, mx, kf, h1, h2⟩ := Cc.ex
  refine ⟨_, ps_raise hc tk (pmk_own PySem.F.excBase_ValueError q1 mx kf (raises_own h1 h2) hg hdb), fun Dn E F T ψ g σ H R ex ou q => ?_⟩
  exact ex.now _ ψ g H (.ref C) none q R ⟨⟨C, hec, rfl⟩, fun f v hf => nomatch hf⟩ (Keep.refl H)

/-! ### try -/
/-- which classes a clause takes: those named -/
structure ExM (K : PySem.W.Frag) (mg : Str → Option Value) (tb : Tb) (x : Str) (cs : List String) : Prop where
  ex : ∃ C, mg x = some (.ref C) ∧ ∀ s A, tb.ec s = some A → PySem.W.exmOne K (.ref A) (.ref C) = some (decide (s ∈ cs))
/-- what is told of the caught one in a suite -/
def DX (X : Cx) (tb : Tb) (i : Nat) (cs : List String) (e : Expr) (t : Pd.X → Option D) : Prop := ∀ (ad : Addr) (oe : Obj) (cls : Value) (d : Option Addr) (pn : List (Addr × Obj)), Zc cls d oe → (∃ vs, oe.data = .fields vs) →
  ∃ t0, PE (X.suite ad ((ad, oe) :: pn)) e t0 ∧ ∀ (x : Pd.X) (F T : Own) (ψ : Psi) (g : G) (σ : L2.St) (H : Hp) (y : D) (Q : VK), x.cls ∈ cs → RX tb.ec X.K x cls d H → σ[i]? = some (some (.ref ad)) → Rel (bx X tb) F ψ g T σ H → t x = some y →
    (∀ v H1, RV X.K H1 y v → Rel (bx X tb) F ψ g T σ H1 → Keep H H1 → Q v H1) → t0 σ H Q
def DXs (X : Cx) (tb : Tb) (i : Nat) (cs : List String) (es : List Expr) (t : Pd.X → Option (List D)) : Prop := ∀ (ad : Addr) (oe : Obj) (cls : Value) (d : Option Addr) (pn : List (Addr × Obj)), Zc cls d oe → (∃ vs, oe.data = .fields vs) →
  ∃ t0, PA (X.suite ad ((ad, oe) :: pn)) es t0 ∧ ∀ (x : Pd.X) (F T : Own) (ψ : Psi) (g : G) (σ : L2.St) (H : Hp) (ys : List D) (Q : List V → Hp → Prop), x.cls ∈ cs → RX tb.ec X.K x cls d H → σ[i]? = some (some (.ref ad)) → Rel (bx X tb) F ψ g T σ H → t x = some ys →
    (∀ vs H1, RVs X.K H1 ys vs → vs.length = es.length → Rel (bx X tb) F ψ g T σ H1 → Keep H H1 → Q vs H1) → t0 σ H Q
variable {i : Nat} {cs : List String}
theorem dx_const {e : Expr} {y : D} {v : V} (h : ∀ Y : Cx, PE Y e (tC v)) (rv : ∀ H, RV X.K H y v) : DX X tb i cs e (fun _ => some y) := fun ad oe cls d pn _ _ =>
  ⟨_, h _, fun x F T ψ g σ H y' Q _ _ _ R e k => by cases e; exact k _ H (rv H) R (Keep.refl H)⟩
theorem dx_str (s : List Nat) {x : Str} {j : Nat} (h : x = ⟨s.toArray⟩ := by decide +kernel) (hs : (s.all fun c => decide (c < 1114112)) = true := by rfl) : DX X tb i cs (.Constant (.str x) j pos) (fun _ => some (.str s)) :=
  dx_const (fun _ => pe_str) fun _ => by rw [h]; exact .str s fun c hc => of_decide_eq_true (List.all_eq_true.mp hs c hc)
theorem dx_non {j : Nat} : DX X tb i cs (.Constant .none j pos) (fun _ => some .non) := dx_const (fun _ => pe_non) fun _ => .non
theorem dx_bl {b : Bool} {j : Nat} : DX X tb i cs (.Constant (.bool b) j pos) (fun _ => some (.bl b)) := dx_const (fun _ => pe_bl) fun _ => .bl b
/-- the caught one's field -/
structure XFld (K : PySem.W.Frag) (tb : Tb) (cs : List String) (f : Str) : Prop where
  is : ∀ s A, s ∈ cs → tb.ec s = some A → XfC K A ∧ PySem.W.findIn K (.ref A) f = some none
theorem dx_fld (c : String) (f : String) {x n : Str} (Ff : XFld X.K tb [c] x) (hN : X.N[i]? = some n := by rfl) (hv : Vis X.env.scope n := by exact Or.inl rfl) (hx : Str.ofString f = x := by rfl) (hd : (n == ("__debug__" : Str)) = false := by decide)
    (hcd : (n == ("__classdict__" : Str)) = false := by decide) (hb : attributeBase (.Name n p) x X.env (eval (.Name n p) X.env) = eval (.Name n p) X.env := by rfl) : DX X tb i [c] (.Attribute (.Name n p) x pos) (fun z => z.fs.lookup f) := fun ad oe cls d pn hz hf => by
  cases hA : tb.ec c with
  | none =>
    refine ⟨_, ⟨fun _ _ _ _ _ _ z => (show False from z).elim⟩, fun z F T ψ g σ H y Q hm rx _ _ _ _ => ?_⟩
    obtain ⟨A, e1, _⟩ := rx.1
    rw [List.mem_singleton.mp hm, hA] at e1; cases e1
  | some A =>
    obtain ⟨XC, no⟩ := Ff.is c A (List.mem_singleton.mpr rfl) hA
    refine ⟨_, pe_xf (X := X) XC no hz hf (pe_var (i := i) hN hv hd hcd) hb, fun z F T ψ g σ H y Q hm rx hσ R e k => ?_⟩
    obtain ⟨⟨A', e1, rfl⟩, rf⟩ := rx
    rw [List.mem_singleton.mp hm, hA] at e1; cases e1
    obtain ⟨dd, fs, u, rfl, h2, h3, h4⟩ := rf f y e
    exact ⟨_, hσ, rfl, rfl, dd, fs, u, rfl, h2, by rw [← hx]; exact h3, k u H h4 R (Keep.refl H)⟩
theorem dxs_nil : DXs X tb i cs [] (fun _ => some []) := fun ad oe cls d pn _ _ => ⟨_, pa_nil, fun x F T ψ g σ H y Q _ _ _ R e k => by cases e; exact k [] H .nil rfl R (Keep.refl H)⟩
theorem dxs_cons {t : Pd.X → Option D} {us : Pd.X → Option (List D)} (h : DX X tb i cs e t) (h' : DXs X tb i cs es us)
    (hs : starEach (e :: es) X.env = (false, eval e X.env) :: starEach es X.env := by rfl) : DXs X tb i cs (e :: es) (fun x => (t x).bind fun y => (us x).map fun ys => y :: ys) := fun ad oe cls d pn hz hf => by
  obtain ⟨t1, h1, h2⟩ := h ad oe cls d pn hz hf
  obtain ⟨t2, h3, h4⟩ := h' ad oe cls d pn hz hf
  refine ⟨_, pa_cons h1 h3 hs, fun x F T ψ g σ H ys Q hm rx hσ R e k => ?_⟩
  obtain ⟨y, e1, e2⟩ := Option.bind_eq_some_iff.mp e
  obtain ⟨zs, e3, rfl⟩ := Option.map_eq_some_iff.mp e2
  refine h2 x F T ψ g σ H y _ hm rx hσ R e1 fun v H1 rv R1 k1 => ?_
  exact h4 x F T ψ g σ H1 zs _ hm (rx.keep k1) hσ R1 e3 fun vs H2 rs hl R2 k2 => k (v :: vs) H2 (.cons (rv.keep k2) rs) (by simp [hl]) R2 (k1.trans k2)
theorem dx_tup {x1} {us : Pd.X → Option (List D)} (h : DXs X tb i cs es us) (hn : Nat.ble es.length 1000 = true := by rfl) : DX X tb i cs (.Tuple es x1 pos) (fun x => (us x).map .tup) := fun ad oe cls d pn hz hf => by
  obtain ⟨t1, h1, h2⟩ := h ad oe cls d pn hz hf
  refine ⟨_, pe_tup h1, fun x F T ψ g σ H ys Q hm rx hσ R e k => ?_⟩
  obtain ⟨zs, e3, rfl⟩ := Option.map_eq_some_iff.mp e
  refine h2 x F T ψ g σ H zs _ hm rx hσ R e3 fun vs H1 rs hl R1 k1 => ⟨by rw [hl]; exact thousand hn, give_tup R1 rs fun v T1 H2 rr R2 k2 => ?_⟩
  obtain ⟨rv, rfl⟩ := rr
  exact k v H2 rv R2 (k1.trans k2)
end
end Pd
set_option Elab.async false
set_option linter.all false
set_option maxRecDepth 100000
set_option maxHeartbeats 1000000
namespace Pd
open PySem PySem.Spec PyProof.Rows L2
section
variable {X : Cx} {tb : Tb} {e : Expr} {pos p p1 p2 p3 : Pos} {x n y : Str} {body : List Stmt} {S : List Nat} {b : WS} {t : Pd.X → Option D}
/-- one reading of a try's body for each wish -/
theorem uni_try (hb : ∀ (pn : List (Addr × Obj)) (xe : Value → Shared → Prop), PassesOwn (model X.prog X.w) X.A X.env xe → DSs (X.tr pn xe) tb body S b) :
    ∃ tB : WX → TS, (∀ (W : WX) (pn : List (Addr × Obj)) (xe : Value → Shared → Prop), Takes (X.tr pn xe) W → PassesOwn (model X.prog X.w) X.A X.env xe → PSs (X.tr pn xe) body (tB W)) ∧ ∀ W : WX, RefS X tb W S b (tB W) :=
  ⟨fun W D σ H => ∀ (pn : List (Addr × Obj)) (xe : Value → Shared → Prop) (tk : Takes (X.tr pn xe) W) (po : PassesOwn (model X.prog X.w) X.A X.env xe), (hb pn xe po W tk).choose D σ H,
    fun W pn xe tk po => ⟨fun pins s σ H D I q => (hb pn xe po W tk).choose_spec.1.run pins s σ H D I (q pn xe tk po)⟩,
    fun W Dn E F T ψ g σ H R ex o q pn xe tk po => (hb pn xe po W tk).choose_spec.2 Dn E F T ψ g σ H R ex o q⟩
theorem uni_suite {i j : Nat} {cs : List String} (hN : X.N.Nodup) (h : DX X tb i cs e t) (hj : X.N[j]? = some y) (hy : Loc X.env.scope y) (hf : X.fn y = true ∨ X.env.scope.names.lookup y = some .local) (hs : swapsWith e (some (.Name y p1)) p2.line X.env = pure false) :
    ∃ tS : Addr → Value → Option Addr → TS, (∀ (ad : Addr) (oe : Obj) (cls : Value) (d : Option Addr) (pn : List (Addr × Obj)), Zc cls d oe → (∃ vs, oe.data = .fields vs) → PSs (X.suite ad ((ad, oe) :: pn)) [.Assign [.Name y p1] e p2] (tS ad cls d)) ∧
      ∀ (ad : Addr) (cls : Value) (d : Option Addr) (Z : L2.Ends) (xx : Pd.X) (F T : Own) (ψ : Psi) (g : G) (σ : L2.St) (H : Hp) (yv : D), xx.cls ∈ cs → RX tb.ec X.K xx cls d H → σ[i]? = some (some (.ref ad)) → Rel (bx X tb) F ψ g T σ H → t xx = some yv →
        (∀ v H1, Rel (bx X tb) F (ψ.set j (some (.d yv))) g T (σ.set j (some v)) H1 → Keep H H1 → Z.nx (σ.set j (some v)) H1) → tS ad cls d Z σ H := by
  refine ⟨fun ad cls d Z σ H => ∀ (oe : Obj) (pn : List (Addr × Obj)) (hz : Zc cls d oe) (hf : ∃ vs, oe.data = .fields vs), tAsg (h ad oe cls d pn hz hf).choose (L2.gName j) Z σ H, fun ad oe cls d pn hz hf2 => ?_, fun ad cls d Z xx F T ψ g σ H yv hm rx hσ R e1 k oe pn hz hf2 => ?_⟩
  · have z := (h ad oe cls d pn hz hf2).choose_spec.1
    have z2 := ps_set (X := X.suite ad ((ad, oe) :: pn)) (pos := p2) (pos' := p1) hN hj hy z hs hf
    exact pss_one ⟨fun pins s σ H D I q => z2.run pins s σ H D I (q oe pn hz hf2)⟩
  · exact (h ad oe cls d pn hz hf2).choose_spec.2 xx F T ψ g σ H yv _ hm rx hσ R e1 fun v H1 rv R1 k1 => k v H1 (R1.setD rv) k1
theorem same2 {σ : L2.St} {i j : Nat} {v w z : Option V} : SameS [i, j] σ (((σ.set i v).set j w).set i z) := fun l hl => by
  have h1 : i ≠ l := fun q => hl (by rw [← q]; exact List.Mem.head _)
  have h2 : j ≠ l := fun q => hl (by rw [← q]; exact List.Mem.tail _ (List.Mem.head _))
  rw [List.getElem?_set_ne h1, List.getElem?_set_ne h2, List.getElem?_set_ne h1]
theorem ds_try_as (i j : Nat) (cs : List String) (hN : X.N.Nodup) (M : ExM X.K X.mg tb x cs) (hb : ∀ (pn : List (Addr × Obj)) (xe : Value → Shared → Prop), PassesOwn (model X.prog X.w) X.A X.env xe → DSs (X.tr pn xe) tb body S b) (h : DX X tb i cs e t)
    (hg : Gl X x := by rfl) (hdb : (x == ("__debug__" : Str)) = false := by decide) (hi : X.N[i]? = some n := by rfl) (hn : X.env.kindOf n = some .local := by rfl) (hj : X.N[j]? = some y := by rfl) (hy : Loc X.env.scope y := by exact Or.inl rfl)
    (hf : X.fn y = true ∨ X.env.scope.names.lookup y = some .local := by exact .inr rfl) (hs : swapsWith e (some (.Name y p1)) p2.line X.env = pure false := by rfl) (hst : X.stack = X.env :: X.outer := by rfl) (hfr : X.env.frame = some X.env.locals := by rfl) (hiS : i ∉ S := by decide) :
    DSt X tb (.Try body [.ExceptHandler (some (.Name x p)) (some n) [.Assign [.Name y p1] e p2] p3] [] [] pos) (S ++ [i, j]) (sTryAs b cs i j t) := fun W tk => by
  obtain ⟨C, mx, hm⟩ := M.ex
  obtain ⟨tB, h1, h2⟩ := uni_try hb
  obtain ⟨tS, h3, h4⟩ := uni_suite (p1 := p1) (p2 := p2) hN h hj hy hf hs
  refine ⟨_, ps_try_as hst hfr hN hi hn ⟨hg, hdb, .inl mx⟩ tk h1 h3, fun Dn E F T ψ g σ H R ex o q => ?_⟩
  have m1 : ∀ l ∈ S, l ∈ S ++ [i, j] := fun l hl => List.mem_append_left _ hl
  refine h2 _ { Dn with ex := fun x ψ g => if x.cls ∈ cs then hAs i j t x Dn ψ g else Dn.ex x ψ g } E F T ψ g σ H R (fun σ1 es xx ψ1 g1 H1 cls dx q1 R1 rx kk => ?_) ⟨(o.sub m1).nx, o.rt, (o.sub m1).bk, (o.sub m1).ct⟩ q.2
  obtain ⟨A, e1, rfl⟩ := rx.1
  refine ⟨_, hm _ A e1, fun hb ad hn1 => ?_, fun hb => ?_⟩
  · have hin : xx.cls ∈ cs := of_decide_eq_true hb
    have q2 : hAs i j t xx Dn ψ1 g1 := by
      have q1' : (if xx.cls ∈ cs then hAs i j t xx Dn ψ1 g1 else Dn.ex xx ψ1 g1) := q1
      rw [if_pos hin] at q1'; exact q1'
    obtain ⟨yv, e2, q3⟩ := optQ_inv q2
    have hσ : (σ1.set i (some (.ref ad)))[i]? = some (some (.ref ad)) := by
      refine List.getElem?_set_self ?_
      have z := es i hiS
      have hl : i < σ.length := by rw [← R.len]; exact q.1
      rw [List.getElem?_eq_getElem hl] at z
      exact (List.getElem?_eq_some_iff.mp z).1
    refine h4 ad (.ref A) dx _ xx F T (ψ1.set i none) g1 (σ1.set i (some (.ref ad))) H1 yv hin rx hσ R1.setN e2 fun v H2 R2 k2 => ?_
    exact o.nx _ g1 _ H2 q3 R2.setN (kk.trans k2) (SameS.trans (SameS.sub es m1) (SameS.sub same2 fun l hl => List.mem_append_right _ hl))
  · have hin : xx.cls ∉ cs := of_decide_eq_false hb
    have q2 : Dn.ex xx ψ1 g1 := by
      have q1' : (if xx.cls ∈ cs then hAs i j t xx Dn ψ1 g1 else Dn.ex xx ψ1 g1) := q1
      rw [if_neg hin] at q1'; exact q1'
    exact ex σ1 (SameS.sub es m1) xx ψ1 g1 H1 (.ref A) dx q2 R1 rx kk
/-- without a name; the value is one of this def's constants -/
theorem ds_try_only (j : Nat) (cs : List String) {yv : D} {v0 : V} (hN : X.N.Nodup) (M : ExM X.K X.mg tb x cs) (hb : ∀ (pn : List (Addr × Obj)) (xe : Value → Shared → Prop), PassesOwn (model X.prog X.w) X.A X.env xe → DSs (X.tr pn xe) tb body S b) (he : ∀ Y : Cx, PE Y e (tC v0)) (rv : ∀ H, RV X.K H yv v0)
    (hg : Gl X x := by rfl) (hdb : (x == ("__debug__" : Str)) = false := by decide) (hj : X.N[j]? = some y := by rfl) (hy : Loc X.env.scope y := by exact Or.inl rfl)
    (hf : X.fn y = true ∨ X.env.scope.names.lookup y = some .local := by exact .inr rfl) (hs : swapsWith e (some (.Name y p1)) p2.line X.env = pure false := by rfl) (hst : X.stack = X.env :: X.outer := by rfl) (hfr : X.env.frame = some X.env.locals := by rfl) :
    DSt X tb (.Try body [.ExceptHandler (some (.Name x p)) none [.Assign [.Name y p1] e p2] p3] [] [] pos) (S ++ [j]) (sTryOnly b cs j fun _ => some yv) := fun W tk => by
  obtain ⟨C, mx, hm⟩ := M.ex
  obtain ⟨tB, h1, h2⟩ := uni_try hb
  refine ⟨_, ps_try_only (ts := fun _ _ _ => tAsg (tC v0) (L2.gName j)) hst hfr ⟨hg, hdb, .inl mx⟩ tk h1 (fun ad oe cls d pn _ _ => pss_one (ps_set (X := X.suite ad ((ad, oe) :: pn)) hN hj hy (he _) hs hf)), fun Dn E F T ψ g σ H R ex o q => ?_⟩
  have m1 : ∀ l ∈ S, l ∈ S ++ [j] := fun l hl => List.mem_append_left _ hl
  refine h2 _ { Dn with ex := fun x ψ g => if x.cls ∈ cs then hOnly j (fun _ => some yv) x Dn ψ g else Dn.ex x ψ g } E F T ψ g σ H R (fun σ1 es xx ψ1 g1 H1 cls dx q1 R1 rx kk => ?_) ⟨(o.sub m1).nx, o.rt, (o.sub m1).bk, (o.sub m1).ct⟩ q
  obtain ⟨A, e1, rfl⟩ := rx.1
  refine ⟨_, hm _ A e1, fun hb ad hn1 => ?_, fun hb => ?_⟩
  · have hin : xx.cls ∈ cs := of_decide_eq_true hb
    have q2 : hOnly j (fun _ => some yv) xx Dn ψ1 g1 := by
      have q1' : (if xx.cls ∈ cs then hOnly j (fun _ => some yv) xx Dn ψ1 g1 else Dn.ex xx ψ1 g1) := q1
      rw [if_pos hin] at q1'; exact q1'
    exact o.nx _ g1 _ H1 q2 (R1.setD (rv H1)) kk (SameS.trans (SameS.sub es m1) (SameS.sub same_set fun l hl => List.mem_append_right _ hl))
  · have hin : xx.cls ∉ cs := of_decide_eq_false hb
    have q2 : Dn.ex xx ψ1 g1 := by
      have q1' : (if xx.cls ∈ cs then hOnly j (fun _ => some yv) xx Dn ψ1 g1 else Dn.ex xx ψ1 g1) := q1
      rw [if_neg hin] at q1'; exact q1'
    exact ex σ1 (SameS.sub es m1) xx ψ1 g1 H1 (.ref A) dx q2 R1 rx kk
end
end Pd
set_option Elab.async false
set_option linter.all false
set_option maxRecDepth 100000
set_option maxHeartbeats 2000000
namespace Pd
open PySem PySem.Spec PyProof.Rows L2 He
/-! ### what a head tells beside the library's facts -/
inductive Fb where
  | noat (x f : Str)
  | xf (x : Str)
  | oex (x : Str)
  | base (x : Str)
  | ini (x : Str)
def oexOf (K : PySem.W.Frag) (C : Addr) (cd : ClassData) (sl : List (Option Value)) : Bool := match cd.mro, sl with
  | .ref D :: bm, [_, _, _, _, some (.builtin n), _] => decide (D = C) && (decide (n = "ValueError.__new__") && (!cd.hasDel && (cd.hasDict && PySem.HandSPX.refsVE bm)))
  | _, _ => false
def oexLook (K : PySem.W.Frag) (C : Addr) : Bool := match K.lookup C with
  | some ⟨.type m, _, .cls cd, sl⟩ => decide (m = "type") && oexOf K C cd sl.toList
  | _ => false
def oexB (K : PySem.W.Frag) (C : Addr) : Bool := oexLook K C && (decide (PySem.W.findIn K (.ref C) "__setattr__" = some (some (.builtin "object.__setattr__"))) && (decide (PySem.W.subIn K (.ref C) (.type "BaseException") = some true) &&
  (decide (PySem.W.typeIn K (.ref C) = some (.type "type")) && PySem.W.keepIn K (.ref C))))
theorem oexB_ok {K : PySem.W.Frag} {C : Addr} (h : oexB K C = true) : OexC K C := by
  obtain ⟨h0, h⟩ := ba h
  obtain ⟨h1, h⟩ := ba h
  obtain ⟨h2, h⟩ := ba h
  obtain ⟨h3, h4⟩ := ba h
  refine ⟨?_, of_decide_eq_true h1, of_decide_eq_true h2, of_decide_eq_true h3, h4⟩
  unfold oexLook at h0
  split at h0
  · rename_i m dd cd sl e
    obtain ⟨e1, i0⟩ := ba h0
    clear h0
    have e1 := of_decide_eq_true e1
    subst e1
    unfold oexOf at i0
    split at i0
    · rename_i D bm k0 k1 k2 k3 n k5 hm hs
      obtain ⟨e2, i1⟩ := ba i0
      obtain ⟨e3, i2⟩ := ba i1
      obtain ⟨e4, i3⟩ := ba i2
      obtain ⟨e5, e6⟩ := ba i3
      have e2 := of_decide_eq_true e2
      have e3 := of_decide_eq_true e3
      have e7 : cd.hasDel = false := by cases z : cd.hasDel <;> simp [z] at e4 ⊢
      clear e4 i0 i1 i2 i3
      subst e2 e3
      obtain ⟨nm, bs, mro, ns, qn, hd, sn, sub, ab, col, del⟩ := cd
      simp only at hm e7 e5
      subst hm e7 e5
      have hsl : sl = #[k0, k1, k2, k3, some (.builtin "ValueError.__new__"), k5] := Array.toList_inj.mp hs
      subst hsl
      exact ⟨_, _, _, _, _, _, _, _, _, _, _, _, _, _, _, e, e6⟩
    · cases i0
  · cases h0
def baseB (K : PySem.W.Frag) (C : Addr) : Bool := decide (PySem.W.specialIn K (.ref C) "__getattribute__" = some (some (.builtin "type.__getattribute__"))) && (PySem.W.readsIn K C (.type "type") && match PySem.W.findCls K (.ref C) (.type "type") "__init__" with
  | some (.val v) => decide (v = .builtin "ValueError.__init__")
  | _ => false)
def iniB (K : PySem.W.Frag) (C : Addr) : Bool := decide (PySem.W.findIn K (.ref C) "__init__" = some (some (.ref (ma K C "__init__")))) && decide (PySem.W.typeIn K (.ref (ma K C "__init__")) = some (.type "function"))
def Fb.ok (K : PySem.W.Frag) : Fb → Bool
  | .noat x f => decide (PySem.W.findIn K (.ref (ga K x)) f = some none)
  | .xf x => xfB K (ga K x)
  | .oex x => oexB K (ga K x)
  | .base x => baseB K (ga K x)
  | .ini x => iniB K (ga K x)
theorem mk_oex {K : PySem.W.Frag} {x : Str} (c : (Fb.oex x).ok K = true) : OexC K (ga K x) := oexB_ok c
theorem mk_noat {K : PySem.W.Frag} {x f : Str} (c : (Fb.noat x f).ok K = true) : PySem.W.findIn K (.ref (ga K x)) f = some none := of_decide_eq_true (show decide (PySem.W.findIn K (.ref (ga K x)) f = some none) = true from c)
/-! ### the head's hook -/
abbrev AlP : Type := AlD × Bool
def asP (g : Addr → Option Obj) (n : Nat) : List Addr := cStatics :: asD g n
def obsP (n : Nat) (fa : List Fa) (fn : List DefD) (fb : List Fb) (g : Addr → Option Obj) : AlP := (obsD fa fn (frG g (asP g n)), fb.all fun f => f.ok (frG g (asP g n)))
def valP (fn : List DefD) : AlP := (valD fn, true)
structure SaysP (fa : List Fa) (fn : List DefD) (fb : List Fb) (K : PySem.W.Frag) : Prop where
  d : SaysD fa fn K
  more : (fb.all fun f => f.ok K) = true
def hookP (n : Nat) (fa : List Fa) (fn : List DefD) (fb : List Fb) : PySem.W.Hook where
  α := AlP
  obs := fun s => obsP n fa fn fb s.heap.get?
  val := fun _ => valP fn
  says := fun _ h => ∃ K : PySem.W.Frag, K.In h ∧ SaysP fa fn fb K
  of := fun _ _ e => ⟨_, frG_in, ⟨congrArg (fun z : AlP => z.1) e, congrArg (fun z : AlP => z.2) e⟩⟩
  keeps := fun _ _ _ ⟨K, hK, c⟩ k => ⟨K, PySem.W.Frag.In.keeps hK k, c⟩
def obP (n : Nat) (fa : List Fa) (fn : List DefD) (fb : List Fb) (s : PySem.W.SharedT) : AlP := obsP n fa fn fb (HandSHeadRun.getT s)
theorem obP_eq {n : Nat} {fa : List Fa} {fn : List DefD} {fb : List Fb} (s : PySem.W.SharedT) : obP n fa fn fb s = (hookP n fa fn fb).obs s.abs := by
  have e : HandSHeadRun.getT s = s.abs.heap.get? := funext (HandSHeadRun.getT_eq s)
  unfold obP
  rw [e] <;> rfl
theorem SaysP.fb {fa : List Fa} {fn : List DefD} {fb : List Fb} {K : PySem.W.Frag} (c : SaysP fa fn fb K) (i : Nat) {f : Fb} (h : fb[i]? = some f := by rfl) : f.ok K = true := List.all_eq_true.mp c.more f (List.mem_of_getElem? h)
theorem SaysP.fa {fa : List Fa} {fn : List DefD} {fb : List Fb} {K : PySem.W.Frag} (c : SaysP fa fn fb K) (i : Nat) {f : Fa} (h : fa[i]? = some f := by rfl) : f.ok K = true := c.d.fact i h
theorem fun_D {K : PySem.W.Frag} {x qual : Str} {st : Stmt} {f : Addr} {fd : FuncData} (F : FunD K x qual (defArgs st) (defBody st) (defScope st) [] [] f fd) : Fun K x qual st f fd := by
  obtain ⟨oc, od, dV, kV, doc, pm, an, cdv, ct, osl, rfl, lk, hcd, hD, _⟩ := F.ex
  rcases hD with ⟨_, rfl⟩ | ⟨e, _⟩
  · exact ⟨⟨oc, od, kV, doc, pm, an, cdv, ct, osl, rfl, lk, hcd⟩, F.kp⟩
  · exact absurd rfl e
/-! ### the facts in the layer's words -/
def mkTb (K : PySem.W.Frag) (cls exs : List String) : Tb := ⟨fun s => if s ∈ cls then some (ga K (Str.ofString s)) else none, fun s => if s ∈ exs then some (ga K (Str.ofString s)) else none⟩
section
variable {K : PySem.W.Frag} {h : Heap} {mg : Str → Option Value} {cls exs : List String}
theorem mk_bl (X : K.In h) (G : h.Ns mainGlobals mg) {x : Str} {v : Value} (c : (Fa.free x).ok K = true) (e : bootBuiltins x = some v) : Bl mg x v := ⟨free_ok X G c, e⟩
theorem mk_gint (X : K.In h) (G : h.Ns mainGlobals mg) {x : Str} {i : Int} (c : (Fa.int x i).ok K = true) : GlV mg K x (.int i) :=
  let ⟨t, e⟩ := int_ok X G c
  ⟨_, .int i, e, ⟨t, rfl⟩, fun _ => .int i⟩
theorem mk_gstr (X : K.In h) (G : h.Ns mainGlobals mg) {x z : Str} {s : List Nat} (c : (Fa.str x z).ok K = true) (e : z = ⟨s.toArray⟩) (ok : (s.all fun c => decide (c < 1114112)) = true) : GlV mg K x (.str s) :=
  let ⟨t, e1⟩ := str_ok X G c
  ⟨_, .str z, e1, ⟨t, rfl⟩, fun _ => e ▸ .str s fun c hc => of_decide_eq_true (List.all_eq_true.mp ok c hc)⟩
theorem mkTb_cl {s : String} {C : Addr} (e : (mkTb K cls exs).cl s = some C) : C = ga K (Str.ofString s) := by
  have e' : (if s ∈ cls then some (ga K (Str.ofString s)) else none) = some C := e
  split at e'
  · exact (Option.some.inj e').symm
  · cases e'
theorem mkTb_ec {s : String} {C : Addr} (e : (mkTb K cls exs).ec s = some C) : s ∈ exs ∧ C = ga K (Str.ofString s) := by
  have e' : (if s ∈ exs then some (ga K (Str.ofString s)) else none) = some C := e
  split at e'
  · rename_i hm; exact ⟨hm, (Option.some.inj e').symm⟩
  · cases e'
theorem cl_mk {s : String} {x : Str} (hs : s ∈ cls) (hx : Str.ofString s = x) : (mkTb K cls exs).cl s = some (ga K x) := by subst hx; exact if_pos hs
theorem ec_mk {s : String} {x : Str} (hs : s ∈ exs) (hx : Str.ofString s = x) : (mkTb K cls exs).ec s = some (ga K x) := by subst hx; exact if_pos hs
theorem mk_ins {c : String} {x f : Str} (c1 : (Fa.cls x).ok K = true) (c2 : (Fa.noat x f).ok K = true) (hx : Str.ofString c = x := by rfl) : InsOk K (mkTb K cls exs) c f :=
  ⟨fun C e => by rw [mkTb_cl e, hx]; exact ⟨cls_ok c1, noat_ok c2⟩⟩
theorem mk_exm (X : K.In h) (G : h.Ns mainGlobals mg) {x : Str} {cs : List String} (c : (Fa.glo x).ok K = true) (es : ∀ s ∈ exs, (Fa.exm (Str.ofString s) x (decide (s ∈ cs))).ok K = true) : ExM K mg (mkTb K cls exs) x cs :=
  ⟨_, glo_ok X G c, fun s A e => by obtain ⟨hm, rfl⟩ := mkTb_ec e; exact exm_ok (es s hm)⟩
theorem mk_xf {c : String} {x f : Str} (c1 : (Fb.xf x).ok K = true) (c2 : (Fb.noat x f).ok K = true) (hx : Str.ofString c = x := by rfl) : XFld K (mkTb K cls exs) [c] f :=
  ⟨fun s A hm e => by
    obtain ⟨_, rfl⟩ := mkTb_ec e
    rw [List.mem_singleton.mp hm, hx]
    exact ⟨xfB_ok c1, of_decide_eq_true c2⟩⟩
theorem mk_base (X : K.In h) (G : h.Ns mainGlobals mg) {x : Str} (g : (Fa.glo x).ok K = true) (c : (Fb.base x).ok K = true) : BaseX K mg x := by
  obtain ⟨h1, c⟩ := ba (show baseB K (ga K x) = true from c)
  obtain ⟨h2, h3⟩ := ba c
  refine ⟨_, _, glo_ok X G g, of_decide_eq_true h1, h2, ?_⟩
  split at h3
  · rename_i v e; rw [e, of_decide_eq_true h3]
  · cases h3
variable {P : Program} {w : World} {base : Heap} {k : Nat} {φ : SpD}
theorem mk_calx (X : K.In h) (G : h.Ns mainGlobals mg) {c : String} {x : Str} {fs : List String} {fd : FuncData} {ps : List Str} (g : (Fa.glo x).ok K = true) (c2 : (Fb.ini x).ok K = true) (T : OexC K (ga K x))
    (F : FnOk P w K mg base (L2.CX P w) k (ma K (ga K x) "__init__") fd ps (spX (ga K x) (fs.map Str.ofString))) (b : Binds K fd ps []) (nd : (fs.map Str.ofString).Nodup) (he : c ∈ exs) (hx : Str.ofString c = x := by rfl) : CalX P w K mg base (mkTb K cls exs) c x fs k := by
  obtain ⟨h1, h2⟩ := ba (show iniB K (ga K x) = true from c2)
  exact ⟨⟨_, _, fd, ps, ec_mk he hx, glo_ok X G g, T, of_decide_eq_true h1, of_decide_eq_true h2, F, b⟩, nd⟩
theorem mk_caly (X : K.In h) (G : h.Ns mainGlobals mg) {c : String} {x : Str} (g : (Fa.glo x).ok K = true) (c2 : (Fa.exc x).ok K = true) (he : c ∈ exs) (hx : Str.ofString c = x := by rfl) : CalY K mg (mkTb K cls exs) c x := by
  obtain ⟨h1, h2, h3, h4⟩ := exc_ok c2
  exact ⟨⟨_, ec_mk he hx, h1, glo_ok X G g, h2, h3, h4⟩⟩
theorem mk_cal (X : K.In h) (G : h.Ns mainGlobals mg) {tb : Tb} {x : Str} {fd : FuncData} {ps : List Str} (g : (Fa.glo x).ok K = true) (kp : PySem.W.keepIn K (.ref (ga K x)) = true) (F : FnOk P w K mg base (L2.CX P w) k (ga K x) fd ps (lift ⟨P, w, K, tb.cl⟩ tb.ec φ)) (b : Binds K fd ps []) (m : Mono φ) : Cal P w K mg base tb x k φ :=
  ⟨⟨_, fd, ps, F, glo_ok X G g, kp, b⟩, m⟩
theorem mk_calm {c : String} {x m : Str} {fd : FuncData} {ps : List Str} (c1 : (Fa.cls x).ok K = true) (c2 : (Fa.meth x m).ok K = true) (F : FnOk P w K mg base (L2.CX P w) k (ma K (ga K x) m) fd ps (lift ⟨P, w, K, (mkTb K cls exs).cl⟩ (mkTb K cls exs).ec φ)) (b : Binds K fd ps []) (mo : Mono φ) (he : c ∈ cls) (hx : Str.ofString c = x := by rfl) : CalM P w K mg base (mkTb K cls exs) c m k φ :=
  ⟨⟨_, _, fd, ps, cl_mk he hx, cls_ok c1, meth_ok c2, F, b⟩, mo⟩
theorem mk_caln (X : K.In h) (G : h.Ns mainGlobals mg) {c : String} {x : Str} {fd : FuncData} {ps : List Str} (g : (Fa.glo x).ok K = true) (c2 : (Fa.mkr x).ok K = true) (F : FnOk P w K mg base (L2.CX P w) k (ma K (ga K x) "__init__") fd ps (lift ⟨P, w, K, (mkTb K cls exs).cl⟩ (mkTb K cls exs).ec φ)) (b : Binds K fd ps []) (mo : Mono φ) (he : c ∈ cls) (hx : Str.ofString c = x := by rfl) : CalN P w K mg base (mkTb K cls exs) c x k φ :=
  ⟨⟨_, _, fd, ps, cl_mk he hx, glo_ok X G g, mkr_ok c2, F, b⟩, mo⟩
theorem mono_no : Mono fun _ _ _ _ => False := fun _ _ _ _ _ _ _ _ h => h
/-- the law's promise at the script -/
theorem law_sp {tb : Tb} {φ : SpD} (hφ : ∀ (ns : List Int) (g : G) (E : Pd.X → G → Prop) (Q : Pd.R → G → Prop), ns.length ≤ 63 → (∀ g', Q (.d (.bl true)) g') → φ [.d (.rol (ns.map .int))] g E Q) {H : Hp} {a : Addr} {ns : List Int} (hl : ns.length ≤ 63) (hO : Only H) (hS : SqL K H a (ns.map V.int)) :
    lift ⟨P, w, K, tb.cl⟩ tb.ec φ [.ref a] H (fun v _ => v = .bl true) fun _ _ _ => False := by
  refine ⟨[.d (.rol (ns.map .int))], fun _ => none, [], .cons ?_ .nil, ?_, (fun a o e => by cases e), ⟨fun p hp => (nomatch hp), List.nodup_nil⟩, hφ ns _ _ _ hl fun g' v H' r _ => ?_⟩
  · show RV K H (.rol (ns.map .int)) (.ref a)
    refine .rol (vs := ns.map V.int) ?_ ?_
    · rcases hS with h1 | h1
      · left
        rcases hO a with e | ⟨o, xs, e⟩
        · rcases h1 with h1 | ⟨o, h1⟩ <;> rw [e] at h1 <;> cases h1
        · rcases h1 with h1 | ⟨o', h1⟩
          · rw [e] at h1; cases h1
          · exact ⟨o', h1⟩
      · exact .inr h1
    · clear hl hS hφ
      induction ns with
      | nil => exact .nil
      | cons n ns ih => exact .cons (.int n) ih
  · intro s hs o e
    rw [List.mem_singleton] at hs
    subst hs; cases e
  · have r' : RV K H' (.bl true) v := r.1
    cases r'; rfl
end
/-- the end: what the head tells, each law's own promise -/
theorem walk_P {l : PySem.W.OpenLaw} {k : Nat} {q : Program} {loose : List Str} {XP : (Str → Option Value) → Heap → Prop} {YP : World → Heap → Prop} {d : DefRec} (hn : l.most = some 63) (hdf : d.params.defaults = []) (hr : Room k callerA)
    (F : ∀ (w : World) (mg : Str → Option Value) (fa : Addr) (h : Heap), YP w h → h.Ns mainGlobals mg → mg d.name = some (.ref fa) →
      ∃ (K : PySem.W.Frag) (fd : FuncData) (tb : Tb) (φ : SpD), K.In h ∧ (∀ (s : Shared) (u : Value), BindsTo s fd ⟨[u], []⟩ [("script", u)]) ∧
        (∀ (ns : List Int) (g : G) (E : Pd.X → G → Prop) (Q : Pd.R → G → Prop), ns.length ≤ 63 → (∀ g', Q (.d (.bl true)) g') → φ [.d (.rol (ns.map .int))] g E Q) ∧
        ∀ base : Heap, K.In base → base.Ns mainGlobals mg → FnOk l.prog w K mg base (L2.CX l.prog w) k fa fd ["script"] (lift ⟨l.prog, w, K, tb.cl⟩ tb.ec φ)) : PySem.W.WalkO q loose XP YP l.row.toRowW d [] (fun f vs => PySem.call f vs) := by
  refine Att.attach_call hn hdf fun w s₀ s₁ mg mb fa o pm cd doc a vs ns G Y ho hd hcd hmg hobj hints hlen hg => ?_
  obtain ⟨K, fd, tb, φ, KX, hb, hφ, hF⟩ := F w mg fa _ Y G.T.g hmg
  exact law_call KX G.T.g G.T.b G.T.builtins G.T.nolimit hg hobj hints (Nat.le_trans hlen (by decide)) hr hF hb (fun H hO hS => law_sp hφ hlen hO hS) fun H e s' ⟨a, B, H', cls, d, _, _, _, _, _, _, _, z⟩ => z
end Pd
set_option linter.all false
namespace Pd
/-- is_name(word) -/
def b_is_name : WS :=
  (sSeq (sIf (tOr (tV (eBin oLt (eUn oLen (eVar 0)) (eC (.int 1)))) (tV (eBin oGt (eUn oLen (eVar 0)) (eC (.int 8))))) (sRet (eC (.bl false))) sNx) (sRet (eUn oAll (eComp [1] (iStr (eVar 0)) (gName 1) tYes (eBin oIn (eVar 1) (eC (.str [97, 98, 99, 100, 101, 102, 103, 104, 105, 106, 107, 108, 109, 110, 111, 112, 113, 114, 115, 116, 117, 118, 119, 120, 121, 122])))))))
/-- need_names(part, words, most, others) -/
def b_need_names (φ_is_name : SpD) : WS :=
  (sSeq (sIf (tV (eBin oEq (eVar 1) (eLst dNil))) (sRaise "NoMachine" ["part", "number"] (dCons (eVar 0) (dCons (eC (.int 0)) dNil))) sNx) (sSeq (sSet 4 (eDic false)) (sSeq (sFor (iEnum (eNs (eCut (eVar 1) none (some (eVar 2))))) (gTup [(gName 5), (gName 6)]) (sSeq (sIf (tOr (tNot (tV (eCall φ_is_name [false] (aCons (eVar 6) aNil)))) (tOr (tV (eBin oIn (eVar 6) (eVar 4))) (tV (eBin oIn (eVar 6) (eVar 3))))) (sRaise "NoMachine" ["part", "number"] (dCons (eVar 0) (dCons (eVar 5) dNil))) sNx) (sSetIx putIx (eVar 4) (eVar 6) (eC (.bl true))))) (sIf (tV (eBin oGt (eUn oLen (eVar 1)) (eVar 2))) (sRaise "NoMachine" ["part", "number"] (dCons (eVar 0) (dCons (eVar 2) dNil))) sNx))))
/-- is_sign_of(sign, asks, says) -/
def b_is_sign_of : WS :=
  (sSeq (sIf (tV (eBin oEq (eUn oLen (eVar 0)) (eC (.int 1)))) (sRet (eBin oEq (eBin oIx (eVar 0) (eC (.int 0))) (eC (.str [115, 116, 105, 108, 108])))) sNx) (sSeq (sIf (tV (eBin oEq (eBin oIx (eVar 0) (eC (.int 0))) (eC (.str [97, 115, 107])))) (sRet (eBin oIn (eBin oIx (eVar 0) (eC (.int 1))) (eVar 1))) sNx) (sRet (eAnd (eBin oEq (eBin oIx (eVar 0) (eC (.int 0))) (eC (.str [115, 97, 121]))) (eBin oIn (eBin oIx (eVar 0) (eC (.int 1))) (eVar 2))))))
/-- need_doors(doors, asks, says, rooms) -/
def b_need_doors (φ_is_sign_of : SpD) : WS :=
  (sSeq (sSet 4 (eDic true)) (sSeq (sFor (iEnum (eNs (eCut (eVar 0) none (some (eC (.int 2000)))))) (gTup [(gName 5), (gTup [(gName 6), (gName 7), (gName 8)])]) (sSeq (sSet 9 (eAnd (eBin oIn (eVar 6) (eVar 3)) (eAnd (eBin oIn (eVar 8) (eVar 3)) (eCall φ_is_sign_of [false, false, false] (aCons (eVar 7) (aCons (eVar 1) (aCons (eVar 2) aNil))))))) (sSeq (sIf (tOr (tNot (tV (eVar 9))) (tV (eBin oIn (eTup (dCons (eVar 6) (dCons (eVar 7) (dCons (eVar 8) dNil)))) (eVar 4)))) (sRaise "NoMachine" ["part", "number"] (dCons (eC (.str [100, 111, 111, 114, 115])) (dCons (eVar 5) dNil))) sNx) (sSetIx putIx (eVar 4) (eTup (dCons (eVar 6) (dCons (eVar 7) (dCons (eVar 8) dNil)))) (eC (.bl true)))))) (sIf (tV (eBin oGt (eUn oLen (eVar 0)) (eC (.int 2000)))) (sRaise "NoMachine" ["part", "number"] (dCons (eC (.str [100, 111, 111, 114, 115])) (dCons (eC (.int 2000)) dNil))) sNx)))
/-- Machine.__init__(self, asks, says, rooms, doors) -/
def b_Machine___init__ (φ_need_names φ_need_doors φ_Machine_comes_round : SpD) : WS :=
  (sSeq (sE (eCall φ_need_names [false, false, false, false] (aCons (eC (.str [97, 115, 107, 115])) (aCons (eVar 1) (aCons (eC (.int 4)) (aCons (eLst dNil) aNil)))))) (sSeq (sE (eCall φ_need_names [false, false, false, false] (aCons (eC (.str [115, 97, 121, 115])) (aCons (eVar 2) (aCons (eC (.int 4)) (aCons (eVar 1) aNil)))))) (sSeq (sE (eCall φ_need_names [false, false, false, false] (aCons (eC (.str [114, 111, 111, 109, 115])) (aCons (eVar 3) (aCons (eC (.int 150)) (aCons (eLst dNil) aNil)))))) (sSeq (sFld "Machine" "ask_words" (eVar 0) (eUn oList (eVar 1))) (sSeq (sFld "Machine" "say_words" (eVar 0) (eUn oList (eVar 2))) (sSeq (sFld "Machine" "leading" (eVar 0) (eDic false)) (sSeq (sFor (iIt (eVar 3)) (gName 5) (sSetIx putIx (eFld "Machine" "leading" (eVar 0)) (eVar 5) (eLst dNil))) (sSeq (sE (eCall φ_need_doors [false, false, false, false] (aCons (eVar 4) (aCons (eVar 1) (aCons (eVar 2) (aCons (eFld "Machine" "leading" (eVar 0)) aNil)))))) (sSeq (sFld "Machine" "all_doors" (eVar 0) (eUn oList (eVar 4))) (sSeq (sFor (iIt (eVar 4)) (gName 6) (sE (eMut mAppend (eBin oIx (eFld "Machine" "leading" (eVar 0)) (eBin oIx (eVar 6) (eC (.int 0)))) (dCons (eVar 6) dNil)))) (sFor (iEnum (eVar 3)) (gTup [(gName 7), (gName 5)]) (sIf (tV (eMeth "Machine" "comes_round" φ_Machine_comes_round [true] (eVar 0) (aCons (eVar 5) aNil))) (sRaise "NoMachine" ["part", "number"] (dCons (eC (.str [115, 116, 105, 108, 108])) (dCons (eVar 7) dNil))) sNx))))))))))))
/-- Machine.comes_round(self, room) -/
def b_Machine_comes_round : WS :=
  (sSeq (sSet 2 (eDic false)) (sSeq (sSet 3 (eLst (dCons (eVar 1) dNil))) (sSeq (sWhile (tV (eBin oNe (eVar 3) (eLst dNil))) (sSeq (sSet 4 (eMut mPop (eVar 3) dNil)) (sFor (iIt (eNs (eBin oIx (eFld "Machine" "leading" (eVar 0)) (eVar 4)))) (gName 5) (sSeq (sIf (tAnd (tV (eBin oEq (eBin oIx (eVar 5) (eC (.int 1))) (eTup (dCons (eC (.str [115, 116, 105, 108, 108])) dNil)))) (tV (eBin oEq (eBin oIx (eVar 5) (eC (.int 2))) (eVar 1)))) (sRet (eC (.bl true))) sNx) (sIf (tAnd (tV (eBin oEq (eBin oIx (eVar 5) (eC (.int 1))) (eTup (dCons (eC (.str [115, 116, 105, 108, 108])) dNil)))) (tV (eBin oNin (eBin oIx (eVar 5) (eC (.int 2))) (eVar 2)))) (sSeq (sSetIx putIx (eVar 2) (eBin oIx (eVar 5) (eC (.int 2))) (eC (.bl true))) (sE (eMut mAppend (eVar 3) (dCons (eBin oIx (eVar 5) (eC (.int 2))) dNil)))) sNx))))) (sRet (eC (.bl false))))))
/-- Machine.asks(self) -/
def b_Machine_asks : WS :=
  (sRet (eUn oList (eFld "Machine" "ask_words" (eVar 0))))
/-- Machine.says(self) -/
def b_Machine_says : WS :=
  (sRet (eUn oList (eFld "Machine" "say_words" (eVar 0))))
/-- Machine.rooms(self) -/
def b_Machine_rooms : WS :=
  (sRet (eUn oListD (eFld "Machine" "leading" (eVar 0))))
/-- Machine.doors(self) -/
def b_Machine_doors : WS :=
  (sRet (eUn oList (eFld "Machine" "all_doors" (eVar 0))))
/-- _law_spread(cell, at) -/
def b__law_spread : WS :=
  (sSeq (sIf (tV (eBin oGe (eVar 0) (eBin oPow (eC (.int 10)) (eC (.int 18))))) (sRet (eVar 0)) sNx) (sSeq (sSet 2 (eBin oMod (eBin oAdd (eBin oAdd (eBin oMul (eBin oMod (eVar 0) (eC (.int 1000000007))) (eC (.int 69069))) (eBin oMul (eVar 1) (eC (.int 40503)))) (eC (.int 977))) (eC (.int 2147483629)))) (sSeq (sSet 3 (eBin oMod (eBin oAdd (eBin oAdd (eBin oMul (eVar 2) (eVar 2)) (eBin oMul (eVar 1) (eC (.int 7919)))) (eBin oMod (eVar 0) (eC (.int 65537)))) (eC (.int 2147483587)))) (sSeq (sSet 4 (eBin oMod (eBin oAdd (eBin oAdd (eBin oMul (eVar 3) (eVar 3)) (eBin oMul (eVar 2) (eC (.int 31)))) (eC (.int 5))) (eC (.int 2147483563)))) (sRet (eBin oAdd (eBin oMul (eBin oAdd (eBin oMul (eVar 2) (eC (.int 2147483659))) (eVar 3)) (eC (.int 2147483693))) (eVar 4)))))))
/-- _law_open(script) -/
def b__law_open : WS :=
  (sSeq (sSet 1 (eUn oList (eCut (eVar 0) none (some (eC (.int 12)))))) (sSeq (sFor (iEnum (eNs (eCut (eVar 0) (some (eC (.int 12))) (some (eC (.int 63)))))) (gTup [(gName 2), (gName 3)]) (sSetIx putIx (eVar 1) (eBin oMod (eVar 2) (eC (.int 12))) (eBin oAdd (eBin oIx (eVar 1) (eBin oMod (eVar 2) (eC (.int 12)))) (eVar 3)))) (sRet (eLst (dCons (eVar 1) (dCons (eC (.int 0)) (dCons (eC (.int 0)) dNil)))))))
/-- _law_take(pen, many) -/
def b__law_take (φ__law_spread : SpD) : WS :=
  (sSeq (sIf (tV (eBin oLt (eBin oIx (eVar 0) (eC (.int 2))) (eVar 1))) (sSeq (sSet 2 (eBin oIx (eVar 0) (eC (.int 1)))) (sSeq (sSet 3 (eC (.int 0))) (sSeq (sIf (tV (eBin oLt (eVar 2) (eUn oLen (eBin oIx (eVar 0) (eC (.int 0)))))) (sSet 3 (eBin oIx (eBin oIx (eVar 0) (eC (.int 0))) (eVar 2))) (sIf (tV (eBin oGt (eUn oLen (eBin oIx (eVar 0) (eC (.int 0)))) (eC (.int 0)))) (sSet 3 (eBin oMod (eBin oIx (eBin oIx (eVar 0) (eC (.int 0))) (eBin oMod (eBin oAdd (eBin oMul (eVar 2) (eC (.int 5))) (eC (.int 3))) (eUn oLen (eBin oIx (eVar 0) (eC (.int 0)))))) (eBin oAdd (eBin oPow (eC (.int 10)) (eC (.int 17))) (eVar 2)))) sNx)) (sSeq (sSetIx putIx (eVar 0) (eC (.int 1)) (eBin oAdd (eVar 2) (eC (.int 1)))) (sSetIx putIx (eVar 0) (eC (.int 2)) (eCall φ__law_spread [true, false] (aCons (eVar 3) (aCons (eVar 2) aNil)))))))) sNx) (sSeq (sSet 4 (eBin oMod (eBin oIx (eVar 0) (eC (.int 2))) (eVar 1))) (sSeq (sSetIx putIx (eVar 0) (eC (.int 2)) (eBin oDiv (eBin oIx (eVar 0) (eC (.int 2))) (eVar 1))) (sRet (eVar 4)))))
/-- _law_names(pen, many) -/
def b__law_names (φ__law_take : SpD) : WS :=
  (sSeq (sSet 2 (eC (.str [97, 98, 99, 100, 101, 102, 103, 104, 105, 106, 107, 108, 109, 110, 111, 112, 113, 114, 115, 116, 117, 118, 119, 120, 121, 122]))) (sSeq (sSet 3 (eUn (oJoin []) (eComp [8] (iRange (eC (.int 7))) (gName 8) tYes (eBin oIx (eVar 2) (eCall φ__law_take [true, false] (aCons (eVar 0) (aCons (eC (.int 26)) aNil))))))) (sSeq (sSet 4 (eCall φ__law_take [true, false] (aCons (eVar 0) (aCons (eC (.int 3)) aNil)))) (sSeq (sSet 5 (eCall φ__law_take [true, false] (aCons (eVar 0) (aCons (eC (.int 26)) aNil)))) (sSeq (sSet 6 (eCall φ__law_take [true, false] (aCons (eVar 0) (aCons (eC (.int 8)) aNil)))) (sSeq (sSet 7 (eLst dNil)) (sSeq (sFor (iRange (eVar 1)) (gName 8) (sSeq (sSet 9 (eBin oIx (eVar 2) (eBin oMod (eBin oAdd (eVar 5) (eBin oMul (eC (.int 3)) (eVar 8))) (eC (.int 26))))) (sSeq (sSet 10 (eCut (eVar 3) none (some (eBin oMod (eBin oAdd (eVar 6) (eBin oMul (eVar 8) (eBin oMod (eVar 4) (eC (.int 2))))) (eC (.int 8)))))) (sSeq (sSet 11 (eBin oIx (eLst (dCons (eC (.int 0)) (dCons (eUn oLen (eVar 10)) (dCons (eBin oDiv (eUn oLen (eVar 10)) (eC (.int 2))) dNil)))) (eVar 4))) (sE (eMut mAppend (eVar 7) (dCons (eBin oAdd (eBin oAdd (eCut (eVar 10) none (some (eVar 11))) (eVar 9)) (eCut (eVar 10) (some (eVar 11)) none)) dNil))))))) (sRet (eVar 7)))))))))
/-- _law_letters() -/
def b__law_letters : WS :=
  (sRet (eC (.str [97, 98, 99, 100, 101, 102, 103, 104, 105, 106, 107, 108, 109, 110, 111, 112, 113, 114, 115, 116, 117, 118, 119, 120, 121, 122])))
/-- _law_is_name(word) -/
def b__law_is_name (φ__law_letters : SpD) : WS :=
  (sRet (eAnd (eChain oLe oLe (eC (.int 1)) (eUn oLen (eVar 0)) (eC (.int 8))) (eUn oAll (eComp [1] (iStr (eVar 0)) (gName 1) tYes (eBin oIn (eVar 1) (eCall φ__law_letters [] aNil))))))
/-- _law_text(pen) -/
def b__law_text (φ__law_take φ__law_letters : SpD) : WS :=
  (sSeq (sSet 1 (eBin oAdd (eC (.int 1)) (eCall φ__law_take [true, false] (aCons (eVar 0) (aCons (eC (.int 8)) aNil))))) (sSeq (sIf (tV (eBin oEq (eCall φ__law_take [true, false] (aCons (eVar 0) (aCons (eC (.int 12)) aNil))) (eC (.int 0)))) (sSet 1 (eBin oIx (eLst (dCons (eC (.int 0)) (dCons (eC (.int 9)) (dCons (eC (.int 10)) (dCons (eC (.int 30)) dNil))))) (eCall φ__law_take [true, false] (aCons (eVar 0) (aCons (eC (.int 4)) aNil))))) sNx) (sSeq (sSet 2 (eUn (oJoin []) (eComp [5] (iRange (eVar 1)) (gName 5) tYes (eBin oIx (eCall φ__law_letters [] aNil) (eCall φ__law_take [true, false] (aCons (eVar 0) (aCons (eC (.int 26)) aNil))))))) (sSeq (sIf (tAnd (tV (eBin oNe (eVar 2) (eC (.str [])))) (tV (eBin oEq (eCall φ__law_take [true, false] (aCons (eVar 0) (aCons (eC (.int 9)) aNil))) (eC (.int 0))))) (sSeq (sSet 3 (eC (.str [32, 33, 34, 35, 36, 38, 39, 40, 41, 42, 43, 44, 45, 46, 47, 48, 49, 50, 51, 52, 53, 54, 55, 56, 57, 58, 59, 60, 61, 62, 63, 64, 65, 66, 67, 68, 69, 70, 71, 72, 73, 74, 75, 76, 77, 78, 79, 80, 81, 82, 83, 84, 85, 86, 87, 88, 89, 90, 91, 92, 93, 94, 95, 123, 124, 125, 126, 10, 9]))) (sSeq (sSet 4 (eCall φ__law_take [true, false] (aCons (eVar 0) (aCons (eVar 1) aNil)))) (sSet 2 (eBin oAdd (eBin oAdd (eCut (eVar 2) none (some (eVar 4))) (eBin oIx (eVar 3) (eCall φ__law_take [true, false] (aCons (eVar 0) (aCons (eUn oLen (eVar 3)) aNil))))) (eCut (eVar 2) (some (eBin oAdd (eVar 4) (eC (.int 1)))) none))))) sNx) (sRet (eVar 2))))))
/-- _law_texts(pen, most) -/
def b__law_texts (φ__law_take φ__law_text : SpD) : WS :=
  (sSeq (sSet 2 (eLst dNil)) (sSeq (sFor (iRange (eCall φ__law_take [true, false] (aCons (eVar 0) (aCons (eBin oAdd (eVar 1) (eC (.int 1))) aNil)))) (gName 3) (sIf (tAnd (tV (eBin oNe (eVar 2) (eLst dNil))) (tV (eBin oEq (eCall φ__law_take [true, false] (aCons (eVar 0) (aCons (eC (.int 9)) aNil))) (eC (.int 0))))) (sE (eMut mAppend (eVar 2) (dCons (eBin oIx (eVar 2) (eCall φ__law_take [true, false] (aCons (eVar 0) (aCons (eUn oLen (eVar 2)) aNil)))) dNil))) (sE (eMut mAppend (eVar 2) (dCons (eCall φ__law_text [true] (aCons (eVar 0) aNil)) dNil))))) (sRet (eVar 2))))
/-- _law_first_wrong(words, most, others) -/
def b__law_first_wrong (φ__law_is_name : SpD) : WS :=
  (sSeq (sIf (tV (eBin oEq (eVar 0) (eLst dNil))) (sRet (eC (.int 0))) sNx) (sSeq (sFor (iEnum (eNs (eCut (eVar 0) none (some (eVar 1))))) (gTup [(gName 3), (gName 4)]) (sIf (tOr (tNot (tV (eCall φ__law_is_name [false] (aCons (eVar 4) aNil)))) (tOr (tV (eBin oIn (eVar 4) (eCut (eVar 0) none (some (eVar 3))))) (tV (eBin oIn (eVar 4) (eVar 2))))) (sRet (eVar 3)) sNx)) (sSeq (sIf (tV (eBin oGt (eUn oLen (eVar 0)) (eVar 1))) (sRet (eVar 1)) sNx) (sRet (eC .non)))))
/-- _law_told_of(asks, says, rooms, doors) -/
def b__law_told_of (φ_Machine___init__ φ_Machine_asks φ_Machine_says φ_Machine_rooms φ_Machine_doors : SpD) : WS :=
  (sSeq (sSet 4 (eLst (dCons (eUn oList (eVar 0)) (dCons (eUn oList (eVar 1)) (dCons (eUn oList (eVar 2)) (dCons (eUn oList (eVar 3)) dNil)))))) (sSeq (sSet 5 (eC .non)) (sSeq (sSet 6 (eC .non)) (sSeq (sTryAs (sSet 5 (eNew "Machine" φ_Machine___init__ [false, false, false, false] (aCons (eBin oIx (eVar 4) (eC (.int 0))) (aCons (eBin oIx (eVar 4) (eC (.int 1))) (aCons (eBin oIx (eVar 4) (eC (.int 2))) (aCons (eBin oIx (eVar 4) (eC (.int 3))) aNil)))))) ["NoMachine"] 7 6 (fun (z : Pd.X) => ((fun (z : Pd.X) => ((fun (z : Pd.X) => z.fs.lookup "part") z).bind fun y => ((fun (z : Pd.X) => ((fun (z : Pd.X) => z.fs.lookup "number") z).bind fun y => ((fun _ => some []) z).map fun ys => y :: ys) z).map fun ys => y :: ys) z).map .tup)) (sSeq (sIf (tV (eBin oNe (eVar 4) (eLst (dCons (eVar 0) (dCons (eVar 1) (dCons (eVar 2) (dCons (eVar 3) dNil))))))) (sRet (eC .non)) sNx) (sSeq (sIf (tV (eIsN false (eVar 5))) (sRet (eVar 6)) sNx) (sRet (eLst (dCons (eMeth "Machine" "asks" φ_Machine_asks [] (eVar 5) aNil) (dCons (eMeth "Machine" "says" φ_Machine_says [] (eVar 5) aNil) (dCons (eMeth "Machine" "rooms" φ_Machine_rooms [] (eVar 5) aNil) (dCons (eMeth "Machine" "doors" φ_Machine_doors [] (eVar 5) aNil) dNil))))))))))))
/-- _law_same(found, due) -/
def b__law_same (φ__law_same : SpD) : WS :=
  (sSeq (sIf (tV (eIsN false (eVar 1))) (sRet (eIsN false (eVar 0))) sNx) (sSeq (sIf (tV (eUn (oIsT .bool) (eVar 1))) (sRet (eAnd (eUn (oIsT .bool) (eVar 0)) (eBin oEq (eVar 0) (eVar 1)))) sNx) (sSeq (sIf (tV (eUn (oIsT .str) (eVar 1))) (sRet (eAnd (eUn (oIsT .str) (eVar 0)) (eBin oEq (eVar 0) (eVar 1)))) sNx) (sSeq (sIf (tV (eUn (oIsT .int) (eVar 1))) (sRet (eAnd (eUn (oIsT .int) (eVar 0)) (eAnd (eNot (eUn (oIsT .bool) (eVar 0))) (eBin oEq (eVar 0) (eVar 1))))) sNx) (sSeq (sIf (tAnd (tV (eUn (oIsT .tuple) (eVar 1))) (tNot (tV (eUn (oIsT .tuple) (eVar 0))))) (sRet (eC (.bl false))) sNx) (sSeq (sIf (tAnd (tV (eUn (oIsT .list) (eVar 1))) (tNot (tV (eUn (oIsT .list) (eVar 0))))) (sRet (eC (.bl false))) sNx) (sSeq (sIf (tV (eBin oNe (eUn oLen (eVar 0)) (eUn oLen (eVar 1)))) (sRet (eC (.bl false))) sNx) (sRet (eUn oAll (eComp [2, 3] (iZip (eVar 0) (eVar 1)) (gTup [(gName 2), (gName 3)]) tYes (eCall φ__law_same [false, false] (aCons (eVar 2) (aCons (eVar 3) aNil)))))))))))))
end Pd
set_option linter.all false
set_option maxRecDepth 10000
namespace Pd
def d_spread : Sg (Int × Int) := ⟨fun (c, a) ss g => ss = [.d (.int c), .d (.int a)], fun _ g r g' => g' = g ∧ ∃ n : Int, r = .d (.int n), fun _ _ _ _ => False⟩
theorem k_spread : Keeps d_spread.wp b__law_spread 5 := by
  rintro ss g E Q ⟨⟨c, a⟩, rfl, hq, _⟩
  have fin : ∀ n : Int, ∃ g2, G.le g2 g ∧ Q (.d (.int n)) g2 := fun n => ret_now (hq _ _ ⟨rfl, n, rfl⟩)
  simp [b__law_spread, begin_, s_sSeq]
  split <;> exact fin _
def d_open : Sg (List Int) := ⟨fun ns ss g => ss = [.d (.rol (ns.map D.int))], fun _ g r g' => ∃ (c : Nat) (cs : List Int), r = .own (.lst [.ref c, .int 0, .int 0]) ∧ g' c = some (.lst (cs.map D.int)), fun _ _ _ _ => False⟩
theorem k_open : Keeps d_open.wp b__law_open 4 := by
  rintro ss g E Q ⟨ns, rfl, hq, _⟩
  simp [b__law_open, begin_, s_sSeq, ← List.map_take, ← List.map_drop]
  refine for_ind (fun rest ψ g' => ∃ (k : Nat) (ms cs : List Int) (s2 s3 : Option Sl), rest = numbered k (ms.map D.int) ∧ (ms ≠ [] → cs.length = 12) ∧ ψ = [some (.d (.rol (ns.map D.int))), some (.own (.lst (cs.map D.int))), s2, s3] ∧ g' = g) ?_ ?_ _ _ _ ⟨0, (ns.take 63).drop 12, ns.take 12, none, none, rfl, fun h => ?_, rfl, rfl⟩
  · rintro x xs ψ g1 K ⟨k, ms, cs, s2, s3, h1, h2, rfl, rfl⟩ hK
    cases ms with
    | nil => cases h1
    | cons m ms =>
      simp at h1
      obtain ⟨rfl, rfl⟩ := h1
      have hl := h2 (by simp)
      have hm : (k : Int) % 12 < cs.length := by rw [hl]; omega
      have hz : 0 ≤ (k : Int) % 12 := by omega
      obtain ⟨hm2, e1⟩ := atI_in hz hm
      simp [e1, idxOf_lt hz hm, ← List.map_set]
      refine now (hK _ _ ⟨k + 1, ms, cs.set ((k : Int) % 12).toNat (cs[((k : Int) % 12).toNat] + m), _, _, rfl, fun _ => by simp [hl], rfl, rfl⟩)
  · rintro ψ g1 ⟨k, ms, cs, s2, s3, h1, h2, rfl, rfl⟩
    simp
    intro p hp
    exact ret_now (hq _ _ ⟨p, cs, rfl, by simp⟩)
  · have := List.length_pos_iff.mpr h
    simp at this ⊢
    omega
/-- the pen lies at a -/
def Pen (g : G) (a : Nat) : Prop := ∃ (c : Nat) (at_ v : Int) (cs : List Int), a ≠ c ∧ g a = some (.lst [.ref c, .int at_, .int v]) ∧ 0 ≤ at_ ∧ g c = some (.lst (cs.map D.int))
def PenC (g : G) (a c : Nat) : Prop := ∃ (at_ v : Int) (cs : List Int), a ≠ c ∧ g a = some (.lst [.ref c, .int at_, .int v]) ∧ 0 ≤ at_ ∧ g c = some (.lst (cs.map D.int))
def d_take : Sg (Nat × Int) := ⟨fun (a, m) ss g => ss = [.d (.ref a), .d (.int m)] ∧ 0 < m ∧ m < 1073741824 ∧ Pen g a, fun (a, m) g r g' => ∃ n, r = .d (.int n) ∧ 0 ≤ n ∧ n < m ∧ Pen g' a ∧ (∀ b, b ≠ a → g' b = g b) ∧ ∀ c, PenC g a c → PenC g' a c, fun _ _ _ _ => False⟩
theorem k_take : Keeps d_take.wp (b__law_take d_spread.wp) 5 := by
  rintro ss g E Q ⟨⟨a, m⟩, ⟨rfl, m0, m1, c, p, v, cs, ne, ga, p0, gc⟩, hq, _⟩
  refine seq_of (fun ψ g1 => ∃ (p v : Int) (s2 s3 : Option Sl), ψ = [some (.d (.ref a)), some (.d (.int m)), s2, s3, none] ∧ 0 ≤ p ∧ g1 a = some (.lst [.ref c, .int p, .int v]) ∧ ∀ b, b ≠ a → g1 b = g b) (fun nx hn => ?_) ?_
  · have store : ∀ x : Int, sSeq (sSetIx putIx (eVar 0) (eC (.int 1)) (eBin oAdd (eVar 2) (eC (.int 1)))) (sSetIx putIx (eVar 0) (eC (.int 2)) (eCall d_spread.wp [true, false] (aCons (eVar 3) (aCons (eVar 2) aNil))))
      ⟨nx, (endsOf E Q).rt, (endsOf E Q).bk, (endsOf E Q).ct, (endsOf E Q).ex⟩ [some (.d (.ref a)), some (.d (.int m)), some (.d (.int p)), some (.d (.int x)), none] g := fun x => by
      simp [ga, s_sSeq]
      refine call_of (x, p) rfl ?_
      rintro r g' ⟨rfl, n, rfl⟩
      simp
      exact hn _ _ ⟨p + 1, n, _, _, rfl, by omega, by simp, fun b hb => by simp [G.upd_ne hb]⟩
    rw [s_sIf]
    simp [begin_, ga]
    split
    · rw [s_sSeq]; simp [ga]
      rw [s_sSeq]; simp [ga]
      refine seq_of (fun ψ g1 => ∃ x : Int, ψ = [some (.d (.ref a)), some (.d (.int m)), some (.d (.int p)), some (.d (.int x)), none] ∧ g1 = g) (fun nx2 hn2 => ?_) ?_
      · simp [ga, gc]
        split
        · rename_i hp
          obtain ⟨_, e1⟩ := atI_in p0 hp
          simp [e1]
          exact hn2 _ _ ⟨_, rfl, rfl⟩
        · split
          · rename_i hp
            have hz := Int.emod_nonneg (p * 5 + 3) (show (cs.length : Int) ≠ 0 by omega)
            obtain ⟨_, e1⟩ := atI_in (xs := cs) hz (Int.emod_lt_of_pos _ (by omega))
            have h8 : 0 < 100000000000000000 + p := by omega
            simp [e1, hp, h8]
            exact hn2 _ _ ⟨_, rfl, rfl⟩
          · exact hn2 _ _ ⟨_, rfl, rfl⟩
      · rintro ψ g1 ⟨x, rfl, rfl⟩
        exact store x
    · exact hn _ _ ⟨p, v, _, _, rfl, p0, ga, fun _ _ => rfl⟩
  · rintro ψ g1 ⟨p, v, s2, s3, rfl, h0, h1, h2⟩
    simp [h1, m0, m1, s_sSeq]
    refine ret_now (hq _ _ ⟨v % m, rfl, Int.emod_nonneg _ (by omega), Int.emod_lt_of_pos _ m0, ⟨c, p, v / m, cs, ne, by simp, h0, by rw [G.upd_ne (Ne.symm ne), h2 c (Ne.symm ne), gc]⟩, fun b hb => by rw [G.upd_ne hb, h2 b hb], fun c' ⟨at', v', cs', n', e', _, _⟩ => ?_⟩)
    rw [ga] at e'
    cases e'
    exact ⟨p, v / m, cs, ne, by simp, h0, by rw [G.upd_ne (Ne.symm ne), h2 c (Ne.symm ne), gc]⟩
end Pd
set_option linter.all false
set_option maxRecDepth 10000
namespace Pd
def letters : List Nat := [97, 98, 99, 100, 101, 102, 103, 104, 105, 106, 107, 108, 109, 110, 111, 112, 113, 114, 115, 116, 117, 118, 119, 120, 121, 122]
def isName (w : List Nat) : Bool := decide (1 ≤ w.length) && decide (w.length ≤ 8) && w.all fun c => decide (c ∈ letters)
theorem isName_short {w : List Nat} (h : w.length < 1) : isName w = false := by simp [isName]; intros; omega
theorem isName_long {w : List Nat} (h : 8 < w.length) : isName w = false := by simp [isName]; intros; omega
theorem isName_mid {w : List Nat} (h : 1 ≤ w.length) (h' : w.length ≤ 8) : isName w = w.all fun c => decide (c ∈ letters) := by simp [isName, h, h']
theorem most_is : most = 16777216 := rfl
def d_is_name : Sg (List Nat) := ⟨fun w ss g => ss = [.d (.str w)] ∧ w.length ≤ most, fun w g r g' => g' = g ∧ r = .d (.bl (isName w)), fun _ _ _ _ => False⟩
theorem k_is_name : Keeps d_is_name.wp b_is_name 2 := by
  rintro ss g E Q ⟨w, ⟨rfl, hl⟩, hq, _⟩
  have h8 := most_is
  simp [b_is_name, begin_, hl]
  refine seq_of (fun ψ g1 => 1 ≤ w.length ∧ w.length ≤ 8 ∧ ψ = [some (.d (.str w)), none] ∧ g1 = g) (fun nx hn => ?_) ?_
  · simp [hl]
    split
    · rename_i h
      exact ret_now (hq _ _ ⟨rfl, by rw [isName_short (by omega)]⟩)
    · split
      · rename_i h
        exact ret_now (hq _ _ ⟨rfl, by rw [isName_long (by omega)]⟩)
      · rename_i h1 h2
        exact hn _ _ ⟨by omega, by omega, rfl, rfl⟩
  · rintro ψ g1 ⟨h1, h2, rfl, rfl⟩
    simp [lendAll, lend, wipe]
    refine comp_ind (fun rest acc g2 => ∃ (done cs : List Nat) (bs : List Bool), w = done ++ cs ∧ rest = cs.map (fun c => D.str [c]) ∧ bs = (done.map fun c => decide (c ∈ letters)) ∧ acc = bs.map D.bl ∧ g2 = g1) ?_ ?_ _ _ _ ⟨[], w, [], rfl, rfl, rfl, rfl, rfl⟩
    · rintro x xs acc g2 K ⟨done, cs, bs, rfl, h, rfl, rfl, rfl⟩ hK
      cases cs with
      | nil => cases h
      | cons c cs =>
        simp at h
        obtain ⟨rfl, rfl⟩ := h
        have hb : done.length < most := by rw [h8]; simp at h2; omega
        simp [hb]
        exact hK _ _ ⟨done ++ [c], cs, _, by simp, rfl, rfl, by simp [letters], rfl⟩
    · rintro acc g2 ⟨done, cs, bs, rfl, h, hbs, rfl, rfl⟩
      have : cs = [] := by simpa using h.symm
      subst this
      simp
      refine ret_now (hq _ _ ⟨rfl, ?_⟩)
      simp only [List.append_nil] at h1 h2 ⊢
      rw [isName_mid h1 h2, hbs]
      simp [Function.comp_def, List.all_map]
def d_letters : Sg Unit := ⟨fun _ ss g => ss = [], fun _ g r g' => g' = g ∧ r = .d (.str letters), fun _ _ _ _ => False⟩
theorem k_letters : Keeps d_letters.wp b__law_letters 0 := by
  rintro ss g E Q ⟨w, rfl, hq, _⟩
  simp [b__law_letters, begin_]
  exact ret_now (hq _ _ ⟨rfl, rfl⟩)
theorem k_law_is_name : Keeps d_is_name.wp (b__law_is_name d_letters.wp) 2 := by
  rintro ss g E Q ⟨w, ⟨rfl, hl⟩, hq, _⟩
  have h8 := most_is
  simp [b__law_is_name, begin_, hl]
  split
  · rename_i ha
    split
    · rename_i hb
      have h1 : 1 ≤ w.length := by omega
      have h2 : w.length ≤ 8 := by omega
      simp [lendAll, lend, wipe]
      refine comp_ind (fun rest acc g2 => ∃ (done cs : List Nat) (bs : List Bool), w = done ++ cs ∧ rest = cs.map (fun c => D.str [c]) ∧ bs = (done.map fun c => decide (c ∈ letters)) ∧ acc = bs.map D.bl ∧ g2 = g) ?_ ?_ _ _ _ ⟨[], w, [], rfl, rfl, rfl, rfl, rfl⟩
      · rintro x xs acc g2 K ⟨done, cs, bs, rfl, h, rfl, rfl, rfl⟩ hK
        cases cs with
        | nil => cases h
        | cons c cs =>
          simp at h
          obtain ⟨rfl, rfl⟩ := h
          have hb : done.length < most := by rw [h8]; simp at h2; omega
          simp [hb]
          refine call_of () rfl ?_
          rintro r g' ⟨rfl, rfl⟩
          simp [hb]
          exact hK _ _ ⟨done ++ [c], cs, (done ++ [c]).map fun c => decide (c ∈ letters), by simp, rfl, rfl, by simp, rfl⟩
      · rintro acc g2 ⟨done, cs, bs, rfl, h, hbs, rfl, rfl⟩
        have : cs = [] := by simpa using h.symm
        subst this
        simp
        refine ret_now (hq _ _ ⟨rfl, ?_⟩)
        simp only [List.append_nil] at h1 h2 ⊢
        rw [isName_mid h1 h2, hbs]
        simp [Function.comp_def, List.all_map]
    · exact ret_now (hq _ _ ⟨rfl, by rw [isName_long (by omega)]⟩)
  · exact ret_now (hq _ _ ⟨rfl, by rw [isName_short (by omega)]⟩)
end Pd
set_option linter.all false
set_option maxRecDepth 1000000
namespace Pd
/-! drawn names -/
def letAt (i : Int) : Nat := letters.getD (i % 26).toNat 0
def partK (base : List Nat) (way size : Int) (k : Nat) : List Nat := base.take ((size + k * (way % 2)) % 8).toNat
def atK (base : List Nat) (way size : Int) (k : Nat) : Nat := if way = 0 then 0 else if way = 1 then (partK base way size k).length else (partK base way size k).length / 2
def nameK (base : List Nat) (way turn size : Int) (k : Nat) : List Nat := (partK base way size k).take (atK base way size k) ++ [letAt (turn + 3 * k)] ++ (partK base way size k).drop (atK base way size k)
theorem letAt_mem (i : Int) : letAt i ∈ letters := by
  unfold letAt
  have h : (i % 26).toNat < letters.length := by show _ < 26; omega
  rw [List.getD_eq_getElem?_getD, List.getElem?_eq_getElem h]
  exact List.getElem_mem h
theorem letters_inj : ∀ i, i < 26 → ∀ j, j < 26 → letters.getD i 0 = letters.getD j 0 → i = j := by decide
theorem letAt_inj {i j : Int} (h : letAt i = letAt j) : i % 26 = j % 26 := by
  have := letters_inj (i % 26).toNat (by omega) (j % 26).toNat (by omega) h
  omega
theorem partK_len (base : List Nat) (way size : Int) (k : Nat) : (partK base way size k).length ≤ 7 := by
  unfold partK; rw [List.length_take]; omega
theorem atK_le (base : List Nat) (way size : Int) (k : Nat) : atK base way size k ≤ (partK base way size k).length := by
  unfold atK; split
  · omega
  · split <;> omega
theorem nameK_name {base : List Nat} (hb : ∀ c ∈ base, c ∈ letters) (way turn size : Int) (k : Nat) : isName (nameK base way turn size k) = true := by
  have hl := partK_len base way size k
  have ha := atK_le base way size k
  have hlen : (nameK base way turn size k).length = (partK base way size k).length + 1 := by
    unfold nameK; simp; omega
  rw [isName_mid (by omega) (by omega), List.all_eq_true]
  intro c hc
  refine decide_eq_true ?_
  unfold nameK at hc
  have hp : ∀ c ∈ partK base way size k, c ∈ letters := fun c h => hb c (List.mem_of_mem_take h)
  simp only [List.mem_append, List.mem_singleton] at hc
  rcases hc with (h | rfl) | h
  · exact hp c (List.mem_of_mem_take h)
  · exact letAt_mem _
  · exact hp c (List.mem_of_mem_drop h)
theorem mid_get {p : List Nat} {a x : Nat} (h : a ≤ p.length) : (p.take a ++ [x] ++ p.drop a)[a]? = some x := by
  rw [List.append_assoc, List.getElem?_append_right (by rw [List.length_take]; omega)]
  rw [List.length_take, Nat.min_eq_left h, Nat.sub_self]; rfl
theorem nameK_inj {base : List Nat} {way turn size : Int} (hw : way = 0 ∨ way = 1 ∨ way = 2) {j k : Nat} (hj : j < 26) (hk : k < 26) (h : nameK base way turn size j = nameK base way turn size k) : j = k := by
  have key : letAt (turn + 3 * j) = letAt (turn + 3 * k) → j = k := fun e => by
    have := letAt_inj e
    omega
  have hat : atK base way size j = atK base way size k := by
    have hlen : (nameK base way turn size j).length = (nameK base way turn size k).length := by rw [h]
    have e : ∀ i, (nameK base way turn size i).length = (partK base way size i).length + 1 := fun i => by
      have ha := atK_le base way size i
      unfold nameK; simp; omega
    rw [e, e] at hlen
    unfold atK
    rcases hw with rfl | rfl | rfl
    · simp
    · simp; omega
    · simp; omega
  have e1 := mid_get (x := letAt (turn + 3 * j)) (atK_le base way size j)
  have e2 := mid_get (x := letAt (turn + 3 * k)) (atK_le base way size k)
  have h' : ((partK base way size j).take (atK base way size j) ++ [letAt (turn + 3 * j)] ++ (partK base way size j).drop (atK base way size j)) = ((partK base way size k).take (atK base way size k) ++ [letAt (turn + 3 * k)] ++ (partK base way size k).drop (atK base way size k)) := h
  rw [h', hat, e2] at e1
  exact key (Option.some.inj e1).symm
def d_names : Sg (Nat × Nat) := ⟨fun (a, m) ss g => ss = [.d (.ref a), .d (.int m)] ∧ m ≤ 26 ∧ Pen g a,
  fun (a, m) g r g' => (∃ ws, r = .own (.lst (T ws)) ∧ ws.length = m ∧ (∀ w ∈ ws, isName w = true) ∧ ws.Nodup) ∧ Pen g' a ∧ ∀ b, b ≠ a → g' b = g b, fun _ _ _ _ => False⟩
theorem take7 {g : G} {a : Nat} {n : Int} {E : X → G → Prop} {Q : R → G → Prop} (hp : Pen g a) (h0 : 0 < n) (h1 : n < 1073741824) (k : ∀ (x : Int) (g' : G), 0 ≤ x → x < n → Pen g' a → (∀ b, b ≠ a → g' b = g b) → Q (.d (.int x)) g') : d_take.wp [.d (.ref a), .d (.int n)] g E Q :=
  call_of (a, n) ⟨rfl, h0, h1, hp⟩ fun r g' ⟨x, e, a1, a2, a3, a4, _⟩ => e ▸ k x g' a1 a2 a3 a4
theorem T_snoc (ws : List (List Nat)) (w : List Nat) : T ws ++ [D.str w] = T (ws ++ [w]) := by simp [T]
theorem k_names : Keeps d_names.wp (b__law_names d_take.wp) 12 := by
  rintro ss g E Q ⟨⟨a, m⟩, ⟨rfl, hm, hp⟩, hq, _⟩
  have h8 := most_is
  simp [b__law_names, begin_]
  rw [s_sSeq]; simp
  rw [s_sSeq]; simp [lendAll, lend, wipe]
  refine comp_ind (fun rest acc g2 => ∃ cs : List Nat, acc = cs.map (fun c => D.str [c]) ∧ cs.length + rest.length = 7 ∧ (∀ c ∈ cs, c ∈ letters) ∧ Pen g2 a ∧ ∀ b, b ≠ a → g2 b = g b) ?_ ?_ _ _ _ ⟨[], rfl, by simp, by simp, hp, fun _ _ => rfl⟩
  · rintro x xs acc g2 K ⟨cs, rfl, hl, hc, hp2, hb⟩ hK
    have hl' : cs.length + (xs.length + 1) = 7 := hl
    have : cs.length < most := by rw [h8]; omega
    simp [this]
    refine take7 hp2 (by omega) (by omega) fun n g' n0 n1 hp3 hb3 => ?_
    obtain ⟨hn, e1⟩ := atI_in (xs := letters) n0 n1
    have e1' : atI [97, 98, 99, 100, 101, 102, 103, 104, 105, 106, 107, 108, 109, 110, 111, 112, 113, 114, 115, 116, 117, 118, 119, 120, 121, 122] n = some letters[n.toNat] := e1
    simp [e1', h8, show cs.length < 16777216 by omega]
    exact hK _ _ ⟨cs ++ [letters[n.toNat]], by simp, by simp; omega, fun c hc' => (List.mem_append.mp hc').elim (hc c) fun z => by rw [List.mem_singleton.mp z]; exact List.getElem_mem _, hp3, fun b hb' => (hb3 b hb').trans (hb b hb')⟩
  · rintro acc g2 ⟨base, rfl, hl, hc, hp2, hb2⟩
    have hl : base.length = 7 := by simpa using hl
    have this : base.length ≤ most := by omega
    simp [this]
    rw [s_sSeq]; simp
    refine take7 hp2 (by omega) (by omega) fun way g3 w0 w1 hp3 hb3 => ?_
    simp
    rw [s_sSeq]; simp
    refine take7 hp3 (by omega) (by omega) fun turn g4 t0 t1 hp4 hb4 => ?_
    simp
    rw [s_sSeq]; simp
    refine take7 hp4 (by omega) (by omega) fun size g5 s0 s1 hp5 hb5 => ?_
    simp
    rw [s_sSeq]; simp
    rw [s_sSeq]; simp
    refine ⟨by omega, ?_⟩
    refine for_ind (fun rest ψ g6 => ∃ (i : Nat) (s8 s9 s10 s11 : Option Sl), i ≤ m ∧ rest = ((List.range m).drop i).map (fun i : Nat => D.int (i : Int)) ∧ g6 = g5 ∧
      ψ = [some (.d (.ref a)), some (.d (.int m)), some (.d (.str letters)), some (.d (.str base)), some (.d (.int way)), some (.d (.int turn)), some (.d (.int size)), some (.own (.lst (T ((List.range i).map (nameK base way turn size))))), s8, s9, s10, s11])
      ?_ ?_ _ _ _ ⟨0, _, _, _, _, Nat.zero_le _, rfl, rfl, rfl⟩
    · rintro x xs ψ g6 K ⟨i, s8, s9, s10, s11, hi, hr, rfl, rfl⟩ hK
      have him : i < m := by
        rcases Nat.lt_or_ge i m with h | h
        · exact h
        · rw [List.drop_of_length_le (by rw [List.length_range]; exact h)] at hr; cases hr
      rw [List.drop_eq_getElem_cons (by rw [List.length_range]; exact him), List.map_cons, List.getElem_range] at hr
      obtain ⟨rfl, rfl⟩ := List.cons.inj hr
      obtain ⟨h1, e1⟩ := atI_in (xs := letters) (i := (turn + 3 * (i : Int)) % 26) (by omega) (by show _ < (26 : Int); omega)
      have e2 : atI letters ((turn + 3 * (i : Int)) % 26) = some (letAt (turn + 3 * i)) := by
        rw [e1]
        unfold letAt
        rw [List.getD_eq_getElem?_getD, List.getElem?_eq_getElem h1]; rfl
      have hp7 := partK_len base way size i
      have z8 : 0 ≤ (size + i * (way % 2)) % 8 := by omega
      have b1 : -4611686018427387904 ≤ (size + i * (way % 2)) % 8 ∧ (size + i * (way % 2)) % 8 < 4611686018427387904 := by omega
      have hpt : cut base none (some ((size + i * (way % 2)) % 8)) = partK base way size i := cut_take _ z8
      have hpl : (partK base way size i).length ≤ most := by omega
      have hat : atI [D.int 0, D.int ((partK base way size i).length : Int), D.int (((partK base way size i).length : Int) / 2)] way = some (D.int ((atK base way size i : Nat) : Int)) := by
        have : way = 0 ∨ way = 1 ∨ way = 2 := by omega
        rcases this with rfl | rfl | rfl <;> simp [atK]
      have hak := atK_le base way size i
      have ha1 : ((atK base way size i : Nat) : Int) < 4611686018427387904 ∧ (-4611686018427387904 : Int) ≤ ((atK base way size i : Nat) : Int) := by omega
      have hl26 : letters.length ≤ most := by show 26 ≤ most; omega
      rw [s_gName]
      simp only [List.set_cons_succ, List.set_cons_zero]
      rw [s_sSeq]; simp [e2, hl26]
      rw [s_sSeq]; simp [this, b1, hpt]
      rw [s_sSeq]; simp [hpl, hat]
      simp [ha1, hpl]
      have c1 : min (atK base way size i) (partK base way size i).length + 1 ≤ most := by omega
      have c2 : min (atK base way size i) (partK base way size i).length + 1 + ((partK base way size i).length - atK base way size i) ≤ most := by omega
      have c3 : i < most := by omega
      have e9 : (List.range i).map (D.str ∘ nameK base way turn size) ++ [D.str ((partK base way size i).take (atK base way size i) ++ letAt (turn + 3 * i) :: (partK base way size i).drop (atK base way size i))] = T ((List.range (i + 1)).map (nameK base way turn size)) := by
        simp [T, List.range_succ, nameK]
      rw [e9]
      exact ⟨c1, c2, c3, now (hK _ _ ⟨i + 1, _, _, _, _, him, rfl, rfl, rfl⟩)⟩
    · rintro ψ g6 ⟨i, s8, s9, s10, s11, hi, hr, rfl, rfl⟩
      have him : i = m := by
        rcases Nat.lt_or_ge i m with h | h
        · rw [List.drop_eq_getElem_cons (by rw [List.length_range]; exact h)] at hr; cases hr
        · omega
      subst him
      simp
      refine ret_now (hq _ _ ⟨⟨(List.range i).map (nameK base way turn size), by simp [T], by simp, ?_, ?_⟩, hp5, fun b hb => by rw [hb5 b hb, hb4 b hb, hb3 b hb, hb2 b hb]⟩)
      · intro w hw
        obtain ⟨k, _, rfl⟩ := List.mem_map.mp hw
        exact nameK_name hc _ _ _ _
      · refine List.Pairwise.map _ (fun x y h => h) ?_
        refine (List.Pairwise.imp_of_mem ?_ List.nodup_range)
        intro x y hx hy hne he
        exact hne (nameK_inj (by omega) (by have := List.mem_range.mp hx; omega) (by have := List.mem_range.mp hy; omega) he)
end Pd
set_option linter.all false
set_option maxRecDepth 10000
namespace Pd
/-! drawn texts -/
def d_text : Sg Nat := ⟨fun a ss g => ss = [.d (.ref a)] ∧ Pen g a, fun a g r g' => (∃ w : List Nat, r = .d (.str w) ∧ w.length ≤ 40) ∧ Pen g' a ∧ ∀ b, b ≠ a → g' b = g b, fun _ _ _ _ => False⟩
theorem k_text : Keeps d_text.wp (b__law_text d_take.wp d_letters.wp) 6 := by
  rintro ss g E Q ⟨a, ⟨rfl, hp⟩, hq, _⟩
  have h8 := most_is
  simp [b__law_text, begin_]
  rw [s_sSeq]; simp
  refine take7 hp (by omega) (by omega) fun n g1 n0 n1 hp1 hb1 => ?_
  simp
  refine seq_of (fun ψ g2 => ∃ m : Int, ψ = [some (.d (.ref a)), some (.d (.int m)), none, none, none, none] ∧ 0 ≤ m ∧ m ≤ 30 ∧ Pen g2 a ∧ ∀ b, b ≠ a → g2 b = g b) (fun nx hn => ?_) ?_
  · simp
    refine take7 hp1 (by omega) (by omega) fun n2 g2 m0 m1 hp2 hb2 => ?_
    simp
    split
    · refine take7 hp2 (by omega) (by omega) fun n3 g3 k0 k1 hp3 hb3 => ?_
      have : n3 = 0 ∨ n3 = 1 ∨ n3 = 2 ∨ n3 = 3 := by omega
      rcases this with rfl | rfl | rfl | rfl <;> simp <;> exact hn _ _ ⟨_, rfl, by omega, by omega, hp3, fun b hb => by rw [hb3 b hb, hb2 b hb, hb1 b hb]⟩
    · exact hn _ _ ⟨_, rfl, by omega, by omega, hp2, fun b hb => by rw [hb2 b hb, hb1 b hb]⟩
  rintro ψ g2 ⟨m, rfl, m0, m1, hp2, hb2⟩
  rw [s_sSeq]; simp [lendAll, lend, wipe]
  refine ⟨by omega, by omega, ?_⟩
  refine comp_ind (fun rest acc g3 => ∃ cs : List Nat, acc = cs.map (fun c => D.str [c]) ∧ cs.length + rest.length = m.toNat ∧ Pen g3 a ∧ ∀ b, b ≠ a → g3 b = g b) ?_ ?_ _ _ _ ⟨[], rfl, by simp, hp2, hb2⟩
  · rintro x xs acc g3 K ⟨cs, rfl, hl, hp3, hb3⟩ hK
    have hl' : cs.length + (xs.length + 1) = m.toNat := hl
    have : cs.length < most := by rw [h8]; omega
    simp [this]
    refine call_of () rfl ?_
    rintro r g' ⟨rfl, rfl⟩
    simp
    refine take7 hp3 (by omega) (by omega) fun n g4 n0 n1 hp4 hb4 => ?_
    obtain ⟨hn, e1⟩ := atI_in (xs := letters) n0 n1
    have hl26 : letters.length ≤ most := by show 26 ≤ most; omega
    simp [e1, hl26, this]
    exact hK _ _ ⟨cs ++ [letters[n.toNat]], by simp, by simp; omega, hp4, fun b hb => by rw [hb4 b hb, hb3 b hb]⟩
  rintro acc g3 ⟨cs, rfl, hl, hp3, hb3⟩
  have hl : cs.length = m.toNat := by simpa using hl
  have hlm : cs.length ≤ most := by omega
  simp [hlm]
  refine seq_of (fun ψ g4 => ∃ (w : List Nat) (s3 s4 : Option Sl), ψ = [some (.d (.ref a)), some (.d (.int m)), some (.d (.str w)), s3, s4, none] ∧ w.length ≤ 40 ∧ Pen g4 a ∧ ∀ b, b ≠ a → g4 b = g b) (fun nx hn => ?_) ?_
  · simp
    split
    · exact hn _ _ ⟨_, _, _, rfl, by omega, hp3, hb3⟩
    · rename_i hne
      have hpos := List.length_pos_iff.mpr hne
      refine take7 hp3 (by omega) (by omega) fun n2 g4 k0 k1 hp4 hb4 => ?_
      simp
      split
      · rw [s_sSeq]; simp
        rw [s_sSeq]; simp
        refine take7 hp4 (by omega) (by omega) fun at_ g5 a0 a1 hp5 hb5 => ?_
        simp [hlm]
        refine ⟨by omega, by omega, ?_⟩
        have hat : at_.toNat < cs.length := by omega
        rw [cut_take cs a0]
        have h69 : (69 : Nat) ≤ most := by omega
        simp [h69]
        refine take7 hp5 (by omega) (by omega) fun k g6 b0 b1 hp6 hb6 => ?_
        obtain ⟨hk, e1⟩ := atI_in (xs := [32, 33, 34, 35, 36, 38, 39, 40, 41, 42, 43, 44, 45, 46, 47, 48, 49, 50, 51, 52, 53, 54, 55, 56, 57, 58, 59, 60, 61, 62, 63, 64, 65, 66, 67, 68, 69, 70, 71, 72, 73, 74, 75, 76, 77, 78, 79, 80, 81, 82, 83, 84, 85, 86, 87, 88, 89, 90, 91, 92, 93, 94, 95, 123, 124, 125, 126, 10, 9]) b0 b1
        simp [e1, h69, hlm]
        rw [cut_drop cs (show 0 ≤ at_ + 1 by omega)]
        simp
        refine ⟨by omega, by omega, by omega, by omega, ?_⟩
        exact hn _ _ ⟨_, _, _, rfl, by simp; omega, hp6, fun b hb => by rw [hb6 b hb, hb5 b hb, hb4 b hb, hb3 b hb]⟩
      · exact hn _ _ ⟨_, _, _, rfl, by omega, hp4, fun b hb => by rw [hb4 b hb, hb3 b hb]⟩
  · rintro ψ g4 ⟨w, s3, s4, rfl, hw, hp4, hb4⟩
    simp
    exact ret_now (hq _ _ ⟨⟨w, rfl, hw⟩, hp4, hb4⟩)
def d_texts : Sg (Nat × Nat) := ⟨fun (a, m) ss g => ss = [.d (.ref a), .d (.int m)] ∧ m ≤ 1000 ∧ Pen g a,
  fun (a, m) g r g' => (∃ ws, r = .own (.lst (T ws)) ∧ ws.length ≤ m ∧ ∀ w ∈ ws, w.length ≤ 40) ∧ Pen g' a ∧ ∀ b, b ≠ a → g' b = g b, fun _ _ _ _ => False⟩
theorem k_texts : Keeps d_texts.wp (b__law_texts d_take.wp d_text.wp) 4 := by
  rintro ss g E Q ⟨⟨a, m⟩, ⟨rfl, hm, hp⟩, hq, _⟩
  have h8 := most_is
  simp [b__law_texts, begin_]
  rw [s_sSeq]; simp
  rw [s_sSeq]; simp
  refine take7 hp (by omega) (by omega) fun n g1 n0 n1 hp1 hb1 => ?_
  simp
  refine ⟨by omega, by omega, ?_⟩
  refine for_ind (fun rest ψ g2 => ∃ (ws : List (List Nat)) (s3 : Option Sl), ws.length + rest.length ≤ m ∧ (∀ w ∈ ws, w.length ≤ 40) ∧ ψ = [some (.d (.ref a)), some (.d (.int m)), some (.own (.lst (T ws))), s3] ∧ Pen g2 a ∧ ∀ b, b ≠ a → g2 b = g b) ?_ ?_ _ _ _ ⟨[], _, by simp; omega, by simp, rfl, hp1, hb1⟩
  · rintro x xs ψ g2 K ⟨ws, s3, hl, hw, rfl, hp2, hb2⟩ hK
    have hl' : ws.length + (xs.length + 1) ≤ m := hl
    have c1 : ws.length < most := by omega
    have fresh : ∀ g3, Pen g3 a → (∀ b, b ≠ a → g3 b = g b) → sE (eMut mAppend (eVar 2) (dCons (eCall d_text.wp [true] (aCons (eVar 0) aNil)) dNil)) ⟨fun ψ' g' => ∃ g2, G.le g2 g' ∧ True ∧ K ψ' g2, (endsOf E Q).rt, sRet (eVar 2) (endsOf E Q), fun ψ' g' => ∃ g2, G.le g2 g' ∧ True ∧ K ψ' g2, (endsOf E Q).ex⟩
        [some (.d (.ref a)), some (.d (.int m)), some (.own (.lst (T ws))), some (.d x)] g3 := fun g3 hp3 hb3 => by
      simp
      refine call_of a ⟨rfl, hp3⟩ ?_
      rintro r g4 ⟨⟨w, rfl, hw4⟩, hp4, hb4⟩
      simp [c1]
      refine now (hK _ _ ⟨ws ++ [w], _, by simp; omega, fun v hv => (List.mem_append.mp hv).elim (hw v) fun z => by rw [List.mem_singleton.mp z]; exact hw4, by simp [T]; rfl, hp4, fun b hb => by rw [hb4 b hb, hb3 b hb]⟩)
    simp
    split
    · simpa using fresh g2 hp2 hb2
    · rename_i hne
      have hpos := List.length_pos_iff.mpr hne
      refine take7 hp2 (by omega) (by omega) fun n2 g4 k0 k1 hp4 hb4 => ?_
      simp
      split
      · refine take7 hp4 (by omega) (by omega) fun k g5 b0 b1 hp5 hb5 => ?_
        obtain ⟨hk, e1⟩ := atI_in (xs := ws) b0 b1
        simp [e1, c1]
        refine now (hK _ _ ⟨ws ++ [ws[k.toNat]], _, by simp; omega, fun v hv => (List.mem_append.mp hv).elim (hw v) fun z => by rw [List.mem_singleton.mp z]; exact hw _ (List.getElem_mem _), by simp [T]; rfl, hp5, fun b hb => by rw [hb5 b hb, hb4 b hb, hb2 b hb]⟩)
      · simpa using fresh g4 hp4 fun b hb => by rw [hb4 b hb, hb2 b hb]
  · rintro ψ g2 ⟨ws, s3, hl, hw, rfl, hp2, hb2⟩
    simp
    exact ret_now (hq _ _ ⟨⟨ws, by simp [T], by simpa using hl, hw⟩, hp2, hb2⟩)
end Pd
set_option linter.all false
set_option maxRecDepth 10000
namespace Pd
/-! the first wrong name -/
def fw (others : List (List Nat)) : List (List Nat) → Nat → List (List Nat) → Option Nat
  | _, _, [] => none
  | seen, n, w :: ws => if isName w = true ∧ w ∉ seen ∧ w ∉ others then fw others (seen ++ [w]) (n + 1) ws else some n
theorem fw_cons (others seen : List (List Nat)) (n : Nat) (w : List Nat) (ws : List (List Nat)) : fw others seen n (w :: ws) = if isName w = true ∧ w ∉ seen ∧ w ∉ others then fw others (seen ++ [w]) (n + 1) ws else some n := rfl
def firstWrong (m : Nat) (others ws : List (List Nat)) : Option Nat := if ws = [] then some 0 else match fw others [] 0 (ws.take m) with
  | some n => some n
  | none => if m < ws.length then some m else none
def intO : Option Nat → D
  | some n => .int (n : Int)
  | none => .non
structure Wd where
  ws : List (List Nat)
  ot : List (List Nat)
  m : Nat
def d_first : Sg Wd := ⟨fun x ss g => (∃ s1 s2, ss = [s1, .d (.int x.m), s2] ∧ lookS g s1 = some (.o (.lst (T x.ws))) ∧ lookS g s2 = some (.o (.lst (T x.ot)))) ∧ x.ws.length ≤ 4000 ∧ x.m ≤ 4000 ∧ ∀ w ∈ x.ws, w.length ≤ most,
  fun x g r g' => g' = g ∧ r = .d (intO (firstWrong x.m x.ot x.ws)), fun _ _ _ _ => False⟩
theorem k_first : Keeps d_first.wp (b__law_first_wrong d_is_name.wp) 5 := by
  rintro ss g E Q ⟨⟨ws, ot, m⟩, ⟨⟨s1, s2, rfl, h1, h2⟩, hl, hm, hw⟩, hq, _⟩
  have h8 := most_is
  simp only at h1 h2 hl hm hw
  simp [b__law_first_wrong, begin_]
  refine seq_of (fun ψ g2 => ws ≠ [] ∧ ψ = [some s1, some (.d (.int m)), some s2, none, none] ∧ g2 = g) (fun nx hn => ?_) ?_
  · simp [h1]
    split
    · rename_i h
      exact ret_now (hq _ _ ⟨rfl, by simp [firstWrong, h, intO]⟩)
    · rename_i h
      exact hn _ _ ⟨h, rfl, rfl⟩
  rintro ψ g2 ⟨hne, rfl, rfl⟩
  rw [s_sSeq]
  simp [h1]
  refine ⟨by omega, ?_⟩
  refine for_ind (fun rest ψ g3 => ∃ (seen cs : List (List Nat)) (s3 s4 : Option Sl), ws.take m = seen ++ cs ∧ rest = numbered seen.length (T cs) ∧ ψ = [some s1, some (.d (.int m)), some s2, s3, s4] ∧ g3 = g2 ∧ fw ot [] 0 (ws.take m) = fw ot seen seen.length cs) ?_ ?_ _ _ _ ⟨[], ws.take m, _, _, by simp, by simp [T, List.map_take], rfl, rfl, rfl⟩
  · rintro x xs ψ g3 K ⟨seen, cs, s3, s4, e1, e2, rfl, rfl, e3⟩ hK
    cases cs with
    | nil => cases e2
    | cons w cs =>
      simp at e2
      obtain ⟨rfl, rfl⟩ := e2
      have hlw : w.length ≤ most := hw w (List.mem_of_mem_take (by rw [e1]; simp))
      have hseen : seen.length < 4000 := by
        have : (ws.take m).length ≤ m := by rw [List.length_take]; omega
        rw [e1] at this; simp at this; omega
      have hcut : (T ws).take seen.length = T seen := by
        have hp : seen = ws.take seen.length := by
          have := congrArg (List.take seen.length) e1
          rw [List.take_take, List.take_left] at this
          have hle : seen.length ≤ m := by
            have : (ws.take m).length ≤ m := by rw [List.length_take]; omega
            rw [e1] at this; simp at this; omega
          rw [Nat.min_eq_left hle] at this
          exact this.symm
        unfold T
        rw [← List.map_take, ← hp]
      simp
      refine call_of w ⟨rfl, hlw⟩ ?_
      rintro r g' ⟨rfl, rfl⟩
      simp
      have stop : ¬ (isName w = true ∧ w ∉ seen ∧ w ∉ ot) → intO (firstWrong m ot ws) = .int (seen.length : Int) := fun hc => by
        have : fw ot seen seen.length (w :: cs) = some seen.length := by rw [fw_cons, if_neg hc]
        rw [this] at e3
        unfold firstWrong; rw [if_neg hne, e3]; rfl
      split
      · rename_i hn1
        simp [h1]
        rw [show (List.take seen.length (List.map D.str ws)) = List.map D.str seen from hcut]
        simp
        refine ⟨by omega, ?_⟩
        split
        · rename_i hs
          exact ret_now (hq _ _ ⟨rfl, by rw [stop fun z => z.2.1 hs]⟩)
        · rename_i hs
          simp [h2]
          split
          · rename_i ho
            exact ret_now (hq _ _ ⟨rfl, by rw [stop fun z => z.2.2 ho]⟩)
          · rename_i ho
            refine now (hK _ _ ⟨seen ++ [w], cs, _, _, by simp [e1], by simp, rfl, rfl, ?_⟩)
            rw [e3, fw_cons, if_pos ⟨hn1, hs, ho⟩]; simp
      · rename_i hn1
        exact ret_now (hq _ _ ⟨rfl, by rw [stop fun z => hn1 z.1]⟩)
  · rintro ψ g3 ⟨seen, cs, s3, s4, e1, e2, rfl, rfl, e3⟩
    have : cs = [] := by
      cases cs with
      | nil => rfl
      | cons w cs => cases e2
    subst this
    have e4 : fw ot [] 0 (ws.take m) = none := e3
    simp [h1, s_sSeq]
    split
    · rename_i h
      exact ret_now (hq _ _ ⟨rfl, by unfold firstWrong; rw [if_neg hne, e4]; simp [h, intO]⟩)
    · rename_i h
      exact ret_now (hq _ _ ⟨rfl, by unfold firstWrong; rw [if_neg hne, e4]; simp [h, intO]⟩)
/-! the same, as the program looks -/
structure Nd where
  part : List Nat
  ws : List (List Nat)
  m : Nat
  ot : List (List Nat)
def noMach (part : List Nat) (n : Nat) : X := ⟨"NoMachine", [("part", .str part), ("number", .int (n : Int))]⟩
def d_need : Sg Nd := ⟨fun x ss g => (∃ s1 s2, ss = [.d (.str x.part), s1, .d (.int x.m), s2] ∧ lookS g s1 = some (.o (.lst (T x.ws))) ∧ lookS g s2 = some (.o (.lst (T x.ot)))) ∧ x.ws.length ≤ 4000 ∧ x.m ≤ 4000 ∧ ∀ w ∈ x.ws, w.length ≤ most,
  fun x g r g' => g' = g ∧ r = .d .non ∧ firstWrong x.m x.ot x.ws = none, fun x g z g' => g' = g ∧ ∃ n, firstWrong x.m x.ot x.ws = some n ∧ z = noMach x.part n⟩
theorem putK_new : ∀ (kvs : List (D × D)) (k v : D), k ∉ kvs.map (·.1) → putK kvs k v = kvs ++ [(k, v)]
  | [], _, _, _ => rfl
  | p :: r, k, v, h => by
    rw [List.map_cons, List.mem_cons, not_or] at h
    show (if p.1 = k then (k, v) :: r else p :: putK r k v) = _
    rw [if_neg fun e => h.1 e.symm, putK_new r k v h.2]; rfl
theorem k_need : Keeps d_need.wp (b_need_names d_is_name.wp) 7 := by
  rintro ss g E Q ⟨⟨part, ws, m, ot⟩, ⟨⟨s1, s2, rfl, h1, h2⟩, hl, hm, hw⟩, hq, he⟩
  have h8 := most_is
  simp only at h1 h2 hl hm hw
  simp [b_need_names, begin_]
  refine seq_of (fun ψ g2 => ws ≠ [] ∧ ψ = [some (.d (.str part)), some s1, some (.d (.int m)), some s2, none, none, none] ∧ g2 = g) (fun nx hn => ?_) ?_
  · simp [h1]
    split
    · rename_i h
      exact he _ _ ⟨rfl, 0, by simp [firstWrong, h], rfl⟩
    · rename_i h
      exact hn _ _ ⟨h, rfl, rfl⟩
  rintro ψ g2 ⟨hne, rfl, rfl⟩
  rw [s_sSeq]; simp
  rw [s_sSeq]; simp [h1]
  refine ⟨by omega, ?_⟩
  refine for_ind (fun rest ψ g3 => ∃ (seen cs : List (List Nat)) (kvs : List (D × D)) (s5 s6 : Option Sl), ws.take m = seen ++ cs ∧ rest = numbered seen.length (T cs) ∧ kvs.map (·.1) = T seen ∧
    ψ = [some (.d (.str part)), some s1, some (.d (.int m)), some s2, some (.own (.dic false kvs)), s5, s6] ∧ g3 = g2 ∧ fw ot [] 0 (ws.take m) = fw ot seen seen.length cs) ?_ ?_ _ _ _ ⟨[], ws.take m, [], _, _, by simp, by simp [T, List.map_take], rfl, rfl, rfl, rfl⟩
  · rintro x xs ψ g3 K ⟨seen, cs, kvs, s5, s6, e1, e2, ek, rfl, rfl, e3⟩ hK
    cases cs with
    | nil => cases e2
    | cons w cs =>
      simp at e2
      obtain ⟨rfl, rfl⟩ := e2
      have hlw : w.length ≤ most := hw w (List.mem_of_mem_take (by rw [e1]; simp))
      have hseen : seen.length < 4000 := by
        have : (ws.take m).length ≤ m := by rw [List.length_take]; omega
        rw [e1] at this; simp at this; omega
      have hkl : kvs.length = seen.length := by
        have := congrArg List.length ek; simpa [T] using this
      simp
      rw [s_sSeq]; simp
      refine call_of w ⟨rfl, hlw⟩ ?_
      rintro r g' ⟨rfl, rfl⟩
      have stop : ¬ (isName w = true ∧ w ∉ seen ∧ w ∉ ot) → firstWrong m ot ws = some seen.length := fun hc => by
        have : fw ot seen seen.length (w :: cs) = some seen.length := by rw [fw_cons, if_neg hc]
        rw [this] at e3
        unfold firstWrong; rw [if_neg hne, e3]
      have hko : keyOk false (.str w) = true := rfl
      simp [hko, ek]
      split
      · rename_i hn1
        split
        · rename_i hs
          exact he _ _ ⟨rfl, _, stop fun z => z.2.1 hs, rfl⟩
        · rename_i hs
          simp [h2]
          split
          · rename_i ho
            exact he _ _ ⟨rfl, _, stop fun z => z.2.2 ho, rfl⟩
          · rename_i ho
            have hnk : D.str w ∉ kvs.map (·.1) := by rw [ek]; simpa [T] using hs
            simp [hko, putK_new _ _ _ hnk]
            refine ⟨by omega, now (hK _ _ ⟨seen ++ [w], cs, kvs ++ [(.str w, .bl true)], _, _, by simp [e1], by simp, by simp [ek, T], rfl, rfl, ?_⟩)⟩
            rw [e3, fw_cons, if_pos ⟨hn1, hs, ho⟩]; simp
      · rename_i hn1
        exact he _ _ ⟨rfl, _, stop fun z => hn1 z.1, rfl⟩
  · rintro ψ g3 ⟨seen, cs, kvs, s5, s6, e1, e2, ek, rfl, rfl, e3⟩
    have : cs = [] := by
      cases cs with
      | nil => rfl
      | cons w cs => cases e2
    subst this
    have e4 : fw ot [] 0 (ws.take m) = none := e3
    simp [h1]
    split
    · rename_i h
      exact he _ _ ⟨rfl, m, by unfold firstWrong; rw [if_neg hne, e4]; simp [h], rfl⟩
    · rename_i h
      exact ret_now (hq _ _ ⟨rfl, rfl, by unfold firstWrong; rw [if_neg hne, e4]; simp [h]⟩)
end Pd
set_option linter.all false
set_option maxRecDepth 10000
namespace Pd
/-! machines without doors -/
structure Mc where
  p : Nat
  asks : List (List Nat)
  says : List (List Nat)
  rooms : List (List Nat)
theorem fw_none {others : List (List Nat)} : ∀ {ws seen : List (List Nat)} {n : Nat}, fw others seen n ws = none → ws.Nodup ∧ (∀ w ∈ ws, w ∉ seen) ∧ (∀ w ∈ ws, isName w = true ∧ w ∉ others)
  | [], _, _, _ => ⟨List.nodup_nil, fun _ h => (nomatch h), fun _ h => (nomatch h)⟩
  | w :: ws, seen, n, h => by
    rw [fw_cons] at h
    split at h
    · rename_i hc
      obtain ⟨h1, h2, h3⟩ := fw_none h
      refine ⟨List.nodup_cons.mpr ⟨fun hm => h2 w hm (by simp), h1⟩, fun v hv => ?_, fun v hv => ?_⟩
      · rcases List.mem_cons.mp hv with rfl | hv
        · exact hc.2.1
        · exact fun z => h2 v hv (List.mem_append_left _ z)
      · rcases List.mem_cons.mp hv with rfl | hv
        · exact ⟨hc.1, hc.2.2⟩
        · exact h3 v hv
    · cases h
theorem firstWrong_none {m : Nat} {others ws : List (List Nat)} (h : firstWrong m others ws = none) : ws ≠ [] ∧ ws.length ≤ m ∧ ws.Nodup ∧ ∀ w ∈ ws, isName w = true ∧ w ∉ others := by
  unfold firstWrong at h
  split at h
  · cases h
  · rename_i hne
    split at h
    · cases h
    · rename_i e
      split at h
      · cases h
      · rename_i hl
        rw [List.take_of_length_le (by omega)] at e
        obtain ⟨h1, _, h3⟩ := fw_none e
        exact ⟨hne, by omega, h1, h3⟩
/-- which part of it is refused first -/
def badPart (asks says rooms : List (List Nat)) : Option (List Nat × Nat) :=
  match firstWrong 4 [] asks with
  | some n => some ([97, 115, 107, 115], n)
  | none => match firstWrong 4 asks says with
    | some n => some ([115, 97, 121, 115], n)
    | none => match firstWrong 150 [] rooms with
      | some n => some ([114, 111, 111, 109, 115], n)
      | none => none
def MachAt (g : G) (x : Mc) : Prop := ∃ (q1 q2 q3 q4 : Nat) (kvs : List (D × D)), g x.p = some (.ins "Machine" [("ask_words", .ref q1), ("say_words", .ref q2), ("leading", .ref q3), ("all_doors", .ref q4)]) ∧
  g q1 = some (.lst (T x.asks)) ∧ g q2 = some (.lst (T x.says)) ∧ g q3 = some (.dic false kvs) ∧ kvs.map (·.1) = T x.rooms ∧ g q4 = some (.lst [])
def d_doors0 : Sg Unit := ⟨fun _ ss g => ∃ s1 s2 s3 s4, ss = [s1, s2, s3, s4] ∧ lookS g s1 = some (.o (.lst [])), fun _ g r g' => g' = g ∧ r = .d .non, fun _ _ _ _ => False⟩
theorem k_doors0 {φ : SpD} : Keeps d_doors0.wp (b_need_doors φ) 10 := by
  rintro ss g E Q ⟨_, ⟨s1, s2, s3, s4, rfl, h1⟩, hq, _⟩
  simp [b_need_doors, begin_, s_sSeq, h1]
  exact ret_now (hq _ _ ⟨rfl, rfl⟩)
def d_round0 : Sg (Nat × List Nat) := ⟨fun (p, room) ss g => ss = [.d (.ref p), .d (.str room)] ∧ ∃ fs q3 kvs q, g p = some (.ins "Machine" fs) ∧ fs.lookup "leading" = some (.ref q3) ∧ g q3 = some (.dic false kvs) ∧ lookK kvs (.str room) = some (.ref q) ∧ g q = some (.lst []),
  fun _ g r g' => g' = g ∧ r = .d (.bl false), fun _ _ _ _ => False⟩
theorem k_round0 : Keeps d_round0.wp b_Machine_comes_round 6 := by
  rintro ss g E Q ⟨⟨p, room⟩, ⟨rfl, fs, q3, kvs, q, h1, h2, h3, h4, h5⟩, hq, _⟩
  have h8 := most_is
  simp [b_Machine_comes_round, begin_, s_sSeq]
  refine while_ind (fun n ψ g3 => ∃ (due : List (List Nat)) (s4 s5 : Option Sl), ((n = 1 ∧ due = [room]) ∨ (n = 0 ∧ due = [])) ∧ ψ = [some (.d (.ref p)), some (.d (.str room)), some (.own (.dic false [])), some (.own (.lst (T due))), s4, s5] ∧ g3 = g) ?_ 1 _ _ ⟨[room], _, _, .inl ⟨rfl, rfl⟩, rfl, rfl⟩
  rintro n ψ g3 K ⟨due, s4, s5, hd, rfl, rfl⟩ hK
  simp
  rcases hd with ⟨rfl, rfl⟩ | ⟨rfl, rfl⟩
  · have hko : keyOk false (.str room) = true := rfl
    simp [s_sSeq, h1, h2, h3, hko, h4, h5]
    exact now (hK 0 _ _ (by omega) ⟨[], _, _, .inr ⟨rfl, rfl⟩, rfl, rfl⟩)
  · simp
    exact ret_now (hq _ _ ⟨rfl, rfl⟩)
theorem look_lst {g : G} {s : Sl} {xs : List D} {p q : Nat} {c : String} {fs fs' : List (String × D)} {o : O} (h : lookS g s = some (.o (.lst xs))) (hp : g p = some (.ins c fs)) (hq : g q = none) : lookS ((g.upd q o).upd p (.ins c fs')) s = some (.o (.lst xs)) := by
  have hne : p ≠ q := fun z => by rw [z, hq] at hp; cases hp
  refine lookS_upd (lookS_new h hq) fun o' e z => ?_
  rw [G.upd_ne hne, hp] at e
  cases e; cases z
theorem keep_new {g g1 : G} {p q : Nat} {o o' : O} (h : ∀ a u, g a = some u → a ≠ p → g1 a = some u) (hq : g1 q = none) : ∀ a u, g a = some u → a ≠ p → ((g1.upd q o).upd p o') a = some u := fun a u e ne => by
  have h1 := h a u e ne
  have hne : a ≠ q := fun z => by rw [z, hq] at h1; cases h1
  rw [G.upd_ne ne, G.upd_ne hne]; exact h1
def d_init0 : Sg Mc := ⟨fun x ss g => (∃ s1 s2 s3 s4, ss = [.d (.ref x.p), s1, s2, s3, s4] ∧ lookS g s1 = some (.o (.lst (T x.asks))) ∧ lookS g s2 = some (.o (.lst (T x.says))) ∧ lookS g s3 = some (.o (.lst (T x.rooms))) ∧ lookS g s4 = some (.o (.lst []))) ∧
    g x.p = some (.ins "Machine" []) ∧ (x.asks.length ≤ 4000 ∧ x.says.length ≤ 4000 ∧ x.rooms.length ≤ 4000) ∧ (∀ w ∈ x.asks, w.length ≤ most) ∧ (∀ w ∈ x.says, w.length ≤ most) ∧ ∀ w ∈ x.rooms, w.length ≤ most,
  fun x g r g' => r = .d .non ∧ badPart x.asks x.says x.rooms = none ∧ MachAt g' x ∧ ∀ a u, g a = some u → a ≠ x.p → g' a = some u,
  fun x g z g' => g' = g ∧ ∃ part n, badPart x.asks x.says x.rooms = some (part, n) ∧ z = noMach part n⟩
theorem k_init0 : Keeps d_init0.wp (b_Machine___init__ d_need.wp d_doors0.wp d_round0.wp) 8 := by
  rintro ss g E Q ⟨⟨p, asks, says, rooms⟩, ⟨⟨s1, s2, s3, s4, rfl, h1, h2, h3, h4⟩, hp, ⟨l1, l2, l3⟩, w1, w2, w3⟩, hq, he⟩
  have h8 := most_is
  simp only at h1 h2 h3 h4 hp l1 l2 l3 w1 w2 w3
  simp [b_Machine___init__, begin_]
  rw [s_sSeq]; simp
  refine call_of ⟨[97, 115, 107, 115], asks, 4, []⟩ ⟨⟨lendS s1, .bor (.lst []), rfl, by simpa using h1, rfl⟩, l1, by simp, w1⟩ ?_ ?_
  rotate_left
  · rintro z g' ⟨rfl, n, e1, rfl⟩
    exact he _ _ ⟨rfl, _, n, by simp [badPart, e1], rfl⟩
  rintro r g' ⟨rfl, rfl, e1⟩
  rw [s_sSeq]; simp
  refine call_of ⟨[115, 97, 121, 115], says, 4, asks⟩ ⟨⟨lendS s2, lendS s1, rfl, by simpa using h2, by simpa using h1⟩, l2, by simp, w2⟩ ?_ ?_
  rotate_left
  · rintro z g' ⟨rfl, n, e2, rfl⟩
    exact he _ _ ⟨rfl, _, n, by simp [badPart, e1, e2], rfl⟩
  rintro r g' ⟨rfl, rfl, e2⟩
  rw [s_sSeq]; simp
  refine call_of ⟨[114, 111, 111, 109, 115], rooms, 150, []⟩ ⟨⟨lendS s3, .bor (.lst []), rfl, by simpa using h3, rfl⟩, l3, by simp, w3⟩ ?_ ?_
  rotate_left
  · rintro z g' ⟨rfl, n, e3, rfl⟩
    exact he _ _ ⟨rfl, _, n, by simp [badPart, e1, e2, e3], rfl⟩
  rintro r g' ⟨rfl, rfl, e3⟩
  have hbad : badPart asks says rooms = none := by simp [badPart, e1, e2, e3]
  obtain ⟨_, _, hnd, _⟩ := firstWrong_none e3
  -- the words
  rw [s_sSeq]; simp [h1]
  intro q1 hq1
  have hp1 : p ≠ q1 := fun z => by rw [z, hq1] at hp; cases hp
  simp [G.upd_ne hp1, hp, putF]
  generalize hg1 : (g'.upd q1 (O.lst (List.map D.str asks))).upd p (O.ins "Machine" [("ask_words", D.ref q1)]) = g1
  have k1 : ∀ a u, g' a = some u → a ≠ p → g1 a = some u := hg1 ▸ keep_new (fun a u e _ => e) hq1
  have a1 : g1 q1 = some (.lst (T asks)) := by rw [← hg1, G.upd_ne (Ne.symm hp1), G.upd_same]
  have b1 : g1 p = some (.ins "Machine" [("ask_words", .ref q1)]) := by rw [← hg1, G.upd_same]
  have h2 := hg1 ▸ look_lst (o := .lst (T asks)) (fs' := [("ask_words", .ref q1)]) h2 hp hq1
  have h1' := hg1 ▸ look_lst (o := .lst (T asks)) (fs' := [("ask_words", .ref q1)]) h1 hp hq1
  have h3 := hg1 ▸ look_lst (o := .lst (T asks)) (fs' := [("ask_words", .ref q1)]) h3 hp hq1
  have h4 := hg1 ▸ look_lst (o := .lst (T asks)) (fs' := [("ask_words", .ref q1)]) h4 hp hq1
  rw [s_sSeq]; simp [h2]
  intro q2 hq2
  have hp2 : p ≠ q2 := fun z => by rw [z, hq2] at b1; cases b1
  simp [G.upd_ne hp2, b1, putF]
  generalize hg2 : (g1.upd q2 (O.lst (List.map D.str says))).upd p (O.ins "Machine" [("ask_words", D.ref q1), ("say_words", D.ref q2)]) = g2
  have k2 : ∀ a u, g' a = some u → a ≠ p → g2 a = some u := hg2 ▸ keep_new k1 hq2
  have a2 : g2 q2 = some (.lst (T says)) := by rw [← hg2, G.upd_ne (Ne.symm hp2), G.upd_same]
  have a1 : g2 q1 = some (.lst (T asks)) := by
    have : q1 ≠ q2 := fun z => by rw [z, hq2] at a1; cases a1
    rw [← hg2, G.upd_ne (Ne.symm hp1), G.upd_ne this]; exact a1
  have b2 : g2 p = some (.ins "Machine" [("ask_words", .ref q1), ("say_words", .ref q2)]) := by rw [← hg2, G.upd_same]
  have h1' := hg2 ▸ look_lst (o := .lst (T says)) (fs' := [("ask_words", .ref q1), ("say_words", .ref q2)]) h1' b1 hq2
  have h3 := hg2 ▸ look_lst (o := .lst (T says)) (fs' := [("ask_words", .ref q1), ("say_words", .ref q2)]) h3 b1 hq2
  have h4 := hg2 ▸ look_lst (o := .lst (T says)) (fs' := [("ask_words", .ref q1), ("say_words", .ref q2)]) h4 b1 hq2
  rw [s_sSeq]; simp
  intro q3 hq3
  have hp3 : p ≠ q3 := fun z => by rw [z, hq3] at b2; cases b2
  simp [G.upd_ne hp3, b2, putF]
  generalize hg3 : (g2.upd q3 (O.dic false [])).upd p (O.ins "Machine" [("ask_words", D.ref q1), ("say_words", D.ref q2), ("leading", D.ref q3)]) = g3
  have k3 : ∀ a u, g' a = some u → a ≠ p → g3 a = some u := hg3 ▸ keep_new k2 hq3
  have a3 : g3 q3 = some (.dic false []) := by rw [← hg3, G.upd_ne (Ne.symm hp3), G.upd_same]
  have a1 : g3 q1 = some (.lst (T asks)) := by
    have : q1 ≠ q3 := fun z => by rw [z, hq3] at a1; cases a1
    rw [← hg3, G.upd_ne (Ne.symm hp1), G.upd_ne this]; exact a1
  have a2 : g3 q2 = some (.lst (T says)) := by
    have : q2 ≠ q3 := fun z => by rw [z, hq3] at a2; cases a2
    rw [← hg3, G.upd_ne (Ne.symm hp2), G.upd_ne this]; exact a2
  have b3 : g3 p = some (.ins "Machine" [("ask_words", .ref q1), ("say_words", .ref q2), ("leading", .ref q3)]) := by rw [← hg3, G.upd_same]
  have h1' := hg3 ▸ look_lst (o := .dic false []) (fs' := [("ask_words", .ref q1), ("say_words", .ref q2), ("leading", .ref q3)]) h1' b2 hq3
  have h3 := hg3 ▸ look_lst (o := .dic false []) (fs' := [("ask_words", .ref q1), ("say_words", .ref q2), ("leading", .ref q3)]) h3 b2 hq3
  have h4 := hg3 ▸ look_lst (o := .dic false []) (fs' := [("ask_words", .ref q1), ("say_words", .ref q2), ("leading", .ref q3)]) h4 b2 hq3
  -- the rooms
  rw [s_sSeq]; simp [h3]
  refine for_ind (fun rest ψ g4 => ∃ (done cs : List (List Nat)) (kvs : List (D × D)) (s5 : Option Sl), rooms = done ++ cs ∧ rest = T cs ∧ kvs.map (·.1) = T done ∧ ψ = [some (.d (.ref p)), some s1, some s2, some s3, some s4, s5, none, none] ∧
    g4 q3 = some (.dic false kvs) ∧ (∀ w ∈ done, ∃ q, lookK kvs (.str w) = some (.ref q) ∧ g4 q = some (.lst [])) ∧ ∀ a u, g3 a = some u → a ≠ q3 → g4 a = some u) ?_ ?_ _ _ _ ⟨[], rooms, [], _, rfl, rfl, rfl, rfl, a3, fun _ h => (nomatch h), fun a u e _ => e⟩
  · rintro x xs ψ g4 K ⟨done, cs, kvs, s5, er, e5, ek, rfl, a4, hv, k4⟩ hK
    cases cs with
    | nil => cases e5
    | cons w cs =>
      obtain ⟨rfl, rfl⟩ := List.cons.inj e5
      have hkl : kvs.length = done.length := by have := congrArg List.length ek; simpa [T] using this
      have hdl : done.length < 4000 := by rw [er] at l3; simp at l3; omega
      have hwd : w ∉ done := fun hm => by
        rw [er] at hnd
        exact (List.nodup_append.mp hnd).2.2 w hm w (by simp) rfl
      have hnk : D.str w ∉ kvs.map (·.1) := by rw [ek]; simpa [T] using hwd
      have b4 := k4 p _ b3 hp3
      have hko : keyOk false (.str w) = true := rfl
      simp
      intro q hq
      have n1 : p ≠ q := fun z => by rw [z, hq] at b4; cases b4
      have n2 : q3 ≠ q := fun z => by rw [z, hq] at a4; cases a4
      have hk9 : kvs.length < most := by omega
      have el : List.lookup "leading" [("ask_words", D.ref q1), ("say_words", D.ref q2), ("leading", D.ref q3)] = some (.ref q3) := rfl
      simp [G.upd_ne n1, b4, G.upd_ne n2, a4, hko, hk9, putK_new _ _ _ hnk, el]
      have kk : ∀ a u, g4 a = some u → a ≠ q3 → ((g4.upd q (.lst [])).upd q3 (.dic false (kvs ++ [(.str w, .ref q)]))) a = some u := keep_new (fun a u e _ => e) hq
      have h3' : lookS ((g4.upd q (.lst [])).upd q3 (.dic false (kvs ++ [(.str w, .ref q)]))) s3 = some (.o (.lst (T rooms))) :=
        look_mid (look_mid h3 a3 (by intro z; cases z) k4) a4 (by intro z; cases z) kk
      refine now ⟨h3', hK _ _ ⟨done ++ [w], cs, _, _, by simp [er], rfl, by simp [ek, T], rfl, G.upd_same, fun v hm => ?_, fun a u e ne => kk a u (k4 a u e ne) ne⟩⟩
      have look_app : ∀ (kvs : List (D × D)) (k v : D), k ∉ kvs.map (·.1) → lookK (kvs ++ [(k, v)]) k = some v := by
        intro kvs k v h
        induction kvs with
        | nil => simp [lookK]
        | cons p r ih =>
          rw [List.map_cons, List.mem_cons, not_or] at h
          show (if p.1 = k then some p.2 else lookK (r ++ [(k, v)]) k) = _
          rw [if_neg fun e => h.1 e.symm, ih h.2]
      have look_old : ∀ (kvs : List (D × D)) (k v j u : D), lookK kvs j = some u → lookK (kvs ++ [(k, v)]) j = some u := by
        intro kvs k v j u h
        induction kvs with
        | nil => cases h
        | cons p r ih =>
          have h' : (if p.1 = j then some p.2 else lookK r j) = some u := h
          show (if p.1 = j then some p.2 else lookK (r ++ [(k, v)]) j) = _
          split at h'
          · rename_i e; rw [if_pos e]; exact h'
          · rename_i e; rw [if_neg e]; exact ih h'
      rcases List.mem_append.mp hm with hm | hm
      · obtain ⟨q', e6, e7⟩ := hv v hm
        have n3 : q' ≠ q3 := fun z => by rw [z, a4] at e7; cases e7
        exact ⟨q', look_old _ _ _ _ _ e6, kk _ _ e7 n3⟩
      · rw [List.mem_singleton.mp hm]
        exact ⟨q, look_app _ _ _ hnk, by rw [G.upd_ne (Ne.symm n2), G.upd_same]⟩
  rintro ψ g4 ⟨done, cs, kvs, s5, er, e5, ek, rfl, a4, hv, k4⟩
  have hcs : cs = [] := by
    cases cs with
    | nil => rfl
    | cons w cs => cases e5
  subst hcs
  rw [List.append_nil] at er
  subst er
  have b4 := k4 p _ b3 hp3
  have h4 := look_mid h4 a3 (by intro z; cases z) k4
  have h3 := look_mid h3 a3 (by intro z; cases z) k4
  have el : List.lookup "leading" [("ask_words", D.ref q1), ("say_words", D.ref q2), ("leading", D.ref q3)] = some (.ref q3) := rfl
  simp
  rw [s_sSeq]; simp [b4, el]
  refine call_of () ⟨_, _, _, _, rfl, by simpa using h4⟩ ?_
  rintro r g5 ⟨rfl, rfl⟩
  rw [s_sSeq]; simp [h4]
  intro q4 hq4
  have hp4 : p ≠ q4 := fun z => by rw [z, hq4] at b4; cases b4
  simp [G.upd_ne hp4, b4, putF]
  generalize hg5 : (g5.upd q4 (O.lst [])).upd p (O.ins "Machine" [("ask_words", D.ref q1), ("say_words", D.ref q2), ("leading", D.ref q3), ("all_doors", D.ref q4)]) = g6
  have kk : ∀ a u, g5 a = some u → a ≠ p → g6 a = some u := hg5 ▸ keep_new (fun a u e _ => e) hq4
  have b6 : g6 p = some (.ins "Machine" [("ask_words", .ref q1), ("say_words", .ref q2), ("leading", .ref q3), ("all_doors", .ref q4)]) := by rw [← hg5, G.upd_same]
  have c4 : g6 q4 = some (.lst []) := by rw [← hg5, G.upd_ne (Ne.symm hp4), G.upd_same]
  have h4 := hg5 ▸ look_lst (o := .lst []) (fs' := [("ask_words", .ref q1), ("say_words", .ref q2), ("leading", .ref q3), ("all_doors", .ref q4)]) h4 b4 hq4
  have h3 := hg5 ▸ look_lst (o := .lst []) (fs' := [("ask_words", .ref q1), ("say_words", .ref q2), ("leading", .ref q3), ("all_doors", .ref q4)]) h3 b4 hq4
  have c3 : g6 q3 = some (.dic false kvs) := kk _ _ a4 (Ne.symm hp3)
  rw [s_sSeq]; simp [h4]
  simp [h3]
  refine for_ind (fun rest ψ g7 => ∃ (n : Nat) (cs : List (List Nat)) (s5 s7 : Option Sl), rest = numbered n (T cs) ∧ (∀ w ∈ cs, w ∈ rooms) ∧ g7 = g6 ∧ ψ = [some (.d (.ref p)), some s1, some s2, some s3, some s4, s5, none, s7]) ?_ ?_ _ _ _ ⟨0, rooms, _, _, rfl, fun _ h => h, rfl, rfl⟩
  · rintro x xs ψ g7 K ⟨n, cs, s5, s7, e6, hm, rfl, rfl⟩ hK
    cases cs with
    | nil => cases e6
    | cons w cs =>
      obtain ⟨rfl, rfl⟩ := List.cons.inj e6
      obtain ⟨q, e7, e8⟩ := hv w (hm w (by simp))
      have n4 : q ≠ p := fun z => by rw [z, b4] at e8; cases e8
      have hin : IsIns g7 p "Machine" "comes_round" := by unfold IsIns; rw [b6]; exact ⟨rfl, rfl⟩
      simp [hin]
      refine call_of (p, w) ⟨rfl, _, q3, kvs, q, b6, rfl, c3, e7, kk _ _ e8 n4⟩ ?_
      rintro r g8 ⟨rfl, rfl⟩
      simp
      exact now ⟨h3, hK _ _ ⟨n + 1, cs, _, _, rfl, fun v hv => hm v (List.mem_cons_of_mem _ hv), rfl, rfl⟩⟩
  · rintro ψ g7 ⟨n, cs, s5, s7, e6, hm, rfl, rfl⟩
    simp
    refine ret_now (hq _ _ ⟨rfl, hbad, ⟨q1, q2, q3, q4, kvs, b6, ?_, ?_, c3, ek, c4⟩, fun a u e ne => ?_⟩)
    · have m1 : q1 ≠ q3 := fun z => by rw [z, a3] at a1; cases a1
      exact kk _ _ (k4 _ _ a1 m1) (Ne.symm hp1)
    · have m2 : q2 ≠ q3 := fun z => by rw [z, a3] at a2; cases a2
      exact kk _ _ (k4 _ _ a2 m2) (Ne.symm hp2)
    · have m3 : a ≠ q3 := fun z => by
        have := k2 a u e ne
        rw [z, hq3] at this; cases this
      exact kk _ _ (k4 _ _ (k3 _ _ e ne) m3) ne
end Pd
set_option linter.all false
set_option maxRecDepth 10000
namespace Pd
/-! the law's own comparison: both sides denote the same data -/
def denL (f : D → Option D) : List D → Option (List D)
  | [] => some []
  | x :: xs => match f x, denL f xs with
    | some y, some ys => some (y :: ys)
    | _, _ => none
def denC (f : D → Option D) : C → Option D
  | .o (.lst xs) => if xs.length < 4000 then (denL f xs).map .rol else none
  | .d (.tup xs) => if xs.length < 4000 then (denL f xs).map .tup else none
  | .d (.rol xs) => if xs.length < 4000 then (denL f xs).map .rol else none
  | .d .non => some .non
  | .d (.bl b) => some (.bl b)
  | .d (.int i) => some (.int i)
  | .d (.str s) => some (.str s)
  | _ => none
def den : Nat → G → D → Option D
  | 0, _, _ => none
  | n + 1, g, x => (lookD g x).bind (denC (den n g))
def seqC : C → Option (List D)
  | .o (.lst xs) => some xs
  | .d (.tup xs) => some xs
  | .d (.rol xs) => some xs
  | _ => none
theorem denL_cons {f : D → Option D} {x : D} {xs zs : List D} (h : denL f (x :: xs) = some zs) : ∃ y ys, f x = some y ∧ denL f xs = some ys ∧ zs = y :: ys := by
  have h' : (match f x, denL f xs with | some y, some ys => some (y :: ys) | _, _ => none) = some zs := h
  split at h'
  · rename_i y ys e1 e2; cases h'; exact ⟨y, ys, e1, e2, rfl⟩
  · cases h'
theorem denL_len {f : D → Option D} : ∀ {xs zs : List D}, denL f xs = some zs → xs.length = zs.length
  | [], _, h => by cases h; rfl
  | x :: xs, _, h => by
    obtain ⟨y, ys, _, h2, rfl⟩ := denL_cons h
    simp [denL_len h2]
def d_same (n : Nat) : Sg Unit := ⟨fun _ ss g => ∃ s1 s2 c1 c2 v, ss = [s1, s2] ∧ lookS g s1 = some c1 ∧ lookS g s2 = some c2 ∧ denC (den n g) c1 = some v ∧ denC (den n g) c2 = some v, fun _ g r g' => g' = g ∧ r = .d (.bl true), fun _ _ _ _ => False⟩
inductive Alike (f : D → Option D) : C → C → Prop
  | non : Alike f (.d .non) (.d .non)
  | bl (b : Bool) : Alike f (.d (.bl b)) (.d (.bl b))
  | int (i : Int) : Alike f (.d (.int i)) (.d (.int i))
  | str (s : List Nat) : Alike f (.d (.str s)) (.d (.str s))
  | tt (xs ys zs : List D) : xs.length < 4000 → denL f xs = some zs → denL f ys = some zs → Alike f (.d (.tup xs)) (.d (.tup ys))
  | ll (xs ys zs : List D) : xs.length < 4000 → denL f xs = some zs → denL f ys = some zs → Alike f (.o (.lst xs)) (.o (.lst ys))
  | lr (xs ys zs : List D) : xs.length < 4000 → denL f xs = some zs → denL f ys = some zs → Alike f (.o (.lst xs)) (.d (.rol ys))
  | rl (xs ys zs : List D) : xs.length < 4000 → denL f xs = some zs → denL f ys = some zs → Alike f (.d (.rol xs)) (.o (.lst ys))
  | rr (xs ys zs : List D) : xs.length < 4000 → denL f xs = some zs → denL f ys = some zs → Alike f (.d (.rol xs)) (.d (.rol ys))
inductive Dn (f : D → Option D) : C → D → Prop
  | non : Dn f (.d .non) .non
  | bl (b : Bool) : Dn f (.d (.bl b)) (.bl b)
  | int (i : Int) : Dn f (.d (.int i)) (.int i)
  | str (s : List Nat) : Dn f (.d (.str s)) (.str s)
  | t (xs zs : List D) : xs.length < 4000 → denL f xs = some zs → Dn f (.d (.tup xs)) (.tup zs)
  | l (xs zs : List D) : xs.length < 4000 → denL f xs = some zs → Dn f (.o (.lst xs)) (.rol zs)
  | r (xs zs : List D) : xs.length < 4000 → denL f xs = some zs → Dn f (.d (.rol xs)) (.rol zs)
theorem dn_of {f : D → Option D} {c : C} {v : D} (h : denC f c = some v) : Dn f c v := by
  have sq : ∀ {xs : List D} {F : List D → D} {v : D}, (if xs.length < 4000 then (denL f xs).map F else none) = some v → xs.length < 4000 ∧ ∃ zs, denL f xs = some zs ∧ v = F zs := fun {xs F v} h => by
    split at h
    · rename_i hl
      obtain ⟨zs, e1, e2⟩ := Option.map_eq_some_iff.mp h
      exact ⟨hl, zs, e1, e2.symm⟩
    · cases h
  cases c with
  | o o =>
    cases o with
    | lst xs => obtain ⟨l1, zs, e1, rfl⟩ := sq (F := .rol) h; exact .l _ _ l1 e1
    | dic _ _ => cases h
    | ins _ _ => cases h
  | d x =>
    cases x with
    | tup xs => obtain ⟨l1, zs, e1, rfl⟩ := sq (F := .tup) h; exact .t _ _ l1 e1
    | rol xs => obtain ⟨l1, zs, e1, rfl⟩ := sq (F := .rol) h; exact .r _ _ l1 e1
    | non => cases h; exact .non
    | bl b => cases h; exact .bl b
    | int b => cases h; exact .int b
    | str b => cases h; exact .str b
    | ref a => cases h
theorem alike {f : D → Option D} {c1 c2 : C} {v : D} (h1 : denC f c1 = some v) (h2 : denC f c2 = some v) : Alike f c1 c2 := by
  have a := dn_of h1
  have b := dn_of h2
  cases a <;> cases b
  · exact .non
  · exact .bl _
  · exact .int _
  · exact .str _
  · exact .tt _ _ _ (by assumption) (by assumption) (by assumption)
  · exact .ll _ _ _ (by assumption) (by assumption) (by assumption)
  · exact .lr _ _ _ (by assumption) (by assumption) (by assumption)
  · exact .rl _ _ _ (by assumption) (by assumption) (by assumption)
  · exact .rr _ _ _ (by assumption) (by assumption) (by assumption)
@[simp] theorem t_str (g : G) (s : List Nat) (t : Ty) : oIsT t g (.d (.str s)) = some (.d (.bl (match t with | .str => true | _ => false))) := by cases t <;> rfl
@[simp] theorem t_int (g : G) (s : Int) (t : Ty) : oIsT t g (.d (.int s)) = some (.d (.bl (match t with | .int => true | _ => false))) := by cases t <;> rfl
@[simp] theorem t_bl (g : G) (s : Bool) (t : Ty) : oIsT t g (.d (.bl s)) = some (.d (.bl (match t with | .int => true | .bool => true | _ => false))) := by cases t <;> rfl
@[simp] theorem t_tup (g : G) (s : List D) (t : Ty) : oIsT t g (.d (.tup s)) = some (.d (.bl (match t with | .tuple => true | _ => false))) := by cases t <;> rfl
@[simp] theorem t_rol (g : G) (s : List D) (t : Ty) : oIsT t g (.d (.rol s)) = some (.d (.bl (match t with | .list => true | _ => false))) := by cases t <;> rfl
@[simp] theorem t_lst (g : G) (s : List D) (t : Ty) : oIsT t g (.o (.lst s)) = some (.d (.bl (match t with | .list => true | _ => false))) := by cases t <;> rfl
theorem isNon_lk {ψ : Psi} {g : G} {s : Sl} {c : C} (h : lookS g s = some c) : isNon (some s :: ψ) (.sl 0) = some (match c with | .d .non => true | _ => false) := by
  cases s with
  | own o => cases h; rfl
  | bor o => cases h; rfl
  | d x =>
    cases x with
    | ref a =>
      obtain ⟨o, _, e⟩ := Option.map_eq_some_iff.mp (show (g a).map C.o = some c from h)
      cases e; rfl
    | _ => cases h; rfl
theorem k_same {φ : SpD} (n : Nat) (hφ : ∀ (g : G) (x y v : D) (E : X → G → Prop) (Q : R → G → Prop), den n g x = some v → den n g y = some v → Q (.d (.bl true)) g → φ [.d x, .d y] g E Q) : Keeps (d_same n).wp (b__law_same φ) 4 := by
  rintro ss g E Q ⟨_, ⟨s1, s2, c1, c2, v, rfl, h1, h2, v1, v2⟩, hq, _⟩
  have h8 := most_is
  have fin : ∃ g2, G.le g2 g ∧ Q (.d (.bl true)) g2 := ret_now (hq _ _ ⟨rfl, rfl⟩)
  have hn1 := fun ψ => isNon_lk (ψ := ψ) h1
  have hn2 := fun ψ => isNon_lk (ψ := ψ) h2
  have loop : ∀ (xs ys zs : List D) (ψ0 ψw : Psi) (ok : Psi → G → Prop) (Qc : List D → G → Prop), (∀ bs : List Bool, bs.all id = true → Qc (bs.map D.bl) g) → ok ψ0 g → xs.length < 4000 → denL (den n g) xs = some zs → denL (den n g) ys = some zs → ψw = [some (lendS s1), some (lendS s2), none, none] →
      compL (gTup [gName 2, gName 3]) tYes (eCall φ [false, false] (aCons (eVar 2) (aCons (eVar 3) aNil))) ok ψ0 ψw (pairUp xs ys) [] g Qc := fun xs ys zs ψ0 ψw ok Qc hQ hok hl e1 e2 hψ => by
    subst hψ
    refine comp_ind (fun rest acc g' => ∃ (xs ys zs : List D) (bs : List Bool), rest = pairUp xs ys ∧ denL (den n g) xs = some zs ∧ denL (den n g) ys = some zs ∧ acc = bs.map D.bl ∧ bs.all id = true ∧ bs.length + xs.length < 4000 ∧ g' = g) ?_ ?_ _ _ _ ⟨xs, ys, zs, [], rfl, e1, e2, rfl, rfl, by simpa using hl, rfl⟩
    · rintro x rs acc g' K ⟨xs, ys, zs, bs, e3, e4, e5, rfl, hb, hl, rfl⟩ hK
      cases xs with
      | nil => cases e3
      | cons a xs =>
        cases ys with
        | nil => cases e3
        | cons b ys =>
          obtain ⟨rfl, rfl⟩ := List.cons.inj e3
          obtain ⟨y1, zs1, f1, f2, rfl⟩ := denL_cons e4
          obtain ⟨y2, zs2, f3, f4, e6⟩ := denL_cons e5
          obtain ⟨rfl, rfl⟩ := List.cons.inj e6
          have hlm : bs.length < most := by simp at hl; omega
          simp [hlm]
          refine hφ _ _ _ _ _ _ f1 f3 ?_
          simp
          exact ⟨hok, hlm, hK _ _ ⟨xs, ys, zs1, bs ++ [true], rfl, f2, f4, by simp, by simp [hb], by simp at hl ⊢; omega, rfl⟩⟩
    · rintro acc g' ⟨xs, ys, zs, bs, e3, e4, e5, rfl, hb, hl, rfl⟩
      exact hQ bs hb
  have a := alike v1 v2
  cases a with
  | non => simp [b__law_same, begin_, s_sSeq, h1, h2, hn1, hn2]; exact fin
  | bl b => simp [b__law_same, begin_, s_sSeq, h1, h2, hn1, hn2]; exact fin
  | int b => simp [b__law_same, begin_, s_sSeq, h1, h2, hn1, hn2]; exact fin
  | str b => simp [b__law_same, begin_, s_sSeq, h1, h2, hn1, hn2]; exact fin
  | tt xs ys zs hl e1 e2 =>
    have e3 : xs.length = ys.length := (denL_len e1).trans (denL_len e2).symm
    simp [b__law_same, begin_, s_sSeq, h1, h2, hn1, hn2, e3]
    refine loop xs ys zs _ _ _ _ (fun bs hb => ?_) ?_ hl e1 e2 (by simp [lendAll, wipe, lend_some, lend_none])
    · simp [hb]; exact fin
    · simp [h1, h2]
  | ll xs ys zs hl e1 e2 =>
    have e3 : xs.length = ys.length := (denL_len e1).trans (denL_len e2).symm
    simp [b__law_same, begin_, s_sSeq, h1, h2, hn1, hn2, e3]
    refine loop xs ys zs _ _ _ _ (fun bs hb => ?_) ?_ hl e1 e2 (by simp [lendAll, wipe, lend_some, lend_none])
    · simp [hb]; exact fin
    · simp [h1, h2]
  | lr xs ys zs hl e1 e2 =>
    have e3 : xs.length = ys.length := (denL_len e1).trans (denL_len e2).symm
    simp [b__law_same, begin_, s_sSeq, h1, h2, hn1, hn2, e3]
    refine loop xs ys zs _ _ _ _ (fun bs hb => ?_) ?_ hl e1 e2 (by simp [lendAll, wipe, lend_some, lend_none])
    · simp [hb]; exact fin
    · simp [h1, h2]
  | rl xs ys zs hl e1 e2 =>
    have e3 : xs.length = ys.length := (denL_len e1).trans (denL_len e2).symm
    simp [b__law_same, begin_, s_sSeq, h1, h2, hn1, hn2, e3]
    refine loop xs ys zs _ _ _ _ (fun bs hb => ?_) ?_ hl e1 e2 (by simp [lendAll, wipe, lend_some, lend_none])
    · simp [hb]; exact fin
    · simp [h1, h2]
  | rr xs ys zs hl e1 e2 =>
    have e3 : xs.length = ys.length := (denL_len e1).trans (denL_len e2).symm
    simp [b__law_same, begin_, s_sSeq, h1, h2, hn1, hn2, e3]
    refine loop xs ys zs _ _ _ _ (fun bs hb => ?_) ?_ hl e1 e2 (by simp [lendAll, wipe, lend_some, lend_none])
    · simp [hb]; exact fin
    · simp [h1, h2]
theorem k_same0 : Keeps (d_same 0).wp (b__law_same fun _ _ _ _ => False) 4 := k_same 0 fun g x y v E Q h => by cases h
theorem k_sameS (n : Nat) : Keeps (d_same (n + 1)).wp (b__law_same (d_same n).wp) 4 := k_same (n + 1) fun g x y v E Q h h' k => by
  obtain ⟨c1, e1, e2⟩ := Option.bind_eq_some_iff.mp h
  obtain ⟨c2, e3, e4⟩ := Option.bind_eq_some_iff.mp h'
  exact call_of () ⟨_, _, c1, c2, v, rfl, e1, e3, e2, e4⟩ fun r g' ⟨a, b⟩ => by rw [a, b]; exact k
end Pd
set_option linter.all false
set_option maxRecDepth 10000
namespace Pd
theorem lu_part (a b : D) : List.lookup "part" [("part", a), ("number", b)] = some a := rfl
theorem lu_num (a b : D) : List.lookup "number" [("part", a), ("number", b)] = some b := rfl
theorem MachAt.new {g : G} {x : Mc} {q : Nat} {o : O} (h : MachAt g x) (hq : g q = none) : MachAt (g.upd q o) x := by
  obtain ⟨q1, q2, q3, q4, kvs, e1, e2, e3, e4, e5, e6⟩ := h
  have ne : ∀ {a : Nat} {u : O}, g a = some u → g.upd q o a = some u := fun {a u} e => by
    rw [G.upd_ne fun z => by rw [z, hq] at e; cases e]; exact e
  exact ⟨q1, q2, q3, q4, kvs, ne e1, ne e2, ne e3, ne e4, e5, ne e6⟩
def d_asks : Sg Mc := ⟨fun x ss g => ss = [.d (.ref x.p)] ∧ MachAt g x, fun x g r g' => g' = g ∧ r = .own (.lst (T x.asks)), fun _ _ _ _ => False⟩
def d_says : Sg Mc := ⟨fun x ss g => ss = [.d (.ref x.p)] ∧ MachAt g x, fun x g r g' => g' = g ∧ r = .own (.lst (T x.says)), fun _ _ _ _ => False⟩
def d_rooms : Sg Mc := ⟨fun x ss g => ss = [.d (.ref x.p)] ∧ MachAt g x, fun x g r g' => g' = g ∧ r = .own (.lst (T x.rooms)), fun _ _ _ _ => False⟩
def d_doors : Sg Mc := ⟨fun x ss g => ss = [.d (.ref x.p)] ∧ MachAt g x, fun x g r g' => g' = g ∧ r = .own (.lst []), fun _ _ _ _ => False⟩
theorem lk4_1 (a b c d : D) : List.lookup "ask_words" [("ask_words", a), ("say_words", b), ("leading", c), ("all_doors", d)] = some a := rfl
theorem lk4_2 (a b c d : D) : List.lookup "say_words" [("ask_words", a), ("say_words", b), ("leading", c), ("all_doors", d)] = some b := rfl
theorem lk4_3 (a b c d : D) : List.lookup "leading" [("ask_words", a), ("say_words", b), ("leading", c), ("all_doors", d)] = some c := rfl
theorem lk4_4 (a b c d : D) : List.lookup "all_doors" [("ask_words", a), ("say_words", b), ("leading", c), ("all_doors", d)] = some d := rfl
theorem k_asks : Keeps d_asks.wp b_Machine_asks 1 := by
  rintro ss g E Q ⟨x, ⟨rfl, q1, q2, q3, q4, kvs, e1, e2, e3, e4, e5, e6⟩, hq, _⟩
  simp [b_Machine_asks, begin_, e1, lk4_1, e2]
  exact ret_now (hq _ _ ⟨rfl, rfl⟩)
theorem k_says : Keeps d_says.wp b_Machine_says 1 := by
  rintro ss g E Q ⟨x, ⟨rfl, q1, q2, q3, q4, kvs, e1, e2, e3, e4, e5, e6⟩, hq, _⟩
  simp [b_Machine_says, begin_, e1, lk4_2, e3]
  exact ret_now (hq _ _ ⟨rfl, rfl⟩)
theorem k_rooms : Keeps d_rooms.wp b_Machine_rooms 1 := by
  rintro ss g E Q ⟨x, ⟨rfl, q1, q2, q3, q4, kvs, e1, e2, e3, e4, e5, e6⟩, hq, _⟩
  simp [b_Machine_rooms, begin_, e1, lk4_3, e4]
  exact ret_now (hq _ _ ⟨rfl, by rw [e5]⟩)
theorem k_doors : Keeps d_doors.wp b_Machine_doors 1 := by
  rintro ss g E Q ⟨x, ⟨rfl, q1, q2, q3, q4, kvs, e1, e2, e3, e4, e5, e6⟩, hq, _⟩
  simp [b_Machine_doors, begin_, e1, lk4_4, e6]
  exact ret_now (hq _ _ ⟨rfl, rfl⟩)
/-- two rows of lists of texts, told apart -/
theorem rsv_ref {g : G} {a : Nat} {ws : List (List Nat)} (n : Nat) (h : g a = some (.lst (T ws))) : rsv (n + 1) g (.ref a) = some (.rol (T ws)) := by
  have e : rsv (n + 1) g (.ref a) = match g a with | some (.lst xs) => (xs.mapM (rsv n g)).map D.rol | _ => none := rfl
  rw [e, h]
  show ((T ws).mapM (rsv n g)).map D.rol = _
  rw [rsv_T]; rfl
theorem ne_four {g : G} {a b c d a' b' c' d' : Nat} {w1 w2 w3 w4 : List (List Nat)} (h1 : g a = some (.lst (T w1))) (h2 : g b = some (.lst (T w2))) (h3 : g c = some (.lst (T w3))) (h4 : g d = some (.lst (T w4)))
    (k1 : g a' = some (.lst (T w1))) (k2 : g b' = some (.lst (T w2))) (k3 : g c' = some (.lst (T w3))) (k4 : g d' = some (.lst (T w4))) :
    oNe g (.o (.lst [.ref a, .ref b, .ref c, .ref d])) (.o (.lst [.ref a', .ref b', .ref c', .ref d'])) = some (.d (.bl false)) := by
  have e : ∀ {a b c d : Nat}, g a = some (.lst (T w1)) → g b = some (.lst (T w2)) → g c = some (.lst (T w3)) → g d = some (.lst (T w4)) → rsvC g (.o (.lst [.ref a, .ref b, .ref c, .ref d])) = some (.rol [.rol (T w1), .rol (T w2), .rol (T w3), .rol (T w4)]) := fun {a b c d} h1 h2 h3 h4 => by
    show (([.ref a, .ref b, .ref c, .ref d] : List D).mapM (rsv 6 g)).map D.rol = _
    simp [List.mapM_cons, rsv_ref 5 h1, rsv_ref 5 h2, rsv_ref 5 h3, rsv_ref 5 h4]
  have z : eqC g (.o (.lst [.ref a, .ref b, .ref c, .ref d])) (.o (.lst [.ref a', .ref b', .ref c', .ref d'])) = match rsvC g (.o (.lst [.ref a, .ref b, .ref c, .ref d])), rsvC g (.o (.lst [.ref a', .ref b', .ref c', .ref d'])) with
    | some x, some y => if x.depth ≤ 60 ∧ y.depth ≤ 60 then some (decide (x = y)) else none
    | _, _ => none := rfl
  unfold oNe
  rw [z, e h1 h2 h3 h4, e k1 k2 k3 k4]
  have dd : (D.rol [.rol (T w1), .rol (T w2), .rol (T w3), .rol (T w4)]).depth = 2 := by
    show max (D.depths (T w1) + 1) (max (D.depths (T w2) + 1) (max (D.depths (T w3) + 1) (max (D.depths (T w4) + 1) 0))) + 1 = 2
    rw [depths_T, depths_T, depths_T, depths_T]; rfl
  simp [dd]
structure Td where
  a : Nat × Nat × Nat × Nat
  asks : List (List Nat)
  says : List (List Nat)
  rooms : List (List Nat)
def d_told : Sg Td := ⟨fun x ss g => ss = [.d (.ref x.a.1), .d (.ref x.a.2.1), .d (.ref x.a.2.2.1), .d (.ref x.a.2.2.2)] ∧ g x.a.1 = some (.lst (T x.asks)) ∧ g x.a.2.1 = some (.lst (T x.says)) ∧ g x.a.2.2.1 = some (.lst (T x.rooms)) ∧ g x.a.2.2.2 = some (.lst []) ∧
    (x.asks.length ≤ 4000 ∧ x.says.length ≤ 4000 ∧ x.rooms.length ≤ 4000) ∧ (∀ w ∈ x.asks, w.length ≤ most) ∧ (∀ w ∈ x.says, w.length ≤ most) ∧ ∀ w ∈ x.rooms, w.length ≤ most,
  fun x g r g' => (∀ a u, g a = some u → g' a = some u) ∧ match badPart x.asks x.says x.rooms with
    | some (part, n) => r = .d (.tup [.str part, .int (n : Int)])
    | none => ∃ c1 c2 c3 c4, r = .own (.lst [.ref c1, .ref c2, .ref c3, .ref c4]) ∧ g' c1 = some (.lst (T x.asks)) ∧ g' c2 = some (.lst (T x.says)) ∧ g' c3 = some (.lst (T x.rooms)) ∧ g' c4 = some (.lst []), fun _ _ _ _ => False⟩
theorem up_new {g0 g : G} {q : Nat} {o : O} (h : ∀ a u, g0 a = some u → g a = some u) (hq : g q = none) : ∀ a u, g0 a = some u → g.upd q o a = some u := fun a u e => by
  have := h a u e
  rw [G.upd_ne fun z => by rw [z, hq] at this; cases this]; exact this
theorem k_told : Keeps d_told.wp (b__law_told_of d_init0.wp d_asks.wp d_says.wp d_rooms.wp d_doors.wp) 8 := by
  rintro ss g E Q ⟨⟨⟨a1, a2, a3, a4⟩, asks, says, rooms⟩, ⟨rfl, h1, h2, h3, h4, hl, w1, w2, w3⟩, hq, _⟩
  simp only at h1 h2 h3 h4 hl w1 w2 w3
  have st : ∀ {g : G} {q a : Nat} {o u : O}, g a = some u → g q = none → g.upd q o a = some u := fun {g q a o u} e hq => by
    rw [G.upd_ne fun z => by rw [z, hq] at e; cases e]; exact e
  simp [b__law_told_of, begin_]
  rw [s_sSeq]; simp [h1]
  intro b1 f1
  have h2' := st (o := .lst (T asks)) h2 f1
  simp [h2']
  intro b2 f2
  have h3' := st (o := .lst (T says)) (st (o := .lst (T asks)) h3 f1) f2
  simp [h3']
  intro b3 f3
  have h4' := st (o := .lst (T rooms)) (st (o := .lst (T says)) (st (o := .lst (T asks)) h4 f1) f2) f3
  simp [h4']
  intro b4 f4
  generalize hg4 : ((((g.upd b1 (O.lst (List.map D.str asks))).upd b2 (O.lst (List.map D.str says))).upd b3 (O.lst (List.map D.str rooms))).upd b4 (O.lst [])) = g4
  have k4 : ∀ a u, g a = some u → g4 a = some u := hg4 ▸ up_new (up_new (up_new (up_new (fun _ _ e => e) f1) f2) f3) f4
  have B1 : g4 b1 = some (.lst (T asks)) := hg4 ▸ st (st (st G.upd_same f2) f3) f4
  have B2 : g4 b2 = some (.lst (T says)) := hg4 ▸ st (st G.upd_same f3) f4
  have B3 : g4 b3 = some (.lst (T rooms)) := hg4 ▸ st G.upd_same f4
  have B4 : g4 b4 = some (.lst []) := hg4 ▸ G.upd_same
  rw [s_sSeq]; simp
  rw [s_sSeq]; simp
  refine seq_of (fun ψ g5 => (∀ a u, g4 a = some u → g5 a = some u) ∧ ∃ s5 s6, ψ = [some (.d (.ref a1)), some (.d (.ref a2)), some (.d (.ref a3)), some (.d (.ref a4)), some (.own (.lst [.ref b1, .ref b2, .ref b3, .ref b4])), some (.d s5), some (.d s6), none] ∧
    match badPart asks says rooms with
    | some (part, n) => s5 = .non ∧ s6 = .tup [.str part, .int (n : Int)]
    | none => ∃ p, s5 = .ref p ∧ MachAt g5 ⟨p, asks, says, rooms⟩) (fun nx hn => ?_) ?_
  · simp
    intro p hp
    refine call_of ⟨p, asks, says, rooms⟩ ⟨⟨_, _, _, _, rfl, ?_, ?_, ?_, ?_⟩, G.upd_same, hl, w1, w2, w3⟩ ?_ ?_
    · simp [st B1 hp]
    · simp [st B2 hp]
    · simp [st B3 hp]
    · simp [st B4 hp]
    · rintro r g5 ⟨rfl, hb, hm, hk⟩
      simp
      refine hn _ _ ⟨fun a u e => hk a u (st e hp) (fun z => by rw [z, hp] at e; cases e), _, _, rfl, ?_⟩
      rw [hb]
      exact ⟨p, rfl, hm⟩
    · rintro z g5 ⟨rfl, part, n, hb, rfl⟩
      simp [noMach, lu_part, lu_num]
      refine hn _ _ ⟨fun a u e => st e hp, _, _, rfl, ?_⟩
      rw [hb]
      exact ⟨rfl, rfl⟩
  · rintro ψ g5 ⟨k5, s5, s6, rfl, hb⟩
    have A : ∀ a u, g a = some u → g5 a = some u := fun a u e => k5 a u (k4 a u e)
    have ne4 := ne_four (k5 _ _ B1) (k5 _ _ B2) (k5 _ _ B3) (w4 := []) (k5 _ _ B4) (A _ _ h1) (A _ _ h2) (A _ _ h3) (A _ _ h4)
    rw [s_sSeq]; simp [ne4]
    rw [s_sSeq]
    have he : ∀ r g', d_told.post ⟨(a1, a2, a3, a4), asks, says, rooms⟩ g r g' → Q r g' := hq
    cases hbp : badPart asks says rooms with
    | some pn =>
      obtain ⟨part, n⟩ := pn
      rw [hbp] at hb
      obtain ⟨rfl, rfl⟩ := hb
      simp
      refine ret_now (hq _ _ ⟨A, ?_⟩)
      show match badPart asks says rooms with | some (part, n) => _ | none => _
      rw [hbp]
    | none =>
      rw [hbp] at hb
      obtain ⟨p, rfl, hm⟩ := hb
      have notM : ∀ {g : G} {m : String}, MachAt g ⟨p, asks, says, rooms⟩ → (m = "asks" ∨ m = "says" ∨ m = "rooms" ∨ m = "doors") → IsIns g p "Machine" m := fun {g m} h hmm => by
        obtain ⟨q1, q2, q3, q4, kvs, e1, _⟩ := h
        unfold IsIns; rw [e1]
        rcases hmm with rfl | rfl | rfl | rfl <;> exact ⟨rfl, rfl⟩
      simp [notM hm]
      refine call_of ⟨p, asks, says, rooms⟩ ⟨rfl, hm⟩ ?_
      rintro r g6 ⟨rfl, rfl⟩
      simp
      intro c1 n1
      have hm1 := hm.new (o := .lst (T asks)) n1
      simp [notM hm1]
      refine call_of ⟨p, asks, says, rooms⟩ ⟨rfl, hm1⟩ ?_
      rintro r g7 ⟨rfl, rfl⟩
      simp
      intro c2 n2
      have hm2 := hm1.new (o := .lst (T says)) n2
      simp [notM hm2]
      refine call_of ⟨p, asks, says, rooms⟩ ⟨rfl, hm2⟩ ?_
      rintro r g8 ⟨rfl, rfl⟩
      simp
      intro c3 n3
      have hm3 := hm2.new (o := .lst (T rooms)) n3
      simp [notM hm3]
      refine call_of ⟨p, asks, says, rooms⟩ ⟨rfl, hm3⟩ ?_
      rintro r g9 ⟨rfl, rfl⟩
      simp
      intro c4 n4
      refine ret_now (hq _ _ ⟨up_new (up_new (up_new (up_new A n1) n2) n3) n4, ?_⟩)
      show match badPart asks says rooms with | some (part, n) => _ | none => _
      rw [hbp]
      exact ⟨c1, c2, c3, c4, rfl, st (st (st G.upd_same n2) n3) n4, st (st G.upd_same n3) n4, st G.upd_same n4, G.upd_same⟩
end Pd
set_option linter.all false
set_option maxRecDepth 10000
namespace Pd
theorem pigeon {α : Type} [DecidableEq α] : ∀ {xs ys : List α}, xs.Nodup → (∀ x ∈ xs, x ∈ ys) → xs.length ≤ ys.length
  | [], _, _, _ => Nat.zero_le _
  | x :: xs, ys, h, k => by
    obtain ⟨h1, h2⟩ := List.nodup_cons.mp h
    have hx := k x (by simp)
    have := pigeon (ys := ys.erase x) h2 fun z hz => (List.mem_erase_of_ne (fun e => h1 (by rw [← e]; exact hz))).mpr (k z (by simp [hz]))
    rw [List.length_erase_of_mem hx] at this
    have : 0 < ys.length := List.length_pos_of_mem hx
    simp; omega
theorem fw_one {w : List Nat} {others : List (List Nat)} {m : Nat} (hm : 1 ≤ m) (h : isName w = true) (h' : w ∉ others) : firstWrong m others [w] = none := by
  have e : [w].take m = [w] := List.take_of_length_le (by simpa using hm)
  unfold firstWrong
  rw [e]
  simp [fw, h, h']
  omega
theorem den_T (n : Nat) (g : G) (hn : 0 < n) : ∀ ws : List (List Nat), denL (den n g) (T ws) = some (T ws)
  | [] => rfl
  | w :: ws => by
    obtain ⟨n, rfl⟩ : ∃ m, n = m + 1 := ⟨n - 1, by omega⟩
    have := den_T (n + 1) g hn ws
    show (match den (n + 1) g (.str w), denL (den (n + 1) g) (T ws) with | some y, some ys => some (y :: ys) | _, _ => none) = _
    rw [this]; rfl
theorem den_ref {n : Nat} {g : G} {a : Nat} {ws : List (List Nat)} (hn : 0 < n) (h : g a = some (.lst (T ws))) (hl : ws.length < 4000) : den (n + 1) g (.ref a) = some (.rol (T ws)) := by
  show ((g a).map C.o).bind (denC (den n g)) = _
  rw [h]
  show (if (T ws).length < 4000 then (denL (den n g) (T ws)).map D.rol else none) = _
  rw [if_pos (by simpa using hl), den_T n g hn]; rfl
theorem den_four {g : G} {a b c d : Nat} {w1 w2 w3 : List (List Nat)} (h1 : g a = some (.lst (T w1))) (h2 : g b = some (.lst (T w2))) (h3 : g c = some (.lst (T w3))) (h4 : g d = some (.lst []))
    (l1 : w1.length < 4000) (l2 : w2.length < 4000) (l3 : w3.length < 4000) : denC (den 3 g) (.o (.lst [.ref a, .ref b, .ref c, .ref d])) = some (.rol [.rol (T w1), .rol (T w2), .rol (T w3), .rol []]) := by
  show (if 4 < 4000 then (denL (den 3 g) [.ref a, .ref b, .ref c, .ref d]).map D.rol else none) = _
  rw [if_pos (by omega)]
  simp [denL, den_ref (n := 2) (by omega) h1 l1, den_ref (n := 2) (by omega) h2 l2, den_ref (n := 2) (by omega) h3 l3, den_ref (n := 2) (ws := []) (by omega) h4 (by simp)]
theorem fw_ok {others : List (List Nat)} : ∀ {ws seen : List (List Nat)} {n : Nat}, ws.Nodup → (∀ w ∈ ws, w ∉ seen) → (∀ w ∈ ws, isName w = true ∧ w ∉ others) → fw others seen n ws = none
  | [], _, _, _, _, _ => rfl
  | w :: ws, seen, n, h1, h2, h3 => by
    obtain ⟨a, b⟩ := List.nodup_cons.mp h1
    rw [fw_cons, if_pos ⟨(h3 w (by simp)).1, h2 w (by simp), (h3 w (by simp)).2⟩]
    refine fw_ok b (fun v hv hm => ?_) fun v hv => h3 v (by simp [hv])
    rcases List.mem_append.mp hm with hm | hm
    · exact h2 v (by simp [hv]) hm
    · rw [List.mem_singleton] at hm; exact a (hm ▸ hv)
theorem firstWrong_ok {m : Nat} {others ws : List (List Nat)} (h : ws ≠ []) (hl : ws.length ≤ m) (nd : ws.Nodup) (hv : ∀ w ∈ ws, isName w = true ∧ w ∉ others) : firstWrong m others ws = none := by
  have e : ws.take m = ws := List.take_of_length_le hl
  unfold firstWrong
  rw [if_neg h, e, fw_ok nd (fun _ _ z => by cases z) hv, if_neg (by omega)]
theorem isName_len {w : List Nat} (h : isName w = true) : w.length ≤ 8 := by
  by_cases z : 8 < w.length
  · rw [isName_long z] at h; cases h
  · omega
end Pd
set_option linter.all false
set_option maxRecDepth 10000
namespace Pd
/-! doors -/
structure Dr where
  r : List Nat
  s : List (List Nat)
  o : List Nat
  deriving DecidableEq
def dr (d : Dr) : D := .tup [.str d.r, .tup (d.s.map D.str), .str d.o]
@[simp] theorem dr_mk (d : Dr) : dr d = .tup [.str d.r, .tup (d.s.map D.str), .str d.o] := nrfl rfl
abbrev Ds (ds : List Dr) : List D := ds.map dr
theorem T_inj' {a b : List (List Nat)} : a.map D.str = b.map D.str ↔ a = b := List.map_inj_right fun _ _ e => D.str.inj e
theorem dr_inj {a b : Dr} (h : dr a = dr b) : a = b := by
  obtain ⟨r, s, o⟩ := a
  obtain ⟨r', s', o'⟩ := b
  simp at h
  obtain ⟨rfl, h2, rfl⟩ := h
  have := T_inj'.mp h2
  subst this; rfl
theorem Ds_inj {a b : List Dr} : Ds a = Ds b ↔ a = b := List.map_inj_right fun _ _ e => dr_inj e
theorem pure_tT (a : List (List Nat)) : (D.tup (a.map D.str)).pure = true := pures_T a
theorem depth_tT (a : List (List Nat)) : (D.tup (a.map D.str)).depth = 1 := by show D.depths (T a) + 1 = 1; rw [depths_T]
theorem pure_dr (d : Dr) : (dr d).pure = true := by
  show (true && ((D.tup (d.s.map D.str)).pure && (true && true))) = true
  rw [pure_tT]; rfl
theorem depth_dr (d : Dr) : (dr d).depth = 2 := by
  show max 0 (max (D.tup (d.s.map D.str)).depth (max 0 0)) + 1 = 2
  rw [depth_tT]; rfl
theorem pures_Ds : ∀ ds : List Dr, D.pures (Ds ds) = true
  | [] => rfl
  | d :: ds => by show ((dr d).pure && D.pures (Ds ds)) = true; rw [pure_dr, pures_Ds ds]; rfl
theorem depths_Ds : ∀ ds : List Dr, D.depths (Ds ds) ≤ 2
  | [] => Nat.zero_le _
  | d :: ds => by
    show max (dr d).depth (D.depths (Ds ds)) ≤ 2
    rw [depth_dr]
    have := depths_Ds ds
    omega
theorem rsv_pure (n : Nat) (g : G) {x : D} (h : x.pure = true) : rsv n g x = some x := by
  cases n with
  | zero => exact if_pos h
  | succ n => exact if_pos h
theorem eq_pure (g : G) {x y : D} (h : x.pure = true) (h' : y.pure = true) (d : x.depth ≤ 60) (d' : y.depth ≤ 60) : eqC g (.d x) (.d y) = some (decide (x = y)) := by
  have e : eqC g (.d x) (.d y) = match rsvC g (.d x), rsvC g (.d y) with
    | some x, some y => if x.depth ≤ 60 ∧ y.depth ≤ 60 then some (decide (x = y)) else none
    | _, _ => none := by
    cases x <;> cases y <;> first | rfl | (cases h) | (cases h')
  rw [e, show rsvC g (.d x) = some x from rsv_pure 6 g h, show rsvC g (.d y) = some y from rsv_pure 6 g h']
  exact if_pos ⟨d, d'⟩
@[simp] theorem eq_tT (g : G) (a b : List (List Nat)) : oEq g (.d (.tup (a.map D.str))) (.d (.tup (b.map D.str))) = some (.d (.bl (decide (a = b)))) := by
  unfold oEq
  rw [eq_pure g (pure_tT a) (pure_tT b) (by rw [depth_tT]; omega) (by rw [depth_tT]; omega)]
  simp [T_inj']
@[simp] theorem eq_t1 (g : G) (a : List (List Nat)) (s : List Nat) : oEq g (.d (.tup (a.map D.str))) (.d (.tup [.str s])) = some (.d (.bl (decide (a = [s])))) := eq_tT g a [s]
@[simp] theorem eq_t2 (g : G) (a : List (List Nat)) (s t : List Nat) : oEq g (.d (.tup (a.map D.str))) (.d (.tup [.str s, .str t])) = some (.d (.bl (decide (a = [s, t])))) := eq_tT g a [s, t]
@[simp] theorem eq_11 (g : G) (a b : List Nat) : oEq g (.d (.tup [.str a])) (.d (.tup [.str b])) = some (.d (.bl (decide (a = b)))) := by
  have := eq_tT g [a] [b]
  simpa using this
@[simp] theorem eq_21 (g : G) (a a' b : List Nat) : oEq g (.d (.tup [.str a, .str a'])) (.d (.tup [.str b])) = some (.d (.bl false)) := by
  have := eq_tT g [a, a'] [b]
  simpa using this
@[simp] theorem eq_22 (g : G) (a a' b b' : List Nat) : oEq g (.d (.tup [.str a, .str a'])) (.d (.tup [.str b, .str b'])) = some (.d (.bl (decide (a = b ∧ a' = b')))) := by
  have := eq_tT g [a, a'] [b, b']
  simpa using this
@[simp] theorem eq_12 (g : G) (a b b' : List Nat) : oEq g (.d (.tup [.str a])) (.d (.tup [.str b, .str b'])) = some (.d (.bl false)) := by
  have := eq_tT g [a] [b, b']
  simpa using this
theorem in_D (g : G) (d : Dr) (ds : List Dr) : inC g (.d (dr d)) (.o (.lst (ds.map dr))) = some (decide (d ∈ ds)) := by
  show (if (dr d).pure && D.pures (Ds ds) && decide ((dr d).depth ≤ 50) && decide (D.depths (Ds ds) ≤ 50) then some (decide (dr d ∈ Ds ds)) else none) = _
  have := depths_Ds ds
  rw [pure_dr, pures_Ds, depth_dr, if_pos (by simp; omega)]
  congr 1
  refine decide_eq_decide.mpr ⟨fun h => ?_, fun h => List.mem_map_of_mem h⟩
  obtain ⟨d', h1, h2⟩ := List.mem_map.mp h
  exact dr_inj h2 ▸ h1
@[simp] theorem in_Ds (g : G) (r o : List Nat) (s : List (List Nat)) (ds : List Dr) : oIn g (.d (.tup [.str r, .tup (s.map D.str), .str o])) (.o (.lst (ds.map dr))) = some (.d (.bl (decide (⟨r, s, o⟩ ∈ ds)))) := by
  have e := in_D g ⟨r, s, o⟩ ds
  have h : inT g (.d (dr ⟨r, s, o⟩)) (.o (.lst (ds.map dr))) = inC g (.d (dr ⟨r, s, o⟩)) (.o (.lst (ds.map dr))) := rfl
  unfold oIn
  show (inT g (.d (dr ⟨r, s, o⟩)) (.o (.lst (ds.map dr)))).map _ = _
  rw [h, e]; rfl
@[simp] theorem nin_Ds (g : G) (r o : List Nat) (s : List (List Nat)) (ds : List Dr) : oNin g (.d (.tup [.str r, .tup (s.map D.str), .str o])) (.o (.lst (ds.map dr))) = some (.d (.bl (!decide (⟨r, s, o⟩ ∈ ds)))) := by
  unfold oNin
  show (inC g (.d (dr ⟨r, s, o⟩)) (.o (.lst (ds.map dr)))).map _ = _
  rw [in_D]; rfl
theorem keyishs_T : ∀ ws : List (List Nat), D.keyishs (T ws) = true
  | [] => rfl
  | w :: ws => by show (true && D.keyishs (T ws)) = true; rw [keyishs_T ws]; rfl
@[simp] theorem keyOk_dr (r o : List Nat) (s : List (List Nat)) : keyOk true (.tup [.str r, .tup (s.map D.str), .str o]) = true := by
  show ((true && (D.keyishs (T s) && (true && true))) && decide (max 0 (max (D.depths (T s) + 1) (max 0 0)) < 8)) = true
  rw [keyishs_T, depths_T]; rfl
@[simp] theorem keyOk_s (s : List Nat) : keyOk false (.str s) = true := nrfl rfl
theorem eqC_Ds (g : G) (a b : List Dr) : eqC g (.o (.lst (Ds a))) (.o (.lst (Ds b))) = some (decide (a = b)) := by
  have m : ∀ ds : List Dr, (Ds ds).mapM (rsv 6 g) = some (Ds ds) := fun ds => by
    induction ds with
    | nil => rfl
    | cons d ds ih =>
      show (dr d :: Ds ds).mapM (rsv 6 g) = _
      rw [List.mapM_cons, rsv_pure 6 g (pure_dr d), ih]; rfl
  have e : eqC g (.o (.lst (Ds a))) (.o (.lst (Ds b))) = match ((Ds a).mapM (rsv 6 g)).map D.rol, ((Ds b).mapM (rsv 6 g)).map D.rol with
    | some x, some y => if x.depth ≤ 60 ∧ y.depth ≤ 60 then some (decide (x = y)) else none
    | _, _ => none := rfl
  rw [e, m, m]
  have dd : ∀ ds, (D.rol (Ds ds)).depth ≤ 60 := fun ds => by show D.depths (Ds ds) + 1 ≤ 60; have := depths_Ds ds; omega
  show (if (D.rol (Ds a)).depth ≤ 60 ∧ (D.rol (Ds b)).depth ≤ 60 then some (decide (D.rol (Ds a) = D.rol (Ds b))) else none) = _
  rw [if_pos ⟨dd a, dd b⟩]
  congr 1
  exact decide_eq_decide.mpr ⟨fun h => Ds_inj.mp (D.rol.inj h), fun h => by rw [h]⟩
@[simp] theorem eq_Ds (g : G) (a b : List Dr) : oEq g (.o (.lst (a.map dr))) (.o (.lst (b.map dr))) = some (.d (.bl (decide (a = b)))) := by
  unfold oEq; rw [eqC_Ds]; rfl
@[simp] theorem ne_Ds (g : G) (a b : List Dr) : oNe g (.o (.lst (a.map dr))) (.o (.lst (b.map dr))) = some (.d (.bl (!decide (a = b)))) := by
  unfold oNe; rw [eqC_Ds]; rfl
@[simp] theorem eq_Ds0 (g : G) (a : List Dr) : oEq g (.o (.lst (a.map dr))) (.o (.lst [])) = some (.d (.bl (decide (a = [])))) := eq_Ds g a []
@[simp] theorem ne_Ds0 (g : G) (a : List Dr) : oNe g (.o (.lst (a.map dr))) (.o (.lst [])) = some (.d (.bl (!decide (a = [])))) := ne_Ds g a []
/-! the words -/
abbrev wAsk : List Nat := [97, 115, 107]
abbrev wSay : List Nat := [115, 97, 121]
abbrev wStill : List Nat := [115, 116, 105, 108, 108]
abbrev wHush : List Nat := [104, 117, 115, 104]
def isSign (asks says : List (List Nat)) : List (List Nat) → Bool
  | [h] => decide (h = wStill)
  | [h, w] => if h = wAsk then decide (w ∈ asks) else decide (h = wSay) && decide (w ∈ says)
  | _ => false
def Two (s : List (List Nat)) : Prop := s.length = 1 ∨ s.length = 2
theorem Two.cases {s : List (List Nat)} (h : Two s) : (∃ a, s = [a]) ∨ ∃ a b, s = [a, b] := by
  rcases h with h | h
  · match s, h with
    | [a], _ => exact .inl ⟨a, rfl⟩
  · match s, h with
    | [a, b], _ => exact .inr ⟨a, b, rfl⟩
structure Si where
  s : List (List Nat)
  asks : List (List Nat)
  says : List (List Nat)
def d_sign : Sg Si := ⟨fun x ss g => (∃ s1 s2, ss = [.d (.tup (x.s.map D.str)), s1, s2] ∧ lookS g s1 = some (.o (.lst (T x.asks))) ∧ lookS g s2 = some (.o (.lst (T x.says)))) ∧ Two x.s,
  fun x g r g' => g' = g ∧ r = .d (.bl (isSign x.asks x.says x.s)), fun _ _ _ _ => False⟩
theorem k_sign : Keeps d_sign.wp b_is_sign_of 3 := by
  rintro ss g E Q ⟨⟨s, asks, says⟩, ⟨⟨s1, s2, rfl, h1, h2⟩, h3⟩, hq, _⟩
  simp only at h1 h2 h3
  have fin : ∀ b : Bool, b = isSign asks says s → ∃ g2, G.le g2 g ∧ Q (.d (.bl b)) g2 := fun b e => ret_now (hq _ _ ⟨rfl, by rw [e]⟩)
  rcases h3.cases with ⟨a, rfl⟩ | ⟨a, b, rfl⟩
  · simp [b_is_sign_of, begin_, s_sSeq]
    exact fin _ rfl
  · by_cases e : a = wAsk
    · simp [b_is_sign_of, begin_, s_sSeq, e, h1]
      exact fin _ (by simp [isSign, e])
    · by_cases e' : a = wSay
      · simp [b_is_sign_of, begin_, s_sSeq, e', h2]
        exact fin _ (by simp [isSign, e'])
      · simp [b_is_sign_of, begin_, s_sSeq, e, e', h2]
        exact fin _ (by simp [isSign, e, e'])
end Pd
set_option linter.all false
set_option maxRecDepth 10000
namespace Pd
/-! need_doors -/
def okDoor (asks says rooms : List (List Nat)) (d : Dr) : Bool := decide (d.r ∈ rooms) && (decide (d.o ∈ rooms) && isSign asks says d.s)
def fd (asks says rooms : List (List Nat)) : List Dr → Nat → List Dr → Option Nat
  | _, _, [] => none
  | seen, n, d :: ds => if okDoor asks says rooms d = true ∧ d ∉ seen then fd asks says rooms (seen ++ [d]) (n + 1) ds else some n
theorem fd_cons (asks says rooms : List (List Nat)) (seen : List Dr) (n : Nat) (d : Dr) (ds : List Dr) : fd asks says rooms seen n (d :: ds) = if okDoor asks says rooms d = true ∧ d ∉ seen then fd asks says rooms (seen ++ [d]) (n + 1) ds else some n := rfl
def wrongDoor (asks says rooms : List (List Nat)) (ds : List Dr) : Option Nat := match fd asks says rooms [] 0 (ds.take 2000) with
  | some n => some n
  | none => if 2000 < ds.length then some 2000 else none
structure Nd2 where
  doors : List Dr
  asks : List (List Nat)
  says : List (List Nat)
  rooms : List (List Nat)
def d_needD : Sg Nd2 := ⟨fun x ss g => (∃ s0 s1 s2 s3 kvs, ss = [s0, s1, s2, s3] ∧ lookS g s0 = some (.o (.lst (Ds x.doors))) ∧ lookS g s1 = some (.o (.lst (T x.asks))) ∧ lookS g s2 = some (.o (.lst (T x.says))) ∧ lookS g s3 = some (.o (.dic false kvs)) ∧ kvs.map (·.1) = T x.rooms) ∧ (∀ d ∈ x.doors, Two d.s),
  fun x g r g' => g' = g ∧ r = .d .non ∧ wrongDoor x.asks x.says x.rooms x.doors = none,
  fun x g z g' => g' = g ∧ ∃ n, wrongDoor x.asks x.says x.rooms x.doors = some n ∧ z = noMach [100, 111, 111, 114, 115] n⟩
theorem k_needD : Keeps d_needD.wp (b_need_doors d_sign.wp) 10 := by
  rintro ss g E Q ⟨⟨doors, asks, says, rooms⟩, ⟨⟨s0, s1, s2, s3, kvs, rfl, h0, h1, h2, h3, h4⟩, h5⟩, hq, he⟩
  have h8 := most_is
  simp only at h0 h1 h2 h3 h4 h5
  have inR : ∀ w : List Nat, (D.str w ∈ kvs.map (·.1)) ↔ w ∈ rooms := fun w => by rw [h4]; exact mem_T
  simp [b_need_doors, begin_]
  rw [s_sSeq]; simp
  refine seq_of (fun ψ g2 => g2 = g ∧ fd asks says rooms [] 0 (doors.take 2000) = none ∧ ∃ t4 t5 t6 t7 t8 t9, ψ = [some s0, some s1, some s2, some s3, t4, t5, t6, t7, t8, t9]) (fun nx hn => ?_) ?_
  · simp [h0, ← List.map_take]
    refine for_ind (fun rest ψ g2 => g2 = g ∧ ∃ (done cs : List Dr) (kv : List (D × D)) (t5 t6 t7 t8 t9 : Option Sl), doors.take 2000 = done ++ cs ∧ rest = numbered done.length (Ds cs) ∧ fd asks says rooms [] 0 (doors.take 2000) = fd asks says rooms done done.length cs ∧ kv.map (·.1) = Ds done ∧
      ψ = [some s0, some s1, some s2, some s3, some (.own (.dic true kv)), t5, t6, t7, t8, t9]) ?_ ?_ _ _ _ ⟨rfl, [], doors.take 2000, [], _, _, _, _, _, rfl, rfl, rfl, rfl, rfl⟩
    · rintro x xs ψ g2 K ⟨rfl, done, cs, kv, t5, t6, t7, t8, t9, e1, e2, e3, e4, rfl⟩ hK
      cases cs with
      | nil => cases e2
      | cons d cs =>
        obtain ⟨rfl, rfl⟩ := List.cons.inj e2
        have hd : d ∈ doors := List.mem_of_mem_take (e1 ▸ List.mem_append_right _ (by simp))
        have inS : (D.tup [.str d.r, .tup (d.s.map D.str), .str d.o] ∈ kv.map (·.1)) ↔ d ∈ done := by
          rw [e4]
          exact ⟨fun h => let ⟨d', a, b⟩ := List.mem_map.mp h; dr_inj b ▸ a, fun h => List.mem_map.mpr ⟨d, h, rfl⟩⟩
        have hk9 : kv.length < most := by
          have : kv.length = done.length := by have := congrArg List.length e4; simpa [Ds] using this
          have : done.length ≤ 2000 := by have := congrArg List.length e1; simp at this; omega
          omega
        simp
        refine seq_of (fun ψ g3 => g3 = g2 ∧ ψ = [some s0, some s1, some s2, some s3, some (.own (.dic true kv)), some (.d (.int done.length)), some (.d (.str d.r)), some (.d (.tup (d.s.map D.str))), some (.d (.str d.o)), some (.d (.bl (okDoor asks says rooms d)))]) (fun nx hn => ?_) ?_
        · simp [h3, inR]
          by_cases c1 : d.r ∈ rooms
          · by_cases c2 : d.o ∈ rooms
            · simp [c1, c2]
              refine call_of ⟨d.s, asks, says⟩ ⟨⟨_, _, rfl, by simpa using h1, by simpa using h2⟩, h5 d hd⟩ ?_
              rintro r g3 ⟨rfl, rfl⟩
              simp
              exact hn _ _ ⟨rfl, by simp [okDoor, c1, c2]⟩
            · simp [c1, c2]
              exact hn _ _ ⟨rfl, by simp [okDoor, c1, c2]⟩
          · simp [c1]
            exact hn _ _ ⟨rfl, by simp [okDoor, c1]⟩
        · rintro ψ g3 ⟨rfl, rfl⟩
          rw [s_sSeq]
          by_cases c1 : okDoor asks says rooms d = true
          · by_cases c2 : d ∈ done
            · simp [c1, inS, c2]
              refine he _ _ ⟨rfl, done.length, ?_, rfl⟩
              show wrongDoor asks says rooms doors = _
              unfold wrongDoor
              rw [e3, fd_cons, if_neg (fun z => z.2 c2)]
            · simp [c1, inS, c2, hk9]
              have hnk : D.tup [.str d.r, .tup (d.s.map D.str), .str d.o] ∉ kv.map (·.1) := fun z => c2 (inS.mp z)
              rw [putK_new _ _ _ hnk]
              refine now (hK _ _ ⟨rfl, done ++ [d], cs, _, _, _, _, _, _, by simp [e1], by simp, ?_, by simp [e4], rfl⟩)
              rw [e3, fd_cons, if_pos ⟨c1, c2⟩]; simp
          · simp [c1]
            refine he _ _ ⟨rfl, done.length, ?_, rfl⟩
            show wrongDoor asks says rooms doors = _
            unfold wrongDoor
            rw [e3, fd_cons, if_neg (fun z => c1 z.1)]
    · rintro ψ g2 ⟨rfl, done, cs, kv, t5, t6, t7, t8, t9, e1, e2, e3, e4, rfl⟩
      cases cs with
      | cons d cs => cases e2
      | nil => exact hn _ _ ⟨rfl, e3, _, _, _, _, _, _, rfl⟩
  · rintro ψ g2 ⟨rfl, e, t4, t5, t6, t7, t8, t9, rfl⟩
    simp [h0]
    split
    · rename_i hl
      refine he _ _ ⟨rfl, 2000, ?_, rfl⟩
      show wrongDoor asks says rooms doors = _
      unfold wrongDoor
      rw [e]; exact if_pos (by omega)
    · rename_i hl
      refine ret_now (hq _ _ ⟨rfl, rfl, ?_⟩)
      show wrongDoor asks says rooms doors = _
      unfold wrongDoor
      rw [e]; exact if_neg (by omega)
end Pd
set_option linter.all false
set_option maxRecDepth 10000
namespace Pd
/-! still doors, round and round -/
structure Mch where
  asks : List (List Nat)
  says : List (List Nat)
  rooms : List (List Nat)
  doors : List Dr
def outOf (ds : List Dr) (r : List Nat) : List Dr := ds.filter fun d => decide (d.r = r)
def Still (ds : List Dr) (a b : List Nat) : Prop := ∃ d ∈ ds, d.r = a ∧ d.s = [wStill] ∧ d.o = b
inductive Reach (ds : List Dr) : List Nat → List Nat → Prop
  | one {a b : List Nat} : Still ds a b → Reach ds a b
  | snoc {a b c : List Nat} : Reach ds a b → Still ds b c → Reach ds a c
def LeadAt (g : G) (q : Nat) (rooms : List (List Nat)) (doors : List Dr) : Prop := ∃ kvs, g q = some (.dic false kvs) ∧ kvs.map (·.1) = T rooms ∧ ∀ w ∈ rooms, ∃ a, lookK kvs (.str w) = some (.ref a) ∧ g a = some (.lst (Ds (outOf doors w)))
@[simp] theorem m_pop_snoc (xs : List D) (x : D) : mPop (xs ++ [x]) [] = some (xs, x) := by simp [m_pop]
@[simp] theorem ne_SL (g : G) (a : List (List Nat)) (s : List Nat) : oNe g (.o (.lst (a.map D.str ++ [D.str s]))) (.o (.lst [])) = some (.d (.bl true)) := by
  have := ne_T0 g (a ++ [s])
  simpa using this
structure Rn where
  p : Nat
  room : List Nat
  q : Nat
  rooms : List (List Nat)
  doors : List Dr
def d_round : Sg Rn := ⟨fun x ss g => ss = [.d (.ref x.p), .d (.str x.room)] ∧ (∃ fs, g x.p = some (.ins "Machine" fs) ∧ fs.lookup "leading" = some (.ref x.q)) ∧ LeadAt g x.q x.rooms x.doors ∧ x.room ∈ x.rooms ∧ (∀ d ∈ x.doors, d.o ∈ x.rooms) ∧ x.rooms.length ≤ 4000 ∧ ∀ d ∈ x.doors, Two d.s,
  fun x g r g' => g' = g ∧ ∃ b : Bool, r = .d (.bl b) ∧ (b = true ↔ Reach x.doors x.room x.room), fun _ _ _ _ => False⟩
theorem k_round : Keeps d_round.wp b_Machine_comes_round 6 := by
  rintro ss g E Q ⟨⟨p, room, q3, rooms, doors⟩, ⟨rfl, ⟨fs, h1, h2⟩, ⟨kvs, h3, h4, h5⟩, hin, hot, hlen, htwo⟩, hq, _⟩
  have h8 := most_is
  simp only at h1 h2 h3 h4 h5 hin hot hlen htwo
  simp [b_Machine_comes_round, begin_]
  rw [s_sSeq]; simp
  rw [s_sSeq]; simp
  rw [s_sSeq]; simp
  refine while_ind (fun n ψ g3 => g3 = g ∧ ∃ (due seen : List (List Nat)) (kv : List (D × D)) (s4 s5 : Option Sl), n = 2 * (rooms.length - seen.length) + due.length ∧ kv.map (·.1) = T seen ∧ seen.Nodup ∧ (∀ x ∈ seen, x ∈ rooms ∧ Reach doors room x) ∧ (∀ x ∈ due, x = room ∨ x ∈ seen) ∧
    (∀ x, x = room ∨ x ∈ seen → x ∉ due → ∀ y, Still doors x y → y ≠ room ∧ y ∈ seen) ∧ due.length ≤ seen.length + 1 ∧
    ψ = [some (.d (.ref p)), some (.d (.str room)), some (.own (.dic false kv)), some (.own (.lst (T due))), s4, s5]) ?_ (2 * rooms.length + 1) _ _ ⟨rfl, [room], [], [], _, _, by simp, rfl, List.nodup_nil, by simp, by simp, by simp, by simp, rfl⟩
  rintro n ψ g3 K ⟨rfl, due, seen, kv, s4, s5, rfl, ek, hnd, hseen, hdue, hcl, hdl, rfl⟩ hK
  have hsl : seen.length ≤ rooms.length := pigeon hnd fun x hx => (hseen x hx).1
  rcases List.eq_nil_or_concat due with rfl | ⟨init, here, hdu⟩
  · simp
    refine ret_now (hq _ _ ⟨rfl, false, rfl, ⟨(fun z => by cases z), fun z => ?_⟩⟩)
    have key : ∀ y, Reach doors room y → y ≠ room ∧ y ∈ seen := fun y hy => by
      induction hy with
      | one h => exact hcl _ (.inl rfl) (by simp) _ h
      | snoc _ h ih => exact hcl _ (.inr ih.2) (by simp) _ h
    exact absurd rfl (key _ z).1
  · rw [List.concat_eq_append] at hdu
    subst hdu
    simp
    rw [s_sSeq]; simp
    have hh := hdue here (by simp)
    have hhr : here ∈ rooms := hh.elim (fun e => e ▸ hin) fun h => (hseen _ h).1
    have hre : ∀ y, Still doors here y → Reach doors room y := fun y hy => hh.elim (fun e => .one (e ▸ hy)) fun h => .snoc (hseen _ h).2 hy
    obtain ⟨qa, e1, e2⟩ := h5 here hhr
    simp [h1, h2, h3, e1, e2]
    refine for_ind (fun rest ψ g4 => g4 = g3 ∧ ∃ (done cs : List Dr) (due' seen' : List (List Nat)) (kv' : List (D × D)) (s5 : Option Sl), outOf doors here = done ++ cs ∧ rest = Ds cs ∧ 2 * (rooms.length - seen'.length) + due'.length ≤ 2 * (rooms.length - seen.length) + init.length ∧ kv'.map (·.1) = T seen' ∧ seen'.Nodup ∧
      (∀ x ∈ seen', x ∈ rooms ∧ Reach doors room x) ∧ (∀ x ∈ due', x = room ∨ x ∈ seen') ∧ (∀ x ∈ seen, x ∈ seen') ∧ (∀ x ∈ init, x ∈ due') ∧
      (∀ x, x = room ∨ x ∈ seen' → x ∉ due' → x ≠ here → ∀ y, Still doors x y → y ≠ room ∧ y ∈ seen') ∧ (∀ d ∈ done, d.s = [wStill] → d.o ≠ room ∧ d.o ∈ seen') ∧ due'.length ≤ seen'.length ∧
      ψ = [some (.d (.ref p)), some (.d (.str room)), some (.own (.dic false kv')), some (.own (.lst (T due'))), some (.d (.str here)), s5]) ?_ ?_ _ _ _
      ⟨rfl, [], outOf doors here, init, seen, kv, _, rfl, rfl, Nat.le_refl _, ek, hnd, hseen, fun x hx => hdue x (by simp [hx]), fun x h => h, fun x h => h, fun x h1 h2 h3 => hcl x h1 (by simp [h2, h3]), by simp, by simp at hdl; omega, rfl⟩
    · rintro x xs ψ g4 K2 ⟨rfl, done, cs, due', seen', kv', s5, f1, f2, f3, f4, f5, f6, f7, f8, f9, f10, f11, f12, rfl⟩ hK2
      cases cs with
      | nil => cases f2
      | cons d cs =>
        obtain ⟨rfl, rfl⟩ := List.cons.inj f2
        have hd : d ∈ outOf doors here := f1 ▸ List.mem_append_right _ (by simp)
        have hd1 : d ∈ doors := (List.mem_filter.mp hd).1
        have hd2 : d.r = here := of_decide_eq_true (List.mem_filter.mp hd).2
        have inS : ∀ w : List Nat, (D.str w ∈ kv'.map (·.1)) ↔ w ∈ seen' := fun w => by rw [f4]; exact mem_T
        have hk9 : kv'.length < most := by
          have : kv'.length = seen'.length := by have := congrArg List.length f4; simpa [T] using this
          have := pigeon f5 fun x hx => (f6 x hx).1
          omega
        have hs9 := pigeon f5 fun x hx => (f6 x hx).1
        simp
        rw [s_sSeq]
        by_cases c1 : d.s = [wStill]
        · have hst : Still doors here d.o := ⟨d, hd1, hd2, c1, rfl⟩
          by_cases c2 : d.o = room
          · simp [c1, c2]
            exact ret_now (hq _ _ ⟨rfl, true, rfl, ⟨fun _ => c2 ▸ hre _ hst, fun _ => rfl⟩⟩)
          · by_cases c3 : d.o ∈ seen'
            · simp [c1, c2, inS, c3]
              refine now ⟨e2, hK2 _ _ ⟨rfl, done ++ [d], cs, due', seen', kv', _, by simp [f1], rfl, f3, f4, f5, f6, f7, f8, f9, f10, fun d' hd' hs' => ?_, f12, rfl⟩⟩
              rcases List.mem_append.mp hd' with h | h
              · exact f11 d' h hs'
              · rw [List.mem_singleton.mp h]; exact ⟨c2, c3⟩
            · have hnk : D.str d.o ∉ kv'.map (·.1) := fun z => c3 ((inS _).mp z)
              have hdm : due'.length < most := by omega
              have hor := hot d hd1
              simp [c1, c2, inS, c3]
              rw [s_sSeq]; simp [hk9, putK_new _ _ _ hnk, hdm]
              have f5' : (seen' ++ [d.o]).Nodup := List.nodup_append.mpr ⟨f5, by simp, fun a ha b hb => by simp at hb; rw [hb]; exact fun z => c3 (z ▸ ha)⟩
              have hl' := pigeon f5' fun x hx => (List.mem_append.mp hx).elim (fun h => (f6 x h).1) fun h => by rw [List.mem_singleton.mp h]; exact hor
              simp at hl'
              refine now ⟨e2, hK2 _ _ ⟨rfl, done ++ [d], cs, due' ++ [d.o], seen' ++ [d.o], kv' ++ [(.str d.o, .bl true)], _, by simp [f1], rfl, by simp; omega, by simp [f4], f5', fun x hx => ?_, fun x hx => ?_, fun x h => by simp [f8 x h], fun x h => by simp [f9 x h], fun x h1 h2 h3 y hy => ?_, fun d' hd' hs' => ?_, by simp; omega, by simp [T]; rfl⟩⟩
              · rcases List.mem_append.mp hx with h | h
                · exact f6 x h
                · rw [List.mem_singleton.mp h]; exact ⟨hor, hre _ hst⟩
              · rcases List.mem_append.mp hx with h | h
                · exact (f7 x h).imp_right fun z => by simp [z]
                · rw [List.mem_singleton.mp h]; exact .inr (by simp)
              · have h2' : x ∉ due' ∧ x ≠ d.o := by simpa using h2
                have h1' : x = room ∨ x ∈ seen' := h1.imp_right fun z => (List.mem_append.mp z).elim id fun z => absurd (List.mem_singleton.mp z) h2'.2
                have := f10 x h1' h2'.1 h3 y hy
                exact ⟨this.1, by simp [this.2]⟩
              · rcases List.mem_append.mp hd' with h | h
                · have := f11 d' h hs'; exact ⟨this.1, by simp [this.2]⟩
                · rw [List.mem_singleton.mp h]; exact ⟨c2, by simp⟩
        · simp [c1]
          refine now ⟨e2, hK2 _ _ ⟨rfl, done ++ [d], cs, due', seen', kv', _, by simp [f1], rfl, f3, f4, f5, f6, f7, f8, f9, f10, fun d' hd' hs' => ?_, f12, rfl⟩⟩
          rcases List.mem_append.mp hd' with h | h
          · exact f11 d' h hs'
          · rw [List.mem_singleton.mp h] at hs'; exact absurd hs' c1
    · rintro ψ g4 ⟨rfl, done, cs, due', seen', kv', s5, f1, f2, f3, f4, f5, f6, f7, f8, f9, f10, f11, f12, rfl⟩
      have hcs : cs = [] := by cases cs with | nil => rfl | cons => cases f2
      subst hcs
      rw [List.append_nil] at f1
      refine now (hK _ _ _ ?_ ⟨rfl, due', seen', kv', _, _, rfl, f4, f5, f6, f7, fun x h1 h2 y hy => ?_, by omega, rfl⟩)
      · simp; omega
      · by_cases hx : x = here
        · obtain ⟨d, a, b, c, e⟩ := hy
          have := f11 d (f1 ▸ List.mem_filter.mpr ⟨a, by simp [b, hx]⟩) c
          rw [e] at this; exact this
        · exact f10 x h1 h2 hx y hy
end Pd
set_option linter.all false
set_option maxRecDepth 10000
namespace Pd
/-! a machine is made -/
theorem fd_none {asks says rooms : List (List Nat)} : ∀ {ds seen : List Dr} {n : Nat}, fd asks says rooms seen n ds = none → ds.Nodup ∧ (∀ d ∈ ds, d ∉ seen) ∧ ∀ d ∈ ds, okDoor asks says rooms d = true
  | [], _, _, _ => ⟨List.nodup_nil, fun _ h => (nomatch h), fun _ h => (nomatch h)⟩
  | d :: ds, seen, n, h => by
    rw [fd_cons] at h
    split at h
    · rename_i hc
      obtain ⟨h1, h2, h3⟩ := fd_none h
      refine ⟨List.nodup_cons.mpr ⟨fun hm => h2 d hm (by simp), h1⟩, fun v hv => ?_, fun v hv => ?_⟩
      · rcases List.mem_cons.mp hv with rfl | hv
        · exact hc.2
        · exact fun z => h2 v hv (List.mem_append_left _ z)
      · rcases List.mem_cons.mp hv with rfl | hv
        · exact hc.1
        · exact h3 v hv
    · cases h
theorem fd_ok {asks says rooms : List (List Nat)} : ∀ {ds seen : List Dr} {n : Nat}, ds.Nodup → (∀ d ∈ ds, d ∉ seen) → (∀ d ∈ ds, okDoor asks says rooms d = true) → fd asks says rooms seen n ds = none
  | [], _, _, _, _, _ => rfl
  | d :: ds, seen, n, h1, h2, h3 => by
    obtain ⟨a, b⟩ := List.nodup_cons.mp h1
    rw [fd_cons, if_pos ⟨h3 d (by simp), h2 d (by simp)⟩]
    refine fd_ok b (fun v hv hm => ?_) fun v hv => h3 v (by simp [hv])
    rcases List.mem_append.mp hm with hm | hm
    · exact h2 v (by simp [hv]) hm
    · rw [List.mem_singleton] at hm; exact a (hm ▸ hv)
theorem wrongDoor_none {asks says rooms : List (List Nat)} {ds : List Dr} (h : wrongDoor asks says rooms ds = none) : ds.length ≤ 2000 ∧ ds.Nodup ∧ ∀ d ∈ ds, okDoor asks says rooms d = true := by
  unfold wrongDoor at h
  split at h
  · cases h
  · rename_i e
    split at h
    · cases h
    · rename_i hl
      rw [List.take_of_length_le (by omega)] at e
      obtain ⟨h1, _, h3⟩ := fd_none e
      exact ⟨by omega, h1, h3⟩
theorem wrongDoor_ok {asks says rooms : List (List Nat)} {ds : List Dr} (hl : ds.length ≤ 2000) (nd : ds.Nodup) (h : ∀ d ∈ ds, okDoor asks says rooms d = true) : wrongDoor asks says rooms ds = none := by
  have e : ds.take 2000 = ds := List.take_of_length_le hl
  unfold wrongDoor
  rw [e, fd_ok nd (fun _ _ z => by cases z) h, if_neg (by omega)]
theorem okDoor_in {asks says rooms : List (List Nat)} {d : Dr} (h : okDoor asks says rooms d = true) : d.r ∈ rooms ∧ d.o ∈ rooms ∧ isSign asks says d.s = true := by
  simpa [okDoor] using h
open Classical in
noncomputable def roundAt (ds : List Dr) : Nat → List (List Nat) → Option Nat
  | _, [] => none
  | n, r :: rs => if Reach ds r r then some n else roundAt ds (n + 1) rs
theorem round_cons (ds : List Dr) (n : Nat) (r : List Nat) (rs : List (List Nat)) : (Reach ds r r → roundAt ds n (r :: rs) = some n) ∧ (¬ Reach ds r r → roundAt ds n (r :: rs) = roundAt ds (n + 1) rs) := by
  constructor
  · intro h; exact if_pos h
  · intro h; exact if_neg h
noncomputable def badM (asks says rooms : List (List Nat)) (doors : List Dr) : Option (List Nat × Nat) := match badPart asks says rooms with
  | some x => some x
  | none => match wrongDoor asks says rooms doors with
    | some n => some ([100, 111, 111, 114, 115], n)
    | none => match roundAt doors 0 rooms with
      | some n => some (wStill, n)
      | none => none
structure Mk where
  p : Nat
  asks : List (List Nat)
  says : List (List Nat)
  rooms : List (List Nat)
  doors : List Dr
abbrev Mk.m (x : Mk) : Mch := ⟨x.asks, x.says, x.rooms, x.doors⟩
def MachD (g : G) (p : Nat) (m : Mch) : Prop := ∃ (q1 q2 q3 q4 : Nat), g p = some (.ins "Machine" [("ask_words", .ref q1), ("say_words", .ref q2), ("leading", .ref q3), ("all_doors", .ref q4)]) ∧
  g q1 = some (.lst (T m.asks)) ∧ g q2 = some (.lst (T m.says)) ∧ g q4 = some (.lst (Ds m.doors)) ∧ LeadAt g q3 m.rooms m.doors
def d_init : Sg Mk := ⟨fun x ss g => (∃ s1 s2 s3 s4, ss = [.d (.ref x.p), s1, s2, s3, s4] ∧ lookS g s1 = some (.o (.lst (T x.asks))) ∧ lookS g s2 = some (.o (.lst (T x.says))) ∧ lookS g s3 = some (.o (.lst (T x.rooms))) ∧ lookS g s4 = some (.o (.lst (Ds x.doors)))) ∧
    g x.p = some (.ins "Machine" []) ∧ (x.asks.length ≤ 4000 ∧ x.says.length ≤ 4000 ∧ x.rooms.length ≤ 4000 ∧ x.doors.length ≤ 4000) ∧ (∀ w ∈ x.asks, w.length ≤ most) ∧ (∀ w ∈ x.says, w.length ≤ most) ∧ (∀ w ∈ x.rooms, w.length ≤ most) ∧ ∀ d ∈ x.doors, Two d.s,
  fun x g r g' => r = .d .non ∧ badM x.asks x.says x.rooms x.doors = none ∧ MachD g' x.p x.m ∧ ∀ a u, g a = some u → a ≠ x.p → g' a = some u,
  fun x g z g' => (∀ a u, g a = some u → a ≠ x.p → g' a = some u) ∧ ∃ part n, badM x.asks x.says x.rooms x.doors = some (part, n) ∧ z = noMach part n⟩
theorem look_app : ∀ (kvs : List (D × D)) (k v : D), k ∉ kvs.map (·.1) → lookK (kvs ++ [(k, v)]) k = some v
  | [], k, v, h => by simp [lookK]
  | p :: r, k, v, h => by
    rw [List.map_cons, List.mem_cons, not_or] at h
    show (if p.1 = k then some p.2 else lookK (r ++ [(k, v)]) k) = _
    rw [if_neg fun e => h.1 e.symm, look_app r k v h.2]
theorem look_old : ∀ (kvs : List (D × D)) (k v j u : D), lookK kvs j = some u → lookK (kvs ++ [(k, v)]) j = some u
  | [], k, v, j, u, h => by cases h
  | p :: r, k, v, j, u, h => by
    have h' : (if p.1 = j then some p.2 else lookK r j) = some u := h
    show (if p.1 = j then some p.2 else lookK (r ++ [(k, v)]) j) = _
    split at h'
    · rename_i e; rw [if_pos e]; exact h'
    · rename_i e; rw [if_neg e]; exact look_old r k v j u h'
/-- writing at a place where nothing of g stood keeps a list that a slot holds in g -/
theorem look_far {g g' : G} {s : Sl} {xs : List D} (h : lookS g s = some (.o (.lst xs))) (k : ∀ a u, g a = some u → g' a = some u) : lookS g' s = some (.o (.lst xs)) := look_kept h fun a e => k a _ e
theorem k_init : Keeps d_init.wp (b_Machine___init__ d_need.wp d_needD.wp d_round.wp) 8 := by
  rintro ss g E Q ⟨⟨p, asks, says, rooms, doors⟩, ⟨⟨s1, s2, s3, s4, rfl, h1, h2, h3, h4⟩, hp, ⟨l1, l2, l3, l4⟩, w1, w2, w3, w4⟩, hq, he⟩
  have h8 := most_is
  simp only at h1 h2 h3 h4 hp l1 l2 l3 l4 w1 w2 w3 w4
  simp [b_Machine___init__, begin_]
  rw [s_sSeq]; simp
  refine call_of ⟨[97, 115, 107, 115], asks, 4, []⟩ ⟨⟨lendS s1, .bor (.lst []), rfl, by simpa using h1, rfl⟩, l1, by simp, w1⟩ ?_ ?_
  rotate_left
  · rintro z g' ⟨rfl, n, e1, rfl⟩
    exact he _ _ ⟨fun _ _ e _ => e, _, n, by simp [badM, badPart, e1], rfl⟩
  rintro r g' ⟨rfl, rfl, e1⟩
  rw [s_sSeq]; simp
  refine call_of ⟨[115, 97, 121, 115], says, 4, asks⟩ ⟨⟨lendS s2, lendS s1, rfl, by simpa using h2, by simpa using h1⟩, l2, by simp, w2⟩ ?_ ?_
  rotate_left
  · rintro z g' ⟨rfl, n, e2, rfl⟩
    exact he _ _ ⟨fun _ _ e _ => e, _, n, by simp [badM, badPart, e1, e2], rfl⟩
  rintro r g' ⟨rfl, rfl, e2⟩
  rw [s_sSeq]; simp
  refine call_of ⟨[114, 111, 111, 109, 115], rooms, 150, []⟩ ⟨⟨lendS s3, .bor (.lst []), rfl, by simpa using h3, rfl⟩, l3, by simp, w3⟩ ?_ ?_
  rotate_left
  · rintro z g' ⟨rfl, n, e3, rfl⟩
    exact he _ _ ⟨fun _ _ e _ => e, _, n, by simp [badM, badPart, e1, e2, e3], rfl⟩
  rintro r g' ⟨rfl, rfl, e3⟩
  have hbad : badPart asks says rooms = none := by simp [badPart, e1, e2, e3]
  obtain ⟨_, _, hnd, _⟩ := firstWrong_none e3
  -- the words
  rw [s_sSeq]; simp [h1]
  intro q1 hq1
  have hp1 : p ≠ q1 := fun z => by rw [z, hq1] at hp; cases hp
  simp [G.upd_ne hp1, hp, putF]
  generalize hg1 : (g'.upd q1 (O.lst (List.map D.str asks))).upd p (O.ins "Machine" [("ask_words", D.ref q1)]) = g1
  have k1 : ∀ a u, g' a = some u → a ≠ p → g1 a = some u := hg1 ▸ keep_new (fun a u e _ => e) hq1
  have a1 : g1 q1 = some (.lst (T asks)) := by rw [← hg1, G.upd_ne (Ne.symm hp1), G.upd_same]
  have b1 : g1 p = some (.ins "Machine" [("ask_words", .ref q1)]) := by rw [← hg1, G.upd_same]
  have h2 := hg1 ▸ look_lst (o := .lst (T asks)) (fs' := [("ask_words", .ref q1)]) h2 hp hq1
  have h1' := hg1 ▸ look_lst (o := .lst (T asks)) (fs' := [("ask_words", .ref q1)]) h1 hp hq1
  have h3 := hg1 ▸ look_lst (o := .lst (T asks)) (fs' := [("ask_words", .ref q1)]) h3 hp hq1
  have h4 := hg1 ▸ look_lst (o := .lst (T asks)) (fs' := [("ask_words", .ref q1)]) h4 hp hq1
  rw [s_sSeq]; simp [h2]
  intro q2 hq2
  have hp2 : p ≠ q2 := fun z => by rw [z, hq2] at b1; cases b1
  simp [G.upd_ne hp2, b1, putF]
  generalize hg2 : (g1.upd q2 (O.lst (List.map D.str says))).upd p (O.ins "Machine" [("ask_words", D.ref q1), ("say_words", D.ref q2)]) = g2
  have k2 : ∀ a u, g' a = some u → a ≠ p → g2 a = some u := hg2 ▸ keep_new k1 hq2
  have a2 : g2 q2 = some (.lst (T says)) := by rw [← hg2, G.upd_ne (Ne.symm hp2), G.upd_same]
  have a1 : g2 q1 = some (.lst (T asks)) := by
    have : q1 ≠ q2 := fun z => by rw [z, hq2] at a1; cases a1
    rw [← hg2, G.upd_ne (Ne.symm hp1), G.upd_ne this]; exact a1
  have b2 : g2 p = some (.ins "Machine" [("ask_words", .ref q1), ("say_words", .ref q2)]) := by rw [← hg2, G.upd_same]
  have h1' := hg2 ▸ look_lst (o := .lst (T says)) (fs' := [("ask_words", .ref q1), ("say_words", .ref q2)]) h1' b1 hq2
  have h2' := hg2 ▸ look_lst (o := .lst (T says)) (fs' := [("ask_words", .ref q1), ("say_words", .ref q2)]) h2 b1 hq2
  have h3 := hg2 ▸ look_lst (o := .lst (T says)) (fs' := [("ask_words", .ref q1), ("say_words", .ref q2)]) h3 b1 hq2
  have h4 := hg2 ▸ look_lst (o := .lst (T says)) (fs' := [("ask_words", .ref q1), ("say_words", .ref q2)]) h4 b1 hq2
  rw [s_sSeq]; simp
  intro q3 hq3
  have hp3 : p ≠ q3 := fun z => by rw [z, hq3] at b2; cases b2
  simp [G.upd_ne hp3, b2, putF]
  generalize hg3 : (g2.upd q3 (O.dic false [])).upd p (O.ins "Machine" [("ask_words", D.ref q1), ("say_words", D.ref q2), ("leading", D.ref q3)]) = g3
  have k3 : ∀ a u, g' a = some u → a ≠ p → g3 a = some u := hg3 ▸ keep_new k2 hq3
  have a3 : g3 q3 = some (.dic false []) := by rw [← hg3, G.upd_ne (Ne.symm hp3), G.upd_same]
  have a1 : g3 q1 = some (.lst (T asks)) := by
    have : q1 ≠ q3 := fun z => by rw [z, hq3] at a1; cases a1
    rw [← hg3, G.upd_ne (Ne.symm hp1), G.upd_ne this]; exact a1
  have a2 : g3 q2 = some (.lst (T says)) := by
    have : q2 ≠ q3 := fun z => by rw [z, hq3] at a2; cases a2
    rw [← hg3, G.upd_ne (Ne.symm hp2), G.upd_ne this]; exact a2
  have b3 : g3 p = some (.ins "Machine" [("ask_words", .ref q1), ("say_words", .ref q2), ("leading", .ref q3)]) := by rw [← hg3, G.upd_same]
  have h1' := hg3 ▸ look_lst (o := .dic false []) (fs' := [("ask_words", .ref q1), ("say_words", .ref q2), ("leading", .ref q3)]) h1' b2 hq3
  have h2' := hg3 ▸ look_lst (o := .dic false []) (fs' := [("ask_words", .ref q1), ("say_words", .ref q2), ("leading", .ref q3)]) h2' b2 hq3
  have h3 := hg3 ▸ look_lst (o := .dic false []) (fs' := [("ask_words", .ref q1), ("say_words", .ref q2), ("leading", .ref q3)]) h3 b2 hq3
  have h4 := hg3 ▸ look_lst (o := .dic false []) (fs' := [("ask_words", .ref q1), ("say_words", .ref q2), ("leading", .ref q3)]) h4 b2 hq3
  have h30 := h3
  have h40 := h4
  -- the rooms
  rw [s_sSeq]; simp [h3]
  refine for_ind (fun rest ψ g4 => ∃ (done cs : List (List Nat)) (kvs : List (D × D)) (s5 : Option Sl), rooms = done ++ cs ∧ rest = T cs ∧ kvs.map (·.1) = T done ∧ ψ = [some (.d (.ref p)), some s1, some s2, some s3, some s4, s5, none, none] ∧
    g4 q3 = some (.dic false kvs) ∧ (∀ w ∈ done, ∃ q, lookK kvs (.str w) = some (.ref q) ∧ g4 q = some (.lst []) ∧ g3 q = none ∧ ∀ v ∈ done, lookK kvs (.str v) = some (.ref q) → v = w) ∧ ∀ a u, g3 a = some u → a ≠ q3 → g4 a = some u) ?_ ?_ _ _ _ ⟨[], rooms, [], _, rfl, rfl, rfl, rfl, a3, fun _ h => (nomatch h), fun a u e _ => e⟩
  · rintro x xs ψ g4 K ⟨done, cs, kvs, s5, er, e5, ek, rfl, a4, hv, k4⟩ hK
    cases cs with
    | nil => cases e5
    | cons w cs =>
      obtain ⟨rfl, rfl⟩ := List.cons.inj e5
      have hkl : kvs.length = done.length := by have := congrArg List.length ek; simpa [T] using this
      have hdl : done.length < 4000 := by rw [er] at l3; simp at l3; omega
      have hwd : w ∉ done := fun hm => by
        rw [er] at hnd
        exact (List.nodup_append.mp hnd).2.2 w hm w (by simp) rfl
      have hnk : D.str w ∉ kvs.map (·.1) := by rw [ek]; simpa [T] using hwd
      have b4 := k4 p _ b3 hp3
      have hko : keyOk false (.str w) = true := rfl
      simp
      intro q hq
      have n1 : p ≠ q := fun z => by rw [z, hq] at b4; cases b4
      have n2 : q3 ≠ q := fun z => by rw [z, hq] at a4; cases a4
      have hk9 : kvs.length < most := by omega
      have el : List.lookup "leading" [("ask_words", D.ref q1), ("say_words", D.ref q2), ("leading", D.ref q3)] = some (.ref q3) := rfl
      simp [G.upd_ne n1, b4, G.upd_ne n2, a4, hko, hk9, putK_new _ _ _ hnk, el]
      have kk : ∀ a u, g4 a = some u → a ≠ q3 → ((g4.upd q (.lst [])).upd q3 (.dic false (kvs ++ [(.str w, .ref q)]))) a = some u := keep_new (fun a u e _ => e) hq
      have h3' : lookS ((g4.upd q (.lst [])).upd q3 (.dic false (kvs ++ [(.str w, .ref q)]))) s3 = some (.o (.lst (T rooms))) :=
        look_mid (look_mid h3 a3 (by intro z; cases z) k4) a4 (by intro z; cases z) kk
      have q0 : g3 q = none := by
        cases z : g3 q with
        | none => rfl
        | some u =>
          have := k4 q u z (Ne.symm n2)
          rw [hq] at this; cases this
      have lone : ∀ v ∈ done, lookK (kvs ++ [(.str w, .ref q)]) (.str v) ≠ some (.ref q) := fun v hvm z => by
        obtain ⟨q', e6, e7, _⟩ := hv v hvm
        rw [look_old _ _ _ _ _ e6] at z
        cases z
        rw [hq] at e7; cases e7
      refine now ⟨h3', hK _ _ ⟨done ++ [w], cs, _, _, by simp [er], rfl, by simp [ek, T], rfl, G.upd_same, fun v hm => ?_, fun a u e ne => kk a u (k4 a u e ne) ne⟩⟩
      rcases List.mem_append.mp hm with hm | hm
      · obtain ⟨q', e6, e7, e8, e9⟩ := hv v hm
        have n3 : q' ≠ q3 := fun z => by rw [z, a4] at e7; cases e7
        refine ⟨q', look_old _ _ _ _ _ e6, kk _ _ e7 n3, e8, fun x hx z => ?_⟩
        rcases List.mem_append.mp hx with hx | hx
        · obtain ⟨q2, e10, _⟩ := hv x hx
          rw [look_old _ _ _ _ _ e10] at z
          cases z
          exact e9 x hx e10
        · rw [List.mem_singleton.mp hx, look_app _ _ _ hnk] at z
          cases z
          rw [hq] at e7; cases e7
      · rw [List.mem_singleton.mp hm]
        refine ⟨q, look_app _ _ _ hnk, by rw [G.upd_ne (Ne.symm n2), G.upd_same], q0, fun x hx z => ?_⟩
        rcases List.mem_append.mp hx with hx | hx
        · exact absurd z (lone x hx)
        · exact List.mem_singleton.mp hx
  rintro ψ g4 ⟨done, cs, kvs, s5, er, e5, ek, rfl, a4, hv, k4⟩
  have hcs : cs = [] := by
    cases cs with
    | nil => rfl
    | cons w cs => cases e5
  subst hcs
  rw [List.append_nil] at er
  subst er
  have b4 := k4 p _ b3 hp3
  have h4 := look_mid h4 a3 (by intro z; cases z) k4
  have h3 := look_mid h3 a3 (by intro z; cases z) k4
  have h1' := look_mid h1' a3 (by intro z; cases z) k4
  have h2' := look_mid h2' a3 (by intro z; cases z) k4
  have kold : ∀ a u, g' a = some u → a ≠ p → g4 a = some u := fun a u e ne => by
    have m3 : a ≠ q3 := fun z => by
      have := k2 a u e ne
      rw [z, hq3] at this; cases this
    exact k4 _ _ (k3 _ _ e ne) m3
  have el : List.lookup "leading" [("ask_words", D.ref q1), ("say_words", D.ref q2), ("leading", D.ref q3)] = some (.ref q3) := rfl
  simp
  rw [s_sSeq]; simp [b4, el]
  refine call_of ⟨doors, asks, says, rooms⟩ ⟨⟨_, _, _, _, kvs, rfl, by simpa using h4, by simpa using h1', by simpa using h2', by simp [a4], ek⟩, w4⟩ ?_ ?_
  rotate_left
  · rintro z g5 ⟨rfl, n, en, rfl⟩
    exact he _ _ ⟨kold, _, n, by simp [badM, hbad, en], rfl⟩
  rintro r g5 ⟨rfl, rfl, ewd⟩
  obtain ⟨hdl, hdn, hdo⟩ := wrongDoor_none ewd
  rw [s_sSeq]; simp [h4]
  intro q4 hq4
  have hp4 : p ≠ q4 := fun z => by rw [z, hq4] at b4; cases b4
  simp [G.upd_ne hp4, b4, putF]
  generalize hg5 : (g5.upd q4 (O.lst (List.map dr doors))).upd p (O.ins "Machine" [("ask_words", D.ref q1), ("say_words", D.ref q2), ("leading", D.ref q3), ("all_doors", D.ref q4)]) = g6
  have kk : ∀ a u, g5 a = some u → a ≠ p → g6 a = some u := hg5 ▸ keep_new (fun a u e _ => e) hq4
  have b6 : g6 p = some (.ins "Machine" [("ask_words", .ref q1), ("say_words", .ref q2), ("leading", .ref q3), ("all_doors", .ref q4)]) := by rw [← hg5, G.upd_same]
  have c4 : g6 q4 = some (.lst (Ds doors)) := by rw [← hg5, G.upd_ne (Ne.symm hp4), G.upd_same]
  have h4 := hg5 ▸ look_lst (o := .lst (Ds doors)) (fs' := [("ask_words", .ref q1), ("say_words", .ref q2), ("leading", .ref q3), ("all_doors", .ref q4)]) h4 b4 hq4
  have h3 := hg5 ▸ look_lst (o := .lst (Ds doors)) (fs' := [("ask_words", .ref q1), ("say_words", .ref q2), ("leading", .ref q3), ("all_doors", .ref q4)]) h3 b4 hq4
  have c3 : g6 q3 = some (.dic false kvs) := kk _ _ a4 (Ne.symm hp3)
  have c1 : g6 q1 = some (.lst (T asks)) := by
    have m1 : q1 ≠ q3 := fun z => by rw [z, a3] at a1; cases a1
    exact kk _ _ (k4 _ _ a1 m1) (Ne.symm hp1)
  have c2 : g6 q2 = some (.lst (T says)) := by
    have m2 : q2 ≠ q3 := fun z => by rw [z, a3] at a2; cases a2
    exact kk _ _ (k4 _ _ a2 m2) (Ne.symm hp2)
  have hp3' : g3 p ≠ none := by rw [b3]; intro z; cases z
  -- the doors, each to its room
  have hrow : ∀ w ∈ rooms, ∃ q, lookK kvs (.str w) = some (.ref q) ∧ g6 q = some (.lst []) ∧ g3 q = none ∧ q ≠ q4 ∧ ∀ v ∈ rooms, lookK kvs (.str v) = some (.ref q) → v = w := fun w hw => by
    obtain ⟨q, e6, e7, e8, e9⟩ := hv w hw
    have n5 : q ≠ p := fun z => hp3' (z ▸ e8)
    have n6 : q ≠ q4 := fun z => by rw [z, hq4] at e7; cases e7
    exact ⟨q, e6, kk _ _ e7 n5, e8, n6, e9⟩
  clear hv
  have np : ∀ w ∈ rooms, lookK kvs (.str w) ≠ some (.ref p) := fun w hw z => by
    obtain ⟨q, e8, _, e9, _⟩ := hrow w hw
    rw [z] at e8; cases e8; exact hp3' e9
  have n3 : ∀ w ∈ rooms, lookK kvs (.str w) ≠ some (.ref q3) := fun w hw z => by
    obtain ⟨q, e8, _, e9, _⟩ := hrow w hw
    rw [z] at e8; cases e8; rw [a3] at e9; cases e9
  have nq : ∀ a (xs : List D), g3 a = some (.lst xs) → ∀ w ∈ rooms, lookK kvs (.str w) ≠ some (.ref a) := fun a xs e w hw z => by
    obtain ⟨q, e8, _, e9, _⟩ := hrow w hw
    rw [z] at e8; cases e8; rw [e] at e9; cases e9
  have kl6 : ∀ a (xs : List D), g3 a = some (.lst xs) → g6 a = some (.lst xs) := fun a xs e => by
    have m1 : a ≠ q3 := fun z => by rw [z, a3] at e; cases e
    have m2 : a ≠ p := fun z => by rw [z, b3] at e; cases e
    exact kk _ _ (k4 _ _ e m1) m2
  rw [s_sSeq]; simp [h4]
  refine for_ind (fun rest ψ g7 => ∃ (done cs : List Dr) (s6 : Option Sl), doors = done ++ cs ∧ rest = Ds cs ∧ (∀ w ∈ rooms, ∃ q, lookK kvs (.str w) = some (.ref q) ∧ g7 q = some (.lst (Ds (outOf done w)))) ∧ (∀ a u, g6 a = some u → (∀ w ∈ rooms, lookK kvs (.str w) ≠ some (.ref a)) → g7 a = some u) ∧
    ψ = [some (.d (.ref p)), some s1, some s2, some s3, some s4, s5, s6, none]) ?_ ?_ _ _ _ ⟨[], doors, _, rfl, rfl, fun w hw => let ⟨q, e6, e7, _⟩ := hrow w hw; ⟨q, e6, e7⟩, fun _ _ e _ => e, rfl⟩
  · rintro x xs ψ g7 K ⟨done, cs, s6, e6, e7, hv, k7, rfl⟩ hK
    cases cs with
    | nil => cases e7
    | cons d cs =>
      obtain ⟨rfl, rfl⟩ := List.cons.inj e7
      have hd : d ∈ doors := e6 ▸ List.mem_append_right _ (by simp)
      obtain ⟨hr, ho, _⟩ := okDoor_in (hdo d hd)
      have b7 := k7 p _ b6 np
      have c7 := k7 q3 _ c3 n3
      obtain ⟨q, e8, e9⟩ := hv d.r hr
      have el : List.lookup "leading" [("ask_words", D.ref q1), ("say_words", D.ref q2), ("leading", D.ref q3), ("all_doors", D.ref q4)] = some (.ref q3) := rfl
      have hlo : (outOf done d.r).length < most := by
        have h7 := List.length_filter_le (fun d' => decide (d'.r = d.r)) done
        have : done.length ≤ doors.length := by rw [e6]; simp
        unfold outOf; omega
      simp [b7, el, c7, e8, e9, hlo]
      have lone : ∀ w ∈ rooms, lookK kvs (.str w) = some (.ref q) → w = d.r := fun w hw z => by
        obtain ⟨q', e10, _, _, _, e11⟩ := hrow d.r hr
        rw [e8] at e10; cases e10
        exact e11 w hw z
      have qne : ∀ w ∈ rooms, w ≠ d.r → ∀ q', lookK kvs (.str w) = some (.ref q') → q' ≠ q := fun w hw hne q' e z => hne (lone w hw (z ▸ e))
      refine now ⟨?_, hK _ _ ⟨done ++ [d], cs, _, by simp [e6], rfl, fun w hw => ?_, fun a u e hn => ?_, rfl⟩⟩
      · exact look_kept h40 fun a e => by
          have n : a ≠ q := fun z => by
            obtain ⟨q', e10, _, e11, _⟩ := hrow d.r hr
            rw [e8] at e10; cases e10
            rw [z, e11] at e; cases e
          rw [G.upd_ne n]
          exact k7 a _ (kl6 _ _ e) (nq _ _ e)
      · by_cases hwr : w = d.r
        · subst hwr
          exact ⟨q, e8, by rw [G.upd_same]; simp [outOf, Ds]⟩
        · obtain ⟨q', e10, e11⟩ := hv w hw
          refine ⟨q', e10, ?_⟩
          rw [G.upd_ne (qne w hw hwr q' e10), e11]
          simp only [outOf, List.filter_append]; simp [show ¬ d.r = w from fun z => hwr z.symm]
      · rw [G.upd_ne fun z => hn d.r hr (by rw [z]; exact e8)]
        exact k7 a u e hn
  rintro ψ g7 ⟨done, cs, s6, e6, e7, hv, k7, rfl⟩
  have hcs : cs = [] := by
    cases cs with
    | nil => rfl
    | cons w cs => cases e7
  subst hcs
  rw [List.append_nil] at e6
  subst e6
  have h3 : lookS g7 s3 = some (.o (.lst (T rooms))) := look_kept h30 fun a e => k7 a _ (kl6 _ _ e) (nq _ _ e)
  have b7 := k7 p _ b6 np
  have c7 := k7 q3 _ c3 n3
  have nq4 : ∀ w ∈ rooms, lookK kvs (.str w) ≠ some (.ref q4) := fun w hw z => by
    obtain ⟨q, e8, _, _, e9, _⟩ := hrow w hw
    rw [z] at e8; cases e8; exact e9 rfl
  have hlead : LeadAt g7 q3 rooms doors := ⟨kvs, c7, ek, hv⟩
  have kall : ∀ a u, g' a = some u → a ≠ p → g7 a = some u := fun a u e ne => by
    have e3 := k3 a u e ne
    have m3 : a ≠ q3 := fun z => by
      have := k2 a u e ne
      rw [z, hq3] at this; cases this
    refine k7 a u (kk _ _ (k4 _ _ e3 m3) ne) fun w hw z => ?_
    obtain ⟨q, e8, _, e9, _⟩ := hrow w hw
    rw [z] at e8; cases e8; rw [e3] at e9; cases e9
  simp
  simp [h3]
  refine for_ind (fun rest ψ g8 => ∃ (done cs : List (List Nat)) (s5 s7 : Option Sl), rooms = done ++ cs ∧ rest = numbered done.length (T cs) ∧ roundAt doors 0 rooms = roundAt doors done.length cs ∧ g8 = g7 ∧ ψ = [some (.d (.ref p)), some s1, some s2, some s3, some s4, s5, s6, s7]) ?_ ?_ _ _ _ ⟨[], rooms, _, _, rfl, rfl, rfl, rfl, rfl⟩
  · rintro x xs ψ g8 K ⟨done, cs, s5, s7, e6, e7, e8, rfl, rfl⟩ hK
    cases cs with
    | nil => cases e7
    | cons w cs =>
      obtain ⟨rfl, rfl⟩ := List.cons.inj e7
      have hw : w ∈ rooms := e6 ▸ List.mem_append_right _ (by simp)
      have hin : IsIns g8 p "Machine" "comes_round" := by unfold IsIns; rw [b7]; exact ⟨rfl, rfl⟩
      simp [hin]
      refine call_of ⟨p, w, q3, rooms, doors⟩ ⟨rfl, ⟨_, b7, rfl⟩, hlead, hw, fun d hd => (okDoor_in (hdo d hd)).2.1, l3, w4⟩ ?_
      rintro r g9 ⟨rfl, b, rfl, hb⟩
      simp
      cases b with
      | true =>
        simp
        refine he _ _ ⟨kall, wStill, done.length, ?_, rfl⟩
        have e9 : roundAt doors 0 rooms = some done.length := e8.trans ((round_cons _ _ _ _).1 (hb.mp rfl))
        show badM asks says rooms doors = _
        unfold badM
        rw [hbad, show wrongDoor asks says rooms doors = none from ewd, e9]
      | false =>
        simp
        refine now ⟨h3, hK _ _ ⟨done ++ [w], cs, _, _, by simp [e6], by simp, ?_, rfl, rfl⟩⟩
        rw [e8, (round_cons _ _ _ _).2 (fun z => by have := hb.mpr z; cases this)]; simp
  · rintro ψ g8 ⟨done, cs, s5, s7, e6, e7, e8, rfl, rfl⟩
    have hcs : cs = [] := by
      cases cs with
      | nil => rfl
      | cons w cs => cases e7
    subst hcs
    simp
    refine ret_now (hq _ _ ⟨rfl, ?_, ⟨q1, q2, q3, q4, b7, k7 _ _ c1 (nq _ _ a1), k7 _ _ c2 (nq _ _ a2), k7 _ _ c4 nq4, hlead⟩, kall⟩)
    show badM asks says rooms doors = _
    unfold badM
    rw [hbad, show wrongDoor asks says rooms doors = none from ewd, e8]; rfl
end Pd
set_option linter.all false
set_option maxRecDepth 10000
namespace Pd
/-! what a machine tells -/
theorem MachD.keep {g g' : G} {p : Nat} {m : Mch} (h : MachD g p m) (k : ∀ a u, g a = some u → g' a = some u) : MachD g' p m := by
  obtain ⟨q1, q2, q3, q4, e1, e2, e3, e4, kvs, e5, e6, e7⟩ := h
  exact ⟨q1, q2, q3, q4, k _ _ e1, k _ _ e2, k _ _ e3, k _ _ e4, kvs, k _ _ e5, e6, fun w hw => let ⟨a, x, y⟩ := e7 w hw; ⟨a, x, k _ _ y⟩⟩
theorem MachD.new {g : G} {p : Nat} {m : Mch} (h : MachD g p m) {q : Nat} {o : O} (hq : g q = none) : MachD (g.upd q o) p m := h.keep (up_new (fun _ _ e => e) hq)
theorem MachD.ins {g : G} {p : Nat} {m : Mch} {f : String} (h : MachD g p m) (hf : List.lookup f [("ask_words", D.non), ("say_words", D.non), ("leading", D.non), ("all_doors", D.non)] = none) : IsIns g p "Machine" f := by
  obtain ⟨q1, q2, q3, q4, e1, _⟩ := h
  unfold IsIns; rw [e1]
  refine ⟨rfl, ?_⟩
  simp only [List.lookup] at hf ⊢
  repeat' split
  all_goals simp_all
structure Ma where
  p : Nat
  m : Mch
def d_asksD : Sg Ma := ⟨fun x ss g => ss = [.d (.ref x.p)] ∧ MachD g x.p x.m, fun x g r g' => g' = g ∧ r = .own (.lst (T x.m.asks)), fun _ _ _ _ => False⟩
def d_saysD : Sg Ma := ⟨fun x ss g => ss = [.d (.ref x.p)] ∧ MachD g x.p x.m, fun x g r g' => g' = g ∧ r = .own (.lst (T x.m.says)), fun _ _ _ _ => False⟩
def d_roomsD : Sg Ma := ⟨fun x ss g => ss = [.d (.ref x.p)] ∧ MachD g x.p x.m, fun x g r g' => g' = g ∧ r = .own (.lst (T x.m.rooms)), fun _ _ _ _ => False⟩
def d_doorsD : Sg Ma := ⟨fun x ss g => ss = [.d (.ref x.p)] ∧ MachD g x.p x.m, fun x g r g' => g' = g ∧ r = .own (.lst (Ds x.m.doors)), fun _ _ _ _ => False⟩
theorem k_asksD : Keeps d_asksD.wp b_Machine_asks 1 := by
  rintro ss g E Q ⟨x, ⟨rfl, q1, q2, q3, q4, e1, e2, e3, e4, _⟩, hq, _⟩
  simp [b_Machine_asks, begin_, e1, lk4_1, e2]
  exact ret_now (hq _ _ ⟨rfl, rfl⟩)
theorem k_saysD : Keeps d_saysD.wp b_Machine_says 1 := by
  rintro ss g E Q ⟨x, ⟨rfl, q1, q2, q3, q4, e1, e2, e3, e4, _⟩, hq, _⟩
  simp [b_Machine_says, begin_, e1, lk4_2, e3]
  exact ret_now (hq _ _ ⟨rfl, rfl⟩)
theorem k_roomsD : Keeps d_roomsD.wp b_Machine_rooms 1 := by
  rintro ss g E Q ⟨x, ⟨rfl, q1, q2, q3, q4, e1, e2, e3, e4, kvs, e5, e6, _⟩, hq, _⟩
  simp [b_Machine_rooms, begin_, e1, lk4_3, e5]
  exact ret_now (hq _ _ ⟨rfl, by rw [e6]⟩)
theorem k_doorsD : Keeps d_doorsD.wp b_Machine_doors 1 := by
  rintro ss g E Q ⟨x, ⟨rfl, q1, q2, q3, q4, e1, e2, e3, e4, _⟩, hq, _⟩
  simp [b_Machine_doors, begin_, e1, lk4_4, e4]
  exact ret_now (hq _ _ ⟨rfl, rfl⟩)
theorem rsv_refD {g : G} {a : Nat} {ds : List Dr} (h : g a = some (.lst (Ds ds))) : rsv 6 g (.ref a) = some (.rol (Ds ds)) := by
  have e : rsv 6 g (.ref a) = match g a with | some (.lst xs) => (xs.mapM (rsv 5 g)).map D.rol | _ => none := rfl
  have m : ∀ ds : List Dr, (Ds ds).mapM (rsv 5 g) = some (Ds ds) := fun ds => by
    induction ds with
    | nil => rfl
    | cons d ds ih =>
      show (dr d :: Ds ds).mapM (rsv 5 g) = _
      rw [List.mapM_cons, rsv_pure 5 g (pure_dr d), ih]; rfl
  rw [e, h]
  show ((Ds ds).mapM (rsv 5 g)).map D.rol = _
  rw [m]; rfl
theorem ne_fourD {g : G} {a b c d a' b' c' d' : Nat} {w1 w2 w3 : List (List Nat)} {w4 : List Dr} (h1 : g a = some (.lst (T w1))) (h2 : g b = some (.lst (T w2))) (h3 : g c = some (.lst (T w3))) (h4 : g d = some (.lst (Ds w4)))
    (k1 : g a' = some (.lst (T w1))) (k2 : g b' = some (.lst (T w2))) (k3 : g c' = some (.lst (T w3))) (k4 : g d' = some (.lst (Ds w4))) :
    oNe g (.o (.lst [.ref a, .ref b, .ref c, .ref d])) (.o (.lst [.ref a', .ref b', .ref c', .ref d'])) = some (.d (.bl false)) := by
  have e : ∀ {a b c d : Nat}, g a = some (.lst (T w1)) → g b = some (.lst (T w2)) → g c = some (.lst (T w3)) → g d = some (.lst (Ds w4)) → rsvC g (.o (.lst [.ref a, .ref b, .ref c, .ref d])) = some (.rol [.rol (T w1), .rol (T w2), .rol (T w3), .rol (Ds w4)]) := fun {a b c d} h1 h2 h3 h4 => by
    show (([.ref a, .ref b, .ref c, .ref d] : List D).mapM (rsv 6 g)).map D.rol = _
    simp [List.mapM_cons, rsv_ref 5 h1, rsv_ref 5 h2, rsv_ref 5 h3, rsv_refD h4]
  have z : eqC g (.o (.lst [.ref a, .ref b, .ref c, .ref d])) (.o (.lst [.ref a', .ref b', .ref c', .ref d'])) = match rsvC g (.o (.lst [.ref a, .ref b, .ref c, .ref d])), rsvC g (.o (.lst [.ref a', .ref b', .ref c', .ref d'])) with
    | some x, some y => if x.depth ≤ 60 ∧ y.depth ≤ 60 then some (decide (x = y)) else none
    | _, _ => none := rfl
  unfold oNe
  rw [z, e h1 h2 h3 h4, e k1 k2 k3 k4]
  have dd : (D.rol [.rol (T w1), .rol (T w2), .rol (T w3), .rol (Ds w4)]).depth ≤ 60 := by
    show max (D.depths (T w1) + 1) (max (D.depths (T w2) + 1) (max (D.depths (T w3) + 1) (max (D.depths (Ds w4) + 1) 0))) + 1 ≤ 60
    have := depths_Ds w4
    rw [depths_T, depths_T, depths_T]; omega
  simp [dd]
structure Td2 where
  a : Nat × Nat × Nat × Nat
  asks : List (List Nat)
  says : List (List Nat)
  rooms : List (List Nat)
  doors : List Dr
def d_toldD : Sg Td2 := ⟨fun x ss g => ss = [.d (.ref x.a.1), .d (.ref x.a.2.1), .d (.ref x.a.2.2.1), .d (.ref x.a.2.2.2)] ∧ g x.a.1 = some (.lst (T x.asks)) ∧ g x.a.2.1 = some (.lst (T x.says)) ∧ g x.a.2.2.1 = some (.lst (T x.rooms)) ∧ g x.a.2.2.2 = some (.lst (Ds x.doors)) ∧
    (x.asks.length ≤ 4000 ∧ x.says.length ≤ 4000 ∧ x.rooms.length ≤ 4000 ∧ x.doors.length ≤ 4000) ∧ (∀ w ∈ x.asks, w.length ≤ most) ∧ (∀ w ∈ x.says, w.length ≤ most) ∧ (∀ w ∈ x.rooms, w.length ≤ most) ∧ ∀ d ∈ x.doors, Two d.s,
  fun x g r g' => (∀ a u, g a = some u → g' a = some u) ∧ match badM x.asks x.says x.rooms x.doors with
    | some (part, n) => r = .d (.tup [.str part, .int (n : Int)])
    | none => ∃ c1 c2 c3 c4, r = .own (.lst [.ref c1, .ref c2, .ref c3, .ref c4]) ∧ g' c1 = some (.lst (T x.asks)) ∧ g' c2 = some (.lst (T x.says)) ∧ g' c3 = some (.lst (T x.rooms)) ∧ g' c4 = some (.lst (Ds x.doors)), fun _ _ _ _ => False⟩
theorem k_toldD : Keeps d_toldD.wp (b__law_told_of d_init.wp d_asksD.wp d_saysD.wp d_roomsD.wp d_doorsD.wp) 8 := by
  rintro ss g E Q ⟨⟨⟨a1, a2, a3, a4⟩, asks, says, rooms, doors⟩, ⟨rfl, h1, h2, h3, h4, hl, w1, w2, w3, w4⟩, hq, _⟩
  simp only at h1 h2 h3 h4 hl w1 w2 w3 w4
  have st : ∀ {g : G} {q a : Nat} {o u : O}, g a = some u → g q = none → g.upd q o a = some u := fun {g q a o u} e hq => by
    rw [G.upd_ne fun z => by rw [z, hq] at e; cases e]; exact e
  simp [b__law_told_of, begin_]
  rw [s_sSeq]; simp [h1]
  intro b1 f1
  have h2' := st (o := .lst (T asks)) h2 f1
  simp [h2']
  intro b2 f2
  have h3' := st (o := .lst (T says)) (st (o := .lst (T asks)) h3 f1) f2
  simp [h3']
  intro b3 f3
  have h4' := st (o := .lst (T rooms)) (st (o := .lst (T says)) (st (o := .lst (T asks)) h4 f1) f2) f3
  simp [h4']
  intro b4 f4
  generalize hg4 : ((((g.upd b1 (O.lst (List.map D.str asks))).upd b2 (O.lst (List.map D.str says))).upd b3 (O.lst (List.map D.str rooms))).upd b4 (O.lst (List.map dr doors))) = g4
  have k4 : ∀ a u, g a = some u → g4 a = some u := hg4 ▸ up_new (up_new (up_new (up_new (fun _ _ e => e) f1) f2) f3) f4
  have B1 : g4 b1 = some (.lst (T asks)) := hg4 ▸ st (st (st G.upd_same f2) f3) f4
  have B2 : g4 b2 = some (.lst (T says)) := hg4 ▸ st (st G.upd_same f3) f4
  have B3 : g4 b3 = some (.lst (T rooms)) := hg4 ▸ st G.upd_same f4
  have B4 : g4 b4 = some (.lst (Ds doors)) := hg4 ▸ G.upd_same
  rw [s_sSeq]; simp
  rw [s_sSeq]; simp
  refine seq_of (fun ψ g5 => (∀ a u, g4 a = some u → g5 a = some u) ∧ ∃ s5 s6, ψ = [some (.d (.ref a1)), some (.d (.ref a2)), some (.d (.ref a3)), some (.d (.ref a4)), some (.own (.lst [.ref b1, .ref b2, .ref b3, .ref b4])), some (.d s5), some (.d s6), none] ∧
    match badM asks says rooms doors with
    | some (part, n) => s5 = .non ∧ s6 = .tup [.str part, .int (n : Int)]
    | none => ∃ p, s5 = .ref p ∧ MachD g5 p ⟨asks, says, rooms, doors⟩) (fun nx hn => ?_) ?_
  · simp
    intro p hp
    refine call_of ⟨p, asks, says, rooms, doors⟩ ⟨⟨_, _, _, _, rfl, ?_, ?_, ?_, ?_⟩, G.upd_same, hl, w1, w2, w3, w4⟩ ?_ ?_
    · simp [st B1 hp]
    · simp [st B2 hp]
    · simp [st B3 hp]
    · simp [st B4 hp]
    · rintro r g5 ⟨rfl, hb, hm, hk⟩
      simp
      refine hn _ _ ⟨fun a u e => hk a u (st e hp) (fun z => by rw [z, hp] at e; cases e), _, _, rfl, ?_⟩
      rw [hb]
      exact ⟨p, rfl, hm⟩
    · rintro z g5 ⟨hk, part, n, hb, rfl⟩
      simp [noMach, lu_part, lu_num]
      refine hn _ _ ⟨fun a u e => hk a u (st e hp) (fun z => by rw [z, hp] at e; cases e), _, _, rfl, ?_⟩
      rw [hb]
      exact ⟨rfl, rfl⟩
  · rintro ψ g5 ⟨k5, s5, s6, rfl, hb⟩
    have A : ∀ a u, g a = some u → g5 a = some u := fun a u e => k5 a u (k4 a u e)
    have ne4 := ne_fourD (k5 _ _ B1) (k5 _ _ B2) (k5 _ _ B3) (k5 _ _ B4) (A _ _ h1) (A _ _ h2) (A _ _ h3) (A _ _ h4)
    rw [s_sSeq]; simp [ne4]
    rw [s_sSeq]
    have he : ∀ r g', d_toldD.post ⟨(a1, a2, a3, a4), asks, says, rooms, doors⟩ g r g' → Q r g' := hq
    cases hbp : badM asks says rooms doors with
    | some pn =>
      obtain ⟨part, n⟩ := pn
      rw [hbp] at hb
      obtain ⟨rfl, rfl⟩ := hb
      simp
      refine ret_now (hq _ _ ⟨A, ?_⟩)
      show match badM asks says rooms doors with | some (part, n) => _ | none => _
      rw [hbp]
    | none =>
      rw [hbp] at hb
      obtain ⟨p, rfl, hm⟩ := hb
      simp [hm.ins (f := "asks") rfl]
      refine call_of ⟨p, ⟨asks, says, rooms, doors⟩⟩ ⟨rfl, hm⟩ ?_
      rintro r g6 ⟨rfl, rfl⟩
      simp
      intro c1 n1
      have hm1 := hm.new (o := .lst (T asks)) n1
      simp [hm1.ins (f := "says") rfl]
      refine call_of ⟨p, ⟨asks, says, rooms, doors⟩⟩ ⟨rfl, hm1⟩ ?_
      rintro r g7 ⟨rfl, rfl⟩
      simp
      intro c2 n2
      have hm2 := hm1.new (o := .lst (T says)) n2
      simp [hm2.ins (f := "rooms") rfl]
      refine call_of ⟨p, ⟨asks, says, rooms, doors⟩⟩ ⟨rfl, hm2⟩ ?_
      rintro r g8 ⟨rfl, rfl⟩
      simp
      intro c3 n3
      have hm3 := hm2.new (o := .lst (T rooms)) n3
      simp [hm3.ins (f := "doors") rfl]
      refine call_of ⟨p, ⟨asks, says, rooms, doors⟩⟩ ⟨rfl, hm3⟩ ?_
      rintro r g9 ⟨rfl, rfl⟩
      simp
      intro c4 n4
      refine ret_now (hq _ _ ⟨up_new (up_new (up_new (up_new A n1) n2) n3) n4, ?_⟩)
      show match badM asks says rooms doors with | some (part, n) => _ | none => _
      rw [hbp]
      exact ⟨c1, c2, c3, c4, rfl, st (st (st G.upd_same n2) n3) n4, st (st G.upd_same n3) n4, st G.upd_same n4, G.upd_same⟩
end Pd
set_option Elab.async false
set_option linter.all false
namespace Pd
/-- _law_anew(pen) -/
def b__law_anew : WS :=
  (sSeq (sSetIx putIx (eVar 0) (eC (.int 2)) (eC (.int 0))) (sRet (eVar 0)))
/-- _law_still_on(doors, rooms) -/
def b__law_still_on : WS :=
  (sSeq (sSet 2 (eUn oList (eVar 1))) (sSeq (sSet 3 (eC (.int 0))) (sSeq (sWhile (tV (eBin oLt (eVar 3) (eUn oLen (eVar 2)))) (sSeq (sFor (iIt (eVar 0)) (gTup [(gName 4), (gName 5), (gName 6)]) (sIf (tAnd (tV (eBin oEq (eVar 4) (eBin oIx (eVar 2) (eVar 3)))) (tAnd (tV (eBin oEq (eVar 5) (eTup (dCons (eC (.str [115, 116, 105, 108, 108])) dNil)))) (tV (eBin oNin (eVar 6) (eVar 2))))) (sE (eMut mAppend (eVar 2) (dCons (eVar 6) dNil))) sNx)) (sSet 3 (eBin oAdd (eVar 3) (eC (.int 1)))))) (sRet (eVar 2)))))
/-- _law_put(doors, door) -/
def b__law_put : WS :=
  (sIf (tV (eBin oNin (eVar 1) (eVar 0))) (sE (eMut mAppend (eVar 0) (dCons (eVar 1) dNil))) sNx)
/-- _law_draw_doors(pen, asks, says, rooms, full) -/
def b__law_draw_doors (φ__law_take φ__law_put : SpD) : WS :=
  (sSeq (sSet 5 (eLst dNil)) (sSeq (sSet 6 (eCall φ__law_take [true, false] (aCons (eVar 0) (aCons (eC (.int 2)) aNil)))) (sSeq (sFor (iEnum (eVar 3)) (gTup [(gName 7), (gName 8)]) (sSeq (sFor (iRange (eBin oIx (eLst (dCons (eC (.int 0)) (dCons (eC (.int 1)) (dCons (eC (.int 1)) (dCons (eC (.int 2)) dNil))))) (eCall φ__law_take [true, false] (aCons (eVar 0) (aCons (eC (.int 4)) aNil))))) (gName 9) (sSeq (sSet 10 (eTup (dCons (eC (.str [115, 97, 121])) (dCons (eBin oIx (eVar 2) (eCall φ__law_take [true, false] (aCons (eVar 0) (aCons (eUn oLen (eVar 2)) aNil)))) dNil)))) (sE (eCall φ__law_put [true, true] (aCons (eVar 5) (aCons (eTup (dCons (eVar 8) (dCons (eVar 10) (dCons (eBin oIx (eVar 3) (eCall φ__law_take [true, false] (aCons (eVar 0) (aCons (eUn oLen (eVar 3)) aNil)))) dNil)))) aNil)))))) (sSeq (sFor (iIt (eVar 1)) (gName 11) (sFor (iRange (eBin oIx (eLst (dCons (eVar 4) (dCons (eC (.int 1)) (dCons (eC (.int 1)) (dCons (eC (.int 2)) dNil))))) (eCall φ__law_take [true, false] (aCons (eVar 0) (aCons (eC (.int 4)) aNil))))) (gName 9) (sE (eCall φ__law_put [true, true] (aCons (eVar 5) (aCons (eTup (dCons (eVar 8) (dCons (eTup (dCons (eC (.str [97, 115, 107])) (dCons (eVar 11) dNil))) (dCons (eBin oIx (eVar 3) (eCall φ__law_take [true, false] (aCons (eVar 0) (aCons (eUn oLen (eVar 3)) aNil)))) dNil)))) aNil)))))) (sSeq (sSet 12 (eBin oIx (eLst (dCons (eCut (eVar 3) (some (eBin oAdd (eVar 7) (eC (.int 1)))) none) (dCons (eCut (eVar 3) none (some (eVar 7))) dNil))) (eVar 6))) (sIf (tAnd (tV (eBin oNe (eVar 12) (eLst dNil))) (tV (eBin oEq (eCall φ__law_take [true, false] (aCons (eVar 0) (aCons (eC (.int 3)) aNil))) (eC (.int 0))))) (sE (eCall φ__law_put [true, true] (aCons (eVar 5) (aCons (eTup (dCons (eVar 8) (dCons (eTup (dCons (eC (.str [115, 116, 105, 108, 108])) dNil)) (dCons (eBin oIx (eVar 12) (eCall φ__law_take [true, false] (aCons (eVar 0) (aCons (eUn oLen (eVar 12)) aNil)))) dNil)))) aNil)))) sNx))))) (sRet (eVar 5)))))
/-- _law_model(pen, most, full) -/
def b__law_model (φ__law_anew φ__law_names φ__law_take φ__law_draw_doors : SpD) : WS :=
  (sSeq (sE (eCall φ__law_anew [true] (aCons (eVar 0) aNil))) (sSeq (sSet 3 (eCall φ__law_names [true, false] (aCons (eVar 0) (aCons (eC (.int 8)) aNil)))) (sSeq (sSet 4 (eCut (eVar 3) none (some (eBin oAdd (eC (.int 1)) (eBin oIx (eLst (dCons (eC (.int 0)) (dCons (eC (.int 1)) (dCons (eC (.int 1)) (dCons (eC (.int 2)) (dCons (eC (.int 2)) (dCons (eC (.int 3)) dNil))))))) (eCall φ__law_take [true, false] (aCons (eVar 0) (aCons (eC (.int 6)) aNil)))))))) (sSeq (sSet 5 (eCut (eVar 3) (some (eC (.int 4))) (some (eBin oAdd (eC (.int 5)) (eBin oIx (eLst (dCons (eC (.int 0)) (dCons (eC (.int 1)) (dCons (eC (.int 1)) (dCons (eC (.int 2)) (dCons (eC (.int 2)) (dCons (eC (.int 3)) dNil))))))) (eCall φ__law_take [true, false] (aCons (eVar 0) (aCons (eC (.int 6)) aNil)))))))) (sSeq (sSet 6 (eCall φ__law_names [true, false] (aCons (eVar 0) (aCons (eBin oAdd (eC (.int 1)) (eCall φ__law_take [true, false] (aCons (eVar 0) (aCons (eVar 1) aNil)))) aNil)))) (sSeq (sSet 7 (eCall φ__law_draw_doors [true, false, false, false, true] (aCons (eVar 0) (aCons (eVar 4) (aCons (eVar 5) (aCons (eVar 6) (aCons (eVar 2) aNil))))))) (sRet (eTup (dCons (eVar 4) (dCons (eVar 5) (dCons (eVar 6) (dCons (eVar 7) dNil))))))))))))
/-- _law_round(rooms, doors) -/
def b__law_round (φ__law_still_on : SpD) : WS :=
  (sSeq (sSet 2 (eComp [6] (iIt (eVar 1)) (gName 6) (tV (eBin oEq (eBin oIx (eVar 6) (eC (.int 1))) (eTup (dCons (eC (.str [115, 116, 105, 108, 108])) dNil)))) (eVar 6))) (sSeq (sFor (iEnum (eVar 0)) (gTup [(gName 3), (gName 4)]) (sSeq (sSet 5 (eComp [6] (iIt (eVar 2)) (gName 6) (tV (eBin oEq (eBin oIx (eVar 6) (eC (.int 0))) (eVar 4))) (eBin oIx (eVar 6) (eC (.int 2))))) (sIf (tV (eBin oIn (eVar 4) (eCall φ__law_still_on [false, false] (aCons (eVar 2) (aCons (eVar 5) aNil))))) (sRet (eVar 3)) sNx))) (sRet (eC .non))))
end Pd
set_option linter.all false
set_option maxRecDepth 10000
namespace Pd
/-! what is drawn from the pen: all else that stood stays -/
structure Fr (g0 g : G) (a : Nat) : Prop where
  pen : Pen g a
  fr : ∀ b u, g0 b = some u → b ≠ a → g b = some u
theorem Pen.ne_T {g : G} {a : Nat} (h : Pen g a) {xs : List (List Nat)} : g a ≠ some (.lst (T xs)) := fun z => by
  obtain ⟨c, at_, v, cs, _, e, _⟩ := h
  rw [e] at z
  cases xs with
  | nil => cases z
  | cons => cases z
theorem Pen.ne_D {g : G} {a : Nat} (h : Pen g a) {xs : List Dr} : g a ≠ some (.lst (Ds xs)) := fun z => by
  obtain ⟨c, at_, v, cs, _, e, _⟩ := h
  rw [e] at z
  cases xs with
  | nil => cases z
  | cons => cases z
theorem Fr.refl {g : G} {a : Nat} (h : Pen g a) : Fr g g a := ⟨h, fun _ _ e _ => e⟩
theorem Fr.take {g0 g g' : G} {a : Nat} (h : Fr g0 g a) (p : Pen g' a) (k : ∀ b, b ≠ a → g' b = g b) : Fr g0 g' a := ⟨p, fun b u e n => by rw [k b n]; exact h.fr b u e n⟩
theorem Fr.trans {g0 g g' : G} {a : Nat} (h : Fr g0 g a) (h' : Fr g g' a) : Fr g0 g' a := ⟨h'.pen, fun b u e n => h'.fr b u (h.fr b u e n) n⟩
theorem Fr.free {g0 g : G} {a p : Nat} (h : Fr g0 g a) (e : g p = none) : g0 p = none := by
  cases z : g0 p with
  | none => rfl
  | some u =>
    by_cases n : p = a
    · obtain ⟨c, at_, v, cs, _, e1, _⟩ := h.pen
      rw [n, e1] at e; cases e
    · have := h.fr p u z n
      rw [e] at this; cases this
theorem Pen.keep {g g' : G} {a : Nat} (h : Pen g a) (k : ∀ b u, g b = some u → g' b = some u) : Pen g' a := by
  obtain ⟨c, at_, v, cs, n, e, h0, e2⟩ := h
  exact ⟨c, at_, v, cs, n, k _ _ e, h0, k _ _ e2⟩
theorem Fr.grow {g0 g g' : G} {a : Nat} (h : Fr g0 g a) (k : ∀ b u, g b = some u → g' b = some u) : Fr g0 g' a := ⟨h.pen.keep k, fun b u e n => k _ _ (h.fr b u e n)⟩
theorem Fr.lookT {g0 g : G} {a : Nat} {s : Sl} {xs : List (List Nat)} (h : Fr g0 g a) (p0 : Pen g0 a) (e : lookS g0 s = some (.o (.lst (T xs)))) : lookS g s = some (.o (.lst (T xs))) :=
  look_kept e fun b e => h.fr b _ e fun z => p0.ne_T (z ▸ e)
theorem Fr.lookD {g0 g : G} {a : Nat} {s : Sl} {xs : List Dr} (h : Fr g0 g a) (p0 : Pen g0 a) (e : lookS g0 s = some (.o (.lst (Ds xs)))) : lookS g s = some (.o (.lst (Ds xs))) :=
  look_kept e fun b e => h.fr b _ e fun z => p0.ne_D (z ▸ e)
theorem Fr.T {g0 g : G} {a b : Nat} {xs : List (List Nat)} (h : Fr g0 g a) (p0 : Pen g0 a) (e : g0 b = some (.lst (T xs))) : g b = some (.lst (Pd.T xs)) := h.fr b _ e fun z => p0.ne_T (z ▸ e)
theorem Fr.D {g0 g : G} {a b : Nat} {xs : List Dr} (h : Fr g0 g a) (p0 : Pen g0 a) (e : g0 b = some (.lst (Ds xs))) : g b = some (.lst (Ds xs)) := h.fr b _ e fun z => p0.ne_D (z ▸ e)
def d_anew : Sg Nat := ⟨fun a ss g => ss = [.d (.ref a)] ∧ Pen g a, fun a g r g' => r = .d (.ref a) ∧ Pen g' a ∧ ∀ b, b ≠ a → g' b = g b, fun _ _ _ _ => False⟩
theorem k_anew : Keeps d_anew.wp b__law_anew 1 := by
  rintro ss g E Q ⟨a, ⟨rfl, c, at_, v, cs, n, e1, h0, e2⟩, hq, _⟩
  simp [b__law_anew, begin_]
  rw [s_sSeq]; simp [e1]
  refine ret_now (hq _ _ ⟨rfl, ⟨c, at_, 0, cs, n, G.upd_same, h0, by rw [G.upd_ne (Ne.symm n), e2]⟩, fun b hb => G.upd_ne hb⟩)
/-- take, with what stays -/
theorem takeF {g0 g : G} {a : Nat} {n : Int} {E : X → G → Prop} {Q : R → G → Prop} (hf : Fr g0 g a) (h0 : 0 < n) (h1 : n < 1073741824) (k : ∀ (x : Int) (g' : G), 0 ≤ x → x < n → Fr g0 g' a → (∀ b, b ≠ a → g' b = g b) → Q (.d (.int x)) g') : d_take.wp [.d (.ref a), .d (.int n)] g E Q :=
  take7 hf.pen h0 h1 fun x g' b0 b1 hp hb => k x g' b0 b1 (hf.take hp hb) hb
def put (ds : List Dr) (d : Dr) : List Dr := if d ∈ ds then ds else ds ++ [d]
structure Pt where
  p : Nat
  ds : List Dr
  d : Dr
def d_put : Sg Pt := ⟨fun x ss g => ss = [.d (.ref x.p), .d (dr x.d)] ∧ g x.p = some (.lst (Ds x.ds)) ∧ x.ds.length ≤ 4000, fun x g r g' => r = .d .non ∧ g' x.p = some (.lst (Ds (put x.ds x.d))) ∧ ∀ b, b ≠ x.p → g' b = g b, fun _ _ _ _ => False⟩
theorem k_put : Keeps d_put.wp b__law_put 2 := by
  rintro ss g E Q ⟨⟨p, ds, d⟩, ⟨rfl, e1, hl⟩, hq, _⟩
  simp only at e1 hl
  have h8 := most_is
  have hl' : ds.length < most := by omega
  simp [b__law_put, begin_, e1]
  by_cases c : d ∈ ds
  · simp [c]
    exact ret_now (hq _ _ ⟨rfl, by simp [put, c, e1], fun _ _ => rfl⟩)
  · simp [c, e1, hl']
    refine ret_now (hq _ _ ⟨rfl, by rw [G.upd_same]; simp [put, c, Ds], fun b hb => G.upd_ne hb⟩)
/-! doors that are drawn -/
/-- a list of doors in a slot: its own, or one with doors in it that g0 did not hold -/
def LS (g0 g : G) (s : Sl) (ds : List Dr) : Prop := s = .own (.lst (Ds ds)) ∨ ∃ p, s = .d (.ref p) ∧ g p = some (.lst (Ds ds)) ∧ g0 p = none ∧ ds ≠ []
theorem LS.look {g0 g : G} {s : Sl} {ds : List Dr} (h : LS g0 g s ds) : lookS g s = some (.o (.lst (Ds ds))) := by
  rcases h with rfl | ⟨p, rfl, e, _⟩
  · rfl
  · simp [e]
theorem LS.take {g0 g g' : G} {s : Sl} {ds : List Dr} {a : Nat} (h : LS g0 g s ds) (hp : Pen g a) (k : ∀ b, b ≠ a → g' b = g b) : LS g0 g' s ds := by
  rcases h with rfl | ⟨p, rfl, e, n⟩
  · exact .inl rfl
  · exact .inr ⟨p, rfl, by rw [k p fun z => hp.ne_D (z ▸ e)]; exact e, n⟩
theorem LS.grow {g0 g g' : G} {s : Sl} {ds : List Dr} (h : LS g0 g s ds) (k : ∀ b u, g b = some u → g' b = some u) : LS g0 g' s ds := by
  rcases h with rfl | ⟨p, rfl, e, n⟩
  · exact .inl rfl
  · exact .inr ⟨p, rfl, k _ _ e, n⟩
theorem Pen.off {g g' : G} {a p : Nat} (h : Pen g a) (h1 : a ≠ p) (h2 : ∀ cs : List Int, g p ≠ some (.lst (cs.map D.int))) (k : ∀ b, b ≠ p → g' b = g b) : Pen g' a := by
  obtain ⟨c, at_, v, cs, n, e, h0, e2⟩ := h
  have hc : c ≠ p := fun z => h2 cs (z ▸ e2)
  exact ⟨c, at_, v, cs, n, by rw [k a h1]; exact e, h0, by rw [k c hc]; exact e2⟩
theorem Ds_ne_ints {ds : List Dr} (h : ds ≠ []) (cs : List Int) : (Ds ds) ≠ cs.map D.int := fun z => by
  cases ds with
  | nil => exact h rfl
  | cons d ds =>
    cases cs with
    | nil => cases z
    | cons c cs => cases z
theorem Fr.off {g0 g g' : G} {a p : Nat} (h : Fr g0 g a) (n : g0 p = none) (h2 : ∀ cs : List Int, g p ≠ some (.lst (cs.map D.int))) (h1 : a ≠ p) (k : ∀ b, b ≠ p → g' b = g b) : Fr g0 g' a :=
  ⟨h.pen.off h1 h2 k, fun b u e nb => by rw [k b fun z => by rw [z, n] at e; cases e]; exact h.fr b u e nb⟩
theorem Fr.offN {g0 g g' : G} {a p : Nat} {o : O} (h : Fr g0 g a) (n : g p = none) (k : ∀ b, b ≠ p → g' b = (g.upd p o) b) : Fr g0 g' a := by
  have k2 : ∀ b, b ≠ p → g' b = g b := fun b hb => by rw [k b hb, G.upd_ne hb]
  refine h.off (h.free n) (fun cs z => by rw [n] at z; cases z) (fun z => ?_) k2
  obtain ⟨c, at_, v, cs, _, e, _⟩ := h.pen
  rw [z, n] at e; cases e
theorem toDS_LS {g0 g : G} {s : Sl} {ds : List Dr} {a i : Nat} {ψ : Psi} {k : D → Psi → G → Prop} (h : LS g0 g s ds) (hf : Fr g0 g a) (hi : ψ[i]? = some (some s))
    (hk : ∀ p g', g0 p = none → g' p = some (.lst (Ds ds)) → (∀ b u, g b = some u → g' b = some u) → (∀ g2, (∀ b, b ≠ p → g2 b = g' b) → Fr g0 g2 a) → k (.ref p) (ψ.set i (some (.d (.ref p)))) g') : toDS (some (some s)) i ψ g k := by
  rcases h with rfl | ⟨p, rfl, e, n, ne⟩
  · simp
    intro p hp
    exact hk p _ (hf.free hp) G.upd_same (up_new (fun _ _ e => e) hp) fun g2 h2 => hf.offN hp h2
  · simp
    have e2 : ψ.set i (some (.d (.ref p))) = ψ := by
      refine List.ext_getElem? fun j => ?_
      rw [List.getElem?_set]
      split
      · rename_i z; subst z
        split
        · exact hi.symm
        · rename_i hl; rw [List.getElem?_eq_none (Nat.le_of_not_lt hl)] at hi; cases hi
      · rfl
    have := hk p g n e (fun _ _ e => e) fun g2 h2 => hf.off n (fun cs z => by rw [e] at z; exact Ds_ne_ints ne cs (O.lst.inj (Option.some.inj z))) (fun z => hf.pen.ne_D (z ▸ e)) h2
    rw [e2] at this; exact this
theorem put_ne (ds : List Dr) (d : Dr) : put ds d ≠ [] := by
  unfold put
  split
  · rename_i h; exact fun z => by rw [z] at h; cases h
  · simp
/-- room by place -/
def At (rooms : List (List Nat)) (i : Nat) (r : List Nat) : Prop := rooms[i]? = some r
structure Dz (asks says rooms : List (List Nat)) (down : Bool) (ds : List Dr) : Prop where
  nd : ds.Nodup
  ok : ∀ d ∈ ds, okDoor asks says rooms d = true
  two : ∀ d ∈ ds, Two d.s
  st : ∀ d ∈ ds, d.s = [wStill] → ∃ i j, At rooms i d.r ∧ At rooms j d.o ∧ if down = true then j < i else i < j
theorem Dz.put {asks says rooms : List (List Nat)} {down : Bool} {ds : List Dr} (h : Dz asks says rooms down ds) {d : Dr} (h1 : okDoor asks says rooms d = true) (h2 : Two d.s) (h3 : d.s = [wStill] → ∃ i j, At rooms i d.r ∧ At rooms j d.o ∧ if down = true then j < i else i < j) : Dz asks says rooms down (put ds d) := by
  unfold Pd.put
  split
  · exact h
  · rename_i hn
    refine ⟨List.nodup_append.mpr ⟨h.nd, by simp, fun a ha b hb => by simp at hb; rw [hb]; exact fun z => hn (z ▸ ha)⟩, fun x hx => ?_, fun x hx => ?_, fun x hx => ?_⟩
    · rcases List.mem_append.mp hx with z | z
      · exact h.ok x z
      · rw [List.mem_singleton.mp z]; exact h1
    · rcases List.mem_append.mp hx with z | z
      · exact h.two x z
      · rw [List.mem_singleton.mp z]; exact h2
    · rcases List.mem_append.mp hx with z | z
      · exact h.st x z
      · rw [List.mem_singleton.mp z]; exact h3
theorem put_len (ds : List Dr) (d : Dr) : (put ds d).length ≤ ds.length + 1 := by
  unfold put
  split
  · omega
  · simp
end Pd
set_option linter.all false
set_option maxRecDepth 10000
namespace Pd
structure Dw where
  a : Nat
  asks : List (List Nat)
  says : List (List Nat)
  rooms : List (List Nat)
  full : Int
def rOf : Sl → R
  | .own o => .own o
  | .d y => .d y
  | .bor o => .own o
def d_draw : Sg Dw := ⟨fun x ss g => (∃ s1 s2 s3, ss = [.d (.ref x.a), s1, s2, s3, .d (.int x.full)] ∧ lookS g s1 = some (.o (.lst (T x.asks))) ∧ lookS g s2 = some (.o (.lst (T x.says))) ∧ lookS g s3 = some (.o (.lst (T x.rooms)))) ∧ Pen g x.a ∧ 0 ≤ x.full ∧ x.full ≤ 2 ∧ x.says ≠ [] ∧
    x.asks.length ≤ 4 ∧ x.says.length ≤ 4 ∧ x.rooms.length ≤ 30,
  fun x g r g' => Fr g g' x.a ∧ ∃ down ds s, r = rOf s ∧ LS g g' s ds ∧ Dz x.asks x.says x.rooms down ds ∧ ds.length ≤ 12 * x.rooms.length, fun _ _ _ _ => False⟩
theorem at_mem {xs : List (List Nat)} {i : Nat} {w : List Nat} (h : At xs i w) : w ∈ xs := List.mem_of_getElem? h
theorem mem_at {xs : List (List Nat)} {w : List Nat} (h : w ∈ xs) : ∃ i, At xs i w := List.mem_iff_getElem?.mp h
theorem k_draw : Keeps d_draw.wp (b__law_draw_doors d_take.wp d_put.wp) 13 := by
  rintro ss g0 E Q ⟨⟨a, asks, says, rooms, full⟩, ⟨⟨s1, s2, s3, rfl, h1, h2, h3⟩, p0, f0, f1, hsy, la, ls, lr⟩, hq, _⟩
  have h8 := most_is
  simp only at h1 h2 h3 p0 f0 f1 hsy la ls lr
  have hsp := List.length_pos_iff.mpr hsy
  simp [b__law_draw_doors, begin_]
  rw [s_sSeq]; simp
  rw [s_sSeq]; simp
  refine takeF (Fr.refl p0) (by omega) (by omega) fun dn g1 d0 d1 F1 _ => ?_
  obtain ⟨down, hdown⟩ : ∃ down : Bool, dn = if down = true then 1 else 0 := by
    have : dn = 0 ∨ dn = 1 := by omega
    rcases this with h | h
    · exact ⟨false, by simp [h]⟩
    · exact ⟨true, by simp [h]⟩
  simp
  -- one door more
  have putS : ∀ {g : G} {sd : Sl} {ds : List Dr} {ψ : Psi} {r o : List Nat} {s : List (List Nat)} {K : R → Psi → G → Prop} {E : X → Psi → G → Prop}, Fr g0 g a → LS g0 g sd ds → ds.length ≤ 1000 → ψ[5]? = some (some sd) →
      (∀ sd' g', Fr g0 g' a → LS g0 g' sd' (put ds ⟨r, s, o⟩) → K (.d .non) (ψ.set 5 (some sd')) g') →
      toDS (some (some sd)) 5 ψ g fun x ψ g => giveAll [true] [.d (.tup [.str r, .tup (s.map D.str), .str o])] ψ g fun rs ψ g => optQ (lendRs ψ (.d x :: rs)) fun ss => callQ d_put.wp ss g (fun x g' => E x ψ g') fun r g' => K r ψ g' := by
    intro g sd ds ψ r o s K E hF hL hl hi k
    refine toDS_LS hL hF hi fun p g' n e kp off => ?_
    simp
    refine call_of ⟨p, ds, ⟨r, s, o⟩⟩ ⟨rfl, e, by simp; omega⟩ ?_
    rintro z g2 ⟨rfl, e2, hb⟩
    exact k _ _ (off g2 hb) (.inr ⟨p, rfl, e2, n, put_ne _ _⟩)
  have tab : ∀ (f x : Int), 0 ≤ f → f ≤ 2 → 0 ≤ x → x < 4 → ∃ v : Int, atI [D.int f, D.int 1, D.int 1, D.int 2] x = some (.int v) ∧ 0 ≤ v ∧ v ≤ 2 := fun f x a1 a2 b1 b2 => by
    have : x = 0 ∨ x = 1 ∨ x = 2 ∨ x = 3 := by omega
    rcases this with rfl | rfl | rfl | rfl
    · exact ⟨f, by simp, a1, a2⟩
    · exact ⟨1, by simp, by omega, by omega⟩
    · exact ⟨1, by simp, by omega, by omega⟩
    · exact ⟨2, by simp, by omega, by omega⟩
  refine seq_of (fun ψ g => Fr g0 g a ∧ ∃ (sd : Sl) (ds : List Dr) (t7 t8 t9 t10 t11 t12 : Option Sl), LS g0 g sd ds ∧ Dz asks says rooms down ds ∧ ds.length ≤ 12 * rooms.length ∧
    ψ = [some (.d (.ref a)), some s1, some s2, some s3, some (.d (.int full)), some sd, some (.d (.int dn)), t7, t8, t9, t10, t11, t12]) (fun nx hn => ?_) ?_
  · simp [F1.lookT p0 h3]
    refine for_ind (fun rest ψ g => Fr g0 g a ∧ ∃ (done rs : List (List Nat)) (sd : Sl) (ds : List Dr) (t7 t8 t9 t10 t11 t12 : Option Sl), rooms = done ++ rs ∧ rest = numbered done.length (T rs) ∧ LS g0 g sd ds ∧ Dz asks says rooms down ds ∧ ds.length ≤ 12 * done.length ∧
      ψ = [some (.d (.ref a)), some s1, some s2, some s3, some (.d (.int full)), some sd, some (.d (.int dn)), t7, t8, t9, t10, t11, t12]) ?_ ?_ _ _ _ ⟨F1, [], rooms, _, [], _, _, _, _, _, _, rfl, rfl, .inl rfl, ⟨List.nodup_nil, by simp, by simp, by simp⟩, by simp, rfl⟩
    · rintro x xs ψ g2 K ⟨F2, done, rs, sd, ds, t7, t8, t9, t10, t11, t12, er, e5, hL, hD, hl, rfl⟩ hK
      cases rs with
      | nil => cases e5
      | cons room rs =>
        obtain ⟨rfl, rfl⟩ := List.cons.inj e5
        have hroom : room ∈ rooms := er ▸ List.mem_append_right _ (by simp)
        have hrl : done.length < rooms.length := by rw [er]; simp
        have hra : At rooms done.length room := by rw [er]; simp [At]
        have hrp : 0 < rooms.length := by omega
        simp
        -- say doors
        refine seq_of (fun ψ g => Fr g0 g a ∧ ∃ (sd : Sl) (ds : List Dr) (t9 t10 t11 t12 : Option Sl), LS g0 g sd ds ∧ Dz asks says rooms down ds ∧ ds.length ≤ 12 * done.length + 2 ∧
          ψ = [some (.d (.ref a)), some s1, some s2, some s3, some (.d (.int full)), some sd, some (.d (.int dn)), some (.d (.int done.length)), some (.d (.str room)), t9, t10, t11, t12]) (fun nx hn => ?_) ?_
        · simp
          refine takeF F2 (by omega) (by omega) fun x g3 x0 x1 F3 b3 => ?_
          obtain ⟨v, ev, v0, v1⟩ := tab 0 x (by omega) (by omega) x0 x1
          simp [ev]
          refine ⟨by omega, by omega, ?_⟩
          refine for_ind (fun rest ψ g => Fr g0 g a ∧ ∃ (sd : Sl) (ds : List Dr) (t9 t10 t11 t12 : Option Sl), LS g0 g sd ds ∧ Dz asks says rooms down ds ∧ ds.length + rest.length ≤ 12 * done.length + 2 ∧
            ψ = [some (.d (.ref a)), some s1, some s2, some s3, some (.d (.int full)), some sd, some (.d (.int dn)), some (.d (.int done.length)), some (.d (.str room)), t9, t10, t11, t12]) ?_ ?_ _ _ _ ⟨F3, sd, ds, _, _, _, _, hL.take F2.pen b3, hD, by simp; omega, rfl⟩
          · rintro y ys ψ g4 K2 ⟨F4, sd, ds, t9, t10, t11, t12, hL, hD, hl, rfl⟩ hK2
            simp at hl
            simp
            rw [s_sSeq]; simp [F4.lookT p0 h2]
            refine takeF F4 (by omega) (by omega) fun i g5 i0 i1 F5 b5 => ?_
            obtain ⟨hi, e1⟩ := atI_in (xs := says) i0 i1
            simp [F5.lookT p0 h2, e1, F5.lookT p0 h3]
            refine takeF F5 (by omega) (by omega) fun j g6 j0 j1 F6 b6 => ?_
            obtain ⟨hj, e2⟩ := atI_in (xs := rooms) j0 j1
            simp [F6.lookT p0 h3, e2]
            refine putS (s := [wSay, says[i.toNat]]) F6 ((hL.take F4.pen b5).take F5.pen b6) (by omega) rfl fun sd' g7 F7 hL7 => ?_
            simp
            refine now (hK2 _ _ ⟨F7, sd', _, _, _, _, _, hL7, hD.put ?_ (.inr rfl) (fun z => by simp at z), ?_, rfl⟩)
            · simp [okDoor, hroom, isSign]
            · have := put_len ds ⟨room, [wSay, says[i.toNat]], rooms[j.toNat]⟩; omega
          · rintro ψ g4 ⟨F4, sd, ds, t9, t10, t11, t12, hL, hD, hl, rfl⟩
            exact hn _ _ ⟨F4, sd, ds, _, _, _, _, hL, hD, by simpa using hl, rfl⟩
        rintro ψ g3 ⟨F3, sd, ds, t9, t10, t11, t12, hL, hD, hl, rfl⟩
        -- ask doors
        refine seq_of (fun ψ g => Fr g0 g a ∧ ∃ (sd : Sl) (ds : List Dr) (t9 t10 t11 t12 : Option Sl), LS g0 g sd ds ∧ Dz asks says rooms down ds ∧ ds.length ≤ 12 * done.length + 10 ∧
          ψ = [some (.d (.ref a)), some s1, some s2, some s3, some (.d (.int full)), some sd, some (.d (.int dn)), some (.d (.int done.length)), some (.d (.str room)), t9, t10, t11, t12]) (fun nx hn => ?_) ?_
        · simp [F3.lookT p0 h1]
          refine for_ind (fun rest ψ g => Fr g0 g a ∧ ∃ (as : List (List Nat)) (sd : Sl) (ds : List Dr) (t9 t10 t11 t12 : Option Sl), rest = T as ∧ (∀ w ∈ as, w ∈ asks) ∧ LS g0 g sd ds ∧ Dz asks says rooms down ds ∧ ds.length + 2 * rest.length ≤ 12 * done.length + 10 ∧
            ψ = [some (.d (.ref a)), some s1, some s2, some s3, some (.d (.int full)), some sd, some (.d (.int dn)), some (.d (.int done.length)), some (.d (.str room)), t9, t10, t11, t12]) ?_ ?_ _ _ _ ⟨F3, asks, sd, ds, _, _, _, _, rfl, fun _ h => h, hL, hD, by simp; omega, rfl⟩
          · rintro y ys ψ g4 K2 ⟨F4, as, sd, ds, t9, t10, t11, t12, ea, hm, hL, hD, hl, rfl⟩ hK2
            cases as with
            | nil => cases ea
            | cons ask as =>
              obtain ⟨rfl, rfl⟩ := List.cons.inj ea
              have hask := hm ask (by simp)
              simp at hl
              simp
              refine takeF F4 (by omega) (by omega) fun x g5 x0 x1 F5 b5 => ?_
              obtain ⟨v, ev, v0, v1⟩ := tab full x f0 f1 x0 x1
              simp [ev]
              refine ⟨by omega, by omega, ?_⟩
              refine for_ind (fun rest ψ g => Fr g0 g a ∧ ∃ (sd : Sl) (ds : List Dr) (t9 t10 t12 : Option Sl), LS g0 g sd ds ∧ Dz asks says rooms down ds ∧ ds.length + 2 * as.length + rest.length ≤ 12 * done.length + 10 ∧
                ψ = [some (.d (.ref a)), some s1, some s2, some s3, some (.d (.int full)), some sd, some (.d (.int dn)), some (.d (.int done.length)), some (.d (.str room)), t9, t10, some (.d (.str ask)), t12]) ?_ ?_ _ _ _ ⟨F5, sd, ds, _, _, _, hL.take F4.pen b5, hD, by simp; omega, rfl⟩
              · rintro y ys ψ g6 K3 ⟨F6, sd, ds, t9, t10, t12, hL, hD, hl, rfl⟩ hK3
                simp at hl
                simp [F6.lookT p0 h3]
                refine takeF F6 (by omega) (by omega) fun j g7 j0 j1 F7 b7 => ?_
                obtain ⟨hj, e2⟩ := atI_in (xs := rooms) j0 j1
                simp [F7.lookT p0 h3, e2]
                refine putS (s := [wAsk, ask]) F7 (hL.take F6.pen b7) (by omega) rfl fun sd' g8 F8 hL8 => ?_
                simp
                refine now (hK3 _ _ ⟨F8, sd', _, _, _, _, hL8, hD.put ?_ (.inr rfl) (fun z => by simp at z), ?_, rfl⟩)
                · simp [okDoor, hroom, isSign, hask]
                · have := put_len ds ⟨room, [wAsk, ask], rooms[j.toNat]⟩; omega
              · rintro ψ g6 ⟨F6, sd, ds, t9, t10, t12, hL, hD, hl, rfl⟩
                refine now ⟨F6.lookT p0 h1, hK2 _ _ ⟨F6, as, sd, ds, _, _, _, _, rfl, fun w h => hm w (by simp [h]), hL, hD, by simp at hl ⊢; omega, rfl⟩⟩
          · rintro ψ g4 ⟨F4, as, sd, ds, t9, t10, t11, t12, ea, hm, hL, hD, hl, rfl⟩
            exact hn _ _ ⟨F4, sd, ds, _, _, _, _, hL, hD, by simp at hl; omega, rfl⟩
        rintro ψ g4 ⟨F4, sd, ds, t9, t10, t11, t12, hL, hD, hl, rfl⟩
        -- a still door
        rw [s_sSeq]; simp [F4.lookT p0 h3]
        refine ⟨by omega, by omega, fun p hp => ⟨by omega, ?_⟩⟩
        have hc1 : cut (T rooms) (some ((done.length : Int) + 1)) none = T (rooms.drop (done.length + 1)) := by rw [cut_drop _ (by omega), ← List.map_drop]; rfl
        rw [hc1]
        have k5 : ∀ b u, g4 b = some u → (g4.upd p (O.lst (T (rooms.drop (done.length + 1))))) b = some u := up_new (fun _ _ e => e) hp
        have F5 := F4.grow k5
        have hp' : (g4.upd p (O.lst (T (rooms.drop (done.length + 1))))) p = some (.lst (T (rooms.drop (done.length + 1)))) := G.upd_same
        generalize g4.upd p (O.lst (T (rooms.drop (done.length + 1)))) = g5 at k5 F5 hp'
        simp [F5.lookT p0 h3, ← List.map_take]
        intro p2 hp2
        have k6 : ∀ b u, g5 b = some u → (g5.upd p2 (O.lst (T (rooms.take done.length)))) b = some u := up_new (fun _ _ e => e) hp2
        have F6 := F5.grow k6
        have hp2' : (g5.upd p2 (O.lst (T (rooms.take done.length)))) p2 = some (.lst (T (rooms.take done.length))) := G.upd_same
        have hp3 := k6 _ _ hp'
        generalize g5.upd p2 (O.lst (T (rooms.take done.length))) = g6 at k6 F6 hp2' hp3
        have hL6 := (hL.grow k5).grow k6
        obtain ⟨q, L, eq, hq6, hLn, hLL⟩ : ∃ (q : Nat) (L : List (List Nat)), atI [D.ref p, D.ref p2] dn = some (.ref q) ∧ g6 q = some (.lst (T L)) ∧ L.length ≤ 30 ∧ ∀ w ∈ L, ∃ j, At rooms j w ∧ if down = true then j < done.length else done.length < j := by
          cases down with
          | true =>
            simp at hdown
            refine ⟨p2, rooms.take done.length, by rw [hdown]; rfl, hp2', by rw [List.length_take]; omega, fun w hw => ?_⟩
            obtain ⟨j, hj⟩ := List.mem_iff_getElem?.mp hw
            rw [List.getElem?_take] at hj
            split at hj
            · rename_i hlt; exact ⟨j, hj, by simpa using hlt⟩
            · cases hj
          | false =>
            simp at hdown
            refine ⟨p, rooms.drop (done.length + 1), by rw [hdown]; rfl, hp3, by rw [List.length_drop]; omega, fun w hw => ?_⟩
            obtain ⟨j, hj⟩ := List.mem_iff_getElem?.mp hw
            rw [List.getElem?_drop] at hj
            exact ⟨_, hj, by simp; omega⟩
        simp [eq, hq6]
        have done1 : ∀ (sd' : Sl) (ds' : List Dr) (g7 : G) (t9 t10 t11 t12 : Option Sl), Fr g0 g7 a → LS g0 g7 sd' ds' → Dz asks says rooms down ds' → ds'.length ≤ 12 * (done.length + 1) → ∃ g2, G.le g2 g7 ∧ lookS g2 s3 = some (.o (.lst (T rooms))) ∧ K [some (.d (.ref a)), some s1, some s2, some s3, some (.d (.int full)), some sd', some (.d (.int dn)), some (.d (.int done.length)), some (.d (.str room)), t9, t10, t11, t12] g2 := fun sd' ds' g7 u9 u10 u11 u12 F7 hL7 hD7 hl7 =>
          now ⟨F7.lookT p0 h3, hK _ _ ⟨F7, done ++ [room], rs, sd', ds', _, _, _, _, _, _, by simp [er], by simp, hL7, hD7, by simpa using hl7, rfl⟩⟩
        by_cases hLe : L = []
        · simp [hLe]
          exact done1 _ _ _ _ _ _ _ F6 hL6 hD (by omega)
        · simp [hLe]
          have hLp := List.length_pos_iff.mpr hLe
          refine takeF F6 (by omega) (by omega) fun x g7 x0 x1 F7 b7 => ?_
          have nqa : ∀ {g : G}, Pen g a → g q = some (.lst (T L)) → q ≠ a := fun hpn e z => hpn.ne_T (z ▸ e)
          have hq7 : g7 q = some (.lst (T L)) := by rw [b7 q (nqa F6.pen hq6)]; exact hq6
          simp
          split
          · simp [hq7]
            refine takeF F7 (by omega) (by omega) fun y g8 y0 y1 F8 b8 => ?_
            have hq8 : g8 q = some (.lst (T L)) := by rw [b8 q (nqa F7.pen hq7)]; exact hq7
            obtain ⟨hj, e2⟩ := atI_in (xs := L) y0 y1
            simp [hq8, e2]
            have hL8 := (hL6.take F6.pen b7).take F7.pen b8
            refine putS (s := [wStill]) F8 hL8 (by omega) rfl fun sd' g9 F9 hL9 => ?_
            simp
            obtain ⟨j, hj1, hj2⟩ := hLL _ (List.getElem_mem hj)
            refine done1 _ _ _ _ _ _ _ F9 hL9 (hD.put ?_ (.inl rfl) fun _ => ⟨done.length, j, hra, hj1, hj2⟩) ?_
            · simp [okDoor, hroom, isSign, at_mem hj1]
            · have := put_len ds ⟨room, [wStill], L[y.toNat]⟩; omega
          · exact done1 _ _ _ _ _ _ _ F7 (hL6.take F6.pen b7) hD (by omega)
    · rintro ψ g2 ⟨F2, done, rs, sd, ds, t7, t8, t9, t10, t11, t12, er, e5, hL, hD, hl, rfl⟩
      have hcs : rs = [] := by cases rs with | nil => rfl | cons => cases e5
      subst hcs
      rw [List.append_nil] at er
      subst er
      exact hn _ _ ⟨F2, sd, ds, _, _, _, _, _, _, hL, hD, hl, rfl⟩
  · rintro ψ g2 ⟨F2, sd, ds, t7, t8, t9, t10, t11, t12, hL, hD, hl, rfl⟩
    simp
    have fin : ∀ r : R, r = rOf sd → ∃ g3, G.le g3 g2 ∧ Q r g3 := fun r e => ret_now (hq _ _ ⟨F2, down, ds, sd, e, hL, hD, hl⟩)
    rcases hL with rfl | ⟨p, rfl, _⟩
    · simp; exact fin _ rfl
    · simp; exact fin _ rfl
end Pd
set_option linter.all false
set_option maxRecDepth 10000
namespace Pd
/-! a drawn model -/
structure MdOk (m : Mch) (mo : Nat) (down : Bool) : Prop where
  a0 : m.asks ≠ []
  al : m.asks.length ≤ 4
  and : m.asks.Nodup
  av : ∀ w ∈ m.asks, isName w = true
  s0 : m.says ≠ []
  sl : m.says.length ≤ 4
  snd : m.says.Nodup
  sv : ∀ w ∈ m.says, isName w = true ∧ w ∉ m.asks
  r0 : m.rooms ≠ []
  rl : m.rooms.length ≤ mo
  rnd : m.rooms.Nodup
  rv : ∀ w ∈ m.rooms, isName w = true
  dz : Dz m.asks m.says m.rooms down m.doors
  dl : m.doors.length ≤ 12 * m.rooms.length
theorem at_inj {xs : List (List Nat)} (h : xs.Nodup) {i j : Nat} {w : List Nat} (a : At xs i w) (b : At xs j w) : i = j := by
  obtain ⟨h1, e1⟩ := List.getElem?_eq_some_iff.mp a
  obtain ⟨h2, e2⟩ := List.getElem?_eq_some_iff.mp b
  exact (List.getElem_inj h).mp (e1.trans e2.symm)
theorem Dz.reach {asks says rooms : List (List Nat)} {down : Bool} {ds : List Dr} (h : Dz asks says rooms down ds) (nd : rooms.Nodup) {x y : List Nat} (r : Reach ds x y) : ∃ i j, At rooms i x ∧ At rooms j y ∧ if down = true then j < i else i < j := by
  have one : ∀ {x y}, Still ds x y → ∃ i j, At rooms i x ∧ At rooms j y ∧ if down = true then j < i else i < j := fun {x y} ⟨d, hd, e1, e2, e3⟩ => by
    have := h.st d hd e2
    rw [e1, e3] at this; exact this
  induction r with
  | one s => exact one s
  | snoc _ s ih =>
    obtain ⟨i, j, a, b, c⟩ := ih
    obtain ⟨i', j', a', b', c'⟩ := one s
    have := at_inj nd b a'
    subst this
    refine ⟨i, j', a, b', ?_⟩
    split
    · rename_i hd; simp [hd] at c c'; omega
    · rename_i hd; simp [hd] at c c'; omega
theorem Dz.loose {asks says rooms : List (List Nat)} {down : Bool} {ds : List Dr} (h : Dz asks says rooms down ds) (nd : rooms.Nodup) (x : List Nat) : ¬ Reach ds x x := fun r => by
  obtain ⟨i, j, a, b, c⟩ := h.reach nd r
  have := at_inj nd a b
  subst this
  split at c <;> omega
theorem roundAt_none {ds : List Dr} (h : ∀ x, ¬ Reach ds x x) : ∀ (rs : List (List Nat)) (n : Nat), roundAt ds n rs = none
  | [], _ => rfl
  | r :: rs, n => by rw [(round_cons ds n r rs).2 (h r), roundAt_none h rs]
theorem MdOk.good {m : Mch} {mo : Nat} {down : Bool} (h : MdOk m mo down) (hm : mo ≤ 150) : badM m.asks m.says m.rooms m.doors = none := by
  have h1 : badPart m.asks m.says m.rooms = none := by
    have e1 := firstWrong_ok (m := 4) (others := []) h.a0 h.al h.and fun w hw => ⟨h.av w hw, by simp⟩
    have e2 := firstWrong_ok (m := 4) (others := m.asks) h.s0 h.sl h.snd h.sv
    have e3 := firstWrong_ok (m := 150) (others := []) h.r0 (Nat.le_trans h.rl hm) h.rnd fun w hw => ⟨h.rv w hw, by simp⟩
    simp [badPart, e1, e2, e3]
  have hrl := h.rl
  have h2 := wrongDoor_ok (ds := m.doors) (by have := h.dl; omega) h.dz.nd h.dz.ok
  have h3 := roundAt_none (h.dz.loose h.rnd) m.rooms 0
  unfold badM
  rw [h1, h2, h3]
structure Mdl where
  a : Nat
  mo : Nat
  full : Int
structure MdAt (g0 g : G) (r : D) (m : Mch) : Prop where
  ex : ∃ a1 a2 a3 a4, r = .tup [.ref a1, .ref a2, .ref a3, .ref a4] ∧ g a1 = some (.lst (T m.asks)) ∧ g a2 = some (.lst (T m.says)) ∧ g a3 = some (.lst (T m.rooms)) ∧ g a4 = some (.lst (Ds m.doors)) ∧ g0 a1 = none ∧ g0 a2 = none ∧ g0 a3 = none ∧ g0 a4 = none
def d_model : Sg Mdl := ⟨fun x ss g => ss = [.d (.ref x.a), .d (.int x.mo), .d (.int x.full)] ∧ Pen g x.a ∧ 1 ≤ x.mo ∧ x.mo ≤ 26 ∧ 0 ≤ x.full ∧ x.full ≤ 2,
  fun x g r g' => Fr g g' x.a ∧ ∃ y m down, r = .d y ∧ MdAt g g' y m ∧ MdOk m x.mo down, fun _ _ _ _ => False⟩
theorem k_model : Keeps d_model.wp (b__law_model d_anew.wp d_names.wp d_take.wp d_draw.wp) 8 := by
  rintro ss g0 E Q ⟨⟨a, mo, full⟩, ⟨rfl, p0, hmo, hmo2, f0, f1⟩, hq, _⟩
  have h8 := most_is
  simp only at p0 hmo hmo2 f0 f1
  simp [b__law_model, begin_]
  rw [s_sSeq]; simp
  refine call_of a ⟨rfl, p0⟩ ?_
  rintro r g1 ⟨rfl, hp1, hb1⟩
  have F1 := (Fr.refl p0).take hp1 hb1
  rw [s_sSeq]; simp
  refine call_of (a, 8) ⟨rfl, by omega, hp1⟩ ?_
  rintro r g2 ⟨⟨words, rfl, hwl, hwv, hwn⟩, hp2, hb2⟩
  have F2 := F1.take hp2 hb2
  simp
  have tab : ∀ x : Int, 0 ≤ x → x < 6 → ∃ v : Int, atI [D.int 0, D.int 1, D.int 1, D.int 2, D.int 2, D.int 3] x = some (.int v) ∧ 0 ≤ v ∧ v ≤ 3 := fun x b1 b2 => by
    have : x = 0 ∨ x = 1 ∨ x = 2 ∨ x = 3 ∨ x = 4 ∨ x = 5 := by omega
    rcases this with rfl | rfl | rfl | rfl | rfl | rfl
    · exact ⟨0, by simp, by omega, by omega⟩
    · exact ⟨1, by simp, by omega, by omega⟩
    · exact ⟨1, by simp, by omega, by omega⟩
    · exact ⟨2, by simp, by omega, by omega⟩
    · exact ⟨2, by simp, by omega, by omega⟩
    · exact ⟨3, by simp, by omega, by omega⟩
  rw [s_sSeq]; simp
  refine takeF F2 (by omega) (by omega) fun x g3 x0 x1 F3 b3 => ?_
  obtain ⟨v, ev, v0, v1⟩ := tab x x0 x1
  have c1 : -4611686018427387904 ≤ 1 + v ∧ 1 + v < 4611686018427387904 := by omega
  simp [ev, c1]
  rw [show cut (List.map D.str words) none (some (1 + v)) = T (words.take (1 + v).toNat) by rw [cut_take _ (by omega), ← List.map_take]]
  generalize hA : words.take (1 + v).toNat = asks
  rw [s_sSeq]; simp
  refine takeF F3 (by omega) (by omega) fun x' g4 x0' x1' F4 b4 => ?_
  obtain ⟨v', ev', v0', v1'⟩ := tab x' x0' x1'
  have c2 : -4611686018427387904 ≤ 5 + v' ∧ 5 + v' < 4611686018427387904 := by omega
  simp [ev', c2]
  rw [show cut (List.map D.str words) (some 4) (some (5 + v')) = T ((words.take (5 + v').toNat).drop 4) by rw [cut_two _ (by omega) (by omega), ← List.map_take, ← List.map_drop]; rfl]
  generalize hS : (words.take (5 + v').toNat).drop 4 = says
  have A1 : asks.length = (1 + v).toNat := by rw [← hA, List.length_take]; omega
  have A2 : asks.Nodup := hA ▸ hwn.sublist (List.take_sublist _ _)
  have A3 : ∀ w ∈ asks, isName w = true := fun w h => hwv w (List.mem_of_mem_take (hA ▸ h))
  have S1 : says.length = (1 + v').toNat := by rw [← hS, List.length_drop, List.length_take]; omega
  have S2 : says.Nodup := hS ▸ hwn.sublist ((List.drop_sublist _ _).trans (List.take_sublist _ _))
  have S3 : ∀ w ∈ says, isName w = true ∧ w ∉ asks := fun w h => by
    have h1 : w ∈ (words.take (5 + v').toNat).drop 4 := hS ▸ h
    refine ⟨hwv w (List.mem_of_mem_take (List.mem_of_mem_drop h1)), fun z => ?_⟩
    obtain ⟨i, hi⟩ := List.mem_iff_getElem?.mp h1
    obtain ⟨j, hj⟩ := List.mem_iff_getElem?.mp (hA ▸ z : w ∈ words.take (1 + v).toNat)
    rw [List.getElem?_drop, List.getElem?_take] at hi
    rw [List.getElem?_take] at hj
    split at hi
    · split at hj
      · have := at_inj hwn hi hj; omega
      · cases hj
    · cases hi
  have A0 : asks ≠ [] := fun z => by rw [z] at A1; simp at A1; omega
  have S0 : says ≠ [] := fun z => by rw [z] at S1; simp at S1; omega
  clear hA hS
  rw [s_sSeq]; simp
  refine takeF F4 (by omega) (by omega) fun y g5 y0 y1 F5 b5 => ?_
  simp
  refine call_of (a, (1 + y).toNat) ⟨by simp; omega, by omega, F5.pen⟩ ?_
  rintro r g6 ⟨⟨rooms, rfl, hrl, hrv, hrn⟩, hp6, hb6⟩
  have F6 := F5.take hp6 hb6
  simp
  rw [s_sSeq]; simp
  refine call_of ⟨a, asks, says, rooms, full⟩ ⟨⟨_, _, _, rfl, rfl, rfl, rfl⟩, F6.pen, f0, f1, S0, by simp; omega, by simp; omega, by simp; omega⟩ ?_
  rintro r g7 ⟨F7, down, ds, s, rfl, hL, hD, hdl⟩
  have F07 := F6.trans F7
  have R0 : rooms ≠ [] := fun z => by rw [z] at hrl; simp at hrl; omega
  have ok : MdOk ⟨asks, says, rooms, ds⟩ mo down := ⟨A0, by simp; omega, A2, A3, S0, by simp; omega, S2, S3, R0, by simp; omega, hrn, hrv, hD, hdl⟩
  have st : ∀ {g : G} {q a : Nat} {o u : O}, g a = some u → g q = none → g.upd q o a = some u := fun {g q a o u} e hq => by
    rw [G.upd_ne fun z => by rw [z, hq] at e; cases e]; exact e
  have fin : ∀ (b1 b2 b3 b4 : Nat) (g8 : G), (∀ b u, g7 b = some u → g8 b = some u) → g7 b1 = none → g7 b2 = none → g7 b3 = none → g6 b4 = none → g8 b1 = some (.lst (T asks)) → g8 b2 = some (.lst (T says)) → g8 b3 = some (.lst (T rooms)) → g8 b4 = some (.lst (Ds ds)) →
      ∃ g9, G.le g9 g8 ∧ Q (.d (.tup [.ref b1, .ref b2, .ref b3, .ref b4])) g9 := fun b1 b2 b3 b4 g8 k n1 n2 n3 n4 e1 e2 e3 e4 =>
    ret_now (hq _ _ ⟨F07.grow k, _, _, down, rfl, ⟨b1, b2, b3, b4, rfl, e1, e2, e3, e4, F07.free n1, F07.free n2, F07.free n3, F6.free n4⟩, ok⟩)
  rcases hL with rfl | ⟨p, rfl, e, n, ne⟩
  · simp [rOf]
    intro b1 f1 b2 f2 b3 f3 b4 f4
    have k1 := up_new (o := .lst (T asks)) (fun _ _ e => e) f1
    have k2 := up_new (o := .lst (T says)) k1 f2
    have k3 := up_new (o := .lst (T rooms)) k2 f3
    have back : ∀ {g8 : G} {b : Nat}, (∀ x u, g7 x = some u → g8 x = some u) → g8 b = none → g7 b = none := fun {g8 b} k z => by
      cases q : g7 b with
      | none => rfl
      | some u => rw [k b u q] at z; cases z
    refine fin b1 b2 b3 b4 _ (up_new k3 f4) f1 (back k1 f2) (back k2 f3) (F7.free (back k3 f4)) ?_ ?_ ?_ G.upd_same
    · exact st (st (st G.upd_same f2) f3) f4
    · exact st (st G.upd_same f3) f4
    · exact st G.upd_same f4
  · simp [rOf]
    intro b1 f1 b2 f2 b3 f3
    have k1 := up_new (o := .lst (T asks)) (fun _ _ e => e) f1
    have k2 := up_new (o := .lst (T says)) k1 f2
    have k3 := up_new (o := .lst (T rooms)) k2 f3
    have back : ∀ {g8 : G} {b : Nat}, (∀ x u, g7 x = some u → g8 x = some u) → g8 b = none → g7 b = none := fun {g8 b} k z => by
      cases q : g7 b with
      | none => rfl
      | some u => rw [k b u q] at z; cases z
    refine fin b1 b2 b3 p _ k3 f1 (back k1 f2) (back k2 f3) n ?_ ?_ ?_ (k3 _ _ e)
    · exact st (st G.upd_same f2) f3
    · exact st G.upd_same f3
    · exact G.upd_same
end Pd
set_option linter.all false
set_option maxRecDepth 10000
namespace Pd
/-! the law's own closure by still doors -/
theorem nodup_snoc {α : Type} {xs : List α} {x : α} (h : xs.Nodup) (hx : x ∉ xs) : (xs ++ [x]).Nodup := List.nodup_append.mpr ⟨h, by simp, fun a ha b hb => by simp at hb; rw [hb]; exact fun z => hx (z ▸ ha)⟩
structure So where
  doors : List Dr
  rooms : List (List Nat)
def d_stillon : Sg So := ⟨fun x ss g => (∃ s0 s1, ss = [s0, s1] ∧ lookS g s0 = some (.o (.lst (Ds x.doors))) ∧ lookS g s1 = some (.o (.lst (T x.rooms)))) ∧ x.doors.length ≤ 4000 ∧ x.rooms.length ≤ 4000,
  fun x g r g' => g' = g ∧ ∃ ex : List (List Nat), r = .own (.lst (T (x.rooms ++ ex))) ∧ ex.Nodup ∧ (∀ w ∈ ex, w ∉ x.rooms ∧ ∃ v ∈ x.rooms, Reach x.doors v w) ∧ ∀ v ∈ x.rooms ++ ex, ∀ w, Still x.doors v w → w ∈ x.rooms ++ ex, fun _ _ _ _ => False⟩
theorem k_stillon : Keeps d_stillon.wp b__law_still_on 7 := by
  rintro ss g E Q ⟨⟨doors, rooms⟩, ⟨⟨s0, s1, rfl, h0, h1⟩, hd, hr⟩, hq, _⟩
  have h8 := most_is
  simp only at h0 h1 hd hr
  simp [b__law_still_on, begin_]
  rw [s_sSeq]; simp [h1]
  rw [s_sSeq]; simp
  have exl : ∀ ex : List (List Nat), ex.Nodup → (∀ w ∈ ex, w ∈ doors.map Dr.o) → ex.length ≤ doors.length := fun ex h1 h2 => by have := pigeon h1 h2; simpa using this
  refine seq_of (fun ψ g2 => g2 = g ∧ ∃ (fo ex : List (List Nat)) (t3 t4 t5 t6 : Option Sl), ψ = [some s0, some s1, some (.own (.lst (T fo))), t3, t4, t5, t6] ∧ fo = rooms ++ ex ∧ ex.Nodup ∧ (∀ w ∈ ex, w ∉ rooms ∧ ∃ v ∈ rooms, Reach doors v w) ∧ ∀ v ∈ fo, ∀ w, Still doors v w → w ∈ fo) (fun nx hn => ?_) ?_
  · refine while_ind (fun n ψ g2 => g2 = g ∧ ∃ (fo ex : List (List Nat)) (at_ : Nat) (t4 t5 t6 : Option Sl), ψ = [some s0, some s1, some (.own (.lst (T fo))), some (.d (.int at_)), t4, t5, t6] ∧ fo = rooms ++ ex ∧ ex.Nodup ∧ (∀ w ∈ ex, w ∈ doors.map Dr.o) ∧ (∀ w ∈ ex, w ∉ rooms ∧ ∃ v ∈ rooms, Reach doors v w) ∧
      at_ ≤ fo.length ∧ n + at_ = rooms.length + doors.length ∧ ∀ v ∈ fo.take at_, ∀ w, Still doors v w → w ∈ fo) ?_ (rooms.length + doors.length) _ _ ⟨rfl, rooms, [], 0, _, _, _, rfl, by simp, List.nodup_nil, by simp, by simp, by simp, by simp, by simp⟩
    rintro n ψ g2 K ⟨rfl, fo, ex, at_, t4, t5, t6, rfl, ef, e1, e2, e3, e4, e5, e6⟩ hK
    have hel := exl ex e1 e2
    have hfl : fo.length = rooms.length + ex.length := by rw [ef]; simp
    simp
    split
    · rename_i hlt
      obtain ⟨here, hh⟩ : ∃ here, fo[at_]? = some here := ⟨_, List.getElem?_eq_getElem hlt⟩
      refine seq_of (fun ψ g3 => g3 = g2 ∧ ∃ (fo2 ex2 : List (List Nat)) (t4 t5 t6 : Option Sl), ψ = [some s0, some s1, some (.own (.lst (T fo2))), some (.d (.int at_)), t4, t5, t6] ∧ fo2 = fo ++ ex2 ∧ (ex ++ ex2).Nodup ∧ (∀ w ∈ ex2, w ∈ doors.map Dr.o) ∧ (∀ w ∈ ex2, w ∉ rooms ∧ Still doors here w) ∧
        ∀ w, Still doors here w → w ∈ fo2) (fun nx hn => ?_) ?_
      · simp [h0]
        refine for_ind (fun rest ψ g3 => g3 = g2 ∧ ∃ (done cs : List Dr) (fo2 ex2 : List (List Nat)) (t4 t5 t6 : Option Sl), doors = done ++ cs ∧ rest = Ds cs ∧ ψ = [some s0, some s1, some (.own (.lst (T fo2))), some (.d (.int at_)), t4, t5, t6] ∧ fo2 = fo ++ ex2 ∧ (ex ++ ex2).Nodup ∧ (∀ w ∈ ex2, w ∈ doors.map Dr.o) ∧ (∀ w ∈ ex2, w ∉ rooms ∧ Still doors here w) ∧
          ∀ d ∈ done, d.r = here → d.s = [wStill] → d.o ∈ fo2) ?_ ?_ _ _ _ ⟨rfl, [], doors, fo, [], _, _, _, rfl, rfl, rfl, by simp, by simpa using e1, by simp, by simp, by simp⟩
        · rintro x xs ψ g3 K2 ⟨rfl, done, cs, fo2, ex2, t4, t5, t6, f1, f2, rfl, ef2, f3, f4, f5, f6⟩ hK2
          cases cs with
          | nil => cases f2
          | cons d cs =>
            obtain ⟨rfl, rfl⟩ := List.cons.inj f2
            have hdm : d ∈ doors := f1 ▸ List.mem_append_right _ (by simp)
            have hx : fo2[at_]? = some here := by rw [ef2, List.getElem?_append_left hlt]; exact hh
            have hx1 : at_ < fo2.length := by rw [ef2]; simp; omega
            have hx' : atI fo2 at_ = some here := by
              rw [atI_lt (by omega) (by omega)]; exact hx
            have hall := exl _ f3 fun w hw => (List.mem_append.mp hw).elim (e2 w) (f4 w)
            simp at hall
            have hlm : fo2.length < most := by rw [ef2]; simp; omega
            have nxt : ∀ (t4 t5 t6 : Option Sl), (d.r = here → d.s = [wStill] → d.o ∈ fo2) → ∃ g4, G.le g4 g3 ∧ lookS g4 s0 = some (.o (.lst (Ds doors))) ∧ K2 [some s0, some s1, some (.own (.lst (T fo2))), some (.d (.int at_)), t4, t5, t6] g4 := fun u4 u5 u6 h =>
              now ⟨h0, hK2 _ _ ⟨rfl, done ++ [d], cs, fo2, ex2, _, _, _, by simp [f1], rfl, rfl, ef2, f3, f4, f5, fun d' hd' a b => by
                rcases List.mem_append.mp hd' with z | z
                · exact f6 d' z a b
                · rw [List.mem_singleton.mp z] at a b ⊢; exact h a b⟩⟩
            simp [hx']
            by_cases c1 : d.r = here
            · by_cases c2 : d.s = [wStill]
              · by_cases c3 : d.o ∈ fo2
                · simp [c1, c2, c3]
                  exact nxt _ _ _ fun _ _ => c3
                · have hst : Still doors here d.o := ⟨d, hdm, c1, c2, rfl⟩
                  simp [c1, c2, c3, hlm]
                  refine now ⟨h0, hK2 _ _ ⟨rfl, done ++ [d], cs, fo2 ++ [d.o], ex2 ++ [d.o], _, _, _, by simp [f1], rfl, by simp [T]; exact ⟨rfl, rfl, rfl⟩, by simp [ef2], ?_, fun w hw => ?_, fun w hw => ?_, fun d' hd' a b => ?_⟩⟩
                  · rw [← List.append_assoc]
                    refine nodup_snoc f3 fun z => c3 ?_
                    rw [ef2, ef]
                    rcases List.mem_append.mp z with z | z <;> simp [z]
                  · rcases List.mem_append.mp hw with z | z
                    · exact f4 w z
                    · rw [List.mem_singleton.mp z]; exact List.mem_map_of_mem hdm
                  · rcases List.mem_append.mp hw with z | z
                    · exact f5 w z
                    · rw [List.mem_singleton.mp z]
                      exact ⟨fun z => c3 (by rw [ef2, ef]; simp [z]), hst⟩
                  · rcases List.mem_append.mp hd' with z | z
                    · simp [f6 d' z a b]
                    · rw [List.mem_singleton.mp z]; simp
              · simp [c1, c2]
                exact nxt _ _ _ fun _ z => absurd z c2
            · simp [c1]
              exact nxt _ _ _ fun z => absurd z c1
        · rintro ψ g3 ⟨rfl, done, cs, fo2, ex2, t4, t5, t6, f1, f2, rfl, ef2, f3, f4, f5, f6⟩
          have hcs : cs = [] := by cases cs with | nil => rfl | cons => cases f2
          subst hcs
          rw [List.append_nil] at f1
          subst f1
          exact hn _ _ ⟨rfl, fo2, ex2, _, _, _, rfl, ef2, f3, f4, f5, fun w ⟨d, a, b, c, e⟩ => e ▸ f6 d a b c⟩
      · rintro ψ g3 ⟨rfl, fo2, ex2, t4, t5, t6, rfl, ef2, f3, f4, f5, f6⟩
        have hall := exl _ f3 fun w hw => (List.mem_append.mp hw).elim (e2 w) (f4 w)
        simp at hall
        have hfl2 : fo2.length = fo.length + ex2.length := by rw [ef2]; simp
        simp
        refine now (hK (n - 1) _ _ (by omega) ⟨rfl, fo2, ex ++ ex2, at_ + 1, _, _, _, by simp; exact ⟨rfl, rfl, rfl⟩, by rw [ef2, ef]; simp, f3, fun w hw => (List.mem_append.mp hw).elim (e2 w) (f4 w), fun w hw => ?_, by omega, by omega, fun v hv w hw => ?_⟩)
        · rcases List.mem_append.mp hw with h | h
          · exact e3 w h
          · refine ⟨(f5 w h).1, ?_⟩
            have hm := List.mem_of_getElem? hh
            rw [ef] at hm
            rcases List.mem_append.mp hm with z | z
            · exact ⟨here, z, .one (f5 w h).2⟩
            · obtain ⟨_, v, a, b⟩ := e3 here z
              exact ⟨v, a, .snoc b (f5 w h).2⟩
        · rw [ef2, List.take_append_of_le_length (by omega), List.take_add_one, hh] at hv
          rcases List.mem_append.mp hv with h | h
          · rw [ef2]; exact List.mem_append_left _ (e6 v h w hw)
          · simp at h; subst h; exact f6 w hw
    · rename_i hlt
      have : at_ = fo.length := by omega
      rw [this, List.take_length] at e6
      exact hn _ _ ⟨rfl, fo, ex, _, _, _, _, rfl, ef, e1, e3, e6⟩
  · rintro ψ g2 ⟨rfl, fo, ex, t3, t4, t5, t6, rfl, ef, e1, e2, e3⟩
    simp
    refine ret_now (hq _ _ ⟨rfl, ex, by rw [ef], e1, e2, ?_⟩)
    rw [ef] at e3; exact e3
end Pd
set_option linter.all false
set_option maxRecDepth 10000
namespace Pd
def isSt (d : Dr) : Bool := decide (d.s = [wStill])
def stills (ds : List Dr) : List Dr := ds.filter isSt
theorem still_stills {ds : List Dr} {a b : List Nat} : Still (stills ds) a b ↔ Still ds a b :=
  ⟨fun ⟨d, h, r⟩ => ⟨d, (List.mem_filter.mp h).1, r⟩, fun ⟨d, h, r1, r2, r3⟩ => ⟨d, List.mem_filter.mpr ⟨h, by simp [isSt, r2]⟩, r1, r2, r3⟩⟩
theorem reach_stills {ds : List Dr} {a b : List Nat} : Reach (stills ds) a b ↔ Reach ds a b := by
  constructor
  · intro h
    induction h with
    | one s => exact .one (still_stills.mp s)
    | snoc _ s ih => exact .snoc ih (still_stills.mp s)
  · intro h
    induction h with
    | one s => exact .one (still_stills.mpr s)
    | snoc _ s ih => exact .snoc ih (still_stills.mpr s)
theorem Reach.cons {ds : List Dr} {a b c : List Nat} (s : Still ds a b) (h : Reach ds b c) : Reach ds a c := by
  induction h with
  | one s' => exact .snoc (.one s) s'
  | snoc _ s' ih => exact .snoc ih s'
structure Rd where
  rooms : List (List Nat)
  doors : List Dr
def d_rnd : Sg Rd := ⟨fun x ss g => (∃ s0 s1, ss = [s0, s1] ∧ lookS g s0 = some (.o (.lst (T x.rooms))) ∧ lookS g s1 = some (.o (.lst (Ds x.doors)))) ∧ x.doors.length ≤ 4000 ∧ x.rooms.length ≤ 4000 ∧ ∀ d ∈ x.doors, Two d.s,
  fun x g r g' => g' = g ∧ r = .d (intO (roundAt x.doors 0 x.rooms)), fun _ _ _ _ => False⟩
theorem k_rnd : Keeps d_rnd.wp (b__law_round d_stillon.wp) 7 := by
  rintro ss g E Q ⟨⟨rooms, doors⟩, ⟨⟨s0, s1, rfl, h0, h1⟩, hd, hr, htwo⟩, hq, _⟩
  have h8 := most_is
  simp only at h0 h1 hd hr htwo
  simp [b__law_round, begin_]
  rw [s_sSeq]; simp [h1, lendAll, wipe, lend_some, lend_none, lend]
  refine comp_ind (fun rest acc g2 => g2 = g ∧ ∃ done cs : List Dr, doors = done ++ cs ∧ rest = Ds cs ∧ acc = Ds (stills done)) ?_ ?_ _ _ _ ⟨rfl, [], doors, rfl, rfl, rfl⟩
  · rintro x xs acc g2 K ⟨rfl, done, cs, e1, e2, rfl⟩ hK
    cases cs with
    | nil => cases e2
    | cons d cs =>
      obtain ⟨rfl, rfl⟩ := List.cons.inj e2
      have hl : (stills done).length < most := by
        have := List.length_filter_le isSt done
        have : done.length ≤ doors.length := by rw [e1]; simp
        unfold stills; omega
      by_cases c : d.s = [wStill]
      · simp [c, hl, h1]
        exact hK _ _ ⟨rfl, done ++ [d], cs, by simp [e1], rfl, by simp [stills, isSt, c]⟩
      · simp [c, h1]
        exact hK _ _ ⟨rfl, done ++ [d], cs, by simp [e1], rfl, by simp [stills, isSt, c]⟩
  rintro acc g2 ⟨rfl, done, cs, e1, e2, rfl⟩
  have hcs : cs = [] := by cases cs with | nil => rfl | cons => cases e2
  subst hcs
  rw [List.append_nil] at e1
  subst e1
  have hsl := List.length_filter_le isSt doors
  simp
  refine seq_of (fun ψ g3 => g3 = g2 ∧ ∃ t3 t4 t5, roundAt doors 0 rooms = none ∧ ψ = [some s0, some s1, some (.own (.lst (Ds (stills doors)))), t3, t4, t5, none]) (fun nx hn => ?_) ?_
  · simp [h0]
    refine for_ind (fun rest ψ g3 => g3 = g2 ∧ ∃ (done rs : List (List Nat)) (t3 t4 t5 : Option Sl), rooms = done ++ rs ∧ rest = numbered done.length (T rs) ∧ roundAt doors 0 rooms = roundAt doors done.length rs ∧ ψ = [some s0, some s1, some (.own (.lst (Ds (stills doors)))), t3, t4, t5, none]) ?_ ?_ _ _ _ ⟨rfl, [], rooms, _, _, _, rfl, rfl, rfl, rfl⟩
    · rintro x xs ψ g3 K ⟨rfl, done, rs, t3, t4, t5, e1, e2, e3, rfl⟩ hK
      cases rs with
      | nil => cases e2
      | cons room rs =>
        obtain ⟨rfl, rfl⟩ := List.cons.inj e2
        simp
        rw [s_sSeq]; simp [lendAll, wipe, lend_some, lend_none, lend]
        refine comp_ind (fun rest acc g4 => g4 = g3 ∧ ∃ dn cs : List Dr, stills doors = dn ++ cs ∧ rest = Ds cs ∧ acc = T ((outOf dn room).map Dr.o)) ?_ ?_ _ _ _ ⟨rfl, [], stills doors, rfl, rfl, rfl⟩
        · rintro x xs acc g4 K2 ⟨rfl, dn, cs, f1, f2, rfl⟩ hK2
          cases cs with
          | nil => cases f2
          | cons d cs =>
            obtain ⟨rfl, rfl⟩ := List.cons.inj f2
            have hl : (outOf dn room).length < most := by
              have := List.length_filter_le (fun d' => decide (d'.r = room)) dn
              have : dn.length ≤ (stills doors).length := by rw [f1]; simp
              unfold outOf; unfold stills at this; omega
            by_cases c : d.r = room
            · simp [c, hl]
              exact hK2 _ _ ⟨rfl, dn ++ [d], cs, by simp [f1], rfl, by simp [outOf, c, T]⟩
            · simp [c]
              exact hK2 _ _ ⟨rfl, dn ++ [d], cs, by simp [f1], rfl, by simp [outOf, c]⟩
        rintro acc g4 ⟨rfl, dn, cs, f1, f2, rfl⟩
        have hcs : cs = [] := by cases cs with | nil => rfl | cons => cases f2
        subst hcs
        rw [List.append_nil] at f1
        subst f1
        have hol := List.length_filter_le (fun d' => decide (d'.r = room)) (stills doors)
        have hol2 : ((outOf (stills doors) room).map Dr.o).length ≤ 4000 := by rw [List.length_map]; unfold outOf; unfold stills at hol ⊢; omega
        generalize hbeh : (outOf (stills doors) room).map Dr.o = behind at hol2
        have hmem : ∀ y, y ∈ behind ↔ Still doors room y := fun y => by
          rw [← hbeh]
          constructor
          · intro h
            obtain ⟨d, h1, rfl⟩ := List.mem_map.mp h
            obtain ⟨h2, h3⟩ := List.mem_filter.mp h1
            obtain ⟨h4, h5⟩ := List.mem_filter.mp h2
            exact ⟨d, h4, of_decide_eq_true h3, of_decide_eq_true h5, rfl⟩
          · rintro ⟨d, h1, h2, h3, rfl⟩
            exact List.mem_map_of_mem (List.mem_filter.mpr ⟨List.mem_filter.mpr ⟨h1, by simp [isSt, h3]⟩, by simp [h2]⟩)
        simp
        refine call_of ⟨stills doors, behind⟩ ⟨⟨_, _, rfl, rfl, rfl⟩, by unfold stills; simp only; omega, hol2⟩ ?_
        rintro r g5 ⟨rfl, ex, rfl, x1, x2, x3⟩
        have key : room ∈ behind ++ ex ↔ Reach doors room room := by
          constructor
          · intro h
            rcases List.mem_append.mp h with h | h
            · exact .one ((hmem _).mp h)
            · obtain ⟨_, v, a, b⟩ := x2 room h
              exact Reach.cons ((hmem _).mp a) (reach_stills.mp b)
          · intro h
            have all : ∀ y, Reach doors room y → y ∈ behind ++ ex := fun y hy => by
              induction hy with
              | one s => exact List.mem_append_left _ ((hmem _).mpr s)
              | snoc _ s ih => exact x3 _ ih _ (still_stills.mpr s)
            exact all room h
        generalize behind ++ ex = l at key
        simp [key]
        split
        · rename_i c
          exact ret_now (hq _ _ ⟨rfl, by show _ = R.d (intO (roundAt doors 0 rooms)); rw [e3, (round_cons _ _ _ _).1 (key.mp (of_decide_eq_true c))]; rfl⟩)
        · rename_i c
          refine now ⟨h0, hK _ _ ⟨rfl, done ++ [room], rs, _, _, _, by simp [e1], by simp, ?_, rfl⟩⟩
          rw [e3, (round_cons _ _ _ _).2 fun z => c (decide_eq_true (key.mpr z))]; simp
    · rintro ψ g3 ⟨rfl, done, rs, t3, t4, t5, e1, e2, e3, rfl⟩
      have hcs : rs = [] := by cases rs with | nil => rfl | cons => cases e2
      subst hcs
      exact hn _ _ ⟨rfl, _, _, _, e3, rfl⟩
  · rintro ψ g3 ⟨rfl, t3, t4, t5, e3, rfl⟩
    simp
    exact ret_now (hq _ _ ⟨rfl, by show _ = R.d (intO (roundAt doors 0 rooms)); rw [e3]; rfl⟩)
end Pd
set_option linter.all false
set_option maxRecDepth 10000
namespace Pd
/-- what is asked of handed lists, whatever they hold -/
structure Bd (m : Mch) : Prop where
  a : m.asks.length ≤ 100
  s : m.says.length ≤ 100
  r : m.rooms.length ≤ 200
  d : m.doors.length ≤ 3900
  aw : ∀ w ∈ m.asks, w.length ≤ most
  sw : ∀ w ∈ m.says, w.length ≤ most
  rw : ∀ w ∈ m.rooms, w.length ≤ most
  two : ∀ d ∈ m.doors, Two d.s
theorem MdOk.bd {m : Mch} {mo : Nat} {down : Bool} (h : MdOk m mo down) (hm : mo ≤ 150) : Bd m := by
  have h8 := most_is
  have n : ∀ {w : List Nat}, isName w = true → w.length ≤ most := fun e => by have := isName_len e; omega
  have := h.al; have := h.sl; have := h.rl; have := h.dl
  exact ⟨by omega, by omega, by omega, by omega, fun w hw => n (h.av w hw), fun w hw => n (h.sv w hw).1, fun w hw => n (h.rv w hw), h.dz.two⟩
theorem denL_map {α : Type} {f : D → Option D} {g : α → D} : ∀ {xs : List α}, (∀ x ∈ xs, f (g x) = some (g x)) → denL f (xs.map g) = some (xs.map g)
  | [], _ => rfl
  | x :: xs, h => by
    show (match f (g x), denL f (xs.map g) with | some y, some ys => some (y :: ys) | _, _ => none) = _
    rw [h x (by simp), denL_map fun y hy => h y (by simp [hy])]; rfl
theorem den_tT (n : Nat) (g : G) {s : List (List Nat)} (h : s.length < 4000) : den (n + 2) g (.tup (s.map D.str)) = some (.tup (s.map D.str)) := by
  show (if (s.map D.str).length < 4000 then (denL (den (n + 1) g) (T s)).map D.tup else none) = _
  rw [if_pos (by simpa using h), den_T (n + 1) g (by omega)]; rfl
theorem den_dr (n : Nat) (g : G) {d : Dr} (h : Two d.s) : den (n + 3) g (dr d) = some (dr d) := by
  have hl : d.s.length < 4000 := by rcases h with h | h <;> omega
  show (if 3 < 4000 then (denL (den (n + 2) g) [.str d.r, .tup (d.s.map D.str), .str d.o]).map D.tup else none) = _
  rw [if_pos (by omega)]
  have e : ∀ s : List Nat, den (n + 2) g (.str s) = some (.str s) := fun _ => rfl
  simp [denL, e, den_tT n g hl]
theorem den_refD {n : Nat} {g : G} {a : Nat} {ds : List Dr} (h : g a = some (.lst (Ds ds))) (hl : ds.length < 4000) (h2 : ∀ d ∈ ds, Two d.s) : den (n + 4) g (.ref a) = some (.rol (Ds ds)) := by
  show ((g a).map C.o).bind (denC (den (n + 3) g)) = _
  rw [h]
  show (if (Ds ds).length < 4000 then (denL (den (n + 3) g) (Ds ds)).map D.rol else none) = _
  rw [if_pos (by simpa using hl), denL_map fun d hd => den_dr n g (h2 d hd)]; rfl
theorem den_fourD {g : G} {a b c d : Nat} {m : Mch} (B : Bd m) (h1 : g a = some (.lst (T m.asks))) (h2 : g b = some (.lst (T m.says))) (h3 : g c = some (.lst (T m.rooms))) (h4 : g d = some (.lst (Ds m.doors))) :
    denC (den 6 g) (.o (.lst [.ref a, .ref b, .ref c, .ref d])) = some (.rol [.rol (T m.asks), .rol (T m.says), .rol (T m.rooms), .rol (Ds m.doors)]) := by
  have := B.a; have := B.s; have := B.r; have := B.d
  show (if 4 < 4000 then (denL (den 6 g) [.ref a, .ref b, .ref c, .ref d]).map D.rol else none) = _
  rw [if_pos (by omega)]
  simp [denL, den_ref (n := 5) (by omega) h1 (by omega), den_ref (n := 5) (by omega) h2 (by omega), den_ref (n := 5) (by omega) h3 (by omega), den_refD (n := 2) h4 (by omega) B.two]
end Pd
set_option Elab.async false
set_option linter.all false
namespace Pd
/-- still_on(M, rooms) -/
def b_still_on (φ_Machine_doors_from φ_Machine_rooms : SpD) : WS :=
  (sSeq (sSet 2 (eDic false)) (sSeq (sSet 3 (eUn oList (eVar 1))) (sSeq (sWhile (tV (eBin oNe (eVar 3) (eLst dNil))) (sSeq (sSet 4 (eMut mPop (eVar 3) dNil)) (sIf (tV (eBin oNin (eVar 4) (eVar 2))) (sSeq (sSetIx putIx (eVar 2) (eVar 4) (eC (.bl true))) (sFor (iIt (eNs (eMeth "Machine" "doors_from" φ_Machine_doors_from [false] (eVar 0) (aCons (eVar 4) aNil)))) (gName 5) (sIf (tV (eBin oEq (eBin oIx (eVar 5) (eC (.int 1))) (eTup (dCons (eC (.str [115, 116, 105, 108, 108])) dNil)))) (sE (eMut mAppend (eVar 3) (dCons (eBin oIx (eVar 5) (eC (.int 2))) dNil))) sNx))) sNx))) (sRet (eUn oTuple (eComp [4] (iIt (eNs (eMeth "Machine" "rooms" φ_Machine_rooms [] (eVar 0) aNil))) (gName 4) (tV (eBin oIn (eVar 4) (eVar 2))) (eVar 4)))))))
/-- face_behind(M, face, sign) -/
def b_face_behind (φ_Machine_is_quiet φ_Machine_doors_from φ_still_on : SpD) : WS :=
  (sSeq (sIf (tV (eBin oEq (eVar 2) (eTup (dCons (eC (.str [104, 117, 115, 104])) dNil)))) (sRet (eUn oTuple (eComp [4] (iIt (eVar 1)) (gName 4) (tV (eMeth "Machine" "is_quiet" φ_Machine_is_quiet [false] (eVar 0) (aCons (eVar 4) aNil))) (eVar 4)))) sNx) (sSeq (sSet 3 (eLst dNil)) (sSeq (sFor (iIt (eVar 1)) (gName 4) (sFor (iIt (eNs (eMeth "Machine" "doors_from" φ_Machine_doors_from [false] (eVar 0) (aCons (eVar 4) aNil)))) (gName 5) (sIf (tV (eBin oEq (eBin oIx (eVar 5) (eC (.int 1))) (eVar 2))) (sE (eMut mAppend (eVar 3) (dCons (eBin oIx (eVar 5) (eC (.int 2))) dNil))) sNx))) (sRet (eCall φ_still_on [false, false] (aCons (eVar 0) (aCons (eVar 3) aNil)))))))
/-- Machine.is_quiet(self, room) -/
def b_Machine_is_quiet : WS :=
  (sRet (eUn oAll (eComp [2] (iIt (eNs (eBin oIx (eFld "Machine" "leading" (eVar 0)) (eVar 1)))) (gName 2) tYes (eBin oEq (eBin oIx (eBin oIx (eVar 2) (eC (.int 1))) (eC (.int 0))) (eC (.str [97, 115, 107]))))))
/-- Machine.doors_from(self, room) -/
def b_Machine_doors_from : WS :=
  (sRet (eUn oList (eBin oIx (eFld "Machine" "leading" (eVar 0)) (eVar 1))))
/-- _law_machine(told) -/
def b__law_machine (φ_Machine___init__ : SpD) : WS :=
  (sRet (eNew "Machine" φ_Machine___init__ [false, false, false, false] (aCons (eUn oList (eBin oIx (eVar 0) (eC (.int 0)))) (aCons (eUn oList (eBin oIx (eVar 0) (eC (.int 1)))) (aCons (eUn oList (eBin oIx (eVar 0) (eC (.int 2)))) (aCons (eUn oList (eBin oIx (eVar 0) (eC (.int 3)))) aNil))))))
/-- _law_some(pen, rooms) -/
def b__law_some (φ__law_anew φ__law_take : SpD) : WS :=
  (sSeq (sE (eCall φ__law_anew [true] (aCons (eVar 0) aNil))) (sRet (eUn oTuple (eComp [2] (iIt (eVar 1)) (gName 2) (tV (eBin oEq (eCall φ__law_take [true, false] (aCons (eVar 0) (aCons (eC (.int 2)) aNil))) (eC (.int 1)))) (eVar 2)))))
/-- _law_same(found, due) -/
def b_same2 (φ__law_same : SpD) : WS :=
  (sSeq (sIf (tV (eIsN false (eVar 1))) (sRet (eIsN false (eVar 0))) sNx) (sSeq (sIf (tV (eBin (oIsB false) (eVar 1) (eC (.bl true)))) (sRet (eBin (oIsB false) (eVar 0) (eC (.bl true)))) sNx) (sSeq (sIf (tV (eBin (oIsB false) (eVar 1) (eC (.bl false)))) (sRet (eBin (oIsB false) (eVar 0) (eC (.bl false)))) sNx) (sSeq (sIf (tV (eUn (oIsT .int) (eVar 1))) (sRet (eAnd (eUn (oIsT .int) (eVar 0)) (eAnd (eNot (eUn (oIsT .bool) (eVar 0))) (eBin oEq (eVar 0) (eVar 1))))) sNx) (sSeq (sIf (tV (eUn (oIsT .str) (eVar 1))) (sRet (eAnd (eUn (oIsT .str) (eVar 0)) (eBin oEq (eVar 0) (eVar 1)))) sNx) (sSeq (sIf (tOr (tV (eBin oNe (eUn (oIsT .tuple) (eVar 1)) (eUn (oIsT .tuple) (eVar 0)))) (tV (eBin oNe (eUn (oIsT .list) (eVar 1)) (eUn (oIsT .list) (eVar 0))))) (sRet (eC (.bl false))) sNx) (sSeq (sIf (tV (eBin oNe (eUn oLen (eVar 0)) (eUn oLen (eVar 1)))) (sRet (eC (.bl false))) sNx) (sSeq (sFor (iZip (eVar 0) (eVar 1)) (gTup [(gName 2), (gName 3)]) (sIf (tNot (tV (eCall φ__law_same [false, false] (aCons (eVar 2) (aCons (eVar 3) aNil))))) (sRet (eC (.bl false))) sNx)) (sRet (eC (.bl true)))))))))))
/-- first_face(M) -/
def b_first_face (φ_still_on φ_Machine_rooms : SpD) : WS :=
  (sRet (eCall φ_still_on [false, false] (aCons (eVar 0) (aCons (eCut (eMeth "Machine" "rooms" φ_Machine_rooms [] (eVar 0) aNil) none (some (eC (.int 1)))) aNil))))
/-- _law_renamed(pen, told) -/
def b__law_renamed (φ__law_names φ__law_take : SpD) : WS :=
  (sSeq (sUnp (gTup [(gName 2), (gName 3), (gName 4), (gName 5)]) (eVar 1)) (sSeq (sSet 6 (eDic false)) (sSeq (sFor (iZip (eVar 4) (eNs (eCall φ__law_names [true, false] (aCons (eVar 0) (aCons (eUn oLen (eVar 4)) aNil))))) (gTup [(gName 7), (gName 8)]) (sSetIx putIx (eVar 6) (eVar 7) (eVar 8))) (sSeq (sSet 9 (eComp [7] (iIt (eVar 4)) (gName 7) tYes (eBin oIx (eVar 6) (eVar 7)))) (sSeq (sSet 10 (eBin oAdd (eC (.int 1)) (eCall φ__law_take [true, false] (aCons (eVar 0) (aCons (eUn oLen (eVar 4)) aNil))))) (sSeq (sSet 9 (eBin oAdd (eBin oAdd (eCut (eVar 9) none (some (eC (.int 1)))) (eCut (eVar 9) (some (eVar 10)) none)) (eCut (eVar 9) (some (eC (.int 1))) (some (eVar 10))))) (sSeq (sSet 5 (eComp [11, 12, 13] (iIt (eVar 5)) (gTup [(gName 11), (gName 12), (gName 13)]) tYes (eTup (dCons (eBin oIx (eVar 6) (eVar 11)) (dCons (eVar 12) (dCons (eBin oIx (eVar 6) (eVar 13)) dNil)))))) (sRet (eTup (dCons (eVar 2) (dCons (eVar 3) (dCons (eVar 9) (dCons (eVar 5) dNil)))))))))))))
/-- _law_stiller(pen, told) -/
def b__law_stiller (φ__law_anew φ__law_take φ__law_still_on φ__law_put : SpD) : WS :=
  (sSeq (sE (eCall φ__law_anew [true] (aCons (eVar 0) aNil))) (sSeq (sUnp (gTup [(gName 2), (gName 3), (gName 4), (gName 5)]) (eVar 1)) (sSeq (sSet 5 (eUn oList (eVar 5))) (sSeq (sFor (iRange (eCall φ__law_take [true, false] (aCons (eVar 0) (aCons (eC (.int 4)) aNil)))) (gName 6) (sSeq (sSet 7 (eBin oIx (eVar 4) (eCall φ__law_take [true, false] (aCons (eVar 0) (aCons (eUn oLen (eVar 4)) aNil))))) (sSeq (sSet 8 (eBin oIx (eVar 4) (eCall φ__law_take [true, false] (aCons (eVar 0) (aCons (eUn oLen (eVar 4)) aNil))))) (sIf (tV (eBin oNin (eVar 7) (eCall φ__law_still_on [false, false] (aCons (eVar 5) (aCons (eLst (dCons (eVar 8) dNil)) aNil))))) (sE (eCall φ__law_put [true, true] (aCons (eVar 5) (aCons (eTup (dCons (eVar 7) (dCons (eTup (dCons (eC (.str [115, 116, 105, 108, 108])) dNil)) (dCons (eVar 8) dNil)))) aNil)))) sNx)))) (sRet (eTup (dCons (eVar 2) (dCons (eVar 3) (dCons (eVar 4) (dCons (eVar 5) dNil))))))))))
end Pd
set_option linter.all false
set_option maxRecDepth 10000
namespace Pd
/-! loops over lists of things told as values -/
theorem for_map {α : Type} {tg : WG} {b : WS} {Dn : Ends} {ok : Psi → G → Prop} (emb : α → D) (xs : List α) (I : List α → Psi → G → Prop)
    (step : ∀ (done : List α) (x : α) (rest : List α), xs = done ++ x :: rest → ∀ (ψ : Psi) (g : G) (K : Psi → G → Prop), I done ψ g → (∀ ψ' g', I (done ++ [x]) ψ' g' → K ψ' g') →
      tg (emb x) ψ g fun ψ g => b ⟨fun ψ' g' => ∃ g2, G.le g2 g' ∧ ok ψ' g2 ∧ K ψ' g2, Dn.rt, Dn.nx, fun ψ' g' => ∃ g2, G.le g2 g' ∧ ok ψ' g2 ∧ K ψ' g2, Dn.ex⟩ ψ g)
    (fin : ∀ ψ g, I xs ψ g → Dn.nx ψ g) (ψ : Psi) (g : G) (h : I [] ψ g) : forL tg b Dn ok (xs.map emb) ψ g := by
  refine for_ind (fun rest ψ g => ∃ done cs, xs = done ++ cs ∧ rest = cs.map emb ∧ I done ψ g) ?_ ?_ _ _ _ ⟨[], xs, rfl, rfl, h⟩
  · rintro y ys ψ g K ⟨done, cs, e1, e2, hI⟩ hK
    cases cs with
    | nil => cases e2
    | cons x cs =>
      obtain ⟨rfl, rfl⟩ := List.cons.inj e2
      exact step done x cs e1 ψ g K hI fun ψ' g' h' => hK _ _ ⟨done ++ [x], cs, by simp [e1], rfl, h'⟩
  · rintro ψ g ⟨done, cs, e1, e2, hI⟩
    have : cs = [] := by cases cs with | nil => rfl | cons => cases e2
    subst this
    rw [List.append_nil] at e1
    exact fin ψ g (e1 ▸ hI)
theorem comp_mapI {α : Type} {tg : WG} {tt : WT} {te : WE} {ok : Psi → G → Prop} {ψ0 ψw : Psi} {Q : List D → G → Prop} (emb : α → D) (xs : List α) (I : List α → List D → G → Prop)
    (step : ∀ (done : List α) (x : α) (rest : List α), xs = done ++ x :: rest → ∀ (acc : List D) (g : G) (K : List D → G → Prop), I done acc g → (∀ acc' g', I (done ++ [x]) acc' g' → K acc' g') →
      tg (emb x) ψw g fun ψ1 g => tt noX ψ1 g fun b ψ2 g => if b = true then te noX ψ2 g fun r ψ3 g => toD r ψ3 g fun d _ g => ok ψ0 g ∧ acc.length < most ∧ K (acc ++ [d]) g else ok ψ0 g ∧ K acc g)
    (fin : ∀ acc g, I xs acc g → Q acc g) (g : G) (h : I [] [] g) : compL tg tt te ok ψ0 ψw (xs.map emb) [] g Q := by
  refine comp_ind (fun rest acc g => ∃ done cs, xs = done ++ cs ∧ rest = cs.map emb ∧ I done acc g) ?_ ?_ _ _ _ ⟨[], xs, rfl, rfl, h⟩
  · rintro y ys acc g K ⟨done, cs, e1, e2, hI⟩ hK
    cases cs with
    | nil => cases e2
    | cons x cs =>
      obtain ⟨rfl, rfl⟩ := List.cons.inj e2
      exact step done x cs e1 acc g K hI fun acc' g' h' => hK _ _ ⟨done ++ [x], cs, by simp [e1], rfl, h'⟩
  · rintro acc g ⟨done, cs, e1, e2, hI⟩
    have : cs = [] := by cases cs with | nil => rfl | cons => cases e2
    subst this
    rw [List.append_nil] at e1
    exact fin acc g (e1 ▸ hI)
/-- a comprehension that leaves the heap alone -/
theorem comp_map {α : Type} {tg : WG} {tt : WT} {te : WE} {ok : Psi → G → Prop} {ψ0 ψw : Psi} {Q : List D → G → Prop} {g : G} (emb : α → D) (keep : α → Bool) (out : α → D) (xs : List α) (hl : xs.length ≤ 16000000)
    (step : ∀ x ∈ xs, ∀ (acc : List D) (K : List D → G → Prop), acc.length < most → (keep x = true → K (acc ++ [out x]) g) → (keep x = false → K acc g) →
      tg (emb x) ψw g fun ψ1 g => tt noX ψ1 g fun b ψ2 g => if b = true then te noX ψ2 g fun r ψ3 g => toD r ψ3 g fun d _ g => ok ψ0 g ∧ acc.length < most ∧ K (acc ++ [d]) g else ok ψ0 g ∧ K acc g)
    (fin : Q ((xs.filter keep).map out) g) : compL tg tt te ok ψ0 ψw (xs.map emb) [] g Q := by
  have h8 := most_is
  refine comp_mapI emb xs (fun done acc g' => g' = g ∧ acc = (done.filter keep).map out) ?_ ?_ g ⟨rfl, rfl⟩
  · rintro done x rest e acc g' K ⟨rfl, rfl⟩ hK
    refine step x (by simp [e]) _ K ?_ (fun h => hK _ _ ⟨rfl, by simp [h]⟩) fun h => hK _ _ ⟨rfl, by simp [h]⟩
    have := List.length_filter_le keep done
    have : done.length ≤ xs.length := by rw [e]; simp
    rw [List.length_map]; omega
  · rintro acc g' ⟨rfl, rfl⟩
    exact fin
@[simp] theorem in_c1 (g : G) (r o : List Nat) (xs : List (List Nat)) : oIn g (.d (.str r)) (.o (.lst (D.str o :: xs.map D.str))) = some (.d (.bl (decide (r ∈ o :: xs)))) := by
  have := in_T g r (o :: xs)
  simpa using this
@[simp] theorem nin_c1 (g : G) (r o : List Nat) (xs : List (List Nat)) : oNin g (.d (.str r)) (.o (.lst (D.str o :: xs.map D.str))) = some (.d (.bl (!decide (r ∈ o :: xs)))) := by
  have := nin_T g r (o :: xs)
  simpa using this
theorem flatT (ws : List (List Nat)) : (T ws).all flatD = true := by
  rw [List.all_eq_true]
  intro x hx
  obtain ⟨w, _, rfl⟩ := List.mem_map.mp hx
  rfl
theorem inC_t (g : G) (w : List Nat) (ws : List (List Nat)) : inC g (.d (.str w)) (.d (.tup (T ws))) = some (decide (w ∈ ws)) := by
  show (if flatD (.str w) && (T ws).all flatD then some (decide (D.str w ∈ T ws)) else none) = _
  rw [flatT]
  simp [flatD]
@[simp] theorem in_t (g : G) (w : List Nat) (ws : List (List Nat)) : oIn g (.d (.str w)) (.d (.tup (ws.map D.str))) = some (.d (.bl (decide (w ∈ ws)))) := by
  have h0 : inT g (.d (.str w)) (.d (.tup (T ws))) = inC g (.d (.str w)) (.d (.tup (T ws))) := by rcases w with _ | ⟨a, _ | ⟨b, w⟩⟩ <;> rfl
  unfold oIn
  rw [h0, inC_t]; rfl
@[simp] theorem nin_t (g : G) (w : List Nat) (ws : List (List Nat)) : oNin g (.d (.str w)) (.d (.tup (ws.map D.str))) = some (.d (.bl (!decide (w ∈ ws)))) := by
  unfold oNin
  rw [inC_t]; rfl
end Pd
set_option linter.all false
set_option maxRecDepth 10000
namespace Pd
/-! what a machine tells of a room; still doors of the program -/
def isAsk (d : Dr) : Bool := decide (d.s.head? = some wAsk)
def quietB (m : Mch) (r : List Nat) : Bool := (outOf m.doors r).all isAsk
theorem quietB_iff {m : Mch} {r : List Nat} : quietB m r = true ↔ ∀ d ∈ m.doors, d.r = r → isAsk d = true := by
  unfold quietB outOf
  rw [List.all_eq_true]
  constructor
  · intro h d hd e; exact h d (List.mem_filter.mpr ⟨hd, by simp [e]⟩)
  · intro h d hd
    obtain ⟨h1, h2⟩ := List.mem_filter.mp hd
    exact h d h1 (of_decide_eq_true h2)
structure MOk (m : Mch) : Prop where
  nd : m.rooms.Nodup
  en : ∀ d ∈ m.doors, d.r ∈ m.rooms ∧ d.o ∈ m.rooms
  two : ∀ d ∈ m.doors, Two d.s
  rl : m.rooms.length ≤ 200
  dl : m.doors.length ≤ 3900
theorem out_len (ds : List Dr) (r : List Nat) : (outOf ds r).length ≤ ds.length := List.length_filter_le _ _
theorem boolsD_map {α : Type} (f : α → Bool) : ∀ xs : List α, boolsD (xs.map fun x => D.bl (f x)) = some (xs.map f)
  | [] => rfl
  | x :: xs => by
    show (boolsD (xs.map fun x => D.bl (f x))).map (f x :: ·) = _
    rw [boolsD_map f xs]; rfl
structure Fm where
  p : Nat
  m : Mch
  room : List Nat
def d_from : Sg Fm := ⟨fun x ss g => ss = [.d (.ref x.p), .d (.str x.room)] ∧ MachD g x.p x.m ∧ x.room ∈ x.m.rooms, fun x g r g' => g' = g ∧ r = .own (.lst (Ds (outOf x.m.doors x.room))), fun _ _ _ _ => False⟩
theorem k_from : Keeps d_from.wp b_Machine_doors_from 2 := by
  rintro ss g E Q ⟨⟨p, m, room⟩, ⟨rfl, ⟨q1, q2, q3, q4, e1, e2, e3, e4, kvs, e5, e6, e7⟩, hin⟩, hq, _⟩
  obtain ⟨a, f1, f2⟩ := e7 _ hin
  simp only at f1 f2
  simp [b_Machine_doors_from, begin_, e1, lk4_3, e5, f1, f2]
  exact ret_now (hq _ _ ⟨rfl, rfl⟩)
def d_quiet : Sg Fm := ⟨fun x ss g => ss = [.d (.ref x.p), .d (.str x.room)] ∧ MachD g x.p x.m ∧ MOk x.m ∧ x.room ∈ x.m.rooms, fun x g r g' => g' = g ∧ r = .d (.bl (quietB x.m x.room)), fun _ _ _ _ => False⟩
theorem k_quiet : Keeps d_quiet.wp b_Machine_is_quiet 3 := by
  rintro ss g E Q ⟨⟨p, m, room⟩, ⟨rfl, ⟨q1, q2, q3, q4, e1, e2, e3, e4, kvs, e5, e6, e7⟩, ok, hin⟩, hq, _⟩
  obtain ⟨a, f1, f2⟩ := e7 _ hin
  simp only at f1 f2
  have hol := out_len m.doors room
  have hdl := ok.dl
  simp only at hdl
  simp [b_Machine_is_quiet, begin_, e1, lk4_3, e5, f1, f2, lendAll, lend, wipe]
  refine comp_map dr (fun _ => true) (fun d => .bl (isAsk d)) (outOf m.doors room) (by omega) ?_ ?_
  · intro d hd acc K ha h1 _
    have h2 := ok.two d (List.mem_filter.mp hd).1
    rcases h2.cases with ⟨x, e⟩ | ⟨x, y, e⟩
    · simp [e, ha, f2]
      simpa [isAsk, e] using h1 rfl
    · simp [e, ha, f2]
      simpa [isAsk, e] using h1 rfl
  · have e : (outOf m.doors room).filter (fun _ => true) = outOf m.doors room := List.filter_eq_self.mpr fun _ _ => rfl
    rw [e]
    simp [boolsD_map]
    exact ret_now (hq _ _ ⟨rfl, by simp [quietB, List.all_map]⟩)
/-- the rooms of some and of those to which still doors lead from them, in order -/
def Led (m : Mch) (s : List (List Nat)) (r : List Nat) : Prop := r ∈ s ∨ ∃ v ∈ s, Reach m.doors v r
open Classical in
noncomputable def closed (m : Mch) (s : List (List Nat)) : List (List Nat) := m.rooms.filter fun r => decide (Led m s r)
open Classical in
theorem mem_closed {m : Mch} {s : List (List Nat)} {r : List Nat} : r ∈ closed m s ↔ r ∈ m.rooms ∧ Led m s r := by
  unfold closed
  rw [List.mem_filter]
  exact and_congr_right fun _ => decide_eq_true_iff
theorem closed_sub (m : Mch) (s : List (List Nat)) : (closed m s).Sublist m.rooms := List.filter_sublist
structure Sl2 where
  p : Nat
  m : Mch
  s : List (List Nat)
def d_still : Sg Sl2 := ⟨fun x ss g => (∃ s1, ss = [.d (.ref x.p), s1] ∧ lookS g s1 = some (.o (.lst (T x.s)))) ∧ MachD g x.p x.m ∧ MOk x.m ∧ (∀ w ∈ x.s, w ∈ x.m.rooms) ∧ x.s.length ≤ 1000000,
  fun x g r g' => g' = g ∧ r = .d (.tup (T (closed x.m x.s))), fun _ _ _ _ => False⟩
theorem still_out {ds : List Dr} {a b : List Nat} : Still ds a b ↔ b ∈ ((outOf ds a).filter isSt).map Dr.o := by
  constructor
  · rintro ⟨d, h1, h2, h3, rfl⟩
    exact List.mem_map_of_mem (List.mem_filter.mpr ⟨List.mem_filter.mpr ⟨h1, by simp [h2]⟩, by simp [isSt, h3]⟩)
  · intro h
    obtain ⟨d, h1, rfl⟩ := List.mem_map.mp h
    obtain ⟨h2, h3⟩ := List.mem_filter.mp h1
    obtain ⟨h4, h5⟩ := List.mem_filter.mp h2
    exact ⟨d, h4, of_decide_eq_true h5, of_decide_eq_true h3, rfl⟩
theorem k_still : Keeps d_still.wp (b_still_on d_from.wp d_roomsD.wp) 6 := by
  rintro ss g E Q ⟨⟨p, m, s⟩, ⟨⟨s1, rfl, h1⟩, hM, ok, hs, hl⟩, hq, _⟩
  have h8 := most_is
  have hrl := ok.rl
  have hdl := ok.dl
  simp only at h1 hs hl hrl hdl
  simp [b_still_on, begin_]
  rw [s_sSeq]; simp
  rw [s_sSeq]; simp [h1]
  refine seq_of (fun ψ g2 => g2 = g ∧ ∃ (seen : List (List Nat)) (kv : List (D × D)) (t3 t4 t5 : Option Sl), ψ = [some (.d (.ref p)), some s1, some (.own (.dic false kv)), t3, t4, t5] ∧ kv.map (·.1) = T seen ∧ ∀ r, r ∈ seen ↔ Led m s r) (fun nx hn => ?_) ?_
  · refine while_ind (fun n ψ g2 => g2 = g ∧ ∃ (due seen : List (List Nat)) (kv : List (D × D)) (t4 t5 : Option Sl), ψ = [some (.d (.ref p)), some s1, some (.own (.dic false kv)), some (.own (.lst (T due))), t4, t5] ∧ kv.map (·.1) = T seen ∧ seen.Nodup ∧ n = (m.rooms.length - seen.length) * (m.doors.length + 1) + due.length ∧
      (∀ x ∈ seen, x ∈ m.rooms ∧ Led m s x) ∧ (∀ x ∈ due, x ∈ m.rooms ∧ Led m s x) ∧ (∀ x ∈ s, x ∈ seen ∨ x ∈ due) ∧ (∀ x ∈ seen, ∀ y, Still m.doors x y → y ∈ seen ∨ y ∈ due) ∧ due.length ≤ 1000000 + seen.length * m.doors.length) ?_
      (m.rooms.length * (m.doors.length + 1) + s.length) _ _ ⟨rfl, s, [], [], _, _, rfl, rfl, List.nodup_nil, by simp, by simp, fun x hx => ⟨hs x hx, .inl hx⟩, fun x hx => .inr hx, by simp, by simp; omega⟩
    rintro n ψ g2 K ⟨rfl, due, seen, kv, t4, t5, rfl, ek, hnd, rfl, i1, i2, i3, i4, i5⟩ hK
    have hsl : seen.length ≤ m.rooms.length := pigeon hnd fun x hx => (i1 x hx).1
    rcases List.eq_nil_or_concat due with rfl | ⟨init, here, hdu⟩
    · simp
      refine hn _ _ ⟨rfl, seen, kv, _, _, _, rfl, ek, fun r => ⟨fun h => (i1 r h).2, fun h => ?_⟩⟩
      have all : ∀ y, y ∈ s → y ∈ seen := fun y hy => (i3 y hy).elim id (nomatch ·)
      rcases h with h | ⟨v, hv, hr⟩
      · exact all r h
      · induction hr with
        | one st => exact (i4 _ (all _ hv) _ st).elim id (nomatch ·)
        | snoc _ st ih => exact (i4 _ ih _ st).elim id (nomatch ·)
    · rw [List.concat_eq_append] at hdu
      subst hdu
      obtain ⟨hin, hled⟩ := i2 here (by simp)
      have inS : (D.str here ∈ kv.map (·.1)) ↔ here ∈ seen := by rw [ek]; exact mem_T
      simp at i5
      simp
      rw [s_sSeq]; simp
      by_cases c : here ∈ seen
      · simp [inS, c]
        refine now (hK ((m.rooms.length - seen.length) * (m.doors.length + 1) + init.length) _ _ (by simp) ⟨rfl, init, seen, kv, _, _, rfl, ek, hnd, rfl, i1, fun x hx => i2 x (by simp [hx]), fun x hx => ?_, fun x hx y hy => ?_, by omega⟩)
        · rcases i3 x hx with h | h
          · exact .inl h
          · rcases List.mem_append.mp h with h | h
            · exact .inr h
            · rw [List.mem_singleton.mp h]; exact .inl c
        · rcases i4 x hx y hy with h | h
          · exact .inl h
          · rcases List.mem_append.mp h with h | h
            · exact .inr h
            · rw [List.mem_singleton.mp h]; exact .inl c
      · have f5' : (seen ++ [here]).Nodup := nodup_snoc hnd c
        have hl' := pigeon f5' fun x hx => (List.mem_append.mp hx).elim (fun h => (i1 x h).1) fun h => by rw [List.mem_singleton.mp h]; exact hin
        simp at hl'
        have hk9 : kv.length < most := by
          have : kv.length = seen.length := by have := congrArg List.length ek; simpa [T] using this
          omega
        have hnk : D.str here ∉ kv.map (·.1) := fun z => c (inS.mp z)
        have hmul : seen.length * m.doors.length ≤ 200 * 3900 := Nat.mul_le_mul (by omega) (by omega)
        have hol := out_len m.doors here
        simp [inS, c]
        rw [s_sSeq]; simp [hk9, putK_new _ _ _ hnk, hM.ins (f := "doors_from") rfl]
        refine call_of ⟨p, m, here⟩ ⟨rfl, hM, hin⟩ ?_
        rintro r g3 ⟨rfl, rfl⟩
        simp
        refine for_map dr (outOf m.doors here) (fun done ψ g => g = g3 ∧ ∃ t5, ψ = [some (.d (.ref p)), some s1, some (.own (.dic false (kv ++ [(.str here, .bl true)]))), some (.own (.lst (T (init ++ (done.filter isSt).map Dr.o)))), some (.d (.str here)), t5]) ?_ ?_ _ _ ⟨rfl, t5, by simp⟩
        · rintro done d rest ed ψ g4 K2 ⟨rfl, t5, rfl⟩ hK2
          have hfl := List.length_filter_le isSt done
          have hdl2 : done.length ≤ (outOf m.doors here).length := by rw [ed]; simp
          have hlm : init.length + (done.filter isSt).length < most := by omega
          by_cases c1 : d.s = [wStill]
          · simp [c1, hlm]
            exact now (hK2 _ _ ⟨rfl, _, by simp [isSt, c1, T]; rfl⟩)
          · simp [c1]
            exact now (hK2 _ _ ⟨rfl, _, by simp [isSt, c1, T]; rfl⟩)
        · rintro ψ g4 ⟨rfl, t5, rfl⟩
          have hfl := List.length_filter_le isSt (outOf m.doors here)
          have hled2 : ∀ y, Still m.doors here y → Led m s y := fun y st => by
            rcases hled with h | ⟨v, hv, hr⟩
            · exact .inr ⟨here, h, .one st⟩
            · exact .inr ⟨v, hv, .snoc hr st⟩
          refine now (hK ((m.rooms.length - (seen ++ [here]).length) * (m.doors.length + 1) + (init ++ ((outOf m.doors here).filter isSt).map Dr.o).length) _ _ ?_ ⟨rfl, init ++ ((outOf m.doors here).filter isSt).map Dr.o, seen ++ [here], kv ++ [(.str here, .bl true)], _, _, rfl, by simp [ek], f5', rfl, fun x hx => ?_, fun x hx => ?_, fun x hx => ?_, fun x hx y hy => ?_, ?_⟩)
          · simp
            have : m.rooms.length - seen.length = (m.rooms.length - (seen.length + 1)) + 1 := by omega
            rw [this, Nat.add_mul]
            omega
          · rcases List.mem_append.mp hx with h | h
            · exact i1 x h
            · rw [List.mem_singleton.mp h]; exact ⟨hin, hled⟩
          · rcases List.mem_append.mp hx with h | h
            · exact i2 x (by simp [h])
            · have st := still_out.mpr h
              have st' := st
              obtain ⟨d, h1, _, _, rfl⟩ := st
              exact ⟨(ok.en d h1).2, hled2 _ st'⟩
          · rcases i3 x hx with h | h
            · exact .inl (by simp [h])
            · rcases List.mem_append.mp h with h | h
              · exact .inr (by simp [h])
              · exact .inl (by simp [List.mem_singleton.mp h])
          · rcases List.mem_append.mp hx with h | h
            · rcases i4 x h y hy with h | h
              · exact .inl (by simp [h])
              · rcases List.mem_append.mp h with h | h
                · exact .inr (by simp [h])
                · exact .inl (by simp [List.mem_singleton.mp h])
            · rw [List.mem_singleton.mp h] at hy
              exact .inr (List.mem_append_right _ (still_out.mp hy))
          · simp [Nat.add_mul]; omega
  · rintro ψ g2 ⟨rfl, seen, kv, t3, t4, t5, rfl, ek, hseen⟩
    have inS : ∀ w : List Nat, (D.str w ∈ kv.map (·.1)) ↔ w ∈ seen := fun w => by rw [ek]; exact mem_T
    simp [hM.ins (f := "rooms") rfl]
    refine call_of ⟨p, m⟩ ⟨rfl, hM⟩ ?_
    rintro r g3 ⟨rfl, rfl⟩
    simp [lendAll, lend, wipe]
    refine comp_map D.str (fun w => decide (w ∈ seen)) D.str m.rooms (by omega) ?_ ?_
    · intro w hw acc K ha h1 h2
      by_cases c : w ∈ seen
      · simp [inS, c, ha]
        exact h1 (by simp [c])
      · simp [inS, c]
        exact h2 (by simp [c])
    · simp
      refine ret_now (hq _ _ ⟨rfl, ?_⟩)
      have : m.rooms.filter (fun w => decide (w ∈ seen)) = closed m s := List.filter_congr fun x _ => by
        rw [decide_eq_decide]; exact hseen x
      rw [this]
end Pd
set_option linter.all false
set_option maxRecDepth 10000
namespace Pd
/-! good machines; the first face, and what stands behind a sign -/
structure GM (m : Mch) (mo : Nat) : Prop where
  a0 : m.asks ≠ []
  al : m.asks.length ≤ 4
  and : m.asks.Nodup
  av : ∀ w ∈ m.asks, isName w = true
  s0 : m.says ≠ []
  sl : m.says.length ≤ 4
  snd : m.says.Nodup
  sv : ∀ w ∈ m.says, isName w = true ∧ w ∉ m.asks
  r0 : m.rooms ≠ []
  rl : m.rooms.length ≤ mo
  rnd : m.rooms.Nodup
  rv : ∀ w ∈ m.rooms, isName w = true
  nd : m.doors.Nodup
  ok : ∀ d ∈ m.doors, okDoor m.asks m.says m.rooms d = true
  two : ∀ d ∈ m.doors, Two d.s
  loose : ∀ x, ¬ Reach m.doors x x
  dl : m.doors.length ≤ 1900
theorem MdOk.gm {m : Mch} {mo : Nat} {down : Bool} (h : MdOk m mo down) (hm : mo ≤ 150) : GM m mo :=
  ⟨h.a0, h.al, h.and, h.av, h.s0, h.sl, h.snd, h.sv, h.r0, h.rl, h.rnd, h.rv, h.dz.nd, h.dz.ok, h.dz.two, h.dz.loose h.rnd, by have := h.dl; have := h.rl; omega⟩
theorem GM.good {m : Mch} {mo : Nat} (h : GM m mo) (hm : mo ≤ 150) : badM m.asks m.says m.rooms m.doors = none := by
  have h1 : badPart m.asks m.says m.rooms = none := by
    have e1 := firstWrong_ok (m := 4) (others := []) h.a0 h.al h.and fun w hw => ⟨h.av w hw, by simp⟩
    have e2 := firstWrong_ok (m := 4) (others := m.asks) h.s0 h.sl h.snd h.sv
    have e3 := firstWrong_ok (m := 150) (others := []) h.r0 (Nat.le_trans h.rl hm) h.rnd fun w hw => ⟨h.rv w hw, by simp⟩
    simp [badPart, e1, e2, e3]
  have h2 := wrongDoor_ok (ds := m.doors) (by have := h.dl; omega) h.nd h.ok
  have h3 := roundAt_none h.loose m.rooms 0
  unfold badM
  rw [h1, h2, h3]
theorem GM.bd {m : Mch} {mo : Nat} (h : GM m mo) (hm : mo ≤ 150) : Bd m := by
  have h8 := most_is
  have n : ∀ {w : List Nat}, isName w = true → w.length ≤ most := fun e => by have := isName_len e; omega
  have := h.al; have := h.sl; have := h.rl; have := h.dl
  exact ⟨by omega, by omega, by omega, by omega, fun w hw => n (h.av w hw), fun w hw => n (h.sv w hw).1, fun w hw => n (h.rv w hw), h.two⟩
theorem GM.mok {m : Mch} {mo : Nat} (h : GM m mo) (hm : mo ≤ 150) : MOk m :=
  ⟨h.rnd, fun d hd => let ⟨a, b, _⟩ := okDoor_in (h.ok d hd); ⟨a, b⟩, h.two, by have := h.rl; omega, by have := h.dl; omega⟩
theorem GM.sign {m : Mch} {mo : Nat} (h : GM m mo) {d : Dr} (hd : d ∈ m.doors) : isSign m.asks m.says d.s = true := (okDoor_in (h.ok d hd)).2.2
structure Ff where
  p : Nat
  m : Mch
def d_ff : Sg Ff := ⟨fun x ss g => ss = [.d (.ref x.p)] ∧ MachD g x.p x.m ∧ MOk x.m, fun x g r g' => g' = g ∧ r = .d (.tup (T (closed x.m (x.m.rooms.take 1)))), fun _ _ _ _ => False⟩
theorem k_ff : Keeps d_ff.wp (b_first_face d_still.wp d_roomsD.wp) 1 := by
  rintro ss g E Q ⟨⟨p, m⟩, ⟨rfl, hM, ok⟩, hq, _⟩
  have hrl := ok.rl
  simp only at hrl
  simp [b_first_face, begin_, hM.ins (f := "rooms") rfl]
  refine call_of ⟨p, m⟩ ⟨rfl, hM⟩ ?_
  rintro r g1 ⟨rfl, rfl⟩
  simp
  refine call_of ⟨p, m, m.rooms.take 1⟩ ⟨⟨_, rfl, by simp [List.map_take]⟩, hM, ok, fun w hw => List.mem_of_mem_take hw, by simp only [List.length_take]; omega⟩ ?_
  rintro r g2 ⟨rfl, rfl⟩
  simp
  exact ret_now (hq _ _ ⟨rfl, rfl⟩)
def led (m : Mch) (f : List (List Nat)) (s : List (List Nat)) : List (List Nat) := f.flatMap fun r => ((outOf m.doors r).filter fun d => decide (d.s = s)).map Dr.o
theorem mem_led {m : Mch} {f s : List (List Nat)} {y : List Nat} : y ∈ led m f s ↔ ∃ d ∈ m.doors, d.r ∈ f ∧ d.s = s ∧ d.o = y := by
  unfold led outOf
  rw [List.mem_flatMap]
  constructor
  · rintro ⟨r, hr, h⟩
    obtain ⟨d, h1, rfl⟩ := List.mem_map.mp h
    obtain ⟨h2, h3⟩ := List.mem_filter.mp h1
    obtain ⟨h4, h5⟩ := List.mem_filter.mp h2
    exact ⟨d, h4, of_decide_eq_true h5 ▸ hr, of_decide_eq_true h3, rfl⟩
  · rintro ⟨d, h1, h2, h3, rfl⟩
    exact ⟨d.r, h2, List.mem_map_of_mem (List.mem_filter.mpr ⟨List.mem_filter.mpr ⟨h1, by simp⟩, by simp [h3]⟩)⟩
theorem led_len (m : Mch) (f s : List (List Nat)) : (led m f s).length ≤ f.length * m.doors.length := by
  induction f with
  | nil => simp [led]
  | cons r f ih =>
    have e : led m (r :: f) s = ((outOf m.doors r).filter fun d => decide (d.s = s)).map Dr.o ++ led m f s := by simp [led]
    have := out_len m.doors r
    have := List.length_filter_le (fun d : Dr => decide (d.s = s)) (outOf m.doors r)
    rw [e, List.length_append, List.length_map, List.length_cons, Nat.add_mul]
    omega
noncomputable def behind (m : Mch) (f s : List (List Nat)) : List (List Nat) := if s = [wHush] then f.filter (quietB m) else closed m (led m f s)
theorem behind_sub {m : Mch} {f s : List (List Nat)} (h : ∀ w ∈ f, w ∈ m.rooms) : ∀ w ∈ behind m f s, w ∈ m.rooms := fun w hw => by
  unfold behind at hw
  split at hw
  · exact h w (List.mem_filter.mp hw).1
  · exact (mem_closed.mp hw).1
structure Bh where
  p : Nat
  m : Mch
  f : List (List Nat)
  s : List (List Nat)
def d_behind : Sg Bh := ⟨fun x ss g => ss = [.d (.ref x.p), .d (.tup (T x.f)), .d (.tup (T x.s))] ∧ MachD g x.p x.m ∧ MOk x.m ∧ (∀ w ∈ x.f, w ∈ x.m.rooms) ∧ x.f.length ≤ 200,
  fun x g r g' => g' = g ∧ r = .d (.tup (T (behind x.m x.f x.s))), fun _ _ _ _ => False⟩
theorem k_behind : Keeps d_behind.wp (b_face_behind d_quiet.wp d_from.wp d_still.wp) 6 := by
  rintro ss g E Q ⟨⟨p, m, f, s⟩, ⟨rfl, hM, ok, hf, hl⟩, hq, _⟩
  have h8 := most_is
  have hrl := ok.rl
  have hdl := ok.dl
  simp only at hrl hdl hf hl
  simp [b_face_behind, begin_]
  rw [s_sSeq]
  by_cases c : s = [wHush]
  · simp [c, lendAll, lend, wipe]
    refine comp_map D.str (quietB m) D.str f (by omega) ?_ ?_
    · intro w hw acc K ha h1 h2
      simp [hM.ins (f := "is_quiet") rfl]
      refine call_of ⟨p, m, w⟩ ⟨rfl, hM, ok, hf w hw⟩ ?_
      rintro r g1 ⟨rfl, rfl⟩
      cases b : quietB m w with
      | true => simp [b, ha]; exact h1 b
      | false => simp [b]; exact h2 b
    · simp
      exact ret_now (hq _ _ ⟨rfl, by simp only [behind]; rw [if_pos c]⟩)
  · simp [c]
    rw [s_sSeq]; simp
    refine seq_of (fun ψ g2 => g2 = g ∧ ∃ t4 t5, ψ = [some (.d (.ref p)), some (.d (.tup (T f))), some (.d (.tup (T s))), some (.own (.lst (T (led m f s)))), t4, t5]) (fun nx hn => ?_) ?_
    · simp
      refine for_map D.str f (fun done ψ g2 => g2 = g ∧ ∃ t4 t5, ψ = [some (.d (.ref p)), some (.d (.tup (T f))), some (.d (.tup (T s))), some (.own (.lst (T (led m done s)))), t4, t5]) ?_ ?_ _ _ ⟨rfl, _, _, rfl⟩
      · rintro done r rest ed ψ g2 K ⟨rfl, t4, t5, rfl⟩ hK
        have hll := led_len m done s
        have hdn : done.length < f.length := by rw [ed]; simp
        have hmul : done.length * m.doors.length ≤ 200 * 3900 := Nat.mul_le_mul (by omega) hdl
        have hol := out_len m.doors r
        simp [hM.ins (f := "doors_from") rfl]
        refine call_of ⟨p, m, r⟩ ⟨rfl, hM, hf r (by rw [ed]; simp)⟩ ?_
        rintro x g3 ⟨rfl, rfl⟩
        simp
        refine for_map dr (outOf m.doors r) (fun dn ψ g2 => g2 = g3 ∧ ∃ t5, ψ = [some (.d (.ref p)), some (.d (.tup (T f))), some (.d (.tup (T s))), some (.own (.lst (T (led m done s ++ (dn.filter fun d => decide (d.s = s)).map Dr.o)))), some (.d (.str r)), t5]) ?_ ?_ _ _ ⟨rfl, _, by simp; rfl⟩
        · rintro dn d rs e2 ψ g4 K2 ⟨rfl, t5, rfl⟩ hK2
          have h3 := List.length_filter_le (fun d : Dr => decide (d.s = s)) dn
          have h4 : dn.length ≤ (outOf m.doors r).length := by rw [e2]; simp
          have hlm : (led m done s).length + (dn.filter fun d => decide (d.s = s)).length < most := by omega
          by_cases c1 : d.s = s
          · simp [c1, hlm]
            exact now (hK2 _ _ ⟨rfl, _, by simp [c1, T]; rfl⟩)
          · simp [c1]
            exact now (hK2 _ _ ⟨rfl, _, by simp [c1, T]; rfl⟩)
        · rintro ψ g4 ⟨rfl, t5, rfl⟩
          exact now ⟨by simp, hK _ _ ⟨rfl, some (.d (.str r)), t5, by simp [led]⟩⟩
      · rintro ψ g2 ⟨rfl, t4, t5, rfl⟩
        exact hn _ _ ⟨rfl, _, _, rfl⟩
    · rintro ψ g2 ⟨rfl, t4, t5, rfl⟩
      have hll := led_len m f s
      have hmul : f.length * m.doors.length ≤ 200 * 3900 := Nat.mul_le_mul hl hdl
      simp
      refine call_of ⟨p, m, led m f s⟩ ⟨⟨_, rfl, by simp⟩, hM, ok, fun w hw => ?_, by simp only; omega⟩ ?_
      · obtain ⟨d, h1, _, _, rfl⟩ := mem_led.mp hw
        exact (ok.en d h1).2
      rintro r g3 ⟨rfl, rfl⟩
      simp
      exact ret_now (hq _ _ ⟨rfl, by simp only [behind]; rw [if_neg c]⟩)
end Pd
set_option linter.all false
set_option maxRecDepth 10000
namespace Pd
/-! a machine of told lists; some rooms; the second comparison -/
theorem MachD.fr {g0 g : G} {a p : Nat} {m : Mch} (h : MachD g0 p m) (F : Fr g0 g a) (p0 : Pen g0 a) : MachD g p m := by
  obtain ⟨q1, q2, q3, q4, e1, e2, e3, e4, kvs, e5, e6, e7⟩ := h
  obtain ⟨c, at_, v, cs, n, e, _⟩ := p0
  have na : ∀ {b : Nat} {u : O}, g0 b = some u → (∀ xs, u ≠ .lst (.ref c :: xs)) → g b = some u := fun {b u} e' hu => F.fr b u e' fun z => by
    rw [z, e] at e'; cases e'; exact hu _ rfl
  have nT : ∀ ws xs, O.lst (T ws) ≠ .lst (.ref c :: xs) := fun ws xs z => by
    cases ws with
    | nil => cases z
    | cons => cases z
  have nD : ∀ ds xs, O.lst (Ds ds) ≠ .lst (.ref c :: xs) := fun ws xs z => by
    cases ws with
    | nil => cases z
    | cons => cases z
  refine ⟨q1, q2, q3, q4, na e1 (fun _ z => by cases z), na e2 (nT _), na e3 (nT _), na e4 (nD _), kvs, na e5 (fun _ z => by cases z), e6, fun w hw => ?_⟩
  obtain ⟨a, f1, f2⟩ := e7 w hw
  exact ⟨a, f1, na f2 (nD _)⟩
structure Lm where
  a : Nat × Nat × Nat × Nat
  m : Mch
def d_mach : Sg Lm := ⟨fun x ss g => ss = [.d (.tup [.ref x.a.1, .ref x.a.2.1, .ref x.a.2.2.1, .ref x.a.2.2.2])] ∧ g x.a.1 = some (.lst (T x.m.asks)) ∧ g x.a.2.1 = some (.lst (T x.m.says)) ∧ g x.a.2.2.1 = some (.lst (T x.m.rooms)) ∧ g x.a.2.2.2 = some (.lst (Ds x.m.doors)) ∧ Bd x.m ∧ badM x.m.asks x.m.says x.m.rooms x.m.doors = none,
  fun x g r g' => ∃ p, r = .d (.ref p) ∧ MachD g' p x.m ∧ g p = none ∧ ∀ a u, g a = some u → g' a = some u, fun _ _ _ _ => False⟩
theorem k_mach : Keeps d_mach.wp (b__law_machine d_init.wp) 1 := by
  rintro ss g E Q ⟨⟨⟨a1, a2, a3, a4⟩, m⟩, ⟨rfl, e1, e2, e3, e4, B, hg⟩, hq, _⟩
  simp only at e1 e2 e3 e4 B hg
  have := B.a; have := B.s; have := B.r; have := B.d
  simp [b__law_machine, begin_, e1, e2, e3, e4]
  intro p hp
  refine call_of ⟨p, m.asks, m.says, m.rooms, m.doors⟩ ⟨⟨_, _, _, _, rfl, by simp, by simp, by simp, by simp⟩, G.upd_same, ⟨by simp only; omega, by simp only; omega, by simp only; omega, by simp only; omega⟩, B.aw, B.sw, B.rw, B.two⟩ ?_ ?_
  · rintro r g1 ⟨rfl, _, hM, k⟩
    simp
    refine ret_now (hq _ _ ⟨p, rfl, hM, hp, fun a u e => ?_⟩)
    have hn : a ≠ p := fun z => by rw [z, hp] at e; cases e
    exact k a u (by rw [G.upd_ne hn]; exact e) hn
  · rintro z g1 ⟨_, part, n, hb, _⟩
    simp only at hb
    rw [hg] at hb; cases hb
structure Sm where
  a : Nat
  rooms : List (List Nat)
def d_some : Sg Sm := ⟨fun x ss g => (∃ s1, ss = [.d (.ref x.a), s1] ∧ lookS g s1 = some (.o (.lst (T x.rooms)))) ∧ Pen g x.a ∧ x.rooms.length ≤ 4000,
  fun x g r g' => Fr g g' x.a ∧ ∃ f, r = .d (.tup (T f)) ∧ f.Sublist x.rooms, fun _ _ _ _ => False⟩
theorem k_some : Keeps d_some.wp (b__law_some d_anew.wp d_take.wp) 3 := by
  rintro ss g E Q ⟨⟨a, rooms⟩, ⟨⟨s1, rfl, h1⟩, p0, hl⟩, hq, _⟩
  have h8 := most_is
  simp only at h1 p0 hl
  simp [b__law_some, begin_]
  rw [s_sSeq]; simp
  refine call_of a ⟨rfl, p0⟩ ?_
  rintro r g1 ⟨rfl, p1, k1⟩
  have F1 := (Fr.refl p0).take p1 k1
  have h1' := F1.lookT p0 h1
  simp [h1', lendAll, wipe, lend_some, lend_none, lend]
  refine comp_mapI D.str rooms (fun done acc g2 => Fr g g2 a ∧ ∃ f, acc = T f ∧ f.Sublist done) ?_ ?_ _ ⟨F1, [], rfl, List.nil_sublist _⟩
  · rintro done w rest ed acc g2 K ⟨F2, f, rfl, hf⟩ hK
    have hfl := hf.length_le
    have hdl : done.length ≤ rooms.length := by rw [ed]; simp
    have hlm : f.length < most := by omega
    simp
    refine takeF F2 (by omega) (by omega) fun x g3 x0 x1 F3 b3 => ?_
    have h3 := F3.lookT p0 h1
    by_cases c : x = 1
    · simp [c, hlm, h3]
      exact hK _ _ ⟨F3, f ++ [w], by simp [T], hf.append (List.Sublist.refl _)⟩
    · simp [c, h3]
      exact hK _ _ ⟨F3, f, rfl, hf.trans (List.sublist_append_left _ _)⟩
  · rintro acc g2 ⟨F2, f, rfl, hf⟩
    simp
    exact ret_now (hq _ _ ⟨F2, f, rfl, hf⟩)
@[simp] theorem ne_BB (g : G) (a b : Bool) : oNe g (.d (.bl a)) (.d (.bl b)) = some (.d (.bl (!decide (a = b)))) := by cases a <;> cases b <;> rfl
theorem den_tup {n : Nat} {g : G} {s : List (List Nat)} (h : s.length < 4000) : denC (den (n + 1) g) (.d (.tup (T s))) = some (.tup (T s)) := by
  show (if (T s).length < 4000 then (denL (den (n + 1) g) (T s)).map D.tup else none) = _
  rw [if_pos (by simpa using h), den_T (n + 1) g (by omega)]; rfl
theorem k_same2 {φ : SpD} (n : Nat) (hφ : ∀ (g : G) (x y v : D) (E : X → G → Prop) (Q : R → G → Prop), den n g x = some v → den n g y = some v → Q (.d (.bl true)) g → φ [.d x, .d y] g E Q) : Keeps (d_same n).wp (b_same2 φ) 4 := by
  rintro ss g E Q ⟨_, ⟨s1, s2, c1, c2, v, rfl, h1, h2, v1, v2⟩, hq, _⟩
  have h8 := most_is
  have fin : ∃ g2, G.le g2 g ∧ Q (.d (.bl true)) g2 := ret_now (hq _ _ ⟨rfl, rfl⟩)
  have hn1 := fun ψ => isNon_lk (ψ := ψ) h1
  have hn2 := fun ψ => isNon_lk (ψ := ψ) h2
  have loop : ∀ (xs ys zs : List D) (ok : Psi → G → Prop) (Dn : Ends), xs.length < 4000 → denL (den n g) xs = some zs → denL (den n g) ys = some zs → (∀ t3 t4, ok [some s1, some s2, t3, t4] g) → (∀ t3 t4, Dn.nx [some s1, some s2, t3, t4] g) →
      ∀ t3 t4, forL (gTup [gName 2, gName 3]) (sIf (tNot (tV (eCall φ [false, false] (aCons (eVar 2) (aCons (eVar 3) aNil))))) (sRet (eC (.bl false))) sNx) Dn ok (pairUp xs ys) [some s1, some s2, t3, t4] g := fun xs ys zs ok Dn hl e1 e2 hok hnx t3 t4 => by
    refine for_ind (fun rest ψ g' => g' = g ∧ ∃ (xs ys zs : List D) (t3 t4 : Option Sl), rest = pairUp xs ys ∧ denL (den n g) xs = some zs ∧ denL (den n g) ys = some zs ∧ ψ = [some s1, some s2, t3, t4]) ?_ ?_ _ _ _ ⟨rfl, xs, ys, zs, t3, t4, rfl, e1, e2, rfl⟩
    · rintro x rs ψ g' K ⟨rfl, xs, ys, zs, t3, t4, e3, e4, e5, rfl⟩ hK
      cases xs with
      | nil => cases e3
      | cons a xs =>
        cases ys with
        | nil => cases e3
        | cons b ys =>
          obtain ⟨rfl, rfl⟩ := List.cons.inj e3
          obtain ⟨y1, zs1, f1, f2, rfl⟩ := denL_cons e4
          obtain ⟨y2, zs2, f3, f4, e6⟩ := denL_cons e5
          obtain ⟨rfl, rfl⟩ := List.cons.inj e6
          simp
          refine hφ _ _ _ _ _ _ f1 f3 ?_
          simp
          exact now ⟨hok _ _, hK _ _ ⟨rfl, xs, ys, zs1, _, _, rfl, f2, f4, rfl⟩⟩
    · rintro ψ g' ⟨rfl, xs, ys, zs, t3, t4, e3, e4, e5, rfl⟩
      exact hnx _ _
  have a := alike v1 v2
  cases a with
  | non => simp [b_same2, begin_, s_sSeq, h1, h2, hn1, hn2]; exact fin
  | bl b => cases b <;> simp [b_same2, begin_, s_sSeq, h1, h2, hn1, hn2] <;> exact fin
  | int b => simp [b_same2, begin_, s_sSeq, h1, h2, hn1, hn2]; exact fin
  | str b => simp [b_same2, begin_, s_sSeq, h1, h2, hn1, hn2]; exact fin
  | tt xs ys zs hl e1 e2 =>
    have e3 : xs.length = ys.length := (denL_len e1).trans (denL_len e2).symm
    simp [b_same2, begin_, s_sSeq, h1, h2, hn1, hn2, e3]
    refine loop xs ys zs _ _ hl e1 e2 (fun _ _ => ?_) (fun _ _ => ?_) _ _
    · simp [h1, h2]
    · simp; exact fin
  | ll xs ys zs hl e1 e2 =>
    have e3 : xs.length = ys.length := (denL_len e1).trans (denL_len e2).symm
    simp [b_same2, begin_, s_sSeq, h1, h2, hn1, hn2, e3]
    refine loop xs ys zs _ _ hl e1 e2 (fun _ _ => ?_) (fun _ _ => ?_) _ _
    · simp [h1, h2]
    · simp; exact fin
  | lr xs ys zs hl e1 e2 =>
    have e3 : xs.length = ys.length := (denL_len e1).trans (denL_len e2).symm
    simp [b_same2, begin_, s_sSeq, h1, h2, hn1, hn2, e3]
    refine loop xs ys zs _ _ hl e1 e2 (fun _ _ => ?_) (fun _ _ => ?_) _ _
    · simp [h1, h2]
    · simp; exact fin
  | rl xs ys zs hl e1 e2 =>
    have e3 : xs.length = ys.length := (denL_len e1).trans (denL_len e2).symm
    simp [b_same2, begin_, s_sSeq, h1, h2, hn1, hn2, e3]
    refine loop xs ys zs _ _ hl e1 e2 (fun _ _ => ?_) (fun _ _ => ?_) _ _
    · simp [h1, h2]
    · simp; exact fin
  | rr xs ys zs hl e1 e2 =>
    have e3 : xs.length = ys.length := (denL_len e1).trans (denL_len e2).symm
    simp [b_same2, begin_, s_sSeq, h1, h2, hn1, hn2, e3]
    refine loop xs ys zs _ _ hl e1 e2 (fun _ _ => ?_) (fun _ _ => ?_) _ _
    · simp [h1, h2]
    · simp; exact fin
theorem k_same20 : Keeps (d_same 0).wp (b_same2 fun _ _ _ _ => False) 4 := k_same2 0 fun g x y v E Q h => by cases h
theorem k_same2S (n : Nat) : Keeps (d_same (n + 1)).wp (b_same2 (d_same n).wp) 4 := k_same2 (n + 1) fun g x y v E Q h h' k => by
  obtain ⟨c1, e1, e2⟩ := Option.bind_eq_some_iff.mp h
  obtain ⟨c2, e3, e4⟩ := Option.bind_eq_some_iff.mp h'
  exact call_of () ⟨_, _, c1, c2, v, rfl, e1, e3, e2, e4⟩ fun r g' ⟨a, b⟩ => by rw [a, b]; exact k
end Pd
set_option linter.all false
set_option maxRecDepth 10000
namespace Pd
/-! more still doors -/
theorem Reach.trans {ds : List Dr} {a b c : List Nat} (h : Reach ds a b) (k : Reach ds b c) : Reach ds a c := by
  induction k with
  | one s => exact .snoc h s
  | snoc _ s ih => exact .snoc ih s
theorem still_put {ds : List Dr} {r o a b : List Nat} (h : Still (put ds ⟨r, [wStill], o⟩) a b) : Still ds a b ∨ a = r ∧ b = o := by
  obtain ⟨d, h1, h2, h3, h4⟩ := h
  unfold put at h1
  split at h1
  · exact .inl ⟨d, h1, h2, h3, h4⟩
  · rcases List.mem_append.mp h1 with h | h
    · exact .inl ⟨d, h, h2, h3, h4⟩
    · rw [List.mem_singleton] at h
      subst h
      exact .inr ⟨h2.symm, h4.symm⟩
theorem reach_put {ds : List Dr} {r o a b : List Nat} (h : Reach (put ds ⟨r, [wStill], o⟩) a b) : Reach ds a b ∨ (a = r ∨ Reach ds a r) ∧ (b = o ∨ Reach ds o b) := by
  induction h with
  | one s =>
    rcases still_put s with s | ⟨rfl, rfl⟩
    · exact .inl (.one s)
    · exact .inr ⟨.inl rfl, .inl rfl⟩
  | snoc _ s ih =>
    rcases still_put s with st | ⟨rfl, rfl⟩
    · rcases ih with h | ⟨h1, h2⟩
      · exact .inl (.snoc h st)
      · rcases h2 with e | h2
        · exact .inr ⟨h1, .inr (.one (e ▸ st))⟩
        · exact .inr ⟨h1, .inr (.snoc h2 st)⟩
    · rcases ih with h | ⟨h1, h2⟩
      · exact .inr ⟨.inr h, .inl rfl⟩
      · exact .inr ⟨h1, .inl rfl⟩
theorem loose_put {ds : List Dr} {r o : List Nat} (h : ∀ x, ¬ Reach ds x x) (hn : r ≠ o) (hr : ¬ Reach ds o r) (x : List Nat) : ¬ Reach (put ds ⟨r, [wStill], o⟩) x x := fun z => by
  rcases reach_put z with z | ⟨h1, h2⟩
  · exact h x z
  · rcases h1 with rfl | h1
    · rcases h2 with h2 | h2
      · exact hn h2
      · exact hr h2
    · rcases h2 with rfl | h2
      · exact hr h1
      · exact hr (h2.trans h1)
theorem GM.put {m : Mch} {mo : Nat} (h : GM m mo) {d : Dr} (h1 : okDoor m.asks m.says m.rooms d = true) (h2 : Two d.s) (h3 : ∀ x, ¬ Reach (put m.doors d) x x) (h4 : m.doors.length + 1 ≤ 1900) : GM ⟨m.asks, m.says, m.rooms, Pd.put m.doors d⟩ mo := by
  by_cases c : d ∈ m.doors
  · have : Pd.put m.doors d = m.doors := if_pos c
    rw [this]; exact h
  · have e : Pd.put m.doors d = m.doors ++ [d] := if_neg c
    refine ⟨h.a0, h.al, h.and, h.av, h.s0, h.sl, h.snd, h.sv, h.r0, h.rl, h.rnd, h.rv, ?_, ?_, ?_, h3, ?_⟩
    · rw [e]; exact nodup_snoc h.nd c
    · intro x hx
      rw [e] at hx
      rcases List.mem_append.mp hx with z | z
      · exact h.ok x z
      · rw [List.mem_singleton.mp z]; exact h1
    · intro x hx
      rw [e] at hx
      rcases List.mem_append.mp hx with z | z
      · exact h.two x z
      · rw [List.mem_singleton.mp z]; exact h2
    · have := put_len m.doors d; simp only; omega
theorem putSt {g0 g : G} {a i : Nat} {sd : Sl} {ds : List Dr} {ψ : Psi} {r o : List Nat} {s : List (List Nat)} {K : R → Psi → G → Prop} {E : X → Psi → G → Prop} (hF : Fr g0 g a) (hL : LS g0 g sd ds) (hl : ds.length ≤ 1000) (hi : ψ[i]? = some (some sd))
    (k : ∀ sd' g', Fr g0 g' a → LS g0 g' sd' (put ds ⟨r, s, o⟩) → K (.d .non) (ψ.set i (some sd')) g') :
    toDS (some (some sd)) i ψ g fun x ψ g => giveAll [true] [.d (.tup [.str r, .tup (s.map D.str), .str o])] ψ g fun rs ψ g => optQ (lendRs ψ (.d x :: rs)) fun ss => callQ d_put.wp ss g (fun x g' => E x ψ g') fun r g' => K r ψ g' := by
  refine toDS_LS hL hF hi fun p g' n e kp off => ?_
  simp
  refine call_of ⟨p, ds, ⟨r, s, o⟩⟩ ⟨rfl, e, by simp; omega⟩ ?_
  rintro z g2 ⟨rfl, e2, hb⟩
  exact k _ _ (off g2 hb) (.inr ⟨p, rfl, e2, n, put_ne _ _⟩)
structure Stl where
  a : Nat
  mo : Nat
  a1 : Nat
  a2 : Nat
  a3 : Nat
  a4 : Nat
  m : Mch
def d_stiller : Sg Stl := ⟨fun x ss g => ss = [.d (.ref x.a), .d (.tup [.ref x.a1, .ref x.a2, .ref x.a3, .ref x.a4])] ∧ Pen g x.a ∧ g x.a3 = some (.lst (T x.m.rooms)) ∧ g x.a4 = some (.lst (Ds x.m.doors)) ∧ GM x.m x.mo ∧ x.mo ≤ 26 ∧ x.m.doors.length ≤ 12 * x.mo,
  fun x g r g' => Fr g g' x.a ∧ ∃ a4' ds, r = .d (.tup [.ref x.a1, .ref x.a2, .ref x.a3, .ref a4']) ∧ g' a4' = some (.lst (Ds ds)) ∧ g a4' = none ∧ GM ⟨x.m.asks, x.m.says, x.m.rooms, ds⟩ x.mo, fun _ _ _ _ => False⟩
theorem k_stiller : Keeps d_stiller.wp (b__law_stiller d_anew.wp d_take.wp d_stillon.wp d_put.wp) 9 := by
  rintro ss g0 E Q ⟨⟨a, mo, a1, a2, a3, a4, m⟩, ⟨rfl, p0, e3, e4, gm, hmo, hdl⟩, hq, _⟩
  have h8 := most_is
  simp only at p0 e3 e4 gm hmo hdl
  have hrl := gm.rl
  simp [b__law_stiller, begin_]
  rw [s_sSeq]; simp
  refine call_of a ⟨rfl, p0⟩ ?_
  rintro r g1 ⟨rfl, p1, k1⟩
  have F1 := (Fr.refl p0).take p1 k1
  rw [s_sSeq]; simp
  rw [s_sSeq]; simp [F1.D p0 e4]
  refine seq_of (fun ψ g => Fr g0 g a ∧ ∃ (sd : Sl) (ds : List Dr) (t6 t7 t8 : Option Sl), LS g0 g sd ds ∧ GM ⟨m.asks, m.says, m.rooms, ds⟩ mo ∧
    ψ = [some (.d (.ref a)), some (.d (.tup [.ref a1, .ref a2, .ref a3, .ref a4])), some (.d (.ref a1)), some (.d (.ref a2)), some (.d (.ref a3)), some sd, t6, t7, t8]) (fun nx hn => ?_) ?_
  · simp
    refine takeF F1 (by omega) (by omega) fun n g2 n0 n1 F2 b2 => ?_
    simp
    refine ⟨by omega, by omega, ?_⟩
    refine for_ind (fun rest ψ g => Fr g0 g a ∧ ∃ (sd : Sl) (ds : List Dr) (t6 t7 t8 : Option Sl), LS g0 g sd ds ∧ GM ⟨m.asks, m.says, m.rooms, ds⟩ mo ∧ ds.length + rest.length ≤ 12 * mo + 4 ∧
      ψ = [some (.d (.ref a)), some (.d (.tup [.ref a1, .ref a2, .ref a3, .ref a4])), some (.d (.ref a1)), some (.d (.ref a2)), some (.d (.ref a3)), some sd, t6, t7, t8]) ?_ ?_ _ _ _ ⟨F2, _, m.doors, _, _, _, .inl rfl, gm, by simp; omega, rfl⟩
    · rintro x xs ψ g3 K ⟨F3, sd, ds, t6, t7, t8, hL, hg, hl, rfl⟩ hK
      simp at hl
      have hr0 := List.length_pos_iff.mpr gm.r0
      simp
      rw [s_sSeq]; simp [F3.T p0 e3]
      refine takeF F3 (by omega) (by omega) fun i g4 i0 i1 F4 b4 => ?_
      obtain ⟨hi, ei⟩ := atI_in (xs := m.rooms) i0 i1
      simp [F4.T p0 e3, ei]
      rw [s_sSeq]; simp [F4.T p0 e3]
      refine takeF F4 (by omega) (by omega) fun j g5 j0 j1 F5 b5 => ?_
      obtain ⟨hj, ej⟩ := atI_in (xs := m.rooms) j0 j1
      simp [F5.T p0 e3, ej]
      have hL5 := (hL.take F3.pen b4).take F4.pen b5
      generalize hrm : m.rooms[i.toNat] = room
      generalize hot : m.rooms[j.toNat] = other
      have m1 : room ∈ m.rooms := hrm ▸ List.getElem_mem hi
      have m2 : other ∈ m.rooms := hot ▸ List.getElem_mem hj
      refine call_of ⟨ds, [other]⟩ ⟨⟨_, _, rfl, by simpa using hL5.look, by simp⟩, by simp only; omega, by simp⟩ ?_
      rintro r g6 ⟨rfl, ex, rfl, x1, x2, x3⟩
      simp
      split
      rotate_left
      · exact now (hK _ _ ⟨F5, sd, ds, _, _, _, hL5, hg, by omega, rfl⟩)
      · rename_i c
        have hnr : ¬ Reach ds other room := fun z => by
          have all : ∀ y, Reach ds other y → y ∈ [other] ++ ex := fun y hy => by
            induction hy with
            | one s => exact x3 _ (by simp) _ s
            | snoc _ s ih => exact x3 _ ih _ s
          have := all _ z
          simp [c] at this
        refine putSt (s := [wStill]) F5 hL5 (by omega) rfl fun sd' g7 F7 hL7 => ?_
        simp
        refine now (hK _ _ ⟨F7, sd', put ds ⟨room, [wStill], other⟩, _, _, _, hL7, hg.put (d := ⟨room, [wStill], other⟩) (by simp [okDoor, isSign, m1, m2]) (.inl rfl) (loose_put hg.loose c.1 hnr) (by simp only; omega), ?_, rfl⟩)
        have := put_len ds ⟨room, [wStill], other⟩; omega
    · rintro ψ g3 ⟨F3, sd, ds, t6, t7, t8, hL, hg, hl, rfl⟩
      exact hn _ _ ⟨F3, sd, ds, _, _, _, hL, hg, rfl⟩
  · rintro ψ g3 ⟨F3, sd, ds, t6, t7, t8, hL, hg, rfl⟩
    rcases hL with rfl | ⟨p, rfl, e, n, _⟩
    · simp
      intro p hp
      exact ret_now (hq _ _ ⟨F3.offN hp fun b hb => rfl, p, ds, rfl, G.upd_same, F3.free hp, hg⟩)
    · simp
      exact ret_now (hq _ _ ⟨F3, p, ds, rfl, e, n, hg⟩)
end Pd
set_option linter.all false
set_option maxRecDepth 10000
namespace Pd
theorem comp_all {α : Type} {tg : WG} {tt : WT} {te : WE} {ok : Psi → G → Prop} {ψ0 ψw : Psi} {Q : List D → G → Prop} {g : G} (emb out : α → D) (xs : List α) (hl : xs.length ≤ 16000000)
    (step : ∀ x ∈ xs, ∀ (acc : List D) (K : List D → G → Prop), acc.length < most → K (acc ++ [out x]) g →
      tg (emb x) ψw g fun ψ1 g => tt noX ψ1 g fun b ψ2 g => if b = true then te noX ψ2 g fun r ψ3 g => toD r ψ3 g fun d _ g => ok ψ0 g ∧ acc.length < most ∧ K (acc ++ [d]) g else ok ψ0 g ∧ K acc g)
    (fin : Q (xs.map out) g) : compL tg tt te ok ψ0 ψw (xs.map emb) [] g Q := by
  refine comp_map emb (fun _ => true) out xs hl (fun x hx acc K ha h1 _ => step x hx acc K ha (h1 rfl)) ?_
  rw [List.filter_eq_self.mpr fun _ _ => rfl]; exact fin
/-! other names for the rooms, and their order turned -/
theorem pairUp_T : ∀ (as bs : List (List Nat)), pairUp (T as) (T bs) = (as.zip bs).map fun p => D.tup [.str p.1, .str p.2]
  | [], _ => rfl
  | _ :: _, [] => rfl
  | a :: as, b :: bs => by
    show D.tup [.str a, .str b] :: pairUp (T as) (T bs) = _
    rw [pairUp_T as bs]; rfl
theorem nodup_map_on {α β : Type} {f : α → β} {xs : List α} (h : ∀ x ∈ xs, ∀ y ∈ xs, f x = f y → x = y) (nd : xs.Nodup) : (xs.map f).Nodup := by
  rw [List.Nodup, List.pairwise_map]
  exact List.Pairwise.imp_of_mem (fun {a b} ha hb hab e => hab (h a ha b hb e)) nd
def ren (ps : List (List Nat × List Nat)) (w : List Nat) : List Nat := (ps.lookup w).getD []
theorem ren_map : ∀ {as bs : List (List Nat)}, as.Nodup → as.length = bs.length → as.map (ren (as.zip bs)) = bs
  | [], [], _, _ => rfl
  | a :: as, b :: bs, nd, h => by
    obtain ⟨h1, h2⟩ := List.nodup_cons.mp nd
    have ih := ren_map h2 (by simpa using h)
    have e : as.map (ren ((a, b) :: as.zip bs)) = as.map (ren (as.zip bs)) := List.map_congr_left fun x hx => by
      unfold ren
      have : (x == a) = false := by simp; exact fun z => h1 (z ▸ hx)
      simp [List.lookup, this]
    show ren ((a, b) :: as.zip bs) a :: as.map (ren ((a, b) :: as.zip bs)) = _
    rw [e, ih]
    simp [ren, List.lookup]
theorem ren_inj {as bs : List (List Nat)} (ha : as.Nodup) (hb : bs.Nodup) (h : as.length = bs.length) {x y : List Nat} (hx : x ∈ as) (hy : y ∈ as) (e : ren (as.zip bs) x = ren (as.zip bs) y) : x = y := by
  obtain ⟨i, hi, rfl⟩ := List.mem_iff_getElem.mp hx
  obtain ⟨j, hj, rfl⟩ := List.mem_iff_getElem.mp hy
  have m := ren_map ha h
  have k : ∀ {i : Nat} (hi : i < as.length), ren (as.zip bs) as[i] = bs[i]'(h ▸ hi) := fun {i} hi => by
    have : (as.map (ren (as.zip bs)))[i]'(by simpa using hi) = bs[i]'(h ▸ hi) := by simp [m]
    rw [← this, List.getElem_map]
  rw [k hi, k hj] at e
  have := (List.getElem_inj hb).mp e
  subst this; rfl
theorem ren_mem {as bs : List (List Nat)} (ha : as.Nodup) (h : as.length = bs.length) {x : List Nat} (hx : x ∈ as) : ren (as.zip bs) x ∈ bs := by
  have := List.mem_map_of_mem (f := ren (as.zip bs)) hx
  rw [ren_map ha h] at this; exact this
abbrev kvs2 (ps : List (List Nat × List Nat)) : List (D × D) := ps.map fun p => (D.str p.1, D.str p.2)
theorem look_ren : ∀ {ps : List (List Nat × List Nat)} {w : List Nat}, w ∈ ps.map (·.1) → lookK (kvs2 ps) (.str w) = some (.str (ren ps w))
  | [], _, h => by cases h
  | (a, b) :: ps, w, h => by
    show (if D.str a = D.str w then some (D.str b) else lookK (kvs2 ps) (.str w)) = _
    by_cases c : w = a
    · subst c; simp [ren, List.lookup]
    · have c' : ¬ D.str a = D.str w := fun z => c (D.str.inj z).symm
      have : (w == a) = false := by simpa using c
      rw [if_neg c', look_ren (by simpa [c] using h)]
      simp [ren, List.lookup, this]
def renD (f : List Nat → List Nat) (d : Dr) : Dr := ⟨f d.r, d.s, f d.o⟩
theorem reach_ren {ds : List Dr} {rooms : List (List Nat)} {f : List Nat → List Nat} (hen : ∀ d ∈ ds, d.r ∈ rooms ∧ d.o ∈ rooms) (hf : ∀ x ∈ rooms, ∀ y ∈ rooms, f x = f y → x = y) {x y : List Nat} (h : Reach (ds.map (renD f)) x y) : ∃ a b, a ∈ rooms ∧ b ∈ rooms ∧ x = f a ∧ y = f b ∧ Reach ds a b := by
  have one : ∀ {x y}, Still (ds.map (renD f)) x y → ∃ a b, a ∈ rooms ∧ b ∈ rooms ∧ x = f a ∧ y = f b ∧ Still ds a b := fun {x y} ⟨d, h1, h2, h3, h4⟩ => by
    obtain ⟨d', h5, rfl⟩ := List.mem_map.mp h1
    exact ⟨d'.r, d'.o, (hen d' h5).1, (hen d' h5).2, h2.symm, h4.symm, d', h5, rfl, h3, rfl⟩
  induction h with
  | one s =>
    obtain ⟨a, b, h1, h2, h3, h4, h5⟩ := one s
    exact ⟨a, b, h1, h2, h3, h4, .one h5⟩
  | snoc _ s ih =>
    obtain ⟨a, b, h1, h2, h3, h4, h5⟩ := one s
    obtain ⟨a', b', k1, k2, k3, k4, k5⟩ := ih
    have := hf _ k2 _ h1 (k4.symm.trans h3)
    subst this
    exact ⟨a', b, k1, h2, k3, h4, .snoc k5 h5⟩
theorem GM.ren {m : Mch} {mo : Nat} (h : GM m mo) {ns rooms' : List (List Nat)} (hl : m.rooms.length = ns.length) (hn : ns.Nodup) (hv : ∀ w ∈ ns, isName w = true) (hp : rooms'.Perm ns) :
    GM ⟨m.asks, m.says, rooms', m.doors.map (renD (Pd.ren (m.rooms.zip ns)))⟩ mo := by
  have en : ∀ d ∈ m.doors, d.r ∈ m.rooms ∧ d.o ∈ m.rooms := fun d hd => let ⟨a, b, _⟩ := okDoor_in (h.ok d hd); ⟨a, b⟩
  have inj : ∀ x ∈ m.rooms, ∀ y ∈ m.rooms, Pd.ren (m.rooms.zip ns) x = Pd.ren (m.rooms.zip ns) y → x = y := fun x hx y hy e => ren_inj h.rnd hn hl hx hy e
  have hlen := hp.length_eq
  have hrl := h.rl
  have hdl := h.dl
  have hr0 := List.length_pos_iff.mpr h.r0
  refine ⟨h.a0, h.al, h.and, h.av, h.s0, h.sl, h.snd, h.sv, fun z => ?_, by simp only; omega, hp.nodup_iff.mpr hn, fun w hw => hv w (hp.mem_iff.mp hw), ?_, fun d hd => ?_, fun d hd => ?_, fun x hx => ?_, by simp only [List.length_map]; omega⟩
  · rw [show rooms' = [] from z] at hlen; simp at hlen; omega
  · refine nodup_map_on (fun x hx y hy e => ?_) h.nd
    obtain ⟨r, s, o⟩ := x
    obtain ⟨r', s', o'⟩ := y
    simp only [renD, Dr.mk.injEq] at e
    obtain ⟨e1, rfl, e3⟩ := e
    have h1 := en _ hx
    have h2 := en _ hy
    simp only at h1 h2
    rw [inj _ h1.1 _ h2.1 e1, inj _ h1.2 _ h2.2 e3]
  · obtain ⟨d, hd', rfl⟩ := List.mem_map.mp hd
    obtain ⟨h1, h2, h3⟩ := okDoor_in (h.ok d hd')
    have k := fun {x : List Nat} (hx : x ∈ m.rooms) => hp.mem_iff.mpr (ren_mem h.rnd hl hx)
    simp [okDoor, renD, k h1, k h2, h3]
  · obtain ⟨d, hd', rfl⟩ := List.mem_map.mp hd
    exact h.two d hd'
  · obtain ⟨a, b, h1, h2, h3, h4, h5⟩ := reach_ren en inj hx
    have := inj _ h1 _ h2 (h3.symm.trans h4)
    subst this
    exact h.loose _ h5
theorem turn_perm (ns : List (List Nat)) {k : Nat} (hk : 1 ≤ k) : (ns.take 1 ++ ns.drop k ++ (ns.take k).drop 1).Perm ns := by
  have e : ns.take 1 ++ ((ns.take k).drop 1 ++ ns.drop k) = ns := by
    have h1 : ns.take 1 = (ns.take k).take 1 := by rw [List.take_take, Nat.min_eq_left hk]
    rw [← List.append_assoc, h1, List.take_append_drop, List.take_append_drop]
  have : (ns.take 1 ++ ns.drop k ++ (ns.take k).drop 1).Perm (ns.take 1 ++ ((ns.take k).drop 1 ++ ns.drop k)) := by
    rw [List.append_assoc]
    exact List.Perm.append_left _ List.perm_append_comm
  rw [e] at this
  exact this
def d_renamed : Sg Stl := ⟨fun x ss g => ss = [.d (.ref x.a), .d (.tup [.ref x.a1, .ref x.a2, .ref x.a3, .ref x.a4])] ∧ Pen g x.a ∧ g x.a3 = some (.lst (T x.m.rooms)) ∧ g x.a4 = some (.lst (Ds x.m.doors)) ∧ GM x.m x.mo ∧ x.mo ≤ 26,
  fun x g r g' => Fr g g' x.a ∧ ∃ a3' a4' rooms ds, r = .d (.tup [.ref x.a1, .ref x.a2, .ref a3', .ref a4']) ∧ g' a3' = some (.lst (T rooms)) ∧ g' a4' = some (.lst (Ds ds)) ∧ g a3' = none ∧ g a4' = none ∧ GM ⟨x.m.asks, x.m.says, rooms, ds⟩ x.mo ∧ ∃ ns, x.m.rooms.length = ns.length ∧ ns.Nodup ∧ rooms.Perm ns ∧ ds = x.m.doors.map (renD (ren (x.m.rooms.zip ns))), fun _ _ _ _ => False⟩
theorem k_renamed : Keeps d_renamed.wp (b__law_renamed d_names.wp d_take.wp) 14 := by
  rintro ss g0 E Q ⟨⟨a, mo, a1, a2, a3, a4, m⟩, ⟨rfl, p0, e3, e4, gm, hmo⟩, hq, _⟩
  have h8 := most_is
  simp only at p0 e3 e4 gm hmo
  have hrl := gm.rl
  have hdl := gm.dl
  have hr0 := List.length_pos_iff.mpr gm.r0
  simp [b__law_renamed, begin_]
  rw [s_sSeq]; simp
  rw [s_sSeq]; simp
  refine seq_of (fun ψ g => Fr g0 g a ∧ ∃ (ns : List (List Nat)) (t7 t8 : Option Sl), ns.length = m.rooms.length ∧ ns.Nodup ∧ (∀ w ∈ ns, isName w = true) ∧
    ψ = [some (.d (.ref a)), some (.d (.tup [.ref a1, .ref a2, .ref a3, .ref a4])), some (.d (.ref a1)), some (.d (.ref a2)), some (.d (.ref a3)), some (.d (.ref a4)), some (.own (.dic false (kvs2 (m.rooms.zip ns)))), t7, t8, none, none, none, none, none]) (fun nx hn => ?_) ?_
  · simp [e3]
    refine call_of (a, m.rooms.length) ⟨rfl, by omega, p0⟩ ?_
    rintro r g2 ⟨⟨ns, rfl, n1, n2, n3⟩, p2, k2⟩
    have F2 := (Fr.refl p0).take p2 k2
    simp [F2.T p0 e3]
    rw [pairUp_T]
    refine for_map (fun p : List Nat × List Nat => D.tup [.str p.1, .str p.2]) (m.rooms.zip ns) (fun done ψ g => g = g2 ∧ ∃ (t7 t8 : Option Sl), ψ = [some (.d (.ref a)), some (.d (.tup [.ref a1, .ref a2, .ref a3, .ref a4])), some (.d (.ref a1)), some (.d (.ref a2)), some (.d (.ref a3)), some (.d (.ref a4)), some (.own (.dic false (kvs2 done))), t7, t8, none, none, none, none, none]) ?_ ?_ _ _ ⟨rfl, _, _, rfl⟩
    · rintro done x rest ed ψ g3 K ⟨rfl, t7, t8, rfl⟩ hK
      have hz : (m.rooms.zip ns).map (·.1) = m.rooms := List.map_fst_zip (by omega)
      have hnk : D.str x.1 ∉ (kvs2 done).map (·.1) := fun z => by
        have nd := gm.rnd
        rw [← hz, ed, List.map_append, List.nodup_append] at nd
        obtain ⟨q, hq1, hq2⟩ := List.mem_map.mp z
        obtain ⟨q', hq3, rfl⟩ := List.mem_map.mp hq1
        exact nd.2.2 q'.1 (List.mem_map_of_mem hq3) x.1 (by simp) (D.str.inj hq2)
      have hk9 : (kvs2 done).length < most := by
        have : done.length ≤ (m.rooms.zip ns).length := by rw [ed]; simp
        rw [List.length_zip] at this
        rw [List.length_map]; omega
      simp [putK_new _ _ _ hnk, hk9]
      have hdl9 : done.length < most := by rw [List.length_map] at hk9; exact hk9
      refine ⟨hdl9, now ⟨F2.T p0 e3, hK _ _ ⟨rfl, _, _, by simp [kvs2]; exact ⟨rfl, rfl⟩⟩⟩⟩
    · rintro ψ g3 ⟨rfl, t7, t8, rfl⟩
      exact hn _ _ ⟨F2, ns, _, _, n1, n3, n2, rfl⟩
  · rintro ψ g2 ⟨F2, ns, t7, t8, n1, n3, n2, rfl⟩
    have hz : (m.rooms.zip ns).map (·.1) = m.rooms := List.map_fst_zip (by omega)
    have hlk : ∀ w ∈ m.rooms, lookK (kvs2 (m.rooms.zip ns)) (.str w) = some (.str (ren (m.rooms.zip ns) w)) := fun w hw => look_ren (by rw [hz]; exact hw)
    rw [s_sSeq]; simp [F2.T p0 e3, lendAll, lend, wipe]
    refine comp_all D.str (fun w => .str (ren (m.rooms.zip ns) w)) m.rooms (by omega) ?_ ?_
    · intro w hw acc K ha h1
      simp [hlk w hw, ha, F2.T p0 e3]
      exact h1
    have em : m.rooms.map (fun w => D.str (ren (m.rooms.zip ns) w)) = T ns := by
      have := congrArg T (ren_map gm.rnd n1.symm)
      rw [T, List.map_map] at this; exact this
    rw [em]
    simp
    rw [s_sSeq]; simp [F2.T p0 e3]
    refine takeF F2 (by omega) (by omega) fun x g3 x0 x1 F3 b3 => ?_
    simp
    obtain ⟨k, rfl⟩ : ∃ k : Nat, x = (k : Int) := ⟨x.toNat, by omega⟩
    rw [s_sSeq]; simp
    have q1 : cut (T ns) (some (1 + (k : Int))) none = T (ns.drop (k + 1)) := by rw [cut_drop _ (by omega), show (1 + (k : Int)).toNat = k + 1 by omega, ← List.map_drop]
    have q2 : cut (T ns) (some 1) (some (1 + (k : Int))) = T ((ns.take (k + 1)).drop 1) := by rw [cut_two _ (by omega) (by omega), show (1 + (k : Int)).toNat = k + 1 by omega, ← List.map_take, ← List.map_drop]; rfl
    have q3 : List.take 1 (T ns) ++ (T (ns.drop (k + 1)) ++ T ((ns.take (k + 1)).drop 1)) = T (ns.take 1 ++ ns.drop (k + 1) ++ (ns.take (k + 1)).drop 1) := by simp [T, List.map_take]
    have hp := turn_perm ns (k := k + 1) (by omega)
    rw [q1, q2, q3]
    generalize ns.take 1 ++ ns.drop (k + 1) ++ (ns.take (k + 1)).drop 1 = rooms' at hp
    refine ⟨by omega, by omega, by simp; omega, by omega, by omega, by simp; omega, ?_⟩
    have gm' := gm.ren n1.symm n3 n2 hp
    rw [s_sSeq]; simp [F3.D p0 e4, lendAll, lend, wipe]
    refine comp_all dr (fun d => dr (renD (ren (m.rooms.zip ns)) d)) m.doors (by omega) ?_ ?_
    · intro d hd acc K ha h1
      obtain ⟨hr, ho, _⟩ := okDoor_in (gm.ok d hd)
      simp [hlk _ hr, hlk _ ho, ha, F3.D p0 e4]
      simpa [renD] using h1
    have ed : m.doors.map (fun d => dr (renD (ren (m.rooms.zip ns)) d)) = Ds (m.doors.map (renD (ren (m.rooms.zip ns)))) := by simp [Ds, List.map_map]
    rw [ed]
    generalize hds : m.doors.map (renD (ren (m.rooms.zip ns))) = ds' at gm'
    simp
    intro p hp1 p' hp2
    have F4 : Fr g0 (g3.upd p (O.lst (T rooms'))) a := F3.offN hp1 fun b _ => rfl
    refine ret_now (hq _ _ ⟨F4.offN hp2 fun b _ => rfl, p, p', rooms', ds', rfl, ?_, G.upd_same, F3.free hp1, F4.free hp2, gm', ns, n1.symm, n3, hp, hds.symm⟩)
    rw [G.upd_ne fun z => by rw [z, G.upd_same] at hp2; cases hp2]
    exact G.upd_same
end Pd
set_option linter.all false
set_option maxRecDepth 10000
namespace Pd
open Classical in
theorem closed_filter (m : Mch) (s : List (List Nat)) : m.rooms.filter (fun w => decide (w ∈ closed m s)) = closed m s := by
  conv => rhs; unfold closed
  refine List.filter_congr fun w hw => ?_
  rw [Bool.eq_iff_iff, decide_eq_true_iff, decide_eq_true_iff, mem_closed]
  exact and_iff_right hw
theorem Led.step {m : Mch} {s : List (List Nat)} {r : List Nat} (h : Led m s r) : r ∈ s ∨ ∃ x, Led m s x ∧ Still m.doors x r := by
  rcases h with h | ⟨v, hv, hr⟩
  · exact .inl h
  · cases hr with
    | one st => exact .inr ⟨v, .inl hv, st⟩
    | snoc hr st => exact .inr ⟨_, .inr ⟨v, hv, hr⟩, st⟩
theorem Led.more {m : Mch} {s : List (List Nat)} {r y : List Nat} (h : Led m s r) (st : Still m.doors r y) : Led m s y := by
  rcases h with h | ⟨v, hv, hr⟩
  · exact .inr ⟨r, h, .one st⟩
  · exact .inr ⟨v, hv, .snoc hr st⟩
theorem closed_more {m : Mch} (ok : MOk m) {s : List (List Nat)} {r y : List Nat} (h : r ∈ closed m s) (st : Still m.doors r y) : y ∈ closed m s := by
  obtain ⟨d, h1, _, _, h4⟩ := id st
  exact mem_closed.mpr ⟨h4 ▸ (ok.en d h1).2, (mem_closed.mp h).2.more st⟩
end Pd
set_option linter.all false
set_option maxRecDepth 10000
namespace Pd
theorem pures_mem : ∀ {xs : List D}, D.pures xs = true → ∀ x ∈ xs, x.pure = true
  | [], _, _, h => by cases h
  | y :: ys, h, x, hx => by
    have h' : (y.pure && D.pures ys) = true := h
    rw [Bool.and_eq_true] at h'
    rcases List.mem_cons.mp hx with rfl | hx
    · exact h'.1
    · exact pures_mem h'.2 x hx
theorem pures_all : ∀ {xs : List D}, (∀ x ∈ xs, x.pure = true) → D.pures xs = true
  | [], _ => rfl
  | y :: ys, h => by
    show (y.pure && D.pures ys) = true
    rw [h y (by simp), pures_all fun x hx => h x (by simp [hx])]; rfl
theorem depths_of {n : Nat} : ∀ {xs : List D}, (∀ x ∈ xs, x.depth ≤ n) → D.depths xs ≤ n
  | [], _ => Nat.zero_le _
  | y :: ys, h => by
    show max y.depth (D.depths ys) ≤ n
    have := h y (by simp)
    have := depths_of (n := n) fun x hx => h x (List.mem_cons_of_mem _ hx)
    omega
theorem mapM_pure (n : Nat) (g : G) : ∀ {xs : List D}, (∀ x ∈ xs, x.pure = true) → xs.mapM (rsv n g) = some xs
  | [], _ => rfl
  | y :: ys, h => by
    rw [List.mapM_cons, rsv_pure n g (h y (by simp)), mapM_pure n g fun x hx => h x (by simp [hx])]; rfl
theorem eqC_L (g : G) {a b : List D} (ha : ∀ x ∈ a, x.pure = true) (hb : ∀ x ∈ b, x.pure = true) (da : ∀ x ∈ a, x.depth ≤ 50) (db : ∀ x ∈ b, x.depth ≤ 50) : eqC g (.o (.lst a)) (.o (.lst b)) = some (decide (a = b)) := by
  have e : eqC g (.o (.lst a)) (.o (.lst b)) = match (a.mapM (rsv 6 g)).map D.rol, (b.mapM (rsv 6 g)).map D.rol with
    | some x, some y => if x.depth ≤ 60 ∧ y.depth ≤ 60 then some (decide (x = y)) else none
    | _, _ => none := rfl
  rw [e, mapM_pure 6 g ha, mapM_pure 6 g hb]
  have dd : ∀ {xs : List D}, (∀ x ∈ xs, x.depth ≤ 50) → (D.rol xs).depth ≤ 60 := fun h => by show D.depths _ + 1 ≤ 60; have := depths_of h; omega
  show (if (D.rol a).depth ≤ 60 ∧ (D.rol b).depth ≤ 60 then some (decide (D.rol a = D.rol b)) else none) = _
  rw [if_pos ⟨dd da, dd db⟩]
  congr 1
  exact decide_eq_decide.mpr ⟨fun h => D.rol.inj h, fun h => by rw [h]⟩
theorem eq_L (g : G) {a b : List D} (ha : ∀ x ∈ a, x.pure = true) (hb : ∀ x ∈ b, x.pure = true) (da : ∀ x ∈ a, x.depth ≤ 50) (db : ∀ x ∈ b, x.depth ≤ 50) : oEq g (.o (.lst a)) (.o (.lst b)) = some (.d (.bl (decide (a = b)))) := by
  unfold oEq; rw [eqC_L g ha hb da db]; rfl
theorem ne_L (g : G) {a b : List D} (ha : ∀ x ∈ a, x.pure = true) (hb : ∀ x ∈ b, x.pure = true) (da : ∀ x ∈ a, x.depth ≤ 50) (db : ∀ x ∈ b, x.depth ≤ 50) : oNe g (.o (.lst a)) (.o (.lst b)) = some (.d (.bl (!decide (a = b)))) := by
  unfold oNe; rw [eqC_L g ha hb da db]; rfl
@[simp] theorem eq_rep (g : G) {α : Type} (xs : List α) (i : Int) : oEq g (.o (.lst (xs.map fun _ => .int i))) (.o (.lst [])) = some (.d (.bl (decide (xs = [])))) := by
  rw [eq_L g (by simp [D.pure]) (by simp) (by simp [D.depth]) (by simp)]
  simp
end Pd
set_option Elab.async false
set_option linter.all false
namespace Pd
/-- face_of(M, story) -/
def b_face_of (φ_first_face φ_face_behind : SpD) : WS :=
  (sSeq (sSet 2 (eCall φ_first_face [false] (aCons (eVar 0) aNil))) (sSeq (sFor (iIt (eVar 1)) (gName 3) (sSet 2 (eCall φ_face_behind [false, false, false] (aCons (eVar 0) (aCons (eVar 2) (aCons (eVar 3) aNil)))))) (sRet (eVar 2))))
/-- is_story(M, story) -/
def b_is_story (φ_face_of : SpD) : WS :=
  (sRet (eBin oNe (eCall φ_face_of [false, false] (aCons (eVar 0) (aCons (eVar 1) aNil))) (eTup dNil)))
/-- _law_on(told, some) -/
def b__law_on (φ__law_still_on : SpD) : WS :=
  (sSeq (sSet 2 (eCall φ__law_still_on [false, false] (aCons (eBin oIx (eVar 0) (eC (.int 3))) (aCons (eVar 1) aNil)))) (sRet (eUn oTuple (eComp [3] (iIt (eNs (eBin oIx (eVar 0) (eC (.int 2))))) (gName 3) (tV (eBin oIn (eVar 3) (eVar 2))) (eVar 3)))))
/-- _law_is_quiet(told, room) -/
def b__law_is_quiet : WS :=
  (sRet (eBin oEq (eComp [2] (iIt (eNs (eBin oIx (eVar 0) (eC (.int 3))))) (gName 2) (tAnd (tV (eBin oEq (eBin oIx (eVar 2) (eC (.int 0))) (eVar 1))) (tV (eBin oNe (eBin oIx (eBin oIx (eVar 2) (eC (.int 1))) (eC (.int 0))) (eC (.str [97, 115, 107]))))) (eVar 2)) (eLst dNil)))
/-- _law_behind(told, face, sign) -/
def b__law_behind (φ__law_is_quiet φ__law_on : SpD) : WS :=
  (sSeq (sIf (tV (eBin oEq (eVar 2) (eTup (dCons (eC (.str [104, 117, 115, 104])) dNil)))) (sRet (eUn oTuple (eComp [4] (iIt (eVar 1)) (gName 4) (tV (eCall φ__law_is_quiet [false, false] (aCons (eVar 0) (aCons (eVar 4) aNil)))) (eVar 4)))) sNx) (sRet (eCall φ__law_on [false, false] (aCons (eVar 0) (aCons (eComp [3] (iIt (eNs (eBin oIx (eVar 0) (eC (.int 3))))) (gName 3) (tAnd (tV (eBin oIn (eBin oIx (eVar 3) (eC (.int 0))) (eVar 1))) (tV (eBin oEq (eBin oIx (eVar 3) (eC (.int 1))) (eVar 2)))) (eBin oIx (eVar 3) (eC (.int 2)))) aNil)))))
/-- _law_signs(told) -/
def b__law_signs : WS :=
  (sRet (eBin oAdd (eBin oAdd (eComp [1] (iIt (eNs (eBin oIx (eVar 0) (eC (.int 0))))) (gName 1) tYes (eTup (dCons (eC (.str [97, 115, 107])) (dCons (eVar 1) dNil)))) (eComp [1] (iIt (eNs (eBin oIx (eVar 0) (eC (.int 1))))) (gName 1) tYes (eTup (dCons (eC (.str [115, 97, 121])) (dCons (eVar 1) dNil))))) (eLst (dCons (eTup (dCons (eC (.str [104, 117, 115, 104])) dNil)) dNil))))
/-- _law_story(pen, told, most) -/
def b__law_story (φ__law_anew φ__law_on φ__law_take φ__law_signs φ__law_behind : SpD) : WS :=
  (sSeq (sE (eCall φ__law_anew [true] (aCons (eVar 0) aNil))) (sSeq (sSet 3 (eLst dNil)) (sSeq (sSet 4 (eCall φ__law_on [false, false] (aCons (eVar 1) (aCons (eCut (eBin oIx (eVar 1) (eC (.int 2))) none (some (eC (.int 1)))) aNil)))) (sSeq (sFor (iRange (eCall φ__law_take [true, false] (aCons (eVar 0) (aCons (eBin oAdd (eVar 2) (eC (.int 1))) aNil)))) (gName 5) (sSeq (sSet 6 (eCall φ__law_signs [false] (aCons (eVar 1) aNil))) (sSeq (sSet 7 (eComp [8] (iIt (eVar 6)) (gName 8) (tV (eBin oNe (eCall φ__law_behind [false, false, false] (aCons (eVar 1) (aCons (eVar 4) (aCons (eVar 8) aNil)))) (eTup dNil))) (eVar 8))) (sSeq (sIf (tAnd (tV (eBin oNe (eVar 7) (eLst dNil))) (tV (eBin oGt (eCall φ__law_take [true, false] (aCons (eVar 0) (aCons (eC (.int 16)) aNil))) (eC (.int 0))))) (sSet 6 (eVar 7)) sNx) (sSeq (sE (eMut mAppend (eVar 3) (dCons (eBin oIx (eVar 6) (eCall φ__law_take [true, false] (aCons (eVar 0) (aCons (eUn oLen (eVar 6)) aNil)))) dNil))) (sSet 4 (eCall φ__law_behind [false, false, false] (aCons (eVar 1) (aCons (eVar 4) (aCons (eBin oIx (eVar 3) (eUn oNeg (eC (.int 1)))) aNil)))))))))) (sRet (eVar 3))))))
/-- _law_odd(pen, told, story) -/
def b__law_odd (φ__law_anew φ__law_names φ__law_take : SpD) : WS :=
  (sSeq (sE (eCall φ__law_anew [true] (aCons (eVar 0) aNil))) (sSeq (sSet 3 (eBin oAdd (eBin oAdd (eBin oIx (eVar 1) (eC (.int 0))) (eBin oIx (eVar 1) (eC (.int 1)))) (eCall φ__law_names [true, false] (aCons (eVar 0) (aCons (eC (.int 1)) aNil))))) (sSeq (sSet 4 (eTup (dCons (eBin oIx (eLst (dCons (eC (.str [97, 115, 107])) (dCons (eC (.str [115, 97, 121])) dNil))) (eCall φ__law_take [true, false] (aCons (eVar 0) (aCons (eC (.int 2)) aNil)))) (dCons (eBin oIx (eVar 3) (eCall φ__law_take [true, false] (aCons (eVar 0) (aCons (eUn oLen (eVar 3)) aNil)))) dNil)))) (sSeq (sSet 5 (eCall φ__law_take [true, false] (aCons (eVar 0) (aCons (eBin oAdd (eUn oLen (eVar 2)) (eC (.int 1))) aNil)))) (sSeq (sIf (tV (eBin oGt (eCall φ__law_take [true, false] (aCons (eVar 0) (aCons (eC (.int 3)) aNil))) (eC (.int 0)))) (sRet (eVar 2)) sNx) (sRet (eBin oAdd (eBin oAdd (eCut (eVar 2) none (some (eVar 5))) (eLst (dCons (eVar 4) dNil))) (eCut (eVar 2) (some (eBin oAdd (eVar 5) (eCall φ__law_take [true, false] (aCons (eVar 0) (aCons (eC (.int 2)) aNil))))) none))))))))
/-- has_door(M, face, sign) -/
def b_has_door (φ_Machine_doors_from : SpD) : WS :=
  (sSeq (sFor (iIt (eVar 1)) (gName 3) (sFor (iIt (eNs (eMeth "Machine" "doors_from" φ_Machine_doors_from [false] (eVar 0) (aCons (eVar 3) aNil)))) (gName 4) (sIf (tV (eBin oEq (eBin oIx (eVar 4) (eC (.int 1))) (eVar 2))) (sRet (eC (.bl true))) sNx))) (sRet (eC (.bl false))))
/-- may_come(M, face) -/
def b_may_come (φ_Machine_says φ_has_door φ_face_behind : SpD) : WS :=
  (sSeq (sSet 2 (eComp [3] (iIt (eNs (eMeth "Machine" "says" φ_Machine_says [] (eVar 0) aNil))) (gName 3) (tV (eCall φ_has_door [false, false, false] (aCons (eVar 0) (aCons (eVar 1) (aCons (eTup (dCons (eC (.str [115, 97, 121])) (dCons (eVar 3) dNil))) aNil))))) (eTup (dCons (eC (.str [115, 97, 121])) (dCons (eVar 3) dNil))))) (sSeq (sIf (tV (eBin oNe (eCall φ_face_behind [false, false, false] (aCons (eVar 0) (aCons (eVar 1) (aCons (eTup (dCons (eC (.str [104, 117, 115, 104])) dNil)) aNil)))) (eTup dNil))) (sE (eMut mAppend (eVar 2) (dCons (eTup (dCons (eC (.str [104, 117, 115, 104])) dNil)) dNil))) sNx) (sRet (eVar 2))))
/-- foreseen(M, face) -/
def b_foreseen (φ_Machine_asks φ_has_door : SpD) : WS :=
  (sRet (eComp [2] (iIt (eNs (eMeth "Machine" "asks" φ_Machine_asks [] (eVar 0) aNil))) (gName 2) (tV (eCall φ_has_door [false, false, false] (aCons (eVar 0) (aCons (eVar 1) (aCons (eTup (dCons (eC (.str [97, 115, 107])) (dCons (eVar 2) dNil))) aNil))))) (eVar 2)))
/-- _law_face(told, story) -/
def b__law_face (φ__law_on φ__law_behind : SpD) : WS :=
  (sSeq (sSet 2 (eCall φ__law_on [false, false] (aCons (eVar 0) (aCons (eCut (eBin oIx (eVar 0) (eC (.int 2))) none (some (eC (.int 1)))) aNil)))) (sSeq (sFor (iIt (eVar 1)) (gName 3) (sSet 2 (eCall φ__law_behind [false, false, false] (aCons (eVar 0) (aCons (eVar 2) (aCons (eVar 3) aNil)))))) (sRet (eVar 2))))
end Pd
set_option linter.all false
set_option maxRecDepth 10000
namespace Pd
/-! signs, lists of signs; the law's own faces -/
abbrev Sgn := List (List Nat)
def sg (s : Sgn) : D := .tup (s.map D.str)
@[simp] theorem sg_mk (s : Sgn) : sg s = .tup (s.map D.str) := nrfl rfl
theorem sg_inj {a b : Sgn} (h : sg a = sg b) : a = b := T_inj'.mp (by simpa using h)
theorem pure_sg (s : Sgn) : (sg s).pure = true := pure_tT s
theorem depth_sg (s : Sgn) : (sg s).depth = 1 := depth_tT s
theorem sgs_pure (xs : List Sgn) : ∀ x ∈ xs.map sg, x.pure = true := fun x hx => by
  obtain ⟨s, _, rfl⟩ := List.mem_map.mp hx
  exact pure_sg s
theorem sgs_depth (xs : List Sgn) : ∀ x ∈ xs.map sg, x.depth ≤ 50 := fun x hx => by
  obtain ⟨s, _, rfl⟩ := List.mem_map.mp hx
  rw [depth_sg]; omega
theorem sgs_inj {a b : List Sgn} : a.map sg = b.map sg ↔ a = b := List.map_inj_right fun _ _ e => sg_inj e
@[simp] theorem eq_sgs (g : G) (a b : List Sgn) : oEq g (.o (.lst (a.map sg))) (.o (.lst (b.map sg))) = some (.d (.bl (decide (a = b)))) := by
  rw [eq_L g (sgs_pure a) (sgs_pure b) (sgs_depth a) (sgs_depth b)]
  simp [sgs_inj]
@[simp] theorem ne_sgs (g : G) (a b : List Sgn) : oNe g (.o (.lst (a.map sg))) (.o (.lst (b.map sg))) = some (.d (.bl (!decide (a = b)))) := by
  rw [ne_L g (sgs_pure a) (sgs_pure b) (sgs_depth a) (sgs_depth b)]
  simp [sgs_inj]
@[simp] theorem eq_sgs0 (g : G) (a : List Sgn) : oEq g (.o (.lst (a.map sg))) (.o (.lst [])) = some (.d (.bl (decide (a = [])))) := eq_sgs g a []
@[simp] theorem ne_sgs0 (g : G) (a : List Sgn) : oNe g (.o (.lst (a.map sg))) (.o (.lst [])) = some (.d (.bl (!decide (a = [])))) := ne_sgs g a []
@[simp] theorem eq_tT0 (g : G) (a : List (List Nat)) : oEq g (.d (.tup (a.map D.str))) (.d (.tup [])) = some (.d (.bl (decide (a = [])))) := eq_tT g a []
@[simp] theorem ne_tT (g : G) (a b : List (List Nat)) : oNe g (.d (.tup (a.map D.str))) (.d (.tup (b.map D.str))) = some (.d (.bl (!decide (a = b)))) := by
  unfold oNe
  rw [eq_pure g (pure_tT a) (pure_tT b) (by rw [depth_tT]; omega) (by rw [depth_tT]; omega)]
  simp [T_inj']
@[simp] theorem ne_tT0 (g : G) (a : List (List Nat)) : oNe g (.d (.tup (a.map D.str))) (.d (.tup [])) = some (.d (.bl (!decide (a = [])))) := ne_tT g a []
@[simp] theorem eq_t00 (g : G) : oEq g (.d (.tup [])) (.d (.tup [])) = some (.d (.bl true)) := by
  have := eq_tT0 g []
  simpa using this
@[simp] theorem ne_t00 (g : G) : oNe g (.d (.tup [])) (.d (.tup [])) = some (.d (.bl false)) := by
  have := ne_tT0 g []
  simpa using this
theorem inC_sg (g : G) (s : Sgn) (ss : List Sgn) : inC g (.d (sg s)) (.o (.lst (ss.map sg))) = some (decide (s ∈ ss)) := by
  show (if (sg s).pure && D.pures (ss.map sg) && decide ((sg s).depth ≤ 50) && decide (D.depths (ss.map sg) ≤ 50) then some (decide (sg s ∈ ss.map sg)) else none) = _
  have h1 := pures_all (sgs_pure ss)
  have h2 := depths_of (sgs_depth ss)
  rw [pure_sg, h1, depth_sg, if_pos (by simp; exact h2)]
  congr 1
  refine decide_eq_decide.mpr ⟨fun h => ?_, fun h => List.mem_map_of_mem h⟩
  obtain ⟨s', h1, h2⟩ := List.mem_map.mp h
  exact sg_inj h2 ▸ h1
@[simp] theorem in_sg (g : G) (s : Sgn) (ss : List Sgn) : oIn g (.d (.tup (s.map D.str))) (.o (.lst (ss.map sg))) = some (.d (.bl (decide (s ∈ ss)))) := by
  have h : inT g (.d (sg s)) (.o (.lst (ss.map sg))) = inC g (.d (sg s)) (.o (.lst (ss.map sg))) := rfl
  unfold oIn
  show (inT g (.d (sg s)) (.o (.lst (ss.map sg)))).map _ = _
  rw [h, inC_sg]; rfl
@[simp] theorem in_sg2 (g : G) (a b : List Nat) (ss : List Sgn) : oIn g (.d (.tup [.str a, .str b])) (.o (.lst (ss.map sg))) = some (.d (.bl (decide ([a, b] ∈ ss)))) := in_sg g [a, b] ss
@[simp] theorem in_sg1 (g : G) (a : List Nat) (ss : List Sgn) : oIn g (.d (.tup [.str a])) (.o (.lst (ss.map sg))) = some (.d (.bl (decide ([a] ∈ ss)))) := in_sg g [a] ss
open Classical in
theorem closed_congr {m : Mch} {s s' : List (List Nat)} (h : ∀ x, x ∈ s ↔ x ∈ s') : closed m s = closed m s' := by
  unfold closed
  refine List.filter_congr fun w _ => ?_
  rw [decide_eq_decide]
  unfold Led
  constructor
  · rintro (z | ⟨v, hv, hr⟩)
    · exact .inl ((h _).mp z)
    · exact .inr ⟨v, (h _).mp hv, hr⟩
  · rintro (z | ⟨v, hv, hr⟩)
    · exact .inl ((h _).mpr z)
    · exact .inr ⟨v, (h _).mpr hv, hr⟩
/-- a model that is told: rooms and doors at two places -/
structure Tm where
  m : Mch
  a1 : Nat
  a2 : Nat
  a3 : Nat
  a4 : Nat
abbrev Tm.d (x : Tm) : D := .tup [.ref x.a1, .ref x.a2, .ref x.a3, .ref x.a4]
structure Told (g : G) (x : Tm) : Prop where
  e1 : g x.a1 = some (.lst (T x.m.asks))
  e2 : g x.a2 = some (.lst (T x.m.says))
  e3 : g x.a3 = some (.lst (T x.m.rooms))
  e4 : g x.a4 = some (.lst (Ds x.m.doors))
theorem Told.keep {g g' : G} {x : Tm} (h : Told g x) (k : ∀ a u, g a = some u → g' a = some u) : Told g' x := ⟨k _ _ h.e1, k _ _ h.e2, k _ _ h.e3, k _ _ h.e4⟩
theorem Told.fr {g0 g : G} {a : Nat} {x : Tm} (h : Told g0 x) (F : Fr g0 g a) (p : Pen g0 a) : Told g x := ⟨F.T p h.e1, F.T p h.e2, F.T p h.e3, F.D p h.e4⟩
structure Lo where
  x : Tm
  s : List (List Nat)
def d_lon : Sg Lo := ⟨fun x ss g => (∃ s1, ss = [.d x.x.d, s1] ∧ lookS g s1 = some (.o (.lst (T x.s)))) ∧ Told g x.x ∧ MOk x.x.m ∧ x.s.length ≤ 4000,
  fun x g r g' => g' = g ∧ r = .d (.tup (T (closed x.x.m x.s))), fun _ _ _ _ => False⟩
theorem k_lon : Keeps d_lon.wp (b__law_on d_stillon.wp) 4 := by
  rintro ss g E Q ⟨⟨⟨m, a1, a2, a3, a4⟩, s⟩, ⟨⟨s1, rfl, h1⟩, ⟨e1, e2, e3, e4⟩, ok, hl⟩, hq, _⟩
  have h8 := most_is
  have hrl := ok.rl
  have hdl := ok.dl
  simp only at h1 e1 e2 e3 e4 hl hrl hdl
  simp [b__law_on, begin_]
  rw [s_sSeq]; simp
  refine call_of ⟨m.doors, s⟩ ⟨⟨_, _, rfl, by simp [e4], by simp [h1]⟩, by simp only; omega, hl⟩ ?_
  rintro r g1 ⟨rfl, ex, rfl, x1, x2, x3⟩
  simp only at x2 x3
  have hmem : ∀ w, w ∈ s ++ ex ↔ Led m s w := fun w => by
    constructor
    · intro h
      rcases List.mem_append.mp h with h | h
      · exact .inl h
      · exact .inr (x2 w h).2
    · rintro (h | ⟨v, hv, hr⟩)
      · exact List.mem_append_left _ h
      · induction hr with
        | one st => exact x3 _ (List.mem_append_left _ hv) _ st
        | snoc _ st ih => exact x3 _ ih _ st
  have hfe : m.rooms.filter (fun w => decide (w ∈ s ++ ex)) = closed m s := by
    unfold closed
    exact List.filter_congr fun w _ => by rw [decide_eq_decide]; exact hmem w
  simp only
  generalize s ++ ex = l at hfe
  simp [e3, lendAll, lend, wipe]
  refine comp_map D.str (fun w => decide (w ∈ l)) D.str m.rooms (by omega) ?_ ?_
  · intro w hw acc K ha h1 h2
    by_cases c : w ∈ l
    · simp [c, ha, e3]
      exact h1 (by simp [c])
    · simp [c, e3]
      exact h2 (by simp [c])
  · rw [hfe]
    simp
    exact ret_now (hq _ _ ⟨rfl, rfl⟩)
structure Lr where
  x : Tm
  r : List Nat
def d_lquiet : Sg Lr := ⟨fun x ss g => ss = [.d x.x.d, .d (.str x.r)] ∧ Told g x.x ∧ MOk x.x.m, fun x g r g' => g' = g ∧ r = .d (.bl (quietB x.x.m x.r)), fun _ _ _ _ => False⟩
theorem k_lquiet : Keeps d_lquiet.wp b__law_is_quiet 3 := by
  rintro ss g E Q ⟨⟨⟨m, a1, a2, a3, a4⟩, w⟩, ⟨rfl, ⟨e1, e2, e3, e4⟩, ok⟩, hq, _⟩
  have h8 := most_is
  have hdl := ok.dl
  simp only at e1 e2 e3 e4 hdl
  simp [b__law_is_quiet, begin_, e4, lendAll, lend, wipe]
  refine comp_map dr (fun d => decide (d.r = w) && !isAsk d) dr m.doors (by omega) ?_ ?_
  · intro d hd acc K ha h1 h2
    have h3 := ok.two d hd
    by_cases c : d.r = w
    · by_cases c2 : isAsk d = true
      · rcases h3.cases with ⟨x, e⟩ | ⟨x, y, e⟩ <;> simp [isAsk, e] at c2 <;> simp [c, e, c2, e4] <;> exact h2 (by simp [isAsk, e, c2])
      · rcases h3.cases with ⟨x, e⟩ | ⟨x, y, e⟩ <;> simp [isAsk, e] at c2 <;> simp [c, e, c2, e4, ha] <;> simpa [e, c] using h1 (by simp [isAsk, e, c2, c])
    · simp [c, e4]
      exact h2 (by simp [c])
  · simp
    refine ret_now (hq _ _ ⟨rfl, ?_⟩)
    have : quietB m w = decide (m.doors.filter (fun d => decide (d.r = w) && !isAsk d) = []) := by
      rw [Bool.eq_iff_iff, quietB_iff, decide_eq_true_iff, List.filter_eq_nil_iff]
      constructor
      · intro h d hd z
        simp at z
        rw [h d hd z.1] at z; simp at z
      · intro h d hd e
        have := h d hd
        simp [e] at this; exact this
    simp [this]
structure Lb where
  x : Tm
  f : List (List Nat)
  s : Sgn
def d_lbehind : Sg Lb := ⟨fun x ss g => ss = [.d x.x.d, .d (.tup (T x.f)), .d (.tup (T x.s))] ∧ Told g x.x ∧ MOk x.x.m ∧ x.f.length ≤ 4000, fun x g r g' => g' = g ∧ r = .d (.tup (T (behind x.x.m x.f x.s))), fun _ _ _ _ => False⟩
theorem k_lbehind : Keeps d_lbehind.wp (b__law_behind d_lquiet.wp d_lon.wp) 5 := by
  rintro ss g E Q ⟨⟨⟨m, a1, a2, a3, a4⟩, f, s⟩, ⟨rfl, tl, ok, hl⟩, hq, _⟩
  have h8 := most_is
  have hdl := ok.dl
  obtain ⟨e1, e2, e3, e4⟩ := id tl
  simp only at e1 e2 e3 e4 hdl hl
  simp [b__law_behind, begin_]
  rw [s_sSeq]
  by_cases c : s = [wHush]
  · simp [c, lendAll, lend, wipe]
    refine comp_map D.str (quietB m) D.str f (by omega) ?_ ?_
    · intro w hw acc K ha h1 h2
      simp
      refine call_of ⟨⟨m, a1, a2, a3, a4⟩, w⟩ ⟨rfl, tl, ok⟩ ?_
      rintro r g1 ⟨rfl, rfl⟩
      cases b : quietB m w with
      | true => simp [b, ha]; exact h1 b
      | false => simp [b]; exact h2 b
    · simp
      exact ret_now (hq _ _ ⟨rfl, by simp only [behind]; rw [if_pos c]⟩)
  · simp [c, e4, lendAll, lend, wipe]
    refine comp_map dr (fun d => decide (d.r ∈ f) && decide (d.s = s)) (fun d => .str d.o) m.doors (by omega) ?_ ?_
    · intro d hd acc K ha h1 h2
      by_cases c1 : d.r ∈ f
      · by_cases c2 : d.s = s
        · simp [c1, c2, ha, e4]
          exact h1 (by simp [c1, c2])
        · simp [c1, c2, e4]
          exact h2 (by simp [c2])
      · simp [c1, e4]
        exact h2 (by simp [c1])
    have em : (m.doors.filter (fun d => decide (d.r ∈ f) && decide (d.s = s))).map (fun d => D.str d.o) = T ((m.doors.filter (fun d => decide (d.r ∈ f) && decide (d.s = s))).map Dr.o) := by simp [T]
    have hlen := List.length_filter_le (fun d : Dr => decide (d.r ∈ f) && decide (d.s = s)) m.doors
    have hcl : closed m ((m.doors.filter (fun d => decide (d.r ∈ f) && decide (d.s = s))).map Dr.o) = closed m (led m f s) := closed_congr fun x => by
      rw [mem_led]
      constructor
      · intro h
        obtain ⟨d, h1, rfl⟩ := List.mem_map.mp h
        obtain ⟨h2, h3⟩ := List.mem_filter.mp h1
        simp at h3
        exact ⟨d, h2, h3.1, h3.2, rfl⟩
      · rintro ⟨d, h1, h2, h3, rfl⟩
        exact List.mem_map_of_mem (List.mem_filter.mpr ⟨h1, by simp [h2, h3]⟩)
    rw [em]
    simp
    refine call_of ⟨⟨m, a1, a2, a3, a4⟩, (m.doors.filter (fun d => decide (d.r ∈ f) && decide (d.s = s))).map Dr.o⟩ ⟨⟨_, rfl, by simp⟩, tl, ok, by simp only [List.length_map]; omega⟩ ?_
    rintro r g1 ⟨rfl, rfl⟩
    simp
    exact ret_now (hq _ _ ⟨rfl, by simp only [behind]; rw [if_neg c, hcl]⟩)
end Pd
set_option linter.all false
set_option maxRecDepth 10000
namespace Pd
theorem range_at {n x : Nat} {done rest : List Nat} (e : List.range n = done ++ x :: rest) : done.length = x ∧ x < n := by
  have h1 : (List.range n)[done.length]? = some x := by rw [e]; simp
  have hl : done.length < n := by have := congrArg List.length e; simp at this; omega
  rw [List.getElem?_range hl] at h1
  cases h1
  exact ⟨rfl, hl⟩
/-- a loop over range(n) -/
theorem for_range {tg : WG} {b : WS} {Dn : Ends} {ok : Psi → G → Prop} (n : Nat) (I : Nat → Psi → G → Prop)
    (step : ∀ i, i < n → ∀ (ψ : Psi) (g : G) (K : Psi → G → Prop), I i ψ g → (∀ ψ' g', I (i + 1) ψ' g' → K ψ' g') →
      tg (.int (i : Int)) ψ g fun ψ g => b ⟨fun ψ' g' => ∃ g2, G.le g2 g' ∧ ok ψ' g2 ∧ K ψ' g2, Dn.rt, Dn.nx, fun ψ' g' => ∃ g2, G.le g2 g' ∧ ok ψ' g2 ∧ K ψ' g2, Dn.ex⟩ ψ g)
    (fin : ∀ ψ g, I n ψ g → Dn.nx ψ g) (ψ : Psi) (g : G) (h : I 0 ψ g) : forL tg b Dn ok ((List.range n).map fun i : Nat => D.int (i : Int)) ψ g := by
  refine for_map (fun i : Nat => D.int (i : Int)) (List.range n) (fun done ψ g => I done.length ψ g) ?_ ?_ ψ g h
  · intro done x rest e ψ g K hI hK
    obtain ⟨h1, h2⟩ := range_at e
    exact step x h2 ψ g K (h1 ▸ hI) fun ψ' g' h' => hK _ _ (by simpa [h1] using h')
  · intro ψ g hI
    exact fin ψ g (by simpa using hI)
theorem den_sg {n : Nat} {g : G} {s : Sgn} (h : s.length < 4000) : den (n + 2) g (sg s) = some (sg s) := den_tT n g h
theorem den_sgs {n : Nat} {g : G} {xs : List Sgn} (h : xs.length < 4000) (k : ∀ s ∈ xs, s.length < 4000) : denC (den (n + 2) g) (.o (.lst (xs.map sg))) = some (.rol (xs.map sg)) := by
  show (if (xs.map sg).length < 4000 then (denL (den (n + 2) g) (xs.map sg)).map D.rol else none) = _
  rw [if_pos (by simpa using h), denL_map fun s hs => den_sg (k s hs)]; rfl
/-! stories -/
@[simp] theorem atI_last {α : Type} (xs : List α) (x : α) : atI (xs ++ [x]) (-1) = some x := by
  have h1 : idxOf (xs ++ [x]).length (-1) = some xs.length := by
    unfold idxOf
    rw [if_neg (by omega), if_pos (by simp; omega)]
    simp; omega
  unfold atI
  rw [h1]
  simp
def signs (m : Mch) : List Sgn := m.asks.map (fun w => [wAsk, w]) ++ m.says.map (fun w => [wSay, w]) ++ [[wHush]]
def d_lsigns : Sg Tm := ⟨fun x ss g => ss = [.d x.d] ∧ Told g x ∧ Bd x.m, fun x g r g' => g' = g ∧ r = .own (.lst ((signs x.m).map sg)), fun _ _ _ _ => False⟩
theorem k_lsigns : Keeps d_lsigns.wp b__law_signs 2 := by
  rintro ss g E Q ⟨⟨m, a1, a2, a3, a4⟩, ⟨rfl, ⟨e1, e2, e3, e4⟩, B⟩, hq, _⟩
  have h8 := most_is
  have hal := B.a
  have hsl := B.s
  simp only at e1 e2 e3 e4 hal hsl
  simp [b__law_signs, begin_, e1, lendAll, lend, wipe]
  refine comp_all D.str (fun w => sg [wAsk, w]) m.asks (by omega) ?_ ?_
  · intro w hw acc K ha h1
    simp [ha, e1]
    simpa using h1
  simp [e2, lendAll, lend, wipe]
  refine comp_all D.str (fun w => sg [wSay, w]) m.says (by omega) ?_ ?_
  · intro w hw acc K ha h1
    simp [ha, e2]
    simpa using h1
  simp
  refine ⟨by omega, by omega, ?_⟩
  refine ret_now (hq _ _ ⟨rfl, ?_⟩)
  simp [signs, Function.comp_def]
noncomputable def faceOf (m : Mch) (st : List Sgn) : List (List Nat) := st.foldl (behind m) (closed m (m.rooms.take 1))
theorem faceOf_snoc (m : Mch) (st : List Sgn) (s : Sgn) : faceOf m (st ++ [s]) = behind m (faceOf m st) s := by simp [faceOf]
theorem fold_inv {α β : Type} {f : α → β → α} {P : α → Prop} (h : ∀ a b, P a → P (f a b)) : ∀ (bs : List β) (a : α), P a → P (bs.foldl f a)
  | [], _, ha => ha
  | b :: bs, a, ha => fold_inv h bs (f a b) (h a b ha)
theorem faceOf_sub (m : Mch) (st : List Sgn) : ∀ w ∈ faceOf m st, w ∈ m.rooms :=
  fold_inv (f := behind m) (P := fun f => ∀ w ∈ f, w ∈ m.rooms) (fun _ _ h => behind_sub h) st _ fun w h => (mem_closed.mp h).1
theorem closed_len (m : Mch) (s : List (List Nat)) : (closed m s).length ≤ m.rooms.length := (closed_sub m s).length_le
theorem behind_len {m : Mch} {f : List (List Nat)} {s : Sgn} (h : f.length ≤ m.rooms.length) : (behind m f s).length ≤ m.rooms.length := by
  unfold behind
  split
  · exact Nat.le_trans (List.length_filter_le _ _) h
  · exact closed_len _ _
theorem faceOf_len (m : Mch) (st : List Sgn) : (faceOf m st).length ≤ m.rooms.length :=
  fold_inv (f := behind m) (P := fun f => f.length ≤ m.rooms.length) (fun _ _ h => behind_len h) st _ (closed_len _ _)
structure Fo where
  p : Nat
  m : Mch
  st : List Sgn
def d_faceof : Sg Fo := ⟨fun x ss g => (∃ s1, ss = [.d (.ref x.p), s1] ∧ lookS g s1 = some (.o (.lst (x.st.map sg)))) ∧ MachD g x.p x.m ∧ MOk x.m, fun x g r g' => g' = g ∧ r = .d (.tup (T (faceOf x.m x.st))), fun _ _ _ _ => False⟩
theorem k_faceof : Keeps d_faceof.wp (b_face_of d_ff.wp d_behind.wp) 4 := by
  rintro ss g E Q ⟨⟨p, m, st⟩, ⟨⟨s1, rfl, h1⟩, hM, ok⟩, hq, _⟩
  have hrl := ok.rl
  simp only at h1 hrl
  simp [b_face_of, begin_]
  rw [s_sSeq]; simp
  refine call_of ⟨p, m⟩ ⟨rfl, hM, ok⟩ ?_
  rintro r g1 ⟨rfl, rfl⟩
  simp
  refine seq_of (fun ψ g => g = g1 ∧ ∃ t3, ψ = [some (.d (.ref p)), some s1, some (.d (.tup (T (faceOf m st)))), t3]) (fun nx hn => ?_) ?_
  · simp [h1]
    refine for_map sg st (fun done ψ g => g = g1 ∧ ∃ t3, ψ = [some (.d (.ref p)), some s1, some (.d (.tup (T (faceOf m done)))), t3]) ?_ ?_ _ _ ⟨rfl, _, rfl⟩
    · rintro done s rest ed ψ g2 K ⟨rfl, t3, rfl⟩ hK
      have := faceOf_len m done
      simp
      refine call_of ⟨p, m, faceOf m done, s⟩ ⟨rfl, hM, ok, faceOf_sub m done, by simp only; omega⟩ ?_
      rintro r g3 ⟨rfl, rfl⟩
      simp
      exact now ⟨h1, hK _ _ ⟨rfl, _, by rw [faceOf_snoc]⟩⟩
    · rintro ψ g2 ⟨rfl, t3, rfl⟩
      exact hn _ _ ⟨rfl, _, rfl⟩
  · rintro ψ g2 ⟨rfl, t3, rfl⟩
    simp
    exact ret_now (hq _ _ ⟨rfl, rfl⟩)
def d_isstory : Sg Fo := ⟨d_faceof.pre, fun x g r g' => g' = g ∧ r = .d (.bl (!decide (faceOf x.m x.st = []))), fun _ _ _ _ => False⟩
theorem k_isstory : Keeps d_isstory.wp (b_is_story d_faceof.wp) 2 := by
  rintro ss g E Q ⟨⟨p, m, st⟩, ⟨⟨s1, rfl, h1⟩, hM, ok⟩, hq, _⟩
  simp only at h1
  simp [b_is_story, begin_]
  refine call_of ⟨p, m, st⟩ ⟨⟨_, rfl, by simp [h1]⟩, hM, ok⟩ ?_
  rintro r g1 ⟨rfl, rfl⟩
  simp
  exact ret_now (hq _ _ ⟨rfl, rfl⟩)
theorem Pen.ne_sg {g : G} {a : Nat} (h : Pen g a) {xs : List Sgn} : g a ≠ some (.lst (xs.map sg)) := fun z => by
  obtain ⟨c, at_, v, cs, _, e, _⟩ := h
  rw [e] at z
  cases xs with
  | nil => cases z
  | cons => cases z
theorem Pen.lookSg {g g' : G} {a : Nat} {s : Sl} {xs : List Sgn} (h : Pen g a) (k : ∀ b, b ≠ a → g' b = g b) (e : lookS g s = some (.o (.lst (xs.map sg)))) : lookS g' s = some (.o (.lst (xs.map sg))) :=
  look_kept e fun b e => by rw [k b fun z => h.ne_sg (z ▸ e)]; exact e
theorem Fr.lookSg {g0 g : G} {a : Nat} {s : Sl} {xs : List Sgn} (h : Fr g0 g a) (p0 : Pen g0 a) (e : lookS g0 s = some (.o (.lst (xs.map sg)))) : lookS g s = some (.o (.lst (xs.map sg))) :=
  look_kept e fun b e => h.fr b _ e fun z => p0.ne_sg (z ▸ e)
/-- a list that a slot holds, and what is told of it -/
structure Ly where
  a : Nat
  x : Tm
  most : Nat
def d_lstory : Sg Ly := ⟨fun x ss g => ss = [.d (.ref x.a), .d x.x.d, .d (.int x.most)] ∧ Pen g x.a ∧ Told g x.x ∧ MOk x.x.m ∧ Bd x.x.m ∧ x.most ≤ 100,
  fun x g r g' => Fr g g' x.a ∧ ∃ st : List Sgn, r = .own (.lst (st.map sg)) ∧ st.length ≤ x.most ∧ ∀ s ∈ st, s ∈ signs x.x.m, fun _ _ _ _ => False⟩
theorem signs_len (m : Mch) : (signs m).length = m.asks.length + m.says.length + 1 := by simp [signs]; omega
theorem k_lstory : Keeps d_lstory.wp (b__law_story d_anew.wp d_lon.wp d_take.wp d_lsigns.wp d_lbehind.wp) 9 := by
  rintro ss g0 E Q ⟨⟨a, ⟨m, a1, a2, a3, a4⟩, mo⟩, ⟨rfl, p0, tl, ok, B, hmo⟩, hq, _⟩
  have h8 := most_is
  have hrl := ok.rl
  have hal := B.a
  have hsl := B.s
  simp only at p0 hmo hrl hal hsl
  simp [b__law_story, begin_]
  rw [s_sSeq]; simp
  refine call_of a ⟨rfl, p0⟩ ?_
  rintro r g1 ⟨rfl, p1, k1⟩
  have F1 := (Fr.refl p0).take p1 k1
  have t1 := tl.fr F1 p0
  rw [s_sSeq]; simp
  rw [s_sSeq]; simp [t1.e3]
  have ec : cut (T m.rooms) none (some 1) = T (m.rooms.take 1) := by simp [T, List.map_take]
  refine call_of ⟨⟨m, a1, a2, a3, a4⟩, m.rooms.take 1⟩ ⟨⟨_, rfl, by simp [List.map_take]⟩, t1, ok, by simp only [List.length_take]; omega⟩ ?_
  rintro r g2 ⟨rfl, rfl⟩
  simp
  refine seq_of (fun ψ g => Fr g0 g a ∧ ∃ (st : List Sgn) (t4 t5 t6 t7 t8 : Option Sl), (st.length ≤ mo ∧ ∀ s ∈ st, s ∈ signs m) ∧ ψ = [some (.d (.ref a)), some (.d (Tm.d ⟨m, a1, a2, a3, a4⟩)), some (.d (.int mo)), some (.own (.lst (st.map sg))), t4, t5, t6, t7, t8]) (fun nx hn => ?_) ?_
  · simp
    refine takeF F1 (by omega) (by omega) fun n g3 n0 n1 F3 b3 => ?_
    simp
    refine ⟨by omega, by omega, ?_⟩
    refine for_ind (fun rest ψ g => Fr g0 g a ∧ ∃ (st : List Sgn) (f : List (List Nat)) (t5 t6 t7 t8 : Option Sl), (st.length + rest.length ≤ mo ∧ ∀ s ∈ st, s ∈ signs m) ∧ f.length ≤ m.rooms.length ∧ ψ = [some (.d (.ref a)), some (.d (Tm.d ⟨m, a1, a2, a3, a4⟩)), some (.d (.int mo)), some (.own (.lst (st.map sg))), some (.d (.tup (T f))), t5, t6, t7, t8]) ?_ ?_ _ _ _ ⟨F3, [], _, _, _, _, _, ⟨by simp; omega, by simp⟩, closed_len _ _, rfl⟩
    · rintro z zs ψ g4 K ⟨F4, st, f, t5, t6, t7, t8, ⟨hl, hin⟩, hf, rfl⟩ hK
      have t4 := tl.fr F4 p0
      have hsn := signs_len m
      simp at hl
      simp
      rw [s_sSeq]; simp
      refine call_of ⟨m, a1, a2, a3, a4⟩ ⟨rfl, t4, B⟩ ?_
      rintro r g5 ⟨rfl, rfl⟩
      simp
      rw [s_sSeq]; simp [lendAll, lend, wipe]
      refine comp_map sg (fun s => !decide (behind m f s = [])) sg (signs m) (by omega) ?_ ?_
      · intro s hs acc K2 ha h1 h2
        simp
        refine call_of ⟨⟨m, a1, a2, a3, a4⟩, f, s⟩ ⟨rfl, t4, ok, by simp only; omega⟩ ?_
        rintro r g6 ⟨rfl, rfl⟩
        by_cases c : behind m f s = []
        · simp [c]
          exact h2 (by simp [c])
        · simp [c, ha]
          exact h1 (by simp [c])
      have hwl := List.length_filter_le (fun s => !decide (behind m f s = [])) (signs m)
      have hwi : ∀ s ∈ (signs m).filter (fun s => !decide (behind m f s = [])), s ∈ signs m := fun s h => (List.mem_filter.mp h).1
      generalize (signs m).filter (fun s => !decide (behind m f s = [])) = ways at hwl hwi
      simp
      refine seq_of (fun ψ g => Fr g0 g a ∧ ∃ (s6 : Sl) (L : List Sgn) (t7 : Option Sl), L ≠ [] ∧ (L.length ≤ 201 ∧ ∀ s ∈ L, s ∈ signs m) ∧ lookS g s6 = some (.o (.lst (L.map sg))) ∧ ψ = [some (.d (.ref a)), some (.d (Tm.d ⟨m, a1, a2, a3, a4⟩)), some (.d (.int mo)), some (.own (.lst (st.map sg))), some (.d (.tup (T f))), some (.d z), some s6, t7, t8]) (fun nx hn => ?_) ?_
      · have hs0 : signs m ≠ [] := by simp [signs]
        simp
        by_cases c : ways = []
        · simp [c]
          exact hn _ _ ⟨F4, _, signs m, _, hs0, ⟨by omega, fun _ h => h⟩, rfl, rfl⟩
        · simp [c]
          refine takeF F4 (by omega) (by omega) fun x g6 x0 x1 F6 b6 => ?_
          simp
          split
          · intro p hp
            skip
            exact hn _ _ ⟨F6.grow (up_new (fun _ _ e => e) hp), _, ways, _, c, ⟨by omega, hwi⟩, by simp, rfl⟩
          · exact hn _ _ ⟨F6, _, signs m, _, hs0, ⟨by omega, fun _ h => h⟩, rfl, rfl⟩
      rintro ψ g6 ⟨F6, s6, L, t7, hL, ⟨hLl, hLi⟩, h6, rfl⟩
      have hLp := List.length_pos_iff.mpr hL
      skip
      rw [s_sSeq]; simp [h6]
      refine takeF F6 (by omega) (by omega) fun x g7 x0 x1 F7 b7 => ?_
      have h7 := F6.pen.lookSg b7 h6
      obtain ⟨hj, ej⟩ := atI_in (xs := L) x0 x1
      have hlm : st.length < most := by omega
      simp [h7, ej, hlm]
      have hsi := hLi _ (List.getElem_mem hj)
      generalize L[x.toNat] = s at hsi
      refine call_of ⟨⟨m, a1, a2, a3, a4⟩, f, s⟩ ⟨rfl, tl.fr F7 p0, ok, by simp only; omega⟩ ?_
      rintro r g8 ⟨rfl, rfl⟩
      simp
      exact now (hK _ _ ⟨F7, st ++ [s], behind m f s, _, _, _, _, ⟨by simp; omega, fun s' h => (List.mem_append.mp h).elim (hin s') fun h => by rw [List.mem_singleton.mp h]; exact hsi⟩, behind_len hf, by simp; exact ⟨rfl, rfl, rfl, rfl⟩⟩)
    · rintro ψ g4 ⟨F4, st, f, t5, t6, t7, t8, ⟨hl, hin⟩, hf, rfl⟩
      exact hn _ _ ⟨F4, st, _, _, _, _, _, ⟨by simpa using hl, hin⟩, rfl⟩
  · rintro ψ g4 ⟨F4, st, t4, t5, t6, t7, t8, hl, rfl⟩
    simp
    exact ret_now (hq _ _ ⟨F4, st, rfl, hl⟩)
theorem signs_two {m : Mch} {s : Sgn} (h : s ∈ signs m) : s.length ≤ 2 := by
  simp only [signs, List.mem_append, List.mem_map, List.mem_singleton] at h
  rcases h with (⟨w, _, rfl⟩ | ⟨w, _, rfl⟩) | rfl <;> simp
def SgOk (s : Sgn) : Prop := s.length ≤ 2 ∧ s ≠ [wStill]
theorem signs_ok {m : Mch} {s : Sgn} (h : s ∈ signs m) : SgOk s := ⟨signs_two h, fun z => by
  simp only [signs, List.mem_append, List.mem_map, List.mem_singleton] at h
  rcases h with (⟨w, _, rfl⟩ | ⟨w, _, rfl⟩) | rfl <;> cases z⟩
structure Lod where
  a : Nat
  x : Tm
  p : Nat
  st : List Sgn
def d_lodd : Sg Lod := ⟨fun x ss g => ss = [.d (.ref x.a), .d x.x.d, .d (.ref x.p)] ∧ Pen g x.a ∧ Told g x.x ∧ Bd x.x.m ∧ g x.p = some (.lst (x.st.map sg)) ∧ x.st.length ≤ 100 ∧ ∀ s ∈ x.st, SgOk s,
  fun x g r g' => Fr g g' x.a ∧ ∃ (s : Sl) (st : List Sgn), r = rOf s ∧ (∀ o, s ≠ .bor o) ∧ lookS g' s = some (.o (.lst (st.map sg))) ∧ st.length ≤ x.st.length + 1 ∧ ∀ s ∈ st, SgOk s, fun _ _ _ _ => False⟩
theorem k_lodd : Keeps d_lodd.wp (b__law_odd d_anew.wp d_names.wp d_take.wp) 6 := by
  rintro ss g0 E Q ⟨⟨a, ⟨m, a1, a2, a3, a4⟩, p, st⟩, ⟨rfl, p0, tl, B, hp, hl, h2⟩, hq, _⟩
  have h8 := most_is
  have hal := B.a
  have hsl := B.s
  simp only at p0 hl hp hal hsl h2
  simp [b__law_odd, begin_]
  rw [s_sSeq]; simp
  refine call_of a ⟨rfl, p0⟩ ?_
  rintro r g1 ⟨rfl, p1, k1⟩
  have F1 := (Fr.refl p0).take p1 k1
  have t1 := tl.fr F1 p0
  rw [s_sSeq]; simp [t1.e1, t1.e2]
  refine ⟨by omega, ?_⟩
  refine call_of (a, 1) ⟨rfl, by omega, F1.pen⟩ ?_
  rintro r g2 ⟨⟨ns, rfl, n1, n2, n3⟩, p2, k2⟩
  have F2 := F1.take p2 k2
  have n1' : ns.length = 1 := n1
  simp
  refine ⟨by omega, ?_⟩
  obtain ⟨ws, hws⟩ : ∃ ws, ws = m.asks ++ (m.says ++ ns) := ⟨_, rfl⟩
  have ew : T m.asks ++ (T m.says ++ T ns) = T ws := by rw [hws]; simp [T]
  have hwl : ws.length = m.asks.length + (m.says.length + 1) := by rw [hws]; simp [n1']
  rw [ew]
  clear hws ew
  rw [s_sSeq]; simp
  refine takeF F2 (by omega) (by omega) fun i g3 i0 i1 F3 b3 => ?_
  obtain ⟨h, eh⟩ : ∃ h : List Nat, atI [D.str wAsk, D.str wSay] i = some (.str h) := by
    have : i = 0 ∨ i = 1 := by omega
    rcases this with rfl | rfl
    · exact ⟨wAsk, by simp⟩
    · exact ⟨wSay, by simp⟩
  simp [eh]
  refine takeF F3 (by omega) (by omega) fun j g4 j0 j1 F4 b4 => ?_
  obtain ⟨hj, ej⟩ := atI_in (xs := ws) j0 j1
  simp [ej]
  generalize ws[j.toNat] = w
  have look : ∀ {g}, Fr g0 g a → g p = some (.lst (st.map sg)) := fun F => F.fr p _ hp fun z => p0.ne_sg (z ▸ hp)
  rw [s_sSeq]; simp [look F4]
  refine takeF F4 (by omega) (by omega) fun k g5 k0 k1 F5 b5 => ?_
  simp
  rw [s_sSeq]; simp
  refine takeF F5 (by omega) (by omega) fun y g6 y0 y1 F6 b6 => ?_
  simp
  split
  · exact ret_now (hq _ _ ⟨F6, .d (.ref p), st, rfl, (fun _ z => nomatch z), by simp [look F6], by simp only; omega, h2⟩)
  · simp [look F6]
    obtain ⟨k, rfl⟩ : ∃ k' : Nat, k = (k' : Int) := ⟨k.toNat, by omega⟩
    simp
    refine ⟨by omega, by omega, ?_⟩
    refine takeF F6 (by omega) (by omega) fun q g7 q0 q1 F7 b7 => ?_
    simp [look F7]
    obtain ⟨q, rfl⟩ : ∃ q' : Nat, q = (q' : Int) := ⟨q.toNat, by omega⟩
    have ec : cut (st.map sg) (some ((k : Int) + q)) none = (st.drop (k + q)).map sg := by
      rw [cut_drop _ (by omega), ← List.map_drop]; congr 1
    rw [ec]
    refine ⟨by omega, by omega, by simp; omega, ?_⟩
    refine ret_now (hq _ _ ⟨F7, .own (.lst ((st.take k ++ [h, w] :: st.drop (k + q)).map sg)), st.take k ++ [h, w] :: st.drop (k + q), by simp [rOf, List.map_take], (fun _ z => nomatch z), rfl, by simp; omega, fun s hs => ?_⟩)
    rcases List.mem_append.mp hs with hs | hs
    · exact h2 s (List.mem_of_mem_take hs)
    · rcases List.mem_cons.mp hs with rfl | hs
      · exact ⟨by simp, fun z => by cases z⟩
      · exact h2 s (List.mem_of_mem_drop hs)
end Pd
set_option linter.all false
set_option maxRecDepth 10000
namespace Pd
/-! what may come; what is foreseen -/
def hasDoor (m : Mch) (f : List (List Nat)) (s : Sgn) : Bool := decide (∃ d ∈ m.doors, d.r ∈ f ∧ d.s = s)
theorem hasDoor_iff {m : Mch} {f : List (List Nat)} {s : Sgn} : hasDoor m f s = true ↔ ∃ d ∈ m.doors, d.r ∈ f ∧ d.s = s := decide_eq_true_iff
def d_hasdoor : Sg Bh := ⟨fun x ss g => ss = [.d (.ref x.p), .d (.tup (T x.f)), .d (.tup (T x.s))] ∧ MachD g x.p x.m ∧ MOk x.m ∧ (∀ w ∈ x.f, w ∈ x.m.rooms),
  fun x g r g' => g' = g ∧ r = .d (.bl (hasDoor x.m x.f x.s)), fun _ _ _ _ => False⟩
theorem k_hasdoor : Keeps d_hasdoor.wp (b_has_door d_from.wp) 5 := by
  rintro ss g E Q ⟨⟨p, m, f, s⟩, ⟨rfl, hM, ok, hf⟩, hq, _⟩
  simp only at hf
  have e3 : ∀ b : Bool, b = hasDoor m f s → ∃ g2, G.le g2 g ∧ Q (.d (.bl b)) g2 := fun b e => ret_now (hq _ _ ⟨rfl, by rw [e]⟩)
  simp [b_has_door, begin_]
  refine seq_of (fun ψ g2 => g2 = g ∧ ∀ d ∈ m.doors, d.r ∈ f → d.s ≠ s) (fun nx hn => ?_) ?_
  · simp
    refine for_map D.str f (fun done ψ g2 => g2 = g ∧ (∀ d ∈ m.doors, d.r ∈ done → d.s ≠ s) ∧ ∃ t3 t4, ψ = [some (.d (.ref p)), some (.d (.tup (T f))), some (.d (.tup (T s))), t3, t4]) ?_ ?_ _ _ ⟨rfl, by simp, _, _, rfl⟩
    · rintro done w rest ed ψ g2 K ⟨rfl, hno, t3, t4, rfl⟩ hK
      have hw : w ∈ f := by rw [ed]; simp
      simp [hM.ins (f := "doors_from") rfl]
      refine call_of ⟨p, m, w⟩ ⟨rfl, hM, hf w hw⟩ ?_
      rintro r g3 ⟨rfl, rfl⟩
      simp
      refine for_map dr (outOf m.doors w) (fun dn ψ g2 => g2 = g3 ∧ (∀ d ∈ dn, d.s ≠ s) ∧ ∃ t4, ψ = [some (.d (.ref p)), some (.d (.tup (T f))), some (.d (.tup (T s))), some (.d (.str w)), t4]) ?_ ?_ _ _ ⟨rfl, by simp, _, rfl⟩
      · rintro dn d rs e2 ψ g4 K2 ⟨rfl, hn2, t4, rfl⟩ hK2
        have hd : d ∈ outOf m.doors w := by rw [e2]; simp
        obtain ⟨h1, h2⟩ := List.mem_filter.mp hd
        have h2' : d.r = w := of_decide_eq_true h2
        by_cases c : d.s = s
        · simp [c]
          exact e3 true (hasDoor_iff.mpr ⟨d, h1, h2' ▸ hw, c⟩).symm
        · simp [c]
          exact now (hK2 _ _ ⟨rfl, fun x hx => (List.mem_append.mp hx).elim (hn2 x) fun h => by rw [List.mem_singleton.mp h]; exact c, _, rfl⟩)
      · rintro ψ g4 ⟨rfl, hn2, t4, rfl⟩
        refine now ⟨by simp, hK _ _ ⟨rfl, fun d hd h => ?_, _, _, rfl⟩⟩
        rcases List.mem_append.mp h with h | h
        · exact hno d hd h
        · exact hn2 d (List.mem_filter.mpr ⟨hd, by simpa using h⟩)
    · rintro ψ g2 ⟨rfl, hno, t3, t4, rfl⟩
      exact hn _ _ ⟨rfl, hno⟩
  · rintro ψ g2 ⟨rfl, hno⟩
    simp
    refine e3 false ?_
    cases h : hasDoor m f s with
    | false => rfl
    | true =>
      obtain ⟨d, h1, h2, h3⟩ := hasDoor_iff.mp h
      exact absurd h3 (hno d h1 h2)
/-- what may come, what is foreseen -/
def mayCome (m : Mch) (f : List (List Nat)) : List Sgn := (m.says.filter fun w => hasDoor m f [wSay, w]).map (fun w => [wSay, w]) ++ if f.filter (quietB m) = [] then [] else [[wHush]]
def foreseenB (m : Mch) (f : List (List Nat)) : List (List Nat) := m.asks.filter fun w => hasDoor m f [wAsk, w]
structure Mf where
  p : Nat
  m : Mch
  f : List (List Nat)
def d_maycome : Sg Mf := ⟨fun x ss g => ss = [.d (.ref x.p), .d (.tup (T x.f))] ∧ MachD g x.p x.m ∧ MOk x.m ∧ Bd x.m ∧ (∀ w ∈ x.f, w ∈ x.m.rooms) ∧ x.f.length ≤ 200,
  fun x g r g' => g' = g ∧ r = .own (.lst ((mayCome x.m x.f).map sg)), fun _ _ _ _ => False⟩
theorem k_maycome : Keeps d_maycome.wp (b_may_come d_saysD.wp d_hasdoor.wp d_behind.wp) 4 := by
  rintro ss g E Q ⟨⟨p, m, f⟩, ⟨rfl, hM, ok, B, hf, hl⟩, hq, _⟩
  have h8 := most_is
  have hsl := B.s
  simp only at hf hl hsl
  simp [b_may_come, begin_]
  rw [s_sSeq]; simp [hM.ins (f := "says") rfl]
  refine call_of ⟨p, m⟩ ⟨rfl, hM⟩ ?_
  rintro r g1 ⟨rfl, rfl⟩
  simp [lendAll, lend, wipe]
  refine comp_map D.str (fun w => hasDoor m f [wSay, w]) (fun w => sg [wSay, w]) m.says (by omega) ?_ ?_
  · intro w hw acc K ha h1 h2
    simp
    refine call_of ⟨p, m, f, [wSay, w]⟩ ⟨rfl, hM, ok, hf⟩ ?_
    rintro r g2 ⟨rfl, rfl⟩
    cases b : hasDoor m f [wSay, w] with
    | true => simp [b, ha]; simpa using h1 b
    | false => simp [b]; exact h2 b
  have em : (m.says.filter fun w => hasDoor m f [wSay, w]).map (fun w => sg [wSay, w]) = ((m.says.filter fun w => hasDoor m f [wSay, w]).map fun w => [wSay, w]).map sg := by rw [List.map_map]; rfl
  rw [em]
  have hwl : ((m.says.filter fun w => hasDoor m f [wSay, w]).map fun w => [wSay, w]).length < most := by
    have := List.length_filter_le (fun w => hasDoor m f [wSay, w]) m.says
    rw [List.length_map]; omega
  have hmc : mayCome m f = ((m.says.filter fun w => hasDoor m f [wSay, w]).map fun w => [wSay, w]) ++ if f.filter (quietB m) = [] then [] else [[wHush]] := rfl
  generalize (m.says.filter fun w => hasDoor m f [wSay, w]).map (fun w => [wSay, w]) = L at hwl hmc
  simp
  rw [s_sSeq]; simp
  refine call_of ⟨p, m, f, [wHush]⟩ ⟨rfl, hM, ok, hf, hl⟩ ?_
  rintro r g2 ⟨rfl, rfl⟩
  have hb : behind m f [wHush] = f.filter (quietB m) := if_pos rfl
  simp only [hb]
  by_cases c : f.filter (quietB m) = []
  · simp [c]
    exact ret_now (hq _ _ ⟨rfl, by simp [hmc, c]⟩)
  · simp [c, hwl]
    exact ret_now (hq _ _ ⟨rfl, by simp [hmc, c]⟩)
def d_foreseen : Sg Mf := ⟨d_maycome.pre, fun x g r g' => g' = g ∧ r = .own (.lst (T (foreseenB x.m x.f))), fun _ _ _ _ => False⟩
theorem k_foreseen : Keeps d_foreseen.wp (b_foreseen d_asksD.wp d_hasdoor.wp) 3 := by
  rintro ss g E Q ⟨⟨p, m, f⟩, ⟨rfl, hM, ok, B, hf, hl⟩, hq, _⟩
  have h8 := most_is
  have hsl := B.a
  simp only at hf hl hsl
  simp [b_foreseen, begin_, hM.ins (f := "asks") rfl]
  refine call_of ⟨p, m⟩ ⟨rfl, hM⟩ ?_
  rintro r g1 ⟨rfl, rfl⟩
  simp [lendAll, lend, wipe]
  refine comp_map D.str (fun w => hasDoor m f [wAsk, w]) D.str m.asks (by omega) ?_ ?_
  · intro w hw acc K ha h1 h2
    simp
    refine call_of ⟨p, m, f, [wAsk, w]⟩ ⟨rfl, hM, ok, hf⟩ ?_
    rintro r g2 ⟨rfl, rfl⟩
    cases b : hasDoor m f [wAsk, w] with
    | true => simp [b, ha]; exact h1 b
    | false => simp [b]; exact h2 b
  · simp
    exact ret_now (hq _ _ ⟨rfl, rfl⟩)
structure Lfc where
  x : Tm
  st : List Sgn
def d_lface : Sg Lfc := ⟨fun x ss g => (∃ s1, ss = [.d x.x.d, s1] ∧ lookS g s1 = some (.o (.lst (x.st.map sg)))) ∧ Told g x.x ∧ MOk x.x.m, fun x g r g' => g' = g ∧ r = .d (.tup (T (faceOf x.x.m x.st))), fun _ _ _ _ => False⟩
theorem k_lface : Keeps d_lface.wp (b__law_face d_lon.wp d_lbehind.wp) 4 := by
  rintro ss g E Q ⟨⟨⟨m, a1, a2, a3, a4⟩, st⟩, ⟨⟨s1, rfl, h1⟩, tl, ok⟩, hq, _⟩
  have hrl := ok.rl
  simp only at h1 hrl
  simp [b__law_face, begin_]
  rw [s_sSeq]; simp [tl.e3]
  refine call_of ⟨⟨m, a1, a2, a3, a4⟩, m.rooms.take 1⟩ ⟨⟨_, rfl, by simp [List.map_take]⟩, tl, ok, by simp only [List.length_take]; omega⟩ ?_
  rintro r g1 ⟨rfl, rfl⟩
  simp
  refine seq_of (fun ψ g => g = g1 ∧ ∃ t3, ψ = [some (.d (Tm.d ⟨m, a1, a2, a3, a4⟩)), some s1, some (.d (.tup (T (faceOf m st)))), t3]) (fun nx hn => ?_) ?_
  · simp [h1]
    refine for_map sg st (fun done ψ g => g = g1 ∧ ∃ t3, ψ = [some (.d (Tm.d ⟨m, a1, a2, a3, a4⟩)), some s1, some (.d (.tup (T (faceOf m done)))), t3]) ?_ ?_ _ _ ⟨rfl, _, rfl⟩
    · rintro done s rest ed ψ g2 K ⟨rfl, t3, rfl⟩ hK
      have := faceOf_len m done
      simp
      refine call_of ⟨⟨m, a1, a2, a3, a4⟩, faceOf m done, s⟩ ⟨rfl, tl, ok, by simp only; omega⟩ ?_
      rintro r g3 ⟨rfl, rfl⟩
      simp
      exact now ⟨h1, hK _ _ ⟨rfl, _, by rw [faceOf_snoc]⟩⟩
    · rintro ψ g2 ⟨rfl, t3, rfl⟩
      exact hn _ _ ⟨rfl, _, rfl⟩
  · rintro ψ g2 ⟨rfl, t3, rfl⟩
    simp
    exact ret_now (hq _ _ ⟨rfl, rfl⟩)
end Pd
set_option linter.all false
set_option maxRecDepth 10000
namespace Pd
theorem den_lst {n : Nat} {g : G} {s : List (List Nat)} (h : s.length < 4000) : denC (den (n + 1) g) (.o (.lst (T s))) = some (.rol (T s)) := by
  show (if (T s).length < 4000 then (denL (den (n + 1) g) (T s)).map D.rol else none) = _
  rw [if_pos (by simpa using h), den_T (n + 1) g (by omega)]; rfl
/-! where still doors end -/
open Classical in
theorem sink {m : Mch} {mo : Nat} (gm : GM m mo) (ok : MOk m) (s : List (List Nat)) : ∀ (n : Nat) (r : List Nat), r ∈ closed m s → (m.rooms.filter fun y => decide (Reach m.doors r y)).length < n → ∃ x ∈ closed m s, ∀ y, ¬ Still m.doors x y
  | 0, _, _, h => by omega
  | n + 1, r, hr, h => by
    by_cases c : ∃ y, Still m.doors r y
    · obtain ⟨o, ho⟩ := c
      refine sink gm ok s n o (closed_more ok hr ho) ?_
      have hsub : ∀ x ∈ o :: m.rooms.filter (fun y => decide (Reach m.doors o y)), x ∈ m.rooms.filter (fun y => decide (Reach m.doors r y)) := fun x hx => by
        rcases List.mem_cons.mp hx with rfl | hx
        · obtain ⟨d, h1, _, _, h4⟩ := id ho
          exact List.mem_filter.mpr ⟨h4 ▸ (ok.en d h1).2, decide_eq_true (.one ho)⟩
        · obtain ⟨h1, h2⟩ := List.mem_filter.mp hx
          exact List.mem_filter.mpr ⟨h1, decide_eq_true (Reach.cons ho (of_decide_eq_true h2))⟩
      have hnd : (o :: m.rooms.filter (fun y => decide (Reach m.doors o y))).Nodup := by
        refine List.nodup_cons.mpr ⟨fun z => ?_, ok.nd.sublist List.filter_sublist⟩
        exact gm.loose o (of_decide_eq_true (List.mem_filter.mp z).2)
      have := pigeon hnd hsub
      rw [List.length_cons] at this
      omega
    · exact ⟨r, hr, fun y hy => c ⟨y, hy⟩⟩
theorem sign_of {m : Mch} {mo : Nat} (gm : GM m mo) {d : Dr} (hd : d ∈ m.doors) : (∃ w ∈ m.asks, d.s = [wAsk, w]) ∨ (∃ w ∈ m.says, d.s = [wSay, w]) ∨ d.s = [wStill] := by
  have h := gm.sign hd
  rcases (gm.two d hd).cases with ⟨x, e⟩ | ⟨x, y, e⟩
  · rw [e] at h ⊢
    simp [isSign] at h
    exact .inr (.inr (by rw [h]))
  · rw [e] at h ⊢
    simp only [isSign] at h
    split at h
    · rename_i c; exact .inl ⟨y, of_decide_eq_true h, by rw [c]⟩
    · rw [Bool.and_eq_true] at h
      exact .inr (.inl ⟨y, of_decide_eq_true h.2, by rw [of_decide_eq_true h.1]⟩)
theorem mayCome_closed {m : Mch} {mo : Nat} (gm : GM m mo) (ok : MOk m) {s : List (List Nat)} (h : closed m s ≠ []) : mayCome m (closed m s) ≠ [] := by
  classical
  obtain ⟨r, rs, hr⟩ : ∃ r rs, closed m s = r :: rs := by
    cases h' : closed m s with
    | nil => exact absurd h' h
    | cons r rs => exact ⟨r, rs, rfl⟩
  obtain ⟨x, hx, hno⟩ := sink gm ok s _ r (by rw [hr]; simp) (Nat.lt_succ_self _)
  intro z
  obtain ⟨z1, z2⟩ := List.append_eq_nil_iff.mp (show _ ++ _ = [] from z)
  by_cases q : quietB m x = true
  · rw [if_neg fun y => by
      have := List.mem_filter.mpr ⟨hx, q⟩
      rw [y] at this; cases this] at z2
    cases z2
  · obtain ⟨d, hd, hdr, hda⟩ : ∃ d ∈ m.doors, d.r = x ∧ isAsk d ≠ true := by
      by_cases c : ∃ d ∈ m.doors, d.r = x ∧ isAsk d ≠ true
      · exact c
      · refine absurd (quietB_iff.mpr fun d hd e => ?_) q
        by_cases b : isAsk d = true
        · exact b
        · exact absurd ⟨d, hd, e, b⟩ c
    rcases sign_of gm hd with ⟨w, _, e⟩ | ⟨w, hw, e⟩ | e
    · exact hda (by simp [isAsk, e])
    · have : [wSay, w] ∈ (m.says.filter fun w => hasDoor m (closed m s) [wSay, w]).map (fun w => [wSay, w]) :=
        List.mem_map_of_mem (f := fun w => [wSay, w]) (List.mem_filter.mpr ⟨hw, hasDoor_iff.mpr ⟨d, hd, hdr ▸ hx, e⟩⟩)
      rw [z1] at this; cases this
    · exact hno d.o ⟨d, hd, hdr, e, rfl⟩
theorem mayCome_face {m : Mch} {mo : Nat} (gm : GM m mo) (ok : MOk m) (st : List Sgn) (h : faceOf m st ≠ []) : mayCome m (faceOf m st) ≠ [] := by
  rcases List.eq_nil_or_concat st with rfl | ⟨st', s, rfl⟩
  · exact mayCome_closed gm ok h
  · rw [List.concat_eq_append, faceOf_snoc] at h ⊢
    unfold behind at h ⊢
    split at h
    · rename_i c
      rw [if_pos c]
      intro z
      obtain ⟨z1, z2⟩ := List.append_eq_nil_iff.mp (show _ ++ _ = [] from z)
      rw [if_neg] at z2
      · cases z2
      · rw [List.filter_filter]
        have : (fun a => quietB m a && quietB m a) = quietB m := by funext a; simp
        rw [this]; exact h
    · rename_i c
      rw [if_neg c]
      exact mayCome_closed gm ok h
end Pd
set_option Elab.async false
set_option linter.all false
namespace Pd
/-- is_walk(M, story, walk) -/
def b_is_walk (φ_Machine_doors φ_Machine_rooms φ_Machine_is_quiet : SpD) : WS :=
  (sSeq (sSet 3 (eMeth "Machine" "doors" φ_Machine_doors [] (eVar 0) aNil)) (sSeq (sSet 4 (eBin oIx (eMeth "Machine" "rooms" φ_Machine_rooms [] (eVar 0) aNil) (eC (.int 0)))) (sSeq (sSet 5 (eLst dNil)) (sSeq (sFor (iIt (eVar 2)) (gName 6) (sSeq (sIf (tV (eBin oNe (eBin oIx (eVar 6) (eC (.int 0))) (eVar 4))) (sRet (eC (.bl false))) sNx) (sSeq (sIf (tV (eBin oEq (eBin oIx (eVar 6) (eC (.int 1))) (eTup (dCons (eC (.str [104, 117, 115, 104])) dNil)))) (sIf (tOr (tV (eBin oNe (eBin oIx (eVar 6) (eC (.int 2))) (eVar 4))) (tNot (tV (eMeth "Machine" "is_quiet" φ_Machine_is_quiet [false] (eVar 0) (aCons (eVar 4) aNil))))) (sRet (eC (.bl false))) sNx) (sIf (tV (eBin oNin (eVar 6) (eVar 3))) (sRet (eC (.bl false))) sNx)) (sSeq (sIf (tV (eBin oNe (eBin oIx (eVar 6) (eC (.int 1))) (eTup (dCons (eC (.str [115, 116, 105, 108, 108])) dNil)))) (sE (eMut mAppend (eVar 5) (dCons (eBin oIx (eVar 6) (eC (.int 1))) dNil))) sNx) (sSet 4 (eBin oIx (eVar 6) (eC (.int 2)))))))) (sRet (eBin oEq (eVar 5) (eVar 1)))))))
/-- _law_is_walked(told, story, walk) -/
def b__law_is_walked (φ__law_is_quiet : SpD) : WS :=
  (sSeq (sIf (tNot (tV (eUn (oIsT .list) (eVar 2)))) (sRet (eC (.bl false))) sNx) (sSeq (sSet 3 (eBin oIx (eBin oIx (eVar 0) (eC (.int 2))) (eC (.int 0)))) (sSeq (sSet 4 (eLst dNil)) (sSeq (sFor (iIt (eVar 2)) (gName 5) (sSeq (sIf (tOr (tNot (tV (eUn (oIsT .tuple) (eVar 5)))) (tOr (tV (eBin oNe (eUn oLen (eVar 5)) (eC (.int 3)))) (tV (eBin oNe (eBin oIx (eVar 5) (eC (.int 0))) (eVar 3))))) (sRet (eC (.bl false))) sNx) (sSeq (sIf (tV (eBin oEq (eBin oIx (eVar 5) (eC (.int 1))) (eTup (dCons (eC (.str [104, 117, 115, 104])) dNil)))) (sIf (tOr (tV (eBin oNe (eBin oIx (eVar 5) (eC (.int 2))) (eVar 3))) (tNot (tV (eCall φ__law_is_quiet [false, false] (aCons (eVar 0) (aCons (eVar 3) aNil)))))) (sRet (eC (.bl false))) sNx) (sIf (tV (eBin oNin (eVar 5) (eBin oIx (eVar 0) (eC (.int 3))))) (sRet (eC (.bl false))) sNx)) (sSeq (sIf (tV (eBin oNe (eBin oIx (eVar 5) (eC (.int 1))) (eTup (dCons (eC (.str [115, 116, 105, 108, 108])) dNil)))) (sE (eMut mAppend (eVar 4) (dCons (eBin oIx (eVar 5) (eC (.int 1))) dNil))) sNx) (sSet 3 (eBin oIx (eVar 5) (eC (.int 2)))))))) (sRet (eBin oEq (eVar 4) (eVar 1)))))))
end Pd
set_option linter.all false
set_option maxRecDepth 10000
namespace Pd
/-! walks -/
def stepW (m : Mch) (st : List Nat × List Sgn) (d : Dr) : Option (List Nat × List Sgn) :=
  if d.r = st.1 ∧ (if d.s = [wHush] then d.o = st.1 ∧ quietB m st.1 = true else d ∈ m.doors) then some (d.o, if d.s = [wStill] then st.2 else st.2 ++ [d.s]) else none
def runW (m : Mch) (r : List Nat) (w : List Dr) : Option (List Nat × List Sgn) := w.foldlM (stepW m) (r, [])
def headR (m : Mch) : List Nat := m.rooms.headD []
def isWalkB (m : Mch) (story : List Sgn) (w : List Dr) : Bool := match runW m (headR m) w with
  | some st => decide (st.2 = story)
  | none => false
theorem runW_snoc (m : Mch) (r : List Nat) (w : List Dr) (d : Dr) : runW m r (w ++ [d]) = (runW m r w).bind fun st => stepW m st d := by
  unfold runW
  rw [List.foldlM_append]
  cases h : List.foldlM (stepW m) (r, []) w with
  | none => rfl
  | some st =>
    show (stepW m st d).bind pure = stepW m st d
    cases stepW m st d <;> rfl
theorem runW_none {m : Mch} {r : List Nat} {w u : List Dr} (h : runW m r w = none) : runW m r (w ++ u) = none := by
  unfold runW at *
  rw [List.foldlM_append, h]; rfl
theorem stepW_some {m : Mch} {st st' : List Nat × List Sgn} {d : Dr} (h : stepW m st d = some st') : (d.r = st.1 ∧ (if d.s = [wHush] then d.o = st.1 ∧ quietB m st.1 = true else d ∈ m.doors)) ∧ st' = (d.o, if d.s = [wStill] then st.2 else st.2 ++ [d.s]) := by
  unfold stepW at h
  by_cases c : d.r = st.1 ∧ (if d.s = [wHush] then d.o = st.1 ∧ quietB m st.1 = true else d ∈ m.doors)
  · rw [if_pos c] at h
    exact ⟨c, (Option.some.inj h).symm⟩
  · rw [if_neg c] at h; cases h
theorem step_in {m : Mch} (ok : MOk m) {st st' : List Nat × List Sgn} {d : Dr} (h1 : st.1 ∈ m.rooms) (h : stepW m st d = some st') : st'.1 ∈ m.rooms := by
  obtain ⟨c, rfl⟩ := stepW_some h
  by_cases e : d.s = [wHush]
  · rw [if_pos e] at c; exact c.2.1 ▸ h1
  · rw [if_neg e] at c; exact (ok.en d c.2).2
theorem run_len {m : Mch} {st st' : List Nat × List Sgn} {d : Dr} (h : stepW m st d = some st') : st'.2.length ≤ st.2.length + 1 := by
  obtain ⟨c, rfl⟩ := stepW_some h
  show (if _ then _ else _ : List Sgn).length ≤ _
  split <;> simp
@[simp] theorem ne_t1 (g : G) (a : List (List Nat)) (s : List Nat) : oNe g (.d (.tup (a.map D.str))) (.d (.tup [.str s])) = some (.d (.bl (!decide (a = [s])))) := ne_tT g a [s]
@[simp] theorem ne_t2 (g : G) (a : List (List Nat)) (s t : List Nat) : oNe g (.d (.tup (a.map D.str))) (.d (.tup [.str s, .str t])) = some (.d (.bl (!decide (a = [s, t])))) := ne_tT g a [s, t]
@[simp] theorem ne_00 (g : G) : oNe g (.o (.lst [])) (.o (.lst [])) = some (.d (.bl false)) := by
  have := ne_sgs0 g []
  simpa using this
@[simp] theorem eq_00 (g : G) : oEq g (.o (.lst [])) (.o (.lst [])) = some (.d (.bl true)) := by
  have := eq_sgs0 g []
  simpa using this
@[simp] theorem ne_11 (g : G) (a b : List Nat) : oNe g (.d (.tup [.str a])) (.d (.tup [.str b])) = some (.d (.bl (!decide (a = b)))) := by
  have := ne_tT g [a] [b]
  simpa using this
@[simp] theorem ne_21 (g : G) (a a' b : List Nat) : oNe g (.d (.tup [.str a, .str a'])) (.d (.tup [.str b])) = some (.d (.bl true)) := by
  have := ne_tT g [a, a'] [b]
  simpa using this
@[simp] theorem ne_22 (g : G) (a a' b b' : List Nat) : oNe g (.d (.tup [.str a, .str a'])) (.d (.tup [.str b, .str b'])) = some (.d (.bl (!decide (a = b ∧ a' = b')))) := by
  have := ne_tT g [a, a'] [b, b']
  simpa using this
@[simp] theorem ne_12 (g : G) (a b b' : List Nat) : oNe g (.d (.tup [.str a])) (.d (.tup [.str b, .str b'])) = some (.d (.bl true)) := by
  have := ne_tT g [a] [b, b']
  simpa using this
theorem head_of {m : Mch} (h : m.rooms ≠ []) : m.rooms[0]? = some (headR m) ∧ headR m ∈ m.rooms := by
  unfold headR
  cases e : m.rooms with
  | nil => exact absurd e h
  | cons r rs => exact ⟨rfl, by simp⟩
@[simp] theorem eq_Ls (g : G) (a b : List Sgn) : oEq g (.o (.lst (a.map sg))) (.o (.lst (b.map sg))) = some (.d (.bl (decide (a = b)))) := eq_sgs g a b
structure Iw where
  x : Tm
  st : List Sgn
  w : List Dr
def d_iswalked : Sg Iw := ⟨fun x ss g => (∃ s1 s2, ss = [.d x.x.d, s1, s2] ∧ lookS g s1 = some (.o (.lst (x.st.map sg))) ∧ lookS g s2 = some (.o (.lst (Ds x.w)))) ∧ Told g x.x ∧ MOk x.x.m ∧ x.x.m.rooms ≠ [] ∧ x.w.length ≤ 4000 ∧ ∀ d ∈ x.w, Two d.s,
  fun x g r g' => g' = g ∧ r = .d (.bl (isWalkB x.x.m x.st x.w)), fun _ _ _ _ => False⟩
theorem k_iswalked : Keeps d_iswalked.wp (b__law_is_walked d_lquiet.wp) 6 := by
  rintro ss g E Q ⟨⟨⟨m, a1, a2, a3, a4⟩, st, w⟩, ⟨⟨s1, s2, rfl, h1, h2⟩, tl, ok, hr0, hl, htwo⟩, hq, _⟩
  have h8 := most_is
  simp only at h1 h2 hl htwo hr0
  obtain ⟨hz, hzin⟩ := head_of hr0
  have fin : ∀ b : Bool, b = isWalkB m st w → ∃ g2, G.le g2 g ∧ Q (.d (.bl b)) g2 := fun b e => ret_now (hq _ _ ⟨rfl, by rw [e]⟩)
  simp [b__law_is_walked, begin_]
  rw [s_sSeq]; simp [h2]
  rw [s_sSeq]; simp [tl.e3, hz]
  rw [s_sSeq]; simp
  refine seq_of (fun ψ g2 => g2 = g ∧ ∃ h : List Nat × List Sgn, runW m (headR m) w = some h ∧ ∃ t5, ψ = [some (.d (Tm.d ⟨m, a1, a2, a3, a4⟩)), some s1, some s2, some (.d (.str h.1)), some (.own (.lst (h.2.map sg))), t5]) (fun nx hn => ?_) ?_
  · simp [h2]
    refine for_map dr w (fun done ψ g2 => g2 = g ∧ ∃ h : List Nat × List Sgn, (runW m (headR m) done = some h ∧ h.1 ∈ m.rooms ∧ h.2.length ≤ done.length) ∧ ∃ t5, ψ = [some (.d (Tm.d ⟨m, a1, a2, a3, a4⟩)), some s1, some s2, some (.d (.str h.1)), some (.own (.lst (h.2.map sg))), t5]) ?_ ?_ _ _ ⟨rfl, (headR m, []), ⟨rfl, hzin, by simp⟩, _, rfl⟩
    · rintro done ⟨r, s, o⟩ rest ed ψ g2 K ⟨rfl, ⟨room, heard⟩, ⟨hrun, hin, hhl⟩, t5, rfl⟩ hK
      simp only at hin hhl
      have hdl : done.length < w.length := by rw [ed]; simp
      have hlm : heard.length < most := by omega
      have stop : ¬ (r = room ∧ (if s = [wHush] then o = room ∧ quietB m room = true else ⟨r, s, o⟩ ∈ m.doors)) → ∃ g3, G.le g3 g2 ∧ Q (.d (.bl false)) g3 := fun e => fin false (by
        have h0 : stepW m (room, heard) ⟨r, s, o⟩ = none := if_neg e
        have : runW m (headR m) (done ++ [⟨r, s, o⟩]) = none := by rw [runW_snoc, hrun]; exact h0
        have := runW_none (u := rest) this
        rw [List.append_assoc] at this
        unfold isWalkB
        rw [ed, show done ++ ⟨r, s, o⟩ :: rest = done ++ ([⟨r, s, o⟩] ++ rest) from rfl, this])
      have go : (r = room ∧ (if s = [wHush] then o = room ∧ quietB m room = true else ⟨r, s, o⟩ ∈ m.doors)) → ∀ t5, ∃ g3, G.le g3 g2 ∧ lookS g3 s2 = some (.o (.lst (Ds w))) ∧ K [some (.d (Tm.d ⟨m, a1, a2, a3, a4⟩)), some s1, some s2, some (.d (.str o)), some (.own (.lst ((if s = [wStill] then heard else heard ++ [s]).map sg))), t5] g3 := fun c t5 => by
        have e : stepW m (room, heard) ⟨r, s, o⟩ = some (o, if s = [wStill] then heard else heard ++ [s]) := if_pos c
        exact now ⟨h2, hK _ _ ⟨rfl, (o, if s = [wStill] then heard else heard ++ [s]), ⟨by rw [runW_snoc, hrun]; exact e, step_in ok hin e, by have := run_len e; simp only at this; simp; omega⟩, t5, rfl⟩⟩
      simp
      rw [s_sSeq]; simp
      by_cases c1 : r = room
      · subst c1
        simp
        refine seq_of (fun ψ g3 => g3 = g2 ∧ (r = r ∧ (if s = [wHush] then o = r ∧ quietB m r = true else ⟨r, s, o⟩ ∈ m.doors)) ∧ ψ = [some (.d (Tm.d ⟨m, a1, a2, a3, a4⟩)), some s1, some s2, some (.d (.str r)), some (.own (.lst (heard.map sg))), some (.d (.tup [.str r, .tup (T s), .str o]))]) (fun nx hn => ?_) ?_
        · by_cases c2 : s = [wHush]
          · simp [c2]
            by_cases c3 : o = r
            · simp [c3]
              refine call_of ⟨⟨m, a1, a2, a3, a4⟩, r⟩ ⟨rfl, tl, ok⟩ ?_
              rintro r' g3 ⟨rfl, rfl⟩
              cases c4 : quietB m r with
              | false =>
                simp [c4]
                exact stop (by rw [if_pos c2]; simp [c4])
              | true =>
                simp [c4]
                exact hn _ _ ⟨rfl, ⟨rfl, by rw [if_pos c2]; exact ⟨c3, c4⟩⟩, by rw [c2, c3]⟩
            · simp [c3]
              exact stop (by rw [if_pos c2]; simp [c3])
          · simp [c2, tl.e4]
            split
            · rename_i c3
              exact hn _ _ ⟨rfl, ⟨rfl, by rw [if_neg c2]; exact c3⟩, rfl⟩
            · rename_i c3
              exact stop (by rw [if_neg c2]; exact fun z => c3 z.2)
        · rintro ψ g3 ⟨rfl, hc, rfl⟩
          have go' := go hc
          rw [s_sSeq]; simp
          by_cases c5 : s = [wStill]
          · simp only [if_pos c5] at go'
            simp [c5]
            exact go' _
          · simp only [if_neg c5] at go'
            simp [c5, hlm]
            simpa using go' _
      · simp [c1]
        exact stop fun z => c1 z.1
    · rintro ψ g2 ⟨rfl, h, ⟨h3, _⟩, t5, rfl⟩
      exact hn _ _ ⟨rfl, h, h3, _, rfl⟩
  · rintro ψ g2 ⟨rfl, ⟨room, heard⟩, h3, t5, rfl⟩
    simp [h1]
    refine fin _ ?_
    unfold isWalkB
    rw [h3]
structure Iw2 where
  p : Nat
  m : Mch
  st : List Sgn
  w : List Dr
def d_iswalk : Sg Iw2 := ⟨fun x ss g => (∃ s1 s2, ss = [.d (.ref x.p), s1, s2] ∧ lookS g s1 = some (.o (.lst (x.st.map sg))) ∧ lookS g s2 = some (.o (.lst (Ds x.w)))) ∧ MachD g x.p x.m ∧ MOk x.m ∧ x.m.rooms ≠ [] ∧ x.w.length ≤ 4000 ∧ ∀ d ∈ x.w, Two d.s,
  fun x g r g' => g' = g ∧ r = .d (.bl (isWalkB x.m x.st x.w)), fun _ _ _ _ => False⟩
theorem k_iswalk : Keeps d_iswalk.wp (b_is_walk d_doorsD.wp d_roomsD.wp d_quiet.wp) 7 := by
  rintro ss g E Q ⟨⟨p, m, st, w⟩, ⟨⟨s1, s2, rfl, h1, h2⟩, hM, ok, hr0, hl, htwo⟩, hq, _⟩
  have h8 := most_is
  simp only at h1 h2 hl htwo hr0
  obtain ⟨hz, hzin⟩ := head_of hr0
  have fin : ∀ b : Bool, b = isWalkB m st w → ∃ g2, G.le g2 g ∧ Q (.d (.bl b)) g2 := fun b e => ret_now (hq _ _ ⟨rfl, by rw [e]⟩)
  simp [b_is_walk, begin_]
  rw [s_sSeq]; simp [hM.ins (f := "doors") rfl]
  refine call_of ⟨p, m⟩ ⟨rfl, hM⟩ ?_
  rintro r g1 ⟨rfl, rfl⟩
  simp
  rw [s_sSeq]; simp [hM.ins (f := "rooms") rfl]
  refine call_of ⟨p, m⟩ ⟨rfl, hM⟩ ?_
  rintro r g0 ⟨rfl, rfl⟩
  simp [hz]
  rw [s_sSeq]; simp
  refine seq_of (fun ψ g2 => g2 = g0 ∧ ∃ h : List Nat × List Sgn, runW m (headR m) w = some h ∧ ∃ t5, ψ = [some (.d (.ref p)), some s1, some s2, some (.own (.lst (Ds m.doors))), some (.d (.str h.1)), some (.own (.lst (h.2.map sg))), t5]) (fun nx hn => ?_) ?_
  · simp [h2]
    refine for_map dr w (fun done ψ g2 => g2 = g0 ∧ ∃ h : List Nat × List Sgn, (runW m (headR m) done = some h ∧ h.1 ∈ m.rooms ∧ h.2.length ≤ done.length) ∧ ∃ t5, ψ = [some (.d (.ref p)), some s1, some s2, some (.own (.lst (Ds m.doors))), some (.d (.str h.1)), some (.own (.lst (h.2.map sg))), t5]) ?_ ?_ _ _ ⟨rfl, (headR m, []), ⟨rfl, hzin, by simp⟩, _, rfl⟩
    · rintro done ⟨r, s, o⟩ rest ed ψ g2 K ⟨rfl, ⟨room, heard⟩, ⟨hrun, hin, hhl⟩, t5, rfl⟩ hK
      simp only at hin hhl
      have hdl : done.length < w.length := by rw [ed]; simp
      have hlm : heard.length < most := by omega
      have stop : ¬ (r = room ∧ (if s = [wHush] then o = room ∧ quietB m room = true else ⟨r, s, o⟩ ∈ m.doors)) → ∃ g3, G.le g3 g2 ∧ Q (.d (.bl false)) g3 := fun e => fin false (by
        have h0 : stepW m (room, heard) ⟨r, s, o⟩ = none := if_neg e
        have : runW m (headR m) (done ++ [⟨r, s, o⟩]) = none := by rw [runW_snoc, hrun]; exact h0
        have := runW_none (u := rest) this
        rw [List.append_assoc] at this
        unfold isWalkB
        rw [ed, show done ++ ⟨r, s, o⟩ :: rest = done ++ ([⟨r, s, o⟩] ++ rest) from rfl, this])
      have go : (r = room ∧ (if s = [wHush] then o = room ∧ quietB m room = true else ⟨r, s, o⟩ ∈ m.doors)) → ∀ t5, ∃ g3, G.le g3 g2 ∧ lookS g3 s2 = some (.o (.lst (Ds w))) ∧ K [some (.d (.ref p)), some s1, some s2, some (.own (.lst (Ds m.doors))), some (.d (.str o)), some (.own (.lst ((if s = [wStill] then heard else heard ++ [s]).map sg))), t5] g3 := fun c t5 => by
        have e : stepW m (room, heard) ⟨r, s, o⟩ = some (o, if s = [wStill] then heard else heard ++ [s]) := if_pos c
        exact now ⟨h2, hK _ _ ⟨rfl, (o, if s = [wStill] then heard else heard ++ [s]), ⟨by rw [runW_snoc, hrun]; exact e, step_in ok hin e, by have := run_len e; simp only at this; simp; omega⟩, t5, rfl⟩⟩
      simp
      rw [s_sSeq]; simp
      by_cases c1 : r = room
      · subst c1
        simp
        refine seq_of (fun ψ g3 => g3 = g2 ∧ (r = r ∧ (if s = [wHush] then o = r ∧ quietB m r = true else ⟨r, s, o⟩ ∈ m.doors)) ∧ ψ = [some (.d (.ref p)), some s1, some s2, some (.own (.lst (Ds m.doors))), some (.d (.str r)), some (.own (.lst (heard.map sg))), some (.d (.tup [.str r, .tup (T s), .str o]))]) (fun nx hn => ?_) ?_
        · by_cases c2 : s = [wHush]
          · simp [c2]
            by_cases c3 : o = r
            · simp [c3]
              refine ⟨hM.ins (f := "is_quiet") rfl, ?_⟩
              refine call_of ⟨p, m, r⟩ ⟨rfl, hM, ok, hin⟩ ?_
              rintro r' g3 ⟨rfl, rfl⟩
              cases c4 : quietB m r with
              | false =>
                simp [c4]
                exact stop (by rw [if_pos c2]; simp [c4])
              | true =>
                simp [c4]
                exact hn _ _ ⟨rfl, ⟨rfl, by rw [if_pos c2]; exact ⟨c3, c4⟩⟩, by rw [c2, c3]; rfl⟩
            · simp [c3]
              exact stop (by rw [if_pos c2]; simp [c3])
          · simp [c2]
            split
            · rename_i c3
              exact hn _ _ ⟨rfl, ⟨rfl, by rw [if_neg c2]; exact c3⟩, rfl⟩
            · rename_i c3
              exact stop (by rw [if_neg c2]; exact fun z => c3 z.2)
        · rintro ψ g3 ⟨rfl, hc, rfl⟩
          have go' := go hc
          rw [s_sSeq]; simp
          by_cases c5 : s = [wStill]
          · simp only [if_pos c5] at go'
            simp [c5]
            exact go' _
          · simp only [if_neg c5] at go'
            simp [c5, hlm]
            simpa using go' _
      · simp [c1]
        exact stop fun z => c1 z.1
    · rintro ψ g2 ⟨rfl, h, ⟨h3, _⟩, t5, rfl⟩
      exact hn _ _ ⟨rfl, h, h3, _, rfl⟩
  · rintro ψ g2 ⟨rfl, ⟨room, heard⟩, h3, t5, rfl⟩
    simp [h1]
    refine fin _ ?_
    unfold isWalkB
    rw [h3]
end Pd
set_option Elab.async false
set_option linter.all false
namespace Pd
/-- steps_at(M, story, spot) -/
def b_steps_at (φ_Machine_doors_from φ_Machine_is_quiet : SpD) : WS :=
  (sSeq (sUnp (gTup [(gName 3), (gName 4)]) (eVar 2)) (sSeq (sSet 5 (eLst dNil)) (sSeq (sFor (iIt (eNs (eMeth "Machine" "doors_from" φ_Machine_doors_from [false] (eVar 0) (aCons (eVar 4) aNil)))) (gName 6) (sIf (tV (eBin oEq (eBin oIx (eVar 6) (eC (.int 1))) (eTup (dCons (eC (.str [115, 116, 105, 108, 108])) dNil)))) (sE (eMut mAppend (eVar 5) (dCons (eTup (dCons (eVar 6) (dCons (eTup (dCons (eVar 3) (dCons (eBin oIx (eVar 6) (eC (.int 2))) dNil))) dNil))) dNil))) (sIf (tAnd (tV (eBin oLt (eVar 3) (eUn oLen (eVar 1)))) (tV (eBin oEq (eBin oIx (eVar 6) (eC (.int 1))) (eBin oIx (eVar 1) (eVar 3))))) (sE (eMut mAppend (eVar 5) (dCons (eTup (dCons (eVar 6) (dCons (eTup (dCons (eBin oAdd (eVar 3) (eC (.int 1))) (dCons (eBin oIx (eVar 6) (eC (.int 2))) dNil))) dNil))) dNil))) sNx))) (sSeq (sIf (tAnd (tV (eBin oLt (eVar 3) (eUn oLen (eVar 1)))) (tAnd (tV (eBin oEq (eBin oIx (eVar 1) (eVar 3)) (eTup (dCons (eC (.str [104, 117, 115, 104])) dNil)))) (tV (eMeth "Machine" "is_quiet" φ_Machine_is_quiet [false] (eVar 0) (aCons (eVar 4) aNil))))) (sE (eMut mAppend (eVar 5) (dCons (eTup (dCons (eTup (dCons (eVar 4) (dCons (eTup (dCons (eC (.str [104, 117, 115, 104])) dNil)) (dCons (eVar 4) dNil)))) (dCons (eTup (dCons (eBin oAdd (eVar 3) (eC (.int 1))) (dCons (eVar 4) dNil))) dNil))) dNil))) sNx) (sRet (eVar 5))))))
/-- way_to(led, spot) -/
def b_way_to : WS :=
  (sSeq (sSet 2 (eLst dNil)) (sSeq (sWhile (tV (eIsN true (eBin oIx (eVar 0) (eVar 1)))) (sSeq (sUnp (gTup [(gName 1), (gName 3)]) (eBin oIx (eVar 0) (eVar 1))) (sE (eMut mAppend (eVar 2) (dCons (eVar 3) dNil))))) (sRet (eUn oRev (eVar 2)))))
/-- walk_of(M, story) -/
def b_walk_of (φ_Machine_rooms φ_way_to φ_steps_at : SpD) : WS :=
  (sSeq (sSet 2 (eTup (dCons (eC (.int 0)) (dCons (eBin oIx (eMeth "Machine" "rooms" φ_Machine_rooms [] (eVar 0) aNil) (eC (.int 0))) dNil)))) (sSeq (sSet 3 (eDic1 true (eVar 2) (eC .non))) (sSeq (sSet 4 (eLst (dCons (eVar 2) dNil))) (sSeq (sSet 5 (eC (.int 0))) (sSeq (sWhile (tV (eBin oLt (eVar 5) (eUn oLen (eVar 4)))) (sSeq (sSet 6 (eBin oIx (eVar 4) (eVar 5))) (sSeq (sIf (tV (eBin oEq (eBin oIx (eVar 6) (eC (.int 0))) (eUn oLen (eVar 1)))) (sRet (eCall φ_way_to [false, false] (aCons (eVar 3) (aCons (eVar 6) aNil)))) sNx) (sSeq (sFor (iIt (eNs (eCall φ_steps_at [false, false, true] (aCons (eVar 0) (aCons (eVar 1) (aCons (eVar 6) aNil)))))) (gTup [(gName 7), (gName 8)]) (sIf (tV (eBin oNin (eVar 8) (eVar 3))) (sSeq (sSetIx putIx (eVar 3) (eVar 8) (eTup (dCons (eVar 6) (dCons (eVar 7) dNil)))) (sE (eMut mAppend (eVar 4) (dCons (eVar 8) dNil)))) sNx)) (sSet 5 (eBin oAdd (eVar 5) (eC (.int 1)))))))) (sRet (eC .non)))))))
end Pd
set_option linter.all false
set_option maxRecDepth 10000
namespace Pd
/-! walks that are looked for -/
abbrev Spot := Nat × List Nat
def spD (s : Spot) : D := .tup [.int (s.1 : Int), .str s.2]
@[simp] theorem spD_mk (s : Spot) : spD s = .tup [.int (s.1 : Int), .str s.2] := nrfl rfl
theorem spD_inj {a b : Spot} (h : spD a = spD b) : a = b := by
  obtain ⟨n, r⟩ := a
  obtain ⟨n', r'⟩ := b
  simp at h
  exact Prod.ext (by have := h.1; simp only; omega) h.2
@[simp] theorem keyOk_sp (n : Int) (r : List Nat) : keyOk true (.tup [.int n, .str r]) = true := nrfl rfl
def doorStep (story : List Sgn) (n : Nat) (d : Dr) : Option (Dr × Spot) := if d.s = [wStill] then some (d, (n, d.o)) else if story[n]? = some d.s then some (d, (n + 1, d.o)) else none
def stepsAt (m : Mch) (story : List Sgn) (s : Spot) : List (Dr × Spot) :=
  (outOf m.doors s.2).filterMap (doorStep story s.1) ++ if story[s.1]? = some [wHush] ∧ quietB m s.2 = true then [(⟨s.2, [wHush], s.2⟩, (s.1 + 1, s.2))] else []
def stD (p : Dr × Spot) : D := .tup [dr p.1, spD p.2]
@[simp] theorem stD_mk (p : Dr × Spot) : stD p = .tup [dr p.1, spD p.2] := nrfl rfl
structure Sta where
  p : Nat
  m : Mch
  st : List Sgn
  s : Spot
def d_steps : Sg Sta := ⟨fun x ss g => (∃ s1, ss = [.d (.ref x.p), s1, .d (spD x.s)] ∧ lookS g s1 = some (.o (.lst (x.st.map sg)))) ∧ MachD g x.p x.m ∧ MOk x.m ∧ x.s.2 ∈ x.m.rooms ∧ x.s.1 ≤ 4000,
  fun x g r g' => g' = g ∧ r = .own (.lst ((stepsAt x.m x.st x.s).map stD)), fun _ _ _ _ => False⟩
theorem k_steps : Keeps d_steps.wp (b_steps_at d_from.wp d_quiet.wp) 7 := by
  rintro ss g E Q ⟨⟨p, m, st, ⟨n, room⟩⟩, ⟨⟨s1, rfl, h1⟩, hM, ok, hin, hn4⟩, hq, _⟩
  have h8 := most_is
  have hdl := ok.dl
  simp only at h1 hin hn4 hdl
  simp [b_steps_at, begin_]
  rw [s_sSeq]; simp
  rw [s_sSeq]; simp
  refine seq_of (fun ψ g2 => g2 = g ∧ ∃ t6, ψ = [some (.d (.ref p)), some s1, some (.d (spD (n, room))), some (.d (.int n)), some (.d (.str room)), some (.own (.lst (((outOf m.doors room).filterMap (doorStep st n)).map stD))), t6]) (fun nx hn => ?_) ?_
  · simp
    refine ⟨hM.ins (f := "doors_from") rfl, ?_⟩
    refine call_of ⟨p, m, room⟩ ⟨rfl, hM, hin⟩ ?_
    rintro r g2 ⟨rfl, rfl⟩
    simp
    refine for_map dr (outOf m.doors room) (fun done ψ g => g = g2 ∧ ∃ t6, ψ = [some (.d (.ref p)), some s1, some (.d (spD (n, room))), some (.d (.int n)), some (.d (.str room)), some (.own (.lst ((done.filterMap (doorStep st n)).map stD))), t6]) ?_ ?_ _ _ ⟨rfl, none, by simp⟩
    · rintro done d rest ed ψ g3 K ⟨rfl, t6, rfl⟩ hK
      have hol := out_len m.doors room
      have hfl := List.length_filterMap_le (doorStep st n) done
      have hdl2 : done.length ≤ (outOf m.doors room).length := by rw [ed]; simp
      have hlm : (done.filterMap (doorStep st n)).length < most := by omega
      by_cases c1 : d.s = [wStill]
      · simp [c1, hlm]
        exact now (hK _ _ ⟨rfl, _, by simp [doorStep, c1]; rfl⟩)
      · by_cases c2 : n < st.length
        · obtain ⟨s, es⟩ : ∃ s, st[n]? = some s := ⟨_, List.getElem?_eq_getElem c2⟩
          have ea : atI st (n : Int) = some s := by rw [atI_lt (by omega) (by omega)]; simpa using es
          by_cases c3 : d.s = s
          · subst c3
            simp [c1, h1, c2, ea, hlm]
            exact now (hK _ _ ⟨rfl, _, by simp [doorStep, c1, es]; rfl⟩)
          · simp [c1, h1, c2, ea, c3]
            exact now (hK _ _ ⟨rfl, _, by simp [doorStep, c1, es, Ne.symm c3]; rfl⟩)
        · have es : st[n]? = none := List.getElem?_eq_none (by omega)
          simp [c1, h1, c2]
          exact now (hK _ _ ⟨rfl, _, by simp [doorStep, c1, es]; rfl⟩)
    · rintro ψ g3 ⟨rfl, t6, rfl⟩
      exact hn _ _ ⟨rfl, t6, rfl⟩
  · rintro ψ g2 ⟨rfl, t6, rfl⟩
    have hol := out_len m.doors room
    have hfl := List.length_filterMap_le (doorStep st n) (outOf m.doors room)
    have hlm : ((outOf m.doors room).filterMap (doorStep st n)).length < most := by omega
    have fin : ∀ L : List D, L = (stepsAt m st (n, room)).map stD → ∃ g3, G.le g3 g2 ∧ Q (.own (.lst L)) g3 := fun L e => by subst e; exact ret_now (hq _ _ ⟨rfl, rfl⟩)
    rw [s_sSeq]
    by_cases c2 : n < st.length
    · obtain ⟨s, es⟩ : ∃ s, st[n]? = some s := ⟨_, List.getElem?_eq_getElem c2⟩
      have ea : atI st (n : Int) = some s := by rw [atI_lt (by omega) (by omega)]; simpa using es
      by_cases c3 : s = [wHush]
      · subst c3
        simp [h1, c2, ea]
        refine ⟨hM.ins (f := "is_quiet") rfl, ?_⟩
        refine call_of ⟨p, m, room⟩ ⟨rfl, hM, ok, hin⟩ ?_
        rintro r g3 ⟨rfl, rfl⟩
        cases b : quietB m room with
        | true =>
          simp [b, hlm]
          exact fin _ (by simp [stepsAt, es, b])
        | false =>
          simp [b]
          exact fin _ (by simp [stepsAt, es, b])
      · simp [h1, c2, ea, c3]
        exact fin _ (by simp [stepsAt, es, c3])
    · have es : st[n]? = none := List.getElem?_eq_none (by omega)
      simp [h1, c2]
      exact fin _ (by simp [stepsAt, es])
/-! the spots that are led to -/
abbrev Ent := Spot × Option (Spot × Dr)
def entV (o : Option (Spot × Dr)) : D := match o with
  | none => .non
  | some (q, d) => .tup [spD q, dr d]
abbrev ledK (L : List Ent) : List (D × D) := L.map fun e => (spD e.1, entV e.2)
inductive WayTo (L : List Ent) : Spot → List Dr → Prop
  | nil {b : Spot} : (b, none) ∈ L → WayTo L b []
  | snoc {b q : Spot} {d : Dr} {w : List Dr} : (b, some (q, d)) ∈ L → WayTo L q w → WayTo L b (w ++ [d])
theorem WayTo.mono {L L' : List Ent} (h : ∀ e ∈ L, e ∈ L') {s : Spot} {w : List Dr} (y : WayTo L s w) : WayTo L' s w := by
  induction y with
  | nil a => exact .nil (h _ a)
  | snoc a _ ih => exact .snoc (h _ a) ih
theorem look_led : ∀ {L : List Ent} {e : Ent}, (L.map (·.1)).Nodup → e ∈ L → lookK (ledK L) (spD e.1) = some (entV e.2)
  | [], _, _, h => by cases h
  | x :: L, e, nd, h => by
    obtain ⟨n1, n2⟩ := List.nodup_cons.mp nd
    show (if spD x.1 = spD e.1 then some (entV x.2) else lookK (ledK L) (spD e.1)) = _
    rcases List.mem_cons.mp h with rfl | h
    · rw [if_pos rfl]
    · rw [if_neg fun z => n1 (by show x.1 ∈ _; rw [spD_inj z]; exact List.mem_map_of_mem h), look_led n2 h]
structure Wt where
  L : List Ent
  s : Spot
  w : List Dr
def d_wayto : Sg Wt := ⟨fun x ss g => (∃ s0, ss = [s0, .d (spD x.s)] ∧ lookS g s0 = some (.o (.dic true (ledK x.L)))) ∧ (x.L.map (·.1)).Nodup ∧ WayTo x.L x.s x.w ∧ x.w.length ≤ 1000000,
  fun x g r g' => g' = g ∧ r = .own (.lst (Ds x.w)), fun _ _ _ _ => False⟩
theorem k_wayto : Keeps d_wayto.wp b_way_to 4 := by
  rintro ss g E Q ⟨⟨L, s, w⟩, ⟨⟨s0, rfl, h0⟩, nd, hw, hl⟩, hq, _⟩
  have h8 := most_is
  simp only at h0 nd hw hl
  simp [b_way_to, begin_]
  rw [s_sSeq]; simp
  refine seq_of (fun ψ g2 => g2 = g ∧ ∃ t1 t3, ψ = [some s0, t1, some (.own (.lst (Ds w.reverse))), t3]) (fun nx hn => ?_) ?_
  · refine while_ind (fun n ψ g2 => g2 = g ∧ ∃ (cur : Spot) (w1 w2 : List Dr) (t3 : Option Sl), n = w1.length ∧ w = w1 ++ w2 ∧ WayTo L cur w1 ∧ ψ = [some s0, some (.d (spD cur)), some (.own (.lst (Ds w2.reverse))), t3]) ?_ w.length _ _ ⟨rfl, s, w, [], _, rfl, by simp, hw, rfl⟩
    rintro n ψ g2 K ⟨rfl, cur, w1, w2, t3, rfl, ew, hy, rfl⟩ hK
    cases hy with
    | nil a =>
      have lk := look_led nd a
      simp only [spD_mk, entV] at lk
      simp [h0, lk]
      exact hn _ _ ⟨rfl, some (.d (spD cur)), t3, by rw [ew]; simp⟩
    | snoc a y =>
      rename_i q d w'
      have lk := look_led nd a
      simp only [spD_mk, entV, dr_mk] at lk
      have hlm : w2.length < most := by have := congrArg List.length ew; simp at this; omega
      simp [h0, lk]
      rw [s_sSeq]; simp [h0, lk, hlm]
      refine now (hK w'.length _ _ (by simp) ⟨rfl, q, w', d :: w2, _, rfl, by rw [ew]; simp, y, by simp; rfl⟩)
  · rintro ψ g2 ⟨rfl, t1, t3, rfl⟩
    simp
    exact ret_now (hq _ _ ⟨rfl, rfl⟩)
/-- what the search has led to -/
structure Found (m : Mch) (st : List Sgn) (L : List Ent) : Prop where
  nd : (L.map (·.1)).Nodup
  val : ∀ e ∈ L, e.1.1 ≤ st.length ∧ e.1.2 ∈ m.rooms
  way : ∀ e ∈ L, ∃ w, WayTo L e.1 w ∧ w.length < L.length ∧ runW m (headR m) w = some (e.1.2, st.take e.1.1) ∧ ∀ d ∈ w, Two d.s
theorem steps_val {m : Mch} (ok : MOk m) {st : List Sgn} {s b : Spot} {d : Dr} (h : (d, b) ∈ stepsAt m st s) (h1 : s.1 ≤ st.length) (h2 : s.2 ∈ m.rooms) : b.1 ≤ st.length ∧ b.2 ∈ m.rooms := by
  unfold stepsAt at h
  rcases List.mem_append.mp h with h | h
  · obtain ⟨x, hx, e⟩ := List.mem_filterMap.mp h
    have hxd := (ok.en x (List.mem_filter.mp hx).1).2
    unfold doorStep at e
    split at e
    · cases e; exact ⟨h1, hxd⟩
    · split at e
      · rename_i c
        cases e
        exact ⟨(List.getElem?_eq_some_iff.mp c).1, hxd⟩
      · cases e
  · split at h
    · rename_i c
      cases List.mem_singleton.mp h
      exact ⟨(List.getElem?_eq_some_iff.mp c.1).1, h2⟩
    · cases h
theorem steps_run {m : Mch} {mo : Nat} (gm : GM m mo) (st : List Sgn) {s b : Spot} {d : Dr} (h : (d, b) ∈ stepsAt m st s) : stepW m (s.2, st.take s.1) d = some (b.2, st.take b.1) ∧ Two d.s := by
  unfold stepsAt at h
  have tk : ∀ {x : Sgn}, st[s.1]? = some x → st.take (s.1 + 1) = st.take s.1 ++ [x] := fun h => by rw [List.take_add_one, h]; rfl
  rcases List.mem_append.mp h with h | h
  · obtain ⟨x, hx, e⟩ := List.mem_filterMap.mp h
    obtain ⟨hx1, hx2⟩ := List.mem_filter.mp hx
    have hr : x.r = s.2 := of_decide_eq_true hx2
    have nh : x.s ≠ [wHush] := fun z => by
      rcases sign_of gm hx1 with ⟨w, _, e⟩ | ⟨w, _, e⟩ | e <;> rw [z] at e <;> cases e
    unfold doorStep at e
    split at e
    · rename_i c
      cases e
      refine ⟨?_, gm.two _ hx1⟩
      unfold stepW
      rw [if_pos ⟨hr, by rw [if_neg nh]; exact hx1⟩, if_pos c]
    · rename_i c
      split at e
      · rename_i c2
        cases e
        refine ⟨?_, gm.two _ hx1⟩
        unfold stepW
        rw [if_pos ⟨hr, by rw [if_neg nh]; exact hx1⟩, if_neg c]
        show _ = some (_, st.take (s.1 + 1))
        rw [tk c2]
      · cases e
  · split at h
    · rename_i c
      cases List.mem_singleton.mp h
      refine ⟨?_, .inl rfl⟩
      unfold stepW
      rw [if_pos ⟨rfl, by rw [if_pos rfl]; exact ⟨rfl, c.2⟩⟩, if_neg (by simp)]
      show _ = some (s.2, st.take (s.1 + 1))
      rw [tk c.1]
    · cases h
theorem Found.add {m : Mch} {mo : Nat} (gm : GM m mo) (ok : MOk m) {st : List Sgn} {L : List Ent} (h : Found m st L) {q b : Spot} {d : Dr} {o : Option (Spot × Dr)} (hq : (q, o) ∈ L) (hs : (d, b) ∈ stepsAt m st q) (hb : b ∉ L.map (·.1)) : Found m st (L ++ [(b, some (q, d))]) := by
  have sub : ∀ e ∈ L, e ∈ L ++ [(b, some (q, d))] := fun e h => List.mem_append_left _ h
  refine ⟨by rw [List.map_append]; exact nodup_snoc h.nd hb, fun e he => ?_, fun e he => ?_⟩
  · rcases List.mem_append.mp he with he | he
    · exact h.val e he
    · rw [List.mem_singleton.mp he]
      exact steps_val ok hs (h.val _ hq).1 (h.val _ hq).2
  · rcases List.mem_append.mp he with he | he
    · obtain ⟨w, h1, h2, h3, h4⟩ := h.way e he
      exact ⟨w, h1.mono sub, by simp; omega, h3, h4⟩
    · rw [List.mem_singleton.mp he]
      obtain ⟨w, h1, h2, h3, h4⟩ := h.way _ hq
      obtain ⟨k1, k2⟩ := steps_run gm st hs
      refine ⟨w ++ [d], .snoc (List.mem_append_right _ (List.mem_singleton.mpr rfl)) (h1.mono sub), by simp; omega, ?_, fun d' hd' => ?_⟩
      · rw [runW_snoc, h3]; exact k1
      · rcases List.mem_append.mp hd' with h | h
        · exact h4 d' h
        · rw [List.mem_singleton.mp h]; exact k2
/-- all walks of a beginning of the story lead to spots that were found -/
theorem found_all {m : Mch} {st : List Sgn} {W : List Spot} (h0 : (0, headR m) ∈ W) (hc : ∀ s ∈ W, ∀ d b, (d, b) ∈ stepsAt m st s → b ∈ W) : ∀ (n : Nat) (w : List Dr) (r : List Nat) (hd : List Sgn), w.length = n → runW m (headR m) w = some (r, hd) → hd <+: st → (hd.length, r) ∈ W
  | 0, w, r, hd, hl, e, _ => by
    have : w = [] := List.eq_nil_of_length_eq_zero hl
    subst this
    cases e
    exact h0
  | n + 1, w, r, hd, hl, e, hp => by
    rcases List.eq_nil_or_concat w with rfl | ⟨w', d, rfl⟩
    · cases hl
    · rw [List.concat_eq_append] at hl e
      rw [runW_snoc] at e
      obtain ⟨⟨r', hd'⟩, e1, e2⟩ := Option.bind_eq_some_iff.mp e
      obtain ⟨⟨c1, c2⟩, c3⟩ := stepW_some e2
      simp only at c1 c2
      cases c3
      by_cases cs : d.s = [wStill]
      · rw [if_pos cs] at hp ⊢
        have ih := found_all h0 hc n w' r' hd' (by simpa using hl) e1 hp
        have nh : d.s ≠ [wHush] := fun z => by rw [z] at cs; cases cs
        rw [if_neg nh] at c2
        refine hc _ ih d _ (List.mem_append_left _ (List.mem_filterMap.mpr ⟨d, List.mem_filter.mpr ⟨c2, by simp [c1]⟩, ?_⟩))
        unfold doorStep
        rw [if_pos cs]
      · rw [if_neg cs] at hp ⊢
        have hp' : hd' <+: st := List.IsPrefix.trans (List.prefix_append _ _) hp
        have ih := found_all h0 hc n w' r' hd' (by simpa using hl) e1 hp'
        have hat : st[hd'.length]? = some d.s := by
          obtain ⟨u, rfl⟩ := hp
          simp
        have hlen : (hd' ++ [d.s]).length = hd'.length + 1 := by simp
        rw [hlen]
        by_cases ch : d.s = [wHush]
        · rw [if_pos ch] at c2
          have hd : d = ⟨r', [wHush], r'⟩ := by
            obtain ⟨a, b, c⟩ := d
            simp only at c1 ch c2
            rw [c1, ch, c2.1]
          refine hc _ ih d _ (List.mem_append_right _ ?_)
          rw [ch] at hat
          rw [if_pos ⟨hat, c2.2⟩, hd]
          exact List.mem_singleton.mpr rfl
        · rw [if_neg ch] at c2
          refine hc _ ih d _ (List.mem_append_left _ (List.mem_filterMap.mpr ⟨d, List.mem_filter.mpr ⟨c2, by simp [c1]⟩, ?_⟩))
          unfold doorStep
          rw [if_neg cs, if_pos hat]
def d_walkof : Sg Fo := ⟨fun x ss g => (∃ s1, ss = [.d (.ref x.p), s1] ∧ lookS g s1 = some (.o (.lst (x.st.map sg)))) ∧ MachD g x.p x.m ∧ MOk x.m ∧ (∃ mo, GM x.m mo) ∧ x.st.length ≤ 200,
  fun x g r g' => g' = g ∧ (r = .d .non ∧ (∀ w r, runW x.m (headR x.m) w ≠ some (r, x.st)) ∨ ∃ w : List Dr, r = .own (.lst (Ds w)) ∧ (∃ r, runW x.m (headR x.m) w = some (r, x.st)) ∧ w.length ≤ (x.st.length + 1) * x.m.rooms.length ∧ ∀ d ∈ w, Two d.s), fun _ _ _ _ => False⟩
def spots (m : Mch) (n : Nat) : List Spot := (List.range (n + 1)).flatMap fun k => m.rooms.map fun r => (k, r)
theorem mem_spots {m : Mch} {n : Nat} {s : Spot} (h : s.1 ≤ n ∧ s.2 ∈ m.rooms) : s ∈ spots m n :=
  List.mem_flatMap.mpr ⟨s.1, List.mem_range.mpr (by omega), List.mem_map.mpr ⟨s.2, h.2, rfl⟩⟩
theorem spots_len (m : Mch) (n : Nat) : (spots m n).length = (n + 1) * m.rooms.length := by
  unfold spots
  induction n with
  | zero => simp
  | succ n ih => rw [List.range_succ, List.flatMap_append, List.length_append, ih]; simp [Nat.add_mul]
theorem key_led {L : List Ent} {b : Spot} : spD b ∈ (ledK L).map (·.1) ↔ b ∈ L.map (·.1) := by
  rw [List.map_map]
  constructor
  · intro h
    obtain ⟨e, he, e2⟩ := List.mem_map.mp h
    exact spD_inj e2 ▸ List.mem_map_of_mem he
  · intro h
    obtain ⟨e, he, rfl⟩ := List.mem_map.mp h
    exact List.mem_map_of_mem (f := (fun x => x.1) ∘ fun e : Ent => (spD e.1, entV e.2)) he
theorem steps_len (m : Mch) (st : List Sgn) (s : Spot) : (stepsAt m st s).length ≤ m.doors.length + 1 := by
  unfold stepsAt
  have h1 := List.length_filterMap_le (doorStep st s.1) (outOf m.doors s.2)
  have h2 := out_len m.doors s.2
  rw [List.length_append]
  split <;> simp <;> omega
theorem k_walkof : Keeps d_walkof.wp (b_walk_of d_roomsD.wp d_wayto.wp d_steps.wp) 9 := by
  rintro ss g E Q ⟨⟨p, m, st⟩, ⟨⟨s1, rfl, h1⟩, hM, ok, ⟨mo, gm⟩, hl⟩, hq, _⟩
  have h8 := most_is
  have hrl := ok.rl
  have hdl := ok.dl
  simp only at h1 gm hl hrl hdl
  obtain ⟨hz, hzin⟩ := head_of gm.r0
  have hN : (st.length + 1) * m.rooms.length ≤ 201 * 200 := Nat.mul_le_mul (by omega) hrl
  simp [b_walk_of, begin_]
  rw [s_sSeq]; simp
  refine ⟨hM.ins (f := "rooms") rfl, ?_⟩
  refine call_of ⟨p, m⟩ ⟨rfl, hM⟩ ?_
  rintro r g1 ⟨rfl, rfl⟩
  simp [hz]
  rw [s_sSeq]; simp
  rw [s_sSeq]; simp
  rw [s_sSeq]; simp
  have F0 : Found m st [((0, headR m), none)] := ⟨by simp, fun e he => by rw [List.mem_singleton.mp he]; exact ⟨Nat.zero_le _, hzin⟩, fun e he => by rw [List.mem_singleton.mp he]; exact ⟨[], .nil (by simp), by simp, rfl, by simp⟩⟩
  refine seq_of (fun ψ g2 => g2 = g1 ∧ ∀ w r, runW m (headR m) w ≠ some (r, st)) (fun nx hn => ?_) ?_
  · refine while_ind (fun n ψ g2 => g2 = g1 ∧ ∃ (L : List Ent) (at_ : Nat) (t6 t7 t8 : Option Sl), Found m st L ∧ (at_ ≤ L.length ∧ n = (st.length + 1) * m.rooms.length - at_) ∧ (0, headR m) ∈ L.map (·.1) ∧ (∀ s ∈ (L.map (·.1)).take at_, s.1 ≠ st.length ∧ ∀ d b, (d, b) ∈ stepsAt m st s → b ∈ L.map (·.1)) ∧
      ψ = [some (.d (.ref p)), some s1, some (.d (spD (0, headR m))), some (.own (.dic true (ledK L))), some (.own (.lst ((L.map (·.1)).map spD))), some (.d (.int at_)), t6, t7, t8]) ?_ _ _ _ ⟨rfl, [((0, headR m), none)], 0, none, none, none, F0, ⟨by simp, rfl⟩, by simp, by simp, by simp [entV]⟩
    rintro n ψ g2 K ⟨rfl, L, at_, t6, t7, t8, hF, ⟨ha, rfl⟩, h0, hdn, rfl⟩ hK
    have hLl : L.length ≤ (st.length + 1) * m.rooms.length := by
      have := pigeon hF.nd fun s hs => mem_spots (m := m) (n := st.length) (by obtain ⟨e, he, rfl⟩ := List.mem_map.mp hs; exact hF.val e he)
      rw [spots_len] at this; simpa using this
    simp
    split
    · rename_i hlt
      obtain ⟨e, he⟩ : ∃ e, L[at_]? = some e := ⟨_, List.getElem?_eq_getElem hlt⟩
      have hem := List.mem_of_getElem? he
      obtain ⟨⟨n, room⟩, o⟩ := e
      have ea : atI L (at_ : Int) = some ((n, room), o) := by rw [atI_lt (by omega) (by omega)]; simpa using he
      obtain ⟨v1, v2⟩ := hF.val _ hem
      simp only at v1 v2
      rw [s_sSeq]; simp [ea]
      rw [s_sSeq]; simp [h1]
      split
      · rename_i hn0
        obtain ⟨w, y1, y2, y3, y4⟩ := hF.way _ hem
        simp only at y1 y2 y3
        refine call_of ⟨L, (n, room), w⟩ ⟨⟨_, by simp; rfl, by simp⟩, hF.nd, y1, by simp only; omega⟩ ?_
        rintro r g3 ⟨rfl, rfl⟩
        simp
        refine ret_now (hq _ _ ⟨rfl, .inr ⟨w, rfl, ⟨room, ?_⟩, by simp only; omega, y4⟩⟩)
        have hn1 : n = st.length := by omega
        rw [y3, hn1, List.take_length]
      · rename_i hn0
        refine seq_of (fun ψ g => g = g2 ∧ ∃ (L' : List Ent) (t7 t8 : Option Sl), Found m st L' ∧ (∃ ext, L' = L ++ ext) ∧ (∀ x ∈ stepsAt m st (n, room), x.2 ∈ L'.map (·.1)) ∧ ψ = [some (.d (.ref p)), some s1, some (.d (spD (0, headR m))), some (.own (.dic true (ledK L'))), some (.own (.lst (L'.map (spD ∘ fun x => x.fst)))), some (.d (.int at_)), some (.d (spD (n, room))), t7, t8]) (fun nx hn => ?_) ?_
        · simp
          refine call_of ⟨p, m, st, (n, room)⟩ ⟨⟨_, rfl, by simp [h1]⟩, hM, ok, v2, by simp only; omega⟩ ?_
          rintro r g3 ⟨rfl, rfl⟩
          have hsl := steps_len m st (n, room)
          simp
          refine for_map stD (stepsAt m st (n, room)) (fun done ψ g => g = g3 ∧ ∃ (L' : List Ent) (t7 t8 : Option Sl), Found m st L' ∧ (∃ ext, L' = L ++ ext) ∧ (∀ x ∈ done, x.2 ∈ L'.map (·.1)) ∧ ψ = [some (.d (.ref p)), some s1, some (.d (spD (0, headR m))), some (.own (.dic true (ledK L'))), some (.own (.lst (L'.map (spD ∘ fun x => x.fst)))), some (.d (.int at_)), some (.d (spD (n, room))), t7, t8]) ?_ ?_ _ _ ⟨rfl, L, t7, t8, hF, ⟨[], by simp⟩, by simp, by simp⟩
          · rintro done ⟨d, b⟩ rest ed ψ g4 K2 ⟨rfl, L', u7, u8, hF', ⟨ext, rfl⟩, hdone, rfl⟩ hK2
            have hx : (d, b) ∈ stepsAt m st (n, room) := by rw [ed]; simp
            have hL2 : (L ++ ext).length ≤ (st.length + 1) * m.rooms.length := by
              have := pigeon hF'.nd fun s hs => mem_spots (m := m) (n := st.length) (by obtain ⟨e, he, rfl⟩ := List.mem_map.mp hs; exact hF'.val e he)
              rw [spots_len] at this; simpa using this
            have hlm : (ledK (L ++ ext)).length < most := by rw [List.length_map]; omega
            have hlm2 : (L ++ ext).length < most := by omega
            obtain ⟨ks, hks⟩ : ∃ ks, ks = (L ++ ext).map (·.1) := ⟨_, rfl⟩
            obtain ⟨KV, hKV⟩ : ∃ KV, KV = ledK (L ++ ext) := ⟨_, rfl⟩
            obtain ⟨WL, hWL⟩ : ∃ WL, WL = (L ++ ext).map (spD ∘ fun x => x.fst) := ⟨_, rfl⟩
            have inS : D.tup [.int (b.1 : Int), .str b.2] ∈ KV.map (·.1) ↔ b ∈ ks := by rw [hKV, hks]; exact key_led
            rw [← hKV] at hlm
            rw [← hKV, ← hWL]
            have hwl : WL.length < most := by rw [hWL, List.length_map]; exact hlm2
            by_cases c : b ∈ ks
            · simp [inS, c]
              exact now (hK2 _ _ ⟨rfl, L ++ ext, some (.d (dr d)), some (.d (spD b)), hF', ⟨ext, rfl⟩, fun x h => (List.mem_append.mp h).elim (hdone x) fun h => by rw [List.mem_singleton.mp h, ← hks]; exact c, by rw [hKV, hWL]; simp⟩)
            · have hF2 := hF'.add gm ok (List.mem_append_left ext hem) hx (hks ▸ c)
              have hnk : D.tup [.int (b.1 : Int), .str b.2] ∉ KV.map (·.1) := fun z => c (inS.mp z)
              have pk := putK_new KV (D.tup [.int (b.1 : Int), .str b.2]) (D.tup [.tup [.int (n : Int), .str room], .tup [.str d.r, .tup (d.s.map D.str), .str d.o]]) hnk
              simp [inS, c]
              rw [s_sSeq]; simp [hlm, pk, hwl]
              refine now (hK2 _ _ ⟨rfl, L ++ ext ++ [(b, some ((n, room), d))], some (.d (dr d)), some (.d (spD b)), hF2, ⟨ext ++ [(b, some ((n, room), d))], by simp⟩, fun x h => ?_, by rw [hKV, hWL]; simp [entV]⟩)
              rw [List.map_append]
              rcases List.mem_append.mp h with h | h
              · exact List.mem_append_left _ (hdone x h)
              · rw [List.mem_singleton.mp h]; exact List.mem_append_right _ (by simp)
          · rintro ψ g4 ⟨rfl, L', u7, u8, hF', hex, hdone, rfl⟩
            exact hn _ _ ⟨rfl, L', u7, u8, hF', hex, hdone, rfl⟩
        · rintro ψ g3 ⟨rfl, L', u7, u8, hF', ⟨ext, rfl⟩, hdone, rfl⟩
          simp
          refine now (hK ((st.length + 1) * m.rooms.length - (at_ + 1)) _ _ (by omega) ⟨rfl, L ++ ext, at_ + 1, some (.d (spD (n, room))), u7, u8, hF', ⟨by simp; omega, rfl⟩, by rw [List.map_append]; exact List.mem_append_left _ h0, fun s hs => ?_, by simp⟩)
          have hk1 : ((L ++ ext).map (·.1)).take (at_ + 1) = (L.map (·.1)).take at_ ++ [(n, room)] := by
            rw [List.map_append, List.take_append_of_le_length (by simp; omega), List.take_add_one]
            congr 1
            simp [he]
          rw [hk1] at hs
          rcases List.mem_append.mp hs with hs | hs
          · obtain ⟨q1, q2⟩ := hdn s hs
            exact ⟨q1, fun d b h => by rw [List.map_append]; exact List.mem_append_left _ (q2 d b h)⟩
          · rw [List.mem_singleton.mp hs]
            exact ⟨fun z => hn0 (by simp only at z; omega), fun d b h => hdone (d, b) h⟩
    · rename_i hlt
      have : at_ = L.length := by omega
      subst this
      rw [List.take_of_length_le (by simp)] at hdn
      refine hn _ _ ⟨rfl, fun w r e => ?_⟩
      have := found_all h0 (fun s hs d b h => (hdn s hs).2 d b h) w.length w r st rfl e (List.prefix_refl _)
      exact (hdn _ this).1 rfl
  · rintro ψ g2 ⟨rfl, hno⟩
    simp
    exact ret_now (hq _ _ ⟨rfl, .inl ⟨rfl, hno⟩⟩)
end Pd
set_option linter.all false
set_option maxRecDepth 10000
namespace Pd
/-! faces and walks -/
theorem no_hush {m : Mch} {mo : Nat} (gm : GM m mo) {d : Dr} (hd : d ∈ m.doors) : d.s ≠ [wHush] := fun z => by
  rcases sign_of gm hd with ⟨w, _, e⟩ | ⟨w, _, e⟩ | e <;> rw [z] at e <;> cases e
theorem stepW_door {m : Mch} {mo : Nat} (gm : GM m mo) {d : Dr} (hd : d ∈ m.doors) (h : List Sgn) : stepW m (d.r, h) d = some (d.o, if d.s = [wStill] then h else h ++ [d.s]) := by
  unfold stepW
  rw [if_pos ⟨rfl, by rw [if_neg (no_hush gm hd)]; exact hd⟩]
theorem run_door {m : Mch} {mo : Nat} (gm : GM m mo) {w : List Dr} {d : Dr} (hd : d ∈ m.doors) {h : List Sgn} (e : runW m (headR m) w = some (d.r, h)) : runW m (headR m) (w ++ [d]) = some (d.o, if d.s = [wStill] then h else h ++ [d.s]) := by
  rw [runW_snoc, e]; exact stepW_door gm hd h
theorem run_reach {m : Mch} {mo : Nat} (gm : GM m mo) {r r' : List Nat} {h : List Sgn} (hr : Reach m.doors r r') : (∃ w, runW m (headR m) w = some (r, h)) → ∃ w, runW m (headR m) w = some (r', h) := by
  have one : ∀ {a b : List Nat}, Still m.doors a b → (∃ w, runW m (headR m) w = some (a, h)) → ∃ w, runW m (headR m) w = some (b, h) := fun {a b} ⟨d, h1, h2, h3, h4⟩ ⟨w, e⟩ => by
    have := run_door gm h1 (h2 ▸ e)
    rw [if_pos h3, h4] at this
    exact ⟨_, this⟩
  induction hr with
  | one s => exact one s
  | snoc _ s ih => exact fun e => one s (ih e)
theorem run_led {m : Mch} {mo : Nat} (gm : GM m mo) {s : List (List Nat)} {r : List Nat} {h : List Sgn} (hl : Led m s r) (hs : ∀ y ∈ s, ∃ w, runW m (headR m) w = some (y, h)) : ∃ w, runW m (headR m) w = some (r, h) := by
  rcases hl with hl | ⟨v, hv, hr⟩
  · exact hs r hl
  · exact run_reach gm hr (hs v hv)
theorem face_run {m : Mch} {mo : Nat} (gm : GM m mo) : ∀ (n : Nat) (st : List Sgn), st.length = n → (∀ s ∈ st, s ≠ [wStill]) → ∀ r ∈ faceOf m st, ∃ w, runW m (headR m) w = some (r, st)
  | 0, st, hl, _, r, hr => by
    have : st = [] := List.eq_nil_of_length_eq_zero hl
    subst this
    refine run_led gm (mem_closed.mp hr).2 fun y hy => ⟨[], ?_⟩
    have : y = headR m := by
      unfold headR
      cases e : m.rooms with
      | nil => rw [e] at hy; cases hy
      | cons r0 rs => rw [e] at hy; simpa using hy
    rw [this]; rfl
  | n + 1, st, hl, hns, r, hr => by
    rcases List.eq_nil_or_concat st with rfl | ⟨st', s, rfl⟩
    · cases hl
    · rw [List.concat_eq_append] at hl hns hr ⊢
      rw [faceOf_snoc] at hr
      have ih := face_run gm n st' (by simpa using hl) fun s h => hns s (List.mem_append_left _ h)
      have hs : s ≠ [wStill] := hns s (by simp)
      unfold behind at hr
      split at hr
      · rename_i c
        obtain ⟨h1, h2⟩ := List.mem_filter.mp hr
        obtain ⟨w, e⟩ := ih r h1
        refine ⟨w ++ [⟨r, [wHush], r⟩], ?_⟩
        rw [runW_snoc, e]
        show stepW m (r, st') ⟨r, [wHush], r⟩ = _
        unfold stepW
        rw [if_pos ⟨rfl, by rw [if_pos rfl]; exact ⟨rfl, h2⟩⟩, if_neg (by simp), c]
      · refine run_led gm (mem_closed.mp hr).2 fun y hy => ?_
        obtain ⟨d, h1, h2, h3, rfl⟩ := mem_led.mp hy
        obtain ⟨w, e⟩ := ih d.r h2
        have := run_door gm h1 e
        rw [if_neg (h3 ▸ hs), h3] at this
        exact ⟨_, this⟩
theorem face_still {m : Mch} {mo : Nat} (gm : GM m mo) (ok : MOk m) {st : List Sgn} {r r' : List Nat} (h : r ∈ faceOf m st) (s : Still m.doors r r') : r' ∈ faceOf m st := by
  rcases List.eq_nil_or_concat st with rfl | ⟨st', x, rfl⟩
  · exact closed_more ok h s
  · rw [List.concat_eq_append, faceOf_snoc] at h ⊢
    unfold behind at h ⊢
    split at h
    · obtain ⟨d, h1, h2, h3, _⟩ := s
      have hq := quietB_iff.mp (List.mem_filter.mp h).2 d h1 h2
      rw [show isAsk d = false by simp [isAsk, h3]] at hq
      cases hq
    · rename_i c
      rw [if_neg c]
      exact closed_more ok h s
theorem run_face {m : Mch} {mo : Nat} (gm : GM m mo) (ok : MOk m) : ∀ (n : Nat) (w : List Dr), w.length = n → ∀ (r : List Nat) (h : List Sgn), runW m (headR m) w = some (r, h) → r ∈ faceOf m h
  | 0, w, hl, r, h, e => by
    have : w = [] := List.eq_nil_of_length_eq_zero hl
    subst this
    cases e
    obtain ⟨h1, h2⟩ := head_of gm.r0
    refine mem_closed.mpr ⟨h2, .inl ?_⟩
    unfold headR
    cases e : m.rooms with
    | nil => exact absurd e gm.r0
    | cons r0 rs => simp
  | n + 1, w, hl, r, h, e => by
    rcases List.eq_nil_or_concat w with rfl | ⟨w', d, rfl⟩
    · cases hl
    · rw [List.concat_eq_append] at hl e
      rw [runW_snoc] at e
      obtain ⟨⟨r', h'⟩, e1, e2⟩ := Option.bind_eq_some_iff.mp e
      obtain ⟨⟨c1, c2⟩, c3⟩ := stepW_some e2
      simp only at c1 c2
      cases c3
      have ih := run_face gm ok n w' (by simpa using hl) r' h' e1
      by_cases ch : d.s = [wHush]
      · rw [if_pos ch] at c2
        rw [ch, if_neg (by simp), faceOf_snoc]
        unfold behind
        rw [if_pos rfl]
        exact List.mem_filter.mpr ⟨c2.1 ▸ ih, c2.1 ▸ c2.2⟩
      · rw [if_neg ch] at c2
        by_cases cs : d.s = [wStill]
        · rw [if_pos cs]
          exact face_still gm ok ih ⟨d, c2, c1, cs, rfl⟩
        · rw [if_neg cs, faceOf_snoc]
          unfold behind
          rw [if_neg ch]
          exact mem_closed.mpr ⟨(ok.en d c2).2, .inl (mem_led.mpr ⟨d, c2, c1 ▸ ih, rfl, rfl⟩)⟩
theorem no_face {m : Mch} {mo : Nat} (gm : GM m mo) (ok : MOk m) {st : List Sgn} (hns : ∀ s ∈ st, s ≠ [wStill]) : faceOf m st = [] ↔ ∀ w r, runW m (headR m) w ≠ some (r, st) := by
  constructor
  · intro h w r e
    have := run_face gm ok _ w rfl r st e
    rw [h] at this; cases this
  · intro h
    cases e : faceOf m st with
    | nil => rfl
    | cons r rs =>
      obtain ⟨w, e⟩ := face_run gm _ st rfl hns r (by rw [e]; simp)
      exact absurd e (h w r)
end Pd
set_option linter.all false
set_option maxRecDepth 10000
namespace Pd
@[simp] theorem m_popAt (xs : List D) (i : Int) : mPopAt xs [.int i] = if -4611686018427387904 ≤ i ∧ i < 4611686018427387904 then (idxOf xs.length i).bind fun k => (xs[k]?).map fun y => (xs.eraseIdx k, y) else none := nrfl rfl
theorem eraseIdx_map' {α β : Type} (f : α → β) : ∀ (xs : List α) (i : Nat), (xs.map f).eraseIdx i = (xs.eraseIdx i).map f
  | [], _ => rfl
  | x :: xs, 0 => rfl
  | x :: xs, i + 1 => by
    show f x :: (xs.map f).eraseIdx i = f x :: (xs.eraseIdx i).map f
    rw [eraseIdx_map' f xs i]
theorem den_ds {n : Nat} {g : G} {ds : List Dr} (hl : ds.length < 4000) (h2 : ∀ d ∈ ds, Two d.s) : denC (den (n + 3) g) (.o (.lst (Ds ds))) = some (.rol (Ds ds)) := by
  show (if (Ds ds).length < 4000 then (denL (den (n + 3) g) (Ds ds)).map D.rol else none) = _
  rw [if_pos (by simpa using hl), denL_map fun d hd => den_dr n g (h2 d hd)]; rfl
end Pd
set_option Elab.async false
set_option linter.all false
namespace Pd
/-- need_taker(M, I) -/
def b_need_taker (φ_Machine_asks φ_Machine_says φ_Machine_rooms φ_still_on φ_has_door : SpD) : WS :=
  (sSeq (sIf (tOr (tV (eBin oNe (eMeth "Machine" "asks" φ_Machine_asks [] (eVar 1) aNil) (eMeth "Machine" "asks" φ_Machine_asks [] (eVar 0) aNil))) (tV (eBin oNe (eMeth "Machine" "says" φ_Machine_says [] (eVar 1) aNil) (eMeth "Machine" "says" φ_Machine_says [] (eVar 0) aNil)))) (sRaise "NoMatch" [] dNil) sNx) (sFor (iIt (eNs (eMeth "Machine" "rooms" φ_Machine_rooms [] (eVar 1) aNil))) (gName 2) (sSeq (sSet 3 (eCall φ_still_on [false, false] (aCons (eVar 1) (aCons (eLst (dCons (eVar 2) dNil)) aNil)))) (sFor (iIt (eNs (eMeth "Machine" "asks" φ_Machine_asks [] (eVar 1) aNil))) (gName 4) (sIf (tNot (tV (eCall φ_has_door [false, false, false] (aCons (eVar 1) (aCons (eVar 3) (aCons (eTup (dCons (eC (.str [97, 115, 107])) (dCons (eVar 4) dNil))) aNil)))))) (sRaise "NoTaker" ["room", "ask"] (dCons (eVar 2) (dCons (eVar 4) dNil))) sNx)))))
/-- _law_willing(pen, told) -/
def b__law_willing (φ__law_still_on φ__law_take φ__law_put : SpD) : WS :=
  (sSeq (sUnp (gTup [(gName 2), (gName 3), (gName 4), (gName 5)]) (eVar 1)) (sSeq (sSet 5 (eUn oList (eVar 5))) (sSeq (sFor (iIt (eVar 4)) (gName 6) (sFor (iIt (eVar 2)) (gName 7) (sSeq (sSet 8 (eCall φ__law_still_on [false, false] (aCons (eVar 5) (aCons (eLst (dCons (eVar 6) dNil)) aNil)))) (sIf (tV (eBin oEq (eComp [10] (iIt (eVar 5)) (gName 10) (tAnd (tV (eBin oIn (eBin oIx (eVar 10) (eC (.int 0))) (eVar 8))) (tV (eBin oEq (eBin oIx (eVar 10) (eC (.int 1))) (eTup (dCons (eC (.str [97, 115, 107])) (dCons (eVar 7) dNil)))))) (eVar 10)) (eLst dNil))) (sSeq (sSet 9 (eBin oIx (eLst (dCons (eVar 6) (dCons (eBin oIx (eVar 4) (eCall φ__law_take [true, false] (aCons (eVar 0) (aCons (eUn oLen (eVar 4)) aNil)))) dNil))) (eCall φ__law_take [true, false] (aCons (eVar 0) (aCons (eC (.int 2)) aNil))))) (sE (eCall φ__law_put [true, true] (aCons (eVar 5) (aCons (eTup (dCons (eVar 6) (dCons (eTup (dCons (eC (.str [97, 115, 107])) (dCons (eVar 7) dNil))) (dCons (eVar 9) dNil)))) aNil))))) sNx)))) (sRet (eTup (dCons (eVar 2) (dCons (eVar 3) (dCons (eVar 4) (dCons (eVar 5) dNil)))))))))
/-- _law_turned(pen, told) -/
def b__law_turned (φ__law_take φ__law_put φ__law_still_on : SpD) : WS :=
  (sSeq (sUnp (gTup [(gName 2), (gName 3), (gName 4), (gName 5)]) (eVar 1)) (sSeq (sSet 5 (eUn oList (eVar 5))) (sSeq (sSet 6 (eCall φ__law_take [true, false] (aCons (eVar 0) (aCons (eC (.int 6)) aNil)))) (sSeq (sSet 7 (eCall φ__law_take [true, false] (aCons (eVar 0) (aCons (eBin oMax2 (eC (.int 1)) (eUn oLen (eVar 5))) aNil)))) (sSeq (sSet 8 (eBin oIx (eVar 4) (eCall φ__law_take [true, false] (aCons (eVar 0) (aCons (eUn oLen (eVar 4)) aNil))))) (sSeq (sSet 9 (eBin oIx (eVar 4) (eCall φ__law_take [true, false] (aCons (eVar 0) (aCons (eUn oLen (eVar 4)) aNil))))) (sSeq (sIf (tV (eBin oEq (eVar 6) (eC (.int 0)))) (sE (eCall φ__law_put [true, true] (aCons (eVar 5) (aCons (eTup (dCons (eVar 8) (dCons (eTup (dCons (eC (.str [115, 97, 121])) (dCons (eBin oIx (eVar 3) (eCall φ__law_take [true, false] (aCons (eVar 0) (aCons (eUn oLen (eVar 3)) aNil)))) dNil))) (dCons (eVar 9) dNil)))) aNil)))) (sIf (tV (eBin oEq (eVar 6) (eC (.int 1)))) (sE (eCall φ__law_put [true, true] (aCons (eVar 5) (aCons (eTup (dCons (eVar 8) (dCons (eTup (dCons (eC (.str [97, 115, 107])) (dCons (eBin oIx (eVar 2) (eCall φ__law_take [true, false] (aCons (eVar 0) (aCons (eUn oLen (eVar 2)) aNil)))) dNil))) (dCons (eVar 9) dNil)))) aNil)))) (sIf (tAnd (tV (eBin oLt (eVar 6) (eC (.int 4)))) (tAnd (tV (eBin oNe (eVar 5) (eLst dNil))) (tV (eBin oNe (eBin oIx (eBin oIx (eBin oIx (eVar 5) (eVar 7)) (eC (.int 1))) (eC (.int 0))) (eC (.str [115, 116, 105, 108, 108])))))) (sSeq (sSet 10 (eMut mPopAt (eVar 5) (dCons (eVar 7) dNil))) (sIf (tV (eBin oEq (eVar 6) (eC (.int 3)))) (sE (eCall φ__law_put [true, true] (aCons (eVar 5) (aCons (eTup (dCons (eBin oIx (eVar 10) (eC (.int 0))) (dCons (eBin oIx (eVar 10) (eC (.int 1))) (dCons (eVar 9) dNil)))) aNil)))) sNx)) (sIf (tAnd (tV (eBin oEq (eVar 6) (eC (.int 4)))) (tV (eBin oNin (eVar 8) (eCall φ__law_still_on [false, false] (aCons (eVar 5) (aCons (eLst (dCons (eVar 9) dNil)) aNil)))))) (sE (eCall φ__law_put [true, true] (aCons (eVar 5) (aCons (eTup (dCons (eVar 8) (dCons (eTup (dCons (eC (.str [115, 116, 105, 108, 108])) dNil)) (dCons (eVar 9) dNil)))) aNil)))) sNx)))) (sRet (eTup (dCons (eVar 2) (dCons (eVar 3) (dCons (eVar 4) (dCons (eVar 5) dNil)))))))))))))
/-- _law_near(pen, told, most) -/
def b__law_near (φ__law_anew φ__law_take φ__law_turned φ__law_willing φ__law_renamed : SpD) : WS :=
  (sSeq (sE (eCall φ__law_anew [true] (aCons (eVar 0) aNil))) (sSeq (sFor (iRange (eCall φ__law_take [true, false] (aCons (eVar 0) (aCons (eBin oAdd (eVar 2) (eC (.int 1))) aNil)))) (gName 3) (sSet 1 (eCall φ__law_turned [true, true] (aCons (eVar 0) (aCons (eVar 1) aNil))))) (sSeq (sSet 1 (eCall φ__law_willing [true, true] (aCons (eVar 0) (aCons (eVar 1) aNil)))) (sSeq (sIf (tV (eBin oEq (eCall φ__law_take [true, false] (aCons (eVar 0) (aCons (eC (.int 2)) aNil))) (eC (.int 0)))) (sSet 1 (eCall φ__law_renamed [true, true] (aCons (eVar 0) (aCons (eVar 1) aNil)))) sNx) (sRet (eVar 1))))))
end Pd
set_option linter.all false
set_option maxRecDepth 10000
namespace Pd
/-! machines that are turned a little -/
theorem still_other {ds : List Dr} {d : Dr} (hd : d.s ≠ [wStill]) {a b : List Nat} : Still (put ds d) a b ↔ Still ds a b := by
  unfold Still put
  constructor
  · rintro ⟨x, h1, h2, h3, h4⟩
    split at h1
    · exact ⟨x, h1, h2, h3, h4⟩
    · rcases List.mem_append.mp h1 with h | h
      · exact ⟨x, h, h2, h3, h4⟩
      · rw [List.mem_singleton.mp h] at h3; exact absurd h3 hd
  · rintro ⟨x, h1, h2⟩
    split
    · exact ⟨x, h1, h2⟩
    · exact ⟨x, List.mem_append_left _ h1, h2⟩
theorem reach_mono {ds ds' : List Dr} (h : ∀ a b, Still ds a b → Still ds' a b) {a b : List Nat} (r : Reach ds a b) : Reach ds' a b := by
  induction r with
  | one s => exact .one (h _ _ s)
  | snoc _ s ih => exact .snoc ih (h _ _ s)
theorem GM.put_other {m : Mch} {mo : Nat} (h : GM m mo) {d : Dr} (h1 : okDoor m.asks m.says m.rooms d = true) (h2 : Two d.s) (h3 : d.s ≠ [wStill]) (h4 : m.doors.length + 1 ≤ 1900) : GM ⟨m.asks, m.says, m.rooms, Pd.put m.doors d⟩ mo :=
  h.put h1 h2 (fun x r => h.loose x (reach_mono (fun a b s => (still_other h3).mp s) r)) h4
theorem GM.erase {m : Mch} {mo : Nat} (h : GM m mo) (i : Nat) : GM ⟨m.asks, m.says, m.rooms, m.doors.eraseIdx i⟩ mo := by
  have sub : (m.doors.eraseIdx i).Sublist m.doors := List.eraseIdx_sublist _ _
  exact ⟨h.a0, h.al, h.and, h.av, h.s0, h.sl, h.snd, h.sv, h.r0, h.rl, h.rnd, h.rv, h.nd.sublist sub, fun d hd => h.ok d (sub.subset hd), fun d hd => h.two d (sub.subset hd),
    fun x r => h.loose x (reach_mono (fun a b ⟨d, h1, h2⟩ => ⟨d, sub.subset h1, h2⟩) r), by have := sub.length_le; have := h.dl; simp only; omega⟩
structure Tu where
  a : Nat
  mo : Nat
  x : Tm
def d_turned : Sg Tu := ⟨fun x ss g => ss = [.d (.ref x.a), .d x.x.d] ∧ Pen g x.a ∧ Told g x.x ∧ GM x.x.m x.mo ∧ x.mo ≤ 26 ∧ x.x.m.doors.length ≤ 800,
  fun x g r g' => Fr g g' x.a ∧ ∃ a4' ds, r = .d (.tup [.ref x.x.a1, .ref x.x.a2, .ref x.x.a3, .ref a4']) ∧ g' a4' = some (.lst (Ds ds)) ∧ g a4' = none ∧ GM ⟨x.x.m.asks, x.x.m.says, x.x.m.rooms, ds⟩ x.mo ∧ ds.length ≤ x.x.m.doors.length + 1, fun _ _ _ _ => False⟩
theorem k_turned : Keeps d_turned.wp (b__law_turned d_take.wp d_put.wp d_stillon.wp) 11 := by
  rintro ss g0 E Q ⟨⟨a, mo, ⟨m, a1, a2, a3, a4⟩⟩, ⟨rfl, p0, tl, gm, hmo, hdl⟩, hq, _⟩
  have h8 := most_is
  simp only at p0 gm hmo hdl
  have hrl := gm.rl
  have hal := gm.al
  have hsl := gm.sl
  have hr0 := List.length_pos_iff.mpr gm.r0
  have ha0 := List.length_pos_iff.mpr gm.a0
  have hs0 := List.length_pos_iff.mpr gm.s0
  obtain ⟨e1, e2, e3, e4⟩ := id tl
  simp only at e1 e2 e3 e4
  simp [b__law_turned, begin_]
  rw [s_sSeq]; simp
  rw [s_sSeq]; simp [e4]
  rw [s_sSeq]; simp
  refine takeF (Fr.refl p0) (by omega) (by omega) fun way g1 w0 w1 F1 b1 => ?_
  simp
  rw [s_sSeq]; simp
  refine takeF F1 (by split <;> omega) (by split <;> omega) fun at_ g2 y0 y1 F2 b2 => ?_
  simp
  rw [s_sSeq]; simp [F2.T p0 e3]
  refine takeF F2 (by omega) (by omega) fun i g3 i0 i1 F3 b3 => ?_
  obtain ⟨hi, ei⟩ := atI_in (xs := m.rooms) i0 i1
  simp [F3.T p0 e3, ei]
  have hrm := List.getElem_mem hi
  generalize m.rooms[i.toNat] = room at hrm
  rw [s_sSeq]; simp [F3.T p0 e3]
  refine takeF F3 (by omega) (by omega) fun j g4 j0 j1 F4 b4 => ?_
  obtain ⟨hj, ej⟩ := atI_in (xs := m.rooms) j0 j1
  simp [F4.T p0 e3, ej]
  have hom := List.getElem_mem hj
  generalize m.rooms[j.toNat] = other at hom
  refine seq_of (fun ψ g => Fr g0 g a ∧ ∃ (sd : Sl) (ds : List Dr) (t6 t7 t8 t9 t10 : Option Sl), LS g0 g sd ds ∧ GM ⟨m.asks, m.says, m.rooms, ds⟩ mo ∧ ds.length ≤ m.doors.length + 1 ∧
    ψ = [some (.d (.ref a)), some (.d (Tm.d ⟨m, a1, a2, a3, a4⟩)), some (.d (.ref a1)), some (.d (.ref a2)), some (.d (.ref a3)), some sd, t6, t7, t8, t9, t10]) (fun nx hn => ?_) ?_
  · have fin : ∀ (g : G) (sd : Sl) (ds : List Dr) (t6 t7 t8 t9 t10 : Option Sl), Fr g0 g a → LS g0 g sd ds → GM ⟨m.asks, m.says, m.rooms, ds⟩ mo → ds.length ≤ m.doors.length + 1 → nx [some (.d (.ref a)), some (.d (Tm.d ⟨m, a1, a2, a3, a4⟩)), some (.d (.ref a1)), some (.d (.ref a2)), some (.d (.ref a3)), some sd, t6, t7, t8, t9, t10] g :=
      fun g sd ds t6 t7 t8 t9 t10 h1 h2 h3 h4 => hn _ _ ⟨h1, sd, ds, t6, t7, t8, t9, t10, h2, h3, h4, rfl⟩
    have gm' : GM ⟨m.asks, m.says, m.rooms, m.doors⟩ mo := gm
    by_cases c0 : way = 0
    · obtain ⟨sd, hsd⟩ : ∃ sd, sd = Sl.own (O.lst (Ds m.doors)) := ⟨_, rfl⟩
      have hL : LS g0 g4 sd m.doors := .inl hsd
      rw [← hsd]
      simp [c0, F4.T p0 e2]
      refine takeF F4 (by omega) (by omega) fun k g5 k0 k1 F5 b5 => ?_
      obtain ⟨hk, ek⟩ := atI_in (xs := m.says) k0 k1
      simp [F5.T p0 e2, ek]
      have hw := List.getElem_mem hk
      generalize m.says[k.toNat] = w at hw
      refine putSt (s := [wSay, w]) F5 (hL.take F4.pen b5) (by omega) rfl fun sd' g6 F6 hL6 => ?_
      simp
      exact fin _ _ _ _ _ _ _ _ F6 hL6 (gm'.put_other (d := ⟨room, [wSay, w], other⟩) (by simp [okDoor, isSign, hrm, hom, hw]) (.inr rfl) (by simp) (by simp only; omega)) (put_len _ _)
    by_cases c1 : way = 1
    · obtain ⟨sd, hsd⟩ : ∃ sd, sd = Sl.own (O.lst (Ds m.doors)) := ⟨_, rfl⟩
      have hL : LS g0 g4 sd m.doors := .inl hsd
      rw [← hsd]
      simp [c1, F4.T p0 e1]
      refine takeF F4 (by omega) (by omega) fun k g5 k0 k1 F5 b5 => ?_
      obtain ⟨hk, ek⟩ := atI_in (xs := m.asks) k0 k1
      simp [F5.T p0 e1, ek]
      have hw := List.getElem_mem hk
      generalize m.asks[k.toNat] = w at hw
      refine putSt (s := [wAsk, w]) F5 (hL.take F4.pen b5) (by omega) rfl fun sd' g6 F6 hL6 => ?_
      simp
      exact fin _ _ _ _ _ _ _ _ F6 hL6 (gm'.put_other (d := ⟨room, [wAsk, w], other⟩) (by simp [okDoor, isSign, hrm, hom, hw]) (.inr rfl) (by simp) (by simp only; omega)) (put_len _ _)
    by_cases c4 : way = 4
    · obtain ⟨sd, hsd⟩ : ∃ sd, sd = Sl.own (O.lst (Ds m.doors)) := ⟨_, rfl⟩
      have hL : LS g0 g4 sd m.doors := .inl hsd
      rw [← hsd]
      simp [c4]
      refine call_of ⟨m.doors, [other]⟩ ⟨⟨_, _, rfl, by simpa using hL.look, by simp⟩, by simp only; omega, by simp⟩ ?_
      rintro r g6 ⟨rfl, ex, rfl, x1, x2, x3⟩
      simp
      split
      rotate_left
      · exact fin _ _ _ _ _ _ _ _ F4 hL gm' (by omega)
      · rename_i c
        have hnr : ¬ Reach m.doors other room := fun z => by
          have all : ∀ y, Reach m.doors other y → y ∈ [other] ++ ex := fun y hy => by
            induction hy with
            | one s => exact x3 _ (by simp) _ s
            | snoc _ s ih => exact x3 _ ih _ s
          have := all _ z
          simp [c] at this
        refine putSt (s := [wStill]) F4 hL (by omega) rfl fun sd' g7 F7 hL7 => ?_
        simp
        exact fin _ _ _ _ _ _ _ _ F7 hL7 (gm'.put (d := ⟨room, [wStill], other⟩) (by simp [okDoor, isSign, hrm, hom]) (.inl rfl) (loose_put gm.loose c.1 hnr) (by simp only; omega)) (put_len _ _)
    by_cases c3 : way < 4
    · by_cases cd : m.doors = []
      · simp [c0, c1, c3, c4, cd]
        exact fin _ _ [] _ _ _ _ _ F4 (.inl rfl) (cd ▸ gm') (by simp)
      · have hdp := List.length_pos_iff.mpr cd
        have hat : at_ < m.doors.length := by split at y1 <;> omega
        obtain ⟨hk, ek⟩ := atI_in (xs := m.doors) y0 hat
        have eg : m.doors[at_.toNat]? = some m.doors[at_.toNat] := List.getElem?_eq_getElem hk
        have hdm := List.getElem_mem hk
        have h2 := gm.two _ hdm
        have hdo := okDoor_in (gm.ok _ hdm)
        generalize m.doors[at_.toNat] = d at ek eg hdm h2 hdo
        obtain ⟨h, hh⟩ : ∃ h, d.s[0]? = some h := by
          rcases h2.cases with ⟨x, e⟩ | ⟨x, y, e⟩ <;> rw [e] <;> exact ⟨_, rfl⟩
        have hb : -4611686018427387904 ≤ at_ ∧ at_ < 4611686018427387904 := by omega
        simp [c0, c1, c3, c4, cd, ek, hh]
        split
        · exact fin _ _ _ _ _ _ _ _ F4 (.inl rfl) gm' (by omega)
        · rename_i hst
          have ee : (Ds m.doors).eraseIdx at_.toNat = Ds (m.doors.eraseIdx at_.toNat) := eraseIdx_map' dr _ _
          have hel : (m.doors.eraseIdx at_.toNat).length ≤ m.doors.length := (List.eraseIdx_sublist _ _).length_le
          have ge := gm.erase at_.toNat
          generalize m.doors.eraseIdx at_.toNat = ds' at ee hel ge
          rw [s_sSeq]; simp [hb, idxOf_lt y0 hat, eg, ee]
          by_cases c5 : way = 3
          · simp [c5]
            intro p hp
            refine call_of ⟨p, ds', ⟨d.r, d.s, other⟩⟩ ⟨rfl, G.upd_same, by simp only; omega⟩ ?_
            rintro r g6 ⟨rfl, e6, k6⟩
            have hns : d.s ≠ [wStill] := fun z => by rw [z] at hh; simp at hh; exact hst hh.symm
            have := put_len ds' ⟨d.r, d.s, other⟩
            exact fin _ _ _ _ _ _ _ _ (F4.offN hp k6) (.inr ⟨p, rfl, e6, F4.free hp, put_ne _ _⟩) (ge.put_other (d := ⟨d.r, d.s, other⟩) (by simp [okDoor, hdo.1, hom, hdo.2.2]) h2 hns (by simp only; omega)) (Nat.le_trans (put_len _ _) (by simp only; omega))
          · simp [c5]
            exact fin _ _ _ _ _ _ _ _ F4 (.inl rfl) ge (by omega)
    · simp [c0, c1, c3, c4]
      exact fin _ _ _ _ _ _ _ _ F4 (.inl rfl) gm' (by omega)
  · rintro ψ g5 ⟨F5, sd, ds, t6, t7, t8, t9, t10, hL, hg, hl, rfl⟩
    rcases hL with rfl | ⟨p, rfl, e, n, _⟩
    · simp
      intro p hp
      exact ret_now (hq _ _ ⟨F5.offN hp fun b hb => rfl, p, ds, rfl, G.upd_same, F5.free hp, hg, hl⟩)
    · simp
      exact ret_now (hq _ _ ⟨F5, p, ds, rfl, e, n, hg, hl⟩)
/-- a room takes an ask -/
def Takes (m : Mch) (room ask : List Nat) : Prop := ∃ d ∈ m.doors, (d.r = room ∨ Reach m.doors room d.r) ∧ d.s = [wAsk, ask]
def Taker (m : Mch) : Prop := ∀ room ∈ m.rooms, ∀ ask ∈ m.asks, Takes m room ask
theorem Takes.put {m : Mch} {room ask : List Nat} (h : Takes m room ask) {d : Dr} (hd : d.s ≠ [wStill]) : Takes ⟨m.asks, m.says, m.rooms, Pd.put m.doors d⟩ room ask := by
  obtain ⟨x, h1, h2, h3⟩ := h
  refine ⟨x, ?_, h2.imp_right fun r => reach_mono (fun a b s => (still_other hd).mpr s) r, h3⟩
  show x ∈ Pd.put m.doors d
  unfold Pd.put
  split
  · exact h1
  · exact List.mem_append_left _ h1
theorem put_mem (ds : List Dr) (d : Dr) : d ∈ put ds d := by
  unfold put
  split
  · assumption
  · simp
def d_willing : Sg Tu := ⟨fun x ss g => ss = [.d (.ref x.a), .d x.x.d] ∧ Pen g x.a ∧ Told g x.x ∧ GM x.x.m x.mo ∧ x.mo ≤ 26 ∧ x.x.m.doors.length ≤ 800,
  fun x g r g' => Fr g g' x.a ∧ ∃ a4' ds, r = .d (.tup [.ref x.x.a1, .ref x.x.a2, .ref x.x.a3, .ref a4']) ∧ g' a4' = some (.lst (Ds ds)) ∧ g a4' = none ∧ GM ⟨x.x.m.asks, x.x.m.says, x.x.m.rooms, ds⟩ x.mo ∧ ds.length ≤ x.x.m.doors.length + 4 * x.mo ∧ Taker ⟨x.x.m.asks, x.x.m.says, x.x.m.rooms, ds⟩, fun _ _ _ _ => False⟩
theorem k_willing : Keeps d_willing.wp (b__law_willing d_stillon.wp d_take.wp d_put.wp) 11 := by
  rintro ss g0 E Q ⟨⟨a, mo, ⟨m, a1, a2, a3, a4⟩⟩, ⟨rfl, p0, tl, gm, hmo, hdl⟩, hq, _⟩
  have h8 := most_is
  simp only at p0 gm hmo hdl
  have hrl := gm.rl
  have hal := gm.al
  have hr0 := List.length_pos_iff.mpr gm.r0
  obtain ⟨e1, e2, e3, e4⟩ := id tl
  simp only at e1 e2 e3 e4
  have pre := fun (sd : Sl) (t6 t7 t8 t9 t10 : Option Sl) => ([some (.d (.ref a)), some (.d (Tm.d ⟨m, a1, a2, a3, a4⟩)), some (.d (.ref a1)), some (.d (.ref a2)), some (.d (.ref a3)), some sd, t6, t7, t8, t9, t10] : Psi)
  clear pre
  simp [b__law_willing, begin_]
  rw [s_sSeq]; simp
  rw [s_sSeq]; simp [e4]
  refine seq_of (fun ψ g => Fr g0 g a ∧ ∃ (sd : Sl) (ds : List Dr) (t6 t7 t8 t9 t10 : Option Sl), LS g0 g sd ds ∧ GM ⟨m.asks, m.says, m.rooms, ds⟩ mo ∧ ds.length ≤ m.doors.length + 4 * mo ∧ Taker ⟨m.asks, m.says, m.rooms, ds⟩ ∧
    ψ = [some (.d (.ref a)), some (.d (Tm.d ⟨m, a1, a2, a3, a4⟩)), some (.d (.ref a1)), some (.d (.ref a2)), some (.d (.ref a3)), some sd, t6, t7, t8, t9, t10]) (fun nx hn => ?_) ?_
  · simp [e3]
    refine for_map D.str m.rooms (fun done ψ g => Fr g0 g a ∧ ∃ (sd : Sl) (ds : List Dr) (t6 t7 t8 t9 t10 : Option Sl), LS g0 g sd ds ∧ GM ⟨m.asks, m.says, m.rooms, ds⟩ mo ∧ ds.length ≤ m.doors.length + 4 * done.length ∧ (∀ room ∈ done, ∀ ask ∈ m.asks, Takes ⟨m.asks, m.says, m.rooms, ds⟩ room ask) ∧
      ψ = [some (.d (.ref a)), some (.d (Tm.d ⟨m, a1, a2, a3, a4⟩)), some (.d (.ref a1)), some (.d (.ref a2)), some (.d (.ref a3)), some sd, t6, t7, t8, t9, t10]) ?_ ?_ _ _ ⟨Fr.refl p0, _, m.doors, none, none, none, none, none, .inl rfl, gm, by simp, by simp, rfl⟩
    · rintro done room rest ed ψ g1 K ⟨F1, sd, ds, t6, t7, t8, t9, t10, hL, hg, hl, hdn, rfl⟩ hK
      have hrm : room ∈ m.rooms := by rw [ed]; simp
      have hdl2 : done.length < m.rooms.length := by rw [ed]; simp
      simp [F1.T p0 e1]
      refine for_map D.str m.asks (fun dn ψ g => Fr g0 g a ∧ ∃ (sd : Sl) (ds : List Dr) (t7 t8 t9 t10 : Option Sl), LS g0 g sd ds ∧ GM ⟨m.asks, m.says, m.rooms, ds⟩ mo ∧ ds.length ≤ m.doors.length + 4 * done.length + dn.length ∧ ((∀ room ∈ done, ∀ ask ∈ m.asks, Takes ⟨m.asks, m.says, m.rooms, ds⟩ room ask) ∧ ∀ ask ∈ dn, Takes ⟨m.asks, m.says, m.rooms, ds⟩ room ask) ∧
        ψ = [some (.d (.ref a)), some (.d (Tm.d ⟨m, a1, a2, a3, a4⟩)), some (.d (.ref a1)), some (.d (.ref a2)), some (.d (.ref a3)), some sd, some (.d (.str room)), t7, t8, t9, t10]) ?_ ?_ _ _ ⟨F1, sd, ds, _, _, _, _, hL, hg, by simpa using hl, ⟨hdn, by simp⟩, rfl⟩
      · rintro dn ask rs e2' ψ g2 K2 ⟨F2, sd, ds, t7, t8, t9, t10, hL, hg, hl, ⟨hdn, hdn2⟩, rfl⟩ hK2
        have ham : ask ∈ m.asks := by rw [e2']; simp
        have hal2 : dn.length < m.asks.length := by rw [e2']; simp
        simp
        rw [s_sSeq]; simp
        refine call_of ⟨ds, [room]⟩ ⟨⟨_, _, rfl, by simpa using hL.look, by simp⟩, by simp only; omega, by simp⟩ ?_
        rintro r g3 ⟨rfl, ex, rfl, x1, x2, x3⟩
        have lkd := hL.look
        have hR : ∀ y, y ∈ [room] ++ ex ↔ y = room ∨ Reach ds room y := fun y => by
          constructor
          · intro h
            rcases List.mem_append.mp h with h | h
            · exact .inl (List.mem_singleton.mp h)
            · obtain ⟨_, v, hv, hr⟩ := x2 y h
              rw [List.mem_singleton.mp hv] at hr
              exact .inr hr
          · rintro (rfl | h)
            · simp
            · induction h with
              | one s => exact x3 _ (by simp) _ s
              | snoc _ s ih => exact x3 _ ih _ s
        simp only
        generalize [room] ++ ex = there at hR
        simp [lkd, lendAll, wipe, lend_some, lend_none, lend]
        refine comp_map dr (fun d => decide (d.r ∈ there) && decide (d.s = [wAsk, ask])) dr ds (by omega) ?_ ?_
        · intro d hd acc K3 ha h1' h2'
          by_cases c1 : d.r ∈ there
          · by_cases c2 : d.s = [wAsk, ask]
            · simp [c1, c2, ha, lkd]
              simpa [c2] using h1' (by simp [c1, c2])
            · simp [c1, c2, lkd]
              exact h2' (by simp [c2])
          · simp [c1, lkd]
            exact h2' (by simp [c1])
        have hem : ds.filter (fun d => decide (d.r ∈ there) && decide (d.s = [wAsk, ask])) ≠ [] ↔ Takes ⟨m.asks, m.says, m.rooms, ds⟩ room ask := by
          constructor
          · intro h
            cases e : ds.filter (fun d => decide (d.r ∈ there) && decide (d.s = [wAsk, ask])) with
            | nil => exact absurd e h
            | cons d r =>
              have hm : d ∈ ds.filter (fun d => decide (d.r ∈ there) && decide (d.s = [wAsk, ask])) := by rw [e]; simp
              obtain ⟨h1, h2⟩ := List.mem_filter.mp hm
              simp at h2
              exact ⟨d, h1, (hR _).mp h2.1, h2.2⟩
          · rintro ⟨d, h1, h2, h3⟩ z
            have hm := (List.mem_filter (p := fun d : Dr => decide (d.r ∈ there) && decide (d.s = [wAsk, ask]))).mpr ⟨h1, by simp [(hR _).mpr h2, h3]⟩
            rw [z] at hm; cases hm
        generalize ds.filter (fun d => decide (d.r ∈ there) && decide (d.s = [wAsk, ask])) = L at hem
        simp
        have fin : ∀ (g : G) (sd : Sl) (ds' : List Dr) (t7 t8 t9 t10 : Option Sl), Fr g0 g a → LS g0 g sd ds' → GM ⟨m.asks, m.says, m.rooms, ds'⟩ mo → ds'.length ≤ ds.length + 1 → ((∀ room ∈ done, ∀ ask ∈ m.asks, Takes ⟨m.asks, m.says, m.rooms, ds'⟩ room ask) ∧ (∀ ask ∈ dn, Takes ⟨m.asks, m.says, m.rooms, ds'⟩ room ask) ∧ Takes ⟨m.asks, m.says, m.rooms, ds'⟩ room ask) →
            ∃ g2, G.le g2 g ∧ g2 a1 = some (O.lst (T m.asks)) ∧ K2 [some (.d (.ref a)), some (.d (Tm.d ⟨m, a1, a2, a3, a4⟩)), some (.d (.ref a1)), some (.d (.ref a2)), some (.d (.ref a3)), some sd, some (.d (.str room)), t7, t8, t9, t10] g2 := fun g sd ds' t7 t8 t9 t10 h1 h2 h3 h4 h5 =>
          now ⟨h1.T p0 e1, hK2 _ _ ⟨h1, sd, ds', t7, t8, t9, t10, h2, h3, by simp; omega, ⟨h5.1, fun ask' h => (List.mem_append.mp h).elim (h5.2.1 ask') fun h => by rw [List.mem_singleton.mp h]; exact h5.2.2⟩, rfl⟩⟩
        by_cases c : L = []
        · simp [c]
          rw [s_sSeq]; simp [F2.T p0 e3]
          refine takeF F2 (by omega) (by omega) fun j g4 j0 j1 F4 b4 => ?_
          obtain ⟨hj, ej⟩ := atI_in (xs := m.rooms) j0 j1
          simp [F4.T p0 e3, ej]
          have hom := List.getElem_mem hj
          generalize m.rooms[j.toNat] = r2 at hom
          refine takeF F4 (by omega) (by omega) fun u g5 u0 u1 F5 b5 => ?_
          obtain ⟨other, eo, ho⟩ : ∃ o : List Nat, atI [D.str room, D.str r2] u = some (.str o) ∧ o ∈ m.rooms := by
            have : u = 0 ∨ u = 1 := by omega
            rcases this with rfl | rfl
            · exact ⟨room, by simp, hrm⟩
            · exact ⟨r2, by simp, hom⟩
          simp [eo]
          refine putSt (s := [wAsk, ask]) F5 ((hL.take F2.pen b4).take F4.pen b5) (by omega) rfl fun sd' g6 F6 hL6 => ?_
          simp
          have hns : (⟨room, [wAsk, ask], other⟩ : Dr).s ≠ [wStill] := by simp
          exact fin _ _ _ _ _ _ _ F6 hL6 (hg.put_other (d := ⟨room, [wAsk, ask], other⟩) (by simp [okDoor, isSign, hrm, ho, ham]) (.inr rfl) hns (by simp only; omega)) (put_len _ _)
            ⟨fun r hr a ha => (hdn r hr a ha).put hns, fun a ha => (hdn2 a ha).put hns, ⟨room, [wAsk, ask], other⟩, put_mem _ _, .inl rfl, rfl⟩
        · simp [c]
          exact fin _ _ _ _ _ _ _ F2 hL hg (by omega) ⟨hdn, hdn2, hem.mp c⟩
      · rintro ψ g2 ⟨F2, sd, ds, t7, t8, t9, t10, hL, hg, hl, ⟨hdn, hdn2⟩, rfl⟩
        refine now ⟨by simp [F2.T p0 e3], hK _ _ ⟨F2, sd, ds, _, _, _, _, _, hL, hg, by simp; omega, fun r hr => ?_, rfl⟩⟩
        rcases List.mem_append.mp hr with h | h
        · exact hdn r h
        · rw [List.mem_singleton.mp h]; exact hdn2
    · rintro ψ g1 ⟨F1, sd, ds, t6, t7, t8, t9, t10, hL, hg, hl, hdn, rfl⟩
      exact hn _ _ ⟨F1, sd, ds, _, _, _, _, _, hL, hg, by omega, hdn, rfl⟩
  · rintro ψ g5 ⟨F5, sd, ds, t6, t7, t8, t9, t10, hL, hg, hl, hT, rfl⟩
    rcases hL with rfl | ⟨p, rfl, e, n, _⟩
    · simp
      intro p hp
      exact ret_now (hq _ _ ⟨F5.offN hp fun b hb => rfl, p, ds, rfl, G.upd_same, F5.free hp, hg, hl, hT⟩)
    · simp
      exact ret_now (hq _ _ ⟨F5, p, ds, rfl, e, n, hg, hl, hT⟩)
structure Nr where
  a : Nat
  mo : Nat
  x : Tm
  most : Nat
def d_near : Sg Nr := ⟨fun x ss g => ss = [.d (.ref x.a), .d x.x.d, .d (.int x.most)] ∧ Pen g x.a ∧ Told g x.x ∧ GM x.x.m x.mo ∧ x.mo ≤ 26 ∧ x.x.m.doors.length + x.most ≤ 700 ∧ x.most ≤ 100,
  fun x g r g' => Fr g g' x.a ∧ ∃ (m : Mch) (a3' a4' : Nat), r = .d (.tup [.ref x.x.a1, .ref x.x.a2, .ref a3', .ref a4']) ∧ Told g' ⟨m, x.x.a1, x.x.a2, a3', a4'⟩ ∧ GM m x.mo ∧ m.asks = x.x.m.asks ∧ m.says = x.x.m.says ∧ m.doors.length ≤ x.x.m.doors.length + x.most + 4 * x.mo ∧ Taker m, fun _ _ _ _ => False⟩
theorem taker_ren {m : Mch} {mo : Nat} (h : GM m mo) (ht : Taker m) {ns rooms' : List (List Nat)} (hl : m.rooms.length = ns.length) (hn : ns.Nodup) (hp : rooms'.Perm ns) : Taker ⟨m.asks, m.says, rooms', m.doors.map (renD (Pd.ren (m.rooms.zip ns)))⟩ := by
  intro room hr ask ha
  have hm : room ∈ m.rooms.map (Pd.ren (m.rooms.zip ns)) := by rw [ren_map h.rnd hl]; exact hp.mem_iff.mp hr
  obtain ⟨r0, h0, rfl⟩ := List.mem_map.mp hm
  obtain ⟨d, h1, h2, h3⟩ := ht r0 h0 ask ha
  refine ⟨renD (Pd.ren (m.rooms.zip ns)) d, List.mem_map_of_mem h1, ?_, h3⟩
  have one : ∀ {a b : List Nat}, Still m.doors a b → Still (m.doors.map (renD (Pd.ren (m.rooms.zip ns)))) (Pd.ren (m.rooms.zip ns) a) (Pd.ren (m.rooms.zip ns) b) := fun {a b} ⟨x, x1, x2, x3, x4⟩ => ⟨renD _ x, List.mem_map_of_mem x1, by rw [← x2]; rfl, x3, by rw [← x4]; rfl⟩
  rcases h2 with h2 | h2
  · exact .inl (by rw [← h2]; rfl)
  · refine .inr ?_
    show Reach _ _ (Pd.ren (m.rooms.zip ns) d.r)
    generalize d.r = y at h2
    induction h2 with
    | one s => exact .one (one s)
    | snoc _ s ih => exact .snoc ih (one s)
theorem k_near : Keeps d_near.wp (b__law_near d_anew.wp d_take.wp d_turned.wp d_willing.wp d_renamed.wp) 4 := by
  rintro ss g0 E Q ⟨⟨a, mo, ⟨m, a1, a2, a3, a4⟩, mt⟩, ⟨rfl, p0, tl, gm, hmo, hdl, hmt⟩, hq, _⟩
  have h8 := most_is
  simp only at p0 gm hmo hdl hmt
  simp [b__law_near, begin_]
  rw [s_sSeq]; simp
  refine call_of a ⟨rfl, p0⟩ ?_
  rintro r g1 ⟨rfl, p1, k1⟩
  have F1 := (Fr.refl p0).take p1 k1
  refine seq_of (fun ψ g => Fr g0 g a ∧ ∃ (ds : List Dr) (b4 : Nat) (t3 : Option Sl), Told g ⟨⟨m.asks, m.says, m.rooms, ds⟩, a1, a2, a3, b4⟩ ∧ GM ⟨m.asks, m.says, m.rooms, ds⟩ mo ∧ ds.length ≤ m.doors.length + mt ∧
    ψ = [some (.d (.ref a)), some (.d (.tup [.ref a1, .ref a2, .ref a3, .ref b4])), some (.d (.int mt)), t3]) (fun nx hn => ?_) ?_
  · simp
    refine takeF F1 (by omega) (by omega) fun n g2 n0 n1 F2 b2 => ?_
    simp
    refine ⟨by omega, by omega, ?_⟩
    refine for_ind (fun rest ψ g => Fr g0 g a ∧ ∃ (ds : List Dr) (b4 : Nat) (t3 : Option Sl), Told g ⟨⟨m.asks, m.says, m.rooms, ds⟩, a1, a2, a3, b4⟩ ∧ GM ⟨m.asks, m.says, m.rooms, ds⟩ mo ∧ ds.length + rest.length ≤ m.doors.length + mt ∧
      ψ = [some (.d (.ref a)), some (.d (.tup [.ref a1, .ref a2, .ref a3, .ref b4])), some (.d (.int mt)), t3]) ?_ ?_ _ _ _ ⟨F2, m.doors, a4, _, tl.fr F2 p0, gm, by simp; omega, rfl⟩
    · rintro x xs ψ g3 K ⟨F3, ds, b4, t3, t3', hg, hl, rfl⟩ hK
      simp at hl
      simp
      refine call_of ⟨a, mo, ⟨⟨m.asks, m.says, m.rooms, ds⟩, a1, a2, a3, b4⟩⟩ ⟨rfl, F3.pen, t3', hg, hmo, by simp only; omega⟩ ?_
      rintro r g4 ⟨F4, c4, ds', rfl, e4, n4, hg', hl'⟩
      simp only at hg' hl'
      simp
      have t4 := t3'.fr F4 F3.pen
      exact now (hK _ _ ⟨F3.trans F4, ds', c4, _, ⟨t4.e1, t4.e2, t4.e3, e4⟩, hg', by omega, rfl⟩)
    · rintro ψ g3 ⟨F3, ds, b4, t3, t3', hg, hl, rfl⟩
      exact hn _ _ ⟨F3, ds, b4, _, t3', hg, by simpa using hl, rfl⟩
  rintro ψ g3 ⟨F3, ds, b4, t3, t3', hg, hl, rfl⟩
  rw [s_sSeq]; simp
  refine call_of ⟨a, mo, ⟨⟨m.asks, m.says, m.rooms, ds⟩, a1, a2, a3, b4⟩⟩ ⟨rfl, F3.pen, t3', hg, hmo, by simp only; omega⟩ ?_
  rintro r g4 ⟨F4, c4, ds', rfl, e4, n4, hg', hl', hT⟩
  simp only at hg' hl' hT
  have F34 := F3.trans F4
  have t4 := t3'.fr F4 F3.pen
  have t4' : Told g4 ⟨⟨m.asks, m.says, m.rooms, ds'⟩, a1, a2, a3, c4⟩ := ⟨t4.e1, t4.e2, t4.e3, e4⟩
  simp
  refine seq_of (fun ψ g => Fr g0 g a ∧ ∃ (m' : Mch) (b3 b4 : Nat) (t3 : Option Sl), Told g ⟨m', a1, a2, b3, b4⟩ ∧ GM m' mo ∧ (m'.asks = m.asks ∧ m'.says = m.says ∧ m'.doors.length ≤ m.doors.length + mt + 4 * mo) ∧ Taker m' ∧
    ψ = [some (.d (.ref a)), some (.d (.tup [.ref a1, .ref a2, .ref b3, .ref b4])), some (.d (.int mt)), t3]) (fun nx hn => ?_) ?_
  · simp
    refine takeF F34 (by omega) (by omega) fun x g5 x0 x1 F5 b5 => ?_
    have t5 := t4'.fr (F34.take F5.pen b5 |> fun _ => (Fr.refl F34.pen).take F5.pen b5) F34.pen
    simp
    split
    · refine call_of ⟨a, mo, a1, a2, a3, c4, ⟨m.asks, m.says, m.rooms, ds'⟩⟩ ⟨rfl, F5.pen, t5.e3, t5.e4, hg', hmo⟩ ?_
      rintro r g6 ⟨F6, b3, b4, rooms, ds2, rfl, f3, f4, _, _, gm6, ns, q1, q2, q3, rfl⟩
      have t6 := t5.fr F6 F5.pen
      simp
      exact hn _ _ ⟨F5.trans F6, ⟨m.asks, m.says, rooms, ds'.map (renD (Pd.ren (m.rooms.zip ns)))⟩, b3, b4, _, ⟨t6.e1, t6.e2, f3, f4⟩, gm6, ⟨rfl, rfl, by simp; omega⟩, taker_ren hg' hT q1 q2 q3, rfl⟩
    · exact hn _ _ ⟨F5, _, a3, c4, _, t5, hg', ⟨rfl, rfl, by simp only; omega⟩, hT, rfl⟩
  · rintro ψ g5 ⟨F5, m', b3, b4, t3, t5, hg5, ⟨h1, h2, h3⟩, hT5, rfl⟩
    simp
    exact ret_now (hq _ _ ⟨F5, m', b3, b4, rfl, t5, hg5, h1, h2, h3, hT5⟩)
end Pd
set_option linter.all false
set_option maxRecDepth 10000
namespace Pd
/-! takers are asked for -/
def LackIs (m : Mch) (room ask : List Nat) : Prop := ∃ r1 r2 a1 a2, m.rooms = r1 ++ room :: r2 ∧ m.asks = a1 ++ ask :: a2 ∧ (∀ r ∈ r1, ∀ a ∈ m.asks, Takes m r a) ∧ (∀ a ∈ a1, Takes m room a) ∧ ¬ Takes m room ask
theorem hasDoor_takes {m : Mch} (ok : MOk m) {room ask : List Nat} (hr : room ∈ m.rooms) : hasDoor m (closed m [room]) [wAsk, ask] = true ↔ Takes m room ask := by
  rw [hasDoor_iff]
  constructor
  · rintro ⟨d, h1, h2, h3⟩
    refine ⟨d, h1, ?_, h3⟩
    rcases (mem_closed.mp h2).2 with h | ⟨v, hv, hr⟩
    · exact .inl (List.mem_singleton.mp h)
    · rw [List.mem_singleton.mp hv] at hr; exact .inr hr
  · rintro ⟨d, h1, h2, h3⟩
    refine ⟨d, h1, mem_closed.mpr ⟨(ok.en d h1).1, ?_⟩, h3⟩
    rcases h2 with h | h
    · exact .inl (by simp [h])
    · exact .inr ⟨room, by simp, h⟩
structure Nt where
  pM : Nat
  mM : Mch
  pI : Nat
  mI : Mch
def noTaker (room ask : List Nat) : X := ⟨"NoTaker", [("room", .str room), ("ask", .str ask)]⟩
def d_needtaker : Sg Nt := ⟨fun x ss g => ss = [.d (.ref x.pM), .d (.ref x.pI)] ∧ MachD g x.pM x.mM ∧ MachD g x.pI x.mI ∧ MOk x.mI,
  fun x g r g' => g' = g ∧ r = .d .non ∧ (x.mI.asks = x.mM.asks ∧ x.mI.says = x.mM.says) ∧ Taker x.mI,
  fun x g z g' => g' = g ∧ (¬ (x.mI.asks = x.mM.asks ∧ x.mI.says = x.mM.says) ∧ z = ⟨"NoMatch", []⟩ ∨ (x.mI.asks = x.mM.asks ∧ x.mI.says = x.mM.says) ∧ ∃ room ask, LackIs x.mI room ask ∧ z = noTaker room ask)⟩
theorem k_needtaker : Keeps d_needtaker.wp (b_need_taker d_asksD.wp d_saysD.wp d_roomsD.wp d_still.wp d_hasdoor.wp) 5 := by
  rintro ss g E Q ⟨⟨pM, mM, pI, mI⟩, ⟨rfl, hM, hI, ok⟩, hq, he⟩
  have h8 := most_is
  have hrl := ok.rl
  simp only at hrl
  have ok : MOk mI := ok
  have hM : MachD g pM mM := hM
  have hI : MachD g pI mI := hI
  simp [b_need_taker, begin_]
  refine seq_of (fun ψ g2 => g2 = g ∧ (mI.asks = mM.asks ∧ mI.says = mM.says) ∧ ψ = [some (.d (.ref pM)), some (.d (.ref pI)), none, none, none]) (fun nx hn => ?_) ?_
  · simp
    refine ⟨hI.ins (f := "asks") rfl, ?_⟩
    refine call_of ⟨pI, mI⟩ ⟨rfl, hI⟩ ?_
    rintro r g1 ⟨rfl, rfl⟩
    simp
    refine ⟨hM.ins (f := "asks") rfl, ?_⟩
    refine call_of ⟨pM, mM⟩ ⟨rfl, hM⟩ ?_
    rintro r g1 ⟨rfl, rfl⟩
    simp
    by_cases c1 : mI.asks = mM.asks
    · simp [c1]
      refine ⟨hI.ins (f := "says") rfl, ?_⟩
      refine call_of ⟨pI, mI⟩ ⟨rfl, hI⟩ ?_
      rintro r g2 ⟨rfl, rfl⟩
      simp
      refine ⟨hM.ins (f := "says") rfl, ?_⟩
      refine call_of ⟨pM, mM⟩ ⟨rfl, hM⟩ ?_
      rintro r g2 ⟨rfl, rfl⟩
      simp
      by_cases c2 : mI.says = mM.says
      · simp [c2]
        exact hn _ _ ⟨rfl, ⟨c1, c2⟩, rfl⟩
      · simp [c2]
        exact he _ _ ⟨rfl, .inl ⟨fun z => c2 z.2, rfl⟩⟩
    · simp [c1]
      exact he _ _ ⟨rfl, .inl ⟨fun z => c1 z.1, rfl⟩⟩
  rintro ψ g2 ⟨rfl, hw, rfl⟩
  simp
  refine ⟨hI.ins (f := "rooms") rfl, ?_⟩
  refine call_of ⟨pI, mI⟩ ⟨rfl, hI⟩ ?_
  rintro r g1 ⟨rfl, rfl⟩
  simp
  refine for_map D.str mI.rooms (fun done ψ g => g = g1 ∧ (∀ r ∈ done, ∀ a ∈ mI.asks, Takes mI r a) ∧ ∃ t2 t3 t4, ψ = [some (.d (.ref pM)), some (.d (.ref pI)), t2, t3, t4]) ?_ ?_ _ _ ⟨rfl, by simp, _, _, _, rfl⟩
  · rintro done room rest ed ψ g3 K ⟨rfl, hdn, t2, t3, t4, rfl⟩ hK
    have hrm : room ∈ mI.rooms := by rw [ed]; simp
    simp
    rw [s_sSeq]; simp
    refine call_of ⟨pI, mI, [room]⟩ ⟨⟨_, rfl, by simp⟩, hI, ok, by simp [hrm], by simp⟩ ?_
    rintro r g4 ⟨rfl, rfl⟩
    simp
    refine ⟨hI.ins (f := "asks") rfl, ?_⟩
    refine call_of ⟨pI, mI⟩ ⟨rfl, hI⟩ ?_
    rintro r g5 ⟨rfl, rfl⟩
    simp
    refine for_map D.str mI.asks (fun dn ψ g => g = g5 ∧ (∀ a ∈ dn, Takes mI room a) ∧ ∃ t4, ψ = [some (.d (.ref pM)), some (.d (.ref pI)), some (.d (.str room)), some (.d (.tup (T (closed mI [room])))), t4]) ?_ ?_ _ _ ⟨rfl, by simp, _, rfl⟩
    · rintro dn ask rs e2 ψ g6 K2 ⟨rfl, hdn2, t4, rfl⟩ hK2
      simp
      refine call_of ⟨pI, mI, closed mI [room], [wAsk, ask]⟩ ⟨rfl, hI, ok, fun w h => (mem_closed.mp h).1⟩ ?_
      rintro r g7 ⟨rfl, rfl⟩
      have hh := hasDoor_takes ok (ask := ask) hrm
      cases b : hasDoor mI (closed mI [room]) [wAsk, ask] with
      | true =>
        simp [b]
        exact now (hK2 _ _ ⟨rfl, fun a h => (List.mem_append.mp h).elim (hdn2 a) fun h => by rw [List.mem_singleton.mp h]; exact hh.mp b, _, rfl⟩)
      | false =>
        simp [b]
        exact he _ _ ⟨rfl, .inr ⟨hw, room, ask, ⟨done, rest, dn, rs, ed, e2, hdn, hdn2, fun z => by rw [hh.mpr z] at b; cases b⟩, rfl⟩⟩
    · rintro ψ g6 ⟨rfl, hdn2, t4, rfl⟩
      exact now (hK _ _ ⟨rfl, fun r h => (List.mem_append.mp h).elim (hdn r) fun h => by rw [List.mem_singleton.mp h]; exact hdn2, _, _, _, rfl⟩)
  · rintro ψ g3 ⟨rfl, hdn, t2, t3, t4, rfl⟩
    exact ret_now (hq _ _ ⟨rfl, rfl, hw, hdn⟩)
end Pd
set_option linter.all false
set_option maxRecDepth 10000
namespace Pd
/-! rings of still doors -/
theorem loose_rank {ds : List Dr} (rk : List Nat → Nat) (h : ∀ a b, Still ds a b → rk a < rk b) (x : List Nat) : ¬ Reach ds x x := fun r => by
  have key : ∀ {a b}, Reach ds a b → rk a < rk b := fun {a b} r => by
    induction r with
    | one s => exact h _ _ s
    | snoc _ s ih => exact Nat.lt_trans ih (h _ _ s)
  exact Nat.lt_irrefl _ (key r)
theorem roundAt_first {ds : List Dr} : ∀ (rs : List (List Nat)) (s n : Nat) (h : n < rs.length), Reach ds rs[n] rs[n] → (∀ j (hj : j < n), ¬ Reach ds (rs[j]'(by omega)) (rs[j]'(by omega))) → roundAt ds s rs = some (s + n)
  | [], _, _, h, _, _ => by cases h
  | r :: rs, s, 0, h, hr, _ => (round_cons ds s r rs).1 hr
  | r :: rs, s, n + 1, h, hr, hn => by
    rw [(round_cons ds s r rs).2 (hn 0 (by omega)), roundAt_first rs (s + 1) n (by simpa using h) hr fun j hj => hn (j + 1) (by omega)]
    congr 1; omega
def chName (k : Nat) : List Nat := [97 + k / 26, 97 + k % 26]
def chRooms (n : Nat) : List (List Nat) := (List.range n).map chName
theorem chName_inj {a b : Nat} (h : chName a = chName b) : a = b := by
  simp only [chName, List.cons.injEq, and_true] at h
  omega
theorem chRooms_nd (n : Nat) : (chRooms n).Nodup := nodup_map_on (fun x _ y _ e => chName_inj e) List.nodup_range
theorem chRooms_name {n : Nat} (hn : n ≤ 600) : ∀ w ∈ chRooms n, isName w = true := fun w hw => by
  obtain ⟨k, hk, rfl⟩ := List.mem_map.mp hw
  have := List.mem_range.mp hk
  have h1 : k / 26 < 26 := by omega
  have h2 : k % 26 < 26 := by omega
  have hl : ∀ x, x < 26 → (97 + x) ∈ letters := fun x hx => by
    have : x = 0 ∨ x = 1 ∨ x = 2 ∨ x = 3 ∨ x = 4 ∨ x = 5 ∨ x = 6 ∨ x = 7 ∨ x = 8 ∨ x = 9 ∨ x = 10 ∨ x = 11 ∨ x = 12 ∨ x = 13 ∨ x = 14 ∨ x = 15 ∨ x = 16 ∨ x = 17 ∨ x = 18 ∨ x = 19 ∨ x = 20 ∨ x = 21 ∨ x = 22 ∨ x = 23 ∨ x = 24 ∨ x = 25 := by omega
    rcases this with rfl | rfl | rfl | rfl | rfl | rfl | rfl | rfl | rfl | rfl | rfl | rfl | rfl | rfl | rfl | rfl | rfl | rfl | rfl | rfl | rfl | rfl | rfl | rfl | rfl | rfl <;> decide
  have a := hl _ h1
  have b := hl _ h2
  simp [isName, chName, a, b]
def stD2 (a b : List Nat) : Dr := ⟨a, [wStill], b⟩
/-- position k of the turned row -/
abbrev pp (n t k : Nat) : Nat := (t + k) % n
def chDoors (n t : Nat) (m : Nat) : List Dr := (List.range m).map fun k => stD2 (chName (pp n t k)) (chName (pp n t (k + 1)))
def rkOf (n t : Nat) (r : List Nat) : Nat := match r with
  | [a, b] => ((a - 97) * 26 + (b - 97) + n - t) % n
  | _ => 0
theorem rk_name {n t k : Nat} (hn : 0 < n) (ht : t < n) (hk : k < n) : rkOf n t (chName (pp n t k)) = k := by
  show ((97 + pp n t k / 26 - 97) * 26 + (97 + pp n t k % 26 - 97) + n - t) % n = k
  have e : (97 + pp n t k / 26 - 97) * 26 + (97 + pp n t k % 26 - 97) = pp n t k := by omega
  rw [e]
  by_cases c : t + k < n
  · have : pp n t k = t + k := Nat.mod_eq_of_lt c
    rw [this, show t + k + n - t = k + n by omega, Nat.add_mod_right, Nat.mod_eq_of_lt hk]
  · have : pp n t k = t + k - n := by
      show (t + k) % n = _
      rw [Nat.mod_eq_sub_mod (by omega), Nat.mod_eq_of_lt (by omega)]
    rw [this, show t + k - n + n - t = k by omega, Nat.mod_eq_of_lt hk]
theorem pp_onto {n t j : Nat} (hn : 0 < n) (ht : t < n) (hj : j < n) : ∃ k, k < n ∧ pp n t k = j := by
  by_cases c : t ≤ j
  · exact ⟨j - t, by omega, by show (t + (j - t)) % n = j; rw [show t + (j - t) = j by omega, Nat.mod_eq_of_lt hj]⟩
  · exact ⟨j + n - t, by omega, by show (t + (j + n - t)) % n = j; rw [show t + (j + n - t) = j + n by omega, Nat.add_mod_right, Nat.mod_eq_of_lt hj]⟩
theorem ch_still {n t : Nat} {a b : List Nat} (h : Still (chDoors n t (n - 1)) a b) : ∃ k, k + 1 < n ∧ a = chName (pp n t k) ∧ b = chName (pp n t (k + 1)) := by
  obtain ⟨d, h1, rfl, _, rfl⟩ := h
  obtain ⟨k, hk, rfl⟩ := List.mem_map.mp h1
  exact ⟨k, by have := List.mem_range.mp hk; omega, rfl, rfl⟩
theorem ch_step {n t k : Nat} (hk : k + 1 < n) : Still (chDoors n t (n - 1)) (chName (pp n t k)) (chName (pp n t (k + 1))) :=
  ⟨stD2 (chName (pp n t k)) (chName (pp n t (k + 1))), List.mem_map_of_mem (f := fun k => stD2 (chName (pp n t k)) (chName (pp n t (k + 1)))) (List.mem_range.mpr (by omega)), rfl, rfl, rfl⟩
theorem ch_loose {n t : Nat} (hn : 0 < n) (ht : t < n) : ∀ x, ¬ Reach (chDoors n t (n - 1)) x x :=
  loose_rank (rkOf n t) fun a b s => by
    obtain ⟨k, hk, rfl, rfl⟩ := ch_still s
    rw [rk_name hn ht (by omega), rk_name hn ht (by omega)]; omega
/-- one more door, from one to two; the list is the row's with this door somewhere in it -/
structure OneMore (n t one two : Nat) (ds : List Dr) : Prop where
  mem : ∀ d, d ∈ ds ↔ d ∈ chDoors n t (n - 1) ∨ d = stD2 (chName (pp n t one)) (chName (pp n t two))
theorem om_still {n t one two : Nat} {ds : List Dr} (h : OneMore n t one two ds) {a b : List Nat} (s : Still ds a b) : (∃ k, k + 1 < n ∧ a = chName (pp n t k) ∧ b = chName (pp n t (k + 1))) ∨ a = chName (pp n t one) ∧ b = chName (pp n t two) := by
  obtain ⟨d, h1, h2, h3, h4⟩ := s
  rcases (h.mem d).mp h1 with h | rfl
  · exact .inl (ch_still ⟨d, h, h2, h3, h4⟩)
  · exact .inr ⟨h2.symm, h4.symm⟩
theorem om_up {n t one two : Nat} {ds : List Dr} (h : OneMore n t one two ds) (hn : 0 < n) (ht : t < n) (h1 : one < n) (h2 : two < n) (hlt : one < two) : ∀ x, ¬ Reach ds x x :=
  loose_rank (rkOf n t) fun a b s => by
    rcases om_still h s with ⟨k, hk, rfl, rfl⟩ | ⟨rfl, rfl⟩
    · rw [rk_name hn ht (by omega), rk_name hn ht (by omega)]; omega
    · rw [rk_name hn ht h1, rk_name hn ht h2]; exact hlt
theorem om_path {n t one two : Nat} {ds : List Dr} (h : OneMore n t one two ds) : ∀ (m k : Nat), k + (m + 1) < n → Reach ds (chName (pp n t k)) (chName (pp n t (k + (m + 1))))
  | 0, k, hk => .one (by obtain ⟨d, a, b⟩ := ch_step hk; exact ⟨d, (h.mem d).mpr (.inl a), b⟩)
  | m + 1, k, hk => .snoc (om_path h m k (by omega)) (by obtain ⟨d, a, b⟩ := ch_step (n := n) (t := t) (k := k + (m + 1)) (by omega); exact ⟨d, (h.mem d).mpr (.inl a), b⟩)
theorem om_path' {n t one two : Nat} {ds : List Dr} (h : OneMore n t one two ds) {i j : Nat} (hij : i < j) (hj : j < n) : Reach ds (chName (pp n t i)) (chName (pp n t j)) := by
  have := om_path h (j - i - 1) i (by omega)
  rw [show i + (j - i - 1 + 1) = j by omega] at this; exact this
theorem om_ring {n t one two : Nat} {ds : List Dr} (h : OneMore n t one two ds) (h1 : one < n) {k : Nat} (a : two ≤ k) (b : k ≤ one) : Reach ds (chName (pp n t k)) (chName (pp n t k)) := by
  have s : Still ds (chName (pp n t one)) (chName (pp n t two)) := ⟨_, (h.mem _).mpr (.inr rfl), rfl, rfl, rfl⟩
  have r1 : Reach ds (chName (pp n t k)) (chName (pp n t two)) := by
    by_cases c : k = one
    · rw [c]; exact .one s
    · exact .snoc (om_path' h (by omega) h1) s
  by_cases c : two = k
  · rw [← c] at r1 ⊢; exact r1
  · exact r1.trans (om_path' h (by omega) (by omega))
theorem om_only {n t one two : Nat} {ds : List Dr} (h : OneMore n t one two ds) (hn : 0 < n) (ht : t < n) (h1 : one < n) (h2 : two < n) {k : Nat} (hk : k < n) (r : Reach ds (chName (pp n t k)) (chName (pp n t k))) : two ≤ k ∧ k ≤ one := by
  have key : ∀ {a b}, Reach ds a b → rkOf n t a < rkOf n t b ∨ rkOf n t a ≤ one ∧ two ≤ rkOf n t b := fun {a b} r => by
    have one' : ∀ {a b}, Still ds a b → rkOf n t a < rkOf n t b ∨ rkOf n t a ≤ one ∧ two ≤ rkOf n t b ∧ rkOf n t a = one := fun {a b} s => by
      rcases om_still h s with ⟨k, hk, rfl, rfl⟩ | ⟨rfl, rfl⟩
      · rw [rk_name hn ht (by omega), rk_name hn ht (by omega)]; omega
      · rw [rk_name hn ht h1, rk_name hn ht h2]; omega
    induction r with
    | one s => rcases one' s with h | h <;> omega
    | snoc _ s ih => rcases one' s with h | h <;> rcases ih with h' | h' <;> omega
  have := key r
  rw [rk_name hn ht hk] at this
  omega
/-- the least number of a row -/
theorem ring_first {n t one two : Nat} {ds : List Dr} (h : OneMore n t one two ds) (hn : 0 < n) (ht : t < n) (h1 : one < n) (h2 : two ≤ one) {v : Nat} (hv : ∃ k, two ≤ k ∧ k ≤ one ∧ v = pp n t k) (hmin : ∀ k, two ≤ k → k ≤ one → v ≤ pp n t k) : roundAt ds 0 (chRooms n) = some v := by
  obtain ⟨k, a, b, rfl⟩ := hv
  have hlt : pp n t k < n := Nat.mod_lt _ hn
  have at_ : ∀ {j : Nat} (hj : j < (chRooms n).length), (chRooms n)[j] = chName j := fun {j} hj => by simp [chRooms]
  have hl : pp n t k < (chRooms n).length := by simpa [chRooms] using hlt
  have := roundAt_first (ds := ds) (chRooms n) 0 (pp n t k) hl (by rw [at_]; exact om_ring h h1 a b) fun j hj r => by
    rw [at_] at r
    obtain ⟨k', c1, rfl⟩ := pp_onto hn ht (j := j) (by omega)
    obtain ⟨c2, c3⟩ := om_only h hn ht h1 (by omega) c1 r
    have := hmin k' c2 c3
    omega
  rw [this]; simp
end Pd
set_option Elab.async false
set_option linter.all false
namespace Pd
/-- _law_put_in(pen, doors, door) -/
def b__law_put_in (φ__law_take : SpD) : WS :=
  (sIf (tV (eBin oNin (eVar 2) (eVar 1))) (sE (eMut mInsert (eVar 1) (dCons (eCall φ__law_take [true, false] (aCons (eVar 0) (aCons (eBin oAdd (eUn oLen (eVar 1)) (eC (.int 1))) aNil))) (dCons (eVar 2) dNil)))) sNx)
/-- _law_some_stills(pen, rooms, doors) -/
def b__law_some_stills (φ__law_take φ__law_put_in : SpD) : WS :=
  (sSeq (sSet 3 (eCall φ__law_take [true, false] (aCons (eVar 0) (aCons (eC (.int 2)) aNil)))) (sSeq (sSet 4 (eCall φ__law_take [true, false] (aCons (eVar 0) (aCons (eUn oLen (eVar 1)) aNil)))) (sSeq (sSet 5 (eBin oAdd (eCut (eVar 1) (some (eVar 4)) none) (eCut (eVar 1) none (some (eVar 4))))) (sSeq (sFor (iRange (eCall φ__law_take [true, false] (aCons (eVar 0) (aCons (eC (.int 16)) aNil)))) (gName 6) (sSeq (sSet 7 (eCall φ__law_take [true, false] (aCons (eVar 0) (aCons (eUn oLen (eVar 1)) aNil)))) (sSeq (sSet 8 (eCall φ__law_take [true, false] (aCons (eVar 0) (aCons (eUn oLen (eVar 1)) aNil)))) (sIf (tV (eBin oEq (eVar 3) (eC (.int 0)))) (sE (eCall φ__law_put_in [true, true, true] (aCons (eVar 0) (aCons (eVar 2) (aCons (eTup (dCons (eBin oIx (eVar 5) (eVar 7)) (dCons (eTup (dCons (eC (.str [115, 116, 105, 108, 108])) dNil)) (dCons (eBin oIx (eVar 5) (eVar 8)) dNil)))) aNil))))) (sIf (tV (eBin oNe (eVar 7) (eVar 8))) (sE (eCall φ__law_put_in [true, true, true] (aCons (eVar 0) (aCons (eVar 2) (aCons (eTup (dCons (eBin oIx (eVar 5) (eBin oMin2 (eVar 7) (eVar 8))) (dCons (eTup (dCons (eC (.str [115, 116, 105, 108, 108])) dNil)) (dCons (eBin oIx (eVar 5) (eBin oMax2 (eVar 7) (eVar 8))) dNil)))) aNil))))) sNx))))) (sIf (tV (eBin oEq (eCall φ__law_take [true, false] (aCons (eVar 0) (aCons (eC (.int 2)) aNil))) (eC (.int 0)))) (sSeq (sSet 7 (eCall φ__law_take [true, false] (aCons (eVar 0) (aCons (eUn oLen (eVar 1)) aNil)))) (sE (eCall φ__law_put_in [true, true, true] (aCons (eVar 0) (aCons (eVar 2) (aCons (eTup (dCons (eBin oIx (eVar 5) (eVar 7)) (dCons (eTup (dCons (eC (.str [115, 116, 105, 108, 108])) dNil)) (dCons (eBin oIx (eVar 5) (eCall φ__law_take [true, false] (aCons (eVar 0) (aCons (eUn oLen (eVar 1)) aNil)))) dNil)))) aNil)))))) sNx)))))
/-- _law_chain(pen) -/
def b__law_chain (φ__law_take φ__law_letters φ__law_put_in : SpD) : WS :=
  (sSeq (sSet 1 (eBin oAdd (eC (.int 40)) (eCall φ__law_take [true, false] (aCons (eVar 0) (aCons (eC (.int 111)) aNil))))) (sSeq (sSet 2 (eCall φ__law_letters [] aNil)) (sSeq (sSet 3 (eComp [6] (iRange (eVar 1)) (gName 6) tYes (eBin oAdd (eBin oIx (eVar 2) (eBin oDiv (eVar 6) (eC (.int 26)))) (eBin oIx (eVar 2) (eBin oMod (eVar 6) (eC (.int 26))))))) (sSeq (sSet 4 (eCall φ__law_take [true, false] (aCons (eVar 0) (aCons (eVar 1) aNil)))) (sSeq (sSet 5 (eLst dNil)) (sSeq (sFor (iRange (eBin oSub (eVar 1) (eC (.int 1)))) (gName 6) (sE (eMut mAppend (eVar 5) (dCons (eTup (dCons (eBin oIx (eVar 3) (eBin oMod (eBin oAdd (eVar 4) (eVar 6)) (eVar 1))) (dCons (eTup (dCons (eC (.str [115, 116, 105, 108, 108])) dNil)) (dCons (eBin oIx (eVar 3) (eBin oMod (eBin oAdd (eBin oAdd (eVar 4) (eVar 6)) (eC (.int 1))) (eVar 1))) dNil)))) dNil)))) (sSeq (sSet 7 (eC .non)) (sSeq (sIf (tV (eBin oEq (eCall φ__law_take [true, false] (aCons (eVar 0) (aCons (eC (.int 2)) aNil))) (eC (.int 0)))) (sSeq (sSet 8 (eCall φ__law_take [true, false] (aCons (eVar 0) (aCons (eVar 1) aNil)))) (sSeq (sSet 9 (eCall φ__law_take [true, false] (aCons (eVar 0) (aCons (eVar 1) aNil)))) (sSeq (sIf (tV (eBin oLe (eVar 9) (eVar 8))) (sSet 7 (eUn oMinL (eComp [6] (iRange2 (eVar 9) (eBin oAdd (eVar 8) (eC (.int 1)))) (gName 6) tYes (eBin oMod (eBin oAdd (eVar 4) (eVar 6)) (eVar 1))))) sNx) (sE (eCall φ__law_put_in [true, true, true] (aCons (eVar 0) (aCons (eVar 5) (aCons (eTup (dCons (eBin oIx (eVar 3) (eBin oMod (eBin oAdd (eVar 4) (eVar 8)) (eVar 1))) (dCons (eTup (dCons (eC (.str [115, 116, 105, 108, 108])) dNil)) (dCons (eBin oIx (eVar 3) (eBin oMod (eBin oAdd (eVar 4) (eVar 9)) (eVar 1))) dNil)))) aNil)))))))) sNx) (sRet (eTup (dCons (eVar 3) (dCons (eVar 5) (dCons (eVar 7) dNil)))))))))))))
/-- law(script) -/
def b_law (φ__law_open φ__law_take φ__law_model φ__law_chain φ__law_some_stills φ__law_round φ__law_same φ__law_told_of : SpD) : WS :=
  (sSeq (sSet 1 (eCall φ__law_open [false] (aCons (eVar 0) aNil))) (sSeq (sSet 2 (eCall φ__law_take [true, false] (aCons (eVar 1) (aCons (eC (.int 12)) aNil)))) (sSeq (sUnp (gTup [(gName 3), (gName 4), (gName 5), (gName 6)]) (eCall φ__law_model [true, false, true] (aCons (eVar 1) (aCons (eC (.int 12)) (aCons (eCall φ__law_take [true, false] (aCons (eVar 1) (aCons (eC (.int 2)) aNil))) aNil))))) (sSeq (sSet 6 (eComp [9] (iIt (eVar 6)) (gName 9) (tV (eBin oNe (eBin oIx (eVar 9) (eC (.int 1))) (eTup (dCons (eC (.str [115, 116, 105, 108, 108])) dNil)))) (eVar 9))) (sSeq (sIf (tV (eBin oEq (eVar 2) (eC (.int 5)))) (sUnp (gTup [(gName 5), (gName 6), (gName 7)]) (eCall φ__law_chain [true] (aCons (eVar 1) aNil))) (sSeq (sE (eCall φ__law_some_stills [true, false, true] (aCons (eVar 1) (aCons (eVar 5) (aCons (eVar 6) aNil))))) (sSet 7 (eCall φ__law_round [false, false] (aCons (eVar 5) (aCons (eVar 6) aNil)))))) (sSeq (sSet 8 (eLst (dCons (eVar 3) (dCons (eVar 4) (dCons (eVar 5) (dCons (eVar 6) dNil)))))) (sSeq (sIf (tV (eIsN true (eVar 7))) (sSet 8 (eTup (dCons (eC (.str [115, 116, 105, 108, 108])) (dCons (eVar 7) dNil)))) sNx) (sRet (eCall φ__law_same [false, false] (aCons (eCall φ__law_told_of [true, true, true, true] (aCons (eVar 3) (aCons (eVar 4) (aCons (eVar 5) (aCons (eVar 6) aNil))))) (aCons (eVar 8) aNil)))))))))))
end Pd
set_option linter.all false
set_option maxRecDepth 10000
namespace Pd
@[simp] theorem m_ins5 (xs : List D) (i : Int) (y : D) : mInsert xs [.int i, y] = if xs.length < most ∧ 0 ≤ i ∧ i < 4611686018427387904 then some (xs.take i.toNat ++ [y] ++ xs.drop i.toNat, .non) else none := nrfl rfl
structure InS (ds : List Dr) (d : Dr) (ds' : List Dr) : Prop where
  mem : ∀ x, x ∈ ds' ↔ x ∈ ds ∨ x = d
  nd : ds.Nodup → ds'.Nodup
  len : ds'.length ≤ ds.length + 1
theorem InS.ins {ds : List Dr} {d : Dr} (h : d ∉ ds) (i : Nat) : InS ds d (ds.take i ++ [d] ++ ds.drop i) := by
  have p : (ds.take i ++ [d] ++ ds.drop i).Perm (d :: ds) := by
    rw [List.append_assoc]
    have := List.perm_middle (a := d) (l₁ := ds.take i) (l₂ := ds.drop i)
    rw [List.take_append_drop] at this
    exact this
  exact ⟨fun x => by rw [p.mem_iff, List.mem_cons]; exact or_comm, fun nd => p.nodup_iff.mpr (List.nodup_cons.mpr ⟨h, nd⟩), by rw [p.length_eq]; simp⟩
theorem PenC.pen {g : G} {a c : Nat} (h : PenC g a c) : Pen g a := let ⟨at_, v, cs, n, e, h0, e2⟩ := h; ⟨c, at_, v, cs, n, e, h0, e2⟩
theorem Pen.c {g : G} {a : Nat} (h : Pen g a) : ∃ c, PenC g a c := let ⟨c, at_, v, cs, n, e, h0, e2⟩ := h; ⟨c, at_, v, cs, n, e, h0, e2⟩
theorem PenC.set {g : G} {a c q : Nat} {o : O} (h : PenC g a c) (h1 : q ≠ a) (h2 : q ≠ c) : PenC (g.upd q o) a c :=
  let ⟨at_, v, cs, n, e, h0, e2⟩ := h
  ⟨at_, v, cs, n, by rw [G.upd_ne (Ne.symm h1)]; exact e, h0, by rw [G.upd_ne (Ne.symm h2)]; exact e2⟩
theorem takeC {g : G} {a c : Nat} {n : Int} {E : X → G → Prop} {Q : R → G → Prop} (hp : PenC g a c) (h0 : 0 < n) (h1 : n < 1073741824) (k : ∀ (x : Int) (g' : G), 0 ≤ x → x < n → PenC g' a c → (∀ b, b ≠ a → g' b = g b) → Q (.d (.int x)) g') : d_take.wp [.d (.ref a), .d (.int n)] g E Q :=
  call_of (a, n) ⟨rfl, h0, h1, hp.pen⟩ fun r g' ⟨x, e, a1, a2, _, a4, a5⟩ => e ▸ k x g' a1 a2 (a5 c hp) a4
structure Pi where
  a : Nat
  c : Nat
  q : Nat
  ds : List Dr
  d : Dr
def d_putin : Sg Pi := ⟨fun x ss g => ss = [.d (.ref x.a), .d (.ref x.q), .d (dr x.d)] ∧ PenC g x.a x.c ∧ x.q ≠ x.a ∧ x.q ≠ x.c ∧ g x.q = some (.lst (Ds x.ds)) ∧ x.ds.length ≤ 3000,
  fun x g r g' => r = .d .non ∧ PenC g' x.a x.c ∧ (∀ b, b ≠ x.a → b ≠ x.q → g' b = g b) ∧ ∃ ds', g' x.q = some (.lst (Ds ds')) ∧ InS x.ds x.d ds', fun _ _ _ _ => False⟩
theorem k_putin : Keeps d_putin.wp (b__law_put_in d_take.wp) 3 := by
  rintro ss g E Q ⟨⟨a, c, q, ds, ⟨r, s, o⟩⟩, ⟨rfl, p0, hqa, hqc, hq0, hl⟩, hq, _⟩
  have h8 := most_is
  simp only at p0 hq0 hl hqa hqc
  simp [b__law_put_in, begin_, hq0]
  by_cases cd : (⟨r, s, o⟩ : Dr) ∈ ds
  · simp [cd]
    exact ret_now (hq _ _ ⟨rfl, p0, fun _ _ _ => rfl, ds, hq0, fun x => ⟨.inl, fun h => h.elim id fun h => h ▸ cd⟩, id, by simp only; omega⟩)
  · simp [cd]
    refine takeC p0 (by omega) (by omega) fun i g1 i0 i1 p1 b1 => ?_
    have hq1 : g1 q = some (.lst (Ds ds)) := by rw [b1 q hqa]; exact hq0
    have hb : 0 ≤ i ∧ i < 4611686018427387904 := by omega
    have hlm : ds.length < most := by omega
    simp [hq1, hb, hlm]
    have e : List.take i.toNat (Ds ds) ++ D.tup [.str r, .tup (s.map D.str), .str o] :: List.drop i.toNat (Ds ds) = Ds (ds.take i.toNat ++ [⟨r, s, o⟩] ++ ds.drop i.toNat) := by simp [List.map_take, List.map_drop]
    rw [e]
    exact ret_now (hq _ _ ⟨rfl, p1.set hqa hqc, fun b h1 h2 => by rw [G.upd_ne h2, b1 b h1], _, G.upd_same, InS.ins cd _⟩)
/-- doors of a machine but for still doors that lead round -/
structure WdD (asks says rooms : List (List Nat)) (ds : List Dr) : Prop where
  nd : ds.Nodup
  ok : ∀ d ∈ ds, okDoor asks says rooms d = true
  two : ∀ d ∈ ds, Two d.s
theorem WdD.ins {asks says rooms : List (List Nat)} {ds ds' : List Dr} {x y : List Nat} (h : WdD asks says rooms ds) (i : InS ds ⟨x, [wStill], y⟩ ds') (hx : x ∈ rooms) (hy : y ∈ rooms) : WdD asks says rooms ds' :=
  ⟨i.nd h.nd, fun d hd => ((i.mem d).mp hd).elim (h.ok d) fun e => by rw [e]; simp [okDoor, isSign, hx, hy], fun d hd => ((i.mem d).mp hd).elim (h.two d) fun e => by rw [e]; exact .inl rfl⟩
theorem badM_wd {m : Mch} (a0 : m.asks ≠ []) (al : m.asks.length ≤ 4) (and' : m.asks.Nodup) (av : ∀ w ∈ m.asks, isName w = true) (s0 : m.says ≠ []) (sl : m.says.length ≤ 4) (snd' : m.says.Nodup) (sv : ∀ w ∈ m.says, isName w = true ∧ w ∉ m.asks)
    (r0 : m.rooms ≠ []) (rl : m.rooms.length ≤ 150) (rnd : m.rooms.Nodup) (rv : ∀ w ∈ m.rooms, isName w = true) (wd : WdD m.asks m.says m.rooms m.doors) (dl : m.doors.length ≤ 2000) :
    badM m.asks m.says m.rooms m.doors = match roundAt m.doors 0 m.rooms with | some n => some (wStill, n) | none => none := by
  have h1 : badPart m.asks m.says m.rooms = none := by
    have e1 := firstWrong_ok (m := 4) (others := []) a0 al and' fun w hw => ⟨av w hw, by simp⟩
    have e2 := firstWrong_ok (m := 4) (others := m.asks) s0 sl snd' sv
    have e3 := firstWrong_ok (m := 150) (others := []) r0 rl rnd fun w hw => ⟨rv w hw, by simp⟩
    simp [badPart, e1, e2, e3]
  have h2 := wrongDoor_ok dl wd.nd wd.ok
  unfold badM
  rw [h1, h2]
  all_goals (cases roundAt m.doors 0 m.rooms <;> rfl)
structure Ss where
  a : Nat
  c : Nat
  q : Nat
  b3 : Nat
  m : Mch
def d_somestills : Sg Ss := ⟨fun x ss g => ss = [.d (.ref x.a), .d (.ref x.b3), .d (.ref x.q)] ∧ PenC g x.a x.c ∧ x.q ≠ x.a ∧ x.q ≠ x.c ∧ x.b3 ≠ x.a ∧ x.b3 ≠ x.q ∧ g x.b3 = some (.lst (T x.m.rooms)) ∧ g x.q = some (.lst (Ds x.m.doors)) ∧ x.m.rooms ≠ [] ∧ x.m.rooms.length ≤ 100 ∧ x.m.doors.length ≤ 1000 ∧ WdD x.m.asks x.m.says x.m.rooms x.m.doors,
  fun x g r g' => r = .d .non ∧ PenC g' x.a x.c ∧ (∀ b, b ≠ x.a → b ≠ x.q → g' b = g b) ∧ ∃ ds', g' x.q = some (.lst (Ds ds')) ∧ ds'.length ≤ x.m.doors.length + 20 ∧ WdD x.m.asks x.m.says x.m.rooms ds', fun _ _ _ _ => False⟩
theorem k_somestills : Keeps d_somestills.wp (b__law_some_stills d_take.wp d_putin.wp) 9 := by
  rintro ss g0 E Q ⟨⟨a, c, q, b3, m⟩, ⟨rfl, p0, hqa, hqc, hba, hbq, e3, e4, hr0, hrl, hdl, wd⟩, hq, _⟩
  have h8 := most_is
  simp only at p0 hqa hqc hba hbq e3 e4 hr0 hrl hdl wd
  have hrp := List.length_pos_iff.mpr hr0
  simp [b__law_some_stills, begin_]
  rw [s_sSeq]; simp
  refine takeC p0 (by omega) (by omega) fun up g1 u0 u1 p1 b1 => ?_
  have e31 : g1 b3 = some (.lst (T m.rooms)) := by rw [b1 b3 hba]; exact e3
  simp
  rw [s_sSeq]; simp [e31]
  refine takeC p1 (by omega) (by omega) fun turn g2 t0 t1 p2 b2 => ?_
  have e32 : g2 b3 = some (.lst (T m.rooms)) := by rw [b2 b3 hba]; exact e31
  obtain ⟨turn, rfl⟩ : ∃ t' : Nat, turn = (t' : Int) := ⟨turn.toNat, by omega⟩
  simp
  rw [s_sSeq]; simp [e32]
  refine ⟨by omega, by omega, ?_⟩
  obtain ⟨od, hod⟩ : ∃ od, od = m.rooms.drop turn ++ m.rooms.take turn := ⟨_, rfl⟩
  have eod : List.drop turn (T m.rooms) ++ List.take turn (T m.rooms) = T od := by rw [hod]; simp [T, List.map_take, List.map_drop]
  have odl : od.length = m.rooms.length := by rw [hod]; simp; omega
  have odm : ∀ w ∈ od, w ∈ m.rooms := fun w h => by
    rw [hod] at h
    rcases List.mem_append.mp h with h | h
    · exact List.mem_of_mem_drop h
    · exact List.mem_of_mem_take h
  rw [eod]
  have eat : ∀ {i : Int}, 0 ≤ i → i < m.rooms.length → ∃ w ∈ m.rooms, atI od i = some w := fun {i} h0 h1 => by
    obtain ⟨hi, ei⟩ := atI_in (xs := od) h0 (by omega)
    exact ⟨_, odm _ (List.getElem_mem hi), ei⟩
  clear hod eod
  have fr2 : ∀ b, b ≠ a → b ≠ q → g2 b = g0 b := fun b h1 _ => by rw [b2 b h1, b1 b h1]
  have hq2 : g2 q = some (.lst (Ds m.doors)) := by rw [b2 q hqa, b1 q hqa]; exact e4
  have rm : ∀ {g : G}, (∀ b, b ≠ a → b ≠ q → g b = g0 b) → g b3 = some (.lst (T m.rooms)) := fun h => by rw [h b3 hba hbq]; exact e3
  refine seq_of (fun ψ g => PenC g a c ∧ (∀ b, b ≠ a → b ≠ q → g b = g0 b) ∧ ∃ (ds : List Dr) (t6 t7 t8 : Option Sl), g q = some (.lst (Ds ds)) ∧ WdD m.asks m.says m.rooms ds ∧ ds.length ≤ m.doors.length + 16 ∧ ψ = [some (.d (.ref a)), some (.d (.ref b3)), some (.d (.ref q)), some (.d (.int up)), some (.d (.int turn)), some (.own (.lst (T od))), t6, t7, t8]) (fun nx hn => ?_) ?_
  · simp
    refine takeC p2 (by omega) (by omega) fun n g3 n0 n1 p3 b3' => ?_
    simp
    refine ⟨by omega, by omega, ?_⟩
    refine for_ind (fun rest ψ g => PenC g a c ∧ (∀ b, b ≠ a → b ≠ q → g b = g0 b) ∧ ∃ (ds : List Dr) (t6 t7 t8 : Option Sl), g q = some (.lst (Ds ds)) ∧ WdD m.asks m.says m.rooms ds ∧ ds.length + rest.length ≤ m.doors.length + 16 ∧ ψ = [some (.d (.ref a)), some (.d (.ref b3)), some (.d (.ref q)), some (.d (.int up)), some (.d (.int turn)), some (.own (.lst (T od))), t6, t7, t8]) ?_ ?_ _ _ _ ⟨p3, fun b h1 h2 => by rw [b3' b h1]; exact fr2 b h1 h2, m.doors, none, none, none, by rw [b3' q hqa]; exact hq2, wd, by simp; omega, rfl⟩
    · rintro x xs ψ g4 K ⟨p4, f4, ds, t6, t7, t8, h4, w4, hl, rfl⟩ hK
      simp at hl
      have fin : ∀ (g9 : G) (ds' : List Dr) (t6 t7 t8 : Option Sl), PenC g9 a c → (∀ b, b ≠ a → b ≠ q → g9 b = g0 b) → g9 q = some (.lst (Ds ds')) → WdD m.asks m.says m.rooms ds' → ds'.length ≤ ds.length + 1 → ∃ g2, G.le g2 g9 ∧ K [some (.d (.ref a)), some (.d (.ref b3)), some (.d (.ref q)), some (.d (.int up)), some (.d (.int turn)), some (.own (.lst (T od))), t6, t7, t8] g2 :=
        fun g9 ds' t6 t7 t8 h1 h2 h3 h4 h5 => now (hK _ _ ⟨h1, h2, ds', t6, t7, t8, h3, h4, by omega, rfl⟩)
      simp
      rw [s_sSeq]; simp [rm f4]
      refine takeC p4 (by omega) (by omega) fun i g5 i0 i1 p5 b5 => ?_
      have f5 : ∀ b, b ≠ a → b ≠ q → g5 b = g0 b := fun b h1 h2 => by rw [b5 b h1]; exact f4 b h1 h2
      simp
      rw [s_sSeq]; simp [rm f5]
      refine takeC p5 (by omega) (by omega) fun j g6 j0 j1 p6 b6 => ?_
      have f6 : ∀ b, b ≠ a → b ≠ q → g6 b = g0 b := fun b h1 h2 => by rw [b6 b h1]; exact f5 b h1 h2
      have h6 : g6 q = some (.lst (Ds ds)) := by rw [b6 q hqa, b5 q hqa]; exact h4
      simp
      by_cases c1 : up = 0
      · subst c1
        obtain ⟨w1, m1, z1⟩ := eat i0 i1
        obtain ⟨w2, m2, z2⟩ := eat j0 j1
        simp [z1, z2]
        refine call_of ⟨a, c, q, ds, ⟨w1, [wStill], w2⟩⟩ ⟨rfl, p6, hqa, hqc, h6, by simp only; omega⟩ ?_
        rintro r' g9 ⟨rfl, p9, b9, ds', h9, hi⟩
        have hil := hi.len
        simp only at hil
        exact fin g9 ds' _ _ _ p9 (fun b h1 h2 => by rw [b9 b h1 h2]; exact f6 b h1 h2) h9 (w4.ins hi m1 m2) hil
      · by_cases c2 : i = j
        · simp [c1, c2]
          exact fin g6 ds _ _ _ p6 f6 h6 w4 (by omega)
        · obtain ⟨w1, m1, z1⟩ := eat (i := if j < i then j else i) (by split <;> omega) (by split <;> omega)
          obtain ⟨w2, m2, z2⟩ := eat (i := if i < j then j else i) (by split <;> omega) (by split <;> omega)
          simp [c1, c2, z1, z2]
          refine call_of ⟨a, c, q, ds, ⟨w1, [wStill], w2⟩⟩ ⟨rfl, p6, hqa, hqc, h6, by simp only; omega⟩ ?_
          rintro r' g9 ⟨rfl, p9, b9, ds', h9, hi⟩
          have hil := hi.len
          simp only at hil
          exact fin g9 ds' _ _ _ p9 (fun b h1 h2 => by rw [b9 b h1 h2]; exact f6 b h1 h2) h9 (w4.ins hi m1 m2) hil
    · rintro ψ g4 ⟨p4, f4, ds, t6, t7, t8, h4, w4, hl, rfl⟩
      exact hn _ _ ⟨p4, f4, ds, _, _, _, h4, w4, by simpa using hl, rfl⟩
  · rintro ψ g4 ⟨p4, f4, ds, t6, t7, t8, h4, w4, hl, rfl⟩
    have fin : ∀ (g9 : G) (ds' : List Dr), PenC g9 a c → (∀ b, b ≠ a → b ≠ q → g9 b = g0 b) → g9 q = some (.lst (Ds ds')) → WdD m.asks m.says m.rooms ds' → ds'.length ≤ ds.length + 1 → ∃ g2, G.le g2 g9 ∧ Q (.d .non) g2 :=
      fun g9 ds' h1 h2 h3 h4 h5 => ret_now (hq _ _ ⟨rfl, h1, h2, ds', h3, by simp only; omega, h4⟩)
    simp
    refine takeC p4 (by omega) (by omega) fun y g5 y0 y1 p5 b5 => ?_
    have f5 : ∀ b, b ≠ a → b ≠ q → g5 b = g0 b := fun b h1 h2 => by rw [b5 b h1]; exact f4 b h1 h2
    have h5 : g5 q = some (.lst (Ds ds)) := by rw [b5 q hqa]; exact h4
    simp
    split
    · rw [s_sSeq]; simp [rm f5]
      refine takeC p5 (by omega) (by omega) fun i g6 i0 i1 p6 b6 => ?_
      have f6 : ∀ b, b ≠ a → b ≠ q → g6 b = g0 b := fun b h1 h2 => by rw [b6 b h1]; exact f5 b h1 h2
      obtain ⟨w1, m1, z1⟩ := eat i0 i1
      simp [z1, rm f6]
      refine takeC p6 (by omega) (by omega) fun j g7 j0 j1 p7 b7 => ?_
      have f7 : ∀ b, b ≠ a → b ≠ q → g7 b = g0 b := fun b h1 h2 => by rw [b7 b h1]; exact f6 b h1 h2
      have h7 : g7 q = some (.lst (Ds ds)) := by rw [b7 q hqa, b6 q hqa]; exact h5
      obtain ⟨w2, m2, z2⟩ := eat j0 j1
      simp [z2]
      refine call_of ⟨a, c, q, ds, ⟨w1, [wStill], w2⟩⟩ ⟨rfl, p7, hqa, hqc, h7, by simp only; omega⟩ ?_
      rintro r' g9 ⟨rfl, p9, b9, ds', h9, hi⟩
      have hil := hi.len
      simp only at hil
      simp
      exact fin g9 ds' p9 (fun b h1 h2 => by rw [b9 b h1 h2]; exact f7 b h1 h2) h9 (w4.ins hi m1 m2) hil
    · exact fin g5 ds p5 f5 h5 w4 (by omega)
theorem at_letters {x : Nat} (hx : x < 26) : atI letters (x : Int) = some (97 + x) := by
  rw [atI_lt (by omega) (by show (x : Int) < 26; omega)]
  show letters[x]? = _
  have : x = 0 ∨ x = 1 ∨ x = 2 ∨ x = 3 ∨ x = 4 ∨ x = 5 ∨ x = 6 ∨ x = 7 ∨ x = 8 ∨ x = 9 ∨ x = 10 ∨ x = 11 ∨ x = 12 ∨ x = 13 ∨ x = 14 ∨ x = 15 ∨ x = 16 ∨ x = 17 ∨ x = 18 ∨ x = 19 ∨ x = 20 ∨ x = 21 ∨ x = 22 ∨ x = 23 ∨ x = 24 ∨ x = 25 := by omega
  rcases this with rfl | rfl | rfl | rfl | rfl | rfl | rfl | rfl | rfl | rfl | rfl | rfl | rfl | rfl | rfl | rfl | rfl | rfl | rfl | rfl | rfl | rfl | rfl | rfl | rfl | rfl <;> rfl
theorem at_rooms {n j : Nat} (hj : j < n) : atI (chRooms n) (j : Int) = some (chName j) := by
  rw [atI_lt (by omega) (by simp [chRooms]; omega)]
  simp [chRooms, hj]
theorem pp_int (n t k : Nat) : ((t : Int) + (k : Int)) % (n : Int) = ((pp n t k : Nat) : Int) := by simp [pp]
theorem intsD_map {α : Type} (f : α → Int) : ∀ xs : List α, intsD (xs.map fun x => D.int (f x)) = some (xs.map f)
  | [] => rfl
  | x :: xs => by
    show (intsD (xs.map fun x => D.int (f x))).map (f x :: ·) = _
    rw [intsD_map f xs]; rfl
structure Chn where
  a : Nat
  c : Nat
structure ChOk (n : Nat) (ds : List Dr) : Prop where
  nd : ds.Nodup
  ok : ∀ d ∈ ds, d.r ∈ chRooms n ∧ d.o ∈ chRooms n ∧ d.s = [wStill]
  len : ds.length ≤ 200
def d_chain : Sg Chn := ⟨fun x ss g => ss = [.d (.ref x.a)] ∧ PenC g x.a x.c,
  fun x g r g' => PenC g' x.a x.c ∧ (∀ b u, g b = some u → b ≠ x.a → g' b = some u) ∧ ∃ n r3 r4 ds, r = .d (.tup [.ref r3, .ref r4, intO (roundAt ds 0 (chRooms n))]) ∧ 40 ≤ n ∧ n ≤ 150 ∧ g' r3 = some (.lst (T (chRooms n))) ∧ g' r4 = some (.lst (Ds ds)) ∧ ChOk n ds, fun _ _ _ _ => False⟩
theorem chName_mem {n k : Nat} (h : k < n) : chName k ∈ chRooms n := List.mem_map_of_mem (List.mem_range.mpr h)
theorem k_chain : Keeps d_chain.wp (b__law_chain d_take.wp d_letters.wp d_putin.wp) 10 := by
  rintro ss g0 E Q ⟨⟨a, c⟩, ⟨rfl, p0⟩, hq, _⟩
  have h8 := most_is
  simp only at p0
  simp [b__law_chain, begin_]
  rw [s_sSeq]; simp
  refine takeC p0 (by omega) (by omega) fun x g1 x0 x1 p1 b1 => ?_
  obtain ⟨n, hn⟩ : ∃ n : Nat, 40 + x = (n : Int) := ⟨(40 + x).toNat, by omega⟩
  simp
  rw [hn]
  have n40 : 40 ≤ n := by omega
  have n150 : n ≤ 150 := by omega
  rw [s_sSeq]; simp
  refine call_of () rfl ?_
  rintro r g2 ⟨rfl, rfl⟩
  simp
  rw [s_sSeq]; simp [lendAll, lend, wipe]
  refine ⟨by omega, ?_⟩
  refine comp_all (fun i : Nat => D.int (i : Int)) (fun k => .str (chName k)) (List.range n) (by simp; omega) ?_ ?_
  · intro k hk acc K ha h1
    have hk' := List.mem_range.mp hk
    have z1 : atI letters ((k : Int) / 26) = some (97 + k / 26) := at_letters (x := k / 26) (by omega)
    have z2 : atI letters ((k : Int) % 26) = some (97 + k % 26) := at_letters (x := k % 26) (by omega)
    have hll : letters.length ≤ most := by show 26 ≤ most; omega
    have h2m : 2 ≤ most := by omega
    simp [z1, z2, ha, hll, h2m]
    exact h1
  have er : (List.range n).map (fun k => D.str (chName k)) = T (chRooms n) := by simp [T, chRooms]
  rw [er]
  simp
  rw [s_sSeq]; simp
  refine takeC p1 (by omega) (by omega) fun t g3 t0 t1 p3 b3 => ?_
  obtain ⟨t, rfl⟩ : ∃ t' : Nat, t = (t' : Int) := ⟨t.toNat, by omega⟩
  have htn : t < n := by omega
  simp
  rw [s_sSeq]; simp
  refine seq_of (fun ψ g => g = g3 ∧ ∃ t6, ψ = [some (.d (.ref a)), some (.d (.int n)), some (.d (.str letters)), some (.own (.lst (T (chRooms n)))), some (.d (.int t)), some (.own (.lst (Ds (chDoors n t (n - 1))))), t6, none, none, none]) (fun nx hnx => ?_) ?_
  · simp
    refine ⟨by omega, by omega, ?_⟩
    refine for_range (n - 1) (fun k ψ g => g = g3 ∧ ∃ t6, ψ = [some (.d (.ref a)), some (.d (.int n)), some (.d (.str letters)), some (.own (.lst (T (chRooms n)))), some (.d (.int t)), some (.own (.lst (Ds (chDoors n t k)))), t6, none, none, none]) ?_ ?_ _ _ ⟨rfl, none, by simp [chDoors]⟩
    · rintro k hk ψ g4 K ⟨rfl, t6, rfl⟩ hK
      have hn0 : (0 : Int) < (n : Int) := by omega
      obtain ⟨P, hP⟩ : ∃ P, P = pp n t k := ⟨_, rfl⟩
      obtain ⟨P', hP'⟩ : ∃ P, P = pp n t (k + 1) := ⟨_, rfl⟩
      have z1 : atI (chRooms n) (P : Int) = some (chName P) := at_rooms (hP ▸ Nat.mod_lt _ (by omega))
      have z2 : atI (chRooms n) (P' : Int) = some (chName P') := at_rooms (hP' ▸ Nat.mod_lt _ (by omega))
      have q1 : ((t : Int) + (k : Int)) % (n : Int) = (P : Int) := by rw [hP]; exact pp_int n t k
      have q2 : ((t : Int) + (k : Int) + 1) % (n : Int) = (P' : Int) := by rw [hP', ← pp_int]; congr 1
      have hlm : (chDoors n t k).length < most := by simp [chDoors]; omega
      simp [hn0, q1, q2, z1, z2, hlm]
      have eK : Ds (chDoors n t k) ++ [D.tup [.str (chName P), .tup [.str wStill], .str (chName P')]] = Ds (chDoors n t (k + 1)) := by
        simp [chDoors, List.range_succ, stD2, hP, hP']
      rw [eK]
      exact ⟨by omega, now (hK _ _ ⟨rfl, _, rfl⟩)⟩
    · rintro ψ g4 ⟨rfl, t6, rfl⟩
      exact hnx _ _ ⟨rfl, t6, rfl⟩
  rintro ψ g4 ⟨rfl, t6, rfl⟩
  have hk3 : ∀ b u, g0 b = some u → b ≠ a → g4 b = some u := fun b u e h => by rw [b3 b h, b1 b h]; exact e
  have okr : ∀ d ∈ chDoors n t (n - 1), d.r ∈ chRooms n ∧ d.o ∈ chRooms n ∧ d.s = [wStill] := fun d hd => by
    obtain ⟨k, hk, rfl⟩ := List.mem_map.mp hd
    exact ⟨chName_mem (Nat.mod_lt _ (by omega)), chName_mem (Nat.mod_lt _ (by omega)), rfl⟩
  have cnd : (chDoors n t (n - 1)).Nodup := nodup_map_on (fun x hx y hy e => by
    have hx := List.mem_range.mp hx
    have hy := List.mem_range.mp hy
    have e1 : pp n t x = pp n t y := chName_inj (Dr.mk.inj e).1
    have := rk_name (n := n) (t := t) (k := x) (by omega) htn (by omega)
    rw [e1, rk_name (by omega) htn (by omega)] at this
    exact this.symm) List.nodup_range
  have clen : (chDoors n t (n - 1)).length = n - 1 := by simp [chDoors]
  rw [s_sSeq]; simp
  refine seq_of (fun ψ g => PenC g a c ∧ (∀ b u, g0 b = some u → b ≠ a → g b = some u) ∧ ∃ (s5 : Sl) (ds : List Dr) (t6 t8 t9 : Option Sl), (s5 = .own (.lst (Ds ds)) ∨ ∃ p, s5 = .d (.ref p) ∧ g p = some (.lst (Ds ds))) ∧ ChOk n ds ∧
    ψ = [some (.d (.ref a)), some (.d (.int n)), some (.d (.str letters)), some (.own (.lst (T (chRooms n)))), some (.d (.int t)), some s5, t6, some (.d (intO (roundAt ds 0 (chRooms n)))), t8, t9]) (fun nx hnx => ?_) ?_
  · simp
    refine takeC p3 (by omega) (by omega) fun y g5 y0 y1 p5 b5 => ?_
    simp
    split
    · rw [s_sSeq]; simp
      refine takeC p5 (by omega) (by omega) fun one g6 o0 o1 p6 b6 => ?_
      obtain ⟨one, rfl⟩ : ∃ o' : Nat, one = (o' : Int) := ⟨one.toNat, by omega⟩
      simp
      rw [s_sSeq]; simp
      refine takeC p6 (by omega) (by omega) fun two g7 w0 w1 p7 b7 => ?_
      obtain ⟨two, rfl⟩ : ∃ o' : Nat, two = (o' : Int) := ⟨two.toNat, by omega⟩
      have k7 : ∀ b u, g0 b = some u → b ≠ a → g7 b = some u := fun b u e h => by rw [b7 b h, b6 b h, b5 b h]; exact hk3 b u e h
      have low : two ≤ one → ∃ w : Nat, lowI ((List.range (one + 1 - two)).map fun k => ((pp n t (two + k) : Nat) : Int)) = some (w : Int) ∧ (∃ k, two ≤ k ∧ k ≤ one ∧ w = pp n t k) ∧ ∀ k, two ≤ k → k ≤ one → w ≤ pp n t k := fun hle => by
        cases e : (List.range (one + 1 - two)).map fun k => ((pp n t (two + k) : Nat) : Int) with
        | nil => have := congrArg List.length e; simp at this; omega
        | cons z zs =>
          obtain ⟨l1, l2⟩ := lowI_is zs z
          rw [← e] at l1 l2
          obtain ⟨k, hk, ek⟩ := List.mem_map.mp l1
          have hk := List.mem_range.mp hk
          refine ⟨pp n t (two + k), ?_, ⟨two + k, by omega, by omega, rfl⟩, fun k' a b => ?_⟩
          · show some (zs.foldl min z) = _
            rw [← ek]
          · have := l2 _ (List.mem_map_of_mem (f := fun k => ((pp n t (two + k) : Nat) : Int)) (List.mem_range.mpr (show k' - two < one + 1 - two by omega)))
            rw [← ek, show two + (k' - two) = k' by omega] at this
            omega
      obtain ⟨v, hv⟩ : ∃ v : Option Nat, (two ≤ one ∧ ∃ w, v = some w ∧ lowI ((List.range (one + 1 - two)).map fun k => ((pp n t (two + k) : Nat) : Int)) = some (w : Int) ∧ (∃ k, two ≤ k ∧ k ≤ one ∧ w = pp n t k) ∧ ∀ k, two ≤ k → k ≤ one → w ≤ pp n t k) ∨ one < two ∧ v = none := by
        by_cases hle : two ≤ one
        · obtain ⟨w, h⟩ := low hle
          exact ⟨some w, .inl ⟨hle, w, rfl, h⟩⟩
        · exact ⟨none, .inr ⟨by omega, rfl⟩⟩
      simp
      refine seq_of (fun ψ g => g = g7 ∧ ∃ t6, ψ = [some (.d (.ref a)), some (.d (.int n)), some (.d (.str letters)), some (.own (.lst (T (chRooms n)))), some (.d (.int t)), some (.own (.lst (Ds (chDoors n t (n - 1))))), t6, some (.d (intO v)), some (.d (.int one)), some (.d (.int two))]) (fun nx2 hnx2 => ?_) ?_
      · simp
        rcases hv with ⟨hle, w, rfl, hlow, _⟩ | ⟨hlt, rfl⟩
        · simp [hle, lendAll, wipe, lend_some, lend_none, lend]
          refine ⟨by omega, ?_⟩
          have hn0 : (0 : Int) < (n : Int) := by omega
          refine comp_all (fun k : Nat => D.int ((two : Int) + (k : Int))) (fun k => .int ((pp n t (two + k) : Nat) : Int)) (List.range (one + 1 - two)) (by simp; omega) ?_ ?_
          · intro k hk acc K2 ha h1
            obtain ⟨P, hP⟩ : ∃ P, P = pp n t (two + k) := ⟨_, rfl⟩
            have q1 : ((t : Int) + ((two : Int) + (k : Int))) % (n : Int) = (P : Int) := by rw [hP, ← pp_int]; simp
            rw [← hP] at h1
            simp [hn0, q1, ha]
            exact ⟨by omega, h1⟩
          · have em := intsD_map (fun k => ((pp n t (two + k) : Nat) : Int)) (List.range (one + 1 - two))
            obtain ⟨M, hM⟩ : ∃ M : List D, M = (List.range (one + 1 - two)).map (fun k => D.int ((pp n t (two + k) : Nat) : Int)) := ⟨_, rfl⟩
            rw [← hM] at em ⊢
            generalize (List.range (one + 1 - two)).map (fun k => ((pp n t (two + k) : Nat) : Int)) = LI at em hlow
            simp [em, hlow]
            exact hnx2 _ _ ⟨rfl, _, rfl⟩
        · have hnl : ¬ two ≤ one := by omega
          simp [hnl]
          exact hnx2 _ _ ⟨rfl, _, rfl⟩
      · rintro ψ g8 ⟨rfl, t6, rfl⟩
        have hn0 : (0 : Int) < (n : Int) := by omega
        obtain ⟨P, hP⟩ : ∃ P, P = pp n t one := ⟨_, rfl⟩
        obtain ⟨P', hP'⟩ : ∃ P, P = pp n t two := ⟨_, rfl⟩
        have z1 : atI (chRooms n) (P : Int) = some (chName P) := at_rooms (hP ▸ Nat.mod_lt _ (by omega))
        have z2 : atI (chRooms n) (P' : Int) = some (chName P') := at_rooms (hP' ▸ Nat.mod_lt _ (by omega))
        have q1 : ((t : Int) + (one : Int)) % (n : Int) = (P : Int) := by rw [hP]; exact pp_int n t one
        have q2 : ((t : Int) + (two : Int)) % (n : Int) = (P' : Int) := by rw [hP']; exact pp_int n t two
        simp [hn0, q1, q2, z1, z2]
        refine ⟨by omega, ?_⟩
        intro p hp
        have hpa : p ≠ a := fun z => by obtain ⟨_, _, _, _, e, _⟩ := p7; rw [← z, hp] at e; cases e
        have hpc : p ≠ c := fun z => by obtain ⟨_, _, _, _, _, _, e⟩ := p7; rw [← z, hp] at e; cases e
        refine call_of ⟨a, c, p, chDoors n t (n - 1), ⟨chName P, [wStill], chName P'⟩⟩ ⟨rfl, p7.set hpa hpc, hpa, hpc, G.upd_same, by clear hv low; simp only; omega⟩ ?_
        rintro r' g9 ⟨rfl, p9, b9, ds', h9, hi⟩
        have hil := hi.len
        simp only at hil p9 b9 h9
        have hon : one < n := by omega
        have htw : two < n := by omega
        have hn1 : 0 < n := by omega
        have om : OneMore n t one two ds' := ⟨fun d => by rw [hi.mem d]; simp only [hP, hP', stD2]⟩
        have hro : roundAt ds' 0 (chRooms n) = v := by
          rcases hv with ⟨hle, w, rfl, _, hw1, hw2⟩ | ⟨hlt, rfl⟩
          · exact ring_first om hn1 htn hon hle hw1 hw2
          · exact roundAt_none (om_up om hn1 htn hon htw hlt) _ _
        refine hnx _ _ ⟨p9, fun b u e h => ?_, _, ds', _, _, _, .inr ⟨p, rfl, h9⟩, ⟨hi.nd cnd, fun d hd => ?_, by clear hv low; omega⟩, by rw [hro]⟩
        · have e7 := k7 b u e h
          have hbp : b ≠ p := fun z => by rw [z, hp] at e7; cases e7
          rw [b9 b h hbp, G.upd_ne hbp]; exact e7
        · rcases (hi.mem d).mp hd with h | h
          · exact okr d h
          · rw [h, hP, hP']; exact ⟨chName_mem (Nat.mod_lt _ (by omega)), chName_mem (Nat.mod_lt _ (by omega)), rfl⟩
    · have hro : roundAt (chDoors n t (n - 1)) 0 (chRooms n) = none := roundAt_none (ch_loose (by omega) htn) _ _
      exact hnx _ _ ⟨p5, fun b u e h => by rw [b5 b h]; exact hk3 b u e h, _, _, _, _, _, .inl rfl, ⟨cnd, okr, by omega⟩, by rw [hro]; rfl⟩
  · rintro ψ g5 ⟨p5, k5, s5, ds, t6, t8, t9, hs, hc, rfl⟩
    have aC : ∀ {g : G} {p : Nat} {o : O}, PenC g a c → g p = none → PenC (g.upd p o) a c := fun {g p o} h hp => h.set
      (fun z => by obtain ⟨_, _, _, _, e, _⟩ := h; rw [← z, hp] at e; cases e) (fun z => by obtain ⟨_, _, _, _, _, _, e⟩ := h; rw [← z, hp] at e; cases e)
    have kU : ∀ {g : G} {p : Nat} {o : O}, (∀ b u, g0 b = some u → b ≠ a → g b = some u) → g p = none → ∀ b u, g0 b = some u → b ≠ a → (g.upd p o) b = some u := fun {g p o} h hp b u e hb => by
      have := h b u e hb
      rw [G.upd_ne fun z => by rw [z, hp] at this; cases this]; exact this
    rcases hs with rfl | ⟨p, rfl, e⟩
    · simp
      intro r3 hr3 r4 hr4
      refine ret_now (hq _ _ ⟨aC (aC p5 hr3) hr4, kU (kU k5 hr3) hr4, n, r3, r4, ds, rfl, n40, n150, ?_, G.upd_same, hc⟩)
      rw [G.upd_ne fun z => by rw [z, G.upd_same] at hr4; cases hr4]; exact G.upd_same
    · simp
      intro r3 hr3
      refine ret_now (hq _ _ ⟨aC p5 hr3, kU k5 hr3, n, r3, p, ds, rfl, n40, n150, G.upd_same, ?_, hc⟩)
      rw [G.upd_ne fun z => by rw [z, hr3] at e; cases e]; exact e
def d_law : Sg (List Int) := ⟨fun ns ss g => ss = [.d (.rol (ns.map D.int))], fun _ g r g' => r = .d (.bl true), fun _ _ _ _ => False⟩
theorem k_law : Keeps d_law.wp (b_law d_open.wp d_take.wp d_model.wp d_chain.wp d_somestills.wp d_rnd.wp (d_same 6).wp d_toldD.wp) 10 := by
  rintro ss g E Q ⟨ns, rfl, hq, _⟩
  have h8 := most_is
  simp [b_law, begin_]
  rw [s_sSeq]; simp
  refine call_of ns rfl ?_
  rintro r g1 ⟨c0, cs, rfl, hc⟩
  simp
  rw [s_sSeq]; simp
  intro a ha
  generalize hg2 : g1.upd a (O.lst [D.ref c0, D.int 0, D.int 0]) = g2
  have hac : a ≠ c0 := fun z => by rw [z, hc] at ha; cases ha
  have p2 : Pen g2 a := hg2 ▸ ⟨c0, 0, 0, cs, hac, G.upd_same, by omega, by rw [G.upd_ne (Ne.symm hac), hc]⟩
  refine takeF (Fr.refl p2) (by omega) (by omega) fun way g3 w0 w1 F3 b3 => ?_
  simp
  rw [s_sSeq]; simp
  refine takeF F3 (by omega) (by omega) fun full g4 f0 f1 F4 b4 => ?_
  simp
  refine call_of ⟨a, 12, full⟩ ⟨rfl, F4.pen, by simp, by simp, f0, by simp; omega⟩ ?_
  rintro r g5 ⟨F5, y, m, down, rfl, ⟨a1, a2, a3, a4, rfl, e1, e2, e3, e4, _⟩, hm⟩
  have gm := hm.gm (by simp)
  have hdl := hm.dl
  have hrl := gm.rl
  have hal := gm.al
  have hsl := gm.sl
  simp only at hrl
  simp
  rw [s_sSeq]; simp [e4, lendAll, lend, wipe]
  refine comp_map dr (fun d => !isSt d) dr m.doors (by omega) ?_ ?_
  · intro d hd acc K2 ha h1 h2
    by_cases c : d.s = [wStill]
    · simp [c, e4]
      exact h2 (by simp [isSt, c])
    · simp [c, ha, e4]
      simpa using h1 (by simp [isSt, c])
  have hfl := List.length_filter_le (fun d => !isSt d) m.doors
  have wd0 : WdD m.asks m.says m.rooms (m.doors.filter fun d => !isSt d) := ⟨gm.nd.sublist List.filter_sublist, fun d h => gm.ok d (List.mem_filter.mp h).1, fun d h => gm.two d (List.mem_filter.mp h).1⟩
  generalize m.doors.filter (fun d => !isSt d) = ds0 at hfl wd0
  simp
  obtain ⟨c, pc5⟩ := F5.pen.c
  have tne : ∀ {q : Nat} {ws : List (List Nat)}, g5 q = some (.lst (T ws)) → q ≠ a := fun e z => F5.pen.ne_T (z ▸ e)
  refine seq_of (fun ψ g => ∃ (rooms : List (List Nat)) (ds : List Dr) (b3 q : Nat) (t9 : Option Sl), g a1 = some (.lst (T m.asks)) ∧ g a2 = some (.lst (T m.says)) ∧ g b3 = some (.lst (T rooms)) ∧ g q = some (.lst (Ds ds)) ∧
    (rooms ≠ [] ∧ rooms.length ≤ 150 ∧ rooms.Nodup ∧ (∀ w ∈ rooms, isName w = true) ∧ WdD m.asks m.says rooms ds ∧ ds.length ≤ 1500) ∧
    ψ = [some (.d (.rol (ns.map D.int))), some (.d (.ref a)), some (.d (.int way)), some (.d (.ref a1)), some (.d (.ref a2)), some (.d (.ref b3)), some (.d (.ref q)), some (.d (intO (roundAt ds 0 rooms))), none, t9]) (fun nx hn => ?_) ?_
  · simp
    split
    · refine call_of ⟨a, c⟩ ⟨rfl, pc5⟩ ?_
      rintro r g6 ⟨p6, k6, n, r3, r4, ds, rfl, n40, n150, h3, h4, hc⟩
      simp
      refine hn _ _ ⟨chRooms n, ds, r3, r4, _, k6 _ _ e1 (tne e1), k6 _ _ e2 (tne e2), h3, h4, ⟨fun z => ?_, by simp [chRooms]; omega, chRooms_nd n, chRooms_name (by omega), ⟨hc.nd, fun d h => ?_, fun d h => .inl (by rw [(hc.ok d h).2.2]; rfl)⟩, by have := hc.len; omega⟩, rfl⟩
      · have := congrArg List.length z; simp [chRooms] at this; omega
      · obtain ⟨h1, h2, h3⟩ := hc.ok d h
        simp [okDoor, h1, h2, h3, isSign]
    · rw [s_sSeq]; simp
      intro q hq0
      have hqa : q ≠ a := fun z => by obtain ⟨_, _, _, _, e, _⟩ := pc5; rw [← z, hq0] at e; cases e
      have hqc : q ≠ c := fun z => by obtain ⟨_, _, _, _, _, _, e⟩ := pc5; rw [← z, hq0] at e; cases e
      have kq : ∀ b u, g5 b = some u → (g5.upd q (O.lst (Ds ds0))) b = some u := up_new (fun _ _ e => e) hq0
      have nq : ∀ {b : Nat} {u : O}, g5 b = some u → b ≠ q := fun e z => by rw [z, hq0] at e; cases e
      refine call_of ⟨a, c, q, a3, ⟨m.asks, m.says, m.rooms, ds0⟩⟩ ⟨rfl, pc5.set hqa hqc, hqa, hqc, tne e3, nq e3, kq _ _ e3, G.upd_same, gm.r0, by simp only; omega, by simp only; omega, wd0⟩ ?_
      rintro r g6 ⟨rfl, p6, k6, ds, h6, hl6, wd6⟩
      simp only at hl6 wd6 k6
      have g6k : ∀ {b : Nat} {ws : List (List Nat)}, g5 b = some (.lst (T ws)) → g6 b = some (.lst (T ws)) := fun {b ws} e => by rw [k6 b (tne e) (nq e)]; exact kq _ _ e
      simp
      refine call_of ⟨m.rooms, ds⟩ ⟨⟨_, _, rfl, by simp [g6k e3], by simp [h6]⟩, by simp only; omega, by simp only; omega, wd6.two⟩ ?_
      rintro r g7 ⟨rfl, rfl⟩
      simp
      exact hn _ _ ⟨m.rooms, ds, a3, q, _, g6k e1, g6k e2, g6k e3, h6, ⟨gm.r0, by omega, gm.rnd, gm.rv, wd6, by omega⟩, rfl⟩
  rintro ψ g6 ⟨rooms, ds, b3, q, t9, h1, h2, h3, h4, ⟨r0, rl, rnd, rv, wd, dl⟩, rfl⟩
  have hb := badM_wd (m := ⟨m.asks, m.says, rooms, ds⟩) gm.a0 gm.al gm.and gm.av gm.s0 gm.sl gm.snd gm.sv r0 rl rnd rv wd (by simp only; omega)
  simp only at hb
  have nl : ∀ {w : List Nat}, isName w = true → w.length ≤ most := fun e => by have := isName_len e; omega
  have Bm : Bd ⟨m.asks, m.says, rooms, ds⟩ := ⟨by simp only; omega, by simp only; omega, by simp only; omega, by simp only; omega, fun w h => nl (gm.av w h), fun w h => nl (gm.sv w h).1, fun w h => nl (rv w h), wd.two⟩
  have lens : m.asks.length ≤ 4000 ∧ m.says.length ≤ 4000 ∧ rooms.length ≤ 4000 ∧ ds.length ≤ 4000 := by omega
  rw [s_sSeq]; simp
  rw [s_sSeq]
  cases hr : roundAt ds 0 rooms with
  | none =>
    rw [hr] at hb
    simp [intO]
    refine call_of ⟨(a1, a2, b3, q), m.asks, m.says, rooms, ds⟩ ⟨rfl, h1, h2, h3, h4, lens, Bm.aw, Bm.sw, Bm.rw, Bm.two⟩ ?_
    rintro r g10 ⟨k10, hr1⟩
    rw [show badM m.asks m.says rooms ds = none from hb] at hr1
    obtain ⟨c1, c2, c3, c4, rfl, C1, C2, C3, C4⟩ := hr1
    simp
    refine call_of () ⟨_, _, _, _, _, rfl, rfl, rfl, den_fourD Bm C1 C2 C3 C4, den_fourD Bm (k10 _ _ h1) (k10 _ _ h2) (k10 _ _ h3) (k10 _ _ h4)⟩ ?_
    rintro r g12 ⟨rfl, rfl⟩
    simp
    exact ret_now (hq _ _ rfl)
  | some n =>
    rw [hr] at hb
    simp [intO]
    refine call_of ⟨(a1, a2, b3, q), m.asks, m.says, rooms, ds⟩ ⟨rfl, h1, h2, h3, h4, lens, Bm.aw, Bm.sw, Bm.rw, Bm.two⟩ ?_
    rintro r g10 ⟨k10, hr1⟩
    rw [show badM m.asks m.says rooms ds = some (wStill, n) from hb] at hr1
    subst hr1
    simp
    refine call_of () ⟨_, _, _, _, .tup [.str wStill, .int n], rfl, rfl, rfl, rfl, rfl⟩ ?_
    rintro r g12 ⟨rfl, rfl⟩
    simp
    exact ret_now (hq _ _ rfl)
end Pd
set_option Elab.async false
set_option linter.all false
set_option maxRecDepth 100000
set_option maxHeartbeats 4000000
namespace Pd
open PySem PySem.Spec PyProof.Rows L2
def top (i : Nat) : Stmt := PySem.Challenge.pw_mumtrial_k05_still_rounds.main.body.getD i (.Pass ⟨0, 0, 0, 0⟩)
abbrev s_is_name : Stmt := (top 9)
theorem sc_is_name : FnScope ["word", "sign"] ["word"] (defScope s_is_name) := ⟨rfl, rfl, rfl, by decide +kernel, rfl, by decide +kernel, by decide +kernel⟩
theorem der_is_name {P : Program} {w : World} {K : PySem.W.Frag} {mg : Str → Option Value} {base : Heap} {tb : Tb} {f : Addr} {cdv : Value} {A : Around} {outer : List Env} {s : Shared} {H : Hp} {E : XK} {k : Nat}
    (bl_len : Bl mg "len" (.builtin "len")) (gl_LETTERS : GlV mg K "LETTERS" (.str [97, 98, 99, 100, 101, 102, 103, 104, 105, 106, 107, 108, 109, 110, 111, 112, 113, 114, 115, 116, 117, 118, 119, 120, 121, 122])) (bl_all : Bl mg "all" (.builtin "all"))
    (hr : Room k (A.deeper (envOfC "is_name" (defScope s_is_name) s.heap.objs.size f cdv))) :
    ∃ Sw, DSs (cxOf (L2.CX P w) P w K mg base ["word", "sign"] "is_name" (defScope s_is_name) f cdv A outer s H E) tb (defBody s_is_name) Sw (b_is_name) :=
  have nd := sc_is_name.nd
  have hu := room8 hr
  ⟨_, (dss_cons (ds_if (DW.dt (dw_or (dt_cmp op_lt ok_lt (de_len bl_len (de_var 0)) de_int) (dw_or1 (dt_cmp op_gt ok_gt (de_len bl_len (de_var 0)) de_int)))) (dss_one (ds_ret de_bl)) dss_nil) (dss_one (ds_ret (de_all bl_all (de_comp [("sign", 1)] nd (di_str (de_var 0)) (fun _ _ _ _ _ => (dg_name 1 nd)) (fun _ _ _ _ _ => dts_nil) (fun _ _ _ _ _ => (de_cmp (op_inAll hu) ok_in (de_var 1) (de_glob gl_LETTERS))))))))⟩
abbrev s_need_names : Stmt := (top 10)
theorem sc_need_names : FnScope ["part", "words", "most", "others", "seen", "number", "word"] ["part", "words", "most", "others"] (defScope s_need_names) := ⟨rfl, rfl, rfl, by decide +kernel, rfl, by decide +kernel, by decide +kernel⟩
theorem der_need_names {P : Program} {w : World} {K : PySem.W.Frag} {mg : Str → Option Value} {base : Heap} {tb : Tb} {f : Addr} {cdv : Value} {A : Around} {outer : List Env} {s : Shared} {H : Hp} {E : XK} {k : Nat}
    {φ_is_name : SpD} {k_is_name : Nat} {k_x_NoMachine : Nat} (x_NoMachine : CalX P w K mg base tb "NoMachine" "NoMachine" ["part", "number"] k_x_NoMachine) (bl_enumerate : Bl mg "enumerate" (.type "enumerate")) (c_is_name : Cal P w K mg base tb "is_name" k_is_name φ_is_name) (bl_len : Bl mg "len" (.builtin "len")) (l_x_NoMachine : k_x_NoMachine + 1 ≤ k) (l_is_name : k_is_name ≤ k)
    (hr : Room k (A.deeper (envOfC "need_names" (defScope s_need_names) s.heap.objs.size f cdv))) :
    ∃ Sw, DSs (cxOf (L2.CX P w) P w K mg base ["part", "words", "most", "others", "seen", "number", "word"] "need_names" (defScope s_need_names) f cdv A outer s H E) tb (defBody s_need_names) Sw (b_need_names φ_is_name) :=
  have nd := sc_need_names.nd
  have hu := room8 hr
  ⟨_, (dss_cons (ds_if (dt_cmp (eq8 hu) ok_eq (de_var 1) (de_lst dd_nil)) (dss_one (ds_raise "NoMachine" ["part", "number"] x_NoMachine (hr.mono l_x_NoMachine) (dd_cons (de_var 0) (dd_cons de_int dd_nil)))) dss_nil) (dss_cons (ds_set 4 nd (de_dic false)) (dss_cons (ds_for passes_cx (di_enum bl_enumerate (so_exp (de_cut (de_var 1) do_none (do_some (de_var 2))))) (dg_tup (dgs_cons (dg_name 5 nd) (dgs_cons (dg_name 6 nd) dgs_nil))) (dss_cons (ds_if (DW.dt (dw_or (dt_not (dt_v (de_call [false] c_is_name (hr.mono l_is_name) (da_cons (de_var 6) da_nil)))) (dw_or (dt_cmp (op_inAll hu) ok_in (de_var 6) (de_var 4)) (dw_or1 (dt_cmp (op_inAll hu) ok_in (de_var 6) (de_var 3)))))) (dss_one (ds_raise "NoMachine" ["part", "number"] x_NoMachine (hr.mono l_x_NoMachine) (dd_cons (de_var 0) (dd_cons (de_var 5) dd_nil)))) dss_nil) (dss_one (ds_setIx hu (de_var 4) (de_var 6) de_bl)))) (dss_one (ds_if (dt_cmp op_gt ok_gt (de_len bl_len (de_var 1)) (de_var 2)) (dss_one (ds_raise "NoMachine" ["part", "number"] x_NoMachine (hr.mono l_x_NoMachine) (dd_cons (de_var 0) (dd_cons (de_var 2) dd_nil)))) dss_nil)))))⟩
abbrev s_is_sign_of : Stmt := (top 11)
theorem sc_is_sign_of : FnScope ["sign", "asks", "says"] ["sign", "asks", "says"] (defScope s_is_sign_of) := ⟨rfl, rfl, rfl, by decide +kernel, rfl, by decide +kernel, by decide +kernel⟩
theorem der_is_sign_of {P : Program} {w : World} {K : PySem.W.Frag} {mg : Str → Option Value} {base : Heap} {tb : Tb} {f : Addr} {cdv : Value} {A : Around} {outer : List Env} {s : Shared} {H : Hp} {E : XK} {k : Nat}
    (bl_len : Bl mg "len" (.builtin "len"))
    (hr : Room k (A.deeper (envOfC "is_sign_of" (defScope s_is_sign_of) s.heap.objs.size f cdv))) :
    ∃ Sw, DSs (cxOf (L2.CX P w) P w K mg base ["sign", "asks", "says"] "is_sign_of" (defScope s_is_sign_of) f cdv A outer s H E) tb (defBody s_is_sign_of) Sw (b_is_sign_of) :=
  have nd := sc_is_sign_of.nd
  have hu := room8 hr
  ⟨_, (dss_cons (ds_if (dt_cmp (eq8 hu) ok_eq (de_len bl_len (de_var 0)) de_int) (dss_one (ds_ret (de_cmp (eq8 hu) ok_eq (de_ix hu (de_var 0) de_int) (de_str [115, 116, 105, 108, 108])))) dss_nil) (dss_cons (ds_if (dt_cmp (eq8 hu) ok_eq (de_ix hu (de_var 0) de_int) (de_str [97, 115, 107])) (dss_one (ds_ret (de_cmp (op_inAll hu) ok_in (de_ix hu (de_var 0) de_int) (de_var 1)))) dss_nil) (dss_one (ds_ret (de_and (de_cmp (eq8 hu) ok_eq (de_ix hu (de_var 0) de_int) (de_str [115, 97, 121])) (de_one (de_cmp (op_inAll hu) ok_in (de_ix hu (de_var 0) de_int) (de_var 2))))))))⟩
abbrev s_need_doors : Stmt := (top 12)
theorem sc_need_doors : FnScope ["doors", "asks", "says", "rooms", "seen", "number", "room", "sign", "other", "good"] ["doors", "asks", "says", "rooms"] (defScope s_need_doors) := ⟨rfl, rfl, rfl, by decide +kernel, rfl, by decide +kernel, by decide +kernel⟩
theorem der_need_doors {P : Program} {w : World} {K : PySem.W.Frag} {mg : Str → Option Value} {base : Heap} {tb : Tb} {f : Addr} {cdv : Value} {A : Around} {outer : List Env} {s : Shared} {H : Hp} {E : XK} {k : Nat}
    {φ_is_sign_of : SpD} {k_is_sign_of : Nat} (bl_enumerate : Bl mg "enumerate" (.type "enumerate")) (gl_MOST_DOORS : GlV mg K "MOST_DOORS" (.int 2000)) (c_is_sign_of : Cal P w K mg base tb "is_sign_of" k_is_sign_of φ_is_sign_of) {k_x_NoMachine : Nat} (x_NoMachine : CalX P w K mg base tb "NoMachine" "NoMachine" ["part", "number"] k_x_NoMachine) (bl_len : Bl mg "len" (.builtin "len")) (l_is_sign_of : k_is_sign_of ≤ k) (l_x_NoMachine : k_x_NoMachine + 1 ≤ k)
    (hr : Room k (A.deeper (envOfC "need_doors" (defScope s_need_doors) s.heap.objs.size f cdv))) :
    ∃ Sw, DSs (cxOf (L2.CX P w) P w K mg base ["doors", "asks", "says", "rooms", "seen", "number", "room", "sign", "other", "good"] "need_doors" (defScope s_need_doors) f cdv A outer s H E) tb (defBody s_need_doors) Sw (b_need_doors φ_is_sign_of) :=
  have nd := sc_need_doors.nd
  have hu := room8 hr
  ⟨_, (dss_cons (ds_set 4 nd (de_dic true)) (dss_cons (ds_for passes_cx (di_enum bl_enumerate (so_exp (de_cut (de_var 0) do_none (do_some (de_glob gl_MOST_DOORS))))) (dg_tup (dgs_cons (dg_name 5 nd) (dgs_cons (dg_tup (dgs_cons (dg_name 6 nd) (dgs_cons (dg_name 7 nd) (dgs_cons (dg_name 8 nd) dgs_nil)))) dgs_nil))) (dss_cons (ds_set 9 nd (de_and (de_cmp (op_inAll hu) ok_in (de_var 6) (de_var 3)) (de_and (de_cmp (op_inAll hu) ok_in (de_var 8) (de_var 3)) (de_one (de_call [false, false, false] c_is_sign_of (hr.mono l_is_sign_of) (da_cons (de_var 7) (da_cons (de_var 1) (da_cons (de_var 2) da_nil)))))))) (dss_cons (ds_if (DW.dt (dw_or (dt_not (dt_v (de_var 9))) (dw_or1 (dt_cmp (op_inAll hu) ok_in (de_tup (dd_cons (de_var 6) (dd_cons (de_var 7) (dd_cons (de_var 8) dd_nil)))) (de_var 4))))) (dss_one (ds_raise "NoMachine" ["part", "number"] x_NoMachine (hr.mono l_x_NoMachine) (dd_cons (de_str [100, 111, 111, 114, 115]) (dd_cons (de_var 5) dd_nil)))) dss_nil) (dss_one (ds_setIx hu (de_var 4) (de_tup (dd_cons (de_var 6) (dd_cons (de_var 7) (dd_cons (de_var 8) dd_nil)))) de_bl))))) (dss_one (ds_if (dt_cmp op_gt ok_gt (de_len bl_len (de_var 0)) (de_glob gl_MOST_DOORS)) (dss_one (ds_raise "NoMachine" ["part", "number"] x_NoMachine (hr.mono l_x_NoMachine) (dd_cons (de_str [100, 111, 111, 114, 115]) (dd_cons (de_glob gl_MOST_DOORS) dd_nil)))) dss_nil))))⟩
abbrev s_Machine___init__ : Stmt := (inClass (top 13) 0)
theorem sc_Machine___init__ : FnScope ["self", "asks", "says", "rooms", "doors", "room", "door", "number"] ["self", "asks", "says", "rooms", "doors"] (defScope s_Machine___init__) := ⟨rfl, rfl, rfl, by decide +kernel, rfl, by decide +kernel, by decide +kernel⟩
theorem der_Machine___init__ {P : Program} {w : World} {K : PySem.W.Frag} {mg : Str → Option Value} {base : Heap} {tb : Tb} {f : Addr} {cdv : Value} {A : Around} {outer : List Env} {s : Shared} {H : Hp} {E : XK} {k : Nat}
    {φ_need_names : SpD} {k_need_names : Nat} {φ_need_doors : SpD} {k_need_doors : Nat} {φ_Machine_comes_round : SpD} {k_Machine_comes_round : Nat} (c_need_names : Cal P w K mg base tb "need_names" k_need_names φ_need_names) (gl_MOST_WORDS : GlV mg K "MOST_WORDS" (.int 4)) (gl_MOST_ROOMS : GlV mg K "MOST_ROOMS" (.int 150)) (in_Machine_ask_words : InsOk K tb "Machine" "ask_words") (bl_list : Bl mg "list" (.type "list")) (in_Machine_say_words : InsOk K tb "Machine" "say_words") (in_Machine_leading : InsOk K tb "Machine" "leading") (c_need_doors : Cal P w K mg base tb "need_doors" k_need_doors φ_need_doors) (in_Machine_all_doors : InsOk K tb "Machine" "all_doors") (bl_enumerate : Bl mg "enumerate" (.type "enumerate")) (m_Machine_comes_round : CalM P w K mg base tb "Machine" "comes_round" k_Machine_comes_round φ_Machine_comes_round) {k_x_NoMachine : Nat} (x_NoMachine : CalX P w K mg base tb "NoMachine" "NoMachine" ["part", "number"] k_x_NoMachine) (l_need_names : k_need_names ≤ k) (l_need_doors : k_need_doors ≤ k) (l_Machine_comes_round : k_Machine_comes_round ≤ k) (l_x_NoMachine : k_x_NoMachine + 1 ≤ k)
    (hr : Room k (A.deeper (envOfC "Machine.__init__" (defScope s_Machine___init__) s.heap.objs.size f cdv))) :
    ∃ Sw, DSs (cxOf (L2.CX P w) P w K mg base ["self", "asks", "says", "rooms", "doors", "room", "door", "number"] "Machine.__init__" (defScope s_Machine___init__) f cdv A outer s H E) tb (defBody s_Machine___init__) Sw (b_Machine___init__ φ_need_names φ_need_doors φ_Machine_comes_round) :=
  have nd := sc_Machine___init__.nd
  have hu := room8 hr
  ⟨_, (dss_cons (ds_expr (de_call [false, false, false, false] c_need_names (hr.mono l_need_names) (da_cons (de_str [97, 115, 107, 115]) (da_cons (de_var 1) (da_cons (de_glob gl_MOST_WORDS) (da_cons (de_lst dd_nil) da_nil)))))) (dss_cons (ds_expr (de_call [false, false, false, false] c_need_names (hr.mono l_need_names) (da_cons (de_str [115, 97, 121, 115]) (da_cons (de_var 2) (da_cons (de_glob gl_MOST_WORDS) (da_cons (de_var 1) da_nil)))))) (dss_cons (ds_expr (de_call [false, false, false, false] c_need_names (hr.mono l_need_names) (da_cons (de_str [114, 111, 111, 109, 115]) (da_cons (de_var 3) (da_cons (de_glob gl_MOST_ROOMS) (da_cons (de_lst dd_nil) da_nil)))))) (dss_cons (ds_fld "Machine" "ask_words" in_Machine_ask_words (de_var 0) (de_list bl_list (de_var 1))) (dss_cons (ds_fld "Machine" "say_words" in_Machine_say_words (de_var 0) (de_list bl_list (de_var 2))) (dss_cons (ds_fld "Machine" "leading" in_Machine_leading (de_var 0) (de_dic false)) (dss_cons (ds_for passes_cx (di_seq (so_var 3 (de_var 3))) (dg_name 5 nd) (dss_one (ds_setIx hu (de_fld "Machine" "leading" in_Machine_leading (de_var 0)) (de_var 5) (de_lst dd_nil)))) (dss_cons (ds_expr (de_call [false, false, false, false] c_need_doors (hr.mono l_need_doors) (da_cons (de_var 4) (da_cons (de_var 1) (da_cons (de_var 2) (da_cons (de_fld "Machine" "leading" in_Machine_leading (de_var 0)) da_nil)))))) (dss_cons (ds_fld "Machine" "all_doors" in_Machine_all_doors (de_var 0) (de_list bl_list (de_var 4))) (dss_cons (ds_for passes_cx (di_seq (so_var 4 (de_var 4))) (dg_name 6 nd) (dss_one (ds_expr (de_append (de_ix hu (de_fld "Machine" "leading" in_Machine_leading (de_var 0)) (de_ix hu (de_var 6) de_int)) (dd_cons (de_var 6) dd_nil))))) (dss_one (ds_for passes_cx (di_enum bl_enumerate (so_var 3 (de_var 3))) (dg_tup (dgs_cons (dg_name 7 nd) (dgs_cons (dg_name 5 nd) dgs_nil))) (dss_one (ds_if (dt_v (de_meth "Machine" "comes_round" [true] m_Machine_comes_round (hr.mono l_Machine_comes_round) (de_var 0) (da_cons (de_var 5) da_nil))) (dss_one (ds_raise "NoMachine" ["part", "number"] x_NoMachine (hr.mono l_x_NoMachine) (dd_cons (de_str [115, 116, 105, 108, 108]) (dd_cons (de_var 7) dd_nil)))) dss_nil))))))))))))))⟩
abbrev s_Machine_comes_round : Stmt := (inClass (top 13) 1)
theorem sc_Machine_comes_round : FnScope ["self", "room", "seen", "due", "here", "door"] ["self", "room"] (defScope s_Machine_comes_round) := ⟨rfl, rfl, rfl, by decide +kernel, rfl, by decide +kernel, by decide +kernel⟩
theorem der_Machine_comes_round {P : Program} {w : World} {K : PySem.W.Frag} {mg : Str → Option Value} {base : Heap} {tb : Tb} {f : Addr} {cdv : Value} {A : Around} {outer : List Env} {s : Shared} {H : Hp} {E : XK} {k : Nat}
    (in_Machine_leading : InsOk K tb "Machine" "leading")
    (hr : Room k (A.deeper (envOfC "Machine.comes_round" (defScope s_Machine_comes_round) s.heap.objs.size f cdv))) :
    ∃ Sw, DSs (cxOf (L2.CX P w) P w K mg base ["self", "room", "seen", "due", "here", "door"] "Machine.comes_round" (defScope s_Machine_comes_round) f cdv A outer s H E) tb (defBody s_Machine_comes_round) Sw (b_Machine_comes_round) :=
  have nd := sc_Machine_comes_round.nd
  have hu := room8 hr
  ⟨_, (dss_cons (ds_set 2 nd (de_dic false)) (dss_cons (ds_set 3 nd (de_lst (dd_cons (de_var 1) dd_nil))) (dss_cons (ds_while passes_cx (dt_cmp (ne8 hu) ok_ne (de_var 3) (de_lst dd_nil)) (dss_cons (ds_set 4 nd (de_pop (de_var 3))) (dss_one (ds_for passes_cx (di_seq (so_exp (de_ix hu (de_fld "Machine" "leading" in_Machine_leading (de_var 0)) (de_var 4)))) (dg_name 5 nd) (dss_cons (ds_if (DW.dt (dw_and (dt_cmp (eq8 hu) ok_eq (de_ix hu (de_var 5) de_int) (de_tup (dd_cons (de_str [115, 116, 105, 108, 108]) dd_nil))) (dw_and1 (dt_cmp (eq8 hu) ok_eq (de_ix hu (de_var 5) de_int) (de_var 1))))) (dss_one (ds_ret de_bl)) dss_nil) (dss_one (ds_if (DW.dt (dw_and (dt_cmp (eq8 hu) ok_eq (de_ix hu (de_var 5) de_int) (de_tup (dd_cons (de_str [115, 116, 105, 108, 108]) dd_nil))) (dw_and1 (dt_cmp (op_ninAll hu) ok_nin (de_ix hu (de_var 5) de_int) (de_var 2))))) (dss_cons (ds_setIx hu (de_var 2) (de_ix hu (de_var 5) de_int) de_bl) (dss_one (ds_expr (de_append (de_var 3) (dd_cons (de_ix hu (de_var 5) de_int) dd_nil))))) dss_nil))))))) (dss_one (ds_ret de_bl)))))⟩
abbrev s_Machine_asks : Stmt := (inClass (top 13) 2)
theorem sc_Machine_asks : FnScope ["self"] ["self"] (defScope s_Machine_asks) := ⟨rfl, rfl, rfl, by decide +kernel, rfl, by decide +kernel, by decide +kernel⟩
theorem der_Machine_asks {P : Program} {w : World} {K : PySem.W.Frag} {mg : Str → Option Value} {base : Heap} {tb : Tb} {f : Addr} {cdv : Value} {A : Around} {outer : List Env} {s : Shared} {H : Hp} {E : XK} {k : Nat}
    (in_Machine_ask_words : InsOk K tb "Machine" "ask_words") (bl_list : Bl mg "list" (.type "list"))
    (hr : Room k (A.deeper (envOfC "Machine.asks" (defScope s_Machine_asks) s.heap.objs.size f cdv))) :
    ∃ Sw, DSs (cxOf (L2.CX P w) P w K mg base ["self"] "Machine.asks" (defScope s_Machine_asks) f cdv A outer s H E) tb (defBody s_Machine_asks) Sw (b_Machine_asks) :=
  have nd := sc_Machine_asks.nd
  have hu := room8 hr
  ⟨_, (dss_one (ds_ret (de_list bl_list (de_fld "Machine" "ask_words" in_Machine_ask_words (de_var 0)))))⟩
abbrev s_Machine_says : Stmt := (inClass (top 13) 3)
theorem sc_Machine_says : FnScope ["self"] ["self"] (defScope s_Machine_says) := ⟨rfl, rfl, rfl, by decide +kernel, rfl, by decide +kernel, by decide +kernel⟩
theorem der_Machine_says {P : Program} {w : World} {K : PySem.W.Frag} {mg : Str → Option Value} {base : Heap} {tb : Tb} {f : Addr} {cdv : Value} {A : Around} {outer : List Env} {s : Shared} {H : Hp} {E : XK} {k : Nat}
    (in_Machine_say_words : InsOk K tb "Machine" "say_words") (bl_list : Bl mg "list" (.type "list"))
    (hr : Room k (A.deeper (envOfC "Machine.says" (defScope s_Machine_says) s.heap.objs.size f cdv))) :
    ∃ Sw, DSs (cxOf (L2.CX P w) P w K mg base ["self"] "Machine.says" (defScope s_Machine_says) f cdv A outer s H E) tb (defBody s_Machine_says) Sw (b_Machine_says) :=
  have nd := sc_Machine_says.nd
  have hu := room8 hr
  ⟨_, (dss_one (ds_ret (de_list bl_list (de_fld "Machine" "say_words" in_Machine_say_words (de_var 0)))))⟩
abbrev s_Machine_rooms : Stmt := (inClass (top 13) 4)
theorem sc_Machine_rooms : FnScope ["self"] ["self"] (defScope s_Machine_rooms) := ⟨rfl, rfl, rfl, by decide +kernel, rfl, by decide +kernel, by decide +kernel⟩
theorem der_Machine_rooms {P : Program} {w : World} {K : PySem.W.Frag} {mg : Str → Option Value} {base : Heap} {tb : Tb} {f : Addr} {cdv : Value} {A : Around} {outer : List Env} {s : Shared} {H : Hp} {E : XK} {k : Nat}
    (in_Machine_leading : InsOk K tb "Machine" "leading") (bl_list : Bl mg "list" (.type "list"))
    (hr : Room k (A.deeper (envOfC "Machine.rooms" (defScope s_Machine_rooms) s.heap.objs.size f cdv))) :
    ∃ Sw, DSs (cxOf (L2.CX P w) P w K mg base ["self"] "Machine.rooms" (defScope s_Machine_rooms) f cdv A outer s H E) tb (defBody s_Machine_rooms) Sw (b_Machine_rooms) :=
  have nd := sc_Machine_rooms.nd
  have hu := room8 hr
  ⟨_, (dss_one (ds_ret (de_listD bl_list (de_fld "Machine" "leading" in_Machine_leading (de_var 0)))))⟩
abbrev s_Machine_doors : Stmt := (inClass (top 13) 5)
theorem sc_Machine_doors : FnScope ["self"] ["self"] (defScope s_Machine_doors) := ⟨rfl, rfl, rfl, by decide +kernel, rfl, by decide +kernel, by decide +kernel⟩
theorem der_Machine_doors {P : Program} {w : World} {K : PySem.W.Frag} {mg : Str → Option Value} {base : Heap} {tb : Tb} {f : Addr} {cdv : Value} {A : Around} {outer : List Env} {s : Shared} {H : Hp} {E : XK} {k : Nat}
    (in_Machine_all_doors : InsOk K tb "Machine" "all_doors") (bl_list : Bl mg "list" (.type "list"))
    (hr : Room k (A.deeper (envOfC "Machine.doors" (defScope s_Machine_doors) s.heap.objs.size f cdv))) :
    ∃ Sw, DSs (cxOf (L2.CX P w) P w K mg base ["self"] "Machine.doors" (defScope s_Machine_doors) f cdv A outer s H E) tb (defBody s_Machine_doors) Sw (b_Machine_doors) :=
  have nd := sc_Machine_doors.nd
  have hu := room8 hr
  ⟨_, (dss_one (ds_ret (de_list bl_list (de_fld "Machine" "all_doors" in_Machine_all_doors (de_var 0)))))⟩
abbrev s__law_spread : Stmt := (top 15)
theorem sc__law_spread : FnScope ["cell", "at", "one", "two", "three"] ["cell", "at"] (defScope s__law_spread) := ⟨rfl, rfl, rfl, by decide +kernel, rfl, by decide +kernel, by decide +kernel⟩
theorem der__law_spread {P : Program} {w : World} {K : PySem.W.Frag} {mg : Str → Option Value} {base : Heap} {tb : Tb} {f : Addr} {cdv : Value} {A : Around} {outer : List Env} {s : Shared} {H : Hp} {E : XK} {k : Nat}
    
    (hr : Room k (A.deeper (envOfC "_law_spread" (defScope s__law_spread) s.heap.objs.size f cdv))) :
    ∃ Sw, DSs (cxOf (L2.CX P w) P w K mg base ["cell", "at", "one", "two", "three"] "_law_spread" (defScope s__law_spread) f cdv A outer s H E) tb (defBody s__law_spread) Sw (b__law_spread) :=
  have nd := sc__law_spread.nd
  have hu := room8 hr
  ⟨_, (dss_cons (ds_if (dt_cmp op_ge ok_ge (de_var 0) (de_bin op_pow ok_pow de_int de_int)) (dss_one (ds_ret (de_var 0))) dss_nil) (dss_cons (ds_set 2 nd (de_bin op_mod ok_mod (de_bin op_addAll ok_add (de_bin op_addAll ok_add (de_bin op_mulAll ok_mul (de_bin op_mod ok_mod (de_var 0) de_int) de_int) (de_bin op_mulAll ok_mul (de_var 1) de_int)) de_int) de_int)) (dss_cons (ds_set 3 nd (de_bin op_mod ok_mod (de_bin op_addAll ok_add (de_bin op_addAll ok_add (de_bin op_mulAll ok_mul (de_var 2) (de_var 2)) (de_bin op_mulAll ok_mul (de_var 1) de_int)) (de_bin op_mod ok_mod (de_var 0) de_int)) de_int)) (dss_cons (ds_set 4 nd (de_bin op_mod ok_mod (de_bin op_addAll ok_add (de_bin op_addAll ok_add (de_bin op_mulAll ok_mul (de_var 3) (de_var 3)) (de_bin op_mulAll ok_mul (de_var 2) de_int)) de_int) de_int)) (dss_one (ds_ret (de_bin op_addAll ok_add (de_bin op_mulAll ok_mul (de_bin op_addAll ok_add (de_bin op_mulAll ok_mul (de_var 2) de_int) (de_var 3)) de_int) (de_var 4))))))))⟩
abbrev s__law_open : Stmt := (top 16)
theorem sc__law_open : FnScope ["script", "cells", "k", "cell"] ["script"] (defScope s__law_open) := ⟨rfl, rfl, rfl, by decide +kernel, rfl, by decide +kernel, by decide +kernel⟩
theorem der__law_open {P : Program} {w : World} {K : PySem.W.Frag} {mg : Str → Option Value} {base : Heap} {tb : Tb} {f : Addr} {cdv : Value} {A : Around} {outer : List Env} {s : Shared} {H : Hp} {E : XK} {k : Nat}
    (bl_list : Bl mg "list" (.type "list")) (bl_enumerate : Bl mg "enumerate" (.type "enumerate"))
    (hr : Room k (A.deeper (envOfC "_law_open" (defScope s__law_open) s.heap.objs.size f cdv))) :
    ∃ Sw, DSs (cxOf (L2.CX P w) P w K mg base ["script", "cells", "k", "cell"] "_law_open" (defScope s__law_open) f cdv A outer s H E) tb (defBody s__law_open) Sw (b__law_open) :=
  have nd := sc__law_open.nd
  have hu := room8 hr
  ⟨_, (dss_cons (ds_set 1 nd (de_list bl_list (de_cut (de_var 0) do_none (do_some de_int)))) (dss_cons (ds_for passes_cx (di_enum bl_enumerate (so_exp (de_cut (de_var 0) (do_some de_int) (do_some de_int)))) (dg_tup (dgs_cons (dg_name 2 nd) (dgs_cons (dg_name 3 nd) dgs_nil))) (dss_one (ds_setIx hu (de_var 1) (de_bin op_mod ok_mod (de_var 2) de_int) (de_bin op_addAll ok_add (de_ix hu (de_var 1) (de_bin op_mod ok_mod (de_var 2) de_int)) (de_var 3))))) (dss_one (ds_ret (de_lst (dd_cons (de_var 1) (dd_cons de_int (dd_cons de_int dd_nil))))))))⟩
abbrev s__law_anew : Stmt := (top 17)
theorem sc__law_anew : FnScope ["pen"] ["pen"] (defScope s__law_anew) := ⟨rfl, rfl, rfl, by decide +kernel, rfl, by decide +kernel, by decide +kernel⟩
theorem der__law_anew {P : Program} {w : World} {K : PySem.W.Frag} {mg : Str → Option Value} {base : Heap} {tb : Tb} {f : Addr} {cdv : Value} {A : Around} {outer : List Env} {s : Shared} {H : Hp} {E : XK} {k : Nat}
    
    (hr : Room k (A.deeper (envOfC "_law_anew" (defScope s__law_anew) s.heap.objs.size f cdv))) :
    ∃ Sw, DSs (cxOf (L2.CX P w) P w K mg base ["pen"] "_law_anew" (defScope s__law_anew) f cdv A outer s H E) tb (defBody s__law_anew) Sw (b__law_anew) :=
  have nd := sc__law_anew.nd
  have hu := room8 hr
  ⟨_, (dss_cons (ds_setIx hu (de_var 0) de_int de_int) (dss_one (ds_ret (de_var 0))))⟩
abbrev s__law_take : Stmt := (top 18)
theorem sc__law_take : FnScope ["pen", "many", "at", "cell", "found"] ["pen", "many"] (defScope s__law_take) := ⟨rfl, rfl, rfl, by decide +kernel, rfl, by decide +kernel, by decide +kernel⟩
theorem der__law_take {P : Program} {w : World} {K : PySem.W.Frag} {mg : Str → Option Value} {base : Heap} {tb : Tb} {f : Addr} {cdv : Value} {A : Around} {outer : List Env} {s : Shared} {H : Hp} {E : XK} {k : Nat}
    {φ__law_spread : SpD} {k__law_spread : Nat} (bl_len : Bl mg "len" (.builtin "len")) (c__law_spread : Cal P w K mg base tb "_law_spread" k__law_spread φ__law_spread) (l__law_spread : k__law_spread ≤ k)
    (hr : Room k (A.deeper (envOfC "_law_take" (defScope s__law_take) s.heap.objs.size f cdv))) :
    ∃ Sw, DSs (cxOf (L2.CX P w) P w K mg base ["pen", "many", "at", "cell", "found"] "_law_take" (defScope s__law_take) f cdv A outer s H E) tb (defBody s__law_take) Sw (b__law_take φ__law_spread) :=
  have nd := sc__law_take.nd
  have hu := room8 hr
  ⟨_, (dss_cons (ds_if (dt_cmp op_lt ok_lt (de_ix hu (de_var 0) de_int) (de_var 1)) (dss_cons (ds_set 2 nd (de_ix hu (de_var 0) de_int)) (dss_cons (ds_set 3 nd de_int) (dss_cons (ds_if (dt_cmp op_lt ok_lt (de_var 2) (de_len bl_len (de_ix hu (de_var 0) de_int))) (dss_one (ds_set 3 nd (de_ix hu (de_ix hu (de_var 0) de_int) (de_var 2)))) (dss_one (ds_if (dt_cmp op_gt ok_gt (de_len bl_len (de_ix hu (de_var 0) de_int)) de_int) (dss_one (ds_set 3 nd (de_bin op_mod ok_mod (de_ix hu (de_ix hu (de_var 0) de_int) (de_bin op_mod ok_mod (de_bin op_addAll ok_add (de_bin op_mulAll ok_mul (de_var 2) de_int) de_int) (de_len bl_len (de_ix hu (de_var 0) de_int)))) (de_bin op_addAll ok_add (de_bin op_pow ok_pow de_int de_int) (de_var 2))))) dss_nil))) (dss_cons (ds_setIx hu (de_var 0) de_int (de_bin op_addAll ok_add (de_var 2) de_int)) (dss_one (ds_setIx hu (de_var 0) de_int (de_call [true, false] c__law_spread (hr.mono l__law_spread) (da_cons (de_var 3) (da_cons (de_var 2) da_nil))))))))) dss_nil) (dss_cons (ds_set 4 nd (de_bin op_mod ok_mod (de_ix hu (de_var 0) de_int) (de_var 1))) (dss_cons (ds_setIx hu (de_var 0) de_int (de_bin op_fdiv ok_div (de_ix hu (de_var 0) de_int) (de_var 1))) (dss_one (ds_ret (de_var 4))))))⟩
abbrev s__law_names : Stmt := (top 19)
theorem sc__law_names : FnScope ["pen", "many", "letters", "base", "way", "turn", "size", "found", "k", "sign", "part", "at"] ["pen", "many"] (defScope s__law_names) := ⟨rfl, rfl, rfl, by decide +kernel, rfl, by decide +kernel, by decide +kernel⟩
theorem der__law_names {P : Program} {w : World} {K : PySem.W.Frag} {mg : Str → Option Value} {base : Heap} {tb : Tb} {f : Addr} {cdv : Value} {A : Around} {outer : List Env} {s : Shared} {H : Hp} {E : XK} {k : Nat}
    {φ__law_take : SpD} {k__law_take : Nat} (bl_range : Bl mg "range" (.type "range")) (c__law_take : Cal P w K mg base tb "_law_take" k__law_take φ__law_take) (bl_len : Bl mg "len" (.builtin "len")) (l__law_take : k__law_take ≤ k)
    (hr : Room k (A.deeper (envOfC "_law_names" (defScope s__law_names) s.heap.objs.size f cdv))) :
    ∃ Sw, DSs (cxOf (L2.CX P w) P w K mg base ["pen", "many", "letters", "base", "way", "turn", "size", "found", "k", "sign", "part", "at"] "_law_names" (defScope s__law_names) f cdv A outer s H E) tb (defBody s__law_names) Sw (b__law_names φ__law_take) :=
  have nd := sc__law_names.nd
  have hu := room8 hr
  ⟨_, (dss_cons (ds_set 2 nd (de_str [97, 98, 99, 100, 101, 102, 103, 104, 105, 106, 107, 108, 109, 110, 111, 112, 113, 114, 115, 116, 117, 118, 119, 120, 121, 122])) (dss_cons (ds_set 3 nd (de_join [] (de_comp [("k", 8)] nd (di_range bl_range de_int) (fun _ _ _ _ _ => (dg_name 8 nd)) (fun _ _ _ _ _ => dts_nil) (fun _ _ _ _ _ => (de_ix hu (de_var 2) (de_call [true, false] c__law_take (hr.mono l__law_take) (da_cons (de_var 0) (da_cons de_int da_nil)))))))) (dss_cons (ds_set 4 nd (de_call [true, false] c__law_take (hr.mono l__law_take) (da_cons (de_var 0) (da_cons de_int da_nil)))) (dss_cons (ds_set 5 nd (de_call [true, false] c__law_take (hr.mono l__law_take) (da_cons (de_var 0) (da_cons de_int da_nil)))) (dss_cons (ds_set 6 nd (de_call [true, false] c__law_take (hr.mono l__law_take) (da_cons (de_var 0) (da_cons de_int da_nil)))) (dss_cons (ds_set 7 nd (de_lst dd_nil)) (dss_cons (ds_for passes_cx (di_range bl_range (de_var 1)) (dg_name 8 nd) (dss_cons (ds_set 9 nd (de_ix hu (de_var 2) (de_bin op_mod ok_mod (de_bin op_addAll ok_add (de_var 5) (de_bin op_mulAll ok_mul de_int (de_var 8))) de_int))) (dss_cons (ds_set 10 nd (de_cut (de_var 3) do_none (do_some (de_bin op_mod ok_mod (de_bin op_addAll ok_add (de_var 6) (de_bin op_mulAll ok_mul (de_var 8) (de_bin op_mod ok_mod (de_var 4) de_int))) de_int)))) (dss_cons (ds_set 11 nd (de_ix hu (de_lst (dd_cons de_int (dd_cons (de_len bl_len (de_var 10)) (dd_cons (de_bin op_fdiv ok_div (de_len bl_len (de_var 10)) de_int) dd_nil)))) (de_var 4))) (dss_one (ds_expr (de_append (de_var 7) (dd_cons (de_bin op_addAll ok_add (de_bin op_addAll ok_add (de_cut (de_var 10) do_none (do_some (de_var 11))) (de_var 9)) (de_cut (de_var 10) (do_some (de_var 11)) do_none)) dd_nil)))))))) (dss_one (ds_ret (de_var 7))))))))))⟩
abbrev s__law_still_on : Stmt := (top 20)
theorem sc__law_still_on : FnScope ["doors", "rooms", "found", "at", "room", "sign", "other"] ["doors", "rooms"] (defScope s__law_still_on) := ⟨rfl, rfl, rfl, by decide +kernel, rfl, by decide +kernel, by decide +kernel⟩
theorem der__law_still_on {P : Program} {w : World} {K : PySem.W.Frag} {mg : Str → Option Value} {base : Heap} {tb : Tb} {f : Addr} {cdv : Value} {A : Around} {outer : List Env} {s : Shared} {H : Hp} {E : XK} {k : Nat}
    (bl_list : Bl mg "list" (.type "list")) (bl_len : Bl mg "len" (.builtin "len"))
    (hr : Room k (A.deeper (envOfC "_law_still_on" (defScope s__law_still_on) s.heap.objs.size f cdv))) :
    ∃ Sw, DSs (cxOf (L2.CX P w) P w K mg base ["doors", "rooms", "found", "at", "room", "sign", "other"] "_law_still_on" (defScope s__law_still_on) f cdv A outer s H E) tb (defBody s__law_still_on) Sw (b__law_still_on) :=
  have nd := sc__law_still_on.nd
  have hu := room8 hr
  ⟨_, (dss_cons (ds_set 2 nd (de_list bl_list (de_var 1))) (dss_cons (ds_set 3 nd de_int) (dss_cons (ds_while passes_cx (dt_cmp op_lt ok_lt (de_var 3) (de_len bl_len (de_var 2))) (dss_cons (ds_for passes_cx (di_seq (so_var 0 (de_var 0))) (dg_tup (dgs_cons (dg_name 4 nd) (dgs_cons (dg_name 5 nd) (dgs_cons (dg_name 6 nd) dgs_nil)))) (dss_one (ds_if (DW.dt (dw_and (dt_cmp (eq8 hu) ok_eq (de_var 4) (de_ix hu (de_var 2) (de_var 3))) (dw_and (dt_cmp (eq8 hu) ok_eq (de_var 5) (de_tup (dd_cons (de_str [115, 116, 105, 108, 108]) dd_nil))) (dw_and1 (dt_cmp (op_ninAll hu) ok_nin (de_var 6) (de_var 2)))))) (dss_one (ds_expr (de_append (de_var 2) (dd_cons (de_var 6) dd_nil)))) dss_nil))) (dss_one (ds_set 3 nd (de_bin op_addAll ok_add (de_var 3) de_int))))) (dss_one (ds_ret (de_var 2))))))⟩
abbrev s__law_put : Stmt := (top 21)
theorem sc__law_put : FnScope ["doors", "door"] ["doors", "door"] (defScope s__law_put) := ⟨rfl, rfl, rfl, by decide +kernel, rfl, by decide +kernel, by decide +kernel⟩
theorem der__law_put {P : Program} {w : World} {K : PySem.W.Frag} {mg : Str → Option Value} {base : Heap} {tb : Tb} {f : Addr} {cdv : Value} {A : Around} {outer : List Env} {s : Shared} {H : Hp} {E : XK} {k : Nat}
    
    (hr : Room k (A.deeper (envOfC "_law_put" (defScope s__law_put) s.heap.objs.size f cdv))) :
    ∃ Sw, DSs (cxOf (L2.CX P w) P w K mg base ["doors", "door"] "_law_put" (defScope s__law_put) f cdv A outer s H E) tb (defBody s__law_put) Sw (b__law_put) :=
  have nd := sc__law_put.nd
  have hu := room8 hr
  ⟨_, (dss_one (ds_if (dt_cmp (op_ninAll hu) ok_nin (de_var 1) (de_var 0)) (dss_one (ds_expr (de_append (de_var 0) (dd_cons (de_var 1) dd_nil)))) dss_nil))⟩
abbrev s__law_draw_doors : Stmt := (top 22)
theorem sc__law_draw_doors : FnScope ["pen", "asks", "says", "rooms", "full", "doors", "down", "k", "room", "turn", "sign", "ask", "later"] ["pen", "asks", "says", "rooms", "full"] (defScope s__law_draw_doors) := ⟨rfl, rfl, rfl, by decide +kernel, rfl, by decide +kernel, by decide +kernel⟩
theorem der__law_draw_doors {P : Program} {w : World} {K : PySem.W.Frag} {mg : Str → Option Value} {base : Heap} {tb : Tb} {f : Addr} {cdv : Value} {A : Around} {outer : List Env} {s : Shared} {H : Hp} {E : XK} {k : Nat}
    {φ__law_take : SpD} {k__law_take : Nat} {φ__law_put : SpD} {k__law_put : Nat} (c__law_take : Cal P w K mg base tb "_law_take" k__law_take φ__law_take) (bl_enumerate : Bl mg "enumerate" (.type "enumerate")) (bl_range : Bl mg "range" (.type "range")) (bl_len : Bl mg "len" (.builtin "len")) (c__law_put : Cal P w K mg base tb "_law_put" k__law_put φ__law_put) (l__law_take : k__law_take ≤ k) (l__law_put : k__law_put ≤ k)
    (hr : Room k (A.deeper (envOfC "_law_draw_doors" (defScope s__law_draw_doors) s.heap.objs.size f cdv))) :
    ∃ Sw, DSs (cxOf (L2.CX P w) P w K mg base ["pen", "asks", "says", "rooms", "full", "doors", "down", "k", "room", "turn", "sign", "ask", "later"] "_law_draw_doors" (defScope s__law_draw_doors) f cdv A outer s H E) tb (defBody s__law_draw_doors) Sw (b__law_draw_doors φ__law_take φ__law_put) :=
  have nd := sc__law_draw_doors.nd
  have hu := room8 hr
  ⟨_, (dss_cons (ds_set 5 nd (de_lst dd_nil)) (dss_cons (ds_set 6 nd (de_call [true, false] c__law_take (hr.mono l__law_take) (da_cons (de_var 0) (da_cons de_int da_nil)))) (dss_cons (ds_for passes_cx (di_enum bl_enumerate (so_var 3 (de_var 3))) (dg_tup (dgs_cons (dg_name 7 nd) (dgs_cons (dg_name 8 nd) dgs_nil))) (dss_cons (ds_for passes_cx (di_range bl_range (de_ix hu (de_lst (dd_cons de_int (dd_cons de_int (dd_cons de_int (dd_cons de_int dd_nil))))) (de_call [true, false] c__law_take (hr.mono l__law_take) (da_cons (de_var 0) (da_cons de_int da_nil))))) (dg_name 9 nd) (dss_cons (ds_set 10 nd (de_tup (dd_cons (de_str [115, 97, 121]) (dd_cons (de_ix hu (de_var 2) (de_call [true, false] c__law_take (hr.mono l__law_take) (da_cons (de_var 0) (da_cons (de_len bl_len (de_var 2)) da_nil)))) dd_nil)))) (dss_one (ds_expr (de_call [true, true] c__law_put (hr.mono l__law_put) (da_cons (de_var 5) (da_cons (de_tup (dd_cons (de_var 8) (dd_cons (de_var 10) (dd_cons (de_ix hu (de_var 3) (de_call [true, false] c__law_take (hr.mono l__law_take) (da_cons (de_var 0) (da_cons (de_len bl_len (de_var 3)) da_nil)))) dd_nil)))) da_nil))))))) (dss_cons (ds_for passes_cx (di_seq (so_var 1 (de_var 1))) (dg_name 11 nd) (dss_one (ds_for passes_cx (di_range bl_range (de_ix hu (de_lst (dd_cons (de_var 4) (dd_cons de_int (dd_cons de_int (dd_cons de_int dd_nil))))) (de_call [true, false] c__law_take (hr.mono l__law_take) (da_cons (de_var 0) (da_cons de_int da_nil))))) (dg_name 9 nd) (dss_one (ds_expr (de_call [true, true] c__law_put (hr.mono l__law_put) (da_cons (de_var 5) (da_cons (de_tup (dd_cons (de_var 8) (dd_cons (de_tup (dd_cons (de_str [97, 115, 107]) (dd_cons (de_var 11) dd_nil))) (dd_cons (de_ix hu (de_var 3) (de_call [true, false] c__law_take (hr.mono l__law_take) (da_cons (de_var 0) (da_cons (de_len bl_len (de_var 3)) da_nil)))) dd_nil)))) da_nil)))))))) (dss_cons (ds_set 12 nd (de_ix hu (de_lst (dd_cons (de_cut (de_var 3) (do_some (de_bin op_addAll ok_add (de_var 7) de_int)) do_none) (dd_cons (de_cut (de_var 3) do_none (do_some (de_var 7))) dd_nil))) (de_var 6))) (dss_one (ds_if (DW.dt (dw_and (dt_cmp (ne8 hu) ok_ne (de_var 12) (de_lst dd_nil)) (dw_and1 (dt_cmp (eq8 hu) ok_eq (de_call [true, false] c__law_take (hr.mono l__law_take) (da_cons (de_var 0) (da_cons de_int da_nil))) de_int)))) (dss_one (ds_expr (de_call [true, true] c__law_put (hr.mono l__law_put) (da_cons (de_var 5) (da_cons (de_tup (dd_cons (de_var 8) (dd_cons (de_tup (dd_cons (de_str [115, 116, 105, 108, 108]) dd_nil)) (dd_cons (de_ix hu (de_var 12) (de_call [true, false] c__law_take (hr.mono l__law_take) (da_cons (de_var 0) (da_cons (de_len bl_len (de_var 12)) da_nil)))) dd_nil)))) da_nil))))) dss_nil)))))) (dss_one (ds_ret (de_var 5))))))⟩
abbrev s__law_model : Stmt := (top 23)
theorem sc__law_model : FnScope ["pen", "most", "full", "words", "asks", "says", "rooms", "doors"] ["pen", "most", "full"] (defScope s__law_model) := ⟨rfl, rfl, rfl, by decide +kernel, rfl, by decide +kernel, by decide +kernel⟩
theorem der__law_model {P : Program} {w : World} {K : PySem.W.Frag} {mg : Str → Option Value} {base : Heap} {tb : Tb} {f : Addr} {cdv : Value} {A : Around} {outer : List Env} {s : Shared} {H : Hp} {E : XK} {k : Nat}
    {φ__law_anew : SpD} {k__law_anew : Nat} {φ__law_names : SpD} {k__law_names : Nat} {φ__law_take : SpD} {k__law_take : Nat} {φ__law_draw_doors : SpD} {k__law_draw_doors : Nat} (c__law_anew : Cal P w K mg base tb "_law_anew" k__law_anew φ__law_anew) (c__law_names : Cal P w K mg base tb "_law_names" k__law_names φ__law_names) (c__law_take : Cal P w K mg base tb "_law_take" k__law_take φ__law_take) (c__law_draw_doors : Cal P w K mg base tb "_law_draw_doors" k__law_draw_doors φ__law_draw_doors) (l__law_anew : k__law_anew ≤ k) (l__law_names : k__law_names ≤ k) (l__law_take : k__law_take ≤ k) (l__law_draw_doors : k__law_draw_doors ≤ k)
    (hr : Room k (A.deeper (envOfC "_law_model" (defScope s__law_model) s.heap.objs.size f cdv))) :
    ∃ Sw, DSs (cxOf (L2.CX P w) P w K mg base ["pen", "most", "full", "words", "asks", "says", "rooms", "doors"] "_law_model" (defScope s__law_model) f cdv A outer s H E) tb (defBody s__law_model) Sw (b__law_model φ__law_anew φ__law_names φ__law_take φ__law_draw_doors) :=
  have nd := sc__law_model.nd
  have hu := room8 hr
  ⟨_, (dss_cons (ds_expr (de_call [true] c__law_anew (hr.mono l__law_anew) (da_cons (de_var 0) da_nil))) (dss_cons (ds_set 3 nd (de_call [true, false] c__law_names (hr.mono l__law_names) (da_cons (de_var 0) (da_cons de_int da_nil)))) (dss_cons (ds_set 4 nd (de_cut (de_var 3) do_none (do_some (de_bin op_addAll ok_add de_int (de_ix hu (de_lst (dd_cons de_int (dd_cons de_int (dd_cons de_int (dd_cons de_int (dd_cons de_int (dd_cons de_int dd_nil))))))) (de_call [true, false] c__law_take (hr.mono l__law_take) (da_cons (de_var 0) (da_cons de_int da_nil)))))))) (dss_cons (ds_set 5 nd (de_cut (de_var 3) (do_some de_int) (do_some (de_bin op_addAll ok_add de_int (de_ix hu (de_lst (dd_cons de_int (dd_cons de_int (dd_cons de_int (dd_cons de_int (dd_cons de_int (dd_cons de_int dd_nil))))))) (de_call [true, false] c__law_take (hr.mono l__law_take) (da_cons (de_var 0) (da_cons de_int da_nil)))))))) (dss_cons (ds_set 6 nd (de_call [true, false] c__law_names (hr.mono l__law_names) (da_cons (de_var 0) (da_cons (de_bin op_addAll ok_add de_int (de_call [true, false] c__law_take (hr.mono l__law_take) (da_cons (de_var 0) (da_cons (de_var 1) da_nil)))) da_nil)))) (dss_cons (ds_set 7 nd (de_call [true, false, false, false, true] c__law_draw_doors (hr.mono l__law_draw_doors) (da_cons (de_var 0) (da_cons (de_var 4) (da_cons (de_var 5) (da_cons (de_var 6) (da_cons (de_var 2) da_nil))))))) (dss_one (ds_ret (de_tup (dd_cons (de_var 4) (dd_cons (de_var 5) (dd_cons (de_var 6) (dd_cons (de_var 7) dd_nil)))))))))))))⟩
abbrev s__law_letters : Stmt := (top 24)
theorem sc__law_letters : FnScope [] [] (defScope s__law_letters) := ⟨rfl, rfl, rfl, by decide +kernel, rfl, by decide +kernel, by decide +kernel⟩
theorem der__law_letters {P : Program} {w : World} {K : PySem.W.Frag} {mg : Str → Option Value} {base : Heap} {tb : Tb} {f : Addr} {cdv : Value} {A : Around} {outer : List Env} {s : Shared} {H : Hp} {E : XK} {k : Nat}
    
    (hr : Room k (A.deeper (envOfC "_law_letters" (defScope s__law_letters) s.heap.objs.size f cdv))) :
    ∃ Sw, DSs (cxOf (L2.CX P w) P w K mg base [] "_law_letters" (defScope s__law_letters) f cdv A outer s H E) tb (defBody s__law_letters) Sw (b__law_letters) :=
  have nd := sc__law_letters.nd
  have hu := room8 hr
  ⟨_, (dss_one (ds_ret (de_str [97, 98, 99, 100, 101, 102, 103, 104, 105, 106, 107, 108, 109, 110, 111, 112, 113, 114, 115, 116, 117, 118, 119, 120, 121, 122])))⟩
abbrev s__law_round : Stmt := (top 25)
theorem sc__law_round : FnScope ["rooms", "doors", "stills", "number", "room", "behind", "door"] ["rooms", "doors"] (defScope s__law_round) := ⟨rfl, rfl, rfl, by decide +kernel, rfl, by decide +kernel, by decide +kernel⟩
theorem der__law_round {P : Program} {w : World} {K : PySem.W.Frag} {mg : Str → Option Value} {base : Heap} {tb : Tb} {f : Addr} {cdv : Value} {A : Around} {outer : List Env} {s : Shared} {H : Hp} {E : XK} {k : Nat}
    {φ__law_still_on : SpD} {k__law_still_on : Nat} (bl_enumerate : Bl mg "enumerate" (.type "enumerate")) (c__law_still_on : Cal P w K mg base tb "_law_still_on" k__law_still_on φ__law_still_on) (l__law_still_on : k__law_still_on ≤ k)
    (hr : Room k (A.deeper (envOfC "_law_round" (defScope s__law_round) s.heap.objs.size f cdv))) :
    ∃ Sw, DSs (cxOf (L2.CX P w) P w K mg base ["rooms", "doors", "stills", "number", "room", "behind", "door"] "_law_round" (defScope s__law_round) f cdv A outer s H E) tb (defBody s__law_round) Sw (b__law_round φ__law_still_on) :=
  have nd := sc__law_round.nd
  have hu := room8 hr
  ⟨_, (dss_cons (ds_setC 2 [("door", 6)] nd (di_seq (so_var 1 (de_var 1))) (fun _ _ _ _ _ => (dg_name 6 nd)) (fun _ _ _ _ _ => (dts_one (dt_cmp (eq8 hu) ok_eq (de_ix hu (de_var 6) de_int) (de_tup (dd_cons (de_str [115, 116, 105, 108, 108]) dd_nil))))) (fun _ _ _ _ _ => (de_var 6))) (dss_cons (ds_for passes_cx (di_enum bl_enumerate (so_var 0 (de_var 0))) (dg_tup (dgs_cons (dg_name 3 nd) (dgs_cons (dg_name 4 nd) dgs_nil))) (dss_cons (ds_setC 5 [("door", 6)] nd (di_seq (so_var 2 (de_var 2))) (fun _ _ _ _ _ => (dg_name 6 nd)) (fun _ _ _ _ _ => (dts_one (dt_cmp (eq8 hu) ok_eq (de_ix hu (de_var 6) de_int) (de_var 4)))) (fun _ _ _ _ _ => (de_ix hu (de_var 6) de_int))) (dss_one (ds_if (dt_cmp (op_inAll hu) ok_in (de_var 4) (de_call [false, false] c__law_still_on (hr.mono l__law_still_on) (da_cons (de_var 2) (da_cons (de_var 5) da_nil)))) (dss_one (ds_ret (de_var 3))) dss_nil)))) (dss_one (ds_ret de_non))))⟩
abbrev s__law_told_of : Stmt := (top 26)
theorem sc__law_told_of : FnScope ["asks", "says", "rooms", "doors", "handed", "found", "wrong", "e"] ["asks", "says", "rooms", "doors"] (defScope s__law_told_of) := ⟨rfl, rfl, rfl, by decide +kernel, rfl, by decide +kernel, by decide +kernel⟩
theorem der__law_told_of {P : Program} {w : World} {K : PySem.W.Frag} {mg : Str → Option Value} {base : Heap} {tb : Tb} {f : Addr} {cdv : Value} {A : Around} {outer : List Env} {s : Shared} {H : Hp} {E : XK} {k : Nat}
    {φ_Machine___init__ : SpD} {k_Machine___init__ : Nat} {φ_Machine_asks : SpD} {k_Machine_asks : Nat} {φ_Machine_says : SpD} {k_Machine_says : Nat} {φ_Machine_rooms : SpD} {k_Machine_rooms : Nat} {φ_Machine_doors : SpD} {k_Machine_doors : Nat} (bl_list : Bl mg "list" (.type "list")) (e_NoMachine : ExM K mg tb "NoMachine" ["NoMachine"]) (n_Machine : CalN P w K mg base tb "Machine" "Machine" k_Machine___init__ φ_Machine___init__) (xf_NoMachine_number : XFld K tb ["NoMachine"] "number") (xf_NoMachine_part : XFld K tb ["NoMachine"] "part") (m_Machine_asks : CalM P w K mg base tb "Machine" "asks" k_Machine_asks φ_Machine_asks) (m_Machine_says : CalM P w K mg base tb "Machine" "says" k_Machine_says φ_Machine_says) (m_Machine_rooms : CalM P w K mg base tb "Machine" "rooms" k_Machine_rooms φ_Machine_rooms) (m_Machine_doors : CalM P w K mg base tb "Machine" "doors" k_Machine_doors φ_Machine_doors) (l_Machine___init__ : k_Machine___init__ + 1 ≤ k) (l_Machine_asks : k_Machine_asks ≤ k) (l_Machine_says : k_Machine_says ≤ k) (l_Machine_rooms : k_Machine_rooms ≤ k) (l_Machine_doors : k_Machine_doors ≤ k)
    (hr : Room k (A.deeper (envOfC "_law_told_of" (defScope s__law_told_of) s.heap.objs.size f cdv))) :
    ∃ Sw, DSs (cxOf (L2.CX P w) P w K mg base ["asks", "says", "rooms", "doors", "handed", "found", "wrong", "e"] "_law_told_of" (defScope s__law_told_of) f cdv A outer s H E) tb (defBody s__law_told_of) Sw (b__law_told_of φ_Machine___init__ φ_Machine_asks φ_Machine_says φ_Machine_rooms φ_Machine_doors) :=
  have nd := sc__law_told_of.nd
  have hu := room8 hr
  ⟨_, (dss_cons (ds_set 4 nd (de_lst (dd_cons (de_list bl_list (de_var 0)) (dd_cons (de_list bl_list (de_var 1)) (dd_cons (de_list bl_list (de_var 2)) (dd_cons (de_list bl_list (de_var 3)) dd_nil)))))) (dss_cons (ds_set 5 nd de_non) (dss_cons (ds_set 6 nd de_non) (dss_cons (ds_try_as 7 6 ["NoMachine"] nd e_NoMachine (fun _ _ po => (dss_one (ds_set 5 nd (de_new "Machine" [false, false, false, false] n_Machine (hr.mono l_Machine___init__) (da_cons (de_ix hu (de_var 4) de_int) (da_cons (de_ix hu (de_var 4) de_int) (da_cons (de_ix hu (de_var 4) de_int) (da_cons (de_ix hu (de_var 4) de_int) da_nil)))))))) (dx_tup (dxs_cons (dx_fld "NoMachine" "part" xf_NoMachine_part) (dxs_cons (dx_fld "NoMachine" "number" xf_NoMachine_number) dxs_nil)))) (dss_cons (ds_if (dt_cmp (ne8 hu) ok_ne (de_var 4) (de_lst (dd_cons (de_var 0) (dd_cons (de_var 1) (dd_cons (de_var 2) (dd_cons (de_var 3) dd_nil)))))) (dss_one (ds_ret de_non)) dss_nil) (dss_cons (ds_if (dt_isN (de_var 5)) (dss_one (ds_ret (de_var 6))) dss_nil) (dss_one (ds_ret (de_lst (dd_cons (de_meth0 "Machine" "asks" m_Machine_asks (hr.mono l_Machine_asks) (de_var 5)) (dd_cons (de_meth0 "Machine" "says" m_Machine_says (hr.mono l_Machine_says) (de_var 5)) (dd_cons (de_meth0 "Machine" "rooms" m_Machine_rooms (hr.mono l_Machine_rooms) (de_var 5)) (dd_cons (de_meth0 "Machine" "doors" m_Machine_doors (hr.mono l_Machine_doors) (de_var 5)) dd_nil)))))))))))))⟩
abbrev s__law_same : Stmt := (top 27)
theorem sc__law_same : FnScope ["found", "due", "one", "other"] ["found", "due"] (defScope s__law_same) := ⟨rfl, rfl, rfl, by decide +kernel, rfl, by decide +kernel, by decide +kernel⟩
theorem der__law_same {P : Program} {w : World} {K : PySem.W.Frag} {mg : Str → Option Value} {base : Heap} {tb : Tb} {f : Addr} {cdv : Value} {A : Around} {outer : List Env} {s : Shared} {H : Hp} {E : XK} {k : Nat}
    {φ__law_same : SpD} {k__law_same : Nat} (bl_isinstance : Bl mg "isinstance" (.builtin "isinstance")) (bl_bool : Bl mg "bool" (.type "bool")) (bl_str : Bl mg "str" (.type "str")) (bl_int : Bl mg "int" (.type "int")) (bl_tuple : Bl mg "tuple" (.type "tuple")) (bl_list : Bl mg "list" (.type "list")) (bl_len : Bl mg "len" (.builtin "len")) (bl_zip : Bl mg "zip" (.type "zip")) (c__law_same : Cal P w K mg base tb "_law_same" k__law_same φ__law_same) (bl_all : Bl mg "all" (.builtin "all")) (l__law_same : k__law_same ≤ k)
    (hr : Room k (A.deeper (envOfC "_law_same" (defScope s__law_same) s.heap.objs.size f cdv))) :
    ∃ Sw, DSs (cxOf (L2.CX P w) P w K mg base ["found", "due", "one", "other"] "_law_same" (defScope s__law_same) f cdv A outer s H E) tb (defBody s__law_same) Sw (b__law_same φ__law_same) :=
  have nd := sc__law_same.nd
  have hu := room8 hr
  ⟨_, (dss_cons (ds_if (dt_isN (de_var 1)) (dss_one (ds_ret (de_isN (de_var 0)))) dss_nil) (dss_cons (ds_if (dt_v (de_isT .bool bl_isinstance bl_bool (de_var 1))) (dss_one (ds_ret (de_and (de_isT .bool bl_isinstance bl_bool (de_var 0)) (de_one (de_cmp (eq8 hu) ok_eq (de_var 0) (de_var 1)))))) dss_nil) (dss_cons (ds_if (dt_v (de_isT .str bl_isinstance bl_str (de_var 1))) (dss_one (ds_ret (de_and (de_isT .str bl_isinstance bl_str (de_var 0)) (de_one (de_cmp (eq8 hu) ok_eq (de_var 0) (de_var 1)))))) dss_nil) (dss_cons (ds_if (dt_v (de_isT .int bl_isinstance bl_int (de_var 1))) (dss_one (ds_ret (de_and (de_isT .int bl_isinstance bl_int (de_var 0)) (de_and (de_not (de_isT .bool bl_isinstance bl_bool (de_var 0))) (de_one (de_cmp (eq8 hu) ok_eq (de_var 0) (de_var 1))))))) dss_nil) (dss_cons (ds_if (DW.dt (dw_and (dt_v (de_isT .tuple bl_isinstance bl_tuple (de_var 1))) (dw_and1 (dt_not (dt_v (de_isT .tuple bl_isinstance bl_tuple (de_var 0))))))) (dss_one (ds_ret de_bl)) dss_nil) (dss_cons (ds_if (DW.dt (dw_and (dt_v (de_isT .list bl_isinstance bl_list (de_var 1))) (dw_and1 (dt_not (dt_v (de_isT .list bl_isinstance bl_list (de_var 0))))))) (dss_one (ds_ret de_bl)) dss_nil) (dss_cons (ds_if (dt_cmp (ne8 hu) ok_ne (de_len bl_len (de_var 0)) (de_len bl_len (de_var 1))) (dss_one (ds_ret de_bl)) dss_nil) (dss_one (ds_ret (de_all bl_all (de_comp [("one", 2), ("other", 3)] nd (di_zip bl_zip (so_var 0 (de_var 0)) (so_var 1 (de_var 1))) (fun _ _ _ _ _ => (dg_tup (dgs_cons (dg_name 2 nd) (dgs_cons (dg_name 3 nd) dgs_nil)))) (fun _ _ _ _ _ => dts_nil) (fun _ _ _ _ _ => (de_call [false, false] c__law_same (hr.mono l__law_same) (da_cons (de_var 2) (da_cons (de_var 3) da_nil)))))))))))))))⟩
abbrev s__law_put_in : Stmt := (top 28)
theorem sc__law_put_in : FnScope ["pen", "doors", "door"] ["pen", "doors", "door"] (defScope s__law_put_in) := ⟨rfl, rfl, rfl, by decide +kernel, rfl, by decide +kernel, by decide +kernel⟩
theorem der__law_put_in {P : Program} {w : World} {K : PySem.W.Frag} {mg : Str → Option Value} {base : Heap} {tb : Tb} {f : Addr} {cdv : Value} {A : Around} {outer : List Env} {s : Shared} {H : Hp} {E : XK} {k : Nat}
    {φ__law_take : SpD} {k__law_take : Nat} (c__law_take : Cal P w K mg base tb "_law_take" k__law_take φ__law_take) (bl_len : Bl mg "len" (.builtin "len")) (l__law_take : k__law_take ≤ k)
    (hr : Room k (A.deeper (envOfC "_law_put_in" (defScope s__law_put_in) s.heap.objs.size f cdv))) :
    ∃ Sw, DSs (cxOf (L2.CX P w) P w K mg base ["pen", "doors", "door"] "_law_put_in" (defScope s__law_put_in) f cdv A outer s H E) tb (defBody s__law_put_in) Sw (b__law_put_in φ__law_take) :=
  have nd := sc__law_put_in.nd
  have hu := room8 hr
  ⟨_, (dss_one (ds_if (dt_cmp (op_ninAll hu) ok_nin (de_var 2) (de_var 1)) (dss_one (ds_expr (de_insert (de_var 1) (dd_cons (de_call [true, false] c__law_take (hr.mono l__law_take) (da_cons (de_var 0) (da_cons (de_bin op_addAll ok_add (de_len bl_len (de_var 1)) de_int) da_nil))) (dd_cons (de_var 2) dd_nil))))) dss_nil))⟩
abbrev s__law_some_stills : Stmt := (top 29)
theorem sc__law_some_stills : FnScope ["pen", "rooms", "doors", "upward", "turn", "order", "k", "one", "two"] ["pen", "rooms", "doors"] (defScope s__law_some_stills) := ⟨rfl, rfl, rfl, by decide +kernel, rfl, by decide +kernel, by decide +kernel⟩
theorem der__law_some_stills {P : Program} {w : World} {K : PySem.W.Frag} {mg : Str → Option Value} {base : Heap} {tb : Tb} {f : Addr} {cdv : Value} {A : Around} {outer : List Env} {s : Shared} {H : Hp} {E : XK} {k : Nat}
    {φ__law_take : SpD} {k__law_take : Nat} {φ__law_put_in : SpD} {k__law_put_in : Nat} (c__law_take : Cal P w K mg base tb "_law_take" k__law_take φ__law_take) (bl_len : Bl mg "len" (.builtin "len")) (bl_range : Bl mg "range" (.type "range")) (c__law_put_in : Cal P w K mg base tb "_law_put_in" k__law_put_in φ__law_put_in) (bl_min : Bl mg "min" (.builtin "min")) (bl_max : Bl mg "max" (.builtin "max")) (l__law_take : k__law_take ≤ k) (l__law_put_in : k__law_put_in ≤ k)
    (hr : Room k (A.deeper (envOfC "_law_some_stills" (defScope s__law_some_stills) s.heap.objs.size f cdv))) :
    ∃ Sw, DSs (cxOf (L2.CX P w) P w K mg base ["pen", "rooms", "doors", "upward", "turn", "order", "k", "one", "two"] "_law_some_stills" (defScope s__law_some_stills) f cdv A outer s H E) tb (defBody s__law_some_stills) Sw (b__law_some_stills φ__law_take φ__law_put_in) :=
  have nd := sc__law_some_stills.nd
  have hu := room8 hr
  ⟨_, (dss_cons (ds_set 3 nd (de_call [true, false] c__law_take (hr.mono l__law_take) (da_cons (de_var 0) (da_cons de_int da_nil)))) (dss_cons (ds_set 4 nd (de_call [true, false] c__law_take (hr.mono l__law_take) (da_cons (de_var 0) (da_cons (de_len bl_len (de_var 1)) da_nil)))) (dss_cons (ds_set 5 nd (de_bin op_addAll ok_add (de_cut (de_var 1) (do_some (de_var 4)) do_none) (de_cut (de_var 1) do_none (do_some (de_var 4))))) (dss_cons (ds_for passes_cx (di_range bl_range (de_call [true, false] c__law_take (hr.mono l__law_take) (da_cons (de_var 0) (da_cons de_int da_nil)))) (dg_name 6 nd) (dss_cons (ds_set 7 nd (de_call [true, false] c__law_take (hr.mono l__law_take) (da_cons (de_var 0) (da_cons (de_len bl_len (de_var 1)) da_nil)))) (dss_cons (ds_set 8 nd (de_call [true, false] c__law_take (hr.mono l__law_take) (da_cons (de_var 0) (da_cons (de_len bl_len (de_var 1)) da_nil)))) (dss_one (ds_if (dt_cmp (eq8 hu) ok_eq (de_var 3) de_int) (dss_one (ds_expr (de_call [true, true, true] c__law_put_in (hr.mono l__law_put_in) (da_cons (de_var 0) (da_cons (de_var 2) (da_cons (de_tup (dd_cons (de_ix hu (de_var 5) (de_var 7)) (dd_cons (de_tup (dd_cons (de_str [115, 116, 105, 108, 108]) dd_nil)) (dd_cons (de_ix hu (de_var 5) (de_var 8)) dd_nil)))) da_nil)))))) (dss_one (ds_if (dt_cmp (ne8 hu) ok_ne (de_var 7) (de_var 8)) (dss_one (ds_expr (de_call [true, true, true] c__law_put_in (hr.mono l__law_put_in) (da_cons (de_var 0) (da_cons (de_var 2) (da_cons (de_tup (dd_cons (de_ix hu (de_var 5) (de_min2 bl_min (de_var 7) (de_var 8))) (dd_cons (de_tup (dd_cons (de_str [115, 116, 105, 108, 108]) dd_nil)) (dd_cons (de_ix hu (de_var 5) (de_max2 bl_max (de_var 7) (de_var 8))) dd_nil)))) da_nil)))))) dss_nil))))))) (dss_one (ds_if (dt_cmp (eq8 hu) ok_eq (de_call [true, false] c__law_take (hr.mono l__law_take) (da_cons (de_var 0) (da_cons de_int da_nil))) de_int) (dss_cons (ds_set 7 nd (de_call [true, false] c__law_take (hr.mono l__law_take) (da_cons (de_var 0) (da_cons (de_len bl_len (de_var 1)) da_nil)))) (dss_one (ds_expr (de_call [true, true, true] c__law_put_in (hr.mono l__law_put_in) (da_cons (de_var 0) (da_cons (de_var 2) (da_cons (de_tup (dd_cons (de_ix hu (de_var 5) (de_var 7)) (dd_cons (de_tup (dd_cons (de_str [115, 116, 105, 108, 108]) dd_nil)) (dd_cons (de_ix hu (de_var 5) (de_call [true, false] c__law_take (hr.mono l__law_take) (da_cons (de_var 0) (da_cons (de_len bl_len (de_var 1)) da_nil)))) dd_nil)))) da_nil))))))) dss_nil))))))⟩
abbrev s__law_chain : Stmt := (top 30)
theorem sc__law_chain : FnScope ["pen", "many", "letters", "rooms", "turn", "doors", "k", "number", "one", "two"] ["pen"] (defScope s__law_chain) := ⟨rfl, rfl, rfl, by decide +kernel, rfl, by decide +kernel, by decide +kernel⟩
theorem der__law_chain {P : Program} {w : World} {K : PySem.W.Frag} {mg : Str → Option Value} {base : Heap} {tb : Tb} {f : Addr} {cdv : Value} {A : Around} {outer : List Env} {s : Shared} {H : Hp} {E : XK} {k : Nat}
    {φ__law_take : SpD} {k__law_take : Nat} {φ__law_letters : SpD} {k__law_letters : Nat} {φ__law_put_in : SpD} {k__law_put_in : Nat} (c__law_take : Cal P w K mg base tb "_law_take" k__law_take φ__law_take) (c__law_letters : Cal P w K mg base tb "_law_letters" k__law_letters φ__law_letters) (bl_range : Bl mg "range" (.type "range")) (bl_min : Bl mg "min" (.builtin "min")) (c__law_put_in : Cal P w K mg base tb "_law_put_in" k__law_put_in φ__law_put_in) (l__law_take : k__law_take ≤ k) (l__law_letters : k__law_letters ≤ k) (l__law_put_in : k__law_put_in ≤ k)
    (hr : Room k (A.deeper (envOfC "_law_chain" (defScope s__law_chain) s.heap.objs.size f cdv))) :
    ∃ Sw, DSs (cxOf (L2.CX P w) P w K mg base ["pen", "many", "letters", "rooms", "turn", "doors", "k", "number", "one", "two"] "_law_chain" (defScope s__law_chain) f cdv A outer s H E) tb (defBody s__law_chain) Sw (b__law_chain φ__law_take φ__law_letters φ__law_put_in) :=
  have nd := sc__law_chain.nd
  have hu := room8 hr
  ⟨_, (dss_cons (ds_set 1 nd (de_bin op_addAll ok_add de_int (de_call [true, false] c__law_take (hr.mono l__law_take) (da_cons (de_var 0) (da_cons de_int da_nil))))) (dss_cons (ds_set 2 nd (de_call0 c__law_letters (hr.mono l__law_letters))) (dss_cons (ds_setC 3 [("k", 6)] nd (di_range bl_range (de_var 1)) (fun _ _ _ _ _ => (dg_name 6 nd)) (fun _ _ _ _ _ => dts_nil) (fun _ _ _ _ _ => (de_bin op_addAll ok_add (de_ix hu (de_var 2) (de_bin op_fdiv ok_div (de_var 6) de_int)) (de_ix hu (de_var 2) (de_bin op_mod ok_mod (de_var 6) de_int))))) (dss_cons (ds_set 4 nd (de_call [true, false] c__law_take (hr.mono l__law_take) (da_cons (de_var 0) (da_cons (de_var 1) da_nil)))) (dss_cons (ds_set 5 nd (de_lst dd_nil)) (dss_cons (ds_for passes_cx (di_range bl_range (de_bin op_sub ok_sub (de_var 1) de_int)) (dg_name 6 nd) (dss_one (ds_expr (de_append (de_var 5) (dd_cons (de_tup (dd_cons (de_ix hu (de_var 3) (de_bin op_mod ok_mod (de_bin op_addAll ok_add (de_var 4) (de_var 6)) (de_var 1))) (dd_cons (de_tup (dd_cons (de_str [115, 116, 105, 108, 108]) dd_nil)) (dd_cons (de_ix hu (de_var 3) (de_bin op_mod ok_mod (de_bin op_addAll ok_add (de_bin op_addAll ok_add (de_var 4) (de_var 6)) de_int) (de_var 1))) dd_nil)))) dd_nil))))) (dss_cons (ds_set 7 nd de_non) (dss_cons (ds_if (dt_cmp (eq8 hu) ok_eq (de_call [true, false] c__law_take (hr.mono l__law_take) (da_cons (de_var 0) (da_cons de_int da_nil))) de_int) (dss_cons (ds_set 8 nd (de_call [true, false] c__law_take (hr.mono l__law_take) (da_cons (de_var 0) (da_cons (de_var 1) da_nil)))) (dss_cons (ds_set 9 nd (de_call [true, false] c__law_take (hr.mono l__law_take) (da_cons (de_var 0) (da_cons (de_var 1) da_nil)))) (dss_cons (ds_if (dt_cmp op_le ok_le (de_var 9) (de_var 8)) (dss_one (ds_set 7 nd (de_minL bl_min (de_comp [("k", 6)] nd (di_range2 bl_range (de_var 9) (de_bin op_addAll ok_add (de_var 8) de_int)) (fun _ _ _ _ _ => (dg_name 6 nd)) (fun _ _ _ _ _ => dts_nil) (fun _ _ _ _ _ => (de_bin op_mod ok_mod (de_bin op_addAll ok_add (de_var 4) (de_var 6)) (de_var 1))))))) dss_nil) (dss_one (ds_expr (de_call [true, true, true] c__law_put_in (hr.mono l__law_put_in) (da_cons (de_var 0) (da_cons (de_var 5) (da_cons (de_tup (dd_cons (de_ix hu (de_var 3) (de_bin op_mod ok_mod (de_bin op_addAll ok_add (de_var 4) (de_var 8)) (de_var 1))) (dd_cons (de_tup (dd_cons (de_str [115, 116, 105, 108, 108]) dd_nil)) (dd_cons (de_ix hu (de_var 3) (de_bin op_mod ok_mod (de_bin op_addAll ok_add (de_var 4) (de_var 9)) (de_var 1))) dd_nil)))) da_nil))))))))) dss_nil) (dss_one (ds_ret (de_tup (dd_cons (de_var 3) (dd_cons (de_var 5) (dd_cons (de_var 7) dd_nil))))))))))))))⟩
abbrev s_law : Stmt := (top 31)
theorem sc_law : FnScope ["script", "pen", "way", "asks", "says", "rooms", "doors", "number", "due", "door"] ["script"] (defScope s_law) := ⟨rfl, rfl, rfl, by decide +kernel, rfl, by decide +kernel, by decide +kernel⟩
theorem der_law {P : Program} {w : World} {K : PySem.W.Frag} {mg : Str → Option Value} {base : Heap} {tb : Tb} {f : Addr} {cdv : Value} {A : Around} {outer : List Env} {s : Shared} {H : Hp} {E : XK} {k : Nat}
    {φ__law_open : SpD} {k__law_open : Nat} {φ__law_take : SpD} {k__law_take : Nat} {φ__law_model : SpD} {k__law_model : Nat} {φ__law_chain : SpD} {k__law_chain : Nat} {φ__law_some_stills : SpD} {k__law_some_stills : Nat} {φ__law_round : SpD} {k__law_round : Nat} {φ__law_same : SpD} {k__law_same : Nat} {φ__law_told_of : SpD} {k__law_told_of : Nat} (c__law_open : Cal P w K mg base tb "_law_open" k__law_open φ__law_open) (c__law_take : Cal P w K mg base tb "_law_take" k__law_take φ__law_take) (c__law_model : Cal P w K mg base tb "_law_model" k__law_model φ__law_model) (c__law_chain : Cal P w K mg base tb "_law_chain" k__law_chain φ__law_chain) (c__law_some_stills : Cal P w K mg base tb "_law_some_stills" k__law_some_stills φ__law_some_stills) (c__law_round : Cal P w K mg base tb "_law_round" k__law_round φ__law_round) (c__law_same : Cal P w K mg base tb "_law_same" k__law_same φ__law_same) (c__law_told_of : Cal P w K mg base tb "_law_told_of" k__law_told_of φ__law_told_of) (l__law_open : k__law_open ≤ k) (l__law_take : k__law_take ≤ k) (l__law_model : k__law_model ≤ k) (l__law_chain : k__law_chain ≤ k) (l__law_some_stills : k__law_some_stills ≤ k) (l__law_round : k__law_round ≤ k) (l__law_same : k__law_same ≤ k) (l__law_told_of : k__law_told_of ≤ k)
    (hr : Room k (A.deeper (envOfC "law" (defScope s_law) s.heap.objs.size f cdv))) :
    ∃ Sw, DSs (cxOf (L2.CX P w) P w K mg base ["script", "pen", "way", "asks", "says", "rooms", "doors", "number", "due", "door"] "law" (defScope s_law) f cdv A outer s H E) tb (defBody s_law) Sw (b_law φ__law_open φ__law_take φ__law_model φ__law_chain φ__law_some_stills φ__law_round φ__law_same φ__law_told_of) :=
  have nd := sc_law.nd
  have hu := room8 hr
  ⟨_, (dss_cons (ds_set 1 nd (de_call [false] c__law_open (hr.mono l__law_open) (da_cons (de_var 0) da_nil))) (dss_cons (ds_set 2 nd (de_call [true, false] c__law_take (hr.mono l__law_take) (da_cons (de_var 1) (da_cons de_int da_nil)))) (dss_cons (ds_unp (dg_tup (dgs_cons (dg_name 3 nd) (dgs_cons (dg_name 4 nd) (dgs_cons (dg_name 5 nd) (dgs_cons (dg_name 6 nd) dgs_nil))))) (de_call [true, false, true] c__law_model (hr.mono l__law_model) (da_cons (de_var 1) (da_cons de_int (da_cons (de_call [true, false] c__law_take (hr.mono l__law_take) (da_cons (de_var 1) (da_cons de_int da_nil))) da_nil))))) (dss_cons (ds_setC 6 [("door", 9)] nd (di_seq (so_var 6 (de_var 6))) (fun _ _ _ _ _ => (dg_name 9 nd)) (fun _ _ _ _ _ => (dts_one (dt_cmp (ne8 hu) ok_ne (de_ix hu (de_var 9) de_int) (de_tup (dd_cons (de_str [115, 116, 105, 108, 108]) dd_nil))))) (fun _ _ _ _ _ => (de_var 9))) (dss_cons (ds_if (dt_cmp (eq8 hu) ok_eq (de_var 2) de_int) (dss_one (ds_unp (dg_tup (dgs_cons (dg_name 5 nd) (dgs_cons (dg_name 6 nd) (dgs_cons (dg_name 7 nd) dgs_nil)))) (de_call [true] c__law_chain (hr.mono l__law_chain) (da_cons (de_var 1) da_nil)))) (dss_cons (ds_expr (de_call [true, false, true] c__law_some_stills (hr.mono l__law_some_stills) (da_cons (de_var 1) (da_cons (de_var 5) (da_cons (de_var 6) da_nil))))) (dss_one (ds_set 7 nd (de_call [false, false] c__law_round (hr.mono l__law_round) (da_cons (de_var 5) (da_cons (de_var 6) da_nil))))))) (dss_cons (ds_set 8 nd (de_lst (dd_cons (de_var 3) (dd_cons (de_var 4) (dd_cons (de_var 5) (dd_cons (de_var 6) dd_nil)))))) (dss_cons (ds_if (dt_notN (de_var 7)) (dss_one (ds_set 8 nd (de_tup (dd_cons (de_str [115, 116, 105, 108, 108]) (dd_cons (de_var 7) dd_nil))))) dss_nil) (dss_one (ds_ret (de_call [false, false] c__law_same (hr.mono l__law_same) (da_cons (de_call [true, true, true, true] c__law_told_of (hr.mono l__law_told_of) (da_cons (de_var 3) (da_cons (de_var 4) (da_cons (de_var 5) (da_cons (de_var 6) da_nil))))) (da_cons (de_var 8) da_nil))))))))))))⟩
end Pd
set_option Elab.async false
set_option linter.all false
set_option maxRecDepth 100000
set_option maxHeartbeats 4000000
namespace Pd
open PySem PySem.Spec PyProof.Rows L2
def dd_is_name : He.DefD := ⟨("is_name", none), "is_name", "is_name", defArgs s_is_name, defBody s_is_name, defScope s_is_name, [], []⟩
def dd_need_names : He.DefD := ⟨("need_names", none), "need_names", "need_names", defArgs s_need_names, defBody s_need_names, defScope s_need_names, [], []⟩
abbrev s_NoMachine___init__ : Stmt := (inClass (top 3) 0)
def dd_NoMachine___init__ : He.DefD := ⟨("NoMachine", some "__init__"), "__init__", "NoMachine.__init__", defArgs s_NoMachine___init__, defBody s_NoMachine___init__, defScope s_NoMachine___init__, [], []⟩
def dd_is_sign_of : He.DefD := ⟨("is_sign_of", none), "is_sign_of", "is_sign_of", defArgs s_is_sign_of, defBody s_is_sign_of, defScope s_is_sign_of, [], []⟩
def dd_need_doors : He.DefD := ⟨("need_doors", none), "need_doors", "need_doors", defArgs s_need_doors, defBody s_need_doors, defScope s_need_doors, [], []⟩
def dd_Machine_comes_round : He.DefD := ⟨("Machine", some "comes_round"), "comes_round", "Machine.comes_round", defArgs s_Machine_comes_round, defBody s_Machine_comes_round, defScope s_Machine_comes_round, [], []⟩
def dd_Machine___init__ : He.DefD := ⟨("Machine", some "__init__"), "__init__", "Machine.__init__", defArgs s_Machine___init__, defBody s_Machine___init__, defScope s_Machine___init__, [], []⟩
def dd_Machine_asks : He.DefD := ⟨("Machine", some "asks"), "asks", "Machine.asks", defArgs s_Machine_asks, defBody s_Machine_asks, defScope s_Machine_asks, [], []⟩
def dd_Machine_says : He.DefD := ⟨("Machine", some "says"), "says", "Machine.says", defArgs s_Machine_says, defBody s_Machine_says, defScope s_Machine_says, [], []⟩
def dd_Machine_rooms : He.DefD := ⟨("Machine", some "rooms"), "rooms", "Machine.rooms", defArgs s_Machine_rooms, defBody s_Machine_rooms, defScope s_Machine_rooms, [], []⟩
def dd_Machine_doors : He.DefD := ⟨("Machine", some "doors"), "doors", "Machine.doors", defArgs s_Machine_doors, defBody s_Machine_doors, defScope s_Machine_doors, [], []⟩
def dd__law_letters : He.DefD := ⟨("_law_letters", none), "_law_letters", "_law_letters", defArgs s__law_letters, defBody s__law_letters, defScope s__law_letters, [], []⟩
def dd__law_spread : He.DefD := ⟨("_law_spread", none), "_law_spread", "_law_spread", defArgs s__law_spread, defBody s__law_spread, defScope s__law_spread, [], []⟩
def dd__law_open : He.DefD := ⟨("_law_open", none), "_law_open", "_law_open", defArgs s__law_open, defBody s__law_open, defScope s__law_open, [], []⟩
def dd__law_take : He.DefD := ⟨("_law_take", none), "_law_take", "_law_take", defArgs s__law_take, defBody s__law_take, defScope s__law_take, [], []⟩
def dd__law_names : He.DefD := ⟨("_law_names", none), "_law_names", "_law_names", defArgs s__law_names, defBody s__law_names, defScope s__law_names, [], []⟩
def dd__law_anew : He.DefD := ⟨("_law_anew", none), "_law_anew", "_law_anew", defArgs s__law_anew, defBody s__law_anew, defScope s__law_anew, [], []⟩
def dd__law_put : He.DefD := ⟨("_law_put", none), "_law_put", "_law_put", defArgs s__law_put, defBody s__law_put, defScope s__law_put, [], []⟩
def dd__law_draw_doors : He.DefD := ⟨("_law_draw_doors", none), "_law_draw_doors", "_law_draw_doors", defArgs s__law_draw_doors, defBody s__law_draw_doors, defScope s__law_draw_doors, [], []⟩
def dd__law_model : He.DefD := ⟨("_law_model", none), "_law_model", "_law_model", defArgs s__law_model, defBody s__law_model, defScope s__law_model, [], []⟩
def dd__law_still_on : He.DefD := ⟨("_law_still_on", none), "_law_still_on", "_law_still_on", defArgs s__law_still_on, defBody s__law_still_on, defScope s__law_still_on, [], []⟩
def dd__law_round : He.DefD := ⟨("_law_round", none), "_law_round", "_law_round", defArgs s__law_round, defBody s__law_round, defScope s__law_round, [], []⟩
def dd__law_told_of : He.DefD := ⟨("_law_told_of", none), "_law_told_of", "_law_told_of", defArgs s__law_told_of, defBody s__law_told_of, defScope s__law_told_of, [], []⟩
def dd__law_same : He.DefD := ⟨("_law_same", none), "_law_same", "_law_same", defArgs s__law_same, defBody s__law_same, defScope s__law_same, [], []⟩
def dd__law_put_in : He.DefD := ⟨("_law_put_in", none), "_law_put_in", "_law_put_in", defArgs s__law_put_in, defBody s__law_put_in, defScope s__law_put_in, [], []⟩
def dd__law_some_stills : He.DefD := ⟨("_law_some_stills", none), "_law_some_stills", "_law_some_stills", defArgs s__law_some_stills, defBody s__law_some_stills, defScope s__law_some_stills, [], []⟩
def dd__law_chain : He.DefD := ⟨("_law_chain", none), "_law_chain", "_law_chain", defArgs s__law_chain, defBody s__law_chain, defScope s__law_chain, [], []⟩
def dd_law : He.DefD := ⟨("law", none), "law", "law", defArgs s_law, defBody s_law, defScope s_law, [], []⟩
def fnL : List He.DefD := [dd_is_name, dd_need_names, dd_NoMachine___init__, dd_is_sign_of, dd_need_doors, dd_Machine_comes_round, dd_Machine___init__, dd_Machine_asks, dd_Machine_says, dd_Machine_rooms, dd_Machine_doors, dd__law_letters, dd__law_spread, dd__law_open, dd__law_take, dd__law_names, dd__law_anew, dd__law_put, dd__law_draw_doors, dd__law_model, dd__law_still_on, dd__law_round, dd__law_told_of, dd__law_same, dd__law_put_in, dd__law_some_stills, dd__law_chain, dd_law]
def faL : List He.Fa := [.free "len", .str "LETTERS" "abcdefghijklmnopqrstuvwxyz", .free "all", .glo "is_name", .free "enumerate", .glo "TrialError", .glo "NoMachine", .glo "need_names", .glo "is_sign_of", .int "MOST_DOORS" 2000, .glo "need_doors", .cls "Machine", .noat "Machine" "leading", .meth "Machine" "comes_round", .int "MOST_WORDS" 4, .int "MOST_ROOMS" 150, .noat "Machine" "ask_words", .free "list", .noat "Machine" "say_words", .noat "Machine" "all_doors", .glo "Machine", .mkr "Machine", .meth "Machine" "asks", .meth "Machine" "says", .meth "Machine" "rooms", .meth "Machine" "doors", .glo "_law_letters", .glo "_law_spread", .glo "_law_open", .glo "_law_take", .free "range", .glo "_law_names", .glo "_law_anew", .glo "_law_put", .glo "_law_draw_doors", .glo "_law_model", .glo "_law_still_on", .glo "_law_round", .exm "NoMachine" "NoMachine" true, .exm "TrialError" "NoMachine" false, .glo "_law_told_of", .glo "_law_same", .free "isinstance", .free "bool", .free "str", .free "int", .free "tuple", .free "zip", .glo "_law_put_in", .free "min", .free "max", .glo "_law_some_stills", .glo "_law_chain", .glo "law"]
def fbL : List Fb := [.oex "NoMachine", .base "TrialError", .ini "NoMachine", .noat "NoMachine" "part", .noat "NoMachine" "number", .xf "NoMachine"]
def looseL : List PySem.Str := (["_wall", "TrialError", "NoMachine", "LETTERS", "MOST_WORDS", "MOST_ROOMS", "MOST_DOORS", "is_name", "need_names", "is_sign_of", "need_doors", "Machine", "_law_spread", "_law_open", "_law_anew", "_law_take", "_law_names", "_law_still_on", "_law_put", "_law_draw_doors", "_law_model", "_law_letters", "_law_round", "_law_told_of", "_law_same", "_law_put_in", "_law_some_stills", "_law_chain"] : List PySem.Str)
theorem sc_NoMachine___init__ : FnScope ["self", "part", "number"] ["self", "part", "number"] (defScope s_NoMachine___init__) := ⟨rfl, rfl, rfl, by decide +kernel, rfl, by decide +kernel, by decide +kernel⟩
theorem fx_NoMachine {P : Program} {w : World} {K : PySem.W.Frag} {mg : Str → Option Value} {base : Heap} {f C : Addr} {fd : FuncData} (F : Fun K "__init__" "NoMachine.__init__" s_NoMachine___init__ f fd) (T : OexC K C) (bb : BaseX K mg "TrialError") (h0 : PySem.W.findIn K (.ref C) "part" = some none) (h1 : PySem.W.findIn K (.ref C) "number" = some none) :
    FnOk P w K mg base (L2.CX P w) 1 f fd ["self", "part", "number"] (spX C ["part", "number"]) :=
  ok_init2 F sc_NoMachine___init__ T h0 h1 fun _ _ _ _ _ _ => pss_cons (ps_expr (pc_initB bb (by rfl) (by decide) (pa_cons (pv 0) (pa_cons pe_str pa_nil)) (by rfl) (by rfl) (by rfl))) (pss_cons (ps_ost (pv 0) (pv 1)) (pss_one (ps_ost (pv 0) (pv 2))))
theorem hl_is_name : ∀ ss g E Q, (d_is_name.wp) ss g E Q → ss.length = 1 := by
  rintro ss g E Q ⟨x, h, _⟩
  first
    | (rw [show ss = _ from h]; rfl)
    | (rw [show ss = _ from h.1]; rfl)
    | (obtain ⟨_, e, _⟩ := h; rw [show ss = _ from e]; rfl)
    | (obtain ⟨⟨_, e, _⟩, _⟩ := h; rw [show ss = _ from e]; rfl)
    | (obtain ⟨_, _, e, _⟩ := h; rw [show ss = _ from e]; rfl)
    | (obtain ⟨⟨_, _, e, _⟩, _⟩ := h; rw [show ss = _ from e]; rfl)
    | (obtain ⟨_, _, _, e, _⟩ := h; rw [show ss = _ from e]; rfl)
    | (obtain ⟨⟨_, _, _, e, _⟩, _⟩ := h; rw [show ss = _ from e]; rfl)
    | (obtain ⟨_, _, _, _, e, _⟩ := h; rw [show ss = _ from e]; rfl)
    | (obtain ⟨⟨_, _, _, _, e, _⟩, _⟩ := h; rw [show ss = _ from e]; rfl)
    | (obtain ⟨_, _, _, _, _, e, _⟩ := h; rw [show ss = _ from e]; rfl)
    | (obtain ⟨⟨_, _, _, _, _, e, _⟩, _⟩ := h; rw [show ss = _ from e]; rfl)
    | (obtain ⟨_, _, _, _, _, _, e, _⟩ := h; rw [show ss = _ from e]; rfl)
    | (obtain ⟨⟨_, _, _, _, _, _, e, _⟩, _⟩ := h; rw [show ss = _ from e]; rfl)
    | (obtain ⟨_, _, _, _, _, _, _, e, _⟩ := h; rw [show ss = _ from e]; rfl)
    | (obtain ⟨⟨_, _, _, _, _, _, _, e, _⟩, _⟩ := h; rw [show ss = _ from e]; rfl)
theorem hl_need_names : ∀ ss g E Q, (d_need.wp) ss g E Q → ss.length = 4 := by
  rintro ss g E Q ⟨x, h, _⟩
  first
    | (rw [show ss = _ from h]; rfl)
    | (rw [show ss = _ from h.1]; rfl)
    | (obtain ⟨_, e, _⟩ := h; rw [show ss = _ from e]; rfl)
    | (obtain ⟨⟨_, e, _⟩, _⟩ := h; rw [show ss = _ from e]; rfl)
    | (obtain ⟨_, _, e, _⟩ := h; rw [show ss = _ from e]; rfl)
    | (obtain ⟨⟨_, _, e, _⟩, _⟩ := h; rw [show ss = _ from e]; rfl)
    | (obtain ⟨_, _, _, e, _⟩ := h; rw [show ss = _ from e]; rfl)
    | (obtain ⟨⟨_, _, _, e, _⟩, _⟩ := h; rw [show ss = _ from e]; rfl)
    | (obtain ⟨_, _, _, _, e, _⟩ := h; rw [show ss = _ from e]; rfl)
    | (obtain ⟨⟨_, _, _, _, e, _⟩, _⟩ := h; rw [show ss = _ from e]; rfl)
    | (obtain ⟨_, _, _, _, _, e, _⟩ := h; rw [show ss = _ from e]; rfl)
    | (obtain ⟨⟨_, _, _, _, _, e, _⟩, _⟩ := h; rw [show ss = _ from e]; rfl)
    | (obtain ⟨_, _, _, _, _, _, e, _⟩ := h; rw [show ss = _ from e]; rfl)
    | (obtain ⟨⟨_, _, _, _, _, _, e, _⟩, _⟩ := h; rw [show ss = _ from e]; rfl)
    | (obtain ⟨_, _, _, _, _, _, _, e, _⟩ := h; rw [show ss = _ from e]; rfl)
    | (obtain ⟨⟨_, _, _, _, _, _, _, e, _⟩, _⟩ := h; rw [show ss = _ from e]; rfl)
theorem hl_is_sign_of : ∀ ss g E Q, (d_sign.wp) ss g E Q → ss.length = 3 := by
  rintro ss g E Q ⟨x, h, _⟩
  first
    | (rw [show ss = _ from h]; rfl)
    | (rw [show ss = _ from h.1]; rfl)
    | (obtain ⟨_, e, _⟩ := h; rw [show ss = _ from e]; rfl)
    | (obtain ⟨⟨_, e, _⟩, _⟩ := h; rw [show ss = _ from e]; rfl)
    | (obtain ⟨_, _, e, _⟩ := h; rw [show ss = _ from e]; rfl)
    | (obtain ⟨⟨_, _, e, _⟩, _⟩ := h; rw [show ss = _ from e]; rfl)
    | (obtain ⟨_, _, _, e, _⟩ := h; rw [show ss = _ from e]; rfl)
    | (obtain ⟨⟨_, _, _, e, _⟩, _⟩ := h; rw [show ss = _ from e]; rfl)
    | (obtain ⟨_, _, _, _, e, _⟩ := h; rw [show ss = _ from e]; rfl)
    | (obtain ⟨⟨_, _, _, _, e, _⟩, _⟩ := h; rw [show ss = _ from e]; rfl)
    | (obtain ⟨_, _, _, _, _, e, _⟩ := h; rw [show ss = _ from e]; rfl)
    | (obtain ⟨⟨_, _, _, _, _, e, _⟩, _⟩ := h; rw [show ss = _ from e]; rfl)
    | (obtain ⟨_, _, _, _, _, _, e, _⟩ := h; rw [show ss = _ from e]; rfl)
    | (obtain ⟨⟨_, _, _, _, _, _, e, _⟩, _⟩ := h; rw [show ss = _ from e]; rfl)
    | (obtain ⟨_, _, _, _, _, _, _, e, _⟩ := h; rw [show ss = _ from e]; rfl)
    | (obtain ⟨⟨_, _, _, _, _, _, _, e, _⟩, _⟩ := h; rw [show ss = _ from e]; rfl)
theorem hl_need_doors : ∀ ss g E Q, (d_needD.wp) ss g E Q → ss.length = 4 := by
  rintro ss g E Q ⟨x, h, _⟩
  first
    | (rw [show ss = _ from h]; rfl)
    | (rw [show ss = _ from h.1]; rfl)
    | (obtain ⟨_, e, _⟩ := h; rw [show ss = _ from e]; rfl)
    | (obtain ⟨⟨_, e, _⟩, _⟩ := h; rw [show ss = _ from e]; rfl)
    | (obtain ⟨_, _, e, _⟩ := h; rw [show ss = _ from e]; rfl)
    | (obtain ⟨⟨_, _, e, _⟩, _⟩ := h; rw [show ss = _ from e]; rfl)
    | (obtain ⟨_, _, _, e, _⟩ := h; rw [show ss = _ from e]; rfl)
    | (obtain ⟨⟨_, _, _, e, _⟩, _⟩ := h; rw [show ss = _ from e]; rfl)
    | (obtain ⟨_, _, _, _, e, _⟩ := h; rw [show ss = _ from e]; rfl)
    | (obtain ⟨⟨_, _, _, _, e, _⟩, _⟩ := h; rw [show ss = _ from e]; rfl)
    | (obtain ⟨_, _, _, _, _, e, _⟩ := h; rw [show ss = _ from e]; rfl)
    | (obtain ⟨⟨_, _, _, _, _, e, _⟩, _⟩ := h; rw [show ss = _ from e]; rfl)
    | (obtain ⟨_, _, _, _, _, _, e, _⟩ := h; rw [show ss = _ from e]; rfl)
    | (obtain ⟨⟨_, _, _, _, _, _, e, _⟩, _⟩ := h; rw [show ss = _ from e]; rfl)
    | (obtain ⟨_, _, _, _, _, _, _, e, _⟩ := h; rw [show ss = _ from e]; rfl)
    | (obtain ⟨⟨_, _, _, _, _, _, _, e, _⟩, _⟩ := h; rw [show ss = _ from e]; rfl)
theorem hl_round : ∀ ss g E Q, (d_round.wp) ss g E Q → ss.length = 2 := by
  rintro ss g E Q ⟨x, h, _⟩
  first
    | (rw [show ss = _ from h]; rfl)
    | (rw [show ss = _ from h.1]; rfl)
    | (obtain ⟨_, e, _⟩ := h; rw [show ss = _ from e]; rfl)
    | (obtain ⟨⟨_, e, _⟩, _⟩ := h; rw [show ss = _ from e]; rfl)
    | (obtain ⟨_, _, e, _⟩ := h; rw [show ss = _ from e]; rfl)
    | (obtain ⟨⟨_, _, e, _⟩, _⟩ := h; rw [show ss = _ from e]; rfl)
    | (obtain ⟨_, _, _, e, _⟩ := h; rw [show ss = _ from e]; rfl)
    | (obtain ⟨⟨_, _, _, e, _⟩, _⟩ := h; rw [show ss = _ from e]; rfl)
    | (obtain ⟨_, _, _, _, e, _⟩ := h; rw [show ss = _ from e]; rfl)
    | (obtain ⟨⟨_, _, _, _, e, _⟩, _⟩ := h; rw [show ss = _ from e]; rfl)
    | (obtain ⟨_, _, _, _, _, e, _⟩ := h; rw [show ss = _ from e]; rfl)
    | (obtain ⟨⟨_, _, _, _, _, e, _⟩, _⟩ := h; rw [show ss = _ from e]; rfl)
    | (obtain ⟨_, _, _, _, _, _, e, _⟩ := h; rw [show ss = _ from e]; rfl)
    | (obtain ⟨⟨_, _, _, _, _, _, e, _⟩, _⟩ := h; rw [show ss = _ from e]; rfl)
    | (obtain ⟨_, _, _, _, _, _, _, e, _⟩ := h; rw [show ss = _ from e]; rfl)
    | (obtain ⟨⟨_, _, _, _, _, _, _, e, _⟩, _⟩ := h; rw [show ss = _ from e]; rfl)
theorem hl_init : ∀ ss g E Q, (d_init.wp) ss g E Q → ss.length = 5 := by
  rintro ss g E Q ⟨x, h, _⟩
  first
    | (rw [show ss = _ from h]; rfl)
    | (rw [show ss = _ from h.1]; rfl)
    | (obtain ⟨_, e, _⟩ := h; rw [show ss = _ from e]; rfl)
    | (obtain ⟨⟨_, e, _⟩, _⟩ := h; rw [show ss = _ from e]; rfl)
    | (obtain ⟨_, _, e, _⟩ := h; rw [show ss = _ from e]; rfl)
    | (obtain ⟨⟨_, _, e, _⟩, _⟩ := h; rw [show ss = _ from e]; rfl)
    | (obtain ⟨_, _, _, e, _⟩ := h; rw [show ss = _ from e]; rfl)
    | (obtain ⟨⟨_, _, _, e, _⟩, _⟩ := h; rw [show ss = _ from e]; rfl)
    | (obtain ⟨_, _, _, _, e, _⟩ := h; rw [show ss = _ from e]; rfl)
    | (obtain ⟨⟨_, _, _, _, e, _⟩, _⟩ := h; rw [show ss = _ from e]; rfl)
    | (obtain ⟨_, _, _, _, _, e, _⟩ := h; rw [show ss = _ from e]; rfl)
    | (obtain ⟨⟨_, _, _, _, _, e, _⟩, _⟩ := h; rw [show ss = _ from e]; rfl)
    | (obtain ⟨_, _, _, _, _, _, e, _⟩ := h; rw [show ss = _ from e]; rfl)
    | (obtain ⟨⟨_, _, _, _, _, _, e, _⟩, _⟩ := h; rw [show ss = _ from e]; rfl)
    | (obtain ⟨_, _, _, _, _, _, _, e, _⟩ := h; rw [show ss = _ from e]; rfl)
    | (obtain ⟨⟨_, _, _, _, _, _, _, e, _⟩, _⟩ := h; rw [show ss = _ from e]; rfl)
theorem hl_asks : ∀ ss g E Q, (d_asksD.wp) ss g E Q → ss.length = 1 := by
  rintro ss g E Q ⟨x, h, _⟩
  first
    | (rw [show ss = _ from h]; rfl)
    | (rw [show ss = _ from h.1]; rfl)
    | (obtain ⟨_, e, _⟩ := h; rw [show ss = _ from e]; rfl)
    | (obtain ⟨⟨_, e, _⟩, _⟩ := h; rw [show ss = _ from e]; rfl)
    | (obtain ⟨_, _, e, _⟩ := h; rw [show ss = _ from e]; rfl)
    | (obtain ⟨⟨_, _, e, _⟩, _⟩ := h; rw [show ss = _ from e]; rfl)
    | (obtain ⟨_, _, _, e, _⟩ := h; rw [show ss = _ from e]; rfl)
    | (obtain ⟨⟨_, _, _, e, _⟩, _⟩ := h; rw [show ss = _ from e]; rfl)
    | (obtain ⟨_, _, _, _, e, _⟩ := h; rw [show ss = _ from e]; rfl)
    | (obtain ⟨⟨_, _, _, _, e, _⟩, _⟩ := h; rw [show ss = _ from e]; rfl)
    | (obtain ⟨_, _, _, _, _, e, _⟩ := h; rw [show ss = _ from e]; rfl)
    | (obtain ⟨⟨_, _, _, _, _, e, _⟩, _⟩ := h; rw [show ss = _ from e]; rfl)
    | (obtain ⟨_, _, _, _, _, _, e, _⟩ := h; rw [show ss = _ from e]; rfl)
    | (obtain ⟨⟨_, _, _, _, _, _, e, _⟩, _⟩ := h; rw [show ss = _ from e]; rfl)
    | (obtain ⟨_, _, _, _, _, _, _, e, _⟩ := h; rw [show ss = _ from e]; rfl)
    | (obtain ⟨⟨_, _, _, _, _, _, _, e, _⟩, _⟩ := h; rw [show ss = _ from e]; rfl)
theorem hl_says : ∀ ss g E Q, (d_saysD.wp) ss g E Q → ss.length = 1 := by
  rintro ss g E Q ⟨x, h, _⟩
  first
    | (rw [show ss = _ from h]; rfl)
    | (rw [show ss = _ from h.1]; rfl)
    | (obtain ⟨_, e, _⟩ := h; rw [show ss = _ from e]; rfl)
    | (obtain ⟨⟨_, e, _⟩, _⟩ := h; rw [show ss = _ from e]; rfl)
    | (obtain ⟨_, _, e, _⟩ := h; rw [show ss = _ from e]; rfl)
    | (obtain ⟨⟨_, _, e, _⟩, _⟩ := h; rw [show ss = _ from e]; rfl)
    | (obtain ⟨_, _, _, e, _⟩ := h; rw [show ss = _ from e]; rfl)
    | (obtain ⟨⟨_, _, _, e, _⟩, _⟩ := h; rw [show ss = _ from e]; rfl)
    | (obtain ⟨_, _, _, _, e, _⟩ := h; rw [show ss = _ from e]; rfl)
    | (obtain ⟨⟨_, _, _, _, e, _⟩, _⟩ := h; rw [show ss = _ from e]; rfl)
    | (obtain ⟨_, _, _, _, _, e, _⟩ := h; rw [show ss = _ from e]; rfl)
    | (obtain ⟨⟨_, _, _, _, _, e, _⟩, _⟩ := h; rw [show ss = _ from e]; rfl)
    | (obtain ⟨_, _, _, _, _, _, e, _⟩ := h; rw [show ss = _ from e]; rfl)
    | (obtain ⟨⟨_, _, _, _, _, _, e, _⟩, _⟩ := h; rw [show ss = _ from e]; rfl)
    | (obtain ⟨_, _, _, _, _, _, _, e, _⟩ := h; rw [show ss = _ from e]; rfl)
    | (obtain ⟨⟨_, _, _, _, _, _, _, e, _⟩, _⟩ := h; rw [show ss = _ from e]; rfl)
theorem hl_rooms : ∀ ss g E Q, (d_roomsD.wp) ss g E Q → ss.length = 1 := by
  rintro ss g E Q ⟨x, h, _⟩
  first
    | (rw [show ss = _ from h]; rfl)
    | (rw [show ss = _ from h.1]; rfl)
    | (obtain ⟨_, e, _⟩ := h; rw [show ss = _ from e]; rfl)
    | (obtain ⟨⟨_, e, _⟩, _⟩ := h; rw [show ss = _ from e]; rfl)
    | (obtain ⟨_, _, e, _⟩ := h; rw [show ss = _ from e]; rfl)
    | (obtain ⟨⟨_, _, e, _⟩, _⟩ := h; rw [show ss = _ from e]; rfl)
    | (obtain ⟨_, _, _, e, _⟩ := h; rw [show ss = _ from e]; rfl)
    | (obtain ⟨⟨_, _, _, e, _⟩, _⟩ := h; rw [show ss = _ from e]; rfl)
    | (obtain ⟨_, _, _, _, e, _⟩ := h; rw [show ss = _ from e]; rfl)
    | (obtain ⟨⟨_, _, _, _, e, _⟩, _⟩ := h; rw [show ss = _ from e]; rfl)
    | (obtain ⟨_, _, _, _, _, e, _⟩ := h; rw [show ss = _ from e]; rfl)
    | (obtain ⟨⟨_, _, _, _, _, e, _⟩, _⟩ := h; rw [show ss = _ from e]; rfl)
    | (obtain ⟨_, _, _, _, _, _, e, _⟩ := h; rw [show ss = _ from e]; rfl)
    | (obtain ⟨⟨_, _, _, _, _, _, e, _⟩, _⟩ := h; rw [show ss = _ from e]; rfl)
    | (obtain ⟨_, _, _, _, _, _, _, e, _⟩ := h; rw [show ss = _ from e]; rfl)
    | (obtain ⟨⟨_, _, _, _, _, _, _, e, _⟩, _⟩ := h; rw [show ss = _ from e]; rfl)
theorem hl_doors : ∀ ss g E Q, (d_doorsD.wp) ss g E Q → ss.length = 1 := by
  rintro ss g E Q ⟨x, h, _⟩
  first
    | (rw [show ss = _ from h]; rfl)
    | (rw [show ss = _ from h.1]; rfl)
    | (obtain ⟨_, e, _⟩ := h; rw [show ss = _ from e]; rfl)
    | (obtain ⟨⟨_, e, _⟩, _⟩ := h; rw [show ss = _ from e]; rfl)
    | (obtain ⟨_, _, e, _⟩ := h; rw [show ss = _ from e]; rfl)
    | (obtain ⟨⟨_, _, e, _⟩, _⟩ := h; rw [show ss = _ from e]; rfl)
    | (obtain ⟨_, _, _, e, _⟩ := h; rw [show ss = _ from e]; rfl)
    | (obtain ⟨⟨_, _, _, e, _⟩, _⟩ := h; rw [show ss = _ from e]; rfl)
    | (obtain ⟨_, _, _, _, e, _⟩ := h; rw [show ss = _ from e]; rfl)
    | (obtain ⟨⟨_, _, _, _, e, _⟩, _⟩ := h; rw [show ss = _ from e]; rfl)
    | (obtain ⟨_, _, _, _, _, e, _⟩ := h; rw [show ss = _ from e]; rfl)
    | (obtain ⟨⟨_, _, _, _, _, e, _⟩, _⟩ := h; rw [show ss = _ from e]; rfl)
    | (obtain ⟨_, _, _, _, _, _, e, _⟩ := h; rw [show ss = _ from e]; rfl)
    | (obtain ⟨⟨_, _, _, _, _, _, e, _⟩, _⟩ := h; rw [show ss = _ from e]; rfl)
    | (obtain ⟨_, _, _, _, _, _, _, e, _⟩ := h; rw [show ss = _ from e]; rfl)
    | (obtain ⟨⟨_, _, _, _, _, _, _, e, _⟩, _⟩ := h; rw [show ss = _ from e]; rfl)
theorem hl_letters : ∀ ss g E Q, (d_letters.wp) ss g E Q → ss.length = 0 := by
  rintro ss g E Q ⟨x, h, _⟩
  first
    | (rw [show ss = _ from h]; rfl)
    | (rw [show ss = _ from h.1]; rfl)
    | (obtain ⟨_, e, _⟩ := h; rw [show ss = _ from e]; rfl)
    | (obtain ⟨⟨_, e, _⟩, _⟩ := h; rw [show ss = _ from e]; rfl)
    | (obtain ⟨_, _, e, _⟩ := h; rw [show ss = _ from e]; rfl)
    | (obtain ⟨⟨_, _, e, _⟩, _⟩ := h; rw [show ss = _ from e]; rfl)
    | (obtain ⟨_, _, _, e, _⟩ := h; rw [show ss = _ from e]; rfl)
    | (obtain ⟨⟨_, _, _, e, _⟩, _⟩ := h; rw [show ss = _ from e]; rfl)
    | (obtain ⟨_, _, _, _, e, _⟩ := h; rw [show ss = _ from e]; rfl)
    | (obtain ⟨⟨_, _, _, _, e, _⟩, _⟩ := h; rw [show ss = _ from e]; rfl)
    | (obtain ⟨_, _, _, _, _, e, _⟩ := h; rw [show ss = _ from e]; rfl)
    | (obtain ⟨⟨_, _, _, _, _, e, _⟩, _⟩ := h; rw [show ss = _ from e]; rfl)
    | (obtain ⟨_, _, _, _, _, _, e, _⟩ := h; rw [show ss = _ from e]; rfl)
    | (obtain ⟨⟨_, _, _, _, _, _, e, _⟩, _⟩ := h; rw [show ss = _ from e]; rfl)
    | (obtain ⟨_, _, _, _, _, _, _, e, _⟩ := h; rw [show ss = _ from e]; rfl)
    | (obtain ⟨⟨_, _, _, _, _, _, _, e, _⟩, _⟩ := h; rw [show ss = _ from e]; rfl)
theorem hl_spread : ∀ ss g E Q, (d_spread.wp) ss g E Q → ss.length = 2 := by
  rintro ss g E Q ⟨x, h, _⟩
  first
    | (rw [show ss = _ from h]; rfl)
    | (rw [show ss = _ from h.1]; rfl)
    | (obtain ⟨_, e, _⟩ := h; rw [show ss = _ from e]; rfl)
    | (obtain ⟨⟨_, e, _⟩, _⟩ := h; rw [show ss = _ from e]; rfl)
    | (obtain ⟨_, _, e, _⟩ := h; rw [show ss = _ from e]; rfl)
    | (obtain ⟨⟨_, _, e, _⟩, _⟩ := h; rw [show ss = _ from e]; rfl)
    | (obtain ⟨_, _, _, e, _⟩ := h; rw [show ss = _ from e]; rfl)
    | (obtain ⟨⟨_, _, _, e, _⟩, _⟩ := h; rw [show ss = _ from e]; rfl)
    | (obtain ⟨_, _, _, _, e, _⟩ := h; rw [show ss = _ from e]; rfl)
    | (obtain ⟨⟨_, _, _, _, e, _⟩, _⟩ := h; rw [show ss = _ from e]; rfl)
    | (obtain ⟨_, _, _, _, _, e, _⟩ := h; rw [show ss = _ from e]; rfl)
    | (obtain ⟨⟨_, _, _, _, _, e, _⟩, _⟩ := h; rw [show ss = _ from e]; rfl)
    | (obtain ⟨_, _, _, _, _, _, e, _⟩ := h; rw [show ss = _ from e]; rfl)
    | (obtain ⟨⟨_, _, _, _, _, _, e, _⟩, _⟩ := h; rw [show ss = _ from e]; rfl)
    | (obtain ⟨_, _, _, _, _, _, _, e, _⟩ := h; rw [show ss = _ from e]; rfl)
    | (obtain ⟨⟨_, _, _, _, _, _, _, e, _⟩, _⟩ := h; rw [show ss = _ from e]; rfl)
theorem hl_open : ∀ ss g E Q, (d_open.wp) ss g E Q → ss.length = 1 := by
  rintro ss g E Q ⟨x, h, _⟩
  first
    | (rw [show ss = _ from h]; rfl)
    | (rw [show ss = _ from h.1]; rfl)
    | (obtain ⟨_, e, _⟩ := h; rw [show ss = _ from e]; rfl)
    | (obtain ⟨⟨_, e, _⟩, _⟩ := h; rw [show ss = _ from e]; rfl)
    | (obtain ⟨_, _, e, _⟩ := h; rw [show ss = _ from e]; rfl)
    | (obtain ⟨⟨_, _, e, _⟩, _⟩ := h; rw [show ss = _ from e]; rfl)
    | (obtain ⟨_, _, _, e, _⟩ := h; rw [show ss = _ from e]; rfl)
    | (obtain ⟨⟨_, _, _, e, _⟩, _⟩ := h; rw [show ss = _ from e]; rfl)
    | (obtain ⟨_, _, _, _, e, _⟩ := h; rw [show ss = _ from e]; rfl)
    | (obtain ⟨⟨_, _, _, _, e, _⟩, _⟩ := h; rw [show ss = _ from e]; rfl)
    | (obtain ⟨_, _, _, _, _, e, _⟩ := h; rw [show ss = _ from e]; rfl)
    | (obtain ⟨⟨_, _, _, _, _, e, _⟩, _⟩ := h; rw [show ss = _ from e]; rfl)
    | (obtain ⟨_, _, _, _, _, _, e, _⟩ := h; rw [show ss = _ from e]; rfl)
    | (obtain ⟨⟨_, _, _, _, _, _, e, _⟩, _⟩ := h; rw [show ss = _ from e]; rfl)
    | (obtain ⟨_, _, _, _, _, _, _, e, _⟩ := h; rw [show ss = _ from e]; rfl)
    | (obtain ⟨⟨_, _, _, _, _, _, _, e, _⟩, _⟩ := h; rw [show ss = _ from e]; rfl)
theorem hl_take : ∀ ss g E Q, (d_take.wp) ss g E Q → ss.length = 2 := by
  rintro ss g E Q ⟨x, h, _⟩
  first
    | (rw [show ss = _ from h]; rfl)
    | (rw [show ss = _ from h.1]; rfl)
    | (obtain ⟨_, e, _⟩ := h; rw [show ss = _ from e]; rfl)
    | (obtain ⟨⟨_, e, _⟩, _⟩ := h; rw [show ss = _ from e]; rfl)
    | (obtain ⟨_, _, e, _⟩ := h; rw [show ss = _ from e]; rfl)
    | (obtain ⟨⟨_, _, e, _⟩, _⟩ := h; rw [show ss = _ from e]; rfl)
    | (obtain ⟨_, _, _, e, _⟩ := h; rw [show ss = _ from e]; rfl)
    | (obtain ⟨⟨_, _, _, e, _⟩, _⟩ := h; rw [show ss = _ from e]; rfl)
    | (obtain ⟨_, _, _, _, e, _⟩ := h; rw [show ss = _ from e]; rfl)
    | (obtain ⟨⟨_, _, _, _, e, _⟩, _⟩ := h; rw [show ss = _ from e]; rfl)
    | (obtain ⟨_, _, _, _, _, e, _⟩ := h; rw [show ss = _ from e]; rfl)
    | (obtain ⟨⟨_, _, _, _, _, e, _⟩, _⟩ := h; rw [show ss = _ from e]; rfl)
    | (obtain ⟨_, _, _, _, _, _, e, _⟩ := h; rw [show ss = _ from e]; rfl)
    | (obtain ⟨⟨_, _, _, _, _, _, e, _⟩, _⟩ := h; rw [show ss = _ from e]; rfl)
    | (obtain ⟨_, _, _, _, _, _, _, e, _⟩ := h; rw [show ss = _ from e]; rfl)
    | (obtain ⟨⟨_, _, _, _, _, _, _, e, _⟩, _⟩ := h; rw [show ss = _ from e]; rfl)
theorem hl_names : ∀ ss g E Q, (d_names.wp) ss g E Q → ss.length = 2 := by
  rintro ss g E Q ⟨x, h, _⟩
  first
    | (rw [show ss = _ from h]; rfl)
    | (rw [show ss = _ from h.1]; rfl)
    | (obtain ⟨_, e, _⟩ := h; rw [show ss = _ from e]; rfl)
    | (obtain ⟨⟨_, e, _⟩, _⟩ := h; rw [show ss = _ from e]; rfl)
    | (obtain ⟨_, _, e, _⟩ := h; rw [show ss = _ from e]; rfl)
    | (obtain ⟨⟨_, _, e, _⟩, _⟩ := h; rw [show ss = _ from e]; rfl)
    | (obtain ⟨_, _, _, e, _⟩ := h; rw [show ss = _ from e]; rfl)
    | (obtain ⟨⟨_, _, _, e, _⟩, _⟩ := h; rw [show ss = _ from e]; rfl)
    | (obtain ⟨_, _, _, _, e, _⟩ := h; rw [show ss = _ from e]; rfl)
    | (obtain ⟨⟨_, _, _, _, e, _⟩, _⟩ := h; rw [show ss = _ from e]; rfl)
    | (obtain ⟨_, _, _, _, _, e, _⟩ := h; rw [show ss = _ from e]; rfl)
    | (obtain ⟨⟨_, _, _, _, _, e, _⟩, _⟩ := h; rw [show ss = _ from e]; rfl)
    | (obtain ⟨_, _, _, _, _, _, e, _⟩ := h; rw [show ss = _ from e]; rfl)
    | (obtain ⟨⟨_, _, _, _, _, _, e, _⟩, _⟩ := h; rw [show ss = _ from e]; rfl)
    | (obtain ⟨_, _, _, _, _, _, _, e, _⟩ := h; rw [show ss = _ from e]; rfl)
    | (obtain ⟨⟨_, _, _, _, _, _, _, e, _⟩, _⟩ := h; rw [show ss = _ from e]; rfl)
theorem hl_anew : ∀ ss g E Q, (d_anew.wp) ss g E Q → ss.length = 1 := by
  rintro ss g E Q ⟨x, h, _⟩
  first
    | (rw [show ss = _ from h]; rfl)
    | (rw [show ss = _ from h.1]; rfl)
    | (obtain ⟨_, e, _⟩ := h; rw [show ss = _ from e]; rfl)
    | (obtain ⟨⟨_, e, _⟩, _⟩ := h; rw [show ss = _ from e]; rfl)
    | (obtain ⟨_, _, e, _⟩ := h; rw [show ss = _ from e]; rfl)
    | (obtain ⟨⟨_, _, e, _⟩, _⟩ := h; rw [show ss = _ from e]; rfl)
    | (obtain ⟨_, _, _, e, _⟩ := h; rw [show ss = _ from e]; rfl)
    | (obtain ⟨⟨_, _, _, e, _⟩, _⟩ := h; rw [show ss = _ from e]; rfl)
    | (obtain ⟨_, _, _, _, e, _⟩ := h; rw [show ss = _ from e]; rfl)
    | (obtain ⟨⟨_, _, _, _, e, _⟩, _⟩ := h; rw [show ss = _ from e]; rfl)
    | (obtain ⟨_, _, _, _, _, e, _⟩ := h; rw [show ss = _ from e]; rfl)
    | (obtain ⟨⟨_, _, _, _, _, e, _⟩, _⟩ := h; rw [show ss = _ from e]; rfl)
    | (obtain ⟨_, _, _, _, _, _, e, _⟩ := h; rw [show ss = _ from e]; rfl)
    | (obtain ⟨⟨_, _, _, _, _, _, e, _⟩, _⟩ := h; rw [show ss = _ from e]; rfl)
    | (obtain ⟨_, _, _, _, _, _, _, e, _⟩ := h; rw [show ss = _ from e]; rfl)
    | (obtain ⟨⟨_, _, _, _, _, _, _, e, _⟩, _⟩ := h; rw [show ss = _ from e]; rfl)
theorem hl_put : ∀ ss g E Q, (d_put.wp) ss g E Q → ss.length = 2 := by
  rintro ss g E Q ⟨x, h, _⟩
  first
    | (rw [show ss = _ from h]; rfl)
    | (rw [show ss = _ from h.1]; rfl)
    | (obtain ⟨_, e, _⟩ := h; rw [show ss = _ from e]; rfl)
    | (obtain ⟨⟨_, e, _⟩, _⟩ := h; rw [show ss = _ from e]; rfl)
    | (obtain ⟨_, _, e, _⟩ := h; rw [show ss = _ from e]; rfl)
    | (obtain ⟨⟨_, _, e, _⟩, _⟩ := h; rw [show ss = _ from e]; rfl)
    | (obtain ⟨_, _, _, e, _⟩ := h; rw [show ss = _ from e]; rfl)
    | (obtain ⟨⟨_, _, _, e, _⟩, _⟩ := h; rw [show ss = _ from e]; rfl)
    | (obtain ⟨_, _, _, _, e, _⟩ := h; rw [show ss = _ from e]; rfl)
    | (obtain ⟨⟨_, _, _, _, e, _⟩, _⟩ := h; rw [show ss = _ from e]; rfl)
    | (obtain ⟨_, _, _, _, _, e, _⟩ := h; rw [show ss = _ from e]; rfl)
    | (obtain ⟨⟨_, _, _, _, _, e, _⟩, _⟩ := h; rw [show ss = _ from e]; rfl)
    | (obtain ⟨_, _, _, _, _, _, e, _⟩ := h; rw [show ss = _ from e]; rfl)
    | (obtain ⟨⟨_, _, _, _, _, _, e, _⟩, _⟩ := h; rw [show ss = _ from e]; rfl)
    | (obtain ⟨_, _, _, _, _, _, _, e, _⟩ := h; rw [show ss = _ from e]; rfl)
    | (obtain ⟨⟨_, _, _, _, _, _, _, e, _⟩, _⟩ := h; rw [show ss = _ from e]; rfl)
theorem hl_draw : ∀ ss g E Q, (d_draw.wp) ss g E Q → ss.length = 5 := by
  rintro ss g E Q ⟨x, h, _⟩
  first
    | (rw [show ss = _ from h]; rfl)
    | (rw [show ss = _ from h.1]; rfl)
    | (obtain ⟨_, e, _⟩ := h; rw [show ss = _ from e]; rfl)
    | (obtain ⟨⟨_, e, _⟩, _⟩ := h; rw [show ss = _ from e]; rfl)
    | (obtain ⟨_, _, e, _⟩ := h; rw [show ss = _ from e]; rfl)
    | (obtain ⟨⟨_, _, e, _⟩, _⟩ := h; rw [show ss = _ from e]; rfl)
    | (obtain ⟨_, _, _, e, _⟩ := h; rw [show ss = _ from e]; rfl)
    | (obtain ⟨⟨_, _, _, e, _⟩, _⟩ := h; rw [show ss = _ from e]; rfl)
    | (obtain ⟨_, _, _, _, e, _⟩ := h; rw [show ss = _ from e]; rfl)
    | (obtain ⟨⟨_, _, _, _, e, _⟩, _⟩ := h; rw [show ss = _ from e]; rfl)
    | (obtain ⟨_, _, _, _, _, e, _⟩ := h; rw [show ss = _ from e]; rfl)
    | (obtain ⟨⟨_, _, _, _, _, e, _⟩, _⟩ := h; rw [show ss = _ from e]; rfl)
    | (obtain ⟨_, _, _, _, _, _, e, _⟩ := h; rw [show ss = _ from e]; rfl)
    | (obtain ⟨⟨_, _, _, _, _, _, e, _⟩, _⟩ := h; rw [show ss = _ from e]; rfl)
    | (obtain ⟨_, _, _, _, _, _, _, e, _⟩ := h; rw [show ss = _ from e]; rfl)
    | (obtain ⟨⟨_, _, _, _, _, _, _, e, _⟩, _⟩ := h; rw [show ss = _ from e]; rfl)
theorem hl_model : ∀ ss g E Q, (d_model.wp) ss g E Q → ss.length = 3 := by
  rintro ss g E Q ⟨x, h, _⟩
  first
    | (rw [show ss = _ from h]; rfl)
    | (rw [show ss = _ from h.1]; rfl)
    | (obtain ⟨_, e, _⟩ := h; rw [show ss = _ from e]; rfl)
    | (obtain ⟨⟨_, e, _⟩, _⟩ := h; rw [show ss = _ from e]; rfl)
    | (obtain ⟨_, _, e, _⟩ := h; rw [show ss = _ from e]; rfl)
    | (obtain ⟨⟨_, _, e, _⟩, _⟩ := h; rw [show ss = _ from e]; rfl)
    | (obtain ⟨_, _, _, e, _⟩ := h; rw [show ss = _ from e]; rfl)
    | (obtain ⟨⟨_, _, _, e, _⟩, _⟩ := h; rw [show ss = _ from e]; rfl)
    | (obtain ⟨_, _, _, _, e, _⟩ := h; rw [show ss = _ from e]; rfl)
    | (obtain ⟨⟨_, _, _, _, e, _⟩, _⟩ := h; rw [show ss = _ from e]; rfl)
    | (obtain ⟨_, _, _, _, _, e, _⟩ := h; rw [show ss = _ from e]; rfl)
    | (obtain ⟨⟨_, _, _, _, _, e, _⟩, _⟩ := h; rw [show ss = _ from e]; rfl)
    | (obtain ⟨_, _, _, _, _, _, e, _⟩ := h; rw [show ss = _ from e]; rfl)
    | (obtain ⟨⟨_, _, _, _, _, _, e, _⟩, _⟩ := h; rw [show ss = _ from e]; rfl)
    | (obtain ⟨_, _, _, _, _, _, _, e, _⟩ := h; rw [show ss = _ from e]; rfl)
    | (obtain ⟨⟨_, _, _, _, _, _, _, e, _⟩, _⟩ := h; rw [show ss = _ from e]; rfl)
theorem hl_stillon : ∀ ss g E Q, (d_stillon.wp) ss g E Q → ss.length = 2 := by
  rintro ss g E Q ⟨x, h, _⟩
  first
    | (rw [show ss = _ from h]; rfl)
    | (rw [show ss = _ from h.1]; rfl)
    | (obtain ⟨_, e, _⟩ := h; rw [show ss = _ from e]; rfl)
    | (obtain ⟨⟨_, e, _⟩, _⟩ := h; rw [show ss = _ from e]; rfl)
    | (obtain ⟨_, _, e, _⟩ := h; rw [show ss = _ from e]; rfl)
    | (obtain ⟨⟨_, _, e, _⟩, _⟩ := h; rw [show ss = _ from e]; rfl)
    | (obtain ⟨_, _, _, e, _⟩ := h; rw [show ss = _ from e]; rfl)
    | (obtain ⟨⟨_, _, _, e, _⟩, _⟩ := h; rw [show ss = _ from e]; rfl)
    | (obtain ⟨_, _, _, _, e, _⟩ := h; rw [show ss = _ from e]; rfl)
    | (obtain ⟨⟨_, _, _, _, e, _⟩, _⟩ := h; rw [show ss = _ from e]; rfl)
    | (obtain ⟨_, _, _, _, _, e, _⟩ := h; rw [show ss = _ from e]; rfl)
    | (obtain ⟨⟨_, _, _, _, _, e, _⟩, _⟩ := h; rw [show ss = _ from e]; rfl)
    | (obtain ⟨_, _, _, _, _, _, e, _⟩ := h; rw [show ss = _ from e]; rfl)
    | (obtain ⟨⟨_, _, _, _, _, _, e, _⟩, _⟩ := h; rw [show ss = _ from e]; rfl)
    | (obtain ⟨_, _, _, _, _, _, _, e, _⟩ := h; rw [show ss = _ from e]; rfl)
    | (obtain ⟨⟨_, _, _, _, _, _, _, e, _⟩, _⟩ := h; rw [show ss = _ from e]; rfl)
theorem hl_rnd : ∀ ss g E Q, (d_rnd.wp) ss g E Q → ss.length = 2 := by
  rintro ss g E Q ⟨x, h, _⟩
  first
    | (rw [show ss = _ from h]; rfl)
    | (rw [show ss = _ from h.1]; rfl)
    | (obtain ⟨_, e, _⟩ := h; rw [show ss = _ from e]; rfl)
    | (obtain ⟨⟨_, e, _⟩, _⟩ := h; rw [show ss = _ from e]; rfl)
    | (obtain ⟨_, _, e, _⟩ := h; rw [show ss = _ from e]; rfl)
    | (obtain ⟨⟨_, _, e, _⟩, _⟩ := h; rw [show ss = _ from e]; rfl)
    | (obtain ⟨_, _, _, e, _⟩ := h; rw [show ss = _ from e]; rfl)
    | (obtain ⟨⟨_, _, _, e, _⟩, _⟩ := h; rw [show ss = _ from e]; rfl)
    | (obtain ⟨_, _, _, _, e, _⟩ := h; rw [show ss = _ from e]; rfl)
    | (obtain ⟨⟨_, _, _, _, e, _⟩, _⟩ := h; rw [show ss = _ from e]; rfl)
    | (obtain ⟨_, _, _, _, _, e, _⟩ := h; rw [show ss = _ from e]; rfl)
    | (obtain ⟨⟨_, _, _, _, _, e, _⟩, _⟩ := h; rw [show ss = _ from e]; rfl)
    | (obtain ⟨_, _, _, _, _, _, e, _⟩ := h; rw [show ss = _ from e]; rfl)
    | (obtain ⟨⟨_, _, _, _, _, _, e, _⟩, _⟩ := h; rw [show ss = _ from e]; rfl)
    | (obtain ⟨_, _, _, _, _, _, _, e, _⟩ := h; rw [show ss = _ from e]; rfl)
    | (obtain ⟨⟨_, _, _, _, _, _, _, e, _⟩, _⟩ := h; rw [show ss = _ from e]; rfl)
theorem hl_told : ∀ ss g E Q, (d_toldD.wp) ss g E Q → ss.length = 4 := by
  rintro ss g E Q ⟨x, h, _⟩
  first
    | (rw [show ss = _ from h]; rfl)
    | (rw [show ss = _ from h.1]; rfl)
    | (obtain ⟨_, e, _⟩ := h; rw [show ss = _ from e]; rfl)
    | (obtain ⟨⟨_, e, _⟩, _⟩ := h; rw [show ss = _ from e]; rfl)
    | (obtain ⟨_, _, e, _⟩ := h; rw [show ss = _ from e]; rfl)
    | (obtain ⟨⟨_, _, e, _⟩, _⟩ := h; rw [show ss = _ from e]; rfl)
    | (obtain ⟨_, _, _, e, _⟩ := h; rw [show ss = _ from e]; rfl)
    | (obtain ⟨⟨_, _, _, e, _⟩, _⟩ := h; rw [show ss = _ from e]; rfl)
    | (obtain ⟨_, _, _, _, e, _⟩ := h; rw [show ss = _ from e]; rfl)
    | (obtain ⟨⟨_, _, _, _, e, _⟩, _⟩ := h; rw [show ss = _ from e]; rfl)
    | (obtain ⟨_, _, _, _, _, e, _⟩ := h; rw [show ss = _ from e]; rfl)
    | (obtain ⟨⟨_, _, _, _, _, e, _⟩, _⟩ := h; rw [show ss = _ from e]; rfl)
    | (obtain ⟨_, _, _, _, _, _, e, _⟩ := h; rw [show ss = _ from e]; rfl)
    | (obtain ⟨⟨_, _, _, _, _, _, e, _⟩, _⟩ := h; rw [show ss = _ from e]; rfl)
    | (obtain ⟨_, _, _, _, _, _, _, e, _⟩ := h; rw [show ss = _ from e]; rfl)
    | (obtain ⟨⟨_, _, _, _, _, _, _, e, _⟩, _⟩ := h; rw [show ss = _ from e]; rfl)
theorem hl_same0 : ∀ ss g E Q, ((d_same 0).wp) ss g E Q → ss.length = 2 := by
  rintro ss g E Q ⟨x, h, _⟩
  first
    | (rw [show ss = _ from h]; rfl)
    | (rw [show ss = _ from h.1]; rfl)
    | (obtain ⟨_, e, _⟩ := h; rw [show ss = _ from e]; rfl)
    | (obtain ⟨⟨_, e, _⟩, _⟩ := h; rw [show ss = _ from e]; rfl)
    | (obtain ⟨_, _, e, _⟩ := h; rw [show ss = _ from e]; rfl)
    | (obtain ⟨⟨_, _, e, _⟩, _⟩ := h; rw [show ss = _ from e]; rfl)
    | (obtain ⟨_, _, _, e, _⟩ := h; rw [show ss = _ from e]; rfl)
    | (obtain ⟨⟨_, _, _, e, _⟩, _⟩ := h; rw [show ss = _ from e]; rfl)
    | (obtain ⟨_, _, _, _, e, _⟩ := h; rw [show ss = _ from e]; rfl)
    | (obtain ⟨⟨_, _, _, _, e, _⟩, _⟩ := h; rw [show ss = _ from e]; rfl)
    | (obtain ⟨_, _, _, _, _, e, _⟩ := h; rw [show ss = _ from e]; rfl)
    | (obtain ⟨⟨_, _, _, _, _, e, _⟩, _⟩ := h; rw [show ss = _ from e]; rfl)
    | (obtain ⟨_, _, _, _, _, _, e, _⟩ := h; rw [show ss = _ from e]; rfl)
    | (obtain ⟨⟨_, _, _, _, _, _, e, _⟩, _⟩ := h; rw [show ss = _ from e]; rfl)
    | (obtain ⟨_, _, _, _, _, _, _, e, _⟩ := h; rw [show ss = _ from e]; rfl)
    | (obtain ⟨⟨_, _, _, _, _, _, _, e, _⟩, _⟩ := h; rw [show ss = _ from e]; rfl)
theorem hl_same1 : ∀ ss g E Q, ((d_same 1).wp) ss g E Q → ss.length = 2 := by
  rintro ss g E Q ⟨x, h, _⟩
  first
    | (rw [show ss = _ from h]; rfl)
    | (rw [show ss = _ from h.1]; rfl)
    | (obtain ⟨_, e, _⟩ := h; rw [show ss = _ from e]; rfl)
    | (obtain ⟨⟨_, e, _⟩, _⟩ := h; rw [show ss = _ from e]; rfl)
    | (obtain ⟨_, _, e, _⟩ := h; rw [show ss = _ from e]; rfl)
    | (obtain ⟨⟨_, _, e, _⟩, _⟩ := h; rw [show ss = _ from e]; rfl)
    | (obtain ⟨_, _, _, e, _⟩ := h; rw [show ss = _ from e]; rfl)
    | (obtain ⟨⟨_, _, _, e, _⟩, _⟩ := h; rw [show ss = _ from e]; rfl)
    | (obtain ⟨_, _, _, _, e, _⟩ := h; rw [show ss = _ from e]; rfl)
    | (obtain ⟨⟨_, _, _, _, e, _⟩, _⟩ := h; rw [show ss = _ from e]; rfl)
    | (obtain ⟨_, _, _, _, _, e, _⟩ := h; rw [show ss = _ from e]; rfl)
    | (obtain ⟨⟨_, _, _, _, _, e, _⟩, _⟩ := h; rw [show ss = _ from e]; rfl)
    | (obtain ⟨_, _, _, _, _, _, e, _⟩ := h; rw [show ss = _ from e]; rfl)
    | (obtain ⟨⟨_, _, _, _, _, _, e, _⟩, _⟩ := h; rw [show ss = _ from e]; rfl)
    | (obtain ⟨_, _, _, _, _, _, _, e, _⟩ := h; rw [show ss = _ from e]; rfl)
    | (obtain ⟨⟨_, _, _, _, _, _, _, e, _⟩, _⟩ := h; rw [show ss = _ from e]; rfl)
theorem hl_same2 : ∀ ss g E Q, ((d_same 2).wp) ss g E Q → ss.length = 2 := by
  rintro ss g E Q ⟨x, h, _⟩
  first
    | (rw [show ss = _ from h]; rfl)
    | (rw [show ss = _ from h.1]; rfl)
    | (obtain ⟨_, e, _⟩ := h; rw [show ss = _ from e]; rfl)
    | (obtain ⟨⟨_, e, _⟩, _⟩ := h; rw [show ss = _ from e]; rfl)
    | (obtain ⟨_, _, e, _⟩ := h; rw [show ss = _ from e]; rfl)
    | (obtain ⟨⟨_, _, e, _⟩, _⟩ := h; rw [show ss = _ from e]; rfl)
    | (obtain ⟨_, _, _, e, _⟩ := h; rw [show ss = _ from e]; rfl)
    | (obtain ⟨⟨_, _, _, e, _⟩, _⟩ := h; rw [show ss = _ from e]; rfl)
    | (obtain ⟨_, _, _, _, e, _⟩ := h; rw [show ss = _ from e]; rfl)
    | (obtain ⟨⟨_, _, _, _, e, _⟩, _⟩ := h; rw [show ss = _ from e]; rfl)
    | (obtain ⟨_, _, _, _, _, e, _⟩ := h; rw [show ss = _ from e]; rfl)
    | (obtain ⟨⟨_, _, _, _, _, e, _⟩, _⟩ := h; rw [show ss = _ from e]; rfl)
    | (obtain ⟨_, _, _, _, _, _, e, _⟩ := h; rw [show ss = _ from e]; rfl)
    | (obtain ⟨⟨_, _, _, _, _, _, e, _⟩, _⟩ := h; rw [show ss = _ from e]; rfl)
    | (obtain ⟨_, _, _, _, _, _, _, e, _⟩ := h; rw [show ss = _ from e]; rfl)
    | (obtain ⟨⟨_, _, _, _, _, _, _, e, _⟩, _⟩ := h; rw [show ss = _ from e]; rfl)
theorem hl_same3 : ∀ ss g E Q, ((d_same 3).wp) ss g E Q → ss.length = 2 := by
  rintro ss g E Q ⟨x, h, _⟩
  first
    | (rw [show ss = _ from h]; rfl)
    | (rw [show ss = _ from h.1]; rfl)
    | (obtain ⟨_, e, _⟩ := h; rw [show ss = _ from e]; rfl)
    | (obtain ⟨⟨_, e, _⟩, _⟩ := h; rw [show ss = _ from e]; rfl)
    | (obtain ⟨_, _, e, _⟩ := h; rw [show ss = _ from e]; rfl)
    | (obtain ⟨⟨_, _, e, _⟩, _⟩ := h; rw [show ss = _ from e]; rfl)
    | (obtain ⟨_, _, _, e, _⟩ := h; rw [show ss = _ from e]; rfl)
    | (obtain ⟨⟨_, _, _, e, _⟩, _⟩ := h; rw [show ss = _ from e]; rfl)
    | (obtain ⟨_, _, _, _, e, _⟩ := h; rw [show ss = _ from e]; rfl)
    | (obtain ⟨⟨_, _, _, _, e, _⟩, _⟩ := h; rw [show ss = _ from e]; rfl)
    | (obtain ⟨_, _, _, _, _, e, _⟩ := h; rw [show ss = _ from e]; rfl)
    | (obtain ⟨⟨_, _, _, _, _, e, _⟩, _⟩ := h; rw [show ss = _ from e]; rfl)
    | (obtain ⟨_, _, _, _, _, _, e, _⟩ := h; rw [show ss = _ from e]; rfl)
    | (obtain ⟨⟨_, _, _, _, _, _, e, _⟩, _⟩ := h; rw [show ss = _ from e]; rfl)
    | (obtain ⟨_, _, _, _, _, _, _, e, _⟩ := h; rw [show ss = _ from e]; rfl)
    | (obtain ⟨⟨_, _, _, _, _, _, _, e, _⟩, _⟩ := h; rw [show ss = _ from e]; rfl)
theorem hl_same4 : ∀ ss g E Q, ((d_same 4).wp) ss g E Q → ss.length = 2 := by
  rintro ss g E Q ⟨x, h, _⟩
  first
    | (rw [show ss = _ from h]; rfl)
    | (rw [show ss = _ from h.1]; rfl)
    | (obtain ⟨_, e, _⟩ := h; rw [show ss = _ from e]; rfl)
    | (obtain ⟨⟨_, e, _⟩, _⟩ := h; rw [show ss = _ from e]; rfl)
    | (obtain ⟨_, _, e, _⟩ := h; rw [show ss = _ from e]; rfl)
    | (obtain ⟨⟨_, _, e, _⟩, _⟩ := h; rw [show ss = _ from e]; rfl)
    | (obtain ⟨_, _, _, e, _⟩ := h; rw [show ss = _ from e]; rfl)
    | (obtain ⟨⟨_, _, _, e, _⟩, _⟩ := h; rw [show ss = _ from e]; rfl)
    | (obtain ⟨_, _, _, _, e, _⟩ := h; rw [show ss = _ from e]; rfl)
    | (obtain ⟨⟨_, _, _, _, e, _⟩, _⟩ := h; rw [show ss = _ from e]; rfl)
    | (obtain ⟨_, _, _, _, _, e, _⟩ := h; rw [show ss = _ from e]; rfl)
    | (obtain ⟨⟨_, _, _, _, _, e, _⟩, _⟩ := h; rw [show ss = _ from e]; rfl)
    | (obtain ⟨_, _, _, _, _, _, e, _⟩ := h; rw [show ss = _ from e]; rfl)
    | (obtain ⟨⟨_, _, _, _, _, _, e, _⟩, _⟩ := h; rw [show ss = _ from e]; rfl)
    | (obtain ⟨_, _, _, _, _, _, _, e, _⟩ := h; rw [show ss = _ from e]; rfl)
    | (obtain ⟨⟨_, _, _, _, _, _, _, e, _⟩, _⟩ := h; rw [show ss = _ from e]; rfl)
theorem hl_same5 : ∀ ss g E Q, ((d_same 5).wp) ss g E Q → ss.length = 2 := by
  rintro ss g E Q ⟨x, h, _⟩
  first
    | (rw [show ss = _ from h]; rfl)
    | (rw [show ss = _ from h.1]; rfl)
    | (obtain ⟨_, e, _⟩ := h; rw [show ss = _ from e]; rfl)
    | (obtain ⟨⟨_, e, _⟩, _⟩ := h; rw [show ss = _ from e]; rfl)
    | (obtain ⟨_, _, e, _⟩ := h; rw [show ss = _ from e]; rfl)
    | (obtain ⟨⟨_, _, e, _⟩, _⟩ := h; rw [show ss = _ from e]; rfl)
    | (obtain ⟨_, _, _, e, _⟩ := h; rw [show ss = _ from e]; rfl)
    | (obtain ⟨⟨_, _, _, e, _⟩, _⟩ := h; rw [show ss = _ from e]; rfl)
    | (obtain ⟨_, _, _, _, e, _⟩ := h; rw [show ss = _ from e]; rfl)
    | (obtain ⟨⟨_, _, _, _, e, _⟩, _⟩ := h; rw [show ss = _ from e]; rfl)
    | (obtain ⟨_, _, _, _, _, e, _⟩ := h; rw [show ss = _ from e]; rfl)
    | (obtain ⟨⟨_, _, _, _, _, e, _⟩, _⟩ := h; rw [show ss = _ from e]; rfl)
    | (obtain ⟨_, _, _, _, _, _, e, _⟩ := h; rw [show ss = _ from e]; rfl)
    | (obtain ⟨⟨_, _, _, _, _, _, e, _⟩, _⟩ := h; rw [show ss = _ from e]; rfl)
    | (obtain ⟨_, _, _, _, _, _, _, e, _⟩ := h; rw [show ss = _ from e]; rfl)
    | (obtain ⟨⟨_, _, _, _, _, _, _, e, _⟩, _⟩ := h; rw [show ss = _ from e]; rfl)
theorem hl_same6 : ∀ ss g E Q, ((d_same 6).wp) ss g E Q → ss.length = 2 := by
  rintro ss g E Q ⟨x, h, _⟩
  first
    | (rw [show ss = _ from h]; rfl)
    | (rw [show ss = _ from h.1]; rfl)
    | (obtain ⟨_, e, _⟩ := h; rw [show ss = _ from e]; rfl)
    | (obtain ⟨⟨_, e, _⟩, _⟩ := h; rw [show ss = _ from e]; rfl)
    | (obtain ⟨_, _, e, _⟩ := h; rw [show ss = _ from e]; rfl)
    | (obtain ⟨⟨_, _, e, _⟩, _⟩ := h; rw [show ss = _ from e]; rfl)
    | (obtain ⟨_, _, _, e, _⟩ := h; rw [show ss = _ from e]; rfl)
    | (obtain ⟨⟨_, _, _, e, _⟩, _⟩ := h; rw [show ss = _ from e]; rfl)
    | (obtain ⟨_, _, _, _, e, _⟩ := h; rw [show ss = _ from e]; rfl)
    | (obtain ⟨⟨_, _, _, _, e, _⟩, _⟩ := h; rw [show ss = _ from e]; rfl)
    | (obtain ⟨_, _, _, _, _, e, _⟩ := h; rw [show ss = _ from e]; rfl)
    | (obtain ⟨⟨_, _, _, _, _, e, _⟩, _⟩ := h; rw [show ss = _ from e]; rfl)
    | (obtain ⟨_, _, _, _, _, _, e, _⟩ := h; rw [show ss = _ from e]; rfl)
    | (obtain ⟨⟨_, _, _, _, _, _, e, _⟩, _⟩ := h; rw [show ss = _ from e]; rfl)
    | (obtain ⟨_, _, _, _, _, _, _, e, _⟩ := h; rw [show ss = _ from e]; rfl)
    | (obtain ⟨⟨_, _, _, _, _, _, _, e, _⟩, _⟩ := h; rw [show ss = _ from e]; rfl)
theorem hl_putin : ∀ ss g E Q, (d_putin.wp) ss g E Q → ss.length = 3 := by
  rintro ss g E Q ⟨x, h, _⟩
  first
    | (rw [show ss = _ from h]; rfl)
    | (rw [show ss = _ from h.1]; rfl)
    | (obtain ⟨_, e, _⟩ := h; rw [show ss = _ from e]; rfl)
    | (obtain ⟨⟨_, e, _⟩, _⟩ := h; rw [show ss = _ from e]; rfl)
    | (obtain ⟨_, _, e, _⟩ := h; rw [show ss = _ from e]; rfl)
    | (obtain ⟨⟨_, _, e, _⟩, _⟩ := h; rw [show ss = _ from e]; rfl)
    | (obtain ⟨_, _, _, e, _⟩ := h; rw [show ss = _ from e]; rfl)
    | (obtain ⟨⟨_, _, _, e, _⟩, _⟩ := h; rw [show ss = _ from e]; rfl)
    | (obtain ⟨_, _, _, _, e, _⟩ := h; rw [show ss = _ from e]; rfl)
    | (obtain ⟨⟨_, _, _, _, e, _⟩, _⟩ := h; rw [show ss = _ from e]; rfl)
    | (obtain ⟨_, _, _, _, _, e, _⟩ := h; rw [show ss = _ from e]; rfl)
    | (obtain ⟨⟨_, _, _, _, _, e, _⟩, _⟩ := h; rw [show ss = _ from e]; rfl)
    | (obtain ⟨_, _, _, _, _, _, e, _⟩ := h; rw [show ss = _ from e]; rfl)
    | (obtain ⟨⟨_, _, _, _, _, _, e, _⟩, _⟩ := h; rw [show ss = _ from e]; rfl)
    | (obtain ⟨_, _, _, _, _, _, _, e, _⟩ := h; rw [show ss = _ from e]; rfl)
    | (obtain ⟨⟨_, _, _, _, _, _, _, e, _⟩, _⟩ := h; rw [show ss = _ from e]; rfl)
theorem hl_somestills : ∀ ss g E Q, (d_somestills.wp) ss g E Q → ss.length = 3 := by
  rintro ss g E Q ⟨x, h, _⟩
  first
    | (rw [show ss = _ from h]; rfl)
    | (rw [show ss = _ from h.1]; rfl)
    | (obtain ⟨_, e, _⟩ := h; rw [show ss = _ from e]; rfl)
    | (obtain ⟨⟨_, e, _⟩, _⟩ := h; rw [show ss = _ from e]; rfl)
    | (obtain ⟨_, _, e, _⟩ := h; rw [show ss = _ from e]; rfl)
    | (obtain ⟨⟨_, _, e, _⟩, _⟩ := h; rw [show ss = _ from e]; rfl)
    | (obtain ⟨_, _, _, e, _⟩ := h; rw [show ss = _ from e]; rfl)
    | (obtain ⟨⟨_, _, _, e, _⟩, _⟩ := h; rw [show ss = _ from e]; rfl)
    | (obtain ⟨_, _, _, _, e, _⟩ := h; rw [show ss = _ from e]; rfl)
    | (obtain ⟨⟨_, _, _, _, e, _⟩, _⟩ := h; rw [show ss = _ from e]; rfl)
    | (obtain ⟨_, _, _, _, _, e, _⟩ := h; rw [show ss = _ from e]; rfl)
    | (obtain ⟨⟨_, _, _, _, _, e, _⟩, _⟩ := h; rw [show ss = _ from e]; rfl)
    | (obtain ⟨_, _, _, _, _, _, e, _⟩ := h; rw [show ss = _ from e]; rfl)
    | (obtain ⟨⟨_, _, _, _, _, _, e, _⟩, _⟩ := h; rw [show ss = _ from e]; rfl)
    | (obtain ⟨_, _, _, _, _, _, _, e, _⟩ := h; rw [show ss = _ from e]; rfl)
    | (obtain ⟨⟨_, _, _, _, _, _, _, e, _⟩, _⟩ := h; rw [show ss = _ from e]; rfl)
theorem hl_chain : ∀ ss g E Q, (d_chain.wp) ss g E Q → ss.length = 1 := by
  rintro ss g E Q ⟨x, h, _⟩
  first
    | (rw [show ss = _ from h]; rfl)
    | (rw [show ss = _ from h.1]; rfl)
    | (obtain ⟨_, e, _⟩ := h; rw [show ss = _ from e]; rfl)
    | (obtain ⟨⟨_, e, _⟩, _⟩ := h; rw [show ss = _ from e]; rfl)
    | (obtain ⟨_, _, e, _⟩ := h; rw [show ss = _ from e]; rfl)
    | (obtain ⟨⟨_, _, e, _⟩, _⟩ := h; rw [show ss = _ from e]; rfl)
    | (obtain ⟨_, _, _, e, _⟩ := h; rw [show ss = _ from e]; rfl)
    | (obtain ⟨⟨_, _, _, e, _⟩, _⟩ := h; rw [show ss = _ from e]; rfl)
    | (obtain ⟨_, _, _, _, e, _⟩ := h; rw [show ss = _ from e]; rfl)
    | (obtain ⟨⟨_, _, _, _, e, _⟩, _⟩ := h; rw [show ss = _ from e]; rfl)
    | (obtain ⟨_, _, _, _, _, e, _⟩ := h; rw [show ss = _ from e]; rfl)
    | (obtain ⟨⟨_, _, _, _, _, e, _⟩, _⟩ := h; rw [show ss = _ from e]; rfl)
    | (obtain ⟨_, _, _, _, _, _, e, _⟩ := h; rw [show ss = _ from e]; rfl)
    | (obtain ⟨⟨_, _, _, _, _, _, e, _⟩, _⟩ := h; rw [show ss = _ from e]; rfl)
    | (obtain ⟨_, _, _, _, _, _, _, e, _⟩ := h; rw [show ss = _ from e]; rfl)
    | (obtain ⟨⟨_, _, _, _, _, _, _, e, _⟩, _⟩ := h; rw [show ss = _ from e]; rfl)
theorem hl_law : ∀ ss g E Q, (d_law.wp) ss g E Q → ss.length = 1 := by
  rintro ss g E Q ⟨x, h, _⟩
  first
    | (rw [show ss = _ from h]; rfl)
    | (rw [show ss = _ from h.1]; rfl)
    | (obtain ⟨_, e, _⟩ := h; rw [show ss = _ from e]; rfl)
    | (obtain ⟨⟨_, e, _⟩, _⟩ := h; rw [show ss = _ from e]; rfl)
    | (obtain ⟨_, _, e, _⟩ := h; rw [show ss = _ from e]; rfl)
    | (obtain ⟨⟨_, _, e, _⟩, _⟩ := h; rw [show ss = _ from e]; rfl)
    | (obtain ⟨_, _, _, e, _⟩ := h; rw [show ss = _ from e]; rfl)
    | (obtain ⟨⟨_, _, _, e, _⟩, _⟩ := h; rw [show ss = _ from e]; rfl)
    | (obtain ⟨_, _, _, _, e, _⟩ := h; rw [show ss = _ from e]; rfl)
    | (obtain ⟨⟨_, _, _, _, e, _⟩, _⟩ := h; rw [show ss = _ from e]; rfl)
    | (obtain ⟨_, _, _, _, _, e, _⟩ := h; rw [show ss = _ from e]; rfl)
    | (obtain ⟨⟨_, _, _, _, _, e, _⟩, _⟩ := h; rw [show ss = _ from e]; rfl)
    | (obtain ⟨_, _, _, _, _, _, e, _⟩ := h; rw [show ss = _ from e]; rfl)
    | (obtain ⟨⟨_, _, _, _, _, _, e, _⟩, _⟩ := h; rw [show ss = _ from e]; rfl)
    | (obtain ⟨_, _, _, _, _, _, _, e, _⟩ := h; rw [show ss = _ from e]; rfl)
    | (obtain ⟨⟨_, _, _, _, _, _, _, e, _⟩, _⟩ := h; rw [show ss = _ from e]; rfl)
theorem exm_case {K : PySem.W.Frag} {x y : Str} {b b2 : Bool} (c : (He.Fa.exm x y b).ok K = true) (e : b = b2) : (He.Fa.exm x y b2).ok K = true := e ▸ c
theorem facts {P : Program} {w : World} {K : PySem.W.Frag} {h : Heap} {mg : Str → Option Value} {f : Addr} (X : K.In h) (G : h.Ns mainGlobals mg) (hfa : mg ("law" : Str) = some (.ref f)) (c : SaysP faL fnL fbL K) :
    ∃ (fd : FuncData) (tb : Tb), (∀ (s : Shared) (u : Value), BindsTo s fd ⟨[u], []⟩ [("script", u)]) ∧ ∀ base : Heap, K.In base → base.Ns mainGlobals mg → FnOk P w K mg base (L2.CX P w) 8 f fd ["script"] (lift ⟨P, w, K, tb.cl⟩ tb.ec d_law.wp) := by
  have e := hfa.symm.trans (He.glo_ok X G (c.fa 53))
  cases e
  generalize etb : mkTb K ["Machine"] ["NoMachine", "TrialError"] = tb
  obtain ⟨fd_is_name, hF_is_name⟩ := c.d.def_ 0 (d := dd_is_name) rfl
  have F_is_name : Fun K "is_name" "is_name" s_is_name (He.ga K "is_name") fd_is_name := fun_D hF_is_name
  have B_is_name : Binds K fd_is_name ["word"] [] := F_is_name.binds fun _ _ _ _ _ _ us hl => match us, hl with | [_], _ => rfl
  have bl_len : Bl mg "len" (.builtin "len") := mk_bl X G (c.fa 0) (by rfl)
  have gl_LETTERS : GlV mg K "LETTERS" (.str [97, 98, 99, 100, 101, 102, 103, 104, 105, 106, 107, 108, 109, 110, 111, 112, 113, 114, 115, 116, 117, 118, 119, 120, 121, 122]) := mk_gstr X G (c.fa 1) (by decide +kernel) (by rfl)
  have bl_all : Bl mg "all" (.builtin "all") := mk_bl X G (c.fa 2) (by rfl)
  obtain ⟨fd_need_names, hF_need_names⟩ := c.d.def_ 1 (d := dd_need_names) rfl
  have F_need_names : Fun K "need_names" "need_names" s_need_names (He.ga K "need_names") fd_need_names := fun_D hF_need_names
  have B_need_names : Binds K fd_need_names ["part", "words", "most", "others"] [] := F_need_names.binds fun _ _ _ _ _ _ us hl => match us, hl with | [_, _, _, _], _ => rfl
  have bl_enumerate : Bl mg "enumerate" (.type "enumerate") := mk_bl X G (c.fa 4) (by rfl)
  obtain ⟨fd_NoMachine___init__, hF_NoMachine___init__⟩ := c.d.def_ 2 (d := dd_NoMachine___init__) rfl
  have F_NoMachine___init__ : Fun K "__init__" "NoMachine.__init__" s_NoMachine___init__ (He.ma K (He.ga K "NoMachine") "__init__") fd_NoMachine___init__ := fun_D hF_NoMachine___init__
  have B_NoMachine___init__ : Binds K fd_NoMachine___init__ ["self", "part", "number"] [] := F_NoMachine___init__.binds fun _ _ _ _ _ _ us hl => match us, hl with | [_, _, _], _ => rfl
  have T_NoMachine : OexC K (He.ga K "NoMachine") := mk_oex (c.fb 0)
  have bs_NoMachine : BaseX K mg "TrialError" := mk_base X G (c.fa 5) (c.fb 1)
  obtain ⟨fd_is_sign_of, hF_is_sign_of⟩ := c.d.def_ 3 (d := dd_is_sign_of) rfl
  have F_is_sign_of : Fun K "is_sign_of" "is_sign_of" s_is_sign_of (He.ga K "is_sign_of") fd_is_sign_of := fun_D hF_is_sign_of
  have B_is_sign_of : Binds K fd_is_sign_of ["sign", "asks", "says"] [] := F_is_sign_of.binds fun _ _ _ _ _ _ us hl => match us, hl with | [_, _, _], _ => rfl
  obtain ⟨fd_need_doors, hF_need_doors⟩ := c.d.def_ 4 (d := dd_need_doors) rfl
  have F_need_doors : Fun K "need_doors" "need_doors" s_need_doors (He.ga K "need_doors") fd_need_doors := fun_D hF_need_doors
  have B_need_doors : Binds K fd_need_doors ["doors", "asks", "says", "rooms"] [] := F_need_doors.binds fun _ _ _ _ _ _ us hl => match us, hl with | [_, _, _, _], _ => rfl
  have gl_MOST_DOORS : GlV mg K "MOST_DOORS" (.int 2000) := mk_gint X G (c.fa 9)
  obtain ⟨fd_Machine_comes_round, hF_Machine_comes_round⟩ := c.d.def_ 5 (d := dd_Machine_comes_round) rfl
  have F_Machine_comes_round : Fun K "comes_round" "Machine.comes_round" s_Machine_comes_round (He.ma K (He.ga K "Machine") "comes_round") fd_Machine_comes_round := fun_D hF_Machine_comes_round
  have B_Machine_comes_round : Binds K fd_Machine_comes_round ["self", "room"] [] := F_Machine_comes_round.binds fun _ _ _ _ _ _ us hl => match us, hl with | [_, _], _ => rfl
  have in_Machine_leading : InsOk K tb "Machine" "leading" := etb ▸ mk_ins (c.fa 11) (c.fa 12)
  obtain ⟨fd_Machine___init__, hF_Machine___init__⟩ := c.d.def_ 6 (d := dd_Machine___init__) rfl
  have F_Machine___init__ : Fun K "__init__" "Machine.__init__" s_Machine___init__ (He.ma K (He.ga K "Machine") "__init__") fd_Machine___init__ := fun_D hF_Machine___init__
  have B_Machine___init__ : Binds K fd_Machine___init__ ["self", "asks", "says", "rooms", "doors"] [] := F_Machine___init__.binds fun _ _ _ _ _ _ us hl => match us, hl with | [_, _, _, _, _], _ => rfl
  have gl_MOST_WORDS : GlV mg K "MOST_WORDS" (.int 4) := mk_gint X G (c.fa 14)
  have gl_MOST_ROOMS : GlV mg K "MOST_ROOMS" (.int 150) := mk_gint X G (c.fa 15)
  have in_Machine_ask_words : InsOk K tb "Machine" "ask_words" := etb ▸ mk_ins (c.fa 11) (c.fa 16)
  have bl_list : Bl mg "list" (.type "list") := mk_bl X G (c.fa 17) (by rfl)
  have in_Machine_say_words : InsOk K tb "Machine" "say_words" := etb ▸ mk_ins (c.fa 11) (c.fa 18)
  have in_Machine_all_doors : InsOk K tb "Machine" "all_doors" := etb ▸ mk_ins (c.fa 11) (c.fa 19)
  obtain ⟨fd_Machine_asks, hF_Machine_asks⟩ := c.d.def_ 7 (d := dd_Machine_asks) rfl
  have F_Machine_asks : Fun K "asks" "Machine.asks" s_Machine_asks (He.ma K (He.ga K "Machine") "asks") fd_Machine_asks := fun_D hF_Machine_asks
  have B_Machine_asks : Binds K fd_Machine_asks ["self"] [] := F_Machine_asks.binds fun _ _ _ _ _ _ us hl => match us, hl with | [_], _ => rfl
  obtain ⟨fd_Machine_says, hF_Machine_says⟩ := c.d.def_ 8 (d := dd_Machine_says) rfl
  have F_Machine_says : Fun K "says" "Machine.says" s_Machine_says (He.ma K (He.ga K "Machine") "says") fd_Machine_says := fun_D hF_Machine_says
  have B_Machine_says : Binds K fd_Machine_says ["self"] [] := F_Machine_says.binds fun _ _ _ _ _ _ us hl => match us, hl with | [_], _ => rfl
  obtain ⟨fd_Machine_rooms, hF_Machine_rooms⟩ := c.d.def_ 9 (d := dd_Machine_rooms) rfl
  have F_Machine_rooms : Fun K "rooms" "Machine.rooms" s_Machine_rooms (He.ma K (He.ga K "Machine") "rooms") fd_Machine_rooms := fun_D hF_Machine_rooms
  have B_Machine_rooms : Binds K fd_Machine_rooms ["self"] [] := F_Machine_rooms.binds fun _ _ _ _ _ _ us hl => match us, hl with | [_], _ => rfl
  obtain ⟨fd_Machine_doors, hF_Machine_doors⟩ := c.d.def_ 10 (d := dd_Machine_doors) rfl
  have F_Machine_doors : Fun K "doors" "Machine.doors" s_Machine_doors (He.ma K (He.ga K "Machine") "doors") fd_Machine_doors := fun_D hF_Machine_doors
  have B_Machine_doors : Binds K fd_Machine_doors ["self"] [] := F_Machine_doors.binds fun _ _ _ _ _ _ us hl => match us, hl with | [_], _ => rfl
  obtain ⟨fd__law_letters, hF__law_letters⟩ := c.d.def_ 11 (d := dd__law_letters) rfl
  have F__law_letters : Fun K "_law_letters" "_law_letters" s__law_letters (He.ga K "_law_letters") fd__law_letters := fun_D hF__law_letters
  have B__law_letters : Binds K fd__law_letters [] [] := F__law_letters.binds fun _ _ _ _ _ _ us hl => match us, hl with | [], _ => rfl
  obtain ⟨fd__law_spread, hF__law_spread⟩ := c.d.def_ 12 (d := dd__law_spread) rfl
  have F__law_spread : Fun K "_law_spread" "_law_spread" s__law_spread (He.ga K "_law_spread") fd__law_spread := fun_D hF__law_spread
  have B__law_spread : Binds K fd__law_spread ["cell", "at"] [] := F__law_spread.binds fun _ _ _ _ _ _ us hl => match us, hl with | [_, _], _ => rfl
  obtain ⟨fd__law_open, hF__law_open⟩ := c.d.def_ 13 (d := dd__law_open) rfl
  have F__law_open : Fun K "_law_open" "_law_open" s__law_open (He.ga K "_law_open") fd__law_open := fun_D hF__law_open
  have B__law_open : Binds K fd__law_open ["script"] [] := F__law_open.binds fun _ _ _ _ _ _ us hl => match us, hl with | [_], _ => rfl
  obtain ⟨fd__law_take, hF__law_take⟩ := c.d.def_ 14 (d := dd__law_take) rfl
  have F__law_take : Fun K "_law_take" "_law_take" s__law_take (He.ga K "_law_take") fd__law_take := fun_D hF__law_take
  have B__law_take : Binds K fd__law_take ["pen", "many"] [] := F__law_take.binds fun _ _ _ _ _ _ us hl => match us, hl with | [_, _], _ => rfl
  obtain ⟨fd__law_names, hF__law_names⟩ := c.d.def_ 15 (d := dd__law_names) rfl
  have F__law_names : Fun K "_law_names" "_law_names" s__law_names (He.ga K "_law_names") fd__law_names := fun_D hF__law_names
  have B__law_names : Binds K fd__law_names ["pen", "many"] [] := F__law_names.binds fun _ _ _ _ _ _ us hl => match us, hl with | [_, _], _ => rfl
  have bl_range : Bl mg "range" (.type "range") := mk_bl X G (c.fa 30) (by rfl)
  obtain ⟨fd__law_anew, hF__law_anew⟩ := c.d.def_ 16 (d := dd__law_anew) rfl
  have F__law_anew : Fun K "_law_anew" "_law_anew" s__law_anew (He.ga K "_law_anew") fd__law_anew := fun_D hF__law_anew
  have B__law_anew : Binds K fd__law_anew ["pen"] [] := F__law_anew.binds fun _ _ _ _ _ _ us hl => match us, hl with | [_], _ => rfl
  obtain ⟨fd__law_put, hF__law_put⟩ := c.d.def_ 17 (d := dd__law_put) rfl
  have F__law_put : Fun K "_law_put" "_law_put" s__law_put (He.ga K "_law_put") fd__law_put := fun_D hF__law_put
  have B__law_put : Binds K fd__law_put ["doors", "door"] [] := F__law_put.binds fun _ _ _ _ _ _ us hl => match us, hl with | [_, _], _ => rfl
  obtain ⟨fd__law_draw_doors, hF__law_draw_doors⟩ := c.d.def_ 18 (d := dd__law_draw_doors) rfl
  have F__law_draw_doors : Fun K "_law_draw_doors" "_law_draw_doors" s__law_draw_doors (He.ga K "_law_draw_doors") fd__law_draw_doors := fun_D hF__law_draw_doors
  have B__law_draw_doors : Binds K fd__law_draw_doors ["pen", "asks", "says", "rooms", "full"] [] := F__law_draw_doors.binds fun _ _ _ _ _ _ us hl => match us, hl with | [_, _, _, _, _], _ => rfl
  obtain ⟨fd__law_model, hF__law_model⟩ := c.d.def_ 19 (d := dd__law_model) rfl
  have F__law_model : Fun K "_law_model" "_law_model" s__law_model (He.ga K "_law_model") fd__law_model := fun_D hF__law_model
  have B__law_model : Binds K fd__law_model ["pen", "most", "full"] [] := F__law_model.binds fun _ _ _ _ _ _ us hl => match us, hl with | [_, _, _], _ => rfl
  obtain ⟨fd__law_still_on, hF__law_still_on⟩ := c.d.def_ 20 (d := dd__law_still_on) rfl
  have F__law_still_on : Fun K "_law_still_on" "_law_still_on" s__law_still_on (He.ga K "_law_still_on") fd__law_still_on := fun_D hF__law_still_on
  have B__law_still_on : Binds K fd__law_still_on ["doors", "rooms"] [] := F__law_still_on.binds fun _ _ _ _ _ _ us hl => match us, hl with | [_, _], _ => rfl
  obtain ⟨fd__law_round, hF__law_round⟩ := c.d.def_ 21 (d := dd__law_round) rfl
  have F__law_round : Fun K "_law_round" "_law_round" s__law_round (He.ga K "_law_round") fd__law_round := fun_D hF__law_round
  have B__law_round : Binds K fd__law_round ["rooms", "doors"] [] := F__law_round.binds fun _ _ _ _ _ _ us hl => match us, hl with | [_, _], _ => rfl
  obtain ⟨fd__law_told_of, hF__law_told_of⟩ := c.d.def_ 22 (d := dd__law_told_of) rfl
  have F__law_told_of : Fun K "_law_told_of" "_law_told_of" s__law_told_of (He.ga K "_law_told_of") fd__law_told_of := fun_D hF__law_told_of
  have B__law_told_of : Binds K fd__law_told_of ["asks", "says", "rooms", "doors"] [] := F__law_told_of.binds fun _ _ _ _ _ _ us hl => match us, hl with | [_, _, _, _], _ => rfl
  have e_NoMachine : ExM K mg tb "NoMachine" ["NoMachine"] := etb ▸ mk_exm X G (c.fa 6) (by
    intro s hs
    simp only [List.mem_cons, List.not_mem_nil, or_false] at hs
    rcases hs with rfl | rfl
    · exact exm_case (c.fa 38) (by decide)
    · exact exm_case (c.fa 39) (by decide))
  have xf_NoMachine_number : XFld K tb ["NoMachine"] "number" := etb ▸ mk_xf (c.fb 5) (c.fb 4)
  have xf_NoMachine_part : XFld K tb ["NoMachine"] "part" := etb ▸ mk_xf (c.fb 5) (c.fb 3)
  obtain ⟨fd__law_same, hF__law_same⟩ := c.d.def_ 23 (d := dd__law_same) rfl
  have F__law_same : Fun K "_law_same" "_law_same" s__law_same (He.ga K "_law_same") fd__law_same := fun_D hF__law_same
  have B__law_same : Binds K fd__law_same ["found", "due"] [] := F__law_same.binds fun _ _ _ _ _ _ us hl => match us, hl with | [_, _], _ => rfl
  have bl_isinstance : Bl mg "isinstance" (.builtin "isinstance") := mk_bl X G (c.fa 42) (by rfl)
  have bl_bool : Bl mg "bool" (.type "bool") := mk_bl X G (c.fa 43) (by rfl)
  have bl_str : Bl mg "str" (.type "str") := mk_bl X G (c.fa 44) (by rfl)
  have bl_int : Bl mg "int" (.type "int") := mk_bl X G (c.fa 45) (by rfl)
  have bl_tuple : Bl mg "tuple" (.type "tuple") := mk_bl X G (c.fa 46) (by rfl)
  have bl_zip : Bl mg "zip" (.type "zip") := mk_bl X G (c.fa 47) (by rfl)
  obtain ⟨fd__law_put_in, hF__law_put_in⟩ := c.d.def_ 24 (d := dd__law_put_in) rfl
  have F__law_put_in : Fun K "_law_put_in" "_law_put_in" s__law_put_in (He.ga K "_law_put_in") fd__law_put_in := fun_D hF__law_put_in
  have B__law_put_in : Binds K fd__law_put_in ["pen", "doors", "door"] [] := F__law_put_in.binds fun _ _ _ _ _ _ us hl => match us, hl with | [_, _, _], _ => rfl
  obtain ⟨fd__law_some_stills, hF__law_some_stills⟩ := c.d.def_ 25 (d := dd__law_some_stills) rfl
  have F__law_some_stills : Fun K "_law_some_stills" "_law_some_stills" s__law_some_stills (He.ga K "_law_some_stills") fd__law_some_stills := fun_D hF__law_some_stills
  have B__law_some_stills : Binds K fd__law_some_stills ["pen", "rooms", "doors"] [] := F__law_some_stills.binds fun _ _ _ _ _ _ us hl => match us, hl with | [_, _, _], _ => rfl
  have bl_min : Bl mg "min" (.builtin "min") := mk_bl X G (c.fa 49) (by rfl)
  have bl_max : Bl mg "max" (.builtin "max") := mk_bl X G (c.fa 50) (by rfl)
  obtain ⟨fd__law_chain, hF__law_chain⟩ := c.d.def_ 26 (d := dd__law_chain) rfl
  have F__law_chain : Fun K "_law_chain" "_law_chain" s__law_chain (He.ga K "_law_chain") fd__law_chain := fun_D hF__law_chain
  have B__law_chain : Binds K fd__law_chain ["pen"] [] := F__law_chain.binds fun _ _ _ _ _ _ us hl => match us, hl with | [_], _ => rfl
  obtain ⟨fd_law, hF_law⟩ := c.d.def_ 27 (d := dd_law) rfl
  have F_law : Fun K "law" "law" s_law (He.ga K "law") fd_law := fun_D hF_law
  have B_law : Binds K fd_law ["script"] [] := F_law.binds fun _ _ _ _ _ _ us hl => match us, hl with | [_], _ => rfl
  have bL := FunD.bindsA (ps := ["script"]) hF_law fun _ _ _ _ _ _ us hl => match us, hl with | [_], _ => rfl
  refine ⟨fd_law, tb, fun s v => bL s [v] rfl, fun base _ _ => ?_⟩
  subst etb
  have c_is_name : Cal P w K mg base (mkTb K ["Machine"] ["NoMachine", "TrialError"]) "is_name" 1 d_is_name.wp := mk_cal X G (c.fa 3) F_is_name.kp (fn_d (k := 0) F_is_name sc_is_name hl_is_name (fun _ _ _ _ _ _ hr => der_is_name (bl_len := bl_len) (gl_LETTERS := gl_LETTERS) (bl_all := bl_all) hr) k_is_name) B_is_name (Sg.mono _)
  have x_NoMachine : CalX P w K mg base (mkTb K ["Machine"] ["NoMachine", "TrialError"]) "NoMachine" "NoMachine" ["part", "number"] 1 := mk_calx X G (c.fa 6) (c.fb 2) T_NoMachine (fx_NoMachine F_NoMachine___init__ T_NoMachine bs_NoMachine (mk_noat (c.fb 3)) (mk_noat (c.fb 4))) B_NoMachine___init__ (by decide +kernel) (by decide)
  have c_need_names : Cal P w K mg base (mkTb K ["Machine"] ["NoMachine", "TrialError"]) "need_names" 3 d_need.wp := mk_cal X G (c.fa 7) F_need_names.kp (fn_d (k := 2) F_need_names sc_need_names hl_need_names (fun _ _ _ _ _ _ hr => der_need_names (x_NoMachine := x_NoMachine) (l_x_NoMachine := by decide) (bl_enumerate := bl_enumerate) (c_is_name := c_is_name) (l_is_name := by decide) (bl_len := bl_len) hr) k_need) B_need_names (Sg.mono _)
  have c_is_sign_of : Cal P w K mg base (mkTb K ["Machine"] ["NoMachine", "TrialError"]) "is_sign_of" 1 d_sign.wp := mk_cal X G (c.fa 8) F_is_sign_of.kp (fn_d (k := 0) F_is_sign_of sc_is_sign_of hl_is_sign_of (fun _ _ _ _ _ _ hr => der_is_sign_of (bl_len := bl_len) hr) k_sign) B_is_sign_of (Sg.mono _)
  have c_need_doors : Cal P w K mg base (mkTb K ["Machine"] ["NoMachine", "TrialError"]) "need_doors" 3 d_needD.wp := mk_cal X G (c.fa 10) F_need_doors.kp (fn_d (k := 2) F_need_doors sc_need_doors hl_need_doors (fun _ _ _ _ _ _ hr => der_need_doors (bl_enumerate := bl_enumerate) (gl_MOST_DOORS := gl_MOST_DOORS) (c_is_sign_of := c_is_sign_of) (l_is_sign_of := by decide) (x_NoMachine := x_NoMachine) (l_x_NoMachine := by decide) (bl_len := bl_len) hr) k_needD) B_need_doors (Sg.mono _)
  have m_round : CalM P w K mg base (mkTb K ["Machine"] ["NoMachine", "TrialError"]) "Machine" "comes_round" 1 d_round.wp := mk_calm (c.fa 11) (c.fa 13) (fn_d (k := 0) F_Machine_comes_round sc_Machine_comes_round hl_round (fun _ _ _ _ _ _ hr => der_Machine_comes_round (in_Machine_leading := in_Machine_leading) hr) k_round) B_Machine_comes_round (Sg.mono _) (by decide)
  have n_init : CalN P w K mg base (mkTb K ["Machine"] ["NoMachine", "TrialError"]) "Machine" "Machine" 4 d_init.wp := mk_caln X G (c.fa 20) (c.fa 21) (fn_d (k := 3) F_Machine___init__ sc_Machine___init__ hl_init (fun _ _ _ _ _ _ hr => der_Machine___init__ (c_need_names := c_need_names) (l_need_names := by decide) (gl_MOST_WORDS := gl_MOST_WORDS) (gl_MOST_ROOMS := gl_MOST_ROOMS) (in_Machine_ask_words := in_Machine_ask_words) (bl_list := bl_list) (in_Machine_say_words := in_Machine_say_words) (in_Machine_leading := in_Machine_leading) (c_need_doors := c_need_doors) (l_need_doors := by decide) (in_Machine_all_doors := in_Machine_all_doors) (bl_enumerate := bl_enumerate) (m_Machine_comes_round := m_round) (l_Machine_comes_round := by decide) (x_NoMachine := x_NoMachine) (l_x_NoMachine := by decide) hr) k_init) B_Machine___init__ (Sg.mono _) (by decide)
  have m_asks : CalM P w K mg base (mkTb K ["Machine"] ["NoMachine", "TrialError"]) "Machine" "asks" 1 d_asksD.wp := mk_calm (c.fa 11) (c.fa 22) (fn_d (k := 0) F_Machine_asks sc_Machine_asks hl_asks (fun _ _ _ _ _ _ hr => der_Machine_asks (in_Machine_ask_words := in_Machine_ask_words) (bl_list := bl_list) hr) k_asksD) B_Machine_asks (Sg.mono _) (by decide)
  have m_says : CalM P w K mg base (mkTb K ["Machine"] ["NoMachine", "TrialError"]) "Machine" "says" 1 d_saysD.wp := mk_calm (c.fa 11) (c.fa 23) (fn_d (k := 0) F_Machine_says sc_Machine_says hl_says (fun _ _ _ _ _ _ hr => der_Machine_says (in_Machine_say_words := in_Machine_say_words) (bl_list := bl_list) hr) k_saysD) B_Machine_says (Sg.mono _) (by decide)
  have m_rooms : CalM P w K mg base (mkTb K ["Machine"] ["NoMachine", "TrialError"]) "Machine" "rooms" 1 d_roomsD.wp := mk_calm (c.fa 11) (c.fa 24) (fn_d (k := 0) F_Machine_rooms sc_Machine_rooms hl_rooms (fun _ _ _ _ _ _ hr => der_Machine_rooms (in_Machine_leading := in_Machine_leading) (bl_list := bl_list) hr) k_roomsD) B_Machine_rooms (Sg.mono _) (by decide)
  have m_doors : CalM P w K mg base (mkTb K ["Machine"] ["NoMachine", "TrialError"]) "Machine" "doors" 1 d_doorsD.wp := mk_calm (c.fa 11) (c.fa 25) (fn_d (k := 0) F_Machine_doors sc_Machine_doors hl_doors (fun _ _ _ _ _ _ hr => der_Machine_doors (in_Machine_all_doors := in_Machine_all_doors) (bl_list := bl_list) hr) k_doorsD) B_Machine_doors (Sg.mono _) (by decide)
  have c_letters : Cal P w K mg base (mkTb K ["Machine"] ["NoMachine", "TrialError"]) "_law_letters" 1 d_letters.wp := mk_cal X G (c.fa 26) F__law_letters.kp (fn_d (k := 0) F__law_letters sc__law_letters hl_letters (fun _ _ _ _ _ _ hr => der__law_letters  hr) k_letters) B__law_letters (Sg.mono _)
  have c_spread : Cal P w K mg base (mkTb K ["Machine"] ["NoMachine", "TrialError"]) "_law_spread" 1 d_spread.wp := mk_cal X G (c.fa 27) F__law_spread.kp (fn_d (k := 0) F__law_spread sc__law_spread hl_spread (fun _ _ _ _ _ _ hr => der__law_spread  hr) k_spread) B__law_spread (Sg.mono _)
  have c_open : Cal P w K mg base (mkTb K ["Machine"] ["NoMachine", "TrialError"]) "_law_open" 1 d_open.wp := mk_cal X G (c.fa 28) F__law_open.kp (fn_d (k := 0) F__law_open sc__law_open hl_open (fun _ _ _ _ _ _ hr => der__law_open (bl_list := bl_list) (bl_enumerate := bl_enumerate) hr) k_open) B__law_open (Sg.mono _)
  have c_take : Cal P w K mg base (mkTb K ["Machine"] ["NoMachine", "TrialError"]) "_law_take" 2 d_take.wp := mk_cal X G (c.fa 29) F__law_take.kp (fn_d (k := 1) F__law_take sc__law_take hl_take (fun _ _ _ _ _ _ hr => der__law_take (bl_len := bl_len) (c__law_spread := c_spread) (l__law_spread := by decide) hr) k_take) B__law_take (Sg.mono _)
  have c_names : Cal P w K mg base (mkTb K ["Machine"] ["NoMachine", "TrialError"]) "_law_names" 3 d_names.wp := mk_cal X G (c.fa 31) F__law_names.kp (fn_d (k := 2) F__law_names sc__law_names hl_names (fun _ _ _ _ _ _ hr => der__law_names (bl_range := bl_range) (c__law_take := c_take) (l__law_take := by decide) (bl_len := bl_len) hr) k_names) B__law_names (Sg.mono _)
  have c_anew : Cal P w K mg base (mkTb K ["Machine"] ["NoMachine", "TrialError"]) "_law_anew" 1 d_anew.wp := mk_cal X G (c.fa 32) F__law_anew.kp (fn_d (k := 0) F__law_anew sc__law_anew hl_anew (fun _ _ _ _ _ _ hr => der__law_anew  hr) k_anew) B__law_anew (Sg.mono _)
  have c_put : Cal P w K mg base (mkTb K ["Machine"] ["NoMachine", "TrialError"]) "_law_put" 1 d_put.wp := mk_cal X G (c.fa 33) F__law_put.kp (fn_d (k := 0) F__law_put sc__law_put hl_put (fun _ _ _ _ _ _ hr => der__law_put  hr) k_put) B__law_put (Sg.mono _)
  have c_draw : Cal P w K mg base (mkTb K ["Machine"] ["NoMachine", "TrialError"]) "_law_draw_doors" 3 d_draw.wp := mk_cal X G (c.fa 34) F__law_draw_doors.kp (fn_d (k := 2) F__law_draw_doors sc__law_draw_doors hl_draw (fun _ _ _ _ _ _ hr => der__law_draw_doors (c__law_take := c_take) (l__law_take := by decide) (bl_enumerate := bl_enumerate) (bl_range := bl_range) (bl_len := bl_len) (c__law_put := c_put) (l__law_put := by decide) hr) k_draw) B__law_draw_doors (Sg.mono _)
  have c_model : Cal P w K mg base (mkTb K ["Machine"] ["NoMachine", "TrialError"]) "_law_model" 4 d_model.wp := mk_cal X G (c.fa 35) F__law_model.kp (fn_d (k := 3) F__law_model sc__law_model hl_model (fun _ _ _ _ _ _ hr => der__law_model (c__law_anew := c_anew) (l__law_anew := by decide) (c__law_names := c_names) (l__law_names := by decide) (c__law_take := c_take) (l__law_take := by decide) (c__law_draw_doors := c_draw) (l__law_draw_doors := by decide) hr) k_model) B__law_model (Sg.mono _)
  have c_stillon : Cal P w K mg base (mkTb K ["Machine"] ["NoMachine", "TrialError"]) "_law_still_on" 1 d_stillon.wp := mk_cal X G (c.fa 36) F__law_still_on.kp (fn_d (k := 0) F__law_still_on sc__law_still_on hl_stillon (fun _ _ _ _ _ _ hr => der__law_still_on (bl_list := bl_list) (bl_len := bl_len) hr) k_stillon) B__law_still_on (Sg.mono _)
  have c_rnd : Cal P w K mg base (mkTb K ["Machine"] ["NoMachine", "TrialError"]) "_law_round" 2 d_rnd.wp := mk_cal X G (c.fa 37) F__law_round.kp (fn_d (k := 1) F__law_round sc__law_round hl_rnd (fun _ _ _ _ _ _ hr => der__law_round (bl_enumerate := bl_enumerate) (c__law_still_on := c_stillon) (l__law_still_on := by decide) hr) k_rnd) B__law_round (Sg.mono _)
  have c_told : Cal P w K mg base (mkTb K ["Machine"] ["NoMachine", "TrialError"]) "_law_told_of" 6 d_toldD.wp := mk_cal X G (c.fa 40) F__law_told_of.kp (fn_d (k := 5) F__law_told_of sc__law_told_of hl_told (fun _ _ _ _ _ _ hr => der__law_told_of (bl_list := bl_list) (e_NoMachine := e_NoMachine) (n_Machine := n_init) (l_Machine___init__ := by decide) (xf_NoMachine_number := xf_NoMachine_number) (xf_NoMachine_part := xf_NoMachine_part) (m_Machine_asks := m_asks) (l_Machine_asks := by decide) (m_Machine_says := m_says) (l_Machine_says := by decide) (m_Machine_rooms := m_rooms) (l_Machine_rooms := by decide) (m_Machine_doors := m_doors) (l_Machine_doors := by decide) hr) k_toldD) B__law_told_of (Sg.mono _)
  have c_same_ : Cal P w K mg base (mkTb K ["Machine"] ["NoMachine", "TrialError"]) "_law_same" 0 (fun _ _ _ _ => False) := mk_cal X G (c.fa 41) F__law_same.kp fn_no B__law_same mono_no
  have c_same0 : Cal P w K mg base (mkTb K ["Machine"] ["NoMachine", "TrialError"]) "_law_same" 1 (d_same 0).wp := mk_cal X G (c.fa 41) F__law_same.kp (fn_d (k := 0) F__law_same sc__law_same hl_same0 (fun _ _ _ _ _ _ hr => der__law_same (bl_isinstance := bl_isinstance) (bl_bool := bl_bool) (bl_str := bl_str) (bl_int := bl_int) (bl_tuple := bl_tuple) (bl_list := bl_list) (bl_len := bl_len) (bl_zip := bl_zip) (c__law_same := c_same_) (l__law_same := by decide) (bl_all := bl_all) hr) k_same0) B__law_same (Sg.mono _)
  have c_same1 : Cal P w K mg base (mkTb K ["Machine"] ["NoMachine", "TrialError"]) "_law_same" 2 (d_same 1).wp := mk_cal X G (c.fa 41) F__law_same.kp (fn_d (k := 1) F__law_same sc__law_same hl_same1 (fun _ _ _ _ _ _ hr => der__law_same (bl_isinstance := bl_isinstance) (bl_bool := bl_bool) (bl_str := bl_str) (bl_int := bl_int) (bl_tuple := bl_tuple) (bl_list := bl_list) (bl_len := bl_len) (bl_zip := bl_zip) (c__law_same := c_same0) (l__law_same := by decide) (bl_all := bl_all) hr) (k_sameS 0)) B__law_same (Sg.mono _)
  have c_same2 : Cal P w K mg base (mkTb K ["Machine"] ["NoMachine", "TrialError"]) "_law_same" 3 (d_same 2).wp := mk_cal X G (c.fa 41) F__law_same.kp (fn_d (k := 2) F__law_same sc__law_same hl_same2 (fun _ _ _ _ _ _ hr => der__law_same (bl_isinstance := bl_isinstance) (bl_bool := bl_bool) (bl_str := bl_str) (bl_int := bl_int) (bl_tuple := bl_tuple) (bl_list := bl_list) (bl_len := bl_len) (bl_zip := bl_zip) (c__law_same := c_same1) (l__law_same := by decide) (bl_all := bl_all) hr) (k_sameS 1)) B__law_same (Sg.mono _)
  have c_same3 : Cal P w K mg base (mkTb K ["Machine"] ["NoMachine", "TrialError"]) "_law_same" 4 (d_same 3).wp := mk_cal X G (c.fa 41) F__law_same.kp (fn_d (k := 3) F__law_same sc__law_same hl_same3 (fun _ _ _ _ _ _ hr => der__law_same (bl_isinstance := bl_isinstance) (bl_bool := bl_bool) (bl_str := bl_str) (bl_int := bl_int) (bl_tuple := bl_tuple) (bl_list := bl_list) (bl_len := bl_len) (bl_zip := bl_zip) (c__law_same := c_same2) (l__law_same := by decide) (bl_all := bl_all) hr) (k_sameS 2)) B__law_same (Sg.mono _)
  have c_same4 : Cal P w K mg base (mkTb K ["Machine"] ["NoMachine", "TrialError"]) "_law_same" 5 (d_same 4).wp := mk_cal X G (c.fa 41) F__law_same.kp (fn_d (k := 4) F__law_same sc__law_same hl_same4 (fun _ _ _ _ _ _ hr => der__law_same (bl_isinstance := bl_isinstance) (bl_bool := bl_bool) (bl_str := bl_str) (bl_int := bl_int) (bl_tuple := bl_tuple) (bl_list := bl_list) (bl_len := bl_len) (bl_zip := bl_zip) (c__law_same := c_same3) (l__law_same := by decide) (bl_all := bl_all) hr) (k_sameS 3)) B__law_same (Sg.mono _)
  have c_same5 : Cal P w K mg base (mkTb K ["Machine"] ["NoMachine", "TrialError"]) "_law_same" 6 (d_same 5).wp := mk_cal X G (c.fa 41) F__law_same.kp (fn_d (k := 5) F__law_same sc__law_same hl_same5 (fun _ _ _ _ _ _ hr => der__law_same (bl_isinstance := bl_isinstance) (bl_bool := bl_bool) (bl_str := bl_str) (bl_int := bl_int) (bl_tuple := bl_tuple) (bl_list := bl_list) (bl_len := bl_len) (bl_zip := bl_zip) (c__law_same := c_same4) (l__law_same := by decide) (bl_all := bl_all) hr) (k_sameS 4)) B__law_same (Sg.mono _)
  have c_same6 : Cal P w K mg base (mkTb K ["Machine"] ["NoMachine", "TrialError"]) "_law_same" 7 (d_same 6).wp := mk_cal X G (c.fa 41) F__law_same.kp (fn_d (k := 6) F__law_same sc__law_same hl_same6 (fun _ _ _ _ _ _ hr => der__law_same (bl_isinstance := bl_isinstance) (bl_bool := bl_bool) (bl_str := bl_str) (bl_int := bl_int) (bl_tuple := bl_tuple) (bl_list := bl_list) (bl_len := bl_len) (bl_zip := bl_zip) (c__law_same := c_same5) (l__law_same := by decide) (bl_all := bl_all) hr) (k_sameS 5)) B__law_same (Sg.mono _)
  have c_putin : Cal P w K mg base (mkTb K ["Machine"] ["NoMachine", "TrialError"]) "_law_put_in" 3 d_putin.wp := mk_cal X G (c.fa 48) F__law_put_in.kp (fn_d (k := 2) F__law_put_in sc__law_put_in hl_putin (fun _ _ _ _ _ _ hr => der__law_put_in (c__law_take := c_take) (l__law_take := by decide) (bl_len := bl_len) hr) k_putin) B__law_put_in (Sg.mono _)
  have c_somestills : Cal P w K mg base (mkTb K ["Machine"] ["NoMachine", "TrialError"]) "_law_some_stills" 4 d_somestills.wp := mk_cal X G (c.fa 51) F__law_some_stills.kp (fn_d (k := 3) F__law_some_stills sc__law_some_stills hl_somestills (fun _ _ _ _ _ _ hr => der__law_some_stills (c__law_take := c_take) (l__law_take := by decide) (bl_len := bl_len) (bl_range := bl_range) (c__law_put_in := c_putin) (l__law_put_in := by decide) (bl_min := bl_min) (bl_max := bl_max) hr) k_somestills) B__law_some_stills (Sg.mono _)
  have c_chain : Cal P w K mg base (mkTb K ["Machine"] ["NoMachine", "TrialError"]) "_law_chain" 4 d_chain.wp := mk_cal X G (c.fa 52) F__law_chain.kp (fn_d (k := 3) F__law_chain sc__law_chain hl_chain (fun _ _ _ _ _ _ hr => der__law_chain (c__law_take := c_take) (l__law_take := by decide) (c__law_letters := c_letters) (l__law_letters := by decide) (bl_range := bl_range) (bl_min := bl_min) (c__law_put_in := c_putin) (l__law_put_in := by decide) hr) k_chain) B__law_chain (Sg.mono _)
  have z : FnOk P w K mg base (L2.CX P w) 8 (He.ga K "law") fd_law ["script"] (lift ⟨P, w, K, (mkTb K ["Machine"] ["NoMachine", "TrialError"]).cl⟩ (mkTb K ["Machine"] ["NoMachine", "TrialError"]).ec d_law.wp) := (fn_d (k := 7) F_law sc_law hl_law (fun _ _ _ _ _ _ hr => der_law (c__law_open := c_open) (l__law_open := by decide) (c__law_take := c_take) (l__law_take := by decide) (c__law_model := c_model) (l__law_model := by decide) (c__law_chain := c_chain) (l__law_chain := by decide) (c__law_some_stills := c_somestills) (l__law_some_stills := by decide) (c__law_round := c_rnd) (l__law_round := by decide) (c__law_same := c_same6) (l__law_same := by decide) (c__law_told_of := c_told) (l__law_told_of := by decide) hr) k_law)
  exact z
abbrev Rw : PySem.W.OpenRow := PySem.W.OpenLaw.row PySem.Challenge.rw_mumtrial_k05_still_rounds
theorem run (w : World) : HandSHeadRun.RunEq Rw (PySem.W.view Rw.prog [31]) (hookP 6 faL fnL fbL) (obP 6 faL fnL fbL) 4000 looseL w := by
  intro os
  kernel_rfl
end Pd
open PySem PySem.W PySem.Calls PyProof.Rows
set_option maxRecDepth 100000 in
set_option maxHeartbeats 0 in
theorem PySem.Challenge.cw_mumtrial_k05_still_rounds_holds : PySem.Challenge.rw_mumtrial_k05_still_rounds.Holds := by
  w_on; o_law
  refine HandSHeadRun.head_any (r := OpenLaw.row PySem.Challenge.rw_mumtrial_k05_still_rounds) (q := view (OpenLaw.row PySem.Challenge.rw_mumtrial_k05_still_rounds).prog [31]) (H := Pd.hookP 6 Pd.faL Pd.fnL Pd.fbL) (ob := Pd.obP 6 Pd.faL Pd.fnL Pd.fbL) (M := 4000) (loose := Pd.looseL) (d := HandSHeadRun.topDef (OpenLaw.row PySem.Challenge.rw_mumtrial_k05_still_rounds).prog 31) (kwd := []) Pd.obP_eq
    (by kernel_rfl) (fun s => by kernel_rfl) Pd.run (by kernel_rfl) (by kernel_rfl) (by kernel_rfl) (by rfl) (by first | assumption | decide +kernel) (by decide +kernel) ⟨rfl, rfl, rfl, rfl, rfl, by decide +kernel⟩ ?hw ?hc
  case hw => w_witness2
  case hc =>
    refine Pd.walk_P (l := PySem.Challenge.rw_mumtrial_k05_still_rounds) (k := 8) rfl (by kernel_rfl) ⟨rfl, by decide, by decide⟩ ?F
    intro w mg fa h Y G h0
    obtain ⟨K, KX, c⟩ := Y
    have h1 : mg ("law" : PySem.Str) = some (.ref fa) := by
      have e : (HandSHeadRun.topDef (OpenLaw.row PySem.Challenge.rw_mumtrial_k05_still_rounds).prog 31).name = ("law" : PySem.Str) := by kernel_rfl
      rw [← e]; exact h0
    obtain ⟨fd, tb, hb, hF⟩ := Pd.facts (P := (PySem.Challenge.rw_mumtrial_k05_still_rounds).prog) (w := w) KX G h1 c
    exact ⟨K, fd, tb, _, KX, hb, fun ns g E Q hl k => ⟨ns, rfl, fun r g2 h => by rw [h]; exact k g2, fun z g2 h => h.elim⟩, hF⟩
