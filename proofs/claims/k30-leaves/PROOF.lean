import PyProof.Rows.All
import Wide.All
import OpenK.AllK
import Wide.FinOn
import HandS.ForMost
import HandS.ForExc
import HandS.Deep
import HandS.ExcInit
import HandS.ExcField
import HandS.Style
import HandS.TupLe
import HandS.TupAny
import HandS.Wide
import HandS.Conv
import HandS.IsInst
import KE.KDictKeyed
import HandS.TupLen
import HandS.Zip
import HandS.More
import KE.GoesZip
import KE.GoesEnum
import KE.GoesMore
import HandS.TryOnly
import HandS.TryMany
import HandS.ExcIs
import KE.KExcIs
import HandS.Defaults
import KE.KStateDown
import HandS.Head2
import HandS.HeadHook2
import KE.KDictCopyH
import KE.KDictZip
import KE.KItemsList
import PyProof.TupleOfGen
import PyProof.EnumMake
import KE.LtSeq
import KE.DataCmp
import KE.KSortTupAny
import KE.KSortTupG
import KE.KDictSum
import HandS.SortRule
import KE.SortData
import PySem.Challenge.RW_mumtrial_k30_leaves
set_option linter.all false
set_option Elab.async false
namespace Pd

/-! Values as trees: tuples by value, lists handed in from outside by value (rol), all else that may change by its place. -/
inductive D where
  | non | bl (b : Bool) | int (i : Int) | str (s : List Nat) | tup (xs : List D) | rol (xs : List D) | ref (a : Nat)
  deriving Inhabited

namespace D
mutual
def beq : D → D → Bool
  | .non, .non => true
  | .bl a, .bl b => decide (a = b)
  | .int a, .int b => decide (a = b)
  | .str a, .str b => decide (a = b)
  | .tup a, .tup b => beqs a b
  | .rol a, .rol b => beqs a b
  | .ref a, .ref b => decide (a = b)
  | .non, .bl _ | .non, .int _ | .non, .str _ | .non, .tup _ | .non, .rol _ | .non, .ref _ => false
  | .bl _, .non | .bl _, .int _ | .bl _, .str _ | .bl _, .tup _ | .bl _, .rol _ | .bl _, .ref _ => false
  | .int _, .non | .int _, .bl _ | .int _, .str _ | .int _, .tup _ | .int _, .rol _ | .int _, .ref _ => false
  | .str _, .non | .str _, .bl _ | .str _, .int _ | .str _, .tup _ | .str _, .rol _ | .str _, .ref _ => false
  | .tup _, .non | .tup _, .bl _ | .tup _, .int _ | .tup _, .str _ | .tup _, .rol _ | .tup _, .ref _ => false
  | .rol _, .non | .rol _, .bl _ | .rol _, .int _ | .rol _, .str _ | .rol _, .tup _ | .rol _, .ref _ => false
  | .ref _, .non | .ref _, .bl _ | .ref _, .int _ | .ref _, .str _ | .ref _, .tup _ | .ref _, .rol _ => false
def beqs : List D → List D → Bool
  | [], [] => true
  | a :: as, b :: bs => beq a b && beqs as bs
  | [], _ :: _ => false
  | _ :: _, [] => false
end
mutual
theorem beq_self : ∀ a : D, beq a a = true
  | .non => rfl
  | .bl a => by simp [beq]
  | .int a => by simp [beq]
  | .str a => by simp [beq]
  | .tup a => by rw [beq]; exact beqs_self a
  | .rol a => by rw [beq]; exact beqs_self a
  | .ref a => by simp [beq]
theorem beqs_self : ∀ a : List D, beqs a a = true
  | [] => rfl
  | a :: as => by rw [beqs, beq_self a, beqs_self as]; rfl
end
mutual
theorem eq_of_beq : ∀ a b : D, beq a b = true → a = b
  | .non, b, h => by cases b <;> first | rfl | simp [beq] at h
  | .bl a, b, h => by cases b <;> first | (simp only [beq, decide_eq_true_eq] at h; rw [h]) | simp [beq] at h
  | .int a, b, h => by cases b <;> first | (simp only [beq, decide_eq_true_eq] at h; rw [h]) | simp [beq] at h
  | .str a, b, h => by cases b <;> first | (simp only [beq, decide_eq_true_eq] at h; rw [h]) | simp [beq] at h
  | .tup a, .tup b, h => by rw [beq] at h; rw [eq_of_beqs a b h]
  | .rol a, .rol b, h => by rw [beq] at h; rw [eq_of_beqs a b h]
  | .ref a, b, h => by cases b <;> first | (simp only [beq, decide_eq_true_eq] at h; rw [h]) | simp [beq] at h
  | .tup _, .non, h | .tup _, .bl _, h | .tup _, .int _, h | .tup _, .str _, h | .tup _, .rol _, h | .tup _, .ref _, h => by simp [beq] at h
  | .rol _, .non, h | .rol _, .bl _, h | .rol _, .int _, h | .rol _, .str _, h | .rol _, .tup _, h | .rol _, .ref _, h => by simp [beq] at h
theorem eq_of_beqs : ∀ a b : List D, beqs a b = true → a = b
  | [], [], _ => rfl
  | a :: as, b :: bs, h => by
    rw [beqs, Bool.and_eq_true] at h
    rw [eq_of_beq a b h.1, eq_of_beqs as bs h.2]
  | [], _ :: _, h => by simp [beqs] at h
  | _ :: _, [], h => by simp [beqs] at h
end
instance : DecidableEq D := fun a b => if h : beq a b = true then .isTrue (eq_of_beq a b h) else .isFalse fun e => h (e ▸ beq_self a)

mutual
/-- none, numbers, textsD, tuples of them: what == tells by itself -/
def pure : D → Bool
  | .non => true
  | .bl _ => false
  | .int _ => true
  | .str _ => true
  | .tup xs => pures xs
  | .rol xs => pures xs
  | .ref _ => false
def pures : List D → Bool
  | [] => true
  | x :: xs => pure x && pures xs
end
mutual
def depth : D → Nat
  | .tup xs => depths xs + 1
  | .rol xs => depths xs + 1
  | _ => 0
def depths : List D → Nat
  | [] => 0
  | x :: xs => max (depth x) (depths xs)
end
mutual
/-- what may be a dict's key -/
def keyish : D → Bool
  | .non => true
  | .int _ => true
  | .str _ => true
  | .tup xs => keyishs xs
  | _ => false
def keyishs : List D → Bool
  | [] => true
  | x :: xs => keyish x && keyishs xs
end
end D

inductive O where
  | lst (xs : List D) | dic (t : Bool) (kvs : List (D × D)) | ins (c : String) (fs : List (String × D)) | fzd (t : Bool) (kvs : List (D × D)) | hid (xs : List D)
  deriving Inhabited
/-- it may be written -/
def O.soft : O → Bool
  | .fzd _ _ => false
  | _ => true
abbrev G := Nat → Option O
def G.upd (g : G) (a : Nat) (o : O) : G := fun b => if b = a then some o else g b
def G.le (g h : G) : Prop := ∀ a o, g a = some o → h a = some o
theorem G.le_refl (g : G) : g.le g := fun _ _ h => h
theorem G.le_trans {a b c : G} (h : a.le b) (h' : b.le c) : a.le c := fun x o e => h' x o (h x o e)
@[simp] theorem G.upd_same {g : G} {a : Nat} {o : O} : g.upd a o a = some o := by simp [G.upd]
theorem G.upd_ne {g : G} {a b : Nat} {o : O} (h : b ≠ a) : g.upd a o b = g b := by simp [G.upd, h]
@[simp] theorem G.upd_upd {g : G} {a : Nat} {o u : O} : (g.upd a o).upd a u = g.upd a u := by
  funext b; simp only [G.upd]; split <;> rfl
theorem G.le_upd {g : G} {a : Nat} {o : O} (h : g a = none) : g.le (g.upd a o) := fun b u e => by
  have : b ≠ a := fun q => by rw [q, h] at e; cases e
  rw [G.upd_ne this]; exact e

/-- what stands in a slot: a value, an object of one's own that nobody else holds, one that was lent -/
inductive Sl where
  | d (x : D) | own (o : O) | bor (o : O) | fz (kvs : List (D × D))
abbrev Psi := List (Option Sl)
/-- what an expression gives: a value, a new object, the name of a slot -/
inductive R where
  | d (x : D) | own (o : O) | sl (i : Nat)
/-- what is to be read there -/
inductive C where
  | d (x : D) | o (x : O)

def lookD (g : G) : D → Option C
  | .ref a => (g a).map C.o
  | x => some (.d x)
def lookS (g : G) : Sl → Option C
  | .d x => lookD g x
  | .own o => some (.o o)
  | .bor o => some (.o o)
  | .fz _ => none
def look (ψ : Psi) (g : G) : R → Option C
  | .d x => lookD g x
  | .own o => some (.o o)
  | .sl i => match ψ[i]? with
    | some (some s) => lookS g s
    | _ => none

/-- an exception: its class and its fields -/
structure X where
  cls : String
  fs : List (String × D)

abbrev EX := X → Psi → G → Prop
abbrev WE := EX → Psi → G → (R → Psi → G → Prop) → Prop
abbrev WA := EX → Psi → G → (List R → Psi → G → Prop) → Prop
abbrev WT := EX → Psi → G → (Bool → Psi → G → Prop) → Prop
structure Ends where
  nx : Psi → G → Prop
  rt : R → G → Prop
  bk : Psi → G → Prop
  ct : Psi → G → Prop
  ex : EX
abbrev WS := Ends → Psi → G → Prop
abbrev WG := D → Psi → G → (Psi → G → Prop) → Prop
abbrev WI := EX → Psi → G → (List D → (Psi → G → Prop) → Psi → G → Prop) → Prop
/-- a def's promise: what it is handed, the objects, what is wanted of an exception, of its end -/
abbrev SpD := List Sl → G → (X → G → Prop) → (R → G → Prop) → Prop

/-- what stands behind is left alone while a value is worked out: a word that hangs on k keeps k as it is -/
def Hid {α : Sort _} (_ : α) : Type := Unit
def optQ {α : Type} (o : Option α) (k : α → Prop) (_ : Hid k := ()) : Prop := match o with
  | some x => k x
  | none => False
@[simp] theorem optQ_some {α : Type} {x : α} {k : α → Prop} : optQ (some x) k = k x := rfl
/-- as a value that may be kept: an object of one's own is given away -/
def toD (r : R) (ψ : Psi) (g : G) (k : D → Psi → G → Prop) : Prop := match r with
  | .d x => k x ψ g
  | .own o => ∀ p, g p = none → k (.ref p) ψ (g.upd p o)
  | .sl i => match ψ[i]? with
    | some (some (.d x)) => k x ψ g
    | some (some (.own o)) => ∀ p, g p = none → k (.ref p) (ψ.set i (some (.d (.ref p)))) (g.upd p o)
    | _ => False
/-! ### expressions -/
def eC (x : D) : WE := fun _ ψ g Q => Q (.d x) ψ g
def eVar (i : Nat) : WE := fun _ ψ g Q => match ψ[i]? with
  | some (some _) => Q (.sl i) ψ g
  | _ => False
def aNil : WA := fun _ ψ g Q => Q [] ψ g
def aCons (t : WE) (u : WA) : WA := fun E ψ g Q => t E ψ g fun r ψ g => u E ψ g fun rs ψ g => Q (r :: rs) ψ g
/-- an operation upon what is read -/
def eUn (f : G → C → Option R) (t : WE) : WE := fun E ψ g Q => t E ψ g fun r ψ g => optQ (look ψ g r) fun c => optQ (f g c) fun x => Q x ψ g
def eBin (f : G → C → C → Option R) (t u : WE) : WE := fun E ψ g Q => t E ψ g fun r ψ g => u E ψ g fun r' ψ g =>
  optQ (look ψ g r) fun c => optQ (look ψ g r') fun c' => optQ (f g c c') fun x => Q x ψ g
/-- is None, is not None, by the value alone -/
def isNon (ψ : Psi) : R → Option Bool
  | .d x => some (decide (x = .non))
  | .own _ => some false
  | .sl i => match ψ[i]? with
    | some (some (.d x)) => some (decide (x = .non))
    | some (some _) => some false
    | _ => none
def eIsN (neg : Bool) (t : WE) : WE := fun E ψ g Q => t E ψ g fun r ψ g => optQ (isNon ψ r) fun b => Q (.d (.bl (if neg then !b else b))) ψ g
def dNil : EX → Psi → G → (List D → Psi → G → Prop) → Prop := fun _ ψ g Q => Q [] ψ g
def dCons (t : WE) (u : EX → Psi → G → (List D → Psi → G → Prop) → Prop) : EX → Psi → G → (List D → Psi → G → Prop) → Prop :=
  fun E ψ g Q => t E ψ g fun r ψ g => toD r ψ g fun x ψ g => u E ψ g fun xs ψ g => Q (x :: xs) ψ g
abbrev WD := EX → Psi → G → (List D → Psi → G → Prop) → Prop
def most : Nat := 16777216
def eTup (u : WD) : WE := fun E ψ g Q => u E ψ g fun xs ψ g => Q (.d (.tup xs)) ψ g
def eLst (u : WD) : WE := fun E ψ g Q => u E ψ g fun xs ψ g => Q (.own (.lst xs)) ψ g
def eDic (t : Bool) : WE := fun _ ψ g Q => Q (.own (.dic t [])) ψ g
/-- tests -/
def tV (t : WE) : WT := fun E ψ g Q => t E ψ g fun r ψ g => match look ψ g r with
  | some (.d (.bl b)) => Q b ψ g
  | _ => False
def tAnd (t u : WT) : WT := fun E ψ g Q => t E ψ g fun b ψ g => if b = true then u E ψ g Q else Q false ψ g
def tOr (t u : WT) : WT := fun E ψ g Q => t E ψ g fun b ψ g => if b = true then Q true ψ g else u E ψ g Q
def tNot (t : WT) : WT := fun E ψ g Q => t E ψ g fun b ψ g => Q (!b) ψ g
/-- .. as values: all but the last are truths -/
def eAnd (t u : WE) : WE := fun E ψ g Q => t E ψ g fun r ψ g => match look ψ g r with
  | some (.d (.bl b)) => if b = true then u E ψ g Q else Q (.d (.bl false)) ψ g
  | _ => False
def eOr (t u : WE) : WE := fun E ψ g Q => t E ψ g fun r ψ g => match look ψ g r with
  | some (.d (.bl b)) => if b = true then Q (.d (.bl true)) ψ g else u E ψ g Q
  | _ => False
def eNot (t : WE) : WE := fun E ψ g Q => t E ψ g fun r ψ g => match look ψ g r with
  | some (.d (.bl b)) => Q (.d (.bl (!b))) ψ g
  | _ => False
def eFld (c f : String) (t : WE) : WE := fun E ψ g Q => t E ψ g fun r ψ g => match look ψ g r with
  | some (.o (.ins c' fs)) => c' = c ∧ optQ (fs.lookup f) fun x => Q (.d x) ψ g
  | _ => False
/-- a built-in method that reads and changes its object: arguments as values, the new object, the answer -/
def wr (r : R) (o : O) (ψ : Psi) (g : G) (k : Psi → G → Prop) : Prop := match r with
  | .d (.ref a) => k ψ (g.upd a o)
  | .sl i => match ψ[i]? with
    | some (some (.own _)) => k (ψ.set i (some (.own o))) g
    | some (some (.d (.ref a))) => k ψ (g.upd a o)
    | _ => False
  | _ => False
def lstAt (ψ : Psi) (g : G) (r : R) : Prop := match look ψ g r with
  | some (.o (.lst _)) => True
  | _ => False
def eMut (f : List D → List D → Option (List D × D)) (t : WE) (u : WD) : WE := fun E ψ g Q => t E ψ g fun r ψ g => lstAt ψ g r ∧ u E ψ g fun ds ψ g =>
  match look ψ g r with
  | some (.o (.lst xs)) => optQ (f xs ds) fun p => wr r (.lst p.1) ψ g fun ψ g => Q (.d p.2) ψ g
  | _ => False
/-! ### calls -/
/-- given away where so marked (true) -/
def giveAll : List Bool → List R → Psi → G → (List R → Psi → G → Prop) → Prop
  | _, [], ψ, g, k => k [] ψ g
  | true :: ms, r :: rs, ψ, g, k => toD r ψ g fun x ψ g => giveAll ms rs ψ g fun rs ψ g => k (.d x :: rs) ψ g
  | false :: ms, r :: rs, ψ, g, k => giveAll ms rs ψ g fun rs ψ g => k (r :: rs) ψ g
  | [], _ :: _, _, _, _ => False
def lendS : Sl → Sl
  | .own o => .bor o
  | s => s
def lendR (ψ : Psi) : R → Option Sl
  | .d x => some (.d x)
  | .own o => some (.bor o)
  | .sl i => match ψ[i]? with
    | some (some s) => some (lendS s)
    | _ => none
def lendRs (ψ : Psi) : List R → Option (List Sl)
  | [] => some []
  | r :: rs => match lendR ψ r, lendRs ψ rs with
    | some s, some ss => some (s :: ss)
    | _, _ => none
/-- .. and the others are lent -/
def argsSl (ms : List Bool) (rs : List R) (ψ : Psi) (g : G) (k : List Sl → Psi → G → Prop) : Prop := giveAll ms rs ψ g fun rs ψ g => optQ (lendRs ψ rs) fun ss => k ss ψ g
def eCall (φ : SpD) (ms : List Bool) (u : WA) : WE := fun E ψ g Q => u E ψ g fun rs ψ g => argsSl ms rs ψ g fun ss ψ g =>
  φ ss g (fun x g' => E x ψ g') fun r g' => Q r ψ g'
/-- an instance of that class without such a field -/
def IsIns (g : G) (a : Nat) (c m : String) : Prop := match g a with
  | some (.ins c' fs) => c' = c ∧ fs.lookup m = none
  | _ => False
def eMeth (c m : String) (φ : SpD) (ms : List Bool) (t : WE) (u : WA) : WE := fun E ψ g Q => t E ψ g fun r ψ g => toD r ψ g fun x ψ g => match x with
  | .ref a => IsIns g a c m ∧ u E ψ g fun rs ψ g => argsSl ms rs ψ g fun ss ψ g => φ (.d (.ref a) :: ss) g (fun x g' => E x ψ g') fun r g' => Q r ψ g'
  | _ => False
def eNew (c : String) (φ : SpD) (ms : List Bool) (u : WA) : WE := fun E ψ g Q => u E ψ g fun rs ψ g => argsSl ms rs ψ g fun ss ψ g =>
  ∀ p, g p = none → φ (.d (.ref p) :: ss) (g.upd p (.ins c [])) (fun x g' => E x ψ g') fun r g' => r = .d .non ∧ Q (.d (.ref p)) ψ g'

/-! ### what is walked -/
def itemsC : C → Option (List D)
  | .d (.tup xs) => some xs
  | .d (.rol xs) => some xs
  | .o (.lst xs) => some xs
  | _ => none
/-- it stands as it stood -/
def still (r : R) (c : C) (ψ : Psi) (g : G) : Prop := match r with
  | .own _ => True
  | r => look ψ g r = some c
/-- no slot's name -/
def eNs (t : WE) : WE := fun E ψ g Q => t E ψ g fun r ψ g => match r with
  | .sl _ => False
  | r => Q r ψ g
def iIt (t : WE) : WI := fun E ψ g K => t E ψ g fun r ψ g => optQ (look ψ g r) fun c => optQ (itemsC c) fun xs => K xs (still r c) ψ g
def numbered : Nat → List D → List D
  | _, [] => []
  | n, x :: xs => .tup [.int (n : Int), x] :: numbered (n + 1) xs
def lstC : C → Option (List D)
  | .o (.lst xs) => some xs
  | .d (.rol xs) => some xs
  | _ => none
def tupC : C → Option (List D)
  | .d (.tup xs) => some xs
  | _ => none
def sqC (c : C) : Option (List D) := match lstC c with
  | some xs => some xs
  | none => tupC c
def zipC (c c' : C) : Option (List D × List D) := match sqC c, sqC c' with
  | some xs, some ys => some (xs, ys)
  | _, _ => none
def iEnum (t : WE) : WI := fun E ψ g K => t E ψ g fun r ψ g => optQ (look ψ g r) fun c => optQ (lstC c) fun xs => K (numbered 0 xs) (still r c) ψ g
def iRange (t : WE) : WI := fun E ψ g K => t E ψ g fun r ψ g => match look ψ g r with
  | some (.d (.int n)) => n < 4611686018427387904 ∧ -(4611686018427387904) ≤ n ∧ K ((List.range n.toNat).map fun i : Nat => D.int (i : Int)) (fun _ _ => True) ψ g
  | _ => False
def iStr (t : WE) : WI := fun E ψ g K => t E ψ g fun r ψ g => match look ψ g r with
  | some (.d (.str s)) => K (s.map fun c => .str [c]) (fun _ _ => True) ψ g
  | _ => False
def pairUp : List D → List D → List D
  | x :: xs, y :: ys => .tup [x, y] :: pairUp xs ys
  | _, _ => []
def iZip (t u : WE) : WI := fun E ψ g K => t E ψ g fun r ψ g => u E ψ g fun r' ψ g => optQ (look ψ g r) fun c => optQ (look ψ g r') fun c' => optQ (zipC c c') fun p =>
  K (pairUp p.1 p.2) (fun ψ g => still r c ψ g ∧ still r' c' ψ g) ψ g
/-- targets -/
def gName (i : Nat) : WG := fun x ψ g Q => Q (ψ.set i (some (.d x))) g
def gAll : List WG → List D → Psi → G → (Psi → G → Prop) → Prop
  | [], [], ψ, g, Q => Q ψ g
  | t :: ts, x :: xs, ψ, g, Q => t x ψ g fun ψ g => gAll ts xs ψ g Q
  | _, _, _, _, _ => False
def gTup (ts : List WG) : WG := fun x ψ g Q => match x with
  | .tup xs => xs.length = ts.length ∧ gAll ts xs ψ g Q
  | _ => False
/-- comprehensions: vs the places of their own names -/
def wipe (ψ : Psi) : List Nat → Psi
  | [] => ψ
  | v :: vs => (wipe ψ vs).set v none
def noX : EX := fun _ _ _ => False
def lend : Option Sl → Option Sl
  | some (.own o) => some (.bor o)
  | s => s
def lendAll (ψ : Psi) : Psi := ψ.map lend
def compL (tg : WG) (tt : WT) (te : WE) (ok : Psi → G → Prop) (ψ0 ψw : Psi) : List D → List D → G → (List D → G → Prop) → Prop
  | [], acc, g, Q => Q acc g
  | x :: xs, acc, g, Q => tg x ψw g fun ψ1 g => tt noX ψ1 g fun b ψ2 g =>
    if b = true then te noX ψ2 g fun r ψ3 g => toD r ψ3 g fun d _ g => ok ψ0 g ∧ acc.length < most ∧ compL tg tt te ok ψ0 ψw xs (acc ++ [d]) g Q
    else ok ψ0 g ∧ compL tg tt te ok ψ0 ψw xs acc g Q
def tYes : WT := fun _ ψ g Q => Q true ψ g
def eComp (vs : List Nat) (it : WI) (tg : WG) (tt : WT) (te : WE) : WE := fun E ψ g Q => it E ψ g fun xs ok ψ g =>
  compL tg tt te ok ψ (wipe (lendAll ψ) vs) xs [] g fun acc g => Q (.own (.lst acc)) ψ g

/-! ### statements -/
def sNx : WS := fun Dn ψ g => Dn.nx ψ g
def sSeq (s t : WS) : WS := fun Dn ψ g => s { Dn with nx := t Dn } ψ g
def sE (t : WE) : WS := fun Dn ψ g => t Dn.ex ψ g fun _ ψ g => Dn.nx ψ g
/-- a slot stores what an expression gave -/
def bind (i : Nat) (r : R) (ψ : Psi) (g : G) (k : Psi → G → Prop) : Prop := match r with
  | .d x => k (ψ.set i (some (.d x))) g
  | .own o => k (ψ.set i (some (.own o))) g
  | .sl j => match ψ[j]? with
    | some (some (.d x)) => k (ψ.set i (some (.d x))) g
    | some (some (.bor o)) => k (ψ.set i (some (.bor o))) g
    | some (some (.own o)) => ∀ p, g p = none → k ((ψ.set j (some (.d (.ref p)))).set i (some (.d (.ref p)))) (g.upd p o)
    | _ => False
def sSet (i : Nat) (t : WE) : WS := fun Dn ψ g => t Dn.ex ψ g fun r ψ g => bind i r ψ g Dn.nx
/-- a, b = e -/
def sUnp (tg : WG) (t : WE) : WS := fun Dn ψ g => t Dn.ex ψ g fun r ψ g => toD r ψ g fun x ψ g => tg x ψ g Dn.nx
def sIf (c : WT) (s t : WS) : WS := fun Dn ψ g => c Dn.ex ψ g fun b ψ g => if b = true then s Dn ψ g else t Dn ψ g
def retR (r : R) (ψ : Psi) (g : G) (k : R → G → Prop) : Prop := match r with
  | .d x => k (.d x) g
  | .own o => k (.own o) g
  | .sl i => match ψ[i]? with
    | some (some (.d x)) => k (.d x) g
    | some (some (.own o)) => k (.own o) g
    | _ => False
def sRet (t : WE) : WS := fun Dn ψ g => t Dn.ex ψ g fun r ψ g => retR r ψ g fun r g => ∃ g2, G.le g2 g ∧ Dn.rt r g2
/-- x[i] = e -/
def sSetIx (f : O → D → D → Option O) (tr ti tv : WE) : WS := fun Dn ψ g => tv Dn.ex ψ g fun v ψ g => toD v ψ g fun v ψ g => tr Dn.ex ψ g fun r ψ g => ti Dn.ex ψ g fun i ψ g => toD i ψ g fun i ψ g =>
  match look ψ g r with
  | some (.o o) => optQ (f o i v) fun o' => wr r o' ψ g Dn.nx
  | _ => False
def putF (f : String) (v : D) : List (String × D) → List (String × D)
  | [] => [(f, v)]
  | (h, w) :: r => if f = h then (h, v) :: r else (h, w) :: putF f v r
/-- x.f = e -/
def sFld (c f : String) (tr tv : WE) : WS := fun Dn ψ g => tv Dn.ex ψ g fun v ψ g => toD v ψ g fun v ψ g => tr Dn.ex ψ g fun r ψ g => toD r ψ g fun x ψ g => match x with
  | .ref a => (match g a with
    | some (.ins c' fs) => c' = c ∧ fs.length < 900 ∧ Dn.nx ψ (g.upd a (.ins c (putF f v fs)))
    | _ => False)
  | _ => False
def sRaise (c : String) (fs : List String) (u : WD) : WS := fun Dn ψ g => u Dn.ex ψ g fun ds ψ g => Dn.ex ⟨c, fs.zip ds⟩ ψ g
def bX (f : X → Bool) : X → Option D := fun x => some (.bl (f x))
def whileN (c : WT) (b : WS) (Dn : Ends) : Nat → Psi → G → Prop
  | 0, _, _ => False
  | n + 1, ψ, g => c Dn.ex ψ g fun v ψ g => if v = true then
      b { Dn with nx := fun ψ' g' => ∃ g2, G.le g2 g' ∧ whileN c b Dn n ψ' g2, ct := fun ψ' g' => ∃ g2, G.le g2 g' ∧ whileN c b Dn n ψ' g2, bk := Dn.nx } ψ g
    else Dn.nx ψ g
def sWhile (c : WT) (b : WS) : WS := fun Dn ψ g => ∃ n, whileN c b Dn n ψ g
def forL (tg : WG) (b : WS) (Dn : Ends) (ok : Psi → G → Prop) : List D → Psi → G → Prop
  | [], ψ, g => Dn.nx ψ g
  | x :: xs, ψ, g => tg x ψ g fun ψ g => b { Dn with nx := fun ψ' g' => ∃ g2, G.le g2 g' ∧ ok ψ' g2 ∧ forL tg b Dn ok xs ψ' g2, ct := fun ψ' g' => ∃ g2, G.le g2 g' ∧ ok ψ' g2 ∧ forL tg b Dn ok xs ψ' g2, bk := Dn.nx } ψ g
def sFor (it : WI) (tg : WG) (b : WS) : WS := fun Dn ψ g => it Dn.ex ψ g fun xs ok ψ g => forL tg b Dn ok xs ψ g

/-- the end of a def -/
def endsOf (E : X → G → Prop) (Q : R → G → Prop) : Ends := ⟨fun _ g => ∃ g2, G.le g2 g ∧ Q (.d .non) g2, Q, fun _ _ => False, fun _ _ => False, fun x _ g => E x g⟩
/-- the slots of a def at its beginning -/
def begin_ (ss : List Sl) (n : Nat) : Psi := ss.map some ++ List.replicate n none
/-- the body keeps the promise -/
def Keeps (φ : SpD) (b : WS) (n : Nat) : Prop := ∀ ss g E Q, φ ss g E Q → b (endsOf E Q) (begin_ ss (n - ss.length)) g

/-! ### operations -/
def lenC : C → Option Int
  | .d (.str s) => if s.length ≤ most then some s.length else none
  | .d (.tup xs) => some xs.length
  | .d (.rol xs) => some xs.length
  | .o (.lst xs) => some xs.length
  | .o (.dic _ kvs) => some kvs.length
  | _ => none
def oLen : G → C → Option R := fun _ c => (lenC c).map fun n => .d (.int n)
def oIntP (f : Int → Int → Option D) : G → C → C → Option R
  | _, .d (.int i), .d (.int j) => (f i j).map R.d
  | _, _, _ => none
def intsOf : List D → Option (List Int)
  | [] => some []
  | .int i :: r => (intsOf r).map (i :: ·)
  | _ => none
/-- numbers in rows, the first unlike one tells -/
def lexI : List Int → List Int → Bool
  | [], [] => false
  | [], _ :: _ => true
  | _ :: _, [] => false
  | x :: xs, y :: ys => if x = y then lexI xs ys else decide (x < y)
def oLt : G → C → C → Option R
  | _, .d (.int i), .d (.int j) => some (.d (.bl (decide (i < j))))
  | _, .o (.lst xs), .o (.lst ys) => (intsOf xs).bind fun ns => (intsOf ys).map fun ms => .d (.bl (lexI ns ms))
  | _, _, _ => none
def oGt : G → C → C → Option R
  | _, .d (.int i), .d (.int j) => some (.d (.bl (decide (j < i))))
  | _, .o (.lst xs), .o (.lst ys) => (intsOf xs).bind fun ns => (intsOf ys).map fun ms => .d (.bl (lexI ms ns))
  | _, _, _ => none
def oGe := oIntP fun i j => some (.bl (decide (j ≤ i)))
def oAdd : G → C → C → Option R
  | _, .d (.int i), .d (.int j) => some (.d (.int (i + j)))
  | _, .d (.str s), .d (.str t) => if s.length + t.length ≤ most then some (.d (.str (s ++ t))) else none
  | _, .d (.tup s), .d (.tup t) => if s.length + t.length ≤ most then some (.d (.tup (s ++ t))) else none
  | _, .o (.lst s), .o (.lst t) => if s.length + t.length ≤ most then some (.own (.lst (s ++ t))) else none
  | _, _, _ => none
def oSub := oIntP fun i j => some (.int (i - j))
def small (i : Int) : Prop := i.natAbs < 18446744073709551616
instance (i : Int) : Decidable (small i) := Nat.decLt _ _
/-- a product: one factor small, or both below some thousand bits -/
def oMul : G → C → C → Option R
  | _, .d (.int i), .d (.int j) => if small i ∨ small j then some (.d (.int (i * j))) else none
  | _, .o (.lst xs), .d (.int k) => if -(4611686018427387904) ≤ k ∧ k < 4611686018427387904 ∧ xs.length * k.toNat ≤ most then some (.own (.lst (List.replicate k.toNat xs).flatten)) else none
  | _, _, _ => none
def oMod := oIntP fun i j => if 0 < j then some (.int (i % j)) else none
def oDiv := oIntP fun i j => if 0 < j ∧ j < 1073741824 then some (.int (i / j)) else none
def oPow := oIntP fun i j => if 0 ≤ j ∧ j ≤ 1000 ∧ small i then some (.int (i ^ j.toNat)) else none
/-- lists within a value written out (to a depth) -/
def rsv : Nat → G → D → Option D
  | 0, _, x => if x.pure then some x else none
  | n + 1, g, x => if x.pure then some x else match x with
    | .ref a => (match g a with
      | some (.lst xs) => (xs.mapM (rsv n g)).map D.rol
      | _ => none)
    | .tup xs => (xs.mapM (rsv n g)).map D.tup
    | _ => none
def rsvC (g : G) : C → Option D
  | .d x => rsv 6 g x
  | .o (.lst xs) => (xs.mapM (rsv 6 g)).map D.rol
  | _ => none
def eqC (g : G) : C → C → Option Bool
  | .d (.bl a), .d (.bl b) => some (decide (a = b))
  | a, b => match rsvC g a, rsvC g b with
    | some x, some y => if x.depth ≤ 60 ∧ y.depth ≤ 60 then some (decide (x = y)) else none
    | _, _ => none
def oEq : G → C → C → Option R := fun g a b => (eqC g a b).map fun k => .d (.bl k)
def oNe : G → C → C → Option R := fun g a b => (eqC g a b).map fun k => .d (.bl (!k))
/-- flat things -/
def flatD : D → Bool
  | .non => true
  | .int _ => true
  | .str _ => true
  | _ => false
def keyOk : Bool → D → Bool
  | false, .int _ => true
  | false, .str _ => true
  | true, .tup xs => D.keyishs xs && decide (D.depths xs < 8)
  | _, _ => false
def hasK (kvs : List (D × D)) (k : D) : Bool := kvs.any fun p => decide (p.1 = k)
def lookK : List (D × D) → D → Option D
  | [], _ => none
  | p :: r, k => if p.1 = k then some p.2 else lookK r k
def putK : List (D × D) → D → D → List (D × D)
  | [], k, v => [(k, v)]
  | p :: r, k, v => if p.1 = k then (k, v) :: r else p :: putK r k v
def inC (g : G) : C → C → Option Bool
  | .d x, .o (.dic t kvs) => if keyOk t x then some (hasK kvs x) else none
  | .d x, .o (.lst xs) => if x.pure && D.pures xs && decide (x.depth ≤ 50) && decide (D.depths xs ≤ 50) then some (decide (x ∈ xs)) else none
  | .d x, .d (.rol xs) => if x.pure && D.pures xs && decide (x.depth ≤ 50) && decide (D.depths xs ≤ 50) then some (decide (x ∈ xs)) else none
  | .d x, .d (.tup xs) => if flatD x && xs.all flatD then some (decide (x ∈ xs)) else none
  | _, _ => none
def inT (g : G) (a b : C) : Option Bool := match a, b with
  | .d (.str [c]), .d (.str t) => some (decide (c ∈ t))
  | a, b => inC g a b
def oIn : G → C → C → Option R := fun g a b => (inT g a b).map fun k => .d (.bl k)
def oNin : G → C → C → Option R := fun g a b => (inC g a b).map fun k => .d (.bl (!k))
def idxOf (n : Nat) (i : Int) : Option Nat := if 0 ≤ i ∧ i < n then some i.toNat else if -(n : Int) ≤ i ∧ i < 0 then some (n + i).toNat else none
def atI {α : Type} (xs : List α) (i : Int) : Option α := (idxOf xs.length i).bind fun k => xs[k]?
def ixC : C → C → Option D
  | .d (.str s), .d (.int i) => if s.length ≤ most then (atI s i).map fun c => .str [c] else none
  | .d (.tup xs), .d (.int i) => atI xs i
  | .d (.rol xs), .d (.int i) => atI xs i
  | .o (.lst xs), .d (.int i) => atI xs i
  | .o (.dic t kvs), .d k => if keyOk t k then lookK kvs k else none
  | _, _ => none
def oIx : G → C → C → Option R := fun _ a b => (ixC a b).map R.d
def clampI (n : Nat) (i : Int) : Nat := if i < 0 then (n + i).toNat else min i.toNat n
def bndN (n d : Nat) : Option Int → Nat
  | some i => clampI n i
  | none => d
def cut {α : Type} (xs : List α) (lo hi : Option Int) : List α := (xs.take (bndN xs.length xs.length hi)).drop (bndN xs.length 0 lo)
def cutC (lo hi : Option Int) : C → Option R
  | .d (.str s) => if s.length ≤ most then some (.d (.str (cut s lo hi))) else none
  | .d (.tup xs) => some (.d (.tup (cut xs lo hi)))
  | .d (.rol xs) => some (.own (.lst (cut xs lo hi)))
  | .o (.lst xs) => some (.own (.lst (cut xs lo hi)))
  | _ => none
/-- x[lo:hi], each bound there or not -/
def bndQ (t : Option WE) (E : EX) (ψ : Psi) (g : G) (k : Option Int → Psi → G → Prop) : Prop := match t with
  | none => k none ψ g
  | some t => t E ψ g fun r ψ g => match look ψ g r with
    | some (.d (.int i)) => -(4611686018427387904) ≤ i ∧ i < 4611686018427387904 ∧ k (some i) ψ g
    | _ => False
def eCut (t : WE) (lo hi : Option WE) : WE := fun E ψ g Q => t E ψ g fun r ψ g => bndQ lo E ψ g fun a ψ g => bndQ hi E ψ g fun b ψ g =>
  optQ (look ψ g r) fun c => optQ (cutC a b c) fun x => Q x ψ g
def oList : G → C → Option R
  | _, .o (.lst xs) => some (.own (.lst xs))
  | _, .d (.tup xs) => some (.own (.lst xs))
  | _, .d (.rol xs) => some (.own (.lst xs))
  | _, _ => none
def oTuple : G → C → Option R
  | _, .o (.lst xs) => some (.d (.tup xs))
  | _, .d (.tup xs) => some (.d (.tup xs))
  | _, _ => none
def boolsD : List D → Option (List Bool)
  | [] => some []
  | .bl b :: r => (boolsD r).map (b :: ·)
  | _ => none
def oAll : G → C → Option R
  | _, .o (.lst xs) => (boolsD xs).map fun bs => .d (.bl (bs.all id))
  | _, _ => none
def intsD : List D → Option (List Int)
  | [] => some []
  | .int i :: r => (intsD r).map (i :: ·)
  | _ => none
def textsD : List D → Option (List (List Nat))
  | [] => some []
  | .str s :: r => (textsD r).map (s :: ·)
  | _ => none
def oNeg : G → C → Option R
  | _, .d (.int i) => some (.d (.int (-i)))
  | _, _ => none
def oInt : G → C → Option R
  | _, .d (.int i) => some (.d (.int i))
  | _, .d (.bl b) => some (.d (.int (if b then 1 else 0)))
  | _, _ => none
def joinL (sep : List Nat) : List (List Nat) → List Nat
  | [] => []
  | [x] => x
  | x :: r => x ++ sep ++ joinL sep r
def oJoin (sep : List Nat) : G → C → Option R
  | _, .o (.lst xs) => (textsD xs).bind fun ts => if (ts.map List.length).sum + ts.length * sep.length ≤ most then some (.d (.str (joinL sep ts))) else none
  | _, _ => none
/-- isinstance(x, one class) -/
inductive Ty where
  | str | int | bool | list | tuple
def isT : Ty → C → Option Bool
  | .str, .d (.str _) => some true
  | .int, .d (.int _) => some true
  | .int, .d (.bl _) => some true
  | .bool, .d (.bl _) => some true
  | .list, .o (.lst _) => some true
  | .list, .d (.rol _) => some true
  | .tuple, .d (.tup _) => some true
  | _, .d (.ref _) => none
  | _, .o (.ins _ _) => none
  | _, .o (.dic _ _) => none
  | _, .o (.fzd _ _) => none
  | _, .o (.hid _) => none
  | _, _ => some false
def oIsT (t : Ty) : G → C → Option R := fun _ c => (isT t c).map fun b => .d (.bl b)
/-! methods -/
def mAppend : List D → List D → Option (List D × D)
  | xs, [x] => if xs.length < most then some (xs ++ [x], .non) else none
  | _, _ => none
def mPop : List D → List D → Option (List D × D)
  | xs, [] => (xs[xs.length - 1]?).map fun y => (xs.dropLast, y)
  | _, _ => none
def mExtend : List D → C → Option (List D)
  | xs, .o (.lst ys) => if xs.length + ys.length ≤ most then some (xs ++ ys) else none
  | _, _ => none
def putIx : O → D → D → Option O
  | .lst xs, .int i, v => (idxOf xs.length i).map fun k => .lst (xs.set k v)
  | .dic t kvs, k, v => if keyOk t k = true ∧ kvs.length < most then some (.dic t (putK kvs k v)) else none
  | _, _, _ => none
/-- the greatest and the least of a list of ints -/
def topI : List Int → Option Int
  | [] => none
  | x :: xs => some (xs.foldl max x)
def lowI : List Int → Option Int
  | [] => none
  | x :: xs => some (xs.foldl min x)
def oMinL : G → C → Option R
  | _, .o (.lst xs) => (intsD xs).bind fun bs => (lowI bs).map fun m => .d (.int m)
  | _, _ => none
end Pd
set_option Elab.async false
set_option linter.all false
set_option maxRecDepth 100000
namespace Pd
open PySem PySem.Spec PyProof.Rows L2

/-- what is fixed through a law: the text, the world, the written part, where the classes stand -/
structure Bx where
  P : Program
  w : World
  K : PySem.W.Frag
  cl : String → Option Addr

def SqF (K : PySem.W.Frag) (H : Hp) (a : Addr) (xs : List V) : Prop :=
  (∃ o, H a = some (.frz o (.lst xs))) ∨
    ∃ (o : Obj) (its : Array Value) (n : Nat), K.lookup a = some o ∧ o.cls = .type "list" ∧ o.dict = none ∧ o.data = .seq its n ∧ its.size ≤ sizeLine ∧ Vals xs its.toList
theorem SqF.seq {K : PySem.W.Frag} {H : Hp} {a : Addr} {xs : List V} (h : SqF K H a xs) : SqL K H a xs := by
  rcases h with ⟨o, h⟩ | h
  · exact .inl (.inr ⟨o, h⟩)
  · exact .inr h

/-- signs that there are -/
def OkS (s : List Nat) : Prop := ∀ c ∈ s, c < 1114112
mutual
inductive RV (K : PySem.W.Frag) (H : Hp) : D → V → Prop
  | non : RV K H .non .non
  | bl (b : Bool) : RV K H (.bl b) (.bl b)
  | int (i : Int) : RV K H (.int i) (.int i)
  | str (s : List Nat) (h : OkS s) : RV K H (.str s) (.str ⟨s.toArray⟩)
  | ref (a : Nat) : RV K H (.ref a) (.ref a)
  | tup {p : Addr} {vs : List V} {ds : List D} : SqT K H p vs → RVs K H ds vs → RV K H (.tup ds) (.ref p)
  | rol {p : Addr} {vs : List V} {ds : List D} : SqF K H p vs → RVs K H ds vs → RV K H (.rol ds) (.ref p)
inductive RVs (K : PySem.W.Frag) (H : Hp) : List D → List V → Prop
  | nil : RVs K H [] []
  | cons {d : D} {v : V} {ds : List D} {vs : List V} : RV K H d v → RVs K H ds vs → RVs K H (d :: ds) (v :: vs)
end

/-- what never changes is kept -/
structure Keep (H H' : Hp) : Prop where
  tup : ∀ a xs, H a = some (.tup xs) → H' a = some (.tup xs)
  frl : ∀ a o xs, H a = some (.frz o (.lst xs)) → H' a = some (.frz o (.lst xs))
  frt : ∀ a o xs, H a = some (.frz o (.tup xs)) → H' a = some (.frz o (.tup xs))
  xd : ∀ a fs, H a = some (.xd fs) → H' a = some (.xd fs)
  frz : ∀ a o u, H a = some (.frz o u) → H' a = some (.frz o u)
theorem Keep.refl (H : Hp) : Keep H H := ⟨fun _ _ h => h, fun _ _ _ h => h, fun _ _ _ h => h, fun _ _ h => h, fun _ _ _ h => h⟩
theorem Keep.trans {a b c : Hp} (x : Keep a b) (y : Keep b c) : Keep a c :=
  ⟨fun p q h => y.tup p q (x.tup p q h), fun p q r h => y.frl p q r (x.frl p q r h), fun p q r h => y.frt p q r (x.frt p q r h), fun p q h => y.xd p q (x.xd p q h), fun p q r h => y.frz p q r (x.frz p q r h)⟩
/-- what a write may stand upon -/
def Soft : Option HO → Prop
  | some (.tup _) => False
  | some (.frz _ _) => False
  | some (.xd _) => False
  | _ => True
theorem Keep.upd {H : Hp} {a : Addr} {o : HO} (h : Soft (H a)) : Keep H (L2.upd H a o) := by
  have ne : ∀ b u, H b = some u → ¬ Soft (some u) → b ≠ a := fun b u e n z => by subst z; rw [e] at h; exact n h
  exact ⟨fun b xs e => by rw [upd_ne (ne b _ e (fun z => z))]; exact e, fun b o xs e => by rw [upd_ne (ne b _ e (fun z => z))]; exact e,
    fun b o xs e => by rw [upd_ne (ne b _ e (fun z => z))]; exact e, fun b xs e => by rw [upd_ne (ne b _ e (fun z => z))]; exact e, fun b o u e => by rw [upd_ne (ne b _ e (fun z => z))]; exact e⟩
theorem Keep.new {H : Hp} {a : Addr} {o : HO} (h : H a = none) : Keep H (L2.upd H a o) := Keep.upd (by rw [h]; trivial)
theorem Keep.sqT {K : PySem.W.Frag} {H H' : Hp} {a : Addr} {xs : List V} (k : Keep H H') (h : SqT K H a xs) : SqT K H' a xs := by
  rcases h with (h | ⟨o, h⟩) | h
  · exact .inl (.inl (k.tup _ _ h))
  · exact .inl (.inr ⟨o, k.frt _ _ _ h⟩)
  · exact .inr h
theorem Keep.sqF {K : PySem.W.Frag} {H H' : Hp} {a : Addr} {xs : List V} (k : Keep H H') (h : SqF K H a xs) : SqF K H' a xs := by
  rcases h with ⟨o, h⟩ | h
  · exact .inl ⟨o, k.frl _ _ _ h⟩
  · exact .inr h
mutual
theorem RV.keep {K : PySem.W.Frag} {H H' : Hp} (k : Keep H H') : ∀ {d : D} {v : V}, RV K H d v → RV K H' d v
  | _, _, .non => .non
  | _, _, .bl b => .bl b
  | _, _, .int i => .int i
  | _, _, .str s h => .str s h
  | _, _, .ref a => .ref a
  | _, _, .tup h r => .tup (k.sqT h) (RVs.keep k r)
  | _, _, .rol h r => .rol (k.sqF h) (RVs.keep k r)
theorem RVs.keep {K : PySem.W.Frag} {H H' : Hp} (k : Keep H H') : ∀ {d : List D} {v : List V}, RVs K H d v → RVs K H' d v
  | _, _, .nil => .nil
  | _, _, .cons r t => .cons (RV.keep k r) (RVs.keep k t)
end
section
variable {K : PySem.W.Frag} {H : Hp}
theorem RVs.length : ∀ {ds : List D} {vs : List V}, RVs K H ds vs → ds.length = vs.length
  | _, _, .nil => rfl
  | _, _, .cons _ t => by simp [RVs.length t]
theorem RVs.append : ∀ {ds : List D} {vs : List V} {ds' : List D} {vs' : List V}, RVs K H ds vs → RVs K H ds' vs' → RVs K H (ds ++ ds') (vs ++ vs')
  | _, _, _, _, .nil, h => h
  | _, _, _, _, .cons r t, h => .cons r (RVs.append t h)
theorem RVs.get : ∀ {ds : List D} {vs : List V} {i : Nat} {d : D}, RVs K H ds vs → ds[i]? = some d → ∃ v, vs[i]? = some v ∧ RV K H d v
  | _, _, _, _, .nil, e => by simp at e
  | _, _, 0, _, .cons r _, e => by simp at e; subst e; exact ⟨_, rfl, r⟩
  | _, _, i + 1, d, .cons _ t, e => by
    obtain ⟨v, h1, h2⟩ := RVs.get (i := i) (d := d) t (by simpa using e)
    exact ⟨v, by simpa using h1, h2⟩
theorem RVs.take : ∀ {ds : List D} {vs : List V} (n : Nat), RVs K H ds vs → RVs K H (ds.take n) (vs.take n)
  | _, _, 0, _ => .nil
  | _, _, _ + 1, .nil => .nil
  | _, _, n + 1, .cons r t => .cons r (RVs.take n t)
theorem RVs.drop : ∀ {ds : List D} {vs : List V} (n : Nat), RVs K H ds vs → RVs K H (ds.drop n) (vs.drop n)
  | _, _, 0, r => r
  | _, _, _ + 1, .nil => .nil
  | _, _, n + 1, .cons _ t => RVs.drop n t
theorem RVs.set {d : D} {v : V} (r : RV K H d v) : ∀ {ds : List D} {vs : List V} (i : Nat), RVs K H ds vs → RVs K H (ds.set i d) (vs.set i v)
  | _, _, _, .nil => .nil
  | _, _, 0, .cons _ t => .cons r t
  | _, _, i + 1, .cons q t => .cons q (RVs.set r i t)
theorem RVs.dropLast : ∀ {ds : List D} {vs : List V}, RVs K H ds vs → RVs K H ds.dropLast vs.dropLast
  | _, _, .nil => .nil
  | _, _, .cons _ .nil => .nil
  | _, _, .cons q (.cons r t) => .cons q (RVs.dropLast (.cons r t))
theorem RVs.rep {ds : List D} {vs : List V} (h : RVs K H ds vs) : ∀ k : Nat, RVs K H (List.replicate k ds).flatten (List.replicate k vs).flatten
  | 0 => .nil
  | k + 1 => by rw [List.replicate_succ, List.replicate_succ, List.flatten_cons, List.flatten_cons]; exact h.append (RVs.rep h k)
end

/-- a dict whose keys are nested tuples: its entries as they stand -/
def dN (P : Program) (w : World) (a : Addr) (xs : List (NestedKey × Addr × Value)) : HO :=
  .ext fun h => ∃ o es ep, h.get? a = some o ∧ o.ExactDict ∧ o.data = .dict es ep ∧ es.toList = xs.map (entryOfKey (nestedKind P w))
mutual
def nk : D → Option NestedKey
  | .non => some .none
  | .int i => some (.num i)
  | .str s => some (.text ⟨s.toArray⟩)
  | .tup xs => (nks xs).map .tup
  | _ => none
def nks : List D → Option (List NestedKey)
  | [] => some []
  | x :: xs => match nk x, nks xs with
    | some k, some ks => some (k :: ks)
    | _, _ => none
end
def RDic (B : Bx) (H : Hp) (t : Bool) (kvs : List (D × D)) (a : Addr) : Prop := match t with
  | false => ∃ ks : List (Key × V), H a = some (.dK ks) ∧ (ks.map (·.1)).Nodup ∧ Paired (fun (p : D × D) (q : Key × V) => RV B.K H p.1 (kV q.1) ∧ RV B.K H p.2 q.2) kvs ks
  | true => (kvs = [] ∧ H a = some (.dK [])) ∨
    (∃ xs : List (NestedKey × Addr × Value), H a = some (dN B.P B.w a xs) ∧ (a == sysModules) = false ∧ (xs.map (·.1)).Nodup ∧ xs.length ≤ sizeLine ∧
      Paired (fun (p : D × D) (x : NestedKey × Addr × Value) => nk p.1 = some x.1 ∧ p.1.depth ≤ 8 ∧ RV B.K H p.1 (.ref x.2.1) ∧ ∃ v, RelV v x.2.2 ∧ RV B.K H p.2 v) kvs xs)
/-- the same, locked for good -/
def FzD (B : Bx) (H : Hp) (kvs : List (D × D)) (a : Addr) : Prop :=
  (kvs = [] ∧ ∃ od, H a = some (.frz od (.dK []))) ∨
    (∃ (od : Obj) (xs : List (NestedKey × Addr × Value)), H a = some (.frz od (dN B.P B.w a xs)) ∧ (a == sysModules) = false ∧ (xs.map (·.1)).Nodup ∧ xs.length ≤ sizeLine ∧
      Paired (fun (p : D × D) (x : NestedKey × Addr × Value) => nk p.1 = some x.1 ∧ p.1.depth ≤ 8 ∧ RV B.K H p.1 (.ref x.2.1) ∧ ∃ v, RelV v x.2.2 ∧ RV B.K H p.2 v) kvs xs)
theorem FzD.keep {B : Bx} {H H' : Hp} {kvs : List (D × D)} {a : Addr} (k : Keep H H') (h : FzD B H kvs a) : FzD B H' kvs a := by
  rcases h with ⟨h0, od, q⟩ | ⟨od, xs, q, h1, h2, h3, r⟩
  · exact .inl ⟨h0, od, k.frz _ _ _ q⟩
  · exact .inr ⟨od, xs, k.frz _ _ _ q, h1, h2, h3, L2.Paired.mapP r fun _ _ ⟨z1, z2, z3, v, z4, z5⟩ => ⟨z1, z2, z3.keep k, v, z4, z5.keep k⟩⟩
def RFs (K : PySem.W.Frag) (H : Hp) : List (String × D) → List (Str × V) → Prop := Paired fun p q => Str.ofString p.1 = q.1 ∧ RV K H p.2 q.2
def RO (B : Bx) (H : Hp) (o : O) (a : Addr) : Prop := match o with
  | .lst ds => ∃ vs, H a = some (.lst vs) ∧ RVs B.K H ds vs
  | .hid ds => ∃ vs, H a = some (.lst vs) ∧ RVs B.K H ds vs
  | .dic t kvs => RDic B H t kvs a
  | .ins c fs => ∃ C dx vfs, B.cl c = some C ∧ H a = some (.ins C dx vfs) ∧ RFs B.K H fs vfs
  | .fzd t kvs => match t with
    | false => ∃ (od : Obj) (ks : List (Key × V)), H a = some (.frz od (.dK ks)) ∧ (ks.map (·.1)).Nodup ∧ Paired (fun (p : D × D) (q : Key × V) => RV B.K H p.1 (kV q.1) ∧ RV B.K H p.2 q.2) kvs ks
    | true => FzD B H kvs a
theorem RO.there {B : Bx} {H : Hp} {o : O} {a : Addr} (h : RO B H o a) : ∃ u, H a = some u ∧ (o.soft = true → Soft (some u)) := by
  cases o with
  | lst ds => obtain ⟨vs, e, _⟩ := h; exact ⟨_, e, fun _ => trivial⟩
  | hid ds => obtain ⟨vs, e, _⟩ := h; exact ⟨_, e, fun _ => trivial⟩
  | dic t kvs =>
    cases t with
    | false => obtain ⟨ks, e, _⟩ := h; exact ⟨_, e, fun _ => trivial⟩
    | true =>
      rcases h with ⟨_, e⟩ | ⟨xs, e, _⟩
      · exact ⟨_, e, fun _ => trivial⟩
      · exact ⟨_, e, fun _ => trivial⟩
  | ins c fs => obtain ⟨C, dx, vfs, _, e, _⟩ := h; exact ⟨_, e, fun _ => trivial⟩
  | fzd t kvs =>
    cases t with
    | false => obtain ⟨od, ks, e, _⟩ := h; exact ⟨_, e, fun z => by cases z⟩
    | true =>
      rcases h with ⟨_, od, e⟩ | ⟨od, xs, e, _⟩
      · exact ⟨_, e, fun z => by cases z⟩
      · exact ⟨_, e, fun z => by cases z⟩
theorem RO.soft {B : Bx} {H : Hp} {o : O} {a : Addr} (h : RO B H o a) (hs : o.soft = true := by rfl) : Soft (H a) := by
  obtain ⟨u, e, s⟩ := h.there; rw [e]; exact s hs
theorem RO.keep {B : Bx} {H H' : Hp} {o : O} {a : Addr} (k : Keep H H') (e : H' a = H a) (h : RO B H o a) : RO B H' o a := by
  cases o with
  | lst ds => obtain ⟨vs, q, r⟩ := h; exact ⟨vs, e.trans q, r.keep k⟩
  | hid ds => obtain ⟨vs, q, r⟩ := h; exact ⟨vs, e.trans q, r.keep k⟩
  | dic t kvs =>
    cases t with
    | false =>
      obtain ⟨ks, q, hn, r⟩ := h
      exact ⟨ks, e.trans q, hn, L2.Paired.mapP r fun _ _ z => ⟨z.1.keep k, z.2.keep k⟩⟩
    | true =>
      rcases h with ⟨h0, q⟩ | ⟨xs, q, h1, h2, h3, r⟩
      · exact .inl ⟨h0, e.trans q⟩
      exact .inr ⟨xs, e.trans q, h1, h2, h3, L2.Paired.mapP r fun _ _ ⟨z1, z2, z3, v, z4, z5⟩ => ⟨z1, z2, z3.keep k, v, z4, z5.keep k⟩⟩
  | ins c fs =>
    obtain ⟨C, dx, vfs, h1, q, r⟩ := h
    exact ⟨C, dx, vfs, h1, e.trans q, L2.Paired.mapP r fun _ _ z => ⟨z.1, z.2.keep k⟩⟩
  | fzd t kvs =>
    cases t with
    | false =>
      obtain ⟨od, ks, q, hn, r⟩ := h
      exact ⟨od, ks, e.trans q, hn, L2.Paired.mapP r fun _ _ z => ⟨z.1.keep k, z.2.keep k⟩⟩
    | true => exact FzD.keep k h

abbrev Own := List (Addr × O)
def Glob (B : Bx) (g : G) (H : Hp) : Prop := ∀ a o, g a = some o → RO B H o a
def Owns (B : Bx) (g : G) (W : Own) (H : Hp) : Prop := (∀ p ∈ W, RO B H p.2 p.1 ∧ g p.1 = none) ∧ (W.map (·.1)).Nodup
def own1 : Option Sl → Option V → Own
  | some (.own o), some (.ref a) => [(a, o)]
  | _, _ => []
def ownL : Psi → L2.St → Own
  | s :: ψ, v :: σ => own1 s v ++ ownL ψ σ
  | _, _ => []
def SlRel (B : Bx) (F : Own) (H : Hp) : Sl → V → Prop
  | .d x, v => RV B.K H x v
  | .own _, v => ∃ a, v = .ref a
  | .bor o, v => ∃ a, v = .ref a ∧ (a, o) ∈ F
  | .fz kvs, v => ∃ a, v = .ref a ∧ FzD B H kvs a
/-- the slots and objects as told lie in the slots and objects as tracked: F what was lent to the def, T what is at hand -/
structure Rel (B : Bx) (F : Own) (ψ : Psi) (g : G) (T : Own) (σ : L2.St) (H : Hp) : Prop where
  len : ψ.length = σ.length
  sl : ∀ (i : Nat) s, ψ[i]? = some (some s) → ∃ v, σ[i]? = some (some v) ∧ SlRel B F H s v
  gl : Glob B g H
  ow : Owns B g (ownL ψ σ ++ (T ++ F)) H

theorem Owns.perm {B : Bx} {g : G} {W W' : Own} {H : Hp} (h : Owns B g W H) (p : W.Perm W') : Owns B g W' H :=
  ⟨fun x hx => h.1 x (p.mem_iff.mpr hx), (p.map (·.1)).nodup_iff.mp h.2⟩
theorem Owns.sub {B : Bx} {g : G} {W W' : Own} {H : Hp} (h : Owns B g W H) (p : W'.Sublist W) : Owns B g W' H :=
  ⟨fun x hx => h.1 x (p.subset hx), h.2.sublist (p.map _)⟩
theorem ownL_set : ∀ {ψ : Psi} {σ : L2.St} {i : Nat}, ψ.length = σ.length → i < ψ.length →
    ∃ L s0 v0, ψ[i]? = some s0 ∧ σ[i]? = some v0 ∧ (ownL ψ σ).Perm (own1 s0 v0 ++ L) ∧ ∀ s v, (ownL (ψ.set i s) (σ.set i v)).Perm (own1 s v ++ L)
  | s :: ψ, v :: σ, 0, _, _ => ⟨ownL ψ σ, s, v, rfl, rfl, .refl _, fun _ _ => .refl _⟩
  | s :: ψ, v :: σ, i + 1, hl, hi => by
    obtain ⟨L, s0, v0, h1, h2, h3, h4⟩ := ownL_set (ψ := ψ) (σ := σ) (i := i) (by simpa using hl) (by simpa using hi)
    refine ⟨own1 s v ++ L, s0, v0, by simpa using h1, by simpa using h2, ?_, fun s' v' => ?_⟩
    · show (own1 s v ++ ownL ψ σ).Perm (own1 s0 v0 ++ (own1 s v ++ L))
      refine (h3.append_left _).trans ?_
      rw [← List.append_assoc, ← List.append_assoc]
      exact List.perm_append_comm.append_right _
    · show (own1 s v ++ ownL (ψ.set i s') (σ.set i v')).Perm (own1 s' v' ++ (own1 s v ++ L))
      refine ((h4 s' v').append_left _).trans ?_
      rw [← List.append_assoc, ← List.append_assoc]
      exact List.perm_append_comm.append_right _
theorem own1_set (σ : L2.St) (i : Nat) (v : Option V) (h : σ[i]? = some v) : σ.set i v = σ := by
  refine List.ext_getElem? fun j => ?_
  rw [List.getElem?_set]
  split
  · rename_i e; subst e
    split
    · exact h.symm
    · rename_i hl; rw [List.getElem?_eq_none (Nat.le_of_not_lt hl)] at h; cases h
  · rfl

section
variable {B : Bx} {F : Own} {ψ : Psi} {g : G} {T : Own} {σ : L2.St} {H H' : Hp}
theorem Rel.fresh (R : Rel B F ψ g T σ H) {p : Addr} (h : H p = none) : g p = none ∧ ∀ q ∈ ownL ψ σ ++ (T ++ F), q.1 ≠ p := by
  constructor
  · cases e : g p with
    | none => rfl
    | some o => obtain ⟨u, q, _⟩ := (R.gl p o e).there; rw [h] at q; cases q
  · rintro q hq rfl
    obtain ⟨u, e, _⟩ := (R.ow.1 q hq).1.there
    rw [h] at e; cases e
theorem SlRel.keep (k : Keep H H') {s : Sl} {v : V} (h : SlRel B F H s v) : SlRel B F H' s v := by
  cases s with
  | d x => exact RV.keep k h
  | own o => exact h
  | bor o => exact h
  | fz kvs => obtain ⟨a, e, z⟩ := h; exact ⟨a, e, z.keep k⟩
/-- the heap grows or changes elsewhere -/
theorem Rel.move (R : Rel B F ψ g T σ H) (k : Keep H H') (e1 : ∀ a o, g a = some o → H' a = H a) (e2 : ∀ p ∈ ownL ψ σ ++ (T ++ F), H' p.1 = H p.1) : Rel B F ψ g T σ H' :=
  ⟨R.len, fun i s h => let ⟨v, a, b⟩ := R.sl i s h; ⟨v, a, b.keep k⟩, fun a o h => (R.gl a o h).keep k (e1 a o h), fun p hp => ⟨((R.ow.1 p hp).1).keep k (e2 p hp), (R.ow.1 p hp).2⟩, R.ow.2⟩
theorem Rel.alloc (R : Rel B F ψ g T σ H) {p : Addr} {u : HO} (h : H p = none) : Rel B F ψ g T σ (L2.upd H p u) := by
  have hf := R.fresh h
  refine R.move (Keep.new h) (fun a o e => upd_ne fun z => ?_) fun q hq => upd_ne (hf.2 q hq)
  subst z; rw [hf.1] at e; cases e
theorem Rel.pushT (R : Rel B F ψ g T σ H) {p : Addr} {o : O} (h : RO B H o p) (hg : g p = none) (hn : ∀ q ∈ ownL ψ σ ++ (T ++ F), q.1 ≠ p) : Rel B F ψ g ((p, o) :: T) σ H := by
  refine ⟨R.len, R.sl, R.gl, ?_⟩
  refine Owns.perm (W := (p, o) :: (ownL ψ σ ++ (T ++ F))) ⟨fun q hq => ?_, ?_⟩ ?_
  · rcases List.mem_cons.mp hq with rfl | hq
    · exact ⟨h, hg⟩
    · exact R.ow.1 q hq
  · rw [List.map_cons, List.nodup_cons]
    refine ⟨fun hm => ?_, R.ow.2⟩
    obtain ⟨q, hq, e⟩ := List.mem_map.mp hm
    exact hn q hq e
  · exact List.perm_middle.symm
/-- a new object at hand -/
theorem Rel.new (R : Rel B F ψ g T σ H) {p : Addr} {u : HO} {o : O} (h : H p = none) (ho : RO B (L2.upd H p u) o p) : Rel B F ψ g ((p, o) :: T) σ (L2.upd H p u) :=
  (R.alloc h).pushT ho (R.fresh h).1 (R.fresh h).2
theorem Rel.dropT {T' : Own} (R : Rel B F ψ g (T' ++ T) σ H) : Rel B F ψ g T σ H :=
  ⟨R.len, R.sl, R.gl, R.ow.sub (List.Sublist.append (List.Sublist.refl _) (List.Sublist.append (List.sublist_append_right _ _) (List.Sublist.refl _)))⟩
theorem Rel.drop1 {p : Addr × O} (R : Rel B F ψ g (p :: T) σ H) : Rel B F ψ g T σ H := Rel.dropT (T' := [p]) R
theorem Rel.le (R : Rel B F ψ g T σ H) {g2 : G} (h : G.le g2 g) : Rel B F ψ g2 T σ H :=
  ⟨R.len, R.sl, fun a o e => R.gl a o (h a o e), fun p hp => ⟨(R.ow.1 p hp).1, by
    cases e : g2 p.1 with
    | none => rfl
    | some o => have := (R.ow.1 p hp).2; rw [h _ _ e] at this; cases this⟩, R.ow.2⟩
theorem Rel.lt (R : Rel B F ψ g T σ H) {i : Nat} {s : Option Sl} (h : ψ[i]? = some s) : i < ψ.length := (List.getElem?_eq_some_iff.mp h).1
/-- a slot stores a value -/
theorem Rel.setD (R : Rel B F ψ g T σ H) {i : Nat} {x : D} {v : V} (h : RV B.K H x v) : Rel B F (ψ.set i (some (.d x))) g T (σ.set i (some v)) H := by
  refine ⟨by simp [R.len], fun j s e => ?_, R.gl, ?_⟩
  · rw [List.getElem?_set] at e
    split at e
    · rename_i hij; subst hij
      split at e
      · rename_i hl
        cases e
        exact ⟨v, by rw [List.getElem?_set_self (by rw [← R.len]; exact hl)], h⟩
      · cases e
    · rename_i hij
      obtain ⟨u, a, b⟩ := R.sl j s e
      exact ⟨u, by rw [List.getElem?_set_ne hij]; exact a, b⟩
  · by_cases hi : i < ψ.length
    · obtain ⟨L, s0, v0, _, _, h3, h4⟩ := ownL_set R.len hi
      refine (R.ow.sub (W' := ownL ψ σ ++ (T ++ F)) (List.Sublist.refl _)).perm (h3.append_right _) |>.sub (W' := L ++ (T ++ F)) ?_ |>.perm ?_
      · rw [List.append_assoc]; exact List.sublist_append_right _ _
      · exact ((h4 (some (.d x)) (some v)).append_right _).symm
    · rw [List.set_eq_of_length_le (Nat.le_of_not_lt hi), List.set_eq_of_length_le (by rw [← R.len]; exact Nat.le_of_not_lt hi)]
      exact R.ow
/-- a slot is forgotten -/
theorem Rel.setN (R : Rel B F ψ g T σ H) {i : Nat} {v : Option V} : Rel B F (ψ.set i none) g T (σ.set i v) H := by
  refine ⟨by simp [R.len], fun j s e => ?_, R.gl, ?_⟩
  · rw [List.getElem?_set] at e
    split at e
    · split at e <;> cases e
    · rename_i hij
      obtain ⟨u, a, b⟩ := R.sl j s e
      exact ⟨u, by rw [List.getElem?_set_ne hij]; exact a, b⟩
  · by_cases hi : i < ψ.length
    · obtain ⟨L, s0, v0, _, _, h3, h4⟩ := ownL_set R.len hi
      refine R.ow.perm (h3.append_right _) |>.sub (W' := L ++ (T ++ F)) ?_ |>.perm ?_
      · rw [List.append_assoc]; exact List.sublist_append_right _ _
      · exact ((h4 none v).append_right _).symm
    · rw [List.set_eq_of_length_le (Nat.le_of_not_lt hi), List.set_eq_of_length_le (by rw [← R.len]; exact Nat.le_of_not_lt hi)]
      exact R.ow
/-- a slot takes an object at hand -/
theorem Rel.setOwn {a : Addr} {o : O} (R : Rel B F ψ g ((a, o) :: T) σ H) {i : Nat} (hi : i < ψ.length) : Rel B F (ψ.set i (some (.own o))) g T (σ.set i (some (.ref a))) H := by
  refine ⟨by simp [R.len], fun j s e => ?_, R.gl, ?_⟩
  · rw [List.getElem?_set] at e
    split at e
    · rename_i hij; subst hij
      cases e
      exact ⟨.ref a, by rw [List.getElem?_set_self (by rw [← R.len]; exact hi)], a, rfl⟩
    · rename_i hij
      obtain ⟨u, a, b⟩ := R.sl j s e
      exact ⟨u, by rw [List.getElem?_set_ne hij]; exact a, b⟩
  · obtain ⟨L, s0, v0, _, _, h3, h4⟩ := ownL_set R.len hi
    refine R.ow.perm (h3.append_right _) |>.sub (W' := L ++ ((a, o) :: T ++ F)) ?_ |>.perm ?_
    · rw [List.append_assoc]; exact List.sublist_append_right _ _
    · refine List.Perm.trans ?_ ((h4 (some (.own o)) (some (.ref a))).append_right _).symm
      exact List.perm_middle
/-- a slot takes what was lent -/
theorem Rel.setBor (R : Rel B F ψ g T σ H) {i : Nat} {a : Addr} {o : O} (h : (a, o) ∈ F) : Rel B F (ψ.set i (some (.bor o))) g T (σ.set i (some (.ref a))) H := by
  refine ⟨by simp [R.len], fun j s e => ?_, R.gl, ?_⟩
  · rw [List.getElem?_set] at e
    split at e
    · rename_i hij; subst hij
      split at e
      · rename_i hl
        cases e
        exact ⟨.ref a, by rw [List.getElem?_set_self (by rw [← R.len]; exact hl)], a, rfl, h⟩
      · cases e
    · rename_i hij
      obtain ⟨u, a, b⟩ := R.sl j s e
      exact ⟨u, by rw [List.getElem?_set_ne hij]; exact a, b⟩
  · by_cases hi : i < ψ.length
    · obtain ⟨L, s0, v0, _, _, h3, h4⟩ := ownL_set R.len hi
      refine R.ow.perm (h3.append_right _) |>.sub (W' := L ++ (T ++ F)) ?_ |>.perm ?_
      · rw [List.append_assoc]; exact List.sublist_append_right _ _
      · exact ((h4 (some (.bor o)) (some (.ref a))).append_right _).symm
    · rw [List.set_eq_of_length_le (Nat.le_of_not_lt hi), List.set_eq_of_length_le (by rw [← R.len]; exact Nat.le_of_not_lt hi)]
      exact R.ow
/-- the object of a slot: where it stands -/
theorem Rel.ownAt (R : Rel B F ψ g T σ H) {i : Nat} {o : O} (h : ψ[i]? = some (some (.own o))) :
    ∃ a L, σ[i]? = some (some (.ref a)) ∧ (ownL ψ σ ++ (T ++ F)).Perm ((a, o) :: (L ++ (T ++ F))) ∧ ∀ s v, (ownL (ψ.set i s) (σ.set i v) ++ (T ++ F)).Perm (own1 s v ++ (L ++ (T ++ F))) := by
  obtain ⟨v, e, a, rfl⟩ := R.sl i _ h
  obtain ⟨L, s0, v0, h1, h2, h3, h4⟩ := ownL_set R.len (R.lt h)
  rw [h] at h1; cases h1
  rw [e] at h2; cases h2
  refine ⟨a, L, e, h3.append_right _, fun s v => ?_⟩
  refine ((h4 s v).append_right (T ++ F)).trans ?_
  rw [List.append_assoc]
/-- what is at hand is given away -/
theorem Rel.giveT {a : Addr} {o : O} (R : Rel B F ψ g ((a, o) :: T) σ H) : g a = none ∧ Rel B F ψ (g.upd a o) T σ H := by
  have hp : (ownL ψ σ ++ ((a, o) :: T ++ F)).Perm ((a, o) :: (ownL ψ σ ++ (T ++ F))) := List.perm_middle
  have hw := R.ow.perm hp
  have h0 := hw.1 (a, o) (List.Mem.head _)
  refine ⟨h0.2, R.len, R.sl, fun b u e => ?_, fun q hq => ?_, ?_⟩
  · by_cases hb : b = a
    · subst hb; rw [G.upd_same] at e; cases e; exact h0.1
    · rw [G.upd_ne hb] at e; exact R.gl b u e
  · refine ⟨(hw.1 q (List.Mem.tail _ hq)).1, ?_⟩
    have hne : q.1 ≠ a := fun z => by
      have := hw.2
      rw [List.map_cons, List.nodup_cons] at this
      exact this.1 (List.mem_map.mpr ⟨q, hq, z⟩)
    rw [G.upd_ne hne]; exact (hw.1 q (List.Mem.tail _ hq)).2
  · have := hw.2
    rw [List.map_cons, List.nodup_cons] at this
    exact this.2
theorem Rel.giveS (R : Rel B F ψ g T σ H) {i : Nat} {o : O} (h : ψ[i]? = some (some (.own o))) : ∃ a, σ[i]? = some (some (.ref a)) ∧ g a = none ∧ Rel B F (ψ.set i (some (.d (.ref a)))) (g.upd a o) T σ H := by
  obtain ⟨a, L, e, hp, h4⟩ := R.ownAt h
  have hw := R.ow.perm hp
  have h0 := hw.1 (a, o) (List.Mem.head _)
  have hnd := hw.2
  rw [List.map_cons, List.nodup_cons] at hnd
  refine ⟨a, e, h0.2, by simp [R.len], fun j s q => ?_, fun b u q => ?_, ?_⟩
  · rw [List.getElem?_set] at q
    split at q
    · rename_i hij; subst hij
      split at q <;> cases q
      exact ⟨_, e, .ref a⟩
    · exact R.sl j s q
  · by_cases hb : b = a
    · subst hb; rw [G.upd_same] at q; cases q; exact h0.1
    · rw [G.upd_ne hb] at q; exact R.gl b u q
  · have hq := h4 (some (.d (.ref a))) (some (.ref a))
    rw [own1_set σ i _ e] at hq
    refine Owns.perm (W := L ++ (T ++ F)) ⟨fun q hq => ?_, hnd.2⟩ hq.symm
    refine ⟨(hw.1 q (List.Mem.tail _ hq)).1, ?_⟩
    have hne : q.1 ≠ a := fun z => hnd.1 (List.mem_map.mpr ⟨q, hq, z⟩)
    rw [G.upd_ne hne]; exact (hw.1 q (List.Mem.tail _ hq)).2
/-- the object of a slot is written -/
theorem Rel.writeS (R : Rel B F ψ g T σ H) {i : Nat} {o o' : O} {a : Addr} {u : HO} (h : ψ[i]? = some (some (.own o))) (e : σ[i]? = some (some (.ref a))) (ho : RO B (L2.upd H a u) o' a) (hs : o.soft = true := by rfl) :
    Rel B F (ψ.set i (some (.own o'))) g T σ (L2.upd H a u) ∧ Keep H (L2.upd H a u) := by
  obtain ⟨a', L, e', hp, h4⟩ := R.ownAt h
  rw [e] at e'; cases e'
  have hw := R.ow.perm hp
  have h0 := hw.1 (a, o) (List.Mem.head _)
  have hnd := hw.2
  rw [List.map_cons, List.nodup_cons] at hnd
  have k : Keep H (L2.upd H a u) := Keep.upd (h0.1.soft hs)
  refine ⟨⟨by simp [R.len], fun j s q => ?_, fun b v q => ?_, ?_⟩, k⟩
  · rw [List.getElem?_set] at q
    split at q
    · rename_i hij; subst hij
      split at q <;> cases q
      exact ⟨_, e, a, rfl⟩
    · obtain ⟨v, x, y⟩ := R.sl j s q
      exact ⟨v, x, y.keep k⟩
  · refine (R.gl b v q).keep k (upd_ne fun z => ?_)
    subst z; rw [h0.2] at q; cases q
  · have hq := h4 (some (.own o')) (some (.ref a))
    rw [own1_set σ i _ e] at hq
    refine Owns.perm (W := (a, o') :: (L ++ (T ++ F))) ⟨fun q hq => ?_, by rw [List.map_cons, List.nodup_cons]; exact hnd⟩ hq.symm
    rcases List.mem_cons.mp hq with rfl | hq
    · exact ⟨ho, h0.2⟩
    · refine ⟨((hw.1 q (List.Mem.tail _ hq)).1).keep k (upd_ne fun z => hnd.1 (List.mem_map.mpr ⟨q, hq, z⟩)), (hw.1 q (List.Mem.tail _ hq)).2⟩
/-- a known object is written -/
theorem Rel.writeG (R : Rel B F ψ g T σ H) {o o' : O} {a : Addr} {u : HO} (h : g a = some o) (ho : RO B (L2.upd H a u) o' a) (hs : o.soft = true := by rfl) :
    Rel B F ψ (g.upd a o') T σ (L2.upd H a u) ∧ Keep H (L2.upd H a u) := by
  have k : Keep H (L2.upd H a u) := Keep.upd ((R.gl a o h).soft hs)
  have ne : ∀ q ∈ ownL ψ σ ++ (T ++ F), q.1 ≠ a := fun q hq z => by
    have := (R.ow.1 q hq).2; rw [z, h] at this; cases this
  refine ⟨⟨R.len, fun j s q => ?_, fun b v q => ?_, fun q hq => ?_, R.ow.2⟩, k⟩
  · obtain ⟨v, x, y⟩ := R.sl j s q
    exact ⟨v, x, y.keep k⟩
  · by_cases hb : b = a
    · subst hb; rw [G.upd_same] at q; cases q; exact ho
    · rw [G.upd_ne hb] at q
      exact (R.gl b v q).keep k (upd_ne hb)
  · exact ⟨((R.ow.1 q hq).1).keep k (upd_ne (ne q hq)), by rw [G.upd_ne (ne q hq)]; exact (R.ow.1 q hq).2⟩
end

/-- what an expression gave -/
def RR (B : Bx) (r : R) (v : V) (T T1 : Own) (σ : L2.St) (H : Hp) : Prop := match r with
  | .d x => RV B.K H x v ∧ T1 = T
  | .own o => ∃ a, v = .ref a ∧ T1 = (a, o) :: T
  | .sl i => σ[i]? = some (some v) ∧ T1 = T
theorem RR.suffix {B : Bx} {r : Pd.R} {v : V} {T T1 : Own} {σ : L2.St} {H : Hp} (h : RR B r v T T1 σ H) : ∃ T', T1 = T' ++ T := by
  cases r with
  | d x => exact ⟨[], h.2⟩
  | own o => obtain ⟨a, _, e⟩ := h; exact ⟨[(a, o)], e⟩
  | sl i => exact ⟨[], h.2⟩
theorem RR.keep {B : Bx} {r : Pd.R} {v : V} {T T1 : Own} {σ : L2.St} {H H' : Hp} (k : Keep H H') (h : RR B r v T T1 σ H) : RR B r v T T1 σ H' := by
  cases r with
  | d x => exact ⟨h.1.keep k, h.2⟩
  | own o => exact h
  | sl i => exact h
/-- what is read there -/
def RC (B : Bx) (H : Hp) : C → V → Prop
  | .d x, v => RV B.K H x v
  | .o o, v => ∃ a, v = .ref a ∧ RO B H o a
section
variable {B : Bx} {F : Own} {ψ : Psi} {g : G} {T T1 : Own} {σ : L2.St} {H H' : Hp}
theorem Rel.lookD (R : Rel B F ψ g T σ H) {x : D} {v : V} {c : C} (h : RV B.K H x v) (e : lookD g x = some c) : RC B H c v := by
  cases h with
  | ref a =>
    obtain ⟨o, h1, rfl⟩ := Option.map_eq_some_iff.mp e
    exact ⟨a, rfl, R.gl a o h1⟩
  | non => cases e; exact .non
  | bl b => cases e; exact .bl b
  | int i => cases e; exact .int i
  | str s h => cases e; exact .str s h
  | tup h r => cases e; exact .tup h r
  | rol h r => cases e; exact .rol h r
theorem Rel.look {T2 : Own} (R : Rel B F ψ g T2 σ H) {r : Pd.R} {v : V} {c : C} (h : RR B r v T T1 σ H) (e : look ψ g r = some c) (hT : ∃ T', T2 = T' ++ T1) : RC B H c v := by
  cases r with
  | d x => exact R.lookD h.1 e
  | own o =>
    obtain ⟨a, rfl, rfl⟩ := h
    obtain ⟨T', rfl⟩ := hT
    cases e
    exact ⟨a, rfl, (R.ow.1 (a, o) (by simp)).1⟩
  | sl i =>
    have e' : (match ψ[i]? with | some (some s) => lookS g s | _ => none) = some c := e
    cases q : ψ[i]? with
    | none => rw [q] at e'; cases e'
    | some s =>
      cases s with
      | none => rw [q] at e'; cases e'
      | some s =>
        rw [q] at e'
        obtain ⟨u, h1, h2⟩ := R.sl i s q
        rw [h.1] at h1; cases h1
        cases s with
        | d x => exact R.lookD h2 e'
        | own o =>
          cases e'
          obtain ⟨a, L, e2, hp, _⟩ := R.ownAt q
          rw [h.1] at e2; cases e2
          exact ⟨a, rfl, (R.ow.1 (a, o) (hp.mem_iff.mpr (List.Mem.head _))).1⟩
        | bor o =>
          cases e'
          obtain ⟨a, rfl, hF⟩ := h2
          exact ⟨a, rfl, (R.ow.1 (a, o) (by simp [hF])).1⟩
        | fz kvs => cases e'
/-- as a value to keep -/
theorem Rel.toD (R : Rel B F ψ g T1 σ H) {r : Pd.R} {v : V} {k : D → Psi → G → Prop} (h : RR B r v T T1 σ H) (q : toD r ψ g k) : ∃ x ψ1 g1, k x ψ1 g1 ∧ RV B.K H x v ∧ Rel B F ψ1 g1 T σ H := by
  cases r with
  | d x => exact ⟨x, ψ, g, q, h.1, by have := h.2; subst this; exact R⟩
  | own o =>
    obtain ⟨a, rfl, rfl⟩ := h
    obtain ⟨h1, h2⟩ := R.giveT
    exact ⟨.ref a, ψ, _, q a h1, .ref a, h2⟩
  | sl i =>
    obtain ⟨h1, rfl⟩ := h
    have q' : (match ψ[i]? with | some (some (.d x)) => k x ψ g | some (some (.own o)) => ∀ p, g p = none → k (.ref p) (ψ.set i (some (.d (.ref p)))) (g.upd p o) | _ => False) := q
    cases e : ψ[i]? with
    | none => rw [e] at q'; exact q'.elim
    | some s =>
      cases s with
      | none => rw [e] at q'; exact q'.elim
      | some s =>
        rw [e] at q'
        cases s with
        | d x =>
          obtain ⟨u, e1, e2⟩ := R.sl i _ e
          rw [h1] at e1; cases e1
          exact ⟨x, ψ, g, q', e2, R⟩
        | own o =>
          obtain ⟨a, e1, e2, R'⟩ := R.giveS e
          rw [h1] at e1; cases e1
          exact ⟨.ref a, _, _, q' a e2, .ref a, R'⟩
        | bor o => exact q'.elim
        | fz kvs => exact q'.elim
end
end Pd
set_option Elab.async false
set_option linter.all false
set_option maxRecDepth 100000
set_option maxHeartbeats 1000000
namespace Pd
open PySem PySem.Spec PyProof.Rows L2

/-- an exception as told: its class, its fields in its own dict -/
def RX (ec : String → Option Addr) (K : PySem.W.Frag) (x : Pd.X) (cls : Value) (dx : Option Addr) (H : Hp) : Prop :=
  (∃ c, ec x.cls = some c ∧ cls = .ref c) ∧ (∀ f v, x.fs.lookup f = some v → ∃ d fs u, dx = some d ∧ H d = some (.xd fs) ∧ fs.lookup (Str.ofString f) = some u ∧ RV K H v u) ∧ (dx = none ∨ ∃ d fs, dx = some d ∧ H d = some (.xd fs))
/-- the classes: of instances, of exceptions -/
structure Tb where
  cl : String → Option Addr
  ec : String → Option Addr
abbrev bx (X : Cx) (tb : Tb) : Bx := ⟨X.prog, X.w, X.K, tb.cl⟩
def ExOk (B : Bx) (ec : String → Option Addr) (W : WX) (E : EX) (F T : Own) (σ : L2.St) (H0 : Hp) : Prop :=
  ∀ x ψ g H cls dx, E x ψ g → Rel B F ψ g T σ H → RX ec B.K x cls dx H → Keep H0 H → W cls dx σ H
section
variable {B : Bx} {ec : String → Option Addr} {W : WX} {E : EX} {F T T' : Own} {σ : L2.St} {H0 H1 : Hp}
theorem ExOk.more (h : ExOk B ec W E F T σ H0) (k : Keep H0 H1) : ExOk B ec W E F (T' ++ T) σ H1 :=
  fun x ψ g H cls dx e R rx kk => h x ψ g H cls dx e R.dropT rx (k.trans kk)
theorem ExOk.on (h : ExOk B ec W E F T σ H0) (k : Keep H0 H1) : ExOk B ec W E F T σ H1 := ExOk.more (T' := []) h k
theorem ExOk.none : ExOk B ec W noX F T σ H0 := fun _ _ _ _ _ _ e => e.elim
end
section
variable (X : Cx) (tb : Tb) (W : WX)
def RefE (t : WE) (t0 : TE) : Prop := ∀ (E : EX) (F T : Own) (ψ : Psi) (g : G) (σ : L2.St) (H : Hp) (Q' : R → Psi → G → Prop) (Q : VK),
  Rel (bx X tb) F ψ g T σ H → ExOk (bx X tb) tb.ec W E F T σ H → t E ψ g Q' →
  (∀ r ψ1 g1 T1 v H1, Q' r ψ1 g1 → RR (bx X tb) r v T T1 σ H1 → Rel (bx X tb) F ψ1 g1 T1 σ H1 → Keep H H1 → Q v H1) → t0 σ H Q
def RefD (t : WD) (t0 : TA) (n : Nat) : Prop := ∀ (E : EX) (F T : Own) (ψ : Psi) (g : G) (σ : L2.St) (H : Hp) (Q' : List D → Psi → G → Prop) (Q : List V → Hp → Prop),
  Rel (bx X tb) F ψ g T σ H → ExOk (bx X tb) tb.ec W E F T σ H → t E ψ g Q' →
  (∀ ds ψ1 g1 vs H1, Q' ds ψ1 g1 → RVs X.K H1 ds vs → ds.length = n → Rel (bx X tb) F ψ1 g1 T σ H1 → Keep H H1 → Q vs H1) → t0 σ H Q
def RefT (t : WT) (t0 : TT) : Prop := ∀ (E : EX) (F T : Own) (ψ : Psi) (g : G) (σ : L2.St) (H : Hp) (Q' : Bool → Psi → G → Prop) (Q : Bool → Hp → Prop),
  Rel (bx X tb) F ψ g T σ H → ExOk (bx X tb) tb.ec W E F T σ H → t E ψ g Q' →
  (∀ b ψ1 g1 H1, Q' b ψ1 g1 → Rel (bx X tb) F ψ1 g1 T σ H1 → Keep H H1 → Q b H1) → t0 σ H Q
inductive RRs (B : Bx) (σ : L2.St) (H : Hp) : List R → List V → Own → Own → Prop
  | nil {T : Own} : RRs B σ H [] [] T T
  | cons {r : R} {v : V} {rs : List R} {vs : List V} {T T1 T2 : Own} : RR B r v T T1 σ H → RRs B σ H rs vs T1 T2 → RRs B σ H (r :: rs) (v :: vs) T T2
def RefA (t : WA) (t0 : TA) : Prop := ∀ (E : EX) (F T : Own) (ψ : Psi) (g : G) (σ : L2.St) (H : Hp) (Q' : List R → Psi → G → Prop) (Q : List V → Hp → Prop),
  Rel (bx X tb) F ψ g T σ H → ExOk (bx X tb) tb.ec W E F T σ H → t E ψ g Q' →
  (∀ rs ψ1 g1 T1 vs H1, Q' rs ψ1 g1 → RRs (bx X tb) σ H1 rs vs T T1 → Rel (bx X tb) F ψ1 g1 T1 σ H1 → Keep H H1 → Q vs H1) → t0 σ H Q
end
def DE (X : Cx) (tb : Tb) (e : Expr) (t : WE) : Prop := ∀ W : WX, Takes X W → ∃ t0, PE X e t0 ∧ RefE X tb W t t0
def DD (X : Cx) (tb : Tb) (es : List Expr) (t : WD) : Prop := ∀ W : WX, Takes X W → ∃ t0, PA X es t0 ∧ RefD X tb W t t0 es.length
def DA (X : Cx) (tb : Tb) (es : List Expr) (t : WA) : Prop := ∀ W : WX, Takes X W → ∃ t0, PA X es t0 ∧ RefA X tb W t t0
def DT (X : Cx) (tb : Tb) (e : Expr) (t : WT) : Prop := ∀ W : WX, Takes X W → ∃ t0, PT X e t0 ∧ RefT X tb W t t0
def DW (X : Cx) (tb : Tb) (e : Expr) (t : WT) : Prop := ∀ W : WX, Takes X W → ∃ t0, PW X e t0 ∧ RefT X tb W t t0
theorem DW.dt {X : Cx} {tb : Tb} {e : Expr} {t : WT} (h : DW X tb e t) : DT X tb e t := fun W tk => let ⟨t0, a, b⟩ := h W tk; ⟨t0, a.pt, b⟩

section
variable {X : Cx} {tb : Tb} {e a b : Expr} {ta te : WE} {u : WE} {pos : Pos}
/-! ### names, constants -/
theorem de_var (i : Nat) {x : Str} (hN : X.N[i]? = some x := by rfl) (hv : Vis X.env.scope x := by first | exact Or.inl rfl | exact Or.inr (Or.inl rfl) | exact Or.inr (Or.inr rfl)) (hd : (x == ("__debug__" : Str)) = false := by decide)
    (hcd : (x == ("__classdict__" : Str)) = false := by decide) : DE X tb (.Name x pos) (eVar i) := fun W tk =>
  ⟨_, pe_var hN hv hd hcd, fun E F T ψ g σ H Q' Q R ex q k => by
    have q' : (match ψ[i]? with | some (some _) => Q' (.sl i) ψ g | _ => False) := q
    cases e : ψ[i]? with
    | none => rw [e] at q'; exact q'.elim
    | some s =>
      cases s with
      | none => rw [e] at q'; exact q'.elim
      | some s =>
        rw [e] at q'
        obtain ⟨v, h1, h2⟩ := R.sl i s e
        exact ⟨v, h1, k _ ψ g T v H q' ⟨h1, rfl⟩ R (Keep.refl H)⟩⟩
theorem refC {W : WX} {x : D} {v : V} (h : ∀ H, RV X.K H x v) : RefE X tb W (eC x) (tC v) := fun E F T ψ g σ H Q' Q R ex q k => k _ ψ g T v H q ⟨h H, rfl⟩ R (Keep.refl H)
theorem de_int {i : Int} {j : Nat} : DE X tb (.Constant (.int i) j pos) (eC (.int i)) := fun W tk => ⟨_, pe_int, refC fun _ => .int i⟩
theorem de_bl {i : Bool} {j : Nat} : DE X tb (.Constant (.bool i) j pos) (eC (.bl i)) := fun W tk => ⟨_, pe_bl, refC fun _ => .bl i⟩
theorem de_non {j : Nat} : DE X tb (.Constant .none j pos) (eC .non) := fun W tk => ⟨_, pe_non, refC fun _ => .non⟩
theorem de_str (s : List Nat) {x : Str} {j : Nat} (h : x = ⟨s.toArray⟩ := by decide +kernel) (hs : (s.all fun c => decide (c < 1114112)) = true := by rfl) : DE X tb (.Constant (.str x) j pos) (eC (.str s)) := fun W tk => ⟨_, pe_str, refC fun _ => by rw [h]; exact .str s fun c hc => of_decide_eq_true (List.all_eq_true.mp hs c hc)⟩
/-- a constant of the module -/
structure GlV (mg : Str → Option Value) (K : PySem.W.Frag) (x : Str) (d : D) : Prop where
  is : ∃ u v, mg x = some u ∧ RelV v u ∧ ∀ H, RV K H d v
theorem de_glob {x : Str} {d : D} (h : GlV X.mg X.K x d) (hg : Gl X x := by rfl) (hd : (x == ("__debug__" : Str)) = false := by decide) : DE X tb (.Name x pos) (eC d) := fun W tk => by
  obtain ⟨u, v, h1, h2, h3⟩ := h.is
  exact ⟨_, pe_glob hg h1 h2 hd, refC h3⟩

/-! ### operations by what is read -/
def OpOk (X : Cx) (tb : Tb) (f : G → C → C → Option R) (r : R2) : Prop := ∀ (F T : Own) (ψ : Psi) (g : G) (σ : L2.St) (H : Hp) (c c' : C) (x y : V) (z : R) (Q : VK),
  Rel (bx X tb) F ψ g T σ H → RC (bx X tb) H c x → RC (bx X tb) H c' y → f g c c' = some z →
  (∀ v T1 H1, RR (bx X tb) z v T T1 σ H1 → Rel (bx X tb) F ψ g T1 σ H1 → Keep H H1 → Q v H1) → r x y H Q
theorem optQ_inv {α : Type} {o : Option α} {k : α → Prop} (h : optQ o k) : ∃ x, o = some x ∧ k x := by
  cases o with
  | none => exact h.elim
  | some x => exact ⟨x, rfl, h⟩
theorem ref_bin {W : WX} {f : G → C → C → Option R} {r : R2} {t1 t2 : TE} (ho : OpOk X tb f r) (ha : RefE X tb W ta t1) (hb : RefE X tb W u t2) : RefE X tb W (eBin f ta u) (tOp r t1 t2) :=
  fun E F T ψ g σ H Q' Q R ex q k => ha E F T ψ g σ H _ _ R ex q fun r1 ψ1 g1 T1 v1 H1 q1 rr1 R1 k1 => by
    obtain ⟨T', rfl⟩ := rr1.suffix
    refine hb E F (T' ++ T) ψ1 g1 σ H1 _ _ R1 (ex.more k1) q1 fun r2 ψ2 g2 T2 v2 H2 q2 rr2 R2 k2 => ?_
    obtain ⟨T'', rfl⟩ := rr2.suffix
    obtain ⟨c, e1, q3⟩ := optQ_inv q2
    obtain ⟨c', e2, q4⟩ := optQ_inv q3
    obtain ⟨z, e3, q5⟩ := optQ_inv q4
    have x1 := R2.look (rr1.keep k2) e1 ⟨T'', rfl⟩
    have x2 := R2.look rr2 e2 ⟨[], rfl⟩
    exact ho F T ψ2 g2 σ H2 c c' v1 v2 z Q (Rel.dropT (Rel.dropT R2)) x1 x2 e3 fun v T3 H3 rr R3 k3 => k z ψ2 g2 T3 v H3 q5 rr R3 ((k1.trans k2).trans k3)
theorem de_bin {op : Operator} {f : G → C → C → Option R} {r : R2} (ho : OpR X (binaryOp op) r) (ok : OpOk X tb f r) (ha : DE X tb a ta) (hb : DE X tb b u) : DE X tb (.BinOp a op b pos) (eBin f ta u) := fun W tk =>
  let ⟨_, h1, h2⟩ := ha W tk
  let ⟨_, h3, h4⟩ := hb W tk
  ⟨_, pe_op ho h1 h3, ref_bin ok h2 h4⟩
theorem de_cmp {op : CmpOp} {f : G → C → C → Option R} {r : R2} (ho : OpR X (compareOp op) r) (ok : OpOk X tb f r) (ha : DE X tb a ta) (hb : DE X tb b u) (hm : behindInMarks op b = false := by first | exact nomark b | rfl) : DE X tb (.Compare a [op] [b] pos) (eBin f ta u) := fun W tk =>
  let ⟨_, h1, h2⟩ := ha W tk
  let ⟨_, h3, h4⟩ := hb W tk
  ⟨_, pe_cmpR ho h1 h3 hm, ref_bin ok h2 h4⟩
def UnOk (X : Cx) (tb : Tb) (f : G → C → Option R) (r : V → Hp → VK → Prop) : Prop := ∀ (F T : Own) (ψ : Psi) (g : G) (σ : L2.St) (H : Hp) (c : C) (x : V) (z : R) (Q : VK),
  Rel (bx X tb) F ψ g T σ H → RC (bx X tb) H c x → f g c = some z →
  (∀ v T1 H1, RR (bx X tb) z v T T1 σ H1 → Rel (bx X tb) F ψ g T1 σ H1 → Keep H H1 → Q v H1) → r x H Q
theorem ref_un {W : WX} {f : G → C → Option R} {r : V → Hp → VK → Prop} {t1 : TE} (ho : UnOk X tb f r) (ha : RefE X tb W ta t1) : RefE X tb W (eUn f ta) (tUn r t1) :=
  fun E F T ψ g σ H Q' Q R ex q k => ha E F T ψ g σ H _ _ R ex q fun r1 ψ1 g1 T1 v1 H1 q1 rr1 R1 k1 => by
    obtain ⟨T', rfl⟩ := rr1.suffix
    obtain ⟨c, e1, q3⟩ := optQ_inv q1
    obtain ⟨z, e3, q5⟩ := optQ_inv q3
    have x1 := R1.look rr1 e1 ⟨[], rfl⟩
    exact ho F T ψ1 g1 σ H1 c v1 z Q (Rel.dropT R1) x1 e3 fun v T3 H3 rr R3 k3 => k z ψ1 g1 T3 v H3 q5 rr R3 (k1.trans k3)
theorem de_un {op : UnaryOp} {f : G → C → Option R} {r : V → Hp → VK → Prop} (ho : UnR X (unaryOp op) r) (ok : UnOk X tb f r) (ha : DE X tb a ta) : DE X tb (.UnaryOp op a pos) (eUn f ta) := fun W tk =>
  let ⟨_, h1, h2⟩ := ha W tk
  ⟨_, pe_un ho h1, ref_un ok h2⟩
/-- a built-in of one argument -/
theorem de_call1 {x : Str} {w' : Value} {p : Pos} {f : G → C → Option R} {r : List V → Hp → VK → Prop} (hr : CallR X w' r) (ok : UnOk X tb f fun v H Q => r [v] H Q) (hp : ∀ (t : TA), PA X [a] t → PE X (.Call (.Name x p) [a] [] pos) (fun σ H Q => t σ H fun vs H1 => r vs H1 Q))
    (ha : DE X tb a ta) (hs : starEach [a] X.env = (false, eval a X.env) :: starEach [] X.env := by rfl) : DE X tb (.Call (.Name x p) [a] [] pos) (eUn f ta) := fun W tk => by
  obtain ⟨t1, h1, h2⟩ := ha W tk
  exact ⟨_, hp _ (pa_cons h1 pa_nil hs), ref_un ok h2⟩
end
end Pd
set_option Elab.async false
set_option linter.all false
set_option maxRecDepth 100000
set_option maxHeartbeats 1000000
namespace Pd
open PySem PySem.Spec PyProof.Rows L2
section
variable {X : Cx} {tb : Tb}
/-- a new list, a new tuple, is handed on -/
theorem give_lst {F T : Own} {ψ : Psi} {g : G} {σ : L2.St} {H : Hp} {ds : List D} {vs : List V} {Q : VK} (R : Rel (bx X tb) F ψ g T σ H) (r : RVs X.K H ds vs)
    (k : ∀ v T1 H1, RR (bx X tb) (.own (.lst ds)) v T T1 σ H1 → Rel (bx X tb) F ψ g T1 σ H1 → Keep H H1 → Q v H1) : ∀ p, H p = none → Q (.ref p) (L2.upd H p (.lst vs)) := fun p hp => by
  have kp : Keep H (L2.upd H p (.lst vs)) := Keep.new hp
  exact k _ _ _ ⟨p, rfl, rfl⟩ (R.new hp ⟨_, upd_same, r.keep kp⟩) kp
theorem give_tup {F T : Own} {ψ : Psi} {g : G} {σ : L2.St} {H : Hp} {ds : List D} {vs : List V} {Q : VK} (R : Rel (bx X tb) F ψ g T σ H) (r : RVs X.K H ds vs)
    (k : ∀ v T1 H1, RR (bx X tb) (.d (.tup ds)) v T T1 σ H1 → Rel (bx X tb) F ψ g T1 σ H1 → Keep H H1 → Q v H1) : ∀ p, H p = none → Q (.ref p) (L2.upd H p (.tup vs)) := fun p hp => by
  have kp : Keep H (L2.upd H p (.tup vs)) := Keep.new hp
  exact k _ T _ ⟨.tup (.inl (.inl upd_same)) (r.keep kp), rfl⟩ (R.alloc hp) kp
theorem most_eq : most = sizeLine := by decide
theorem small_lr {i : Int} (h : small i) : -(2 ^ 64) < i ∧ i < 2 ^ 64 := by
  have h' : i.natAbs < 18446744073709551616 := h
  constructor <;> omega
/-! ### whole numbers -/
theorem oIntP_inv {f : Int → Int → Option D} {g : G} {c c' : C} {z : R} (h : oIntP f g c c' = some z) : ∃ i j d, c = .d (.int i) ∧ c' = .d (.int j) ∧ f i j = some d ∧ z = .d d := by
  unfold oIntP at h
  split at h
  · obtain ⟨d, e, rfl⟩ := Option.map_eq_some_iff.mp h
    exact ⟨_, _, d, rfl, rfl, e, rfl⟩
  · cases h
theorem ok_int {f : Int → Int → Option D} {Cd : Int → Int → Prop} {gv : Int → Int → V} (h : ∀ i j d, f i j = some d → Cd i j ∧ ∀ H, RV X.K H d (gv i j)) : OpOk X tb (oIntP f) (rI Cd gv) :=
  fun F T ψ g σ H c c' x y z Q R hc hc' e k => by
    obtain ⟨i, j, d, rfl, rfl, e1, rfl⟩ := oIntP_inv e
    cases hc; cases hc'
    obtain ⟨h1, h2⟩ := h i j d e1
    exact ⟨i, j, rfl, rfl, h1, k _ T H ⟨h2 H, rfl⟩ R (Keep.refl H)⟩
theorem ok_int0 {f : Int → Int → D} {gv : Int → Int → V} (h : ∀ i j H, RV X.K H (f i j) (gv i j)) : OpOk X tb (oIntP fun i j => some (f i j)) (rI0 gv) :=
  fun F T ψ g σ H c c' x y z Q R hc hc' e k => by
    obtain ⟨i, j, d, rfl, rfl, e1, rfl⟩ := oIntP_inv e
    cases hc; cases hc'; cases e1
    exact ⟨i, j, rfl, rfl, k _ T H ⟨h i j H, rfl⟩ R (Keep.refl H)⟩
theorem intsOf_rel {K : PySem.W.Frag} {H : Hp} : ∀ {xs : List D} {ns : List Int} {vs : List V}, intsOf xs = some ns → RVs K H xs vs → vs = ns.map V.int
  | [], _, _, e, .nil => by cases e; rfl
  | x :: xs, ns, _, e, .cons r t => by
    cases x with
    | int i =>
      obtain ⟨ms, e1, rfl⟩ := Option.map_eq_some_iff.mp (show (intsOf xs).map (i :: ·) = some ns from e)
      cases r
      rw [intsOf_rel e1 t]; rfl
    | _ => cases e
def rLtL (X : Cx) : R2 := fun x y H Q => ∃ a b ns ms, x = V.ref a ∧ y = V.ref b ∧ SqL X.K H a (ns.map V.int) ∧ SqL X.K H b (ms.map V.int) ∧ Q (.bl (lexI ns ms)) H
theorem ok_lt : OpOk X tb oLt (fun x y H Q => rI0 (fun i j => .bl (decide (i < j))) x y H Q ∨ rLtL X x y H Q) := fun F T ψ g σ H c c' x y z Q R hc hc' e k => by
  unfold oLt at e
  split at e
  · rename_i i j
    cases hc; cases hc'; cases e
    exact .inl ⟨i, j, rfl, rfl, k _ T H ⟨.bl _, rfl⟩ R (Keep.refl H)⟩
  · rename_i xs ys
    obtain ⟨ns, e1, e2⟩ := Option.bind_eq_some_iff.mp e
    obtain ⟨ms, e3, rfl⟩ := Option.map_eq_some_iff.mp e2
    obtain ⟨a, rfl, vs, h1, h2⟩ := hc
    obtain ⟨b, rfl, ws, h3, h4⟩ := hc'
    have q1 := intsOf_rel e1 h2
    have q2 := intsOf_rel e3 h4
    subst q1 q2
    exact .inr ⟨a, b, ns, ms, rfl, rfl, SqL.of h1, SqL.of h3, k _ T H ⟨.bl _, rfl⟩ R (Keep.refl H)⟩
  · cases e
def rGtL (X : Cx) : R2 := fun x y H Q => ∃ a b ns ms, x = V.ref a ∧ y = V.ref b ∧ SqL X.K H a (ns.map V.int) ∧ SqL X.K H b (ms.map V.int) ∧ Q (.bl (lexI ms ns)) H
theorem ok_gt : OpOk X tb oGt (fun x y H Q => rI0 (fun i j => .bl (decide (j < i))) x y H Q ∨ rGtL X x y H Q) := fun F T ψ g σ H c c' x y z Q R hc hc' e k => by
  unfold oGt at e
  split at e
  · rename_i i j
    cases hc; cases hc'; cases e
    exact .inl ⟨i, j, rfl, rfl, k _ T H ⟨.bl _, rfl⟩ R (Keep.refl H)⟩
  · rename_i xs ys
    obtain ⟨ns, e1, e2⟩ := Option.bind_eq_some_iff.mp e
    obtain ⟨ms, e3, rfl⟩ := Option.map_eq_some_iff.mp e2
    obtain ⟨a, rfl, vs, h1, h2⟩ := hc
    obtain ⟨b, rfl, ws, h3, h4⟩ := hc'
    have q1 := intsOf_rel e1 h2
    have q2 := intsOf_rel e3 h4
    subst q1 q2
    exact .inr ⟨a, b, ns, ms, rfl, rfl, SqL.of h1, SqL.of h3, k _ T H ⟨.bl _, rfl⟩ R (Keep.refl H)⟩
  · cases e
theorem ok_ge : OpOk X tb oGe (rI0 fun i j => .bl (decide (j ≤ i))) := ok_int0 fun _ _ _ => .bl _
theorem ok_sub : OpOk X tb oSub (rI0 fun i j => .int (i - j)) := ok_int0 fun _ _ _ => .int _
theorem ok_mod : OpOk X tb oMod (rI (fun _ j => 0 < j) fun i j => .int (i % j)) := ok_int fun i j d e => by
  split at e
  · rename_i h; cases e; exact ⟨h, fun _ => .int _⟩
  · cases e
theorem ok_div : OpOk X tb oDiv (rI CDiv fun i j => .int (i / j)) := ok_int fun i j d e => by
  split at e
  · rename_i h; cases e; exact ⟨h, fun _ => .int _⟩
  · cases e
theorem ok_pow : OpOk X tb oPow (rI CPow fun i j => .int (i ^ j.toNat)) := ok_int fun i j d e => by
  split at e
  · rename_i h
    cases e
    obtain ⟨h1, h2, h3⟩ := h
    have h4 := small_lr h3
    exact ⟨⟨h1, by omega, by omega⟩, fun _ => .int _⟩
  · cases e
/-! ### a sum: numbers, texts, tuples, lists -/
def rAddS : R2 := fun x y H Q => ∃ i j, x = .str i ∧ y = .str j ∧ i.length + j.length ≤ sizeLine ∧ Q (.str (i ++ j)) H
def rAddAll (K : PySem.W.Frag) : R2 := fun x y H Q => rI0 (fun i j => .int (i + j)) x y H Q ∨ (rAddS x y H Q ∨ (rCatA K x y H Q ∨ rCat x y H Q))
theorem op_addAll : OpR X (binaryOp .Add) (rAddAll X.K) := op_add.or (OpR.or op_add_str (op_catA.or op_cat))
theorem str_app (s t : List Nat) : ((⟨s.toArray⟩ : Str) ++ ⟨t.toArray⟩ : Str) = ⟨(s ++ t).toArray⟩ := by
  show Str.append _ _ = _
  simp [Str.append]
theorem ok_add : OpOk X tb oAdd (rAddAll X.K) := fun F T ψ g σ H c c' x y z Q R hc hc' e k => by
  unfold oAdd at e
  split at e
  · cases hc; cases hc'; cases e
    exact .inl ⟨_, _, rfl, rfl, k _ T H ⟨.int _, rfl⟩ R (Keep.refl H)⟩
  · split at e
    · rename_i s t h
      cases hc with | str _ o1 => ?_
      cases hc' with | str _ o2 => ?_
      cases e
      refine .inr (.inl ⟨_, _, rfl, rfl, ?_, ?_⟩)
      · rw [← most_eq]; simpa [Str.length] using h
      · rw [str_app]; exact k _ T H ⟨.str _ fun c hc => (List.mem_append.mp hc).elim (o1 c) (o2 c), rfl⟩ R (Keep.refl H)
    · cases e
  · split at e
    · rename_i s t h
      cases e
      obtain ⟨hx, rx⟩ : ∃ p vs, x = .ref p ∧ SqT X.K H p vs ∧ RVs X.K H s vs := by cases hc with | tup a b => exact ⟨_, _, rfl, a, b⟩
      obtain ⟨vs, rfl, hx, rx⟩ := rx
      obtain ⟨q, ws, rfl, hy, ry⟩ : ∃ p vs, y = .ref p ∧ SqT X.K H p vs ∧ RVs X.K H t vs := by cases hc' with | tup a b => exact ⟨_, _, rfl, a, b⟩
      refine .inr (.inr (.inl ⟨_, _, vs, ws, rfl, rfl, hx, hy, by rw [← most_eq, ← rx.length, ← ry.length]; exact h, fun e0 => ?_, fun _ e0 => ?_, fun _ _ p hp => ?_⟩))
      · subst e0
        cases rx
        exact k _ T H ⟨.tup hy ry, rfl⟩ R (Keep.refl H)
      · subst e0
        cases ry
        rw [List.append_nil] at k
        exact k _ T H ⟨.tup hx rx, rfl⟩ R (Keep.refl H)
      · have kp : Keep H (L2.upd H p (.tup (vs ++ ws))) := Keep.new hp
        exact k _ T _ ⟨.tup (.inl (.inl upd_same)) ((rx.append ry).keep kp), rfl⟩ (R.alloc hp) kp
    · cases e
  · split at e
    · rename_i s t h
      cases e
      obtain ⟨a, rfl, vs, ha, rx⟩ := hc
      obtain ⟨b, rfl, ws, hb, ry⟩ := hc'
      refine .inr (.inr (.inr ⟨a, b, vs, ws, rfl, rfl, ha, hb, by rw [← most_eq, ← rx.length, ← ry.length]; exact h, fun p hp => ?_⟩))
      have kp : Keep H (L2.upd H p (.lst (vs ++ ws))) := Keep.new hp
      exact k _ _ _ ⟨p, rfl, rfl⟩ (R.new hp ⟨_, upd_same, (rx.append ry).keep kp⟩) kp
    · cases e
  · cases e
def rMulAll : R2 := fun x y H Q => rI CMul (fun i j => .int (i * j)) x y H Q ∨ rRep x y H Q
theorem op_mulAll : OpR X (binaryOp .Mult) rMulAll := op_mul.or op_rep
theorem ok_mul : OpOk X tb oMul rMulAll := fun F T ψ g σ H c c' x y z Q R hc hc' e k => by
  unfold oMul at e
  split at e
  · split at e
    · rename_i h
      cases hc; cases hc'; cases e
      exact .inl ⟨_, _, rfl, rfl, h.imp small_lr small_lr, k _ T H ⟨.int _, rfl⟩ R (Keep.refl H)⟩
    · cases e
  · split at e
    · rename_i xs n h
      cases e; cases hc'
      obtain ⟨a, rfl, vs, ha, rx⟩ := hc
      obtain ⟨h1, h2, h3⟩ := h
      refine .inr ⟨a, n, vs, rfl, rfl, ha, by omega, by omega, by rw [← most_eq, ← rx.length]; exact h3, fun p hp => ?_⟩
      have kp : Keep H (L2.upd H p (.lst (List.replicate n.toNat vs).flatten)) := Keep.new hp
      exact k _ _ _ ⟨p, rfl, rfl⟩ (R.new hp ⟨_, upd_same, (rx.rep _).keep kp⟩) kp
    · cases e
  · cases e
theorem ok_neg : UnOk X tb oNeg (rU fun i => .int (-i)) := fun F T ψ g σ H c x z Q R hc e k => by
  unfold oNeg at e
  split at e
  · cases hc; cases e
    exact ⟨_, rfl, k _ T H ⟨.int _, rfl⟩ R (Keep.refl H)⟩
  · cases e

/-! ### equality of data -/
mutual
def toPy : D → PyData
  | .non => .none
  | .bl b => .bool b
  | .int i => .int i
  | .str s => .str ⟨s.toArray⟩
  | .tup xs => .tuple (toPys xs)
  | .rol xs => .list (toPys xs)
  | .ref _ => .none
def toPys : List D → List PyData
  | [] => []
  | x :: xs => toPy x :: toPys xs
end
mutual
theorem toPy_depth : ∀ x : D, (toPy x).depth = x.depth
  | .non => rfl
  | .bl _ => rfl
  | .int _ => rfl
  | .str _ => rfl
  | .tup xs => by show PyData.depthAll (toPys xs) + 1 = D.depths xs + 1; rw [toPys_depth xs]
  | .rol xs => by show PyData.depthAll (toPys xs) + 1 = D.depths xs + 1; rw [toPys_depth xs]
  | .ref _ => rfl
theorem toPys_depth : ∀ x : List D, PyData.depthAll (toPys x) = D.depths x
  | [] => rfl
  | x :: xs => by show max (toPy x).depth (PyData.depthAll (toPys xs)) = max x.depth (D.depths xs); rw [toPy_depth x, toPys_depth xs]
end
theorem toPy_shaped {x : D} (h : x.depth ≤ 60) (hl : (toPy x).canLay0 = true) : SeqAt.shaped (toPy x) = true := by
  unfold SeqAt.shaped
  rw [hl, toPy_depth]
  simp; omega
theorem strA_inj {s t : List Nat} : ((⟨s.toArray⟩ : Str) == ⟨t.toArray⟩) = decide (s = t) := by
  by_cases h : s = t
  · subst h; simp
  · rw [decide_eq_false h]
    refine beq_eq_false_iff_ne.mpr fun e => h ?_
    have := congrArg Str.cps e
    exact (by simpa using this)
mutual
theorem toPy_eqv : ∀ x y : D, x.pure = true → y.pure = true → PyData.eqv (toPy x) (toPy y) = D.beq x y
  | .non, y, _, h => by cases y <;> first | rfl | cases h
  | .int i, y, _, h => by
    cases y <;> first | rfl | cases h
  | .str s, y, _, h => by
    cases y <;> first | rfl | cases h | skip
    exact strA_inj
  | .tup xs, .tup ys, h, h' => toPys_eqv xs ys h h'
  | .rol xs, .rol ys, h, h' => toPys_eqv xs ys h h'
  | .tup xs, .non, _, _ | .tup xs, .int _, _, _ | .tup xs, .str _, _, _ | .tup xs, .rol _, _, _ => rfl
  | .rol xs, .non, _, _ | .rol xs, .int _, _, _ | .rol xs, .str _, _, _ | .rol xs, .tup _, _, _ => rfl
  | .tup xs, .bl _, _, h | .tup xs, .ref _, _, h | .rol xs, .bl _, _, h | .rol xs, .ref _, _, h => nomatch h
  | .bl _, _, h, _ | .ref _, _, h, _ => nomatch h
theorem toPys_eqv : ∀ x y : List D, D.pures x = true → D.pures y = true → PyData.eqvAll (toPys x) (toPys y) = D.beqs x y
  | [], [], _, _ => rfl
  | [], _ :: _, _, _ => rfl
  | _ :: _, [], _, _ => rfl
  | x :: xs, y :: ys, h, h' => by
    have h1 : x.pure = true ∧ D.pures xs = true := by simpa [D.pures] using h
    have h2 : y.pure = true ∧ D.pures ys = true := by simpa [D.pures] using h'
    show (PyData.eqv (toPy x) (toPy y) && PyData.eqvAll (toPys xs) (toPys ys)) = (D.beq x y && D.beqs xs ys)
    rw [toPy_eqv x y h1.1 h2.1, toPys_eqv xs ys h1.2 h2.2]
end
theorem beq_decide (x y : D) : D.beq x y = decide (x = y) := by
  cases h : D.beq x y with
  | true => exact (decide_eq_true (D.eq_of_beq x y h)).symm
  | false => exact (decide_eq_false fun e => by rw [e, D.beq_self] at h; cases h).symm
theorem lay_str {s : List Nat} (h : OkS s) : (PyData.str ⟨s.toArray⟩).canLay0 = true := by
  show PySem.PyData.strOk _ = true
  unfold PySem.PyData.strOk
  rw [← Array.all_toList]
  exact List.all_eq_true.mpr fun c hc => decide_eq_true (h c hc)
theorem lay_cons {x : PyData} {xs : List PyData} (h : x.canLay0 = true) (h' : PyData.canLayAll0 xs = true) : PyData.canLayAll0 (x :: xs) = true := by
  show (x.canLay0 && PyData.canLayAll0 xs) = true
  rw [h, h']; rfl
mutual
theorem dp_pure {K : PySem.W.Frag} {H : Hp} : ∀ (x : D) (v : V), x.pure = true → RV K H x v → Dp K H v (toPy x) ∧ (toPy x).canLay0 = true
  | .non, _, _, .non => ⟨.non, rfl⟩
  | .bl b, _, h, _ => nomatch h
  | .int i, _, _, .int _ => ⟨.int i, rfl⟩
  | .str s, _, _, .str _ hs => ⟨.str _, lay_str hs⟩
  | .tup xs, _, h, .tup a r => let ⟨h1, h2⟩ := dp_pures xs _ h r; ⟨.tup a h1, h2⟩
  | .rol xs, _, h, .rol a r => let ⟨h1, h2⟩ := dp_pures xs _ h r; ⟨.lst a.seq h1, h2⟩
  | .ref _, _, h, _ => nomatch h
theorem dp_pures {K : PySem.W.Frag} {H : Hp} : ∀ (x : List D) (v : List V), D.pures x = true → RVs K H x v → DpAll K H v (toPys x) ∧ PyData.canLayAll0 (toPys x) = true
  | [], _, _, .nil => ⟨.nil, rfl⟩
  | x :: xs, _, h, .cons r t => by
    have h1 : x.pure = true ∧ D.pures xs = true := by simpa [D.pures] using h
    obtain ⟨a1, a2⟩ := dp_pure x _ h1.1 r
    obtain ⟨b1, b2⟩ := dp_pures xs _ h1.2 t
    exact ⟨.cons a1 b1, lay_cons a2 b2⟩
end
theorem mapM_some {α β : Type} {f : α → Option β} : ∀ {xs : List α} {ys : List β}, xs.mapM f = some ys → Paired (fun x y => f x = some y) xs ys
  | [], ys, h => by simp at h; subst h; exact .nil
  | x :: xs, ys, h => by
    simp only [List.mapM_cons, Option.bind_eq_bind, Option.pure_def, Option.bind_eq_some_iff, Option.some.injEq] at h
    obtain ⟨y, h1, zs, h2, rfl⟩ := h
    exact .cons h1 (mapM_some h2)
theorem dp_list {B : Bx} {H : Hp} {f : D → Option D} (hf : ∀ x y v, f x = some y → RV B.K H x v → y.pure = true ∧ Dp B.K H v (toPy y) ∧ (toPy y).canLay0 = true) :
    ∀ {xs ys : List D} {vs : List V}, Paired (fun x y => f x = some y) xs ys → RVs B.K H xs vs → D.pures ys = true ∧ DpAll B.K H vs (toPys ys) ∧ PyData.canLayAll0 (toPys ys) = true
  | _, _, _, .nil, .nil => ⟨rfl, .nil, rfl⟩
  | _, _, _, .cons e t, .cons r u => by
    obtain ⟨h1, h2, l1⟩ := hf _ _ _ e r
    obtain ⟨h3, h4, l2⟩ := dp_list hf t u
    exact ⟨by show (_ && _) = true; rw [h1, h3]; rfl, .cons h2 h4, lay_cons l1 l2⟩
theorem rsv_ok {B : Bx} {g : G} {H : Hp} (gl : Glob B g H) : ∀ (n : Nat) (x y : D) (v : V), rsv n g x = some y → RV B.K H x v → y.pure = true ∧ Dp B.K H v (toPy y) ∧ (toPy y).canLay0 = true
  | 0, x, y, v, h, r => by
    unfold rsv at h
    split at h
    · rename_i hp; cases h; exact ⟨hp, dp_pure _ _ hp r⟩
    · cases h
  | n + 1, x, y, v, h, r => by
    unfold rsv at h
    split at h
    · rename_i hp; cases h; exact ⟨hp, dp_pure _ _ hp r⟩
    · split at h
      · rename_i a _
        split at h
        · rename_i xs e
          obtain ⟨ys, h1, rfl⟩ := Option.map_eq_some_iff.mp h
          cases r
          obtain ⟨vs, h2, h3⟩ := gl a _ e
          obtain ⟨h4, h5, h6⟩ := dp_list (rsv_ok gl n) (mapM_some h1) h3
          exact ⟨h4, .lst (SqL.of h2) h5, h6⟩
        · cases h
      · obtain ⟨ys, h1, rfl⟩ := Option.map_eq_some_iff.mp h
        cases r with
        | tup h2 h3 =>
          obtain ⟨h4, h5, h6⟩ := dp_list (rsv_ok gl n) (mapM_some h1) h3
          exact ⟨h4, .tup h2 h5, h6⟩
      · cases h
theorem rsvC_ok {B : Bx} {g : G} {H : Hp} (gl : Glob B g H) {c : C} {y : D} {v : V} (h : rsvC g c = some y) (r : RC B H c v) : y.pure = true ∧ Dp B.K H v (toPy y) ∧ (toPy y).canLay0 = true := by
  unfold rsvC at h
  split at h
  · exact rsv_ok gl _ _ _ _ h r
  · obtain ⟨ys, h1, rfl⟩ := Option.map_eq_some_iff.mp h
    obtain ⟨a, rfl, vs, h2, h3⟩ := r
    obtain ⟨h4, h5, h6⟩ := dp_list (rsv_ok gl 6) (mapM_some h1) h3
    exact ⟨h4, .lst (SqL.of h2) h5, h6⟩
  · cases h
theorem eqC_ok {B : Bx} {g : G} {H : Hp} (gl : Glob B g H) {c c' : C} {x y : V} {k : Bool} (h : eqC g c c' = some k) (r : RC B H c x) (r' : RC B H c' y) :
    ∃ d e, Dp B.K H x d ∧ Dp B.K H y e ∧ SeqAt.shaped d = true ∧ SeqAt.shaped e = true ∧ PyData.eqv d e = k := by
  unfold eqC at h
  split at h
  · cases r; cases r'; cases h
    exact ⟨_, _, .bl _, .bl _, rfl, rfl, rfl⟩
  · split at h
    · rename_i y1 y2 e1 e2
      split at h
      · rename_i hd
        cases h
        obtain ⟨p1, d1, l1⟩ := rsvC_ok gl e1 r
        obtain ⟨p2, d2, l2⟩ := rsvC_ok gl e2 r'
        exact ⟨_, _, d1, d2, toPy_shaped hd.1 l1, toPy_shaped hd.2 l2, by rw [toPy_eqv _ _ p1 p2, beq_decide]⟩
      · cases h
    · cases h
theorem ok_eq : OpOk X tb oEq (rEqD X.K) := fun F T ψ g σ H c c' x y z Q R hc hc' e k => by
  obtain ⟨b, e1, rfl⟩ := Option.map_eq_some_iff.mp e
  obtain ⟨d, d', h1, h2, h3, h4, h5⟩ := eqC_ok R.gl e1 hc hc'
  exact ⟨d, d', h1, h2, h3, h4, by rw [h5]; exact k _ T H ⟨.bl _, rfl⟩ R (Keep.refl H)⟩
theorem ok_ne : OpOk X tb oNe (rNeD X.K) := fun F T ψ g σ H c c' x y z Q R hc hc' e k => by
  obtain ⟨b, e1, rfl⟩ := Option.map_eq_some_iff.mp e
  obtain ⟨d, d', h1, h2, h3, h4, h5⟩ := eqC_ok R.gl e1 hc hc'
  exact ⟨d, d', h1, h2, h3, h4, by rw [h5]; exact k _ T H ⟨.bl _, rfl⟩ R (Keep.refl H)⟩
end
end Pd
set_option Elab.async false
set_option linter.all false
set_option maxRecDepth 100000
set_option maxHeartbeats 1000000
namespace Pd
open PySem PySem.Spec PyProof.Rows L2
section
variable {X : Cx} {tb : Tb}
/-! ### keys that are nested tuples -/
mutual
theorem nested_of {pins : List (Addr × Obj)} {σ : L2.St} {H : Hp} {s : Shared} (I : Inv X pins σ H s) : ∀ (d : D) (v : V) (u : Value) (k : NestedKey), RV X.K H d v → RelV v u → nk d = some k → NestedIs s.heap k u
  | .non, _, _, _, .non, r, e => by
    cases e
    obtain rfl : _ = Value.none := r
    exact .none
  | .int i, _, _, _, .int _, r, e => by
    cases e
    obtain ⟨t, rfl⟩ := r
    exact .int i t
  | .str x, _, _, _, .str _ _, r, e => by
    cases e
    obtain ⟨t, rfl⟩ := r
    exact .text _ t
  | .tup xs, _, _, _, .tup (p := p) (vs := vs) h1 h2, r, e => by
    obtain ⟨ks, e1, rfl⟩ := Option.map_eq_some_iff.mp e
    obtain rfl : _ = Value.ref p := r
    obtain ⟨its, r1, ⟨o, h3, h4, n, h5⟩, _⟩ := I.tuple h1
    exact .tup h3 h4 h5 (nesteds_of I xs vs its ks h2 r1 e1)
theorem nesteds_of {pins : List (Addr × Obj)} {σ : L2.St} {H : Hp} {s : Shared} (I : Inv X pins σ H s) : ∀ (d : List D) (v : List V) (u : List Value) (k : List NestedKey), RVs X.K H d v → Vals v u → nks d = some k → NestedAll s.heap k u
  | [], _, _, _, .nil, .nil, e => by cases e; exact .nil
  | x :: xs, _, _, _, .cons (v := v) (vs := vs) r t, .cons (b := u) (l₂ := us) q w, e => by
    have e' : (match nk x, nks xs with | some k, some ks => some (k :: ks) | _, _ => none) = some _ := e
    split at e'
    · rename_i k ks e1 e2
      cases e'
      exact .cons (nested_of I x v u k r q e1) (nesteds_of I xs vs us ks t w e2)
    · cases e'
end
mutual
theorem nk_depth : ∀ (d : D) (k : NestedKey), nk d = some k → k.depth = d.depth
  | .non, _, e => by cases e; rfl
  | .bl _, _, e => nomatch e
  | .int _, _, e => by cases e; rfl
  | .str _, _, e => by cases e; rfl
  | .rol _, _, e => nomatch e
  | .ref _, _, e => nomatch e
  | .tup xs, _, e => by
    obtain ⟨ks, e1, rfl⟩ := Option.map_eq_some_iff.mp e
    show NestedKey.depthAll ks + 1 = D.depths xs + 1
    rw [nks_depth xs ks e1]
theorem nks_depth : ∀ (d : List D) (k : List NestedKey), nks d = some k → NestedKey.depthAll k = D.depths d
  | [], _, e => by cases e; rfl
  | x :: xs, _, e => by
    have e' : (match nk x, nks xs with | some k, some ks => some (k :: ks) | _, _ => none) = some _ := e
    split at e'
    · rename_i k ks e1 e2
      cases e'
      show max k.depth (NestedKey.depthAll ks) = max x.depth (D.depths xs)
      rw [nk_depth x k e1, nks_depth xs ks e2]
    · cases e'
end
mutual
theorem nk_some : ∀ (d : D), d.keyish = true → ∃ k, nk d = some k
  | .non, _ => ⟨_, rfl⟩
  | .int _, _ => ⟨_, rfl⟩
  | .str _, _ => ⟨_, rfl⟩
  | .tup xs, h => let ⟨ks, e⟩ := nks_some xs h; ⟨.tup ks, by show (nks xs).map _ = _; rw [e]; rfl⟩
  | .bl _, h => nomatch h
  | .rol _, h => nomatch h
  | .ref _, h => nomatch h
theorem nks_some : ∀ (d : List D), D.keyishs d = true → ∃ k, nks d = some k
  | [], _ => ⟨[], rfl⟩
  | x :: xs, h => by
    have h' : x.keyish = true ∧ D.keyishs xs = true := by simpa [D.keyishs] using h
    obtain ⟨k, e1⟩ := nk_some x h'.1
    obtain ⟨ks, e2⟩ := nks_some xs h'.2
    exact ⟨k :: ks, by show (match nk x, nks xs with | some k, some ks => some (k :: ks) | _, _ => none) = _; rw [e1, e2]⟩
end
mutual
theorem nk_inj : ∀ (d d' : D) (k : NestedKey), nk d = some k → nk d' = some k → d = d'
  | .non, d', _, e, e' => by cases e; cases d' <;> first | rfl | (simp [nk] at e')
  | .int _, d', _, e, e' => by cases e; cases d' <;> simp [nk] at e'; rw [e']
  | .str s, d', _, e, e' => by cases e; cases d' <;> simp [nk] at e'; rw [e']
  | .tup xs, d', _, e, e' => by
    obtain ⟨ks, e1, rfl⟩ := Option.map_eq_some_iff.mp e
    cases d' with
    | tup ys =>
      obtain ⟨ks', e2, e3⟩ := Option.map_eq_some_iff.mp e'
      cases e3
      rw [nks_inj xs ys ks e1 e2]
    | _ => simp [nk] at e'
  | .bl _, _, _, e, _ => nomatch e
  | .rol _, _, _, e, _ => nomatch e
  | .ref _, _, _, e, _ => nomatch e
theorem nks_inj : ∀ (d d' : List D) (k : List NestedKey), nks d = some k → nks d' = some k → d = d'
  | [], d', _, e, e' => by
    cases e
    cases d' with
    | nil => rfl
    | cons y ys =>
      have q : (match nk y, nks ys with | some k, some ks => some (k :: ks) | _, _ => none) = some [] := e'
      split at q <;> cases q
  | x :: xs, d', _, e, e' => by
    have q1 : (match nk x, nks xs with | some k, some ks => some (k :: ks) | _, _ => none) = some _ := e
    split at q1
    · rename_i k ks e1 e2
      cases q1
      cases d' with
      | nil => cases e'
      | cons y ys =>
        have q : (match nk y, nks ys with | some k, some ks => some (k :: ks) | _, _ => none) = some (k :: ks) := e'
        split at q
        · rename_i k2 ks2 f1 f2
          cases q
          rw [nk_inj x y k e1 f1, nks_inj xs ys ks e2 f2]
        · cases q
    · cases q1
end
/-- a dict of that kind, as the library tells it -/
def Nest (X : Cx) (H : Hp) (a : Addr) (xs : List (NestedKey × Addr × Value)) : Prop :=
  H a = some (dN X.prog X.w a xs) ∧ (a == sysModules) = false ∧ (xs.map (·.1)).Nodup ∧ xs.length ≤ sizeLine ∧ ∀ x ∈ xs, ∃ d, RV X.K H d (.ref x.2.1) ∧ nk d = some x.1 ∧ d.depth ≤ 8
theorem Nest.is {pins : List (Addr × Obj)} {σ : L2.St} {H : Hp} {s : Shared} {a : Addr} {xs : List (NestedKey × Addr × Value)} (I : Inv X pins σ H s) (n : Nest X H a xs) :
    s.heap.DictOfH (nestedKind X.prog X.w) a xs := by
  obtain ⟨h1, h2, h3, h4, h5⟩ := n
  obtain ⟨⟨o, es, ep, e1, e2, e3, e4⟩, _⟩ := I.hok a _ h1
  refine ⟨o, es, ep, e1, e2, e3, e4, fun x hx => ?_, h3⟩
  obtain ⟨d, r, e, hd⟩ := h5 x hx
  exact ⟨nested_of I d _ _ _ r rfl e, by rw [nk_depth d _ e]; exact hd⟩
theorem nest_atKey (k : NestedKey) : ∀ xs : List (NestedKey × Addr × Value), (atKey xs k).isSome = xs.any fun x => decide (x.1 = k)
  | [] => rfl
  | x :: xs => by
    by_cases h : x.1 = k
    · simp [atKey, h]
    · have := nest_atKey k xs
      simp [atKey, h] at this ⊢
      exact this
theorem dict_empty_N {P : Program} {w : World} {H : Hp} {h : Heap} {a : Addr} (ok : HOk P w H h) (e : H a = some (.dK [])) : (a == sysModules) = false ∧ h.DictOfH (nestedKind P w) a [] := by
  obtain ⟨_, h2, vs, kv, o, es, ep, h3, h4, h5, _, h6, _⟩ := ok a _ e
  cases kv
  have h7 : es.toList = [] := by cases q : es.toList with
    | nil => rfl
    | cons x r => rw [q] at h6; cases h6
  exact ⟨h2, o, es, ep, h3, h4, h5, by rw [h7]; rfl, (fun _ hx => nomatch hx), List.nodup_nil⟩
theorem nest_or {pins : List (Addr × Obj)} {σ : L2.St} {H : Hp} {s : Shared} {a : Addr} {xs : List (NestedKey × Addr × Value)} (I : Inv X pins σ H s) (n : Nest X H a xs ∨ (xs = [] ∧ H a = some (.dK []))) :
    (a == sysModules) = false ∧ s.heap.DictOfH (nestedKind X.prog X.w) a xs := by
  rcases n with n | ⟨rfl, n⟩
  · exact ⟨n.2.1, n.is I⟩
  · exact dict_empty_N I.hok n
/-- y in d -/
def rInN (X : Cx) (neg : Bool) : R2 := fun x y H Q => ∃ (p a : Addr) (d : D) (k : NestedKey) (xs : List (NestedKey × Addr × Value)), x = .ref p ∧ y = .ref a ∧ (Nest X H a xs ∨ (xs = [] ∧ H a = some (.dK []))) ∧ RV X.K H d (.ref p) ∧ nk d = some k ∧ d.depth ≤ 8 ∧
  Q (.bl (if neg then !(atKey xs k).isSome else (atKey xs k).isSome)) H
theorem op_inN (hu : X.A.units + 64 < cLine) : OpR X (compareOp .In) (rInN X false) := by
  intro pins s σ H x y v u Q I rx ry h
  obtain ⟨p, a, d, k, xs, rfl, rfl, n, r, e, hd, q⟩ := h
  obtain rfl : v = Value.ref p := rx
  obtain ⟨hsm, hm⟩ := nest_or I n
  obtain rfl : u = Value.ref a := ry
  have hk : (nestedKind X.prog X.w).is s.heap k p := ⟨nested_of I d _ _ _ r rfl e, by rw [nk_depth d _ e]; exact hd⟩
  refine wpAny_in_heap (knd := nestedKind X.prog X.w) (by show X.A.units + 1 + 8 < cLine; omega) hk hsm hm ?_
  exact ⟨.bl (atKey xs k).isSome, H, I.tok _, rfl, q⟩
theorem op_notInN (hu : X.A.units + 64 < cLine) : OpR X (compareOp .NotIn) (rInN X true) := by
  intro pins s σ H x y v u Q I rx ry h
  obtain ⟨p, a, d, k, xs, rfl, rfl, n, r, e, hd, q⟩ := h
  obtain rfl : v = Value.ref p := rx
  obtain ⟨hsm, hm⟩ := nest_or I n
  obtain rfl : u = Value.ref a := ry
  have hk : (nestedKind X.prog X.w).is s.heap k p := ⟨nested_of I d _ _ _ r rfl e, by rw [nk_depth d _ e]; exact hd⟩
  show wpAny _ _ (do return Value.bool (!(← contains (.ref a) (.ref p)))) _ X.xe s
  refine wpAny_bind (wpAny_contains_heap (knd := nestedKind X.prog X.w) (by show X.A.units + 1 + 8 < cLine; omega) hk hsm hm (wpAny_pure ?_))
  exact ⟨.bl (!(atKey xs k).isSome), H, I.tok _, rfl, q⟩
/-- d[y] -/
def rIxN (X : Cx) : R2 := fun x y H Q => ∃ (p a : Addr) (d : D) (k : NestedKey) (xs : List (NestedKey × Addr × Value)) (b : Addr) (u : Value) (v : V), x = .ref a ∧ y = .ref p ∧ Nest X H a xs ∧ RV X.K H d (.ref p) ∧ nk d = some k ∧ d.depth ≤ 8 ∧
  atKey xs k = some (b, u) ∧ RelV v u ∧ Q v H
theorem ix_N (hu : X.A.units + 64 < cLine) : IxR X (rIxN X) := by
  intro value slice pins s σ H x y v u Q I rx ry h hs
  obtain ⟨p, a, d, k, xs, b, w', v', rfl, rfl, n, r, e, hd, hp, rv, q⟩ := h
  obtain rfl : v = Value.ref a := rx
  obtain rfl : u = Value.ref p := ry
  have hk : (nestedKind X.prog X.w).is s.heap k p := ⟨nested_of I d _ _ _ r rfl e, by rw [nk_depth d _ e]; exact hd⟩
  refine tail_any (n.is I).typeIs slot_dict_getitem.lookup (wpAny_getItem_heap (knd := nestedKind X.prog X.w) (by show X.A.units + 1 + 8 < cLine; omega) hk (n.is I) hp ?_) hs
  exact ⟨v', H, I.tok _, rv, q⟩
def rIxK (X : Cx) : R2 := fun x y H Q => ∃ (a : Addr) (v : V), x = .ref a ∧ DGet H a y (some v) ∧ Q v H
theorem ix_K (hu : X.A.units + 64 < cLine) : IxR X (rIxK X) := by
  intro value slice pins s σ H x y v u Q I rx ry h hs
  obtain ⟨a, v', rfl, hg, q⟩ := h
  obtain rfl : v = Value.ref a := rx
  exact tail_any (dict_typeIs I hg) slot_dict_getitem.lookup (d_getItem (by omega) I hg ry fun w' s' I' r' => ⟨v', H, I', r', q⟩) hs
/-- d[y] = v -/
def rSetK : V → V → V → Hp → (Hp → Prop) → Prop := fun o i v H Q => ∃ a H', o = .ref a ∧ DPut H a i v H' ∧ Q H'
theorem set_K (hu : X.A.units + 64 < cLine) : PSet X rSetK := by
  intro pins s σ H o i v ov iv u Q I ro ri rv h
  obtain ⟨a, H', rfl, hp, q⟩ := h
  obtain rfl : ov = Value.ref a := ro
  exact d_setItem (by omega) I hp ri rv fun s' I' => ⟨H', I', q⟩
def rSetN (X : Cx) : V → V → V → Hp → (Hp → Prop) → Prop := fun o i v H Q => ∃ (p a : Addr) (d : D) (k : NestedKey) (xs : List (NestedKey × Addr × Value)), o = .ref a ∧ i = .ref p ∧ (Nest X H a xs ∨ (xs = [] ∧ H a = some (.dK []))) ∧ RV X.K H d (.ref p) ∧ nk d = some k ∧ d.depth ≤ 8 ∧ xs.length < sizeLine ∧
  ∀ u, RelV v u → (a == sysModules) = false → Q (upd H a (dN X.prog X.w a (storedH xs k p u)))
theorem set_N (hu : X.A.units + 64 < cLine) : PSet X (rSetN X) := by
  intro pins s σ H o i v ov iv u Q I ro ri rv h
  obtain ⟨p, a, d, k, xs, rfl, rfl, hn, r, e, hd, hz, q⟩ := h
  obtain rfl : ov = Value.ref a := ro
  obtain rfl : iv = Value.ref p := ri
  have hk : (nestedKind X.prog X.w).is s.heap k p := ⟨nested_of I d _ _ _ r rfl e, by rw [nk_depth d _ e]; exact hd⟩
  obtain ⟨hsm, hm, mu⟩ : (a == sysModules) = false ∧ s.heap.DictOfH (nestedKind X.prog X.w) a xs ∧ Mut (H a) := by
    rcases hn with n | ⟨rfl, n⟩
    · exact ⟨n.2.1, n.is I, by rw [n.1]; trivial⟩
    · obtain ⟨h1, h2⟩ := dict_empty_N I.hok n
      exact ⟨h1, h2, by rw [n]; trivial⟩
  refine wpAny_setItem_heap (knd := nestedKind X.prog X.w) (by show X.A.units + 1 + 8 < cLine; omega) hk hm (fun h' hm' hs => ?_) (by omega)
  obtain ⟨o', es, ep, h1, h2, h3, h4, _⟩ := hm'
  refine ⟨_, d_write I mu hs ⟨o', h1⟩ ?_, q u rv hsm⟩
  exact ⟨⟨o', es, ep, h1, h2, h3, h4⟩, ⟨o', h1⟩, fun g1 g2 ⟨o2, es2, ep2, k1, k2, k3, k4⟩ st => ⟨o2, es2, ep2, st _ k1, k2, k3, k4⟩⟩

/-! ### as told -/
/-- a key that is a number or a text -/
def flatK : D → Option Key
  | .int i => some (.inl i)
  | .str s => some (.inr ⟨s.toArray⟩)
  | _ => none
theorem keyOk_nest {k : D} (h : keyOk true k = true) : k.keyish = true ∧ k.depth ≤ 8 ∧ ∃ xs, k = .tup xs := by
  cases k with
  | tup xs =>
    have h' : (D.keyishs xs && decide (D.depths xs < 8)) = true := h
    rw [Bool.and_eq_true] at h'
    exact ⟨h'.1, of_decide_eq_true h'.2, xs, rfl⟩
  | _ => cases h
theorem keyOk_flat {k : D} (h : keyOk false k = true) : ∃ q, flatK k = some q := by
  cases k with
  | int i => exact ⟨_, rfl⟩
  | str s => exact ⟨_, rfl⟩
  | _ => cases h
theorem flat_V {K : PySem.W.Frag} {H : Hp} {d : D} {v : V} {q : Key} (h : RV K H d v) (e : flatK d = some q) : v = kV q := by
  cases h with
  | int i => cases e; rfl
  | str s _ => cases e; rfl
  | _ => cases e
theorem nodup_put {κ : Type} [DecidableEq κ] (k : κ) (v : V) : ∀ ks : List (κ × V), (ks.map (·.1)).Nodup → ((L2.putK ks k v).map (·.1)).Nodup := fun ks hn => by
  unfold L2.putK
  split
  · rename_i h
    rw [List.map_map]
    have e : ((fun x : κ × V => x.1) ∘ fun kv : κ × V => if kv.1 = k then (kv.1, v) else kv) = fun x => x.1 := by
      funext x
      show (if x.1 = k then (x.1, v) else x).1 = x.1
      split <;> rfl
    rw [e]; exact hn
  · rename_i h
    rw [List.map_append]
    refine List.nodup_append.mpr ⟨hn, by simp, fun a ha b hb z => h ?_⟩
    obtain ⟨p, hp, rfl⟩ := List.mem_map.mp ha
    have hb' : b = k := by simpa using hb
    exact List.any_eq_true.mpr ⟨p, hp, decide_eq_true (by rw [z, hb'])⟩
theorem nodup_stored (k : NestedKey) (p : Addr) (u : Value) (xs : List (NestedKey × Addr × Value)) (hn : (xs.map (·.1)).Nodup) : ((storedH xs k p u).map (·.1)).Nodup := by
  unfold storedH
  split
  · rw [keys_map_putAt]; exact hn
  · rename_i h
    rw [List.map_append]
    refine List.nodup_append.mpr ⟨hn, by simp, fun a ha b hb z => h ?_⟩
    obtain ⟨q, hq, rfl⟩ := List.mem_map.mp ha
    have hb' : b = k := by simpa using hb
    rw [nest_atKey]
    exact List.any_eq_true.mpr ⟨q, hq, decide_eq_true (by rw [z, hb'])⟩
theorem paired_any {α β : Type} {F : α → β → Prop} {p : α → Bool} {q : β → Bool} (h : ∀ a b, F a b → p a = q b) : ∀ {xs : List α} {ys : List β}, Paired F xs ys → xs.any p = ys.any q
  | _, _, .nil => rfl
  | _, _, .cons r t => by rw [List.any_cons, List.any_cons, h _ _ r, paired_any h t]
theorem paired_len {α β : Type} {F : α → β → Prop} : ∀ {xs : List α} {ys : List β}, Paired F xs ys → xs.length = ys.length
  | _, _, .nil => rfl
  | _, _, .cons _ t => by rw [List.length_cons, List.length_cons, paired_len t]
theorem paired_mem {α β : Type} {F : α → β → Prop} : ∀ {xs : List α} {ys : List β}, Paired F xs ys → ∀ y ∈ ys, ∃ x ∈ xs, F x y
  | _, _, .nil, _, h => nomatch h
  | _, _, .cons r t, y, h => by
    rcases List.mem_cons.mp h with rfl | h
    · exact ⟨_, List.Mem.head _, r⟩
    · obtain ⟨x, h1, h2⟩ := paired_mem t y h
      exact ⟨x, List.Mem.tail _ h1, h2⟩
theorem RV.flat {K : PySem.W.Frag} {H : Hp} {d : D} {q : Key} (h : RV K H d (kV q)) : flatK d = some q := by
  cases q with
  | inl i => cases h; rfl
  | inr x => cases h; rfl
theorem flatK_inj {d d' : D} {q : Key} (h : flatK d = some q) (h' : flatK d' = some q) : d = d' := by
  cases d <;> cases d' <;> simp [flatK] at h h' <;> first | (subst h; cases h'; rfl) | (subst h; simp_all) | skip
theorem flat_dec {d d' : D} {q q' : Key} (h : flatK d = some q) (h' : flatK d' = some q') : decide (d = d') = decide (q = q') := by
  by_cases e : q = q'
  · subst e
    rw [flatK_inj h h']; simp
  · rw [decide_eq_false e]
    exact decide_eq_false fun z => e (by subst z; rw [h] at h'; exact Option.some.inj h')
theorem nk_dec {d d' : D} {q q' : NestedKey} (h : nk d = some q) (h' : nk d' = some q') : decide (d = d') = decide (q = q') := by
  by_cases e : q = q'
  · subst e
    rw [nk_inj _ _ _ h h']; simp
  · rw [decide_eq_false e]
    exact decide_eq_false fun z => e (by subst z; rw [h] at h'; exact Option.some.inj h')
abbrev KR (K : PySem.W.Frag) (H : Hp) : List (D × D) → List (Key × V) → Prop := Paired fun (p : D × D) (q : Key × V) => RV K H p.1 (kV q.1) ∧ RV K H p.2 q.2
abbrev NR (K : PySem.W.Frag) (H : Hp) : List (D × D) → List (NestedKey × Addr × Value) → Prop :=
  Paired fun (p : D × D) (x : NestedKey × Addr × Value) => nk p.1 = some x.1 ∧ p.1.depth ≤ 8 ∧ RV K H p.1 (.ref x.2.1) ∧ ∃ v, RelV v x.2.2 ∧ RV K H p.2 v
theorem KR.has {K : PySem.W.Frag} {H : Hp} {kvs : List (D × D)} {ks : List (Key × V)} (h : KR K H kvs ks) {d : D} {q : Key} (e : flatK d = some q) : hasK kvs d = (valV ks q).isSome := by
  rw [← valV_any]
  exact paired_any (fun a b z => flat_dec z.1.flat e) h
theorem KR.look {K : PySem.W.Frag} {H : Hp} {d : D} {q : Key} (e : flatK d = some q) : ∀ {kvs : List (D × D)} {ks : List (Key × V)}, KR K H kvs ks → ∀ {x : D}, lookK kvs d = some x → ∃ v, valV ks q = some v ∧ RV K H x v
  | _, _, .nil, _, h => nomatch h
  | p :: kvs, b :: ks, .cons r t, x, h => by
    have dd := flat_dec r.1.flat e
    unfold lookK at h
    split at h
    · rename_i hp
      rw [decide_eq_true hp] at dd
      cases h
      exact ⟨_, valV_pos (of_decide_eq_true dd.symm), r.2⟩
    · rename_i hp
      rw [decide_eq_false hp] at dd
      obtain ⟨v, h1, h2⟩ := KR.look e t h
      exact ⟨v, by rw [valV_neg (of_decide_eq_false dd.symm)]; exact h1, h2⟩
theorem putK_cons {κ : Type} [DecidableEq κ] (p : κ × V) (r : List (κ × V)) (k : κ) (v : V) (hn : ((p :: r).map (·.1)).Nodup) : L2.putK (p :: r) k v = if p.1 = k then (k, v) :: r else p :: L2.putK r k v := by
  unfold L2.putK
  by_cases h : p.1 = k
  · rw [if_pos (by simp [h]), if_pos h, List.map_cons, if_pos h]
    have : ∀ q ∈ r, q.1 ≠ k := fun q hq z => by
      rw [List.map_cons, List.nodup_cons] at hn
      exact hn.1 (by rw [h, ← z]; exact List.mem_map.mpr ⟨q, hq, rfl⟩)
    congr 1
    · rw [h]
    · exact (List.map_congr_left fun q hq => if_neg (this q hq)).trans (List.map_id _)
  · rw [if_neg h]
    by_cases h2 : (r.any fun kv => decide (kv.1 = k)) = true
    · rw [if_pos (by rw [List.any_cons, h2, Bool.or_true]), if_pos h2, List.map_cons, if_neg h]
    · rw [if_neg (by rw [List.any_cons, decide_eq_false h, Bool.false_or]; exact h2), if_neg h2, List.cons_append]
theorem KR.put {K : PySem.W.Frag} {H H' : Hp} (kp : Keep H H') {d x : D} {q : Key} {v : V} (e : RV K H d (kV q)) (rx : RV K H x v) : ∀ {kvs : List (D × D)} {ks : List (Key × V)}, KR K H kvs ks → (ks.map (·.1)).Nodup → KR K H' (putK kvs d x) (L2.putK ks q v)
  | _, _, .nil, _ => .cons ⟨e.keep kp, rx.keep kp⟩ .nil
  | p :: kvs, b :: ks, .cons r t, hn => by
    have dd := flat_dec r.1.flat e.flat
    rw [putK_cons b ks q v hn]
    unfold putK
    by_cases hp : p.1 = d
    · rw [decide_eq_true hp] at dd
      rw [if_pos hp, if_pos (of_decide_eq_true dd.symm)]
      exact .cons ⟨e.keep kp, rx.keep kp⟩ (L2.Paired.mapP t fun _ _ z => ⟨z.1.keep kp, z.2.keep kp⟩)
    · rw [decide_eq_false hp] at dd
      rw [if_neg hp, if_neg (of_decide_eq_false dd.symm)]
      rw [List.map_cons, List.nodup_cons] at hn
      exact .cons ⟨r.1.keep kp, r.2.keep kp⟩ (KR.put kp e rx t hn.2)
theorem NR.has {K : PySem.W.Frag} {H : Hp} {kvs : List (D × D)} {xs : List (NestedKey × Addr × Value)} (h : NR K H kvs xs) {d : D} {q : NestedKey} (e : nk d = some q) : hasK kvs d = (atKey xs q).isSome := by
  rw [nest_atKey]
  exact paired_any (fun a b z => nk_dec z.1 e) h
theorem atKey_cons (x : NestedKey × Addr × Value) (xs : List (NestedKey × Addr × Value)) (k : NestedKey) : atKey (x :: xs) k = if x.1 = k then some x.2 else atKey xs k := by
  by_cases h : x.1 = k <;> simp [atKey, h]
theorem NR.look {K : PySem.W.Frag} {H : Hp} {d : D} {q : NestedKey} (e : nk d = some q) : ∀ {kvs : List (D × D)} {xs : List (NestedKey × Addr × Value)}, NR K H kvs xs → ∀ {x : D}, lookK kvs d = some x → ∃ b u v, atKey xs q = some (b, u) ∧ RelV v u ∧ RV K H x v
  | _, _, .nil, _, h => nomatch h
  | p :: kvs, b :: xs, .cons r t, x, h => by
    have dd := nk_dec r.1 e
    rw [atKey_cons]
    unfold lookK at h
    split at h
    · rename_i hp
      rw [decide_eq_true hp] at dd
      cases h
      obtain ⟨_, _, _, v, h1, h2⟩ := r
      exact ⟨b.2.1, b.2.2, v, by rw [if_pos (of_decide_eq_true dd.symm)], h1, h2⟩
    · rename_i hp
      rw [decide_eq_false hp] at dd
      rw [if_neg (of_decide_eq_false dd.symm)]
      exact NR.look e t h
theorem storedH_cons (x : NestedKey × Addr × Value) (xs : List (NestedKey × Addr × Value)) (k : NestedKey) (p : Addr) (u : Value) (hn : ((x :: xs).map (·.1)).Nodup) : storedH (x :: xs) k p u = if x.1 = k then (x.1, x.2.1, u) :: xs else x :: storedH xs k p u := by
  unfold storedH
  rw [atKey_cons]
  by_cases h : x.1 = k
  · rw [if_pos h, if_pos h, if_pos (show (some x.2).isSome = true from rfl), List.map_cons, putAt, if_pos h, map_putAt_of_not_mem]
    rw [List.map_cons, List.nodup_cons] at hn
    rw [← h]; exact hn.1
  · rw [if_neg h, if_neg h]
    split
    · rw [List.map_cons, putAt, if_neg h]
    · rfl
theorem NR.put {K : PySem.W.Frag} {H H' : Hp} (kp : Keep H H') {d x : D} {q : NestedKey} {p : Addr} {v : V} {u : Value} (e : nk d = some q) (hd : d.depth ≤ 8) (rd : RV K H d (.ref p)) (rx : RV K H x v) (rv : RelV v u) :
    ∀ {kvs : List (D × D)} {xs : List (NestedKey × Addr × Value)}, NR K H kvs xs → (xs.map (·.1)).Nodup → NR K H' (putK kvs d x) (storedH xs q p u)
  | _, _, .nil, _ => .cons ⟨e, hd, rd.keep kp, v, rv, rx.keep kp⟩ .nil
  | b :: kvs, y :: xs, .cons r t, hn => by
    have dd := nk_dec r.1 e
    rw [storedH_cons y xs q p u hn]
    unfold putK
    by_cases hp : b.1 = d
    · rw [decide_eq_true hp] at dd
      rw [if_pos hp, if_pos (of_decide_eq_true dd.symm)]
      obtain ⟨h1, h2, h3, _⟩ := r
      exact .cons ⟨by rw [← hp]; exact h1, hd, by rw [← hp]; exact h3.keep kp, v, rv, rx.keep kp⟩ (L2.Paired.mapP t fun _ _ ⟨z1, z2, z3, w, z4, z5⟩ => ⟨z1, z2, z3.keep kp, w, z4, z5.keep kp⟩)
    · rw [decide_eq_false hp] at dd
      rw [if_neg hp, if_neg (of_decide_eq_false dd.symm)]
      rw [List.map_cons, List.nodup_cons] at hn
      obtain ⟨z1, z2, z3, w, z4, z5⟩ := r
      exact .cons ⟨z1, z2, z3.keep kp, w, z4, z5.keep kp⟩ (NR.put kp e hd rd rx rv t hn.2)
theorem NR.nest {H : Hp} {a : Addr} {kvs : List (D × D)} {xs : List (NestedKey × Addr × Value)} (h1 : H a = some (dN X.prog X.w a xs)) (h2 : (a == sysModules) = false) (h3 : (xs.map (·.1)).Nodup) (h4 : xs.length ≤ sizeLine) (r : NR X.K H kvs xs) : Nest X H a xs :=
  ⟨h1, h2, h3, h4, fun x hx => let ⟨p, _, z1, z2, z3, _⟩ := paired_mem r x hx; ⟨p.1, z3, z1, z2⟩⟩
end
end Pd
set_option Elab.async false
set_option linter.all false
set_option maxRecDepth 100000
set_option maxHeartbeats 1000000
namespace Pd
open PySem PySem.Spec PyProof.Rows L2
section
variable {X : Cx} {tb : Tb}
/-! ### in -/
def rInF (K : PySem.W.Frag) (neg : Bool) : R2 := fun x y H Q => ∃ a o, y = .ref a ∧ DGet H a x o ∧ Q (.bl (if neg then !o.isSome else o.isSome)) H
theorem op_inF (hu : X.A.units + 64 < cLine) : OpR X (compareOp .In) (rInF X.K false) := by
  intro pins s σ H x y v u Q I rx ry h
  obtain ⟨a, o, rfl, hg, q⟩ := h
  obtain rfl : u = Value.ref a := ry
  exact d_in (by omega) I hg rx fun s' I' => ⟨.bl _, H, I', rfl, q⟩
theorem op_notInF (hu : X.A.units + 64 < cLine) : OpR X (compareOp .NotIn) (rInF X.K true) := by
  intro pins s σ H x y v u Q I rx ry h
  obtain ⟨a, o, rfl, hg, q⟩ := h
  obtain rfl : u = Value.ref a := ry
  exact d_notIn (by omega) I hg rx fun s' I' => ⟨.bl _, H, I', rfl, q⟩
/-- a sign in a text -/
def rInS : R2 := fun x y H Q => ∃ (c : Nat) (z : Str), x = .str ⟨#[c]⟩ ∧ y = .str z ∧ Q (.bl (decide (c ∈ z.cps.toList))) H
def rInAll (X : Cx) : R2 := fun x y H Q => rInF X.K false x y H Q ∨ (rInN X false x y H Q ∨ (rInD X.K x y H Q ∨ (rIn X.K false x y H Q ∨ rInS x y H Q)))
def rNinAll (X : Cx) : R2 := fun x y H Q => rInF X.K true x y H Q ∨ (rInN X true x y H Q ∨ (rNotInD X.K x y H Q ∨ rIn X.K true x y H Q))
theorem op_inAll (hu : X.A.units + 128 < cLine) : OpR X (compareOp .In) (rInAll X) :=
  (op_inF (by omega)).or ((op_inN (by omega)).or (OpR.or (op_inD (by omega)) (op_in_seq.or op_in_sign)))
theorem op_ninAll (hu : X.A.units + 128 < cLine) : OpR X (compareOp .NotIn) (rNinAll X) :=
  (op_notInF (by omega)).or ((op_notInN (by omega)).or (OpR.or (op_notInD (by omega)) op_notIn_seq))
theorem mem_eqv {x : D} (hx : x.pure = true) : ∀ {xs : List D}, D.pures xs = true → ((toPys xs).any fun z => PyData.eqv z (toPy x)) = decide (x ∈ xs)
  | [], _ => rfl
  | y :: ys, h => by
    have h' : y.pure = true ∧ D.pures ys = true := by simpa [D.pures] using h
    show (PyData.eqv (toPy y) (toPy x) || (toPys ys).any fun z => PyData.eqv z (toPy x)) = _
    rw [toPy_eqv _ _ h'.1 hx, mem_eqv hx h'.2, beq_decide, ← Bool.decide_or]
    congr 1
    simp [eq_comm]
theorem flat_V2 {K : PySem.W.Frag} {H : Hp} {d : D} {v : V} (h : RV K H d v) (e : flatD d = true) : flatV v = true := by
  cases h <;> first | rfl | cases e
theorem flat_Vs {K : PySem.W.Frag} {H : Hp} : ∀ {ds : List D} {vs : List V}, RVs K H ds vs → ds.all flatD = true → vs.all flatV = true
  | _, _, .nil, _ => rfl
  | _, _, .cons r t, h => by
    rw [List.all_cons, Bool.and_eq_true] at h ⊢
    exact ⟨flat_V2 r h.1, flat_Vs t h.2⟩
theorem beq_dec_int (i j : Int) : (i == j) = decide (i = j) := by
  by_cases h : i = j
  · subst h; simp
  · rw [decide_eq_false h]; exact beq_eq_false_iff_ne.mpr h
theorem eqV_dec {K : PySem.W.Frag} {H : Hp} {d d' : D} {v v' : V} (h : RV K H d v) (h' : RV K H d' v') (e : flatD d = true) (e' : flatD d' = true) : eqV v v' = decide (d = d') := by
  cases h <;> first | (cases e; done) | skip
  all_goals (cases h' <;> first | (cases e'; done) | skip)
  all_goals first | rfl | exact strA_inj.trans (by simp) | (simp [eqV]; done) | exact (beq_dec_int _ _).trans (by simp)
theorem inV_dec {K : PySem.W.Frag} {H : Hp} {d : D} {v : V} (h : RV K H d v) (e : flatD d = true) : ∀ {ds : List D} {vs : List V}, RVs K H ds vs → ds.all flatD = true → inV v vs = decide (d ∈ ds)
  | _, _, .nil, _ => rfl
  | _, _, .cons (d := x) (ds := xs) r t, hf => by
    rw [List.all_cons, Bool.and_eq_true] at hf
    show (eqV _ v || inV v _) = _
    rw [eqV_dec r h hf.1 e, inV_dec h e t hf.2, ← Bool.decide_or]
    congr 1
    simp [eq_comm]
theorem inC_ok {F T : Own} {ψ : Psi} {g : G} {σ : L2.St} {H : Hp} {c c' : C} {x y : V} {k : Bool} (R : Rel (bx X tb) F ψ g T σ H) (hc : RC (bx X tb) H c x) (hc' : RC (bx X tb) H c' y) (e : inC g c c' = some k) :
    (∀ neg Q, Q (.bl (if neg then !k else k)) H → rInF X.K neg x y H Q) ∨ (∀ neg Q, Q (.bl (if neg then !k else k)) H → rInN X neg x y H Q) ∨
    ((∀ Q : VK, Q (.bl k) H → rInD X.K x y H Q) ∧ ∀ Q : VK, Q (.bl (!k)) H → rNotInD X.K x y H Q) ∨ (∀ neg Q, Q (.bl (if neg then !k else k)) H → rIn X.K neg x y H Q) := by
  unfold inC at e
  split at e
  · rename_i d t kvs
    split at e
    · rename_i hk
      cases e
      obtain ⟨a, rfl, ra⟩ := hc'
      cases t with
      | false =>
        obtain ⟨q, eq⟩ := keyOk_flat hk
        have hx := flat_V hc eq
        subst hx
        obtain ⟨ks, h1, _, h3⟩ := ra
        refine .inl fun neg Q hq => ⟨a, _, rfl, DGet.k h1, ?_⟩
        rw [← KR.has h3 eq]; exact hq
      | true =>
        obtain ⟨h1, h2, xs, rfl⟩ := keyOk_nest hk
        obtain ⟨nkk, en⟩ := nk_some _ h1
        obtain ⟨p, rfl⟩ : ∃ p, x = .ref p := by cases hc with | tup a b => exact ⟨_, rfl⟩
        rcases ra with ⟨rfl, h3⟩ | ⟨ys, h3, h4, h5, h6, h7⟩
        · refine .inr (.inl fun neg Q hq => ⟨p, a, _, nkk, [], rfl, rfl, .inr ⟨rfl, h3⟩, hc, en, h2, ?_⟩)
          exact hq
        · refine .inr (.inl fun neg Q hq => ⟨p, a, _, nkk, ys, rfl, rfl, .inl (NR.nest h3 h4 h5 h6 h7), hc, en, h2, ?_⟩)
          rw [← NR.has h7 en]; exact hq
    · cases e
  · rename_i d xs
    split at e
    · rename_i hp
      cases e
      simp only [Bool.and_eq_true, decide_eq_true_eq] at hp
      obtain ⟨⟨⟨p1, p2⟩, d1⟩, d2⟩ := hp
      obtain ⟨a, rfl, vs, h1, h2⟩ := hc'
      obtain ⟨q1, l1⟩ := dp_pure _ _ p1 hc
      obtain ⟨q2, l2⟩ := dp_pures _ _ p2 h2
      have s1 : SeqAt.shaped (toPy d) = true := toPy_shaped (by omega) l1
      have s2 : SeqAt.shaped (.list (toPys xs)) = true := toPy_shaped (x := .rol xs) (by show D.depths xs + 1 ≤ 60; omega) l2
      refine .inr (.inr (.inl ⟨fun Q hq => ⟨_, _, q1, .lst (SqL.of h1) q2, s1, s2, by rw [mem_eqv p1 p2]; exact hq⟩, fun Q hq => ⟨_, _, q1, .lst (SqL.of h1) q2, s1, s2, by rw [mem_eqv p1 p2]; exact hq⟩⟩))
    · cases e
  · rename_i d xs
    split at e
    · rename_i hp
      cases e
      simp only [Bool.and_eq_true, decide_eq_true_eq] at hp
      obtain ⟨⟨⟨p1, p2⟩, d1⟩, d2⟩ := hp
      obtain ⟨q1, l1⟩ := dp_pure _ _ p1 hc
      cases hc' with
      | rol h1 h2 =>
        obtain ⟨q2, l2⟩ := dp_pures _ _ p2 h2
        have s1 : SeqAt.shaped (toPy d) = true := toPy_shaped (by omega) l1
        have s2 : SeqAt.shaped (.list (toPys xs)) = true := toPy_shaped (x := .rol xs) (by show D.depths xs + 1 ≤ 60; omega) l2
        refine .inr (.inr (.inl ⟨fun Q hq => ⟨_, _, q1, .lst h1.seq q2, s1, s2, by rw [mem_eqv p1 p2]; exact hq⟩, fun Q hq => ⟨_, _, q1, .lst h1.seq q2, s1, s2, by rw [mem_eqv p1 p2]; exact hq⟩⟩))
    · cases e
  · rename_i d xs
    split at e
    · rename_i hp
      cases e
      rw [Bool.and_eq_true] at hp
      cases hc' with
      | tup h1 h2 =>
        refine .inr (.inr (.inr fun neg Q hq => ⟨_, _, rfl, .inr h1, flat_V2 hc hp.1, flat_Vs h2 hp.2, ?_⟩))
        rw [inV_dec hc hp.1 h2 hp.2]; exact hq
    · cases e
  · cases e
theorem ok_in : OpOk X tb oIn (rInAll X) := fun F T ψ g σ H c c' x y z Q R hc hc' e k => by
  obtain ⟨b, e1, rfl⟩ := Option.map_eq_some_iff.mp e
  have fin : Q (.bl b) H := k _ T H ⟨.bl _, rfl⟩ R (Keep.refl H)
  unfold inT at e1
  split at e1
  · cases e1
    cases hc; cases hc'
    exact .inr (.inr (.inr (.inr ⟨_, _, rfl, rfl, fin⟩)))
  · rcases inC_ok R hc hc' e1 with h | h | h | h
    · exact .inl (h false Q fin)
    · exact .inr (.inl (h false Q fin))
    · exact .inr (.inr (.inl (h.1 Q fin)))
    · exact .inr (.inr (.inr (.inl (h false Q fin))))
theorem ok_nin : OpOk X tb oNin (rNinAll X) := fun F T ψ g σ H c c' x y z Q R hc hc' e k => by
  obtain ⟨b, e1, rfl⟩ := Option.map_eq_some_iff.mp e
  have fin : Q (.bl (!b)) H := k _ T H ⟨.bl _, rfl⟩ R (Keep.refl H)
  rcases inC_ok R hc hc' e1 with h | h | h | h
  · exact .inl (h true Q fin)
  · exact .inr (.inl (h true Q fin))
  · exact .inr (.inr (.inl (h.2 Q fin)))
  · exact .inr (.inr (.inr (h true Q fin)))

/-! ### items, slices -/
theorem atI_same {α : Type} (xs : List α) (i : Int) : atI xs i = L2.atI xs i := by
  unfold atI L2.atI
  congr 1
  unfold idxOf L2.ixN
  by_cases h0 : 0 ≤ i
  · by_cases h1 : i < xs.length
    · rw [if_pos ⟨h0, h1⟩, if_pos h0, if_pos h1]
    · rw [if_neg (fun z => h1 z.2), if_neg (by omega), if_pos h0, if_neg h1]
  · rw [if_neg (fun z => h0 z.1), if_neg h0]
    by_cases h1 : -(xs.length : Int) ≤ i
    · rw [if_pos ⟨h1, by omega⟩, if_pos h1, Int.add_comm]
    · rw [if_neg (fun z => h1 z.1), if_neg h1]
theorem atI_rel {K : PySem.W.Frag} {H : Hp} {ds : List D} {vs : List V} {i : Int} {d : D} (r : RVs K H ds vs) (e : atI ds i = some d) : ∃ v, L2.atI vs i = some v ∧ RV K H d v := by
  rw [atI_same] at e
  unfold L2.atI at e ⊢
  obtain ⟨j, e1, e2⟩ := Option.bind_eq_some_iff.mp e
  obtain ⟨v, h1, h2⟩ := r.get e2
  exact ⟨v, by rw [← r.length, e1]; exact h1, h2⟩
def rIxAll (X : Cx) : R2 := fun x y H Q => rIx X.K x y H Q ∨ (rIxK X x y H Q ∨ rIxN X x y H Q)
theorem ix_all (hu : X.A.units + 128 < cLine) : IxR X (rIxAll X) := ix_seq.or ((ix_K (by omega)).or (ix_N (by omega)))
theorem ok_ix : OpOk X tb oIx (rIxAll X) := fun F T ψ g σ H c c' x y z Q R hc hc' e k => by
  obtain ⟨d, e1, rfl⟩ := Option.map_eq_some_iff.mp e
  unfold ixC at e1
  split at e1
  · rename_i s i
    split at e1
    · rename_i hl
      obtain ⟨ch, e2, rfl⟩ := Option.map_eq_some_iff.mp e1
      cases hc with | str _ o1 => ?_
      cases hc'
      rw [atI_same] at e2
      have hm : ch ∈ s := by
        unfold L2.atI at e2
        obtain ⟨j, _, e3⟩ := Option.bind_eq_some_iff.mp e2
        exact List.mem_of_getElem? e3
      refine .inl (.inr (.inr ⟨_, _, ch, rfl, rfl, by rw [← most_eq]; simpa [Str.length] using hl, by simpa using e2, ?_⟩))
      exact k _ T H ⟨.str [ch] fun c hc => by rw [List.mem_singleton.mp hc]; exact o1 _ hm, rfl⟩ R (Keep.refl H)
    · cases e1
  · cases hc' with | int i => ?_
    cases hc with | tup h1 h2 => ?_
    obtain ⟨v, h3, h4⟩ := atI_rel h2 e1
    exact .inl (.inr (.inl ⟨_, _, _, v, rfl, rfl, h1, h3, k _ T H ⟨h4, rfl⟩ R (Keep.refl H)⟩))
  · cases hc' with | int i => ?_
    cases hc with | rol h1 h2 => ?_
    obtain ⟨v, h3, h4⟩ := atI_rel h2 e1
    exact .inl (.inl ⟨_, _, _, v, rfl, rfl, h1.seq, h3, k _ T H ⟨h4, rfl⟩ R (Keep.refl H)⟩)
  · cases hc' with | int i => ?_
    obtain ⟨a, rfl, vs, h1, h2⟩ := hc
    obtain ⟨v, h3, h4⟩ := atI_rel h2 e1
    exact .inl (.inl ⟨_, _, _, v, rfl, rfl, SqL.of h1, h3, k _ T H ⟨h4, rfl⟩ R (Keep.refl H)⟩)
  · rename_i t kvs kk
    split at e1
    · rename_i hk
      obtain ⟨a, rfl, ra⟩ := hc
      cases t with
      | false =>
        obtain ⟨q, eq⟩ := keyOk_flat hk
        have hx := flat_V hc' eq
        subst hx
        obtain ⟨ks, h1, _, h3⟩ := ra
        obtain ⟨v, h4, h5⟩ := KR.look eq h3 e1
        refine .inr (.inl ⟨a, v, rfl, ?_, k _ T H ⟨h5, rfl⟩ R (Keep.refl H)⟩)
        rw [← h4]; exact DGet.k h1
      | true =>
        obtain ⟨h1, h2, xs, rfl⟩ := keyOk_nest hk
        obtain ⟨nkk, en⟩ := nk_some _ h1
        obtain ⟨p, rfl⟩ : ∃ p, y = .ref p := by cases hc' with | tup a b => exact ⟨_, rfl⟩
        rcases ra with ⟨rfl, h3⟩ | ⟨ys, h3, h4, h5, h6, h7⟩
        · cases e1
        · obtain ⟨b, u, v, g1, g2, g3⟩ := NR.look en h7 e1
          exact .inr (.inr ⟨p, a, _, nkk, ys, b, u, v, rfl, rfl, NR.nest h3 h4 h5 h6 h7, hc', en, h2, g1, g2, k _ T H ⟨g3, rfl⟩ R (Keep.refl H)⟩)
    · cases e1
  · cases e1
theorem de_ix {a b : Expr} {ta u : WE} {pos : Pos} (hu : X.A.units + 128 < cLine) (ha : DE X tb a ta) (hb : DE X tb b u) (hs : PlainIx b := by exact fun _ _ => rfl) : DE X tb (.Subscript a b pos) (eBin oIx ta u) := fun W tk =>
  let ⟨_, h1, h2⟩ := ha W tk
  let ⟨_, h3, h4⟩ := hb W tk
  ⟨_, pe_ix (ix_all hu) h1 h3 hs, ref_bin ok_ix h2 h4⟩
theorem clamp_sIx (n : Nat) (d : Nat) (i : Int) : clampI n i = HT.sIx n d (some i) := by
  have := HT.clip_eq i n d
  unfold clampI
  by_cases h : i < 0
  · rw [if_pos h] at this ⊢
    omega
  · rw [if_neg h] at this ⊢
    omega
theorem cut_eq {α : Type} (xs : List α) (lo hi : Option Int) : cut xs lo hi = (xs.drop (HT.sIx xs.length 0 lo)).take (HT.sIx xs.length xs.length hi - HT.sIx xs.length 0 lo) := by
  have e1 : ∀ d, ∀ o : Option Int, bndN xs.length d o = HT.sIx xs.length d o := fun d o => by
    cases o with
    | none => exact (HT.sIx_none _ _).symm
    | some i => exact clamp_sIx _ _ i
  unfold cut
  rw [e1, e1, List.drop_take]
theorem cut_rel {K : PySem.W.Frag} {H : Hp} {ds : List D} {vs : List V} (r : RVs K H ds vs) (lo hi : Option Int) : RVs K H (cut ds lo hi) (cutV vs lo hi) := by
  rw [cut_eq]
  unfold cutV
  rw [← r.length]
  exact (r.drop _).take _
def rSlAll (X : Cx) : V → Option Int → Option Int → Hp → VK → Prop := fun x lo hi H Q => rSlL X.K x lo hi H Q ∨ (rSlA X.K x lo hi H Q ∨ rSlS x lo hi H Q)
theorem sl_all : SlR X (rSlAll X) := sl_list.or (sl_tupA.or sl_str)
theorem cut_whole {α : Type} (xs : List α) (lo hi : Option Int) (h1 : HT.sIx xs.length 0 lo = 0) (h2 : HT.sIx xs.length xs.length hi = xs.length) : cut xs lo hi = xs := by
  rw [cut_eq, h1, h2]; simp
theorem ok_cut {F T : Own} {ψ : Psi} {g : G} {σ : L2.St} {H : Hp} {c : C} {x : V} {z : R} {lo hi : Option Int} {Q : VK} (R : Rel (bx X tb) F ψ g T σ H) (hc : RC (bx X tb) H c x) (e : cutC lo hi c = some z)
    (k : ∀ v T1 H1, RR (bx X tb) z v T T1 σ H1 → Rel (bx X tb) F ψ g T1 σ H1 → Keep H H1 → Q v H1) : rSlAll X x lo hi H Q := by
  unfold cutC at e
  split at e
  · rename_i s
    split at e
    · rename_i hl
      cases e
      cases hc with | str _ o1 => ?_
      refine .inr (.inr ⟨_, rfl, by rw [← most_eq]; simpa [Str.length] using hl, ?_⟩)
      have e1 : L2.cutS ⟨s.toArray⟩ lo hi = ⟨(cut s lo hi).toArray⟩ := by
        unfold L2.cutS
        rw [cut_eq]
        simp [Str.length]
      rw [e1]
      refine k _ T H ⟨.str _ fun c hc => o1 c ?_, rfl⟩ R (Keep.refl H)
      unfold cut at hc
      exact List.mem_of_mem_take (List.mem_of_mem_drop hc)
    · cases e
  · rename_i xs
    cases e
    cases hc with | tup h1 h2 => ?_
    refine .inr (.inl ⟨_, _, rfl, h1, fun w => ?_, fun _ => give_tup R (cut_rel h2 lo hi) k⟩)
    have q := cut_whole xs lo hi (by rw [h2.length]; exact w.1) (by rw [h2.length]; exact w.2)
    rw [q] at k
    exact k _ T H ⟨.tup h1 h2, rfl⟩ R (Keep.refl H)
  · cases e
    cases hc with | rol h1 h2 => ?_
    exact .inl ⟨_, _, rfl, h1.seq, give_lst R (cut_rel h2 lo hi) k⟩
  · cases e
    obtain ⟨a, rfl, vs, h1, h2⟩ := hc
    exact .inl ⟨_, _, rfl, SqL.of h1, give_lst R (cut_rel h2 lo hi) k⟩
  · cases e
theorem eq8 (hu : X.A.units + 128 < cLine) : OpR X (compareOp .Eq) (rEqD X.K) := op_eqD (by omega)
theorem ne8 (hu : X.A.units + 128 < cLine) : OpR X (compareOp .NotEq) (rNeD X.K) := op_neD (by omega)
theorem room8 {A : Around} {k : Nat} (h : Room k A) : A.units + 128 < cLine := by have := h.un; omega
end
end Pd
set_option Elab.async false
set_option linter.all false
set_option maxRecDepth 100000
set_option maxHeartbeats 1000000
namespace Pd
open PySem PySem.Spec PyProof.Rows L2
section
variable {X : Cx} {tb : Tb} {e a b : Expr} {es : List Expr} {te ta u : WE} {pos : Pos}
/-! ### slices -/
def RefO (X : Cx) (tb : Tb) (W : WX) (t : Option WE) (t0 : TO) : Prop := ∀ (E : EX) (F T : Own) (ψ : Psi) (g : G) (σ : L2.St) (H : Hp) (Q' : Option Int → Psi → G → Prop) (Q : Option Int → Hp → Prop),
  Rel (bx X tb) F ψ g T σ H → ExOk (bx X tb) tb.ec W E F T σ H → bndQ t E ψ g Q' →
  (∀ o ψ1 g1 H1, Q' o ψ1 g1 → Rel (bx X tb) F ψ1 g1 T σ H1 → Keep H H1 → Q o H1) → t0 σ H Q
def DO (X : Cx) (tb : Tb) (e : Option Expr) (t : Option WE) : Prop := ∀ W : WX, Takes X W → ∃ t0, PO X e t0 ∧ RefO X tb W t t0
theorem do_none : DO X tb none none := fun W tk => ⟨_, po_none, fun E F T ψ g σ H Q' Q R ex q k => k _ ψ g H q R (Keep.refl H)⟩
theorem do_some (h : DE X tb e te) : DO X tb (some e) (some te) := fun W tk => by
  obtain ⟨t1, h1, h2⟩ := h W tk
  refine ⟨_, po_some h1, fun E F T ψ g σ H Q' Q R ex q k => h2 E F T ψ g σ H _ _ R ex q fun r ψ1 g1 T1 v H1 q1 rr R1 k1 => ?_⟩
  obtain ⟨T', rfl⟩ := rr.suffix
  have q1' : (match look ψ1 g1 r with | some (.d (.int i)) => -(2 ^ 62) ≤ i ∧ i < 2 ^ 62 ∧ Q' (some i) ψ1 g1 | _ => False) := q1
  split at q1'
  · rename_i i e1
    have x1 := R1.look rr e1 ⟨[], rfl⟩
    cases x1
    exact ⟨i, rfl, k _ ψ1 g1 H1 q1'.2.2 R1.dropT k1⟩
  · exact q1'.elim
theorem de_cut {lo hi : Option Expr} {tl th : Option WE} {p2 : Pos} (ha : DE X tb a ta) (hl : DO X tb lo tl) (hh : DO X tb hi th) : DE X tb (.Subscript a (.Slice lo hi none p2) pos) (eCut ta tl th) := fun W tk => by
  obtain ⟨t1, h1, h2⟩ := ha W tk
  obtain ⟨t2, h3, h4⟩ := hl W tk
  obtain ⟨t3, h5, h6⟩ := hh W tk
  refine ⟨_, pe_slice sl_all h1 h3 h5, fun E F T ψ g σ H Q' Q R ex q k => h2 E F T ψ g σ H _ _ R ex q fun r ψ1 g1 T1 v H1 q1 rr R1 k1 => ?_⟩
  obtain ⟨T', rfl⟩ := rr.suffix
  refine h4 E F (T' ++ T) ψ1 g1 σ H1 _ _ R1 (ex.more k1) q1 fun o1 ψ2 g2 H2 q2 R2 k2 => ?_
  refine h6 E F (T' ++ T) ψ2 g2 σ H2 _ _ R2 (ex.more (k1.trans k2)) q2 fun o2 ψ3 g3 H3 q3 R3 k3 => ?_
  obtain ⟨c, e1, q4⟩ := optQ_inv q3
  obtain ⟨z, e2, q5⟩ := optQ_inv q4
  have x1 := R3.look (rr.keep (k2.trans k3)) e1 ⟨[], rfl⟩
  exact ok_cut R3.dropT x1 e2 fun v T3 H4 rr4 R4 k4 => k z ψ3 g3 T3 v H4 q5 rr4 R4 (((k1.trans k2).trans k3).trans k4)
/-! ### built-ins -/
/-- a built-in's name is the built-in's -/
structure Bl (mg : Str → Option Value) (x : Str) (v : Value) : Prop where
  no : mg x = none
  is : bootBuiltins x = some v
theorem ok_list : UnOk X tb oList (fun v H Q => ∃ p ys, [v] = [V.ref p] ∧ (SqL X.K H p ys ∨ SqT X.K H p ys) ∧ ∀ l, H l = none → Q (.ref l) (L2.upd H l (.lst ys))) := fun F T ψ g σ H c x z Q R hc e k => by
  unfold oList at e
  split at e
  · cases e
    obtain ⟨a, rfl, vs, h1, h2⟩ := hc
    exact ⟨_, _, rfl, .inl (SqL.of h1), give_lst R h2 k⟩
  · cases e
    cases hc with | tup h1 h2 => ?_
    exact ⟨_, _, rfl, .inr h1, give_lst R h2 k⟩
  · cases e
    cases hc with | rol h1 h2 => ?_
    exact ⟨_, _, rfl, .inl h1.seq, give_lst R h2 k⟩
  · cases e
theorem de_list {p : Pos} (B : Bl X.mg "list" (.type "list")) (ha : DE X tb a ta) (hg : Gl X "list" := by rfl) (hs : starEach [a] X.env = (false, eval a X.env) :: starEach [] X.env := by rfl) : DE X tb (.Call (.Name "list" p) [a] [] pos) (eUn oList ta) :=
  de_call1 call_list_of ok_list (fun t h => pe_callTy call_list_of hg B.no B.is h (he := hs)) ha hs
theorem nest_all {K : PySem.W.Frag} {H : Hp} : ∀ {kvs : List (D × D)} {xs : List (NestedKey × Addr × Value)}, Paired (fun (p : D × D) (x : NestedKey × Addr × Value) => nk p.1 = some x.1 ∧ p.1.depth ≤ 8 ∧ RV K H p.1 (.ref x.2.1) ∧ ∃ v, RelV v x.2.2 ∧ RV K H p.2 v) kvs xs → ∀ x ∈ xs, ∃ d, RV K H d (.ref x.2.1) ∧ nk d = some x.1 ∧ d.depth ≤ 8
  | _, _, .nil, x, hx => nomatch hx
  | _, _, .cons r t, x, hx => by
    rcases List.mem_cons.mp hx with rfl | hx
    · exact ⟨_, r.2.2.1, r.1, r.2.1⟩
    · exact nest_all t x hx
/-- len of lists, tuples, texts, dicts -/
theorem call_len_dN : CallR X (.builtin "len") (fun vs H Q => ∃ a xs, vs = [.ref a] ∧ Nest X H a xs ∧ Q (.int xs.length) H) := by
  intro pins s σ H xs us Q I r h
  obtain ⟨d, ks, rfl, n, q⟩ := h
  obtain ⟨u, rfl, rx⟩ := r.one
  cases rx
  have hl : ks.length ≤ most := by rw [most_eq]; exact n.2.2.2.1
  have h8 : most = 16777216 := rfl
  exact call_len_dictH n.2.1 (n.is I) (by omega) ⟨.int _, H, I.tok _, ⟨_, rfl⟩, q⟩
def rLenA (X : Cx) : List V → Hp → VK → Prop := fun v H Q => ((∃ p ys, v = [V.ref p] ∧ (SqL X.K H p ys ∨ SqT X.K H p ys) ∧ Q (.int ys.length) H) ∨ ∃ z, v = [V.str z] ∧ z.length ≤ sizeLine ∧ Q (.int z.length) H) ∨ (∃ a kvs, v = [V.ref a] ∧ H a = some (.dK kvs) ∧ Q (.int kvs.length) H) ∨ ∃ a xs, v = [V.ref a] ∧ Nest X H a xs ∧ Q (.int xs.length) H
theorem call_lenA : CallR X (.builtin "len") (rLenA X) := fun pins s σ H xs us Q I r h => by
  rcases h with h | h | h
  · exact (call_len_seq.or call_len_str) pins s σ H xs us Q I r h
  · exact call_lenD pins s σ H xs us Q I r h
  · exact call_len_dN pins s σ H xs us Q I r h
theorem ok_len : UnOk X tb oLen (fun v H Q => rLenA X [v] H Q) :=
  fun F T ψ g σ H c x z Q R hc e k => by
  obtain ⟨n, e1, rfl⟩ := Option.map_eq_some_iff.mp e
  have fin : Q (.int n) H := k _ T H ⟨.int _, rfl⟩ R (Keep.refl H)
  unfold lenC at e1
  split at e1
  · split at e1
    · rename_i hl
      cases e1
      cases hc with | str s o1 => ?_
      exact .inl (.inr ⟨_, rfl, by rw [← most_eq]; simpa [Str.length] using hl, by simpa [Str.length] using fin⟩)
    · cases e1
  · cases e1
    cases hc with | tup h1 h2 => ?_
    exact .inl (.inl ⟨_, _, rfl, .inr h1, by rw [← h2.length]; exact fin⟩)
  · cases e1
    cases hc with | rol h1 h2 => ?_
    exact .inl (.inl ⟨_, _, rfl, .inl h1.seq, by rw [← h2.length]; exact fin⟩)
  · cases e1
    obtain ⟨a, rfl, vs, h1, h2⟩ := hc
    exact .inl (.inl ⟨_, _, rfl, .inl (SqL.of h1), by rw [← h2.length]; exact fin⟩)
  · rename_i t kvs
    cases e1
    cases t with
    | false =>
      obtain ⟨a, rfl, ks, h1, _, h3⟩ := hc
      exact .inr (.inl ⟨_, _, rfl, h1, by rw [← Paired.length h3]; exact fin⟩)
    | true =>
      obtain ⟨a, rfl, h⟩ := hc
      rcases h with ⟨rfl, h1⟩ | ⟨xs, h1, h2, h3, h4, h5⟩
      · exact .inr (.inl ⟨_, _, rfl, h1, fin⟩)
      · exact .inr (.inr ⟨_, _, rfl, ⟨h1, h2, h3, h4, nest_all h5⟩, by rw [← Paired.length h5]; exact fin⟩)
  · cases e1
theorem de_len {p : Pos} (B : Bl X.mg "len" (.builtin "len")) (ha : DE X tb a ta) (hg : Gl X "len" := by rfl) (hs : starEach [a] X.env = (false, eval a X.env) :: starEach [] X.env := by rfl) : DE X tb (.Call (.Name "len" p) [a] [] pos) (eUn oLen ta) :=
  de_call1 call_lenA ok_len (fun t h => pe_callB call_lenA hg B.no B.is h (he := hs)) ha hs
theorem ok_tuple : UnOk X tb oTuple (fun v H Q => ∃ p ys, [v] = [V.ref p] ∧ ((SqL X.K H p ys ∧ ∀ l, H l = none → Q (.ref l) (L2.upd H l (.tup ys))) ∨ (SqT X.K H p ys ∧ Q (.ref p) H))) := fun F T ψ g σ H c x z Q R hc e k => by
  unfold oTuple at e
  split at e
  · cases e
    obtain ⟨a, rfl, vs, h1, h2⟩ := hc
    exact ⟨_, _, rfl, .inl ⟨SqL.of h1, give_tup R h2 k⟩⟩
  · cases e
    cases hc with | tup h1 h2 => ?_
    exact ⟨_, _, rfl, .inr ⟨h1, k _ T H ⟨.tup h1 h2, rfl⟩ R (Keep.refl H)⟩⟩
  · cases e
theorem de_tuple {p : Pos} (B : Bl X.mg "tuple" (.type "tuple")) (ha : DE X tb a ta) (hg : Gl X "tuple" := by rfl) (hs : starEach [a] X.env = (false, eval a X.env) :: starEach [] X.env := by rfl) : DE X tb (.Call (.Name "tuple" p) [a] [] pos) (eUn oTuple ta) :=
  de_call1 call_tuple_of ok_tuple (fun t h => pe_callTy call_tuple_of hg B.no B.is h (he := hs)) ha hs
theorem boolsD_rel {K : PySem.W.Frag} {H : Hp} : ∀ {ds : List D} {vs : List V} {bs : List Bool}, RVs K H ds vs → boolsD ds = some bs → vs = bs.map V.bl
  | _, _, _, .nil, e => by cases e; rfl
  | d :: ds, _, bs, .cons r t, e => by
    cases r <;> first | (cases e; done) | skip
    obtain ⟨cs, e1, rfl⟩ := Option.map_eq_some_iff.mp e
    rw [boolsD_rel t e1]; rfl
theorem intsD_rel {K : PySem.W.Frag} {H : Hp} : ∀ {ds : List D} {vs : List V} {bs : List Int}, RVs K H ds vs → intsD ds = some bs → vs = bs.map V.int
  | _, _, _, .nil, e => by cases e; rfl
  | d :: ds, _, bs, .cons r t, e => by
    cases r <;> first | (cases e; done) | skip
    obtain ⟨cs, e1, rfl⟩ := Option.map_eq_some_iff.mp e
    rw [intsD_rel t e1]; rfl
theorem textsD_rel {K : PySem.W.Frag} {H : Hp} : ∀ {ds : List D} {vs : List V} {bs : List (List Nat)}, RVs K H ds vs → textsD ds = some bs → vs = (bs.map fun s => (⟨s.toArray⟩ : Str)).map V.str ∧ ∀ s ∈ bs, OkS s
  | _, _, _, .nil, e => by cases e; exact ⟨rfl, fun _ h => nomatch h⟩
  | d :: ds, _, bs, .cons r t, e => by
    cases r <;> first | (cases e; done) | skip
    rename_i s hs
    obtain ⟨cs, e1, rfl⟩ := Option.map_eq_some_iff.mp e
    obtain ⟨h1, h2⟩ := textsD_rel t e1
    exact ⟨by rw [h1]; rfl, fun x hx => (List.mem_cons.mp hx).elim (fun z => z ▸ hs) (h2 x)⟩
theorem ok_all : UnOk X tb oAll (fun v H Q => rAll X.K [v] H Q) := fun F T ψ g σ H c x z Q R hc e k => by
  unfold oAll at e
  split at e
  · obtain ⟨bs, e1, rfl⟩ := Option.map_eq_some_iff.mp e
    obtain ⟨a, rfl, vs, h1, h2⟩ := hc
    exact ⟨a, bs, rfl, by rw [← boolsD_rel h2 e1]; exact SqL.of h1, k _ T H ⟨.bl _, rfl⟩ R (Keep.refl H)⟩
  · cases e
theorem de_all {p : Pos} (B : Bl X.mg "all" (.builtin "all")) (ha : DE X tb a ta) (hg : Gl X "all" := by rfl) (hs : starEach [a] X.env = (false, eval a X.env) :: starEach [] X.env := by rfl) (hc : X.calm = true := by rfl) : DE X tb (.Call (.Name "all" p) [a] [] pos) (eUn oAll ta) :=
  de_call1 (cr_all hc) ok_all (fun t h => pe_callB (cr_all hc) hg B.no B.is h (he := hs)) ha hs
theorem ok_intc : UnOk X tb oInt (fun v H Q => (∃ i, [v] = [V.int i] ∧ Q (.int i) H) ∨ ∃ k, [v] = [V.bl k] ∧ Q (.int (if k then 1 else 0)) H) := fun F T ψ g σ H c x z Q R hc e k => by
  unfold oInt at e
  split at e
  · cases e; cases hc
    exact .inl ⟨_, rfl, k _ T H ⟨.int _, rfl⟩ R (Keep.refl H)⟩
  · cases e; cases hc
    exact .inr ⟨_, rfl, k _ T H ⟨.int _, rfl⟩ R (Keep.refl H)⟩
  · cases e
theorem de_intc {p : Pos} (B : Bl X.mg "int" (.type "int")) (ha : DE X tb a ta) (hg : Gl X "int" := by rfl) (hs : starEach [a] X.env = (false, eval a X.env) :: starEach [] X.env := by rfl) : DE X tb (.Call (.Name "int" p) [a] [] pos) (eUn oInt ta) :=
  de_call1 call_int1 ok_intc (fun t h => pe_callTy call_int1 hg B.no B.is h (he := hs)) ha hs
end
end Pd
set_option Elab.async false
set_option linter.all false
set_option maxRecDepth 100000
set_option maxHeartbeats 1000000
namespace Pd
open PySem PySem.Spec PyProof.Rows L2
section
variable {X : Cx} {tb : Tb} {e a b c : Expr} {es : List Expr} {te ta u v : WE} {ts : WD} {as : WA} {pos : Pos}
/-! ### rows of expressions -/
theorem dd_nil : DD X tb [] dNil := fun W tk => ⟨_, pa_nil, fun E F T ψ g σ H Q' Q R ex q k => k [] ψ g [] H q .nil rfl R (Keep.refl H)⟩
theorem dd_cons (ha : DE X tb e te) (hr : DD X tb es ts) (hs : starEach (e :: es) X.env = (false, eval e X.env) :: starEach es X.env := by rfl) : DD X tb (e :: es) (dCons te ts) := fun W tk => by
  obtain ⟨t1, h1, h2⟩ := ha W tk
  obtain ⟨t2, h3, h4⟩ := hr W tk
  refine ⟨_, pa_cons h1 h3 hs, fun E F T ψ g σ H Q' Q R ex q k => h2 E F T ψ g σ H _ _ R ex q fun r ψ1 g1 T1 v H1 q1 rr R1 k1 => ?_⟩
  obtain ⟨x, ψ2, g2, q2, rx, R2⟩ := R1.toD rr q1
  refine h4 E F T ψ2 g2 σ H1 _ _ R2 (ex.on k1) q2 fun ds ψ3 g3 vs H3 q3 rs hl R3 k3 => ?_
  exact k (x :: ds) ψ3 g3 (v :: vs) H3 q3 (.cons (rx.keep k3) rs) (by simp [hl]) R3 (k1.trans k3)
theorem da_nil : DA X tb [] aNil := fun W tk => ⟨_, pa_nil, fun E F T ψ g σ H Q' Q R ex q k => k [] ψ g T [] H q .nil R (Keep.refl H)⟩
theorem da_cons (ha : DE X tb e te) (hr : DA X tb es as) (hs : starEach (e :: es) X.env = (false, eval e X.env) :: starEach es X.env := by rfl) : DA X tb (e :: es) (aCons te as) := fun W tk => by
  obtain ⟨t1, h1, h2⟩ := ha W tk
  obtain ⟨t2, h3, h4⟩ := hr W tk
  refine ⟨_, pa_cons h1 h3 hs, fun E F T ψ g σ H Q' Q R ex q k => h2 E F T ψ g σ H _ _ R ex q fun r ψ1 g1 T1 v H1 q1 rr R1 k1 => ?_⟩
  obtain ⟨T', rfl⟩ := rr.suffix
  exact h4 E F (T' ++ T) ψ1 g1 σ H1 _ _ R1 (ex.more k1) q1 fun rs ψ3 g3 T3 vs H3 q3 rrs R3 k3 => k (r :: rs) ψ3 g3 T3 (v :: vs) H3 q3 (.cons (rr.keep k3) rrs) R3 (k1.trans k3)
theorem thousand {n : Nat} (h : Nat.ble n 1000 = true) : n ≤ sizeLine := by
  have h1 := Nat.le_of_ble_eq_true h
  have h2 : (1000 : Nat) ≤ sizeLine := by decide
  omega
theorem de_tup {x1} (h : DD X tb es ts) (hn : Nat.ble es.length 1000 = true := by rfl) : DE X tb (.Tuple es x1 pos) (eTup ts) := fun W tk => by
  obtain ⟨t1, h1, h2⟩ := h W tk
  refine ⟨_, pe_tup h1, fun E F T ψ g σ H Q' Q R ex q k => h2 E F T ψ g σ H _ _ R ex q fun ds ψ1 g1 vs H1 q1 rs hl R1 k1 => ⟨?_, give_tup R1 rs fun v T1 H2 rr R2 k2 => k _ ψ1 g1 T1 v H2 q1 rr R2 (k1.trans k2)⟩⟩
  rw [← rs.length, hl]; exact thousand hn
theorem de_lst (h : DD X tb es ts) (hn : Nat.ble es.length 1000 = true := by rfl) : DE X tb (.List es pos) (eLst ts) := fun W tk => by
  obtain ⟨t1, h1, h2⟩ := h W tk
  refine ⟨_, pe_lst h1, fun E F T ψ g σ H Q' Q R ex q k => h2 E F T ψ g σ H _ _ R ex q fun ds ψ1 g1 vs H1 q1 rs hl R1 k1 => ⟨?_, give_lst R1 rs fun v T1 H2 rr R2 k2 => k _ ψ1 g1 T1 v H2 q1 rr R2 (k1.trans k2)⟩⟩
  rw [← rs.length, hl]; exact thousand hn
theorem de_dic (t : Bool) : DE X tb (.Dict [] [] pos) (eDic t) := fun W tk => ⟨_, pe_dnewK, fun E F T ψ g σ H Q' Q R ex q k p hp => by
  have kp : Keep H (L2.upd H p (.dK [])) := Keep.new hp
  refine k _ ψ g _ _ _ q ⟨p, rfl, rfl⟩ (R.new hp ?_) kp
  cases t with
  | false => exact ⟨[], upd_same, List.nodup_nil, .nil⟩
  | true => exact .inl ⟨rfl, upd_same⟩⟩

/-! ### tests -/
theorem tV_inv {t : WE} {E : EX} {ψ : Psi} {g : G} {Q : Bool → Psi → G → Prop} (h : tV t E ψ g Q) : t E ψ g fun r ψ g => match look ψ g r with
  | some (.d (.bl b)) => Q b ψ g
  | _ => False := h
theorem bl_at {F T T1 : Own} {ψ : Psi} {g : G} {σ : L2.St} {H : Hp} {r : Pd.R} {v : V} {k : Bool → Prop} (R : Rel (bx X tb) F ψ g T1 σ H) (rr : RR (bx X tb) r v T T1 σ H)
    (q : match look ψ g r with | some (.d (.bl b)) => k b | _ => False) : ∃ b, v = .bl b ∧ k b ∧ Rel (bx X tb) F ψ g T σ H := by
  obtain ⟨T', rfl⟩ := id rr.suffix
  split at q
  · rename_i b e1
    have x1 := R.look rr e1 ⟨[], rfl⟩
    cases x1
    exact ⟨b, rfl, q, R.dropT⟩
  · exact q.elim
theorem ref_tV {W : WX} {t : WE} {t0 : TE} (h : RefE X tb W t t0) : RefT X tb W (tV t) (tTest t0) := fun E F T ψ g σ H Q' Q R ex q k => h E F T ψ g σ H _ _ R ex q fun r ψ1 g1 T1 v H1 q1 rr R1 k1 => by
  obtain ⟨b, rfl, q2, R2⟩ := bl_at R1 rr q1
  exact ⟨b, rfl, k b ψ1 g1 H1 q2 R2 k1⟩
theorem dt_v (h : DE X tb e te) (he : ∀ whole, isTrue e X.env whole = (do let v ← whole; standAt e.pos; holding [v] (truthy v)) := by intro _; rfl) : DT X tb e (tV te) := fun W tk => by
  obtain ⟨t1, h1, h2⟩ := h W tk
  exact ⟨_, pt_val h1 he, ref_tV h2⟩
theorem dt_cmp {op : CmpOp} {f : G → C → C → Option R} {r : R2} (ho : OpR X (compareOp op) r) (ok : OpOk X tb f r) (ha : DE X tb a ta) (hb : DE X tb b u) (hm : behindInMarks op b = false := by first | exact nomark b | rfl) : DT X tb (.Compare a [op] [b] pos) (tV (eBin f ta u)) := fun W tk =>
  let ⟨_, h1, h2⟩ := ha W tk
  let ⟨_, h3, h4⟩ := hb W tk
  ⟨_, pt_cmpR ho h1 h3 hm, ref_tV (ref_bin ok h2 h4)⟩
theorem dt_not {t : WT} (h : DT X tb a t) : DT X tb (.UnaryOp .Not a pos) (tNot t) := fun W tk => by
  obtain ⟨t1, h1, h2⟩ := h W tk
  exact ⟨_, pt_not h1, fun E F T ψ g σ H Q' Q R ex q k => h2 E F T ψ g σ H _ _ R ex q fun b ψ1 g1 H1 q1 R1 k1 => k _ ψ1 g1 H1 q1 R1 k1⟩
theorem dw_and1 {t : WT} (h : DT X tb a t) : DW X tb (.BoolOp .And [a] pos) t := fun W tk => let ⟨_, h1, h2⟩ := h W tk; ⟨_, pw_and1 h1, h2⟩
theorem dw_or1 {t : WT} (h : DT X tb a t) : DW X tb (.BoolOp .Or [a] pos) t := fun W tk => let ⟨_, h1, h2⟩ := h W tk; ⟨_, pw_or1 h1, h2⟩
theorem dw_and {t t' : WT} {rest : List Expr} (h : DT X tb a t) (h' : DW X tb (.BoolOp .And (b :: rest) pos) t') : DW X tb (.BoolOp .And (a :: b :: rest) pos) (tAnd t t') := fun W tk => by
  obtain ⟨t1, h1, h2⟩ := h W tk
  obtain ⟨t2, h3, h4⟩ := h' W tk
  refine ⟨_, pw_and h1 h3, fun E F T ψ g σ H Q' Q R ex q k => h2 E F T ψ g σ H _ _ R ex q fun b ψ1 g1 H1 q1 R1 k1 => ?_⟩
  cases b with
  | true => exact h4 E F T ψ1 g1 σ H1 _ _ R1 (ex.on k1) q1 fun b ψ2 g2 H2 q2 R2 k2 => k b ψ2 g2 H2 q2 R2 (k1.trans k2)
  | false => exact k false ψ1 g1 H1 q1 R1 k1
theorem dw_or {t t' : WT} {rest : List Expr} (h : DT X tb a t) (h' : DW X tb (.BoolOp .Or (b :: rest) pos) t') : DW X tb (.BoolOp .Or (a :: b :: rest) pos) (tOr t t') := fun W tk => by
  obtain ⟨t1, h1, h2⟩ := h W tk
  obtain ⟨t2, h3, h4⟩ := h' W tk
  refine ⟨_, pw_or h1 h3, fun E F T ψ g σ H Q' Q R ex q k => h2 E F T ψ g σ H _ _ R ex q fun b ψ1 g1 H1 q1 R1 k1 => ?_⟩
  cases b with
  | false => exact h4 E F T ψ1 g1 σ H1 _ _ R1 (ex.on k1) q1 fun b ψ2 g2 H2 q2 R2 k2 => k b ψ2 g2 H2 q2 R2 (k1.trans k2)
  | true => exact k true ψ1 g1 H1 q1 R1 k1

/-! ### and, or, not, if as values -/
theorem de_one {op} (h : DE X tb a ta) : DE X tb (.BoolOp op [a] pos) ta := fun W tk => let ⟨_, h1, h2⟩ := h W tk; ⟨_, pe_one h1, h2⟩
theorem de_and {rest : List Expr} (h : DE X tb a ta) (h' : DE X tb (.BoolOp .And (b :: rest) pos) u) : DE X tb (.BoolOp .And (a :: b :: rest) pos) (eAnd ta u) := fun W tk => by
  obtain ⟨t1, h1, h2⟩ := h W tk
  obtain ⟨t2, h3, h4⟩ := h' W tk
  refine ⟨_, pe_and h1 h3, fun E F T ψ g σ H Q' Q R ex q k => h2 E F T ψ g σ H _ _ R ex q fun r ψ1 g1 T1 v H1 q1 rr R1 k1 => ?_⟩
  obtain ⟨b, rfl, q2, R2⟩ := bl_at R1 rr q1
  refine ⟨b, rfl, ?_⟩
  cases b with
  | true => exact h4 E F T ψ1 g1 σ H1 _ _ R2 (ex.on k1) q2 fun r ψ2 g2 T2 v H2 q2 rr R2 k2 => k r ψ2 g2 T2 v H2 q2 rr R2 (k1.trans k2)
  | false => exact k _ ψ1 g1 T _ H1 q2 ⟨.bl _, rfl⟩ R2 k1
theorem de_or {rest : List Expr} (h : DE X tb a ta) (h' : DE X tb (.BoolOp .Or (b :: rest) pos) u) : DE X tb (.BoolOp .Or (a :: b :: rest) pos) (eOr ta u) := fun W tk => by
  obtain ⟨t1, h1, h2⟩ := h W tk
  obtain ⟨t2, h3, h4⟩ := h' W tk
  refine ⟨_, pe_or h1 h3, fun E F T ψ g σ H Q' Q R ex q k => h2 E F T ψ g σ H _ _ R ex q fun r ψ1 g1 T1 v H1 q1 rr R1 k1 => ?_⟩
  obtain ⟨b, rfl, q2, R2⟩ := bl_at R1 rr q1
  refine ⟨b, rfl, ?_⟩
  cases b with
  | false => exact h4 E F T ψ1 g1 σ H1 _ _ R2 (ex.on k1) q2 fun r ψ2 g2 T2 v H2 q2 rr R2 k2 => k r ψ2 g2 T2 v H2 q2 rr R2 (k1.trans k2)
  | true => exact k _ ψ1 g1 T _ H1 q2 ⟨.bl _, rfl⟩ R2 k1
theorem de_not (h : DE X tb a ta) : DE X tb (.UnaryOp .Not a pos) (eNot ta) := fun W tk => by
  obtain ⟨t1, h1, h2⟩ := h W tk
  refine ⟨_, pe_not h1, fun E F T ψ g σ H Q' Q R ex q k => h2 E F T ψ g σ H _ _ R ex q fun r ψ1 g1 T1 v H1 q1 rr R1 k1 => ?_⟩
  obtain ⟨b, rfl, q2, R2⟩ := bl_at R1 rr q1
  exact ⟨b, rfl, k _ ψ1 g1 T _ H1 q2 ⟨.bl _, rfl⟩ R2 k1⟩
/-! ### a op b op' c -/
/-! ### is None -/
theorem RV.non_iff {K : PySem.W.Frag} {H : Hp} {d : D} {v : V} (h : RV K H d v) : decide (v = .non) = decide (d = .non) := by
  cases h <;> simp
theorem isNon_ok {F T T1 : Own} {ψ : Psi} {g : G} {σ : L2.St} {H : Hp} {r : Pd.R} {v : V} {k : Bool} (R : Rel (bx X tb) F ψ g T1 σ H) (rr : RR (bx X tb) r v T T1 σ H) (h : isNon ψ r = some k) : decide (v = .non) = k := by
  cases r with
  | d x => cases h; exact rr.1.non_iff
  | own o => cases h; obtain ⟨a, rfl, _⟩ := rr; rfl
  | sl i =>
    have h' : (match ψ[i]? with | some (some (.d x)) => some (decide (x = .non)) | some (some _) => some false | _ => none) = some k := h
    split at h'
    · rename_i x e
      cases h'
      obtain ⟨u, e1, e2⟩ := R.sl i _ e
      rw [rr.1] at e1; cases e1
      exact RV.non_iff e2
    · rename_i s hs e
      cases h'
      obtain ⟨u, e1, e2⟩ := R.sl i _ e
      rw [rr.1] at e1; cases e1
      cases s with
      | d x => exact (hs x rfl).elim
      | own o => obtain ⟨a, rfl⟩ := e2; rfl
      | bor o => obtain ⟨a, rfl, _⟩ := e2; rfl
      | fz kvs => obtain ⟨a, rfl, _⟩ := e2; rfl
    · cases h'
theorem ref_isN {W : WX} {t0 : TE} (h : RefE X tb W ta t0) : RefE X tb W (eIsN false ta) (tIsN t0) := fun E F T ψ g σ H Q' Q R ex q k => h E F T ψ g σ H _ _ R ex q fun r ψ1 g1 T1 v H1 q1 rr R1 k1 => by
  obtain ⟨b, e1, q2⟩ := optQ_inv q1
  obtain ⟨T', rfl⟩ := id rr.suffix
  rw [isNon_ok R1 rr e1]
  exact k _ ψ1 g1 T _ H1 q2 ⟨.bl _, rfl⟩ R1.dropT k1
theorem de_isN {j pos'} (h : DE X tb a ta) : DE X tb (.Compare a [.Is] [.Constant .none j pos'] pos) (eIsN false ta) := fun W tk => let ⟨_, h1, h2⟩ := h W tk; ⟨_, pe_cmp (pc_isN h1), ref_isN h2⟩
theorem dt_isN {j pos'} (h : DE X tb a ta) : DT X tb (.Compare a [.Is] [.Constant .none j pos'] pos) (tV (eIsN false ta)) := fun W tk => let ⟨_, h1, h2⟩ := h W tk; ⟨_, pt_cmp (pc_isN h1), ref_tV (ref_isN h2)⟩
/-! ### attributes -/
/-- the class of that name: a plain one, which has no such attribute of its own -/
structure InsOk (K : PySem.W.Frag) (tb : Tb) (c : String) (f : Str) : Prop where
  is : ∀ C, tb.cl c = some C → Cls K C ∧ NoAttr K C f
theorem char_inj {a b : Char} (h : a.toNat = b.toNat) : a = b := Char.ext (UInt32.toNat_inj.mp h)
theorem ofString_inj {s t : String} (h : Str.ofString s = Str.ofString t) : s = t := by
  have h1 : s.toList.map Char.toNat = t.toList.map Char.toNat := by
    rw [Str.ofString_eq_toList, Str.ofString_eq_toList] at h
    have := congrArg (fun z : Str => z.cps.toList) h
    simpa using this
  have : s.toList = t.toList := (List.map_inj_right fun _ _ => char_inj).mp h1
  exact String.toList_inj.mp this
theorem beq_ofString (s t : String) : (s == t) = (Str.ofString s == Str.ofString t) := by
  by_cases h : s = t
  · subst h; simp
  · rw [beq_eq_false_iff_ne.mpr h]
    exact (beq_eq_false_iff_ne.mpr fun e => h (ofString_inj e)).symm
theorem RFs.look {K : PySem.W.Frag} {H : Hp} {f : String} : ∀ {fs : List (String × D)} {vs : List (Str × V)}, RFs K H fs vs → (∀ d, fs.lookup f = some d → ∃ v, vs.lookup (Str.ofString f) = some v ∧ RV K H d v) ∧ (fs.lookup f = none → vs.lookup (Str.ofString f) = none)
  | _, _, .nil => ⟨fun _ h => (nomatch h), fun _ => (show [].lookup (Str.ofString f) = none from rfl)⟩
  | (p :: fs), (q :: vs), .cons r t => by
    obtain ⟨r1, r2⟩ := r
    have ih := RFs.look (f := f) t
    rw [List.lookup_cons, List.lookup_cons]
    rw [beq_ofString f p.1, r1]
    cases Str.ofString f == q.1 with
    | true => exact ⟨fun d e => by cases e; exact ⟨_, rfl, r2⟩, fun e => (nomatch e)⟩
    | false => exact ih
theorem de_fld {x : Str} (cn f : String) (I : InsOk X.K tb cn x) (h : DE X tb a ta) (hx : Str.ofString f = x := by rfl) (hb : attributeBase a x X.env (eval a X.env) = eval a X.env := by rfl) : DE X tb (.Attribute a x pos) (eFld cn f ta) := fun W tk => by
  obtain ⟨t1, h1, h2⟩ := h W tk
  refine ⟨_, pe_fld h1 hb, fun E F T ψ g σ H Q' Q R ex q k => h2 E F T ψ g σ H _ _ R ex q fun r ψ1 g1 T1 v H1 q1 rr R1 k1 => ?_⟩
  obtain ⟨T', rfl⟩ := id rr.suffix
  split at q1
  · rename_i c' fs e1
    obtain ⟨rfl, q2⟩ := q1
    obtain ⟨d, e2, q3⟩ := optQ_inv q2
    obtain ⟨p, rfl, C, dx, vfs, e3, e4, e5⟩ := R1.look rr e1 ⟨[], rfl⟩
    obtain ⟨y, e6, e7⟩ := (RFs.look e5).1 d e2
    exact ⟨p, C, dx, vfs, y, rfl, e4, (I.is C e3).1, (I.is C e3).2, by rw [← hx]; exact e6, k _ ψ1 g1 T _ H1 q3 ⟨e7, rfl⟩ R1.dropT k1⟩
  · exact q1.elim
end
end Pd
set_option Elab.async false
set_option linter.all false
set_option maxRecDepth 100000
set_option maxHeartbeats 1000000
namespace Pd
open PySem PySem.Spec PyProof.Rows L2
section
variable {X : Cx} {tb : Tb} {e a b c : Expr} {es : List Expr} {te ta u v : WE} {ts : WD} {as : WA} {pos : Pos}
theorem lstAt_inv {ψ : Psi} {g : G} {r : Pd.R} (h : lstAt ψ g r) : ∃ xs, look ψ g r = some (.o (.lst xs)) := by
  unfold lstAt at h
  split at h
  · rename_i xs e; exact ⟨xs, e⟩
  · exact h.elim
/-- what is named is written -/
theorem rel_wr {B : Bx} {F T T1 : Own} {ψ : Psi} {g : G} {σ : L2.St} {H : Hp} {r : Pd.R} {v : V} {o o' : O} {k : Psi → G → Prop} (R : Rel B F ψ g T1 σ H) (rr : RR B r v T T1 σ H) (e : look ψ g r = some (.o o)) (q : wr r o' ψ g k) (hsf : o.soft = true := by rfl) :
    ∃ a, v = .ref a ∧ RO B H o a ∧ ∀ w, RO B (L2.upd H a w) o' a → ∃ ψ' g', k ψ' g' ∧ Rel B F ψ' g' T σ (L2.upd H a w) ∧ Keep H (L2.upd H a w) := by
  have glb : ∀ {x : D} {v : V}, RV B.K H x v → lookD g x = some (.o o) → ∃ a, x = .ref a ∧ v = .ref a ∧ g a = some o := fun {x v} rx e => by
    cases rx with
    | ref a =>
      obtain ⟨o2, h1, h2⟩ := Option.map_eq_some_iff.mp e
      cases h2
      exact ⟨a, rfl, rfl, h1⟩
    | _ => cases e
  cases r with
  | own o2 => exact q.elim
  | d x =>
    obtain ⟨rx, rfl⟩ := rr
    obtain ⟨a, rfl, rfl, ga⟩ := glb rx e
    refine ⟨a, rfl, R.gl a o ga, fun w ho => ?_⟩
    obtain ⟨R', k'⟩ := R.writeG ga ho hsf
    exact ⟨ψ, _, q, R', k'⟩
  | sl i =>
    obtain ⟨hσ, rfl⟩ := rr
    have e' : (match ψ[i]? with | some (some s) => lookS g s | _ => none) = some (.o o) := e
    have q' : (match ψ[i]? with | some (some (.own _)) => k (ψ.set i (some (.own o'))) g | some (some (.d (.ref a))) => k ψ (g.upd a o') | _ => False) := q
    cases hs : ψ[i]? with
    | none => rw [hs] at e'; cases e'
    | some s =>
      cases s with
      | none => rw [hs] at e'; cases e'
      | some s =>
        rw [hs] at e' q'
        cases s with
        | bor o2 => exact q'.elim
        | fz kvs => exact q'.elim
        | own o2 =>
          cases e'
          obtain ⟨a, L, h1, h2, _⟩ := R.ownAt hs
          rw [hσ] at h1; cases h1
          refine ⟨a, rfl, (R.ow.1 (a, _) (h2.mem_iff.mpr (List.Mem.head _))).1, fun w ho => ?_⟩
          obtain ⟨R', k'⟩ := R.writeS hs hσ ho hsf
          exact ⟨_, g, q', R', k'⟩
        | d x =>
          obtain ⟨u, h1, h2⟩ := R.sl i _ hs
          rw [hσ] at h1; cases h1
          obtain ⟨a, rfl, rfl, ga⟩ := glb h2 e'
          refine ⟨a, rfl, R.gl a o ga, fun w ho => ?_⟩
          obtain ⟨R', k'⟩ := R.writeG ga ho hsf
          exact ⟨ψ, _, q', R', k'⟩
def MtOk (X : Cx) (f : List D → List D → Option (List D × D)) (r : V → List V → Hp → VK → Prop) : Prop :=
  ∀ (H : Hp) (a : Addr) (xs ds : List D) (vs ws : List V) (p : List D × D) (Q : VK), H a = some (.lst vs) → RVs X.K H xs vs → RVs X.K H ds ws → f xs ds = some p →
    (∀ vs' v, RVs X.K H p.1 vs' → RV X.K H p.2 v → Q v (L2.upd H a (.lst vs'))) → r (.ref a) ws H Q
theorem soft_lst {H : Hp} {a : Addr} {vs : List V} {u : HO} (h : H a = some (.lst vs)) : Keep H (L2.upd H a u) := Keep.upd (by rw [h]; trivial)
theorem ref_mut {W : WX} {f : List D → List D → Option (List D × D)} {r : V → List V → Hp → VK → Prop} {t1 : TE} {t2 : TA} {n : Nat} (ok : MtOk X f r) (ha : RefE X tb W ta t1) (hb : RefD X tb W ts t2 n) : RefE X tb W (eMut f ta ts) (tBM X.K "list" r t1 t2) :=
  fun E F T ψ g σ H Q' Q R ex q k => ha E F T ψ g σ H _ _ R ex q fun r1 ψ1 g1 T1 v1 H1 q1 rr1 R1 k1 => by
  obtain ⟨la, q1⟩ := q1
  obtain ⟨xs0, e0⟩ := lstAt_inv la
  obtain ⟨a, rfl, vs0, h0, _⟩ := R1.look rr1 e0 ⟨[], rfl⟩
  refine ⟨.inl ⟨rfl, vs0, SqL.of h0⟩, ?_⟩
  obtain ⟨T', rfl⟩ := id rr1.suffix
  refine hb E F (T' ++ T) ψ1 g1 σ H1 _ _ R1 (ex.more k1) q1 fun ds ψ2 g2 ws H2 q2 rs hl R2 k2 => ?_
  split at q2
  · rename_i xs e1
    obtain ⟨p, e2, q3⟩ := optQ_inv q2
    obtain ⟨a', e3, ⟨vs, h1, h2⟩, wq⟩ := rel_wr R2 (rr1.keep k2) e1 q3
    cases e3
    refine ok H2 a xs ds vs ws p Q h1 h2 rs e2 fun vs' v r1 r2 => ?_
    obtain ⟨ψ3, g3, q4, R3, k3⟩ := wq (.lst vs') ⟨vs', upd_same, r1.keep (soft_lst h1)⟩
    exact k (.d p.2) ψ3 g3 T v _ q4 ⟨r2.keep k3, rfl⟩ R3 ((k1.trans k2).trans k3)
  · exact q2.elim
theorem ref_mut0 {W : WX} {f : List D → List D → Option (List D × D)} {r : V → List V → Hp → VK → Prop} {t1 : TE} (ok : MtOk X f r) (ha : RefE X tb W ta t1) : RefE X tb W (eMut f ta dNil) (tBM0 X.K "list" r t1) :=
  fun E F T ψ g σ H Q' Q R ex q k => ha E F T ψ g σ H _ _ R ex q fun r1 ψ1 g1 T1 v1 H1 q1 rr1 R1 k1 => by
  obtain ⟨la, q1⟩ := q1
  obtain ⟨xs0, e0⟩ := lstAt_inv la
  obtain ⟨a, rfl, vs0, h0, _⟩ := R1.look rr1 e0 ⟨[], rfl⟩
  refine ⟨.inl ⟨rfl, vs0, SqL.of h0⟩, ?_⟩
  have q2 : (match look ψ1 g1 r1 with | some (.o (.lst xs)) => optQ (f xs []) fun p => wr r1 (.lst p.1) ψ1 g1 fun ψ g => Q' (.d p.2) ψ g | _ => False) := q1
  split at q2
  · rename_i xs e1
    obtain ⟨p, e2, q3⟩ := optQ_inv q2
    obtain ⟨a', e3, ⟨vs, h1, h2⟩, wq⟩ := rel_wr R1 rr1 e1 q3
    cases e3
    refine ok H1 a xs [] vs [] p Q h1 h2 .nil e2 fun vs' v r1 r2 => ?_
    obtain ⟨ψ3, g3, q4, R3, k3⟩ := wq (.lst vs') ⟨vs', upd_same, r1.keep (soft_lst h1)⟩
    exact k (.d p.2) ψ3 g3 T v _ q4 ⟨r2.keep k3, rfl⟩ R3 (k1.trans k3)
  · exact q2.elim
theorem idxOf_ixN (n : Nat) (i : Int) : idxOf n i = L2.ixN n i := by
  unfold idxOf L2.ixN
  by_cases h0 : 0 ≤ i
  · by_cases h1 : i < n
    · rw [if_pos ⟨h0, h1⟩, if_pos h0, if_pos h1]
    · rw [if_neg (fun z => h1 z.2), if_neg (by omega), if_pos h0, if_neg h1]
  · rw [if_neg (fun z => h0 z.1), if_neg h0]
    by_cases h1 : -(n : Int) ≤ i
    · rw [if_pos ⟨h1, by omega⟩, if_pos h1, Int.add_comm]
    · rw [if_neg (fun z => h1 z.1), if_neg h1]
theorem mt_ok_append : MtOk X mAppend rAppend := fun H a xs ds vs ws p Q h hx hd e k => by
  unfold mAppend at e
  split at e
  · split at e
    · rename_i x hl
      cases e
      cases hd with | cons r t => cases t; exact ⟨a, vs, _, rfl, rfl, h, by rw [← hx.length, ← most_eq]; exact hl, k _ _ (hx.append (.cons r .nil)) .non⟩
    · cases e
  · cases e
theorem mt_ok_pop : MtOk X mPop rPop := fun H a xs ds vs ws p Q h hx hd e k => by
  unfold mPop at e
  split at e
  · obtain ⟨y, e1, rfl⟩ := Option.map_eq_some_iff.mp e
    cases hd
    obtain ⟨v, h1, h2⟩ := hx.get e1
    exact ⟨a, vs, v, rfl, rfl, h, by rw [← hx.length]; exact h1, k _ _ hx.dropLast h2⟩
  · cases e
section
variable {apos : Pos} {name : Str} {id : String} {f : List D → List D → Option (List D × D)} {r : V → List V → Hp → VK → Prop}
theorem de_mut (slot : Slot "list" name id) (hty : typeOf (.builtin id) = pure (.type "method_descriptor")) (hm : MtR X id r) (ok : MtOk X f r) (ha : DE X tb a ta) (hb : DD X tb (e :: es) ts)
    (hbase : attributeBase a name X.env (eval a X.env) = eval a X.env)
    (hfew : ((backTo pos (starEach (e :: es) X.env)).all (fun x => !x.1) && (backToKw pos (keywordEach [] X.env)).all (fun x => x.1.isSome)
      && decide ((e :: es).length + ([] : List Keyword).length + (if ([] : List Keyword).isEmpty then 0 else 1) < 30)) = true)
    (hline : (apos.endLine == pos.line) = true) (hs : starEach (e :: es) X.env = (false, eval e X.env) :: starEach es X.env) (hplain : (backTo pos (starEach es X.env)).any (·.1) = false) :
    DE X tb (.Call (.Attribute a name apos) (e :: es) [] pos) (eMut f ta ts) := fun W tk => by
  obtain ⟨t1, h1, h2⟩ := ha W tk
  obtain ⟨t2, h3, h4⟩ := hb W tk
  exact ⟨_, pe_bm F.plainAttrs_list slot hty hm h1 h3 hbase hfew hline hs hplain, ref_mut ok h2 h4⟩
theorem de_mut0 (slot : Slot "list" name id) (hty : typeOf (.builtin id) = pure (.type "method_descriptor")) (hm : MtR X id r) (ok : MtOk X f r) (ha : DE X tb a ta)
    (hbase : attributeBase a name X.env (eval a X.env) = eval a X.env) (hline : (apos.endLine == pos.line) = true) :
    DE X tb (.Call (.Attribute a name apos) [] [] pos) (eMut f ta dNil) := fun W tk => by
  obtain ⟨t1, h1, h2⟩ := ha W tk
  exact ⟨_, pe_bm0 F.plainAttrs_list slot hty hm h1 hbase hline, ref_mut0 ok h2⟩
theorem de_append (ha : DE X tb a ta) (hb : DD X tb [e] ts) (hbase : attributeBase a "append" X.env (eval a X.env) = eval a X.env := by rfl) (hline : (apos.endLine == pos.line) = true := by rfl)
    (hfew : ((backTo pos (starEach [e] X.env)).all (fun x => !x.1) && (backToKw pos (keywordEach [] X.env)).all (fun x => x.1.isSome) && decide ([e].length + ([] : List Keyword).length + (if ([] : List Keyword).isEmpty then 0 else 1) < 30)) = true := by rfl)
    (hs : starEach [e] X.env = (false, eval e X.env) :: starEach [] X.env := by rfl) : DE X tb (.Call (.Attribute a "append" apos) [e] [] pos) (eMut mAppend ta ts) :=
  de_mut F.slot_list_append F.type_list_append mt_append mt_ok_append ha hb hbase hfew hline hs rfl
theorem de_pop (ha : DE X tb a ta) (hbase : attributeBase a "pop" X.env (eval a X.env) = eval a X.env := by rfl) (hline : (apos.endLine == pos.line) = true := by rfl) : DE X tb (.Call (.Attribute a "pop" apos) [] [] pos) (eMut mPop ta dNil) :=
  de_mut0 F.slot_list_pop F.type_list_pop mt_pop mt_ok_pop ha hbase hline
end
end
end Pd
set_option Elab.async false
set_option linter.all false
set_option maxRecDepth 100000
set_option maxHeartbeats 1000000
namespace Pd
open PySem PySem.Spec PyProof.Rows L2
/-! zip of a list and a tuple, in any mix -/
def SqB : Bool → PySem.W.Frag → Hp → Addr → List V → Prop
  | true, K, H, a, xs => SqT K H a xs
  | false, K, H, a, xs => SqL K H a xs
def IterB : Bool → Heap → Addr → Addr → Nat → Prop
  | true, h, it, a, i => h.IsTupleIter it a i
  | false, h, it, a, i => h.IsListIter it a i
def SeqB : Bool → Heap → Addr → Array Value → Prop
  | true, h, a, xs => h.IsTuple a xs
  | false, h, a, xs => h.IsList a xs
theorem SqB.seq {X : Cx} {pq : List (Addr × Obj)} {σ : L2.St} {H : Hp} {s : Shared} {a : Addr} {xs : List V} (I : Inv X pq σ H s) : ∀ {t : Bool}, SqB t X.K H a xs → ∃ its : List Value, Vals xs its ∧ SeqB t s.heap a its.toArray ∧ a < s.heap.objs.size
  | true, h => by
    obtain ⟨its, rv, p, _⟩ := I.tuple h
    obtain ⟨o, ho, _⟩ := id p
    exact ⟨its, rv, p, Heap.lt_size ho⟩
  | false, h => by
    obtain ⟨its, rv, p, _⟩ := I.list h
    exact ⟨its, rv, p.isList, p.lt⟩
theorem SqB.inj {X : Cx} {pq : List (Addr × Obj)} {σ : L2.St} {H : Hp} {s : Shared} {a : Addr} {xs ys : List V} (I : Inv X pq σ H s) : ∀ {t : Bool}, SqB t X.K H a xs → SqB t X.K H a ys → xs = ys
  | true, h, h' => I.tuple_inj h h'
  | false, h, h' => I.list_inj h h'
theorem IterB.there {h : Heap} {it a : Addr} {i : Nat} : ∀ {t : Bool}, IterB t h it a i → ∃ o, h.get? it = some o ∧ ∀ v, o.data ≠ .cell v
  | true, ⟨o, e, _, d⟩ => ⟨o, e, fun v q => by rw [d] at q; cases q⟩
  | false, ⟨o, e, _, d⟩ => ⟨o, e, fun v q => by rw [d] at q; cases q⟩
theorem IterB.at {h h' : Heap} {it a : Addr} {i : Nat} (k : ∀ o, h.get? it = some o → h'.get? it = some o) : ∀ {t : Bool}, IterB t h it a i → IterB t h' it a i
  | true, st => Heap.IsTupleIter.at st k
  | false, st => Heap.IsListIter.at st k
def objB : Bool → Addr → Obj
  | true, a => { cls := .type "tuple_iterator", data := .fields #[.ref a, .int 0 0] }
  | false, a => { cls := .type "list_iterator", data := .fields #[.ref a, .int 0 0] }
theorem beginsB (a : Addr) (xs : Array Value) : ∀ t : Bool, Begins (.ref a) (objB t a) fun h => SeqB t h a xs
  | true => begins_tuple a xs
  | false => begins_list a xs
theorem IterB.zero {h : Heap} {it a : Addr} : ∀ {t : Bool}, h.get? it = some (objB t a) → IterB t h it a 0
  | true, e => ⟨_, e, rfl, rfl⟩
  | false, e => ⟨_, e, rfl, rfl⟩
theorem src_draws {prog : Program} {w : World} {A : Around} (hh : A.handled = none) {it a : Addr} {i : Nat} {xs : Array Value} {h : Heap} (hne : a ≠ it) : ∀ {t : Bool}, IterB t h it a i → SeqB t h a xs →
    ∃ (n : Nat) (P : Nat → Value → Prop) (St : Nat → Heap → Prop), Draws prog w A it [it, a] n P St ∧ St i h ∧ i ≤ n ∧ (xs.size ≤ i → i = n) ∧ (i < xs.size → i < n) ∧ (∀ v, P i v → xs[i]? = some v) ∧ ∀ h', St (i + 1) h' → IterB t h' it a (i + 1)
  | true, hi, hs => by
    by_cases c : i < xs.size
    · exact ⟨_, _, _, Draws.tuple hh it a hne xs, ⟨hi, hs⟩, Nat.le_of_lt c, fun z => by omega, fun _ => c, fun _ z => z, fun _ z => z.1⟩
    · refine ⟨i, fun _ _ => False, fun j h => j = i ∧ h.IsTupleIter it a i ∧ h.IsTuple a xs, ⟨fun _ _ st => let ⟨o, e, _⟩ := st.2.1; ⟨o, e⟩, fun _ _ _ st k => ⟨st.1, st.2.1.at fun o e => k it (by simp) o e, st.2.2.at fun o e => k a (by simp) o e⟩, fun j s Q E hj st _ => by have := st.1; omega, fun s Q E st hE => wpAny_nextOf_tuple_end hh st.2.1 st.2.2 (by simp; omega) hE⟩, ⟨rfl, hi, hs⟩, Nat.le_refl _, fun _ => rfl, fun z => absurd z c, fun _ z => z.elim, fun h' z => by have := z.1; omega⟩
  | false, hi, hs => by
    by_cases c : i < xs.size
    · exact ⟨_, _, _, Draws.list hh it a hne xs, ⟨hi, hs⟩, Nat.le_of_lt c, fun z => by omega, fun _ => c, fun _ z => z, fun _ z => z.1⟩
    · refine ⟨i, fun _ _ => False, fun j h => j = i ∧ h.IsListIter it a i ∧ h.IsList a xs, ⟨fun _ _ st => let ⟨o, e, _⟩ := st.2.1; ⟨o, e⟩, fun _ _ _ st k => ⟨st.1, st.2.1.at fun o e => k it (by simp) o e, st.2.2.at fun o e => k a (by simp) o e⟩, fun j s Q E hj st _ => by have := st.1; omega, fun s Q E st hE => wpAny_nextOf_list_end hh st.2.1 st.2.2 (by simp; omega) hE⟩, ⟨rfl, hi, hs⟩, Nat.le_refl _, fun _ => rfl, fun z => absurd z c, fun _ z => z.elim, fun h' z => by have := z.1; omega⟩
def ItM (ta tb : Bool) (K : PySem.W.Frag) (a b : Addr) : It :=
  ⟨fun i H => ∃ (xs ys : List V) (x y : V), SqB ta K H a xs ∧ SqB tb K H b ys ∧ xs[i]? = some x ∧ ys[i]? = some y,
    fun i H v Hn => ∃ T x y, v = .ref T ∧ H T = none ∧ Hn = L2.upd H T (.tup [x, y]) ∧ (∀ xs, SqB ta K H a xs → xs[i]? = some x) ∧ ∀ ys, SqB tb K H b ys → ys[i]? = some y,
    fun i H => ∃ xs ys : List V, SqB ta K H a xs ∧ SqB tb K H b ys ∧ (xs.length ≤ i ∨ ys.length ≤ i)⟩
theorem turnM {P : Program} {w : World} {K : PySem.W.Frag} {elts : List Expr} {kk : Nat} {tpos : Pos} {ta tb : Bool} {a b z TI TO i1 i2 : Addr} (D : ZipSep2 z TI TO i1 i2 [i1, a] [i2, b]) (n1 : a ≠ i1) (n2 : b ≠ i2) :
    Turn P w K (.Tuple elts kk tpos) (ItM ta tb K a b) [z, TI, TO, i1, i2] z (fun i h => IsZip h z TI TO .none ∧ IsTupOf2 h TI (.ref i1) (.ref i2) ∧ (∃ x y, IsTupOf2 h TO x y) ∧ IterB ta h i1 a i ∧ IterB tb h i2 b i) where
  mem := by simp
  obj := fun i h st c hc => by
    obtain ⟨hz, hTI, ⟨x, y, hTO⟩, it1, it2⟩ := st
    rcases (show c = z ∨ c = TI ∨ c = TO ∨ c = i1 ∨ c = i2 by simpa using hc) with rfl | rfl | rfl | rfl | rfl
    · exact ⟨_, hz, fun v q => nomatch q⟩
    · exact ⟨_, hTI, fun v q => nomatch q⟩
    · exact ⟨_, hTO, fun v q => nomatch q⟩
    · exact it1.there
    · exact it2.there
  keep := fun i h hn st k => by
    obtain ⟨hz, hTI, ⟨x, y, hTO⟩, it1, it2⟩ := st
    exact ⟨k z (by simp) _ hz, k TI (by simp) _ hTI, ⟨x, y, k TO (by simp) _ hTO⟩, it1.at fun o q => k i1 (by simp) o q, it2.at fun o q => k i2 (by simp) o q⟩
  item := by
    intro X hP hw hK hc i pq s σ H E I hf st hg
    subst hP hw hK
    obtain ⟨hz, hTI, ⟨x0, y0, hTO⟩, it1, it2⟩ := st
    obtain ⟨xs, ys, x, y, sx, sy, hx, hy⟩ := hg
    obtain ⟨us, ru, pu, _⟩ := sx.seq I
    obtain ⟨vs, rv, pv, _⟩ := sy.seq I
    obtain ⟨u, hu, rxu⟩ := ru.get hx
    obtain ⟨v, hv, ryv⟩ := rv.get hy
    have zlt : z < s.heap.objs.size := Heap.lt_size hz
    have hh : X.A.in1.handled = none := I.ok.hd hc
    have lu : i < us.toArray.size := by simpa using (List.getElem?_eq_some_iff.mp hu).1
    have lv : i < vs.toArray.size := by simpa using (List.getElem?_eq_some_iff.mp hv).1
    obtain ⟨m1, P1, S1, D1, st1, _, _, lt1, v1, nx1⟩ := src_draws (prog := X.prog) (w := X.w) hh n1 it1 pu
    obtain ⟨m2, P2, S2, D2, st2, _, _, lt2, v2, nx2⟩ := src_draws (prog := X.prog) (w := X.w) hh n2 it2 pv
    refine wpAny_pyNext_zipD2_item D D1 D2 hz hTI hTO st1 st2 (lt1 lu) (lt2 lv) fun w1 w2 hn tk q1 q2 zn TOn s1n s2n hT hsz hk => ?_
    have e1 : u = w1 := by have := v1 _ q1; rw [show us.toArray[i]? = some u by simpa using hu] at this; exact Option.some.inj this
    have e2 : v = w2 := by have := v2 _ q2; rw [show vs.toArray[i]? = some v by simpa using hv] at this; exact Option.some.inj this
    subst e1 e2
    refine ⟨_, rfl, wpAny_letOwnedTupleGo_zip (s := { s with heap := hn, toks := tk }) zn fun hm zm sb => ?_⟩
    have hT2 : hm.get? s.heap.objs.size = some { cls := .type "tuple", data := .seq #[u, v] } := (sb.2 _ (Nat.ne_of_gt zlt)).trans hT
    have new : ObjOk X.prog X.w (L2.upd H s.heap.objs.size (.tup [x, y])) hm s.heap.objs.size (.tup [x, y]) :=
      ⟨by show 2 ≤ sizeLine; decide, [u, v], .cons rxu (.cons ryv .nil), ⟨_, hT2, rfl, _, rfl⟩⟩
    have I1 : Inv X pq σ (L2.upd H s.heap.objs.size (.tup [x, y])) { s with heap := hm, toks := tk } :=
      I.turnedNew (t' := tk) (ch := [z, TI, TO, i1, i2]) (fun c o hb q => (sb.2 c (fun e => hb (by simp [e]))).trans (hk c o (fun e => hb (by simp [e])) (fun e => hb (by simp [e])) (fun e => hb (by simp [e])) (fun e => hb (by simp [e])) q)) hf (Nat.le_refl _) new
    refine ⟨.ref s.heap.objs.size, _, I1, rfl, ⟨_, x, y, rfl, I.hok.fresh (Nat.le_refl _), rfl, fun l hl => by rw [SqB.inj I hl sx]; exact hx, fun l hl => by rw [SqB.inj I hl sy]; exact hy⟩, ⟨zm, ?_, ⟨u, v, ?_⟩, ?_, ?_⟩, fun c hcm => ?_⟩
    · exact Eq.trans (sb.2 _ D.TIz) (hk _ _ D.TIz D.TITO D.TIi1 D.TIi2 hTI)
    · exact (sb.2 _ D.TOz).trans TOn
    · exact (nx1 _ s1n).at fun o q => (sb.2 _ fun e => D.zi1 e.symm).trans q
    · exact (nx2 _ s2n).at fun o q => (sb.2 _ fun e => D.zi2 e.symm).trans q
    · have clt : (c : Nat) < s.heap.objs.size := by
        rcases (show c = z ∨ c = TI ∨ c = TO ∨ c = i1 ∨ c = i2 by simpa using hcm) with rfl | rfl | rfl | rfl | rfl
        · exact zlt
        · exact Heap.lt_size hTI
        · exact Heap.lt_size hTO
        · obtain ⟨_, e, _⟩ := it1.there; exact Heap.lt_size e
        · obtain ⟨_, e, _⟩ := it2.there; exact Heap.lt_size e
      rw [L2.upd_ne (Nat.ne_of_lt clt)]
      exact (hf c hcm).1
  done := by
    intro X hP hw hK hc i pq s σ H E I hf st hg
    subst hP hw hK
    obtain ⟨hz, hTI, ⟨x0, y0, hTO⟩, it1, it2⟩ := st
    obtain ⟨xs, ys, sx, sy, hend⟩ := hg
    obtain ⟨us, ru, pu, _⟩ := sx.seq I
    obtain ⟨vs, rv, pv, _⟩ := sy.seq I
    have hu := ru.length
    have hv := rv.length
    have hh : X.A.in1.handled = none := I.ok.hd hc
    obtain ⟨m1, P1, S1, D1, st1, le1, en1, _⟩ := src_draws (prog := X.prog) (w := X.w) hh n1 it1 pu
    obtain ⟨m2, P2, S2, D2, st2, le2, en2, _⟩ := src_draws (prog := X.prog) (w := X.w) hh n2 it2 pv
    exact wpAny_pyNext_zipD2_end D D1 D2 hz hTI hTO st1 st2 le1 le2 (hend.imp (fun e => en1 (by simp; omega)) fun e => en2 (by simp; omega)) fun hn tk hk => ⟨rfl, I.turnedL (t' := tk) (ch := [z, TI, TO, i1, i2]) (fun c o hb q =>
      hk c o (fun e => hb (by simp [e])) (fun e => hb (by simp [e])) (fun e => hb (by simp [e])) (fun e => hb (by simp [e])) q) hf⟩
  self := fun A i s Q E stz hQ => wpAny_pyIter_zip stz.1 hQ
def iZipM (K : PySem.W.Frag) (ta : TA) : TI := fun σ H R => ta σ H fun vs H1 => ∃ t1 t2 a b xs ys, vs = [.ref a, .ref b] ∧ SqB t1 K H1 a xs ∧ SqB t2 K H1 b ys ∧ R (ItM t1 t2 K a b) H1
theorem pi_zipM {X : Cx} {e e2 : Expr} {ta : TA} {p pos tpos : Pos} {elts : List Expr} {kk : Nat} (hg : Gl X "zip") (hm : X.mg "zip" = none) (ha : PA X [e, e2] ta)
    (hst : starEach [e, e2] X.env = (false, eval e X.env) :: starEach [e2] X.env := by rfl) (hpl : (backTo pos (starEach [e2] X.env)).any (·.1) = false := by rfl) : PI X (.Tuple elts kk tpos) (.Call (.Name "zip" p) [e, e2] [] pos) (iZipM X.K ta) := by
  refine ⟨fun pq s σ H R I h => ?_⟩
  refine Call_ (ld_blt I hg hm PyProof.Rows.boot_zip (PyProof.Rows.callWith_type1 (thn (ha.run pos pq s σ H _ I h) fun us s1 ⟨vs, Hn, I1, rr, q⟩ => ?_) hst hpl))
  obtain ⟨t1, t2, a, b, xs, ys, ex, sx, sy, q⟩ := q
  subst ex
  cases rr with
  | cons ra rr2 =>
    cases rr2 with
    | cons rb rr3 =>
      cases rr3
      cases ra
      cases rb
      obtain ⟨us, _, pu, lu⟩ := sx.seq I1
      obtain ⟨vs, _, pv, lv⟩ := sy.seq I1
      have fr : ∀ c, c ∈ [s1.heap.objs.size + 4, s1.heap.objs.size + 2, s1.heap.objs.size + 3, s1.heap.objs.size, s1.heap.objs.size + 1] → FpOk X pq Hn c := fun c hcm => by
        have low : s1.heap.objs.size ≤ c := by
          rcases (show c = s1.heap.objs.size + 4 ∨ c = s1.heap.objs.size + 2 ∨ c = s1.heap.objs.size + 3 ∨ c = s1.heap.objs.size ∨ c = s1.heap.objs.size + 1 by simpa using hcm) with rfl | rfl | rfl | rfl | rfl
          · exact Nat.le_add_right _ _
          · exact Nat.le_add_right _ _
          · exact Nat.le_add_right _ _
          · exact Nat.le_refl _
          · exact Nat.le_add_right _ _
        exact I1.fpOk low (I1.hok.fresh low)
      have below : ∀ {d : Addr}, d < s1.heap.objs.size → ∀ c ∈ [d], c < s1.heap.objs.size := fun h c hc => by rw [List.mem_singleton.mp hc]; exact h
      refine zip_begins2 (beginsB a us.toArray t1) (beginsB b vs.toArray t2) pu pv fun hn hz hTI hTO g1 g2 hsz hk => wpAny_pyIter_zip hz ?_
      have I2 : Inv X pq σ Hn { s1 with heap := hn } := I1.kept (t' := s1.toks) hk
      exact ⟨s1.heap.objs.size + 4, [s1.heap.objs.size + 4, s1.heap.objs.size + 2, s1.heap.objs.size + 3, s1.heap.objs.size, s1.heap.objs.size + 1], _, _, Hn, rfl, I2, turnM (zip_sep2 (below lu) (below lv)) (Nat.ne_of_lt lu) (Nat.ne_of_lt (Nat.lt_succ_of_lt lv)), ⟨hz, hTI, ⟨_, _, hTO⟩, .zero g1, .zero g2⟩, fr, q⟩
end Pd
set_option Elab.async false
set_option linter.all false
set_option maxRecDepth 100000
set_option maxHeartbeats 1000000
namespace Pd
open PySem PySem.Spec PyProof.Rows L2
section
variable {X : Cx} {tb : Tb} {e a b c : Expr} {es : List Expr} {te ta u v : WE} {ts : WD} {as : WA} {pos apos : Pos}
/-! ### join -/
theorem joinL_eq (S : List Nat) : ∀ ps : List (List Nat), TL.joinL S ps = Pd.joinL S ps
  | [] => rfl
  | [_] => rfl
  | p :: q :: r => by
    show p ++ (S ++ TL.joinL S (q :: r)) = p ++ S ++ Pd.joinL S (q :: r)
    rw [joinL_eq S (q :: r), List.append_assoc]
theorem joinL_ok {S : List Nat} (h : OkS S) : ∀ {ps : List (List Nat)}, (∀ p ∈ ps, OkS p) → OkS (Pd.joinL S ps)
  | [], _ => fun _ z => nomatch z
  | [p], hp => hp p (List.Mem.head _)
  | p :: q :: r, hp => fun c hc => by
    have hc' : c ∈ p ++ S ++ Pd.joinL S (q :: r) := hc
    rcases List.mem_append.mp hc' with z | z
    · rcases List.mem_append.mp z with z | z
      · exact hp p (List.Mem.head _) c z
      · exact h c z
    · exact joinL_ok h (fun x hx => hp x (List.Mem.tail _ hx)) c z
theorem join_str (S : List Nat) (ps : List (List Nat)) : Txt.join ⟨S.toArray⟩ (ps.map fun s => (⟨s.toArray⟩ : Str)) = ⟨(Pd.joinL S ps).toArray⟩ := by
  rw [TL.join_eq]
  have h := TL.tl_join (⟨S.toArray⟩ : Str) (ps.map fun s => (⟨s.toArray⟩ : Str))
  have e1 : (ps.map fun s => (⟨s.toArray⟩ : Str)).map TL.tl = ps := by
    rw [List.map_map]
    exact (List.map_congr_left fun s _ => rfl).trans (List.map_id _)
  rw [e1, joinL_eq] at h
  have h2 : (Str.join ⟨S.toArray⟩ (ps.map fun s => (⟨s.toArray⟩ : Str))).cps.toList = Pd.joinL S ps := h
  cases hj : Str.join ⟨S.toArray⟩ (ps.map fun s => (⟨s.toArray⟩ : Str)) with
  | mk z => rw [hj] at h2; rw [← h2]
def rJoin (K : PySem.W.Frag) : V → List V → Hp → VK → Prop := fun x xs H Q => ∃ a p, ∃ ys : List Str, x = .str a ∧ xs = [.ref p] ∧ (SqL K H p (ys.map V.str) ∨ SqT K H p (ys.map V.str)) ∧
  (ys.map (·.length)).sum + ys.length * a.length ≤ 16777216 ∧ Q (.str (Txt.join a ys)) H
theorem ok_join (S : List Nat) (hS : OkS S) : UnOk X tb (oJoin S) (fun v H Q => rJoin X.K (.str ⟨S.toArray⟩) [v] H Q) := fun F T ψ g σ H c x z Q R hc e k => by
  unfold oJoin at e
  split at e
  · obtain ⟨bs, e1, e2⟩ := Option.bind_eq_some_iff.mp e
    split at e2
    · rename_i hl
      cases e2
      obtain ⟨a, rfl, vs, h1, h2⟩ := hc
      obtain ⟨h3, h4⟩ := textsD_rel h2 e1
      refine ⟨_, a, bs.map fun s => (⟨s.toArray⟩ : Str), rfl, rfl, .inl (by rw [← h3]; exact SqL.of h1), ?_, ?_⟩
      · have e3 : (bs.map fun s => (⟨s.toArray⟩ : Str)).map (·.length) = bs.map List.length := by
          rw [List.map_map]; exact List.map_congr_left fun s _ => by simp [Str.length]
        rw [e3, List.length_map]
        have e4 : (⟨S.toArray⟩ : Str).length = S.length := by simp [Str.length]
        rw [e4]; exact hl
      · rw [join_str]
        exact k _ T H ⟨.str _ (joinL_ok hS h4), rfl⟩ R (Keep.refl H)
    · cases e2
  · cases e
theorem de_join (S : List Nat) {x : Str} {j : Nat} {p : Pos} (ha : DE X tb a ta) (hx : x = ⟨S.toArray⟩ := by decide +kernel) (hS : (S.all fun c => decide (c < 1114112)) = true := by rfl)
    (hs : starEach [a] X.env = [(false, eval a X.env)] := by rfl) (hbase : attributeBase (.Constant (.str x) j p) "join" X.env (eval (.Constant (.str x) j p) X.env) = eval (.Constant (.str x) j p) X.env := by rfl) (hline : (apos.endLine == pos.line) = true := by rfl) :
    DE X tb (.Call (.Attribute (.Constant (.str x) j p) "join" apos) [a] [] pos) (eUn (oJoin S) ta) := fun W tk => by
  obtain ⟨t1, h1, h2⟩ := ha W tk
  have hk : OkS S := fun c hc => of_decide_eq_true (List.all_eq_true.mp hS c hc)
  refine ⟨_, pe_m1 F.slot_str_join F.type_str_join (show MtR X _ (rJoin X.K) from mt_join) pe_str h1 hs hbase hline, fun E F T ψ g σ H Q' Q R ex q k => ⟨⟨_, rfl⟩, ?_⟩⟩
  subst hx
  exact ref_un (ok_join S hk) h2 E F T ψ g σ H Q' Q R ex q k
/-! ### isinstance -/
def tyName : Ty → String
  | .str => "str" | .int => "int" | .bool => "bool" | .list => "list" | .tuple => "tuple"
theorem tyX_seqL {K : PySem.W.Frag} {H : Hp} {a : Addr} {vs : List V} (h : SqL K H a vs) : TyX K H (.ref a) (.type "list") := by
  rcases h with (h | ⟨o, h⟩) | ⟨o, its, n, h, c, _⟩
  · exact .base (.lst h)
  · exact .base (.frz h)
  · exact .kList h c
theorem tyX_seqT {K : PySem.W.Frag} {H : Hp} {a : Addr} {vs : List V} (h : SqT K H a vs) : TyX K H (.ref a) (.type "tuple") := by
  rcases h with (h | ⟨o, h⟩) | ⟨o, its, n, h, c, _⟩
  · exact .base (.tup h)
  · exact .fTuple h
  · exact .kTuple h c

theorem isT_ok (t : Ty) : UnOk X tb (oIsT t) (fun v H Q => rIsi X.K [v, .ty (tyName t)] H Q) := fun F T ψ g σ H c x z Q R hc e k => by
  obtain ⟨b, e1, rfl⟩ := Option.map_eq_some_iff.mp e
  have fin : Q (.bl b) H := k _ T H ⟨.bl _, rfl⟩ R (Keep.refl H)
  have go : ∀ n, TyX X.K H x (.type n) → kitB n (tyName t) = some b → rIsi X.K [x, .ty (tyName t)] H Q := fun n h1 h2 => ⟨x, .ty (tyName t), .type n, .type (tyName t), b, rfl, .ty _, h1, kit_ty h2, fin⟩
  cases c with
  | o o =>
    cases o with
    | lst xs =>
      obtain ⟨a, rfl, vs, h1, h2⟩ := hc
      refine go "list" (.base (.lst h1)) ?_
      cases t <;> cases e1 <;> decide +kernel
    | dic _ _ => cases t <;> cases e1
    | ins _ _ => cases t <;> cases e1
    | fzd _ _ => cases t <;> cases e1
    | hid _ => cases t <;> cases e1
  | d d =>
    cases hc with
    | non => refine go "NoneType" (.base .non) ?_; cases t <;> cases e1 <;> decide +kernel
    | bl _ => refine go "bool" (.base (.bl _)) ?_; cases t <;> cases e1 <;> decide +kernel
    | int _ => refine go "int" (.base (.int _)) ?_; cases t <;> cases e1 <;> decide +kernel
    | str _ _ => refine go "str" (.base (.str _)) ?_; cases t <;> cases e1 <;> decide +kernel
    | ref _ => cases t <;> cases e1
    | tup h1 h2 => refine go "tuple" (tyX_seqT h1) ?_; cases t <;> cases e1 <;> decide +kernel
    | rol h1 h2 => refine go "list" (tyX_seqL h1.seq) ?_; cases t <;> cases e1 <;> decide +kernel
theorem de_isT (t : Ty) {x : Str} {p q : Pos} (B : Bl X.mg "isinstance" (.builtin "isinstance")) (C : Bl X.mg x (.type (tyName t))) (ha : DE X tb a ta) (hg : Gl X "isinstance" := by rfl) (hx : Gl X x := by rfl)
    (hn : x ≠ "__name__" := by decide) (hdb : (x == ("__debug__" : Str)) = false := by decide)
    (hs : starEach [a, .Name x p] X.env = (false, eval a X.env) :: starEach [.Name x p] X.env := by rfl) (hs2 : starEach [.Name x p] X.env = (false, eval (.Name x p) X.env) :: starEach [] X.env := by rfl) (hpl : (backTo pos (starEach [.Name x p] X.env)).any (·.1) = false := by rfl) :
    DE X tb (.Call (.Name "isinstance" q) [a, .Name x p] [] pos) (eUn (oIsT t) ta) := fun W tk => by
  obtain ⟨t1, h1, h2⟩ := ha W tk
  refine ⟨_, pe_callB call_isi hg B.no B.is (pa_cons h1 (pa_cons (pe_bltn (v := .ty (tyName t)) hx C.no C.is rfl hn hdb) pa_nil hs2) hs) (he := hs), ?_⟩
  exact ref_un (isT_ok t) h2

/-! ### what is walked -/
structure ItOk (B : Bx) (F T : Own) (S : List Nat) (σ : L2.St) (H0 : Hp) (xs : List D) (ok : Psi → G → Prop) (J : L2.It) : Prop where
  turn : ∀ (i : Nat) (ψ : Psi) (g : G) (T2 : Own) (σ' : L2.St) (H : Hp), ok ψ g → Rel B F ψ g (T2 ++ T) σ' H → (∀ j ∈ S, σ'[j]? = σ[j]?) → Keep H0 H →
    (∀ d, xs[i]? = some d → J.go i H ∧ ∀ v H', J.yld i H v H' → RV B.K H' d v ∧ Rel B F ψ g (T2 ++ T) σ' H' ∧ Keep H H') ∧ (xs.length ≤ i → J.stop i H)
def RefI (X : Cx) (tb : Tb) (W : WX) (S : List Nat) (w : WI) (wi : TI) : Prop := ∀ (E : EX) (F T : Own) (ψ : Psi) (g : G) (σ : L2.St) (H : Hp) (K : List D → (Psi → G → Prop) → Psi → G → Prop) (Q : L2.It → Hp → Prop),
  Rel (bx X tb) F ψ g T σ H → ExOk (bx X tb) tb.ec W E F T σ H → w E ψ g K →
  (∀ xs ok ψ1 g1 T' J H1, K xs ok ψ1 g1 → ok ψ1 g1 → Rel (bx X tb) F ψ1 g1 (T' ++ T) σ H1 → Keep H H1 → ItOk (bx X tb) F (T' ++ T) S σ H1 xs ok J → Q J H1) → wi σ H Q
def DI (X : Cx) (tb : Tb) (tg e : Expr) (S : List Nat) (w : WI) : Prop := ∀ W : WX, Takes X W → ∃ wi, PI X tg e wi ∧ RefI X tb W S w wi
def slotIn (S : List Nat) : R → Prop
  | .sl i => i ∈ S
  | _ => True
def RefS1 (X : Cx) (tb : Tb) (W : WX) (S : List Nat) (t : WE) (t0 : TE) : Prop := ∀ (E : EX) (F T : Own) (ψ : Psi) (g : G) (σ : L2.St) (H : Hp) (Q' : R → Psi → G → Prop) (Q : VK),
  Rel (bx X tb) F ψ g T σ H → ExOk (bx X tb) tb.ec W E F T σ H → t E ψ g Q' →
  (∀ r ψ1 g1 T1 v H1, Q' r ψ1 g1 → slotIn S r → RR (bx X tb) r v T T1 σ H1 → Rel (bx X tb) F ψ1 g1 T1 σ H1 → Keep H H1 → Q v H1) → t0 σ H Q
/-- a source: an expression whose answer is leaned upon while it is walked -/
def DSo (X : Cx) (tb : Tb) (e : Expr) (S : List Nat) (t : WE) : Prop := ∀ W : WX, Takes X W → ∃ t0, PE X e t0 ∧ RefS1 X tb W S t t0
theorem so_var (i : Nat) (h : DE X tb e (eVar i)) : DSo X tb e [i] (eVar i) := fun W tk => by
  obtain ⟨t1, h1, h2⟩ := h W tk
  refine ⟨_, h1, fun E F T ψ g σ H Q' Q R ex q k => ?_⟩
  refine h2 E F T ψ g σ H (fun r ψ g => Q' r ψ g ∧ slotIn [i] r) Q R ex ?_ fun r ψ1 g1 T1 v H1 q1 rr R1 k1 => k r ψ1 g1 T1 v H1 q1.1 q1.2 rr R1 k1
  have q' : (match ψ[i]? with | some (some _) => Q' (.sl i) ψ g | _ => False) := q
  show (match ψ[i]? with | some (some _) => Q' (.sl i) ψ g ∧ slotIn [i] (.sl i) | _ => False)
  split at q' <;> first | exact ⟨q', List.mem_singleton.mpr rfl⟩ | exact q'.elim
theorem so_exp (h : DE X tb e te) : DSo X tb e [] (eNs te) := fun W tk => by
  obtain ⟨t1, h1, h2⟩ := h W tk
  refine ⟨_, h1, fun E F T ψ g σ H Q' Q R ex q k => h2 E F T ψ g σ H _ Q R ex q fun r ψ1 g1 T1 v H1 q1 rr R1 k1 => ?_⟩
  cases r with
  | sl i => exact q1.elim
  | d x => exact k _ ψ1 g1 T1 v H1 q1 trivial rr R1 k1
  | own o => exact k _ ψ1 g1 T1 v H1 q1 trivial rr R1 k1
theorem RR.at {B : Bx} {r : Pd.R} {v : V} {T T1 : Own} {σ σ' : L2.St} {H H' : Hp} {S : List Nat} (h : RR B r v T T1 σ H) (hs : slotIn S r) (e : ∀ j ∈ S, σ'[j]? = σ[j]?) (k : Keep H H') : RR B r v T T1 σ' H' := by
  cases r with
  | d x => exact ⟨h.1.keep k, h.2⟩
  | own o => exact h
  | sl i => exact ⟨by rw [e i hs]; exact h.1, h.2⟩
theorem still_now {ψ : Psi} {g : G} {r : Pd.R} {c : C} (e : look ψ g r = some c) : still r c ψ g := by
  cases r with
  | own o => trivial
  | d x => exact e
  | sl i => exact e
/-- what stands, read again -/
theorem still_rc {B : Bx} {F T T1 T2 : Own} {ψ0 ψ : Psi} {g0 g : G} {σ σ' : L2.St} {H0 H : Hp} {r : Pd.R} {v : V} {c : C} {S : List Nat} (rr : RR B r v T T1 σ H0) (hs : slotIn S r) (e0 : look ψ0 g0 r = some c) (h : still r c ψ g)
    (R : Rel B F ψ g (T2 ++ T1) σ' H) (e : ∀ j ∈ S, σ'[j]? = σ[j]?) (k : Keep H0 H) : RC B H c v := by
  refine R.look (rr.at hs e k) ?_ ⟨T2, rfl⟩
  cases r with
  | own o => exact e0
  | d x => exact h
  | sl i => exact h
theorem lstC_rc {B : Bx} {H : Hp} {c : C} {v : V} {xs : List D} (h : RC B H c v) (e : lstC c = some xs) : ∃ a vs, v = .ref a ∧ SqL B.K H a vs ∧ RVs B.K H xs vs := by
  unfold lstC at e
  split at e
  · cases e
    obtain ⟨a, rfl, vs, h1, h2⟩ := h
    exact ⟨a, vs, rfl, SqL.of h1, h2⟩
  · cases e
    cases h with | rol h1 h2 => exact ⟨_, _, rfl, h1.seq, h2⟩
  · cases e
theorem tupC_rc {B : Bx} {H : Hp} {c : C} {v : V} {xs : List D} (h : RC B H c v) (e : tupC c = some xs) : ∃ a vs, v = .ref a ∧ SqT B.K H a vs ∧ RVs B.K H xs vs := by
  unfold tupC at e
  split at e
  · cases e
    cases h with | tup h1 h2 => exact ⟨_, _, rfl, h1, h2⟩
  · cases e
theorem items_or {c : C} {xs : List D} (e : itemsC c = some xs) : lstC c = some xs ∨ tupC c = some xs := by
  unfold itemsC at e
  split at e
  · exact .inr e
  · exact .inl e
  · exact .inl e
  · cases e
/-- a list or a tuple, as it comes -/
def iSeq (K : PySem.W.Frag) (tl : TE) : TI := fun σ H R => tl σ H fun x H1 => ∃ a, x = .ref a ∧ (((∃ xs, SqL K H1 a xs) ∧ R (Itl K a) H1) ∨ ((∃ xs, SqT K H1 a xs) ∧ R (Itt K a) H1))
theorem pi_seq {tg l : Expr} {tl : TE} (hl : PE X l tl) : PI X tg l (iSeq X.K tl) := by
  refine ⟨fun pins s0 σ H R I hw => ?_⟩
  refine thn (hl.run pins s0 σ H _ I hw) fun v s1 ⟨x, H1, I1, r1, a, ex, q1⟩ => ?_
  subst ex
  cases r1
  have near : ∀ b ∈ [s1.heap.objs.size], FpOk X pins H1 b := fun b hb => by
    rw [List.mem_singleton.mp hb]
    exact I1.fpOk (Nat.le_refl _) (I1.hok.fresh (Nat.le_refl _))
  rcases q1 with ⟨⟨xs, hq⟩, q⟩ | ⟨⟨xs, hq⟩, q⟩
  · obtain ⟨us, _, hp, _⟩ := I1.list hq
    refine wpAny_pyIter_list hp.isList ⟨s1.heap.objs.size, [s1.heap.objs.size], _, _, H1, rfl, ?_, turn_list a _, ?_, near, q⟩
    · exact I1.kept (t' := s1.toks) fun _ _ e0 => Heap.get?_push_of_some _ e0
    · exact ⟨_, Heap.get?_push_size _ rfl, rfl, rfl⟩
  · obtain ⟨us, _, hp, _⟩ := I1.tuple hq
    refine wpAny_pyIter_tuple (items := us.toArray) hp ⟨s1.heap.objs.size, [s1.heap.objs.size], _, _, H1, rfl, ?_, turn_tuple a _, ?_, near, q⟩
    · exact I1.kept (t' := s1.toks) fun _ _ e0 => Heap.get?_push_of_some _ e0
    · exact ⟨_, Heap.get?_push_size _ rfl, rfl, rfl⟩
theorem itl_turn {B : Bx} {F T : Own} {ψ : Psi} {g : G} {σ : L2.St} {H : Hp} {a : Addr} {vs : List V} {xs : List D} {i : Nat} (R : Rel B F ψ g T σ H) (h : SqL B.K H a vs) (r : RVs B.K H xs vs) :
    (∀ d, xs[i]? = some d → (Itl B.K a).go i H ∧ ∀ v H', (Itl B.K a).yld i H v H' → RV B.K H' d v ∧ Rel B F ψ g T σ H' ∧ Keep H H') ∧ (xs.length ≤ i → (Itl B.K a).stop i H) := by
  refine ⟨fun d e => ?_, fun hl => ⟨vs, h, by rw [← r.length]; exact hl⟩⟩
  obtain ⟨w, h1, h2⟩ := r.get e
  refine ⟨⟨vs, w, h, h1⟩, fun v H' y => ?_⟩
  obtain ⟨rfl, y⟩ := y
  have e2 := y vs h
  rw [h1] at e2; cases e2
  exact ⟨h2, R, Keep.refl _⟩
theorem itt_turn {B : Bx} {F T : Own} {ψ : Psi} {g : G} {σ : L2.St} {H : Hp} {a : Addr} {vs : List V} {xs : List D} {i : Nat} (R : Rel B F ψ g T σ H) (h : SqT B.K H a vs) (r : RVs B.K H xs vs) :
    (∀ d, xs[i]? = some d → (Itt B.K a).go i H ∧ ∀ v H', (Itt B.K a).yld i H v H' → RV B.K H' d v ∧ Rel B F ψ g T σ H' ∧ Keep H H') ∧ (xs.length ≤ i → (Itt B.K a).stop i H) := by
  refine ⟨fun d e => ?_, fun hl => ⟨vs, h, by rw [← r.length]; exact hl⟩⟩
  obtain ⟨w, h1, h2⟩ := r.get e
  refine ⟨⟨vs, w, h, h1⟩, fun v H' y => ?_⟩
  obtain ⟨rfl, y⟩ := y
  have e2 := y vs h
  rw [h1] at e2; cases e2
  exact ⟨h2, R, Keep.refl _⟩
theorem di_seq {tg : Expr} {S : List Nat} (h : DSo X tb e S te) : DI X tb tg e S (iIt te) := fun W tk => by
  obtain ⟨t1, h1, h2⟩ := h W tk
  refine ⟨_, pi_seq h1, fun E F T ψ g σ H K Q R ex q k => h2 E F T ψ g σ H _ _ R ex q fun r ψ1 g1 T1 v H1 q1 sl rr R1 k1 => ?_⟩
  obtain ⟨c, e1, q2⟩ := optQ_inv q1
  obtain ⟨xs, e2, q3⟩ := optQ_inv q2
  have rc := R1.look rr e1 ⟨[], rfl⟩
  obtain ⟨T', rfl⟩ := id rr.suffix
  rcases items_or e2 with e3 | e3
  · obtain ⟨a, vs, rfl, h3, h4⟩ := lstC_rc rc e3
    refine ⟨a, rfl, .inl ⟨⟨vs, h3⟩, k xs _ ψ1 g1 T' _ H1 q3 (still_now e1) R1 k1 ⟨fun i ψ g T2 σ' H ok R2 es kk => ?_⟩⟩⟩
    obtain ⟨a', vs', e4, h5, h6⟩ := lstC_rc (still_rc rr sl e1 ok R2 es kk) e3
    cases e4
    exact itl_turn R2 h5 h6
  · obtain ⟨a, vs, rfl, h3, h4⟩ := tupC_rc rc e3
    refine ⟨a, rfl, .inr ⟨⟨vs, h3⟩, k xs _ ψ1 g1 T' _ H1 q3 (still_now e1) R1 k1 ⟨fun i ψ g T2 σ' H ok R2 es kk => ?_⟩⟩⟩
    obtain ⟨a', vs', e4, h5, h6⟩ := tupC_rc (still_rc rr sl e1 ok R2 es kk) e3
    cases e4
    exact itt_turn R2 h5 h6
theorem numbered_get : ∀ (n i : Nat) (xs : List D), (numbered n xs)[i]? = (xs[i]?).map fun x => .tup [.int ((n + i : Nat) : Int), x]
  | _, _, [] => rfl
  | n, 0, x :: xs => rfl
  | n, i + 1, x :: xs => by
    show (numbered (n + 1) xs)[i]? = _
    rw [numbered_get (n + 1) i xs, List.getElem?_cons_succ]
    have : n + 1 + i = n + (i + 1) := by omega
    rw [this]
theorem numbered_length : ∀ (n : Nat) (xs : List D), (numbered n xs).length = xs.length
  | _, [] => rfl
  | n, x :: xs => by show (numbered (n + 1) xs).length + 1 = xs.length + 1; rw [numbered_length]
theorem di_enum {S : List Nat} {p tpos : Pos} {elts : List Expr} {kk : Nat} (B : Bl X.mg "enumerate" (.type "enumerate")) (h : DSo X tb e S te) (hg : Gl X "enumerate" := by rfl) (hs : starEach [e] X.env = [(false, eval e X.env)] := by rfl) :
    DI X tb (.Tuple elts kk tpos) (.Call (.Name "enumerate" p) [e] [] pos) S (iEnum te) := fun W tk => by
  obtain ⟨t1, h1, h2⟩ := h W tk
  refine ⟨_, pi_enum hg B.no (pa_cons h1 pa_nil hs) hs, fun E F T ψ g σ H K Q R ex q k => h2 E F T ψ g σ H _ _ R ex q fun r ψ1 g1 T1 v H1 q1 sl rr R1 k1 => ?_⟩
  obtain ⟨c, e1, q2⟩ := optQ_inv q1
  obtain ⟨xs, e3, q3⟩ := optQ_inv q2
  obtain ⟨T', rfl⟩ := id rr.suffix
  obtain ⟨a, vs, rfl, h3, h4⟩ := lstC_rc (R1.look rr e1 ⟨[], rfl⟩) e3
  refine ⟨a, vs, rfl, h3, k _ _ ψ1 g1 T' _ H1 q3 (still_now e1) R1 k1 ⟨fun i ψ g T2 σ' H ok R2 es kk => ?_⟩⟩
  obtain ⟨a', ws, e4, h5, h6⟩ := lstC_rc (still_rc rr sl e1 ok R2 es kk) e3
  cases e4
  refine ⟨fun d e5 => ?_, fun hl => ⟨ws, h5, by rw [← h6.length, ← numbered_length 0 xs]; exact hl⟩⟩
  rw [numbered_get] at e5
  obtain ⟨x, e6, rfl⟩ := Option.map_eq_some_iff.mp e5
  obtain ⟨w, h7, h8⟩ := h6.get e6
  refine ⟨⟨ws, w, h5, h7⟩, fun v H' y => ?_⟩
  obtain ⟨t, w2, rfl, ht, rfl, y⟩ := y
  have e7 := y ws h5
  rw [h7] at e7; cases e7
  have kp : Keep H (L2.upd H t (.tup [.int (i : Nat), w])) := Keep.new ht
  refine ⟨.tup (.inl (.inl upd_same)) (.cons ?_ (.cons (h8.keep kp) .nil)), R2.alloc ht, kp⟩
  rw [Nat.zero_add]
  exact .int _
theorem pairUp_get : ∀ (i : Nat) (xs ys : List D) (d : D), (pairUp xs ys)[i]? = some d → ∃ x y, xs[i]? = some x ∧ ys[i]? = some y ∧ d = .tup [x, y]
  | _, [], _, _, h => nomatch h
  | _, _ :: _, [], _, h => nomatch h
  | 0, x :: xs, y :: ys, d, h => by cases h; exact ⟨x, y, rfl, rfl, rfl⟩
  | i + 1, x :: xs, y :: ys, d, h => by
    obtain ⟨x', y', h1, h2, h3⟩ := pairUp_get i xs ys d h
    exact ⟨x', y', by simpa using h1, by simpa using h2, h3⟩
theorem pairUp_end : ∀ (i : Nat) (xs ys : List D), (pairUp xs ys).length ≤ i → xs.length ≤ i ∨ ys.length ≤ i
  | _, [], _, _ => .inl (Nat.zero_le _)
  | _, _ :: _, [], _ => .inr (Nat.zero_le _)
  | 0, x :: xs, y :: ys, h => by exact absurd h (Nat.not_succ_le_zero _)
  | i + 1, x :: xs, y :: ys, h => (pairUp_end i xs ys (Nat.le_of_succ_le_succ h)).imp Nat.succ_le_succ Nat.succ_le_succ
def tupB : C → Bool
  | .d (.tup _) => true
  | _ => false
theorem sqC_rc {B : Bx} {H : Hp} {c : C} {v : V} {xs : List D} (h : RC B H c v) (e : sqC c = some xs) : ∃ a vs, v = .ref a ∧ SqB (tupB c) B.K H a vs ∧ RVs B.K H xs vs := by
  unfold sqC at e
  split at e
  · rename_i ys e1
    cases e
    obtain ⟨a, vs, q1, q2, q3⟩ := lstC_rc h e1
    have : tupB c = false := by
      unfold lstC at e1
      split at e1 <;> first | rfl | cases e1
    rw [this]
    exact ⟨a, vs, q1, q2, q3⟩
  · obtain ⟨a, vs, q1, q2, q3⟩ := tupC_rc h e
    have : tupB c = true := by
      unfold tupC at e
      split at e <;> first | rfl | cases e
    rw [this]
    exact ⟨a, vs, q1, q2, q3⟩
theorem zipC_both {c c' : C} {p : List D × List D} (h : zipC c c' = some p) : sqC c = some p.1 ∧ sqC c' = some p.2 := by
  unfold zipC at h
  split at h
  · rename_i e1 e2; cases h; exact ⟨e1, e2⟩
  · cases h
theorem zip_give {B : Bx} {F T : Own} {ψ : Psi} {g : G} {σ : L2.St} {H : Hp} {t : Addr} {x y : D} {w w' : V} (R : Rel B F ψ g T σ H) (ht : H t = none) (rx : RV B.K H x w) (ry : RV B.K H y w') :
    RV B.K (L2.upd H t (.tup [w, w'])) (.tup [x, y]) (.ref t) ∧ Rel B F ψ g T σ (L2.upd H t (.tup [w, w'])) ∧ Keep H (L2.upd H t (.tup [w, w'])) := by
  have kp : Keep H (L2.upd H t (.tup [w, w'])) := Keep.new ht
  exact ⟨.tup (.inl (.inl upd_same)) (.cons (rx.keep kp) (.cons (ry.keep kp) .nil)), R.alloc ht, kp⟩
theorem di_zip {e2 : Expr} {S S' : List Nat} {p tpos : Pos} {elts : List Expr} {kk : Nat} (B : Bl X.mg "zip" (.type "zip")) (h : DSo X tb e S te) (h' : DSo X tb e2 S' u) (hg : Gl X "zip" := by rfl)
    (hs : starEach [e, e2] X.env = (false, eval e X.env) :: starEach [e2] X.env := by rfl) (hs2 : starEach [e2] X.env = (false, eval e2 X.env) :: starEach [] X.env := by rfl) (hpl : (backTo pos (starEach [e2] X.env)).any (·.1) = false := by rfl) :
    DI X tb (.Tuple elts kk tpos) (.Call (.Name "zip" p) [e, e2] [] pos) (S ++ S') (iZip te u) := fun W tk => by
  obtain ⟨t1, h1, h2⟩ := h W tk
  obtain ⟨t2, h1', h2'⟩ := h' W tk
  refine ⟨_, pi_zipM hg B.no (pa_cons h1 (pa_cons h1' pa_nil hs2) hs) hs hpl, fun E F T ψ g σ H K Q R ex q k => h2 E F T ψ g σ H _ _ R ex q fun r ψ1 g1 T1 v H1 q1 sl rr R1 k1 => ?_⟩
  obtain ⟨T', rfl⟩ := id rr.suffix
  refine h2' E F (T' ++ T) ψ1 g1 σ H1 _ _ R1 (ex.more k1) q1 fun r' ψ2 g2 T2 v' H2 q2 sl' rr' R2 k2 => ?_
  obtain ⟨T'', rfl⟩ := id rr'.suffix
  obtain ⟨c, e1, q3⟩ := optQ_inv q2
  obtain ⟨c', e1', q4⟩ := optQ_inv q3
  obtain ⟨p, e3, q5⟩ := optQ_inv q4
  have rA := rr.keep k2
  have rc := R2.look rA e1 ⟨T'', rfl⟩
  have rc' := R2.look rr' e1' ⟨[], rfl⟩
  have okA : ∀ {ψ : Psi} {g : G} {T2 : Own} {σ' : L2.St} {H : Hp}, still r c ψ g → Rel (bx X tb) F ψ g (T2 ++ (T'' ++ (T' ++ T))) σ' H → (∀ j ∈ S ++ S', σ'[j]? = σ[j]?) → Keep H2 H → RC (bx X tb) H c v := fun {ψ g T2 σ' H} o R3 es kk =>
    still_rc (T2 := T2 ++ T'') rA sl e1 o (by rw [List.append_assoc]; exact R3) (fun j hj => es j (List.mem_append_left _ hj)) kk
  have okB : ∀ {ψ : Psi} {g : G} {T2 : Own} {σ' : L2.St} {H : Hp}, still r' c' ψ g → Rel (bx X tb) F ψ g (T2 ++ (T'' ++ (T' ++ T))) σ' H → (∀ j ∈ S ++ S', σ'[j]? = σ[j]?) → Keep H2 H → RC (bx X tb) H c' v' := fun {ψ g T2 σ' H} o R3 es kk =>
    still_rc (T2 := T2) rr' sl' e1' o R3 (fun j hj => es j (List.mem_append_right _ hj)) kk
  have R2' : Rel (bx X tb) F ψ2 g2 ((T'' ++ T') ++ T) σ H2 := by rw [List.append_assoc]; exact R2
  have ok0 : still r c ψ2 g2 ∧ still r' c' ψ2 g2 := ⟨still_now e1, still_now e1'⟩
  obtain ⟨f1, f2⟩ := zipC_both e3
  obtain ⟨a, vs, rfl, h3, h4⟩ := sqC_rc rc f1
  obtain ⟨b, ws, rfl, h3', h4'⟩ := sqC_rc rc' f2
  refine ⟨_, _, a, b, vs, ws, rfl, h3, h3', k _ _ ψ2 g2 (T'' ++ T') _ H2 q5 ok0 R2' (k1.trans k2) ⟨fun i ψ g T2 σ' H ok R3 es kk => ?_⟩⟩
  rw [List.append_assoc] at R3
  obtain ⟨a', vs, e4, h5, h6⟩ := sqC_rc (okA ok.1 R3 es kk) f1
  obtain ⟨b', ws, e4', h5', h6'⟩ := sqC_rc (okB ok.2 R3 es kk) f2
  cases e4; cases e4'
  refine ⟨fun d e5 => ?_, fun hl => ⟨vs, ws, h5, h5', by rw [← h6.length, ← h6'.length]; exact pairUp_end i _ _ hl⟩⟩
  obtain ⟨x, y, e6, e7, rfl⟩ := pairUp_get i _ _ d e5
  obtain ⟨w, h7, h8⟩ := h6.get e6
  obtain ⟨w', h7', h8'⟩ := h6'.get e7
  refine ⟨⟨vs, ws, w, w', h5, h5', h7, h7'⟩, fun v H' y => ?_⟩
  obtain ⟨t, z, z', rfl, ht, rfl, y1, y2⟩ := y
  have e8 := y1 vs h5
  have e9 := y2 ws h5'
  rw [h7] at e8; rw [h7'] at e9; cases e8; cases e9
  rw [List.append_assoc]
  exact zip_give R3 ht h8 h8'
theorem di_range {tg : Expr} {p : Pos} (B : Bl X.mg "range" (.type "range")) (h : DE X tb e te) (hg : Gl X "range" := by rfl) (hs : starEach [e] X.env = [(false, eval e X.env)] := by rfl) :
    DI X tb tg (.Call (.Name "range" p) [e] [] pos) [] (iRange te) := fun W tk => by
  obtain ⟨t1, h1, h2⟩ := h W tk
  refine ⟨_, pi_range1 hg B.no (pa_cons h1 pa_nil hs) hs, fun E F T ψ g σ H K Q R ex q k => h2 E F T ψ g σ H _ _ R ex q fun r ψ1 g1 T1 v H1 q1 rr R1 k1 => ?_⟩
  obtain ⟨T', rfl⟩ := id rr.suffix
  split at q1
  · rename_i n e1
    have x1 := R1.look rr e1 ⟨[], rfl⟩
    cases x1
    refine ⟨n, rfl, q1.2.1, q1.1, k _ _ ψ1 g1 T' _ H1 q1.2.2 trivial R1 k1 ⟨fun i ψ g T2 σ' H ok R2 es kk => ⟨fun d e5 => ?_, fun hl => ?_⟩⟩⟩
    · rw [List.getElem?_map] at e5
      obtain ⟨j, e6, rfl⟩ := Option.map_eq_some_iff.mp e5
      obtain ⟨e7, e8⟩ := List.getElem?_eq_some_iff.mp e6
      rw [List.getElem_range] at e8
      subst e8
      rw [List.length_range] at e7
      refine ⟨e7, fun v H' y => ?_⟩
      obtain ⟨rfl, rfl⟩ := y
      rw [Int.zero_add]
      exact ⟨.int _, R2, Keep.refl _⟩
    · rw [List.length_map, List.length_range] at hl
      exact hl
  · exact q1.elim
theorem di_str {tg : Expr} (h : DE X tb e te) : DI X tb tg e [] (iStr te) := fun W tk => by
  obtain ⟨t1, h1, h2⟩ := h W tk
  refine ⟨_, pi_str h1, fun E F T ψ g σ H K Q R ex q k => h2 E F T ψ g σ H _ _ R ex q fun r ψ1 g1 T1 v H1 q1 rr R1 k1 => ?_⟩
  obtain ⟨T', rfl⟩ := id rr.suffix
  split at q1
  · rename_i s e1
    have x1 := R1.look rr e1 ⟨[], rfl⟩
    cases x1 with | str _ os => ?_
    refine ⟨_, rfl, k _ _ ψ1 g1 T' _ H1 q1 trivial R1 k1 ⟨fun i ψ g T2 σ' H ok R2 es kk => ⟨fun d e5 => ?_, fun hl => ?_⟩⟩⟩
    · rw [List.getElem?_map] at e5
      obtain ⟨ch, e6, rfl⟩ := Option.map_eq_some_iff.mp e5
      obtain ⟨e7, e8⟩ := List.getElem?_eq_some_iff.mp e6
      refine ⟨by show i < (⟨s.toArray⟩ : Str).cps.size; simpa using e7, fun v H' y => ?_⟩
      obtain ⟨rfl, c, e9, rfl⟩ := y
      have e10 : s[i]? = some c := by simpa using e9
      rw [e6] at e10; cases e10
      exact ⟨.str [ch] fun z hz => by rw [List.mem_singleton.mp hz]; exact os _ (List.mem_of_getElem? e6), R2, Keep.refl _⟩
    · rw [List.length_map] at hl
      show (⟨s.toArray⟩ : Str).cps.size ≤ i
      simpa using hl
  · exact q1.elim
end
end Pd
set_option Elab.async false
set_option linter.all false
set_option maxRecDepth 100000
set_option maxHeartbeats 1000000
namespace Pd
open PySem PySem.Spec PyProof.Rows L2
section
variable {X : Cx} {tb : Tb} {e a b : Expr} {es : List Expr} {te ta u : WE} {pos : Pos}
/-! ### more built-ins -/
theorem topI_is : ∀ (xs : List Int) (x : Int), xs.foldl max x ∈ x :: xs ∧ ∀ y ∈ x :: xs, y ≤ xs.foldl max x
  | [], x => ⟨by simp, fun y hy => by simp at hy; subst hy; simp⟩
  | z :: zs, x => by
    obtain ⟨h1, h2⟩ := topI_is zs (max x z)
    show zs.foldl max (max x z) ∈ _ ∧ ∀ y ∈ _, y ≤ zs.foldl max (max x z)
    constructor
    · rcases List.mem_cons.mp h1 with h | h
      · rw [h]
        by_cases c : x ≤ z
        · rw [Int.max_eq_right c]; simp
        · rw [Int.max_eq_left (by omega)]; simp
      · simp [h]
    · intro y hy
      have h3 := h2 (max x z) (by simp)
      rcases List.mem_cons.mp hy with rfl | hy
      · have := Int.le_max_left y z; omega
      · rcases List.mem_cons.mp hy with rfl | hy
        · have := Int.le_max_right x y; omega
        · exact h2 y (by simp [hy])
theorem lowI_is : ∀ (xs : List Int) (x : Int), xs.foldl min x ∈ x :: xs ∧ ∀ y ∈ x :: xs, xs.foldl min x ≤ y
  | [], x => ⟨by simp, fun y hy => by simp at hy; subst hy; simp⟩
  | z :: zs, x => by
    obtain ⟨h1, h2⟩ := lowI_is zs (min x z)
    show zs.foldl min (min x z) ∈ _ ∧ ∀ y ∈ _, zs.foldl min (min x z) ≤ y
    constructor
    · rcases List.mem_cons.mp h1 with h | h
      · rw [h]
        by_cases c : x ≤ z
        · rw [Int.min_eq_left c]; simp
        · rw [Int.min_eq_right (by omega)]; simp
      · simp [h]
    · intro y hy
      have h3 := h2 (min x z) (by simp)
      rcases List.mem_cons.mp hy with rfl | hy
      · have := Int.min_le_left y z; omega
      · rcases List.mem_cons.mp hy with rfl | hy
        · have := Int.min_le_right x y; omega
        · exact h2 y (by simp [hy])
theorem ok_minL : UnOk X tb oMinL (fun v H Q => rMin X.K [v] H Q) := fun F T ψ g σ H c x z Q R hc e k => by
  unfold oMinL at e
  split at e
  · obtain ⟨bs, e1, e2⟩ := Option.bind_eq_some_iff.mp e
    obtain ⟨m, e3, rfl⟩ := Option.map_eq_some_iff.mp e2
    obtain ⟨a, rfl, vs, h1, h2⟩ := hc
    have fin : Q (.int m) H := k _ T H ⟨.int _, rfl⟩ R (Keep.refl H)
    cases bs with
    | nil => cases e3
    | cons x xs =>
      cases e3
      refine ⟨a, x :: xs, rfl, by rw [← intsD_rel h2 e1]; exact SqL.of h1, by simp, fun m' hm hy => ?_⟩
      obtain ⟨k1, k2⟩ := lowI_is xs x
      have a1 := hy _ k1
      have a2 := k2 _ hm
      rw [show m' = xs.foldl min x by omega]; exact fin
  · cases e
theorem de_minL {p : Pos} (B : Bl X.mg "min" (.builtin "min")) (ha : DE X tb a ta) (hg : Gl X "min" := by rfl) (hs : starEach [a] X.env = (false, eval a X.env) :: starEach [] X.env := by rfl) (hc : X.calm = true := by rfl) : DE X tb (.Call (.Name "min" p) [a] [] pos) (eUn oMinL ta) :=
  de_call1 (cr_min hc) ok_minL (fun t h => pe_callB (cr_min hc) hg B.no B.is h (he := hs)) ha hs
/-! ### xs.clear(), xs[::-1] -/
end
end Pd
set_option Elab.async false
set_option linter.all false
set_option maxRecDepth 100000
set_option maxHeartbeats 1000000
namespace Pd
open PySem PySem.Spec PyProof.Rows L2
section
variable {X : Cx} {tb : Tb} {e a b c : Expr} {es : List Expr} {te ta u v : WE} {ts : WD} {as : WA} {pos apos : Pos}
/-! ### targets -/
def RefG (X : Cx) (tb : Tb) (S : List Nat) (t : WG) (g0 : TG) : Prop := ∀ (F T : Own) (ψ : Psi) (g : G) (σ : L2.St) (H : Hp) (x : D) (v : V) (Q' : Psi → G → Prop) (Q : L2.St → Hp → Prop),
  Rel (bx X tb) F ψ g T σ H → RV X.K H x v → t x ψ g Q' →
  (∀ ψ1 g1 σ1 H1, Q' ψ1 g1 → Rel (bx X tb) F ψ1 g1 T σ1 H1 → Keep H H1 → (∀ j, j ∉ S → σ1[j]? = σ[j]?) → σ1.length = σ.length → Q σ1 H1) → g0 v σ H Q
def RefGs (X : Cx) (tb : Tb) (S : List Nat) (ts : List WG) (g0 : TGs) : Prop := ∀ (F T : Own) (ψ : Psi) (g : G) (σ : L2.St) (H : Hp) (xs : List D) (vs : List V) (Q' : Psi → G → Prop) (Q : L2.St → Hp → Prop),
  Rel (bx X tb) F ψ g T σ H → RVs X.K H xs vs → gAll ts xs ψ g Q' →
  (∀ ψ1 g1 σ1 H1, Q' ψ1 g1 → Rel (bx X tb) F ψ1 g1 T σ1 H1 → Keep H H1 → (∀ j, j ∉ S → σ1[j]? = σ[j]?) → σ1.length = σ.length → Q σ1 H1) → g0 vs σ H Q
def DG (X : Cx) (tb : Tb) (tg : Expr) (S : List Nat) (t : WG) : Prop := ∃ g0, PG X tg g0 ∧ RefG X tb S t g0
def DGs (X : Cx) (tb : Tb) (es : List Expr) (S : List Nat) (ts : List WG) : Prop := ∃ g0, PGs X es g0 ∧ RefGs X tb S ts g0
theorem dg_name (i : Nat) {x : Str} (hN : X.N.Nodup) (hi : X.N[i]? = some x := by rfl) (hx : Loc X.env.scope x := by first | exact Or.inl rfl | exact Or.inr rfl) (hf : X.fn x = true ∨ X.env.scope.names.lookup x = some .local := by first | exact .inl rfl | exact .inr rfl) : DG X tb (.Name x pos) [i] (gName i) :=
  ⟨_, pg_name hN hi hx hf, fun F T ψ g σ H x v Q' Q R rv q k => k _ g _ H q (R.setD rv) (Keep.refl H) (fun j hj => List.getElem?_set_ne fun z => hj (by rw [z]; exact List.mem_singleton.mpr rfl)) (List.length_set ..)⟩
theorem dgs_nil : DGs X tb [] [] [] := ⟨_, pgs_nil, fun F T ψ g σ H xs vs Q' Q R rv q k => by
  cases rv with
  | nil => exact ⟨rfl, k ψ g σ H q R (Keep.refl H) (fun _ _ => rfl) rfl⟩
  | cons _ _ => exact q.elim⟩
theorem dgs_cons {t : WG} {us : List WG} {S S' : List Nat} (h : DG X tb e S t) (h' : DGs X tb es S' us) (hs : (assignEach (e :: es) X.env).map (·.2) = assign e X.env :: (assignEach es X.env).map (·.2) := by rfl) : DGs X tb (e :: es) (S ++ S') (t :: us) := by
  obtain ⟨t1, h1, h2⟩ := h
  obtain ⟨t2, h3, h4⟩ := h'
  refine ⟨_, pgs_cons h1 h3 hs, fun F T ψ g σ H xs vs Q' Q R rv q k => ?_⟩
  cases rv with
  | nil => exact q.elim
  | cons r t =>
    refine ⟨_, _, rfl, h2 F T ψ g σ H _ _ _ _ R r q fun ψ1 g1 σ1 H1 q1 R1 k1 e1 l1 => ?_⟩
    exact h4 F T ψ1 g1 σ1 H1 _ _ _ _ R1 (t.keep k1) q1 fun ψ2 g2 σ2 H2 q2 R2 k2 e2 l2 => k ψ2 g2 σ2 H2 q2 R2 (k1.trans k2)
      (fun j hj => (e2 j fun z => hj (List.mem_append_right _ z)).trans (e1 j fun z => hj (List.mem_append_left _ z))) (l2.trans l1)
theorem dg_tup {us : List WG} {S : List Nat} {kk : Nat} (h : DGs X tb es S us) (hc : X.calm = true := by rfl) (hn : (assignEach es X.env).length = us.length := by rfl) (hst : (assignEach es X.env).findIdx? (·.1) = none := by rfl) : DG X tb (.Tuple es kk pos) S (gTup us) := by
  obtain ⟨t1, h1, h2⟩ := h
  refine ⟨_, pg_tup hc h1 hn hst, fun F T ψ g σ H x v Q' Q R rv q k => ?_⟩
  cases rv with
  | tup h3 h4 => exact ⟨_, _, rfl, h3, by rw [← h4.length]; exact q.1, h2 F T ψ g σ H _ _ Q' Q R h4 q.2 k⟩
  | _ => exact q.elim

/-! ### comprehensions: blocks -/
theorem wipe_rel {B : Bx} {F T : Own} {ψ : Psi} {g : G} {σ : L2.St} {H : Hp} (R : Rel B F ψ g T σ H) : ∀ vs : List Nat, Rel B F (Pd.wipe ψ vs) g T (L2.wipe σ vs) H
  | [] => R
  | v :: vs => (wipe_rel R vs).setN
theorem wipe_eq {σ σ' : L2.St} {vs : List Nat} (hl : σ'.length = σ.length) (h : ∀ j, j ∉ vs → σ'[j]? = σ[j]?) : L2.wipe σ' vs = L2.wipe σ vs := by
  refine List.ext_getElem? fun j => ?_
  by_cases hj : j ∈ vs
  · have : ∀ (τ : L2.St) (ws : List Nat), j ∈ ws → (L2.wipe τ ws)[j]? = if j < τ.length then some none else none := fun τ ws => by
      induction ws with
      | nil => intro z; cases z
      | cons w ws ih =>
        intro z
        show ((L2.wipe τ ws).set w none)[j]? = _
        rw [List.getElem?_set]
        by_cases e : w = j
        · subst e; rw [if_pos rfl, L2.wipe_length]
        · rw [if_neg e]
          exact ih ((List.mem_cons.mp z).resolve_left fun q => e q.symm)
    rw [this σ' vs hj, this σ vs hj, hl]
  · rw [L2.wipe_out hj, L2.wipe_out hj]
    exact h j hj
theorem wipe_wipe {σ σ' : L2.St} {vs : List Nat} (hl : σ'.length = σ.length) (h : ∀ j, j ∉ vs → σ'[j]? = (L2.wipe σ vs)[j]?) : L2.wipe σ' vs = L2.wipe σ vs := by
  refine wipe_eq hl fun j hj => ?_
  rw [h j hj, L2.wipe_out hj]
def DTs (X : Cx) (tb : Tb) (ifs : List Expr) (t : WT) : Prop := ∀ W : WX, Takes X W → ∃ t0, PTs X ifs t0 ∧ RefT X tb W t t0
theorem dts_nil : DTs X tb [] Pd.tYes := fun W tk => ⟨_, pts_nil, fun E F T ψ g σ H Q' Q R ex q k => k true ψ g H q R (Keep.refl H)⟩
theorem dts_one {t : WT} (h : DT X tb c t) : DTs X tb [c] t := fun W tk => let ⟨_, h1, h2⟩ := h W tk; ⟨_, pts_one h1, h2⟩
def noW : WX := fun _ _ _ _ => False
theorem takes_no (Y : Cx) : Takes Y noW := fun _ _ ⟨_, _, _, _, _, _, _, _, _, _, _, _, _, _, _, _, w⟩ => w.elim
theorem PE.weak {Y : Cx} {t t' : TE} (h : PE Y e t) (hh : ∀ σ H Q, t' σ H Q → t σ H Q) : PE Y e t' := ⟨fun pins s σ H Q I q => h.run pins s σ H Q I (hh _ _ _ q)⟩
theorem PG.weak {Y : Cx} {t t' : TG} (h : PG Y e t) (hh : ∀ v σ H Q, t' v σ H Q → t v σ H Q) : PG Y e t' := ⟨fun pins s σ H v u Q I r q => h.run pins s σ H v u Q I r (hh _ _ _ _ q)⟩
theorem PTs.weak {Y : Cx} {t t' : TT} (h : PTs Y es t) (hh : ∀ σ H Q, t' σ H Q → t σ H Q) : PTs Y es t' := ⟨fun pins s σ H Q I q => h.run pins s σ H Q I (hh _ _ _ q)⟩
theorem uni_e {ι : Type} {Y : ι → Cx} (hb : ∀ i, bx (Y i) tb = bx X tb) (h : ∀ i, DE (Y i) tb e te) : ∃ t0, (∀ i, PE (Y i) e t0) ∧ RefE X tb noW te t0 := by
  refine ⟨fun σ H Q => ∀ i, (h i noW (takes_no _)).choose σ H Q, fun i => PE.weak (h i noW (takes_no _)).choose_spec.1 fun σ H Q q => q i, fun E F T ψ g σ H Q' Q R ex q k i => ?_⟩
  have z := (h i noW (takes_no _)).choose_spec.2 E F T ψ g σ H Q' Q
  rw [hb i] at z
  exact z R ex q k
theorem uni_t {ι : Type} {Y : ι → Cx} {ifs : List Expr} {t : WT} (hb : ∀ i, bx (Y i) tb = bx X tb) (h : ∀ i, DTs (Y i) tb ifs t) : ∃ t0, (∀ i, PTs (Y i) ifs t0) ∧ RefT X tb noW t t0 := by
  refine ⟨fun σ H Q => ∀ i, (h i noW (takes_no _)).choose σ H Q, fun i => PTs.weak (h i noW (takes_no _)).choose_spec.1 fun σ H Q q => q i, fun E F T ψ g σ H Q' Q R ex q k i => ?_⟩
  have z := (h i noW (takes_no _)).choose_spec.2 E F T ψ g σ H Q' Q
  rw [hb i] at z
  exact z R ex q k
theorem uni_g {ι : Type} {Y : ι → Cx} {tg : Expr} {S : List Nat} {t : WG} (hb : ∀ i, bx (Y i) tb = bx X tb) (hK : ∀ i, (Y i).K = X.K) (h : ∀ i, DG (Y i) tb tg S t) : ∃ t0, (∀ i, PG (Y i) tg t0) ∧ RefG X tb S t t0 := by
  refine ⟨fun v σ H Q => ∀ i, (h i).choose v σ H Q, fun i => PG.weak (h i).choose_spec.1 fun v σ H Q q => q i, fun F T ψ g σ H x v Q' Q R rv q k i => ?_⟩
  have z := (h i).choose_spec.2 F T ψ g σ H x v Q' Q
  rw [hb i, hK i] at z
  exact z R rv q k

/-! ### comprehensions: lending -/
theorem own_lend : ∀ (ψ : Psi) (σ : L2.St), ownL (lendAll ψ) σ = []
  | [], _ => rfl
  | _ :: _, [] => rfl
  | s :: ψ, v :: σ => by
    show own1 (lend s) v ++ ownL (lendAll ψ) σ = []
    rw [own_lend ψ σ, List.append_nil]
    cases s with
    | none => rfl
    | some s => cases s <;> rfl
theorem Rel.lent {B : Bx} {F T : Own} {ψ : Psi} {g : G} {σ : L2.St} {H : Hp} (R : Rel B F ψ g T σ H) : Rel B (ownL ψ σ ++ (T ++ F)) (lendAll ψ) g [] σ H := by
  refine ⟨by rw [lendAll, List.length_map]; exact R.len, fun i s h => ?_, R.gl, ?_⟩
  · rw [lendAll, List.getElem?_map] at h
    obtain ⟨s0, h1, h2⟩ := Option.map_eq_some_iff.mp h
    cases s0 with
    | none => cases h2
    | some s0 =>
      obtain ⟨v, h3, h4⟩ := R.sl i s0 h1
      refine ⟨v, h3, ?_⟩
      cases s0 with
      | d x => cases h2; exact h4
      | bor o =>
        cases h2
        obtain ⟨a, e1, e2⟩ := h4
        exact ⟨a, e1, List.mem_append_right _ (List.mem_append_right _ e2)⟩
      | fz kvs => cases h2; exact h4
      | own o =>
        cases h2
        obtain ⟨a, L, e1, e2, _⟩ := R.ownAt h1
        rw [h3] at e1; cases e1
        exact ⟨a, rfl, e2.mem_iff.mpr (List.Mem.head _)⟩
  · rw [own_lend]; exact R.ow
theorem Rel.unlent {B : Bx} {F T T2 : Own} {ψ ψ2 : Psi} {g g2 : G} {σ σ2 : L2.St} {H H2 : Hp} (R : Rel B F ψ g T σ H) (R2 : Rel B (ownL ψ σ ++ (T ++ F)) ψ2 g2 T2 σ2 H2) (k : Keep H H2) : Rel B F ψ g2 T σ H2 :=
  ⟨R.len, fun i s h => let ⟨v, h1, h2⟩ := R.sl i s h; ⟨v, h1, h2.keep k⟩, R2.gl, R2.ow.sub ((List.sublist_append_right _ _).trans (List.sublist_append_right _ _))⟩
/-- an object at hand is written -/
theorem Rel.writeT {B : Bx} {F T : Own} {ψ : Psi} {g : G} {σ : L2.St} {H : Hp} {a : Addr} {o o' : O} {w : HO} (R : Rel B F ψ g ((a, o) :: T) σ H) (ho : RO B (L2.upd H a w) o' a) (hs : o.soft = true := by rfl) :
    Rel B F ψ g ((a, o') :: T) σ (L2.upd H a w) ∧ Keep H (L2.upd H a w) := by
  have hw := R.ow.perm (List.perm_middle (l₁ := ownL ψ σ) (a := (a, o)) (l₂ := T ++ F))
  have h0 := hw.1 (a, o) (List.Mem.head _)
  have hnd := hw.2
  rw [List.map_cons, List.nodup_cons] at hnd
  have k : Keep H (L2.upd H a w) := Keep.upd (h0.1.soft hs)
  refine ⟨⟨R.len, fun i s h => let ⟨v, h1, h2⟩ := R.sl i s h; ⟨v, h1, h2.keep k⟩, fun b v q => ?_, ?_⟩, k⟩
  · refine (R.gl b v q).keep k (upd_ne fun z => ?_)
    subst z; rw [h0.2] at q; cases q
  · refine Owns.perm (W := (a, o') :: (ownL ψ σ ++ (T ++ F))) ⟨fun q hq => ?_, by rw [List.map_cons, List.nodup_cons]; exact hnd⟩ (List.perm_middle (l₁ := ownL ψ σ) (a := (a, o')) (l₂ := T ++ F)).symm
    rcases List.mem_cons.mp hq with rfl | hq
    · exact ⟨ho, h0.2⟩
    · exact ⟨((hw.1 q (List.Mem.tail _ hq)).1).keep k (upd_ne fun z => hnd.1 (List.mem_map.mpr ⟨q, hq, z⟩)), (hw.1 q (List.Mem.tail _ hq)).2⟩
theorem Rel.midT {B : Bx} {F T T' : Own} {p : Addr × O} {ψ : Psi} {g : G} {σ : L2.St} {H : Hp} (R : Rel B F ψ g (p :: (T' ++ T)) σ H) : Rel B F ψ g (p :: T) σ H :=
  ⟨R.len, R.sl, R.gl, R.ow.sub (List.Sublist.append (List.Sublist.refl _) (List.Sublist.append ((List.sublist_append_right _ _).cons₂ _) (List.Sublist.refl _)))⟩

theorem ref_lc {W : WX} {S St vs : List Nat} {it : WI} {tg : WG} {tt : WT} {wi : TI} {g0 : TG} {t1 : TT} {t2 : TE} (hi : RefI X tb W S it wi) (hg : RefG X tb St tg g0) (ht : RefT X tb noW tt t1) (he : RefE X tb noW te t2) (hv : ∀ j ∈ St, j ∈ vs) :
    RefE X tb W (eComp vs it tg tt te) (tLc wi g0 t1 t2 vs) := fun E F T ψ g σ H Q' Q R ex q k => hi E F T ψ g σ H _ _ R ex q fun xs ok ψ1 g1 T' J H1 q1 ok1 R1 k1 io => by
  intro D hD
  refine ⟨fun i m H => m = xs.length - i ∧ i ≤ xs.length ∧ ∃ g acc, ok ψ1 g ∧ compL tg tt te ok ψ1 (Pd.wipe (lendAll ψ1) vs) (xs.drop i) acc g (fun acc g => Q' (.own (.lst acc)) ψ1 g) ∧ Rel (bx X tb) F ψ1 g ((D, .lst acc) :: (T' ++ T)) σ H ∧ Keep H1 H,
    ⟨_, rfl, Nat.zero_le _, g1, [], ok1, q1, R1.new hD ⟨[], upd_same, .nil⟩, Keep.new hD⟩, ?_⟩
  rintro i m H2 ⟨rfl, hl, g2, acc, ok2, q2, R2, k2⟩
  have tn := io.turn i ψ1 g2 [(D, .lst acc)] σ H2 ok2 R2 (fun _ _ => rfl) k2
  by_cases hlt : i < xs.length
  · have hx : xs[i]? = some xs[i] := List.getElem?_eq_getElem hlt
    rw [List.drop_eq_getElem_cons hlt] at q2
    refine .inr ⟨(tn.1 _ hx).1, fun H' => i + 1 ≤ xs.length ∧ ∃ g acc, ok ψ1 g ∧ compL tg tt te ok ψ1 (Pd.wipe (lendAll ψ1) vs) (xs.drop (i + 1)) acc g (fun acc g => Q' (.own (.lst acc)) ψ1 g) ∧ Rel (bx X tb) F ψ1 g ((D, .lst acc) :: (T' ++ T)) σ H' ∧ Keep H1 H',
      fun H' w => ⟨xs.length - (i + 1), by omega, rfl, w⟩, fun v H3 y => ?_⟩
    obtain ⟨rv, R3, k3⟩ := (tn.1 _ hx).2 v H3 y
    refine hg _ [] _ g2 _ H3 xs[i] v _ _ (wipe_rel (Rel.lent R3) vs) rv q2 fun ψ4 g4 σ4 H4 q4 R4 k4 e4 l4 => ?_
    refine ⟨wipe_wipe (by rw [l4, L2.wipe_length]) fun j hj => e4 j fun z => hj (hv j z), ?_⟩
    refine ht noX _ [] ψ4 g4 σ4 H4 _ _ R4 ExOk.none q4 fun b ψ5 g5 H5 q5 R5 k5 => ?_
    cases b with
    | false =>
      have q5' : ok ψ1 g5 ∧ compL tg tt te ok ψ1 (Pd.wipe (lendAll ψ1) vs) (xs.drop (i + 1)) acc g5 (fun acc g => Q' (.own (.lst acc)) ψ1 g) := q5
      exact ⟨hlt, g5, acc, q5'.1, q5'.2, R3.unlent R5 (k4.trans k5), ((k2.trans k3).trans k4).trans k5⟩
    | true =>
      have q5' : te noX ψ5 g5 fun r ψ3 g => toD r ψ3 g fun d _ g => ok ψ1 g ∧ acc.length < most ∧ compL tg tt te ok ψ1 (Pd.wipe (lendAll ψ1) vs) (xs.drop (i + 1)) (acc ++ [d]) g (fun acc g => Q' (.own (.lst acc)) ψ1 g) := q5
      refine he noX _ [] ψ5 g5 σ4 H5 _ _ R5 ExOk.none q5' fun r ψ6 g6 T6 y H6 q6 rr R6 k6 => ?_
      obtain ⟨d, ψ7, g7, ⟨ok7, hl7, q7⟩, ry, R7⟩ := R6.toD rr q6
      have R8 := R3.unlent R7 ((k4.trans k5).trans k6)
      obtain ⟨ws, h1, h2⟩ : RO (bx X tb) H6 (.lst acc) D := (R8.ow.1 (D, .lst acc) (by simp)).1
      have kw : Keep H6 (L2.upd H6 D (.lst (ws ++ [y]))) := soft_lst h1
      obtain ⟨R9, k9⟩ := R8.writeT (o' := .lst (acc ++ [d])) (w := .lst (ws ++ [y])) ⟨_, upd_same, (h2.append (.cons ry .nil)).keep kw⟩
      exact ⟨ws, h1, by rw [← h2.length, ← most_eq]; exact hl7, hlt, g7, acc ++ [d], ok7, q7, R9, (((((k2.trans k3).trans k4).trans k5).trans k6).trans k9)⟩
  · have e : i = xs.length := by omega
    rw [List.drop_eq_nil_of_le (by omega)] at q2
    exact .inl ⟨tn.2 (by omega), k _ ψ1 g2 _ _ H2 q2 ⟨D, rfl, rfl⟩ R2.midT (k1.trans k2)⟩
theorem de_comp {elt tg iter : Expr} {ifs : List Expr} {scope : Scope} (own : List (Str × Nat)) {S St : List Nat} {it : WI} {gt : WG} {tt : WT} (hN : X.N.Nodup) (hi : DI X tb tg iter S it)
    (hg : ∀ (s : Shared) (H : Hp) (C : Addr) (cl : List (Str × Addr)) (fp : List Addr), DG (X.blk s H scope (compEnvC scope cl C X.env) fp) tb tg St gt)
    (ht : ∀ (s : Shared) (H : Hp) (C : Addr) (cl : List (Str × Addr)) (fp : List Addr), DTs (X.blk s H scope (compEnvC scope cl C X.env) fp) tb ifs tt)
    (he : ∀ (s : Shared) (H : Hp) (C : Addr) (cl : List (Str × Addr)) (fp : List Addr), DE (X.blk s H scope (compEnvC scope cl C X.env) fp) tb elt te)
    (ok : blkC X.N X.env.scope scope own = true := by rfl) (hc : X.calm = true := by rfl) (hv : ∀ j ∈ St, j ∈ own.map (·.2) := by decide) (hs : ∀ x, foldedSetIterable iter X.env x = pure x := by intro _; rfl) :
    DE X tb (.ListComp elt [⟨tg, iter, ifs, 0⟩] scope pos) (eComp (own.map (·.2)) it gt tt te) := fun W tk => by
  obtain ⟨wi, h1, h2⟩ := hi W tk
  obtain ⟨g0, h3, h4⟩ := uni_g (X := X) (ι := Shared × Hp × Addr × List (Str × Addr) × List Addr) (Y := fun i => X.blk i.1 i.2.1 scope (compEnvC scope i.2.2.2.1 i.2.2.1 X.env) i.2.2.2.2) (fun _ => rfl) (fun _ => rfl) fun i => hg _ _ _ _ _
  obtain ⟨t1, h5, h6⟩ := uni_t (X := X) (ι := Shared × Hp × Addr × List (Str × Addr) × List Addr) (Y := fun i => X.blk i.1 i.2.1 scope (compEnvC scope i.2.2.2.1 i.2.2.1 X.env) i.2.2.2.2) (fun _ => rfl) fun i => ht _ _ _ _ _
  obtain ⟨t2, h7, h8⟩ := uni_e (X := X) (ι := Shared × Hp × Addr × List (Str × Addr) × List Addr) (Y := fun i => X.blk i.1 i.2.1 scope (compEnvC scope i.2.2.2.1 i.2.2.1 X.env) i.2.2.2.2) (fun _ => rfl) fun i => he _ _ _ _ _
  exact ⟨_, pe_lc hc hN h1 (blkOk_by ok) (fun s H C cl fp => h3 (s, H, C, cl, fp)) (fun s H C cl fp => h5 (s, H, C, cl, fp)) (fun s H C cl fp => h7 (s, H, C, cl, fp)) hs, ref_lc h2 h4 h6 h8 hv⟩
end
end Pd
set_option Elab.async false
set_option linter.all false
set_option maxRecDepth 100000
set_option maxHeartbeats 1000000
namespace Pd
open PySem PySem.Spec PyProof.Rows L2
def RetR (B : Bx) (F : Own) (r : Pd.R) (v : V) (g : G) (H : Hp) : Prop := match r with
  | .d x => RV B.K H x v ∧ Glob B g H ∧ Owns B g F H
  | .own o => ∃ a, v = .ref a ∧ Glob B g H ∧ Owns B g ((a, o) :: F) H
  | .sl _ => False
abbrev SameS (S : List Nat) (σ σ1 : L2.St) : Prop := ∀ j, j ∉ S → σ1[j]? = σ[j]?
structure Outs (B : Bx) (Dn : Pd.Ends) (E : L2.Ends) (F T : Own) (σ : L2.St) (H : Hp) (S : List Nat) : Prop where
  nx : ∀ ψ1 g1 σ1 H1, Dn.nx ψ1 g1 → Rel B F ψ1 g1 T σ1 H1 → Keep H H1 → SameS S σ σ1 → E.nx σ1 H1
  rt : ∀ r g1 v H1, Dn.rt r g1 → RetR B F r v g1 H1 → Keep H H1 → E.rt v H1
  bk : ∀ ψ1 g1 σ1 H1, Dn.bk ψ1 g1 → Rel B F ψ1 g1 T σ1 H1 → Keep H H1 → SameS S σ σ1 → E.bk σ1 H1
  ct : ∀ ψ1 g1 σ1 H1, Dn.ct ψ1 g1 → Rel B F ψ1 g1 T σ1 H1 → Keep H H1 → SameS S σ σ1 → E.ct σ1 H1
section
variable {X : Cx} {tb : Tb} {e a b c : Expr} {es : List Expr} {te ta u v : WE} {ts : WD} {as : WA} {pos apos : Pos}
section
variable {B : Bx} {Dn : Pd.Ends} {E : L2.Ends} {F T : Own} {σ σ1 : L2.St} {H H1 : Hp} {S S' : List Nat}
theorem SameS.trans {σ2 : L2.St} (h : SameS S σ σ1) (h' : SameS S σ1 σ2) : SameS S σ σ2 := fun j hj => (h' j hj).trans (h j hj)
theorem SameS.sub (h : SameS S σ σ1) (s : ∀ j ∈ S, j ∈ S') : SameS S' σ σ1 := fun j hj => h j fun z => hj (s j z)
theorem Outs.at (o : Outs B Dn E F T σ H S) (k : Keep H H1) (e : SameS S σ σ1) : Outs B Dn E F T σ1 H1 S :=
  ⟨fun ψ g τ H2 d R k2 e2 => o.nx ψ g τ H2 d R (k.trans k2) (e.trans e2), fun r g v H2 d R k2 => o.rt r g v H2 d R (k.trans k2),
    fun ψ g τ H2 d R k2 e2 => o.bk ψ g τ H2 d R (k.trans k2) (e.trans e2), fun ψ g τ H2 d R k2 e2 => o.ct ψ g τ H2 d R (k.trans k2) (e.trans e2)⟩
theorem Outs.sub (o : Outs B Dn E F T σ H S') (s : ∀ j ∈ S, j ∈ S') : Outs B Dn E F T σ H S :=
  ⟨fun ψ g τ H2 d R k2 e2 => o.nx ψ g τ H2 d R k2 (e2.sub s), o.rt, fun ψ g τ H2 d R k2 e2 => o.bk ψ g τ H2 d R k2 (e2.sub s), fun ψ g τ H2 d R k2 e2 => o.ct ψ g τ H2 d R k2 (e2.sub s)⟩
theorem Outs.keep (o : Outs B Dn E F T σ H S) (k : Keep H H1) : Outs B Dn E F T σ H1 S := o.at k fun _ _ => rfl
end
/-- exceptions are taken at whatever the written slots hold by then -/
def ExS (B : Bx) (ec : String → Option Addr) (W : WX) (E : EX) (F T : Own) (S : List Nat) (σ : L2.St) (H0 : Hp) : Prop := ∀ σ1, SameS S σ σ1 → ExOk B ec W E F T σ1 H0
section
variable {B : Bx} {ec : String → Option Addr} {W : WX} {E : EX} {F T T' : Own} {S S' : List Nat} {σ σ1 : L2.St} {H0 H1 : Hp}
theorem ExS.now (h : ExS B ec W E F T S σ H0) : ExOk B ec W E F T σ H0 := h σ fun _ _ => rfl
theorem ExS.more (h : ExS B ec W E F T S σ H0) (k : Keep H0 H1) : ExS B ec W E F (T' ++ T) S σ H1 := fun τ e => (h τ e).more k
theorem ExS.on (h : ExS B ec W E F T S σ H0) (k : Keep H0 H1) : ExS B ec W E F T S σ H1 := fun τ e => (h τ e).on k
theorem ExS.at (h : ExS B ec W E F T S σ H0) (e : SameS S σ σ1) : ExS B ec W E F T S σ1 H0 := fun τ e' => h τ (e.trans e')
theorem ExS.sub (h : ExS B ec W E F T S' σ H0) (s : ∀ j ∈ S, j ∈ S') : ExS B ec W E F T S σ H0 := fun τ e => h τ (e.sub s)
end
def RefS (X : Cx) (tb : Tb) (W : WX) (S : List Nat) (s : WS) (t : TS) : Prop := ∀ (Dn : Pd.Ends) (E : L2.Ends) (F T : Own) (ψ : Psi) (g : G) (σ : L2.St) (H : Hp),
  Rel (bx X tb) F ψ g T σ H → ExS (bx X tb) tb.ec W Dn.ex F T S σ H → Outs (bx X tb) Dn E F T σ H S → s Dn ψ g → t E σ H
def DSt (X : Cx) (tb : Tb) (st : Stmt) (S : List Nat) (s : WS) : Prop := ∀ W : WX, Takes X W → ∃ t0, PS X st t0 ∧ RefS X tb W S s t0
def DSs (X : Cx) (tb : Tb) (st : List Stmt) (S : List Nat) (s : WS) : Prop := ∀ W : WX, Takes X W → ∃ t0, PSs X st t0 ∧ RefS X tb W S s t0
theorem refS_next {W : WX} : RefS X tb W [] sNx tNext := fun Dn E F T ψ g σ H R ex o q => o.nx ψ g σ H q R (Keep.refl H) fun _ _ => rfl
variable {st : Stmt} {rest : List Stmt} {s1 s2 : WS} {S S' : List Nat}
theorem dss_nil : DSs X tb [] [] sNx := fun W tk => ⟨_, pss_nil, refS_next⟩
theorem dss_one (h : DSt X tb st S s1) : DSs X tb [st] S s1 := fun W tk => let ⟨_, h1, h2⟩ := h W tk; ⟨_, pss_one h1, h2⟩
theorem dss_cons (h : DSt X tb st S s1) (h' : DSs X tb rest S' s2) : DSs X tb (st :: rest) (S ++ S') (sSeq s1 s2) := fun W tk => by
  obtain ⟨t1, h1, h2⟩ := h W tk
  obtain ⟨t2, h3, h4⟩ := h' W tk
  refine ⟨_, pss_cons h1 h3, fun Dn E F T ψ g σ H R ex o q => ?_⟩
  have m1 : ∀ j ∈ S, j ∈ S ++ S' := fun j hj => List.mem_append_left _ hj
  have m2 : ∀ j ∈ S', j ∈ S ++ S' := fun j hj => List.mem_append_right _ hj
  refine h2 { Dn with nx := s2 Dn } { E with nx := t2 E } F T ψ g σ H R (ex.sub m1) ⟨fun ψ1 g1 σ1 H1 q1 R1 k1 e1 => ?_, o.rt, (o.sub m1).bk, (o.sub m1).ct⟩ q
  exact h4 Dn E F T ψ1 g1 σ1 H1 R1 (((ex.on k1).at (SameS.sub e1 m1)).sub m2) ((o.at k1 (SameS.sub e1 m1)).sub m2) q1
theorem ds_expr (h : DE X tb e te) (hs : swapsWith e none pos.line X.env = pure false := by rfl) : DSt X tb (.Expr e pos) [] (sE te) := fun W tk => by
  obtain ⟨t1, h1, h2⟩ := h W tk
  refine ⟨_, ps_expr h1 hs, fun Dn E F T ψ g σ H R ex o q => h2 Dn.ex F T ψ g σ H _ _ R ex.now q fun r ψ1 g1 T1 v H1 q1 rr R1 k1 => ?_⟩
  obtain ⟨T', rfl⟩ := rr.suffix
  exact o.nx ψ1 g1 σ H1 q1 R1.dropT k1 fun _ _ => rfl
/-! ### stores -/
theorem rel_bind {B : Bx} {F T T1 : Own} {ψ : Psi} {g : G} {σ : L2.St} {H : Hp} {r : Pd.R} {v : V} {i : Nat} {k : Psi → G → Prop} (R : Rel B F ψ g T1 σ H) (rr : RR B r v T T1 σ H) (q : bind i r ψ g k) :
    ∃ ψ1 g1, k ψ1 g1 ∧ Rel B F ψ1 g1 T (σ.set i (some v)) H := by
  cases r with
  | d x =>
    obtain ⟨rx, rfl⟩ := rr
    exact ⟨_, _, q, R.setD rx⟩
  | own o =>
    obtain ⟨a, rfl, rfl⟩ := rr
    refine ⟨_, _, q, ?_⟩
    by_cases hi : i < ψ.length
    · exact R.setOwn hi
    · rw [List.set_eq_of_length_le (Nat.le_of_not_lt hi), List.set_eq_of_length_le (by rw [← R.len]; exact Nat.le_of_not_lt hi)]
      exact R.drop1
  | sl j =>
    obtain ⟨hσ, rfl⟩ := rr
    have q' : (match ψ[j]? with | some (some (.d x)) => k (ψ.set i (some (.d x))) g | some (some (.bor o)) => k (ψ.set i (some (.bor o))) g | some (some (.own o)) => ∀ p, g p = none → k ((ψ.set j (some (.d (.ref p)))).set i (some (.d (.ref p)))) (g.upd p o) | _ => False) := q
    cases hs : ψ[j]? with
    | none => rw [hs] at q'; exact q'.elim
    | some s =>
      cases s with
      | none => rw [hs] at q'; exact q'.elim
      | some s =>
        rw [hs] at q'
        obtain ⟨w, h1, h2⟩ := R.sl j s hs
        rw [hσ] at h1; cases h1
        cases s with
        | d x => exact ⟨_, _, q', R.setD h2⟩
        | bor o =>
          obtain ⟨a, rfl, hF⟩ := h2
          exact ⟨_, _, q', R.setBor hF⟩
        | fz kvs => exact q'.elim
        | own o =>
          obtain ⟨a, h3, ga, R'⟩ := R.giveS hs
          rw [hσ] at h3; cases h3
          exact ⟨_, _, q' a ga, R'.setD (.ref a)⟩
theorem same_set {σ : L2.St} {i : Nat} {w : Option V} : SameS [i] σ (σ.set i w) := fun j hj => List.getElem?_set_ne fun z => hj (by rw [z]; exact List.mem_singleton.mpr rfl)
theorem refS_set {W : WX} {i : Nat} {t0 : TE} (h : RefE X tb W te t0) : RefS X tb W [i] (sSet i te) (tAsg t0 (L2.gName i)) := fun Dn E F T ψ g σ H R ex o q => h Dn.ex F T ψ g σ H _ _ R ex.now q fun r ψ1 g1 T1 v H1 q1 rr R1 k1 => by
  obtain ⟨ψ2, g2, q2, R2⟩ := rel_bind R1 rr q1
  exact o.nx ψ2 g2 _ H1 q2 R2 k1 same_set
theorem ds_set (i : Nat) {x : Str} {p : Pos} (hN : X.N.Nodup) (h : DE X tb e te) (hi : X.N[i]? = some x := by rfl) (hx : Loc X.env.scope x := by first | exact Or.inl rfl | exact Or.inr rfl) (hs : swapsWith e (some (.Name x p)) pos.line X.env = pure false := by rfl)
    (hf : X.fn x = true ∨ X.env.scope.names.lookup x = some .local := by first | exact .inl rfl | exact .inr rfl) : DSt X tb (.Assign [.Name x p] e pos) [i] (sSet i te) := fun W tk => by
  obtain ⟨t1, h1, h2⟩ := h W tk
  exact ⟨_, ps_set hN hi hx h1 hs hf, refS_set h2⟩
/-- a name gets a comprehension that stands in the same row -/
theorem ds_setC (i : Nat) {x : Str} {p sp : Pos} {elt tg iter : Expr} {ifs : List Expr} {scope : Scope} (own : List (Str × Nat)) {SI St : List Nat} {it : WI} {gt : WG} {tt : WT} (hN : X.N.Nodup) (hi : DI X tb tg iter SI it)
    (hg : ∀ (s : Shared) (H : Hp) (C : Addr) (cl : List (Str × Addr)) (fp : List Addr), DG (X.blk s H scope (compEnvC scope cl C X.env) fp) tb tg St gt)
    (ht : ∀ (s : Shared) (H : Hp) (C : Addr) (cl : List (Str × Addr)) (fp : List Addr), DTs (X.blk s H scope (compEnvC scope cl C X.env) fp) tb ifs tt)
    (he : ∀ (s : Shared) (H : Hp) (C : Addr) (cl : List (Str × Addr)) (fp : List Addr), DE (X.blk s H scope (compEnvC scope cl C X.env) fp) tb elt te)
    (hx : X.N[i]? = some x := by rfl) (hxl : X.env.scope.names.lookup x = some .local := by rfl)
    (hsw : swapsWith (.ListComp elt [⟨tg, iter, ifs, 0⟩] scope pos) (some (.Name x p)) sp.line X.env = pure true := by exact sw_true rfl rfl rfl rfl)
    (ok : blkC X.N X.env.scope scope own = true := by rfl) (hc : X.calm = true := by rfl) (hv : ∀ j ∈ St, j ∈ own.map (·.2) := by decide) (hs : ∀ x, foldedSetIterable iter X.env x = pure x := by intro _; rfl) :
    DSt X tb (.Assign [.Name x p] (.ListComp elt [⟨tg, iter, ifs, 0⟩] scope pos) sp) [i] (sSet i (eComp (own.map (·.2)) it gt tt te)) := fun W tk => by
  obtain ⟨wi, h1, h2⟩ := hi W tk
  obtain ⟨g0, h3, h4⟩ := uni_g (X := X) (ι := Shared × Hp × Addr × List (Str × Addr) × List Addr) (Y := fun i => X.blk i.1 i.2.1 scope (compEnvC scope i.2.2.2.1 i.2.2.1 X.env) i.2.2.2.2) (fun _ => rfl) (fun _ => rfl) fun i => hg _ _ _ _ _
  obtain ⟨t1, h5, h6⟩ := uni_t (X := X) (ι := Shared × Hp × Addr × List (Str × Addr) × List Addr) (Y := fun i => X.blk i.1 i.2.1 scope (compEnvC scope i.2.2.2.1 i.2.2.1 X.env) i.2.2.2.2) (fun _ => rfl) fun i => ht _ _ _ _ _
  obtain ⟨t2, h7, h8⟩ := uni_e (X := X) (ι := Shared × Hp × Addr × List (Str × Addr) × List Addr) (Y := fun i => X.blk i.1 i.2.1 scope (compEnvC scope i.2.2.2.1 i.2.2.1 X.env) i.2.2.2.2) (fun _ => rfl) fun i => he _ _ _ _ _
  exact ⟨_, ps_setLc hc hN hx hxl hsw h1 (blkOk_by ok) (fun s H C cl fp => h3 (s, H, C, cl, fp)) (fun s H C cl fp => h5 (s, H, C, cl, fp)) (fun s H C cl fp => h7 (s, H, C, cl, fp)) hs, refS_set (ref_lc h2 h4 h6 h8 hv)⟩
/-- a, b = e -/
theorem ds_unp {tg : Expr} {gt : WG} (hg : DG X tb tg S gt) (h : DE X tb e te) (hs : swapsWithSole [tg] e pos.line X.env = pure false := by rfl) (hw : swappedStores [tg] e X.env = pure none := by rfl)
    (h1 : (assignEach [tg] X.env).map (·.2) = [assign tg X.env] := by rfl) : DSt X tb (.Assign [tg] e pos) S (sUnp gt te) := fun W tk => by
  obtain ⟨t1, h2, h3⟩ := h W tk
  obtain ⟨g0, h4, h5⟩ := hg
  refine ⟨_, ps_asg h2 h4 hs hw h1, fun Dn E F T ψ g σ H R ex o q => h3 Dn.ex F T ψ g σ H _ _ R ex.now q fun r ψ1 g1 T1 v H1 q1 rr R1 k1 => ?_⟩
  obtain ⟨x, ψ2, g2, q2, rx, R2⟩ := R1.toD rr q1
  exact h5 F T ψ2 g2 σ H1 x v _ _ R2 rx q2 fun ψ3 g3 σ3 H3 q3 R3 k3 e3 l3 => o.nx ψ3 g3 σ3 H3 q3 R3 (k1.trans k3) e3
/-! ### if, return -/
theorem ds_if {t : WT} {a b : List Stmt} (hc : DT X tb c t) (ha : DSs X tb a S s1) (hb : DSs X tb b S' s2) : DSt X tb (.If c a b pos) (S ++ S') (sIf t s1 s2) := fun W tk => by
  obtain ⟨t0, h1, h2⟩ := hc W tk
  obtain ⟨t1, h3, h4⟩ := ha W tk
  obtain ⟨t2, h5, h6⟩ := hb W tk
  refine ⟨_, ps_if h1 h3 h5, fun Dn E F T ψ g σ H R ex o q => h2 Dn.ex F T ψ g σ H _ _ R ex.now q fun b ψ1 g1 H1 q1 R1 k1 => ?_⟩
  cases b with
  | true => exact h4 Dn E F T ψ1 g1 σ H1 R1 ((ex.on k1).sub fun j hj => List.mem_append_left _ hj) ((o.keep k1).sub fun j hj => List.mem_append_left _ hj) q1
  | false => exact h6 Dn E F T ψ1 g1 σ H1 R1 ((ex.on k1).sub fun j hj => List.mem_append_right _ hj) ((o.keep k1).sub fun j hj => List.mem_append_right _ hj) q1
theorem rel_ret {B : Bx} {F T T1 : Own} {ψ : Psi} {g : G} {σ : L2.St} {H : Hp} {r : Pd.R} {v : V} {k : R → G → Prop} (R : Rel B F ψ g T1 σ H) (rr : RR B r v T T1 σ H) (q : retR r ψ g fun r g => ∃ g2, G.le g2 g ∧ k r g2) :
    ∃ r' g', k r' g' ∧ RetR B F r' v g' H := by
  have subF : ∀ {g2 : G} {T : Own}, Rel B F ψ g2 T σ H → Owns B g2 F H := fun {g2 T} R2 => R2.ow.sub ((List.sublist_append_right _ _).trans (List.sublist_append_right _ _))
  cases r with
  | d x =>
    obtain ⟨g2, hl, q2⟩ := q
    exact ⟨_, g2, q2, rr.1, (R.le hl).gl, subF (R.le hl)⟩
  | own o =>
    obtain ⟨a, rfl, rfl⟩ := rr
    obtain ⟨g2, hl, q2⟩ := q
    refine ⟨_, g2, q2, a, rfl, (R.le hl).gl, (R.le hl).ow.sub ?_⟩
    refine List.Sublist.trans ?_ (List.sublist_append_right _ _)
    exact (List.sublist_append_right T F).cons₂ (a, o)
  | sl i =>
    obtain ⟨hσ, rfl⟩ := rr
    have q' : (match ψ[i]? with | some (some (.d x)) => ∃ g2, G.le g2 g ∧ k (.d x) g2 | some (some (.own o)) => ∃ g2, G.le g2 g ∧ k (.own o) g2 | _ => False) := q
    split at q'
    · rename_i x e
      obtain ⟨w, h1, h2⟩ := R.sl i _ e
      rw [hσ] at h1; cases h1
      obtain ⟨g2, hl, q2⟩ := q'
      exact ⟨_, g2, q2, h2, (R.le hl).gl, subF (R.le hl)⟩
    · rename_i o e
      obtain ⟨g2, hl, q2⟩ := q'
      obtain ⟨a, L, h1, h2, _⟩ := (R.le hl).ownAt e
      rw [hσ] at h1; cases h1
      refine ⟨_, g2, q2, a, rfl, (R.le hl).gl, ((R.le hl).ow.perm h2).sub (List.Sublist.cons₂ (a, o) ?_)⟩
      exact (List.sublist_append_right _ _).trans (List.sublist_append_right _ _)
    · exact q'.elim
theorem ds_ret (h : DE X tb e te) : DSt X tb (.Return (some e) pos) [] (sRet te) := fun W tk => by
  obtain ⟨t1, h1, h2⟩ := h W tk
  refine ⟨_, ps_ret h1, fun Dn E F T ψ g σ H R ex o q => h2 Dn.ex F T ψ g σ H _ _ R ex.now q fun r ψ1 g1 T1 v H1 q1 rr R1 k1 => ?_⟩
  obtain ⟨r', g', q2, rt⟩ := rel_ret R1 rr q1
  exact o.rt r' g' v H1 q2 rt k1
/-! ### loops -/
theorem ds_while {t : WT} {body : List Stmt} (hp : PassesOwn (model X.prog X.w) X.A X.env X.xe) (hc : DT X tb c t) (hb : DSs X tb body S s1) : DSt X tb (.While c body [] pos) S (sWhile t s1) := fun W tk => by
  obtain ⟨t0, h1, h2⟩ := hc W tk
  obtain ⟨t1, h3, h4⟩ := hb W tk
  refine ⟨_, ps_while hp h1 h3, fun Dn E F T ψ g σ H R ex o q => ?_⟩
  obtain ⟨n, q⟩ := q
  refine ⟨fun m σ' H' => Keep H H' ∧ SameS S σ σ' ∧ ∃ ψ g, whileN t s1 Dn m ψ g ∧ Rel (bx X tb) F ψ g T σ' H', ⟨n, Keep.refl H, fun _ _ => rfl, ψ, g, q, R⟩, ?_⟩
  rintro m σ' H' ⟨k1, e1, ψ1, g1, q1, R1⟩
  cases m with
  | zero => exact q1.elim
  | succ m =>
    refine h2 Dn.ex F T ψ1 g1 σ' H' _ _ R1 ((ex.on k1).at e1).now q1 fun b ψ2 g2 H2 q2 R2 k2 => ?_
    cases b with
    | false => exact o.nx ψ2 g2 σ' H2 q2 R2 (k1.trans k2) e1
    | true =>
      refine ⟨fun σ'' H'' => Keep H H'' ∧ SameS S σ σ'' ∧ ∃ ψ g, whileN t s1 Dn m ψ g ∧ Rel (bx X tb) F ψ g T σ'' H'', fun σ'' H'' w => ⟨m, Nat.lt_succ_self m, w⟩, ?_⟩
      have o2 := o.at (k1.trans k2) e1
      refine h4 { Dn with nx := fun ψ' g' => ∃ g2, G.le g2 g' ∧ whileN t s1 Dn m ψ' g2, ct := fun ψ' g' => ∃ g2, G.le g2 g' ∧ whileN t s1 Dn m ψ' g2, bk := Dn.nx } _ F T ψ2 g2 σ' H2 R2 ((ex.on (k1.trans k2)).at e1) ⟨fun ψ3 g3 σ3 H3 q3 R3 k3 e3 => ?_, o2.rt, o2.nx, fun ψ3 g3 σ3 H3 q3 R3 k3 e3 => ?_⟩ q2
      · obtain ⟨g4, hl, w⟩ := q3
        exact ⟨(k1.trans k2).trans k3, e1.trans e3, ψ3, g4, w, R3.le hl⟩
      · obtain ⟨g4, hl, w⟩ := q3
        exact ⟨(k1.trans k2).trans k3, e1.trans e3, ψ3, g4, w, R3.le hl⟩
theorem ds_for {tg iter : Expr} {gt : WG} {it : WI} {SI SG : List Nat} {body : List Stmt} (hp : PassesOwn (model X.prog X.w) X.A X.env X.xe) (hi : DI X tb tg iter SI it) (hg : DG X tb tg SG gt) (hb : DSs X tb body S s1)
    (hd : (SI.all fun j => !(SG ++ S).contains j) = true := by rfl) (hc : X.calm = true := by rfl) (hs : ∀ x, foldedSetIterable iter X.env x = pure x := by intro _; rfl) : DSt X tb (.For tg iter body [] pos) (SG ++ S) (sFor it gt s1) := fun W tk => by
  obtain ⟨wi, h1, h2⟩ := hi W tk
  obtain ⟨g0, h3, h4⟩ := hg
  obtain ⟨t1, h5, h6⟩ := hb W tk
  have apart : ∀ j ∈ SI, j ∉ SG ++ S := fun j hj z => by
    have := List.all_eq_true.mp hd j hj
    rw [Bool.not_eq_true', List.contains_eq_mem, decide_eq_false_iff_not] at this
    exact this z
  refine ⟨_, ps_for hp hc h1 h3 h5 hs, fun Dn E F T ψ g σ H R ex o q => h2 Dn.ex F T ψ g σ H _ _ R ex.now q fun xs ok ψ1 g1 T' J H1 q1 ok1 R1 k1 io => ?_⟩
  refine ⟨fun i m σ' H' => m = xs.length - i ∧ i ≤ xs.length ∧ Keep H1 H' ∧ SameS (SG ++ S) σ σ' ∧ ∃ ψ g, ok ψ g ∧ forL gt s1 Dn ok (xs.drop i) ψ g ∧ Rel (bx X tb) F ψ g (T' ++ T) σ' H',
    ⟨_, rfl, Nat.zero_le _, Keep.refl H1, fun _ _ => rfl, ψ1, g1, ok1, q1, R1⟩, ?_⟩
  rintro i m σ' H' ⟨rfl, hl, k2, e2, ψ2, g2, ok2, q2, R2⟩
  have tn := io.turn i ψ2 g2 [] σ' H' ok2 R2 (fun j hj => e2 j (apart j hj)) k2
  by_cases hlt : i < xs.length
  · have hx : xs[i]? = some xs[i] := List.getElem?_eq_getElem hlt
    rw [List.drop_eq_getElem_cons hlt] at q2
    refine .inr ⟨(tn.1 _ hx).1, fun σ'' H'' => i + 1 ≤ xs.length ∧ Keep H1 H'' ∧ SameS (SG ++ S) σ σ'' ∧ ∃ ψ g, ok ψ g ∧ forL gt s1 Dn ok (xs.drop (i + 1)) ψ g ∧ Rel (bx X tb) F ψ g (T' ++ T) σ'' H'',
      fun σ'' H'' w => ⟨xs.length - (i + 1), by omega, rfl, w⟩, fun v H3 y => ?_⟩
    obtain ⟨rv, R3, k3⟩ := (tn.1 _ hx).2 v H3 y
    have R3' : Rel (bx X tb) F ψ2 g2 (T' ++ T) σ' H3 := R3
    refine h4 F (T' ++ T) ψ2 g2 σ' H3 xs[i] v _ _ R3' rv q2 fun ψ4 g4 σ4 H4 q4 R4 k4 e4 _ => ?_
    have kk := (k2.trans k3).trans k4
    have e4' : SameS (SG ++ S) σ σ4 := e2.trans (SameS.sub e4 fun j hj => List.mem_append_left _ hj)
    have o4 := o.at (k1.trans kk) e4'
    have again : ∀ ψ5 g5 σ5 H5, (∃ g2, G.le g2 g5 ∧ ok ψ5 g2 ∧ forL gt s1 Dn ok (xs.drop (i + 1)) ψ5 g2) → Rel (bx X tb) F ψ5 g5 (T' ++ T) σ5 H5 → Keep H4 H5 → SameS S σ4 σ5 →
        i + 1 ≤ xs.length ∧ Keep H1 H5 ∧ SameS (SG ++ S) σ σ5 ∧ ∃ ψ g, ok ψ g ∧ forL gt s1 Dn ok (xs.drop (i + 1)) ψ g ∧ Rel (bx X tb) F ψ g (T' ++ T) σ5 H5 := fun ψ5 g5 σ5 H5 ⟨g6, hle, ok6, w6⟩ R5 k5 e5 =>
      ⟨hlt, kk.trans k5, e4'.trans (SameS.sub e5 fun j hj => List.mem_append_right _ hj), ψ5, g6, ok6, w6, R5.le hle⟩
    refine h6 { Dn with nx := fun ψ' g' => ∃ g2, G.le g2 g' ∧ ok ψ' g2 ∧ forL gt s1 Dn ok (xs.drop (i + 1)) ψ' g2, ct := fun ψ' g' => ∃ g2, G.le g2 g' ∧ ok ψ' g2 ∧ forL gt s1 Dn ok (xs.drop (i + 1)) ψ' g2, bk := Dn.nx } _ F (T' ++ T) ψ4 g4 σ4 H4 R4 (((ex.more (k1.trans kk)).at e4').sub fun j hj => List.mem_append_right _ hj) ⟨again, fun r g5 v5 H5 q5 R5 k5 => o4.rt r g5 v5 H5 q5 R5 k5, fun ψ5 g5 σ5 H5 q5 R5 k5 e5 => ?_, again⟩ q4
    exact o4.nx ψ5 g5 σ5 H5 q5 R5.dropT k5 (SameS.sub e5 fun j hj => List.mem_append_right _ hj)
  · rw [List.drop_eq_nil_of_le (by omega)] at q2
    exact .inl ⟨tn.2 (by omega), o.nx ψ2 g2 σ' H' q2 R2.dropT (k1.trans k2) e2⟩
end
end Pd
set_option Elab.async false
set_option linter.all false
set_option maxRecDepth 100000
set_option maxHeartbeats 1000000
namespace Pd
open PySem PySem.Spec PyProof.Rows L2
/-- a promise over trees, as one over values -/
def lift (B : Bx) (ec : String → Option Addr) (φ : SpD) : Sp := fun vs H Q E => ∃ (ss : List Sl) (g : G) (F : Own), Paired (SlRel B F H) ss vs ∧ (∀ s ∈ ss, ∀ o, s ≠ .own o) ∧ Glob B g H ∧ Owns B g F H ∧
  φ ss g (fun x g' => ∀ cls dx H', Glob B g' H' → Owns B g' F H' → RX ec B.K x cls dx H' → Keep H H' → E cls dx H') (fun r g' => ∀ v H', RetR B F r v g' H' → Keep H H' → Q v H')
section
variable {B : Bx} {F T T1 : Own} {ψ : Psi} {g : G} {σ : L2.St} {H H' : Hp}
theorem Rel.permT {T' : Own} (R : Rel B F ψ g T σ H) (p : T.Perm T') : Rel B F ψ g T' σ H :=
  ⟨R.len, R.sl, R.gl, R.ow.perm (List.Perm.append_left _ (p.append_right F))⟩
theorem Rel.back {T0 : Own} {g' : G} (R : Rel B F ψ g T σ H) (gl : Glob B g' H') (ow : Owns B g' (T0 ++ (ownL ψ σ ++ (T ++ F))) H') (k : Keep H H') : Rel B F ψ g' (T0 ++ T) σ H' := by
  refine ⟨R.len, fun i s h => let ⟨v, h1, h2⟩ := R.sl i s h; ⟨v, h1, h2.keep k⟩, gl, ow.perm ?_⟩
  rw [List.append_assoc T0 T F]
  exact List.perm_append_comm_assoc _ _ _
/-- an argument's answer -/
def IR (B : Bx) (σ : L2.St) (H : Hp) : Pd.R → V → Prop
  | .d x, v => RV B.K H x v
  | .own _, v => ∃ a, v = .ref a
  | .sl i, v => σ[i]? = some (some v)
def temps : List R → List V → Own
  | .own o :: rs, .ref a :: vs => (a, o) :: temps rs vs
  | _ :: rs, _ :: vs => temps rs vs
  | _, _ => []
def IK (B : Bx) (σ : L2.St) (H : Hp) (Tk : Own) : Pd.R → V → Prop
  | .d x, v => RV B.K H x v
  | .own o, v => ∃ a, v = .ref a ∧ (a, o) ∈ Tk
  | .sl i, v => σ[i]? = some (some v)
theorem rrs_ir : ∀ {rs : List R} {vs : List V} {T T1 : Own}, RRs B σ H rs vs T T1 → Paired (IR B σ H) rs vs ∧ T1.Perm (temps rs vs ++ T)
  | _, _, _, _, .nil => ⟨.nil, List.Perm.refl _⟩
  | r :: rs, v :: vs, T, T1, .cons h t => by
    obtain ⟨h1, h2⟩ := rrs_ir t
    cases r with
    | d x =>
      obtain ⟨rx, rfl⟩ := h
      exact ⟨.cons rx h1, h2⟩
    | sl i =>
      obtain ⟨rx, rfl⟩ := h
      exact ⟨.cons rx h1, h2⟩
    | own o =>
      obtain ⟨a, rfl, rfl⟩ := h
      exact ⟨.cons ⟨a, rfl⟩ h1, h2.trans List.perm_middle⟩
theorem IK.mono {Tk Tk' : Own} (h : ∀ p ∈ Tk, p ∈ Tk') {r : Pd.R} {v : V} (q : IK B σ H Tk r v) : IK B σ H Tk' r v := by
  cases r with
  | d x => exact q
  | sl i => exact q
  | own o => obtain ⟨a, e, m⟩ := q; exact ⟨a, e, h _ m⟩
theorem give_ok : ∀ (rs : List R) (ms : List Bool) (vs : List V) (Tk : Own) (ψ : Psi) (g : G) (k : List R → Psi → G → Prop), Paired (IR B σ H) rs vs → Rel B F ψ g (Tk ++ (temps rs vs ++ T)) σ H → giveAll ms rs ψ g k →
    ∃ rs' ψ1 g1 Tk', k rs' ψ1 g1 ∧ Paired (IK B σ H Tk') rs' vs ∧ Rel B F ψ1 g1 (Tk' ++ T) σ H ∧ ∀ p ∈ Tk, p ∈ Tk'
  | [], ms, _, Tk, ψ, g, k, .nil, R, q => by
    refine ⟨[], ψ, g, Tk, ?_, .nil, R, fun _ h => h⟩
    cases ms <;> exact q
  | r :: rs, [], _, Tk, ψ, g, k, .cons h t, R, q => q.elim
  | r :: rs, true :: ms, v :: vs, Tk, ψ, g, k, .cons h t, R, q => by
    have q' : toD r ψ g fun x ψ g => giveAll ms rs ψ g fun rs ψ g => k (.d x :: rs) ψ g := q
    have fin : ∀ {x : D} {ψ2 : Psi} {g2 : G}, RV B.K H x v → Rel B F ψ2 g2 (Tk ++ (temps rs vs ++ T)) σ H → (giveAll ms rs ψ2 g2 fun rs ψ g => k (.d x :: rs) ψ g) →
        ∃ rs' ψ1 g1 Tk', k rs' ψ1 g1 ∧ Paired (IK B σ H Tk') rs' (v :: vs) ∧ Rel B F ψ1 g1 (Tk' ++ T) σ H ∧ ∀ p ∈ Tk, p ∈ Tk' := fun {x ψ2 g2} rx R2 q2 => by
      obtain ⟨rs', ψ1, g1, Tk', h1, h2, h3, h4⟩ := give_ok rs ms vs Tk ψ2 g2 _ t R2 q2
      exact ⟨.d x :: rs', ψ1, g1, Tk', h1, .cons rx h2, h3, h4⟩
    cases r with
    | d x => exact fin h R q'
    | own o =>
      obtain ⟨a, rfl⟩ := h
      have R2 : Rel B F ψ g ((a, o) :: (Tk ++ (temps rs vs ++ T))) σ H := R.permT List.perm_middle
      obtain ⟨h1, h2⟩ := R2.giveT
      exact fin (.ref a) h2 (q' a h1)
    | sl i =>
      obtain ⟨x, ψ2, g2, h1, h2, h3⟩ := Rel.toD (T := Tk ++ (temps rs vs ++ T)) R (r := .sl i) ⟨h, rfl⟩ q'
      exact fin h2 h3 h1
  | r :: rs, false :: ms, v :: vs, Tk, ψ, g, k, .cons h t, R, q => by
    have q' : giveAll ms rs ψ g fun rs ψ g => k (r :: rs) ψ g := q
    cases r with
    | d x =>
      obtain ⟨rs', ψ1, g1, Tk', h1, h2, h3, h4⟩ := give_ok rs ms vs Tk ψ g _ t R q'
      exact ⟨_, ψ1, g1, Tk', h1, .cons h h2, h3, h4⟩
    | sl i =>
      obtain ⟨rs', ψ1, g1, Tk', h1, h2, h3, h4⟩ := give_ok rs ms vs Tk ψ g _ t R q'
      exact ⟨_, ψ1, g1, Tk', h1, .cons h h2, h3, h4⟩
    | own o =>
      obtain ⟨a, rfl⟩ := h
      have R2 : Rel B F ψ g ((Tk ++ [(a, o)]) ++ (temps rs vs ++ T)) σ H := by rw [List.append_assoc]; exact R
      obtain ⟨rs', ψ1, g1, Tk', h1, h2, h3, h4⟩ := give_ok rs ms vs (Tk ++ [(a, o)]) ψ g _ t R2 q'
      exact ⟨_, ψ1, g1, Tk', h1, .cons ⟨a, rfl, h4 _ (by simp)⟩ h2, h3, fun p hp => h4 p (List.mem_append_left _ hp)⟩
theorem lend_ok (R : Rel B F ψ g T σ H) : ∀ (rs : List Pd.R) (vs : List V) (ss : List Sl), Paired (IK B σ H T) rs vs → lendRs ψ rs = some ss → Paired (SlRel B (ownL ψ σ ++ (T ++ F)) H) ss vs ∧ ∀ s ∈ ss, ∀ o, s ≠ .own o
  | [], _, _, .nil, e => by cases e; exact ⟨.nil, fun _ h => nomatch h⟩
  | r :: rs, v :: vs, ss, .cons h t, e => by
    have e' : (match lendR ψ r, lendRs ψ rs with | some s, some ss => some (s :: ss) | _, _ => none) = some ss := e
    split at e'
    · rename_i s ss' e1 e2
      cases e'
      obtain ⟨h1, h2⟩ := lend_ok R rs vs ss' t e2
      have hd : SlRel B (ownL ψ σ ++ (T ++ F)) H s v ∧ ∀ o, s ≠ .own o := by
        cases r with
        | d x => cases e1; exact ⟨h, fun o z => nomatch z⟩
        | own o =>
          cases e1
          obtain ⟨a, rfl, m⟩ := h
          exact ⟨⟨a, rfl, List.mem_append_right _ (List.mem_append_left _ m)⟩, fun o z => nomatch z⟩
        | sl i =>
          have e3 : (match ψ[i]? with | some (some s) => some (lendS s) | _ => none) = some s := e1
          split at e3
          · rename_i s0 e4
            cases e3
            obtain ⟨w, e5, e6⟩ := R.sl i s0 e4
            have e7 : σ[i]? = some (some v) := h
            rw [e7] at e5; cases e5
            cases s0 with
            | d x => exact ⟨e6, fun o z => nomatch z⟩
            | bor o =>
              obtain ⟨a, rfl, m⟩ := e6
              exact ⟨⟨a, rfl, List.mem_append_right _ (List.mem_append_right _ m)⟩, fun o z => nomatch z⟩
            | own o =>
              obtain ⟨a, L, e8, e9, _⟩ := R.ownAt e4
              rw [e7] at e8; cases e8
              exact ⟨⟨a, rfl, e9.mem_iff.mpr (List.Mem.head _)⟩, fun o z => nomatch z⟩
            | fz kvs => exact ⟨e6, fun o z => nomatch z⟩
          · cases e3
      exact ⟨.cons hd.1 h1, fun s hs => (List.mem_cons.mp hs).elim (fun z => z ▸ hd.2) (h2 s)⟩
    · cases e'
/-- what a callee is handed -/
theorem args_ok {rs : List R} {vs : List V} {ms : List Bool} {k : List Sl → Psi → G → Prop} (rr : RRs B σ H rs vs T T1) (R : Rel B F ψ g T1 σ H) (q : argsSl ms rs ψ g k) :
    ∃ ss ψ1 g1 Tk, k ss ψ1 g1 ∧ Rel B F ψ1 g1 (Tk ++ T) σ H ∧ Paired (SlRel B (ownL ψ1 σ ++ ((Tk ++ T) ++ F)) H) ss vs ∧ ∀ s ∈ ss, ∀ o, s ≠ .own o := by
  obtain ⟨h1, h2⟩ := rrs_ir rr
  obtain ⟨rs', ψ1, g1, Tk, h3, h4, h5, _⟩ := give_ok rs ms vs [] ψ g _ h1 (R.permT h2) q
  obtain ⟨ss, e1, q2⟩ := optQ_inv h3
  obtain ⟨h6, h7⟩ := lend_ok h5 rs' vs ss (L2.Paired.mapP h4 fun _ _ z => IK.mono (fun p hp => List.mem_append_left _ hp) z) e1
  exact ⟨ss, ψ1, g1, Tk, q2, h5, h6, h7⟩
end

section
variable {X : Cx} {tb : Tb} {W : WX}
/-- the callee's promise, asked -/
theorem ask {F T Tk : Own} {ψ : Psi} {g : G} {σ : L2.St} {H : Hp} {ss : List Sl} {vs : List V} {φ : SpD} {E : EX} {Q' : Pd.R → Psi → G → Prop} {Q : VK} (R : Rel (bx X tb) F ψ g (Tk ++ T) σ H) (ex : ExOk (bx X tb) tb.ec W E F T σ H)
    (ps : Paired (SlRel (bx X tb) (ownL ψ σ ++ ((Tk ++ T) ++ F)) H) ss vs) (no : ∀ s ∈ ss, ∀ o, s ≠ .own o) (q : φ ss g (fun x g' => E x ψ g') fun r g' => Q' r ψ g')
    (mono : ∀ (A A' : Pd.X → G → Prop) (C C' : Pd.R → G → Prop), (∀ x g, A x g → A' x g) → (∀ r g, C r g → C' r g) → φ ss g A C → φ ss g A' C')
    (k : ∀ r g1 T1 v H1, Q' r ψ g1 → RR (bx X tb) r v T T1 σ H1 → Rel (bx X tb) F ψ g1 T1 σ H1 → Keep H H1 → Q v H1) : lift (bx X tb) tb.ec φ vs H Q (L2.WE W σ) := by
  refine ⟨ss, g, ownL ψ σ ++ ((Tk ++ T) ++ F), ps, no, R.gl, R.ow, mono _ _ _ _ (fun x g' e cls dx H' gl ow rx kk => ?_) (fun r g' qr v H' rt kk => ?_) q⟩
  · have R2 : Rel (bx X tb) F ψ g' ([] ++ (Tk ++ T)) σ H' := Rel.back (T0 := []) R gl ow kk
    exact ex x ψ g' H' cls dx e (Rel.dropT (T' := Tk) R2) rx kk
  · cases r with
    | sl i => exact rt.elim
    | d x =>
      obtain ⟨rx, gl, ow⟩ := rt
      have R2 : Rel (bx X tb) F ψ g' ([] ++ (Tk ++ T)) σ H' := Rel.back (T0 := []) R gl ow kk
      exact k _ g' T v H' qr ⟨rx, rfl⟩ (Rel.dropT (T' := Tk) R2) kk
    | own o =>
      obtain ⟨a, rfl, gl, ow⟩ := rt
      have R2 : Rel (bx X tb) F ψ g' ([(a, o)] ++ (Tk ++ T)) σ H' := Rel.back (T0 := [(a, o)]) R gl ow kk
      exact k _ g' _ _ H' qr ⟨a, rfl, rfl⟩ (Rel.midT R2) kk

def Mono (φ : SpD) : Prop := ∀ (ss : List Sl) (g : G) (A A' : Pd.X → G → Prop) (C C' : Pd.R → G → Prop), (∀ x g, A x g → A' x g) → (∀ r g, C r g → C' r g) → φ ss g A C → φ ss g A' C'
/-- a def of the module that keeps its promise -/
structure Cal (P : Program) (w : World) (K : PySem.W.Frag) (mg : Str → Option Value) (base : Heap) (tb : Tb) (x : Str) (k : Nat) (φ : SpD) : Prop where
  ex : ∃ (f : Addr) (fd : FuncData) (ps : List Str), FnOk P w K mg base (L2.CX P w) k f fd ps (lift ⟨P, w, K, tb.cl⟩ tb.ec φ) ∧ mg x = some (.ref f) ∧ PySem.W.keepIn K (.ref f) = true ∧ Binds K fd ps []
  mono : Mono φ
structure CalM (P : Program) (w : World) (K : PySem.W.Frag) (mg : Str → Option Value) (base : Heap) (tb : Tb) (c : String) (m : Str) (k : Nat) (φ : SpD) : Prop where
  ex : ∃ (C f : Addr) (fd : FuncData) (ps : List Str), tb.cl c = some C ∧ Cls K C ∧ Meth K C m f ∧ FnOk P w K mg base (L2.CX P w) k f fd ps (lift ⟨P, w, K, tb.cl⟩ tb.ec φ) ∧ Binds K fd ps []
  mono : Mono φ
structure CalN (P : Program) (w : World) (K : PySem.W.Frag) (mg : Str → Option Value) (base : Heap) (tb : Tb) (c : String) (x : Str) (k : Nat) (φ : SpD) : Prop where
  ex : ∃ (C f : Addr) (fd : FuncData) (ps : List Str), tb.cl c = some C ∧ mg x = some (.ref C) ∧ Mk K C f ∧ FnOk P w K mg base (L2.CX P w) k f fd ps (lift ⟨P, w, K, tb.cl⟩ tb.ec φ) ∧ Binds K fd ps []
  mono : Mono φ
variable {e o : Expr} {es : List Expr} {to : WE} {as : WA} {pos apos p : Pos} {x m : Str} {k : Nat} {φ : SpD}
/-! ### calls whose exceptions are taken at the slots as they stand -/
section
variable {f C : Addr} {fd : FuncData} {prs : List Str} {sp : Sp} {E : L2.St → XK} {t0 : TE} {t : TA} {kk : Nat}
def tMethP (C : Addr) (m : Str) (sp : Sp) (E : L2.St → XK) (t0 : TE) (t : TA) : TE := fun σ H Q => t0 σ H fun x H1 => ∃ a dx fs, x = .ref a ∧ H1 a = some (.ins C dx fs) ∧ fs.lookup m = none ∧ t σ H1 fun vs H2 => sp (x :: vs) H2 Q (E σ)
theorem pc_meth {pl : Sem Bool} (he : PE X o t0) (cl : Cls X.K C) (mt : Meth X.K C m f) (Fk : FnOk X.prog X.w X.K X.mg X.base (L2.CX X.prog X.w) kk f fd prs sp) (rm : Room kk X.A) (bd : Binds X.K fd prs []) (px : ∀ σ, PassesAt (L2.CX X.prog X.w) X σ (E σ)) (ha : PA X (e :: es) t)
    (st : starEach (e :: es) X.env = (false, eval e X.env) :: starEach es X.env) (pn : (backTo pos (starEach es X.env)).any (·.1) = false)
    (ev : eval (.Call (.Attribute o m apos) (e :: es) [] pos) X.env = (do let ov ← eval o X.env; standAt apos.atName; let (f, first) ← holding [ov] (getMethod ov m pl); callWith pos f first (backTo pos (starEach (e :: es) X.env)) (backToKw pos (keywordEach [] X.env)))) :
    PE X (.Call (.Attribute o m apos) (e :: es) [] pos) (tMethP C m sp E t0 t) := by
  refine ⟨fun pins s σ H Q I hw => PySem.W.methodCall_KW (pl := pl) (thn (he.run pins s σ H _ I hw) fun u s1 ⟨y, H1, I1, ry, a, dx, fs, ey, ea, ln, q⟩ => ?_) ev⟩
  subst ey
  cases (show u = Value.ref a from ry)
  refine getmeth_ok I1 ea cl mt ln (PySem.W.callWith_K (first := [.ref a]) (h₀ := X.base) I.ok.mod.kin mt.kp (thn (ha.run pos pins s1 σ H1 _ I1 q) fun us s2 ⟨vs, H2, I2, rv, q2⟩ => ⟨I2.kIn, ?_⟩) st pn)
  exact run_fnS (us := .ref a :: us) (vs := .ref a :: vs) Fk rm bd (px σ) I2 (.cons rfl rv) q2
theorem pc_meth0 {pl : Sem Bool} (he : PE X o t0) (cl : Cls X.K C) (mt : Meth X.K C m f) (Fk : FnOk X.prog X.w X.K X.mg X.base (L2.CX X.prog X.w) kk f fd prs sp) (rm : Room kk X.A) (bd : Binds X.K fd prs []) (px : ∀ σ, PassesAt (L2.CX X.prog X.w) X σ (E σ))
    (ev : eval (.Call (.Attribute o m apos) [] [] pos) X.env = (do let ov ← eval o X.env; standAt apos.atName; let (f, first) ← holding [ov] (getMethod ov m pl); callWith pos f first (backTo pos (starEach [] X.env)) (backToKw pos (keywordEach [] X.env)))) :
    PE X (.Call (.Attribute o m apos) [] [] pos) (tMethP C m sp E t0 tNil) := by
  refine ⟨fun pins s σ H Q I hw => PySem.W.methodCall_KW (pl := pl) (thn (he.run pins s σ H _ I hw) fun u s1 ⟨y, H1, I1, ry, a, dx, fs, ey, ea, ln, q⟩ => ?_) ev⟩
  subst ey
  cases (show u = Value.ref a from ry)
  exact getmeth_ok I1 ea cl mt ln (PySem.W.callWith_K0 (first := [.ref a]) I1.kIn mt.kp (run_fnS (us := [.ref a]) (vs := [.ref a]) Fk rm bd (px σ) I1 (.cons rfl .nil) q))
def tMakeP (C : Addr) (sp : Sp) (E : L2.St → XK) (t : TA) : TE := fun σ H Q => t σ H fun vs H1 => ∀ y dx, H1 y = none → H1 dx = none → dx ≠ y →
  sp (.ref y :: vs) (L2.upd (L2.upd H1 dx (.own y)) y (.ins C dx [])) (fun v H2 => v = .non ∧ Q (.ref y) H2) (E σ)
theorem run_mk {pins : List (Addr × Obj)} {σ : L2.St} {H : Hp} {s : Shared} {Q : VK} {us : List Value} {vs : List V} (M : Mk X.K C f) (Fk : FnOk X.prog X.w X.K X.mg X.base (L2.CX X.prog X.w) kk f fd prs sp) (rm : Room (kk + 1) X.A) (bd : Binds X.K fd prs [])
    (px : PassesAt (L2.CX X.prog X.w) X σ (E σ)) (I : Inv X pins σ H s) (rv : Vals vs us)
    (hw : ∀ y dx, H y = none → H dx = none → dx ≠ y → sp (.ref y :: vs) (L2.upd (L2.upd H dx (.own y)) y (.ins C dx [])) (fun v H2 => v = .non ∧ Q (.ref y) H2) (E σ)) :
    wpAny (model X.prog X.w) X.A (call (.ref C) us) (EP X pins σ Q) X.xe s := by
  have qq := hw (s.heap.objs.size + 1) s.heap.objs.size (I.hok.fresh (Nat.le_succ _)) (I.hok.fresh (Nat.le_refl _)) (Nat.ne_of_lt (Nat.lt_succ_self _))
  have J := Inv.made (C := C) I
  have rr : Vals (V.ref (s.heap.objs.size + 1) :: vs) (Value.ref (s.heap.objs.size + 1) :: us) := .cons rfl rv
  have ln : (Value.ref (s.heap.objs.size + 1) :: us ++ []).length = prs.length := by
    rw [List.append_nil, ← rr.length]; exact Fk.len _ _ _ _ qq
  have bb := bd _ (Value.ref (s.heap.objs.size + 1) :: us) J.kIn ln
  rw [List.append_nil] at bb
  refine wpAny_call (make_map (f := f) I.kIn M.makes M.init (beq_iff_eq.mp M.fn) (codeAny_mono (Fk.run _ X.stack _ _ ⟨Value.ref (s.heap.objs.size + 1) :: us, []⟩ (Value.ref (s.heap.objs.size + 1) :: us) _ _ (E σ) (rm.make C us [])
    (J.env0.make C us []) bb rr qq) fun r s' z => ?_))
  cases r with
  | error e => exact px pins _ _ e s' J z
  | ok fl =>
    cases fl with
    | ret u =>
      obtain ⟨v, H', I3, rv3, ev, q3⟩ := J.after z
      subst ev
      exact ⟨rv3, ⟨V.ref (s.heap.objs.size + 1), H', I3, rfl, q3⟩⟩
    | next => exact z.elim
    | brk => exact z.elim
    | cont => exact z.elim
theorem pc_make (M : Mk X.K C f) (Fk : FnOk X.prog X.w X.K X.mg X.base (L2.CX X.prog X.w) kk f fd prs sp) (rm : Room (kk + 1) X.A) (gl : Gl X x) (mx : X.mg x = some (.ref C)) (bd : Binds X.K fd prs []) (px : ∀ σ, PassesAt (L2.CX X.prog X.w) X σ (E σ)) (ha : PA X (e :: es) t)
    (nd : (x == ("__debug__" : Str)) = false) (st : starEach (e :: es) X.env = (false, eval e X.env) :: starEach es X.env) (pn : (backTo pos (starEach es X.env)).any (·.1) = false) : PE X (.Call (.Name x p) (e :: es) [] pos) (tMakeP C sp E t) :=
  ⟨fun pins s σ H Q I hw => wpAny_Call_Name_kw (ld_glob I gl mx (PySem.W.callWith_K (h₀ := X.base) I.ok.mod.kin M.kp (thn (ha.run pos pins s σ H _ I hw) fun us s1 ⟨vs, H1, I1, rv, q⟩ => ⟨I1.kIn, run_mk M Fk rm bd (px σ) I1 rv q⟩) st pn) nd)⟩
end
/-! ### .. over trees -/
theorem de_call (ms : List Bool) (Cc : Cal X.prog X.w X.K X.mg X.base tb x k φ) (hr : Room k X.A) (ha : DA X tb (e :: es) as) (hg : Gl X x := by rfl) (hdb : (x == ("__debug__" : Str)) = false := by decide)
    (he : starEach (e :: es) X.env = (false, eval e X.env) :: starEach es X.env := by rfl) (hpl : (backTo pos (starEach es X.env)).any (·.1) = false := by rfl) : DE X tb (.Call (.Name x p) (e :: es) [] pos) (eCall φ ms as) := fun W tk => by
  obtain ⟨t1, h1, h2⟩ := ha W tk
  obtain ⟨f, fd, prs, F1, mx, kf, bd⟩ := Cc.ex
  refine ⟨_, pe_callS F1 hr hg mx kf bd (passAt tk) h1 hdb he hpl, fun E F T ψ g σ H Q' Q R ex q kq => h2 E F T ψ g σ H _ _ R ex q fun rs ψ1 g1 T1 vs H1 q1 rr R1 k1 => ?_⟩
  obtain ⟨ss, ψ2, g2, Tk, q2, R2, pr, no⟩ := args_ok rr R1 q1
  exact ask R2 (ex.on k1) pr no q2 (Cc.mono _ _) fun r g3 T3 v H3 q3 rr3 R3 k3 => kq r ψ2 g3 T3 v H3 q3 rr3 R3 (k1.trans k3)
theorem isIns_at {B : Bx} {F T : Own} {ψ : Psi} {g : G} {σ : L2.St} {H : Hp} {a C : Addr} {c m : String} {x : Str} (R : Rel B F ψ g T σ H) (h : IsIns g a c m) (hc : B.cl c = some C) (hx : Str.ofString m = x) : ∃ dx fs, H a = some (.ins C dx fs) ∧ fs.lookup x = none := by
  unfold IsIns at h
  split at h
  · rename_i c' fs e
    obtain ⟨rfl, hl⟩ := h
    obtain ⟨C', dx, vfs, e1, e2, e3⟩ := R.gl a _ e
    rw [hc] at e1; cases e1
    exact ⟨dx, vfs, e2, by rw [← hx]; exact (RFs.look e3).2 hl⟩
  · exact h.elim
theorem de_meth (c m : String) (ms : List Bool) (Cc : CalM X.prog X.w X.K X.mg X.base tb c x k φ) (hr : Room k X.A) (ho : DE X tb o to) (ha : DA X tb (e :: es) as) {pl : Sem Bool} (hx : Str.ofString m = x := by rfl)
    (st : starEach (e :: es) X.env = (false, eval e X.env) :: starEach es X.env := by rfl) (pn : (backTo pos (starEach es X.env)).any (·.1) = false := by rfl)
    (ev : eval (.Call (.Attribute o x apos) (e :: es) [] pos) X.env = (do let ov ← eval o X.env; standAt apos.atName; let (f, first) ← holding [ov] (getMethod ov x pl); callWith pos f first (backTo pos (starEach (e :: es) X.env)) (backToKw pos (keywordEach [] X.env))) := by rfl) :
    DE X tb (.Call (.Attribute o x apos) (e :: es) [] pos) (eMeth c m φ ms to as) := fun W tk => by
  obtain ⟨t0, h1, h2⟩ := ho W tk
  obtain ⟨t1, h3, h4⟩ := ha W tk
  obtain ⟨C, f, fd, prs, hcl, cl, mt, F1, bd⟩ := Cc.ex
  refine ⟨_, pc_meth h1 cl mt F1 hr bd (passAt tk) h3 st pn ev, fun E F T ψ g σ H Q' Q R ex q kq => h2 E F T ψ g σ H _ _ R ex q fun r ψ1 g1 T1 v H1 q1 rr R1 k1 => ?_⟩
  obtain ⟨y, ψ2, g2, q2, ry, R2⟩ := R1.toD rr q1
  cases y with
  | ref a =>
    cases ry
    obtain ⟨ins, q3⟩ := q2
    obtain ⟨dx, fs, e1, e2⟩ := isIns_at R2 ins hcl hx
    refine ⟨a, dx, fs, rfl, e1, e2, h4 E F T ψ2 g2 σ H1 _ _ R2 (ex.on k1) q3 fun rs ψ3 g3 T3 vs H3 q3 rr3 R3 k3 => ?_⟩
    obtain ⟨ss, ψ4, g4, Tk, q4, R4, pr, no⟩ := args_ok rr3 R3 q3
    refine ask (ss := .d (.ref a) :: ss) R4 (ex.on (k1.trans k3)) (.cons (.ref a) pr) (fun s hs => ?_) q4 (Cc.mono _ _) fun r g5 T5 v H5 q5 rr5 R5 k5 => kq r ψ4 g5 T5 v H5 q5 rr5 R5 ((k1.trans k3).trans k5)
    rcases List.mem_cons.mp hs with rfl | hs
    · exact fun o z => nomatch z
    · exact no s hs
  | _ => exact q2.elim
theorem de_meth0 (c m : String) (Cc : CalM X.prog X.w X.K X.mg X.base tb c x k φ) (hr : Room k X.A) (ho : DE X tb o to) {pl : Sem Bool} (hx : Str.ofString m = x := by rfl)
    (ev : eval (.Call (.Attribute o x apos) [] [] pos) X.env = (do let ov ← eval o X.env; standAt apos.atName; let (f, first) ← holding [ov] (getMethod ov x pl); callWith pos f first (backTo pos (starEach [] X.env)) (backToKw pos (keywordEach [] X.env))) := by rfl) :
    DE X tb (.Call (.Attribute o x apos) [] [] pos) (eMeth c m φ [] to aNil) := fun W tk => by
  obtain ⟨t0, h1, h2⟩ := ho W tk
  obtain ⟨C, f, fd, prs, hcl, cl, mt, F1, bd⟩ := Cc.ex
  refine ⟨_, pc_meth0 h1 cl mt F1 hr bd (passAt tk) ev, fun E F T ψ g σ H Q' Q R ex q kq => h2 E F T ψ g σ H _ _ R ex q fun r ψ1 g1 T1 v H1 q1 rr R1 k1 => ?_⟩
  obtain ⟨y, ψ2, g2, q2, ry, R2⟩ := R1.toD rr q1
  cases y with
  | ref a =>
    cases ry
    obtain ⟨ins, q3⟩ := q2
    obtain ⟨dx, fs, e1, e2⟩ := isIns_at R2 ins hcl hx
    refine ⟨a, dx, fs, rfl, e1, e2, ?_⟩
    refine ask (Tk := []) (ss := [.d (.ref a)]) R2 (ex.on k1) (.cons (.ref a) .nil) (fun s hs => ?_) q3 (Cc.mono _ _) fun r g5 T5 v H5 q5 rr5 R5 k5 => kq r ψ2 g5 T5 v H5 q5 rr5 R5 (k1.trans k5)
    rw [List.mem_singleton.mp hs]
    exact fun o z => nomatch z
  | _ => exact q2.elim
theorem de_new (c : String) (ms : List Bool) (Cc : CalN X.prog X.w X.K X.mg X.base tb c x k φ) (hr : Room (k + 1) X.A) (ha : DA X tb (e :: es) as) (hg : Gl X x := by rfl) (hdb : (x == ("__debug__" : Str)) = false := by decide)
    (he : starEach (e :: es) X.env = (false, eval e X.env) :: starEach es X.env := by rfl) (hpl : (backTo pos (starEach es X.env)).any (·.1) = false := by rfl) : DE X tb (.Call (.Name x p) (e :: es) [] pos) (eNew c φ ms as) := fun W tk => by
  obtain ⟨t1, h1, h2⟩ := ha W tk
  obtain ⟨C, f, fd, prs, hcl, mx, M, F1, bd⟩ := Cc.ex
  refine ⟨_, pc_make M F1 hr hg mx bd (passAt tk) h1 hdb he hpl, fun E F T ψ g σ H Q' Q R ex q kq => h2 E F T ψ g σ H _ _ R ex q fun rs ψ1 g1 T1 vs H1 q1 rr R1 k1 y dx hy hdx ne => ?_⟩
  obtain ⟨ss, ψ2, g2, Tk, q2, R2, pr, no⟩ := args_ok rr R1 q1
  have hy2 : L2.upd H1 dx (.own y) y = none := by rw [upd_ne (Ne.symm ne)]; exact hy
  have Ra : Rel (bx X tb) F ψ2 g2 (Tk ++ T) σ (L2.upd H1 dx (.own y)) := R2.alloc hdx
  have ka : Keep H1 (L2.upd H1 dx (.own y)) := Keep.new hdx
  have Rb : Rel (bx X tb) F ψ2 g2 ((y, .ins c []) :: (Tk ++ T)) σ (L2.upd (L2.upd H1 dx (.own y)) y (.ins C dx [])) := Ra.new hy2 ⟨C, dx, [], hcl, upd_same, .nil⟩
  have kb : Keep H1 (L2.upd (L2.upd H1 dx (.own y)) y (.ins C dx [])) := ka.trans (Keep.new hy2)
  obtain ⟨gn, Rc⟩ := Rb.giveT
  refine ask (E := E) (Q' := fun r ψ g => r = .d .non ∧ Q' (.d (.ref y)) ψ g) (ss := .d (.ref y) :: ss) Rc (ex.on (k1.trans kb)) (.cons (.ref y) (L2.Paired.mapP pr fun _ _ z => SlRel.keep kb z)) (fun s hs => ?_) (q2 y gn) (Cc.mono _ _) fun r g5 T5 v H5 q5 rr5 R5 k5 => ?_
  · rcases List.mem_cons.mp hs with rfl | hs
    · exact fun o z => nomatch z
    · exact no s hs
  · obtain ⟨rfl, q6⟩ := q5
    obtain ⟨rv, rfl⟩ := rr5
    cases rv
    exact ⟨rfl, kq _ ψ2 g5 T5 _ H5 q6 ⟨.ref y, rfl⟩ R5 ((k1.trans kb).trans k5)⟩
end
end Pd
set_option linter.all false
namespace Pd
/-- an equality that holds by unfolding, not told to be one -/
theorem nrfl {α : Sort _} {a b : α} (h : a = b) : a = b := h
/-! Running a combinator term step by step: outermost first, continuations untouched until their value has come. -/
@[simp] theorem optQ_none {α : Type} {k : α → Prop} : optQ (none : Option α) k = False := nrfl rfl
def has (ψ : Psi) (i : Nat) (p : Prop) (_ : Hid p := ()) : Prop := match ψ[i]? with
  | some (some _) => p
  | _ => False
@[simp ↓] theorem has_zero {s : Sl} {ψ : Psi} {p : Prop} : has (some s :: ψ) 0 p = p := nrfl rfl
@[simp ↓] theorem has_succ {s : Option Sl} {ψ : Psi} {i : Nat} {p : Prop} : has (s :: ψ) (i + 1) p = has ψ i p := nrfl rfl
def blQ (o : Option C) (k : Bool → Prop) (_ : Hid k := ()) : Prop := match o with
  | some (.d (.bl b)) => k b
  | _ => False
@[simp] theorem blQ_some {b : Bool} {k : Bool → Prop} : blQ (some (.d (.bl b))) k = k b := nrfl rfl
def inQ (o : Option C) (k : Int → Prop) (_ : Hid k := ()) : Prop := match o with
  | some (.d (.int b)) => k b
  | _ => False
@[simp] theorem inQ_some {b : Int} {k : Int → Prop} : inQ (some (.d (.int b))) k = k b := nrfl rfl
def stQ (o : Option C) (k : List Nat → Prop) (_ : Hid k := ()) : Prop := match o with
  | some (.d (.str b)) => k b
  | _ => False
@[simp] theorem stQ_some {b : List Nat} {k : List Nat → Prop} : stQ (some (.d (.str b))) k = k b := nrfl rfl
def lsQ (o : Option C) (k : List D → Prop) (_ : Hid k := ()) : Prop := match o with
  | some (.o (.lst b)) => k b
  | _ => False
@[simp] theorem lsQ_some {b : List D} {k : List D → Prop} : lsQ (some (.o (.lst b))) k = k b := nrfl rfl
def obQ (o : Option C) (k : O → Prop) (_ : Hid k := ()) : Prop := match o with
  | some (.o b) => k b
  | _ => False
@[simp] theorem obQ_some {b : O} {k : O → Prop} : obQ (some (.o b)) k = k b := nrfl rfl
def gQ (o : Option O) (k : String → List (String × D) → Prop) (_ : Hid k := ()) : Prop := match o with
  | some (.ins c fs) => k c fs
  | _ => False
@[simp] theorem gQ_some {c : String} {fs : List (String × D)} {k : String → List (String × D) → Prop} : gQ (some (.ins c fs)) k = k c fs := nrfl rfl
/-! what a slot holds, as it is asked -/
@[simp] theorem look_d {ψ : Psi} {g : G} {x : D} : look ψ g (.d x) = lookD g x := nrfl rfl
@[simp] theorem look_own {ψ : Psi} {g : G} {o : O} : look ψ g (.own o) = some (.o o) := nrfl rfl
@[simp] theorem look_0 {ψ : Psi} {s : Sl} {g : G} : look (some s :: ψ) g (.sl 0) = lookS g s := nrfl rfl
@[simp] theorem look_s {ψ : Psi} {s : Option Sl} {g : G} {i : Nat} : look (s :: ψ) g (.sl (i + 1)) = look ψ g (.sl i) := nrfl rfl
@[simp] theorem lookS_d {g : G} {x : D} : lookS g (.d x) = lookD g x := nrfl rfl
@[simp] theorem lookS_own {g : G} {o : O} : lookS g (.own o) = some (.o o) := nrfl rfl
@[simp] theorem lookS_bor {g : G} {o : O} : lookS g (.bor o) = some (.o o) := nrfl rfl
@[simp] theorem lookD_ref {g : G} {a : Nat} : lookD g (.ref a) = (g a).map C.o := nrfl rfl
@[simp] theorem lookD_bl {g : G} {b : Bool} : lookD g (.bl b) = some (.d (.bl b)) := nrfl rfl
@[simp] theorem lookD_int {g : G} {b : Int} : lookD g (.int b) = some (.d (.int b)) := nrfl rfl
@[simp] theorem lookD_str {g : G} {b : List Nat} : lookD g (.str b) = some (.d (.str b)) := nrfl rfl
@[simp] theorem lookD_tup {g : G} {b : List D} : lookD g (.tup b) = some (.d (.tup b)) := nrfl rfl
@[simp] theorem lookD_rol {g : G} {b : List D} : lookD g (.rol b) = some (.d (.rol b)) := nrfl rfl
/-! stepping: one rule a combinator, taken from outside -/
section
variable (E : EX) (ψ : Psi) (g : G) (Q : R → Psi → G → Prop) (QA : List R → Psi → G → Prop) (QD : List D → Psi → G → Prop) (QT : Bool → Psi → G → Prop) (QG : Psi → G → Prop) (QI : List D → (Psi → G → Prop) → Psi → G → Prop) (Dn : Ends) (t u v : WE) (as : WA) (ds : WD) (c d : WT) (s b : WS)
@[simp ↓] theorem s_eC (x : D) : eC x E ψ g Q = Q (.d x) ψ g := nrfl rfl
@[simp ↓] theorem s_eVar (i : Nat) : eVar i E ψ g Q = has ψ i (Q (.sl i) ψ g) := nrfl rfl
@[simp ↓] theorem s_aNil : aNil E ψ g QA = QA [] ψ g := nrfl rfl
@[simp ↓] theorem s_aCons : aCons t as E ψ g QA = t E ψ g fun r ψ g => as E ψ g fun rs ψ g => QA (r :: rs) ψ g := nrfl rfl
@[simp ↓] theorem s_eUn (f : G → C → Option R) : eUn f t E ψ g Q = t E ψ g fun r ψ g => optQ (look ψ g r) fun c => optQ (f g c) fun x => Q x ψ g := nrfl rfl
@[simp ↓] theorem s_eBin (f : G → C → C → Option R) : eBin f t u E ψ g Q = t E ψ g fun r ψ g => u E ψ g fun r' ψ g => optQ (look ψ g r) fun c => optQ (look ψ g r') fun c' => optQ (f g c c') fun x => Q x ψ g := nrfl rfl
@[simp ↓] theorem s_eIsN (n : Bool) : eIsN n t E ψ g Q = t E ψ g fun r ψ g => optQ (isNon ψ r) fun b => Q (.d (.bl (if n then !b else b))) ψ g := nrfl rfl
@[simp ↓] theorem s_dNil : dNil E ψ g QD = QD [] ψ g := nrfl rfl
@[simp ↓] theorem s_dCons : dCons t ds E ψ g QD = t E ψ g fun r ψ g => toD r ψ g fun x ψ g => ds E ψ g fun xs ψ g => QD (x :: xs) ψ g := nrfl rfl
@[simp ↓] theorem s_eTup : eTup ds E ψ g Q = ds E ψ g fun xs ψ g => Q (.d (.tup xs)) ψ g := nrfl rfl
@[simp ↓] theorem s_eLst : eLst ds E ψ g Q = ds E ψ g fun xs ψ g => Q (.own (.lst xs)) ψ g := nrfl rfl
@[simp ↓] theorem s_eDic (k : Bool) : eDic k E ψ g Q = Q (.own (.dic k [])) ψ g := nrfl rfl
@[simp ↓] theorem s_tV : tV t E ψ g QT = t E ψ g fun r ψ g => blQ (look ψ g r) fun b => QT b ψ g := nrfl rfl
@[simp ↓] theorem s_tAnd : tAnd c d E ψ g QT = c E ψ g fun b ψ g => if b = true then d E ψ g QT else QT false ψ g := nrfl rfl
@[simp ↓] theorem s_tOr : tOr c d E ψ g QT = c E ψ g fun b ψ g => if b = true then QT true ψ g else d E ψ g QT := nrfl rfl
@[simp ↓] theorem s_tNot : tNot c E ψ g QT = c E ψ g fun b ψ g => QT (!b) ψ g := nrfl rfl
@[simp ↓] theorem s_eAnd : eAnd t u E ψ g Q = t E ψ g fun r ψ g => blQ (look ψ g r) fun b => if b = true then u E ψ g Q else Q (.d (.bl false)) ψ g := nrfl rfl
@[simp ↓] theorem s_eOr : eOr t u E ψ g Q = t E ψ g fun r ψ g => blQ (look ψ g r) fun b => if b = true then Q (.d (.bl true)) ψ g else u E ψ g Q := nrfl rfl
@[simp ↓] theorem s_eNot : eNot t E ψ g Q = t E ψ g fun r ψ g => blQ (look ψ g r) fun b => Q (.d (.bl (!b))) ψ g := nrfl rfl
def fldQ (o : Option C) (c f : String) (k : D → Prop) (_ : Hid k := ()) : Prop := match o with
  | some (.o (.ins c' fs)) => c' = c ∧ optQ (fs.lookup f) k
  | _ => False
@[simp] theorem fldQ_some {c c' f : String} {fs : List (String × D)} {k : D → Prop} : fldQ (some (.o (.ins c' fs))) c f k = (c' = c ∧ optQ (fs.lookup f) k) := nrfl rfl
@[simp ↓] theorem s_eFld (cn f : String) : eFld cn f t E ψ g Q = t E ψ g fun r ψ g => fldQ (look ψ g r) cn f fun x => Q (.d x) ψ g := nrfl rfl
@[simp] theorem s_lstAt (r : R) : lstAt ψ g r = lsQ (look ψ g r) fun _ => True := by
  unfold lstAt lsQ; rfl
@[simp ↓] theorem s_eMut (f : List D → List D → Option (List D × D)) : eMut f t ds E ψ g Q = t E ψ g fun r ψ g => lstAt ψ g r ∧ ds E ψ g fun xs ψ g => lsQ (look ψ g r) fun ys => optQ (f ys xs) fun p => wr r (.lst p.1) ψ g fun ψ g => Q (.d p.2) ψ g := nrfl rfl
def callQ (φ : SpD) (ss : List Sl) (g : G) (E : X → G → Prop) (Q : R → G → Prop) (_ : Hid E := ()) (_ : Hid Q := ()) : Prop := φ ss g E Q
def compQ (tg : WG) (tt : WT) (te : WE) (ok : Psi → G → Prop) (ψ0 ψw : Psi) (xs acc : List D) (g : G) (Q : List D → G → Prop) (_ : Hid Q := ()) (_ : Hid ok := ()) : Prop := compL tg tt te ok ψ0 ψw xs acc g Q
def forQ (tg : WG) (b : WS) (Dn : Ends) (ok : Psi → G → Prop) (xs : List D) (ψ : Psi) (g : G) (_ : Hid Dn := ()) (_ : Hid ok := ()) : Prop := forL tg b Dn ok xs ψ g
def whileQ (c : WT) (b : WS) (Dn : Ends) (ψ : Psi) (g : G) (_ : Hid Dn := ()) : Prop := sWhile c b Dn ψ g
@[simp ↓] theorem s_eCall (φ : SpD) (ms : List Bool) : eCall φ ms as E ψ g Q = as E ψ g fun rs ψ g => argsSl ms rs ψ g fun ss ψ g => callQ φ ss g (fun x g' => E x ψ g') fun r g' => Q r ψ g' := nrfl rfl
def rfQ (x : D) (k : Nat → Prop) : Prop := match x with
  | .ref a => k a
  | _ => False
@[simp ↓] theorem rfQ_ref {a : Nat} {k : Nat → Prop} : rfQ (.ref a) k = k a := nrfl rfl
@[simp ↓] theorem s_eMeth (cn m : String) (φ : SpD) (ms : List Bool) : eMeth cn m φ ms t as E ψ g Q = t E ψ g fun r ψ g => toD r ψ g fun x ψ g => rfQ x fun a => IsIns g a cn m ∧ as E ψ g fun rs ψ g => argsSl ms rs ψ g fun ss ψ g => callQ φ (.d (.ref a) :: ss) g (fun x g' => E x ψ g') fun r g' => Q r ψ g' := nrfl rfl
@[simp ↓] theorem s_eNew (cn : String) (φ : SpD) (ms : List Bool) : eNew cn φ ms as E ψ g Q = as E ψ g fun rs ψ g => argsSl ms rs ψ g fun ss ψ g => ∀ p, g p = none → callQ φ (.d (.ref p) :: ss) (g.upd p (.ins cn [])) (fun x g' => E x ψ g') fun r g' => r = .d .non ∧ Q (.d (.ref p)) ψ g' := nrfl rfl
def nsQ (r : R) (k : Prop) : Prop := match r with
  | .sl _ => False
  | _ => k
@[simp ↓] theorem nsQ_d {x : D} {k : Prop} : nsQ (.d x) k = k := nrfl rfl
@[simp ↓] theorem nsQ_own {x : O} {k : Prop} : nsQ (.own x) k = k := nrfl rfl
@[simp ↓] theorem s_eNs : eNs t E ψ g Q = t E ψ g fun r ψ g => nsQ r (Q r ψ g) := by
  show (t E ψ g fun r ψ g => match r with | .sl _ => False | r => Q r ψ g) = _
  congr 1
  funext r ψ g
  cases r <;> rfl
@[simp ↓] theorem s_iIt : iIt t E ψ g QI = t E ψ g fun r ψ g => optQ (look ψ g r) fun c => optQ (itemsC c) fun xs => QI xs (still r c) ψ g := nrfl rfl
@[simp ↓] theorem s_iEnum : iEnum t E ψ g QI = t E ψ g fun r ψ g => optQ (look ψ g r) fun c => optQ (lstC c) fun xs => QI (numbered 0 xs) (still r c) ψ g := nrfl rfl
@[simp ↓] theorem s_iRange : iRange t E ψ g QI = t E ψ g fun r ψ g => inQ (look ψ g r) fun n => n < 4611686018427387904 ∧ -(4611686018427387904) ≤ n ∧ QI ((List.range n.toNat).map fun i : Nat => D.int (i : Int)) (fun _ _ => True) ψ g := nrfl rfl
@[simp ↓] theorem s_iStr : iStr t E ψ g QI = t E ψ g fun r ψ g => stQ (look ψ g r) fun z => QI (z.map fun c => .str [c]) (fun _ _ => True) ψ g := nrfl rfl
@[simp ↓] theorem s_iZip : iZip t u E ψ g QI = t E ψ g fun r ψ g => u E ψ g fun r' ψ g => optQ (look ψ g r) fun c => optQ (look ψ g r') fun c' => optQ (zipC c c') fun p => QI (pairUp p.1 p.2) (fun ψ g => still r c ψ g ∧ still r' c' ψ g) ψ g := nrfl rfl
@[simp ↓] theorem s_gName (i : Nat) (x : D) : gName i x ψ g QG = QG (ψ.set i (some (.d x))) g := nrfl rfl
@[simp ↓] theorem s_gTup (ts : List WG) (xs : List D) : gTup ts (.tup xs) ψ g QG = (xs.length = ts.length ∧ gAll ts xs ψ g QG) := nrfl rfl
@[simp ↓] theorem s_gNil : gAll [] [] ψ g QG = QG ψ g := nrfl rfl
@[simp ↓] theorem s_gCons (tg : WG) (ts : List WG) (x : D) (xs : List D) : gAll (tg :: ts) (x :: xs) ψ g QG = tg x ψ g fun ψ g => gAll ts xs ψ g QG := nrfl rfl
@[simp ↓] theorem s_tYes : tYes E ψ g QT = QT true ψ g := nrfl rfl
@[simp ↓] theorem s_eComp (vs : List Nat) (it : WI) (tg : WG) : eComp vs it tg c t E ψ g Q = it E ψ g fun xs ok ψ g => compQ tg c t ok ψ (wipe (lendAll ψ) vs) xs [] g fun acc g => Q (.own (.lst acc)) ψ g := nrfl rfl
@[simp ↓] theorem s_sNx : sNx Dn ψ g = Dn.nx ψ g := nrfl rfl
theorem s_sSeq : sSeq s b Dn ψ g = s ⟨b Dn, Dn.rt, Dn.bk, Dn.ct, Dn.ex⟩ ψ g := nrfl rfl
@[simp ↓] theorem s_sE : sE t Dn ψ g = t Dn.ex ψ g fun _ ψ g => Dn.nx ψ g := nrfl rfl
@[simp ↓] theorem s_sSet (i : Nat) : sSet i t Dn ψ g = t Dn.ex ψ g fun r ψ g => bind i r ψ g Dn.nx := nrfl rfl
@[simp ↓] theorem s_sUnp (tg : WG) : sUnp tg t Dn ψ g = t Dn.ex ψ g fun r ψ g => toD r ψ g fun x ψ g => tg x ψ g Dn.nx := nrfl rfl
@[simp ↓] theorem s_sIf : sIf c s b Dn ψ g = c Dn.ex ψ g fun v ψ g => if v = true then s Dn ψ g else b Dn ψ g := nrfl rfl
@[simp ↓] theorem s_sRet : sRet t Dn ψ g = t Dn.ex ψ g fun r ψ g => retR r ψ g fun r g => ∃ g2, G.le g2 g ∧ Dn.rt r g2 := nrfl rfl
@[simp ↓] theorem s_sSetIx (f : O → D → D → Option O) : sSetIx f t u v Dn ψ g = v Dn.ex ψ g fun v ψ g => toD v ψ g fun v ψ g => t Dn.ex ψ g fun r ψ g => u Dn.ex ψ g fun i ψ g => toD i ψ g fun i ψ g => obQ (look ψ g r) fun o => optQ (f o i v) fun o' => wr r o' ψ g Dn.nx := nrfl rfl
@[simp ↓] theorem s_sFld (cn f : String) : sFld cn f t u Dn ψ g = u Dn.ex ψ g fun v ψ g => toD v ψ g fun v ψ g => t Dn.ex ψ g fun r ψ g => toD r ψ g fun x ψ g => rfQ x fun a => gQ (g a) fun c' fs => c' = cn ∧ fs.length < 900 ∧ Dn.nx ψ (g.upd a (.ins cn (putF f v fs))) := nrfl rfl
@[simp ↓] theorem s_sRaise (cn : String) (fs : List String) : sRaise cn fs ds Dn ψ g = ds Dn.ex ψ g fun xs ψ g => Dn.ex ⟨cn, fs.zip xs⟩ ψ g := nrfl rfl
@[simp] theorem s_bX (f : X → Bool) (x : X) : bX f x = some (.bl (f x)) := rfl
@[simp ↓] theorem s_sFor (it : WI) (tg : WG) : sFor it tg b Dn ψ g = it Dn.ex ψ g fun xs ok ψ g => forQ tg b Dn ok xs ψ g := nrfl rfl
@[simp ↓] theorem s_sWhile (cc : WT) : sWhile cc b Dn ψ g = whileQ cc b Dn ψ g := nrfl rfl
@[simp ↓] theorem s_bndN (k : Option Int → Psi → G → Prop) : bndQ none E ψ g k = k none ψ g := nrfl rfl
@[simp ↓] theorem s_bndS (k : Option Int → Psi → G → Prop) : bndQ (some t) E ψ g k = t E ψ g fun r ψ g => inQ (look ψ g r) fun i => -(4611686018427387904) ≤ i ∧ i < 4611686018427387904 ∧ k (some i) ψ g := nrfl rfl
@[simp ↓] theorem s_eCut (lo hi : Option WE) : eCut t lo hi E ψ g Q = t E ψ g fun r ψ g => bndQ lo E ψ g fun a ψ g => bndQ hi E ψ g fun b ψ g => optQ (look ψ g r) fun c => optQ (cutC a b c) fun x => Q x ψ g := nrfl rfl
@[simp ↓] theorem s_endsR (A : X → G → Prop) (P : R → G → Prop) (r : R) : (endsOf A P).rt r g = P r g := nrfl rfl
@[simp ↓] theorem s_endsN (A : X → G → Prop) (P : R → G → Prop) : (endsOf A P).nx ψ g = ∃ g2, G.le g2 g ∧ P (.d .non) g2 := nrfl rfl
@[simp ↓] theorem s_endsX (A : X → G → Prop) (P : R → G → Prop) (x : X) : (endsOf A P).ex x ψ g = A x g := nrfl rfl
end
/-! values given away, bound, returned -/
section
variable (ψ : Psi) (g : G) (k : D → Psi → G → Prop) (kp : Psi → G → Prop) (kr : R → G → Prop) (i : Nat)
@[simp ↓] theorem s_toDd (x : D) : toD (.d x) ψ g k = k x ψ g := nrfl rfl
@[simp ↓] theorem s_toDo (o : O) : toD (.own o) ψ g k = ∀ p, g p = none → k (.ref p) ψ (g.upd p o) := nrfl rfl
def toDS (s : Option (Option Sl)) (i : Nat) (ψ : Psi) (g : G) (k : D → Psi → G → Prop) (_ : Hid k := ()) : Prop := match s with
  | some (some (.d x)) => k x ψ g
  | some (some (.own o)) => ∀ p, g p = none → k (.ref p) (ψ.set i (some (.d (.ref p)))) (g.upd p o)
  | _ => False
@[simp ↓] theorem s_toDs : toD (.sl i) ψ g k = toDS ψ[i]? i ψ g k := nrfl rfl
@[simp] theorem toDS_d (x : D) : toDS (some (some (.d x))) i ψ g k = k x ψ g := nrfl rfl
@[simp] theorem toDS_own (o : O) : toDS (some (some (.own o))) i ψ g k = ∀ p, g p = none → k (.ref p) (ψ.set i (some (.d (.ref p)))) (g.upd p o) := nrfl rfl
@[simp ↓] theorem s_bindd (x : D) : bind i (.d x) ψ g kp = kp (ψ.set i (some (.d x))) g := nrfl rfl
@[simp ↓] theorem s_bindo (o : O) : bind i (.own o) ψ g kp = kp (ψ.set i (some (.own o))) g := nrfl rfl
@[simp ↓] theorem s_retd (x : D) : retR (.d x) ψ g kr = kr (.d x) g := nrfl rfl
@[simp ↓] theorem s_reto (o : O) : retR (.own o) ψ g kr = kr (.own o) g := nrfl rfl
def retS (s : Option (Option Sl)) (g : G) (k : R → G → Prop) (_ : Hid k := ()) : Prop := match s with
  | some (some (.d x)) => k (.d x) g
  | some (some (.own o)) => k (.own o) g
  | _ => False
@[simp ↓] theorem s_rets : retR (.sl i) ψ g kr = retS ψ[i]? g kr := nrfl rfl
@[simp] theorem retS_d (x : D) : retS (some (some (.d x))) g kr = kr (.d x) g := nrfl rfl
@[simp] theorem retS_own (o : O) : retS (some (some (.own o))) g kr = kr (.own o) g := nrfl rfl
@[simp ↓] theorem s_wrd (a : Nat) (o : O) : wr (.d (.ref a)) o ψ g kp = kp ψ (g.upd a o) := nrfl rfl
def wrS (s : Option (Option Sl)) (i : Nat) (o : O) (ψ : Psi) (g : G) (k : Psi → G → Prop) (_ : Hid k := ()) : Prop := match s with
  | some (some (.own _)) => k (ψ.set i (some (.own o))) g
  | some (some (.d (.ref a))) => k ψ (g.upd a o)
  | _ => False
@[simp ↓] theorem s_wrs (o : O) : wr (.sl i) o ψ g kp = wrS ψ[i]? i o ψ g kp := nrfl rfl
@[simp] theorem wrS_own (o o' : O) : wrS (some (some (.own o'))) i o ψ g kp = kp (ψ.set i (some (.own o))) g := nrfl rfl
@[simp] theorem wrS_ref (o : O) (a : Nat) : wrS (some (some (.d (.ref a)))) i o ψ g kp = kp ψ (g.upd a o) := nrfl rfl
@[simp] theorem isNon_0d (x : D) : isNon (some (.d x) :: ψ) (.sl 0) = some (decide (x = .non)) := nrfl rfl
@[simp] theorem isNon_s (s : Option Sl) : isNon (s :: ψ) (.sl (i + 1)) = isNon ψ (.sl i) := nrfl rfl
/-! arguments -/
variable (ks : List Sl → Psi → G → Prop) (kl : List R → Psi → G → Prop) (ms : List Bool) (rs : List R) (r : R)
@[simp ↓] theorem s_args : argsSl ms rs ψ g ks = giveAll ms rs ψ g fun rs ψ g => optQ (lendRs ψ rs) fun ss => ks ss ψ g := nrfl rfl
@[simp ↓] theorem s_giveN : giveAll ms [] ψ g kl = kl [] ψ g := by cases ms <;> rfl
@[simp ↓] theorem s_giveT : giveAll (true :: ms) (r :: rs) ψ g kl = toD r ψ g fun x ψ g => giveAll ms rs ψ g fun rs ψ g => kl (.d x :: rs) ψ g := nrfl rfl
@[simp ↓] theorem s_giveF : giveAll (false :: ms) (r :: rs) ψ g kl = giveAll ms rs ψ g fun rs ψ g => kl (r :: rs) ψ g := nrfl rfl
@[simp] theorem s_lendN : lendRs ψ [] = some [] := nrfl rfl
@[simp] theorem s_lendC : lendRs ψ (r :: rs) = (lendR ψ r).bind fun s => (lendRs ψ rs).map fun ss => s :: ss := by
  show (match lendR ψ r, lendRs ψ rs with | some s, some ss => some (s :: ss) | _, _ => none) = _
  cases lendR ψ r <;> cases lendRs ψ rs <;> rfl
@[simp] theorem lendR_d (x : D) : lendR ψ (.d x) = some (.d x) := nrfl rfl
@[simp] theorem lendR_o (o : O) : lendR ψ (.own o) = some (.bor o) := nrfl rfl
@[simp] theorem lendR_0 (s : Sl) : lendR (some s :: ψ) (.sl 0) = some (lendS s) := nrfl rfl
@[simp] theorem lendR_s (s : Option Sl) : lendR (s :: ψ) (.sl (i + 1)) = lendR ψ (.sl i) := nrfl rfl
@[simp] theorem lendS_own (o : O) : lendS (.own o) = .bor o := nrfl rfl
@[simp] theorem lendS_d (x : D) : lendS (.d x) = .d x := nrfl rfl
end
/-! operations -/
section
variable (g : G) (i j : Int) (s t : List Nat) (xs ys : List D)
@[simp] theorem o_lt : oLt g (.d (.int i)) (.d (.int j)) = some (.d (.bl (decide (i < j)))) := nrfl rfl
@[simp] theorem o_gt : oGt g (.d (.int i)) (.d (.int j)) = some (.d (.bl (decide (j < i)))) := nrfl rfl
@[simp] theorem o_ge : oGe g (.d (.int i)) (.d (.int j)) = some (.d (.bl (decide (j ≤ i)))) := nrfl rfl
@[simp] theorem o_addI : oAdd g (.d (.int i)) (.d (.int j)) = some (.d (.int (i + j))) := nrfl rfl
@[simp] theorem o_addS : oAdd g (.d (.str s)) (.d (.str t)) = if s.length + t.length ≤ most then some (.d (.str (s ++ t))) else none := nrfl rfl
@[simp] theorem o_addL : oAdd g (.o (.lst xs)) (.o (.lst ys)) = if xs.length + ys.length ≤ most then some (.own (.lst (xs ++ ys))) else none := nrfl rfl
@[simp] theorem o_addT : oAdd g (.d (.tup xs)) (.d (.tup ys)) = if xs.length + ys.length ≤ most then some (.d (.tup (xs ++ ys))) else none := nrfl rfl
@[simp] theorem o_sub : oSub g (.d (.int i)) (.d (.int j)) = some (.d (.int (i - j))) := nrfl rfl
theorem o_mul : oMul g (.d (.int i)) (.d (.int j)) = if small i ∨ small j then some (.d (.int (i * j))) else none := nrfl rfl
@[simp] theorem o_mod : oMod g (.d (.int i)) (.d (.int j)) = if 0 < j then some (.d (.int (i % j))) else none := by
  show (if 0 < j then some (D.int (i % j)) else none).map R.d = _
  split <;> rfl
@[simp] theorem o_div : oDiv g (.d (.int i)) (.d (.int j)) = if 0 < j ∧ j < 1073741824 then some (.d (.int (i / j))) else none := by
  show (if 0 < j ∧ j < 1073741824 then some (D.int (i / j)) else none).map R.d = _
  split <;> rfl
@[simp] theorem o_pow : oPow g (.d (.int i)) (.d (.int j)) = if 0 ≤ j ∧ j ≤ 1000 ∧ small i then some (.d (.int (i ^ j.toNat))) else none := by
  show (if 0 ≤ j ∧ j ≤ 1000 ∧ small i then some (D.int (i ^ j.toNat)) else none).map R.d = _
  split <;> rfl
@[simp] theorem o_neg : oNeg g (.d (.int i)) = some (.d (.int (-i))) := nrfl rfl
@[simp] theorem o_lenS : oLen g (.d (.str s)) = if s.length ≤ most then some (.d (.int s.length)) else none := by
  show (if s.length ≤ most then some (s.length : Int) else none).map (fun n => R.d (D.int n)) = _
  split <;> rfl
@[simp] theorem o_lenT : oLen g (.d (.tup xs)) = some (.d (.int xs.length)) := nrfl rfl
@[simp] theorem o_lenR : oLen g (.d (.rol xs)) = some (.d (.int xs.length)) := nrfl rfl
@[simp] theorem o_lenL : oLen g (.o (.lst xs)) = some (.d (.int xs.length)) := nrfl rfl
@[simp] theorem o_ixL : oIx g (.o (.lst xs)) (.d (.int i)) = (atI xs i).map R.d := nrfl rfl
@[simp] theorem o_ixT : oIx g (.d (.tup xs)) (.d (.int i)) = (atI xs i).map R.d := nrfl rfl
@[simp] theorem o_ixS : oIx g (.d (.str s)) (.d (.int i)) = if s.length ≤ most then (atI s i).map fun c => .d (.str [c]) else none := by
  show (if s.length ≤ most then (atI s i).map fun c => D.str [c] else none).map R.d = _
  split
  · rw [Option.map_map]; rfl
  · rfl
@[simp] theorem o_ixD (k : Bool) (kvs : List (D × D)) (x : D) : oIx g (.o (.dic k kvs)) (.d x) = if keyOk k x = true then (lookK kvs x).map R.d else none := by
  have h : ixC (.o (.dic k kvs)) (.d x) = if keyOk k x then lookK kvs x else none := by cases x <;> rfl
  unfold oIx; rw [h]; split <;> rfl
@[simp] theorem c_S (a b : Option Int) : cutC a b (.d (.str s)) = if s.length ≤ most then some (.d (.str (cut s a b))) else none := nrfl rfl
@[simp] theorem c_R (a b : Option Int) : cutC a b (.d (.rol xs)) = some (.own (.lst (cut xs a b))) := nrfl rfl
@[simp] theorem c_L (a b : Option Int) : cutC a b (.o (.lst xs)) = some (.own (.lst (cut xs a b))) := nrfl rfl
@[simp] theorem o_listL : oList g (.o (.lst xs)) = some (.own (.lst xs)) := nrfl rfl
@[simp] theorem o_listT : oList g (.d (.tup xs)) = some (.own (.lst xs)) := nrfl rfl
@[simp] theorem o_tupL : oTuple g (.o (.lst xs)) = some (.d (.tup xs)) := nrfl rfl
@[simp] theorem o_all : oAll g (.o (.lst xs)) = (boolsD xs).map fun bs => .d (.bl (bs.all id)) := nrfl rfl
@[simp] theorem o_intB (b : Bool) : oInt g (.d (.bl b)) = some (.d (.int (if b then 1 else 0))) := nrfl rfl
theorem o_join : oJoin s g (.o (.lst xs)) = (textsD xs).bind fun ts => if (ts.map List.length).sum + ts.length * s.length ≤ most then some (.d (.str (joinL s ts))) else none := nrfl rfl
@[simp] theorem m_app (x : D) : mAppend xs [x] = if xs.length < most then some (xs ++ [x], .non) else none := nrfl rfl
@[simp] theorem m_pop : mPop xs [] = (xs[xs.length - 1]?).map fun y => (xs.dropLast, y) := nrfl rfl
@[simp] theorem p_L (v : D) : putIx (.lst xs) (.int i) v = (idxOf xs.length i).map fun k => .lst (xs.set k v) := nrfl rfl
@[simp] theorem p_D (k : Bool) (kvs : List (D × D)) (x v : D) : putIx (.dic k kvs) x v = if keyOk k x = true ∧ kvs.length < most then some (.dic k (putK kvs x v)) else none := nrfl rfl
@[simp] theorem i_L : itemsC (.o (.lst xs)) = some xs := nrfl rfl
@[simp] theorem i_T : itemsC (.d (.tup xs)) = some xs := nrfl rfl
@[simp] theorem l_L : lstC (.o (.lst xs)) = some xs := nrfl rfl
@[simp] theorem z_LL : zipC (.o (.lst xs)) (.o (.lst ys)) = some (xs, ys) := nrfl rfl
@[simp] theorem z_TT : zipC (.d (.tup xs)) (.d (.tup ys)) = some (xs, ys) := nrfl rfl
@[simp] theorem z_LR : zipC (.o (.lst xs)) (.d (.rol ys)) = some (xs, ys) := nrfl rfl
@[simp] theorem z_RL : zipC (.d (.rol xs)) (.o (.lst ys)) = some (xs, ys) := nrfl rfl
@[simp] theorem eq_SS : oEq g (.d (.str s)) (.d (.str t)) = some (.d (.bl (decide (s = t)))) := by
  have h : eqC g (.d (.str s)) (.d (.str t)) = some (decide (D.str s = D.str t)) := rfl
  unfold oEq; rw [h]; simp
@[simp] theorem eq_II : oEq g (.d (.int i)) (.d (.int j)) = some (.d (.bl (decide (i = j)))) := by
  have h : eqC g (.d (.int i)) (.d (.int j)) = some (decide (D.int i = D.int j)) := rfl
  unfold oEq; rw [h]; simp
@[simp] theorem ne_II : oNe g (.d (.int i)) (.d (.int j)) = some (.d (.bl (!decide (i = j)))) := by
  have h : eqC g (.d (.int i)) (.d (.int j)) = some (decide (D.int i = D.int j)) := rfl
  unfold oNe; rw [h]; simp
@[simp] theorem eq_BB (a b : Bool) : oEq g (.d (.bl a)) (.d (.bl b)) = some (.d (.bl (decide (a = b)))) := nrfl rfl
end
@[simp] theorem optQ_ite {α : Type} {p : Prop} [Decidable p] {x : α} {k : α → Prop} : optQ (if p then some x else none) k = (p ∧ k x) := by
  by_cases h : p <;> simp [h]
@[simp] theorem small_num {n : Nat} (h : Nat.blt n 18446744073709551616 = true) : small (no_index (OfNat.ofNat n : Int)) = True := by
  have h1 : n < 18446744073709551616 := by simpa [Nat.blt_eq] using h
  have h2 : (OfNat.ofNat n : Int) = (n : Int) := rfl
  rw [h2]
  exact eq_true (by show Int.natAbs _ < 18446744073709551616; omega)
@[simp] theorem small_mod {n : Nat} {x : Int} (h : (Nat.blt n 18446744073709551616 && Nat.blt 0 n) = true) : small (x % no_index (OfNat.ofNat n : Int)) = True := by
  rw [Bool.and_eq_true] at h
  have h1 : n < 18446744073709551616 := by simpa [Nat.blt_eq] using h.1
  have h0 : 0 < n := by simpa [Nat.blt_eq] using h.2
  have h2 : (OfNat.ofNat n : Int) = (n : Int) := rfl
  rw [h2]
  have := Int.emod_nonneg x (show (n : Int) ≠ 0 by omega)
  have := Int.emod_lt_of_pos x (show (0 : Int) < n by omega)
  exact eq_true (by show Int.natAbs _ < 18446744073709551616; omega)
/-- a promise by what is asked, what comes back, what may be raised; x: what the caller has in mind -/
structure Sg (α : Type) where
  pre : α → List Sl → G → Prop
  post : α → G → R → G → Prop
  exc : α → G → X → G → Prop := fun _ _ _ _ => False
def Sg.wp {α : Type} (s : Sg α) : SpD := fun ss g E Q => ∃ x, s.pre x ss g ∧ (∀ r g', s.post x g r g' → Q r g') ∧ ∀ z g', s.exc x g z g' → E z g'
theorem call_of {α : Type} {s : Sg α} {ss : List Sl} {g : G} {E : X → G → Prop} {Q : R → G → Prop} (x : α) (h : s.pre x ss g) (k : ∀ r g', s.post x g r g' → Q r g') (e : ∀ z g', s.exc x g z g' → E z g' := by intro _ _ h; exact h.elim) : s.wp ss g E Q := ⟨x, h, k, e⟩
/-- taking the ends apart -/
theorem ret_now {g : G} {P : R → G → Prop} {r : R} (h : P r g) : ∃ g2, G.le g2 g ∧ P r g2 := ⟨g, G.le_refl g, h⟩
/-- a word J between two statements -/
theorem seq_of {s t : WS} {Dn : Ends} {ψ : Psi} {g : G} (J : Psi → G → Prop) (h1 : ∀ nx : Psi → G → Prop, (∀ ψ g, J ψ g → nx ψ g) → s ⟨nx, Dn.rt, Dn.bk, Dn.ct, Dn.ex⟩ ψ g) (h2 : ∀ ψ g, J ψ g → t Dn ψ g) : sSeq s t Dn ψ g := h1 (t Dn) h2
/-! loops by an invariant; what comes behind a turn is any K -/
theorem for_ind {tg : WG} {b : WS} {Dn : Ends} {ok : Psi → G → Prop} (I : List D → Psi → G → Prop)
    (step : ∀ (x : D) (xs : List D) (ψ : Psi) (g : G) (K : Psi → G → Prop), I (x :: xs) ψ g → (∀ ψ' g', I xs ψ' g' → K ψ' g') →
      tg x ψ g fun ψ g => b ⟨fun ψ' g' => ∃ g2, G.le g2 g' ∧ ok ψ' g2 ∧ K ψ' g2, Dn.rt, Dn.nx, fun ψ' g' => ∃ g2, G.le g2 g' ∧ ok ψ' g2 ∧ K ψ' g2, Dn.ex⟩ ψ g)
    (fin : ∀ ψ g, I [] ψ g → Dn.nx ψ g) : ∀ (xs : List D) (ψ : Psi) (g : G), I xs ψ g → forL tg b Dn ok xs ψ g
  | [], ψ, g, h => fin ψ g h
  | x :: xs, ψ, g, h => step x xs ψ g (forL tg b Dn ok xs) h fun ψ' g' h' => for_ind I step fin xs ψ' g' h'
theorem comp_ind {tg : WG} {tt : WT} {te : WE} {ok : Psi → G → Prop} {ψ0 ψw : Psi} {Q : List D → G → Prop} (I : List D → List D → G → Prop)
    (step : ∀ (x : D) (xs acc : List D) (g : G) (K : List D → G → Prop), I (x :: xs) acc g → (∀ acc' g', I xs acc' g' → K acc' g') →
      tg x ψw g fun ψ1 g => tt noX ψ1 g fun b ψ2 g => if b = true then te noX ψ2 g fun r ψ3 g => toD r ψ3 g fun d _ g => ok ψ0 g ∧ acc.length < most ∧ K (acc ++ [d]) g else ok ψ0 g ∧ K acc g)
    (fin : ∀ acc g, I [] acc g → Q acc g) : ∀ (xs acc : List D) (g : G), I xs acc g → compL tg tt te ok ψ0 ψw xs acc g Q
  | [], acc, g, h => fin acc g h
  | x :: xs, acc, g, h => step x xs acc g (fun acc' g' => compL tg tt te ok ψ0 ψw xs acc' g' Q) h fun acc' g' h' => comp_ind I step fin xs acc' g' h'
theorem while_ind {c : WT} {b : WS} {Dn : Ends} (I : Nat → Psi → G → Prop)
    (step : ∀ (n : Nat) (ψ : Psi) (g : G) (K : Psi → G → Prop), I n ψ g → (∀ m ψ' g', m < n → I m ψ' g' → K ψ' g') →
      c Dn.ex ψ g fun v ψ g => if v = true then b ⟨fun ψ' g' => ∃ g2, G.le g2 g' ∧ K ψ' g2, Dn.rt, Dn.nx, fun ψ' g' => ∃ g2, G.le g2 g' ∧ K ψ' g2, Dn.ex⟩ ψ g else Dn.nx ψ g) :
    ∀ (n : Nat) (ψ : Psi) (g : G), I n ψ g → sWhile c b Dn ψ g := by
  have key : ∀ (N n : Nat) (ψ : Psi) (g : G), n < N → I n ψ g → whileN c b Dn N ψ g := by
    intro N
    induction N with
    | zero => intro n ψ g h; omega
    | succ N ih => intro n ψ g h hI; exact step n ψ g (whileN c b Dn N) hI fun m ψ' g' hm hI' => ih m ψ' g' (by omega) hI'
  exact fun n ψ g h => ⟨n + 1, key (n + 1) n ψ g (Nat.lt_succ_self n) h⟩
theorem now {g : G} {P : G → Prop} (h : P g) : ∃ g2, G.le g2 g ∧ P g2 := ⟨g, G.le_refl g, h⟩
theorem atI_lt {α : Type} {xs : List α} {i : Int} (h0 : 0 ≤ i) (h1 : i < xs.length) : atI xs i = xs[i.toNat]? := by
  unfold atI idxOf
  rw [if_pos ⟨h0, h1⟩]; rfl
theorem idxOf_lt {n : Nat} {i : Int} (h0 : 0 ≤ i) (h1 : i < n) : idxOf n i = some i.toNat := if_pos ⟨h0, h1⟩
@[simp] theorem atI_lit {α : Type} (xs : List α) (n : Nat) : atI xs (no_index (OfNat.ofNat n : Int)) = xs[n]? := by
  have h2 : (OfNat.ofNat n : Int) = (n : Int) := rfl
  rw [h2]
  unfold atI idxOf
  by_cases h : n < xs.length
  · rw [if_pos ⟨by omega, by omega⟩]; simp
  · rw [if_neg (by omega), if_neg (by omega)]
    simp [List.getElem?_eq_none (Nat.le_of_not_lt h)]
@[simp] theorem numbered_cons (n : Nat) (x : D) (xs : List D) : numbered n (x :: xs) = .tup [.int n, x] :: numbered (n + 1) xs := nrfl rfl
theorem clampI_pos {n : Nat} {i : Int} (h : 0 ≤ i) : clampI n i = min i.toNat n := if_neg (by omega)
theorem cut_take {α : Type} (xs : List α) {i : Int} (h : 0 ≤ i) : cut xs none (some i) = xs.take i.toNat := by
  unfold cut bndN
  simp only [clampI_pos h, List.drop_zero]
  by_cases hl : i.toNat ≤ xs.length
  · rw [Nat.min_eq_left hl]
  · rw [Nat.min_eq_right (by omega), List.take_length, List.take_of_length_le (by omega)]
theorem cut_drop {α : Type} (xs : List α) {i : Int} (h : 0 ≤ i) : cut xs (some i) none = xs.drop i.toNat := by
  unfold cut bndN
  simp only [clampI_pos h, List.take_length]
  by_cases hl : i.toNat ≤ xs.length
  · rw [Nat.min_eq_left hl]
  · rw [Nat.min_eq_right (by omega), List.drop_length, List.drop_of_length_le (by omega)]
theorem cut_two {α : Type} (xs : List α) {i j : Int} (h : 0 ≤ i) (h' : 0 ≤ j) : cut xs (some i) (some j) = (xs.take j.toNat).drop i.toNat := by
  have e1 : xs.take (min j.toNat xs.length) = xs.take j.toNat := by
    by_cases hl : j.toNat ≤ xs.length
    · rw [Nat.min_eq_left hl]
    · rw [Nat.min_eq_right (by omega), List.take_length, List.take_of_length_le (by omega)]
  unfold cut bndN
  simp only [clampI_pos h, clampI_pos h', e1]
  by_cases hl : i.toNat ≤ xs.length
  · rw [Nat.min_eq_left hl]
  · rw [Nat.min_eq_right (by omega), List.drop_of_length_le (by rw [List.length_take]; omega), List.drop_of_length_le (by rw [List.length_take]; omega)]
@[simp] theorem cut_takeL {α : Type} (xs : List α) (n : Nat) : cut xs none (some (no_index (OfNat.ofNat n : Int))) = xs.take n := cut_take xs (i := (n : Int)) (by omega)
@[simp] theorem cut_twoL {α : Type} (xs : List α) (n m : Nat) : cut xs (some (no_index (OfNat.ofNat n : Int))) (some (no_index (OfNat.ofNat m : Int))) = (xs.take m).drop n := cut_two xs (i := (n : Int)) (j := (m : Int)) (by omega) (by omega)
@[simp] theorem cut_takeN {α : Type} (xs : List α) (n : Nat) : cut xs none (some (n : Int)) = xs.take n := cut_take xs (i := (n : Int)) (by omega)
@[simp] theorem cut_dropN {α : Type} (xs : List α) (n : Nat) : cut xs (some (n : Int)) none = xs.drop n := cut_drop xs (i := (n : Int)) (by omega)
@[simp] theorem atI_map {α β : Type} (f : α → β) (xs : List α) (i : Int) : atI (xs.map f) i = (atI xs i).map f := by
  unfold atI
  rw [List.length_map]
  cases idxOf xs.length i <;> simp
theorem atI_in {α : Type} {xs : List α} {i : Int} (h0 : 0 ≤ i) (h1 : i < xs.length) : ∃ h : i.toNat < xs.length, atI xs i = some xs[i.toNat] := by
  have h : i.toNat < xs.length := by omega
  exact ⟨h, by rw [atI_lt h0 h1, List.getElem?_eq_getElem h]⟩
@[simp] theorem still_own (o : O) (c : C) (ψ : Psi) (g : G) : still (.own o) c ψ g = True := nrfl rfl
@[simp] theorem still_d (x : D) (c : C) (ψ : Psi) (g : G) : still (.d x) c ψ g = (lookD g x = some c) := nrfl rfl
@[simp] theorem still_sl (i : Nat) (c : C) (ψ : Psi) (g : G) : still (.sl i) c ψ g = (look ψ g (.sl i) = some c) := nrfl rfl
@[simp] theorem idxOf_lit (n k : Nat) : idxOf n (no_index (OfNat.ofNat k : Int)) = if k < n then some k else none := by
  have h2 : (OfNat.ofNat k : Int) = (k : Int) := rfl
  rw [h2]
  unfold idxOf
  by_cases h : k < n
  · rw [if_pos ⟨by omega, by omega⟩, if_pos h]; simp
  · rw [if_neg (by omega), if_neg (by omega), if_neg h]
/-! texts -/
abbrev T (ws : List (List Nat)) : List D := ws.map D.str
@[simp] theorem in_sign (g : G) (c : Nat) (t : List Nat) : oIn g (.d (.str [c])) (.d (.str t)) = some (.d (.bl (decide (c ∈ t)))) := nrfl rfl
theorem hasK_mem (kvs : List (D × D)) (k : D) : hasK kvs k = decide (k ∈ kvs.map (·.1)) := by
  unfold hasK
  induction kvs with
  | nil => simp
  | cons p r ih => rw [List.any_cons, ih, ← Bool.decide_or]; congr 1; simp [eq_comm]
@[simp] theorem in_dic (g : G) (x : D) (t : Bool) (kvs : List (D × D)) : oIn g (.d x) (.o (.dic t kvs)) = if keyOk t x = true then some (.d (.bl (decide (x ∈ kvs.map (·.1))))) else none := by
  have h : inT g (.d x) (.o (.dic t kvs)) = if keyOk t x then some (hasK kvs x) else none := by
    cases x with
    | str s => rcases s with _ | ⟨a, _ | ⟨b, s⟩⟩ <;> rfl
    | _ => rfl
  unfold oIn; rw [h, hasK_mem]; split <;> rfl
@[simp] theorem nin_dic (g : G) (x : D) (t : Bool) (kvs : List (D × D)) : oNin g (.d x) (.o (.dic t kvs)) = if keyOk t x = true then some (.d (.bl (!decide (x ∈ kvs.map (·.1))))) else none := by
  have h : inC g (.d x) (.o (.dic t kvs)) = if keyOk t x then some (hasK kvs x) else none := by cases x <;> rfl
  unfold oNin; rw [h, hasK_mem]; split <;> rfl
theorem pures_T : ∀ ws : List (List Nat), D.pures (T ws) = true
  | [] => rfl
  | w :: ws => by show (true && D.pures (T ws)) = true; rw [pures_T ws]; rfl
theorem depths_T : ∀ ws : List (List Nat), D.depths (T ws) = 0
  | [] => rfl
  | w :: ws => by show max 0 (D.depths (T ws)) = 0; rw [depths_T ws]; rfl
theorem mem_T {w : List Nat} {ws : List (List Nat)} : D.str w ∈ T ws ↔ w ∈ ws := by simp [T]
@[simp] theorem in_T (g : G) (w : List Nat) (ws : List (List Nat)) : oIn g (.d (.str w)) (.o (.lst (ws.map D.str))) = some (.d (.bl (decide (w ∈ ws)))) := by
  have h : inT g (.d (.str w)) (.o (.lst (T ws))) = some (decide (w ∈ ws)) := by
    have h0 : inT g (.d (.str w)) (.o (.lst (T ws))) = inC g (.d (.str w)) (.o (.lst (T ws))) := by rcases w with _ | ⟨a, _ | ⟨b, w⟩⟩ <;> rfl
    rw [h0]
    show (if (D.str w).pure && D.pures (T ws) && decide ((D.str w).depth ≤ 50) && decide (D.depths (T ws) ≤ 50) then some (decide (D.str w ∈ T ws)) else none) = _
    rw [pures_T, depths_T]
    simp [D.pure, D.depth]
  unfold oIn; rw [h]; rfl
@[simp] theorem nin_T (g : G) (w : List Nat) (ws : List (List Nat)) : oNin g (.d (.str w)) (.o (.lst (ws.map D.str))) = some (.d (.bl (!decide (w ∈ ws)))) := by
  have h : inC g (.d (.str w)) (.o (.lst (T ws))) = some (decide (w ∈ ws)) := by
    show (if (D.str w).pure && D.pures (T ws) && decide ((D.str w).depth ≤ 50) && decide (D.depths (T ws) ≤ 50) then some (decide (D.str w ∈ T ws)) else none) = _
    rw [pures_T, depths_T]
    simp [D.pure, D.depth]
  unfold oNin; rw [h]; rfl
theorem rsv_T (n : Nat) (g : G) : ∀ ws : List (List Nat), (T ws).mapM (rsv n g) = some (T ws)
  | [] => rfl
  | w :: ws => by
    have h : rsv n g (.str w) = some (.str w) := by cases n <;> rfl
    show ((D.str w) :: T ws).mapM (rsv n g) = _
    rw [List.mapM_cons, h, rsv_T n g ws]; rfl
theorem rsvC_T (g : G) (ws : List (List Nat)) : rsvC g (.o (.lst (T ws))) = some (.rol (T ws)) := by
  show ((T ws).mapM (rsv 6 g)).map D.rol = _
  rw [rsv_T]; rfl
theorem T_inj {a b : List (List Nat)} : (D.rol (T a) = D.rol (T b)) ↔ a = b := by
  constructor
  · intro h
    have h' : T a = T b := D.rol.inj h
    exact (List.map_inj_right fun _ _ e => D.str.inj e).mp h'
  · rintro rfl; rfl
theorem eqC_T (g : G) (a b : List (List Nat)) : eqC g (.o (.lst (T a))) (.o (.lst (T b))) = some (decide (a = b)) := by
  have h0 : eqC g (.o (.lst (T a))) (.o (.lst (T b))) = match rsvC g (.o (.lst (T a))), rsvC g (.o (.lst (T b))) with
    | some x, some y => if x.depth ≤ 60 ∧ y.depth ≤ 60 then some (decide (x = y)) else none
    | _, _ => none := rfl
  rw [h0, rsvC_T, rsvC_T]
  have d : ∀ c, (D.rol (T c)).depth = 1 := fun c => by show D.depths (T c) + 1 = 1; rw [depths_T]
  simp only [d]
  rw [if_pos ⟨by omega, by omega⟩]
  congr 1
  exact decide_eq_decide.mpr T_inj
@[simp] theorem eq_T (g : G) (a b : List (List Nat)) : oEq g (.o (.lst (a.map D.str))) (.o (.lst (b.map D.str))) = some (.d (.bl (decide (a = b)))) := by
  unfold oEq; rw [eqC_T]; rfl
@[simp] theorem ne_T (g : G) (a b : List (List Nat)) : oNe g (.o (.lst (a.map D.str))) (.o (.lst (b.map D.str))) = some (.d (.bl (!decide (a = b)))) := by
  unfold oNe; rw [eqC_T]; rfl
@[simp] theorem eq_T0 (g : G) (a : List (List Nat)) : oEq g (.o (.lst (a.map D.str))) (.o (.lst [])) = some (.d (.bl (decide (a = [])))) := eq_T g a []
@[simp] theorem ne_T0 (g : G) (a : List (List Nat)) : oNe g (.o (.lst (a.map D.str))) (.o (.lst [])) = some (.d (.bl (!decide (a = [])))) := ne_T g a []
@[simp] theorem textsD_T : ∀ ws : List (List Nat), textsD (ws.map D.str) = some ws
  | [] => rfl
  | w :: ws => by show (textsD (ws.map D.str)).map (w :: ·) = _; rw [textsD_T ws]; rfl
@[simp] theorem boolsD_B : ∀ bs : List Bool, boolsD (bs.map D.bl) = some bs
  | [] => rfl
  | w :: ws => by show (boolsD (ws.map D.bl)).map (w :: ·) = _; rw [boolsD_B ws]; rfl
@[simp] theorem lookS_lendS (g : G) (s : Sl) : lookS g (lendS s) = lookS g s := by cases s <;> rfl
theorem lookS_new {g : G} {s : Sl} {c : C} {q : Nat} {o : O} (h : lookS g s = some c) (hq : g q = none) : lookS (g.upd q o) s = some c := by
  cases s with
  | own o' => exact h
  | bor o' => exact h
  | fz kvs => exact h
  | d x =>
    cases x with
    | ref a =>
      have h' : (g a).map C.o = some c := h
      show ((g.upd q o) a).map C.o = some c
      rw [G.upd_ne]; exact h'
      rintro rfl; rw [hq] at h'; cases h'
    | _ => exact h
theorem lookS_upd {g : G} {s : Sl} {c : C} {q : Nat} {o : O} (h : lookS g s = some c) (hq : ∀ o', g q = some o' → c ≠ .o o') : lookS (g.upd q o) s = some c := by
  cases s with
  | own o' => exact h
  | bor o' => exact h
  | fz kvs => exact h
  | d x =>
    cases x with
    | ref a =>
      have h' : (g a).map C.o = some c := h
      show ((g.upd q o) a).map C.o = some c
      rw [G.upd_ne]; exact h'
      rintro rfl
      obtain ⟨o', e1, rfl⟩ := Option.map_eq_some_iff.mp h'
      exact hq o' e1 rfl
    | _ => exact h
theorem joinL_single : ∀ cs : List Nat, joinL [] (cs.map fun c => [c]) = cs
  | [] => rfl
  | [c] => rfl
  | c :: d :: cs => by
    show [c] ++ [] ++ joinL [] ((d :: cs).map fun c => [c]) = _
    rw [joinL_single (d :: cs)]; rfl
theorem sum_single : ∀ cs : List Nat, ((cs.map fun c => [c]).map List.length).sum = cs.length
  | [] => rfl
  | c :: cs => by
    show 1 + ((cs.map fun c => [c]).map List.length).sum = _
    rw [sum_single cs, List.length_cons]; omega
@[simp high] theorem join_single (g : G) (cs : List Nat) (h : cs.length ≤ most) : oJoin [] g (.o (.lst (cs.map fun c => D.str [c]))) = some (.d (.str cs)) := by
  have e : cs.map (fun c => D.str [c]) = (cs.map fun c => [c]).map D.str := by rw [List.map_map]; rfl
  rw [e, o_join, textsD_T]
  simp only [Option.bind_some, sum_single, joinL_single, List.length_nil, Nat.mul_zero, Nat.add_zero]
  rw [if_pos h]
@[simp] theorem o_mulL {g : G} {i j : Int} (h : small i) : oMul g (.d (.int i)) (.d (.int j)) = some (.d (.int (i * j))) := (o_mul g i j).trans (if_pos (.inl h))
@[simp] theorem o_mulR {g : G} {i j : Int} (h : small j) : oMul g (.d (.int i)) (.d (.int j)) = some (.d (.int (i * j))) := (o_mul g i j).trans (if_pos (.inr h))
theorem look_kept {g g' : G} {s : Sl} {xs : List D} (h : lookS g s = some (.o (.lst xs))) (k : ∀ a, g a = some (.lst xs) → g' a = some (.lst xs)) : lookS g' s = some (.o (.lst xs)) := by
  cases s with
  | own o => exact h
  | bor o => exact h
  | fz kvs => exact h
  | d x =>
    cases x with
    | ref a =>
      have h' : (g a).map C.o = some (.o (.lst xs)) := h
      obtain ⟨o, e1, e2⟩ := Option.map_eq_some_iff.mp h'
      cases e2
      show (g' a).map C.o = _
      rw [k a e1]; rfl
    | _ => exact h
theorem look_mid {g g' : G} {s : Sl} {xs : List D} {q : Nat} {o : O} (h : lookS g s = some (.o (.lst xs))) (hq : g q = some o) (ho : o ≠ .lst xs) (k : ∀ a u, g a = some u → a ≠ q → g' a = some u) : lookS g' s = some (.o (.lst xs)) :=
  look_kept h fun a e => k a _ e fun z => by rw [z, hq] at e; exact ho (Option.some.inj e)
theorem lend_some (s : Sl) : lend (some s) = some (lendS s) := by cases s <;> rfl
theorem lend_none : lend none = none := rfl
end Pd
set_option Elab.async false
set_option linter.all false
set_option maxRecDepth 100000
set_option maxHeartbeats 1000000
namespace Pd
open PySem PySem.Spec PyProof.Rows L2
section
variable {X : Cx} {tb : Tb} {e a b c o : Expr} {es : List Expr} {te ta tv to u : WE} {ts : WD} {pos apos : Pos}
/-! ### attributes, items stored -/
theorem RFs.put {K : PySem.W.Frag} {H H' : Hp} (kp : Keep H H') {f : String} {d : D} {v : V} (rd : RV K H' d v) : ∀ {fs : List (String × D)} {vs : List (Str × V)}, RFs K H fs vs → RFs K H' (Pd.putF f d fs) (L2.putF (Str.ofString f) v vs)
  | _, _, .nil => .cons ⟨rfl, rd⟩ .nil
  | p :: fs, q :: vs, .cons r t => by
    obtain ⟨h, x⟩ := p
    obtain ⟨g, y⟩ := q
    obtain ⟨r1, r2⟩ := r
    have r1' : Str.ofString h = g := r1
    subst r1'
    show RFs K H' (if f = h then (h, d) :: fs else (h, x) :: Pd.putF f d fs) (if Str.ofString h = Str.ofString f then (Str.ofString h, v) :: vs else (Str.ofString h, y) :: L2.putF (Str.ofString f) v vs)
    by_cases e : f = h
    · subst e
      rw [if_pos rfl, if_pos rfl]
      exact .cons ⟨rfl, rd⟩ (L2.Paired.mapP t fun _ _ z => ⟨z.1, z.2.keep kp⟩)
    · rw [if_neg e, if_neg fun z => e (ofString_inj z).symm]
      exact .cons ⟨rfl, r2.keep kp⟩ (RFs.put kp rd t)
theorem RFs.length {K : PySem.W.Frag} {H : Hp} {fs : List (String × D)} {vs : List (Str × V)} (h : RFs K H fs vs) : fs.length = vs.length := paired_len h
theorem ds_fld {x : Str} {p : Pos} (cn f : String) (I : InsOk X.K tb cn x) (ho : DE X tb o to) (hv : DE X tb e tv) (hx : Str.ofString f = x := by rfl) (hs : swapsWith e (some (.Attribute o x p)) pos.line X.env = pure false := by rfl) :
    DSt X tb (.Assign [.Attribute o x p] e pos) [] (sFld cn f to tv) := fun W tk => by
  obtain ⟨t1, h1, h2⟩ := hv W tk
  obtain ⟨t2, h3, h4⟩ := ho W tk
  refine ⟨_, ps_fld h3 h1 hs, fun Dn E F T ψ g σ H R ex ou q => h2 Dn.ex F T ψ g σ H _ _ R ex.now q fun r ψ1 g1 T1 v H1 q1 rr R1 k1 => ?_⟩
  obtain ⟨d, ψ2, g2, q2, rd, R2⟩ := R1.toD rr q1
  refine h4 Dn.ex F T ψ2 g2 σ H1 _ _ R2 (ex.now.on k1) q2 fun r' ψ3 g3 T3 w H3 q3 rr3 R3 k3 => ?_
  obtain ⟨y, ψ4, g4, q4, ry, R4⟩ := R3.toD rr3 q3
  cases y with
  | ref a =>
    cases ry
    have q4' : (match g4 a with | some (.ins c' fs) => c' = cn ∧ fs.length < 900 ∧ Dn.nx ψ4 (g4.upd a (.ins cn (Pd.putF f d fs))) | _ => False) := q4
    split at q4'
    · rename_i c' fs e1
      obtain ⟨rfl, hl, q5⟩ := q4'
      obtain ⟨C, dx, vfs, e2, e3, e4⟩ := R4.gl a _ e1
      refine ⟨a, C, dx, vfs, rfl, e3, (I.is C e2).1, (I.is C e2).2, by rw [← RFs.length e4]; omega, ?_⟩
      have kw : Keep H3 (L2.upd H3 a (.ins C dx (L2.putF x v vfs))) := Keep.upd (by rw [e3]; trivial)
      obtain ⟨R5, k5⟩ := R4.writeG (o' := .ins c' (Pd.putF f d fs)) (u := .ins C dx (L2.putF x v vfs)) e1 ⟨C, dx, _, e2, upd_same, by rw [← hx]; exact RFs.put (by rw [hx]; exact kw) ((rd.keep k3).keep (by rw [hx]; exact kw)) e4⟩
      exact ou.nx ψ4 _ σ _ q5 R5 ((k1.trans k3).trans k5) fun _ _ => rfl
    · exact q4'.elim
  | _ => exact q4.elim
theorem PSet.or {r r' : L2.TSet} (h : PSet X r) (h' : PSet X r') : PSet X (fun o i v H Q => r o i v H Q ∨ r' o i v H Q) := by
  intro pins s σ H o i v ov iv u Q I ro ri rv q
  rcases q with q | q
  · exact h pins s σ H o i v ov iv u Q I ro ri rv q
  · exact h' pins s σ H o i v ov iv u Q I ro ri rv q
def rSetAll (X : Cx) : L2.TSet := fun o i v H Q => rSetL o i v H Q ∨ (rSetK o i v H Q ∨ rSetN X o i v H Q)
theorem set_all (hu : X.A.units + 128 < cLine) : PSet X (rSetAll X) := PSet.or set_list (PSet.or (set_K (by omega)) (set_N (by omega)))
theorem putK_le : ∀ (kvs : List (D × D)) (k v : D), (Pd.putK kvs k v).length ≤ kvs.length + 1
  | [], _, _ => Nat.le_refl _
  | p :: r, k, v => by
    unfold Pd.putK
    split
    · exact Nat.le_succ _
    · exact Nat.succ_le_succ (putK_le r k v)
theorem putIx_soft {ob ob' : O} {i x : D} (e : putIx ob i x = some ob') : ob.soft = true := by
  cases ob with
  | fzd t kvs => cases e
  | _ => rfl
theorem ok_putIx {H : Hp} {ad : Addr} {ob ob' : O} {i x : D} {iv xv : V} {Q : Hp → Prop} (ro : RO (bx X tb) H ob ad) (ri : RV X.K H i iv) (rx : RV X.K H x xv) (e : putIx ob i x = some ob') (k : ∀ w, RO (bx X tb) (L2.upd H ad w) ob' ad → Q (L2.upd H ad w)) :
    rSetAll X (.ref ad) iv xv H Q := by
  have kp : ∀ w, Keep H (L2.upd H ad w) := fun w => Keep.upd (ro.soft (putIx_soft e))
  unfold putIx at e
  split at e
  · obtain ⟨j, e1, rfl⟩ := Option.map_eq_some_iff.mp e
    obtain ⟨vs, h1, h2⟩ := ro
    cases ri
    rw [idxOf_ixN] at e1
    exact .inl ⟨ad, vs, _, j, rfl, rfl, h1, by rw [← h2.length]; exact e1, k _ ⟨_, upd_same, RVs.set (rx.keep (kp _)) j (h2.keep (kp _))⟩⟩
  · rename_i t kvs
    split at e
    · rename_i hk
      cases e
      cases t with
      | false =>
        obtain ⟨q, eq⟩ := keyOk_flat hk.1
        have hx := flat_V ri eq
        subst hx
        obtain ⟨ks, h1, h2, h3⟩ := ro
        refine .inr (.inl ⟨ad, _, rfl, DPut.k h1 (by rw [← paired_len h3, ← most_eq]; exact hk.2), k _ ⟨_, upd_same, nodup_put _ _ _ h2, KR.put (kp _) ri rx h3 h2⟩⟩)
      | true =>
        obtain ⟨h1, h2, xs, rfl⟩ := keyOk_nest hk.1
        obtain ⟨nkk, en⟩ := nk_some _ h1
        obtain ⟨p, rfl⟩ : ∃ p, iv = .ref p := by cases ri with | tup a b => exact ⟨_, rfl⟩
        rcases ro with ⟨rfl, h3⟩ | ⟨ys, h3, h4, h5, h6, h7⟩
        · refine .inr (.inr ⟨p, ad, _, nkk, [], rfl, rfl, .inr ⟨rfl, h3⟩, ri, en, h2, by show 0 < sizeLine; decide, fun u ru sm => k _ (.inr ⟨_, upd_same, sm, nodup_stored _ _ _ _ List.nodup_nil, ?_, NR.put (kp _) en h2 ri rx ru .nil List.nodup_nil⟩)⟩)
          show 1 ≤ sizeLine
          decide
        · refine .inr (.inr ⟨p, ad, _, nkk, ys, rfl, rfl, .inl (NR.nest h3 h4 h5 h6 h7), ri, en, h2, by rw [← paired_len h7, ← most_eq]; exact hk.2, fun u ru sm => ?_⟩)
          have z := NR.put (kp (dN X.prog X.w ad (storedH ys nkk p u))) en h2 ri rx ru h7 h5
          refine k _ (.inr ⟨_, upd_same, sm, nodup_stored _ _ _ _ h5, ?_, z⟩)
          rw [← paired_len z]
          have := putK_le kvs (.tup xs) x
          have h9 := hk.2
          rw [most_eq] at h9
          omega
    · cases e
  · cases e
theorem ds_setIx {i : Expr} {ti : WE} {p : Pos} (hu : X.A.units + 128 < cLine) (ho : DE X tb o to) (hi : DE X tb i ti) (hv : DE X tb e tv) (hs : swapsWithSole [.Subscript o i p] e pos.line X.env = pure false := by rfl) (hw : swappedStores [.Subscript o i p] e X.env = pure none := by rfl)
    (h1 : (assignEach [.Subscript o i p] X.env).map (·.2) = [assign (.Subscript o i p) X.env] := by rfl)
    (ha : ∀ v, assign (.Subscript o i p) X.env v = (do
      let ov ← holding [v] (eval o X.env)
      let iv ← holding [v, ov] (eval i X.env)
      standAt p
      holding [v, ov, iv] (setItem ov iv v)
      release [v, ov, iv] []) := by intro _; rfl) : DSt X tb (.Assign [.Subscript o i p] e pos) [] (sSetIx putIx to ti tv) := fun W tk => by
  obtain ⟨t1, h2, h3⟩ := hv W tk
  obtain ⟨t2, h4, h5⟩ := ho W tk
  obtain ⟨t3, h6, h7⟩ := hi W tk
  refine ⟨_, ps_asg h2 (pg_sub h4 h6 (set_all hu) ha) hs hw h1, fun Dn E F T ψ g σ H R ex ou q => h3 Dn.ex F T ψ g σ H _ _ R ex.now q fun r ψ1 g1 T1 v H1 q1 rr R1 k1 => ?_⟩
  obtain ⟨d, ψ2, g2, q2, rd, R2⟩ := R1.toD rr q1
  refine h5 Dn.ex F T ψ2 g2 σ H1 _ _ R2 (ex.now.on k1) q2 fun r3 ψ3 g3 T3 w H3 q3 rr3 R3 k3 => ?_
  obtain ⟨T', rfl⟩ := id rr3.suffix
  refine h7 Dn.ex F (T' ++ T) ψ3 g3 σ H3 _ _ R3 (ex.now.more (k1.trans k3)) q3 fun r4 ψ4 g4 T4 z H4 q4 rr4 R4 k4 => ?_
  obtain ⟨iD, ψ5, g5, q5, ri, R5⟩ := R4.toD rr4 q4
  split at q5
  · rename_i ob e1
    obtain ⟨ob', e2, q6⟩ := optQ_inv q5
    obtain ⟨ad, rfl, ro, wq⟩ := rel_wr R5 (rr3.keep k4) e1 q6 (putIx_soft e2)
    refine ok_putIx ro ri ((rd.keep k3).keep k4) e2 fun w ho' => ?_
    obtain ⟨ψ6, g6, q7, R6, k6⟩ := wq w ho'
    exact ou.nx ψ6 g6 σ _ q7 R6 (((k1.trans k3).trans k4).trans k6) fun _ _ => rfl
  · exact q5.elim
end

/-! ### a def keeps its promise -/
section
variable {P : Program} {w : World} {K : PySem.W.Frag} {mg : Str → Option Value} {base : Heap} {tb : Tb}
theorem own_none : ∀ (ψ : Psi) (σ : L2.St), (∀ (i : Nat) (s : Sl), ψ[i]? = some (some s) → ∀ o, s ≠ .own o) → ownL ψ σ = []
  | [], _, _ => rfl
  | _ :: _, [], _ => rfl
  | s :: ψ, v :: σ, h => by
    show own1 s v ++ ownL ψ σ = []
    rw [own_none ψ σ fun i z e => h (i + 1) z (by simpa using e), List.append_nil]
    cases s with
    | none => rfl
    | some s =>
      cases s with
      | own o => exact absurd rfl (h 0 _ rfl o)
      | d x => rfl
      | bor o => rfl
      | fz kvs => rfl
theorem paired_get {α β : Type} {Rr : α → β → Prop} : ∀ {xs : List α} {ys : List β} {i : Nat} {x : α}, Paired Rr xs ys → xs[i]? = some x → ∃ y, ys[i]? = some y ∧ Rr x y
  | _, _, _, _, .nil, e => by simp at e
  | _, _, 0, _, .cons r _, e => by simp at e; subst e; exact ⟨_, rfl, r⟩
  | _, _, i + 1, x, .cons _ t, e => by
    obtain ⟨v, h1, h2⟩ := paired_get (i := i) (x := x) t (by simpa using e)
    exact ⟨v, by simpa using h1, h2⟩
theorem begin_get {ss : List Sl} {n i : Nat} {s : Sl} (h : (begin_ ss n)[i]? = some (some s)) : ss[i]? = some s := by
  unfold begin_ at h
  by_cases hi : i < ss.length
  · rw [List.getElem?_append_left (by simpa using hi), List.getElem?_map] at h
    obtain ⟨x, e1, e2⟩ := Option.map_eq_some_iff.mp h
    cases e2; exact e1
  · rw [List.getElem?_append_right (by simpa using hi), List.getElem?_replicate] at h
    split at h <;> cases h
theorem rel_begin {B : Bx} {ss : List Sl} {vs : List V} {N : List Str} {g : G} {F : Own} {H : Hp} (pr : Paired (SlRel B F H) ss vs) (no : ∀ s ∈ ss, ∀ o, s ≠ .own o) (gl : Glob B g H) (ow : Owns B g F H) : Rel B F (begin_ ss (N.length - ss.length)) g [] (L2.start N vs) H := by
  have hl := paired_len pr
  refine ⟨?_, fun i s h => ?_, gl, ?_⟩
  · unfold begin_ L2.start
    rw [List.length_append, List.length_append, List.length_map, List.length_map, List.length_replicate, List.length_replicate, hl]
  · have e := begin_get h
    obtain ⟨v, h1, h2⟩ := paired_get pr e
    refine ⟨v, ?_, h2⟩
    unfold L2.start
    rw [List.getElem?_append_left (by rw [List.length_map]; exact (List.getElem?_eq_some_iff.mp h1).1), List.getElem?_map, h1]
    rfl
  · rw [own_none _ _ fun i s h => no s (List.mem_of_getElem? (begin_get h))]
    exact ow
theorem fn_d {x qual : Str} {st : Stmt} {f : Addr} {fd : FuncData} {N prs : List Str} {k : Nat} {φ : SpD} {bd : WS} (Fd : Fun K x qual st f fd) (Sc : FnScope N prs (defScope st)) (hlen : ∀ ss g E Q, φ ss g E Q → ss.length = prs.length)
    (hd : ∀ (cdv : Value) (A : Around) (outer : List Env) (s : Shared) (H : Hp) (E : XK), Room k (A.deeper (envOfC qual (defScope st) s.heap.objs.size f cdv)) → ∃ Sw, DSs (cxOf (L2.CX P w) P w K mg base N qual (defScope st) f cdv A outer s H E) tb (defBody st) Sw bd)
    (kp : Keeps φ bd N.length) : FnOk P w K mg base (L2.CX P w) (k + 1) f fd prs (lift ⟨P, w, K, tb.cl⟩ tb.ec φ) := by
  refine Fd.okX Sc (fun vs H Q E h => ?_) fun cdv A outer s H vs Q E hr h => ?_
  · obtain ⟨ss, g, F, h1, _, _, _, h2⟩ := h
    rw [← paired_len h1]; exact hlen _ _ _ _ h2
  · obtain ⟨ss, g, F, pr, no, gl, ow, q⟩ := h
    obtain ⟨Sw, hd1⟩ := hd cdv A outer s H E hr
    obtain ⟨t0, h1, h2⟩ := hd1 (fun cls d _ H' => E cls d H') (takes_of rfl rfl rfl rfl)
    refine ⟨t0, h1, h2 (endsOf (fun x g' => ∀ cls dx H', Glob ⟨P, w, K, tb.cl⟩ g' H' → Owns ⟨P, w, K, tb.cl⟩ g' F H' → RX tb.ec K x cls dx H' → Keep H H' → E cls dx H') (fun r g' => ∀ v H', RetR ⟨P, w, K, tb.cl⟩ F r v g' H' → Keep H H' → Q v H'))
      { nx := fun _ H' => Q .non H', rt := Q } F [] _ g _ H (rel_begin pr no gl ow) (fun σ' _ x ψ g' H' cls dx e R rx kk => ?_) ⟨fun ψ1 g1 σ1 H1 q1 R1 k1 _ => ?_, fun r g1 v H1 q1 rt k1 => q1 v H1 rt k1, fun _ _ _ _ z => z.elim, fun _ _ _ _ z => z.elim⟩ (kp ss g _ _ q)⟩
    · exact e cls dx H' R.gl (R.ow.sub ((List.sublist_append_right _ _).trans (List.sublist_append_right _ _))) rx kk
    · obtain ⟨g2, hle, q2⟩ := q1
      exact q2 .non H1 ⟨.non, (R1.le hle).gl, (R1.le hle).ow.sub ((List.sublist_append_right _ _).trans (List.sublist_append_right _ _))⟩ k1
theorem Sg.mono {α : Type} (s : Sg α) : Mono s.wp := fun ss g A A' C C' h h' ⟨x, a, b, c⟩ => ⟨x, a, fun r g' z => h' _ _ (b r g' z), fun z g' y => h _ _ (c z g' y)⟩
theorem passes_cx {N : List Str} {qual : Str} {sc : Scope} {f : Addr} {cd : Value} {A : Around} {outer : List Env} {s : Shared} {H : Hp} {E : XK} {CX : CXT} :
    PassesOwn (model (cxOf CX P w K mg base N qual sc f cd A outer s H E).prog (cxOf CX P w K mg base N qual sc f cd A outer s H E).w) (cxOf CX P w K mg base N qual sc f cd A outer s H E).A (cxOf CX P w K mg base N qual sc f cd A outer s H E).env (cxOf CX P w K mg base N qual sc f cd A outer s H E).xe := passes_of rfl
theorem fn_no {f : Addr} {fd : FuncData} {prs : List Str} {k : Nat} {B : Bx} {ec : String → Option Addr} : FnOk P w K mg base (L2.CX P w) k f fd prs (lift B ec fun _ _ _ _ => False) :=
  ⟨fun _ _ _ _ h => let ⟨_, _, _, _, _, _, _, z⟩ := h; z.elim, fun _ _ _ _ _ _ _ _ _ _ _ _ _ h => let ⟨_, _, _, _, _, _, _, z⟩ := h; z.elim⟩
end
end Pd
set_option Elab.async false
set_option linter.all false
set_option maxRecDepth 100000
set_option maxHeartbeats 1000000
namespace Pd
open PySem PySem.Spec PyProof.Rows L2
/-! ### an own class's __init__ over that of ValueError -/
/-- the class through whose name __init__ is called -/
structure BaseX (K : PySem.W.Frag) (mg : Str → Option Value) (x : Str) : Prop where
  ex : ∃ (C : Addr) (mc : Value), mg x = some (.ref C) ∧ PySem.W.specialIn K (.ref C) "__getattribute__" = some (some (.builtin "type.__getattribute__")) ∧ PySem.W.readsIn K C mc = true ∧
    PySem.W.findCls K (.ref C) mc "__init__" = some (.val (.builtin "ValueError.__init__"))
section
variable {X : Cx} {tb : Tb} {e a b c o : Expr} {es : List Expr} {te ta tv to u : WE} {ts : WD} {pos apos p p1 p2 : Pos} {x : Str}
theorem pc_initB {t0 : TA} {pl : Sem Bool} (bb : BaseX X.K X.mg x) (hg : Gl X x) (nd : (x == ("__debug__" : Str)) = false) (ha : PA X (e :: es) t0)
    (ev : eval (.Call (.Attribute (.Name x p1) "__init__" p2) (e :: es) [] pos) X.env = (do let ov ← eval (.Name x p1) X.env; standAt p2.atName; let (f, first) ← holding [ov] (getMethod ov "__init__" pl); callWith pos f first (backTo pos (starEach (e :: es) X.env)) (backToKw pos (keywordEach [] X.env))))
    (st : starEach (e :: es) X.env = (false, eval e X.env) :: starEach es X.env) (pn : (backTo pos (starEach es X.env)).any (·.1) = false) : PE X (.Call (.Attribute (.Name x p1) "__init__" p2) (e :: es) [] pos) (tVeI X.K t0) := by
  obtain ⟨C, mc, mx, ga, rd, fi⟩ := bb.ex
  refine ⟨fun pins s σ H Q I hw => PySem.W.methodCall_KW (ld_glob I hg mx (PySem.W.method_cls I.kIn ga (PySem.W.cls_value I.kIn rd fi (by decide +kernel) ?_)) nd) ev⟩
  show wpAny _ _ (callWith pos (Value.builtin "ValueError.__init__") [] (backTo pos (starEach (e :: es) X.env)) []) _ _ _
  refine PyProof.Rows.callWith_method1 (thn (ha.run pos pins _ σ H _ (I.tok _) hw) fun us s1 ⟨vs, H1, I1, rv, ad, C', ws, ew, hl, T, ea, q⟩ => ?_) st pn
  subst ew
  cases rv with
  | @cons _ u0 _ ur ra rr =>
    cases (show u0 = Value.ref ad from ra)
    refine oinit_ok T I1 ea ?_ fun s' J => ⟨.non, H1, J, rfl, q⟩
    rw [← Paired.length rr, sizeLine_eq]
    omega
/-- a promise of such an __init__: the arguments are the fields -/
def spX (C : Addr) (ns : List Str) : Sp := fun vs H Q _ => ∃ (ad : Addr) (ws : List V), vs = .ref ad :: ws ∧ ws.length = ns.length ∧ H ad = some (exo ad C none) ∧
  ∀ (d : Addr) (H2 : Hp), H d = none → d ≠ ad → H2 ad = some (exo ad C (some d)) → H2 d = some (exd d (ns.zip ws).reverse) → (∀ b, b ≠ ad → b ≠ d → H2 b = H b) → Q .non H2
section
variable {P : Program} {w : World} {K : PySem.W.Frag} {mg : Str → Option Value} {base : Heap} {CX : CXT}
abbrev tI (K : PySem.W.Frag) (m : Str) : TS := tDrop (tVeI K (tCons (tVar 0) (tCons (tC (.str m)) tNil)))
theorem ok_init1 {qn x n1 f1 m : Str} {st : Stmt} {f C : Addr} {fd : FuncData} {k : Nat} (Fd : Fun K x qn st f fd) (Sc : FnScope ["self", n1] ["self", n1] (defScope st)) (T : OexC K C) (no1 : PySem.W.findIn K (.ref C) f1 = some none)
    (bd : ∀ (cdv : Value) (A : Around) (outer : List Env) (s : Shared) (H : Hp) (E : XK), PSs (cxOf (L2.CX P w) P w K mg base ["self", n1] qn (defScope st) f cdv A outer s H E) (defBody st) (tSeq (tI K m) (tOst K f1 (tVar 0) (tVar 1)))) :
    FnOk P w K mg base (L2.CX P w) (k + 1) f fd ["self", n1] (spX C [f1]) := by
  refine Fd.okX Sc (fun vs H Q E h => ?_) fun cdv A outer s H vs Q E hr h => ⟨_, bd cdv A outer s H E, ?_⟩
  · obtain ⟨ad, ws, rfl, hl, _⟩ := h
    simp [hl]
  · obtain ⟨ad, ws, rfl, hl, ea, kq⟩ := h
    match ws, hl with
    | [y], _ =>
      refine ⟨_, rfl, ad, C, [.str m], rfl, by show 1 ≤ 1000; decide, T, ea, _, rfl, _, rfl, ad, C, rfl, T, no1, .inl ⟨ea, fun dx hdx ne => ?_⟩⟩
      refine kq dx _ hdx ne upd_same (by rw [upd_ne ne, upd_same]; rfl) fun b hb hd => by rw [upd_ne hb, upd_ne hd]
theorem ok_init2 {qn x n1 n2 f1 f2 m : Str} {st : Stmt} {f C : Addr} {fd : FuncData} {k : Nat} (Fd : Fun K x qn st f fd) (Sc : FnScope ["self", n1, n2] ["self", n1, n2] (defScope st)) (T : OexC K C) (no1 : PySem.W.findIn K (.ref C) f1 = some none) (no2 : PySem.W.findIn K (.ref C) f2 = some none)
    (bd : ∀ (cdv : Value) (A : Around) (outer : List Env) (s : Shared) (H : Hp) (E : XK), PSs (cxOf (L2.CX P w) P w K mg base ["self", n1, n2] qn (defScope st) f cdv A outer s H E) (defBody st) (tSeq (tI K m) (tSeq (tOst K f1 (tVar 0) (tVar 1)) (tOst K f2 (tVar 0) (tVar 2))))) :
    FnOk P w K mg base (L2.CX P w) (k + 1) f fd ["self", n1, n2] (spX C [f1, f2]) := by
  refine Fd.okX Sc (fun vs H Q E h => ?_) fun cdv A outer s H vs Q E hr h => ⟨_, bd cdv A outer s H E, ?_⟩
  · obtain ⟨ad, ws, rfl, hl, _⟩ := h
    simp [hl]
  · obtain ⟨ad, ws, rfl, hl, ea, kq⟩ := h
    match ws, hl with
    | [y, z], _ =>
      refine ⟨_, rfl, ad, C, [.str m], rfl, by show 1 ≤ 1000; decide, T, ea, _, rfl, _, rfl, ad, C, rfl, T, no1, .inl ⟨ea, fun dx hdx ne => ?_⟩⟩
      refine ⟨_, rfl, _, rfl, ad, C, rfl, T, no2, .inr ⟨dx, [(f1, y)], upd_same, by rw [upd_ne ne, upd_same], by show 1 ≤ 900; decide, ?_⟩⟩
      refine kq dx _ hdx ne (by rw [upd_ne (Ne.symm ne), upd_same]) (by rw [upd_same]; rfl) fun b hb hd => by rw [upd_ne hd, upd_ne hb, upd_ne hd]
end
theorem lookup_mem {α : Type} : ∀ {l : List (Str × α)}, (l.map (·.1)).Nodup → ∀ {k : Str} {v : α}, l.lookup k = some v ↔ (k, v) ∈ l
  | [], _, k, v => by simp
  | (k', v') :: l, nd, k, v => by
    rw [List.map_cons, List.nodup_cons] at nd
    rw [List.lookup_cons]
    by_cases h : k = k'
    · subst h
      rw [show (k == k) = true from by simp]
      constructor
      · intro e; cases e; exact List.Mem.head _
      · intro e
        rcases List.mem_cons.mp e with z | z
        · cases z; rfl
        · exact absurd (List.mem_map.mpr ⟨_, z, rfl⟩) nd.1
    · rw [show (k == k') = false from beq_eq_false_iff_ne.mpr h]
      simp only [List.mem_cons, Prod.mk.injEq, h, false_and, false_or]
      exact lookup_mem nd.2
theorem lookup_rev {α : Type} {l : List (Str × α)} (nd : (l.map (·.1)).Nodup) {k : Str} {v : α} (h : l.lookup k = some v) : l.reverse.lookup k = some v := by
  refine (lookup_mem (l := l.reverse) ?_).mpr (List.mem_reverse.mpr ((lookup_mem nd).mp h))
  rw [List.map_reverse]
  exact (List.reverse_perm _).nodup_iff.mpr nd
theorem rfs_zip {K : PySem.W.Frag} {H : Hp} : ∀ {fs : List String} {ds : List D} {vs : List V}, RVs K H ds vs → RFs K H (fs.zip ds) ((fs.map Str.ofString).zip vs)
  | [], _, _, _ => .nil
  | _ :: _, _, _, .nil => .nil
  | f :: fs, _, _, .cons r t => .cons ⟨rfl, r⟩ (rfs_zip t)
theorem zip_keys {α : Type} : ∀ {ks : List Str} {vs : List α}, (ks.zip vs).map (·.1) = ks.take vs.length
  | [], _ => by simp
  | _ :: _, [] => by simp
  | k :: ks, v :: vs => by simp [zip_keys]
/-- a class of exceptions whose __init__ takes its fields -/
structure CalX (P : Program) (w : World) (K : PySem.W.Frag) (mg : Str → Option Value) (base : Heap) (tb : Tb) (c : String) (x : Str) (fs : List String) (k : Nat) : Prop where
  ex : ∃ (C fI : Addr) (fd : FuncData) (ps : List Str), tb.ec c = some C ∧ mg x = some (.ref C) ∧ OexC K C ∧ PySem.W.findIn K (.ref C) "__init__" = some (some (.ref fI)) ∧ PySem.W.typeIn K (.ref fI) = some (.type "function") ∧
    FnOk P w K mg base (L2.CX P w) k fI fd ps (spX C (fs.map Str.ofString)) ∧ Binds K fd ps []
  nd : (fs.map Str.ofString).Nodup
theorem ds_raise (c : String) (fs : List String) {k : Nat} (Cc : CalX X.prog X.w X.K X.mg X.base tb c x fs k) (hr : Room (k + 1) X.A) (ha : DD X tb (e :: es) ts) (hl : (e :: es).length = fs.length := by rfl) (hg : Gl X x := by rfl) (hdb : (x == ("__debug__" : Str)) = false := by decide)
    (hc : X.calm = true := by rfl) (he : starEach (e :: es) X.env = (false, eval e X.env) :: starEach es X.env := by rfl) (hpl : (backTo pos (starEach es X.env)).any (·.1) = false := by rfl) (hfew : Nat.ble fs.length 1000 = true := by rfl) :
    DSt X tb (.Raise (some (.Call (.Name x p) (e :: es) [] pos)) none apos) [] (sRaise c fs ts) := fun W tk => by
  obtain ⟨C, fI, fd, prs, hec, mx, T, iC, ti, F1, bd⟩ := Cc.ex
  obtain ⟨t1, h1, h2⟩ := ha W tk
  refine ⟨_, ps_raise hc tk (pmk_oex (dvs := []) T iC ti F1 hr bd .nil (passes_call tk fun _ _ _ _ z => z.elim) hg mx h1 hdb he hpl), fun Dn E F T' ψ g σ H R ex ou q => h2 Dn.ex F T' ψ g σ H _ _ R ex.now q fun ds ψ1 g1 vs H1 q1 rs hn R1 k1 => ?_⟩
  have hlv : vs.length = fs.length := by rw [← rs.length, hn, hl]
  refine ⟨by rw [hlv]; exact Nat.le_of_ble_eq_true hfew, fun ad hn1 => ⟨ad, vs, by rw [List.append_nil], by rw [List.length_map, hlv], upd_same, fun d H2 hd hda e1 e2 oth => ⟨rfl, d, _, e1, e2, ?_, ?_⟩⟩⟩
  · rw [upd_ne hda] at hd; exact hd
  · rw [upd_ne hda] at hd
    have same : ∀ b u, H1 b = some u → L2.upd (del H2 ad) d (.xd ((fs.map Str.ofString).zip vs).reverse) b = some u := fun b u e => by
      have hb : b ≠ ad := fun z => by rw [z, hn1] at e; cases e
      have hb2 : b ≠ d := fun z => by rw [z, hd] at e; cases e
      rw [upd_ne hb2, del_ne hb, oth b hb hb2, upd_ne hb]; exact e
    have kw : Keep H1 (L2.upd (del H2 ad) d (.xd ((fs.map Str.ofString).zip vs).reverse)) := ⟨fun a _ h => same a _ h, fun a _ _ h => same a _ h, fun a _ _ h => same a _ h, fun a _ h => same a _ h, fun a _ _ h => same a _ h⟩
    refine ex.now _ ψ1 g1 _ (.ref C) (some d) q1 (R1.move kw (fun a o e => ?_) fun p hp => ?_) ⟨⟨C, hec, rfl⟩, fun f v hf => ?_, .inr ⟨d, _, rfl, upd_same⟩⟩ (k1.trans kw)
    · obtain ⟨u, e3, _⟩ := (R1.gl a o e).there
      rw [e3]; exact same a u e3
    · obtain ⟨u, e3, _⟩ := (R1.ow.1 p hp).1.there
      rw [e3]; exact same p.1 u e3
    · obtain ⟨u, e3, e4⟩ := (RFs.look (rfs_zip (fs := fs) rs)).1 v hf
      refine ⟨d, _, u, rfl, upd_same, lookup_rev ?_ e3, e4.keep kw⟩
      rw [zip_keys]
      exact Cc.nd.sublist (List.take_sublist _ _)
/-! ### try -/
variable {i : Nat} {cs : List String}
end
end Pd
set_option Elab.async false
set_option linter.all false
set_option maxRecDepth 100000
set_option maxHeartbeats 1000000
namespace Pd
open PySem PySem.Spec PyProof.Rows L2
section
variable {X : Cx} {tb : Tb} {e : Expr} {pos p p1 p2 p3 : Pos} {x n y : Str} {body : List Stmt} {S : List Nat} {b : WS} {t : Pd.X → Option D}
end
end Pd
set_option Elab.async false
set_option linter.all false
set_option maxRecDepth 100000
set_option maxHeartbeats 1000000
namespace Pd
open PySem PySem.Spec PyProof.Rows L2
/-! except suites of several rows, each with a name or without -/
section
variable {X : Cx} {tb : Tb} {pos : Pos} {body : List Stmt} {S : List Nat} {b : WS}
end
end Pd
set_option Elab.async false
set_option linter.all false
set_option maxRecDepth 100000
set_option maxHeartbeats 1000000
namespace Pd
open PySem PySem.Spec PyProof.Rows L2
/-! isinstance of a caught error, its fields or not; suites that give several names a value -/
section
variable {X : Cx} {tb : Tb} {e a b : Expr} {es : List Expr} {pos p p1 p2 p3 : Pos} {x n y : Str} {body : List Stmt} {S : List Nat} {i : Option Nat} {cs : List String} {t u : Pd.X → Option D}
end
end Pd
set_option Elab.async false
set_option linter.all false
set_option maxRecDepth 100000
set_option maxHeartbeats 1000000
namespace Pd
open PySem PySem.Spec PyProof.Rows L2
section
variable {X : Cx} {tb : Tb} {e : Expr} {es : List Expr} {pos p p1 p2 p3 : Pos} {x n y : Str} {body : List Stmt} {S : List Nat} {b : WS} {i : Option Nat} {cs : List String} {t : Pd.X → Option D}
end
end Pd
set_option Elab.async false
set_option linter.all false
set_option maxRecDepth 100000
set_option maxHeartbeats 2000000
namespace Pd
open PySem PySem.Spec PyProof.Rows L2 He
/-! ### what a head tells beside the library's facts -/
inductive Fb where
  | noat (x f : Str)
  | xf (x : Str)
  | oex (x : Str)
  | base (x : Str)
  | ini (x : Str)
  | tups (x : Str) (ws : List Str)
  | exci (x : Str)
  | isx (s x : Str) (b : Bool)
  | isv (s : Str) (v : String) (b : Bool)
def exciB (K : PySem.W.Frag) (D : Addr) : Bool := decide (PySem.W.findIn K (.ref D) "__getattribute__" = some (some (.builtin "BaseException.__getattribute__"))) && (decide (PySem.W.findIn K (.ref D) "__getattr__" = some none) && (decide (PySem.W.subIn K (.ref D) (.type "BaseException") = some true) && (PySem.W.hasDictIn K D &&
  (decide (PySem.W.findIn K (.ref D) "__class__" = some (some (.builtin "object.__class__"))) && (decide (PySem.W.specialIn K (.builtin "object.__class__") "__get__" = some (some (.builtin "getset_descriptor.__get__"))) && (decide (PySem.W.takesIn K (.builtin "object.__class__") = some true) && decide (PySem.W.mroIn K D (.type "object") = some true)))))))
def oexOf (K : PySem.W.Frag) (C : Addr) (cd : ClassData) (sl : List (Option Value)) : Bool := match cd.mro, sl with
  | .ref D :: bm, [_, _, _, _, some (.builtin n), _] => decide (D = C) && (decide (n = "ValueError.__new__") && (!cd.hasDel && (cd.hasDict && PySem.HandSPX.refsVE bm)))
  | _, _ => false
def oexLook (K : PySem.W.Frag) (C : Addr) : Bool := match K.lookup C with
  | some ⟨.type m, _, .cls cd, sl⟩ => decide (m = "type") && oexOf K C cd sl.toList
  | _ => false
def oexB (K : PySem.W.Frag) (C : Addr) : Bool := oexLook K C && (decide (PySem.W.findIn K (.ref C) "__setattr__" = some (some (.builtin "object.__setattr__"))) && (decide (PySem.W.subIn K (.ref C) (.type "BaseException") = some true) &&
  (decide (PySem.W.typeIn K (.ref C) = some (.type "type")) && PySem.W.keepIn K (.ref C))))
theorem oexB_ok {K : PySem.W.Frag} {C : Addr} (h : oexB K C = true) : OexC K C := by
  obtain ⟨h0, h⟩ := ba h
  obtain ⟨h1, h⟩ := ba h
  obtain ⟨h2, h⟩ := ba h
  obtain ⟨h3, h4⟩ := ba h
  refine ⟨?_, of_decide_eq_true h1, of_decide_eq_true h2, of_decide_eq_true h3, h4⟩
  unfold oexLook at h0
  split at h0
  · rename_i m dd cd sl e
    obtain ⟨e1, i0⟩ := ba h0
    clear h0
    have e1 := of_decide_eq_true e1
    subst e1
    unfold oexOf at i0
    split at i0
    · rename_i D bm k0 k1 k2 k3 n k5 hm hs
      obtain ⟨e2, i1⟩ := ba i0
      obtain ⟨e3, i2⟩ := ba i1
      obtain ⟨e4, i3⟩ := ba i2
      obtain ⟨e5, e6⟩ := ba i3
      have e2 := of_decide_eq_true e2
      have e3 := of_decide_eq_true e3
      have e7 : cd.hasDel = false := by cases z : cd.hasDel <;> simp [z] at e4 ⊢
      clear e4 i0 i1 i2 i3
      subst e2 e3
      obtain ⟨nm, bs, mro, ns, qn, hd, sn, sub, ab, col, del⟩ := cd
      simp only at hm e7 e5
      subst hm e7 e5
      have hsl : sl = #[k0, k1, k2, k3, some (.builtin "ValueError.__new__"), k5] := Array.toList_inj.mp hs
      subst hsl
      exact ⟨_, _, _, _, _, _, _, _, _, _, _, _, _, _, _, e, e6⟩
    · cases i0
  · cases h0
def baseB (K : PySem.W.Frag) (C : Addr) : Bool := decide (PySem.W.specialIn K (.ref C) "__getattribute__" = some (some (.builtin "type.__getattribute__"))) && (PySem.W.readsIn K C (.type "type") && match PySem.W.findCls K (.ref C) (.type "type") "__init__" with
  | some (.val v) => decide (v = .builtin "ValueError.__init__")
  | _ => false)
def iniB (K : PySem.W.Frag) (C : Addr) : Bool := decide (PySem.W.findIn K (.ref C) "__init__" = some (some (.ref (ma K C "__init__")))) && decide (PySem.W.typeIn K (.ref (ma K C "__init__")) = some (.type "function"))
def strsB : List Value → List Str → Bool
  | [], [] => true
  | .str z _ :: r, w :: ws => decide (z = w) && strsB r ws
  | _, _ => false
def tupsB (K : PySem.W.Frag) (C : Addr) (ws : List Str) : Bool := match K.lookup C with
  | some ⟨.type m, _, .seq its _, _⟩ => decide (m = "tuple") && (decide (its.size ≤ 100) && strsB its.toList ws)
  | _ => false
def Fb.ok (K : PySem.W.Frag) : Fb → Bool
  | .noat x f => decide (PySem.W.findIn K (.ref (ga K x)) f = some none)
  | .xf x => xfB K (ga K x)
  | .oex x => oexB K (ga K x)
  | .base x => baseB K (ga K x)
  | .ini x => iniB K (ga K x)
  | .tups x ws => tupsB K (ga K x) ws
  | .exci x => exciB K (ga K x)
  | .isx s x b => decide (PySem.W.kitOne K (.ref (ga K s)) (.ref (ga K x)) = some b)
  | .isv s v b => decide (PySem.W.kitOne K (.ref (ga K s)) (.type v) = some b)
theorem mk_oex {K : PySem.W.Frag} {x : Str} (c : (Fb.oex x).ok K = true) : OexC K (ga K x) := oexB_ok c
theorem mk_noat {K : PySem.W.Frag} {x f : Str} (c : (Fb.noat x f).ok K = true) : PySem.W.findIn K (.ref (ga K x)) f = some none := of_decide_eq_true (show decide (PySem.W.findIn K (.ref (ga K x)) f = some none) = true from c)
/-! ### the head's hook -/
abbrev AlP : Type := AlD × Bool
def asP (_ : Addr → Option Obj) (n : Nat) : List Addr := List.range n
def obsP (n : Nat) (fa : List Fa) (fn : List DefD) (fb : List Fb) (g : Addr → Option Obj) : AlP := (obsD fa fn (frG g (asP g n)), fb.all fun f => f.ok (frG g (asP g n)))
def valP (fn : List DefD) : AlP := (valD fn, true)
structure SaysP (fa : List Fa) (fn : List DefD) (fb : List Fb) (K : PySem.W.Frag) : Prop where
  d : SaysD fa fn K
  more : (fb.all fun f => f.ok K) = true
def hookP (n : Nat) (fa : List Fa) (fn : List DefD) (fb : List Fb) : PySem.W.Hook where
  α := AlP
  obs := fun s => obsP n fa fn fb s.heap.get?
  val := fun _ => valP fn
  says := fun _ h => ∃ K : PySem.W.Frag, K.In h ∧ SaysP fa fn fb K
  of := fun _ _ e => ⟨_, frG_in, ⟨congrArg (fun z : AlP => z.1) e, congrArg (fun z : AlP => z.2) e⟩⟩
  keeps := fun _ _ _ ⟨K, hK, c⟩ k => ⟨K, PySem.W.Frag.In.keeps hK k, c⟩
def obP (n : Nat) (fa : List Fa) (fn : List DefD) (fb : List Fb) (s : PySem.W.SharedT) : AlP := obsP n fa fn fb (HandSHeadRun.getT s)
theorem obP_eq {n : Nat} {fa : List Fa} {fn : List DefD} {fb : List Fb} (s : PySem.W.SharedT) : obP n fa fn fb s = (hookP n fa fn fb).obs s.abs := by
  have e : HandSHeadRun.getT s = s.abs.heap.get? := funext (HandSHeadRun.getT_eq s)
  unfold obP
  rw [e] <;> rfl
theorem SaysP.fb {fa : List Fa} {fn : List DefD} {fb : List Fb} {K : PySem.W.Frag} (c : SaysP fa fn fb K) (i : Nat) {f : Fb} (h : fb[i]? = some f := by rfl) : f.ok K = true := List.all_eq_true.mp c.more f (List.mem_of_getElem? h)
theorem SaysP.fa {fa : List Fa} {fn : List DefD} {fb : List Fb} {K : PySem.W.Frag} (c : SaysP fa fn fb K) (i : Nat) {f : Fa} (h : fa[i]? = some f := by rfl) : f.ok K = true := c.d.fact i h
theorem fun_D {K : PySem.W.Frag} {x qual : Str} {st : Stmt} {f : Addr} {fd : FuncData} (F : FunD K x qual (defArgs st) (defBody st) (defScope st) [] [] f fd) : Fun K x qual st f fd := by
  obtain ⟨oc, od, dV, kV, doc, pm, an, cdv, ct, osl, rfl, lk, hcd, hD, _⟩ := F.ex
  rcases hD with ⟨_, rfl⟩ | ⟨e, _⟩
  · exact ⟨⟨oc, od, kV, doc, pm, an, cdv, ct, osl, rfl, lk, hcd⟩, F.kp⟩
  · exact absurd rfl e
/-! ### the facts in the layer's words -/
def mkTb (K : PySem.W.Frag) (cls exs : List String) : Tb := ⟨fun s => if s ∈ cls then some (ga K (Str.ofString s)) else none, fun s => if s ∈ exs then some (ga K (Str.ofString s)) else none⟩
section
variable {K : PySem.W.Frag} {h : Heap} {mg : Str → Option Value} {cls exs : List String}
theorem mk_bl (X : K.In h) (G : h.Ns mainGlobals mg) {x : Str} {v : Value} (c : (Fa.free x).ok K = true) (e : bootBuiltins x = some v) : Bl mg x v := ⟨free_ok X G c, e⟩
theorem mk_gint (X : K.In h) (G : h.Ns mainGlobals mg) {x : Str} {i : Int} (c : (Fa.int x i).ok K = true) : GlV mg K x (.int i) :=
  let ⟨t, e⟩ := int_ok X G c
  ⟨_, .int i, e, ⟨t, rfl⟩, fun _ => .int i⟩
theorem mk_gstr (X : K.In h) (G : h.Ns mainGlobals mg) {x z : Str} {s : List Nat} (c : (Fa.str x z).ok K = true) (e : z = ⟨s.toArray⟩) (ok : (s.all fun c => decide (c < 1114112)) = true) : GlV mg K x (.str s) :=
  let ⟨t, e1⟩ := str_ok X G c
  ⟨_, .str z, e1, ⟨t, rfl⟩, fun _ => e ▸ .str s fun c hc => of_decide_eq_true (List.all_eq_true.mp ok c hc)⟩
theorem mkTb_cl {s : String} {C : Addr} (e : (mkTb K cls exs).cl s = some C) : C = ga K (Str.ofString s) := by
  have e' : (if s ∈ cls then some (ga K (Str.ofString s)) else none) = some C := e
  split at e'
  · exact (Option.some.inj e').symm
  · cases e'
theorem cl_mk {s : String} {x : Str} (hs : s ∈ cls) (hx : Str.ofString s = x) : (mkTb K cls exs).cl s = some (ga K x) := by subst hx; exact if_pos hs
theorem ec_mk {s : String} {x : Str} (hs : s ∈ exs) (hx : Str.ofString s = x) : (mkTb K cls exs).ec s = some (ga K x) := by subst hx; exact if_pos hs
theorem mk_ins {c : String} {x f : Str} (c1 : (Fa.cls x).ok K = true) (c2 : (Fa.noat x f).ok K = true) (hx : Str.ofString c = x := by rfl) : InsOk K (mkTb K cls exs) c f :=
  ⟨fun C e => by rw [mkTb_cl e, hx]; exact ⟨cls_ok c1, noat_ok c2⟩⟩
theorem mk_base (X : K.In h) (G : h.Ns mainGlobals mg) {x : Str} (g : (Fa.glo x).ok K = true) (c : (Fb.base x).ok K = true) : BaseX K mg x := by
  obtain ⟨h1, c⟩ := ba (show baseB K (ga K x) = true from c)
  obtain ⟨h2, h3⟩ := ba c
  refine ⟨_, _, glo_ok X G g, of_decide_eq_true h1, h2, ?_⟩
  split at h3
  · rename_i v e; rw [e, of_decide_eq_true h3]
  · cases h3
variable {P : Program} {w : World} {base : Heap} {k : Nat} {φ : SpD}
theorem mk_calx (X : K.In h) (G : h.Ns mainGlobals mg) {c : String} {x : Str} {fs : List String} {fd : FuncData} {ps : List Str} (g : (Fa.glo x).ok K = true) (c2 : (Fb.ini x).ok K = true) (T : OexC K (ga K x))
    (F : FnOk P w K mg base (L2.CX P w) k (ma K (ga K x) "__init__") fd ps (spX (ga K x) (fs.map Str.ofString))) (b : Binds K fd ps []) (nd : (fs.map Str.ofString).Nodup) (he : c ∈ exs) (hx : Str.ofString c = x := by rfl) : CalX P w K mg base (mkTb K cls exs) c x fs k := by
  obtain ⟨h1, h2⟩ := ba (show iniB K (ga K x) = true from c2)
  exact ⟨⟨_, _, fd, ps, ec_mk he hx, glo_ok X G g, T, of_decide_eq_true h1, of_decide_eq_true h2, F, b⟩, nd⟩
theorem mk_cal (X : K.In h) (G : h.Ns mainGlobals mg) {tb : Tb} {x : Str} {fd : FuncData} {ps : List Str} (g : (Fa.glo x).ok K = true) (kp : PySem.W.keepIn K (.ref (ga K x)) = true) (F : FnOk P w K mg base (L2.CX P w) k (ga K x) fd ps (lift ⟨P, w, K, tb.cl⟩ tb.ec φ)) (b : Binds K fd ps []) (m : Mono φ) : Cal P w K mg base tb x k φ :=
  ⟨⟨_, fd, ps, F, glo_ok X G g, kp, b⟩, m⟩
theorem mk_calm {c : String} {x m : Str} {fd : FuncData} {ps : List Str} (c1 : (Fa.cls x).ok K = true) (c2 : (Fa.meth x m).ok K = true) (F : FnOk P w K mg base (L2.CX P w) k (ma K (ga K x) m) fd ps (lift ⟨P, w, K, (mkTb K cls exs).cl⟩ (mkTb K cls exs).ec φ)) (b : Binds K fd ps []) (mo : Mono φ) (he : c ∈ cls) (hx : Str.ofString c = x := by rfl) : CalM P w K mg base (mkTb K cls exs) c m k φ :=
  ⟨⟨_, _, fd, ps, cl_mk he hx, cls_ok c1, meth_ok c2, F, b⟩, mo⟩
theorem mk_caln (X : K.In h) (G : h.Ns mainGlobals mg) {c : String} {x : Str} {fd : FuncData} {ps : List Str} (g : (Fa.glo x).ok K = true) (c2 : (Fa.mkr x).ok K = true) (F : FnOk P w K mg base (L2.CX P w) k (ma K (ga K x) "__init__") fd ps (lift ⟨P, w, K, (mkTb K cls exs).cl⟩ (mkTb K cls exs).ec φ)) (b : Binds K fd ps []) (mo : Mono φ) (he : c ∈ cls) (hx : Str.ofString c = x := by rfl) : CalN P w K mg base (mkTb K cls exs) c x k φ :=
  ⟨⟨_, _, fd, ps, cl_mk he hx, glo_ok X G g, mkr_ok c2, F, b⟩, mo⟩
theorem mono_no : Mono fun _ _ _ _ => False := fun _ _ _ _ _ _ _ _ h => h
/-- the law's promise at the script -/
theorem law_sp {tb : Tb} {φ : SpD} (hφ : ∀ (ns : List Int) (g : G) (E : Pd.X → G → Prop) (Q : Pd.R → G → Prop), ns.length ≤ 63 → (∀ g', Q (.d (.bl true)) g') → φ [.d (.rol (ns.map .int))] g E Q) {H : Hp} {a : Addr} {ns : List Int} (hl : ns.length ≤ 63) (hO : Only H) (hS : SqL K H a (ns.map V.int)) :
    lift ⟨P, w, K, tb.cl⟩ tb.ec φ [.ref a] H (fun v _ => v = .bl true) fun _ _ _ => False := by
  refine ⟨[.d (.rol (ns.map .int))], fun _ => none, [], .cons ?_ .nil, ?_, (fun a o e => by cases e), ⟨fun p hp => (nomatch hp), List.nodup_nil⟩, hφ ns _ _ _ hl fun g' v H' r _ => ?_⟩
  · show RV K H (.rol (ns.map .int)) (.ref a)
    refine .rol (vs := ns.map V.int) ?_ ?_
    · rcases hS with h1 | h1
      · left
        rcases hO a with e | ⟨o, xs, e⟩
        · rcases h1 with h1 | ⟨o, h1⟩ <;> rw [e] at h1 <;> cases h1
        · rcases h1 with h1 | ⟨o', h1⟩
          · rw [e] at h1; cases h1
          · exact ⟨o', h1⟩
      · exact .inr h1
    · clear hl hS hφ
      induction ns with
      | nil => exact .nil
      | cons n ns ih => exact .cons (.int n) ih
  · intro s hs o e
    rw [List.mem_singleton] at hs
    subst hs; cases e
  · have r' : RV K H' (.bl true) v := r.1
    cases r'; rfl
end
/-- the end: what the head tells, each law's own promise -/
theorem walk_P {l : PySem.W.OpenLaw} {k : Nat} {q : Program} {loose : List Str} {XP : (Str → Option Value) → Heap → Prop} {YP : World → Heap → Prop} {d : DefRec} (hn : l.most = some 63) (hdf : d.params.defaults = []) (hr : Room k callerA)
    (F : ∀ (w : World) (mg : Str → Option Value) (fa : Addr) (h : Heap), YP w h → h.Ns mainGlobals mg → mg d.name = some (.ref fa) →
      ∃ (K : PySem.W.Frag) (fd : FuncData) (tb : Tb) (φ : SpD), K.In h ∧ (∀ (s : Shared) (u : Value), BindsTo s fd ⟨[u], []⟩ [("script", u)]) ∧
        (∀ (ns : List Int) (g : G) (E : Pd.X → G → Prop) (Q : Pd.R → G → Prop), ns.length ≤ 63 → (∀ g', Q (.d (.bl true)) g') → φ [.d (.rol (ns.map .int))] g E Q) ∧
        ∀ base : Heap, K.In base → base.Ns mainGlobals mg → FnOk l.prog w K mg base (L2.CX l.prog w) k fa fd ["script"] (lift ⟨l.prog, w, K, tb.cl⟩ tb.ec φ)) : PySem.W.WalkO q loose XP YP l.row.toRowW d [] (fun f vs => PySem.call f vs) := by
  refine Att.attach_call hn hdf fun w s₀ s₁ mg mb fa o pm cd doc a vs ns G Y ho hd hcd hmg hobj hints hlen hg => ?_
  obtain ⟨K, fd, tb, φ, KX, hb, hφ, hF⟩ := F w mg fa _ Y G.T.g hmg
  exact law_call KX G.T.g G.T.b G.T.builtins G.T.nolimit hg hobj hints (Nat.le_trans hlen (by decide)) hr hF hb (fun H hO hS => law_sp hφ hlen hO hS) fun H e s' ⟨a, B, H', cls, d, _, _, _, _, _, _, _, z⟩ => z
end Pd
set_option Elab.async false
set_option linter.all false
set_option maxRecDepth 100000
set_option maxHeartbeats 4000000
namespace Pd
open PySem PySem.Spec PyProof.Rows L2
def top (i : Nat) : Stmt := PySem.Challenge.pw_mumtrial_k30_leaves.main.body.getD i (.Pass ⟨0, 0, 0, 0⟩)
abbrev s_inner : Stmt := (top 8)
abbrev s_is_so : Stmt := (top 9)
abbrev s_need_trial : Stmt := (top 10)
abbrev s_signs_of : Stmt := (top 11)
abbrev s_leaves : Stmt := (top 12)
abbrev s_is_name : Stmt := (top 18)
abbrev s_need_names : Stmt := (top 19)
abbrev s_is_sign_of : Stmt := (top 20)
abbrev s_need_doors : Stmt := (top 21)
abbrev s_Machine___init__ : Stmt := (inClass (top 22) 0)
abbrev s_Machine_comes_round : Stmt := (inClass (top 22) 1)
abbrev s_Machine_asks : Stmt := (inClass (top 22) 2)
abbrev s_Machine_says : Stmt := (inClass (top 22) 3)
abbrev s__law_spread : Stmt := (top 24)
abbrev s__law_open : Stmt := (top 25)
abbrev s__law_anew : Stmt := (top 26)
abbrev s__law_take : Stmt := (top 27)
abbrev s__law_names : Stmt := (top 28)
abbrev s__law_still_on : Stmt := (top 29)
abbrev s__law_put : Stmt := (top 30)
abbrev s__law_draw_doors : Stmt := (top 31)
abbrev s__law_model : Stmt := (top 32)
abbrev s__law_same : Stmt := (top 33)
abbrev s__law_quiet : Stmt := (top 34)
abbrev s__law_in_order : Stmt := (top 35)
abbrev s__law_face_on : Stmt := (top 36)
abbrev s__law_face_at : Stmt := (top 37)
abbrev s__law_inner : Stmt := (top 38)
abbrev s__law_signs : Stmt := (top 39)
abbrev s__law_leaves : Stmt := (top 40)
abbrev s__law_pairs : Stmt := (top 41)
abbrev s__law_trial : Stmt := (top 42)
abbrev s__law_made : Stmt := (top 43)
abbrev s__law_machine : Stmt := (top 44)
abbrev s__law_right : Stmt := (top 45)
abbrev s_law : Stmt := (top 46)
def dd_is_name : He.DefD := ⟨("is_name", none), "is_name", "is_name", defArgs s_is_name, defBody s_is_name, defScope s_is_name, [], []⟩
def dd_need_names : He.DefD := ⟨("need_names", none), "need_names", "need_names", defArgs s_need_names, defBody s_need_names, defScope s_need_names, [], []⟩
abbrev s_NoMachine___init__ : Stmt := (inClass (top 3) 0)
def dd_NoMachine___init__ : He.DefD := ⟨("NoMachine", some "__init__"), "__init__", "NoMachine.__init__", defArgs s_NoMachine___init__, defBody s_NoMachine___init__, defScope s_NoMachine___init__, [], []⟩
def dd_is_sign_of : He.DefD := ⟨("is_sign_of", none), "is_sign_of", "is_sign_of", defArgs s_is_sign_of, defBody s_is_sign_of, defScope s_is_sign_of, [], []⟩
def dd_need_doors : He.DefD := ⟨("need_doors", none), "need_doors", "need_doors", defArgs s_need_doors, defBody s_need_doors, defScope s_need_doors, [], []⟩
def dd_Machine_comes_round : He.DefD := ⟨("Machine", some "comes_round"), "comes_round", "Machine.comes_round", defArgs s_Machine_comes_round, defBody s_Machine_comes_round, defScope s_Machine_comes_round, [], []⟩
def dd_Machine___init__ : He.DefD := ⟨("Machine", some "__init__"), "__init__", "Machine.__init__", defArgs s_Machine___init__, defBody s_Machine___init__, defScope s_Machine___init__, [], []⟩
def dd_Machine_asks : He.DefD := ⟨("Machine", some "asks"), "asks", "Machine.asks", defArgs s_Machine_asks, defBody s_Machine_asks, defScope s_Machine_asks, [], []⟩
def dd_Machine_says : He.DefD := ⟨("Machine", some "says"), "says", "Machine.says", defArgs s_Machine_says, defBody s_Machine_says, defScope s_Machine_says, [], []⟩
def dd_inner : He.DefD := ⟨("inner", none), "inner", "inner", defArgs s_inner, defBody s_inner, defScope s_inner, [], []⟩
def dd_is_so : He.DefD := ⟨("is_so", none), "is_so", "is_so", defArgs s_is_so, defBody s_is_so, defScope s_is_so, [], []⟩
def dd_need_trial : He.DefD := ⟨("need_trial", none), "need_trial", "need_trial", defArgs s_need_trial, defBody s_need_trial, defScope s_need_trial, [], []⟩
abbrev s_NoTrial___init__ : Stmt := (inClass (top 4) 0)
def dd_NoTrial___init__ : He.DefD := ⟨("NoTrial", some "__init__"), "__init__", "NoTrial.__init__", defArgs s_NoTrial___init__, defBody s_NoTrial___init__, defScope s_NoTrial___init__, [], []⟩
def dd_signs_of : He.DefD := ⟨("signs_of", none), "signs_of", "signs_of", defArgs s_signs_of, defBody s_signs_of, defScope s_signs_of, [], []⟩
def dd_leaves : He.DefD := ⟨("leaves", none), "leaves", "leaves", defArgs s_leaves, defBody s_leaves, defScope s_leaves, [], []⟩
def dd__law_spread : He.DefD := ⟨("_law_spread", none), "_law_spread", "_law_spread", defArgs s__law_spread, defBody s__law_spread, defScope s__law_spread, [], []⟩
def dd__law_open : He.DefD := ⟨("_law_open", none), "_law_open", "_law_open", defArgs s__law_open, defBody s__law_open, defScope s__law_open, [], []⟩
def dd__law_take : He.DefD := ⟨("_law_take", none), "_law_take", "_law_take", defArgs s__law_take, defBody s__law_take, defScope s__law_take, [], []⟩
def dd__law_names : He.DefD := ⟨("_law_names", none), "_law_names", "_law_names", defArgs s__law_names, defBody s__law_names, defScope s__law_names, [], []⟩
def dd__law_anew : He.DefD := ⟨("_law_anew", none), "_law_anew", "_law_anew", defArgs s__law_anew, defBody s__law_anew, defScope s__law_anew, [], []⟩
def dd__law_put : He.DefD := ⟨("_law_put", none), "_law_put", "_law_put", defArgs s__law_put, defBody s__law_put, defScope s__law_put, [], []⟩
def dd__law_draw_doors : He.DefD := ⟨("_law_draw_doors", none), "_law_draw_doors", "_law_draw_doors", defArgs s__law_draw_doors, defBody s__law_draw_doors, defScope s__law_draw_doors, [], []⟩
def dd__law_model : He.DefD := ⟨("_law_model", none), "_law_model", "_law_model", defArgs s__law_model, defBody s__law_model, defScope s__law_model, [], []⟩
def dd__law_still_on : He.DefD := ⟨("_law_still_on", none), "_law_still_on", "_law_still_on", defArgs s__law_still_on, defBody s__law_still_on, defScope s__law_still_on, [], []⟩
def dd__law_machine : He.DefD := ⟨("_law_machine", none), "_law_machine", "_law_machine", defArgs s__law_machine, defBody s__law_machine, defScope s__law_machine, [], []⟩
def dd__law_same : He.DefD := ⟨("_law_same", none), "_law_same", "_law_same", defArgs s__law_same, defBody s__law_same, defScope s__law_same, [], []⟩
def dd__law_quiet : He.DefD := ⟨("_law_quiet", none), "_law_quiet", "_law_quiet", defArgs s__law_quiet, defBody s__law_quiet, defScope s__law_quiet, [], []⟩
def dd__law_in_order : He.DefD := ⟨("_law_in_order", none), "_law_in_order", "_law_in_order", defArgs s__law_in_order, defBody s__law_in_order, defScope s__law_in_order, [], []⟩
def dd__law_face_on : He.DefD := ⟨("_law_face_on", none), "_law_face_on", "_law_face_on", defArgs s__law_face_on, defBody s__law_face_on, defScope s__law_face_on, [], []⟩
def dd__law_face_at : He.DefD := ⟨("_law_face_at", none), "_law_face_at", "_law_face_at", defArgs s__law_face_at, defBody s__law_face_at, defScope s__law_face_at, [], []⟩
def dd__law_inner : He.DefD := ⟨("_law_inner", none), "_law_inner", "_law_inner", defArgs s__law_inner, defBody s__law_inner, defScope s__law_inner, [], []⟩
def dd__law_signs : He.DefD := ⟨("_law_signs", none), "_law_signs", "_law_signs", defArgs s__law_signs, defBody s__law_signs, defScope s__law_signs, [], []⟩
def dd__law_leaves : He.DefD := ⟨("_law_leaves", none), "_law_leaves", "_law_leaves", defArgs s__law_leaves, defBody s__law_leaves, defScope s__law_leaves, [], []⟩
def dd__law_pairs : He.DefD := ⟨("_law_pairs", none), "_law_pairs", "_law_pairs", defArgs s__law_pairs, defBody s__law_pairs, defScope s__law_pairs, [], []⟩
def dd__law_trial : He.DefD := ⟨("_law_trial", none), "_law_trial", "_law_trial", defArgs s__law_trial, defBody s__law_trial, defScope s__law_trial, [], []⟩
def dd__law_made : He.DefD := ⟨("_law_made", none), "_law_made", "_law_made", defArgs s__law_made, defBody s__law_made, defScope s__law_made, [], []⟩
def dd__law_right : He.DefD := ⟨("_law_right", none), "_law_right", "_law_right", defArgs s__law_right, defBody s__law_right, defScope s__law_right, [], []⟩
def dd_law : He.DefD := ⟨("law", none), "law", "law", defArgs s_law, defBody s_law, defScope s_law, [], []⟩
def fnL : List He.DefD := [dd_is_name, dd_need_names, dd_NoMachine___init__, dd_is_sign_of, dd_need_doors, dd_Machine_comes_round, dd_Machine___init__, dd_Machine_asks, dd_Machine_says, dd_inner, dd_is_so, dd_need_trial, dd_NoTrial___init__, dd_signs_of, dd_leaves, dd__law_spread, dd__law_open, dd__law_take, dd__law_names, dd__law_anew, dd__law_put, dd__law_draw_doors, dd__law_model, dd__law_still_on, dd__law_machine, dd__law_same, dd__law_quiet, dd__law_in_order, dd__law_face_on, dd__law_face_at, dd__law_inner, dd__law_signs, dd__law_leaves, dd__law_pairs, dd__law_trial, dd__law_made, dd__law_right, dd_law]
def faL : List He.Fa := [.free "len", .str "LETTERS" "abcdefghijklmnopqrstuvwxyz", .free "all", .glo "is_name", .free "enumerate", .glo "TrialError", .glo "NoMachine", .glo "need_names", .glo "is_sign_of", .int "MOST_DOORS" 2000, .glo "need_doors", .cls "Machine", .noat "Machine" "leading", .meth "Machine" "comes_round", .int "MOST_WORDS" 4, .int "MOST_ROOMS" 150, .noat "Machine" "ask_words", .free "list", .noat "Machine" "say_words", .noat "Machine" "all_doors", .glo "Machine", .mkr "Machine", .meth "Machine" "asks", .meth "Machine" "says", .glo "inner", .glo "is_so", .int "MOST" 1000, .int "DEEPEST" 8, .free "min", .glo "NoTrial", .glo "need_trial", .glo "signs_of", .free "zip", .free "sorted", .glo "leaves", .glo "_law_spread", .glo "_law_open", .glo "_law_take", .free "range", .glo "_law_names", .glo "_law_anew", .glo "_law_put", .glo "_law_draw_doors", .glo "_law_model", .glo "_law_still_on", .glo "_law_machine", .glo "_law_same", .free "isinstance", .free "bool", .free "str", .free "int", .free "tuple", .glo "_law_quiet", .glo "_law_in_order", .glo "_law_face_on", .glo "_law_face_at", .glo "_law_inner", .glo "_law_signs", .glo "_law_leaves", .glo "_law_pairs", .glo "_law_trial", .glo "_law_made", .glo "_law_right", .glo "law"]
def fbL : List Fb := [.oex "NoMachine", .base "TrialError", .ini "NoMachine", .noat "NoMachine" "part", .noat "NoMachine" "number", .oex "NoTrial", .ini "NoTrial", .noat "NoTrial" "way"]
def looseL : List PySem.Str := (["_wall", "TrialError", "NoMachine", "NoTrial", "DEEPEST", "MOST", "inner", "is_so", "need_trial", "signs_of", "leaves", "LETTERS", "MOST_WORDS", "MOST_ROOMS", "MOST_DOORS", "is_name", "need_names", "is_sign_of", "need_doors", "Machine", "_law_spread", "_law_open", "_law_anew", "_law_take", "_law_names", "_law_still_on", "_law_put", "_law_draw_doors", "_law_model", "_law_same"] : List PySem.Str) ++ (["_law_quiet", "_law_in_order", "_law_face_on", "_law_face_at", "_law_inner", "_law_signs", "_law_leaves", "_law_pairs", "_law_trial", "_law_made", "_law_machine", "_law_right"] : List PySem.Str)
abbrev Rw : PySem.W.OpenRow := PySem.W.OpenLaw.row PySem.Challenge.rw_mumtrial_k30_leaves
theorem run (w : World) : HandSHeadRun.RunEq Rw (PySem.W.view Rw.prog [46]) (hookP 1500 faL fnL fbL) (obP 1500 faL fnL fbL) 8000 looseL w := by
  intro os
  kernel_rfl
end Pd
set_option Elab.async false
set_option linter.all false
set_option maxRecDepth 100000
namespace Pd
/-! lists of truths compared; the values of a dict; great numbers -/
def oEqB : G → C → C → Option R
  | _, .o (.lst xs), .o (.lst ys) => (boolsD xs).bind fun as => (boolsD ys).map fun bs => .d (.bl (decide (as = bs)))
  | _, _, _ => none
def oNeB : G → C → C → Option R
  | _, .o (.lst xs), .o (.lst ys) => (boolsD xs).bind fun as => (boolsD ys).map fun bs => .d (.bl (!decide (as = bs)))
  | _, _, _ => none
@[simp] theorem eqB_at (g : G) (xs ys : List D) : oEqB g (.o (.lst xs)) (.o (.lst ys)) = (boolsD xs).bind fun as => (boolsD ys).map fun bs => .d (.bl (decide (as = bs))) := rfl
@[simp] theorem neB_at (g : G) (xs ys : List D) : oNeB g (.o (.lst xs)) (.o (.lst ys)) = (boolsD xs).bind fun as => (boolsD ys).map fun bs => .d (.bl (!decide (as = bs))) := rfl
@[simp] theorem boolsD_nil : boolsD [] = some [] := rfl
@[simp] theorem boolsD_cons (b : Bool) (r : List D) : boolsD (.bl b :: r) = (boolsD r).map (b :: ·) := rfl
/-- list(d.values()) -/
def oValsL : G → C → Option R
  | _, .o (.dic _ kvs) => some (.own (.lst (kvs.map (·.2))))
  | _, _ => none
@[simp] theorem valsL_at (g : G) (t : Bool) (kvs : List (D × D)) : oValsL g (.o (.dic t kvs)) = some (.own (.lst (kvs.map (·.2)))) := rfl
/-- numbers below 2 ^ 3000 -/
def wide (i : Int) : Prop := i.natAbs < 2 ^ 3000
instance (i : Int) : Decidable (wide i) := Nat.decLt _ _
end Pd
namespace Pd
/-- list(zip(a, b)), tuple(zip(a, b)) of two lists -/
def oZipL : G → C → C → Option R := fun _ c c' => (lstC c).bind fun xs => (lstC c').map fun ys => .own (.lst (pairUp xs ys))
def oZipT : G → C → C → Option R := fun _ c c' => (lstC c).bind fun xs => (lstC c').map fun ys => .d (.tup (pairUp xs ys))
@[simp] theorem zipL_at (g : G) (xs ys : List D) : oZipL g (.o (.lst xs)) (.o (.lst ys)) = some (.own (.lst (pairUp xs ys))) := rfl
@[simp] theorem zipT_at (g : G) (xs ys : List D) : oZipT g (.o (.lst xs)) (.o (.lst ys)) = some (.d (.tup (pairUp xs ys))) := rfl
theorem pairUp_map {α β : Type} (f : α → D) (h : β → D) : ∀ (xs : List α) (ys : List β), pairUp (xs.map f) (ys.map h) = (xs.zip ys).map fun p => D.tup [f p.1, h p.2]
  | [], _ => by simp [pairUp]
  | _ :: _, [] => by simp [pairUp]
  | x :: xs, y :: ys => by simp [pairUp, pairUp_map f h xs ys]
end Pd
set_option Elab.async false
set_option linter.all false
set_option maxRecDepth 100000
set_option maxHeartbeats 1000000
namespace Pd
open PySem PySem.Spec PyProof.Rows L2
section
variable {X : Cx} {tb : Tb} {e a b : Expr} {te ta u : WE} {pos p apos cpos : Pos}
/-! ### great numbers -/
/-! ### list(d.values()) -/
end
end Pd
set_option Elab.async false
set_option linter.all false
set_option maxRecDepth 100000
set_option maxHeartbeats 1000000
namespace Pd
open PySem PySem.Spec PyProof.Rows L2
/-! list(zip(a, b)), tuple(zip(a, b)) of two lists -/
structure ZCells where
  z : Addr
  TI : Addr
  TO : Addr
  i1 : Addr
  i2 : Addr
  l1 : Addr
  l2 : Addr
def ZSt (c : ZCells) (S : Addr) (xs ys : Array Value) (i : Nat) (h : Heap) : Prop :=
  IsPair h c.TI (.ref c.i1) (.ref c.i2) ∧ h.IsListIter c.i1 c.l1 i ∧ h.IsListIter c.i2 c.l2 i ∧ h.IsList c.l1 xs ∧ h.IsList c.l2 ys ∧
    ((IsZip h c.z c.TI c.TO .none ∧ ∃ a b, IsPair h c.TO a b) ∨ ∃ T f oT, IsZipHeld h c.z c.TI c.TO T f ∧ h.get? T = some oT ∧ T ≠ c.z ∧ T ≠ c.i1 ∧ T ≠ c.i2 ∧ T ≠ S)
structure ZAp (c : ZCells) (S : Addr) : Prop where
  D : ZipApart c.z c.TI c.TO c.i1 c.i2 c.l1 c.l2
  z : c.z ≠ S
  TI : c.TI ≠ S
  TO : c.TO ≠ S
  i1 : c.i1 ≠ S
  i2 : c.i2 ≠ S
  l1 : c.l1 ≠ S
  l2 : c.l2 ≠ S
section
variable {prog : Program} {w : World} {A : Around} {E : Value → Shared → Prop} {s : Shared} {R : Result → Shared → Prop} {c : ZCells} {S : Addr} {xs ys : Array Value}
theorem ZSt.keep {h h' : Heap} {i : Nat} (Ap : ZAp c S) (st : ZSt c S xs ys i h) (hk : ∀ b o, b ≠ S → h.get? b = some o → h'.get? b = some o) : ZSt c S xs ys i h' := by
  obtain ⟨hTI, h1, h2, hl1, hl2, hz⟩ := st
  refine ⟨hk _ _ Ap.TI hTI, h1.at fun o e => hk _ o Ap.i1 e, h2.at fun o e => hk _ o Ap.i2 e, hl1.at fun o e => hk _ o Ap.l1 e, hl2.at fun o e => hk _ o Ap.l2 e, ?_⟩
  rcases hz with ⟨hz, a, b, hTO⟩ | ⟨T, f, oT, hz, hT, r1, r2, r3, r4⟩
  · exact .inl ⟨hk _ _ Ap.z hz, a, b, hk _ _ Ap.TO hTO⟩
  · exact .inr ⟨T, f, oT, hk _ _ Ap.z hz, hk _ _ r4 hT, r1, r2, r3, r4⟩
end
end Pd
set_option Elab.async false
set_option linter.all false
set_option maxRecDepth 100000
set_option maxHeartbeats 1000000
namespace Pd
open PySem PySem.Spec PyProof.Rows L2
/-! enumerate(zip(a, b)) of two lists -/
theorem meets_enumerate_zip (z TI TO : Addr) :
    Meets (Builtin.«enumerate.__new__» ⟨[.type "enumerate", .ref z], []⟩) (fun _ R s => IsZip s.heap z TI TO .none ∧
      R (.ok (.ret (.ref s.heap.objs.size))) { s with heap := s.heap.push { cls := .type "enumerate", data := .fields #[.none, .bool false, .ref z, rawInt 0, .none, .none] } }) :=
  .of_wp fun prog w A R s h => by
    obtain ⟨hp, g, d, tk, os⟩ := s; obtain ⟨hz, h⟩ := h
    have hsub := sub_enumerate
    have hZ : IsZip (Shared.heap ⟨hp, g, d, tk, os⟩) z TI TO .none := hz
    wp_walk
    refine wpAny_stack_any fun st => wpAny_pure ?_
    split
    · rename_i c _ _ _ _ _
      cases (c == Value.type "enumerate")
      · wp_walk using wpAny_pyIter_zip hZ
        exact ⟨_, rfl, h⟩
      · wp_walk using wpAny_pyIter_zip hZ
        exact ⟨_, rfl, h⟩
    · wp_walk using wpAny_pyIter_zip hZ
      exact ⟨_, rfl, h⟩
section
variable {prog : Program} {w : World} {A : Around} {E : Value → Shared → Prop} {s : Shared}
theorem call_enumerate_zip {z TI TO : Addr} {Q : Value → Shared → Prop} (hz : IsZip s.heap z TI TO .none)
    (h : ∀ h', IsEnum h' s.heap.objs.size z 0 .none → h'.objs.size = s.heap.objs.size + 1 → (∀ b o, s.heap.get? b = some o → h'.get? b = some o) → Q (.ref s.heap.objs.size) { s with heap := h' }) :
    wpAny (model prog w) A (call (.type "enumerate") [.ref z]) Q E s := by
  refine callType_new F.called_enumerate (by decide) (F.typeCall_enumerate_1 _) (F.newCall_enumerate_1 _) (fun obj => F.args_object_init_2 obj _) F.entry_enumerate_new
    (meets_enumerate_zip z TI TO) ⟨hz, ?_⟩
  have he : IsEnum (s.heap.push { cls := .type "enumerate", data := .fields #[.none, .bool false, .ref z, rawInt 0, .none, .none] }) s.heap.objs.size z 0 .none := Heap.get?_push_size _ rfl
  exact ⟨⟨_, he, rfl⟩, h _ he (Heap.size_push ..) fun b o x => Heap.get?_push_of_some _ x⟩
variable {c : ZCells} {S : Addr} {xs ys : Array Value}
theorem zip_not_held {h : Heap} {z TI TO T : Addr} {f : Bool} (a : IsZip h z TI TO .none) (b : IsZipHeld h z TI TO T f) : False := by
  have e := a.symm.trans b
  simp [rawInt] at e
theorem zip_held_one {h : Heap} {z TI TO T T' : Addr} {f f' : Bool} (a : IsZipHeld h z TI TO T f) (b : IsZipHeld h z TI TO T' f') : T = T' := by
  have e := a.symm.trans b
  simp [rawInt] at e
  first | exact e.1 | exact_mod_cast e.1 | exact Int.ofNat.inj e.1
theorem nextOf_zip {i : Nat} {x y : Value} {Q : Value → Shared → Prop} (Ap : ZAp c S) (st : ZSt c S xs ys i s.heap) (hS : S < s.heap.objs.size) (ex : xs[i]? = some x) (ey : ys[i]? = some y)
    (hQ : ∀ h', (∀ T f, IsZipHeld s.heap c.z c.TI c.TO T f → ∃ f', IsZipHeld h' c.z c.TI c.TO T f') → (IsZip s.heap c.z c.TI c.TO .none → ∃ f', IsZipHeld h' c.z c.TI c.TO s.heap.objs.size f') → (∀ a b, IsPair s.heap c.TO a b → ∃ a' b', IsPair h' c.TO a' b') → ZSt c S xs ys (i + 1) h' → IsPair h' s.heap.objs.size x y → h'.objs.size = s.heap.objs.size + 1 → (∀ b o, b ∉ [c.z, c.TO, c.i1, c.i2] → s.heap.get? b = some o → h'.get? b = some o) → Q (.ref s.heap.objs.size) { s with heap := h' }) :
    wpAny (model prog w) A (Builtin.SmallTypes.nextOf (.ref c.z)) Q E s := by
  obtain ⟨hTI, h1, h2, hl1, hl2, hz⟩ := st
  have D := Ap.D
  have lt : ∀ {c o}, s.heap.get? c = some o → s.heap.objs.size ≠ c := fun e => Nat.ne_of_gt (Heap.lt_size e)
  have n1 : s.heap.objs.size ≠ c.i1 := let ⟨_, e, _⟩ := h1; lt e
  have n2 : s.heap.objs.size ≠ c.i2 := let ⟨_, e, _⟩ := h2; lt e
  unfold Builtin.SmallTypes.nextOf
  rcases hz with ⟨hz, a, b, hTO⟩ | ⟨T, f, oT, hz, hT, r1, r2, r3, r4⟩
  · have hTy : s.TypeIs (.ref c.z) "zip" := ⟨_, hz, rfl⟩
    refine wpAny_bind (wpAny_callSpecial?_slot (name := Str.ofString "__next__") hTy F.slot_zip_next
      (wpAny_call_entry F.slot_zip_next hTy F.entry_zip_next (zip_next_item D hz hTI hTO h1 h2 hl1 hl2 ex ey fun h' a1 a2 a3 a4 a5 a6 hk => wpAny_pure ?_) (F.args_zip_next_1 _)))
    exact hQ h' (fun T f q => (zip_not_held hz q).elim) (fun _ => ⟨false, a1⟩) (fun _ _ _ => ⟨_, _, a2⟩) ⟨hk _ _ D.TIz D.TITO D.TIi1 D.TIi2 hTI, a3, a4, hl1.at fun o e => hk _ o D.l1z D.l1TO D.l1i1 D.l1i2 e, hl2.at fun o e => hk _ o D.l2z D.l2TO D.l2i1 D.l2i2 e,
        .inr ⟨s.heap.objs.size, false, _, a1, a5, lt hz, n1, n2, Nat.ne_of_gt hS⟩⟩ a5 a6 fun b o hb e => hk b o (fun x => hb (by simp [x])) (fun x => hb (by simp [x])) (fun x => hb (by simp [x])) (fun x => hb (by simp [x])) e
  · have hTy : s.TypeIs (.ref c.z) "zip" := ⟨_, hz, rfl⟩
    refine wpAny_bind (wpAny_callSpecial?_slot (name := Str.ofString "__next__") hTy F.slot_zip_next
      (wpAny_call_entry F.slot_zip_next hTy F.entry_zip_next (zip_next_item_held D hz hT hTI h1 h2 hl1 hl2 ex ey fun h' a1 a3 a4 a5 a6 hk => wpAny_pure ?_) (F.args_zip_next_1 _)))
    exact hQ h' (fun T' f' q => ⟨true, by rw [← zip_held_one hz q]; exact a1⟩) (fun q => (zip_not_held q hz).elim) (fun a b q => ⟨a, b, hk _ _ D.TOz D.TOi1 D.TOi2 q⟩) ⟨hk _ _ D.TIz D.TIi1 D.TIi2 hTI, a3, a4, hl1.at fun o e => hk _ o D.l1z D.l1i1 D.l1i2 e, hl2.at fun o e => hk _ o D.l2z D.l2i1 D.l2i2 e,
        .inr ⟨T, true, oT, a1, hk _ _ r1 r2 r3 hT, r1, r2, r3, r4⟩⟩ a5 a6 fun b o hb e => hk b o (fun x => hb (by simp [x])) (fun x => hb (by simp [x])) (fun x => hb (by simp [x])) e
theorem nextOf_zip_end {i : Nat} {Q : Value → Shared → Prop} (hh : A.handled = none) (Ap : ZAp c S) (st : ZSt c S xs ys i s.heap) (hend : xs[i]? = none ∨ ys[i]? = none)
    (hE : ∀ h' e, (∀ b o, b ∉ [c.z, c.TO, c.i1, c.i2] → s.heap.get? b = some o → h'.get? b = some o) → (∃ o, h'.get? e = some o ∧ o.cls = .type "StopIteration") → E (.ref e) { s with heap := h' }) : wpAny (model prog w) A (Builtin.SmallTypes.nextOf (.ref c.z)) Q E s := by
  obtain ⟨hTI, h1, h2, hl1, hl2, hz⟩ := st
  unfold Builtin.SmallTypes.nextOf
  rcases hz with ⟨hz, a, b, hTO⟩ | ⟨T, f, oT, hz, hT, r1, r2, r3, r4⟩
  · have hTy : s.TypeIs (.ref c.z) "zip" := ⟨_, hz, rfl⟩
    refine wpAny_bind (wpAny_callSpecial?_slot (name := Str.ofString "__next__") hTy F.slot_zip_next
      (wpAny_call_entry F.slot_zip_next hTy F.entry_zip_next (zip_next_end hh Ap.D hz hTI hTO h1 h2 hl1 hl2 hend fun h' e hk he => ?_) (F.args_zip_next_1 _)))
    exact hE h' e (fun b o hb e => hk b o (fun x => hb (by simp [x])) (fun x => hb (by simp [x])) (fun x => hb (by simp [x])) (fun x => hb (by simp [x])) e) he
  · have hTy : s.TypeIs (.ref c.z) "zip" := ⟨_, hz, rfl⟩
    refine wpAny_bind (wpAny_callSpecial?_slot (name := Str.ofString "__next__") hTy F.slot_zip_next
      (wpAny_call_entry F.slot_zip_next hTy F.entry_zip_next (zip_next_end_held hh Ap.D hz hT hTI h1 h2 hl1 hl2 hend fun h' e hk he => ?_) (F.args_zip_next_1 _)))
    exact hE h' e (fun b o hb e => hk b o (fun x => hb (by simp [x])) (fun x => hb (by simp [x])) (fun x => hb (by simp [x])) e) he
theorem enzip_next {e : Addr} {i : Nat} {x y old : Value} {Q : Value → Shared → Prop} (Ap : ZAp c e) (he : IsEnum s.heap e c.z i old) (st : ZSt c e xs ys i s.heap) (ex : xs[i]? = some x) (ey : ys[i]? = some y)
    (hQ : ∀ h', (∀ T f, IsZipHeld s.heap c.z c.TI c.TO T f → ∃ f', IsZipHeld h' c.z c.TI c.TO T f') → (IsZip s.heap c.z c.TI c.TO .none → ∃ f', IsZipHeld h' c.z c.TI c.TO s.heap.objs.size f') → (∀ a b, IsPair s.heap c.TO a b → ∃ a' b', IsPair h' c.TO a' b') → IsEnumOut h' e c.z ((i : Int) + 1) (.ref s.heap.objs.size) (s.heap.objs.size + 1) → ZSt c e xs ys (i + 1) h' → IsPair h' s.heap.objs.size x y →
      h'.get? (s.heap.objs.size + 1) = some { cls := .type "tuple", data := .seq #[.int i s.toks, .ref s.heap.objs.size] } →
      (∀ b o, b ∉ [e, c.z, c.TO, c.i1, c.i2] → s.heap.get? b = some o → h'.get? b = some o) → Q (.ref (s.heap.objs.size + 1)) { s with heap := h', toks := s.toks + 1 }) :
    wpAny (model prog w) A (Builtin.«enumerate.__next__» ⟨[.ref e], []⟩) (fun fin s' => ∃ v, fin = .done (.ret v) ∧ Q v s') E s := by
  obtain ⟨hp, g, d, tk, os⟩ := s
  have hel : e < hp.objs.size := Heap.lt_size he
  show wpAny _ _ (field (.ref e) 2 >>= _) _ _ _
  refine wpAny_bind (wpAny_field he rfl (x := .ref c.z) rfl ?_)
  refine wpAny_bind (nextOf_zip Ap st hel ex ey fun h₁ zz₁ zn₁ to₁ st₁ pr₁ sz₁ hk₁ => ?_)
  replace pr₁ : IsPair h₁ hp.objs.size x y := pr₁
  replace sz₁ : h₁.objs.size = hp.objs.size + 1 := sz₁
  replace hk₁ : ∀ b o, b ∉ [c.z, c.TO, c.i1, c.i2] → hp.get? b = some o → h₁.get? b = some o := hk₁
  have hec : e ∉ [c.z, c.TO, c.i1, c.i2] := fun z => by
    rcases (show e = c.z ∨ e = c.TO ∨ e = c.i1 ∨ e = c.i2 by simpa using z) with z | z | z | z
    · exact Ap.z z.symm
    · exact Ap.TO z.symm
    · exact Ap.i1 z.symm
    · exact Ap.i2 z.symm
  have he₁ : IsEnum h₁ e c.z i old := hk₁ _ _ hec he
  show wpAny _ _ (field (.ref e) 3 >>= _) _ _ ⟨h₁, g, d, tk, os⟩
  refine wpAny_bind (wpAny_field he₁ rfl (x := rawInt i) rfl ?_)
  show wpAny _ _ (field (.ref e) 4 >>= _) _ _ ⟨h₁, g, d, tk, os⟩
  refine wpAny_bind (wpAny_field he₁ rfl (x := .none) rfl ?_)
  show wpAny _ _ (mkInt i >>= _) _ _ ⟨h₁, g, d, tk, os⟩
  refine wpAny_bind (wpAny_mkInt ?_)
  show wpAny _ _ (setField (.ref e) 3 (rawInt ((i : Int) + 1)) >>= _) _ _ ⟨h₁, g, d, tk + 1, os⟩
  refine wpAny_bind (wpAny_setField_rec he₁ (by simp) fun h₂ he₂ hs₂ => ?_)
  replace hs₂ : Heap.SameBut e h₁ h₂ := hs₂
  replace he₂ : IsEnum h₂ e c.z ((i : Int) + 1) old := he₂
  show wpAny _ _ (setField (.ref e) 4 .none >>= _) _ _ ⟨h₂, g, d, tk + 1, os⟩
  refine wpAny_bind (wpAny_setField_rec he₂ (by simp) fun h₃ he₃ hs₃ => ?_)
  replace hs₃ : Heap.SameBut e h₂ h₃ := hs₃
  replace he₃ : IsEnum h₃ e c.z ((i : Int) + 1) old := he₃
  show wpAny _ _ (newTuple [.int i tk, .ref hp.objs.size] >>= _) _ _ ⟨h₃, g, d, tk + 1, os⟩
  refine wpAny_bind (wpAny_newTuple ?_)
  have he₄ : IsEnum (h₃.push { cls := .type "tuple", data := .seq #[.int i tk, .ref hp.objs.size] }) e c.z ((i : Int) + 1) old := Heap.get?_push_of_some _ he₃
  generalize hh₄ : h₃.push { cls := .type "tuple", data := .seq #[.int i tk, .ref hp.objs.size] } = h₄ at he₄
  have hsz : h₃.objs.size = hp.objs.size + 1 := by rw [hs₃.1, hs₂.1, sz₁]
  have ht₄ : h₄.get? (hp.objs.size + 1) = some { cls := .type "tuple", data := .seq #[.int i tk, .ref hp.objs.size] } := by rw [← hh₄, ← hsz]; exact Heap.get?_push_size _ rfl
  have k14 : ∀ b o, b ≠ e → h₁.get? b = some o → h₄.get? b = some o := fun b o hbe hb => by
    rw [← hh₄]; exact Heap.get?_push_of_some _ (hs₃.extBut b o hbe (hs₂.extBut b o hbe hb))
  have st₄ : ZSt c e xs ys (i + 1) h₄ := st₁.keep Ap k14
  show wpAny _ _ (Builtin.SmallTypes.ownedTupleIsFree (.ref e) >>= _) _ _ ⟨h₄, g, d, tk + 1, os⟩
  rw [hsz]
  clear hh₄ he₃ hs₃ he₂ hs₂ he₁ hsz h₃ h₂
  refine wpAny_bind ?_
  · unfold Builtin.SmallTypes.ownedTupleIsFree
    refine wpAny_bind (wpAny_field he₄ rfl (x := .none) rfl (wpAny_pure ?_))
    simp only [if_true]
    refine wpAny_bind (wpAny_rule ?_)
    refine wpAny_bind (wpAny_field he₄ rfl (x := old) rfl ?_)
    refine wpAny_bind (wpAny_setField_rec he₄ (by simp) fun h₅ he₅ hs₅ => ?_)
    replace hs₅ : Heap.SameBut e h₄ h₅ := hs₅
    replace he₅ : IsEnum h₅ e c.z ((i : Int) + 1) (.ref hp.objs.size) := he₅
    show wpAny _ _ (Builtin.SmallTypes.ownedTupleHandOut (.ref e) (.ref (hp.objs.size + 1)) >>= _) _ _ ⟨h₅, g, d, tk + 1, os⟩
    refine wpAny_bind ?_
    · unfold Builtin.SmallTypes.ownedTupleHandOut
      refine wpAny_bind (wpAny_setField_rec he₅ (by simp) fun h₆ he₆ hs₆ => ?_)
      replace hs₆ : Heap.SameBut e h₅ h₆ := hs₆
      replace he₆ : IsEnumOut h₆ e c.z ((i : Int) + 1) (.ref hp.objs.size) (hp.objs.size + 1) := he₆
      refine wpAny_setField_rec he₆ (by simp) fun h₇ he₇ hs₇ => ?_
      replace hs₇ : Heap.SameBut e h₆ h₇ := hs₇
      replace he₇ : IsEnumOut h₇ e c.z ((i : Int) + 1) (.ref hp.objs.size) (hp.objs.size + 1) := he₇
      have k47 : ∀ b o, b ≠ e → h₄.get? b = some o → h₇.get? b = some o := fun b o hbe hb => hs₇.extBut b o hbe (hs₆.extBut b o hbe (hs₅.extBut b o hbe hb))
      refine wpAny_bind (wpAny_letGo (wpAny_pure ⟨_, rfl, hQ h₇ (fun T f q => let ⟨f', r⟩ := zz₁ T f q; ⟨f', k47 _ _ Ap.z (k14 _ _ Ap.z r)⟩) (fun q => let ⟨f', r⟩ := zn₁ q; ⟨f', k47 _ _ Ap.z (k14 _ _ Ap.z r)⟩) (fun a b q => let ⟨a', b', r⟩ := to₁ a b q; ⟨a', b', k47 _ _ Ap.TO (k14 _ _ Ap.TO r)⟩) he₇ (st₄.keep Ap k47) ?_ ?_ ?_⟩))
      · exact k47 _ _ (Nat.ne_of_gt hel) (k14 _ _ (Nat.ne_of_gt hel) pr₁)
      · exact k47 _ _ (Nat.ne_of_gt (Nat.lt_succ_of_lt hel)) ht₄
      · intro b o hb hbo
        have hbe : b ≠ e := fun z => hb (by simp [z])
        exact k47 b o hbe (k14 b o hbe (hk₁ b o (fun z => hb (List.mem_cons_of_mem _ z)) hbo))
theorem pyNext_enzip {e : Addr} {i : Nat} {x y old : Value} {Q : Option Value → Shared → Prop} (Ap : ZAp c e) (he : IsEnum s.heap e c.z i old) (st : ZSt c e xs ys i s.heap) (ex : xs[i]? = some x) (ey : ys[i]? = some y)
    (hQ : ∀ h', (∀ T f, IsZipHeld s.heap c.z c.TI c.TO T f → ∃ f', IsZipHeld h' c.z c.TI c.TO T f') → (IsZip s.heap c.z c.TI c.TO .none → ∃ f', IsZipHeld h' c.z c.TI c.TO s.heap.objs.size f') → (∀ a b, IsPair s.heap c.TO a b → ∃ a' b', IsPair h' c.TO a' b') → IsEnumOut h' e c.z ((i : Int) + 1) (.ref s.heap.objs.size) (s.heap.objs.size + 1) → ZSt c e xs ys (i + 1) h' → IsPair h' s.heap.objs.size x y →
      h'.get? (s.heap.objs.size + 1) = some { cls := .type "tuple", data := .seq #[.int i s.toks, .ref s.heap.objs.size] } →
      (∀ b o, b ∉ [e, c.z, c.TO, c.i1, c.i2] → s.heap.get? b = some o → h'.get? b = some o) → Q (some (.ref (s.heap.objs.size + 1))) { s with heap := h', toks := s.toks + 1 }) :
    wpAny (model prog w) A (pyNext (.ref e)) Q E s := by
  have hT : s.TypeIs (.ref e) "enumerate" := ⟨_, he, rfl⟩
  unfold pyNext
  exact wpAny_bind (wpAny_attempt (wpAny_callSpecial?_slot (name := Str.ofString "__next__") hT F.slot_enumerate_next
    (wpAny_call_entry F.slot_enumerate_next hT F.entry_enumerate_next
      (enzip_next Ap he st ex ey fun h' z1 z2 z3 a b c d k => wpAny_pure (hQ h' z1 z2 z3 a b c d k)) (F.args_enumerate_next_1 _))))
theorem pyNext_enzip_end {e : Addr} {i : Nat} {old : Value} {Q : Option Value → Shared → Prop} (hh : A.handled = none) (Ap : ZAp c e) (he : IsEnum s.heap e c.z i old) (st : ZSt c e xs ys i s.heap) (hend : xs[i]? = none ∨ ys[i]? = none)
    (hQ : ∀ h', (∀ b o, b ∉ [e, c.z, c.TO, c.i1, c.i2] → s.heap.get? b = some o → h'.get? b = some o) → Q none { s with heap := h' }) : wpAny (model prog w) A (pyNext (.ref e)) Q E s := by
  have hT : s.TypeIs (.ref e) "enumerate" := ⟨_, he, rfl⟩
  unfold pyNext
  refine wpAny_bind (wpAny_attempt (wpAny_callSpecial?_slot (name := Str.ofString "__next__") hT F.slot_enumerate_next
    (wpAny_call_entry F.slot_enumerate_next hT F.entry_enumerate_next ?_ (F.args_enumerate_next_1 _))))
  show wpAny _ _ (field (.ref e) 2 >>= _) _ _ _
  refine wpAny_bind (wpAny_field he rfl (x := .ref c.z) rfl ?_)
  refine wpAny_bind (nextOf_zip_end hh Ap st hend fun h' x hk hx => ?_)
  obtain ⟨o, ho, hc⟩ := hx
  refine wpAny_bind (wpAny_isInstance (T := "StopIteration") (b := true) ⟨o, ho, hc⟩ isSubtype_stop ?_)
  exact wpAny_pure (hQ _ fun b o hb e => hk b o (fun z => hb (List.mem_cons_of_mem _ z)) e)
end
end Pd
set_option Elab.async false
set_option linter.all false
set_option maxRecDepth 100000
set_option maxHeartbeats 1000000
namespace Pd
open PySem PySem.Spec PyProof.Rows L2
/-! for k, (x, y) in enumerate(zip(a, b)), of two lists -/
/-- tuples stay -/
def TupK (H H' : Hp) : Prop := ∀ T vs, H T = some (.tup vs) → H' T = some (.tup vs)
def H5 (H : Hp) (T T2 : Addr) (i : Nat) (x y : V) : Hp := L2.upd (L2.upd H T (.tup [x, y])) T2 (.tup [.int (i : Nat), .ref T])
def tForEZ (K : PySem.W.Frag) (ta : TA) (g : TG) (tb : TS) : TS := fun D σ H => ta σ H fun vs H1 => ∃ (a b : Addr), vs = [.ref a, .ref b] ∧ (∃ xs ys, SqL K H1 a xs ∧ SqL K H1 b ys) ∧
  ∃ W : Nat → Nat → L2.St → Hp → Prop, (∃ m, W 0 m σ H1) ∧ ∀ i m σ H, W i m σ H → ∃ xs ys, SqL K H a xs ∧ SqL K H b ys ∧
    (((xs.length ≤ i ∨ ys.length ≤ i) ∧ D.nx σ H) ∨ ∃ x y, xs[i]? = some x ∧ ys[i]? = some y ∧ ∀ T T2, H T = none → H T2 = none → T ≠ T2 → ∃ N : L2.St → Hp → Prop, (∀ σ' H', N σ' H' → (∃ m', m' < m ∧ W (i + 1) m' σ' H') ∧ TupK (H5 H T T2 i x y) H') ∧
      g (.ref T2) σ (H5 H T T2 i x y) fun σ2 H2 => tb { D with nx := N, ct := N, bk := D.nx } σ2 H2)
/-- the cells of such a loop -/
def EzTn (c : ZCells) (e : Addr) (i : Nat) (h : Heap) : Prop := (∃ old, IsEnum h e c.z (i : Int) old) ∧ IsPair h c.TI (.ref c.i1) (.ref c.i2) ∧ h.IsListIter c.i1 c.l1 i ∧ h.IsListIter c.i2 c.l2 i ∧ (∃ a b, IsPair h c.TO a b)
/-- the zip: as it is made, or its first tuple is held -/
def EzZ (c : ZCells) (e : Addr) (H : Hp) (h : Heap) : Prop := IsZip h c.z c.TI c.TO .none ∨ ∃ T f vs, IsZipHeld h c.z c.TI c.TO T f ∧ H T = some (.tup vs) ∧ T ≠ c.z ∧ T ≠ c.i1 ∧ T ≠ c.i2 ∧ T ≠ e
abbrev ezFp (c : ZCells) (e : Addr) : List Addr := [e, c.z, c.TI, c.TO, c.i1, c.i2]
section
variable {X : Cx}
theorem ez_live {pins : List (Addr × Obj)} {σ : L2.St} {H : Hp} {s : Shared} (I : Inv X pins σ H s) {T : Addr} {vs : List V} (h : H T = some (.tup vs)) : ∃ o, s.heap.get? T = some o := by
  obtain ⟨its, _, p, _⟩ := I.tuple (show SqT X.K H T vs from .inl (.inl h))
  obtain ⟨o, ho, _⟩ := p
  exact ⟨o, ho⟩
theorem turnedNew2 {pins : List (Addr × Obj)} {σ : L2.St} {H : Hp} {s : Shared} {h' : Heap} {t' : Nat} {ch : List Addr} {T T2 : Addr} {o1 o2 : HO} (I : Inv X pins σ H s) (k : ∀ b o, b ∉ ch → s.heap.get? b = some o → h'.get? b = some o) (hf : ∀ b ∈ ch, FpOk X pins H b) (hT : s.heap.objs.size ≤ T) (hT2 : s.heap.objs.size ≤ T2) (hne : T ≠ T2)
    (new1 : ObjOk X.prog X.w (L2.upd (L2.upd H T o1) T2 o2) h' T o1) (new2 : ObjOk X.prog X.w (L2.upd (L2.upd H T o1) T2 o2) h' T2 o2) : Inv X pins σ (L2.upd (L2.upd H T o1) T2 o2) { s with heap := h', toks := t' } := by
  have hn : H T = none := I.hok.fresh hT
  have hn2 : H T2 = none := I.hok.fresh hT2
  have off : ∀ b, b ≠ T → b ≠ T2 → (L2.upd (L2.upd H T o1) T2 o2) b = H b := fun b b1 b2 => by rw [L2.upd_ne b2, L2.upd_ne b1]
  have kp : ∀ {b u}, H b = some u → (L2.upd (L2.upd H T o1) T2 o2) b = some u := fun {b u} e => by rw [off b (ne_of_none e hn) (ne_of_none e hn2)]; exact e
  have nit : ∀ b u, H b = some u → b ∉ ch := fun b u e z => by
    have q := (hf b z).1
    rw [q] at e; cases e
  refine I.step (g' := s.gens) (d' := s.drawn) (ch := ch) (fun b hb => ⟨(hf b hb).2.2.2.1, (hf b hb).2.1, (hf b hb).2.2.2.2.1, (hf b hb).2.2.2.2.2⟩) (fun b o _ _ hc e _ => k b o hc e) (fun b o _ _ hc e _ => ⟨o.slots, k b o hc e⟩)
    (fun b o _ e n => ?_) (fun b o hc e => ⟨o, k b o hc e⟩) (fun b xs e => kp e) (fun b o u e => kp e) (fun b ps e => ⟨#[], ?_⟩) (fun m hm => ?_) (fun b u e => ?_) I.bare
  · rw [off b (Nat.ne_of_lt (Nat.lt_of_lt_of_le (Heap.lt_size e) hT)) (Nat.ne_of_lt (Nat.lt_of_lt_of_le (Heap.lt_size e) hT2))]; exact n
  · rw [kp e]; simp
  · obtain ⟨o, es, ep, ho, r⟩ := hm
    exact ⟨o, es, ep, k _ o (fun z => (hf _ z).2.1 rfl) ho, r⟩
  · by_cases hb2 : b = T2
    · subst hb2
      rw [L2.upd_same] at e
      cases e
      exact new2
    by_cases hb : b = T
    · subst hb
      rw [L2.upd_ne hb2, L2.upd_same] at e
      cases e
      exact new1
    · rw [off b hb hb2] at e
      refine (I.hok b u e).stay (fun c v hc q => k c v ?_ q) (fun c q => kp q) fun c xs q => kp q
      rcases hc with z | z
      · rw [z]; exact nit b u e
      · exact nit c _ z
theorem ez_cells {c : ZCells} {e : Addr} (ap : ZAp c e) {b : Addr} : b ∉ ezFp c e ↔ b ≠ e ∧ b ≠ c.z ∧ b ≠ c.TI ∧ b ≠ c.TO ∧ b ≠ c.i1 ∧ b ≠ c.i2 := by simp
theorem ez_obj {c : ZCells} {e : Addr} {i : Nat} {H : Hp} {h : Heap} (tn : EzTn c e i h) (z : EzZ c e H h) : ∀ b ∈ ezFp c e, ∃ o, h.get? b = some o ∧ ∀ v, o.data ≠ .cell v := fun b hb => by
  obtain ⟨⟨old, he⟩, hTI, ⟨o1, e1, _, d1⟩, ⟨o2, e2, _, d2⟩, ⟨x, y, hTO⟩⟩ := tn
  rcases (show b = e ∨ b = c.z ∨ b = c.TI ∨ b = c.TO ∨ b = c.i1 ∨ b = c.i2 by simpa using hb) with rfl | rfl | rfl | rfl | rfl | rfl
  · exact ⟨_, he, fun v q => nomatch q⟩
  · rcases z with z | ⟨T, f, vs, z, _⟩
    · exact ⟨_, z, fun v q => nomatch q⟩
    · exact ⟨_, z, fun v q => nomatch q⟩
  · exact ⟨_, hTI, fun v q => nomatch q⟩
  · exact ⟨_, hTO, fun v q => nomatch q⟩
  · exact ⟨o1, e1, fun v q => by rw [d1] at q; cases q⟩
  · exact ⟨o2, e2, fun v q => by rw [d2] at q; cases q⟩
theorem ez_keep {c : ZCells} {e : Addr} {i : Nat} {h h' : Heap} (tn : EzTn c e i h) (k : ∀ b ∈ ezFp c e, ∀ o, h.get? b = some o → h'.get? b = some o) : EzTn c e i h' := by
  obtain ⟨⟨old, he⟩, hTI, it1, it2, ⟨x, y, hTO⟩⟩ := tn
  exact ⟨⟨old, k e (by simp) _ he⟩, k c.TI (by simp) _ hTI, it1.at fun o q => k c.i1 (by simp) o q, it2.at fun o q => k c.i2 (by simp) o q, ⟨x, y, k c.TO (by simp) _ hTO⟩⟩
theorem ez_zkeep {c : ZCells} {e : Addr} {H H' : Hp} {h h' : Heap} (z : EzZ c e H h) (k : ∀ b ∈ ezFp c e, ∀ o, h.get? b = some o → h'.get? b = some o) (t : TupK H H') : EzZ c e H' h' := by
  rcases z with z | ⟨T, f, vs, z, hT, r⟩
  · exact .inl (k c.z (by simp) _ z)
  · exact .inr ⟨T, f, vs, k c.z (by simp) _ z, t T vs hT, r⟩
theorem ez_st {c : ZCells} {e : Addr} {i : Nat} {pins : List (Addr × Obj)} {σ : L2.St} {H : Hp} {s : Shared} (I : Inv X pins σ H s) (tn : EzTn c e i s.heap) (z : EzZ c e H s.heap) {us vs : Array Value} (h1 : s.heap.IsList c.l1 us) (h2 : s.heap.IsList c.l2 vs) : ZSt c e us vs i s.heap := by
  obtain ⟨_, hTI, it1, it2, hTO⟩ := tn
  refine ⟨hTI, it1, it2, h1, h2, ?_⟩
  rcases z with z | ⟨T, f, ws, z, hT, r1, r2, r3, r4⟩
  · exact .inl ⟨z, hTO⟩
  · obtain ⟨o, ho⟩ := ez_live I hT
    exact .inr ⟨T, f, o, z, ho, r1, r2, r3, r4⟩
theorem ez_item {elts : List Expr} {kk : Nat} {tpos : Pos} {c : ZCells} {e : Addr} {i : Nat} {pins : List (Addr × Obj)} {σ : L2.St} {H : Hp} {s : Shared} {E : Value → Shared → Prop} {xs ys : List V} {x y : V} (I : Inv X pins σ H s) (hf : ∀ b ∈ ezFp c e, FpOk X pins H b) (tn : EzTn c e i s.heap) (z : EzZ c e H s.heap) (ap : ZAp c e)
    (hx : SqL X.K H c.l1 xs) (hy : SqL X.K H c.l2 ys) (ex : xs[i]? = some x) (ey : ys[i]? = some y) :
    wpAny (model X.prog X.w) X.A (pyNext (.ref e)) (fun r s1 => ∃ u, r = some u ∧ wpAny (model X.prog X.w) X.A (letOwnedTupleGo (.Tuple elts kk tpos) (.ref e) u) (fun _ s2 => ∃ T T2, H T = none ∧ H T2 = none ∧ T ≠ T2 ∧ u = .ref T2 ∧ Inv X pins σ (H5 H T T2 i x y) s2 ∧ EzTn c e (i + 1) s2.heap ∧ EzZ c e (H5 H T T2 i x y) s2.heap ∧ ∀ b ∈ ezFp c e, H5 H T T2 i x y b = none) E s1) E s := by
  obtain ⟨its, rv, p, _⟩ := I.list hx
  obtain ⟨its2, rv2, p2, _⟩ := I.list hy
  obtain ⟨u, hu, ru⟩ := rv.get ex
  obtain ⟨u2, hu2, ru2⟩ := rv2.get ey
  have st := ez_st I tn z p.isList p2.isList
  obtain ⟨⟨old, he⟩, hTI, it1, it2, ⟨x0, y0, hTO⟩⟩ := tn
  have hel : e < s.heap.objs.size := Heap.lt_size he
  have lt : ∀ {b o}, s.heap.get? b = some o → b < s.heap.objs.size := fun e => Heap.lt_size e
  refine pyNext_enzip ap he st (x := u) (y := u2) (by simpa using hu) (by simpa using hu2) fun h' z1 z2 z3 ho st' pr tt hk => ?_
  refine ⟨_, rfl, wpAny_letOwnedTupleGo_enum (s := { s with heap := h', toks := s.toks + 1 }) ho fun h'' he' sb => ?_⟩
  replace sb : Heap.SameBut e h' h'' := sb
  have k2 : ∀ b o, b ≠ e → h'.get? b = some o → h''.get? b = some o := fun b o hb q => (sb.2 _ hb).trans q
  have hT1 : h''.get? s.heap.objs.size = some { cls := .type "tuple", data := .seq #[u, u2] } := k2 _ _ (Nat.ne_of_gt hel) pr
  have hT2 : h''.get? (s.heap.objs.size + 1) = some { cls := .type "tuple", data := .seq #[.int i s.toks, .ref s.heap.objs.size] } := k2 _ _ (Nat.ne_of_gt (Nat.lt_succ_of_lt hel)) tt
  have hne : s.heap.objs.size ≠ s.heap.objs.size + 1 := Nat.ne_of_lt (Nat.lt_succ_self _)
  have fr1 : H s.heap.objs.size = none := I.hok.fresh (Nat.le_refl _)
  have fr2 : H (s.heap.objs.size + 1) = none := I.hok.fresh (Nat.le_succ _)
  have new1 : ObjOk X.prog X.w (H5 H s.heap.objs.size (s.heap.objs.size + 1) i x y) h'' s.heap.objs.size (.tup [x, y]) := ⟨by show 2 ≤ sizeLine; decide, [u, u2], .cons ru (.cons ru2 .nil), ⟨_, hT1, rfl, _, rfl⟩⟩
  have new2 : ObjOk X.prog X.w (H5 H s.heap.objs.size (s.heap.objs.size + 1) i x y) h'' (s.heap.objs.size + 1) (.tup [.int (i : Nat), .ref s.heap.objs.size]) := ⟨by show 2 ≤ sizeLine; decide, [.int i s.toks, .ref s.heap.objs.size], .cons ⟨_, rfl⟩ (.cons rfl .nil), ⟨_, hT2, rfl, _, rfl⟩⟩
  have I1 : Inv X pins σ (H5 H s.heap.objs.size (s.heap.objs.size + 1) i x y) { s with heap := h'', toks := s.toks + 1 } :=
    turnedNew2 (t' := s.toks + 1) (ch := ezFp c e) I (fun b o hb q => by
      obtain ⟨b1, b2, b3, b4, b5, b6⟩ := (ez_cells ap).mp hb
      exact k2 b o b1 (hk b o (by simp [b1, b2, b4, b5, b6]) q)) hf (Nat.le_refl _) (Nat.le_succ _) hne new1 new2
  obtain ⟨hTI', it1', it2', _, _, _⟩ := st'
  have cell : ∀ b ∈ ezFp c e, b < s.heap.objs.size := fun b hb => by
    obtain ⟨o, ho, _⟩ := ez_obj ⟨⟨old, he⟩, hTI, it1, it2, ⟨x0, y0, hTO⟩⟩ z b hb
    exact lt ho
  have h5none : ∀ b ∈ ezFp c e, H5 H s.heap.objs.size (s.heap.objs.size + 1) i x y b = none := fun b hb => by
    have := cell b hb
    show L2.upd (L2.upd H _ _) _ _ b = none
    rw [L2.upd_ne (Nat.ne_of_lt (Nat.lt_succ_of_lt this)), L2.upd_ne (Nat.ne_of_lt this)]
    exact (hf b hb).1
  have h5T : H5 H s.heap.objs.size (s.heap.objs.size + 1) i x y s.heap.objs.size = some (.tup [x, y]) := by
    show L2.upd (L2.upd H _ _) _ _ _ = _
    rw [L2.upd_ne hne, L2.upd_same]
  have h5K : ∀ b o, H b = some o → H5 H s.heap.objs.size (s.heap.objs.size + 1) i x y b = some o := fun b o q => by
    show L2.upd (L2.upd H _ _) _ _ _ = _
    rw [L2.upd_ne (ne_of_none q fr2), L2.upd_ne (ne_of_none q fr1)]; exact q
  refine ⟨_, _, fr1, fr2, hne, rfl, I1, ⟨⟨.ref s.heap.objs.size, ?_⟩, k2 _ _ ap.TI hTI', it1'.at fun o q => k2 _ _ ap.i1 q, it2'.at fun o q => k2 _ _ ap.i2 q, ?_⟩, ?_, h5none⟩
  · have e1 : ((i + 1 : Nat) : Int) = (i : Int) + 1 := by omega
    rw [e1]; exact he'
  · obtain ⟨a', b', q⟩ := z3 _ _ hTO
    exact ⟨a', b', k2 _ _ ap.TO q⟩
  · rcases z with z | ⟨T, f, ws, z, hT, r⟩
    · obtain ⟨f', q⟩ := z2 z
      refine .inr ⟨_, f', _, k2 _ _ ap.z q, h5T, Nat.ne_of_gt (cell c.z (by simp)), Nat.ne_of_gt (cell c.i1 (by simp)), Nat.ne_of_gt (cell c.i2 (by simp)), Nat.ne_of_gt hel⟩
    · obtain ⟨f', q⟩ := z1 T f z
      exact .inr ⟨T, f', ws, k2 _ _ ap.z q, h5K _ _ hT, r⟩
theorem ez_done {c : ZCells} {e : Addr} {i : Nat} {pins : List (Addr × Obj)} {σ : L2.St} {H : Hp} {s : Shared} {E : Value → Shared → Prop} {xs ys : List V} (hc : X.calm = true) (I : Inv X pins σ H s) (hf : ∀ b ∈ ezFp c e, FpOk X pins H b) (tn : EzTn c e i s.heap) (z : EzZ c e H s.heap) (ap : ZAp c e)
    (hx : SqL X.K H c.l1 xs) (hy : SqL X.K H c.l2 ys) (hend : xs.length ≤ i ∨ ys.length ≤ i) :
    wpAny (model X.prog X.w) X.A (pyNext (.ref e)) (fun r s1 => r = none ∧ Inv X pins σ H s1) E s := by
  obtain ⟨its, rv, p, _⟩ := I.list hx
  obtain ⟨its2, rv2, p2, _⟩ := I.list hy
  have st := ez_st I tn z p.isList p2.isList
  obtain ⟨⟨old, he⟩, _⟩ := tn
  have hl := rv.length
  have hl2 := rv2.length
  refine pyNext_enzip_end (I.ok.hd hc) ap he st (hend.imp (fun q => by simp; omega) fun q => by simp; omega) fun h' hk => ⟨rfl, I.turnedL (t' := s.toks) (ch := ezFp c e) (fun b o hb q => ?_) hf⟩
  obtain ⟨b1, b2, b3, b4, b5, b6⟩ := (ez_cells ap).mp hb
  exact hk b o (by simp [b1, b2, b4, b5, b6]) q
theorem ps_forEZ {e1 e2 : Expr} {ta : TA} {p pz pe pos tpos : Pos} {pzp : Pos} {elts : List Expr} {kk : Nat} {body : List Stmt} {g : TG} {tb : TS} (hp : PassesOwn (model X.prog X.w) X.A X.env X.xe) (hc : X.calm = true) (hgE : Gl X "enumerate") (hmE : X.mg "enumerate" = none) (hgZ : Gl X "zip") (hmZ : X.mg "zip" = none)
    (ha : PA X [e1, e2] ta) (hg : PG X (.Tuple elts kk tpos) g) (hb : PSs X body tb)
    (hst : starEach [e1, e2] X.env = (false, eval e1 X.env) :: starEach [e2] X.env := by rfl) (hpl : (backTo pz (starEach [e2] X.env)).any (·.1) = false := by rfl)
    (hsE : starEach [Expr.Call (.Name "zip" pzp) [e1, e2] [] pz] X.env = (false, eval (Expr.Call (.Name "zip" pzp) [e1, e2] [] pz) X.env) :: starEach [] X.env := by rfl)
    (hs : ∀ x, foldedSetIterable (.Call (.Name "enumerate" p) [.Call (.Name "zip" pzp) [e1, e2] [] pz] [] pe) X.env x = pure x := by intro _; rfl) :
    PS X (.For (.Tuple elts kk tpos) (.Call (.Name "enumerate" p) [.Call (.Name "zip" pzp) [e1, e2] [] pz] [] pe) body [] pos) (tForEZ X.K ta g tb) := by
  refine ⟨fun pins s σ H D I h => ?_⟩
  have made : wpAny (model X.prog X.w) X.A (eval (.Call (.Name "enumerate" p) [.Call (.Name "zip" pzp) [e1, e2] [] pz] [] pe) X.env) (fun v s1 => wpAny (model X.prog X.w) X.A (pyIter v) (fun itv s2 => ∃ (c : ZCells) (e : Addr) (H1 : Hp), itv = .ref e ∧ Inv X pins σ H1 s2 ∧ ZAp c e ∧ EzTn c e 0 s2.heap ∧ EzZ c e H1 s2.heap ∧ (∀ b ∈ ezFp c e, FpOk X pins H1 b) ∧
      ∃ W : Nat → Nat → L2.St → Hp → Prop, (∃ m, W 0 m σ H1) ∧ ∀ i m σ H, W i m σ H → ∃ xs ys, SqL X.K H c.l1 xs ∧ SqL X.K H c.l2 ys ∧
    (((xs.length ≤ i ∨ ys.length ≤ i) ∧ D.nx σ H) ∨ ∃ x y, xs[i]? = some x ∧ ys[i]? = some y ∧ ∀ T T2, H T = none → H T2 = none → T ≠ T2 → ∃ N : L2.St → Hp → Prop, (∀ σ' H', N σ' H' → (∃ m', m' < m ∧ W (i + 1) m' σ' H') ∧ TupK (H5 H T T2 i x y) H') ∧
      g (.ref T2) σ (H5 H T T2 i x y) fun σ2 H2 => tb { D with nx := N, ct := N, bk := D.nx } σ2 H2)) X.xe s1) X.xe s := by
    refine Call_ (ld_blt I hgE hmE boot_enumerate (PyProof.Rows.callWith_type1 (args_cons ?_ hsE) hsE rfl))
    refine Call_ (ld_blt I hgZ hmZ PyProof.Rows.boot_zip (PyProof.Rows.callWith_type1 (thn (ha.run pz pins s σ H _ I h) fun us s1 ⟨vs, Hn, I1, rr, q⟩ => ?_) hst hpl))
    obtain ⟨a, b, ex, ⟨xs, ys, sx, sy⟩, q⟩ := q
    subst ex
    cases rr with
    | cons ra rr2 =>
      cases rr2 with
      | cons rb rr3 =>
        cases rr3
        cases ra
        cases rb
        obtain ⟨us, _, pu, _⟩ := I1.list sx
        obtain ⟨vs, _, pv, _⟩ := I1.list sy
        have lu : a < s1.heap.objs.size := pu.lt
        have lv : b < s1.heap.objs.size := pv.lt
        refine zip_begins2 (begins_list a us.toArray) (begins_list b vs.toArray) pu.isList pv.isList fun hn hz hTI hTO g1 g2 hsz hk => ?_
        refine args_nil ?_
        refine call_enumerate_zip (s := { s1 with heap := hn }) hz fun h' he hsz' hk' => wpAny_pyIter_enum he ?_
        replace he : IsEnum h' hn.objs.size (s1.heap.objs.size + 4) 0 .none := he
        replace hk' : ∀ b o, hn.get? b = some o → h'.get? b = some o := hk'
        have I2 : Inv X pins σ Hn { s1 with heap := h' } := I1.kept (t' := s1.toks) fun c o e => hk' c o (hk c o e)
        rw [hsz] at he ⊢
        have fr : ∀ j, FpOk X pins Hn (s1.heap.objs.size + j) := fun j => I1.fpOk (Nat.le_add_right _ _) (I1.hok.fresh (Nat.le_add_right _ _))
        generalize hN : s1.heap.objs.size = N at he hz hTI hTO g1 g2 hsz lu lv fr ⊢
        have na : ∀ j, a ≠ N + j := fun j => Nat.ne_of_lt (Nat.lt_of_lt_of_le lu (Nat.le_add_right _ _))
        have nb : ∀ j, b ≠ N + j := fun j => Nat.ne_of_lt (Nat.lt_of_lt_of_le lv (Nat.le_add_right _ _))
        have nn : ∀ j k : Nat, j ≠ k → N + j ≠ N + k := fun j k q z => q (Nat.add_left_cancel z)
        refine ⟨⟨N + 4, N + 2, N + 3, N + 0, N + 1, a, b⟩, N + 5, Hn, rfl, I2, ⟨⟨nn _ _ (by decide), nn _ _ (by decide), nn _ _ (by decide), nn _ _ (by decide), nn _ _ (by decide), nn _ _ (by decide), nn _ _ (by decide), nn _ _ (by decide), nn _ _ (by decide), nn _ _ (by decide), na _, na _, na _, na _, nb _, nb _, nb _, nb _⟩, nn _ _ (by decide), nn _ _ (by decide), nn _ _ (by decide), nn _ _ (by decide), nn _ _ (by decide), na _, nb _⟩,
          ⟨⟨.none, he⟩, hk' _ _ hTI, ⟨_, hk' _ _ g1, rfl, rfl⟩, ⟨_, hk' _ _ g2, rfl, rfl⟩, ⟨_, _, hk' _ _ hTO⟩⟩, .inl (hk' _ _ hz), fun c hc => ?_, q⟩
        rcases (show c = N + 5 ∨ c = N + 4 ∨ c = N + 2 ∨ c = N + 3 ∨ c = N + 0 ∨ c = N + 1 by simpa using hc) with z | z | z | z | z | z <;> (rw [z]; exact fr _)
  refine wpAny_For (thn made fun v s1 h1 => thn h1 fun itv s2 h2 => ?_) hs
  obtain ⟨c, e, H2, rfl, I2, ap, st2, z2, f2, W, ⟨m0, w0⟩, turn⟩ := h2
  have stat : ∀ {H' : Hp}, (∀ b ∈ ezFp c e, H' b = none) → ∀ b ∈ ezFp c e, FpOk X pins H' b := fun hn b hb => ⟨hn b hb, (f2 b hb).2⟩
  refine codeAny_forLoop_any (fun n s' => ∃ i σ' H', Inv X pins σ' H' s' ∧ EzTn c e i s'.heap ∧ EzZ c e H' s'.heap ∧ (∀ b ∈ ezFp c e, H' b = none) ∧ W i n σ' H') ?_ m0 ⟨0, σ, H2, I2, st2, z2, fun b hb => (f2 b hb).1, w0⟩
  rintro n s3 ⟨i, σ3, H3, I3, st3, z3, fr3, w3⟩
  obtain ⟨xs, ys, sx, sy, hcase⟩ := turn i n σ3 H3 w3
  rcases hcase with ⟨stop, qn⟩ | ⟨x, y, hx, hy, step⟩
  · refine wpAny_passesOwn hp (thn (ez_done (E := X.xe) hc I3 (stat fr3) st3 z3 ap sx sy stop) fun r s4 ⟨hr, I4⟩ => ?_)
    subst hr
    exact wpAny_execs_nil ⟨σ3, H3, I4, qn⟩
  · refine wpAny_passesOwn hp (thn (ez_item (E := X.xe) (elts := elts) (kk := kk) (tpos := tpos) I3 (stat fr3) st3 z3 ap sx sy hx hy) fun r s4 ⟨u, hr, h4⟩ => ?_)
    subst hr
    refine wpAny_passesOwn hp (thn h4 fun _ s5 ⟨T, T2, n1, n2, nT, hu, I5, st5, z5, fr5⟩ => ?_)
    subst hu
    have I5' := I5.pinned (stat fr5) (ez_obj st5 z5)
    obtain ⟨N, hN, q5⟩ := step T T2 n1 n2 nT
    refine wpAny_passesOwn hp (thn (hg.run _ s5 σ3 _ (.ref T2) (.ref T2) _ I5' rfl q5) fun _ s6 ⟨σ6, H6, I6, q6⟩ => ?_)
    refine wpAny_passesOwn hp (thn (hb.run _ s6 σ6 H6 _ I6 q6) fun f s7 q7 => ?_)
    have again : ∀ {σ7 : L2.St} {H7 : Hp}, Inv X (pins ++ pinsAt (ezFp c e) s5.heap) σ7 H7 s7 → N σ7 H7 → ∃ m, m < n ∧ ∃ i σ' H', Inv X pins σ' H' s7 ∧ EzTn c e i s7.heap ∧ EzZ c e H' s7.heap ∧ (∀ b ∈ ezFp c e, H' b = none) ∧ W i m σ' H' := fun {σ7 H7} I7 n7 => by
      obtain ⟨⟨m', hm, w7⟩, tk⟩ := hN σ7 H7 n7
      have kk : ∀ b ∈ ezFp c e, ∀ o, s5.heap.get? b = some o → s7.heap.get? b = some o := fun b hb o q => (I7.pin (b, o) (List.mem_append_right _ (List.mem_append_right _ (mem_pinsAt hb q)))).1
      refine ⟨m', hm, i + 1, σ7, H7, I7.unpinned, ez_keep st5 kk, ez_zkeep z5 kk tk, fun b hb => ?_, w7⟩
      obtain ⟨o, q, d⟩ := ez_obj st5 z5 b hb
      exact (I7.pin (b, o) (List.mem_append_right _ (List.mem_append_right _ (mem_pinsAt hb q)))).2.1
    cases f with
    | next => obtain ⟨σ7, H7, I7, n7⟩ := q7; exact again I7 n7
    | cont => obtain ⟨σ7, H7, I7, n7⟩ := q7; exact again I7 n7
    | brk => obtain ⟨σ7, H7, I7, q7⟩ := q7; exact ⟨σ7, H7, I7.unpinned, q7⟩
    | ret v => obtain ⟨x7, σ7, H7, I7, r7, q7⟩ := q7; exact ⟨x7, σ7, H7, I7.unpinned, r7, q7⟩
end
end Pd
set_option Elab.async false
set_option linter.all false
set_option maxRecDepth 100000
set_option maxHeartbeats 1000000
namespace Pd
/-- enumerate(zip(a, b)) of two lists -/
def iEnZ (t u : WE) : WI := fun E ψ g K => t E ψ g fun r ψ g => u E ψ g fun r' ψ g => optQ (look ψ g r) fun c => optQ (look ψ g r') fun c' => optQ (lstC c) fun xs => optQ (lstC c') fun ys =>
  K (numbered 0 (pairUp xs ys)) (fun ψ g => still r c ψ g ∧ still r' c' ψ g) ψ g
@[simp ↓] theorem s_iEnZ (t u : WE) (E : EX) (ψ : Psi) (g : G) (K : List D → (Psi → G → Prop) → Psi → G → Prop) : iEnZ t u E ψ g K = t E ψ g fun r ψ g => u E ψ g fun r' ψ g => optQ (look ψ g r) fun c => optQ (look ψ g r') fun c' => optQ (lstC c) fun xs => optQ (lstC c') fun ys => K (numbered 0 (pairUp xs ys)) (fun ψ g => still r c ψ g ∧ still r' c' ψ g) ψ g := nrfl rfl
end Pd
set_option Elab.async false
set_option linter.all false
set_option maxRecDepth 100000
set_option maxHeartbeats 1000000
namespace Pd
open PySem PySem.Spec PyProof.Rows L2
section
variable {X : Cx} {tb : Tb} {s1 : WS} {S : List Nat}
theorem ds_forEZ {e1 e2 : Expr} {te u : WE} {p pz pe pos tpos pzp : Pos} {elts : List Expr} {kk : Nat} {body : List Stmt} {gt : WG} {SA SB SG : List Nat} (hp : PassesOwn (model X.prog X.w) X.A X.env X.xe) (BE : Bl X.mg "enumerate" (.type "enumerate")) (BZ : Bl X.mg "zip" (.type "zip"))
    (h : DSo X tb e1 SA te) (h' : DSo X tb e2 SB u) (hg : DG X tb (.Tuple elts kk tpos) SG gt) (hb : DSs X tb body S s1)
    (hgE : Gl X "enumerate" := by rfl) (hgZ : Gl X "zip" := by rfl)
    (hs1 : starEach [e1, e2] X.env = (false, eval e1 X.env) :: starEach [e2] X.env := by rfl) (hs2 : starEach [e2] X.env = (false, eval e2 X.env) :: starEach [] X.env := by rfl) (hpl : (backTo pz (starEach [e2] X.env)).any (·.1) = false := by rfl)
    (hsE : starEach [Expr.Call (.Name "zip" pzp) [e1, e2] [] pz] X.env = (false, eval (Expr.Call (.Name "zip" pzp) [e1, e2] [] pz) X.env) :: starEach [] X.env := by rfl)
    (hd : ((SA ++ SB).all fun j => !(SG ++ S).contains j) = true := by rfl) (hc : X.calm = true := by rfl)
    (hs : ∀ x, foldedSetIterable (.Call (.Name "enumerate" p) [.Call (.Name "zip" pzp) [e1, e2] [] pz] [] pe) X.env x = pure x := by intro _; rfl) :
    DSt X tb (.For (.Tuple elts kk tpos) (.Call (.Name "enumerate" p) [.Call (.Name "zip" pzp) [e1, e2] [] pz] [] pe) body [] pos) (SG ++ S) (sFor (iEnZ te u) gt s1) := fun W tk => by
  obtain ⟨t1, h1, h2⟩ := h W tk
  obtain ⟨t2, h1', h2'⟩ := h' W tk
  obtain ⟨g0, h3, h4⟩ := hg
  obtain ⟨t3, h5, h6⟩ := hb W tk
  have apart : ∀ j ∈ SA ++ SB, j ∉ SG ++ S := fun j hj z => by
    have := List.all_eq_true.mp hd j hj
    rw [Bool.not_eq_true', List.contains_eq_mem, decide_eq_false_iff_not] at this
    exact this z
  refine ⟨_, ps_forEZ hp hc hgE BE.no hgZ BZ.no (pa_cons h1 (pa_cons h1' pa_nil hs2) hs1) h3 h5 hs1 hpl hsE hs, fun Dn E F T ψ g σ H R ex o q => h2 Dn.ex F T ψ g σ H _ _ R ex.now q fun r ψ1 g1 T1 v H1 q1 sl rr R1 k1 => ?_⟩
  obtain ⟨T', rfl⟩ := id rr.suffix
  refine h2' Dn.ex F (T' ++ T) ψ1 g1 σ H1 _ _ R1 (ex.now.more k1) q1 fun r' ψ2 g2 T2 v' H2 q2 sl' rr' R2 k2 => ?_
  obtain ⟨T'', rfl⟩ := id rr'.suffix
  obtain ⟨c, e1', q3⟩ := optQ_inv q2
  obtain ⟨c', e2', q4⟩ := optQ_inv q3
  obtain ⟨xs, f1, q5⟩ := optQ_inv q4
  obtain ⟨ys, f2, q6⟩ := optQ_inv q5
  have rA := rr.keep k2
  have rc := R2.look rA e1' ⟨T'', rfl⟩
  have rc' := R2.look rr' e2' ⟨[], rfl⟩
  have okA : ∀ {ψ : Psi} {g : G} {T2 : Own} {σ' : L2.St} {H : Hp}, still r c ψ g → Rel (bx X tb) F ψ g (T2 ++ (T'' ++ (T' ++ T))) σ' H → (∀ j ∈ SA ++ SB, σ'[j]? = σ[j]?) → Keep H2 H → RC (bx X tb) H c v := fun {ψ g T2 σ' H} o R3 es kk =>
    still_rc (T2 := T2 ++ T'') rA sl e1' o (by rw [List.append_assoc]; exact R3) (fun j hj => es j (List.mem_append_left _ hj)) kk
  have okB : ∀ {ψ : Psi} {g : G} {T2 : Own} {σ' : L2.St} {H : Hp}, still r' c' ψ g → Rel (bx X tb) F ψ g (T2 ++ (T'' ++ (T' ++ T))) σ' H → (∀ j ∈ SA ++ SB, σ'[j]? = σ[j]?) → Keep H2 H → RC (bx X tb) H c' v' := fun {ψ g T2 σ' H} o R3 es kk =>
    still_rc (T2 := T2) rr' sl' e2' o R3 (fun j hj => es j (List.mem_append_right _ hj)) kk
  have R2' : Rel (bx X tb) F ψ2 g2 ((T'' ++ T') ++ T) σ H2 := by rw [List.append_assoc]; exact R2
  obtain ⟨a, vs, rfl, p1, p2⟩ := lstC_rc rc f1
  obtain ⟨b, ws, rfl, p1', p2'⟩ := lstC_rc rc' f2
  have kk0 := k1.trans k2
  let ok : Psi → G → Prop := fun ψ g => still r c ψ g ∧ still r' c' ψ g
  let L := numbered 0 (pairUp xs ys)
  refine ⟨a, b, rfl, ⟨vs, ws, p1, p1'⟩, fun i m σ' H' => m = L.length - i ∧ i ≤ L.length ∧ Keep H2 H' ∧ SameS (SG ++ S) σ σ' ∧ ∃ ψ g, ok ψ g ∧ forL gt s1 Dn ok (L.drop i) ψ g ∧ Rel (bx X tb) F ψ g ((T'' ++ T') ++ T) σ' H',
    ⟨_, rfl, Nat.zero_le _, Keep.refl H2, fun _ _ => rfl, ψ2, g2, ⟨still_now e1', still_now e2'⟩, q6, R2'⟩, ?_⟩
  rintro i m σ' H' ⟨rfl, hl, k3, e3, ψ3, g3, ok3, q3, R3⟩
  have es : ∀ j ∈ SA ++ SB, σ'[j]? = σ[j]? := fun j hj => e3 j (apart j hj)
  have R3a : Rel (bx X tb) F ψ3 g3 ([] ++ (T'' ++ (T' ++ T))) σ' H' := by rw [List.nil_append, ← List.append_assoc]; exact R3
  obtain ⟨a', vs', z1, sx, rx⟩ := lstC_rc (okA ok3.1 R3a es k3) f1
  obtain ⟨b', ws', z2, sy, ry⟩ := lstC_rc (okB ok3.2 R3a es k3) f2
  cases z1; cases z2
  refine ⟨vs', ws', sx, sy, ?_⟩
  by_cases hlt : i < L.length
  · have hx : L[i]? = some L[i] := List.getElem?_eq_getElem hlt
    have hx' : (numbered 0 (pairUp xs ys))[i]? = some L[i] := hx
    rw [List.drop_eq_getElem_cons hlt] at q3
    rw [numbered_get] at hx'
    obtain ⟨pr, e6, e7⟩ := Option.map_eq_some_iff.mp hx'
    obtain ⟨x, y, ex1, ey1, rfl⟩ := pairUp_get i xs ys pr e6
    obtain ⟨w, w1, w2⟩ := rx.get ex1
    obtain ⟨w', w1', w2'⟩ := ry.get ey1
    rw [Nat.zero_add] at e7
    refine .inr ⟨w, w', w1, w1', fun T1' T2' n1 n2 nT => ⟨fun σ'' H'' => Keep (H5 H' T1' T2' i w w') H'' ∧ i + 1 ≤ L.length ∧ Keep H2 H'' ∧ SameS (SG ++ S) σ σ'' ∧ ∃ ψ g, ok ψ g ∧ forL gt s1 Dn ok (L.drop (i + 1)) ψ g ∧ Rel (bx X tb) F ψ g ((T'' ++ T') ++ T) σ'' H'', fun σ'' H'' z => ⟨⟨L.length - (i + 1), by omega, rfl, z.2⟩, z.1.tup⟩, ?_⟩⟩
    have kA : Keep H' (L2.upd H' T1' (.tup [w, w'])) := Keep.new n1
    have n2' : (L2.upd H' T1' (.tup [w, w'])) T2' = none := by rw [L2.upd_ne (Ne.symm nT)]; exact n2
    have kB : Keep (L2.upd H' T1' (.tup [w, w'])) (H5 H' T1' T2' i w w') := Keep.new n2'
    have k4 : Keep H' (H5 H' T1' T2' i w w') := kA.trans kB
    have R4 : Rel (bx X tb) F ψ3 g3 ((T'' ++ T') ++ T) σ' (H5 H' T1' T2' i w w') := (R3.alloc n1).alloc n2'
    have rv : RV (bx X tb).K (H5 H' T1' T2' i w w') L[i] (.ref T2') := by
      rw [← e7]
      refine .tup (.inl (.inl upd_same)) (.cons (.int _) (.cons ?_ .nil))
      exact RV.keep kB (.tup (.inl (.inl upd_same)) (.cons (w2.keep kA) (.cons (w2'.keep kA) .nil)))
    refine h4 F ((T'' ++ T') ++ T) ψ3 g3 σ' _ L[i] (.ref T2') _ _ R4 rv q3 fun ψ4 g4 σ4 H4 q4 R4 k5 e4 _ => ?_
    have kk := (k3.trans k4).trans k5
    have e4' : SameS (SG ++ S) σ σ4 := e3.trans (SameS.sub e4 fun j hj => List.mem_append_left _ hj)
    have o4 := o.at (kk0.trans kk) e4'
    have again : ∀ ψ5 g5 σ5 H5', (∃ g2, G.le g2 g5 ∧ ok ψ5 g2 ∧ forL gt s1 Dn ok (L.drop (i + 1)) ψ5 g2) → Rel (bx X tb) F ψ5 g5 ((T'' ++ T') ++ T) σ5 H5' → Keep H4 H5' → SameS S σ4 σ5 →
        Keep (H5 H' T1' T2' i w w') H5' ∧ i + 1 ≤ L.length ∧ Keep H2 H5' ∧ SameS (SG ++ S) σ σ5 ∧ ∃ ψ g, ok ψ g ∧ forL gt s1 Dn ok (L.drop (i + 1)) ψ g ∧ Rel (bx X tb) F ψ g ((T'' ++ T') ++ T) σ5 H5' := fun ψ5 g5 σ5 H5' ⟨g6, hle, ok6, w6⟩ R5 k6 e5 =>
      ⟨k5.trans k6, hlt, kk.trans k6, e4'.trans (SameS.sub e5 fun j hj => List.mem_append_right _ hj), ψ5, g6, ok6, w6, R5.le hle⟩
    refine h6 { Dn with nx := fun ψ' g' => ∃ g2, G.le g2 g' ∧ ok ψ' g2 ∧ forL gt s1 Dn ok (L.drop (i + 1)) ψ' g2, ct := fun ψ' g' => ∃ g2, G.le g2 g' ∧ ok ψ' g2 ∧ forL gt s1 Dn ok (L.drop (i + 1)) ψ' g2, bk := Dn.nx } _ F ((T'' ++ T') ++ T) ψ4 g4 σ4 H4 R4 (((ex.more (kk0.trans kk)).at e4').sub fun j hj => List.mem_append_right _ hj) ⟨again, fun r g5 v5 H5 q5 R5 k5 => o4.rt r g5 v5 H5 q5 R5 k5, fun ψ5 g5 σ5 H5 q5 R5 k5 e5 => ?_, again⟩ q4
    exact o4.nx ψ5 g5 σ5 H5 q5 R5.dropT k5 (SameS.sub e5 fun j hj => List.mem_append_right _ hj)
  · rw [List.drop_eq_nil_of_le (by omega)] at q3
    refine .inl ⟨?_, o.nx ψ3 g3 σ' H' q3 R3.dropT (kk0.trans k3) e3⟩
    have hl2 : L.length = (pairUp xs ys).length := numbered_length 0 _
    rw [← rx.length, ← ry.length]
    exact pairUp_end i _ _ (by omega)
end
end Pd
set_option Elab.async false
set_option linter.all false
set_option maxRecDepth 100000
set_option maxHeartbeats 1000000
namespace Pd
open PySem PySem.Spec PyProof.Rows L2
end Pd
set_option Elab.async false
set_option linter.all false
set_option maxRecDepth 100000
set_option maxHeartbeats 1000000
namespace Pd
open PySem PySem.Spec PyProof.Rows L2
section
variable {X : Cx} {tb : Tb} {a e : Expr} {ta te : WE} {pos apos : Pos}
/-! lists of numbers in order; the place of a value in a list -/
theorem ints_at : ∀ {vs : List Value} {ns : List Int}, IntsAre vs ns → ∀ j, j < vs.length → ∃ t, vs[j]? = some (Value.int (ns.getD j 0) t)
  | _, _, .nil, j, h => by cases h
  | _, _, .cons n t r, 0, _ => ⟨t, rfl⟩
  | _, _, .cons n t r, j + 1, h => by
    obtain ⟨t2, e⟩ := ints_at r j (by simpa using h)
    exact ⟨t2, by simpa using e⟩
theorem firstLt_nil (e r : Nat → Bool) (fin : Bool) : SeqAt.firstLt e r fin [] = fin := rfl
theorem firstLt_cons (e r : Nat → Bool) (fin : Bool) (j : Nat) (l : List Nat) : SeqAt.firstLt e r fin (j :: l) = if e j = true then SeqAt.firstLt e r fin l else r j := rfl
theorem firstLt_map (e r : Nat → Bool) (fin : Bool) : ∀ l : List Nat, SeqAt.firstLt e r fin (l.map Nat.succ) = SeqAt.firstLt (fun j => e (j + 1)) (fun j => r (j + 1)) fin l
  | [] => rfl
  | j :: l => by rw [List.map_cons, firstLt_cons, firstLt_cons, firstLt_map e r fin l]
theorem firstLt_lex : ∀ ns ms : List Int, SeqAt.firstLt (fun j => ns.getD j 0 == ms.getD j 0) (fun j => decide (ns.getD j 0 < ms.getD j 0)) (decide (ns.length < ms.length)) (List.range (min ns.length ms.length)) = lexI ns ms
  | [], [] => rfl
  | [], _ :: ms => by simp [lexI, firstLt_nil]
  | _ :: _, [] => by simp [lexI, firstLt_nil]
  | n :: ns, m :: ms => by
    rw [List.length_cons, List.length_cons, show min (ns.length + 1) (ms.length + 1) = min ns.length ms.length + 1 by omega, List.range_succ_eq_map, firstLt_cons, firstLt_map]
    have := firstLt_lex ns ms
    show (if (n == m) = true then SeqAt.firstLt (fun j => ns.getD j 0 == ms.getD j 0) (fun j => decide (ns.getD j 0 < ms.getD j 0)) (decide (ns.length + 1 < ms.length + 1)) (List.range (min ns.length ms.length)) else decide (n < m)) = if n = m then lexI ns ms else decide (n < m)
    rw [show decide (ns.length + 1 < ms.length + 1) = decide (ns.length < ms.length) from decide_eq_decide.mpr (by omega), this]
    by_cases c : n = m
    · rw [if_pos c, if_pos (by simpa using c)]
    · rw [if_neg c, if_neg (by simpa using c)]
theorem op_ltL (hu : X.A.units + 128 < cLine) : OpR X (compareOp .Lt) (rLtL X) := by
  intro pins s σ H x y v u Q I rx ry h
  obtain ⟨a, b, ns, ms, rfl, rfl, ha, hb, q⟩ := h
  cases rx; cases ry
  obtain ⟨its, r1, p1, z1⟩ := Inv.list I ha
  obtain ⟨its2, r2, p2, z2⟩ := Inv.list I hb
  have i1 := intsAre_of r1
  have i2 := intsAre_of r2
  have l1 : its.length = ns.length := by rw [← Vals.length r1, List.length_map]
  have l2 : its2.length = ms.length := by rw [← Vals.length r2, List.length_map]
  have at1 : ∀ (j : Nat) (h : j < its.toArray.size), ∃ t, its.toArray[j] = Value.int (ns.getD j 0) t := fun j h => by
    obtain ⟨t, e⟩ := ints_at i1 j (by simpa using h)
    refine ⟨t, ?_⟩
    have h' : j < its.length := by simpa using h
    rw [List.getElem?_eq_getElem h'] at e
    simpa using Option.some.inj e
  have at2 : ∀ (j : Nat) (h : j < its2.toArray.size), ∃ t, its2.toArray[j] = Value.int (ms.getD j 0) t := fun j h => by
    obtain ⟨t, e⟩ := ints_at i2 j (by simpa using h)
    refine ⟨t, ?_⟩
    have h' : j < its2.length := by simpa using h
    rw [List.getElem?_eq_getElem h'] at e
    simpa using Option.some.inj e
  have z := SeqAt.RcLt.lists (A := X.A) (s := s) (e := fun j => ns.getD j 0 == ms.getD j 0) (r := fun j => decide (ns.getD j 0 < ms.getD j 0)) (PlainL.isList p1) (PlainL.isList p2) (by omega)
    (fun j h1 h2 => by
      obtain ⟨t, e1⟩ := at1 j h1
      obtain ⟨t', e2⟩ := at2 j h2
      rw [e1, e2]
      exact SeqAt.EqAt.int_int _ _ _ _)
    (fun j h1 h2 _ => by
      obtain ⟨t, e1⟩ := at1 j h1
      obtain ⟨t', e2⟩ := at2 j h2
      rw [e1, e2]
      exact fun prog w E Q q => PyProof.Rows.lt_int q)
  refine z X.prog X.w X.xe _ ?_
  have hf := firstLt_lex ns ms
  rw [show its.toArray.size = ns.length by simpa using l1, show its2.toArray.size = ms.length by simpa using l2, hf]
  exact ⟨.bl _, H, I, rfl, q⟩
theorem op_gtL (hu : X.A.units + 128 < cLine) : OpR X (compareOp .Gt) (rGtL X) := by
  intro pins s σ H x y v u Q I rx ry h
  obtain ⟨a, b, ns, ms, rfl, rfl, ha, hb, q⟩ := h
  cases rx; cases ry
  obtain ⟨its, r1, p1, z1⟩ := Inv.list I ha
  obtain ⟨its2, r2, p2, z2⟩ := Inv.list I hb
  have i1 := intsAre_of r1
  have i2 := intsAre_of r2
  have l1 : its.length = ns.length := by rw [← Vals.length r1, List.length_map]
  have l2 : its2.length = ms.length := by rw [← Vals.length r2, List.length_map]
  have at1 : ∀ (j : Nat) (h : j < its.toArray.size), ∃ t, its.toArray[j] = Value.int (ns.getD j 0) t := fun j h => by
    obtain ⟨t, e⟩ := ints_at i1 j (by simpa using h)
    refine ⟨t, ?_⟩
    have h' : j < its.length := by simpa using h
    rw [List.getElem?_eq_getElem h'] at e
    simpa using Option.some.inj e
  have at2 : ∀ (j : Nat) (h : j < its2.toArray.size), ∃ t, its2.toArray[j] = Value.int (ms.getD j 0) t := fun j h => by
    obtain ⟨t, e⟩ := ints_at i2 j (by simpa using h)
    refine ⟨t, ?_⟩
    have h' : j < its2.length := by simpa using h
    rw [List.getElem?_eq_getElem h'] at e
    simpa using Option.some.inj e
  have z := SeqAt.RcOp.lists_gt (A := X.A) (s := s) (e := fun j => ns.getD j 0 == ms.getD j 0) (r := fun j => decide (ms.getD j 0 < ns.getD j 0)) (PlainL.isList p1) (PlainL.isList p2) (by omega)
    (fun j h1 h2 => by
      obtain ⟨t, e1⟩ := at1 j h1
      obtain ⟨t', e2⟩ := at2 j h2
      rw [e1, e2]
      exact SeqAt.EqAt.int_int _ _ _ _)
    (fun j h1 h2 _ => by
      obtain ⟨t, e1⟩ := at1 j h1
      obtain ⟨t', e2⟩ := at2 j h2
      rw [e1, e2]
      exact fun prog w E Q q => PyProof.Rows.gt_int q)
  refine z X.prog X.w X.xe _ ?_
  have hf := firstLt_lex ms ns
  have he : (fun j => ns.getD j 0 == ms.getD j 0) = fun j => ms.getD j 0 == ns.getD j 0 := funext fun j => by
    rw [Bool.eq_iff_iff, beq_iff_eq, beq_iff_eq]; exact eq_comm
  rw [show its.toArray.size = ns.length by simpa using l1, show its2.toArray.size = ms.length by simpa using l2, he, Nat.min_comm, show decide (ns.length > ms.length) = decide (ms.length < ns.length) from rfl, hf]
  exact ⟨.bl _, H, I, rfl, q⟩
theorem op_gtA (hu : X.A.units + 128 < cLine) : OpR X (compareOp .Gt) (fun x y H Q => rI0 (fun i j => .bl (decide (j < i))) x y H Q ∨ rGtL X x y H Q) := op_gt.or (op_gtL hu)
theorem op_ltA (hu : X.A.units + 128 < cLine) : OpR X (compareOp .Lt) (fun x y H Q => rI0 (fun i j => .bl (decide (i < j))) x y H Q ∨ rLtL X x y H Q) := op_lt.or (op_ltL hu)
end
end Pd
set_option Elab.async false
set_option linter.all false
set_option maxRecDepth 100000
set_option maxHeartbeats 1000000
namespace Pd
/-! a slot's object is shared before the row: nothing runs, the slot now names a place -/
def sSh (i : Nat) (s : WS) : WS := fun Dn ψ g => toD (.sl i) ψ g fun _ ψ g => s Dn ψ g
@[simp ↓] theorem s_sSh (i : Nat) (s : WS) (Dn : Pd.Ends) (ψ : Psi) (g : G) : sSh i s Dn ψ g = toD (.sl i) ψ g fun _ ψ g => s Dn ψ g := rfl
end Pd
set_option Elab.async false
set_option linter.all false
set_option maxRecDepth 100000
set_option maxHeartbeats 1000000
namespace Pd
open PySem PySem.Spec PyProof.Rows L2
theorem toD_slot {i : Nat} {ψ : Psi} {g : G} {k : D → Psi → G → Prop} (q : toD (.sl i) ψ g k) : ∃ s, ψ[i]? = some (some s) := by
  have q' : (match ψ[i]? with | some (some (.d x)) => k x ψ g | some (some (.own o)) => ∀ p, g p = none → k (.ref p) (ψ.set i (some (.d (.ref p)))) (g.upd p o) | _ => False) := q
  cases e : ψ[i]? with
  | none => rw [e] at q'; exact q'.elim
  | some s => cases s with
    | none => rw [e] at q'; exact q'.elim
    | some s => exact ⟨s, rfl⟩
theorem ds_sh {X : Cx} {tb : Tb} {st : Stmt} {S : List Nat} {s : WS} (i : Nat) (h : DSt X tb st S s) : DSt X tb st S (sSh i s) := fun W tk => by
  obtain ⟨t1, h1, h2⟩ := h W tk
  refine ⟨_, h1, fun Dn E F T ψ g σ H R ex o q => ?_⟩
  obtain ⟨sl, hs⟩ := toD_slot q
  obtain ⟨v, hv, _⟩ := R.sl i sl hs
  obtain ⟨_, ψ1, g1, q1, _, R1⟩ := Rel.toD R (r := .sl i) ⟨hv, rfl⟩ q
  exact h2 Dn E F T ψ1 g1 σ H R1 ex o q1
end Pd
set_option Elab.async false
set_option linter.all false
set_option maxRecDepth 100000
set_option maxHeartbeats 1000000
namespace Pd
open PyProof.Rows (lexLt itemOrd lex_total lex_irrefl lex_trans lex_negTrans)
/-! lists of tuples of texts, sorted -/
abbrev keyT (t : List (List Nat)) : List (Int ⊕ List Nat) := t.map Sum.inr
def ltT (a b : List (List Nat)) : Bool := lexLt itemOrd (keyT a) (keyT b)
def insT (x : List (List Nat)) : List (List (List Nat)) → List (List (List Nat))
  | [] => [x]
  | y :: r => if ltT y x = true then y :: insT x r else x :: y :: r
def sortT (xs : List (List (List Nat))) : List (List (List Nat)) := xs.foldr insT []
abbrev tupD (t : List (List Nat)) : D := .tup (t.map D.str)
def tupT : D → Option (List (List Nat))
  | .tup xs => textsD xs
  | _ => none
def tupsT : List D → Option (List (List (List Nat)))
  | [] => some []
  | x :: r => (tupT x).bind fun t => if t = [] then none else (tupsT r).map (t :: ·)
/-- sorted(..) of tuples of texts -/
def oSortT : G → C → Option R
  | _, .o (.lst xs) => (tupsT xs).map fun ts => .own (.lst ((sortT ts).map tupD))
  | _, .o (.dic true kvs) => (tupsT (kvs.map (·.1))).map fun ts => .own (.lst ((sortT ts).map tupD))
  | _, _ => none
@[simp] theorem o_sortL (g : G) (xs : List D) : oSortT g (.o (.lst xs)) = (tupsT xs).map fun ts => .own (.lst ((sortT ts).map tupD)) := rfl
@[simp] theorem o_sortD (g : G) (kvs : List (D × D)) : oSortT g (.o (.dic true kvs)) = (tupsT (kvs.map (·.1))).map fun ts => .own (.lst ((sortT ts).map tupD)) := rfl
end Pd
set_option Elab.async false
set_option linter.all false
set_option maxRecDepth 100000
set_option maxHeartbeats 1000000
namespace Pd
open PySem PySem.Spec PyProof.Rows L2
/-! sorted of a list of tuples of texts, and of a dict's keys that are such -/
/-! at the model: what stands sorted -/
section
variable {X : Cx} {tb : Tb} {a e : Expr} {ta te : WE} {pos apos : Pos}
end
end Pd
set_option Elab.async false
set_option linter.all false
set_option maxRecDepth 100000
set_option maxHeartbeats 1000000
namespace Pd
open PySem PySem.W
/-! lists of any plain things, sorted -/
def rowsD (g : G) (xs : List D) : Option (List (D × D)) := xs.mapM fun x => (rsv 6 g x).map fun y => (x, y)
def alikeB (ys : List (D × D)) : Bool := ys.all fun a => ys.all fun b => alike (toPy a.2) (toPy b.2)
def sortableB (ys : List (D × D)) : Bool := ys.all fun a => match a.2 with
  | .tup (_ :: _) => true
  | _ => false
abbrev encD (p : D × D) : PyData := toPy p.2
def oSortD : G → C → Option R
  | g, .o (.lst xs) => (rowsD g xs).bind fun ys => if (alikeB ys && sortableB ys && ys.all fun a => decide (a.2.depth ≤ 60)) = true then some (.own (.lst ((ys.mergeSort (dataLe false encD)).map (·.1)))) else none
  | _, _ => none
end Pd
set_option Elab.async false
set_option linter.all false
set_option maxRecDepth 100000
set_option maxHeartbeats 1000000
namespace Pd
open PySem PySem.Spec PyProof.Rows L2
open PySem.W (EachIs AllAlike Sortable dataLe)
section
variable {X : Cx} {tb : Tb} {a e : Expr} {ta te : WE} {pos apos : Pos}
/-- sorted(xs), xs a list of things that are alike, tuples all of them -/
def rSortD (X : Cx) : List V → Hp → VK → Prop := fun vs H Q => ∃ (a : Addr) (xs : List V) (ys : List (D × D)), vs = [V.ref a] ∧ SqL X.K H a xs ∧ RVs X.K H (ys.map (·.1)) xs ∧ DpAll X.K H xs (ys.map encD) ∧ alikeB ys = true ∧ sortableB ys = true ∧ (ys.all fun a => decide (a.2.depth ≤ 60)) = true ∧
  ∀ zs p, RVs X.K H ((ys.mergeSort (dataLe false encD)).map (·.1)) zs → zs.length = xs.length → H p = none → Q (.ref p) (upd H p (.lst zs))
theorem dp_rows {K : PySem.W.Frag} {H : Hp} : ∀ {ys : List (D × D)} {xs : List V} {its : List Value}, RVs K H (ys.map (·.1)) xs → Vals xs its → EachIs (fun v (b : D × D) => ∃ x : V, RelV x v ∧ RV K H b.1 x) its ys
  | [], _, _, .nil, .nil => .nil
  | _ :: _, _, _, .cons r rs, .cons v vs => .cons ⟨_, v, r⟩ (dp_rows rs vs)
theorem rows_back {K : PySem.W.Frag} {H : Hp} : ∀ {ys : List (D × D)} {out : List Value}, EachIs (fun v (b : D × D) => ∃ x : V, RelV x v ∧ RV K H b.1 x) out ys → ∃ zs : List V, RVs K H (ys.map (·.1)) zs ∧ Vals zs out
  | [], _, .nil => ⟨[], .nil, .nil⟩
  | _ :: _, _, .cons ⟨x, r1, r2⟩ t => let ⟨zs, h1, h2⟩ := rows_back t; ⟨x :: zs, .cons r2 h1, .cons r1 h2⟩
theorem dp_reads {pins : List (Addr × Obj)} {σ : L2.St} {H : Hp} {s : Shared} (I : Inv X pins σ H s) : ∀ {ys : List (D × D)} {xs : List V} {its : List Value}, DpAll X.K H xs (ys.map encD) → Vals xs its → EachIs (fun v (b : D × D) => ∃ as, Reads s.heap v (encD b) as) its ys
  | [], _, _, .nil, .nil => .nil
  | _ :: _, _, _, .cons d ds, .cons v vs => .cons (Dp.reads I _ _ _ d v) (dp_reads I ds vs)
theorem call_sortD (hu : X.A.units + 128 < cLine) : CallR X (.builtin "sorted") (rSortD X) := by
  intro pins s σ H vs us Q I r h
  obtain ⟨a, xs, ys, rfl, hs, rv0, hd, hal, hk, hdp, q⟩ := h
  obtain ⟨its, rv, hl, hz⟩ := I.list hs
  obtain ⟨u, rfl, ru⟩ := vals1 r
  obtain rfl : u = Value.ref a := ru
  have hzi : its.length ≤ sizeLine := by rw [← rv.length]; exact hz
  have hlen : ys.length = xs.length := by have := rv0.length; simpa using this
  refine PySem.W.sorted_data (β := D × D) (bs := ys) (enc := encD) hl.isList (dp_rows rv0 rv) (dp_reads I hd rv) ?_ ?_ (by rw [hlen, rv.length]; exact hzi) (fun b hb => ?_) fun out ho he => ?_
  · intro d hd d' hd'
    obtain ⟨b, hb, rfl⟩ := List.mem_map.mp hd
    obtain ⟨b', hb', rfl⟩ := List.mem_map.mp hd'
    exact List.all_eq_true.mp (List.all_eq_true.mp hal b hb) b' hb'
  · refine .inl fun d hd => ?_
    obtain ⟨b, hb, rfl⟩ := List.mem_map.mp hd
    have := List.all_eq_true.mp hk b hb
    unfold encD
    split at this
    · rename_i x xs e
      rw [e]; exact ⟨_, _, rfl⟩
    · cases this
  · have := of_decide_eq_true (List.all_eq_true.mp hdp b hb)
    show X.A.units + 2 + (toPy b.2).depth < cLine
    rw [toPy_depth]; omega
  · obtain ⟨zs, h1, h2⟩ := rows_back he
    have hzl : zs.length = xs.length := by rw [h2.length, ho, hlen]
    obtain ⟨ep, he'⟩ := sortedAll_at s.heap its out.toArray
    exact ⟨.ref _, upd H (s.heap.objs.size + 1) (.lst zs), I.laid (t' := s.toks) (fun _ _ => sortedAll_old) (Nat.le_succ _) ⟨by rw [hzl]; exact hz, out, ep, h2, he'⟩, rfl, q _ _ h1 hzl (I.hok.fresh (Nat.le_succ _))⟩
theorem rows_ok {B : Bx} {g : G} {H : Hp} (gl : Glob B g H) : ∀ {xs : List D} {ys : List (D × D)} {vs : List V}, rowsD g xs = some ys → RVs B.K H xs vs → xs = ys.map (·.1) ∧ DpAll B.K H vs (ys.map encD)
  | [], ys, vs, h, r => by
    cases h; cases r; exact ⟨rfl, .nil⟩
  | x :: xs, ys, _, h, .cons r rs => by
    have e : rowsD g (x :: xs) = ((rsv 6 g x).map fun y => (x, y)).bind fun a => (rowsD g xs).map (a :: ·) := by
      unfold rowsD
      rw [List.mapM_cons]
      cases (rsv 6 g x) with
      | none => rfl
      | some y =>
        show ((List.mapM (fun x => Option.map (fun y => (x, y)) (rsv 6 g x)) xs).bind fun b => some ((x, y) :: b)) = Option.map _ _
        cases (List.mapM (fun x => Option.map (fun y => (x, y)) (rsv 6 g x)) xs) <;> rfl
    rw [e] at h
    obtain ⟨p, h1, h2⟩ := Option.bind_eq_some_iff.mp h
    obtain ⟨y, h3, rfl⟩ := Option.map_eq_some_iff.mp h1
    obtain ⟨zs, h4, rfl⟩ := Option.map_eq_some_iff.mp h2
    obtain ⟨e1, e2⟩ := rows_ok gl h4 rs
    exact ⟨by rw [e1]; rfl, .cons (rsv_ok gl 6 _ _ _ h3 r).2.1 e2⟩
theorem ok_sortD : UnOk X tb oSortD (fun v H Q => rSortD X [v] H Q) := fun F T ψ g σ H c x z Q R hc e k => by
  unfold oSortD at e
  split at e
  · rename_i xs
    obtain ⟨ys, e1, e2⟩ := Option.bind_eq_some_iff.mp e
    split at e2
    · rename_i hh
      cases e2
      rw [Bool.and_eq_true, Bool.and_eq_true] at hh
      obtain ⟨a, rfl, vs, h1, h2⟩ := hc
      obtain ⟨e3, e4⟩ := rows_ok R.gl e1 h2
      exact ⟨_, _, ys, rfl, SqL.of h1, e3 ▸ h2, e4, hh.1.1, hh.1.2, hh.2, fun zs p r _ hp => give_lst R r k p hp⟩
    · cases e2
  · cases e
theorem de_sortedD {p : Pos} (hu : X.A.units + 128 < cLine) (B : Bl X.mg "sorted" (.builtin "sorted")) (ha : DE X tb a ta) (hg : Gl X "sorted" := by rfl) (hs : starEach [a] X.env = (false, eval a X.env) :: starEach [] X.env := by rfl) (hc : X.calm = true := by rfl) : DE X tb (.Call (.Name "sorted" p) [a] [] pos) (eUn oSortD ta) :=
  de_call1 (call_sortD hu) ok_sortD (fun t h => pe_callB (call_sortD hu) hg B.no B.is h (he := hs)) ha hs
end
end Pd
set_option linter.all false
namespace Pd
/-- is_name(word) -/
def b_is_name : WS :=
  (sSeq (sIf (tOr (tV (eBin oLt (eUn oLen (eVar 0)) (eC (.int 1)))) (tV (eBin oGt (eUn oLen (eVar 0)) (eC (.int 8))))) (sRet (eC (.bl false))) sNx) (sRet (eUn oAll (eComp [1] (iStr (eVar 0)) (gName 1) tYes (eBin oIn (eVar 1) (eC (.str [97, 98, 99, 100, 101, 102, 103, 104, 105, 106, 107, 108, 109, 110, 111, 112, 113, 114, 115, 116, 117, 118, 119, 120, 121, 122])))))))
/-- need_names(part, words, most, others) -/
def b_need_names (φ_is_name : SpD) : WS :=
  (sSeq (sIf (tV (eBin oEq (eVar 1) (eLst dNil))) (sRaise "NoMachine" ["part", "number"] (dCons (eVar 0) (dCons (eC (.int 0)) dNil))) sNx) (sSeq (sSet 4 (eDic false)) (sSeq (sFor (iEnum (eNs (eCut (eVar 1) none (some (eVar 2))))) (gTup [(gName 5), (gName 6)]) (sSeq (sIf (tOr (tNot (tV (eCall φ_is_name [false] (aCons (eVar 6) aNil)))) (tOr (tV (eBin oIn (eVar 6) (eVar 4))) (tV (eBin oIn (eVar 6) (eVar 3))))) (sRaise "NoMachine" ["part", "number"] (dCons (eVar 0) (dCons (eVar 5) dNil))) sNx) (sSetIx putIx (eVar 4) (eVar 6) (eC (.bl true))))) (sIf (tV (eBin oGt (eUn oLen (eVar 1)) (eVar 2))) (sRaise "NoMachine" ["part", "number"] (dCons (eVar 0) (dCons (eVar 2) dNil))) sNx))))
/-- is_sign_of(sign, asks, says) -/
def b_is_sign_of : WS :=
  (sSeq (sIf (tV (eBin oEq (eUn oLen (eVar 0)) (eC (.int 1)))) (sRet (eBin oEq (eBin oIx (eVar 0) (eC (.int 0))) (eC (.str [115, 116, 105, 108, 108])))) sNx) (sSeq (sIf (tV (eBin oEq (eBin oIx (eVar 0) (eC (.int 0))) (eC (.str [97, 115, 107])))) (sRet (eBin oIn (eBin oIx (eVar 0) (eC (.int 1))) (eVar 1))) sNx) (sRet (eAnd (eBin oEq (eBin oIx (eVar 0) (eC (.int 0))) (eC (.str [115, 97, 121]))) (eBin oIn (eBin oIx (eVar 0) (eC (.int 1))) (eVar 2))))))
/-- need_doors(doors, asks, says, rooms) -/
def b_need_doors (φ_is_sign_of : SpD) : WS :=
  (sSeq (sSet 4 (eDic true)) (sSeq (sFor (iEnum (eNs (eCut (eVar 0) none (some (eC (.int 2000)))))) (gTup [(gName 5), (gTup [(gName 6), (gName 7), (gName 8)])]) (sSeq (sSet 9 (eAnd (eBin oIn (eVar 6) (eVar 3)) (eAnd (eBin oIn (eVar 8) (eVar 3)) (eCall φ_is_sign_of [false, false, false] (aCons (eVar 7) (aCons (eVar 1) (aCons (eVar 2) aNil))))))) (sSeq (sIf (tOr (tNot (tV (eVar 9))) (tV (eBin oIn (eTup (dCons (eVar 6) (dCons (eVar 7) (dCons (eVar 8) dNil)))) (eVar 4)))) (sRaise "NoMachine" ["part", "number"] (dCons (eC (.str [100, 111, 111, 114, 115])) (dCons (eVar 5) dNil))) sNx) (sSetIx putIx (eVar 4) (eTup (dCons (eVar 6) (dCons (eVar 7) (dCons (eVar 8) dNil)))) (eC (.bl true)))))) (sIf (tV (eBin oGt (eUn oLen (eVar 0)) (eC (.int 2000)))) (sRaise "NoMachine" ["part", "number"] (dCons (eC (.str [100, 111, 111, 114, 115])) (dCons (eC (.int 2000)) dNil))) sNx)))
/-- Machine.__init__(self, asks, says, rooms, doors) -/
def b_Machine___init__ (φ_need_names φ_need_doors φ_Machine_comes_round : SpD) : WS :=
  (sSeq (sE (eCall φ_need_names [false, false, false, false] (aCons (eC (.str [97, 115, 107, 115])) (aCons (eVar 1) (aCons (eC (.int 4)) (aCons (eLst dNil) aNil)))))) (sSeq (sE (eCall φ_need_names [false, false, false, false] (aCons (eC (.str [115, 97, 121, 115])) (aCons (eVar 2) (aCons (eC (.int 4)) (aCons (eVar 1) aNil)))))) (sSeq (sE (eCall φ_need_names [false, false, false, false] (aCons (eC (.str [114, 111, 111, 109, 115])) (aCons (eVar 3) (aCons (eC (.int 150)) (aCons (eLst dNil) aNil)))))) (sSeq (sFld "Machine" "ask_words" (eVar 0) (eUn oList (eVar 1))) (sSeq (sFld "Machine" "say_words" (eVar 0) (eUn oList (eVar 2))) (sSeq (sFld "Machine" "leading" (eVar 0) (eDic false)) (sSeq (sFor (iIt (eVar 3)) (gName 5) (sSetIx putIx (eFld "Machine" "leading" (eVar 0)) (eVar 5) (eLst dNil))) (sSeq (sE (eCall φ_need_doors [false, false, false, false] (aCons (eVar 4) (aCons (eVar 1) (aCons (eVar 2) (aCons (eFld "Machine" "leading" (eVar 0)) aNil)))))) (sSeq (sFld "Machine" "all_doors" (eVar 0) (eUn oList (eVar 4))) (sSeq (sFor (iIt (eVar 4)) (gName 6) (sE (eMut mAppend (eBin oIx (eFld "Machine" "leading" (eVar 0)) (eBin oIx (eVar 6) (eC (.int 0)))) (dCons (eVar 6) dNil)))) (sFor (iEnum (eVar 3)) (gTup [(gName 7), (gName 5)]) (sIf (tV (eMeth "Machine" "comes_round" φ_Machine_comes_round [true] (eVar 0) (aCons (eVar 5) aNil))) (sRaise "NoMachine" ["part", "number"] (dCons (eC (.str [115, 116, 105, 108, 108])) (dCons (eVar 7) dNil))) sNx))))))))))))
/-- Machine.comes_round(self, room) -/
def b_Machine_comes_round : WS :=
  (sSeq (sSet 2 (eDic false)) (sSeq (sSet 3 (eLst (dCons (eVar 1) dNil))) (sSeq (sWhile (tV (eBin oNe (eVar 3) (eLst dNil))) (sSeq (sSet 4 (eMut mPop (eVar 3) dNil)) (sFor (iIt (eNs (eBin oIx (eFld "Machine" "leading" (eVar 0)) (eVar 4)))) (gName 5) (sSeq (sIf (tAnd (tV (eBin oEq (eBin oIx (eVar 5) (eC (.int 1))) (eTup (dCons (eC (.str [115, 116, 105, 108, 108])) dNil)))) (tV (eBin oEq (eBin oIx (eVar 5) (eC (.int 2))) (eVar 1)))) (sRet (eC (.bl true))) sNx) (sIf (tAnd (tV (eBin oEq (eBin oIx (eVar 5) (eC (.int 1))) (eTup (dCons (eC (.str [115, 116, 105, 108, 108])) dNil)))) (tV (eBin oNin (eBin oIx (eVar 5) (eC (.int 2))) (eVar 2)))) (sSeq (sSetIx putIx (eVar 2) (eBin oIx (eVar 5) (eC (.int 2))) (eC (.bl true))) (sE (eMut mAppend (eVar 3) (dCons (eBin oIx (eVar 5) (eC (.int 2))) dNil)))) sNx))))) (sRet (eC (.bl false))))))
/-- Machine.asks(self) -/
def b_Machine_asks : WS :=
  (sRet (eUn oList (eFld "Machine" "ask_words" (eVar 0))))
/-- Machine.says(self) -/
def b_Machine_says : WS :=
  (sRet (eUn oList (eFld "Machine" "say_words" (eVar 0))))
/-- _law_spread(cell, at) -/
def b__law_spread : WS :=
  (sSeq (sIf (tV (eBin oGe (eVar 0) (eBin oPow (eC (.int 10)) (eC (.int 18))))) (sRet (eVar 0)) sNx) (sSeq (sSet 2 (eBin oMod (eBin oAdd (eBin oAdd (eBin oMul (eBin oMod (eVar 0) (eC (.int 1000000007))) (eC (.int 69069))) (eBin oMul (eVar 1) (eC (.int 40503)))) (eC (.int 977))) (eC (.int 2147483629)))) (sSeq (sSet 3 (eBin oMod (eBin oAdd (eBin oAdd (eBin oMul (eVar 2) (eVar 2)) (eBin oMul (eVar 1) (eC (.int 7919)))) (eBin oMod (eVar 0) (eC (.int 65537)))) (eC (.int 2147483587)))) (sSeq (sSet 4 (eBin oMod (eBin oAdd (eBin oAdd (eBin oMul (eVar 3) (eVar 3)) (eBin oMul (eVar 2) (eC (.int 31)))) (eC (.int 5))) (eC (.int 2147483563)))) (sRet (eBin oAdd (eBin oMul (eBin oAdd (eBin oMul (eVar 2) (eC (.int 2147483659))) (eVar 3)) (eC (.int 2147483693))) (eVar 4)))))))
/-- _law_open(script) -/
def b__law_open : WS :=
  (sSeq (sSet 1 (eUn oList (eCut (eVar 0) none (some (eC (.int 12)))))) (sSeq (sFor (iEnum (eNs (eCut (eVar 0) (some (eC (.int 12))) (some (eC (.int 63)))))) (gTup [(gName 2), (gName 3)]) (sSetIx putIx (eVar 1) (eBin oMod (eVar 2) (eC (.int 12))) (eBin oAdd (eBin oIx (eVar 1) (eBin oMod (eVar 2) (eC (.int 12)))) (eVar 3)))) (sRet (eLst (dCons (eVar 1) (dCons (eC (.int 0)) (dCons (eC (.int 0)) dNil)))))))
/-- _law_take(pen, many) -/
def b__law_take (φ__law_spread : SpD) : WS :=
  (sSeq (sIf (tV (eBin oLt (eBin oIx (eVar 0) (eC (.int 2))) (eVar 1))) (sSeq (sSet 2 (eBin oIx (eVar 0) (eC (.int 1)))) (sSeq (sSet 3 (eC (.int 0))) (sSeq (sIf (tV (eBin oLt (eVar 2) (eUn oLen (eBin oIx (eVar 0) (eC (.int 0)))))) (sSet 3 (eBin oIx (eBin oIx (eVar 0) (eC (.int 0))) (eVar 2))) (sIf (tV (eBin oGt (eUn oLen (eBin oIx (eVar 0) (eC (.int 0)))) (eC (.int 0)))) (sSet 3 (eBin oMod (eBin oIx (eBin oIx (eVar 0) (eC (.int 0))) (eBin oMod (eBin oAdd (eBin oMul (eVar 2) (eC (.int 5))) (eC (.int 3))) (eUn oLen (eBin oIx (eVar 0) (eC (.int 0)))))) (eBin oAdd (eBin oPow (eC (.int 10)) (eC (.int 17))) (eVar 2)))) sNx)) (sSeq (sSetIx putIx (eVar 0) (eC (.int 1)) (eBin oAdd (eVar 2) (eC (.int 1)))) (sSetIx putIx (eVar 0) (eC (.int 2)) (eCall φ__law_spread [true, false] (aCons (eVar 3) (aCons (eVar 2) aNil)))))))) sNx) (sSeq (sSet 4 (eBin oMod (eBin oIx (eVar 0) (eC (.int 2))) (eVar 1))) (sSeq (sSetIx putIx (eVar 0) (eC (.int 2)) (eBin oDiv (eBin oIx (eVar 0) (eC (.int 2))) (eVar 1))) (sRet (eVar 4)))))
/-- _law_names(pen, many) -/
def b__law_names (φ__law_take : SpD) : WS :=
  (sSeq (sSet 2 (eC (.str [97, 98, 99, 100, 101, 102, 103, 104, 105, 106, 107, 108, 109, 110, 111, 112, 113, 114, 115, 116, 117, 118, 119, 120, 121, 122]))) (sSeq (sSet 3 (eUn (oJoin []) (eComp [8] (iRange (eC (.int 7))) (gName 8) tYes (eBin oIx (eVar 2) (eCall φ__law_take [true, false] (aCons (eVar 0) (aCons (eC (.int 26)) aNil))))))) (sSeq (sSet 4 (eCall φ__law_take [true, false] (aCons (eVar 0) (aCons (eC (.int 3)) aNil)))) (sSeq (sSet 5 (eCall φ__law_take [true, false] (aCons (eVar 0) (aCons (eC (.int 26)) aNil)))) (sSeq (sSet 6 (eCall φ__law_take [true, false] (aCons (eVar 0) (aCons (eC (.int 8)) aNil)))) (sSeq (sSet 7 (eLst dNil)) (sSeq (sFor (iRange (eVar 1)) (gName 8) (sSeq (sSet 9 (eBin oIx (eVar 2) (eBin oMod (eBin oAdd (eVar 5) (eBin oMul (eC (.int 3)) (eVar 8))) (eC (.int 26))))) (sSeq (sSet 10 (eCut (eVar 3) none (some (eBin oMod (eBin oAdd (eVar 6) (eBin oMul (eVar 8) (eBin oMod (eVar 4) (eC (.int 2))))) (eC (.int 8)))))) (sSeq (sSet 11 (eBin oIx (eLst (dCons (eC (.int 0)) (dCons (eUn oLen (eVar 10)) (dCons (eBin oDiv (eUn oLen (eVar 10)) (eC (.int 2))) dNil)))) (eVar 4))) (sE (eMut mAppend (eVar 7) (dCons (eBin oAdd (eBin oAdd (eCut (eVar 10) none (some (eVar 11))) (eVar 9)) (eCut (eVar 10) (some (eVar 11)) none)) dNil))))))) (sRet (eVar 7)))))))))
end Pd
set_option linter.all false
set_option maxRecDepth 10000
namespace Pd
def d_spread : Sg (Int × Int) := ⟨fun (c, a) ss g => ss = [.d (.int c), .d (.int a)], fun _ g r g' => g' = g ∧ ∃ n : Int, r = .d (.int n), fun _ _ _ _ => False⟩
theorem k_spread : Keeps d_spread.wp b__law_spread 5 := by
  rintro ss g E Q ⟨⟨c, a⟩, rfl, hq, _⟩
  have fin : ∀ n : Int, ∃ g2, G.le g2 g ∧ Q (.d (.int n)) g2 := fun n => ret_now (hq _ _ ⟨rfl, n, rfl⟩)
  simp [b__law_spread, begin_, s_sSeq]
  split <;> exact fin _
def d_open : Sg (List Int) := ⟨fun ns ss g => ss = [.d (.rol (ns.map D.int))], fun _ g r g' => ∃ (c : Nat) (cs : List Int), r = .own (.lst [.ref c, .int 0, .int 0]) ∧ g' c = some (.lst (cs.map D.int)), fun _ _ _ _ => False⟩
theorem k_open : Keeps d_open.wp b__law_open 4 := by
  rintro ss g E Q ⟨ns, rfl, hq, _⟩
  simp [b__law_open, begin_, s_sSeq, ← List.map_take, ← List.map_drop]
  refine for_ind (fun rest ψ g' => ∃ (k : Nat) (ms cs : List Int) (s2 s3 : Option Sl), rest = numbered k (ms.map D.int) ∧ (ms ≠ [] → cs.length = 12) ∧ ψ = [some (.d (.rol (ns.map D.int))), some (.own (.lst (cs.map D.int))), s2, s3] ∧ g' = g) ?_ ?_ _ _ _ ⟨0, (ns.take 63).drop 12, ns.take 12, none, none, rfl, fun h => ?_, rfl, rfl⟩
  · rintro x xs ψ g1 K ⟨k, ms, cs, s2, s3, h1, h2, rfl, rfl⟩ hK
    cases ms with
    | nil => cases h1
    | cons m ms =>
      simp at h1
      obtain ⟨rfl, rfl⟩ := h1
      have hl := h2 (by simp)
      have hm : (k : Int) % 12 < cs.length := by rw [hl]; omega
      have hz : 0 ≤ (k : Int) % 12 := by omega
      obtain ⟨hm2, e1⟩ := atI_in hz hm
      simp [e1, idxOf_lt hz hm, ← List.map_set]
      refine now (hK _ _ ⟨k + 1, ms, cs.set ((k : Int) % 12).toNat (cs[((k : Int) % 12).toNat] + m), _, _, rfl, fun _ => by simp [hl], rfl, rfl⟩)
  · rintro ψ g1 ⟨k, ms, cs, s2, s3, h1, h2, rfl, rfl⟩
    simp
    intro p hp
    exact ret_now (hq _ _ ⟨p, cs, rfl, by simp⟩)
  · have := List.length_pos_iff.mpr h
    simp at this ⊢
    omega
/-- the pen lies at a -/
def Pen (g : G) (a : Nat) : Prop := ∃ (c : Nat) (at_ v : Int) (cs : List Int), a ≠ c ∧ g a = some (.lst [.ref c, .int at_, .int v]) ∧ 0 ≤ at_ ∧ g c = some (.lst (cs.map D.int))
def PenC (g : G) (a c : Nat) : Prop := ∃ (at_ v : Int) (cs : List Int), a ≠ c ∧ g a = some (.lst [.ref c, .int at_, .int v]) ∧ 0 ≤ at_ ∧ g c = some (.lst (cs.map D.int))
def d_take : Sg (Nat × Int) := ⟨fun (a, m) ss g => ss = [.d (.ref a), .d (.int m)] ∧ 0 < m ∧ m < 1073741824 ∧ Pen g a, fun (a, m) g r g' => ∃ n, r = .d (.int n) ∧ 0 ≤ n ∧ n < m ∧ Pen g' a ∧ (∀ b, b ≠ a → g' b = g b) ∧ ∀ c, PenC g a c → PenC g' a c, fun _ _ _ _ => False⟩
theorem k_take : Keeps d_take.wp (b__law_take d_spread.wp) 5 := by
  rintro ss g E Q ⟨⟨a, m⟩, ⟨rfl, m0, m1, c, p, v, cs, ne, ga, p0, gc⟩, hq, _⟩
  refine seq_of (fun ψ g1 => ∃ (p v : Int) (s2 s3 : Option Sl), ψ = [some (.d (.ref a)), some (.d (.int m)), s2, s3, none] ∧ 0 ≤ p ∧ g1 a = some (.lst [.ref c, .int p, .int v]) ∧ ∀ b, b ≠ a → g1 b = g b) (fun nx hn => ?_) ?_
  · have store : ∀ x : Int, sSeq (sSetIx putIx (eVar 0) (eC (.int 1)) (eBin oAdd (eVar 2) (eC (.int 1)))) (sSetIx putIx (eVar 0) (eC (.int 2)) (eCall d_spread.wp [true, false] (aCons (eVar 3) (aCons (eVar 2) aNil))))
      ⟨nx, (endsOf E Q).rt, (endsOf E Q).bk, (endsOf E Q).ct, (endsOf E Q).ex⟩ [some (.d (.ref a)), some (.d (.int m)), some (.d (.int p)), some (.d (.int x)), none] g := fun x => by
      simp [ga, s_sSeq]
      refine call_of (x, p) rfl ?_
      rintro r g' ⟨rfl, n, rfl⟩
      simp
      exact hn _ _ ⟨p + 1, n, _, _, rfl, by omega, by simp, fun b hb => by simp [G.upd_ne hb]⟩
    rw [s_sIf]
    simp [begin_, ga]
    split
    · rw [s_sSeq]; simp [ga]
      rw [s_sSeq]; simp [ga]
      refine seq_of (fun ψ g1 => ∃ x : Int, ψ = [some (.d (.ref a)), some (.d (.int m)), some (.d (.int p)), some (.d (.int x)), none] ∧ g1 = g) (fun nx2 hn2 => ?_) ?_
      · simp [ga, gc]
        split
        · rename_i hp
          obtain ⟨_, e1⟩ := atI_in p0 hp
          simp [e1]
          exact hn2 _ _ ⟨_, rfl, rfl⟩
        · split
          · rename_i hp
            have hz := Int.emod_nonneg (p * 5 + 3) (show (cs.length : Int) ≠ 0 by omega)
            obtain ⟨_, e1⟩ := atI_in (xs := cs) hz (Int.emod_lt_of_pos _ (by omega))
            have h8 : 0 < 100000000000000000 + p := by omega
            simp [e1, hp, h8]
            exact hn2 _ _ ⟨_, rfl, rfl⟩
          · exact hn2 _ _ ⟨_, rfl, rfl⟩
      · rintro ψ g1 ⟨x, rfl, rfl⟩
        exact store x
    · exact hn _ _ ⟨p, v, _, _, rfl, p0, ga, fun _ _ => rfl⟩
  · rintro ψ g1 ⟨p, v, s2, s3, rfl, h0, h1, h2⟩
    simp [h1, m0, m1, s_sSeq]
    refine ret_now (hq _ _ ⟨v % m, rfl, Int.emod_nonneg _ (by omega), Int.emod_lt_of_pos _ m0, ⟨c, p, v / m, cs, ne, by simp, h0, by rw [G.upd_ne (Ne.symm ne), h2 c (Ne.symm ne), gc]⟩, fun b hb => by rw [G.upd_ne hb, h2 b hb], fun c' ⟨at', v', cs', n', e', _, _⟩ => ?_⟩)
    rw [ga] at e'
    cases e'
    exact ⟨p, v / m, cs, ne, by simp, h0, by rw [G.upd_ne (Ne.symm ne), h2 c (Ne.symm ne), gc]⟩
end Pd
set_option linter.all false
set_option maxRecDepth 10000
namespace Pd
def letters : List Nat := [97, 98, 99, 100, 101, 102, 103, 104, 105, 106, 107, 108, 109, 110, 111, 112, 113, 114, 115, 116, 117, 118, 119, 120, 121, 122]
def isName (w : List Nat) : Bool := decide (1 ≤ w.length) && decide (w.length ≤ 8) && w.all fun c => decide (c ∈ letters)
theorem isName_short {w : List Nat} (h : w.length < 1) : isName w = false := by simp [isName]; intros; omega
theorem isName_long {w : List Nat} (h : 8 < w.length) : isName w = false := by simp [isName]; intros; omega
theorem isName_mid {w : List Nat} (h : 1 ≤ w.length) (h' : w.length ≤ 8) : isName w = w.all fun c => decide (c ∈ letters) := by simp [isName, h, h']
theorem most_is : most = 16777216 := rfl
def d_is_name : Sg (List Nat) := ⟨fun w ss g => ss = [.d (.str w)] ∧ w.length ≤ most, fun w g r g' => g' = g ∧ r = .d (.bl (isName w)), fun _ _ _ _ => False⟩
theorem k_is_name : Keeps d_is_name.wp b_is_name 2 := by
  rintro ss g E Q ⟨w, ⟨rfl, hl⟩, hq, _⟩
  have h8 := most_is
  simp [b_is_name, begin_, hl]
  refine seq_of (fun ψ g1 => 1 ≤ w.length ∧ w.length ≤ 8 ∧ ψ = [some (.d (.str w)), none] ∧ g1 = g) (fun nx hn => ?_) ?_
  · simp [hl]
    split
    · rename_i h
      exact ret_now (hq _ _ ⟨rfl, by rw [isName_short (by omega)]⟩)
    · split
      · rename_i h
        exact ret_now (hq _ _ ⟨rfl, by rw [isName_long (by omega)]⟩)
      · rename_i h1 h2
        exact hn _ _ ⟨by omega, by omega, rfl, rfl⟩
  · rintro ψ g1 ⟨h1, h2, rfl, rfl⟩
    simp [lendAll, lend, wipe]
    refine comp_ind (fun rest acc g2 => ∃ (done cs : List Nat) (bs : List Bool), w = done ++ cs ∧ rest = cs.map (fun c => D.str [c]) ∧ bs = (done.map fun c => decide (c ∈ letters)) ∧ acc = bs.map D.bl ∧ g2 = g1) ?_ ?_ _ _ _ ⟨[], w, [], rfl, rfl, rfl, rfl, rfl⟩
    · rintro x xs acc g2 K ⟨done, cs, bs, rfl, h, rfl, rfl, rfl⟩ hK
      cases cs with
      | nil => cases h
      | cons c cs =>
        simp at h
        obtain ⟨rfl, rfl⟩ := h
        have hb : done.length < most := by rw [h8]; simp at h2; omega
        simp [hb]
        exact hK _ _ ⟨done ++ [c], cs, _, by simp, rfl, rfl, by simp [letters], rfl⟩
    · rintro acc g2 ⟨done, cs, bs, rfl, h, hbs, rfl, rfl⟩
      have : cs = [] := by simpa using h.symm
      subst this
      simp
      refine ret_now (hq _ _ ⟨rfl, ?_⟩)
      simp only [List.append_nil] at h1 h2 ⊢
      rw [isName_mid h1 h2, hbs]
      simp [Function.comp_def, List.all_map]
end Pd
set_option linter.all false
set_option maxRecDepth 1000000
namespace Pd
/-! drawn names -/
def letAt (i : Int) : Nat := letters.getD (i % 26).toNat 0
def partK (base : List Nat) (way size : Int) (k : Nat) : List Nat := base.take ((size + k * (way % 2)) % 8).toNat
def atK (base : List Nat) (way size : Int) (k : Nat) : Nat := if way = 0 then 0 else if way = 1 then (partK base way size k).length else (partK base way size k).length / 2
def nameK (base : List Nat) (way turn size : Int) (k : Nat) : List Nat := (partK base way size k).take (atK base way size k) ++ [letAt (turn + 3 * k)] ++ (partK base way size k).drop (atK base way size k)
theorem letAt_mem (i : Int) : letAt i ∈ letters := by
  unfold letAt
  have h : (i % 26).toNat < letters.length := by show _ < 26; omega
  rw [List.getD_eq_getElem?_getD, List.getElem?_eq_getElem h]
  exact List.getElem_mem h
theorem letters_inj : ∀ i, i < 26 → ∀ j, j < 26 → letters.getD i 0 = letters.getD j 0 → i = j := by decide
theorem letAt_inj {i j : Int} (h : letAt i = letAt j) : i % 26 = j % 26 := by
  have := letters_inj (i % 26).toNat (by omega) (j % 26).toNat (by omega) h
  omega
theorem partK_len (base : List Nat) (way size : Int) (k : Nat) : (partK base way size k).length ≤ 7 := by
  unfold partK; rw [List.length_take]; omega
theorem atK_le (base : List Nat) (way size : Int) (k : Nat) : atK base way size k ≤ (partK base way size k).length := by
  unfold atK; split
  · omega
  · split <;> omega
theorem nameK_name {base : List Nat} (hb : ∀ c ∈ base, c ∈ letters) (way turn size : Int) (k : Nat) : isName (nameK base way turn size k) = true := by
  have hl := partK_len base way size k
  have ha := atK_le base way size k
  have hlen : (nameK base way turn size k).length = (partK base way size k).length + 1 := by
    unfold nameK; simp; omega
  rw [isName_mid (by omega) (by omega), List.all_eq_true]
  intro c hc
  refine decide_eq_true ?_
  unfold nameK at hc
  have hp : ∀ c ∈ partK base way size k, c ∈ letters := fun c h => hb c (List.mem_of_mem_take h)
  simp only [List.mem_append, List.mem_singleton] at hc
  rcases hc with (h | rfl) | h
  · exact hp c (List.mem_of_mem_take h)
  · exact letAt_mem _
  · exact hp c (List.mem_of_mem_drop h)
theorem mid_get {p : List Nat} {a x : Nat} (h : a ≤ p.length) : (p.take a ++ [x] ++ p.drop a)[a]? = some x := by
  rw [List.append_assoc, List.getElem?_append_right (by rw [List.length_take]; omega)]
  rw [List.length_take, Nat.min_eq_left h, Nat.sub_self]; rfl
theorem nameK_inj {base : List Nat} {way turn size : Int} (hw : way = 0 ∨ way = 1 ∨ way = 2) {j k : Nat} (hj : j < 26) (hk : k < 26) (h : nameK base way turn size j = nameK base way turn size k) : j = k := by
  have key : letAt (turn + 3 * j) = letAt (turn + 3 * k) → j = k := fun e => by
    have := letAt_inj e
    omega
  have hat : atK base way size j = atK base way size k := by
    have hlen : (nameK base way turn size j).length = (nameK base way turn size k).length := by rw [h]
    have e : ∀ i, (nameK base way turn size i).length = (partK base way size i).length + 1 := fun i => by
      have ha := atK_le base way size i
      unfold nameK; simp; omega
    rw [e, e] at hlen
    unfold atK
    rcases hw with rfl | rfl | rfl
    · simp
    · simp; omega
    · simp; omega
  have e1 := mid_get (x := letAt (turn + 3 * j)) (atK_le base way size j)
  have e2 := mid_get (x := letAt (turn + 3 * k)) (atK_le base way size k)
  have h' : ((partK base way size j).take (atK base way size j) ++ [letAt (turn + 3 * j)] ++ (partK base way size j).drop (atK base way size j)) = ((partK base way size k).take (atK base way size k) ++ [letAt (turn + 3 * k)] ++ (partK base way size k).drop (atK base way size k)) := h
  rw [h', hat, e2] at e1
  exact key (Option.some.inj e1).symm
def d_names : Sg (Nat × Nat) := ⟨fun (a, m) ss g => ss = [.d (.ref a), .d (.int m)] ∧ m ≤ 26 ∧ Pen g a,
  fun (a, m) g r g' => (∃ ws, r = .own (.lst (T ws)) ∧ ws.length = m ∧ (∀ w ∈ ws, isName w = true) ∧ ws.Nodup) ∧ Pen g' a ∧ ∀ b, b ≠ a → g' b = g b, fun _ _ _ _ => False⟩
theorem take7 {g : G} {a : Nat} {n : Int} {E : X → G → Prop} {Q : R → G → Prop} (hp : Pen g a) (h0 : 0 < n) (h1 : n < 1073741824) (k : ∀ (x : Int) (g' : G), 0 ≤ x → x < n → Pen g' a → (∀ b, b ≠ a → g' b = g b) → Q (.d (.int x)) g') : d_take.wp [.d (.ref a), .d (.int n)] g E Q :=
  call_of (a, n) ⟨rfl, h0, h1, hp⟩ fun r g' ⟨x, e, a1, a2, a3, a4, _⟩ => e ▸ k x g' a1 a2 a3 a4
theorem k_names : Keeps d_names.wp (b__law_names d_take.wp) 12 := by
  rintro ss g E Q ⟨⟨a, m⟩, ⟨rfl, hm, hp⟩, hq, _⟩
  have h8 := most_is
  simp [b__law_names, begin_]
  rw [s_sSeq]; simp
  rw [s_sSeq]; simp [lendAll, lend, wipe]
  refine comp_ind (fun rest acc g2 => ∃ cs : List Nat, acc = cs.map (fun c => D.str [c]) ∧ cs.length + rest.length = 7 ∧ (∀ c ∈ cs, c ∈ letters) ∧ Pen g2 a ∧ ∀ b, b ≠ a → g2 b = g b) ?_ ?_ _ _ _ ⟨[], rfl, by simp, by simp, hp, fun _ _ => rfl⟩
  · rintro x xs acc g2 K ⟨cs, rfl, hl, hc, hp2, hb⟩ hK
    have hl' : cs.length + (xs.length + 1) = 7 := hl
    have : cs.length < most := by rw [h8]; omega
    simp [this]
    refine take7 hp2 (by omega) (by omega) fun n g' n0 n1 hp3 hb3 => ?_
    obtain ⟨hn, e1⟩ := atI_in (xs := letters) n0 n1
    have e1' : atI [97, 98, 99, 100, 101, 102, 103, 104, 105, 106, 107, 108, 109, 110, 111, 112, 113, 114, 115, 116, 117, 118, 119, 120, 121, 122] n = some letters[n.toNat] := e1
    simp [e1', h8, show cs.length < 16777216 by omega]
    exact hK _ _ ⟨cs ++ [letters[n.toNat]], by simp, by simp; omega, fun c hc' => (List.mem_append.mp hc').elim (hc c) fun z => by rw [List.mem_singleton.mp z]; exact List.getElem_mem _, hp3, fun b hb' => (hb3 b hb').trans (hb b hb')⟩
  · rintro acc g2 ⟨base, rfl, hl, hc, hp2, hb2⟩
    have hl : base.length = 7 := by simpa using hl
    have this : base.length ≤ most := by omega
    simp [this]
    rw [s_sSeq]; simp
    refine take7 hp2 (by omega) (by omega) fun way g3 w0 w1 hp3 hb3 => ?_
    simp
    rw [s_sSeq]; simp
    refine take7 hp3 (by omega) (by omega) fun turn g4 t0 t1 hp4 hb4 => ?_
    simp
    rw [s_sSeq]; simp
    refine take7 hp4 (by omega) (by omega) fun size g5 s0 s1 hp5 hb5 => ?_
    simp
    rw [s_sSeq]; simp
    rw [s_sSeq]; simp
    refine ⟨by omega, ?_⟩
    refine for_ind (fun rest ψ g6 => ∃ (i : Nat) (s8 s9 s10 s11 : Option Sl), i ≤ m ∧ rest = ((List.range m).drop i).map (fun i : Nat => D.int (i : Int)) ∧ g6 = g5 ∧
      ψ = [some (.d (.ref a)), some (.d (.int m)), some (.d (.str letters)), some (.d (.str base)), some (.d (.int way)), some (.d (.int turn)), some (.d (.int size)), some (.own (.lst (T ((List.range i).map (nameK base way turn size))))), s8, s9, s10, s11])
      ?_ ?_ _ _ _ ⟨0, _, _, _, _, Nat.zero_le _, rfl, rfl, rfl⟩
    · rintro x xs ψ g6 K ⟨i, s8, s9, s10, s11, hi, hr, rfl, rfl⟩ hK
      have him : i < m := by
        rcases Nat.lt_or_ge i m with h | h
        · exact h
        · rw [List.drop_of_length_le (by rw [List.length_range]; exact h)] at hr; cases hr
      rw [List.drop_eq_getElem_cons (by rw [List.length_range]; exact him), List.map_cons, List.getElem_range] at hr
      obtain ⟨rfl, rfl⟩ := List.cons.inj hr
      obtain ⟨h1, e1⟩ := atI_in (xs := letters) (i := (turn + 3 * (i : Int)) % 26) (by omega) (by show _ < (26 : Int); omega)
      have e2 : atI letters ((turn + 3 * (i : Int)) % 26) = some (letAt (turn + 3 * i)) := by
        rw [e1]
        unfold letAt
        rw [List.getD_eq_getElem?_getD, List.getElem?_eq_getElem h1]; rfl
      have hp7 := partK_len base way size i
      have z8 : 0 ≤ (size + i * (way % 2)) % 8 := by omega
      have b1 : -4611686018427387904 ≤ (size + i * (way % 2)) % 8 ∧ (size + i * (way % 2)) % 8 < 4611686018427387904 := by omega
      have hpt : cut base none (some ((size + i * (way % 2)) % 8)) = partK base way size i := cut_take _ z8
      have hpl : (partK base way size i).length ≤ most := by omega
      have hat : atI [D.int 0, D.int ((partK base way size i).length : Int), D.int (((partK base way size i).length : Int) / 2)] way = some (D.int ((atK base way size i : Nat) : Int)) := by
        have : way = 0 ∨ way = 1 ∨ way = 2 := by omega
        rcases this with rfl | rfl | rfl <;> simp [atK]
      have hak := atK_le base way size i
      have ha1 : ((atK base way size i : Nat) : Int) < 4611686018427387904 ∧ (-4611686018427387904 : Int) ≤ ((atK base way size i : Nat) : Int) := by omega
      have hl26 : letters.length ≤ most := by show 26 ≤ most; omega
      rw [s_gName]
      simp only [List.set_cons_succ, List.set_cons_zero]
      rw [s_sSeq]; simp [e2, hl26]
      rw [s_sSeq]; simp [this, b1, hpt]
      rw [s_sSeq]; simp [hpl, hat]
      simp [ha1, hpl]
      have c1 : min (atK base way size i) (partK base way size i).length + 1 ≤ most := by omega
      have c2 : min (atK base way size i) (partK base way size i).length + 1 + ((partK base way size i).length - atK base way size i) ≤ most := by omega
      have c3 : i < most := by omega
      have e9 : (List.range i).map (D.str ∘ nameK base way turn size) ++ [D.str ((partK base way size i).take (atK base way size i) ++ letAt (turn + 3 * i) :: (partK base way size i).drop (atK base way size i))] = T ((List.range (i + 1)).map (nameK base way turn size)) := by
        simp [T, List.range_succ, nameK]
      rw [e9]
      exact ⟨c1, c2, c3, now (hK _ _ ⟨i + 1, _, _, _, _, him, rfl, rfl, rfl⟩)⟩
    · rintro ψ g6 ⟨i, s8, s9, s10, s11, hi, hr, rfl, rfl⟩
      have him : i = m := by
        rcases Nat.lt_or_ge i m with h | h
        · rw [List.drop_eq_getElem_cons (by rw [List.length_range]; exact h)] at hr; cases hr
        · omega
      subst him
      simp
      refine ret_now (hq _ _ ⟨⟨(List.range i).map (nameK base way turn size), by simp [T], by simp, ?_, ?_⟩, hp5, fun b hb => by rw [hb5 b hb, hb4 b hb, hb3 b hb, hb2 b hb]⟩)
      · intro w hw
        obtain ⟨k, _, rfl⟩ := List.mem_map.mp hw
        exact nameK_name hc _ _ _ _
      · refine List.Pairwise.map _ (fun x y h => h) ?_
        refine (List.Pairwise.imp_of_mem ?_ List.nodup_range)
        intro x y hx hy hne he
        exact hne (nameK_inj (by omega) (by have := List.mem_range.mp hx; omega) (by have := List.mem_range.mp hy; omega) he)
end Pd
set_option linter.all false
set_option maxRecDepth 10000
namespace Pd
/-! drawn texts -/
end Pd
set_option linter.all false
set_option maxRecDepth 10000
namespace Pd
/-! the first wrong name -/
def fw (others : List (List Nat)) : List (List Nat) → Nat → List (List Nat) → Option Nat
  | _, _, [] => none
  | seen, n, w :: ws => if isName w = true ∧ w ∉ seen ∧ w ∉ others then fw others (seen ++ [w]) (n + 1) ws else some n
theorem fw_cons (others seen : List (List Nat)) (n : Nat) (w : List Nat) (ws : List (List Nat)) : fw others seen n (w :: ws) = if isName w = true ∧ w ∉ seen ∧ w ∉ others then fw others (seen ++ [w]) (n + 1) ws else some n := rfl
def firstWrong (m : Nat) (others ws : List (List Nat)) : Option Nat := if ws = [] then some 0 else match fw others [] 0 (ws.take m) with
  | some n => some n
  | none => if m < ws.length then some m else none
/-! the same, as the program looks -/
structure Nd where
  part : List Nat
  ws : List (List Nat)
  m : Nat
  ot : List (List Nat)
def noMach (part : List Nat) (n : Nat) : X := ⟨"NoMachine", [("part", .str part), ("number", .int (n : Int))]⟩
def d_need : Sg Nd := ⟨fun x ss g => (∃ s1 s2, ss = [.d (.str x.part), s1, .d (.int x.m), s2] ∧ lookS g s1 = some (.o (.lst (T x.ws))) ∧ lookS g s2 = some (.o (.lst (T x.ot)))) ∧ x.ws.length ≤ 4000 ∧ x.m ≤ 4000 ∧ ∀ w ∈ x.ws, w.length ≤ most,
  fun x g r g' => g' = g ∧ r = .d .non ∧ firstWrong x.m x.ot x.ws = none, fun x g z g' => g' = g ∧ ∃ n, firstWrong x.m x.ot x.ws = some n ∧ z = noMach x.part n⟩
theorem putK_new : ∀ (kvs : List (D × D)) (k v : D), k ∉ kvs.map (·.1) → putK kvs k v = kvs ++ [(k, v)]
  | [], _, _, _ => rfl
  | p :: r, k, v, h => by
    rw [List.map_cons, List.mem_cons, not_or] at h
    show (if p.1 = k then (k, v) :: r else p :: putK r k v) = _
    rw [if_neg fun e => h.1 e.symm, putK_new r k v h.2]; rfl
theorem k_need : Keeps d_need.wp (b_need_names d_is_name.wp) 7 := by
  rintro ss g E Q ⟨⟨part, ws, m, ot⟩, ⟨⟨s1, s2, rfl, h1, h2⟩, hl, hm, hw⟩, hq, he⟩
  have h8 := most_is
  simp only at h1 h2 hl hm hw
  simp [b_need_names, begin_]
  refine seq_of (fun ψ g2 => ws ≠ [] ∧ ψ = [some (.d (.str part)), some s1, some (.d (.int m)), some s2, none, none, none] ∧ g2 = g) (fun nx hn => ?_) ?_
  · simp [h1]
    split
    · rename_i h
      exact he _ _ ⟨rfl, 0, by simp [firstWrong, h], rfl⟩
    · rename_i h
      exact hn _ _ ⟨h, rfl, rfl⟩
  rintro ψ g2 ⟨hne, rfl, rfl⟩
  rw [s_sSeq]; simp
  rw [s_sSeq]; simp [h1]
  refine ⟨by omega, ?_⟩
  refine for_ind (fun rest ψ g3 => ∃ (seen cs : List (List Nat)) (kvs : List (D × D)) (s5 s6 : Option Sl), ws.take m = seen ++ cs ∧ rest = numbered seen.length (T cs) ∧ kvs.map (·.1) = T seen ∧
    ψ = [some (.d (.str part)), some s1, some (.d (.int m)), some s2, some (.own (.dic false kvs)), s5, s6] ∧ g3 = g2 ∧ fw ot [] 0 (ws.take m) = fw ot seen seen.length cs) ?_ ?_ _ _ _ ⟨[], ws.take m, [], _, _, by simp, by simp [T, List.map_take], rfl, rfl, rfl, rfl⟩
  · rintro x xs ψ g3 K ⟨seen, cs, kvs, s5, s6, e1, e2, ek, rfl, rfl, e3⟩ hK
    cases cs with
    | nil => cases e2
    | cons w cs =>
      simp at e2
      obtain ⟨rfl, rfl⟩ := e2
      have hlw : w.length ≤ most := hw w (List.mem_of_mem_take (by rw [e1]; simp))
      have hseen : seen.length < 4000 := by
        have : (ws.take m).length ≤ m := by rw [List.length_take]; omega
        rw [e1] at this; simp at this; omega
      have hkl : kvs.length = seen.length := by
        have := congrArg List.length ek; simpa [T] using this
      simp
      rw [s_sSeq]; simp
      refine call_of w ⟨rfl, hlw⟩ ?_
      rintro r g' ⟨rfl, rfl⟩
      have stop : ¬ (isName w = true ∧ w ∉ seen ∧ w ∉ ot) → firstWrong m ot ws = some seen.length := fun hc => by
        have : fw ot seen seen.length (w :: cs) = some seen.length := by rw [fw_cons, if_neg hc]
        rw [this] at e3
        unfold firstWrong; rw [if_neg hne, e3]
      have hko : keyOk false (.str w) = true := rfl
      simp [hko, ek]
      split
      · rename_i hn1
        split
        · rename_i hs
          exact he _ _ ⟨rfl, _, stop fun z => z.2.1 hs, rfl⟩
        · rename_i hs
          simp [h2]
          split
          · rename_i ho
            exact he _ _ ⟨rfl, _, stop fun z => z.2.2 ho, rfl⟩
          · rename_i ho
            have hnk : D.str w ∉ kvs.map (·.1) := by rw [ek]; simpa [T] using hs
            simp [hko, putK_new _ _ _ hnk]
            refine ⟨by omega, now (hK _ _ ⟨seen ++ [w], cs, kvs ++ [(.str w, .bl true)], _, _, by simp [e1], by simp, by simp [ek, T], rfl, rfl, ?_⟩)⟩
            rw [e3, fw_cons, if_pos ⟨hn1, hs, ho⟩]; simp
      · rename_i hn1
        exact he _ _ ⟨rfl, _, stop fun z => hn1 z.1, rfl⟩
  · rintro ψ g3 ⟨seen, cs, kvs, s5, s6, e1, e2, ek, rfl, rfl, e3⟩
    have : cs = [] := by
      cases cs with
      | nil => rfl
      | cons w cs => cases e2
    subst this
    have e4 : fw ot [] 0 (ws.take m) = none := e3
    simp [h1]
    split
    · rename_i h
      exact he _ _ ⟨rfl, m, by unfold firstWrong; rw [if_neg hne, e4]; simp [h], rfl⟩
    · rename_i h
      exact ret_now (hq _ _ ⟨rfl, rfl, by unfold firstWrong; rw [if_neg hne, e4]; simp [h]⟩)
end Pd
set_option linter.all false
set_option maxRecDepth 10000
namespace Pd
/-! machines without doors -/
theorem fw_none {others : List (List Nat)} : ∀ {ws seen : List (List Nat)} {n : Nat}, fw others seen n ws = none → ws.Nodup ∧ (∀ w ∈ ws, w ∉ seen) ∧ (∀ w ∈ ws, isName w = true ∧ w ∉ others)
  | [], _, _, _ => ⟨List.nodup_nil, fun _ h => (nomatch h), fun _ h => (nomatch h)⟩
  | w :: ws, seen, n, h => by
    rw [fw_cons] at h
    split at h
    · rename_i hc
      obtain ⟨h1, h2, h3⟩ := fw_none h
      refine ⟨List.nodup_cons.mpr ⟨fun hm => h2 w hm (by simp), h1⟩, fun v hv => ?_, fun v hv => ?_⟩
      · rcases List.mem_cons.mp hv with rfl | hv
        · exact hc.2.1
        · exact fun z => h2 v hv (List.mem_append_left _ z)
      · rcases List.mem_cons.mp hv with rfl | hv
        · exact ⟨hc.1, hc.2.2⟩
        · exact h3 v hv
    · cases h
theorem firstWrong_none {m : Nat} {others ws : List (List Nat)} (h : firstWrong m others ws = none) : ws ≠ [] ∧ ws.length ≤ m ∧ ws.Nodup ∧ ∀ w ∈ ws, isName w = true ∧ w ∉ others := by
  unfold firstWrong at h
  split at h
  · cases h
  · rename_i hne
    split at h
    · cases h
    · rename_i e
      split at h
      · cases h
      · rename_i hl
        rw [List.take_of_length_le (by omega)] at e
        obtain ⟨h1, _, h3⟩ := fw_none e
        exact ⟨hne, by omega, h1, h3⟩
/-- which part of it is refused first -/
def badPart (asks says rooms : List (List Nat)) : Option (List Nat × Nat) :=
  match firstWrong 4 [] asks with
  | some n => some ([97, 115, 107, 115], n)
  | none => match firstWrong 4 asks says with
    | some n => some ([115, 97, 121, 115], n)
    | none => match firstWrong 150 [] rooms with
      | some n => some ([114, 111, 111, 109, 115], n)
      | none => none
theorem look_lst {g : G} {s : Sl} {xs : List D} {p q : Nat} {c : String} {fs fs' : List (String × D)} {o : O} (h : lookS g s = some (.o (.lst xs))) (hp : g p = some (.ins c fs)) (hq : g q = none) : lookS ((g.upd q o).upd p (.ins c fs')) s = some (.o (.lst xs)) := by
  have hne : p ≠ q := fun z => by rw [z, hq] at hp; cases hp
  refine lookS_upd (lookS_new h hq) fun o' e z => ?_
  rw [G.upd_ne hne, hp] at e
  cases e; cases z
theorem keep_new {g g1 : G} {p q : Nat} {o o' : O} (h : ∀ a u, g a = some u → a ≠ p → g1 a = some u) (hq : g1 q = none) : ∀ a u, g a = some u → a ≠ p → ((g1.upd q o).upd p o') a = some u := fun a u e ne => by
  have h1 := h a u e ne
  have hne : a ≠ q := fun z => by rw [z, hq] at h1; cases h1
  rw [G.upd_ne ne, G.upd_ne hne]; exact h1
end Pd
set_option linter.all false
set_option maxRecDepth 10000
namespace Pd
/-! the law's own comparison: both sides denote the same data -/
def denL (f : D → Option D) : List D → Option (List D)
  | [] => some []
  | x :: xs => match f x, denL f xs with
    | some y, some ys => some (y :: ys)
    | _, _ => none
def denC (f : D → Option D) : C → Option D
  | .o (.lst xs) => if xs.length < 4000 then (denL f xs).map .rol else none
  | .d (.tup xs) => if xs.length < 4000 then (denL f xs).map .tup else none
  | .d (.rol xs) => if xs.length < 4000 then (denL f xs).map .rol else none
  | .d .non => some .non
  | .d (.bl b) => some (.bl b)
  | .d (.int i) => some (.int i)
  | .d (.str s) => some (.str s)
  | _ => none
def den : Nat → G → D → Option D
  | 0, _, _ => none
  | n + 1, g, x => (lookD g x).bind (denC (den n g))
theorem denL_cons {f : D → Option D} {x : D} {xs zs : List D} (h : denL f (x :: xs) = some zs) : ∃ y ys, f x = some y ∧ denL f xs = some ys ∧ zs = y :: ys := by
  have h' : (match f x, denL f xs with | some y, some ys => some (y :: ys) | _, _ => none) = some zs := h
  split at h'
  · rename_i y ys e1 e2; cases h'; exact ⟨y, ys, e1, e2, rfl⟩
  · cases h'
theorem denL_len {f : D → Option D} : ∀ {xs zs : List D}, denL f xs = some zs → xs.length = zs.length
  | [], _, h => by cases h; rfl
  | x :: xs, _, h => by
    obtain ⟨y, ys, _, h2, rfl⟩ := denL_cons h
    simp [denL_len h2]
def d_same (n : Nat) : Sg Unit := ⟨fun _ ss g => ∃ s1 s2 c1 c2 v, ss = [s1, s2] ∧ lookS g s1 = some c1 ∧ lookS g s2 = some c2 ∧ denC (den n g) c1 = some v ∧ denC (den n g) c2 = some v, fun _ g r g' => g' = g ∧ r = .d (.bl true), fun _ _ _ _ => False⟩
inductive Alike (f : D → Option D) : C → C → Prop
  | non : Alike f (.d .non) (.d .non)
  | bl (b : Bool) : Alike f (.d (.bl b)) (.d (.bl b))
  | int (i : Int) : Alike f (.d (.int i)) (.d (.int i))
  | str (s : List Nat) : Alike f (.d (.str s)) (.d (.str s))
  | tt (xs ys zs : List D) : xs.length < 4000 → denL f xs = some zs → denL f ys = some zs → Alike f (.d (.tup xs)) (.d (.tup ys))
  | ll (xs ys zs : List D) : xs.length < 4000 → denL f xs = some zs → denL f ys = some zs → Alike f (.o (.lst xs)) (.o (.lst ys))
  | lr (xs ys zs : List D) : xs.length < 4000 → denL f xs = some zs → denL f ys = some zs → Alike f (.o (.lst xs)) (.d (.rol ys))
  | rl (xs ys zs : List D) : xs.length < 4000 → denL f xs = some zs → denL f ys = some zs → Alike f (.d (.rol xs)) (.o (.lst ys))
  | rr (xs ys zs : List D) : xs.length < 4000 → denL f xs = some zs → denL f ys = some zs → Alike f (.d (.rol xs)) (.d (.rol ys))
inductive Dn (f : D → Option D) : C → D → Prop
  | non : Dn f (.d .non) .non
  | bl (b : Bool) : Dn f (.d (.bl b)) (.bl b)
  | int (i : Int) : Dn f (.d (.int i)) (.int i)
  | str (s : List Nat) : Dn f (.d (.str s)) (.str s)
  | t (xs zs : List D) : xs.length < 4000 → denL f xs = some zs → Dn f (.d (.tup xs)) (.tup zs)
  | l (xs zs : List D) : xs.length < 4000 → denL f xs = some zs → Dn f (.o (.lst xs)) (.rol zs)
  | r (xs zs : List D) : xs.length < 4000 → denL f xs = some zs → Dn f (.d (.rol xs)) (.rol zs)
theorem dn_of {f : D → Option D} {c : C} {v : D} (h : denC f c = some v) : Dn f c v := by
  have sq : ∀ {xs : List D} {F : List D → D} {v : D}, (if xs.length < 4000 then (denL f xs).map F else none) = some v → xs.length < 4000 ∧ ∃ zs, denL f xs = some zs ∧ v = F zs := fun {xs F v} h => by
    split at h
    · rename_i hl
      obtain ⟨zs, e1, e2⟩ := Option.map_eq_some_iff.mp h
      exact ⟨hl, zs, e1, e2.symm⟩
    · cases h
  cases c with
  | o o =>
    cases o with
    | lst xs => obtain ⟨l1, zs, e1, rfl⟩ := sq (F := .rol) h; exact .l _ _ l1 e1
    | dic _ _ => cases h
    | ins _ _ => cases h
    | fzd _ _ => cases h
    | hid _ => cases h
  | d x =>
    cases x with
    | tup xs => obtain ⟨l1, zs, e1, rfl⟩ := sq (F := .tup) h; exact .t _ _ l1 e1
    | rol xs => obtain ⟨l1, zs, e1, rfl⟩ := sq (F := .rol) h; exact .r _ _ l1 e1
    | non => cases h; exact .non
    | bl b => cases h; exact .bl b
    | int b => cases h; exact .int b
    | str b => cases h; exact .str b
    | ref a => cases h
theorem alike {f : D → Option D} {c1 c2 : C} {v : D} (h1 : denC f c1 = some v) (h2 : denC f c2 = some v) : Alike f c1 c2 := by
  have a := dn_of h1
  have b := dn_of h2
  cases a <;> cases b
  · exact .non
  · exact .bl _
  · exact .int _
  · exact .str _
  · exact .tt _ _ _ (by assumption) (by assumption) (by assumption)
  · exact .ll _ _ _ (by assumption) (by assumption) (by assumption)
  · exact .lr _ _ _ (by assumption) (by assumption) (by assumption)
  · exact .rl _ _ _ (by assumption) (by assumption) (by assumption)
  · exact .rr _ _ _ (by assumption) (by assumption) (by assumption)
@[simp] theorem t_str (g : G) (s : List Nat) (t : Ty) : oIsT t g (.d (.str s)) = some (.d (.bl (match t with | .str => true | _ => false))) := by cases t <;> rfl
@[simp] theorem t_int (g : G) (s : Int) (t : Ty) : oIsT t g (.d (.int s)) = some (.d (.bl (match t with | .int => true | _ => false))) := by cases t <;> rfl
@[simp] theorem t_bl (g : G) (s : Bool) (t : Ty) : oIsT t g (.d (.bl s)) = some (.d (.bl (match t with | .int => true | .bool => true | _ => false))) := by cases t <;> rfl
@[simp] theorem t_tup (g : G) (s : List D) (t : Ty) : oIsT t g (.d (.tup s)) = some (.d (.bl (match t with | .tuple => true | _ => false))) := by cases t <;> rfl
@[simp] theorem t_rol (g : G) (s : List D) (t : Ty) : oIsT t g (.d (.rol s)) = some (.d (.bl (match t with | .list => true | _ => false))) := by cases t <;> rfl
@[simp] theorem t_lst (g : G) (s : List D) (t : Ty) : oIsT t g (.o (.lst s)) = some (.d (.bl (match t with | .list => true | _ => false))) := by cases t <;> rfl
theorem isNon_lk {ψ : Psi} {g : G} {s : Sl} {c : C} (h : lookS g s = some c) : isNon (some s :: ψ) (.sl 0) = some (match c with | .d .non => true | _ => false) := by
  cases s with
  | own o => cases h; rfl
  | bor o => cases h; rfl
  | fz kvs => cases h
  | d x =>
    cases x with
    | ref a =>
      obtain ⟨o, _, e⟩ := Option.map_eq_some_iff.mp (show (g a).map C.o = some c from h)
      cases e; rfl
    | _ => cases h; rfl
end Pd
set_option linter.all false
set_option maxRecDepth 10000
namespace Pd
theorem lk4_1 (a b c d : D) : List.lookup "ask_words" [("ask_words", a), ("say_words", b), ("leading", c), ("all_doors", d)] = some a := rfl
theorem lk4_2 (a b c d : D) : List.lookup "say_words" [("ask_words", a), ("say_words", b), ("leading", c), ("all_doors", d)] = some b := rfl
theorem up_new {g0 g : G} {q : Nat} {o : O} (h : ∀ a u, g0 a = some u → g a = some u) (hq : g q = none) : ∀ a u, g0 a = some u → g.upd q o a = some u := fun a u e => by
  have := h a u e
  rw [G.upd_ne fun z => by rw [z, hq] at this; cases this]; exact this
end Pd
set_option linter.all false
set_option maxRecDepth 10000
namespace Pd
theorem pigeon {α : Type} [DecidableEq α] : ∀ {xs ys : List α}, xs.Nodup → (∀ x ∈ xs, x ∈ ys) → xs.length ≤ ys.length
  | [], _, _, _ => Nat.zero_le _
  | x :: xs, ys, h, k => by
    obtain ⟨h1, h2⟩ := List.nodup_cons.mp h
    have hx := k x (by simp)
    have := pigeon (ys := ys.erase x) h2 fun z hz => (List.mem_erase_of_ne (fun e => h1 (by rw [← e]; exact hz))).mpr (k z (by simp [hz]))
    rw [List.length_erase_of_mem hx] at this
    have : 0 < ys.length := List.length_pos_of_mem hx
    simp; omega
theorem den_T (n : Nat) (g : G) (hn : 0 < n) : ∀ ws : List (List Nat), denL (den n g) (T ws) = some (T ws)
  | [] => rfl
  | w :: ws => by
    obtain ⟨n, rfl⟩ : ∃ m, n = m + 1 := ⟨n - 1, by omega⟩
    have := den_T (n + 1) g hn ws
    show (match den (n + 1) g (.str w), denL (den (n + 1) g) (T ws) with | some y, some ys => some (y :: ys) | _, _ => none) = _
    rw [this]; rfl
theorem fw_ok {others : List (List Nat)} : ∀ {ws seen : List (List Nat)} {n : Nat}, ws.Nodup → (∀ w ∈ ws, w ∉ seen) → (∀ w ∈ ws, isName w = true ∧ w ∉ others) → fw others seen n ws = none
  | [], _, _, _, _, _ => rfl
  | w :: ws, seen, n, h1, h2, h3 => by
    obtain ⟨a, b⟩ := List.nodup_cons.mp h1
    rw [fw_cons, if_pos ⟨(h3 w (by simp)).1, h2 w (by simp), (h3 w (by simp)).2⟩]
    refine fw_ok b (fun v hv hm => ?_) fun v hv => h3 v (by simp [hv])
    rcases List.mem_append.mp hm with hm | hm
    · exact h2 v (by simp [hv]) hm
    · rw [List.mem_singleton] at hm; exact a (hm ▸ hv)
theorem firstWrong_ok {m : Nat} {others ws : List (List Nat)} (h : ws ≠ []) (hl : ws.length ≤ m) (nd : ws.Nodup) (hv : ∀ w ∈ ws, isName w = true ∧ w ∉ others) : firstWrong m others ws = none := by
  have e : ws.take m = ws := List.take_of_length_le hl
  unfold firstWrong
  rw [if_neg h, e, fw_ok nd (fun _ _ z => by cases z) hv, if_neg (by omega)]
theorem isName_len {w : List Nat} (h : isName w = true) : w.length ≤ 8 := by
  by_cases z : 8 < w.length
  · rw [isName_long z] at h; cases h
  · omega
end Pd
set_option linter.all false
set_option maxRecDepth 10000
namespace Pd
/-! doors -/
structure Dr where
  r : List Nat
  s : List (List Nat)
  o : List Nat
  deriving DecidableEq
def dr (d : Dr) : D := .tup [.str d.r, .tup (d.s.map D.str), .str d.o]
@[simp] theorem dr_mk (d : Dr) : dr d = .tup [.str d.r, .tup (d.s.map D.str), .str d.o] := nrfl rfl
abbrev Ds (ds : List Dr) : List D := ds.map dr
theorem T_inj' {a b : List (List Nat)} : a.map D.str = b.map D.str ↔ a = b := List.map_inj_right fun _ _ e => D.str.inj e
theorem dr_inj {a b : Dr} (h : dr a = dr b) : a = b := by
  obtain ⟨r, s, o⟩ := a
  obtain ⟨r', s', o'⟩ := b
  simp at h
  obtain ⟨rfl, h2, rfl⟩ := h
  have := T_inj'.mp h2
  subst this; rfl
theorem pure_tT (a : List (List Nat)) : (D.tup (a.map D.str)).pure = true := pures_T a
theorem depth_tT (a : List (List Nat)) : (D.tup (a.map D.str)).depth = 1 := by show D.depths (T a) + 1 = 1; rw [depths_T]
theorem pure_dr (d : Dr) : (dr d).pure = true := by
  show (true && ((D.tup (d.s.map D.str)).pure && (true && true))) = true
  rw [pure_tT]; rfl
theorem depth_dr (d : Dr) : (dr d).depth = 2 := by
  show max 0 (max (D.tup (d.s.map D.str)).depth (max 0 0)) + 1 = 2
  rw [depth_tT]; rfl
theorem pures_Ds : ∀ ds : List Dr, D.pures (Ds ds) = true
  | [] => rfl
  | d :: ds => by show ((dr d).pure && D.pures (Ds ds)) = true; rw [pure_dr, pures_Ds ds]; rfl
theorem depths_Ds : ∀ ds : List Dr, D.depths (Ds ds) ≤ 2
  | [] => Nat.zero_le _
  | d :: ds => by
    show max (dr d).depth (D.depths (Ds ds)) ≤ 2
    rw [depth_dr]
    have := depths_Ds ds
    omega
theorem rsv_pure (n : Nat) (g : G) {x : D} (h : x.pure = true) : rsv n g x = some x := by
  cases n with
  | zero => exact if_pos h
  | succ n => exact if_pos h
theorem eq_pure (g : G) {x y : D} (h : x.pure = true) (h' : y.pure = true) (d : x.depth ≤ 60) (d' : y.depth ≤ 60) : eqC g (.d x) (.d y) = some (decide (x = y)) := by
  have e : eqC g (.d x) (.d y) = match rsvC g (.d x), rsvC g (.d y) with
    | some x, some y => if x.depth ≤ 60 ∧ y.depth ≤ 60 then some (decide (x = y)) else none
    | _, _ => none := by
    cases x <;> cases y <;> first | rfl | (cases h) | (cases h')
  rw [e, show rsvC g (.d x) = some x from rsv_pure 6 g h, show rsvC g (.d y) = some y from rsv_pure 6 g h']
  exact if_pos ⟨d, d'⟩
@[simp] theorem eq_tT (g : G) (a b : List (List Nat)) : oEq g (.d (.tup (a.map D.str))) (.d (.tup (b.map D.str))) = some (.d (.bl (decide (a = b)))) := by
  unfold oEq
  rw [eq_pure g (pure_tT a) (pure_tT b) (by rw [depth_tT]; omega) (by rw [depth_tT]; omega)]
  simp [T_inj']
@[simp] theorem eq_t1 (g : G) (a : List (List Nat)) (s : List Nat) : oEq g (.d (.tup (a.map D.str))) (.d (.tup [.str s])) = some (.d (.bl (decide (a = [s])))) := eq_tT g a [s]
@[simp] theorem eq_11 (g : G) (a b : List Nat) : oEq g (.d (.tup [.str a])) (.d (.tup [.str b])) = some (.d (.bl (decide (a = b)))) := by
  have := eq_tT g [a] [b]
  simpa using this
theorem in_D (g : G) (d : Dr) (ds : List Dr) : inC g (.d (dr d)) (.o (.lst (ds.map dr))) = some (decide (d ∈ ds)) := by
  show (if (dr d).pure && D.pures (Ds ds) && decide ((dr d).depth ≤ 50) && decide (D.depths (Ds ds) ≤ 50) then some (decide (dr d ∈ Ds ds)) else none) = _
  have := depths_Ds ds
  rw [pure_dr, pures_Ds, depth_dr, if_pos (by simp; omega)]
  congr 1
  refine decide_eq_decide.mpr ⟨fun h => ?_, fun h => List.mem_map_of_mem h⟩
  obtain ⟨d', h1, h2⟩ := List.mem_map.mp h
  exact dr_inj h2 ▸ h1
@[simp] theorem nin_Ds (g : G) (r o : List Nat) (s : List (List Nat)) (ds : List Dr) : oNin g (.d (.tup [.str r, .tup (s.map D.str), .str o])) (.o (.lst (ds.map dr))) = some (.d (.bl (!decide (⟨r, s, o⟩ ∈ ds)))) := by
  unfold oNin
  show (inC g (.d (dr ⟨r, s, o⟩)) (.o (.lst (ds.map dr)))).map _ = _
  rw [in_D]; rfl
theorem keyishs_T : ∀ ws : List (List Nat), D.keyishs (T ws) = true
  | [] => rfl
  | w :: ws => by show (true && D.keyishs (T ws)) = true; rw [keyishs_T ws]; rfl
@[simp] theorem keyOk_dr (r o : List Nat) (s : List (List Nat)) : keyOk true (.tup [.str r, .tup (s.map D.str), .str o]) = true := by
  show ((true && (D.keyishs (T s) && (true && true))) && decide (max 0 (max (D.depths (T s) + 1) (max 0 0)) < 8)) = true
  rw [keyishs_T, depths_T]; rfl
@[simp] theorem keyOk_s (s : List Nat) : keyOk false (.str s) = true := nrfl rfl
/-! the words -/
abbrev wAsk : List Nat := [97, 115, 107]
abbrev wSay : List Nat := [115, 97, 121]
abbrev wStill : List Nat := [115, 116, 105, 108, 108]
abbrev wHush : List Nat := [104, 117, 115, 104]
def isSign (asks says : List (List Nat)) : List (List Nat) → Bool
  | [h] => decide (h = wStill)
  | [h, w] => if h = wAsk then decide (w ∈ asks) else decide (h = wSay) && decide (w ∈ says)
  | _ => false
def Two (s : List (List Nat)) : Prop := s.length = 1 ∨ s.length = 2
theorem Two.cases {s : List (List Nat)} (h : Two s) : (∃ a, s = [a]) ∨ ∃ a b, s = [a, b] := by
  rcases h with h | h
  · match s, h with
    | [a], _ => exact .inl ⟨a, rfl⟩
  · match s, h with
    | [a, b], _ => exact .inr ⟨a, b, rfl⟩
structure Si where
  s : List (List Nat)
  asks : List (List Nat)
  says : List (List Nat)
def d_sign : Sg Si := ⟨fun x ss g => (∃ s1 s2, ss = [.d (.tup (x.s.map D.str)), s1, s2] ∧ lookS g s1 = some (.o (.lst (T x.asks))) ∧ lookS g s2 = some (.o (.lst (T x.says)))) ∧ Two x.s,
  fun x g r g' => g' = g ∧ r = .d (.bl (isSign x.asks x.says x.s)), fun _ _ _ _ => False⟩
theorem k_sign : Keeps d_sign.wp b_is_sign_of 3 := by
  rintro ss g E Q ⟨⟨s, asks, says⟩, ⟨⟨s1, s2, rfl, h1, h2⟩, h3⟩, hq, _⟩
  simp only at h1 h2 h3
  have fin : ∀ b : Bool, b = isSign asks says s → ∃ g2, G.le g2 g ∧ Q (.d (.bl b)) g2 := fun b e => ret_now (hq _ _ ⟨rfl, by rw [e]⟩)
  rcases h3.cases with ⟨a, rfl⟩ | ⟨a, b, rfl⟩
  · simp [b_is_sign_of, begin_, s_sSeq]
    exact fin _ rfl
  · by_cases e : a = wAsk
    · simp [b_is_sign_of, begin_, s_sSeq, e, h1]
      exact fin _ (by simp [isSign, e])
    · by_cases e' : a = wSay
      · simp [b_is_sign_of, begin_, s_sSeq, e', h2]
        exact fin _ (by simp [isSign, e'])
      · simp [b_is_sign_of, begin_, s_sSeq, e, e', h2]
        exact fin _ (by simp [isSign, e, e'])
end Pd
set_option linter.all false
set_option maxRecDepth 10000
namespace Pd
/-! need_doors -/
def okDoor (asks says rooms : List (List Nat)) (d : Dr) : Bool := decide (d.r ∈ rooms) && (decide (d.o ∈ rooms) && isSign asks says d.s)
def fd (asks says rooms : List (List Nat)) : List Dr → Nat → List Dr → Option Nat
  | _, _, [] => none
  | seen, n, d :: ds => if okDoor asks says rooms d = true ∧ d ∉ seen then fd asks says rooms (seen ++ [d]) (n + 1) ds else some n
theorem fd_cons (asks says rooms : List (List Nat)) (seen : List Dr) (n : Nat) (d : Dr) (ds : List Dr) : fd asks says rooms seen n (d :: ds) = if okDoor asks says rooms d = true ∧ d ∉ seen then fd asks says rooms (seen ++ [d]) (n + 1) ds else some n := rfl
def wrongDoor (asks says rooms : List (List Nat)) (ds : List Dr) : Option Nat := match fd asks says rooms [] 0 (ds.take 2000) with
  | some n => some n
  | none => if 2000 < ds.length then some 2000 else none
structure Nd2 where
  doors : List Dr
  asks : List (List Nat)
  says : List (List Nat)
  rooms : List (List Nat)
def d_needD : Sg Nd2 := ⟨fun x ss g => (∃ s0 s1 s2 s3 kvs, ss = [s0, s1, s2, s3] ∧ lookS g s0 = some (.o (.lst (Ds x.doors))) ∧ lookS g s1 = some (.o (.lst (T x.asks))) ∧ lookS g s2 = some (.o (.lst (T x.says))) ∧ lookS g s3 = some (.o (.dic false kvs)) ∧ kvs.map (·.1) = T x.rooms) ∧ (∀ d ∈ x.doors, Two d.s),
  fun x g r g' => g' = g ∧ r = .d .non ∧ wrongDoor x.asks x.says x.rooms x.doors = none,
  fun x g z g' => g' = g ∧ ∃ n, wrongDoor x.asks x.says x.rooms x.doors = some n ∧ z = noMach [100, 111, 111, 114, 115] n⟩
theorem k_needD : Keeps d_needD.wp (b_need_doors d_sign.wp) 10 := by
  rintro ss g E Q ⟨⟨doors, asks, says, rooms⟩, ⟨⟨s0, s1, s2, s3, kvs, rfl, h0, h1, h2, h3, h4⟩, h5⟩, hq, he⟩
  have h8 := most_is
  simp only at h0 h1 h2 h3 h4 h5
  have inR : ∀ w : List Nat, (D.str w ∈ kvs.map (·.1)) ↔ w ∈ rooms := fun w => by rw [h4]; exact mem_T
  simp [b_need_doors, begin_]
  rw [s_sSeq]; simp
  refine seq_of (fun ψ g2 => g2 = g ∧ fd asks says rooms [] 0 (doors.take 2000) = none ∧ ∃ t4 t5 t6 t7 t8 t9, ψ = [some s0, some s1, some s2, some s3, t4, t5, t6, t7, t8, t9]) (fun nx hn => ?_) ?_
  · simp [h0, ← List.map_take]
    refine for_ind (fun rest ψ g2 => g2 = g ∧ ∃ (done cs : List Dr) (kv : List (D × D)) (t5 t6 t7 t8 t9 : Option Sl), doors.take 2000 = done ++ cs ∧ rest = numbered done.length (Ds cs) ∧ fd asks says rooms [] 0 (doors.take 2000) = fd asks says rooms done done.length cs ∧ kv.map (·.1) = Ds done ∧
      ψ = [some s0, some s1, some s2, some s3, some (.own (.dic true kv)), t5, t6, t7, t8, t9]) ?_ ?_ _ _ _ ⟨rfl, [], doors.take 2000, [], _, _, _, _, _, rfl, rfl, rfl, rfl, rfl⟩
    · rintro x xs ψ g2 K ⟨rfl, done, cs, kv, t5, t6, t7, t8, t9, e1, e2, e3, e4, rfl⟩ hK
      cases cs with
      | nil => cases e2
      | cons d cs =>
        obtain ⟨rfl, rfl⟩ := List.cons.inj e2
        have hd : d ∈ doors := List.mem_of_mem_take (e1 ▸ List.mem_append_right _ (by simp))
        have inS : (D.tup [.str d.r, .tup (d.s.map D.str), .str d.o] ∈ kv.map (·.1)) ↔ d ∈ done := by
          rw [e4]
          exact ⟨fun h => let ⟨d', a, b⟩ := List.mem_map.mp h; dr_inj b ▸ a, fun h => List.mem_map.mpr ⟨d, h, rfl⟩⟩
        have hk9 : kv.length < most := by
          have : kv.length = done.length := by have := congrArg List.length e4; simpa [Ds] using this
          have : done.length ≤ 2000 := by have := congrArg List.length e1; simp at this; omega
          omega
        simp
        refine seq_of (fun ψ g3 => g3 = g2 ∧ ψ = [some s0, some s1, some s2, some s3, some (.own (.dic true kv)), some (.d (.int done.length)), some (.d (.str d.r)), some (.d (.tup (d.s.map D.str))), some (.d (.str d.o)), some (.d (.bl (okDoor asks says rooms d)))]) (fun nx hn => ?_) ?_
        · simp [h3, inR]
          by_cases c1 : d.r ∈ rooms
          · by_cases c2 : d.o ∈ rooms
            · simp [c1, c2]
              refine call_of ⟨d.s, asks, says⟩ ⟨⟨_, _, rfl, by simpa using h1, by simpa using h2⟩, h5 d hd⟩ ?_
              rintro r g3 ⟨rfl, rfl⟩
              simp
              exact hn _ _ ⟨rfl, by simp [okDoor, c1, c2]⟩
            · simp [c1, c2]
              exact hn _ _ ⟨rfl, by simp [okDoor, c1, c2]⟩
          · simp [c1]
            exact hn _ _ ⟨rfl, by simp [okDoor, c1]⟩
        · rintro ψ g3 ⟨rfl, rfl⟩
          rw [s_sSeq]
          by_cases c1 : okDoor asks says rooms d = true
          · by_cases c2 : d ∈ done
            · simp [c1, inS, c2]
              refine he _ _ ⟨rfl, done.length, ?_, rfl⟩
              show wrongDoor asks says rooms doors = _
              unfold wrongDoor
              rw [e3, fd_cons, if_neg (fun z => z.2 c2)]
            · simp [c1, inS, c2, hk9]
              have hnk : D.tup [.str d.r, .tup (d.s.map D.str), .str d.o] ∉ kv.map (·.1) := fun z => c2 (inS.mp z)
              rw [putK_new _ _ _ hnk]
              refine now (hK _ _ ⟨rfl, done ++ [d], cs, _, _, _, _, _, _, by simp [e1], by simp, ?_, by simp [e4], rfl⟩)
              rw [e3, fd_cons, if_pos ⟨c1, c2⟩]; simp
          · simp [c1]
            refine he _ _ ⟨rfl, done.length, ?_, rfl⟩
            show wrongDoor asks says rooms doors = _
            unfold wrongDoor
            rw [e3, fd_cons, if_neg (fun z => c1 z.1)]
    · rintro ψ g2 ⟨rfl, done, cs, kv, t5, t6, t7, t8, t9, e1, e2, e3, e4, rfl⟩
      cases cs with
      | cons d cs => cases e2
      | nil => exact hn _ _ ⟨rfl, e3, _, _, _, _, _, _, rfl⟩
  · rintro ψ g2 ⟨rfl, e, t4, t5, t6, t7, t8, t9, rfl⟩
    simp [h0]
    split
    · rename_i hl
      refine he _ _ ⟨rfl, 2000, ?_, rfl⟩
      show wrongDoor asks says rooms doors = _
      unfold wrongDoor
      rw [e]; exact if_pos (by omega)
    · rename_i hl
      refine ret_now (hq _ _ ⟨rfl, rfl, ?_⟩)
      show wrongDoor asks says rooms doors = _
      unfold wrongDoor
      rw [e]; exact if_neg (by omega)
end Pd
set_option linter.all false
set_option maxRecDepth 10000
namespace Pd
/-! still doors, round and round -/
structure Mch where
  asks : List (List Nat)
  says : List (List Nat)
  rooms : List (List Nat)
  doors : List Dr
def outOf (ds : List Dr) (r : List Nat) : List Dr := ds.filter fun d => decide (d.r = r)
def Still (ds : List Dr) (a b : List Nat) : Prop := ∃ d ∈ ds, d.r = a ∧ d.s = [wStill] ∧ d.o = b
inductive Reach (ds : List Dr) : List Nat → List Nat → Prop
  | one {a b : List Nat} : Still ds a b → Reach ds a b
  | snoc {a b c : List Nat} : Reach ds a b → Still ds b c → Reach ds a c
def LeadAt (g : G) (q : Nat) (rooms : List (List Nat)) (doors : List Dr) : Prop := ∃ kvs, g q = some (.dic false kvs) ∧ kvs.map (·.1) = T rooms ∧ ∀ w ∈ rooms, ∃ a, lookK kvs (.str w) = some (.ref a) ∧ g a = some (.lst (Ds (outOf doors w)))
@[simp] theorem ne_SL (g : G) (a : List (List Nat)) (s : List Nat) : oNe g (.o (.lst (a.map D.str ++ [D.str s]))) (.o (.lst [])) = some (.d (.bl true)) := by
  have := ne_T0 g (a ++ [s])
  simpa using this
structure Rn where
  p : Nat
  room : List Nat
  q : Nat
  rooms : List (List Nat)
  doors : List Dr
def d_round : Sg Rn := ⟨fun x ss g => ss = [.d (.ref x.p), .d (.str x.room)] ∧ (∃ fs, g x.p = some (.ins "Machine" fs) ∧ fs.lookup "leading" = some (.ref x.q)) ∧ LeadAt g x.q x.rooms x.doors ∧ x.room ∈ x.rooms ∧ (∀ d ∈ x.doors, d.o ∈ x.rooms) ∧ x.rooms.length ≤ 4000 ∧ ∀ d ∈ x.doors, Two d.s,
  fun x g r g' => g' = g ∧ ∃ b : Bool, r = .d (.bl b) ∧ (b = true ↔ Reach x.doors x.room x.room), fun _ _ _ _ => False⟩
theorem k_round : Keeps d_round.wp b_Machine_comes_round 6 := by
  rintro ss g E Q ⟨⟨p, room, q3, rooms, doors⟩, ⟨rfl, ⟨fs, h1, h2⟩, ⟨kvs, h3, h4, h5⟩, hin, hot, hlen, htwo⟩, hq, _⟩
  have h8 := most_is
  simp only at h1 h2 h3 h4 h5 hin hot hlen htwo
  simp [b_Machine_comes_round, begin_]
  rw [s_sSeq]; simp
  rw [s_sSeq]; simp
  rw [s_sSeq]; simp
  refine while_ind (fun n ψ g3 => g3 = g ∧ ∃ (due seen : List (List Nat)) (kv : List (D × D)) (s4 s5 : Option Sl), n = 2 * (rooms.length - seen.length) + due.length ∧ kv.map (·.1) = T seen ∧ seen.Nodup ∧ (∀ x ∈ seen, x ∈ rooms ∧ Reach doors room x) ∧ (∀ x ∈ due, x = room ∨ x ∈ seen) ∧
    (∀ x, x = room ∨ x ∈ seen → x ∉ due → ∀ y, Still doors x y → y ≠ room ∧ y ∈ seen) ∧ due.length ≤ seen.length + 1 ∧
    ψ = [some (.d (.ref p)), some (.d (.str room)), some (.own (.dic false kv)), some (.own (.lst (T due))), s4, s5]) ?_ (2 * rooms.length + 1) _ _ ⟨rfl, [room], [], [], _, _, by simp, rfl, List.nodup_nil, by simp, by simp, by simp, by simp, rfl⟩
  rintro n ψ g3 K ⟨rfl, due, seen, kv, s4, s5, rfl, ek, hnd, hseen, hdue, hcl, hdl, rfl⟩ hK
  have hsl : seen.length ≤ rooms.length := pigeon hnd fun x hx => (hseen x hx).1
  rcases List.eq_nil_or_concat due with rfl | ⟨init, here, hdu⟩
  · simp
    refine ret_now (hq _ _ ⟨rfl, false, rfl, ⟨(fun z => by cases z), fun z => ?_⟩⟩)
    have key : ∀ y, Reach doors room y → y ≠ room ∧ y ∈ seen := fun y hy => by
      induction hy with
      | one h => exact hcl _ (.inl rfl) (by simp) _ h
      | snoc _ h ih => exact hcl _ (.inr ih.2) (by simp) _ h
    exact absurd rfl (key _ z).1
  · rw [List.concat_eq_append] at hdu
    subst hdu
    simp
    rw [s_sSeq]; simp
    have hh := hdue here (by simp)
    have hhr : here ∈ rooms := hh.elim (fun e => e ▸ hin) fun h => (hseen _ h).1
    have hre : ∀ y, Still doors here y → Reach doors room y := fun y hy => hh.elim (fun e => .one (e ▸ hy)) fun h => .snoc (hseen _ h).2 hy
    obtain ⟨qa, e1, e2⟩ := h5 here hhr
    simp [h1, h2, h3, e1, e2]
    refine for_ind (fun rest ψ g4 => g4 = g3 ∧ ∃ (done cs : List Dr) (due' seen' : List (List Nat)) (kv' : List (D × D)) (s5 : Option Sl), outOf doors here = done ++ cs ∧ rest = Ds cs ∧ 2 * (rooms.length - seen'.length) + due'.length ≤ 2 * (rooms.length - seen.length) + init.length ∧ kv'.map (·.1) = T seen' ∧ seen'.Nodup ∧
      (∀ x ∈ seen', x ∈ rooms ∧ Reach doors room x) ∧ (∀ x ∈ due', x = room ∨ x ∈ seen') ∧ (∀ x ∈ seen, x ∈ seen') ∧ (∀ x ∈ init, x ∈ due') ∧
      (∀ x, x = room ∨ x ∈ seen' → x ∉ due' → x ≠ here → ∀ y, Still doors x y → y ≠ room ∧ y ∈ seen') ∧ (∀ d ∈ done, d.s = [wStill] → d.o ≠ room ∧ d.o ∈ seen') ∧ due'.length ≤ seen'.length ∧
      ψ = [some (.d (.ref p)), some (.d (.str room)), some (.own (.dic false kv')), some (.own (.lst (T due'))), some (.d (.str here)), s5]) ?_ ?_ _ _ _
      ⟨rfl, [], outOf doors here, init, seen, kv, _, rfl, rfl, Nat.le_refl _, ek, hnd, hseen, fun x hx => hdue x (by simp [hx]), fun x h => h, fun x h => h, fun x h1 h2 h3 => hcl x h1 (by simp [h2, h3]), by simp, by simp at hdl; omega, rfl⟩
    · rintro x xs ψ g4 K2 ⟨rfl, done, cs, due', seen', kv', s5, f1, f2, f3, f4, f5, f6, f7, f8, f9, f10, f11, f12, rfl⟩ hK2
      cases cs with
      | nil => cases f2
      | cons d cs =>
        obtain ⟨rfl, rfl⟩ := List.cons.inj f2
        have hd : d ∈ outOf doors here := f1 ▸ List.mem_append_right _ (by simp)
        have hd1 : d ∈ doors := (List.mem_filter.mp hd).1
        have hd2 : d.r = here := of_decide_eq_true (List.mem_filter.mp hd).2
        have inS : ∀ w : List Nat, (D.str w ∈ kv'.map (·.1)) ↔ w ∈ seen' := fun w => by rw [f4]; exact mem_T
        have hk9 : kv'.length < most := by
          have : kv'.length = seen'.length := by have := congrArg List.length f4; simpa [T] using this
          have := pigeon f5 fun x hx => (f6 x hx).1
          omega
        have hs9 := pigeon f5 fun x hx => (f6 x hx).1
        simp
        rw [s_sSeq]
        by_cases c1 : d.s = [wStill]
        · have hst : Still doors here d.o := ⟨d, hd1, hd2, c1, rfl⟩
          by_cases c2 : d.o = room
          · simp [c1, c2]
            exact ret_now (hq _ _ ⟨rfl, true, rfl, ⟨fun _ => c2 ▸ hre _ hst, fun _ => rfl⟩⟩)
          · by_cases c3 : d.o ∈ seen'
            · simp [c1, c2, inS, c3]
              refine now ⟨e2, hK2 _ _ ⟨rfl, done ++ [d], cs, due', seen', kv', _, by simp [f1], rfl, f3, f4, f5, f6, f7, f8, f9, f10, fun d' hd' hs' => ?_, f12, rfl⟩⟩
              rcases List.mem_append.mp hd' with h | h
              · exact f11 d' h hs'
              · rw [List.mem_singleton.mp h]; exact ⟨c2, c3⟩
            · have hnk : D.str d.o ∉ kv'.map (·.1) := fun z => c3 ((inS _).mp z)
              have hdm : due'.length < most := by omega
              have hor := hot d hd1
              simp [c1, c2, inS, c3]
              rw [s_sSeq]; simp [hk9, putK_new _ _ _ hnk, hdm]
              have f5' : (seen' ++ [d.o]).Nodup := List.nodup_append.mpr ⟨f5, by simp, fun a ha b hb => by simp at hb; rw [hb]; exact fun z => c3 (z ▸ ha)⟩
              have hl' := pigeon f5' fun x hx => (List.mem_append.mp hx).elim (fun h => (f6 x h).1) fun h => by rw [List.mem_singleton.mp h]; exact hor
              simp at hl'
              refine now ⟨e2, hK2 _ _ ⟨rfl, done ++ [d], cs, due' ++ [d.o], seen' ++ [d.o], kv' ++ [(.str d.o, .bl true)], _, by simp [f1], rfl, by simp; omega, by simp [f4], f5', fun x hx => ?_, fun x hx => ?_, fun x h => by simp [f8 x h], fun x h => by simp [f9 x h], fun x h1 h2 h3 y hy => ?_, fun d' hd' hs' => ?_, by simp; omega, by simp [T]; rfl⟩⟩
              · rcases List.mem_append.mp hx with h | h
                · exact f6 x h
                · rw [List.mem_singleton.mp h]; exact ⟨hor, hre _ hst⟩
              · rcases List.mem_append.mp hx with h | h
                · exact (f7 x h).imp_right fun z => by simp [z]
                · rw [List.mem_singleton.mp h]; exact .inr (by simp)
              · have h2' : x ∉ due' ∧ x ≠ d.o := by simpa using h2
                have h1' : x = room ∨ x ∈ seen' := h1.imp_right fun z => (List.mem_append.mp z).elim id fun z => absurd (List.mem_singleton.mp z) h2'.2
                have := f10 x h1' h2'.1 h3 y hy
                exact ⟨this.1, by simp [this.2]⟩
              · rcases List.mem_append.mp hd' with h | h
                · have := f11 d' h hs'; exact ⟨this.1, by simp [this.2]⟩
                · rw [List.mem_singleton.mp h]; exact ⟨c2, by simp⟩
        · simp [c1]
          refine now ⟨e2, hK2 _ _ ⟨rfl, done ++ [d], cs, due', seen', kv', _, by simp [f1], rfl, f3, f4, f5, f6, f7, f8, f9, f10, fun d' hd' hs' => ?_, f12, rfl⟩⟩
          rcases List.mem_append.mp hd' with h | h
          · exact f11 d' h hs'
          · rw [List.mem_singleton.mp h] at hs'; exact absurd hs' c1
    · rintro ψ g4 ⟨rfl, done, cs, due', seen', kv', s5, f1, f2, f3, f4, f5, f6, f7, f8, f9, f10, f11, f12, rfl⟩
      have hcs : cs = [] := by cases cs with | nil => rfl | cons => cases f2
      subst hcs
      rw [List.append_nil] at f1
      refine now (hK _ _ _ ?_ ⟨rfl, due', seen', kv', _, _, rfl, f4, f5, f6, f7, fun x h1 h2 y hy => ?_, by omega, rfl⟩)
      · simp; omega
      · by_cases hx : x = here
        · obtain ⟨d, a, b, c, e⟩ := hy
          have := f11 d (f1 ▸ List.mem_filter.mpr ⟨a, by simp [b, hx]⟩) c
          rw [e] at this; exact this
        · exact f10 x h1 h2 hx y hy
end Pd
set_option linter.all false
set_option maxRecDepth 10000
namespace Pd
/-! a machine is made -/
theorem fd_none {asks says rooms : List (List Nat)} : ∀ {ds seen : List Dr} {n : Nat}, fd asks says rooms seen n ds = none → ds.Nodup ∧ (∀ d ∈ ds, d ∉ seen) ∧ ∀ d ∈ ds, okDoor asks says rooms d = true
  | [], _, _, _ => ⟨List.nodup_nil, fun _ h => (nomatch h), fun _ h => (nomatch h)⟩
  | d :: ds, seen, n, h => by
    rw [fd_cons] at h
    split at h
    · rename_i hc
      obtain ⟨h1, h2, h3⟩ := fd_none h
      refine ⟨List.nodup_cons.mpr ⟨fun hm => h2 d hm (by simp), h1⟩, fun v hv => ?_, fun v hv => ?_⟩
      · rcases List.mem_cons.mp hv with rfl | hv
        · exact hc.2
        · exact fun z => h2 v hv (List.mem_append_left _ z)
      · rcases List.mem_cons.mp hv with rfl | hv
        · exact hc.1
        · exact h3 v hv
    · cases h
theorem fd_ok {asks says rooms : List (List Nat)} : ∀ {ds seen : List Dr} {n : Nat}, ds.Nodup → (∀ d ∈ ds, d ∉ seen) → (∀ d ∈ ds, okDoor asks says rooms d = true) → fd asks says rooms seen n ds = none
  | [], _, _, _, _, _ => rfl
  | d :: ds, seen, n, h1, h2, h3 => by
    obtain ⟨a, b⟩ := List.nodup_cons.mp h1
    rw [fd_cons, if_pos ⟨h3 d (by simp), h2 d (by simp)⟩]
    refine fd_ok b (fun v hv hm => ?_) fun v hv => h3 v (by simp [hv])
    rcases List.mem_append.mp hm with hm | hm
    · exact h2 v (by simp [hv]) hm
    · rw [List.mem_singleton] at hm; exact a (hm ▸ hv)
theorem wrongDoor_none {asks says rooms : List (List Nat)} {ds : List Dr} (h : wrongDoor asks says rooms ds = none) : ds.length ≤ 2000 ∧ ds.Nodup ∧ ∀ d ∈ ds, okDoor asks says rooms d = true := by
  unfold wrongDoor at h
  split at h
  · cases h
  · rename_i e
    split at h
    · cases h
    · rename_i hl
      rw [List.take_of_length_le (by omega)] at e
      obtain ⟨h1, _, h3⟩ := fd_none e
      exact ⟨by omega, h1, h3⟩
theorem wrongDoor_ok {asks says rooms : List (List Nat)} {ds : List Dr} (hl : ds.length ≤ 2000) (nd : ds.Nodup) (h : ∀ d ∈ ds, okDoor asks says rooms d = true) : wrongDoor asks says rooms ds = none := by
  have e : ds.take 2000 = ds := List.take_of_length_le hl
  unfold wrongDoor
  rw [e, fd_ok nd (fun _ _ z => by cases z) h, if_neg (by omega)]
theorem okDoor_in {asks says rooms : List (List Nat)} {d : Dr} (h : okDoor asks says rooms d = true) : d.r ∈ rooms ∧ d.o ∈ rooms ∧ isSign asks says d.s = true := by
  simpa [okDoor] using h
open Classical in
noncomputable def roundAt (ds : List Dr) : Nat → List (List Nat) → Option Nat
  | _, [] => none
  | n, r :: rs => if Reach ds r r then some n else roundAt ds (n + 1) rs
theorem round_cons (ds : List Dr) (n : Nat) (r : List Nat) (rs : List (List Nat)) : (Reach ds r r → roundAt ds n (r :: rs) = some n) ∧ (¬ Reach ds r r → roundAt ds n (r :: rs) = roundAt ds (n + 1) rs) := by
  constructor
  · intro h; exact if_pos h
  · intro h; exact if_neg h
noncomputable def badM (asks says rooms : List (List Nat)) (doors : List Dr) : Option (List Nat × Nat) := match badPart asks says rooms with
  | some x => some x
  | none => match wrongDoor asks says rooms doors with
    | some n => some ([100, 111, 111, 114, 115], n)
    | none => match roundAt doors 0 rooms with
      | some n => some (wStill, n)
      | none => none
structure Mk where
  p : Nat
  asks : List (List Nat)
  says : List (List Nat)
  rooms : List (List Nat)
  doors : List Dr
abbrev Mk.m (x : Mk) : Mch := ⟨x.asks, x.says, x.rooms, x.doors⟩
def MachD (g : G) (p : Nat) (m : Mch) : Prop := ∃ (q1 q2 q3 q4 : Nat), g p = some (.ins "Machine" [("ask_words", .ref q1), ("say_words", .ref q2), ("leading", .ref q3), ("all_doors", .ref q4)]) ∧
  g q1 = some (.lst (T m.asks)) ∧ g q2 = some (.lst (T m.says)) ∧ g q4 = some (.lst (Ds m.doors)) ∧ LeadAt g q3 m.rooms m.doors
def d_init : Sg Mk := ⟨fun x ss g => (∃ s1 s2 s3 s4, ss = [.d (.ref x.p), s1, s2, s3, s4] ∧ lookS g s1 = some (.o (.lst (T x.asks))) ∧ lookS g s2 = some (.o (.lst (T x.says))) ∧ lookS g s3 = some (.o (.lst (T x.rooms))) ∧ lookS g s4 = some (.o (.lst (Ds x.doors)))) ∧
    g x.p = some (.ins "Machine" []) ∧ (x.asks.length ≤ 4000 ∧ x.says.length ≤ 4000 ∧ x.rooms.length ≤ 4000 ∧ x.doors.length ≤ 4000) ∧ (∀ w ∈ x.asks, w.length ≤ most) ∧ (∀ w ∈ x.says, w.length ≤ most) ∧ (∀ w ∈ x.rooms, w.length ≤ most) ∧ ∀ d ∈ x.doors, Two d.s,
  fun x g r g' => r = .d .non ∧ badM x.asks x.says x.rooms x.doors = none ∧ MachD g' x.p x.m ∧ ∀ a u, g a = some u → a ≠ x.p → g' a = some u,
  fun x g z g' => (∀ a u, g a = some u → a ≠ x.p → g' a = some u) ∧ ∃ part n, badM x.asks x.says x.rooms x.doors = some (part, n) ∧ z = noMach part n⟩
theorem look_app : ∀ (kvs : List (D × D)) (k v : D), k ∉ kvs.map (·.1) → lookK (kvs ++ [(k, v)]) k = some v
  | [], k, v, h => by simp [lookK]
  | p :: r, k, v, h => by
    rw [List.map_cons, List.mem_cons, not_or] at h
    show (if p.1 = k then some p.2 else lookK (r ++ [(k, v)]) k) = _
    rw [if_neg fun e => h.1 e.symm, look_app r k v h.2]
theorem look_old : ∀ (kvs : List (D × D)) (k v j u : D), lookK kvs j = some u → lookK (kvs ++ [(k, v)]) j = some u
  | [], k, v, j, u, h => by cases h
  | p :: r, k, v, j, u, h => by
    have h' : (if p.1 = j then some p.2 else lookK r j) = some u := h
    show (if p.1 = j then some p.2 else lookK (r ++ [(k, v)]) j) = _
    split at h'
    · rename_i e; rw [if_pos e]; exact h'
    · rename_i e; rw [if_neg e]; exact look_old r k v j u h'
theorem k_init : Keeps d_init.wp (b_Machine___init__ d_need.wp d_needD.wp d_round.wp) 8 := by
  rintro ss g E Q ⟨⟨p, asks, says, rooms, doors⟩, ⟨⟨s1, s2, s3, s4, rfl, h1, h2, h3, h4⟩, hp, ⟨l1, l2, l3, l4⟩, w1, w2, w3, w4⟩, hq, he⟩
  have h8 := most_is
  simp only at h1 h2 h3 h4 hp l1 l2 l3 l4 w1 w2 w3 w4
  simp [b_Machine___init__, begin_]
  rw [s_sSeq]; simp
  refine call_of ⟨[97, 115, 107, 115], asks, 4, []⟩ ⟨⟨lendS s1, .bor (.lst []), rfl, by simpa using h1, rfl⟩, l1, by simp, w1⟩ ?_ ?_
  rotate_left
  · rintro z g' ⟨rfl, n, e1, rfl⟩
    exact he _ _ ⟨fun _ _ e _ => e, _, n, by simp [badM, badPart, e1], rfl⟩
  rintro r g' ⟨rfl, rfl, e1⟩
  rw [s_sSeq]; simp
  refine call_of ⟨[115, 97, 121, 115], says, 4, asks⟩ ⟨⟨lendS s2, lendS s1, rfl, by simpa using h2, by simpa using h1⟩, l2, by simp, w2⟩ ?_ ?_
  rotate_left
  · rintro z g' ⟨rfl, n, e2, rfl⟩
    exact he _ _ ⟨fun _ _ e _ => e, _, n, by simp [badM, badPart, e1, e2], rfl⟩
  rintro r g' ⟨rfl, rfl, e2⟩
  rw [s_sSeq]; simp
  refine call_of ⟨[114, 111, 111, 109, 115], rooms, 150, []⟩ ⟨⟨lendS s3, .bor (.lst []), rfl, by simpa using h3, rfl⟩, l3, by simp, w3⟩ ?_ ?_
  rotate_left
  · rintro z g' ⟨rfl, n, e3, rfl⟩
    exact he _ _ ⟨fun _ _ e _ => e, _, n, by simp [badM, badPart, e1, e2, e3], rfl⟩
  rintro r g' ⟨rfl, rfl, e3⟩
  have hbad : badPart asks says rooms = none := by simp [badPart, e1, e2, e3]
  obtain ⟨_, _, hnd, _⟩ := firstWrong_none e3
  -- the words
  rw [s_sSeq]; simp [h1]
  intro q1 hq1
  have hp1 : p ≠ q1 := fun z => by rw [z, hq1] at hp; cases hp
  simp [G.upd_ne hp1, hp, putF]
  generalize hg1 : (g'.upd q1 (O.lst (List.map D.str asks))).upd p (O.ins "Machine" [("ask_words", D.ref q1)]) = g1
  have k1 : ∀ a u, g' a = some u → a ≠ p → g1 a = some u := hg1 ▸ keep_new (fun a u e _ => e) hq1
  have a1 : g1 q1 = some (.lst (T asks)) := by rw [← hg1, G.upd_ne (Ne.symm hp1), G.upd_same]
  have b1 : g1 p = some (.ins "Machine" [("ask_words", .ref q1)]) := by rw [← hg1, G.upd_same]
  have h2 := hg1 ▸ look_lst (o := .lst (T asks)) (fs' := [("ask_words", .ref q1)]) h2 hp hq1
  have h1' := hg1 ▸ look_lst (o := .lst (T asks)) (fs' := [("ask_words", .ref q1)]) h1 hp hq1
  have h3 := hg1 ▸ look_lst (o := .lst (T asks)) (fs' := [("ask_words", .ref q1)]) h3 hp hq1
  have h4 := hg1 ▸ look_lst (o := .lst (T asks)) (fs' := [("ask_words", .ref q1)]) h4 hp hq1
  rw [s_sSeq]; simp [h2]
  intro q2 hq2
  have hp2 : p ≠ q2 := fun z => by rw [z, hq2] at b1; cases b1
  simp [G.upd_ne hp2, b1, putF]
  generalize hg2 : (g1.upd q2 (O.lst (List.map D.str says))).upd p (O.ins "Machine" [("ask_words", D.ref q1), ("say_words", D.ref q2)]) = g2
  have k2 : ∀ a u, g' a = some u → a ≠ p → g2 a = some u := hg2 ▸ keep_new k1 hq2
  have a2 : g2 q2 = some (.lst (T says)) := by rw [← hg2, G.upd_ne (Ne.symm hp2), G.upd_same]
  have a1 : g2 q1 = some (.lst (T asks)) := by
    have : q1 ≠ q2 := fun z => by rw [z, hq2] at a1; cases a1
    rw [← hg2, G.upd_ne (Ne.symm hp1), G.upd_ne this]; exact a1
  have b2 : g2 p = some (.ins "Machine" [("ask_words", .ref q1), ("say_words", .ref q2)]) := by rw [← hg2, G.upd_same]
  have h1' := hg2 ▸ look_lst (o := .lst (T says)) (fs' := [("ask_words", .ref q1), ("say_words", .ref q2)]) h1' b1 hq2
  have h2' := hg2 ▸ look_lst (o := .lst (T says)) (fs' := [("ask_words", .ref q1), ("say_words", .ref q2)]) h2 b1 hq2
  have h3 := hg2 ▸ look_lst (o := .lst (T says)) (fs' := [("ask_words", .ref q1), ("say_words", .ref q2)]) h3 b1 hq2
  have h4 := hg2 ▸ look_lst (o := .lst (T says)) (fs' := [("ask_words", .ref q1), ("say_words", .ref q2)]) h4 b1 hq2
  rw [s_sSeq]; simp
  intro q3 hq3
  have hp3 : p ≠ q3 := fun z => by rw [z, hq3] at b2; cases b2
  simp [G.upd_ne hp3, b2, putF]
  generalize hg3 : (g2.upd q3 (O.dic false [])).upd p (O.ins "Machine" [("ask_words", D.ref q1), ("say_words", D.ref q2), ("leading", D.ref q3)]) = g3
  have k3 : ∀ a u, g' a = some u → a ≠ p → g3 a = some u := hg3 ▸ keep_new k2 hq3
  have a3 : g3 q3 = some (.dic false []) := by rw [← hg3, G.upd_ne (Ne.symm hp3), G.upd_same]
  have a1 : g3 q1 = some (.lst (T asks)) := by
    have : q1 ≠ q3 := fun z => by rw [z, hq3] at a1; cases a1
    rw [← hg3, G.upd_ne (Ne.symm hp1), G.upd_ne this]; exact a1
  have a2 : g3 q2 = some (.lst (T says)) := by
    have : q2 ≠ q3 := fun z => by rw [z, hq3] at a2; cases a2
    rw [← hg3, G.upd_ne (Ne.symm hp2), G.upd_ne this]; exact a2
  have b3 : g3 p = some (.ins "Machine" [("ask_words", .ref q1), ("say_words", .ref q2), ("leading", .ref q3)]) := by rw [← hg3, G.upd_same]
  have h1' := hg3 ▸ look_lst (o := .dic false []) (fs' := [("ask_words", .ref q1), ("say_words", .ref q2), ("leading", .ref q3)]) h1' b2 hq3
  have h2' := hg3 ▸ look_lst (o := .dic false []) (fs' := [("ask_words", .ref q1), ("say_words", .ref q2), ("leading", .ref q3)]) h2' b2 hq3
  have h3 := hg3 ▸ look_lst (o := .dic false []) (fs' := [("ask_words", .ref q1), ("say_words", .ref q2), ("leading", .ref q3)]) h3 b2 hq3
  have h4 := hg3 ▸ look_lst (o := .dic false []) (fs' := [("ask_words", .ref q1), ("say_words", .ref q2), ("leading", .ref q3)]) h4 b2 hq3
  have h30 := h3
  have h40 := h4
  -- the rooms
  rw [s_sSeq]; simp [h3]
  refine for_ind (fun rest ψ g4 => ∃ (done cs : List (List Nat)) (kvs : List (D × D)) (s5 : Option Sl), rooms = done ++ cs ∧ rest = T cs ∧ kvs.map (·.1) = T done ∧ ψ = [some (.d (.ref p)), some s1, some s2, some s3, some s4, s5, none, none] ∧
    g4 q3 = some (.dic false kvs) ∧ (∀ w ∈ done, ∃ q, lookK kvs (.str w) = some (.ref q) ∧ g4 q = some (.lst []) ∧ g3 q = none ∧ ∀ v ∈ done, lookK kvs (.str v) = some (.ref q) → v = w) ∧ ∀ a u, g3 a = some u → a ≠ q3 → g4 a = some u) ?_ ?_ _ _ _ ⟨[], rooms, [], _, rfl, rfl, rfl, rfl, a3, fun _ h => (nomatch h), fun a u e _ => e⟩
  · rintro x xs ψ g4 K ⟨done, cs, kvs, s5, er, e5, ek, rfl, a4, hv, k4⟩ hK
    cases cs with
    | nil => cases e5
    | cons w cs =>
      obtain ⟨rfl, rfl⟩ := List.cons.inj e5
      have hkl : kvs.length = done.length := by have := congrArg List.length ek; simpa [T] using this
      have hdl : done.length < 4000 := by rw [er] at l3; simp at l3; omega
      have hwd : w ∉ done := fun hm => by
        rw [er] at hnd
        exact (List.nodup_append.mp hnd).2.2 w hm w (by simp) rfl
      have hnk : D.str w ∉ kvs.map (·.1) := by rw [ek]; simpa [T] using hwd
      have b4 := k4 p _ b3 hp3
      have hko : keyOk false (.str w) = true := rfl
      simp
      intro q hq
      have n1 : p ≠ q := fun z => by rw [z, hq] at b4; cases b4
      have n2 : q3 ≠ q := fun z => by rw [z, hq] at a4; cases a4
      have hk9 : kvs.length < most := by omega
      have el : List.lookup "leading" [("ask_words", D.ref q1), ("say_words", D.ref q2), ("leading", D.ref q3)] = some (.ref q3) := rfl
      simp [G.upd_ne n1, b4, G.upd_ne n2, a4, hko, hk9, putK_new _ _ _ hnk, el]
      have kk : ∀ a u, g4 a = some u → a ≠ q3 → ((g4.upd q (.lst [])).upd q3 (.dic false (kvs ++ [(.str w, .ref q)]))) a = some u := keep_new (fun a u e _ => e) hq
      have h3' : lookS ((g4.upd q (.lst [])).upd q3 (.dic false (kvs ++ [(.str w, .ref q)]))) s3 = some (.o (.lst (T rooms))) :=
        look_mid (look_mid h3 a3 (by intro z; cases z) k4) a4 (by intro z; cases z) kk
      have q0 : g3 q = none := by
        cases z : g3 q with
        | none => rfl
        | some u =>
          have := k4 q u z (Ne.symm n2)
          rw [hq] at this; cases this
      have lone : ∀ v ∈ done, lookK (kvs ++ [(.str w, .ref q)]) (.str v) ≠ some (.ref q) := fun v hvm z => by
        obtain ⟨q', e6, e7, _⟩ := hv v hvm
        rw [look_old _ _ _ _ _ e6] at z
        cases z
        rw [hq] at e7; cases e7
      refine now ⟨h3', hK _ _ ⟨done ++ [w], cs, _, _, by simp [er], rfl, by simp [ek, T], rfl, G.upd_same, fun v hm => ?_, fun a u e ne => kk a u (k4 a u e ne) ne⟩⟩
      rcases List.mem_append.mp hm with hm | hm
      · obtain ⟨q', e6, e7, e8, e9⟩ := hv v hm
        have n3 : q' ≠ q3 := fun z => by rw [z, a4] at e7; cases e7
        refine ⟨q', look_old _ _ _ _ _ e6, kk _ _ e7 n3, e8, fun x hx z => ?_⟩
        rcases List.mem_append.mp hx with hx | hx
        · obtain ⟨q2, e10, _⟩ := hv x hx
          rw [look_old _ _ _ _ _ e10] at z
          cases z
          exact e9 x hx e10
        · rw [List.mem_singleton.mp hx, look_app _ _ _ hnk] at z
          cases z
          rw [hq] at e7; cases e7
      · rw [List.mem_singleton.mp hm]
        refine ⟨q, look_app _ _ _ hnk, by rw [G.upd_ne (Ne.symm n2), G.upd_same], q0, fun x hx z => ?_⟩
        rcases List.mem_append.mp hx with hx | hx
        · exact absurd z (lone x hx)
        · exact List.mem_singleton.mp hx
  rintro ψ g4 ⟨done, cs, kvs, s5, er, e5, ek, rfl, a4, hv, k4⟩
  have hcs : cs = [] := by
    cases cs with
    | nil => rfl
    | cons w cs => cases e5
  subst hcs
  rw [List.append_nil] at er
  subst er
  have b4 := k4 p _ b3 hp3
  have h4 := look_mid h4 a3 (by intro z; cases z) k4
  have h3 := look_mid h3 a3 (by intro z; cases z) k4
  have h1' := look_mid h1' a3 (by intro z; cases z) k4
  have h2' := look_mid h2' a3 (by intro z; cases z) k4
  have kold : ∀ a u, g' a = some u → a ≠ p → g4 a = some u := fun a u e ne => by
    have m3 : a ≠ q3 := fun z => by
      have := k2 a u e ne
      rw [z, hq3] at this; cases this
    exact k4 _ _ (k3 _ _ e ne) m3
  have el : List.lookup "leading" [("ask_words", D.ref q1), ("say_words", D.ref q2), ("leading", D.ref q3)] = some (.ref q3) := rfl
  simp
  rw [s_sSeq]; simp [b4, el]
  refine call_of ⟨doors, asks, says, rooms⟩ ⟨⟨_, _, _, _, kvs, rfl, by simpa using h4, by simpa using h1', by simpa using h2', by simp [a4], ek⟩, w4⟩ ?_ ?_
  rotate_left
  · rintro z g5 ⟨rfl, n, en, rfl⟩
    exact he _ _ ⟨kold, _, n, by simp [badM, hbad, en], rfl⟩
  rintro r g5 ⟨rfl, rfl, ewd⟩
  obtain ⟨hdl, hdn, hdo⟩ := wrongDoor_none ewd
  rw [s_sSeq]; simp [h4]
  intro q4 hq4
  have hp4 : p ≠ q4 := fun z => by rw [z, hq4] at b4; cases b4
  simp [G.upd_ne hp4, b4, putF]
  generalize hg5 : (g5.upd q4 (O.lst (List.map dr doors))).upd p (O.ins "Machine" [("ask_words", D.ref q1), ("say_words", D.ref q2), ("leading", D.ref q3), ("all_doors", D.ref q4)]) = g6
  have kk : ∀ a u, g5 a = some u → a ≠ p → g6 a = some u := hg5 ▸ keep_new (fun a u e _ => e) hq4
  have b6 : g6 p = some (.ins "Machine" [("ask_words", .ref q1), ("say_words", .ref q2), ("leading", .ref q3), ("all_doors", .ref q4)]) := by rw [← hg5, G.upd_same]
  have c4 : g6 q4 = some (.lst (Ds doors)) := by rw [← hg5, G.upd_ne (Ne.symm hp4), G.upd_same]
  have h4 := hg5 ▸ look_lst (o := .lst (Ds doors)) (fs' := [("ask_words", .ref q1), ("say_words", .ref q2), ("leading", .ref q3), ("all_doors", .ref q4)]) h4 b4 hq4
  have h3 := hg5 ▸ look_lst (o := .lst (Ds doors)) (fs' := [("ask_words", .ref q1), ("say_words", .ref q2), ("leading", .ref q3), ("all_doors", .ref q4)]) h3 b4 hq4
  have c3 : g6 q3 = some (.dic false kvs) := kk _ _ a4 (Ne.symm hp3)
  have c1 : g6 q1 = some (.lst (T asks)) := by
    have m1 : q1 ≠ q3 := fun z => by rw [z, a3] at a1; cases a1
    exact kk _ _ (k4 _ _ a1 m1) (Ne.symm hp1)
  have c2 : g6 q2 = some (.lst (T says)) := by
    have m2 : q2 ≠ q3 := fun z => by rw [z, a3] at a2; cases a2
    exact kk _ _ (k4 _ _ a2 m2) (Ne.symm hp2)
  have hp3' : g3 p ≠ none := by rw [b3]; intro z; cases z
  -- the doors, each to its room
  have hrow : ∀ w ∈ rooms, ∃ q, lookK kvs (.str w) = some (.ref q) ∧ g6 q = some (.lst []) ∧ g3 q = none ∧ q ≠ q4 ∧ ∀ v ∈ rooms, lookK kvs (.str v) = some (.ref q) → v = w := fun w hw => by
    obtain ⟨q, e6, e7, e8, e9⟩ := hv w hw
    have n5 : q ≠ p := fun z => hp3' (z ▸ e8)
    have n6 : q ≠ q4 := fun z => by rw [z, hq4] at e7; cases e7
    exact ⟨q, e6, kk _ _ e7 n5, e8, n6, e9⟩
  clear hv
  have np : ∀ w ∈ rooms, lookK kvs (.str w) ≠ some (.ref p) := fun w hw z => by
    obtain ⟨q, e8, _, e9, _⟩ := hrow w hw
    rw [z] at e8; cases e8; exact hp3' e9
  have n3 : ∀ w ∈ rooms, lookK kvs (.str w) ≠ some (.ref q3) := fun w hw z => by
    obtain ⟨q, e8, _, e9, _⟩ := hrow w hw
    rw [z] at e8; cases e8; rw [a3] at e9; cases e9
  have nq : ∀ a (xs : List D), g3 a = some (.lst xs) → ∀ w ∈ rooms, lookK kvs (.str w) ≠ some (.ref a) := fun a xs e w hw z => by
    obtain ⟨q, e8, _, e9, _⟩ := hrow w hw
    rw [z] at e8; cases e8; rw [e] at e9; cases e9
  have kl6 : ∀ a (xs : List D), g3 a = some (.lst xs) → g6 a = some (.lst xs) := fun a xs e => by
    have m1 : a ≠ q3 := fun z => by rw [z, a3] at e; cases e
    have m2 : a ≠ p := fun z => by rw [z, b3] at e; cases e
    exact kk _ _ (k4 _ _ e m1) m2
  rw [s_sSeq]; simp [h4]
  refine for_ind (fun rest ψ g7 => ∃ (done cs : List Dr) (s6 : Option Sl), doors = done ++ cs ∧ rest = Ds cs ∧ (∀ w ∈ rooms, ∃ q, lookK kvs (.str w) = some (.ref q) ∧ g7 q = some (.lst (Ds (outOf done w)))) ∧ (∀ a u, g6 a = some u → (∀ w ∈ rooms, lookK kvs (.str w) ≠ some (.ref a)) → g7 a = some u) ∧
    ψ = [some (.d (.ref p)), some s1, some s2, some s3, some s4, s5, s6, none]) ?_ ?_ _ _ _ ⟨[], doors, _, rfl, rfl, fun w hw => let ⟨q, e6, e7, _⟩ := hrow w hw; ⟨q, e6, e7⟩, fun _ _ e _ => e, rfl⟩
  · rintro x xs ψ g7 K ⟨done, cs, s6, e6, e7, hv, k7, rfl⟩ hK
    cases cs with
    | nil => cases e7
    | cons d cs =>
      obtain ⟨rfl, rfl⟩ := List.cons.inj e7
      have hd : d ∈ doors := e6 ▸ List.mem_append_right _ (by simp)
      obtain ⟨hr, ho, _⟩ := okDoor_in (hdo d hd)
      have b7 := k7 p _ b6 np
      have c7 := k7 q3 _ c3 n3
      obtain ⟨q, e8, e9⟩ := hv d.r hr
      have el : List.lookup "leading" [("ask_words", D.ref q1), ("say_words", D.ref q2), ("leading", D.ref q3), ("all_doors", D.ref q4)] = some (.ref q3) := rfl
      have hlo : (outOf done d.r).length < most := by
        have h7 := List.length_filter_le (fun d' => decide (d'.r = d.r)) done
        have : done.length ≤ doors.length := by rw [e6]; simp
        unfold outOf; omega
      simp [b7, el, c7, e8, e9, hlo]
      have lone : ∀ w ∈ rooms, lookK kvs (.str w) = some (.ref q) → w = d.r := fun w hw z => by
        obtain ⟨q', e10, _, _, _, e11⟩ := hrow d.r hr
        rw [e8] at e10; cases e10
        exact e11 w hw z
      have qne : ∀ w ∈ rooms, w ≠ d.r → ∀ q', lookK kvs (.str w) = some (.ref q') → q' ≠ q := fun w hw hne q' e z => hne (lone w hw (z ▸ e))
      refine now ⟨?_, hK _ _ ⟨done ++ [d], cs, _, by simp [e6], rfl, fun w hw => ?_, fun a u e hn => ?_, rfl⟩⟩
      · exact look_kept h40 fun a e => by
          have n : a ≠ q := fun z => by
            obtain ⟨q', e10, _, e11, _⟩ := hrow d.r hr
            rw [e8] at e10; cases e10
            rw [z, e11] at e; cases e
          rw [G.upd_ne n]
          exact k7 a _ (kl6 _ _ e) (nq _ _ e)
      · by_cases hwr : w = d.r
        · subst hwr
          exact ⟨q, e8, by rw [G.upd_same]; simp [outOf, Ds]⟩
        · obtain ⟨q', e10, e11⟩ := hv w hw
          refine ⟨q', e10, ?_⟩
          rw [G.upd_ne (qne w hw hwr q' e10), e11]
          simp only [outOf, List.filter_append]; simp [show ¬ d.r = w from fun z => hwr z.symm]
      · rw [G.upd_ne fun z => hn d.r hr (by rw [z]; exact e8)]
        exact k7 a u e hn
  rintro ψ g7 ⟨done, cs, s6, e6, e7, hv, k7, rfl⟩
  have hcs : cs = [] := by
    cases cs with
    | nil => rfl
    | cons w cs => cases e7
  subst hcs
  rw [List.append_nil] at e6
  subst e6
  have h3 : lookS g7 s3 = some (.o (.lst (T rooms))) := look_kept h30 fun a e => k7 a _ (kl6 _ _ e) (nq _ _ e)
  have b7 := k7 p _ b6 np
  have c7 := k7 q3 _ c3 n3
  have nq4 : ∀ w ∈ rooms, lookK kvs (.str w) ≠ some (.ref q4) := fun w hw z => by
    obtain ⟨q, e8, _, _, e9, _⟩ := hrow w hw
    rw [z] at e8; cases e8; exact e9 rfl
  have hlead : LeadAt g7 q3 rooms doors := ⟨kvs, c7, ek, hv⟩
  have kall : ∀ a u, g' a = some u → a ≠ p → g7 a = some u := fun a u e ne => by
    have e3 := k3 a u e ne
    have m3 : a ≠ q3 := fun z => by
      have := k2 a u e ne
      rw [z, hq3] at this; cases this
    refine k7 a u (kk _ _ (k4 _ _ e3 m3) ne) fun w hw z => ?_
    obtain ⟨q, e8, _, e9, _⟩ := hrow w hw
    rw [z] at e8; cases e8; rw [e3] at e9; cases e9
  simp
  simp [h3]
  refine for_ind (fun rest ψ g8 => ∃ (done cs : List (List Nat)) (s5 s7 : Option Sl), rooms = done ++ cs ∧ rest = numbered done.length (T cs) ∧ roundAt doors 0 rooms = roundAt doors done.length cs ∧ g8 = g7 ∧ ψ = [some (.d (.ref p)), some s1, some s2, some s3, some s4, s5, s6, s7]) ?_ ?_ _ _ _ ⟨[], rooms, _, _, rfl, rfl, rfl, rfl, rfl⟩
  · rintro x xs ψ g8 K ⟨done, cs, s5, s7, e6, e7, e8, rfl, rfl⟩ hK
    cases cs with
    | nil => cases e7
    | cons w cs =>
      obtain ⟨rfl, rfl⟩ := List.cons.inj e7
      have hw : w ∈ rooms := e6 ▸ List.mem_append_right _ (by simp)
      have hin : IsIns g8 p "Machine" "comes_round" := by unfold IsIns; rw [b7]; exact ⟨rfl, rfl⟩
      simp [hin]
      refine call_of ⟨p, w, q3, rooms, doors⟩ ⟨rfl, ⟨_, b7, rfl⟩, hlead, hw, fun d hd => (okDoor_in (hdo d hd)).2.1, l3, w4⟩ ?_
      rintro r g9 ⟨rfl, b, rfl, hb⟩
      simp
      cases b with
      | true =>
        simp
        refine he _ _ ⟨kall, wStill, done.length, ?_, rfl⟩
        have e9 : roundAt doors 0 rooms = some done.length := e8.trans ((round_cons _ _ _ _).1 (hb.mp rfl))
        show badM asks says rooms doors = _
        unfold badM
        rw [hbad, show wrongDoor asks says rooms doors = none from ewd, e9]
      | false =>
        simp
        refine now ⟨h3, hK _ _ ⟨done ++ [w], cs, _, _, by simp [e6], by simp, ?_, rfl, rfl⟩⟩
        rw [e8, (round_cons _ _ _ _).2 (fun z => by have := hb.mpr z; cases this)]; simp
  · rintro ψ g8 ⟨done, cs, s5, s7, e6, e7, e8, rfl, rfl⟩
    have hcs : cs = [] := by
      cases cs with
      | nil => rfl
      | cons w cs => cases e7
    subst hcs
    simp
    refine ret_now (hq _ _ ⟨rfl, ?_, ⟨q1, q2, q3, q4, b7, k7 _ _ c1 (nq _ _ a1), k7 _ _ c2 (nq _ _ a2), k7 _ _ c4 nq4, hlead⟩, kall⟩)
    show badM asks says rooms doors = _
    unfold badM
    rw [hbad, show wrongDoor asks says rooms doors = none from ewd, e8]; rfl
end Pd
set_option linter.all false
set_option maxRecDepth 10000
namespace Pd
/-! what a machine tells -/
theorem MachD.keep {g g' : G} {p : Nat} {m : Mch} (h : MachD g p m) (k : ∀ a u, g a = some u → g' a = some u) : MachD g' p m := by
  obtain ⟨q1, q2, q3, q4, e1, e2, e3, e4, kvs, e5, e6, e7⟩ := h
  exact ⟨q1, q2, q3, q4, k _ _ e1, k _ _ e2, k _ _ e3, k _ _ e4, kvs, k _ _ e5, e6, fun w hw => let ⟨a, x, y⟩ := e7 w hw; ⟨a, x, k _ _ y⟩⟩
theorem MachD.ins {g : G} {p : Nat} {m : Mch} {f : String} (h : MachD g p m) (hf : List.lookup f [("ask_words", D.non), ("say_words", D.non), ("leading", D.non), ("all_doors", D.non)] = none) : IsIns g p "Machine" f := by
  obtain ⟨q1, q2, q3, q4, e1, _⟩ := h
  unfold IsIns; rw [e1]
  refine ⟨rfl, ?_⟩
  simp only [List.lookup] at hf ⊢
  repeat' split
  all_goals simp_all
structure Ma where
  p : Nat
  m : Mch
def d_asksD : Sg Ma := ⟨fun x ss g => ss = [.d (.ref x.p)] ∧ MachD g x.p x.m, fun x g r g' => g' = g ∧ r = .own (.lst (T x.m.asks)), fun _ _ _ _ => False⟩
def d_saysD : Sg Ma := ⟨fun x ss g => ss = [.d (.ref x.p)] ∧ MachD g x.p x.m, fun x g r g' => g' = g ∧ r = .own (.lst (T x.m.says)), fun _ _ _ _ => False⟩
theorem k_asksD : Keeps d_asksD.wp b_Machine_asks 1 := by
  rintro ss g E Q ⟨x, ⟨rfl, q1, q2, q3, q4, e1, e2, e3, e4, _⟩, hq, _⟩
  simp [b_Machine_asks, begin_, e1, lk4_1, e2]
  exact ret_now (hq _ _ ⟨rfl, rfl⟩)
theorem k_saysD : Keeps d_saysD.wp b_Machine_says 1 := by
  rintro ss g E Q ⟨x, ⟨rfl, q1, q2, q3, q4, e1, e2, e3, e4, _⟩, hq, _⟩
  simp [b_Machine_says, begin_, e1, lk4_2, e3]
  exact ret_now (hq _ _ ⟨rfl, rfl⟩)
end Pd
set_option Elab.async false
set_option linter.all false
namespace Pd
/-- _law_anew(pen) -/
def b__law_anew : WS :=
  (sSeq (sSetIx putIx (eVar 0) (eC (.int 2)) (eC (.int 0))) (sRet (eVar 0)))
/-- _law_still_on(doors, rooms) -/
def b__law_still_on : WS :=
  (sSeq (sSet 2 (eUn oList (eVar 1))) (sSeq (sSet 3 (eC (.int 0))) (sSeq (sWhile (tV (eBin oLt (eVar 3) (eUn oLen (eVar 2)))) (sSeq (sFor (iIt (eVar 0)) (gTup [(gName 4), (gName 5), (gName 6)]) (sIf (tAnd (tV (eBin oEq (eVar 4) (eBin oIx (eVar 2) (eVar 3)))) (tAnd (tV (eBin oEq (eVar 5) (eTup (dCons (eC (.str [115, 116, 105, 108, 108])) dNil)))) (tV (eBin oNin (eVar 6) (eVar 2))))) (sE (eMut mAppend (eVar 2) (dCons (eVar 6) dNil))) sNx)) (sSet 3 (eBin oAdd (eVar 3) (eC (.int 1)))))) (sRet (eVar 2)))))
/-- _law_put(doors, door) -/
def b__law_put : WS :=
  (sIf (tV (eBin oNin (eVar 1) (eVar 0))) (sE (eMut mAppend (eVar 0) (dCons (eVar 1) dNil))) sNx)
/-- _law_draw_doors(pen, asks, says, rooms, full) -/
def b__law_draw_doors (φ__law_take φ__law_put : SpD) : WS :=
  (sSeq (sSet 5 (eLst dNil)) (sSeq (sSet 6 (eCall φ__law_take [true, false] (aCons (eVar 0) (aCons (eC (.int 2)) aNil)))) (sSeq (sFor (iEnum (eVar 3)) (gTup [(gName 7), (gName 8)]) (sSeq (sFor (iRange (eBin oIx (eLst (dCons (eC (.int 0)) (dCons (eC (.int 1)) (dCons (eC (.int 1)) (dCons (eC (.int 2)) dNil))))) (eCall φ__law_take [true, false] (aCons (eVar 0) (aCons (eC (.int 4)) aNil))))) (gName 9) (sSeq (sSet 10 (eTup (dCons (eC (.str [115, 97, 121])) (dCons (eBin oIx (eVar 2) (eCall φ__law_take [true, false] (aCons (eVar 0) (aCons (eUn oLen (eVar 2)) aNil)))) dNil)))) (sE (eCall φ__law_put [true, true] (aCons (eVar 5) (aCons (eTup (dCons (eVar 8) (dCons (eVar 10) (dCons (eBin oIx (eVar 3) (eCall φ__law_take [true, false] (aCons (eVar 0) (aCons (eUn oLen (eVar 3)) aNil)))) dNil)))) aNil)))))) (sSeq (sFor (iIt (eVar 1)) (gName 11) (sFor (iRange (eBin oIx (eLst (dCons (eVar 4) (dCons (eC (.int 1)) (dCons (eC (.int 1)) (dCons (eC (.int 2)) dNil))))) (eCall φ__law_take [true, false] (aCons (eVar 0) (aCons (eC (.int 4)) aNil))))) (gName 9) (sE (eCall φ__law_put [true, true] (aCons (eVar 5) (aCons (eTup (dCons (eVar 8) (dCons (eTup (dCons (eC (.str [97, 115, 107])) (dCons (eVar 11) dNil))) (dCons (eBin oIx (eVar 3) (eCall φ__law_take [true, false] (aCons (eVar 0) (aCons (eUn oLen (eVar 3)) aNil)))) dNil)))) aNil)))))) (sSeq (sSet 12 (eBin oIx (eLst (dCons (eCut (eVar 3) (some (eBin oAdd (eVar 7) (eC (.int 1)))) none) (dCons (eCut (eVar 3) none (some (eVar 7))) dNil))) (eVar 6))) (sIf (tAnd (tV (eBin oNe (eVar 12) (eLst dNil))) (tV (eBin oEq (eCall φ__law_take [true, false] (aCons (eVar 0) (aCons (eC (.int 3)) aNil))) (eC (.int 0))))) (sE (eCall φ__law_put [true, true] (aCons (eVar 5) (aCons (eTup (dCons (eVar 8) (dCons (eTup (dCons (eC (.str [115, 116, 105, 108, 108])) dNil)) (dCons (eBin oIx (eVar 12) (eCall φ__law_take [true, false] (aCons (eVar 0) (aCons (eUn oLen (eVar 12)) aNil)))) dNil)))) aNil)))) sNx))))) (sRet (eVar 5)))))
/-- _law_model(pen, most, full) -/
def b__law_model (φ__law_anew φ__law_names φ__law_take φ__law_draw_doors : SpD) : WS :=
  (sSeq (sE (eCall φ__law_anew [true] (aCons (eVar 0) aNil))) (sSeq (sSet 3 (eCall φ__law_names [true, false] (aCons (eVar 0) (aCons (eC (.int 8)) aNil)))) (sSeq (sSet 4 (eCut (eVar 3) none (some (eBin oAdd (eC (.int 1)) (eBin oIx (eLst (dCons (eC (.int 0)) (dCons (eC (.int 1)) (dCons (eC (.int 1)) (dCons (eC (.int 2)) (dCons (eC (.int 2)) (dCons (eC (.int 3)) dNil))))))) (eCall φ__law_take [true, false] (aCons (eVar 0) (aCons (eC (.int 6)) aNil)))))))) (sSeq (sSet 5 (eCut (eVar 3) (some (eC (.int 4))) (some (eBin oAdd (eC (.int 5)) (eBin oIx (eLst (dCons (eC (.int 0)) (dCons (eC (.int 1)) (dCons (eC (.int 1)) (dCons (eC (.int 2)) (dCons (eC (.int 2)) (dCons (eC (.int 3)) dNil))))))) (eCall φ__law_take [true, false] (aCons (eVar 0) (aCons (eC (.int 6)) aNil)))))))) (sSeq (sSet 6 (eCall φ__law_names [true, false] (aCons (eVar 0) (aCons (eBin oAdd (eC (.int 1)) (eCall φ__law_take [true, false] (aCons (eVar 0) (aCons (eVar 1) aNil)))) aNil)))) (sSeq (sSet 7 (eCall φ__law_draw_doors [true, false, false, false, true] (aCons (eVar 0) (aCons (eVar 4) (aCons (eVar 5) (aCons (eVar 6) (aCons (eVar 2) aNil))))))) (sRet (eTup (dCons (eVar 4) (dCons (eVar 5) (dCons (eVar 6) (dCons (eVar 7) dNil))))))))))))
end Pd
set_option linter.all false
set_option maxRecDepth 10000
namespace Pd
/-! what is drawn from the pen: all else that stood stays -/
structure Fr (g0 g : G) (a : Nat) : Prop where
  pen : Pen g a
  fr : ∀ b u, g0 b = some u → b ≠ a → g b = some u
theorem Pen.ne_T {g : G} {a : Nat} (h : Pen g a) {xs : List (List Nat)} : g a ≠ some (.lst (T xs)) := fun z => by
  obtain ⟨c, at_, v, cs, _, e, _⟩ := h
  rw [e] at z
  cases xs with
  | nil => cases z
  | cons => cases z
theorem Pen.ne_D {g : G} {a : Nat} (h : Pen g a) {xs : List Dr} : g a ≠ some (.lst (Ds xs)) := fun z => by
  obtain ⟨c, at_, v, cs, _, e, _⟩ := h
  rw [e] at z
  cases xs with
  | nil => cases z
  | cons => cases z
theorem Fr.refl {g : G} {a : Nat} (h : Pen g a) : Fr g g a := ⟨h, fun _ _ e _ => e⟩
theorem Fr.take {g0 g g' : G} {a : Nat} (h : Fr g0 g a) (p : Pen g' a) (k : ∀ b, b ≠ a → g' b = g b) : Fr g0 g' a := ⟨p, fun b u e n => by rw [k b n]; exact h.fr b u e n⟩
theorem Fr.trans {g0 g g' : G} {a : Nat} (h : Fr g0 g a) (h' : Fr g g' a) : Fr g0 g' a := ⟨h'.pen, fun b u e n => h'.fr b u (h.fr b u e n) n⟩
theorem Fr.free {g0 g : G} {a p : Nat} (h : Fr g0 g a) (e : g p = none) : g0 p = none := by
  cases z : g0 p with
  | none => rfl
  | some u =>
    by_cases n : p = a
    · obtain ⟨c, at_, v, cs, _, e1, _⟩ := h.pen
      rw [n, e1] at e; cases e
    · have := h.fr p u z n
      rw [e] at this; cases this
theorem Pen.keep {g g' : G} {a : Nat} (h : Pen g a) (k : ∀ b u, g b = some u → g' b = some u) : Pen g' a := by
  obtain ⟨c, at_, v, cs, n, e, h0, e2⟩ := h
  exact ⟨c, at_, v, cs, n, k _ _ e, h0, k _ _ e2⟩
theorem Fr.grow {g0 g g' : G} {a : Nat} (h : Fr g0 g a) (k : ∀ b u, g b = some u → g' b = some u) : Fr g0 g' a := ⟨h.pen.keep k, fun b u e n => k _ _ (h.fr b u e n)⟩
theorem Fr.lookT {g0 g : G} {a : Nat} {s : Sl} {xs : List (List Nat)} (h : Fr g0 g a) (p0 : Pen g0 a) (e : lookS g0 s = some (.o (.lst (T xs)))) : lookS g s = some (.o (.lst (T xs))) :=
  look_kept e fun b e => h.fr b _ e fun z => p0.ne_T (z ▸ e)
theorem Fr.T {g0 g : G} {a b : Nat} {xs : List (List Nat)} (h : Fr g0 g a) (p0 : Pen g0 a) (e : g0 b = some (.lst (T xs))) : g b = some (.lst (Pd.T xs)) := h.fr b _ e fun z => p0.ne_T (z ▸ e)
theorem Fr.D {g0 g : G} {a b : Nat} {xs : List Dr} (h : Fr g0 g a) (p0 : Pen g0 a) (e : g0 b = some (.lst (Ds xs))) : g b = some (.lst (Ds xs)) := h.fr b _ e fun z => p0.ne_D (z ▸ e)
def d_anew : Sg Nat := ⟨fun a ss g => ss = [.d (.ref a)] ∧ Pen g a, fun a g r g' => r = .d (.ref a) ∧ Pen g' a ∧ ∀ b, b ≠ a → g' b = g b, fun _ _ _ _ => False⟩
theorem k_anew : Keeps d_anew.wp b__law_anew 1 := by
  rintro ss g E Q ⟨a, ⟨rfl, c, at_, v, cs, n, e1, h0, e2⟩, hq, _⟩
  simp [b__law_anew, begin_]
  rw [s_sSeq]; simp [e1]
  refine ret_now (hq _ _ ⟨rfl, ⟨c, at_, 0, cs, n, G.upd_same, h0, by rw [G.upd_ne (Ne.symm n), e2]⟩, fun b hb => G.upd_ne hb⟩)
/-- take, with what stays -/
theorem takeF {g0 g : G} {a : Nat} {n : Int} {E : X → G → Prop} {Q : R → G → Prop} (hf : Fr g0 g a) (h0 : 0 < n) (h1 : n < 1073741824) (k : ∀ (x : Int) (g' : G), 0 ≤ x → x < n → Fr g0 g' a → (∀ b, b ≠ a → g' b = g b) → Q (.d (.int x)) g') : d_take.wp [.d (.ref a), .d (.int n)] g E Q :=
  take7 hf.pen h0 h1 fun x g' b0 b1 hp hb => k x g' b0 b1 (hf.take hp hb) hb
def put (ds : List Dr) (d : Dr) : List Dr := if d ∈ ds then ds else ds ++ [d]
structure Pt where
  p : Nat
  ds : List Dr
  d : Dr
def d_put : Sg Pt := ⟨fun x ss g => ss = [.d (.ref x.p), .d (dr x.d)] ∧ g x.p = some (.lst (Ds x.ds)) ∧ x.ds.length ≤ 4000, fun x g r g' => r = .d .non ∧ g' x.p = some (.lst (Ds (put x.ds x.d))) ∧ ∀ b, b ≠ x.p → g' b = g b, fun _ _ _ _ => False⟩
theorem k_put : Keeps d_put.wp b__law_put 2 := by
  rintro ss g E Q ⟨⟨p, ds, d⟩, ⟨rfl, e1, hl⟩, hq, _⟩
  simp only at e1 hl
  have h8 := most_is
  have hl' : ds.length < most := by omega
  simp [b__law_put, begin_, e1]
  by_cases c : d ∈ ds
  · simp [c]
    exact ret_now (hq _ _ ⟨rfl, by simp [put, c, e1], fun _ _ => rfl⟩)
  · simp [c, e1, hl']
    refine ret_now (hq _ _ ⟨rfl, by rw [G.upd_same]; simp [put, c, Ds], fun b hb => G.upd_ne hb⟩)
/-! doors that are drawn -/
/-- a list of doors in a slot: its own, or one with doors in it that g0 did not hold -/
def LS (g0 g : G) (s : Sl) (ds : List Dr) : Prop := s = .own (.lst (Ds ds)) ∨ ∃ p, s = .d (.ref p) ∧ g p = some (.lst (Ds ds)) ∧ g0 p = none ∧ ds ≠ []
theorem LS.take {g0 g g' : G} {s : Sl} {ds : List Dr} {a : Nat} (h : LS g0 g s ds) (hp : Pen g a) (k : ∀ b, b ≠ a → g' b = g b) : LS g0 g' s ds := by
  rcases h with rfl | ⟨p, rfl, e, n⟩
  · exact .inl rfl
  · exact .inr ⟨p, rfl, by rw [k p fun z => hp.ne_D (z ▸ e)]; exact e, n⟩
theorem LS.grow {g0 g g' : G} {s : Sl} {ds : List Dr} (h : LS g0 g s ds) (k : ∀ b u, g b = some u → g' b = some u) : LS g0 g' s ds := by
  rcases h with rfl | ⟨p, rfl, e, n⟩
  · exact .inl rfl
  · exact .inr ⟨p, rfl, k _ _ e, n⟩
theorem Pen.off {g g' : G} {a p : Nat} (h : Pen g a) (h1 : a ≠ p) (h2 : ∀ cs : List Int, g p ≠ some (.lst (cs.map D.int))) (k : ∀ b, b ≠ p → g' b = g b) : Pen g' a := by
  obtain ⟨c, at_, v, cs, n, e, h0, e2⟩ := h
  have hc : c ≠ p := fun z => h2 cs (z ▸ e2)
  exact ⟨c, at_, v, cs, n, by rw [k a h1]; exact e, h0, by rw [k c hc]; exact e2⟩
theorem Ds_ne_ints {ds : List Dr} (h : ds ≠ []) (cs : List Int) : (Ds ds) ≠ cs.map D.int := fun z => by
  cases ds with
  | nil => exact h rfl
  | cons d ds =>
    cases cs with
    | nil => cases z
    | cons c cs => cases z
theorem Fr.off {g0 g g' : G} {a p : Nat} (h : Fr g0 g a) (n : g0 p = none) (h2 : ∀ cs : List Int, g p ≠ some (.lst (cs.map D.int))) (h1 : a ≠ p) (k : ∀ b, b ≠ p → g' b = g b) : Fr g0 g' a :=
  ⟨h.pen.off h1 h2 k, fun b u e nb => by rw [k b fun z => by rw [z, n] at e; cases e]; exact h.fr b u e nb⟩
theorem Fr.offN {g0 g g' : G} {a p : Nat} {o : O} (h : Fr g0 g a) (n : g p = none) (k : ∀ b, b ≠ p → g' b = (g.upd p o) b) : Fr g0 g' a := by
  have k2 : ∀ b, b ≠ p → g' b = g b := fun b hb => by rw [k b hb, G.upd_ne hb]
  refine h.off (h.free n) (fun cs z => by rw [n] at z; cases z) (fun z => ?_) k2
  obtain ⟨c, at_, v, cs, _, e, _⟩ := h.pen
  rw [z, n] at e; cases e
theorem toDS_LS {g0 g : G} {s : Sl} {ds : List Dr} {a i : Nat} {ψ : Psi} {k : D → Psi → G → Prop} (h : LS g0 g s ds) (hf : Fr g0 g a) (hi : ψ[i]? = some (some s))
    (hk : ∀ p g', g0 p = none → g' p = some (.lst (Ds ds)) → (∀ b u, g b = some u → g' b = some u) → (∀ g2, (∀ b, b ≠ p → g2 b = g' b) → Fr g0 g2 a) → k (.ref p) (ψ.set i (some (.d (.ref p)))) g') : toDS (some (some s)) i ψ g k := by
  rcases h with rfl | ⟨p, rfl, e, n, ne⟩
  · simp
    intro p hp
    exact hk p _ (hf.free hp) G.upd_same (up_new (fun _ _ e => e) hp) fun g2 h2 => hf.offN hp h2
  · simp
    have e2 : ψ.set i (some (.d (.ref p))) = ψ := by
      refine List.ext_getElem? fun j => ?_
      rw [List.getElem?_set]
      split
      · rename_i z; subst z
        split
        · exact hi.symm
        · rename_i hl; rw [List.getElem?_eq_none (Nat.le_of_not_lt hl)] at hi; cases hi
      · rfl
    have := hk p g n e (fun _ _ e => e) fun g2 h2 => hf.off n (fun cs z => by rw [e] at z; exact Ds_ne_ints ne cs (O.lst.inj (Option.some.inj z))) (fun z => hf.pen.ne_D (z ▸ e)) h2
    rw [e2] at this; exact this
theorem put_ne (ds : List Dr) (d : Dr) : put ds d ≠ [] := by
  unfold put
  split
  · rename_i h; exact fun z => by rw [z] at h; cases h
  · simp
/-- room by place -/
def At (rooms : List (List Nat)) (i : Nat) (r : List Nat) : Prop := rooms[i]? = some r
structure Dz (asks says rooms : List (List Nat)) (down : Bool) (ds : List Dr) : Prop where
  nd : ds.Nodup
  ok : ∀ d ∈ ds, okDoor asks says rooms d = true
  two : ∀ d ∈ ds, Two d.s
  st : ∀ d ∈ ds, d.s = [wStill] → ∃ i j, At rooms i d.r ∧ At rooms j d.o ∧ if down = true then j < i else i < j
theorem Dz.put {asks says rooms : List (List Nat)} {down : Bool} {ds : List Dr} (h : Dz asks says rooms down ds) {d : Dr} (h1 : okDoor asks says rooms d = true) (h2 : Two d.s) (h3 : d.s = [wStill] → ∃ i j, At rooms i d.r ∧ At rooms j d.o ∧ if down = true then j < i else i < j) : Dz asks says rooms down (put ds d) := by
  unfold Pd.put
  split
  · exact h
  · rename_i hn
    refine ⟨List.nodup_append.mpr ⟨h.nd, by simp, fun a ha b hb => by simp at hb; rw [hb]; exact fun z => hn (z ▸ ha)⟩, fun x hx => ?_, fun x hx => ?_, fun x hx => ?_⟩
    · rcases List.mem_append.mp hx with z | z
      · exact h.ok x z
      · rw [List.mem_singleton.mp z]; exact h1
    · rcases List.mem_append.mp hx with z | z
      · exact h.two x z
      · rw [List.mem_singleton.mp z]; exact h2
    · rcases List.mem_append.mp hx with z | z
      · exact h.st x z
      · rw [List.mem_singleton.mp z]; exact h3
theorem put_len (ds : List Dr) (d : Dr) : (put ds d).length ≤ ds.length + 1 := by
  unfold put
  split
  · omega
  · simp
end Pd
set_option linter.all false
set_option maxRecDepth 10000
namespace Pd
structure Dw where
  a : Nat
  asks : List (List Nat)
  says : List (List Nat)
  rooms : List (List Nat)
  full : Int
def rOf : Sl → R
  | .own o => .own o
  | .d y => .d y
  | .bor o => .own o
  | .fz _ => .d .non
def d_draw : Sg Dw := ⟨fun x ss g => (∃ s1 s2 s3, ss = [.d (.ref x.a), s1, s2, s3, .d (.int x.full)] ∧ lookS g s1 = some (.o (.lst (T x.asks))) ∧ lookS g s2 = some (.o (.lst (T x.says))) ∧ lookS g s3 = some (.o (.lst (T x.rooms)))) ∧ Pen g x.a ∧ 0 ≤ x.full ∧ x.full ≤ 2 ∧ x.says ≠ [] ∧
    x.asks.length ≤ 4 ∧ x.says.length ≤ 4 ∧ x.rooms.length ≤ 30,
  fun x g r g' => Fr g g' x.a ∧ ∃ down ds s, r = rOf s ∧ LS g g' s ds ∧ Dz x.asks x.says x.rooms down ds ∧ ds.length ≤ 12 * x.rooms.length, fun _ _ _ _ => False⟩
theorem at_mem {xs : List (List Nat)} {i : Nat} {w : List Nat} (h : At xs i w) : w ∈ xs := List.mem_of_getElem? h
theorem k_draw : Keeps d_draw.wp (b__law_draw_doors d_take.wp d_put.wp) 13 := by
  rintro ss g0 E Q ⟨⟨a, asks, says, rooms, full⟩, ⟨⟨s1, s2, s3, rfl, h1, h2, h3⟩, p0, f0, f1, hsy, la, ls, lr⟩, hq, _⟩
  have h8 := most_is
  simp only at h1 h2 h3 p0 f0 f1 hsy la ls lr
  have hsp := List.length_pos_iff.mpr hsy
  simp [b__law_draw_doors, begin_]
  rw [s_sSeq]; simp
  rw [s_sSeq]; simp
  refine takeF (Fr.refl p0) (by omega) (by omega) fun dn g1 d0 d1 F1 _ => ?_
  obtain ⟨down, hdown⟩ : ∃ down : Bool, dn = if down = true then 1 else 0 := by
    have : dn = 0 ∨ dn = 1 := by omega
    rcases this with h | h
    · exact ⟨false, by simp [h]⟩
    · exact ⟨true, by simp [h]⟩
  simp
  -- one door more
  have putS : ∀ {g : G} {sd : Sl} {ds : List Dr} {ψ : Psi} {r o : List Nat} {s : List (List Nat)} {K : R → Psi → G → Prop} {E : X → Psi → G → Prop}, Fr g0 g a → LS g0 g sd ds → ds.length ≤ 1000 → ψ[5]? = some (some sd) →
      (∀ sd' g', Fr g0 g' a → LS g0 g' sd' (put ds ⟨r, s, o⟩) → K (.d .non) (ψ.set 5 (some sd')) g') →
      toDS (some (some sd)) 5 ψ g fun x ψ g => giveAll [true] [.d (.tup [.str r, .tup (s.map D.str), .str o])] ψ g fun rs ψ g => optQ (lendRs ψ (.d x :: rs)) fun ss => callQ d_put.wp ss g (fun x g' => E x ψ g') fun r g' => K r ψ g' := by
    intro g sd ds ψ r o s K E hF hL hl hi k
    refine toDS_LS hL hF hi fun p g' n e kp off => ?_
    simp
    refine call_of ⟨p, ds, ⟨r, s, o⟩⟩ ⟨rfl, e, by simp; omega⟩ ?_
    rintro z g2 ⟨rfl, e2, hb⟩
    exact k _ _ (off g2 hb) (.inr ⟨p, rfl, e2, n, put_ne _ _⟩)
  have tab : ∀ (f x : Int), 0 ≤ f → f ≤ 2 → 0 ≤ x → x < 4 → ∃ v : Int, atI [D.int f, D.int 1, D.int 1, D.int 2] x = some (.int v) ∧ 0 ≤ v ∧ v ≤ 2 := fun f x a1 a2 b1 b2 => by
    have : x = 0 ∨ x = 1 ∨ x = 2 ∨ x = 3 := by omega
    rcases this with rfl | rfl | rfl | rfl
    · exact ⟨f, by simp, a1, a2⟩
    · exact ⟨1, by simp, by omega, by omega⟩
    · exact ⟨1, by simp, by omega, by omega⟩
    · exact ⟨2, by simp, by omega, by omega⟩
  refine seq_of (fun ψ g => Fr g0 g a ∧ ∃ (sd : Sl) (ds : List Dr) (t7 t8 t9 t10 t11 t12 : Option Sl), LS g0 g sd ds ∧ Dz asks says rooms down ds ∧ ds.length ≤ 12 * rooms.length ∧
    ψ = [some (.d (.ref a)), some s1, some s2, some s3, some (.d (.int full)), some sd, some (.d (.int dn)), t7, t8, t9, t10, t11, t12]) (fun nx hn => ?_) ?_
  · simp [F1.lookT p0 h3]
    refine for_ind (fun rest ψ g => Fr g0 g a ∧ ∃ (done rs : List (List Nat)) (sd : Sl) (ds : List Dr) (t7 t8 t9 t10 t11 t12 : Option Sl), rooms = done ++ rs ∧ rest = numbered done.length (T rs) ∧ LS g0 g sd ds ∧ Dz asks says rooms down ds ∧ ds.length ≤ 12 * done.length ∧
      ψ = [some (.d (.ref a)), some s1, some s2, some s3, some (.d (.int full)), some sd, some (.d (.int dn)), t7, t8, t9, t10, t11, t12]) ?_ ?_ _ _ _ ⟨F1, [], rooms, _, [], _, _, _, _, _, _, rfl, rfl, .inl rfl, ⟨List.nodup_nil, by simp, by simp, by simp⟩, by simp, rfl⟩
    · rintro x xs ψ g2 K ⟨F2, done, rs, sd, ds, t7, t8, t9, t10, t11, t12, er, e5, hL, hD, hl, rfl⟩ hK
      cases rs with
      | nil => cases e5
      | cons room rs =>
        obtain ⟨rfl, rfl⟩ := List.cons.inj e5
        have hroom : room ∈ rooms := er ▸ List.mem_append_right _ (by simp)
        have hrl : done.length < rooms.length := by rw [er]; simp
        have hra : At rooms done.length room := by rw [er]; simp [At]
        have hrp : 0 < rooms.length := by omega
        simp
        -- say doors
        refine seq_of (fun ψ g => Fr g0 g a ∧ ∃ (sd : Sl) (ds : List Dr) (t9 t10 t11 t12 : Option Sl), LS g0 g sd ds ∧ Dz asks says rooms down ds ∧ ds.length ≤ 12 * done.length + 2 ∧
          ψ = [some (.d (.ref a)), some s1, some s2, some s3, some (.d (.int full)), some sd, some (.d (.int dn)), some (.d (.int done.length)), some (.d (.str room)), t9, t10, t11, t12]) (fun nx hn => ?_) ?_
        · simp
          refine takeF F2 (by omega) (by omega) fun x g3 x0 x1 F3 b3 => ?_
          obtain ⟨v, ev, v0, v1⟩ := tab 0 x (by omega) (by omega) x0 x1
          simp [ev]
          refine ⟨by omega, by omega, ?_⟩
          refine for_ind (fun rest ψ g => Fr g0 g a ∧ ∃ (sd : Sl) (ds : List Dr) (t9 t10 t11 t12 : Option Sl), LS g0 g sd ds ∧ Dz asks says rooms down ds ∧ ds.length + rest.length ≤ 12 * done.length + 2 ∧
            ψ = [some (.d (.ref a)), some s1, some s2, some s3, some (.d (.int full)), some sd, some (.d (.int dn)), some (.d (.int done.length)), some (.d (.str room)), t9, t10, t11, t12]) ?_ ?_ _ _ _ ⟨F3, sd, ds, _, _, _, _, hL.take F2.pen b3, hD, by simp; omega, rfl⟩
          · rintro y ys ψ g4 K2 ⟨F4, sd, ds, t9, t10, t11, t12, hL, hD, hl, rfl⟩ hK2
            simp at hl
            simp
            rw [s_sSeq]; simp [F4.lookT p0 h2]
            refine takeF F4 (by omega) (by omega) fun i g5 i0 i1 F5 b5 => ?_
            obtain ⟨hi, e1⟩ := atI_in (xs := says) i0 i1
            simp [F5.lookT p0 h2, e1, F5.lookT p0 h3]
            refine takeF F5 (by omega) (by omega) fun j g6 j0 j1 F6 b6 => ?_
            obtain ⟨hj, e2⟩ := atI_in (xs := rooms) j0 j1
            simp [F6.lookT p0 h3, e2]
            refine putS (s := [wSay, says[i.toNat]]) F6 ((hL.take F4.pen b5).take F5.pen b6) (by omega) rfl fun sd' g7 F7 hL7 => ?_
            simp
            refine now (hK2 _ _ ⟨F7, sd', _, _, _, _, _, hL7, hD.put ?_ (.inr rfl) (fun z => by simp at z), ?_, rfl⟩)
            · simp [okDoor, hroom, isSign]
            · have := put_len ds ⟨room, [wSay, says[i.toNat]], rooms[j.toNat]⟩; omega
          · rintro ψ g4 ⟨F4, sd, ds, t9, t10, t11, t12, hL, hD, hl, rfl⟩
            exact hn _ _ ⟨F4, sd, ds, _, _, _, _, hL, hD, by simpa using hl, rfl⟩
        rintro ψ g3 ⟨F3, sd, ds, t9, t10, t11, t12, hL, hD, hl, rfl⟩
        -- ask doors
        refine seq_of (fun ψ g => Fr g0 g a ∧ ∃ (sd : Sl) (ds : List Dr) (t9 t10 t11 t12 : Option Sl), LS g0 g sd ds ∧ Dz asks says rooms down ds ∧ ds.length ≤ 12 * done.length + 10 ∧
          ψ = [some (.d (.ref a)), some s1, some s2, some s3, some (.d (.int full)), some sd, some (.d (.int dn)), some (.d (.int done.length)), some (.d (.str room)), t9, t10, t11, t12]) (fun nx hn => ?_) ?_
        · simp [F3.lookT p0 h1]
          refine for_ind (fun rest ψ g => Fr g0 g a ∧ ∃ (as : List (List Nat)) (sd : Sl) (ds : List Dr) (t9 t10 t11 t12 : Option Sl), rest = T as ∧ (∀ w ∈ as, w ∈ asks) ∧ LS g0 g sd ds ∧ Dz asks says rooms down ds ∧ ds.length + 2 * rest.length ≤ 12 * done.length + 10 ∧
            ψ = [some (.d (.ref a)), some s1, some s2, some s3, some (.d (.int full)), some sd, some (.d (.int dn)), some (.d (.int done.length)), some (.d (.str room)), t9, t10, t11, t12]) ?_ ?_ _ _ _ ⟨F3, asks, sd, ds, _, _, _, _, rfl, fun _ h => h, hL, hD, by simp; omega, rfl⟩
          · rintro y ys ψ g4 K2 ⟨F4, as, sd, ds, t9, t10, t11, t12, ea, hm, hL, hD, hl, rfl⟩ hK2
            cases as with
            | nil => cases ea
            | cons ask as =>
              obtain ⟨rfl, rfl⟩ := List.cons.inj ea
              have hask := hm ask (by simp)
              simp at hl
              simp
              refine takeF F4 (by omega) (by omega) fun x g5 x0 x1 F5 b5 => ?_
              obtain ⟨v, ev, v0, v1⟩ := tab full x f0 f1 x0 x1
              simp [ev]
              refine ⟨by omega, by omega, ?_⟩
              refine for_ind (fun rest ψ g => Fr g0 g a ∧ ∃ (sd : Sl) (ds : List Dr) (t9 t10 t12 : Option Sl), LS g0 g sd ds ∧ Dz asks says rooms down ds ∧ ds.length + 2 * as.length + rest.length ≤ 12 * done.length + 10 ∧
                ψ = [some (.d (.ref a)), some s1, some s2, some s3, some (.d (.int full)), some sd, some (.d (.int dn)), some (.d (.int done.length)), some (.d (.str room)), t9, t10, some (.d (.str ask)), t12]) ?_ ?_ _ _ _ ⟨F5, sd, ds, _, _, _, hL.take F4.pen b5, hD, by simp; omega, rfl⟩
              · rintro y ys ψ g6 K3 ⟨F6, sd, ds, t9, t10, t12, hL, hD, hl, rfl⟩ hK3
                simp at hl
                simp [F6.lookT p0 h3]
                refine takeF F6 (by omega) (by omega) fun j g7 j0 j1 F7 b7 => ?_
                obtain ⟨hj, e2⟩ := atI_in (xs := rooms) j0 j1
                simp [F7.lookT p0 h3, e2]
                refine putS (s := [wAsk, ask]) F7 (hL.take F6.pen b7) (by omega) rfl fun sd' g8 F8 hL8 => ?_
                simp
                refine now (hK3 _ _ ⟨F8, sd', _, _, _, _, hL8, hD.put ?_ (.inr rfl) (fun z => by simp at z), ?_, rfl⟩)
                · simp [okDoor, hroom, isSign, hask]
                · have := put_len ds ⟨room, [wAsk, ask], rooms[j.toNat]⟩; omega
              · rintro ψ g6 ⟨F6, sd, ds, t9, t10, t12, hL, hD, hl, rfl⟩
                refine now ⟨F6.lookT p0 h1, hK2 _ _ ⟨F6, as, sd, ds, _, _, _, _, rfl, fun w h => hm w (by simp [h]), hL, hD, by simp at hl ⊢; omega, rfl⟩⟩
          · rintro ψ g4 ⟨F4, as, sd, ds, t9, t10, t11, t12, ea, hm, hL, hD, hl, rfl⟩
            exact hn _ _ ⟨F4, sd, ds, _, _, _, _, hL, hD, by simp at hl; omega, rfl⟩
        rintro ψ g4 ⟨F4, sd, ds, t9, t10, t11, t12, hL, hD, hl, rfl⟩
        -- a still door
        rw [s_sSeq]; simp [F4.lookT p0 h3]
        refine ⟨by omega, by omega, fun p hp => ⟨by omega, ?_⟩⟩
        have hc1 : cut (T rooms) (some ((done.length : Int) + 1)) none = T (rooms.drop (done.length + 1)) := by rw [cut_drop _ (by omega), ← List.map_drop]; rfl
        rw [hc1]
        have k5 : ∀ b u, g4 b = some u → (g4.upd p (O.lst (T (rooms.drop (done.length + 1))))) b = some u := up_new (fun _ _ e => e) hp
        have F5 := F4.grow k5
        have hp' : (g4.upd p (O.lst (T (rooms.drop (done.length + 1))))) p = some (.lst (T (rooms.drop (done.length + 1)))) := G.upd_same
        generalize g4.upd p (O.lst (T (rooms.drop (done.length + 1)))) = g5 at k5 F5 hp'
        simp [F5.lookT p0 h3, ← List.map_take]
        intro p2 hp2
        have k6 : ∀ b u, g5 b = some u → (g5.upd p2 (O.lst (T (rooms.take done.length)))) b = some u := up_new (fun _ _ e => e) hp2
        have F6 := F5.grow k6
        have hp2' : (g5.upd p2 (O.lst (T (rooms.take done.length)))) p2 = some (.lst (T (rooms.take done.length))) := G.upd_same
        have hp3 := k6 _ _ hp'
        generalize g5.upd p2 (O.lst (T (rooms.take done.length))) = g6 at k6 F6 hp2' hp3
        have hL6 := (hL.grow k5).grow k6
        obtain ⟨q, L, eq, hq6, hLn, hLL⟩ : ∃ (q : Nat) (L : List (List Nat)), atI [D.ref p, D.ref p2] dn = some (.ref q) ∧ g6 q = some (.lst (T L)) ∧ L.length ≤ 30 ∧ ∀ w ∈ L, ∃ j, At rooms j w ∧ if down = true then j < done.length else done.length < j := by
          cases down with
          | true =>
            simp at hdown
            refine ⟨p2, rooms.take done.length, by rw [hdown]; rfl, hp2', by rw [List.length_take]; omega, fun w hw => ?_⟩
            obtain ⟨j, hj⟩ := List.mem_iff_getElem?.mp hw
            rw [List.getElem?_take] at hj
            split at hj
            · rename_i hlt; exact ⟨j, hj, by simpa using hlt⟩
            · cases hj
          | false =>
            simp at hdown
            refine ⟨p, rooms.drop (done.length + 1), by rw [hdown]; rfl, hp3, by rw [List.length_drop]; omega, fun w hw => ?_⟩
            obtain ⟨j, hj⟩ := List.mem_iff_getElem?.mp hw
            rw [List.getElem?_drop] at hj
            exact ⟨_, hj, by simp; omega⟩
        simp [eq, hq6]
        have done1 : ∀ (sd' : Sl) (ds' : List Dr) (g7 : G) (t9 t10 t11 t12 : Option Sl), Fr g0 g7 a → LS g0 g7 sd' ds' → Dz asks says rooms down ds' → ds'.length ≤ 12 * (done.length + 1) → ∃ g2, G.le g2 g7 ∧ lookS g2 s3 = some (.o (.lst (T rooms))) ∧ K [some (.d (.ref a)), some s1, some s2, some s3, some (.d (.int full)), some sd', some (.d (.int dn)), some (.d (.int done.length)), some (.d (.str room)), t9, t10, t11, t12] g2 := fun sd' ds' g7 u9 u10 u11 u12 F7 hL7 hD7 hl7 =>
          now ⟨F7.lookT p0 h3, hK _ _ ⟨F7, done ++ [room], rs, sd', ds', _, _, _, _, _, _, by simp [er], by simp, hL7, hD7, by simpa using hl7, rfl⟩⟩
        by_cases hLe : L = []
        · simp [hLe]
          exact done1 _ _ _ _ _ _ _ F6 hL6 hD (by omega)
        · simp [hLe]
          have hLp := List.length_pos_iff.mpr hLe
          refine takeF F6 (by omega) (by omega) fun x g7 x0 x1 F7 b7 => ?_
          have nqa : ∀ {g : G}, Pen g a → g q = some (.lst (T L)) → q ≠ a := fun hpn e z => hpn.ne_T (z ▸ e)
          have hq7 : g7 q = some (.lst (T L)) := by rw [b7 q (nqa F6.pen hq6)]; exact hq6
          simp
          split
          · simp [hq7]
            refine takeF F7 (by omega) (by omega) fun y g8 y0 y1 F8 b8 => ?_
            have hq8 : g8 q = some (.lst (T L)) := by rw [b8 q (nqa F7.pen hq7)]; exact hq7
            obtain ⟨hj, e2⟩ := atI_in (xs := L) y0 y1
            simp [hq8, e2]
            have hL8 := (hL6.take F6.pen b7).take F7.pen b8
            refine putS (s := [wStill]) F8 hL8 (by omega) rfl fun sd' g9 F9 hL9 => ?_
            simp
            obtain ⟨j, hj1, hj2⟩ := hLL _ (List.getElem_mem hj)
            refine done1 _ _ _ _ _ _ _ F9 hL9 (hD.put ?_ (.inl rfl) fun _ => ⟨done.length, j, hra, hj1, hj2⟩) ?_
            · simp [okDoor, hroom, isSign, at_mem hj1]
            · have := put_len ds ⟨room, [wStill], L[y.toNat]⟩; omega
          · exact done1 _ _ _ _ _ _ _ F7 (hL6.take F6.pen b7) hD (by omega)
    · rintro ψ g2 ⟨F2, done, rs, sd, ds, t7, t8, t9, t10, t11, t12, er, e5, hL, hD, hl, rfl⟩
      have hcs : rs = [] := by cases rs with | nil => rfl | cons => cases e5
      subst hcs
      rw [List.append_nil] at er
      subst er
      exact hn _ _ ⟨F2, sd, ds, _, _, _, _, _, _, hL, hD, hl, rfl⟩
  · rintro ψ g2 ⟨F2, sd, ds, t7, t8, t9, t10, t11, t12, hL, hD, hl, rfl⟩
    simp
    have fin : ∀ r : R, r = rOf sd → ∃ g3, G.le g3 g2 ∧ Q r g3 := fun r e => ret_now (hq _ _ ⟨F2, down, ds, sd, e, hL, hD, hl⟩)
    rcases hL with rfl | ⟨p, rfl, _⟩
    · simp; exact fin _ rfl
    · simp; exact fin _ rfl
end Pd
set_option linter.all false
set_option maxRecDepth 10000
namespace Pd
/-! a drawn model -/
structure MdOk (m : Mch) (mo : Nat) (down : Bool) : Prop where
  a0 : m.asks ≠ []
  al : m.asks.length ≤ 4
  and : m.asks.Nodup
  av : ∀ w ∈ m.asks, isName w = true
  s0 : m.says ≠ []
  sl : m.says.length ≤ 4
  snd : m.says.Nodup
  sv : ∀ w ∈ m.says, isName w = true ∧ w ∉ m.asks
  r0 : m.rooms ≠ []
  rl : m.rooms.length ≤ mo
  rnd : m.rooms.Nodup
  rv : ∀ w ∈ m.rooms, isName w = true
  dz : Dz m.asks m.says m.rooms down m.doors
  dl : m.doors.length ≤ 12 * m.rooms.length
theorem at_inj {xs : List (List Nat)} (h : xs.Nodup) {i j : Nat} {w : List Nat} (a : At xs i w) (b : At xs j w) : i = j := by
  obtain ⟨h1, e1⟩ := List.getElem?_eq_some_iff.mp a
  obtain ⟨h2, e2⟩ := List.getElem?_eq_some_iff.mp b
  exact (List.getElem_inj h).mp (e1.trans e2.symm)
theorem Dz.reach {asks says rooms : List (List Nat)} {down : Bool} {ds : List Dr} (h : Dz asks says rooms down ds) (nd : rooms.Nodup) {x y : List Nat} (r : Reach ds x y) : ∃ i j, At rooms i x ∧ At rooms j y ∧ if down = true then j < i else i < j := by
  have one : ∀ {x y}, Still ds x y → ∃ i j, At rooms i x ∧ At rooms j y ∧ if down = true then j < i else i < j := fun {x y} ⟨d, hd, e1, e2, e3⟩ => by
    have := h.st d hd e2
    rw [e1, e3] at this; exact this
  induction r with
  | one s => exact one s
  | snoc _ s ih =>
    obtain ⟨i, j, a, b, c⟩ := ih
    obtain ⟨i', j', a', b', c'⟩ := one s
    have := at_inj nd b a'
    subst this
    refine ⟨i, j', a, b', ?_⟩
    split
    · rename_i hd; simp [hd] at c c'; omega
    · rename_i hd; simp [hd] at c c'; omega
theorem Dz.loose {asks says rooms : List (List Nat)} {down : Bool} {ds : List Dr} (h : Dz asks says rooms down ds) (nd : rooms.Nodup) (x : List Nat) : ¬ Reach ds x x := fun r => by
  obtain ⟨i, j, a, b, c⟩ := h.reach nd r
  have := at_inj nd a b
  subst this
  split at c <;> omega
theorem roundAt_none {ds : List Dr} (h : ∀ x, ¬ Reach ds x x) : ∀ (rs : List (List Nat)) (n : Nat), roundAt ds n rs = none
  | [], _ => rfl
  | r :: rs, n => by rw [(round_cons ds n r rs).2 (h r), roundAt_none h rs]
structure Mdl where
  a : Nat
  mo : Nat
  full : Int
structure MdAt (g0 g : G) (r : D) (m : Mch) : Prop where
  ex : ∃ a1 a2 a3 a4, r = .tup [.ref a1, .ref a2, .ref a3, .ref a4] ∧ g a1 = some (.lst (T m.asks)) ∧ g a2 = some (.lst (T m.says)) ∧ g a3 = some (.lst (T m.rooms)) ∧ g a4 = some (.lst (Ds m.doors)) ∧ g0 a1 = none ∧ g0 a2 = none ∧ g0 a3 = none ∧ g0 a4 = none
def d_model : Sg Mdl := ⟨fun x ss g => ss = [.d (.ref x.a), .d (.int x.mo), .d (.int x.full)] ∧ Pen g x.a ∧ 1 ≤ x.mo ∧ x.mo ≤ 26 ∧ 0 ≤ x.full ∧ x.full ≤ 2,
  fun x g r g' => Fr g g' x.a ∧ ∃ y m down, r = .d y ∧ MdAt g g' y m ∧ MdOk m x.mo down, fun _ _ _ _ => False⟩
theorem k_model : Keeps d_model.wp (b__law_model d_anew.wp d_names.wp d_take.wp d_draw.wp) 8 := by
  rintro ss g0 E Q ⟨⟨a, mo, full⟩, ⟨rfl, p0, hmo, hmo2, f0, f1⟩, hq, _⟩
  have h8 := most_is
  simp only at p0 hmo hmo2 f0 f1
  simp [b__law_model, begin_]
  rw [s_sSeq]; simp
  refine call_of a ⟨rfl, p0⟩ ?_
  rintro r g1 ⟨rfl, hp1, hb1⟩
  have F1 := (Fr.refl p0).take hp1 hb1
  rw [s_sSeq]; simp
  refine call_of (a, 8) ⟨rfl, by omega, hp1⟩ ?_
  rintro r g2 ⟨⟨words, rfl, hwl, hwv, hwn⟩, hp2, hb2⟩
  have F2 := F1.take hp2 hb2
  simp
  have tab : ∀ x : Int, 0 ≤ x → x < 6 → ∃ v : Int, atI [D.int 0, D.int 1, D.int 1, D.int 2, D.int 2, D.int 3] x = some (.int v) ∧ 0 ≤ v ∧ v ≤ 3 := fun x b1 b2 => by
    have : x = 0 ∨ x = 1 ∨ x = 2 ∨ x = 3 ∨ x = 4 ∨ x = 5 := by omega
    rcases this with rfl | rfl | rfl | rfl | rfl | rfl
    · exact ⟨0, by simp, by omega, by omega⟩
    · exact ⟨1, by simp, by omega, by omega⟩
    · exact ⟨1, by simp, by omega, by omega⟩
    · exact ⟨2, by simp, by omega, by omega⟩
    · exact ⟨2, by simp, by omega, by omega⟩
    · exact ⟨3, by simp, by omega, by omega⟩
  rw [s_sSeq]; simp
  refine takeF F2 (by omega) (by omega) fun x g3 x0 x1 F3 b3 => ?_
  obtain ⟨v, ev, v0, v1⟩ := tab x x0 x1
  have c1 : -4611686018427387904 ≤ 1 + v ∧ 1 + v < 4611686018427387904 := by omega
  simp [ev, c1]
  rw [show cut (List.map D.str words) none (some (1 + v)) = T (words.take (1 + v).toNat) by rw [cut_take _ (by omega), ← List.map_take]]
  generalize hA : words.take (1 + v).toNat = asks
  rw [s_sSeq]; simp
  refine takeF F3 (by omega) (by omega) fun x' g4 x0' x1' F4 b4 => ?_
  obtain ⟨v', ev', v0', v1'⟩ := tab x' x0' x1'
  have c2 : -4611686018427387904 ≤ 5 + v' ∧ 5 + v' < 4611686018427387904 := by omega
  simp [ev', c2]
  rw [show cut (List.map D.str words) (some 4) (some (5 + v')) = T ((words.take (5 + v').toNat).drop 4) by rw [cut_two _ (by omega) (by omega), ← List.map_take, ← List.map_drop]; rfl]
  generalize hS : (words.take (5 + v').toNat).drop 4 = says
  have A1 : asks.length = (1 + v).toNat := by rw [← hA, List.length_take]; omega
  have A2 : asks.Nodup := hA ▸ hwn.sublist (List.take_sublist _ _)
  have A3 : ∀ w ∈ asks, isName w = true := fun w h => hwv w (List.mem_of_mem_take (hA ▸ h))
  have S1 : says.length = (1 + v').toNat := by rw [← hS, List.length_drop, List.length_take]; omega
  have S2 : says.Nodup := hS ▸ hwn.sublist ((List.drop_sublist _ _).trans (List.take_sublist _ _))
  have S3 : ∀ w ∈ says, isName w = true ∧ w ∉ asks := fun w h => by
    have h1 : w ∈ (words.take (5 + v').toNat).drop 4 := hS ▸ h
    refine ⟨hwv w (List.mem_of_mem_take (List.mem_of_mem_drop h1)), fun z => ?_⟩
    obtain ⟨i, hi⟩ := List.mem_iff_getElem?.mp h1
    obtain ⟨j, hj⟩ := List.mem_iff_getElem?.mp (hA ▸ z : w ∈ words.take (1 + v).toNat)
    rw [List.getElem?_drop, List.getElem?_take] at hi
    rw [List.getElem?_take] at hj
    split at hi
    · split at hj
      · have := at_inj hwn hi hj; omega
      · cases hj
    · cases hi
  have A0 : asks ≠ [] := fun z => by rw [z] at A1; simp at A1; omega
  have S0 : says ≠ [] := fun z => by rw [z] at S1; simp at S1; omega
  clear hA hS
  rw [s_sSeq]; simp
  refine takeF F4 (by omega) (by omega) fun y g5 y0 y1 F5 b5 => ?_
  simp
  refine call_of (a, (1 + y).toNat) ⟨by simp; omega, by omega, F5.pen⟩ ?_
  rintro r g6 ⟨⟨rooms, rfl, hrl, hrv, hrn⟩, hp6, hb6⟩
  have F6 := F5.take hp6 hb6
  simp
  rw [s_sSeq]; simp
  refine call_of ⟨a, asks, says, rooms, full⟩ ⟨⟨_, _, _, rfl, rfl, rfl, rfl⟩, F6.pen, f0, f1, S0, by simp; omega, by simp; omega, by simp; omega⟩ ?_
  rintro r g7 ⟨F7, down, ds, s, rfl, hL, hD, hdl⟩
  have F07 := F6.trans F7
  have R0 : rooms ≠ [] := fun z => by rw [z] at hrl; simp at hrl; omega
  have ok : MdOk ⟨asks, says, rooms, ds⟩ mo down := ⟨A0, by simp; omega, A2, A3, S0, by simp; omega, S2, S3, R0, by simp; omega, hrn, hrv, hD, hdl⟩
  have st : ∀ {g : G} {q a : Nat} {o u : O}, g a = some u → g q = none → g.upd q o a = some u := fun {g q a o u} e hq => by
    rw [G.upd_ne fun z => by rw [z, hq] at e; cases e]; exact e
  have fin : ∀ (b1 b2 b3 b4 : Nat) (g8 : G), (∀ b u, g7 b = some u → g8 b = some u) → g7 b1 = none → g7 b2 = none → g7 b3 = none → g6 b4 = none → g8 b1 = some (.lst (T asks)) → g8 b2 = some (.lst (T says)) → g8 b3 = some (.lst (T rooms)) → g8 b4 = some (.lst (Ds ds)) →
      ∃ g9, G.le g9 g8 ∧ Q (.d (.tup [.ref b1, .ref b2, .ref b3, .ref b4])) g9 := fun b1 b2 b3 b4 g8 k n1 n2 n3 n4 e1 e2 e3 e4 =>
    ret_now (hq _ _ ⟨F07.grow k, _, _, down, rfl, ⟨b1, b2, b3, b4, rfl, e1, e2, e3, e4, F07.free n1, F07.free n2, F07.free n3, F6.free n4⟩, ok⟩)
  rcases hL with rfl | ⟨p, rfl, e, n, ne⟩
  · simp [rOf]
    intro b1 f1 b2 f2 b3 f3 b4 f4
    have k1 := up_new (o := .lst (T asks)) (fun _ _ e => e) f1
    have k2 := up_new (o := .lst (T says)) k1 f2
    have k3 := up_new (o := .lst (T rooms)) k2 f3
    have back : ∀ {g8 : G} {b : Nat}, (∀ x u, g7 x = some u → g8 x = some u) → g8 b = none → g7 b = none := fun {g8 b} k z => by
      cases q : g7 b with
      | none => rfl
      | some u => rw [k b u q] at z; cases z
    refine fin b1 b2 b3 b4 _ (up_new k3 f4) f1 (back k1 f2) (back k2 f3) (F7.free (back k3 f4)) ?_ ?_ ?_ G.upd_same
    · exact st (st (st G.upd_same f2) f3) f4
    · exact st (st G.upd_same f3) f4
    · exact st G.upd_same f4
  · simp [rOf]
    intro b1 f1 b2 f2 b3 f3
    have k1 := up_new (o := .lst (T asks)) (fun _ _ e => e) f1
    have k2 := up_new (o := .lst (T says)) k1 f2
    have k3 := up_new (o := .lst (T rooms)) k2 f3
    have back : ∀ {g8 : G} {b : Nat}, (∀ x u, g7 x = some u → g8 x = some u) → g8 b = none → g7 b = none := fun {g8 b} k z => by
      cases q : g7 b with
      | none => rfl
      | some u => rw [k b u q] at z; cases z
    refine fin b1 b2 b3 p _ k3 f1 (back k1 f2) (back k2 f3) n ?_ ?_ ?_ (k3 _ _ e)
    · exact st (st G.upd_same f2) f3
    · exact st G.upd_same f3
    · exact G.upd_same
end Pd
set_option linter.all false
set_option maxRecDepth 10000
namespace Pd
/-! the law's own closure by still doors -/
theorem nodup_snoc {α : Type} {xs : List α} {x : α} (h : xs.Nodup) (hx : x ∉ xs) : (xs ++ [x]).Nodup := List.nodup_append.mpr ⟨h, by simp, fun a ha b hb => by simp at hb; rw [hb]; exact fun z => hx (z ▸ ha)⟩
structure So where
  doors : List Dr
  rooms : List (List Nat)
def d_stillon : Sg So := ⟨fun x ss g => (∃ s0 s1, ss = [s0, s1] ∧ lookS g s0 = some (.o (.lst (Ds x.doors))) ∧ lookS g s1 = some (.o (.lst (T x.rooms)))) ∧ x.doors.length ≤ 4000 ∧ x.rooms.length ≤ 4000,
  fun x g r g' => g' = g ∧ ∃ ex : List (List Nat), r = .own (.lst (T (x.rooms ++ ex))) ∧ ex.Nodup ∧ (∀ w ∈ ex, w ∉ x.rooms ∧ ∃ v ∈ x.rooms, Reach x.doors v w) ∧ ∀ v ∈ x.rooms ++ ex, ∀ w, Still x.doors v w → w ∈ x.rooms ++ ex, fun _ _ _ _ => False⟩
theorem k_stillon : Keeps d_stillon.wp b__law_still_on 7 := by
  rintro ss g E Q ⟨⟨doors, rooms⟩, ⟨⟨s0, s1, rfl, h0, h1⟩, hd, hr⟩, hq, _⟩
  have h8 := most_is
  simp only at h0 h1 hd hr
  simp [b__law_still_on, begin_]
  rw [s_sSeq]; simp [h1]
  rw [s_sSeq]; simp
  have exl : ∀ ex : List (List Nat), ex.Nodup → (∀ w ∈ ex, w ∈ doors.map Dr.o) → ex.length ≤ doors.length := fun ex h1 h2 => by have := pigeon h1 h2; simpa using this
  refine seq_of (fun ψ g2 => g2 = g ∧ ∃ (fo ex : List (List Nat)) (t3 t4 t5 t6 : Option Sl), ψ = [some s0, some s1, some (.own (.lst (T fo))), t3, t4, t5, t6] ∧ fo = rooms ++ ex ∧ ex.Nodup ∧ (∀ w ∈ ex, w ∉ rooms ∧ ∃ v ∈ rooms, Reach doors v w) ∧ ∀ v ∈ fo, ∀ w, Still doors v w → w ∈ fo) (fun nx hn => ?_) ?_
  · refine while_ind (fun n ψ g2 => g2 = g ∧ ∃ (fo ex : List (List Nat)) (at_ : Nat) (t4 t5 t6 : Option Sl), ψ = [some s0, some s1, some (.own (.lst (T fo))), some (.d (.int at_)), t4, t5, t6] ∧ fo = rooms ++ ex ∧ ex.Nodup ∧ (∀ w ∈ ex, w ∈ doors.map Dr.o) ∧ (∀ w ∈ ex, w ∉ rooms ∧ ∃ v ∈ rooms, Reach doors v w) ∧
      at_ ≤ fo.length ∧ n + at_ = rooms.length + doors.length ∧ ∀ v ∈ fo.take at_, ∀ w, Still doors v w → w ∈ fo) ?_ (rooms.length + doors.length) _ _ ⟨rfl, rooms, [], 0, _, _, _, rfl, by simp, List.nodup_nil, by simp, by simp, by simp, by simp, by simp⟩
    rintro n ψ g2 K ⟨rfl, fo, ex, at_, t4, t5, t6, rfl, ef, e1, e2, e3, e4, e5, e6⟩ hK
    have hel := exl ex e1 e2
    have hfl : fo.length = rooms.length + ex.length := by rw [ef]; simp
    simp
    split
    · rename_i hlt
      obtain ⟨here, hh⟩ : ∃ here, fo[at_]? = some here := ⟨_, List.getElem?_eq_getElem hlt⟩
      refine seq_of (fun ψ g3 => g3 = g2 ∧ ∃ (fo2 ex2 : List (List Nat)) (t4 t5 t6 : Option Sl), ψ = [some s0, some s1, some (.own (.lst (T fo2))), some (.d (.int at_)), t4, t5, t6] ∧ fo2 = fo ++ ex2 ∧ (ex ++ ex2).Nodup ∧ (∀ w ∈ ex2, w ∈ doors.map Dr.o) ∧ (∀ w ∈ ex2, w ∉ rooms ∧ Still doors here w) ∧
        ∀ w, Still doors here w → w ∈ fo2) (fun nx hn => ?_) ?_
      · simp [h0]
        refine for_ind (fun rest ψ g3 => g3 = g2 ∧ ∃ (done cs : List Dr) (fo2 ex2 : List (List Nat)) (t4 t5 t6 : Option Sl), doors = done ++ cs ∧ rest = Ds cs ∧ ψ = [some s0, some s1, some (.own (.lst (T fo2))), some (.d (.int at_)), t4, t5, t6] ∧ fo2 = fo ++ ex2 ∧ (ex ++ ex2).Nodup ∧ (∀ w ∈ ex2, w ∈ doors.map Dr.o) ∧ (∀ w ∈ ex2, w ∉ rooms ∧ Still doors here w) ∧
          ∀ d ∈ done, d.r = here → d.s = [wStill] → d.o ∈ fo2) ?_ ?_ _ _ _ ⟨rfl, [], doors, fo, [], _, _, _, rfl, rfl, rfl, by simp, by simpa using e1, by simp, by simp, by simp⟩
        · rintro x xs ψ g3 K2 ⟨rfl, done, cs, fo2, ex2, t4, t5, t6, f1, f2, rfl, ef2, f3, f4, f5, f6⟩ hK2
          cases cs with
          | nil => cases f2
          | cons d cs =>
            obtain ⟨rfl, rfl⟩ := List.cons.inj f2
            have hdm : d ∈ doors := f1 ▸ List.mem_append_right _ (by simp)
            have hx : fo2[at_]? = some here := by rw [ef2, List.getElem?_append_left hlt]; exact hh
            have hx1 : at_ < fo2.length := by rw [ef2]; simp; omega
            have hx' : atI fo2 at_ = some here := by
              rw [atI_lt (by omega) (by omega)]; exact hx
            have hall := exl _ f3 fun w hw => (List.mem_append.mp hw).elim (e2 w) (f4 w)
            simp at hall
            have hlm : fo2.length < most := by rw [ef2]; simp; omega
            have nxt : ∀ (t4 t5 t6 : Option Sl), (d.r = here → d.s = [wStill] → d.o ∈ fo2) → ∃ g4, G.le g4 g3 ∧ lookS g4 s0 = some (.o (.lst (Ds doors))) ∧ K2 [some s0, some s1, some (.own (.lst (T fo2))), some (.d (.int at_)), t4, t5, t6] g4 := fun u4 u5 u6 h =>
              now ⟨h0, hK2 _ _ ⟨rfl, done ++ [d], cs, fo2, ex2, _, _, _, by simp [f1], rfl, rfl, ef2, f3, f4, f5, fun d' hd' a b => by
                rcases List.mem_append.mp hd' with z | z
                · exact f6 d' z a b
                · rw [List.mem_singleton.mp z] at a b ⊢; exact h a b⟩⟩
            simp [hx']
            by_cases c1 : d.r = here
            · by_cases c2 : d.s = [wStill]
              · by_cases c3 : d.o ∈ fo2
                · simp [c1, c2, c3]
                  exact nxt _ _ _ fun _ _ => c3
                · have hst : Still doors here d.o := ⟨d, hdm, c1, c2, rfl⟩
                  simp [c1, c2, c3, hlm]
                  refine now ⟨h0, hK2 _ _ ⟨rfl, done ++ [d], cs, fo2 ++ [d.o], ex2 ++ [d.o], _, _, _, by simp [f1], rfl, by simp [T]; exact ⟨rfl, rfl, rfl⟩, by simp [ef2], ?_, fun w hw => ?_, fun w hw => ?_, fun d' hd' a b => ?_⟩⟩
                  · rw [← List.append_assoc]
                    refine nodup_snoc f3 fun z => c3 ?_
                    rw [ef2, ef]
                    rcases List.mem_append.mp z with z | z <;> simp [z]
                  · rcases List.mem_append.mp hw with z | z
                    · exact f4 w z
                    · rw [List.mem_singleton.mp z]; exact List.mem_map_of_mem hdm
                  · rcases List.mem_append.mp hw with z | z
                    · exact f5 w z
                    · rw [List.mem_singleton.mp z]
                      exact ⟨fun z => c3 (by rw [ef2, ef]; simp [z]), hst⟩
                  · rcases List.mem_append.mp hd' with z | z
                    · simp [f6 d' z a b]
                    · rw [List.mem_singleton.mp z]; simp
              · simp [c1, c2]
                exact nxt _ _ _ fun _ z => absurd z c2
            · simp [c1]
              exact nxt _ _ _ fun z => absurd z c1
        · rintro ψ g3 ⟨rfl, done, cs, fo2, ex2, t4, t5, t6, f1, f2, rfl, ef2, f3, f4, f5, f6⟩
          have hcs : cs = [] := by cases cs with | nil => rfl | cons => cases f2
          subst hcs
          rw [List.append_nil] at f1
          subst f1
          exact hn _ _ ⟨rfl, fo2, ex2, _, _, _, rfl, ef2, f3, f4, f5, fun w ⟨d, a, b, c, e⟩ => e ▸ f6 d a b c⟩
      · rintro ψ g3 ⟨rfl, fo2, ex2, t4, t5, t6, rfl, ef2, f3, f4, f5, f6⟩
        have hall := exl _ f3 fun w hw => (List.mem_append.mp hw).elim (e2 w) (f4 w)
        simp at hall
        have hfl2 : fo2.length = fo.length + ex2.length := by rw [ef2]; simp
        simp
        refine now (hK (n - 1) _ _ (by omega) ⟨rfl, fo2, ex ++ ex2, at_ + 1, _, _, _, by simp; exact ⟨rfl, rfl, rfl⟩, by rw [ef2, ef]; simp, f3, fun w hw => (List.mem_append.mp hw).elim (e2 w) (f4 w), fun w hw => ?_, by omega, by omega, fun v hv w hw => ?_⟩)
        · rcases List.mem_append.mp hw with h | h
          · exact e3 w h
          · refine ⟨(f5 w h).1, ?_⟩
            have hm := List.mem_of_getElem? hh
            rw [ef] at hm
            rcases List.mem_append.mp hm with z | z
            · exact ⟨here, z, .one (f5 w h).2⟩
            · obtain ⟨_, v, a, b⟩ := e3 here z
              exact ⟨v, a, .snoc b (f5 w h).2⟩
        · rw [ef2, List.take_append_of_le_length (by omega), List.take_add_one, hh] at hv
          rcases List.mem_append.mp hv with h | h
          · rw [ef2]; exact List.mem_append_left _ (e6 v h w hw)
          · simp at h; subst h; exact f6 w hw
    · rename_i hlt
      have : at_ = fo.length := by omega
      rw [this, List.take_length] at e6
      exact hn _ _ ⟨rfl, fo, ex, _, _, _, _, rfl, ef, e1, e3, e6⟩
  · rintro ψ g2 ⟨rfl, fo, ex, t3, t4, t5, t6, rfl, ef, e1, e2, e3⟩
    simp
    refine ret_now (hq _ _ ⟨rfl, ex, by rw [ef], e1, e2, ?_⟩)
    rw [ef] at e3; exact e3
end Pd
set_option linter.all false
set_option maxRecDepth 10000
namespace Pd
end Pd
set_option linter.all false
set_option maxRecDepth 10000
namespace Pd
/-- what is asked of handed lists, whatever they hold -/
structure Bd (m : Mch) : Prop where
  a : m.asks.length ≤ 100
  s : m.says.length ≤ 100
  r : m.rooms.length ≤ 200
  d : m.doors.length ≤ 3900
  aw : ∀ w ∈ m.asks, w.length ≤ most
  sw : ∀ w ∈ m.says, w.length ≤ most
  rw : ∀ w ∈ m.rooms, w.length ≤ most
  two : ∀ d ∈ m.doors, Two d.s
theorem denL_map {α : Type} {f : D → Option D} {g : α → D} : ∀ {xs : List α}, (∀ x ∈ xs, f (g x) = some (g x)) → denL f (xs.map g) = some (xs.map g)
  | [], _ => rfl
  | x :: xs, h => by
    show (match f (g x), denL f (xs.map g) with | some y, some ys => some (y :: ys) | _, _ => none) = _
    rw [h x (by simp), denL_map fun y hy => h y (by simp [hy])]; rfl
theorem den_tT (n : Nat) (g : G) {s : List (List Nat)} (h : s.length < 4000) : den (n + 2) g (.tup (s.map D.str)) = some (.tup (s.map D.str)) := by
  show (if (s.map D.str).length < 4000 then (denL (den (n + 1) g) (T s)).map D.tup else none) = _
  rw [if_pos (by simpa using h), den_T (n + 1) g (by omega)]; rfl
end Pd
set_option Elab.async false
set_option linter.all false
namespace Pd
/-- _law_machine(told) -/
def b__law_machine (φ_Machine___init__ : SpD) : WS :=
  (sRet (eNew "Machine" φ_Machine___init__ [false, false, false, false] (aCons (eUn oList (eBin oIx (eVar 0) (eC (.int 0)))) (aCons (eUn oList (eBin oIx (eVar 0) (eC (.int 1)))) (aCons (eUn oList (eBin oIx (eVar 0) (eC (.int 2)))) (aCons (eUn oList (eBin oIx (eVar 0) (eC (.int 3)))) aNil))))))
end Pd
set_option linter.all false
set_option maxRecDepth 10000
namespace Pd
/-! loops over lists of things told as values -/
theorem for_map {α : Type} {tg : WG} {b : WS} {Dn : Ends} {ok : Psi → G → Prop} (emb : α → D) (xs : List α) (I : List α → Psi → G → Prop)
    (step : ∀ (done : List α) (x : α) (rest : List α), xs = done ++ x :: rest → ∀ (ψ : Psi) (g : G) (K : Psi → G → Prop), I done ψ g → (∀ ψ' g', I (done ++ [x]) ψ' g' → K ψ' g') →
      tg (emb x) ψ g fun ψ g => b ⟨fun ψ' g' => ∃ g2, G.le g2 g' ∧ ok ψ' g2 ∧ K ψ' g2, Dn.rt, Dn.nx, fun ψ' g' => ∃ g2, G.le g2 g' ∧ ok ψ' g2 ∧ K ψ' g2, Dn.ex⟩ ψ g)
    (fin : ∀ ψ g, I xs ψ g → Dn.nx ψ g) (ψ : Psi) (g : G) (h : I [] ψ g) : forL tg b Dn ok (xs.map emb) ψ g := by
  refine for_ind (fun rest ψ g => ∃ done cs, xs = done ++ cs ∧ rest = cs.map emb ∧ I done ψ g) ?_ ?_ _ _ _ ⟨[], xs, rfl, rfl, h⟩
  · rintro y ys ψ g K ⟨done, cs, e1, e2, hI⟩ hK
    cases cs with
    | nil => cases e2
    | cons x cs =>
      obtain ⟨rfl, rfl⟩ := List.cons.inj e2
      exact step done x cs e1 ψ g K hI fun ψ' g' h' => hK _ _ ⟨done ++ [x], cs, by simp [e1], rfl, h'⟩
  · rintro ψ g ⟨done, cs, e1, e2, hI⟩
    have : cs = [] := by cases cs with | nil => rfl | cons => cases e2
    subst this
    rw [List.append_nil] at e1
    exact fin ψ g (e1 ▸ hI)
theorem comp_mapI {α : Type} {tg : WG} {tt : WT} {te : WE} {ok : Psi → G → Prop} {ψ0 ψw : Psi} {Q : List D → G → Prop} (emb : α → D) (xs : List α) (I : List α → List D → G → Prop)
    (step : ∀ (done : List α) (x : α) (rest : List α), xs = done ++ x :: rest → ∀ (acc : List D) (g : G) (K : List D → G → Prop), I done acc g → (∀ acc' g', I (done ++ [x]) acc' g' → K acc' g') →
      tg (emb x) ψw g fun ψ1 g => tt noX ψ1 g fun b ψ2 g => if b = true then te noX ψ2 g fun r ψ3 g => toD r ψ3 g fun d _ g => ok ψ0 g ∧ acc.length < most ∧ K (acc ++ [d]) g else ok ψ0 g ∧ K acc g)
    (fin : ∀ acc g, I xs acc g → Q acc g) (g : G) (h : I [] [] g) : compL tg tt te ok ψ0 ψw (xs.map emb) [] g Q := by
  refine comp_ind (fun rest acc g => ∃ done cs, xs = done ++ cs ∧ rest = cs.map emb ∧ I done acc g) ?_ ?_ _ _ _ ⟨[], xs, rfl, rfl, h⟩
  · rintro y ys acc g K ⟨done, cs, e1, e2, hI⟩ hK
    cases cs with
    | nil => cases e2
    | cons x cs =>
      obtain ⟨rfl, rfl⟩ := List.cons.inj e2
      exact step done x cs e1 acc g K hI fun acc' g' h' => hK _ _ ⟨done ++ [x], cs, by simp [e1], rfl, h'⟩
  · rintro acc g ⟨done, cs, e1, e2, hI⟩
    have : cs = [] := by cases cs with | nil => rfl | cons => cases e2
    subst this
    rw [List.append_nil] at e1
    exact fin acc g (e1 ▸ hI)
/-- a comprehension that leaves the heap alone -/
theorem comp_map {α : Type} {tg : WG} {tt : WT} {te : WE} {ok : Psi → G → Prop} {ψ0 ψw : Psi} {Q : List D → G → Prop} {g : G} (emb : α → D) (keep : α → Bool) (out : α → D) (xs : List α) (hl : xs.length ≤ 16000000)
    (step : ∀ x ∈ xs, ∀ (acc : List D) (K : List D → G → Prop), acc.length < most → (keep x = true → K (acc ++ [out x]) g) → (keep x = false → K acc g) →
      tg (emb x) ψw g fun ψ1 g => tt noX ψ1 g fun b ψ2 g => if b = true then te noX ψ2 g fun r ψ3 g => toD r ψ3 g fun d _ g => ok ψ0 g ∧ acc.length < most ∧ K (acc ++ [d]) g else ok ψ0 g ∧ K acc g)
    (fin : Q ((xs.filter keep).map out) g) : compL tg tt te ok ψ0 ψw (xs.map emb) [] g Q := by
  have h8 := most_is
  refine comp_mapI emb xs (fun done acc g' => g' = g ∧ acc = (done.filter keep).map out) ?_ ?_ g ⟨rfl, rfl⟩
  · rintro done x rest e acc g' K ⟨rfl, rfl⟩ hK
    refine step x (by simp [e]) _ K ?_ (fun h => hK _ _ ⟨rfl, by simp [h]⟩) fun h => hK _ _ ⟨rfl, by simp [h]⟩
    have := List.length_filter_le keep done
    have : done.length ≤ xs.length := by rw [e]; simp
    rw [List.length_map]; omega
  · rintro acc g' ⟨rfl, rfl⟩
    exact fin
theorem flatT (ws : List (List Nat)) : (T ws).all flatD = true := by
  rw [List.all_eq_true]
  intro x hx
  obtain ⟨w, _, rfl⟩ := List.mem_map.mp hx
  rfl
theorem inC_t (g : G) (w : List Nat) (ws : List (List Nat)) : inC g (.d (.str w)) (.d (.tup (T ws))) = some (decide (w ∈ ws)) := by
  show (if flatD (.str w) && (T ws).all flatD then some (decide (D.str w ∈ T ws)) else none) = _
  rw [flatT]
  simp [flatD]
@[simp] theorem in_t (g : G) (w : List Nat) (ws : List (List Nat)) : oIn g (.d (.str w)) (.d (.tup (ws.map D.str))) = some (.d (.bl (decide (w ∈ ws)))) := by
  have h0 : inT g (.d (.str w)) (.d (.tup (T ws))) = inC g (.d (.str w)) (.d (.tup (T ws))) := by rcases w with _ | ⟨a, _ | ⟨b, w⟩⟩ <;> rfl
  unfold oIn
  rw [h0, inC_t]; rfl
end Pd
set_option linter.all false
set_option maxRecDepth 10000
namespace Pd
/-! what a machine tells of a room; still doors of the program -/
def isAsk (d : Dr) : Bool := decide (d.s.head? = some wAsk)
def quietB (m : Mch) (r : List Nat) : Bool := (outOf m.doors r).all isAsk
structure MOk (m : Mch) : Prop where
  nd : m.rooms.Nodup
  en : ∀ d ∈ m.doors, d.r ∈ m.rooms ∧ d.o ∈ m.rooms
  two : ∀ d ∈ m.doors, Two d.s
  rl : m.rooms.length ≤ 200
  dl : m.doors.length ≤ 3900
theorem out_len (ds : List Dr) (r : List Nat) : (outOf ds r).length ≤ ds.length := List.length_filter_le _ _
theorem boolsD_map {α : Type} (f : α → Bool) : ∀ xs : List α, boolsD (xs.map fun x => D.bl (f x)) = some (xs.map f)
  | [] => rfl
  | x :: xs => by
    show (boolsD (xs.map fun x => D.bl (f x))).map (f x :: ·) = _
    rw [boolsD_map f xs]; rfl
/-- the rooms of some and of those to which still doors lead from them, in order -/
def Led (m : Mch) (s : List (List Nat)) (r : List Nat) : Prop := r ∈ s ∨ ∃ v ∈ s, Reach m.doors v r
open Classical in
noncomputable def closed (m : Mch) (s : List (List Nat)) : List (List Nat) := m.rooms.filter fun r => decide (Led m s r)
theorem closed_sub (m : Mch) (s : List (List Nat)) : (closed m s).Sublist m.rooms := List.filter_sublist
end Pd
set_option linter.all false
set_option maxRecDepth 10000
namespace Pd
/-! good machines; the first face, and what stands behind a sign -/
structure GM (m : Mch) (mo : Nat) : Prop where
  a0 : m.asks ≠ []
  al : m.asks.length ≤ 4
  and : m.asks.Nodup
  av : ∀ w ∈ m.asks, isName w = true
  s0 : m.says ≠ []
  sl : m.says.length ≤ 4
  snd : m.says.Nodup
  sv : ∀ w ∈ m.says, isName w = true ∧ w ∉ m.asks
  r0 : m.rooms ≠ []
  rl : m.rooms.length ≤ mo
  rnd : m.rooms.Nodup
  rv : ∀ w ∈ m.rooms, isName w = true
  nd : m.doors.Nodup
  ok : ∀ d ∈ m.doors, okDoor m.asks m.says m.rooms d = true
  two : ∀ d ∈ m.doors, Two d.s
  loose : ∀ x, ¬ Reach m.doors x x
  dl : m.doors.length ≤ 1900
theorem MdOk.gm {m : Mch} {mo : Nat} {down : Bool} (h : MdOk m mo down) (hm : mo ≤ 150) : GM m mo :=
  ⟨h.a0, h.al, h.and, h.av, h.s0, h.sl, h.snd, h.sv, h.r0, h.rl, h.rnd, h.rv, h.dz.nd, h.dz.ok, h.dz.two, h.dz.loose h.rnd, by have := h.dl; have := h.rl; omega⟩
theorem GM.good {m : Mch} {mo : Nat} (h : GM m mo) (hm : mo ≤ 150) : badM m.asks m.says m.rooms m.doors = none := by
  have h1 : badPart m.asks m.says m.rooms = none := by
    have e1 := firstWrong_ok (m := 4) (others := []) h.a0 h.al h.and fun w hw => ⟨h.av w hw, by simp⟩
    have e2 := firstWrong_ok (m := 4) (others := m.asks) h.s0 h.sl h.snd h.sv
    have e3 := firstWrong_ok (m := 150) (others := []) h.r0 (Nat.le_trans h.rl hm) h.rnd fun w hw => ⟨h.rv w hw, by simp⟩
    simp [badPart, e1, e2, e3]
  have h2 := wrongDoor_ok (ds := m.doors) (by have := h.dl; omega) h.nd h.ok
  have h3 := roundAt_none h.loose m.rooms 0
  unfold badM
  rw [h1, h2, h3]
theorem GM.bd {m : Mch} {mo : Nat} (h : GM m mo) (hm : mo ≤ 150) : Bd m := by
  have h8 := most_is
  have n : ∀ {w : List Nat}, isName w = true → w.length ≤ most := fun e => by have := isName_len e; omega
  have := h.al; have := h.sl; have := h.rl; have := h.dl
  exact ⟨by omega, by omega, by omega, by omega, fun w hw => n (h.av w hw), fun w hw => n (h.sv w hw).1, fun w hw => n (h.rv w hw), h.two⟩
theorem GM.mok {m : Mch} {mo : Nat} (h : GM m mo) (hm : mo ≤ 150) : MOk m :=
  ⟨h.rnd, fun d hd => let ⟨a, b, _⟩ := okDoor_in (h.ok d hd); ⟨a, b⟩, h.two, by have := h.rl; omega, by have := h.dl; omega⟩
def led (m : Mch) (f : List (List Nat)) (s : List (List Nat)) : List (List Nat) := f.flatMap fun r => ((outOf m.doors r).filter fun d => decide (d.s = s)).map Dr.o
theorem mem_led {m : Mch} {f s : List (List Nat)} {y : List Nat} : y ∈ led m f s ↔ ∃ d ∈ m.doors, d.r ∈ f ∧ d.s = s ∧ d.o = y := by
  unfold led outOf
  rw [List.mem_flatMap]
  constructor
  · rintro ⟨r, hr, h⟩
    obtain ⟨d, h1, rfl⟩ := List.mem_map.mp h
    obtain ⟨h2, h3⟩ := List.mem_filter.mp h1
    obtain ⟨h4, h5⟩ := List.mem_filter.mp h2
    exact ⟨d, h4, of_decide_eq_true h5 ▸ hr, of_decide_eq_true h3, rfl⟩
  · rintro ⟨d, h1, h2, h3, rfl⟩
    exact ⟨d.r, h2, List.mem_map_of_mem (List.mem_filter.mpr ⟨List.mem_filter.mpr ⟨h1, by simp⟩, by simp [h3]⟩)⟩
noncomputable def behind (m : Mch) (f s : List (List Nat)) : List (List Nat) := if s = [wHush] then f.filter (quietB m) else closed m (led m f s)
end Pd
set_option linter.all false
set_option maxRecDepth 10000
namespace Pd
/-! a machine of told lists; some rooms; the second comparison -/
theorem MachD.fr {g0 g : G} {a p : Nat} {m : Mch} (h : MachD g0 p m) (F : Fr g0 g a) (p0 : Pen g0 a) : MachD g p m := by
  obtain ⟨q1, q2, q3, q4, e1, e2, e3, e4, kvs, e5, e6, e7⟩ := h
  obtain ⟨c, at_, v, cs, n, e, _⟩ := p0
  have na : ∀ {b : Nat} {u : O}, g0 b = some u → (∀ xs, u ≠ .lst (.ref c :: xs)) → g b = some u := fun {b u} e' hu => F.fr b u e' fun z => by
    rw [z, e] at e'; cases e'; exact hu _ rfl
  have nT : ∀ ws xs, O.lst (T ws) ≠ .lst (.ref c :: xs) := fun ws xs z => by
    cases ws with
    | nil => cases z
    | cons => cases z
  have nD : ∀ ds xs, O.lst (Ds ds) ≠ .lst (.ref c :: xs) := fun ws xs z => by
    cases ws with
    | nil => cases z
    | cons => cases z
  refine ⟨q1, q2, q3, q4, na e1 (fun _ z => by cases z), na e2 (nT _), na e3 (nT _), na e4 (nD _), kvs, na e5 (fun _ z => by cases z), e6, fun w hw => ?_⟩
  obtain ⟨a, f1, f2⟩ := e7 w hw
  exact ⟨a, f1, na f2 (nD _)⟩
structure Lm where
  a : Nat × Nat × Nat × Nat
  m : Mch
def d_mach : Sg Lm := ⟨fun x ss g => ss = [.d (.tup [.ref x.a.1, .ref x.a.2.1, .ref x.a.2.2.1, .ref x.a.2.2.2])] ∧ g x.a.1 = some (.lst (T x.m.asks)) ∧ g x.a.2.1 = some (.lst (T x.m.says)) ∧ g x.a.2.2.1 = some (.lst (T x.m.rooms)) ∧ g x.a.2.2.2 = some (.lst (Ds x.m.doors)) ∧ Bd x.m ∧ badM x.m.asks x.m.says x.m.rooms x.m.doors = none,
  fun x g r g' => ∃ p, r = .d (.ref p) ∧ MachD g' p x.m ∧ g p = none ∧ ∀ a u, g a = some u → g' a = some u, fun _ _ _ _ => False⟩
theorem k_mach : Keeps d_mach.wp (b__law_machine d_init.wp) 1 := by
  rintro ss g E Q ⟨⟨⟨a1, a2, a3, a4⟩, m⟩, ⟨rfl, e1, e2, e3, e4, B, hg⟩, hq, _⟩
  simp only at e1 e2 e3 e4 B hg
  have := B.a; have := B.s; have := B.r; have := B.d
  simp [b__law_machine, begin_, e1, e2, e3, e4]
  intro p hp
  refine call_of ⟨p, m.asks, m.says, m.rooms, m.doors⟩ ⟨⟨_, _, _, _, rfl, by simp, by simp, by simp, by simp⟩, G.upd_same, ⟨by simp only; omega, by simp only; omega, by simp only; omega, by simp only; omega⟩, B.aw, B.sw, B.rw, B.two⟩ ?_ ?_
  · rintro r g1 ⟨rfl, _, hM, k⟩
    simp
    refine ret_now (hq _ _ ⟨p, rfl, hM, hp, fun a u e => ?_⟩)
    have hn : a ≠ p := fun z => by rw [z, hp] at e; cases e
    exact k a u (by rw [G.upd_ne hn]; exact e) hn
  · rintro z g1 ⟨_, part, n, hb, _⟩
    simp only at hb
    rw [hg] at hb; cases hb
end Pd
set_option linter.all false
set_option maxRecDepth 10000
namespace Pd
/-! more still doors -/
end Pd
set_option linter.all false
set_option maxRecDepth 10000
namespace Pd
theorem comp_all {α : Type} {tg : WG} {tt : WT} {te : WE} {ok : Psi → G → Prop} {ψ0 ψw : Psi} {Q : List D → G → Prop} {g : G} (emb out : α → D) (xs : List α) (hl : xs.length ≤ 16000000)
    (step : ∀ x ∈ xs, ∀ (acc : List D) (K : List D → G → Prop), acc.length < most → K (acc ++ [out x]) g →
      tg (emb x) ψw g fun ψ1 g => tt noX ψ1 g fun b ψ2 g => if b = true then te noX ψ2 g fun r ψ3 g => toD r ψ3 g fun d _ g => ok ψ0 g ∧ acc.length < most ∧ K (acc ++ [d]) g else ok ψ0 g ∧ K acc g)
    (fin : Q (xs.map out) g) : compL tg tt te ok ψ0 ψw (xs.map emb) [] g Q := by
  refine comp_map emb (fun _ => true) out xs hl (fun x hx acc K ha h1 _ => step x hx acc K ha (h1 rfl)) ?_
  rw [List.filter_eq_self.mpr fun _ _ => rfl]; exact fin
/-! other names for the rooms, and their order turned -/
end Pd
set_option linter.all false
set_option maxRecDepth 10000
namespace Pd
end Pd
set_option linter.all false
set_option maxRecDepth 10000
namespace Pd
theorem pures_all : ∀ {xs : List D}, (∀ x ∈ xs, x.pure = true) → D.pures xs = true
  | [], _ => rfl
  | y :: ys, h => by
    show (y.pure && D.pures ys) = true
    rw [h y (by simp), pures_all fun x hx => h x (by simp [hx])]; rfl
theorem depths_of {n : Nat} : ∀ {xs : List D}, (∀ x ∈ xs, x.depth ≤ n) → D.depths xs ≤ n
  | [], _ => Nat.zero_le _
  | y :: ys, h => by
    show max y.depth (D.depths ys) ≤ n
    have := h y (by simp)
    have := depths_of (n := n) fun x hx => h x (List.mem_cons_of_mem _ hx)
    omega
theorem mapM_pure (n : Nat) (g : G) : ∀ {xs : List D}, (∀ x ∈ xs, x.pure = true) → xs.mapM (rsv n g) = some xs
  | [], _ => rfl
  | y :: ys, h => by
    rw [List.mapM_cons, rsv_pure n g (h y (by simp)), mapM_pure n g fun x hx => h x (by simp [hx])]; rfl
theorem eqC_L (g : G) {a b : List D} (ha : ∀ x ∈ a, x.pure = true) (hb : ∀ x ∈ b, x.pure = true) (da : ∀ x ∈ a, x.depth ≤ 50) (db : ∀ x ∈ b, x.depth ≤ 50) : eqC g (.o (.lst a)) (.o (.lst b)) = some (decide (a = b)) := by
  have e : eqC g (.o (.lst a)) (.o (.lst b)) = match (a.mapM (rsv 6 g)).map D.rol, (b.mapM (rsv 6 g)).map D.rol with
    | some x, some y => if x.depth ≤ 60 ∧ y.depth ≤ 60 then some (decide (x = y)) else none
    | _, _ => none := rfl
  rw [e, mapM_pure 6 g ha, mapM_pure 6 g hb]
  have dd : ∀ {xs : List D}, (∀ x ∈ xs, x.depth ≤ 50) → (D.rol xs).depth ≤ 60 := fun h => by show D.depths _ + 1 ≤ 60; have := depths_of h; omega
  show (if (D.rol a).depth ≤ 60 ∧ (D.rol b).depth ≤ 60 then some (decide (D.rol a = D.rol b)) else none) = _
  rw [if_pos ⟨dd da, dd db⟩]
  congr 1
  exact decide_eq_decide.mpr ⟨fun h => D.rol.inj h, fun h => by rw [h]⟩
theorem ne_L (g : G) {a b : List D} (ha : ∀ x ∈ a, x.pure = true) (hb : ∀ x ∈ b, x.pure = true) (da : ∀ x ∈ a, x.depth ≤ 50) (db : ∀ x ∈ b, x.depth ≤ 50) : oNe g (.o (.lst a)) (.o (.lst b)) = some (.d (.bl (!decide (a = b)))) := by
  unfold oNe; rw [eqC_L g ha hb da db]; rfl
end Pd
set_option Elab.async false
set_option linter.all false
namespace Pd
end Pd
set_option linter.all false
set_option maxRecDepth 10000
namespace Pd
/-! signs, lists of signs; the law's own faces -/
abbrev Sgn := List (List Nat)
def sg (s : Sgn) : D := .tup (s.map D.str)
@[simp] theorem sg_mk (s : Sgn) : sg s = .tup (s.map D.str) := nrfl rfl
theorem sg_inj {a b : Sgn} (h : sg a = sg b) : a = b := T_inj'.mp (by simpa using h)
theorem pure_sg (s : Sgn) : (sg s).pure = true := pure_tT s
theorem depth_sg (s : Sgn) : (sg s).depth = 1 := depth_tT s
theorem sgs_pure (xs : List Sgn) : ∀ x ∈ xs.map sg, x.pure = true := fun x hx => by
  obtain ⟨s, _, rfl⟩ := List.mem_map.mp hx
  exact pure_sg s
theorem sgs_depth (xs : List Sgn) : ∀ x ∈ xs.map sg, x.depth ≤ 50 := fun x hx => by
  obtain ⟨s, _, rfl⟩ := List.mem_map.mp hx
  rw [depth_sg]; omega
theorem sgs_inj {a b : List Sgn} : a.map sg = b.map sg ↔ a = b := List.map_inj_right fun _ _ e => sg_inj e
@[simp] theorem ne_sgs (g : G) (a b : List Sgn) : oNe g (.o (.lst (a.map sg))) (.o (.lst (b.map sg))) = some (.d (.bl (!decide (a = b)))) := by
  rw [ne_L g (sgs_pure a) (sgs_pure b) (sgs_depth a) (sgs_depth b)]
  simp [sgs_inj]
@[simp] theorem ne_sgs0 (g : G) (a : List Sgn) : oNe g (.o (.lst (a.map sg))) (.o (.lst [])) = some (.d (.bl (!decide (a = [])))) := ne_sgs g a []
@[simp] theorem eq_tT0 (g : G) (a : List (List Nat)) : oEq g (.d (.tup (a.map D.str))) (.d (.tup [])) = some (.d (.bl (decide (a = [])))) := eq_tT g a []
@[simp] theorem ne_tT (g : G) (a b : List (List Nat)) : oNe g (.d (.tup (a.map D.str))) (.d (.tup (b.map D.str))) = some (.d (.bl (!decide (a = b)))) := by
  unfold oNe
  rw [eq_pure g (pure_tT a) (pure_tT b) (by rw [depth_tT]; omega) (by rw [depth_tT]; omega)]
  simp [T_inj']
@[simp] theorem ne_tT0 (g : G) (a : List (List Nat)) : oNe g (.d (.tup (a.map D.str))) (.d (.tup [])) = some (.d (.bl (!decide (a = [])))) := ne_tT g a []
@[simp] theorem eq_t00 (g : G) : oEq g (.d (.tup [])) (.d (.tup [])) = some (.d (.bl true)) := by
  have := eq_tT0 g []
  simpa using this
open Classical in
theorem closed_congr {m : Mch} {s s' : List (List Nat)} (h : ∀ x, x ∈ s ↔ x ∈ s') : closed m s = closed m s' := by
  unfold closed
  refine List.filter_congr fun w _ => ?_
  rw [decide_eq_decide]
  unfold Led
  constructor
  · rintro (z | ⟨v, hv, hr⟩)
    · exact .inl ((h _).mp z)
    · exact .inr ⟨v, (h _).mp hv, hr⟩
  · rintro (z | ⟨v, hv, hr⟩)
    · exact .inl ((h _).mpr z)
    · exact .inr ⟨v, (h _).mpr hv, hr⟩
/-- a model that is told: rooms and doors at two places -/
structure Tm where
  m : Mch
  a1 : Nat
  a2 : Nat
  a3 : Nat
  a4 : Nat
abbrev Tm.d (x : Tm) : D := .tup [.ref x.a1, .ref x.a2, .ref x.a3, .ref x.a4]
structure Told (g : G) (x : Tm) : Prop where
  e1 : g x.a1 = some (.lst (T x.m.asks))
  e2 : g x.a2 = some (.lst (T x.m.says))
  e3 : g x.a3 = some (.lst (T x.m.rooms))
  e4 : g x.a4 = some (.lst (Ds x.m.doors))
theorem Told.keep {g g' : G} {x : Tm} (h : Told g x) (k : ∀ a u, g a = some u → g' a = some u) : Told g' x := ⟨k _ _ h.e1, k _ _ h.e2, k _ _ h.e3, k _ _ h.e4⟩
theorem Told.fr {g0 g : G} {a : Nat} {x : Tm} (h : Told g0 x) (F : Fr g0 g a) (p : Pen g0 a) : Told g x := ⟨F.T p h.e1, F.T p h.e2, F.T p h.e3, F.D p h.e4⟩
structure Lo where
  x : Tm
  s : List (List Nat)
def d_lon : Sg Lo := ⟨fun x ss g => (∃ s1, ss = [.d x.x.d, s1] ∧ lookS g s1 = some (.o (.lst (T x.s)))) ∧ Told g x.x ∧ MOk x.x.m ∧ x.s.length ≤ 4000,
  fun x g r g' => g' = g ∧ r = .d (.tup (T (closed x.x.m x.s))), fun _ _ _ _ => False⟩
structure Lr where
  x : Tm
  r : List Nat
def d_lquiet : Sg Lr := ⟨fun x ss g => ss = [.d x.x.d, .d (.str x.r)] ∧ Told g x.x ∧ MOk x.x.m, fun x g r g' => g' = g ∧ r = .d (.bl (quietB x.x.m x.r)), fun _ _ _ _ => False⟩
structure Lb where
  x : Tm
  f : List (List Nat)
  s : Sgn
def d_lbehind : Sg Lb := ⟨fun x ss g => ss = [.d x.x.d, .d (.tup (T x.f)), .d (.tup (T x.s))] ∧ Told g x.x ∧ MOk x.x.m ∧ x.f.length ≤ 4000, fun x g r g' => g' = g ∧ r = .d (.tup (T (behind x.x.m x.f x.s))), fun _ _ _ _ => False⟩
end Pd
set_option linter.all false
set_option maxRecDepth 10000
namespace Pd
theorem range_at {n x : Nat} {done rest : List Nat} (e : List.range n = done ++ x :: rest) : done.length = x ∧ x < n := by
  have h1 : (List.range n)[done.length]? = some x := by rw [e]; simp
  have hl : done.length < n := by have := congrArg List.length e; simp at this; omega
  rw [List.getElem?_range hl] at h1
  cases h1
  exact ⟨rfl, hl⟩
/-- a loop over range(n) -/
theorem for_range {tg : WG} {b : WS} {Dn : Ends} {ok : Psi → G → Prop} (n : Nat) (I : Nat → Psi → G → Prop)
    (step : ∀ i, i < n → ∀ (ψ : Psi) (g : G) (K : Psi → G → Prop), I i ψ g → (∀ ψ' g', I (i + 1) ψ' g' → K ψ' g') →
      tg (.int (i : Int)) ψ g fun ψ g => b ⟨fun ψ' g' => ∃ g2, G.le g2 g' ∧ ok ψ' g2 ∧ K ψ' g2, Dn.rt, Dn.nx, fun ψ' g' => ∃ g2, G.le g2 g' ∧ ok ψ' g2 ∧ K ψ' g2, Dn.ex⟩ ψ g)
    (fin : ∀ ψ g, I n ψ g → Dn.nx ψ g) (ψ : Psi) (g : G) (h : I 0 ψ g) : forL tg b Dn ok ((List.range n).map fun i : Nat => D.int (i : Int)) ψ g := by
  refine for_map (fun i : Nat => D.int (i : Int)) (List.range n) (fun done ψ g => I done.length ψ g) ?_ ?_ ψ g h
  · intro done x rest e ψ g K hI hK
    obtain ⟨h1, h2⟩ := range_at e
    exact step x h2 ψ g K (h1 ▸ hI) fun ψ' g' h' => hK _ _ (by simpa [h1] using h')
  · intro ψ g hI
    exact fin ψ g (by simpa using hI)
/-! stories -/
@[simp] theorem atI_last {α : Type} (xs : List α) (x : α) : atI (xs ++ [x]) (-1) = some x := by
  have h1 : idxOf (xs ++ [x]).length (-1) = some xs.length := by
    unfold idxOf
    rw [if_neg (by omega), if_pos (by simp; omega)]
    simp; omega
  unfold atI
  rw [h1]
  simp
def signs (m : Mch) : List Sgn := m.asks.map (fun w => [wAsk, w]) ++ m.says.map (fun w => [wSay, w]) ++ [[wHush]]
noncomputable def faceOf (m : Mch) (st : List Sgn) : List (List Nat) := st.foldl (behind m) (closed m (m.rooms.take 1))
theorem faceOf_snoc (m : Mch) (st : List Sgn) (s : Sgn) : faceOf m (st ++ [s]) = behind m (faceOf m st) s := by simp [faceOf]
theorem fold_inv {α β : Type} {f : α → β → α} {P : α → Prop} (h : ∀ a b, P a → P (f a b)) : ∀ (bs : List β) (a : α), P a → P (bs.foldl f a)
  | [], _, ha => ha
  | b :: bs, a, ha => fold_inv h bs (f a b) (h a b ha)
theorem closed_len (m : Mch) (s : List (List Nat)) : (closed m s).length ≤ m.rooms.length := (closed_sub m s).length_le
theorem behind_len {m : Mch} {f : List (List Nat)} {s : Sgn} (h : f.length ≤ m.rooms.length) : (behind m f s).length ≤ m.rooms.length := by
  unfold behind
  split
  · exact Nat.le_trans (List.length_filter_le _ _) h
  · exact closed_len _ _
theorem faceOf_len (m : Mch) (st : List Sgn) : (faceOf m st).length ≤ m.rooms.length :=
  fold_inv (f := behind m) (P := fun f => f.length ≤ m.rooms.length) (fun _ _ h => behind_len h) st _ (closed_len _ _)
end Pd
set_option linter.all false
set_option maxRecDepth 10000
namespace Pd
/-! what may come; what is foreseen -/
def hasDoor (m : Mch) (f : List (List Nat)) (s : Sgn) : Bool := decide (∃ d ∈ m.doors, d.r ∈ f ∧ d.s = s)
/-- what may come, what is foreseen -/
def mayCome (m : Mch) (f : List (List Nat)) : List Sgn := (m.says.filter fun w => hasDoor m f [wSay, w]).map (fun w => [wSay, w]) ++ if f.filter (quietB m) = [] then [] else [[wHush]]
def foreseenB (m : Mch) (f : List (List Nat)) : List (List Nat) := m.asks.filter fun w => hasDoor m f [wAsk, w]
structure Lfc where
  x : Tm
  st : List Sgn
def d_lface : Sg Lfc := ⟨fun x ss g => (∃ s1, ss = [.d x.x.d, s1] ∧ lookS g s1 = some (.o (.lst (x.st.map sg)))) ∧ Told g x.x ∧ MOk x.x.m, fun x g r g' => g' = g ∧ r = .d (.tup (T (faceOf x.x.m x.st))), fun _ _ _ _ => False⟩
end Pd
set_option linter.all false
set_option maxRecDepth 10000
namespace Pd
/-! where still doors end -/
end Pd
set_option Elab.async false
set_option linter.all false
namespace Pd
end Pd
set_option linter.all false
set_option maxRecDepth 10000
namespace Pd
/-! walks -/
@[simp] theorem ne_00 (g : G) : oNe g (.o (.lst [])) (.o (.lst [])) = some (.d (.bl false)) := by
  have := ne_sgs0 g []
  simpa using this
end Pd
set_option Elab.async false
set_option linter.all false
namespace Pd
end Pd
set_option linter.all false
set_option maxRecDepth 10000
namespace Pd
/-! walks that are looked for -/
abbrev Spot := Nat × List Nat
/-! the spots that are led to -/
def spots (m : Mch) (n : Nat) : List Spot := (List.range (n + 1)).flatMap fun k => m.rooms.map fun r => (k, r)
end Pd
set_option linter.all false
set_option maxRecDepth 10000
namespace Pd
/-! faces and walks -/
end Pd
set_option linter.all false
set_option maxRecDepth 10000
namespace Pd
end Pd
set_option Elab.async false
set_option linter.all false
namespace Pd
end Pd
set_option linter.all false
set_option maxRecDepth 10000
namespace Pd
/-! machines that are turned a little -/
/-- a room takes an ask -/
def Takes (m : Mch) (room ask : List Nat) : Prop := ∃ d ∈ m.doors, (d.r = room ∨ Reach m.doors room d.r) ∧ d.s = [wAsk, ask]
end Pd
set_option linter.all false
set_option maxRecDepth 10000
namespace Pd
/-! takers are asked for -/
end Pd
set_option Elab.async false
set_option linter.all false
namespace Pd
end Pd
set_option linter.all false
set_option maxRecDepth 10000
namespace Pd
/-! all signs; all faces -/
abbrev Fc := List (List Nat)
abbrev Sty := List Sgn
noncomputable def fadd (m : Mch) (f : Fc) (st : Sty) (L : List (Fc × Sty)) (s : Sgn) : List (Fc × Sty) := if behind m f s = [] ∨ behind m f s ∈ L.map (·.1) then L else L ++ [(behind m f s, st ++ [s])]
/-- the search for faces, as far as it is -/
inductive FS (m : Mch) : Nat → List (Fc × Sty) → Prop
  | start : FS m 0 [(closed m (m.rooms.take 1), [])]
  | next {n : Nat} {L : List (Fc × Sty)} {f : Fc} {st : Sty} : FS m n L → L[n]? = some (f, st) → ((signs m).foldl (fadd m f st) L).length ≤ 400 → FS m (n + 1) ((signs m).foldl (fadd m f st) L)
/-- an entry as it is held -/
structure FE where
  f : Fc
  st : Sty
  a : Nat
def FE.d (e : FE) : D := .tup [.tup (T e.f), .ref e.a]
end Pd
set_option linter.all false
set_option maxRecDepth 10000
namespace Pd
/-! what comes beyond; the pairs behind a pair; the paper of pairs -/
abbrev Pr := Fc × Fc
def prD (pr : Pr) : D := .tup [.tup (T pr.1), .tup (T pr.2)]
/-- rows of a paper -/
abbrev Row := List Nat × Fc
def addN {α : Type} [DecidableEq α] (L : List α) (x : α) : List α := if x ∈ L then L else L ++ [x]
def flat (prs : List Pr) : List Row := prs.flatMap fun pr => pr.1.map fun r => (r, pr.2)
end Pd
set_option linter.all false
set_option maxRecDepth 10000
namespace Pd
/-! all pairs; what keeps tells -/
/-- an entry as it is held -/
structure KE where
  pr : Pr
  st : Sty
  a : Nat
def KE.d (e : KE) : D := .tup [prD e.pr, .ref e.a]
def Wide (m : Mch) : Prop := ∃ n L f st, FS m n L ∧ L[n]? = some (f, st) ∧ 400 < ((signs m).foldl (fadd m f st) L).length
end Pd
set_option linter.all false
set_option maxRecDepth 10000
namespace Pd
/-! small machines are not too wide -/
theorem behind_subl {m : Mch} {f : Fc} {s : Sgn} (h : f.Sublist m.rooms) : (behind m f s).Sublist m.rooms := by
  unfold behind
  split
  · exact List.filter_sublist.trans h
  · exact closed_sub _ _
theorem faceOf_subl (m : Mch) (st : Sty) : (faceOf m st).Sublist m.rooms :=
  fold_inv (f := behind m) (P := fun f => f.Sublist m.rooms) (fun _ _ h => behind_subl h) st _ (closed_sub _ _)
end Pd
set_option Elab.async false
set_option linter.all false
namespace Pd
end Pd
set_option linter.all false
set_option maxRecDepth 10000
namespace Pd
/-! trials made from a model: how many -/
def nD (n : Nat) : D := .int (n : Int)
def kD : Option (List Nat) → D
  | none => .non
  | some a => .str a
def kinds (m : Mch) (f : Fc) : List (Option (List Nat)) := (foreseenB m f).map some ++ [none]
def kindsAll (m : Mch) : List (Option (List Nat)) := m.asks.map some ++ [none]
def partS (m : Mch) : Option (List Nat) → List Sgn
  | none => m.says.map (fun w => [wSay, w]) ++ [[wHush]]
  | some a => [wAsk, a] :: m.says.map (fun w => [wSay, w])
noncomputable def facesB (m : Mch) (f : Fc) (k : Option (List Nat)) : List Fc := (partS m k).map (behind m f)
def prodN : List Nat → Nat
  | [] => 1
  | x :: r => x * prodN r
noncomputable def count (m : Mch) : Nat → Fc → Nat
  | 0, _ => 1
  | d + 1, f => if f = [] then 1 else 1 + ((kinds m f).map fun k => prodN ((facesB m f k).map (count m d))).sum
theorem partS_len {m : Mch} (k : Option (List Nat)) (h : m.says.length ≤ 4) : (partS m k).length ≤ 5 := by
  cases k <;> simp [partS] <;> omega
/-! ### what is kept but at some places -/
def Kx (cs : List Nat) (g g' : G) : Prop := ∀ a u, a ∉ cs → g a = some u → g' a = some u
theorem Kx.upd {cs : List Nat} {g : G} {c : Nat} {o : O} (h : c ∈ cs) : Kx cs g (g.upd c o) := fun a u n e => by
  have : a ≠ c := fun z => n (by rw [z]; exact h)
  rw [G.upd_ne this]; exact e
/-! ### what is remembered -/
def mkF (p c b : Nat) : List (String × D) := [("model", .ref p), ("counts", .ref c), ("behinds", .ref b)]
@[simp] theorem mkF_p (p c b : Nat) : List.lookup "model" (mkF p c b) = some (.ref p) := rfl
@[simp] theorem mkF_c (p c b : Nat) : List.lookup "counts" (mkF p c b) = some (.ref c) := rfl
@[simp] theorem mkF_b (p c b : Nat) : List.lookup "behinds" (mkF p c b) = some (.ref b) := rfl
/-! ### the promises -/
end Pd
set_option linter.all false
set_option maxRecDepth 10000
namespace Pd
end Pd
set_option linter.all false
set_option maxRecDepth 10000
namespace Pd
end Pd
set_option linter.all false
set_option maxRecDepth 10000
namespace Pd
/-! what comes beyond, sign by sign; the search ends in one way -/
end Pd
set_option Elab.async false
set_option linter.all false
namespace Pd
end Pd
set_option Elab.async false
set_option linter.all false
namespace Pd
end Pd
set_option linter.all false
set_option maxRecDepth 10000
namespace Pd
/-! the law's faces and signs, told otherwise -/
end Pd
set_option linter.all false
set_option maxRecDepth 10000
namespace Pd
/-! charges: faces without doubles, sorted -/
def addU (L : List Sgn) (f : Sgn) : List Sgn := if f = [] then L else addN L f
def uniqF (fs : List Sgn) : List Sgn := fs.foldl addU []
/-- the faces of a charge -/
def sortU (fs : List Sgn) : List Sgn := sortT (uniqF fs)
end Pd
set_option linter.all false
set_option maxRecDepth 10000
namespace Pd
noncomputable def chargeB (m : Mch) (fs : List Sgn) (s : Sgn) : List Sgn := sortU (fs.map fun f => behind m f s)
noncomputable def hushC (m : Mch) (fs : List Sgn) : List Sgn := sortU (fs ++ chargeB m fs [wHush])
end Pd
set_option linter.all false
set_option maxRecDepth 10000
namespace Pd
/-! the law's charges -/
end Pd
set_option Elab.async false
set_option linter.all false
namespace Pd
end Pd
set_option linter.all false
set_option maxRecDepth 10000
namespace Pd
/-! the law's own counting -/
structure Tk where
  x : Tm
  k : Option (List Nat)
end Pd
set_option Elab.async false
set_option linter.all false
set_option maxRecDepth 10000
namespace Pd
/-! zip of three in a for -/
end Pd
set_option Elab.async false
set_option linter.all false
namespace Pd
end Pd
set_option linter.all false
set_option maxRecDepth 10000
namespace Pd
/-! the made trial of a number -/
def wBlame : List Nat := [98, 108, 97, 109, 101]
def wEnd : List Nat := [101, 110, 100]
def wWait : List Nat := [119, 97, 105, 116]
def wTell : List Nat := [116, 101, 108, 108]
def blameD : D := .tup [.str wBlame]
def endD : D := .tup [.str wEnd]
def asm (m : Mch) : Option (List Nat) → List D → D
  | none, ps => .tup [.str wWait, .tup (pairUp (T m.says) ps.dropLast), ps.getLast?.getD .non]
  | some a, ps => .tup [.str wTell, .str a, ps.head?.getD .non, .tup (pairUp (T m.says) ps.tail)]
def digs : List Nat → Nat → List Nat
  | [], _ => []
  | s :: r, i => (i / prodN r) % s :: digs r i
noncomputable def sizesOf (m : Mch) (d : Nat) (f : Fc) (k : Option (List Nat)) : List Nat := (facesB m f k).map (count m d)
theorem asm_tup (m : Mch) (k : Option (List Nat)) (ps : List D) : ∃ l, asm m k ps = .tup l := by cases k <;> exact ⟨_, rfl⟩
/-! ### weights -/
end Pd
set_option linter.all false
set_option maxRecDepth 10000
namespace Pd
/-! building the trial of a number -/
end Pd
set_option linter.all false
set_option maxRecDepth 10000
namespace Pd
/-! the law's own building -/
/-! laid from behind -/
def pz (e : Sgn × Nat) : D := .tup [sg e.1, nD e.2]
end Pd
set_option Elab.async false
set_option linter.all false
namespace Pd
end Pd
set_option linter.all false
set_option maxRecDepth 10000
namespace Pd
/-! trials that are made: what they look like; their pieces -/
def TrOk (m : Mch) : Nat → D → Prop
  | 0, x => x = endD ∨ x = blameD
  | d + 1, x => x = endD ∨ x = blameD ∨ ∃ k ps, k ∈ kindsAll m ∧ ps.length = (partS m k).length ∧ (∀ p ∈ ps, TrOk m d p) ∧ x = asm m k ps
theorem pairs_eq (ws : List (List Nat)) (ls : List (List D)) : pairUp (T ws) (ls.map D.tup) = (ws.zip ls).map fun e => D.tup [.str e.1, .tup e.2] := pairUp_map D.str D.tup ws ls
theorem tup_list {ps : List D} (h : ∀ x ∈ ps, ∃ l, x = .tup l) : ∃ ls : List (List D), ps = ls.map D.tup := by
  induction ps with
  | nil => exact ⟨[], rfl⟩
  | cons x ps ih =>
    obtain ⟨l, rfl⟩ := h x (by simp)
    obtain ⟨ls, rfl⟩ := ih fun y hy => h y (by simp [hy])
    exact ⟨l :: ls, rfl⟩
theorem TrOk.tup {m : Mch} : ∀ {d : Nat} {x : D}, TrOk m d x → ∃ l, x = .tup l
  | 0, x, h => by
    unfold TrOk at h
    rcases h with rfl | rfl <;> exact ⟨_, rfl⟩
  | d + 1, x, h => by
    unfold TrOk at h
    rcases h with rfl | rfl | ⟨k, ps, _, _, _, rfl⟩
    · exact ⟨_, rfl⟩
    · exact ⟨_, rfl⟩
    · exact asm_tup m k ps
end Pd
set_option linter.all false
set_option maxRecDepth 10000
namespace Pd
/-! the number of a made trial; deeper ones in order -/
def comb : List Nat → List Nat → Nat
  | x :: xs, _ :: ss => x * prodN ss + comb xs ss
  | _, _ => 0
/-! one deeper -/
def upK {α : Type} (sz sz' : α → Nat) (mix : α → Nat → Nat) : List α → Nat → Nat
  | [], _ => 0
  | k :: r, i => if i < sz k then mix k i else sz' k + upK sz sz' mix r (i - sz k)
noncomputable def up (m : Mch) : Nat → Fc → Nat → Nat
  | 0, _, _ => 0
  | d + 1, f, i => if f = [] ∨ i = 0 then 0 else 1 + upK (fun k => prodN (sizesOf m d f k)) (fun k => prodN (sizesOf m (d + 1) f k))
      (fun k j => comb (List.zipWith (up m d) (facesB m f k) (digs (sizesOf m d f k) j)) (sizesOf m (d + 1) f k)) (kinds m f) (i - 1)
end Pd
set_option Elab.async false
set_option linter.all false
namespace Pd
end Pd
set_option linter.all false
set_option maxRecDepth 10000
namespace Pd
/-! made trials are plain; made_by; a far number -/
theorem pairUp_mem : ∀ {xs ys : List D} {d : D}, d ∈ pairUp xs ys → ∃ x y, x ∈ xs ∧ y ∈ ys ∧ d = .tup [x, y]
  | [], _, _, h => by simp [pairUp] at h
  | _ :: _, [], _, h => by simp [pairUp] at h
  | x :: xs, y :: ys, d, h => by
    rcases List.mem_cons.mp (by simpa [pairUp] using h) with e | e
    · exact ⟨x, y, by simp, by simp, e⟩
    · obtain ⟨x', y', h1, h2, h3⟩ := pairUp_mem e
      exact ⟨x', y', by simp [h1], by simp [h2], h3⟩
def plainT (n : Nat) (x : D) : Prop := x.pure = true ∧ x.depth ≤ n
theorem plain_mono {n n' : Nat} {x : D} (h : plainT n x) (l : n ≤ n') : plainT n' x := ⟨h.1, Nat.le_trans h.2 l⟩
theorem plain_tup {n : Nat} {xs : List D} (h : ∀ x ∈ xs, plainT n x) : plainT (n + 1) (.tup xs) :=
  ⟨pures_all fun x hx => (h x hx).1, by show D.depths xs + 1 ≤ n + 1; have := depths_of fun x hx => (h x hx).2; omega⟩
theorem plain_str (n : Nat) (s : List Nat) : plainT n (.str s) := ⟨rfl, Nat.zero_le _⟩
theorem plain_non (n : Nat) : plainT n .non := ⟨rfl, Nat.zero_le _⟩
theorem plain_pairs {n : Nat} {ws : List (List Nat)} {ps : List D} (h : ∀ x ∈ ps, plainT n x) : plainT (n + 2) (.tup (pairUp (T ws) ps)) := plain_tup fun d hd => by
  obtain ⟨x, y, h1, h2, rfl⟩ := pairUp_mem hd
  obtain ⟨w, _, rfl⟩ := List.mem_map.mp h1
  exact plain_tup fun z hz => by
    simp at hz
    rcases hz with rfl | rfl
    · exact plain_str _ _
    · exact h _ h2
theorem plain_asm {n : Nat} (m : Mch) (k : Option (List Nat)) {ps : List D} (h : ∀ x ∈ ps, plainT n x) : plainT (n + 3) (asm m k ps) := by
  cases k with
  | none =>
    refine plain_tup fun z hz => ?_
    simp at hz
    rcases hz with rfl | rfl | rfl
    · exact plain_str _ _
    · exact plain_pairs fun x hx => h x ((List.dropLast_sublist ps).subset hx)
    · cases e : ps.getLast? with
      | none => exact plain_non _
      | some z => exact plain_mono (h z (List.mem_of_getLast? e)) (by omega)
  | some a =>
    refine plain_tup fun z hz => ?_
    simp at hz
    rcases hz with rfl | rfl | rfl | rfl
    · exact plain_str _ _
    · exact plain_str _ _
    · cases e : ps.head? with
      | none => exact plain_non _
      | some z => exact plain_mono (h z (List.mem_of_mem_head? e)) (by omega)
    · exact plain_pairs fun x hx => h x (List.mem_of_mem_tail hx)
/-! a far number -/
end Pd
set_option Elab.async false
set_option linter.all false
namespace Pd
/-- inner(trial) -/
def b_inner : WS :=
  (sSeq (sIf (tAnd (tV (eBin oEq (eBin oIx (eVar 0) (eC (.int 0))) (eC (.str [116, 101, 108, 108])))) (tV (eBin oEq (eUn oLen (eVar 0)) (eC (.int 4))))) (sRet (eBin oAdd (eLst (dCons (eBin oIx (eVar 0) (eC (.int 2))) dNil)) (eComp [2, 1] (iIt (eNs (eBin oIx (eVar 0) (eC (.int 3))))) (gTup [(gName 2), (gName 1)]) tYes (eVar 1)))) sNx) (sSeq (sIf (tAnd (tV (eBin oEq (eBin oIx (eVar 0) (eC (.int 0))) (eC (.str [119, 97, 105, 116])))) (tV (eBin oEq (eUn oLen (eVar 0)) (eC (.int 3))))) (sRet (eBin oAdd (eComp [2, 1] (iIt (eNs (eBin oIx (eVar 0) (eC (.int 1))))) (gTup [(gName 2), (gName 1)]) tYes (eVar 1)) (eLst (dCons (eBin oIx (eVar 0) (eC (.int 2))) dNil)))) sNx) (sRet (eLst dNil))))
/-- is_so(model, trial) -/
def b_is_so (φ_Machine_asks φ_Machine_says : SpD) : WS :=
  (sSeq (sIf (tAnd (tV (eBin oEq (eBin oIx (eVar 1) (eC (.int 0))) (eC (.str [116, 101, 108, 108])))) (tV (eBin oEq (eUn oLen (eVar 1)) (eC (.int 4))))) (sRet (eAnd (eBin oIn (eBin oIx (eVar 1) (eC (.int 1))) (eMeth "Machine" "asks" φ_Machine_asks [] (eVar 0) aNil)) (eBin oEq (eComp [3, 2] (iIt (eNs (eBin oIx (eVar 1) (eC (.int 3))))) (gTup [(gName 3), (gName 2)]) tYes (eVar 3)) (eMeth "Machine" "says" φ_Machine_says [] (eVar 0) aNil)))) sNx) (sSeq (sIf (tAnd (tV (eBin oEq (eBin oIx (eVar 1) (eC (.int 0))) (eC (.str [119, 97, 105, 116])))) (tV (eBin oEq (eUn oLen (eVar 1)) (eC (.int 3))))) (sRet (eBin oEq (eComp [3, 2] (iIt (eNs (eBin oIx (eVar 1) (eC (.int 1))))) (gTup [(gName 3), (gName 2)]) tYes (eVar 3)) (eMeth "Machine" "says" φ_Machine_says [] (eVar 0) aNil))) sNx) (sRet (eOr (eBin oEq (eVar 1) (eTup (dCons (eC (.str [101, 110, 100])) dNil))) (eBin oEq (eVar 1) (eTup (dCons (eC (.str [98, 108, 97, 109, 101])) dNil)))))))
/-- need_trial(model, trial) -/
def b_need_trial (φ_is_so φ_inner : SpD) : WS :=
  (sSeq (sSet 2 (eLst (dCons (eTup (dCons (eVar 1) (dCons (eTup dNil) dNil))) dNil))) (sSeq (sSet 3 (eC (.int 0))) (sSeq (sSet 4 (eLst dNil)) (sSeq (sWhile (tV (eBin oNe (eVar 2) (eLst dNil))) (sSeq (sUnp (gTup [(gName 5), (gName 6)]) (eMut mPop (eVar 2) dNil)) (sSeq (sSet 3 (eBin oAdd (eVar 3) (eC (.int 1)))) (sSeq (sIf (tOr (tV (eBin oGt (eVar 3) (eC (.int 1000)))) (tV (eBin oGe (eUn oLen (eVar 6)) (eC (.int 8))))) (sRaise "NoTrial" ["way"] (dCons (eTup dNil) dNil)) sNx) (sSeq (sIf (tNot (tV (eCall φ_is_so [false, false] (aCons (eVar 0) (aCons (eVar 5) aNil))))) (sE (eMut mAppend (eVar 4) (dCons (eVar 6) dNil))) sNx) (sFor (iEnum (eNs (eCall φ_inner [false] (aCons (eVar 5) aNil)))) (gTup [(gName 7), (gName 8)]) (sE (eMut mAppend (eVar 2) (dCons (eTup (dCons (eVar 8) (dCons (eBin oAdd (eVar 6) (eTup (dCons (eVar 7) dNil))) dNil))) dNil))))))))) (sIf (tV (eBin oNe (eVar 4) (eLst dNil))) (sRaise "NoTrial" ["way"] (dCons (eUn oMinL (eVar 4)) dNil)) sNx)))))
end Pd
set_option linter.all false
set_option maxRecDepth 10000
namespace Pd
/-! the number of a trial -/
end Pd
set_option linter.all false
set_option maxRecDepth 10000
namespace Pd
/-! number_at -/
end Pd
set_option linter.all false
set_option maxRecDepth 10000
namespace Pd
/-! what stands of a search that is over; papers -/
/-! papers that stand -/
end Pd
set_option linter.all false
set_option maxRecDepth 10000
namespace Pd
/-! rows that stand; is it a keeping -/
end Pd
set_option Elab.async false
set_option linter.all false
namespace Pd
end Pd
set_option linter.all false
set_option maxRecDepth 10000
namespace Pd
/-! the law's own rows and papers -/
end Pd
set_option linter.all false
set_option maxRecDepth 10000
namespace Pd
/-! the greatest paper -/
end Pd
set_option linter.all false
set_option maxRecDepth 10000
namespace Pd
/-! the order of stories -/
/-! a search in breadth -/
section
variable {α : Type} [DecidableEq α]
end
end Pd
set_option linter.all false
set_option maxRecDepth 10000
namespace Pd
/-! the two searches; the told fault is the least -/
end Pd
set_option Elab.async false
set_option linter.all false
namespace Pd
end Pd
set_option linter.all false
set_option maxRecDepth 10000
namespace Pd
/-! the law's own keys of stories -/
end Pd
set_option linter.all false
set_option maxRecDepth 10000
namespace Pd
/-! keeps of small takers -/
end Pd
set_option linter.all false
set_option maxRecDepth 10000
namespace Pd
/-! two machines behind one door -/
end Pd
set_option linter.all false
set_option maxRecDepth 10000
namespace Pd
end Pd
set_option linter.all false
set_option maxRecDepth 10000
namespace Pd
/-! the machine of both -/
end Pd
set_option linter.all false
set_option maxRecDepth 10000
namespace Pd
/-! loops over numbered lists; a text's place in a list of texts -/
theorem for_enum {α : Type} {tg : WG} {b : WS} {Dn : Ends} {ok : Psi → G → Prop} (emb : α → D) (xs : List α) (I : List α → Psi → G → Prop)
    (step : ∀ (done : List α) (x : α) (rest : List α), xs = done ++ x :: rest → ∀ (ψ : Psi) (g : G) (K : Psi → G → Prop), I done ψ g → (∀ ψ' g', I (done ++ [x]) ψ' g' → K ψ' g') →
      tg (.tup [.int (done.length : Int), emb x]) ψ g fun ψ g => b ⟨fun ψ' g' => ∃ g2, G.le g2 g' ∧ ok ψ' g2 ∧ K ψ' g2, Dn.rt, Dn.nx, fun ψ' g' => ∃ g2, G.le g2 g' ∧ ok ψ' g2 ∧ K ψ' g2, Dn.ex⟩ ψ g)
    (fin : ∀ ψ g, I xs ψ g → Dn.nx ψ g) (ψ : Psi) (g : G) (h : I [] ψ g) : forL tg b Dn ok (numbered 0 (xs.map emb)) ψ g := by
  refine for_ind (fun rest ψ g => ∃ done cs, xs = done ++ cs ∧ rest = numbered done.length (cs.map emb) ∧ I done ψ g) ?_ ?_ _ _ _ ⟨[], xs, rfl, rfl, h⟩
  · rintro y ys ψ g K ⟨done, cs, e1, e2, hI⟩ hK
    cases cs with
    | nil => cases e2
    | cons x cs =>
      obtain ⟨rfl, rfl⟩ := List.cons.inj e2
      exact step done x cs e1 ψ g K hI fun ψ' g' h' => hK _ _ ⟨done ++ [x], cs, by simp [e1], by simp, h'⟩
  · rintro ψ g ⟨done, cs, e1, e2, hI⟩
    have : cs = [] := by cases cs with | nil => rfl | cons => cases e2
    subst this
    rw [List.append_nil] at e1
    exact fin ψ g (e1 ▸ hI)
end Pd
set_option linter.all false
set_option maxRecDepth 10000
namespace Pd
/-! need_trial -/
structure In2 where
  m : Mch
  v : List D
  ls : List (List D)
def Shape (m : Mch) (v : List D) (ls : List (List D)) : Prop := ((v = [.str wEnd] ∨ v = [.str wBlame]) ∧ ls = []) ∨ ∃ k, k ∈ kindsAll m ∧ ls.length = (partS m k).length ∧ D.tup v = asm m k (ls.map D.tup)
def d_inner : Sg In2 := ⟨fun x ss g => ss = [.d (.tup x.v)] ∧ x.m.says.length ≤ 4 ∧ Shape x.m x.v x.ls, fun x g r g' => g' = g ∧ r = .own (.lst (x.ls.map D.tup)), fun _ _ _ _ => False⟩
theorem shape_asm {m : Mch} {v : List D} {ls : List (List D)} {k : Option (List Nat)} (hl : ls.length = (partS m k).length) (e : D.tup v = asm m k (ls.map D.tup)) :
    (k = none ∧ ∃ li z, ls = li ++ [z] ∧ li.length = m.says.length ∧ v = [.str wWait, .tup ((m.says.zip li).map fun e => D.tup [.str e.1, .tup e.2]), .tup z]) ∨ ∃ a z li, k = some a ∧ ls = z :: li ∧ li.length = m.says.length ∧ v = [.str wTell, .str a, .tup z, .tup ((m.says.zip li).map fun e => D.tup [.str e.1, .tup e.2])] := by
  cases k with
  | none =>
    have hl : ls.length = m.says.length + 1 := by rw [hl]; simp [partS]
    obtain ⟨li, z, rfl⟩ : ∃ li z, ls = li ++ [z] := by
      rcases List.eq_nil_or_concat ls with e | ⟨li, z, e⟩
      · rw [e] at hl; simp at hl
      · exact ⟨li, z, by simpa using e⟩
    refine .inl ⟨rfl, li, z, rfl, by simp at hl; omega, ?_⟩
    rw [List.map_append, List.map_cons, List.map_nil] at e
    have e : D.tup v = D.tup [.str wWait, .tup (pairUp (T m.says) ((li.map D.tup ++ [D.tup z]).dropLast)), ((li.map D.tup ++ [D.tup z]).getLast?.getD .non)] := e
    rw [List.dropLast_concat, pairs_eq] at e
    simpa using e
  | some a =>
    have hl : ls.length = m.says.length + 1 := by rw [hl]; simp [partS]
    obtain ⟨z, li, rfl⟩ : ∃ z li, ls = z :: li := by
      cases ls with
      | nil => simp at hl
      | cons z li => exact ⟨z, li, rfl⟩
    refine .inr ⟨a, z, li, rfl, rfl, by simp at hl; omega, ?_⟩
    have e : D.tup v = D.tup [.str wTell, .str a, D.tup z, .tup (pairUp (T m.says) (li.map D.tup))] := e
    rw [pairs_eq] at e
    simpa using e
theorem zip_sec {ws : List (List Nat)} {li : List (List D)} (h : li.length = ws.length) : (ws.zip li).map (fun e => D.tup e.2) = li.map D.tup := by
  have := congrArg (List.map D.tup) (List.map_snd_zip (l₁ := ws) (l₂ := li) (by omega))
  rw [List.map_map] at this; exact this
theorem zip_fst {ws : List (List Nat)} {li : List (List D)} (h : li.length = ws.length) : (ws.zip li).map (fun e => D.str e.1) = T ws := by
  have := congrArg (List.map D.str) (List.map_fst_zip (l₁ := ws) (l₂ := li) (by omega))
  rw [List.map_map] at this; exact this
theorem k_inner : Keeps d_inner.wp b_inner 3 := by
  rintro ss g E Q ⟨⟨m, v, ls⟩, ⟨rfl, hsl, hsh⟩, hq, _⟩
  have h8 := most_is
  simp only at hsl hsh
  have fin : ∃ g2, G.le g2 g ∧ Q (.own (.lst (ls.map D.tup))) g2 := ret_now (hq _ _ ⟨rfl, rfl⟩)
  rcases hsh with ⟨hv, rfl⟩ | ⟨k, hk, hl, e⟩
  · rcases hv with rfl | rfl
    · simp [b_inner, begin_, wEnd]
      rw [s_sSeq]; simp
      rw [s_sSeq]; simp
      exact fin
    · simp [b_inner, begin_, wBlame]
      rw [s_sSeq]; simp
      rw [s_sSeq]; simp
      exact fin
  · rcases shape_asm hl e with ⟨rfl, li, z, rfl, hll, rfl⟩ | ⟨a, z, li, rfl, rfl, hll, rfl⟩
    · have hzl : (m.says.zip li).length ≤ 16000000 := by simp; omega
      simp [b_inner, begin_, wWait]
      rw [s_sSeq]; simp
      rw [s_sSeq]; simp [lendAll, lend, wipe]
      refine comp_all (fun e : List Nat × List D => D.tup [.str e.1, .tup e.2]) (fun e => D.tup e.2) (m.says.zip li) hzl ?_ ?_
      · intro w hw acc K ha h1
        simp [ha]
        simpa using h1
      rw [zip_sec hll]
      simp
      exact ⟨by omega, by simpa using fin⟩
    · have hzl : (m.says.zip li).length ≤ 16000000 := by simp; omega
      simp [b_inner, begin_, wTell]
      rw [s_sSeq]; simp [lendAll, lend, wipe]
      refine comp_all (fun e : List Nat × List D => D.tup [.str e.1, .tup e.2]) (fun e => D.tup e.2) (m.says.zip li) hzl ?_ ?_
      · intro w hw acc K ha h1
        simp [ha]
        simpa using h1
      rw [zip_sec hll]
      simp
      exact ⟨by omega, by simpa using fin⟩
structure Is2 where
  p : Nat
  m : Mch
  v : List D
  ls : List (List D)
def d_isso : Sg Is2 := ⟨fun x ss g => ss = [.d (.ref x.p), .d (.tup x.v)] ∧ MachD g x.p x.m ∧ GM x.m 6 ∧ Shape x.m x.v x.ls, fun x g r g' => g' = g ∧ r = .d (.bl true), fun _ _ _ _ => False⟩
theorem k_isso : Keeps d_isso.wp (b_is_so d_asksD.wp d_saysD.wp) 4 := by
  rintro ss g E Q ⟨⟨p, m, v, ls⟩, ⟨rfl, hM, gm, hsh⟩, hq, _⟩
  have h8 := most_is
  have hM : MachD g p m := hM
  have gm : GM m 6 := gm
  have hsl := gm.sl
  simp only at hsh
  have fin : ∃ g2, G.le g2 g ∧ Q (.d (.bl true)) g2 := ret_now (hq _ _ ⟨rfl, rfl⟩)
  rcases hsh with ⟨hv, rfl⟩ | ⟨k, hk, hl, e⟩
  · rcases hv with rfl | rfl
    · simp [b_is_so, begin_, wEnd]
      rw [s_sSeq]; simp
      rw [s_sSeq]; simp
      exact fin
    · simp [b_is_so, begin_, wBlame]
      rw [s_sSeq]; simp
      rw [s_sSeq]; simp
      exact fin
  · rcases shape_asm hl e with ⟨rfl, li, z, rfl, hll, rfl⟩ | ⟨a, z, li, rfl, rfl, hll, rfl⟩
    · have hzl : (m.says.zip li).length ≤ 16000000 := by simp; omega
      simp [b_is_so, begin_, wWait]
      rw [s_sSeq]; simp
      rw [s_sSeq]; simp [lendAll, lend, wipe]
      refine comp_all (fun e : List Nat × List D => D.tup [.str e.1, .tup e.2]) (fun e => D.str e.1) (m.says.zip li) hzl ?_ ?_
      · intro w hw acc K ha h1
        simp [ha]
        simpa using h1
      rw [zip_fst hll]
      simp
      refine ⟨hM.ins rfl, ?_⟩
      refine call_of ⟨p, m⟩ ⟨rfl, hM⟩ ?_
      rintro r g2 ⟨rfl, rfl⟩
      simp
      exact fin
    · have hzl : (m.says.zip li).length ≤ 16000000 := by simp; omega
      have ham : a ∈ m.asks := by
        rcases List.mem_append.mp hk with h | h
        · obtain ⟨w, hw, ew⟩ := List.mem_map.mp h; cases ew; exact hw
        · cases List.mem_singleton.mp h
      simp [b_is_so, begin_, wTell]
      rw [s_sSeq]; simp [lendAll, lend, wipe]
      refine ⟨hM.ins rfl, ?_⟩
      refine call_of ⟨p, m⟩ ⟨rfl, hM⟩ ?_
      rintro r g2 ⟨rfl, rfl⟩
      simp [ham, lendAll, lend, wipe]
      refine comp_all (fun e : List Nat × List D => D.tup [.str e.1, .tup e.2]) (fun e => D.str e.1) (m.says.zip li) hzl ?_ ?_
      · intro w hw acc K ha h1
        simp [ha]
        simpa using h1
      rw [zip_fst hll]
      simp
      refine ⟨hM.ins rfl, ?_⟩
      refine call_of ⟨p, m⟩ ⟨rfl, hM⟩ ?_
      rintro r g3 ⟨rfl, rfl⟩
      simp
      exact fin
/-- its trials counted -/
def TrN (m : Mch) : Nat → D → Nat → Prop
  | 0, x, n => (x = endD ∨ x = blameD) ∧ n = 1
  | d + 1, x, n => ((x = endD ∨ x = blameD) ∧ n = 1) ∨ ∃ (k : Option (List Nat)) (ls : List (List D)) (ns : List Nat), k ∈ kindsAll m ∧ ls.length = (partS m k).length ∧ ns.length = ls.length ∧ (∀ z ∈ ls.zip ns, TrN m d (.tup z.1) z.2) ∧ n = 1 + ns.sum ∧ x = asm m k (ls.map D.tup)
def nb : Nat → Nat
  | 0 => 1
  | d + 1 => 1 + 5 * nb d
theorem nb_pos (d : Nat) : 1 ≤ nb d := by cases d <;> simp [nb]
theorem trn_of {m : Mch} (hs : m.says.length ≤ 4) : ∀ {d : Nat} {x : D}, TrOk m d x → ∃ n, n ≤ nb d ∧ TrN m d x n
  | 0, x, h => ⟨1, Nat.le_refl _, h, rfl⟩
  | d + 1, x, h => by
    unfold TrOk at h
    rcases h with e | e | ⟨k, ps, h1, h2, h3, rfl⟩
    · exact ⟨1, nb_pos _, .inl ⟨.inl e, rfl⟩⟩
    · exact ⟨1, nb_pos _, .inl ⟨.inr e, rfl⟩⟩
    · obtain ⟨ls, rfl⟩ := tup_list fun x hx => (h3 x hx).tup
      have h5 := partS_len k hs
      have key : ∀ ls : List (List D), (∀ p ∈ ls, TrOk m d (.tup p)) → ∃ ns : List Nat, ns.length = ls.length ∧ (∀ z ∈ ls.zip ns, TrN m d (.tup z.1) z.2) ∧ ns.sum ≤ ls.length * nb d := by
        intro ls
        induction ls with
        | nil => intro _; exact ⟨[], rfl, by simp, by simp⟩
        | cons l ls ih =>
          intro h
          obtain ⟨n, hn, ht⟩ := trn_of hs (h l (by simp))
          obtain ⟨ns, q1, q2, q3⟩ := ih fun p hp => h p (by simp [hp])
          refine ⟨n :: ns, by simp [q1], fun z hz => ?_, ?_⟩
          · rcases List.mem_cons.mp (by simpa using hz) with e | e
            · rw [e]; exact ht
            · exact q2 z e
          · rw [List.sum_cons, List.length_cons, Nat.add_mul]; omega
      obtain ⟨ns, q1, q2, q3⟩ := key ls fun p hp => h3 _ (List.mem_map_of_mem hp)
      have h6 : ls.length ≤ 5 := by simp at h2; omega
      have h7 := Nat.mul_le_mul_right (nb d) h6
      exact ⟨1 + ns.sum, by unfold nb; omega, .inr ⟨k, ls, ns, h1, by simpa using h2, q1, q2, rfl, rfl⟩⟩
theorem TrN.plain {m : Mch} : ∀ {d : Nat} {x : D} {n : Nat}, TrN m d x n → plainT (3 * d + 1) x
  | 0, x, n, h => by
    rcases h.1 with rfl | rfl <;> exact plain_tup fun x hx => by simp at hx; rw [hx]; exact plain_str _ _
  | d + 1, x, n, h => by
    unfold TrN at h
    rcases h with ⟨h, _⟩ | ⟨k, ls, ns, h1, h2, h3, h4, _, rfl⟩
    · rcases h with rfl | rfl <;> exact plain_tup fun x hx => by simp at hx; rw [hx]; exact plain_str _ _
    · refine plain_asm (n := 3 * d + 1) m k fun x hx => ?_
      obtain ⟨l, hl, rfl⟩ := List.mem_map.mp hx
      obtain ⟨i, hi, rfl⟩ := List.getElem_of_mem hl
      have : (ls[i], ns[i]'(by omega)) ∈ ls.zip ns := by
        rw [List.mem_iff_getElem]
        exact ⟨i, by simp; omega, by simp⟩
      exact (h4 _ this).plain
theorem TrN.pos {m : Mch} : ∀ {d : Nat} {x : D} {n : Nat}, TrN m d x n → 1 ≤ n
  | 0, x, n, h => by rw [h.2]; exact Nat.le_refl _
  | d + 1, x, n, h => by
    unfold TrN at h
    rcases h with ⟨_, h⟩ | ⟨k, ls, ns, _, _, _, _, h, _⟩ <;> omega
theorem TrN.shape {m : Mch} {d n : Nat} {v : List D} (h : TrN m d (.tup v) n) : ∃ (ls : List (List D)) (ns : List Nat), Shape m v ls ∧ ns.length = ls.length ∧ n = 1 + ns.sum ∧ ∀ z ∈ ls.zip ns, ∃ d', d = d' + 1 ∧ TrN m d' (.tup z.1) z.2 := by
  have base : (D.tup v = endD ∨ D.tup v = blameD) → v = [.str wEnd] ∨ v = [.str wBlame] := fun h => by
    rcases h with h | h
    · exact .inl (by simpa [endD] using h)
    · exact .inr (by simpa [blameD] using h)
  cases d with
  | zero => exact ⟨[], [], .inl ⟨base h.1, rfl⟩, rfl, by rw [h.2]; rfl, by simp⟩
  | succ d =>
    unfold TrN at h
    rcases h with ⟨h, e⟩ | ⟨k, ls, ns, h1, h2, h3, h4, h5, h6⟩
    · exact ⟨[], [], .inl ⟨base h, rfl⟩, rfl, by rw [e]; rfl, by simp⟩
    · exact ⟨ls, ns, .inr ⟨k, h1, h2, h6⟩, h3, h5, fun z hz => ⟨d, rfl, h4 z hz⟩⟩
structure Due where
  v : List D
  w : List Nat
  d : Nat
  n : Nat
def Due.e (x : Due) : D := .tup [.tup x.v, .tup (x.w.map nD)]
def DueOk (m : Mch) (x : Due) : Prop := TrN m x.d (.tup x.v) x.n ∧ x.w.length + x.d ≤ 7
theorem DueOk.plain {m : Mch} {x : Due} (h : DueOk m x) : plainT 50 x.e := by
  have hd : x.d ≤ 7 := by have := h.2; omega
  have h1 := plain_mono h.1.plain (n' := 49) (by omega)
  refine plain_tup (n := 49) fun z hz => ?_
  simp [Due.e] at hz
  rcases hz with rfl | rfl
  · exact h1
  · refine plain_mono (plain_tup (n := 0) fun y hy => ?_) (by omega)
    obtain ⟨u, _, rfl⟩ := List.mem_map.mp hy
    exact ⟨rfl, Nat.le_refl _⟩
theorem ne_nilP {g : G} {xs : List D} (h : ∀ x ∈ xs, plainT 50 x) : oNe g (.o (.lst xs)) (.o (.lst [])) = some (.d (.bl (!decide (xs = [])))) := by
  have d : (D.rol xs).depth ≤ 60 := by
    show D.depths xs + 1 ≤ 60
    have : D.depths xs ≤ 50 := depths_of fun x hx => (h x hx).2
    omega
  have e : eqC g (.o (.lst xs)) (.o (.lst [])) = match rsvC g (.o (.lst xs)), rsvC g (.o (.lst [])) with
    | some x, some y => if x.depth ≤ 60 ∧ y.depth ≤ 60 then some (decide (x = y)) else none
    | _, _ => none := rfl
  have r0 : xs.mapM (rsv 6 g) = some xs := by
    clear e d
    induction xs with
    | nil => rfl
    | cons x r ih =>
      have e : rsv 6 g x = some x := by unfold rsv; rw [if_pos (h x (by simp)).1]
      simp [e, ih fun y hy => h y (by simp [hy])]
  have r1 : rsvC g (.o (.lst xs)) = some (.rol xs) := by
    show (xs.mapM (rsv 6 g)).map D.rol = _
    rw [r0]; rfl
  have r2 : rsvC g (.o (.lst [])) = some (.rol []) := rfl
  unfold oNe
  rw [e, r1, r2]
  simp only
  rw [if_pos ⟨d, by decide⟩]
  show some (R.d (.bl (!decide (D.rol xs = .rol [])))) = _
  congr 4
  cases xs <;> simp
theorem len_sum : ∀ {L : List Due}, (∀ x ∈ L, 1 ≤ x.n) → L.length ≤ (L.map (·.n)).sum
  | [], _ => Nat.le_refl _
  | x :: L, h => by
    have := len_sum (L := L) fun y hy => h y (by simp [hy])
    have := h x (by simp)
    rw [List.map_cons, List.sum_cons, List.length_cons]; omega
structure Nty where
  p : Nat
  m : Mch
  v : List D
def d_needtrial : Sg Nty := ⟨fun x ss g => ss = [.d (.ref x.p), .d (.tup x.v)] ∧ MachD g x.p x.m ∧ GM x.m 6 ∧ ∃ d n, d ≤ 7 ∧ n ≤ 1000 ∧ TrN x.m d (.tup x.v) n, fun x g r g' => g' = g ∧ r = .d .non, fun _ _ _ _ => False⟩
theorem k_needtrial : Keeps d_needtrial.wp (b_need_trial d_isso.wp d_inner.wp) 9 := by
  rintro ss g E Q ⟨⟨p, m, v⟩, ⟨rfl, hM, gm, d, n, hd, hn, ht⟩, hq, _⟩
  have h8 := most_is
  have hM : MachD g p m := hM
  have gm : GM m 6 := gm
  have hsl := gm.sl
  simp only at ht
  have fin : ∃ g2, G.le g2 g ∧ Q (.d .non) g2 := ret_now (hq _ _ ⟨rfl, rfl⟩)
  simp [b_need_trial, begin_]
  rw [s_sSeq]; simp
  rw [s_sSeq]; simp
  rw [s_sSeq]; simp
  refine seq_of (fun ψ g2 => g2 = g ∧ ∃ t2 t3 t5 t6 t7 t8 : Option Sl, ψ = [some (.d (.ref p)), some (.d (.tup v)), t2, t3, some (.own (.lst [])), t5, t6, t7, t8]) (fun nx hx => ?_) ?_
  rotate_left
  · rintro ψ g2 ⟨rfl, t2, t3, t5, t6, t7, t8, rfl⟩
    have e := ne_nilP (g := g2) (xs := []) (by simp)
    simp at e
    simp [e]
    exact fin
  refine while_ind (fun N ψ g2 => g2 = g ∧ ∃ (L : List Due) (many : Nat) (t5 t6 t7 t8 : Option Sl), (∀ x ∈ L, DueOk m x) ∧ many + (L.map (·.n)).sum ≤ 1000 ∧ N = (L.map (·.n)).sum ∧ ψ = [some (.d (.ref p)), some (.d (.tup v)), some (.own (.lst (L.map Due.e))), some (.d (.int (many : Int))), some (.own (.lst [])), t5, t6, t7, t8]) ?_ n _ _ ⟨rfl, [⟨v, [], d, n⟩], 0, none, none, none, none, fun x hx => (by simp at hx; subst hx; exact ⟨ht, by simp; omega⟩), by simp; omega, by simp, by simp [Due.e]⟩
  rintro N ψ g2 K ⟨rfl, L, many, t5, t6, t7, t8, hL, hsum, hN, rfl⟩ hK
  have hLp : ∀ x ∈ L.map Due.e, plainT 50 x := fun x hx => by
    obtain ⟨y, hy, rfl⟩ := List.mem_map.mp hx
    exact (hL y hy).plain
  have e := ne_nilP (g := g2) hLp
  simp [e]
  by_cases c : L = []
  · simp [c]
    exact hx _ _ ⟨rfl, _, _, _, _, _, _, rfl⟩
  simp [c]
  obtain ⟨Li, x, rfl⟩ : ∃ Li x, L = Li ++ [x] := by
    rcases List.eq_nil_or_concat L with e | ⟨Li, z, e⟩
    · exact absurd e c
    · exact ⟨Li, z, by simpa using e⟩
  obtain ⟨hxt, hxw⟩ := hL x (by simp)
  have hpos := hxt.pos
  obtain ⟨ls, ns, hsh, hnl, hxn, hch⟩ := hxt.shape
  have hsumL : ((Li ++ [x]).map (·.n)).sum = (Li.map (·.n)).sum + x.n := by simp
  rw [hsumL] at hsum hN
  have hpop : mPop ((Li ++ [x]).map Due.e) [] = some (Li.map Due.e, x.e) := by
    rw [m_pop]
    simp
  obtain ⟨xv, xw, xd, xn⟩ := x
  simp only at hxt hxw hpos hsh hxn hch hsum hN
  rw [s_sSeq]
  simp only [List.map_append, List.map_cons, List.map_nil] at hpop ⊢
  simp [hpop, -m_pop]
  have hLi : ∀ y ∈ Li, DueOk m y := fun y hy => hL y (by simp [hy])
  have hLil := len_sum fun y hy => (hLi y hy).1.pos
  have c1 : ¬ (1000 : Int) < (many : Int) + 1 := by omega
  have c2 : ¬ (8 : Int) ≤ (xw.length : Int) := by omega
  rw [show Due.e ⟨xv, xw, xd, xn⟩ = .tup [.tup xv, .tup (xw.map nD)] from rfl]
  simp
  rw [s_sSeq]; simp
  rw [s_sSeq]; simp [c1, c2]
  rw [s_sSeq]; simp
  refine call_of ⟨p, m, xv, ls⟩ ⟨rfl, hM, gm, hsh⟩ ?_
  rintro r g3 ⟨rfl, rfl⟩
  simp
  refine call_of ⟨m, xv, ls⟩ ⟨rfl, hsl, hsh⟩ ?_
  rintro r g4 ⟨rfl, rfl⟩
  have hll : ls.length ≤ 5 := by
    rcases hsh with ⟨_, rfl⟩ | ⟨k, _, hl, _⟩
    · simp
    · rw [hl]; exact partS_len k hsl
  simp
  refine for_enum D.tup ls (fun done ψ g5 => g5 = g4 ∧ ∃ (Ch : List Due) (t7 t8 : Option Sl), Ch.length = done.length ∧ (∀ y ∈ Ch, DueOk m y) ∧ (Ch.map (·.n)).sum = (ns.take done.length).sum ∧ ψ = [some (.d (.ref p)), some (.d (.tup v)), some (.own (.lst ((Li ++ Ch).map Due.e))), some (.d (.int ((many : Int) + 1))), some (.own (.lst [])), some (.d (.tup xv)), some (.d (.tup (xw.map nD))), t7, t8]) ?_ ?_ _ _ ⟨rfl, [], t7, t8, rfl, by simp, by simp, by simp⟩
  · rintro done l rest ed ψ g5 K2 ⟨rfl, Ch, t7, t8, hcl, hco, hcs, rfl⟩ hK2
    have hdl : done.length < ls.length := by
      have := congrArg List.length ed
      simp at this; omega
    have hget : ls[done.length]? = some l := by rw [ed]; simp
    have hz : (l, ns[done.length]'(by omega)) ∈ ls.zip ns := by
      rw [List.mem_iff_getElem]
      refine ⟨done.length, by simp; omega, ?_⟩
      rw [List.getElem?_eq_getElem hdl] at hget
      simp at hget ⊢; exact hget
    obtain ⟨d', hd', htn⟩ := hch _ hz
    simp only at htn
    have hnew : DueOk m ⟨l, xw ++ [done.length], d', ns[done.length]'(by omega)⟩ := ⟨htn, by simp; omega⟩
    simp
    refine ⟨by omega, by omega, ?_⟩
    refine now (hK2 _ _ ⟨rfl, Ch ++ [⟨l, xw ++ [done.length], d', ns[done.length]'(by omega)⟩], _, _, by simp [hcl], fun y hy => ?_, ?_, by simp [Due.e]; exact ⟨rfl, rfl, rfl⟩⟩)
    · rcases List.mem_append.mp hy with h | h
      · exact hco y h
      · rw [List.mem_singleton.mp h]; exact hnew
    · have e1 : (done ++ [l]).length = done.length + 1 := by simp
      rw [List.map_append, List.sum_append, hcs, e1, List.take_succ, List.sum_append, List.getElem?_eq_getElem (by omega)]
      simp
  · rintro ψ g5 ⟨rfl, Ch, t7, t8, hcl, hco, hcs, rfl⟩
    have hns : (ns.take ls.length).sum = ns.sum := by rw [List.take_of_length_le (by omega)]
    refine now (hK (((Li ++ Ch).map (·.n)).sum) _ _ ?_ ⟨rfl, Li ++ Ch, many + 1, some (.d (.tup xv)), some (.d (.tup (xw.map nD))), t7, t8, fun y hy => ?_, ?_, rfl, by simp⟩)
    · rw [List.map_append, List.sum_append, hcs, hns]; omega
    · rcases List.mem_append.mp hy with h | h
      · exact hLi y h
      · exact hco y h
    · rw [List.map_append, List.sum_append, hcs, hns]; omega
end Pd
set_option linter.all false
set_option maxRecDepth 10000
namespace Pd
open PySem PySem.W PyProof.Rows
/-! the leaves of a trial, in the order of their ways -/
structure Leaf where
  w : List Nat
  s : List Sgn
  k : List Nat
def fstF : D → List Nat
  | .tup (.str w :: _) => w
  | _ => []
def sndF : D → D
  | .tup [_, x] => x
  | x => x
def innerF : D → List D
  | .tup [.str _, .str _, p, .tup prs] => p :: prs.map sndF
  | .tup [.str _, .tup prs, p] => prs.map sndF ++ [p]
  | _ => []
def signsF : D → List Sgn
  | .tup [.str _, .str a, _, .tup prs] => [wAsk, a] :: prs.map fun x => [wSay, fstF x]
  | .tup [.str _, .tup prs, _] => prs.map (fun x => [wSay, fstF x]) ++ [[wHush]]
  | _ => []
def lvsL (f : D → List Nat → List Sgn → List Leaf) (w : List Nat) (s : List Sgn) : Nat → List (Sgn × D) → List Leaf
  | _, [] => []
  | i, e :: r => f e.2 (w ++ [i]) (s ++ [e.1]) ++ lvsL f w s (i + 1) r
def lvs : Nat → D → List Nat → List Sgn → List Leaf
  | 0, x, w, s => [⟨w, s, fstF x⟩]
  | d + 1, x, w, s => if (innerF x).isEmpty then [⟨w, s, fstF x⟩] else lvsL (lvs d) w s 0 ((signsF x).zip (innerF x))
theorem lvs_leaf (d : Nat) (x : D) (w : List Nat) (s : List Sgn) (h : innerF x = []) : lvs d x w s = [⟨w, s, fstF x⟩] := by
  cases d with
  | zero => rfl
  | succ d => unfold lvs; rw [h]; rfl
theorem lvs_node (d : Nat) (x : D) (w : List Nat) (s : List Sgn) (h : innerF x ≠ []) : lvs (d + 1) x w s = lvsL (lvs d) w s 0 ((signsF x).zip (innerF x)) := by
  rw [lvs, if_neg]
  cases e : innerF x with
  | nil => exact absurd e h
  | cons _ _ => simp
theorem lvsL_app (f : D → List Nat → List Sgn → List Leaf) (w : List Nat) (s : List Sgn) : ∀ (i : Nat) (xs ys : List (Sgn × D)), lvsL f w s i (xs ++ ys) = lvsL f w s i xs ++ lvsL f w s (i + xs.length) ys
  | i, [], ys => by simp [lvsL]
  | i, x :: xs, ys => by
    show f x.2 (w ++ [i]) (s ++ [x.1]) ++ lvsL f w s (i + 1) (xs ++ ys) = (f x.2 (w ++ [i]) (s ++ [x.1]) ++ lvsL f w s (i + 1) xs) ++ _
    rw [lvsL_app f w s (i + 1) xs ys, List.append_assoc, show i + (x :: xs).length = i + 1 + xs.length from by simp; omega]
theorem pairs_snd : ∀ (ws : List (List Nat)) (li : List D), ws.length = li.length → (pairUp (T ws) li).map sndF = li
  | [], [], _ => rfl
  | [], _ :: _, h => by cases h
  | _ :: _, [], h => by cases h
  | w :: ws, l :: li, h => by show l :: (pairUp (T ws) li).map sndF = _; rw [pairs_snd ws li (by simpa using h)]
theorem inner_asm {m : Mch} {k : Option (List Nat)} {ps : List D} (hl : ps.length = (partS m k).length) : innerF (asm m k ps) = ps := by
  cases k with
  | none =>
    have hl : ps.length = m.says.length + 1 := by rw [hl]; simp [partS]
    obtain ⟨li, z, rfl⟩ : ∃ li z, ps = li ++ [z] := by
      rcases List.eq_nil_or_concat ps with e | ⟨li, z, e⟩
      · rw [e] at hl; simp at hl
      · exact ⟨li, z, by simpa using e⟩
    have hl2 : m.says.length = li.length := by simp at hl; omega
    have e : asm m none (li ++ [z]) = .tup [.str wWait, .tup (pairUp (T m.says) li), z] := by simp [asm]
    rw [e]
    show (pairUp (T m.says) li).map sndF ++ [z] = _
    rw [pairs_snd _ _ hl2]
  | some a =>
    have hl : ps.length = m.says.length + 1 := by rw [hl]; simp [partS]
    obtain ⟨z, li, rfl⟩ : ∃ z li, ps = z :: li := by
      cases ps with
      | nil => simp at hl
      | cons z li => exact ⟨z, li, rfl⟩
    have hl2 : m.says.length = li.length := by simp at hl; omega
    show z :: (pairUp (T m.says) li).map sndF = _
    rw [pairs_snd _ _ hl2]
theorem pairs_fst : ∀ (ws : List (List Nat)) (li : List D), ws.length = li.length → (pairUp (T ws) li).map fstF = ws
  | [], [], _ => rfl
  | [], _ :: _, h => by cases h
  | _ :: _, [], h => by cases h
  | w :: ws, l :: li, h => by show w :: (pairUp (T ws) li).map fstF = _; rw [pairs_fst ws li (by simpa using h)]
theorem signs_asm {m : Mch} {k : Option (List Nat)} {ps : List D} (hl : ps.length = (partS m k).length) : signsF (asm m k ps) = partS m k := by
  cases k with
  | none =>
    have hl : ps.length = m.says.length + 1 := by rw [hl]; simp [partS]
    obtain ⟨li, z, rfl⟩ : ∃ li z, ps = li ++ [z] := by
      rcases List.eq_nil_or_concat ps with e | ⟨li, z, e⟩
      · rw [e] at hl; simp at hl
      · exact ⟨li, z, by simpa using e⟩
    have hl2 : m.says.length = li.length := by simp at hl; omega
    have e : asm m none (li ++ [z]) = .tup [.str wWait, .tup (pairUp (T m.says) li), z] := by simp [asm]
    rw [e]
    show (pairUp (T m.says) li).map (fun x => [wSay, fstF x]) ++ [[wHush]] = _
    have := congrArg (List.map fun w => [wSay, w]) (pairs_fst m.says li hl2)
    rw [List.map_map] at this
    show _ = m.says.map (fun w => [wSay, w]) ++ [[wHush]]
    rw [← this]; rfl
  | some a =>
    have hl : ps.length = m.says.length + 1 := by rw [hl]; simp [partS]
    obtain ⟨z, li, rfl⟩ : ∃ z li, ps = z :: li := by
      cases ps with
      | nil => simp at hl
      | cons z li => exact ⟨z, li, rfl⟩
    have hl2 : m.says.length = li.length := by simp at hl; omega
    show [wAsk, a] :: (pairUp (T m.says) li).map (fun x => [wSay, fstF x]) = _
    have := congrArg (List.map fun w => [wSay, w]) (pairs_fst m.says li hl2)
    rw [List.map_map] at this
    show _ = [wAsk, a] :: m.says.map (fun w => [wSay, w])
    rw [← this]; rfl
/-- what a trial is: a last one, or parts -/
theorem TrOk.cases {m : Mch} {d : Nat} {x : D} (h : TrOk m d x) : (x = endD ∨ x = blameD) ∨ ∃ d' k ps, d = d' + 1 ∧ k ∈ kindsAll m ∧ ps.length = (partS m k).length ∧ (∀ p ∈ ps, TrOk m d' p) ∧ x = asm m k ps := by
  cases d with
  | zero => exact .inl h
  | succ d =>
    unfold TrOk at h
    rcases h with h | h | ⟨k, ps, h1, h2, h3, h4⟩
    · exact .inl (.inl h)
    · exact .inl (.inr h)
    · exact .inr ⟨d, k, ps, rfl, h1, h2, h3, h4⟩
theorem TrOk.up {m : Mch} : ∀ {d d' : Nat} {x : D}, TrOk m d x → d ≤ d' → TrOk m d' x
  | d, 0, x, h, hd => by
    have : d = 0 := by omega
    subst this; exact h
  | d, d' + 1, x, h, hd => by
    rcases h.cases with h | ⟨d0, k, ps, rfl, h1, h2, h3, h4⟩
    · rcases h with h | h
      · exact .inl h
      · exact .inr (.inl h)
    · exact .inr (.inr ⟨k, ps, h1, h2, fun p hp => (h3 p hp).up (by omega), h4⟩)
theorem partS_pos (m : Mch) (k : Option (List Nat)) : 0 < (partS m k).length := by cases k <;> simp [partS]
theorem lvsL_mem {f : D → List Nat → List Sgn → List Leaf} {w : List Nat} {s : List Sgn} {P : Leaf → Prop} : ∀ (i : Nat) (xs : List (Sgn × D)), (∀ j, ∀ e ∈ xs, i ≤ j → j < i + xs.length → ∀ l ∈ f e.2 (w ++ [j]) (s ++ [e.1]), P l) → ∀ l ∈ lvsL f w s i xs, P l
  | _, [], _, l, hl => (nomatch hl)
  | i, e :: r, h, l, hl => by
    rcases List.mem_append.mp hl with q | q
    · exact h i e (by simp) (Nat.le_refl _) (by simp) l q
    · exact lvsL_mem (i + 1) r (fun j e' he h1 h2 => h j e' (by simp [he]) (by omega) (by simp at h2 ⊢; omega)) l q
theorem lvs_way : ∀ (d : Nat) (x : D) (w : List Nat) (s : List Sgn), ∀ l ∈ lvs d x w s, ∃ t, l.w = w ++ t
  | 0, x, w, s, l, hl => by
    have : l = ⟨w, s, fstF x⟩ := by simpa [lvs] using hl
    rw [this]; exact ⟨[], by simp⟩
  | d + 1, x, w, s, l, hl => by
    by_cases h : innerF x = []
    · rw [lvs_leaf _ _ _ _ h] at hl
      have : l = ⟨w, s, fstF x⟩ := by simpa using hl
      rw [this]; exact ⟨[], by simp⟩
    · rw [lvs_node _ _ _ _ h] at hl
      refine lvsL_mem (P := fun l => ∃ t, l.w = w ++ t) 0 _ (fun j e _ _ _ l hl => ?_) l hl
      obtain ⟨t, ht⟩ := lvs_way d e.2 _ _ l hl
      exact ⟨j :: t, by rw [ht]; simp⟩
def Leaf.z (l : Leaf) : List Int := l.w.map fun n : Nat => (n : Int)
theorem lt_pre : ∀ (p a b : List Int), a < b → p ++ a < p ++ b
  | [], _, _, h => h
  | x :: p, a, b, h => by
    show x :: (p ++ a) < x :: (p ++ b)
    rw [List.cons_lt_cons_iff]
    exact .inr ⟨rfl, lt_pre p a b h⟩
theorem lt_of_way {a b : Leaf} {w : List Nat} {i j : Nat} {t u : List Nat} (h : i < j) (ha : a.w = w ++ [i] ++ t) (hb : b.w = w ++ [j] ++ u) : a.z < b.z := by
  unfold Leaf.z
  rw [ha, hb]
  simp only [List.append_assoc, List.map_append]
  refine lt_pre _ _ _ ?_
  show (i : Int) :: t.map (fun n : Nat => (n : Int)) < (j : Int) :: u.map fun n : Nat => (n : Int)
  rw [List.cons_lt_cons_iff]
  exact .inl (by omega)
theorem lvsL_sorted {d : Nat} {w : List Nat} {s : List Sgn} (ih : ∀ x w s, (lvs d x w s).Pairwise fun a b => a.z < b.z) : ∀ (i : Nat) (xs : List (Sgn × D)), (lvsL (lvs d) w s i xs).Pairwise fun a b => a.z < b.z
  | _, [] => List.Pairwise.nil
  | i, e :: r => by
    show (lvs d e.2 (w ++ [i]) (s ++ [e.1]) ++ lvsL (lvs d) w s (i + 1) r).Pairwise _
    rw [List.pairwise_append]
    refine ⟨ih _ _ _, lvsL_sorted ih (i + 1) r, fun a ha b hb => ?_⟩
    obtain ⟨t, ht⟩ := lvs_way d _ _ _ a ha
    obtain ⟨j, u, hj, hu⟩ : ∃ j u, i < j ∧ b.w = w ++ [j] ++ u := lvsL_mem (P := fun l => ∃ j u, i < j ∧ l.w = w ++ [j] ++ u) (i + 1) r (fun j e _ h1 _ l hl => by
      obtain ⟨u, hu⟩ := lvs_way d _ _ _ l hl
      exact ⟨j, u, by omega, hu⟩) b hb
    exact lt_of_way hj ht hu
theorem lvs_sorted : ∀ (d : Nat) (x : D) (w : List Nat) (s : List Sgn), (lvs d x w s).Pairwise fun a b => a.z < b.z
  | 0, x, w, s => List.pairwise_singleton _ _
  | d + 1, x, w, s => by
    by_cases h : innerF x = []
    · rw [lvs_leaf _ _ _ _ h]; exact List.pairwise_singleton _ _
    · rw [lvs_node _ _ _ _ h]; exact lvsL_sorted (lvs_sorted d) _ _
/-- how long they are -/
structure LeafOk (l : Leaf) (d : Nat) : Prop where
  w : l.w.length ≤ d
  s : l.s.length ≤ d
  two : ∀ s ∈ l.s, 1 ≤ s.length ∧ s.length ≤ 2
theorem partS_two {m : Mch} {k : Option (List Nat)} : ∀ s ∈ partS m k, 1 ≤ s.length ∧ s.length ≤ 2 := by
  intro s hs
  cases k with
  | none =>
    rcases List.mem_append.mp (show s ∈ m.says.map (fun w => [wSay, w]) ++ [[wHush]] from hs) with h | h
    · obtain ⟨w, _, rfl⟩ := List.mem_map.mp h; simp
    · rw [List.mem_singleton.mp h]; simp
  | some a =>
    rcases List.mem_cons.mp (show s ∈ [wAsk, a] :: m.says.map (fun w => [wSay, w]) from hs) with h | h
    · rw [h]; simp
    · obtain ⟨w, _, rfl⟩ := List.mem_map.mp h; simp
theorem lvsL_len {f : D → List Nat → List Sgn → List Leaf} {w : List Nat} {s : List Sgn} {B : Nat} : ∀ (i : Nat) (xs : List (Sgn × D)), (∀ e ∈ xs, ∀ w s, (f e.2 w s).length ≤ B) → (lvsL f w s i xs).length ≤ xs.length * B
  | _, [], _ => Nat.zero_le _
  | i, e :: r, h => by
    have h1 := h e (by simp) (w ++ [i]) (s ++ [e.1])
    have h2 := lvsL_len (w := w) (s := s) (i + 1) r fun e he => h e (by simp [he])
    show (f e.2 (w ++ [i]) (s ++ [e.1]) ++ lvsL f w s (i + 1) r).length ≤ (r.length + 1) * B
    rw [List.length_append, Nat.add_mul]; omega
theorem lvs_len {m : Mch} (hs : m.says.length ≤ 4) : ∀ {d : Nat} {x : D}, TrOk m d x → ∀ w s, (lvs d x w s).length ≤ nb d
  | 0, x, h, w, s => Nat.le_refl _
  | d + 1, x, h, w, s => by
    rcases h.cases with h | ⟨d0, k, ps, e, h1, h2, h3, rfl⟩
    · have : innerF x = [] := by rcases h with rfl | rfl <;> rfl
      rw [lvs_leaf _ _ _ _ this]; exact nb_pos _
    · cases e
      have h5 := partS_len k hs
      have hne : innerF (asm m k ps) ≠ [] := by
        rw [inner_asm h2]; intro z
        have := partS_pos m k
        rw [z] at h2; simp at h2; omega
      rw [lvs_node _ _ _ _ hne, inner_asm h2, signs_asm h2]
      have := lvsL_len (f := lvs d) (w := w) (s := s) (B := nb d) 0 ((partS m k).zip ps) fun e he w s => lvs_len hs (h3 _ (List.of_mem_zip he).2) w s
      have hz : ((partS m k).zip ps).length ≤ 5 := by simp; omega
      have := Nat.mul_le_mul_right (nb d) hz
      unfold nb; omega
theorem lvs_ok {m : Mch} : ∀ {d : Nat} {x : D}, TrOk m d x → ∀ {w s n}, w.length ≤ n → s.length ≤ n → (∀ t ∈ s, 1 ≤ t.length ∧ t.length ≤ 2) → ∀ l ∈ lvs d x w s, LeafOk l (n + d)
  | 0, x, h, w, s, n, hw, hs, ht, l, hl => by
    have : l = ⟨w, s, fstF x⟩ := by simpa [lvs] using hl
    rw [this]; exact ⟨hw, hs, ht⟩
  | d + 1, x, h, w, s, n, hw, hs, ht, l, hl => by
    rcases h.cases with h | ⟨d0, k, ps, e, h1, h2, h3, rfl⟩
    · have : innerF x = [] := by rcases h with rfl | rfl <;> rfl
      rw [lvs_leaf _ _ _ _ this] at hl
      have : l = ⟨w, s, fstF x⟩ := by simpa using hl
      rw [this]; exact ⟨by simp only; omega, by simp only; omega, ht⟩
    · cases e
      have hne : innerF (asm m k ps) ≠ [] := by
        rw [inner_asm h2]; intro z
        have := partS_pos m k
        rw [z] at h2; simp at h2; omega
      rw [lvs_node _ _ _ _ hne, inner_asm h2, signs_asm h2] at hl
      refine lvsL_mem (P := fun l => LeafOk l (n + (d + 1))) 0 _ (fun j e he _ _ l hl => ?_) l hl
      have := lvs_ok (h3 _ (List.of_mem_zip he).2) (n := n + 1) (by simp; omega) (by simp; omega) (fun t hq => by
        rcases List.mem_append.mp hq with q | q
        · exact ht t q
        · rw [List.mem_singleton.mp q]; exact partS_two _ (List.of_mem_zip he).1) l hl
      exact ⟨by have := this.w; omega, by have := this.s; omega, this.two⟩
/-! ### sorted -/
def rD (l : Leaf) : D := .tup [.tup (l.w.map nD), .rol (l.s.map sg), .str l.k]
theorem toPys_mapL {α : Type} (f : α → D) (xs : List α) : toPys (xs.map f) = xs.map fun x => toPy (f x) := by
  induction xs with
  | nil => rfl
  | cons x xs ih => show toPy (f x) :: toPys (xs.map f) = _; rw [ih]; rfl
theorem toPy_ways (w : List Nat) : toPy (.tup (w.map nD)) = .tuple ((w.map fun n : Nat => (n : Int)).map .int) := by
  show PyData.tuple (toPys (w.map nD)) = _
  rw [toPys_mapL, List.map_map]; rfl
theorem alike_strs : ∀ a b : List (List Nat), alikeAll (toPys (a.map D.str)) (toPys (b.map D.str)) = true
  | [], _ => by simp [toPys, alikeAll]
  | _ :: _, [] => by simp [toPys, alikeAll]
  | x :: a, y :: b => by
    show alikeAll (toPy (.str x) :: toPys (a.map D.str)) (toPy (.str y) :: toPys (b.map D.str)) = true
    rw [alikeAll, alike_strs a b]; simp [toPy, PySem.W.alike]
theorem alike_sgs : ∀ a b : List Sgn, alikeAll (toPys (a.map sg)) (toPys (b.map sg)) = true
  | [], _ => by simp [toPys, alikeAll]
  | _ :: _, [] => by simp [toPys, alikeAll]
  | x :: a, y :: b => by
    show alikeAll (PyData.tuple (toPys (x.map D.str)) :: toPys (a.map sg)) (PyData.tuple (toPys (y.map D.str)) :: toPys (b.map sg)) = true
    rw [alikeAll, alike_sgs a b, PySem.W.alike, alike_strs]; rfl
theorem alike_rD (a b : Leaf) : PySem.W.alike (toPy (rD a)) (toPy (rD b)) = true := by
  show PySem.W.alike (.tuple [toPy (.tup (a.w.map nD)), .list (toPys (a.s.map sg)), .str ⟨a.k.toArray⟩]) (.tuple [toPy (.tup (b.w.map nD)), .list (toPys (b.s.map sg)), .str ⟨b.k.toArray⟩]) = true
  rw [toPy_ways, toPy_ways]
  rw [PySem.W.alike, alikeAll, PySem.W.alike, alike_ints, alikeAll, PySem.W.alike, alike_sgs]; simp [alikeAll, PySem.W.alike]
theorem lt_rD {a b : Leaf} (h : a.z < b.z) : dataLt (toPy (rD a)) (toPy (rD b)) = true := by
  show dataLt (.tuple [toPy (.tup (a.w.map nD)), .list (toPys (a.s.map sg)), .str ⟨a.k.toArray⟩]) (.tuple [toPy (.tup (b.w.map nD)), .list (toPys (b.s.map sg)), .str ⟨b.k.toArray⟩]) = true
  rw [toPy_ways, toPy_ways, dataLt_tuple]
  have hal : PySem.W.alike (.tuple (a.z.map .int)) (.tuple (b.z.map .int)) = true := by rw [PySem.W.alike, alike_ints]
  have hlt : dataLt (.tuple (a.z.map .int)) (.tuple (b.z.map .int)) = true := by
    rw [dataLt_tuple]
    show rowLt (a.z.map .int) (b.z.map .int) = true
    rw [dataLt_ints]; exact decide_eq_true h
  refine (dataLt_cons hal _ _).trans ?_
  cases e : PyData.eqv (.tuple (a.z.map .int)) (.tuple (b.z.map .int)) with
  | true =>
    have := (toks_eqv _ _ hal).1 e
    unfold dataLt at hlt
    rw [this] at hlt
    rw [show lexLt itemOrd (keyToks (.tuple (b.z.map .int))) (keyToks (.tuple (b.z.map .int))) = false from lex_irrefl _] at hlt
    cases hlt
  | false => rw [if_neg Bool.false_ne_true]; exact hlt
theorem nlt_rD {a b : Leaf} (h : a.z < b.z) : dataLt (toPy (rD b)) (toPy (rD a)) = false :=
  KeyOrd.klt_asymm (O := listOrd itemOrd) (a := keyToks (toPy (rD a))) (b := keyToks (toPy (rD b))) (lt_rD h)
theorem perm_map {α β : Type} (f : α → β) : ∀ {bs cs : List β}, bs.Perm cs → ∀ l : List α, l.map f = bs → ∃ l' : List α, l'.Perm l ∧ l'.map f = cs := by
  intro bs cs h
  induction h with
  | nil => intro l e; exact ⟨l, .refl _, e⟩
  | cons x _ ih =>
    intro l e
    cases l with
    | nil => cases e
    | cons y l =>
      cases e
      obtain ⟨l', h1, h2⟩ := ih l rfl
      exact ⟨y :: l', h1.cons y, by simp [h2]⟩
  | swap x y l0 =>
    intro l e
    cases l with
    | nil => cases e
    | cons a l => cases l with
      | nil => cases e
      | cons b l =>
        cases e
        exact ⟨b :: a :: l, .swap _ _ _, rfl⟩
  | trans _ _ ih1 ih2 =>
    intro l e
    obtain ⟨l1, h1, h2⟩ := ih1 l e
    obtain ⟨l2, h3, h4⟩ := ih2 l1 h2
    exact ⟨l2, h3.trans h1, h4⟩
/-- rows that carry leaves, sorted: the leaves in order -/
theorem sort_leaves {β : Type} (lf : β → Leaf) (x : β → D) {bs cs : List β} (hp : bs.Perm cs) (hs : (cs.map lf).Pairwise fun a b => a.z < b.z) :
    (bs.map fun b => (x b, rD (lf b))).mergeSort (dataLe false encD) = cs.map fun b => (x b, rD (lf b)) := by
  have tot := sortLe_total (listOrd itemOrd) false (fun b : D × D => keyToks (encD b))
  refine List.Perm.eq_of_pairwise (le := fun a b => dataLe false encD a b = true) ?_ (List.pairwise_mergeSort (fun a b c => tot.trans a b c) (fun a b => (by
    have := tot.total a b
    show (sortLe (listOrd itemOrd) false (fun b : D × D => keyToks (encD b)) a b || sortLe (listOrd itemOrd) false (fun b : D × D => keyToks (encD b)) b a) = true
    rcases this with h | h <;> simp [h])) _) ?_ ((List.mergeSort_perm _ _).trans (hp.map _))
  · intro p q hp1 hq1 h1 h2
    have hp2 := (List.mergeSort_perm _ _).mem_iff.mp hp1
    obtain ⟨b, hb, rfl⟩ := List.mem_map.mp hp2
    obtain ⟨c, hc, rfl⟩ := List.mem_map.mp hq1
    have hb' : b ∈ cs := hp.mem_iff.mp hb
    have one : b = c ∨ (lf b).z < (lf c).z ∨ (lf c).z < (lf b).z := by
      rw [List.pairwise_map] at hs
      obtain ⟨i, hi, rfl⟩ := List.getElem_of_mem hb'
      obtain ⟨j, hj, rfl⟩ := List.getElem_of_mem hc
      rw [List.pairwise_iff_getElem] at hs
      rcases Nat.lt_trichotomy i j with q | q | q
      · exact .inr (.inl (hs i j hi hj q))
      · subst q; exact .inl rfl
      · exact .inr (.inr (hs j i hj hi q))
    have z1 : (!dataLt (toPy (rD (lf c))) (toPy (rD (lf b)))) = true := h1
    have z2 : (!dataLt (toPy (rD (lf b))) (toPy (rD (lf c)))) = true := h2
    rcases one with e | e | e
    · rw [e]
    · rw [lt_rD e] at z2; cases z2
    · rw [lt_rD e] at z1; cases z1
  · rw [List.pairwise_map]
    rw [List.pairwise_map] at hs
    exact hs.imp fun {a b} h => by
      show (!dataLt (toPy (rD (lf b))) (toPy (rD (lf a)))) = true
      rw [nlt_rD h]; rfl
end Pd
set_option Elab.async false
set_option linter.all false
namespace Pd
/-- signs_of(trial) -/
def b_tsigns : WS :=
  (sSeq (sIf (tV (eBin oEq (eBin oIx (eVar 0) (eC (.int 0))) (eC (.str [116, 101, 108, 108])))) (sRet (eBin oAdd (eLst (dCons (eTup (dCons (eC (.str [97, 115, 107])) (dCons (eBin oIx (eVar 0) (eC (.int 1))) dNil))) dNil)) (eComp [2, 1] (iIt (eNs (eBin oIx (eVar 0) (eC (.int 3))))) (gTup [(gName 2), (gName 1)]) tYes (eTup (dCons (eC (.str [115, 97, 121])) (dCons (eVar 2) dNil)))))) sNx) (sSeq (sIf (tV (eBin oEq (eBin oIx (eVar 0) (eC (.int 0))) (eC (.str [119, 97, 105, 116])))) (sRet (eBin oAdd (eComp [2, 1] (iIt (eNs (eBin oIx (eVar 0) (eC (.int 1))))) (gTup [(gName 2), (gName 1)]) tYes (eTup (dCons (eC (.str [115, 97, 121])) (dCons (eVar 2) dNil)))) (eLst (dCons (eTup (dCons (eC (.str [104, 117, 115, 104])) dNil)) dNil)))) sNx) (sRet (eLst dNil))))
/-- leaves(model, trial) -/
def b_leaves (φ_need_trial φ_inner φ_signs_of : SpD) : WS :=
  (sSeq (sE (eCall φ_need_trial [false, true] (aCons (eVar 0) (aCons (eVar 1) aNil)))) (sSeq (sSet 2 (eLst dNil)) (sSeq (sSet 3 (eLst (dCons (eTup (dCons (eVar 1) (dCons (eTup dNil) (dCons (eTup dNil) dNil)))) dNil))) (sSeq (sWhile (tV (eBin oNe (eVar 3) (eLst dNil))) (sSeq (sUnp (gTup [(gName 4), (gName 5), (gName 6)]) (eMut mPop (eVar 3) dNil)) (sSeq (sSet 7 (eCall φ_inner [false] (aCons (eVar 4) aNil))) (sSeq (sIf (tV (eBin oEq (eVar 7) (eLst dNil))) (sE (eMut mAppend (eVar 2) (dCons (eTup (dCons (eVar 5) (dCons (eUn oList (eVar 6)) (dCons (eBin oIx (eVar 4) (eC (.int 0))) dNil)))) dNil))) sNx) (sFor (iEnZ (eNs (eCall φ_signs_of [false] (aCons (eVar 4) aNil))) (eVar 7)) (gTup [(gName 8), (gTup [(gName 9), (gName 10)])]) (sE (eMut mAppend (eVar 3) (dCons (eTup (dCons (eVar 10) (dCons (eBin oAdd (eVar 5) (eTup (dCons (eVar 8) dNil))) (dCons (eBin oAdd (eVar 6) (eTup (dCons (eVar 9) dNil))) dNil)))) dNil)))))))) (sRet (eUn oSortD (eVar 2)))))))
/-- _law_inner(trial) -/
def b__law_inner : WS :=
  (sSeq (sIf (tAnd (tV (eBin oEq (eBin oIx (eVar 0) (eC (.int 0))) (eC (.str [116, 101, 108, 108])))) (tV (eBin oEq (eUn oLen (eVar 0)) (eC (.int 4))))) (sRet (eBin oAdd (eLst (dCons (eBin oIx (eVar 0) (eC (.int 2))) dNil)) (eComp [1] (iIt (eNs (eBin oIx (eVar 0) (eC (.int 3))))) (gName 1) tYes (eBin oIx (eVar 1) (eC (.int 1)))))) sNx) (sSeq (sIf (tAnd (tV (eBin oEq (eBin oIx (eVar 0) (eC (.int 0))) (eC (.str [119, 97, 105, 116])))) (tV (eBin oEq (eUn oLen (eVar 0)) (eC (.int 3))))) (sRet (eBin oAdd (eComp [1] (iIt (eNs (eBin oIx (eVar 0) (eC (.int 1))))) (gName 1) tYes (eBin oIx (eVar 1) (eC (.int 1)))) (eLst (dCons (eBin oIx (eVar 0) (eC (.int 2))) dNil)))) sNx) (sRet (eLst dNil))))
/-- _law_signs(trial) -/
def b_ltsigns : WS :=
  (sSeq (sIf (tV (eBin oEq (eBin oIx (eVar 0) (eC (.int 0))) (eC (.str [116, 101, 108, 108])))) (sRet (eBin oAdd (eLst (dCons (eTup (dCons (eC (.str [97, 115, 107])) (dCons (eBin oIx (eVar 0) (eC (.int 1))) dNil))) dNil)) (eComp [1] (iIt (eNs (eBin oIx (eVar 0) (eC (.int 3))))) (gName 1) tYes (eTup (dCons (eC (.str [115, 97, 121])) (dCons (eBin oIx (eVar 1) (eC (.int 0))) dNil)))))) sNx) (sRet (eBin oAdd (eComp [1] (iIt (eNs (eBin oIx (eVar 0) (eC (.int 1))))) (gName 1) tYes (eTup (dCons (eC (.str [115, 97, 121])) (dCons (eBin oIx (eVar 1) (eC (.int 0))) dNil)))) (eLst (dCons (eTup (dCons (eC (.str [104, 117, 115, 104])) dNil)) dNil)))))
/-- _law_leaves(trial, way, story) -/
def b__law_leaves (φ__law_inner φ__law_signs φ__law_leaves : SpD) : WS :=
  (sSeq (sSet 3 (eCall φ__law_inner [false] (aCons (eVar 0) aNil))) (sSeq (sIf (tV (eBin oEq (eVar 3) (eLst dNil))) (sRet (eLst (dCons (eTup (dCons (eVar 1) (dCons (eVar 2) (dCons (eBin oIx (eVar 0) (eC (.int 0))) dNil)))) dNil))) sNx) (sSeq (sSet 4 (eLst dNil)) (sSeq (sFor (iEnum (eNs (eCall φ__law_signs [false] (aCons (eVar 0) aNil)))) (gTup [(gName 5), (gName 6)]) (sSet 4 (eBin oAdd (eVar 4) (eCall φ__law_leaves [false, true, true] (aCons (eBin oIx (eVar 3) (eVar 5)) (aCons (eBin oAdd (eVar 1) (eTup (dCons (eVar 5) dNil))) (aCons (eBin oAdd (eVar 2) (eLst (dCons (eVar 6) dNil))) aNil))))))) (sRet (eVar 4))))))
/-- _law_pairs(says, some) -/
def b__law_pairs : WS :=
  (sRet (eUn oTuple (eComp [3, 2] (iZip (eVar 0) (eVar 1)) (gTup [(gName 3), (gName 2)]) tYes (eTup (dCons (eVar 3) (dCons (eVar 2) dNil))))))
/-- _law_trial(pen, told, deep, left) -/
def b__law_trial (φ__law_take φ__law_trial φ__law_pairs : SpD) : WS :=
  (sSeq (sSetIx putIx (eVar 3) (eC (.int 0)) (eBin oSub (eBin oIx (eVar 3) (eC (.int 0))) (eC (.int 1)))) (sSeq (sSet 4 (eCall φ__law_take [true, false] (aCons (eVar 0) (aCons (eC (.int 6)) aNil)))) (sSeq (sIf (tOr (tV (eBin oEq (eVar 2) (eC (.int 0)))) (tOr (tV (eBin oLt (eBin oIx (eVar 3) (eC (.int 0))) (eC (.int 0)))) (tV (eBin oEq (eVar 4) (eC (.int 0)))))) (sRet (eBin oIx (eLst (dCons (eTup (dCons (eC (.str [101, 110, 100])) dNil)) (dCons (eTup (dCons (eC (.str [98, 108, 97, 109, 101])) dNil)) dNil))) (eCall φ__law_take [true, false] (aCons (eVar 0) (aCons (eC (.int 2)) aNil))))) sNx) (sSeq (sSet 5 (eComp [7] (iRange (eBin oAdd (eUn oLen (eBin oIx (eVar 1) (eC (.int 1)))) (eC (.int 1)))) (gName 7) tYes (eCall φ__law_trial [true, false, false, true] (aCons (eVar 0) (aCons (eVar 1) (aCons (eBin oSub (eVar 2) (eC (.int 1))) (aCons (eVar 3) aNil))))))) (sSeq (sIf (tV (eBin oLt (eVar 4) (eC (.int 4)))) (sSeq (sSet 6 (eBin oIx (eBin oIx (eVar 1) (eC (.int 0))) (eCall φ__law_take [true, false] (aCons (eVar 0) (aCons (eUn oLen (eBin oIx (eVar 1) (eC (.int 0)))) aNil))))) (sRet (eTup (dCons (eC (.str [116, 101, 108, 108])) (dCons (eVar 6) (dCons (eBin oIx (eVar 5) (eC (.int 0))) (dCons (eCall φ__law_pairs [false, false] (aCons (eBin oIx (eVar 1) (eC (.int 1))) (aCons (eCut (eVar 5) (some (eC (.int 1))) none) aNil))) dNil))))))) sNx) (sRet (eTup (dCons (eC (.str [119, 97, 105, 116])) (dCons (eCall φ__law_pairs [false, false] (aCons (eBin oIx (eVar 1) (eC (.int 1))) (aCons (eVar 5) aNil))) (dCons (eBin oIx (eVar 5) (eUn oNeg (eC (.int 1)))) dNil))))))))))
/-- _law_made(pen, told, face, deep) -/
def b__law_made (φ__law_face_on φ__law_take φ__law_made φ__law_pairs : SpD) : WS :=
  (sSeq (sIf (tV (eBin oEq (eVar 2) (eTup dNil))) (sRet (eTup (dCons (eC (.str [98, 108, 97, 109, 101])) dNil))) sNx) (sSeq (sSet 4 (eLst (dCons (eTup (dCons (eC (.str [104, 117, 115, 104])) dNil)) dNil))) (sSeq (sFor (iIt (eNs (eBin oIx (eVar 1) (eC (.int 0))))) (gName 5) (sIf (tV (eBin oNe (eCall φ__law_face_on [false, false, false] (aCons (eVar 1) (aCons (eVar 2) (aCons (eTup (dCons (eC (.str [97, 115, 107])) (dCons (eVar 5) dNil))) aNil)))) (eTup dNil))) (sE (eMut mAppend (eVar 4) (dCons (eTup (dCons (eC (.str [97, 115, 107])) (dCons (eVar 5) dNil))) dNil))) sNx)) (sSeq (sIf (tOr (tV (eBin oEq (eVar 3) (eC (.int 0)))) (tV (eBin oEq (eCall φ__law_take [true, false] (aCons (eVar 0) (aCons (eC (.int 5)) aNil))) (eC (.int 0))))) (sRet (eTup (dCons (eC (.str [101, 110, 100])) dNil))) sNx) (sSeq (sSet 6 (eBin oIx (eVar 4) (eCall φ__law_take [true, false] (aCons (eVar 0) (aCons (eUn oLen (eVar 4)) aNil))))) (sSeq (sSet 7 (eComp [10] (iIt (eNs (eBin oIx (eVar 1) (eC (.int 1))))) (gName 10) tYes (eTup (dCons (eC (.str [115, 97, 121])) (dCons (eVar 10) dNil))))) (sSeq (sSet 7 (eBin oIx (eLst (dCons (eBin oAdd (eVar 7) (eLst (dCons (eVar 6) dNil))) (dCons (eBin oAdd (eLst (dCons (eVar 6) dNil)) (eVar 7)) dNil))) (eUn oInt (eBin oEq (eBin oIx (eVar 6) (eC (.int 0))) (eC (.str [97, 115, 107])))))) (sSeq (sSet 8 (eComp [9] (iIt (eVar 7)) (gName 9) tYes (eCall φ__law_made [true, false, false, false] (aCons (eVar 0) (aCons (eVar 1) (aCons (eCall φ__law_face_on [false, false, false] (aCons (eVar 1) (aCons (eVar 2) (aCons (eVar 9) aNil)))) (aCons (eBin oSub (eVar 3) (eC (.int 1))) aNil))))))) (sSeq (sIf (tV (eBin oEq (eBin oIx (eVar 6) (eC (.int 0))) (eC (.str [97, 115, 107])))) (sRet (eTup (dCons (eC (.str [116, 101, 108, 108])) (dCons (eBin oIx (eVar 6) (eC (.int 1))) (dCons (eBin oIx (eVar 8) (eC (.int 0))) (dCons (eCall φ__law_pairs [false, false] (aCons (eBin oIx (eVar 1) (eC (.int 1))) (aCons (eCut (eVar 8) (some (eC (.int 1))) none) aNil))) dNil)))))) sNx) (sRet (eTup (dCons (eC (.str [119, 97, 105, 116])) (dCons (eCall φ__law_pairs [false, false] (aCons (eBin oIx (eVar 1) (eC (.int 1))) (aCons (eVar 8) aNil))) (dCons (eBin oIx (eVar 8) (eUn oNeg (eC (.int 1)))) dNil))))))))))))))
end Pd
set_option linter.all false
set_option maxRecDepth 10000
namespace Pd
/-! the parts of a trial and their signs, by the program and by the law -/
theorem signsF_asm {m : Mch} {k : Option (List Nat)} {ls : List (List D)} (hl : ls.length = (partS m k).length) : signsF (asm m k (ls.map D.tup)) = partS m k := signs_asm (by simpa using hl)
theorem innerF_asm {m : Mch} {k : Option (List Nat)} {ls : List (List D)} (hl : ls.length = (partS m k).length) : innerF (asm m k (ls.map D.tup)) = ls.map D.tup := inner_asm (by simpa using hl)
theorem TrOk.node {m : Mch} {d : Nat} {v : List D} (h : TrOk m d (.tup v)) : ∃ ls, Shape m v ls ∧ innerF (.tup v) = ls.map D.tup ∧ ((∃ b, v = [.str b]) ∧ ls = [] ∧ signsF (.tup v) = [] ∨ ∃ d' k, d = d' + 1 ∧ k ∈ kindsAll m ∧ ls.length = (partS m k).length ∧ signsF (.tup v) = partS m k ∧ (∀ l ∈ ls, TrOk m d' (.tup l))) := by
  rcases h.cases with h | ⟨d', k, ps, rfl, h1, h2, h3, e⟩
  · rcases h with h | h
    · cases h
      exact ⟨[], .inl ⟨.inl rfl, rfl⟩, rfl, .inl ⟨⟨_, rfl⟩, rfl, rfl⟩⟩
    · cases h
      exact ⟨[], .inl ⟨.inr rfl, rfl⟩, rfl, .inl ⟨⟨_, rfl⟩, rfl, rfl⟩⟩
  · obtain ⟨ls, rfl⟩ := tup_list fun x hx => (h3 x hx).tup
    have hl : ls.length = (partS m k).length := by simpa using h2
    refine ⟨ls, .inr ⟨k, h1, hl, e⟩, by rw [e]; exact innerF_asm hl, .inr ⟨d', k, rfl, h1, hl, by rw [e]; exact signsF_asm hl, fun l hl => h3 _ (List.mem_map_of_mem hl)⟩⟩
theorem zip_say {ws : List (List Nat)} {li : List (List D)} (h : li.length = ws.length) : (ws.zip li).map (fun e => D.tup [.str wSay, .str e.1]) = (ws.map fun w => [wSay, w]).map sg := by
  have := congrArg (List.map fun w => D.tup [.str wSay, .str w]) (List.map_fst_zip (l₁ := ws) (l₂ := li) (by omega))
  rw [List.map_map] at this
  rw [List.map_map]; exact this
def d_tsigns : Sg In2 := ⟨fun x ss g => ss = [.d (.tup x.v)] ∧ x.m.says.length ≤ 4 ∧ Shape x.m x.v x.ls, fun x g r g' => g' = g ∧ r = .own (.lst ((signsF (.tup x.v)).map sg)), fun _ _ _ _ => False⟩
theorem k_tsigns : Keeps d_tsigns.wp b_tsigns 3 := by
  rintro ss g E Q ⟨⟨m, v, ls⟩, ⟨rfl, hsl, hsh⟩, hq, _⟩
  have h8 := most_is
  simp only at hsl hsh
  have fin : ∃ g2, G.le g2 g ∧ Q (.own (.lst ((signsF (.tup v)).map sg))) g2 := ret_now (hq _ _ ⟨rfl, rfl⟩)
  rcases hsh with ⟨hv, rfl⟩ | ⟨k, hk, hl, e⟩
  · have hs0 : signsF (.tup v) = [] := by rcases hv with rfl | rfl <;> rfl
    rw [hs0] at fin
    rcases hv with rfl | rfl
    · simp [b_tsigns, begin_, wEnd]
      rw [s_sSeq]; simp
      rw [s_sSeq]; simp
      exact fin
    · simp [b_tsigns, begin_, wBlame]
      rw [s_sSeq]; simp
      rw [s_sSeq]; simp
      exact fin
  · rw [e, signsF_asm hl] at fin
    rcases shape_asm hl e with ⟨rfl, li, z, rfl, hll, rfl⟩ | ⟨a, z, li, rfl, rfl, hll, rfl⟩
    · have hzl : (m.says.zip li).length ≤ 16000000 := by simp; omega
      simp [b_tsigns, begin_, wWait]
      rw [s_sSeq]; simp
      rw [s_sSeq]; simp [lendAll, lend, wipe]
      refine comp_all (fun e : List Nat × List D => D.tup [.str e.1, .tup e.2]) (fun e => D.tup [.str wSay, .str e.1]) (m.says.zip li) hzl ?_ ?_
      · intro w hw acc K ha h1
        simp [ha]
        simpa using h1
      rw [zip_say hll]
      have e2 : (partS m none).map sg = (m.says.map fun w => [wSay, w]).map sg ++ [D.tup [.str wHush]] := by show (m.says.map (fun w => [wSay, w]) ++ [[wHush]]).map sg = _; rw [List.map_append]; rfl
      rw [e2] at fin
      have hl4 : ((m.says.map fun w => [wSay, w]).map sg).length ≤ 4 := by simpa using hsl
      generalize (m.says.map fun w => [wSay, w]).map sg = L at fin hl4
      simp
      exact ⟨by omega, by simpa using fin⟩
    · have hzl : (m.says.zip li).length ≤ 16000000 := by simp; omega
      simp [b_tsigns, begin_, wTell]
      rw [s_sSeq]; simp [lendAll, lend, wipe]
      refine comp_all (fun e : List Nat × List D => D.tup [.str e.1, .tup e.2]) (fun e => D.tup [.str wSay, .str e.1]) (m.says.zip li) hzl ?_ ?_
      · intro w hw acc K ha h1
        simp [ha]
        simpa using h1
      rw [zip_say hll]
      have e2 : (partS m (some a)).map sg = D.tup [.str wAsk, .str a] :: (m.says.map fun w => [wSay, w]).map sg := rfl
      rw [e2] at fin
      have hl4 : ((m.says.map fun w => [wSay, w]).map sg).length ≤ 4 := by simpa using hsl
      generalize (m.says.map fun w => [wSay, w]).map sg = L at fin hl4
      simp
      exact ⟨by omega, by simpa using fin⟩
/-- the law's -/
theorem k_linner : Keeps d_inner.wp b__law_inner 2 := by
  rintro ss g E Q ⟨⟨m, v, ls⟩, ⟨rfl, hsl, hsh⟩, hq, _⟩
  have h8 := most_is
  simp only at hsl hsh
  have fin : ∃ g2, G.le g2 g ∧ Q (.own (.lst (ls.map D.tup))) g2 := ret_now (hq _ _ ⟨rfl, rfl⟩)
  rcases hsh with ⟨hv, rfl⟩ | ⟨k, hk, hl, e⟩
  · rcases hv with rfl | rfl
    · simp [b__law_inner, begin_, wEnd]
      rw [s_sSeq]; simp
      rw [s_sSeq]; simp
      exact fin
    · simp [b__law_inner, begin_, wBlame]
      rw [s_sSeq]; simp
      rw [s_sSeq]; simp
      exact fin
  · rcases shape_asm hl e with ⟨rfl, li, z, rfl, hll, rfl⟩ | ⟨a, z, li, rfl, rfl, hll, rfl⟩
    · have hzl : (m.says.zip li).length ≤ 16000000 := by simp; omega
      simp [b__law_inner, begin_, wWait]
      rw [s_sSeq]; simp
      rw [s_sSeq]; simp [lendAll, lend, wipe]
      refine comp_all (fun e : List Nat × List D => D.tup [.str e.1, .tup e.2]) (fun e => D.tup e.2) (m.says.zip li) hzl ?_ ?_
      · intro w hw acc K ha h1
        simp [ha]
        simpa using h1
      rw [zip_sec hll]
      simp
      exact ⟨by omega, by simpa using fin⟩
    · have hzl : (m.says.zip li).length ≤ 16000000 := by simp; omega
      simp [b__law_inner, begin_, wTell]
      rw [s_sSeq]; simp [lendAll, lend, wipe]
      refine comp_all (fun e : List Nat × List D => D.tup [.str e.1, .tup e.2]) (fun e => D.tup e.2) (m.says.zip li) hzl ?_ ?_
      · intro w hw acc K ha h1
        simp [ha]
        simpa using h1
      rw [zip_sec hll]
      simp
      exact ⟨by omega, by simpa using fin⟩
def d_lsg : Sg In2 := ⟨fun x ss g => ss = [.d (.tup x.v)] ∧ x.m.says.length ≤ 4 ∧ Shape x.m x.v x.ls ∧ x.ls ≠ [], fun x g r g' => g' = g ∧ r = .own (.lst ((signsF (.tup x.v)).map sg)), fun _ _ _ _ => False⟩
theorem k_lsg : Keeps d_lsg.wp b_ltsigns 2 := by
  rintro ss g E Q ⟨⟨m, v, ls⟩, ⟨rfl, hsl, hsh, hne⟩, hq, _⟩
  have h8 := most_is
  simp only at hsl hsh hne
  have fin : ∃ g2, G.le g2 g ∧ Q (.own (.lst ((signsF (.tup v)).map sg))) g2 := ret_now (hq _ _ ⟨rfl, rfl⟩)
  rcases hsh with ⟨hv, h0⟩ | ⟨k, hk, hl, e⟩
  · exact absurd h0 hne
  · rw [e, signsF_asm hl] at fin
    rcases shape_asm hl e with ⟨rfl, li, z, rfl, hll, rfl⟩ | ⟨a, z, li, rfl, rfl, hll, rfl⟩
    · have hzl : (m.says.zip li).length ≤ 16000000 := by simp; omega
      simp [b_ltsigns, begin_, wWait]
      rw [s_sSeq]; simp [lendAll, lend, wipe]
      refine comp_all (fun e : List Nat × List D => D.tup [.str e.1, .tup e.2]) (fun e => D.tup [.str wSay, .str e.1]) (m.says.zip li) hzl ?_ ?_
      · intro w hw acc K ha h1
        simp [ha]
        simpa using h1
      rw [zip_say hll]
      have e2 : (partS m none).map sg = (m.says.map fun w => [wSay, w]).map sg ++ [D.tup [.str wHush]] := by show (m.says.map (fun w => [wSay, w]) ++ [[wHush]]).map sg = _; rw [List.map_append]; rfl
      rw [e2] at fin
      have hl4 : ((m.says.map fun w => [wSay, w]).map sg).length ≤ 4 := by simpa using hsl
      generalize (m.says.map fun w => [wSay, w]).map sg = L at fin hl4
      simp
      exact ⟨by omega, by simpa using fin⟩
    · have hzl : (m.says.zip li).length ≤ 16000000 := by simp; omega
      simp [b_ltsigns, begin_, wTell]
      rw [s_sSeq]; simp [lendAll, lend, wipe]
      refine comp_all (fun e : List Nat × List D => D.tup [.str e.1, .tup e.2]) (fun e => D.tup [.str wSay, .str e.1]) (m.says.zip li) hzl ?_ ?_
      · intro w hw acc K ha h1
        simp [ha]
        simpa using h1
      rw [zip_say hll]
      have e2 : (partS m (some a)).map sg = D.tup [.str wAsk, .str a] :: (m.says.map fun w => [wSay, w]).map sg := rfl
      rw [e2] at fin
      have hl4 : ((m.says.map fun w => [wSay, w]).map sg).length ≤ 4 := by simpa using hsl
      generalize (m.says.map fun w => [wSay, w]).map sg = L at fin hl4
      simp
      exact ⟨by omega, by simpa using fin⟩
end Pd
set_option linter.all false
set_option maxRecDepth 10000
namespace Pd
open PySem.W (dataLe)
/-! the program's leaves -/
def pD (p : Leaf × Nat) : D := .tup [.tup (p.1.w.map nD), .ref p.2, .str p.1.k]
structure LvAt (g0 g : G) (ps : List (Leaf × Nat)) : Prop where
  old : G.le g0 g
  nd : (ps.map (·.2)).Nodup
  new : ∀ p ∈ ps, g0 p.2 = none
  at_ : ∀ p ∈ ps, g p.2 = some (.lst (p.1.s.map sg))
theorem LvAt.nil {g0 g : G} (h : G.le g0 g) : LvAt g0 g [] := ⟨h, List.nodup_nil, by simp, by simp⟩
theorem LvAt.app {g0 g g' : G} {ps qs : List (Leaf × Nat)} (h : LvAt g0 g ps) (h' : LvAt g g' qs) : LvAt g0 g' (ps ++ qs) := by
  refine ⟨G.le_trans h.old h'.old, ?_, fun p hp => ?_, fun p hp => ?_⟩
  · rw [List.map_append, List.nodup_append]
    refine ⟨h.nd, h'.nd, fun a ha b hb z => ?_⟩
    obtain ⟨p, hp, rfl⟩ := List.mem_map.mp ha
    obtain ⟨q, hq, rfl⟩ := List.mem_map.mp hb
    have := h'.new q hq
    rw [← z, h.at_ p hp] at this; cases this
  · rcases List.mem_append.mp hp with q | q
    · exact h.new p q
    · cases e : g0 p.2 with
      | none => rfl
      | some o => have := h'.new p q; rw [h.old _ _ e] at this; cases this
  · rcases List.mem_append.mp hp with q | q
    · exact h'.old _ _ (h.at_ p q)
    · exact h'.at_ p q
theorem LvAt.one {g : G} {a : Nat} (l : Leaf) (h : g a = none) : LvAt g (g.upd a (.lst (l.s.map sg))) [(l, a)] :=
  ⟨G.le_upd h, by simp, fun p hp => by rw [List.mem_singleton.mp hp]; exact h, fun p hp => by rw [List.mem_singleton.mp hp]; exact G.upd_same⟩
theorem LvAt.perm {g0 g : G} {ps qs : List (Leaf × Nat)} (h : LvAt g0 g ps) (hp : qs.Perm ps) : LvAt g0 g qs :=
  ⟨h.old, ((hp.map (·.2)).nodup_iff).mpr h.nd, fun p q => h.new p (hp.mem_iff.mp q), fun p q => h.at_ p (hp.mem_iff.mp q)⟩
theorem rsv_pD {g : G} {p : Leaf × Nat} (h : g p.2 = some (.lst (p.1.s.map sg))) : rsv 6 g (pD p) = some (rD p.1) := by
  have e1 : (pD p).pure = false := by simp [pD, D.pure, D.pures]
  have e3 : (D.ref p.2).pure = false := rfl
  have e4 : rsv 5 g (.ref p.2) = some (.rol (p.1.s.map sg)) := by
    unfold rsv
    rw [if_neg (by rw [e3]; exact Bool.false_ne_true)]
    simp only [h]
    rw [mapM_pure _ _ fun x hx => by
      obtain ⟨s, _, rfl⟩ := List.mem_map.mp hx
      exact pures_all fun y hy => by
        obtain ⟨w, _, rfl⟩ := List.mem_map.mp hy
        rfl]
    rfl
  have e5 : rsv 5 g (.tup (p.1.w.map nD)) = some (.tup (p.1.w.map nD)) := rsv_pure _ _ (pures_all fun y hy => by
    obtain ⟨w, _, rfl⟩ := List.mem_map.mp hy
    rfl)
  have e6 : rsv 5 g (.str p.1.k) = some (.str p.1.k) := rsv_pure _ _ rfl
  unfold rsv
  rw [if_neg (by rw [e1]; exact Bool.false_ne_true)]
  unfold pD
  show ([D.tup (p.1.w.map nD), .ref p.2, .str p.1.k].mapM (rsv 5 g)).map D.tup = _
  simp [e4, e5, e6, rD]
theorem rows_pD {g : G} : ∀ {ps : List (Leaf × Nat)}, (∀ p ∈ ps, g p.2 = some (.lst (p.1.s.map sg))) → rowsD g (ps.map pD) = some (ps.map fun p => (pD p, rD p.1))
  | [], _ => rfl
  | p :: ps, h => by
    have ih := rows_pD (g := g) (ps := ps) fun q hq => h q (by simp [hq])
    unfold rowsD at ih ⊢
    simp [rsv_pD (h p (by simp)), ih]
theorem rD_deep (l : Leaf) : (rD l).depth ≤ 60 := by
  have e : (rD l).depth = D.depths [.tup (l.w.map nD), .rol (l.s.map sg), .str l.k] + 1 := rfl
  rw [e]
  have : D.depths [.tup (l.w.map nD), .rol (l.s.map sg), .str l.k] ≤ 10 := depths_of fun x hx => by
    simp at hx
    rcases hx with rfl | rfl | rfl
    · show D.depths (l.w.map nD) + 1 ≤ 10
      have : D.depths (l.w.map nD) ≤ 0 := depths_of fun x hx => by
        obtain ⟨w, _, rfl⟩ := List.mem_map.mp hx
        exact Nat.le_refl _
      omega
    · show D.depths (l.s.map sg) + 1 ≤ 10
      have : D.depths (l.s.map sg) ≤ 1 := depths_of fun x hx => by
        obtain ⟨s, _, rfl⟩ := List.mem_map.mp hx
        show D.depths (s.map D.str) + 1 ≤ 1
        have : D.depths (s.map D.str) ≤ 0 := depths_of fun x hx => by
          obtain ⟨w, _, rfl⟩ := List.mem_map.mp hx
          exact Nat.le_refl _
        omega
      omega
    · exact Nat.zero_le _
  omega
theorem srt_leaves {g : G} {ps qs : List (Leaf × Nat)} (h : ∀ p ∈ ps, g p.2 = some (.lst (p.1.s.map sg))) (hp : ps.Perm qs) (hs : (qs.map (·.1)).Pairwise fun a b => a.z < b.z) : oSortD g (.o (.lst (ps.map pD))) = some (.own (.lst (qs.map pD))) := by
  unfold oSortD
  simp only
  rw [rows_pD h]
  have c1 : alikeB (ps.map fun p => (pD p, rD p.1)) = true := by
    unfold alikeB
    rw [List.all_eq_true]
    intro a ha
    rw [List.all_eq_true]
    intro b hb
    obtain ⟨p, _, rfl⟩ := List.mem_map.mp ha
    obtain ⟨q, _, rfl⟩ := List.mem_map.mp hb
    exact alike_rD _ _
  have c2 : sortableB (ps.map fun p => (pD p, rD p.1)) = true := by
    unfold sortableB
    rw [List.all_eq_true]
    intro a ha
    obtain ⟨p, _, rfl⟩ := List.mem_map.mp ha
    rfl
  have c3 : ((ps.map fun p => (pD p, rD p.1)).all fun a => decide (a.2.depth ≤ 60)) = true := by
    rw [List.all_eq_true]
    intro a ha
    obtain ⟨p, _, rfl⟩ := List.mem_map.mp ha
    exact decide_eq_true (rD_deep _)
  simp only [Option.bind_some]
  rw [c1, c2, c3]
  rw [sort_leaves (fun p : Leaf × Nat => p.1) pD hp hs]
  simp
theorem eq_nilP {g : G} {xs : List D} (h : ∀ x ∈ xs, plainT 50 x) : oEq g (.o (.lst xs)) (.o (.lst [])) = some (.d (.bl (decide (xs = [])))) := by
  have e := ne_nilP (g := g) h
  unfold oNe at e
  unfold oEq
  cases q : eqC g (.o (.lst xs)) (.o (.lst [])) with
  | none => rw [q] at e; cases e
  | some b =>
    rw [q] at e
    have e2 : (!b) = !decide (xs = []) := by simpa using e
    have : b = decide (xs = []) := by cases b <;> cases h : decide (xs = []) <;> simp_all
    rw [this]; rfl
theorem TrOk.plain {m : Mch} (hs : m.says.length ≤ 4) {d : Nat} {x : D} (h : TrOk m d x) (hd : d ≤ 4) : plainT 40 x := by
  obtain ⟨n, _, hn⟩ := trn_of hs h
  exact plain_mono hn.plain (by omega)
theorem nb_le {d : Nat} (h : d ≤ 4) : nb d ≤ 781 := by
  have : d = 0 ∨ d = 1 ∨ d = 2 ∨ d = 3 ∨ d = 4 := by omega
  rcases this with rfl | rfl | rfl | rfl | rfl <;> decide
structure Tdu where
  v : List D
  w : List Nat
  s : List Sgn
  d : Nat
def Tdu.e (x : Tdu) : D := .tup [.tup x.v, .tup (x.w.map nD), .tup (x.s.map sg)]
def Tdu.l (x : Tdu) : List Leaf := lvs x.d (.tup x.v) x.w x.s
structure Tdu.Ok (m : Mch) (x : Tdu) : Prop where
  t : TrOk m x.d (.tup x.v)
  w : x.w.length + x.d ≤ 4
  s : x.s.length + x.d ≤ 4
theorem Tdu.Ok.plain {m : Mch} (hs : m.says.length ≤ 4) {x : Tdu} (h : x.Ok m) : plainT 50 x.e := by
  have h1 := h.t.plain hs (by have := h.w; omega)
  refine plain_tup (n := 49) fun z hz => ?_
  simp [Tdu.e] at hz
  rcases hz with rfl | rfl | rfl
  · exact plain_mono h1 (by omega)
  · refine plain_mono (plain_tup (n := 0) fun y hy => ?_) (by omega)
    obtain ⟨u, _, rfl⟩ := List.mem_map.mp hy
    exact ⟨rfl, Nat.le_refl _⟩
  · refine plain_mono (plain_tup (n := 1) fun y hy => ?_) (by omega)
    obtain ⟨u, _, rfl⟩ := List.mem_map.mp hy
    exact plain_tup (n := 0) fun y hy => by
      obtain ⟨u, _, rfl⟩ := List.mem_map.mp hy
      exact ⟨rfl, Nat.le_refl _⟩
def nbs (L : List Tdu) : Nat := (L.map fun x => nb x.d).sum
theorem nbs_app (L R : List Tdu) : nbs (L ++ R) = nbs L + nbs R := by simp [nbs]
theorem nbs_len : ∀ (L : List Tdu), L.length ≤ nbs L
  | [] => Nat.le_refl _
  | x :: L => by
    have := nbs_len L
    have := nb_pos x.d
    show L.length + 1 ≤ nb x.d + nbs L
    omega
def kids (w : List Nat) (s : List Sgn) (d : Nat) : Nat → List (Sgn × List D) → List Tdu
  | _, [] => []
  | i, e :: r => ⟨e.2, w ++ [i], s ++ [e.1], d⟩ :: kids w s d (i + 1) r
theorem kids_snoc (w : List Nat) (s : List Sgn) (d : Nat) (e : Sgn × List D) : ∀ (i : Nat) (xs : List (Sgn × List D)), kids w s d i (xs ++ [e]) = kids w s d i xs ++ [⟨e.2, w ++ [i + xs.length], s ++ [e.1], d⟩]
  | i, [] => by simp [kids]
  | i, x :: xs => by
    show _ :: kids w s d (i + 1) (xs ++ [e]) = _
    rw [kids_snoc w s d e (i + 1) xs, show i + 1 + xs.length = i + (x :: xs).length from by simp; omega]; rfl
theorem kids_l (w : List Nat) (s : List Sgn) (d : Nat) : ∀ (i : Nat) (xs : List (Sgn × List D)), (kids w s d i xs).flatMap Tdu.l = lvsL (lvs d) w s i (xs.map fun e => (e.1, D.tup e.2))
  | _, [] => rfl
  | i, x :: xs => by
    show Tdu.l _ ++ (kids w s d (i + 1) xs).flatMap Tdu.l = _
    rw [kids_l w s d (i + 1) xs]; rfl
theorem kids_n (w : List Nat) (s : List Sgn) (d : Nat) : ∀ (i : Nat) (xs : List (Sgn × List D)), nbs (kids w s d i xs) = xs.length * nb d
  | _, [] => by simp [kids, nbs]
  | i, x :: xs => by
    show nb d + nbs (kids w s d (i + 1) xs) = _
    rw [kids_n w s d (i + 1) xs, List.length_cons, Nat.add_mul]; omega
theorem kids_len (w : List Nat) (s : List Sgn) (d : Nat) : ∀ (i : Nat) (xs : List (Sgn × List D)), (kids w s d i xs).length = xs.length
  | _, [] => rfl
  | i, x :: xs => by show (kids w s d (i + 1) xs).length + 1 = _; rw [kids_len]; rfl
theorem kids_ok {m : Mch} {w : List Nat} {s : List Sgn} {d : Nat} (hw : w.length + (d + 1) ≤ 4) (hs : s.length + (d + 1) ≤ 4) : ∀ (i : Nat) (xs : List (Sgn × List D)), (∀ e ∈ xs, TrOk m d (.tup e.2)) → ∀ x ∈ kids w s d i xs, x.Ok m
  | _, [], _, x, hx => (nomatch hx)
  | i, e :: r, h, x, hx => by
    rcases List.mem_cons.mp hx with z | z
    · rw [z]; exact ⟨h e (by simp), by simp; omega, by simp; omega⟩
    · exact kids_ok hw hs (i + 1) r (fun e he => h e (by simp [he])) x z
theorem enz7 {tg : WG} {b : WS} {Dn : Ends} {E : EX} {g : G} {A L : List D} {t0 t1 t2 t3 t4 t5 t6 t8 t9 t10 : Option Sl} (h : forL tg b Dn (fun ψ g => still (.own (.lst A)) (.o (.lst A)) ψ g ∧ still (.sl 7) (.o (.lst L)) ψ g) (numbered 0 (pairUp A L)) [t0, t1, t2, t3, t4, t5, t6, some (.own (.lst L)), t8, t9, t10] g) :
    nsQ (.own (.lst A)) (eVar 7 E [t0, t1, t2, t3, t4, t5, t6, some (.own (.lst L)), t8, t9, t10] g fun r' ψ g => optQ (look ψ g (.own (.lst A))) fun c => optQ (look ψ g r') fun c' => optQ (lstC c) fun xs => optQ (lstC c') fun ys => forQ tg b Dn (fun ψ g => still (.own (.lst A)) c ψ g ∧ still r' c' ψ g) (numbered 0 (pairUp xs ys)) ψ g) := h
theorem lv_for {m : Mch} {xv : List D} {ls : List (List D)} (hsl : m.says.length ≤ 4) (hsh : Shape m xv ls) {xw : List Nat} {xs : List Sgn} (hxw : xw.length ≤ 4) (hxs : xs.length ≤ 4) (d' : Nat) (hz : ((signsF (.tup xv)).zip ls).length ≤ 5) {Li : List Tdu} (hLi : Li.length ≤ 781) {t0 t1 t2 t8 t9 t10 : Option Sl} {Dn : Ends} {g : G}
    (h : ∀ t8 t9 t10, Dn.nx [t0, t1, t2, some (.own (.lst ((Li ++ kids xw xs d' 0 ((signsF (.tup xv)).zip ls)).map Tdu.e))), some (.d (.tup xv)), some (.d (.tup (xw.map nD))), some (.d (.tup (xs.map sg))), some (.own (.lst (ls.map D.tup))), t8, t9, t10] g) :
    (sFor (iEnZ (eNs (eCall d_tsigns.wp [false] (aCons (eVar 4) aNil))) (eVar 7)) (gTup [(gName 8), (gTup [(gName 9), (gName 10)])]) (sE (eMut mAppend (eVar 3) (dCons (eTup (dCons (eVar 10) (dCons (eBin oAdd (eVar 5) (eTup (dCons (eVar 8) dNil))) (dCons (eBin oAdd (eVar 6) (eTup (dCons (eVar 9) dNil))) dNil)))) dNil)))) Dn
      [t0, t1, t2, some (.own (.lst (Li.map Tdu.e))), some (.d (.tup xv)), some (.d (.tup (xw.map nD))), some (.d (.tup (xs.map sg))), some (.own (.lst (ls.map D.tup))), t8, t9, t10] g := by
  have h8 := most_is
  simp
  refine call_of ⟨m, xv, ls⟩ ⟨rfl, hsl, hsh⟩ ?_
  rintro r g5 ⟨rfl, rfl⟩
  refine enz7 ?_
  simp only
  rw [pairUp_map sg D.tup]
  generalize (signsF (.tup xv)).zip ls = Z at h hz
  refine for_enum (fun e : Sgn × List D => D.tup [sg e.1, .tup e.2]) Z (fun done ψ g6 => g6 = g5 ∧ ∃ t8 t9 t10, ψ = [t0, t1, t2, some (.own (.lst ((Li ++ kids xw xs d' 0 done).map Tdu.e))), some (.d (.tup xv)), some (.d (.tup (xw.map nD))), some (.d (.tup (xs.map sg))), some (.own (.lst (ls.map D.tup))), t8, t9, t10]) ?_ ?_ _ _ ⟨rfl, t8, t9, t10, by simp [kids]⟩
  · rintro done l rest ed ψ g6 K2 ⟨rfl, t8, t9, t10, rfl⟩ hK2
    have hdl : done.length < 5 := by
      have := congrArg List.length ed
      rw [List.length_append, List.length_cons] at this
      omega
    have hkl := kids_len xw xs d' 0 done
    obtain ⟨l1, l2⟩ := l
    have hk := hK2 [t0, t1, t2, some (.own (.lst ((Li ++ kids xw xs d' 0 (done ++ [(l1, l2)])).map Tdu.e))), some (.d (.tup xv)), some (.d (.tup (xw.map nD))), some (.d (.tup (xs.map sg))), some (.own (.lst (ls.map D.tup))), some (.d (.int done.length)), some (.d (sg l1)), some (.d (.tup l2))] g6 ⟨rfl, _, _, _, rfl⟩
    have ek : (Li ++ kids xw xs d' 0 (done ++ [(l1, l2)])).map Tdu.e = (Li ++ kids xw xs d' 0 done).map Tdu.e ++ [.tup [.tup l2, .tup (xw.map nD ++ [.int (done.length : Int)]), .tup (xs.map sg ++ [sg l1])]] := by
      rw [kids_snoc]
      simp [Tdu.e, nD]
    rw [ek] at hk
    clear ek hK2 h
    have hM : ((Li ++ kids xw xs d' 0 done).map Tdu.e).length ≤ 800 := by rw [List.length_map, List.length_append, hkl]; omega
    have hW : (xw.map nD).length ≤ 4 := by simpa using hxw
    have hS : (xs.map sg).length ≤ 4 := by simpa using hxs
    generalize (Li ++ kids xw xs d' 0 done).map Tdu.e = M at hk hM ⊢
    generalize sg l1 = S1 at hk ⊢
    generalize xw.map nD = W at hk hW ⊢
    generalize xs.map sg = S at hk hS ⊢
    simp
    exact ⟨by omega, by omega, by omega, now hk⟩
  · rintro ψ g6 ⟨rfl, t8, t9, t10, rfl⟩
    exact h _ _ _
structure Lvp where
  p : Nat
  m : Mch
  v : List D
  d : Nat
def d_tleaves : Sg Lvp := ⟨fun x ss g => ss = [.d (.ref x.p), .d (.tup x.v)] ∧ MachD g x.p x.m ∧ GM x.m 6 ∧ x.d ≤ 4 ∧ TrOk x.m x.d (.tup x.v),
  fun x g r g' => ∃ ps : List (Leaf × Nat), ps.map (·.1) = lvs x.d (.tup x.v) [] [] ∧ LvAt g g' ps ∧ r = .own (.lst (ps.map pD)), fun _ _ _ _ => False⟩
theorem k_tleaves : Keeps d_tleaves.wp (b_leaves d_needtrial.wp d_inner.wp d_tsigns.wp) 11 := by
  rintro ss g E Q ⟨⟨p, m, v, d⟩, ⟨rfl, hM, gm, hd, ht⟩, hq, _⟩
  have h8 := most_is
  have hM : MachD g p m := hM
  have gm : GM m 6 := gm
  have hsl := gm.sl
  simp only at ht hd hq
  have hnb := nb_le hd
  obtain ⟨n, hn1, hn2⟩ := trn_of hsl ht
  simp [b_leaves, begin_]
  rw [s_sSeq]; simp
  refine call_of ⟨p, m, v⟩ ⟨rfl, hM, gm, d, n, by omega, by omega, hn2⟩ ?_
  rintro r g1 ⟨rfl, rfl⟩
  rw [s_sSeq]; simp
  rw [s_sSeq]; simp
  refine seq_of (fun ψ g2 => ∃ ps t4 t5 t6 t7 t8 t9 t10, (ps.map (·.1)).Perm (lvs d (.tup v) [] []) ∧ LvAt g1 g2 ps ∧ ψ = [some (.d (.ref p)), some (.d (.tup v)), some (.own (.lst (ps.map pD))), some (.own (.lst [])), t4, t5, t6, t7, t8, t9, t10]) (fun nx hx => ?_) ?_
  rotate_left
  · rintro ψ g2 ⟨ps, t4, t5, t6, t7, t8, t9, t10, hp, hL, rfl⟩
    obtain ⟨qs, h1, h2⟩ := perm_map (·.1) hp ps rfl
    have e := srt_leaves hL.at_ h1.symm (by rw [h2]; exact lvs_sorted _ _ _ _)
    simp [e]
    exact ret_now (hq _ _ ⟨qs, h2, hL.perm h1, rfl⟩)
  refine while_ind (fun N ψ g2 => ∃ (L : List Tdu) (ps : List (Leaf × Nat)) (t4 t5 t6 t7 t8 t9 t10 : Option Sl), (∀ x ∈ L, x.Ok m) ∧ LvAt g1 g2 ps ∧ (ps.map (·.1) ++ L.flatMap Tdu.l).Perm (lvs d (.tup v) [] []) ∧ nbs L ≤ nb d ∧ N = nbs L ∧ ψ = [some (.d (.ref p)), some (.d (.tup v)), some (.own (.lst (ps.map pD))), some (.own (.lst (L.map Tdu.e))), t4, t5, t6, t7, t8, t9, t10]) ?_ (nb d) _ _ ⟨[⟨v, [], [], d⟩], [], none, none, none, none, none, none, none, fun x hx => (by simp at hx; subst hx; exact ⟨ht, by simpa using hd, by simpa using hd⟩), LvAt.nil (G.le_refl _), by simp [Tdu.l], by simp [nbs], by simp [nbs], by simp [Tdu.e]⟩
  rintro N ψ g2 K ⟨L, ps, t4, t5, t6, t7, t8, t9, t10, hL, hps, hperm, hsum, hN, rfl⟩ hK
  have hLp : ∀ x ∈ L.map Tdu.e, plainT 50 x := fun x hx => by
    obtain ⟨y, hy, rfl⟩ := List.mem_map.mp hx
    exact (hL y hy).plain hsl
  have e := ne_nilP (g := g2) hLp
  have hpl : ps.length ≤ 781 := by
    have h1 := hperm.length_eq
    have h2 := lvs_len hsl ht [] []
    rw [List.length_append, List.length_map] at h1
    omega
  have hLl := nbs_len L
  simp [e]
  by_cases c : L = []
  · subst c
    simp
    exact hx _ _ ⟨ps, _, _, _, _, _, _, _, by simpa using hperm, hps, rfl⟩
  simp [c]
  obtain ⟨Li, x, rfl⟩ : ∃ Li x, L = Li ++ [x] := by
    rcases List.eq_nil_or_concat L with e | ⟨Li, z, e⟩
    · exact absurd e c
    · exact ⟨Li, z, by simpa using e⟩
  obtain ⟨hxt, hxw, hxs⟩ := hL x (by simp)
  rw [nbs_app] at hsum hN
  rw [List.length_append] at hLl
  have hpop : mPop ((Li ++ [x]).map Tdu.e) [] = some (Li.map Tdu.e, x.e) := by
    rw [m_pop]
    simp
  obtain ⟨xv, xw, xs, xd⟩ := x
  simp only at hxt hxw hxs
  obtain ⟨ls, hsh, hin, hkind⟩ := hxt.node
  rw [s_sSeq]
  simp only [List.map_append, List.map_cons, List.map_nil] at hpop ⊢
  simp [hpop, -m_pop]
  rw [show Tdu.e ⟨xv, xw, xs, xd⟩ = .tup [.tup xv, .tup (xw.map nD), .tup (xs.map sg)] from rfl]
  simp
  rw [s_sSeq]; simp
  refine call_of ⟨m, xv, ls⟩ ⟨rfl, hsl, hsh⟩ ?_
  rintro r g3 ⟨rfl, rfl⟩
  have hlsp : ∀ y ∈ ls.map D.tup, plainT 50 y := fun y hy => by
    obtain ⟨l, hl, rfl⟩ := List.mem_map.mp hy
    rcases hkind with ⟨_, h0, _⟩ | ⟨d', k, _, _, _, _, h6⟩
    · rw [h0] at hl; cases hl
    · exact plain_mono ((h6 l hl).plain hsl (by omega)) (by omega)
  have eI := eq_nilP (g := g3) hlsp
  simp
  have hzl : ((signsF (.tup xv)).zip ls).length ≤ 5 := by
    rcases hkind with ⟨_, h0, _⟩ | ⟨d', k, _, _, hl, _, _⟩
    · rw [h0]; simp
    · have := partS_len k hsl
      simp; omega
  have hLl2 := nbs_len Li
  refine seq_of (fun ψ g6 => ∃ ps' t8 t9 t10, LvAt g1 g6 ps' ∧ ps'.map (·.1) = ps.map (·.1) ++ (if ls = [] then [⟨xw, xs, fstF (.tup xv)⟩] else []) ∧ ψ = [some (.d (.ref p)), some (.d (.tup v)), some (.own (.lst (ps'.map pD))), some (.own (.lst (Li.map Tdu.e))), some (.d (.tup xv)), some (.d (.tup (xw.map nD))), some (.d (.tup (xs.map sg))), some (.own (.lst (ls.map D.tup))), t8, t9, t10]) (fun nx2 hx2 => ?_) ?_
  · simp [eI]
    rcases hkind with ⟨⟨b, rfl⟩, rfl, hsg⟩ | ⟨d', k, rfl, hk, hl, hsg, hch⟩
    · simp
      intro a ha
      refine ⟨by omega, ?_⟩
      have h1 := LvAt.one ⟨xw, xs, b⟩ ha
      simp only at h1
      refine (hx2 [some (.d (.ref p)), some (.d (.tup v)), some (.own (.lst (List.map pD ps ++ [D.tup [D.tup (List.map nD xw), D.ref a, D.str b]]))), some (.own (.lst (Li.map Tdu.e))), some (.d (.tup [.str b])), some (.d (.tup (xw.map nD))), some (.d (.tup (xs.map sg))), some (.own (.lst [])), t8, t9, t10] _ ⟨ps ++ [(⟨xw, xs, b⟩, a)], t8, t9, t10, hps.app h1, by simp [fstF], by simp [pD]⟩)
    · have hne : ls ≠ [] := fun z => by have := partS_pos m k; rw [z] at hl; simp at hl; omega
      simp [hne]
      exact hx2 _ _ ⟨ps, t8, t9, t10, hps, by rw [if_neg hne, List.append_nil], rfl⟩
  · rintro ψ g6 ⟨ps', t8, t9, t10, hps', hpm, rfl⟩
    rcases hkind with ⟨⟨b, rfl⟩, rfl, hsg⟩ | ⟨d', k, rfl, hk, hl, hsg, hch⟩
    · have hxl : Tdu.l ⟨[.str b], xw, xs, xd⟩ = [⟨xw, xs, b⟩] := lvs_leaf _ _ _ _ hin
      refine lv_for (d' := 0) hsl hsh (by omega) (by omega) hzl (by omega) fun t8 t9 t10 => ?_
      refine now (hK (nbs Li) _ _ ?_ ⟨Li, ps', _, _, _, _, t8, t9, t10, fun y hy => hL y (by simp [hy]), hps', ?_, by omega, rfl, by simp [kids]; exact ⟨rfl, rfl, rfl, rfl⟩⟩)
      · rw [hN]
        have : nbs [⟨[.str b], xw, xs, xd⟩] = nb xd := by simp [nbs]
        have := nb_pos xd
        omega
      · refine List.Perm.trans ?_ hperm
        rw [hpm, if_pos rfl, List.flatMap_append, List.append_assoc]
        refine List.Perm.append_left _ ?_
        have : List.flatMap Tdu.l [⟨[.str b], xw, xs, xd⟩] = [⟨xw, xs, b⟩] := by simp [hxl]
        rw [this]
        exact List.perm_append_comm
    · have hne : ls ≠ [] := fun z => by have := partS_pos m k; rw [z] at hl; simp at hl; omega
      have hne2 : innerF (.tup xv) ≠ [] := by rw [hin]; simpa using hne
      have hxl : Tdu.l ⟨xv, xw, xs, d' + 1⟩ = lvsL (lvs d') xw xs 0 (((signsF (.tup xv)).zip ls).map fun e => (e.1, D.tup e.2)) := by
        show lvs (d' + 1) (.tup xv) xw xs = _
        rw [lvs_node _ _ _ _ hne2, hin, List.zip_map_right]
        rfl
      have hpl := partS_len k hsl
      have hnbs : nbs [⟨xv, xw, xs, d' + 1⟩] = 1 + 5 * nb d' := by simp [nbs, nb]
      have hkn := kids_n xw xs d' 0 ((signsF (.tup xv)).zip ls)
      have hk5 := Nat.mul_le_mul_right (nb d') hzl
      refine lv_for (d' := d') hsl hsh (by omega) (by omega) hzl (by omega) fun t8 t9 t10 => ?_
      refine now (hK (nbs (Li ++ kids xw xs d' 0 ((signsF (.tup xv)).zip ls))) _ _ ?_ ⟨Li ++ kids xw xs d' 0 ((signsF (.tup xv)).zip ls), ps', _, _, _, _, t8, t9, t10, fun y hy => ?_, hps', ?_, ?_, rfl, rfl⟩)
      · rw [hN, nbs_app, hkn]; omega
      · rcases List.mem_append.mp hy with h | h
        · exact hL y (by simp [h])
        · exact kids_ok hxw hxs 0 _ (fun e he => hch _ (List.of_mem_zip he).2) y h
      · refine List.Perm.trans ?_ hperm
        rw [hpm, if_neg hne, List.append_nil, List.flatMap_append, List.flatMap_append, kids_l]
        have : List.flatMap Tdu.l [⟨xv, xw, xs, d' + 1⟩] = lvsL (lvs d') xw xs 0 (((signsF (.tup xv)).zip ls).map fun e => (e.1, D.tup e.2)) := by simp [hxl]
        rw [this]
      · rw [nbs_app, hkn]; omega
end Pd
set_option Elab.async false
set_option linter.all false
namespace Pd
/-- _law_quiet(told, room) -/
def b__law_quiet : WS :=
  (sSeq (sSet 2 (eComp [3] (iIt (eNs (eBin oIx (eVar 0) (eC (.int 3))))) (gName 3) (tV (eBin oEq (eBin oIx (eVar 3) (eC (.int 0))) (eVar 1))) (eVar 3))) (sRet (eUn oAll (eComp [3] (iIt (eVar 2)) (gName 3) tYes (eBin oEq (eBin oIx (eBin oIx (eVar 3) (eC (.int 1))) (eC (.int 0))) (eC (.str [97, 115, 107])))))))
/-- _law_in_order(told, some) -/
def b__law_in_order (φ__law_still_on : SpD) : WS :=
  (sSeq (sSet 2 (eCall φ__law_still_on [false, false] (aCons (eBin oIx (eVar 0) (eC (.int 3))) (aCons (eVar 1) aNil)))) (sRet (eUn oTuple (eComp [3] (iIt (eNs (eBin oIx (eVar 0) (eC (.int 2))))) (gName 3) (tV (eBin oIn (eVar 3) (eVar 2))) (eVar 3)))))
/-- _law_face_on(told, face, sign) -/
def b__law_face_on (φ__law_quiet φ__law_in_order : SpD) : WS :=
  (sSeq (sIf (tV (eBin oEq (eVar 2) (eTup (dCons (eC (.str [104, 117, 115, 104])) dNil)))) (sRet (eUn oTuple (eComp [4] (iIt (eVar 1)) (gName 4) (tV (eCall φ__law_quiet [false, false] (aCons (eVar 0) (aCons (eVar 4) aNil)))) (eVar 4)))) sNx) (sSeq (sSet 3 (eLst dNil)) (sSeq (sFor (iIt (eNs (eBin oIx (eVar 0) (eC (.int 3))))) (gTup [(gName 4), (gName 5), (gName 6)]) (sIf (tAnd (tV (eBin oIn (eVar 4) (eVar 1))) (tAnd (tV (eBin oEq (eVar 5) (eVar 2))) (tV (eBin oNin (eVar 6) (eVar 3))))) (sE (eMut mAppend (eVar 3) (dCons (eVar 6) dNil))) sNx)) (sRet (eCall φ__law_in_order [false, false] (aCons (eVar 0) (aCons (eVar 3) aNil)))))))
/-- _law_face_at(told, story) -/
def b__law_face_at (φ__law_in_order φ__law_face_on : SpD) : WS :=
  (sSeq (sSet 2 (eCall φ__law_in_order [false, false] (aCons (eVar 0) (aCons (eCut (eBin oIx (eVar 0) (eC (.int 2))) none (some (eC (.int 1)))) aNil)))) (sSeq (sFor (iIt (eVar 1)) (gName 3) (sSet 2 (eCall φ__law_face_on [false, false, false] (aCons (eVar 0) (aCons (eVar 2) (aCons (eVar 3) aNil)))))) (sRet (eVar 2))))
end Pd
set_option linter.all false
set_option maxRecDepth 10000
namespace Pd
/-! faces by the told lists, a second time -/
theorem k_inorder : Keeps d_lon.wp (b__law_in_order d_stillon.wp) 4 := by
  rintro ss g E Q ⟨⟨⟨m, a1, a2, a3, a4⟩, s⟩, ⟨⟨s1, rfl, h1⟩, ⟨e1, e2, e3, e4⟩, ok, hl⟩, hq, _⟩
  have h8 := most_is
  have hrl := ok.rl
  have hdl := ok.dl
  simp only at h1 e1 e2 e3 e4 hl hrl hdl
  simp [b__law_in_order, begin_]
  rw [s_sSeq]; simp
  refine call_of ⟨m.doors, s⟩ ⟨⟨_, _, rfl, by simp [e4], by simp [h1]⟩, by simp only; omega, hl⟩ ?_
  rintro r g1 ⟨rfl, ex, rfl, x1, x2, x3⟩
  simp only at x2 x3
  have hmem : ∀ w, w ∈ s ++ ex ↔ Led m s w := fun w => by
    constructor
    · intro h
      rcases List.mem_append.mp h with h | h
      · exact .inl h
      · exact .inr (x2 w h).2
    · rintro (h | ⟨v, hv, hr⟩)
      · exact List.mem_append_left _ h
      · induction hr with
        | one st => exact x3 _ (List.mem_append_left _ hv) _ st
        | snoc _ st ih => exact x3 _ ih _ st
  have hfe : m.rooms.filter (fun w => decide (w ∈ s ++ ex)) = closed m s := by
    unfold closed
    exact List.filter_congr fun w _ => by rw [decide_eq_decide]; exact hmem w
  simp only
  generalize s ++ ex = l at hfe
  simp [e3, lendAll, lend, wipe]
  refine comp_map D.str (fun w => decide (w ∈ l)) D.str m.rooms (by omega) ?_ ?_
  · intro w hw acc K ha h1 h2
    by_cases c : w ∈ l
    · simp [c, ha, e3]
      exact h1 (by simp [c])
    · simp [c, e3]
      exact h2 (by simp [c])
  · rw [hfe]
    simp
    exact ret_now (hq _ _ ⟨rfl, rfl⟩)
theorem k_gquiet : Keeps d_lquiet.wp b__law_quiet 4 := by
  rintro ss g E Q ⟨⟨⟨m, a1, a2, a3, a4⟩, w⟩, ⟨rfl, tl, ok⟩, hq, _⟩
  have h8 := most_is
  have tl : Told g ⟨m, a1, a2, a3, a4⟩ := tl
  have ok : MOk m := ok
  have hdl := ok.dl
  have hol := out_len m.doors w
  have two : ∀ d ∈ outOf m.doors w, Two d.s := fun d hd => ok.two d (List.mem_filter.mp hd).1
  simp [b__law_quiet, begin_]
  rw [s_sSeq]; simp [tl.e4, lendAll, lend, wipe]
  refine comp_map dr (fun d => decide (d.r = w)) dr m.doors (by omega) ?_ ?_
  · intro d hd acc K ha h1 h2
    by_cases c : d.r = w
    · simp [c, ha, tl.e4]; simpa [c] using h1 (by simpa using c)
    · simp [c, tl.e4]; exact h2 (by simpa using c)
  have eO : (m.doors.filter fun d => decide (d.r = w)).map dr = Ds (outOf m.doors w) := rfl
  rw [eO]
  have eQ : quietB m w = (outOf m.doors w).all isAsk := rfl
  generalize outOf m.doors w = O1 at hol two eQ
  simp [lendAll, lend, wipe]
  refine comp_map dr (fun _ => true) (fun d => .bl (isAsk d)) O1 (by omega) ?_ ?_
  · intro d hd acc K ha h1 _
    rcases (two d hd).cases with ⟨x, e⟩ | ⟨x, y, e⟩
    · simp [e, ha]
      simpa [isAsk, e] using h1 rfl
    · simp [e, ha]
      simpa [isAsk, e] using h1 rfl
  · have e : O1.filter (fun _ => true) = O1 := List.filter_eq_self.mpr fun _ _ => rfl
    rw [e]
    simp [boolsD_map]
    exact ret_now (hq _ _ ⟨rfl, by rw [eQ]⟩)
theorem k_faceon : Keeps d_lbehind.wp (b__law_face_on d_lquiet.wp d_lon.wp) 7 := by
  rintro ss g E Q ⟨⟨⟨m, a1, a2, a3, a4⟩, f, s⟩, ⟨rfl, tl, ok, hl⟩, hq, _⟩
  have h8 := most_is
  have tl : Told g ⟨m, a1, a2, a3, a4⟩ := tl
  have ok : MOk m := ok
  have hdl := ok.dl
  simp only at hdl hl
  simp [b__law_face_on, begin_]
  rw [s_sSeq]
  by_cases c : s = [wHush]
  · simp [c, lendAll, lend, wipe]
    refine comp_map D.str (quietB m) D.str f (by omega) ?_ ?_
    · intro w hw acc K ha h1 h2
      simp
      refine call_of ⟨⟨m, a1, a2, a3, a4⟩, w⟩ ⟨rfl, tl, ok⟩ ?_
      rintro r g1 ⟨rfl, rfl⟩
      cases b : quietB m w with
      | true => simp [b, ha]; exact h1 b
      | false => simp [b]; exact h2 b
    · simp
      exact ret_now (hq _ _ ⟨rfl, by simp only [behind]; rw [if_pos c]⟩)
  · simp [c]
    rw [s_sSeq]; simp
    refine seq_of (fun ψ g2 => g2 = g ∧ ∃ (L : List (List Nat)) (t4 t5 t6 : Option Sl), (∀ x, x ∈ L ↔ x ∈ led m f s) ∧ L.length ≤ m.doors.length ∧ ψ = [some (.d (.tup [.ref a1, .ref a2, .ref a3, .ref a4])), some (.d (.tup (T f))), some (.d (.tup (T s))), some (.own (.lst (T L))), t4, t5, t6]) (fun nx hn => ?_) ?_
    · simp [tl.e4]
      refine for_map dr m.doors (fun done ψ g2 => g2 = g ∧ ∃ (L : List (List Nat)) (t4 t5 t6 : Option Sl), (∀ x, x ∈ L ↔ ∃ d ∈ done, d.r ∈ f ∧ d.s = s ∧ d.o = x) ∧ L.length ≤ done.length ∧ ψ = [some (.d (.tup [.ref a1, .ref a2, .ref a3, .ref a4])), some (.d (.tup (T f))), some (.d (.tup (T s))), some (.own (.lst (T L))), t4, t5, t6]) ?_ ?_ _ _ ⟨rfl, [], none, none, none, by simp, by simp, rfl⟩
      · rintro done d rest ed ψ g2 K ⟨rfl, L, t4, t5, t6, hL, hLl, rfl⟩ hK
        have hdn : done.length < m.doors.length := by rw [ed]; simp
        have hLm : L.length < most := by omega
        have same : (¬ (d.r ∈ f ∧ d.s = s) ∨ d.o ∈ L) → ∀ x, x ∈ L ↔ ∃ d' ∈ done ++ [d], d'.r ∈ f ∧ d'.s = s ∧ d'.o = x := fun hc x => by
          rw [hL x]
          constructor
          · rintro ⟨d', h1, h2⟩; exact ⟨d', List.mem_append_left _ h1, h2⟩
          · rintro ⟨d', h1, h2⟩
            rcases List.mem_append.mp h1 with h1 | h1
            · exact ⟨d', h1, h2⟩
            · rw [List.mem_singleton.mp h1] at h2
              rcases hc with hc | hc
              · exact absurd ⟨h2.1, h2.2.1⟩ hc
              · rw [h2.2.2] at hc; exact (hL x).mp hc
        have stay : ∀ t4 t5 t6 : Option Sl, (¬ (d.r ∈ f ∧ d.s = s) ∨ d.o ∈ L) → K [some (.d (.tup [.ref a1, .ref a2, .ref a3, .ref a4])), some (.d (.tup (T f))), some (.d (.tup (T s))), some (.own (.lst (T L))), t4, t5, t6] g2 := fun t4 t5 t6 hc => hK _ _ ⟨rfl, L, t4, t5, t6, same hc, by simp; omega, rfl⟩
        by_cases c1 : d.r ∈ f
        · by_cases c2 : d.s = s
          · by_cases c3 : d.o ∈ L
            · simp [c1, c2, c3]
              exact now ⟨by simp [tl.e4], stay _ _ _ (.inr c3)⟩
            · simp [c1, c2, c3, hLm]
              refine now ⟨by simp [tl.e4], hK _ _ ⟨rfl, L ++ [d.o], some (.d (.str d.r)), some (.d (.tup (s.map D.str))), some (.d (.str d.o)), fun x => ?_, by simp; omega, by simp [T, c2]⟩⟩
              rw [List.mem_append, List.mem_singleton, hL x]
              constructor
              · rintro (⟨d', h1, h2⟩ | rfl)
                · exact ⟨d', List.mem_append_left _ h1, h2⟩
                · exact ⟨d, by simp, c1, c2, rfl⟩
              · rintro ⟨d', h1, h2⟩
                rcases List.mem_append.mp h1 with h1 | h1
                · exact .inl ⟨d', h1, h2⟩
                · rw [List.mem_singleton.mp h1] at h2; exact .inr h2.2.2.symm
          · simp [c1, c2]
            exact now ⟨by simp [tl.e4], stay _ _ _ (.inl fun z => c2 z.2)⟩
        · simp [c1]
          exact now ⟨by simp [tl.e4], stay _ _ _ (.inl fun z => c1 z.1)⟩
      · rintro ψ g2 ⟨rfl, L, t4, t5, t6, hL, hLl, rfl⟩
        exact hn _ _ ⟨rfl, L, t4, t5, t6, fun x => by rw [hL x, mem_led], hLl, rfl⟩
    · rintro ψ g2 ⟨rfl, L, t4, t5, t6, hL, hLl, rfl⟩
      simp
      refine call_of ⟨⟨m, a1, a2, a3, a4⟩, L⟩ ⟨⟨_, rfl, by simp⟩, tl, ok, by simp only; omega⟩ ?_
      rintro r g1 ⟨rfl, rfl⟩
      simp
      exact ret_now (hq _ _ ⟨rfl, by simp only [behind]; rw [if_neg c, closed_congr hL]⟩)
theorem k_faceat : Keeps d_lface.wp (b__law_face_at d_lon.wp d_lbehind.wp) 4 := by
  rintro ss g E Q ⟨⟨⟨m, a1, a2, a3, a4⟩, st⟩, ⟨⟨s1, rfl, h1⟩, tl, ok⟩, hq, _⟩
  have hrl := ok.rl
  simp only at h1 hrl
  simp [b__law_face_at, begin_]
  rw [s_sSeq]; simp [tl.e3]
  refine call_of ⟨⟨m, a1, a2, a3, a4⟩, m.rooms.take 1⟩ ⟨⟨_, rfl, by simp [List.map_take]⟩, tl, ok, by simp only [List.length_take]; omega⟩ ?_
  rintro r g1 ⟨rfl, rfl⟩
  simp
  refine seq_of (fun ψ g => g = g1 ∧ ∃ t3, ψ = [some (.d (Tm.d ⟨m, a1, a2, a3, a4⟩)), some s1, some (.d (.tup (T (faceOf m st)))), t3]) (fun nx hn => ?_) ?_
  · simp [h1]
    refine for_map sg st (fun done ψ g => g = g1 ∧ ∃ t3, ψ = [some (.d (Tm.d ⟨m, a1, a2, a3, a4⟩)), some s1, some (.d (.tup (T (faceOf m done)))), t3]) ?_ ?_ _ _ ⟨rfl, _, rfl⟩
    · rintro done s rest ed ψ g2 K ⟨rfl, t3, rfl⟩ hK
      have := faceOf_len m done
      simp
      refine call_of ⟨⟨m, a1, a2, a3, a4⟩, faceOf m done, s⟩ ⟨rfl, tl, ok, by simp only; omega⟩ ?_
      rintro r g3 ⟨rfl, rfl⟩
      simp
      exact now ⟨h1, hK _ _ ⟨rfl, _, by rw [faceOf_snoc]⟩⟩
    · rintro ψ g2 ⟨rfl, t3, rfl⟩
      exact hn _ _ ⟨rfl, _, rfl⟩
  · rintro ψ g2 ⟨rfl, t3, rfl⟩
    simp
    exact ret_now (hq _ _ ⟨rfl, rfl⟩)
end Pd
set_option linter.all false
set_option maxRecDepth 10000
namespace Pd
/-! the law's leaves -/
theorem LvAt.back {g0 g g' : G} {ps : List (Leaf × Nat)} (k : G.le g0 g) (h : LvAt g g' ps) : LvAt g0 g' ps :=
  ⟨G.le_trans k h.old, h.nd, (fun p hp => by
    cases e : g0 p.2 with
    | none => rfl
    | some o => have := h.new p hp; rw [k _ _ e] at this; cases this), h.at_⟩
theorem zip_snocL {α β : Type} (x : α) : ∀ (a : List α) (b : List β) (h : a.length < b.length), (a ++ [x]).zip b = a.zip b ++ [(x, b[a.length])]
  | [], [], h => by simp at h
  | [], y :: b, _ => by simp
  | _ :: _, [], h => by simp at h
  | z :: a, y :: b, h => by
    have h' : a.length < b.length := by simpa using h
    show (z, y) :: (a ++ [x]).zip b = (z, y) :: (a.zip b ++ [(x, b[a.length])])
    rw [zip_snocL x a b h']
structure Lvq where
  m : Mch
  v : List D
  w : List Nat
  s : List Sgn
  b : Nat
  g0 : G
def d_lleaves (n : Nat) : Sg Lvq := ⟨fun x ss g => ss = [.d (.tup x.v), .d (.tup (x.w.map nD)), .d (.ref x.b)] ∧ x.g0 x.b = none ∧ g = x.g0.upd x.b (.lst (x.s.map sg)) ∧ TrOk x.m n (.tup x.v) ∧ x.m.says.length ≤ 4 ∧ x.w.length + n ≤ 4 ∧ x.s.length + n ≤ 4,
  fun x g r g' => ∃ ps : List (Leaf × Nat), ps.map (·.1) = lvs n (.tup x.v) x.w x.s ∧ LvAt x.g0 g' ps ∧ r = .own (.lst (ps.map pD)), fun _ _ _ _ => False⟩
theorem k_lleaves {φ : SpD} (n : Nat) (hφ : ∀ n', n' + 1 = n → ∀ ss g E Q, (d_lleaves n').wp ss g E Q → φ ss g E Q) : Keeps (d_lleaves n).wp (b__law_leaves d_inner.wp d_lsg.wp φ) 7 := by
  rintro ss g E Q ⟨⟨m, v, w, s, b, g0⟩, ⟨rfl, hb, hg, ht, hsl, hw, hs⟩, hq, _⟩
  have h8 := most_is
  simp only at hb hg ht hsl hw hs hq
  have hn : n ≤ 4 := by omega
  have hgb : g b = some (.lst (s.map sg)) := by rw [hg]; exact G.upd_same
  have hle : G.le g0 g := by rw [hg]; exact G.le_upd hb
  obtain ⟨ls, hsh, hin, hkind⟩ := ht.node
  have hlsp : ∀ y ∈ ls.map D.tup, plainT 50 y := fun y hy => by
    obtain ⟨l, hl, rfl⟩ := List.mem_map.mp hy
    rcases hkind with ⟨_, h0, _⟩ | ⟨d', k, _, _, _, _, h6⟩
    · rw [h0] at hl; cases hl
    · exact plain_mono ((h6 l hl).plain hsl (by omega)) (by omega)
  have eI := eq_nilP (g := g) hlsp
  simp [b__law_leaves, begin_]
  rw [s_sSeq]; simp
  refine call_of ⟨m, v, ls⟩ ⟨rfl, hsl, hsh⟩ ?_
  rintro r g1 ⟨rfl, rfl⟩
  simp
  rw [s_sSeq]; simp [eI]
  rcases hkind with ⟨⟨b', rfl⟩, rfl, hsg⟩ | ⟨d', k, rfl, hk, hl, hsg, hch⟩
  · simp
    refine ret_now (hq _ _ ⟨[(⟨w, s, b'⟩, b)], ?_, ?_, ?_⟩)
    · rw [lvs_leaf _ _ _ _ hin]; rfl
    · rw [hg]; exact LvAt.one ⟨w, s, b'⟩ hb
    · simp [pD]
  · have hne : ls ≠ [] := fun z => by have := partS_pos m k; rw [z] at hl; simp at hl; omega
    have hne2 : innerF (.tup v) ≠ [] := by rw [hin]; simpa using hne
    have hpl := partS_len k hsl
    simp [hne]
    rw [s_sSeq]; simp
    refine seq_of (fun ψ g2 => ∃ ps t0 t1 t2 t3 t5 t6, ps.map (·.1) = lvsL (lvs d') w s 0 ((partS m k).zip (ls.map D.tup)) ∧ LvAt g1 g2 ps ∧ ψ = [t0, t1, t2, t3, some (.own (.lst (ps.map pD))), t5, t6]) (fun nx hx => ?_) ?_
    · simp
      refine call_of ⟨m, v, ls⟩ ⟨rfl, hsl, hsh, hne⟩ ?_
      rintro r g3 ⟨rfl, rfl⟩
      simp only
      rw [hsg]
      simp
      refine for_enum sg (partS m k) (fun done ψ g2 => ∃ ps t5 t6, ps.map (·.1) = lvsL (lvs d') w s 0 (done.zip (ls.map D.tup)) ∧ LvAt g3 g2 ps ∧ ψ = [some (.d (.tup v)), some (.d (.tup (w.map nD))), some (.d (.ref b)), some (.own (.lst (ls.map D.tup))), some (.own (.lst (ps.map pD))), t5, t6]) ?_ ?_ _ _ ⟨[], none, none, rfl, LvAt.nil (G.le_refl _), rfl⟩
      · rintro done x rest ed ψ g4 K ⟨ps, t5, t6, hps, hL, rfl⟩ hK
        have hdl : done.length < ls.length := by
          rw [hl, ed]; simp
        have hbn : g4 b = some (.lst (s.map sg)) := hL.old _ _ hgb
        have hzl : (done.zip (ls.map D.tup)).length ≤ 4 := by simp; omega
        have hnb : nb d' ≤ 781 := nb_le (by omega)
        have hpsl : ps.length ≤ 4 * 781 := by
          have h1 := congrArg List.length hps
          have h2 := lvsL_len (f := lvs d') (w := w) (s := s) (B := nb d') 0 (done.zip (ls.map D.tup)) fun e he w s => by
            obtain ⟨l, hl2, e2⟩ := List.mem_map.mp (List.of_mem_zip he).2
            rw [← e2]; exact lvs_len hsl (hch l hl2) w s
          have := Nat.mul_le_mul hzl hnb
          rw [List.length_map] at h1; omega
        have hat : atI ls (done.length : Int) = some ls[done.length] := by rw [atI_lt (by omega) (by omega)]; simp
        have hx : ls[done.length] ∈ ls := List.getElem_mem hdl
        have hxl : (lvs d' (.tup ls[done.length]) (w ++ [done.length]) (s ++ [x])).length ≤ nb d' := lvs_len hsl (hch _ hx) _ _
        simp [hbn, hat]
        refine ⟨by omega, by omega, fun p hp => ?_⟩
        refine hφ d' rfl _ _ _ _ ⟨⟨m, ls[done.length], w ++ [done.length], s ++ [x], p, g4⟩, ⟨by simp [nD], hp, by simp [sg], hch _ hx, hsl, by simp; omega, by simp; omega⟩, ?_, fun _ _ h => h.elim⟩
        rintro r g5 ⟨qs, hqs, hLq, rfl⟩
        simp only at hqs hLq
        have hql : qs.length ≤ 781 := by
          have := congrArg List.length hqs
          rw [List.length_map] at this; omega
        have ez : (done ++ [x]).zip (ls.map D.tup) = done.zip (ls.map D.tup) ++ [(x, D.tup ls[done.length])] := by
          rw [zip_snocL x done (ls.map D.tup) (by simpa using hdl)]; simp
        have hk2 := hK [some (.d (.tup v)), some (.d (.tup (w.map nD))), some (.d (.ref b)), some (.own (.lst (ls.map D.tup))), some (.own (.lst ((ps ++ qs).map pD))), some (.d (.int done.length)), some (.d (sg x))] g5 ⟨ps ++ qs, some (.d (.int done.length)), some (.d (sg x)), ?_, hL.app hLq, rfl⟩
        · rw [List.map_append] at hk2
          have h1 : (ps.map pD).length ≤ 4000 := by rw [List.length_map]; omega
          have h2 : (qs.map pD).length ≤ 4000 := by rw [List.length_map]; omega
          generalize ps.map pD = P at hk2 h1 ⊢
          generalize qs.map pD = P2 at hk2 h2 ⊢
          simp
          exact ⟨by omega, now hk2⟩
        · rw [ez, lvsL_app, List.map_append, hps, hqs]
          have : 0 + (done.zip (ls.map D.tup)).length = done.length := by simp; omega
          rw [this]
          simp [lvsL]
      · rintro ψ g4 ⟨ps, t5, t6, hps, hL, rfl⟩
        exact hx _ _ ⟨ps, _, _, _, _, _, _, hps, hL, rfl⟩
    · rintro ψ g2 ⟨ps, t0, t1, t2, t3, t5, t6, hps, hL, rfl⟩
      simp
      refine ret_now (hq _ _ ⟨ps, ?_, hL.back hle, rfl⟩)
      rw [lvs_node _ _ _ _ hne2, hin, hsg]; exact hps
theorem k_lleaves0 {φ : SpD} : Keeps (d_lleaves 0).wp (b__law_leaves d_inner.wp d_lsg.wp φ) 7 := k_lleaves 0 fun _ e => (nomatch e)
theorem k_lleavesS (n : Nat) : Keeps (d_lleaves (n + 1)).wp (b__law_leaves d_inner.wp d_lsg.wp (d_lleaves n).wp) 7 := k_lleaves (n + 1) fun _ e => by cases e; exact fun _ _ _ _ h => h
/-! pairs of says and parts -/
structure Lpr where
  ws : List (List Nat)
  ps : List D
def d_lpairs : Sg Lpr := ⟨fun x ss g => (∃ s1 s2, ss = [s1, s2] ∧ lookS g s1 = some (.o (.lst (T x.ws))) ∧ lookS g s2 = some (.o (.lst x.ps))) ∧ x.ws.length ≤ 100,
  fun x g r g' => g' = g ∧ r = .d (.tup (pairUp (T x.ws) x.ps)), fun _ _ _ _ => False⟩
theorem k_lpairs : Keeps d_lpairs.wp b__law_pairs 4 := by
  rintro ss g E Q ⟨⟨ws, ps⟩, ⟨⟨s1, s2, rfl, h1, h2⟩, hl⟩, hq, _⟩
  have h8 := most_is
  simp only at h1 h2 hl
  have e : pairUp (T ws) ps = (ws.zip ps).map fun e => D.tup [.str e.1, e.2] := by
    have := pairUp_map D.str (fun x : D => x) ws ps
    rw [List.map_id'] at this; exact this
  have hzl : (ws.zip ps).length ≤ 16000000 := by simp; omega
  have fin : ∃ g2, G.le g2 g ∧ Q (.d (.tup (pairUp (T ws) ps))) g2 := ret_now (hq _ _ ⟨rfl, rfl⟩)
  have hle : (pairUp (T ws) ps).length ≤ 100 := by rw [e]; simp; omega
  simp [b__law_pairs, begin_, h1, h2]
  rw [e]
  refine comp_all (fun e : List Nat × D => D.tup [.str e.1, e.2]) (fun e => D.tup [.str e.1, e.2]) (ws.zip ps) hzl ?_ ?_
  · intro w hw acc K ha hk
    simp [ha, lendAll, wipe, lend, h1, h2]
    exact hk
  · rw [← e]
    generalize pairUp (T ws) ps = L at fin hle
    simp
    exact fin
end Pd
set_option Elab.async false
set_option linter.all false
namespace Pd
end Pd
set_option linter.all false
set_option maxRecDepth 10000
namespace Pd
/-! hidden words -/
instance (ws : List (List Nat)) (d : Dr) : Decidable (d.s[0]? = some wSay ∧ ∃ w ∈ ws, d.s[1]? = some w) := inferInstance
end Pd
set_option linter.all false
set_option maxRecDepth 10000
namespace Pd
end Pd
set_option linter.all false
set_option maxRecDepth 10000
namespace Pd
/-! charges handed on as lists or as tuples -/
end Pd
set_option linter.all false
set_option maxRecDepth 10000
namespace Pd
/-! charges met from the first on; those that are hopeless: the plain law -/
abbrev Ch := List Sgn
def chD (c : Ch) : D := .tup (c.map sg)
noncomputable def firstCh (m : Mch) : Ch := [closed m (m.rooms.take 1)]
/-- the says that are open -/
def sayO (m : Mch) (c : Ch) : List (List Nat) := m.says.filter fun w => c.all fun f => decide ([wSay, w] ∈ mayCome m f)
def hushO (m : Mch) (c : Ch) : Bool := c.all fun f => decide ([wHush] ∈ mayCome m f)
noncomputable def bAsk (m : Mch) (c : Ch) (a : List Nat) : Ch := chargeB m c [wAsk, a]
noncomputable def bSay (m : Mch) (c : Ch) (w : List Nat) : Ch := chargeB m c [wSay, w]
noncomputable def bMute (m : Mch) (c : Ch) (a : List Nat) : Ch := chargeB m (hushC m c) [wAsk, a]
noncomputable def nextC (m : Mch) (c : Ch) : List Ch := m.asks.map (bAsk m c) ++ (sayO m c).map (bSay m c) ++ if hushO m c = true then m.asks.map (bMute m c) else []
inductive Mt (m : Mch) : Ch → Prop
  | first : Mt m (firstCh m)
  | next {c d : Ch} : Mt m c → d ∈ nextC m c → Mt m d
/-- all that are met -/
structure MetOk (m : Mch) (L : List Ch) : Prop where
  nd : L.Nodup
  ff : firstCh m ∈ L
  cl : ∀ c ∈ L, ∀ d ∈ nextC m c, d ∈ L
  mt : ∀ c ∈ L, Mt m c
  few : L.length ≤ 60
  fl : ∀ c ∈ L, c.length ≤ 16
theorem MetOk.all {m : Mch} {L : List Ch} (h : MetOk m L) {c : Ch} (k : Mt m c) : c ∈ L := by
  induction k with
  | first => exact h.ff
  | next _ hd ih => exact h.cl _ ih _ hd
/-! charges of rooms of the machine -/
/-! hopeless ones -/
inductive Rs where
  | ask (a : List Nat) | dumb | mute (a : List Nat)
def Rs.d : Rs → D
  | .ask a => .tup [.str wAsk, .str a]
  | .dumb => .tup [.str [109, 117, 116, 101], .non]
  | .mute a => .tup [.str [109, 117, 116, 101], .str a]
end Pd
set_option Elab.async false
set_option linter.all false
set_option maxRecDepth 100000
set_option maxHeartbeats 1000000
namespace Pd
/-! dicts that are locked for good, among the objects -/
def frzQ (x : D) (ψ : Psi) (g : G) (k : Psi → G → Prop) (_ : Hid k := ()) : Prop := match x with
  | .ref a => match g a with
    | some (.dic t kvs) => k ψ (g.upd a (.fzd t kvs))
    | _ => k ψ g
  | _ => k ψ g
@[simp] theorem frzQ_non {ψ : Psi} {g : G} {k : Psi → G → Prop} : frzQ .non ψ g k = k ψ g := rfl
def frzS (s : Option (Option Sl)) (i : Nat) (ψ : Psi) (g : G) (k : Psi → G → Prop) (_ : Hid k := ()) : Prop := match s with
  | some (some (.d x)) => frzQ x ψ g k
  | some (some (.own (.dic t kvs))) => ∀ a, g a = none → k (ψ.set i (some (.d (.ref a)))) (g.upd a (.fzd t kvs))
  | _ => k ψ g
@[simp] theorem frzS_d {x : D} {i : Nat} {ψ : Psi} {g : G} {k : Psi → G → Prop} : frzS (some (some (.d x))) i ψ g k = frzQ x ψ g k := rfl
@[simp] theorem frzS_own {t : Bool} {kvs : List (D × D)} {i : Nat} {ψ : Psi} {g : G} {k : Psi → G → Prop} : frzS (some (some (.own (.dic t kvs)))) i ψ g k = ∀ a, g a = none → k (ψ.set i (some (.d (.ref a)))) (g.upd a (.fzd t kvs)) := rfl
/-- the dict of a slot is locked before the row (nothing runs) -/
def sFrz (i : Nat) (s : WS) : WS := fun Dn ψ g => frzS ψ[i]? i ψ g (s Dn)
@[simp ↓] theorem s_sFrz (i : Nat) (s : WS) (Dn : Pd.Ends) (ψ : Psi) (g : G) : sFrz i s Dn ψ g = frzS ψ[i]? i ψ g (s Dn) := rfl
def frzF (o : Option O) (c f : String) (ψ : Psi) (g : G) (k : Psi → G → Prop) (_ : Hid k := ()) : Prop := match o with
  | some (.ins c' fs) => match fs.lookup f with
    | some x => frzQ x ψ g k
    | none => k ψ g
  | _ => k ψ g
def frzA (s : Option (Option Sl)) (c f : String) (ψ : Psi) (g : G) (k : Psi → G → Prop) (_ : Hid k := ()) : Prop := match s with
  | some (some (.d (.ref p))) => frzF (g p) c f ψ g k
  | _ => k ψ g
@[simp] theorem frzA_d {p : Nat} {c f : String} {ψ : Psi} {g : G} {k : Psi → G → Prop} : frzA (some (some (.d (.ref p)))) c f ψ g k = frzF (g p) c f ψ g k := rfl
@[simp] theorem frzF_ins {c' c f : String} {fs : List (String × D)} {ψ : Psi} {g : G} {k : Psi → G → Prop} : frzF (some (.ins c' fs)) c f ψ g k = match fs.lookup f with | some x => frzQ x ψ g k | none => k ψ g := rfl
/-- .. of an attribute of a slot's object -/
def sFrzA (i : Nat) (c f : String) (s : WS) : WS := fun Dn ψ g => frzA ψ[i]? c f ψ g (s Dn)
@[simp ↓] theorem s_sFrzA (i : Nat) (c f : String) (s : WS) (Dn : Pd.Ends) (ψ : Psi) (g : G) : sFrzA i c f s Dn ψ g = frzA ψ[i]? c f ψ g (s Dn) := rfl
/-! looked into -/
def oIxZ : G → C → C → Option R
  | _, .o (.fzd t kvs), .d k => if keyOk t k then (lookK kvs k).map R.d else none
  | _, _, _ => none
def oInZ (neg : Bool) : G → C → C → Option R
  | _, .d x, .o (.fzd t kvs) => if keyOk t x then some (.d (.bl (neg ^^ hasK kvs x))) else none
  | _, _, _ => none
def oValsZ : G → C → Option R
  | _, .o (.fzd _ kvs) => some (.own (.lst (kvs.map (·.2))))
  | _, _ => none
def oLenZ : G → C → Option R
  | _, .o (.fzd true kvs) => some (.d (.int kvs.length))
  | _, _ => none
def keysZ (t : Bool) : C → Option (List D)
  | .o (.fzd t' kvs) => if t' = t then some (kvs.map (·.1)) else none
  | _ => none
/-- for k in d -/
def iZ (t : Bool) (te : WE) : WI := fun E ψ g K => te E ψ g fun r ψ g => optQ (look ψ g r) fun c => optQ (keysZ t c) fun xs => K xs (fun _ _ => True) ψ g
@[simp ↓] theorem s_iZ (t : Bool) (te : WE) (E : EX) (ψ : Psi) (g : G) (K : List D → (Psi → G → Prop) → Psi → G → Prop) : iZ t te E ψ g K = te E ψ g fun r ψ g => optQ (look ψ g r) fun c => optQ (keysZ t c) fun xs => K xs (fun _ _ => True) ψ g := rfl
@[simp] theorem ixZ_at (g : G) (t : Bool) (kvs : List (D × D)) (k : D) : oIxZ g (.o (.fzd t kvs)) (.d k) = if keyOk t k then (lookK kvs k).map R.d else none := rfl
@[simp] theorem inZ_at (neg : Bool) (g : G) (t : Bool) (kvs : List (D × D)) (x : D) : oInZ neg g (.d x) (.o (.fzd t kvs)) = if keyOk t x then some (.d (.bl (neg ^^ hasK kvs x))) else none := rfl
@[simp] theorem valsZ_at (g : G) (t : Bool) (kvs : List (D × D)) : oValsZ g (.o (.fzd t kvs)) = some (.own (.lst (kvs.map (·.2)))) := rfl
@[simp] theorem lenZ_at (g : G) (kvs : List (D × D)) : oLenZ g (.o (.fzd true kvs)) = some (.d (.int kvs.length)) := rfl
@[simp] theorem keysZ_t (kvs : List (D × D)) : keysZ true (.o (.fzd true kvs)) = some (kvs.map (·.1)) := rfl
@[simp] theorem keysZ_f (kvs : List (D × D)) : keysZ false (.o (.fzd false kvs)) = some (kvs.map (·.1)) := rfl
/-- any of truths -/
def oAny : G → C → Option R
  | _, .o (.lst xs) => (boolsD xs).map fun bs => .d (.bl (bs.any id))
  | _, _ => none
@[simp] theorem any_at (g : G) (xs : List D) : oAny g (.o (.lst xs)) = (boolsD xs).map fun bs => .d (.bl (bs.any id)) := rfl
@[simp] theorem mExtend_at (xs ys : List D) : mExtend xs (.o (.lst ys)) = if xs.length + ys.length ≤ most then some (xs ++ ys) else none := rfl
/-- d.pop(k) of a dict with tuple keys -/
def eraK : List (D × D) → D → List (D × D)
  | [], _ => []
  | p :: r, k => if p.1 = k then r else p :: eraK r k
def dicC : C → Option (List (D × D))
  | .o (.dic true kvs) => some kvs
  | _ => none
@[simp] theorem dicC_t (kvs : List (D × D)) : dicC (.o (.dic true kvs)) = some kvs := rfl
def popK (kvs : List (D × D)) : C → Option (D × D)
  | .d k => if keyOk true k then (lookK kvs k).map fun y => (k, y) else none
  | _ => none
@[simp] theorem popK_d (kvs : List (D × D)) (k : D) : popK kvs (.d k) = if keyOk true k then (lookK kvs k).map fun y => (k, y) else none := rfl
def eDPop (te tk : WE) : WE := fun E ψ g Q => te E ψ g fun r ψ g => optQ (look ψ g r) fun c0 => optQ (dicC c0) fun _ => tk E ψ g fun r' ψ g =>
  optQ (look ψ g r) fun c => optQ (dicC c) fun kvs => optQ (look ψ g r') fun c' => optQ (popK kvs c') fun p => wr r (.dic true (eraK kvs p.1)) ψ g fun ψ g => Q (.d p.2) ψ g
@[simp ↓] theorem s_eDPop (te tk : WE) (E : EX) (ψ : Psi) (g : G) (Q : R → Psi → G → Prop) : eDPop te tk E ψ g Q = te E ψ g fun r ψ g => optQ (look ψ g r) fun c0 => optQ (dicC c0) fun _ => tk E ψ g fun r' ψ g =>
  optQ (look ψ g r) fun c => optQ (dicC c) fun kvs => optQ (look ψ g r') fun c' => optQ (popK kvs c') fun p => wr r (.dic true (eraK kvs p.1)) ψ g fun ψ g => Q (.d p.2) ψ g := rfl
end Pd
set_option Elab.async false
set_option linter.all false
namespace Pd
end Pd
set_option linter.all false
set_option maxRecDepth 10000
namespace Pd
/-! the steps of a charge, as they are held -/
@[simp] theorem lookD_chD (g : G) (c : Ch) : lookD g (chD c) = some (.d (chD c)) := rfl
end Pd
set_option linter.all false
set_option maxRecDepth 10000
namespace Pd
/-- a row, as it is held -/
structure RE where
  c : Ch
  r : Rs
  a : Nat
def RE.d (e : RE) : D := .tup [.ref e.a, e.r.d]
end Pd
set_option linter.all false
set_option maxRecDepth 10000
namespace Pd
/-! the charges of a model, as they are held -/
end Pd
set_option linter.all false
set_option maxRecDepth 10000
namespace Pd
/-! rights: where a right machine may be -/
def wOpen : List Nat := [111, 112, 101, 110]
def wMute : List Nat := [109, 117, 116, 101]
abbrev Rp := Bool × Ch
def rpD (x : Rp) : D := .tup [.str (if x.1 = true then wMute else wOpen), chD x.2]
def rpO : Option Rp → D
  | none => .non
  | some x => rpD x
@[simp] theorem lookD_rpD (g : G) (x : Rp) : lookD g (rpD x) = some (.d (rpD x)) := rfl
@[simp] theorem rpO_some (x : Rp) : rpO (some x) = rpD x := rfl
@[simp] theorem rpO_none : rpO none = .non := rfl
end Pd
set_option Elab.async false
set_option linter.all false
namespace Pd
end Pd
set_option Elab.async false
set_option linter.all false
namespace Pd
end Pd
set_option linter.all false
set_option maxRecDepth 10000
namespace Pd
/-! the law's own charges -/
end Pd
set_option linter.all false
set_option maxRecDepth 10000
namespace Pd
end Pd
set_option linter.all false
set_option maxRecDepth 10000
namespace Pd
end Pd
set_option linter.all false
set_option maxRecDepth 10000
namespace Pd
/-! spots, as the law goes through them -/
end Pd
set_option linter.all false
set_option maxRecDepth 10000
namespace Pd
/-! snares; models of any kind -/
end Pd
set_option linter.all false
set_option maxRecDepth 10000
namespace Pd
/-! what the pen leaves alone -/
end Pd
set_option linter.all false
set_option maxRecDepth 10000
namespace Pd
/-! the pen's frame, with the list of its cells the same -/
structure Fp (g0 g : G) (a : Nat) : Prop where
  fr : Fr g0 g a
  pc : ∀ c, PenC g0 a c → PenC g a c
theorem PenC.toPen {g : G} {a c : Nat} (h : PenC g a c) : Pen g a := let ⟨at_, v, cs, n, e, h0, e2⟩ := h; ⟨c, at_, v, cs, n, e, h0, e2⟩
theorem Pen.cell {g : G} {a : Nat} (h : Pen g a) : ∃ c, PenC g a c := let ⟨c, at_, v, cs, n, e, h0, e2⟩ := h; ⟨c, at_, v, cs, n, e, h0, e2⟩
theorem PenC.keepC {g g' : G} {a c : Nat} (h : PenC g a c) (k : ∀ b u, g b = some u → g' b = some u) : PenC g' a c := let ⟨at_, v, cs, n, e, h0, e2⟩ := h; ⟨at_, v, cs, n, k _ _ e, h0, k _ _ e2⟩
theorem PenC.sameC {g g' : G} {a c : Nat} (h : PenC g a c) (k1 : g' a = g a) (k2 : g' c = g c) : PenC g' a c := let ⟨at_, v, cs, n, e, h0, e2⟩ := h; ⟨at_, v, cs, n, k1 ▸ e, h0, k2 ▸ e2⟩
theorem Fp.refl {g : G} {a : Nat} (h : Pen g a) : Fp g g a := ⟨Fr.refl h, fun _ h => h⟩
theorem Fp.pen {g0 g : G} {a : Nat} (h : Fp g0 g a) : Pen g a := h.fr.pen
theorem Fp.grow {g0 g g' : G} {a : Nat} (h : Fp g0 g a) (k : ∀ b u, g b = some u → g' b = some u) : Fp g0 g' a := ⟨h.fr.grow k, fun c p => (h.pc c p).keepC k⟩
theorem takeP {g0 g : G} {a : Nat} {n : Int} {E : X → G → Prop} {Q : R → G → Prop} (hf : Fp g0 g a) (h0 : 0 < n) (h1 : n < 1073741824) (k : ∀ (x : Int) (g' : G), 0 ≤ x → x < n → Fp g0 g' a → (∀ b, b ≠ a → g' b = g b) → Q (.d (.int x)) g') : d_take.wp [.d (.ref a), .d (.int n)] g E Q :=
  call_of (a, n) ⟨rfl, h0, h1, hf.pen⟩ fun r g' ⟨x, e, a1, a2, a3, a4, a5⟩ => e ▸ k x g' a1 a2 ⟨hf.fr.take a3 a4, fun c p => a5 c (hf.pc c p)⟩ a4
end Pd
set_option linter.all false
set_option maxRecDepth 10000
namespace Pd
/-! the law's trials -/
theorem pairUp_cut : ∀ (ws : List (List Nat)) (li : List D) (z : D), ws.length = li.length → pairUp (T ws) (li ++ [z]) = pairUp (T ws) li
  | [], [], _, _ => rfl
  | [], _ :: _, _, h => by cases h
  | _ :: _, [], _, h => by cases h
  | w :: ws, l :: li, z, h => by
    show D.tup [.str w, l] :: pairUp (T ws) (li ++ [z]) = _
    rw [pairUp_cut ws li z (by simpa using h)]; rfl
theorem asm_wait {m : Mch} {li : List D} {z : D} (h : li.length = m.says.length) : asm m none (li ++ [z]) = .tup [.str wWait, .tup (pairUp (T m.says) (li ++ [z])), z] := by
  rw [pairUp_cut _ _ _ h.symm]; simp [asm]
theorem Fp.atQ {g0 g : G} {a q : Nat} {o : O} (p0 : Pen g0 a) (h : Fp g0 g a) (hq : g0 q = none) : Fp g0 (g.upd q o) a := by
  have ne : ∀ b u, g0 b = some u → b ≠ q := fun b u e z => by rw [z, hq] at e; cases e
  have pc : ∀ c, PenC g0 a c → PenC (g.upd q o) a c := fun c pc => by
    have q1 := h.pc c pc
    obtain ⟨at_, v, cs, n, e, h0, e2⟩ := pc
    exact q1.sameC (G.upd_ne (ne _ _ e)) (G.upd_ne (ne _ _ e2))
  obtain ⟨c, hc⟩ := p0.cell
  exact ⟨⟨(pc c hc).toPen, fun b u e n => by rw [G.upd_ne (ne b u e)]; exact h.fr.fr b u e n⟩, pc⟩
structure Ltq where
  x : Tm
  a : Nat
  q : Nat
  z : Int
  g0 : G
def d_ltrial (n : Nat) : Sg Ltq := ⟨fun x ss g => ss = [.d (.ref x.a), .d x.x.d, .d (.int (n : Int)), .d (.ref x.q)] ∧ Pen x.g0 x.a ∧ Told x.g0 x.x ∧ (1 ≤ x.x.m.asks.length ∧ x.x.m.asks.length ≤ 4 ∧ x.x.m.says.length ≤ 4) ∧ x.g0 x.q = none ∧ Fp x.g0 g x.a ∧ g x.q = some (.lst [.int x.z]),
  fun x g r g' => Fp x.g0 g' x.a ∧ (∃ z, g' x.q = some (.lst [.int z])) ∧ ∃ v, r = .d (.tup v) ∧ TrOk x.x.m n (.tup v), fun _ _ _ _ => False⟩
theorem k_ltrial {φ : SpD} (n : Nat) (hn : n ≤ 8) (hφ : ∀ n', n' + 1 = n → ∀ ss g E Q, (d_ltrial n').wp ss g E Q → φ ss g E Q) : Keeps (d_ltrial n).wp (b__law_trial d_take.wp φ d_lpairs.wp) 8 := by
  rintro ss g E Q ⟨⟨⟨m, a1, a2, a3, a4⟩, a, q, z, g0⟩, ⟨rfl, p0, tl, ⟨ha1, ha4, hs4⟩, hq0, F, hz⟩, hq, _⟩
  have h8 := most_is
  simp only at p0 tl hq0 F hz hq ha1 ha4 hs4
  have hqa : q ≠ a := fun e => by
    obtain ⟨c, at_, v, cs, _, e1, _⟩ := p0
    rw [e, e1] at hq0; cases hq0
  have F1 : Fp g0 (g.upd q (.lst [.int (z - 1)])) a := F.atQ p0 hq0
  have hz1 : (g.upd q (.lst [.int (z - 1)])) q = some (.lst [.int (z - 1)]) := G.upd_same
  simp [b__law_trial, begin_]
  rw [s_sSeq]; simp [hz]
  generalize g.upd q (.lst [.int (z - 1)]) = g1 at F1 hz1 ⊢
  rw [s_sSeq]; simp
  refine takeP F1 (by omega) (by omega) fun w g2 w0 w1 F2 b2 => ?_
  have hz2 : g2 q = some (.lst [.int (z - 1)]) := by rw [b2 q hqa]; exact hz1
  simp
  refine seq_of (fun ψ g3 => g3 = g2 ∧ 1 ≤ n ∧ ψ = [some (.d (.ref a)), some (.d (.tup [.ref a1, .ref a2, .ref a3, .ref a4])), some (.d (.int (n : Int))), some (.d (.ref q)), some (.d (.int w)), none, none, none]) (fun nx hx => ?_) ?_
  · have fin : ∀ (g3 : G) (x : Int), 0 ≤ x → x < 2 → Fp g0 g3 a → g3 q = some (.lst [.int (z - 1)]) → ∃ y, atI [D.tup [.str [101, 110, 100]], D.tup [.str [98, 108, 97, 109, 101]]] x = some y ∧ ∃ g4, G.le g4 g3 ∧ Q (.d y) g4 := fun g3 x x0 x1 F3 hz3 => by
      have : x = 0 ∨ x = 1 := by omega
      rcases this with rfl | rfl
      · exact ⟨endD, rfl, ret_now (hq _ _ ⟨F3, ⟨_, hz3⟩, _, rfl, (show TrOk m 0 endD from .inl rfl).up (Nat.zero_le _)⟩)⟩
      · exact ⟨blameD, rfl, ret_now (hq _ _ ⟨F3, ⟨_, hz3⟩, _, rfl, (show TrOk m 0 blameD from .inr rfl).up (Nat.zero_le _)⟩)⟩
    by_cases c : n = 0
    · simp [c, hz2]
      refine takeP F2 (by omega) (by omega) fun x g4 x0 x1 F4 b4 => ?_
      obtain ⟨y, ey, fy⟩ := fin g4 x x0 x1 F4 (by rw [b4 q hqa]; exact hz2)
      simp [ey]
      exact fy
    · by_cases c2 : z - 1 < 0
      · simp [c, hz2, c2]
        refine takeP F2 (by omega) (by omega) fun x g4 x0 x1 F4 b4 => ?_
        obtain ⟨y, ey, fy⟩ := fin g4 x x0 x1 F4 (by rw [b4 q hqa]; exact hz2)
        simp [ey]
        exact fy
      · by_cases c3 : w = 0
        · simp [c, hz2, c2, c3]
          refine takeP F2 (by omega) (by omega) fun x g4 x0 x1 F4 b4 => ?_
          obtain ⟨y, ey, fy⟩ := fin g4 x x0 x1 F4 (by rw [b4 q hqa]; exact hz2)
          simp [ey]
          exact fy
        · simp [c, hz2, c2, c3]
          exact hx _ _ ⟨rfl, by omega, by simp⟩
  · rintro ψ g3 ⟨rfl, h1, rfl⟩
    obtain ⟨n, rfl⟩ : ∃ n', n = n' + 1 := ⟨n - 1, by omega⟩
    have tl2 := tl.fr F2.fr p0
    simp [tl2.e2]
    rw [s_sSeq]; simp [tl2.e2]
    refine ⟨by omega, by omega, ?_⟩
    refine comp_mapI (fun i : Nat => D.int (i : Int)) (List.range (m.says.length + 1)) (fun done acc g4 => Fp g0 g4 a ∧ (∃ z, g4 q = some (.lst [.int z])) ∧ ∃ ls : List (List D), acc = ls.map D.tup ∧ ls.length = done.length ∧ ∀ l ∈ ls, TrOk m n (.tup l)) ?_ ?_ _ ⟨F2, ⟨_, hz2⟩, [], rfl, rfl, by simp⟩
    · rintro done i rest ed acc g4 K ⟨F4, ⟨z4, hz4⟩, ls, rfl, hll, hls⟩ hK
      have hdl : done.length ≤ 5 := by
        have := congrArg List.length ed
        simp at this; omega
      simp [lendAll, lend, wipe]
      refine hφ n rfl _ _ _ _ ⟨⟨⟨m, a1, a2, a3, a4⟩, a, q, z4, g0⟩, ⟨by simp, p0, tl, ⟨ha1, ha4, hs4⟩, hq0, F4, hz4⟩, ?_, fun _ _ h => h.elim⟩
      rintro r g5 ⟨F5, hz5, v5, rfl, ht5⟩
      simp
      refine ⟨by omega, ?_⟩
      refine hK _ _ ⟨F5, hz5, ls ++ [v5], by simp, by simp [hll], fun l hl => ?_⟩
      rcases List.mem_append.mp hl with h | h
      · exact hls l h
      · rw [List.mem_singleton.mp h]; exact ht5
    · rintro acc g4 ⟨F4, hz4, ls, rfl, hll, hls⟩
      have hll : ls.length = m.says.length + 1 := by rw [hll]; simp
      have tl4 := tl.fr F4.fr p0
      simp
      rw [s_sSeq]
      by_cases c : w < 4
      · simp [c]
        rw [s_sSeq]; simp [tl4.e1]
        refine takeP F4 (by omega) (by omega) fun i g5 i0 i1 F5 b5 => ?_
        have tl5 := tl.fr F5.fr p0
        obtain ⟨wd, e1, hwd⟩ : ∃ wd, atI m.asks i = some wd ∧ wd ∈ m.asks := by
          rw [atI_lt (by omega) (by omega)]
          exact ⟨m.asks[i.toNat]'(by omega), List.getElem?_eq_getElem (by omega), List.getElem_mem _⟩
        obtain ⟨z0, li, rfl⟩ : ∃ z0 li, ls = z0 :: li := by
          cases ls with
          | nil => simp at hll
          | cons z0 li => exact ⟨z0, li, rfl⟩
        have hli : li.length = m.says.length := by simpa using hll
        have hcut : cut (D.tup z0 :: li.map D.tup) (some 1) none = li.map D.tup := by
          rw [cut_drop _ (by omega)]; rfl
        simp [e1, tl5.e1, tl5.e2, hcut]
        refine call_of ⟨m.says, li.map D.tup⟩ ⟨⟨_, _, rfl, by simp [tl5.e2], by simp⟩, by simp only; omega⟩ ?_
        rintro r g6 ⟨rfl, rfl⟩
        simp
        obtain ⟨z5, hz5⟩ := hz4
        refine ret_now (hq _ _ ⟨F5, ⟨z5, by rw [b5 q hqa]; exact hz5⟩, _, rfl, ?_⟩)
        exact .inr (.inr ⟨some wd, (z0 :: li).map D.tup, List.mem_append_left _ (List.mem_map_of_mem hwd), by simp [partS, hli], fun p hp => (by
          obtain ⟨l, hl, rfl⟩ := List.mem_map.mp hp
          exact hls l hl), rfl⟩)
      · obtain ⟨li, z0, rfl⟩ : ∃ li z0, ls = li ++ [z0] := by
          rcases List.eq_nil_or_concat ls with e | ⟨li, z0, e⟩
          · rw [e] at hll; simp at hll
          · exact ⟨li, z0, by simpa using e⟩
        have hli : li.length = m.says.length := by simpa using hll
        simp [c, tl4.e2]
        refine call_of ⟨m.says, (li ++ [z0]).map D.tup⟩ ⟨⟨_, _, rfl, by simp [tl4.e2], by simp⟩, by simp only; omega⟩ ?_
        rintro r g6 ⟨rfl, rfl⟩
        simp
        refine ret_now (hq _ _ ⟨F4, hz4, _, rfl, ?_⟩)
        refine .inr (.inr ⟨none, (li ++ [z0]).map D.tup, List.mem_append_right _ (List.mem_singleton.mpr rfl), by simp [partS, hli], fun p hp => (by
          obtain ⟨l, hl, rfl⟩ := List.mem_map.mp hp
          exact hls l hl), ?_⟩)
        rw [List.map_append, List.map_cons, List.map_nil, asm_wait (by simpa using hli)]
        simp [wWait]
/-! trials made along a model's faces -/
structure Lmd where
  x : Tm
  a : Nat
  f : List (List Nat)
def d_lmade (n : Nat) : Sg Lmd := ⟨fun x ss g => ss = [.d (.ref x.a), .d x.x.d, .d (.tup (T x.f)), .d (.int (n : Int))] ∧ Pen g x.a ∧ Told g x.x ∧ MOk x.x.m ∧ (x.x.m.asks.length ≤ 4 ∧ x.x.m.says.length ≤ 4) ∧ x.f.Sublist x.x.m.rooms ∧ x.x.m.rooms.length ≤ 100,
  fun x g r g' => Fr g g' x.a ∧ ∃ v, r = .d (.tup v) ∧ TrOk x.x.m n (.tup v), fun _ _ _ _ => False⟩
theorem k_lmade {φ : SpD} (n : Nat) (hn : n ≤ 8) (hφ : ∀ n', n' + 1 = n → ∀ ss g E Q, (d_lmade n').wp ss g E Q → φ ss g E Q) : Keeps (d_lmade n).wp (b__law_made d_lbehind.wp d_take.wp φ d_lpairs.wp) 11 := by
  rintro ss g E Q ⟨⟨⟨m, a1, a2, a3, a4⟩, a, f⟩, ⟨rfl, p0, tl, ok, ⟨ha4, hs4⟩, hfs, hr⟩, hq, _⟩
  have h8 := most_is
  simp only at p0 tl ok hfs hq ha4 hs4 hr
  have hf : f.length ≤ 4000 := by have := hfs.length_le; omega
  simp [b__law_made, begin_]
  by_cases c : f = []
  · rw [s_sSeq]; simp [c]
    exact ret_now (hq _ _ ⟨Fr.refl p0, _, rfl, (show TrOk m 0 blameD from .inr rfl).up (Nat.zero_le _)⟩)
  rw [s_sSeq]; simp [c]
  rw [s_sSeq]; simp
  refine seq_of (fun ψ g2 => g2 = g ∧ ∃ (as : List (List Nat)) (t5 : Option Sl), (∀ w ∈ as, w ∈ m.asks) ∧ as.length ≤ 4 ∧ ψ = [some (.d (.ref a)), some (.d (.tup [.ref a1, .ref a2, .ref a3, .ref a4])), some (.d (.tup (T f))), some (.d (.int (n : Int))), some (.own (.lst (D.tup [.str wHush] :: as.map fun w => D.tup [.str wAsk, .str w]))), t5, none, none, none, none, none]) (fun nx hx => ?_) ?_
  · simp [tl.e1]
    refine for_map D.str m.asks (fun done ψ g2 => g2 = g ∧ ∃ (as : List (List Nat)) (t5 : Option Sl), (∀ w ∈ as, w ∈ m.asks) ∧ as.length ≤ done.length ∧ ψ = [some (.d (.ref a)), some (.d (.tup [.ref a1, .ref a2, .ref a3, .ref a4])), some (.d (.tup (T f))), some (.d (.int (n : Int))), some (.own (.lst (D.tup [.str wHush] :: as.map fun w => D.tup [.str wAsk, .str w]))), t5, none, none, none, none, none]) ?_ ?_ _ _ ⟨rfl, [], none, by simp, by simp, by simp [wHush]⟩
    · rintro done w rest ed ψ g3 K ⟨rfl, as, t5, has, hal, rfl⟩ hK
      have hdl : done.length ≤ 4 := by
        have := congrArg List.length ed
        simp at this; omega
      simp
      refine call_of ⟨⟨m, a1, a2, a3, a4⟩, f, [wAsk, w]⟩ ⟨by simp, tl, ok, hf⟩ ?_
      rintro r g4 ⟨rfl, rfl⟩
      simp
      have hwm : w ∈ m.asks := by rw [ed]; simp
      split
      · exact ⟨_, G.le_refl _, tl.e1, hK _ _ ⟨rfl, as, _, has, by simp; omega, rfl⟩⟩
      · refine ⟨by omega, _, G.le_refl _, tl.e1, hK _ _ ⟨rfl, as ++ [w], some (.d (.str w)), fun y hy => ?_, by simp; omega, by simp⟩⟩
        rcases List.mem_append.mp hy with h | h
        · exact has y h
        · rw [List.mem_singleton.mp h]; exact hwm
    · rintro ψ g3 ⟨rfl, as, t5, has, hal, rfl⟩
      exact hx _ _ ⟨rfl, as, t5, has, by omega, rfl⟩
  · rintro ψ g2 ⟨rfl, as, t5, has, hal, rfl⟩
    refine seq_of (fun ψ g3 => Fr g2 g3 a ∧ 1 ≤ n ∧ ψ = [some (.d (.ref a)), some (.d (.tup [.ref a1, .ref a2, .ref a3, .ref a4])), some (.d (.tup (T f))), some (.d (.int (n : Int))), some (.own (.lst (D.tup [.str wHush] :: as.map fun w => D.tup [.str wAsk, .str w]))), t5, none, none, none, none, none]) (fun nx hx => ?_) ?_
    · have fin : ∀ g3, Fr g2 g3 a → ∃ g4, G.le g4 g3 ∧ Q (.d endD) g4 := fun g3 F3 => ret_now (hq _ _ ⟨F3, _, rfl, (show TrOk m 0 endD from .inl rfl).up (Nat.zero_le _)⟩)
      by_cases c0 : n = 0
      · simp [c0]
        exact fin _ (Fr.refl p0)
      · simp [c0]
        refine takeF (Fr.refl p0) (by omega) (by omega) fun x g3 x0 x1 F3 b3 => ?_
        by_cases c1 : x = 0
        · simp [c1]
          exact fin _ F3
        · simp [c1]
          exact hx _ _ ⟨F3, by omega, rfl⟩
    · rintro ψ g3 ⟨F3, h1, rfl⟩
      obtain ⟨n, rfl⟩ : ∃ n', n = n' + 1 := ⟨n - 1, by omega⟩
      have hWl : (D.tup [D.str wHush] :: as.map fun w => D.tup [.str wAsk, .str w]).length ≤ 5 := by simp; omega
      rw [s_sSeq]; simp
      refine takeF F3 (by omega) (by omega) fun i g4 i0 i1 F4 b4 => ?_
      have tl4 := tl.fr F4 p0
      obtain ⟨k, e1, hk⟩ : ∃ k : Option (List Nat), atI (D.tup [D.str wHush] :: as.map fun w => D.tup [.str wAsk, .str w]) i = some (match k with | none => D.tup [.str wHush] | some w => .tup [.str wAsk, .str w]) ∧ k ∈ kindsAll m := by
        rw [atI_lt (by omega) (by simp; omega)]
        rcases Nat.eq_zero_or_pos i.toNat with z | z
        · rw [z]; exact ⟨none, rfl, List.mem_append_right _ (List.mem_singleton.mpr rfl)⟩
        · obtain ⟨j, hj⟩ : ∃ j, i.toNat = j + 1 := ⟨i.toNat - 1, by omega⟩
          rw [hj]
          have hjl : j < as.length := by omega
          exact ⟨some as[j], by simp [hjl], List.mem_append_left _ (List.mem_map_of_mem (has _ (List.getElem_mem _)))⟩
      simp [e1]
      generalize (D.tup [D.str wHush] :: as.map fun w => D.tup [.str wAsk, .str w]) = W
      clear e1 hWl
      rw [s_sSeq]; simp [tl4.e2, lendAll, lend, wipe]
      refine comp_all D.str (fun w => sg [wSay, w]) m.says (by omega) ?_ ?_
      · intro w hw acc K ha hk2
        simp [ha, tl4.e2]
        simpa [sg] using hk2
      have hs5 : m.says.map (fun w => sg [wSay, w]) = (m.says.map fun w => [wSay, w]).map sg := by rw [List.map_map]; rfl
      rw [hs5]
      have hS4 : ((m.says.map fun w => [wSay, w]).map sg).length ≤ 4 := by simpa using hs4
      have hP : (partS m k).map sg = match k with | none => (m.says.map fun w => [wSay, w]).map sg ++ [D.tup [.str wHush]] | some w => D.tup [.str wAsk, .str w] :: (m.says.map fun w => [wSay, w]).map sg := by
        cases k with
        | none => show (m.says.map (fun w => [wSay, w]) ++ [[wHush]]).map sg = _; rw [List.map_append]; rfl
        | some w => rfl
      simp only [bind]
      refine seq_of (fun ψ g5 => ∃ b t7, g4 b = none ∧ G.le g4 g5 ∧ g5 b = some (.lst ((partS m k).map sg)) ∧ ψ = [some (.d (.ref a)), some (.d (.tup [.ref a1, .ref a2, .ref a3, .ref a4])), some (.d (.tup (T f))), some (.d (.int ((n : Int) + 1))), some (.own (.lst W)), t5, some (.d (match k with | none => D.tup [.str wHush] | some w => .tup [.str wAsk, .str w])), some (.d (.ref b)), none, none, none] ∧ t7 = (none : Option Sl)) (fun nx hx => ?_) ?_
      · rw [hP] at hx
        generalize (m.says.map fun w => [wSay, w]).map sg = S at hS4 hx ⊢
        cases k with
        | none =>
          simp
          exact ⟨by omega, fun p hp => ⟨by omega, fun p2 hp2 => hx _ _ ⟨p, none, hp, G.le_trans (G.le_upd hp) (G.le_upd hp2), G.le_upd hp2 _ _ G.upd_same, rfl, rfl⟩⟩⟩
        | some w =>
          simp
          refine ⟨by omega, fun p hp => ⟨by omega, fun p2 hp2 => hx _ _ ⟨p2, none, ?_, G.le_trans (G.le_upd hp) (G.le_upd hp2), G.upd_same, rfl, rfl⟩⟩⟩
          cases e : g4 p2 with
          | none => rfl
          | some o => rw [G.le_upd hp _ _ e] at hp2; cases hp2
      · rintro ψ g5 ⟨b, t7, hb4, k5, hb5, rfl, _⟩
        have F5 := F4.grow k5
        have hba : b ≠ a := fun z => by
          obtain ⟨c, at_, v, cs, _, e1, _⟩ := F4.pen
          rw [z, e1] at hb4; cases hb4
        have hpl := partS_len k hs4
        rw [s_sSeq]; simp [hb5, lendAll, lend, wipe]
        refine comp_mapI sg (partS m k) (fun done acc g6 => Fr g5 g6 a ∧ ∃ ls : List (List D), acc = ls.map D.tup ∧ ls.length = done.length ∧ ∀ l ∈ ls, TrOk m n (.tup l)) ?_ ?_ _ ⟨Fr.refl F5.pen, [], rfl, rfl, by simp⟩
        · rintro done t rest ed acc g6 K ⟨F6, ls, rfl, hll, hls⟩ hK
          have hdl : done.length ≤ 5 := by
            have := congrArg List.length ed
            simp at this; omega
          have tl6 := tl.fr (F5.trans F6) p0
          simp
          refine call_of ⟨⟨m, a1, a2, a3, a4⟩, f, t⟩ ⟨by simp, tl6, ok, hf⟩ ?_
          rintro r g7 ⟨rfl, rfl⟩
          simp
          refine hφ n rfl _ _ _ _ ⟨⟨⟨m, a1, a2, a3, a4⟩, a, behind m f t⟩, ⟨by simp, F6.pen, tl6, ok, ⟨ha4, hs4⟩, behind_subl hfs, hr⟩, ?_, fun _ _ h => h.elim⟩
          rintro r g8 ⟨F8, v8, rfl, ht8⟩
          have F68 := F6.trans F8
          have hb8 := F68.fr b _ hb5 hba
          simp [hb8]
          refine ⟨by omega, ?_⟩
          refine hK _ _ ⟨F68, ls ++ [v8], by simp, by simp [hll], fun l hl => ?_⟩
          rcases List.mem_append.mp hl with h | h
          · exact hls l h
          · rw [List.mem_singleton.mp h]; exact ht8
        · rintro acc g6 ⟨F6, ls, rfl, hll, hls⟩
          have F56 := F5.trans F6
          have tl6 := tl.fr F56 p0
          have hlq : ls.length = m.says.length + 1 := by rw [hll]; cases k <;> simp [partS]
          simp
          cases k with
          | none =>
            obtain ⟨li, z0, rfl⟩ : ∃ li z0, ls = li ++ [z0] := by
              rcases List.eq_nil_or_concat ls with e | ⟨li, z0, e⟩
              · rw [e] at hlq; simp at hlq
              · exact ⟨li, z0, by simpa using e⟩
            have hli : li.length = m.says.length := by simpa using hlq
            rw [s_sSeq]; simp [wHush, tl6.e2]
            refine call_of ⟨m.says, (li ++ [z0]).map D.tup⟩ ⟨⟨_, _, rfl, by simp [tl6.e2], by simp⟩, by simp only; omega⟩ ?_
            rintro r g7 ⟨rfl, rfl⟩
            simp
            refine ret_now (hq _ _ ⟨F56, _, rfl, ?_⟩)
            refine .inr (.inr ⟨none, (li ++ [z0]).map D.tup, List.mem_append_right _ (List.mem_singleton.mpr rfl), by simp [partS, hli], fun p hp => (by
              obtain ⟨l, hl, rfl⟩ := List.mem_map.mp hp
              exact hls l hl), ?_⟩)
            rw [List.map_append, List.map_cons, List.map_nil, asm_wait (by simpa using hli)]
            simp [wWait]
          | some wd =>
            obtain ⟨z0, li, rfl⟩ : ∃ z0 li, ls = z0 :: li := by
              cases ls with
              | nil => simp at hlq
              | cons z0 li => exact ⟨z0, li, rfl⟩
            have hli : li.length = m.says.length := by simpa using hlq
            have hwd : wd ∈ m.asks := by
              rcases List.mem_append.mp hk with h | h
              · obtain ⟨w, hw, e⟩ := List.mem_map.mp h; cases e; exact hw
              · cases List.mem_singleton.mp h
            have hcut : cut (D.tup z0 :: li.map D.tup) (some 1) none = li.map D.tup := by
              rw [cut_drop _ (by omega)]; rfl
            rw [s_sSeq]; simp [tl6.e2, hcut]
            refine call_of ⟨m.says, li.map D.tup⟩ ⟨⟨_, _, rfl, by simp [tl6.e2], by simp⟩, by simp only; omega⟩ ?_
            rintro r g7 ⟨rfl, rfl⟩
            simp
            refine ret_now (hq _ _ ⟨F56, _, rfl, ?_⟩)
            exact .inr (.inr ⟨some wd, (z0 :: li).map D.tup, List.mem_append_left _ (List.mem_map_of_mem hwd), by simp [partS, hli], fun p hp => (by
              obtain ⟨l, hl, rfl⟩ := List.mem_map.mp hp
              exact hls l hl), rfl⟩)
theorem k_ltrial0 {φ : SpD} : Keeps (d_ltrial 0).wp (b__law_trial d_take.wp φ d_lpairs.wp) 8 := k_ltrial 0 (by omega) fun _ e => (nomatch e)
theorem k_ltrialS (n : Nat) (hn : n + 1 ≤ 8 := by omega) : Keeps (d_ltrial (n + 1)).wp (b__law_trial d_take.wp (d_ltrial n).wp d_lpairs.wp) 8 := k_ltrial (n + 1) hn fun _ e => by cases e; exact fun _ _ _ _ h => h
theorem k_lmade0 {φ : SpD} : Keeps (d_lmade 0).wp (b__law_made d_lbehind.wp d_take.wp φ d_lpairs.wp) 11 := k_lmade 0 (by omega) fun _ e => (nomatch e)
theorem k_lmadeS (n : Nat) (hn : n + 1 ≤ 8 := by omega) : Keeps (d_lmade (n + 1)).wp (b__law_made d_lbehind.wp d_take.wp (d_lmade n).wp d_lpairs.wp) 11 := k_lmade (n + 1) hn fun _ e => by cases e; exact fun _ _ _ _ h => h
end Pd
set_option Elab.async false
set_option linter.all false
namespace Pd
/-- _law_right(model, trial) -/
def b__law_right (φ__law_leaves φ_leaves φ__law_same : SpD) : WS :=
  (sSeq (sSet 2 (eCall φ__law_leaves [false, true, true] (aCons (eVar 1) (aCons (eTup dNil) (aCons (eLst dNil) aNil))))) (sSeq (sSet 3 (eCall φ_leaves [false, true] (aCons (eVar 0) (aCons (eVar 1) aNil)))) (sSeq (sIf (tOr (tNot (tV (eCall φ__law_same [false, false] (aCons (eVar 3) (aCons (eVar 2) aNil))))) (tV (eBin oNe (eVar 2) (eUn oSortD (eVar 2))))) (sRet (eC (.bl false))) sNx) (sSeq (sE (eMut mAppend (eBin oIx (eBin oIx (eVar 3) (eC (.int 0))) (eC (.int 1))) (dCons (eTup (dCons (eC (.str [104, 117, 115, 104])) dNil)) dNil))) (sSeq (sSetIx putIx (eVar 3) (eUn oNeg (eC (.int 1))) (eTup (dCons (eTup dNil) (dCons (eLst dNil) (dCons (eC (.str [101, 110, 100])) dNil))))) (sRet (eCall φ__law_same [false, false] (aCons (eCall φ_leaves [false, true] (aCons (eVar 0) (aCons (eVar 1) aNil))) (aCons (eVar 2) aNil)))))))))
/-- law(script) -/
def b_law (φ__law_open φ__law_model φ__law_machine φ__law_trial φ__law_take φ__law_made φ__law_face_at φ__law_right : SpD) : WS :=
  (sSeq (sSet 1 (eCall φ__law_open [false] (aCons (eVar 0) aNil))) (sSeq (sSet 2 (eC .non)) (sSeq (sSh 1 (sFor (iRange (eC (.int 4))) (gName 3) (sSeq (sSet 4 (eCall φ__law_model [true, false, true] (aCons (eVar 1) (aCons (eC (.int 6)) (aCons (eC (.int 1)) aNil))))) (sSeq (sSet 5 (eCall φ__law_machine [false] (aCons (eVar 4) aNil))) (sSeq (sSet 6 (eCall φ__law_trial [true, false, false, true] (aCons (eVar 1) (aCons (eVar 4) (aCons (eC (.int 4)) (aCons (eLst (dCons (eC (.int 15)) dNil)) aNil)))))) (sSeq (sIf (tV (eBin oEq (eCall φ__law_take [true, false] (aCons (eVar 1) (aCons (eC (.int 3)) aNil))) (eC (.int 0)))) (sSet 6 (eCall φ__law_made [true, false, false, false] (aCons (eVar 1) (aCons (eVar 4) (aCons (eCall φ__law_face_at [false, false] (aCons (eVar 4) (aCons (eLst dNil) aNil))) (aCons (eC (.int 3)) aNil)))))) sNx) (sSeq (sIf (tV (eIsN false (eVar 2))) (sSet 2 (eTup (dCons (eVar 5) (dCons (eVar 6) dNil)))) sNx) (sIf (tNot (tV (eCall φ__law_right [false, true] (aCons (eVar 5) (aCons (eVar 6) aNil))))) (sRet (eC (.bl false))) sNx)))))))) (sRet (eCall φ__law_right [false, true] (aCons (eBin oIx (eVar 2) (eC (.int 0))) (aCons (eBin oIx (eVar 2) (eC (.int 1))) aNil)))))))
end Pd
set_option Elab.async false
set_option linter.all false
namespace Pd
/-- _law_same(found, due) -/
def b_same3 (φ__law_same : SpD) : WS :=
  (sSeq (sIf (tV (eIsN false (eVar 1))) (sRet (eIsN false (eVar 0))) sNx) (sSeq (sIf (tV (eUn (oIsT .bool) (eVar 1))) (sRet (eAnd (eUn (oIsT .bool) (eVar 0)) (eBin oEq (eVar 0) (eVar 1)))) sNx) (sSeq (sIf (tV (eUn (oIsT .str) (eVar 1))) (sRet (eAnd (eUn (oIsT .str) (eVar 0)) (eBin oEq (eVar 0) (eVar 1)))) sNx) (sSeq (sIf (tV (eUn (oIsT .int) (eVar 1))) (sRet (eAnd (eUn (oIsT .int) (eVar 0)) (eAnd (eNot (eUn (oIsT .bool) (eVar 0))) (eBin oEq (eVar 0) (eVar 1))))) sNx) (sSeq (sIf (tAnd (tV (eUn (oIsT .tuple) (eVar 1))) (tNot (tV (eUn (oIsT .tuple) (eVar 0))))) (sRet (eC (.bl false))) sNx) (sSeq (sIf (tOr (tAnd (tV (eUn (oIsT .list) (eVar 1))) (tNot (tV (eUn (oIsT .list) (eVar 0))))) (tV (eBin oNe (eUn oLen (eVar 0)) (eUn oLen (eVar 1))))) (sRet (eC (.bl false))) sNx) (sRet (eUn oAll (eComp [2, 3] (iZip (eVar 0) (eVar 1)) (gTup [(gName 2), (gName 3)]) tYes (eCall φ__law_same [false, false] (aCons (eVar 2) (aCons (eVar 3) aNil))))))))))))
end Pd
set_option linter.all false
set_option maxRecDepth 10000
namespace Pd
/-! the comparison that asks for truths before texts before numbers -/
theorem k_same3 {φ : SpD} (n : Nat) (hφ : ∀ (g : G) (x y v : D) (E : X → G → Prop) (Q : R → G → Prop), den n g x = some v → den n g y = some v → Q (.d (.bl true)) g → φ [.d x, .d y] g E Q) : Keeps (d_same n).wp (b_same3 φ) 4 := by
  rintro ss g E Q ⟨_, ⟨s1, s2, c1, c2, v, rfl, h1, h2, v1, v2⟩, hq, _⟩
  have h8 := most_is
  have fin : ∃ g2, G.le g2 g ∧ Q (.d (.bl true)) g2 := ret_now (hq _ _ ⟨rfl, rfl⟩)
  have hn1 := fun ψ => isNon_lk (ψ := ψ) h1
  have hn2 := fun ψ => isNon_lk (ψ := ψ) h2
  have loop : ∀ (xs ys zs : List D) (ψ0 ψw : Psi) (ok : Psi → G → Prop) (Qc : List D → G → Prop), (∀ bs : List Bool, bs.all id = true → Qc (bs.map D.bl) g) → ok ψ0 g → xs.length < 4000 → denL (den n g) xs = some zs → denL (den n g) ys = some zs → ψw = [some (lendS s1), some (lendS s2), none, none] →
      compL (gTup [gName 2, gName 3]) tYes (eCall φ [false, false] (aCons (eVar 2) (aCons (eVar 3) aNil))) ok ψ0 ψw (pairUp xs ys) [] g Qc := fun xs ys zs ψ0 ψw ok Qc hQ hok hl e1 e2 hψ => by
    subst hψ
    refine comp_ind (fun rest acc g' => ∃ (xs ys zs : List D) (bs : List Bool), rest = pairUp xs ys ∧ denL (den n g) xs = some zs ∧ denL (den n g) ys = some zs ∧ acc = bs.map D.bl ∧ bs.all id = true ∧ bs.length + xs.length < 4000 ∧ g' = g) ?_ ?_ _ _ _ ⟨xs, ys, zs, [], rfl, e1, e2, rfl, rfl, by simpa using hl, rfl⟩
    · rintro x rs acc g' K ⟨xs, ys, zs, bs, e3, e4, e5, rfl, hb, hl, rfl⟩ hK
      cases xs with
      | nil => cases e3
      | cons a xs =>
        cases ys with
        | nil => cases e3
        | cons b ys =>
          obtain ⟨rfl, rfl⟩ := List.cons.inj e3
          obtain ⟨y1, zs1, f1, f2, rfl⟩ := denL_cons e4
          obtain ⟨y2, zs2, f3, f4, e6⟩ := denL_cons e5
          obtain ⟨rfl, rfl⟩ := List.cons.inj e6
          have hlm : bs.length < most := by simp at hl; omega
          simp [hlm]
          refine hφ _ _ _ _ _ _ f1 f3 ?_
          simp
          exact ⟨hok, hlm, hK _ _ ⟨xs, ys, zs1, bs ++ [true], rfl, f2, f4, by simp, by simp [hb], by simp at hl ⊢; omega, rfl⟩⟩
    · rintro acc g' ⟨xs, ys, zs, bs, e3, e4, e5, rfl, hb, hl, rfl⟩
      exact hQ bs hb
  have a := alike v1 v2
  cases a with
  | non => simp [b_same3, begin_, s_sSeq, h1, h2, hn1, hn2]; exact fin
  | bl b => simp [b_same3, begin_, s_sSeq, h1, h2, hn1, hn2]; exact fin
  | int b => simp [b_same3, begin_, s_sSeq, h1, h2, hn1, hn2]; exact fin
  | str b => simp [b_same3, begin_, s_sSeq, h1, h2, hn1, hn2]; exact fin
  | tt xs ys zs hl e1 e2 =>
    have e3 : xs.length = ys.length := (denL_len e1).trans (denL_len e2).symm
    simp [b_same3, begin_, s_sSeq, h1, h2, hn1, hn2, e3]
    refine loop xs ys zs _ _ _ _ (fun bs hb => ?_) ?_ hl e1 e2 (by simp [lendAll, wipe, lend_some, lend_none])
    · simp [hb]; exact fin
    · simp [h1, h2]
  | ll xs ys zs hl e1 e2 =>
    have e3 : xs.length = ys.length := (denL_len e1).trans (denL_len e2).symm
    simp [b_same3, begin_, s_sSeq, h1, h2, hn1, hn2, e3]
    refine loop xs ys zs _ _ _ _ (fun bs hb => ?_) ?_ hl e1 e2 (by simp [lendAll, wipe, lend_some, lend_none])
    · simp [hb]; exact fin
    · simp [h1, h2]
  | lr xs ys zs hl e1 e2 =>
    have e3 : xs.length = ys.length := (denL_len e1).trans (denL_len e2).symm
    simp [b_same3, begin_, s_sSeq, h1, h2, hn1, hn2, e3]
    refine loop xs ys zs _ _ _ _ (fun bs hb => ?_) ?_ hl e1 e2 (by simp [lendAll, wipe, lend_some, lend_none])
    · simp [hb]; exact fin
    · simp [h1, h2]
  | rl xs ys zs hl e1 e2 =>
    have e3 : xs.length = ys.length := (denL_len e1).trans (denL_len e2).symm
    simp [b_same3, begin_, s_sSeq, h1, h2, hn1, hn2, e3]
    refine loop xs ys zs _ _ _ _ (fun bs hb => ?_) ?_ hl e1 e2 (by simp [lendAll, wipe, lend_some, lend_none])
    · simp [hb]; exact fin
    · simp [h1, h2]
  | rr xs ys zs hl e1 e2 =>
    have e3 : xs.length = ys.length := (denL_len e1).trans (denL_len e2).symm
    simp [b_same3, begin_, s_sSeq, h1, h2, hn1, hn2, e3]
    refine loop xs ys zs _ _ _ _ (fun bs hb => ?_) ?_ hl e1 e2 (by simp [lendAll, wipe, lend_some, lend_none])
    · simp [hb]; exact fin
    · simp [h1, h2]
theorem k_same30 : Keeps (d_same 0).wp (b_same3 fun _ _ _ _ => False) 4 := k_same3 0 fun g x y v E Q h => by cases h
theorem k_same3S (n : Nat) : Keeps (d_same (n + 1)).wp (b_same3 (d_same n).wp) 4 := k_same3 (n + 1) fun g x y v E Q h h' k => by
  obtain ⟨c1, e1, e2⟩ := Option.bind_eq_some_iff.mp h
  obtain ⟨c2, e3, e4⟩ := Option.bind_eq_some_iff.mp h'
  exact call_of () ⟨_, _, c1, c2, v, rfl, e1, e3, e2, e4⟩ fun r g' ⟨a, b⟩ => by rw [a, b]; exact k
end Pd
set_option linter.all false
set_option maxRecDepth 10000
namespace Pd
/-! leaves told, bent, told again -/
theorem lvs_ne {m : Mch} (hsl : m.says.length ≤ 4) : ∀ {d : Nat} {x : D}, TrOk m d x → ∀ w s, lvs d x w s ≠ []
  | 0, x, h, w, s => by simp [lvs]
  | d + 1, x, h, w, s => by
    rcases h.cases with h | ⟨d0, k, ps, e, h1, h2, h3, rfl⟩
    · have : innerF x = [] := by rcases h with rfl | rfl <;> rfl
      rw [lvs_leaf _ _ _ _ this]; simp
    · cases e
      have hp := partS_pos m k
      obtain ⟨p, r, rfl⟩ : ∃ p r, ps = p :: r := by
        cases ps with
        | nil => simp at h2; omega
        | cons p r => exact ⟨p, r, rfl⟩
      have hne : innerF (asm m k (p :: r)) ≠ [] := by rw [inner_asm h2]; simp
      rw [lvs_node _ _ _ _ hne, inner_asm h2, signs_asm h2]
      cases e : partS m k with
      | nil => rw [e] at hp; simp at hp
      | cons t ts =>
        show lvs d p (w ++ [0]) (s ++ [t]) ++ _ ≠ []
        intro z
        exact lvs_ne hsl (h3 p (by simp)) _ _ (List.append_eq_nil_iff.mp z).1
theorem den_pD {g : G} {p : Leaf × Nat} {d : Nat} (ok : LeafOk p.1 d) (hd : d ≤ 100) (h : g p.2 = some (.lst (p.1.s.map sg))) : den 4 g (pD p) = some (rD p.1) := by
  have e1 : den 3 g (.tup (p.1.w.map nD)) = some (.tup (p.1.w.map nD)) := by
    show (if (p.1.w.map nD).length < 4000 then (denL (den 2 g) (p.1.w.map nD)).map D.tup else none) = _
    rw [if_pos (by have := ok.w; simp; omega), denL_map (f := den 2 g) (g := nD) fun x _ => rfl]; rfl
  have e2 : den 3 g (.ref p.2) = some (.rol (p.1.s.map sg)) := by
    show ((g p.2).map C.o).bind (denC (den 2 g)) = _
    rw [h]
    show (if (p.1.s.map sg).length < 4000 then (denL (den 2 g) (p.1.s.map sg)).map D.rol else none) = _
    rw [if_pos (by have := ok.s; simp; omega), denL_map (f := den 2 g) (g := sg) fun x hx => den_tT 0 g (by have := ok.two x hx; omega)]; rfl
  show (if 3 < 4000 then (denL (den 3 g) [.tup (p.1.w.map nD), .ref p.2, .str p.1.k]).map D.tup else none) = _
  rw [if_pos (by decide)]
  simp [denL, e1, e2, rD]
  rfl
theorem den_ps {g : G} {ps : List (Leaf × Nat)} {d : Nat} (hl : ps.length ≤ 3000) (hd : d ≤ 100) (ok : ∀ p ∈ ps, LeafOk p.1 d) (h : ∀ p ∈ ps, g p.2 = some (.lst (p.1.s.map sg))) : denC (den 4 g) (.o (.lst (ps.map pD))) = some (.rol ((ps.map (·.1)).map rD)) := by
  show (if (ps.map pD).length < 4000 then (denL (den 4 g) (ps.map pD)).map D.rol else none) = _
  rw [if_pos (by simp; omega)]
  have : ∀ ps : List (Leaf × Nat), (∀ p ∈ ps, LeafOk p.1 d) → (∀ p ∈ ps, g p.2 = some (.lst (p.1.s.map sg))) → denL (den 4 g) (ps.map pD) = some ((ps.map (·.1)).map rD) := by
    intro ps
    induction ps with
    | nil => intro _ _; rfl
    | cons p ps ih =>
      intro ok h
      show (match den 4 g (pD p), denL (den 4 g) (ps.map pD) with | some y, some ys => some (y :: ys) | _, _ => none) = _
      rw [den_pD (ok p (by simp)) hd (h p (by simp)), ih (fun q hq => ok q (by simp [hq])) fun q hq => h q (by simp [hq])]; rfl
  rw [this ps ok h]; rfl
theorem rD_deep5 (l : Leaf) : (rD l).depth ≤ 11 := by
  have e : (rD l).depth = D.depths [.tup (l.w.map nD), .rol (l.s.map sg), .str l.k] + 1 := rfl
  rw [e]
  have : D.depths [.tup (l.w.map nD), .rol (l.s.map sg), .str l.k] ≤ 10 := depths_of fun x hx => by
    simp at hx
    rcases hx with rfl | rfl | rfl
    · show D.depths (l.w.map nD) + 1 ≤ 10
      have : D.depths (l.w.map nD) ≤ 0 := depths_of fun x hx => by
        obtain ⟨w, _, rfl⟩ := List.mem_map.mp hx
        exact Nat.le_refl _
      omega
    · show D.depths (l.s.map sg) + 1 ≤ 10
      have : D.depths (l.s.map sg) ≤ 1 := depths_of fun x hx => by
        obtain ⟨s, _, rfl⟩ := List.mem_map.mp hx
        show D.depths (s.map D.str) + 1 ≤ 1
        have : D.depths (s.map D.str) ≤ 0 := depths_of fun x hx => by
          obtain ⟨w, _, rfl⟩ := List.mem_map.mp hx
          exact Nat.le_refl _
        omega
      omega
    · exact Nat.zero_le _
  omega
theorem ne_same {g : G} {ps : List (Leaf × Nat)} (h : ∀ p ∈ ps, g p.2 = some (.lst (p.1.s.map sg))) : oNe g (.o (.lst (ps.map pD))) (.o (.lst (ps.map pD))) = some (.d (.bl false)) := by
  have r : rsvC g (.o (.lst (ps.map pD))) = some (.rol (ps.map fun p => rD p.1)) := by
    have : ∀ ps : List (Leaf × Nat), (∀ p ∈ ps, g p.2 = some (.lst (p.1.s.map sg))) → (ps.map pD).mapM (rsv 6 g) = some (ps.map fun p => rD p.1) := by
      intro ps
      induction ps with
      | nil => intro _; rfl
      | cons p ps ih =>
        intro h
        simp [rsv_pD (h p (by simp)), ih fun q hq => h q (by simp [hq])]
    show ((ps.map pD).mapM (rsv 6 g)).map D.rol = _
    rw [this ps h]; rfl
  have d : (D.rol (ps.map fun p => rD p.1)).depth ≤ 60 := by
    show D.depths (ps.map fun p => rD p.1) + 1 ≤ 60
    have : D.depths (ps.map fun p => rD p.1) ≤ 11 := depths_of fun x hx => by
      obtain ⟨p, _, rfl⟩ := List.mem_map.mp hx
      exact rD_deep5 _
    omega
  have e : eqC g (.o (.lst (ps.map pD))) (.o (.lst (ps.map pD))) = match rsvC g (.o (.lst (ps.map pD))), rsvC g (.o (.lst (ps.map pD))) with
    | some x, some y => if x.depth ≤ 60 ∧ y.depth ≤ 60 then some (decide (x = y)) else none
    | _, _ => none := rfl
  unfold oNe
  rw [e, r]
  simp only
  rw [if_pos ⟨d, d⟩]
  simp
structure Lri where
  p : Nat
  m : Mch
  v : List D
def d_lright : Sg Lri := ⟨fun x ss g => ss = [.d (.ref x.p), .d (.tup x.v)] ∧ MachD g x.p x.m ∧ GM x.m 6 ∧ TrOk x.m 4 (.tup x.v), fun x g r g' => G.le g g' ∧ r = .d (.bl true), fun _ _ _ _ => False⟩
theorem k_lright : Keeps d_lright.wp (b__law_right (d_lleaves 4).wp d_tleaves.wp (d_same 4).wp) 4 := by
  rintro ss g E Q ⟨⟨p, m, v⟩, ⟨rfl, hM, gm, ht⟩, hq, _⟩
  have h8 := most_is
  have hM : MachD g p m := hM
  have gm : GM m 6 := gm
  have hsl := gm.sl
  simp only at ht
  have hlen : (lvs 4 (.tup v) [] []).length ≤ 781 := lvs_len hsl ht [] []
  have hok : ∀ l ∈ lvs 4 (.tup v) [] [], LeafOk l 4 := lvs_ok ht (n := 0) (by simp) (by simp) (by simp)
  have hsort := lvs_sorted 4 (.tup v) [] []
  have hne := lvs_ne hsl ht [] []
  generalize hLV : lvs 4 (.tup v) [] [] = LV at hlen hok hsort hne
  simp [b__law_right, begin_]
  rw [s_sSeq]; simp
  intro b hb
  refine call_of ⟨m, v, [], [], b, g⟩ ⟨rfl, hb, rfl, ht, hsl, by simp, by simp⟩ ?_
  rintro r g1 ⟨ps, hps, L1, rfl⟩
  simp only at hps L1
  rw [hLV] at hps
  have hpl : ps.length ≤ 781 := by have := congrArg List.length hps; rw [List.length_map] at this; omega
  have okp : ∀ q ∈ ps, LeafOk q.1 4 := fun q hq => hok _ (hps ▸ List.mem_map_of_mem hq)
  have hM1 := hM.keep L1.old
  simp
  rw [s_sSeq]; simp
  refine call_of ⟨p, m, v, 4⟩ ⟨rfl, hM1, gm, by simp, ht⟩ ?_
  rintro r g2 ⟨qs, hqs, L2, rfl⟩
  simp only at hqs L2
  rw [hLV] at hqs
  have hql : qs.length ≤ 781 := by have := congrArg List.length hqs; rw [List.length_map] at this; omega
  have okq : ∀ q ∈ qs, LeafOk q.1 4 := fun q hq => hok _ (hqs ▸ List.mem_map_of_mem hq)
  have at2 : ∀ q ∈ ps, g2 q.2 = some (.lst (q.1.s.map sg)) := fun q hq => L2.old _ _ (L1.at_ q hq)
  have d1 := den_ps (g := g2) (by omega) (by omega) okp at2
  have d2 := den_ps (g := g2) (by omega) (by omega) okq L2.at_
  have so := srt_leaves (g := g2) at2 (.refl ps) (by rw [hps]; exact hsort)
  have ns := ne_same (g := g2) at2
  simp
  rw [s_sSeq]; simp
  refine call_of () ⟨_, _, .o (.lst (qs.map pD)), .o (.lst (ps.map pD)), .rol (LV.map rD), rfl, by simp, by simp, by rw [d2, hqs], by rw [d1, hps]⟩ ?_
  rintro r g3 ⟨rfl, rfl⟩
  simp [so, ns]
  obtain ⟨q0, qr, rfl⟩ : ∃ q0 qr, qs = q0 :: qr := by
    cases qs with
    | nil => exact absurd hqs.symm hne
    | cons q0 qr => exact ⟨q0, qr, rfl⟩
  have hp0 : pD q0 = .tup [.tup (q0.1.w.map nD), .ref q0.2, .str q0.1.k] := rfl
  have hq0 := L2.at_ q0 (by simp)
  have hs4 : q0.1.s.length ≤ 4 := (okq q0 (by simp)).s
  have hn1 : g1 q0.2 = none := L2.new q0 (by simp)
  have k13 : ∀ o, G.le g1 (g3.upd q0.2 o) := fun o c u e => by
    rw [G.upd_ne (fun z => by rw [z, hn1] at e; cases e)]; exact L2.old c u e
  rw [s_sSeq]; simp [hp0, hq0]
  refine ⟨by omega, ?_⟩
  have K4 := k13 (O.lst (q0.1.s.map sg ++ [D.tup [D.str [104, 117, 115, 104]]]))
  generalize g3.upd q0.2 (O.lst (q0.1.s.map sg ++ [D.tup [D.str [104, 117, 115, 104]]])) = g4 at K4 ⊢
  have hXl : (D.tup [D.tup (List.map nD q0.1.w), D.ref q0.2, D.str q0.1.k] :: qr.map pD).length = qr.length + 1 := by simp
  generalize (D.tup [D.tup (List.map nD q0.1.w), D.ref q0.2, D.str q0.1.k] :: qr.map pD) = X at hXl ⊢
  have hix : idxOf X.length (-1) = some qr.length := by
    rw [hXl]; unfold idxOf
    rw [if_neg (by omega), if_pos (by omega)]
    congr 1; omega
  rw [s_sSeq]; simp
  intro c hc
  have K5 := G.le_trans K4 (G.le_upd (o := O.lst []) hc)
  generalize g4.upd c (O.lst []) = g5 at K5 ⊢
  simp [hix]
  refine call_of ⟨p, m, v, 4⟩ ⟨rfl, hM1.keep K5, gm, by simp, ht⟩ ?_
  rintro r g6 ⟨rs, hrs, L6, rfl⟩
  simp only at hrs L6
  rw [hLV] at hrs
  have hrl : rs.length ≤ 781 := by have := congrArg List.length hrs; rw [List.length_map] at this; omega
  have okr : ∀ q ∈ rs, LeafOk q.1 4 := fun q hq => hok _ (hrs ▸ List.mem_map_of_mem hq)
  have K6 := G.le_trans K5 L6.old
  have d3 := den_ps (g := g6) (by omega) (by omega) okp fun q hq => K6 _ _ (L1.at_ q hq)
  have d4 := den_ps (g := g6) (by omega) (by omega) okr L6.at_
  simp
  refine call_of () ⟨_, _, .o (.lst (rs.map pD)), .o (.lst (ps.map pD)), .rol (LV.map rD), rfl, by simp, by simp, by rw [d4, hrs], by rw [d3, hps]⟩ ?_
  rintro r g7 ⟨rfl, rfl⟩
  simp
  exact ret_now (hq _ _ ⟨G.le_trans L1.old K6, rfl⟩)
def d_law : Sg (List Int) := ⟨fun ns ss g => ss = [.d (.rol (ns.map D.int))], fun _ g r g' => r = .d (.bl true), fun _ _ _ _ => False⟩
def FsOk (g : G) (f : D) : Prop := ∃ p m v, f = .tup [.ref p, .tup v] ∧ MachD g p m ∧ GM m 6 ∧ TrOk m 4 (.tup v)
theorem FsOk.fr {g g' : G} {f : D} {a : Nat} (h : FsOk g f) (F : Fr g g' a) (p : Pen g a) : FsOk g' f := by
  obtain ⟨p', m, v, e, hM, gm, ht⟩ := h
  exact ⟨p', m, v, e, hM.fr F p, gm, ht⟩
theorem k_law : Keeps d_law.wp (b_law d_open.wp d_model.wp d_mach.wp (d_ltrial 4).wp d_take.wp (d_lmade 3).wp d_lface.wp d_lright.wp) 7 := by
  rintro ss g E Q ⟨ns, rfl, hq, _⟩
  have h8 := most_is
  simp [b_law, begin_]
  rw [s_sSeq]; simp
  refine call_of ns rfl ?_
  rintro r g1 ⟨c, cs, rfl, hc⟩
  simp
  rw [s_sSeq]; simp
  refine seq_of (fun ψ g => ∃ f t0 t1 t3 t4 t5 t6, FsOk g f ∧ ψ = [t0, t1, some (.d f), t3, t4, t5, t6]) (fun nx hx => ?_) ?_
  · simp
    intro a ha
    generalize hg2 : g1.upd a (O.lst [D.ref c, D.int 0, D.int 0]) = g2
    have hac : a ≠ c := fun z => by rw [z, hc] at ha; cases ha
    have p2 : Pen g2 a := hg2 ▸ ⟨c, 0, 0, cs, hac, G.upd_same, by omega, by rw [G.upd_ne (Ne.symm hac), hc]⟩
    refine for_range 4 (fun i ψ g => Pen g a ∧ ∃ f t3 t4 t5 t6, (i = 0 ∧ f = .non ∨ FsOk g f) ∧ ψ = [some (.d (.rol (ns.map D.int))), some (.d (.ref a)), some (.d f), t3, t4, t5, t6]) ?_ ?_ _ _ ⟨p2, .non, none, none, none, none, .inl ⟨rfl, rfl⟩, rfl⟩
    · rintro i hi ψ g3 K ⟨p3, f, t3, t4, t5, t6, hf, rfl⟩ hK
      simp
      rw [s_sSeq]; simp
      refine call_of ⟨a, 6, 1⟩ ⟨rfl, p3, by simp, by simp, by simp, by simp⟩ ?_
      rintro r g5 ⟨F5, y, m, down, rfl, ⟨a1, a2, a3, a4, rfl, e1, e2, e3, e4, _⟩, hm⟩
      have F5 : Fr g3 g5 a := F5
      have gm : GM m 6 := hm.gm (by simp)
      have tl : Told g5 ⟨m, a1, a2, a3, a4⟩ := ⟨e1, e2, e3, e4⟩
      have ok := gm.mok (by simp)
      simp
      rw [s_sSeq]; simp
      refine call_of ⟨(a1, a2, a3, a4), m⟩ ⟨rfl, tl.e1, tl.e2, tl.e3, tl.e4, gm.bd (by simp), gm.good (by simp)⟩ ?_
      rintro r g6 ⟨p, rfl, hM, np, k6⟩
      have tl6 := tl.keep k6
      have F6 := F5.grow k6
      simp
      rw [s_sSeq]; simp
      intro q hqn
      have ha1 : 1 ≤ m.asks.length := by
        have := gm.a0
        cases h : m.asks with
        | nil => exact absurd h this
        | cons _ _ => simp
      refine call_of ⟨⟨m, a1, a2, a3, a4⟩, a, q, 15, g6⟩ ⟨rfl, F6.pen, tl6, ⟨ha1, gm.al, gm.sl⟩, hqn, (Fp.refl F6.pen).grow (G.le_upd hqn), G.upd_same⟩ ?_
      rintro r g7 ⟨F7, _, v, rfl, ht⟩
      have F7 : Fr g6 g7 a := F7.fr
      have ht : TrOk m 4 (.tup v) := ht
      simp
      refine seq_of (fun ψ g8 => Fr g6 g8 a ∧ ∃ v, TrOk m 4 (.tup v) ∧ ψ = [some (.d (.rol (ns.map D.int))), some (.d (.ref a)), some (.d f), some (.d (.int (i : Int))), some (.d (.tup [.ref a1, .ref a2, .ref a3, .ref a4])), some (.d (.ref p)), some (.d (.tup v))]) (fun nx2 hx2 => ?_) ?_
      · simp
        refine takeF F7 (by omega) (by omega) fun x g8 x0 x1 F8 b8 => ?_
        by_cases c : x = 0
        · simp [c]
          have tl8 := tl6.fr F8 F6.pen
          refine call_of ⟨⟨m, a1, a2, a3, a4⟩, []⟩ ⟨⟨_, rfl, by simp⟩, tl8, ok⟩ ?_
          rintro r g9 ⟨rfl, rfl⟩
          simp
          refine call_of ⟨⟨m, a1, a2, a3, a4⟩, a, faceOf m []⟩ ⟨rfl, F8.pen, tl8, ok, ⟨gm.al, gm.sl⟩, faceOf_subl _ _, by have := gm.rl; simp only; omega⟩ ?_
          rintro r g10 ⟨F10, v10, rfl, ht10⟩
          simp
          exact hx2 _ _ ⟨F8.trans F10, v10, ht10.up (by omega), rfl⟩
        · simp [c]
          exact hx2 _ _ ⟨F8, v, ht, rfl⟩
      · rintro ψ g8 ⟨F8, v, ht, rfl⟩
        have hM8 := hM.fr F8 F6.pen
        have F38 := F6.trans F8
        refine seq_of (fun ψ g9 => g9 = g8 ∧ ∃ f, FsOk g8 f ∧ ψ = [some (.d (.rol (ns.map D.int))), some (.d (.ref a)), some (.d f), some (.d (.int (i : Int))), some (.d (.tup [.ref a1, .ref a2, .ref a3, .ref a4])), some (.d (.ref p)), some (.d (.tup v))]) (fun nx2 hx2 => ?_) ?_
        · rcases hf with ⟨_, rfl⟩ | hf
          · simp
            exact hx2 _ _ ⟨rfl, _, ⟨p, m, v, rfl, hM8, gm, ht⟩, rfl⟩
          · have hf8 := hf.fr F38 p3
            obtain ⟨p', m', v', rfl, _⟩ := id hf
            simp
            exact hx2 _ _ ⟨rfl, _, hf8, rfl⟩
        · rintro ψ g9 ⟨rfl, f, hf, rfl⟩
          simp
          refine call_of ⟨p, m, v⟩ ⟨rfl, hM8, gm, ht⟩ ?_
          rintro r g10 ⟨k10, rfl⟩
          simp
          obtain ⟨p', m', v', ef, hM', gm', ht'⟩ := hf
          exact now (hK _ _ ⟨F8.pen.keep k10, f, _, _, _, _, .inr ⟨p', m', v', ef, hM'.keep k10, gm', ht'⟩, rfl⟩)
    · rintro ψ g3 ⟨p3, f, t3, t4, t5, t6, hf, rfl⟩
      exact hx _ _ ⟨f, _, _, _, _, _, _, hf.resolve_left (fun h => by omega), rfl⟩
  · rintro ψ g3 ⟨f, t0, t1, t3, t4, t5, t6, ⟨p, m, v, rfl, hM, gm, ht⟩, rfl⟩
    simp
    refine call_of ⟨p, m, v⟩ ⟨rfl, hM, gm, ht⟩ ?_
    rintro r g4 ⟨_, rfl⟩
    simp
    exact ret_now (hq _ _ rfl)
end Pd
set_option Elab.async false
set_option linter.all false
set_option maxRecDepth 100000
set_option maxHeartbeats 4000000
namespace Pd
open PySem PySem.Spec PyProof.Rows L2
theorem sc_inner : FnScope ["trial", "part", "word"] ["trial"] (defScope s_inner) := ⟨rfl, rfl, rfl, by decide +kernel, rfl, by decide +kernel, by decide +kernel⟩
theorem der_inner {P : Program} {w : World} {K : PySem.W.Frag} {mg : Str → Option Value} {base : Heap} {tb : Tb} {f : Addr} {cdv : Value} {A : Around} {outer : List Env} {s : Shared} {H : Hp} {E : XK} {k : Nat}
    (bl_len : Bl mg "len" (.builtin "len"))
    (hr : Room k (A.deeper (envOfC "inner" (defScope s_inner) s.heap.objs.size f cdv))) :
    ∃ Sw, DSs (cxOf (L2.CX P w) P w K mg base ["trial", "part", "word"] "inner" (defScope s_inner) f cdv A outer s H E) tb (defBody s_inner) Sw (b_inner) :=
  have nd := sc_inner.nd
  have hu := room8 hr
  ⟨_, (dss_cons (ds_if (DW.dt (dw_and (dt_cmp (eq8 hu) ok_eq (de_ix hu (de_var 0) de_int) (de_str [116, 101, 108, 108])) (dw_and1 (dt_cmp (eq8 hu) ok_eq (de_len bl_len (de_var 0)) de_int)))) (dss_one (ds_ret (de_bin op_addAll ok_add (de_lst (dd_cons (de_ix hu (de_var 0) de_int) dd_nil)) (de_comp [("word", 2), ("part", 1)] nd (di_seq (so_exp (de_ix hu (de_var 0) de_int))) (fun _ _ _ _ _ => (dg_tup (dgs_cons (dg_name 2 nd) (dgs_cons (dg_name 1 nd) dgs_nil)))) (fun _ _ _ _ _ => dts_nil) (fun _ _ _ _ _ => (de_var 1)))))) dss_nil) (dss_cons (ds_if (DW.dt (dw_and (dt_cmp (eq8 hu) ok_eq (de_ix hu (de_var 0) de_int) (de_str [119, 97, 105, 116])) (dw_and1 (dt_cmp (eq8 hu) ok_eq (de_len bl_len (de_var 0)) de_int)))) (dss_one (ds_ret (de_bin op_addAll ok_add (de_comp [("word", 2), ("part", 1)] nd (di_seq (so_exp (de_ix hu (de_var 0) de_int))) (fun _ _ _ _ _ => (dg_tup (dgs_cons (dg_name 2 nd) (dgs_cons (dg_name 1 nd) dgs_nil)))) (fun _ _ _ _ _ => dts_nil) (fun _ _ _ _ _ => (de_var 1))) (de_lst (dd_cons (de_ix hu (de_var 0) de_int) dd_nil))))) dss_nil) (dss_one (ds_ret (de_lst dd_nil)))))⟩
theorem sc_is_so : FnScope ["model", "trial", "part", "word"] ["model", "trial"] (defScope s_is_so) := ⟨rfl, rfl, rfl, by decide +kernel, rfl, by decide +kernel, by decide +kernel⟩
theorem der_is_so {P : Program} {w : World} {K : PySem.W.Frag} {mg : Str → Option Value} {base : Heap} {tb : Tb} {f : Addr} {cdv : Value} {A : Around} {outer : List Env} {s : Shared} {H : Hp} {E : XK} {k : Nat}
    {φ_Machine_asks : SpD} {k_Machine_asks : Nat} {φ_Machine_says : SpD} {k_Machine_says : Nat} (bl_len : Bl mg "len" (.builtin "len")) (m_Machine_asks : CalM P w K mg base tb "Machine" "asks" k_Machine_asks φ_Machine_asks) (m_Machine_says : CalM P w K mg base tb "Machine" "says" k_Machine_says φ_Machine_says) (l_Machine_asks : k_Machine_asks ≤ k) (l_Machine_says : k_Machine_says ≤ k)
    (hr : Room k (A.deeper (envOfC "is_so" (defScope s_is_so) s.heap.objs.size f cdv))) :
    ∃ Sw, DSs (cxOf (L2.CX P w) P w K mg base ["model", "trial", "part", "word"] "is_so" (defScope s_is_so) f cdv A outer s H E) tb (defBody s_is_so) Sw (b_is_so φ_Machine_asks φ_Machine_says) :=
  have nd := sc_is_so.nd
  have hu := room8 hr
  ⟨_, (dss_cons (ds_if (DW.dt (dw_and (dt_cmp (eq8 hu) ok_eq (de_ix hu (de_var 1) de_int) (de_str [116, 101, 108, 108])) (dw_and1 (dt_cmp (eq8 hu) ok_eq (de_len bl_len (de_var 1)) de_int)))) (dss_one (ds_ret (de_and (de_cmp (op_inAll hu) ok_in (de_ix hu (de_var 1) de_int) (de_meth0 "Machine" "asks" m_Machine_asks (hr.mono l_Machine_asks) (de_var 0))) (de_one (de_cmp (eq8 hu) ok_eq (de_comp [("word", 3), ("part", 2)] nd (di_seq (so_exp (de_ix hu (de_var 1) de_int))) (fun _ _ _ _ _ => (dg_tup (dgs_cons (dg_name 3 nd) (dgs_cons (dg_name 2 nd) dgs_nil)))) (fun _ _ _ _ _ => dts_nil) (fun _ _ _ _ _ => (de_var 3))) (de_meth0 "Machine" "says" m_Machine_says (hr.mono l_Machine_says) (de_var 0))))))) dss_nil) (dss_cons (ds_if (DW.dt (dw_and (dt_cmp (eq8 hu) ok_eq (de_ix hu (de_var 1) de_int) (de_str [119, 97, 105, 116])) (dw_and1 (dt_cmp (eq8 hu) ok_eq (de_len bl_len (de_var 1)) de_int)))) (dss_one (ds_ret (de_cmp (eq8 hu) ok_eq (de_comp [("word", 3), ("part", 2)] nd (di_seq (so_exp (de_ix hu (de_var 1) de_int))) (fun _ _ _ _ _ => (dg_tup (dgs_cons (dg_name 3 nd) (dgs_cons (dg_name 2 nd) dgs_nil)))) (fun _ _ _ _ _ => dts_nil) (fun _ _ _ _ _ => (de_var 3))) (de_meth0 "Machine" "says" m_Machine_says (hr.mono l_Machine_says) (de_var 0))))) dss_nil) (dss_one (ds_ret (de_or (de_cmp (eq8 hu) ok_eq (de_var 1) (de_tup (dd_cons (de_str [101, 110, 100]) dd_nil))) (de_one (de_cmp (eq8 hu) ok_eq (de_var 1) (de_tup (dd_cons (de_str [98, 108, 97, 109, 101]) dd_nil)))))))))⟩
theorem sc_need_trial : FnScope ["model", "trial", "due", "many", "wrong", "here", "way", "number", "part"] ["model", "trial"] (defScope s_need_trial) := ⟨rfl, rfl, rfl, by decide +kernel, rfl, by decide +kernel, by decide +kernel⟩
theorem der_need_trial {P : Program} {w : World} {K : PySem.W.Frag} {mg : Str → Option Value} {base : Heap} {tb : Tb} {f : Addr} {cdv : Value} {A : Around} {outer : List Env} {s : Shared} {H : Hp} {E : XK} {k : Nat}
    {φ_is_so : SpD} {k_is_so : Nat} {φ_inner : SpD} {k_inner : Nat} (gl_MOST : GlV mg K "MOST" (.int 1000)) (bl_len : Bl mg "len" (.builtin "len")) (gl_DEEPEST : GlV mg K "DEEPEST" (.int 8)) {k_x_NoTrial : Nat} (x_NoTrial : CalX P w K mg base tb "NoTrial" "NoTrial" ["way"] k_x_NoTrial) (c_is_so : Cal P w K mg base tb "is_so" k_is_so φ_is_so) (bl_enumerate : Bl mg "enumerate" (.type "enumerate")) (c_inner : Cal P w K mg base tb "inner" k_inner φ_inner) (bl_min : Bl mg "min" (.builtin "min")) (l_x_NoTrial : k_x_NoTrial + 1 ≤ k) (l_is_so : k_is_so ≤ k) (l_inner : k_inner ≤ k)
    (hr : Room k (A.deeper (envOfC "need_trial" (defScope s_need_trial) s.heap.objs.size f cdv))) :
    ∃ Sw, DSs (cxOf (L2.CX P w) P w K mg base ["model", "trial", "due", "many", "wrong", "here", "way", "number", "part"] "need_trial" (defScope s_need_trial) f cdv A outer s H E) tb (defBody s_need_trial) Sw (b_need_trial φ_is_so φ_inner) :=
  have nd := sc_need_trial.nd
  have hu := room8 hr
  ⟨_, (dss_cons (ds_set 2 nd (de_lst (dd_cons (de_tup (dd_cons (de_var 1) (dd_cons (de_tup dd_nil) dd_nil))) dd_nil))) (dss_cons (ds_set 3 nd de_int) (dss_cons (ds_set 4 nd (de_lst dd_nil)) (dss_cons (ds_while passes_cx (dt_cmp (ne8 hu) ok_ne (de_var 2) (de_lst dd_nil)) (dss_cons (ds_unp (dg_tup (dgs_cons (dg_name 5 nd) (dgs_cons (dg_name 6 nd) dgs_nil))) (de_pop (de_var 2))) (dss_cons (ds_set 3 nd (de_bin op_addAll ok_add (de_var 3) de_int)) (dss_cons (ds_if (DW.dt (dw_or (dt_cmp (op_gtA hu) ok_gt (de_var 3) (de_glob gl_MOST)) (dw_or1 (dt_cmp op_ge ok_ge (de_len bl_len (de_var 6)) (de_glob gl_DEEPEST))))) (dss_one (ds_raise "NoTrial" ["way"] x_NoTrial (hr.mono l_x_NoTrial) (dd_cons (de_tup dd_nil) dd_nil))) dss_nil) (dss_cons (ds_if (dt_not (dt_v (de_call [false, false] c_is_so (hr.mono l_is_so) (da_cons (de_var 0) (da_cons (de_var 5) da_nil))))) (dss_one (ds_expr (de_append (de_var 4) (dd_cons (de_var 6) dd_nil)))) dss_nil) (dss_one (ds_for passes_cx (di_enum bl_enumerate (so_exp (de_call [false] c_inner (hr.mono l_inner) (da_cons (de_var 5) da_nil)))) (dg_tup (dgs_cons (dg_name 7 nd) (dgs_cons (dg_name 8 nd) dgs_nil))) (dss_one (ds_expr (de_append (de_var 2) (dd_cons (de_tup (dd_cons (de_var 8) (dd_cons (de_bin op_addAll ok_add (de_var 6) (de_tup (dd_cons (de_var 7) dd_nil))) dd_nil))) dd_nil))))))))))) (dss_one (ds_if (dt_cmp (ne8 hu) ok_ne (de_var 4) (de_lst dd_nil)) (dss_one (ds_raise "NoTrial" ["way"] x_NoTrial (hr.mono l_x_NoTrial) (dd_cons (de_minL bl_min (de_var 4)) dd_nil))) dss_nil))))))⟩
theorem sc_signs_of : FnScope ["trial", "part", "word"] ["trial"] (defScope s_signs_of) := ⟨rfl, rfl, rfl, by decide +kernel, rfl, by decide +kernel, by decide +kernel⟩
theorem der_signs_of {P : Program} {w : World} {K : PySem.W.Frag} {mg : Str → Option Value} {base : Heap} {tb : Tb} {f : Addr} {cdv : Value} {A : Around} {outer : List Env} {s : Shared} {H : Hp} {E : XK} {k : Nat}
    
    (hr : Room k (A.deeper (envOfC "signs_of" (defScope s_signs_of) s.heap.objs.size f cdv))) :
    ∃ Sw, DSs (cxOf (L2.CX P w) P w K mg base ["trial", "part", "word"] "signs_of" (defScope s_signs_of) f cdv A outer s H E) tb (defBody s_signs_of) Sw (b_tsigns) :=
  have nd := sc_signs_of.nd
  have hu := room8 hr
  ⟨_, (dss_cons (ds_if (dt_cmp (eq8 hu) ok_eq (de_ix hu (de_var 0) de_int) (de_str [116, 101, 108, 108])) (dss_one (ds_ret (de_bin op_addAll ok_add (de_lst (dd_cons (de_tup (dd_cons (de_str [97, 115, 107]) (dd_cons (de_ix hu (de_var 0) de_int) dd_nil))) dd_nil)) (de_comp [("word", 2), ("part", 1)] nd (di_seq (so_exp (de_ix hu (de_var 0) de_int))) (fun _ _ _ _ _ => (dg_tup (dgs_cons (dg_name 2 nd) (dgs_cons (dg_name 1 nd) dgs_nil)))) (fun _ _ _ _ _ => dts_nil) (fun _ _ _ _ _ => (de_tup (dd_cons (de_str [115, 97, 121]) (dd_cons (de_var 2) dd_nil)))))))) dss_nil) (dss_cons (ds_if (dt_cmp (eq8 hu) ok_eq (de_ix hu (de_var 0) de_int) (de_str [119, 97, 105, 116])) (dss_one (ds_ret (de_bin op_addAll ok_add (de_comp [("word", 2), ("part", 1)] nd (di_seq (so_exp (de_ix hu (de_var 0) de_int))) (fun _ _ _ _ _ => (dg_tup (dgs_cons (dg_name 2 nd) (dgs_cons (dg_name 1 nd) dgs_nil)))) (fun _ _ _ _ _ => dts_nil) (fun _ _ _ _ _ => (de_tup (dd_cons (de_str [115, 97, 121]) (dd_cons (de_var 2) dd_nil))))) (de_lst (dd_cons (de_tup (dd_cons (de_str [104, 117, 115, 104]) dd_nil)) dd_nil))))) dss_nil) (dss_one (ds_ret (de_lst dd_nil)))))⟩
theorem sc_leaves : FnScope ["model", "trial", "found", "due", "here", "way", "story", "some", "number", "sign", "part"] ["model", "trial"] (defScope s_leaves) := ⟨rfl, rfl, rfl, by decide +kernel, rfl, by decide +kernel, by decide +kernel⟩
theorem der_leaves {P : Program} {w : World} {K : PySem.W.Frag} {mg : Str → Option Value} {base : Heap} {tb : Tb} {f : Addr} {cdv : Value} {A : Around} {outer : List Env} {s : Shared} {H : Hp} {E : XK} {k : Nat}
    {φ_need_trial : SpD} {k_need_trial : Nat} {φ_inner : SpD} {k_inner : Nat} {φ_signs_of : SpD} {k_signs_of : Nat} (c_need_trial : Cal P w K mg base tb "need_trial" k_need_trial φ_need_trial) (c_inner : Cal P w K mg base tb "inner" k_inner φ_inner) (bl_list : Bl mg "list" (.type "list")) (bl_enumerate : Bl mg "enumerate" (.type "enumerate")) (bl_zip : Bl mg "zip" (.type "zip")) (c_signs_of : Cal P w K mg base tb "signs_of" k_signs_of φ_signs_of) (bl_sorted : Bl mg "sorted" (.builtin "sorted")) (l_need_trial : k_need_trial ≤ k) (l_inner : k_inner ≤ k) (l_signs_of : k_signs_of ≤ k)
    (hr : Room k (A.deeper (envOfC "leaves" (defScope s_leaves) s.heap.objs.size f cdv))) :
    ∃ Sw, DSs (cxOf (L2.CX P w) P w K mg base ["model", "trial", "found", "due", "here", "way", "story", "some", "number", "sign", "part"] "leaves" (defScope s_leaves) f cdv A outer s H E) tb (defBody s_leaves) Sw (b_leaves φ_need_trial φ_inner φ_signs_of) :=
  have nd := sc_leaves.nd
  have hu := room8 hr
  ⟨_, (dss_cons (ds_expr (de_call [false, true] c_need_trial (hr.mono l_need_trial) (da_cons (de_var 0) (da_cons (de_var 1) da_nil)))) (dss_cons (ds_set 2 nd (de_lst dd_nil)) (dss_cons (ds_set 3 nd (de_lst (dd_cons (de_tup (dd_cons (de_var 1) (dd_cons (de_tup dd_nil) (dd_cons (de_tup dd_nil) dd_nil)))) dd_nil))) (dss_cons (ds_while passes_cx (dt_cmp (ne8 hu) ok_ne (de_var 3) (de_lst dd_nil)) (dss_cons (ds_unp (dg_tup (dgs_cons (dg_name 4 nd) (dgs_cons (dg_name 5 nd) (dgs_cons (dg_name 6 nd) dgs_nil)))) (de_pop (de_var 3))) (dss_cons (ds_set 7 nd (de_call [false] c_inner (hr.mono l_inner) (da_cons (de_var 4) da_nil))) (dss_cons (ds_if (dt_cmp (eq8 hu) ok_eq (de_var 7) (de_lst dd_nil)) (dss_one (ds_expr (de_append (de_var 2) (dd_cons (de_tup (dd_cons (de_var 5) (dd_cons (de_list bl_list (de_var 6)) (dd_cons (de_ix hu (de_var 4) de_int) dd_nil)))) dd_nil)))) dss_nil) (dss_one (ds_forEZ passes_cx bl_enumerate bl_zip (so_exp (de_call [false] c_signs_of (hr.mono l_signs_of) (da_cons (de_var 4) da_nil))) (so_var 7 (de_var 7)) (dg_tup (dgs_cons (dg_name 8 nd) (dgs_cons (dg_tup (dgs_cons (dg_name 9 nd) (dgs_cons (dg_name 10 nd) dgs_nil))) dgs_nil))) (dss_one (ds_expr (de_append (de_var 3) (dd_cons (de_tup (dd_cons (de_var 10) (dd_cons (de_bin op_addAll ok_add (de_var 5) (de_tup (dd_cons (de_var 8) dd_nil))) (dd_cons (de_bin op_addAll ok_add (de_var 6) (de_tup (dd_cons (de_var 9) dd_nil))) dd_nil)))) dd_nil)))))))))) (dss_one (ds_ret (de_sortedD hu bl_sorted (de_var 2))))))))⟩
theorem sc_is_name : FnScope ["word", "sign"] ["word"] (defScope s_is_name) := ⟨rfl, rfl, rfl, by decide +kernel, rfl, by decide +kernel, by decide +kernel⟩
theorem der_is_name {P : Program} {w : World} {K : PySem.W.Frag} {mg : Str → Option Value} {base : Heap} {tb : Tb} {f : Addr} {cdv : Value} {A : Around} {outer : List Env} {s : Shared} {H : Hp} {E : XK} {k : Nat}
    (bl_len : Bl mg "len" (.builtin "len")) (gl_LETTERS : GlV mg K "LETTERS" (.str [97, 98, 99, 100, 101, 102, 103, 104, 105, 106, 107, 108, 109, 110, 111, 112, 113, 114, 115, 116, 117, 118, 119, 120, 121, 122])) (bl_all : Bl mg "all" (.builtin "all"))
    (hr : Room k (A.deeper (envOfC "is_name" (defScope s_is_name) s.heap.objs.size f cdv))) :
    ∃ Sw, DSs (cxOf (L2.CX P w) P w K mg base ["word", "sign"] "is_name" (defScope s_is_name) f cdv A outer s H E) tb (defBody s_is_name) Sw (b_is_name) :=
  have nd := sc_is_name.nd
  have hu := room8 hr
  ⟨_, (dss_cons (ds_if (DW.dt (dw_or (dt_cmp (op_ltA hu) ok_lt (de_len bl_len (de_var 0)) de_int) (dw_or1 (dt_cmp (op_gtA hu) ok_gt (de_len bl_len (de_var 0)) de_int)))) (dss_one (ds_ret de_bl)) dss_nil) (dss_one (ds_ret (de_all bl_all (de_comp [("sign", 1)] nd (di_str (de_var 0)) (fun _ _ _ _ _ => (dg_name 1 nd)) (fun _ _ _ _ _ => dts_nil) (fun _ _ _ _ _ => (de_cmp (op_inAll hu) ok_in (de_var 1) (de_glob gl_LETTERS))))))))⟩
theorem sc_need_names : FnScope ["part", "words", "most", "others", "seen", "number", "word"] ["part", "words", "most", "others"] (defScope s_need_names) := ⟨rfl, rfl, rfl, by decide +kernel, rfl, by decide +kernel, by decide +kernel⟩
theorem der_need_names {P : Program} {w : World} {K : PySem.W.Frag} {mg : Str → Option Value} {base : Heap} {tb : Tb} {f : Addr} {cdv : Value} {A : Around} {outer : List Env} {s : Shared} {H : Hp} {E : XK} {k : Nat}
    {φ_is_name : SpD} {k_is_name : Nat} {k_x_NoMachine : Nat} (x_NoMachine : CalX P w K mg base tb "NoMachine" "NoMachine" ["part", "number"] k_x_NoMachine) (bl_enumerate : Bl mg "enumerate" (.type "enumerate")) (c_is_name : Cal P w K mg base tb "is_name" k_is_name φ_is_name) (bl_len : Bl mg "len" (.builtin "len")) (l_x_NoMachine : k_x_NoMachine + 1 ≤ k) (l_is_name : k_is_name ≤ k)
    (hr : Room k (A.deeper (envOfC "need_names" (defScope s_need_names) s.heap.objs.size f cdv))) :
    ∃ Sw, DSs (cxOf (L2.CX P w) P w K mg base ["part", "words", "most", "others", "seen", "number", "word"] "need_names" (defScope s_need_names) f cdv A outer s H E) tb (defBody s_need_names) Sw (b_need_names φ_is_name) :=
  have nd := sc_need_names.nd
  have hu := room8 hr
  ⟨_, (dss_cons (ds_if (dt_cmp (eq8 hu) ok_eq (de_var 1) (de_lst dd_nil)) (dss_one (ds_raise "NoMachine" ["part", "number"] x_NoMachine (hr.mono l_x_NoMachine) (dd_cons (de_var 0) (dd_cons de_int dd_nil)))) dss_nil) (dss_cons (ds_set 4 nd (de_dic false)) (dss_cons (ds_for passes_cx (di_enum bl_enumerate (so_exp (de_cut (de_var 1) do_none (do_some (de_var 2))))) (dg_tup (dgs_cons (dg_name 5 nd) (dgs_cons (dg_name 6 nd) dgs_nil))) (dss_cons (ds_if (DW.dt (dw_or (dt_not (dt_v (de_call [false] c_is_name (hr.mono l_is_name) (da_cons (de_var 6) da_nil)))) (dw_or (dt_cmp (op_inAll hu) ok_in (de_var 6) (de_var 4)) (dw_or1 (dt_cmp (op_inAll hu) ok_in (de_var 6) (de_var 3)))))) (dss_one (ds_raise "NoMachine" ["part", "number"] x_NoMachine (hr.mono l_x_NoMachine) (dd_cons (de_var 0) (dd_cons (de_var 5) dd_nil)))) dss_nil) (dss_one (ds_setIx hu (de_var 4) (de_var 6) de_bl)))) (dss_one (ds_if (dt_cmp (op_gtA hu) ok_gt (de_len bl_len (de_var 1)) (de_var 2)) (dss_one (ds_raise "NoMachine" ["part", "number"] x_NoMachine (hr.mono l_x_NoMachine) (dd_cons (de_var 0) (dd_cons (de_var 2) dd_nil)))) dss_nil)))))⟩
theorem sc_is_sign_of : FnScope ["sign", "asks", "says"] ["sign", "asks", "says"] (defScope s_is_sign_of) := ⟨rfl, rfl, rfl, by decide +kernel, rfl, by decide +kernel, by decide +kernel⟩
theorem der_is_sign_of {P : Program} {w : World} {K : PySem.W.Frag} {mg : Str → Option Value} {base : Heap} {tb : Tb} {f : Addr} {cdv : Value} {A : Around} {outer : List Env} {s : Shared} {H : Hp} {E : XK} {k : Nat}
    (bl_len : Bl mg "len" (.builtin "len"))
    (hr : Room k (A.deeper (envOfC "is_sign_of" (defScope s_is_sign_of) s.heap.objs.size f cdv))) :
    ∃ Sw, DSs (cxOf (L2.CX P w) P w K mg base ["sign", "asks", "says"] "is_sign_of" (defScope s_is_sign_of) f cdv A outer s H E) tb (defBody s_is_sign_of) Sw (b_is_sign_of) :=
  have nd := sc_is_sign_of.nd
  have hu := room8 hr
  ⟨_, (dss_cons (ds_if (dt_cmp (eq8 hu) ok_eq (de_len bl_len (de_var 0)) de_int) (dss_one (ds_ret (de_cmp (eq8 hu) ok_eq (de_ix hu (de_var 0) de_int) (de_str [115, 116, 105, 108, 108])))) dss_nil) (dss_cons (ds_if (dt_cmp (eq8 hu) ok_eq (de_ix hu (de_var 0) de_int) (de_str [97, 115, 107])) (dss_one (ds_ret (de_cmp (op_inAll hu) ok_in (de_ix hu (de_var 0) de_int) (de_var 1)))) dss_nil) (dss_one (ds_ret (de_and (de_cmp (eq8 hu) ok_eq (de_ix hu (de_var 0) de_int) (de_str [115, 97, 121])) (de_one (de_cmp (op_inAll hu) ok_in (de_ix hu (de_var 0) de_int) (de_var 2))))))))⟩
theorem sc_need_doors : FnScope ["doors", "asks", "says", "rooms", "seen", "number", "room", "sign", "other", "good"] ["doors", "asks", "says", "rooms"] (defScope s_need_doors) := ⟨rfl, rfl, rfl, by decide +kernel, rfl, by decide +kernel, by decide +kernel⟩
theorem der_need_doors {P : Program} {w : World} {K : PySem.W.Frag} {mg : Str → Option Value} {base : Heap} {tb : Tb} {f : Addr} {cdv : Value} {A : Around} {outer : List Env} {s : Shared} {H : Hp} {E : XK} {k : Nat}
    {φ_is_sign_of : SpD} {k_is_sign_of : Nat} (bl_enumerate : Bl mg "enumerate" (.type "enumerate")) (gl_MOST_DOORS : GlV mg K "MOST_DOORS" (.int 2000)) (c_is_sign_of : Cal P w K mg base tb "is_sign_of" k_is_sign_of φ_is_sign_of) {k_x_NoMachine : Nat} (x_NoMachine : CalX P w K mg base tb "NoMachine" "NoMachine" ["part", "number"] k_x_NoMachine) (bl_len : Bl mg "len" (.builtin "len")) (l_is_sign_of : k_is_sign_of ≤ k) (l_x_NoMachine : k_x_NoMachine + 1 ≤ k)
    (hr : Room k (A.deeper (envOfC "need_doors" (defScope s_need_doors) s.heap.objs.size f cdv))) :
    ∃ Sw, DSs (cxOf (L2.CX P w) P w K mg base ["doors", "asks", "says", "rooms", "seen", "number", "room", "sign", "other", "good"] "need_doors" (defScope s_need_doors) f cdv A outer s H E) tb (defBody s_need_doors) Sw (b_need_doors φ_is_sign_of) :=
  have nd := sc_need_doors.nd
  have hu := room8 hr
  ⟨_, (dss_cons (ds_set 4 nd (de_dic true)) (dss_cons (ds_for passes_cx (di_enum bl_enumerate (so_exp (de_cut (de_var 0) do_none (do_some (de_glob gl_MOST_DOORS))))) (dg_tup (dgs_cons (dg_name 5 nd) (dgs_cons (dg_tup (dgs_cons (dg_name 6 nd) (dgs_cons (dg_name 7 nd) (dgs_cons (dg_name 8 nd) dgs_nil)))) dgs_nil))) (dss_cons (ds_set 9 nd (de_and (de_cmp (op_inAll hu) ok_in (de_var 6) (de_var 3)) (de_and (de_cmp (op_inAll hu) ok_in (de_var 8) (de_var 3)) (de_one (de_call [false, false, false] c_is_sign_of (hr.mono l_is_sign_of) (da_cons (de_var 7) (da_cons (de_var 1) (da_cons (de_var 2) da_nil)))))))) (dss_cons (ds_if (DW.dt (dw_or (dt_not (dt_v (de_var 9))) (dw_or1 (dt_cmp (op_inAll hu) ok_in (de_tup (dd_cons (de_var 6) (dd_cons (de_var 7) (dd_cons (de_var 8) dd_nil)))) (de_var 4))))) (dss_one (ds_raise "NoMachine" ["part", "number"] x_NoMachine (hr.mono l_x_NoMachine) (dd_cons (de_str [100, 111, 111, 114, 115]) (dd_cons (de_var 5) dd_nil)))) dss_nil) (dss_one (ds_setIx hu (de_var 4) (de_tup (dd_cons (de_var 6) (dd_cons (de_var 7) (dd_cons (de_var 8) dd_nil)))) de_bl))))) (dss_one (ds_if (dt_cmp (op_gtA hu) ok_gt (de_len bl_len (de_var 0)) (de_glob gl_MOST_DOORS)) (dss_one (ds_raise "NoMachine" ["part", "number"] x_NoMachine (hr.mono l_x_NoMachine) (dd_cons (de_str [100, 111, 111, 114, 115]) (dd_cons (de_glob gl_MOST_DOORS) dd_nil)))) dss_nil))))⟩
theorem sc_Machine___init__ : FnScope ["self", "asks", "says", "rooms", "doors", "room", "door", "number"] ["self", "asks", "says", "rooms", "doors"] (defScope s_Machine___init__) := ⟨rfl, rfl, rfl, by decide +kernel, rfl, by decide +kernel, by decide +kernel⟩
theorem der_Machine___init__ {P : Program} {w : World} {K : PySem.W.Frag} {mg : Str → Option Value} {base : Heap} {tb : Tb} {f : Addr} {cdv : Value} {A : Around} {outer : List Env} {s : Shared} {H : Hp} {E : XK} {k : Nat}
    {φ_need_names : SpD} {k_need_names : Nat} {φ_need_doors : SpD} {k_need_doors : Nat} {φ_Machine_comes_round : SpD} {k_Machine_comes_round : Nat} (c_need_names : Cal P w K mg base tb "need_names" k_need_names φ_need_names) (gl_MOST_WORDS : GlV mg K "MOST_WORDS" (.int 4)) (gl_MOST_ROOMS : GlV mg K "MOST_ROOMS" (.int 150)) (in_Machine_ask_words : InsOk K tb "Machine" "ask_words") (bl_list : Bl mg "list" (.type "list")) (in_Machine_say_words : InsOk K tb "Machine" "say_words") (in_Machine_leading : InsOk K tb "Machine" "leading") (c_need_doors : Cal P w K mg base tb "need_doors" k_need_doors φ_need_doors) (in_Machine_all_doors : InsOk K tb "Machine" "all_doors") (bl_enumerate : Bl mg "enumerate" (.type "enumerate")) (m_Machine_comes_round : CalM P w K mg base tb "Machine" "comes_round" k_Machine_comes_round φ_Machine_comes_round) {k_x_NoMachine : Nat} (x_NoMachine : CalX P w K mg base tb "NoMachine" "NoMachine" ["part", "number"] k_x_NoMachine) (l_need_names : k_need_names ≤ k) (l_need_doors : k_need_doors ≤ k) (l_Machine_comes_round : k_Machine_comes_round ≤ k) (l_x_NoMachine : k_x_NoMachine + 1 ≤ k)
    (hr : Room k (A.deeper (envOfC "Machine.__init__" (defScope s_Machine___init__) s.heap.objs.size f cdv))) :
    ∃ Sw, DSs (cxOf (L2.CX P w) P w K mg base ["self", "asks", "says", "rooms", "doors", "room", "door", "number"] "Machine.__init__" (defScope s_Machine___init__) f cdv A outer s H E) tb (defBody s_Machine___init__) Sw (b_Machine___init__ φ_need_names φ_need_doors φ_Machine_comes_round) :=
  have nd := sc_Machine___init__.nd
  have hu := room8 hr
  ⟨_, (dss_cons (ds_expr (de_call [false, false, false, false] c_need_names (hr.mono l_need_names) (da_cons (de_str [97, 115, 107, 115]) (da_cons (de_var 1) (da_cons (de_glob gl_MOST_WORDS) (da_cons (de_lst dd_nil) da_nil)))))) (dss_cons (ds_expr (de_call [false, false, false, false] c_need_names (hr.mono l_need_names) (da_cons (de_str [115, 97, 121, 115]) (da_cons (de_var 2) (da_cons (de_glob gl_MOST_WORDS) (da_cons (de_var 1) da_nil)))))) (dss_cons (ds_expr (de_call [false, false, false, false] c_need_names (hr.mono l_need_names) (da_cons (de_str [114, 111, 111, 109, 115]) (da_cons (de_var 3) (da_cons (de_glob gl_MOST_ROOMS) (da_cons (de_lst dd_nil) da_nil)))))) (dss_cons (ds_fld "Machine" "ask_words" in_Machine_ask_words (de_var 0) (de_list bl_list (de_var 1))) (dss_cons (ds_fld "Machine" "say_words" in_Machine_say_words (de_var 0) (de_list bl_list (de_var 2))) (dss_cons (ds_fld "Machine" "leading" in_Machine_leading (de_var 0) (de_dic false)) (dss_cons (ds_for passes_cx (di_seq (so_var 3 (de_var 3))) (dg_name 5 nd) (dss_one (ds_setIx hu (de_fld "Machine" "leading" in_Machine_leading (de_var 0)) (de_var 5) (de_lst dd_nil)))) (dss_cons (ds_expr (de_call [false, false, false, false] c_need_doors (hr.mono l_need_doors) (da_cons (de_var 4) (da_cons (de_var 1) (da_cons (de_var 2) (da_cons (de_fld "Machine" "leading" in_Machine_leading (de_var 0)) da_nil)))))) (dss_cons (ds_fld "Machine" "all_doors" in_Machine_all_doors (de_var 0) (de_list bl_list (de_var 4))) (dss_cons (ds_for passes_cx (di_seq (so_var 4 (de_var 4))) (dg_name 6 nd) (dss_one (ds_expr (de_append (de_ix hu (de_fld "Machine" "leading" in_Machine_leading (de_var 0)) (de_ix hu (de_var 6) de_int)) (dd_cons (de_var 6) dd_nil))))) (dss_one (ds_for passes_cx (di_enum bl_enumerate (so_var 3 (de_var 3))) (dg_tup (dgs_cons (dg_name 7 nd) (dgs_cons (dg_name 5 nd) dgs_nil))) (dss_one (ds_if (dt_v (de_meth "Machine" "comes_round" [true] m_Machine_comes_round (hr.mono l_Machine_comes_round) (de_var 0) (da_cons (de_var 5) da_nil))) (dss_one (ds_raise "NoMachine" ["part", "number"] x_NoMachine (hr.mono l_x_NoMachine) (dd_cons (de_str [115, 116, 105, 108, 108]) (dd_cons (de_var 7) dd_nil)))) dss_nil))))))))))))))⟩
theorem sc_Machine_comes_round : FnScope ["self", "room", "seen", "due", "here", "door"] ["self", "room"] (defScope s_Machine_comes_round) := ⟨rfl, rfl, rfl, by decide +kernel, rfl, by decide +kernel, by decide +kernel⟩
theorem der_Machine_comes_round {P : Program} {w : World} {K : PySem.W.Frag} {mg : Str → Option Value} {base : Heap} {tb : Tb} {f : Addr} {cdv : Value} {A : Around} {outer : List Env} {s : Shared} {H : Hp} {E : XK} {k : Nat}
    (in_Machine_leading : InsOk K tb "Machine" "leading")
    (hr : Room k (A.deeper (envOfC "Machine.comes_round" (defScope s_Machine_comes_round) s.heap.objs.size f cdv))) :
    ∃ Sw, DSs (cxOf (L2.CX P w) P w K mg base ["self", "room", "seen", "due", "here", "door"] "Machine.comes_round" (defScope s_Machine_comes_round) f cdv A outer s H E) tb (defBody s_Machine_comes_round) Sw (b_Machine_comes_round) :=
  have nd := sc_Machine_comes_round.nd
  have hu := room8 hr
  ⟨_, (dss_cons (ds_set 2 nd (de_dic false)) (dss_cons (ds_set 3 nd (de_lst (dd_cons (de_var 1) dd_nil))) (dss_cons (ds_while passes_cx (dt_cmp (ne8 hu) ok_ne (de_var 3) (de_lst dd_nil)) (dss_cons (ds_set 4 nd (de_pop (de_var 3))) (dss_one (ds_for passes_cx (di_seq (so_exp (de_ix hu (de_fld "Machine" "leading" in_Machine_leading (de_var 0)) (de_var 4)))) (dg_name 5 nd) (dss_cons (ds_if (DW.dt (dw_and (dt_cmp (eq8 hu) ok_eq (de_ix hu (de_var 5) de_int) (de_tup (dd_cons (de_str [115, 116, 105, 108, 108]) dd_nil))) (dw_and1 (dt_cmp (eq8 hu) ok_eq (de_ix hu (de_var 5) de_int) (de_var 1))))) (dss_one (ds_ret de_bl)) dss_nil) (dss_one (ds_if (DW.dt (dw_and (dt_cmp (eq8 hu) ok_eq (de_ix hu (de_var 5) de_int) (de_tup (dd_cons (de_str [115, 116, 105, 108, 108]) dd_nil))) (dw_and1 (dt_cmp (op_ninAll hu) ok_nin (de_ix hu (de_var 5) de_int) (de_var 2))))) (dss_cons (ds_setIx hu (de_var 2) (de_ix hu (de_var 5) de_int) de_bl) (dss_one (ds_expr (de_append (de_var 3) (dd_cons (de_ix hu (de_var 5) de_int) dd_nil))))) dss_nil))))))) (dss_one (ds_ret de_bl)))))⟩
theorem sc_Machine_asks : FnScope ["self"] ["self"] (defScope s_Machine_asks) := ⟨rfl, rfl, rfl, by decide +kernel, rfl, by decide +kernel, by decide +kernel⟩
theorem der_Machine_asks {P : Program} {w : World} {K : PySem.W.Frag} {mg : Str → Option Value} {base : Heap} {tb : Tb} {f : Addr} {cdv : Value} {A : Around} {outer : List Env} {s : Shared} {H : Hp} {E : XK} {k : Nat}
    (in_Machine_ask_words : InsOk K tb "Machine" "ask_words") (bl_list : Bl mg "list" (.type "list"))
    (hr : Room k (A.deeper (envOfC "Machine.asks" (defScope s_Machine_asks) s.heap.objs.size f cdv))) :
    ∃ Sw, DSs (cxOf (L2.CX P w) P w K mg base ["self"] "Machine.asks" (defScope s_Machine_asks) f cdv A outer s H E) tb (defBody s_Machine_asks) Sw (b_Machine_asks) :=
  have nd := sc_Machine_asks.nd
  have hu := room8 hr
  ⟨_, (dss_one (ds_ret (de_list bl_list (de_fld "Machine" "ask_words" in_Machine_ask_words (de_var 0)))))⟩
theorem sc_Machine_says : FnScope ["self"] ["self"] (defScope s_Machine_says) := ⟨rfl, rfl, rfl, by decide +kernel, rfl, by decide +kernel, by decide +kernel⟩
theorem der_Machine_says {P : Program} {w : World} {K : PySem.W.Frag} {mg : Str → Option Value} {base : Heap} {tb : Tb} {f : Addr} {cdv : Value} {A : Around} {outer : List Env} {s : Shared} {H : Hp} {E : XK} {k : Nat}
    (in_Machine_say_words : InsOk K tb "Machine" "say_words") (bl_list : Bl mg "list" (.type "list"))
    (hr : Room k (A.deeper (envOfC "Machine.says" (defScope s_Machine_says) s.heap.objs.size f cdv))) :
    ∃ Sw, DSs (cxOf (L2.CX P w) P w K mg base ["self"] "Machine.says" (defScope s_Machine_says) f cdv A outer s H E) tb (defBody s_Machine_says) Sw (b_Machine_says) :=
  have nd := sc_Machine_says.nd
  have hu := room8 hr
  ⟨_, (dss_one (ds_ret (de_list bl_list (de_fld "Machine" "say_words" in_Machine_say_words (de_var 0)))))⟩
theorem sc__law_spread : FnScope ["cell", "at", "one", "two", "three"] ["cell", "at"] (defScope s__law_spread) := ⟨rfl, rfl, rfl, by decide +kernel, rfl, by decide +kernel, by decide +kernel⟩
theorem der__law_spread {P : Program} {w : World} {K : PySem.W.Frag} {mg : Str → Option Value} {base : Heap} {tb : Tb} {f : Addr} {cdv : Value} {A : Around} {outer : List Env} {s : Shared} {H : Hp} {E : XK} {k : Nat}
    
    (hr : Room k (A.deeper (envOfC "_law_spread" (defScope s__law_spread) s.heap.objs.size f cdv))) :
    ∃ Sw, DSs (cxOf (L2.CX P w) P w K mg base ["cell", "at", "one", "two", "three"] "_law_spread" (defScope s__law_spread) f cdv A outer s H E) tb (defBody s__law_spread) Sw (b__law_spread) :=
  have nd := sc__law_spread.nd
  have hu := room8 hr
  ⟨_, (dss_cons (ds_if (dt_cmp op_ge ok_ge (de_var 0) (de_bin op_pow ok_pow de_int de_int)) (dss_one (ds_ret (de_var 0))) dss_nil) (dss_cons (ds_set 2 nd (de_bin op_mod ok_mod (de_bin op_addAll ok_add (de_bin op_addAll ok_add (de_bin op_mulAll ok_mul (de_bin op_mod ok_mod (de_var 0) de_int) de_int) (de_bin op_mulAll ok_mul (de_var 1) de_int)) de_int) de_int)) (dss_cons (ds_set 3 nd (de_bin op_mod ok_mod (de_bin op_addAll ok_add (de_bin op_addAll ok_add (de_bin op_mulAll ok_mul (de_var 2) (de_var 2)) (de_bin op_mulAll ok_mul (de_var 1) de_int)) (de_bin op_mod ok_mod (de_var 0) de_int)) de_int)) (dss_cons (ds_set 4 nd (de_bin op_mod ok_mod (de_bin op_addAll ok_add (de_bin op_addAll ok_add (de_bin op_mulAll ok_mul (de_var 3) (de_var 3)) (de_bin op_mulAll ok_mul (de_var 2) de_int)) de_int) de_int)) (dss_one (ds_ret (de_bin op_addAll ok_add (de_bin op_mulAll ok_mul (de_bin op_addAll ok_add (de_bin op_mulAll ok_mul (de_var 2) de_int) (de_var 3)) de_int) (de_var 4))))))))⟩
theorem sc__law_open : FnScope ["script", "cells", "k", "cell"] ["script"] (defScope s__law_open) := ⟨rfl, rfl, rfl, by decide +kernel, rfl, by decide +kernel, by decide +kernel⟩
theorem der__law_open {P : Program} {w : World} {K : PySem.W.Frag} {mg : Str → Option Value} {base : Heap} {tb : Tb} {f : Addr} {cdv : Value} {A : Around} {outer : List Env} {s : Shared} {H : Hp} {E : XK} {k : Nat}
    (bl_list : Bl mg "list" (.type "list")) (bl_enumerate : Bl mg "enumerate" (.type "enumerate"))
    (hr : Room k (A.deeper (envOfC "_law_open" (defScope s__law_open) s.heap.objs.size f cdv))) :
    ∃ Sw, DSs (cxOf (L2.CX P w) P w K mg base ["script", "cells", "k", "cell"] "_law_open" (defScope s__law_open) f cdv A outer s H E) tb (defBody s__law_open) Sw (b__law_open) :=
  have nd := sc__law_open.nd
  have hu := room8 hr
  ⟨_, (dss_cons (ds_set 1 nd (de_list bl_list (de_cut (de_var 0) do_none (do_some de_int)))) (dss_cons (ds_for passes_cx (di_enum bl_enumerate (so_exp (de_cut (de_var 0) (do_some de_int) (do_some de_int)))) (dg_tup (dgs_cons (dg_name 2 nd) (dgs_cons (dg_name 3 nd) dgs_nil))) (dss_one (ds_setIx hu (de_var 1) (de_bin op_mod ok_mod (de_var 2) de_int) (de_bin op_addAll ok_add (de_ix hu (de_var 1) (de_bin op_mod ok_mod (de_var 2) de_int)) (de_var 3))))) (dss_one (ds_ret (de_lst (dd_cons (de_var 1) (dd_cons de_int (dd_cons de_int dd_nil))))))))⟩
theorem sc__law_anew : FnScope ["pen"] ["pen"] (defScope s__law_anew) := ⟨rfl, rfl, rfl, by decide +kernel, rfl, by decide +kernel, by decide +kernel⟩
theorem der__law_anew {P : Program} {w : World} {K : PySem.W.Frag} {mg : Str → Option Value} {base : Heap} {tb : Tb} {f : Addr} {cdv : Value} {A : Around} {outer : List Env} {s : Shared} {H : Hp} {E : XK} {k : Nat}
    
    (hr : Room k (A.deeper (envOfC "_law_anew" (defScope s__law_anew) s.heap.objs.size f cdv))) :
    ∃ Sw, DSs (cxOf (L2.CX P w) P w K mg base ["pen"] "_law_anew" (defScope s__law_anew) f cdv A outer s H E) tb (defBody s__law_anew) Sw (b__law_anew) :=
  have nd := sc__law_anew.nd
  have hu := room8 hr
  ⟨_, (dss_cons (ds_setIx hu (de_var 0) de_int de_int) (dss_one (ds_ret (de_var 0))))⟩
theorem sc__law_take : FnScope ["pen", "many", "at", "cell", "found"] ["pen", "many"] (defScope s__law_take) := ⟨rfl, rfl, rfl, by decide +kernel, rfl, by decide +kernel, by decide +kernel⟩
theorem der__law_take {P : Program} {w : World} {K : PySem.W.Frag} {mg : Str → Option Value} {base : Heap} {tb : Tb} {f : Addr} {cdv : Value} {A : Around} {outer : List Env} {s : Shared} {H : Hp} {E : XK} {k : Nat}
    {φ__law_spread : SpD} {k__law_spread : Nat} (bl_len : Bl mg "len" (.builtin "len")) (c__law_spread : Cal P w K mg base tb "_law_spread" k__law_spread φ__law_spread) (l__law_spread : k__law_spread ≤ k)
    (hr : Room k (A.deeper (envOfC "_law_take" (defScope s__law_take) s.heap.objs.size f cdv))) :
    ∃ Sw, DSs (cxOf (L2.CX P w) P w K mg base ["pen", "many", "at", "cell", "found"] "_law_take" (defScope s__law_take) f cdv A outer s H E) tb (defBody s__law_take) Sw (b__law_take φ__law_spread) :=
  have nd := sc__law_take.nd
  have hu := room8 hr
  ⟨_, (dss_cons (ds_if (dt_cmp (op_ltA hu) ok_lt (de_ix hu (de_var 0) de_int) (de_var 1)) (dss_cons (ds_set 2 nd (de_ix hu (de_var 0) de_int)) (dss_cons (ds_set 3 nd de_int) (dss_cons (ds_if (dt_cmp (op_ltA hu) ok_lt (de_var 2) (de_len bl_len (de_ix hu (de_var 0) de_int))) (dss_one (ds_set 3 nd (de_ix hu (de_ix hu (de_var 0) de_int) (de_var 2)))) (dss_one (ds_if (dt_cmp (op_gtA hu) ok_gt (de_len bl_len (de_ix hu (de_var 0) de_int)) de_int) (dss_one (ds_set 3 nd (de_bin op_mod ok_mod (de_ix hu (de_ix hu (de_var 0) de_int) (de_bin op_mod ok_mod (de_bin op_addAll ok_add (de_bin op_mulAll ok_mul (de_var 2) de_int) de_int) (de_len bl_len (de_ix hu (de_var 0) de_int)))) (de_bin op_addAll ok_add (de_bin op_pow ok_pow de_int de_int) (de_var 2))))) dss_nil))) (dss_cons (ds_setIx hu (de_var 0) de_int (de_bin op_addAll ok_add (de_var 2) de_int)) (dss_one (ds_setIx hu (de_var 0) de_int (de_call [true, false] c__law_spread (hr.mono l__law_spread) (da_cons (de_var 3) (da_cons (de_var 2) da_nil))))))))) dss_nil) (dss_cons (ds_set 4 nd (de_bin op_mod ok_mod (de_ix hu (de_var 0) de_int) (de_var 1))) (dss_cons (ds_setIx hu (de_var 0) de_int (de_bin op_fdiv ok_div (de_ix hu (de_var 0) de_int) (de_var 1))) (dss_one (ds_ret (de_var 4))))))⟩
theorem sc__law_names : FnScope ["pen", "many", "letters", "base", "way", "turn", "size", "found", "k", "sign", "part", "at"] ["pen", "many"] (defScope s__law_names) := ⟨rfl, rfl, rfl, by decide +kernel, rfl, by decide +kernel, by decide +kernel⟩
theorem der__law_names {P : Program} {w : World} {K : PySem.W.Frag} {mg : Str → Option Value} {base : Heap} {tb : Tb} {f : Addr} {cdv : Value} {A : Around} {outer : List Env} {s : Shared} {H : Hp} {E : XK} {k : Nat}
    {φ__law_take : SpD} {k__law_take : Nat} (bl_range : Bl mg "range" (.type "range")) (c__law_take : Cal P w K mg base tb "_law_take" k__law_take φ__law_take) (bl_len : Bl mg "len" (.builtin "len")) (l__law_take : k__law_take ≤ k)
    (hr : Room k (A.deeper (envOfC "_law_names" (defScope s__law_names) s.heap.objs.size f cdv))) :
    ∃ Sw, DSs (cxOf (L2.CX P w) P w K mg base ["pen", "many", "letters", "base", "way", "turn", "size", "found", "k", "sign", "part", "at"] "_law_names" (defScope s__law_names) f cdv A outer s H E) tb (defBody s__law_names) Sw (b__law_names φ__law_take) :=
  have nd := sc__law_names.nd
  have hu := room8 hr
  ⟨_, (dss_cons (ds_set 2 nd (de_str [97, 98, 99, 100, 101, 102, 103, 104, 105, 106, 107, 108, 109, 110, 111, 112, 113, 114, 115, 116, 117, 118, 119, 120, 121, 122])) (dss_cons (ds_set 3 nd (de_join [] (de_comp [("k", 8)] nd (di_range bl_range de_int) (fun _ _ _ _ _ => (dg_name 8 nd)) (fun _ _ _ _ _ => dts_nil) (fun _ _ _ _ _ => (de_ix hu (de_var 2) (de_call [true, false] c__law_take (hr.mono l__law_take) (da_cons (de_var 0) (da_cons de_int da_nil)))))))) (dss_cons (ds_set 4 nd (de_call [true, false] c__law_take (hr.mono l__law_take) (da_cons (de_var 0) (da_cons de_int da_nil)))) (dss_cons (ds_set 5 nd (de_call [true, false] c__law_take (hr.mono l__law_take) (da_cons (de_var 0) (da_cons de_int da_nil)))) (dss_cons (ds_set 6 nd (de_call [true, false] c__law_take (hr.mono l__law_take) (da_cons (de_var 0) (da_cons de_int da_nil)))) (dss_cons (ds_set 7 nd (de_lst dd_nil)) (dss_cons (ds_for passes_cx (di_range bl_range (de_var 1)) (dg_name 8 nd) (dss_cons (ds_set 9 nd (de_ix hu (de_var 2) (de_bin op_mod ok_mod (de_bin op_addAll ok_add (de_var 5) (de_bin op_mulAll ok_mul de_int (de_var 8))) de_int))) (dss_cons (ds_set 10 nd (de_cut (de_var 3) do_none (do_some (de_bin op_mod ok_mod (de_bin op_addAll ok_add (de_var 6) (de_bin op_mulAll ok_mul (de_var 8) (de_bin op_mod ok_mod (de_var 4) de_int))) de_int)))) (dss_cons (ds_set 11 nd (de_ix hu (de_lst (dd_cons de_int (dd_cons (de_len bl_len (de_var 10)) (dd_cons (de_bin op_fdiv ok_div (de_len bl_len (de_var 10)) de_int) dd_nil)))) (de_var 4))) (dss_one (ds_expr (de_append (de_var 7) (dd_cons (de_bin op_addAll ok_add (de_bin op_addAll ok_add (de_cut (de_var 10) do_none (do_some (de_var 11))) (de_var 9)) (de_cut (de_var 10) (do_some (de_var 11)) do_none)) dd_nil)))))))) (dss_one (ds_ret (de_var 7))))))))))⟩
theorem sc__law_still_on : FnScope ["doors", "rooms", "found", "at", "room", "sign", "other"] ["doors", "rooms"] (defScope s__law_still_on) := ⟨rfl, rfl, rfl, by decide +kernel, rfl, by decide +kernel, by decide +kernel⟩
theorem der__law_still_on {P : Program} {w : World} {K : PySem.W.Frag} {mg : Str → Option Value} {base : Heap} {tb : Tb} {f : Addr} {cdv : Value} {A : Around} {outer : List Env} {s : Shared} {H : Hp} {E : XK} {k : Nat}
    (bl_list : Bl mg "list" (.type "list")) (bl_len : Bl mg "len" (.builtin "len"))
    (hr : Room k (A.deeper (envOfC "_law_still_on" (defScope s__law_still_on) s.heap.objs.size f cdv))) :
    ∃ Sw, DSs (cxOf (L2.CX P w) P w K mg base ["doors", "rooms", "found", "at", "room", "sign", "other"] "_law_still_on" (defScope s__law_still_on) f cdv A outer s H E) tb (defBody s__law_still_on) Sw (b__law_still_on) :=
  have nd := sc__law_still_on.nd
  have hu := room8 hr
  ⟨_, (dss_cons (ds_set 2 nd (de_list bl_list (de_var 1))) (dss_cons (ds_set 3 nd de_int) (dss_cons (ds_while passes_cx (dt_cmp (op_ltA hu) ok_lt (de_var 3) (de_len bl_len (de_var 2))) (dss_cons (ds_for passes_cx (di_seq (so_var 0 (de_var 0))) (dg_tup (dgs_cons (dg_name 4 nd) (dgs_cons (dg_name 5 nd) (dgs_cons (dg_name 6 nd) dgs_nil)))) (dss_one (ds_if (DW.dt (dw_and (dt_cmp (eq8 hu) ok_eq (de_var 4) (de_ix hu (de_var 2) (de_var 3))) (dw_and (dt_cmp (eq8 hu) ok_eq (de_var 5) (de_tup (dd_cons (de_str [115, 116, 105, 108, 108]) dd_nil))) (dw_and1 (dt_cmp (op_ninAll hu) ok_nin (de_var 6) (de_var 2)))))) (dss_one (ds_expr (de_append (de_var 2) (dd_cons (de_var 6) dd_nil)))) dss_nil))) (dss_one (ds_set 3 nd (de_bin op_addAll ok_add (de_var 3) de_int))))) (dss_one (ds_ret (de_var 2))))))⟩
theorem sc__law_put : FnScope ["doors", "door"] ["doors", "door"] (defScope s__law_put) := ⟨rfl, rfl, rfl, by decide +kernel, rfl, by decide +kernel, by decide +kernel⟩
theorem der__law_put {P : Program} {w : World} {K : PySem.W.Frag} {mg : Str → Option Value} {base : Heap} {tb : Tb} {f : Addr} {cdv : Value} {A : Around} {outer : List Env} {s : Shared} {H : Hp} {E : XK} {k : Nat}
    
    (hr : Room k (A.deeper (envOfC "_law_put" (defScope s__law_put) s.heap.objs.size f cdv))) :
    ∃ Sw, DSs (cxOf (L2.CX P w) P w K mg base ["doors", "door"] "_law_put" (defScope s__law_put) f cdv A outer s H E) tb (defBody s__law_put) Sw (b__law_put) :=
  have nd := sc__law_put.nd
  have hu := room8 hr
  ⟨_, (dss_one (ds_if (dt_cmp (op_ninAll hu) ok_nin (de_var 1) (de_var 0)) (dss_one (ds_expr (de_append (de_var 0) (dd_cons (de_var 1) dd_nil)))) dss_nil))⟩
theorem sc__law_draw_doors : FnScope ["pen", "asks", "says", "rooms", "full", "doors", "down", "k", "room", "turn", "sign", "ask", "later"] ["pen", "asks", "says", "rooms", "full"] (defScope s__law_draw_doors) := ⟨rfl, rfl, rfl, by decide +kernel, rfl, by decide +kernel, by decide +kernel⟩
theorem der__law_draw_doors {P : Program} {w : World} {K : PySem.W.Frag} {mg : Str → Option Value} {base : Heap} {tb : Tb} {f : Addr} {cdv : Value} {A : Around} {outer : List Env} {s : Shared} {H : Hp} {E : XK} {k : Nat}
    {φ__law_take : SpD} {k__law_take : Nat} {φ__law_put : SpD} {k__law_put : Nat} (c__law_take : Cal P w K mg base tb "_law_take" k__law_take φ__law_take) (bl_enumerate : Bl mg "enumerate" (.type "enumerate")) (bl_range : Bl mg "range" (.type "range")) (bl_len : Bl mg "len" (.builtin "len")) (c__law_put : Cal P w K mg base tb "_law_put" k__law_put φ__law_put) (l__law_take : k__law_take ≤ k) (l__law_put : k__law_put ≤ k)
    (hr : Room k (A.deeper (envOfC "_law_draw_doors" (defScope s__law_draw_doors) s.heap.objs.size f cdv))) :
    ∃ Sw, DSs (cxOf (L2.CX P w) P w K mg base ["pen", "asks", "says", "rooms", "full", "doors", "down", "k", "room", "turn", "sign", "ask", "later"] "_law_draw_doors" (defScope s__law_draw_doors) f cdv A outer s H E) tb (defBody s__law_draw_doors) Sw (b__law_draw_doors φ__law_take φ__law_put) :=
  have nd := sc__law_draw_doors.nd
  have hu := room8 hr
  ⟨_, (dss_cons (ds_set 5 nd (de_lst dd_nil)) (dss_cons (ds_set 6 nd (de_call [true, false] c__law_take (hr.mono l__law_take) (da_cons (de_var 0) (da_cons de_int da_nil)))) (dss_cons (ds_for passes_cx (di_enum bl_enumerate (so_var 3 (de_var 3))) (dg_tup (dgs_cons (dg_name 7 nd) (dgs_cons (dg_name 8 nd) dgs_nil))) (dss_cons (ds_for passes_cx (di_range bl_range (de_ix hu (de_lst (dd_cons de_int (dd_cons de_int (dd_cons de_int (dd_cons de_int dd_nil))))) (de_call [true, false] c__law_take (hr.mono l__law_take) (da_cons (de_var 0) (da_cons de_int da_nil))))) (dg_name 9 nd) (dss_cons (ds_set 10 nd (de_tup (dd_cons (de_str [115, 97, 121]) (dd_cons (de_ix hu (de_var 2) (de_call [true, false] c__law_take (hr.mono l__law_take) (da_cons (de_var 0) (da_cons (de_len bl_len (de_var 2)) da_nil)))) dd_nil)))) (dss_one (ds_expr (de_call [true, true] c__law_put (hr.mono l__law_put) (da_cons (de_var 5) (da_cons (de_tup (dd_cons (de_var 8) (dd_cons (de_var 10) (dd_cons (de_ix hu (de_var 3) (de_call [true, false] c__law_take (hr.mono l__law_take) (da_cons (de_var 0) (da_cons (de_len bl_len (de_var 3)) da_nil)))) dd_nil)))) da_nil))))))) (dss_cons (ds_for passes_cx (di_seq (so_var 1 (de_var 1))) (dg_name 11 nd) (dss_one (ds_for passes_cx (di_range bl_range (de_ix hu (de_lst (dd_cons (de_var 4) (dd_cons de_int (dd_cons de_int (dd_cons de_int dd_nil))))) (de_call [true, false] c__law_take (hr.mono l__law_take) (da_cons (de_var 0) (da_cons de_int da_nil))))) (dg_name 9 nd) (dss_one (ds_expr (de_call [true, true] c__law_put (hr.mono l__law_put) (da_cons (de_var 5) (da_cons (de_tup (dd_cons (de_var 8) (dd_cons (de_tup (dd_cons (de_str [97, 115, 107]) (dd_cons (de_var 11) dd_nil))) (dd_cons (de_ix hu (de_var 3) (de_call [true, false] c__law_take (hr.mono l__law_take) (da_cons (de_var 0) (da_cons (de_len bl_len (de_var 3)) da_nil)))) dd_nil)))) da_nil)))))))) (dss_cons (ds_set 12 nd (de_ix hu (de_lst (dd_cons (de_cut (de_var 3) (do_some (de_bin op_addAll ok_add (de_var 7) de_int)) do_none) (dd_cons (de_cut (de_var 3) do_none (do_some (de_var 7))) dd_nil))) (de_var 6))) (dss_one (ds_if (DW.dt (dw_and (dt_cmp (ne8 hu) ok_ne (de_var 12) (de_lst dd_nil)) (dw_and1 (dt_cmp (eq8 hu) ok_eq (de_call [true, false] c__law_take (hr.mono l__law_take) (da_cons (de_var 0) (da_cons de_int da_nil))) de_int)))) (dss_one (ds_expr (de_call [true, true] c__law_put (hr.mono l__law_put) (da_cons (de_var 5) (da_cons (de_tup (dd_cons (de_var 8) (dd_cons (de_tup (dd_cons (de_str [115, 116, 105, 108, 108]) dd_nil)) (dd_cons (de_ix hu (de_var 12) (de_call [true, false] c__law_take (hr.mono l__law_take) (da_cons (de_var 0) (da_cons (de_len bl_len (de_var 12)) da_nil)))) dd_nil)))) da_nil))))) dss_nil)))))) (dss_one (ds_ret (de_var 5))))))⟩
theorem sc__law_model : FnScope ["pen", "most", "full", "words", "asks", "says", "rooms", "doors"] ["pen", "most", "full"] (defScope s__law_model) := ⟨rfl, rfl, rfl, by decide +kernel, rfl, by decide +kernel, by decide +kernel⟩
theorem der__law_model {P : Program} {w : World} {K : PySem.W.Frag} {mg : Str → Option Value} {base : Heap} {tb : Tb} {f : Addr} {cdv : Value} {A : Around} {outer : List Env} {s : Shared} {H : Hp} {E : XK} {k : Nat}
    {φ__law_anew : SpD} {k__law_anew : Nat} {φ__law_names : SpD} {k__law_names : Nat} {φ__law_take : SpD} {k__law_take : Nat} {φ__law_draw_doors : SpD} {k__law_draw_doors : Nat} (c__law_anew : Cal P w K mg base tb "_law_anew" k__law_anew φ__law_anew) (c__law_names : Cal P w K mg base tb "_law_names" k__law_names φ__law_names) (c__law_take : Cal P w K mg base tb "_law_take" k__law_take φ__law_take) (c__law_draw_doors : Cal P w K mg base tb "_law_draw_doors" k__law_draw_doors φ__law_draw_doors) (l__law_anew : k__law_anew ≤ k) (l__law_names : k__law_names ≤ k) (l__law_take : k__law_take ≤ k) (l__law_draw_doors : k__law_draw_doors ≤ k)
    (hr : Room k (A.deeper (envOfC "_law_model" (defScope s__law_model) s.heap.objs.size f cdv))) :
    ∃ Sw, DSs (cxOf (L2.CX P w) P w K mg base ["pen", "most", "full", "words", "asks", "says", "rooms", "doors"] "_law_model" (defScope s__law_model) f cdv A outer s H E) tb (defBody s__law_model) Sw (b__law_model φ__law_anew φ__law_names φ__law_take φ__law_draw_doors) :=
  have nd := sc__law_model.nd
  have hu := room8 hr
  ⟨_, (dss_cons (ds_expr (de_call [true] c__law_anew (hr.mono l__law_anew) (da_cons (de_var 0) da_nil))) (dss_cons (ds_set 3 nd (de_call [true, false] c__law_names (hr.mono l__law_names) (da_cons (de_var 0) (da_cons de_int da_nil)))) (dss_cons (ds_set 4 nd (de_cut (de_var 3) do_none (do_some (de_bin op_addAll ok_add de_int (de_ix hu (de_lst (dd_cons de_int (dd_cons de_int (dd_cons de_int (dd_cons de_int (dd_cons de_int (dd_cons de_int dd_nil))))))) (de_call [true, false] c__law_take (hr.mono l__law_take) (da_cons (de_var 0) (da_cons de_int da_nil)))))))) (dss_cons (ds_set 5 nd (de_cut (de_var 3) (do_some de_int) (do_some (de_bin op_addAll ok_add de_int (de_ix hu (de_lst (dd_cons de_int (dd_cons de_int (dd_cons de_int (dd_cons de_int (dd_cons de_int (dd_cons de_int dd_nil))))))) (de_call [true, false] c__law_take (hr.mono l__law_take) (da_cons (de_var 0) (da_cons de_int da_nil)))))))) (dss_cons (ds_set 6 nd (de_call [true, false] c__law_names (hr.mono l__law_names) (da_cons (de_var 0) (da_cons (de_bin op_addAll ok_add de_int (de_call [true, false] c__law_take (hr.mono l__law_take) (da_cons (de_var 0) (da_cons (de_var 1) da_nil)))) da_nil)))) (dss_cons (ds_set 7 nd (de_call [true, false, false, false, true] c__law_draw_doors (hr.mono l__law_draw_doors) (da_cons (de_var 0) (da_cons (de_var 4) (da_cons (de_var 5) (da_cons (de_var 6) (da_cons (de_var 2) da_nil))))))) (dss_one (ds_ret (de_tup (dd_cons (de_var 4) (dd_cons (de_var 5) (dd_cons (de_var 6) (dd_cons (de_var 7) dd_nil)))))))))))))⟩
theorem sc__law_same : FnScope ["found", "due", "one", "other"] ["found", "due"] (defScope s__law_same) := ⟨rfl, rfl, rfl, by decide +kernel, rfl, by decide +kernel, by decide +kernel⟩
theorem der__law_same {P : Program} {w : World} {K : PySem.W.Frag} {mg : Str → Option Value} {base : Heap} {tb : Tb} {f : Addr} {cdv : Value} {A : Around} {outer : List Env} {s : Shared} {H : Hp} {E : XK} {k : Nat}
    {φ__law_same : SpD} {k__law_same : Nat} (bl_isinstance : Bl mg "isinstance" (.builtin "isinstance")) (bl_bool : Bl mg "bool" (.type "bool")) (bl_str : Bl mg "str" (.type "str")) (bl_int : Bl mg "int" (.type "int")) (bl_tuple : Bl mg "tuple" (.type "tuple")) (bl_list : Bl mg "list" (.type "list")) (bl_len : Bl mg "len" (.builtin "len")) (bl_zip : Bl mg "zip" (.type "zip")) (c__law_same : Cal P w K mg base tb "_law_same" k__law_same φ__law_same) (bl_all : Bl mg "all" (.builtin "all")) (l__law_same : k__law_same ≤ k)
    (hr : Room k (A.deeper (envOfC "_law_same" (defScope s__law_same) s.heap.objs.size f cdv))) :
    ∃ Sw, DSs (cxOf (L2.CX P w) P w K mg base ["found", "due", "one", "other"] "_law_same" (defScope s__law_same) f cdv A outer s H E) tb (defBody s__law_same) Sw (b_same3 φ__law_same) :=
  have nd := sc__law_same.nd
  have hu := room8 hr
  ⟨_, (dss_cons (ds_if (dt_isN (de_var 1)) (dss_one (ds_ret (de_isN (de_var 0)))) dss_nil) (dss_cons (ds_if (dt_v (de_isT .bool bl_isinstance bl_bool (de_var 1))) (dss_one (ds_ret (de_and (de_isT .bool bl_isinstance bl_bool (de_var 0)) (de_one (de_cmp (eq8 hu) ok_eq (de_var 0) (de_var 1)))))) dss_nil) (dss_cons (ds_if (dt_v (de_isT .str bl_isinstance bl_str (de_var 1))) (dss_one (ds_ret (de_and (de_isT .str bl_isinstance bl_str (de_var 0)) (de_one (de_cmp (eq8 hu) ok_eq (de_var 0) (de_var 1)))))) dss_nil) (dss_cons (ds_if (dt_v (de_isT .int bl_isinstance bl_int (de_var 1))) (dss_one (ds_ret (de_and (de_isT .int bl_isinstance bl_int (de_var 0)) (de_and (de_not (de_isT .bool bl_isinstance bl_bool (de_var 0))) (de_one (de_cmp (eq8 hu) ok_eq (de_var 0) (de_var 1))))))) dss_nil) (dss_cons (ds_if (DW.dt (dw_and (dt_v (de_isT .tuple bl_isinstance bl_tuple (de_var 1))) (dw_and1 (dt_not (dt_v (de_isT .tuple bl_isinstance bl_tuple (de_var 0))))))) (dss_one (ds_ret de_bl)) dss_nil) (dss_cons (ds_if (DW.dt (dw_or (DW.dt (dw_and (dt_v (de_isT .list bl_isinstance bl_list (de_var 1))) (dw_and1 (dt_not (dt_v (de_isT .list bl_isinstance bl_list (de_var 0))))))) (dw_or1 (dt_cmp (ne8 hu) ok_ne (de_len bl_len (de_var 0)) (de_len bl_len (de_var 1)))))) (dss_one (ds_ret de_bl)) dss_nil) (dss_one (ds_ret (de_all bl_all (de_comp [("one", 2), ("other", 3)] nd (di_zip bl_zip (so_var 0 (de_var 0)) (so_var 1 (de_var 1))) (fun _ _ _ _ _ => (dg_tup (dgs_cons (dg_name 2 nd) (dgs_cons (dg_name 3 nd) dgs_nil)))) (fun _ _ _ _ _ => dts_nil) (fun _ _ _ _ _ => (de_call [false, false] c__law_same (hr.mono l__law_same) (da_cons (de_var 2) (da_cons (de_var 3) da_nil))))))))))))))⟩
theorem sc__law_quiet : FnScope ["told", "room", "doors", "door"] ["told", "room"] (defScope s__law_quiet) := ⟨rfl, rfl, rfl, by decide +kernel, rfl, by decide +kernel, by decide +kernel⟩
theorem der__law_quiet {P : Program} {w : World} {K : PySem.W.Frag} {mg : Str → Option Value} {base : Heap} {tb : Tb} {f : Addr} {cdv : Value} {A : Around} {outer : List Env} {s : Shared} {H : Hp} {E : XK} {k : Nat}
    (bl_all : Bl mg "all" (.builtin "all"))
    (hr : Room k (A.deeper (envOfC "_law_quiet" (defScope s__law_quiet) s.heap.objs.size f cdv))) :
    ∃ Sw, DSs (cxOf (L2.CX P w) P w K mg base ["told", "room", "doors", "door"] "_law_quiet" (defScope s__law_quiet) f cdv A outer s H E) tb (defBody s__law_quiet) Sw (b__law_quiet) :=
  have nd := sc__law_quiet.nd
  have hu := room8 hr
  ⟨_, (dss_cons (ds_setC 2 [("door", 3)] nd (di_seq (so_exp (de_ix hu (de_var 0) de_int))) (fun _ _ _ _ _ => (dg_name 3 nd)) (fun _ _ _ _ _ => (dts_one (dt_cmp (eq8 hu) ok_eq (de_ix hu (de_var 3) de_int) (de_var 1)))) (fun _ _ _ _ _ => (de_var 3))) (dss_one (ds_ret (de_all bl_all (de_comp [("door", 3)] nd (di_seq (so_var 2 (de_var 2))) (fun _ _ _ _ _ => (dg_name 3 nd)) (fun _ _ _ _ _ => dts_nil) (fun _ _ _ _ _ => (de_cmp (eq8 hu) ok_eq (de_ix hu (de_ix hu (de_var 3) de_int) de_int) (de_str [97, 115, 107]))))))))⟩
theorem sc__law_in_order : FnScope ["told", "some", "there", "room"] ["told", "some"] (defScope s__law_in_order) := ⟨rfl, rfl, rfl, by decide +kernel, rfl, by decide +kernel, by decide +kernel⟩
theorem der__law_in_order {P : Program} {w : World} {K : PySem.W.Frag} {mg : Str → Option Value} {base : Heap} {tb : Tb} {f : Addr} {cdv : Value} {A : Around} {outer : List Env} {s : Shared} {H : Hp} {E : XK} {k : Nat}
    {φ__law_still_on : SpD} {k__law_still_on : Nat} (c__law_still_on : Cal P w K mg base tb "_law_still_on" k__law_still_on φ__law_still_on) (bl_tuple : Bl mg "tuple" (.type "tuple")) (l__law_still_on : k__law_still_on ≤ k)
    (hr : Room k (A.deeper (envOfC "_law_in_order" (defScope s__law_in_order) s.heap.objs.size f cdv))) :
    ∃ Sw, DSs (cxOf (L2.CX P w) P w K mg base ["told", "some", "there", "room"] "_law_in_order" (defScope s__law_in_order) f cdv A outer s H E) tb (defBody s__law_in_order) Sw (b__law_in_order φ__law_still_on) :=
  have nd := sc__law_in_order.nd
  have hu := room8 hr
  ⟨_, (dss_cons (ds_set 2 nd (de_call [false, false] c__law_still_on (hr.mono l__law_still_on) (da_cons (de_ix hu (de_var 0) de_int) (da_cons (de_var 1) da_nil)))) (dss_one (ds_ret (de_tuple bl_tuple (de_comp [("room", 3)] nd (di_seq (so_exp (de_ix hu (de_var 0) de_int))) (fun _ _ _ _ _ => (dg_name 3 nd)) (fun _ _ _ _ _ => (dts_one (dt_cmp (op_inAll hu) ok_in (de_var 3) (de_var 2)))) (fun _ _ _ _ _ => (de_var 3)))))))⟩
theorem sc__law_face_on : FnScope ["told", "face", "sign", "some", "room", "own", "other"] ["told", "face", "sign"] (defScope s__law_face_on) := ⟨rfl, rfl, rfl, by decide +kernel, rfl, by decide +kernel, by decide +kernel⟩
theorem der__law_face_on {P : Program} {w : World} {K : PySem.W.Frag} {mg : Str → Option Value} {base : Heap} {tb : Tb} {f : Addr} {cdv : Value} {A : Around} {outer : List Env} {s : Shared} {H : Hp} {E : XK} {k : Nat}
    {φ__law_quiet : SpD} {k__law_quiet : Nat} {φ__law_in_order : SpD} {k__law_in_order : Nat} (c__law_quiet : Cal P w K mg base tb "_law_quiet" k__law_quiet φ__law_quiet) (bl_tuple : Bl mg "tuple" (.type "tuple")) (c__law_in_order : Cal P w K mg base tb "_law_in_order" k__law_in_order φ__law_in_order) (l__law_quiet : k__law_quiet ≤ k) (l__law_in_order : k__law_in_order ≤ k)
    (hr : Room k (A.deeper (envOfC "_law_face_on" (defScope s__law_face_on) s.heap.objs.size f cdv))) :
    ∃ Sw, DSs (cxOf (L2.CX P w) P w K mg base ["told", "face", "sign", "some", "room", "own", "other"] "_law_face_on" (defScope s__law_face_on) f cdv A outer s H E) tb (defBody s__law_face_on) Sw (b__law_face_on φ__law_quiet φ__law_in_order) :=
  have nd := sc__law_face_on.nd
  have hu := room8 hr
  ⟨_, (dss_cons (ds_if (dt_cmp (eq8 hu) ok_eq (de_var 2) (de_tup (dd_cons (de_str [104, 117, 115, 104]) dd_nil))) (dss_one (ds_ret (de_tuple bl_tuple (de_comp [("room", 4)] nd (di_seq (so_var 1 (de_var 1))) (fun _ _ _ _ _ => (dg_name 4 nd)) (fun _ _ _ _ _ => (dts_one (dt_v (de_call [false, false] c__law_quiet (hr.mono l__law_quiet) (da_cons (de_var 0) (da_cons (de_var 4) da_nil)))))) (fun _ _ _ _ _ => (de_var 4)))))) dss_nil) (dss_cons (ds_set 3 nd (de_lst dd_nil)) (dss_cons (ds_for passes_cx (di_seq (so_exp (de_ix hu (de_var 0) de_int))) (dg_tup (dgs_cons (dg_name 4 nd) (dgs_cons (dg_name 5 nd) (dgs_cons (dg_name 6 nd) dgs_nil)))) (dss_one (ds_if (DW.dt (dw_and (dt_cmp (op_inAll hu) ok_in (de_var 4) (de_var 1)) (dw_and (dt_cmp (eq8 hu) ok_eq (de_var 5) (de_var 2)) (dw_and1 (dt_cmp (op_ninAll hu) ok_nin (de_var 6) (de_var 3)))))) (dss_one (ds_expr (de_append (de_var 3) (dd_cons (de_var 6) dd_nil)))) dss_nil))) (dss_one (ds_ret (de_call [false, false] c__law_in_order (hr.mono l__law_in_order) (da_cons (de_var 0) (da_cons (de_var 3) da_nil))))))))⟩
theorem sc__law_face_at : FnScope ["told", "story", "face", "sign"] ["told", "story"] (defScope s__law_face_at) := ⟨rfl, rfl, rfl, by decide +kernel, rfl, by decide +kernel, by decide +kernel⟩
theorem der__law_face_at {P : Program} {w : World} {K : PySem.W.Frag} {mg : Str → Option Value} {base : Heap} {tb : Tb} {f : Addr} {cdv : Value} {A : Around} {outer : List Env} {s : Shared} {H : Hp} {E : XK} {k : Nat}
    {φ__law_in_order : SpD} {k__law_in_order : Nat} {φ__law_face_on : SpD} {k__law_face_on : Nat} (c__law_in_order : Cal P w K mg base tb "_law_in_order" k__law_in_order φ__law_in_order) (c__law_face_on : Cal P w K mg base tb "_law_face_on" k__law_face_on φ__law_face_on) (l__law_in_order : k__law_in_order ≤ k) (l__law_face_on : k__law_face_on ≤ k)
    (hr : Room k (A.deeper (envOfC "_law_face_at" (defScope s__law_face_at) s.heap.objs.size f cdv))) :
    ∃ Sw, DSs (cxOf (L2.CX P w) P w K mg base ["told", "story", "face", "sign"] "_law_face_at" (defScope s__law_face_at) f cdv A outer s H E) tb (defBody s__law_face_at) Sw (b__law_face_at φ__law_in_order φ__law_face_on) :=
  have nd := sc__law_face_at.nd
  have hu := room8 hr
  ⟨_, (dss_cons (ds_set 2 nd (de_call [false, false] c__law_in_order (hr.mono l__law_in_order) (da_cons (de_var 0) (da_cons (de_cut (de_ix hu (de_var 0) de_int) do_none (do_some de_int)) da_nil)))) (dss_cons (ds_for passes_cx (di_seq (so_var 1 (de_var 1))) (dg_name 3 nd) (dss_one (ds_set 2 nd (de_call [false, false, false] c__law_face_on (hr.mono l__law_face_on) (da_cons (de_var 0) (da_cons (de_var 2) (da_cons (de_var 3) da_nil))))))) (dss_one (ds_ret (de_var 2)))))⟩
theorem sc__law_inner : FnScope ["trial", "pair"] ["trial"] (defScope s__law_inner) := ⟨rfl, rfl, rfl, by decide +kernel, rfl, by decide +kernel, by decide +kernel⟩
theorem der__law_inner {P : Program} {w : World} {K : PySem.W.Frag} {mg : Str → Option Value} {base : Heap} {tb : Tb} {f : Addr} {cdv : Value} {A : Around} {outer : List Env} {s : Shared} {H : Hp} {E : XK} {k : Nat}
    (bl_len : Bl mg "len" (.builtin "len"))
    (hr : Room k (A.deeper (envOfC "_law_inner" (defScope s__law_inner) s.heap.objs.size f cdv))) :
    ∃ Sw, DSs (cxOf (L2.CX P w) P w K mg base ["trial", "pair"] "_law_inner" (defScope s__law_inner) f cdv A outer s H E) tb (defBody s__law_inner) Sw (b__law_inner) :=
  have nd := sc__law_inner.nd
  have hu := room8 hr
  ⟨_, (dss_cons (ds_if (DW.dt (dw_and (dt_cmp (eq8 hu) ok_eq (de_ix hu (de_var 0) de_int) (de_str [116, 101, 108, 108])) (dw_and1 (dt_cmp (eq8 hu) ok_eq (de_len bl_len (de_var 0)) de_int)))) (dss_one (ds_ret (de_bin op_addAll ok_add (de_lst (dd_cons (de_ix hu (de_var 0) de_int) dd_nil)) (de_comp [("pair", 1)] nd (di_seq (so_exp (de_ix hu (de_var 0) de_int))) (fun _ _ _ _ _ => (dg_name 1 nd)) (fun _ _ _ _ _ => dts_nil) (fun _ _ _ _ _ => (de_ix hu (de_var 1) de_int)))))) dss_nil) (dss_cons (ds_if (DW.dt (dw_and (dt_cmp (eq8 hu) ok_eq (de_ix hu (de_var 0) de_int) (de_str [119, 97, 105, 116])) (dw_and1 (dt_cmp (eq8 hu) ok_eq (de_len bl_len (de_var 0)) de_int)))) (dss_one (ds_ret (de_bin op_addAll ok_add (de_comp [("pair", 1)] nd (di_seq (so_exp (de_ix hu (de_var 0) de_int))) (fun _ _ _ _ _ => (dg_name 1 nd)) (fun _ _ _ _ _ => dts_nil) (fun _ _ _ _ _ => (de_ix hu (de_var 1) de_int))) (de_lst (dd_cons (de_ix hu (de_var 0) de_int) dd_nil))))) dss_nil) (dss_one (ds_ret (de_lst dd_nil)))))⟩
theorem sc__law_signs : FnScope ["trial", "pair"] ["trial"] (defScope s__law_signs) := ⟨rfl, rfl, rfl, by decide +kernel, rfl, by decide +kernel, by decide +kernel⟩
theorem der__law_signs {P : Program} {w : World} {K : PySem.W.Frag} {mg : Str → Option Value} {base : Heap} {tb : Tb} {f : Addr} {cdv : Value} {A : Around} {outer : List Env} {s : Shared} {H : Hp} {E : XK} {k : Nat}
    
    (hr : Room k (A.deeper (envOfC "_law_signs" (defScope s__law_signs) s.heap.objs.size f cdv))) :
    ∃ Sw, DSs (cxOf (L2.CX P w) P w K mg base ["trial", "pair"] "_law_signs" (defScope s__law_signs) f cdv A outer s H E) tb (defBody s__law_signs) Sw (b_ltsigns) :=
  have nd := sc__law_signs.nd
  have hu := room8 hr
  ⟨_, (dss_cons (ds_if (dt_cmp (eq8 hu) ok_eq (de_ix hu (de_var 0) de_int) (de_str [116, 101, 108, 108])) (dss_one (ds_ret (de_bin op_addAll ok_add (de_lst (dd_cons (de_tup (dd_cons (de_str [97, 115, 107]) (dd_cons (de_ix hu (de_var 0) de_int) dd_nil))) dd_nil)) (de_comp [("pair", 1)] nd (di_seq (so_exp (de_ix hu (de_var 0) de_int))) (fun _ _ _ _ _ => (dg_name 1 nd)) (fun _ _ _ _ _ => dts_nil) (fun _ _ _ _ _ => (de_tup (dd_cons (de_str [115, 97, 121]) (dd_cons (de_ix hu (de_var 1) de_int) dd_nil)))))))) dss_nil) (dss_one (ds_ret (de_bin op_addAll ok_add (de_comp [("pair", 1)] nd (di_seq (so_exp (de_ix hu (de_var 0) de_int))) (fun _ _ _ _ _ => (dg_name 1 nd)) (fun _ _ _ _ _ => dts_nil) (fun _ _ _ _ _ => (de_tup (dd_cons (de_str [115, 97, 121]) (dd_cons (de_ix hu (de_var 1) de_int) dd_nil))))) (de_lst (dd_cons (de_tup (dd_cons (de_str [104, 117, 115, 104]) dd_nil)) dd_nil))))))⟩
theorem sc__law_leaves : FnScope ["trial", "way", "story", "some", "found", "k", "sign"] ["trial", "way", "story"] (defScope s__law_leaves) := ⟨rfl, rfl, rfl, by decide +kernel, rfl, by decide +kernel, by decide +kernel⟩
theorem der__law_leaves {P : Program} {w : World} {K : PySem.W.Frag} {mg : Str → Option Value} {base : Heap} {tb : Tb} {f : Addr} {cdv : Value} {A : Around} {outer : List Env} {s : Shared} {H : Hp} {E : XK} {k : Nat}
    {φ__law_inner : SpD} {k__law_inner : Nat} {φ__law_signs : SpD} {k__law_signs : Nat} {φ__law_leaves : SpD} {k__law_leaves : Nat} (c__law_inner : Cal P w K mg base tb "_law_inner" k__law_inner φ__law_inner) (bl_enumerate : Bl mg "enumerate" (.type "enumerate")) (c__law_signs : Cal P w K mg base tb "_law_signs" k__law_signs φ__law_signs) (c__law_leaves : Cal P w K mg base tb "_law_leaves" k__law_leaves φ__law_leaves) (l__law_inner : k__law_inner ≤ k) (l__law_signs : k__law_signs ≤ k) (l__law_leaves : k__law_leaves ≤ k)
    (hr : Room k (A.deeper (envOfC "_law_leaves" (defScope s__law_leaves) s.heap.objs.size f cdv))) :
    ∃ Sw, DSs (cxOf (L2.CX P w) P w K mg base ["trial", "way", "story", "some", "found", "k", "sign"] "_law_leaves" (defScope s__law_leaves) f cdv A outer s H E) tb (defBody s__law_leaves) Sw (b__law_leaves φ__law_inner φ__law_signs φ__law_leaves) :=
  have nd := sc__law_leaves.nd
  have hu := room8 hr
  ⟨_, (dss_cons (ds_set 3 nd (de_call [false] c__law_inner (hr.mono l__law_inner) (da_cons (de_var 0) da_nil))) (dss_cons (ds_if (dt_cmp (eq8 hu) ok_eq (de_var 3) (de_lst dd_nil)) (dss_one (ds_ret (de_lst (dd_cons (de_tup (dd_cons (de_var 1) (dd_cons (de_var 2) (dd_cons (de_ix hu (de_var 0) de_int) dd_nil)))) dd_nil)))) dss_nil) (dss_cons (ds_set 4 nd (de_lst dd_nil)) (dss_cons (ds_for passes_cx (di_enum bl_enumerate (so_exp (de_call [false] c__law_signs (hr.mono l__law_signs) (da_cons (de_var 0) da_nil)))) (dg_tup (dgs_cons (dg_name 5 nd) (dgs_cons (dg_name 6 nd) dgs_nil))) (dss_one (ds_set 4 nd (de_bin op_addAll ok_add (de_var 4) (de_call [false, true, true] c__law_leaves (hr.mono l__law_leaves) (da_cons (de_ix hu (de_var 3) (de_var 5)) (da_cons (de_bin op_addAll ok_add (de_var 1) (de_tup (dd_cons (de_var 5) dd_nil))) (da_cons (de_bin op_addAll ok_add (de_var 2) (de_lst (dd_cons (de_var 6) dd_nil))) da_nil)))))))) (dss_one (ds_ret (de_var 4)))))))⟩
theorem sc__law_pairs : FnScope ["says", "some", "part", "word"] ["says", "some"] (defScope s__law_pairs) := ⟨rfl, rfl, rfl, by decide +kernel, rfl, by decide +kernel, by decide +kernel⟩
theorem der__law_pairs {P : Program} {w : World} {K : PySem.W.Frag} {mg : Str → Option Value} {base : Heap} {tb : Tb} {f : Addr} {cdv : Value} {A : Around} {outer : List Env} {s : Shared} {H : Hp} {E : XK} {k : Nat}
    (bl_zip : Bl mg "zip" (.type "zip")) (bl_tuple : Bl mg "tuple" (.type "tuple"))
    (hr : Room k (A.deeper (envOfC "_law_pairs" (defScope s__law_pairs) s.heap.objs.size f cdv))) :
    ∃ Sw, DSs (cxOf (L2.CX P w) P w K mg base ["says", "some", "part", "word"] "_law_pairs" (defScope s__law_pairs) f cdv A outer s H E) tb (defBody s__law_pairs) Sw (b__law_pairs) :=
  have nd := sc__law_pairs.nd
  have hu := room8 hr
  ⟨_, (dss_one (ds_ret (de_tuple bl_tuple (de_comp [("word", 3), ("part", 2)] nd (di_zip bl_zip (so_var 0 (de_var 0)) (so_var 1 (de_var 1))) (fun _ _ _ _ _ => (dg_tup (dgs_cons (dg_name 3 nd) (dgs_cons (dg_name 2 nd) dgs_nil)))) (fun _ _ _ _ _ => dts_nil) (fun _ _ _ _ _ => (de_tup (dd_cons (de_var 3) (dd_cons (de_var 2) dd_nil))))))))⟩
theorem sc__law_trial : FnScope ["pen", "told", "deep", "left", "way", "some", "ask", "k"] ["pen", "told", "deep", "left"] (defScope s__law_trial) := ⟨rfl, rfl, rfl, by decide +kernel, rfl, by decide +kernel, by decide +kernel⟩
theorem der__law_trial {P : Program} {w : World} {K : PySem.W.Frag} {mg : Str → Option Value} {base : Heap} {tb : Tb} {f : Addr} {cdv : Value} {A : Around} {outer : List Env} {s : Shared} {H : Hp} {E : XK} {k : Nat}
    {φ__law_take : SpD} {k__law_take : Nat} {φ__law_trial : SpD} {k__law_trial : Nat} {φ__law_pairs : SpD} {k__law_pairs : Nat} (c__law_take : Cal P w K mg base tb "_law_take" k__law_take φ__law_take) (bl_range : Bl mg "range" (.type "range")) (bl_len : Bl mg "len" (.builtin "len")) (c__law_trial : Cal P w K mg base tb "_law_trial" k__law_trial φ__law_trial) (c__law_pairs : Cal P w K mg base tb "_law_pairs" k__law_pairs φ__law_pairs) (l__law_take : k__law_take ≤ k) (l__law_trial : k__law_trial ≤ k) (l__law_pairs : k__law_pairs ≤ k)
    (hr : Room k (A.deeper (envOfC "_law_trial" (defScope s__law_trial) s.heap.objs.size f cdv))) :
    ∃ Sw, DSs (cxOf (L2.CX P w) P w K mg base ["pen", "told", "deep", "left", "way", "some", "ask", "k"] "_law_trial" (defScope s__law_trial) f cdv A outer s H E) tb (defBody s__law_trial) Sw (b__law_trial φ__law_take φ__law_trial φ__law_pairs) :=
  have nd := sc__law_trial.nd
  have hu := room8 hr
  ⟨_, (dss_cons (ds_setIx hu (de_var 3) de_int (de_bin op_sub ok_sub (de_ix hu (de_var 3) de_int) de_int)) (dss_cons (ds_set 4 nd (de_call [true, false] c__law_take (hr.mono l__law_take) (da_cons (de_var 0) (da_cons de_int da_nil)))) (dss_cons (ds_if (DW.dt (dw_or (dt_cmp (eq8 hu) ok_eq (de_var 2) de_int) (dw_or (dt_cmp (op_ltA hu) ok_lt (de_ix hu (de_var 3) de_int) de_int) (dw_or1 (dt_cmp (eq8 hu) ok_eq (de_var 4) de_int))))) (dss_one (ds_ret (de_ix hu (de_lst (dd_cons (de_tup (dd_cons (de_str [101, 110, 100]) dd_nil)) (dd_cons (de_tup (dd_cons (de_str [98, 108, 97, 109, 101]) dd_nil)) dd_nil))) (de_call [true, false] c__law_take (hr.mono l__law_take) (da_cons (de_var 0) (da_cons de_int da_nil)))))) dss_nil) (dss_cons (ds_setC 5 [("k", 7)] nd (di_range bl_range (de_bin op_addAll ok_add (de_len bl_len (de_ix hu (de_var 1) de_int)) de_int)) (fun _ _ _ _ _ => (dg_name 7 nd)) (fun _ _ _ _ _ => dts_nil) (fun _ _ _ _ _ => (de_call [true, false, false, true] c__law_trial (hr.mono l__law_trial) (da_cons (de_var 0) (da_cons (de_var 1) (da_cons (de_bin op_sub ok_sub (de_var 2) de_int) (da_cons (de_var 3) da_nil))))))) (dss_cons (ds_if (dt_cmp (op_ltA hu) ok_lt (de_var 4) de_int) (dss_cons (ds_set 6 nd (de_ix hu (de_ix hu (de_var 1) de_int) (de_call [true, false] c__law_take (hr.mono l__law_take) (da_cons (de_var 0) (da_cons (de_len bl_len (de_ix hu (de_var 1) de_int)) da_nil))))) (dss_one (ds_ret (de_tup (dd_cons (de_str [116, 101, 108, 108]) (dd_cons (de_var 6) (dd_cons (de_ix hu (de_var 5) de_int) (dd_cons (de_call [false, false] c__law_pairs (hr.mono l__law_pairs) (da_cons (de_ix hu (de_var 1) de_int) (da_cons (de_cut (de_var 5) (do_some de_int) do_none) da_nil))) dd_nil)))))))) dss_nil) (dss_one (ds_ret (de_tup (dd_cons (de_str [119, 97, 105, 116]) (dd_cons (de_call [false, false] c__law_pairs (hr.mono l__law_pairs) (da_cons (de_ix hu (de_var 1) de_int) (da_cons (de_var 5) da_nil))) (dd_cons (de_ix hu (de_var 5) (de_un un_neg ok_neg de_int)) dd_nil)))))))))))⟩
theorem sc__law_made : FnScope ["pen", "told", "face", "deep", "ways", "ask", "sign", "signs", "some", "one", "word"] ["pen", "told", "face", "deep"] (defScope s__law_made) := ⟨rfl, rfl, rfl, by decide +kernel, rfl, by decide +kernel, by decide +kernel⟩
theorem der__law_made {P : Program} {w : World} {K : PySem.W.Frag} {mg : Str → Option Value} {base : Heap} {tb : Tb} {f : Addr} {cdv : Value} {A : Around} {outer : List Env} {s : Shared} {H : Hp} {E : XK} {k : Nat}
    {φ__law_face_on : SpD} {k__law_face_on : Nat} {φ__law_take : SpD} {k__law_take : Nat} {φ__law_made : SpD} {k__law_made : Nat} {φ__law_pairs : SpD} {k__law_pairs : Nat} (c__law_face_on : Cal P w K mg base tb "_law_face_on" k__law_face_on φ__law_face_on) (c__law_take : Cal P w K mg base tb "_law_take" k__law_take φ__law_take) (bl_len : Bl mg "len" (.builtin "len")) (bl_int : Bl mg "int" (.type "int")) (c__law_made : Cal P w K mg base tb "_law_made" k__law_made φ__law_made) (c__law_pairs : Cal P w K mg base tb "_law_pairs" k__law_pairs φ__law_pairs) (l__law_face_on : k__law_face_on ≤ k) (l__law_take : k__law_take ≤ k) (l__law_made : k__law_made ≤ k) (l__law_pairs : k__law_pairs ≤ k)
    (hr : Room k (A.deeper (envOfC "_law_made" (defScope s__law_made) s.heap.objs.size f cdv))) :
    ∃ Sw, DSs (cxOf (L2.CX P w) P w K mg base ["pen", "told", "face", "deep", "ways", "ask", "sign", "signs", "some", "one", "word"] "_law_made" (defScope s__law_made) f cdv A outer s H E) tb (defBody s__law_made) Sw (b__law_made φ__law_face_on φ__law_take φ__law_made φ__law_pairs) :=
  have nd := sc__law_made.nd
  have hu := room8 hr
  ⟨_, (dss_cons (ds_if (dt_cmp (eq8 hu) ok_eq (de_var 2) (de_tup dd_nil)) (dss_one (ds_ret (de_tup (dd_cons (de_str [98, 108, 97, 109, 101]) dd_nil)))) dss_nil) (dss_cons (ds_set 4 nd (de_lst (dd_cons (de_tup (dd_cons (de_str [104, 117, 115, 104]) dd_nil)) dd_nil))) (dss_cons (ds_for passes_cx (di_seq (so_exp (de_ix hu (de_var 1) de_int))) (dg_name 5 nd) (dss_one (ds_if (dt_cmp (ne8 hu) ok_ne (de_call [false, false, false] c__law_face_on (hr.mono l__law_face_on) (da_cons (de_var 1) (da_cons (de_var 2) (da_cons (de_tup (dd_cons (de_str [97, 115, 107]) (dd_cons (de_var 5) dd_nil))) da_nil)))) (de_tup dd_nil)) (dss_one (ds_expr (de_append (de_var 4) (dd_cons (de_tup (dd_cons (de_str [97, 115, 107]) (dd_cons (de_var 5) dd_nil))) dd_nil)))) dss_nil))) (dss_cons (ds_if (DW.dt (dw_or (dt_cmp (eq8 hu) ok_eq (de_var 3) de_int) (dw_or1 (dt_cmp (eq8 hu) ok_eq (de_call [true, false] c__law_take (hr.mono l__law_take) (da_cons (de_var 0) (da_cons de_int da_nil))) de_int)))) (dss_one (ds_ret (de_tup (dd_cons (de_str [101, 110, 100]) dd_nil)))) dss_nil) (dss_cons (ds_set 6 nd (de_ix hu (de_var 4) (de_call [true, false] c__law_take (hr.mono l__law_take) (da_cons (de_var 0) (da_cons (de_len bl_len (de_var 4)) da_nil))))) (dss_cons (ds_setC 7 [("word", 10)] nd (di_seq (so_exp (de_ix hu (de_var 1) de_int))) (fun _ _ _ _ _ => (dg_name 10 nd)) (fun _ _ _ _ _ => dts_nil) (fun _ _ _ _ _ => (de_tup (dd_cons (de_str [115, 97, 121]) (dd_cons (de_var 10) dd_nil))))) (dss_cons (ds_set 7 nd (de_ix hu (de_lst (dd_cons (de_bin op_addAll ok_add (de_var 7) (de_lst (dd_cons (de_var 6) dd_nil))) (dd_cons (de_bin op_addAll ok_add (de_lst (dd_cons (de_var 6) dd_nil)) (de_var 7)) dd_nil))) (de_intc bl_int (de_cmp (eq8 hu) ok_eq (de_ix hu (de_var 6) de_int) (de_str [97, 115, 107]))))) (dss_cons (ds_setC 8 [("one", 9)] nd (di_seq (so_var 7 (de_var 7))) (fun _ _ _ _ _ => (dg_name 9 nd)) (fun _ _ _ _ _ => dts_nil) (fun _ _ _ _ _ => (de_call [true, false, false, false] c__law_made (hr.mono l__law_made) (da_cons (de_var 0) (da_cons (de_var 1) (da_cons (de_call [false, false, false] c__law_face_on (hr.mono l__law_face_on) (da_cons (de_var 1) (da_cons (de_var 2) (da_cons (de_var 9) da_nil)))) (da_cons (de_bin op_sub ok_sub (de_var 3) de_int) da_nil))))))) (dss_cons (ds_if (dt_cmp (eq8 hu) ok_eq (de_ix hu (de_var 6) de_int) (de_str [97, 115, 107])) (dss_one (ds_ret (de_tup (dd_cons (de_str [116, 101, 108, 108]) (dd_cons (de_ix hu (de_var 6) de_int) (dd_cons (de_ix hu (de_var 8) de_int) (dd_cons (de_call [false, false] c__law_pairs (hr.mono l__law_pairs) (da_cons (de_ix hu (de_var 1) de_int) (da_cons (de_cut (de_var 8) (do_some de_int) do_none) da_nil))) dd_nil))))))) dss_nil) (dss_one (ds_ret (de_tup (dd_cons (de_str [119, 97, 105, 116]) (dd_cons (de_call [false, false] c__law_pairs (hr.mono l__law_pairs) (da_cons (de_ix hu (de_var 1) de_int) (da_cons (de_var 8) da_nil))) (dd_cons (de_ix hu (de_var 8) (de_un un_neg ok_neg de_int)) dd_nil)))))))))))))))⟩
theorem sc__law_machine : FnScope ["told"] ["told"] (defScope s__law_machine) := ⟨rfl, rfl, rfl, by decide +kernel, rfl, by decide +kernel, by decide +kernel⟩
theorem der__law_machine {P : Program} {w : World} {K : PySem.W.Frag} {mg : Str → Option Value} {base : Heap} {tb : Tb} {f : Addr} {cdv : Value} {A : Around} {outer : List Env} {s : Shared} {H : Hp} {E : XK} {k : Nat}
    {φ_Machine___init__ : SpD} {k_Machine___init__ : Nat} (bl_list : Bl mg "list" (.type "list")) (n_Machine : CalN P w K mg base tb "Machine" "Machine" k_Machine___init__ φ_Machine___init__) (l_Machine___init__ : k_Machine___init__ + 1 ≤ k)
    (hr : Room k (A.deeper (envOfC "_law_machine" (defScope s__law_machine) s.heap.objs.size f cdv))) :
    ∃ Sw, DSs (cxOf (L2.CX P w) P w K mg base ["told"] "_law_machine" (defScope s__law_machine) f cdv A outer s H E) tb (defBody s__law_machine) Sw (b__law_machine φ_Machine___init__) :=
  have nd := sc__law_machine.nd
  have hu := room8 hr
  ⟨_, (dss_one (ds_ret (de_new "Machine" [false, false, false, false] n_Machine (hr.mono l_Machine___init__) (da_cons (de_list bl_list (de_ix hu (de_var 0) de_int)) (da_cons (de_list bl_list (de_ix hu (de_var 0) de_int)) (da_cons (de_list bl_list (de_ix hu (de_var 0) de_int)) (da_cons (de_list bl_list (de_ix hu (de_var 0) de_int)) da_nil)))))))⟩
theorem sc__law_right : FnScope ["model", "trial", "due", "found"] ["model", "trial"] (defScope s__law_right) := ⟨rfl, rfl, rfl, by decide +kernel, rfl, by decide +kernel, by decide +kernel⟩
theorem der__law_right {P : Program} {w : World} {K : PySem.W.Frag} {mg : Str → Option Value} {base : Heap} {tb : Tb} {f : Addr} {cdv : Value} {A : Around} {outer : List Env} {s : Shared} {H : Hp} {E : XK} {k : Nat}
    {φ__law_leaves : SpD} {k__law_leaves : Nat} {φ_leaves : SpD} {k_leaves : Nat} {φ__law_same : SpD} {k__law_same : Nat} (c__law_leaves : Cal P w K mg base tb "_law_leaves" k__law_leaves φ__law_leaves) (c_leaves : Cal P w K mg base tb "leaves" k_leaves φ_leaves) (c__law_same : Cal P w K mg base tb "_law_same" k__law_same φ__law_same) (bl_sorted : Bl mg "sorted" (.builtin "sorted")) (l__law_leaves : k__law_leaves ≤ k) (l_leaves : k_leaves ≤ k) (l__law_same : k__law_same ≤ k)
    (hr : Room k (A.deeper (envOfC "_law_right" (defScope s__law_right) s.heap.objs.size f cdv))) :
    ∃ Sw, DSs (cxOf (L2.CX P w) P w K mg base ["model", "trial", "due", "found"] "_law_right" (defScope s__law_right) f cdv A outer s H E) tb (defBody s__law_right) Sw (b__law_right φ__law_leaves φ_leaves φ__law_same) :=
  have nd := sc__law_right.nd
  have hu := room8 hr
  ⟨_, (dss_cons (ds_set 2 nd (de_call [false, true, true] c__law_leaves (hr.mono l__law_leaves) (da_cons (de_var 1) (da_cons (de_tup dd_nil) (da_cons (de_lst dd_nil) da_nil))))) (dss_cons (ds_set 3 nd (de_call [false, true] c_leaves (hr.mono l_leaves) (da_cons (de_var 0) (da_cons (de_var 1) da_nil)))) (dss_cons (ds_if (DW.dt (dw_or (dt_not (dt_v (de_call [false, false] c__law_same (hr.mono l__law_same) (da_cons (de_var 3) (da_cons (de_var 2) da_nil))))) (dw_or1 (dt_cmp (ne8 hu) ok_ne (de_var 2) (de_sortedD hu bl_sorted (de_var 2)))))) (dss_one (ds_ret de_bl)) dss_nil) (dss_cons (ds_expr (de_append (de_ix hu (de_ix hu (de_var 3) de_int) de_int) (dd_cons (de_tup (dd_cons (de_str [104, 117, 115, 104]) dd_nil)) dd_nil))) (dss_cons (ds_setIx hu (de_var 3) (de_un un_neg ok_neg de_int) (de_tup (dd_cons (de_tup dd_nil) (dd_cons (de_lst dd_nil) (dd_cons (de_str [101, 110, 100]) dd_nil))))) (dss_one (ds_ret (de_call [false, false] c__law_same (hr.mono l__law_same) (da_cons (de_call [false, true] c_leaves (hr.mono l_leaves) (da_cons (de_var 0) (da_cons (de_var 1) da_nil))) (da_cons (de_var 2) da_nil))))))))))⟩
theorem sc_law : FnScope ["script", "pen", "first", "turn", "told", "model", "trial"] ["script"] (defScope s_law) := ⟨rfl, rfl, rfl, by decide +kernel, rfl, by decide +kernel, by decide +kernel⟩
theorem der_law {P : Program} {w : World} {K : PySem.W.Frag} {mg : Str → Option Value} {base : Heap} {tb : Tb} {f : Addr} {cdv : Value} {A : Around} {outer : List Env} {s : Shared} {H : Hp} {E : XK} {k : Nat}
    {φ__law_open : SpD} {k__law_open : Nat} {φ__law_model : SpD} {k__law_model : Nat} {φ__law_machine : SpD} {k__law_machine : Nat} {φ__law_trial : SpD} {k__law_trial : Nat} {φ__law_take : SpD} {k__law_take : Nat} {φ__law_made : SpD} {k__law_made : Nat} {φ__law_face_at : SpD} {k__law_face_at : Nat} {φ__law_right : SpD} {k__law_right : Nat} (c__law_open : Cal P w K mg base tb "_law_open" k__law_open φ__law_open) (bl_range : Bl mg "range" (.type "range")) (c__law_model : Cal P w K mg base tb "_law_model" k__law_model φ__law_model) (c__law_machine : Cal P w K mg base tb "_law_machine" k__law_machine φ__law_machine) (c__law_trial : Cal P w K mg base tb "_law_trial" k__law_trial φ__law_trial) (c__law_take : Cal P w K mg base tb "_law_take" k__law_take φ__law_take) (c__law_made : Cal P w K mg base tb "_law_made" k__law_made φ__law_made) (c__law_face_at : Cal P w K mg base tb "_law_face_at" k__law_face_at φ__law_face_at) (c__law_right : Cal P w K mg base tb "_law_right" k__law_right φ__law_right) (l__law_open : k__law_open ≤ k) (l__law_model : k__law_model ≤ k) (l__law_machine : k__law_machine ≤ k) (l__law_trial : k__law_trial ≤ k) (l__law_take : k__law_take ≤ k) (l__law_made : k__law_made ≤ k) (l__law_face_at : k__law_face_at ≤ k) (l__law_right : k__law_right ≤ k)
    (hr : Room k (A.deeper (envOfC "law" (defScope s_law) s.heap.objs.size f cdv))) :
    ∃ Sw, DSs (cxOf (L2.CX P w) P w K mg base ["script", "pen", "first", "turn", "told", "model", "trial"] "law" (defScope s_law) f cdv A outer s H E) tb (defBody s_law) Sw (b_law φ__law_open φ__law_model φ__law_machine φ__law_trial φ__law_take φ__law_made φ__law_face_at φ__law_right) :=
  have nd := sc_law.nd
  have hu := room8 hr
  ⟨_, (dss_cons (ds_set 1 nd (de_call [false] c__law_open (hr.mono l__law_open) (da_cons (de_var 0) da_nil))) (dss_cons (ds_set 2 nd de_non) (dss_cons (ds_sh 1 (ds_for passes_cx (di_range bl_range de_int) (dg_name 3 nd) (dss_cons (ds_set 4 nd (de_call [true, false, true] c__law_model (hr.mono l__law_model) (da_cons (de_var 1) (da_cons de_int (da_cons de_int da_nil))))) (dss_cons (ds_set 5 nd (de_call [false] c__law_machine (hr.mono l__law_machine) (da_cons (de_var 4) da_nil))) (dss_cons (ds_set 6 nd (de_call [true, false, false, true] c__law_trial (hr.mono l__law_trial) (da_cons (de_var 1) (da_cons (de_var 4) (da_cons de_int (da_cons (de_lst (dd_cons de_int dd_nil)) da_nil)))))) (dss_cons (ds_if (dt_cmp (eq8 hu) ok_eq (de_call [true, false] c__law_take (hr.mono l__law_take) (da_cons (de_var 1) (da_cons de_int da_nil))) de_int) (dss_one (ds_set 6 nd (de_call [true, false, false, false] c__law_made (hr.mono l__law_made) (da_cons (de_var 1) (da_cons (de_var 4) (da_cons (de_call [false, false] c__law_face_at (hr.mono l__law_face_at) (da_cons (de_var 4) (da_cons (de_lst dd_nil) da_nil))) (da_cons de_int da_nil))))))) dss_nil) (dss_cons (ds_if (dt_isN (de_var 2)) (dss_one (ds_set 2 nd (de_tup (dd_cons (de_var 5) (dd_cons (de_var 6) dd_nil))))) dss_nil) (dss_one (ds_if (dt_not (dt_v (de_call [false, true] c__law_right (hr.mono l__law_right) (da_cons (de_var 5) (da_cons (de_var 6) da_nil))))) (dss_one (ds_ret de_bl)) dss_nil))))))))) (dss_one (ds_ret (de_call [false, true] c__law_right (hr.mono l__law_right) (da_cons (de_ix hu (de_var 2) de_int) (da_cons (de_ix hu (de_var 2) de_int) da_nil))))))))⟩
end Pd
set_option Elab.async false
set_option linter.all false
set_option maxRecDepth 100000
set_option maxHeartbeats 4000000
namespace Pd
open PySem PySem.Spec PyProof.Rows L2
theorem sc_NoMachine___init__ : FnScope ["self", "part", "number"] ["self", "part", "number"] (defScope s_NoMachine___init__) := ⟨rfl, rfl, rfl, by decide +kernel, rfl, by decide +kernel, by decide +kernel⟩
theorem fx_NoMachine {P : Program} {w : World} {K : PySem.W.Frag} {mg : Str → Option Value} {base : Heap} {f C : Addr} {fd : FuncData} (F : Fun K "__init__" "NoMachine.__init__" s_NoMachine___init__ f fd) (T : OexC K C) (bb : BaseX K mg "TrialError") (h0 : PySem.W.findIn K (.ref C) "part" = some none) (h1 : PySem.W.findIn K (.ref C) "number" = some none) :
    FnOk P w K mg base (L2.CX P w) 1 f fd ["self", "part", "number"] (spX C ["part", "number"]) :=
  ok_init2 F sc_NoMachine___init__ T h0 h1 fun _ _ _ _ _ _ => pss_cons (ps_expr (pc_initB bb (by rfl) (by decide) (pa_cons (pv 0) (pa_cons pe_str pa_nil)) (by rfl) (by rfl) (by rfl))) (pss_cons (ps_ost (pv 0) (pv 1)) (pss_one (ps_ost (pv 0) (pv 2))))
theorem sc_NoTrial___init__ : FnScope ["self", "way"] ["self", "way"] (defScope s_NoTrial___init__) := ⟨rfl, rfl, rfl, by decide +kernel, rfl, by decide +kernel, by decide +kernel⟩
theorem fx_NoTrial {P : Program} {w : World} {K : PySem.W.Frag} {mg : Str → Option Value} {base : Heap} {f C : Addr} {fd : FuncData} (F : Fun K "__init__" "NoTrial.__init__" s_NoTrial___init__ f fd) (T : OexC K C) (bb : BaseX K mg "TrialError") (h0 : PySem.W.findIn K (.ref C) "way" = some none) :
    FnOk P w K mg base (L2.CX P w) 1 f fd ["self", "way"] (spX C ["way"]) :=
  ok_init1 F sc_NoTrial___init__ T h0 fun _ _ _ _ _ _ => pss_cons (ps_expr (pc_initB bb (by rfl) (by decide) (pa_cons (pv 0) (pa_cons pe_str pa_nil)) (by rfl) (by rfl) (by rfl))) (pss_one (ps_ost (pv 0) (pv 1)))
theorem hl_is_name : ∀ ss g E Q, (d_is_name.wp) ss g E Q → ss.length = 1 := by
  rintro ss g E Q ⟨x, h, _⟩
  first
    | (rw [show ss = _ from h]; rfl)
    | (rw [show ss = _ from h.1]; rfl)
    | (rw [show ss = _ from h.1.1]; rfl)
    | (obtain ⟨_, e, _⟩ := h; rw [show ss = _ from e]; rfl)
    | (obtain ⟨⟨_, e, _⟩, _⟩ := h; rw [show ss = _ from e]; rfl)
    | (obtain ⟨_, _, e, _⟩ := h; rw [show ss = _ from e]; rfl)
    | (obtain ⟨⟨_, _, e, _⟩, _⟩ := h; rw [show ss = _ from e]; rfl)
    | (obtain ⟨_, _, _, e, _⟩ := h; rw [show ss = _ from e]; rfl)
    | (obtain ⟨⟨_, _, _, e, _⟩, _⟩ := h; rw [show ss = _ from e]; rfl)
    | (obtain ⟨_, _, _, _, e, _⟩ := h; rw [show ss = _ from e]; rfl)
    | (obtain ⟨⟨_, _, _, _, e, _⟩, _⟩ := h; rw [show ss = _ from e]; rfl)
    | (obtain ⟨_, _, _, _, _, e, _⟩ := h; rw [show ss = _ from e]; rfl)
    | (obtain ⟨⟨_, _, _, _, _, e, _⟩, _⟩ := h; rw [show ss = _ from e]; rfl)
    | (obtain ⟨_, _, _, _, _, _, e, _⟩ := h; rw [show ss = _ from e]; rfl)
    | (obtain ⟨⟨_, _, _, _, _, _, e, _⟩, _⟩ := h; rw [show ss = _ from e]; rfl)
    | (obtain ⟨_, _, _, _, _, _, _, e, _⟩ := h; rw [show ss = _ from e]; rfl)
    | (obtain ⟨⟨_, _, _, _, _, _, _, e, _⟩, _⟩ := h; rw [show ss = _ from e]; rfl)
theorem hl_need_names : ∀ ss g E Q, (d_need.wp) ss g E Q → ss.length = 4 := by
  rintro ss g E Q ⟨x, h, _⟩
  first
    | (rw [show ss = _ from h]; rfl)
    | (rw [show ss = _ from h.1]; rfl)
    | (rw [show ss = _ from h.1.1]; rfl)
    | (obtain ⟨_, e, _⟩ := h; rw [show ss = _ from e]; rfl)
    | (obtain ⟨⟨_, e, _⟩, _⟩ := h; rw [show ss = _ from e]; rfl)
    | (obtain ⟨_, _, e, _⟩ := h; rw [show ss = _ from e]; rfl)
    | (obtain ⟨⟨_, _, e, _⟩, _⟩ := h; rw [show ss = _ from e]; rfl)
    | (obtain ⟨_, _, _, e, _⟩ := h; rw [show ss = _ from e]; rfl)
    | (obtain ⟨⟨_, _, _, e, _⟩, _⟩ := h; rw [show ss = _ from e]; rfl)
    | (obtain ⟨_, _, _, _, e, _⟩ := h; rw [show ss = _ from e]; rfl)
    | (obtain ⟨⟨_, _, _, _, e, _⟩, _⟩ := h; rw [show ss = _ from e]; rfl)
    | (obtain ⟨_, _, _, _, _, e, _⟩ := h; rw [show ss = _ from e]; rfl)
    | (obtain ⟨⟨_, _, _, _, _, e, _⟩, _⟩ := h; rw [show ss = _ from e]; rfl)
    | (obtain ⟨_, _, _, _, _, _, e, _⟩ := h; rw [show ss = _ from e]; rfl)
    | (obtain ⟨⟨_, _, _, _, _, _, e, _⟩, _⟩ := h; rw [show ss = _ from e]; rfl)
    | (obtain ⟨_, _, _, _, _, _, _, e, _⟩ := h; rw [show ss = _ from e]; rfl)
    | (obtain ⟨⟨_, _, _, _, _, _, _, e, _⟩, _⟩ := h; rw [show ss = _ from e]; rfl)
theorem hl_is_sign_of : ∀ ss g E Q, (d_sign.wp) ss g E Q → ss.length = 3 := by
  rintro ss g E Q ⟨x, h, _⟩
  first
    | (rw [show ss = _ from h]; rfl)
    | (rw [show ss = _ from h.1]; rfl)
    | (rw [show ss = _ from h.1.1]; rfl)
    | (obtain ⟨_, e, _⟩ := h; rw [show ss = _ from e]; rfl)
    | (obtain ⟨⟨_, e, _⟩, _⟩ := h; rw [show ss = _ from e]; rfl)
    | (obtain ⟨_, _, e, _⟩ := h; rw [show ss = _ from e]; rfl)
    | (obtain ⟨⟨_, _, e, _⟩, _⟩ := h; rw [show ss = _ from e]; rfl)
    | (obtain ⟨_, _, _, e, _⟩ := h; rw [show ss = _ from e]; rfl)
    | (obtain ⟨⟨_, _, _, e, _⟩, _⟩ := h; rw [show ss = _ from e]; rfl)
    | (obtain ⟨_, _, _, _, e, _⟩ := h; rw [show ss = _ from e]; rfl)
    | (obtain ⟨⟨_, _, _, _, e, _⟩, _⟩ := h; rw [show ss = _ from e]; rfl)
    | (obtain ⟨_, _, _, _, _, e, _⟩ := h; rw [show ss = _ from e]; rfl)
    | (obtain ⟨⟨_, _, _, _, _, e, _⟩, _⟩ := h; rw [show ss = _ from e]; rfl)
    | (obtain ⟨_, _, _, _, _, _, e, _⟩ := h; rw [show ss = _ from e]; rfl)
    | (obtain ⟨⟨_, _, _, _, _, _, e, _⟩, _⟩ := h; rw [show ss = _ from e]; rfl)
    | (obtain ⟨_, _, _, _, _, _, _, e, _⟩ := h; rw [show ss = _ from e]; rfl)
    | (obtain ⟨⟨_, _, _, _, _, _, _, e, _⟩, _⟩ := h; rw [show ss = _ from e]; rfl)
theorem hl_need_doors : ∀ ss g E Q, (d_needD.wp) ss g E Q → ss.length = 4 := by
  rintro ss g E Q ⟨x, h, _⟩
  first
    | (rw [show ss = _ from h]; rfl)
    | (rw [show ss = _ from h.1]; rfl)
    | (rw [show ss = _ from h.1.1]; rfl)
    | (obtain ⟨_, e, _⟩ := h; rw [show ss = _ from e]; rfl)
    | (obtain ⟨⟨_, e, _⟩, _⟩ := h; rw [show ss = _ from e]; rfl)
    | (obtain ⟨_, _, e, _⟩ := h; rw [show ss = _ from e]; rfl)
    | (obtain ⟨⟨_, _, e, _⟩, _⟩ := h; rw [show ss = _ from e]; rfl)
    | (obtain ⟨_, _, _, e, _⟩ := h; rw [show ss = _ from e]; rfl)
    | (obtain ⟨⟨_, _, _, e, _⟩, _⟩ := h; rw [show ss = _ from e]; rfl)
    | (obtain ⟨_, _, _, _, e, _⟩ := h; rw [show ss = _ from e]; rfl)
    | (obtain ⟨⟨_, _, _, _, e, _⟩, _⟩ := h; rw [show ss = _ from e]; rfl)
    | (obtain ⟨_, _, _, _, _, e, _⟩ := h; rw [show ss = _ from e]; rfl)
    | (obtain ⟨⟨_, _, _, _, _, e, _⟩, _⟩ := h; rw [show ss = _ from e]; rfl)
    | (obtain ⟨_, _, _, _, _, _, e, _⟩ := h; rw [show ss = _ from e]; rfl)
    | (obtain ⟨⟨_, _, _, _, _, _, e, _⟩, _⟩ := h; rw [show ss = _ from e]; rfl)
    | (obtain ⟨_, _, _, _, _, _, _, e, _⟩ := h; rw [show ss = _ from e]; rfl)
    | (obtain ⟨⟨_, _, _, _, _, _, _, e, _⟩, _⟩ := h; rw [show ss = _ from e]; rfl)
theorem hl_round : ∀ ss g E Q, (d_round.wp) ss g E Q → ss.length = 2 := by
  rintro ss g E Q ⟨x, h, _⟩
  first
    | (rw [show ss = _ from h]; rfl)
    | (rw [show ss = _ from h.1]; rfl)
    | (rw [show ss = _ from h.1.1]; rfl)
    | (obtain ⟨_, e, _⟩ := h; rw [show ss = _ from e]; rfl)
    | (obtain ⟨⟨_, e, _⟩, _⟩ := h; rw [show ss = _ from e]; rfl)
    | (obtain ⟨_, _, e, _⟩ := h; rw [show ss = _ from e]; rfl)
    | (obtain ⟨⟨_, _, e, _⟩, _⟩ := h; rw [show ss = _ from e]; rfl)
    | (obtain ⟨_, _, _, e, _⟩ := h; rw [show ss = _ from e]; rfl)
    | (obtain ⟨⟨_, _, _, e, _⟩, _⟩ := h; rw [show ss = _ from e]; rfl)
    | (obtain ⟨_, _, _, _, e, _⟩ := h; rw [show ss = _ from e]; rfl)
    | (obtain ⟨⟨_, _, _, _, e, _⟩, _⟩ := h; rw [show ss = _ from e]; rfl)
    | (obtain ⟨_, _, _, _, _, e, _⟩ := h; rw [show ss = _ from e]; rfl)
    | (obtain ⟨⟨_, _, _, _, _, e, _⟩, _⟩ := h; rw [show ss = _ from e]; rfl)
    | (obtain ⟨_, _, _, _, _, _, e, _⟩ := h; rw [show ss = _ from e]; rfl)
    | (obtain ⟨⟨_, _, _, _, _, _, e, _⟩, _⟩ := h; rw [show ss = _ from e]; rfl)
    | (obtain ⟨_, _, _, _, _, _, _, e, _⟩ := h; rw [show ss = _ from e]; rfl)
    | (obtain ⟨⟨_, _, _, _, _, _, _, e, _⟩, _⟩ := h; rw [show ss = _ from e]; rfl)
theorem hl_init : ∀ ss g E Q, (d_init.wp) ss g E Q → ss.length = 5 := by
  rintro ss g E Q ⟨x, h, _⟩
  first
    | (rw [show ss = _ from h]; rfl)
    | (rw [show ss = _ from h.1]; rfl)
    | (rw [show ss = _ from h.1.1]; rfl)
    | (obtain ⟨_, e, _⟩ := h; rw [show ss = _ from e]; rfl)
    | (obtain ⟨⟨_, e, _⟩, _⟩ := h; rw [show ss = _ from e]; rfl)
    | (obtain ⟨_, _, e, _⟩ := h; rw [show ss = _ from e]; rfl)
    | (obtain ⟨⟨_, _, e, _⟩, _⟩ := h; rw [show ss = _ from e]; rfl)
    | (obtain ⟨_, _, _, e, _⟩ := h; rw [show ss = _ from e]; rfl)
    | (obtain ⟨⟨_, _, _, e, _⟩, _⟩ := h; rw [show ss = _ from e]; rfl)
    | (obtain ⟨_, _, _, _, e, _⟩ := h; rw [show ss = _ from e]; rfl)
    | (obtain ⟨⟨_, _, _, _, e, _⟩, _⟩ := h; rw [show ss = _ from e]; rfl)
    | (obtain ⟨_, _, _, _, _, e, _⟩ := h; rw [show ss = _ from e]; rfl)
    | (obtain ⟨⟨_, _, _, _, _, e, _⟩, _⟩ := h; rw [show ss = _ from e]; rfl)
    | (obtain ⟨_, _, _, _, _, _, e, _⟩ := h; rw [show ss = _ from e]; rfl)
    | (obtain ⟨⟨_, _, _, _, _, _, e, _⟩, _⟩ := h; rw [show ss = _ from e]; rfl)
    | (obtain ⟨_, _, _, _, _, _, _, e, _⟩ := h; rw [show ss = _ from e]; rfl)
    | (obtain ⟨⟨_, _, _, _, _, _, _, e, _⟩, _⟩ := h; rw [show ss = _ from e]; rfl)
theorem hl_asks : ∀ ss g E Q, (d_asksD.wp) ss g E Q → ss.length = 1 := by
  rintro ss g E Q ⟨x, h, _⟩
  first
    | (rw [show ss = _ from h]; rfl)
    | (rw [show ss = _ from h.1]; rfl)
    | (rw [show ss = _ from h.1.1]; rfl)
    | (obtain ⟨_, e, _⟩ := h; rw [show ss = _ from e]; rfl)
    | (obtain ⟨⟨_, e, _⟩, _⟩ := h; rw [show ss = _ from e]; rfl)
    | (obtain ⟨_, _, e, _⟩ := h; rw [show ss = _ from e]; rfl)
    | (obtain ⟨⟨_, _, e, _⟩, _⟩ := h; rw [show ss = _ from e]; rfl)
    | (obtain ⟨_, _, _, e, _⟩ := h; rw [show ss = _ from e]; rfl)
    | (obtain ⟨⟨_, _, _, e, _⟩, _⟩ := h; rw [show ss = _ from e]; rfl)
    | (obtain ⟨_, _, _, _, e, _⟩ := h; rw [show ss = _ from e]; rfl)
    | (obtain ⟨⟨_, _, _, _, e, _⟩, _⟩ := h; rw [show ss = _ from e]; rfl)
    | (obtain ⟨_, _, _, _, _, e, _⟩ := h; rw [show ss = _ from e]; rfl)
    | (obtain ⟨⟨_, _, _, _, _, e, _⟩, _⟩ := h; rw [show ss = _ from e]; rfl)
    | (obtain ⟨_, _, _, _, _, _, e, _⟩ := h; rw [show ss = _ from e]; rfl)
    | (obtain ⟨⟨_, _, _, _, _, _, e, _⟩, _⟩ := h; rw [show ss = _ from e]; rfl)
    | (obtain ⟨_, _, _, _, _, _, _, e, _⟩ := h; rw [show ss = _ from e]; rfl)
    | (obtain ⟨⟨_, _, _, _, _, _, _, e, _⟩, _⟩ := h; rw [show ss = _ from e]; rfl)
theorem hl_says : ∀ ss g E Q, (d_saysD.wp) ss g E Q → ss.length = 1 := by
  rintro ss g E Q ⟨x, h, _⟩
  first
    | (rw [show ss = _ from h]; rfl)
    | (rw [show ss = _ from h.1]; rfl)
    | (rw [show ss = _ from h.1.1]; rfl)
    | (obtain ⟨_, e, _⟩ := h; rw [show ss = _ from e]; rfl)
    | (obtain ⟨⟨_, e, _⟩, _⟩ := h; rw [show ss = _ from e]; rfl)
    | (obtain ⟨_, _, e, _⟩ := h; rw [show ss = _ from e]; rfl)
    | (obtain ⟨⟨_, _, e, _⟩, _⟩ := h; rw [show ss = _ from e]; rfl)
    | (obtain ⟨_, _, _, e, _⟩ := h; rw [show ss = _ from e]; rfl)
    | (obtain ⟨⟨_, _, _, e, _⟩, _⟩ := h; rw [show ss = _ from e]; rfl)
    | (obtain ⟨_, _, _, _, e, _⟩ := h; rw [show ss = _ from e]; rfl)
    | (obtain ⟨⟨_, _, _, _, e, _⟩, _⟩ := h; rw [show ss = _ from e]; rfl)
    | (obtain ⟨_, _, _, _, _, e, _⟩ := h; rw [show ss = _ from e]; rfl)
    | (obtain ⟨⟨_, _, _, _, _, e, _⟩, _⟩ := h; rw [show ss = _ from e]; rfl)
    | (obtain ⟨_, _, _, _, _, _, e, _⟩ := h; rw [show ss = _ from e]; rfl)
    | (obtain ⟨⟨_, _, _, _, _, _, e, _⟩, _⟩ := h; rw [show ss = _ from e]; rfl)
    | (obtain ⟨_, _, _, _, _, _, _, e, _⟩ := h; rw [show ss = _ from e]; rfl)
    | (obtain ⟨⟨_, _, _, _, _, _, _, e, _⟩, _⟩ := h; rw [show ss = _ from e]; rfl)
theorem hl_inner : ∀ ss g E Q, (d_inner.wp) ss g E Q → ss.length = 1 := by
  rintro ss g E Q ⟨x, h, _⟩
  first
    | (rw [show ss = _ from h]; rfl)
    | (rw [show ss = _ from h.1]; rfl)
    | (rw [show ss = _ from h.1.1]; rfl)
    | (obtain ⟨_, e, _⟩ := h; rw [show ss = _ from e]; rfl)
    | (obtain ⟨⟨_, e, _⟩, _⟩ := h; rw [show ss = _ from e]; rfl)
    | (obtain ⟨_, _, e, _⟩ := h; rw [show ss = _ from e]; rfl)
    | (obtain ⟨⟨_, _, e, _⟩, _⟩ := h; rw [show ss = _ from e]; rfl)
    | (obtain ⟨_, _, _, e, _⟩ := h; rw [show ss = _ from e]; rfl)
    | (obtain ⟨⟨_, _, _, e, _⟩, _⟩ := h; rw [show ss = _ from e]; rfl)
    | (obtain ⟨_, _, _, _, e, _⟩ := h; rw [show ss = _ from e]; rfl)
    | (obtain ⟨⟨_, _, _, _, e, _⟩, _⟩ := h; rw [show ss = _ from e]; rfl)
    | (obtain ⟨_, _, _, _, _, e, _⟩ := h; rw [show ss = _ from e]; rfl)
    | (obtain ⟨⟨_, _, _, _, _, e, _⟩, _⟩ := h; rw [show ss = _ from e]; rfl)
    | (obtain ⟨_, _, _, _, _, _, e, _⟩ := h; rw [show ss = _ from e]; rfl)
    | (obtain ⟨⟨_, _, _, _, _, _, e, _⟩, _⟩ := h; rw [show ss = _ from e]; rfl)
    | (obtain ⟨_, _, _, _, _, _, _, e, _⟩ := h; rw [show ss = _ from e]; rfl)
    | (obtain ⟨⟨_, _, _, _, _, _, _, e, _⟩, _⟩ := h; rw [show ss = _ from e]; rfl)
theorem hl_isso : ∀ ss g E Q, (d_isso.wp) ss g E Q → ss.length = 2 := by
  rintro ss g E Q ⟨x, h, _⟩
  first
    | (rw [show ss = _ from h]; rfl)
    | (rw [show ss = _ from h.1]; rfl)
    | (rw [show ss = _ from h.1.1]; rfl)
    | (obtain ⟨_, e, _⟩ := h; rw [show ss = _ from e]; rfl)
    | (obtain ⟨⟨_, e, _⟩, _⟩ := h; rw [show ss = _ from e]; rfl)
    | (obtain ⟨_, _, e, _⟩ := h; rw [show ss = _ from e]; rfl)
    | (obtain ⟨⟨_, _, e, _⟩, _⟩ := h; rw [show ss = _ from e]; rfl)
    | (obtain ⟨_, _, _, e, _⟩ := h; rw [show ss = _ from e]; rfl)
    | (obtain ⟨⟨_, _, _, e, _⟩, _⟩ := h; rw [show ss = _ from e]; rfl)
    | (obtain ⟨_, _, _, _, e, _⟩ := h; rw [show ss = _ from e]; rfl)
    | (obtain ⟨⟨_, _, _, _, e, _⟩, _⟩ := h; rw [show ss = _ from e]; rfl)
    | (obtain ⟨_, _, _, _, _, e, _⟩ := h; rw [show ss = _ from e]; rfl)
    | (obtain ⟨⟨_, _, _, _, _, e, _⟩, _⟩ := h; rw [show ss = _ from e]; rfl)
    | (obtain ⟨_, _, _, _, _, _, e, _⟩ := h; rw [show ss = _ from e]; rfl)
    | (obtain ⟨⟨_, _, _, _, _, _, e, _⟩, _⟩ := h; rw [show ss = _ from e]; rfl)
    | (obtain ⟨_, _, _, _, _, _, _, e, _⟩ := h; rw [show ss = _ from e]; rfl)
    | (obtain ⟨⟨_, _, _, _, _, _, _, e, _⟩, _⟩ := h; rw [show ss = _ from e]; rfl)
theorem hl_needtrial : ∀ ss g E Q, (d_needtrial.wp) ss g E Q → ss.length = 2 := by
  rintro ss g E Q ⟨x, h, _⟩
  first
    | (rw [show ss = _ from h]; rfl)
    | (rw [show ss = _ from h.1]; rfl)
    | (rw [show ss = _ from h.1.1]; rfl)
    | (obtain ⟨_, e, _⟩ := h; rw [show ss = _ from e]; rfl)
    | (obtain ⟨⟨_, e, _⟩, _⟩ := h; rw [show ss = _ from e]; rfl)
    | (obtain ⟨_, _, e, _⟩ := h; rw [show ss = _ from e]; rfl)
    | (obtain ⟨⟨_, _, e, _⟩, _⟩ := h; rw [show ss = _ from e]; rfl)
    | (obtain ⟨_, _, _, e, _⟩ := h; rw [show ss = _ from e]; rfl)
    | (obtain ⟨⟨_, _, _, e, _⟩, _⟩ := h; rw [show ss = _ from e]; rfl)
    | (obtain ⟨_, _, _, _, e, _⟩ := h; rw [show ss = _ from e]; rfl)
    | (obtain ⟨⟨_, _, _, _, e, _⟩, _⟩ := h; rw [show ss = _ from e]; rfl)
    | (obtain ⟨_, _, _, _, _, e, _⟩ := h; rw [show ss = _ from e]; rfl)
    | (obtain ⟨⟨_, _, _, _, _, e, _⟩, _⟩ := h; rw [show ss = _ from e]; rfl)
    | (obtain ⟨_, _, _, _, _, _, e, _⟩ := h; rw [show ss = _ from e]; rfl)
    | (obtain ⟨⟨_, _, _, _, _, _, e, _⟩, _⟩ := h; rw [show ss = _ from e]; rfl)
    | (obtain ⟨_, _, _, _, _, _, _, e, _⟩ := h; rw [show ss = _ from e]; rfl)
    | (obtain ⟨⟨_, _, _, _, _, _, _, e, _⟩, _⟩ := h; rw [show ss = _ from e]; rfl)
theorem hl_tsigns : ∀ ss g E Q, (d_tsigns.wp) ss g E Q → ss.length = 1 := by
  rintro ss g E Q ⟨x, h, _⟩
  first
    | (rw [show ss = _ from h]; rfl)
    | (rw [show ss = _ from h.1]; rfl)
    | (rw [show ss = _ from h.1.1]; rfl)
    | (obtain ⟨_, e, _⟩ := h; rw [show ss = _ from e]; rfl)
    | (obtain ⟨⟨_, e, _⟩, _⟩ := h; rw [show ss = _ from e]; rfl)
    | (obtain ⟨_, _, e, _⟩ := h; rw [show ss = _ from e]; rfl)
    | (obtain ⟨⟨_, _, e, _⟩, _⟩ := h; rw [show ss = _ from e]; rfl)
    | (obtain ⟨_, _, _, e, _⟩ := h; rw [show ss = _ from e]; rfl)
    | (obtain ⟨⟨_, _, _, e, _⟩, _⟩ := h; rw [show ss = _ from e]; rfl)
    | (obtain ⟨_, _, _, _, e, _⟩ := h; rw [show ss = _ from e]; rfl)
    | (obtain ⟨⟨_, _, _, _, e, _⟩, _⟩ := h; rw [show ss = _ from e]; rfl)
    | (obtain ⟨_, _, _, _, _, e, _⟩ := h; rw [show ss = _ from e]; rfl)
    | (obtain ⟨⟨_, _, _, _, _, e, _⟩, _⟩ := h; rw [show ss = _ from e]; rfl)
    | (obtain ⟨_, _, _, _, _, _, e, _⟩ := h; rw [show ss = _ from e]; rfl)
    | (obtain ⟨⟨_, _, _, _, _, _, e, _⟩, _⟩ := h; rw [show ss = _ from e]; rfl)
    | (obtain ⟨_, _, _, _, _, _, _, e, _⟩ := h; rw [show ss = _ from e]; rfl)
    | (obtain ⟨⟨_, _, _, _, _, _, _, e, _⟩, _⟩ := h; rw [show ss = _ from e]; rfl)
theorem hl_tleaves : ∀ ss g E Q, (d_tleaves.wp) ss g E Q → ss.length = 2 := by
  rintro ss g E Q ⟨x, h, _⟩
  first
    | (rw [show ss = _ from h]; rfl)
    | (rw [show ss = _ from h.1]; rfl)
    | (rw [show ss = _ from h.1.1]; rfl)
    | (obtain ⟨_, e, _⟩ := h; rw [show ss = _ from e]; rfl)
    | (obtain ⟨⟨_, e, _⟩, _⟩ := h; rw [show ss = _ from e]; rfl)
    | (obtain ⟨_, _, e, _⟩ := h; rw [show ss = _ from e]; rfl)
    | (obtain ⟨⟨_, _, e, _⟩, _⟩ := h; rw [show ss = _ from e]; rfl)
    | (obtain ⟨_, _, _, e, _⟩ := h; rw [show ss = _ from e]; rfl)
    | (obtain ⟨⟨_, _, _, e, _⟩, _⟩ := h; rw [show ss = _ from e]; rfl)
    | (obtain ⟨_, _, _, _, e, _⟩ := h; rw [show ss = _ from e]; rfl)
    | (obtain ⟨⟨_, _, _, _, e, _⟩, _⟩ := h; rw [show ss = _ from e]; rfl)
    | (obtain ⟨_, _, _, _, _, e, _⟩ := h; rw [show ss = _ from e]; rfl)
    | (obtain ⟨⟨_, _, _, _, _, e, _⟩, _⟩ := h; rw [show ss = _ from e]; rfl)
    | (obtain ⟨_, _, _, _, _, _, e, _⟩ := h; rw [show ss = _ from e]; rfl)
    | (obtain ⟨⟨_, _, _, _, _, _, e, _⟩, _⟩ := h; rw [show ss = _ from e]; rfl)
    | (obtain ⟨_, _, _, _, _, _, _, e, _⟩ := h; rw [show ss = _ from e]; rfl)
    | (obtain ⟨⟨_, _, _, _, _, _, _, e, _⟩, _⟩ := h; rw [show ss = _ from e]; rfl)
theorem hl_spread : ∀ ss g E Q, (d_spread.wp) ss g E Q → ss.length = 2 := by
  rintro ss g E Q ⟨x, h, _⟩
  first
    | (rw [show ss = _ from h]; rfl)
    | (rw [show ss = _ from h.1]; rfl)
    | (rw [show ss = _ from h.1.1]; rfl)
    | (obtain ⟨_, e, _⟩ := h; rw [show ss = _ from e]; rfl)
    | (obtain ⟨⟨_, e, _⟩, _⟩ := h; rw [show ss = _ from e]; rfl)
    | (obtain ⟨_, _, e, _⟩ := h; rw [show ss = _ from e]; rfl)
    | (obtain ⟨⟨_, _, e, _⟩, _⟩ := h; rw [show ss = _ from e]; rfl)
    | (obtain ⟨_, _, _, e, _⟩ := h; rw [show ss = _ from e]; rfl)
    | (obtain ⟨⟨_, _, _, e, _⟩, _⟩ := h; rw [show ss = _ from e]; rfl)
    | (obtain ⟨_, _, _, _, e, _⟩ := h; rw [show ss = _ from e]; rfl)
    | (obtain ⟨⟨_, _, _, _, e, _⟩, _⟩ := h; rw [show ss = _ from e]; rfl)
    | (obtain ⟨_, _, _, _, _, e, _⟩ := h; rw [show ss = _ from e]; rfl)
    | (obtain ⟨⟨_, _, _, _, _, e, _⟩, _⟩ := h; rw [show ss = _ from e]; rfl)
    | (obtain ⟨_, _, _, _, _, _, e, _⟩ := h; rw [show ss = _ from e]; rfl)
    | (obtain ⟨⟨_, _, _, _, _, _, e, _⟩, _⟩ := h; rw [show ss = _ from e]; rfl)
    | (obtain ⟨_, _, _, _, _, _, _, e, _⟩ := h; rw [show ss = _ from e]; rfl)
    | (obtain ⟨⟨_, _, _, _, _, _, _, e, _⟩, _⟩ := h; rw [show ss = _ from e]; rfl)
theorem hl_open : ∀ ss g E Q, (d_open.wp) ss g E Q → ss.length = 1 := by
  rintro ss g E Q ⟨x, h, _⟩
  first
    | (rw [show ss = _ from h]; rfl)
    | (rw [show ss = _ from h.1]; rfl)
    | (rw [show ss = _ from h.1.1]; rfl)
    | (obtain ⟨_, e, _⟩ := h; rw [show ss = _ from e]; rfl)
    | (obtain ⟨⟨_, e, _⟩, _⟩ := h; rw [show ss = _ from e]; rfl)
    | (obtain ⟨_, _, e, _⟩ := h; rw [show ss = _ from e]; rfl)
    | (obtain ⟨⟨_, _, e, _⟩, _⟩ := h; rw [show ss = _ from e]; rfl)
    | (obtain ⟨_, _, _, e, _⟩ := h; rw [show ss = _ from e]; rfl)
    | (obtain ⟨⟨_, _, _, e, _⟩, _⟩ := h; rw [show ss = _ from e]; rfl)
    | (obtain ⟨_, _, _, _, e, _⟩ := h; rw [show ss = _ from e]; rfl)
    | (obtain ⟨⟨_, _, _, _, e, _⟩, _⟩ := h; rw [show ss = _ from e]; rfl)
    | (obtain ⟨_, _, _, _, _, e, _⟩ := h; rw [show ss = _ from e]; rfl)
    | (obtain ⟨⟨_, _, _, _, _, e, _⟩, _⟩ := h; rw [show ss = _ from e]; rfl)
    | (obtain ⟨_, _, _, _, _, _, e, _⟩ := h; rw [show ss = _ from e]; rfl)
    | (obtain ⟨⟨_, _, _, _, _, _, e, _⟩, _⟩ := h; rw [show ss = _ from e]; rfl)
    | (obtain ⟨_, _, _, _, _, _, _, e, _⟩ := h; rw [show ss = _ from e]; rfl)
    | (obtain ⟨⟨_, _, _, _, _, _, _, e, _⟩, _⟩ := h; rw [show ss = _ from e]; rfl)
theorem hl_take : ∀ ss g E Q, (d_take.wp) ss g E Q → ss.length = 2 := by
  rintro ss g E Q ⟨x, h, _⟩
  first
    | (rw [show ss = _ from h]; rfl)
    | (rw [show ss = _ from h.1]; rfl)
    | (rw [show ss = _ from h.1.1]; rfl)
    | (obtain ⟨_, e, _⟩ := h; rw [show ss = _ from e]; rfl)
    | (obtain ⟨⟨_, e, _⟩, _⟩ := h; rw [show ss = _ from e]; rfl)
    | (obtain ⟨_, _, e, _⟩ := h; rw [show ss = _ from e]; rfl)
    | (obtain ⟨⟨_, _, e, _⟩, _⟩ := h; rw [show ss = _ from e]; rfl)
    | (obtain ⟨_, _, _, e, _⟩ := h; rw [show ss = _ from e]; rfl)
    | (obtain ⟨⟨_, _, _, e, _⟩, _⟩ := h; rw [show ss = _ from e]; rfl)
    | (obtain ⟨_, _, _, _, e, _⟩ := h; rw [show ss = _ from e]; rfl)
    | (obtain ⟨⟨_, _, _, _, e, _⟩, _⟩ := h; rw [show ss = _ from e]; rfl)
    | (obtain ⟨_, _, _, _, _, e, _⟩ := h; rw [show ss = _ from e]; rfl)
    | (obtain ⟨⟨_, _, _, _, _, e, _⟩, _⟩ := h; rw [show ss = _ from e]; rfl)
    | (obtain ⟨_, _, _, _, _, _, e, _⟩ := h; rw [show ss = _ from e]; rfl)
    | (obtain ⟨⟨_, _, _, _, _, _, e, _⟩, _⟩ := h; rw [show ss = _ from e]; rfl)
    | (obtain ⟨_, _, _, _, _, _, _, e, _⟩ := h; rw [show ss = _ from e]; rfl)
    | (obtain ⟨⟨_, _, _, _, _, _, _, e, _⟩, _⟩ := h; rw [show ss = _ from e]; rfl)
theorem hl_names : ∀ ss g E Q, (d_names.wp) ss g E Q → ss.length = 2 := by
  rintro ss g E Q ⟨x, h, _⟩
  first
    | (rw [show ss = _ from h]; rfl)
    | (rw [show ss = _ from h.1]; rfl)
    | (rw [show ss = _ from h.1.1]; rfl)
    | (obtain ⟨_, e, _⟩ := h; rw [show ss = _ from e]; rfl)
    | (obtain ⟨⟨_, e, _⟩, _⟩ := h; rw [show ss = _ from e]; rfl)
    | (obtain ⟨_, _, e, _⟩ := h; rw [show ss = _ from e]; rfl)
    | (obtain ⟨⟨_, _, e, _⟩, _⟩ := h; rw [show ss = _ from e]; rfl)
    | (obtain ⟨_, _, _, e, _⟩ := h; rw [show ss = _ from e]; rfl)
    | (obtain ⟨⟨_, _, _, e, _⟩, _⟩ := h; rw [show ss = _ from e]; rfl)
    | (obtain ⟨_, _, _, _, e, _⟩ := h; rw [show ss = _ from e]; rfl)
    | (obtain ⟨⟨_, _, _, _, e, _⟩, _⟩ := h; rw [show ss = _ from e]; rfl)
    | (obtain ⟨_, _, _, _, _, e, _⟩ := h; rw [show ss = _ from e]; rfl)
    | (obtain ⟨⟨_, _, _, _, _, e, _⟩, _⟩ := h; rw [show ss = _ from e]; rfl)
    | (obtain ⟨_, _, _, _, _, _, e, _⟩ := h; rw [show ss = _ from e]; rfl)
    | (obtain ⟨⟨_, _, _, _, _, _, e, _⟩, _⟩ := h; rw [show ss = _ from e]; rfl)
    | (obtain ⟨_, _, _, _, _, _, _, e, _⟩ := h; rw [show ss = _ from e]; rfl)
    | (obtain ⟨⟨_, _, _, _, _, _, _, e, _⟩, _⟩ := h; rw [show ss = _ from e]; rfl)
theorem hl_anew : ∀ ss g E Q, (d_anew.wp) ss g E Q → ss.length = 1 := by
  rintro ss g E Q ⟨x, h, _⟩
  first
    | (rw [show ss = _ from h]; rfl)
    | (rw [show ss = _ from h.1]; rfl)
    | (rw [show ss = _ from h.1.1]; rfl)
    | (obtain ⟨_, e, _⟩ := h; rw [show ss = _ from e]; rfl)
    | (obtain ⟨⟨_, e, _⟩, _⟩ := h; rw [show ss = _ from e]; rfl)
    | (obtain ⟨_, _, e, _⟩ := h; rw [show ss = _ from e]; rfl)
    | (obtain ⟨⟨_, _, e, _⟩, _⟩ := h; rw [show ss = _ from e]; rfl)
    | (obtain ⟨_, _, _, e, _⟩ := h; rw [show ss = _ from e]; rfl)
    | (obtain ⟨⟨_, _, _, e, _⟩, _⟩ := h; rw [show ss = _ from e]; rfl)
    | (obtain ⟨_, _, _, _, e, _⟩ := h; rw [show ss = _ from e]; rfl)
    | (obtain ⟨⟨_, _, _, _, e, _⟩, _⟩ := h; rw [show ss = _ from e]; rfl)
    | (obtain ⟨_, _, _, _, _, e, _⟩ := h; rw [show ss = _ from e]; rfl)
    | (obtain ⟨⟨_, _, _, _, _, e, _⟩, _⟩ := h; rw [show ss = _ from e]; rfl)
    | (obtain ⟨_, _, _, _, _, _, e, _⟩ := h; rw [show ss = _ from e]; rfl)
    | (obtain ⟨⟨_, _, _, _, _, _, e, _⟩, _⟩ := h; rw [show ss = _ from e]; rfl)
    | (obtain ⟨_, _, _, _, _, _, _, e, _⟩ := h; rw [show ss = _ from e]; rfl)
    | (obtain ⟨⟨_, _, _, _, _, _, _, e, _⟩, _⟩ := h; rw [show ss = _ from e]; rfl)
theorem hl_put : ∀ ss g E Q, (d_put.wp) ss g E Q → ss.length = 2 := by
  rintro ss g E Q ⟨x, h, _⟩
  first
    | (rw [show ss = _ from h]; rfl)
    | (rw [show ss = _ from h.1]; rfl)
    | (rw [show ss = _ from h.1.1]; rfl)
    | (obtain ⟨_, e, _⟩ := h; rw [show ss = _ from e]; rfl)
    | (obtain ⟨⟨_, e, _⟩, _⟩ := h; rw [show ss = _ from e]; rfl)
    | (obtain ⟨_, _, e, _⟩ := h; rw [show ss = _ from e]; rfl)
    | (obtain ⟨⟨_, _, e, _⟩, _⟩ := h; rw [show ss = _ from e]; rfl)
    | (obtain ⟨_, _, _, e, _⟩ := h; rw [show ss = _ from e]; rfl)
    | (obtain ⟨⟨_, _, _, e, _⟩, _⟩ := h; rw [show ss = _ from e]; rfl)
    | (obtain ⟨_, _, _, _, e, _⟩ := h; rw [show ss = _ from e]; rfl)
    | (obtain ⟨⟨_, _, _, _, e, _⟩, _⟩ := h; rw [show ss = _ from e]; rfl)
    | (obtain ⟨_, _, _, _, _, e, _⟩ := h; rw [show ss = _ from e]; rfl)
    | (obtain ⟨⟨_, _, _, _, _, e, _⟩, _⟩ := h; rw [show ss = _ from e]; rfl)
    | (obtain ⟨_, _, _, _, _, _, e, _⟩ := h; rw [show ss = _ from e]; rfl)
    | (obtain ⟨⟨_, _, _, _, _, _, e, _⟩, _⟩ := h; rw [show ss = _ from e]; rfl)
    | (obtain ⟨_, _, _, _, _, _, _, e, _⟩ := h; rw [show ss = _ from e]; rfl)
    | (obtain ⟨⟨_, _, _, _, _, _, _, e, _⟩, _⟩ := h; rw [show ss = _ from e]; rfl)
theorem hl_draw : ∀ ss g E Q, (d_draw.wp) ss g E Q → ss.length = 5 := by
  rintro ss g E Q ⟨x, h, _⟩
  first
    | (rw [show ss = _ from h]; rfl)
    | (rw [show ss = _ from h.1]; rfl)
    | (rw [show ss = _ from h.1.1]; rfl)
    | (obtain ⟨_, e, _⟩ := h; rw [show ss = _ from e]; rfl)
    | (obtain ⟨⟨_, e, _⟩, _⟩ := h; rw [show ss = _ from e]; rfl)
    | (obtain ⟨_, _, e, _⟩ := h; rw [show ss = _ from e]; rfl)
    | (obtain ⟨⟨_, _, e, _⟩, _⟩ := h; rw [show ss = _ from e]; rfl)
    | (obtain ⟨_, _, _, e, _⟩ := h; rw [show ss = _ from e]; rfl)
    | (obtain ⟨⟨_, _, _, e, _⟩, _⟩ := h; rw [show ss = _ from e]; rfl)
    | (obtain ⟨_, _, _, _, e, _⟩ := h; rw [show ss = _ from e]; rfl)
    | (obtain ⟨⟨_, _, _, _, e, _⟩, _⟩ := h; rw [show ss = _ from e]; rfl)
    | (obtain ⟨_, _, _, _, _, e, _⟩ := h; rw [show ss = _ from e]; rfl)
    | (obtain ⟨⟨_, _, _, _, _, e, _⟩, _⟩ := h; rw [show ss = _ from e]; rfl)
    | (obtain ⟨_, _, _, _, _, _, e, _⟩ := h; rw [show ss = _ from e]; rfl)
    | (obtain ⟨⟨_, _, _, _, _, _, e, _⟩, _⟩ := h; rw [show ss = _ from e]; rfl)
    | (obtain ⟨_, _, _, _, _, _, _, e, _⟩ := h; rw [show ss = _ from e]; rfl)
    | (obtain ⟨⟨_, _, _, _, _, _, _, e, _⟩, _⟩ := h; rw [show ss = _ from e]; rfl)
theorem hl_model : ∀ ss g E Q, (d_model.wp) ss g E Q → ss.length = 3 := by
  rintro ss g E Q ⟨x, h, _⟩
  first
    | (rw [show ss = _ from h]; rfl)
    | (rw [show ss = _ from h.1]; rfl)
    | (rw [show ss = _ from h.1.1]; rfl)
    | (obtain ⟨_, e, _⟩ := h; rw [show ss = _ from e]; rfl)
    | (obtain ⟨⟨_, e, _⟩, _⟩ := h; rw [show ss = _ from e]; rfl)
    | (obtain ⟨_, _, e, _⟩ := h; rw [show ss = _ from e]; rfl)
    | (obtain ⟨⟨_, _, e, _⟩, _⟩ := h; rw [show ss = _ from e]; rfl)
    | (obtain ⟨_, _, _, e, _⟩ := h; rw [show ss = _ from e]; rfl)
    | (obtain ⟨⟨_, _, _, e, _⟩, _⟩ := h; rw [show ss = _ from e]; rfl)
    | (obtain ⟨_, _, _, _, e, _⟩ := h; rw [show ss = _ from e]; rfl)
    | (obtain ⟨⟨_, _, _, _, e, _⟩, _⟩ := h; rw [show ss = _ from e]; rfl)
    | (obtain ⟨_, _, _, _, _, e, _⟩ := h; rw [show ss = _ from e]; rfl)
    | (obtain ⟨⟨_, _, _, _, _, e, _⟩, _⟩ := h; rw [show ss = _ from e]; rfl)
    | (obtain ⟨_, _, _, _, _, _, e, _⟩ := h; rw [show ss = _ from e]; rfl)
    | (obtain ⟨⟨_, _, _, _, _, _, e, _⟩, _⟩ := h; rw [show ss = _ from e]; rfl)
    | (obtain ⟨_, _, _, _, _, _, _, e, _⟩ := h; rw [show ss = _ from e]; rfl)
    | (obtain ⟨⟨_, _, _, _, _, _, _, e, _⟩, _⟩ := h; rw [show ss = _ from e]; rfl)
theorem hl_stillon : ∀ ss g E Q, (d_stillon.wp) ss g E Q → ss.length = 2 := by
  rintro ss g E Q ⟨x, h, _⟩
  first
    | (rw [show ss = _ from h]; rfl)
    | (rw [show ss = _ from h.1]; rfl)
    | (rw [show ss = _ from h.1.1]; rfl)
    | (obtain ⟨_, e, _⟩ := h; rw [show ss = _ from e]; rfl)
    | (obtain ⟨⟨_, e, _⟩, _⟩ := h; rw [show ss = _ from e]; rfl)
    | (obtain ⟨_, _, e, _⟩ := h; rw [show ss = _ from e]; rfl)
    | (obtain ⟨⟨_, _, e, _⟩, _⟩ := h; rw [show ss = _ from e]; rfl)
    | (obtain ⟨_, _, _, e, _⟩ := h; rw [show ss = _ from e]; rfl)
    | (obtain ⟨⟨_, _, _, e, _⟩, _⟩ := h; rw [show ss = _ from e]; rfl)
    | (obtain ⟨_, _, _, _, e, _⟩ := h; rw [show ss = _ from e]; rfl)
    | (obtain ⟨⟨_, _, _, _, e, _⟩, _⟩ := h; rw [show ss = _ from e]; rfl)
    | (obtain ⟨_, _, _, _, _, e, _⟩ := h; rw [show ss = _ from e]; rfl)
    | (obtain ⟨⟨_, _, _, _, _, e, _⟩, _⟩ := h; rw [show ss = _ from e]; rfl)
    | (obtain ⟨_, _, _, _, _, _, e, _⟩ := h; rw [show ss = _ from e]; rfl)
    | (obtain ⟨⟨_, _, _, _, _, _, e, _⟩, _⟩ := h; rw [show ss = _ from e]; rfl)
    | (obtain ⟨_, _, _, _, _, _, _, e, _⟩ := h; rw [show ss = _ from e]; rfl)
    | (obtain ⟨⟨_, _, _, _, _, _, _, e, _⟩, _⟩ := h; rw [show ss = _ from e]; rfl)
theorem hl_mach : ∀ ss g E Q, (d_mach.wp) ss g E Q → ss.length = 1 := by
  rintro ss g E Q ⟨x, h, _⟩
  first
    | (rw [show ss = _ from h]; rfl)
    | (rw [show ss = _ from h.1]; rfl)
    | (rw [show ss = _ from h.1.1]; rfl)
    | (obtain ⟨_, e, _⟩ := h; rw [show ss = _ from e]; rfl)
    | (obtain ⟨⟨_, e, _⟩, _⟩ := h; rw [show ss = _ from e]; rfl)
    | (obtain ⟨_, _, e, _⟩ := h; rw [show ss = _ from e]; rfl)
    | (obtain ⟨⟨_, _, e, _⟩, _⟩ := h; rw [show ss = _ from e]; rfl)
    | (obtain ⟨_, _, _, e, _⟩ := h; rw [show ss = _ from e]; rfl)
    | (obtain ⟨⟨_, _, _, e, _⟩, _⟩ := h; rw [show ss = _ from e]; rfl)
    | (obtain ⟨_, _, _, _, e, _⟩ := h; rw [show ss = _ from e]; rfl)
    | (obtain ⟨⟨_, _, _, _, e, _⟩, _⟩ := h; rw [show ss = _ from e]; rfl)
    | (obtain ⟨_, _, _, _, _, e, _⟩ := h; rw [show ss = _ from e]; rfl)
    | (obtain ⟨⟨_, _, _, _, _, e, _⟩, _⟩ := h; rw [show ss = _ from e]; rfl)
    | (obtain ⟨_, _, _, _, _, _, e, _⟩ := h; rw [show ss = _ from e]; rfl)
    | (obtain ⟨⟨_, _, _, _, _, _, e, _⟩, _⟩ := h; rw [show ss = _ from e]; rfl)
    | (obtain ⟨_, _, _, _, _, _, _, e, _⟩ := h; rw [show ss = _ from e]; rfl)
    | (obtain ⟨⟨_, _, _, _, _, _, _, e, _⟩, _⟩ := h; rw [show ss = _ from e]; rfl)
theorem hl_same0 : ∀ ss g E Q, ((d_same 0).wp) ss g E Q → ss.length = 2 := by
  rintro ss g E Q ⟨x, h, _⟩
  first
    | (rw [show ss = _ from h]; rfl)
    | (rw [show ss = _ from h.1]; rfl)
    | (rw [show ss = _ from h.1.1]; rfl)
    | (obtain ⟨_, e, _⟩ := h; rw [show ss = _ from e]; rfl)
    | (obtain ⟨⟨_, e, _⟩, _⟩ := h; rw [show ss = _ from e]; rfl)
    | (obtain ⟨_, _, e, _⟩ := h; rw [show ss = _ from e]; rfl)
    | (obtain ⟨⟨_, _, e, _⟩, _⟩ := h; rw [show ss = _ from e]; rfl)
    | (obtain ⟨_, _, _, e, _⟩ := h; rw [show ss = _ from e]; rfl)
    | (obtain ⟨⟨_, _, _, e, _⟩, _⟩ := h; rw [show ss = _ from e]; rfl)
    | (obtain ⟨_, _, _, _, e, _⟩ := h; rw [show ss = _ from e]; rfl)
    | (obtain ⟨⟨_, _, _, _, e, _⟩, _⟩ := h; rw [show ss = _ from e]; rfl)
    | (obtain ⟨_, _, _, _, _, e, _⟩ := h; rw [show ss = _ from e]; rfl)
    | (obtain ⟨⟨_, _, _, _, _, e, _⟩, _⟩ := h; rw [show ss = _ from e]; rfl)
    | (obtain ⟨_, _, _, _, _, _, e, _⟩ := h; rw [show ss = _ from e]; rfl)
    | (obtain ⟨⟨_, _, _, _, _, _, e, _⟩, _⟩ := h; rw [show ss = _ from e]; rfl)
    | (obtain ⟨_, _, _, _, _, _, _, e, _⟩ := h; rw [show ss = _ from e]; rfl)
    | (obtain ⟨⟨_, _, _, _, _, _, _, e, _⟩, _⟩ := h; rw [show ss = _ from e]; rfl)
theorem hl_same1 : ∀ ss g E Q, ((d_same 1).wp) ss g E Q → ss.length = 2 := by
  rintro ss g E Q ⟨x, h, _⟩
  first
    | (rw [show ss = _ from h]; rfl)
    | (rw [show ss = _ from h.1]; rfl)
    | (rw [show ss = _ from h.1.1]; rfl)
    | (obtain ⟨_, e, _⟩ := h; rw [show ss = _ from e]; rfl)
    | (obtain ⟨⟨_, e, _⟩, _⟩ := h; rw [show ss = _ from e]; rfl)
    | (obtain ⟨_, _, e, _⟩ := h; rw [show ss = _ from e]; rfl)
    | (obtain ⟨⟨_, _, e, _⟩, _⟩ := h; rw [show ss = _ from e]; rfl)
    | (obtain ⟨_, _, _, e, _⟩ := h; rw [show ss = _ from e]; rfl)
    | (obtain ⟨⟨_, _, _, e, _⟩, _⟩ := h; rw [show ss = _ from e]; rfl)
    | (obtain ⟨_, _, _, _, e, _⟩ := h; rw [show ss = _ from e]; rfl)
    | (obtain ⟨⟨_, _, _, _, e, _⟩, _⟩ := h; rw [show ss = _ from e]; rfl)
    | (obtain ⟨_, _, _, _, _, e, _⟩ := h; rw [show ss = _ from e]; rfl)
    | (obtain ⟨⟨_, _, _, _, _, e, _⟩, _⟩ := h; rw [show ss = _ from e]; rfl)
    | (obtain ⟨_, _, _, _, _, _, e, _⟩ := h; rw [show ss = _ from e]; rfl)
    | (obtain ⟨⟨_, _, _, _, _, _, e, _⟩, _⟩ := h; rw [show ss = _ from e]; rfl)
    | (obtain ⟨_, _, _, _, _, _, _, e, _⟩ := h; rw [show ss = _ from e]; rfl)
    | (obtain ⟨⟨_, _, _, _, _, _, _, e, _⟩, _⟩ := h; rw [show ss = _ from e]; rfl)
theorem hl_same2 : ∀ ss g E Q, ((d_same 2).wp) ss g E Q → ss.length = 2 := by
  rintro ss g E Q ⟨x, h, _⟩
  first
    | (rw [show ss = _ from h]; rfl)
    | (rw [show ss = _ from h.1]; rfl)
    | (rw [show ss = _ from h.1.1]; rfl)
    | (obtain ⟨_, e, _⟩ := h; rw [show ss = _ from e]; rfl)
    | (obtain ⟨⟨_, e, _⟩, _⟩ := h; rw [show ss = _ from e]; rfl)
    | (obtain ⟨_, _, e, _⟩ := h; rw [show ss = _ from e]; rfl)
    | (obtain ⟨⟨_, _, e, _⟩, _⟩ := h; rw [show ss = _ from e]; rfl)
    | (obtain ⟨_, _, _, e, _⟩ := h; rw [show ss = _ from e]; rfl)
    | (obtain ⟨⟨_, _, _, e, _⟩, _⟩ := h; rw [show ss = _ from e]; rfl)
    | (obtain ⟨_, _, _, _, e, _⟩ := h; rw [show ss = _ from e]; rfl)
    | (obtain ⟨⟨_, _, _, _, e, _⟩, _⟩ := h; rw [show ss = _ from e]; rfl)
    | (obtain ⟨_, _, _, _, _, e, _⟩ := h; rw [show ss = _ from e]; rfl)
    | (obtain ⟨⟨_, _, _, _, _, e, _⟩, _⟩ := h; rw [show ss = _ from e]; rfl)
    | (obtain ⟨_, _, _, _, _, _, e, _⟩ := h; rw [show ss = _ from e]; rfl)
    | (obtain ⟨⟨_, _, _, _, _, _, e, _⟩, _⟩ := h; rw [show ss = _ from e]; rfl)
    | (obtain ⟨_, _, _, _, _, _, _, e, _⟩ := h; rw [show ss = _ from e]; rfl)
    | (obtain ⟨⟨_, _, _, _, _, _, _, e, _⟩, _⟩ := h; rw [show ss = _ from e]; rfl)
theorem hl_same3 : ∀ ss g E Q, ((d_same 3).wp) ss g E Q → ss.length = 2 := by
  rintro ss g E Q ⟨x, h, _⟩
  first
    | (rw [show ss = _ from h]; rfl)
    | (rw [show ss = _ from h.1]; rfl)
    | (rw [show ss = _ from h.1.1]; rfl)
    | (obtain ⟨_, e, _⟩ := h; rw [show ss = _ from e]; rfl)
    | (obtain ⟨⟨_, e, _⟩, _⟩ := h; rw [show ss = _ from e]; rfl)
    | (obtain ⟨_, _, e, _⟩ := h; rw [show ss = _ from e]; rfl)
    | (obtain ⟨⟨_, _, e, _⟩, _⟩ := h; rw [show ss = _ from e]; rfl)
    | (obtain ⟨_, _, _, e, _⟩ := h; rw [show ss = _ from e]; rfl)
    | (obtain ⟨⟨_, _, _, e, _⟩, _⟩ := h; rw [show ss = _ from e]; rfl)
    | (obtain ⟨_, _, _, _, e, _⟩ := h; rw [show ss = _ from e]; rfl)
    | (obtain ⟨⟨_, _, _, _, e, _⟩, _⟩ := h; rw [show ss = _ from e]; rfl)
    | (obtain ⟨_, _, _, _, _, e, _⟩ := h; rw [show ss = _ from e]; rfl)
    | (obtain ⟨⟨_, _, _, _, _, e, _⟩, _⟩ := h; rw [show ss = _ from e]; rfl)
    | (obtain ⟨_, _, _, _, _, _, e, _⟩ := h; rw [show ss = _ from e]; rfl)
    | (obtain ⟨⟨_, _, _, _, _, _, e, _⟩, _⟩ := h; rw [show ss = _ from e]; rfl)
    | (obtain ⟨_, _, _, _, _, _, _, e, _⟩ := h; rw [show ss = _ from e]; rfl)
    | (obtain ⟨⟨_, _, _, _, _, _, _, e, _⟩, _⟩ := h; rw [show ss = _ from e]; rfl)
theorem hl_same4 : ∀ ss g E Q, ((d_same 4).wp) ss g E Q → ss.length = 2 := by
  rintro ss g E Q ⟨x, h, _⟩
  first
    | (rw [show ss = _ from h]; rfl)
    | (rw [show ss = _ from h.1]; rfl)
    | (rw [show ss = _ from h.1.1]; rfl)
    | (obtain ⟨_, e, _⟩ := h; rw [show ss = _ from e]; rfl)
    | (obtain ⟨⟨_, e, _⟩, _⟩ := h; rw [show ss = _ from e]; rfl)
    | (obtain ⟨_, _, e, _⟩ := h; rw [show ss = _ from e]; rfl)
    | (obtain ⟨⟨_, _, e, _⟩, _⟩ := h; rw [show ss = _ from e]; rfl)
    | (obtain ⟨_, _, _, e, _⟩ := h; rw [show ss = _ from e]; rfl)
    | (obtain ⟨⟨_, _, _, e, _⟩, _⟩ := h; rw [show ss = _ from e]; rfl)
    | (obtain ⟨_, _, _, _, e, _⟩ := h; rw [show ss = _ from e]; rfl)
    | (obtain ⟨⟨_, _, _, _, e, _⟩, _⟩ := h; rw [show ss = _ from e]; rfl)
    | (obtain ⟨_, _, _, _, _, e, _⟩ := h; rw [show ss = _ from e]; rfl)
    | (obtain ⟨⟨_, _, _, _, _, e, _⟩, _⟩ := h; rw [show ss = _ from e]; rfl)
    | (obtain ⟨_, _, _, _, _, _, e, _⟩ := h; rw [show ss = _ from e]; rfl)
    | (obtain ⟨⟨_, _, _, _, _, _, e, _⟩, _⟩ := h; rw [show ss = _ from e]; rfl)
    | (obtain ⟨_, _, _, _, _, _, _, e, _⟩ := h; rw [show ss = _ from e]; rfl)
    | (obtain ⟨⟨_, _, _, _, _, _, _, e, _⟩, _⟩ := h; rw [show ss = _ from e]; rfl)
theorem hl_gquiet : ∀ ss g E Q, (d_lquiet.wp) ss g E Q → ss.length = 2 := by
  rintro ss g E Q ⟨x, h, _⟩
  first
    | (rw [show ss = _ from h]; rfl)
    | (rw [show ss = _ from h.1]; rfl)
    | (rw [show ss = _ from h.1.1]; rfl)
    | (obtain ⟨_, e, _⟩ := h; rw [show ss = _ from e]; rfl)
    | (obtain ⟨⟨_, e, _⟩, _⟩ := h; rw [show ss = _ from e]; rfl)
    | (obtain ⟨_, _, e, _⟩ := h; rw [show ss = _ from e]; rfl)
    | (obtain ⟨⟨_, _, e, _⟩, _⟩ := h; rw [show ss = _ from e]; rfl)
    | (obtain ⟨_, _, _, e, _⟩ := h; rw [show ss = _ from e]; rfl)
    | (obtain ⟨⟨_, _, _, e, _⟩, _⟩ := h; rw [show ss = _ from e]; rfl)
    | (obtain ⟨_, _, _, _, e, _⟩ := h; rw [show ss = _ from e]; rfl)
    | (obtain ⟨⟨_, _, _, _, e, _⟩, _⟩ := h; rw [show ss = _ from e]; rfl)
    | (obtain ⟨_, _, _, _, _, e, _⟩ := h; rw [show ss = _ from e]; rfl)
    | (obtain ⟨⟨_, _, _, _, _, e, _⟩, _⟩ := h; rw [show ss = _ from e]; rfl)
    | (obtain ⟨_, _, _, _, _, _, e, _⟩ := h; rw [show ss = _ from e]; rfl)
    | (obtain ⟨⟨_, _, _, _, _, _, e, _⟩, _⟩ := h; rw [show ss = _ from e]; rfl)
    | (obtain ⟨_, _, _, _, _, _, _, e, _⟩ := h; rw [show ss = _ from e]; rfl)
    | (obtain ⟨⟨_, _, _, _, _, _, _, e, _⟩, _⟩ := h; rw [show ss = _ from e]; rfl)
theorem hl_inorder : ∀ ss g E Q, (d_lon.wp) ss g E Q → ss.length = 2 := by
  rintro ss g E Q ⟨x, h, _⟩
  first
    | (rw [show ss = _ from h]; rfl)
    | (rw [show ss = _ from h.1]; rfl)
    | (rw [show ss = _ from h.1.1]; rfl)
    | (obtain ⟨_, e, _⟩ := h; rw [show ss = _ from e]; rfl)
    | (obtain ⟨⟨_, e, _⟩, _⟩ := h; rw [show ss = _ from e]; rfl)
    | (obtain ⟨_, _, e, _⟩ := h; rw [show ss = _ from e]; rfl)
    | (obtain ⟨⟨_, _, e, _⟩, _⟩ := h; rw [show ss = _ from e]; rfl)
    | (obtain ⟨_, _, _, e, _⟩ := h; rw [show ss = _ from e]; rfl)
    | (obtain ⟨⟨_, _, _, e, _⟩, _⟩ := h; rw [show ss = _ from e]; rfl)
    | (obtain ⟨_, _, _, _, e, _⟩ := h; rw [show ss = _ from e]; rfl)
    | (obtain ⟨⟨_, _, _, _, e, _⟩, _⟩ := h; rw [show ss = _ from e]; rfl)
    | (obtain ⟨_, _, _, _, _, e, _⟩ := h; rw [show ss = _ from e]; rfl)
    | (obtain ⟨⟨_, _, _, _, _, e, _⟩, _⟩ := h; rw [show ss = _ from e]; rfl)
    | (obtain ⟨_, _, _, _, _, _, e, _⟩ := h; rw [show ss = _ from e]; rfl)
    | (obtain ⟨⟨_, _, _, _, _, _, e, _⟩, _⟩ := h; rw [show ss = _ from e]; rfl)
    | (obtain ⟨_, _, _, _, _, _, _, e, _⟩ := h; rw [show ss = _ from e]; rfl)
    | (obtain ⟨⟨_, _, _, _, _, _, _, e, _⟩, _⟩ := h; rw [show ss = _ from e]; rfl)
theorem hl_faceon : ∀ ss g E Q, (d_lbehind.wp) ss g E Q → ss.length = 3 := by
  rintro ss g E Q ⟨x, h, _⟩
  first
    | (rw [show ss = _ from h]; rfl)
    | (rw [show ss = _ from h.1]; rfl)
    | (rw [show ss = _ from h.1.1]; rfl)
    | (obtain ⟨_, e, _⟩ := h; rw [show ss = _ from e]; rfl)
    | (obtain ⟨⟨_, e, _⟩, _⟩ := h; rw [show ss = _ from e]; rfl)
    | (obtain ⟨_, _, e, _⟩ := h; rw [show ss = _ from e]; rfl)
    | (obtain ⟨⟨_, _, e, _⟩, _⟩ := h; rw [show ss = _ from e]; rfl)
    | (obtain ⟨_, _, _, e, _⟩ := h; rw [show ss = _ from e]; rfl)
    | (obtain ⟨⟨_, _, _, e, _⟩, _⟩ := h; rw [show ss = _ from e]; rfl)
    | (obtain ⟨_, _, _, _, e, _⟩ := h; rw [show ss = _ from e]; rfl)
    | (obtain ⟨⟨_, _, _, _, e, _⟩, _⟩ := h; rw [show ss = _ from e]; rfl)
    | (obtain ⟨_, _, _, _, _, e, _⟩ := h; rw [show ss = _ from e]; rfl)
    | (obtain ⟨⟨_, _, _, _, _, e, _⟩, _⟩ := h; rw [show ss = _ from e]; rfl)
    | (obtain ⟨_, _, _, _, _, _, e, _⟩ := h; rw [show ss = _ from e]; rfl)
    | (obtain ⟨⟨_, _, _, _, _, _, e, _⟩, _⟩ := h; rw [show ss = _ from e]; rfl)
    | (obtain ⟨_, _, _, _, _, _, _, e, _⟩ := h; rw [show ss = _ from e]; rfl)
    | (obtain ⟨⟨_, _, _, _, _, _, _, e, _⟩, _⟩ := h; rw [show ss = _ from e]; rfl)
theorem hl_faceat : ∀ ss g E Q, (d_lface.wp) ss g E Q → ss.length = 2 := by
  rintro ss g E Q ⟨x, h, _⟩
  first
    | (rw [show ss = _ from h]; rfl)
    | (rw [show ss = _ from h.1]; rfl)
    | (rw [show ss = _ from h.1.1]; rfl)
    | (obtain ⟨_, e, _⟩ := h; rw [show ss = _ from e]; rfl)
    | (obtain ⟨⟨_, e, _⟩, _⟩ := h; rw [show ss = _ from e]; rfl)
    | (obtain ⟨_, _, e, _⟩ := h; rw [show ss = _ from e]; rfl)
    | (obtain ⟨⟨_, _, e, _⟩, _⟩ := h; rw [show ss = _ from e]; rfl)
    | (obtain ⟨_, _, _, e, _⟩ := h; rw [show ss = _ from e]; rfl)
    | (obtain ⟨⟨_, _, _, e, _⟩, _⟩ := h; rw [show ss = _ from e]; rfl)
    | (obtain ⟨_, _, _, _, e, _⟩ := h; rw [show ss = _ from e]; rfl)
    | (obtain ⟨⟨_, _, _, _, e, _⟩, _⟩ := h; rw [show ss = _ from e]; rfl)
    | (obtain ⟨_, _, _, _, _, e, _⟩ := h; rw [show ss = _ from e]; rfl)
    | (obtain ⟨⟨_, _, _, _, _, e, _⟩, _⟩ := h; rw [show ss = _ from e]; rfl)
    | (obtain ⟨_, _, _, _, _, _, e, _⟩ := h; rw [show ss = _ from e]; rfl)
    | (obtain ⟨⟨_, _, _, _, _, _, e, _⟩, _⟩ := h; rw [show ss = _ from e]; rfl)
    | (obtain ⟨_, _, _, _, _, _, _, e, _⟩ := h; rw [show ss = _ from e]; rfl)
    | (obtain ⟨⟨_, _, _, _, _, _, _, e, _⟩, _⟩ := h; rw [show ss = _ from e]; rfl)
theorem hl_linner : ∀ ss g E Q, (d_inner.wp) ss g E Q → ss.length = 1 := by
  rintro ss g E Q ⟨x, h, _⟩
  first
    | (rw [show ss = _ from h]; rfl)
    | (rw [show ss = _ from h.1]; rfl)
    | (rw [show ss = _ from h.1.1]; rfl)
    | (obtain ⟨_, e, _⟩ := h; rw [show ss = _ from e]; rfl)
    | (obtain ⟨⟨_, e, _⟩, _⟩ := h; rw [show ss = _ from e]; rfl)
    | (obtain ⟨_, _, e, _⟩ := h; rw [show ss = _ from e]; rfl)
    | (obtain ⟨⟨_, _, e, _⟩, _⟩ := h; rw [show ss = _ from e]; rfl)
    | (obtain ⟨_, _, _, e, _⟩ := h; rw [show ss = _ from e]; rfl)
    | (obtain ⟨⟨_, _, _, e, _⟩, _⟩ := h; rw [show ss = _ from e]; rfl)
    | (obtain ⟨_, _, _, _, e, _⟩ := h; rw [show ss = _ from e]; rfl)
    | (obtain ⟨⟨_, _, _, _, e, _⟩, _⟩ := h; rw [show ss = _ from e]; rfl)
    | (obtain ⟨_, _, _, _, _, e, _⟩ := h; rw [show ss = _ from e]; rfl)
    | (obtain ⟨⟨_, _, _, _, _, e, _⟩, _⟩ := h; rw [show ss = _ from e]; rfl)
    | (obtain ⟨_, _, _, _, _, _, e, _⟩ := h; rw [show ss = _ from e]; rfl)
    | (obtain ⟨⟨_, _, _, _, _, _, e, _⟩, _⟩ := h; rw [show ss = _ from e]; rfl)
    | (obtain ⟨_, _, _, _, _, _, _, e, _⟩ := h; rw [show ss = _ from e]; rfl)
    | (obtain ⟨⟨_, _, _, _, _, _, _, e, _⟩, _⟩ := h; rw [show ss = _ from e]; rfl)
theorem hl_ltsigns : ∀ ss g E Q, (d_lsg.wp) ss g E Q → ss.length = 1 := by
  rintro ss g E Q ⟨x, h, _⟩
  first
    | (rw [show ss = _ from h]; rfl)
    | (rw [show ss = _ from h.1]; rfl)
    | (rw [show ss = _ from h.1.1]; rfl)
    | (obtain ⟨_, e, _⟩ := h; rw [show ss = _ from e]; rfl)
    | (obtain ⟨⟨_, e, _⟩, _⟩ := h; rw [show ss = _ from e]; rfl)
    | (obtain ⟨_, _, e, _⟩ := h; rw [show ss = _ from e]; rfl)
    | (obtain ⟨⟨_, _, e, _⟩, _⟩ := h; rw [show ss = _ from e]; rfl)
    | (obtain ⟨_, _, _, e, _⟩ := h; rw [show ss = _ from e]; rfl)
    | (obtain ⟨⟨_, _, _, e, _⟩, _⟩ := h; rw [show ss = _ from e]; rfl)
    | (obtain ⟨_, _, _, _, e, _⟩ := h; rw [show ss = _ from e]; rfl)
    | (obtain ⟨⟨_, _, _, _, e, _⟩, _⟩ := h; rw [show ss = _ from e]; rfl)
    | (obtain ⟨_, _, _, _, _, e, _⟩ := h; rw [show ss = _ from e]; rfl)
    | (obtain ⟨⟨_, _, _, _, _, e, _⟩, _⟩ := h; rw [show ss = _ from e]; rfl)
    | (obtain ⟨_, _, _, _, _, _, e, _⟩ := h; rw [show ss = _ from e]; rfl)
    | (obtain ⟨⟨_, _, _, _, _, _, e, _⟩, _⟩ := h; rw [show ss = _ from e]; rfl)
    | (obtain ⟨_, _, _, _, _, _, _, e, _⟩ := h; rw [show ss = _ from e]; rfl)
    | (obtain ⟨⟨_, _, _, _, _, _, _, e, _⟩, _⟩ := h; rw [show ss = _ from e]; rfl)
theorem hl_lleaves0 : ∀ ss g E Q, ((d_lleaves 0).wp) ss g E Q → ss.length = 3 := by
  rintro ss g E Q ⟨x, h, _⟩
  first
    | (rw [show ss = _ from h]; rfl)
    | (rw [show ss = _ from h.1]; rfl)
    | (rw [show ss = _ from h.1.1]; rfl)
    | (obtain ⟨_, e, _⟩ := h; rw [show ss = _ from e]; rfl)
    | (obtain ⟨⟨_, e, _⟩, _⟩ := h; rw [show ss = _ from e]; rfl)
    | (obtain ⟨_, _, e, _⟩ := h; rw [show ss = _ from e]; rfl)
    | (obtain ⟨⟨_, _, e, _⟩, _⟩ := h; rw [show ss = _ from e]; rfl)
    | (obtain ⟨_, _, _, e, _⟩ := h; rw [show ss = _ from e]; rfl)
    | (obtain ⟨⟨_, _, _, e, _⟩, _⟩ := h; rw [show ss = _ from e]; rfl)
    | (obtain ⟨_, _, _, _, e, _⟩ := h; rw [show ss = _ from e]; rfl)
    | (obtain ⟨⟨_, _, _, _, e, _⟩, _⟩ := h; rw [show ss = _ from e]; rfl)
    | (obtain ⟨_, _, _, _, _, e, _⟩ := h; rw [show ss = _ from e]; rfl)
    | (obtain ⟨⟨_, _, _, _, _, e, _⟩, _⟩ := h; rw [show ss = _ from e]; rfl)
    | (obtain ⟨_, _, _, _, _, _, e, _⟩ := h; rw [show ss = _ from e]; rfl)
    | (obtain ⟨⟨_, _, _, _, _, _, e, _⟩, _⟩ := h; rw [show ss = _ from e]; rfl)
    | (obtain ⟨_, _, _, _, _, _, _, e, _⟩ := h; rw [show ss = _ from e]; rfl)
    | (obtain ⟨⟨_, _, _, _, _, _, _, e, _⟩, _⟩ := h; rw [show ss = _ from e]; rfl)
theorem hl_lleaves1 : ∀ ss g E Q, ((d_lleaves 1).wp) ss g E Q → ss.length = 3 := by
  rintro ss g E Q ⟨x, h, _⟩
  first
    | (rw [show ss = _ from h]; rfl)
    | (rw [show ss = _ from h.1]; rfl)
    | (rw [show ss = _ from h.1.1]; rfl)
    | (obtain ⟨_, e, _⟩ := h; rw [show ss = _ from e]; rfl)
    | (obtain ⟨⟨_, e, _⟩, _⟩ := h; rw [show ss = _ from e]; rfl)
    | (obtain ⟨_, _, e, _⟩ := h; rw [show ss = _ from e]; rfl)
    | (obtain ⟨⟨_, _, e, _⟩, _⟩ := h; rw [show ss = _ from e]; rfl)
    | (obtain ⟨_, _, _, e, _⟩ := h; rw [show ss = _ from e]; rfl)
    | (obtain ⟨⟨_, _, _, e, _⟩, _⟩ := h; rw [show ss = _ from e]; rfl)
    | (obtain ⟨_, _, _, _, e, _⟩ := h; rw [show ss = _ from e]; rfl)
    | (obtain ⟨⟨_, _, _, _, e, _⟩, _⟩ := h; rw [show ss = _ from e]; rfl)
    | (obtain ⟨_, _, _, _, _, e, _⟩ := h; rw [show ss = _ from e]; rfl)
    | (obtain ⟨⟨_, _, _, _, _, e, _⟩, _⟩ := h; rw [show ss = _ from e]; rfl)
    | (obtain ⟨_, _, _, _, _, _, e, _⟩ := h; rw [show ss = _ from e]; rfl)
    | (obtain ⟨⟨_, _, _, _, _, _, e, _⟩, _⟩ := h; rw [show ss = _ from e]; rfl)
    | (obtain ⟨_, _, _, _, _, _, _, e, _⟩ := h; rw [show ss = _ from e]; rfl)
    | (obtain ⟨⟨_, _, _, _, _, _, _, e, _⟩, _⟩ := h; rw [show ss = _ from e]; rfl)
theorem hl_lleaves2 : ∀ ss g E Q, ((d_lleaves 2).wp) ss g E Q → ss.length = 3 := by
  rintro ss g E Q ⟨x, h, _⟩
  first
    | (rw [show ss = _ from h]; rfl)
    | (rw [show ss = _ from h.1]; rfl)
    | (rw [show ss = _ from h.1.1]; rfl)
    | (obtain ⟨_, e, _⟩ := h; rw [show ss = _ from e]; rfl)
    | (obtain ⟨⟨_, e, _⟩, _⟩ := h; rw [show ss = _ from e]; rfl)
    | (obtain ⟨_, _, e, _⟩ := h; rw [show ss = _ from e]; rfl)
    | (obtain ⟨⟨_, _, e, _⟩, _⟩ := h; rw [show ss = _ from e]; rfl)
    | (obtain ⟨_, _, _, e, _⟩ := h; rw [show ss = _ from e]; rfl)
    | (obtain ⟨⟨_, _, _, e, _⟩, _⟩ := h; rw [show ss = _ from e]; rfl)
    | (obtain ⟨_, _, _, _, e, _⟩ := h; rw [show ss = _ from e]; rfl)
    | (obtain ⟨⟨_, _, _, _, e, _⟩, _⟩ := h; rw [show ss = _ from e]; rfl)
    | (obtain ⟨_, _, _, _, _, e, _⟩ := h; rw [show ss = _ from e]; rfl)
    | (obtain ⟨⟨_, _, _, _, _, e, _⟩, _⟩ := h; rw [show ss = _ from e]; rfl)
    | (obtain ⟨_, _, _, _, _, _, e, _⟩ := h; rw [show ss = _ from e]; rfl)
    | (obtain ⟨⟨_, _, _, _, _, _, e, _⟩, _⟩ := h; rw [show ss = _ from e]; rfl)
    | (obtain ⟨_, _, _, _, _, _, _, e, _⟩ := h; rw [show ss = _ from e]; rfl)
    | (obtain ⟨⟨_, _, _, _, _, _, _, e, _⟩, _⟩ := h; rw [show ss = _ from e]; rfl)
theorem hl_lleaves3 : ∀ ss g E Q, ((d_lleaves 3).wp) ss g E Q → ss.length = 3 := by
  rintro ss g E Q ⟨x, h, _⟩
  first
    | (rw [show ss = _ from h]; rfl)
    | (rw [show ss = _ from h.1]; rfl)
    | (rw [show ss = _ from h.1.1]; rfl)
    | (obtain ⟨_, e, _⟩ := h; rw [show ss = _ from e]; rfl)
    | (obtain ⟨⟨_, e, _⟩, _⟩ := h; rw [show ss = _ from e]; rfl)
    | (obtain ⟨_, _, e, _⟩ := h; rw [show ss = _ from e]; rfl)
    | (obtain ⟨⟨_, _, e, _⟩, _⟩ := h; rw [show ss = _ from e]; rfl)
    | (obtain ⟨_, _, _, e, _⟩ := h; rw [show ss = _ from e]; rfl)
    | (obtain ⟨⟨_, _, _, e, _⟩, _⟩ := h; rw [show ss = _ from e]; rfl)
    | (obtain ⟨_, _, _, _, e, _⟩ := h; rw [show ss = _ from e]; rfl)
    | (obtain ⟨⟨_, _, _, _, e, _⟩, _⟩ := h; rw [show ss = _ from e]; rfl)
    | (obtain ⟨_, _, _, _, _, e, _⟩ := h; rw [show ss = _ from e]; rfl)
    | (obtain ⟨⟨_, _, _, _, _, e, _⟩, _⟩ := h; rw [show ss = _ from e]; rfl)
    | (obtain ⟨_, _, _, _, _, _, e, _⟩ := h; rw [show ss = _ from e]; rfl)
    | (obtain ⟨⟨_, _, _, _, _, _, e, _⟩, _⟩ := h; rw [show ss = _ from e]; rfl)
    | (obtain ⟨_, _, _, _, _, _, _, e, _⟩ := h; rw [show ss = _ from e]; rfl)
    | (obtain ⟨⟨_, _, _, _, _, _, _, e, _⟩, _⟩ := h; rw [show ss = _ from e]; rfl)
theorem hl_lleaves4 : ∀ ss g E Q, ((d_lleaves 4).wp) ss g E Q → ss.length = 3 := by
  rintro ss g E Q ⟨x, h, _⟩
  first
    | (rw [show ss = _ from h]; rfl)
    | (rw [show ss = _ from h.1]; rfl)
    | (rw [show ss = _ from h.1.1]; rfl)
    | (obtain ⟨_, e, _⟩ := h; rw [show ss = _ from e]; rfl)
    | (obtain ⟨⟨_, e, _⟩, _⟩ := h; rw [show ss = _ from e]; rfl)
    | (obtain ⟨_, _, e, _⟩ := h; rw [show ss = _ from e]; rfl)
    | (obtain ⟨⟨_, _, e, _⟩, _⟩ := h; rw [show ss = _ from e]; rfl)
    | (obtain ⟨_, _, _, e, _⟩ := h; rw [show ss = _ from e]; rfl)
    | (obtain ⟨⟨_, _, _, e, _⟩, _⟩ := h; rw [show ss = _ from e]; rfl)
    | (obtain ⟨_, _, _, _, e, _⟩ := h; rw [show ss = _ from e]; rfl)
    | (obtain ⟨⟨_, _, _, _, e, _⟩, _⟩ := h; rw [show ss = _ from e]; rfl)
    | (obtain ⟨_, _, _, _, _, e, _⟩ := h; rw [show ss = _ from e]; rfl)
    | (obtain ⟨⟨_, _, _, _, _, e, _⟩, _⟩ := h; rw [show ss = _ from e]; rfl)
    | (obtain ⟨_, _, _, _, _, _, e, _⟩ := h; rw [show ss = _ from e]; rfl)
    | (obtain ⟨⟨_, _, _, _, _, _, e, _⟩, _⟩ := h; rw [show ss = _ from e]; rfl)
    | (obtain ⟨_, _, _, _, _, _, _, e, _⟩ := h; rw [show ss = _ from e]; rfl)
    | (obtain ⟨⟨_, _, _, _, _, _, _, e, _⟩, _⟩ := h; rw [show ss = _ from e]; rfl)
theorem hl_lpairs : ∀ ss g E Q, (d_lpairs.wp) ss g E Q → ss.length = 2 := by
  rintro ss g E Q ⟨x, h, _⟩
  first
    | (rw [show ss = _ from h]; rfl)
    | (rw [show ss = _ from h.1]; rfl)
    | (rw [show ss = _ from h.1.1]; rfl)
    | (obtain ⟨_, e, _⟩ := h; rw [show ss = _ from e]; rfl)
    | (obtain ⟨⟨_, e, _⟩, _⟩ := h; rw [show ss = _ from e]; rfl)
    | (obtain ⟨_, _, e, _⟩ := h; rw [show ss = _ from e]; rfl)
    | (obtain ⟨⟨_, _, e, _⟩, _⟩ := h; rw [show ss = _ from e]; rfl)
    | (obtain ⟨_, _, _, e, _⟩ := h; rw [show ss = _ from e]; rfl)
    | (obtain ⟨⟨_, _, _, e, _⟩, _⟩ := h; rw [show ss = _ from e]; rfl)
    | (obtain ⟨_, _, _, _, e, _⟩ := h; rw [show ss = _ from e]; rfl)
    | (obtain ⟨⟨_, _, _, _, e, _⟩, _⟩ := h; rw [show ss = _ from e]; rfl)
    | (obtain ⟨_, _, _, _, _, e, _⟩ := h; rw [show ss = _ from e]; rfl)
    | (obtain ⟨⟨_, _, _, _, _, e, _⟩, _⟩ := h; rw [show ss = _ from e]; rfl)
    | (obtain ⟨_, _, _, _, _, _, e, _⟩ := h; rw [show ss = _ from e]; rfl)
    | (obtain ⟨⟨_, _, _, _, _, _, e, _⟩, _⟩ := h; rw [show ss = _ from e]; rfl)
    | (obtain ⟨_, _, _, _, _, _, _, e, _⟩ := h; rw [show ss = _ from e]; rfl)
    | (obtain ⟨⟨_, _, _, _, _, _, _, e, _⟩, _⟩ := h; rw [show ss = _ from e]; rfl)
theorem hl_ltrial0 : ∀ ss g E Q, ((d_ltrial 0).wp) ss g E Q → ss.length = 4 := by
  rintro ss g E Q ⟨x, h, _⟩
  first
    | (rw [show ss = _ from h]; rfl)
    | (rw [show ss = _ from h.1]; rfl)
    | (rw [show ss = _ from h.1.1]; rfl)
    | (obtain ⟨_, e, _⟩ := h; rw [show ss = _ from e]; rfl)
    | (obtain ⟨⟨_, e, _⟩, _⟩ := h; rw [show ss = _ from e]; rfl)
    | (obtain ⟨_, _, e, _⟩ := h; rw [show ss = _ from e]; rfl)
    | (obtain ⟨⟨_, _, e, _⟩, _⟩ := h; rw [show ss = _ from e]; rfl)
    | (obtain ⟨_, _, _, e, _⟩ := h; rw [show ss = _ from e]; rfl)
    | (obtain ⟨⟨_, _, _, e, _⟩, _⟩ := h; rw [show ss = _ from e]; rfl)
    | (obtain ⟨_, _, _, _, e, _⟩ := h; rw [show ss = _ from e]; rfl)
    | (obtain ⟨⟨_, _, _, _, e, _⟩, _⟩ := h; rw [show ss = _ from e]; rfl)
    | (obtain ⟨_, _, _, _, _, e, _⟩ := h; rw [show ss = _ from e]; rfl)
    | (obtain ⟨⟨_, _, _, _, _, e, _⟩, _⟩ := h; rw [show ss = _ from e]; rfl)
    | (obtain ⟨_, _, _, _, _, _, e, _⟩ := h; rw [show ss = _ from e]; rfl)
    | (obtain ⟨⟨_, _, _, _, _, _, e, _⟩, _⟩ := h; rw [show ss = _ from e]; rfl)
    | (obtain ⟨_, _, _, _, _, _, _, e, _⟩ := h; rw [show ss = _ from e]; rfl)
    | (obtain ⟨⟨_, _, _, _, _, _, _, e, _⟩, _⟩ := h; rw [show ss = _ from e]; rfl)
theorem hl_ltrial1 : ∀ ss g E Q, ((d_ltrial 1).wp) ss g E Q → ss.length = 4 := by
  rintro ss g E Q ⟨x, h, _⟩
  first
    | (rw [show ss = _ from h]; rfl)
    | (rw [show ss = _ from h.1]; rfl)
    | (rw [show ss = _ from h.1.1]; rfl)
    | (obtain ⟨_, e, _⟩ := h; rw [show ss = _ from e]; rfl)
    | (obtain ⟨⟨_, e, _⟩, _⟩ := h; rw [show ss = _ from e]; rfl)
    | (obtain ⟨_, _, e, _⟩ := h; rw [show ss = _ from e]; rfl)
    | (obtain ⟨⟨_, _, e, _⟩, _⟩ := h; rw [show ss = _ from e]; rfl)
    | (obtain ⟨_, _, _, e, _⟩ := h; rw [show ss = _ from e]; rfl)
    | (obtain ⟨⟨_, _, _, e, _⟩, _⟩ := h; rw [show ss = _ from e]; rfl)
    | (obtain ⟨_, _, _, _, e, _⟩ := h; rw [show ss = _ from e]; rfl)
    | (obtain ⟨⟨_, _, _, _, e, _⟩, _⟩ := h; rw [show ss = _ from e]; rfl)
    | (obtain ⟨_, _, _, _, _, e, _⟩ := h; rw [show ss = _ from e]; rfl)
    | (obtain ⟨⟨_, _, _, _, _, e, _⟩, _⟩ := h; rw [show ss = _ from e]; rfl)
    | (obtain ⟨_, _, _, _, _, _, e, _⟩ := h; rw [show ss = _ from e]; rfl)
    | (obtain ⟨⟨_, _, _, _, _, _, e, _⟩, _⟩ := h; rw [show ss = _ from e]; rfl)
    | (obtain ⟨_, _, _, _, _, _, _, e, _⟩ := h; rw [show ss = _ from e]; rfl)
    | (obtain ⟨⟨_, _, _, _, _, _, _, e, _⟩, _⟩ := h; rw [show ss = _ from e]; rfl)
theorem hl_ltrial2 : ∀ ss g E Q, ((d_ltrial 2).wp) ss g E Q → ss.length = 4 := by
  rintro ss g E Q ⟨x, h, _⟩
  first
    | (rw [show ss = _ from h]; rfl)
    | (rw [show ss = _ from h.1]; rfl)
    | (rw [show ss = _ from h.1.1]; rfl)
    | (obtain ⟨_, e, _⟩ := h; rw [show ss = _ from e]; rfl)
    | (obtain ⟨⟨_, e, _⟩, _⟩ := h; rw [show ss = _ from e]; rfl)
    | (obtain ⟨_, _, e, _⟩ := h; rw [show ss = _ from e]; rfl)
    | (obtain ⟨⟨_, _, e, _⟩, _⟩ := h; rw [show ss = _ from e]; rfl)
    | (obtain ⟨_, _, _, e, _⟩ := h; rw [show ss = _ from e]; rfl)
    | (obtain ⟨⟨_, _, _, e, _⟩, _⟩ := h; rw [show ss = _ from e]; rfl)
    | (obtain ⟨_, _, _, _, e, _⟩ := h; rw [show ss = _ from e]; rfl)
    | (obtain ⟨⟨_, _, _, _, e, _⟩, _⟩ := h; rw [show ss = _ from e]; rfl)
    | (obtain ⟨_, _, _, _, _, e, _⟩ := h; rw [show ss = _ from e]; rfl)
    | (obtain ⟨⟨_, _, _, _, _, e, _⟩, _⟩ := h; rw [show ss = _ from e]; rfl)
    | (obtain ⟨_, _, _, _, _, _, e, _⟩ := h; rw [show ss = _ from e]; rfl)
    | (obtain ⟨⟨_, _, _, _, _, _, e, _⟩, _⟩ := h; rw [show ss = _ from e]; rfl)
    | (obtain ⟨_, _, _, _, _, _, _, e, _⟩ := h; rw [show ss = _ from e]; rfl)
    | (obtain ⟨⟨_, _, _, _, _, _, _, e, _⟩, _⟩ := h; rw [show ss = _ from e]; rfl)
theorem hl_ltrial3 : ∀ ss g E Q, ((d_ltrial 3).wp) ss g E Q → ss.length = 4 := by
  rintro ss g E Q ⟨x, h, _⟩
  first
    | (rw [show ss = _ from h]; rfl)
    | (rw [show ss = _ from h.1]; rfl)
    | (rw [show ss = _ from h.1.1]; rfl)
    | (obtain ⟨_, e, _⟩ := h; rw [show ss = _ from e]; rfl)
    | (obtain ⟨⟨_, e, _⟩, _⟩ := h; rw [show ss = _ from e]; rfl)
    | (obtain ⟨_, _, e, _⟩ := h; rw [show ss = _ from e]; rfl)
    | (obtain ⟨⟨_, _, e, _⟩, _⟩ := h; rw [show ss = _ from e]; rfl)
    | (obtain ⟨_, _, _, e, _⟩ := h; rw [show ss = _ from e]; rfl)
    | (obtain ⟨⟨_, _, _, e, _⟩, _⟩ := h; rw [show ss = _ from e]; rfl)
    | (obtain ⟨_, _, _, _, e, _⟩ := h; rw [show ss = _ from e]; rfl)
    | (obtain ⟨⟨_, _, _, _, e, _⟩, _⟩ := h; rw [show ss = _ from e]; rfl)
    | (obtain ⟨_, _, _, _, _, e, _⟩ := h; rw [show ss = _ from e]; rfl)
    | (obtain ⟨⟨_, _, _, _, _, e, _⟩, _⟩ := h; rw [show ss = _ from e]; rfl)
    | (obtain ⟨_, _, _, _, _, _, e, _⟩ := h; rw [show ss = _ from e]; rfl)
    | (obtain ⟨⟨_, _, _, _, _, _, e, _⟩, _⟩ := h; rw [show ss = _ from e]; rfl)
    | (obtain ⟨_, _, _, _, _, _, _, e, _⟩ := h; rw [show ss = _ from e]; rfl)
    | (obtain ⟨⟨_, _, _, _, _, _, _, e, _⟩, _⟩ := h; rw [show ss = _ from e]; rfl)
theorem hl_ltrial4 : ∀ ss g E Q, ((d_ltrial 4).wp) ss g E Q → ss.length = 4 := by
  rintro ss g E Q ⟨x, h, _⟩
  first
    | (rw [show ss = _ from h]; rfl)
    | (rw [show ss = _ from h.1]; rfl)
    | (rw [show ss = _ from h.1.1]; rfl)
    | (obtain ⟨_, e, _⟩ := h; rw [show ss = _ from e]; rfl)
    | (obtain ⟨⟨_, e, _⟩, _⟩ := h; rw [show ss = _ from e]; rfl)
    | (obtain ⟨_, _, e, _⟩ := h; rw [show ss = _ from e]; rfl)
    | (obtain ⟨⟨_, _, e, _⟩, _⟩ := h; rw [show ss = _ from e]; rfl)
    | (obtain ⟨_, _, _, e, _⟩ := h; rw [show ss = _ from e]; rfl)
    | (obtain ⟨⟨_, _, _, e, _⟩, _⟩ := h; rw [show ss = _ from e]; rfl)
    | (obtain ⟨_, _, _, _, e, _⟩ := h; rw [show ss = _ from e]; rfl)
    | (obtain ⟨⟨_, _, _, _, e, _⟩, _⟩ := h; rw [show ss = _ from e]; rfl)
    | (obtain ⟨_, _, _, _, _, e, _⟩ := h; rw [show ss = _ from e]; rfl)
    | (obtain ⟨⟨_, _, _, _, _, e, _⟩, _⟩ := h; rw [show ss = _ from e]; rfl)
    | (obtain ⟨_, _, _, _, _, _, e, _⟩ := h; rw [show ss = _ from e]; rfl)
    | (obtain ⟨⟨_, _, _, _, _, _, e, _⟩, _⟩ := h; rw [show ss = _ from e]; rfl)
    | (obtain ⟨_, _, _, _, _, _, _, e, _⟩ := h; rw [show ss = _ from e]; rfl)
    | (obtain ⟨⟨_, _, _, _, _, _, _, e, _⟩, _⟩ := h; rw [show ss = _ from e]; rfl)
theorem hl_lmade0 : ∀ ss g E Q, ((d_lmade 0).wp) ss g E Q → ss.length = 4 := by
  rintro ss g E Q ⟨x, h, _⟩
  first
    | (rw [show ss = _ from h]; rfl)
    | (rw [show ss = _ from h.1]; rfl)
    | (rw [show ss = _ from h.1.1]; rfl)
    | (obtain ⟨_, e, _⟩ := h; rw [show ss = _ from e]; rfl)
    | (obtain ⟨⟨_, e, _⟩, _⟩ := h; rw [show ss = _ from e]; rfl)
    | (obtain ⟨_, _, e, _⟩ := h; rw [show ss = _ from e]; rfl)
    | (obtain ⟨⟨_, _, e, _⟩, _⟩ := h; rw [show ss = _ from e]; rfl)
    | (obtain ⟨_, _, _, e, _⟩ := h; rw [show ss = _ from e]; rfl)
    | (obtain ⟨⟨_, _, _, e, _⟩, _⟩ := h; rw [show ss = _ from e]; rfl)
    | (obtain ⟨_, _, _, _, e, _⟩ := h; rw [show ss = _ from e]; rfl)
    | (obtain ⟨⟨_, _, _, _, e, _⟩, _⟩ := h; rw [show ss = _ from e]; rfl)
    | (obtain ⟨_, _, _, _, _, e, _⟩ := h; rw [show ss = _ from e]; rfl)
    | (obtain ⟨⟨_, _, _, _, _, e, _⟩, _⟩ := h; rw [show ss = _ from e]; rfl)
    | (obtain ⟨_, _, _, _, _, _, e, _⟩ := h; rw [show ss = _ from e]; rfl)
    | (obtain ⟨⟨_, _, _, _, _, _, e, _⟩, _⟩ := h; rw [show ss = _ from e]; rfl)
    | (obtain ⟨_, _, _, _, _, _, _, e, _⟩ := h; rw [show ss = _ from e]; rfl)
    | (obtain ⟨⟨_, _, _, _, _, _, _, e, _⟩, _⟩ := h; rw [show ss = _ from e]; rfl)
theorem hl_lmade1 : ∀ ss g E Q, ((d_lmade 1).wp) ss g E Q → ss.length = 4 := by
  rintro ss g E Q ⟨x, h, _⟩
  first
    | (rw [show ss = _ from h]; rfl)
    | (rw [show ss = _ from h.1]; rfl)
    | (rw [show ss = _ from h.1.1]; rfl)
    | (obtain ⟨_, e, _⟩ := h; rw [show ss = _ from e]; rfl)
    | (obtain ⟨⟨_, e, _⟩, _⟩ := h; rw [show ss = _ from e]; rfl)
    | (obtain ⟨_, _, e, _⟩ := h; rw [show ss = _ from e]; rfl)
    | (obtain ⟨⟨_, _, e, _⟩, _⟩ := h; rw [show ss = _ from e]; rfl)
    | (obtain ⟨_, _, _, e, _⟩ := h; rw [show ss = _ from e]; rfl)
    | (obtain ⟨⟨_, _, _, e, _⟩, _⟩ := h; rw [show ss = _ from e]; rfl)
    | (obtain ⟨_, _, _, _, e, _⟩ := h; rw [show ss = _ from e]; rfl)
    | (obtain ⟨⟨_, _, _, _, e, _⟩, _⟩ := h; rw [show ss = _ from e]; rfl)
    | (obtain ⟨_, _, _, _, _, e, _⟩ := h; rw [show ss = _ from e]; rfl)
    | (obtain ⟨⟨_, _, _, _, _, e, _⟩, _⟩ := h; rw [show ss = _ from e]; rfl)
    | (obtain ⟨_, _, _, _, _, _, e, _⟩ := h; rw [show ss = _ from e]; rfl)
    | (obtain ⟨⟨_, _, _, _, _, _, e, _⟩, _⟩ := h; rw [show ss = _ from e]; rfl)
    | (obtain ⟨_, _, _, _, _, _, _, e, _⟩ := h; rw [show ss = _ from e]; rfl)
    | (obtain ⟨⟨_, _, _, _, _, _, _, e, _⟩, _⟩ := h; rw [show ss = _ from e]; rfl)
theorem hl_lmade2 : ∀ ss g E Q, ((d_lmade 2).wp) ss g E Q → ss.length = 4 := by
  rintro ss g E Q ⟨x, h, _⟩
  first
    | (rw [show ss = _ from h]; rfl)
    | (rw [show ss = _ from h.1]; rfl)
    | (rw [show ss = _ from h.1.1]; rfl)
    | (obtain ⟨_, e, _⟩ := h; rw [show ss = _ from e]; rfl)
    | (obtain ⟨⟨_, e, _⟩, _⟩ := h; rw [show ss = _ from e]; rfl)
    | (obtain ⟨_, _, e, _⟩ := h; rw [show ss = _ from e]; rfl)
    | (obtain ⟨⟨_, _, e, _⟩, _⟩ := h; rw [show ss = _ from e]; rfl)
    | (obtain ⟨_, _, _, e, _⟩ := h; rw [show ss = _ from e]; rfl)
    | (obtain ⟨⟨_, _, _, e, _⟩, _⟩ := h; rw [show ss = _ from e]; rfl)
    | (obtain ⟨_, _, _, _, e, _⟩ := h; rw [show ss = _ from e]; rfl)
    | (obtain ⟨⟨_, _, _, _, e, _⟩, _⟩ := h; rw [show ss = _ from e]; rfl)
    | (obtain ⟨_, _, _, _, _, e, _⟩ := h; rw [show ss = _ from e]; rfl)
    | (obtain ⟨⟨_, _, _, _, _, e, _⟩, _⟩ := h; rw [show ss = _ from e]; rfl)
    | (obtain ⟨_, _, _, _, _, _, e, _⟩ := h; rw [show ss = _ from e]; rfl)
    | (obtain ⟨⟨_, _, _, _, _, _, e, _⟩, _⟩ := h; rw [show ss = _ from e]; rfl)
    | (obtain ⟨_, _, _, _, _, _, _, e, _⟩ := h; rw [show ss = _ from e]; rfl)
    | (obtain ⟨⟨_, _, _, _, _, _, _, e, _⟩, _⟩ := h; rw [show ss = _ from e]; rfl)
theorem hl_lmade3 : ∀ ss g E Q, ((d_lmade 3).wp) ss g E Q → ss.length = 4 := by
  rintro ss g E Q ⟨x, h, _⟩
  first
    | (rw [show ss = _ from h]; rfl)
    | (rw [show ss = _ from h.1]; rfl)
    | (rw [show ss = _ from h.1.1]; rfl)
    | (obtain ⟨_, e, _⟩ := h; rw [show ss = _ from e]; rfl)
    | (obtain ⟨⟨_, e, _⟩, _⟩ := h; rw [show ss = _ from e]; rfl)
    | (obtain ⟨_, _, e, _⟩ := h; rw [show ss = _ from e]; rfl)
    | (obtain ⟨⟨_, _, e, _⟩, _⟩ := h; rw [show ss = _ from e]; rfl)
    | (obtain ⟨_, _, _, e, _⟩ := h; rw [show ss = _ from e]; rfl)
    | (obtain ⟨⟨_, _, _, e, _⟩, _⟩ := h; rw [show ss = _ from e]; rfl)
    | (obtain ⟨_, _, _, _, e, _⟩ := h; rw [show ss = _ from e]; rfl)
    | (obtain ⟨⟨_, _, _, _, e, _⟩, _⟩ := h; rw [show ss = _ from e]; rfl)
    | (obtain ⟨_, _, _, _, _, e, _⟩ := h; rw [show ss = _ from e]; rfl)
    | (obtain ⟨⟨_, _, _, _, _, e, _⟩, _⟩ := h; rw [show ss = _ from e]; rfl)
    | (obtain ⟨_, _, _, _, _, _, e, _⟩ := h; rw [show ss = _ from e]; rfl)
    | (obtain ⟨⟨_, _, _, _, _, _, e, _⟩, _⟩ := h; rw [show ss = _ from e]; rfl)
    | (obtain ⟨_, _, _, _, _, _, _, e, _⟩ := h; rw [show ss = _ from e]; rfl)
    | (obtain ⟨⟨_, _, _, _, _, _, _, e, _⟩, _⟩ := h; rw [show ss = _ from e]; rfl)
theorem hl_lright : ∀ ss g E Q, (d_lright.wp) ss g E Q → ss.length = 2 := by
  rintro ss g E Q ⟨x, h, _⟩
  first
    | (rw [show ss = _ from h]; rfl)
    | (rw [show ss = _ from h.1]; rfl)
    | (rw [show ss = _ from h.1.1]; rfl)
    | (obtain ⟨_, e, _⟩ := h; rw [show ss = _ from e]; rfl)
    | (obtain ⟨⟨_, e, _⟩, _⟩ := h; rw [show ss = _ from e]; rfl)
    | (obtain ⟨_, _, e, _⟩ := h; rw [show ss = _ from e]; rfl)
    | (obtain ⟨⟨_, _, e, _⟩, _⟩ := h; rw [show ss = _ from e]; rfl)
    | (obtain ⟨_, _, _, e, _⟩ := h; rw [show ss = _ from e]; rfl)
    | (obtain ⟨⟨_, _, _, e, _⟩, _⟩ := h; rw [show ss = _ from e]; rfl)
    | (obtain ⟨_, _, _, _, e, _⟩ := h; rw [show ss = _ from e]; rfl)
    | (obtain ⟨⟨_, _, _, _, e, _⟩, _⟩ := h; rw [show ss = _ from e]; rfl)
    | (obtain ⟨_, _, _, _, _, e, _⟩ := h; rw [show ss = _ from e]; rfl)
    | (obtain ⟨⟨_, _, _, _, _, e, _⟩, _⟩ := h; rw [show ss = _ from e]; rfl)
    | (obtain ⟨_, _, _, _, _, _, e, _⟩ := h; rw [show ss = _ from e]; rfl)
    | (obtain ⟨⟨_, _, _, _, _, _, e, _⟩, _⟩ := h; rw [show ss = _ from e]; rfl)
    | (obtain ⟨_, _, _, _, _, _, _, e, _⟩ := h; rw [show ss = _ from e]; rfl)
    | (obtain ⟨⟨_, _, _, _, _, _, _, e, _⟩, _⟩ := h; rw [show ss = _ from e]; rfl)
theorem hl_law : ∀ ss g E Q, (d_law.wp) ss g E Q → ss.length = 1 := by
  rintro ss g E Q ⟨x, h, _⟩
  first
    | (rw [show ss = _ from h]; rfl)
    | (rw [show ss = _ from h.1]; rfl)
    | (rw [show ss = _ from h.1.1]; rfl)
    | (obtain ⟨_, e, _⟩ := h; rw [show ss = _ from e]; rfl)
    | (obtain ⟨⟨_, e, _⟩, _⟩ := h; rw [show ss = _ from e]; rfl)
    | (obtain ⟨_, _, e, _⟩ := h; rw [show ss = _ from e]; rfl)
    | (obtain ⟨⟨_, _, e, _⟩, _⟩ := h; rw [show ss = _ from e]; rfl)
    | (obtain ⟨_, _, _, e, _⟩ := h; rw [show ss = _ from e]; rfl)
    | (obtain ⟨⟨_, _, _, e, _⟩, _⟩ := h; rw [show ss = _ from e]; rfl)
    | (obtain ⟨_, _, _, _, e, _⟩ := h; rw [show ss = _ from e]; rfl)
    | (obtain ⟨⟨_, _, _, _, e, _⟩, _⟩ := h; rw [show ss = _ from e]; rfl)
    | (obtain ⟨_, _, _, _, _, e, _⟩ := h; rw [show ss = _ from e]; rfl)
    | (obtain ⟨⟨_, _, _, _, _, e, _⟩, _⟩ := h; rw [show ss = _ from e]; rfl)
    | (obtain ⟨_, _, _, _, _, _, e, _⟩ := h; rw [show ss = _ from e]; rfl)
    | (obtain ⟨⟨_, _, _, _, _, _, e, _⟩, _⟩ := h; rw [show ss = _ from e]; rfl)
    | (obtain ⟨_, _, _, _, _, _, _, e, _⟩ := h; rw [show ss = _ from e]; rfl)
    | (obtain ⟨⟨_, _, _, _, _, _, _, e, _⟩, _⟩ := h; rw [show ss = _ from e]; rfl)
theorem facts {P : Program} {w : World} {K : PySem.W.Frag} {h : Heap} {mg : Str → Option Value} {f : Addr} (X : K.In h) (G : h.Ns mainGlobals mg) (hfa : mg ("law" : Str) = some (.ref f)) (c : SaysP faL fnL fbL K) :
    ∃ (fd : FuncData) (tb : Tb), (∀ (s : Shared) (u : Value), BindsTo s fd ⟨[u], []⟩ [("script", u)]) ∧ ∀ base : Heap, K.In base → base.Ns mainGlobals mg → FnOk P w K mg base (L2.CX P w) 8 f fd ["script"] (lift ⟨P, w, K, tb.cl⟩ tb.ec d_law.wp) := by
  have e := hfa.symm.trans (He.glo_ok X G (c.fa 63))
  cases e
  generalize etb : mkTb K ["Machine"] ["NoMachine", "NoTrial", "TrialError"] = tb
  obtain ⟨fd_is_name, hF_is_name⟩ := c.d.def_ 0 (d := dd_is_name) rfl
  have F_is_name : Fun K "is_name" "is_name" s_is_name (He.ga K "is_name") fd_is_name := fun_D hF_is_name
  have B_is_name : Binds K fd_is_name ["word"] [] := F_is_name.binds fun _ _ _ _ _ _ us hl => match us, hl with | [_], _ => rfl
  have bl_len : Bl mg "len" (.builtin "len") := mk_bl X G (c.fa 0) (by rfl)
  have gl_LETTERS : GlV mg K "LETTERS" (.str [97, 98, 99, 100, 101, 102, 103, 104, 105, 106, 107, 108, 109, 110, 111, 112, 113, 114, 115, 116, 117, 118, 119, 120, 121, 122]) := mk_gstr X G (c.fa 1) (by decide +kernel) (by rfl)
  have bl_all : Bl mg "all" (.builtin "all") := mk_bl X G (c.fa 2) (by rfl)
  obtain ⟨fd_need_names, hF_need_names⟩ := c.d.def_ 1 (d := dd_need_names) rfl
  have F_need_names : Fun K "need_names" "need_names" s_need_names (He.ga K "need_names") fd_need_names := fun_D hF_need_names
  have B_need_names : Binds K fd_need_names ["part", "words", "most", "others"] [] := F_need_names.binds fun _ _ _ _ _ _ us hl => match us, hl with | [_, _, _, _], _ => rfl
  have bl_enumerate : Bl mg "enumerate" (.type "enumerate") := mk_bl X G (c.fa 4) (by rfl)
  obtain ⟨fd_NoMachine___init__, hF_NoMachine___init__⟩ := c.d.def_ 2 (d := dd_NoMachine___init__) rfl
  have F_NoMachine___init__ : Fun K "__init__" "NoMachine.__init__" s_NoMachine___init__ (He.ma K (He.ga K "NoMachine") "__init__") fd_NoMachine___init__ := fun_D hF_NoMachine___init__
  have B_NoMachine___init__ : Binds K fd_NoMachine___init__ ["self", "part", "number"] [] := F_NoMachine___init__.binds fun _ _ _ _ _ _ us hl => match us, hl with | [_, _, _], _ => rfl
  have T_NoMachine : OexC K (He.ga K "NoMachine") := mk_oex (c.fb 0)
  have bs_NoMachine : BaseX K mg "TrialError" := mk_base X G (c.fa 5) (c.fb 1)
  obtain ⟨fd_is_sign_of, hF_is_sign_of⟩ := c.d.def_ 3 (d := dd_is_sign_of) rfl
  have F_is_sign_of : Fun K "is_sign_of" "is_sign_of" s_is_sign_of (He.ga K "is_sign_of") fd_is_sign_of := fun_D hF_is_sign_of
  have B_is_sign_of : Binds K fd_is_sign_of ["sign", "asks", "says"] [] := F_is_sign_of.binds fun _ _ _ _ _ _ us hl => match us, hl with | [_, _, _], _ => rfl
  obtain ⟨fd_need_doors, hF_need_doors⟩ := c.d.def_ 4 (d := dd_need_doors) rfl
  have F_need_doors : Fun K "need_doors" "need_doors" s_need_doors (He.ga K "need_doors") fd_need_doors := fun_D hF_need_doors
  have B_need_doors : Binds K fd_need_doors ["doors", "asks", "says", "rooms"] [] := F_need_doors.binds fun _ _ _ _ _ _ us hl => match us, hl with | [_, _, _, _], _ => rfl
  have gl_MOST_DOORS : GlV mg K "MOST_DOORS" (.int 2000) := mk_gint X G (c.fa 9)
  obtain ⟨fd_Machine_comes_round, hF_Machine_comes_round⟩ := c.d.def_ 5 (d := dd_Machine_comes_round) rfl
  have F_Machine_comes_round : Fun K "comes_round" "Machine.comes_round" s_Machine_comes_round (He.ma K (He.ga K "Machine") "comes_round") fd_Machine_comes_round := fun_D hF_Machine_comes_round
  have B_Machine_comes_round : Binds K fd_Machine_comes_round ["self", "room"] [] := F_Machine_comes_round.binds fun _ _ _ _ _ _ us hl => match us, hl with | [_, _], _ => rfl
  have in_Machine_leading : InsOk K tb "Machine" "leading" := etb ▸ mk_ins (c.fa 11) (c.fa 12)
  obtain ⟨fd_Machine___init__, hF_Machine___init__⟩ := c.d.def_ 6 (d := dd_Machine___init__) rfl
  have F_Machine___init__ : Fun K "__init__" "Machine.__init__" s_Machine___init__ (He.ma K (He.ga K "Machine") "__init__") fd_Machine___init__ := fun_D hF_Machine___init__
  have B_Machine___init__ : Binds K fd_Machine___init__ ["self", "asks", "says", "rooms", "doors"] [] := F_Machine___init__.binds fun _ _ _ _ _ _ us hl => match us, hl with | [_, _, _, _, _], _ => rfl
  have gl_MOST_WORDS : GlV mg K "MOST_WORDS" (.int 4) := mk_gint X G (c.fa 14)
  have gl_MOST_ROOMS : GlV mg K "MOST_ROOMS" (.int 150) := mk_gint X G (c.fa 15)
  have in_Machine_ask_words : InsOk K tb "Machine" "ask_words" := etb ▸ mk_ins (c.fa 11) (c.fa 16)
  have bl_list : Bl mg "list" (.type "list") := mk_bl X G (c.fa 17) (by rfl)
  have in_Machine_say_words : InsOk K tb "Machine" "say_words" := etb ▸ mk_ins (c.fa 11) (c.fa 18)
  have in_Machine_all_doors : InsOk K tb "Machine" "all_doors" := etb ▸ mk_ins (c.fa 11) (c.fa 19)
  obtain ⟨fd_Machine_asks, hF_Machine_asks⟩ := c.d.def_ 7 (d := dd_Machine_asks) rfl
  have F_Machine_asks : Fun K "asks" "Machine.asks" s_Machine_asks (He.ma K (He.ga K "Machine") "asks") fd_Machine_asks := fun_D hF_Machine_asks
  have B_Machine_asks : Binds K fd_Machine_asks ["self"] [] := F_Machine_asks.binds fun _ _ _ _ _ _ us hl => match us, hl with | [_], _ => rfl
  obtain ⟨fd_Machine_says, hF_Machine_says⟩ := c.d.def_ 8 (d := dd_Machine_says) rfl
  have F_Machine_says : Fun K "says" "Machine.says" s_Machine_says (He.ma K (He.ga K "Machine") "says") fd_Machine_says := fun_D hF_Machine_says
  have B_Machine_says : Binds K fd_Machine_says ["self"] [] := F_Machine_says.binds fun _ _ _ _ _ _ us hl => match us, hl with | [_], _ => rfl
  obtain ⟨fd_inner, hF_inner⟩ := c.d.def_ 9 (d := dd_inner) rfl
  have F_inner : Fun K "inner" "inner" s_inner (He.ga K "inner") fd_inner := fun_D hF_inner
  have B_inner : Binds K fd_inner ["trial"] [] := F_inner.binds fun _ _ _ _ _ _ us hl => match us, hl with | [_], _ => rfl
  obtain ⟨fd_is_so, hF_is_so⟩ := c.d.def_ 10 (d := dd_is_so) rfl
  have F_is_so : Fun K "is_so" "is_so" s_is_so (He.ga K "is_so") fd_is_so := fun_D hF_is_so
  have B_is_so : Binds K fd_is_so ["model", "trial"] [] := F_is_so.binds fun _ _ _ _ _ _ us hl => match us, hl with | [_, _], _ => rfl
  obtain ⟨fd_need_trial, hF_need_trial⟩ := c.d.def_ 11 (d := dd_need_trial) rfl
  have F_need_trial : Fun K "need_trial" "need_trial" s_need_trial (He.ga K "need_trial") fd_need_trial := fun_D hF_need_trial
  have B_need_trial : Binds K fd_need_trial ["model", "trial"] [] := F_need_trial.binds fun _ _ _ _ _ _ us hl => match us, hl with | [_, _], _ => rfl
  have gl_MOST : GlV mg K "MOST" (.int 1000) := mk_gint X G (c.fa 26)
  have gl_DEEPEST : GlV mg K "DEEPEST" (.int 8) := mk_gint X G (c.fa 27)
  have bl_min : Bl mg "min" (.builtin "min") := mk_bl X G (c.fa 28) (by rfl)
  obtain ⟨fd_NoTrial___init__, hF_NoTrial___init__⟩ := c.d.def_ 12 (d := dd_NoTrial___init__) rfl
  have F_NoTrial___init__ : Fun K "__init__" "NoTrial.__init__" s_NoTrial___init__ (He.ma K (He.ga K "NoTrial") "__init__") fd_NoTrial___init__ := fun_D hF_NoTrial___init__
  have B_NoTrial___init__ : Binds K fd_NoTrial___init__ ["self", "way"] [] := F_NoTrial___init__.binds fun _ _ _ _ _ _ us hl => match us, hl with | [_, _], _ => rfl
  have T_NoTrial : OexC K (He.ga K "NoTrial") := mk_oex (c.fb 5)
  have bs_NoTrial : BaseX K mg "TrialError" := mk_base X G (c.fa 5) (c.fb 1)
  obtain ⟨fd_signs_of, hF_signs_of⟩ := c.d.def_ 13 (d := dd_signs_of) rfl
  have F_signs_of : Fun K "signs_of" "signs_of" s_signs_of (He.ga K "signs_of") fd_signs_of := fun_D hF_signs_of
  have B_signs_of : Binds K fd_signs_of ["trial"] [] := F_signs_of.binds fun _ _ _ _ _ _ us hl => match us, hl with | [_], _ => rfl
  obtain ⟨fd_leaves, hF_leaves⟩ := c.d.def_ 14 (d := dd_leaves) rfl
  have F_leaves : Fun K "leaves" "leaves" s_leaves (He.ga K "leaves") fd_leaves := fun_D hF_leaves
  have B_leaves : Binds K fd_leaves ["model", "trial"] [] := F_leaves.binds fun _ _ _ _ _ _ us hl => match us, hl with | [_, _], _ => rfl
  have bl_zip : Bl mg "zip" (.type "zip") := mk_bl X G (c.fa 32) (by rfl)
  have bl_sorted : Bl mg "sorted" (.builtin "sorted") := mk_bl X G (c.fa 33) (by rfl)
  obtain ⟨fd__law_spread, hF__law_spread⟩ := c.d.def_ 15 (d := dd__law_spread) rfl
  have F__law_spread : Fun K "_law_spread" "_law_spread" s__law_spread (He.ga K "_law_spread") fd__law_spread := fun_D hF__law_spread
  have B__law_spread : Binds K fd__law_spread ["cell", "at"] [] := F__law_spread.binds fun _ _ _ _ _ _ us hl => match us, hl with | [_, _], _ => rfl
  obtain ⟨fd__law_open, hF__law_open⟩ := c.d.def_ 16 (d := dd__law_open) rfl
  have F__law_open : Fun K "_law_open" "_law_open" s__law_open (He.ga K "_law_open") fd__law_open := fun_D hF__law_open
  have B__law_open : Binds K fd__law_open ["script"] [] := F__law_open.binds fun _ _ _ _ _ _ us hl => match us, hl with | [_], _ => rfl
  obtain ⟨fd__law_take, hF__law_take⟩ := c.d.def_ 17 (d := dd__law_take) rfl
  have F__law_take : Fun K "_law_take" "_law_take" s__law_take (He.ga K "_law_take") fd__law_take := fun_D hF__law_take
  have B__law_take : Binds K fd__law_take ["pen", "many"] [] := F__law_take.binds fun _ _ _ _ _ _ us hl => match us, hl with | [_, _], _ => rfl
  obtain ⟨fd__law_names, hF__law_names⟩ := c.d.def_ 18 (d := dd__law_names) rfl
  have F__law_names : Fun K "_law_names" "_law_names" s__law_names (He.ga K "_law_names") fd__law_names := fun_D hF__law_names
  have B__law_names : Binds K fd__law_names ["pen", "many"] [] := F__law_names.binds fun _ _ _ _ _ _ us hl => match us, hl with | [_, _], _ => rfl
  have bl_range : Bl mg "range" (.type "range") := mk_bl X G (c.fa 38) (by rfl)
  obtain ⟨fd__law_anew, hF__law_anew⟩ := c.d.def_ 19 (d := dd__law_anew) rfl
  have F__law_anew : Fun K "_law_anew" "_law_anew" s__law_anew (He.ga K "_law_anew") fd__law_anew := fun_D hF__law_anew
  have B__law_anew : Binds K fd__law_anew ["pen"] [] := F__law_anew.binds fun _ _ _ _ _ _ us hl => match us, hl with | [_], _ => rfl
  obtain ⟨fd__law_put, hF__law_put⟩ := c.d.def_ 20 (d := dd__law_put) rfl
  have F__law_put : Fun K "_law_put" "_law_put" s__law_put (He.ga K "_law_put") fd__law_put := fun_D hF__law_put
  have B__law_put : Binds K fd__law_put ["doors", "door"] [] := F__law_put.binds fun _ _ _ _ _ _ us hl => match us, hl with | [_, _], _ => rfl
  obtain ⟨fd__law_draw_doors, hF__law_draw_doors⟩ := c.d.def_ 21 (d := dd__law_draw_doors) rfl
  have F__law_draw_doors : Fun K "_law_draw_doors" "_law_draw_doors" s__law_draw_doors (He.ga K "_law_draw_doors") fd__law_draw_doors := fun_D hF__law_draw_doors
  have B__law_draw_doors : Binds K fd__law_draw_doors ["pen", "asks", "says", "rooms", "full"] [] := F__law_draw_doors.binds fun _ _ _ _ _ _ us hl => match us, hl with | [_, _, _, _, _], _ => rfl
  obtain ⟨fd__law_model, hF__law_model⟩ := c.d.def_ 22 (d := dd__law_model) rfl
  have F__law_model : Fun K "_law_model" "_law_model" s__law_model (He.ga K "_law_model") fd__law_model := fun_D hF__law_model
  have B__law_model : Binds K fd__law_model ["pen", "most", "full"] [] := F__law_model.binds fun _ _ _ _ _ _ us hl => match us, hl with | [_, _, _], _ => rfl
  obtain ⟨fd__law_still_on, hF__law_still_on⟩ := c.d.def_ 23 (d := dd__law_still_on) rfl
  have F__law_still_on : Fun K "_law_still_on" "_law_still_on" s__law_still_on (He.ga K "_law_still_on") fd__law_still_on := fun_D hF__law_still_on
  have B__law_still_on : Binds K fd__law_still_on ["doors", "rooms"] [] := F__law_still_on.binds fun _ _ _ _ _ _ us hl => match us, hl with | [_, _], _ => rfl
  obtain ⟨fd__law_machine, hF__law_machine⟩ := c.d.def_ 24 (d := dd__law_machine) rfl
  have F__law_machine : Fun K "_law_machine" "_law_machine" s__law_machine (He.ga K "_law_machine") fd__law_machine := fun_D hF__law_machine
  have B__law_machine : Binds K fd__law_machine ["told"] [] := F__law_machine.binds fun _ _ _ _ _ _ us hl => match us, hl with | [_], _ => rfl
  obtain ⟨fd__law_same, hF__law_same⟩ := c.d.def_ 25 (d := dd__law_same) rfl
  have F__law_same : Fun K "_law_same" "_law_same" s__law_same (He.ga K "_law_same") fd__law_same := fun_D hF__law_same
  have B__law_same : Binds K fd__law_same ["found", "due"] [] := F__law_same.binds fun _ _ _ _ _ _ us hl => match us, hl with | [_, _], _ => rfl
  have bl_isinstance : Bl mg "isinstance" (.builtin "isinstance") := mk_bl X G (c.fa 47) (by rfl)
  have bl_bool : Bl mg "bool" (.type "bool") := mk_bl X G (c.fa 48) (by rfl)
  have bl_str : Bl mg "str" (.type "str") := mk_bl X G (c.fa 49) (by rfl)
  have bl_int : Bl mg "int" (.type "int") := mk_bl X G (c.fa 50) (by rfl)
  have bl_tuple : Bl mg "tuple" (.type "tuple") := mk_bl X G (c.fa 51) (by rfl)
  obtain ⟨fd__law_quiet, hF__law_quiet⟩ := c.d.def_ 26 (d := dd__law_quiet) rfl
  have F__law_quiet : Fun K "_law_quiet" "_law_quiet" s__law_quiet (He.ga K "_law_quiet") fd__law_quiet := fun_D hF__law_quiet
  have B__law_quiet : Binds K fd__law_quiet ["told", "room"] [] := F__law_quiet.binds fun _ _ _ _ _ _ us hl => match us, hl with | [_, _], _ => rfl
  obtain ⟨fd__law_in_order, hF__law_in_order⟩ := c.d.def_ 27 (d := dd__law_in_order) rfl
  have F__law_in_order : Fun K "_law_in_order" "_law_in_order" s__law_in_order (He.ga K "_law_in_order") fd__law_in_order := fun_D hF__law_in_order
  have B__law_in_order : Binds K fd__law_in_order ["told", "some"] [] := F__law_in_order.binds fun _ _ _ _ _ _ us hl => match us, hl with | [_, _], _ => rfl
  obtain ⟨fd__law_face_on, hF__law_face_on⟩ := c.d.def_ 28 (d := dd__law_face_on) rfl
  have F__law_face_on : Fun K "_law_face_on" "_law_face_on" s__law_face_on (He.ga K "_law_face_on") fd__law_face_on := fun_D hF__law_face_on
  have B__law_face_on : Binds K fd__law_face_on ["told", "face", "sign"] [] := F__law_face_on.binds fun _ _ _ _ _ _ us hl => match us, hl with | [_, _, _], _ => rfl
  obtain ⟨fd__law_face_at, hF__law_face_at⟩ := c.d.def_ 29 (d := dd__law_face_at) rfl
  have F__law_face_at : Fun K "_law_face_at" "_law_face_at" s__law_face_at (He.ga K "_law_face_at") fd__law_face_at := fun_D hF__law_face_at
  have B__law_face_at : Binds K fd__law_face_at ["told", "story"] [] := F__law_face_at.binds fun _ _ _ _ _ _ us hl => match us, hl with | [_, _], _ => rfl
  obtain ⟨fd__law_inner, hF__law_inner⟩ := c.d.def_ 30 (d := dd__law_inner) rfl
  have F__law_inner : Fun K "_law_inner" "_law_inner" s__law_inner (He.ga K "_law_inner") fd__law_inner := fun_D hF__law_inner
  have B__law_inner : Binds K fd__law_inner ["trial"] [] := F__law_inner.binds fun _ _ _ _ _ _ us hl => match us, hl with | [_], _ => rfl
  obtain ⟨fd__law_signs, hF__law_signs⟩ := c.d.def_ 31 (d := dd__law_signs) rfl
  have F__law_signs : Fun K "_law_signs" "_law_signs" s__law_signs (He.ga K "_law_signs") fd__law_signs := fun_D hF__law_signs
  have B__law_signs : Binds K fd__law_signs ["trial"] [] := F__law_signs.binds fun _ _ _ _ _ _ us hl => match us, hl with | [_], _ => rfl
  obtain ⟨fd__law_leaves, hF__law_leaves⟩ := c.d.def_ 32 (d := dd__law_leaves) rfl
  have F__law_leaves : Fun K "_law_leaves" "_law_leaves" s__law_leaves (He.ga K "_law_leaves") fd__law_leaves := fun_D hF__law_leaves
  have B__law_leaves : Binds K fd__law_leaves ["trial", "way", "story"] [] := F__law_leaves.binds fun _ _ _ _ _ _ us hl => match us, hl with | [_, _, _], _ => rfl
  obtain ⟨fd__law_pairs, hF__law_pairs⟩ := c.d.def_ 33 (d := dd__law_pairs) rfl
  have F__law_pairs : Fun K "_law_pairs" "_law_pairs" s__law_pairs (He.ga K "_law_pairs") fd__law_pairs := fun_D hF__law_pairs
  have B__law_pairs : Binds K fd__law_pairs ["says", "some"] [] := F__law_pairs.binds fun _ _ _ _ _ _ us hl => match us, hl with | [_, _], _ => rfl
  obtain ⟨fd__law_trial, hF__law_trial⟩ := c.d.def_ 34 (d := dd__law_trial) rfl
  have F__law_trial : Fun K "_law_trial" "_law_trial" s__law_trial (He.ga K "_law_trial") fd__law_trial := fun_D hF__law_trial
  have B__law_trial : Binds K fd__law_trial ["pen", "told", "deep", "left"] [] := F__law_trial.binds fun _ _ _ _ _ _ us hl => match us, hl with | [_, _, _, _], _ => rfl
  obtain ⟨fd__law_made, hF__law_made⟩ := c.d.def_ 35 (d := dd__law_made) rfl
  have F__law_made : Fun K "_law_made" "_law_made" s__law_made (He.ga K "_law_made") fd__law_made := fun_D hF__law_made
  have B__law_made : Binds K fd__law_made ["pen", "told", "face", "deep"] [] := F__law_made.binds fun _ _ _ _ _ _ us hl => match us, hl with | [_, _, _, _], _ => rfl
  obtain ⟨fd__law_right, hF__law_right⟩ := c.d.def_ 36 (d := dd__law_right) rfl
  have F__law_right : Fun K "_law_right" "_law_right" s__law_right (He.ga K "_law_right") fd__law_right := fun_D hF__law_right
  have B__law_right : Binds K fd__law_right ["model", "trial"] [] := F__law_right.binds fun _ _ _ _ _ _ us hl => match us, hl with | [_, _], _ => rfl
  obtain ⟨fd_law, hF_law⟩ := c.d.def_ 37 (d := dd_law) rfl
  have F_law : Fun K "law" "law" s_law (He.ga K "law") fd_law := fun_D hF_law
  have B_law : Binds K fd_law ["script"] [] := F_law.binds fun _ _ _ _ _ _ us hl => match us, hl with | [_], _ => rfl
  have bL := FunD.bindsA (ps := ["script"]) hF_law fun _ _ _ _ _ _ us hl => match us, hl with | [_], _ => rfl
  refine ⟨fd_law, tb, fun s v => bL s [v] rfl, fun base _ _ => ?_⟩
  subst etb
  have c_is_name : Cal P w K mg base (mkTb K ["Machine"] ["NoMachine", "NoTrial", "TrialError"]) "is_name" 1 d_is_name.wp := mk_cal X G (c.fa 3) F_is_name.kp (fn_d (k := 0) F_is_name sc_is_name hl_is_name (fun _ _ _ _ _ _ hr => der_is_name (bl_len := bl_len) (gl_LETTERS := gl_LETTERS) (bl_all := bl_all) hr) k_is_name) B_is_name (Sg.mono _)
  have x_NoMachine : CalX P w K mg base (mkTb K ["Machine"] ["NoMachine", "NoTrial", "TrialError"]) "NoMachine" "NoMachine" ["part", "number"] 1 := mk_calx X G (c.fa 6) (c.fb 2) T_NoMachine (fx_NoMachine F_NoMachine___init__ T_NoMachine bs_NoMachine (mk_noat (c.fb 3)) (mk_noat (c.fb 4))) B_NoMachine___init__ (by decide +kernel) (by decide)
  have c_need_names : Cal P w K mg base (mkTb K ["Machine"] ["NoMachine", "NoTrial", "TrialError"]) "need_names" 3 d_need.wp := mk_cal X G (c.fa 7) F_need_names.kp (fn_d (k := 2) F_need_names sc_need_names hl_need_names (fun _ _ _ _ _ _ hr => der_need_names (x_NoMachine := x_NoMachine) (l_x_NoMachine := by decide) (bl_enumerate := bl_enumerate) (c_is_name := c_is_name) (l_is_name := by decide) (bl_len := bl_len) hr) k_need) B_need_names (Sg.mono _)
  have c_is_sign_of : Cal P w K mg base (mkTb K ["Machine"] ["NoMachine", "NoTrial", "TrialError"]) "is_sign_of" 1 d_sign.wp := mk_cal X G (c.fa 8) F_is_sign_of.kp (fn_d (k := 0) F_is_sign_of sc_is_sign_of hl_is_sign_of (fun _ _ _ _ _ _ hr => der_is_sign_of (bl_len := bl_len) hr) k_sign) B_is_sign_of (Sg.mono _)
  have c_need_doors : Cal P w K mg base (mkTb K ["Machine"] ["NoMachine", "NoTrial", "TrialError"]) "need_doors" 3 d_needD.wp := mk_cal X G (c.fa 10) F_need_doors.kp (fn_d (k := 2) F_need_doors sc_need_doors hl_need_doors (fun _ _ _ _ _ _ hr => der_need_doors (bl_enumerate := bl_enumerate) (gl_MOST_DOORS := gl_MOST_DOORS) (c_is_sign_of := c_is_sign_of) (l_is_sign_of := by decide) (x_NoMachine := x_NoMachine) (l_x_NoMachine := by decide) (bl_len := bl_len) hr) k_needD) B_need_doors (Sg.mono _)
  have m_round : CalM P w K mg base (mkTb K ["Machine"] ["NoMachine", "NoTrial", "TrialError"]) "Machine" "comes_round" 1 d_round.wp := mk_calm (c.fa 11) (c.fa 13) (fn_d (k := 0) F_Machine_comes_round sc_Machine_comes_round hl_round (fun _ _ _ _ _ _ hr => der_Machine_comes_round (in_Machine_leading := in_Machine_leading) hr) k_round) B_Machine_comes_round (Sg.mono _) (by decide)
  have n_init : CalN P w K mg base (mkTb K ["Machine"] ["NoMachine", "NoTrial", "TrialError"]) "Machine" "Machine" 4 d_init.wp := mk_caln X G (c.fa 20) (c.fa 21) (fn_d (k := 3) F_Machine___init__ sc_Machine___init__ hl_init (fun _ _ _ _ _ _ hr => der_Machine___init__ (c_need_names := c_need_names) (l_need_names := by decide) (gl_MOST_WORDS := gl_MOST_WORDS) (gl_MOST_ROOMS := gl_MOST_ROOMS) (in_Machine_ask_words := in_Machine_ask_words) (bl_list := bl_list) (in_Machine_say_words := in_Machine_say_words) (in_Machine_leading := in_Machine_leading) (c_need_doors := c_need_doors) (l_need_doors := by decide) (in_Machine_all_doors := in_Machine_all_doors) (bl_enumerate := bl_enumerate) (m_Machine_comes_round := m_round) (l_Machine_comes_round := by decide) (x_NoMachine := x_NoMachine) (l_x_NoMachine := by decide) hr) k_init) B_Machine___init__ (Sg.mono _) (by decide)
  have m_asks : CalM P w K mg base (mkTb K ["Machine"] ["NoMachine", "NoTrial", "TrialError"]) "Machine" "asks" 1 d_asksD.wp := mk_calm (c.fa 11) (c.fa 22) (fn_d (k := 0) F_Machine_asks sc_Machine_asks hl_asks (fun _ _ _ _ _ _ hr => der_Machine_asks (in_Machine_ask_words := in_Machine_ask_words) (bl_list := bl_list) hr) k_asksD) B_Machine_asks (Sg.mono _) (by decide)
  have m_says : CalM P w K mg base (mkTb K ["Machine"] ["NoMachine", "NoTrial", "TrialError"]) "Machine" "says" 1 d_saysD.wp := mk_calm (c.fa 11) (c.fa 23) (fn_d (k := 0) F_Machine_says sc_Machine_says hl_says (fun _ _ _ _ _ _ hr => der_Machine_says (in_Machine_say_words := in_Machine_say_words) (bl_list := bl_list) hr) k_saysD) B_Machine_says (Sg.mono _) (by decide)
  have c_inner : Cal P w K mg base (mkTb K ["Machine"] ["NoMachine", "NoTrial", "TrialError"]) "inner" 1 d_inner.wp := mk_cal X G (c.fa 24) F_inner.kp (fn_d (k := 0) F_inner sc_inner hl_inner (fun _ _ _ _ _ _ hr => der_inner (bl_len := bl_len) hr) k_inner) B_inner (Sg.mono _)
  have c_isso : Cal P w K mg base (mkTb K ["Machine"] ["NoMachine", "NoTrial", "TrialError"]) "is_so" 2 d_isso.wp := mk_cal X G (c.fa 25) F_is_so.kp (fn_d (k := 1) F_is_so sc_is_so hl_isso (fun _ _ _ _ _ _ hr => der_is_so (bl_len := bl_len) (m_Machine_asks := m_asks) (l_Machine_asks := by decide) (m_Machine_says := m_says) (l_Machine_says := by decide) hr) k_isso) B_is_so (Sg.mono _)
  have x_NoTrial : CalX P w K mg base (mkTb K ["Machine"] ["NoMachine", "NoTrial", "TrialError"]) "NoTrial" "NoTrial" ["way"] 1 := mk_calx X G (c.fa 29) (c.fb 6) T_NoTrial (fx_NoTrial F_NoTrial___init__ T_NoTrial bs_NoTrial (mk_noat (c.fb 7))) B_NoTrial___init__ (by decide +kernel) (by decide)
  have c_needtrial : Cal P w K mg base (mkTb K ["Machine"] ["NoMachine", "NoTrial", "TrialError"]) "need_trial" 3 d_needtrial.wp := mk_cal X G (c.fa 30) F_need_trial.kp (fn_d (k := 2) F_need_trial sc_need_trial hl_needtrial (fun _ _ _ _ _ _ hr => der_need_trial (gl_MOST := gl_MOST) (bl_len := bl_len) (gl_DEEPEST := gl_DEEPEST) (x_NoTrial := x_NoTrial) (l_x_NoTrial := by decide) (c_is_so := c_isso) (l_is_so := by decide) (bl_enumerate := bl_enumerate) (c_inner := c_inner) (l_inner := by decide) (bl_min := bl_min) hr) k_needtrial) B_need_trial (Sg.mono _)
  have c_tsigns : Cal P w K mg base (mkTb K ["Machine"] ["NoMachine", "NoTrial", "TrialError"]) "signs_of" 1 d_tsigns.wp := mk_cal X G (c.fa 31) F_signs_of.kp (fn_d (k := 0) F_signs_of sc_signs_of hl_tsigns (fun _ _ _ _ _ _ hr => der_signs_of  hr) k_tsigns) B_signs_of (Sg.mono _)
  have c_tleaves : Cal P w K mg base (mkTb K ["Machine"] ["NoMachine", "NoTrial", "TrialError"]) "leaves" 4 d_tleaves.wp := mk_cal X G (c.fa 34) F_leaves.kp (fn_d (k := 3) F_leaves sc_leaves hl_tleaves (fun _ _ _ _ _ _ hr => der_leaves (c_need_trial := c_needtrial) (l_need_trial := by decide) (c_inner := c_inner) (l_inner := by decide) (bl_list := bl_list) (bl_enumerate := bl_enumerate) (bl_zip := bl_zip) (c_signs_of := c_tsigns) (l_signs_of := by decide) (bl_sorted := bl_sorted) hr) k_tleaves) B_leaves (Sg.mono _)
  have c_spread : Cal P w K mg base (mkTb K ["Machine"] ["NoMachine", "NoTrial", "TrialError"]) "_law_spread" 1 d_spread.wp := mk_cal X G (c.fa 35) F__law_spread.kp (fn_d (k := 0) F__law_spread sc__law_spread hl_spread (fun _ _ _ _ _ _ hr => der__law_spread  hr) k_spread) B__law_spread (Sg.mono _)
  have c_open : Cal P w K mg base (mkTb K ["Machine"] ["NoMachine", "NoTrial", "TrialError"]) "_law_open" 1 d_open.wp := mk_cal X G (c.fa 36) F__law_open.kp (fn_d (k := 0) F__law_open sc__law_open hl_open (fun _ _ _ _ _ _ hr => der__law_open (bl_list := bl_list) (bl_enumerate := bl_enumerate) hr) k_open) B__law_open (Sg.mono _)
  have c_take : Cal P w K mg base (mkTb K ["Machine"] ["NoMachine", "NoTrial", "TrialError"]) "_law_take" 2 d_take.wp := mk_cal X G (c.fa 37) F__law_take.kp (fn_d (k := 1) F__law_take sc__law_take hl_take (fun _ _ _ _ _ _ hr => der__law_take (bl_len := bl_len) (c__law_spread := c_spread) (l__law_spread := by decide) hr) k_take) B__law_take (Sg.mono _)
  have c_names : Cal P w K mg base (mkTb K ["Machine"] ["NoMachine", "NoTrial", "TrialError"]) "_law_names" 3 d_names.wp := mk_cal X G (c.fa 39) F__law_names.kp (fn_d (k := 2) F__law_names sc__law_names hl_names (fun _ _ _ _ _ _ hr => der__law_names (bl_range := bl_range) (c__law_take := c_take) (l__law_take := by decide) (bl_len := bl_len) hr) k_names) B__law_names (Sg.mono _)
  have c_anew : Cal P w K mg base (mkTb K ["Machine"] ["NoMachine", "NoTrial", "TrialError"]) "_law_anew" 1 d_anew.wp := mk_cal X G (c.fa 40) F__law_anew.kp (fn_d (k := 0) F__law_anew sc__law_anew hl_anew (fun _ _ _ _ _ _ hr => der__law_anew  hr) k_anew) B__law_anew (Sg.mono _)
  have c_put : Cal P w K mg base (mkTb K ["Machine"] ["NoMachine", "NoTrial", "TrialError"]) "_law_put" 1 d_put.wp := mk_cal X G (c.fa 41) F__law_put.kp (fn_d (k := 0) F__law_put sc__law_put hl_put (fun _ _ _ _ _ _ hr => der__law_put  hr) k_put) B__law_put (Sg.mono _)
  have c_draw : Cal P w K mg base (mkTb K ["Machine"] ["NoMachine", "NoTrial", "TrialError"]) "_law_draw_doors" 3 d_draw.wp := mk_cal X G (c.fa 42) F__law_draw_doors.kp (fn_d (k := 2) F__law_draw_doors sc__law_draw_doors hl_draw (fun _ _ _ _ _ _ hr => der__law_draw_doors (c__law_take := c_take) (l__law_take := by decide) (bl_enumerate := bl_enumerate) (bl_range := bl_range) (bl_len := bl_len) (c__law_put := c_put) (l__law_put := by decide) hr) k_draw) B__law_draw_doors (Sg.mono _)
  have c_model : Cal P w K mg base (mkTb K ["Machine"] ["NoMachine", "NoTrial", "TrialError"]) "_law_model" 4 d_model.wp := mk_cal X G (c.fa 43) F__law_model.kp (fn_d (k := 3) F__law_model sc__law_model hl_model (fun _ _ _ _ _ _ hr => der__law_model (c__law_anew := c_anew) (l__law_anew := by decide) (c__law_names := c_names) (l__law_names := by decide) (c__law_take := c_take) (l__law_take := by decide) (c__law_draw_doors := c_draw) (l__law_draw_doors := by decide) hr) k_model) B__law_model (Sg.mono _)
  have c_stillon : Cal P w K mg base (mkTb K ["Machine"] ["NoMachine", "NoTrial", "TrialError"]) "_law_still_on" 1 d_stillon.wp := mk_cal X G (c.fa 44) F__law_still_on.kp (fn_d (k := 0) F__law_still_on sc__law_still_on hl_stillon (fun _ _ _ _ _ _ hr => der__law_still_on (bl_list := bl_list) (bl_len := bl_len) hr) k_stillon) B__law_still_on (Sg.mono _)
  have c_mach : Cal P w K mg base (mkTb K ["Machine"] ["NoMachine", "NoTrial", "TrialError"]) "_law_machine" 6 d_mach.wp := mk_cal X G (c.fa 45) F__law_machine.kp (fn_d (k := 5) F__law_machine sc__law_machine hl_mach (fun _ _ _ _ _ _ hr => der__law_machine (bl_list := bl_list) (n_Machine := n_init) (l_Machine___init__ := by decide) hr) k_mach) B__law_machine (Sg.mono _)
  have c_same_ : Cal P w K mg base (mkTb K ["Machine"] ["NoMachine", "NoTrial", "TrialError"]) "_law_same" 0 (fun _ _ _ _ => False) := mk_cal X G (c.fa 46) F__law_same.kp fn_no B__law_same mono_no
  have c_same0 : Cal P w K mg base (mkTb K ["Machine"] ["NoMachine", "NoTrial", "TrialError"]) "_law_same" 1 (d_same 0).wp := mk_cal X G (c.fa 46) F__law_same.kp (fn_d (k := 0) F__law_same sc__law_same hl_same0 (fun _ _ _ _ _ _ hr => der__law_same (bl_isinstance := bl_isinstance) (bl_bool := bl_bool) (bl_str := bl_str) (bl_int := bl_int) (bl_tuple := bl_tuple) (bl_list := bl_list) (bl_len := bl_len) (bl_zip := bl_zip) (c__law_same := c_same_) (l__law_same := by decide) (bl_all := bl_all) hr) k_same30) B__law_same (Sg.mono _)
  have c_same1 : Cal P w K mg base (mkTb K ["Machine"] ["NoMachine", "NoTrial", "TrialError"]) "_law_same" 2 (d_same 1).wp := mk_cal X G (c.fa 46) F__law_same.kp (fn_d (k := 1) F__law_same sc__law_same hl_same1 (fun _ _ _ _ _ _ hr => der__law_same (bl_isinstance := bl_isinstance) (bl_bool := bl_bool) (bl_str := bl_str) (bl_int := bl_int) (bl_tuple := bl_tuple) (bl_list := bl_list) (bl_len := bl_len) (bl_zip := bl_zip) (c__law_same := c_same0) (l__law_same := by decide) (bl_all := bl_all) hr) (k_same3S 0)) B__law_same (Sg.mono _)
  have c_same2 : Cal P w K mg base (mkTb K ["Machine"] ["NoMachine", "NoTrial", "TrialError"]) "_law_same" 3 (d_same 2).wp := mk_cal X G (c.fa 46) F__law_same.kp (fn_d (k := 2) F__law_same sc__law_same hl_same2 (fun _ _ _ _ _ _ hr => der__law_same (bl_isinstance := bl_isinstance) (bl_bool := bl_bool) (bl_str := bl_str) (bl_int := bl_int) (bl_tuple := bl_tuple) (bl_list := bl_list) (bl_len := bl_len) (bl_zip := bl_zip) (c__law_same := c_same1) (l__law_same := by decide) (bl_all := bl_all) hr) (k_same3S 1)) B__law_same (Sg.mono _)
  have c_same3 : Cal P w K mg base (mkTb K ["Machine"] ["NoMachine", "NoTrial", "TrialError"]) "_law_same" 4 (d_same 3).wp := mk_cal X G (c.fa 46) F__law_same.kp (fn_d (k := 3) F__law_same sc__law_same hl_same3 (fun _ _ _ _ _ _ hr => der__law_same (bl_isinstance := bl_isinstance) (bl_bool := bl_bool) (bl_str := bl_str) (bl_int := bl_int) (bl_tuple := bl_tuple) (bl_list := bl_list) (bl_len := bl_len) (bl_zip := bl_zip) (c__law_same := c_same2) (l__law_same := by decide) (bl_all := bl_all) hr) (k_same3S 2)) B__law_same (Sg.mono _)
  have c_same4 : Cal P w K mg base (mkTb K ["Machine"] ["NoMachine", "NoTrial", "TrialError"]) "_law_same" 5 (d_same 4).wp := mk_cal X G (c.fa 46) F__law_same.kp (fn_d (k := 4) F__law_same sc__law_same hl_same4 (fun _ _ _ _ _ _ hr => der__law_same (bl_isinstance := bl_isinstance) (bl_bool := bl_bool) (bl_str := bl_str) (bl_int := bl_int) (bl_tuple := bl_tuple) (bl_list := bl_list) (bl_len := bl_len) (bl_zip := bl_zip) (c__law_same := c_same3) (l__law_same := by decide) (bl_all := bl_all) hr) (k_same3S 3)) B__law_same (Sg.mono _)
  have c_gquiet : Cal P w K mg base (mkTb K ["Machine"] ["NoMachine", "NoTrial", "TrialError"]) "_law_quiet" 1 d_lquiet.wp := mk_cal X G (c.fa 52) F__law_quiet.kp (fn_d (k := 0) F__law_quiet sc__law_quiet hl_gquiet (fun _ _ _ _ _ _ hr => der__law_quiet (bl_all := bl_all) hr) k_gquiet) B__law_quiet (Sg.mono _)
  have c_inorder : Cal P w K mg base (mkTb K ["Machine"] ["NoMachine", "NoTrial", "TrialError"]) "_law_in_order" 2 d_lon.wp := mk_cal X G (c.fa 53) F__law_in_order.kp (fn_d (k := 1) F__law_in_order sc__law_in_order hl_inorder (fun _ _ _ _ _ _ hr => der__law_in_order (c__law_still_on := c_stillon) (l__law_still_on := by decide) (bl_tuple := bl_tuple) hr) k_inorder) B__law_in_order (Sg.mono _)
  have c_faceon : Cal P w K mg base (mkTb K ["Machine"] ["NoMachine", "NoTrial", "TrialError"]) "_law_face_on" 3 d_lbehind.wp := mk_cal X G (c.fa 54) F__law_face_on.kp (fn_d (k := 2) F__law_face_on sc__law_face_on hl_faceon (fun _ _ _ _ _ _ hr => der__law_face_on (c__law_quiet := c_gquiet) (l__law_quiet := by decide) (bl_tuple := bl_tuple) (c__law_in_order := c_inorder) (l__law_in_order := by decide) hr) k_faceon) B__law_face_on (Sg.mono _)
  have c_faceat : Cal P w K mg base (mkTb K ["Machine"] ["NoMachine", "NoTrial", "TrialError"]) "_law_face_at" 4 d_lface.wp := mk_cal X G (c.fa 55) F__law_face_at.kp (fn_d (k := 3) F__law_face_at sc__law_face_at hl_faceat (fun _ _ _ _ _ _ hr => der__law_face_at (c__law_in_order := c_inorder) (l__law_in_order := by decide) (c__law_face_on := c_faceon) (l__law_face_on := by decide) hr) k_faceat) B__law_face_at (Sg.mono _)
  have c_linner : Cal P w K mg base (mkTb K ["Machine"] ["NoMachine", "NoTrial", "TrialError"]) "_law_inner" 1 d_inner.wp := mk_cal X G (c.fa 56) F__law_inner.kp (fn_d (k := 0) F__law_inner sc__law_inner hl_linner (fun _ _ _ _ _ _ hr => der__law_inner (bl_len := bl_len) hr) k_linner) B__law_inner (Sg.mono _)
  have c_ltsigns : Cal P w K mg base (mkTb K ["Machine"] ["NoMachine", "NoTrial", "TrialError"]) "_law_signs" 1 d_lsg.wp := mk_cal X G (c.fa 57) F__law_signs.kp (fn_d (k := 0) F__law_signs sc__law_signs hl_ltsigns (fun _ _ _ _ _ _ hr => der__law_signs  hr) k_lsg) B__law_signs (Sg.mono _)
  have c_lleaves_ : Cal P w K mg base (mkTb K ["Machine"] ["NoMachine", "NoTrial", "TrialError"]) "_law_leaves" 0 (fun _ _ _ _ => False) := mk_cal X G (c.fa 58) F__law_leaves.kp fn_no B__law_leaves mono_no
  have c_lleaves0 : Cal P w K mg base (mkTb K ["Machine"] ["NoMachine", "NoTrial", "TrialError"]) "_law_leaves" 2 (d_lleaves 0).wp := mk_cal X G (c.fa 58) F__law_leaves.kp (fn_d (k := 1) F__law_leaves sc__law_leaves hl_lleaves0 (fun _ _ _ _ _ _ hr => der__law_leaves (c__law_inner := c_linner) (l__law_inner := by decide) (bl_enumerate := bl_enumerate) (c__law_signs := c_ltsigns) (l__law_signs := by decide) (c__law_leaves := c_lleaves_) (l__law_leaves := by decide) hr) k_lleaves0) B__law_leaves (Sg.mono _)
  have c_lleaves1 : Cal P w K mg base (mkTb K ["Machine"] ["NoMachine", "NoTrial", "TrialError"]) "_law_leaves" 3 (d_lleaves 1).wp := mk_cal X G (c.fa 58) F__law_leaves.kp (fn_d (k := 2) F__law_leaves sc__law_leaves hl_lleaves1 (fun _ _ _ _ _ _ hr => der__law_leaves (c__law_inner := c_linner) (l__law_inner := by decide) (bl_enumerate := bl_enumerate) (c__law_signs := c_ltsigns) (l__law_signs := by decide) (c__law_leaves := c_lleaves0) (l__law_leaves := by decide) hr) (k_lleavesS 0)) B__law_leaves (Sg.mono _)
  have c_lleaves2 : Cal P w K mg base (mkTb K ["Machine"] ["NoMachine", "NoTrial", "TrialError"]) "_law_leaves" 4 (d_lleaves 2).wp := mk_cal X G (c.fa 58) F__law_leaves.kp (fn_d (k := 3) F__law_leaves sc__law_leaves hl_lleaves2 (fun _ _ _ _ _ _ hr => der__law_leaves (c__law_inner := c_linner) (l__law_inner := by decide) (bl_enumerate := bl_enumerate) (c__law_signs := c_ltsigns) (l__law_signs := by decide) (c__law_leaves := c_lleaves1) (l__law_leaves := by decide) hr) (k_lleavesS 1)) B__law_leaves (Sg.mono _)
  have c_lleaves3 : Cal P w K mg base (mkTb K ["Machine"] ["NoMachine", "NoTrial", "TrialError"]) "_law_leaves" 5 (d_lleaves 3).wp := mk_cal X G (c.fa 58) F__law_leaves.kp (fn_d (k := 4) F__law_leaves sc__law_leaves hl_lleaves3 (fun _ _ _ _ _ _ hr => der__law_leaves (c__law_inner := c_linner) (l__law_inner := by decide) (bl_enumerate := bl_enumerate) (c__law_signs := c_ltsigns) (l__law_signs := by decide) (c__law_leaves := c_lleaves2) (l__law_leaves := by decide) hr) (k_lleavesS 2)) B__law_leaves (Sg.mono _)
  have c_lleaves4 : Cal P w K mg base (mkTb K ["Machine"] ["NoMachine", "NoTrial", "TrialError"]) "_law_leaves" 6 (d_lleaves 4).wp := mk_cal X G (c.fa 58) F__law_leaves.kp (fn_d (k := 5) F__law_leaves sc__law_leaves hl_lleaves4 (fun _ _ _ _ _ _ hr => der__law_leaves (c__law_inner := c_linner) (l__law_inner := by decide) (bl_enumerate := bl_enumerate) (c__law_signs := c_ltsigns) (l__law_signs := by decide) (c__law_leaves := c_lleaves3) (l__law_leaves := by decide) hr) (k_lleavesS 3)) B__law_leaves (Sg.mono _)
  have c_lpairs : Cal P w K mg base (mkTb K ["Machine"] ["NoMachine", "NoTrial", "TrialError"]) "_law_pairs" 1 d_lpairs.wp := mk_cal X G (c.fa 59) F__law_pairs.kp (fn_d (k := 0) F__law_pairs sc__law_pairs hl_lpairs (fun _ _ _ _ _ _ hr => der__law_pairs (bl_zip := bl_zip) (bl_tuple := bl_tuple) hr) k_lpairs) B__law_pairs (Sg.mono _)
  have c_ltrial_ : Cal P w K mg base (mkTb K ["Machine"] ["NoMachine", "NoTrial", "TrialError"]) "_law_trial" 0 (fun _ _ _ _ => False) := mk_cal X G (c.fa 60) F__law_trial.kp fn_no B__law_trial mono_no
  have c_ltrial0 : Cal P w K mg base (mkTb K ["Machine"] ["NoMachine", "NoTrial", "TrialError"]) "_law_trial" 3 (d_ltrial 0).wp := mk_cal X G (c.fa 60) F__law_trial.kp (fn_d (k := 2) F__law_trial sc__law_trial hl_ltrial0 (fun _ _ _ _ _ _ hr => der__law_trial (c__law_take := c_take) (l__law_take := by decide) (bl_range := bl_range) (bl_len := bl_len) (c__law_trial := c_ltrial_) (l__law_trial := by decide) (c__law_pairs := c_lpairs) (l__law_pairs := by decide) hr) k_ltrial0) B__law_trial (Sg.mono _)
  have c_ltrial1 : Cal P w K mg base (mkTb K ["Machine"] ["NoMachine", "NoTrial", "TrialError"]) "_law_trial" 4 (d_ltrial 1).wp := mk_cal X G (c.fa 60) F__law_trial.kp (fn_d (k := 3) F__law_trial sc__law_trial hl_ltrial1 (fun _ _ _ _ _ _ hr => der__law_trial (c__law_take := c_take) (l__law_take := by decide) (bl_range := bl_range) (bl_len := bl_len) (c__law_trial := c_ltrial0) (l__law_trial := by decide) (c__law_pairs := c_lpairs) (l__law_pairs := by decide) hr) (k_ltrialS 0)) B__law_trial (Sg.mono _)
  have c_ltrial2 : Cal P w K mg base (mkTb K ["Machine"] ["NoMachine", "NoTrial", "TrialError"]) "_law_trial" 5 (d_ltrial 2).wp := mk_cal X G (c.fa 60) F__law_trial.kp (fn_d (k := 4) F__law_trial sc__law_trial hl_ltrial2 (fun _ _ _ _ _ _ hr => der__law_trial (c__law_take := c_take) (l__law_take := by decide) (bl_range := bl_range) (bl_len := bl_len) (c__law_trial := c_ltrial1) (l__law_trial := by decide) (c__law_pairs := c_lpairs) (l__law_pairs := by decide) hr) (k_ltrialS 1)) B__law_trial (Sg.mono _)
  have c_ltrial3 : Cal P w K mg base (mkTb K ["Machine"] ["NoMachine", "NoTrial", "TrialError"]) "_law_trial" 6 (d_ltrial 3).wp := mk_cal X G (c.fa 60) F__law_trial.kp (fn_d (k := 5) F__law_trial sc__law_trial hl_ltrial3 (fun _ _ _ _ _ _ hr => der__law_trial (c__law_take := c_take) (l__law_take := by decide) (bl_range := bl_range) (bl_len := bl_len) (c__law_trial := c_ltrial2) (l__law_trial := by decide) (c__law_pairs := c_lpairs) (l__law_pairs := by decide) hr) (k_ltrialS 2)) B__law_trial (Sg.mono _)
  have c_ltrial4 : Cal P w K mg base (mkTb K ["Machine"] ["NoMachine", "NoTrial", "TrialError"]) "_law_trial" 7 (d_ltrial 4).wp := mk_cal X G (c.fa 60) F__law_trial.kp (fn_d (k := 6) F__law_trial sc__law_trial hl_ltrial4 (fun _ _ _ _ _ _ hr => der__law_trial (c__law_take := c_take) (l__law_take := by decide) (bl_range := bl_range) (bl_len := bl_len) (c__law_trial := c_ltrial3) (l__law_trial := by decide) (c__law_pairs := c_lpairs) (l__law_pairs := by decide) hr) (k_ltrialS 3)) B__law_trial (Sg.mono _)
  have c_lmade_ : Cal P w K mg base (mkTb K ["Machine"] ["NoMachine", "NoTrial", "TrialError"]) "_law_made" 0 (fun _ _ _ _ => False) := mk_cal X G (c.fa 61) F__law_made.kp fn_no B__law_made mono_no
  have c_lmade0 : Cal P w K mg base (mkTb K ["Machine"] ["NoMachine", "NoTrial", "TrialError"]) "_law_made" 4 (d_lmade 0).wp := mk_cal X G (c.fa 61) F__law_made.kp (fn_d (k := 3) F__law_made sc__law_made hl_lmade0 (fun _ _ _ _ _ _ hr => der__law_made (c__law_face_on := c_faceon) (l__law_face_on := by decide) (c__law_take := c_take) (l__law_take := by decide) (bl_len := bl_len) (bl_int := bl_int) (c__law_made := c_lmade_) (l__law_made := by decide) (c__law_pairs := c_lpairs) (l__law_pairs := by decide) hr) k_lmade0) B__law_made (Sg.mono _)
  have c_lmade1 : Cal P w K mg base (mkTb K ["Machine"] ["NoMachine", "NoTrial", "TrialError"]) "_law_made" 5 (d_lmade 1).wp := mk_cal X G (c.fa 61) F__law_made.kp (fn_d (k := 4) F__law_made sc__law_made hl_lmade1 (fun _ _ _ _ _ _ hr => der__law_made (c__law_face_on := c_faceon) (l__law_face_on := by decide) (c__law_take := c_take) (l__law_take := by decide) (bl_len := bl_len) (bl_int := bl_int) (c__law_made := c_lmade0) (l__law_made := by decide) (c__law_pairs := c_lpairs) (l__law_pairs := by decide) hr) (k_lmadeS 0)) B__law_made (Sg.mono _)
  have c_lmade2 : Cal P w K mg base (mkTb K ["Machine"] ["NoMachine", "NoTrial", "TrialError"]) "_law_made" 6 (d_lmade 2).wp := mk_cal X G (c.fa 61) F__law_made.kp (fn_d (k := 5) F__law_made sc__law_made hl_lmade2 (fun _ _ _ _ _ _ hr => der__law_made (c__law_face_on := c_faceon) (l__law_face_on := by decide) (c__law_take := c_take) (l__law_take := by decide) (bl_len := bl_len) (bl_int := bl_int) (c__law_made := c_lmade1) (l__law_made := by decide) (c__law_pairs := c_lpairs) (l__law_pairs := by decide) hr) (k_lmadeS 1)) B__law_made (Sg.mono _)
  have c_lmade3 : Cal P w K mg base (mkTb K ["Machine"] ["NoMachine", "NoTrial", "TrialError"]) "_law_made" 7 (d_lmade 3).wp := mk_cal X G (c.fa 61) F__law_made.kp (fn_d (k := 6) F__law_made sc__law_made hl_lmade3 (fun _ _ _ _ _ _ hr => der__law_made (c__law_face_on := c_faceon) (l__law_face_on := by decide) (c__law_take := c_take) (l__law_take := by decide) (bl_len := bl_len) (bl_int := bl_int) (c__law_made := c_lmade2) (l__law_made := by decide) (c__law_pairs := c_lpairs) (l__law_pairs := by decide) hr) (k_lmadeS 2)) B__law_made (Sg.mono _)
  have c_lright : Cal P w K mg base (mkTb K ["Machine"] ["NoMachine", "NoTrial", "TrialError"]) "_law_right" 7 d_lright.wp := mk_cal X G (c.fa 62) F__law_right.kp (fn_d (k := 6) F__law_right sc__law_right hl_lright (fun _ _ _ _ _ _ hr => der__law_right (c__law_leaves := c_lleaves4) (l__law_leaves := by decide) (c_leaves := c_tleaves) (l_leaves := by decide) (c__law_same := c_same4) (l__law_same := by decide) (bl_sorted := bl_sorted) hr) k_lright) B__law_right (Sg.mono _)
  have z : FnOk P w K mg base (L2.CX P w) 8 (He.ga K "law") fd_law ["script"] (lift ⟨P, w, K, (mkTb K ["Machine"] ["NoMachine", "NoTrial", "TrialError"]).cl⟩ (mkTb K ["Machine"] ["NoMachine", "NoTrial", "TrialError"]).ec d_law.wp) := (fn_d (k := 7) F_law sc_law hl_law (fun _ _ _ _ _ _ hr => der_law (c__law_open := c_open) (l__law_open := by decide) (bl_range := bl_range) (c__law_model := c_model) (l__law_model := by decide) (c__law_machine := c_mach) (l__law_machine := by decide) (c__law_trial := c_ltrial4) (l__law_trial := by decide) (c__law_take := c_take) (l__law_take := by decide) (c__law_made := c_lmade3) (l__law_made := by decide) (c__law_face_at := c_faceat) (l__law_face_at := by decide) (c__law_right := c_lright) (l__law_right := by decide) hr) k_law)
  exact z
end Pd
open PySem PySem.W PySem.Calls PyProof.Rows
set_option maxRecDepth 100000 in
set_option maxHeartbeats 0 in
theorem PySem.Challenge.cw_mumtrial_k30_leaves_holds : PySem.Challenge.rw_mumtrial_k30_leaves.Holds := by
  w_on; o_law
  refine HandSHeadRun.head_any (r := OpenLaw.row PySem.Challenge.rw_mumtrial_k30_leaves) (q := view (OpenLaw.row PySem.Challenge.rw_mumtrial_k30_leaves).prog [46]) (H := Pd.hookP 1500 Pd.faL Pd.fnL Pd.fbL) (ob := Pd.obP 1500 Pd.faL Pd.fnL Pd.fbL) (M := 8000) (loose := Pd.looseL) (d := HandSHeadRun.topDef (OpenLaw.row PySem.Challenge.rw_mumtrial_k30_leaves).prog 46) (kwd := []) Pd.obP_eq
    (by kernel_rfl) (fun s => by kernel_rfl) Pd.run (by kernel_rfl) (by kernel_rfl) (by kernel_rfl) (by rfl) (by first | assumption | decide +kernel) (by decide +kernel) ⟨rfl, rfl, rfl, rfl, rfl, by decide +kernel⟩ ?hw ?hc
  case hw => w_witness2
  case hc =>
    refine Pd.walk_P (l := PySem.Challenge.rw_mumtrial_k30_leaves) (k := 8) rfl (by kernel_rfl) ⟨rfl, by decide, by decide⟩ ?F
    intro w mg fa h Y G h0
    obtain ⟨K, KX, c⟩ := Y
    have h1 : mg ("law" : PySem.Str) = some (.ref fa) := by
      have e : (HandSHeadRun.topDef (OpenLaw.row PySem.Challenge.rw_mumtrial_k30_leaves).prog 46).name = ("law" : PySem.Str) := by kernel_rfl
      rw [← e]; exact h0
    obtain ⟨fd, tb, hb, hF⟩ := Pd.facts (P := (PySem.Challenge.rw_mumtrial_k30_leaves).prog) (w := w) KX G h1 c
    exact ⟨K, fd, tb, _, KX, hb, fun ns g E Q hl k => ⟨ns, rfl, fun r g2 h => by rw [h]; exact k g2, fun z g2 h => h.elim⟩, hF⟩
