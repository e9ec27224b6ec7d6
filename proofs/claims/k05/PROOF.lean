import PyProof.Rows.All
import HandS.ForMost
import HandS.Exc
import HandS.TryOnly
import HandS.ExcOwn
import HandS.WordsExc
import HandS.Wide
import HandS.TupAny
import HandS.TupMul
import HandS.Deep
import HandS.TupLe
import HandS.Strs
import HandS.SetFor
import HandS.SortInts
import HandS.Conv
import HandS.RaiseMore
import KE.DataMinMax
import HandS.IsInst
import HandS.SetKeys
import HandS.More
import PyProof.SeqIndex
import PyProof.ReprRoads
import PyProof.ReprLen
import PyProof.FitsInt
import PyProof.StrLawsRepr
import PyProof.FactsAll.tuple_2
import PyProof.FactsAll.tuple_3
import HandS.Star
import KE.GoesEnum
import HandS.Zip
import HandS.Iter
import HandS.Style
import HandS.HeadEnd
import HandS.HeadHook4
import HandS.Head2
import PySem.Challenge.RW_keptthings_k05_whole_what_deeds_do
set_option Elab.async false
set_option linter.all false
set_option maxRecDepth 100000
/-! PL: a small language with values and a heap; its functions are run by `callN`. -/
namespace PL

/-- values: `fl`, `fd` are lists and dicts that nobody changes any more; `ref` a live object; `rep d` the repr of the datum d; `ct` a tuple of the module's top; `cl` the script -/
inductive V where
  | non | bl (b : Bool) | int (i : Int) | str (s : List Nat)
  | tup (xs : List V) | fl (xs : List V) | fd (ks vs : List V)
  | ref (i : Nat) | rep (d : V) | ct (xs : List V) | cl (xs : List V)
  deriving Inhabited

mutual
def V.beq : V → V → Bool
  | .non, .non => true
  | .bl a, .bl b => decide (a = b)
  | .int a, .int b => decide (a = b)
  | .str a, .str b => decide (a = b)
  | .tup a, .tup b => V.beqs a b
  | .fl a, .fl b => V.beqs a b
  | .fd a c, .fd b d => V.beqs a b && V.beqs c d
  | .ref a, .ref b => decide (a = b)
  | .rep a, .rep b => V.beq a b
  | .ct a, .ct b => V.beqs a b
  | .cl a, .cl b => V.beqs a b
  | _, _ => false
def V.beqs : List V → List V → Bool
  | [], [] => true
  | x :: xs, y :: ys => V.beq x y && V.beqs xs ys
  | _, _ => false
end
mutual
theorem V.beq_eq : ∀ a b : V, V.beq a b = true → a = b
  | .non, b, h => by cases b <;> simp [V.beq] at h ⊢
  | .bl _, b, h => by cases b <;> simp [V.beq] at h ⊢; exact h
  | .int _, b, h => by cases b <;> simp [V.beq] at h ⊢; exact h
  | .str _, b, h => by cases b <;> simp [V.beq] at h ⊢; exact h
  | .tup xs, b, h => by cases b <;> simp [V.beq] at h ⊢; exact V.beqs_eq _ _ h
  | .fl xs, b, h => by cases b <;> simp [V.beq] at h ⊢; exact V.beqs_eq _ _ h
  | .fd xs ys, b, h => by
    cases b <;> simp [V.beq] at h ⊢
    exact ⟨V.beqs_eq _ _ h.1, V.beqs_eq _ _ h.2⟩
  | .ref _, b, h => by cases b <;> simp [V.beq] at h ⊢; exact h
  | .rep x, b, h => by cases b <;> simp [V.beq] at h ⊢; exact V.beq_eq _ _ h
  | .ct xs, b, h => by cases b <;> simp [V.beq] at h ⊢; exact V.beqs_eq _ _ h
  | .cl xs, b, h => by cases b <;> simp [V.beq] at h ⊢; exact V.beqs_eq _ _ h
theorem V.beqs_eq : ∀ a b : List V, V.beqs a b = true → a = b
  | [], b, h => by cases b <;> simp [V.beqs] at h ⊢
  | x :: xs, b, h => by
    cases b <;> simp [V.beqs] at h ⊢
    exact ⟨V.beq_eq _ _ h.1, V.beqs_eq _ _ h.2⟩
end
mutual
theorem V.beq_refl : ∀ a : V, V.beq a a = true
  | .non => by simp [V.beq]
  | .bl _ => by simp [V.beq]
  | .int _ => by simp [V.beq]
  | .str _ => by simp [V.beq]
  | .tup xs => by simp only [V.beq]; exact V.beqs_refl xs
  | .fl xs => by simp only [V.beq]; exact V.beqs_refl xs
  | .fd xs ys => by simp only [V.beq, V.beqs_refl xs, V.beqs_refl ys, Bool.and_self]
  | .ref _ => by simp [V.beq]
  | .rep x => by simp only [V.beq]; exact V.beq_refl x
  | .ct xs => by simp only [V.beq]; exact V.beqs_refl xs
  | .cl xs => by simp only [V.beq]; exact V.beqs_refl xs
theorem V.beqs_refl : ∀ a : List V, V.beqs a a = true
  | [] => by simp [V.beqs]
  | x :: xs => by simp only [V.beqs, V.beq_refl x, V.beqs_refl xs, Bool.and_self]
end
instance : DecidableEq V := fun a b =>
  if h : V.beq a b = true then .isTrue (V.beq_eq a b h) else .isFalse fun e => h (e ▸ V.beq_refl a)

/-- a live object: a list; a dict (locked while it is walked) -/
inductive MO where
  | lst (xs : List V) | dct (lk : Bool) (ks vs : List V)
  deriving DecidableEq, Inhabited
abbrev Mem := List MO
structure X where
  cls : String
  arg : Option V
inductive R (α : Type) where
  | ok (a : α) (M : Mem) | exc (x : X) (M : Mem) | no
def R.bind {α β : Type} : R α → (α → Mem → R β) → R β
  | .ok a M, f => f a M
  | .exc x M, _ => .exc x M
  | .no, _ => .no
@[simp] theorem R.bind_ok {α β : Type} (a : α) (M : Mem) (f : α → Mem → R β) : R.bind (.ok a M) f = f a M := rfl
@[simp] theorem R.bind_no {α β : Type} (f : α → Mem → R β) : R.bind (.no : R α) f = .no := rfl
@[simp] theorem R.bind_exc {α β : Type} (x : X) (M : Mem) (f : α → Mem → R β) : R.bind (.exc x M : R α) f = .exc x M := rfl

def cs (s : String) : List Nat := s.toList.map Char.toNat

/-! ### reading values -/
mutual
def noref : V → Bool
  | .ref _ => false
  | .tup xs => norefs xs
  | .fl xs => norefs xs
  | .fd ks vs => norefs ks && norefs vs
  | .rep d => noref d
  | .ct xs => norefs xs
  | .cl xs => norefs xs
  | _ => true
def norefs : List V → Bool
  | [] => true
  | x :: xs => noref x && norefs xs
end
-- the datum of a value, live objects read by f
mutual
def rdW (f : Nat → Option V) : V → Option V
  | .ref i => f i
  | .tup xs => (rdWs f xs).map .tup
  | .fl xs => (rdWs f xs).map .fl
  | .fd ks vs => (rdWs f ks).bind fun a => (rdWs f vs).map fun b => .fd a b
  | v => some v
def rdWs (f : Nat → Option V) : List V → Option (List V)
  | [] => some []
  | x :: xs => (rdW f x).bind fun a => (rdWs f xs).map fun b => a :: b
end
def rd (M : Mem) : Nat → V → Option V
  | 0 => rdW fun _ => none
  | n + 1 => rdW fun i => match M[i]? with
    | some (.lst xs) => (rdWs (fun j => rd M n (.ref j)) xs).map .fl
    | some (.dct _ ks vs) => (rdWs (fun j => rd M n (.ref j)) ks).bind fun a => (rdWs (fun j => rd M n (.ref j)) vs).map fun b => .fd a b
    | none => none
mutual
/-- Python's == of two data -/
def eqV : V → V → Bool
  | .non, .non => true
  | .bl a, .bl b => a == b
  | .bl a, .int j => (if a then 1 else 0) == j
  | .int i, .bl b => i == (if b then 1 else 0)
  | .int i, .int j => i == j
  | .str a, .str b => decide (a = b)
  | .tup a, .tup b => eqVs a b
  | .fl a, .fl b => eqVs a b
  | _, _ => false
def eqVs : List V → List V → Bool
  | [], [] => true
  | x :: xs, y :: ys => eqV x y && eqVs xs ys
  | _, _ => false
end
-- how deep a datum is
mutual
def dep : V → Nat
  | .tup xs => deps xs + 1
  | .fl xs => deps xs + 1
  | .fd ks vs => max (deps ks) (deps vs) + 1
  | _ => 0
def deps : List V → Nat
  | [] => 0
  | x :: xs => max (dep x) (deps xs)
end
-- data that == is told of: no dict, no live object, no repr within
mutual
def plain : V → Bool
  | .tup xs => plains xs
  | .fl xs => plains xs
  | .fd _ _ | .ref _ | .rep _ | .ct _ | .cl _ => false
  | .str s => s.all fun c => decide (c < 1114112)
  | _ => true
def plains : List V → Bool
  | [] => true
  | x :: xs => plain x && plains xs
end
-- how long a repr may be
mutual
def wt : V → Nat
  | .int _ => 1904
  | .str s => 10 * s.length + 2
  | .tup xs => wts xs + 4
  | .fl xs => wts xs + 4
  | .fd ks vs => wts ks + wts vs + 4
  | _ => 6
def wts : List V → Nat
  | [] => 0
  | x :: xs => wt x + 4 + wts xs
end
mutual
/-- vints and texts whose repr is told -/
def shw : V → Bool
  | .int i => decide (i.natAbs < 2 ^ 1900)
  | .str s => s.all fun c => decide (c < 1114112)
  | .tup xs => shws xs
  | .fl xs => shws xs
  | .fd ks vs => shws ks && shws vs && decide (ks.length = vs.length)
  | .ref _ | .rep _ | .ct _ | .cl _ => false
  | _ => true
def shws : List V → Bool
  | [] => true
  | x :: xs => shw x && shws xs
end
def SZ : Nat := 16777216
/-- the items of a list or tuple -/
def items (M : Mem) : V → Option (List V)
  | .tup xs => some xs
  | .fl xs => some xs
  | .ct xs => some xs
  | .cl xs => some xs
  | .ref i => match M[i]? with
    | some (.lst xs) => some xs
    | _ => none
  | _ => none
/-- .. of a list alone -/
def litems (M : Mem) : V → Option (List V)
  | .fl xs => some xs
  | .cl xs => some xs
  | .ref i => match M[i]? with
    | some (.lst xs) => some xs
    | _ => none
  | _ => none
/-- .. of a list that is not the script -/
def llst (M : Mem) : V → Option (List V)
  | .fl xs => some xs
  | .ref i => match M[i]? with
    | some (.lst xs) => some xs
    | _ => none
  | _ => none
def dkeys (M : Mem) : V → Option (List V × List V)
  | .fd ks vs => some (ks, vs)
  | .ref i => match M[i]? with
    | some (.dct _ ks vs) => some (ks, vs)
    | _ => none
  | _ => none
def vints : List V → Option (List Int)
  | [] => some []
  | .int i :: r => (vints r).map fun is => i :: is
  | _ => none
def bools : List V → Option (List Bool)
  | [] => some []
  | .bl i :: r => (bools r).map fun is => i :: is
  | _ => none
def alloc (o : MO) (M : Mem) : R V := .ok (.ref M.length) (M ++ [o])

/-! ### dicts -/
/-- a key: an int or a text; or a tuple of these -/
def key1 : V → Bool
  | .int _ => true
  | .str _ => true
  | _ => false
def keyT : V → Bool
  | .tup xs => xs.all key1
  | _ => false
def dgetV : List V → List V → V → Option V
  | k :: ks, v :: vs, x => if k = x then some v else dgetV ks vs x
  | _, _, _ => none
/-- whether a key can be asked of a dict with such keys -/
def keyOk (_ : List V) (x : V) : Bool := key1 x
def putAll : List V → List V → V → V → List V
  | k :: ks, v :: vs, x, y => (if k = x then y else v) :: putAll ks vs x y
  | _, _, _, _ => []
def dputV (ks vs : List V) (x y : V) : List V × List V :=
  if (ks.any fun k => decide (k = x)) = true then (ks, putAll ks vs x y) else (ks ++ [x], vs ++ [y])

/-- a display's keys and values -/
def dispK : List V → Option (List V × List V)
  | [] => some ([], [])
  | k :: v :: r => (dispK r).bind fun p => if key1 k && p.1.all key1 && !(p.1.contains k) && decide (p.1.length < 15) then some (k :: p.1, v :: p.2) else none
  | _ => none

/-! ### operators -/
inductive Op | add | sub | mul | fdiv | mod | pow deriving DecidableEq
inductive Cm | eq | ne | lt | le | gt | ge | isin | notin deriving DecidableEq
def mulOk (i j : Int) : Bool := decide (i.natAbs < 2 ^ 64) || decide (j.natAbs < 2 ^ 64) || (decide (i.natAbs < 2 ^ 4000) && decide (j.natAbs < 2 ^ 4000))
def rept {α : Type} (k : Nat) (xs : List α) : List α := (List.replicate k xs).flatten
def addV (M : Mem) (x y : V) : R V :=
  match x, y with
  | .int i, .int j => .ok (.int (i + j)) M
  | .str a, .str b => if a.length + b.length ≤ SZ then .ok (.str (a ++ b)) M else .no
  | .tup a, .tup b => if a.length + b.length ≤ SZ then .ok (.tup (a ++ b)) M else .no
  | x, y => match llst M x, llst M y with
    | some a, some b => if a.length + b.length ≤ SZ then alloc (.lst (a ++ b)) M else .no
    | _, _ => .no
def subV (M : Mem) (x y : V) : R V :=
  match x, y with
  | .int i, .int j => .ok (.int (i - j)) M
  | _, _ => .no
def mulV (M : Mem) (x y : V) : R V :=
  match y with
  | .int k => match x with
    | .int i => if mulOk i k then .ok (.int (i * k)) M else .no
    | .tup a => if 2 ≤ k ∧ k ≤ 1000 ∧ a.length ≤ 1000 ∧ a ≠ [] then .ok (.tup (rept k.toNat a)) M else .no
    | x => match llst M x with
      | some a => if 0 ≤ k ∧ k ≤ 10000 ∧ a.length ≤ 1000 then alloc (.lst (rept k.toNat a)) M else .no
      | none => .no
  | _ => .no
def fdivV (M : Mem) (x y : V) : R V :=
  match x, y with
  | .int i, .int j => if 0 < j ∧ j < 1073741824 then .ok (.int (i / j)) M else .no
  | _, _ => .no
def modV (M : Mem) (x y : V) : R V :=
  match x, y with
  | .int i, .int j => if 0 < j then .ok (.int (i % j)) M else .no
  | _, _ => .no
def powV (M : Mem) (x y : V) : R V :=
  match x, y with
  | .int i, .int j => if 0 ≤ j ∧ j ≤ 1000 ∧ i.natAbs < 2 ^ 64 then .ok (.int (i ^ j.toNat)) M else .no
  | _, _ => .no
def binop (M : Mem) : Op → V → V → R V
  | .add, x, y => addV M x y
  | .sub, x, y => subV M x y
  | .mul, x, y => mulV M x y
  | .fdiv, x, y => fdivV M x y
  | .mod, x, y => modV M x y
  | .pow, x, y => powV M x y
def lexLe : List Int → List Int → Bool
  | [], _ => true
  | _ :: _, [] => false
  | x :: xs, y :: ys => if x = y then lexLe xs ys else decide (x < y)
def lexLt : List Int → List Int → Bool
  | _, [] => false
  | [], _ :: _ => true
  | x :: xs, y :: ys => if x = y then lexLt xs ys else decide (x < y)
def RDN : Nat := 6
/-- == of data -/
def eqD (M : Mem) (x y : V) : Option Bool :=
  match rd M RDN x, rd M RDN y with
  | some a, some b => if plain a && plain b && decide (dep a ≤ 60) && decide (dep b ≤ 60) then some (eqV a b) else none
  | _, _ => none
/-- == -/
def eqM (M : Mem) (x y : V) : Option Bool :=
  match x, y with
  | .rep a, .rep b => if a = b then some true else none
  | _, _ => eqD M x y
def inM (M : Mem) (x : V) : List V → Option Bool
  | [] => some false
  | y :: ys => (eqD M y x).bind fun b => (inM M x ys).map fun c => b || c
def inOp (M : Mem) (x y : V) : Option Bool :=
  match y with
  | .str _ => none
  | y => match items M y with
    | some ys => inM M x ys
    | none => match dkeys M y with
      | some p => if keyOk p.1 x then some (dgetV p.1 p.2 x).isSome else none
      | none => none
def intC (p : Int → Int → Bool) (x y : V) : Option Bool :=
  match x, y with
  | .int i, .int j => some (p i j)
  | _, _ => none
def leV (x y : V) : Option Bool :=
  match x, y with
  | .int i, .int j => some (decide (i ≤ j))
  | .tup a, .tup b => match vints a, vints b with
    | some is, some js => some (lexLe is js)
    | _, _ => none
  | _, _ => none
def ltV (x y : V) : Option Bool :=
  match x, y with
  | .int i, .int j => some (decide (i < j))
  | .tup a, .tup b => match vints a, vints b with
    | some is, some js => some (lexLt is js)
    | _, _ => none
  | _, _ => none
def cmpop (M : Mem) : Cm → V → V → Option Bool
  | .eq, x, y => eqM M x y
  | .ne, x, y => (eqM M x y).map (!·)
  | .isin, x, y => inOp M x y
  | .notin, x, y => (inOp M x y).map (!·)
  | .lt, x, y => ltV x y
  | .le, x, y => leV x y
  | .gt, x, y => intC (fun i j => decide (j < i)) x y
  | .ge, x, y => intC (fun i j => decide (j ≤ i)) x y
/-- an index, a slice's end, brought into a sequence of n -/
def nIx (n : Nat) (i : Int) : Option Nat := if 0 ≤ i then (if i < n then some i.toNat else none) else if -(n : Int) ≤ i then some (i + n).toNat else none
def sIx (n d : Nat) : Option Int → Nat
  | none => d
  | some v => if v < 0 then (v + (n : Int)).toNat else min v.toNat n
def cut {α : Type} (xs : List α) (lo hi : Option Int) : List α := (xs.drop (sIx xs.length 0 lo)).take (sIx xs.length xs.length hi - sIx xs.length 0 lo)
def index (M : Mem) (o i : V) : Option V :=
  match dkeys M o with
  | some (ks, vs) => if keyOk ks i then dgetV ks vs i else none
  | none => match i with
    | .int k => match items M o with
      | some xs => (nIx xs.length k).bind fun j => xs[j]?
      | none => none
    | _ => none
def slice (M : Mem) (o : V) (lo hi : Option Int) : R V :=
  match o with
  | .tup xs => .ok (.tup (cut xs lo hi)) M
  | .str _ => .no
  | _ => match litems M o with
    | some xs => alloc (.lst (cut xs lo hi)) M
    | none => .no

/-! ### what is built in -/
inductive Ty | int | bool | str | tuple | list | dict deriving DecidableEq
def isTy (M : Mem) (v : V) : Ty → Bool
  | .int => match v with | .int _ | .bl _ => true | _ => false
  | .bool => match v with | .bl _ => true | _ => false
  | .str => match v with | .str _ | .rep _ => true | _ => false
  | .tuple => match v with | .tup _ | .ct _ => true | _ => false
  | .list => (litems M v).isSome
  | .dict => (dkeys M v).isSome
inductive Pr
  | len | abs | int | repr | tuple | list | max | min | sum | any | all | sorted | sortedSet | bool
  deriving DecidableEq
def insI (x : Int) : List Int → List Int
  | [] => [x]
  | y :: ys => if x ≤ y then x :: y :: ys else y :: insI x ys
def sortI : List Int → List Int
  | [] => []
  | x :: xs => insI x (sortI xs)
def dedup : List Int → List Int
  | [] => []
  | x :: xs => if xs.contains x then dedup xs else x :: dedup xs
def maxI (m : Int) (xs : List Int) : Int := xs.foldl max m
def minI (m : Int) (xs : List Int) : Int := xs.foldl min m
def pLen (M : Mem) (x : V) : R V :=
  match items M x with
  | some xs => .ok (.int xs.length) M
  | none => match dkeys M x with
    | some p => .ok (.int p.1.length) M
    | none => match x with
      | .str s => if s.length ≤ SZ then .ok (.int s.length) M else .no
      | _ => .no
def pAbs (M : Mem) (x : V) : R V :=
  match x with
  | .int i => .ok (.int (if i < 0 then -i else i)) M
  | _ => .no
def pInt (M : Mem) (x : V) : R V :=
  match x with
  | .int i => .ok (.int i) M
  | .bl b => .ok (.int (if b then 1 else 0)) M
  | _ => .no
def pRepr (M : Mem) (x : V) : R V :=
  match rd M RDN x with
  | some d => if plain d && shw d && decide (wt d ≤ SZ) && decide (dep d ≤ 60) then .ok (.rep d) M else .no
  | none => .no
def pTuple (M : Mem) (x : V) : R V :=
  match x with
  | .tup xs => .ok (.tup xs) M
  | x => match litems M x with
    | some xs => .ok (.tup xs) M
    | none => .no
def pList (M : Mem) (x : V) : R V :=
  match items M x with
  | some xs => alloc (.lst xs) M
  | none => match dkeys M x with
    | some _ => .no
    | none => .no
def pInts (f : Int → List Int → V) (M : Mem) (x : V) : R V :=
  match (items M x).bind vints with
  | some (i :: r) => .ok (f i r) M
  | _ => .no
def pMax2 (M : Mem) (x y : V) : R V :=
  match x, y with
  | .int i, .int j => .ok (.int (if j > i then j else i)) M
  | _, _ => .no
def pMin2 (M : Mem) (x y : V) : R V :=
  match x, y with
  | .int i, .int j => .ok (.int (if j < i then j else i)) M
  | _, _ => .no
def pSum (M : Mem) (x : V) : R V :=
  match (litems M x).bind vints with
  | some is => .ok (.int is.sum) M
  | none => .no
def pBools (f : List Bool → Bool) (M : Mem) (x : V) : R V :=
  match (litems M x).bind bools with
  | some bs => .ok (.bl (f bs)) M
  | none => .no
def pSorted (M : Mem) (x : V) : R V :=
  match (litems M x).bind vints with
  | some is => alloc (.lst ((sortI is).map .int)) M
  | none => .no
def pSortedSet (M : Mem) (x : V) : R V :=
  match x with
  | .tup xs => match vints xs with
    | some is => if is.length < 64 then alloc (.lst ((sortI (dedup is)).map .int)) M else .no
    | none => .no
  | _ => .no
def prim1 (M : Mem) : Pr → V → R V
  | .len, x => pLen M x
  | .abs, x => pAbs M x
  | .int, x => pInt M x
  | .repr, x => pRepr M x
  | .tuple, x => pTuple M x
  | .list, x => pList M x
  | .max, x => pInts (fun i r => .int (maxI i r)) M x
  | .min, x => pInts (fun i r => .int (minI i r)) M x
  | .sum, x => pSum M x
  | .any, x => pBools (fun bs => bs.any id) M x
  | .all, x => pBools (fun bs => bs.all id) M x
  | .sorted, x => pSorted M x
  | .sortedSet, x => pSortedSet M x
  | .bool, _ => .no
def prim2 (M : Mem) : Pr → V → V → R V
  | .max, x, y => pMax2 M x y
  | .min, x, y => pMin2 M x y
  | _, _, _ => .no
def prim (M : Mem) (p : Pr) : List V → R V
  | [x] => prim1 M p x
  | [x, y] => prim2 M p x y
  | _ => .no

/-! ### methods -/
inductive Mt | append | extend | pop | popAt | insert | count | index | get | setdefault | reverse deriving DecidableEq
/-- what may be stored into an object -/
def wOk (mk i : Nat) (v : V) : Bool := decide (mk ≤ i) || noref v
def countM (M : Mem) (x : V) : List V → Option Nat
  | [] => some 0
  | y :: ys => (eqD M y x).bind fun b => (countM M x ys).map fun n => if b then n + 1 else n
def indexM (M : Mem) (x : V) : List V → Option (Option Nat)
  | [] => some none
  | y :: ys => (eqD M y x).bind fun b => (indexM M x ys).map fun r => if b then some 0 else r.map (· + 1)
def mAppend (mk : Nat) (M : Mem) (i : Nat) (v : V) : R V :=
  match M[i]? with
  | some (.lst xs) => if wOk mk i v && decide (xs.length < SZ) then .ok .non (M.set i (.lst (xs ++ [v]))) else .no
  | _ => .no
def mExtend (mk : Nat) (M : Mem) (i : Nat) (x : V) : R V :=
  match M[i]?, llst M x with
  | some (.lst xs), some ys => if wOk mk i (.tup ys) && decide (xs.length + ys.length ≤ SZ) then .ok .non (M.set i (.lst (xs ++ ys))) else .no
  | _, _ => .no
def mPop (M : Mem) (i : Nat) : R V :=
  match M[i]? with
  | some (.lst xs) => match xs.getLast? with
    | some y => .ok y (M.set i (.lst xs.dropLast))
    | none => .no
  | _ => .no
def mPopAt (M : Mem) (i : Nat) (k : Int) : R V :=
  match M[i]? with
  | some (.lst xs) => match (nIx xs.length k).bind fun j => (xs[j]?).map fun y => (j, y) with
    | some p => .ok p.2 (M.set i (.lst (xs.eraseIdx p.1)))
    | none => .no
  | _ => .no
def mInsert (mk : Nat) (M : Mem) (i : Nat) (k : Int) (v : V) : R V :=
  match M[i]? with
  | some (.lst xs) => if wOk mk i v && decide (xs.length < SZ) && decide (0 ≤ k) && decide (k ≤ xs.length) then .ok .non (M.set i (.lst (xs.take k.toNat ++ v :: xs.drop k.toNat))) else .no
  | _ => .no
def mReverse (M : Mem) (i : Nat) : R V :=
  match M[i]? with
  | some (.lst xs) => .ok .non (M.set i (.lst xs.reverse))
  | _ => .no
def mCount (M : Mem) (o x : V) : R V :=
  match (items M o).bind fun xs => countM M x xs with
  | some n => .ok (.int n) M
  | none => .no
def mIndex (M : Mem) (o x : V) : R V :=
  match (items M o).bind fun xs => indexM M x xs with
  | some (some n) => .ok (.int n) M
  | _ => .no
def mGet (M : Mem) (o x d : V) : R V :=
  match dkeys M o with
  | some p => if keyOk p.1 x then .ok ((dgetV p.1 p.2 x).getD d) M else .no
  | none => .no
def mSetd (mk : Nat) (M : Mem) (i : Nat) (x y : V) : R V :=
  match M[i]? with
  | some (.dct false ks vs) => if keyOk ks x && decide (ks.length < SZ) then
      match dgetV ks vs x with
      | some v => .ok v M
      | none => if wOk mk i x && wOk mk i y then .ok y (M.set i (.dct false (ks ++ [x]) (vs ++ [y]))) else .no
    else .no
  | _ => .no
def meth0 (M : Mem) : Mt → V → R V
  | .pop, .ref i => mPop M i
  | .reverse, .ref i => mReverse M i
  | _, _ => .no
def meth1 (mk : Nat) (M : Mem) : Mt → V → V → R V
  | .append, .ref i, v => mAppend mk M i v
  | .extend, .ref i, x => mExtend mk M i x
  | .popAt, .ref i, .int k => mPopAt M i k
  | .count, o, x => mCount M o x
  | .index, o, x => mIndex M o x
  | .get, o, x => mGet M o x .non
  | _, _, _ => .no
def meth2 (mk : Nat) (M : Mem) : Mt → V → V → V → R V
  | .insert, .ref i, .int k, v => mInsert mk M i k v
  | .get, o, x, y => mGet M o x y
  | .setdefault, .ref i, x, y => mSetd mk M i x y
  | _, _, _, _ => .no
def meth (mk : Nat) (M : Mem) (m : Mt) (o : V) : List V → R V
  | [] => meth0 M m o
  | [x] => meth1 mk M m o x
  | [x, y] => meth2 mk M m o x y
  | _ => .no
/-- the type of what has methods -/
inductive RT | list | tuple | dict deriving DecidableEq
def tyR (M : Mem) : V → Option RT
  | .tup _ => some .tuple
  | .fl _ => some .list
  | .fd _ _ => some .dict
  | .ref i => match M[i]? with
    | some (.lst _) => some .list
    | some (.dct _ _ _) => some .dict
    | none => none
  | _ => none
def hasM : Mt → RT → Bool
  | .append, .list | .extend, .list | .pop, .list | .popAt, .list | .insert, .list | .reverse, .list | .count, .list | .index, .list => true
  | .count, .tuple | .index, .tuple => true
  | .get, .dict | .setdefault, .dict => true
  | _, _ => false
def recvOk (M : Mem) (m : Mt) (x : V) : Bool :=
  match tyR M x with
  | some t => hasM m t
  | none => false
/-- o[i] = v -/
def put (mk : Nat) (M : Mem) (o i v : V) : Option Mem :=
  match o with
  | .ref a => match M[a]? with
    | some (.lst xs) => match i with
      | .int k => (nIx xs.length k).bind fun j => if wOk mk a v then some (M.set a (.lst (xs.set j v))) else none
      | _ => none
    | some (.dct false ks vs) => if keyOk ks i && decide (ks.length < SZ) && wOk mk a i && wOk mk a v then some (M.set a (.dct false (dputV ks vs i v).1 (dputV ks vs i v).2)) else none
    | _ => none
  | _ => none

/-! ### the syntax -/
mutual
inductive E where
  | var (i : Nat)
  | cst (v : V)
  | glb (x : String) (v : V)
  | bin (o : Op) (a b : E)
  | neg (a : E)
  | not (a : E)
  | bop (o : Bool) (es : Es)
  | cmp (o : Cm) (a b : E)
  | chn (o p : Cm) (a b c : E)
  | isN (neg : Bool) (a : E)
  | isi (a : E) (t : Ty)
  | ite (c a b : E)
  | tup (es : Es)
  | lst (es : Es)
  | dsp (kvs : Es)
  | idx (a i : E)
  | slc (a : E) (lo hi : Eo)
  | fn (f : String) (es : Es)
  | fnk (f : String) (es : Es) (kws : Es) (ks : List String)
  | pr (p : Pr) (es : Es)
  | mt (m : Mt) (o : E) (es : Es)
  | comp (t : Tg) (it : It) (c : Eo) (e : E)
  | dcomp (t : Tg) (it : It) (c : Eo) (k v : E)
  | lrng (a b : E)
  deriving Inhabited
inductive Es where
  | nil | cons (e : E) (r : Es) | star (e : E) (r : Es)
inductive Eo where
  | none | some (e : E)
inductive It where
  | of (e : E) | rng1 (a : E) | rng2 (a b : E) | rng3 (a b c : E) | enum (e : E) | zip (a b : E) | items (e : E) | values (e : E)
inductive Tg where
  | nm (i : Nat) | tp (ts : Tgs)
inductive Tgs where
  | nil | cons (t : Tg) (r : Tgs)
end
mutual
inductive S where
  | set (t : Tg) (e : E)
  | par (is : List Nat) (es : Es)
  | put (o i e : E)
  | ex (e : E)
  | ret (e : E)
  | retN
  | iff (c : E) (a b : Ss)
  | for (t : Tg) (it : It) (b : Ss)
  | whl (c : E) (b : Ss)
  | brk
  | pass
  | rai (c : String) (a : Eo)
  | tri (b : Ss) (c : String) (x : Option Nat) (h : Ss)
inductive Ss where
  | nil | cons (s : S) (r : Ss)
end

/-! ### its meaning -/
abbrev Env := List (Option V)
def lk : Env → Nat → Option V
  | [], _ => none
  | x :: _, 0 => x
  | _ :: r, n + 1 => lk r n
def stv : Env → Nat → V → Env
  | [], _, _ => []
  | _ :: r, 0, v => some v :: r
  | x :: r, n + 1, v => x :: stv r n v
@[simp] theorem lk_zero (x : Option V) (r : Env) : lk (x :: r) 0 = x := rfl
@[simp] theorem lk_succ (x : Option V) (r : Env) (n : Nat) : lk (x :: r) (n + 1) = lk r n := rfl
@[simp] theorem stv_zero (x : Option V) (r : Env) (v : V) : stv (x :: r) 0 v = some v :: r := rfl
@[simp] theorem stv_succ (x : Option V) (r : Env) (n : Nat) (v : V) : stv (x :: r) (n + 1) v = x :: stv r n v := rfl
mutual
def asg : Tg → V → Env → Option Env
  | .nm i, v, σ => some (stv σ i v)
  | .tp ts, .tup xs, σ => asgs ts xs σ
  | .tp _, _, _ => none
def asgs : Tgs → List V → Env → Option Env
  | .nil, [], σ => some σ
  | .cons t r, x :: xs, σ => (asg t x σ).bind fun σ' => asgs r xs σ'
  | _, _, _ => none
end
def pars : List Nat → List V → Env → Option Env
  | [], [], σ => some σ
  | i :: is, x :: xs, σ => pars is xs (stv σ i x)
  | _, _, _ => none

abbrev Orc := Nat → String → List V → Mem → R V
/-- what is walked: the items, and the live lists whose items they are -/
abbrev Src := List V × List (Nat × List V)
def srcOf (M : Mem) (v : V) : Option Src :=
  match v with
  | .tup xs => some (xs, [])
  | .fl xs => some (xs, [])
  | .ct xs => some (xs, [])
  | .cl xs => some (xs, [])
  | .ref i => match M[i]? with
    | some (.lst xs) => some (xs, [(i, xs)])
    | _ => none
  | _ => none
def watched (w : List (Nat × List V)) (M : Mem) : Bool := w.all fun p => decide (M[p.1]? = some (.lst p.2))
def isT : V → Bool
  | .tup _ | .ct _ => true
  | _ => false
def ranged (lo : Int) (n : Nat) : List V := (List.range n).map fun k => .int (lo + (k : Nat))
def enumed : Nat → List V → List V
  | _, [] => []
  | k, x :: xs => .tup [.int k, x] :: enumed (k + 1) xs
def zipped : List V → List V → List V
  | x :: xs, y :: ys => .tup [x, y] :: zipped xs ys
  | _, _ => []
def rOk (i : Int) : Bool := decide (-(2 ^ 62) ≤ i) && decide (i < 2 ^ 62)
def src1 (M : Mem) (v : V) : R Src := match srcOf M v with | some s => .ok s M | none => .no
def srcE (M : Mem) (v : V) : R Src := match srcOf M v with | some s => .ok (enumed 0 s.1, s.2) M | none => .no
def srcZ (M : Mem) (v w : V) : R Src := match srcOf M v, srcOf M w with
  | some a, some b => if isT v = isT w then .ok (zipped a.1 b.1, a.2 ++ b.2) M else .no
  | _, _ => .no
def srcR (M : Mem) (v w : V) : R Src := match v, w with
  | .int i, .int j => if rOk i && rOk j then .ok (ranged i (j - i).toNat, []) M else .no
  | _, _ => .no
def srcR3 (M : Mem) (v w c : V) : R Src := match v, w, c with
  | .int i, .int j, .int c => if rOk i && rOk j && decide (c = -1) then .ok ((List.range (i - j).toNat).map fun k => .int (i - (k : Nat)), []) M else .no
  | _, _, _ => .no
/-- the items of a comprehension, one after another; its list is the live object j -/
def compL (j : Nat) (w : List (Nat × List V)) (t : Tg) (c : Env → Mem → R V) (e : Env → Mem → R V) (σ : Env) : List V → Mem → R Unit
  | [], M => if watched w M then .ok () M else .no
  | x :: xs, M => if watched w M then
      match asg t x σ with
      | none => .no
      | some σ' => (c σ' M).bind fun b M1 => match b with
        | .bl true => (e σ' M1).bind fun y M2 => match M2[j]? with
          | some (.lst acc) => if acc.length < SZ then compL j w t c e σ xs (M2.set j (.lst (acc ++ [y]))) else .no
          | _ => .no
        | .bl false => compL j w t c e σ xs M1
        | _ => .no
    else .no
def starred (M : Mem) (v : V) : Option (List V) := items M v
/-- the order of a call's arguments: positional, then by name -/
def idxOf (k : String) : List String → Option Nat
  | [] => none
  | x :: xs => if x = k then some 0 else (idxOf k xs).map (· + 1)
def idxs (ks : List String) (n : Nat) : List String → Option (List Nat)
  | [] => some []
  | p :: r => (idxOf p ks).bind fun j => (idxs ks n r).map fun t => (n + j) :: t
def permIdx (ps : List String) (n : Nat) (ks : List String) : Option (List Nat) :=
  if n + ks.length = ps.length ∧ (ks.all fun k => (ps.drop n).contains k) = true ∧ ks.Nodup then (idxs ks n (ps.drop n)).map fun r => List.range n ++ r else none
def pick {α : Type} (vs : List α) : List Nat → Option (List α)
  | [] => some []
  | i :: r => (vs[i]?).bind fun v => (pick vs r).map fun t => v :: t
def noExc {α : Type} : R α → R α
  | .exc _ _ => .no
  | r => r

section
variable (P : String → Option (List String)) (C : Orc) (mk : Nat)
mutual
def ev : E → Env → Mem → R V
  | .var i, σ, M => match lk σ i with
    | some v => .ok v M
    | none => .no
  | .cst v, _, M => .ok v M
  | .glb _ v, _, M => .ok v M
  | .bin o a b, σ, M => (ev a σ M).bind fun x M1 => (ev b σ M1).bind fun y M2 => binop M2 o x y
  | .neg a, σ, M => (ev a σ M).bind fun x M1 => match x with
    | .int i => .ok (.int (-i)) M1
    | _ => .no
  | .not a, σ, M => (ev a σ M).bind fun x M1 => match x with
    | .bl b => .ok (.bl (!b)) M1
    | _ => .no
  | .bop o es, σ, M => evb o es σ M
  | .cmp o a b, σ, M => (ev a σ M).bind fun x M1 => (ev b σ M1).bind fun y M2 => match cmpop M2 o x y with
    | some c => .ok (.bl c) M2
    | none => .no
  | .chn o p a b c, σ, M => (ev a σ M).bind fun x M1 => (ev b σ M1).bind fun y M2 => match cmpop M2 o x y with
    | some true => (ev c σ M2).bind fun z M3 => match cmpop M3 p y z with
      | some d => .ok (.bl d) M3
      | none => .no
    | some false => .ok (.bl false) M2
    | none => .no
  | .isN n a, σ, M => (ev a σ M).bind fun x M1 => .ok (.bl (if n then !decide (x = .non) else decide (x = .non))) M1
  | .isi a t, σ, M => (ev a σ M).bind fun x M1 => .ok (.bl (isTy M1 x t)) M1
  | .ite c a b, σ, M => (ev c σ M).bind fun x M1 => match x with
    | .bl true => ev a σ M1
    | .bl false => ev b σ M1
    | _ => .no
  | .tup es, σ, M => (evs es σ M).bind fun xs M1 => if xs.length ≤ SZ then .ok (.tup xs) M1 else .no
  | .lst es, σ, M => (evs es σ M).bind fun xs M1 => if xs.length ≤ SZ then alloc (.lst xs) M1 else .no
  | .dsp kvs, σ, M => (evs kvs σ (M ++ [.dct false [] []])).bind fun xs M1 => match dispK xs, M1[M.length]? with
    | some p, some (.dct false [] []) => .ok (.ref M.length) (M1.set M.length (.dct false p.1 p.2))
    | _, _ => .no
  | .idx a i, σ, M => (ev a σ M).bind fun x M1 => (ev i σ M1).bind fun y M2 => match index M2 x y with
    | some v => .ok v M2
    | none => .no
  | .slc a lo hi, σ, M => (ev a σ M).bind fun x M1 => (evo lo σ M1).bind fun l M2 => (evo hi σ M2).bind fun h M3 => slice M3 x l h
  | .fn f es, σ, M => (evs es σ M).bind fun xs M1 => C mk f xs M1
  | .fnk f es kws ks, σ, M => (evs es σ M).bind fun xs M1 => (evs kws σ M1).bind fun ys M2 => if ys.length = ks.length then
      match (P f).bind fun ps => (permIdx ps xs.length ks).bind fun is => pick (xs ++ ys) is with
      | some zs => C mk f zs M2
      | none => .no
    else .no
  | .pr p es, σ, M => (evs es σ M).bind fun xs M1 => prim M1 p xs
  | .mt m o es, σ, M => (ev o σ M).bind fun x M1 => if recvOk M1 m x then (evs es σ M1).bind fun xs M2 => meth mk M2 m x xs else .no
  | .comp t it c e, σ, M => (evi it σ M).bind fun s M1 => (noExc (compL M1.length s.2 t (fun σ' M' => evc c σ' M') (fun σ' M' => ev e σ' M') σ s.1 (M1 ++ [.lst []]))).bind fun _ M2 => .ok (.ref M1.length) M2
  | .dcomp t it c k v, σ, M => .no
  | .lrng a b, σ, M => (ev a σ M).bind fun x M1 => (ev b σ M1).bind fun y M2 => match x, y with
    | .int i, .int j => if rOk i && rOk j && decide ((j - i).toNat ≤ SZ) then alloc (.lst (ranged i (j - i).toNat)) M2 else .no
    | _, _ => .no
def evb (o : Bool) : Es → Env → Mem → R V
  | .nil, _, _ => .no
  | .star _ _, _, _ => .no
  | .cons e .nil, σ, M => (ev e σ M).bind fun x M1 => match x with
    | .bl c => .ok (.bl c) M1
    | _ => .no
  | .cons e r, σ, M => (ev e σ M).bind fun x M1 => match x with
    | .bl c => if c = o then evb o r σ M1 else .ok (.bl c) M1
    | _ => .no
def evs : Es → Env → Mem → R (List V)
  | .nil, _, M => .ok [] M
  | .cons e r, σ, M => (ev e σ M).bind fun x M1 => (evs r σ M1).bind fun xs M2 => .ok (x :: xs) M2
  | .star e r, σ, M => (ev e σ M).bind fun x M1 => match starred M1 x with
    | some ys => (evs r σ M1).bind fun xs M2 => .ok (ys ++ xs) M2
    | none => .no
def evo : Eo → Env → Mem → R (Option Int)
  | .none, _, M => .ok none M
  | .some e, σ, M => (ev e σ M).bind fun x M1 => match x with
    | .int i => .ok (some i) M1
    | _ => .no
def evr : Eo → Env → Mem → R (Option V)
  | .none, _, M => .ok none M
  | .some e, σ, M => (ev e σ M).bind fun x M1 => .ok (some x) M1
def evc : Eo → Env → Mem → R V
  | .none, _, M => .ok (.bl true) M
  | .some e, σ, M => ev e σ M
def evi : It → Env → Mem → R Src
  | .of e, σ, M => (ev e σ M).bind fun x M1 => src1 M1 x
  | .rng1 a, σ, M => (ev a σ M).bind fun x M1 => srcR M1 (.int 0) x
  | .rng2 a b, σ, M => (ev a σ M).bind fun x M1 => (ev b σ M1).bind fun y M2 => srcR M2 x y
  | .rng3 a b c, σ, M => (ev a σ M).bind fun x M1 => (ev b σ M1).bind fun y M2 => (ev c σ M2).bind fun z M3 => srcR3 M3 x y z
  | .enum e, σ, M => (ev e σ M).bind fun x M1 => srcE M1 x
  | .zip a b, σ, M => (ev a σ M).bind fun x M1 => (ev b σ M1).bind fun y M2 => srcZ M2 x y
  | .items _, _, _ => .no
  | .values _, _, _ => .no
end

/-- how a block ends -/
inductive Rs where
  | nx (σ : Env) (M : Mem) | rt (v : V) (M : Mem) | bk (σ : Env) (M : Mem) | exc (x : X) (σ : Env) (M : Mem) | no
def R.toS : R V → Env → (V → Mem → Rs) → Rs
  | .ok v M, _, f => f v M
  | .exc x M, σ, _ => .exc x σ M
  | .no, _, _ => .no
def R.toSl {α : Type} : R α → Env → (α → Mem → Rs) → Rs
  | .ok v M, _, f => f v M
  | .exc x M, σ, _ => .exc x σ M
  | .no, _, _ => .no
@[simp] theorem R.toS_ok (v : V) (M : Mem) (σ : Env) (f) : (R.ok v M).toS σ f = f v M := rfl
@[simp] theorem R.toS_no (σ : Env) (f) : (R.no : R V).toS σ f = .no := rfl
@[simp] theorem R.toSl_ok {α : Type} (v : α) (M : Mem) (σ : Env) (f) : (R.ok v M).toSl σ f = f v M := rfl
@[simp] theorem R.toSl_no {α : Type} (σ : Env) (f) : (R.no : R α).toSl σ f = .no := rfl
def forL (w : List (Nat × List V)) (t : Tg) (b : Env → Mem → Rs) : List V → Env → Mem → Rs
  | [], σ, M => if watched w M then .nx σ M else .no
  | x :: xs, σ, M => if watched w M then
      match asg t x σ with
      | none => .no
      | some σ' => match b σ' M with
        | .nx σ1 M1 => forL w t b xs σ1 M1
        | .bk σ1 M1 => .nx σ1 M1
        | r => r
    else .no
def whlL (c : Env → Mem → R V) (b : Env → Mem → Rs) : Nat → Env → Mem → Rs
  | 0, _, _ => .no
  | n + 1, σ, M => (c σ M).toS σ fun v M1 => match v with
    | .bl true => match b σ M1 with
      | .nx σ1 M2 => whlL c b n σ1 M2
      | .bk σ1 M2 => .nx σ1 M2
      | r => r
    | .bl false => .nx σ M1
    | _ => .no
def FUEL : Nat := 1000000
mutual
def xs : S → Env → Mem → Rs
  | .set t e, σ, M => (ev P C mk e σ M).toS σ fun v M1 => match asg t v σ with
    | some σ' => .nx σ' M1
    | none => .no
  | .par is es, σ, M => (evs P C mk es σ M).toSl σ fun vs M1 => match pars is vs σ with
    | some σ' => .nx σ' M1
    | none => .no
  | .put o i e, σ, M => (ev P C mk e σ M).toS σ fun v M1 => (ev P C mk o σ M1).toS σ fun ov M2 => (ev P C mk i σ M2).toS σ fun iv M3 => match put mk M3 ov iv v with
    | some M4 => .nx σ M4
    | none => .no
  | .ex e, σ, M => (ev P C mk e σ M).toS σ fun _ M1 => .nx σ M1
  | .ret e, σ, M => (ev P C mk e σ M).toS σ fun v M1 => .rt v M1
  | .retN, _, M => .rt .non M
  | .iff c a b, σ, M => (ev P C mk c σ M).toS σ fun v M1 => match v with
    | .bl true => xss a σ M1
    | .bl false => xss b σ M1
    | _ => .no
  | .for t it b, σ, M => (evi P C mk it σ M).toSl σ fun s M1 => forL s.2 t (fun σ' M' => xss b σ' M') s.1 σ M1
  | .whl c b, σ, M => whlL (fun σ' M' => ev P C mk c σ' M') (fun σ' M' => xss b σ' M') FUEL σ M
  | .brk, σ, M => .bk σ M
  | .pass, σ, M => .nx σ M
  | .rai c a, σ, M => (evr P C mk a σ M).toSl σ fun v M1 => .exc ⟨c, v⟩ σ M1
  | .tri _ _ _ _, _, _ => .no
def xss : Ss → Env → Mem → Rs
  | .nil, σ, M => .nx σ M
  | .cons s r, σ, M => match xs s σ M with
    | .nx σ1 M1 => xss r σ1 M1
    | o => o
end
end

/-! ### functions -/
structure Def where
  ps : List String
  ns : Nat
  live : Bool
  body : Ss
-- a value that leaves its function: what was made within is nobody's to change any more
mutual
def frzW (f : Nat → Option V) (mk : Nat) : V → Option V
  | .ref i => if i < mk then some (.ref i) else f i
  | .tup xs => (frzWs f mk xs).map .tup
  | .fl xs => (frzWs f mk xs).map .fl
  | .ct xs => if norefs xs then some (.ct xs) else none
  | .cl xs => if norefs xs then some (.cl xs) else none
  | .fd ks vs => (frzWs f mk ks).bind fun a => (frzWs f mk vs).map fun b => .fd a b
  | v => some v
def frzWs (f : Nat → Option V) (mk : Nat) : List V → Option (List V)
  | [] => some []
  | x :: xs => (frzW f mk x).bind fun a => (frzWs f mk xs).map fun b => a :: b
end
def frz (M : Mem) (mk : Nat) : Nat → V → Option V
  | 0 => frzW (fun _ => none) mk
  | n + 1 => frzW (fun i => match M[i]? with
    | some (.lst xs) => (frzWs (fun j => frz M mk n (.ref j)) mk xs).map .fl
    | some (.dct _ ks vs) => (frzWs (fun j => frz M mk n (.ref j)) mk ks).bind fun a => (frzWs (fun j => frz M mk n (.ref j)) mk vs).map fun b => .fd a b
    | none => none) mk
def envOf (d : Def) (args : List V) : Env := args.map some ++ List.replicate (d.ns - d.ps.length) none
def left (live : Bool) (M0 : Mem) : Rs → R V
  | .rt v M => if live then .ok v M else match frz M M0.length RDN v with
    | some v' => .ok v' (M.take M0.length)
    | none => .no
  | .nx _ M => if live then .ok .non M else .ok .non (M.take M0.length)
  | .exc x _ M => if live then .exc x M else match x.arg with
    | none => .exc x (M.take M0.length)
    | some v => match frz M M0.length RDN v with
      | some v' => .exc ⟨x.cls, some v'⟩ (M.take M0.length)
      | none => .no
  | _ => .no
def parsOf (D : String → Option Def) (f : String) : Option (List String) := (D f).map (·.ps)
def callN (D : String → Option Def) : Nat → Nat → String → List V → Mem → R V
  | 0, _, _, _, _ => .no
  | n + 1, mk, f, args, M => match D f with
    | none => .no
    | some d => if args.length = d.ps.length then
        left d.live M (xss (parsOf D) (callN D n) (if d.live then mk else M.length) d.body (envOf d args) M)
      else .no
end PL

/-! PLS1: how values and heaps of PL stand in the hand layer's abstract heap. -/
namespace PLS
open PySem PySem.Spec PyProof.Rows L2

abbrev PV := PL.V
def toStr (s : List Nat) : Str := ⟨s.toArray⟩
theorem toStr_inj {a b : List Nat} (h : toStr a = toStr b) : a = b := by
  have h2 : a.toArray = b.toArray := congrArg Str.cps h
  simpa using h2
theorem toStr_len (a : List Nat) : (toStr a).length = a.length := rfl
theorem toStr_app (a b : List Nat) : toStr (a ++ b) = toStr a ++ toStr b := by
  show (⟨(a ++ b).toArray⟩ : Str) = ⟨a.toArray ++ b.toArray⟩
  simp

mutual
def dat : PV → Option PyData
  | .non => some .none
  | .bl b => some (.bool b)
  | .int i => some (.int i)
  | .str s => some (.str (toStr s))
  | .tup xs => (dats xs).map .tuple
  | .fl xs => (dats xs).map .list
  | .fd ks vs => (dats ks).bind fun a => (dats vs).map fun b => .dict (a.zip b)
  | .ref _ => none
  | .rep _ => none
  | .ct _ => none
  | .cl _ => none
def dats : List PV → Option (List PyData)
  | [] => some []
  | x :: xs => (dat x).bind fun a => (dats xs).map fun b => a :: b
end
def keyK : PV → Option L2.Key
  | .int i => some (.inl i)
  | .str s => some (.inr (toStr s))
  | _ => none

section
variable (K : PySem.W.Frag)
def KL (a : Addr) (us : List V) : Prop := ∃ (o : Obj) (its : Array Value) (n : Nat), K.lookup a = some o ∧ o.cls = .type "list" ∧ o.dict = none ∧ o.data = .seq its n ∧ its.size ≤ sizeLine ∧ Vals us its.toList
def KT (a : Addr) (us : List V) : Prop := ∃ (o : Obj) (its : Array Value) (n : Nat), K.lookup a = some o ∧ o.cls = .type "tuple" ∧ o.data = .seq its n ∧ its.size ≤ sizeLine ∧ Vals us its.toList
def TupO (o : Obj) : Prop := o.cls = .type "tuple" ∧ o.dict = none
mutual
def RepV (ρ : List Addr) (H : Hp) : PV → V → Prop
  | .non, u => u = .non
  | .bl b, u => u = .bl b
  | .int i, u => u = .int i
  | .str s, u => u = .str (toStr s)
  | .tup xs, u => ∃ a o us, u = .ref a ∧ H a = some (.frz o (.tup us)) ∧ TupO o ∧ a ∉ ρ ∧ RepVs ρ H xs us
  | .ct xs, u => ∃ a us, u = .ref a ∧ KT K a us ∧ RepVs ρ H xs us
  | .fl xs, u => ∃ a us, u = .ref a ∧ H a = some (.lst us) ∧ a ∉ ρ ∧ RepVs ρ H xs us
  | .cl xs, u => ∃ a us, u = .ref a ∧ ((∃ o, H a = some (.frz o (.lst us)) ∧ a ∉ ρ) ∨ KL K a us) ∧ RepVs ρ H xs us
  | .fd ks vs, u => ∃ a kvs, u = .ref a ∧ Rd H a (.dK kvs) ∧ a ∉ ρ ∧ ks.map keyK = kvs.map (fun kv => some kv.1) ∧ RepVs ρ H vs (kvs.map (·.2))
  | .ref i, u => ∃ a, ρ[i]? = some a ∧ u = .ref a
  | .rep d, u => ∃ pd : PyData, dat d = some pd ∧ u = .str pd.shown
def RepVs (ρ : List Addr) (H : Hp) : List PV → List V → Prop
  | [], us => us = []
  | x :: xs, us => ∃ u r, us = u :: r ∧ RepV ρ H x u ∧ RepVs ρ H xs r
end
end
/-- what is tracked and not live stays as it is; live objects stay live -/
structure Ext (ρ : List Addr) (H : Hp) (ρ' : List Addr) (H' : Hp) : Prop where
  pre : ∃ more, ρ' = ρ ++ more
  keep : ∀ a o, H a = some o → a ∉ ρ → H' a = some o ∧ a ∉ ρ'
section
variable {ρ ρ' ρ'' : List Addr} {H H' H'' : Hp} {K : PySem.W.Frag}
theorem Ext.refl : Ext ρ H ρ H := ⟨⟨[], by simp⟩, fun a o h n => ⟨h, n⟩⟩
theorem Ext.trans (x : Ext ρ H ρ' H') (y : Ext ρ' H' ρ'' H'') : Ext ρ H ρ'' H'' := by
  obtain ⟨m, e⟩ := x.pre
  obtain ⟨m', e'⟩ := y.pre
  refine ⟨⟨m ++ m', by rw [e', e, List.append_assoc]⟩, fun a o h n => ?_⟩
  obtain ⟨h1, n1⟩ := x.keep a o h n
  exact y.keep a o h1 n1
theorem Ext.at (x : Ext ρ H ρ' H') {i : Nat} {a : Addr} (h : ρ[i]? = some a) : ρ'[i]? = some a := by
  obtain ⟨m, e⟩ := x.pre
  have hi : i < ρ.length := (List.getElem?_eq_some_iff.mp h).1
  rw [e, List.getElem?_append_left hi]; exact h
theorem Ext.rd (x : Ext ρ H ρ' H') {a : Addr} {u : HO} (h : Rd H a u) (n : a ∉ ρ) : Rd H' a u ∧ a ∉ ρ' := by
  rcases h with h | ⟨o, h⟩
  · exact ⟨.inl (x.keep a _ h n).1, (x.keep a _ h n).2⟩
  · exact ⟨.inr ⟨o, (x.keep a _ h n).1⟩, (x.keep a _ h n).2⟩
mutual
theorem RepV.ext (x : Ext ρ H ρ' H') : ∀ {v : PV} {u : V}, RepV K ρ H v u → RepV K ρ' H' v u
  | .non, u, h => by simpa only [RepV] using h
  | .bl _, u, h => by simpa only [RepV] using h
  | .int _, u, h => by simpa only [RepV] using h
  | .str _, u, h => by simpa only [RepV] using h
  | .rep _, u, h => by simpa only [RepV] using h
  | .ref i, u, h => by
    simp only [RepV] at h ⊢
    obtain ⟨a, h1, h2⟩ := h
    exact ⟨a, x.at h1, h2⟩
  | .tup xs, u, h => by
    simp only [RepV] at h ⊢
    obtain ⟨a, o, us, e, h1, h2, n, r⟩ := h
    obtain ⟨h1', n'⟩ := x.keep _ _ h1 n
    exact ⟨a, o, us, e, h1', h2, n', RepVs.ext x r⟩
  | .ct xs, u, h => by
    simp only [RepV] at h ⊢
    obtain ⟨a, us, e, h1, r⟩ := h
    exact ⟨a, us, e, h1, RepVs.ext x r⟩
  | .fl xs, u, h => by
    simp only [RepV] at h ⊢
    obtain ⟨a, us, e, h1, n, r⟩ := h
    obtain ⟨h1', n'⟩ := x.keep _ _ h1 n
    exact ⟨a, us, e, h1', n', RepVs.ext x r⟩
  | .cl xs, u, h => by
    simp only [RepV] at h ⊢
    obtain ⟨a, us, e, h1, r⟩ := h
    exact ⟨a, us, e, h1.imp (fun q => let ⟨o, q1, q2⟩ := q; ⟨o, (x.keep _ _ q1 q2).1, (x.keep _ _ q1 q2).2⟩) id, RepVs.ext x r⟩
  | .fd ks vs, u, h => by
    simp only [RepV] at h ⊢
    obtain ⟨a, kvs, e, h1, n, h2, r⟩ := h
    obtain ⟨h1', n'⟩ := x.rd h1 n
    exact ⟨a, kvs, e, h1', n', h2, RepVs.ext x r⟩
theorem RepVs.ext (x : Ext ρ H ρ' H') : ∀ {xs : List PV} {us : List V}, RepVs K ρ H xs us → RepVs K ρ' H' xs us
  | [], us, h => by simpa only [RepVs] using h
  | _ :: _, us, h => by
    simp only [RepVs] at h ⊢
    obtain ⟨u, r, e, h1, h2⟩ := h
    exact ⟨u, r, e, RepV.ext x h1, RepVs.ext x h2⟩
end
theorem RepVs.nil : RepVs K ρ H [] [] := by simp only [RepVs]
theorem RepVs.cons {v : PV} {vs : List PV} {u : V} {us : List V} (h : RepV K ρ H v u) (t : RepVs K ρ H vs us) : RepVs K ρ H (v :: vs) (u :: us) := by
  simp only [RepVs]; exact ⟨u, us, rfl, h, t⟩
theorem RepVs.inv {v : PV} {vs : List PV} {us : List V} (h : RepVs K ρ H (v :: vs) us) : ∃ u r, us = u :: r ∧ RepV K ρ H v u ∧ RepVs K ρ H vs r := by
  simpa only [RepVs] using h
theorem RepVs.inv0 {us : List V} (h : RepVs K ρ H [] us) : us = [] := by simpa only [RepVs] using h
theorem RepVs.length : ∀ {xs : List PV} {us : List V}, RepVs K ρ H xs us → xs.length = us.length
  | [], us, h => by rw [h.inv0]; rfl
  | _ :: _, us, h => by
    obtain ⟨u, r, e, _, t⟩ := h.inv
    rw [e, List.length_cons, List.length_cons, RepVs.length t]
theorem RepVs.append : ∀ {xs ys : List PV} {us ws : List V}, RepVs K ρ H xs us → RepVs K ρ H ys ws → RepVs K ρ H (xs ++ ys) (us ++ ws)
  | [], _, us, _, h, h' => by rw [h.inv0]; exact h'
  | _ :: _, _, us, _, h, h' => by
    obtain ⟨u, r, e, h1, t⟩ := h.inv
    rw [e]; exact .cons h1 (RepVs.append t h')
theorem RepVs.get : ∀ {xs : List PV} {us : List V} {i : Nat} {x : PV}, RepVs K ρ H xs us → xs[i]? = some x → ∃ u, us[i]? = some u ∧ RepV K ρ H x u
  | [], _, _, _, _, e => by simp at e
  | y :: ys, us, 0, x, h, e => by
    obtain ⟨u, r, e2, h1, _⟩ := h.inv
    simp at e; subst e; subst e2
    exact ⟨u, rfl, h1⟩
  | y :: ys, us, i + 1, x, h, e => by
    obtain ⟨u, r, e2, _, t⟩ := h.inv
    subst e2
    obtain ⟨w, h1, h2⟩ := RepVs.get (i := i) t (by simpa using e)
    exact ⟨w, by simpa using h1, h2⟩
theorem RepVs.take : ∀ {xs : List PV} {us : List V} (n : Nat), RepVs K ρ H xs us → RepVs K ρ H (xs.take n) (us.take n)
  | _, _, 0, _ => by simp only [List.take_zero]; exact .nil
  | [], us, n + 1, h => by rw [h.inv0]; simpa using RepVs.nil
  | _ :: _, us, n + 1, h => by
    obtain ⟨u, r, e, h1, t⟩ := h.inv
    subst e
    exact .cons h1 (RepVs.take n t)
theorem RepVs.drop : ∀ {xs : List PV} {us : List V} (n : Nat), RepVs K ρ H xs us → RepVs K ρ H (xs.drop n) (us.drop n)
  | _, _, 0, h => h
  | [], us, n + 1, h => by rw [h.inv0]; simpa using RepVs.nil
  | _ :: _, us, n + 1, h => by
    obtain ⟨u, r, e, h1, t⟩ := h.inv
    subst e
    exact RepVs.drop n t
theorem RepVs.set {x : PV} {u : V} (q : RepV K ρ H x u) : ∀ {xs : List PV} {us : List V} (i : Nat), RepVs K ρ H xs us → RepVs K ρ H (xs.set i x) (us.set i u)
  | [], us, i, h => by rw [h.inv0]; exact .nil
  | _ :: _, us, 0, h => by
    obtain ⟨w, r, e, h1, t⟩ := h.inv
    subst e; exact .cons q t
  | _ :: _, us, i + 1, h => by
    obtain ⟨w, r, e, h1, t⟩ := h.inv
    subst e; exact .cons h1 (RepVs.set q i t)
theorem RepVs.reverse : ∀ {xs : List PV} {us : List V}, RepVs K ρ H xs us → RepVs K ρ H xs.reverse us.reverse
  | [], us, h => by rw [h.inv0]; exact .nil
  | _ :: _, us, h => by
    obtain ⟨w, r, e, h1, t⟩ := h.inv
    subst e
    rw [List.reverse_cons, List.reverse_cons]
    exact (RepVs.reverse t).append (.cons h1 .nil)
theorem RepVs.rept {xs : List PV} {us : List V} (h : RepVs K ρ H xs us) : ∀ k : Nat, RepVs K ρ H (PL.rept k xs) (List.replicate k us).flatten
  | 0 => by simpa [PL.rept] using RepVs.nil
  | k + 1 => by
    have e1 : PL.rept (k + 1) xs = xs ++ PL.rept k xs := by simp [PL.rept, List.replicate_succ]
    rw [e1, List.replicate_succ, List.flatten_cons]
    exact h.append (RepVs.rept h k)
theorem RepVs.ints {us : List V} : ∀ {xs : List PV} {is : List Int}, RepVs K ρ H xs us → PL.vints xs = some is → us = is.map V.int := by
  intro xs
  induction xs generalizing us with
  | nil => intro is h e; simp [PL.vints] at e; subst e; exact h.inv0
  | cons x xs ih =>
    intro is h e
    obtain ⟨u, r, e2, h1, t⟩ := h.inv
    cases x with
    | int i =>
      simp only [PL.vints, Option.map_eq_some_iff] at e
      obtain ⟨js, e3, e4⟩ := e
      subst e4
      simp only [RepV] at h1
      rw [e2, h1, ih t e3]; rfl
    | _ => simp [PL.vints] at e
theorem RepVs.bools {us : List V} : ∀ {xs : List PV} {is : List Bool}, RepVs K ρ H xs us → PL.bools xs = some is → us = is.map V.bl := by
  intro xs
  induction xs generalizing us with
  | nil => intro is h e; simp [PL.bools] at e; subst e; exact h.inv0
  | cons x xs ih =>
    intro is h e
    obtain ⟨u, r, e2, h1, t⟩ := h.inv
    cases x with
    | bl i =>
      simp only [PL.bools, Option.map_eq_some_iff] at e
      obtain ⟨js, e3, e4⟩ := e
      subst e4
      simp only [RepV] at h1
      rw [e2, h1, ih t e3]; rfl
    | _ => simp [PL.bools] at e
theorem repVs_ints : ∀ is : List Int, RepVs K ρ H (is.map PL.V.int) (is.map V.int)
  | [] => .nil
  | i :: is => .cons (by simp only [RepV]) (repVs_ints is)
end

/-! ### heaps -/
section
variable (K : PySem.W.Frag)
def RepO (ρ : List Addr) (H : Hp) : PL.MO → Option HO → Prop
  | .lst xs, o => ∃ us, o = some (.lst us) ∧ RepVs K ρ H xs us
  | .dct false ks vs, o => ∃ kvs, o = some (.dK kvs) ∧ ks.map keyK = kvs.map (fun kv => some kv.1) ∧ RepVs K ρ H vs (kvs.map (·.2))
  | .dct true ks vs, o => False
structure RepM (ρ : List Addr) (H : Hp) (M : PL.Mem) : Prop where
  len : ρ.length = M.length
  nd : ρ.Nodup
  at_ : ∀ (i : Nat) (mo : PL.MO), M[i]? = some mo → ∃ a, ρ[i]? = some a ∧ RepO K ρ H mo (H a)
end
section
variable {K : PySem.W.Frag} {ρ ρ' : List Addr} {H H' : Hp} {M M' : PL.Mem}
theorem RepO.ext (x : Ext ρ H ρ' H') {mo : PL.MO} {o : Option HO} (h : RepO K ρ H mo o) : RepO K ρ' H' mo o := by
  cases mo with
  | lst xs =>
    obtain ⟨us, e, r⟩ := h
    exact ⟨us, e, r.ext x⟩
  | dct lk ks vs =>
    cases lk with
    | false =>
      obtain ⟨kvs, e, e2, r⟩ := h
      exact ⟨kvs, e, e2, r.ext x⟩
    | true => exact h
theorem RepO.some {mo : PL.MO} {o : Option HO} (h : RepO K ρ H mo o) : ∃ u, o = Option.some u ∧ Mut (Option.some u) := by
  cases mo with
  | lst xs => obtain ⟨us, e, r⟩ := h; exact ⟨_, e, trivial⟩
  | dct lk ks vs =>
    cases lk with
    | false => obtain ⟨kvs, e, r⟩ := h; exact ⟨_, e, trivial⟩
    | true => exact h.elim
theorem RepM.tracked (h : RepM K ρ H M) {a : Addr} (ha : a ∈ ρ) : ∃ u, H a = some u ∧ Mut (some u) := by
  obtain ⟨i, hi, e⟩ := List.mem_iff_getElem.mp ha
  have hm : i < M.length := by rw [← h.len]; exact hi
  obtain ⟨b, h1, h2⟩ := h.at_ i M[i] (List.getElem?_eq_getElem hm)
  have : b = a := by
    rw [List.getElem?_eq_getElem hi] at h1
    exact (Option.some.inj h1).symm.trans e
  subst this
  exact h2.some
theorem RepM.fresh (h : RepM K ρ H M) {p : Addr} (n : H p = none) : p ∉ ρ := fun m => by
  obtain ⟨u, e, _⟩ := h.tracked m
  rw [n] at e; cases e
theorem RepM.free (h : RepM K ρ H M) {a : Addr} {o : Obj} {u : HO} (e : H a = some (.frz o u)) : a ∉ ρ := fun m => by
  obtain ⟨w, e2, mu⟩ := h.tracked m
  rw [e] at e2; cases e2; exact mu
/-- a new object that is not live -/
theorem Ext.new (h : RepM K ρ H M) {p : Addr} {o : HO} (n : H p = none) : Ext ρ H ρ (upd H p o) :=
  ⟨⟨[], by simp⟩, fun a u e na => ⟨by rw [upd_ne (ne_of_none e n)]; exact e, na⟩⟩
theorem RepM.new (h : RepM K ρ H M) {p : Addr} {o : HO} (n : H p = none) : RepM K ρ (upd H p o) M :=
  ⟨h.len, h.nd, fun i mo e => by
    obtain ⟨a, h1, h2⟩ := h.at_ i mo e
    refine ⟨a, h1, ?_⟩
    have hp : a ≠ p := fun z => h.fresh n (z ▸ List.mem_of_getElem? h1)
    rw [upd_ne hp]
    exact h2.ext (Ext.new h n)⟩
/-- a new live object -/
theorem Ext.alloc (h : RepM K ρ H M) {p : Addr} {o : HO} (n : H p = none) : Ext ρ H (ρ ++ [p]) (upd H p o) :=
  ⟨⟨[p], rfl⟩, fun a u e na => ⟨by rw [upd_ne (ne_of_none e n)]; exact e, by
    simp only [List.mem_append, List.mem_singleton, not_or]; exact ⟨na, ne_of_none e n⟩⟩⟩
theorem RepM.alloc (h : RepM K ρ H M) {p : Addr} {o : HO} (n : H p = none) {mo : PL.MO} (ho : RepO K (ρ ++ [p]) (upd H p o) mo (some o)) : RepM K (ρ ++ [p]) (upd H p o) (M ++ [mo]) := by
  have hp : p ∉ ρ := h.fresh n
  refine ⟨by simp [h.len], ?_, fun i m e => ?_⟩
  · rw [List.nodup_append]
    refine ⟨h.nd, by simp, fun a ha b hb => ?_⟩
    rw [List.mem_singleton] at hb; subst hb
    exact fun z => hp (z ▸ ha)
  · by_cases hi : i < M.length
    · rw [List.getElem?_append_left hi] at e
      obtain ⟨a, h1, h2⟩ := h.at_ i m e
      refine ⟨a, (Ext.alloc (o := o) h n).at h1, ?_⟩
      rw [upd_ne (fun z => by subst z; exact hp (List.mem_of_getElem? h1))]
      exact h2.ext (Ext.alloc h n)
    · have e2 : i = M.length := by
        have := (List.getElem?_eq_some_iff.mp e).1
        rw [List.length_append, List.length_singleton] at this
        omega
      subst e2
      rw [List.getElem?_append_right (Nat.le_refl _), Nat.sub_self] at e
      simp only [List.getElem?_cons_zero] at e
      obtain rfl := Option.some.inj e
      refine ⟨p, by rw [← h.len, List.getElem?_append_right (Nat.le_refl _), Nat.sub_self]; rfl, ?_⟩
      rw [upd_same]; exact ho
/-- a live object is changed -/
theorem Ext.write {i : Nat} {a : Addr} {o : HO} (ha : ρ[i]? = some a) : Ext ρ H ρ (upd H a o) :=
  ⟨⟨[], by simp⟩, fun b u e nb => ⟨by rw [upd_ne (fun z => by subst z; exact nb (List.mem_of_getElem? ha))]; exact e, nb⟩⟩
theorem RepM.write (h : RepM K ρ H M) {i : Nat} {a : Addr} {o : HO} (ha : ρ[i]? = some a) {mo : PL.MO} (ho : RepO K ρ (upd H a o) mo (some o)) : RepM K ρ (upd H a o) (M.set i mo) := by
  refine ⟨by rw [List.length_set]; exact h.len, h.nd, fun j m e => ?_⟩
  by_cases hj : j = i
  · subst hj
    have hl : j < M.length := by
      have := (List.getElem?_eq_some_iff.mp e).1
      rwa [List.length_set] at this
    rw [List.getElem?_set_self hl] at e
    obtain rfl := Option.some.inj e
    exact ⟨a, ha, by rw [upd_same]; exact ho⟩
  · rw [List.getElem?_set_ne (Ne.symm hj)] at e
    obtain ⟨b, h1, h2⟩ := h.at_ j m e
    refine ⟨b, h1, ?_⟩
    have nb : b ≠ a := fun z => by
      subst z
      obtain ⟨l1, e1⟩ := List.getElem?_eq_some_iff.mp h1
      obtain ⟨l2, e2⟩ := List.getElem?_eq_some_iff.mp ha
      exact hj ((List.getElem_inj h.nd).mp (e1.trans e2.symm))
    rw [upd_ne nb]
    exact h2.ext (Ext.write ha)
theorem RepM.lst (h : RepM K ρ H M) {i : Nat} {xs : List PV} (e : M[i]? = some (.lst xs)) : ∃ a us, ρ[i]? = some a ∧ H a = some (.lst us) ∧ RepVs K ρ H xs us := by
  obtain ⟨a, h1, us, h2, h3⟩ := h.at_ i _ e
  exact ⟨a, us, h1, h2, h3⟩
theorem RepM.dct (h : RepM K ρ H M) {i : Nat} {lk : Bool} {ks vs : List PV} (e : M[i]? = some (.dct lk ks vs)) : ∃ a kvs, ρ[i]? = some a ∧ H a = some (.dK kvs) ∧ ks.map keyK = kvs.map (fun kv => some kv.1) ∧ RepVs K ρ H vs (kvs.map (·.2)) := by
  obtain ⟨a, h1, h2⟩ := h.at_ i _ e
  cases lk with
  | false => obtain ⟨kvs, h3, h4, h5⟩ := h2; exact ⟨a, kvs, h1, h3, h4, h5⟩
  | true => exact h2.elim
end

/-! ### references below a mark -/
mutual
def below (mk : Nat) : PV → Bool
  | .ref i => decide (i < mk)
  | .tup xs => belows mk xs
  | .fl xs => belows mk xs
  | .fd ks vs => belows mk ks && belows mk vs
  | .rep d => below mk d
  | .ct xs => belows mk xs
  | .cl xs => belows mk xs
  | _ => true
def belows (mk : Nat) : List PV → Bool
  | [] => true
  | x :: xs => below mk x && belows mk xs
end
def belowO (mk : Nat) : PL.MO → Bool
  | .lst xs => belows mk xs
  | .dct _ ks vs => belows mk ks && belows mk vs
def Below (mk : Nat) (M : PL.Mem) : Prop := ∀ i mo, i < mk → M[i]? = some mo → belowO mk mo = true
mutual
theorem below_of_noref (mk : Nat) : ∀ {v : PV}, PL.noref v = true → below mk v = true
  | .non, _ => by simp [below]
  | .bl _, _ => by simp [below]
  | .int _, _ => by simp [below]
  | .str _, _ => by simp [below]
  | .ref _, h => by simp [PL.noref] at h
  | .tup xs, h => by simp only [PL.noref] at h; simp only [below]; exact belows_of_norefs mk h
  | .fl xs, h => by simp only [PL.noref] at h; simp only [below]; exact belows_of_norefs mk h
  | .ct xs, h => by simp only [PL.noref] at h; simp only [below]; exact belows_of_norefs mk h
  | .cl xs, h => by simp only [PL.noref] at h; simp only [below]; exact belows_of_norefs mk h
  | .rep x, h => by simp only [PL.noref] at h; simp only [below]; exact below_of_noref mk h
  | .fd ks vs, h => by
    simp only [PL.noref, Bool.and_eq_true] at h
    simp only [below, Bool.and_eq_true]
    exact ⟨belows_of_norefs mk h.1, belows_of_norefs mk h.2⟩
theorem belows_of_norefs (mk : Nat) : ∀ {xs : List PV}, PL.norefs xs = true → belows mk xs = true
  | [], _ => by simp [belows]
  | _ :: _, h => by
    simp only [PL.norefs, Bool.and_eq_true] at h
    simp only [belows, Bool.and_eq_true]
    exact ⟨below_of_noref mk h.1, belows_of_norefs mk h.2⟩
end
theorem belows_append {mk : Nat} : ∀ {xs ys : List PV}, belows mk xs = true → belows mk ys = true → belows mk (xs ++ ys) = true
  | [], _, _, h => h
  | _ :: _, _, h, h' => by
    simp only [belows, Bool.and_eq_true] at h
    simp only [List.cons_append, belows, Bool.and_eq_true]
    exact ⟨h.1, belows_append h.2 h'⟩
theorem belows_iff {mk : Nat} : ∀ {xs : List PV}, belows mk xs = true ↔ ∀ x ∈ xs, below mk x = true
  | [] => by simp [belows]
  | x :: xs => by simp [belows, belows_iff (xs := xs)]
theorem below_wOk {mk i : Nat} {v : PV} (h : PL.wOk mk i v = true) (hi : i < mk) : below mk v = true := by
  unfold PL.wOk at h
  rw [Bool.or_eq_true] at h
  rcases h with h | h
  · exact absurd (of_decide_eq_true h) (Nat.not_le.mpr hi)
  · exact below_of_noref mk h
theorem Below.alloc {mk : Nat} {M : PL.Mem} (h : Below mk M) (hm : mk ≤ M.length) (o : PL.MO) : Below mk (M ++ [o]) := fun i mo hi e => by
  rw [List.getElem?_append_left (Nat.lt_of_lt_of_le hi hm)] at e
  exact h i mo hi e
theorem Below.set {mk i : Nat} {M : PL.Mem} {o : PL.MO} (h : Below mk M) (ho : i < mk → belowO mk o = true) : Below mk (M.set i o) := fun j mo hj e => by
  by_cases hji : j = i
  · subst hji
    have hl : j < M.length := by
      have := (List.getElem?_eq_some_iff.mp e).1
      rwa [List.length_set] at this
    rw [List.getElem?_set_self hl] at e
    obtain rfl := Option.some.inj e
    exact ho hj
  · rw [List.getElem?_set_ne (Ne.symm hji)] at e
    exact h j mo hj e
mutual
theorem dat_below (mk : Nat) : ∀ {v : PV} {d : PyData}, dat v = some d → below mk v = true
  | .non, _, _ => by simp [below]
  | .bl _, _, _ => by simp [below]
  | .int _, _, _ => by simp [below]
  | .str _, _, _ => by simp [below]
  | .rep _, _, h => by simp [dat] at h
  | .ref _, _, h => by simp [dat] at h
  | .ct _, _, h => by simp [dat] at h
  | .cl _, _, h => by simp [dat] at h
  | .tup xs, _, h => by
    simp only [dat, Option.map_eq_some_iff] at h
    obtain ⟨ds, h, _⟩ := h
    simp only [below]; exact dats_below mk h
  | .fl xs, _, h => by
    simp only [dat, Option.map_eq_some_iff] at h
    obtain ⟨ds, h, _⟩ := h
    simp only [below]; exact dats_below mk h
  | .fd ks vs, _, h => by
    simp only [dat, Option.bind_eq_some_iff, Option.map_eq_some_iff] at h
    obtain ⟨ds, h, es, h', _⟩ := h
    simp only [below, Bool.and_eq_true]
    exact ⟨dats_below mk h, dats_below mk h'⟩
theorem dats_below (mk : Nat) : ∀ {xs : List PV} {ds : List PyData}, dats xs = some ds → belows mk xs = true
  | [], _, _ => by simp [belows]
  | _ :: _, _, h => by
    simp only [dats, Option.bind_eq_some_iff, Option.map_eq_some_iff] at h
    obtain ⟨d, h, es, h', _⟩ := h
    simp only [belows, Bool.and_eq_true]
    exact ⟨dat_below mk h, dats_below mk h'⟩
end
theorem keys_below (mk : Nat) : ∀ {ks : List PV}, (∀ o ∈ ks.map keyK, o.isSome = true) → belows mk ks = true
  | [], _ => by simp [belows]
  | k :: ks, h => by
    simp only [belows, Bool.and_eq_true]
    refine ⟨?_, keys_below mk fun o ho => h o (by simp only [List.map_cons]; exact List.mem_cons_of_mem _ ho)⟩
    have := h (keyK k) (by simp)
    cases k <;> simp [keyK] at this <;> simp [below]
-- every reference of a represented value is one
mutual
theorem RepV.below {K : PySem.W.Frag} {ρ : List Addr} {H : Hp} : ∀ {v : PV} {u : V}, RepV K ρ H v u → below ρ.length v = true
  | .non, u, h => by simp [PLS.below]
  | .bl _, u, h => by simp [PLS.below]
  | .int _, u, h => by simp [PLS.below]
  | .str _, u, h => by simp [PLS.below]
  | .rep d, u, h => by
    simp only [RepV] at h
    obtain ⟨pd, h, _⟩ := h
    simp only [PLS.below]
    exact dat_below _ h
  | .ref i, u, h => by
    simp only [RepV] at h
    obtain ⟨a, h1, h2⟩ := h
    simp only [PLS.below]
    exact decide_eq_true (List.getElem?_eq_some_iff.mp h1).1
  | .tup xs, u, h => by
    simp only [RepV] at h
    obtain ⟨a, o, us, e, h1, h2, n, r⟩ := h
    simp only [PLS.below]; exact RepVs.below r
  | .ct xs, u, h => by
    simp only [RepV] at h
    obtain ⟨a, us, e, h1, r⟩ := h
    simp only [PLS.below]; exact RepVs.below r
  | .fl xs, u, h => by
    simp only [RepV] at h
    obtain ⟨a, us, e, h1, n, r⟩ := h
    simp only [PLS.below]; exact RepVs.below r
  | .cl xs, u, h => by
    simp only [RepV] at h
    obtain ⟨a, us, e, h1, r⟩ := h
    simp only [PLS.below]; exact RepVs.below r
  | .fd ks vs, u, h => by
    simp only [RepV] at h
    obtain ⟨a, kvs, e, h1, n, h2, r⟩ := h
    simp only [PLS.below, Bool.and_eq_true]
    exact ⟨keys_below _ (by rw [h2]; intro o ho; obtain ⟨kv, _, rfl⟩ := List.mem_map.mp ho; rfl), RepVs.below r⟩
theorem RepVs.below {K : PySem.W.Frag} {ρ : List Addr} {H : Hp} : ∀ {xs : List PV} {us : List V}, RepVs K ρ H xs us → belows ρ.length xs = true
  | [], us, h => by simp [belows]
  | _ :: _, us, h => by
    simp only [RepVs] at h
    obtain ⟨u, r, e, h1, h2⟩ := h
    simp only [belows, Bool.and_eq_true]
    exact ⟨RepV.below h1, RepVs.below h2⟩
end
end PLS

/-! PLS2: what a run of PL promises, and its bind. -/
namespace PLS
open PySem PySem.Spec PyProof.Rows L2

/-- the mark of a call, and the marks of the calls about it -/
structure Mk where
  m : Nat
  ms : List Nat
  le : ∀ x ∈ ms, x ≤ m
instance : Coe Mk Nat := ⟨Mk.m⟩
def Mk.has (mk : Mk) (m : Nat) : Prop := m = mk.m ∨ m ∈ mk.ms
def Mk.In (mk : Mk) (i m : Nat) : Prop := mk.has m ∧ i < m
theorem Mk.has.le {mk : Mk} {m : Nat} (h : mk.has m) : m ≤ mk.m := by
  rcases h with rfl | h
  · exact Nat.le_refl _
  · exact mk.le m h
theorem Mk.In.lt {mk : Mk} {i m : Nat} (h : mk.In i m) : i < mk.m := Nat.lt_of_lt_of_le h.2 h.1.le
/-- a live heap that is as it should be -/
structure Ok (K : PySem.W.Frag) (mk : Mk) (ρ : List Addr) (H : Hp) (M : PL.Mem) : Prop where
  rep : RepM K ρ H M
  bel : ∀ m, mk.has m → Below m M
  mkl : mk ≤ M.length
structure RepE (K : PySem.W.Frag) (ρ : List Addr) (H : Hp) (σ : PL.Env) (s : L2.St) : Prop where
  len : σ.length = s.length
  at_ : ∀ i v, PL.lk σ i = some v → ∃ u, s[i]? = some (some u) ∧ RepV K ρ H v u
theorem RepE.ext {K : PySem.W.Frag} {ρ ρ' : List Addr} {H H' : Hp} {σ : PL.Env} {s : L2.St} (h : RepE K ρ H σ s) (x : Ext ρ H ρ' H') : RepE K ρ' H' σ s :=
  ⟨h.len, fun i v e => let ⟨u, h1, h2⟩ := h.at_ i v e; ⟨u, h1, h2.ext x⟩⟩
/-- the wish about exceptions, at the live heap behind -/
abbrev EXC := PL.X → List Addr → Hp → PL.Mem → Prop
def Post {α β : Type} (K : PySem.W.Frag) (mk : Mk) (Rel : List Addr → Hp → α → β → Prop) (E : EXC) (ρ : List Addr) (H : Hp) (Q : β → Hp → Prop) : PL.R α → Prop
  | .ok a M' => ∀ ρ' H' b, Ext ρ H ρ' H' → Ok K mk ρ' H' M' → Rel ρ' H' a b → Q b H'
  | .exc x M' => ∀ ρ' H', Ext ρ H ρ' H' → Ok K mk ρ' H' M' → E x ρ' H' M'
  | .no => False
section
variable {α β γ δ : Type} {K : PySem.W.Frag} {mk : Mk} {Rel : List Addr → Hp → α → β → Prop} {RelB : List Addr → Hp → γ → δ → Prop} {E : EXC} {ρ ρ' : List Addr} {H H' : Hp} {Q : β → Hp → Prop}
theorem Post.ok {a : α} {M : PL.Mem} (h : Post K mk Rel E ρ H Q (.ok a M)) {b : β} (o : Ok K mk ρ H M) (r : Rel ρ H a b) : Q b H := h ρ H b .refl o r
theorem Post.okx {a : α} {M : PL.Mem} (h : Post K mk Rel E ρ H Q (.ok a M)) {b : β} (x : Ext ρ H ρ' H') (o : Ok K mk ρ' H' M) (r : Rel ρ' H' a b) : Q b H' := h ρ' H' b x o r
theorem Post.ext {m : PL.R α} (h : Post K mk Rel E ρ H Q m) (x : Ext ρ H ρ' H') : Post K mk Rel E ρ' H' Q m := by
  cases m with
  | ok a M => exact fun ρ2 H2 b x2 o r => h ρ2 H2 b (x.trans x2) o r
  | exc e M => exact fun ρ2 H2 x2 o => h ρ2 H2 (x.trans x2) o
  | no => exact h
theorem Post.bind {m : PL.R γ} {f : γ → PL.Mem → PL.R α} {Q1 : δ → Hp → Prop} (h : Post K mk Rel E ρ H Q (m.bind f))
    (k : ∀ a M1 ρ1 H1 b, Ext ρ H ρ1 H1 → Ok K mk ρ1 H1 M1 → RelB ρ1 H1 a b → Post K mk Rel E ρ1 H1 Q (f a M1) → Q1 b H1) : Post K mk RelB E ρ H Q1 m := by
  cases m with
  | ok a M => exact fun ρ1 H1 b x o r => k a M ρ1 H1 b x o r (Post.ext h x)
  | exc e M => exact h
  | no => exact h
theorem Post.mono {m : PL.R α} {Q' : β → Hp → Prop} (h : Post K mk Rel E ρ H Q m) (k : ∀ ρ1 H1 b, Ext ρ H ρ1 H1 → Q b H1 → Q' b H1) : Post K mk Rel E ρ H Q' m := by
  cases m with
  | ok a M => exact fun ρ1 H1 b x o r => k ρ1 H1 b x (h ρ1 H1 b x o r)
  | exc e M => exact h
  | no => exact h
end

/-- what the exceptions of this code are wished to be: W of the class, the dict, the slots, the heap; RX: how an exception of PL stands -/
abbrev RXT := List Addr → Hp → PL.X → Value → Option Addr → Prop
def EX (RX : RXT) (K : PySem.W.Frag) (W : WX) (s : L2.St) : EXC := fun x ρ H M => ∀ cls d, RX ρ H x cls d → W cls d s H
abbrev Mn (α : Type) := PL.Env → PL.Mem → PL.R α
/-- an expression's reading by a run -/
def tI (RX : RXT) (K : PySem.W.Frag) (W : WX) (mk : Mk) (m : Mn PV) : TE := fun s H Q => ∃ ρ σ M, RepE K ρ H σ s ∧ Ok K mk ρ H M ∧ Post K mk (RepV K) (EX RX K W s) ρ H Q (m σ M)
def tIs (RX : RXT) (K : PySem.W.Frag) (W : WX) (mk : Mk) (m : Mn (List PV)) : TA := fun s H Q => ∃ ρ σ M, RepE K ρ H σ s ∧ Ok K mk ρ H M ∧ Post K mk (RepVs K) (EX RX K W s) ρ H Q (m σ M)
def asB (m : PL.R PV) : PL.R Bool := m.bind fun v M => match v with
  | .bl b => .ok b M
  | _ => .no
def tIb (RX : RXT) (K : PySem.W.Frag) (W : WX) (mk : Mk) (m : Mn PV) : TT := fun s H Q => ∃ ρ σ M, RepE K ρ H σ s ∧ Ok K mk ρ H M ∧ Post K mk (fun _ _ (a b : Bool) => a = b) (EX RX K W s) ρ H Q (asB (m σ M))
theorem PE.imp {X : Cx} {e : Expr} {t t' : TE} (h : PE X e t) (i : ∀ σ H Q, t' σ H Q → t σ H Q) : PE X e t' := ⟨fun pins s σ H Q I q => h.run pins s σ H Q I (i σ H Q q)⟩
theorem PT.imp {X : Cx} {e : Expr} {t t' : TT} (h : PT X e t) (i : ∀ σ H Q, t' σ H Q → t σ H Q) : PT X e t' := ⟨fun pins s σ H Q I q => h.run pins s σ H Q I (i σ H Q q)⟩
theorem PW.imp {X : Cx} {e : Expr} {t t' : TT} (h : PW X e t) (i : ∀ σ H Q, t' σ H Q → t σ H Q) : PW X e t' := ⟨fun wh pins s σ H Q I q => h.run wh pins s σ H Q I (i σ H Q q)⟩
theorem PA.imp {X : Cx} {es : List Expr} {t t' : TA} (h : PA X es t) (i : ∀ σ H Q, t' σ H Q → t σ H Q) : PA X es t' := ⟨fun pos pins s σ H Q I q => h.run pos pins s σ H Q I (i σ H Q q)⟩
theorem PS.imp {X : Cx} {st : Stmt} {t t' : TS} (h : PS X st t) (i : ∀ D σ H, t' D σ H → t D σ H) : PS X st t' := ⟨fun pins s σ H D I q => h.run pins s σ H D I (i D σ H q)⟩
theorem PSs.imp {X : Cx} {st : List Stmt} {t t' : TS} (h : PSs X st t) (i : ∀ D σ H, t' D σ H → t D σ H) : PSs X st t' := ⟨fun pins s σ H D I q => h.run pins s σ H D I (i D σ H q)⟩

/-! ### slots -/
theorem lk_some : ∀ {σ : PL.Env} {i : Nat} {v : PV}, PL.lk σ i = some v → i < σ.length
  | [], _, _, h => by simp [PL.lk] at h
  | _ :: _, 0, _, _ => by simp
  | _ :: r, i + 1, v, h => by
    have := lk_some (σ := r) (i := i) (v := v) h
    simpa using this
theorem stv_length : ∀ (σ : PL.Env) (i : Nat) (v : PV), (PL.stv σ i v).length = σ.length
  | [], _, _ => rfl
  | _ :: _, 0, _ => rfl
  | _ :: r, i + 1, v => by simp [PL.stv, stv_length r i v]
theorem lk_stv : ∀ (σ : PL.Env) (i j : Nat) (v : PV), PL.lk (PL.stv σ i v) j = if j = i ∧ i < σ.length then some v else PL.lk σ j
  | [], i, j, v => by simp [PL.stv]
  | x :: r, 0, 0, v => by simp [PL.stv]
  | x :: r, 0, j + 1, v => by simp [PL.stv]
  | x :: r, i + 1, 0, v => by simp [PL.stv]
  | x :: r, i + 1, j + 1, v => by
    simp only [PL.stv, PL.lk_succ, lk_stv r i j v, List.length_cons, Nat.add_lt_add_iff_right, Nat.add_right_cancel_iff]
theorem RepE.set {K : PySem.W.Frag} {ρ : List Addr} {H : Hp} {σ : PL.Env} {s : L2.St} (h : RepE K ρ H σ s) {i : Nat} {v : PV} {u : V} (r : RepV K ρ H v u) : RepE K ρ H (PL.stv σ i v) (s.set i (some u)) := by
  refine ⟨by rw [stv_length, List.length_set]; exact h.len, fun j w e => ?_⟩
  rw [lk_stv] at e
  by_cases hj : j = i ∧ i < σ.length
  · rw [if_pos hj] at e
    obtain ⟨rfl, hl⟩ := hj
    obtain rfl := Option.some.inj e
    exact ⟨u, by rw [List.getElem?_set_self (by rw [← h.len]; exact hl)], r⟩
  · rw [if_neg hj] at e
    obtain ⟨z, h1, h2⟩ := h.at_ j w e
    have hl := lk_some e
    have hne : j ≠ i := fun z => hj ⟨z, z ▸ hl⟩
    exact ⟨z, by rw [List.getElem?_set_ne (Ne.symm hne)]; exact h1, h2⟩
/-- .. but for some slots -/
structure RepO_ (K : PySem.W.Frag) (off : List Nat) (ρ : List Addr) (H : Hp) (σ : PL.Env) (s : L2.St) : Prop where
  len : σ.length = s.length
  at_ : ∀ i v, i ∉ off → PL.lk σ i = some v → ∃ u, s[i]? = some (some u) ∧ RepV K ρ H v u
section
variable {K : PySem.W.Frag} {off : List Nat} {ρ ρ' : List Addr} {H H' : Hp} {σ : PL.Env} {s : L2.St}
theorem RepO_.all (h : RepO_ K [] ρ H σ s) : RepE K ρ H σ s := ⟨h.len, fun i v e => h.at_ i v (by simp) e⟩
theorem RepE.toOff (h : RepE K ρ H σ s) : RepO_ K [] ρ H σ s := ⟨h.len, fun i v _ e => h.at_ i v e⟩
theorem RepO_.ext (h : RepO_ K off ρ H σ s) (x : Ext ρ H ρ' H') : RepO_ K off ρ' H' σ s :=
  ⟨h.len, fun i v n e => let ⟨u, h1, h2⟩ := h.at_ i v n e; ⟨u, h1, h2.ext x⟩⟩
theorem wipe_get : ∀ {vs : List Nat} {s : L2.St} {i : Nat}, i ∉ vs → (wipe s vs)[i]? = s[i]?
  | [], _, _, _ => rfl
  | v :: vs, s, i, h => by
    simp only [List.mem_cons, not_or] at h
    unfold wipe
    rw [List.getElem?_set_ne (Ne.symm h.1)]
    exact wipe_get h.2
theorem RepE.wipe (h : RepE K ρ H σ s) (vs : List Nat) : RepO_ K vs ρ H σ (wipe s vs) :=
  ⟨by rw [wipe_length]; exact h.len, fun i v n e => by rw [wipe_get n]; exact h.at_ i v e⟩
theorem RepO_.set (h : RepO_ K off ρ H σ s) {i : Nat} {v : PV} {u : V} (r : RepV K ρ H v u) : RepO_ K (off.filter fun j => decide (j ≠ i)) ρ H (PL.stv σ i v) (s.set i (some u)) := by
  refine ⟨by rw [stv_length, List.length_set]; exact h.len, fun j w n e => ?_⟩
  rw [lk_stv] at e
  by_cases hj : j = i ∧ i < σ.length
  · rw [if_pos hj] at e
    obtain ⟨rfl, hl⟩ := hj
    obtain rfl := Option.some.inj e
    exact ⟨u, by rw [List.getElem?_set_self (by rw [← h.len]; exact hl)], r⟩
  · rw [if_neg hj] at e
    have hl := lk_some e
    have hne : j ≠ i := fun z => hj ⟨z, z ▸ hl⟩
    have n' : j ∉ off := fun m => n (List.mem_filter.mpr ⟨m, decide_eq_true hne⟩)
    obtain ⟨z, h1, h2⟩ := h.at_ j w n' e
    exact ⟨z, by rw [List.getElem?_set_ne (Ne.symm hne)]; exact h1, h2⟩
end
end PLS

/-! PLS3: operators, sequences. -/
namespace PLS
open PySem PySem.Spec PyProof.Rows L2

theorem SZ_eq : PL.SZ = sizeLine := by rw [sizeLine_eq]; rfl
section
variable {K : PySem.W.Frag} {mk : Mk} {ρ : List Addr} {H : Hp} {M : PL.Mem} {E : EXC} {Q : VK}
theorem Ok.alloc (h : Ok K mk ρ H M) {p : Addr} {o : HO} {mo : PL.MO} (n : H p = none) (r : RepO K ρ H mo (some o)) : Ok K mk (ρ ++ [p]) (upd H p o) (M ++ [mo]) :=
  ⟨h.rep.alloc n (r.ext (Ext.alloc h.rep n)), fun m hm => (h.bel m hm).alloc (Nat.le_trans hm.le h.mkl) mo, by rw [List.length_append]; exact Nat.le_trans h.mkl (Nat.le_add_right _ _)⟩
theorem Ok.new (h : Ok K mk ρ H M) {p : Addr} {o : HO} (n : H p = none) : Ok K mk ρ (upd H p o) M := ⟨h.rep.new n, h.bel, h.mkl⟩
theorem Ok.write (h : Ok K mk ρ H M) {i : Nat} {a : Addr} {o : HO} {mo : PL.MO} (ha : ρ[i]? = some a) (r : RepO K ρ H mo (some o)) (hb : ∀ {m}, mk.In i m → belowO m mo = true) : Ok K mk ρ (upd H a o) (M.set i mo) :=
  ⟨h.rep.write ha (r.ext (Ext.write ha)), fun m hm => (h.bel m hm).set fun hi => hb ⟨hm, hi⟩, by rw [List.length_set]; exact h.mkl⟩
theorem post_alloc {mo : PL.MO} (h : Post K mk (RepV K) E ρ H Q (PL.alloc mo M)) (k : Ok K mk ρ H M) {o : HO} (r : RepO K ρ H mo (some o)) (p : Addr) (n : H p = none) : Q (.ref p) (upd H p o) := by
  refine Post.okx h (Ext.alloc k.rep n) (k.alloc n r) ?_
  simp only [RepV]
  exact ⟨p, by rw [← k.rep.len, List.getElem?_append_right (Nat.le_refl _), Nat.sub_self]; rfl, rfl⟩
theorem post_tup {xs : List PV} {us : List V} (h : Post K mk (RepV K) E ρ H Q (.ok (.tup xs) M)) (k : Ok K mk ρ H M) (r : RepVs K ρ H xs us) (p : Addr) (o : Obj) (n : H p = none) (t : TupO o) : Q (.ref p) (upd H p (.frz o (.tup us))) := by
  refine Post.okx h (Ext.new k.rep n) (k.new n) ?_
  simp only [RepV]
  exact ⟨p, o, us, rfl, upd_same, t, k.rep.fresh n, r.ext (Ext.new k.rep n)⟩
theorem RepV.toTup {xs : List PV} {u : V} (h : RepV K ρ H (.tup xs) u) : ∃ a us, u = .ref a ∧ SqT K H a us ∧ RepVs K ρ H xs us := by
  simp only [RepV] at h
  obtain ⟨a, o, us, e, h1, h2, n, r⟩ := h
  exact ⟨a, us, e, .inl (.inr ⟨o, h1⟩), r⟩
theorem RepV.toCt {xs : List PV} {u : V} (h : RepV K ρ H (.ct xs) u) : ∃ a us, u = .ref a ∧ SqT K H a us ∧ RepVs K ρ H xs us := by
  simp only [RepV] at h
  obtain ⟨a, us, e, h1, r⟩ := h
  exact ⟨a, us, e, .inr h1, r⟩
theorem RepV.toCl {xs : List PV} {u : V} (h : RepV K ρ H (.cl xs) u) : ∃ a us, u = .ref a ∧ SqL K H a us ∧ RepVs K ρ H xs us := by
  simp only [RepV] at h
  obtain ⟨a, us, e, h1, r⟩ := h
  exact ⟨a, us, e, h1.elim (fun q => let ⟨o, q1, _⟩ := q; .inl (.inr ⟨o, q1⟩)) .inr, r⟩
theorem llst_rep (k : RepM K ρ H M) {v : PV} {x : V} {xs : List PV} (r : RepV K ρ H v x) (e : PL.llst M v = some xs) : ∃ a us, x = .ref a ∧ H a = some (.lst us) ∧ RepVs K ρ H xs us := by
  cases v with
  | fl ys =>
    simp only [PL.llst, Option.some.injEq] at e
    subst e
    simp only [RepV] at r
    obtain ⟨a, us, e, h1, n, r⟩ := r
    exact ⟨a, us, e, h1, r⟩
  | ref i =>
    simp only [PL.llst] at e
    split at e
    · rename_i ys h
      obtain rfl := Option.some.inj e
      simp only [RepV] at r
      obtain ⟨a, h1, h2⟩ := r
      obtain ⟨b, us, h3, h4, h5⟩ := k.lst h
      rw [h1] at h3
      obtain rfl := Option.some.inj h3
      exact ⟨a, us, h2, h4, h5⟩
    · cases e
  | _ => simp [PL.llst] at e
theorem litems_rep (k : RepM K ρ H M) {v : PV} {x : V} {xs : List PV} (r : RepV K ρ H v x) (e : PL.litems M v = some xs) : ∃ a us, x = .ref a ∧ SqL K H a us ∧ RepVs K ρ H xs us := by
  by_cases hc : ∃ ys, v = .cl ys
  · obtain ⟨ys, rfl⟩ := hc
    simp only [PL.litems, Option.some.injEq] at e
    subst e
    exact r.toCl
  · have e2 : PL.llst M v = some xs := by
      cases v with
      | cl ys => exact absurd ⟨ys, rfl⟩ hc
      | fl ys => exact e
      | ref i => exact e
      | _ => simp [PL.litems] at e
    obtain ⟨a, us, h1, h2, h3⟩ := llst_rep k r e2
    exact ⟨a, us, h1, .of h2, h3⟩
theorem items_rep (k : RepM K ρ H M) {v : PV} {x : V} {xs : List PV} (r : RepV K ρ H v x) (e : PL.items M v = some xs) :
    ∃ a us, x = .ref a ∧ (SqL K H a us ∨ SqT K H a us) ∧ RepVs K ρ H xs us := by
  cases v with
  | tup ys =>
    simp only [PL.items, Option.some.injEq] at e
    subst e
    obtain ⟨a, us, h1, h2, h3⟩ := r.toTup
    exact ⟨a, us, h1, .inr h2, h3⟩
  | ct ys =>
    simp only [PL.items, Option.some.injEq] at e
    subst e
    obtain ⟨a, us, h1, h2, h3⟩ := r.toCt
    exact ⟨a, us, h1, .inr h2, h3⟩
  | fl ys =>
    obtain ⟨a, us, h1, h2, h3⟩ := litems_rep k r (show PL.litems M (.fl ys) = some xs from e)
    exact ⟨a, us, h1, .inl h2, h3⟩
  | cl ys =>
    obtain ⟨a, us, h1, h2, h3⟩ := litems_rep k r (show PL.litems M (.cl ys) = some xs from e)
    exact ⟨a, us, h1, .inl h2, h3⟩
  | ref i =>
    obtain ⟨a, us, h1, h2, h3⟩ := litems_rep k r (show PL.litems M (.ref i) = some xs from e)
    exact ⟨a, us, h1, .inl h2, h3⟩
  | _ => simp [PL.items] at e
theorem dkeys_rep (k : RepM K ρ H M) {v : PV} {x : V} {ks vs : List PV} (r : RepV K ρ H v x) (e : PL.dkeys M v = some (ks, vs)) :
    ∃ a kvs, x = .ref a ∧ Rd H a (.dK kvs) ∧ ks.map keyK = kvs.map (fun kv => some kv.1) ∧ RepVs K ρ H vs (kvs.map (·.2)) := by
  cases v with
  | fd ks' vs' =>
    simp only [PL.dkeys, Option.some.injEq, Prod.mk.injEq] at e
    obtain ⟨rfl, rfl⟩ := e
    simp only [RepV] at r
    obtain ⟨a, kvs, e, h1, n, h2, r⟩ := r
    exact ⟨a, kvs, e, h1, h2, r⟩
  | ref i =>
    simp only [PL.dkeys] at e
    split at e
    · rename_i lk ys zs h
      simp only [Option.some.injEq, Prod.mk.injEq] at e
      obtain ⟨rfl, rfl⟩ := e
      simp only [RepV] at r
      obtain ⟨a, h1, h2⟩ := r
      obtain ⟨b, kvs, h3, h4, h5, h6⟩ := k.dct h
      rw [h1] at h3
      obtain rfl := Option.some.inj h3
      exact ⟨a, kvs, h2, .inl h4, h5, h6⟩
    · cases e
  | _ => simp [PL.dkeys] at e
end

/-! ### new tuples -/
section
variable {X : Cx} {pins : List (Addr × Obj)} {σ : L2.St} {H : Hp} {s : Shared}
abbrev tupObj (its : List Value) : Obj := { cls := .type "tuple", data := .seq its.toArray }
theorem tupO_new (its : List Value) : TupO (tupObj its) := ⟨rfl, rfl⟩
theorem Inv.tnew {its : List Value} {us : List V} {t' : Nat} (I : Inv X pins σ H s) (hv : Vals us its) (hz : us.length ≤ sizeLine) :
    Inv X pins σ (upd H s.heap.objs.size (.frz (tupObj its) (.tup us))) { s with heap := s.heap.push (tupObj its), toks := t' } :=
  I.laid (fun _ _ q => Heap.get?_push_of_some _ q) (Nat.le_refl _) ⟨Heap.get?_push_size _ rfl, hz, its, hv, IsTup.new _ _⟩
theorem rep_flat (k : Nat) (its : List Value) (us : List V) (h : Vals us its) : Vals (List.replicate k us).flatten (List.replicate k its).flatten := by
  induction k with
  | zero => exact .nil
  | succ k ih => rw [List.replicate_succ, List.replicate_succ, List.flatten_cons, List.flatten_cons]; exact h.append ih
end

/-! ### operators -/
def opOf : PL.Op → Operator
  | .add => .Add
  | .sub => .Sub
  | .mul => .Mult
  | .fdiv => .FloorDiv
  | .mod => .Mod
  | .pow => .Pow
section
variable {X : Cx} {mk : Mk} {E : EXC}
def rB (K : PySem.W.Frag) (mk : Mk) (E : EXC) (o : PL.Op) : R2 := fun x y H Q => ∃ ρ M v w, Ok K mk ρ H M ∧ RepV K ρ H v x ∧ RepV K ρ H w y ∧ Post K mk (RepV K) E ρ H Q (PL.binop M o v w)
theorem mulOk_wide {i j : Int} (h : PL.mulOk i j = true) : CMul i j ∨ CMulW i j := by
  unfold PL.mulOk at h
  simp only [Bool.or_eq_true, Bool.and_eq_true, decide_eq_true_eq] at h
  rcases h with (h | h) | ⟨h1, h2⟩
  · left; left; omega
  · left; right; omega
  · right; exact wide_mul h1 h2 (by decide) (by decide) (by decide)
theorem cat_tupF {pins : List (Addr × Obj)} {σ : L2.St} {H : Hp} {s : Shared} {a b : Addr} {us ws : List V} {Q : VK} (I : Inv X pins σ H s) (ha : SqT X.K H a us) (hb : SqT X.K H b ws) (hz : us.length + ws.length ≤ sizeLine)
    (q0 : us = [] → Q (.ref b) H) (q1 : us ≠ [] → ws = [] → Q (.ref a) H) (q2 : ∀ p o, H p = none → TupO o → Q (.ref p) (upd H p (.frz o (.tup (us ++ ws))))) :
    wpAny (model X.prog X.w) X.A (binaryOp .Add (.ref a) (.ref b)) (EP X pins σ Q) X.xe s := by
  obtain ⟨its, r1, p1, _⟩ := I.tuple ha
  obtain ⟨its2, r2, p2, _⟩ := I.tuple hb
  by_cases hx : us = []
  · subst hx
    cases r1
    exact cat_tup0 p1 p2 ⟨.ref b, H, I, rfl, q0 rfl⟩
  · refine HT.cat_tup p1 p2 (fun z => hx (r1.nil_iff.mp z)) (fun z => ⟨.ref a, H, I, rfl, q1 hx (r2.nil_iff.mp z)⟩) (fun _ => ?_) (by rw [← r1.length, ← r2.length]; exact hz)
    exact ⟨.ref s.heap.objs.size, _, Inv.tnew (t' := s.toks) I (r1.append r2) (by rw [List.length_append]; exact hz), rfl, q2 _ _ I.fresh (tupO_new _)⟩
theorem op_addP : OpR X (binaryOp .Add) (rB X.K mk E .add) := by
  rintro pins s σ H x y v u Q I rx ry ⟨ρ, M, a, b, k, ra, rb, h⟩
  have lists : ∀ xs ys, PL.llst M a = some xs → PL.llst M b = some ys → (if xs.length + ys.length ≤ PL.SZ then Post X.K mk (RepV X.K) E ρ H Q (PL.alloc (.lst (xs ++ ys)) M) else False) →
      wpAny (model X.prog X.w) X.A (binaryOp .Add v u) (EP X pins σ Q) X.xe s := fun xs ys e1 e2 h => by
    obtain ⟨p, us, rfl, h1, r1⟩ := llst_rep k.rep ra e1
    obtain ⟨q, ws, rfl, h2, r2⟩ := llst_rep k.rep rb e2
    split at h
    · rename_i hz
      exact op_cat pins s σ H _ _ v u Q I rx ry ⟨p, q, us, ws, rfl, rfl, h1, h2, by rw [← r1.length, ← r2.length, ← SZ_eq]; exact hz, fun z n => post_alloc h k ⟨_, rfl, r1.append r2⟩ z n⟩
    · exact h.elim
  change Post X.K mk (RepV X.K) E ρ H Q (PL.addV M a b) at h
  unfold PL.addV at h
  split at h
  · simp only [RepV] at ra rb
    exact op_add pins s σ H x y v u Q I rx ry ⟨_, _, ra, rb, h.ok k (by simp only [RepV])⟩
  · simp only [RepV] at ra rb
    split at h
    · rename_i hz
      exact op_add_str pins s σ H x y v u Q I rx ry ⟨_, _, ra, rb, by rw [toStr_len, toStr_len, ← SZ_eq]; exact hz, h.ok k (by simp only [RepV]; rw [toStr_app])⟩
    · exact h.elim
  · split at h
    · rename_i xs ys hz
      have ra0 := ra
      have rb0 := rb
      obtain ⟨p, us, rfl, h1, r1⟩ := ra.toTup
      obtain ⟨q, ws, rfl, h2, r2⟩ := rb.toTup
      cases rx
      cases ry
      refine cat_tupF I h1 h2 (by rw [← r1.length, ← r2.length, ← SZ_eq]; exact hz) (fun e => ?_) (fun e e' => ?_) fun z o n t => post_tup h k (r1.append r2) z o n t
      · subst e
        have : xs = [] := List.eq_nil_of_length_eq_zero (by rw [r1.length]; rfl)
        subst this
        exact h.ok k rb0
      · subst e'
        have : ys = [] := List.eq_nil_of_length_eq_zero (by rw [r2.length]; rfl)
        subst this
        refine h.ok k ?_
        rw [List.append_nil]
        exact ra0
    · exact h.elim
  · split at h
    · rename_i e1 e2
      refine lists _ _ e1 e2 ?_
      split at h
      · rename_i hz; rw [if_pos hz]; exact h
      · exact h.elim
    · exact h.elim
end
end PLS

/-! PLS4: data: ==, in, count, index, repr. -/
namespace PLS
open PySem PySem.Spec PyProof.Rows L2

section
variable {K : PySem.W.Frag} {ρ : List Addr} {H : Hp} {M : PL.Mem}
-- a value that is read as a datum
mutual
theorem dp_W {f : Nat → Option PV} (hf : ∀ i v' u, f i = some v' → PL.plain v' = true → RepV K ρ H (.ref i) u → ∃ d, dat v' = some d ∧ Dp K H u d) :
    ∀ {v v' : PV} {u : V}, RepV K ρ H v u → PL.rdW f v = some v' → PL.plain v' = true → ∃ d, dat v' = some d ∧ Dp K H u d
  | .ref i, v', u, r, e, p => hf i v' u (by simpa only [PL.rdW] using e) p r
  | .non, v', u, r, e, p => by
    simp only [PL.rdW, Option.some.injEq] at e; subst e
    simp only [RepV] at r; subst r
    exact ⟨.none, by simp only [dat], .non⟩
  | .bl b, v', u, r, e, p => by
    simp only [PL.rdW, Option.some.injEq] at e; subst e
    simp only [RepV] at r; subst r
    exact ⟨.bool b, by simp only [dat], .bl b⟩
  | .int i, v', u, r, e, p => by
    simp only [PL.rdW, Option.some.injEq] at e; subst e
    simp only [RepV] at r; subst r
    exact ⟨.int i, by simp only [dat], .int i⟩
  | .str s, v', u, r, e, p => by
    simp only [PL.rdW, Option.some.injEq] at e; subst e
    simp only [RepV] at r; subst r
    exact ⟨.str (toStr s), by simp only [dat], .str _⟩
  | .rep d, v', u, r, e, p => by
    simp only [PL.rdW, Option.some.injEq] at e; subst e
    simp [PL.plain] at p
  | .ct xs, v', u, r, e, p => by
    simp only [PL.rdW, Option.some.injEq] at e; subst e
    simp [PL.plain] at p
  | .cl xs, v', u, r, e, p => by
    simp only [PL.rdW, Option.some.injEq] at e; subst e
    simp [PL.plain] at p
  | .fd ks vs, v', u, r, e, p => by
    simp only [PL.rdW, Option.bind_eq_some_iff, Option.map_eq_some_iff] at e
    obtain ⟨a, _, b, _, rfl⟩ := e
    simp [PL.plain] at p
  | .tup xs, v', u, r, e, p => by
    simp only [PL.rdW, Option.map_eq_some_iff] at e
    obtain ⟨ys, e, rfl⟩ := e
    simp only [PL.plain] at p
    obtain ⟨a, us, rfl, h, rs⟩ := r.toTup
    obtain ⟨ds, h1, h2⟩ := dp_Ws hf rs e p
    exact ⟨.tuple ds, by simp only [dat, h1, Option.map_some], .tup h h2⟩
  | .fl xs, v', u, r, e, p => by
    simp only [PL.rdW, Option.map_eq_some_iff] at e
    obtain ⟨ys, e, rfl⟩ := e
    simp only [PL.plain] at p
    simp only [RepV] at r
    obtain ⟨a, us, rfl, h, n, rs⟩ := r
    obtain ⟨ds, h1, h2⟩ := dp_Ws hf rs e p
    exact ⟨.list ds, by simp only [dat, h1, Option.map_some], .lst (.of h) h2⟩
theorem dp_Ws {f : Nat → Option PV} (hf : ∀ i v' u, f i = some v' → PL.plain v' = true → RepV K ρ H (.ref i) u → ∃ d, dat v' = some d ∧ Dp K H u d) :
    ∀ {xs ys : List PV} {us : List V}, RepVs K ρ H xs us → PL.rdWs f xs = some ys → PL.plains ys = true → ∃ ds, dats ys = some ds ∧ DpAll K H us ds
  | [], ys, us, r, e, p => by
    simp only [PL.rdWs, Option.some.injEq] at e; subst e
    rw [r.inv0]
    exact ⟨[], by simp only [dats], .nil⟩
  | x :: xs, ys, us, r, e, p => by
    simp only [PL.rdWs, Option.bind_eq_some_iff, Option.map_eq_some_iff] at e
    obtain ⟨a, e1, b, e2, rfl⟩ := e
    simp only [PL.plains, Bool.and_eq_true] at p
    obtain ⟨u, t, rfl, h1, h2⟩ := r.inv
    obtain ⟨d, d1, d2⟩ := dp_W hf h1 e1 p.1
    obtain ⟨ds, d3, d4⟩ := dp_Ws hf h2 e2 p.2
    exact ⟨d :: ds, by simp only [dats, d1, d3, Option.bind_some, Option.map_some], .cons d2 d4⟩
end
theorem dp_rd (k : RepM K ρ H M) : ∀ (n : Nat) {v v' : PV} {u : V}, RepV K ρ H v u → PL.rd M n v = some v' → PL.plain v' = true → ∃ d, dat v' = some d ∧ Dp K H u d
  | 0, v, v', u, r, e, p => dp_W (f := fun _ => none) (fun _ _ _ z => nomatch z) r (by simpa only [PL.rd] using e) p
  | n + 1, v, v', u, r, e, p => by
    simp only [PL.rd] at e
    refine dp_W ?_ r e p
    intro i v' u e p r
    split at e
    · rename_i xs hm
      simp only [Option.map_eq_some_iff] at e
      obtain ⟨ys, e, rfl⟩ := e
      simp only [PL.plain] at p
      simp only [RepV] at r
      obtain ⟨a, h1, rfl⟩ := r
      obtain ⟨b, us, h2, h3, rs⟩ := k.lst hm
      rw [h1] at h2
      obtain rfl := Option.some.inj h2
      obtain ⟨ds, d1, d2⟩ := dp_Ws (fun j w z e p r => dp_rd k n r e p) rs e p
      exact ⟨.list ds, by simp only [dat, d1, Option.map_some], .lst (.of h3) d2⟩
    · simp only [Option.bind_eq_some_iff, Option.map_eq_some_iff] at e
      obtain ⟨a, _, b, _, rfl⟩ := e
      simp [PL.plain] at p
    · cases e
end
-- == of data
mutual
theorem eqV_eqv : ∀ {a b : PV} {d e : PyData}, dat a = some d → dat b = some e → PL.plain a = true → PL.plain b = true → PyData.eqv d e = PL.eqV a b
  | .non, b, d, e, h1, h2, p, q => by
    simp only [dat, Option.some.injEq] at h1; subst h1
    cases b <;> simp [dat, PL.plain] at h2 q <;> first | (subst h2; simp [PyData.eqv, PL.eqV]; done) | (obtain ⟨_, _, rfl⟩ := h2; simp [PyData.eqv, PL.eqV])
  | .bl x, b, d, e, h1, h2, p, q => by
    simp only [dat, Option.some.injEq] at h1; subst h1
    cases b <;> simp [dat, PL.plain] at h2 q <;> first | (subst h2; simp [PyData.eqv, PL.eqV]; done) | (obtain ⟨_, _, rfl⟩ := h2; simp [PyData.eqv, PL.eqV])
  | .int x, b, d, e, h1, h2, p, q => by
    simp only [dat, Option.some.injEq] at h1; subst h1
    cases b <;> simp [dat, PL.plain] at h2 q <;> first | (subst h2; simp [PyData.eqv, PL.eqV]; done) | (obtain ⟨_, _, rfl⟩ := h2; simp [PyData.eqv, PL.eqV])
  | .str x, b, d, e, h1, h2, p, q => by
    simp only [dat, Option.some.injEq] at h1; subst h1
    cases b with
    | str y =>
      simp only [dat, Option.some.injEq] at h2; subst h2
      simp only [PyData.eqv, PL.eqV]
      by_cases hxy : x = y
      · subst hxy; simp
      · rw [decide_eq_false hxy]
        exact beq_eq_false_iff_ne.mpr fun z => hxy (toStr_inj z)
    | _ => simp [dat, PL.plain] at h2 q <;> first | (subst h2; simp [PyData.eqv, PL.eqV]; done) | (obtain ⟨_, _, rfl⟩ := h2; simp [PyData.eqv, PL.eqV])
  | .tup xs, b, d, e, h1, h2, p, q => by
    simp only [dat, Option.map_eq_some_iff] at h1
    obtain ⟨ds, h1, rfl⟩ := h1
    cases b with
    | tup ys =>
      simp only [dat, Option.map_eq_some_iff] at h2
      obtain ⟨es, h2, rfl⟩ := h2
      simp only [PL.plain] at p q
      simp only [PyData.eqv, PL.eqV]
      exact eqVs_eqv h1 h2 p q
    | _ => simp [dat, PL.plain] at h2 q <;> first | (subst h2; simp [PyData.eqv, PL.eqV]; done) | (obtain ⟨_, _, rfl⟩ := h2; simp [PyData.eqv, PL.eqV])
  | .fl xs, b, d, e, h1, h2, p, q => by
    simp only [dat, Option.map_eq_some_iff] at h1
    obtain ⟨ds, h1, rfl⟩ := h1
    cases b with
    | fl ys =>
      simp only [dat, Option.map_eq_some_iff] at h2
      obtain ⟨es, h2, rfl⟩ := h2
      simp only [PL.plain] at p q
      simp only [PyData.eqv, PL.eqV]
      exact eqVs_eqv h1 h2 p q
    | _ => simp [dat, PL.plain] at h2 q <;> first | (subst h2; simp [PyData.eqv, PL.eqV]; done) | (obtain ⟨_, _, rfl⟩ := h2; simp [PyData.eqv, PL.eqV])
  | .fd _ _, b, d, e, h1, h2, p, q => by simp [PL.plain] at p
  | .ref _, b, d, e, h1, h2, p, q => by simp [PL.plain] at p
  | .rep _, b, d, e, h1, h2, p, q => by simp [PL.plain] at p
  | .ct _, b, d, e, h1, h2, p, q => by simp [PL.plain] at p
  | .cl _, b, d, e, h1, h2, p, q => by simp [PL.plain] at p
theorem eqVs_eqv : ∀ {a b : List PV} {d e : List PyData}, dats a = some d → dats b = some e → PL.plains a = true → PL.plains b = true → PyData.eqvAll d e = PL.eqVs a b
  | [], b, d, e, h1, h2, p, q => by
    simp only [dats, Option.some.injEq] at h1; subst h1
    cases b with
    | nil => simp only [dats, Option.some.injEq] at h2; subst h2; simp [PyData.eqvAll, PL.eqVs]
    | cons y ys =>
      simp only [dats, Option.bind_eq_some_iff, Option.map_eq_some_iff] at h2
      obtain ⟨_, _, _, _, rfl⟩ := h2
      simp [PyData.eqvAll, PL.eqVs]
  | x :: xs, b, d, e, h1, h2, p, q => by
    simp only [dats, Option.bind_eq_some_iff, Option.map_eq_some_iff] at h1
    obtain ⟨d1, e1, ds, e2, rfl⟩ := h1
    cases b with
    | nil => simp only [dats, Option.some.injEq] at h2; subst h2; simp [PyData.eqvAll, PL.eqVs]
    | cons y ys =>
      simp only [dats, Option.bind_eq_some_iff, Option.map_eq_some_iff] at h2
      obtain ⟨d3, e3, ds2, e4, rfl⟩ := h2
      simp only [PL.plains, Bool.and_eq_true] at p q
      simp only [PyData.eqvAll, PL.eqVs, eqV_eqv e1 e3 p.1 q.1, eqVs_eqv e2 e4 p.2 q.2]
end
mutual
theorem dat_lay : ∀ {a : PV} {d : PyData}, dat a = some d → PL.plain a = true → d.canLay0 = true
  | .non, d, h, p => by simp only [dat, Option.some.injEq] at h; subst h; simp [PyData.canLay0]
  | .bl _, d, h, p => by simp only [dat, Option.some.injEq] at h; subst h; simp [PyData.canLay0]
  | .int _, d, h, p => by simp only [dat, Option.some.injEq] at h; subst h; simp [PyData.canLay0]
  | .str s, d, h, p => by
    simp only [dat, Option.some.injEq] at h; subst h
    simp only [PyData.canLay0, PyData.strOk, toStr]
    simp only [PL.plain, List.all_eq_true, decide_eq_true_eq] at p
    rw [← Array.all_toList]
    exact List.all_eq_true.mpr fun c hc => decide_eq_true (p c (by simpa using hc))
  | .tup xs, d, h, p => by
    simp only [dat, Option.map_eq_some_iff] at h
    obtain ⟨ds, h, rfl⟩ := h
    simp only [PL.plain] at p
    simp only [PyData.canLay0]; exact dats_lay h p
  | .fl xs, d, h, p => by
    simp only [dat, Option.map_eq_some_iff] at h
    obtain ⟨ds, h, rfl⟩ := h
    simp only [PL.plain] at p
    simp only [PyData.canLay0]; exact dats_lay h p
  | .fd _ _, d, h, p => by simp [PL.plain] at p
  | .ref _, d, h, p => by simp [PL.plain] at p
  | .rep _, d, h, p => by simp [PL.plain] at p
  | .ct _, d, h, p => by simp [PL.plain] at p
  | .cl _, d, h, p => by simp [PL.plain] at p
theorem dats_lay : ∀ {a : List PV} {d : List PyData}, dats a = some d → PL.plains a = true → PyData.canLayAll0 d = true
  | [], d, h, p => by simp only [dats, Option.some.injEq] at h; subst h; simp [PyData.canLayAll0]
  | x :: xs, d, h, p => by
    simp only [dats, Option.bind_eq_some_iff, Option.map_eq_some_iff] at h
    obtain ⟨d1, e1, ds, e2, rfl⟩ := h
    simp only [PL.plains, Bool.and_eq_true] at p
    simp only [PyData.canLayAll0, dat_lay e1 p.1, dats_lay e2 p.2, Bool.and_self]
end
theorem depthKv_zip : ∀ (a b : List PyData), PyData.depthKv (a.zip b) ≤ max (PyData.depthAll a) (PyData.depthAll b)
  | [], b => by simp [PyData.depthKv]
  | x :: a, [] => by simp [PyData.depthKv]
  | x :: a, y :: b => by
    have := depthKv_zip a b
    simp only [List.zip_cons_cons, PyData.depthKv, PyData.depthAll]
    omega
mutual
theorem dat_dep : ∀ {a : PV} {d : PyData}, dat a = some d → d.depth ≤ PL.dep a
  | .non, d, h => by simp only [dat, Option.some.injEq] at h; subst h; simp [PyData.depth]
  | .bl _, d, h => by simp only [dat, Option.some.injEq] at h; subst h; simp [PyData.depth]
  | .int _, d, h => by simp only [dat, Option.some.injEq] at h; subst h; simp [PyData.depth]
  | .str s, d, h => by simp only [dat, Option.some.injEq] at h; subst h; simp [PyData.depth]
  | .tup xs, d, h => by
    simp only [dat, Option.map_eq_some_iff] at h
    obtain ⟨ds, h, rfl⟩ := h
    simp only [PyData.depth, PL.dep]
    have := dats_dep h
    omega
  | .fl xs, d, h => by
    simp only [dat, Option.map_eq_some_iff] at h
    obtain ⟨ds, h, rfl⟩ := h
    simp only [PyData.depth, PL.dep]
    have := dats_dep h
    omega
  | .fd ks vs, d, h => by
    simp only [dat, Option.bind_eq_some_iff, Option.map_eq_some_iff] at h
    obtain ⟨a, h1, b, h2, rfl⟩ := h
    simp only [PyData.depth, PL.dep]
    have e1 := dats_dep h1
    have e2 := dats_dep h2
    have e3 := depthKv_zip a b
    omega
  | .ref _, d, h => by simp [dat] at h
  | .rep _, d, h => by simp [dat] at h
  | .ct _, d, h => by simp [dat] at h
  | .cl _, d, h => by simp [dat] at h
theorem dats_dep : ∀ {a : List PV} {d : List PyData}, dats a = some d → PyData.depthAll d ≤ PL.deps a
  | [], d, h => by simp only [dats, Option.some.injEq] at h; subst h; simp [PyData.depthAll]
  | x :: xs, d, h => by
    simp only [dats, Option.bind_eq_some_iff, Option.map_eq_some_iff] at h
    obtain ⟨d1, e1, ds, e2, rfl⟩ := h
    simp only [PyData.depthAll, PL.deps]
    have a1 := dat_dep e1
    have a2 := dats_dep e2
    omega
end
section
variable {K : PySem.W.Frag} {ρ : List Addr} {H : Hp} {M : PL.Mem}
theorem eqD_rep (k : RepM K ρ H M) {x y : PV} {u w : V} {b : Bool} (rx : RepV K ρ H x u) (ry : RepV K ρ H y w) (e : PL.eqD M x y = some b) :
    ∃ d1 d2, Dp K H u d1 ∧ Dp K H w d2 ∧ SeqAt.shaped d1 = true ∧ SeqAt.shaped d2 = true ∧ PyData.eqv d1 d2 = b := by
  unfold PL.eqD at e
  split at e
  · rename_i a c e1 e2
    split at e
    · rename_i hp
      simp only [Bool.and_eq_true, decide_eq_true_eq] at hp
      obtain ⟨⟨⟨p1, p2⟩, l1⟩, l2⟩ := hp
      obtain rfl := Option.some.inj e
      obtain ⟨d1, h1, q1⟩ := dp_rd k _ rx e1 p1
      obtain ⟨d2, h2, q2⟩ := dp_rd k _ ry e2 p2
      have z1 := dat_dep h1
      have z2 := dat_dep h2
      refine ⟨d1, d2, q1, q2, ?_, ?_, eqV_eqv h1 h2 p1 p2⟩
      · unfold SeqAt.shaped; rw [dat_lay h1 p1, Bool.true_and]; exact decide_eq_true (by omega)
      · unfold SeqAt.shaped; rw [dat_lay h2 p2, Bool.true_and]; exact decide_eq_true (by omega)
    · cases e
  · cases e
end
section
variable {X : Cx} {mk : Mk} {E : EXC}
/-- the == of an item that is asked of -/
theorem eqD_at {pins : List (Addr × Obj)} {σ : L2.St} {H : Hp} {s : Shared} {M : PL.Mem} {ρ : List Addr} (I : Inv X pins σ H s) (k : RepM X.K ρ H M) (hu : X.A.units + 200 < cLine) {x : PV} {u : V} {b : Bool} {xv : Value} (rx : RepV X.K ρ H x u) (qx : RelV u xv) :
    ∀ {ys : List PV} {us : List V} {vs : List Value}, RepVs X.K ρ H ys us → Vals us vs → (∀ y ∈ ys, (PL.eqD M y x).isSome = true) →
      ∃ e : Value → Bool, (∀ v ∈ vs, SeqAt.EqAt X.A.in1 s v xv (e v)) ∧ ∀ (i : Nat) (y : PV) (v : Value), ys[i]? = some y → vs[i]? = some v → PL.eqD M y x = some (e v) := by
  intro ys us vs rs qs hs
  by_cases h0 : ys = []
  · subst h0
    have := rs.inv0; subst this; cases qs
    exact ⟨fun _ => false, ⟨fun v hv => absurd hv (by simp), fun i y v h _ => by simp at h⟩⟩
  · -- the datum of x
    obtain ⟨y0, hy0⟩ := List.exists_mem_of_ne_nil ys h0
    obtain ⟨i0, hi0, e0⟩ := List.mem_iff_getElem.mp hy0
    obtain ⟨b0, hb0⟩ := Option.isSome_iff_exists.mp (hs y0 hy0)
    obtain ⟨u0, hu0, r0⟩ := rs.get (i := i0) (by rw [List.getElem?_eq_getElem hi0, e0])
    obtain ⟨_, d, _, q2, _, s2, _⟩ := eqD_rep k r0 rx hb0
    obtain ⟨bs, rd2⟩ := Dp.reads I d u xv q2 qx
    have c2 := SeqAt.canLay_of_shaped s2
    have l2 := SeqAt.depth_of_shaped s2
    have each : ∀ (i : Nat) (y : PV) (v : Value), ys[i]? = some y → vs[i]? = some v → ∃ dy as b, Reads s.heap v dy as ∧ dy.canLay0 = true ∧ PL.eqD M y x = some b ∧ PyData.eqv dy d = b := fun i y v h1 h2 => by
      obtain ⟨b, hb⟩ := Option.isSome_iff_exists.mp (hs y (List.mem_of_getElem? h1))
      obtain ⟨w, hw, r⟩ := rs.get h1
      obtain ⟨v', hv', qv⟩ := qs.get hw
      rw [h2] at hv'
      obtain rfl := Option.some.inj hv'
      obtain ⟨dy, d', q1, q2', s1, s2', eb⟩ := eqD_rep k r rx hb
      obtain ⟨as, rd1⟩ := Dp.reads I dy w v q1 qv
      obtain ⟨bs', rd2'⟩ := Dp.reads I d' u xv q2' qx
      have ed : d' = d := (SeqAt.readOf_eq (SeqAt.canLay_of_shaped s2') rd2').symm.trans (SeqAt.readOf_eq c2 rd2)
      subst ed
      exact ⟨dy, as, b, rd1, SeqAt.canLay_of_shaped s1, hb, eb⟩
    refine ⟨fun v => PyData.eqv (SeqAt.readOf s.heap v) d, fun v hv => ?_, fun i y v h1 h2 => ?_⟩
    · obtain ⟨i, hi, e⟩ := List.mem_iff_getElem.mp hv
      have hl : i < ys.length := by rw [rs.length, qs.length]; exact hi
      obtain ⟨dy, as, b, rd1, c1, _, _⟩ := each i ys[i] v (List.getElem?_eq_getElem hl) (by rw [List.getElem?_eq_getElem hi, e])
      show SeqAt.EqAt X.A.in1 s v xv (PyData.eqv (SeqAt.readOf s.heap v) d)
      rw [SeqAt.readOf_eq c1 rd1]
      refine SeqAt.eqAt_reads dy d X.A.in1 s v xv as bs rd1 rd2 c1 c2 ?_
      have := Nat.min_le_right dy.depth d.depth
      show X.A.units + 1 + min dy.depth d.depth < cLine
      omega
    · obtain ⟨dy, as, b, rd1, c1, e1, e2⟩ := each i y v h1 h2
      show PL.eqD M y x = some (PyData.eqv (SeqAt.readOf s.heap v) d)
      rw [SeqAt.readOf_eq c1 rd1, e2]
      exact e1
end
end PLS

/-! PLS5: operators, comparisons, subscripts by values. -/
namespace PLS
open PySem PySem.Spec PyProof.Rows L2
section
variable {X : Cx} {mk : Mk} {E : EXC}
theorem op_subP : OpR X (binaryOp .Sub) (rB X.K mk E .sub) := by
  rintro pins s σ H x y v u Q I rx ry ⟨ρ, M, a, b, k, ra, rb, h⟩
  change Post X.K mk (RepV X.K) E ρ H Q (PL.subV M a b) at h
  unfold PL.subV at h
  split at h
  · simp only [RepV] at ra rb
    exact op_sub pins s σ H x y v u Q I rx ry ⟨_, _, ra, rb, h.ok k (by simp only [RepV])⟩
  · exact h.elim
theorem op_fdivP : OpR X (binaryOp .FloorDiv) (rB X.K mk E .fdiv) := by
  rintro pins s σ H x y v u Q I rx ry ⟨ρ, M, a, b, k, ra, rb, h⟩
  change Post X.K mk (RepV X.K) E ρ H Q (PL.fdivV M a b) at h
  unfold PL.fdivV at h
  split at h
  · split at h
    · rename_i hz
      simp only [RepV] at ra rb
      exact op_fdiv pins s σ H x y v u Q I rx ry ⟨_, _, ra, rb, hz, h.ok k (by simp only [RepV])⟩
    · exact h.elim
  · exact h.elim
theorem op_modP : OpR X (binaryOp .Mod) (rB X.K mk E .mod) := by
  rintro pins s σ H x y v u Q I rx ry ⟨ρ, M, a, b, k, ra, rb, h⟩
  change Post X.K mk (RepV X.K) E ρ H Q (PL.modV M a b) at h
  unfold PL.modV at h
  split at h
  · split at h
    · rename_i hz
      simp only [RepV] at ra rb
      exact op_mod pins s σ H x y v u Q I rx ry ⟨_, _, ra, rb, hz, h.ok k (by simp only [RepV])⟩
    · exact h.elim
  · exact h.elim
theorem op_powP : OpR X (binaryOp .Pow) (rB X.K mk E .pow) := by
  rintro pins s σ H x y v u Q I rx ry ⟨ρ, M, a, b, k, ra, rb, h⟩
  change Post X.K mk (RepV X.K) E ρ H Q (PL.powV M a b) at h
  unfold PL.powV at h
  split at h
  · split at h
    · rename_i hz
      simp only [RepV] at ra rb
      exact op_pow pins s σ H x y v u Q I rx ry ⟨_, _, ra, rb, ⟨hz.1, by omega, hz.2.2⟩, h.ok k (by simp only [RepV])⟩
    · exact h.elim
  · exact h.elim
theorem rept_length {α : Type} (k : Nat) (xs : List α) : (PL.rept k xs).length = k * xs.length := by
  unfold PL.rept
  rw [PyProof.Rows.lm_len_rep_flat]
theorem mul_tupF {pins : List (Addr × Obj)} {σ : L2.St} {H : Hp} {s : Shared} {a : Addr} {j : Int} {t : Tok} {us : List V} {Q : VK} (I : Inv X pins σ H s) (ha : SqT X.K H a us) (hne : us ≠ []) (h2 : 2 ≤ j) (hj : j ≤ 1000) (hz : us.length ≤ 1000)
    (q : ∀ p o, H p = none → TupO o → Q (.ref p) (upd H p (.frz o (.tup (List.replicate j.toNat us).flatten)))) :
    wpAny (model X.prog X.w) X.A (binaryOp .Mult (.ref a) (.int j t)) (EP X pins σ Q) X.xe s := by
  obtain ⟨its, r, ⟨ob, ho, hc, n, hd⟩, _⟩ := I.tuple ha
  obtain ⟨cls, dd, data, sl⟩ := ob
  simp only at hc hd
  subst hc hd
  have hlen : its.length = us.length := r.length.symm
  have hnil : its ≠ [] := fun e => hne (List.eq_nil_of_length_eq_zero (by rw [← hlen, e]; rfl))
  have hemp : its.toArray.isEmpty = false := by
    cases its with
    | nil => exact absurd rfl hnil
    | cons _ _ => rfl
  have hsz : its.toArray.size = us.length := by rw [List.size_toArray, hlen]
  have hmul : ((its.toArray.size : Nat) : Int) * j ≤ 1000000 := by
    rw [hsz]
    have : ((us.length : Nat) : Int) * j ≤ 1000 * j := Int.mul_le_mul_of_nonneg_right (by omega) (by omega)
    omega
  have hprod : j.toNat * us.length ≤ 1000 * 1000 := Nat.mul_le_mul (by omega) hz
  have big1 : (decide (j < -(2 ^ 63)) || decide (j ≥ 2 ^ 63)) = false := by
    rw [decide_eq_false (show ¬ j < -(2 ^ 63) by omega), decide_eq_false (show ¬ j ≥ 2 ^ 63 by omega)]; rfl
  have one : (its.toArray.isEmpty || j == 1) = false := by
    rw [hemp, Bool.false_or]; exact beq_eq_false_iff_ne.mpr (by omega)
  have pos : (decide (j ≤ 0) || its.toArray.isEmpty) = false := by
    rw [hemp, Bool.or_false]; exact decide_eq_false (by omega)
  have many : Builtin.Tuple.tupleTooMany (((its.toArray.size : Nat) : Int) * j) = false := by
    unfold Builtin.Tuple.tupleTooMany; rw [sizeLine_eq]; exact decide_eq_false (by omega)
  have flat : (List.replicate j.toNat its).flatten.length ≤ sizeLine := by
    rw [PyProof.Rows.lm_len_rep_flat, hlen, sizeLine_eq]; omega
  refine wpAny_binaryOp_repeat_ref (T := "tuple") (U := "int") (by decide) ⟨_, ho, rfl⟩ (fun s' => typeIs_int s' j t) noFill_tuple_mul F.fills_int_mul F.slot_int_rmul repeat_tuple F.slot_int_index.lookup ?_
  refine call_meets F.slot_int_rmul (typeIs_int s j t) F.entry_int_rmul (F.args_int_rmul_2 _ _) (int_rmul_tuple j t a its.toArray n dd sl) ⟨ho, rfl, ⟨_, ho, rfl⟩, ?_⟩
  refine call_meets F.slot_tuple_mul ⟨_, ho, rfl⟩ F.entry_tuple_mul (F.args_tuple_mul_2 _ _) (tuple_mulW a its.toArray n dd sl j t big1 one pos (by omega) many (by rw [size_rep, List.size_toArray]; exact flat)) ⟨ho, ?_⟩
  rw [size_rep]
  exact ⟨.ref s.heap.objs.size, _, Inv.tnew (t' := s.toks) I (rep_flat j.toNat its us r) (by rw [PyProof.Rows.lm_len_rep_flat, sizeLine_eq]; omega), rfl, q _ _ I.fresh (tupO_new _)⟩
theorem op_mulP : OpR X (binaryOp .Mult) (rB X.K mk E .mul) := by
  rintro pins s σ H x y v u Q I rx ry ⟨ρ, M, a, b, k, ra, rb, h⟩
  change Post X.K mk (RepV X.K) E ρ H Q (PL.mulV M a b) at h
  unfold PL.mulV at h
  split at h
  · rename_i j
    split at h
    · split at h
      · rename_i hz
        simp only [RepV] at ra rb
        rcases mulOk_wide hz with c | c
        · exact op_mul pins s σ H x y v u Q I rx ry ⟨_, _, ra, rb, c, h.ok k (by simp only [RepV])⟩
        · exact op_mulW pins s σ H x y v u Q I rx ry ⟨_, _, ra, rb, c, h.ok k (by simp only [RepV])⟩
      · exact h.elim
    · split at h
      · rename_i hz
        obtain ⟨p, us, rfl, h1, r1⟩ := ra.toTup
        simp only [RepV] at rb
        subst rb
        cases rx
        obtain ⟨t, rfl⟩ := ry
        have hl := r1.length
        refine mul_tupF I h1 (fun e => hz.2.2.2 (List.eq_nil_of_length_eq_zero (by rw [hl, e]; rfl))) hz.1 hz.2.1 (by omega) fun z o n to => post_tup h k (r1.rept j.toNat) z o n to
      · exact h.elim
    · split at h
      · rename_i e
        split at h
        · rename_i hz
          obtain ⟨p, us, rfl, h1, r1⟩ := llst_rep k.rep ra e
          simp only [RepV] at rb
          subst rb
          have hl := r1.length
          refine op_rep pins s σ H _ _ v u Q I rx ry ⟨p, j, us, rfl, rfl, h1, by omega, by omega, ?_, fun z n => post_alloc h k ⟨_, rfl, r1.rept j.toNat⟩ z n⟩
          have a1 : us.length * j.toNat ≤ 1000 * 10000 := Nat.mul_le_mul (by omega) (by omega)
          rw [sizeLine_eq]; omega
        · exact h.elim
      · exact h.elim
  · exact h.elim
theorem op_bin (o : PL.Op) : OpR X (binaryOp (opOf o)) (rB X.K mk E o) := by
  cases o with
  | add => exact op_addP
  | sub => exact op_subP
  | mul => exact op_mulP
  | fdiv => exact op_fdivP
  | mod => exact op_modP
  | pow => exact op_powP
end

/-! ### comparisons -/
def opC : PL.Cm → CmpOp
  | .eq => .Eq
  | .ne => .NotEq
  | .lt => .Lt
  | .le => .LtE
  | .gt => .Gt
  | .ge => .GtE
  | .isin => .In
  | .notin => .NotIn
section
variable {X : Cx} {mk : Mk} {E : EXC}
def rC (K : PySem.W.Frag) (o : PL.Cm) : R2 := fun x y H Q => ∃ ρ M v w b, RepM K ρ H M ∧ RepV K ρ H v x ∧ RepV K ρ H w y ∧ PL.cmpop M o v w = some b ∧ Q (.bl b) H
theorem rep_rep {K : PySem.W.Frag} {ρ : List Addr} {H : Hp} {a : PV} {x y : V} (h1 : RepV K ρ H (.rep a) x) (h2 : RepV K ρ H (.rep a) y) : x = y ∧ scal x y = true := by
  simp only [RepV] at h1 h2
  obtain ⟨d, e1, rfl⟩ := h1
  obtain ⟨d', e2, rfl⟩ := h2
  rw [e1] at e2
  obtain rfl := Option.some.inj e2
  exact ⟨rfl, by simp [scal]⟩
theorem eqM_eq (hu : X.A.units + 200 < cLine) : OpR X (compareOp .Eq) (rC X.K .eq) := by
  rintro pins s σ H x y v u Q I rx ry ⟨ρ, M, a, b, c, k, ra, rb, h, q⟩
  change PL.eqM M a b = some c at h
  unfold PL.eqM at h
  split at h
  · split at h
    · rename_i e
      subst e
      obtain rfl := Option.some.inj h
      obtain ⟨e, hs⟩ := rep_rep ra rb
      exact op_eq pins s σ H x y v u Q I rx ry ⟨hs, by rw [decide_eq_true e]; exact q⟩
    · cases h
  · obtain ⟨d1, d2, p1, p2, s1, s2, e⟩ := eqD_rep k ra rb h
    exact op_eqD (by omega) pins s σ H x y v u Q I rx ry ⟨d1, d2, p1, p2, s1, s2, by rw [e]; exact q⟩
theorem eqM_ne (hu : X.A.units + 200 < cLine) : OpR X (compareOp .NotEq) (rC X.K .ne) := by
  rintro pins s σ H x y v u Q I rx ry ⟨ρ, M, a, b, c, k, ra, rb, h, q⟩
  simp only [PL.cmpop, Option.map_eq_some_iff] at h
  obtain ⟨c', h, rfl⟩ := h
  unfold PL.eqM at h
  split at h
  · split at h
    · rename_i e
      subst e
      obtain rfl := Option.some.inj h
      obtain ⟨e, hs⟩ := rep_rep ra rb
      exact op_ne pins s σ H x y v u Q I rx ry ⟨hs, by rw [decide_eq_true e]; exact q⟩
    · cases h
  · obtain ⟨d1, d2, p1, p2, s1, s2, e⟩ := eqD_rep k ra rb h
    exact op_neD (by omega) pins s σ H x y v u Q I rx ry ⟨d1, d2, p1, p2, s1, s2, by rw [e]; exact q⟩
theorem inM_all {M : PL.Mem} {x : PV} : ∀ {ys : List PV} {b : Bool}, PL.inM M x ys = some b → (∀ y ∈ ys, (PL.eqD M y x).isSome = true) ∧ b = ys.any fun y => PL.eqD M y x == some true
  | [], b, h => by simp only [PL.inM, Option.some.injEq] at h; subst h; simp
  | y :: ys, b, h => by
    simp only [PL.inM, Option.bind_eq_some_iff, Option.map_eq_some_iff] at h
    obtain ⟨c, h1, d, h2, rfl⟩ := h
    obtain ⟨i1, i2⟩ := inM_all h2
    refine ⟨fun z hz => ?_, ?_⟩
    · rcases List.mem_cons.mp hz with rfl | hz
      · rw [h1]; rfl
      · exact i1 z hz
    · rw [List.any_cons, h1, i2]
      cases c <;> simp
theorem any_by {M : PL.Mem} {x : PV} {e : Value → Bool} : ∀ {ys : List PV} {vs : List Value}, ys.length = vs.length → (∀ (i : Nat) (y : PV) (v : Value), ys[i]? = some y → vs[i]? = some v → PL.eqD M y x = some (e v)) →
    vs.any e = ys.any fun y => PL.eqD M y x == some true
  | [], [], _, _ => rfl
  | y :: ys, v :: vs, hl, h => by
    rw [List.any_cons, List.any_cons, h 0 y v rfl rfl, any_by (ys := ys) (vs := vs) (by simpa using hl) fun i y' v' h1 h2 => h (i + 1) y' v' (by simpa using h1) (by simpa using h2)]
    cases e v <;> simp
/-- the key of a value -/
theorem key_rep {K : PySem.W.Frag} {ρ : List Addr} {H : Hp} {x : PV} {u : V} (r : RepV K ρ H x u) (h : PL.key1 x = true) : ∃ k, keyK x = some k ∧ u = kV k := by
  cases x with
  | int i => simp only [RepV] at r; exact ⟨_, rfl, r⟩
  | str s => simp only [RepV] at r; exact ⟨_, rfl, r⟩
  | _ => simp [PL.key1] at h
theorem keyK_inj {x y : PV} {k : L2.Key} (h1 : keyK x = some k) (h2 : keyK y = some k) : x = y := by
  cases x <;> cases y <;> simp [keyK] at h1 h2 <;> subst h1 <;> simp at h2
  · rw [h2]
  · rw [toStr_inj h2]
theorem dget_rep {K : PySem.W.Frag} {ρ : List Addr} {H : Hp} : ∀ {ks vs : List PV} {kvs : List (L2.Key × V)} {x : PV} {k : L2.Key}, ks.map keyK = kvs.map (fun kv => some kv.1) → RepVs K ρ H vs (kvs.map (·.2)) → keyK x = some k →
    (PL.dgetV ks vs x = none ∧ valV kvs k = none) ∨ ∃ v u, PL.dgetV ks vs x = some v ∧ valV kvs k = some u ∧ RepV K ρ H v u
  | [], vs, kvs, x, k, h1, h2, h3 => by
    have : kvs = [] := by cases kvs with | nil => rfl | cons a b => simp at h1
    subst this
    exact .inl ⟨by cases vs <;> simp [PL.dgetV], rfl⟩
  | k0 :: ks, vs, kvs, x, k, h1, h2, h3 => by
    cases kvs with
    | nil => simp at h1
    | cons p kvs =>
      simp only [List.map_cons, List.cons.injEq] at h1
      cases vs with
      | nil => have := h2.inv0; simp at this
      | cons v vs =>
        obtain ⟨u, r, e, h4, h5⟩ := h2.inv
        simp only [List.map_cons, List.cons.injEq] at e
        obtain ⟨rfl, rfl⟩ := e
        by_cases hk : k0 = x
        · subst hk
          have e1 : p.1 = k := Option.some.inj (h1.1.symm.trans h3)
          exact .inr ⟨v, p.2, by simp [PL.dgetV], valV_pos e1, h4⟩
        · have e1 : ¬ p.1 = k := fun z => hk (keyK_inj (h1.1.trans (by rw [z])) h3)
          have e2 : PL.dgetV (k0 :: ks) (v :: vs) x = PL.dgetV ks vs x := by simp only [PL.dgetV]; rw [if_neg hk]
          rw [e2, valV_neg e1]
          exact dget_rep h1.2 h5 h3
theorem in_data (hu : X.A.units + 200 < cLine) {pins : List (Addr × Obj)} {s : Shared} {σ : L2.St} {H : Hp} {M : PL.Mem} {ρ : List Addr} {a : PV} {x : V} {v : Value} {ys : List PV} {us : List V} {p : Addr} {b : Bool} (I : Inv X pins σ H s) (k : RepM X.K ρ H M)
    (ra : RepV X.K ρ H a x) (rx : RelV x v) (hs : SqL X.K H p us ∨ SqT X.K H p us) (rs : RepVs X.K ρ H ys us) (h : PL.inM M a ys = some b) :
    (∀ Q : Value → Shared → Prop, Q (.bool b) s → wpAny (model X.prog X.w) X.A (compareOp .In v (.ref p)) Q X.xe s) ∧ (∀ Q : Value → Shared → Prop, Q (.bool (!b)) s → wpAny (model X.prog X.w) X.A (compareOp .NotIn v (.ref p)) Q X.xe s) := by
  obtain ⟨h1, h2⟩ := inM_all h
  rcases hs with hs | hs
  · obtain ⟨its, r, pl, _⟩ := I.list hs
    obtain ⟨e, he, hi⟩ := eqD_at (b := b) I k hu ra rx rs r h1
    have hb : its.toArray.any e = b := by
      rw [show its.toArray.any e = its.any e by simp, h2]
      exact any_by (by rw [rs.length, r.length]) hi
    exact ⟨fun Q q => SeqAt.in_listAt e pl.isList (fun w hw => he w (by simpa using hw)) (by rw [hb]; exact q), fun Q q => SeqAt.notIn_listAt e pl.isList (fun w hw => he w (by simpa using hw)) (by rw [hb]; exact q)⟩
  · obtain ⟨its, r, pl, _⟩ := I.tuple hs
    obtain ⟨e, he, hi⟩ := eqD_at (b := b) I k hu ra rx rs r h1
    have hb : its.toArray.any e = b := by
      rw [show its.toArray.any e = its.any e by simp, h2]
      exact any_by (by rw [rs.length, r.length]) hi
    exact ⟨fun Q q => SeqAt.in_tupleAt e pl (fun w hw => he w (by simpa using hw)) (by rw [hb]; exact q), fun Q q => SeqAt.notIn_tupleAt e pl (fun w hw => he w (by simpa using hw)) (by rw [hb]; exact q)⟩
theorem dget_of {H : Hp} {a : Addr} {kvs : List (L2.Key × V)} {k : L2.Key} (h : Rd H a (.dK kvs)) : DGet H a (kV k) (valV kvs k) := .inl ⟨kvs, k, h, rfl, rfl⟩
theorem inOp_rep (hu : X.A.units + 200 < cLine) {pins : List (Addr × Obj)} {s : Shared} {σ : L2.St} {H : Hp} {M : PL.Mem} {ρ : List Addr} {a c : PV} {x y : V} {v u : Value} {b : Bool} (I : Inv X pins σ H s) (k : RepM X.K ρ H M)
    (ra : RepV X.K ρ H a x) (rc : RepV X.K ρ H c y) (rx : RelV x v) (ry : RelV y u) (h : PL.inOp M a c = some b) :
    (∀ Q : Value → Shared → Prop, (∀ s', Inv X pins σ H s' → Q (.bool b) s') → wpAny (model X.prog X.w) X.A (compareOp .In v u) Q X.xe s) ∧ (∀ Q : Value → Shared → Prop, (∀ s', Inv X pins σ H s' → Q (.bool (!b)) s') → wpAny (model X.prog X.w) X.A (compareOp .NotIn v u) Q X.xe s) := by
  unfold PL.inOp at h
  split at h
  · cases h
  · split at h
    · rename_i ys e
      obtain ⟨p, us, rfl, hs, rs⟩ := items_rep k rc e
      cases ry
      obtain ⟨h1, h2⟩ := in_data hu I k ra rx hs rs h
      exact ⟨fun Q q => h1 Q (q s I), fun Q q => h2 Q (q s I)⟩
    · split at h
      · rename_i p e
        split at h
        · rename_i hk
          obtain ⟨d, kvs, rfl, hd, hks, hvs⟩ := dkeys_rep k rc (ks := p.1) (vs := p.2) e
          cases ry
          obtain ⟨key, e1, rfl⟩ := key_rep ra hk
          obtain rfl := Option.some.inj h
          have hi : (PL.dgetV p.1 p.2 a).isSome = (valV kvs key).isSome := by
            rcases dget_rep hks hvs e1 with ⟨e2, e3⟩ | ⟨v, u, e2, e3, _⟩
            · rw [e2, e3]; rfl
            · rw [e2, e3]; rfl
          refine ⟨fun Q q => d_in (by omega) I (dget_of hd) rx fun s' I' => ?_, fun Q q => d_notIn (by omega) I (dget_of hd) rx fun s' I' => ?_⟩
          · rw [← hi]; exact q s' I'
          · rw [← hi]; exact q s' I'
        · cases h
      · cases h
theorem inM_in (hu : X.A.units + 200 < cLine) : OpR X (compareOp .In) (rC X.K .isin) := by
  rintro pins s σ H x y v u Q I rx ry ⟨ρ, M, a, b, c, k, ra, rb, h, q⟩
  exact (inOp_rep hu I k ra rb rx ry h).1 _ fun s' I' => ⟨.bl c, H, I', rfl, q⟩
theorem inM_notin (hu : X.A.units + 200 < cLine) : OpR X (compareOp .NotIn) (rC X.K .notin) := by
  rintro pins s σ H x y v u Q I rx ry ⟨ρ, M, a, b, c, k, ra, rb, h, q⟩
  simp only [PL.cmpop, Option.map_eq_some_iff] at h
  obtain ⟨c', h, rfl⟩ := h
  exact (inOp_rep hu I k ra rb rx ry h).2 _ fun s' I' => ⟨.bl (!c'), H, I', rfl, q⟩
theorem lexAt_shift {e r : Nat → Bool} {z : Bool} : ∀ (m i : Nat), Ob.lexAt e r z (i + 1) m = Ob.lexAt (fun j => e (j + 1)) (fun j => r (j + 1)) z i m
  | 0, i => rfl
  | m + 1, i => by
    rw [Ob.lexAt_succ, Ob.lexAt_succ, lexAt_shift m (i + 1)]
theorem lexLe_at : ∀ (ns ms : List Int), Ob.lexAt (fun j => decide (ns.getD j 0 = ms.getD j 0)) (fun j => decide (ns.getD j 0 ≤ ms.getD j 0)) (decide (ns.length ≤ ms.length)) 0 (min ns.length ms.length) = PL.lexLe ns ms
  | [], ms => by simp [Ob.lexAt_zero, PL.lexLe]
  | n :: ns, [] => by simp [Ob.lexAt_zero, PL.lexLe]
  | n :: ns, m :: ms => by
    rw [List.length_cons, List.length_cons, show min (ns.length + 1) (ms.length + 1) = min ns.length ms.length + 1 by omega, Ob.lexAt_succ, lexAt_shift]
    have ih := lexLe_at ns ms
    simp only [List.getD_cons_succ, List.getD_cons_zero, Nat.add_le_add_iff_right, decide_eq_true_eq, PL.lexLe]
    rw [ih]
    by_cases h : n = m
    · rw [if_pos h, if_pos h]
    · rw [if_neg h, if_neg h]
      have : (n ≤ m) ↔ (n < m) := by omega
      simp [this]
theorem lexLt_at : ∀ (ns ms : List Int), HT.lexLt ns ms = PL.lexLt ns ms
  | [], [] => rfl
  | [], _ :: _ => rfl
  | _ :: _, [] => rfl
  | n :: ns, m :: ms => by
    show (if n = m then HT.lexLt ns ms else decide (n < m)) = PL.lexLt (n :: ns) (m :: ms)
    rw [lexLt_at ns ms]; rfl
theorem leV_le (hu : X.A.units + 200 < cLine) : OpR X (compareOp .LtE) (rC X.K .le) := by
  rintro pins s σ H x y v u Q I rx ry ⟨ρ, M, a, b, c, k, ra, rb, h, q⟩
  change PL.leV a b = some c at h
  unfold PL.leV at h
  split at h
  · obtain rfl := Option.some.inj h
    simp only [RepV] at ra rb
    exact op_le pins s σ H x y v u Q I rx ry ⟨_, _, ra, rb, q⟩
  · split at h
    · rename_i e1 e2
      obtain rfl := Option.some.inj h
      obtain ⟨p, us, rfl, h1, r1⟩ := ra.toTup
      obtain ⟨p', us', rfl, h2, r2⟩ := rb.toTup
      rw [r1.ints e1] at h1
      rw [r2.ints e2] at h2
      exact op_leT (by omega) pins s σ H _ _ v u Q I rx ry ⟨p, p', _, _, rfl, rfl, h1, h2, by rw [lexLe_at]; exact q⟩
    · cases h
  · cases h
theorem ltV_lt (hu : X.A.units + 200 < cLine) : OpR X (compareOp .Lt) (rC X.K .lt) := by
  rintro pins s σ H x y v u Q I rx ry ⟨ρ, M, a, b, c, k, ra, rb, h, q⟩
  change PL.ltV a b = some c at h
  unfold PL.ltV at h
  split at h
  · obtain rfl := Option.some.inj h
    simp only [RepV] at ra rb
    exact op_lt pins s σ H x y v u Q I rx ry ⟨_, _, ra, rb, q⟩
  · split at h
    · rename_i e1 e2
      obtain rfl := Option.some.inj h
      obtain ⟨p, us, rfl, h1, r1⟩ := ra.toTup
      obtain ⟨p', us', rfl, h2, r2⟩ := rb.toTup
      rw [r1.ints e1] at h1
      rw [r2.ints e2] at h2
      exact op_ltT (by omega) pins s σ H _ _ v u Q I rx ry ⟨p, p', _, _, rfl, rfl, h1, h2, by rw [lexLt_at]; exact q⟩
    · cases h
  · cases h
theorem gtV_gt : OpR X (compareOp .Gt) (rC X.K .gt) := by
  rintro pins s σ H x y v u Q I rx ry ⟨ρ, M, a, b, c, k, ra, rb, h, q⟩
  change PL.intC (fun i j => decide (j < i)) a b = some c at h
  unfold PL.intC at h
  split at h
  · obtain rfl := Option.some.inj h
    simp only [RepV] at ra rb
    exact op_gt pins s σ H x y v u Q I rx ry ⟨_, _, ra, rb, q⟩
  · cases h
theorem geV_ge : OpR X (compareOp .GtE) (rC X.K .ge) := by
  rintro pins s σ H x y v u Q I rx ry ⟨ρ, M, a, b, c, k, ra, rb, h, q⟩
  change PL.intC (fun i j => decide (j ≤ i)) a b = some c at h
  unfold PL.intC at h
  split at h
  · obtain rfl := Option.some.inj h
    simp only [RepV] at ra rb
    exact op_ge pins s σ H x y v u Q I rx ry ⟨_, _, ra, rb, q⟩
  · cases h
theorem op_cmp (hu : X.A.units + 200 < cLine) (o : PL.Cm) : OpR X (compareOp (opC o)) (rC X.K o) := by
  cases o with
  | eq => exact eqM_eq hu
  | ne => exact eqM_ne hu
  | lt => exact ltV_lt hu
  | le => exact leV_le hu
  | gt => exact gtV_gt
  | ge => exact geV_ge
  | isin => exact inM_in hu
  | notin => exact inM_notin hu
end

/-! ### subscripts -/
section
variable {X : Cx} {mk : Mk} {E : EXC}
theorem nIx_eq (n : Nat) (i : Int) : PL.nIx n i = ixN n i := rfl
theorem atI_of {α : Type} (xs : List α) (i : Int) : atI xs i = (PL.nIx xs.length i).bind fun j => xs[j]? := rfl
theorem sIx_eq (n d : Nat) (o : Option Int) : PL.sIx n d o = HT.sIx n d o := by cases o <;> rfl
theorem cut_eq {xs : List V} (lo hi : Option Int) : PL.cut xs lo hi = cutV xs lo hi := by
  unfold PL.cut cutV; rw [sIx_eq, sIx_eq]
theorem RepVs.cut {K : PySem.W.Frag} {ρ : List Addr} {H : Hp} {xs : List PV} {us : List V} (r : RepVs K ρ H xs us) (lo hi : Option Int) : RepVs K ρ H (PL.cut xs lo hi) (cutV us lo hi) := by
  rw [← cut_eq]
  unfold PL.cut
  rw [r.length]
  exact (r.drop _).take _
def rI_ (K : PySem.W.Frag) : R2 := fun x y H Q => ∃ ρ M v w z, RepM K ρ H M ∧ RepV K ρ H v x ∧ RepV K ρ H w y ∧ PL.index M v w = some z ∧ ∀ u, RepV K ρ H z u → Q u H
theorem ix_dict (hu : X.A.units + 200 < cLine) : IxR X (fun x y H Q => ∃ a v, x = .ref a ∧ DGet H a y (some v) ∧ Q v H) := by
  intro value slice pins s σ H x y v u Q I rx ry h hs
  obtain ⟨a, w, rfl, g, q⟩ := h
  cases rx
  have ht := dict_typeIs I g
  exact tail_any ht F.slot_dict_getitem.lookup (d_getItem (by omega) I g ry fun w' s' I' r' => ⟨w, H, I', r', q⟩) hs
theorem op_index (hu : X.A.units + 200 < cLine) : IxR X (rI_ X.K) := by
  rintro value slice pins s σ H x y v u Q I rx ry ⟨ρ, M, a, b, z, k, ra, rb, h, q⟩ hs
  unfold PL.index at h
  split at h
  · rename_i ks vs e
    split at h
    · rename_i hk
      obtain ⟨d, kvs, rfl, hd, hks, hvs⟩ := dkeys_rep k ra e
      obtain ⟨key, e1, rfl⟩ := key_rep rb hk
      rcases dget_rep hks hvs e1 with ⟨e2, _⟩ | ⟨w, uw, e2, e3, rw'⟩
      · rw [e2] at h; cases h
      · rw [e2] at h
        obtain rfl := Option.some.inj h
        exact ix_dict hu value slice pins s σ H _ _ v u Q I rx ry ⟨d, uw, rfl, by rw [← e3]; exact dget_of hd, q uw rw'⟩ hs
    · cases h
  · split at h
    · rename_i i
      simp only [RepV] at rb
      subst rb
      split at h
      · rename_i xs e
        obtain ⟨p, us, rfl, hq, rs⟩ := items_rep k ra e
        obtain ⟨j, hj, hz⟩ := Option.bind_eq_some_iff.mp h
        obtain ⟨w, hw, rw'⟩ := rs.get hz
        have hat : atI us i = some w := by
          rw [atI_of, ← rs.length, hj]; exact hw
        rcases hq with hq | hq
        · exact ix_list value slice pins s σ H _ _ v u Q I rx ry ⟨p, us, i, w, rfl, rfl, hq, hat, q w rw'⟩ hs
        · exact ix_tup value slice pins s σ H _ _ v u Q I rx ry ⟨p, us, i, w, rfl, rfl, hq, hat, q w rw'⟩ hs
      · cases h
    · cases h

/-! ### slices -/
def rS (K : PySem.W.Frag) (mk : Mk) (E : EXC) : V → Option Int → Option Int → Hp → VK → Prop := fun x lo hi H Q => ∃ ρ M v, Ok K mk ρ H M ∧ RepV K ρ H v x ∧ Post K mk (RepV K) E ρ H Q (PL.slice M v lo hi)
theorem cut_whole {α : Type} {xs : List α} {lo hi : Option Int} (h1 : HT.sIx xs.length 0 lo = 0) (h2 : HT.sIx xs.length xs.length hi = xs.length) : PL.cut xs lo hi = xs := by
  unfold PL.cut
  rw [sIx_eq, sIx_eq, h1, h2, List.drop_zero, Nat.sub_zero, List.take_length]
theorem sl_rep : SlR X (rS X.K mk E) := by
  rintro pins s σ H x v vl vu lo hi sl Q I rx hs pl pu ⟨ρ, M, a, k, ra, h⟩
  unfold PL.slice at h
  split at h
  · rename_i xs
    have ra0 := ra
    obtain ⟨p, us, rfl, hq, rs⟩ := ra.toTup
    cases rx
    obtain ⟨its, r, ht, hz⟩ := I.tuple hq
    have hlen : its.toArray.size = us.length := by rw [List.size_toArray]; exact r.length.symm
    refine ⟨"tuple", _, PyProof.Rows.slot_tuple_getitem.lookup, ht.typeIs, ?_⟩
    by_cases hw : HT.sIx us.length 0 lo = 0 ∧ HT.sIx us.length us.length hi = us.length
    · refine getItem_tuple_whole ht hs pl pu (by rw [hlen]; exact hw) ⟨.ref p, H, I, rfl, ?_⟩
      refine h.ok k ?_
      rw [cut_whole (by rw [rs.length]; exact hw.1) (by rw [rs.length]; exact hw.2)]
      exact ra0
    · refine HT.getItem_tuple_cut ht hs pl pu (by rw [hlen]; exact hw) ?_ (by rw [hlen]; exact hz)
      rw [hlen]
      exact ⟨.ref s.heap.objs.size, _, Inv.tnew (t' := s.toks) (us := cutV us lo hi) I ((r.drop _).take _) (Nat.le_trans (cutV_length us lo hi) hz), rfl, post_tup h k (rs.cut lo hi) _ _ I.fresh (tupO_new _)⟩
  · exact h.elim
  · split at h
    · rename_i e
      obtain ⟨p, us, rfl, hq, rs⟩ := litems_rep k.rep ra e
      exact sl_list pins s σ H _ v vl vu lo hi sl Q I rx hs pl pu ⟨p, us, rfl, hq, fun z n => post_alloc h k ⟨_, rfl, rs.cut lo hi⟩ z n⟩
    · exact h.elim
end
end PLS

/-! PLS6: what is built in. -/
namespace PLS
open PySem PySem.Spec PyProof.Rows L2
section
variable {X : Cx} {mk : Mk} {E : EXC}
def rP (K : PySem.W.Frag) (mk : Mk) (E : EXC) (p : PL.Pr) : List V → Hp → VK → Prop := fun us H Q => ∃ ρ M vs, Ok K mk ρ H M ∧ RepVs K ρ H vs us ∧ Post K mk (RepV K) E ρ H Q (PL.prim M p vs)
theorem prim_cases {K : PySem.W.Frag} {ρ : List Addr} {H : Hp} {M : PL.Mem} {p : PL.Pr} {vs : List PV} {us : List V} {Q : VK} (r : RepVs K ρ H vs us) (h : Post K mk (RepV K) E ρ H Q (PL.prim M p vs)) :
    (∃ x u, vs = [x] ∧ us = [u] ∧ RepV K ρ H x u ∧ Post K mk (RepV K) E ρ H Q (PL.prim1 M p x)) ∨ ∃ x y u w, vs = [x, y] ∧ us = [u, w] ∧ RepV K ρ H x u ∧ RepV K ρ H y w ∧ Post K mk (RepV K) E ρ H Q (PL.prim2 M p x y) := by
  unfold PL.prim at h
  split at h
  · obtain ⟨u, t, rfl, r1, r2⟩ := r.inv
    rw [r2.inv0]
    exact .inl ⟨_, u, rfl, rfl, r1, h⟩
  · obtain ⟨u, t, rfl, r1, r2⟩ := r.inv
    obtain ⟨w, t', rfl, r3, r4⟩ := r2.inv
    rw [r4.inv0]
    exact .inr ⟨_, _, u, w, rfl, rfl, r1, r3, h⟩
  · exact h.elim
theorem pr_len : CallR X (.builtin "len") (rP X.K mk E .len) := by
  rintro pins s σ H xs us Q I r ⟨ρ, M, vs, k, rs, h⟩
  rcases prim_cases rs h with ⟨x, u, rfl, rfl, rx, h⟩ | ⟨x, y, u, w, rfl, rfl, _, _, h⟩
  · change Post X.K mk (RepV X.K) E ρ H Q (PL.pLen M x) at h
    unfold PL.pLen at h
    split at h
    · rename_i ys e
      obtain ⟨p, ws, rfl, hq, hr⟩ := items_rep k.rep rx e
      exact call_len_seq pins s σ H _ us Q I r ⟨p, ws, rfl, hq, h.ok k (by simp only [RepV]; rw [hr.length])⟩
    · split at h
      · rename_i p e
        obtain ⟨d, kvs, rfl, hd, hks, hvs⟩ := dkeys_rep k.rep rx (ks := p.1) (vs := p.2) e
        obtain ⟨v, rfl, rv⟩ := vals1 r
        cases rv
        refine d_len I hd fun t s' I' => ⟨.int kvs.length, H, I', ⟨t, rfl⟩, h.ok k ?_⟩
        simp only [RepV]
        have := congrArg List.length hks
        rw [List.length_map, List.length_map] at this
        rw [this]
      · split at h
        · split at h
          · rename_i hz
            simp only [RepV] at rx
            subst rx
            exact call_len_str pins s σ H _ us Q I r ⟨_, rfl, by rw [toStr_len, ← SZ_eq]; exact hz, h.ok k (by simp only [RepV]; rw [toStr_len])⟩
          · exact h.elim
        · exact h.elim
  · exact h.elim
theorem pr_abs : CallR X (.builtin "abs") (rP X.K mk E .abs) := by
  rintro pins s σ H xs us Q I r ⟨ρ, M, vs, k, rs, h⟩
  rcases prim_cases rs h with ⟨x, u, rfl, rfl, rx, h⟩ | ⟨x, y, u, w, rfl, rfl, _, _, h⟩
  · change Post X.K mk (RepV X.K) E ρ H Q (PL.pAbs M x) at h
    unfold PL.pAbs at h
    split at h
    · simp only [RepV] at rx
      subst rx
      exact call_abs pins s σ H _ us Q I r ⟨_, rfl, h.ok k (by simp only [RepV])⟩
    · exact h.elim
  · exact h.elim
theorem pr_int : CallR X (.type "int") (rP X.K mk E .int) := by
  rintro pins s σ H xs us Q I r ⟨ρ, M, vs, k, rs, h⟩
  rcases prim_cases rs h with ⟨x, u, rfl, rfl, rx, h⟩ | ⟨x, y, u, w, rfl, rfl, _, _, h⟩
  · change Post X.K mk (RepV X.K) E ρ H Q (PL.pInt M x) at h
    unfold PL.pInt at h
    split at h
    · simp only [RepV] at rx
      subst rx
      exact call_int1 pins s σ H _ us Q I r (.inl ⟨_, rfl, h.ok k (by simp only [RepV])⟩)
    · simp only [RepV] at rx
      subst rx
      exact call_int1 pins s σ H _ us Q I r (.inr ⟨_, rfl, h.ok k (by simp only [RepV])⟩)
    · exact h.elim
  · exact h.elim
theorem pr_list (hc : X.calm = true) : CallR X (.type "list") (rP X.K mk E .list) := by
  rintro pins s σ H xs us Q I r ⟨ρ, M, vs, k, rs, h⟩
  rcases prim_cases rs h with ⟨x, u, rfl, rfl, rx, h⟩ | ⟨x, y, u, w, rfl, rfl, _, _, h⟩
  · change Post X.K mk (RepV X.K) E ρ H Q (PL.pList M x) at h
    unfold PL.pList at h
    split at h
    · rename_i ys e
      obtain ⟨p, ws, rfl, hq, hr⟩ := items_rep k.rep rx e
      exact call_list_of pins s σ H _ us Q I r ⟨p, ws, rfl, hq, fun z n => post_alloc h k ⟨_, rfl, hr⟩ z n⟩
    · split at h
      · rename_i p e
        exact h.elim
      · exact h.elim
  · exact h.elim
theorem pr_tuple : CallR X (.type "tuple") (rP X.K mk E .tuple) := by
  rintro pins s σ H xs us Q I r ⟨ρ, M, vs, k, rs, h⟩
  rcases prim_cases rs h with ⟨x, u, rfl, rfl, rx, h⟩ | ⟨x, y, u, w, rfl, rfl, _, _, h⟩
  · change Post X.K mk (RepV X.K) E ρ H Q (PL.pTuple M x) at h
    unfold PL.pTuple at h
    split at h
    · have rx0 := rx
      obtain ⟨p, ws, rfl, hq, hr⟩ := rx.toTup
      exact call_tuple_of pins s σ H _ us Q I r ⟨p, ws, rfl, .inr ⟨hq, h.ok k rx0⟩⟩
    · split at h
      · rename_i ys e
        obtain ⟨p, ws, rfl, hq, hr⟩ := litems_rep k.rep rx e
        obtain ⟨v, rfl, rv⟩ := vals1 r
        cases rv
        obtain ⟨its, r', pl, hz⟩ := I.list hq
        have hlen := r'.length
        refine call_tuple_list pl.isList (fun h' kp => ?_) (by simp only [List.size_toArray] <;> omega)
        have I1 : Inv X pins σ H { s with heap := h' } := I.kept (t' := s.toks) kp
        exact ⟨.ref h'.objs.size, _, Inv.tnew (t' := s.toks) I1 r' hz, rfl, post_tup h k hr _ _ I1.fresh (tupO_new _)⟩
      · exact h.elim
  · exact h.elim
theorem reads_ints {h : Heap} : ∀ {its : List Value} {is : List Int}, IntsAre its is → ReadsAll h its (is.map PyData.int) []
  | _, _, .nil => .nil
  | _, _, .cons n t r => by
    have := ReadsAll.cons (Reads.int n t) (reads_ints (h := h) r)
    simpa using this
theorem alike_ints (is : List Int) : PySem.W.AlikeAll (is.map PyData.int) := by
  refine ⟨fun x hx y hy => ?_, fun x hx => ?_⟩
  · obtain ⟨i, _, e1⟩ := List.mem_map.mp hx
    obtain ⟨j, _, e2⟩ := List.mem_map.mp hy
    rw [← e1, ← e2]
    rfl
  · obtain ⟨i, _, e1⟩ := List.mem_map.mp hx
    rw [← e1]
    intro z; cases z
theorem depth_ints : ∀ is : List Int, PyData.depthAll (is.map PyData.int) = 0
  | [] => by simp [PyData.depthAll]
  | i :: is => by simp [PyData.depthAll, PyData.depth, depth_ints is]
theorem ints_vals {us : List V} {its : List Value} {is : List Int} (r : Vals us its) (e : us = is.map V.int) : IntsAre its is := by
  subst e; exact Vals.ints r
theorem reads_int {h : Heap} {v : Value} {m : Int} {bs : List Addr} (r : Reads h v (.int m) bs) : ∃ t, v = .int m t := by
  cases r; exact ⟨_, rfl⟩
theorem pr_max (hu : X.A.units + 200 < cLine) (hc : X.calm = true) : CallR X (.builtin "max") (rP X.K mk E .max) := by
  rintro pins s σ H xs us Q I r ⟨ρ, M, vs, k, rs, h⟩
  rcases prim_cases rs h with ⟨x, u, rfl, rfl, rx, h⟩ | ⟨x, y, u, w, rfl, rfl, rx, ry, h⟩
  · change Post X.K mk (RepV X.K) E ρ H Q (PL.pInts _ M x) at h
    unfold PL.pInts at h
    split at h
    · rename_i i js e
      obtain ⟨ys, e1, e2⟩ := Option.bind_eq_some_iff.mp e
      obtain ⟨p, ws, rfl, hq, hr⟩ := items_rep k.rep rx e1
      have ew := hr.ints e2
      obtain ⟨v, rfl, rv⟩ := vals1 r
      cases rv
      have hd := depth_ints (i :: js)
      rcases hq with hq | hq
      · obtain ⟨its, r', pl, hz⟩ := I.list hq
        have hi := ints_vals r' ew
        refine PySem.W.max_list_data (I.ok.hd hc) pl.isList (x := .int i) (xs := js.map .int) (show ReadsAll s.heap its ((i :: js).map PyData.int) [] from reads_ints hi) (alike_ints (i :: js)) (by rw [show (PyData.int i :: js.map PyData.int) = (i :: js).map PyData.int from rfl, hd]; omega) fun _ v h' tk bs _ rd kp => ?_
        rw [PySem.W.maxD_ints] at rd
        obtain ⟨t, rfl⟩ := reads_int rd
        exact ⟨.int _, H, I.kept kp, ⟨t, rfl⟩, h.ok k (by simp only [RepV]; rfl)⟩
      · obtain ⟨its, r', pl, hz⟩ := I.tuple hq
        have hi := ints_vals r' ew
        refine PySem.W.max_tuple_data (I.ok.hd hc) pl (x := .int i) (xs := js.map .int) (show ReadsAll s.heap its ((i :: js).map PyData.int) [] from reads_ints hi) (alike_ints (i :: js)) (by rw [show (PyData.int i :: js.map PyData.int) = (i :: js).map PyData.int from rfl, hd]; omega) fun _ v h' tk bs _ rd kp => ?_
        rw [PySem.W.maxD_ints] at rd
        obtain ⟨t, rfl⟩ := reads_int rd
        exact ⟨.int _, H, I.kept kp, ⟨t, rfl⟩, h.ok k (by simp only [RepV]; rfl)⟩
    · exact h.elim
  · change Post X.K mk (RepV X.K) E ρ H Q (PL.pMax2 M x y) at h
    unfold PL.pMax2 at h
    split at h
    · simp only [RepV] at rx ry
      subst rx ry
      exact call_max2 hc pins s σ H _ us Q I r ⟨_, _, rfl, h.ok k (by simp only [RepV])⟩
    · exact h.elim
theorem pr_min (hu : X.A.units + 200 < cLine) (hc : X.calm = true) : CallR X (.builtin "min") (rP X.K mk E .min) := by
  rintro pins s σ H xs us Q I r ⟨ρ, M, vs, k, rs, h⟩
  rcases prim_cases rs h with ⟨x, u, rfl, rfl, rx, h⟩ | ⟨x, y, u, w, rfl, rfl, rx, ry, h⟩
  · change Post X.K mk (RepV X.K) E ρ H Q (PL.pInts _ M x) at h
    unfold PL.pInts at h
    split at h
    · rename_i i js e
      obtain ⟨ys, e1, e2⟩ := Option.bind_eq_some_iff.mp e
      obtain ⟨p, ws, rfl, hq, hr⟩ := items_rep k.rep rx e1
      have ew := hr.ints e2
      obtain ⟨v, rfl, rv⟩ := vals1 r
      cases rv
      have hd := depth_ints (i :: js)
      rcases hq with hq | hq
      · obtain ⟨its, r', pl, hz⟩ := I.list hq
        have hi := ints_vals r' ew
        refine PySem.W.min_list_data (I.ok.hd hc) pl.isList (x := .int i) (xs := js.map .int) (show ReadsAll s.heap its ((i :: js).map PyData.int) [] from reads_ints hi) (alike_ints (i :: js)) (by rw [show (PyData.int i :: js.map PyData.int) = (i :: js).map PyData.int from rfl, hd]; omega) fun _ v h' tk bs _ rd kp => ?_
        rw [PySem.W.minD_ints] at rd
        obtain ⟨t, rfl⟩ := reads_int rd
        exact ⟨.int _, H, I.kept kp, ⟨t, rfl⟩, h.ok k (by simp only [RepV]; rfl)⟩
      · obtain ⟨its, r', pl, hz⟩ := I.tuple hq
        have hi := ints_vals r' ew
        refine PySem.W.min_tuple_data (I.ok.hd hc) pl (x := .int i) (xs := js.map .int) (show ReadsAll s.heap its ((i :: js).map PyData.int) [] from reads_ints hi) (alike_ints (i :: js)) (by rw [show (PyData.int i :: js.map PyData.int) = (i :: js).map PyData.int from rfl, hd]; omega) fun _ v h' tk bs _ rd kp => ?_
        rw [PySem.W.minD_ints] at rd
        obtain ⟨t, rfl⟩ := reads_int rd
        exact ⟨.int _, H, I.kept kp, ⟨t, rfl⟩, h.ok k (by simp only [RepV]; rfl)⟩
    · exact h.elim
  · change Post X.K mk (RepV X.K) E ρ H Q (PL.pMin2 M x y) at h
    unfold PL.pMin2 at h
    split at h
    · simp only [RepV] at rx ry
      subst rx ry
      exact call_min2 hc pins s σ H _ us Q I r ⟨_, _, rfl, h.ok k (by simp only [RepV])⟩
    · exact h.elim
theorem pr_sum (hc : X.calm = true) : CallR X (.builtin "sum") (rP X.K mk E .sum) := by
  rintro pins s σ H xs us Q I r ⟨ρ, M, vs, k, rs, h⟩
  rcases prim_cases rs h with ⟨x, u, rfl, rfl, rx, h⟩ | ⟨x, y, u, w, rfl, rfl, rx, ry, h⟩
  · change Post X.K mk (RepV X.K) E ρ H Q (PL.pSum M x) at h
    unfold PL.pSum at h
    split at h
    · rename_i js e
      obtain ⟨ys, e1, e2⟩ := Option.bind_eq_some_iff.mp e
      obtain ⟨p, ws, rfl, hq, hr⟩ := litems_rep k.rep rx e1
      rw [hr.ints e2] at hq
      exact cr_sum hc pins s σ H _ us Q I r ⟨p, js, rfl, hq, h.ok k (by simp only [RepV])⟩
    · exact h.elim
  · exact h.elim
theorem pr_any (hc : X.calm = true) : CallR X (.builtin "any") (rP X.K mk E .any) := by
  rintro pins s σ H xs us Q I r ⟨ρ, M, vs, k, rs, h⟩
  rcases prim_cases rs h with ⟨x, u, rfl, rfl, rx, h⟩ | ⟨x, y, u, w, rfl, rfl, rx, ry, h⟩
  · change Post X.K mk (RepV X.K) E ρ H Q (PL.pBools _ M x) at h
    unfold PL.pBools at h
    split at h
    · rename_i js e
      obtain ⟨ys, e1, e2⟩ := Option.bind_eq_some_iff.mp e
      obtain ⟨p, ws, rfl, hq, hr⟩ := litems_rep k.rep rx e1
      rw [hr.bools e2] at hq
      exact cr_any hc pins s σ H _ us Q I r ⟨p, js, rfl, hq, h.ok k (by simp only [RepV])⟩
    · exact h.elim
  · exact h.elim
theorem pr_all (hc : X.calm = true) : CallR X (.builtin "all") (rP X.K mk E .all) := by
  rintro pins s σ H xs us Q I r ⟨ρ, M, vs, k, rs, h⟩
  rcases prim_cases rs h with ⟨x, u, rfl, rfl, rx, h⟩ | ⟨x, y, u, w, rfl, rfl, rx, ry, h⟩
  · change Post X.K mk (RepV X.K) E ρ H Q (PL.pBools _ M x) at h
    unfold PL.pBools at h
    split at h
    · rename_i js e
      obtain ⟨ys, e1, e2⟩ := Option.bind_eq_some_iff.mp e
      obtain ⟨p, ws, rfl, hq, hr⟩ := litems_rep k.rep rx e1
      rw [hr.bools e2] at hq
      exact cr_all hc pins s σ H _ us Q I r ⟨p, js, rfl, hq, h.ok k (by simp only [RepV])⟩
    · exact h.elim
  · exact h.elim

/-! ### sorted -/
theorem insI_perm (x : Int) : ∀ l : List Int, (PL.insI x l).Perm (x :: l)
  | [] => .refl _
  | y :: ys => by
    unfold PL.insI
    split
    · exact .refl _
    · exact ((insI_perm x ys).cons y).trans (.swap x y ys)
theorem sortI_perm : ∀ l : List Int, (PL.sortI l).Perm l
  | [] => .refl _
  | x :: xs => (insI_perm x _).trans ((sortI_perm xs).cons x)
theorem insI_sorted (x : Int) : ∀ {l : List Int}, l.Pairwise (· ≤ ·) → (PL.insI x l).Pairwise (· ≤ ·)
  | [], _ => by simp [PL.insI]
  | y :: ys, h => by
    rw [List.pairwise_cons] at h
    unfold PL.insI
    split
    · rename_i hxy
      refine List.pairwise_cons.mpr ⟨fun z hz => ?_, List.pairwise_cons.mpr h⟩
      rcases List.mem_cons.mp hz with rfl | hz
      · exact hxy
      · exact Int.le_trans hxy (h.1 z hz)
    · rename_i hxy
      refine List.pairwise_cons.mpr ⟨fun z hz => ?_, insI_sorted x h.2⟩
      rcases List.mem_cons.mp ((insI_perm x ys).mem_iff.mp hz) with rfl | hz
      · omega
      · exact h.1 z hz
theorem sortI_sorted : ∀ l : List Int, (PL.sortI l).Pairwise (· ≤ ·)
  | [] => .nil
  | x :: xs => insI_sorted x (sortI_sorted xs)
theorem sorted_one : ∀ {a b : List Int}, a.Perm b → a.Pairwise (· ≤ ·) → b.Pairwise (· ≤ ·) → a = b
  | [], b, p, _, _ => by rw [List.Perm.eq_nil p.symm]
  | x :: xs, b, p, h1, h2 => by
    cases b with
    | nil => exact absurd p.length_eq (by simp)
    | cons y ys =>
      rw [List.pairwise_cons] at h1 h2
      have hx : x ∈ y :: ys := p.mem_iff.mp List.mem_cons_self
      have hy : y ∈ x :: xs := p.mem_iff.mpr List.mem_cons_self
      have e : x = y := by
        rcases List.mem_cons.mp hx with e | hx
        · exact e
        · rcases List.mem_cons.mp hy with e | hy
          · exact e.symm
          · exact Int.le_antisymm (h1.1 y hy) (h2.1 x hx)
      subst e
      rw [sorted_one (p.cons_inv) h1.2 h2.2]
theorem pr_sorted : CallR X (.builtin "sorted") (rP X.K mk E .sorted) := by
  rintro pins s σ H xs us Q I r ⟨ρ, M, vs, k, rs, h⟩
  rcases prim_cases rs h with ⟨x, u, rfl, rfl, rx, h⟩ | ⟨x, y, u, w, rfl, rfl, rx, ry, h⟩
  · change Post X.K mk (RepV X.K) E ρ H Q (PL.pSorted M x) at h
    unfold PL.pSorted at h
    split at h
    · rename_i js e
      obtain ⟨ys, e1, e2⟩ := Option.bind_eq_some_iff.mp e
      obtain ⟨p, ws, rfl, hq, hr⟩ := litems_rep k.rep rx e1
      rw [hr.ints e2] at hq
      refine cr_sortedI pins s σ H _ us Q I r ⟨p, js, rfl, hq, fun ns' z p1 p2 n => ?_⟩
      have e3 : ns' = PL.sortI js := sorted_one (p1.trans (sortI_perm js).symm) p2 (sortI_sorted js)
      subst e3
      exact post_alloc h k ⟨_, rfl, repVs_ints _⟩ z n
    · exact h.elim
  · exact h.elim
theorem dedup_mem : ∀ {l : List Int} {x : Int}, x ∈ PL.dedup l ↔ x ∈ l
  | [], x => by simp [PL.dedup]
  | y :: ys, x => by
    unfold PL.dedup
    split
    · rename_i h
      rw [dedup_mem, List.mem_cons]
      constructor
      · exact .inr
      · rintro (rfl | h')
        · simpa using h
        · exact h'
    · rw [List.mem_cons, dedup_mem, List.mem_cons]
theorem dedup_nodup : ∀ l : List Int, (PL.dedup l).Nodup
  | [] => .nil
  | y :: ys => by
    unfold PL.dedup
    split
    · exact dedup_nodup ys
    · rename_i h
      exact List.nodup_cons.mpr ⟨fun z => h (by simpa using dedup_mem.mp z), dedup_nodup ys⟩
theorem perm_of_mem : ∀ {a b : List Int}, a.Nodup → b.Nodup → (∀ x, x ∈ a ↔ x ∈ b) → a.Perm b := fun h1 h2 h => (List.perm_ext_iff_of_nodup h1 h2).mpr h
/-- set(a tuple of vints) -/
def rSetT (K : PySem.W.Frag) (w : World) : List V → Hp → VK → Prop := fun xs H Q => ∃ (p : Addr) (is : List Int), xs = [.ref p] ∧ SqT K H p (is.map V.int) ∧ is.length < 64 ∧ ∀ (a : Addr) (c : Nat), H a = none → c ≤ is.length → Q (.ref a) (upd H a (SetO w a (fun j => decide (j ∈ is)) c))
theorem cr_setT (hc : X.calm = true) : CallR X (.type "set") (rSetT X.K X.w) := by
  rintro pins s σ H xs us Q I r ⟨p, is, rfl, hq, hl, q⟩
  obtain ⟨v, rfl, rv⟩ := vals1 r
  cases rv
  obtain ⟨its, r', pl, hz⟩ := I.tuple hq
  refine call_set_tupI is (I.ok.hd hc) pl (Vals.ints r') (by unfold scanBound; omega) fun h' tk c R hcn kp => ?_
  exact ⟨.ref _, _, I.laid kp (Nat.le_refl _) (setO_new R), rfl, q _ c I.fresh hcn⟩
theorem sortedSet_rep {ρ : List Addr} {H : Hp} {M : PL.Mem} {w : World} {x : PV} {u : V} {Q : VK} (k : Ok X.K mk ρ H M) (rx : RepV X.K ρ H x u) (h : Post X.K mk (RepV X.K) E ρ H Q (PL.pSortedSet M x)) :
    rSetT X.K w [u] H fun y H1 => rSortedSet w [y] H1 Q := by
  unfold PL.pSortedSet at h
  split at h
  · split at h
    · rename_i js e
      split at h
      · rename_i h64
        obtain ⟨p, ws, rfl, hq, hr⟩ := rx.toTup
        rw [hr.ints e] at hq
        refine ⟨p, js, rfl, hq, h64, fun a c n hcl => ⟨a, _, c, rfl, upd_same, by omega, fun ns z p1 p2 p3 nz => ?_⟩⟩
        have e3 : ns = PL.sortI (PL.dedup js) := by
          refine sorted_one (perm_of_mem (p1.imp fun h => Int.ne_of_lt h) ?_ fun x => ?_) (p1.imp fun h => Int.le_of_lt h) (sortI_sorted _)
          · exact (sortI_perm _).nodup_iff.mpr (dedup_nodup js)
          · rw [p2 x, (sortI_perm _).mem_iff, dedup_mem]; simp
        subst e3
        exact post_alloc (h.ext (Ext.new k.rep n)) (k.new n) ⟨_, rfl, repVs_ints _⟩ z nz
      · exact h.elim
    · exact h.elim
  · exact h.elim
end
end PLS

/-! PLS7: isinstance, repr, methods. -/
namespace PLS
open PySem PySem.Spec PyProof.Rows L2

/-! ### isinstance -/
def tyS : PL.Ty → String
  | .int => "int"
  | .bool => "bool"
  | .str => "str"
  | .tuple => "tuple"
  | .list => "list"
  | .dict => "dict"
section
variable {X : Cx} {mk : Mk} {E : EXC}
theorem rd_tyx {K : PySem.W.Frag} {H : Hp} {a : Addr} {kvs : List (L2.Key × V)} (h : Rd H a (.dK kvs)) : TyX K H (.ref a) (.type "dict") := by
  rcases h with h | ⟨o, h⟩
  · exact .base (.dK h)
  · exact .fDict h
theorem isi_rep {K : PySem.W.Frag} {ρ : List Addr} {H : Hp} {M : PL.Mem} (k : RepM K ρ H M) {x : PV} {u : V} (t : PL.Ty) (r : RepV K ρ H x u) : ∃ tv : String, TyX K H u (.type tv) ∧ kitB tv (tyS t) = some (PL.isTy M x t) := by
  have lst : ∀ a us, SqL K H a us → TyX K H (.ref a) (.type "list") := fun a us h => by
    rcases h with (h | ⟨o, h⟩) | ⟨o, its, n, h1, h2, _⟩
    · exact .base (.lst h)
    · exact .base (.frz h)
    · exact .kList h1 h2
  have hL : PL.litems M x = none → (PL.litems M x).isSome = false := fun e => by rw [e]; rfl
  cases x with
  | non =>
    simp only [RepV] at r; subst r
    exact ⟨_, .base .non, by cases t <;> simp only [PL.isTy, PL.litems, PL.dkeys, Option.isSome_some, Option.isSome_none] <;> decide +kernel⟩
  | bl b =>
    simp only [RepV] at r; subst r
    exact ⟨_, .base (.bl b), by cases t <;> simp only [PL.isTy, PL.litems, PL.dkeys, Option.isSome_some, Option.isSome_none] <;> decide +kernel⟩
  | int b =>
    simp only [RepV] at r; subst r
    exact ⟨_, .base (.int b), by cases t <;> simp only [PL.isTy, PL.litems, PL.dkeys, Option.isSome_some, Option.isSome_none] <;> decide +kernel⟩
  | str b =>
    simp only [RepV] at r; subst r
    exact ⟨_, .base (.str _), by cases t <;> simp only [PL.isTy, PL.litems, PL.dkeys, Option.isSome_some, Option.isSome_none] <;> decide +kernel⟩
  | rep d =>
    simp only [RepV] at r
    obtain ⟨pd, _, rfl⟩ := r
    exact ⟨_, .base (.str _), by cases t <;> simp only [PL.isTy, PL.litems, PL.dkeys, Option.isSome_some, Option.isSome_none] <;> decide +kernel⟩
  | tup xs =>
    simp only [RepV] at r
    obtain ⟨a, o, us, rfl, h1, h2, n, _⟩ := r
    exact ⟨_, .fTuple h1, by cases t <;> simp only [PL.isTy, PL.litems, PL.dkeys, Option.isSome_some, Option.isSome_none] <;> decide +kernel⟩
  | ct xs =>
    simp only [RepV] at r
    obtain ⟨a, us, rfl, ⟨o, its, n, h1, h2, _⟩, _⟩ := r
    exact ⟨_, .kTuple h1 h2, by cases t <;> simp only [PL.isTy, PL.litems, PL.dkeys, Option.isSome_some, Option.isSome_none] <;> decide +kernel⟩
  | fl xs =>
    simp only [RepV] at r
    obtain ⟨a, us, rfl, h1, n, _⟩ := r
    exact ⟨_, .base (.lst h1), by cases t <;> simp only [PL.isTy, PL.litems, PL.dkeys, Option.isSome_some, Option.isSome_none] <;> decide +kernel⟩
  | cl xs =>
    obtain ⟨a, us, rfl, h1, _⟩ := r.toCl
    exact ⟨_, lst a us h1, by cases t <;> simp only [PL.isTy, PL.litems, PL.dkeys, Option.isSome_some, Option.isSome_none] <;> decide +kernel⟩
  | fd ks vs =>
    simp only [RepV] at r
    obtain ⟨a, kvs, rfl, h1, n, _⟩ := r
    exact ⟨_, rd_tyx h1, by cases t <;> simp only [PL.isTy, PL.litems, PL.dkeys, Option.isSome_some, Option.isSome_none] <;> decide +kernel⟩
  | ref i =>
    have r0 := r
    simp only [RepV] at r
    obtain ⟨a, h1, rfl⟩ := r
    have hi : i < M.length := by rw [← k.len]; exact (List.getElem?_eq_some_iff.mp h1).1
    have hm := List.getElem?_eq_getElem hi
    cases hmo : M[i] with
    | lst xs =>
      rw [hmo] at hm
      obtain ⟨b, us, h3, h4, _⟩ := k.lst hm
      rw [h1] at h3; obtain rfl := Option.some.inj h3
      exact ⟨_, .base (.lst h4), by cases t <;> simp only [PL.isTy, PL.litems, PL.dkeys, Option.isSome_some, Option.isSome_none, hm] <;> decide +kernel⟩
    | dct lk ks vs =>
      rw [hmo] at hm
      obtain ⟨b, kvs, h3, h4, _⟩ := k.dct hm
      rw [h1] at h3; obtain rfl := Option.some.inj h3
      exact ⟨_, .base (.dK h4), by cases t <;> simp only [PL.isTy, PL.litems, PL.dkeys, Option.isSome_some, Option.isSome_none, hm] <;> decide +kernel⟩
end

/-! ### repr -/
theorem int_shown {i : Int} (h : i.natAbs < 2 ^ 1900) : i.natAbs.log2 < 1900 := PySem.Flt.log2_lt_of (by decide) h
mutual
theorem shown_len : ∀ {v : PV} {d : PyData}, dat v = some d → PL.shw v = true → PL.plain v = true → d.shown.length ≤ PL.wt v ∧ d.showable = true
  | .non, d, h, p, q => by simp only [dat, Option.some.injEq] at h; subst h; exact ⟨by simp only [PyData.shown, PL.wt]; decide +kernel, by simp only [PyData.showable]⟩
  | .bl b, d, h, p, q => by simp only [dat, Option.some.injEq] at h; subst h; exact ⟨by simp only [PyData.shown, PL.wt]; cases b <;> decide +kernel, by simp only [PyData.showable]⟩
  | .int i, d, h, p, q => by
    simp only [dat, Option.some.injEq] at h; subst h
    simp only [PL.shw, decide_eq_true_eq] at p
    have hl := int_shown p
    refine ⟨?_, by simp only [PyData.showable]; exact decide_eq_true (by omega)⟩
    have := int_text_length_le (a := i) (k := 1900) (by decide) hl
    simp only [PyData.shown, PL.wt]
    show (Str.ofString (toString i)).length ≤ 1904
    have e : (Str.ofString (toString i)).length = (toString i).length := PySem.ofString_length _
    omega
  | .str s, d, h, p, q => by
    simp only [dat, Option.some.injEq] at h; subst h
    refine ⟨?_, by simp only [PyData.showable]⟩
    simp only [PyData.shown, PL.wt]
    simp only [PL.shw, List.all_eq_true, decide_eq_true_eq] at p
    have := PySem.StrLaws.reprText_len (toStr s) fun c hc => by
      have := p c (by simpa [toStr] using hc)
      exact Nat.lt_of_lt_of_le this (by decide)
    rw [toStr_len] at this
    exact this
  | .tup xs, d, h, p, q => by
    simp only [dat, Option.map_eq_some_iff] at h
    obtain ⟨ds, h, rfl⟩ := h
    simp only [PL.shw, PL.plain] at p q
    obtain ⟨h1, h2⟩ := shown_lens h p q
    refine ⟨?_, by simp only [PyData.showable]; exact h2⟩
    simp only [PyData.shown, PL.wt]
    have := tupleText_len_le (PyData.shownAll ds)
    omega
  | .fl xs, d, h, p, q => by
    simp only [dat, Option.map_eq_some_iff] at h
    obtain ⟨ds, h, rfl⟩ := h
    simp only [PL.shw, PL.plain] at p q
    obtain ⟨h1, h2⟩ := shown_lens h p q
    refine ⟨?_, by simp only [PyData.showable]; exact h2⟩
    simp only [PyData.shown, PL.wt]
    have := listText_len_le (PyData.shownAll ds)
    omega
  | .fd _ _, d, h, p, q => by simp [PL.plain] at q
  | .ref _, d, h, p, q => by simp [PL.plain] at q
  | .rep _, d, h, p, q => by simp [PL.plain] at q
  | .ct _, d, h, p, q => by simp [PL.plain] at q
  | .cl _, d, h, p, q => by simp [PL.plain] at q
theorem shown_lens : ∀ {xs : List PV} {ds : List PyData}, dats xs = some ds → PL.shws xs = true → PL.plains xs = true → ((PyData.shownAll ds).map (·.length)).sum + 2 * (PyData.shownAll ds).length ≤ PL.wts xs ∧ PyData.showableAll ds = true
  | [], ds, h, p, q => by simp only [dats, Option.some.injEq] at h; subst h; simp [PyData.shownAll, PyData.showableAll, PL.wts]
  | x :: xs, ds, h, p, q => by
    simp only [dats, Option.bind_eq_some_iff, Option.map_eq_some_iff] at h
    obtain ⟨d1, e1, ds, e2, rfl⟩ := h
    simp only [PL.shws, PL.plains, Bool.and_eq_true] at p q
    obtain ⟨a1, a2⟩ := shown_len e1 p.1 q.1
    obtain ⟨b1, b2⟩ := shown_lens e2 p.2 q.2
    refine ⟨?_, by simp only [PyData.showableAll, a2, b2, Bool.and_self]⟩
    simp only [PyData.shownAll, List.map_cons, List.sum_cons, List.length_cons, PL.wts]
    omega
end
section
variable {X : Cx} {mk : Mk} {E : EXC}
theorem pr_repr (hu : X.A.units + 200 < cLine) (hg : X.A.guards = some []) : CallR X (.builtin "repr") (rP X.K mk E .repr) := by
  rintro pins s σ H xs us Q I r ⟨ρ, M, vs, k, rs, h⟩
  rcases prim_cases rs h with ⟨x, u, rfl, rfl, rx, h⟩ | ⟨x, y, u, w, rfl, rfl, rx, ry, h⟩
  · change Post X.K mk (RepV X.K) E ρ H Q (PL.pRepr M x) at h
    unfold PL.pRepr at h
    split at h
    · rename_i v' e
      split at h
      · rename_i hp
        simp only [Bool.and_eq_true, decide_eq_true_eq] at hp
        obtain ⟨⟨⟨p1, p2⟩, p3⟩, p4⟩ := hp
        obtain ⟨d, e1, dp⟩ := dp_rd k.rep _ rx e p1
        obtain ⟨h1, h2⟩ := shown_len e1 p2 p1
        have hz : d.shown.length ≤ sizeLine := by rw [SZ_eq] at p3; omega
        have lay := dat_lay e1 p1
        have hdd : d.hasDict = false := PyData.hasDict_of_canLay d lay
        have hdep := dat_dep e1
        have q : Q (.str d.shown) H := h.ok k (by simp only [RepV]; exact ⟨d, e1, rfl⟩)
        obtain ⟨v, rfl, rv⟩ := vals1 r
        obtain ⟨as, rd⟩ := Dp.reads I d u v dp rv
        cases dp with
        | non => cases rv; exact PySem.P.repr_of_none ⟨.str _, H, I.tok _, ⟨_, rfl⟩, by simpa only [PyData.shown] using q⟩
        | bl b => cases rv; exact PySem.P.repr_of_bool ⟨.str _, H, I.tok _, ⟨_, rfl⟩, by simpa only [PyData.shown] using q⟩
        | int i =>
          obtain ⟨t, rfl⟩ := rv
          refine PySem.P.repr_of_int ?_ ⟨.str _, H, I.tok _, ⟨_, rfl⟩, by simpa only [PyData.shown] using q⟩
          simpa [PyData.showable] using h2
        | str y =>
          obtain ⟨t, rfl⟩ := rv
          exact PySem.P.repr_of_str ⟨.str _, H, I.tok _, ⟨_, rfl⟩, by simpa only [PyData.shown] using q⟩ (by simpa only [PyData.shown] using hz)
        | lst _ _ =>
          cases rv
          exact repr_of_reads' rd h2 (PyData.noDict_hsm hdd) hg (by omega) (fun _ _ e => e) (fun h' t tk kp => ⟨.str _, H, I.kept kp, ⟨_, rfl⟩, q⟩) hz
        | tup _ _ =>
          cases rv
          exact repr_of_reads' rd h2 (PyData.noDict_hsm hdd) hg (by omega) (fun _ _ e => e) (fun h' t tk kp => ⟨.str _, H, I.kept kp, ⟨_, rfl⟩, q⟩) hz
      · exact h.elim
    · exact h.elim
  · exact h.elim
end
end PLS

/-! PLS8: methods, stores. -/
namespace PLS
open PySem PySem.Spec PyProof.Rows L2

/-! ### dicts -/
theorem any_keys {x : PV} {k : L2.Key} (hx : keyK x = some k) : ∀ {ks : List PV} {kvs : List (L2.Key × V)}, ks.map keyK = kvs.map (fun kv => some kv.1) → (ks.any fun z => decide (z = x)) = kvs.any fun kv => decide (kv.1 = k)
  | [], kvs, h => by
    have : kvs = [] := by cases kvs with | nil => rfl | cons a b => simp at h
    subst this; rfl
  | z :: ks, [], h => by simp at h
  | z :: ks, p :: kvs, h => by
    simp only [List.map_cons, List.cons.injEq] at h
    rw [List.any_cons, List.any_cons, any_keys hx h.2]
    congr 1
    refine decide_eq_decide.mpr ⟨fun e => ?_, fun e => ?_⟩
    · subst e; exact Option.some.inj (h.1.symm.trans hx)
    · exact keyK_inj (h.1.trans (by rw [e])) hx
theorem putAll_rep {K : PySem.W.Frag} {ρ : List Addr} {H : Hp} {x y : PV} {u : V} {k : L2.Key} (hx : keyK x = some k) (ry : RepV K ρ H y u) : ∀ {ks vs : List PV} {kvs : List (L2.Key × V)}, ks.map keyK = kvs.map (fun kv => some kv.1) → RepVs K ρ H vs (kvs.map (·.2)) →
    RepVs K ρ H (PL.putAll ks vs x y) ((kvs.map fun kv => if kv.1 = k then (kv.1, u) else kv).map (·.2))
  | [], vs, kvs, h, r => by
    have : kvs = [] := by cases kvs with | nil => rfl | cons a b => simp at h
    subst this; simpa [PL.putAll] using RepVs.nil
  | z :: ks, vs, [], h, r => by simp at h
  | z :: ks, [], p :: kvs, h, r => by have := r.inv0; simp at this
  | z :: ks, v :: vs, p :: kvs, h, r => by
    simp only [List.map_cons, List.cons.injEq] at h
    obtain ⟨w, t, e, r1, r2⟩ := r.inv
    simp only [List.map_cons, List.cons.injEq] at e
    obtain ⟨rfl, rfl⟩ := e
    simp only [PL.putAll, List.map_cons]
    refine .cons ?_ (putAll_rep hx ry h.2 r2)
    by_cases e : z = x
    · subst e
      have e2 : p.1 = k := Option.some.inj (h.1.symm.trans hx)
      rw [if_pos rfl, if_pos e2]; exact ry
    · have e2 : ¬ p.1 = k := fun q => e (keyK_inj (h.1.trans (by rw [q])) hx)
      rw [if_neg e, if_neg e2]; exact r1
theorem dput_rep {K : PySem.W.Frag} {ρ : List Addr} {H : Hp} {x y : PV} {u : V} {k : L2.Key} (hx : keyK x = some k) (ry : RepV K ρ H y u) {ks vs : List PV} {kvs : List (L2.Key × V)} (h : ks.map keyK = kvs.map (fun kv => some kv.1)) (r : RepVs K ρ H vs (kvs.map (·.2))) :
    (PL.dputV ks vs x y).1.map keyK = (putK kvs k u).map (fun kv => some kv.1) ∧ RepVs K ρ H (PL.dputV ks vs x y).2 ((putK kvs k u).map (·.2)) := by
  unfold PL.dputV putK
  rw [any_keys hx h]
  by_cases e : (kvs.any fun kv => decide (kv.1 = k)) = true
  · rw [if_pos e, if_pos e]
    refine ⟨?_, putAll_rep hx ry h r⟩
    rw [h, List.map_map]
    refine List.map_congr_left fun p _ => ?_
    simp only [Function.comp]
    by_cases e2 : p.1 = k
    · rw [if_pos e2]
    · rw [if_neg e2]
  · rw [if_neg e, if_neg e]
    refine ⟨by simp [h, hx], ?_⟩
    rw [List.map_append]
    exact r.append (.cons ry .nil)
theorem putK_new {kvs : List (L2.Key × V)} {k : L2.Key} {u : V} (h : valV kvs k = none) : putK kvs k u = kvs ++ [(k, u)] := by
  unfold putK
  rw [if_neg]
  unfold valV at h
  simp only [Option.map_eq_none_iff, List.find?_eq_none] at h
  simp only [List.any_eq_true, not_exists, not_and]
  exact fun p hp => h p hp

/-! ### methods -/
def rtName : PL.RT → String
  | .list => "list"
  | .tuple => "tuple"
  | .dict => "dict"
def mtName : PL.Mt → String
  | .append => "append"
  | .extend => "extend"
  | .pop => "pop"
  | .popAt => "pop"
  | .insert => "insert"
  | .count => "count"
  | .index => "index"
  | .get => "get"
  | .setdefault => "setdefault"
  | .reverse => "reverse"
def mtId : PL.RT → PL.Mt → String
  | .list, .append => "list.append"
  | .list, .extend => "list.extend"
  | .list, .pop => "list.pop"
  | .list, .popAt => "list.pop"
  | .list, .insert => "list.insert"
  | .list, .count => "list.count"
  | .list, .index => "list.index"
  | .list, .reverse => "list.reverse"
  | .tuple, .count => "tuple.count"
  | .tuple, .index => "tuple.index"
  | .dict, .get => "dict.get"
  | .dict, .setdefault => "dict.setdefault"
  | _, _ => ""
/-- a value that may have such a type -/
def xT : PL.RT → PV → Prop
  | .tuple, x => ∃ xs, x = .tup xs
  | .list, x => (∃ xs, x = .fl xs) ∨ ∃ i, x = .ref i
  | .dict, x => (∃ ks vs, x = .fd ks vs) ∨ ∃ i, x = .ref i
theorem tyR_xT {M : PL.Mem} {x : PV} {T : PL.RT} (h : PL.tyR M x = some T) : xT T x := by
  unfold PL.tyR at h
  split at h
  · obtain rfl := Option.some.inj h; exact ⟨_, rfl⟩
  · obtain rfl := Option.some.inj h; exact .inl ⟨_, rfl⟩
  · obtain rfl := Option.some.inj h; exact .inl ⟨_, _, rfl⟩
  · split at h
    · obtain rfl := Option.some.inj h; exact .inr ⟨_, rfl⟩
    · obtain rfl := Option.some.inj h; exact .inr ⟨_, rfl⟩
    · cases h
  · cases h
theorem mt_facts : ∀ (T : PL.RT) (m : PL.Mt), PL.hasM m T = true → PlainAttrs (rtName T) ∧ Slot (rtName T) (Str.ofString (mtName m)) (mtId T m) ∧ typeOf (.builtin (mtId T m)) = pure (.type "method_descriptor")
  | .list, .append, _ => ⟨PySem.F.plainAttrs_list, PySem.F.slot_list_append, PySem.F.type_list_append⟩
  | .list, .extend, _ => ⟨PySem.F.plainAttrs_list, PySem.F.slot_list_extend, PySem.F.type_list_extend⟩
  | .list, .pop, _ => ⟨PySem.F.plainAttrs_list, PySem.F.slot_list_pop, PySem.F.type_list_pop⟩
  | .list, .popAt, _ => ⟨PySem.F.plainAttrs_list, PySem.F.slot_list_pop, PySem.F.type_list_pop⟩
  | .list, .insert, _ => ⟨PySem.F.plainAttrs_list, PySem.F.slot_list_insert, PySem.F.type_list_insert⟩
  | .list, .count, _ => ⟨PySem.F.plainAttrs_list, PySem.F.slot_list_count, PySem.F.type_list_count⟩
  | .list, .index, _ => ⟨PySem.F.plainAttrs_list, PySem.F.slot_list_index, PySem.F.type_list_index⟩
  | .list, .reverse, _ => ⟨PySem.F.plainAttrs_list, PySem.F.slot_list_reverse, PySem.F.type_list_reverse⟩
  | .tuple, .count, _ => ⟨PySem.F.plainAttrs_tuple, PySem.F.slot_tuple_count, PySem.F.type_tuple_count⟩
  | .tuple, .index, _ => ⟨PySem.F.plainAttrs_tuple, PySem.F.slot_tuple_index, PySem.F.type_tuple_index⟩
  | .dict, .get, _ => ⟨PySem.F.plainAttrs_dict, PySem.F.slot_dict_get, PySem.F.type_dict_get⟩
  | .dict, .setdefault, _ => ⟨PySem.F.plainAttrs_dict, PySem.F.slot_dict_setdefault, PySem.F.type_dict_setdefault⟩
  | .list, .get, h => by simp [PL.hasM] at h
  | .list, .setdefault, h => by simp [PL.hasM] at h
  | .tuple, .append, h => by simp [PL.hasM] at h
  | .tuple, .extend, h => by simp [PL.hasM] at h
  | .tuple, .pop, h => by simp [PL.hasM] at h
  | .tuple, .popAt, h => by simp [PL.hasM] at h
  | .tuple, .insert, h => by simp [PL.hasM] at h
  | .tuple, .get, h => by simp [PL.hasM] at h
  | .tuple, .setdefault, h => by simp [PL.hasM] at h
  | .tuple, .reverse, h => by simp [PL.hasM] at h
  | .dict, .append, h => by simp [PL.hasM] at h
  | .dict, .extend, h => by simp [PL.hasM] at h
  | .dict, .pop, h => by simp [PL.hasM] at h
  | .dict, .popAt, h => by simp [PL.hasM] at h
  | .dict, .insert, h => by simp [PL.hasM] at h
  | .dict, .count, h => by simp [PL.hasM] at h
  | .dict, .index, h => by simp [PL.hasM] at h
  | .dict, .reverse, h => by simp [PL.hasM] at h
section
variable {X : Cx} {mk : Mk} {E : EXC} {pins : List (Addr × Obj)} {σ : L2.St} {H : Hp} {s : Shared} {M : PL.Mem} {ρ : List Addr}
/-- the type of what is called upon -/
theorem tyR_at (I : Inv X pins σ H s) (k : RepM X.K ρ H M) {x : PV} {u : V} {v : Value} {T : PL.RT} (r : RepV X.K ρ H x u) (q : RelV u v) (h : PL.tyR M x = some T) :
    s.TypeIs v (rtName T) ∧ ∀ a, v = .ref a → ∃ ob, s.heap.get? a = some ob ∧ ob.dict = none := by
  have hL : ∀ {a : Addr} {us : List V}, H a = some (.lst us) → v = .ref a → s.TypeIs v "list" ∧ ∀ b, v = .ref b → ∃ ob, s.heap.get? b = some ob ∧ ob.dict = none := fun {a us} e ev => by
    obtain ⟨z, its, n, _, e2⟩ := I.hok a _ e
    subst ev
    exact ⟨⟨_, e2, rfl⟩, fun b hb => by cases hb; exact ⟨_, e2, rfl⟩⟩
  have hD : ∀ {a : Addr} {kvs : List (L2.Key × V)}, Rd H a (.dK kvs) → v = .ref a → s.TypeIs v "dict" ∧ ∀ b, v = .ref b → ∃ ob, s.heap.get? b = some ob ∧ ob.dict = none := fun {a kvs} e ev => by
    subst ev
    obtain ⟨t1, t2, _⟩ := isD_at I (show IsD H a from .inl ⟨_, e⟩)
    exact ⟨t1, t2⟩
  unfold PL.tyR at h
  split at h
  · obtain rfl := Option.some.inj h
    simp only [RepV] at r
    obtain ⟨a, o, us, rfl, h1, h2, n, _⟩ := r
    cases q
    obtain ⟨e, _⟩ := I.hok a _ h1
    exact ⟨⟨o, e, h2.1⟩, fun b hb => by cases hb; exact ⟨o, e, h2.2⟩⟩
  · obtain rfl := Option.some.inj h
    simp only [RepV] at r
    obtain ⟨a, us, rfl, h1, n, _⟩ := r
    cases q
    exact hL h1 rfl
  · obtain rfl := Option.some.inj h
    simp only [RepV] at r
    obtain ⟨a, kvs, rfl, h1, n, _⟩ := r
    cases q
    exact hD h1 rfl
  · rename_i i
    split at h
    · rename_i xs e
      obtain rfl := Option.some.inj h
      obtain ⟨a, us, h1, h2, h3⟩ := k.lst e
      simp only [RepV] at r
      obtain ⟨b, h4, rfl⟩ := r
      rw [h1] at h4; obtain rfl := Option.some.inj h4
      cases q
      exact hL h2 rfl
    · rename_i lk ks vs e
      obtain rfl := Option.some.inj h
      obtain ⟨a, kvs, h1, h2, h3⟩ := k.dct e
      simp only [RepV] at r
      obtain ⟨b, h4, rfl⟩ := r
      rw [h1] at h4; obtain rfl := Option.some.inj h4
      cases q
      exact hD (.inl h2) rfl
    · cases h
  · cases h

def rMt (K : PySem.W.Frag) (mk : Mk) (E : EXC) (T : PL.RT) (m : PL.Mt) : V → List V → Hp → VK → Prop := fun u us H Q => ∃ ρ M x vs, Ok K mk ρ H M ∧ RepV K ρ H x u ∧ RepVs K ρ H vs us ∧ xT T x ∧ Post K mk (RepV K) E ρ H Q (PL.meth mk M m x vs)
theorem meth_cases {K : PySem.W.Frag} {m : PL.Mt} {x : PV} {vs : List PV} {us : List V} {Q : VK} (r : RepVs K ρ H vs us) (h : Post K mk (RepV K) E ρ H Q (PL.meth mk M m x vs)) :
    (vs = [] ∧ us = [] ∧ Post K mk (RepV K) E ρ H Q (PL.meth0 M m x)) ∨ (∃ y w, vs = [y] ∧ us = [w] ∧ RepV K ρ H y w ∧ Post K mk (RepV K) E ρ H Q (PL.meth1 mk M m x y)) ∨
      ∃ y z w t, vs = [y, z] ∧ us = [w, t] ∧ RepV K ρ H y w ∧ RepV K ρ H z t ∧ Post K mk (RepV K) E ρ H Q (PL.meth2 mk M m x y z) := by
  unfold PL.meth at h
  split at h
  · exact .inl ⟨rfl, r.inv0, h⟩
  · obtain ⟨u, t, rfl, r1, r2⟩ := r.inv
    rw [r2.inv0]
    exact .inr (.inl ⟨_, u, rfl, rfl, r1, h⟩)
  · obtain ⟨u, t, rfl, r1, r2⟩ := r.inv
    obtain ⟨w, t', rfl, r3, r4⟩ := r2.inv
    rw [r4.inv0]
    exact .inr (.inr ⟨_, _, u, w, rfl, rfl, r1, r3, h⟩)
  · exact h.elim
end
end PLS

/-! PLS9: the methods. -/
namespace PLS
open PySem PySem.Spec PyProof.Rows L2

theorem belows_sub {mk : Nat} {xs ys : List PV} (h : belows mk xs = true) (s : ∀ y ∈ ys, y ∈ xs) : belows mk ys = true :=
  belows_iff.mpr fun y hy => belows_iff.mp h y (s y hy)
theorem belows_snoc {mk : Nat} {xs : List PV} {v : PV} (h : belows mk xs = true) (hv : below mk v = true) : belows mk (xs ++ [v]) = true :=
  belows_append h (by simp only [belows, hv, Bool.and_self])
theorem below_wOk_ {mk : Mk} {i m : Nat} {v : PV} (h : PL.wOk mk i v = true) (hi : mk.In i m) : below m v = true := by
  unfold PL.wOk at h
  rw [Bool.or_eq_true] at h
  rcases h with h | h
  · exact absurd (of_decide_eq_true h) (Nat.not_le.mpr hi.lt)
  · exact below_of_noref m h
theorem belows_tup {mk : Mk} {i m : Nat} {xs : List PV} (h : PL.wOk mk i (.tup xs) = true) (hi : mk.In i m) : belows m xs = true := by
  have := below_wOk_ h hi
  simpa only [below] using this
section
variable {K : PySem.W.Frag} {mk : Mk} {ρ : List Addr} {H : Hp} {M : PL.Mem} {E : EXC} {Q : VK} {i m : Nat} {a : Addr} {xs ys : List PV} {us ws : List V}
theorem Ok.lstBel (k : Ok K mk ρ H M) (e : M[i]? = some (.lst xs)) (hi : mk.In i m) : belows m xs = true := by
  have := k.bel m hi.1 i _ hi.2 e
  simpa only [belowO] using this
theorem Ok.dctBel {lk : Bool} {ks vs : List PV} (k : Ok K mk ρ H M) (e : M[i]? = some (.dct lk ks vs)) (hi : mk.In i m) : belows m ks = true ∧ belows m vs = true := by
  have := k.bel m hi.1 i _ hi.2 e
  simpa only [belowO, Bool.and_eq_true] using this
theorem ref_at {u : V} (r : RepV K ρ H (.ref i) u) : ∃ a, ρ[i]? = some a ∧ u = .ref a := by simpa only [RepV] using r
/-- a live list is changed; r is given -/
theorem post_lst {v : PV} {u : V} (h : Post K mk (RepV K) E ρ H Q (.ok v (M.set i (.lst ys)))) (k : Ok K mk ρ H M) (ha : ρ[i]? = some a) (rs : RepVs K ρ H ys ws) (rv : RepV K ρ H v u) (hb : ∀ {m}, mk.In i m → belows m ys = true) : Q u (upd H a (.lst ws)) :=
  h.okx (Ext.write ha) (k.write ha ⟨ws, rfl, rs⟩ hb) (rv.ext (Ext.write ha))
theorem post_dct {v : PV} {u : V} {ks vs : List PV} {kvs : List (L2.Key × V)} (h : Post K mk (RepV K) E ρ H Q (.ok v (M.set i (.dct false ks vs)))) (k : Ok K mk ρ H M) (ha : ρ[i]? = some a) (h1 : ks.map keyK = kvs.map (fun kv => some kv.1)) (h2 : RepVs K ρ H vs (kvs.map (·.2)))
    (rv : RepV K ρ H v u) (hb : ∀ {m}, mk.In i m → belows m ks = true ∧ belows m vs = true) : Q u (upd H a (.dK kvs)) :=
  h.okx (Ext.write ha) (k.write ha ⟨kvs, rfl, h1, h2⟩ fun hi => by simp only [belowO, Bool.and_eq_true]; exact hb hi) (rv.ext (Ext.write ha))
theorem rep_non : RepV K ρ H .non .non := by simp only [RepV]
theorem lenR {o : V} (h : RepVs K ρ H xs us) : xs.length = us.length := h.length
end
section
variable {X : Cx} {mk : Mk} {E : EXC}
theorem mt_appendP : MtR X "list.append" (rMt X.K mk E .list .append) := by
  rintro pins s σ H u us v vs Q I ru rus ⟨ρ, M, x, ys, k, rx, rs, xt, h⟩
  rcases meth_cases rs h with ⟨rfl, rfl, h⟩ | ⟨y, w, rfl, rfl, ry, h⟩ | ⟨y, z, w, t, rfl, rfl, ry, rz, h⟩
  · unfold PL.meth0 at h; split at h <;> first | (rename_i e _; cases e) | exact h.elim
  · rcases xt with ⟨xs, rfl⟩ | ⟨i, rfl⟩
    · exact h.elim
    · change Post X.K mk (RepV X.K) E ρ H Q (PL.mAppend mk M i y) at h
      unfold PL.mAppend at h
      split at h
      · rename_i xs e
        split at h
        · rename_i hw
          rw [Bool.and_eq_true, decide_eq_true_eq] at hw
          obtain ⟨a, ws, h1, h2, h3⟩ := k.rep.lst e
          obtain ⟨b, h4, rfl⟩ := ref_at rx
          rw [h1] at h4; obtain rfl := Option.some.inj h4
          exact mt_append pins s σ H _ _ v vs Q I ru rus ⟨a, ws, w, rfl, rfl, h2, by rw [← h3.length, ← SZ_eq]; exact hw.2, post_lst h k h1 (h3.append (.cons ry .nil)) rep_non fun hi => belows_snoc (k.lstBel e hi) (below_wOk_ hw.1 hi)⟩
        · exact h.elim
      · exact h.elim
  · exact h.elim
theorem mt_extendP : MtR X "list.extend" (rMt X.K mk E .list .extend) := by
  rintro pins s σ H u us v vs Q I ru rus ⟨ρ, M, x, ys, k, rx, rs, xt, h⟩
  rcases meth_cases rs h with ⟨rfl, rfl, h⟩ | ⟨y, w, rfl, rfl, ry, h⟩ | ⟨y, z, w, t, rfl, rfl, ry, rz, h⟩
  · exact h.elim
  · rcases xt with ⟨xs, rfl⟩ | ⟨i, rfl⟩
    · exact h.elim
    · change Post X.K mk (RepV X.K) E ρ H Q (PL.mExtend mk M i y) at h
      unfold PL.mExtend at h
      split at h
      · rename_i xs zs e e2
        split at h
        · rename_i hw
          rw [Bool.and_eq_true, decide_eq_true_eq] at hw
          obtain ⟨a, ws, h1, h2, h3⟩ := k.rep.lst e
          obtain ⟨b, h4, rfl⟩ := ref_at rx
          rw [h1] at h4; obtain rfl := Option.some.inj h4
          obtain ⟨c, ts, rfl, h5, h6⟩ := llst_rep k.rep ry e2
          exact mt_extend pins s σ H _ _ v vs Q I ru rus ⟨a, c, ws, ts, rfl, rfl, h2, h5, by rw [← h3.length, ← h6.length, ← SZ_eq]; exact hw.2, post_lst h k h1 (h3.append h6) rep_non fun hi => belows_append (k.lstBel e hi) (belows_tup hw.1 hi)⟩
        · exact h.elim
      · exact h.elim
  · exact h.elim
theorem mt_popP : MtR X "list.pop" (rMt X.K mk E .list .pop) := by
  rintro pins s σ H u us v vs Q I ru rus ⟨ρ, M, x, ys, k, rx, rs, xt, h⟩
  rcases meth_cases rs h with ⟨rfl, rfl, h⟩ | ⟨y, w, rfl, rfl, ry, h⟩ | ⟨y, z, w, t, rfl, rfl, ry, rz, h⟩
  · rcases xt with ⟨xs, rfl⟩ | ⟨i, rfl⟩
    · exact h.elim
    · change Post X.K mk (RepV X.K) E ρ H Q (PL.mPop M i) at h
      unfold PL.mPop at h
      split at h
      · rename_i xs e
        split at h
        · rename_i y e2
          obtain ⟨a, ws, h1, h2, h3⟩ := k.rep.lst e
          obtain ⟨b, h4, rfl⟩ := ref_at rx
          rw [h1] at h4; obtain rfl := Option.some.inj h4
          rw [List.getLast?_eq_getElem?] at e2
          obtain ⟨u, hu, r⟩ := h3.get e2
          rw [h3.length] at hu
          refine mt_pop pins s σ H _ _ v vs Q I ru rus ⟨a, ws, u, rfl, rfl, h2, hu, post_lst h k h1 ?_ r fun hi => belows_sub (k.lstBel e hi) fun y hy => List.dropLast_subset _ hy⟩
          rw [List.dropLast_eq_take, List.dropLast_eq_take, h3.length]
          exact h3.take _
        · exact h.elim
      · exact h.elim
  · exact h.elim
  · exact h.elim
theorem mt_reverseP : MtR X "list.reverse" (rMt X.K mk E .list .reverse) := by
  rintro pins s σ H u us v vs Q I ru rus ⟨ρ, M, x, ys, k, rx, rs, xt, h⟩
  rcases meth_cases rs h with ⟨rfl, rfl, h⟩ | ⟨y, w, rfl, rfl, ry, h⟩ | ⟨y, z, w, t, rfl, rfl, ry, rz, h⟩
  · rcases xt with ⟨xs, rfl⟩ | ⟨i, rfl⟩
    · exact h.elim
    · change Post X.K mk (RepV X.K) E ρ H Q (PL.mReverse M i) at h
      unfold PL.mReverse at h
      split at h
      · rename_i xs e
        obtain ⟨a, ws, h1, h2, h3⟩ := k.rep.lst e
        obtain ⟨b, h4, rfl⟩ := ref_at rx
        rw [h1] at h4; obtain rfl := Option.some.inj h4
        exact mt_reverse pins s σ H _ _ v vs Q I ru rus ⟨a, ws, rfl, rfl, h2, post_lst h k h1 h3.reverse rep_non fun hi => belows_sub (k.lstBel e hi) fun y hy => List.mem_reverse.mp hy⟩
      · exact h.elim
  · exact h.elim
  · exact h.elim
theorem nIx_lt {n : Nat} {i : Int} {j : Nat} (h : PL.nIx n i = some j) : seqIndex? i n = some j ∧ j < n ∧ -(n : Int) ≤ i ∧ i < n := ixN_seq (by rw [← nIx_eq]; exact h)
theorem RepVs.eraseIdx {K : PySem.W.Frag} {ρ : List Addr} {H : Hp} : ∀ {xs : List PV} {us : List V} (i : Nat), RepVs K ρ H xs us → RepVs K ρ H (xs.eraseIdx i) (us.eraseIdx i)
  | [], us, i, h => by rw [h.inv0]; exact .nil
  | _ :: _, us, 0, h => by
    obtain ⟨w, r, e, h1, t⟩ := h.inv
    subst e; exact t
  | _ :: _, us, i + 1, h => by
    obtain ⟨w, r, e, h1, t⟩ := h.inv
    subst e; exact .cons h1 (RepVs.eraseIdx i t)
theorem mt_popAtP : MtR X "list.pop" (rMt X.K mk E .list .popAt) := by
  rintro pins s σ H u us v vs Q I ru rus ⟨ρ, M, x, ys, k, rx, rs, xt, h⟩
  rcases meth_cases rs h with ⟨rfl, rfl, h⟩ | ⟨y, w, rfl, rfl, ry, h⟩ | ⟨y, z, w, t, rfl, rfl, ry, rz, h⟩
  · exact h.elim
  · rcases xt with ⟨xs, rfl⟩ | ⟨i, rfl⟩
    · exact h.elim
    · cases y with
      | int n =>
        change Post X.K mk (RepV X.K) E ρ H Q (PL.mPopAt M i n) at h
        simp only [RepV] at ry
        subst ry
        unfold PL.mPopAt at h
        split at h
        · rename_i xs e
          split at h
          · rename_i p e2
            obtain ⟨a, ws, h1, h2, h3⟩ := k.rep.lst e
            obtain ⟨b, h4, rfl⟩ := ref_at rx
            rw [h1] at h4; obtain rfl := Option.some.inj h4
            simp only [Option.bind_eq_some_iff, Option.map_eq_some_iff] at e2
            obtain ⟨j, e3, y, e4, rfl⟩ := e2
            obtain ⟨q1, q2, q3, q4⟩ := nIx_lt e3
            obtain ⟨u, hu, r⟩ := h3.get e4
            have hz := (I.lstM h2).1
            rw [← h3.length, sizeLine_eq] at hz
            refine mt_popAt pins s σ H _ _ v vs Q I ru rus ⟨a, ws, n, j, u, rfl, rfl, h2, by omega, by omega, by rw [← h3.length]; exact q1, hu, post_lst h k h1 (h3.eraseIdx j) r fun hi => belows_sub (k.lstBel e hi) fun y hy => List.mem_of_mem_eraseIdx hy⟩
          · exact h.elim
        · exact h.elim
      | _ => exact h.elim
  · exact h.elim
theorem mt_insertP : MtR X "list.insert" (rMt X.K mk E .list .insert) := by
  rintro pins s σ H u us v vs Q I ru rus ⟨ρ, M, x, ys, k, rx, rs, xt, h⟩
  rcases meth_cases rs h with ⟨rfl, rfl, h⟩ | ⟨y, w, rfl, rfl, ry, h⟩ | ⟨y, z, w, t, rfl, rfl, ry, rz, h⟩
  · exact h.elim
  · exact h.elim
  · rcases xt with ⟨xs, rfl⟩ | ⟨i, rfl⟩
    · exact h.elim
    · cases y with
      | int n =>
        change Post X.K mk (RepV X.K) E ρ H Q (PL.mInsert mk M i n z) at h
        simp only [RepV] at ry
        subst ry
        unfold PL.mInsert at h
        split at h
        · rename_i xs e
          split at h
          · rename_i hw
            simp only [Bool.and_eq_true, decide_eq_true_eq] at hw
            obtain ⟨⟨⟨w1, w2⟩, w3⟩, w4⟩ := hw
            obtain ⟨a, ws, h1, h2, h3⟩ := k.rep.lst e
            obtain ⟨b, h4, rfl⟩ := ref_at rx
            rw [h1] at h4; obtain rfl := Option.some.inj h4
            have hz := (I.lstM h2).1
            rw [← h3.length, sizeLine_eq] at hz
            refine mt_insert pins s σ H _ _ v vs Q I ru rus ⟨a, ws, n, t, rfl, rfl, h2, by rw [← h3.length, ← SZ_eq]; exact w2, w3, by omega, ?_⟩
            refine post_lst h k h1 ?_ rep_non fun hi => ?_
            · rw [List.append_assoc]
              exact (h3.take _).append (.cons rz (h3.drop _))
            · refine belows_append (belows_sub (k.lstBel e hi) fun y hy => List.mem_of_mem_take hy) ?_
              simp only [belows, Bool.and_eq_true]
              exact ⟨below_wOk_ w1 hi, belows_sub (k.lstBel e hi) fun y hy => List.mem_of_mem_drop hy⟩
          · exact h.elim
        · exact h.elim
      | _ => exact h.elim
theorem mt_getP (hu : X.A.units + 200 < cLine) : MtR X "dict.get" (rMt X.K mk E .dict .get) := by
  rintro pins s σ H u us v vs Q I ru rus ⟨ρ, M, x, ys, k, rx, rs, xt, h⟩
  have go : ∀ y w d t, RepV X.K ρ H y w → RepV X.K ρ H d t → Post X.K mk (RepV X.K) E ρ H Q (PL.mGet M x y d) → ∃ b o, u = .ref b ∧ DGet H b w o ∧ Q (o.getD t) H := fun y w d t ry rd h => by
    unfold PL.mGet at h
    split at h
    · rename_i p e
      split at h
      · rename_i hk
        obtain ⟨b, kvs, rfl, hd, hks, hvs⟩ := dkeys_rep k.rep rx (ks := p.1) (vs := p.2) e
        obtain ⟨kk, e1, rfl⟩ := key_rep ry hk
        refine ⟨b, valV kvs kk, rfl, dget_of hd, ?_⟩
        rcases dget_rep hks hvs e1 with ⟨e2, e3⟩ | ⟨v, u, e2, e3, r⟩
        · rw [e2] at h; rw [e3]; exact h.ok k rd
        · rw [e2] at h; rw [e3]; exact h.ok k r
      · exact h.elim
    · exact h.elim
  rcases meth_cases rs h with ⟨rfl, rfl, h⟩ | ⟨y, w, rfl, rfl, ry, h⟩ | ⟨y, z, w, t, rfl, rfl, ry, rz, h⟩
  · rcases xt with ⟨_, _, rfl⟩ | ⟨i, rfl⟩ <;> exact h.elim
  · have h' : Post X.K mk (RepV X.K) E ρ H Q (PL.mGet M x y .non) := by rcases xt with ⟨_, _, rfl⟩ | ⟨i, rfl⟩ <;> exact h
    obtain ⟨b, o, rfl, g, q⟩ := go y w .non .non ry rep_non h'
    obtain ⟨v1, rfl, rv⟩ := rus.one
    cases ru
    exact d_get1 (by omega) I g rv fun w' s' I' rw' => ⟨_, H, I', rw', q⟩
  · have h' : Post X.K mk (RepV X.K) E ρ H Q (PL.mGet M x y z) := by rcases xt with ⟨_, _, rfl⟩ | ⟨i, rfl⟩ <;> exact h
    obtain ⟨b, o, rfl, g, q⟩ := go y w z t ry rz h'
    obtain ⟨v1, v2, rfl, rv, rv2⟩ := rus.two
    cases ru
    exact d_get2 (by omega) I g rv rv2 fun w' s' I' rw' => ⟨_, H, I', rw', q⟩
theorem mt_setdP : MtR X "dict.setdefault" (rMt X.K mk E .dict .setdefault) := by
  rintro pins s σ H u us v vs Q I ru rus ⟨ρ, M, x, ys, k, rx, rs, xt, h⟩
  rcases meth_cases rs h with ⟨rfl, rfl, h⟩ | ⟨y, w, rfl, rfl, ry, h⟩ | ⟨y, z, w, t, rfl, rfl, ry, rz, h⟩
  · rcases xt with ⟨_, _, rfl⟩ | ⟨i, rfl⟩ <;> exact h.elim
  · rcases xt with ⟨_, _, rfl⟩ | ⟨i, rfl⟩ <;> exact h.elim
  · rcases xt with ⟨_, _, rfl⟩ | ⟨i, rfl⟩
    · exact h.elim
    · change Post X.K mk (RepV X.K) E ρ H Q (PL.mSetd mk M i y z) at h
      unfold PL.mSetd at h
      split at h
      · rename_i ks vs' e
        split at h
        · rename_i hw
          rw [Bool.and_eq_true, decide_eq_true_eq] at hw
          obtain ⟨a, kvs, h1, h2, h3, h5⟩ := k.rep.dct e
          obtain ⟨b, h4, rfl⟩ := ref_at rx
          rw [h1] at h4; obtain rfl := Option.some.inj h4
          obtain ⟨kk, e1, rfl⟩ := key_rep ry hw.1
          obtain ⟨v1, v2, rfl, rv, rv2⟩ := rus.two
          cases ru
          have hl : kvs.length < sizeLine := by
            have := congrArg List.length h3
            rw [List.length_map, List.length_map] at this
            rw [← this, ← SZ_eq]; exact hw.2
          refine d_setd I h2 rv rv2 hl (fun v0 ev w' s' I' rw' => ⟨_, H, I', rw', ?_⟩) fun en w' s' I' rw' => ⟨_, _, I', rw', ?_⟩
          · rcases dget_rep h3 h5 e1 with ⟨e2, e3⟩ | ⟨v, u, e2, e3, r⟩
            · rw [ev] at e3; cases e3
            · rw [ev] at e3
              obtain rfl := Option.some.inj e3
              rw [e2] at h
              exact h.ok k r
          · rcases dget_rep h3 h5 e1 with ⟨e2, e3⟩ | ⟨v, u, e2, e3, r⟩
            · rw [e2] at h
              simp only at h
              split at h
              · rename_i hw2
                rw [Bool.and_eq_true] at hw2
                rw [putK_new en]
                refine post_dct h k h1 (by simp [h3, e1]) ?_ rz fun hi => ⟨belows_snoc (k.dctBel e hi).1 (below_wOk_ hw2.1 hi), belows_snoc (k.dctBel e hi).2 (below_wOk_ hw2.2 hi)⟩
                rw [List.map_append]
                exact h5.append (.cons rz .nil)
              · exact h.elim
            · rw [en] at e3; cases e3
        · exact h.elim
      · exact h.elim
/-! ### count, index -/
theorem countM_all {M : PL.Mem} {x : PV} : ∀ {ys : List PV} {n : Nat}, PL.countM M x ys = some n → (∀ y ∈ ys, (PL.eqD M y x).isSome = true) ∧ n = ys.countP fun y => PL.eqD M y x == some true
  | [], n, h => by simp only [PL.countM, Option.some.injEq] at h; subst h; simp
  | y :: ys, n, h => by
    simp only [PL.countM, Option.bind_eq_some_iff, Option.map_eq_some_iff] at h
    obtain ⟨b, hb, m, hm, rfl⟩ := h
    obtain ⟨h1, h2⟩ := countM_all hm
    refine ⟨fun z hz => ?_, ?_⟩
    · rcases List.mem_cons.mp hz with rfl | hz
      · rw [hb]; rfl
      · exact h1 z hz
    · rw [List.countP_cons, ← h2, hb]
      cases b <;> simp
theorem indexM_all {M : PL.Mem} {x : PV} : ∀ {ys : List PV} {n : Option Nat}, PL.indexM M x ys = some n → (∀ y ∈ ys, (PL.eqD M y x).isSome = true) ∧ ∀ j, n = some j → ∃ y, ys[j]? = some y ∧ PL.eqD M y x = some true ∧ ∀ m z, m < j → ys[m]? = some z → PL.eqD M z x = some false
  | [], n, h => by simp only [PL.indexM, Option.some.injEq] at h; subst h; simp
  | y :: ys, n, h => by
    simp only [PL.indexM, Option.bind_eq_some_iff, Option.map_eq_some_iff] at h
    obtain ⟨b, hb, m, hm, rfl⟩ := h
    obtain ⟨h1, h2⟩ := indexM_all hm
    refine ⟨fun z hz => ?_, fun j hj => ?_⟩
    · rcases List.mem_cons.mp hz with rfl | hz
      · rw [hb]; rfl
      · exact h1 z hz
    · cases b with
      | true =>
        simp only [if_true, Option.some.injEq] at hj
        subst hj
        exact ⟨y, rfl, hb, fun m z hm => absurd hm (Nat.not_lt_zero _)⟩
      | false =>
        simp only [Bool.false_eq_true, if_false, Option.map_eq_some_iff] at hj
        obtain ⟨j', e, rfl⟩ := hj
        obtain ⟨w, a1, a2, a3⟩ := h2 j' e
        refine ⟨w, by simpa using a1, a2, fun m z hm hz => ?_⟩
        cases m with
        | zero => simp only [List.getElem?_cons_zero, Option.some.injEq] at hz; subst hz; exact hb
        | succ m => exact a3 m z (by omega) (by simpa using hz)
theorem countP_by {α β : Type} {p : α → Bool} {q : β → Bool} : ∀ {xs : List α} {ys : List β}, xs.length = ys.length → (∀ (i : Nat) x y, xs[i]? = some x → ys[i]? = some y → p x = q y) → xs.countP p = ys.countP q
  | [], [], _, _ => rfl
  | [], _ :: _, h, _ => by simp at h
  | _ :: _, [], h, _ => by simp at h
  | x :: xs, y :: ys, h, hs => by
    rw [List.countP_cons, List.countP_cons, countP_by (by simpa using h) fun i a b ha hb => hs (i + 1) a b (by simpa using ha) (by simpa using hb), hs 0 x y rfl rfl]
/-- what is asked of the items of a list or tuple -/
theorem count_run (hu : X.A.units + 200 < cLine) {T : PL.RT} (hT : T = .list ∨ T = .tuple) : MtR X (mtId T .count) (rMt X.K mk E T .count) := by
  rintro pins s σ H u us v vs Q I ru rus ⟨ρ, M, x, ys, k, rx, rs, xt, h⟩
  rcases meth_cases rs h with ⟨rfl, rfl, h⟩ | ⟨y, w, rfl, rfl, ry, h⟩ | ⟨y, z, w, t, rfl, rfl, ry, rz, h⟩
  · exact h.elim
  · obtain ⟨v1, rfl, rv⟩ := rus.one
    change Post X.K mk (RepV X.K) E ρ H Q (PL.mCount M x y) at h
    unfold PL.mCount at h
    split at h
    · rename_i n e
      simp only [Option.bind_eq_some_iff] at e
      obtain ⟨xs, e1, e2⟩ := e
      obtain ⟨hs, hn⟩ := countM_all e2
      have q : Q (.int (n : Nat)) H := h.ok k (by simp only [RepV])
      have fin : ∀ {p : Addr} {ts : List V} {its : List Value} (e : Value → Bool), RepVs X.K ρ H xs ts → Vals ts its → (∀ (i : Nat) (y' : PV) (v : Value), xs[i]? = some y' → its[i]? = some v → PL.eqD M y' y = some (e v)) → its.countP e = n := fun e r1 r2 hi => by
        rw [hn]
        refine (countP_by (by rw [r1.length, r2.length]) fun i a b ha hb => ?_).symm
        rw [hi i a b ha hb]
        cases e b <;> rfl
      rcases hT with rfl | rfl
      · have e1' : PL.litems M x = some xs := by
          rcases xt with ⟨zs, rfl⟩ | ⟨i, rfl⟩
          · exact e1
          · exact e1
        obtain ⟨p, ts, rfl, hq, r1⟩ := litems_rep k.rep rx e1'
        cases ru
        obtain ⟨its, r2, ⟨⟨cls, dd, data, sl⟩, m, ho, hc, hdn, hd⟩, hlen⟩ := I.list hq
        simp only at hc hd
        subst hc hd
        obtain ⟨e, he, hi⟩ := eqD_at (b := true) I k.rep hu ry rv r1 r2 hs
        refine call_meets PySem.F.slot_list_count ⟨_, ho, rfl⟩ PySem.F.entry_list_count (PySem.F.args_list_count_2 _ _) (SeqAt.list_countAt p its.toArray m dd sl v1 e) ⟨ho, fun y hy => he y (by simpa using hy), ?_⟩
        exact ⟨.int (n : Nat), H, I.tok _, ⟨s.toks, by rw [← fin (p := p) e r1 r2 hi]⟩, q⟩
      · obtain ⟨zs, rfl⟩ := xt
        obtain rfl : zs = xs := Option.some.inj e1
        obtain ⟨p, ts, rfl, hq, r1⟩ := rx.toTup
        cases ru
        obtain ⟨its, r2, pl, hlen⟩ := I.tuple hq
        obtain ⟨⟨cls, dd, data, sl⟩, ho, hc, m, hd⟩ := id pl
        simp only at hc hd
        subst hc hd
        obtain ⟨e, he, hi⟩ := eqD_at (b := true) I k.rep hu ry rv r1 r2 hs
        refine call_meets PySem.F.slot_tuple_count ⟨_, ho, rfl⟩ PySem.F.entry_tuple_count (PySem.F.args_tuple_count_2 _ _) (SeqAt.tuple_countAt p its.toArray m dd sl v1 e) ⟨ho, fun y hy => he y (by simpa using hy), ?_⟩
        exact ⟨.int (n : Nat), H, I.tok _, ⟨s.toks, by rw [← fin (p := p) e r1 r2 hi]⟩, q⟩
    · exact h.elim
  · rcases hT with rfl | rfl
    · rcases xt with ⟨zs, rfl⟩ | ⟨i, rfl⟩ <;> exact h.elim
    · obtain ⟨zs, rfl⟩ := xt; exact h.elim
theorem index_run (hu : X.A.units + 200 < cLine) {T : PL.RT} (hT : T = .list ∨ T = .tuple) : MtR X (mtId T .index) (rMt X.K mk E T .index) := by
  rintro pins s σ H u us v vs Q I ru rus ⟨ρ, M, x, ys, k, rx, rs, xt, h⟩
  rcases meth_cases rs h with ⟨rfl, rfl, h⟩ | ⟨y, w, rfl, rfl, ry, h⟩ | ⟨y, z, w, t, rfl, rfl, ry, rz, h⟩
  · exact h.elim
  · obtain ⟨v1, rfl, rv⟩ := rus.one
    change Post X.K mk (RepV X.K) E ρ H Q (PL.mIndex M x y) at h
    unfold PL.mIndex at h
    split at h
    · rename_i n e
      simp only [Option.bind_eq_some_iff] at e
      obtain ⟨xs, e1, e2⟩ := e
      obtain ⟨hs, hn⟩ := indexM_all e2
      obtain ⟨y0, y1, y2, y3⟩ := hn n rfl
      have q : Q (.int (n : Nat)) H := h.ok k (by simp only [RepV])
      have fin : ∀ {ts : List V} {its : List Value} (e : Value → Bool), RepVs X.K ρ H xs ts → Vals ts its → (∀ (i : Nat) (y' : PV) (v : Value), xs[i]? = some y' → its[i]? = some v → PL.eqD M y' y = some (e v)) →
          ∃ hj : n < its.toArray.size, e its.toArray[n] = true ∧ ∀ m (hm : m < its.toArray.size), m < n → e its.toArray[m] = false := fun {ts its} e r1 r2 hi => by
        have hl : xs.length = its.length := by rw [r1.length, r2.length]
        have hn0 : n < xs.length := (List.getElem?_eq_some_iff.mp y1).1
        refine ⟨by rw [List.size_toArray]; omega, ?_, fun m hm hmn => ?_⟩
        · have hv : its[n]? = some its[n] := List.getElem?_eq_getElem (by omega)
          have := hi n y0 _ y1 hv
          rw [y2] at this
          simpa using (Option.some.inj this).symm
        · rw [List.size_toArray] at hm
          have hv : its[m]? = some its[m] := List.getElem?_eq_getElem hm
          have hx : xs[m]? = some xs[m] := List.getElem?_eq_getElem (by omega)
          have := hi m _ _ hx hv
          rw [y3 m _ hmn hx] at this
          simpa using (Option.some.inj this).symm
      rcases hT with rfl | rfl
      · have e1' : PL.litems M x = some xs := by
          rcases xt with ⟨zs, rfl⟩ | ⟨i, rfl⟩
          · exact e1
          · exact e1
        obtain ⟨p, ts, rfl, hq, r1⟩ := litems_rep k.rep rx e1'
        cases ru
        obtain ⟨its, r2, ⟨⟨cls, dd, data, sl⟩, m, ho, hc, hdn, hd⟩, hlen⟩ := I.list hq
        simp only at hc hd
        subst hc hd
        obtain ⟨e, he, hi⟩ := eqD_at (b := true) I k.rep hu ry rv r1 r2 hs
        obtain ⟨hj, a1, a2⟩ := fin e r1 r2 hi
        have hl2 : its.length = ts.length := r2.length.symm
        have hj' := hj
        rw [List.size_toArray, hl2] at hj'
        rw [sizeLine_eq] at hlen
        refine call_meets PySem.F.slot_list_index ⟨_, ho, rfl⟩ PySem.F.entry_list_index (PySem.F.args_list_index_2 _ _) (SeqAt.list_indexAt p its.toArray m dd sl v1 e n hj (by omega) a1 a2) ⟨ho, fun y hy => he y (by simpa using hy), ?_⟩
        exact ⟨.int (n : Nat), H, I.tok _, ⟨s.toks, rfl⟩, q⟩
      · obtain ⟨zs, rfl⟩ := xt
        obtain rfl : zs = xs := Option.some.inj e1
        obtain ⟨p, ts, rfl, hq, r1⟩ := rx.toTup
        cases ru
        obtain ⟨its, r2, pl, hlen⟩ := I.tuple hq
        obtain ⟨⟨cls, dd, data, sl⟩, ho, hc, m, hd⟩ := id pl
        simp only at hc hd
        subst hc hd
        obtain ⟨e, he, hi⟩ := eqD_at (b := true) I k.rep hu ry rv r1 r2 hs
        obtain ⟨hj, a1, a2⟩ := fin e r1 r2 hi
        refine call_meets PySem.F.slot_tuple_index ⟨_, ho, rfl⟩ PySem.F.entry_tuple_index (PySem.F.args_tuple_index_2 _ _) (TI.tuple_indexAt p its.toArray m dd sl v1 e n hj a1 a2) ⟨ho, fun y hy => he y (by simpa using hy), ?_⟩
        exact ⟨.int (n : Nat), H, I.tok _, ⟨s.toks, rfl⟩, q⟩
    · exact h.elim
  · rcases hT with rfl | rfl
    · rcases xt with ⟨zs, rfl⟩ | ⟨i, rfl⟩ <;> exact h.elim
    · obtain ⟨zs, rfl⟩ := xt; exact h.elim
theorem mt_all (hu : X.A.units + 200 < cLine) : ∀ (T : PL.RT) (m : PL.Mt), PL.hasM m T = true → MtR X (mtId T m) (rMt X.K mk E T m)
  | .list, .append, _ => mt_appendP
  | .list, .extend, _ => mt_extendP
  | .list, .pop, _ => mt_popP
  | .list, .popAt, _ => mt_popAtP
  | .list, .insert, _ => mt_insertP
  | .list, .count, _ => count_run hu (.inl rfl)
  | .list, .index, _ => index_run hu (.inl rfl)
  | .list, .reverse, _ => mt_reverseP
  | .tuple, .count, _ => count_run hu (.inr rfl)
  | .tuple, .index, _ => index_run hu (.inr rfl)
  | .dict, .get, _ => mt_getP hu
  | .dict, .setdefault, _ => mt_setdP
  | .list, .get, h => by simp [PL.hasM] at h
  | .list, .setdefault, h => by simp [PL.hasM] at h
  | .tuple, .append, h => by simp [PL.hasM] at h
  | .tuple, .extend, h => by simp [PL.hasM] at h
  | .tuple, .pop, h => by simp [PL.hasM] at h
  | .tuple, .popAt, h => by simp [PL.hasM] at h
  | .tuple, .insert, h => by simp [PL.hasM] at h
  | .tuple, .get, h => by simp [PL.hasM] at h
  | .tuple, .setdefault, h => by simp [PL.hasM] at h
  | .tuple, .reverse, h => by simp [PL.hasM] at h
  | .dict, .append, h => by simp [PL.hasM] at h
  | .dict, .extend, h => by simp [PL.hasM] at h
  | .dict, .pop, h => by simp [PL.hasM] at h
  | .dict, .popAt, h => by simp [PL.hasM] at h
  | .dict, .insert, h => by simp [PL.hasM] at h
  | .dict, .count, h => by simp [PL.hasM] at h
  | .dict, .index, h => by simp [PL.hasM] at h
  | .dict, .reverse, h => by simp [PL.hasM] at h
end
end PLS

/-! PLS10: the rules of expressions. -/
namespace PLS
open PySem PySem.Spec PyProof.Rows L2

section
variable {X : Cx}
theorem OpR.ex {α : Type} {f : Value → Value → Sem Value} {r : α → R2} (h : ∀ a, OpR X f (r a)) : OpR X f (fun x y H Q => ∃ a, r a x y H Q) :=
  fun pins s σ H x y v u Q I rx ry ⟨a, q⟩ => h a pins s σ H x y v u Q I rx ry q
theorem CallR.ex {α : Type} {f : Value} {r : α → List V → Hp → VK → Prop} (h : ∀ a, CallR X f (r a)) : CallR X f (fun xs H Q => ∃ a, r a xs H Q) :=
  fun pins s σ H xs us Q I r ⟨a, q⟩ => h a pins s σ H xs us Q I r q
theorem SlR.ex {α : Type} {r : α → V → Option Int → Option Int → Hp → VK → Prop} (h : ∀ a, SlR X (r a)) : SlR X (fun x l u H Q => ∃ a, r a x l u H Q) :=
  fun pins s σ H x v vl vu lo hi sl Q I rx hs pl pu ⟨a, q⟩ => h a pins s σ H x v vl vu lo hi sl Q I rx hs pl pu q
theorem IxR.ex {α : Type} {r : α → R2} (h : ∀ a, IxR X (r a)) : IxR X (fun x y H Q => ∃ a, r a x y H Q) :=
  fun value slice pins s σ H x y v u Q I rx ry ⟨a, q⟩ hs => h a value slice pins s σ H x y v u Q I rx ry q hs
end
/-! ### what an expression is not -/
def special : Expr → Bool
  | .UnaryOp .Not _ _ => true
  | .BoolOp _ _ _ => true
  | .IfExp _ _ _ _ => true
  | .Compare _ _ _ _ => true
  | _ => false
theorem isTrue_of {x : Expr} (h : special x = false) (env : Env) (whole : Sem Value) : isTrue x env whole = (do let v ← whole; standAt x.pos; holding [v] (truthy v)) := by
  cases x with
  | UnaryOp op a p => cases op <;> first | rfl | simp [special] at h
  | BoolOp => simp [special] at h
  | IfExp => simp [special] at h
  | Compare => simp [special] at h
  | _ => rfl
def isStar : Expr → Bool
  | .Starred _ _ => true
  | _ => false
theorem starEach_of {e : Expr} {es : List Expr} (h : isStar e = false) (env : Env) : starEach (e :: es) env = (false, eval e env) :: starEach es env := by
  cases e <;> first | rfl | simp [isStar] at h
theorem backTo_plain {env : Env} {pos : Pos} : ∀ {es : List Expr}, es.any isStar = false → (backTo pos (starEach es env)).any (·.1) = false
  | [], _ => rfl
  | e :: es, h => by
    rw [List.any_cons, Bool.or_eq_false_iff] at h
    rw [starEach_of h.1]
    show ((false || (backTo pos (starEach es env)).any (·.1))) = false
    rw [backTo_plain h.2]; rfl
theorem backTo_all {env : Env} {pos : Pos} : ∀ {es : List Expr}, es.any isStar = false → (backTo pos (starEach es env)).all (fun x => !x.1) = true
  | [], _ => rfl
  | e :: es, h => by
    rw [List.any_cons, Bool.or_eq_false_iff] at h
    rw [starEach_of h.1]
    show ((true && (backTo pos (starEach es env)).all (fun x => !x.1))) = true
    rw [backTo_all h.2]; rfl
def isSet : Expr → Bool
  | .Set _ _ _ => true
  | _ => false
theorem folded_of {e : Expr} (h : isSet e = false) (env : Env) (x : Value) : foldedSetIterable e env x = pure x := by
  cases e <;> first | rfl | simp [isSet] at h
theorem behind_of {e : Expr} (h : isSet e = false) (op : CmpOp) : behindInMarks op e = false := by
  cases e <;> first | rfl | simp [isSet] at h
def isCall : Expr → Bool
  | .Call _ _ _ _ => true
  | _ => false
theorem base_of {e : Expr} (h : isCall e = false) (m : Str) (env : Env) (whole : Sem Value) : attributeBase e m env whole = whole := by
  cases e <;> first | rfl | simp [isCall] at h
def isSlice : Expr → Bool
  | .Slice _ _ _ _ => true
  | _ => false
theorem plainIx_of {e : Expr} (h : isSlice e = false) : PlainIx e := fun o i => by
  cases e <;> first | rfl | simp [isSlice] at h
theorem marks_of {b c : Expr} {o p : CmpOp} (h : isSet c = false) : lastMarks [o, p] [b, c] = false := behind_of h p

section
variable {X : Cx} {RX : RXT} {W : WX} {mk : Mk} {x a b c : Expr} {m ma mb mc : Mn PV} {pos p : Pos}
abbrev TI_ (RX : RXT) (X : Cx) (W : WX) (mk : Mk) (m : Mn PV) : TE := tI RX X.K W mk m
structure PEB (RX : RXT) (X : Cx) (W : WX) (mk : Mk) (x : Expr) (m : Mn PV) : Prop where
  v : PE X x (tI RX X.K W mk m)
  t : PT X x (tIb RX X.K W mk m)
theorem tIb_tB {σ : L2.St} {H : Hp} {Q : Bool → Hp → Prop} {K : PySem.W.Frag} (h : tIb RX K W mk m σ H Q) : tB (tI RX K W mk m) σ H Q := by
  obtain ⟨ρ, s, M, re, k, h⟩ := h
  refine ⟨ρ, s, M, re, k, Post.bind h fun v M1 ρ1 H1 u x1 k1 r1 h1 => ?_⟩
  cases v with
  | bl b =>
    simp only [RepV] at r1
    exact ⟨b, r1, h1.ok k1 rfl⟩
  | _ => exact h1.elim
theorem PEB.plain (h : PE X x (tI RX X.K W mk m)) (hs : special x = false) : PEB RX X W mk x m :=
  ⟨h, PT.imp (pt_val h (isTrue_of hs _)) fun _ _ _ q => tIb_tB q⟩
theorem bind_assoc {α β γ : Type} (m : PL.R α) (f : α → PL.Mem → PL.R β) (g : β → PL.Mem → PL.R γ) : (m.bind f).bind g = m.bind fun a M => (f a M).bind g := by
  cases m <;> rfl
theorem asB_bind {α : Type} (m : PL.R α) (f : α → PL.Mem → PL.R PV) : asB (m.bind f) = m.bind fun a M => asB (f a M) := bind_assoc _ _ _
theorem m_cases {α : Type} (m : PL.R α) : m = .no ∨ (∃ x M, m = .exc x M) ∨ ∃ v M, m = .ok v M := by
  cases m with
  | ok a M => exact .inr (.inr ⟨a, M, rfl⟩)
  | exc x M => exact .inr (.inl ⟨x, M, rfl⟩)
  | no => exact .inl rfl
/-- what is known at once -/
theorem rE_pure {v : PV} {u : V} (h : PE X x (tC u)) (r : ∀ ρ H, RepV X.K ρ H v u) : PE X x (tI RX X.K W mk fun _ M => .ok v M) :=
  PE.imp h fun σ H Q ⟨ρ, s, M, re, k, h⟩ => h.ok k (r ρ H)
theorem rE_var {P : String → Option (List String)} {C : PL.Orc} {i : Nat} {n : Str} (hN : X.N[i]? = some n) (hv : Vis X.env.scope n) (hd : (n == ("__debug__" : Str)) = false) (hc : (n == ("__classdict__" : Str)) = false) :
    PE X (.Name n pos) (tI RX X.K W mk (PL.ev P C mk (.var i))) :=
  PE.imp (pe_var hN hv hd hc) fun σ H Q ⟨ρ, s, M, re, k, h⟩ => by
    simp only [PL.ev] at h
    cases e : PL.lk s i with
    | none => rw [e] at h; exact h.elim
    | some v =>
      rw [e] at h
      obtain ⟨u, h1, h2⟩ := re.at_ i v e
      exact ⟨u, h1, h.ok k h2⟩
theorem rE_bin {o : PL.Op} {op : Operator} (ho : ∀ E, OpR X (binaryOp op) (rB X.K mk E o)) (ha : PE X a (tI RX X.K W mk ma)) (hb : PE X b (tI RX X.K W mk mb)) :
    PE X (.BinOp a op b pos) (tI RX X.K W mk fun σ M => (ma σ M).bind fun x M1 => (mb σ M1).bind fun y M2 => PL.binop M2 o x y) :=
  PE.imp (pe_op (OpR.ex ho) ha hb) fun σ H Q ⟨ρ, s, M, re, k, h⟩ =>
    ⟨ρ, s, M, re, k, Post.bind h fun v M1 ρ1 H1 u x1 k1 r1 h1 => ⟨ρ1, s, M1, re.ext x1, k1, Post.bind h1 fun w M2 ρ2 H2 z x2 k2 r2 h2 => ⟨_, ρ2, M2, v, w, k2, r1.ext x2, r2, h2⟩⟩⟩
theorem rE_neg (ha : PE X a (tI RX X.K W mk ma)) :
    PE X (.UnaryOp .USub a pos) (tI RX X.K W mk fun σ M => (ma σ M).bind fun x M1 => match x with | .int i => .ok (.int (-i)) M1 | _ => .no) :=
  PE.imp (pe_un un_neg ha) fun σ H Q ⟨ρ, s, M, re, k, h⟩ =>
    ⟨ρ, s, M, re, k, Post.bind h fun v M1 ρ1 H1 u x1 k1 r1 h1 => by
      cases v with
      | int i =>
        simp only [RepV] at r1
        exact ⟨i, r1, h1.ok k1 (by simp only [RepV])⟩
      | _ => exact h1.elim⟩
theorem rE_not (ha : PEB RX X W mk a ma) :
    PEB RX X W mk (.UnaryOp .Not a pos) fun σ M => (ma σ M).bind fun x M1 => match x with | .bl b => .ok (.bl (!b)) M1 | _ => .no := by
  refine ⟨PE.imp (pe_not ha.v) fun σ H Q ⟨ρ, s, M, re, k, h⟩ => ⟨ρ, s, M, re, k, Post.bind h fun v M1 ρ1 H1 u x1 k1 r1 h1 => ?_⟩, PT.imp (pt_not ha.t) fun σ H Q ⟨ρ, s, M, re, k, h⟩ => ⟨ρ, s, M, re, k, ?_⟩⟩
  · cases v with
    | bl b =>
      simp only [RepV] at r1
      exact ⟨b, r1, h1.ok k1 (by simp only [RepV])⟩
    | _ => exact h1.elim
  · rw [asB_bind] at h
    rcases m_cases (ma s M) with e | ⟨x, M1, e⟩ | ⟨v, M1, e⟩
    · rw [e] at h; exact h.elim
    · rw [e] at h ⊢; exact h
    · rw [e] at h ⊢
      cases v with
      | bl b => exact fun ρ' H' d x' k' r' => by subst r'; exact h ρ' H' (!b) x' k' rfl
      | _ => exact h.elim
theorem rE_cmp {o : PL.Cm} {op : CmpOp} (ho : OpR X (compareOp op) (rC X.K o)) (ha : PE X a (tI RX X.K W mk ma)) (hb : PE X b (tI RX X.K W mk mb)) (hs : isSet b = false) :
    PEB RX X W mk (.Compare a [op] [b] pos) fun σ M => (ma σ M).bind fun x M1 => (mb σ M1).bind fun y M2 => match PL.cmpop M2 o x y with | some c => .ok (.bl c) M2 | none => .no := by
  have pc : PC X op a b (tI RX X.K W mk fun σ M => (ma σ M).bind fun x M1 => (mb σ M1).bind fun y M2 => match PL.cmpop M2 o x y with | some c => .ok (.bl c) M2 | none => .no) :=
    ⟨fun pins s0 σ H Q I ⟨ρ, s, M, re, k, h⟩ =>
      binT ha hb (R := fun x y H => rC X.K o x y H Q) I (show tI RX X.K W mk ma σ H fun x H1 => tI RX X.K W mk mb σ H1 fun y H2 => rC X.K o x y H2 Q from
        ⟨ρ, s, M, re, k, Post.bind h fun v M1 ρ1 H1 u x1 k1 r1 h1 => ⟨ρ1, s, M1, re.ext x1, k1, Post.bind h1 fun w M2 ρ2 H2 z x2 k2 r2 h2 => by
          cases e : PL.cmpop M2 o v w with
          | none => rw [e] at h2; exact h2.elim
          | some c =>
            rw [e] at h2
            exact ⟨ρ2, M2, v, w, c, k2.rep, r1.ext x2, r2, e, h2.ok k2 (by simp only [RepV])⟩⟩⟩) fun v u s2 x y H2 I2 rx ry q => ho pins s2 σ H2 x y v u Q I2 rx ry q⟩
  exact ⟨pe_cmp pc (behind_of hs op), PT.imp (pt_cmp pc (behind_of hs op)) fun _ _ _ q => tIb_tB q⟩
end
end PLS

/-! PLS11: more rules of expressions. -/
namespace PLS
open PySem PySem.Spec PyProof.Rows L2
section
variable {X : Cx} {RX : RXT} {W : WX} {mk : Mk} {x a b c : Expr} {es : List Expr} {m ma mb mc : Mn PV} {ms : Mn (List PV)} {pos p : Pos}
/-! ### lists of expressions -/
theorem rA_nil : PA X [] (tIs RX X.K W mk fun _ M => .ok [] M) := PA.imp pa_nil fun σ H Q ⟨ρ, s, M, re, k, h⟩ => h.ok k .nil
theorem rA_cons (ha : PE X a (tI RX X.K W mk ma)) (hs : isStar a = false) (hr : PA X es (tIs RX X.K W mk ms)) :
    PA X (a :: es) (tIs RX X.K W mk fun σ M => (ma σ M).bind fun x M1 => (ms σ M1).bind fun xs M2 => .ok (x :: xs) M2) :=
  PA.imp (pa_cons ha hr (starEach_of hs _)) fun σ H Q ⟨ρ, s, M, re, k, h⟩ =>
    ⟨ρ, s, M, re, k, Post.bind h fun v M1 ρ1 H1 u x1 k1 r1 h1 => ⟨ρ1, s, M1, re.ext x1, k1, Post.bind h1 fun w M2 ρ2 H2 z x2 k2 r2 h2 => h2.ok k2 (.cons (r1.ext x2) r2)⟩⟩
theorem rA_star (ha : PE X a (tI RX X.K W mk ma)) (hr : PA X es (tIs RX X.K W mk ms)) :
    PA X (.Starred a p :: es) (tIs RX X.K W mk fun σ M => (ma σ M).bind fun x M1 => match PL.starred M1 x with | some ys => (ms σ M1).bind fun xs M2 => .ok (ys ++ xs) M2 | none => .no) :=
  PA.imp (StX.pa_star ha hr rfl) fun σ H Q ⟨ρ, s, M, re, k, h⟩ =>
    ⟨ρ, s, M, re, k, Post.bind h fun v M1 ρ1 H1 u x1 k1 r1 h1 => by
      cases e : PL.starred M1 v with
      | none => rw [e] at h1; exact h1.elim
      | some ys =>
        rw [e] at h1
        obtain ⟨q, us, rfl, hq, rs⟩ := items_rep k1.rep r1 e
        exact ⟨q, us, rfl, hq.symm, ρ1, s, M1, re.ext x1, k1, Post.bind h1 fun w M2 ρ2 H2 z x2 k2 r2 h2 => h2.ok k2 ((rs.ext x2).append r2)⟩⟩
/-! ### displays -/
theorem rE_tup {j : Nat} (ha : PA X es (tIs RX X.K W mk ms)) : PEB RX X W mk (.Tuple es j pos) fun σ M => (ms σ M).bind fun xs M1 => if xs.length ≤ PL.SZ then .ok (.tup xs) M1 else .no := by
  refine .plain ⟨fun pins s0 σ H Q I ⟨ρ, s, M, re, k, h⟩ => ?_⟩ rfl
  refine wpAny_Tuple_spliced (thn (ha.run pos pins s0 σ H (fun us H1 => us.length ≤ sizeLine ∧ ∀ p o, H1 p = none → TupO o → Q (.ref p) (upd H1 p (.frz o (.tup us)))) I
    ⟨ρ, s, M, re, k, Post.bind h fun v M1 ρ1 H1 u x1 k1 r1 h1 => ?_⟩) fun us s1 ⟨xs, H1, I1, r, z, q⟩ => ⟨by rw [← r.length]; exact z, ?_⟩)
  · split at h1
    · rename_i hz
      exact ⟨by rw [← r1.length, ← SZ_eq]; exact hz, fun p o n t => post_tup h1 k1 r1 p o n t⟩
    · exact h1.elim
  · exact ⟨.ref s1.heap.objs.size, _, Inv.tnew (t' := s1.toks) I1 r z, rfl, q _ _ I1.fresh (tupO_new _)⟩
theorem rE_lst (ha : PA X es (tIs RX X.K W mk ms)) : PEB RX X W mk (.List es pos) fun σ M => (ms σ M).bind fun xs M1 => if xs.length ≤ PL.SZ then PL.alloc (.lst xs) M1 else .no :=
  .plain (PE.imp (pe_lst ha) fun σ H Q ⟨ρ, s, M, re, k, h⟩ => ⟨ρ, s, M, re, k, Post.bind h fun v M1 ρ1 H1 u x1 k1 r1 h1 => by
    split at h1
    · rename_i hz
      exact ⟨by rw [← r1.length, ← SZ_eq]; exact hz, fun p n => post_alloc h1 k1 ⟨u, rfl, r1⟩ p n⟩
    · exact h1.elim⟩) rfl
/-! ### is, chains, if, and/or -/
theorem rep_isN {K : PySem.W.Frag} {ρ : List Addr} {H : Hp} {v : PV} {u : V} (r : RepV K ρ H v u) : decide (u = .non) = decide (v = .non) := by
  have hr : ∀ a : Addr, ¬ (V.ref a = V.non) := fun a h => by cases h
  cases v with
  | non => simp only [RepV] at r; subst r; rfl
  | bl b => simp only [RepV] at r; subst r; rfl
  | int b => simp only [RepV] at r; subst r; rfl
  | str b => simp only [RepV] at r; subst r; rfl
  | rep d => simp only [RepV] at r; obtain ⟨_, _, rfl⟩ := r; rfl
  | tup xs => simp only [RepV] at r; obtain ⟨q, _, _, rfl, _⟩ := r; rfl
  | ct xs => simp only [RepV] at r; obtain ⟨q, _, rfl, _⟩ := r; rfl
  | fl xs => simp only [RepV] at r; obtain ⟨q, _, rfl, _⟩ := r; rfl
  | cl xs => simp only [RepV] at r; obtain ⟨q, _, rfl, _⟩ := r; rfl
  | fd ks vs => simp only [RepV] at r; obtain ⟨q, _, rfl, _⟩ := r; rfl
  | ref i => simp only [RepV] at r; obtain ⟨q, _, rfl⟩ := r; rfl
theorem rE_isN {j : Nat} {p' : Pos} (n : Bool) (ha : PE X a (tI RX X.K W mk ma)) :
    PEB RX X W mk (.Compare a [if n then .IsNot else .Is] [.Constant .none j p'] pos) fun σ M => (ma σ M).bind fun x M1 => .ok (.bl (if n then !decide (x = .non) else decide (x = .non))) M1 := by
  cases n with
  | true =>
    have pc : PC X .IsNot a (.Constant .none j p') (tI RX X.K W mk fun σ M => (ma σ M).bind fun x M1 => .ok (.bl (!decide (x = .non))) M1) :=
      ⟨fun pins s0 σ H Q I ⟨ρ, s, M, re, k, h⟩ => (pc_notN ha).run pins s0 σ H Q I ⟨ρ, s, M, re, k, Post.bind h fun v M1 ρ1 H1 u x1 k1 r1 h1 => h1.ok k1 (by simp only [RepV]; rw [rep_isN r1])⟩⟩
    exact ⟨pe_cmp pc rfl, PT.imp (pt_cmp pc rfl) fun _ _ _ q => tIb_tB q⟩
  | false =>
    have pc : PC X .Is a (.Constant .none j p') (tI RX X.K W mk fun σ M => (ma σ M).bind fun x M1 => .ok (.bl (decide (x = .non))) M1) :=
      ⟨fun pins s0 σ H Q I ⟨ρ, s, M, re, k, h⟩ => (pc_isN ha).run pins s0 σ H Q I ⟨ρ, s, M, re, k, Post.bind h fun v M1 ρ1 H1 u x1 k1 r1 h1 => h1.ok k1 (by simp only [RepV]; rw [rep_isN r1])⟩⟩
    exact ⟨pe_cmp pc rfl, PT.imp (pt_cmp pc rfl) fun _ _ _ q => tIb_tB q⟩
theorem rE_chn {o o' : PL.Cm} {op op' : CmpOp} (ho : OpR X (compareOp op) (rC X.K o)) (ho' : OpR X (compareOp op') (rC X.K o')) (ha : PE X a (tI RX X.K W mk ma)) (hb : PE X b (tI RX X.K W mk mb)) (hc : PE X c (tI RX X.K W mk mc)) (hs : isSet c = false) :
    PEB RX X W mk (.Compare a [op, op'] [b, c] pos) fun σ M => (ma σ M).bind fun x M1 => (mb σ M1).bind fun y M2 => match PL.cmpop M2 o x y with
      | some true => (mc σ M2).bind fun z M3 => match PL.cmpop M3 o' y z with | some d => .ok (.bl d) M3 | none => .no
      | some false => .ok (.bl false) M2
      | none => .no := by
  have key : ∀ (σ : L2.St) (H : Hp) (Q : VK), tI RX X.K W mk (fun σ M => (ma σ M).bind fun x M1 => (mb σ M1).bind fun y M2 => match PL.cmpop M2 o x y with
      | some true => (mc σ M2).bind fun z M3 => match PL.cmpop M3 o' y z with | some d => .ok (.bl d) M3 | none => .no
      | some false => .ok (.bl false) M2
      | none => .no) σ H Q → tChain (rC X.K o) (rC X.K o') (tI RX X.K W mk ma) (tI RX X.K W mk mb) (tI RX X.K W mk mc) σ H Q := fun σ H Q ⟨ρ, s, M, re, k, h⟩ =>
    ⟨ρ, s, M, re, k, Post.bind h fun v M1 ρ1 H1 u x1 k1 r1 h1 => ⟨ρ1, s, M1, re.ext x1, k1, Post.bind h1 fun w M2 ρ2 H2 z x2 k2 r2 h2 => by
      cases e : PL.cmpop M2 o v w with
      | none => rw [e] at h2; exact h2.elim
      | some d =>
        rw [e] at h2
        refine ⟨ρ2, M2, v, w, d, k2.rep, r1.ext x2, r2, e, d, rfl, ?_⟩
        cases d with
        | false => exact h2.ok k2 (by simp only [RepV])
        | true =>
          refine ⟨ρ2, s, M2, (re.ext x1).ext x2, k2, Post.bind h2 fun y M3 ρ3 H3 t x3 k3 r3 h3 => ?_⟩
          cases e2 : PL.cmpop M3 o' w y with
          | none => rw [e2] at h3; exact h3.elim
          | some d =>
            rw [e2] at h3
            exact ⟨ρ3, M3, w, y, d, k3.rep, r2.ext x3, r3, e2, h3.ok k3 (by simp only [RepV])⟩⟩⟩
  exact ⟨PE.imp (pe_chain ho ho' ha hb hc (marks_of hs)) key, PT.imp (pt_chain ho ho' ha hb hc (marks_of hs)) fun σ H Q q => key σ H _ (tIb_tB q)⟩
theorem isTrue_ite {M : Model} {A : Around} {env : Env} {E : Value → Shared → Prop} {s : Shared} {whole : Sem Value} {Q : Bool → Shared → Prop} (h : wpAny M A (isTrue c env (eval c env)) (fun d s1 => if d = true then wpAny M A (isTrue a env (eval a env)) Q E s1 else wpAny M A (isTrue b env (eval b env)) Q E s1) E s) :
    wpAny M A (isTrue (.IfExp c a b pos) env whole) Q E s := by
  show wpAny M A (do if ← isTrue c env (eval c env) then isTrue a env (eval a env) else isTrue b env (eval b env)) Q E s
  refine wpAny_bind (wpAny_mono h (fun d s1 h1 => ?_) fun _ _ z => z)
  cases d <;> exact h1
theorem rE_ite (hc : PEB RX X W mk c mc) (ha : PEB RX X W mk a ma) (hb : PEB RX X W mk b mb) :
    PEB RX X W mk (.IfExp c a b pos) fun σ M => (mc σ M).bind fun x M1 => match x with | .bl true => ma σ M1 | .bl false => mb σ M1 | _ => .no := by
  have key : ∀ {β : Type} {Rel : List Addr → Hp → PV → β → Prop} {σ : L2.St} {H : Hp} {Q : β → Hp → Prop} {ρ : List Addr} {s : PL.Env} {M : PL.Mem} (f : Mn PV) (re : RepE X.K ρ H s σ) (k : Ok X.K mk ρ H M), True := fun _ _ _ => trivial
  refine ⟨PE.imp (pe_ifExp hc.t ha.v hb.v) fun σ H Q ⟨ρ, s, M, re, k, h⟩ => ⟨ρ, s, M, re, k, ?_⟩, ⟨fun pins s0 σ H Q I ⟨ρ, s, M, re, k, h⟩ => isTrue_ite (thn (hc.t.run pins s0 σ H (fun d H1 => ∃ ρ1 M1, RepE X.K ρ1 H1 s σ ∧ Ok X.K mk ρ1 H1 M1 ∧ Post X.K mk (fun _ _ (a b : Bool) => a = b) (EX RX X.K W σ) ρ1 H1 Q (asB (if d = true then ma s M1 else mb s M1))) I ⟨ρ, s, M, re, k, ?_⟩)
    fun d s1 ⟨H1, I1, ρ1, M1, re1, k1, h1⟩ => ?_)⟩⟩
  · unfold asB
    dsimp only at h
    rcases m_cases (mc s M) with e | ⟨x, M1, e⟩ | ⟨v, M1, e⟩
    · rw [e] at h; exact h.elim
    · rw [e] at h ⊢; exact h
    · rw [e] at h ⊢
      cases v with
      | bl d =>
        exact fun ρ' H' d' x' k' r' => by
          subst r'
          have h2 := Post.ext h x'
          cases d with
          | true => exact ⟨ρ', s, M1, re.ext x', k', h2⟩
          | false => exact ⟨ρ', s, M1, re.ext x', k', h2⟩
      | _ => exact h.elim
  · dsimp only at h
    rw [asB_bind] at h
    unfold asB
    rcases m_cases (mc s M) with e | ⟨x, M1, e⟩ | ⟨v, M1, e⟩
    · rw [e] at h; exact h.elim
    · rw [e] at h ⊢; exact h
    · rw [e] at h ⊢
      cases v with
      | bl d =>
        exact fun ρ' H' d' x' k' r' => by
          subst r'
          have h2 := Post.ext h x'
          cases d with
          | true => exact ⟨ρ', M1, re.ext x', k', h2⟩
          | false => exact ⟨ρ', M1, re.ext x', k', h2⟩
      | _ => exact h.elim
  · cases d with
    | true => exact ha.t.run pins s1 σ H1 Q I1 ⟨ρ1, s, M1, re1, k1, h1⟩
    | false => exact hb.t.run pins s1 σ H1 Q I1 ⟨ρ1, s, M1, re1, k1, h1⟩
/-! ### subscripts -/
theorem rE_idx (hu : X.A.units + 200 < cLine) (ha : PE X a (tI RX X.K W mk ma)) (hb : PE X b (tI RX X.K W mk mb)) (hs : isSlice b = false) :
    PEB RX X W mk (.Subscript a b pos) fun σ M => (ma σ M).bind fun x M1 => (mb σ M1).bind fun y M2 => match PL.index M2 x y with | some v => .ok v M2 | none => .no :=
  .plain (PE.imp (pe_ix (op_index hu) ha hb (plainIx_of hs)) fun σ H Q ⟨ρ, s, M, re, k, h⟩ =>
    ⟨ρ, s, M, re, k, Post.bind h fun v M1 ρ1 H1 u x1 k1 r1 h1 => ⟨ρ1, s, M1, re.ext x1, k1, Post.bind h1 fun w M2 ρ2 H2 z x2 k2 r2 h2 => by
      cases e : PL.index M2 v w with
      | none => rw [e] at h2; exact h2.elim
      | some d =>
        rw [e] at h2
        exact ⟨ρ2, M2, v, w, d, k2.rep, r1.ext x2, r2, e, fun t rt => h2.ok k2 rt⟩⟩⟩) rfl
def tIo (RX : RXT) (K : PySem.W.Frag) (W : WX) (mk : Mk) (m : Mn (Option Int)) : TO := fun s H Q => ∃ ρ σ M, RepE K ρ H σ s ∧ Ok K mk ρ H M ∧ Post K mk (fun _ _ (a b : Option Int) => a = b) (EX RX K W s) ρ H Q (m σ M)
theorem rO_none : PO X none (tIo RX X.K W mk fun _ M => .ok none M) := ⟨fun pins s0 σ H Q I ⟨ρ, s, M, re, k, h⟩ => po_none.run pins s0 σ H Q I (h.ok k rfl)⟩
theorem rO_some (ha : PE X a (tI RX X.K W mk ma)) : PO X (some a) (tIo RX X.K W mk fun σ M => (ma σ M).bind fun x M1 => match x with | .int i => .ok (some i) M1 | _ => .no) :=
  ⟨fun pins s0 σ H Q I ⟨ρ, s, M, re, k, h⟩ => (po_some ha).run pins s0 σ H Q I ⟨ρ, s, M, re, k, Post.bind h fun v M1 ρ1 H1 u x1 k1 r1 h1 => by
    cases v with
    | int i =>
      simp only [RepV] at r1
      exact ⟨i, r1, h1.ok k1 rfl⟩
    | _ => exact h1.elim⟩⟩
theorem rE_slc {lo hi : Option Expr} {ml mh : Mn (Option Int)} {p2 : Pos} (ha : PE X a (tI RX X.K W mk ma)) (hl : PO X lo (tIo RX X.K W mk ml)) (hh : PO X hi (tIo RX X.K W mk mh)) :
    PEB RX X W mk (.Subscript a (.Slice lo hi none p2) pos) fun σ M => (ma σ M).bind fun x M1 => (ml σ M1).bind fun l M2 => (mh σ M2).bind fun h M3 => PL.slice M3 x l h :=
  .plain (PE.imp (pe_slice (SlR.ex fun E => sl_rep (E := E)) ha hl hh) fun σ H Q ⟨ρ, s, M, re, k, h⟩ =>
    ⟨ρ, s, M, re, k, Post.bind h fun v M1 ρ1 H1 u x1 k1 r1 h1 => ⟨ρ1, s, M1, re.ext x1, k1, Post.bind h1 fun l M2 ρ2 H2 l' x2 k2 r2 h2 =>
      ⟨ρ2, s, M2, (re.ext x1).ext x2, k2, Post.bind h2 fun t M3 ρ3 H3 t' x3 k3 r3 h3 => by subst r2; subst r3; exact ⟨_, ρ3, M3, v, k3, (r1.ext x2).ext x3, h3⟩⟩⟩⟩) rfl
end
end PLS

/-! PLS12: calls. -/
namespace PLS
open PySem PySem.Spec PyProof.Rows L2

/-! ### what a def of the text promises, where the repr's guards are known -/
structure FnG (P : Program) (w : World) (K : PySem.W.Frag) (mg : Str → Option Value) (base : Heap) (k : Nat) (f : Addr) (fd : FuncData) (ps : List Str) (sp : Sp) : Prop where
  run : ∀ (A : Around) (outer : List Env) (s : Shared) (H : Hp) (args : Args) (us : List Value) (vs : List V) (Q : VK) (E : XK), Room k A → A.guards = some [] → Env0 P w K mg base A outer s H → BindsTo s fd args (ps.zip us) → us.length = ps.length → Vals vs us →
    sp vs H Q E → codeAny (model P w) A (.call (.ref f) args) (CR (L2.CX P w) outer P w H s Q E) s
theorem FnG.mono {P : Program} {w : World} {K : PySem.W.Frag} {mg : Str → Option Value} {base : Heap} {j k : Nat} {f : Addr} {fd : FuncData} {ps : List Str} {sp : Sp} (F : FnG P w K mg base j f fd ps sp) (h : j ≤ k) : FnG P w K mg base k f fd ps sp :=
  ⟨fun A outer s H args us vs Q E hr => F.run A outer s H args us vs Q E (hr.mono h)⟩
/-- a call's promise by a run of PL -/
def spF (C : PL.Orc) (RX : RXT) (K : PySem.W.Frag) (f : String) : Sp := fun us H Q E => ∃ mk ρ M xs, Ok K mk ρ H M ∧ RepVs K ρ H xs us ∧ Post K mk (RepV K) (fun x ρ' H' _ => ∀ cls d, RX ρ' H' x cls d → E cls d H') ρ H Q (C mk f xs M)
/-- how a call binds: by place; by names -/
structure BindF (K : PySem.W.Frag) (fd : FuncData) (ps : List String) : Prop where
  pos : ∀ (s : Shared) (us : List Value), us.length = ps.length → BindsTo s fd ⟨us, []⟩ ((ps.map Str.ofString).zip us)
  kw : ∀ (s : Shared) (us ws zs : List Value) (ks : List String) (is : List Nat), ws.length = ks.length → PL.permIdx ps us.length ks = some is → PL.pick (us ++ ws) is = some zs →
    zs.length = ps.length → BindsTo s fd ⟨us, (ks.map Str.ofString).zip ws⟩ ((ps.map Str.ofString).zip zs)
/-- a def that may be called from here -/
def FunIn (X : Cx) (C : PL.Orc) (RX : RXT) (f : String) (ps : List String) : Prop :=
  (∀ mk xs M, xs.length ≠ ps.length → C mk f xs M = .no) ∧ ∃ fa fd k, X.mg (Str.ofString f) = some (.ref fa) ∧ PySem.W.keepIn X.K (.ref fa) = true ∧ Room k X.A ∧ BindF X.K fd ps ∧ FnG X.prog X.w X.K X.mg X.base k fa fd (ps.map Str.ofString) (spF C RX X.K f)
section
variable {X : Cx} {RX : RXT} {W : WX} {mk : Mk} {x a b c : Expr} {es : List Expr} {m ma mb mc : Mn PV} {ms mks : Mn (List PV)} {pos p : Pos}
theorem run_G {k : Nat} {fa : Addr} {fd : FuncData} {ps : List Str} {sp : Sp} {pins : List (Addr × Obj)} {σ : L2.St} {H : Hp} {s : Shared} {Q : VK} {us zs : List Value} {vs : List V} {kw : List (Str × Value)} {E : XK}
    (F : FnG X.prog X.w X.K X.mg X.base k fa fd ps sp) (hr : Room k X.A) (hg : X.A.guards = some []) (hx : PassesAt (L2.CX X.prog X.w) X σ E) (I : Inv X pins σ H s) (hb : BindsTo s fd ⟨us, kw⟩ (ps.zip zs)) (hl : zs.length = ps.length) (r : Vals vs zs) (h : sp vs H Q E) :
    wpAny (model X.prog X.w) X.A (call (.ref fa) us kw) (EP X pins σ Q) X.xe s := by
  refine wpAny_call (codeAny_mono (F.run X.A X.stack s H ⟨us, kw⟩ zs vs Q E hr hg I.env0 hb hl r h) fun res s' hq => ?_)
  match res, hq with
  | .error e, hq => exact hx pins H s e s' I hq
  | .ok (.ret u), hq => exact I.after hq
/-- the exceptions of a call at the slots σ -/
theorem pass_W (tk : Takes X W) (σ : L2.St) : PassesAt (L2.CX X.prog X.w) X σ (fun cls d H => W cls d σ H) := passAt tk σ
theorem rE_fn {C : PL.Orc} {f : String} {ps : List String} {n : Str} {e : Expr} (hf : FunIn X C RX f ps) (hgu : X.A.guards = some []) (tk : Takes X W) (hg : Gl X n) (hn : n = Str.ofString f) (hd : (n == ("__debug__" : Str)) = false)
    (ha : PA X (e :: es) (tIs RX X.K W mk ms)) (hs : (e :: es).any isStar = false) :
    PEB RX X W mk (.Call (.Name n p) (e :: es) [] pos) fun σ M => (ms σ M).bind fun xs M1 => C mk f xs M1 := by
  subst hn
  rw [List.any_cons, Bool.or_eq_false_iff] at hs
  obtain ⟨hl, fa, fd, k, hm, hk, hr, hb, F⟩ := hf
  refine .plain ⟨fun pins s0 σ H Q I ⟨ρ, s, M, re, ko, h⟩ => ?_⟩ rfl
  refine wpAny_Call_Name_kw (ld_glob I hg hm ?_ hd)
  have h' : tIs RX X.K W mk ms σ H fun vs H1 => vs.length = ps.length ∧ spF C RX X.K f vs H1 Q fun cls d H => W cls d σ H :=
    ⟨ρ, s, M, re, ko, Post.bind h fun v M1 ρ1 H1 u x1 k1 r1 h1 => by
      by_cases l : v.length = ps.length
      · exact ⟨by rw [← r1.length]; exact l, mk, ρ1, M1, v, k1, r1, h1⟩
      · rw [hl _ _ _ l] at h1; exact h1.elim⟩
  refine PySem.W.callWith_K (h₀ := X.base) I.ok.mod.kin hk (thn (ha.run pos pins s0 σ H _ I h') fun us s1 ⟨vs, H1, I1, r, q1, q2⟩ => ⟨I1.kIn, ?_⟩) (starEach_of hs.1 _) (backTo_plain hs.2)
  have lu : us.length = ps.length := by rw [← r.length]; exact q1
  exact run_G F hr hgu (pass_W tk σ) I1 (hb.pos s1 us lu) (by rw [List.length_map]; exact lu) r q2
theorem rE_fn0 {C : PL.Orc} {f : String} {ps : List String} {n : Str} (hf : FunIn X C RX f ps) (hgu : X.A.guards = some []) (tk : Takes X W) (hg : Gl X n) (hn : n = Str.ofString f) (hd : (n == ("__debug__" : Str)) = false) :
    PEB RX X W mk (.Call (.Name n p) [] [] pos) fun σ M => C mk f [] M := by
  subst hn
  obtain ⟨hl, fa, fd, k, hm, hk, hr, hb, F⟩ := hf
  refine .plain ⟨fun pins s0 σ H Q I ⟨ρ, s, M, re, ko, h⟩ => ?_⟩ rfl
  refine wpAny_Call_Name_kw (ld_glob I hg hm ?_ hd)
  have l : 0 = ps.length := by
    by_cases l : ([] : List PV).length = ps.length
    · exact l
    · dsimp only at h
      rw [hl _ _ _ l] at h; exact h.elim
  exact PySem.W.callWith_K0 I.kIn hk (run_G (us := []) (kw := []) F hr hgu (pass_W tk σ) I (hb.pos s0 [] l) (by rw [List.length_map]; exact l) .nil ⟨mk, ρ, M, [], ko, .nil, h⟩)
theorem pick_rep {K : PySem.W.Frag} {ρ : List Addr} {H : Hp} {vs : List PV} {us : List V} {ws : List Value} (r : RepVs K ρ H vs us) (q : Vals us ws) : ∀ {is : List Nat} {zs : List PV}, PL.pick vs is = some zs → ∃ zu zw, PL.pick ws is = some zw ∧ RepVs K ρ H zs zu ∧ Vals zu zw
  | [], zs, h => by
    simp only [PL.pick, Option.some.injEq] at h
    subst h
    exact ⟨[], [], rfl, .nil, .nil⟩
  | i :: is, zs, h => by
    simp only [PL.pick, Option.bind_eq_some_iff, Option.map_eq_some_iff] at h
    obtain ⟨v, h1, t, h2, rfl⟩ := h
    obtain ⟨zu, zw, a1, a2, a3⟩ := pick_rep r q h2
    obtain ⟨u, b1, b2⟩ := r.get h1
    obtain ⟨w, c1, c2⟩ := q.get b1
    exact ⟨u :: zu, w :: zw, by simp only [PL.pick, c1, a1]; rfl, .cons b2 a2, .cons c2 a3⟩
/-! keywords -/
theorem rK_nil : PK X [] (tIs RX X.K W mk fun _ M => .ok [] M) := ⟨fun pos pins s0 σ H Q I ⟨ρ, s, M, re, k, h⟩ => pk_nil.run pos pins s0 σ H Q I (h.ok k .nil)⟩
theorem rK_cons {nm : Option Str} {kpos : Pos} {kws : List Keyword} (ha : PE X a (tI RX X.K W mk ma)) (hr : PK X kws (tIs RX X.K W mk ms)) :
    PK X (⟨nm, a, kpos⟩ :: kws) (tIs RX X.K W mk fun σ M => (ma σ M).bind fun x M1 => (ms σ M1).bind fun xs M2 => .ok (x :: xs) M2) :=
  ⟨fun pos pins s0 σ H Q I ⟨ρ, s, M, re, k, h⟩ => (pk_cons ha hr).run pos pins s0 σ H Q I
    ⟨ρ, s, M, re, k, Post.bind h fun v M1 ρ1 H1 u x1 k1 r1 h1 => ⟨ρ1, s, M1, re.ext x1, k1, Post.bind h1 fun w M2 ρ2 H2 z x2 k2 r2 h2 => h2.ok k2 (.cons (r1.ext x2) r2)⟩⟩⟩
theorem kw_names {env : Env} {pos : Pos} : ∀ {kws : List Keyword} {ks : List String}, kws.map (·.arg) = ks.map (fun k => some (Str.ofString k)) →
    (backToKw pos (keywordEach kws env)).all (·.1.isSome) = true ∧ (backToKw pos (keywordEach kws env)).filterMap (·.1) = ks.map Str.ofString ∧ (backToKw pos (keywordEach kws env)).any (·.1.isNone) = false
  | [], [], _ => ⟨rfl, rfl, rfl⟩
  | [], _ :: _, h => by simp at h
  | _ :: _, [], h => by simp at h
  | ⟨nm, e, kp⟩ :: kws, k :: ks, h => by
    simp only [List.map_cons, List.cons.injEq] at h
    obtain ⟨h1, h2⟩ := h
    obtain ⟨a1, a2, a3⟩ := kw_names (env := env) (pos := pos) h2
    subst h1
    refine ⟨?_, ?_, ?_⟩
    · show ((true && (backToKw pos (keywordEach kws env)).all (·.1.isSome))) = true
      rw [a1]; rfl
    · show Str.ofString k :: (backToKw pos (keywordEach kws env)).filterMap (·.1) = _
      rw [a2]; rfl
    · show ((false || (backToKw pos (keywordEach kws env)).any (·.1.isNone))) = false
      rw [a3]; rfl
/-- a call with keywords -/
def mfnk (P : String → Option (List String)) (C : PL.Orc) (mk : Mk) (f : String) (ks : List String) (ms mks : Mn (List PV)) : Mn PV := fun σ M => (ms σ M).bind fun xs M1 => (mks σ M1).bind fun ys M2 => if ys.length = ks.length then
      match (P f).bind fun ps => (PL.permIdx ps xs.length ks).bind fun is => PL.pick (xs ++ ys) is with
      | some zs => C mk f zs M2
      | none => .no
    else .no
theorem kw_h {P : String → Option (List String)} {C : PL.Orc} {f : String} {ps : List String} {ks : List String} {σ : L2.St} {H : Hp} {Q : VK} {K : PySem.W.Frag} (hP : P f = some ps) (hl : ∀ mk xs M, xs.length ≠ ps.length → C mk f xs M = .no)
    (h : tI RX K W mk (mfnk P C mk f ks ms mks) σ H Q) : tIs RX K W mk ms σ H fun vs H1 => tIs RX K W mk mks σ H1 fun zs H2 => zs.length = ks.length ∧ ∀ us ws, Vals vs us → Vals zs ws →
      ∃ is tu tw, PL.permIdx ps us.length ks = some is ∧ PL.pick (us ++ ws) is = some tw ∧ Vals tu tw ∧ tw.length = ps.length ∧ spF C RX K f tu H2 Q fun cls d H => W cls d σ H := by
  obtain ⟨ρ, s, M, re, ko, h⟩ := h
  refine ⟨ρ, s, M, re, ko, Post.bind h fun v M1 ρ1 H1 u x1 k1 r1 h1 => ⟨ρ1, s, M1, re.ext x1, k1, Post.bind h1 fun y M2 ρ2 H2 t x2 k2 r2 h2 => ?_⟩⟩
  split at h2
  · rename_i hy
    refine ⟨by rw [← r2.length]; exact hy, fun us ws q1 q2 => ?_⟩
    rw [hP, Option.bind_some] at h2
    split at h2
    · rename_i zs e
      obtain ⟨is, e1, e2⟩ := Option.bind_eq_some_iff.mp e
      obtain ⟨zu, zw, a1, a2, a3⟩ := pick_rep ((r1.ext x2).append r2) (q1.append q2) e2
      by_cases l : zs.length = ps.length
      · exact ⟨is, zu, zw, by rw [← q1.length, ← r1.length]; exact e1, a1, a3, by rw [← a3.length, ← a2.length]; exact l, mk, ρ2, M2, zs, k2, a2, h2⟩
      · rw [hl _ _ _ l] at h2; exact h2.elim
    · exact h2.elim
  · exact h2.elim
theorem rE_fnk {P : String → Option (List String)} {C : PL.Orc} {f : String} {ps : List String} {ks : List String} {kws : List Keyword} {n : Str} {e : Expr} (hf : FunIn X C RX f ps) (hP : P f = some ps) (hgu : X.A.guards = some []) (tk : Takes X W) (hg : Gl X n) (hn : n = Str.ofString f)
    (hd : (n == ("__debug__" : Str)) = false) (ha : PA X (e :: es) (tIs RX X.K W mk ms)) (hs : (e :: es).any isStar = false) (hkw : PK X kws (tIs RX X.K W mk mks)) (hks : kws.map (·.arg) = ks.map (fun k => some (Str.ofString k))) :
    PEB RX X W mk (.Call (.Name n p) (e :: es) kws pos) (mfnk P C mk f ks ms mks) := by
  subst hn
  obtain ⟨hl, fa, fd, k, hm, hk, hr, hb, F⟩ := hf
  refine .plain ⟨fun pins s0 σ H Q I h => ?_⟩ rfl
  refine wpAny_Call_Name_kw (ld_glob I hg hm ?_ hd)
  obtain ⟨n1, n2, n3⟩ := kw_names (env := X.env) (pos := pos) hks
  refine PySem.W.callWith_KW (h₀ := X.base) I.ok.mod.kin hk n1 (thn (ha.run pos pins s0 σ H _ I (kw_h hP hl h)) fun us s1 ⟨vs, H1, I1, r, q⟩ => ?_) (by rw [backTo_plain hs, n3]; rfl) (starEach_of (by rw [List.any_cons, Bool.or_eq_false_iff] at hs; exact hs.1) _)
  refine thn (hkw.run pos pins s1 σ H1 _ I1 q) fun ws s2 ⟨zs, H2, I2, rz, lz, q2⟩ => ⟨I2.kIn, ?_⟩
  obtain ⟨is, tu, tw, e1, e2, e3, e4, e5⟩ := q2 us ws r rz
  rw [n2]
  exact run_G (us := us) F hr hgu (pass_W tk σ) I2 (hb.kw s2 us ws tw ks is (by rw [← rz.length]; exact lz) e1 e2 e4) (by rw [List.length_map]; exact e4) e3 e5
theorem rE_fnk0 {P : String → Option (List String)} {C : PL.Orc} {f : String} {ps : List String} {ks : List String} {kws : List Keyword} {n : Str} (hf : FunIn X C RX f ps) (hP : P f = some ps) (hgu : X.A.guards = some []) (tk : Takes X W) (hg : Gl X n) (hn : n = Str.ofString f)
    (hd : (n == ("__debug__" : Str)) = false) (hkw : PK X kws (tIs RX X.K W mk mks)) (hks : kws.map (·.arg) = ks.map (fun k => some (Str.ofString k))) :
    PEB RX X W mk (.Call (.Name n p) [] kws pos) (mfnk P C mk f ks (fun _ M => .ok [] M) mks) := by
  subst hn
  obtain ⟨hl, fa, fd, k, hm, hk, hr, hb, F⟩ := hf
  refine .plain ⟨fun pins s0 σ H Q I h => ?_⟩ rfl
  refine wpAny_Call_Name_kw (ld_glob I hg hm ?_ hd)
  obtain ⟨n1, n2, n3⟩ := kw_names (env := X.env) (pos := pos) hks
  obtain ⟨ρ, s, M, re, ko, h⟩ := kw_h hP hl h
  have h := h.ok ko .nil
  refine PySem.W.callWith_KW0 (h₀ := X.base) I.ok.mod.kin hk n1 ?_ (by rw [n3]; rfl)
  refine thn (hkw.run pos pins s0 σ H _ I h) fun ws s2 ⟨zs, H2, I2, rz, lz, q2⟩ => ⟨I2.kIn, ?_⟩
  obtain ⟨is, tu, tw, e1, e2, e3, e4, e5⟩ := q2 [] ws .nil rz
  rw [n2]
  exact run_G (us := []) F hr hgu (pass_W tk σ) I2 (hb.kw s2 [] ws tw ks is (by rw [← rz.length]; exact lz) e1 e2 e4) (by rw [List.length_map]; exact e4) e3 e5
end
end PLS

/-! PLS13: what is built in, called; methods; and, or. -/
namespace PLS
open PySem PySem.Spec PyProof.Rows L2

def pName : PL.Pr → String
  | .len => "len"
  | .abs => "abs"
  | .int => "int"
  | .repr => "repr"
  | .tuple => "tuple"
  | .list => "list"
  | .max => "max"
  | .min => "min"
  | .sum => "sum"
  | .any => "any"
  | .all => "all"
  | .sorted => "sorted"
  | .sortedSet => "sorted"
  | .bool => "bool"
def pType : PL.Pr → Bool
  | .int | .tuple | .list => true
  | _ => false
def pOk : PL.Pr → Bool
  | .sortedSet | .bool => false
  | _ => true
def pVal (p : PL.Pr) : Value := if pType p then .type (pName p) else .builtin (pName p)
theorem boot_p (p : PL.Pr) (h : pOk p = true) : bootBuiltins (Str.ofString (pName p)) = some (pVal p) := by
  cases p <;> first | (simp [pOk] at h; done) | decide +kernel
section
variable {X : Cx} {RX : RXT} {W : WX} {mk : Mk} {x a b c e : Expr} {es : List Expr} {m ma mb mc : Mn PV} {ms mks : Mn (List PV)} {pos pos2 p p2 : Pos} {E : EXC}
theorem pr_call (hu : X.A.units + 200 < cLine) (hgu : X.A.guards = some []) (hc : X.calm = true) (p : PL.Pr) (h : pOk p = true) : CallR X (pVal p) (rP X.K mk E p) := by
  cases p with
  | len => exact pr_len
  | abs => exact pr_abs
  | int => exact pr_int
  | repr => exact pr_repr hu hgu
  | tuple => exact pr_tuple
  | list => exact pr_list hc
  | max => exact pr_max hu hc
  | min => exact pr_min hu hc
  | sum => exact pr_sum hc
  | any => exact pr_any hc
  | all => exact pr_all hc
  | sorted => exact pr_sorted
  | sortedSet => simp [pOk] at h
  | bool => simp [pOk] at h
/-- a call of something known, by name -/
theorem pe_known {f : Value} {r : List V → Hp → VK → Prop} {t : TA} {n : Str} (hf : ∃ id, f = .builtin id ∨ f = .type id) (hc : CallR X f r) (hg : Gl X n) (hm : X.mg n = none) (hv : bootBuiltins n = some f) (ha : PA X (e :: es) t) (hs : (e :: es).any isStar = false)
    (hn : n ≠ "__name__") (hd : (n == ("__debug__" : Str)) = false) : PE X (.Call (.Name n p) (e :: es) [] pos) (tCB r t) := by
  rw [List.any_cons, Bool.or_eq_false_iff] at hs
  obtain ⟨id, rfl | rfl⟩ := hf
  · exact pe_callB hc hg hm hv ha hn hd (starEach_of hs.1 _) (backTo_plain hs.2)
  · exact pe_callTy hc hg hm hv ha hn hd (starEach_of hs.1 _) (backTo_plain hs.2)
theorem rE_pr {q : PL.Pr} (hu : X.A.units + 200 < cLine) (hgu : X.A.guards = some []) (hc : X.calm = true) (hq : pOk q = true) (hg : Gl X (Str.ofString (pName q))) (hm : X.mg (Str.ofString (pName q)) = none)
    (ha : PA X (e :: es) (tIs RX X.K W mk ms)) (hs : (e :: es).any isStar = false) :
    PEB RX X W mk (.Call (.Name (Str.ofString (pName q)) p) (e :: es) [] pos) fun σ M => (ms σ M).bind fun xs M1 => PL.prim M1 q xs := by
  have hb := boot_p q hq
  refine .plain (PE.imp (pe_known (by unfold pVal; cases pType q; exact ⟨pName q, .inl (by simp)⟩; exact ⟨pName q, .inr (by simp)⟩) (CallR.ex fun E => pr_call (E := E) hu hgu hc q hq) hg hm hb ha hs (by cases q <;> decide +kernel) (by cases q <;> decide +kernel)) fun σ H Q ⟨ρ, s, M, re, k, h⟩ =>
    ⟨ρ, s, M, re, k, Post.bind h fun v M1 ρ1 H1 u x1 k1 r1 h1 => ⟨_, ρ1, M1, v, k1, r1, h1⟩⟩) rfl
theorem pe_tyName {T : PL.Ty} {n : Str} (hn : n = Str.ofString (tyS T)) (hg : Gl X n) (hm : X.mg n = none) : PE X (.Name n p) (tC (.ty (tyS T))) := by
  subst hn
  cases T
  all_goals exact pe_bltn hg hm (u := .type _) (by decide +kernel) rfl (by decide +kernel) (by decide +kernel)
theorem rE_isi {T : PL.Ty} {n : Str} (hn : n = Str.ofString (tyS T)) (hg : Gl X n) (hm : X.mg n = none) (hg2 : Gl X "isinstance") (hm2 : X.mg "isinstance" = none) (ha : PE X a (tI RX X.K W mk ma)) (hs : isStar a = false) :
    PEB RX X W mk (.Call (.Name "isinstance" p) [a, .Name n p2] [] pos) fun σ M => (ma σ M).bind fun x M1 => .ok (.bl (PL.isTy M1 x T)) M1 := by
  have hA : PA X [a, .Name n p2] (tCons (tI RX X.K W mk ma) (tCons (tC (.ty (tyS T))) tNil)) := pa_cons ha (pa_cons (pe_tyName hn hg hm) pa_nil rfl) (starEach_of hs _)
  refine .plain (PE.imp (pe_callB call_isi hg2 hm2 PyProof.Rows.boot_isinstance hA (by decide +kernel) (by decide +kernel) (starEach_of hs _) rfl) fun σ H Q ⟨ρ, s, M, re, k, h⟩ =>
    ⟨ρ, s, M, re, k, Post.bind h fun v M1 ρ1 H1 u x1 k1 r1 h1 => ?_⟩) rfl
  obtain ⟨tv, h2, h3⟩ := isi_rep k1.rep T r1
  exact ⟨u, .ty (tyS T), _, _, _, rfl, .ty _, h2, kit_ty h3, h1.ok k1 (by simp only [RepV])⟩
theorem rE_sset (hc : X.calm = true) (hg : Gl X "sorted") (hm : X.mg "sorted" = none) (hg2 : Gl X "set") (hm2 : X.mg "set" = none) (ha : PE X a (tI RX X.K W mk ma)) (hs : isStar a = false) :
    PEB RX X W mk (.Call (.Name "sorted" p) [.Call (.Name "set" p2) [a] [] pos2] [] pos) fun σ M => (ma σ M).bind fun x M1 => PL.pSortedSet M1 x := by
  have h1 : PE X (.Call (.Name "set" p2) [a] [] pos2) (tCB (rSetT X.K X.w) (tCons (tI RX X.K W mk ma) tNil)) := pe_callTy (cr_setT hc) hg2 hm2 (by decide +kernel) (pa_cons ha pa_nil (starEach_of hs _)) (by decide +kernel) (by decide +kernel) (starEach_of hs _) rfl
  have h2 := pe_callB (id := "sorted") (p := p) (pos := pos) (cr_sortedSet hc) hg hm (by decide +kernel) (pa_cons h1 pa_nil rfl) (by decide +kernel) (by decide +kernel) rfl rfl
  refine .plain (PE.imp h2 fun σ H Q ⟨ρ, s, M, re, k, h⟩ => ⟨ρ, s, M, re, k, Post.bind h fun v M1 ρ1 H1 u x1 k1 r1 h1 => ?_⟩) rfl
  exact sortedSet_rep k1 r1 h1
/-! ### methods -/
theorem rE_mt {q : PL.Mt} {name : Str} {apos : Pos} (hu : X.A.units + 200 < cLine) (hn : name = Str.ofString (mtName q)) (ha : PE X a (tI RX X.K W mk ma)) (hs : PA X es (tIs RX X.K W mk ms)) (hst : es.any isStar = false) (hlen : es.length < 30)
    (hnil : es = [] → ∀ σ M, ms σ M = .ok [] M) (hcl : isCall a = false) (hline : (apos.endLine == pos.line) = true) :
    PEB RX X W mk (.Call (.Attribute a name apos) es [] pos) fun σ M => (ma σ M).bind fun x M1 => if PL.recvOk M1 q x then (ms σ M1).bind fun xs M2 => PL.meth mk M2 q x xs else .no := by
  subst hn
  refine .plain ⟨fun pins s0 σ H Q I ⟨ρ, s, M, re, k, h⟩ => ?_⟩ rfl
  have few : ((backTo pos (starEach es X.env)).all (fun x => !x.1) && (backToKw pos (keywordEach [] X.env)).all (fun x => x.1.isSome)
      && decide (es.length + ([] : List Keyword).length + (if ([] : List Keyword).isEmpty then 0 else 1) < 30)) = true := by
    rw [backTo_all hst]
    have : decide (es.length + ([] : List Keyword).length + (if ([] : List Keyword).isEmpty then 0 else 1) < 30) = true := decide_eq_true (by simpa using hlen)
    rw [this]; rfl
  refine wpAny_Call_method_late (base_of hcl _ _ _) few hline rfl (thn (ha.run pins s0 σ H (fun u H1 => ∃ ρ1 M1 v T, RepE X.K ρ1 H1 s σ ∧ Ok X.K mk ρ1 H1 M1 ∧ RepV X.K ρ1 H1 v u ∧ PL.tyR M1 v = some T ∧ PL.hasM q T = true ∧
    Post X.K mk (RepV X.K) (EX RX X.K W σ) ρ1 H1 Q ((ms s M1).bind fun xs M2 => PL.meth mk M2 q v xs)) I ⟨ρ, s, M, re, k, Post.bind h fun v M1 ρ1 H1 u x1 k1 r1 h1 => ?_⟩) fun ov s1 ⟨u, H1, I1, ru, ρ1, M1, v, T, re1, k1, r1, hT, hM, h1⟩ => ?_)
  · split at h1
    · rename_i hr
      unfold PL.recvOk at hr
      split at hr
      · rename_i T hT
        exact ⟨ρ1, M1, v, T, re.ext x1, k1, r1, hT, hr, h1⟩
      · cases hr
    · exact h1.elim
  · obtain ⟨f1, f2, f3⟩ := mt_facts T q hM
    obtain ⟨t1, t2⟩ := tyR_at I1 k1.rep r1 ru hT
    refine ⟨_, _, f1, f2, f3, t1, t2, ?_⟩
    have fin : ∀ (us : List Value) (s2 : Shared), AP X pins σ (fun us H2 => rMt X.K mk (EX RX X.K W σ) T q u us H2 Q) us s2 → wpAny (model X.prog X.w) X.A (call (.builtin (mtId T q)) (ov :: us)) (EP X pins σ Q) X.xe s2 :=
      fun us s2 ⟨vs, H2, I2, rv, q2⟩ => mt_all hu T q hM pins s2 σ H2 u vs ov us Q I2 ru rv q2
    have hA := hs.run pos pins s1 σ H1 (fun us H2 => rMt X.K mk (EX RX X.K W σ) T q u us H2 Q) I1 ⟨ρ1, s, M1, re1, k1, Post.bind h1 fun ys M2 ρ2 H2 ws x2 k2 r2 h2 => ⟨ρ2, M2, v, ys, k2, r1.ext x2, r2, tyR_xT hT, h2⟩⟩
    cases es with
    | nil =>
      refine Calls.callWith_builtin rfl (PySem.evalArgs_none ?_)
      rw [hnil rfl] at h1
      exact mt_all hu T q hM pins s1 σ H1 u [] ov [] Q I1 ru .nil ⟨ρ1, M1, v, [], k1, r1, .nil, tyR_xT hT, h1⟩
    | cons e es =>
      have hst2 := hst
      rw [List.any_cons, Bool.or_eq_false_iff] at hst2
      rw [starEach_of hst2.1] at hA ⊢
      exact Calls.callWith_builtin (by show (false || (backTo pos (starEach es X.env)).any (·.1)) = false; rw [backTo_plain hst2.2]; rfl) (Calls.evalArgs_plain (thn hA fun us s2 z => fin us s2 z))
/-! ### and, or -/
structure PWB (RX : RXT) (X : Cx) (W : WX) (mk : Mk) (op : BoolOp) (es : List Expr) (pos : Pos) (m : Mn PV) : Prop where
  v : PE X (.BoolOp op es pos) (tI RX X.K W mk m)
  t : PW X (.BoolOp op es pos) (tIb RX X.K W mk m)
def bOp (o : Bool) : BoolOp := if o then .And else .Or
theorem rB_one {o : Bool} (ha : PEB RX X W mk a ma) : PWB RX X W mk (bOp o) [a] pos fun σ M => (ma σ M).bind fun x M1 => match x with | .bl c => .ok (.bl c) M1 | _ => .no := by
  refine ⟨PE.imp (pe_one ha.v) fun σ H Q ⟨ρ, s, M, re, k, h⟩ => ⟨ρ, s, M, re, k, Post.bind h fun v M1 ρ1 H1 u x1 k1 r1 h1 => ?_⟩, ?_⟩
  · cases v with
    | bl b => exact h1.ok k1 r1
    | _ => exact h1.elim
  · have hp : PW X (.BoolOp (bOp o) [a] pos) (tIb RX X.K W mk ma) := by
      cases o with
      | true => exact pw_and1 ha.t
      | false => exact pw_or1 ha.t
    refine PW.imp hp fun σ H Q ⟨ρ, s, M, re, k, h⟩ => ⟨ρ, s, M, re, k, ?_⟩
    dsimp only at h
    rw [asB_bind] at h
    rcases m_cases (ma s M) with e | ⟨x, M1, e⟩ | ⟨v, M1, e⟩
    · rw [e] at h; exact h.elim
    · rw [e] at h ⊢; exact h
    · rw [e] at h ⊢
      cases v with
      | bl b => exact h
      | _ => exact h.elim
theorem rB_cons {o : Bool} {rest : List Expr} (ha : PEB RX X W mk a ma) (hb : PWB RX X W mk (bOp o) (b :: rest) pos mb) :
    PWB RX X W mk (bOp o) (a :: b :: rest) pos fun σ M => (ma σ M).bind fun x M1 => match x with | .bl c => if c = o then mb σ M1 else .ok (.bl c) M1 | _ => .no := by
  constructor
  · cases o with
    | true =>
      refine PE.imp (pe_and ha.v hb.v) fun σ H Q ⟨ρ, s, M, re, k, h⟩ => ⟨ρ, s, M, re, k, Post.bind h fun v M1 ρ1 H1 u x1 k1 r1 h1 => ?_⟩
      cases v with
      | bl c =>
        simp only [RepV] at r1
        refine ⟨c, r1, ?_⟩
        cases c with
        | true => exact ⟨ρ1, s, M1, re.ext x1, k1, h1⟩
        | false => exact h1.ok k1 (by simp only [RepV])
      | _ => exact h1.elim
    | false =>
      refine PE.imp (pe_or ha.v hb.v) fun σ H Q ⟨ρ, s, M, re, k, h⟩ => ⟨ρ, s, M, re, k, Post.bind h fun v M1 ρ1 H1 u x1 k1 r1 h1 => ?_⟩
      cases v with
      | bl c =>
        simp only [RepV] at r1
        refine ⟨c, r1, ?_⟩
        cases c with
        | true => exact h1.ok k1 (by simp only [RepV])
        | false => exact ⟨ρ1, s, M1, re.ext x1, k1, h1⟩
      | _ => exact h1.elim
  · have key : ∀ {σ : L2.St} {H : Hp} {Q : Bool → Hp → Prop}, tIb RX X.K W mk (fun σ M => (ma σ M).bind fun x M1 => match x with | .bl c => if c = o then mb σ M1 else .ok (.bl c) M1 | _ => .no) σ H Q →
        tIb RX X.K W mk ma σ H fun c H1 => if c = o then tIb RX X.K W mk mb σ H1 Q else Q c H1 := fun {σ H Q} ⟨ρ, s, M, re, k, h⟩ => by
      refine ⟨ρ, s, M, re, k, ?_⟩
      dsimp only at h
      rw [asB_bind] at h
      rcases m_cases (ma s M) with e | ⟨x, M1, e⟩ | ⟨v, M1, e⟩
      · rw [e] at h; exact h.elim
      · rw [e] at h ⊢; exact h
      · rw [e] at h ⊢
        cases v with
        | bl b =>
          exact fun ρ' H' d x' k' r' => by
            subst r'
            have h2 := Post.ext h x'
            rw [PL.R.bind_ok] at h2
            by_cases hb : b = o
            · simp only [if_pos hb] at h2 ⊢
              exact ⟨ρ', s, M1, re.ext x', k', h2⟩
            · simp only [if_neg hb] at h2 ⊢
              exact Post.ok (Rel := fun _ _ (a b : Bool) => a = b) (a := b) h2 k' rfl
        | _ => exact h.elim
    cases o with
    | true =>
      refine PW.imp (pw_and ha.t hb.t) fun σ H Q q => ?_
      obtain ⟨ρ, s, M, re, k, h⟩ := key q
      refine ⟨ρ, s, M, re, k, Post.mono h fun ρ1 H1 c x1 z => ?_⟩
      cases c with
      | true => exact z
      | false => exact z
    | false =>
      refine PW.imp (pw_or ha.t hb.t) fun σ H Q q => ?_
      obtain ⟨ρ, s, M, re, k, h⟩ := key q
      refine ⟨ρ, s, M, re, k, Post.mono h fun ρ1 H1 c x1 z => ?_⟩
      cases c with
      | true => exact z
      | false => exact z
theorem PWB.eb {op : BoolOp} (h : PWB RX X W mk op es pos m) : PEB RX X W mk (.BoolOp op es pos) m := ⟨h.v, h.t.pt⟩
/-! ### list(range(..)) -/
theorem rE_lrng1 (hc : X.calm = true) (hg : Gl X "list") (hm : X.mg "list" = none) (hg2 : Gl X "range") (hm2 : X.mg "range" = none) (ha : PE X a (tI RX X.K W mk ma)) (hs : isStar a = false) :
    PEB RX X W mk (.Call (.Name "list" p) [.Call (.Name "range" p2) [a] [] pos2] [] pos) fun σ M => (ma σ M).bind fun y M2 => match PL.V.int 0, y with
      | .int i, .int j => if PL.rOk i && PL.rOk j && decide ((j - i).toNat ≤ PL.SZ) then PL.alloc (.lst (PL.ranged i (j - i).toNat)) M2 else .no
      | _, _ => .no := by
  refine .plain (PE.imp (pe_listRg hc hg hm (prg_1 hg2 hm2 ha (starEach_of hs _)) rfl) fun σ H Q ⟨ρ, s, M, re, k, h⟩ => ⟨ρ, s, M, re, k, Post.bind h fun v M1 ρ1 H1 u x1 k1 r1 h1 => ?_⟩) rfl
  split at h1
  · rename_i i j e
    simp only [RepV] at r1
    subst r1
    cases e
    split at h1
    · rename_i hr
      simp only [Bool.and_eq_true, PL.rOk, decide_eq_true_eq] at hr
      obtain ⟨⟨⟨a1, a2⟩, a3, a4⟩, a5⟩ := hr
      exact ⟨j, rfl, ⟨a1, a2, a3, a4, a5⟩, fun q n => post_alloc h1 k1 ⟨_, rfl, by
        have := repVs_ints (K := X.K) (ρ := ρ1) (H := H1) ((List.range (j - 0).toNat).map fun t => (0 : Int) + (t : Nat))
        rw [List.map_map, List.map_map] at this
        exact this⟩ q n⟩
    · exact h1.elim
  · exact h1.elim
theorem rE_lrng2 (hc : X.calm = true) (hg : Gl X "list") (hm : X.mg "list" = none) (hg2 : Gl X "range") (hm2 : X.mg "range" = none) (ha : PE X a (tI RX X.K W mk ma)) (hs : isStar a = false) (hb : PE X b (tI RX X.K W mk mb)) (hs2 : isStar b = false) :
    PEB RX X W mk (.Call (.Name "list" p) [.Call (.Name "range" p2) [a, b] [] pos2] [] pos) fun σ M => (ma σ M).bind fun x M1 => (mb σ M1).bind fun y M2 => match x, y with
      | .int i, .int j => if PL.rOk i && PL.rOk j && decide ((j - i).toNat ≤ PL.SZ) then PL.alloc (.lst (PL.ranged i (j - i).toNat)) M2 else .no
      | _, _ => .no := by
  refine .plain (PE.imp (pe_listRg hc hg hm (prg_2 hg2 hm2 ha hb (starEach_of hs _) (starEach_of hs2 _) (backTo_plain (by rw [List.any_cons, hs2]; rfl))) rfl) fun σ H Q ⟨ρ, s, M, re, k, h⟩ => ⟨ρ, s, M, re, k, Post.bind h fun v M1 ρ1 H1 u x1 k1 r1 h1 =>
    ⟨ρ1, s, M1, re.ext x1, k1, Post.bind h1 fun w M2 ρ2 H2 t x2 k2 r2 h2 => ?_⟩⟩) rfl
  split at h2
  · rename_i i j
    simp only [RepV] at r1 r2
    subst r1 r2
    split at h2
    · rename_i hr
      simp only [Bool.and_eq_true, PL.rOk, decide_eq_true_eq] at hr
      obtain ⟨⟨⟨a1, a2⟩, a3, a4⟩, a5⟩ := hr
      exact ⟨i, j, rfl, rfl, ⟨a1, a2, a3, a4, a5⟩, fun q n => post_alloc h2 k2 ⟨_, rfl, by
        have := repVs_ints (K := X.K) (ρ := ρ2) (H := H2) ((List.range (j - i).toNat).map fun t => i + (t : Nat))
        rw [List.map_map, List.map_map] at this
        exact this⟩ q n⟩
    · exact h2.elim
  · exact h2.elim
end
end PLS

/-! PLS14: what is walked; targets. -/
namespace PySem
open Sem (wp)
set_option maxHeartbeats 1000000 in
/-- enumerate(v) of what begins -/
theorem pl_enum_new {v : Value} {o : Obj} {Hv : Heap → Prop} (B : Begins v o Hv) : Meets (Builtin.«enumerate.__new__» ⟨[.type "enumerate", v], []⟩)
    (fun _ R s => Hv s.heap ∧ R (.ok (.ret (.ref (s.heap.push o).objs.size)))
      { s with heap := (s.heap.push o).push { cls := .type "enumerate", data := .fields #[.none, .bool false, .ref s.heap.objs.size, rawInt 0, .none, .none] } }) :=
  .of_wp fun pg wo Ar R s h => by
    obtain ⟨hp, g, d, tk, os⟩ := s; obtain ⟨h1, h2⟩ := h
    have sub := sub_enumerate
    have q1 : ∀ {A' : Around} {E' : Value → Shared → Prop} {Q' : Value → Shared → Prop}, Q' (.ref hp.objs.size) ⟨hp.push o, g, d, tk, os⟩ → wpAny (model pg wo) A' (pyIter v) Q' E' ⟨hp, g, d, tk, os⟩ := fun z => B.iter pg wo _ _ ⟨hp, g, d, tk, os⟩ _ h1 z
    wp_walk using q1
    refine wpAny_stack_any (fun _ => wpAny_pure ?_)
    split
    · rename_i c _ _ _ _ _
      cases (c == Value.type "enumerate") <;> (wp_walk using q1; exact ⟨_, rfl, h2⟩)
    · wp_walk using q1
      exact ⟨_, rfl, h2⟩
theorem pl_enum_call {prog : Program} {w : World} {A : Around} {E : Value → Shared → Prop} {s : Shared} {v : Value} {o : Obj} {Hv : Heap → Prop} {Q : Value → Shared → Prop} (B : Begins v o Hv) (h1 : Hv s.heap)
    (h : ∀ h', IsEnum h' (s.heap.objs.size + 1) s.heap.objs.size 0 .none → h'.get? s.heap.objs.size = some o → (∀ b u, s.heap.get? b = some u → h'.get? b = some u) → Q (.ref (s.heap.objs.size + 1)) { s with heap := h' }) :
    wpAny (model prog w) A (call (.type "enumerate") [v]) Q E s := by
  refine callType_new F.called_enumerate (by decide) (F.typeCall_enumerate_1 _) (F.newCall_enumerate_1 _) (fun obj => F.args_object_init_2 obj _) F.entry_enumerate_new (pl_enum_new B) ⟨h1, ?_⟩
  have hz : (s.heap.push o).objs.size = s.heap.objs.size + 1 := Heap.size_push ..
  have he : IsEnum ((s.heap.push o).push { cls := .type "enumerate", data := .fields #[.none, .bool false, .ref s.heap.objs.size, rawInt 0, .none, .none] }) (s.heap.objs.size + 1) s.heap.objs.size 0 .none := by
    have := Heap.get?_push_size (s.heap.push o) (o := { cls := .type "enumerate", data := .fields #[.none, .bool false, .ref s.heap.objs.size, rawInt 0, .none, .none] }) rfl
    rw [hz] at this; exact this
  show _ ∧ _
  rw [hz]
  exact ⟨⟨_, he, rfl⟩, h _ he (Heap.get?_push_of_some _ (Heap.get?_push_size _ B.free)) fun b u x => Heap.get?_push_of_some _ (Heap.get?_push_of_some _ x)⟩
end PySem
namespace PLS
open PySem PySem.Spec PyProof.Rows L2
/-! ### enumerate(a tuple) -/
def IteT (K : PySem.W.Frag) (a : Addr) : It :=
  ⟨fun i H => ∃ (xs : List V) (x : V), SqT K H a xs ∧ xs[i]? = some x, fun i H v H' => ∃ T x, v = .ref T ∧ H T = none ∧ H' = upd H T (.tup [.int (i : Nat), x]) ∧ ∀ xs, SqT K H a xs → xs[i]? = some x,
   fun i H => ∃ xs : List V, SqT K H a xs ∧ xs.length = i⟩
theorem turn_enumT {P : Program} {w : World} {K : PySem.W.Frag} {elts : List Expr} {kk : Nat} {tpos : Pos} (a e it : Addr) (n1 : e ≠ it) (n2 : e ≠ a) (n3 : a ≠ it) :
    Turn P w K (.Tuple elts kk tpos) (IteT K a) [e, it] e (fun i h => (∃ old, IsEnum h e it ((i : Nat) : Int) old) ∧ h.IsTupleIter it a i) where
  mem := by simp
  obj := fun i h st b hb => by
    obtain ⟨⟨old, he⟩, ⟨o, ho, hc, hd⟩⟩ := st
    rcases (show b = e ∨ b = it by simpa using hb) with z | z
    · rw [z]; exact ⟨_, he, fun v q => nomatch q⟩
    · rw [z]; exact ⟨o, ho, fun v q => by rw [hd] at q; cases q⟩
  keep := fun i h h' st k => let ⟨⟨old, he⟩, hi⟩ := st; ⟨⟨old, k e (by simp) _ he⟩, hi.at fun o q => k it (by simp) o q⟩
  item := by
    intro X hP hw hK hc i pins s σ H E I hf st hg
    subst hP hw hK
    obtain ⟨⟨old, he⟩, hit⟩ := st
    obtain ⟨xs, x, hq, hx⟩ := hg
    obtain ⟨its, rv, p, hz⟩ := I.tuple hq
    obtain ⟨u, hu, ru⟩ := rv.get hx
    have hel : e < s.heap.objs.size := Heap.lt_size he
    have hil : it < s.heap.objs.size := by obtain ⟨_, q, _⟩ := hit; exact Heap.lt_size q
    have hi : i < its.toArray.size := by
      rw [List.size_toArray]
      exact (List.getElem?_eq_some_iff.mp hu).1
    have D := Draws.tuple (prog := X.prog) (w := X.w) (A := X.A.in1) (show X.A.in1.handled = none from I.ok.hd hc) it a n3 its.toArray
    refine wpAny_pyNext_enum_itemD D he ⟨hit, p⟩ hi n1 (by simp [n1, n2]) fun y h' tk hy ho hs hT hsz hk => ?_
    have ey : y = u := by
      have : its[i]? = some y := by simpa using hy
      rw [hu] at this; exact (Option.some.inj this).symm
    subst ey
    refine ⟨_, rfl, wpAny_letOwnedTupleGo_enum (s := { s with heap := h', toks := tk + 1 }) ho fun h'' he' sb => ?_⟩
    have hT2 : h''.get? s.heap.objs.size = some { cls := .type "tuple", data := .seq #[.int i tk, y] } := (sb.2 _ (Nat.ne_of_gt hel)).trans hT
    have new : ObjOk X.prog X.w (upd H s.heap.objs.size (.tup [.int (i : Nat), x])) h'' s.heap.objs.size (.tup [.int (i : Nat), x]) :=
      ⟨by show 2 ≤ sizeLine; decide, [.int i tk, y], .cons ⟨_, rfl⟩ (.cons ru .nil), ⟨_, hT2, rfl, _, rfl⟩⟩
    have I1 : Inv X pins σ (upd H s.heap.objs.size (.tup [.int (i : Nat), x])) { s with heap := h'', toks := tk + 1 } :=
      I.turnedNew (ch := [e, it]) (fun b ob hb q => (sb.2 b (fun z => hb (by simp [z]))).trans (hk b ob (fun z => hb (by simp [z])) (fun z => hb (by simp [z])) q)) hf (Nat.le_refl _) new
    refine ⟨.ref s.heap.objs.size, _, I1, rfl, ⟨_, x, rfl, I.hok.fresh (Nat.le_refl _), rfl, fun ys hy => by rw [I.tuple_inj hy hq]; exact hx⟩, ⟨⟨y, ?_⟩, hs.1.at fun o q => (sb.2 it (Ne.symm n1)).trans q⟩, fun b hb => ?_⟩
    · have e1 : ((i + 1 : Nat) : Int) = (i : Int) + 1 := by omega
      rw [e1]; exact he'
    · have hb' : b < s.heap.objs.size := by
        rcases (show b = e ∨ b = it by simpa using hb) with z | z
        · rw [z]; exact hel
        · rw [z]; exact hil
      rw [upd_ne (Nat.ne_of_lt hb')]
      exact (hf b hb).1
  done := by
    intro X hP hw hK hc i pins s σ H E I hf st hg
    subst hP hw hK
    obtain ⟨⟨old, he⟩, hit⟩ := st
    obtain ⟨xs, hq, hx⟩ := hg
    obtain ⟨its, rv, p, hz⟩ := I.tuple hq
    obtain ⟨f0, f1, f2, f3, f4, f5⟩ := hf it (by simp)
    have hl := rv.length
    have D := Draws.tuple (prog := X.prog) (w := X.w) (A := X.A.in1) (show X.A.in1.handled = none from I.ok.hd hc) it a n3 its.toArray
    refine wpAny_pyNext_enum_endD D (i := (i : Nat)) he ⟨?_, p⟩ fun h' eb => ⟨rfl, I.turned (t' := s.toks) (fun b o hb q => eb b o hb q) f0 f1 f3 f4 f5⟩
    rw [List.size_toArray, ← hl, hx]; exact hit
  self := fun A i s Q E st h => let ⟨⟨_, he⟩, _⟩ := st; wpAny_pyIter_enum he h

/-! ### what is served -/
/-- a pair that lives for a turn -/
def RelX (tr : Bool) (K : PySem.W.Frag) (ρ : List Addr) (H : Hp) (v : PV) (u : V) : Prop := RepV K ρ H v u ∨ (tr = true ∧ ∃ xs p us, v = .tup xs ∧ u = .ref p ∧ SqT K H p us ∧ RepVs K ρ H xs us)
def Serve (tr : Bool) (K : PySem.W.Frag) (mk : Mk) (ρ : List Addr) (H : Hp) (src : PL.Src) (J : It) : Prop :=
  ∀ (i : Nat) ρ' H' M', Ext ρ H ρ' H' → Ok K mk ρ' H' M' → PL.watched src.2 M' = true →
    (∀ v, src.1[i]? = some v → J.go i H' ∧ ∀ u H'', J.yld i H' u H'' → Ext ρ' H' ρ' H'' ∧ Ok K mk ρ' H'' M' ∧ RelX tr K ρ' H'' v u) ∧ (i = src.1.length → J.stop i H')
theorem Serve.ext {tr : Bool} {K : PySem.W.Frag} {mk : Mk} {ρ ρ1 : List Addr} {H H1 : Hp} {src : PL.Src} {J : It} (h : Serve tr K mk ρ H src J) (x : Ext ρ H ρ1 H1) : Serve tr K mk ρ1 H1 src J :=
  fun i ρ' H' M' x' k' w => h i ρ' H' M' (x.trans x') k' w
section
variable {K : PySem.W.Frag} {mk : Mk} {ρ ρ' : List Addr} {H H' : Hp} {M M' : PL.Mem} {a : Addr} {us : List V} {xs : List PV}
/-- how the items stand at a turn -/
def Stands (mk : Mk) (K : PySem.W.Frag) (ρ : List Addr) (H : Hp) (Sq : Hp → List V → Prop) (src : PL.Src) : Prop := ∀ ρ' H' M', Ext ρ H ρ' H' → Ok K mk ρ' H' M' → PL.watched src.2 M' = true → ∃ us, Sq H' us ∧ RepVs K ρ' H' src.1 us
theorem stands_src (k : Ok K mk ρ H M) {v : PV} {u : V} {src : PL.Src} (r : RepV K ρ H v u) (e : PL.srcOf M v = some src) :
    ∃ a, u = .ref a ∧ ((PL.isT v = false ∧ Stands mk K ρ H (fun H us => SqL K H a us) src) ∨ (PL.isT v = true ∧ Stands mk K ρ H (fun H us => SqT K H a us) src)) := by
  unfold PL.srcOf at e
  split at e
  · obtain rfl := Option.some.inj e
    simp only [RepV] at r
    obtain ⟨a, o, us, rfl, h1, h2, n, rs⟩ := r
    exact ⟨a, rfl, .inr ⟨rfl, fun ρ' H' M' x k' w => ⟨us, .inl (.inr ⟨o, (x.keep _ _ h1 n).1⟩), rs.ext x⟩⟩⟩
  · obtain rfl := Option.some.inj e
    simp only [RepV] at r
    obtain ⟨a, us, rfl, h1, n, rs⟩ := r
    exact ⟨a, rfl, .inl ⟨rfl, fun ρ' H' M' x k' w => ⟨us, .inl (.inl (x.keep _ _ h1 n).1), rs.ext x⟩⟩⟩
  · obtain rfl := Option.some.inj e
    simp only [RepV] at r
    obtain ⟨a, us, rfl, h1, rs⟩ := r
    exact ⟨a, rfl, .inr ⟨rfl, fun ρ' H' M' x k' w => ⟨us, .inr h1, rs.ext x⟩⟩⟩
  · obtain rfl := Option.some.inj e
    simp only [RepV] at r
    obtain ⟨a, us, rfl, h1, rs⟩ := r
    refine ⟨a, rfl, .inl ⟨rfl, fun ρ' H' M' x k' w => ⟨us, ?_, rs.ext x⟩⟩⟩
    rcases h1 with ⟨o, q1, q2⟩ | h1
    · exact .inl (.inr ⟨o, (x.keep _ _ q1 q2).1⟩)
    · exact .inr h1
  · rename_i i
    split at e
    · rename_i xs hm
      obtain rfl := Option.some.inj e
      obtain ⟨a, h1, rfl⟩ := ref_at r
      refine ⟨a, rfl, .inl ⟨rfl, fun ρ' H' M' x k' w => ?_⟩⟩
      have hm' : M'[i]? = some (.lst xs) := by simpa [PL.watched] using w
      obtain ⟨b, us, h2, h3, h4⟩ := k'.rep.lst hm'
      rw [x.at h1] at h2
      obtain rfl := Option.some.inj h2
      exact ⟨us, .inl (.inl h3), h4⟩
    · cases e
  · cases e
theorem serve_list {src : PL.Src} (h : Stands mk K ρ H (fun H us => SqL K H a us) src) : Serve false K mk ρ H src (Itl K a) := fun i ρ' H' M' x k w => by
  obtain ⟨us, hs, rs⟩ := h ρ' H' M' x k w
  refine ⟨fun v hv => ?_, fun e => ⟨us, hs, by rw [← rs.length, e]; exact Nat.le_refl _⟩⟩
  obtain ⟨u, hu, ru⟩ := rs.get hv
  refine ⟨⟨us, u, hs, hu⟩, fun t H'' ⟨eH, ht⟩ => ?_⟩
  subst eH
  have := ht us hs
  rw [hu] at this
  obtain rfl := Option.some.inj this
  exact ⟨.refl, k, .inl ru⟩
theorem serve_tup {src : PL.Src} (h : Stands mk K ρ H (fun H us => SqT K H a us) src) : Serve false K mk ρ H src (Itt K a) := fun i ρ' H' M' x k w => by
  obtain ⟨us, hs, rs⟩ := h ρ' H' M' x k w
  refine ⟨fun v hv => ?_, fun e => ⟨us, hs, by rw [← rs.length, e]; exact Nat.le_refl _⟩⟩
  obtain ⟨u, hu, ru⟩ := rs.get hv
  refine ⟨⟨us, u, hs, hu⟩, fun t H'' ⟨eH, ht⟩ => ?_⟩
  subst eH
  have := ht us hs
  rw [hu] at this
  obtain rfl := Option.some.inj this
  exact ⟨.refl, k, .inl ru⟩
theorem ranged_get {lo : Int} {n i : Nat} {v : PV} (h : (PL.ranged lo n)[i]? = some v) : i < n ∧ v = .int (lo + (i : Nat)) := by
  unfold PL.ranged at h
  rw [List.getElem?_map, Option.map_eq_some_iff] at h
  obtain ⟨j, e1, e2⟩ := h
  obtain ⟨h1, h2⟩ := List.getElem?_eq_some_iff.mp e1
  rw [List.length_range] at h1
  simp only [List.getElem_range] at h2
  subst h2
  exact ⟨h1, e2.symm⟩
theorem ranged_len (lo : Int) (n : Nat) : (PL.ranged lo n).length = n := by simp [PL.ranged]
theorem serve_range (lo : Int) (n : Nat) : Serve false K mk ρ H (PL.ranged lo n, []) (Itr lo n) := fun i ρ' H' M' x k w => by
  refine ⟨fun v hv => ?_, fun e => ?_⟩
  · obtain ⟨h1, rfl⟩ := ranged_get hv
    refine ⟨h1, fun t H'' ⟨eH, ht⟩ => ?_⟩
    subst eH; subst ht
    exact ⟨.refl, k, .inl (by simp only [RepV])⟩
  · show n ≤ i
    rw [e]; exact Nat.le_of_eq (ranged_len lo n).symm
theorem serve_down (lo : Int) (n : Nat) : Serve false K mk ρ H ((List.range n).map fun k => PL.V.int (lo - (k : Nat)), []) (Itc lo (-1) n) := fun i ρ' H' M' x k w => by
  refine ⟨fun v hv => ?_, fun e => ?_⟩
  · dsimp only at hv
    rw [List.getElem?_map, Option.map_eq_some_iff] at hv
    obtain ⟨j, e1, rfl⟩ := hv
    obtain ⟨h1, h2⟩ := List.getElem?_eq_some_iff.mp e1
    rw [List.length_range] at h1
    simp only [List.getElem_range] at h2
    subst h2
    refine ⟨h1, fun t H'' ⟨eH, ht⟩ => ?_⟩
    subst eH; subst ht
    refine ⟨.refl, k, .inl ?_⟩
    simp only [RepV]
    congr 1
    omega
  · show n ≤ i
    rw [e]; simp
/-- a pair that was just laid -/
theorem laid_pair {T : Addr} {x y : PV} {u w : V} (k : Ok K mk ρ H M) (n : H T = none) (rx : RepV K ρ H x u) (ry : RepV K ρ H y w) : Ext ρ H ρ (upd H T (.tup [u, w])) ∧ Ok K mk ρ (upd H T (.tup [u, w])) M ∧ RelX true K ρ (upd H T (.tup [u, w])) (.tup [x, y]) (.ref T) :=
  ⟨Ext.new k.rep n, k.new n, .inr ⟨rfl, _, T, [u, w], rfl, rfl, .inl (.inl upd_same), .cons (rx.ext (Ext.new k.rep n)) (.cons (ry.ext (Ext.new k.rep n)) .nil)⟩⟩
theorem enumed_get : ∀ {xs : List PV} {n i : Nat} {v : PV}, (PL.enumed n xs)[i]? = some v → ∃ x, xs[i]? = some x ∧ v = .tup [.int ((n + i : Nat) : Int), x]
  | [], n, i, v, h => by simp [PL.enumed] at h
  | x :: xs, n, 0, v, h => by simp [PL.enumed] at h; exact ⟨x, rfl, h.symm⟩
  | x :: xs, n, i + 1, v, h => by
    simp only [PL.enumed, List.getElem?_cons_succ] at h
    obtain ⟨y, h1, h2⟩ := enumed_get h
    exact ⟨y, by simpa using h1, by rw [h2]; congr 4; omega⟩
theorem enumed_len : ∀ {xs : List PV} {n : Nat}, (PL.enumed n xs).length = xs.length
  | [], n => rfl
  | x :: xs, n => by simp only [PL.enumed, List.length_cons, enumed_len]
theorem zipped_get : ∀ {xs ys : List PV} {i : Nat} {v : PV}, (PL.zipped xs ys)[i]? = some v → ∃ x y, xs[i]? = some x ∧ ys[i]? = some y ∧ v = .tup [x, y]
  | [], ys, i, v, h => by simp [PL.zipped] at h
  | x :: xs, [], i, v, h => by simp [PL.zipped] at h
  | x :: xs, y :: ys, 0, v, h => by simp [PL.zipped] at h; exact ⟨x, y, rfl, rfl, h.symm⟩
  | x :: xs, y :: ys, i + 1, v, h => by
    simp only [PL.zipped, List.getElem?_cons_succ] at h
    obtain ⟨a, b, h1, h2, h3⟩ := zipped_get h
    exact ⟨a, b, by simpa using h1, by simpa using h2, h3⟩
theorem zipped_len : ∀ {xs ys : List PV}, (PL.zipped xs ys).length = min xs.length ys.length
  | [], ys => by simp [PL.zipped]
  | x :: xs, [] => by simp [PL.zipped]
  | x :: xs, y :: ys => by simp only [PL.zipped, List.length_cons, zipped_len]; omega
theorem serve_enumL {src : PL.Src} (h : Stands mk K ρ H (fun H us => SqL K H a us) src) : Serve true K mk ρ H (PL.enumed 0 src.1, src.2) (Ite K a) := fun i ρ' H' M' x k w => by
  obtain ⟨us, hs, rs⟩ := h ρ' H' M' x k w
  refine ⟨fun v hv => ?_, fun e => ⟨us, hs, by rw [← rs.length, e, enumed_len]; exact Nat.le_refl _⟩⟩
  obtain ⟨y, hy, rfl⟩ := enumed_get hv
  obtain ⟨u, hu, ru⟩ := rs.get hy
  refine ⟨⟨us, u, hs, hu⟩, fun t H'' ⟨T, z, et, nT, eH, ht⟩ => ?_⟩
  subst eH; subst et
  have := ht us hs
  rw [hu] at this
  obtain rfl := Option.some.inj this
  exact laid_pair k nT (by simp only [RepV, Nat.zero_add]) ru
theorem serve_enumT {src : PL.Src} (h : Stands mk K ρ H (fun H us => SqT K H a us) src) : Serve true K mk ρ H (PL.enumed 0 src.1, src.2) (IteT K a) := fun i ρ' H' M' x k w => by
  obtain ⟨us, hs, rs⟩ := h ρ' H' M' x k w
  refine ⟨fun v hv => ?_, fun e => ⟨us, hs, by rw [← rs.length, e, enumed_len]⟩⟩
  obtain ⟨y, hy, rfl⟩ := enumed_get hv
  obtain ⟨u, hu, ru⟩ := rs.get hy
  refine ⟨⟨us, u, hs, hu⟩, fun t H'' ⟨T, z, et, nT, eH, ht⟩ => ?_⟩
  subst eH; subst et
  have := ht us hs
  rw [hu] at this
  obtain rfl := Option.some.inj this
  exact laid_pair k nT (by simp only [RepV, Nat.zero_add]) ru
theorem watched_app {w1 w2 : List (Nat × List PV)} (h : PL.watched (w1 ++ w2) M = true) : PL.watched w1 M = true ∧ PL.watched w2 M = true := by
  unfold PL.watched at h ⊢
  rw [List.all_append, Bool.and_eq_true] at h
  exact h
theorem serve_zipL {b : Addr} {s1 s2 : PL.Src} (h : Stands mk K ρ H (fun H us => SqL K H a us) s1) (g : Stands mk K ρ H (fun H us => SqL K H b us) s2) : Serve true K mk ρ H (PL.zipped s1.1 s2.1, s1.2 ++ s2.2) (Itz K a b) := fun i ρ' H' M' x k w => by
  obtain ⟨w1, w2⟩ := watched_app w
  obtain ⟨us, hs, rs⟩ := h ρ' H' M' x k w1
  obtain ⟨ws, ht, rt⟩ := g ρ' H' M' x k w2
  refine ⟨fun v hv => ?_, fun e => ⟨us, ws, hs, ht, ?_⟩⟩
  · obtain ⟨y, z, hy, hz, rfl⟩ := zipped_get hv
    obtain ⟨u, hu, ru⟩ := rs.get hy
    obtain ⟨o, ho, ro⟩ := rt.get hz
    refine ⟨⟨us, ws, u, o, hs, ht, hu, ho⟩, fun t H'' ⟨T, u', o', et, nT, eH, q1, q2⟩ => ?_⟩
    subst eH; subst et
    have e1 := q1 us hs
    have e2 := q2 ws ht
    rw [hu] at e1; rw [ho] at e2
    obtain rfl := Option.some.inj e1
    obtain rfl := Option.some.inj e2
    exact laid_pair k nT ru ro
  · rw [zipped_len] at e
    rw [← rs.length, ← rt.length]; omega
theorem serve_zipT {b : Addr} {s1 s2 : PL.Src} (h : Stands mk K ρ H (fun H us => SqT K H a us) s1) (g : Stands mk K ρ H (fun H us => SqT K H b us) s2) : Serve true K mk ρ H (PL.zipped s1.1 s2.1, s1.2 ++ s2.2) (RZ.ItzT K a b) := fun i ρ' H' M' x k w => by
  obtain ⟨w1, w2⟩ := watched_app w
  obtain ⟨us, hs, rs⟩ := h ρ' H' M' x k w1
  obtain ⟨ws, ht, rt⟩ := g ρ' H' M' x k w2
  refine ⟨fun v hv => ?_, fun e => ⟨us, ws, hs, ht, ?_⟩⟩
  · obtain ⟨y, z, hy, hz, rfl⟩ := zipped_get hv
    obtain ⟨u, hu, ru⟩ := rs.get hy
    obtain ⟨o, ho, ro⟩ := rt.get hz
    refine ⟨⟨us, ws, u, o, hs, ht, hu, ho⟩, fun t H'' ⟨T, u', o', et, nT, eH, q1, q2⟩ => ?_⟩
    subst eH; subst et
    have e1 := q1 us hs
    have e2 := q2 ws ht
    rw [hu] at e1; rw [ho] at e2
    obtain rfl := Option.some.inj e1
    obtain rfl := Option.some.inj e2
    exact laid_pair k nT ru ro
  · rw [zipped_len] at e
    rw [← rs.length, ← rt.length]; omega
end
end PLS

/-! PLS15: the rules of what is walked; targets. -/
namespace PLS
open PySem PySem.Spec PyProof.Rows L2
def iS (RX : RXT) (K : PySem.W.Frag) (W : WX) (mk : Mk) (tr : Bool) (m : Mn PL.Src) : TI := fun s H R => ∃ ρ σ M, RepE K ρ H σ s ∧ Ok K mk ρ H M ∧ Post K mk (fun ρ' H' src J => Serve tr K mk ρ' H' src J) (EX RX K W s) ρ H R (m σ M)
theorem PI.imp {X : Cx} {tg e : Expr} {t t' : TI} (h : PI X tg e t) (i : ∀ σ H R, t' σ H R → t σ H R) : PI X tg e t' := ⟨fun pins s σ H R I q => h.run pins s σ H R I (i σ H R q)⟩
section
variable {X : Cx} {RX : RXT} {W : WX} {mk : Mk} {tg x a b c e : Expr} {es : List Expr} {m ma mb mc : Mn PV} {ms mks : Mn (List PV)} {pos pos2 p p2 tpos : Pos} {elts : List Expr} {kk : Nat}
theorem srcOf_watched {M : PL.Mem} {v : PV} {src : PL.Src} (e : PL.srcOf M v = some src) : PL.watched src.2 M = true := by
  unfold PL.srcOf at e
  split at e
  · obtain rfl := Option.some.inj e; rfl
  · obtain rfl := Option.some.inj e; rfl
  · obtain rfl := Option.some.inj e; rfl
  · obtain rfl := Option.some.inj e; rfl
  · split at e
    · rename_i xs hm
      obtain rfl := Option.some.inj e
      simp [PL.watched, hm]
    · cases e
  · cases e
theorem stands_ex {K : PySem.W.Frag} {ρ : List Addr} {H : Hp} {M : PL.Mem} {Sq : Hp → List V → Prop} {src : PL.Src} (q : Stands mk K ρ H Sq src) (k : Ok K mk ρ H M) (w : PL.watched src.2 M = true) : ∃ us, Sq H us :=
  let ⟨us, h, _⟩ := q ρ H M .refl k w; ⟨us, h⟩
theorem rI_of (ha : PE X a (tI RX X.K W mk ma)) : PI X tg a (iS RX X.K W mk false fun σ M => (ma σ M).bind fun x M1 => PL.src1 M1 x) := by
  refine ⟨fun pins s0 σ H R I ⟨ρ, s, M, re, k, h⟩ => ?_⟩
  have h' : tI RX X.K W mk ma σ H fun u H1 => ∃ a, u = .ref a ∧ (((∃ xs, SqL X.K H1 a xs) ∧ R (Itl X.K a) H1) ∨ ((∃ xs, SqT X.K H1 a xs) ∧ R (Itt X.K a) H1)) :=
    ⟨ρ, s, M, re, k, Post.bind h fun v M1 ρ1 H1 u x1 k1 r1 h1 => by
      unfold PL.src1 at h1
      split at h1
      · rename_i src e
        obtain ⟨a, rfl, ⟨_, q⟩ | ⟨_, q⟩⟩ := stands_src k1 r1 e
        · exact ⟨a, rfl, .inl ⟨stands_ex q k1 (srcOf_watched e), h1.ok k1 (serve_list q)⟩⟩
        · exact ⟨a, rfl, .inr ⟨stands_ex q k1 (srcOf_watched e), h1.ok k1 (serve_tup q)⟩⟩
      · exact h1.elim⟩
  refine thn (ha.run pins s0 σ H _ I h') fun v s1 ⟨x, H1, I1, r1, a, ex, q⟩ => ?_
  subst ex
  cases r1
  rcases q with ⟨⟨xs, hq⟩, q⟩ | ⟨⟨xs, hq⟩, q⟩
  · obtain ⟨its, rv, p, hz⟩ := I1.list hq
    exact wpAny_pyIter_list p.isList (pi_one (tk := s1.toks) I1 _ (turn_list a _) ⟨_, Heap.get?_push_size _ rfl, rfl, rfl⟩ q)
  · obtain ⟨its, rv, p, hz⟩ := I1.tuple hq
    exact wpAny_pyIter_tuple (show s1.heap.IsTuple a its.toArray from p) (pi_one (tk := s1.toks) I1 _ (turn_tuple a _) ⟨_, Heap.get?_push_size _ rfl, rfl, rfl⟩ q)
theorem rOk_iff {i : Int} (h : PL.rOk i = true) : -(2 ^ 62) ≤ i ∧ i < 2 ^ 62 := by
  simp only [PL.rOk, Bool.and_eq_true, decide_eq_true_eq] at h
  exact h
theorem rI_rng1 (hg : Gl X "range") (hm : X.mg "range" = none) (ha : PE X a (tI RX X.K W mk ma)) (hs : isStar a = false) :
    PI X tg (.Call (.Name "range" p) [a] [] pos) (iS RX X.K W mk false fun σ M => (ma σ M).bind fun x M1 => PL.srcR M1 (.int 0) x) := by
  refine PI.imp (pi_range1 hg hm (pa_cons ha pa_nil (starEach_of hs _)) (starEach_of hs _)) fun σ H R ⟨ρ, s, M, re, k, h⟩ => ⟨ρ, s, M, re, k, Post.bind h fun v M1 ρ1 H1 u x1 k1 r1 h1 => ?_⟩
  unfold PL.srcR at h1
  split at h1
  · rename_i i j e
    cases e
    simp only [RepV] at r1
    subst r1
    split at h1
    · rename_i hr
      rw [Bool.and_eq_true] at hr
      obtain ⟨b1, b2⟩ := rOk_iff hr.2
      rw [Int.sub_zero] at h1
      exact ⟨j, rfl, b1, b2, h1.ok k1 (serve_range 0 j.toNat)⟩
    · exact h1.elim
  · exact h1.elim
theorem rI_rng2 (hg : Gl X "range") (hm : X.mg "range" = none) (ha : PE X a (tI RX X.K W mk ma)) (hs : isStar a = false) (hb : PE X b (tI RX X.K W mk mb)) (hs2 : isStar b = false) :
    PI X tg (.Call (.Name "range" p) [a, b] [] pos) (iS RX X.K W mk false fun σ M => (ma σ M).bind fun x M1 => (mb σ M1).bind fun y M2 => PL.srcR M2 x y) := by
  refine PI.imp (pi_range2 hg hm (pa_cons ha (pa_cons hb pa_nil (starEach_of hs2 _)) (starEach_of hs _)) (by rw [starEach_of hs, starEach_of hs2]; rfl) (starEach_of hs2 _)) fun σ H R ⟨ρ, s, M, re, k, h⟩ =>
    ⟨ρ, s, M, re, k, Post.bind h fun v M1 ρ1 H1 u x1 k1 r1 h1 => ⟨ρ1, s, M1, re.ext x1, k1, Post.bind h1 fun w M2 ρ2 H2 t x2 k2 r2 h2 => ?_⟩⟩
  unfold PL.srcR at h2
  split at h2
  · rename_i i j
    simp only [RepV] at r1 r2
    subst r1 r2
    split at h2
    · rename_i hr
      rw [Bool.and_eq_true] at hr
      obtain ⟨a1, a2⟩ := rOk_iff hr.1
      obtain ⟨b1, b2⟩ := rOk_iff hr.2
      exact ⟨i, j, rfl, ⟨a1, a2, b1, b2⟩, h2.ok k2 (serve_range i _)⟩
    · exact h2.elim
  · exact h2.elim
theorem rI_rng3 (hg : Gl X "range") (hm : X.mg "range" = none) (ha : PE X a (tI RX X.K W mk ma)) (hs : isStar a = false) (hb : PE X b (tI RX X.K W mk mb)) (hs2 : isStar b = false) (hc : PE X c (tI RX X.K W mk mc)) (hs3 : isStar c = false) :
    PI X tg (.Call (.Name "range" p) [a, b, c] [] pos) (iS RX X.K W mk false fun σ M => (ma σ M).bind fun x M1 => (mb σ M1).bind fun y M2 => (mc σ M2).bind fun z M3 => PL.srcR3 M3 x y z) := by
  refine PI.imp (pi_range3 hg hm (pa_cons ha (pa_cons hb (pa_cons hc pa_nil (starEach_of hs3 _)) (starEach_of hs2 _)) (starEach_of hs _)) (starEach_of hs _) (backTo_plain (by rw [List.any_cons, List.any_cons, hs2, hs3]; rfl))) fun σ H R ⟨ρ, s, M, re, k, h⟩ =>
    ⟨ρ, s, M, re, k, Post.bind h fun v M1 ρ1 H1 u x1 k1 r1 h1 => ⟨ρ1, s, M1, re.ext x1, k1, Post.bind h1 fun w M2 ρ2 H2 t x2 k2 r2 h2 => ⟨ρ2, s, M2, (re.ext x1).ext x2, k2, Post.bind h2 fun z M3 ρ3 H3 o x3 k3 r3 h3 => ?_⟩⟩⟩
  unfold PL.srcR3 at h3
  split at h3
  · rename_i i j q
    simp only [RepV] at r1 r2 r3
    subst r1 r2 r3
    split at h3
    · rename_i hr
      simp only [Bool.and_eq_true, decide_eq_true_eq] at hr
      obtain ⟨a1, a2⟩ := rOk_iff hr.1.1
      obtain ⟨b1, b2⟩ := rOk_iff hr.1.2
      obtain rfl := hr.2
      exact ⟨i, j, -1, _, rfl, RgC.neg a1 a2 b1 b2, h3.ok k3 (serve_down i _)⟩
    · exact h3.elim
  · exact h3.elim
theorem rI_enum (hg : Gl X "enumerate") (hm : X.mg "enumerate" = none) (ha : PE X a (tI RX X.K W mk ma)) (hs : isStar a = false) :
    PI X (.Tuple elts kk tpos) (.Call (.Name "enumerate" p) [a] [] pos) (iS RX X.K W mk true fun σ M => (ma σ M).bind fun x M1 => PL.srcE M1 x) := by
  refine ⟨fun pins s0 σ H R I ⟨ρ, s, M, re, k, h⟩ => ?_⟩
  have h' : tI RX X.K W mk ma σ H fun u H1 => ∃ a, u = .ref a ∧ (((∃ xs, SqL X.K H1 a xs) ∧ R (Ite X.K a) H1) ∨ ((∃ xs, SqT X.K H1 a xs) ∧ R (IteT X.K a) H1)) :=
    ⟨ρ, s, M, re, k, Post.bind h fun v M1 ρ1 H1 u x1 k1 r1 h1 => by
      unfold PL.srcE at h1
      split at h1
      · rename_i src e
        obtain ⟨a, rfl, ⟨_, q⟩ | ⟨_, q⟩⟩ := stands_src k1 r1 e
        · exact ⟨a, rfl, .inl ⟨stands_ex q k1 (srcOf_watched e), h1.ok k1 (serve_enumL q)⟩⟩
        · exact ⟨a, rfl, .inr ⟨stands_ex q k1 (srcOf_watched e), h1.ok k1 (serve_enumT q)⟩⟩
      · exact h1.elim⟩
  have hp : PA X [a] (tCons (tI RX X.K W mk ma) tNil) := pa_cons ha pa_nil (starEach_of hs _)
  refine Call_ (ld_blt I hg hm PyProof.Rows.boot_enumerate (PyProof.Rows.callWith_type1 (thn (hp.run pos pins s0 σ H (fun us H1 => ∃ u, us = [u] ∧ ∃ a, u = .ref a ∧ (((∃ xs, SqL X.K H1 a xs) ∧ R (Ite X.K a) H1) ∨ ((∃ xs, SqT X.K H1 a xs) ∧ R (IteT X.K a) H1))) I ?_) fun us s1 ⟨vs, H1, I1, r1, u, ev, a, eu, q⟩ => ?_) (starEach_of hs _) rfl))
  · obtain ⟨ρ', s', M', re', k', h''⟩ := h'
    exact ⟨ρ', s', M', re', k', Post.mono h'' fun ρ1 H1 b x1 z => ⟨b, rfl, z⟩⟩
  subst ev; subst eu
  obtain ⟨v, rfl, rv⟩ := vals1 r1
  cases rv
  have fresh2 : ∀ b, b ∈ [s1.heap.objs.size + 1, s1.heap.objs.size] → FpOk X pins H1 b := fun b hb => by
    have hle : s1.heap.objs.size ≤ b := by
      rcases (show b = s1.heap.objs.size + 1 ∨ b = s1.heap.objs.size by simpa using hb) with z | z
      · rw [z]; exact Nat.le_add_right _ _
      · rw [z]; exact Nat.le_refl _
    exact I1.fpOk hle (I1.hok.fresh hle)
  rcases q with ⟨⟨xs, hq⟩, q⟩ | ⟨⟨xs, hq⟩, q⟩
  · obtain ⟨its, rv, pl, hz⟩ := I1.list hq
    refine call_enumerate_list pl.isList fun h1 he hit hsz hk => wpAny_pyIter_enum he ?_
    have I2 : Inv X pins σ H1 { s1 with heap := h1 } := I1.kept (t' := s1.toks) hk
    exact ⟨s1.heap.objs.size + 1, _, _, _, H1, rfl, I2, turn_enum a (s1.heap.objs.size + 1) s1.heap.objs.size, ⟨⟨.none, he⟩, hit, Nat.succ_ne_self _⟩, fresh2, q⟩
  · obtain ⟨its, rv, pl, hz⟩ := I1.tuple hq
    have hal : a < s1.heap.objs.size := by obtain ⟨o, ho, _⟩ := id pl; exact Heap.lt_size ho
    refine pl_enum_call (begins_tuple a its.toArray) pl fun h1 he hit hk => wpAny_pyIter_enum he ?_
    have I2 : Inv X pins σ H1 { s1 with heap := h1 } := I1.kept (t' := s1.toks) hk
    exact ⟨s1.heap.objs.size + 1, _, _, _, H1, rfl, I2, turn_enumT a (s1.heap.objs.size + 1) s1.heap.objs.size (Nat.succ_ne_self _) (Nat.ne_of_gt (Nat.lt_succ_of_lt hal)) (Nat.ne_of_lt hal), ⟨⟨.none, he⟩, ⟨_, hit, rfl, rfl⟩⟩, fresh2, q⟩
theorem rI_zip (hg : Gl X "zip") (hm : X.mg "zip" = none) (ha : PE X a (tI RX X.K W mk ma)) (hs : isStar a = false) (hb : PE X b (tI RX X.K W mk mb)) (hs2 : isStar b = false) :
    PI X (.Tuple elts kk tpos) (.Call (.Name "zip" p) [a, b] [] pos) (iS RX X.K W mk true fun σ M => (ma σ M).bind fun x M1 => (mb σ M1).bind fun y M2 => PL.srcZ M2 x y) := by
  refine PI.imp (RZ.pi_zipA hg hm (pa_cons ha (pa_cons hb pa_nil (starEach_of hs2 _)) (starEach_of hs _)) (starEach_of hs _) (backTo_plain (by rw [List.any_cons, hs2]; rfl))) fun σ H R ⟨ρ, s, M, re, k, h⟩ =>
    ⟨ρ, s, M, re, k, Post.bind h fun v M1 ρ1 H1 u x1 k1 r1 h1 => ⟨ρ1, s, M1, re.ext x1, k1, Post.bind h1 fun w M2 ρ2 H2 t x2 k2 r2 h2 => ?_⟩⟩
  unfold PL.srcZ at h2
  split at h2
  · rename_i s1 s2 e1 e2
    split at h2
    · rename_i et
      obtain ⟨c, rfl, ⟨t1, q⟩ | ⟨t1, q⟩⟩ := stands_src k2 (r1.ext x2) e1
      · obtain ⟨d, rfl, ⟨t2, q'⟩ | ⟨t2, q'⟩⟩ := stands_src k2 r2 e2
        · obtain ⟨us, hu⟩ := stands_ex q k2 (srcOf_watched e1)
          obtain ⟨ws, hw⟩ := stands_ex q' k2 (srcOf_watched e2)
          exact ⟨c, d, us, ws, rfl, .inl ⟨hu, hw, h2.ok k2 (serve_zipL q q')⟩⟩
        · rw [t1, t2] at et; cases et
      · obtain ⟨d, rfl, ⟨t2, q'⟩ | ⟨t2, q'⟩⟩ := stands_src k2 r2 e2
        · rw [t1, t2] at et; cases et
        · obtain ⟨us, hu⟩ := stands_ex q k2 (srcOf_watched e1)
          obtain ⟨ws, hw⟩ := stands_ex q' k2 (srcOf_watched e2)
          exact ⟨c, d, us, ws, rfl, .inr ⟨hu, hw, h2.ok k2 (serve_zipT q q')⟩⟩
    · exact h2.elim
  · exact h2.elim
end
end PLS

/-! PLS16: targets, comprehensions. -/
namespace PLS
open PySem PySem.Spec PyProof.Rows L2
/-- what is known of the names -/
structure Ctx where
  N : List Str
  sc : Scope
  fb : Str → Bool
def isLoc (Γ : Ctx) (n : Str) : Bool := decide (Γ.sc.names.lookup n = some .local) || (decide (Γ.sc.names.lookup n = some .cell) && Γ.fb n)
def isVis (Γ : Ctx) (n : Str) : Bool := decide (Γ.sc.names.lookup n = some .local) || decide (Γ.sc.names.lookup n = some .cell) || decide (Γ.sc.names.lookup n = some .free)
def isGl (Γ : Ctx) (n : Str) : Bool := decide (Γ.sc.names.lookup n = some .globalImplicit)
structure CtxOk (Γ : Ctx) (X : Cx) : Prop where
  nd : X.N.Nodup
  N : X.N = Γ.N
  sc : X.env.scope = Γ.sc
  fb : ∀ n, Γ.fb n = true → X.fn n = true
theorem CtxOk.vis {Γ : Ctx} {X : Cx} (h : CtxOk Γ X) {n : Str} (e : isVis Γ n = true) : Vis X.env.scope n := by
  simp only [isVis, Bool.or_eq_true, decide_eq_true_eq] at e
  unfold Vis
  rw [h.sc]
  rcases e with (e | e) | e
  · exact .inl e
  · exact .inr (.inl e)
  · exact .inr (.inr e)
theorem CtxOk.gl {Γ : Ctx} {X : Cx} (h : CtxOk Γ X) {n : Str} (e : isGl Γ n = true) : Gl X n := by
  unfold Gl
  show X.env.scope.names.lookup n = _
  rw [h.sc]
  exact of_decide_eq_true e
theorem CtxOk.loc {Γ : Ctx} {X : Cx} (h : CtxOk Γ X) {n : Str} (e : isLoc Γ n = true) : L2.Loc X.env.scope n ∧ (X.fn n = true ∨ X.env.scope.names.lookup n = some .local) := by
  simp only [isLoc, Bool.or_eq_true, Bool.and_eq_true, decide_eq_true_eq] at e
  unfold L2.Loc
  rw [h.sc]
  rcases e with e | ⟨e, f⟩
  · exact ⟨.inl e, .inr e⟩
  · exact ⟨.inr e, .inl (h.fb n f)⟩
mutual
def chkT (Γ : Ctx) : PL.Tg → Expr → Bool
  | .nm i, x => match x with
    | .Name n _ => decide (Γ.N[i]? = some n) && isLoc Γ n
    | _ => false
  | .tp ts, x => match x with
    | .Tuple es _ _ => chkTs Γ ts es
    | _ => false
def chkTs (Γ : Ctx) : PL.Tgs → List Expr → Bool
  | .nil, x => match x with
    | [] => true
    | _ => false
  | .cons t r, x => match x with
    | e :: es => chkT Γ t e && chkTs Γ r es
    | _ => false
end
mutual
def tgIs : PL.Tg → List Nat
  | .nm i => [i]
  | .tp ts => tgsIs ts
def tgsIs : PL.Tgs → List Nat
  | .nil => []
  | .cons t r => tgIs t ++ tgsIs r
end
theorem RepO_.mono {K : PySem.W.Frag} {off off2 : List Nat} {ρ : List Addr} {H : Hp} {σ : PL.Env} {s : L2.St} (h : RepO_ K off ρ H σ s) (m : ∀ j ∈ off, j ∈ off2) : RepO_ K off2 ρ H σ s :=
  ⟨h.len, fun i v n e => h.at_ i v (fun z => n (m i z)) e⟩
def SameOff (is : List Nat) (σ σ' : L2.St) : Prop := σ'.length = σ.length ∧ ∀ j, j ∉ is → σ'[j]? = σ[j]?
def less (off is : List Nat) : List Nat := off.filter fun j => decide (j ∉ is)
def gT (K : PySem.W.Frag) (t : PL.Tg) : TG := fun u σ H Q => ∃ off ρ v s s' tr, RepO_ K off ρ H s σ ∧ RelX tr K ρ H v u ∧ (tr = true → ∃ ts, t = .tp ts) ∧ PL.asg t v s = some s' ∧ ∀ σ', RepO_ K (less off (tgIs t)) ρ H s' σ' → SameOff (tgIs t) σ σ' → Q σ' H
def gTs (K : PySem.W.Frag) (t : PL.Tgs) : TGs := fun us σ H Q => ∃ off ρ vs s s', RepO_ K off ρ H s σ ∧ RepVs K ρ H vs us ∧ PL.asgs t vs s = some s' ∧ ∀ σ', RepO_ K (less off (tgsIs t)) ρ H s' σ' → SameOff (tgsIs t) σ σ' → Q σ' H
theorem RelX.tup {tr : Bool} {K : PySem.W.Frag} {ρ : List Addr} {H : Hp} {xs : List PV} {u : V} (r : RelX tr K ρ H (.tup xs) u) : ∃ p us, u = .ref p ∧ SqT K H p us ∧ RepVs K ρ H xs us := by
  rcases r with r | ⟨_, ys, p, us, e, rfl, h1, h2⟩
  · exact r.toTup
  · cases e; exact ⟨p, us, rfl, h1, h2⟩
theorem assignEach_of {e : Expr} {es : List Expr} (h : isStar e = false) (env : Env) : assignEach (e :: es) env = (false, assign e env) :: assignEach es env := by
  cases e <;> first | rfl | simp [isStar] at h
theorem chkT_star {Γ : Ctx} {t : PL.Tg} {x : Expr} (h : chkT Γ t x = true) : isStar x = false := by
  cases t with
  | nm i => cases x <;> first | rfl | simp [chkT] at h
  | tp ts => cases x <;> first | rfl | simp [chkT] at h
theorem assignEach_len {Γ : Ctx} {env : Env} : ∀ {t : PL.Tgs} {es : List Expr}, chkTs Γ t es = true → (assignEach es env).length = es.length ∧ (assignEach es env).findIdx? (·.1) = none
  | .nil, [], _ => ⟨rfl, rfl⟩
  | .nil, _ :: _, h => by simp [chkTs] at h
  | .cons _ _, [], h => by simp [chkTs] at h
  | .cons t r, e :: es, h => by
    simp only [chkTs, Bool.and_eq_true] at h
    obtain ⟨h1, h2⟩ := assignEach_len (env := env) h.2
    rw [assignEach_of (chkT_star h.1)]
    refine ⟨by rw [List.length_cons, List.length_cons, h1], ?_⟩
    rw [List.findIdx?_cons]
    simp only [Bool.false_eq_true, if_false, h2]
    rfl
theorem asgs_len {Γ : Ctx} : ∀ {t : PL.Tgs} {es : List Expr} {vs : List PV} {s s' : PL.Env}, chkTs Γ t es = true → PL.asgs t vs s = some s' → vs.length = es.length
  | .nil, [], [], _, _, _, _ => rfl
  | .nil, [], _ :: _, _, _, _, h => by simp [PL.asgs] at h
  | .nil, _ :: _, _, _, _, h, _ => by simp [chkTs] at h
  | .cons _ _, [], _, _, _, h, _ => by simp [chkTs] at h
  | .cons _ _, _ :: _, [], _, _, _, h => by simp [PL.asgs] at h
  | .cons t r, e :: es, v :: vs, s, s', h, h2 => by
    simp only [chkTs, Bool.and_eq_true] at h
    simp only [PL.asgs, Option.bind_eq_some_iff] at h2
    obtain ⟨s1, _, h3⟩ := h2
    rw [List.length_cons, List.length_cons, asgs_len h.2 h3]
section
variable {X : Cx} {Γ : Ctx}
mutual
theorem rG (hc : X.calm = true) (hΓ : CtxOk Γ X) : ∀ (t : PL.Tg) {x : Expr}, chkT Γ t x = true → PG X x (gT X.K t)
  | .nm i, x, h => by
    cases x with
    | Name n p =>
      simp only [chkT, Bool.and_eq_true, decide_eq_true_eq] at h
      obtain ⟨h1, h2⟩ := h
      obtain ⟨l1, l2⟩ := hΓ.loc h2
      refine ⟨fun pins s0 σ H v u Q I r ⟨off, ρ, w, s, s', tr, re, rx, htr, ha, q⟩ => ?_⟩
      refine (pg_name (pos := p) hΓ.nd (by rw [hΓ.N]; exact h1) l1 l2).run pins s0 σ H v u Q I r ?_
      simp only [PL.asg, Option.some.injEq] at ha
      subst ha
      have rv : RepV X.K ρ H w v := by
        rcases rx with rx | ⟨e, _⟩
        · exact rx
        · obtain ⟨ts, z⟩ := htr e; cases z
      refine q _ ((re.set rv).mono fun j hj => ?_) ⟨by rw [List.length_set], fun j hj => ?_⟩
      · rw [List.mem_filter] at hj
        unfold less
        rw [List.mem_filter]
        simpa [tgIs] using hj
      · simp only [tgIs, List.mem_singleton] at hj
        rw [List.getElem?_set_ne (Ne.symm hj)]
    | _ => simp [chkT] at h
  | .tp ts, x, h => by
    cases x with
    | Tuple es k p =>
      simp only [chkT] at h
      have ih := rGs hc hΓ ts h
      obtain ⟨a1, a2⟩ := assignEach_len (env := X.env) h
      refine ⟨fun pins s0 σ H v u Q I r ⟨off, ρ, w, s, s', tr, re, rx, htr, ha, q⟩ => ?_⟩
      refine (pg_tup hc ih a1 a2).run pins s0 σ H v u Q I r ?_
      cases w with
      | tup xs =>
        simp only [PL.asg] at ha
        obtain ⟨a, us, rfl, hq, rs⟩ := rx.tup
        exact ⟨a, us, rfl, hq, by rw [← rs.length]; exact asgs_len h ha, off, ρ, xs, s, s', re, rs, ha, q⟩
      | _ => simp [PL.asg] at ha
    | _ => simp [chkT] at h
theorem rGs (hc : X.calm = true) (hΓ : CtxOk Γ X) : ∀ (t : PL.Tgs) {x : List Expr}, chkTs Γ t x = true → PGs X x (gTs X.K t)
  | .nil, x, h => by
    cases x with
    | nil =>
      refine ⟨fun pins s0 σ H vs us Q I r ⟨off, ρ, w, s, s', re, rs, ha, q⟩ => pgs_nil.run pins s0 σ H vs us Q I r ?_⟩
      cases w with
      | nil =>
        simp only [PL.asgs, Option.some.injEq] at ha
        subst ha
        exact ⟨rs.inv0, q σ (re.mono fun j hj => by simp [less, tgsIs]; exact hj) ⟨rfl, fun _ _ => rfl⟩⟩
      | cons _ _ => simp [PL.asgs] at ha
    | cons _ _ => simp [chkTs] at h
  | .cons t r, x, h => by
    cases x with
    | nil => simp [chkTs] at h
    | cons e es =>
      simp only [chkTs, Bool.and_eq_true] at h
      have h1 := rG hc hΓ t h.1
      have h2 := rGs hc hΓ r h.2
      refine ⟨fun pins s0 σ H vs us Q I rr ⟨off, ρ, w, s, s', re, rs, ha, q⟩ => ?_⟩
      refine (pgs_cons h1 h2 (by rw [assignEach_of (chkT_star h.1)]; rfl)).run pins s0 σ H vs us Q I rr ?_
      cases w with
      | nil => simp [PL.asgs] at ha
      | cons v ws =>
        simp only [PL.asgs, Option.bind_eq_some_iff] at ha
        obtain ⟨s1, e1, e2⟩ := ha
        obtain ⟨u, ur, rfl, r1, r2⟩ := rs.inv
        refine ⟨u, ur, rfl, off, ρ, v, s, s1, false, re, .inl r1, (fun z => by cases z), e1, fun σ1 re1 so1 => ?_⟩
        refine ⟨_, ρ, ws, s1, s', re1, r2, e2, fun σ2 re2 so2 => q σ2 (re2.mono fun j hj => ?_) ⟨so2.1.trans so1.1, fun j hj => ?_⟩⟩
        · simp only [less, List.mem_filter, decide_eq_true_eq, tgsIs, List.mem_append, not_or] at hj ⊢
          exact ⟨hj.1.1, hj.1.2, hj.2⟩
        · simp only [tgsIs, List.mem_append, not_or] at hj
          exact (so2.2 j hj.2).trans (so1.2 j hj.1)
end
end
/-- what a name's slots are forgotten as, after the name's store -/
theorem wipe_ext : ∀ {vs : List Nat} {σ σ' : L2.St}, σ'.length = σ.length → (∀ j, j ∉ vs → σ'[j]? = σ[j]?) → wipe σ' vs = wipe σ vs := fun {vs σ σ'} hl h => by
  refine List.ext_getElem? fun j => ?_
  by_cases hj : j ∈ vs
  · have e : ∀ {ws : List Nat} {τ : L2.St}, j ∈ ws → (wipe τ ws)[j]? = if j < τ.length then some none else none := fun {ws} => by
      induction ws with
      | nil => intro τ hw; simp at hw
      | cons w ws ih =>
        intro τ hw
        unfold wipe
        by_cases e : w = j
        · subst e
          rw [List.getElem?_set_self']
          by_cases hl : w < τ.length
          · rw [if_pos hl, List.getElem?_eq_getElem (by rw [wipe_length]; exact hl)]; rfl
          · rw [if_neg hl, List.getElem?_eq_none (by rw [wipe_length]; omega)]; rfl
        · rw [List.getElem?_set_ne e]
          exact ih (by rcases List.mem_cons.mp hw with z | z; exact absurd z.symm e; exact z)
    rw [e hj, e hj, hl]
  · rw [wipe_get hj, wipe_get hj]
    exact h j hj
end PLS

/-! PLS17: comprehensions. -/
namespace PLS
open PySem PySem.Spec PyProof.Rows L2
abbrev WF : WX := fun _ _ _ _ => False
theorem noExc_bind {α β : Type} (m : PL.R α) (f : α → PL.Mem → PL.R β) : PL.noExc (m.bind f) = (PL.noExc m).bind fun a M => PL.noExc (f a M) := by
  cases m <;> rfl
theorem drop_cons {α : Type} : ∀ {xs r : List α} {i : Nat} {y : α}, xs.drop i = y :: r → xs[i]? = some y ∧ xs.drop (i + 1) = r
  | [], r, i, y, h => by simp at h
  | x :: xs, r, 0, y, h => by
    simp only [List.drop_zero, List.cons.injEq] at h
    exact ⟨by simp [h.1], by simpa using h.2⟩
  | x :: xs, r, i + 1, y, h => by
    simp only [List.drop_succ_cons] at h
    obtain ⟨h1, h2⟩ := drop_cons h
    exact ⟨by simpa using h1, by simpa using h2⟩
section
variable {K : PySem.W.Frag} {RX : RXT} {W : WX} {mk : Mk} {t : PL.Tg} {mi : Mn PL.Src} {mc me : Mn PV}
def compM (t : PL.Tg) (mi : Mn PL.Src) (mc me : Mn PV) : Mn PV := fun σ M => (mi σ M).bind fun s M1 => (PL.noExc (PL.compL M1.length s.2 t mc me σ s.1 (M1 ++ [.lst []]))).bind fun _ M2 => .ok (.ref M1.length) M2
/-- what is asked of the condition and of the item, at a turn -/
theorem cond_post {ρ : List Addr} {H : Hp} {M : PL.Mem} {E : EXC} {σ2 : L2.St} {Q : VK} {Q1 : Bool → Hp → Prop} {s : PL.Env} {f : PV → PL.Mem → PL.R Unit} {g : Unit → PL.Mem → PL.R PV} (h : Post K mk (RepV K) E ρ H Q ((PL.noExc ((mc s M).bind f)).bind g))
    (hf : ∀ v M1, (∀ b, v ≠ .bl b) → f v M1 = .no) (k : ∀ c M1 ρ1 H1, Ext ρ H ρ1 H1 → Ok K mk ρ1 H1 M1 → Post K mk (RepV K) E ρ1 H1 Q ((PL.noExc (f (.bl c) M1)).bind g) → Q1 c H1) :
    Post K mk (fun _ _ (a b : Bool) => a = b) (EX RX K WF σ2) ρ H Q1 (asB (mc s M)) := by
  unfold asB
  rw [noExc_bind] at h
  rcases m_cases (mc s M) with e | ⟨x, M1, e⟩ | ⟨v, M1, e⟩
  · rw [e] at h; exact h.elim
  · rw [e] at h; exact h.elim
  · rw [e] at h ⊢
    cases v with
    | bl c => exact fun ρ' H' d x' k' r' => by subst r'; exact k c M1 ρ' H' x' k' (Post.ext h x')
    | _ =>
      change Post K mk (RepV K) E ρ H Q ((PL.noExc (f _ M1)).bind g) at h
      rw [hf _ _ (by intro b z; cases z)] at h
      exact h.elim
theorem item_post {ρ : List Addr} {H : Hp} {M : PL.Mem} {E : EXC} {σ2 : L2.St} {Q Q1 : VK} {s : PL.Env} {f : PV → PL.Mem → PL.R Unit} {g : Unit → PL.Mem → PL.R PV} (h : Post K mk (RepV K) E ρ H Q ((PL.noExc ((me s M).bind f)).bind g))
    (k : ∀ v M1 ρ1 H1 u, Ext ρ H ρ1 H1 → Ok K mk ρ1 H1 M1 → RepV K ρ1 H1 v u → Post K mk (RepV K) E ρ1 H1 Q ((PL.noExc (f v M1)).bind g) → Q1 u H1) :
    Post K mk (RepV K) (EX RX K WF σ2) ρ H Q1 (me s M) := by
  rw [noExc_bind] at h
  rcases m_cases (me s M) with e | ⟨x, M1, e⟩ | ⟨v, M1, e⟩
  · rw [e] at h; exact h.elim
  · rw [e] at h; exact h.elim
  · rw [e] at h ⊢
    exact fun ρ' H' u x' k' r' => k v M1 ρ' H' u x' k' r' (Post.ext h x')
theorem comp_key {tr : Bool} {vs : List Nat} (h1 : ∀ j ∈ tgIs t, j ∈ vs) (h2 : ∀ j ∈ vs, j ∈ tgIs t) (htr : tr = true → ∃ ts, t = .tp ts) {σ : L2.St} {H : Hp} {Q : VK} (h : tI RX K W mk (compM t mi mc me) σ H Q) :
    tLc (iS RX K W mk tr mi) (gT K t) (tIb RX K WF mk mc) (tI RX K WF mk me) vs σ H Q := by
  obtain ⟨ρ, s, M, re, k, h⟩ := h
  refine ⟨ρ, s, M, re, k, Post.bind h fun src M1 ρ1 H1 J x1 k1 sv h => ?_⟩
  intro D nD
  have kA : Ok K mk (ρ1 ++ [D]) (upd H1 D (.lst [])) (M1 ++ [.lst []]) := k1.alloc nD ⟨[], rfl, .nil⟩
  have xA : Ext ρ1 H1 (ρ1 ++ [D]) (upd H1 D (.lst [])) := Ext.alloc k1.rep nD
  have aD : (ρ1 ++ [D])[M1.length]? = some D := by rw [← k1.rep.len, List.getElem?_append_right (Nat.le_refl _), Nat.sub_self]; rfl
  refine ⟨fun i n H' => ∃ ρ' M', Ext (ρ1 ++ [D]) (upd H1 D (.lst [])) ρ' H' ∧ Ok K mk ρ' H' M' ∧ i ≤ src.1.length ∧ n = src.1.length - i ∧
    Post K mk (RepV K) (EX RX K W σ) ρ' H' Q ((PL.noExc (PL.compL M1.length src.2 t mc me s (src.1.drop i) M')).bind fun _ M2 => .ok (.ref M1.length) M2),
    ⟨_, ρ1 ++ [D], M1 ++ [.lst []], .refl, kA, Nat.zero_le _, rfl, Post.ext h xA⟩, ?_⟩
  rintro i n H' ⟨ρ', M', x', k', hi, hn, hp⟩
  have hD : ρ'[M1.length]? = some D := x'.at aD
  cases hdr : src.1.drop i with
  | nil =>
    rw [hdr] at hp
    have hil : i = src.1.length := by
      have := congrArg List.length hdr
      rw [List.length_drop, List.length_nil] at this
      omega
    unfold PL.compL at hp
    split at hp
    · rename_i hw
      exact .inl ⟨((sv.ext xA) i ρ' H' M' x' k' hw).2 hil, Post.ok (a := PL.V.ref M1.length) (M := M') (Rel := RepV K) hp k' (by simp only [RepV]; exact ⟨D, hD, rfl⟩)⟩
    · exact hp.elim
  | cons y rest =>
    rw [hdr] at hp
    obtain ⟨hy, hrest⟩ := drop_cons hdr
    have hil : i < src.1.length := (List.getElem?_eq_some_iff.mp hy).1
    unfold PL.compL at hp
    split at hp
    · rename_i hw
      obtain ⟨go, yl⟩ := ((sv.ext xA) i ρ' H' M' x' k' hw).1 y hy
      refine .inr ⟨go, fun H2 => ∃ ρ2 M2, Ext (ρ1 ++ [D]) (upd H1 D (.lst [])) ρ2 H2 ∧ Ok K mk ρ2 H2 M2 ∧
        Post K mk (RepV K) (EX RX K W σ) ρ2 H2 Q ((PL.noExc (PL.compL M1.length src.2 t mc me s rest M2)).bind fun _ M2 => .ok (.ref M1.length) M2), ?_, ?_⟩
      · rintro H2 ⟨ρ2, M2, x2, k2, h2⟩
        exact ⟨n - 1, by omega, ρ2, M2, x2, k2, hil, by omega, by rw [hrest]; exact h2⟩
      · intro u H2 hyl
        obtain ⟨x3, k3, rx⟩ := yl u H2 hyl
        split at hp
        · exact hp.elim
        · rename_i s' hs
          refine ⟨vs, ρ', y, s, s', tr, (((re.ext (x1.trans xA)).ext x').ext x3).wipe vs, rx, htr, hs, fun σ2 re2 so2 => ⟨?_, ?_⟩⟩
          · refine (wipe_ext so2.1 fun j hj => so2.2 j fun z => hj (h1 j z)).trans (wipe_ext (wipe_length _ _) fun j hj => wipe_get hj)
          · have re3 : RepE K ρ' H2 s' σ2 := (re2.mono (off2 := []) fun j hj => by
              simp only [less, List.mem_filter, decide_eq_true_eq] at hj
              exact absurd (h2 j hj.1) hj.2).all
            refine ⟨ρ', s', M', re3, k3, cond_post (Post.ext hp x3) (fun v M1 hv => by cases v <;> first | rfl | exact absurd rfl (hv _)) fun c M4 ρ4 H4 x4 k4 h4 => ?_⟩
            cases c with
            | false => exact ⟨ρ4, M4, (x'.trans x3).trans x4, k4, h4⟩
            | true =>
              rw [if_pos rfl]
              refine ⟨ρ4, s', M4, re3.ext x4, k4, item_post (f := fun y M2 => match M2[M1.length]? with
                | some (.lst acc) => if acc.length < PL.SZ then PL.compL M1.length src.2 t mc me s rest (M2.set M1.length (.lst (acc ++ [y]))) else .no
                | _ => .no) h4 fun v M5 ρ5 H5 w x5 k5 r5 h5 => ?_⟩
              split at h5
              · rename_i acc hm
                split at h5
                · rename_i hz
                  obtain ⟨b, us, e1, e2, e3⟩ := k5.rep.lst hm
                  have hD5 : ρ5[M1.length]? = some D := x5.at (x4.at (x3.at hD))
                  rw [hD5] at e1
                  obtain rfl := Option.some.inj e1
                  refine ⟨us, e2, by rw [← e3.length, ← SZ_eq]; exact hz, ρ5, M5.set M1.length (.lst (acc ++ [v])), ?_, k5.write hD5 ⟨_, rfl, e3.append (.cons r5 .nil)⟩ fun hm => ?_, Post.ext h5 (Ext.write hD5)⟩
                  · exact (((x'.trans x3).trans x4).trans x5).trans (Ext.write hD5)
                  · exact absurd hm.lt (Nat.not_lt.mpr k1.mkl)
                · exact h5.elim
              · exact h5.elim
    · exact hp.elim
end
end PLS

/-! PLS18: that an expression of the text is one of PL, by a check; its soundness. -/
namespace PLS
open PySem PySem.Spec PyProof.Rows L2
abbrev G_ := List (String × PV)
def bltNames : List String := ["len", "abs", "int", "repr", "tuple", "list", "max", "min", "sum", "any", "all", "sorted", "set", "isinstance", "range", "enumerate", "zip", "bool", "str", "dict"]
structure Okx (P : String → Option (List String)) (C : PL.Orc) (RX : RXT) (G : G_) (X : Cx) (W : WX) : Prop where
  calm : X.calm = true
  hu : X.A.units + 200 < cLine
  hgu : X.A.guards = some []
  tk : Takes X W
  blt : ∀ n ∈ bltNames, X.mg (Str.ofString n) = none
  glb : ∀ q ∈ G, ∃ u w, X.mg (Str.ofString q.1) = some w ∧ RelV u w ∧ ∀ ρ H, RepV X.K ρ H q.2 u
  fns : ∀ f ps, P f = some ps → FunIn X C RX f ps
def nmOk (n : Str) : Bool := !(n == ("__debug__" : Str)) && !(n == ("__classdict__" : Str))
theorem nmOk_d {n : Str} (h : nmOk n = true) : (n == ("__debug__" : Str)) = false ∧ (n == ("__classdict__" : Str)) = false := by
  simp only [nmOk, Bool.and_eq_true, Bool.not_eq_true'] at h
  exact h
/-! ### comprehensions' scopes -/
def nIdx (n : Str) : List Str → Option Nat
  | [] => none
  | x :: xs => if x = n then some 0 else (nIdx n xs).map (· + 1)
theorem nIdx_get {n : Str} : ∀ {l : List Str} {i : Nat}, nIdx n l = some i → l[i]? = some n
  | [], i, h => by simp [nIdx] at h
  | x :: xs, i, h => by
    unfold nIdx at h
    split at h
    · rename_i e
      obtain rfl := Option.some.inj h
      simp [e]
    · simp only [Option.map_eq_some_iff] at h
      obtain ⟨j, h1, rfl⟩ := h
      simpa using nIdx_get h1
theorem nIdx_none {n : Str} : ∀ {l : List Str}, nIdx n l = none → n ∉ l
  | [], _ => by simp
  | x :: xs, h => by
    unfold nIdx at h
    split at h
    · cases h
    · rename_i e
      simp only [Option.map_eq_none_iff] at h
      simp only [List.mem_cons, not_or]
      exact ⟨fun z => e z.symm, nIdx_none h⟩
def ownOf (N : List Str) : List (Str × NameKind) → List (Str × Nat)
  | [] => []
  | y :: r => if y.2 = .local ∨ y.2 = .cell then (match nIdx y.1 N with | some i => (y.1, i) :: ownOf N r | none => ownOf N r) else ownOf N r
theorem ownOf_ix {N : List Str} : ∀ {l : List (Str × NameKind)} {p : Str × Nat}, p ∈ ownOf N l → N[p.2]? = some p.1
  | [], p, h => by simp [ownOf] at h
  | y :: r, p, h => by
    unfold ownOf at h
    split at h
    · split at h
      · rename_i i e
        rcases List.mem_cons.mp h with rfl | h
        · exact nIdx_get e
        · exact ownOf_ix h
      · exact ownOf_ix h
    · exact ownOf_ix h
theorem ownOf_own {N : List Str} : ∀ {l : List (Str × NameKind)} {y : Str × NameKind}, y ∈ l → (y.2 = .local ∨ y.2 = .cell) → y.1 ∈ (ownOf N l).map (·.1) ∨ y.1 ∉ N
  | [], y, h, _ => by simp at h
  | z :: r, y, h, hk => by
    rcases List.mem_cons.mp h with rfl | h
    · unfold ownOf
      rw [if_pos hk]
      split
      · exact .inl (by simp)
      · rename_i e
        exact .inr (nIdx_none e)
    · rcases ownOf_own (N := N) h hk with q | q
      · left
        unfold ownOf
        split
        · split
          · rw [List.map_cons]; exact List.mem_cons_of_mem _ q
          · exact q
        · exact q
      · exact .inr q
def blkB (Γ : Ctx) (scope : Scope) : Bool :=
  decide (scope.kind = .function) && scope.names.all (fun y => decide (scope.names.lookup y.1 = some y.2)) &&
    scope.names.all (fun y => !decide (y.2 = .free) || decide (Γ.sc.names.lookup y.1 = some .cell) || decide (Γ.sc.names.lookup y.1 = some .free))
theorem blkB_ok {Γ : Ctx} {scope : Scope} (h : blkB Γ scope = true) : BlkOk Γ.N Γ.sc scope (ownOf Γ.N scope.names) := by
  simp only [blkB, Bool.and_eq_true, decide_eq_true_eq, List.all_eq_true, Bool.or_eq_true, Bool.not_eq_true', decide_eq_false_iff_not] at h
  obtain ⟨⟨h1, h2⟩, h3⟩ := h
  refine ⟨h1, h2, fun p hp => ownOf_ix hp, fun y hy e => ?_, fun y hy e => ownOf_own hy e⟩
  rcases h3 y hy with (z | z) | z
  · exact absurd e z
  · exact .inl z
  · exact .inr z
def inCtx (Γ : Ctx) (scope : Scope) : Ctx := ⟨Γ.N, relS scope Γ.sc, fun n => decide (scope.names.lookup n = some .cell)⟩
def slotsB (Γ : Ctx) (scope : Scope) (t : PL.Tg) : Bool := (tgIs t).all (fun j => decide (j ∈ (ownOf Γ.N scope.names).map (·.2))) && ((ownOf Γ.N scope.names).map (·.2)).all fun j => decide (j ∈ tgIs t)
section
variable {P : String → Option (List String)} {C : PL.Orc} {RX : RXT} {G : G_} {X : Cx} {W : WX} {Γ : Ctx}
theorem Okx.blk (h : Okx P C RX G X W) {s : Shared} {H : Hp} {scope : Scope} {cenv : Env} {fp : List Addr} : Okx P C RX G (X.blk s H scope cenv fp) WF :=
  ⟨h.calm, h.hu, h.hgu, fun u s' ⟨_, _, _, _, _, _, _, _, _, _, _, _, _, _, _, _, z⟩ => z, h.blt, h.glb, h.fns⟩
theorem CtxOk.blk (h : CtxOk Γ X) {s : Shared} {H : Hp} {scope : Scope} {C : Addr} {cl : List (Str × Addr)} {fp : List Addr} : CtxOk (inCtx Γ scope) (X.blk s H scope (compEnvC scope cl C X.env) fp) :=
  ⟨h.nd, h.N, by
    show relS scope X.env.scope = relS scope Γ.sc
    rw [h.sc], fun n e => by
    show (scope.names.lookup n == some .cell) = true
    have : scope.names.lookup n = some .cell := of_decide_eq_true e
    rw [this]; rfl⟩
end
end PLS

/-! PLS19: the check of expressions. -/
namespace PLS
open PySem PySem.Spec PyProof.Rows L2
def cstB : PV → Const → Bool
  | .non, .none => true
  | .bl a, .bool b => decide (a = b)
  | .int a, .int b => decide (a = b)
  | .str s, .str z => decide (toStr s = z)
  | _, _ => false
def isZ : PL.E → Bool
  | .cst (.int 0) => true
  | _ => false
def isTr : PL.It → Bool
  | .enum _ => true
  | .zip _ _ => true
  | _ => false
def isTp : PL.Tg → Bool
  | .tp _ => true
  | _ => false
abbrev eqN (n : Str) (s : String) : Bool := decide (n = Str.ofString s)
section
variable (P : String → Option (List String)) (G : G_)
mutual
def chkE : Ctx → PL.E → Expr → Bool
  | Γ, .var i, x => match x with
    | .Name n _ => decide (Γ.N[i]? = some n) && isVis Γ n && nmOk n
    | _ => false
  | Γ, .cst v, x => match x with
    | .Constant c _ _ => cstB v c
    | _ => false
  | Γ, .glb g v, x => match x with
    | .Name n _ => eqN n g && isGl Γ n && nmOk n && G.any fun q => decide (q.1 = g) && decide (q.2 = v)
    | _ => false
  | Γ, .bin o a b, x => match x with
    | .BinOp l op r _ => decide (op = opOf o) && chkE Γ a l && chkE Γ b r
    | _ => false
  | Γ, .neg a, x => match x with
    | .UnaryOp op e _ => decide (op = .USub) && chkE Γ a e
    | _ => false
  | Γ, .not a, x => match x with
    | .UnaryOp op e _ => decide (op = .Not) && chkE Γ a e
    | _ => false
  | Γ, .bop o es, x => match x with
    | .BoolOp op vs _ => decide (op = bOp o) && !vs.isEmpty && !vs.any isStar && chkEs Γ es vs
    | _ => false
  | Γ, .cmp o a b, x => match x with
    | .Compare l [op] [r] _ => decide (op = opC o) && !isSet r && chkE Γ a l && chkE Γ b r
    | _ => false
  | Γ, .chn o o' a b c, x => match x with
    | .Compare l [op, op'] [r, q] _ => decide (op = opC o) && decide (op' = opC o') && !isSet q && chkE Γ a l && chkE Γ b r && chkE Γ c q
    | _ => false
  | Γ, .isN n a, x => match x with
    | .Compare l [op] [.Constant .none _ _] _ => decide (op = if n then .IsNot else .Is) && chkE Γ a l
    | _ => false
  | Γ, .isi a t, x => match x with
    | .Call (.Name f _) [e, .Name n _] [] _ => eqN f "isinstance" && eqN n (tyS t) && isGl Γ f && isGl Γ n && !isStar e && chkE Γ a e
    | _ => false
  | Γ, .ite c a b, x => match x with
    | .IfExp t l r _ => chkE Γ c t && chkE Γ a l && chkE Γ b r
    | _ => false
  | Γ, .tup es, x => match x with
    | .Tuple xs _ _ => chkEs Γ es xs
    | _ => false
  | Γ, .lst es, x => match x with
    | .List xs _ => chkEs Γ es xs
    | _ => false
  | Γ, .dsp kvs, x => match x with
    | .Dict ks vs _ => decide (ks.length ≤ 15) && chkD Γ kvs ks vs
    | _ => false
  | Γ, .idx a i, x => match x with
    | .Subscript l r _ => !isSlice r && chkE Γ a l && chkE Γ i r
    | _ => false
  | Γ, .slc a lo hi, x => match x with
    | .Subscript l (.Slice xl xh none _) _ => chkE Γ a l && chkEo Γ lo xl && chkEo Γ hi xh
    | _ => false
  | Γ, .fn f es, x => match x with
    | .Call (.Name n _) xs [] _ => eqN n f && (P f).isSome && isGl Γ n && nmOk n && !xs.any isStar && chkEs Γ es xs
    | _ => false
  | Γ, .fnk f es kws ks, x => match x with
    | .Call (.Name n _) xs kk _ => eqN n f && (P f).isSome && isGl Γ n && nmOk n && !xs.any isStar && chkEs Γ es xs && decide (kk.map (·.arg) = ks.map fun k => some (Str.ofString k)) && chkKs Γ kws kk
    | _ => false
  | Γ, .pr p es, x => match x with
    | .Call (.Name n _) xs [] _ => if pOk p then eqN n (pName p) && isGl Γ n && !xs.isEmpty && !xs.any isStar && chkEs Γ es xs
      else match p, xs with
        | .sortedSet, [.Call (.Name g _) [y] [] _] => eqN n "sorted" && eqN g "set" && isGl Γ n && isGl Γ g && !isStar y && chkEs Γ es [y]
        | _, _ => false
    | _ => false
  | Γ, .mt m o es, x => match x with
    | .Call (.Attribute l name apos) xs [] pos => eqN name (mtName m) && !isCall l && (apos.endLine == pos.line) && decide (xs.length < 30) && !xs.any isStar && chkE Γ o l && chkEs Γ es xs
    | _ => false
  | Γ, .comp t it c e, x => match x with
    | .ListComp elt [⟨tg, iter, ifs, asy⟩] scope _ => decide (asy = 0) && blkB Γ scope && slotsB Γ scope t && !isSet iter && (!isTr it || isTp t) && chkT (inCtx Γ scope) t tg && chkI Γ it iter && chkEc (inCtx Γ scope) c ifs && chkE (inCtx Γ scope) e elt
    | _ => false
  | _, .dcomp _ _ _ _ _, _ => false
  | Γ, .lrng a b, x => match x with
    | .Call (.Name f _) [.Call (.Name g _) xs [] _] [] _ => eqN f "list" && eqN g "range" && isGl Γ f && isGl Γ g && !xs.any isStar && (match xs with
      | [y] => isZ a && chkE Γ b y
      | [x, y] => chkE Γ a x && chkE Γ b y
      | _ => false)
    | _ => false
def chkEs : Ctx → PL.Es → List Expr → Bool
  | _, .nil, xs => xs.isEmpty
  | Γ, .cons e r, xs => match xs with
    | x :: ys => !isStar x && chkE Γ e x && chkEs Γ r ys
    | [] => false
  | Γ, .star e r, xs => match xs with
    | .Starred x _ :: ys => chkE Γ e x && chkEs Γ r ys
    | _ => false
def chkD : Ctx → PL.Es → List (Option Expr) → List Expr → Bool
  | _, .nil, ks, vs => ks.isEmpty && vs.isEmpty
  | Γ, .cons k (.cons v r), ks, vs => match ks, vs with
    | some a :: ks, b :: vs => chkE Γ k a && chkE Γ v b && chkD Γ r ks vs
    | _, _ => false
  | _, _, _, _ => false
def chkKs : Ctx → PL.Es → List Keyword → Bool
  | _, .nil, xs => xs.isEmpty
  | Γ, .cons e r, xs => match xs with
    | ⟨_, x, _⟩ :: ys => chkE Γ e x && chkKs Γ r ys
    | [] => false
  | _, .star _ _, _ => false
def chkEo : Ctx → PL.Eo → Option Expr → Bool
  | _, .none, x => x.isNone
  | Γ, .some e, x => match x with
    | some y => chkE Γ e y
    | none => false
def chkEc : Ctx → PL.Eo → List Expr → Bool
  | _, .none, x => x.isEmpty
  | Γ, .some e, x => match x with
    | [y] => chkE Γ e y
    | _ => false
def chkI : Ctx → PL.It → Expr → Bool
  | Γ, .of e, x => chkE Γ e x
  | Γ, .rng1 a, x => match x with
    | .Call (.Name f _) [y] [] _ => eqN f "range" && isGl Γ f && !isStar y && chkE Γ a y
    | _ => false
  | Γ, .rng2 a b, x => match x with
    | .Call (.Name f _) [y, z] [] _ => eqN f "range" && isGl Γ f && !isStar y && !isStar z && chkE Γ a y && chkE Γ b z
    | _ => false
  | Γ, .rng3 a b c, x => match x with
    | .Call (.Name f _) [y, z, w] [] _ => eqN f "range" && isGl Γ f && !isStar y && !isStar z && !isStar w && chkE Γ a y && chkE Γ b z && chkE Γ c w
    | _ => false
  | Γ, .enum a, x => match x with
    | .Call (.Name f _) [y] [] _ => eqN f "enumerate" && isGl Γ f && !isStar y && chkE Γ a y
    | _ => false
  | Γ, .zip a b, x => match x with
    | .Call (.Name f _) [y, z] [] _ => eqN f "zip" && isGl Γ f && !isStar y && !isStar z && chkE Γ a y && chkE Γ b z
    | _ => false
  | _, .items _, _ => false
  | _, .values _, _ => false
end
end
end PLS

/-! PLS20: the check of expressions is sound. -/
namespace PLS
open PySem PySem.Spec PyProof.Rows L2
theorem cst_ok {RX : RXT} {X : Cx} {W : WX} {mk : Mk} : ∀ {v : PV} {c : Const} {j : Nat} {pos : Pos}, cstB v c = true → PE X (.Constant c j pos) (tI RX X.K W mk fun _ M => .ok v M) := by
  intro v c j pos h
  cases v <;> cases c <;> simp only [cstB, Bool.false_eq_true, decide_eq_true_eq] at h
  · exact rE_pure pe_non fun _ _ => by simp only [RepV]
  · subst h; exact rE_pure pe_bl fun _ _ => by simp only [RepV]
  · subst h; exact rE_pure pe_int fun _ _ => by simp only [RepV]
  · subst h; exact rE_pure pe_str fun _ _ => by simp only [RepV]
theorem mem_blt {s : String} (h : (bltNames.any fun n => decide (n = s)) = true) : s ∈ bltNames := by
  simp only [List.any_eq_true, decide_eq_true_eq] at h
  obtain ⟨n, h1, rfl⟩ := h; exact h1
theorem pName_blt (p : PL.Pr) : pName p ∈ bltNames := by cases p <;> decide
theorem ty_blt (t : PL.Ty) : tyS t ∈ bltNames := by cases t <;> decide
section
variable {P : String → Option (List String)} {C : PL.Orc} {RX : RXT} {G : G_} {mk : Mk}
theorem any_rest {e : Expr} {es : List Expr} (h : (e :: es).any isStar = false) : isStar e = false ∧ es.any isStar = false := by
  rw [List.any_cons, Bool.or_eq_false_iff] at h; exact h
theorem dsp_nil {s : PL.Env} {M : PL.Mem} : PL.ev P C mk (.dsp .nil) s M = PL.alloc (.dct false [] []) M := by
  simp [PL.ev, PL.evs, PL.dispK, PL.alloc]
theorem sset_eq {a : PL.E} : PL.ev P C mk (.pr .sortedSet (.cons a .nil)) = fun σ M => (PL.ev P C mk a σ M).bind fun x M1 => PL.pSortedSet M1 x := by
  funext σ M
  simp only [PL.ev, PL.evs, bind_assoc, PL.R.bind_ok, PL.prim, PL.prim1]
def pairsV : List V → List (V × V)
  | a :: b :: r => (a, b) :: pairsV r
  | _ => []
theorem dispK_rep {K : PySem.W.Frag} {ρ : List Addr} {H : Hp} : ∀ {xs : List PV} {us : List V} {p : List PV × List PV}, PL.dispK xs = some p → RepVs K ρ H xs us →
    ∃ kvs : List (L2.Key × V), pairsV us = kvs.map (fun kv => (kV kv.1, kv.2)) ∧ p.1.map keyK = kvs.map (fun kv => some kv.1) ∧ RepVs K ρ H p.2 (kvs.map (·.2)) ∧ (kvs.map (·.1)).Nodup
  | [], us, p, e, r => by
    simp only [PL.dispK, Option.some.injEq] at e
    subst e
    rw [r.inv0]
    exact ⟨[], rfl, rfl, .nil, .nil⟩
  | [_], us, p, e, r => by simp [PL.dispK] at e
  | k :: v :: xs, us, p, e, r => by
    simp only [PL.dispK, Option.bind_eq_some_iff] at e
    obtain ⟨q, e1, e2⟩ := e
    split at e2
    · rename_i hc
      obtain rfl := Option.some.inj e2
      simp only [Bool.and_eq_true, Bool.not_eq_true', decide_eq_true_eq] at hc
      obtain ⟨⟨⟨c1, c2⟩, c3⟩, c4⟩ := hc
      obtain ⟨u, t, rfl, r1, r2⟩ := r.inv
      obtain ⟨w, t2, rfl, r3, r4⟩ := r2.inv
      obtain ⟨kvs, h1, h2, h3, h4⟩ := dispK_rep e1 r4
      obtain ⟨kk, k1, rfl⟩ := key_rep r1 c1
      refine ⟨(kk, w) :: kvs, by simp only [pairsV, List.map_cons, h1], by simp only [List.map_cons, k1, h2], .cons r3 h3, List.nodup_cons.mpr ⟨fun hm => ?_, h4⟩⟩
      obtain ⟨kv, m1, m2⟩ := List.mem_map.mp hm
      have : some kk ∈ q.1.map keyK := by rw [h2]; exact List.mem_map.mpr ⟨kv, m1, by rw [m2]⟩
      obtain ⟨z, z1, z2⟩ := List.mem_map.mp this
      have : z = k := keyK_inj z2 k1
      subst this
      have : q.1.contains z = true := by simpa using z1
      rw [this] at c3; cases c3
    · cases e2
theorem mergeK_new : ∀ {more acc : List (L2.Key × V)}, ((acc ++ more).map (·.1)).Nodup → mergeK acc more = acc ++ more
  | [], acc, _ => by simp [mergeK]
  | p :: more, acc, h => by
    have e : putK acc p.1 p.2 = acc ++ [p] := by
      refine putK_new ?_
      unfold valV
      rw [Option.map_eq_none_iff, List.find?_eq_none]
      intro kv hk hd
      rw [List.map_append, List.nodup_append] at h
      exact h.2.2 kv.1 (List.mem_map.mpr ⟨kv, hk, rfl⟩) p.1 (by simp) (of_decide_eq_true hd)
    show mergeK (putK acc p.1 p.2) more = _
    rw [e, mergeK_new (by rw [List.append_assoc]; exact h), List.append_assoc]; rfl
/-- how the pairs of a display are told -/
def Disp (RX : RXT) (X : Cx) (W : WX) (mk : Mk) (ks : List (Option Expr)) (vs : List Expr) (ms : Mn (List PV)) : Prop := ∀ pos, ∃ trs, PPs X pos ks vs trs ∧ ks.all (·.isSome) = true ∧ ks.length = vs.length ∧
  ∀ (σ : L2.St) (ρ : List Addr) (s : PL.Env) (M : PL.Mem) (H : Hp) (Q : VK) (F : List PV → PL.Mem → PL.R PV) (R : List (V × V) → Hp → Prop), RepE X.K ρ H s σ → Ok X.K mk ρ H M → Post X.K mk (RepV X.K) (EX RX X.K W σ) ρ H Q ((ms s M).bind F) →
    (∀ xs M1 ρ1 H1 us, Ext ρ H ρ1 H1 → Ok X.K mk ρ1 H1 M1 → RepVs X.K ρ1 H1 xs us → Post X.K mk (RepV X.K) (EX RX X.K W σ) ρ1 H1 Q (F xs M1) → R (pairsV us) H1) → tPairs trs σ H R
theorem disp_nil {X : Cx} {W : WX} : Disp RX X W mk [] [] fun _ M => .ok [] M := fun pos => ⟨[], pps_nil, rfl, rfl, fun σ ρ s M H Q F R re k h c => c [] M ρ H [] .refl k .nil h⟩
theorem disp_cons {X : Cx} {W : WX} {a b : Expr} {ks : List (Option Expr)} {vs : List Expr} {ma mb : Mn PV} {ms : Mn (List PV)} (ha : PE X a (tI RX X.K W mk ma)) (hb : PE X b (tI RX X.K W mk mb)) (hr : Disp RX X W mk ks vs ms) :
    Disp RX X W mk (some a :: ks) (b :: vs) fun σ M => (ma σ M).bind fun x M1 => ((mb σ M1).bind fun y M2 => (ms σ M2).bind fun zs M3 => .ok (y :: zs) M3).bind fun xs M2 => .ok (x :: xs) M2 := fun pos => by
  obtain ⟨trs, h1, h2, h3, h4⟩ := hr pos
  refine ⟨_, pps_cons ha hb h1, by simpa using h2, by simp [h3], fun σ ρ s M H Q F R re k h c => ?_⟩
  dsimp only at h
  rw [bind_assoc] at h
  refine ⟨ρ, s, M, re, k, Post.bind h fun x M1 ρ1 H1 u x1 k1 r1 h => ?_⟩
  rw [bind_assoc, bind_assoc] at h
  refine ⟨ρ1, s, M1, re.ext x1, k1, Post.bind h fun y M2 ρ2 H2 w x2 k2 r2 h => ?_⟩
  rw [bind_assoc] at h
  refine h4 σ ρ2 s M2 H2 Q _ _ ((re.ext x1).ext x2) k2 h fun zs M3 ρ3 H3 us x3 k3 r3 h => ?_
  exact c (x :: y :: zs) M3 ρ3 H3 (u :: w :: us) ((x1.trans x2).trans x3) k3 (.cons ((r1.ext x2).ext x3) (.cons (r2.ext x3) r3)) h
theorem rE_dsp {X : Cx} {W : WX} {ks : List (Option Expr)} {vs : List Expr} {ms : Mn (List PV)} {pos : Pos} (hd : Disp RX X W mk ks vs ms) (h0 : ks ≠ []) (h15 : ks.length ≤ 15) :
    PEB RX X W mk (.Dict ks vs pos) fun σ M => (ms σ (M ++ [.dct false [] []])).bind fun xs M1 => match PL.dispK xs, M1[M.length]? with
      | some p, some (.dct false [] []) => .ok (.ref M.length) (M1.set M.length (.dct false p.1 p.2))
      | _, _ => .no := by
  obtain ⟨trs, h1, h2, h3, h4⟩ := hd pos
  refine .plain (PE.imp (pe_disp h1 h2 h3 h0 h15) fun σ H Q ⟨ρ, s, M, re, k, h⟩ => ?_) rfl
  intro p np
  have kA : Ok X.K mk (ρ ++ [p]) (upd H p (.dK [])) (M ++ [.dct false [] []]) := k.alloc np ⟨[], rfl, rfl, .nil⟩
  have xA : Ext ρ H (ρ ++ [p]) (upd H p (.dK [])) := Ext.alloc k.rep np
  have aD : (ρ ++ [p])[M.length]? = some p := by rw [← k.rep.len, List.getElem?_append_right (Nat.le_refl _), Nat.sub_self]; rfl
  refine h4 σ _ s _ _ Q _ _ (re.ext xA) kA (Post.ext h xA) fun xs M1 ρ1 H1 us x1 k1 r1 hh => ?_
  split at hh
  · rename_i q e1 e2
    obtain ⟨b, kvs0, z1, z2, z3, z4⟩ := k1.rep.dct e2
    have hp1 := x1.at aD
    rw [hp1] at z1
    obtain rfl := Option.some.inj z1
    have e0 : kvs0 = [] := by cases kvs0 with | nil => rfl | cons _ _ => simp at z3
    subst e0
    obtain ⟨kvs, g1, g2, g3, g4⟩ := dispK_rep e1 r1
    have hm : mergeK [] kvs = kvs := by rw [mergeK_new (by simpa using g4)]; rfl
    refine ⟨z2, kvs, g1, ?_, ?_⟩
    · have hlen : ∀ {xs : List PV} {q : List PV × List PV}, PL.dispK xs = some q → q.1.length ≤ 15 := fun {xs q} e => by
        cases xs with
        | nil => simp only [PL.dispK, Option.some.injEq] at e; subst e; simp
        | cons a xs =>
          cases xs with
          | nil => simp [PL.dispK] at e
          | cons b xs =>
            simp only [PL.dispK, Option.bind_eq_some_iff] at e
            obtain ⟨q', _, e⟩ := e
            split at e
            · rename_i hc
              obtain rfl := Option.some.inj e
              simp only [Bool.and_eq_true, decide_eq_true_eq] at hc
              have := hc.2
              simp only [List.length_cons]; omega
            · cases e
      have := congrArg List.length g2
      rw [List.length_map, List.length_map] at this
      rw [← this]; exact hlen e1
    · rw [hm]
      refine Post.okx hh (Ext.write hp1) (k1.write hp1 ⟨kvs, rfl, g2, g3⟩ fun hi => ?_) (by simp only [RepV]; exact ⟨p, hp1, rfl⟩)
      exact absurd hi.lt (Nat.not_lt.mpr k.mkl)
  · exact hh.elim
set_option maxHeartbeats 4000000 in
mutual
theorem cE_ok : ∀ (e : PL.E) {Γ : Ctx} {X : Cx} {W : WX} {x : Expr}, CtxOk Γ X → Okx P C RX G X W → chkE P G Γ e x = true → PEB RX X W mk x (PL.ev P C mk e)
  | .var i, Γ, X, W, x, hΓ, ho, h => by
    simp only [chkE] at h
    split at h
    · simp only [Bool.and_eq_true, decide_eq_true_eq] at h
      obtain ⟨⟨h1, h2⟩, h3⟩ := h
      obtain ⟨d1, d2⟩ := nmOk_d h3
      exact .plain (rE_var (by rw [hΓ.N]; exact h1) (hΓ.vis h2) d1 d2) rfl
    · cases h
  | .cst v, Γ, X, W, x, hΓ, ho, h => by
    simp only [chkE] at h
    split at h
    · exact .plain (cst_ok h) rfl
    · cases h
  | .glb g v, Γ, X, W, x, hΓ, ho, h => by
    simp only [chkE] at h
    split at h
    · simp only [Bool.and_eq_true, decide_eq_true_eq, List.any_eq_true] at h
      obtain ⟨⟨⟨h1, h2⟩, h3⟩, q, hq, e1, e2⟩ := h
      subst h1 e1 e2
      obtain ⟨u, w, m, r, rv⟩ := ho.glb q hq
      exact .plain (rE_pure (pe_glob (hΓ.gl h2) m r (nmOk_d h3).1) rv) rfl
    · cases h
  | .bin o a b, Γ, X, W, x, hΓ, ho, h => by
    simp only [chkE] at h
    split at h
    · simp only [Bool.and_eq_true, decide_eq_true_eq] at h
      obtain ⟨⟨h1, h2⟩, h3⟩ := h
      subst h1
      exact .plain (rE_bin (fun E => op_bin o) (cE_ok a hΓ ho h2).v (cE_ok b hΓ ho h3).v) rfl
    · cases h
  | .neg a, Γ, X, W, x, hΓ, ho, h => by
    simp only [chkE] at h
    split at h
    · simp only [Bool.and_eq_true, decide_eq_true_eq] at h
      obtain ⟨h1, h2⟩ := h
      subst h1
      exact .plain (rE_neg (cE_ok a hΓ ho h2).v) rfl
    · cases h
  | .not a, Γ, X, W, x, hΓ, ho, h => by
    simp only [chkE] at h
    split at h
    · simp only [Bool.and_eq_true, decide_eq_true_eq] at h
      obtain ⟨h1, h2⟩ := h
      subst h1
      exact rE_not (cE_ok a hΓ ho h2)
    · cases h
  | .bop o es, Γ, X, W, x, hΓ, ho, h => by
    simp only [chkE] at h
    split at h
    · rename_i op vs pos
      simp only [Bool.and_eq_true, decide_eq_true_eq, Bool.not_eq_true'] at h
      obtain ⟨⟨⟨h1, h2⟩, h3⟩, h4⟩ := h
      subst h1
      exact (cB_ok es o hΓ ho h2 h3 h4).eb
    · cases h
  | .cmp o a b, Γ, X, W, x, hΓ, ho, h => by
    simp only [chkE] at h
    split at h
    · simp only [Bool.and_eq_true, decide_eq_true_eq, Bool.not_eq_true'] at h
      obtain ⟨⟨⟨h1, h2⟩, h3⟩, h4⟩ := h
      subst h1
      exact rE_cmp (op_cmp ho.hu o) (cE_ok a hΓ ho h3).v (cE_ok b hΓ ho h4).v h2
    · cases h
  | .chn o o' a b c, Γ, X, W, x, hΓ, ho, h => by
    simp only [chkE] at h
    split at h
    · simp only [Bool.and_eq_true, decide_eq_true_eq, Bool.not_eq_true'] at h
      obtain ⟨⟨⟨⟨⟨h1, h2⟩, h3⟩, h4⟩, h5⟩, h6⟩ := h
      subst h1 h2
      exact rE_chn (op_cmp ho.hu o) (op_cmp ho.hu o') (cE_ok a hΓ ho h4).v (cE_ok b hΓ ho h5).v (cE_ok c hΓ ho h6).v h3
    · cases h
  | .isN n a, Γ, X, W, x, hΓ, ho, h => by
    simp only [chkE] at h
    split at h
    · simp only [Bool.and_eq_true, decide_eq_true_eq] at h
      obtain ⟨h1, h2⟩ := h
      subst h1
      exact rE_isN n (cE_ok a hΓ ho h2).v
    · cases h
  | .isi a t, Γ, X, W, x, hΓ, ho, h => by
    simp only [chkE] at h
    split at h
    · simp only [Bool.and_eq_true, decide_eq_true_eq, Bool.not_eq_true'] at h
      obtain ⟨⟨⟨⟨⟨h1, h2⟩, h3⟩, h4⟩, h5⟩, h6⟩ := h
      subst h1
      exact rE_isi h2 (hΓ.gl h4) (by rw [h2]; exact ho.blt _ (ty_blt t)) (hΓ.gl h3) (ho.blt "isinstance" (by decide)) (cE_ok a hΓ ho h6).v h5
    · cases h
  | .ite c a b, Γ, X, W, x, hΓ, ho, h => by
    simp only [chkE] at h
    split at h
    · simp only [Bool.and_eq_true] at h
      obtain ⟨⟨h1, h2⟩, h3⟩ := h
      exact rE_ite (cE_ok c hΓ ho h1) (cE_ok a hΓ ho h2) (cE_ok b hΓ ho h3)
    · cases h
  | .tup es, Γ, X, W, x, hΓ, ho, h => by
    simp only [chkE] at h
    split at h
    · exact rE_tup (cEs_ok es hΓ ho h)
    · cases h
  | .lst es, Γ, X, W, x, hΓ, ho, h => by
    simp only [chkE] at h
    split at h
    · exact rE_lst (cEs_ok es hΓ ho h)
    · cases h
  | .dsp kvs, Γ, X, W, x, hΓ, ho, h => by
    simp only [chkE] at h
    split at h
    · rename_i ks vs pos
      simp only [Bool.and_eq_true, decide_eq_true_eq] at h
      obtain ⟨h1, h2⟩ := h
      cases ks with
      | nil =>
        have e : kvs = .nil ∧ vs = [] := by
          cases kvs with
          | nil => simp only [chkD, List.isEmpty_nil, Bool.true_and, List.isEmpty_iff] at h2; exact ⟨rfl, h2⟩
          | cons k r => cases r <;> simp [chkD] at h2
          | star _ _ => simp [chkD] at h2
        obtain ⟨rfl, rfl⟩ := e
        refine .plain (PE.imp pe_dnewK fun σ H Q ⟨ρ, s, M, re, k, h⟩ => ?_) rfl
        rw [dsp_nil] at h
        exact fun p n => post_alloc h k ⟨[], rfl, rfl, .nil⟩ p n
      | cons k ks => exact rE_dsp (cD_ok kvs hΓ ho h2) (by simp) h1
    · cases h
  | .idx a i, Γ, X, W, x, hΓ, ho, h => by
    simp only [chkE] at h
    split at h
    · simp only [Bool.and_eq_true, Bool.not_eq_true'] at h
      obtain ⟨⟨h1, h2⟩, h3⟩ := h
      exact rE_idx ho.hu (cE_ok a hΓ ho h2).v (cE_ok i hΓ ho h3).v h1
    · cases h
  | .slc a lo hi, Γ, X, W, x, hΓ, ho, h => by
    simp only [chkE] at h
    split at h
    · simp only [Bool.and_eq_true] at h
      obtain ⟨⟨h1, h2⟩, h3⟩ := h
      exact rE_slc (cE_ok a hΓ ho h1).v (cEo_ok lo hΓ ho h2) (cEo_ok hi hΓ ho h3)
    · cases h
  | .fn f es, Γ, X, W, x, hΓ, ho, h => by
    simp only [chkE] at h
    split at h
    · rename_i n p xs pos
      simp only [Bool.and_eq_true, decide_eq_true_eq, Bool.not_eq_true'] at h
      obtain ⟨⟨⟨⟨⟨h1, h2⟩, h3⟩, h4⟩, h5⟩, h6⟩ := h
      obtain ⟨ps, hp⟩ := Option.isSome_iff_exists.mp h2
      cases xs with
      | nil =>
        have e : es = .nil := by cases es <;> simp [chkEs] at h6; rfl
        subst e
        exact rE_fn0 (ho.fns f ps hp) ho.hgu ho.tk (hΓ.gl h3) h1 (nmOk_d h4).1
      | cons y ys => exact rE_fn (ho.fns f ps hp) ho.hgu ho.tk (hΓ.gl h3) h1 (nmOk_d h4).1 (cEs_ok es hΓ ho h6) h5
    · cases h
  | .fnk f es kws ks, Γ, X, W, x, hΓ, ho, h => by
    simp only [chkE] at h
    split at h
    · rename_i n p xs kk pos
      simp only [Bool.and_eq_true, decide_eq_true_eq, Bool.not_eq_true'] at h
      obtain ⟨⟨⟨⟨⟨⟨⟨h1, h2⟩, h3⟩, h4⟩, h5⟩, h6⟩, h7⟩, h8⟩ := h
      obtain ⟨ps, hp⟩ := Option.isSome_iff_exists.mp h2
      cases xs with
      | nil =>
        have e : es = .nil := by cases es <;> simp [chkEs] at h6; rfl
        subst e
        exact rE_fnk0 (ho.fns f ps hp) hp ho.hgu ho.tk (hΓ.gl h3) h1 (nmOk_d h4).1 (cKs_ok kws hΓ ho h8) h7
      | cons y ys => exact rE_fnk (ho.fns f ps hp) hp ho.hgu ho.tk (hΓ.gl h3) h1 (nmOk_d h4).1 (cEs_ok es hΓ ho h6) h5 (cKs_ok kws hΓ ho h8) h7
    · cases h
  | .pr p es, Γ, X, W, x, hΓ, ho, h => by
    simp only [chkE] at h
    split at h
    · rename_i n pp xs pos
      split at h
      · rename_i hp
        simp only [Bool.and_eq_true, decide_eq_true_eq, Bool.not_eq_true'] at h
        obtain ⟨⟨⟨⟨h1, h2⟩, h3⟩, h4⟩, h5⟩ := h
        subst h1
        cases xs with
        | nil => simp at h3
        | cons y ys => exact rE_pr ho.hu ho.hgu ho.calm hp (hΓ.gl h2) (ho.blt _ (pName_blt p)) (cEs_ok es hΓ ho h5) h4
      · split at h
        · simp only [Bool.and_eq_true, decide_eq_true_eq, Bool.not_eq_true'] at h
          obtain ⟨⟨⟨⟨⟨h1, h2⟩, h3⟩, h4⟩, h5⟩, h6⟩ := h
          subst h1 h2
          cases es with
          | nil => simp [chkEs] at h6
          | star _ _ =>
            simp only [chkEs] at h6
            split at h6
            · simp_all [isStar]
            · cases h6
          | cons a r =>
            cases r with
            | nil =>
              simp only [chkEs, Bool.and_eq_true] at h6
              rw [sset_eq]
              exact rE_sset ho.calm (hΓ.gl h3) (ho.blt "sorted" (by decide)) (hΓ.gl h4) (ho.blt "set" (by decide)) (cE_ok a hΓ ho h6.1.2).v h5
            | cons _ _ => simp [chkEs] at h6
            | star _ _ => simp [chkEs] at h6
        · cases h
    · cases h
  | .mt m o es, Γ, X, W, x, hΓ, ho, h => by
    simp only [chkE] at h
    split at h
    · simp only [Bool.and_eq_true, decide_eq_true_eq, Bool.not_eq_true'] at h
      obtain ⟨⟨⟨⟨⟨⟨h1, h2⟩, h3⟩, h4⟩, h5⟩, h6⟩, h7⟩ := h
      refine rE_mt ho.hu h1 (cE_ok o hΓ ho h6).v (cEs_ok es hΓ ho h7) h5 h4 (fun e => ?_) h2 h3
      subst e
      have e : es = .nil := by cases es <;> simp [chkEs] at h7; rfl
      subst e
      exact fun _ _ => rfl
    · cases h
  | .comp t it c e, Γ, X, W, x, hΓ, ho, h => by
    simp only [chkE] at h
    split at h
    · rename_i elt tg iter ifs asy scope pos
      simp only [Bool.and_eq_true, decide_eq_true_eq, Bool.not_eq_true', Bool.or_eq_true] at h
      obtain ⟨⟨⟨⟨⟨⟨⟨⟨h1, h2⟩, h3⟩, h4⟩, h5⟩, h6⟩, h7⟩, h8⟩, h9⟩ := h
      subst h1
      have htr : isTr it = true → ∃ ts, t = .tp ts := fun z => by
        rcases h5 with q | q
        · rw [z] at q; cases q
        · cases t with
          | nm i => simp [isTp] at q
          | tp ts => exact ⟨ts, rfl⟩
      simp only [slotsB, Bool.and_eq_true, List.all_eq_true, decide_eq_true_eq] at h3
      refine .plain (PE.imp (pe_lc ho.calm hΓ.nd (cI_ok it hΓ ho h7 fun z => ?_) (show BlkOk X.N X.env.scope scope (ownOf Γ.N scope.names) by rw [hΓ.N, hΓ.sc]; exact blkB_ok h2) (fun s H C cl fp => rG (X := X.blk s H scope (compEnvC scope cl C X.env) fp) ho.calm hΓ.blk t h6) (fun s H C cl fp => cEc_ok c hΓ.blk ho.blk h8) (fun s H C cl fp => (cE_ok e hΓ.blk ho.blk h9).v) (folded_of h4 _))
        fun σ H Q q => comp_key (fun j hj => h3.1 j hj) (fun j hj => h3.2 j hj) htr q) rfl
      obtain ⟨ts, rfl⟩ := htr z
      cases tg with
      | Tuple elts kk tpos => exact ⟨elts, kk, tpos, rfl⟩
      | _ => simp [chkT] at h6
    · cases h
  | .dcomp _ _ _ _ _, Γ, X, W, x, hΓ, ho, h => by simp [chkE] at h
  | .lrng a b, Γ, X, W, x, hΓ, ho, h => by
    simp only [chkE] at h
    split at h
    · simp only [Bool.and_eq_true, decide_eq_true_eq, Bool.not_eq_true'] at h
      obtain ⟨⟨⟨⟨⟨h1, h2⟩, h3⟩, h4⟩, h5⟩, h6⟩ := h
      subst h1 h2
      split at h6
      · simp only [Bool.and_eq_true] at h6
        have e : a = .cst (.int 0) := by
          unfold isZ at h6
          split at h6
          · rfl
          · simp at h6
        subst e
        exact rE_lrng1 ho.calm (hΓ.gl h3) (ho.blt "list" (by decide)) (hΓ.gl h4) (ho.blt "range" (by decide)) (cE_ok b hΓ ho h6.2).v (any_rest h5).1
      · simp only [Bool.and_eq_true] at h6
        exact rE_lrng2 ho.calm (hΓ.gl h3) (ho.blt "list" (by decide)) (hΓ.gl h4) (ho.blt "range" (by decide)) (cE_ok a hΓ ho h6.1).v (any_rest h5).1 (cE_ok b hΓ ho h6.2).v (any_rest (any_rest h5).2).1
      · cases h6
    · cases h
theorem cEs_ok : ∀ (es : PL.Es) {Γ : Ctx} {X : Cx} {W : WX} {xs : List Expr}, CtxOk Γ X → Okx P C RX G X W → chkEs P G Γ es xs = true → PA X xs (tIs RX X.K W mk (PL.evs P C mk es))
  | .nil, Γ, X, W, xs, hΓ, ho, h => by
    simp only [chkEs] at h
    cases xs with
    | nil => exact rA_nil
    | cons _ _ => simp at h
  | .cons e r, Γ, X, W, xs, hΓ, ho, h => by
    simp only [chkEs] at h
    split at h
    · simp only [Bool.and_eq_true, Bool.not_eq_true'] at h
      exact rA_cons (cE_ok e hΓ ho h.1.2).v h.1.1 (cEs_ok r hΓ ho h.2)
    · cases h
  | .star e r, Γ, X, W, xs, hΓ, ho, h => by
    simp only [chkEs] at h
    split at h
    · simp only [Bool.and_eq_true] at h
      exact rA_star (cE_ok e hΓ ho h.1).v (cEs_ok r hΓ ho h.2)
    · cases h
theorem cD_ok : ∀ (es : PL.Es) {Γ : Ctx} {X : Cx} {W : WX} {ks : List (Option Expr)} {vs : List Expr}, CtxOk Γ X → Okx P C RX G X W → chkD P G Γ es ks vs = true → Disp RX X W mk ks vs (PL.evs P C mk es)
  | .nil, Γ, X, W, ks, vs, hΓ, ho, h => by
    simp only [chkD, Bool.and_eq_true, List.isEmpty_iff] at h
    obtain ⟨rfl, rfl⟩ := h
    exact disp_nil
  | .cons k (.cons v r), Γ, X, W, ks, vs, hΓ, ho, h => by
    simp only [chkD] at h
    split at h
    · simp only [Bool.and_eq_true] at h
      exact disp_cons (cE_ok k hΓ ho h.1.1).v (cE_ok v hΓ ho h.1.2).v (cD_ok r hΓ ho h.2)
    · cases h
  | .cons _ .nil, Γ, X, W, ks, vs, hΓ, ho, h => by simp [chkD] at h
  | .cons _ (.star _ _), Γ, X, W, ks, vs, hΓ, ho, h => by simp [chkD] at h
  | .star _ _, Γ, X, W, ks, vs, hΓ, ho, h => by simp [chkD] at h
theorem cKs_ok : ∀ (es : PL.Es) {Γ : Ctx} {X : Cx} {W : WX} {xs : List Keyword}, CtxOk Γ X → Okx P C RX G X W → chkKs P G Γ es xs = true → PK X xs (tIs RX X.K W mk (PL.evs P C mk es))
  | .nil, Γ, X, W, xs, hΓ, ho, h => by
    simp only [chkKs] at h
    cases xs with
    | nil => exact rK_nil
    | cons _ _ => simp at h
  | .cons e r, Γ, X, W, xs, hΓ, ho, h => by
    simp only [chkKs] at h
    split at h
    · simp only [Bool.and_eq_true] at h
      exact rK_cons (cE_ok e hΓ ho h.1).v (cKs_ok r hΓ ho h.2)
    · cases h
  | .star e r, Γ, X, W, xs, hΓ, ho, h => by simp [chkKs] at h
theorem cB_ok : ∀ (es : PL.Es) (o : Bool) {Γ : Ctx} {X : Cx} {W : WX} {xs : List Expr} {pos : Pos}, CtxOk Γ X → Okx P C RX G X W → xs.isEmpty = false → xs.any isStar = false → chkEs P G Γ es xs = true → PWB RX X W mk (bOp o) xs pos (PL.evb P C mk o es)
  | .nil, o, Γ, X, W, xs, pos, hΓ, ho, hn, hs, h => by
    simp only [chkEs] at h
    rw [hn] at h; cases h
  | .star e r, o, Γ, X, W, xs, pos, hΓ, ho, hn, hs, h => by
    simp only [chkEs] at h
    split at h
    · simp [isStar] at hs
    · cases h
  | .cons e .nil, o, Γ, X, W, xs, pos, hΓ, ho, hn, hs, h => by
    simp only [chkEs] at h
    split at h
    · rename_i x ys
      simp only [Bool.and_eq_true] at h
      cases ys with
      | nil => exact rB_one (cE_ok e hΓ ho h.1.2)
      | cons _ _ => simp at h
    · cases h
  | .cons e (.cons e2 r), o, Γ, X, W, xs, pos, hΓ, ho, hn, hs, h => by
    cases xs with
    | nil => simp at hn
    | cons x ys =>
      have h : (!isStar x && chkE P G Γ e x && chkEs P G Γ (.cons e2 r) ys) = true := h
      simp only [Bool.and_eq_true] at h
      cases ys with
      | nil => simp [chkEs] at h
      | cons y zs => exact rB_cons (cE_ok e hΓ ho h.1.2) (cB_ok (.cons e2 r) o hΓ ho rfl (any_rest hs).2 h.2)
  | .cons e (.star e2 r), o, Γ, X, W, xs, pos, hΓ, ho, hn, hs, h => by
    cases xs with
    | nil => simp at hn
    | cons x ys =>
      have h : (!isStar x && chkE P G Γ e x && chkEs P G Γ (.star e2 r) ys) = true := h
      simp only [Bool.and_eq_true] at h
      obtain ⟨h1, h2⟩ := h
      simp only [chkEs] at h2
      split at h2
      · simp [isStar] at hs
      · cases h2
theorem cEo_ok : ∀ (e : PL.Eo) {Γ : Ctx} {X : Cx} {W : WX} {x : Option Expr}, CtxOk Γ X → Okx P C RX G X W → chkEo P G Γ e x = true → PO X x (tIo RX X.K W mk (PL.evo P C mk e))
  | .none, Γ, X, W, x, hΓ, ho, h => by
    simp only [chkEo] at h
    cases x with
    | none => exact rO_none
    | some _ => simp at h
  | .some e, Γ, X, W, x, hΓ, ho, h => by
    simp only [chkEo] at h
    split at h
    · exact rO_some (cE_ok e hΓ ho h).v
    · cases h
theorem cEc_ok : ∀ (e : PL.Eo) {Γ : Ctx} {X : Cx} {W : WX} {x : List Expr}, CtxOk Γ X → Okx P C RX G X W → chkEc P G Γ e x = true → PTs X x (tIb RX X.K W mk (PL.evc P C mk e))
  | .none, Γ, X, W, x, hΓ, ho, h => by
    simp only [chkEc] at h
    cases x with
    | nil => exact ⟨fun pins s0 σ H Q I ⟨ρ, s, M, re, k, h⟩ => pts_nil.run pins s0 σ H Q I (Post.ok (a := true) (M := M) (Rel := fun _ _ (a b : Bool) => a = b) h k rfl)⟩
    | cons _ _ => simp at h
  | .some e, Γ, X, W, x, hΓ, ho, h => by
    simp only [chkEc] at h
    split at h
    · exact pts_one (cE_ok e hΓ ho h).t
    · cases h
theorem cI_ok : ∀ (it : PL.It) {Γ : Ctx} {X : Cx} {W : WX} {x tg : Expr}, CtxOk Γ X → Okx P C RX G X W → chkI P G Γ it x = true → (isTr it = true → ∃ elts kk tpos, tg = .Tuple elts kk tpos) → PI X tg x (iS RX X.K W mk (isTr it) (PL.evi P C mk it))
  | .of e, Γ, X, W, x, tg, hΓ, ho, h, ht => by
    simp only [chkI] at h
    exact rI_of (cE_ok e hΓ ho h).v
  | .rng1 a, Γ, X, W, x, tg, hΓ, ho, h, ht => by
    simp only [chkI] at h
    split at h
    · simp only [Bool.and_eq_true, decide_eq_true_eq, Bool.not_eq_true'] at h
      obtain ⟨⟨⟨h1, h2⟩, h3⟩, h4⟩ := h
      subst h1
      exact rI_rng1 (hΓ.gl h2) (ho.blt "range" (by decide)) (cE_ok a hΓ ho h4).v h3
    · cases h
  | .rng2 a b, Γ, X, W, x, tg, hΓ, ho, h, ht => by
    simp only [chkI] at h
    split at h
    · simp only [Bool.and_eq_true, decide_eq_true_eq, Bool.not_eq_true'] at h
      obtain ⟨⟨⟨⟨⟨h1, h2⟩, h3⟩, h4⟩, h5⟩, h6⟩ := h
      subst h1
      exact rI_rng2 (hΓ.gl h2) (ho.blt "range" (by decide)) (cE_ok a hΓ ho h5).v h3 (cE_ok b hΓ ho h6).v h4
    · cases h
  | .rng3 a b c, Γ, X, W, x, tg, hΓ, ho, h, ht => by
    simp only [chkI] at h
    split at h
    · simp only [Bool.and_eq_true, decide_eq_true_eq, Bool.not_eq_true'] at h
      obtain ⟨⟨⟨⟨⟨⟨⟨h1, h2⟩, h3⟩, h4⟩, h5⟩, h6⟩, h7⟩, h8⟩ := h
      subst h1
      exact rI_rng3 (hΓ.gl h2) (ho.blt "range" (by decide)) (cE_ok a hΓ ho h6).v h3 (cE_ok b hΓ ho h7).v h4 (cE_ok c hΓ ho h8).v h5
    · cases h
  | .enum a, Γ, X, W, x, tg, hΓ, ho, h, ht => by
    simp only [chkI] at h
    split at h
    · simp only [Bool.and_eq_true, decide_eq_true_eq, Bool.not_eq_true'] at h
      obtain ⟨⟨⟨h1, h2⟩, h3⟩, h4⟩ := h
      subst h1
      obtain ⟨elts, kk, tpos, rfl⟩ := ht rfl
      exact rI_enum (hΓ.gl h2) (ho.blt "enumerate" (by decide)) (cE_ok a hΓ ho h4).v h3
    · cases h
  | .zip a b, Γ, X, W, x, tg, hΓ, ho, h, ht => by
    simp only [chkI] at h
    split at h
    · simp only [Bool.and_eq_true, decide_eq_true_eq, Bool.not_eq_true'] at h
      obtain ⟨⟨⟨⟨⟨h1, h2⟩, h3⟩, h4⟩, h5⟩, h6⟩ := h
      subst h1
      obtain ⟨elts, kk, tpos, rfl⟩ := ht rfl
      exact rI_zip (hΓ.gl h2) (ho.blt "zip" (by decide)) (cE_ok a hΓ ho h5).v h3 (cE_ok b hΓ ho h6).v h4
    · cases h
  | .items _, Γ, X, W, x, tg, hΓ, ho, h, ht => by simp [chkI] at h
  | .values _, Γ, X, W, x, tg, hΓ, ho, h, ht => by simp [chkI] at h
end
end
end PLS

/-! PLS21: the rules of statements. -/
namespace PLS
open PySem PySem.Spec PyProof.Rows L2
/-- what a block's run promises -/
def PostS (K : PySem.W.Frag) (mk : Mk) (RX : RXT) (W : WX) (ρ : List Addr) (H : Hp) (D : Ends) : PL.Rs → Prop
  | .nx s' M' => ∀ ρ' H' σ', Ext ρ H ρ' H' → Ok K mk ρ' H' M' → RepE K ρ' H' s' σ' → D.nx σ' H'
  | .bk s' M' => ∀ ρ' H' σ', Ext ρ H ρ' H' → Ok K mk ρ' H' M' → RepE K ρ' H' s' σ' → D.bk σ' H'
  | .rt v M' => ∀ ρ' H' u, Ext ρ H ρ' H' → Ok K mk ρ' H' M' → RepV K ρ' H' v u → D.rt u H'
  | .exc x s' M' => ∀ ρ' H' σ', Ext ρ H ρ' H' → Ok K mk ρ' H' M' → RepE K ρ' H' s' σ' → ∀ cls d, RX ρ' H' x cls d → W cls d σ' H'
  | .no => False
section
variable {K : PySem.W.Frag} {mk : Mk} {RX : RXT} {W : WX} {ρ ρ' : List Addr} {H H' : Hp} {D : Ends}
theorem PostS.ext {m : PL.Rs} (h : PostS K mk RX W ρ H D m) (x : Ext ρ H ρ' H') : PostS K mk RX W ρ' H' D m := by
  cases m with
  | nx s M => exact fun ρ2 H2 σ2 x2 k r => h ρ2 H2 σ2 (x.trans x2) k r
  | bk s M => exact fun ρ2 H2 σ2 x2 k r => h ρ2 H2 σ2 (x.trans x2) k r
  | rt v M => exact fun ρ2 H2 u x2 k r => h ρ2 H2 u (x.trans x2) k r
  | exc e s M => exact fun ρ2 H2 σ2 x2 k r => h ρ2 H2 σ2 (x.trans x2) k r
  | no => exact h
theorem toS_bind {m : PL.R PV} {f : PV → PL.Mem → PL.Rs} {s : PL.Env} {σ : L2.St} {Q : VK} (h : PostS K mk RX W ρ H D (m.toS s f)) (re : RepE K ρ H s σ)
    (k : ∀ v M1 ρ1 H1 u, Ext ρ H ρ1 H1 → Ok K mk ρ1 H1 M1 → RepV K ρ1 H1 v u → PostS K mk RX W ρ1 H1 D (f v M1) → Q u H1) : Post K mk (RepV K) (EX RX K W σ) ρ H Q m := by
  cases m with
  | ok v M => exact fun ρ1 H1 u x o r => k v M ρ1 H1 u x o r (PostS.ext h x)
  | exc e M => exact fun ρ1 H1 x o => h ρ1 H1 σ x o (re.ext x)
  | no => exact h
theorem toSl_bind {α β : Type} {Rel : List Addr → Hp → α → β → Prop} {m : PL.R α} {f : α → PL.Mem → PL.Rs} {s : PL.Env} {σ : L2.St} {Q : β → Hp → Prop} (h : PostS K mk RX W ρ H D (m.toSl s f)) (re : RepE K ρ H s σ)
    (k : ∀ v M1 ρ1 H1 u, Ext ρ H ρ1 H1 → Ok K mk ρ1 H1 M1 → Rel ρ1 H1 v u → PostS K mk RX W ρ1 H1 D (f v M1) → Q u H1) : Post K mk Rel (EX RX K W σ) ρ H Q m := by
  cases m with
  | ok v M => exact fun ρ1 H1 u x o r => k v M ρ1 H1 u x o r (PostS.ext h x)
  | exc e M => exact fun ρ1 H1 x o => h ρ1 H1 σ x o (re.ext x)
  | no => exact h
end
abbrev Ms := PL.Env → PL.Mem → PL.Rs
def tSt (RX : RXT) (K : PySem.W.Frag) (W : WX) (mk : Mk) (m : Ms) : TS := fun D σ H => ∃ ρ s M, RepE K ρ H s σ ∧ Ok K mk ρ H M ∧ PostS K mk RX W ρ H D (m s M)
def isComp : Expr → Bool
  | .ListComp _ _ _ _ | .SetComp _ _ _ _ | .DictComp _ _ _ _ _ => true
  | _ => false
theorem swaps_of {e : Expr} (h : isComp e = false) (t : Option Expr) (l : Nat) (env : Env) : swapsWith e t l env = pure false := by
  cases e <;> first | rfl | simp [isComp] at h
section
variable {X : Cx} {RX : RXT} {W : WX} {mk : Mk} {x a b c e : Expr} {es : List Expr} {m ma mb mc : Mn PV} {ms mks : Mn (List PV)} {pos pos2 p : Pos} {st : Stmt} {sts : List Stmt} {n n1 n2 : Ms}
theorem rS_nil : PSs X [] (tSt RX X.K W mk fun σ M => .nx σ M) := PSs.imp pss_nil fun D σ H ⟨ρ, s, M, re, k, h⟩ => h ρ H σ .refl k re
theorem rS_cons (h1 : PS X st (tSt RX X.K W mk n1)) (h2 : PSs X sts (tSt RX X.K W mk n2)) : PSs X (st :: sts) (tSt RX X.K W mk fun σ M => match n1 σ M with | .nx σ1 M1 => n2 σ1 M1 | o => o) := by
  refine PSs.imp (pss_cons h1 h2) fun D σ H ⟨ρ, s, M, re, k, h⟩ => ⟨ρ, s, M, re, k, ?_⟩
  dsimp only at h
  cases e : n1 s M with
  | nx s1 M1 => rw [e] at h; exact fun ρ' H' σ' x' k' r' => ⟨ρ', s1, M1, r', k', PostS.ext h x'⟩
  | bk s1 M1 => rw [e] at h; exact h
  | rt v M1 => rw [e] at h; exact h
  | exc x s1 M1 => rw [e] at h; exact h
  | no => rw [e] at h; exact h
theorem rS_pass : PS X (.Pass pos) (tSt RX X.K W mk fun σ M => .nx σ M) := PS.imp ps_pass fun D σ H ⟨ρ, s, M, re, k, h⟩ => h ρ H σ .refl k re
theorem rS_brk : PS X (.Break pos) (tSt RX X.K W mk fun σ M => .bk σ M) := PS.imp ps_break fun D σ H ⟨ρ, s, M, re, k, h⟩ => h ρ H σ .refl k re
theorem rS_ex (ha : PE X a (tI RX X.K W mk ma)) (hc : isComp a = false) : PS X (.Expr a pos) (tSt RX X.K W mk fun σ M => (ma σ M).toS σ fun _ M1 => .nx σ M1) :=
  PS.imp (ps_expr ha (swaps_of hc _ _ _)) fun D σ H ⟨ρ, s, M, re, k, h⟩ => ⟨ρ, s, M, re, k, toS_bind h re fun v M1 ρ1 H1 u x1 k1 r1 h1 => h1 ρ1 H1 σ .refl k1 (re.ext x1)⟩
theorem rS_doc {z : Str} {j : Nat} {p' : Pos} : PS X (.Expr (.Constant (.str z) j p') pos) (tSt RX X.K W mk fun σ M => .nx σ M) := PS.imp ps_doc fun D σ H ⟨ρ, s, M, re, k, h⟩ => h ρ H σ .refl k re
theorem rS_ret (ha : PE X a (tI RX X.K W mk ma)) : PS X (.Return (some a) pos) (tSt RX X.K W mk fun σ M => (ma σ M).toS σ fun v M1 => .rt v M1) :=
  PS.imp (ps_ret ha) fun D σ H ⟨ρ, s, M, re, k, h⟩ => ⟨ρ, s, M, re, k, toS_bind h re fun v M1 ρ1 H1 u x1 k1 r1 h1 => h1 ρ1 H1 u .refl k1 r1⟩
theorem rS_retN : PS X (.Return none pos) (tSt RX X.K W mk fun _ M => .rt .non M) := PS.imp ps_retN fun D σ H ⟨ρ, s, M, re, k, h⟩ => h ρ H .non .refl k rep_non
theorem rS_if (hc : PT X c (tIb RX X.K W mk mc)) (ha : PSs X sts (tSt RX X.K W mk n1)) {sts2 : List Stmt} (hb : PSs X sts2 (tSt RX X.K W mk n2)) :
    PS X (.If c sts sts2 pos) (tSt RX X.K W mk fun σ M => (mc σ M).toS σ fun v M1 => match v with | .bl true => n1 σ M1 | .bl false => n2 σ M1 | _ => .no) := by
  refine PS.imp (ps_if hc ha hb) fun D σ H ⟨ρ, s, M, re, k, h⟩ => ⟨ρ, s, M, re, k, ?_⟩
  unfold asB
  dsimp only at h
  rcases m_cases (mc s M) with e | ⟨x, M1, e⟩ | ⟨v, M1, e⟩
  · rw [e] at h; exact h.elim
  · rw [e] at h ⊢; exact fun ρ1 H1 x1 k1 => h ρ1 H1 σ x1 k1 (re.ext x1)
  · rw [e] at h ⊢
    cases v with
    | bl d =>
      exact fun ρ' H' d' x' k' r' => by
        subst r'
        have h2 := PostS.ext h x'
        cases d with
        | true => exact ⟨ρ', s, M1, re.ext x', k', h2⟩
        | false => exact ⟨ρ', s, M1, re.ext x', k', h2⟩
    | _ => exact h.elim
/-! ### stores -/
theorem rS_asg {t : PL.Tg} {tg : Expr} {Γ : Ctx} (hcalm : X.calm = true) (hΓ : CtxOk Γ X) (ha : PE X a (tI RX X.K W mk ma)) (ht : chkT Γ t tg = true) (hs : swapsWith a (some tg) pos.line X.env = pure false) (hw : swappedStores [tg] a X.env = pure none) :
    PS X (.Assign [tg] a pos) (tSt RX X.K W mk fun σ M => (ma σ M).toS σ fun v M1 => match PL.asg t v σ with | some σ' => .nx σ' M1 | none => .no) := by
  refine PS.imp (ps_asg ha (rG hcalm hΓ t ht) hs hw (by rw [assignEach_of (chkT_star ht)]; rfl)) fun D σ H ⟨ρ, s, M, re, k, h⟩ => ⟨ρ, s, M, re, k, toS_bind h re fun v M1 ρ1 H1 u x1 k1 r1 h1 => ?_⟩
  split at h1
  · rename_i s' e
    exact ⟨[], ρ1, v, s, s', false, (re.ext x1).toOff, .inl r1, (fun z => by cases z), e, fun σ' re' so => h1 ρ1 H1 σ' .refl k1 (re'.mono fun j hj => by simp [less] at hj).all⟩
  · exact h1.elim
theorem post_put {ρ : List Addr} {H : Hp} {M : PL.Mem} {o i v : PV} {uo ui uv : V} {Q : Hp → Prop} {M4 : PL.Mem} {K : PySem.W.Frag} (k : Ok K mk ρ H M) (ro : RepV K ρ H o uo) (ri : RepV K ρ H i ui) (rv : RepV K ρ H v uv) (e : PL.put mk M o i v = some M4)
    (q : ∀ H', Ext ρ H ρ H' → Ok K mk ρ H' M4 → Q H') : rSetL uo ui uv H Q ∨ ∃ a H4, uo = .ref a ∧ DPut H a ui uv H4 ∧ Q H4 := by
  unfold PL.put at e
  split at e
  · rename_i a
    obtain ⟨p, hp, rfl⟩ := ref_at ro
    split at e
    · rename_i xs hm
      split at e
      · rename_i n
        obtain ⟨b, us, h1, h2, h3⟩ := k.rep.lst hm
        rw [hp] at h1; obtain rfl := Option.some.inj h1
        simp only [RepV] at ri
        subst ri
        obtain ⟨j, e1, e2⟩ := Option.bind_eq_some_iff.mp e
        split at e2
        · rename_i hw
          obtain rfl := Option.some.inj e2
          refine .inl ⟨p, us, n, j, rfl, rfl, h2, by rw [← h3.length, ← nIx_eq]; exact e1, q _ (Ext.write hp) (k.write hp ⟨_, rfl, h3.set rv j⟩ fun hi => ?_)⟩
          refine belows_iff.mpr fun y hy => ?_
          rcases List.mem_or_eq_of_mem_set hy with hy | rfl
          · exact belows_iff.mp (k.lstBel hm hi) y hy
          · exact below_wOk_ hw hi
        · cases e2
      · cases e
    · rename_i ks vs hm
      split at e
      · rename_i hw
        simp only [Bool.and_eq_true, decide_eq_true_eq] at hw
        obtain ⟨⟨⟨w1, w2⟩, w3⟩, w4⟩ := hw
        obtain rfl := Option.some.inj e
        obtain ⟨b, kvs, h1, h2, h3, h4⟩ := k.rep.dct hm
        rw [hp] at h1; obtain rfl := Option.some.inj h1
        obtain ⟨kk, e1, rfl⟩ := key_rep ri w1
        have hl : kvs.length < sizeLine := by
          have := congrArg List.length h3
          rw [List.length_map, List.length_map] at this
          rw [← this, ← SZ_eq]; exact w2
        obtain ⟨d1, d2⟩ := dput_rep e1 rv h3 h4
        refine .inr ⟨p, _, rfl, DPut.k h2 hl, q _ (Ext.write hp) (k.write hp ⟨_, rfl, d1, d2⟩ fun hi => ?_)⟩
        obtain ⟨b1, b2⟩ := k.dctBel hm hi
        simp only [belowO, Bool.and_eq_true]
        unfold PL.dputV
        split
        · refine ⟨b1, belows_iff.mpr fun y hy => ?_⟩
          have : ∀ {ks vs : List PV}, belows _ vs = true → ∀ y ∈ PL.putAll ks vs i v, below _ y = true := fun {ks} => by
            induction ks with
            | nil => intro vs _ y hy; simp [PL.putAll] at hy
            | cons k0 ks ih =>
              intro vs hb y hy
              cases vs with
              | nil => simp [PL.putAll] at hy
              | cons v0 vs =>
                simp only [belows, Bool.and_eq_true] at hb
                simp only [PL.putAll, List.mem_cons] at hy
                rcases hy with rfl | hy
                · split
                  · exact below_wOk_ w4 hi
                  · exact hb.1
                · exact ih hb.2 y hy
          exact this b2 y hy
        · exact ⟨belows_snoc b1 (below_wOk_ w3 hi), belows_snoc b2 (below_wOk_ w4 hi)⟩
      · cases e
    · cases e
  · cases e
theorem rS_put {o i v : Expr} {mo mi mv : Mn PV} {pos' : Pos} (hu : X.A.units + 200 < cLine) (ho : PE X o (tI RX X.K W mk mo)) (hi : PE X i (tI RX X.K W mk mi)) (hv : PE X v (tI RX X.K W mk mv)) (hc : isComp v = false) :
    PS X (.Assign [.Subscript o i pos'] v pos) (tSt RX X.K W mk fun σ M => (mv σ M).toS σ fun v M1 => (mo σ M1).toS σ fun ov M2 => (mi σ M2).toS σ fun iv M3 => match PL.put mk M3 ov iv v with | some M4 => .nx σ M4 | none => .no) := by
  refine ⟨fun pins s0 σ H D I ⟨ρ, s, M, re, k, h⟩ => ?_⟩
  refine wpAny_Assign_Subscript (thn (hv.run pins s0 σ H (fun uv H1 => tI RX X.K W mk mo σ H1 fun uo H2 => tI RX X.K W mk mi σ H2 fun ui H3 => rSetL uo ui uv H3 (fun H4 => D.nx σ H4) ∨ ∃ a H4, uo = .ref a ∧ DPut H3 a ui uv H4 ∧ D.nx σ H4) I
    ⟨ρ, s, M, re, k, toS_bind h re fun v M1 ρ1 H1 uv x1 k1 r1 h1 => ⟨ρ1, s, M1, re.ext x1, k1, toS_bind h1 (re.ext x1) fun ov M2 ρ2 H2 uo x2 k2 r2 h2 => ⟨ρ2, s, M2, (re.ext x1).ext x2, k2, toS_bind h2 ((re.ext x1).ext x2) fun iv M3 ρ3 H3 ui x3 k3 r3 h3 => ?_⟩⟩⟩)
    fun r s1 ⟨uv, H1, I1, rv, q1⟩ => thn (ho.run pins s1 σ H1 _ I1 q1) fun u s2 ⟨uo, H2, I2, ro, q2⟩ => thn (hi.run pins s2 σ H2 _ I2 q2) fun iv s3 ⟨ui, H3, I3, ri, q3⟩ => ?_) (swaps_of hc _ _ _)
  · split at h3
    · rename_i M4 e
      exact post_put k3 (r2.ext x3) r3 ((r1.ext x2).ext x3) e fun H' x' k' => h3 ρ3 H' σ x' k' ((((re.ext x1).ext x2).ext x3).ext x')
    · exact h3.elim
  · rcases q3 with q3 | ⟨a, H4, rfl, g, q3⟩
    · exact thn (set_list pins s3 σ H3 uo ui uv u iv r _ I3 ro ri rv q3) fun _ s4 ⟨H4, I4, q4⟩ => ⟨σ, H4, I4, q4⟩
    · obtain rfl : u = Value.ref a := ro
      exact d_setItem (by omega) I3 g ri rv fun s4 I4 => ⟨σ, H4, I4, q3⟩
end
end PLS

/-! PLS22: loops; a comprehension stored; a, b = x, y. -/
namespace PLS
open PySem PySem.Spec PyProof.Rows L2
section
variable {X : Cx} {RX : RXT} {W : WX} {mk : Mk} {x a b c e : Expr} {es : List Expr} {m ma mb : Mn PV} {mi : Mn PL.Src} {mc me : Mn PV} {ms mks : Mn (List PV)} {pos pos2 p : Pos} {st : Stmt} {sts : List Stmt} {n n1 n2 : Ms} {t : PL.Tg} {Γ : Ctx}
theorem turn_body {K : PySem.W.Frag} {ρ : List Addr} {H : Hp} {D : Ends} {N : L2.St → Hp → Prop} {s : PL.Env} {M : PL.Mem} {nxt : PL.Env → PL.Mem → PL.Rs}
    (h : PostS K mk RX W ρ H D (match n s M with | .nx σ1 M1 => nxt σ1 M1 | .bk σ1 M1 => .nx σ1 M1 | r => r))
    (k : ∀ s1 M1 ρ1 H1 σ1, Ext ρ H ρ1 H1 → Ok K mk ρ1 H1 M1 → RepE K ρ1 H1 s1 σ1 → PostS K mk RX W ρ1 H1 D (nxt s1 M1) → N σ1 H1) :
    PostS K mk RX W ρ H { D with nx := N, ct := N, bk := D.nx } (n s M) := by
  cases e : n s M with
  | nx s1 M1 => rw [e] at h; exact fun ρ' H' σ' x' k' r' => k s1 M1 ρ' H' σ' x' k' r' (PostS.ext h x')
  | bk s1 M1 => rw [e] at h; exact h
  | rt v M1 => rw [e] at h; exact h
  | exc x s1 M1 => rw [e] at h; exact h
  | no => rw [e] at h; exact h
theorem rS_for {tg iter : Expr} {tr : Bool} (hp : PassesOwn (model X.prog X.w) X.A X.env X.xe) (hcalm : X.calm = true) (hΓ : CtxOk Γ X) (hi : PI X tg iter (iS RX X.K W mk tr mi)) (ht : chkT Γ t tg = true) (htr : tr = true → ∃ ts, t = .tp ts)
    (hb : PSs X sts (tSt RX X.K W mk n)) (hs : isSet iter = false) : PS X (.For tg iter sts [] pos) (tSt RX X.K W mk fun σ M => (mi σ M).toSl σ fun s M1 => PL.forL s.2 t n s.1 σ M1) := by
  refine PS.imp (ps_for hp hcalm hi (rG hcalm hΓ t ht) hb (folded_of hs _)) fun D σ H ⟨ρ, s, M, re, k, h⟩ => ⟨ρ, s, M, re, k, toSl_bind h re fun src M1 ρ1 H1 J x1 k1 sv h1 => ?_⟩
  refine ⟨fun i q σ' H' => ∃ ρ' s' M', Ext ρ1 H1 ρ' H' ∧ Ok X.K mk ρ' H' M' ∧ RepE X.K ρ' H' s' σ' ∧ i ≤ src.1.length ∧ q = src.1.length - i ∧ PostS X.K mk RX W ρ' H' D (PL.forL src.2 t n (src.1.drop i) s' M'),
    ⟨_, ρ1, s, M1, .refl, k1, re.ext x1, Nat.zero_le _, rfl, h1⟩, ?_⟩
  rintro i q σ' H' ⟨ρ', s', M', x', k', re', hi', hq, hp'⟩
  cases hdr : src.1.drop i with
  | nil =>
    rw [hdr] at hp'
    have hil : i = src.1.length := by
      have := congrArg List.length hdr
      rw [List.length_drop, List.length_nil] at this
      omega
    unfold PL.forL at hp'
    split at hp'
    · rename_i hw
      exact .inl ⟨(sv i ρ' H' M' x' k' hw).2 hil, hp' ρ' H' σ' .refl k' re'⟩
    · exact hp'.elim
  | cons y rest =>
    rw [hdr] at hp'
    obtain ⟨hy, hrest⟩ := drop_cons hdr
    have hil : i < src.1.length := (List.getElem?_eq_some_iff.mp hy).1
    unfold PL.forL at hp'
    split at hp'
    · rename_i hw
      obtain ⟨go, yl⟩ := (sv i ρ' H' M' x' k' hw).1 y hy
      refine .inr ⟨go, fun σ2 H2 => ∃ ρ2 s2 M2, Ext ρ1 H1 ρ2 H2 ∧ Ok X.K mk ρ2 H2 M2 ∧ RepE X.K ρ2 H2 s2 σ2 ∧ PostS X.K mk RX W ρ2 H2 D (PL.forL src.2 t n rest s2 M2), ?_, ?_⟩
      · rintro σ2 H2 ⟨ρ2, s2, M2, x2, k2, re2, h2⟩
        exact ⟨q - 1, by omega, ρ2, s2, M2, x2, k2, re2, hil, by omega, by rw [hrest]; exact h2⟩
      · intro u H2 hyl
        obtain ⟨x3, k3, rx⟩ := yl u H2 hyl
        split at hp'
        · exact hp'.elim
        · rename_i s2 hs2
          refine ⟨[], ρ', y, s', s2, tr, (re'.ext x3).toOff, rx, htr, hs2, fun σ2 re2 so => ?_⟩
          refine ⟨ρ', s2, M', (re2.mono fun j hj => by simp [less] at hj).all, k3, turn_body (PostS.ext hp' x3) fun s4 M4 ρ4 H4 σ4 x4 k4 re4 h4 => ?_⟩
          exact ⟨ρ4, s4, M4, (x'.trans x3).trans x4, k4, re4, h4⟩
    · exact hp'.elim
theorem rS_whl (hp : PassesOwn (model X.prog X.w) X.A X.env X.xe) (hc : PT X c (tIb RX X.K W mk mc)) (hb : PSs X sts (tSt RX X.K W mk n)) : PS X (.While c sts [] pos) (tSt RX X.K W mk fun σ M => PL.whlL mc n PL.FUEL σ M) := by
  generalize PL.FUEL = F
  refine PS.imp (ps_while hp hc hb) fun D σ H ⟨ρ, s, M, re, k, h⟩ => ?_
  refine ⟨fun q σ' H' => ∃ ρ' s' M', Ok X.K mk ρ' H' M' ∧ RepE X.K ρ' H' s' σ' ∧ PostS X.K mk RX W ρ' H' D (PL.whlL mc n q s' M'), ⟨F, ρ, s, M, k, re, h⟩, ?_⟩
  rintro q σ' H' ⟨ρ', s', M', k', re', hp'⟩
  cases q with
  | zero => exact hp'.elim
  | succ q =>
    unfold PL.whlL at hp'
    refine ⟨ρ', s', M', re', k', ?_⟩
    unfold asB
    rcases m_cases (mc s' M') with e | ⟨x, M1, e⟩ | ⟨v, M1, e⟩
    · rw [e] at hp'; exact hp'.elim
    · rw [e] at hp' ⊢; exact fun ρ1 H1 x1 k1 => hp' ρ1 H1 σ' x1 k1 (re'.ext x1)
    · rw [e] at hp' ⊢
      cases v with
      | bl d =>
        exact fun ρ1 H1 d' x1 k1 r1 => by
          subst r1
          have h2 := PostS.ext hp' x1
          cases d with
          | true =>
            rw [if_pos rfl]
            refine ⟨fun σ2 H2 => ∃ ρ2 s2 M2, Ok X.K mk ρ2 H2 M2 ∧ RepE X.K ρ2 H2 s2 σ2 ∧ PostS X.K mk RX W ρ2 H2 D (PL.whlL mc n q s2 M2), fun σ2 H2 z => ⟨q, Nat.lt_succ_self _, z⟩, ρ1, s', M1, re'.ext x1, k1, turn_body h2 fun s4 M4 ρ4 H4 σ4 x4 k4 re4 h4 => ⟨ρ4, s4, M4, k4, re4, h4⟩⟩
          | false => exact h2 ρ1 H1 σ' .refl k1 (re'.ext x1)
      | _ => exact hp'.elim
/-- name = [..] -/
theorem rS_setLc {i : Nat} {y : Str} {py spos : Pos} {elt tg iter : Expr} {ifs : List Expr} {scope : Scope} {own : List (Str × Nat)} {tr : Bool} (hc : X.calm = true) (hN : X.N.Nodup) (hy : X.N[i]? = some y) (hyl : X.env.scope.names.lookup y = some .local)
    (hsw : swapsWith (.ListComp elt [⟨tg, iter, ifs, 0⟩] scope pos) (some (.Name y py)) spos.line X.env = pure true) (hi : PI X tg iter (iS RX X.K W mk tr mi)) (ok : BlkOk X.N X.env.scope scope own)
    (hg : ∀ (s : Shared) (H : Hp) (C : Addr) (cl : List (Str × Addr)) (fp : List Addr), PG (X.blk s H scope (compEnvC scope cl C X.env) fp) tg (gT X.K t))
    (ht : ∀ (s : Shared) (H : Hp) (C : Addr) (cl : List (Str × Addr)) (fp : List Addr), PTs (X.blk s H scope (compEnvC scope cl C X.env) fp) ifs (tIb RX X.K WF mk mc))
    (he : ∀ (s : Shared) (H : Hp) (C : Addr) (cl : List (Str × Addr)) (fp : List Addr), PE (X.blk s H scope (compEnvC scope cl C X.env) fp) elt (tI RX X.K WF mk me)) (hs : isSet iter = false)
    (h1 : ∀ j ∈ tgIs t, j ∈ own.map (·.2)) (h2 : ∀ j ∈ own.map (·.2), j ∈ tgIs t) (htr : tr = true → ∃ ts, t = .tp ts) :
    PS X (.Assign [.Name y py] (.ListComp elt [⟨tg, iter, ifs, 0⟩] scope pos) spos) (tSt RX X.K W mk fun σ M => (compM t mi mc me σ M).toS σ fun v M1 => match PL.asg (.nm i) v σ with | some σ' => .nx σ' M1 | none => .no) := by
  refine PS.imp (ps_setLc hc hN hy hyl hsw hi ok hg ht he (folded_of hs _)) fun D σ H ⟨ρ, s, M, re, k, h⟩ => ?_
  refine comp_key (RX := RX) (W := W) (mk := mk) h1 h2 htr (Q := fun x H1 => D.nx (σ.set i (some x)) H1) ⟨ρ, s, M, re, k, toS_bind h re fun v M1 ρ1 H1 u x1 k1 r1 h1 => ?_⟩
  simp only [PL.asg] at h1
  exact h1 ρ1 H1 _ .refl k1 ((re.ext x1).set r1)
/-! ### a, b = x, y -/
theorem rS_par2 {i j : Nat} {y z : Str} {px py pt : Pos} {kt k2 : Nat} {pt2 : Pos} (hc : X.calm = true) (hN : X.N.Nodup) (hi : X.N[i]? = some y) (hj : X.N[j]? = some z) (hij : i ≠ j) (hx : X.env.scope.names.lookup y = some .local) (hy : X.env.scope.names.lookup z = some .local)
    (ha : PA X [a, b] (tIs RX X.K W mk ms)) (hw : swappedStores [.Tuple [.Name y px, .Name z py] kt pt] (.Tuple [a, b] k2 pt2) X.env = pure (some [y, z])) :
    PS X (.Assign [.Tuple [.Name y px, .Name z py] kt pt] (.Tuple [a, b] k2 pt2) pos) (tSt RX X.K W mk fun σ M => (ms σ M).toSl σ fun vs M1 => match PL.pars [i, j] vs σ with | some σ' => .nx σ' M1 | none => .no) := by
  refine PS.imp (ps_par hc hN hi hj hij hx hy ha hw rfl) fun D σ H ⟨ρ, s, M, re, k, h⟩ => ⟨ρ, s, M, re, k, toSl_bind h re fun vs M1 ρ1 H1 us x1 k1 r1 h1 => ?_⟩
  split at h1
  · rename_i s' e
    match vs, e, r1 with
    | [v, w], e, r1 =>
      simp only [PL.pars, Option.some.injEq] at e
      subst e
      obtain ⟨u, t, rfl, q1, q2⟩ := r1.inv
      obtain ⟨u2, t2, rfl, q3, q4⟩ := q2.inv
      rw [q4.inv0]
      exact ⟨u, u2, rfl, h1 ρ1 H1 _ .refl k1 (((re.ext x1).set q1).set q3)⟩
    | [], e, _ => simp [PL.pars] at e
    | [_], e, _ => simp [PL.pars] at e
    | _ :: _ :: _ :: _, e, _ => simp [PL.pars] at e
  · exact h1.elim
end
end PLS

/-! PLS23: the check of statements, sound. -/
namespace PLS
open PySem PySem.Spec PyProof.Rows L2
def isTupE : Expr → Bool
  | .Tuple _ _ _ => true
  | _ => false
theorem sw_none {tg e : Expr} {env : Env} (h : isTupE e = false) : swappedStores [tg] e env = pure none := by
  cases e <;> first | (simp [isTupE] at h; done) | (cases tg <;> rfl)
theorem sw_name {n : Str} {p : Pos} {e : Expr} {env : Env} : swappedStores [.Name n p] e env = pure none := by
  cases e <;> rfl
theorem sw_pair {y z : Str} {px py pt pt2 : Pos} {kt k2 : Nat} {a b : Expr} {env : Env} (hk : env.blockKind = .function) (hy : env.scope.names.lookup y = some .local) (hz : env.scope.names.lookup z = some .local) (hl : px.line = py.line) (hne : y ≠ z)
    (ha : isStar a = false) (hb : isStar b = false) (hf : [a, b].all (foldedForSure 8) = false) (hc : [a, b].all (constantsAlone 8) = false) :
    swappedStores [.Tuple [.Name y px, .Name z py] kt pt] (.Tuple [a, b] k2 pt2) env = pure (some [y, z]) := by
  have h1 : ([a, b].any fun | .Starred .. => true | _ => false) = false := by
    cases a <;> first | (simp [isStar] at ha; done) | (cases b <;> first | rfl | (simp [isStar] at hb; done))
  have e1 : env.kindOf y = some .local := hy
  have e2 : env.kindOf z = some .local := hz
  have hd : [y, z].eraseDups.length = 2 := by
    have : (z == y) = false := beq_eq_false_iff_ne.mpr (Ne.symm hne)
    simp [List.eraseDups, List.eraseDupsBy, List.eraseDupsBy.loop, this]
  unfold swappedStores
  simp [hk, e1, e2, hl, hf, hc, h1, hd, Expr.pos]
  intro h
  exfalso
  rcases h with h | h
  · cases a <;> simp [isStar] at h ha
  · cases b <;> simp [isStar] at h hb
structure CtxS (Γ : Ctx) (X : Cx) : Prop where
  c : CtxOk Γ X
  kind : X.env.scope.kind = .function
  hp : PassesOwn (model X.prog X.w) X.A X.env X.xe
theorem CtxS.bk {Γ : Ctx} {X : Cx} (h : CtxS Γ X) : X.env.blockKind = .function := by
  unfold Env.blockKind
  rw [h.kind]; rfl
/-- whether the name's value and the list change places -/
def swLc (Γ : Ctx) (t : Str) (pos vpos : Pos) (scope : Scope) : Bool :=
  decide (Γ.sc.names.lookup t = some .local) && pos.line == vpos.line && !(scope.names.any fun (n, k) => n == t && (k == .local || k == .cell))
theorem swLc_eq {Γ : Ctx} {X : Cx} (h : CtxS Γ X) {elt : Expr} {gs : List Comprehension} {scope : Scope} {vpos pos : Pos} {t : Str} {l : Nat} : swapsWith (.ListComp elt gs scope vpos) (some (.Name t pos)) l X.env = pure (swLc Γ t pos vpos scope) := by
  show pure (X.env.blockKind == .function && X.env.kindOf t == some .local && pos.line == (Expr.ListComp elt gs scope vpos).pos.line && !(scope.names.any fun (n, k) => n == t && (k == .local || k == .cell))) = _
  have e : (X.env.kindOf t == some .local) = decide (Γ.sc.names.lookup t = some .local) := by
    rw [← h.c.sc]
    exact Bool.beq_eq_decide_eq _ _
  rw [h.bk, e]
  rfl
section
variable (P : String → Option (List String)) (G : G_)
mutual
def chkS : Ctx → PL.S → Stmt → Bool
  | Γ, .set t e, x => match x with
    | .Assign [tg] v _ => (match v with
      | .ListComp elt gs scope vpos => (match tg with
        | .Name n p => chkT Γ t tg && chkE P G Γ e v && (!swLc Γ n p vpos scope || (match t, e with
          | .nm _, .comp _ _ _ _ => true
          | _, _ => false))
        | _ => false)
      | v => !isComp v && !isTupE v && chkT Γ t tg && chkE P G Γ e v)
    | _ => false
  | Γ, .par is es, x => match x with
    | .Assign [.Tuple [.Name y px, .Name z py] _ _] (.Tuple [a, b] _ _) _ => (match is with
      | [i, j] => decide (Γ.N[i]? = some y) && decide (Γ.N[j]? = some z) && decide (i ≠ j) && decide (y ≠ z) && decide (Γ.sc.names.lookup y = some .local) && decide (Γ.sc.names.lookup z = some .local) && decide (px.line = py.line) &&
        !isStar a && !isStar b && !([a, b].all (foldedForSure 8)) && !([a, b].all (constantsAlone 8)) && chkEs P G Γ es [a, b]
      | _ => false)
    | _ => false
  | Γ, .put o i e, x => match x with
    | .Assign [.Subscript l r _] v _ => !isComp v && chkE P G Γ o l && chkE P G Γ i r && chkE P G Γ e v
    | _ => false
  | Γ, .ex e, x => match x with
    | .Expr v _ => !isComp v && chkE P G Γ e v
    | _ => false
  | Γ, .ret e, x => match x with
    | .Return (some v) _ => chkE P G Γ e v
    | _ => false
  | _, .retN, x => match x with
    | .Return none _ => true
    | _ => false
  | Γ, .iff c a b, x => match x with
    | .If t l r _ => chkE P G Γ c t && chkSs Γ a l && chkSs Γ b r
    | _ => false
  | Γ, .for t it b, x => match x with
    | .For tg iter l [] _ => !isSet iter && (!isTr it || isTp t) && chkT Γ t tg && chkI P G Γ it iter && chkSs Γ b l
    | _ => false
  | Γ, .whl c b, x => match x with
    | .While t l [] _ => chkE P G Γ c t && chkSs Γ b l
    | _ => false
  | _, .brk, x => match x with
    | .Break _ => true
    | _ => false
  | _, .pass, x => match x with
    | .Pass _ => true
    | _ => false
  | _, .rai _ _, _ => false
  | _, .tri _ _ _ _, _ => false
def chkSs : Ctx → PL.Ss → List Stmt → Bool
  | _, .nil, xs => xs.isEmpty
  | Γ, .cons s r, xs => match xs with
    | x :: ys => chkS Γ s x && chkSs Γ r ys
    | [] => false
end
end
section
variable {P : String → Option (List String)} {C : PL.Orc} {RX : RXT} {G : G_} {mk : Mk}
theorem tr_tp {it : PL.It} {t : PL.Tg} (h : isTr it = false ∨ isTp t = true) : isTr it = true → ∃ ts, t = .tp ts := fun z => by
  rcases h with q | q
  · rw [z] at q; cases q
  · cases t with
    | nm i => simp [isTp] at q
    | tp ts => exact ⟨ts, rfl⟩
theorem tg_tup {Γ : Ctx} {t : PL.Tg} {tg : Expr} (h : chkT Γ t tg = true) (e : ∃ ts, t = .tp ts) : ∃ elts kk tpos, tg = .Tuple elts kk tpos := by
  obtain ⟨ts, rfl⟩ := e
  cases tg with
  | Tuple elts kk tpos => exact ⟨elts, kk, tpos, rfl⟩
  | _ => simp [chkT] at h
set_option maxHeartbeats 4000000 in
mutual
theorem cS_ok : ∀ (s : PL.S) {Γ : Ctx} {X : Cx} {W : WX} {x : Stmt}, CtxS Γ X → Okx P C RX G X W → chkS P G Γ s x = true → PS X x (tSt RX X.K W mk (PL.xs P C mk s))
  | .set t e, Γ, X, W, x, hΓ, ho, h => by
    simp only [chkS] at h
    split at h
    · rename_i tg v pos
      split at h
      · rename_i elt gs scope vpos
        split at h
        · rename_i n p
          simp only [Bool.and_eq_true, Bool.or_eq_true, Bool.not_eq_true'] at h
          obtain ⟨⟨h1, h2⟩, h3⟩ := h
          cases hsw : swLc Γ n p vpos scope with
          | false => exact rS_asg ho.calm hΓ.c (cE_ok e hΓ.c ho h2).v h1 (by rw [swLc_eq hΓ, hsw]) sw_name
          | true =>
            rcases h3 with h3 | h3
            · rw [hsw] at h3; cases h3
            · split at h3
              · rename_i i t2 it c e2
                have h2' := h2
                simp only [chkE] at h2'
                split at h2'
                · rename_i elt' tg' iter ifs asy scope' pos' heq
                  cases heq
                  simp only [Bool.and_eq_true, decide_eq_true_eq, Bool.not_eq_true', Bool.or_eq_true] at h2'
                  obtain ⟨⟨⟨⟨⟨⟨⟨⟨g1, g2⟩, g3⟩, g4⟩, g5⟩, g6⟩, g7⟩, g8⟩, g9⟩ := h2'
                  subst g1
                  simp only [slotsB, Bool.and_eq_true, List.all_eq_true, decide_eq_true_eq] at g3
                  simp only [chkT, Bool.and_eq_true, decide_eq_true_eq] at h1
                  have hl := hsw
                  simp only [swLc, Bool.and_eq_true, decide_eq_true_eq] at hl
                  exact rS_setLc (own := ownOf Γ.N scope.names) (tr := isTr it) ho.calm hΓ.c.nd (by rw [hΓ.c.N]; exact h1.1) (by rw [hΓ.c.sc]; exact hl.1.1) (by rw [swLc_eq hΓ, hsw]) (cI_ok it hΓ.c ho g7 fun z => tg_tup g6 (tr_tp g5 z)) (by rw [hΓ.c.N, hΓ.c.sc]; exact blkB_ok g2)
                    (fun s H C cl fp => rG (X := X.blk s H scope (compEnvC scope cl C X.env) fp) ho.calm hΓ.c.blk t2 g6) (fun s H C cl fp => cEc_ok c hΓ.c.blk ho.blk g8) (fun s H C cl fp => (cE_ok e2 hΓ.c.blk ho.blk g9).v) g4 (fun j hj => g3.1 j hj) (fun j hj => g3.2 j hj) (tr_tp g5)
                · cases h2'
              · cases h3
        · cases h
      · simp only [Bool.and_eq_true, Bool.not_eq_true'] at h
        obtain ⟨⟨⟨h1, h2⟩, h3⟩, h4⟩ := h
        exact rS_asg ho.calm hΓ.c (cE_ok e hΓ.c ho h4).v h3 (swaps_of h1 _ _ _) (sw_none h2)
    · cases h
  | .par is es, Γ, X, W, x, hΓ, ho, h => by
    simp only [chkS] at h
    split at h
    · split at h
      · simp only [Bool.and_eq_true, decide_eq_true_eq, Bool.not_eq_true'] at h
        obtain ⟨⟨⟨⟨⟨⟨⟨⟨⟨⟨⟨h1, h2⟩, h3⟩, h4⟩, h5⟩, h6⟩, h7⟩, h8⟩, h9⟩, h10⟩, h11⟩, h12⟩ := h
        exact rS_par2 ho.calm hΓ.c.nd (by rw [hΓ.c.N]; exact h1) (by rw [hΓ.c.N]; exact h2) h3 (by rw [hΓ.c.sc]; exact h5) (by rw [hΓ.c.sc]; exact h6) (cEs_ok es hΓ.c ho h12) (sw_pair hΓ.bk (by rw [hΓ.c.sc]; exact h5) (by rw [hΓ.c.sc]; exact h6) h7 h4 h8 h9 h10 h11)
      · cases h
    · cases h
  | .put o i e, Γ, X, W, x, hΓ, ho, h => by
    simp only [chkS] at h
    split at h
    · simp only [Bool.and_eq_true, Bool.not_eq_true'] at h
      obtain ⟨⟨⟨h1, h2⟩, h3⟩, h4⟩ := h
      exact rS_put ho.hu (cE_ok o hΓ.c ho h2).v (cE_ok i hΓ.c ho h3).v (cE_ok e hΓ.c ho h4).v h1
    · cases h
  | .ex e, Γ, X, W, x, hΓ, ho, h => by
    simp only [chkS] at h
    split at h
    · simp only [Bool.and_eq_true, Bool.not_eq_true'] at h
      exact rS_ex (cE_ok e hΓ.c ho h.2).v h.1
    · cases h
  | .ret e, Γ, X, W, x, hΓ, ho, h => by
    simp only [chkS] at h
    split at h
    · exact rS_ret (cE_ok e hΓ.c ho h).v
    · cases h
  | .retN, Γ, X, W, x, hΓ, ho, h => by
    simp only [chkS] at h
    split at h
    · exact rS_retN
    · cases h
  | .iff c a b, Γ, X, W, x, hΓ, ho, h => by
    simp only [chkS] at h
    split at h
    · simp only [Bool.and_eq_true] at h
      exact rS_if (cE_ok c hΓ.c ho h.1.1).t (cSs_ok a hΓ ho h.1.2) (cSs_ok b hΓ ho h.2)
    · cases h
  | .for t it b, Γ, X, W, x, hΓ, ho, h => by
    simp only [chkS] at h
    split at h
    · simp only [Bool.and_eq_true, Bool.or_eq_true, Bool.not_eq_true'] at h
      obtain ⟨⟨⟨⟨h1, h2⟩, h3⟩, h4⟩, h5⟩ := h
      exact rS_for (tr := isTr it) hΓ.hp ho.calm hΓ.c (cI_ok it hΓ.c ho h4 fun z => tg_tup h3 (tr_tp h2 z)) h3 (tr_tp h2) (cSs_ok b hΓ ho h5) h1
    · cases h
  | .whl c b, Γ, X, W, x, hΓ, ho, h => by
    simp only [chkS] at h
    split at h
    · simp only [Bool.and_eq_true] at h
      exact rS_whl hΓ.hp (cE_ok c hΓ.c ho h.1).t (cSs_ok b hΓ ho h.2)
    · cases h
  | .brk, Γ, X, W, x, hΓ, ho, h => by
    simp only [chkS] at h
    split at h
    · exact rS_brk
    · cases h
  | .pass, Γ, X, W, x, hΓ, ho, h => by
    simp only [chkS] at h
    split at h
    · exact rS_pass
    · cases h
  | .rai _ _, Γ, X, W, x, hΓ, ho, h => by simp [chkS] at h
  | .tri _ _ _ _, Γ, X, W, x, hΓ, ho, h => by simp [chkS] at h
theorem cSs_ok : ∀ (s : PL.Ss) {Γ : Ctx} {X : Cx} {W : WX} {x : List Stmt}, CtxS Γ X → Okx P C RX G X W → chkSs P G Γ s x = true → PSs X x (tSt RX X.K W mk (PL.xss P C mk s))
  | .nil, Γ, X, W, x, hΓ, ho, h => by
    simp only [chkSs] at h
    cases x with
    | nil => exact rS_nil
    | cons _ _ => simp at h
  | .cons s r, Γ, X, W, x, hΓ, ho, h => by
    simp only [chkSs] at h
    split at h
    · simp only [Bool.and_eq_true] at h
      exact rS_cons (cS_ok s hΓ ho h.1) (cSs_ok r hΓ ho h.2)
    · cases h
end
end
end PLS

/-! PLS24: what leaves a function. -/
namespace PLS
open PySem PySem.Spec PyProof.Rows L2
section
variable {K : PySem.W.Frag} {ρ more : List Addr} {H : Hp}
mutual
theorem RepV.shrink : ∀ {v : PV} {u : V}, below ρ.length v = true → RepV K (ρ ++ more) H v u → RepV K ρ H v u
  | .non, u, _, h => by simpa only [RepV] using h
  | .bl _, u, _, h => by simpa only [RepV] using h
  | .int _, u, _, h => by simpa only [RepV] using h
  | .str _, u, _, h => by simpa only [RepV] using h
  | .rep _, u, _, h => by simpa only [RepV] using h
  | .ref i, u, hb, h => by
    simp only [RepV] at h ⊢
    simp only [below, decide_eq_true_eq] at hb
    obtain ⟨a, h1, h2⟩ := h
    exact ⟨a, by rw [List.getElem?_append_left hb] at h1; exact h1, h2⟩
  | .tup xs, u, hb, h => by
    simp only [RepV] at h ⊢
    simp only [below] at hb
    obtain ⟨a, o, us, e, h1, h2, n, r⟩ := h
    exact ⟨a, o, us, e, h1, h2, fun z => n (List.mem_append_left _ z), RepVs.shrink hb r⟩
  | .ct xs, u, hb, h => by
    simp only [RepV] at h ⊢
    simp only [below] at hb
    obtain ⟨a, us, e, h1, r⟩ := h
    exact ⟨a, us, e, h1, RepVs.shrink hb r⟩
  | .fl xs, u, hb, h => by
    simp only [RepV] at h ⊢
    simp only [below] at hb
    obtain ⟨a, us, e, h1, n, r⟩ := h
    exact ⟨a, us, e, h1, fun z => n (List.mem_append_left _ z), RepVs.shrink hb r⟩
  | .cl xs, u, hb, h => by
    simp only [RepV] at h ⊢
    simp only [below] at hb
    obtain ⟨a, us, e, h1, r⟩ := h
    exact ⟨a, us, e, h1.imp (fun q => let ⟨o, q1, q2⟩ := q; ⟨o, q1, fun z => q2 (List.mem_append_left _ z)⟩) id, RepVs.shrink hb r⟩
  | .fd ks vs, u, hb, h => by
    simp only [RepV] at h ⊢
    simp only [below, Bool.and_eq_true] at hb
    obtain ⟨a, kvs, e, h1, n, h2, r⟩ := h
    exact ⟨a, kvs, e, h1, fun z => n (List.mem_append_left _ z), h2, RepVs.shrink hb.2 r⟩
theorem RepVs.shrink : ∀ {xs : List PV} {us : List V}, belows ρ.length xs = true → RepVs K (ρ ++ more) H xs us → RepVs K ρ H xs us
  | [], us, _, h => by simpa only [RepVs] using h
  | _ :: _, us, hb, h => by
    simp only [RepVs] at h ⊢
    simp only [belows, Bool.and_eq_true] at hb
    obtain ⟨u, r, e, h1, h2⟩ := h
    exact ⟨u, r, e, RepV.shrink hb.1 h1, RepVs.shrink hb.2 h2⟩
end
theorem RepO.shrink {mo : PL.MO} {o : Option HO} (hb : belowO ρ.length mo = true) (h : RepO K (ρ ++ more) H mo o) : RepO K ρ H mo o := by
  cases mo with
  | lst xs =>
    obtain ⟨us, e, r⟩ := h
    simp only [belowO] at hb
    exact ⟨us, e, r.shrink hb⟩
  | dct lk ks vs =>
    simp only [belowO, Bool.and_eq_true] at hb
    cases lk with
    | false =>
      obtain ⟨kvs, e, e2, r⟩ := h
      exact ⟨kvs, e, e2, r.shrink hb.2⟩
    | true => exact h
/-- the live heap as the caller knows it -/
theorem RepM.cut {M : PL.Mem} (h : RepM K (ρ ++ more) H M) (hb : Below ρ.length M) : RepM K ρ H (M.take ρ.length) := by
  have hl := h.len
  rw [List.length_append] at hl
  refine ⟨by rw [List.length_take]; omega, (List.nodup_append.mp h.nd).1, fun i mo e => ?_⟩
  rw [List.getElem?_take] at e
  split at e
  · rename_i hi
    obtain ⟨a, h1, h2⟩ := h.at_ i mo e
    rw [List.getElem?_append_left hi] at h1
    exact ⟨a, h1, h2.shrink (hb i mo hi e)⟩
  · cases e
theorem frz_key {f : Nat → Option PV} {n : Nat} : ∀ {ks ks' : List PV} {l : List (Option L2.Key)}, PL.frzWs f n ks = some ks' → ks.map keyK = l → (∀ o ∈ l, o.isSome = true) → ks'.map keyK = l
  | [], ks', l, h, e, _ => by
    simp only [PL.frzWs, Option.some.injEq] at h
    subst h; exact e
  | k :: ks, ks', l, h, e, hs => by
    subst e
    simp only [PL.frzWs, Option.bind_eq_some_iff, Option.map_eq_some_iff] at h
    obtain ⟨a, h1, t, h2, rfl⟩ := h
    have e1 := frz_key h2 rfl fun o ho => hs o (by rw [List.map_cons]; exact List.mem_cons_of_mem _ ho)
    have hk := hs (keyK k) (by simp)
    rw [List.map_cons, List.map_cons, e1]
    congr 1
    cases k <;> simp [keyK] at hk <;> simp [PL.frzW] at h1 <;> subst h1 <;> rfl
section
variable {f : Nat → Option PV}
mutual
theorem frzW_rep (hf : ∀ i v' u, ρ.length ≤ i → f i = some v' → RepV K (ρ ++ more) H (.ref i) u → RepV K ρ H v' u) : ∀ {v v' : PV} {u : V}, PL.frzW f ρ.length v = some v' → RepV K (ρ ++ more) H v u → RepV K ρ H v' u
  | .non, v', u, e, h => by simp only [PL.frzW, Option.some.injEq] at e; subst e; simpa only [RepV] using h
  | .bl _, v', u, e, h => by simp only [PL.frzW, Option.some.injEq] at e; subst e; simpa only [RepV] using h
  | .int _, v', u, e, h => by simp only [PL.frzW, Option.some.injEq] at e; subst e; simpa only [RepV] using h
  | .str _, v', u, e, h => by simp only [PL.frzW, Option.some.injEq] at e; subst e; simpa only [RepV] using h
  | .rep _, v', u, e, h => by simp only [PL.frzW, Option.some.injEq] at e; subst e; simpa only [RepV] using h
  | .ref i, v', u, e, h => by
    simp only [PL.frzW] at e
    split at e
    · rename_i hi
      obtain rfl := Option.some.inj e
      exact RepV.shrink (by simp only [below]; exact decide_eq_true hi) h
    · rename_i hi
      exact hf i v' u (Nat.le_of_not_lt hi) e h
  | .tup xs, v', u, e, h => by
    simp only [PL.frzW, Option.map_eq_some_iff] at e
    obtain ⟨ys, e, rfl⟩ := e
    simp only [RepV] at h ⊢
    obtain ⟨a, o, us, eu, h1, h2, n, r⟩ := h
    exact ⟨a, o, us, eu, h1, h2, fun z => n (List.mem_append_left _ z), frzWs_rep hf e r⟩
  | .fl xs, v', u, e, h => by
    simp only [PL.frzW, Option.map_eq_some_iff] at e
    obtain ⟨ys, e, rfl⟩ := e
    simp only [RepV] at h ⊢
    obtain ⟨a, us, eu, h1, n, r⟩ := h
    exact ⟨a, us, eu, h1, fun z => n (List.mem_append_left _ z), frzWs_rep hf e r⟩
  | .ct xs, v', u, e, h => by
    simp only [PL.frzW] at e
    split at e
    · rename_i hn
      obtain rfl := Option.some.inj e
      exact RepV.shrink (by simp only [below]; exact belows_of_norefs _ hn) h
    · cases e
  | .cl xs, v', u, e, h => by
    simp only [PL.frzW] at e
    split at e
    · rename_i hn
      obtain rfl := Option.some.inj e
      exact RepV.shrink (by simp only [below]; exact belows_of_norefs _ hn) h
    · cases e
  | .fd ks vs, v', u, e, h => by
    simp only [PL.frzW, Option.bind_eq_some_iff, Option.map_eq_some_iff] at e
    obtain ⟨ks', e1, vs', e2, rfl⟩ := e
    simp only [RepV] at h ⊢
    obtain ⟨a, kvs, eu, h1, n, h2, r⟩ := h
    exact ⟨a, kvs, eu, h1, fun z => n (List.mem_append_left _ z), frz_key e1 h2 (by intro o ho; obtain ⟨kv, _, rfl⟩ := List.mem_map.mp ho; rfl), frzWs_rep hf e2 r⟩
theorem frzWs_rep (hf : ∀ i v' u, ρ.length ≤ i → f i = some v' → RepV K (ρ ++ more) H (.ref i) u → RepV K ρ H v' u) : ∀ {xs xs' : List PV} {us : List V}, PL.frzWs f ρ.length xs = some xs' → RepVs K (ρ ++ more) H xs us → RepVs K ρ H xs' us
  | [], xs', us, e, h => by
    simp only [PL.frzWs, Option.some.injEq] at e
    subst e
    rw [h.inv0]; exact .nil
  | x :: xs, xs', us, e, h => by
    simp only [PL.frzWs, Option.bind_eq_some_iff, Option.map_eq_some_iff] at e
    obtain ⟨a, e1, t, e2, rfl⟩ := e
    obtain ⟨u, r, rfl, h1, h2⟩ := h.inv
    exact .cons (frzW_rep hf e1 h1) (frzWs_rep hf e2 h2)
end
end
theorem frz_rep {M : PL.Mem} (h : RepM K (ρ ++ more) H M) : ∀ (n : Nat) {v v' : PV} {u : V}, PL.frz M ρ.length n v = some v' → RepV K (ρ ++ more) H v u → RepV K ρ H v' u
  | 0, v, v', u, e, r => frzW_rep (fun i v' u _ z => by cases z) e r
  | n + 1, v, v', u, e, r => by
    refine frzW_rep (fun i v' u hi z q => ?_) e r
    have nin : ∀ {a : Addr}, (ρ ++ more)[i]? = some a → a ∉ ρ := fun {a} ha hm => by
      rw [List.getElem?_append_right hi] at ha
      exact (List.nodup_append.mp h.nd).2.2 a hm a (List.mem_of_getElem? ha) rfl
    obtain ⟨a, h1, rfl⟩ := ref_at q
    split at z
    · rename_i xs hm
      simp only [Option.map_eq_some_iff] at z
      obtain ⟨ys, z, rfl⟩ := z
      obtain ⟨b, us, h2, h3, h4⟩ := h.lst hm
      rw [h1] at h2
      obtain rfl := Option.some.inj h2
      simp only [RepV]
      exact ⟨a, us, rfl, h3, nin h1, frzWs_rep (fun j w x _ e2 q2 => frz_rep h n e2 q2) z h4⟩
    · rename_i lk ks vs hm
      simp only [Option.bind_eq_some_iff, Option.map_eq_some_iff] at z
      obtain ⟨ks', e1, vs', e2, rfl⟩ := z
      obtain ⟨b, kvs, h2, h3, h4, h5⟩ := h.dct hm
      rw [h1] at h2
      obtain rfl := Option.some.inj h2
      simp only [RepV]
      exact ⟨a, kvs, rfl, .inl h3, nin h1, frz_key e1 h4 (by intro o ho; obtain ⟨kv, _, rfl⟩ := List.mem_map.mp ho; rfl), frzWs_rep (fun j w x _ e3 q2 => frz_rep h n e3 q2) e2 h5⟩
    · cases z
end
/-- a callee's marks -/
def Mk.sub (mk : Mk) (n : Nat) (h : mk.m ≤ n) : Mk := ⟨n, mk.m :: mk.ms, fun x hx => by
  rcases List.mem_cons.mp hx with rfl | hx
  · exact h
  · exact Nat.le_trans (mk.le x hx) h⟩
section
variable {K : PySem.W.Frag} {ρ ρ' : List Addr} {H H' : Hp} {M M' : PL.Mem} {mk : Mk}
theorem Ok.enter (k : Ok K mk ρ H M) : Ok K (mk.sub M.length k.mkl) ρ H M := by
  refine ⟨k.rep, fun m hm => ?_, Nat.le_refl _⟩
  rcases hm with rfl | hm
  · intro i mo hi e
    obtain ⟨a, h1, h2⟩ := k.rep.at_ i mo e
    have hl : M.length = ρ.length := k.rep.len.symm
    show belowO M.length mo = true
    rw [hl]
    cases mo with
    | lst xs =>
      obtain ⟨us, _, r⟩ := h2
      simp only [belowO]
      exact r.below
    | dct lk ks vs =>
      cases lk with
      | false =>
        obtain ⟨kvs, _, hk, r⟩ := h2
        simp only [belowO, Bool.and_eq_true]
        exact ⟨keys_below _ (by rw [hk]; intro o ho; obtain ⟨kv, _, rfl⟩ := List.mem_map.mp ho; rfl), r.below⟩
      | true => exact h2.elim
  · rcases List.mem_cons.mp hm with rfl | hm
    · exact k.bel _ (.inl rfl)
    · exact k.bel _ (.inr hm)
theorem Ok.leave (k : Ok K mk ρ H M) (x : Ext ρ H ρ' H') (k' : Ok K (mk.sub M.length k.mkl) ρ' H' M') : Ext ρ H ρ H' ∧ Ok K mk ρ H' (M'.take M.length) ∧ ∀ n {v v' : PV} {u : V}, PL.frz M' M.length n v = some v' → RepV K ρ' H' v u → RepV K ρ H' v' u := by
  obtain ⟨more, rfl⟩ := x.pre
  have hl : M.length = ρ.length := k.rep.len.symm
  refine ⟨⟨⟨[], by simp⟩, fun a o h n => let ⟨h1, h2⟩ := x.keep a o h n; ⟨h1, fun z => h2 (List.mem_append_left _ z)⟩⟩, ⟨?_, fun m hm => ?_, ?_⟩, fun n v v' u e r => ?_⟩
  · rw [hl]
    exact k'.rep.cut (by rw [← hl]; exact k'.bel _ (.inl rfl))
  · have hb : Below m M' := k'.bel m (.inr (by
      rcases hm with rfl | hm
      · exact List.mem_cons_self ..
      · exact List.mem_cons_of_mem _ hm))
    intro i mo hi e
    rw [List.getElem?_take] at e
    split at e
    · exact hb i mo hi e
    · cases e
  · have := k'.mkl
    have e : (mk.sub M.length k.mkl).m = M.length := rfl
    rw [e] at this
    rw [List.length_take]
    have := k.mkl
    omega
  · rw [hl] at e
    exact frz_rep k'.rep n e r
end
end PLS

/-! PLS25: functions. -/
namespace PLS
open PySem PySem.Spec PyProof.Rows L2
abbrev RX0 : RXT := fun _ _ _ _ _ => False
section
variable {P : Program} {w : World} {K : PySem.W.Frag} {mg : Str → Option Value} {base : Heap}
/-- a def by its body, where the guards are known -/
theorem fnG_of {k : Nat} {f : Addr} {nm ql : Str} {prs : Arguments} {bd : List Stmt} {scp : Scope} {dV kV dc pm cdv ct oc : Value} {an od : Option Addr} {osl : Array (Option Value)} {N ps : List Str} {sp : Sp}
    (lk : K.lookup f = some ⟨oc, od, .func (PySem.W.fnOf nm ql prs bd scp dV kV dc pm an cdv ct), osl⟩) (hcd : PySem.W.codeIn K cdv ql = true) (S : FnScope N ps scp)
    (hb : ∀ (Ar : Around) (out : List Env) (s : Shared) (H : Hp) (vs : List V) (Q : VK) (E : XK), Room k (Ar.deeper (envOfC ql scp s.heap.objs.size f cdv)) → Ar.guards = some [] → vs.length = ps.length → sp vs H Q E →
      ∃ t, PSs (cxOf (L2.CX P w) P w K mg base N ql scp f cdv Ar out s H E) bd t ∧ t { nx := fun _ H' => Q .non H', rt := Q } (L2.start N vs) H) :
    FnG P w K mg base (k + 1) f (PySem.W.fnOf nm ql prs bd scp dV kV dc pm an cdv ct) ps sp := by
  constructor
  intro Ar out s H args us vs Q E room guards e0 bind len rel spec
  have vl : vs.length = ps.length := rel.length.trans len
  have inK : K.In s.heap := e0.mod.kin.keeps fun b o e => (e0.bs b o e).1
  have nolim : s.heap.NoLimit := e0.mod.nolimit.keeps fun b o e => (e0.bs b o e).1
  have kinds : ∀ y ∈ ps.zip us, scp.names.lookup y.1 = some .local ∨ (scp.names.lookup y.1 = some .cell ∧ ((cellsFrom (s.heap.objs.size + 1) scp.names []).lookup y.1).isSome = true) := by
    rintro ⟨n, v⟩ hy
    exact (S.par n (List.of_mem_zip hy).1).imp id fun q => ⟨q, PySem.W.cellsFrom_some _ _ _ (.inl q)⟩
  refine codeAny_call_function room.depth (inK _ _ lk) rfl S.co S.gen rfl (PySem.W.codeRec_of inK hcd) (bind _ _ _ _ (wpAny_newFunctionEnv_cells S.kind kinds ?_))
  intro env he s1 x
  subst he
  refine ⟨nolim.keeps x.toInCall.keep, codeAny_func ?_⟩
  obtain ⟨t, ht, hq⟩ := hb Ar out s H vs Q E (room.deeper _) guards vl spec
  have I0 := inv_start (CX := L2.CX P w) (E := E) (w := w) S room.hd e0 vl rel x
  refine wpAny_mono (ht.run [] s1 (L2.start N vs) H _ I0 hq) ?_ fun e s' hs => hs
  intro fl s' hs
  match fl, hs with
  | .ret u, ⟨v, σ', H', J, rv, q⟩ => exact ⟨v, H', J.os, J.bare, J.base, J.hok, rv, q⟩
  | .next, ⟨σ', H', J, q⟩ => exact ⟨.non, H', J.os, J.bare, J.base, J.hok, rfl, q⟩
  | .brk, ⟨_, _, _, q⟩ => exact q.elim
  | .cont, ⟨_, _, _, q⟩ => exact q.elim
theorem env_rep {ρ : List Addr} {H : Hp} {d : PL.Def} {xs : List PV} {vs : List V} {N : List Str} (r : RepVs K ρ H xs vs) (h1 : xs.length = d.ps.length) (h2 : N.length = d.ns) (h3 : d.ps.length ≤ d.ns) : RepE K ρ H (PL.envOf d xs) (L2.start N vs) := by
  have hl : vs.length = xs.length := r.length.symm
  unfold PL.envOf L2.start
  refine ⟨by rw [List.length_append, List.length_append, List.length_map, List.length_map, List.length_replicate, List.length_replicate]; omega, ?_⟩
  have lk_get : ∀ (σ : PL.Env) (i : Nat), PL.lk σ i = (σ[i]?).join := fun σ => by
    induction σ with
    | nil => intro i; simp [PL.lk]
    | cons x σ ih =>
      intro i
      cases i with
      | zero => simp
      | succ i => simpa using ih i
  intro i v e
  rw [lk_get] at e
  by_cases hi : i < xs.length
  · rw [List.getElem?_append_left (by simpa using hi), List.getElem?_map] at e
    cases hx : xs[i]? with
    | none => rw [hx] at e; cases e
    | some x =>
      rw [hx] at e
      obtain rfl : x = v := by simpa using e
      obtain ⟨u, hu, ru⟩ := r.get hx
      exact ⟨u, by rw [List.getElem?_append_left (by rw [List.length_map, hl]; exact hi), List.getElem?_map, hu]; rfl, ru⟩
  · rw [List.getElem?_append_right (by simpa using hi), List.getElem?_replicate] at e
    split at e <;> cases e
/-- a function's end, as its caller sees it -/
theorem left_post {mk : Mk} {ρ : List Addr} {H : Hp} {M : PL.Mem} {E : XK} {Q : VK} (k : Ok K mk ρ H M) {live : Bool} {m : PL.Rs} (h : Post K mk (RepV K) (fun x ρ' H' _ => ∀ cls d, RX0 ρ' H' x cls d → E cls d H') ρ H Q (PL.left live M m)) :
    PostS K (if live then mk else mk.sub M.length k.mkl) RX0 (fun cls d _ H => E cls d H) ρ H { nx := fun _ H' => Q .non H', rt := Q } m := by
  cases live with
  | true =>
    cases m with
    | nx s M1 => exact fun ρ' H' σ' x k' r => Post.okx h x k' rep_non
    | bk s M1 => exact h.elim
    | rt v M1 => exact fun ρ' H' u x k' r => Post.okx h x k' r
    | exc e s M1 => exact fun ρ' H' σ' x k' r cls d z => z.elim
    | no => exact h.elim
  | false =>
    cases m with
    | nx s M1 =>
      exact fun ρ' H' σ' x k' r => by
        obtain ⟨x2, k2, _⟩ := k.leave x k'
        exact Post.okx h x2 k2 rep_non
    | bk s M1 => exact h.elim
    | rt v M1 =>
      exact fun ρ' H' u x k' r => by
        obtain ⟨x2, k2, hf⟩ := k.leave x k'
        simp only [PL.left, Bool.false_eq_true, if_false] at h
        split at h
        · rename_i v' e
          exact Post.okx h x2 k2 (hf _ e r)
        · exact h.elim
    | exc e s M1 => exact fun ρ' H' σ' x k' r cls d z => z.elim
    | no => exact h.elim
/-- what must be seen of a def in the written part -/
structure FnFact (D : String → Option PL.Def) (G : G_) (K : PySem.W.Frag) (mg : Str → Option Value) (f : String) (d : PL.Def) (fa : Addr) (fd : FuncData) : Prop where
  at_ : mg (Str.ofString f) = some (.ref fa)
  keep : PySem.W.keepIn K (.ref fa) = true
  bind : BindF K fd d.ps
  obj : ∃ (nm ql : Str) (prs : Arguments) (bd : List Stmt) (scp : Scope) (dV kV dc pm cdv ct oc : Value) (an od : Option Addr) (osl : Array (Option Value)) (N : List Str),
    fd = PySem.W.fnOf nm ql prs bd scp dV kV dc pm an cdv ct ∧ K.lookup fa = some ⟨oc, od, .func fd, osl⟩ ∧ PySem.W.codeIn K cdv ql = true ∧ FnScope N (d.ps.map Str.ofString) scp ∧ N.length = d.ns ∧ d.ps.length ≤ d.ns ∧
    chkSs (PL.parsOf D) G ⟨N, scp, fun _ => true⟩ d.body bd = true
structure Facts (D : String → Option PL.Def) (G : G_) (K : PySem.W.Frag) (mg : Str → Option Value) : Prop where
  blt : ∀ n ∈ bltNames, mg (Str.ofString n) = none
  glb : ∀ q ∈ G, ∃ u w, mg (Str.ofString q.1) = some w ∧ RelV u w ∧ ∀ ρ H, RepV K ρ H q.2 u
  fns : ∀ f d, D f = some d → ∃ fa fd, FnFact D G K mg f d fa fd
theorem callN_len {D : String → Option PL.Def} {n mk : Nat} {f : String} {d : PL.Def} {xs : List PV} {M : PL.Mem} (hd : D f = some d) (h : xs.length ≠ d.ps.length) : PL.callN D n mk f xs M = .no := by
  cases n with
  | zero => rfl
  | succ n =>
    unfold PL.callN
    rw [hd]
    simp only [if_neg h]
theorem all_G {D : String → Option PL.Def} {G : G_} (F : Facts D G K mg) : ∀ (n : Nat) (f : String) (d : PL.Def) (fa : Addr) (fd : FuncData), D f = some d → FnFact D G K mg f d fa fd → FnG P w K mg base n fa fd (d.ps.map Str.ofString) (spF (PL.callN D n) RX0 K f)
  | 0, f, d, fa, fd, hd, ff => ⟨fun Ar out s H args us vs Q E _ _ _ _ _ _ ⟨mk, ρ, M, xs, k, r, h⟩ => h.elim⟩
  | n + 1, f, d, fa, fd, hd, ff => by
    obtain ⟨at_, keep, bind, nm, ql, prs, bd, scp, dV, kV, dc, pm, cdv, ct, oc, an, od, osl, N, rfl, lk, hcd, S, hN, hps, hchk⟩ := ff
    refine fnG_of lk hcd S fun Ar out s H vs Q E room guards vl ⟨mk, ρ, M, xs, k, r, h⟩ => ?_
    unfold PL.callN at h
    rw [hd] at h
    dsimp only at h
    split at h
    · rename_i hl
      have hp := left_post k h
      have okx : Okx (PL.parsOf D) (PL.callN D n) RX0 G (cxOf (L2.CX P w) P w K mg base N ql scp fa cdv Ar out s H E) (fun cls d _ H => E cls d H) :=
        { calm := rfl
          hu := by have := room.un; show (Ar.deeper _).units + 200 < cLine; omega
          hgu := guards
          tk := takes_of rfl rfl rfl rfl
          blt := F.blt
          glb := F.glb
          fns := fun g ps hg => by
            obtain ⟨d', hd', rfl⟩ := Option.map_eq_some_iff.mp hg
            obtain ⟨fa', fd', ff'⟩ := F.fns g d' hd'
            exact ⟨fun mk xs M hne => callN_len hd' hne, fa', fd', n, ff'.at_, ff'.keep, room, ff'.bind, all_G F n g d' fa' fd' hd' ff'⟩ }
      have ctx : CtxS ⟨N, scp, fun _ => true⟩ (cxOf (L2.CX P w) P w K mg base N ql scp fa cdv Ar out s H E) :=
        ⟨⟨S.nd, rfl, rfl, fun _ _ => rfl⟩, S.kind, passes_of rfl⟩
      cases hlive : d.live with
      | true =>
        rw [hlive] at hp
        refine ⟨_, cSs_ok (mk := mk) d.body ctx okx hchk, ρ, PL.envOf d xs, M, env_rep r hl hN hps, k, ?_⟩
        simp only [if_true] at hp
        exact hp
      | false =>
        rw [hlive] at hp
        refine ⟨_, cSs_ok (mk := mk.sub M.length k.mkl) d.body ctx okx hchk, ρ, PL.envOf d xs, M, env_rep r hl hN hps, k.enter, ?_⟩
        simp only [Bool.false_eq_true, if_false] at hp
        exact hp
    · exact h.elim
end
end PLS

/-! PLS26: how calls bind. -/
namespace PLS
open PySem PySem.Spec PyProof.Rows L2
theorem kw_loop {β : Type} (f : (Str × Value) → β → Sem (ForInStep β)) (g : β → (Str × Value) → β) (I : List (Str × Value) → β → Prop) : ∀ (kws : List (Str × Value)) (b : β), I kws b →
    (∀ p r b, I (p :: r) b → f p b = pure (.yield (g b p)) ∧ I r (g b p)) → forIn kws b f = (pure (kws.foldl g b) : Sem β)
  | [], b, _, _ => rfl
  | p :: r, b, h, hf => by
    obtain ⟨h1, h2⟩ := hf p r b h
    rw [List.forIn_cons, h1]
    show forIn r (g b p) f = _
    rw [kw_loop f g I r (g b p) h2 hf]
    rfl
theorem foldl_pair (kws : List (Str × Value)) : ∀ (s e : List (Str × Value)), kws.foldl (fun (b : List (Str × Value) × List (Str × Value)) p => (b.1 ++ [p], b.2)) (s, e) = (s ++ kws, e) := by
  induction kws with
  | nil => intro s e; simp
  | cons p r ih => intro s e; rw [List.foldl_cons, ih]; simp
theorem lookup_none_app {n : Str} : ∀ {s : List (Str × Value)} {p : Str × Value}, s.lookup n = none → n ≠ p.1 → (s ++ [p]).lookup n = none
  | [], p, _, h2 => by
    have : (n == p.1) = false := beq_eq_false_iff_ne.mpr h2
    obtain ⟨a, b⟩ := p
    simp [List.lookup, this] at *
  | q :: s, p, h1, h2 => by
    obtain ⟨a, b⟩ := q
    simp only [List.cons_append, List.lookup_cons] at h1 ⊢
    split at h1
    · cases h1
    · exact lookup_none_app h1 h2
theorem pb {α β : Type} (a : α) (f : α → Sem β) : (pure a >>= f) = f a := rfl
theorem bind_plain {fd : FuncData} {us : List Value} {kws : List (Str × Value)} {names : List Str} (h1 : fd.params.posonlyargs = []) (h2 : fd.params.kwonlyargs = []) (h3 : fd.params.vararg = none) (h4 : fd.params.kwarg = none) (h5 : fd.defaults = .none)
    (hn : fd.params.args.map (·.arg) = names) (hk : ∀ p ∈ kws, p.1 ∈ names ∧ (names.zip us).lookup p.1 = none) (hd : (kws.map (·.1)).Nodup) (hl : us.length ≤ names.length) (hall : ∀ n ∈ names, ((names.zip us ++ kws).lookup n).isSome = true) :
    bindArgs fd ⟨us, kws⟩ = pure (names.filterMap fun n => ((names.zip us ++ kws).lookup n).map (n, ·)) := by
  have hmiss : (names.filter fun n => ((names.zip us ++ kws).lookup n).isNone) = [] := by
    rw [List.filter_eq_nil_iff]
    intro n hn' hh
    have := hall n hn'
    cases e : (names.zip us ++ kws).lookup n with
    | none => rw [e] at this; cases this
    | some v => rw [e] at hh; cases hh
  unfold bindArgs
  simp only [h1, h2, h3, h4, h5, hn, List.map_nil, List.nil_append, List.append_nil]
  rw [kw_loop _ (fun b p => (b.1 ++ [p], b.2)) (fun rest b => (∀ p ∈ rest, p.1 ∈ names ∧ b.1.lookup p.1 = none) ∧ (rest.map (·.1)).Nodup) kws (names.zip us, []) ⟨hk, hd⟩ ?_]
  · rw [foldl_pair]
    have e0 : seqItems? Value.none = pure none := rfl
    rw [e0]

    have hlen : decide (us.length > names.length) = false := decide_eq_false (by omega)
    simp only [pb, hlen, Bool.false_and, Bool.false_eq_true, if_false, Option.getD_none, List.drop_nil, List.length_nil, Nat.sub_zero, List.take_length, hmiss, List.isEmpty_nil, Bool.not_true, List.zip_nil_right, List.forIn_nil]
  · rintro p r b ⟨q1, q2⟩
    obtain ⟨m1, m2⟩ := q1 p (List.mem_cons_self ..)
    have hc : names.contains p.1 = true := by simpa using m1
    rw [List.map_cons, List.nodup_cons] at q2
    refine ⟨?_, fun q hq => ⟨(q1 q (List.mem_cons_of_mem _ hq)).1, lookup_none_app (q1 q (List.mem_cons_of_mem _ hq)).2 fun e => q2.1 (List.mem_map.mpr ⟨q, hq, e⟩)⟩, q2.2⟩
    simp only [hc, m2, Bool.true_or, if_true, Option.isSome_none, Bool.false_eq_true, if_false]
theorem fm_zip {slots : List (Str × Value)} : ∀ {names : List Str} {zs : List Value}, zs.length = names.length → (∀ (i : Nat) n z, names[i]? = some n → zs[i]? = some z → slots.lookup n = some z) → names.filterMap (fun n => (slots.lookup n).map (n, ·)) = names.zip zs
  | [], [], _, _ => rfl
  | [], _ :: _, h, _ => by simp at h
  | _ :: _, [], h, _ => by simp at h
  | n :: names, z :: zs, hl, h => by
    rw [List.filterMap_cons, h 0 n z rfl rfl]
    show (n, z) :: names.filterMap _ = _
    rw [fm_zip (by simpa using hl) fun i n' z' h1 h2 => h (i + 1) n' z' (by simpa using h1) (by simpa using h2)]
    rfl
theorem lookup_zip {l : List Str} {vs : List Value} : ∀ {i : Nat} {n : Str} {v : Value}, l.Nodup → l[i]? = some n → vs[i]? = some v → (l.zip vs).lookup n = some v := by
  induction l generalizing vs with
  | nil => intro i n v _ h _; simp at h
  | cons x l ih =>
    intro i n v nd h1 h2
    cases vs with
    | nil => simp at h2
    | cons w vs =>
      rw [List.nodup_cons] at nd
      cases i with
      | zero =>
        simp only [List.getElem?_cons_zero, Option.some.injEq] at h1 h2
        subst h1; subst h2
        simp [List.lookup_cons]
      | succ i =>
        simp only [List.getElem?_cons_succ] at h1 h2
        have hne : n ≠ x := fun e => nd.1 (e ▸ List.mem_of_getElem? h1)
        have : (n == x) = false := beq_eq_false_iff_ne.mpr hne
        simp only [List.zip_cons_cons, List.lookup_cons, this]
        exact ih nd.2 h1 h2
theorem lookup_zip_none {n : Str} : ∀ {l : List Str} {vs : List Value}, n ∉ l.take vs.length → (l.zip vs).lookup n = none
  | [], _, _ => by simp
  | _ :: _, [], _ => by simp
  | x :: l, v :: vs, h => by
    simp only [List.length_cons, List.take_succ_cons, List.mem_cons, not_or] at h
    have : (n == x) = false := beq_eq_false_iff_ne.mpr h.1
    simp only [List.zip_cons_cons, List.lookup_cons, this]
    exact lookup_zip_none h.2
theorem lookup_app {n : Str} : ∀ {a b : List (Str × Value)}, (a ++ b).lookup n = match a.lookup n with | some v => some v | none => b.lookup n
  | [], b => rfl
  | q :: a, b => by
    obtain ⟨x, y⟩ := q
    simp only [List.cons_append, List.lookup_cons]
    cases (n == x) with
    | true => rfl
    | false => exact lookup_app
theorem inj_of {f : String → Str} : ∀ {ps : List String}, (ps.map f).Nodup → ∀ a ∈ ps, ∀ b ∈ ps, f a = f b → a = b
  | [], _, a, ha, _, _, _ => by simp at ha
  | p :: ps, h, a, ha, b, hb, e => by
    rw [List.map_cons, List.nodup_cons] at h
    rcases List.mem_cons.mp ha with rfl | ha'
    · rcases List.mem_cons.mp hb with rfl | hb'
      · rfl
      · exact absurd (List.mem_map.mpr ⟨b, hb', e.symm⟩) h.1
    · rcases List.mem_cons.mp hb with rfl | hb'
      · exact absurd (List.mem_map.mpr ⟨a, ha', e⟩) h.1
      · exact inj_of h.2 a ha' b hb' e
theorem nodup_map_on {f : String → Str} : ∀ {ks : List String}, ks.Nodup → (∀ a ∈ ks, ∀ b ∈ ks, f a = f b → a = b) → (ks.map f).Nodup
  | [], _, _ => .nil
  | k :: ks, h, hi => by
    rw [List.nodup_cons] at h
    rw [List.map_cons, List.nodup_cons]
    refine ⟨fun hm => ?_, nodup_map_on h.2 fun a ha b hb => hi a (List.mem_cons_of_mem _ ha) b (List.mem_cons_of_mem _ hb)⟩
    obtain ⟨z, hz, e⟩ := List.mem_map.mp hm
    have := hi z (List.mem_cons_of_mem _ hz) k (List.mem_cons_self ..) e
    subst this; exact h.1 hz
theorem idxOf_get {k : String} : ∀ {ks : List String} {j : Nat}, PL.idxOf k ks = some j → ks[j]? = some k
  | [], _, h => by simp [PL.idxOf] at h
  | x :: ks, j, h => by
    unfold PL.idxOf at h
    split at h
    · rename_i e
      obtain rfl := Option.some.inj h
      simp [e]
    · obtain ⟨i, h1, rfl⟩ := Option.map_eq_some_iff.mp h
      simpa using idxOf_get h1
theorem idxs_get {ks : List String} {n : Nat} : ∀ {ps : List String} {r : List Nat}, PL.idxs ks n ps = some r → r.length = ps.length ∧ ∀ (i : Nat) p, ps[i]? = some p → ∃ j, ks[j]? = some p ∧ r[i]? = some (n + j)
  | [], r, h => by
    simp only [PL.idxs, Option.some.injEq] at h
    subst h; exact ⟨rfl, fun i p e => by simp at e⟩
  | q :: ps, r, h => by
    simp only [PL.idxs, Option.bind_eq_some_iff, Option.map_eq_some_iff] at h
    obtain ⟨j, h1, t, h2, rfl⟩ := h
    obtain ⟨g1, g2⟩ := idxs_get h2
    refine ⟨by simp [g1], fun i p e => ?_⟩
    cases i with
    | zero =>
      simp only [List.getElem?_cons_zero, Option.some.injEq] at e
      subst e
      exact ⟨j, idxOf_get h1, rfl⟩
    | succ i =>
      obtain ⟨j', a, b⟩ := g2 i p (by simpa using e)
      exact ⟨j', a, by simpa using b⟩
theorem pick_get {α : Type} {vs : List α} : ∀ {is : List Nat} {zs : List α}, PL.pick vs is = some zs → zs.length = is.length ∧ ∀ (i j : Nat), is[i]? = some j → zs[i]? = vs[j]?
  | [], zs, h => by
    simp only [PL.pick, Option.some.injEq] at h
    subst h; exact ⟨rfl, fun i j e => by simp at e⟩
  | k :: is, zs, h => by
    simp only [PL.pick, Option.bind_eq_some_iff, Option.map_eq_some_iff] at h
    obtain ⟨v, h1, t, h2, rfl⟩ := h
    obtain ⟨g1, g2⟩ := pick_get h2
    refine ⟨by simp [g1], fun i j e => ?_⟩
    cases i with
    | zero =>
      simp only [List.getElem?_cons_zero, Option.some.injEq] at e
      subst e
      rw [h1]; rfl
    | succ i => simpa using g2 i j (by simpa using e)
theorem bindF_of {K : PySem.W.Frag} {fd : FuncData} {ps : List String} (h1 : fd.params.posonlyargs = []) (h2 : fd.params.kwonlyargs = []) (h3 : fd.params.vararg = none) (h4 : fd.params.kwarg = none) (h5 : fd.defaults = .none)
    (hn : fd.params.args.map (·.arg) = ps.map Str.ofString) (nd : (ps.map Str.ofString).Nodup) : BindF K fd ps := by
  have core : ∀ (us zs : List Value) (kws : List (Str × Value)), us.length ≤ ps.length → zs.length = ps.length → (∀ p ∈ kws, p.1 ∈ ps.map Str.ofString ∧ ((ps.map Str.ofString).zip us).lookup p.1 = none) → (kws.map (·.1)).Nodup →
      (∀ (i : Nat) n z, (ps.map Str.ofString)[i]? = some n → zs[i]? = some z → ((ps.map Str.ofString).zip us ++ kws).lookup n = some z) → bindArgs fd ⟨us, kws⟩ = pure ((ps.map Str.ofString).zip zs) := fun us zs kws l1 l2 hk hd hz => by
    rw [bind_plain h1 h2 h3 h4 h5 hn hk hd (by rw [List.length_map]; exact l1) fun n hm => ?_]
    · rw [fm_zip (by rw [List.length_map]; exact l2) hz]
    · obtain ⟨i, hi, e⟩ := List.mem_iff_getElem.mp hm
      rw [List.length_map] at hi
      rw [hz i n zs[i] (by rw [List.getElem?_eq_getElem (by rw [List.length_map]; exact hi), e]) (List.getElem?_eq_getElem (by omega))]
      rfl
  refine ⟨fun s us hl => .of_eq (core us us [] (by omega) hl (fun p hp => by cases hp) .nil fun i n z e1 e2 => ?_), fun s us ws zs ks is hw hp hz hzl => .of_eq (core us zs _ ?_ hzl ?_ ?_ ?_)⟩
  · rw [List.append_nil]; exact lookup_zip nd e1 e2
  all_goals
    unfold PL.permIdx at hp
    split at hp
    · rename_i hc
      obtain ⟨c1, c2, c3⟩ := hc
      obtain ⟨r, hr, rfl⟩ := Option.map_eq_some_iff.mp hp
      have sub : ∀ k ∈ ks, k ∈ ps.drop us.length := fun k hk => by simpa using List.all_eq_true.mp c2 k hk
      have inj := inj_of nd
      have ksnd : (ks.map Str.ofString).Nodup := nodup_map_on c3 fun a ha b hb => inj a (List.mem_of_mem_drop (sub a ha)) b (List.mem_of_mem_drop (sub b hb))
      have out : ∀ k ∈ ps.drop us.length, Str.ofString k ∉ (ps.map Str.ofString).take us.length := fun k hk hm => by
        have e : (ps.map Str.ofString) = (ps.map Str.ofString).take us.length ++ (ps.map Str.ofString).drop us.length := (List.take_append_drop _ _).symm
        have nd2 := nd
        rw [e, List.nodup_append] at nd2
        exact nd2.2.2 _ hm _ (by rw [← List.map_drop]; exact List.mem_map.mpr ⟨k, hk, rfl⟩) rfl
      first
        | (show us.length ≤ ps.length; omega)
        | (show ((ks.map Str.ofString).zip ws |>.map (·.1)).Nodup
           rw [List.map_fst_zip (by rw [List.length_map]; omega)]
           exact ksnd)
        | (show ∀ p ∈ (ks.map Str.ofString).zip ws, _
           intro p hp
           obtain ⟨k, hk, e⟩ := List.mem_map.mp (List.of_mem_zip hp).1
           rw [← e]
           exact ⟨List.mem_map.mpr ⟨k, List.mem_of_mem_drop (sub k hk), rfl⟩, lookup_zip_none (out k (sub k hk))⟩)
        | (intro i n z e1 e2
           obtain ⟨g1, g2⟩ := pick_get hz
           obtain ⟨q1, q2⟩ := idxs_get hr
           rw [List.getElem?_map, Option.map_eq_some_iff] at e1
           obtain ⟨p, e1, rfl⟩ := e1
           rw [lookup_app]
           by_cases hi : i < us.length
           · have hz' := g2 i i (by rw [List.getElem?_append_left (by simpa using hi), List.getElem?_range hi])
             rw [e2, List.getElem?_append_left hi] at hz'
             rw [lookup_zip nd (by rw [List.getElem?_map, e1]; rfl) hz'.symm]
           · have hd : (ps.drop us.length)[i - us.length]? = some p := by rw [List.getElem?_drop, show us.length + (i - us.length) = i by omega]; exact e1
             obtain ⟨j, j1, j2⟩ := q2 _ _ hd
             have hz' := g2 i (us.length + j) (by rw [List.getElem?_append_right (by simpa using hi)]; simpa using j2)
             rw [e2, List.getElem?_append_right (by omega), show us.length + j - us.length = j by omega] at hz'
             rw [lookup_zip_none (out p (List.mem_of_getElem? hd))]
             exact lookup_zip ksnd (by rw [List.getElem?_map, j1]; rfl) hz'.symm)
    · cases hp
end PLS

/-! PLS27: the law's call; the facts of the top. -/
namespace PLS
open PySem PySem.Spec PyProof.Rows L2
theorem law_G {P : Program} {w : World} {K : PySem.W.Frag} {mg mb : Str → Option Value} {k : Nat} {fa a : Addr} {fd : FuncData} {x : Str} {sp : Sp} {s1 : Shared} {vs : List Value} {ns : List Int}
    (inK : K.In s1.heap) (hns : s1.heap.Ns mainGlobals mg) (hb : s1.heap.Ns builtinsNs mb) (hbb : ∀ y : Str, y ≠ "__name__" → mb y = bootBuiltins y) (lim : s1.heap.NoLimit) (hg : s1.gens = #[])
    (ha : s1.heap.get? a = some { cls := .type "list", data := .seq vs.toArray }) (hi : IntsAre vs ns) (hl : ns.length ≤ sizeLine) (room : Room k callerA)
    (F : ∀ base : Heap, K.In base → base.Ns mainGlobals mg → FnG P w K mg base k fa fd [x] sp) (bind : ∀ (s : Shared) (u : Value), BindsTo s fd ⟨[u], []⟩ [(x, u)])
    (spec : ∀ H : Hp, Only H → SqL K H a (ns.map V.int) → sp [.ref a] H (fun v _ => v = .bl true) fun _ _ _ => False) :
    codeAny (model P w) callerA (.call (.ref fa) ⟨[.ref a], []⟩)
      (fun r s' => r = .ok (.ret (.bool true)) ∧ OldK s1.heap s'.heap ∧ s'.os = s1.os ∧ AllBare s'.gens) s1 := by
  have rv := vals_ints hi
  have lenV := hi.length
  let ob : Obj := { cls := .type "list", data := .seq vs.toArray }
  let H : Hp := fun b => if b = a ∧ K.lookup a = none then some (.frz ob (.lst (ns.map V.int))) else none
  have hH : ∀ {b : Addr} {u : HO}, H b = some u → b = a ∧ K.lookup a = none ∧ u = .frz ob (.lst (ns.map V.int)) := fun {b u} e => by
    by_cases c : b = a ∧ K.lookup a = none
    · have e' : some (HO.frz ob (.lst (ns.map V.int))) = some u := (if_pos c).symm.trans e
      exact ⟨c.1, c.2, (Option.some.inj e').symm⟩
    · have e' : (none : Option HO) = some u := (if_neg c).symm.trans e
      cases e'
  have lenL : (ns.map V.int).length ≤ sizeLine := by rw [List.length_map]; exact hl
  have only : Only H := fun b => by
    cases e : H b with
    | none => exact .inl rfl
    | some u => obtain ⟨_, _, rfl⟩ := hH e; exact .inr ⟨_, _, rfl⟩
  have sq : SqL K H a (ns.map V.int) := by
    cases e : K.lookup a with
    | none => exact .inl (.inr ⟨ob, if_pos ⟨rfl, e⟩⟩)
    | some o =>
      have e2 := inK a o e
      rw [ha] at e2
      obtain rfl := Option.some.inj e2
      exact .inr ⟨_, vs.toArray, _, e, rfl, rfl, rfl, by rw [List.size_toArray, lenV]; exact hl, by simpa using rv⟩
  have ok : HOk P w H s1.heap := fun b u e => by
    obtain ⟨rfl, _, rfl⟩ := hH e
    exact ⟨ha, lenL, vs, 0, rv, ha⟩
  -- what is no list is not hidden
  have free : ∀ {b : Addr} {o : Obj}, s1.heap.get? b = some o → o ≠ ob → H b = none := fun {b o} e ne => by
    cases q : H b with
    | none => rfl
    | some u =>
      obtain ⟨rfl, _, _⟩ := hH q
      exact absurd (Option.some.inj (e.symm.trans ha)) ne
  have ns_up : ∀ {b : Addr} {m : Str → Option Value}, s1.heap.Ns b m → (hidT s1.heap H).Ns b m := fun {b m} ⟨o, es, ep, e, d, r⟩ =>
    ⟨o, es, ep, hidT_get e (free e fun z => by rw [z] at d; exact nomatch d), d, r⟩
  have inB : K.In (hidT s1.heap H) := fun b o e => hidT_get (inK b o e) (by
    cases q : H b with
    | none => rfl
    | some u =>
      obtain ⟨rfl, z, _⟩ := hH q
      rw [z] at e; exact nomatch e)
  have modu : Mod K mg (hidT s1.heap H) := by
    obtain ⟨mc, c1, c2⟩ := lim
    exact ⟨inB, ns_up hns, ⟨mb, ns_up hb, hbb⟩, mc, ns_up c1, c2⟩
  have none_in : ∀ b : Addr, b ∉ ([] : List Addr) := fun b => List.not_mem_nil
  have e0 : Env0 P w K mg (hidT s1.heap H) callerA [] s1 H :=
    { frames := rfl, mod := modu, bs := fun b o e => of_hidT e, bsz := Nat.le_of_eq (hidT_size _ _), funs := trivial, frf := fun b z => absurd z (none_in b), hok := ok, bare := .of_eq hg }
  have go := (F _ inB (ns_up hns)).run callerA [] s1 H ⟨[.ref a], []⟩ [.ref a] [.ref a] _ _ room rfl e0 (bind s1 (.ref a)) rfl (.cons rfl .nil) (spec H only sq)
  refine codeAny_mono go fun r s' h => ?_
  match r, h with
  | .error e, h =>
    obtain ⟨_, _, _, _, _, _, _, _, _, _, _, _, z⟩ := h
    exact z.elim
  | .ok (.ret u), ⟨v, H', os, bare, un, ok', r', q⟩ =>
    obtain rfl : v = .bl true := q
    obtain rfl : u = Value.bool true := r'
    refine ⟨rfl, OldK.of_keep fun b o e => ?_, os, bare⟩
    cases q : H b with
    | none => exact un.keep b o e q (none_in b) (by simp)
    | some u =>
      obtain ⟨rfl, _, rfl⟩ := hH q
      have z2 := un.frzs _ ob _ q
      have z3 := (ok' _ _ z2).1
      rw [ha] at e
      rw [← Option.some.inj e]
      exact z3
/-! ### the table of the defs -/
structure Ent where
  f : String
  d : PL.Def
  N : List Str
  dd : He.DefD
def Dof (tab : List Ent) : String → Option PL.Def := fun f => (tab.find? fun e => decide (e.f = f)).map (·.d)
def prsB (p : Arguments) (ps : List String) : Bool :=
  p.posonlyargs.isEmpty && p.kwonlyargs.isEmpty && p.vararg.isNone && p.kwarg.isNone && decide (p.args.map (·.arg) = ps.map Str.ofString) && decide (ps.map Str.ofString).Nodup
def scB (N Q : List Str) (sc : Scope) : Bool :=
  decide (sc.kind = .function) && !sc.isCoroutine && !sc.isGenerator && decide N.Nodup && decide (N.take Q.length = Q) && Q.all (fun x => decide (sc.names.lookup x = some .local) || decide (sc.names.lookup x = some .cell)) && sc.names.all fun y => !decide (y.2 = .free)
theorem scB_ok {N Q : List Str} {sc : Scope} (h : scB N Q sc = true) : FnScope N Q sc := by
  simp only [scB, Bool.and_eq_true, decide_eq_true_eq, Bool.not_eq_true', List.all_eq_true, Bool.or_eq_true, decide_eq_false_iff_not] at h
  obtain ⟨⟨⟨⟨⟨⟨h1, h2⟩, h3⟩, h4⟩, h5⟩, h6⟩, h7⟩ := h
  exact ⟨h1, h2, h3, h4, h5, h6, h7⟩
def entB (D : String → Option PL.Def) (G : G_) (e : Ent) : Bool :=
  decide (e.dd.at_ = (Str.ofString e.f, none)) && e.dd.dfl.isEmpty && prsB e.dd.params e.d.ps && scB e.N (e.d.ps.map Str.ofString) e.dd.scope && decide (e.N.length = e.d.ns) && decide (e.d.ps.length ≤ e.d.ns) &&
    chkSs (PL.parsOf D) G ⟨e.N, e.dd.scope, fun _ => true⟩ e.d.body e.dd.body
def faOf (tab : List Ent) : List He.Fa := bltNames.map (fun n => .free (Str.ofString n)) ++ tab.map fun e => .glo (Str.ofString e.f)
def fnsOf (tab : List Ent) : List He.DefD := tab.map (·.dd)
theorem ent_fact {tab : List Ent} {G : G_} {K : PySem.W.Frag} {h : Heap} {mg : Str → Option Value} (inK : K.In h) (gns : h.Ns mainGlobals mg) (c : He.SaysD (faOf tab) (fnsOf tab) K) {e : Ent} (he : e ∈ tab) (hB : entB (Dof tab) G e = true) :
    ∃ fd, FnFact (Dof tab) G K mg e.f e.d (He.ga K (Str.ofString e.f)) fd ∧ BindF K fd e.d.ps := by
  simp only [entB, Bool.and_eq_true, decide_eq_true_eq] at hB
  obtain ⟨⟨⟨⟨⟨⟨b1, b2⟩, b3⟩, b4⟩, b5⟩, b6⟩, b7⟩ := hB
  obtain ⟨fd, ⟨oc, od, dV, kV, dc, pm, an, cdv, ct, osl, rfl, lk, cd, df, _⟩, kp⟩ := c.defs (d := e.dd) (List.mem_map.mpr ⟨e, he, rfl⟩)
  have ef : He.fAd K e.dd.at_ = He.ga K (Str.ofString e.f) := by rw [b1]; rfl
  rw [ef] at lk kp
  have dn : dV = .none := by
    rcases df with ⟨_, z⟩ | ⟨z, _⟩
    · exact z
    · refine absurd ?_ z
      show (e.dd.dfl.map _) = []
      rw [List.isEmpty_iff.mp b2]; rfl
  simp only [prsB, Bool.and_eq_true, decide_eq_true_eq, List.isEmpty_iff, Option.isNone_iff_eq_none] at b3
  obtain ⟨⟨⟨⟨⟨p1, p2⟩, p3⟩, p4⟩, p5⟩, p6⟩ := b3
  have bf := bindF_of (K := K) (fd := PySem.W.fnOf e.dd.name e.dd.qual e.dd.params e.dd.body e.dd.scope dV kV dc pm an cdv ct) p1 p2 p3 p4 dn p5 p6
  refine ⟨_, ⟨He.glo_ok inK gns (c.facts (List.mem_append_right _ (List.mem_map.mpr ⟨e, he, rfl⟩))), kp, bf, _, _, _, _, _, _, _, _, _, _, _, _, _, _, _, e.N, rfl, lk, cd, scB_ok b4, b5, b6, b7⟩, bf⟩
theorem facts_of {tab : List Ent} {K : PySem.W.Frag} {h : Heap} {mg : Str → Option Value} (inK : K.In h) (gns : h.Ns mainGlobals mg) (c : He.SaysD (faOf tab) (fnsOf tab) K) (hB : tab.all (entB (Dof tab) []) = true) : Facts (Dof tab) [] K mg := by
  refine ⟨fun n hn => He.free_ok inK gns (c.facts (List.mem_append_left _ (List.mem_map.mpr ⟨n, hn, rfl⟩))), fun q hq => (by cases hq), fun f d hd => ?_⟩
  obtain ⟨e, h1, rfl⟩ := Option.map_eq_some_iff.mp hd
  have he := List.mem_of_find?_eq_some h1
  have ef : e.f = f := by simpa using List.find?_some h1
  subst ef
  obtain ⟨fd, ff, _⟩ := ent_fact inK gns c he (List.all_eq_true.mp hB e he)
  exact ⟨_, fd, ff⟩
theorem law_spec {K : PySem.W.Frag} {D : String → Option PL.Def} {n : Nat} {H : Hp} {a : Addr} {ns : List Int} (only : Only H) (sq : SqL K H a (ns.map V.int)) {M' : PL.Mem} (run : PL.callN D n 0 "law" [.cl (ns.map PL.V.int)] [] = .ok (.bl true) M') :
    spF (PL.callN D n) RX0 K "law" [.ref a] H (fun v _ => v = .bl true) fun _ _ _ => False := by
  refine ⟨⟨0, [], fun x hx => by cases hx⟩, [], [], [.cl (ns.map PL.V.int)], ⟨⟨rfl, .nil, fun i mo e => by simp at e⟩, fun m hm i mo hi e => by simp at e, Nat.le_refl _⟩, .cons ?_ .nil, ?_⟩
  · simp only [RepV]
    refine ⟨a, ns.map V.int, rfl, ?_, repVs_ints ns⟩
    rcases sq with (h | ⟨o, h⟩) | ⟨o, its, m, h1, h2, h3, h4, h5, h6⟩
    · rcases only a with z | ⟨_, _, z⟩
      · rw [h] at z; cases z
      · rw [h] at z; cases z
    · exact .inl ⟨o, h, by simp⟩
    · exact .inr ⟨o, its, m, h1, h2, h3, h4, h5, h6⟩
  · show Post K _ (RepV K) _ [] H _ (PL.callN D n 0 "law" [.cl (ns.map PL.V.int)] [])
    rw [run]
    exact fun ρ' H' b x k r => by simpa only [RepV] using r
theorem walk_PL {tab : List Ent} {l : PySem.W.OpenLaw} {k : Nat} {q : Program} {loose : List Str} {XP : (Str → Option Value) → Heap → Prop} {YP : World → Heap → Prop} {d : DefRec} {e : Ent}
    (hn : l.most = some 63) (hdf : d.params.defaults = []) (hY : ∀ w h, YP w h → ∃ K : PySem.W.Frag, K.In h ∧ He.SaysD (faOf tab) (fnsOf tab) K) (hB : tab.all (entB (Dof tab) []) = true) (he : (tab.find? fun e => decide (e.f = "law")) = some e)
    (hps : e.d.ps = ["script"]) (hname : d.name = Str.ofString "law") (run : ∀ ns : List Int, ns.length ≤ 63 → ∃ M, PL.callN (Dof tab) k 0 "law" [.cl (ns.map PL.V.int)] [] = .ok (.bl true) M) (room : Room k callerA) :
    PySem.W.WalkO q loose XP YP l.row.toRowW d [] (fun f vs => PySem.call f vs) := by
  refine Att.attach_call hn hdf fun w s0 s1 mg mb fa o pm cd doc a vs ns G Y ho hd hcd hmg hobj hints hlen hg => ?_
  obtain ⟨K, inK, c⟩ := hY w _ Y
  have hm := List.mem_of_find?_eq_some he
  have ef : e.f = "law" := by simpa using List.find?_some he
  obtain ⟨fd, ff, bf⟩ := ent_fact inK G.T.g c hm (List.all_eq_true.mp hB e hm)
  have F := facts_of inK G.T.g c hB
  have dl : Dof tab "law" = some e.d := by unfold Dof; rw [he]; rfl
  rw [ef] at ff
  have efa : fa = He.ga K (Str.ofString "law") := by
    have z := ff.at_
    rw [hname] at hmg
    rw [hmg] at z
    exact Value.ref.inj (Option.some.inj z)
  subst efa
  refine law_G (k := k) (fd := fd) (x := Str.ofString "script") (sp := spF (PL.callN (Dof tab) k) RX0 K "law") inK G.T.g G.T.b G.T.builtins G.T.nolimit hg hobj hints (Nat.le_trans hlen (by rw [sizeLine_eq]; decide)) room (fun base _ _ => ?_) (fun s u => ?_) fun H only sq => ?_
  · have g := all_G (P := l.prog) (w := w) (base := base) F k "law" e.d _ fd dl ff
    rw [hps] at g
    exact g
  · have := bf.pos s [u] (by rw [hps]; rfl)
    rw [hps] at this
    exact this
  · obtain ⟨M, r⟩ := run ns hlen
    exact law_spec only sq r
end PLS

/-! PLT: what runs of PL tell. -/
namespace PL
theorem noref_rd (f : Nat → Option V) {v : V} (h : noref v = true) : rdW f v = some v := (go v).1 h
where
  go : ∀ v : V, (noref v = true → rdW f v = some v) ∧ True
    | .non => ⟨fun _ => by simp [rdW], trivial⟩
    | .bl _ => ⟨fun _ => by simp [rdW], trivial⟩
    | .int _ => ⟨fun _ => by simp [rdW], trivial⟩
    | .str _ => ⟨fun _ => by simp [rdW], trivial⟩
    | .rep _ => ⟨fun _ => by simp [rdW], trivial⟩
    | .ct _ => ⟨fun _ => by simp [rdW], trivial⟩
    | .cl _ => ⟨fun _ => by simp [rdW], trivial⟩
    | .ref _ => ⟨fun h => by simp [noref] at h, trivial⟩
    | .tup xs => ⟨fun h => by simp only [noref] at h; simp only [rdW, gos xs h, Option.map_some], trivial⟩
    | .fl xs => ⟨fun h => by simp only [noref] at h; simp only [rdW, gos xs h, Option.map_some], trivial⟩
    | .fd ks vs => ⟨fun h => by simp only [noref, Bool.and_eq_true] at h; simp only [rdW, gos ks h.1, gos vs h.2, Option.bind_some, Option.map_some], trivial⟩
  gos : ∀ xs : List V, norefs xs = true → rdWs f xs = some xs
    | [], _ => by simp [rdWs]
    | x :: xs, h => by
      simp only [norefs, Bool.and_eq_true] at h
      simp only [rdWs, (go x).1 h.1, gos xs h.2, Option.bind_some, Option.map_some]
theorem rd_noref {M : Mem} {n : Nat} {v : V} (h : noref v = true) : rd M n v = some v := by
  cases n <;> (unfold rd; exact noref_rd _ h)
theorem norefs_all {xs : List V} (h : ∀ x ∈ xs, noref x = true) : norefs xs = true := by
  induction xs with
  | nil => rfl
  | cons x xs ih => simp only [norefs, h x (List.mem_cons_self ..), ih fun y hy => h y (List.mem_cons_of_mem _ hy), Bool.and_self]
theorem plains_all {xs : List V} (h : ∀ x ∈ xs, plain x = true) : plains xs = true := by
  induction xs with
  | nil => rfl
  | cons x xs ih => simp only [plains, h x (List.mem_cons_self ..), ih fun y hy => h y (List.mem_cons_of_mem _ hy), Bool.and_self]
theorem deps_all {xs : List V} {n : Nat} (h : ∀ x ∈ xs, dep x ≤ n) : deps xs ≤ n := by
  induction xs with
  | nil => exact Nat.zero_le _
  | cons x xs ih =>
    simp only [deps]
    exact Nat.max_le.mpr ⟨h x (List.mem_cons_self ..), ih fun y hy => h y (List.mem_cons_of_mem _ hy)⟩
/-- plain data: no live object within, not deep -/
def pd (n : Nat) (v : V) : Prop := noref v = true ∧ plain v = true ∧ dep v ≤ n
theorem pd_int {n : Nat} {i : Int} : pd n (.int i) := ⟨rfl, rfl, Nat.zero_le _⟩
theorem pd_bl {n : Nat} {i : Bool} : pd n (.bl i) := ⟨rfl, rfl, Nat.zero_le _⟩
theorem pd_non {n : Nat} : pd n .non := ⟨rfl, rfl, Nat.zero_le _⟩
theorem pd_tup {n : Nat} {xs : List V} (h : ∀ x ∈ xs, pd n x) : pd (n + 1) (.tup xs) :=
  ⟨by simp only [noref]; exact norefs_all fun x hx => (h x hx).1, by simp only [plain]; exact plains_all fun x hx => (h x hx).2.1, by simp only [dep]; exact Nat.succ_le_succ (deps_all fun x hx => (h x hx).2.2)⟩
theorem pd_fl {n : Nat} {xs : List V} (h : ∀ x ∈ xs, pd n x) : pd (n + 1) (.fl xs) :=
  ⟨by simp only [noref]; exact norefs_all fun x hx => (h x hx).1, by simp only [plain]; exact plains_all fun x hx => (h x hx).2.1, by simp only [dep]; exact Nat.succ_le_succ (deps_all fun x hx => (h x hx).2.2)⟩
theorem pd.mono {m n : Nat} {v : V} (h : pd m v) (l : m ≤ n) : pd n v := ⟨h.1, h.2.1, Nat.le_trans h.2.2 l⟩
/-- what a value is as a datum -/
def Reads (M : Mem) (v d : V) : Prop := rd M RDN v = some d ∧ pd 60 d
theorem reads_pd {M : Mem} {v : V} (h : pd 60 v) : Reads M v v := ⟨rd_noref h.1, h⟩
theorem reads_ref {M : Mem} {i : Nat} {xs : List V} (h : M[i]? = some (.lst xs)) (hx : ∀ x ∈ xs, pd 59 x) : Reads M (.ref i) (.fl xs) := by
  refine ⟨?_, pd_fl hx⟩
  have e : ∀ f : Nat → Option V, rdWs f xs = some xs := fun f => noref_rd.gos f xs (norefs_all fun x hx' => (hx x hx').1)
  show rd M (5 + 1) (.ref i) = _
  simp only [rd, rdW, h, e, Option.map_some]
theorem eqD_reads {M : Mem} {v w a b : V} (h1 : Reads M v a) (h2 : Reads M w b) : eqD M v w = some (eqV a b) := by
  unfold eqD
  rw [h1.1, h2.1]
  simp only [h1.2.2.1, h2.2.2.1, h1.2.2.2, h2.2.2.2, decide_true, Bool.and_self, if_true]
theorem eqM_reads {M : Mem} {v w a b : V} (h1 : Reads M v a) (h2 : Reads M w b) : eqM M v w = some (eqV a b) := by
  unfold eqM
  split
  · have := h1.2.2.1
    simp only [Reads, rd, rdW] at h1
    obtain ⟨e, _, p, _⟩ := h1
    have e' : rd M RDN (.rep _) = some a := e
    simp [rd, RDN, rdW] at e'
    subst e'
    simp [plain] at p
  · exact eqD_reads h1 h2
theorem ints_map (is : List Int) : vints (is.map .int) = some is := by
  induction is with
  | nil => rfl
  | cons i is ih => simp only [List.map_cons, vints, ih, Option.map_some]
theorem bools_map {α : Type} (f : α → Bool) (xs : List α) : bools (xs.map fun x => .bl (f x)) = some (xs.map f) := by
  induction xs with
  | nil => rfl
  | cons i is ih => simp only [List.map_cons, bools, ih, Option.map_some]
theorem at_end {M : Mem} {o : MO} : (M ++ [o])[M.length]? = some o := by simp
theorem set_end {M : Mem} {o o' : MO} : (M ++ [o]).set M.length o' = M ++ [o'] := by simp
/-- a comprehension whose condition and items change nothing -/
theorem compL_pure {w : List (Nat × List V)} {t : Tg} {c e : Env → Mem → R V} {σ : Env} {M : Mem} (p : V → Bool) (f : V → V) : ∀ (xs acc : List V),
    (∀ acc, watched w (M ++ [.lst acc]) = true) →
    (∀ x ∈ xs, ∃ σ', asg t x σ = some σ' ∧ ∀ acc, c σ' (M ++ [.lst acc]) = .ok (.bl (p x)) (M ++ [.lst acc]) ∧ (p x = true → e σ' (M ++ [.lst acc]) = .ok (f x) (M ++ [.lst acc]))) →
    acc.length + xs.length ≤ SZ → compL M.length w t c e σ xs (M ++ [.lst acc]) = .ok () (M ++ [.lst (acc ++ (xs.filter p).map f)])
  | [], acc, hw, _, _ => by
    unfold compL
    simp only [hw, if_true, List.filter_nil, List.map_nil, List.append_nil]
  | x :: xs, acc, hw, h, hz => by
    obtain ⟨σ', ha, hc⟩ := h x (List.mem_cons_self ..)
    have hr := fun acc => compL_pure p f xs acc hw fun y hy => h y (List.mem_cons_of_mem _ hy)
    rw [List.length_cons] at hz
    unfold compL
    simp only [hw, if_true, ha, (hc acc).1, R.bind_ok]
    cases hp : p x with
    | false =>
      simp only [List.filter_cons, hp, Bool.false_eq_true, if_false]
      exact hr acc (by omega)
    | true =>
      simp only [(hc acc).2 hp, R.bind_ok, at_end, set_end]
      rw [if_pos (by omega), hr (acc ++ [f x]) (by rw [List.length_append, List.length_singleton]; omega)]
      simp [List.filter_cons, hp]
/-- the same over encoded items -/
theorem compL_enc {α : Type} {w : List (Nat × List V)} {t : Tg} {c e : Env → Mem → R V} {σ : Env} {M : Mem} (enc : α → V) (p : α → Bool) (f : α → V) : ∀ (xs : List α) (acc : List V),
    (∀ acc, watched w (M ++ [.lst acc]) = true) →
    (∀ x ∈ xs, ∃ σ', asg t (enc x) σ = some σ' ∧ ∀ acc, c σ' (M ++ [.lst acc]) = .ok (.bl (p x)) (M ++ [.lst acc]) ∧ (p x = true → e σ' (M ++ [.lst acc]) = .ok (f x) (M ++ [.lst acc]))) →
    acc.length + xs.length ≤ SZ → compL M.length w t c e σ (xs.map enc) (M ++ [.lst acc]) = .ok () (M ++ [.lst (acc ++ (xs.filter p).map f)])
  | [], acc, hw, _, _ => by
    unfold compL
    simp only [hw, if_true, List.filter_nil, List.map_nil, List.append_nil]
  | x :: xs, acc, hw, h, hz => by
    obtain ⟨σ', ha, hc⟩ := h x (List.mem_cons_self ..)
    have hr := fun acc => compL_enc enc p f xs acc hw fun y hy => h y (List.mem_cons_of_mem _ hy)
    rw [List.length_cons] at hz
    rw [List.map_cons]
    unfold compL
    simp only [hw, if_true, ha, (hc acc).1, R.bind_ok]
    cases hp : p x with
    | false =>
      simp only [List.filter_cons, hp, Bool.false_eq_true, if_false]
      exact hr acc (by omega)
    | true =>
      simp only [(hc acc).2 hp, R.bind_ok, at_end, set_end]
      rw [if_pos (by omega), hr (acc ++ [f x]) (by rw [List.length_append, List.length_singleton]; omega)]
      simp [List.filter_cons, hp]
/-- a loop, by an invariant -/
theorem forL_inv {w : List (Nat × List V)} {t : Tg} {b : Env → Mem → Rs} (I : List V → Env → Mem → Prop) : ∀ (xs : List V) (σ : Env) (M : Mem), I xs σ M →
    (∀ xs σ M, I xs σ M → watched w M = true) →
    (∀ x xs σ M, I (x :: xs) σ M → ∃ σ', asg t x σ = some σ' ∧ ∃ σ1 M1, b σ' M = .nx σ1 M1 ∧ I xs σ1 M1) → ∃ σ1 M1, forL w t b xs σ M = .nx σ1 M1 ∧ I [] σ1 M1
  | [], σ, M, h, hw, _ => ⟨σ, M, by unfold forL; simp only [hw _ _ _ h, if_true], h⟩
  | x :: xs, σ, M, h, hw, hs => by
    obtain ⟨σ', ha, σ1, M1, hb, h1⟩ := hs x xs σ M h
    obtain ⟨σ2, M2, h2, h3⟩ := forL_inv I xs σ1 M1 h1 hw hs
    refine ⟨σ2, M2, ?_, h3⟩
    unfold forL
    simp only [hw _ _ _ h, if_true, ha, hb]
    exact h2
/-- what is no live object leaves as it is -/
theorem frzW_plain (f : Nat → Option V) (n : Nat) {v : V} (h : plain v = true) : frzW f n v = some v := go v h
where
  go : ∀ v : V, plain v = true → frzW f n v = some v
    | .non, _ => by simp [frzW]
    | .bl _, _ => by simp [frzW]
    | .int _, _ => by simp [frzW]
    | .str _, _ => by simp [frzW]
    | .rep _, h => by simp [plain] at h
    | .ct _, h => by simp [plain] at h
    | .cl _, h => by simp [plain] at h
    | .ref _, h => by simp [plain] at h
    | .fd _ _, h => by simp [plain] at h
    | .tup xs, h => by simp only [plain] at h; simp only [frzW, gos xs h, Option.map_some]
    | .fl xs, h => by simp only [plain] at h; simp only [frzW, gos xs h, Option.map_some]
  gos : ∀ xs : List V, plains xs = true → frzWs f n xs = some xs
    | [], _ => by simp [frzWs]
    | x :: xs, h => by
      simp only [plains, Bool.and_eq_true] at h
      simp only [frzWs, go x h.1, gos xs h.2, Option.bind_some, Option.map_some]
theorem frz_pd {M : Mem} {n k : Nat} {v : V} (h : pd n v) : frz M k RDN v = some v := by
  show frz M k (5 + 1) v = some v
  unfold frz
  exact frzW_plain _ _ h.2.1
theorem frz_lst {M : Mem} {k i : Nat} {xs : List V} (h : M[i]? = some (.lst xs)) (hi : k ≤ i) (hx : ∀ x ∈ xs, plain x = true) : frz M k RDN (.ref i) = some (.fl xs) := by
  show frz M k (5 + 1) (.ref i) = _
  simp only [frz, frzW, if_neg (Nat.not_lt.mpr hi), h, frzW_plain.gos _ _ xs (plains_all hx), Option.map_some]
end PL

/-! PLR: runs of PL, step by step. -/
namespace PL
section
variable {P : String → Option (List String)} {C : Orc} {mk : Nat} {σ σ1 : Env} {M M1 M2 M3 M4 : Mem} {e a b c o i : E} {es r kws : Es} {x y z v : V} {vs ws us : List V} {R' : R V}
theorem ev_var {j : Nat} (h : lk σ j = some v) : ev P C mk (.var j) σ M = .ok v M := by simp only [ev, h]
theorem ev_cst : ev P C mk (.cst v) σ M = .ok v M := by simp only [ev]
theorem ev_glb {s : String} : ev P C mk (.glb s v) σ M = .ok v M := by simp only [ev]
theorem ev_bin {p : Op} (h1 : ev P C mk a σ M = .ok x M1) (h2 : ev P C mk b σ M1 = .ok y M2) (h3 : binop M2 p x y = R') : ev P C mk (.bin p a b) σ M = R' := by simp only [ev, h1, h2, R.bind_ok, h3]
theorem ev_neg {j : Int} (h1 : ev P C mk a σ M = .ok (.int j) M1) : ev P C mk (.neg a) σ M = .ok (.int (-j)) M1 := by simp only [ev, h1, R.bind_ok]
theorem ev_not {j : Bool} (h1 : ev P C mk a σ M = .ok (.bl j) M1) : ev P C mk (.not a) σ M = .ok (.bl !j) M1 := by simp only [ev, h1, R.bind_ok]
theorem ev_bop {p : Bool} (h : evb P C mk p es σ M = R') : ev P C mk (.bop p es) σ M = R' := by simp only [ev, h]
theorem evb_one {p q : Bool} (h : ev P C mk e σ M = .ok (.bl q) M1) : evb P C mk p (.cons e .nil) σ M = .ok (.bl q) M1 := by simp only [evb, h, R.bind_ok]
theorem evb_cons {p q : Bool} {e2 : E} (h : ev P C mk e σ M = .ok (.bl q) M1) (h2 : (if q = p then evb P C mk p (.cons e2 r) σ M1 else .ok (.bl q) M1) = R') : evb P C mk p (.cons e (.cons e2 r)) σ M = R' := by
  rw [evb, h, R.bind_ok]
  · exact h2
  · intro h; cases h
theorem ev_cmp {p : Cm} {q : Bool} (h1 : ev P C mk a σ M = .ok x M1) (h2 : ev P C mk b σ M1 = .ok y M2) (h3 : cmpop M2 p x y = some q) : ev P C mk (.cmp p a b) σ M = .ok (.bl q) M2 := by simp only [ev, h1, h2, R.bind_ok, h3]
theorem ev_chnT {p p' : Cm} {q : Bool} (h1 : ev P C mk a σ M = .ok x M1) (h2 : ev P C mk b σ M1 = .ok y M2) (h3 : cmpop M2 p x y = some true) (h4 : ev P C mk c σ M2 = .ok z M3) (h5 : cmpop M3 p' y z = some q) : ev P C mk (.chn p p' a b c) σ M = .ok (.bl q) M3 := by simp only [ev, h1, h2, R.bind_ok, h3, h4, h5]
theorem ev_chnF {p p' : Cm} (h1 : ev P C mk a σ M = .ok x M1) (h2 : ev P C mk b σ M1 = .ok y M2) (h3 : cmpop M2 p x y = some false) : ev P C mk (.chn p p' a b c) σ M = .ok (.bl false) M2 := by simp only [ev, h1, h2, R.bind_ok, h3]
theorem ev_isN {n : Bool} (h1 : ev P C mk a σ M = .ok x M1) : ev P C mk (.isN n a) σ M = .ok (.bl (if n then !decide (x = .non) else decide (x = .non))) M1 := by simp only [ev, h1, R.bind_ok]
theorem ev_isi {t : Ty} (h1 : ev P C mk a σ M = .ok x M1) : ev P C mk (.isi a t) σ M = .ok (.bl (isTy M1 x t)) M1 := by simp only [ev, h1, R.bind_ok]
theorem ev_ite {q : Bool} (h1 : ev P C mk c σ M = .ok (.bl q) M1) (h2 : (if q = true then ev P C mk a σ M1 else ev P C mk b σ M1) = R') : ev P C mk (.ite c a b) σ M = R' := by
  cases q <;> simp only [ev, h1, R.bind_ok] <;> simpa using h2
theorem ev_tup (h : evs P C mk es σ M = .ok vs M1) (hz : vs.length ≤ SZ) : ev P C mk (.tup es) σ M = .ok (.tup vs) M1 := by simp only [ev, h, R.bind_ok, hz, if_true]
theorem ev_lst (h : evs P C mk es σ M = .ok vs M1) (hz : vs.length ≤ SZ) : ev P C mk (.lst es) σ M = .ok (.ref M1.length) (M1 ++ [.lst vs]) := by simp only [ev, h, R.bind_ok, hz, if_true, alloc]
theorem ev_idx (h1 : ev P C mk a σ M = .ok x M1) (h2 : ev P C mk i σ M1 = .ok y M2) (h3 : index M2 x y = some v) : ev P C mk (.idx a i) σ M = .ok v M2 := by simp only [ev, h1, h2, R.bind_ok, h3]
theorem ev_slc {lo hi : Eo} {l u : Option Int} (h1 : ev P C mk a σ M = .ok x M1) (h2 : evo P C mk lo σ M1 = .ok l M2) (h3 : evo P C mk hi σ M2 = .ok u M3) (h4 : slice M3 x l u = R') : ev P C mk (.slc a lo hi) σ M = R' := by simp only [ev, h1, h2, h3, R.bind_ok, h4]
theorem evo_none : evo P C mk .none σ M = .ok none M := by simp only [evo]
theorem evo_some {j : Int} (h : ev P C mk e σ M = .ok (.int j) M1) : evo P C mk (.some e) σ M = .ok (some j) M1 := by simp only [evo, h, R.bind_ok]
theorem ev_fn {f : String} (h : evs P C mk es σ M = .ok vs M1) (h2 : C mk f vs M1 = R') : ev P C mk (.fn f es) σ M = R' := by simp only [ev, h, R.bind_ok, h2]
theorem ev_fnk {f : String} {ks ps : List String} {is : List Nat} (h : evs P C mk es σ M = .ok vs M1) (h2 : evs P C mk kws σ M1 = .ok ws M2) (hl : ws.length = ks.length) (hp : P f = some ps) (hi : permIdx ps vs.length ks = some is) (hk : pick (vs ++ ws) is = some us) (h3 : C mk f us M2 = R') :
    ev P C mk (.fnk f es kws ks) σ M = R' := by simp only [ev, h, h2, R.bind_ok, hl, if_true, hp, Option.bind_some, hi, hk, h3]
theorem ev_pr {p : Pr} (h : evs P C mk es σ M = .ok vs M1) (h2 : prim M1 p vs = R') : ev P C mk (.pr p es) σ M = R' := by simp only [ev, h, R.bind_ok, h2]
theorem ev_mt {m : Mt} (h : ev P C mk o σ M = .ok x M1) (hr : recvOk M1 m x = true) (h2 : evs P C mk es σ M1 = .ok vs M2) (h3 : meth mk M2 m x vs = R') : ev P C mk (.mt m o es) σ M = R' := by simp only [ev, h, R.bind_ok, hr, if_true, h2, h3]
theorem ev_comp {t : Tg} {it : It} {c : Eo} {s : Src} (h : evi P C mk it σ M = .ok s M1) (h2 : compL M1.length s.2 t (fun σ' M' => evc P C mk c σ' M') (fun σ' M' => ev P C mk e σ' M') σ s.1 (M1 ++ [.lst []]) = .ok () M2) : ev P C mk (.comp t it c e) σ M = .ok (.ref M1.length) M2 := by
  simp only [ev, h, R.bind_ok, h2, noExc]
theorem ev_lrng {j k : Int} (h1 : ev P C mk a σ M = .ok (.int j) M1) (h2 : ev P C mk b σ M1 = .ok (.int k) M2) (hz : (rOk j && rOk k && decide ((k - j).toNat ≤ SZ)) = true) : ev P C mk (.lrng a b) σ M = .ok (.ref M2.length) (M2 ++ [.lst (ranged j (k - j).toNat)]) := by
  simp only [ev, h1, h2, R.bind_ok, hz, if_true, alloc]
theorem evs_nil : evs P C mk .nil σ M = .ok [] M := by simp only [evs]
theorem evs_cons (h : ev P C mk e σ M = .ok x M1) (h2 : evs P C mk r σ M1 = .ok vs M2) : evs P C mk (.cons e r) σ M = .ok (x :: vs) M2 := by simp only [evs, h, h2, R.bind_ok]
theorem evc_none : evc P C mk .none σ M = .ok (.bl true) M := by simp only [evc]
theorem evc_some (h : ev P C mk e σ M = R') : evc P C mk (.some e) σ M = R' := by simp only [evc, h]
theorem evi_of {s : Src} (h : ev P C mk e σ M = .ok x M1) (h2 : srcOf M1 x = some s) : evi P C mk (.of e) σ M = .ok s M1 := by simp only [evi, h, R.bind_ok, src1, h2]
theorem evi_rng1 {k : Int} (h : ev P C mk e σ M = .ok (.int k) M1) (hz : rOk k = true) : evi P C mk (.rng1 e) σ M = .ok (ranged 0 (k - 0).toNat, []) M1 := by
  have h0 : rOk 0 = true := by decide
  simp only [evi, h, R.bind_ok, srcR, h0, hz, Bool.and_self, if_true]
theorem evi_rng2 {j k : Int} (h : ev P C mk a σ M = .ok (.int j) M1) (h2 : ev P C mk b σ M1 = .ok (.int k) M2) (hz : (rOk j && rOk k) = true) : evi P C mk (.rng2 a b) σ M = .ok (ranged j (k - j).toNat, []) M2 := by simp only [evi, h, h2, R.bind_ok, srcR, hz, if_true]
theorem evi_enum {s : Src} (h : ev P C mk e σ M = .ok x M1) (h2 : srcOf M1 x = some s) : evi P C mk (.enum e) σ M = .ok (enumed 0 s.1, s.2) M1 := by simp only [evi, h, R.bind_ok, srcE, h2]
variable {t : Tg} {st : S} {ss sa sb : Ss} {O : Rs}
theorem xss_nx (h : xs P C mk st σ M = .nx σ1 M1) (h2 : xss P C mk ss σ1 M1 = O) : xss P C mk (.cons st ss) σ M = O := by simp only [xss, h, h2]
theorem xss_rt (h : xs P C mk st σ M = .rt v M1) : xss P C mk (.cons st ss) σ M = .rt v M1 := by simp only [xss, h]
theorem xss_nil : xss P C mk .nil σ M = .nx σ M := by simp only [xss]
theorem xs_set (h : ev P C mk e σ M = .ok v M1) (h2 : asg t v σ = some σ1) : xs P C mk (.set t e) σ M = .nx σ1 M1 := by simp only [xs, h, R.toS_ok, h2]
theorem xs_par {is : List Nat} (h : evs P C mk es σ M = .ok vs M1) (h2 : pars is vs σ = some σ1) : xs P C mk (.par is es) σ M = .nx σ1 M1 := by simp only [xs, h, R.toSl_ok, h2]
theorem xs_put (h : ev P C mk e σ M = .ok v M1) (h2 : ev P C mk o σ M1 = .ok x M2) (h3 : ev P C mk i σ M2 = .ok y M3) (h4 : put mk M3 x y v = some M4) : xs P C mk (.put o i e) σ M = .nx σ M4 := by simp only [xs, h, h2, h3, R.toS_ok, h4]
theorem xs_ex (h : ev P C mk e σ M = .ok v M1) : xs P C mk (.ex e) σ M = .nx σ M1 := by simp only [xs, h, R.toS_ok]
theorem xs_ret (h : ev P C mk e σ M = .ok v M1) : xs P C mk (.ret e) σ M = .rt v M1 := by simp only [xs, h, R.toS_ok]
theorem xs_iff {q : Bool} (h : ev P C mk c σ M = .ok (.bl q) M1) (h2 : (if q = true then xss P C mk sa σ M1 else xss P C mk sb σ M1) = O) : xs P C mk (.iff c sa sb) σ M = O := by
  cases q <;> simp only [xs, h, R.toS_ok] <;> simpa using h2
theorem xs_for {it : It} {s : Src} (h : evi P C mk it σ M = .ok s M1) (h2 : forL s.2 t (fun σ' M' => xss P C mk sa σ' M') s.1 σ M1 = O) : xs P C mk (.for t it sa) σ M = O := by simp only [xs, h, R.toSl_ok, h2]
theorem xs_whl (h : whlL (fun σ' M' => ev P C mk c σ' M') (fun σ' M' => xss P C mk sa σ' M') FUEL σ M = O) : xs P C mk (.whl c sa) σ M = O := by simp only [xs, h]
end
/-- a call -/
theorem call_rt {D : String → Option Def} {n mk : Nat} {f : String} {d : Def} {args : List V} {M M1 M2 : Mem} {v v' : V} (hd : D f = some d) (hl : args.length = d.ps.length) (hv : d.live = false) (h : xss (parsOf D) (callN D n) M.length d.body (envOf d args) M = .rt v M1) (hf : frz M1 M.length RDN v = some v') (ht : M1.take M.length = M2) :
    callN D (n + 1) mk f args M = .ok v' M2 := by
  unfold callN
  simp only [hd, hl, if_true, hv, Bool.false_eq_true, if_false, h, left, hf, ht]
theorem call_live {D : String → Option Def} {n mk : Nat} {f : String} {d : Def} {args : List V} {M M1 : Mem} {v : V} (hd : D f = some d) (hl : args.length = d.ps.length) (hv : d.live = true) (h : xss (parsOf D) (callN D n) mk d.body (envOf d args) M = .rt v M1) :
    callN D (n + 1) mk f args M = .ok v M1 := by
  unfold callN
  simp only [hd, hl, if_true, hv, h, left]
theorem add_i {M : Mem} {i j : Int} : binop M .add (.int i) (.int j) = .ok (.int (i + j)) M := rfl
theorem sub_i {M : Mem} {i j : Int} : binop M .sub (.int i) (.int j) = .ok (.int (i - j)) M := rfl
theorem mul_i {M : Mem} {i j : Int} (h : mulOk i j = true) : binop M .mul (.int i) (.int j) = .ok (.int (i * j)) M := by simp only [binop, mulV, h, if_true]
theorem mod_i {M : Mem} {i j : Int} (h : 0 < j) : binop M .mod (.int i) (.int j) = .ok (.int (i % j)) M := by simp only [binop, modV, h, if_true]
theorem fdiv_i {M : Mem} {i j : Int} (h : 0 < j) (h2 : j < 1073741824) : binop M .fdiv (.int i) (.int j) = .ok (.int (i / j)) M := by simp only [binop, fdivV, h, h2, and_self, if_true]
theorem int_i {M : Mem} {i : Int} : prim M .int [.int i] = .ok (.int i) M := rfl
theorem mulOk_r {i j : Int} (h : j.natAbs < 2 ^ 64) : mulOk i j = true := by unfold mulOk; rw [decide_eq_true h, Bool.or_true, Bool.true_or]
theorem mulOk_l {i j : Int} (h : i.natAbs < 2 ^ 64) : mulOk i j = true := by unfold mulOk; rw [decide_eq_true h, Bool.true_or, Bool.true_or]
theorem asg_nm {i : Nat} {v : V} {σ : Env} : asg (.nm i) v σ = some (stv σ i v) := by simp only [asg]
theorem cmp_ne {M : Mem} {x y a b : V} {q : Bool} (h1 : Reads M x a) (h2 : Reads M y b) (h3 : (!eqV a b) = q) : cmpop M .ne x y = some q := by
  simp only [cmpop, eqM_reads h1 h2, Option.map_some, h3]
theorem cmp_eq {M : Mem} {x y a b : V} {q : Bool} (h1 : Reads M x a) (h2 : Reads M y b) (h3 : eqV a b = q) : cmpop M .eq x y = some q := by
  simp only [cmpop, eqM_reads h1 h2, h3]
theorem reads_ints {M : Mem} {i : Nat} {xs : List Int} (h : M[i]? = some (.lst (xs.map .int))) : Reads M (.ref i) (.fl (xs.map .int)) :=
  reads_ref h fun x hx => by obtain ⟨j, _, rfl⟩ := List.mem_map.mp hx; exact pd_int
theorem reads_new {M : Mem} {xs : List V} (h : ∀ x ∈ xs, pd 59 x) : Reads (M ++ [.lst xs]) (.ref M.length) (.fl xs) := reads_ref at_end h
theorem eqV_nil {xs : List V} : eqV (.fl xs) (.fl []) = xs.isEmpty := by
  cases xs <;> simp [eqV, eqVs]
/-- nothing but the objects at r and g is changed -/
structure Same (M M' : Mem) (r g : Nat) : Prop where
  len : M'.length = M.length
  at_ : ∀ i, i ≠ r → i ≠ g → M'[i]? = M[i]?
theorem Same.refl {M : Mem} {r g : Nat} : Same M M r g := ⟨rfl, fun _ _ _ => rfl⟩
theorem Same.trans {M M' M2 : Mem} {r g : Nat} (h : Same M M' r g) (k : Same M' M2 r g) : Same M M2 r g := ⟨k.len.trans h.len, fun i a b => (k.at_ i a b).trans (h.at_ i a b)⟩
theorem take_app {M N : Mem} : (M ++ N).take M.length = M := by simp
theorem take_set {M N : Mem} {i : Nat} {o : MO} (h : i < M.length) : ((M ++ N).set i o).take M.length = M.set i o := by
  rw [List.set_append_left _ _ h, List.take_append_of_le_length (by simp)]
  exact List.take_of_length_le (by simp)
end PL
namespace PL.K05
open PL
def d_holds : Def := ⟨["store", "deed"], 8, false,
    (.cons (.set (.tp (.cons (.nm 2) (.cons (.nm 3) (.cons (.nm 4) (.cons (.nm 5) .nil))))) (.var 1))
    (.cons (.iff (.bop false (.cons (.pr .any (.cons (.comp (.tp (.cons (.nm 6) (.cons (.nm 7) .nil))) (.of (.var 2)) .none (.cmp .ne (.idx (.var 0) (.var 6)) (.idx (.var 0) (.var 7)))) .nil)) (.cons (.pr .any (.cons (.comp (.tp (.cons (.nm 6) (.cons (.nm 7) .nil))) (.of (.var 3)) .none (.cmp .eq (.idx (.var 0) (.var 6)) (.idx (.var 0) (.var 7)))) .nil)) .nil))) (.cons (.ret (.cst (.bl false)))
    .nil) .nil)
    (.cons (.ret (.bop true (.cons (.cmp .ne (.idx (.var 0) (.var 4)) (.idx (.var 0) (.var 5))) (.cons (.cmp .gt (.mt .count (.var 0) (.cons (.idx (.var 0) (.var 5)) .nil)) (.cst (.int 1))) .nil))))
    .nil)))⟩

def d_done : Def := ⟨["store", "deed"], 4, false,
    (.cons (.iff (.not (.fn "holds" (.cons (.var 0) (.cons (.var 1) .nil)))) (.cons (.ret (.var 0))
    .nil) .nil)
    (.cons (.par [2, 3] (.cons (.idx (.var 1) (.cst (.int 2))) (.cons (.idx (.var 1) (.cst (.int 3))) .nil)))
    (.cons (.ret (.bin .add (.bin .add (.slc (.var 0) .none (.some (.var 3))) (.tup (.cons (.idx (.var 0) (.var 2)) .nil))) (.slc (.var 0) (.some (.bin .add (.var 3) (.cst (.int 1)))) .none)))
    .nil)))⟩

def d__law_deck : Def := ⟨["script"], 5, true,
    (.cons (.par [2, 3] (.cons (.bin .add (.cst (.int 12794)) (.bin .mul (.cst (.int 17)) (.pr .len (.cons (.slc (.var 0) .none (.some (.cst (.int 63)))) .nil)))) (.cons (.lst .nil) .nil)))
    (.cons (.for (.nm 1) (.of (.slc (.var 0) .none (.some (.cst (.int 63))))) (.cons (.set (.nm 4) (.bin .add (.bin .mul (.cst (.int 2)) (.pr .abs (.cons (.var 1) .nil))) (.pr .int (.cons (.cmp .lt (.var 1) (.cst (.int 0))) .nil))))
    (.cons (.set (.nm 2) (.bin .mod (.pr .int (.cons (.bin .add (.bin .add (.bin .mul (.var 2) (.cst (.int 69621))) (.var 4)) (.cst (.int 3))) .nil)) (.cst (.int 4294967291))))
    (.cons (.iff (.cmp .ge (.var 4) (.bin .pow (.cst (.int 10)) (.cst (.int 15)))) (.cons (.ex (.mt .append (.var 3) (.cons (.var 4) .nil)))
    .nil) .nil)
    .nil))))
    (.cons (.ret (.dsp (.cons (.cst (.str (cs "great"))) (.cons (.var 3) (.cons (.cst (.str (cs "mixed"))) (.cons (.var 2) (.cons (.cst (.str (cs "turn"))) (.cons (.cst (.int 0)) .nil))))))))
    .nil)))⟩

def d__law_next : Def := ⟨["deck", "many"], 4, false,
    (.cons (.iff (.cmp .lt (.var 1) (.cst (.int 2))) (.cons (.ret (.cst (.int 0)))
    .nil) .nil)
    (.cons (.iff (.cmp .ne (.idx (.var 0) (.cst (.str (cs "great")))) (.lst .nil)) (.cons (.set (.nm 3) (.mt .pop (.idx (.var 0) (.cst (.str (cs "great")))) .nil))
    (.cons (.iff (.cmp .ge (.var 3) (.var 1)) (.cons (.ex (.mt .append (.idx (.var 0) (.cst (.str (cs "great")))) (.cons (.bin .fdiv (.var 3) (.var 1)) .nil)))
    .nil) .nil)
    (.cons (.ret (.bin .mod (.pr .int (.cons (.var 3) .nil)) (.var 1)))
    .nil))) .nil)
    (.cons (.put (.var 0) (.cst (.str (cs "turn"))) (.bin .add (.idx (.var 0) (.cst (.str (cs "turn")))) (.cst (.int 1))))
    (.cons (.set (.nm 2) (.bin .mod (.pr .int (.cons (.bin .add (.idx (.var 0) (.cst (.str (cs "mixed")))) (.bin .mul (.idx (.var 0) (.cst (.str (cs "turn")))) (.cst (.int 2654435761)))) .nil)) (.cst (.int 4294967279))))
    (.cons (.set (.nm 2) (.bin .mod (.pr .int (.cons (.bin .add (.bin .add (.bin .mul (.var 2) (.var 2)) (.bin .mul (.idx (.var 0) (.cst (.str (cs "turn")))) (.cst (.int 40503)))) (.cst (.int 9))) .nil)) (.cst (.int 4294967231))))
    (.cons (.set (.nm 2) (.bin .mod (.pr .int (.cons (.bin .add (.bin .mul (.var 2) (.var 2)) (.idx (.var 0) (.cst (.str (cs "mixed"))))) .nil)) (.cst (.int 4294967197))))
    (.cons (.ret (.bin .mod (.pr .int (.cons (.bin .fdiv (.var 2) (.cst (.int 128))) .nil)) (.var 1)))
    .nil)))))))⟩

def d__law_pick : Def := ⟨["deck", "some"], 2, false,
    (.cons (.ret (.idx (.var 1) (.fn "_law_next" (.cons (.var 0) (.cons (.pr .len (.cons (.var 1) .nil)) .nil)))))
    .nil)⟩

def d__law_mixed : Def := ⟨["deck", "some"], 4, false,
    (.cons (.par [2, 3] (.cons (.pr .list (.cons (.var 1) .nil)) (.cons (.lst .nil) .nil)))
    (.cons (.whl (.cmp .ne (.var 2) (.lst .nil)) (.cons (.ex (.mt .append (.var 3) (.cons (.mt .popAt (.var 2) (.cons (.fn "_law_next" (.cons (.var 0) (.cons (.pr .len (.cons (.var 2) .nil)) .nil))) .nil)) .nil)))
    .nil))
    (.cons (.ret (.var 3))
    .nil)))⟩

def d__law_patterns : Def := ⟨["n"], 6, false,
    (.cons (.set (.nm 1) (.lst (.cons (.tup (.cons (.cst (.int 0)) .nil)) .nil)))
    (.cons (.for (.nm 2) (.rng2 (.cst (.int 1)) (.var 0)) (.cons (.set (.nm 3) (.lst .nil))
    (.cons (.for (.nm 4) (.of (.var 1)) (.cons (.ex (.mt .extend (.var 3) (.cons (.comp (.nm 5) (.rng1 (.bin .add (.pr .max (.cons (.var 4) .nil)) (.cst (.int 2)))) .none (.bin .add (.var 4) (.tup (.cons (.var 5) .nil)))) .nil)))
    .nil))
    (.cons (.set (.nm 1) (.pr .list (.cons (.var 3) .nil)))
    .nil))))
    (.cons (.ret (.var 1))
    .nil)))⟩

def d__law_things : Def := ⟨["deck", "pattern"], 4, false,
    (.cons (.set (.nm 2) (.fn "_law_mixed" (.cons (.var 0) (.cons (.lst (.cons (.cst (.int 0)) (.cons (.cst (.int 999999)) (.cons (.cst (.int 1)) (.cons (.cst (.int 31)) (.cons (.cst (.int 999)) (.cons (.cst (.int 500000)) (.cons (.cst (.int 10)) (.cons (.cst (.int 2)) .nil))))))))) .nil))))
    (.cons (.ret (.pr .tuple (.cons (.comp (.nm 3) (.of (.var 1)) .none (.idx (.var 2) (.var 3))) .nil)))
    .nil))⟩

def d__law_pairs : Def := ⟨["n"], 4, false,
    (.cons (.set (.nm 1) (.lst .nil))
    (.cons (.for (.nm 2) (.rng1 (.var 0)) (.cons (.ex (.mt .extend (.var 1) (.cons (.comp (.nm 3) (.rng2 (.bin .add (.var 2) (.cst (.int 1))) (.var 0)) .none (.tup (.cons (.var 2) (.cons (.var 3) .nil)))) .nil)))
    .nil))
    (.cons (.ret (.var 1))
    .nil)))⟩

def d__law_deed : Def := ⟨["deck", "n"], 8, false,
    (.cons (.par [5, 6] (.cons (.lst .nil) (.cons (.lst .nil) .nil)))
    (.cons (.for (.nm 2) (.of (.fn "_law_pairs" (.cons (.var 1) .nil))) (.cons (.set (.nm 7) (.fn "_law_next" (.cons (.var 0) (.cons (.cst (.int 24)) .nil))))
    (.cons (.ex (.mt .extend (.var 5) (.cons (.bin .mul (.lst (.cons (.var 2) .nil)) (.pr .int (.cons (.bop false (.cons (.cmp .lt (.var 7) (.cst (.int 4))) (.cons (.cmp .eq (.var 7) (.cst (.int 8))) .nil))) .nil))) .nil)))
    (.cons (.ex (.mt .extend (.var 6) (.cons (.bin .mul (.lst (.cons (.var 2) .nil)) (.pr .int (.cons (.chn .le .lt (.cst (.int 4)) (.var 7) (.cst (.int 9))) .nil))) .nil)))
    .nil))))
    (.cons (.set (.nm 3) (.fn "_law_next" (.cons (.var 0) (.cons (.var 1) .nil))))
    (.cons (.set (.nm 4) (.bin .mod (.pr .int (.cons (.bin .add (.bin .add (.var 3) (.cst (.int 1))) (.fn "_law_next" (.cons (.var 0) (.cons (.bin .sub (.var 1) (.cst (.int 1))) .nil)))) .nil)) (.var 1)))
    (.cons (.ret (.tup (.cons (.pr .tuple (.cons (.var 5) .nil)) (.cons (.pr .tuple (.cons (.var 6) .nil)) (.cons (.var 3) (.cons (.var 4) .nil))))))
    .nil)))))⟩

def d__law_is_held : Def := ⟨["store", "deed"], 8, false,
    (.cons (.set (.tp (.cons (.nm 2) (.cons (.nm 3) (.cons (.nm 4) (.cons (.nm 5) .nil))))) (.var 1))
    (.cons (.iff (.bop false (.cons (.cmp .ne (.comp (.tp (.cons (.nm 6) (.cons (.nm 7) .nil))) (.of (.var 2)) (.some (.cmp .ne (.idx (.var 0) (.var 6)) (.idx (.var 0) (.var 7)))) (.cst (.int 1))) (.lst .nil)) (.cons (.cmp .ne (.comp (.tp (.cons (.nm 6) (.cons (.nm 7) .nil))) (.of (.var 3)) (.some (.cmp .eq (.idx (.var 0) (.var 6)) (.idx (.var 0) (.var 7)))) (.cst (.int 1))) (.lst .nil)) .nil))) (.cons (.ret (.cst (.bl false)))
    .nil) .nil)
    (.cons (.ret (.bop true (.cons (.cmp .ne (.idx (.var 0) (.var 4)) (.idx (.var 0) (.var 5))) (.cons (.cmp .gt (.mt .count (.var 0) (.cons (.idx (.var 0) (.var 5)) .nil)) (.cst (.int 1))) .nil))))
    .nil)))⟩

def d__law_copied : Def := ⟨["store", "deed"], 4, false,
    (.cons (.set (.tp (.cons (.nm 2) (.cons (.nm 3) .nil))) (.slc (.var 1) (.some (.cst (.int 2))) .none))
    (.cons (.ret (.ite (.fn "_law_is_held" (.cons (.var 0) (.cons (.var 1) .nil))) (.bin .add (.bin .add (.slc (.var 0) .none (.some (.var 3))) (.tup (.cons (.idx (.var 0) (.var 2)) .nil))) (.slc (.var 0) (.some (.bin .add (.var 3) (.cst (.int 1)))) .none)) (.var 0)))
    .nil))⟩

def d__law_told_deed : Def := ⟨["deck", "n", "pattern"], 8, false,
    (.cons (.set (.nm 3) (.comp (.nm 7) (.of (.fn "_law_pairs" (.cons (.var 1) .nil))) (.some (.cmp .eq (.idx (.var 2) (.idx (.var 7) (.cst (.int 0)))) (.idx (.var 2) (.idx (.var 7) (.cst (.int 1)))))) (.var 7)))
    (.cons (.set (.nm 4) (.comp (.nm 7) (.of (.fn "_law_pairs" (.cons (.var 1) .nil))) (.some (.cmp .ne (.idx (.var 2) (.idx (.var 7) (.cst (.int 0)))) (.idx (.var 2) (.idx (.var 7) (.cst (.int 1)))))) (.var 7)))
    (.cons (.set (.nm 5) (.fn "_law_pick" (.cons (.var 0) (.cons (.lst (.cons (.var 3) (.cons (.var 4) (.cons (.lst .nil) .nil)))) .nil))))
    (.cons (.iff (.cmp .ne (.var 5) (.lst .nil)) (.cons (.ex (.mt .popAt (.var 5) (.cons (.fn "_law_next" (.cons (.var 0) (.cons (.pr .len (.cons (.var 5) .nil)) .nil))) .nil)))
    .nil) .nil)
    (.cons (.set (.nm 6) (.fn "_law_next" (.cons (.var 0) (.cons (.var 1) .nil))))
    (.cons (.ret (.tup (.cons (.pr .tuple (.cons (.var 3) .nil)) (.cons (.pr .tuple (.cons (.var 4) .nil)) (.cons (.var 6) (.cons (.bin .mod (.pr .int (.cons (.bin .add (.bin .add (.var 6) (.cst (.int 1))) (.fn "_law_next" (.cons (.var 0) (.cons (.bin .sub (.var 1) (.cst (.int 1))) .nil)))) .nil)) (.var 1)) .nil))))))
    .nil))))))⟩

def d__law_is_right : Def := ⟨["store", "deed", "is_named"], 6, false,
    (.cons (.par [4, 5] (.cons (.pr .repr (.cons (.lst (.cons (.var 0) (.cons (.var 1) .nil))) .nil)) (.cons (.lst (.cons (.fn "_law_is_held" (.cons (.var 0) (.cons (.var 1) .nil))) (.cons (.fn "_law_copied" (.cons (.var 0) (.cons (.var 1) .nil))) .nil))) .nil)))
    (.cons (.set (.nm 3) (.lst (.cons (.fn "holds" (.cons (.var 0) (.cons (.var 1) .nil))) (.cons (.fn "done" (.cons (.var 0) (.cons (.var 1) .nil))) .nil))))
    (.cons (.iff (.var 2) (.cons (.set (.nm 3) (.lst (.cons (.fnk "holds" .nil (.cons (.var 1) (.cons (.var 0) .nil)) ["deed", "store"]) (.cons (.fnk "done" .nil (.cons (.var 1) (.cons (.var 0) .nil)) ["deed", "store"]) .nil))))
    .nil) .nil)
    (.cons (.iff (.bop false (.cons (.cmp .ne (.pr .repr (.cons (.var 3) .nil)) (.pr .repr (.cons (.var 5) .nil))) (.cons (.cmp .ne (.pr .sortedSet (.cons (.idx (.var 3) (.cst (.int 1))) .nil)) (.pr .sortedSet (.cons (.var 0) .nil))) .nil))) (.cons (.ret (.cst (.bl false)))
    .nil) .nil)
    (.cons (.iff (.bop true (.cons (.idx (.var 5) (.cst (.int 0))) (.cons (.cmp .lt (.mt .count (.var 0) (.cons (.idx (.var 0) (.idx (.var 1) (.cst (.int 3)))) .nil)) (.cst (.int 2))) .nil))) (.cons (.ret (.cst (.bl false)))
    .nil) .nil)
    (.cons (.ret (.bop true (.cons (.cmp .eq (.pr .repr (.cons (.fn "done" (.cons (.idx (.var 3) (.cst (.int 1))) (.cons (.var 1) .nil))) .nil)) (.pr .repr (.cons (.idx (.var 5) (.cst (.int 1))) .nil))) (.cons (.cmp .eq (.pr .repr (.cons (.lst (.cons (.var 0) (.cons (.var 1) .nil))) .nil)) (.var 4)) .nil))))
    .nil))))))⟩

def d_law : Def := ⟨["script"], 8, false,
    (.cons (.set (.nm 1) (.fn "_law_deck" (.cons (.var 0) .nil)))
    (.cons (.set (.nm 2) (.fn "_law_pick" (.cons (.var 1) (.cons (.lst (.cons (.cst (.int 3)) (.cons (.cst (.int 3)) (.cons (.cst (.int 3)) (.cons (.cst (.int 4)) (.cons (.cst (.int 4)) (.cons (.cst (.int 4)) (.cons (.cst (.int 5)) .nil)))))))) .nil))))
    (.cons (.set (.nm 3) (.fn "_law_patterns" (.cons (.var 2) .nil)))
    (.cons (.for (.nm 4) (.rng1 (.idx (.lst (.cons (.cst (.int 6)) (.cons (.cst (.int 4)) (.cons (.cst (.int 2)) .nil)))) (.bin .sub (.var 2) (.cst (.int 3))))) (.cons (.set (.nm 5) (.fn "_law_deed" (.cons (.var 1) (.cons (.var 2) .nil))))
    (.cons (.iff (.cmp .eq (.bin .mod (.var 4) (.cst (.int 2))) (.cst (.int 1))) (.cons (.set (.nm 5) (.fn "_law_told_deed" (.cons (.var 1) (.cons (.var 2) (.cons (.fn "_law_pick" (.cons (.var 1) (.cons (.var 3) .nil))) .nil)))))
    .nil) .nil)
    (.cons (.iff (.cmp .eq (.var 4) (.cst (.int 2))) (.cons (.set (.nm 5) (.bin .add (.tup (.cons (.tup .nil) (.cons (.tup .nil) .nil))) (.slc (.var 5) (.some (.cst (.int 2))) .none)))
    .nil) .nil)
    (.cons (.for (.tp (.cons (.nm 6) (.cons (.nm 7) .nil))) (.enum (.var 3)) (.cons (.iff (.not (.fn "_law_is_right" (.cons (.fn "_law_things" (.cons (.var 1) (.cons (.var 7) .nil))) (.cons (.var 5) (.cons (.cmp .eq (.bin .mod (.var 6) (.cst (.int 5))) (.var 4)) .nil))))) (.cons (.ret (.cst (.bl false)))
    .nil) .nil)
    .nil))
    .nil)))))
    (.cons (.ret (.cst (.bl true)))
    .nil)))))⟩

end PL.K05
namespace K05
open PySem PySem.Spec PyProof.Rows L2 PLS
def top (i : Nat) : Stmt := PySem.Challenge.pw_keptthings_k05_whole_what_deeds_do.main.body.getD i (.Pass ⟨0, 0, 0, 0⟩)
def ent (f : String) (i : Nat) (d : PL.Def) (N : List String) : Ent := ⟨f, d, N.map Str.ofString, ⟨(Str.ofString f, none), Str.ofString f, Str.ofString f, defArgs (top i), defBody (top i), defScope (top i), [], []⟩⟩
def tab : List Ent := [
  ent "holds" 1 PL.K05.d_holds ["store", "deed", "alike", "unlike", "a", "b", "i", "j"],
  ent "done" 2 PL.K05.d_done ["store", "deed", "a", "b"],
  ent "_law_deck" 4 PL.K05.d__law_deck ["script", "cell", "mixed", "great", "own"],
  ent "_law_next" 5 PL.K05.d__law_next ["deck", "many", "number", "own"],
  ent "_law_pick" 6 PL.K05.d__law_pick ["deck", "some"],
  ent "_law_mixed" 7 PL.K05.d__law_mixed ["deck", "some", "rest", "found"],
  ent "_law_patterns" 8 PL.K05.d__law_patterns ["n", "found", "box", "longer", "own", "block"],
  ent "_law_things" 9 PL.K05.d__law_things ["deck", "pattern", "some", "block"],
  ent "_law_pairs" 10 PL.K05.d__law_pairs ["n", "found", "i", "j"],
  ent "_law_deed" 11 PL.K05.d__law_deed ["deck", "n", "pair", "a", "b", "alike", "unlike", "way"],
  ent "_law_is_held" 12 PL.K05.d__law_is_held ["store", "deed", "alike", "unlike", "a", "b", "i", "j"],
  ent "_law_copied" 13 PL.K05.d__law_copied ["store", "deed", "a", "b"],
  ent "_law_told_deed" 14 PL.K05.d__law_told_deed ["deck", "n", "pattern", "alike", "unlike", "row", "a", "pair"],
  ent "_law_is_right" 15 PL.K05.d__law_is_right ["store", "deed", "is_named", "told", "kept", "due"],
  ent "law" 16 PL.K05.d_law ["script", "deck", "n", "every", "turn", "deed", "place", "pattern"]]
def fa : List He.Fa := faOf tab
def fn : List He.DefD := fnsOf tab
abbrev R : PySem.W.OpenRow := PySem.W.OpenLaw.row PySem.Challenge.rw_keptthings_k05_whole_what_deeds_do
abbrev hk : PySem.W.Hook := He.hookD 4 fa fn
def ob (s : PySem.W.SharedT) : He.AlD := He.obsDG 4 fa fn (HandSHeadRun.getT s)
theorem ob_eq (s : PySem.W.SharedT) : ob s = hk.obs s.abs := He.obsDG_eq (HandSHeadRun.getT_eq s)
def others : List Str := ["holds", "done", "_law_deck", "_law_next", "_law_pick", "_law_mixed", "_law_patterns", "_law_things", "_law_pairs", "_law_deed", "_law_is_held", "_law_copied", "_law_told_deed", "_law_is_right"]
set_option maxHeartbeats 0 in
theorem run (w : World) : HandSHeadRun.RunEq R (PySem.W.view R.prog [16]) hk ob 1000 others w := by
  intro os
  kernel_rfl
theorem checked : tab.all (entB (Dof tab) []) = true := by decide +kernel
end K05
section
local macro_rules | `(tactic| walk_at "pl") => `(tactic| first
  | (with_reducible apply PL.ev_var); rfl | with_reducible exact PL.ev_cst | with_reducible exact PL.ev_glb | with_reducible exact PL.evs_nil | with_reducible exact PL.evo_none | with_reducible exact PL.evc_none | with_reducible exact PL.xss_nil
  | with_reducible apply PL.evs_cons | with_reducible apply PL.ev_bin | with_reducible apply PL.ev_neg | with_reducible apply PL.ev_not | with_reducible apply PL.ev_bop | with_reducible apply PL.evb_one | with_reducible apply PL.evb_cons | with_reducible apply PL.ev_cmp
  | with_reducible apply PL.ev_isN | with_reducible apply PL.ev_isi | with_reducible apply PL.ev_ite | with_reducible apply PL.ev_tup | with_reducible apply PL.ev_lst | with_reducible apply PL.ev_idx | with_reducible apply PL.ev_slc | with_reducible apply PL.evo_some
  | with_reducible apply PL.ev_fn | with_reducible apply PL.ev_pr | with_reducible apply PL.ev_mt | with_reducible apply PL.ev_comp | with_reducible apply PL.evi_of | with_reducible apply PL.evi_enum | with_reducible apply PL.evc_some
  | with_reducible apply PL.xs_set | with_reducible apply PL.xs_par | with_reducible apply PL.xs_put | with_reducible apply PL.xs_ex | with_reducible apply PL.xs_ret | with_reducible apply PL.xs_iff | with_reducible apply PL.xs_for
  | with_reducible exact PL.add_i | with_reducible exact PL.sub_i | with_reducible exact PL.int_i | with_reducible exact PL.asg_nm
  | (with_reducible apply PL.mod_i); decide | (with_reducible apply PL.fdiv_i) <;> decide)
namespace PL.K05
def D : String → Option Def := PLS.Dof _root_.K05.tab
abbrev st (s : List Int) : V := .tup (s.map .int)
abbrev prs (l : List (Nat × Nat)) : V := .tup (l.map fun p => .tup [.int p.1, .int p.2])
abbrev dd (al ul : List (Nat × Nat)) (a b : Nat) : V := .tup [prs al, prs ul, .int a, .int b]
theorem idx_st {M : Mem} {s : List Int} {i : Nat} (h : i < s.length) : index M (st s) (.int (i : Int)) = some (.int s[i]) := by
  simp only [index, dkeys, items, List.length_map, nIx]
  rw [if_pos (by omega), if_pos (by omega)]
  simp [h]
theorem srcOf_tup {M : Mem} {xs : List V} : srcOf M (.tup xs) = some (xs, []) := rfl
abbrev bnd (n : Nat) (l : List (Nat × Nat)) : Prop := ∀ p ∈ l, p.1 < n ∧ p.2 < n
theorem prs_mem {l : List (Nat × Nat)} {x : V} (h : x ∈ l.map fun p => V.tup [.int p.1, .int p.2]) : ∃ p ∈ l, x = .tup [.int p.1, .int p.2] := by
  obtain ⟨p, h1, rfl⟩ := List.mem_map.mp h; exact ⟨p, h1, rfl⟩
theorem eq_int {M : Mem} {a b : Int} : cmpop M .eq (.int a) (.int b) = some (a == b) := by
  have := eqM_reads (M := M) (reads_pd (pd_int (i := a))) (reads_pd (pd_int (i := b)))
  simpa only [eqV, cmpop] using this
theorem ne_int {M : Mem} {a b : Int} : cmpop M .ne (.int a) (.int b) = some (a != b) := by
  have := eqM_reads (M := M) (reads_pd (pd_int (i := a))) (reads_pd (pd_int (i := b)))
  simp only [eqV] at this
  simp only [cmpop, this, Option.map_some, bne]
def heldF (s : List Int) (al ul : List (Nat × Nat)) (a b : Nat) : Bool :=
  !(al.any (fun p => s.getD p.1 0 != s.getD p.2 0) || ul.any fun p => s.getD p.1 0 == s.getD p.2 0) && (s.getD a 0 != s.getD b 0 && decide (1 < (s.countP fun x => x == s.getD b 0)))
theorem idx_st' {M : Mem} {s : List Int} {i : Nat} (h : i < s.length) : index M (st s) (.int (i : Int)) = some (.int (s.getD i 0)) := by
  rw [idx_st h]; simp [List.getD, h]

def dkeys_ : List V := [.str (cs "great"), .str (cs "mixed"), .str (cs "turn")]
/-- the deck at r -/
structure Deck (M : Mem) (r g : Nat) (gs : List Int) (m t : Int) : Prop where
  ne : r ≠ g
  d : M[r]? = some (.dct false dkeys_ [.ref g, .int m, .int t])
  l : M[g]? = some (.lst (gs.map .int))
  z : gs.length ≤ 1000
theorem Deck.lt {M : Mem} {r g : Nat} {gs : List Int} {m t : Int} (h : Deck M r g gs m t) : r < M.length ∧ g < M.length :=
  ⟨(List.getElem?_eq_some_iff.mp h.d).1, (List.getElem?_eq_some_iff.mp h.l).1⟩
theorem Deck.app {M : Mem} {r g : Nat} {gs : List Int} {m t : Int} (h : Deck M r g gs m t) (N : Mem) : Deck (M ++ N) r g gs m t :=
  ⟨h.ne, by rw [List.getElem?_append_left h.lt.1]; exact h.d, by rw [List.getElem?_append_left h.lt.2]; exact h.l, h.z⟩
theorem Deck.great {M : Mem} {r g : Nat} {gs : List Int} {m t : Int} (h : Deck M r g gs m t) : index M (.ref r) (.str (cs "great")) = some (.ref g) := by
  simp only [index, dkeys, h.d]; rfl
theorem Deck.mixed {M : Mem} {r g : Nat} {gs : List Int} {m t : Int} (h : Deck M r g gs m t) : index M (.ref r) (.str (cs "mixed")) = some (.int m) := by
  simp only [index, dkeys, h.d]; rfl
theorem Deck.turn {M : Mem} {r g : Nat} {gs : List Int} {m t : Int} (h : Deck M r g gs m t) : index M (.ref r) (.str (cs "turn")) = some (.int t) := by
  simp only [index, dkeys, h.d]; rfl
theorem Deck.put {M : Mem} {r g mk : Nat} {gs : List Int} {m t k : Int} (h : Deck M r g gs m t) : put mk M (.ref r) (.str (cs "turn")) (.int k) = some (M.set r (.dct false dkeys_ [.ref g, .int m, .int k])) := by
  simp only [PL.put, h.d, keyOk, key1, wOk, noref, Bool.or_true, Bool.and_true, Bool.true_and]
  rfl
theorem Deck.set {M : Mem} {r g : Nat} {gs : List Int} {m t k : Int} (h : Deck M r g gs m t) : Deck (M.set r (.dct false dkeys_ [.ref g, .int m, .int k])) r g gs m k :=
  ⟨h.ne, by rw [List.getElem?_set_self h.lt.1], by rw [List.getElem?_set_ne h.ne]; exact h.l, h.z⟩
/-- if deck['great'] != []: .. -/
theorem great_test {C : Orc} {P : String → Option (List String)} {mk : Nat} {σ : Env} {M : Mem} {r g : Nat} {gs : List Int} {m t : Int} (h : Deck M r g gs m t) (hv : lk σ 0 = some (.ref r)) :
    ev P C mk (.cmp .ne (.idx (.var 0) (.cst (.str (cs "great")))) (.lst .nil)) σ M = .ok (.bl (!gs.isEmpty)) (M ++ [.lst []]) := by
  apply ev_cmp
  apply ev_idx
  exact ev_var hv
  repeat walk_at "pl"
  exact h.great
  repeat walk_at "pl"
  decide
  refine cmp_ne (reads_ints (h.app _).l) (reads_new (by simp)) ?_
  rw [eqV_nil]
  simp
theorem next_run (n mk : Nat) {M : Mem} {r g : Nat} {gs : List Int} {m t : Int} (h : Deck M r g gs m t) (k : Int) (h1 : 1 ≤ k) (h2 : k < 1000000) :
    ∃ v gs' t' M', callN D (n + 1) mk "_law_next" [.ref r, .int k] M = .ok (.int v) M' ∧ Deck M' r g gs' m t' ∧ Same M M' r g ∧ 0 ≤ v ∧ v < k := by
  by_cases c : k < 2
  · refine ⟨0, gs, t, M, ?_, h, ⟨rfl, fun _ _ _ => rfl⟩, by omega, by omega⟩
    apply call_rt (d := d__law_next) rfl rfl rfl
    apply xss_rt
    apply xs_iff (q := true)
    apply ev_cmp
    repeat walk_at "pl"
    exact congrArg some (decide_eq_true c)
    rw [if_pos rfl]
    apply xss_rt
    repeat walk_at "pl"
    rfl
    simp
  · have hA := h.app [MO.lst []]
    have lr := h.lt
    have hC : decide (k < 2) = false := decide_eq_false c
    by_cases e : gs = []
    · subst e
      have hB := hA.set (k := t + 1)
      refine ⟨((((((m + (t + 1) * 2654435761) % 4294967279) * ((m + (t + 1) * 2654435761) % 4294967279) + (t + 1) * 40503 + 9) % 4294967231) * ((((m + (t + 1) * 2654435761) % 4294967279) * ((m + (t + 1) * 2654435761) % 4294967279) + (t + 1) * 40503 + 9) % 4294967231) + m) % 4294967197) / 128 % k,
        [], t + 1, M.set r (.dct false dkeys_ [.ref g, .int m, .int (t + 1)]), ?_, h.set, ⟨by simp, fun i a b => by rw [List.getElem?_set_ne (Ne.symm a)]⟩, Int.emod_nonneg _ (by omega), Int.emod_lt_of_pos _ (by omega)⟩
      apply call_rt (d := d__law_next) rfl rfl rfl
      apply xss_nx
      apply xs_iff (q := false)
      apply ev_cmp
      repeat walk_at "pl"
      exact congrArg some hC
      rw [if_neg (by decide)]
      repeat walk_at "pl"
      apply xss_nx
      apply xs_iff
      exact great_test h rfl
      rw [if_neg (by decide)]
      repeat walk_at "pl"
      apply xss_nx
      repeat walk_at "pl"
      exact hA.turn
      repeat walk_at "pl"
      exact hA.put
      apply xss_nx
      repeat walk_at "pl"
      exact hB.mixed
      repeat walk_at "pl"
      exact hB.turn
      repeat walk_at "pl"
      refine mul_i (mulOk_r ?_); decide
      repeat walk_at "pl"
      repeat walk_at "pl"
      apply xss_nx
      repeat walk_at "pl"
      refine mul_i (mulOk_r ?_); omega
      repeat walk_at "pl"
      exact hB.turn
      repeat walk_at "pl"
      refine mul_i (mulOk_r ?_); decide
      repeat walk_at "pl"
      repeat walk_at "pl"
      apply xss_nx
      repeat walk_at "pl"
      refine mul_i (mulOk_r ?_); omega
      repeat walk_at "pl"
      exact hB.mixed
      repeat walk_at "pl"
      repeat walk_at "pl"
      apply xss_rt
      repeat walk_at "pl"
      refine mod_i ?_; omega
      rfl
      exact take_set lr.1
    · obtain ⟨fs, o, rfl⟩ : ∃ fs o, gs = fs ++ [o] := ⟨gs.dropLast, gs.getLast e, (List.dropLast_concat_getLast e).symm⟩
      have zf : fs.length ≤ 1000 := by have := h.z; rw [List.length_append, List.length_singleton] at this; omega
      have hpop : mPop (M ++ [MO.lst []]) g = .ok (.int o) ((M ++ [MO.lst []]).set g (.lst (fs.map .int))) := by
        simp only [mPop, hA.l, List.map_append, List.map_cons, List.map_nil, List.getLast?_append, List.getLast?_singleton, Option.some_or, List.dropLast_concat]
      have hP : Deck ((M ++ [MO.lst []]).set g (.lst (fs.map .int))) r g fs m t := ⟨h.ne, by rw [List.getElem?_set_ne (Ne.symm h.ne)]; exact hA.d, by rw [List.getElem?_set_self hA.lt.2], zf⟩
      by_cases ok : k ≤ o
      · have hAp : mAppend M.length ((M ++ [MO.lst []]).set g (.lst (fs.map .int))) g (.int (o / k)) = .ok .non ((M ++ [MO.lst []]).set g (.lst ((fs ++ [o / k]).map .int))) := by
          have hz : (fs.map V.int).length < SZ := by rw [List.length_map]; unfold SZ; omega
          simp only [mAppend, hP.l, wOk, noref, Bool.or_true, Bool.true_and, decide_eq_true hz, if_true, List.set_set, List.map_append, List.map_cons, List.map_nil]
        have zo : (fs ++ [o / k]).length ≤ 1000 := by have := h.z; rw [List.length_append, List.length_singleton] at this ⊢; omega
        refine ⟨o % k, fs ++ [o / k], t, M.set g (.lst ((fs ++ [o / k]).map .int)), ?_, ⟨h.ne, by rw [List.getElem?_set_ne (Ne.symm h.ne)]; exact h.d, by rw [List.getElem?_set_self lr.2], zo⟩, ⟨by simp, fun i a b => by rw [List.getElem?_set_ne (Ne.symm b)]⟩, Int.emod_nonneg _ (by omega), Int.emod_lt_of_pos _ (by omega)⟩
        apply call_rt (d := d__law_next) rfl rfl rfl
        apply xss_nx
        apply xs_iff (q := false)
        apply ev_cmp
        repeat walk_at "pl"
        exact congrArg some hC
        rw [if_neg (by decide)]
        repeat walk_at "pl"
        apply xss_rt
        apply xs_iff
        exact great_test h rfl
        rw [if_pos (by simp)]
        apply xss_nx
        repeat walk_at "pl"
        exact hA.great
        simp only [recvOk, tyR, hA.l]; rfl
        repeat walk_at "pl"
        exact hpop
        repeat walk_at "pl"
        apply xss_nx
        apply xs_iff (q := true)
        apply ev_cmp
        repeat walk_at "pl"
        exact congrArg some (decide_eq_true ok)
        rw [if_pos rfl]
        apply xss_nx
        repeat walk_at "pl"
        exact hP.great
        simp only [recvOk, tyR, hP.l]; rfl
        repeat walk_at "pl"
        refine fdiv_i ?_ ?_
        omega
        omega
        repeat walk_at "pl"
        exact hAp
        repeat walk_at "pl"
        apply xss_rt
        repeat walk_at "pl"
        refine mod_i ?_; omega
        rfl
        exact take_set lr.2
      · refine ⟨o % k, fs, t, M.set g (.lst (fs.map .int)), ?_, ⟨h.ne, by rw [List.getElem?_set_ne (Ne.symm h.ne)]; exact h.d, by rw [List.getElem?_set_self lr.2], zf⟩, ⟨by simp, fun i a b => by rw [List.getElem?_set_ne (Ne.symm b)]⟩, Int.emod_nonneg _ (by omega), Int.emod_lt_of_pos _ (by omega)⟩
        apply call_rt (d := d__law_next) rfl rfl rfl
        apply xss_nx
        apply xs_iff (q := false)
        apply ev_cmp
        repeat walk_at "pl"
        exact congrArg some hC
        rw [if_neg (by decide)]
        repeat walk_at "pl"
        apply xss_rt
        apply xs_iff
        exact great_test h rfl
        rw [if_pos (by simp)]
        apply xss_nx
        repeat walk_at "pl"
        exact hA.great
        simp only [recvOk, tyR, hA.l]; rfl
        repeat walk_at "pl"
        exact hpop
        repeat walk_at "pl"
        apply xss_nx
        apply xs_iff (q := false)
        apply ev_cmp
        repeat walk_at "pl"
        exact congrArg some (decide_eq_false ok)
        rw [if_neg (by decide)]
        repeat walk_at "pl"
        apply xss_rt
        repeat walk_at "pl"
        refine mod_i ?_; omega
        rfl
        exact take_set lr.2

/-! ### holds, done and the law's own -/
abbrev pe (p : Nat × Nat) : V := .tup [.int p.1, .int p.2]
/-- a comprehension over pairs -/
theorem comp_prs {C : Orc} {P : String → Option (List String)} {mk : Nat} {al : List (Nat × Nat)} {σ : Env} {i : Nat} {c : Eo} {e : E} {M : Mem} (p : Nat × Nat → Bool) (f : Nat × Nat → V) (hz : al.length ≤ SZ) (hi : lk σ i = some (prs al))
    (h : ∀ q ∈ al, ∀ M', evc P C mk c (stv (stv σ 6 (.int q.1)) 7 (.int q.2)) M' = .ok (.bl (p q)) M' ∧ (p q = true → ev P C mk e (stv (stv σ 6 (.int q.1)) 7 (.int q.2)) M' = .ok (f q) M')) :
    ev P C mk (.comp (.tp (.cons (.nm 6) (.cons (.nm 7) .nil))) (.of (.var i)) c e) σ M = .ok (.ref M.length) (M ++ [.lst ((al.filter p).map f)]) := by
  apply ev_comp
  apply evi_of
  exact ev_var hi
  rfl
  exact compL_enc pe p f al [] (fun _ => rfl) (fun q hq => ⟨_, rfl, fun acc => h q hq _⟩) (by simpa using hz)
theorem any_run {M : Mem} {α : Type} {l : List α} {g : α → Bool} : prim (M ++ [MO.lst (l.map fun q => .bl (g q))]) .any [.ref M.length] = .ok (.bl (l.any g)) (M ++ [MO.lst (l.map fun q => .bl (g q))]) := by
  simp only [prim, prim1, pBools, litems, at_end, Option.bind_some, bools_map]
  congr 2
  simp [List.any_map, Function.comp_def]
theorem two_ne {C : Orc} {P : String → Option (List String)} {mk : Nat} {s : List Int} {σ : Env} {M : Mem} {u v i j : Nat} (h0 : lk σ 0 = some (st s)) (hu : lk σ u = some (.int i)) (hv : lk σ v = some (.int j)) (l1 : i < s.length) (l2 : j < s.length) :
    ev P C mk (.cmp .ne (.idx (.var 0) (.var u)) (.idx (.var 0) (.var v))) σ M = .ok (.bl (s.getD i 0 != s.getD j 0)) M :=
  ev_cmp (ev_idx (ev_var h0) (ev_var hu) (idx_st' l1)) (ev_idx (ev_var h0) (ev_var hv) (idx_st' l2)) ne_int
theorem two_eq {C : Orc} {P : String → Option (List String)} {mk : Nat} {s : List Int} {σ : Env} {M : Mem} {u v i j : Nat} (h0 : lk σ 0 = some (st s)) (hu : lk σ u = some (.int i)) (hv : lk σ v = some (.int j)) (l1 : i < s.length) (l2 : j < s.length) :
    ev P C mk (.cmp .eq (.idx (.var 0) (.var u)) (.idx (.var 0) (.var v))) σ M = .ok (.bl (s.getD i 0 == s.getD j 0)) M :=
  ev_cmp (ev_idx (ev_var h0) (ev_var hu) (idx_st' l1)) (ev_idx (ev_var h0) (ev_var hv) (idx_st' l2)) eq_int
theorem count_st {mk_ : Nat} {M : Mem} {s : List Int} {x : Int} : meth mk_ M .count (st s) [.int x] = .ok (.int (s.countP fun y => y == x)) M := by
  have h : ∀ s : List Int, countM M (.int x) (s.map .int) = some (s.countP fun y => y == x) := fun s => by
    induction s with
    | nil => rfl
    | cons y s ih =>
      have e : eqD M (.int y) (.int x) = some (y == x) := by
        rw [eqD_reads (reads_pd pd_int) (reads_pd pd_int)]; rfl
      simp only [List.map_cons, countM, e, ih, Option.bind_some, Option.map_some, List.countP_cons]
      cases (y == x) <;> simp
  show mCount M (st s) (.int x) = _
  simp only [mCount, items, Option.bind_some, h]
/-- return store[a] != store[b] and store.count(store[b]) > 1 -/
theorem last_run {C : Orc} {P : String → Option (List String)} {mk : Nat} {s : List Int} {σ : Env} {M : Mem} {a b : Nat} (h0 : lk σ 0 = some (st s)) (h4 : lk σ 4 = some (.int a)) (h5 : lk σ 5 = some (.int b)) (ha : a < s.length) (hb : b < s.length) :
    ev P C mk (.bop true (.cons (.cmp .ne (.idx (.var 0) (.var 4)) (.idx (.var 0) (.var 5))) (.cons (.cmp .gt (.mt .count (.var 0) (.cons (.idx (.var 0) (.var 5)) .nil)) (.cst (.int 1))) .nil))) σ M =
      .ok (.bl (s.getD a 0 != s.getD b 0 && decide (1 < (s.countP fun x => x == s.getD b 0)))) M := by
  apply ev_bop
  apply evb_cons (two_ne h0 h4 h5 ha hb)
  cases (s.getD a 0 != s.getD b 0) with
  | false => rfl
  | true =>
    rw [if_pos rfl]
    apply evb_one
    apply ev_cmp
    apply ev_mt
    exact ev_var h0
    rfl
    apply evs_cons
    exact ev_idx (ev_var h0) (ev_var h5) (idx_st' hb)
    exact evs_nil
    exact count_st
    exact ev_cst
    simp only [cmpop, intC, Bool.true_and]
    congr 1
    exact decide_eq_decide.mpr (by omega)

theorem filter_true {α : Type} (l : List α) : l.filter (fun _ => true) = l := List.filter_eq_self.mpr fun _ _ => rfl
theorem frz_bl {M : Mem} {n : Nat} {b : Bool} : frz M n RDN (.bl b) = some (.bl b) := rfl
theorem holds_run (n mk : Nat) (M : Mem) {s : List Int} {al ul : List (Nat × Nat)} {a b : Nat} (ha : a < s.length) (hb : b < s.length) (hal : bnd s.length al) (hul : bnd s.length ul) (z1 : al.length ≤ SZ) (z2 : ul.length ≤ SZ) :
    callN D (n + 1) mk "holds" [st s, dd al ul a b] M = .ok (.bl (heldF s al ul a b)) M := by
  have c1 : ∀ {σ : Env} {M' : Mem}, lk σ 0 = some (st s) → lk σ 2 = some (prs al) → σ.length = 8 → ev (parsOf D) (callN D n) M.length (.pr .any (.cons (.comp (.tp (.cons (.nm 6) (.cons (.nm 7) .nil))) (.of (.var 2)) .none (.cmp .ne (.idx (.var 0) (.var 6)) (.idx (.var 0) (.var 7)))) .nil)) σ M' =
      .ok (.bl (al.any fun p => s.getD p.1 0 != s.getD p.2 0)) (M' ++ [.lst (al.map fun q => .bl (s.getD q.1 0 != s.getD q.2 0))]) := fun {σ M'} h0 h2 hl => by
    apply ev_pr
    apply evs_cons
    refine comp_prs (fun _ => true) (fun q => .bl (s.getD q.1 0 != s.getD q.2 0)) z1 h2 fun q hq M2 => ⟨evc_none, fun _ => ?_⟩
    match σ, h0, hl with
    | [_, _, _, _, _, _, _, _], h0, _ => exact two_ne h0 rfl rfl (hal q hq).1 (hal q hq).2
    exact evs_nil
    rw [filter_true]
    exact any_run
  have c2 : ∀ {σ : Env} {M' : Mem}, lk σ 0 = some (st s) → lk σ 3 = some (prs ul) → σ.length = 8 → ev (parsOf D) (callN D n) M.length (.pr .any (.cons (.comp (.tp (.cons (.nm 6) (.cons (.nm 7) .nil))) (.of (.var 3)) .none (.cmp .eq (.idx (.var 0) (.var 6)) (.idx (.var 0) (.var 7)))) .nil)) σ M' =
      .ok (.bl (ul.any fun p => s.getD p.1 0 == s.getD p.2 0)) (M' ++ [.lst (ul.map fun q => .bl (s.getD q.1 0 == s.getD q.2 0))]) := fun {σ M'} h0 h2 hl => by
    apply ev_pr
    apply evs_cons
    refine comp_prs (fun _ => true) (fun q => .bl (s.getD q.1 0 == s.getD q.2 0)) z2 h2 fun q hq M2 => ⟨evc_none, fun _ => ?_⟩
    match σ, h0, hl with
    | [_, _, _, _, _, _, _, _], h0, _ => exact two_eq h0 rfl rfl (hul q hq).1 (hul q hq).2
    exact evs_nil
    rw [filter_true]
    exact any_run
  cases g1 : al.any (fun p => s.getD p.1 0 != s.getD p.2 0) with
  | true =>
    apply call_rt (d := d_holds) rfl rfl rfl
    apply xss_nx
    apply xs_set
    exact ev_var rfl
    rfl
    apply xss_rt
    apply xs_iff (q := true)
    apply ev_bop
    apply evb_cons
    exact c1 rfl rfl rfl
    rw [g1]
    exact if_neg (by decide)
    refine (if_pos rfl).trans ?_
    apply xss_rt
    repeat walk_at "pl"
    exact frz_bl.trans (by unfold heldF; rw [g1]; rfl)
    exact take_app
  | false =>
    cases g2 : ul.any (fun p => s.getD p.1 0 == s.getD p.2 0) with
    | true =>
      apply call_rt (d := d_holds) rfl rfl rfl
      apply xss_nx
      apply xs_set
      exact ev_var rfl
      rfl
      apply xss_rt
      apply xs_iff (q := true)
      apply ev_bop
      apply evb_cons
      exact c1 rfl rfl rfl
      rw [g1]
      refine (if_pos rfl).trans ?_
      apply evb_one
      rw [← g2]
      exact c2 rfl rfl rfl
      refine (if_pos rfl).trans ?_
      apply xss_rt
      repeat walk_at "pl"
      exact frz_bl.trans (by unfold heldF; rw [g1, g2]; rfl)
      rw [List.append_assoc]; exact take_app
    | false =>
      apply call_rt (d := d_holds) rfl rfl rfl
      apply xss_nx
      apply xs_set
      exact ev_var rfl
      rfl
      apply xss_nx
      apply xs_iff (q := false)
      apply ev_bop
      apply evb_cons
      exact c1 rfl rfl rfl
      rw [g1]
      refine (if_pos rfl).trans ?_
      apply evb_one
      rw [← g2]
      exact c2 rfl rfl rfl
      refine (if_neg (by decide)).trans ?_
      repeat walk_at "pl"
      apply xss_rt
      apply xs_ret
      refine last_run (a := a) (b := b) ?_ ?_ ?_ ha hb
      rfl
      rfl
      rfl
      exact frz_bl.trans (by unfold heldF; rw [g1, g2]; rfl)
      rw [List.append_assoc]; exact take_app
theorem filt_any {α : Type} (p : α → Bool) (l : List α) : (!(l.filter p).isEmpty) = l.any p := by
  induction l with
  | nil => rfl
  | cons x l ih =>
    rw [List.filter_cons, List.any_cons]
    cases h : p x with
    | true => simp
    | false => simpa using ih
theorem is_held_run (n mk : Nat) (M : Mem) {s : List Int} {al ul : List (Nat × Nat)} {a b : Nat} (ha : a < s.length) (hb : b < s.length) (hal : bnd s.length al) (hul : bnd s.length ul) (z1 : al.length ≤ SZ) (z2 : ul.length ≤ SZ) :
    callN D (n + 1) mk "_law_is_held" [st s, dd al ul a b] M = .ok (.bl (heldF s al ul a b)) M := by
  have ones : ∀ {l : List (Nat × Nat)} {p : Nat × Nat → Bool}, ∀ x ∈ (l.filter p).map fun _ => V.int 1, pd 59 x := fun x hx => by
    obtain ⟨_, _, rfl⟩ := List.mem_map.mp hx; exact pd_int
  have c1 : ∀ {σ : Env} {M' : Mem}, lk σ 0 = some (st s) → lk σ 2 = some (prs al) → σ.length = 8 → ev (parsOf D) (callN D n) M.length (.cmp .ne (.comp (.tp (.cons (.nm 6) (.cons (.nm 7) .nil))) (.of (.var 2)) (.some (.cmp .ne (.idx (.var 0) (.var 6)) (.idx (.var 0) (.var 7)))) (.cst (.int 1))) (.lst .nil)) σ M' =
      .ok (.bl (al.any fun p => s.getD p.1 0 != s.getD p.2 0)) (M' ++ [.lst ((al.filter fun p => s.getD p.1 0 != s.getD p.2 0).map fun _ => .int 1)] ++ [.lst []]) := fun {σ M'} h0 h2 hl => by
    apply ev_cmp
    refine comp_prs (fun p => s.getD p.1 0 != s.getD p.2 0) (fun _ => .int 1) z1 h2 fun q hq M2 => ⟨evc_some ?_, fun _ => ev_cst⟩
    match σ, h0, hl with
    | [_, _, _, _, _, _, _, _], h0, _ => exact two_ne h0 rfl rfl (hal q hq).1 (hal q hq).2
    apply ev_lst
    exact evs_nil
    decide
    refine cmp_ne (reads_ref (by rw [List.getElem?_append_left (by simp)]; exact at_end) ones) (reads_new (by simp)) ?_
    rw [eqV_nil, ← filt_any]
    simp
  have c2 : ∀ {σ : Env} {M' : Mem}, lk σ 0 = some (st s) → lk σ 3 = some (prs ul) → σ.length = 8 → ev (parsOf D) (callN D n) M.length (.cmp .ne (.comp (.tp (.cons (.nm 6) (.cons (.nm 7) .nil))) (.of (.var 3)) (.some (.cmp .eq (.idx (.var 0) (.var 6)) (.idx (.var 0) (.var 7)))) (.cst (.int 1))) (.lst .nil)) σ M' =
      .ok (.bl (ul.any fun p => s.getD p.1 0 == s.getD p.2 0)) (M' ++ [.lst ((ul.filter fun p => s.getD p.1 0 == s.getD p.2 0).map fun _ => .int 1)] ++ [.lst []]) := fun {σ M'} h0 h2 hl => by
    apply ev_cmp
    refine comp_prs (fun p => s.getD p.1 0 == s.getD p.2 0) (fun _ => .int 1) z2 h2 fun q hq M2 => ⟨evc_some ?_, fun _ => ev_cst⟩
    match σ, h0, hl with
    | [_, _, _, _, _, _, _, _], h0, _ => exact two_eq h0 rfl rfl (hul q hq).1 (hul q hq).2
    apply ev_lst
    exact evs_nil
    decide
    refine cmp_ne (reads_ref (by rw [List.getElem?_append_left (by simp)]; exact at_end) ones) (reads_new (by simp)) ?_
    rw [eqV_nil, ← filt_any]
    simp
  cases g1 : al.any (fun p => s.getD p.1 0 != s.getD p.2 0) with
  | true =>
    apply call_rt (d := d__law_is_held) rfl rfl rfl
    apply xss_nx
    apply xs_set
    exact ev_var rfl
    rfl
    apply xss_rt
    apply xs_iff (q := true)
    apply ev_bop
    apply evb_cons
    exact c1 rfl rfl rfl
    rw [g1]
    exact if_neg (by decide)
    refine (if_pos rfl).trans ?_
    apply xss_rt
    repeat walk_at "pl"
    exact frz_bl.trans (by unfold heldF; rw [g1]; rfl)
    simp only [List.append_assoc]; exact take_app
  | false =>
    cases g2 : ul.any (fun p => s.getD p.1 0 == s.getD p.2 0) with
    | true =>
      apply call_rt (d := d__law_is_held) rfl rfl rfl
      apply xss_nx
      apply xs_set
      exact ev_var rfl
      rfl
      apply xss_rt
      apply xs_iff (q := true)
      apply ev_bop
      apply evb_cons
      exact c1 rfl rfl rfl
      rw [g1]
      refine (if_pos rfl).trans ?_
      apply evb_one
      rw [← g2]
      exact c2 rfl rfl rfl
      refine (if_pos rfl).trans ?_
      apply xss_rt
      repeat walk_at "pl"
      exact frz_bl.trans (by unfold heldF; rw [g1, g2]; rfl)
      simp only [List.append_assoc]; exact take_app
    | false =>
      apply call_rt (d := d__law_is_held) rfl rfl rfl
      apply xss_nx
      apply xs_set
      exact ev_var rfl
      rfl
      apply xss_nx
      apply xs_iff (q := false)
      apply ev_bop
      apply evb_cons
      exact c1 rfl rfl rfl
      rw [g1]
      refine (if_pos rfl).trans ?_
      apply evb_one
      rw [← g2]
      exact c2 rfl rfl rfl
      refine (if_neg (by decide)).trans ?_
      repeat walk_at "pl"
      apply xss_rt
      apply xs_ret
      refine last_run (a := a) (b := b) ?_ ?_ ?_ ha hb
      rfl
      rfl
      rfl
      exact frz_bl.trans (by unfold heldF; rw [g1, g2]; rfl)
      simp only [List.append_assoc]; exact take_app
/-! ### the copy -/
def doneL (s : List Int) (a b : Nat) : List Int := s.take b ++ [s.getD a 0] ++ s.drop (b + 1)
theorem cut_lo {s : List Int} {b : Nat} (hb : b < s.length) : cut (s.map V.int) none (some (b : Int)) = (s.take b).map V.int := by
  unfold cut sIx
  simp only [List.drop_zero, Nat.sub_zero, List.length_map]
  rw [if_neg (by omega), List.map_take]
  congr 1
  omega
theorem cut_hi {s : List Int} {b : Nat} (hb : b < s.length) : cut (s.map V.int) (some ((b : Int) + 1)) none = (s.drop (b + 1)).map V.int := by
  unfold cut sIx
  simp only [List.length_map]
  rw [if_neg (by omega), List.map_drop]
  have e : min ((b : Int) + 1).toNat s.length = b + 1 := by omega
  rw [e, List.take_of_length_le (by simp)]
/-- store[:b] + (store[a],) + store[b + 1:] -/
theorem copy_run {C : Orc} {P : String → Option (List String)} {mk : Nat} {s : List Int} {σ : Env} {M : Mem} {a b i j : Nat} (h0 : lk σ 0 = some (st s)) (h4 : lk σ i = some (.int a)) (h5 : lk σ j = some (.int b)) (ha : a < s.length) (hb : b < s.length) (hz : s.length ≤ 1000) :
    ev P C mk (.bin .add (.bin .add (.slc (.var 0) .none (.some (.var j))) (.tup (.cons (.idx (.var 0) (.var i)) .nil))) (.slc (.var 0) (.some (.bin .add (.var j) (.cst (.int 1)))) .none)) σ M = .ok (st (doneL s a b)) M := by
  have tt : ∀ {x y : List V} {M : Mem}, x.length + y.length ≤ SZ → binop M .add (.tup x) (.tup y) = .ok (.tup (x ++ y)) M := fun h => by simp only [binop, addV, if_pos h]
  apply ev_bin
  apply ev_bin
  apply ev_slc
  exact ev_var h0
  exact evo_none
  exact evo_some (ev_var h5)
  rfl
  apply ev_tup
  exact evs_cons (ev_idx (ev_var h0) (ev_var h4) (idx_st' ha)) evs_nil
  show 1 ≤ SZ
  decide
  refine tt ?_
  rw [cut_lo hb]
  simp only [List.length_map, List.length_take, List.length_cons, List.length_nil]
  unfold SZ; omega
  apply ev_slc
  exact ev_var h0
  exact evo_some (ev_bin (ev_var h5) ev_cst add_i)
  exact evo_none
  rfl
  rw [cut_lo hb, cut_hi hb]
  refine (tt ?_).trans ?_
  · simp only [List.length_append, List.length_map, List.length_take, List.length_drop, List.length_cons, List.length_nil]
    unfold SZ; omega
  · show _ = R.ok (V.tup ((doneL s a b).map V.int)) M
    rw [doneL, List.map_append, List.map_append]; rfl
theorem pd_st {n : Nat} {s : List Int} : pd (n + 1) (st s) := pd_tup fun x hx => by obtain ⟨i, _, rfl⟩ := List.mem_map.mp hx; exact pd_int
def doneF (s : List Int) (al ul : List (Nat × Nat)) (a b : Nat) : List Int := if heldF s al ul a b = true then doneL s a b else s
theorem done_run (n mk : Nat) (M : Mem) {s : List Int} {al ul : List (Nat × Nat)} {a b : Nat} (ha : a < s.length) (hb : b < s.length) (hal : bnd s.length al) (hul : bnd s.length ul) (z1 : al.length ≤ SZ) (z2 : ul.length ≤ SZ) (hz : s.length ≤ 1000) :
    callN D (n + 2) mk "done" [st s, dd al ul a b] M = .ok (st (doneF s al ul a b)) M := by
  cases g : heldF s al ul a b with
  | false =>
    apply call_rt (d := d_done) rfl rfl rfl
    apply xss_rt
    apply xs_iff
    apply ev_not
    apply ev_fn
    repeat walk_at "pl"
    exact holds_run n _ M ha hb hal hul z1 z2
    rw [g]
    refine (if_pos rfl).trans ?_
    apply xss_rt
    repeat walk_at "pl"
    exact (frz_pd (n := 1) pd_st).trans (by unfold doneF; rw [g]; rfl)
    simp
  | true =>
    apply call_rt (d := d_done) rfl rfl rfl
    apply xss_nx
    apply xs_iff
    apply ev_not
    apply ev_fn
    repeat walk_at "pl"
    exact holds_run n _ M ha hb hal hul z1 z2
    rw [g]
    refine (if_neg (by decide)).trans ?_
    repeat walk_at "pl"
    apply xss_nx
    apply xs_par
    apply evs_cons
    apply ev_idx
    repeat walk_at "pl"
    rfl
    apply evs_cons
    apply ev_idx
    repeat walk_at "pl"
    rfl
    repeat walk_at "pl"
    rfl
    apply xss_rt
    apply xs_ret
    refine copy_run (a := a) (b := b) ?_ ?_ ?_ ha hb hz
    rfl
    rfl
    rfl
    exact (frz_pd (n := 1) pd_st).trans (by unfold doneF; rw [g]; rfl)
    simp
theorem copied_run (n mk : Nat) (M : Mem) {s : List Int} {al ul : List (Nat × Nat)} {a b : Nat} (ha : a < s.length) (hb : b < s.length) (hal : bnd s.length al) (hul : bnd s.length ul) (z1 : al.length ≤ SZ) (z2 : ul.length ≤ SZ) (hz : s.length ≤ 1000) :
    callN D (n + 2) mk "_law_copied" [st s, dd al ul a b] M = .ok (st (doneF s al ul a b)) M := by
  cases g : heldF s al ul a b with
  | false =>
    apply call_rt (d := d__law_copied) rfl rfl rfl
    apply xss_nx
    apply xs_set
    apply ev_slc
    repeat walk_at "pl"
    rfl
    rfl
    apply xss_rt
    apply xs_ret
    apply ev_ite
    apply ev_fn
    repeat walk_at "pl"
    exact is_held_run n _ M ha hb hal hul z1 z2
    rw [g]
    refine (if_neg (by decide)).trans ?_
    repeat walk_at "pl"
    exact (frz_pd (n := 1) pd_st).trans (by unfold doneF; rw [g]; rfl)
    simp
  | true =>
    apply call_rt (d := d__law_copied) rfl rfl rfl
    apply xss_nx
    apply xs_set
    apply ev_slc
    repeat walk_at "pl"
    rfl
    rfl
    apply xss_rt
    apply xs_ret
    apply ev_ite
    apply ev_fn
    repeat walk_at "pl"
    exact is_held_run n _ M ha hb hal hul z1 z2
    rw [g]
    refine (if_pos rfl).trans ?_
    refine copy_run (a := a) (b := b) ?_ ?_ ?_ ha hb hz
    rfl
    rfl
    rfl
    exact (frz_pd (n := 1) pd_st).trans (by unfold doneF; rw [g]; rfl)
    simp
/-! ### the law's question -/
theorem repr_ref {M : Mem} {i : Nat} {xs : List V} (h : M[i]? = some (.lst xs)) (hx : ∀ x ∈ xs, pd 59 x) (hs : shws xs = true) (hw : wts xs + 4 ≤ SZ) : prim M .repr [.ref i] = .ok (.rep (.fl xs)) M := by
  obtain ⟨e, p⟩ := reads_ref h hx
  simp only [prim, prim1, pRepr, e, p.2.1, decide_eq_true p.2.2, Bool.true_and, Bool.and_true]
  simp only [shw, wt, hs, Bool.true_and]
  exact if_pos (decide_eq_true hw)
theorem repr_pd {M : Mem} {v : V} (p : pd 60 v) (hs : shw v = true) (hw : wt v ≤ SZ) : prim M .repr [v] = .ok (.rep v) M := by
  simp only [prim, prim1, pRepr, rd_noref p.1, p.2.1, decide_eq_true p.2.2, hs, decide_eq_true hw, Bool.and_self, if_true]
def Small (s : List Int) : Prop := ∀ x ∈ s, x.natAbs < 2 ^ 1900
theorem shws_ints {s : List Int} (h : Small s) : shws (s.map .int) = true := by
  induction s with
  | nil => rfl
  | cons x s ih => simp only [List.map_cons, shws, shw, decide_eq_true (h x (List.mem_cons_self ..)), ih fun y hy => h y (List.mem_cons_of_mem _ hy), Bool.and_self]
theorem wts_ints {s : List Int} : wts (s.map .int) = 1908 * s.length := by
  induction s with
  | nil => rfl
  | cons x s ih => simp only [List.map_cons, wts, wt, ih, List.length_cons]; omega
theorem shws_prs {k : Nat} (hk : k ≤ 1000) {l : List (Nat × Nat)} (h : bnd k l) : shws (l.map fun p => V.tup [.int p.1, .int p.2]) = true := by
  have big : ∀ i : Nat, i < 1000 → ((i : Int).natAbs < 2 ^ 1900) := fun i hi => by
    have : (i : Int).natAbs = i := by omega
    rw [this]
    exact Nat.lt_of_lt_of_le hi (by decide +kernel)
  induction l with
  | nil => rfl
  | cons p l ih =>
    have hp := h p (List.mem_cons_self ..)
    simp only [List.map_cons, shws, shw, decide_eq_true (big p.1 (by omega)), decide_eq_true (big p.2 (by omega)), ih fun q hq => h q (List.mem_cons_of_mem _ hq), Bool.and_self]
theorem wts_prs {l : List (Nat × Nat)} : wts (l.map fun p => V.tup [.int p.1, .int p.2]) = 3824 * l.length := by
  induction l with
  | nil => rfl
  | cons x s ih => simp only [List.map_cons, wts, wt, ih, List.length_cons]; omega
theorem pd_prs {n : Nat} {l : List (Nat × Nat)} : pd (n + 2) (prs l) := pd_tup fun x hx => by
  obtain ⟨p, _, rfl⟩ := prs_mem hx
  exact pd_tup fun y hy => by
    simp only [List.mem_cons, List.not_mem_nil, or_false] at hy
    rcases hy with rfl | rfl <;> exact pd_int
theorem pd_dd {n : Nat} {al ul : List (Nat × Nat)} {a b : Nat} : pd (n + 3) (dd al ul a b) := pd_tup fun x hx => by
  simp only [List.mem_cons, List.not_mem_nil, or_false] at hx
  rcases hx with rfl | rfl | rfl | rfl
  · exact pd_prs
  · exact pd_prs
  · exact pd_int
  · exact pd_int
end PL.K05

namespace PL.K05
/-! ### sets as sorted lists -/
theorem mem_insI {x y : Int} : ∀ {l : List Int}, y ∈ insI x l ↔ y = x ∨ y ∈ l
  | [] => by simp [insI]
  | z :: l => by
    unfold insI
    split
    · simp
    · simp only [List.mem_cons, mem_insI (l := l)]
      constructor
      · rintro (h | h | h)
        · exact .inr (.inl h)
        · exact .inl h
        · exact .inr (.inr h)
      · rintro (h | h | h)
        · exact .inr (.inl h)
        · exact .inl h
        · exact .inr (.inr h)
theorem mem_sortI {y : Int} : ∀ {l : List Int}, y ∈ sortI l ↔ y ∈ l
  | [] => by simp [sortI]
  | x :: l => by unfold sortI; rw [mem_insI, mem_sortI, List.mem_cons]
theorem mem_dedup {y : Int} : ∀ {l : List Int}, y ∈ dedup l ↔ y ∈ l
  | [] => by simp [dedup]
  | x :: l => by
    unfold dedup
    split
    · rename_i h
      rw [mem_dedup, List.mem_cons]
      refine ⟨.inr, ?_⟩
      rintro (rfl | h')
      · simpa using h
      · exact h'
    · rw [List.mem_cons, List.mem_cons, mem_dedup]
theorem nodup_dedup : ∀ {l : List Int}, (dedup l).Nodup
  | [] => by simp [dedup]
  | x :: l => by
    unfold dedup
    split
    · exact nodup_dedup
    · rename_i h
      exact List.nodup_cons.mpr ⟨fun h' => h (by simpa using mem_dedup.mp h'), nodup_dedup⟩
theorem up_insI {x : Int} : ∀ {l : List Int}, l.Pairwise (· < ·) → x ∉ l → (insI x l).Pairwise (· < ·)
  | [], _, _ => by simp [insI]
  | y :: l, h, k => by
    have hy := List.pairwise_cons.mp h
    have ne : x ≠ y := fun e => k (e ▸ List.mem_cons_self ..)
    unfold insI
    split
    · rename_i c
      refine List.pairwise_cons.mpr ⟨fun z hz => ?_, h⟩
      rcases List.mem_cons.mp hz with rfl | hz
      · omega
      · have := hy.1 z hz; omega
    · rename_i c
      refine List.pairwise_cons.mpr ⟨fun z hz => ?_, up_insI hy.2 fun e => k (List.mem_cons_of_mem _ e)⟩
      rcases mem_insI.mp hz with rfl | hz
      · omega
      · exact hy.1 z hz
theorem up_sortI : ∀ {l : List Int}, l.Nodup → (sortI l).Pairwise (· < ·)
  | [], _ => by simp [sortI]
  | x :: l, h => by
    have hh := List.nodup_cons.mp h
    unfold sortI
    exact up_insI (up_sortI hh.2) fun e => hh.1 (mem_sortI.mp e)
theorem up_ext : ∀ {l k : List Int}, l.Pairwise (· < ·) → k.Pairwise (· < ·) → (∀ x, x ∈ l ↔ x ∈ k) → l = k
  | [], [], _, _, _ => rfl
  | [], y :: k, _, _, h => absurd ((h y).mpr (List.mem_cons_self ..)) (by simp)
  | x :: l, [], _, _, h => absurd ((h x).mp (List.mem_cons_self ..)) (by simp)
  | x :: l, y :: k, hl, hk, h => by
    have a := List.pairwise_cons.mp hl
    have b := List.pairwise_cons.mp hk
    have e : x = y := by
      have h1 := List.mem_cons.mp ((h x).mp (List.mem_cons_self ..))
      have h2 := List.mem_cons.mp ((h y).mpr (List.mem_cons_self ..))
      rcases h1 with h1 | h1
      · exact h1
      · rcases h2 with h2 | h2
        · exact h2.symm
        · have := b.1 x h1; have := a.1 y h2; omega
    subst e
    congr 1
    refine up_ext a.2 b.2 fun z => ⟨fun hz => ?_, fun hz => ?_⟩
    · rcases List.mem_cons.mp ((h z).mp (List.mem_cons_of_mem _ hz)) with e | e
      · have := a.1 z hz; omega
      · exact e
    · rcases List.mem_cons.mp ((h z).mpr (List.mem_cons_of_mem _ hz)) with e | e
      · have := b.1 z hz; omega
      · exact e
theorem sets_eq {l k : List Int} (h : ∀ x, x ∈ l ↔ x ∈ k) : sortI (dedup l) = sortI (dedup k) :=
  up_ext (up_sortI nodup_dedup) (up_sortI nodup_dedup) fun x => by rw [mem_sortI, mem_sortI, mem_dedup, mem_dedup, h]
theorem getD_at {s : List Int} {i : Nat} (h : i < s.length) : s.getD i 0 = s[i] := by simp [List.getD, h]
theorem getD_mem {s : List Int} {i : Nat} (h : i < s.length) : s.getD i 0 ∈ s := by
  rw [getD_at h]; exact List.getElem_mem h
theorem cut_at {s : List Int} {b : Nat} (hb : b < s.length) : s = s.take b ++ s.getD b 0 :: s.drop (b + 1) := by
  rw [getD_at hb, ← List.drop_eq_getElem_cons hb, List.take_append_drop]
theorem doneL_len {s : List Int} {a b : Nat} (hb : b < s.length) : (doneL s a b).length = s.length := by
  unfold doneL; simp; omega
theorem doneL_mem {s : List Int} {a b : Nat} (ha : a < s.length) (hb : b < s.length) (hc : 1 < s.countP fun x => x == s.getD b 0) (x : Int) : x ∈ doneL s a b ↔ x ∈ s := by
  have hs := cut_at hb
  constructor
  · unfold doneL
    intro h
    simp only [List.mem_append, List.mem_singleton] at h
    rcases h with (h | rfl) | h
    · exact List.mem_of_mem_take h
    · exact getD_mem ha
    · exact List.mem_of_mem_drop h
  · intro h
    have key : s.getD b 0 ∈ doneL s a b := by
      rw [hs, List.countP_append, List.countP_cons, ← hs] at hc
      simp only [beq_self_eq_true, if_true] at hc
      by_cases c : 0 < (s.take b).countP fun x => x == s.getD b 0
      · obtain ⟨z, hz, e⟩ := List.countP_pos_iff.mp c
        have e := beq_iff_eq.mp e
        rw [← e]
        unfold doneL
        simp only [List.mem_append]; exact .inl (.inl hz)
      · obtain ⟨z, hz, e⟩ := List.countP_pos_iff.mp (show 0 < (s.drop (b + 1)).countP fun x => x == s.getD b 0 by omega)
        have e := beq_iff_eq.mp e
        rw [← e]
        unfold doneL
        simp only [List.mem_append]; exact .inr hz
    rw [hs] at h
    rcases List.mem_append.mp h with h | h
    · unfold doneL; simp only [List.mem_append]; exact .inl (.inl h)
    · rcases List.mem_cons.mp h with rfl | h
      · exact key
      · unfold doneL; simp only [List.mem_append]; exact .inr h
theorem held_ne {s : List Int} {al ul : List (Nat × Nat)} {a b : Nat} (h : heldF s al ul a b = true) : s.getD a 0 ≠ s.getD b 0 ∧ 1 < s.countP fun x => x == s.getD b 0 := by
  unfold heldF at h
  simp only [Bool.and_eq_true, bne_iff_ne, ne_eq, decide_eq_true_eq] at h
  exact h.2
theorem doneL_at {s : List Int} {a b : Nat} (hb : b < s.length) : (doneL s a b).getD b 0 = s.getD a 0 := by
  have e : b = (s.take b).length := by rw [List.length_take]; omega
  unfold doneL
  rw [List.append_assoc, List.getD_eq_getElem?_getD, List.getElem?_append_right (by omega)]
  rw [← e]; simp
theorem doneL_a {s : List Int} {a b : Nat} (ha : a < s.length) (hb : b < s.length) : (doneL s a b).getD a 0 = s.getD a 0 := by
  have e : (s.take b).length = b := by rw [List.length_take]; omega
  by_cases c : a = b
  · subst c; exact doneL_at hb
  · unfold doneL
    rw [List.append_assoc]
    by_cases l : a < b
    · rw [List.getD_eq_getElem?_getD, List.getElem?_append_left (by omega), List.getElem?_take_of_lt l, ← List.getD_eq_getElem?_getD]
    · rw [List.getD_eq_getElem?_getD, List.getElem?_append_right (by omega), e]
      obtain ⟨k, rfl⟩ : ∃ k, a = b + 1 + k := ⟨a - b - 1, by omega⟩
      rw [show b + 1 + k - b = k + 1 from by omega, List.singleton_append, List.getElem?_cons_succ, List.getElem?_drop, ← List.getD_eq_getElem?_getD]
theorem doneF_idem {s : List Int} {al ul : List (Nat × Nat)} {a b : Nat} (ha : a < s.length) (hb : b < s.length) : doneF (doneF s al ul a b) al ul a b = doneF s al ul a b := by
  cases g : heldF s al ul a b with
  | false =>
    have e : doneF s al ul a b = s := by unfold doneF; rw [g]; rfl
    rw [e, e]
  | true =>
    have e : doneF s al ul a b = doneL s a b := by unfold doneF; rw [g]; rfl
    rw [e]
    cases k : heldF (doneL s a b) al ul a b with
    | false => unfold doneF; rw [k]; rfl
    | true =>
      have := (held_ne k).1
      rw [doneL_a ha hb, doneL_at hb] at this
      exact absurd rfl this
theorem doneF_len {s : List Int} {al ul : List (Nat × Nat)} {a b : Nat} (hb : b < s.length) : (doneF s al ul a b).length = s.length := by
  unfold doneF; split
  · exact doneL_len hb
  · rfl
theorem doneF_mem {s : List Int} {al ul : List (Nat × Nat)} {a b : Nat} (ha : a < s.length) (hb : b < s.length) (x : Int) : x ∈ doneF s al ul a b ↔ x ∈ s := by
  unfold doneF; split
  · rename_i h; exact doneL_mem ha hb (held_ne h).2 x
  · rfl
end PL.K05

namespace PL.K05
abbrev restS : Ss := (.cons (.iff (.bop false (.cons (.cmp .ne (.pr .repr (.cons (.var 3) .nil)) (.pr .repr (.cons (.var 5) .nil))) (.cons (.cmp .ne (.pr .sortedSet (.cons (.idx (.var 3) (.cst (.int 1))) .nil)) (.pr .sortedSet (.cons (.var 0) .nil))) .nil))) (.cons (.ret (.cst (.bl false)))
    .nil) .nil)
    (.cons (.iff (.bop true (.cons (.idx (.var 5) (.cst (.int 0))) (.cons (.cmp .lt (.mt .count (.var 0) (.cons (.idx (.var 0) (.idx (.var 1) (.cst (.int 3)))) .nil)) (.cst (.int 2))) .nil))) (.cons (.ret (.cst (.bl false)))
    .nil) .nil)
    (.cons (.ret (.bop true (.cons (.cmp .eq (.pr .repr (.cons (.fn "done" (.cons (.idx (.var 3) (.cst (.int 1))) (.cons (.var 1) .nil))) .nil)) (.pr .repr (.cons (.idx (.var 5) (.cst (.int 1))) .nil))) (.cons (.cmp .eq (.pr .repr (.cons (.lst (.cons (.var 0) (.cons (.var 1) .nil))) .nil)) (.var 4)) .nil))))
    .nil)))
theorem idx_lst {M : Mem} {i : Nat} {xs : List V} {v : V} {k : Nat} (h : M[i]? = some (.lst xs)) (hv : xs[k]? = some v) : index M (.ref i) (.int (k : Int)) = some v := by
  have hk := (List.getElem?_eq_some_iff.mp hv).1
  simp only [index, dkeys, items, h, nIx]
  rw [if_pos (by omega), if_pos (by omega)]
  simpa using hv
theorem eq_rep {M : Mem} {a : V} : cmpop M .eq (.rep a) (.rep a) = some true := by simp only [cmpop, eqM, if_true]
theorem ne_rep {M : Mem} {a : V} : cmpop M .ne (.rep a) (.rep a) = some false := by simp only [cmpop, eqM, if_true]; rfl
theorem set_run {M : Mem} {s : List Int} (h : s.length < 64) : prim M .sortedSet [st s] = .ok (.ref M.length) (M ++ [.lst ((sortI (dedup s)).map .int)]) := by
  simp only [prim, prim1, pSortedSet, ints_map, if_pos h, alloc]
theorem eqVs_ints {s : List Int} : eqVs (s.map .int) (s.map .int) = true := by
  induction s with
  | nil => rfl
  | cons x s ih => simp [eqVs, eqV, ih]
theorem doneF_small {s : List Int} {al ul : List (Nat × Nat)} {a b : Nat} (ha : a < s.length) (hb : b < s.length) (h : Small s) : Small (doneF s al ul a b) := fun x hx => h x ((doneF_mem ha hb x).mp hx)
structure Fit (s : List Int) (al ul : List (Nat × Nat)) (a b : Nat) : Prop where
  a : a < s.length
  b : b < s.length
  ba : bnd s.length al
  bu : bnd s.length ul
  sm : Small s
  z : s.length ≤ 60
  z1 : al.length ≤ 1000
  z2 : ul.length ≤ 1000
theorem wt_st {s : List Int} (h : s.length ≤ 60) : wt (st s) ≤ 200000 := by
  simp only [wt, wts_ints]; omega
theorem wt_dd {al ul : List (Nat × Nat)} {a b : Nat} (z1 : al.length ≤ 1000) (z2 : ul.length ≤ 1000) : wt (dd al ul a b) ≤ 8000000 := by
  simp only [wt, wts, wts_prs]; omega
theorem shw_st {s : List Int} (h : Small s) : shw (st s) = true := by simp only [shw]; exact shws_ints h
theorem small_nat {i : Nat} (h : i ≤ 1000) : decide ((i : Int).natAbs < 2 ^ 1900) = true := by
  have : (i : Int).natAbs = i := by omega
  rw [this]
  exact decide_eq_true (Nat.lt_of_le_of_lt h (by decide +kernel))
theorem shw_dd {s : List Int} {al ul : List (Nat × Nat)} {a b : Nat} (h : Fit s al ul a b) : shw (dd al ul a b) = true := by
  have := h.z; have := h.a; have := h.b
  simp only [shw, shws, shws_prs (k := s.length) (by omega) h.ba, shws_prs (k := s.length) (by omega) h.bu, Bool.true_and, Bool.and_true]
  rw [small_nat (by omega), small_nat (by omega)]; rfl
/-- the two runs as the law holds them -/
abbrev res (s : List Int) (al ul : List (Nat × Nat)) (a b : Nat) : List V := [.bl (heldF s al ul a b), st (doneF s al ul a b)]
theorem repr_res {M : Mem} {i : Nat} {s : List Int} {al ul : List (Nat × Nat)} {a b : Nat} (f : Fit s al ul a b) (h : M[i]? = some (.lst (res s al ul a b))) : prim M .repr [.ref i] = .ok (.rep (.fl (res s al ul a b))) M := by
  refine repr_ref h (fun x hx => ?_) ?_ ?_
  · simp only [List.mem_cons, List.not_mem_nil, or_false] at hx
    rcases hx with rfl | rfl
    · exact pd_bl
    · exact pd_st
  · have := shw_st (doneF_small (al := al) (ul := ul) f.a f.b f.sm)
    rw [shws, shws, this]; simp only [shw, shws, Bool.and_self]
  · have := wt_st (s := doneF s al ul a b) (by rw [doneF_len f.b]; exact f.z)
    simp only [wts] at this ⊢
    have e : wt (V.bl (heldF s al ul a b)) = 6 := by simp only [wt]
    rw [e]
    unfold SZ; omega
theorem repr_in {M : Mem} {i : Nat} {s : List Int} {al ul : List (Nat × Nat)} {a b : Nat} (f : Fit s al ul a b) (h : M[i]? = some (.lst [st s, dd al ul a b])) : prim M .repr [.ref i] = .ok (.rep (.fl [st s, dd al ul a b])) M := by
  refine repr_ref h (fun x hx => ?_) ?_ ?_
  · simp only [List.mem_cons, List.not_mem_nil, or_false] at hx
    rcases hx with rfl | rfl
    · exact pd_st
    · exact pd_dd
  · simp only [shws, shw_st f.sm, shw_dd f, Bool.and_self]
  · have := wt_st f.z
    have := wt_dd (a := a) (b := b) f.z1 f.z2
    simp only [wts]
    unfold SZ; omega
theorem rest_run (n mk : Nat) (M : Mem) {s : List Int} {al ul : List (Nat × Nat)} {a b i j : Nat} (nm : V) (f : Fit s al ul a b) (hi : M[i]? = some (.lst (res s al ul a b))) (hj : M[j]? = some (.lst (res s al ul a b))) :
    ∃ M1, xss (parsOf D) (callN D (n + 2)) mk restS [some (st s), some (dd al ul a b), some nm, some (.ref i), some (.rep (.fl [st s, dd al ul a b])), some (.ref j)] M = .rt (.bl true) M1 ∧ ∃ N, M1 = M ++ N := by
  have li := (List.getElem?_eq_some_iff.mp hi).1
  have lj := (List.getElem?_eq_some_iff.mp hj).1
  have hi' : ∀ N : Mem, (M ++ N)[i]? = some (.lst (res s al ul a b)) := fun N => by rw [List.getElem?_append_left li]; exact hi
  have hj' : ∀ N : Mem, (M ++ N)[j]? = some (.lst (res s al ul a b)) := fun N => by rw [List.getElem?_append_left lj]; exact hj
  have z := f.z
  have hd := f.z1
  apply Exists.intro
  apply And.intro
  apply xss_nx
  apply xs_iff (q := false)
  apply ev_bop
  apply evb_cons
  apply ev_cmp
  apply ev_pr
  repeat walk_at "pl"
  exact repr_res f hi
  apply ev_pr
  repeat walk_at "pl"
  exact repr_res f hj
  exact ne_rep
  refine (if_pos rfl).trans ?_
  apply evb_one
  apply ev_cmp
  apply ev_pr
  apply evs_cons
  apply ev_idx
  repeat walk_at "pl"
  exact idx_lst (k := 1) hi rfl
  exact evs_nil
  refine set_run ?_
  rw [doneF_len f.b]; omega
  apply ev_pr
  repeat walk_at "pl"
  refine set_run ?_
  omega
  refine cmp_ne (reads_ints (by rw [List.getElem?_append_left (by simp)]; exact at_end)) (reads_ints at_end) ?_
  rw [sets_eq (doneF_mem f.a f.b)]
  simp only [eqV, eqVs_ints, Bool.not_true]
  refine (if_neg (by decide)).trans ?_
  repeat walk_at "pl"
  apply xss_nx
  apply xs_iff (q := false)
  apply ev_bop
  apply evb_cons
  apply ev_idx
  repeat walk_at "pl"
  rw [List.append_assoc]
  exact idx_lst (k := 0) (hj' _) rfl
  · cases g : heldF s al ul a b with
    | false => exact if_neg (by decide)
    | true =>
      refine (if_pos rfl).trans ?_
      apply evb_one
      apply ev_cmp
      apply ev_mt
      repeat walk_at "pl"
      rfl
      apply evs_cons
      apply ev_idx
      repeat walk_at "pl"
      rfl
      exact idx_st' f.b
      exact evs_nil
      exact count_st
      exact ev_cst
      simp only [cmpop, ltV]
      congr 1
      have := (held_ne g).2
      exact decide_eq_false (by omega)
  refine (if_neg (by decide)).trans ?_
  repeat walk_at "pl"
  apply xss_rt
  apply xs_ret
  apply ev_bop
  apply evb_cons
  apply ev_cmp
  apply ev_pr
  apply evs_cons
  apply ev_fn
  apply evs_cons
  apply ev_idx
  repeat walk_at "pl"
  rw [List.append_assoc]
  exact idx_lst (k := 1) (hi' _) rfl
  repeat walk_at "pl"
  refine done_run n _ _ ?_ ?_ ?_ ?_ ?_ ?_ ?_
  · rw [doneF_len f.b]; exact f.a
  · rw [doneF_len f.b]; exact f.b
  · rw [doneF_len f.b]; exact f.ba
  · rw [doneF_len f.b]; exact f.bu
  · have := f.z1; unfold SZ; omega
  · have := f.z2; unfold SZ; omega
  · rw [doneF_len f.b]; omega
  exact evs_nil
  refine repr_pd pd_st (shw_st ?_) (Nat.le_trans (wt_st ?_) (by decide))
  · rw [doneF_idem f.a f.b]; exact doneF_small f.a f.b f.sm
  · rw [doneF_idem f.a f.b, doneF_len f.b]; exact f.z
  apply ev_pr
  apply evs_cons
  apply ev_idx
  repeat walk_at "pl"
  rw [List.append_assoc]
  exact idx_lst (k := 1) (hj' _) rfl
  exact evs_nil
  refine repr_pd pd_st (shw_st ?_) (Nat.le_trans (wt_st ?_) (by decide))
  · exact doneF_small f.a f.b f.sm
  · rw [doneF_len f.b]; exact f.z
  rw [doneF_idem f.a f.b]
  exact eq_rep
  refine (if_pos rfl).trans ?_
  apply evb_one
  apply ev_cmp
  apply ev_pr
  apply evs_cons
  apply ev_lst
  repeat walk_at "pl"
  show 2 ≤ SZ
  decide
  exact evs_nil
  refine repr_in f ?_
  exact at_end
  repeat walk_at "pl"
  exact eq_rep
  simp only [List.append_assoc]
  exact ⟨_, rfl⟩
theorem is_right_run (n mk : Nat) (M : Mem) {s : List Int} {al ul : List (Nat × Nat)} {a b : Nat} (nm : Bool) (f : Fit s al ul a b) :
    callN D (n + 3) mk "_law_is_right" [st s, dd al ul a b, .bl nm] M = .ok (.bl true) M := by
  have z := f.z
  have z1 : al.length ≤ SZ := by have := f.z1; unfold SZ; omega
  have z2 : ul.length ≤ SZ := by have := f.z2; unfold SZ; omega
  have zs : s.length ≤ 1000 := by omega
  cases nm with
  | false =>
    obtain ⟨M1, hN, N, rfl⟩ := rest_run n M.length (M ++ [.lst [st s, dd al ul a b]] ++ [.lst (res s al ul a b)] ++ [.lst (res s al ul a b)]) (i := (M ++ [MO.lst [st s, dd al ul a b]] ++ [MO.lst (res s al ul a b)]).length) (j := (M ++ [MO.lst [st s, dd al ul a b]]).length) (.bl false) f at_end (by rw [List.getElem?_append_left (by simp)]; exact at_end)
    apply call_rt (d := d__law_is_right) rfl rfl rfl
    apply xss_nx
    apply xs_par
    apply evs_cons
    apply ev_pr
    apply evs_cons
    apply ev_lst
    repeat walk_at "pl"
    show 2 ≤ SZ
    decide
    exact evs_nil
    exact repr_in f at_end
    apply evs_cons
    apply ev_lst
    apply evs_cons
    apply ev_fn
    repeat walk_at "pl"
    exact is_held_run (n + 1) _ _ f.a f.b f.ba f.bu z1 z2
    apply evs_cons
    apply ev_fn
    repeat walk_at "pl"
    exact copied_run n _ _ f.a f.b f.ba f.bu z1 z2 zs
    exact evs_nil
    show 2 ≤ SZ
    decide
    exact evs_nil
    rfl
    apply xss_nx
    apply xs_set
    apply ev_lst
    apply evs_cons
    apply ev_fn
    repeat walk_at "pl"
    exact holds_run (n + 1) _ _ f.a f.b f.ba f.bu z1 z2
    apply evs_cons
    apply ev_fn
    repeat walk_at "pl"
    exact done_run n _ _ f.a f.b f.ba f.bu z1 z2 zs
    exact evs_nil
    show 2 ≤ SZ
    decide
    rfl
    apply xss_nx
    apply xs_iff
    repeat walk_at "pl"
    refine (if_neg (by decide)).trans ?_
    repeat walk_at "pl"
    exact hN
    rfl
    simp only [List.append_assoc]; exact take_app
  | true =>
    obtain ⟨M1, hN, N, rfl⟩ := rest_run n M.length (M ++ [.lst [st s, dd al ul a b]] ++ [.lst (res s al ul a b)] ++ [.lst (res s al ul a b)] ++ [.lst (res s al ul a b)]) (i := (M ++ [MO.lst [st s, dd al ul a b]] ++ [MO.lst (res s al ul a b)] ++ [MO.lst (res s al ul a b)]).length) (j := (M ++ [MO.lst [st s, dd al ul a b]]).length) (.bl true) f at_end (by rw [List.getElem?_append_left (by simp), List.getElem?_append_left (by simp)]; exact at_end)
    apply call_rt (d := d__law_is_right) rfl rfl rfl
    apply xss_nx
    apply xs_par
    apply evs_cons
    apply ev_pr
    apply evs_cons
    apply ev_lst
    repeat walk_at "pl"
    show 2 ≤ SZ
    decide
    exact evs_nil
    exact repr_in f at_end
    apply evs_cons
    apply ev_lst
    apply evs_cons
    apply ev_fn
    repeat walk_at "pl"
    exact is_held_run (n + 1) _ _ f.a f.b f.ba f.bu z1 z2
    apply evs_cons
    apply ev_fn
    repeat walk_at "pl"
    exact copied_run n _ _ f.a f.b f.ba f.bu z1 z2 zs
    exact evs_nil
    show 2 ≤ SZ
    decide
    exact evs_nil
    rfl
    apply xss_nx
    apply xs_set
    apply ev_lst
    apply evs_cons
    apply ev_fn
    repeat walk_at "pl"
    exact holds_run (n + 1) _ _ f.a f.b f.ba f.bu z1 z2
    apply evs_cons
    apply ev_fn
    repeat walk_at "pl"
    exact done_run n _ _ f.a f.b f.ba f.bu z1 z2 zs
    exact evs_nil
    show 2 ≤ SZ
    decide
    rfl
    apply xss_nx
    apply xs_iff
    repeat walk_at "pl"
    refine (if_pos rfl).trans ?_
    apply xss_nx
    apply xs_set
    apply ev_lst
    apply evs_cons
    refine ev_fnk (ws := [dd al ul a b, st s]) (us := [st s, dd al ul a b]) (ps := ["store", "deed"]) (is := [1, 0]) evs_nil (evs_cons (ev_var rfl) (evs_cons (ev_var rfl) evs_nil)) rfl rfl rfl rfl ?_
    exact holds_run (n + 1) _ _ f.a f.b f.ba f.bu z1 z2
    apply evs_cons
    refine ev_fnk (ws := [dd al ul a b, st s]) (us := [st s, dd al ul a b]) (ps := ["store", "deed"]) (is := [1, 0]) evs_nil (evs_cons (ev_var rfl) (evs_cons (ev_var rfl) evs_nil)) rfl rfl rfl rfl ?_
    exact done_run n _ _ f.a f.b f.ba f.bu z1 z2 zs
    exact evs_nil
    show 2 ≤ SZ
    decide
    rfl
    repeat walk_at "pl"
    exact hN
    rfl
    simp only [List.append_assoc]; exact take_app
end PL.K05

namespace PL.K05
/-- what was there before is kept, but for r and g -/
structure Fr (M0 M : Mem) (r g : Nat) : Prop where
  le : M0.length ≤ M.length
  at_ : ∀ i, i < M0.length → i ≠ r → i ≠ g → M[i]? = M0[i]?
theorem Fr.refl {M : Mem} {r g : Nat} : Fr M M r g := ⟨Nat.le_refl _, fun _ _ _ _ => rfl⟩
theorem Fr.app {M0 M : Mem} {r g : Nat} (h : Fr M0 M r g) (N : Mem) : Fr M0 (M ++ N) r g :=
  ⟨by have := h.le; rw [List.length_append]; omega, fun i a b c => by rw [List.getElem?_append_left (Nat.lt_of_lt_of_le a h.le)]; exact h.at_ i a b c⟩
theorem Fr.same {M0 M M' : Mem} {r g : Nat} (h : Fr M0 M r g) (k : Same M M' r g) : Fr M0 M' r g :=
  ⟨by rw [k.len]; exact h.le, fun i a b c => (k.at_ i b c).trans (h.at_ i a b c)⟩
theorem Fr.set {M0 M : Mem} {r g p : Nat} {o : MO} (h : Fr M0 M r g) (hp : M0.length ≤ p) : Fr M0 (M.set p o) r g :=
  ⟨by rw [List.length_set]; exact h.le, fun i a b c => by rw [List.getElem?_set_ne (by omega)]; exact h.at_ i a b c⟩
theorem Fr.out {M0 M : Mem} {r g : Nat} (h : Fr M0 M r g) : Same M0 (M.take M0.length) r g :=
  ⟨by have := h.le; rw [List.length_take]; omega, fun i a b => by
    by_cases c : i < M0.length
    · rw [List.getElem?_take_of_lt c]; exact h.at_ i c a b
    · rw [List.getElem?_eq_none (by rw [List.length_take]; omega), List.getElem?_eq_none (by omega)]⟩
theorem Deck.out {M0 M : Mem} {r g : Nat} {gs gs' : List Int} {m t t' : Int} (h : Deck M r g gs' m t') (h0 : Deck M0 r g gs m t) : Deck (M.take M0.length) r g gs' m t' :=
  ⟨h.ne, by rw [List.getElem?_take_of_lt h0.lt.1]; exact h.d, by rw [List.getElem?_take_of_lt h0.lt.2]; exact h.l, h.z⟩
theorem Deck.at {M : Mem} {r g p : Nat} {o : MO} {gs : List Int} {m t : Int} (h : Deck M r g gs m t) (a : p ≠ r) (b : p ≠ g) : Deck (M.set p o) r g gs m t :=
  ⟨h.ne, by rw [List.getElem?_set_ne a]; exact h.d, by rw [List.getElem?_set_ne b]; exact h.l, h.z⟩
theorem whl_inv {c : Env → Mem → R V} {b : Env → Mem → Rs} {σ : Env} {J : Mem → Prop} (I : Nat → Mem → Prop)
    (hs : ∀ k M, I (k + 1) M → ∃ M1, c σ M = .ok (.bl true) M1 ∧ ∃ M2, b σ M1 = .nx σ M2 ∧ I k M2)
    (hz : ∀ M, I 0 M → ∃ M1, c σ M = .ok (.bl false) M1 ∧ J M1) : ∀ (k F : Nat) (M : Mem), I k M → k < F → ∃ M1, whlL c b F σ M = .nx σ M1 ∧ J M1
  | 0, F + 1, M, h, _ => by
    obtain ⟨M1, e, j⟩ := hz M h
    refine ⟨M1, ?_, j⟩
    simp only [whlL, e, R.toS_ok]
  | k + 1, F + 1, M, h, hf => by
    obtain ⟨M1, e, M2, e2, i⟩ := hs k M h
    obtain ⟨M3, e3, j⟩ := whl_inv I hs hz k F M2 i (by omega)
    refine ⟨M3, ?_, j⟩
    simp only [whlL, e, R.toS_ok, e2, e3]
  | 0, 0, _, _, hf => by omega
  | k + 1, 0, _, _, hf => by omega
theorem len_ref {M : Mem} {i : Nat} {xs : List V} (h : M[i]? = some (.lst xs)) : prim M .len [.ref i] = .ok (.int xs.length) M := by
  simp only [prim, prim1, pLen, items, h]
theorem ne_nil {C : Orc} {P : String → Option (List String)} {mk i j : Nat} {σ : Env} {M : Mem} {xs : List V} (hv : lk σ j = some (.ref i)) (h : M[i]? = some (.lst xs)) (hx : ∀ x ∈ xs, pd 59 x) :
    ev P C mk (.cmp .ne (.var j) (.lst .nil)) σ M = .ok (.bl (!xs.isEmpty)) (M ++ [.lst []]) := by
  apply ev_cmp
  exact ev_var hv
  repeat walk_at "pl"
  decide
  refine cmp_ne (reads_ref (by rw [List.getElem?_append_left (List.getElem?_eq_some_iff.mp h).1]; exact h) hx) (reads_new (by simp)) ?_
  rw [eqV_nil]
theorem pd_ints {n : Nat} {xs : List Int} : ∀ x ∈ xs.map V.int, pd n x := fun x hx => by obtain ⟨i, _, rfl⟩ := List.mem_map.mp hx; exact pd_int
theorem popAt_run {mk : Nat} {M : Mem} {p : Nat} {xs : List V} {v : Int} {y : V} (h : M[p]? = some (.lst xs)) (h0 : 0 ≤ v) (hv : xs[v.toNat]? = some y) : meth mk M .popAt (.ref p) [.int v] = .ok y (M.set p (.lst (xs.eraseIdx v.toNat))) := by
  have hl := (List.getElem?_eq_some_iff.mp hv).1
  show mPopAt M p v = _
  simp only [mPopAt, h, nIx]
  rw [if_pos h0, if_pos (by omega), Option.bind_some, hv]
  rfl
theorem append_run {mk : Nat} {M : Mem} {p : Nat} {xs : List V} {y : V} (h : M[p]? = some (.lst xs)) (hw : wOk mk p y = true) (hz : xs.length < SZ) : meth mk M .append (.ref p) [y] = .ok .non (M.set p (.lst (xs ++ [y]))) := by
  show mAppend mk M p y = _
  simp only [mAppend, h, hw, decide_eq_true hz, Bool.and_self, if_true]
theorem erase_map {zs : List Int} {i : Nat} : (zs.map V.int).eraseIdx i = (zs.eraseIdx i).map V.int := by
  induction zs generalizing i with
  | nil => rfl
  | cons z zs ih => cases i with
    | zero => rfl
    | succ i => simp only [List.map_cons, List.eraseIdx_cons_succ, ih]
theorem recv_list {M : Mem} {i : Nat} {xs : List V} {m : Mt} (h : M[i]? = some (.lst xs)) (hm : hasM m .list = true) : recvOk M m (.ref i) = true := by
  simp only [recvOk, tyR, h, hm]
theorem mixed_run (n mk : Nat) {M : Mem} {r g : Nat} {gs : List Int} {m t : Int} (h : Deck M r g gs m t) {i : Nat} {xs : List Int} (hi : M[i]? = some (.lst (xs.map .int))) (hz : xs.length ≤ 1000) :
    ∃ (ys : List Int) (gs' : List Int) (t' : Int) (M' : Mem), callN D (n + 2) mk "_law_mixed" [.ref r, .ref i] M = .ok (.fl (ys.map .int)) M' ∧ Deck M' r g gs' m t' ∧ Same M M' r g ∧ ys.length = xs.length ∧ ∀ y ∈ ys, y ∈ xs := by
  have lt := h.lt
  have e1 : (M ++ [MO.lst (xs.map .int)]).length = M.length + 1 := by simp
  have key := whl_inv (c := fun σ' M' => ev (parsOf D) (callN D (n + 1)) M.length (.cmp .ne (.var 2) (.lst .nil)) σ' M')
    (b := fun σ' M' => xss (parsOf D) (callN D (n + 1)) M.length (.cons (.ex (.mt .append (.var 3) (.cons (.mt .popAt (.var 2) (.cons (.fn "_law_next" (.cons (.var 0) (.cons (.pr .len (.cons (.var 2) .nil)) .nil))) .nil)) .nil))) .nil) σ' M')
    (σ := [some (.ref r), some (.ref i), some (.ref M.length), some (.ref (M.length + 1))])
    (J := fun M' => ∃ (ys : List Int) (gs' : List Int) (t' : Int), Deck M' r g gs' m t' ∧ Fr M M' r g ∧ M'[M.length + 1]? = some (.lst (ys.map .int)) ∧ ys.length = xs.length ∧ ∀ y ∈ ys, y ∈ xs)
    (fun k M' => ∃ (zs ys : List Int) (gs' : List Int) (t' : Int), Deck M' r g gs' m t' ∧ Fr M M' r g ∧ M'[M.length]? = some (.lst (zs.map .int)) ∧ M'[M.length + 1]? = some (.lst (ys.map .int)) ∧ zs.length = k ∧ ys.length + k = xs.length ∧ (∀ y ∈ ys, y ∈ xs) ∧ ∀ z ∈ zs, z ∈ xs)
    (by
      rintro k M' ⟨zs, ys, gs', t', hd, hf, hp, hq, l1, l2, m1, m2⟩
      refine ⟨M' ++ [.lst []], ?_, ?_⟩
      · have := ne_nil (P := parsOf D) (C := callN D (n + 1)) (mk := M.length) (σ := [some (.ref r), some (.ref i), some (.ref M.length), some (.ref (M.length + 1))]) (j := 2) rfl hp pd_ints
        rw [this]
        cases zs with
        | nil => simp at l1
        | cons z zs => rfl
      · have lp := (List.getElem?_eq_some_iff.mp hp).1
        have lq := (List.getElem?_eq_some_iff.mp hq).1
        obtain ⟨v, gs2, t2, M2, hc, hd2, hs2, v0, v1⟩ := next_run n M.length (hd.app [.lst []]) (zs.length : Int) (by omega) (by omega)
        have hp2 : M2[M.length]? = some (.lst (zs.map .int)) := by
          rw [hs2.at_ _ (by omega) (by omega), List.getElem?_append_left lp]; exact hp
        have hq2 : M2[M.length + 1]? = some (.lst (ys.map .int)) := by
          rw [hs2.at_ _ (by omega) (by omega), List.getElem?_append_left lq]; exact hq
        have hv : v.toNat < zs.length := by omega
        have lM2 : M2.length = M'.length + 1 := by rw [hs2.len]; simp
        refine ⟨(M2.set M.length (.lst ((zs.eraseIdx v.toNat).map .int))).set (M.length + 1) (.lst ((ys ++ [zs[v.toNat]]).map .int)), ?_, zs.eraseIdx v.toNat, ys ++ [zs[v.toNat]], gs2, t2, (hd2.at (by omega) (by omega)).at (by omega) (by omega), ((hf.app _).same hs2 |>.set (by omega)).set (by omega), ?_, ?_, ?_, ?_, ?_, ?_⟩
        · apply xss_nx
          apply xs_ex
          apply ev_mt
          exact ev_var rfl
          exact recv_list (xs := ys.map .int) (by rw [List.getElem?_append_left lq]; exact hq) rfl
          apply evs_cons
          apply ev_mt
          exact ev_var rfl
          exact recv_list (xs := zs.map .int) (by rw [List.getElem?_append_left lp]; exact hp) rfl
          apply evs_cons
          apply ev_fn
          apply evs_cons
          exact ev_var rfl
          apply evs_cons
          apply ev_pr
          apply evs_cons
          exact ev_var rfl
          exact evs_nil
          refine len_ref (xs := zs.map .int) ?_
          rw [List.getElem?_append_left lp]; exact hp
          exact evs_nil
          rw [List.length_map]
          exact hc
          exact evs_nil
          refine popAt_run (y := .int zs[v.toNat]) hp2 v0 ?_
          simp [hv]
          exact evs_nil
          refine append_run (xs := ys.map .int) ?_ ?_ ?_
          rw [List.getElem?_set_ne (by omega)]; exact hq2
          simp [wOk, noref]
          rw [List.length_map]; unfold SZ; omega
          rw [erase_map, List.map_append]
          exact xss_nil
        · rw [List.getElem?_set_ne (by omega), List.getElem?_set_self (by omega)]
        · rw [List.getElem?_set_self (by rw [List.length_set]; omega)]
        · rw [List.length_eraseIdx_of_lt hv]; omega
        · rw [List.length_append, List.length_singleton]; omega
        · intro y hy
          rcases List.mem_append.mp hy with hy | hy
          · exact m1 y hy
          · rw [List.mem_singleton.mp hy]; exact m2 _ (List.getElem_mem hv)
        · exact fun z hz => m2 z (List.mem_of_mem_eraseIdx hz))
    (by
      rintro M' ⟨zs, ys, gs', t', hd, hf, hp, hq, l1, l2, m1, m2⟩
      have lq := (List.getElem?_eq_some_iff.mp hq).1
      refine ⟨M' ++ [.lst []], ?_, ys, gs', t', hd.app _, hf.app _, ?_, by omega, m1⟩
      · have := ne_nil (P := parsOf D) (C := callN D (n + 1)) (mk := M.length) (σ := [some (.ref r), some (.ref i), some (.ref M.length), some (.ref (M.length + 1))]) (j := 2) rfl hp pd_ints
        rw [this]
        cases zs with
        | nil => rfl
        | cons z zs => simp at l1
      · rw [List.getElem?_append_left lq]; exact hq)
    xs.length FUEL (M ++ [.lst (xs.map .int)] ++ [.lst []])
    ⟨xs, [], gs, t, (h.app _).app _, (Fr.refl.app _).app _, by rw [List.getElem?_append_left (by simp)]; exact at_end, by rw [← e1]; exact at_end, rfl, by simp, by simp, fun _ h => h⟩ (by unfold FUEL; omega)
  obtain ⟨M1, hw, ys, gs', t', hd, hf, hq, hl, hm⟩ := key
  refine ⟨ys, gs', t', M1.take M.length, ?_, hd.out h, hf.out, hl, hm⟩
  apply call_rt (d := d__law_mixed) rfl rfl rfl
  apply xss_nx
  apply xs_par
  apply evs_cons
  apply ev_pr
  repeat walk_at "pl"
  show (match items M (.ref i) with | some xs => alloc (.lst xs) M | none => _) = _
  simp only [items, hi]
  rfl
  repeat walk_at "pl"
  decide
  repeat walk_at "pl"
  rfl
  apply xss_nx
  apply xs_whl
  rw [e1]
  exact hw
  apply xss_rt
  repeat walk_at "pl"
  exact frz_lst hq (by omega) fun x hx => (pd_ints (n := 0) x hx).2.1
  rfl

theorem len_items {M : Mem} {x : V} {xs : List V} (h : items M x = some xs) : prim M .len [x] = .ok (.int xs.length) M := by
  simp only [prim, prim1, pLen, h]
theorem index_items {M : Mem} {x v : V} {xs : List V} {k : Int} (h : dkeys M x = none) (hi : items M x = some xs) (h0 : 0 ≤ k) (hv : xs[k.toNat]? = some v) : index M x (.int k) = some v := by
  have hk := (List.getElem?_eq_some_iff.mp hv).1
  simp only [index, h, hi, nIx]
  rw [if_pos h0, if_pos (by omega), Option.bind_some, hv]
theorem tuple_ref {M : Mem} {i : Nat} {xs : List V} (h : M[i]? = some (.lst xs)) : prim M .tuple [.ref i] = .ok (.tup xs) M := by
  simp only [prim, prim1, pTuple, litems, h]
/-- a list, live or not, of which one is picked -/
theorem pick_run (n mk : Nat) {M : Mem} {r g : Nat} {gs : List Int} {m t : Int} (h : Deck M r g gs m t) {x : V} {vs : List V} (hi : ∀ M', Same M M' r g → dkeys M' x = none ∧ items M' x = some vs) (h0 : vs ≠ []) (hz : vs.length < 1000000) (hf : ∀ v ∈ vs, ∀ M' : Mem, frz M' M.length RDN v = some v) :
    ∃ v gs' t' M', callN D (n + 2) mk "_law_pick" [.ref r, x] M = .ok v M' ∧ Deck M' r g gs' m t' ∧ Same M M' r g ∧ v ∈ vs := by
  have l0 : 0 < vs.length := List.length_pos_iff.mpr h0
  obtain ⟨k, gs', t', M', hc, hd, hs, k0, k1⟩ := next_run n M.length h (vs.length : Int) (by omega) (by omega)
  have hk : k.toNat < vs.length := by omega
  refine ⟨vs[k.toNat], gs', t', M', ?_, hd, hs, List.getElem_mem hk⟩
  apply call_rt (d := d__law_pick) rfl rfl rfl
  apply xss_rt
  apply xs_ret
  apply ev_idx
  repeat walk_at "pl"
  exact len_items (hi M Same.refl).2
  repeat walk_at "pl"
  exact hc
  exact index_items (hi M' hs).1 (hi M' hs).2 k0 (List.getElem?_eq_getElem hk)
  exact hf _ (List.getElem_mem hk) M'
  rw [← hs.len]; simp
abbrev stuff : List Int := [0, 999999, 1, 31, 999, 500000, 10, 2]
theorem things_run (n mk : Nat) {M : Mem} {r g : Nat} {gs : List Int} {m t : Int} (h : Deck M r g gs m t) {ps : List Nat} (hp : ∀ p ∈ ps, p < 8) (hz : ps.length ≤ 1000) :
    ∃ s gs' t' M', callN D (n + 3) mk "_law_things" [.ref r, st (ps.map fun p : Nat => (p : Int))] M = .ok (st s) M' ∧ Deck M' r g gs' m t' ∧ Same M M' r g ∧ s.length = ps.length ∧ Small s := by
  have e1 : M ++ [MO.lst (stuff.map .int)] = M ++ [MO.lst [.int 0, .int 999999, .int 1, .int 31, .int 999, .int 500000, .int 10, .int 2]] := rfl
  obtain ⟨ys, gs', t', M', hc, hd, hs, hl, hm⟩ := mixed_run n M.length (h.app [.lst (stuff.map .int)]) (xs := stuff) at_end (by decide)
  have hl8 : ys.length = 8 := hl
  have hf : Fr M M' r g := (Fr.refl.app _).same hs
  refine ⟨ps.map fun p => ys.getD p 0, gs', t', M'.take M.length, ?_, hd.out h, hf.out, by simp, ?_⟩
  · have hcomp := compL_enc (w := []) (t := .nm 3) (c := fun σ' M' => evc (parsOf D) (callN D (n + 2)) M.length .none σ' M') (e := fun σ' M' => ev (parsOf D) (callN D (n + 2)) M.length (.idx (.var 2) (.var 3)) σ' M')
      (σ := [some (.ref r), some (st (ps.map fun p : Nat => (p : Int))), some (.fl (ys.map .int)), none]) (M := M') (fun p : Nat => V.int (p : Int)) (fun _ => true) (fun p => .int (ys.getD p 0)) ps []
      (fun _ => rfl) (fun p hpp => ⟨[some (.ref r), some (st (ps.map fun p : Nat => (p : Int))), some (.fl (ys.map .int)), some (.int p)], asg_nm, fun acc => ⟨evc_none, fun _ => by
        apply ev_idx
        exact ev_var rfl
        exact ev_var rfl
        have := hp p hpp
        refine index_items rfl rfl (by omega) ?_
        rw [Int.toNat_natCast, List.getElem?_map, List.getElem?_eq_getElem (by omega), Option.map_some, getD_at (by omega)]⟩⟩) (by unfold SZ; simp; omega)
    apply call_rt (d := d__law_things) rfl rfl rfl
    apply xss_nx
    apply xs_set
    apply ev_fn
    apply evs_cons
    exact ev_var rfl
    apply evs_cons
    apply ev_lst
    repeat walk_at "pl"
    show 8 ≤ SZ
    decide
    exact evs_nil
    exact hc
    rfl
    apply xss_rt
    apply xs_ret
    apply ev_pr
    apply evs_cons
    apply ev_comp
    apply evi_of
    exact ev_var rfl
    exact srcOf_tup
    rw [List.map_map]
    exact hcomp
    exact evs_nil
    exact tuple_ref at_end
    rw [filter_true, List.nil_append]
    refine (frz_pd (n := 1) (pd_tup fun x hx => ?_)).trans ?_
    · obtain ⟨p, _, rfl⟩ := List.mem_map.mp hx; exact pd_int
    · rw [st, List.map_map]; rfl
    rw [List.take_append_of_le_length hf.le]
  · intro x hx
    obtain ⟨p, hpp, rfl⟩ := List.mem_map.mp hx
    have hb : ys.getD p 0 ∈ stuff := hm _ (getD_mem (by have := hp p hpp; omega))
    have : (ys.getD p 0).natAbs < 1000000 := by
      simp only [List.mem_cons, List.not_mem_nil, or_false] at hb
      omega
    exact Nat.lt_trans this (by decide +kernel)
end PL.K05

namespace PL.K05
theorem llst_ref {M : Mem} {q : Nat} {ys : List V} (h : M[q]? = some (.lst ys)) : llst M (.ref q) = some ys := by simp only [llst, h]
theorem extend_run {mk : Nat} {M : Mem} {p : Nat} {x : V} {xs ys : List V} (h : M[p]? = some (.lst xs)) (hy : llst M x = some ys) (hw : mk ≤ p) (hz : xs.length + ys.length ≤ SZ) : meth mk M .extend (.ref p) [x] = .ok .non (M.set p (.lst (xs ++ ys))) := by
  show mExtend mk M p x = _
  simp only [mExtend, h, hy, wOk, decide_eq_true hw, decide_eq_true hz, Bool.true_or, Bool.and_self, if_true]
theorem set_mid {M N : Mem} {o o' : MO} : (M ++ [o] ++ N).set M.length o' = M ++ [o'] ++ N := by simp
theorem at_mid {M N : Mem} {o : MO} : (M ++ [o] ++ N)[M.length]? = some o := by simp
theorem ranged0 {k : Nat} : ranged 0 ((k : Int) - 0).toNat = (List.range k).map fun i : Nat => V.int (i : Int) := by
  unfold ranged
  rw [show ((k : Int) - 0).toNat = k from by omega]
  simp
theorem rOk_nat {k : Nat} (h : k ≤ 1000000) : rOk (k : Int) = true := by
  unfold rOk
  rw [decide_eq_true (by omega), decide_eq_true (by omega)]; rfl
/-! ### pairs -/
theorem pairs_run (n mk : Nat) (M : Mem) {k : Nat} (hk : k ≤ 5) :
    ∃ l : List (Nat × Nat), callN D (n + 1) mk "_law_pairs" [.int k] M = .ok (.fl (l.map pe)) M ∧ bnd k l ∧ l.length ≤ k * k := by
  obtain ⟨σ1, M1, hl, l, N, i0, hσ, hM, hb, hz⟩ := forL_inv (w := []) (t := .nm 2) (b := fun σ' M' => xss (parsOf D) (callN D n) M.length (.cons (.ex (.mt .extend (.var 1) (.cons (.comp (.nm 3) (.rng2 (.bin .add (.var 2) (.cst (.int 1))) (.var 0)) .none (.tup (.cons (.var 2) (.cons (.var 3) .nil)))) .nil))) .nil) σ' M')
    (fun xs σ M' => ∃ (l : List (Nat × Nat)) (N : Mem) (u : Option V) , (σ = [some (.int k), some (.ref M.length), u, none]) ∧ M' = M ++ [.lst (l.map pe)] ++ N ∧ bnd k l ∧ l.length + xs.length * k ≤ k * k ∧ ∀ x ∈ xs, ∃ i : Nat, i < k ∧ x = .int i)
    ((List.range k).map fun i : Nat => V.int (i : Int)) [some (.int k), some (.ref M.length), none, none] (M ++ [.lst []])
    ⟨[], [], none, rfl, by simp, by simp [bnd], by simp, fun x hx => by
      obtain ⟨i, hi, rfl⟩ := List.mem_map.mp hx
      exact ⟨i, List.mem_range.mp hi, rfl⟩⟩
    (fun _ _ _ _ => rfl)
    (by
      rintro x xs σ M' ⟨l, N, u, rfl, rfl, hb, hz, hx⟩
      obtain ⟨i, hi, rfl⟩ := hx x (List.mem_cons_self ..)
      refine ⟨_, asg_nm, [some (.int k), some (.ref M.length), some (.int i), none], M ++ [.lst ((l ++ (List.range (k - (i + 1))).map fun j => (i, i + 1 + j)).map pe)] ++ (N ++ [.lst (((List.range (k - (i + 1))).map fun j => (i, i + 1 + j)).map pe)]), ?_, _, _, some (.int i), rfl, rfl, ?_, ?_, fun y hy => hx y (List.mem_cons_of_mem _ hy)⟩
      · have hcomp := compL_enc (w := []) (t := .nm 3) (c := fun σ' M' => evc (parsOf D) (callN D n) M.length .none σ' M') (e := fun σ' M' => ev (parsOf D) (callN D n) M.length (.tup (.cons (.var 2) (.cons (.var 3) .nil))) σ' M')
          (σ := [some (.int k), some (.ref M.length), some (.int i), none]) (M := M ++ [.lst (l.map pe)] ++ N) (fun j : Nat => V.int ((i : Int) + 1 + j)) (fun _ => true) (fun j => pe (i, i + 1 + j)) (List.range (k - (i + 1))) []
          (fun _ => rfl) (fun j hj => ⟨[some (.int k), some (.ref M.length), some (.int i), some (.int ((i : Int) + 1 + j))], asg_nm, fun acc => ⟨evc_none, fun _ => by
            refine (ev_tup (evs_cons (ev_var rfl) (evs_cons (ev_var rfl) evs_nil)) (by unfold SZ; simp)).trans ?_
            simp only [pe, Int.natCast_add, Int.natCast_one]⟩⟩) (by unfold SZ; simp; omega)
        rw [List.nil_append, filter_true] at hcomp
        apply xss_nx
        apply xs_ex
        apply ev_mt
        exact ev_var rfl
        exact recv_list at_mid rfl
        apply evs_cons
        apply ev_comp
        apply evi_rng2
        repeat walk_at "pl"
        rw [show ((i : Int) + 1) = ((i + 1 : Nat) : Int) from by omega, rOk_nat (by omega), rOk_nat (by omega)]; rfl
        have e : ranged ((i : Int) + 1) ((k : Int) - ((i : Int) + 1)).toNat = (List.range (k - (i + 1))).map fun j : Nat => V.int ((i : Int) + 1 + j) := by
          unfold ranged
          rw [show ((k : Int) - ((i : Int) + 1)).toNat = k - (i + 1) from by omega]
        rw [e]
        exact hcomp
        exact evs_nil
        refine extend_run (xs := l.map pe) ?_ (llst_ref at_end) (Nat.le_refl _) ?_
        · rw [List.append_assoc]; exact at_mid
        · simp only [List.length_map, List.length_range]
          have h1 : l.length ≤ k * k := by omega
          have h2 : k * k ≤ 25 := Nat.mul_le_mul hk hk
          unfold SZ; omega
        rw [List.append_assoc _ N, set_mid, List.map_append, List.map_map]
        exact xss_nil
      · intro p hp
        rcases List.mem_append.mp hp with hp | hp
        · exact hb p hp
        · obtain ⟨j, hj, rfl⟩ := List.mem_map.mp hp
          have := List.mem_range.mp hj
          exact ⟨hi, by show i + 1 + j < k; omega⟩
      · rw [List.length_cons, Nat.succ_mul] at hz
        simp only [List.length_append, List.length_map, List.length_range]
        omega)
  refine ⟨l, ?_, hb, by simpa using hz⟩
  subst hM
  apply call_rt (d := d__law_pairs) rfl rfl rfl
  apply xss_nx
  apply xs_set
  repeat walk_at "pl"
  decide
  repeat walk_at "pl"
  apply xss_nx
  apply xs_for
  apply evi_rng1
  exact ev_var rfl
  exact rOk_nat (by omega)
  rw [ranged0]
  exact hl
  apply xss_rt
  apply xs_ret
  subst hσ
  exact ev_var rfl
  refine frz_lst at_mid (Nat.le_refl _) fun x hx => ?_
  obtain ⟨p, _, rfl⟩ := List.mem_map.mp hx
  rfl
  rw [List.append_assoc]; exact take_app
end PL.K05

namespace PL.K05
/-! ### the deeds -/
theorem rept_one {α : Type} {b : Bool} {x : α} : rept (if b = true then (1 : Int) else 0).toNat [x] = if b = true then [x] else [] := by
  cases b <;> rfl
theorem mul_lst {M : Mem} {x : V} {b : Bool} {i : Nat} (h : M[i]? = some (.lst [x])) : binop M .mul (.ref i) (.int (if b = true then 1 else 0)) = .ok (.ref M.length) (M ++ [.lst (if b = true then [x] else [])]) := by
  simp only [binop, mulV, llst, h]
  rw [if_pos (by cases b <;> simp), rept_one]; rfl
theorem int_b {M : Mem} {b : Bool} : prim M .int [.bl b] = .ok (.int (if b = true then 1 else 0)) M := rfl
theorem if_pe {b : Bool} {p : Nat × Nat} : (if b = true then [pe p] else []) = (if b = true then [p] else []).map pe := by cases b <;> rfl
theorem if_len {b : Bool} {p : Nat × Nat} : (if b = true then [p] else []).length ≤ 1 := by cases b <;> simp
theorem mem_if {b : Bool} {p q : Nat × Nat} (h : q ∈ (if b = true then [p] else [])) : q = p := by cases b <;> simp at h; exact h
theorem plain_pes {l : List (Nat × Nat)} : ∀ x ∈ l.map pe, plain x = true := fun x hx => by
  obtain ⟨p, _, rfl⟩ := List.mem_map.mp hx; rfl
theorem roll1 {P : String → Option (List String)} {C : Orc} {mk : Nat} {σ : Env} {M : Mem} {v : Int} (hv : lk σ 7 = some (.int v)) : ev P C mk (.bop false (.cons (.cmp .lt (.var 7) (.cst (.int 4))) (.cons (.cmp .eq (.var 7) (.cst (.int 8))) .nil))) σ M = .ok (.bl (decide (v < 4) || v == 8)) M := by
  apply ev_bop
  apply evb_cons
  exact ev_cmp (ev_var hv) ev_cst rfl
  cases c : decide (v < 4) with
  | true => exact if_neg (by decide)
  | false =>
    refine (if_pos rfl).trans ?_
    apply evb_one
    rw [Bool.false_or]
    exact ev_cmp (ev_var hv) ev_cst eq_int
theorem roll2 {P : String → Option (List String)} {C : Orc} {mk : Nat} {σ : Env} {M : Mem} {v : Int} (hv : lk σ 7 = some (.int v)) : ev P C mk (.chn .le .lt (.cst (.int 4)) (.var 7) (.cst (.int 9))) σ M = .ok (.bl (decide (4 ≤ v) && decide (v < 9))) M := by
  by_cases c : 4 ≤ v
  · rw [decide_eq_true c, Bool.true_and]
    exact ev_chnT ev_cst (ev_var hv) (congrArg some (decide_eq_true c)) ev_cst rfl
  · rw [decide_eq_false c, Bool.false_and]
    exact ev_chnF ev_cst (ev_var hv) (congrArg some (decide_eq_false c))
theorem deed_run (n mk : Nat) {M : Mem} {r g : Nat} {gs : List Int} {m t : Int} (h : Deck M r g gs m t) {k : Nat} (hk : k ≤ 5) (hk1 : 2 ≤ k) :
    ∃ al ul a b gs' t' M', callN D (n + 2) mk "_law_deed" [.ref r, .int k] M = .ok (dd al ul a b) M' ∧ Deck M' r g gs' m t' ∧ Same M M' r g ∧ bnd k al ∧ bnd k ul ∧ a < k ∧ b < k ∧ al.length ≤ 1000 ∧ ul.length ≤ 1000 := by
  have lt := h.lt
  have e1 : (M ++ [MO.lst []]).length = M.length + 1 := by simp
  obtain ⟨l, hp, hb, hz⟩ := pairs_run n M.length (M ++ [.lst []] ++ [.lst []]) hk
  have hz' : l.length ≤ 25 := Nat.le_trans hz (Nat.mul_le_mul hk hk)
  obtain ⟨σ1, M1, hl, al, ul, gs1, t1, u, w, hσ, hd1, hf1, ha, hu, ba, bu, za, zu, _⟩ := forL_inv (w := []) (t := .nm 2) (b := fun σ' M' => xss (parsOf D) (callN D (n + 1)) M.length (.cons (.set (.nm 7) (.fn "_law_next" (.cons (.var 0) (.cons (.cst (.int 24)) .nil))))
    (.cons (.ex (.mt .extend (.var 5) (.cons (.bin .mul (.lst (.cons (.var 2) .nil)) (.pr .int (.cons (.bop false (.cons (.cmp .lt (.var 7) (.cst (.int 4))) (.cons (.cmp .eq (.var 7) (.cst (.int 8))) .nil))) .nil))) .nil)))
    (.cons (.ex (.mt .extend (.var 6) (.cons (.bin .mul (.lst (.cons (.var 2) .nil)) (.pr .int (.cons (.chn .le .lt (.cst (.int 4)) (.var 7) (.cst (.int 9))) .nil))) .nil)))
    .nil))) σ' M')
    (fun xs σ M' => ∃ (al ul : List (Nat × Nat)) (gs' : List Int) (t' : Int) (u w : Option V), (σ = [some (.ref r), some (.int k), u, none, none, some (.ref M.length), some (.ref (M.length + 1)), w]) ∧ Deck M' r g gs' m t' ∧ Fr M M' r g ∧
      M'[M.length]? = some (.lst (al.map pe)) ∧ M'[M.length + 1]? = some (.lst (ul.map pe)) ∧ bnd k al ∧ bnd k ul ∧ al.length + xs.length ≤ 25 ∧ ul.length + xs.length ≤ 25 ∧ ∃ ys : List (Nat × Nat), xs = ys.map pe ∧ bnd k ys)
    (l.map pe) [some (.ref r), some (.int k), none, none, none, some (.ref M.length), some (.ref (M.length + 1)), none] (M ++ [.lst []] ++ [.lst []])
    ⟨[], [], gs, t, none, none, rfl, (h.app _).app _, (Fr.refl.app _).app _, at_mid, by rw [← e1]; exact at_end, by simp [bnd], by simp [bnd], by simpa using hz', by simpa using hz', l, rfl, hb⟩
    (fun _ _ _ _ => rfl)
    (by
      rintro x xs σ M' ⟨al, ul, gs', t', u, w, rfl, hd, hf, ha, hu, ba, bu, za, zu, ys, hys, by_⟩
      cases ys with
      | nil => simp at hys
      | cons p ys =>
        rw [List.map_cons, List.cons.injEq] at hys
        obtain ⟨rfl, rfl⟩ := hys
        rw [List.length_cons] at za zu
        obtain ⟨v, gs2, t2, M2, hc, hd2, hs2, v0, v1⟩ := next_run n M.length hd 24 (by omega) (by omega)
        have lp := (List.getElem?_eq_some_iff.mp ha).1
        have lq := (List.getElem?_eq_some_iff.mp hu).1
        have ha2 : M2[M.length]? = some (.lst (al.map pe)) := by rw [hs2.at_ _ (by omega) (by omega)]; exact ha
        have hu2 : M2[M.length + 1]? = some (.lst (ul.map pe)) := by rw [hs2.at_ _ (by omega) (by omega)]; exact hu
        have l2 : M2.length = M'.length := hs2.len
        let c1 : Bool := decide (v < 4) || v == 8
        let c2 : Bool := decide (4 ≤ v) && decide (v < 9)
        let A : Mem := M2 ++ [.lst [pe p]] ++ [.lst (if c1 = true then [pe p] else [])]
        let A1 : Mem := A.set M.length (.lst (al.map pe ++ if c1 = true then [pe p] else []))
        let B : Mem := A1 ++ [.lst [pe p]] ++ [.lst (if c2 = true then [pe p] else [])]
        let B1 : Mem := B.set (M.length + 1) (.lst (ul.map pe ++ if c2 = true then [pe p] else []))
        have hA1 : A1[M.length + 1]? = some (.lst (ul.map pe)) := by
          show (A.set M.length _)[M.length + 1]? = _
          rw [List.getElem?_set_ne (by omega)]
          show (M2 ++ [_] ++ [_])[M.length + 1]? = _
          rw [List.append_assoc, List.getElem?_append_left (by omega)]; exact hu2
        have hA2 : A1[M.length]? = some (.lst (al.map pe ++ if c1 = true then [pe p] else [])) := by
          show (A.set M.length _)[M.length]? = _
          rw [List.getElem?_set_self (by show M.length < (M2 ++ [_] ++ [_]).length; rw [List.append_assoc, List.length_append]; omega)]
        have lA1 : A1.length = M2.length + 2 := by show (A.set M.length _).length = _; rw [List.length_set]; show (M2 ++ [_] ++ [_]).length = _; simp
        have hdB : Deck B1 r g gs2 m t2 := ((((((hd2.app _).app _).at (by omega) (by omega)).app _).app _).at (by omega) (by omega))
        have hfB : Fr M B1 r g := ((((((hf.same hs2).app _).app _).set (Nat.le_refl _)).app _).app _).set (by omega)
        have lB : B.length = A1.length + 2 := by show (A1 ++ [_] ++ [_]).length = _; simp
        refine ⟨_, asg_nm, [some (.ref r), some (.int k), some (pe p), none, none, some (.ref M.length), some (.ref (M.length + 1)), some (.int v)], B1, ?_, al ++ (if c1 = true then [p] else []), ul ++ (if c2 = true then [p] else []), gs2, t2, _, _, rfl, hdB, hfB, ?_, ?_, ?_, ?_, ?_, ?_, ys, rfl, fun q hq => by_ q (List.mem_cons_of_mem _ hq)⟩
        · apply xss_nx
          apply xs_set
          apply ev_fn
          repeat walk_at "pl"
          exact hc
          repeat walk_at "pl"
          apply xss_nx
          apply xs_ex
          apply ev_mt
          exact ev_var rfl
          exact recv_list ha2 rfl
          apply evs_cons
          apply ev_bin
          apply ev_lst
          repeat walk_at "pl"
          show 1 ≤ SZ
          decide
          apply ev_pr
          apply evs_cons
          exact roll1 rfl
          exact evs_nil
          exact int_b
          exact mul_lst at_end
          exact evs_nil
          refine extend_run (xs := al.map pe) ?_ (llst_ref at_end) (Nat.le_refl _) ?_
          · rw [List.append_assoc, List.getElem?_append_left (by omega)]; exact ha2
          · have := if_len (b := decide (v < 4) || v == 8) (p := p)
            rw [if_pe, List.length_map, List.length_map]; unfold SZ; omega
          apply xss_nx
          apply xs_ex
          apply ev_mt
          exact ev_var rfl
          exact recv_list hA1 rfl
          apply evs_cons
          apply ev_bin
          apply ev_lst
          repeat walk_at "pl"
          show 1 ≤ SZ
          decide
          apply ev_pr
          apply evs_cons
          exact roll2 rfl
          exact evs_nil
          exact int_b
          exact mul_lst at_end
          exact evs_nil
          refine extend_run (xs := ul.map pe) ?_ (llst_ref at_end) (by omega) ?_
          · rw [List.append_assoc, List.getElem?_append_left (by show M.length + 1 < A1.length; omega)]; exact hA1
          · have := if_len (b := decide (4 ≤ v) && decide (v < 9)) (p := p)
            rw [if_pe, List.length_map, List.length_map]; unfold SZ; omega
          exact xss_nil
        · show (B.set (M.length + 1) _)[M.length]? = _
          rw [List.getElem?_set_ne (by omega)]
          show (A1 ++ [_] ++ [_])[M.length]? = _
          rw [List.append_assoc, List.getElem?_append_left (by omega), hA2, List.map_append, ← if_pe]
        · show (B.set (M.length + 1) _)[M.length + 1]? = _
          rw [List.getElem?_set_self (by omega), List.map_append, ← if_pe]
        · intro q hq
          rcases List.mem_append.mp hq with hq | hq
          · exact ba q hq
          · rw [mem_if hq]; exact by_ p (List.mem_cons_self ..)
        · intro q hq
          rcases List.mem_append.mp hq with hq | hq
          · exact bu q hq
          · rw [mem_if hq]; exact by_ p (List.mem_cons_self ..)
        · have := if_len (b := c1) (p := p); rw [List.length_append]; omega
        · have := if_len (b := c2) (p := p); rw [List.length_append]; omega)
  obtain ⟨v, gs2, t2, M2, hc, hd2, hs2, v0, v1⟩ := next_run n M.length hd1 (k : Int) (by omega) (by omega)
  obtain ⟨v', gs3, t3, M3, hc3, hd3, hs3, v0', v1'⟩ := next_run n M.length hd2 ((k : Int) - 1) (by omega) (by omega)
  have ha3 : M3[M.length]? = some (.lst (al.map pe)) := by
    rw [hs3.at_ _ (by omega) (by omega), hs2.at_ _ (by omega) (by omega)]; exact ha
  have hu3 : M3[M.length + 1]? = some (.lst (ul.map pe)) := by
    rw [hs3.at_ _ (by omega) (by omega), hs2.at_ _ (by omega) (by omega)]; exact hu
  have w0 := Int.emod_nonneg (v + 1 + v') (b := (k : Int)) (by omega)
  have w1 := Int.emod_lt_of_pos (v + 1 + v') (b := (k : Int)) (by omega)
  refine ⟨al, ul, v.toNat, ((v + 1 + v') % (k : Int)).toNat, gs3, t3, M3.take M.length, ?_, hd3.out h, ((hf1.same hs2).same hs3).out, ba, bu, by omega, by omega, by omega, by omega⟩
  subst hσ
  apply call_rt (d := d__law_deed) rfl rfl rfl
  apply xss_nx
  apply xs_par
  apply evs_cons
  apply ev_lst
  repeat walk_at "pl"
  decide
  repeat walk_at "pl"
  decide
  repeat walk_at "pl"
  rfl
  apply xss_nx
  apply xs_for
  apply evi_of
  apply ev_fn
  repeat walk_at "pl"
  exact hp
  rfl
  rw [e1]
  exact hl
  apply xss_nx
  apply xs_set
  apply ev_fn
  repeat walk_at "pl"
  exact hc
  repeat walk_at "pl"
  apply xss_nx
  apply xs_set
  apply ev_bin
  apply ev_pr
  apply evs_cons
  apply ev_bin
  repeat walk_at "pl"
  exact hc3
  repeat walk_at "pl"
  refine mod_i ?_
  omega
  repeat walk_at "pl"
  apply xss_rt
  apply xs_ret
  apply ev_tup
  apply evs_cons
  apply ev_pr
  repeat walk_at "pl"
  exact tuple_ref ha3
  apply evs_cons
  apply ev_pr
  repeat walk_at "pl"
  exact tuple_ref hu3
  repeat walk_at "pl"
  show 4 ≤ SZ
  decide
  have e : dd al ul v.toNat ((v + 1 + v') % (k : Int)).toNat = V.tup [prs al, prs ul, .int v, .int ((v + 1 + v') % (k : Int))] := by
    simp only [dd]
    rw [Int.toNat_of_nonneg v0, Int.toNat_of_nonneg w0]
  exact (frz_pd (n := 3) (e ▸ pd_dd)).trans (congrArg some e.symm)
  rfl
end PL.K05

namespace PL.K05
theorem erase_mapf {α β : Type} {f : α → β} {zs : List α} {i : Nat} : (zs.map f).eraseIdx i = (zs.eraseIdx i).map f := by
  induction zs generalizing i with
  | nil => rfl
  | cons z zs ih => cases i with
    | zero => rfl
    | succ i => simp only [List.map_cons, List.eraseIdx_cons_succ, ih]
abbrev pt (ps : List Nat) : V := st (ps.map fun p : Nat => (p : Int))
theorem at_nat {M : Mem} {s : List Int} {i : Nat} (h : i < s.length) : index M (st s) (.int (i : Int)) = some (.int (s.getD i 0)) := idx_st' h
/-- pattern[pair[0]] against pattern[pair[1]] -/
theorem tell {P : String → Option (List String)} {C : Orc} {mk : Nat} {σ : Env} {M : Mem} {s : List Int} {p : Nat × Nat} (h2 : lk σ 2 = some (st s)) (h7 : lk σ 7 = some (pe p)) (l1 : p.1 < s.length) (l2 : p.2 < s.length) :
    ev P C mk (.cmp .eq (.idx (.var 2) (.idx (.var 7) (.cst (.int 0)))) (.idx (.var 2) (.idx (.var 7) (.cst (.int 1))))) σ M = .ok (.bl (s.getD p.1 0 == s.getD p.2 0)) M ∧
    ev P C mk (.cmp .ne (.idx (.var 2) (.idx (.var 7) (.cst (.int 0)))) (.idx (.var 2) (.idx (.var 7) (.cst (.int 1))))) σ M = .ok (.bl (s.getD p.1 0 != s.getD p.2 0)) M := by
  have a : ev P C mk (.idx (.var 2) (.idx (.var 7) (.cst (.int 0)))) σ M = .ok (.int (s.getD p.1 0)) M := ev_idx (ev_var h2) (ev_idx (ev_var h7) ev_cst rfl) (idx_st' l1)
  have b : ev P C mk (.idx (.var 2) (.idx (.var 7) (.cst (.int 1)))) σ M = .ok (.int (s.getD p.2 0)) M := ev_idx (ev_var h2) (ev_idx (ev_var h7) ev_cst rfl) (idx_st' l2)
  exact ⟨ev_cmp a b eq_int, ev_cmp a b ne_int⟩
theorem frz_old {M : Mem} {k i : Nat} (h : i < k) : frz M k RDN (.ref i) = some (.ref i) := by
  show frz M k (5 + 1) (.ref i) = _
  simp only [frz, frzW, if_pos h]
abbrev popS : S := .iff (.cmp .ne (.var 5) (.lst .nil)) (.cons (.ex (.mt .popAt (.var 5) (.cons (.fn "_law_next" (.cons (.var 0) (.cons (.pr .len (.cons (.var 5) .nil)) .nil))) .nil))) .nil) .nil
theorem bnd_erase {k i : Nat} {l : List (Nat × Nat)} (h : bnd k l) : bnd k (l.eraseIdx i) := fun p hp => h p (List.mem_of_mem_eraseIdx hp)
theorem told_deed_run (n mk : Nat) {M : Mem} {r g : Nat} {gs : List Int} {m t : Int} (h : Deck M r g gs m t) {k : Nat} (hk : k ≤ 5) (hk1 : 2 ≤ k) {s : List Int} (hs : s.length = k) :
    ∃ al ul a b gs' t' M', callN D (n + 3) mk "_law_told_deed" [.ref r, .int k, st s] M = .ok (dd al ul a b) M' ∧ Deck M' r g gs' m t' ∧ Same M M' r g ∧ bnd k al ∧ bnd k ul ∧ a < k ∧ b < k ∧ al.length ≤ 1000 ∧ ul.length ≤ 1000 := by
  have lt := h.lt
  obtain ⟨l, hp, hb, hz⟩ := pairs_run (n + 1) M.length M hk
  have hz' : l.length ≤ 25 := Nat.le_trans hz (Nat.mul_le_mul hk hk)
  let al := l.filter fun p => s.getD p.1 0 == s.getD p.2 0
  have ba : bnd k al := fun p hp => hb p (List.mem_filter.mp hp).1
  have za : al.length ≤ 25 := Nat.le_trans (List.length_filter_le _ _) hz'
  obtain ⟨l2, hp2, hb2, hz2⟩ := pairs_run (n + 1) M.length (M ++ [.lst (al.map pe)]) hk
  have hz2' : l2.length ≤ 25 := Nat.le_trans hz2 (Nat.mul_le_mul hk hk)
  let ul := l2.filter fun p => s.getD p.1 0 != s.getD p.2 0
  have bu : bnd k ul := fun p hp => hb2 p (List.mem_filter.mp hp).1
  have zu : ul.length ≤ 25 := Nat.le_trans (List.length_filter_le _ _) hz2'
  let M4 : Mem := M ++ [.lst (al.map pe)] ++ [.lst (ul.map pe)] ++ [.lst []] ++ [.lst [.ref M.length, .ref (M.length + 1), .ref (M.length + 2)]]
  have l4 : M4.length = M.length + 4 := by show (M ++ [_] ++ [_] ++ [_] ++ [_]).length = _; simp
  have a0 : M4[M.length]? = some (.lst (al.map pe)) := by show (M ++ [_] ++ [_] ++ [_] ++ [_])[M.length]? = _; simp
  have a1 : M4[M.length + 1]? = some (.lst (ul.map pe)) := by show (M ++ [_] ++ [_] ++ [_] ++ [_])[M.length + 1]? = _; simp
  have a2 : M4[M.length + 2]? = some (.lst []) := by show (M ++ [_] ++ [_] ++ [_] ++ [_])[M.length + 2]? = _; simp
  have a3 : M4[M.length + 3]? = some (.lst [.ref M.length, .ref (M.length + 1), .ref (M.length + 2)]) := by show (M ++ [_] ++ [_] ++ [_] ++ [_])[M.length + 3]? = _; simp
  have h4 : Deck M4 r g gs m t := (((h.app _).app _).app _).app _
  have f4 : Fr M M4 r g := (((Fr.refl.app _).app _).app _).app _
  obtain ⟨v, gs5, t5, M5, hc5, hd5, hs5, hv⟩ := pick_run n M.length h4 (x := .ref (M.length + 3)) (vs := [.ref M.length, .ref (M.length + 1), .ref (M.length + 2)])
    (fun M' hM => by
      have : M'[M.length + 3]? = _ := (hM.at_ _ (by omega) (by omega)).trans a3
      exact ⟨by simp only [dkeys, this], by simp only [items, this]⟩) (by simp) (by simp) (fun v hv M' => by
      simp only [List.mem_cons, List.not_mem_nil, or_false] at hv
      rcases hv with rfl | rfl | rfl <;> exact frz_old (by omega))
  have f5 : Fr M M5 r g := f4.same hs5
  have b0 : M5[M.length]? = some (.lst (al.map pe)) := (hs5.at_ _ (by omega) (by omega)).trans a0
  have b1 : M5[M.length + 1]? = some (.lst (ul.map pe)) := (hs5.at_ _ (by omega) (by omega)).trans a1
  have b2 : M5[M.length + 2]? = some (.lst []) := (hs5.at_ _ (by omega) (by omega)).trans a2
  have l5 : M5.length = M.length + 4 := hs5.len.trans l4
  obtain ⟨z, zs, rfl, z1, z2, z3, z4⟩ : ∃ (z : Nat) (zs : List (Nat × Nat)), v = .ref z ∧ M.length ≤ z ∧ M5[z]? = some (.lst (zs.map pe)) ∧ bnd k zs ∧ zs.length ≤ 25 := by
    simp only [List.mem_cons, List.not_mem_nil, or_false] at hv
    rcases hv with rfl | rfl | rfl
    · exact ⟨_, al, rfl, by omega, b0, ba, za⟩
    · exact ⟨_, ul, rfl, by omega, b1, bu, zu⟩
    · exact ⟨_, [], rfl, by omega, b2, by simp [bnd], by simp⟩
  have lz := (List.getElem?_eq_some_iff.mp z2).1
  have key : ∃ (M6 : Mem) (al' ul' : List (Nat × Nat)) (gs6 : List Int) (t6 : Int), xs (parsOf D) (callN D (n + 2)) M.length popS [some (.ref r), some (.int k), some (st s), some (.ref M.length), some (.ref (M.length + 1)), some (.ref z), none, none] M5 = .nx [some (.ref r), some (.int k), some (st s), some (.ref M.length), some (.ref (M.length + 1)), some (.ref z), none, none] M6 ∧
      Deck M6 r g gs6 m t6 ∧ Fr M M6 r g ∧ M6[M.length]? = some (.lst (al'.map pe)) ∧ M6[M.length + 1]? = some (.lst (ul'.map pe)) ∧ bnd k al' ∧ bnd k ul' ∧ al'.length ≤ 25 ∧ ul'.length ≤ 25 := by
    have hne := ne_nil (P := parsOf D) (C := callN D (n + 2)) (mk := M.length) (σ := [some (.ref r), some (.int k), some (st s), some (.ref M.length), some (.ref (M.length + 1)), some (.ref z), none, none]) (j := 5) rfl z2 (fun x hx => by
      obtain ⟨p, _, rfl⟩ := List.mem_map.mp hx
      exact pd_tup fun y hy => by
        simp only [List.mem_cons, List.not_mem_nil, or_false] at hy
        rcases hy with rfl | rfl <;> exact pd_int)
    cases zs with
    | nil =>
      refine ⟨M5 ++ [.lst []], al, ul, gs5, t5, ?_, hd5.app _, f5.app _, by rw [List.getElem?_append_left (by omega)]; exact b0, by rw [List.getElem?_append_left (by omega)]; exact b1, ba, bu, za, zu⟩
      apply xs_iff (q := false)
      exact hne
      refine (if_neg (by decide)).trans ?_
      repeat walk_at "pl"
    | cons z0 zs0 =>
      obtain ⟨v, gs6, t6, M6, hc6, hd6, hs6, v0, v1⟩ := next_run (n + 1) M.length (hd5.app [.lst []]) (((z0 :: zs0).map pe).length : Int) (by simp; omega) (by rw [List.length_map]; omega)
      rw [List.length_map] at v1
      have hv : v.toNat < (z0 :: zs0).length := by omega
      have c0 : M6[M.length]? = some (.lst (al.map pe)) := by rw [hs6.at_ _ (by omega) (by omega), List.getElem?_append_left (by omega)]; exact b0
      have c1 : M6[M.length + 1]? = some (.lst (ul.map pe)) := by rw [hs6.at_ _ (by omega) (by omega), List.getElem?_append_left (by omega)]; exact b1
      have cz : M6[z]? = some (.lst ((z0 :: zs0).map pe)) := by rw [hs6.at_ _ (by omega) (by omega), List.getElem?_append_left (by omega)]; exact z2
      have l6 : M6.length = M.length + 5 := by rw [hs6.len, List.length_append]; simp; omega
      have ze : ((z0 :: zs0).eraseIdx v.toNat).length ≤ 25 := Nat.le_trans (List.length_eraseIdx_le _ _) z4
      have run : xs (parsOf D) (callN D (n + 2)) M.length popS [some (.ref r), some (.int k), some (st s), some (.ref M.length), some (.ref (M.length + 1)), some (.ref z), none, none] M5 = .nx [some (.ref r), some (.int k), some (st s), some (.ref M.length), some (.ref (M.length + 1)), some (.ref z), none, none] (M6.set z (.lst (((z0 :: zs0).eraseIdx v.toNat).map pe))) := by
        apply xs_iff (q := true)
        exact hne
        refine (if_pos rfl).trans ?_
        apply xss_nx
        apply xs_ex
        apply ev_mt
        exact ev_var rfl
        exact recv_list (xs := (z0 :: zs0).map pe) (by rw [List.getElem?_append_left (by omega)]; exact z2) rfl
        apply evs_cons
        apply ev_fn
        apply evs_cons
        exact ev_var rfl
        apply evs_cons
        apply ev_pr
        repeat walk_at "pl"
        refine len_ref (xs := (z0 :: zs0).map pe) ?_
        rw [List.getElem?_append_left (by omega)]; exact z2
        exact evs_nil
        exact hc6
        exact evs_nil
        refine popAt_run (y := pe ((z0 :: zs0)[v.toNat])) cz v0 ?_
        rw [List.getElem?_map, List.getElem?_eq_getElem hv, Option.map_some]
        rw [erase_mapf]
        exact xss_nil
      have hd7 := hd6.at (p := z) (o := .lst (((z0 :: zs0).eraseIdx v.toNat).map pe)) (by omega) (by omega)
      have f7 : Fr M (M6.set z (.lst (((z0 :: zs0).eraseIdx v.toNat).map pe))) r g := ((f5.app _).same hs6).set z1
      by_cases e0 : z = M.length
      · subst e0
        exact ⟨_, (z0 :: zs0).eraseIdx v.toNat, ul, gs6, t6, run, hd7, f7, by rw [List.getElem?_set_self (by omega)], by rw [List.getElem?_set_ne (by omega)]; exact c1, bnd_erase z3, bu, ze, zu⟩
      · by_cases e1 : z = M.length + 1
        · subst e1
          exact ⟨_, al, (z0 :: zs0).eraseIdx v.toNat, gs6, t6, run, hd7, f7, by rw [List.getElem?_set_ne (by omega)]; exact c0, by rw [List.getElem?_set_self (by omega)], ba, bnd_erase z3, za, ze⟩
        · exact ⟨_, al, ul, gs6, t6, run, hd7, f7, by rw [List.getElem?_set_ne (by omega)]; exact c0, by rw [List.getElem?_set_ne (by omega)]; exact c1, ba, bu, za, zu⟩
  obtain ⟨M6, al', ul', gs6, t6, hx6, hd6, f6, c0, c1, ba', bu', za', zu'⟩ := key
  obtain ⟨w, gs7, t7, M7, hc7, hd7, hs7, w0, w1⟩ := next_run (n + 1) M.length hd6 (k : Int) (by omega) (by omega)
  obtain ⟨w', gs8, t8, M8, hc8, hd8, hs8, w0', w1'⟩ := next_run (n + 1) M.length hd7 ((k : Int) - 1) (by omega) (by omega)
  have d0 : M7[M.length]? = some (.lst (al'.map pe)) := by rw [hs7.at_ _ (by omega) (by omega)]; exact c0
  have d1 : M7[M.length + 1]? = some (.lst (ul'.map pe)) := by rw [hs7.at_ _ (by omega) (by omega)]; exact c1
  have u0 := Int.emod_nonneg (w + 1 + w') (b := (k : Int)) (by omega)
  have u1 := Int.emod_lt_of_pos (w + 1 + w') (b := (k : Int)) (by omega)
  have lk8 : ∀ {M' : Mem} (p : Nat × Nat → Bool) (e : E) (ys : List (Nat × Nat)) (x3 : Option V), ys.length ≤ 25 → bnd k ys → (∀ q ∈ ys, ∀ M'', ev (parsOf D) (callN D (n + 2)) M.length e [some (.ref r), some (.int k), some (st s), x3, none, none, none, some (pe q)] M'' = .ok (.bl (p q)) M'') →
      compL M'.length [] (.nm 7) (fun σ' M' => evc (parsOf D) (callN D (n + 2)) M.length (.some e) σ' M') (fun σ' M' => ev (parsOf D) (callN D (n + 2)) M.length (.var 7) σ' M') [some (.ref r), some (.int k), some (st s), x3, none, none, none, none] (ys.map pe) (M' ++ [.lst []]) = .ok () (M' ++ [.lst ((ys.filter p).map pe)]) := by
    intro M' p e ys x3 zz bb hh
    have := compL_enc (w := []) (t := .nm 7) (c := fun σ' M' => evc (parsOf D) (callN D (n + 2)) M.length (.some e) σ' M') (e := fun σ' M' => ev (parsOf D) (callN D (n + 2)) M.length (.var 7) σ' M') (σ := [some (.ref r), some (.int k), some (st s), x3, none, none, none, none]) (M := M') pe p pe ys []
      (fun _ => rfl) (fun q hq => ⟨[some (.ref r), some (.int k), some (st s), x3, none, none, none, some (pe q)], asg_nm, fun acc => ⟨evc_some (hh q hq _), fun _ => ev_var rfl⟩⟩) (by unfold SZ; simp; omega)
    rw [List.nil_append] at this
    exact this
  refine ⟨al', ul', w.toNat, ((w + 1 + w') % (k : Int)).toNat, gs8, t8, M8.take M.length, ?_, hd8.out h, ((f6.same hs7).same hs8).out, ba', bu', by omega, by omega, by omega, by omega⟩
  apply call_rt (d := d__law_told_deed) rfl rfl rfl
  apply xss_nx
  apply xs_set
  apply ev_comp
  apply evi_of
  apply ev_fn
  repeat walk_at "pl"
  exact hp
  rfl
  refine lk8 (fun p => s.getD p.1 0 == s.getD p.2 0) _ l none hz' hb ?_
  · intro q hq M''
    have := hb q hq
    exact (tell rfl rfl (by omega) (by omega)).1
  repeat walk_at "pl"
  apply xss_nx
  apply xs_set
  apply ev_comp
  apply evi_of
  apply ev_fn
  repeat walk_at "pl"
  exact hp2
  rfl
  refine lk8 (fun p => s.getD p.1 0 != s.getD p.2 0) _ l2 _ hz2' hb2 ?_
  · intro q hq M''
    have := hb2 q hq
    exact (tell rfl rfl (by omega) (by omega)).2
  repeat walk_at "pl"
  apply xss_nx
  apply xs_set
  apply ev_fn
  apply evs_cons
  exact ev_var rfl
  apply evs_cons
  apply ev_lst
  repeat walk_at "pl"
  decide
  repeat walk_at "pl"
  show 3 ≤ SZ
  decide
  exact evs_nil
  refine Eq.trans ?_ hc5
  · simp only [List.length_append, List.length_cons, List.length_nil]
    rfl
  repeat walk_at "pl"
  apply xss_nx
  refine Eq.trans ?_ hx6
  · simp only [List.length_append, List.length_cons, List.length_nil]
    rfl
  apply xss_nx
  apply xs_set
  apply ev_fn
  repeat walk_at "pl"
  exact hc7
  repeat walk_at "pl"
  apply xss_rt
  apply xs_ret
  apply ev_tup
  apply evs_cons
  apply ev_pr
  repeat walk_at "pl"
  exact tuple_ref d0
  apply evs_cons
  apply ev_pr
  repeat walk_at "pl"
  exact tuple_ref d1
  apply evs_cons
  exact ev_var rfl
  apply evs_cons
  apply ev_bin
  apply ev_pr
  apply evs_cons
  apply ev_bin
  repeat walk_at "pl"
  exact hc8
  repeat walk_at "pl"
  refine mod_i ?_
  omega
  exact evs_nil
  show 4 ≤ SZ
  decide
  have e : dd al' ul' w.toNat ((w + 1 + w') % (k : Int)).toNat = V.tup [prs al', prs ul', .int w, .int ((w + 1 + w') % (k : Int))] := by
    simp only [dd]
    rw [Int.toNat_of_nonneg w0, Int.toNat_of_nonneg u0]
  exact (frz_pd (n := 3) (e ▸ pd_dd)).trans (congrArg some e.symm)
  rfl
end PL.K05

namespace PL.K05
/-! ### patterns -/
theorem maxI_lt {K : Int} : ∀ {xs : List Int} {i : Int}, i < K → (∀ x ∈ xs, x < K) → maxI i xs < K
  | [], i, h, _ => h
  | x :: xs, i, h, k => by
    have hx := k x (List.mem_cons_self ..)
    exact maxI_lt (i := max i x) (by omega) fun y hy => k y (List.mem_cons_of_mem _ hy)
theorem maxI_ge : ∀ {xs : List Int} {i : Int}, i ≤ maxI i xs
  | [], i => Int.le_refl _
  | x :: xs, i => by
    have := maxI_ge (xs := xs) (i := max i x)
    show i ≤ maxI (max i x) xs
    omega
/-- a pattern of length k -/
def Pat (k : Nat) (q : List Nat) : Prop := q.length = k ∧ ∀ c ∈ q, c < k
theorem max_pt {M : Mem} {k : Nat} {q : List Nat} (h : Pat k q) (hk : 0 < k) : ∃ u : Nat, u < k ∧ prim M .max [pt q] = .ok (.int u) M := by
  obtain ⟨hl, hc⟩ := h
  cases q with
  | nil => simp at hl; omega
  | cons c q =>
    have h1 := hc c (List.mem_cons_self ..)
    have lt : maxI (c : Int) (q.map fun p : Nat => (p : Int)) < (k : Int) := maxI_lt (by omega) fun x hx => by
      obtain ⟨y, hy, rfl⟩ := List.mem_map.mp hx
      have := hc y (List.mem_cons_of_mem _ hy); omega
    have ge := maxI_ge (xs := q.map fun p : Nat => (p : Int)) (i := (c : Int))
    refine ⟨(maxI (c : Int) (q.map fun p : Nat => (p : Int))).toNat, by omega, ?_⟩
    simp only [prim, prim1, pInts, items, Option.bind_some, ints_map]
    rw [Int.toNat_of_nonneg (by omega)]
    rfl
theorem pt_add {M : Mem} {q : List Nat} {j : Nat} (hz : q.length ≤ 1000) : binop M .add (pt q) (.tup [.int j]) = .ok (pt (q ++ [j])) M := by
  simp only [binop, addV, List.length_map, List.length_singleton]
  rw [if_pos (by unfold SZ; omega), pt, st, List.map_append, List.map_append]
  rfl
theorem pd_pts {n : Nat} {ps : List (List Nat)} : ∀ x ∈ ps.map pt, pd (n + 1) x := fun x hx => by
  obtain ⟨p, _, rfl⟩ := List.mem_map.mp hx
  exact pd_st
theorem list_ref {M : Mem} {i : Nat} {xs : List V} (h : M[i]? = some (.lst xs)) : prim M .list [.ref i] = .ok (.ref M.length) (M ++ [.lst xs]) := by
  simp only [prim, prim1, pList, items, h, alloc]
theorem watch1 {M : Mem} {p : Nat} {xs : List V} (h : M[p]? = some (.lst xs)) : watched [(p, xs)] M = true := by
  simp only [watched, List.all_cons, List.all_nil, Bool.and_true]
  exact decide_eq_true h
theorem srcOf_ref {M : Mem} {p : Nat} {xs : List V} (h : M[p]? = some (.lst xs)) : srcOf M (.ref p) = some (xs, [(p, xs)]) := by
  simp only [srcOf, h]
/-- old lists stay as they are -/
structure Old (M0 M : Mem) : Prop where
  le : M0.length ≤ M.length
  at_ : ∀ i, i < M0.length → M[i]? = M0[i]?
theorem Old.refl {M : Mem} : Old M M := ⟨Nat.le_refl _, fun _ _ => rfl⟩
theorem Old.app {M0 M : Mem} (h : Old M0 M) (N : Mem) : Old M0 (M ++ N) :=
  ⟨by have := h.le; rw [List.length_append]; omega, fun i a => by rw [List.getElem?_append_left (Nat.lt_of_lt_of_le a h.le)]; exact h.at_ i a⟩
theorem Old.set {M0 M : Mem} {p : Nat} {o : MO} (h : Old M0 M) (hp : M0.length ≤ p) : Old M0 (M.set p o) :=
  ⟨by rw [List.length_set]; exact h.le, fun i a => by rw [List.getElem?_set_ne (by omega)]; exact h.at_ i a⟩
theorem Old.trans {M0 M M1 : Mem} (h : Old M0 M) (k : Old M M1) : Old M0 M1 :=
  ⟨Nat.le_trans h.le k.le, fun i a => (k.at_ i (Nat.lt_of_lt_of_le a h.le)).trans (h.at_ i a)⟩
theorem Old.out {M0 M : Mem} (h : Old M0 M) : M.take M0.length = M0 := by
  apply List.ext_getElem?
  intro i
  by_cases c : i < M0.length
  · rw [List.getElem?_take_of_lt c]; exact h.at_ i c
  · rw [List.getElem?_eq_none (by rw [List.length_take]; omega), List.getElem?_eq_none (by omega)]
abbrev patB : Ss := .cons (.ex (.mt .extend (.var 3) (.cons (.comp (.nm 5) (.rng1 (.bin .add (.pr .max (.cons (.var 4) .nil)) (.cst (.int 2)))) .none (.bin .add (.var 4) (.tup (.cons (.var 5) .nil)))) .nil))) .nil
/-- all patterns with one more -/
theorem pat_step {P : String → Option (List String)} {C : Orc} {mk : Nat} {M : Mem} {k p : Nat} {x0 x2 x4 : Option V} (hk : 0 < k) (hk5 : k ≤ 5) {ps : List (List Nat)} (hp : M[p]? = some (.lst (ps.map pt))) (hps : ∀ q ∈ ps, Pat k q) (h0 : ps ≠ []) (hz : ps.length ≤ 10000) (hm : mk ≤ M.length) :
    ∃ σ1 M1 nx y4, forL [(p, ps.map pt)] (.nm 4) (fun σ' M' => xss P C mk patB σ' M') (ps.map pt) [x0, some (.ref p), x2, some (.ref M.length), x4, none] (M ++ [.lst []]) = .nx σ1 M1 ∧ σ1 = [x0, some (.ref p), x2, some (.ref M.length), y4, none] ∧
      Old M M1 ∧ M1[M.length]? = some (.lst (nx.map pt)) ∧ (∀ q ∈ nx, Pat (k + 1) q) ∧ nx ≠ [] ∧ nx.length ≤ ps.length * 6 := by
  have lp := (List.getElem?_eq_some_iff.mp hp).1
  obtain ⟨σ1, M1, hl, nx, y4, hσ, ho, hn, hb, hne, hlen, _⟩ := forL_inv (w := [(p, ps.map pt)]) (t := .nm 4) (b := fun σ' M' => xss P C mk patB σ' M')
    (fun xs σ M' => ∃ (nx : List (List Nat)) (y4 : Option V), σ = [x0, some (.ref p), x2, some (.ref M.length), y4, none] ∧ Old M M' ∧ M'[M.length]? = some (.lst (nx.map pt)) ∧ (∀ q ∈ nx, Pat (k + 1) q) ∧ (nx = [] → xs ≠ []) ∧ nx.length + xs.length * 6 ≤ ps.length * 6 ∧ ∃ ys : List (List Nat), xs = ys.map pt ∧ ∀ q ∈ ys, Pat k q)
    (ps.map pt) [x0, some (.ref p), x2, some (.ref M.length), x4, none] (M ++ [.lst []])
    ⟨[], x4, rfl, Old.refl.app _, at_end, by simp, fun _ => by simpa using h0, by simp, ps, rfl, hps⟩
    (by
      rintro xs σ M' ⟨nx, y4, rfl, ho, _⟩
      refine watch1 ?_
      rw [ho.at_ _ lp]; exact hp)
    (by
      rintro x xs σ M' ⟨nx, y4, rfl, ho, hn, hb, hne, hlen, ys, hys, hpy⟩
      cases ys with
      | nil => simp at hys
      | cons q ys =>
        rw [List.map_cons, List.cons.injEq] at hys
        obtain ⟨rfl, rfl⟩ := hys
        have hq := hpy q (List.mem_cons_self ..)
        obtain ⟨u, hu, hmax⟩ := max_pt (M := M') hq hk
        have ln := (List.getElem?_eq_some_iff.mp hn).1
        have hcomp := compL_enc (w := []) (t := .nm 5) (c := fun σ' M' => evc P C mk .none σ' M') (e := fun σ' M' => ev P C mk (.bin .add (.var 4) (.tup (.cons (.var 5) .nil))) σ' M')
          (σ := [x0, some (.ref p), x2, some (.ref M.length), some (pt q), none]) (M := M') (fun j : Nat => V.int (j : Int)) (fun _ => true) (fun j => pt (q ++ [j])) (List.range (u + 2)) []
          (fun _ => rfl) (fun j hj => ⟨[x0, some (.ref p), x2, some (.ref M.length), some (pt q), some (.int (j : Int))], asg_nm, fun acc => ⟨evc_none, fun _ =>
            ev_bin (ev_var rfl) (ev_tup (evs_cons (ev_var rfl) evs_nil) (by unfold SZ; simp)) (pt_add (by rw [hq.1]; omega))⟩⟩) (by unfold SZ; simp; omega)
        rw [List.nil_append, filter_true] at hcomp
        have lnx : nx.length ≤ 60000 := by omega
        refine ⟨_, asg_nm, [x0, some (.ref p), x2, some (.ref M.length), some (pt q), none], (M' ++ [MO.lst ((List.range (u + 2)).map fun j => pt (q ++ [j]))]).set M.length (MO.lst ((nx ++ (List.range (u + 2)).map fun j => q ++ [j]).map pt)), ?_, _, _, rfl, (ho.app _).set (Nat.le_refl _), by rw [List.getElem?_set_self (by rw [List.length_append]; omega)], ?_, ?_, ?_, ys, rfl, fun q' hq' => hpy q' (List.mem_cons_of_mem _ hq')⟩
        · apply xss_nx
          apply xs_ex
          apply ev_mt
          exact ev_var rfl
          exact recv_list hn rfl
          apply evs_cons
          apply ev_comp
          apply evi_rng1 (k := ((u + 2 : Nat) : Int))
          apply ev_bin
          apply ev_pr
          repeat walk_at "pl"
          exact hmax
          exact ev_cst
          exact add_i
          exact rOk_nat (by omega)
          rw [ranged0]
          exact hcomp
          exact evs_nil
          refine extend_run (xs := nx.map pt) ?_ (llst_ref at_end) hm ?_
          · rw [List.getElem?_append_left ln]; exact hn
          · simp only [List.length_map, List.length_range]; unfold SZ; omega
          rw [List.map_append, List.map_map]
          exact xss_nil
        · intro q' hq'
          rcases List.mem_append.mp hq' with hq' | hq'
          · exact hb q' hq'
          · obtain ⟨j, hj, rfl⟩ := List.mem_map.mp hq'
            have hj := List.mem_range.mp hj
            refine ⟨by rw [List.length_append, hq.1]; rfl, fun c hc => ?_⟩
            rcases List.mem_append.mp hc with hc | hc
            · have := hq.2 c hc; omega
            · rw [List.mem_singleton.mp hc]; omega
        · intro e
          exact absurd (congrArg List.length e) (by simp)
        · simp only [List.length_append, List.length_map, List.length_range]
          rw [List.length_cons] at hlen
          simp only [List.length_map] at hlen
          omega)
  exact ⟨σ1, M1, nx, y4, hl, hσ, ho, hn, hb, fun e => hne e rfl, by simpa using hlen⟩
end PL.K05

namespace PL.K05
theorem patterns_run (n mk : Nat) (M : Mem) {k : Nat} (hk : 1 ≤ k) (hk5 : k ≤ 5) :
    ∃ ps : List (List Nat), callN D (n + 1) mk "_law_patterns" [.int k] M = .ok (.fl (ps.map pt)) M ∧ (∀ q ∈ ps, Pat k q) ∧ ps ≠ [] ∧ ps.length ≤ 1296 := by
  obtain ⟨σ1, M1, hl, p, ps, u2, u3, u4, hσ, hpm, ho, hp, hb, hne, hz, _⟩ := forL_inv (w := []) (t := .nm 2) (b := fun σ' M' => xss (parsOf D) (callN D n) M.length (.cons (.set (.nm 3) (.lst .nil))
    (.cons (.for (.nm 4) (.of (.var 1)) patB)
    (.cons (.set (.nm 1) (.pr .list (.cons (.var 3) .nil)))
    .nil))) σ' M')
    (fun xs σ M' => ∃ (p : Nat) (ps : List (List Nat)) (u2 u3 u4 : Option V), σ = [some (.int k), some (.ref p), u2, u3, u4, none] ∧ M.length ≤ p ∧ Old M M' ∧ M'[p]? = some (.lst (ps.map pt)) ∧ (∀ q ∈ ps, Pat (k - xs.length) q) ∧ ps ≠ [] ∧ ps.length * 6 ^ xs.length ≤ 1296 ∧ xs.length < k)
    (ranged 1 ((k : Int) - 1).toNat) [some (.int k), some (.ref M.length), none, none, none, none] (M ++ [.lst ([[0]].map pt)])
    (by
      have e : (ranged 1 ((k : Int) - 1).toNat).length = k - 1 := by unfold ranged; simp
      refine ⟨M.length, [[0]], none, none, none, rfl, Nat.le_refl _, Old.refl.app _, at_end, ?_, by simp, ?_, by omega⟩
      · intro q hq
        rw [List.mem_singleton.mp hq, e, show k - (k - 1) = 1 from by omega]
        exact ⟨rfl, by simp⟩
      · rw [e, List.length_singleton, Nat.one_mul]
        exact Nat.le_trans (Nat.pow_le_pow_right (by decide) (show k - 1 ≤ 4 by omega)) (by decide))
    (fun _ _ _ _ => rfl)
    (by
      rintro x xs σ M' ⟨p, ps, u2, u3, u4, rfl, hpm, ho, hp, hb, hne, hz, hx⟩
      rw [List.length_cons] at hx hb hz
      have hz1 : ps.length ≤ 1296 := Nat.le_trans (Nat.le_mul_of_pos_right _ (Nat.pow_pos (by decide))) hz
      obtain ⟨σ1, M1, nx, y4, hl, rfl, ho1, hn, hbn, hnn, hlen⟩ := pat_step (P := parsOf D) (C := callN D n) (mk := M.length) (x0 := some (.int k)) (x2 := some x) (x4 := u4) (k := k - (xs.length + 1)) (by omega) (by omega) hp hb hne (by omega) ho.le
      have lp := (List.getElem?_eq_some_iff.mp hp).1
      refine ⟨_, asg_nm, [some (.int k), some (.ref M1.length), some x, some (.ref M'.length), y4, none], M1 ++ [.lst (nx.map pt)], ?_, M1.length, nx, _, _, _, rfl, Nat.le_trans ho.le ho1.le, (ho.trans ho1).app _, at_end, ?_, hnn, ?_, by omega⟩
      · apply xss_nx
        apply xs_set
        apply ev_lst
        exact evs_nil
        decide
        exact asg_nm
        apply xss_nx
        apply xs_for
        apply evi_of
        exact ev_var rfl
        refine srcOf_ref (xs := ps.map pt) ?_
        rw [List.getElem?_append_left lp]; exact hp
        exact hl
        apply xss_nx
        apply xs_set
        apply ev_pr
        repeat walk_at "pl"
        exact list_ref hn
        exact asg_nm
        exact xss_nil
      · intro q hq
        have := hbn q hq
        rwa [show k - (xs.length + 1) + 1 = k - xs.length from by omega] at this
      · refine Nat.le_trans (Nat.mul_le_mul_right _ hlen) ?_
        rw [Nat.pow_succ, Nat.mul_comm (6 ^ xs.length) 6, ← Nat.mul_assoc] at hz
        exact hz)
  refine ⟨ps, ?_, by simpa using hb, hne, by simpa using hz⟩
  apply call_rt (d := d__law_patterns) rfl rfl rfl
  apply xss_nx
  apply xs_set
  apply ev_lst
  apply evs_cons
  apply ev_tup
  repeat walk_at "pl"
  show 1 ≤ SZ
  decide
  exact evs_nil
  show 1 ≤ SZ
  decide
  exact asg_nm
  apply xss_nx
  apply xs_for
  apply evi_rng2
  repeat walk_at "pl"
  rw [rOk_nat (by omega)]; rfl
  exact hl
  apply xss_rt
  apply xs_ret
  subst hσ
  exact ev_var rfl
  exact frz_lst hp hpm fun x hx => (pd_pts (n := 0) x hx).2.1
  exact ho.out
/-! ### the deck -/
theorem ev_dsp {P : String → Option (List String)} {C : Orc} {mk : Nat} {σ : Env} {M M1 : Mem} {es : Es} {vs : List V} {p : List V × List V} (h : evs P C mk es σ (M ++ [.dct false [] []]) = .ok vs M1) (hk : dispK vs = some p) (hm : M1[M.length]? = some (.dct false [] [])) :
    ev P C mk (.dsp es) σ M = .ok (.ref M.length) (M1.set M.length (.dct false p.1 p.2)) := by
  simp only [ev, h, R.bind_ok, hk, hm]
theorem cut_all {xs : List V} (h : xs.length ≤ 63) : cut xs none (some 63) = xs := by
  have e : sIx xs.length xs.length (some 63) = min 63 xs.length := by unfold sIx; exact if_neg (by decide)
  unfold cut
  rw [e]
  show (xs.drop 0).take (min 63 xs.length - 0) = xs
  rw [List.drop_zero, Nat.sub_zero]
  exact List.take_of_length_le (by omega)
theorem slice_run {M : Mem} {xs : List V} (h : xs.length ≤ 63) : slice M (.cl xs) none (some 63) = .ok (.ref M.length) (M ++ [.lst xs]) := by
  simp only [slice, litems, cut_all h, alloc]
abbrev deckB : Ss := (.cons (.set (.nm 4) (.bin .add (.bin .mul (.cst (.int 2)) (.pr .abs (.cons (.var 1) .nil))) (.pr .int (.cons (.cmp .lt (.var 1) (.cst (.int 0))) .nil))))
    (.cons (.set (.nm 2) (.bin .mod (.pr .int (.cons (.bin .add (.bin .add (.bin .mul (.var 2) (.cst (.int 69621))) (.var 4)) (.cst (.int 3))) .nil)) (.cst (.int 4294967291))))
    (.cons (.iff (.cmp .ge (.var 4) (.bin .pow (.cst (.int 10)) (.cst (.int 15)))) (.cons (.ex (.mt .append (.var 3) (.cons (.var 4) .nil)))
    .nil) .nil)
    .nil)))
theorem deck_run (n mk : Nat) {ns : List Int} (hz : ns.length ≤ 63) :
    ∃ (gs : List Int) (m : Int) (M' : Mem), callN D (n + 1) mk "_law_deck" [.cl (ns.map .int)] [] = .ok (.ref 3) M' ∧ Deck M' 3 1 gs m 0 ∧ M'.length = 4 := by
  have hz' : (ns.map V.int).length ≤ 63 := by rw [List.length_map]; exact hz
  obtain ⟨σ1, M1, hl, gs, m, u1, u4, hσ, hM, hg, _⟩ := forL_inv (w := [(2, ns.map .int)]) (t := .nm 1) (b := fun σ' M' => xss (parsOf D) (callN D n) mk deckB σ' M')
    (fun xs σ M' => ∃ (gs : List Int) (m : Int) (u1 u4 : Option V), σ = [some (.cl (ns.map .int)), u1, some (.int m), some (.ref 1), u4] ∧ M' = [.lst (ns.map .int), .lst (gs.map .int), .lst (ns.map .int)] ∧ gs.length + xs.length ≤ 63 ∧ ∃ ys : List Int, xs = ys.map .int)
    (ns.map .int) [some (.cl (ns.map .int)), none, some (.int (12794 + 17 * (ns.map V.int).length)), some (.ref 1), none] [.lst (ns.map .int), .lst [], .lst (ns.map .int)]
    ⟨[], _, none, none, rfl, rfl, by simpa using hz, ns, rfl⟩
    (by
      rintro xs σ M' ⟨gs, m, u1, u4, rfl, rfl, _⟩
      exact watch1 rfl)
    (by
      rintro x xs σ M' ⟨gs, m, u1, u4, rfl, rfl, hg, ys, hys⟩
      cases ys with
      | nil => simp at hys
      | cons i ys =>
        rw [List.map_cons, List.cons.injEq] at hys
        obtain ⟨rfl, rfl⟩ := hys
        rw [List.length_cons] at hg
        let w : Int := 2 * (if i < 0 then -i else i) + (if decide (i < 0) = true then 1 else 0)
        let m' : Int := (m * 69621 + w + 3) % 4294967291
        by_cases c : (10 : Int) ^ 15 ≤ w
        · refine ⟨_, asg_nm, [some (.cl (ns.map .int)), some (.int i), some (.int m'), some (.ref 1), some (.int w)], [.lst (ns.map .int), .lst ((gs ++ [w]).map .int), .lst (ns.map .int)], ?_, gs ++ [w], m', _, _, rfl, rfl, ?_, ys, rfl⟩
          · apply xss_nx
            apply xs_set
            apply ev_bin
            apply ev_bin
            exact ev_cst
            apply ev_pr
            repeat walk_at "pl"
            rfl
            exact mul_i (mulOk_l (by decide))
            apply ev_pr
            repeat walk_at "pl"
            rfl
            exact evs_nil
            exact int_b
            exact add_i
            exact asg_nm
            apply xss_nx
            apply xs_set
            apply ev_bin
            apply ev_pr
            apply evs_cons
            apply ev_bin
            apply ev_bin
            apply ev_bin
            repeat walk_at "pl"
            exact mul_i (mulOk_r (by decide))
            repeat walk_at "pl"
            apply xss_nx
            apply xs_iff (q := true)
            apply ev_cmp
            exact ev_var rfl
            apply ev_bin
            exact ev_cst
            exact ev_cst
            rfl
            exact congrArg some (decide_eq_true c)
            refine (if_pos rfl).trans ?_
            apply xss_nx
            apply xs_ex
            apply ev_mt
            exact ev_var rfl
            rfl
            apply evs_cons
            exact ev_var rfl
            exact evs_nil
            refine append_run (p := 1) (xs := gs.map .int) rfl ?_ ?_
            simp [wOk, noref]
            rw [List.length_map]; unfold SZ; omega
            exact xss_nil
            rw [List.map_append]
            exact xss_nil
          · rw [List.length_append, List.length_singleton]; omega
        · refine ⟨_, asg_nm, [some (.cl (ns.map .int)), some (.int i), some (.int m'), some (.ref 1), some (.int w)], [.lst (ns.map .int), .lst (gs.map .int), .lst (ns.map .int)], ?_, gs, m', _, _, rfl, rfl, by omega, ys, rfl⟩
          apply xss_nx
          apply xs_set
          apply ev_bin
          apply ev_bin
          exact ev_cst
          apply ev_pr
          repeat walk_at "pl"
          rfl
          exact mul_i (mulOk_l (by decide))
          apply ev_pr
          repeat walk_at "pl"
          rfl
          exact evs_nil
          exact int_b
          exact add_i
          exact asg_nm
          apply xss_nx
          apply xs_set
          apply ev_bin
          apply ev_pr
          apply evs_cons
          apply ev_bin
          apply ev_bin
          apply ev_bin
          repeat walk_at "pl"
          exact mul_i (mulOk_r (by decide))
          repeat walk_at "pl"
          apply xss_nx
          apply xs_iff (q := false)
          apply ev_cmp
          exact ev_var rfl
          apply ev_bin
          exact ev_cst
          exact ev_cst
          rfl
          exact congrArg some (decide_eq_false c)
          refine (if_neg (by decide)).trans ?_
          exact xss_nil
          exact xss_nil)
  subst hσ hM
  refine ⟨gs, m, [.lst (ns.map .int), .lst (gs.map .int), .lst (ns.map .int), .dct false dkeys_ [.ref 1, .int m, .int 0]], ?_, ⟨by decide, rfl, rfl, by simp at hg; omega⟩, rfl⟩
  apply call_live (d := d__law_deck) rfl rfl rfl
  apply xss_nx
  apply xs_par
  apply evs_cons
  apply ev_bin
  exact ev_cst
  apply ev_bin
  exact ev_cst
  apply ev_pr
  apply evs_cons
  apply ev_slc
  exact ev_var rfl
  exact evo_none
  exact evo_some ev_cst
  exact slice_run hz'
  exact evs_nil
  exact len_ref at_end
  exact mul_i (mulOk_l (by decide))
  exact add_i
  apply evs_cons
  apply ev_lst
  exact evs_nil
  decide
  exact evs_nil
  rfl
  apply xss_nx
  apply xs_for
  apply evi_of
  apply ev_slc
  exact ev_var rfl
  exact evo_none
  exact evo_some ev_cst
  exact slice_run hz'
  exact srcOf_ref at_end
  exact hl
  apply xss_rt
  apply xs_ret
  refine Eq.trans (ev_dsp (vs := [.str (cs "great"), .ref 1, .str (cs "mixed"), .int m, .str (cs "turn"), .int 0]) (p := (dkeys_, [.ref 1, .int m, .int 0])) (M1 := [.lst (ns.map .int), .lst (gs.map .int), .lst (ns.map .int), .dct false [] []]) ?_ rfl rfl) rfl
  exact evs_cons ev_cst (evs_cons (ev_var rfl) (evs_cons ev_cst (evs_cons (ev_var rfl) (evs_cons ev_cst (evs_cons ev_cst evs_nil)))))
end PL.K05

namespace PL.K05
abbrev innS : Ss := (.cons (.iff (.not (.fn "_law_is_right" (.cons (.fn "_law_things" (.cons (.var 1) (.cons (.var 7) .nil))) (.cons (.var 5) (.cons (.cmp .eq (.bin .mod (.var 6) (.cst (.int 5))) (.var 4)) .nil))))) (.cons (.ret (.cst (.bl false)))
    .nil) .nil)
    .nil)
abbrev tldS : S := (.iff (.cmp .eq (.bin .mod (.var 4) (.cst (.int 2))) (.cst (.int 1))) (.cons (.set (.nm 5) (.fn "_law_told_deed" (.cons (.var 1) (.cons (.var 2) (.cons (.fn "_law_pick" (.cons (.var 1) (.cons (.var 3) .nil))) .nil)))))
    .nil) .nil)
abbrev empS : S := (.iff (.cmp .eq (.var 4) (.cst (.int 2))) (.cons (.set (.nm 5) (.bin .add (.tup (.cons (.tup .nil) (.cons (.tup .nil) .nil))) (.slc (.var 5) (.some (.cst (.int 2))) .none)))
    .nil) .nil)
/-- a deed that fits n things -/
structure Deed (k : Nat) (al ul : List (Nat × Nat)) (a b : Nat) : Prop where
  ba : bnd k al
  bu : bnd k ul
  a : a < k
  b : b < k
  za : al.length ≤ 1000
  zu : ul.length ≤ 1000
theorem inn_run (n mk : Nat) {M : Mem} {r g : Nat} {gs : List Int} {m t : Int} (h : Deck M r g gs m t) {k : Nat} (hk5 : k ≤ 5) {x0 x6 x7 : Option V} {x3 : V} {al ul : List (Nat × Nat)} {a b : Nat} (hd : Deed k al ul a b) {i : Int} {ps : List (List Nat)} (hp : ∀ q ∈ ps, Pat k q) :
    ∃ σ1 M1 gs' t' y6 y7, forL [] (.tp (.cons (.nm 6) (.cons (.nm 7) .nil))) (fun σ' M' => xss (parsOf D) (callN D (n + 3)) mk innS σ' M') (enumed 0 (ps.map pt)) [x0, some (.ref r), some (.int k), some x3, some (.int i), some (dd al ul a b), x6, x7] M = .nx σ1 M1 ∧
      σ1 = [x0, some (.ref r), some (.int k), some x3, some (.int i), some (dd al ul a b), y6, y7] ∧ Deck M1 r g gs' m t' := by
  obtain ⟨σ1, M1, hl, gs', t', y6, y7, hσ, hd', _⟩ := forL_inv (w := []) (t := .tp (.cons (.nm 6) (.cons (.nm 7) .nil))) (b := fun σ' M' => xss (parsOf D) (callN D (n + 3)) mk innS σ' M')
    (fun xs σ M' => ∃ (gs' : List Int) (t' : Int) (y6 y7 : Option V), σ = [x0, some (.ref r), some (.int k), some x3, some (.int i), some (dd al ul a b), y6, y7] ∧ Deck M' r g gs' m t' ∧ ∃ (j : Nat) (qs : List (List Nat)), xs = enumed j (qs.map pt) ∧ ∀ q ∈ qs, Pat k q)
    (enumed 0 (ps.map pt)) [x0, some (.ref r), some (.int k), some x3, some (.int i), some (dd al ul a b), x6, x7] M
    ⟨gs, t, x6, x7, rfl, h, 0, ps, rfl, hp⟩ (fun _ _ _ _ => rfl)
    (by
      rintro x xs σ M' ⟨gs', t', y6, y7, rfl, hdk, j, qs, hxs, hqs⟩
      cases qs with
      | nil => simp [enumed] at hxs
      | cons q qs =>
        rw [List.map_cons, enumed, List.cons.injEq] at hxs
        obtain ⟨rfl, rfl⟩ := hxs
        have hq := hqs q (List.mem_cons_self ..)
        obtain ⟨s, gs2, t2, M2, hc, hd2, _, hl, hsm⟩ := things_run n mk hdk (ps := q) (fun p hp => by have := hq.2 p hp; omega) (by rw [hq.1]; omega)
        rw [hq.1] at hl
        have fit : Fit s al ul a b := ⟨by rw [hl]; exact hd.a, by rw [hl]; exact hd.b, by rw [hl]; exact hd.ba, by rw [hl]; exact hd.bu, hsm, by omega, hd.za, hd.zu⟩
        refine ⟨[x0, some (.ref r), some (.int k), some x3, some (.int i), some (dd al ul a b), some (.int j), some (pt q)], rfl, [x0, some (.ref r), some (.int k), some x3, some (.int i), some (dd al ul a b), some (.int j), some (pt q)], M2, ?_, gs2, t2, _, _, rfl, hd2, j + 1, qs, rfl, fun q' hq' => hqs q' (List.mem_cons_of_mem _ hq')⟩
        apply xss_nx
        apply xs_iff (q := false)
        apply ev_not (j := true)
        apply ev_fn
        apply evs_cons
        apply ev_fn
        repeat walk_at "pl"
        exact hc
        apply evs_cons
        exact ev_var rfl
        apply evs_cons
        apply ev_cmp
        apply ev_bin
        repeat walk_at "pl"
        exact eq_int
        exact evs_nil
        exact is_right_run n mk M2 _ fit
        refine (if_neg (by decide)).trans ?_
        exact xss_nil
        exact xss_nil)
  exact ⟨σ1, M1, gs', t', y6, y7, hl, hσ, hd'⟩
theorem tld_run (n mk : Nat) {M : Mem} {r g : Nat} {gs : List Int} {m t : Int} (h : Deck M r g gs m t) {k : Nat} (hk2 : 2 ≤ k) (hk5 : k ≤ 5) {x0 x6 x7 : Option V} {al ul : List (Nat × Nat)} {a b : Nat} (hd : Deed k al ul a b) {i : Int} {ps : List (List Nat)} (hp : ∀ q ∈ ps, Pat k q) (h0 : ps ≠ []) (hz : ps.length ≤ 1296) :
    ∃ M1 al' ul' a' b' gs' t', xs (parsOf D) (callN D (n + 3)) mk tldS [x0, some (.ref r), some (.int k), some (.fl (ps.map pt)), some (.int i), some (dd al ul a b), x6, x7] M =
      .nx [x0, some (.ref r), some (.int k), some (.fl (ps.map pt)), some (.int i), some (dd al' ul' a' b'), x6, x7] M1 ∧ Deed k al' ul' a' b' ∧ Deck M1 r g gs' m t' := by
  cases c : (i % 2 == 1 : Bool) with
  | false =>
    refine ⟨M, al, ul, a, b, gs, t, ?_, hd, h⟩
    apply xs_iff (q := false)
    rw [← c]
    apply ev_cmp
    apply ev_bin
    repeat walk_at "pl"
    exact eq_int
    refine (if_neg (by decide)).trans ?_
    exact xss_nil
  | true =>
    obtain ⟨v, gs1, t1, M1, hc1, hd1, hs1, hv⟩ := pick_run (n + 1) mk h (x := .fl (ps.map pt)) (vs := ps.map pt) (fun _ _ => ⟨rfl, rfl⟩) (by simpa using h0) (by rw [List.length_map]; omega) (fun v hv M' => frz_pd (pd_pts (n := 0) v hv))
    obtain ⟨q, hq, rfl⟩ := List.mem_map.mp hv
    obtain ⟨al', ul', a', b', gs2, t2, M2, hc2, hd2, _, e1, e2, e3, e4, e5, e6⟩ := told_deed_run n mk hd1 hk5 hk2 (s := q.map fun p : Nat => (p : Int)) (by rw [List.length_map]; exact (hp q hq).1)
    refine ⟨M2, al', ul', a', b', gs2, t2, ?_, ⟨e1, e2, e3, e4, e5, e6⟩, hd2⟩
    apply xs_iff (q := true)
    rw [← c]
    apply ev_cmp
    apply ev_bin
    repeat walk_at "pl"
    exact eq_int
    refine (if_pos rfl).trans ?_
    apply xss_nx
    apply xs_set
    apply ev_fn
    apply evs_cons
    exact ev_var rfl
    apply evs_cons
    exact ev_var rfl
    apply evs_cons
    apply ev_fn
    repeat walk_at "pl"
    exact hc1
    exact evs_nil
    exact hc2
    exact asg_nm
    exact xss_nil
theorem emp_run {C : Orc} {mk : Nat} {M : Mem} {k : Nat} {x0 x1 x2 x3 x6 x7 : Option V} {al ul : List (Nat × Nat)} {a b : Nat} (hd : Deed k al ul a b) {i : Int} :
    ∃ al' ul' a' b', xs (parsOf D) C mk empS [x0, x1, x2, x3, some (.int i), some (dd al ul a b), x6, x7] M =
      .nx [x0, x1, x2, x3, some (.int i), some (dd al' ul' a' b'), x6, x7] M ∧ Deed k al' ul' a' b' := by
  cases c : (i == 2 : Bool) with
  | false =>
    refine ⟨al, ul, a, b, ?_, hd⟩
    apply xs_iff (q := false)
    rw [← c]
    apply ev_cmp
    exact ev_var rfl
    exact ev_cst
    exact eq_int
    refine (if_neg (by decide)).trans ?_
    exact xss_nil
  | true =>
    refine ⟨[], [], a, b, ?_, ⟨by simp [bnd], by simp [bnd], hd.a, hd.b, by simp, by simp⟩⟩
    apply xs_iff (q := true)
    rw [← c]
    apply ev_cmp
    exact ev_var rfl
    exact ev_cst
    exact eq_int
    refine (if_pos rfl).trans ?_
    apply xss_nx
    apply xs_set
    apply ev_bin
    apply ev_tup
    apply evs_cons
    apply ev_tup
    exact evs_nil
    decide
    apply evs_cons
    apply ev_tup
    exact evs_nil
    decide
    exact evs_nil
    show 2 ≤ SZ
    decide
    apply ev_slc
    exact ev_var rfl
    exact evo_some ev_cst
    exact evo_none
    rfl
    show (if 2 + 2 ≤ SZ then R.ok (V.tup _) M else R.no) = _
    exact if_pos (by decide)
    exact asg_nm
    exact xss_nil
theorem law_run (n mk : Nat) {ns : List Int} (hz : ns.length ≤ 63) : ∃ M, callN D (n + 4) mk "law" [.cl (ns.map .int)] [] = .ok (.bl true) M := by
  obtain ⟨gs, m, M1, hc1, hd1, l1⟩ := deck_run (n + 2) 0 hz
  obtain ⟨v, gs2, t2, M2, hc2, hd2, hs2, hv⟩ := pick_run (n + 1) 0 (hd1.app [.lst [.int 3, .int 3, .int 3, .int 4, .int 4, .int 4, .int 5]]) (x := .ref M1.length) (vs := [.int 3, .int 3, .int 3, .int 4, .int 4, .int 4, .int 5])
    (fun M' hM => by
      have : M'[M1.length]? = _ := (hM.at_ _ (by omega) (by omega)).trans at_end
      exact ⟨by simp only [dkeys, this], by simp only [items, this]⟩) (by simp) (by simp) (fun v hv M' => by
      simp only [List.mem_cons, List.not_mem_nil, or_false] at hv
      rcases hv with rfl | rfl | rfl | rfl | rfl | rfl | rfl <;> rfl)
  obtain ⟨k, rfl, k3, k5⟩ : ∃ k : Nat, v = .int k ∧ 3 ≤ k ∧ k ≤ 5 := by
    simp only [List.mem_cons, List.not_mem_nil, or_false] at hv
    rcases hv with rfl | rfl | rfl | rfl | rfl | rfl | rfl
    · exact ⟨3, rfl, by omega, by omega⟩
    · exact ⟨3, rfl, by omega, by omega⟩
    · exact ⟨3, rfl, by omega, by omega⟩
    · exact ⟨4, rfl, by omega, by omega⟩
    · exact ⟨4, rfl, by omega, by omega⟩
    · exact ⟨4, rfl, by omega, by omega⟩
    · exact ⟨5, rfl, by omega, by omega⟩
  obtain ⟨ps, hc3, hp, h0, hz3⟩ := patterns_run (n + 2) 0 M2 (k := k) (by omega) k5
  obtain ⟨c, hc, hc'⟩ : ∃ c : Nat, c ≤ 6 ∧ ([V.int 6, .int 4, .int 2] : List V)[k - 3]? = some (.int c) := by
    have : k = 3 ∨ k = 4 ∨ k = 5 := by omega
    rcases this with rfl | rfl | rfl
    · exact ⟨6, by omega, rfl⟩
    · exact ⟨4, by omega, rfl⟩
    · exact ⟨2, by omega, rfl⟩
  have hloop := forL_inv (w := []) (t := .nm 4) (b := fun σ' M' => xss (parsOf D) (callN D (n + 3)) 0 (.cons (.set (.nm 5) (.fn "_law_deed" (.cons (.var 1) (.cons (.var 2) .nil))))
    (.cons tldS (.cons empS (.cons (.for (.tp (.cons (.nm 6) (.cons (.nm 7) .nil))) (.enum (.var 3)) innS) .nil)))) σ' M')
    (fun xs σ M' => ∃ (gs' : List Int) (t' : Int) (y4 y5 y6 y7 : Option V), σ = [some (.cl (ns.map .int)), some (.ref 3), some (.int k), some (.fl (ps.map pt)), y4, y5, y6, y7] ∧ Deck M' 3 1 gs' m t' ∧ ∃ ys : List Nat, xs = ys.map fun i : Nat => V.int (i : Int))
    ((List.range c).map fun i : Nat => V.int (i : Int)) [some (.cl (ns.map .int)), some (.ref 3), some (.int k), some (.fl (ps.map pt)), none, none, none, none] (M2 ++ [.lst [.int 6, .int 4, .int 2]])
    ⟨gs2, t2, none, none, none, none, rfl, hd2.app _, _, rfl⟩ (fun _ _ _ _ => rfl)
    (by
      rintro x xs σ M' ⟨gs', t', y4, y5, y6, y7, rfl, hdk, ys, hys⟩
      cases ys with
      | nil => simp at hys
      | cons i ys =>
        rw [List.map_cons, List.cons.injEq] at hys
        obtain ⟨rfl, rfl⟩ := hys
        obtain ⟨al, ul, a, b, gs3, t3, M3, c3, d3, _, e1, e2, e3, e4, e5, e6⟩ := deed_run (n + 1) 0 hdk k5 (by omega)
        obtain ⟨M4, al4, ul4, a4, b4, gs4, t4, c4, w4, d4⟩ := tld_run n 0 d3 (x0 := some (.cl (ns.map .int))) (x6 := y6) (x7 := y7) (i := i) (by omega) k5 (⟨e1, e2, e3, e4, e5, e6⟩ : Deed k al ul a b) hp h0 hz3
        obtain ⟨al5, ul5, a5, b5, c5, w5⟩ := emp_run (C := callN D (n + 3)) (mk := 0) (M := M4) (x0 := some (.cl (ns.map .int))) (x1 := some (.ref 3)) (x2 := some (.int k)) (x3 := some (.fl (ps.map pt))) (x6 := y6) (x7 := y7) (i := i) w4
        obtain ⟨σ6, M6, gs6, t6, z6, z7, c6, rfl, d6⟩ := inn_run n 0 d4 k5 (x0 := some (.cl (ns.map .int))) (x3 := .fl (ps.map pt)) (x6 := y6) (x7 := y7) (i := i) w5 hp
        refine ⟨_, asg_nm, _, M6, ?_, gs6, t6, some (.int i), some (dd al5 ul5 a5 b5), z6, z7, rfl, d6, ys, rfl⟩
        apply xss_nx
        apply xs_set
        apply ev_fn
        repeat walk_at "pl"
        exact c3
        exact asg_nm
        apply xss_nx
        exact c4
        apply xss_nx
        exact c5
        apply xss_nx
        apply xs_for
        apply evi_enum
        exact ev_var rfl
        rfl
        exact c6
        exact xss_nil)
  obtain ⟨σ1, M7, hl, gs7, t7, y4, y5, y6, y7, hσ, hd7, _⟩ := hloop
  refine ⟨M7.take 0, ?_⟩
  apply call_rt (d := d_law) rfl rfl rfl
  apply xss_nx
  apply xs_set
  apply ev_fn
  apply evs_cons
  exact ev_var rfl
  exact evs_nil
  exact hc1
  exact asg_nm
  apply xss_nx
  apply xs_set
  apply ev_fn
  apply evs_cons
  exact ev_var rfl
  apply evs_cons
  apply ev_lst
  repeat walk_at "pl"
  show 7 ≤ SZ
  decide
  exact evs_nil
  exact hc2
  exact asg_nm
  apply xss_nx
  apply xs_set
  apply ev_fn
  apply evs_cons
  exact ev_var rfl
  exact evs_nil
  exact hc3
  exact asg_nm
  apply xss_nx
  apply xs_for
  apply evi_rng1
  apply ev_idx
  apply ev_lst
  repeat walk_at "pl"
  show 3 ≤ SZ
  decide
  apply ev_bin
  exact ev_var rfl
  exact ev_cst
  exact sub_i
  rw [show ((k : Int) - 3) = ((k - 3 : Nat) : Int) from by omega]
  exact idx_lst at_end hc'
  exact rOk_nat (by omega)
  rw [ranged0]
  exact hl
  apply xss_rt
  apply xs_ret
  exact ev_cst
  rfl
  rfl
end PL.K05
end
namespace K05
theorem true_run : ∀ ns : List Int, ns.length ≤ 63 → ∃ M, PL.callN (PLS.Dof tab) 40 0 "law" [.cl (ns.map PL.V.int)] [] = .ok (.bl true) M := fun ns hz => PL.K05.law_run 36 0 hz
end K05
open PySem PySem.W PySem.Calls PyProof.Rows
set_option maxHeartbeats 0 in
theorem PySem.Challenge.cw_keptthings_k05_whole_what_deeds_do_holds : PySem.Challenge.rw_keptthings_k05_whole_what_deeds_do.Holds := by
  w_on; o_law
  refine HandSHeadRun.head_any (r := OpenLaw.row PySem.Challenge.rw_keptthings_k05_whole_what_deeds_do) (q := view (OpenLaw.row PySem.Challenge.rw_keptthings_k05_whole_what_deeds_do).prog [16]) (H := K05.hk) (ob := K05.ob) (M := 1000) (loose := K05.others) (d := HandSHeadRun.topDef (OpenLaw.row PySem.Challenge.rw_keptthings_k05_whole_what_deeds_do).prog 16) (kwd := []) K05.ob_eq
    (by kernel_rfl) (fun s => by kernel_rfl) K05.run (by kernel_rfl) (by kernel_rfl) (by kernel_rfl) (by rfl) (by first | assumption | decide +kernel) (by decide +kernel) ⟨rfl, rfl, rfl, rfl, rfl, by decide +kernel⟩ ?hw ?hc
  case hw => w_witness2
  case hc =>
    exact PLS.walk_PL (tab := K05.tab) (l := PySem.Challenge.rw_keptthings_k05_whole_what_deeds_do) (k := 40) rfl (by kernel_rfl) (fun w h Y => Y) K05.checked rfl rfl (by kernel_rfl) K05.true_run ⟨rfl, by decide, by decide⟩
