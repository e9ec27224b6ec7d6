import PyProof.Rows.All
import HandS.ForMost
import HandS.Exc
import HandS.TryOnly
import HandS.ExcOwn
import HandS.WordsExc
import HandS.Wide
import HandS.TupAny
import HandS.TupMul
import HandS.Deep
import HandS.TupLen
import HandS.Conv
import PyProof.DictMoreH
import HandS.TupLe
import HandS.Strs
import HandS.SetFor
import HandS.SortInts
import HandS.RaiseMore
import KE.DataMinMax
import KE.KDictKeyed
import PyProof.ReprReads
import PyProof.ReprRoads
import PyProof.ReprLen
import PyProof.FitsInt
import PyProof.StrLawsRepr
import HandS.IsInst
import HandS.SetKeys
import HandS.More
import PyProof.SeqIndex
import PyProof.FactsAll.tuple_2
import PyProof.FactsAll.tuple_3
import HandS.Star
import HandS.Style
import KE.GoesEnum
import HandS.Zip
import HandS.Iter
import HandS.HeadEnd
import HandS.HeadHook4
import HandS.Head2
import PySem.Challenge.RW_keptthings_k13_what_tables_are
set_option Elab.async false
set_option linter.all false
set_option maxRecDepth 100000
/-! PL: a small language with values and a heap; its functions are run by `callN`. -/
namespace PL

/-- values: `fl`, `fd` are lists and dicts that nobody changes any more; `ref` a live object; `rep d` the repr of the datum d; `ct` a tuple of the module's top; `cl` the script -/
inductive V where
  | non | bl (b : Bool) | int (i : Int) | str (s : List Nat)
  | tup (xs : List V) | fl (xs : List V) | fd (ks vs : List V)
  | ref (i : Nat) | rep (d : V) | ct (xs : List V) | cl (xs : List V)
  deriving Inhabited

mutual
def V.beq : V → V → Bool
  | .non, .non => true
  | .bl a, .bl b => decide (a = b)
  | .int a, .int b => decide (a = b)
  | .str a, .str b => decide (a = b)
  | .tup a, .tup b => V.beqs a b
  | .fl a, .fl b => V.beqs a b
  | .fd a c, .fd b d => V.beqs a b && V.beqs c d
  | .ref a, .ref b => decide (a = b)
  | .rep a, .rep b => V.beq a b
  | .ct a, .ct b => V.beqs a b
  | .cl a, .cl b => V.beqs a b
  | _, _ => false
def V.beqs : List V → List V → Bool
  | [], [] => true
  | x :: xs, y :: ys => V.beq x y && V.beqs xs ys
  | _, _ => false
end
mutual
theorem V.beq_eq : ∀ a b : V, V.beq a b = true → a = b
  | .non, b, h => by cases b <;> simp [V.beq] at h ⊢
  | .bl _, b, h => by cases b <;> simp [V.beq] at h ⊢; exact h
  | .int _, b, h => by cases b <;> simp [V.beq] at h ⊢; exact h
  | .str _, b, h => by cases b <;> simp [V.beq] at h ⊢; exact h
  | .tup xs, b, h => by cases b <;> simp [V.beq] at h ⊢; exact V.beqs_eq _ _ h
  | .fl xs, b, h => by cases b <;> simp [V.beq] at h ⊢; exact V.beqs_eq _ _ h
  | .fd xs ys, b, h => by
    cases b <;> simp [V.beq] at h ⊢
    exact ⟨V.beqs_eq _ _ h.1, V.beqs_eq _ _ h.2⟩
  | .ref _, b, h => by cases b <;> simp [V.beq] at h ⊢; exact h
  | .rep x, b, h => by cases b <;> simp [V.beq] at h ⊢; exact V.beq_eq _ _ h
  | .ct xs, b, h => by cases b <;> simp [V.beq] at h ⊢; exact V.beqs_eq _ _ h
  | .cl xs, b, h => by cases b <;> simp [V.beq] at h ⊢; exact V.beqs_eq _ _ h
theorem V.beqs_eq : ∀ a b : List V, V.beqs a b = true → a = b
  | [], b, h => by cases b <;> simp [V.beqs] at h ⊢
  | x :: xs, b, h => by
    cases b <;> simp [V.beqs] at h ⊢
    exact ⟨V.beq_eq _ _ h.1, V.beqs_eq _ _ h.2⟩
end
mutual
theorem V.beq_refl : ∀ a : V, V.beq a a = true
  | .non => by simp [V.beq]
  | .bl _ => by simp [V.beq]
  | .int _ => by simp [V.beq]
  | .str _ => by simp [V.beq]
  | .tup xs => by simp only [V.beq]; exact V.beqs_refl xs
  | .fl xs => by simp only [V.beq]; exact V.beqs_refl xs
  | .fd xs ys => by simp only [V.beq, V.beqs_refl xs, V.beqs_refl ys, Bool.and_self]
  | .ref _ => by simp [V.beq]
  | .rep x => by simp only [V.beq]; exact V.beq_refl x
  | .ct xs => by simp only [V.beq]; exact V.beqs_refl xs
  | .cl xs => by simp only [V.beq]; exact V.beqs_refl xs
theorem V.beqs_refl : ∀ a : List V, V.beqs a a = true
  | [] => by simp [V.beqs]
  | x :: xs => by simp only [V.beqs, V.beq_refl x, V.beqs_refl xs, Bool.and_self]
end
instance : DecidableEq V := fun a b =>
  if h : V.beq a b = true then .isTrue (V.beq_eq a b h) else .isFalse fun e => h (e ▸ V.beq_refl a)

/-- a live object: a list; a dict (tk: its keys are tuples of vints, else vints and texts) -/
inductive MO where
  | lst (xs : List V) | dct (tk : Bool) (ks vs : List V)
  deriving DecidableEq, Inhabited
abbrev Mem := List MO
structure X where
  cls : String
  arg : Option V
inductive R (α : Type) where
  | ok (a : α) (M : Mem) | exc (x : X) (M : Mem) | no
def R.bind {α β : Type} : R α → (α → Mem → R β) → R β
  | .ok a M, f => f a M
  | .exc x M, _ => .exc x M
  | .no, _ => .no
@[simp] theorem R.bind_ok {α β : Type} (a : α) (M : Mem) (f : α → Mem → R β) : R.bind (.ok a M) f = f a M := rfl
@[simp] theorem R.bind_no {α β : Type} (f : α → Mem → R β) : R.bind (.no : R α) f = .no := rfl
@[simp] theorem R.bind_exc {α β : Type} (x : X) (M : Mem) (f : α → Mem → R β) : R.bind (.exc x M : R α) f = .exc x M := rfl

def cs (s : String) : List Nat := s.toList.map Char.toNat

/-! ### reading values -/
mutual
def noref : V → Bool
  | .ref _ => false
  | .tup xs => norefs xs
  | .fl xs => norefs xs
  | .fd ks vs => norefs ks && norefs vs
  | .rep d => noref d
  | .ct xs => norefs xs
  | .cl xs => norefs xs
  | _ => true
def norefs : List V → Bool
  | [] => true
  | x :: xs => noref x && norefs xs
end
-- the datum of a value, live objects read by f
mutual
def rdW (f : Nat → Option V) : V → Option V
  | .ref i => f i
  | .tup xs => (rdWs f xs).map .tup
  | .fl xs => (rdWs f xs).map .fl
  | .fd ks vs => (rdWs f ks).bind fun a => (rdWs f vs).map fun b => .fd a b
  | v => some v
def rdWs (f : Nat → Option V) : List V → Option (List V)
  | [] => some []
  | x :: xs => (rdW f x).bind fun a => (rdWs f xs).map fun b => a :: b
end
def rd (M : Mem) : Nat → V → Option V
  | 0 => rdW fun _ => none
  | n + 1 => rdW fun i => match M[i]? with
    | some (.lst xs) => (rdWs (fun j => rd M n (.ref j)) xs).map .fl
    | some (.dct _ ks vs) => (rdWs (fun j => rd M n (.ref j)) ks).bind fun a => (rdWs (fun j => rd M n (.ref j)) vs).map fun b => .fd a b
    | none => none
mutual
/-- Python's == of two data -/
def eqV : V → V → Bool
  | .non, .non => true
  | .bl a, .bl b => a == b
  | .bl a, .int j => (if a then 1 else 0) == j
  | .int i, .bl b => i == (if b then 1 else 0)
  | .int i, .int j => i == j
  | .str a, .str b => decide (a = b)
  | .tup a, .tup b => eqVs a b
  | .fl a, .fl b => eqVs a b
  | _, _ => false
def eqVs : List V → List V → Bool
  | [], [] => true
  | x :: xs, y :: ys => eqV x y && eqVs xs ys
  | _, _ => false
end
-- how deep a datum is
mutual
def dep : V → Nat
  | .tup xs => deps xs + 1
  | .fl xs => deps xs + 1
  | .fd ks vs => max (deps ks) (deps vs) + 1
  | _ => 0
def deps : List V → Nat
  | [] => 0
  | x :: xs => max (dep x) (deps xs)
end
-- data that == is told of: no dict, no live object, no repr within
mutual
def plain : V → Bool
  | .tup xs => plains xs
  | .fl xs => plains xs
  | .fd _ _ | .ref _ | .rep _ | .ct _ | .cl _ => false
  | .str s => s.all fun c => decide (c < 1114112)
  | _ => true
def plains : List V → Bool
  | [] => true
  | x :: xs => plain x && plains xs
end
-- how long a repr may be
mutual
def wt : V → Nat
  | .int _ => 1904
  | .str s => 10 * s.length + 2
  | .tup xs => wts xs + 4
  | .fl xs => wts xs + 4
  | .fd ks vs => wts ks + wts vs + 4
  | .rep d => 10 * wt d + 2
  | _ => 6
def wts : List V → Nat
  | [] => 0
  | x :: xs => wt x + 4 + wts xs
end
mutual
/-- vints and texts whose repr is told -/
def shw : V → Bool
  | .int i => decide (i.natAbs < 2 ^ 1900)
  | .str s => s.all fun c => decide (c < 1114112)
  | .tup xs => shws xs
  | .fl xs => shws xs
  | .fd ks vs => shws ks && shws vs && decide (ks.length = vs.length)
  | .rep d => shw d
  | .ref _ | .ct _ | .cl _ => false
  | _ => true
def shws : List V → Bool
  | [] => true
  | x :: xs => shw x && shws xs
end
def keyish : V → Bool
  | .int _ => true
  | .str _ => true
  | _ => false
def isI : V → Bool
  | .int _ => true
  | _ => false
/-- a number, a tuple of numbers -/
def repd : V → Bool
  | .int _ => true
  | .tup xs => xs.all isI
  | _ => false
mutual
/-- data that repr is told of, dicts and texts that were told among it -/
def shp : V → Bool
  | .tup xs => shps xs
  | .fl xs => shps xs
  | .fd ks vs => ks.all keyish && shps ks && shps vs
  | .rep d => repd d
  | .ref _ | .ct _ | .cl _ => false
  | .str s => s.all fun c => decide (c < 1114112)
  | _ => true
def shps : List V → Bool
  | [] => true
  | x :: xs => shp x && shps xs
end
def SZ : Nat := 16777216
/-- the items of a list or tuple -/
def items (M : Mem) : V → Option (List V)
  | .tup xs => some xs
  | .fl xs => some xs
  | .ct xs => some xs
  | .cl xs => some xs
  | .ref i => match M[i]? with
    | some (.lst xs) => some xs
    | _ => none
  | _ => none
/-- .. of a list alone -/
def litems (M : Mem) : V → Option (List V)
  | .fl xs => some xs
  | .cl xs => some xs
  | .ref i => match M[i]? with
    | some (.lst xs) => some xs
    | _ => none
  | _ => none
/-- .. of a list that is not the script -/
def llst (M : Mem) : V → Option (List V)
  | .fl xs => some xs
  | .ref i => match M[i]? with
    | some (.lst xs) => some xs
    | _ => none
  | _ => none
def isTup : V → Bool
  | .tup _ => true
  | _ => false
/-- a dict's keys and values; whether its keys are tuples -/
def dkeys (M : Mem) : V → Option (Bool × List V × List V)
  | .fd (k :: ks) vs => some (isTup k, k :: ks, vs)
  | .ref i => match M[i]? with
    | some (.dct t ks vs) => some (t, ks, vs)
    | _ => none
  | _ => none
def vints : List V → Option (List Int)
  | [] => some []
  | .int i :: r => (vints r).map fun is => i :: is
  | _ => none
def bools : List V → Option (List Bool)
  | [] => some []
  | .bl i :: r => (bools r).map fun is => i :: is
  | _ => none
def alloc (o : MO) (M : Mem) : R V := .ok (.ref M.length) (M ++ [o])

/-! ### dicts -/
/-- a key: an int or a text; or a tuple of these -/
def key1 : V → Bool
  | .int _ => true
  | .str _ => true
  | _ => false
def keyT : V → Bool
  | .tup xs => (vints xs).isSome
  | _ => false
def dgetV : List V → List V → V → Option V
  | k :: ks, v :: vs, x => if k = x then some v else dgetV ks vs x
  | _, _, _ => none
/-- whether a key can be asked of a dict with such keys -/
def keyOk (t : Bool) (x : V) : Bool := if t then keyT x else key1 x
def putAll : List V → List V → V → V → List V
  | k :: ks, v :: vs, x, y => (if k = x then y else v) :: putAll ks vs x y
  | _, _, _, _ => []
def dputV (ks vs : List V) (x y : V) : List V × List V :=
  if (ks.any fun k => decide (k = x)) = true then (ks, putAll ks vs x y) else (ks ++ [x], vs ++ [y])

/-- a display's keys and values -/
def dispK : List V → Option (List V × List V)
  | [] => some ([], [])
  | k :: v :: r => (dispK r).bind fun p => if key1 k && p.1.all key1 && !(p.1.contains k) && decide (p.1.length < 15) then some (k :: p.1, v :: p.2) else none
  | _ => none

/-! ### operators -/
inductive Op | add | sub | mul | fdiv | mod | pow deriving DecidableEq
inductive Cm | eq | ne | lt | le | gt | ge | isin | notin deriving DecidableEq
def mulOk (i j : Int) : Bool := decide (i.natAbs < 2 ^ 64) || decide (j.natAbs < 2 ^ 64) || (decide (i.natAbs < 2 ^ 4000) && decide (j.natAbs < 2 ^ 4000))
def rept {α : Type} (k : Nat) (xs : List α) : List α := (List.replicate k xs).flatten
def addV (M : Mem) (x y : V) : R V :=
  match x, y with
  | .int i, .int j => .ok (.int (i + j)) M
  | .str a, .str b => if a.length + b.length ≤ SZ then .ok (.str (a ++ b)) M else .no
  | .tup a, .tup b => if a.length + b.length ≤ SZ then .ok (.tup (a ++ b)) M else .no
  | x, y => match llst M x, llst M y with
    | some a, some b => if a.length + b.length ≤ SZ then alloc (.lst (a ++ b)) M else .no
    | _, _ => .no
def subV (M : Mem) (x y : V) : R V :=
  match x, y with
  | .int i, .int j => .ok (.int (i - j)) M
  | _, _ => .no
def mulV (M : Mem) (x y : V) : R V :=
  match y with
  | .int k => match x with
    | .int i => if mulOk i k then .ok (.int (i * k)) M else .no
    | .tup a => if 2 ≤ k ∧ k ≤ 1000 ∧ a.length ≤ 1000 ∧ a ≠ [] then .ok (.tup (rept k.toNat a)) M else .no
    | x => match llst M x with
      | some a => if 0 ≤ k ∧ k ≤ 10000 ∧ a.length ≤ 1000 then alloc (.lst (rept k.toNat a)) M else .no
      | none => .no
  | _ => .no
def fdivV (M : Mem) (x y : V) : R V :=
  match x, y with
  | .int i, .int j => if 0 < j ∧ j.natAbs < 2 ^ 4000 then .ok (.int (i / j)) M else .no
  | _, _ => .no
def modV (M : Mem) (x y : V) : R V :=
  match x, y with
  | .int i, .int j => if 0 < j then .ok (.int (i % j)) M else .no
  | _, _ => .no
def powV (M : Mem) (x y : V) : R V :=
  match x, y with
  | .int i, .int j => if 0 ≤ j ∧ j ≤ 1000 ∧ i.natAbs < 2 ^ 64 then .ok (.int (i ^ j.toNat)) M else .no
  | _, _ => .no
def binop (M : Mem) : Op → V → V → R V
  | .add, x, y => addV M x y
  | .sub, x, y => subV M x y
  | .mul, x, y => mulV M x y
  | .fdiv, x, y => fdivV M x y
  | .mod, x, y => modV M x y
  | .pow, x, y => powV M x y
def lexLe : List Int → List Int → Bool
  | [], _ => true
  | _ :: _, [] => false
  | x :: xs, y :: ys => if x = y then lexLe xs ys else decide (x < y)
def lexLt : List Int → List Int → Bool
  | _, [] => false
  | [], _ :: _ => true
  | x :: xs, y :: ys => if x = y then lexLt xs ys else decide (x < y)
def RDN : Nat := 6
/-- == of data -/
def eqD (M : Mem) (x y : V) : Option Bool :=
  match rd M RDN x, rd M RDN y with
  | some a, some b => if plain a && plain b && decide (dep a ≤ 60) && decide (dep b ≤ 60) then some (eqV a b) else none
  | _, _ => none
/-- == -/
def eqM (M : Mem) (x y : V) : Option Bool :=
  match x, y with
  | .rep a, .rep b => if a = b then some true else none
  | _, _ => eqD M x y
def inM (M : Mem) (x : V) : List V → Option Bool
  | [] => some false
  | y :: ys => (eqD M y x).bind fun b => (inM M x ys).map fun c => b || c
def inOp (M : Mem) (x y : V) : Option Bool :=
  match y with
  | .str _ => none
  | y => match items M y with
    | some ys => inM M x ys
    | none => match dkeys M y with
      | some p => if keyOk p.1 x then some (dgetV p.2.1 p.2.2 x).isSome else none
      | none => none
def intC (p : Int → Int → Bool) (x y : V) : Option Bool :=
  match x, y with
  | .int i, .int j => some (p i j)
  | _, _ => none
def leV (x y : V) : Option Bool :=
  match x, y with
  | .int i, .int j => some (decide (i ≤ j))
  | .tup a, .tup b => match vints a, vints b with
    | some is, some js => some (lexLe is js)
    | _, _ => none
  | _, _ => none
def ltV (x y : V) : Option Bool :=
  match x, y with
  | .int i, .int j => some (decide (i < j))
  | .tup a, .tup b => match vints a, vints b with
    | some is, some js => some (lexLt is js)
    | _, _ => none
  | _, _ => none
def cmpop (M : Mem) : Cm → V → V → Option Bool
  | .eq, x, y => eqM M x y
  | .ne, x, y => (eqM M x y).map (!·)
  | .isin, x, y => inOp M x y
  | .notin, x, y => (inOp M x y).map (!·)
  | .lt, x, y => ltV x y
  | .le, x, y => leV x y
  | .gt, x, y => intC (fun i j => decide (j < i)) x y
  | .ge, x, y => intC (fun i j => decide (j ≤ i)) x y
/-- an index, a slice's end, brought into a sequence of n -/
def nIx (n : Nat) (i : Int) : Option Nat := if 0 ≤ i then (if i < n then some i.toNat else none) else if -(n : Int) ≤ i then some (i + n).toNat else none
def sIx (n d : Nat) : Option Int → Nat
  | none => d
  | some v => if v < 0 then (v + (n : Int)).toNat else min v.toNat n
def cut {α : Type} (xs : List α) (lo hi : Option Int) : List α := (xs.drop (sIx xs.length 0 lo)).take (sIx xs.length xs.length hi - sIx xs.length 0 lo)
def index (M : Mem) (o i : V) : Option V :=
  match dkeys M o with
  | some (t, ks, vs) => if keyOk t i then dgetV ks vs i else none
  | none => match i with
    | .int k => match items M o with
      | some xs => (nIx xs.length k).bind fun j => xs[j]?
      | none => none
    | _ => none
def slice (M : Mem) (o : V) (lo hi : Option Int) : R V :=
  match o with
  | .tup xs => .ok (.tup (cut xs lo hi)) M
  | .str _ => .no
  | _ => match litems M o with
    | some xs => alloc (.lst (cut xs lo hi)) M
    | none => .no

/-! ### what is built in -/
inductive Ty | int | bool | str | tuple | list | dict deriving DecidableEq
def isTy (M : Mem) (v : V) : Ty → Bool
  | .int => match v with | .int _ | .bl _ => true | _ => false
  | .bool => match v with | .bl _ => true | _ => false
  | .str => match v with | .str _ | .rep _ => true | _ => false
  | .tuple => match v with | .tup _ | .ct _ => true | _ => false
  | .list => (litems M v).isSome
  | .dict => match v with | .fd _ _ => true | .ref i => (match M[i]? with | some (.dct _ _ _) => true | _ => false) | _ => false
/-- what isinstance is told of -/
def tyOk (M : Mem) : V → Bool
  | .fd (k :: _) _ => !isTup k
  | .ref i => match M[i]? with
    | some (.dct t _ _) => !t
    | _ => true
  | _ => true
inductive Pr
  | len | abs | int | repr | tuple | list | max | min | sum | any | all | sorted | sortedSet | bool | str | dictT
  deriving DecidableEq
def insI (x : Int) : List Int → List Int
  | [] => [x]
  | y :: ys => if x ≤ y then x :: y :: ys else y :: insI x ys
def sortI : List Int → List Int
  | [] => []
  | x :: xs => insI x (sortI xs)
def dedup : List Int → List Int
  | [] => []
  | x :: xs => if xs.contains x then dedup xs else x :: dedup xs
def maxI (m : Int) (xs : List Int) : Int := xs.foldl max m
def minI (m : Int) (xs : List Int) : Int := xs.foldl min m
def pLen (M : Mem) (x : V) : R V :=
  match items M x with
  | some xs => .ok (.int xs.length) M
  | none => match dkeys M x with
    | some p => .ok (.int p.2.1.length) M
    | none => match x with
      | .str s => if s.length ≤ SZ then .ok (.int s.length) M else .no
      | _ => .no
def pAbs (M : Mem) (x : V) : R V :=
  match x with
  | .int i => .ok (.int (if i < 0 then -i else i)) M
  | _ => .no
def pInt (M : Mem) (x : V) : R V :=
  match x with
  | .int i => .ok (.int i) M
  | .bl b => .ok (.int (if b then 1 else 0)) M
  | _ => .no
def pRepr (M : Mem) (x : V) : R V :=
  match rd M RDN x with
  | some d => if (plain d || shp d) && shw d && decide (wt d ≤ SZ) && decide (dep d ≤ 60) then .ok (.rep d) M else .no
  | none => .no
def pTuple (M : Mem) (x : V) : R V :=
  match x with
  | .tup xs => .ok (.tup xs) M
  | x => match litems M x with
    | some xs => .ok (.tup xs) M
    | none => .no
def pList (M : Mem) (x : V) : R V :=
  match items M x with
  | some xs => alloc (.lst xs) M
  | none => match x with
    | .ref i => match M[i]? with
      | some (.dct _ ks _) => alloc (.lst ks) M
      | _ => .no
    | _ => .no
def pInts (f : Int → List Int → V) (M : Mem) (x : V) : R V :=
  match (items M x).bind vints with
  | some (i :: r) => .ok (f i r) M
  | _ => .no
def pMax2 (M : Mem) (x y : V) : R V :=
  match x, y with
  | .int i, .int j => .ok (.int (if j > i then j else i)) M
  | _, _ => .no
def pMin2 (M : Mem) (x y : V) : R V :=
  match x, y with
  | .int i, .int j => .ok (.int (if j < i then j else i)) M
  | _, _ => .no
def pSum (M : Mem) (x : V) : R V :=
  match (litems M x).bind vints with
  | some is => .ok (.int is.sum) M
  | none => .no
def pBools (f : List Bool → Bool) (M : Mem) (x : V) : R V :=
  match (litems M x).bind bools with
  | some bs => .ok (.bl (f bs)) M
  | none => .no
def pSorted (M : Mem) (x : V) : R V :=
  match (litems M x).bind vints with
  | some is => alloc (.lst ((sortI is).map .int)) M
  | none => .no
def pSortedSet (M : Mem) (x : V) : R V :=
  match x with
  | .tup xs => match vints xs with
    | some is => if is.length < 64 then alloc (.lst ((sortI (dedup is)).map .int)) M else .no
    | none => .no
  | _ => .no
/-- the entries of pairs (key, value), the keys tuples of vints -/
def pairK : List V → List V × List V → Option (List V × List V)
  | [], p => some p
  | .tup [k, v] :: r, p => if keyT k then pairK r (dputV p.1 p.2 k v) else none
  | _, _ => none
def pDictT (M : Mem) (x : V) : R V :=
  match litems M x with
  | some xs => match pairK xs ([], []) with
    | some p => alloc (.dct true p.1 p.2) M
    | none => .no
  | none => .no
def pStr (M : Mem) (x : V) : R V :=
  match x with
  | .int i => if i.natAbs < 2 ^ 1900 then .ok (.rep (.int i)) M else .no
  | .tup xs => if xs.all isI && shws xs && decide (wt (.tup xs) ≤ SZ) then .ok (.rep (.tup xs)) M else .no
  | _ => .no
def prim1 (M : Mem) : Pr → V → R V
  | .len, x => pLen M x
  | .abs, x => pAbs M x
  | .int, x => pInt M x
  | .repr, x => pRepr M x
  | .tuple, x => pTuple M x
  | .list, x => pList M x
  | .max, x => pInts (fun i r => .int (maxI i r)) M x
  | .min, x => pInts (fun i r => .int (minI i r)) M x
  | .sum, x => pSum M x
  | .any, x => pBools (fun bs => bs.any id) M x
  | .all, x => pBools (fun bs => bs.all id) M x
  | .sorted, x => pSorted M x
  | .sortedSet, x => pSortedSet M x
  | .str, x => pStr M x
  | .dictT, x => pDictT M x
  | .bool, _ => .no
def prim2 (M : Mem) : Pr → V → V → R V
  | .max, x, y => pMax2 M x y
  | .min, x, y => pMin2 M x y
  | _, _, _ => .no
def prim (M : Mem) (p : Pr) : List V → R V
  | [x] => prim1 M p x
  | [x, y] => prim2 M p x y
  | _ => .no

/-! ### methods -/
inductive Mt | append | extend | pop | popAt | insert | count | index | get | setdefault | reverse deriving DecidableEq
/-- what may be stored into an object -/
def wOk (mk i : Nat) (v : V) : Bool := decide (mk ≤ i) || noref v
def countM (M : Mem) (x : V) : List V → Option Nat
  | [] => some 0
  | y :: ys => (eqD M y x).bind fun b => (countM M x ys).map fun n => if b then n + 1 else n
def indexM (M : Mem) (x : V) : List V → Option (Option Nat)
  | [] => some none
  | y :: ys => (eqD M y x).bind fun b => (indexM M x ys).map fun r => if b then some 0 else r.map (· + 1)
def mAppend (mk : Nat) (M : Mem) (i : Nat) (v : V) : R V :=
  match M[i]? with
  | some (.lst xs) => if wOk mk i v && decide (xs.length < SZ) then .ok .non (M.set i (.lst (xs ++ [v]))) else .no
  | _ => .no
def mExtend (mk : Nat) (M : Mem) (i : Nat) (x : V) : R V :=
  match M[i]?, llst M x with
  | some (.lst xs), some ys => if wOk mk i (.tup ys) && decide (xs.length + ys.length ≤ SZ) then .ok .non (M.set i (.lst (xs ++ ys))) else .no
  | _, _ => .no
def mPop (M : Mem) (i : Nat) : R V :=
  match M[i]? with
  | some (.lst xs) => match xs.getLast? with
    | some y => .ok y (M.set i (.lst xs.dropLast))
    | none => .no
  | _ => .no
def mPopAt (M : Mem) (i : Nat) (k : Int) : R V :=
  match M[i]? with
  | some (.lst xs) => match (nIx xs.length k).bind fun j => (xs[j]?).map fun y => (j, y) with
    | some p => .ok p.2 (M.set i (.lst (xs.eraseIdx p.1)))
    | none => .no
  | _ => .no
def mInsert (mk : Nat) (M : Mem) (i : Nat) (k : Int) (v : V) : R V :=
  match M[i]? with
  | some (.lst xs) => if wOk mk i v && decide (xs.length < SZ) && decide (0 ≤ k) && decide (k ≤ xs.length) then .ok .non (M.set i (.lst (xs.take k.toNat ++ v :: xs.drop k.toNat))) else .no
  | _ => .no
def mReverse (M : Mem) (i : Nat) : R V :=
  match M[i]? with
  | some (.lst xs) => .ok .non (M.set i (.lst xs.reverse))
  | _ => .no
def mCount (M : Mem) (o x : V) : R V :=
  match (items M o).bind fun xs => countM M x xs with
  | some n => .ok (.int n) M
  | none => .no
def mIndex (M : Mem) (o x : V) : R V :=
  match (items M o).bind fun xs => indexM M x xs with
  | some (some n) => .ok (.int n) M
  | _ => .no
def mGet (M : Mem) (o x d : V) : R V :=
  match dkeys M o with
  | some p => if keyOk p.1 x then .ok ((dgetV p.2.1 p.2.2 x).getD d) M else .no
  | none => .no
def mSetd (mk : Nat) (M : Mem) (i : Nat) (x y : V) : R V :=
  match M[i]? with
  | some (.dct t ks vs) => if keyOk t x && decide (ks.length < SZ) then
      match dgetV ks vs x with
      | some v => .ok v M
      | none => if wOk mk i x && wOk mk i y then .ok y (M.set i (.dct t (ks ++ [x]) (vs ++ [y]))) else .no
    else .no
  | _ => .no
def meth0 (M : Mem) : Mt → V → R V
  | .pop, .ref i => mPop M i
  | .reverse, .ref i => mReverse M i
  | _, _ => .no
def meth1 (mk : Nat) (M : Mem) : Mt → V → V → R V
  | .append, .ref i, v => mAppend mk M i v
  | .extend, .ref i, x => mExtend mk M i x
  | .popAt, .ref i, .int k => mPopAt M i k
  | .count, o, x => mCount M o x
  | .index, o, x => mIndex M o x
  | .get, o, x => mGet M o x .non
  | _, _, _ => .no
def meth2 (mk : Nat) (M : Mem) : Mt → V → V → V → R V
  | .insert, .ref i, .int k, v => mInsert mk M i k v
  | .get, o, x, y => mGet M o x y
  | .setdefault, .ref i, x, y => mSetd mk M i x y
  | _, _, _, _ => .no
def meth (mk : Nat) (M : Mem) (m : Mt) (o : V) : List V → R V
  | [] => meth0 M m o
  | [x] => meth1 mk M m o x
  | [x, y] => meth2 mk M m o x y
  | _ => .no
/-- the type of what has methods -/
inductive RT | list | tuple | dict deriving DecidableEq
def tyR (M : Mem) : V → Option RT
  | .tup _ => some .tuple
  | .fl _ => some .list
  | .fd _ _ => some .dict
  | .ref i => match M[i]? with
    | some (.lst _) => some .list
    | some (.dct _ _ _) => some .dict
    | none => none
  | _ => none
def hasM : Mt → RT → Bool
  | .append, .list | .extend, .list | .pop, .list | .popAt, .list | .insert, .list | .reverse, .list | .count, .list | .index, .list => true
  | .count, .tuple | .index, .tuple => true
  | .get, .dict | .setdefault, .dict => true
  | _, _ => false
def recvOk (M : Mem) (m : Mt) (x : V) : Bool :=
  match tyR M x with
  | some t => hasM m t
  | none => false
/-- o[i] = v -/
def put (mk : Nat) (M : Mem) (o i v : V) : Option Mem :=
  match o with
  | .ref a => match M[a]? with
    | some (.lst xs) => match i with
      | .int k => (nIx xs.length k).bind fun j => if wOk mk a v then some (M.set a (.lst (xs.set j v))) else none
      | _ => none
    | some (.dct t ks vs) => if keyOk t i && decide (ks.length < SZ) && wOk mk a i && wOk mk a v then some (M.set a (.dct t (dputV ks vs i v).1 (dputV ks vs i v).2)) else none
    | _ => none
  | _ => none

/-! ### the syntax -/
mutual
inductive E where
  | var (i : Nat)
  | cst (v : V)
  | glb (x : String) (v : V)
  | bin (o : Op) (a b : E)
  | neg (a : E)
  | not (a : E)
  | bop (o : Bool) (es : Es)
  | cmp (o : Cm) (a b : E)
  | chn (o p : Cm) (a b c : E)
  | isN (neg : Bool) (a : E)
  | isi (a : E) (t : Ty)
  | isB (neg : Bool) (c : Bool) (a : E)
  | rev (a : E)
  | dnt
  | ite (c a b : E)
  | tup (es : Es)
  | lst (es : Es)
  | dsp (kvs : Es)
  | idx (a i : E)
  | slc (a : E) (lo hi : Eo)
  | fn (f : String) (es : Es)
  | fnk (f : String) (es : Es) (kws : Es) (ks : List String)
  | pr (p : Pr) (es : Es)
  | mt (m : Mt) (o : E) (es : Es)
  | comp (t : Tg) (it : It) (c : Eo) (e : E)
  | dcomp (t : Tg) (it : It) (c : Eo) (k v : E)
  | lrng (a b : E)
  deriving Inhabited
inductive Es where
  | nil | cons (e : E) (r : Es) | star (e : E) (r : Es)
inductive Eo where
  | none | some (e : E)
inductive It where
  | of (e : E) | rng1 (a : E) | rng2 (a b : E) | rng3 (a b c : E) | enum (e : E) | zip (a b : E) | items (e : E) | values (e : E)
inductive Tg where
  | nm (i : Nat) | tp (ts : Tgs)
inductive Tgs where
  | nil | cons (t : Tg) (r : Tgs)
end
mutual
inductive S where
  | set (t : Tg) (e : E)
  | par (is : List Nat) (es : Es)
  | put (o i e : E)
  | ex (e : E)
  | ret (e : E)
  | retN
  | iff (c : E) (a b : Ss)
  | for (t : Tg) (it : It) (b : Ss)
  | whl (c : E) (b : Ss)
  | brk
  | pass
  | rai (c : String) (a : Eo)
  | tri (b : Ss) (c : String) (x : Option Nat) (h : Ss)
inductive Ss where
  | nil | cons (s : S) (r : Ss)
end

/-! ### its meaning -/
abbrev Env := List (Option V)
def lk : Env → Nat → Option V
  | [], _ => none
  | x :: _, 0 => x
  | _ :: r, n + 1 => lk r n
def stv : Env → Nat → V → Env
  | [], _, _ => []
  | _ :: r, 0, v => some v :: r
  | x :: r, n + 1, v => x :: stv r n v
@[simp] theorem lk_zero (x : Option V) (r : Env) : lk (x :: r) 0 = x := rfl
@[simp] theorem lk_succ (x : Option V) (r : Env) (n : Nat) : lk (x :: r) (n + 1) = lk r n := rfl
@[simp] theorem stv_zero (x : Option V) (r : Env) (v : V) : stv (x :: r) 0 v = some v :: r := rfl
@[simp] theorem stv_succ (x : Option V) (r : Env) (n : Nat) (v : V) : stv (x :: r) (n + 1) v = x :: stv r n v := rfl
mutual
def asg : Tg → V → Env → Option Env
  | .nm i, v, σ => some (stv σ i v)
  | .tp ts, .tup xs, σ => asgs ts xs σ
  | .tp ts, .fl xs, σ => asgs ts xs σ
  | .tp _, _, _ => none
def asgs : Tgs → List V → Env → Option Env
  | .nil, [], σ => some σ
  | .cons t r, x :: xs, σ => (asg t x σ).bind fun σ' => asgs r xs σ'
  | _, _, _ => none
end
/-- a target takes a value: a list, too -/
def asgM (M : Mem) (t : Tg) (v : V) (σ : Env) : Option Env :=
  match t with
  | .nm i => asg (.nm i) v σ
  | .tp ts => match llst M v with
    | some xs => asgs ts xs σ
    | none => asg (.tp ts) v σ
/-- x is True, x is False -/
def isBV (c : Bool) : V → Bool
  | .bl b => decide (b = c)
  | _ => false
def pars : List Nat → List V → Env → Option Env
  | [], [], σ => some σ
  | i :: is, x :: xs, σ => pars is xs (stv σ i x)
  | _, _, _ => none

abbrev Orc := Nat → String → List V → Mem → R V
/-- what is walked: the items, and the live lists whose items they are -/
abbrev Src := List V × List (Nat × List V)
def srcOf (M : Mem) (v : V) : Option Src :=
  match v with
  | .tup xs => some (xs, [])
  | .fl xs => some (xs, [])
  | .ct xs => some (xs, [])
  | .cl xs => some (xs, [])
  | .ref i => match M[i]? with
    | some (.lst xs) => some (xs, [(i, xs)])
    | _ => none
  | _ => none
def watched (w : List (Nat × List V)) (M : Mem) : Bool := w.all fun p => decide (M[p.1]? = some (.lst p.2))
def isT : V → Bool
  | .tup _ | .ct _ => true
  | _ => false
def ranged (lo : Int) (n : Nat) : List V := (List.range n).map fun k => .int (lo + (k : Nat))
def enumed : Nat → List V → List V
  | _, [] => []
  | k, x :: xs => .tup [.int k, x] :: enumed (k + 1) xs
def zipped : List V → List V → List V
  | x :: xs, y :: ys => .tup [x, y] :: zipped xs ys
  | _, _ => []
def rOk (i : Int) : Bool := decide (-(2 ^ 62) ≤ i) && decide (i < 2 ^ 62)
def src1 (M : Mem) (v : V) : R Src := match srcOf M v with | some s => .ok s M | none => .no
def srcE (M : Mem) (v : V) : R Src := match srcOf M v with | some s => .ok (enumed 0 s.1, s.2) M | none => .no
def srcZ (M : Mem) (v w : V) : R Src := match srcOf M v, srcOf M w with
  | some a, some b => if isT v = isT w then .ok (zipped a.1 b.1, a.2 ++ b.2) M else .no
  | _, _ => .no
def srcR (M : Mem) (v w : V) : R Src := match v, w with
  | .int i, .int j => if rOk i && rOk j then .ok (ranged i (j - i).toNat, []) M else .no
  | _, _ => .no
def srcR3 (M : Mem) (v w c : V) : R Src := match v, w, c with
  | .int i, .int j, .int c => if rOk i && rOk j && decide (c = -1) then .ok ((List.range (i - j).toNat).map fun k => .int (i - (k : Nat)), []) M else .no
  | _, _, _ => .no
/-- the items of a comprehension, one after another; its list is the live object j -/
def compL (j : Nat) (w : List (Nat × List V)) (t : Tg) (c : Env → Mem → R V) (e : Env → Mem → R V) (σ : Env) : List V → Mem → R Unit
  | [], M => if watched w M then .ok () M else .no
  | x :: xs, M => if watched w M then
      match asg t x σ with
      | none => .no
      | some σ' => (c σ' M).bind fun b M1 => match b with
        | .bl true => (e σ' M1).bind fun y M2 => match M2[j]? with
          | some (.lst acc) => if acc.length < SZ then compL j w t c e σ xs (M2.set j (.lst (acc ++ [y]))) else .no
          | _ => .no
        | .bl false => compL j w t c e σ xs M1
        | _ => .no
    else .no
def starred (M : Mem) (v : V) : Option (List V) := items M v
/-- the order of a call's arguments: positional, then by name -/
def idxOf (k : String) : List String → Option Nat
  | [] => none
  | x :: xs => if x = k then some 0 else (idxOf k xs).map (· + 1)
def idxs (ks : List String) (n : Nat) : List String → Option (List Nat)
  | [] => some []
  | p :: r => (idxOf p ks).bind fun j => (idxs ks n r).map fun t => (n + j) :: t
def permIdx (ps : List String) (n : Nat) (ks : List String) : Option (List Nat) :=
  if n + ks.length = ps.length ∧ (ks.all fun k => (ps.drop n).contains k) = true ∧ ks.Nodup then (idxs ks n (ps.drop n)).map fun r => List.range n ++ r else none
def pick {α : Type} (vs : List α) : List Nat → Option (List α)
  | [] => some []
  | i :: r => (vs[i]?).bind fun v => (pick vs r).map fun t => v :: t
def noExc {α : Type} : R α → R α
  | .exc _ _ => .no
  | r => r

section
variable (P : String → Option (List String)) (C : Orc) (mk : Nat)
mutual
def ev : E → Env → Mem → R V
  | .var i, σ, M => match lk σ i with
    | some v => .ok v M
    | none => .no
  | .cst v, _, M => .ok v M
  | .glb _ v, _, M => .ok v M
  | .bin o a b, σ, M => (ev a σ M).bind fun x M1 => (ev b σ M1).bind fun y M2 => binop M2 o x y
  | .neg a, σ, M => (ev a σ M).bind fun x M1 => match x with
    | .int i => .ok (.int (-i)) M1
    | _ => .no
  | .not a, σ, M => (ev a σ M).bind fun x M1 => match x with
    | .bl b => .ok (.bl (!b)) M1
    | _ => .no
  | .bop o es, σ, M => evb o es σ M
  | .cmp o a b, σ, M => (ev a σ M).bind fun x M1 => (ev b σ M1).bind fun y M2 => match cmpop M2 o x y with
    | some c => .ok (.bl c) M2
    | none => .no
  | .chn o p a b c, σ, M => (ev a σ M).bind fun x M1 => (ev b σ M1).bind fun y M2 => match cmpop M2 o x y with
    | some true => (ev c σ M2).bind fun z M3 => match cmpop M3 p y z with
      | some d => .ok (.bl d) M3
      | none => .no
    | some false => .ok (.bl false) M2
    | none => .no
  | .isN n a, σ, M => (ev a σ M).bind fun x M1 => .ok (.bl (if n then !decide (x = .non) else decide (x = .non))) M1
  | .isi a t, σ, M => (ev a σ M).bind fun x M1 => if tyOk M1 x then .ok (.bl (isTy M1 x t)) M1 else .no
  | .isB n c a, σ, M => (ev a σ M).bind fun x M1 => .ok (.bl (if n then !isBV c x else isBV c x)) M1
  | .rev a, σ, M => (ev a σ M).bind fun x M1 => match litems M1 x with
    | some xs => alloc (.lst xs.reverse) M1
    | none => .no
  | .dnt, _, M => alloc (.dct true [] []) M
  | .ite c a b, σ, M => (ev c σ M).bind fun x M1 => match x with
    | .bl true => ev a σ M1
    | .bl false => ev b σ M1
    | _ => .no
  | .tup es, σ, M => (evs es σ M).bind fun xs M1 => if xs.length ≤ SZ then .ok (.tup xs) M1 else .no
  | .lst es, σ, M => (evs es σ M).bind fun xs M1 => if xs.length ≤ SZ then alloc (.lst xs) M1 else .no
  | .dsp kvs, σ, M => (evs kvs σ (M ++ [.dct false [] []])).bind fun xs M1 => match dispK xs, M1[M.length]? with
    | some p, some (.dct false [] []) => .ok (.ref M.length) (M1.set M.length (.dct false p.1 p.2))
    | _, _ => .no
  | .idx a i, σ, M => (ev a σ M).bind fun x M1 => (ev i σ M1).bind fun y M2 => match index M2 x y with
    | some v => .ok v M2
    | none => .no
  | .slc a lo hi, σ, M => (ev a σ M).bind fun x M1 => (evo lo σ M1).bind fun l M2 => (evo hi σ M2).bind fun h M3 => slice M3 x l h
  | .fn f es, σ, M => (evs es σ M).bind fun xs M1 => C mk f xs M1
  | .fnk f es kws ks, σ, M => (evs es σ M).bind fun xs M1 => (evs kws σ M1).bind fun ys M2 => if ys.length = ks.length then
      match (P f).bind fun ps => (permIdx ps xs.length ks).bind fun is => pick (xs ++ ys) is with
      | some zs => C mk f zs M2
      | none => .no
    else .no
  | .pr p es, σ, M => (evs es σ M).bind fun xs M1 => prim M1 p xs
  | .mt m o es, σ, M => (ev o σ M).bind fun x M1 => if recvOk M1 m x then (evs es σ M1).bind fun xs M2 => meth mk M2 m x xs else .no
  | .comp t it c e, σ, M => (evi it σ M).bind fun s M1 => (noExc (compL M1.length s.2 t (fun σ' M' => evc c σ' M') (fun σ' M' => ev e σ' M') σ s.1 (M1 ++ [.lst []]))).bind fun _ M2 => .ok (.ref M1.length) M2
  | .dcomp t it c k v, σ, M => .no
  | .lrng a b, σ, M => (ev a σ M).bind fun x M1 => (ev b σ M1).bind fun y M2 => match x, y with
    | .int i, .int j => if rOk i && rOk j && decide ((j - i).toNat ≤ SZ) then alloc (.lst (ranged i (j - i).toNat)) M2 else .no
    | _, _ => .no
def evb (o : Bool) : Es → Env → Mem → R V
  | .nil, _, _ => .no
  | .star _ _, _, _ => .no
  | .cons e .nil, σ, M => (ev e σ M).bind fun x M1 => match x with
    | .bl c => .ok (.bl c) M1
    | _ => .no
  | .cons e r, σ, M => (ev e σ M).bind fun x M1 => match x with
    | .bl c => if c = o then evb o r σ M1 else .ok (.bl c) M1
    | _ => .no
def evs : Es → Env → Mem → R (List V)
  | .nil, _, M => .ok [] M
  | .cons e r, σ, M => (ev e σ M).bind fun x M1 => (evs r σ M1).bind fun xs M2 => .ok (x :: xs) M2
  | .star e r, σ, M => (ev e σ M).bind fun x M1 => match starred M1 x with
    | some ys => (evs r σ M1).bind fun xs M2 => .ok (ys ++ xs) M2
    | none => .no
def evo : Eo → Env → Mem → R (Option Int)
  | .none, _, M => .ok none M
  | .some e, σ, M => (ev e σ M).bind fun x M1 => match x with
    | .int i => .ok (some i) M1
    | _ => .no
def evr : Eo → Env → Mem → R (Option V)
  | .none, _, M => .ok none M
  | .some e, σ, M => (ev e σ M).bind fun x M1 => .ok (some x) M1
def evc : Eo → Env → Mem → R V
  | .none, _, M => .ok (.bl true) M
  | .some e, σ, M => ev e σ M
def evi : It → Env → Mem → R Src
  | .of e, σ, M => (ev e σ M).bind fun x M1 => src1 M1 x
  | .rng1 a, σ, M => (ev a σ M).bind fun x M1 => srcR M1 (.int 0) x
  | .rng2 a b, σ, M => (ev a σ M).bind fun x M1 => (ev b σ M1).bind fun y M2 => srcR M2 x y
  | .rng3 a b c, σ, M => (ev a σ M).bind fun x M1 => (ev b σ M1).bind fun y M2 => (ev c σ M2).bind fun z M3 => srcR3 M3 x y z
  | .enum e, σ, M => (ev e σ M).bind fun x M1 => srcE M1 x
  | .zip a b, σ, M => (ev a σ M).bind fun x M1 => (ev b σ M1).bind fun y M2 => srcZ M2 x y
  | .items _, _, _ => .no
  | .values _, _, _ => .no
end

/-- how a block ends -/
inductive Rs where
  | nx (σ : Env) (M : Mem) | rt (v : V) (M : Mem) | bk (σ : Env) (M : Mem) | exc (x : X) (σ : Env) (M : Mem) | no
def R.toS : R V → Env → (V → Mem → Rs) → Rs
  | .ok v M, _, f => f v M
  | .exc x M, σ, _ => .exc x σ M
  | .no, _, _ => .no
def R.toSl {α : Type} : R α → Env → (α → Mem → Rs) → Rs
  | .ok v M, _, f => f v M
  | .exc x M, σ, _ => .exc x σ M
  | .no, _, _ => .no
@[simp] theorem R.toS_ok (v : V) (M : Mem) (σ : Env) (f) : (R.ok v M).toS σ f = f v M := rfl
@[simp] theorem R.toS_no (σ : Env) (f) : (R.no : R V).toS σ f = .no := rfl
@[simp] theorem R.toSl_ok {α : Type} (v : α) (M : Mem) (σ : Env) (f) : (R.ok v M).toSl σ f = f v M := rfl
@[simp] theorem R.toSl_no {α : Type} (σ : Env) (f) : (R.no : R α).toSl σ f = .no := rfl
def forL (w : List (Nat × List V)) (t : Tg) (b : Env → Mem → Rs) : List V → Env → Mem → Rs
  | [], σ, M => if watched w M then .nx σ M else .no
  | x :: xs, σ, M => if watched w M then
      match asg t x σ with
      | none => .no
      | some σ' => match b σ' M with
        | .nx σ1 M1 => forL w t b xs σ1 M1
        | .bk σ1 M1 => .nx σ1 M1
        | r => r
    else .no
def whlL (c : Env → Mem → R V) (b : Env → Mem → Rs) : Nat → Env → Mem → Rs
  | 0, _, _ => .no
  | n + 1, σ, M => (c σ M).toS σ fun v M1 => match v with
    | .bl true => match b σ M1 with
      | .nx σ1 M2 => whlL c b n σ1 M2
      | .bk σ1 M2 => .nx σ1 M2
      | r => r
    | .bl false => .nx σ M1
    | _ => .no
def FUEL : Nat := 1000000
mutual
def xs : S → Env → Mem → Rs
  | .set t e, σ, M => (ev P C mk e σ M).toS σ fun v M1 => match asgM M1 t v σ with
    | some σ' => .nx σ' M1
    | none => .no
  | .par is es, σ, M => (evs P C mk es σ M).toSl σ fun vs M1 => match pars is vs σ with
    | some σ' => .nx σ' M1
    | none => .no
  | .put o i e, σ, M => (ev P C mk e σ M).toS σ fun v M1 => (ev P C mk o σ M1).toS σ fun ov M2 => (ev P C mk i σ M2).toS σ fun iv M3 => match put mk M3 ov iv v with
    | some M4 => .nx σ M4
    | none => .no
  | .ex e, σ, M => (ev P C mk e σ M).toS σ fun _ M1 => .nx σ M1
  | .ret e, σ, M => (ev P C mk e σ M).toS σ fun v M1 => .rt v M1
  | .retN, _, M => .rt .non M
  | .iff c a b, σ, M => (ev P C mk c σ M).toS σ fun v M1 => match v with
    | .bl true => xss a σ M1
    | .bl false => xss b σ M1
    | _ => .no
  | .for t it b, σ, M => (evi P C mk it σ M).toSl σ fun s M1 => forL s.2 t (fun σ' M' => xss b σ' M') s.1 σ M1
  | .whl c b, σ, M => whlL (fun σ' M' => ev P C mk c σ' M') (fun σ' M' => xss b σ' M') FUEL σ M
  | .brk, σ, M => .bk σ M
  | .pass, σ, M => .nx σ M
  | .rai c a, σ, M => (evr P C mk a σ M).toSl σ fun v M1 => .exc ⟨c, v⟩ σ M1
  | .tri _ _ _ _, _, _ => .no
def xss : Ss → Env → Mem → Rs
  | .nil, σ, M => .nx σ M
  | .cons s r, σ, M => match xs s σ M with
    | .nx σ1 M1 => xss r σ1 M1
    | o => o
end
end

/-! ### functions -/
structure Def where
  ps : List String
  ns : Nat
  live : Bool
  body : Ss
-- a value that leaves its function: what was made within is nobody's to change any more
mutual
def frzW (f : Nat → Option V) (mk : Nat) : V → Option V
  | .ref i => if i < mk then some (.ref i) else f i
  | .tup xs => (frzWs f mk xs).map .tup
  | .fl xs => (frzWs f mk xs).map .fl
  | .ct xs => if norefs xs then some (.ct xs) else none
  | .cl xs => if norefs xs then some (.cl xs) else none
  | .fd ks vs => (frzWs f mk ks).bind fun a => (frzWs f mk vs).map fun b => .fd a b
  | v => some v
def frzWs (f : Nat → Option V) (mk : Nat) : List V → Option (List V)
  | [] => some []
  | x :: xs => (frzW f mk x).bind fun a => (frzWs f mk xs).map fun b => a :: b
end
def frz (M : Mem) (mk : Nat) : Nat → V → Option V
  | 0 => frzW (fun _ => none) mk
  | n + 1 => frzW (fun i => match M[i]? with
    | some (.lst xs) => (frzWs (fun j => frz M mk n (.ref j)) mk xs).map .fl
    | some (.dct t ks vs) => if t && ks.isEmpty then none else (frzWs (fun j => frz M mk n (.ref j)) mk ks).bind fun a => (frzWs (fun j => frz M mk n (.ref j)) mk vs).map fun b => .fd a b
    | none => none) mk
def envOf (d : Def) (args : List V) : Env := args.map some ++ List.replicate (d.ns - d.ps.length) none
def left (live : Bool) (M0 : Mem) : Rs → R V
  | .rt v M => if live then .ok v M else match frz M M0.length RDN v with
    | some v' => .ok v' (M.take M0.length)
    | none => .no
  | .nx _ M => if live then .ok .non M else .ok .non (M.take M0.length)
  | .exc x _ M => if live then .exc x M else match x.arg with
    | none => .exc x (M.take M0.length)
    | some v => match frz M M0.length RDN v with
      | some v' => .exc ⟨x.cls, some v'⟩ (M.take M0.length)
      | none => .no
  | _ => .no
def parsOf (D : String → Option Def) (f : String) : Option (List String) := (D f).map (·.ps)
def callN (D : String → Option Def) : Nat → Nat → String → List V → Mem → R V
  | 0, _, _, _, _ => .no
  | n + 1, mk, f, args, M => match D f with
    | none => .no
    | some d => if args.length = d.ps.length then
        left d.live M (xss (parsOf D) (callN D n) (if d.live then mk else M.length) d.body (envOf d args) M)
      else .no
end PL

/-! PLS1: how values and heaps of PL stand in the hand layer's abstract heap. -/
namespace PLS
open PySem PySem.Spec PyProof.Rows L2

abbrev PV := PL.V
def toStr (s : List Nat) : Str := ⟨s.toArray⟩
theorem toStr_inj {a b : List Nat} (h : toStr a = toStr b) : a = b := by
  have h2 : a.toArray = b.toArray := congrArg Str.cps h
  simpa using h2
theorem toStr_len (a : List Nat) : (toStr a).length = a.length := rfl
theorem toStr_app (a b : List Nat) : toStr (a ++ b) = toStr a ++ toStr b := by
  show (⟨(a ++ b).toArray⟩ : Str) = ⟨a.toArray ++ b.toArray⟩
  simp

mutual
def dat : PV → Option PyData
  | .non => some .none
  | .bl b => some (.bool b)
  | .int i => some (.int i)
  | .str s => some (.str (toStr s))
  | .tup xs => (dats xs).map .tuple
  | .fl xs => (dats xs).map .list
  | .fd ks vs => (dats ks).bind fun a => (dats vs).map fun b => .dict (a.zip b)
  | .ref _ => none
  | .rep d => (dat d).map fun p => .str p.shown
  | .ct _ => none
  | .cl _ => none
def dats : List PV → Option (List PyData)
  | [] => some []
  | x :: xs => (dat x).bind fun a => (dats xs).map fun b => a :: b
end
def keyK : PV → Option L2.Key
  | .int i => some (.inl i)
  | .str s => some (.inr (toStr s))
  | _ => none

/-- the hash of a tuple of vints, as a dict keeps it -/
def keyHash (ks : List Int) : Int := reduceHash (Builtin.Tuple.tupleHashOf (ks.map hashInt))
/-- the dict at d has these entries: keys (tuples of vints), the addresses of the keys, values -/
def DTφ (d : Addr) (kvs : List (List Int × Addr × V)) : Heap → Prop := fun h => kvs.length ≤ sizeLine ∧ (d == sysModules) = false ∧
  ∃ xs : List (List Int × Addr × Value), Paired (fun (p : List Int × Addr × V) (q : List Int × Addr × Value) => p.1 = q.1 ∧ p.2.1 = q.2.1 ∧ RelV p.2.2 q.2.2) kvs xs ∧
    ∃ o es ep, h.get? d = some o ∧ o.ExactDict ∧ o.data = .dict es ep ∧ es.toList = xs.map (fun x => (⟨keyHash x.1, .ref x.2.1, x.2.2⟩ : DictEntry)) ∧ (xs.map (·.1)).Nodup
def DTO (d : Addr) (kvs : List (List Int × Addr × V)) : HO := .ext (DTφ d kvs)
def keyTV (p : List Int × Addr × V) : PV := .tup (p.1.map PL.V.int)
section
variable (K : PySem.W.Frag)
def KL (a : Addr) (us : List V) : Prop := ∃ (o : Obj) (its : Array Value) (n : Nat), K.lookup a = some o ∧ o.cls = .type "list" ∧ o.dict = none ∧ o.data = .seq its n ∧ its.size ≤ sizeLine ∧ Vals us its.toList
def KT (a : Addr) (us : List V) : Prop := ∃ (o : Obj) (its : Array Value) (n : Nat), K.lookup a = some o ∧ o.cls = .type "tuple" ∧ o.data = .seq its n ∧ its.size ≤ sizeLine ∧ Vals us its.toList
def TupO (o : Obj) : Prop := o.cls = .type "tuple" ∧ o.dict = none
mutual
def RepV (ρ : List Addr) (H : Hp) : PV → V → Prop
  | .non, u => u = .non
  | .bl b, u => u = .bl b
  | .int i, u => u = .int i
  | .str s, u => u = .str (toStr s)
  | .tup xs, u => ∃ a o us, u = .ref a ∧ H a = some (.frz o (.tup us)) ∧ TupO o ∧ a ∉ ρ ∧ RepVs ρ H xs us
  | .ct xs, u => ∃ a us, u = .ref a ∧ KT K a us ∧ RepVs ρ H xs us
  | .fl xs, u => ∃ a us, u = .ref a ∧ H a = some (.lst us) ∧ a ∉ ρ ∧ RepVs ρ H xs us
  | .cl xs, u => ∃ a us, u = .ref a ∧ ((∃ o, H a = some (.frz o (.lst us)) ∧ a ∉ ρ) ∨ KL K a us) ∧ RepVs ρ H xs us
  | .fd ks vs, u => (∃ a kvs, u = .ref a ∧ Rd H a (.dK kvs) ∧ a ∉ ρ ∧ ks.map keyK = kvs.map (fun kv => some kv.1) ∧ RepVs ρ H vs (kvs.map (·.2))) ∨
      ∃ a kvs, u = .ref a ∧ Rd H a (DTO a kvs) ∧ a ∉ ρ ∧ ks = kvs.map keyTV ∧ RepVs ρ H ks (kvs.map fun p => V.ref p.2.1) ∧ RepVs ρ H vs (kvs.map (·.2.2)) ∧ kvs ≠ []
  | .ref i, u => ∃ a, ρ[i]? = some a ∧ u = .ref a
  | .rep d, u => ∃ pd : PyData, dat d = some pd ∧ u = .str pd.shown
def RepVs (ρ : List Addr) (H : Hp) : List PV → List V → Prop
  | [], us => us = []
  | x :: xs, us => ∃ u r, us = u :: r ∧ RepV ρ H x u ∧ RepVs ρ H xs r
end
end
/-- what is tracked and not live stays as it is; live objects stay live -/
structure Ext (ρ : List Addr) (H : Hp) (ρ' : List Addr) (H' : Hp) : Prop where
  pre : ∃ more, ρ' = ρ ++ more
  keep : ∀ a o, H a = some o → a ∉ ρ → H' a = some o ∧ a ∉ ρ'
section
variable {ρ ρ' ρ'' : List Addr} {H H' H'' : Hp} {K : PySem.W.Frag}
theorem Ext.refl : Ext ρ H ρ H := ⟨⟨[], by simp⟩, fun a o h n => ⟨h, n⟩⟩
theorem Ext.trans (x : Ext ρ H ρ' H') (y : Ext ρ' H' ρ'' H'') : Ext ρ H ρ'' H'' := by
  obtain ⟨m, e⟩ := x.pre
  obtain ⟨m', e'⟩ := y.pre
  refine ⟨⟨m ++ m', by rw [e', e, List.append_assoc]⟩, fun a o h n => ?_⟩
  obtain ⟨h1, n1⟩ := x.keep a o h n
  exact y.keep a o h1 n1
theorem Ext.at (x : Ext ρ H ρ' H') {i : Nat} {a : Addr} (h : ρ[i]? = some a) : ρ'[i]? = some a := by
  obtain ⟨m, e⟩ := x.pre
  have hi : i < ρ.length := (List.getElem?_eq_some_iff.mp h).1
  rw [e, List.getElem?_append_left hi]; exact h
theorem Ext.rd (x : Ext ρ H ρ' H') {a : Addr} {u : HO} (h : Rd H a u) (n : a ∉ ρ) : Rd H' a u ∧ a ∉ ρ' := by
  rcases h with h | ⟨o, h⟩
  · exact ⟨.inl (x.keep a _ h n).1, (x.keep a _ h n).2⟩
  · exact ⟨.inr ⟨o, (x.keep a _ h n).1⟩, (x.keep a _ h n).2⟩
mutual
theorem RepV.ext (x : Ext ρ H ρ' H') : ∀ {v : PV} {u : V}, RepV K ρ H v u → RepV K ρ' H' v u
  | .non, u, h => by simpa only [RepV] using h
  | .bl _, u, h => by simpa only [RepV] using h
  | .int _, u, h => by simpa only [RepV] using h
  | .str _, u, h => by simpa only [RepV] using h
  | .rep _, u, h => by simpa only [RepV] using h
  | .ref i, u, h => by
    simp only [RepV] at h ⊢
    obtain ⟨a, h1, h2⟩ := h
    exact ⟨a, x.at h1, h2⟩
  | .tup xs, u, h => by
    simp only [RepV] at h ⊢
    obtain ⟨a, o, us, e, h1, h2, n, r⟩ := h
    obtain ⟨h1', n'⟩ := x.keep _ _ h1 n
    exact ⟨a, o, us, e, h1', h2, n', RepVs.ext x r⟩
  | .ct xs, u, h => by
    simp only [RepV] at h ⊢
    obtain ⟨a, us, e, h1, r⟩ := h
    exact ⟨a, us, e, h1, RepVs.ext x r⟩
  | .fl xs, u, h => by
    simp only [RepV] at h ⊢
    obtain ⟨a, us, e, h1, n, r⟩ := h
    obtain ⟨h1', n'⟩ := x.keep _ _ h1 n
    exact ⟨a, us, e, h1', n', RepVs.ext x r⟩
  | .cl xs, u, h => by
    simp only [RepV] at h ⊢
    obtain ⟨a, us, e, h1, r⟩ := h
    exact ⟨a, us, e, h1.imp (fun q => let ⟨o, q1, q2⟩ := q; ⟨o, (x.keep _ _ q1 q2).1, (x.keep _ _ q1 q2).2⟩) id, RepVs.ext x r⟩
  | .fd ks vs, u, h => by
    simp only [RepV] at h ⊢
    rcases h with ⟨a, kvs, e, h1, n, h2, r⟩ | ⟨a, kvs, e, h1, n, h2, r1, r, r2⟩
    · obtain ⟨h1', n'⟩ := x.rd h1 n
      exact .inl ⟨a, kvs, e, h1', n', h2, RepVs.ext x r⟩
    · obtain ⟨h1', n'⟩ := x.rd h1 n
      exact .inr ⟨a, kvs, e, h1', n', h2, RepVs.ext x r1, RepVs.ext x r, r2⟩
theorem RepVs.ext (x : Ext ρ H ρ' H') : ∀ {xs : List PV} {us : List V}, RepVs K ρ H xs us → RepVs K ρ' H' xs us
  | [], us, h => by simpa only [RepVs] using h
  | _ :: _, us, h => by
    simp only [RepVs] at h ⊢
    obtain ⟨u, r, e, h1, h2⟩ := h
    exact ⟨u, r, e, RepV.ext x h1, RepVs.ext x h2⟩
end
theorem RepVs.nil : RepVs K ρ H [] [] := by simp only [RepVs]
theorem RepVs.cons {v : PV} {vs : List PV} {u : V} {us : List V} (h : RepV K ρ H v u) (t : RepVs K ρ H vs us) : RepVs K ρ H (v :: vs) (u :: us) := by
  simp only [RepVs]; exact ⟨u, us, rfl, h, t⟩
theorem RepVs.inv {v : PV} {vs : List PV} {us : List V} (h : RepVs K ρ H (v :: vs) us) : ∃ u r, us = u :: r ∧ RepV K ρ H v u ∧ RepVs K ρ H vs r := by
  simpa only [RepVs] using h
theorem RepVs.inv0 {us : List V} (h : RepVs K ρ H [] us) : us = [] := by simpa only [RepVs] using h
theorem RepVs.length : ∀ {xs : List PV} {us : List V}, RepVs K ρ H xs us → xs.length = us.length
  | [], us, h => by rw [h.inv0]; rfl
  | _ :: _, us, h => by
    obtain ⟨u, r, e, _, t⟩ := h.inv
    rw [e, List.length_cons, List.length_cons, RepVs.length t]
theorem RepVs.append : ∀ {xs ys : List PV} {us ws : List V}, RepVs K ρ H xs us → RepVs K ρ H ys ws → RepVs K ρ H (xs ++ ys) (us ++ ws)
  | [], _, us, _, h, h' => by rw [h.inv0]; exact h'
  | _ :: _, _, us, _, h, h' => by
    obtain ⟨u, r, e, h1, t⟩ := h.inv
    rw [e]; exact .cons h1 (RepVs.append t h')
theorem RepVs.get : ∀ {xs : List PV} {us : List V} {i : Nat} {x : PV}, RepVs K ρ H xs us → xs[i]? = some x → ∃ u, us[i]? = some u ∧ RepV K ρ H x u
  | [], _, _, _, _, e => by simp at e
  | y :: ys, us, 0, x, h, e => by
    obtain ⟨u, r, e2, h1, _⟩ := h.inv
    simp at e; subst e; subst e2
    exact ⟨u, rfl, h1⟩
  | y :: ys, us, i + 1, x, h, e => by
    obtain ⟨u, r, e2, _, t⟩ := h.inv
    subst e2
    obtain ⟨w, h1, h2⟩ := RepVs.get (i := i) t (by simpa using e)
    exact ⟨w, by simpa using h1, h2⟩
theorem RepVs.take : ∀ {xs : List PV} {us : List V} (n : Nat), RepVs K ρ H xs us → RepVs K ρ H (xs.take n) (us.take n)
  | _, _, 0, _ => by simp only [List.take_zero]; exact .nil
  | [], us, n + 1, h => by rw [h.inv0]; simpa using RepVs.nil
  | _ :: _, us, n + 1, h => by
    obtain ⟨u, r, e, h1, t⟩ := h.inv
    subst e
    exact .cons h1 (RepVs.take n t)
theorem RepVs.drop : ∀ {xs : List PV} {us : List V} (n : Nat), RepVs K ρ H xs us → RepVs K ρ H (xs.drop n) (us.drop n)
  | _, _, 0, h => h
  | [], us, n + 1, h => by rw [h.inv0]; simpa using RepVs.nil
  | _ :: _, us, n + 1, h => by
    obtain ⟨u, r, e, h1, t⟩ := h.inv
    subst e
    exact RepVs.drop n t
theorem RepVs.set {x : PV} {u : V} (q : RepV K ρ H x u) : ∀ {xs : List PV} {us : List V} (i : Nat), RepVs K ρ H xs us → RepVs K ρ H (xs.set i x) (us.set i u)
  | [], us, i, h => by rw [h.inv0]; exact .nil
  | _ :: _, us, 0, h => by
    obtain ⟨w, r, e, h1, t⟩ := h.inv
    subst e; exact .cons q t
  | _ :: _, us, i + 1, h => by
    obtain ⟨w, r, e, h1, t⟩ := h.inv
    subst e; exact .cons h1 (RepVs.set q i t)
theorem RepVs.reverse : ∀ {xs : List PV} {us : List V}, RepVs K ρ H xs us → RepVs K ρ H xs.reverse us.reverse
  | [], us, h => by rw [h.inv0]; exact .nil
  | _ :: _, us, h => by
    obtain ⟨w, r, e, h1, t⟩ := h.inv
    subst e
    rw [List.reverse_cons, List.reverse_cons]
    exact (RepVs.reverse t).append (.cons h1 .nil)
theorem RepVs.rept {xs : List PV} {us : List V} (h : RepVs K ρ H xs us) : ∀ k : Nat, RepVs K ρ H (PL.rept k xs) (List.replicate k us).flatten
  | 0 => by simpa [PL.rept] using RepVs.nil
  | k + 1 => by
    have e1 : PL.rept (k + 1) xs = xs ++ PL.rept k xs := by simp [PL.rept, List.replicate_succ]
    rw [e1, List.replicate_succ, List.flatten_cons]
    exact h.append (RepVs.rept h k)
theorem RepVs.ints {us : List V} : ∀ {xs : List PV} {is : List Int}, RepVs K ρ H xs us → PL.vints xs = some is → us = is.map V.int := by
  intro xs
  induction xs generalizing us with
  | nil => intro is h e; simp [PL.vints] at e; subst e; exact h.inv0
  | cons x xs ih =>
    intro is h e
    obtain ⟨u, r, e2, h1, t⟩ := h.inv
    cases x with
    | int i =>
      simp only [PL.vints, Option.map_eq_some_iff] at e
      obtain ⟨js, e3, e4⟩ := e
      subst e4
      simp only [RepV] at h1
      rw [e2, h1, ih t e3]; rfl
    | _ => simp [PL.vints] at e
theorem RepVs.bools {us : List V} : ∀ {xs : List PV} {is : List Bool}, RepVs K ρ H xs us → PL.bools xs = some is → us = is.map V.bl := by
  intro xs
  induction xs generalizing us with
  | nil => intro is h e; simp [PL.bools] at e; subst e; exact h.inv0
  | cons x xs ih =>
    intro is h e
    obtain ⟨u, r, e2, h1, t⟩ := h.inv
    cases x with
    | bl i =>
      simp only [PL.bools, Option.map_eq_some_iff] at e
      obtain ⟨js, e3, e4⟩ := e
      subst e4
      simp only [RepV] at h1
      rw [e2, h1, ih t e3]; rfl
    | _ => simp [PL.bools] at e
theorem repVs_ints : ∀ is : List Int, RepVs K ρ H (is.map PL.V.int) (is.map V.int)
  | [] => .nil
  | i :: is => .cons (by simp only [RepV]) (repVs_ints is)
end

/-! ### heaps -/
section
variable (K : PySem.W.Frag)
def RepO (ρ : List Addr) (H : Hp) (a : Addr) : PL.MO → Option HO → Prop
  | .lst xs, o => ∃ us, o = some (.lst us) ∧ RepVs K ρ H xs us
  | .dct false ks vs, o => ∃ kvs, o = some (.dK kvs) ∧ ks.map keyK = kvs.map (fun kv => some kv.1) ∧ RepVs K ρ H vs (kvs.map (·.2))
  | .dct true ks vs, o => ∃ kvs, o = some (DTO a kvs) ∧ ks = kvs.map keyTV ∧ RepVs K ρ H ks (kvs.map fun p => V.ref p.2.1) ∧ RepVs K ρ H vs (kvs.map (·.2.2))
structure RepM (ρ : List Addr) (H : Hp) (M : PL.Mem) : Prop where
  len : ρ.length = M.length
  nd : ρ.Nodup
  at_ : ∀ (i : Nat) (mo : PL.MO), M[i]? = some mo → ∃ a, ρ[i]? = some a ∧ RepO K ρ H a mo (H a)
end
section
variable {K : PySem.W.Frag} {ρ ρ' : List Addr} {H H' : Hp} {M M' : PL.Mem}
theorem RepO.ext (x : Ext ρ H ρ' H') {a : Addr} {mo : PL.MO} {o : Option HO} (h : RepO K ρ H a mo o) : RepO K ρ' H' a mo o := by
  cases mo with
  | lst xs =>
    obtain ⟨us, e, r⟩ := h
    exact ⟨us, e, r.ext x⟩
  | dct lk ks vs =>
    cases lk with
    | false =>
      obtain ⟨kvs, e, e2, r⟩ := h
      exact ⟨kvs, e, e2, r.ext x⟩
    | true =>
      obtain ⟨kvs, e, e2, r1, r⟩ := h
      exact ⟨kvs, e, e2, r1.ext x, r.ext x⟩
theorem RepO.some {a : Addr} {mo : PL.MO} {o : Option HO} (h : RepO K ρ H a mo o) : ∃ u, o = Option.some u ∧ Mut (Option.some u) := by
  cases mo with
  | lst xs => obtain ⟨us, e, r⟩ := h; exact ⟨_, e, trivial⟩
  | dct lk ks vs =>
    cases lk with
    | false => obtain ⟨kvs, e, r⟩ := h; exact ⟨_, e, trivial⟩
    | true => obtain ⟨kvs, e, r⟩ := h; exact ⟨_, e, trivial⟩
theorem RepM.tracked (h : RepM K ρ H M) {a : Addr} (ha : a ∈ ρ) : ∃ u, H a = some u ∧ Mut (some u) := by
  obtain ⟨i, hi, e⟩ := List.mem_iff_getElem.mp ha
  have hm : i < M.length := by rw [← h.len]; exact hi
  obtain ⟨b, h1, h2⟩ := h.at_ i M[i] (List.getElem?_eq_getElem hm)
  have : b = a := by
    rw [List.getElem?_eq_getElem hi] at h1
    exact (Option.some.inj h1).symm.trans e
  subst this
  exact h2.some
theorem RepM.fresh (h : RepM K ρ H M) {p : Addr} (n : H p = none) : p ∉ ρ := fun m => by
  obtain ⟨u, e, _⟩ := h.tracked m
  rw [n] at e; cases e
theorem RepM.free (h : RepM K ρ H M) {a : Addr} {o : Obj} {u : HO} (e : H a = some (.frz o u)) : a ∉ ρ := fun m => by
  obtain ⟨w, e2, mu⟩ := h.tracked m
  rw [e] at e2; cases e2; exact mu
/-- a new object that is not live -/
theorem Ext.new (h : RepM K ρ H M) {p : Addr} {o : HO} (n : H p = none) : Ext ρ H ρ (upd H p o) :=
  ⟨⟨[], by simp⟩, fun a u e na => ⟨by rw [upd_ne (ne_of_none e n)]; exact e, na⟩⟩
theorem RepM.new (h : RepM K ρ H M) {p : Addr} {o : HO} (n : H p = none) : RepM K ρ (upd H p o) M :=
  ⟨h.len, h.nd, fun i mo e => by
    obtain ⟨a, h1, h2⟩ := h.at_ i mo e
    refine ⟨a, h1, ?_⟩
    have hp : a ≠ p := fun z => h.fresh n (z ▸ List.mem_of_getElem? h1)
    rw [upd_ne hp]
    exact h2.ext (Ext.new h n)⟩
/-- a new live object -/
theorem Ext.alloc (h : RepM K ρ H M) {p : Addr} {o : HO} (n : H p = none) : Ext ρ H (ρ ++ [p]) (upd H p o) :=
  ⟨⟨[p], rfl⟩, fun a u e na => ⟨by rw [upd_ne (ne_of_none e n)]; exact e, by
    simp only [List.mem_append, List.mem_singleton, not_or]; exact ⟨na, ne_of_none e n⟩⟩⟩
theorem RepM.alloc (h : RepM K ρ H M) {p : Addr} {o : HO} (n : H p = none) {mo : PL.MO} (ho : RepO K (ρ ++ [p]) (upd H p o) p mo (some o)) : RepM K (ρ ++ [p]) (upd H p o) (M ++ [mo]) := by
  have hp : p ∉ ρ := h.fresh n
  refine ⟨by simp [h.len], ?_, fun i m e => ?_⟩
  · rw [List.nodup_append]
    refine ⟨h.nd, by simp, fun a ha b hb => ?_⟩
    rw [List.mem_singleton] at hb; subst hb
    exact fun z => hp (z ▸ ha)
  · by_cases hi : i < M.length
    · rw [List.getElem?_append_left hi] at e
      obtain ⟨a, h1, h2⟩ := h.at_ i m e
      refine ⟨a, (Ext.alloc (o := o) h n).at h1, ?_⟩
      rw [upd_ne (fun z => by subst z; exact hp (List.mem_of_getElem? h1))]
      exact h2.ext (Ext.alloc h n)
    · have e2 : i = M.length := by
        have := (List.getElem?_eq_some_iff.mp e).1
        rw [List.length_append, List.length_singleton] at this
        omega
      subst e2
      rw [List.getElem?_append_right (Nat.le_refl _), Nat.sub_self] at e
      simp only [List.getElem?_cons_zero] at e
      obtain rfl := Option.some.inj e
      refine ⟨p, by rw [← h.len, List.getElem?_append_right (Nat.le_refl _), Nat.sub_self]; rfl, ?_⟩
      rw [upd_same]; exact ho
/-- a live object is changed -/
theorem Ext.write {i : Nat} {a : Addr} {o : HO} (ha : ρ[i]? = some a) : Ext ρ H ρ (upd H a o) :=
  ⟨⟨[], by simp⟩, fun b u e nb => ⟨by rw [upd_ne (fun z => by subst z; exact nb (List.mem_of_getElem? ha))]; exact e, nb⟩⟩
theorem RepM.write (h : RepM K ρ H M) {i : Nat} {a : Addr} {o : HO} (ha : ρ[i]? = some a) {mo : PL.MO} (ho : RepO K ρ (upd H a o) a mo (some o)) : RepM K ρ (upd H a o) (M.set i mo) := by
  refine ⟨by rw [List.length_set]; exact h.len, h.nd, fun j m e => ?_⟩
  by_cases hj : j = i
  · subst hj
    have hl : j < M.length := by
      have := (List.getElem?_eq_some_iff.mp e).1
      rwa [List.length_set] at this
    rw [List.getElem?_set_self hl] at e
    obtain rfl := Option.some.inj e
    exact ⟨a, ha, by rw [upd_same]; exact ho⟩
  · rw [List.getElem?_set_ne (Ne.symm hj)] at e
    obtain ⟨b, h1, h2⟩ := h.at_ j m e
    refine ⟨b, h1, ?_⟩
    have nb : b ≠ a := fun z => by
      subst z
      obtain ⟨l1, e1⟩ := List.getElem?_eq_some_iff.mp h1
      obtain ⟨l2, e2⟩ := List.getElem?_eq_some_iff.mp ha
      exact hj ((List.getElem_inj h.nd).mp (e1.trans e2.symm))
    rw [upd_ne nb]
    exact h2.ext (Ext.write ha)
theorem RepM.lst (h : RepM K ρ H M) {i : Nat} {xs : List PV} (e : M[i]? = some (.lst xs)) : ∃ a us, ρ[i]? = some a ∧ H a = some (.lst us) ∧ RepVs K ρ H xs us := by
  obtain ⟨a, h1, us, h2, h3⟩ := h.at_ i _ e
  exact ⟨a, us, h1, h2, h3⟩
theorem RepM.dctT (h : RepM K ρ H M) {i : Nat} {ks vs : List PV} (e : M[i]? = some (.dct true ks vs)) : ∃ a kvs, ρ[i]? = some a ∧ H a = some (DTO a kvs) ∧ ks = kvs.map keyTV ∧ RepVs K ρ H ks (kvs.map fun p => V.ref p.2.1) ∧ RepVs K ρ H vs (kvs.map (·.2.2)) := by
  obtain ⟨a, h1, h2⟩ := h.at_ i _ e
  obtain ⟨kvs, h3, h4, h5⟩ := h2; exact ⟨a, kvs, h1, h3, h4, h5⟩
theorem RepM.dct (h : RepM K ρ H M) {i : Nat} {ks vs : List PV} (e : M[i]? = some (.dct false ks vs)) : ∃ a kvs, ρ[i]? = some a ∧ H a = some (.dK kvs) ∧ ks.map keyK = kvs.map (fun kv => some kv.1) ∧ RepVs K ρ H vs (kvs.map (·.2)) := by
  obtain ⟨a, h1, h2⟩ := h.at_ i _ e
  obtain ⟨kvs, h3, h4, h5⟩ := h2; exact ⟨a, kvs, h1, h3, h4, h5⟩
end

/-! ### references below a mark -/
mutual
def below (mk : Nat) : PV → Bool
  | .ref i => decide (i < mk)
  | .tup xs => belows mk xs
  | .fl xs => belows mk xs
  | .fd ks vs => belows mk ks && belows mk vs
  | .rep d => below mk d
  | .ct xs => belows mk xs
  | .cl xs => belows mk xs
  | _ => true
def belows (mk : Nat) : List PV → Bool
  | [] => true
  | x :: xs => below mk x && belows mk xs
end
def belowO (mk : Nat) : PL.MO → Bool
  | .lst xs => belows mk xs
  | .dct _ ks vs => belows mk ks && belows mk vs
def Below (mk : Nat) (M : PL.Mem) : Prop := ∀ i mo, i < mk → M[i]? = some mo → belowO mk mo = true
mutual
theorem below_of_noref (mk : Nat) : ∀ {v : PV}, PL.noref v = true → below mk v = true
  | .non, _ => by simp [below]
  | .bl _, _ => by simp [below]
  | .int _, _ => by simp [below]
  | .str _, _ => by simp [below]
  | .ref _, h => by simp [PL.noref] at h
  | .tup xs, h => by simp only [PL.noref] at h; simp only [below]; exact belows_of_norefs mk h
  | .fl xs, h => by simp only [PL.noref] at h; simp only [below]; exact belows_of_norefs mk h
  | .ct xs, h => by simp only [PL.noref] at h; simp only [below]; exact belows_of_norefs mk h
  | .cl xs, h => by simp only [PL.noref] at h; simp only [below]; exact belows_of_norefs mk h
  | .rep x, h => by simp only [PL.noref] at h; simp only [below]; exact below_of_noref mk h
  | .fd ks vs, h => by
    simp only [PL.noref, Bool.and_eq_true] at h
    simp only [below, Bool.and_eq_true]
    exact ⟨belows_of_norefs mk h.1, belows_of_norefs mk h.2⟩
theorem belows_of_norefs (mk : Nat) : ∀ {xs : List PV}, PL.norefs xs = true → belows mk xs = true
  | [], _ => by simp [belows]
  | _ :: _, h => by
    simp only [PL.norefs, Bool.and_eq_true] at h
    simp only [belows, Bool.and_eq_true]
    exact ⟨below_of_noref mk h.1, belows_of_norefs mk h.2⟩
end
theorem belows_append {mk : Nat} : ∀ {xs ys : List PV}, belows mk xs = true → belows mk ys = true → belows mk (xs ++ ys) = true
  | [], _, _, h => h
  | _ :: _, _, h, h' => by
    simp only [belows, Bool.and_eq_true] at h
    simp only [List.cons_append, belows, Bool.and_eq_true]
    exact ⟨h.1, belows_append h.2 h'⟩
theorem belows_iff {mk : Nat} : ∀ {xs : List PV}, belows mk xs = true ↔ ∀ x ∈ xs, below mk x = true
  | [] => by simp [belows]
  | x :: xs => by simp [belows, belows_iff (xs := xs)]
theorem below_wOk {mk i : Nat} {v : PV} (h : PL.wOk mk i v = true) (hi : i < mk) : below mk v = true := by
  unfold PL.wOk at h
  rw [Bool.or_eq_true] at h
  rcases h with h | h
  · exact absurd (of_decide_eq_true h) (Nat.not_le.mpr hi)
  · exact below_of_noref mk h
theorem Below.alloc {mk : Nat} {M : PL.Mem} (h : Below mk M) (hm : mk ≤ M.length) (o : PL.MO) : Below mk (M ++ [o]) := fun i mo hi e => by
  rw [List.getElem?_append_left (Nat.lt_of_lt_of_le hi hm)] at e
  exact h i mo hi e
theorem Below.set {mk i : Nat} {M : PL.Mem} {o : PL.MO} (h : Below mk M) (ho : i < mk → belowO mk o = true) : Below mk (M.set i o) := fun j mo hj e => by
  by_cases hji : j = i
  · subst hji
    have hl : j < M.length := by
      have := (List.getElem?_eq_some_iff.mp e).1
      rwa [List.length_set] at this
    rw [List.getElem?_set_self hl] at e
    obtain rfl := Option.some.inj e
    exact ho hj
  · rw [List.getElem?_set_ne (Ne.symm hji)] at e
    exact h j mo hj e
mutual
theorem dat_below (mk : Nat) : ∀ {v : PV} {d : PyData}, dat v = some d → below mk v = true
  | .non, _, _ => by simp [below]
  | .bl _, _, _ => by simp [below]
  | .int _, _, _ => by simp [below]
  | .str _, _, _ => by simp [below]
  | .rep x, _, h => by
    simp only [dat, Option.map_eq_some_iff] at h
    obtain ⟨p, h, _⟩ := h
    simp only [below]
    exact dat_below mk h
  | .ref _, _, h => by simp [dat] at h
  | .ct _, _, h => by simp [dat] at h
  | .cl _, _, h => by simp [dat] at h
  | .tup xs, _, h => by
    simp only [dat, Option.map_eq_some_iff] at h
    obtain ⟨ds, h, _⟩ := h
    simp only [below]; exact dats_below mk h
  | .fl xs, _, h => by
    simp only [dat, Option.map_eq_some_iff] at h
    obtain ⟨ds, h, _⟩ := h
    simp only [below]; exact dats_below mk h
  | .fd ks vs, _, h => by
    simp only [dat, Option.bind_eq_some_iff, Option.map_eq_some_iff] at h
    obtain ⟨ds, h, es, h', _⟩ := h
    simp only [below, Bool.and_eq_true]
    exact ⟨dats_below mk h, dats_below mk h'⟩
theorem dats_below (mk : Nat) : ∀ {xs : List PV} {ds : List PyData}, dats xs = some ds → belows mk xs = true
  | [], _, _ => by simp [belows]
  | _ :: _, _, h => by
    simp only [dats, Option.bind_eq_some_iff, Option.map_eq_some_iff] at h
    obtain ⟨d, h, es, h', _⟩ := h
    simp only [belows, Bool.and_eq_true]
    exact ⟨dat_below mk h, dats_below mk h'⟩
end
theorem keys_below (mk : Nat) : ∀ {ks : List PV}, (∀ o ∈ ks.map keyK, o.isSome = true) → belows mk ks = true
  | [], _ => by simp [belows]
  | k :: ks, h => by
    simp only [belows, Bool.and_eq_true]
    refine ⟨?_, keys_below mk fun o ho => h o (by simp only [List.map_cons]; exact List.mem_cons_of_mem _ ho)⟩
    have := h (keyK k) (by simp)
    cases k <;> simp [keyK] at this <;> simp [below]
-- every reference of a represented value is one
mutual
theorem RepV.below {K : PySem.W.Frag} {ρ : List Addr} {H : Hp} : ∀ {v : PV} {u : V}, RepV K ρ H v u → below ρ.length v = true
  | .non, u, h => by simp [PLS.below]
  | .bl _, u, h => by simp [PLS.below]
  | .int _, u, h => by simp [PLS.below]
  | .str _, u, h => by simp [PLS.below]
  | .rep d, u, h => by
    simp only [RepV] at h
    obtain ⟨pd, h, _⟩ := h
    simp only [PLS.below]
    exact dat_below _ h
  | .ref i, u, h => by
    simp only [RepV] at h
    obtain ⟨a, h1, h2⟩ := h
    simp only [PLS.below]
    exact decide_eq_true (List.getElem?_eq_some_iff.mp h1).1
  | .tup xs, u, h => by
    simp only [RepV] at h
    obtain ⟨a, o, us, e, h1, h2, n, r⟩ := h
    simp only [PLS.below]; exact RepVs.below r
  | .ct xs, u, h => by
    simp only [RepV] at h
    obtain ⟨a, us, e, h1, r⟩ := h
    simp only [PLS.below]; exact RepVs.below r
  | .fl xs, u, h => by
    simp only [RepV] at h
    obtain ⟨a, us, e, h1, n, r⟩ := h
    simp only [PLS.below]; exact RepVs.below r
  | .cl xs, u, h => by
    simp only [RepV] at h
    obtain ⟨a, us, e, h1, r⟩ := h
    simp only [PLS.below]; exact RepVs.below r
  | .fd ks vs, u, h => by
    simp only [RepV] at h
    simp only [PLS.below, Bool.and_eq_true]
    rcases h with ⟨a, kvs, e, h1, n, h2, r⟩ | ⟨a, kvs, e, h1, n, h2, r1, r, _⟩
    · exact ⟨keys_below _ (by rw [h2]; intro o ho; obtain ⟨kv, _, rfl⟩ := List.mem_map.mp ho; rfl), RepVs.below r⟩
    · exact ⟨RepVs.below r1, RepVs.below r⟩
theorem RepVs.below {K : PySem.W.Frag} {ρ : List Addr} {H : Hp} : ∀ {xs : List PV} {us : List V}, RepVs K ρ H xs us → belows ρ.length xs = true
  | [], us, h => by simp [belows]
  | _ :: _, us, h => by
    simp only [RepVs] at h
    obtain ⟨u, r, e, h1, h2⟩ := h
    simp only [belows, Bool.and_eq_true]
    exact ⟨RepV.below h1, RepVs.below h2⟩
end
end PLS

/-! PLS2: what a run of PL promises, and its bind. -/
namespace PLS
open PySem PySem.Spec PyProof.Rows L2

/-- the mark of a call, and the marks of the calls about it -/
structure Mk where
  m : Nat
  ms : List Nat
  le : ∀ x ∈ ms, x ≤ m
instance : Coe Mk Nat := ⟨Mk.m⟩
def Mk.has (mk : Mk) (m : Nat) : Prop := m = mk.m ∨ m ∈ mk.ms
def Mk.In (mk : Mk) (i m : Nat) : Prop := mk.has m ∧ i < m
theorem Mk.has.le {mk : Mk} {m : Nat} (h : mk.has m) : m ≤ mk.m := by
  rcases h with rfl | h
  · exact Nat.le_refl _
  · exact mk.le m h
theorem Mk.In.lt {mk : Mk} {i m : Nat} (h : mk.In i m) : i < mk.m := Nat.lt_of_lt_of_le h.2 h.1.le
/-- a live heap that is as it should be -/
structure Ok (K : PySem.W.Frag) (mk : Mk) (ρ : List Addr) (H : Hp) (M : PL.Mem) : Prop where
  rep : RepM K ρ H M
  bel : ∀ m, mk.has m → Below m M
  mkl : mk ≤ M.length
structure RepE (K : PySem.W.Frag) (ρ : List Addr) (H : Hp) (σ : PL.Env) (s : L2.St) : Prop where
  len : σ.length = s.length
  at_ : ∀ i v, PL.lk σ i = some v → ∃ u, s[i]? = some (some u) ∧ RepV K ρ H v u
theorem RepE.ext {K : PySem.W.Frag} {ρ ρ' : List Addr} {H H' : Hp} {σ : PL.Env} {s : L2.St} (h : RepE K ρ H σ s) (x : Ext ρ H ρ' H') : RepE K ρ' H' σ s :=
  ⟨h.len, fun i v e => let ⟨u, h1, h2⟩ := h.at_ i v e; ⟨u, h1, h2.ext x⟩⟩
/-- the wish about exceptions, at the live heap behind -/
abbrev EXC := PL.X → List Addr → Hp → PL.Mem → Prop
def Post {α β : Type} (K : PySem.W.Frag) (mk : Mk) (Rel : List Addr → Hp → α → β → Prop) (E : EXC) (ρ : List Addr) (H : Hp) (Q : β → Hp → Prop) : PL.R α → Prop
  | .ok a M' => ∀ ρ' H' b, Ext ρ H ρ' H' → Ok K mk ρ' H' M' → Rel ρ' H' a b → Q b H'
  | .exc x M' => ∀ ρ' H', Ext ρ H ρ' H' → Ok K mk ρ' H' M' → E x ρ' H' M'
  | .no => False
section
variable {α β γ δ : Type} {K : PySem.W.Frag} {mk : Mk} {Rel : List Addr → Hp → α → β → Prop} {RelB : List Addr → Hp → γ → δ → Prop} {E : EXC} {ρ ρ' : List Addr} {H H' : Hp} {Q : β → Hp → Prop}
theorem Post.ok {a : α} {M : PL.Mem} (h : Post K mk Rel E ρ H Q (.ok a M)) {b : β} (o : Ok K mk ρ H M) (r : Rel ρ H a b) : Q b H := h ρ H b .refl o r
theorem Post.okx {a : α} {M : PL.Mem} (h : Post K mk Rel E ρ H Q (.ok a M)) {b : β} (x : Ext ρ H ρ' H') (o : Ok K mk ρ' H' M) (r : Rel ρ' H' a b) : Q b H' := h ρ' H' b x o r
theorem Post.ext {m : PL.R α} (h : Post K mk Rel E ρ H Q m) (x : Ext ρ H ρ' H') : Post K mk Rel E ρ' H' Q m := by
  cases m with
  | ok a M => exact fun ρ2 H2 b x2 o r => h ρ2 H2 b (x.trans x2) o r
  | exc e M => exact fun ρ2 H2 x2 o => h ρ2 H2 (x.trans x2) o
  | no => exact h
theorem Post.bind {m : PL.R γ} {f : γ → PL.Mem → PL.R α} {Q1 : δ → Hp → Prop} (h : Post K mk Rel E ρ H Q (m.bind f))
    (k : ∀ a M1 ρ1 H1 b, Ext ρ H ρ1 H1 → Ok K mk ρ1 H1 M1 → RelB ρ1 H1 a b → Post K mk Rel E ρ1 H1 Q (f a M1) → Q1 b H1) : Post K mk RelB E ρ H Q1 m := by
  cases m with
  | ok a M => exact fun ρ1 H1 b x o r => k a M ρ1 H1 b x o r (Post.ext h x)
  | exc e M => exact h
  | no => exact h
theorem Post.mono {m : PL.R α} {Q' : β → Hp → Prop} (h : Post K mk Rel E ρ H Q m) (k : ∀ ρ1 H1 b, Ext ρ H ρ1 H1 → Q b H1 → Q' b H1) : Post K mk Rel E ρ H Q' m := by
  cases m with
  | ok a M => exact fun ρ1 H1 b x o r => k ρ1 H1 b x (h ρ1 H1 b x o r)
  | exc e M => exact h
  | no => exact h
end

/-- what the exceptions of this code are wished to be: W of the class, the dict, the slots, the heap; RX: how an exception of PL stands -/
abbrev RXT := List Addr → Hp → PL.X → Value → Option Addr → Prop
def EX (RX : RXT) (K : PySem.W.Frag) (W : WX) (s : L2.St) : EXC := fun x ρ H M => ∀ cls d, RX ρ H x cls d → W cls d s H
abbrev Mn (α : Type) := PL.Env → PL.Mem → PL.R α
/-- an expression's reading by a run -/
def tI (RX : RXT) (K : PySem.W.Frag) (W : WX) (mk : Mk) (m : Mn PV) : TE := fun s H Q => ∃ ρ σ M, RepE K ρ H σ s ∧ Ok K mk ρ H M ∧ Post K mk (RepV K) (EX RX K W s) ρ H Q (m σ M)
def tIs (RX : RXT) (K : PySem.W.Frag) (W : WX) (mk : Mk) (m : Mn (List PV)) : TA := fun s H Q => ∃ ρ σ M, RepE K ρ H σ s ∧ Ok K mk ρ H M ∧ Post K mk (RepVs K) (EX RX K W s) ρ H Q (m σ M)
def asB (m : PL.R PV) : PL.R Bool := m.bind fun v M => match v with
  | .bl b => .ok b M
  | _ => .no
def tIb (RX : RXT) (K : PySem.W.Frag) (W : WX) (mk : Mk) (m : Mn PV) : TT := fun s H Q => ∃ ρ σ M, RepE K ρ H σ s ∧ Ok K mk ρ H M ∧ Post K mk (fun _ _ (a b : Bool) => a = b) (EX RX K W s) ρ H Q (asB (m σ M))
theorem PE.imp {X : Cx} {e : Expr} {t t' : TE} (h : PE X e t) (i : ∀ σ H Q, t' σ H Q → t σ H Q) : PE X e t' := ⟨fun pins s σ H Q I q => h.run pins s σ H Q I (i σ H Q q)⟩
theorem PT.imp {X : Cx} {e : Expr} {t t' : TT} (h : PT X e t) (i : ∀ σ H Q, t' σ H Q → t σ H Q) : PT X e t' := ⟨fun pins s σ H Q I q => h.run pins s σ H Q I (i σ H Q q)⟩
theorem PW.imp {X : Cx} {e : Expr} {t t' : TT} (h : PW X e t) (i : ∀ σ H Q, t' σ H Q → t σ H Q) : PW X e t' := ⟨fun wh pins s σ H Q I q => h.run wh pins s σ H Q I (i σ H Q q)⟩
theorem PA.imp {X : Cx} {es : List Expr} {t t' : TA} (h : PA X es t) (i : ∀ σ H Q, t' σ H Q → t σ H Q) : PA X es t' := ⟨fun pos pins s σ H Q I q => h.run pos pins s σ H Q I (i σ H Q q)⟩
theorem PS.imp {X : Cx} {st : Stmt} {t t' : TS} (h : PS X st t) (i : ∀ D σ H, t' D σ H → t D σ H) : PS X st t' := ⟨fun pins s σ H D I q => h.run pins s σ H D I (i D σ H q)⟩
theorem PSs.imp {X : Cx} {st : List Stmt} {t t' : TS} (h : PSs X st t) (i : ∀ D σ H, t' D σ H → t D σ H) : PSs X st t' := ⟨fun pins s σ H D I q => h.run pins s σ H D I (i D σ H q)⟩

/-! ### slots -/
theorem lk_some : ∀ {σ : PL.Env} {i : Nat} {v : PV}, PL.lk σ i = some v → i < σ.length
  | [], _, _, h => by simp [PL.lk] at h
  | _ :: _, 0, _, _ => by simp
  | _ :: r, i + 1, v, h => by
    have := lk_some (σ := r) (i := i) (v := v) h
    simpa using this
theorem stv_length : ∀ (σ : PL.Env) (i : Nat) (v : PV), (PL.stv σ i v).length = σ.length
  | [], _, _ => rfl
  | _ :: _, 0, _ => rfl
  | _ :: r, i + 1, v => by simp [PL.stv, stv_length r i v]
theorem lk_stv : ∀ (σ : PL.Env) (i j : Nat) (v : PV), PL.lk (PL.stv σ i v) j = if j = i ∧ i < σ.length then some v else PL.lk σ j
  | [], i, j, v => by simp [PL.stv]
  | x :: r, 0, 0, v => by simp [PL.stv]
  | x :: r, 0, j + 1, v => by simp [PL.stv]
  | x :: r, i + 1, 0, v => by simp [PL.stv]
  | x :: r, i + 1, j + 1, v => by
    simp only [PL.stv, PL.lk_succ, lk_stv r i j v, List.length_cons, Nat.add_lt_add_iff_right, Nat.add_right_cancel_iff]
theorem RepE.set {K : PySem.W.Frag} {ρ : List Addr} {H : Hp} {σ : PL.Env} {s : L2.St} (h : RepE K ρ H σ s) {i : Nat} {v : PV} {u : V} (r : RepV K ρ H v u) : RepE K ρ H (PL.stv σ i v) (s.set i (some u)) := by
  refine ⟨by rw [stv_length, List.length_set]; exact h.len, fun j w e => ?_⟩
  rw [lk_stv] at e
  by_cases hj : j = i ∧ i < σ.length
  · rw [if_pos hj] at e
    obtain ⟨rfl, hl⟩ := hj
    obtain rfl := Option.some.inj e
    exact ⟨u, by rw [List.getElem?_set_self (by rw [← h.len]; exact hl)], r⟩
  · rw [if_neg hj] at e
    obtain ⟨z, h1, h2⟩ := h.at_ j w e
    have hl := lk_some e
    have hne : j ≠ i := fun z => hj ⟨z, z ▸ hl⟩
    exact ⟨z, by rw [List.getElem?_set_ne (Ne.symm hne)]; exact h1, h2⟩
/-- .. but for some slots -/
structure RepO_ (K : PySem.W.Frag) (off : List Nat) (ρ : List Addr) (H : Hp) (σ : PL.Env) (s : L2.St) : Prop where
  len : σ.length = s.length
  at_ : ∀ i v, i ∉ off → PL.lk σ i = some v → ∃ u, s[i]? = some (some u) ∧ RepV K ρ H v u
section
variable {K : PySem.W.Frag} {off : List Nat} {ρ ρ' : List Addr} {H H' : Hp} {σ : PL.Env} {s : L2.St}
theorem RepO_.all (h : RepO_ K [] ρ H σ s) : RepE K ρ H σ s := ⟨h.len, fun i v e => h.at_ i v (by simp) e⟩
theorem RepE.toOff (h : RepE K ρ H σ s) : RepO_ K [] ρ H σ s := ⟨h.len, fun i v _ e => h.at_ i v e⟩
theorem RepO_.ext (h : RepO_ K off ρ H σ s) (x : Ext ρ H ρ' H') : RepO_ K off ρ' H' σ s :=
  ⟨h.len, fun i v n e => let ⟨u, h1, h2⟩ := h.at_ i v n e; ⟨u, h1, h2.ext x⟩⟩
theorem wipe_get : ∀ {vs : List Nat} {s : L2.St} {i : Nat}, i ∉ vs → (wipe s vs)[i]? = s[i]?
  | [], _, _, _ => rfl
  | v :: vs, s, i, h => by
    simp only [List.mem_cons, not_or] at h
    unfold wipe
    rw [List.getElem?_set_ne (Ne.symm h.1)]
    exact wipe_get h.2
theorem RepE.wipe (h : RepE K ρ H σ s) (vs : List Nat) : RepO_ K vs ρ H σ (wipe s vs) :=
  ⟨by rw [wipe_length]; exact h.len, fun i v n e => by rw [wipe_get n]; exact h.at_ i v e⟩
theorem RepO_.set (h : RepO_ K off ρ H σ s) {i : Nat} {v : PV} {u : V} (r : RepV K ρ H v u) : RepO_ K (off.filter fun j => decide (j ≠ i)) ρ H (PL.stv σ i v) (s.set i (some u)) := by
  refine ⟨by rw [stv_length, List.length_set]; exact h.len, fun j w n e => ?_⟩
  rw [lk_stv] at e
  by_cases hj : j = i ∧ i < σ.length
  · rw [if_pos hj] at e
    obtain ⟨rfl, hl⟩ := hj
    obtain rfl := Option.some.inj e
    exact ⟨u, by rw [List.getElem?_set_self (by rw [← h.len]; exact hl)], r⟩
  · rw [if_neg hj] at e
    have hl := lk_some e
    have hne : j ≠ i := fun z => hj ⟨z, z ▸ hl⟩
    have n' : j ∉ off := fun m => n (List.mem_filter.mpr ⟨m, decide_eq_true hne⟩)
    obtain ⟨z, h1, h2⟩ := h.at_ j w n' e
    exact ⟨z, by rw [List.getElem?_set_ne (Ne.symm hne)]; exact h1, h2⟩
end
end PLS

/-! PLS3: operators, sequences. -/
namespace PLS
open PySem PySem.Spec PyProof.Rows L2

theorem SZ_eq : PL.SZ = sizeLine := by rw [sizeLine_eq]; rfl
section
variable {K : PySem.W.Frag} {mk : Mk} {ρ : List Addr} {H : Hp} {M : PL.Mem} {E : EXC} {Q : VK}
def notT : PL.MO → Bool
  | .dct true _ _ => false
  | _ => true
theorem RepO.any {ρ : List Addr} {H : Hp} {K : PySem.W.Frag} {mo : PL.MO} {o : Option HO} {a : Addr} (h : RepO K ρ H a mo o) (n : notT mo = true) (b : Addr) : RepO K ρ H b mo o := by
  cases mo with
  | lst xs => exact h
  | dct t ks vs =>
    cases t with
    | false => exact h
    | true => cases n
theorem Ok.alloc (h : Ok K mk ρ H M) {p : Addr} {o : HO} {mo : PL.MO} (n : H p = none) (r : RepO K ρ H p mo (some o)) : Ok K mk (ρ ++ [p]) (upd H p o) (M ++ [mo]) :=
  ⟨h.rep.alloc n (r.ext (Ext.alloc h.rep n)), fun m hm => (h.bel m hm).alloc (Nat.le_trans hm.le h.mkl) mo, by rw [List.length_append]; exact Nat.le_trans h.mkl (Nat.le_add_right _ _)⟩
theorem Ok.new (h : Ok K mk ρ H M) {p : Addr} {o : HO} (n : H p = none) : Ok K mk ρ (upd H p o) M := ⟨h.rep.new n, h.bel, h.mkl⟩
theorem Ok.write (h : Ok K mk ρ H M) {i : Nat} {a : Addr} {o : HO} {mo : PL.MO} (ha : ρ[i]? = some a) (r : RepO K ρ H a mo (some o)) (hb : ∀ {m}, mk.In i m → belowO m mo = true) : Ok K mk ρ (upd H a o) (M.set i mo) :=
  ⟨h.rep.write ha (r.ext (Ext.write ha)), fun m hm => (h.bel m hm).set fun hi => hb ⟨hm, hi⟩, by rw [List.length_set]; exact h.mkl⟩
theorem post_alloc {mo : PL.MO} (h : Post K mk (RepV K) E ρ H Q (PL.alloc mo M)) (k : Ok K mk ρ H M) {o : HO} (r0 : RepO K ρ H 0 mo (some o)) (p : Addr) (n : H p = none) (hmo : notT mo = true := by rfl) : Q (.ref p) (upd H p o) := by
  have r := r0.any hmo p
  refine Post.okx h (Ext.alloc k.rep n) (k.alloc n r) ?_
  simp only [RepV]
  exact ⟨p, by rw [← k.rep.len, List.getElem?_append_right (Nat.le_refl _), Nat.sub_self]; rfl, rfl⟩
theorem post_tup {xs : List PV} {us : List V} (h : Post K mk (RepV K) E ρ H Q (.ok (.tup xs) M)) (k : Ok K mk ρ H M) (r : RepVs K ρ H xs us) (p : Addr) (o : Obj) (n : H p = none) (t : TupO o) : Q (.ref p) (upd H p (.frz o (.tup us))) := by
  refine Post.okx h (Ext.new k.rep n) (k.new n) ?_
  simp only [RepV]
  exact ⟨p, o, us, rfl, upd_same, t, k.rep.fresh n, r.ext (Ext.new k.rep n)⟩
theorem RepV.toTup {xs : List PV} {u : V} (h : RepV K ρ H (.tup xs) u) : ∃ a us, u = .ref a ∧ SqT K H a us ∧ RepVs K ρ H xs us := by
  simp only [RepV] at h
  obtain ⟨a, o, us, e, h1, h2, n, r⟩ := h
  exact ⟨a, us, e, .inl (.inr ⟨o, h1⟩), r⟩
theorem RepV.toCt {xs : List PV} {u : V} (h : RepV K ρ H (.ct xs) u) : ∃ a us, u = .ref a ∧ SqT K H a us ∧ RepVs K ρ H xs us := by
  simp only [RepV] at h
  obtain ⟨a, us, e, h1, r⟩ := h
  exact ⟨a, us, e, .inr h1, r⟩
theorem RepV.toCl {xs : List PV} {u : V} (h : RepV K ρ H (.cl xs) u) : ∃ a us, u = .ref a ∧ SqL K H a us ∧ RepVs K ρ H xs us := by
  simp only [RepV] at h
  obtain ⟨a, us, e, h1, r⟩ := h
  exact ⟨a, us, e, h1.elim (fun q => let ⟨o, q1, _⟩ := q; .inl (.inr ⟨o, q1⟩)) .inr, r⟩
theorem llst_rep (k : RepM K ρ H M) {v : PV} {x : V} {xs : List PV} (r : RepV K ρ H v x) (e : PL.llst M v = some xs) : ∃ a us, x = .ref a ∧ H a = some (.lst us) ∧ RepVs K ρ H xs us := by
  cases v with
  | fl ys =>
    simp only [PL.llst, Option.some.injEq] at e
    subst e
    simp only [RepV] at r
    obtain ⟨a, us, e, h1, n, r⟩ := r
    exact ⟨a, us, e, h1, r⟩
  | ref i =>
    simp only [PL.llst] at e
    split at e
    · rename_i ys h
      obtain rfl := Option.some.inj e
      simp only [RepV] at r
      obtain ⟨a, h1, h2⟩ := r
      obtain ⟨b, us, h3, h4, h5⟩ := k.lst h
      rw [h1] at h3
      obtain rfl := Option.some.inj h3
      exact ⟨a, us, h2, h4, h5⟩
    · cases e
  | _ => simp [PL.llst] at e
theorem litems_rep (k : RepM K ρ H M) {v : PV} {x : V} {xs : List PV} (r : RepV K ρ H v x) (e : PL.litems M v = some xs) : ∃ a us, x = .ref a ∧ SqL K H a us ∧ RepVs K ρ H xs us := by
  by_cases hc : ∃ ys, v = .cl ys
  · obtain ⟨ys, rfl⟩ := hc
    simp only [PL.litems, Option.some.injEq] at e
    subst e
    exact r.toCl
  · have e2 : PL.llst M v = some xs := by
      cases v with
      | cl ys => exact absurd ⟨ys, rfl⟩ hc
      | fl ys => exact e
      | ref i => exact e
      | _ => simp [PL.litems] at e
    obtain ⟨a, us, h1, h2, h3⟩ := llst_rep k r e2
    exact ⟨a, us, h1, .of h2, h3⟩
theorem items_rep (k : RepM K ρ H M) {v : PV} {x : V} {xs : List PV} (r : RepV K ρ H v x) (e : PL.items M v = some xs) :
    ∃ a us, x = .ref a ∧ (SqL K H a us ∨ SqT K H a us) ∧ RepVs K ρ H xs us := by
  cases v with
  | tup ys =>
    simp only [PL.items, Option.some.injEq] at e
    subst e
    obtain ⟨a, us, h1, h2, h3⟩ := r.toTup
    exact ⟨a, us, h1, .inr h2, h3⟩
  | ct ys =>
    simp only [PL.items, Option.some.injEq] at e
    subst e
    obtain ⟨a, us, h1, h2, h3⟩ := r.toCt
    exact ⟨a, us, h1, .inr h2, h3⟩
  | fl ys =>
    obtain ⟨a, us, h1, h2, h3⟩ := litems_rep k r (show PL.litems M (.fl ys) = some xs from e)
    exact ⟨a, us, h1, .inl h2, h3⟩
  | cl ys =>
    obtain ⟨a, us, h1, h2, h3⟩ := litems_rep k r (show PL.litems M (.cl ys) = some xs from e)
    exact ⟨a, us, h1, .inl h2, h3⟩
  | ref i =>
    obtain ⟨a, us, h1, h2, h3⟩ := litems_rep k r (show PL.litems M (.ref i) = some xs from e)
    exact ⟨a, us, h1, .inl h2, h3⟩
  | _ => simp [PL.items] at e
theorem dkeys_rep (k : RepM K ρ H M) {v : PV} {x : V} {ks vs : List PV} (r : RepV K ρ H v x) (e : PL.dkeys M v = some (false, ks, vs)) :
    ∃ a kvs, x = .ref a ∧ Rd H a (.dK kvs) ∧ ks.map keyK = kvs.map (fun kv => some kv.1) ∧ RepVs K ρ H vs (kvs.map (·.2)) := by
  cases v with
  | fd ks' vs' =>
    cases ks' with
    | nil => simp [PL.dkeys] at e
    | cons k0 ks' =>
      simp only [PL.dkeys, Option.some.injEq, Prod.mk.injEq] at e
      obtain ⟨e0, rfl, rfl⟩ := e
      simp only [RepV] at r
      rcases r with ⟨a, kvs, e, h1, n, h2, r⟩ | ⟨a, kvs, e, h1, n, h2, r1, r, _⟩
      · exact ⟨a, kvs, e, h1, h2, r⟩
      · cases kvs with
        | nil => simp at h2
        | cons p kvs =>
          simp only [List.map_cons, List.cons.injEq] at h2
          rw [h2.1] at e0; cases e0
  | ref i =>
    simp only [PL.dkeys] at e
    split at e
    · rename_i lk ys zs h
      simp only [Option.some.injEq, Prod.mk.injEq] at e
      obtain ⟨rfl, rfl, rfl⟩ := e
      simp only [RepV] at r
      obtain ⟨a, h1, h2⟩ := r
      obtain ⟨b, kvs, h3, h4, h5, h6⟩ := k.dct h
      rw [h1] at h3
      obtain rfl := Option.some.inj h3
      exact ⟨a, kvs, h2, .inl h4, h5, h6⟩
    · cases e
  | _ => simp [PL.dkeys] at e
theorem dkeysT_rep (k : RepM K ρ H M) {v : PV} {x : V} {ks vs : List PV} (r : RepV K ρ H v x) (e : PL.dkeys M v = some (true, ks, vs)) :
    ∃ a kvs, x = .ref a ∧ Rd H a (DTO a kvs) ∧ ks = kvs.map keyTV ∧ RepVs K ρ H ks (kvs.map fun p => V.ref p.2.1) ∧ RepVs K ρ H vs (kvs.map (·.2.2)) := by
  cases v with
  | fd ks' vs' =>
    cases ks' with
    | nil => simp [PL.dkeys] at e
    | cons k0 ks' =>
      simp only [PL.dkeys, Option.some.injEq, Prod.mk.injEq] at e
      obtain ⟨e0, rfl, rfl⟩ := e
      simp only [RepV] at r
      rcases r with ⟨a, kvs, e, h1, n, h2, r⟩ | ⟨a, kvs, e, h1, n, h2, r1, r, _⟩
      · cases kvs with
        | nil => simp at h2
        | cons p kvs =>
          simp only [List.map_cons, List.cons.injEq] at h2
          have := h2.1
          cases k0 <;> simp [PL.isTup, keyK] at e0 this
      · exact ⟨a, kvs, e, h1, h2, r1, r⟩
  | ref i =>
    simp only [PL.dkeys] at e
    split at e
    · rename_i lk ys zs h
      simp only [Option.some.injEq, Prod.mk.injEq] at e
      obtain ⟨rfl, rfl, rfl⟩ := e
      simp only [RepV] at r
      obtain ⟨a, h1, h2⟩ := r
      obtain ⟨b, kvs, h3, h4, h5, h6, h7⟩ := k.dctT h
      rw [h1] at h3
      obtain rfl := Option.some.inj h3
      exact ⟨a, kvs, h2, .inl h4, h5, h6, h7⟩
    · cases e
  | _ => simp [PL.dkeys] at e
end

/-! ### new tuples -/
section
variable {X : Cx} {pins : List (Addr × Obj)} {σ : L2.St} {H : Hp} {s : Shared}
abbrev tupObj (its : List Value) : Obj := { cls := .type "tuple", data := .seq its.toArray }
theorem tupO_new (its : List Value) : TupO (tupObj its) := ⟨rfl, rfl⟩
theorem Inv.tnew {its : List Value} {us : List V} {t' : Nat} (I : Inv X pins σ H s) (hv : Vals us its) (hz : us.length ≤ sizeLine) :
    Inv X pins σ (upd H s.heap.objs.size (.frz (tupObj its) (.tup us))) { s with heap := s.heap.push (tupObj its), toks := t' } :=
  I.laid (fun _ _ q => Heap.get?_push_of_some _ q) (Nat.le_refl _) ⟨Heap.get?_push_size _ rfl, hz, its, hv, IsTup.new _ _⟩
theorem rep_flat (k : Nat) (its : List Value) (us : List V) (h : Vals us its) : Vals (List.replicate k us).flatten (List.replicate k its).flatten := by
  induction k with
  | zero => exact .nil
  | succ k ih => rw [List.replicate_succ, List.replicate_succ, List.flatten_cons, List.flatten_cons]; exact h.append ih
end

/-! ### operators -/
def opOf : PL.Op → Operator
  | .add => .Add
  | .sub => .Sub
  | .mul => .Mult
  | .fdiv => .FloorDiv
  | .mod => .Mod
  | .pow => .Pow
section
variable {X : Cx} {mk : Mk} {E : EXC}
def rB (K : PySem.W.Frag) (mk : Mk) (E : EXC) (o : PL.Op) : R2 := fun x y H Q => ∃ ρ M v w, Ok K mk ρ H M ∧ RepV K ρ H v x ∧ RepV K ρ H w y ∧ Post K mk (RepV K) E ρ H Q (PL.binop M o v w)
theorem mulOk_wide {i j : Int} (h : PL.mulOk i j = true) : CMul i j ∨ CMulW i j := by
  unfold PL.mulOk at h
  simp only [Bool.or_eq_true, Bool.and_eq_true, decide_eq_true_eq] at h
  rcases h with (h | h) | ⟨h1, h2⟩
  · left; left; omega
  · left; right; omega
  · right; exact wide_mul h1 h2 (by decide) (by decide) (by decide)
theorem cat_tupF {pins : List (Addr × Obj)} {σ : L2.St} {H : Hp} {s : Shared} {a b : Addr} {us ws : List V} {Q : VK} (I : Inv X pins σ H s) (ha : SqT X.K H a us) (hb : SqT X.K H b ws) (hz : us.length + ws.length ≤ sizeLine)
    (q0 : us = [] → Q (.ref b) H) (q1 : us ≠ [] → ws = [] → Q (.ref a) H) (q2 : ∀ p o, H p = none → TupO o → Q (.ref p) (upd H p (.frz o (.tup (us ++ ws))))) :
    wpAny (model X.prog X.w) X.A (binaryOp .Add (.ref a) (.ref b)) (EP X pins σ Q) X.xe s := by
  obtain ⟨its, r1, p1, _⟩ := I.tuple ha
  obtain ⟨its2, r2, p2, _⟩ := I.tuple hb
  by_cases hx : us = []
  · subst hx
    cases r1
    exact cat_tup0 p1 p2 ⟨.ref b, H, I, rfl, q0 rfl⟩
  · refine HT.cat_tup p1 p2 (fun z => hx (r1.nil_iff.mp z)) (fun z => ⟨.ref a, H, I, rfl, q1 hx (r2.nil_iff.mp z)⟩) (fun _ => ?_) (by rw [← r1.length, ← r2.length]; exact hz)
    exact ⟨.ref s.heap.objs.size, _, Inv.tnew (t' := s.toks) I (r1.append r2) (by rw [List.length_append]; exact hz), rfl, q2 _ _ I.fresh (tupO_new _)⟩
theorem op_addP : OpR X (binaryOp .Add) (rB X.K mk E .add) := by
  rintro pins s σ H x y v u Q I rx ry ⟨ρ, M, a, b, k, ra, rb, h⟩
  have lists : ∀ xs ys, PL.llst M a = some xs → PL.llst M b = some ys → (if xs.length + ys.length ≤ PL.SZ then Post X.K mk (RepV X.K) E ρ H Q (PL.alloc (.lst (xs ++ ys)) M) else False) →
      wpAny (model X.prog X.w) X.A (binaryOp .Add v u) (EP X pins σ Q) X.xe s := fun xs ys e1 e2 h => by
    obtain ⟨p, us, rfl, h1, r1⟩ := llst_rep k.rep ra e1
    obtain ⟨q, ws, rfl, h2, r2⟩ := llst_rep k.rep rb e2
    split at h
    · rename_i hz
      exact op_cat pins s σ H _ _ v u Q I rx ry ⟨p, q, us, ws, rfl, rfl, h1, h2, by rw [← r1.length, ← r2.length, ← SZ_eq]; exact hz, fun z n => post_alloc h k ⟨_, rfl, r1.append r2⟩ z n⟩
    · exact h.elim
  change Post X.K mk (RepV X.K) E ρ H Q (PL.addV M a b) at h
  unfold PL.addV at h
  split at h
  · simp only [RepV] at ra rb
    exact op_add pins s σ H x y v u Q I rx ry ⟨_, _, ra, rb, h.ok k (by simp only [RepV])⟩
  · simp only [RepV] at ra rb
    split at h
    · rename_i hz
      exact op_add_str pins s σ H x y v u Q I rx ry ⟨_, _, ra, rb, by rw [toStr_len, toStr_len, ← SZ_eq]; exact hz, h.ok k (by simp only [RepV]; rw [toStr_app])⟩
    · exact h.elim
  · split at h
    · rename_i xs ys hz
      have ra0 := ra
      have rb0 := rb
      obtain ⟨p, us, rfl, h1, r1⟩ := ra.toTup
      obtain ⟨q, ws, rfl, h2, r2⟩ := rb.toTup
      cases rx
      cases ry
      refine cat_tupF I h1 h2 (by rw [← r1.length, ← r2.length, ← SZ_eq]; exact hz) (fun e => ?_) (fun e e' => ?_) fun z o n t => post_tup h k (r1.append r2) z o n t
      · subst e
        have : xs = [] := List.eq_nil_of_length_eq_zero (by rw [r1.length]; rfl)
        subst this
        exact h.ok k rb0
      · subst e'
        have : ys = [] := List.eq_nil_of_length_eq_zero (by rw [r2.length]; rfl)
        subst this
        refine h.ok k ?_
        rw [List.append_nil]
        exact ra0
    · exact h.elim
  · split at h
    · rename_i e1 e2
      refine lists _ _ e1 e2 ?_
      split at h
      · rename_i hz; rw [if_pos hz]; exact h
      · exact h.elim
    · exact h.elim
end
end PLS

/-! PLS4: data: ==, in, count, index, repr. -/
namespace PLS
open PySem PySem.Spec PyProof.Rows L2

section
variable {K : PySem.W.Frag} {ρ : List Addr} {H : Hp} {M : PL.Mem}
-- a value that is read as a datum
mutual
theorem dp_W {f : Nat → Option PV} (hf : ∀ i v' u, f i = some v' → PL.plain v' = true → RepV K ρ H (.ref i) u → ∃ d, dat v' = some d ∧ Dp K H u d) :
    ∀ {v v' : PV} {u : V}, RepV K ρ H v u → PL.rdW f v = some v' → PL.plain v' = true → ∃ d, dat v' = some d ∧ Dp K H u d
  | .ref i, v', u, r, e, p => hf i v' u (by simpa only [PL.rdW] using e) p r
  | .non, v', u, r, e, p => by
    simp only [PL.rdW, Option.some.injEq] at e; subst e
    simp only [RepV] at r; subst r
    exact ⟨.none, by simp only [dat], .non⟩
  | .bl b, v', u, r, e, p => by
    simp only [PL.rdW, Option.some.injEq] at e; subst e
    simp only [RepV] at r; subst r
    exact ⟨.bool b, by simp only [dat], .bl b⟩
  | .int i, v', u, r, e, p => by
    simp only [PL.rdW, Option.some.injEq] at e; subst e
    simp only [RepV] at r; subst r
    exact ⟨.int i, by simp only [dat], .int i⟩
  | .str s, v', u, r, e, p => by
    simp only [PL.rdW, Option.some.injEq] at e; subst e
    simp only [RepV] at r; subst r
    exact ⟨.str (toStr s), by simp only [dat], .str _⟩
  | .rep d, v', u, r, e, p => by
    simp only [PL.rdW, Option.some.injEq] at e; subst e
    simp [PL.plain] at p
  | .ct xs, v', u, r, e, p => by
    simp only [PL.rdW, Option.some.injEq] at e; subst e
    simp [PL.plain] at p
  | .cl xs, v', u, r, e, p => by
    simp only [PL.rdW, Option.some.injEq] at e; subst e
    simp [PL.plain] at p
  | .fd ks vs, v', u, r, e, p => by
    simp only [PL.rdW, Option.bind_eq_some_iff, Option.map_eq_some_iff] at e
    obtain ⟨a, _, b, _, rfl⟩ := e
    simp [PL.plain] at p
  | .tup xs, v', u, r, e, p => by
    simp only [PL.rdW, Option.map_eq_some_iff] at e
    obtain ⟨ys, e, rfl⟩ := e
    simp only [PL.plain] at p
    obtain ⟨a, us, rfl, h, rs⟩ := r.toTup
    obtain ⟨ds, h1, h2⟩ := dp_Ws hf rs e p
    exact ⟨.tuple ds, by simp only [dat, h1, Option.map_some], .tup h h2⟩
  | .fl xs, v', u, r, e, p => by
    simp only [PL.rdW, Option.map_eq_some_iff] at e
    obtain ⟨ys, e, rfl⟩ := e
    simp only [PL.plain] at p
    simp only [RepV] at r
    obtain ⟨a, us, rfl, h, n, rs⟩ := r
    obtain ⟨ds, h1, h2⟩ := dp_Ws hf rs e p
    exact ⟨.list ds, by simp only [dat, h1, Option.map_some], .lst (.of h) h2⟩
theorem dp_Ws {f : Nat → Option PV} (hf : ∀ i v' u, f i = some v' → PL.plain v' = true → RepV K ρ H (.ref i) u → ∃ d, dat v' = some d ∧ Dp K H u d) :
    ∀ {xs ys : List PV} {us : List V}, RepVs K ρ H xs us → PL.rdWs f xs = some ys → PL.plains ys = true → ∃ ds, dats ys = some ds ∧ DpAll K H us ds
  | [], ys, us, r, e, p => by
    simp only [PL.rdWs, Option.some.injEq] at e; subst e
    rw [r.inv0]
    exact ⟨[], by simp only [dats], .nil⟩
  | x :: xs, ys, us, r, e, p => by
    simp only [PL.rdWs, Option.bind_eq_some_iff, Option.map_eq_some_iff] at e
    obtain ⟨a, e1, b, e2, rfl⟩ := e
    simp only [PL.plains, Bool.and_eq_true] at p
    obtain ⟨u, t, rfl, h1, h2⟩ := r.inv
    obtain ⟨d, d1, d2⟩ := dp_W hf h1 e1 p.1
    obtain ⟨ds, d3, d4⟩ := dp_Ws hf h2 e2 p.2
    exact ⟨d :: ds, by simp only [dats, d1, d3, Option.bind_some, Option.map_some], .cons d2 d4⟩
end
theorem dp_rd (k : RepM K ρ H M) : ∀ (n : Nat) {v v' : PV} {u : V}, RepV K ρ H v u → PL.rd M n v = some v' → PL.plain v' = true → ∃ d, dat v' = some d ∧ Dp K H u d
  | 0, v, v', u, r, e, p => dp_W (f := fun _ => none) (fun _ _ _ z => nomatch z) r (by simpa only [PL.rd] using e) p
  | n + 1, v, v', u, r, e, p => by
    simp only [PL.rd] at e
    refine dp_W ?_ r e p
    intro i v' u e p r
    split at e
    · rename_i xs hm
      simp only [Option.map_eq_some_iff] at e
      obtain ⟨ys, e, rfl⟩ := e
      simp only [PL.plain] at p
      simp only [RepV] at r
      obtain ⟨a, h1, rfl⟩ := r
      obtain ⟨b, us, h2, h3, rs⟩ := k.lst hm
      rw [h1] at h2
      obtain rfl := Option.some.inj h2
      obtain ⟨ds, d1, d2⟩ := dp_Ws (fun j w z e p r => dp_rd k n r e p) rs e p
      exact ⟨.list ds, by simp only [dat, d1, Option.map_some], .lst (.of h3) d2⟩
    · simp only [Option.bind_eq_some_iff, Option.map_eq_some_iff] at e
      obtain ⟨a, _, b, _, rfl⟩ := e
      simp [PL.plain] at p
    · cases e
end
-- == of data
mutual
theorem eqV_eqv : ∀ {a b : PV} {d e : PyData}, dat a = some d → dat b = some e → PL.plain a = true → PL.plain b = true → PyData.eqv d e = PL.eqV a b
  | .non, b, d, e, h1, h2, p, q => by
    simp only [dat, Option.some.injEq] at h1; subst h1
    cases b <;> simp [dat, PL.plain] at h2 q <;> first | (subst h2; simp [PyData.eqv, PL.eqV]; done) | (obtain ⟨_, _, rfl⟩ := h2; simp [PyData.eqv, PL.eqV])
  | .bl x, b, d, e, h1, h2, p, q => by
    simp only [dat, Option.some.injEq] at h1; subst h1
    cases b <;> simp [dat, PL.plain] at h2 q <;> first | (subst h2; simp [PyData.eqv, PL.eqV]; done) | (obtain ⟨_, _, rfl⟩ := h2; simp [PyData.eqv, PL.eqV])
  | .int x, b, d, e, h1, h2, p, q => by
    simp only [dat, Option.some.injEq] at h1; subst h1
    cases b <;> simp [dat, PL.plain] at h2 q <;> first | (subst h2; simp [PyData.eqv, PL.eqV]; done) | (obtain ⟨_, _, rfl⟩ := h2; simp [PyData.eqv, PL.eqV])
  | .str x, b, d, e, h1, h2, p, q => by
    simp only [dat, Option.some.injEq] at h1; subst h1
    cases b with
    | str y =>
      simp only [dat, Option.some.injEq] at h2; subst h2
      simp only [PyData.eqv, PL.eqV]
      by_cases hxy : x = y
      · subst hxy; simp
      · rw [decide_eq_false hxy]
        exact beq_eq_false_iff_ne.mpr fun z => hxy (toStr_inj z)
    | _ => simp [dat, PL.plain] at h2 q <;> first | (subst h2; simp [PyData.eqv, PL.eqV]; done) | (obtain ⟨_, _, rfl⟩ := h2; simp [PyData.eqv, PL.eqV])
  | .tup xs, b, d, e, h1, h2, p, q => by
    simp only [dat, Option.map_eq_some_iff] at h1
    obtain ⟨ds, h1, rfl⟩ := h1
    cases b with
    | tup ys =>
      simp only [dat, Option.map_eq_some_iff] at h2
      obtain ⟨es, h2, rfl⟩ := h2
      simp only [PL.plain] at p q
      simp only [PyData.eqv, PL.eqV]
      exact eqVs_eqv h1 h2 p q
    | _ => simp [dat, PL.plain] at h2 q <;> first | (subst h2; simp [PyData.eqv, PL.eqV]; done) | (obtain ⟨_, _, rfl⟩ := h2; simp [PyData.eqv, PL.eqV])
  | .fl xs, b, d, e, h1, h2, p, q => by
    simp only [dat, Option.map_eq_some_iff] at h1
    obtain ⟨ds, h1, rfl⟩ := h1
    cases b with
    | fl ys =>
      simp only [dat, Option.map_eq_some_iff] at h2
      obtain ⟨es, h2, rfl⟩ := h2
      simp only [PL.plain] at p q
      simp only [PyData.eqv, PL.eqV]
      exact eqVs_eqv h1 h2 p q
    | _ => simp [dat, PL.plain] at h2 q <;> first | (subst h2; simp [PyData.eqv, PL.eqV]; done) | (obtain ⟨_, _, rfl⟩ := h2; simp [PyData.eqv, PL.eqV])
  | .fd _ _, b, d, e, h1, h2, p, q => by simp [PL.plain] at p
  | .ref _, b, d, e, h1, h2, p, q => by simp [PL.plain] at p
  | .rep _, b, d, e, h1, h2, p, q => by simp [PL.plain] at p
  | .ct _, b, d, e, h1, h2, p, q => by simp [PL.plain] at p
  | .cl _, b, d, e, h1, h2, p, q => by simp [PL.plain] at p
theorem eqVs_eqv : ∀ {a b : List PV} {d e : List PyData}, dats a = some d → dats b = some e → PL.plains a = true → PL.plains b = true → PyData.eqvAll d e = PL.eqVs a b
  | [], b, d, e, h1, h2, p, q => by
    simp only [dats, Option.some.injEq] at h1; subst h1
    cases b with
    | nil => simp only [dats, Option.some.injEq] at h2; subst h2; simp [PyData.eqvAll, PL.eqVs]
    | cons y ys =>
      simp only [dats, Option.bind_eq_some_iff, Option.map_eq_some_iff] at h2
      obtain ⟨_, _, _, _, rfl⟩ := h2
      simp [PyData.eqvAll, PL.eqVs]
  | x :: xs, b, d, e, h1, h2, p, q => by
    simp only [dats, Option.bind_eq_some_iff, Option.map_eq_some_iff] at h1
    obtain ⟨d1, e1, ds, e2, rfl⟩ := h1
    cases b with
    | nil => simp only [dats, Option.some.injEq] at h2; subst h2; simp [PyData.eqvAll, PL.eqVs]
    | cons y ys =>
      simp only [dats, Option.bind_eq_some_iff, Option.map_eq_some_iff] at h2
      obtain ⟨d3, e3, ds2, e4, rfl⟩ := h2
      simp only [PL.plains, Bool.and_eq_true] at p q
      simp only [PyData.eqvAll, PL.eqVs, eqV_eqv e1 e3 p.1 q.1, eqVs_eqv e2 e4 p.2 q.2]
end
mutual
theorem dat_lay : ∀ {a : PV} {d : PyData}, dat a = some d → PL.plain a = true → d.canLay0 = true
  | .non, d, h, p => by simp only [dat, Option.some.injEq] at h; subst h; simp [PyData.canLay0]
  | .bl _, d, h, p => by simp only [dat, Option.some.injEq] at h; subst h; simp [PyData.canLay0]
  | .int _, d, h, p => by simp only [dat, Option.some.injEq] at h; subst h; simp [PyData.canLay0]
  | .str s, d, h, p => by
    simp only [dat, Option.some.injEq] at h; subst h
    simp only [PyData.canLay0, PyData.strOk, toStr]
    simp only [PL.plain, List.all_eq_true, decide_eq_true_eq] at p
    rw [← Array.all_toList]
    exact List.all_eq_true.mpr fun c hc => decide_eq_true (p c (by simpa using hc))
  | .tup xs, d, h, p => by
    simp only [dat, Option.map_eq_some_iff] at h
    obtain ⟨ds, h, rfl⟩ := h
    simp only [PL.plain] at p
    simp only [PyData.canLay0]; exact dats_lay h p
  | .fl xs, d, h, p => by
    simp only [dat, Option.map_eq_some_iff] at h
    obtain ⟨ds, h, rfl⟩ := h
    simp only [PL.plain] at p
    simp only [PyData.canLay0]; exact dats_lay h p
  | .fd _ _, d, h, p => by simp [PL.plain] at p
  | .ref _, d, h, p => by simp [PL.plain] at p
  | .rep _, d, h, p => by simp [PL.plain] at p
  | .ct _, d, h, p => by simp [PL.plain] at p
  | .cl _, d, h, p => by simp [PL.plain] at p
theorem dats_lay : ∀ {a : List PV} {d : List PyData}, dats a = some d → PL.plains a = true → PyData.canLayAll0 d = true
  | [], d, h, p => by simp only [dats, Option.some.injEq] at h; subst h; simp [PyData.canLayAll0]
  | x :: xs, d, h, p => by
    simp only [dats, Option.bind_eq_some_iff, Option.map_eq_some_iff] at h
    obtain ⟨d1, e1, ds, e2, rfl⟩ := h
    simp only [PL.plains, Bool.and_eq_true] at p
    simp only [PyData.canLayAll0, dat_lay e1 p.1, dats_lay e2 p.2, Bool.and_self]
end
theorem depthKv_zip : ∀ (a b : List PyData), PyData.depthKv (a.zip b) ≤ max (PyData.depthAll a) (PyData.depthAll b)
  | [], b => by simp [PyData.depthKv]
  | x :: a, [] => by simp [PyData.depthKv]
  | x :: a, y :: b => by
    have := depthKv_zip a b
    simp only [List.zip_cons_cons, PyData.depthKv, PyData.depthAll]
    omega
mutual
theorem dat_dep : ∀ {a : PV} {d : PyData}, dat a = some d → d.depth ≤ PL.dep a
  | .non, d, h => by simp only [dat, Option.some.injEq] at h; subst h; simp [PyData.depth]
  | .bl _, d, h => by simp only [dat, Option.some.injEq] at h; subst h; simp [PyData.depth]
  | .int _, d, h => by simp only [dat, Option.some.injEq] at h; subst h; simp [PyData.depth]
  | .str s, d, h => by simp only [dat, Option.some.injEq] at h; subst h; simp [PyData.depth]
  | .tup xs, d, h => by
    simp only [dat, Option.map_eq_some_iff] at h
    obtain ⟨ds, h, rfl⟩ := h
    simp only [PyData.depth, PL.dep]
    have := dats_dep h
    omega
  | .fl xs, d, h => by
    simp only [dat, Option.map_eq_some_iff] at h
    obtain ⟨ds, h, rfl⟩ := h
    simp only [PyData.depth, PL.dep]
    have := dats_dep h
    omega
  | .fd ks vs, d, h => by
    simp only [dat, Option.bind_eq_some_iff, Option.map_eq_some_iff] at h
    obtain ⟨a, h1, b, h2, rfl⟩ := h
    simp only [PyData.depth, PL.dep]
    have e1 := dats_dep h1
    have e2 := dats_dep h2
    have e3 := depthKv_zip a b
    omega
  | .ref _, d, h => by simp [dat] at h
  | .rep x, d, h => by
    simp only [dat, Option.map_eq_some_iff] at h
    obtain ⟨p, _, rfl⟩ := h
    simp [PyData.depth]
  | .ct _, d, h => by simp [dat] at h
  | .cl _, d, h => by simp [dat] at h
theorem dats_dep : ∀ {a : List PV} {d : List PyData}, dats a = some d → PyData.depthAll d ≤ PL.deps a
  | [], d, h => by simp only [dats, Option.some.injEq] at h; subst h; simp [PyData.depthAll]
  | x :: xs, d, h => by
    simp only [dats, Option.bind_eq_some_iff, Option.map_eq_some_iff] at h
    obtain ⟨d1, e1, ds, e2, rfl⟩ := h
    simp only [PyData.depthAll, PL.deps]
    have a1 := dat_dep e1
    have a2 := dats_dep e2
    omega
end
section
variable {K : PySem.W.Frag} {ρ : List Addr} {H : Hp} {M : PL.Mem}
theorem eqD_rep (k : RepM K ρ H M) {x y : PV} {u w : V} {b : Bool} (rx : RepV K ρ H x u) (ry : RepV K ρ H y w) (e : PL.eqD M x y = some b) :
    ∃ d1 d2, Dp K H u d1 ∧ Dp K H w d2 ∧ SeqAt.shaped d1 = true ∧ SeqAt.shaped d2 = true ∧ PyData.eqv d1 d2 = b := by
  unfold PL.eqD at e
  split at e
  · rename_i a c e1 e2
    split at e
    · rename_i hp
      simp only [Bool.and_eq_true, decide_eq_true_eq] at hp
      obtain ⟨⟨⟨p1, p2⟩, l1⟩, l2⟩ := hp
      obtain rfl := Option.some.inj e
      obtain ⟨d1, h1, q1⟩ := dp_rd k _ rx e1 p1
      obtain ⟨d2, h2, q2⟩ := dp_rd k _ ry e2 p2
      have z1 := dat_dep h1
      have z2 := dat_dep h2
      refine ⟨d1, d2, q1, q2, ?_, ?_, eqV_eqv h1 h2 p1 p2⟩
      · unfold SeqAt.shaped; rw [dat_lay h1 p1, Bool.true_and]; exact decide_eq_true (by omega)
      · unfold SeqAt.shaped; rw [dat_lay h2 p2, Bool.true_and]; exact decide_eq_true (by omega)
    · cases e
  · cases e
end
section
variable {X : Cx} {mk : Mk} {E : EXC}
/-- the == of an item that is asked of -/
theorem eqD_at {pins : List (Addr × Obj)} {σ : L2.St} {H : Hp} {s : Shared} {M : PL.Mem} {ρ : List Addr} (I : Inv X pins σ H s) (k : RepM X.K ρ H M) (hu : X.A.units + 200 < cLine) {x : PV} {u : V} {b : Bool} {xv : Value} (rx : RepV X.K ρ H x u) (qx : RelV u xv) :
    ∀ {ys : List PV} {us : List V} {vs : List Value}, RepVs X.K ρ H ys us → Vals us vs → (∀ y ∈ ys, (PL.eqD M y x).isSome = true) →
      ∃ e : Value → Bool, (∀ v ∈ vs, SeqAt.EqAt X.A.in1 s v xv (e v)) ∧ ∀ (i : Nat) (y : PV) (v : Value), ys[i]? = some y → vs[i]? = some v → PL.eqD M y x = some (e v) := by
  intro ys us vs rs qs hs
  by_cases h0 : ys = []
  · subst h0
    have := rs.inv0; subst this; cases qs
    exact ⟨fun _ => false, ⟨fun v hv => absurd hv (by simp), fun i y v h _ => by simp at h⟩⟩
  · -- the datum of x
    obtain ⟨y0, hy0⟩ := List.exists_mem_of_ne_nil ys h0
    obtain ⟨i0, hi0, e0⟩ := List.mem_iff_getElem.mp hy0
    obtain ⟨b0, hb0⟩ := Option.isSome_iff_exists.mp (hs y0 hy0)
    obtain ⟨u0, hu0, r0⟩ := rs.get (i := i0) (by rw [List.getElem?_eq_getElem hi0, e0])
    obtain ⟨_, d, _, q2, _, s2, _⟩ := eqD_rep k r0 rx hb0
    obtain ⟨bs, rd2⟩ := Dp.reads I d u xv q2 qx
    have c2 := SeqAt.canLay_of_shaped s2
    have l2 := SeqAt.depth_of_shaped s2
    have each : ∀ (i : Nat) (y : PV) (v : Value), ys[i]? = some y → vs[i]? = some v → ∃ dy as b, Reads s.heap v dy as ∧ dy.canLay0 = true ∧ PL.eqD M y x = some b ∧ PyData.eqv dy d = b := fun i y v h1 h2 => by
      obtain ⟨b, hb⟩ := Option.isSome_iff_exists.mp (hs y (List.mem_of_getElem? h1))
      obtain ⟨w, hw, r⟩ := rs.get h1
      obtain ⟨v', hv', qv⟩ := qs.get hw
      rw [h2] at hv'
      obtain rfl := Option.some.inj hv'
      obtain ⟨dy, d', q1, q2', s1, s2', eb⟩ := eqD_rep k r rx hb
      obtain ⟨as, rd1⟩ := Dp.reads I dy w v q1 qv
      obtain ⟨bs', rd2'⟩ := Dp.reads I d' u xv q2' qx
      have ed : d' = d := (SeqAt.readOf_eq (SeqAt.canLay_of_shaped s2') rd2').symm.trans (SeqAt.readOf_eq c2 rd2)
      subst ed
      exact ⟨dy, as, b, rd1, SeqAt.canLay_of_shaped s1, hb, eb⟩
    refine ⟨fun v => PyData.eqv (SeqAt.readOf s.heap v) d, fun v hv => ?_, fun i y v h1 h2 => ?_⟩
    · obtain ⟨i, hi, e⟩ := List.mem_iff_getElem.mp hv
      have hl : i < ys.length := by rw [rs.length, qs.length]; exact hi
      obtain ⟨dy, as, b, rd1, c1, _, _⟩ := each i ys[i] v (List.getElem?_eq_getElem hl) (by rw [List.getElem?_eq_getElem hi, e])
      show SeqAt.EqAt X.A.in1 s v xv (PyData.eqv (SeqAt.readOf s.heap v) d)
      rw [SeqAt.readOf_eq c1 rd1]
      refine SeqAt.eqAt_reads dy d X.A.in1 s v xv as bs rd1 rd2 c1 c2 ?_
      have := Nat.min_le_right dy.depth d.depth
      show X.A.units + 1 + min dy.depth d.depth < cLine
      omega
    · obtain ⟨dy, as, b, rd1, c1, e1, e2⟩ := each i y v h1 h2
      show PL.eqD M y x = some (PyData.eqv (SeqAt.readOf s.heap v) d)
      rw [SeqAt.readOf_eq c1 rd1, e2]
      exact e1
end
end PLS

/-! PLST: dicts whose keys are tuples of vints. -/
namespace PLS
open PySem PySem.Spec PyProof.Rows L2

abbrev TL := List (List Int × Addr × V)
abbrev TX := List (List Int × Addr × Value)
abbrev TRel : TL → TX → Prop := Paired fun p q => p.1 = q.1 ∧ p.2.1 = q.2.1 ∧ RelV p.2.2 q.2.2
def valT (kvs : TL) (k : List Int) : Option V := (kvs.find? fun p => decide (p.1 = k)).map (·.2.2)
def putT (kvs : TL) (k : List Int) (b : Addr) (v : V) : TL := if (kvs.any fun p => decide (p.1 = k)) = true then kvs.map fun p => if p.1 = k then (p.1, p.2.1, v) else p else kvs ++ [(k, b, v)]
theorem valT_pos {p : List Int × Addr × V} {kvs : TL} {k : List Int} (e : p.1 = k) : valT (p :: kvs) k = some p.2.2 := by
  unfold valT; rw [List.find?_cons_of_pos (by simpa using e)]; rfl
theorem valT_neg {p : List Int × Addr × V} {kvs : TL} {k : List Int} (e : ¬ p.1 = k) : valT (p :: kvs) k = valT kvs k := by
  unfold valT; rw [List.find?_cons_of_neg (by simpa using e)]
theorem TRel.val {kvs : TL} {xs : TX} (r : TRel kvs xs) (k : List Int) : RelO (valT kvs k) ((atKey xs k).map (·.2)) := by
  induction r with
  | nil => exact True.intro
  | @cons p q ps qs h t ih =>
    obtain ⟨h1, _, h2⟩ := h
    by_cases e : p.1 = k
    · have : atKey (q :: qs) k = some q.2 := by unfold atKey; rw [List.find?_cons_of_pos (by simpa using h1.symm.trans e)]; rfl
      rw [valT_pos e, this]; exact h2
    · have : atKey (q :: qs) k = atKey qs k := by unfold atKey; rw [List.find?_cons_of_neg (by simpa using fun z => e (h1.trans z))]
      rw [valT_neg e, this]; exact ih
theorem valT_any : ∀ (kvs : TL) (k : List Int), (kvs.any fun p => decide (p.1 = k)) = (valT kvs k).isSome
  | [], k => rfl
  | p :: kvs, k => by
    by_cases e : p.1 = k
    · rw [valT_pos e, List.any_cons, decide_eq_true e]; rfl
    · rw [valT_neg e, List.any_cons, decide_eq_false e, Bool.false_or]; exact valT_any kvs k
theorem TRel.put {kvs : TL} {xs : TX} (r : TRel kvs xs) (k : List Int) (b : Addr) {y : V} {u : Value} (ry : RelV y u) : TRel (putT kvs k b y) (storedH xs k b u) := by
  have e : (kvs.any fun p => decide (p.1 = k)) = (atKey xs k).isSome := by
    rw [valT_any, (TRel.val r k).isSome_eq, Option.isSome_map]
  unfold putT storedH
  rw [e]
  split
  · rename_i hh
    clear e hh
    induction r with
    | nil => exact .nil
    | @cons p q ps qs h t ih =>
      rw [List.map_cons, List.map_cons]
      refine .cons ?_ ih
      unfold putAt
      by_cases c : p.1 = k
      · rw [if_pos c, if_pos (h.1.symm.trans c)]; exact ⟨h.1, h.2.1, ry⟩
      · rw [if_neg c, if_neg (fun z => c (h.1.trans z))]; exact h
  · exact Paired.snoc r ⟨rfl, rfl, ry⟩
section
variable {P : Program} {w : World} {H : Hp} {h : Heap} {a d : Addr} {kvs : TL}
abbrev tk (P : Program) (w : World) := tupleKind (intKind P w)
theorem ints_are : ∀ {ks : List Int} {us : List Value}, Vals (ks.map V.int) us → ItemsAre (intKind P w) ks us
  | [], _, r => by rw [List.map_nil] at r; cases r; exact .nil
  | k :: ks, _, r => by
    rw [List.map_cons] at r
    cases r with
    | cons h t =>
      obtain ⟨z, rfl⟩ := h
      exact .cons (by simp [intKind, Value.isInt]) (ints_are t)
theorem tkey_of {o : Obj} {ks : List Int} (ok : HOk P w H h) (e : H a = some (.frz o (.tup (ks.map V.int)))) : (tk P w).is h ks a := by
  obtain ⟨_, _, its, r, ob, h1, h2, n, h3⟩ := (show ObjOk P w H h a (.frz o (.tup (ks.map V.int))) from ok a _ e)
  exact ⟨ob, its.toArray, n, h1, h2, h3, by simpa using ints_are r⟩
/-- the keys stand where they are told to -/
def KeysAt (H : Hp) (kvs : TL) : Prop := ∀ p ∈ kvs, ∃ o, H p.2.1 = some (.frz o (.tup (p.1.map V.int)))
theorem dt_at (ok : HOk P w H h) (e : Rd H d (DTO d kvs)) (ks : KeysAt H kvs) : kvs.length ≤ sizeLine ∧ (d == sysModules) = false ∧ ∃ xs, TRel kvs xs ∧ h.DictOfH (tk P w) d xs := by
  have z : ObjOk P w H h d (DTO d kvs) := rd_of ok e
  obtain ⟨⟨z1, z2, xs, r, o, es, ep, h1, h2, h3, h4, h5⟩, _⟩ := z
  refine ⟨z1, z2, xs, r, o, es, ep, h1, h2, h3, h4, fun x hx => ?_, h5⟩
  have all : ∀ {l : TL} {m : TX}, TRel l m → (∀ p ∈ l, ∃ o, H p.2.1 = some (.frz o (.tup (p.1.map V.int)))) → ∀ x ∈ m, (tk P w).is h x.1 x.2.1 := by
    intro l m q
    induction q with
    | nil => intro _ x hx; cases hx
    | @cons p q ps qs hq t ih =>
      intro hk x hx
      rcases List.mem_cons.mp hx with rfl | hx
      · obtain ⟨o, ho⟩ := hk p (List.mem_cons_self ..)
        rw [hq.2.1, hq.1] at ho
        exact tkey_of ok ho
      · exact ih (fun p hp => hk p (List.mem_cons_of_mem _ hp)) x hx
  exact all r ks x hx
theorem dt_obj {h' : Heap} {H' : Hp} {xs : TX} (z : kvs.length ≤ sizeLine) (hd : (d == sysModules) = false) (r : TRel kvs xs) (dd : h'.DictOfH (tk P w) d xs) : ObjOk P w H' h' d (DTO d kvs) := by
  obtain ⟨o, es, ep, h1, h2, h3, h4, _, h5⟩ := dd
  refine ⟨⟨z, hd, xs, r, o, es, ep, h1, h2, h3, h4, h5⟩, ⟨o, h1⟩, ?_⟩
  intro g1 g2 ⟨z1, z2, ys, r', ob, es', ep', q1, q2⟩ st
  exact ⟨z1, z2, ys, r', ob, es', ep', st _ q1, q2⟩
end
section
variable {X : Cx} {pins : List (Addr × Obj)} {σ : L2.St} {H : Hp} {s : Shared} {d b : Addr} {kvs : TL} {k : List Int} {v : V} {r : Value} {ob : Obj} {A : Around} {E : Value → Shared → Prop}
theorem dt_typeIs (I : Inv X pins σ H s) (e : Rd H d (DTO d kvs)) : s.TypeIs (.ref d) "dict" ∧ ∀ b, Value.ref d = .ref b → ∃ ob, s.heap.get? b = some ob ∧ ob.dict = none := by
  have z : ObjOk X.prog X.w H s.heap d (DTO d kvs) := rd_of I.hok e
  obtain ⟨⟨_, _, xs, _, o, es, ep, h1, h2, _⟩, _⟩ := z
  exact ⟨⟨o, h1, h2.1⟩, fun b hb => by cases hb; exact ⟨o, h1, h2.2.1⟩⟩
theorem t_getItem {Q : Value → Shared → Prop} (hu : A.units + 1 < cLine) (I : Inv X pins σ H s) (e : Rd H d (DTO d kvs)) (ks : KeysAt H kvs) (eb : H b = some (.frz ob (.tup (k.map V.int)))) (l : valT kvs k = some v) (h : ∀ w' s', Inv X pins σ H s' → RelV v w' → Q w' s') :
    wpAny (model X.prog X.w) A (getItem (.ref d) (.ref b)) Q E s := by
  obtain ⟨z, hd, xs, rel, dd⟩ := dt_at I.hok e ks
  obtain ⟨w', hw, rw'⟩ := RelO.some_of (v := v) (o := (atKey xs k).map (·.2)) (by rw [← l]; exact TRel.val rel k)
  obtain ⟨p, hp, hp2⟩ := Option.map_eq_some_iff.mp hw
  refine wpAny_getItem_heap (tupleKind_room_in1 hu) (tkey_of I.hok eb) dd hp ?_
  rw [hp2]
  exact h w' _ (I.tok _) rw'
theorem t_in {Q : Value → Shared → Prop} (hu : A.units + 1 < cLine) (I : Inv X pins σ H s) (e : Rd H d (DTO d kvs)) (ks : KeysAt H kvs) (eb : H b = some (.frz ob (.tup (k.map V.int)))) :
    ((∀ s', Inv X pins σ H s' → Q (.bool (valT kvs k).isSome) s') → wpAny (model X.prog X.w) A (compareOp .In (.ref b) (.ref d)) Q E s) ∧
    ((∀ s', Inv X pins σ H s' → Q (.bool !(valT kvs k).isSome) s') → wpAny (model X.prog X.w) A (compareOp .NotIn (.ref b) (.ref d)) Q E s) := by
  obtain ⟨z, hd, xs, rel, dd⟩ := dt_at I.hok e ks
  have q := (TRel.val rel k).isSome_eq
  rw [Option.isSome_map] at q
  refine ⟨fun h => ?_, fun h => ?_⟩
  · refine wpAny_in_heap (tupleKind_room_in1 hu) (tkey_of I.hok eb) hd dd ?_
    rw [← q]; exact h _ (I.tok _)
  · refine wpAny_notIn_heap (tupleKind_room_in1 hu) (tkey_of I.hok eb) hd dd ?_
    rw [← q]; exact h _ (I.tok _)
theorem t_setItem {Q : Unit → Shared → Prop} (hu : A.units + 1 < cLine) (I : Inv X pins σ H s) (e : H d = some (DTO d kvs)) (ks : KeysAt H kvs) (eb : H b = some (.frz ob (.tup (k.map V.int)))) (hl : kvs.length < sizeLine) (rv : RelV v r)
    (h : ∀ s', Inv X pins σ (upd H d (DTO d (putT kvs k b v))) s' → Q () s') : wpAny (model X.prog X.w) A (setItem (.ref d) (.ref b) r) Q E s := by
  obtain ⟨z, hd, xs, rel, dd⟩ := dt_at I.hok (.inl e) ks
  have hz : xs.length ≤ sizeLine := by rw [← Paired.length rel]; exact z
  refine wpAny_setItem_heap (hsz := hz) (tupleKind_room_in1 hu) (tkey_of I.hok eb) dd fun h' dd' hs => h _ ?_
  have hq : ∃ q, h'.get? d = some q := let ⟨q, _, _, hq, _⟩ := dd'; ⟨q, hq⟩
  have hlen : (putT kvs k b v).length ≤ sizeLine := by
    unfold putT; split
    · rw [List.length_map]; exact z
    · rw [List.length_append, List.length_singleton]; omega
  exact d_write I (by rw [e]; exact True.intro) hs hq (dt_obj hlen hd (TRel.put rel k b rv) dd')
theorem pe_dnt {X : Cx} {pos : Pos} : PE X (.Dict [] [] pos) (fun _ H Q => ∀ p, H p = none → Q (.ref p) (upd H p (DTO p []))) :=
  ⟨fun pins s σ H Q I h => wpAny_Dict_empty ⟨.ref s.heap.objs.size, _, I.laid (a := s.heap.objs.size) (o := DTO s.heap.objs.size []) (t' := s.toks) (fun _ _ q => Heap.get?_push_of_some _ q) (Nat.le_refl _)
    (dt_obj (Nat.zero_le _) (beq_eq_false_iff_ne.mpr (Nat.ne_of_gt I.big)) .nil (Heap.DictOfH.new s.heap)), rfl, h _ (I.hok.fresh (Nat.le_refl _))⟩⟩
end
/-- what .get tells -/
def TGet (H : Hp) (d : Addr) (y : V) (o : Option V) : Prop := ∃ kvs k b ob, Rd H d (DTO d kvs) ∧ KeysAt H kvs ∧ y = .ref b ∧ H b = some (.frz ob (.tup (k.map V.int))) ∧ o = valT kvs k
section
variable {X : Cx} {pins : List (Addr × Obj)} {σ : L2.St} {H : Hp} {s : Shared} {d : Addr} {kvs : TL} {y z : V} {o : Option V} {r w : Value} {A : Around} {E : Value → Shared → Prop}
theorem t_get2 {Q : Value → Shared → Prop} (hu : A.units + 1 < cLine) (I : Inv X pins σ H s) (g : TGet H d y o) (ry : RelV y w) (rz : RelV z r) (h : ∀ w' s', Inv X pins σ H s' → RelV (o.getD z) w' → Q w' s') :
    wpAny (model X.prog X.w) A (call (.builtin "dict.get") [.ref d, w, r]) Q E s := by
  obtain ⟨kvs, k, b, ob, e, ks, rfl, eb, rfl⟩ := g
  cases ry
  obtain ⟨lz, hd, xs, rel, dd⟩ := dt_at I.hok e ks
  refine call_meetsIn PySem.F.slot_dict_get dd.typeIs PySem.F.entry_dict_get (PySem.F.args_dict_get_3 _ _ _)
    (meetsH_dict_get_default (tk X.prog X.w) d b hd r) ⟨tupleKind_room_in1 hu, k, xs, tkey_of I.hok eb, dd, h _ _ (I.tok _) ?_⟩
  exact (TRel.val rel k).getD rz
theorem t_get1 {Q : Value → Shared → Prop} (hu : A.units + 1 < cLine) (I : Inv X pins σ H s) (g : TGet H d y o) (ry : RelV y w) (h : ∀ w' s', Inv X pins σ H s' → RelV (o.getD .non) w' → Q w' s') :
    wpAny (model X.prog X.w) A (call (.builtin "dict.get") [.ref d, w]) Q E s := by
  obtain ⟨kvs, k, b, ob, e, ks, rfl, eb, rfl⟩ := g
  cases ry
  obtain ⟨lz, hd, xs, rel, dd⟩ := dt_at I.hok e ks
  refine call_meetsIn PySem.F.slot_dict_get dd.typeIs PySem.F.entry_dict_get (PySem.F.args_dict_get_2 _ _)
    (meetsH_dict_get (tk X.prog X.w) d b hd) ⟨tupleKind_room_in1 hu, k, xs, tkey_of I.hok eb, dd, h _ _ (I.tok _) ?_⟩
  exact (TRel.val rel k).getD rfl
theorem t_setd {Q : Value → Shared → Prop} {k : List Int} {b : Addr} {ob : Obj} (hu : A.units + 1 < cLine) (I : Inv X pins σ H s) (e : H d = some (DTO d kvs)) (ks : KeysAt H kvs) (eb : H b = some (.frz ob (.tup (k.map V.int)))) (rz : RelV z r) (hl : kvs.length < sizeLine)
    (h1 : ∀ v, valT kvs k = some v → ∀ w' s', Inv X pins σ H s' → RelV v w' → Q w' s') (h2 : valT kvs k = none → ∀ s', Inv X pins σ (upd H d (DTO d (putT kvs k b z))) s' → Q r s') :
    wpAny (model X.prog X.w) A (call (.builtin "dict.setdefault") [.ref d, .ref b, r]) Q E s := by
  obtain ⟨lz, hd, xs, rel, dd⟩ := dt_at I.hok (.inl e) ks
  have hz : xs.length ≤ sizeLine := by rw [← Paired.length rel]; exact lz
  have hv := TRel.val rel k
  refine call_setdefault_heap (hsz := hz) (tupleKind_room_in1 hu) (tkey_of I.hok eb) hd dd (fun p hp => ?_) fun hn h' dd' hs => ?_
  · rw [hp, Option.map_some] at hv
    cases hk : valT kvs k with
    | none => rw [hk] at hv; exact absurd hv (by intro z; cases z)
    | some v =>
      rw [hk] at hv
      exact h1 v hk _ _ (I.tok _) hv
  · have hk : valT kvs k = none := by
      cases hk : valT kvs k with
      | none => rfl
      | some v => rw [hk, hn] at hv; exact absurd hv (by intro z; cases z)
    refine h2 hk _ ?_
    have hq : ∃ q, h'.get? d = some q := let ⟨q, _, _, hq, _⟩ := dd'; ⟨q, hq⟩
    have hlen : (putT kvs k b z).length ≤ sizeLine := by
      unfold putT; split
      · rw [List.length_map]; exact lz
      · rw [List.length_append, List.length_singleton]; omega
    exact d_write I (by rw [e]; exact True.intro) hs hq (dt_obj hlen hd (TRel.put rel k b rz) dd')
/-- what the heap keeps of such a dict -/
theorem dt_raw (I : Inv X pins σ H s) (e : Rd H d (DTO d kvs)) : kvs.length ≤ sizeLine ∧ (d == sysModules) = false ∧ ∃ ob es ep, s.heap.get? d = some ob ∧ ob.ExactDict ∧ ob.data = .dict es ep ∧ es.size = kvs.length ∧
    ∀ (j : Nat) (p : List Int × Addr × V), kvs[j]? = some p → ∃ en : DictEntry, es[j]? = some en ∧ en.key = .ref p.2.1 := by
  have z : ObjOk X.prog X.w H s.heap d (DTO d kvs) := rd_of I.hok e
  obtain ⟨⟨z1, z2, xs, r, ob, es, ep, h1, h2, h3, h4, h5⟩, _⟩ := z
  have hl : kvs.length = xs.length := Paired.length r
  refine ⟨z1, z2, ob, es, ep, h1, h2, h3, ?_, fun j p hp => ?_⟩
  · rw [← Array.length_toList, h4, List.length_map, hl]
  · have ha : ∀ {l : TL} {m : TX} (j : Nat), TRel l m → ∀ (p : List Int × Addr × V), l[j]? = some p → ∃ q, m[j]? = some q ∧ p.2.1 = q.2.1 := by
      intro l m j t
      induction t generalizing j with
      | nil => intro p hp; simp at hp
      | cons hq t ih =>
        intro p hp
        cases j with
        | zero => simp only [List.getElem?_cons_zero, Option.some.injEq] at hp ⊢; subst hp; exact ⟨_, rfl, hq.2.1⟩
        | succ j => simp only [List.getElem?_cons_succ] at hp ⊢; exact ih j p hp
    obtain ⟨q, hq, hq2⟩ := ha j r p hp
    refine ⟨⟨keyHash q.1, .ref q.2.1, q.2.2⟩, ?_, by rw [hq2]⟩
    rw [← Array.getElem?_toList, h4, List.getElem?_map, hq]; rfl
theorem t_len {Q : Value → Shared → Prop} (I : Inv X pins σ H s) (e : Rd H d (DTO d kvs)) (ks : KeysAt H kvs) (h : ∀ t s', Inv X pins σ H s' → Q (.int kvs.length t) s') :
    wpAny (model X.prog X.w) A (call (.builtin "len") [.ref d]) Q E s := by
  obtain ⟨z, hd, xs, rel, dd⟩ := dt_at I.hok e ks
  have hl : kvs.length = xs.length := Paired.length rel
  rw [sizeLine_eq] at z
  refine call_len_dictH hd dd (by omega) ?_
  rw [← hl]
  exact h _ _ (I.tok _)
theorem all_refs : ∀ l : TL, Vals (l.map fun q => V.ref q.2.1) (l.map fun q => Value.ref q.2.1)
  | [] => .nil
  | _ :: l => .cons rfl (all_refs l)
/-- list(d) -/
theorem t_list (hc : X.calm = true) {Q : VK} (I : Inv X pins σ H s) (e : Rd H d (DTO d kvs)) (h : ∀ p, H p = none → Q (.ref p) (upd H p (.lst (kvs.map fun q => V.ref q.2.1)))) :
    wpAny (model X.prog X.w) X.A (call (.type "list") [.ref d]) (EP X pins σ Q) E s := by
  obtain ⟨z1, z2, ob, es, ep, h1, h2, h3, h4, h5⟩ := dt_raw I e
  refine PySem.W.kdl_call (kdl_raw z2 h2 h3) (I.ok.hd hc) h1 (by omega) fun h' tok ar cap keep lay it => ?_
  have same : ar.toList = kvs.map fun q => Value.ref q.2.1 := by
    refine List.ext_getElem? fun j => ?_
    rw [List.getElem?_map, Array.getElem?_toList]
    cases hj : kvs[j]? with
    | none =>
      have := List.getElem?_eq_none_iff.mp hj
      have h6 := it.1
      rw [Array.getElem?_eq_none (by omega)]; rfl
    | some p =>
      obtain ⟨en, hen, hk⟩ := h5 j p hj
      have lt : j < ar.size := by
        have := (List.getElem?_eq_some_iff.mp hj).1
        have h6 := it.1
        omega
      obtain ⟨en2, hen2, hv⟩ := it.2 j ar[j] (Array.getElem?_eq_getElem lt)
      rw [hen] at hen2
      cases hen2
      rw [Array.getElem?_eq_getElem lt, hv, hk]; rfl
  refine ⟨.ref s.heap.objs.size, upd H s.heap.objs.size (.lst (kvs.map fun q => V.ref q.2.1)), I.laid (t' := tok) keep (Nat.le_refl _) ?_, rfl, h _ (I.hok.fresh (Nat.le_refl _))⟩
  refine ⟨by rw [List.length_map]; exact z1, ar.toList, cap, ?_, by rw [Array.toArray_toList]; exact lay⟩
  rw [same]
  exact all_refs kvs
end
/-! ### as PL tells them -/
section
variable {K : PySem.W.Frag} {ρ : List Addr} {H : Hp} {kvs : TL}
theorem ints_eq : ∀ {xs : List PV} {is : List Int}, PL.vints xs = some is → xs = is.map PL.V.int
  | [], is, h => by simp [PL.vints] at h; subst h; rfl
  | x :: xs, is, h => by
    cases x <;> simp [PL.vints] at h
    obtain ⟨js, h1, rfl⟩ := h
    rw [ints_eq h1]; rfl
theorem vint_inj : ∀ {is js : List Int}, is.map PL.V.int = js.map PL.V.int → is = js
  | [], [], _ => rfl
  | [], _ :: _, h => by simp at h
  | _ :: _, [], h => by simp at h
  | i :: is, j :: js, h => by
    simp only [List.map_cons, List.cons.injEq, PL.V.int.injEq] at h
    rw [h.1, vint_inj h.2]
theorem ints_map : ∀ (is : List Int), PL.vints (is.map PL.V.int) = some is
  | [] => rfl
  | i :: is => by simp [PL.vints, ints_map is]
theorem keyT_rep {x : PV} {u : V} (r : RepV K ρ H x u) (h : PL.keyT x = true) : ∃ (is : List Int) (a : Addr) (o : Obj), x = .tup (is.map PL.V.int) ∧ u = .ref a ∧ H a = some (.frz o (.tup (is.map V.int))) := by
  cases x with
  | tup xs =>
    simp only [PL.keyT, Option.isSome_iff_exists] at h
    obtain ⟨is, h⟩ := h
    simp only [RepV] at r
    obtain ⟨a, o, us, e, h1, _, _, r⟩ := r
    rw [r.ints h] at h1
    exact ⟨is, a, o, by rw [ints_eq h], e, h1⟩
  | _ => simp [PL.keyT] at h
theorem keysAt_rep : ∀ {kvs : TL}, RepVs K ρ H (kvs.map keyTV) (kvs.map fun p => V.ref p.2.1) → KeysAt H kvs
  | [], _ => fun p hp => by cases hp
  | q :: kvs, r => fun p hp => by
    obtain ⟨u, t, e, r1, r2⟩ := r.inv
    simp only [List.map_cons, List.cons.injEq] at e
    obtain ⟨rfl, rfl⟩ := e
    rcases List.mem_cons.mp hp with rfl | hp
    · obtain ⟨is, a, o, e1, e2, e3⟩ := keyT_rep r1 (by simp only [keyTV, PL.keyT, ints_map]; rfl)
      simp only [keyTV, PL.V.tup.injEq] at e1
      obtain rfl := vint_inj e1
      cases e2
      exact ⟨o, e3⟩
    · exact keysAt_rep r2 p hp
theorem tget_rep : ∀ {kvs : TL} {vs : List PV} (k : List Int), RepVs K ρ H vs (kvs.map (·.2.2)) →
    (PL.dgetV (kvs.map keyTV) vs (.tup (k.map PL.V.int)) = none ∧ valT kvs k = none) ∨ ∃ v u, PL.dgetV (kvs.map keyTV) vs (.tup (k.map PL.V.int)) = some v ∧ valT kvs k = some u ∧ RepV K ρ H v u
  | [], vs, k, _ => .inl ⟨by cases vs <;> simp [PL.dgetV], rfl⟩
  | p :: kvs, vs, k, r => by
    cases vs with
    | nil => have := r.inv0; simp at this
    | cons v vs =>
      obtain ⟨u, t, e, r1, r2⟩ := r.inv
      simp only [List.map_cons, List.cons.injEq] at e
      obtain ⟨rfl, rfl⟩ := e
      by_cases e : p.1 = k
      · exact .inr ⟨v, p.2.2, by simp only [List.map_cons, PL.dgetV, keyTV, e, if_true], valT_pos e, r1⟩
      · have e2 : PL.dgetV ((p :: kvs).map keyTV) (v :: vs) (.tup (k.map PL.V.int)) = PL.dgetV (kvs.map keyTV) vs (.tup (k.map PL.V.int)) := by
          simp only [List.map_cons, PL.dgetV]
          rw [if_neg]
          intro z
          simp only [keyTV, PL.V.tup.injEq] at z
          exact e (vint_inj z)
        rw [e2, valT_neg e]
        exact tget_rep k r2
theorem tany : ∀ (kvs : TL) (k : List Int), ((kvs.map keyTV).any fun x => decide (x = PL.V.tup (k.map PL.V.int))) = kvs.any fun p => decide (p.1 = k)
  | [], _ => rfl
  | p :: kvs, k => by
    rw [List.map_cons, List.any_cons, List.any_cons, tany kvs k]
    congr 1
    by_cases e : p.1 = k
    · rw [decide_eq_true e, decide_eq_true (by rw [keyTV, e])]
    · rw [decide_eq_false e, decide_eq_false]
      intro z
      simp only [keyTV, PL.V.tup.injEq] at z
      exact e (vint_inj z)
theorem tputAll {y : PV} {u : V} (k : List Int) (ry : RepV K ρ H y u) : ∀ {kvs : TL} {vs : List PV}, RepVs K ρ H vs (kvs.map (·.2.2)) → RepVs K ρ H (PL.putAll (kvs.map keyTV) vs (.tup (k.map PL.V.int)) y) ((kvs.map fun p => if p.1 = k then (p.1, p.2.1, u) else p).map (·.2.2))
  | [], vs, r => by cases vs <;> exact .nil
  | p :: kvs, vs, r => by
    cases vs with
    | nil => have := r.inv0; simp at this
    | cons v vs =>
      obtain ⟨w, t, e, r1, r2⟩ := r.inv
      simp only [List.map_cons, List.cons.injEq] at e
      obtain ⟨rfl, rfl⟩ := e
      simp only [List.map_cons, PL.putAll]
      refine .cons ?_ (tputAll k ry r2)
      by_cases e : p.1 = k
      · rw [if_pos (by rw [keyTV, e]), if_pos e]; exact ry
      · rw [if_neg (fun z => by simp only [keyTV, PL.V.tup.injEq] at z; exact e (vint_inj z)), if_neg e]; exact r1
theorem tput_rep {y : PV} {u : V} (k : List Int) {b : Addr} (rk : RepV K ρ H (.tup (k.map PL.V.int)) (.ref b)) (ry : RepV K ρ H y u) {kvs : TL} {vs : List PV} (rks : RepVs K ρ H (kvs.map keyTV) (kvs.map fun p => V.ref p.2.1)) (r : RepVs K ρ H vs (kvs.map (·.2.2))) :
    (PL.dputV (kvs.map keyTV) vs (.tup (k.map PL.V.int)) y).1 = (putT kvs k b u).map keyTV ∧ RepVs K ρ H (PL.dputV (kvs.map keyTV) vs (.tup (k.map PL.V.int)) y).1 ((putT kvs k b u).map fun p => V.ref p.2.1) ∧
      RepVs K ρ H (PL.dputV (kvs.map keyTV) vs (.tup (k.map PL.V.int)) y).2 ((putT kvs k b u).map (·.2.2)) := by
  unfold PL.dputV putT
  rw [tany]
  have hk : ∀ l : TL, (l.map fun p => if p.1 = k then (p.1, p.2.1, u) else p).map keyTV = l.map keyTV := fun l => by
    rw [List.map_map]; refine List.map_congr_left fun p _ => ?_
    simp only [Function.comp]; split <;> rfl
  have ha : ∀ l : TL, (l.map fun p => if p.1 = k then (p.1, p.2.1, u) else p).map (fun p => V.ref p.2.1) = l.map fun p => V.ref p.2.1 := fun l => by
    rw [List.map_map]; refine List.map_congr_left fun p _ => ?_
    simp only [Function.comp]; split <;> rfl
  split
  · exact ⟨(hk kvs).symm, by rw [ha]; exact rks, tputAll k ry r⟩
  · refine ⟨by rw [List.map_append]; rfl, ?_, ?_⟩
    · rw [List.map_append]; exact rks.append (.cons rk .nil)
    · rw [List.map_append]; exact r.append (.cons ry .nil)
end
end PLS

/-! PLS5: operators, comparisons, subscripts by values. -/
namespace PLS
open PySem PySem.Spec PyProof.Rows L2
section
variable {X : Cx} {mk : Mk} {E : EXC}
theorem op_subP : OpR X (binaryOp .Sub) (rB X.K mk E .sub) := by
  rintro pins s σ H x y v u Q I rx ry ⟨ρ, M, a, b, k, ra, rb, h⟩
  change Post X.K mk (RepV X.K) E ρ H Q (PL.subV M a b) at h
  unfold PL.subV at h
  split at h
  · simp only [RepV] at ra rb
    exact op_sub pins s σ H x y v u Q I rx ry ⟨_, _, ra, rb, h.ok k (by simp only [RepV])⟩
  · exact h.elim
theorem op_fdivP : OpR X (binaryOp .FloorDiv) (rB X.K mk E .fdiv) := by
  rintro pins s σ H x y v u Q I rx ry ⟨ρ, M, a, b, k, ra, rb, h⟩
  change Post X.K mk (RepV X.K) E ρ H Q (PL.fdivV M a b) at h
  unfold PL.fdivV at h
  split at h
  · split at h
    · rename_i hz
      simp only [RepV] at ra rb
      exact op_fdivW pins s σ H x y v u Q I rx ry ⟨_, _, ra, rb, wide_div hz.1 hz.2 (by decide) (by decide), h.ok k (by simp only [RepV])⟩
    · exact h.elim
  · exact h.elim
theorem op_modP : OpR X (binaryOp .Mod) (rB X.K mk E .mod) := by
  rintro pins s σ H x y v u Q I rx ry ⟨ρ, M, a, b, k, ra, rb, h⟩
  change Post X.K mk (RepV X.K) E ρ H Q (PL.modV M a b) at h
  unfold PL.modV at h
  split at h
  · split at h
    · rename_i hz
      simp only [RepV] at ra rb
      exact op_mod pins s σ H x y v u Q I rx ry ⟨_, _, ra, rb, hz, h.ok k (by simp only [RepV])⟩
    · exact h.elim
  · exact h.elim
theorem op_powP : OpR X (binaryOp .Pow) (rB X.K mk E .pow) := by
  rintro pins s σ H x y v u Q I rx ry ⟨ρ, M, a, b, k, ra, rb, h⟩
  change Post X.K mk (RepV X.K) E ρ H Q (PL.powV M a b) at h
  unfold PL.powV at h
  split at h
  · split at h
    · rename_i hz
      simp only [RepV] at ra rb
      exact op_pow pins s σ H x y v u Q I rx ry ⟨_, _, ra, rb, ⟨hz.1, by omega, hz.2.2⟩, h.ok k (by simp only [RepV])⟩
    · exact h.elim
  · exact h.elim
theorem rept_length {α : Type} (k : Nat) (xs : List α) : (PL.rept k xs).length = k * xs.length := by
  unfold PL.rept
  rw [PyProof.Rows.lm_len_rep_flat]
theorem mul_tupF {pins : List (Addr × Obj)} {σ : L2.St} {H : Hp} {s : Shared} {a : Addr} {j : Int} {t : Tok} {us : List V} {Q : VK} (I : Inv X pins σ H s) (ha : SqT X.K H a us) (hne : us ≠ []) (h2 : 2 ≤ j) (hj : j ≤ 1000) (hz : us.length ≤ 1000)
    (q : ∀ p o, H p = none → TupO o → Q (.ref p) (upd H p (.frz o (.tup (List.replicate j.toNat us).flatten)))) :
    wpAny (model X.prog X.w) X.A (binaryOp .Mult (.ref a) (.int j t)) (EP X pins σ Q) X.xe s := by
  obtain ⟨its, r, ⟨ob, ho, hc, n, hd⟩, _⟩ := I.tuple ha
  obtain ⟨cls, dd, data, sl⟩ := ob
  simp only at hc hd
  subst hc hd
  have hlen : its.length = us.length := r.length.symm
  have hnil : its ≠ [] := fun e => hne (List.eq_nil_of_length_eq_zero (by rw [← hlen, e]; rfl))
  have hemp : its.toArray.isEmpty = false := by
    cases its with
    | nil => exact absurd rfl hnil
    | cons _ _ => rfl
  have hsz : its.toArray.size = us.length := by rw [List.size_toArray, hlen]
  have hmul : ((its.toArray.size : Nat) : Int) * j ≤ 1000000 := by
    rw [hsz]
    have : ((us.length : Nat) : Int) * j ≤ 1000 * j := Int.mul_le_mul_of_nonneg_right (by omega) (by omega)
    omega
  have hprod : j.toNat * us.length ≤ 1000 * 1000 := Nat.mul_le_mul (by omega) hz
  have big1 : (decide (j < -(2 ^ 63)) || decide (j ≥ 2 ^ 63)) = false := by
    rw [decide_eq_false (show ¬ j < -(2 ^ 63) by omega), decide_eq_false (show ¬ j ≥ 2 ^ 63 by omega)]; rfl
  have one : (its.toArray.isEmpty || j == 1) = false := by
    rw [hemp, Bool.false_or]; exact beq_eq_false_iff_ne.mpr (by omega)
  have pos : (decide (j ≤ 0) || its.toArray.isEmpty) = false := by
    rw [hemp, Bool.or_false]; exact decide_eq_false (by omega)
  have many : Builtin.Tuple.tupleTooMany (((its.toArray.size : Nat) : Int) * j) = false := by
    unfold Builtin.Tuple.tupleTooMany; rw [sizeLine_eq]; exact decide_eq_false (by omega)
  have flat : (List.replicate j.toNat its).flatten.length ≤ sizeLine := by
    rw [PyProof.Rows.lm_len_rep_flat, hlen, sizeLine_eq]; omega
  refine wpAny_binaryOp_repeat_ref (T := "tuple") (U := "int") (by decide) ⟨_, ho, rfl⟩ (fun s' => typeIs_int s' j t) noFill_tuple_mul F.fills_int_mul F.slot_int_rmul repeat_tuple F.slot_int_index.lookup ?_
  refine call_meets F.slot_int_rmul (typeIs_int s j t) F.entry_int_rmul (F.args_int_rmul_2 _ _) (int_rmul_tuple j t a its.toArray n dd sl) ⟨ho, rfl, ⟨_, ho, rfl⟩, ?_⟩
  refine call_meets F.slot_tuple_mul ⟨_, ho, rfl⟩ F.entry_tuple_mul (F.args_tuple_mul_2 _ _) (tuple_mulW a its.toArray n dd sl j t big1 one pos (by omega) many (by rw [size_rep, List.size_toArray]; exact flat)) ⟨ho, ?_⟩
  rw [size_rep]
  exact ⟨.ref s.heap.objs.size, _, Inv.tnew (t' := s.toks) I (rep_flat j.toNat its us r) (by rw [PyProof.Rows.lm_len_rep_flat, sizeLine_eq]; omega), rfl, q _ _ I.fresh (tupO_new _)⟩
theorem op_mulP : OpR X (binaryOp .Mult) (rB X.K mk E .mul) := by
  rintro pins s σ H x y v u Q I rx ry ⟨ρ, M, a, b, k, ra, rb, h⟩
  change Post X.K mk (RepV X.K) E ρ H Q (PL.mulV M a b) at h
  unfold PL.mulV at h
  split at h
  · rename_i j
    split at h
    · split at h
      · rename_i hz
        simp only [RepV] at ra rb
        rcases mulOk_wide hz with c | c
        · exact op_mul pins s σ H x y v u Q I rx ry ⟨_, _, ra, rb, c, h.ok k (by simp only [RepV])⟩
        · exact op_mulW pins s σ H x y v u Q I rx ry ⟨_, _, ra, rb, c, h.ok k (by simp only [RepV])⟩
      · exact h.elim
    · split at h
      · rename_i hz
        obtain ⟨p, us, rfl, h1, r1⟩ := ra.toTup
        simp only [RepV] at rb
        subst rb
        cases rx
        obtain ⟨t, rfl⟩ := ry
        have hl := r1.length
        refine mul_tupF I h1 (fun e => hz.2.2.2 (List.eq_nil_of_length_eq_zero (by rw [hl, e]; rfl))) hz.1 hz.2.1 (by omega) fun z o n to => post_tup h k (r1.rept j.toNat) z o n to
      · exact h.elim
    · split at h
      · rename_i e
        split at h
        · rename_i hz
          obtain ⟨p, us, rfl, h1, r1⟩ := llst_rep k.rep ra e
          simp only [RepV] at rb
          subst rb
          have hl := r1.length
          refine op_rep pins s σ H _ _ v u Q I rx ry ⟨p, j, us, rfl, rfl, h1, by omega, by omega, ?_, fun z n => post_alloc h k ⟨_, rfl, r1.rept j.toNat⟩ z n⟩
          have a1 : us.length * j.toNat ≤ 1000 * 10000 := Nat.mul_le_mul (by omega) (by omega)
          rw [sizeLine_eq]; omega
        · exact h.elim
      · exact h.elim
  · exact h.elim
theorem op_bin (o : PL.Op) : OpR X (binaryOp (opOf o)) (rB X.K mk E o) := by
  cases o with
  | add => exact op_addP
  | sub => exact op_subP
  | mul => exact op_mulP
  | fdiv => exact op_fdivP
  | mod => exact op_modP
  | pow => exact op_powP
end

/-! ### comparisons -/
def opC : PL.Cm → CmpOp
  | .eq => .Eq
  | .ne => .NotEq
  | .lt => .Lt
  | .le => .LtE
  | .gt => .Gt
  | .ge => .GtE
  | .isin => .In
  | .notin => .NotIn
section
variable {X : Cx} {mk : Mk} {E : EXC}
def rC (K : PySem.W.Frag) (o : PL.Cm) : R2 := fun x y H Q => ∃ ρ M v w b, RepM K ρ H M ∧ RepV K ρ H v x ∧ RepV K ρ H w y ∧ PL.cmpop M o v w = some b ∧ Q (.bl b) H
theorem rep_rep {K : PySem.W.Frag} {ρ : List Addr} {H : Hp} {a : PV} {x y : V} (h1 : RepV K ρ H (.rep a) x) (h2 : RepV K ρ H (.rep a) y) : x = y ∧ scal x y = true := by
  simp only [RepV] at h1 h2
  obtain ⟨d, e1, rfl⟩ := h1
  obtain ⟨d', e2, rfl⟩ := h2
  rw [e1] at e2
  obtain rfl := Option.some.inj e2
  exact ⟨rfl, by simp [scal]⟩
theorem eqM_eq (hu : X.A.units + 200 < cLine) : OpR X (compareOp .Eq) (rC X.K .eq) := by
  rintro pins s σ H x y v u Q I rx ry ⟨ρ, M, a, b, c, k, ra, rb, h, q⟩
  change PL.eqM M a b = some c at h
  unfold PL.eqM at h
  split at h
  · split at h
    · rename_i e
      subst e
      obtain rfl := Option.some.inj h
      obtain ⟨e, hs⟩ := rep_rep ra rb
      exact op_eq pins s σ H x y v u Q I rx ry ⟨hs, by rw [decide_eq_true e]; exact q⟩
    · cases h
  · obtain ⟨d1, d2, p1, p2, s1, s2, e⟩ := eqD_rep k ra rb h
    exact op_eqD (by omega) pins s σ H x y v u Q I rx ry ⟨d1, d2, p1, p2, s1, s2, by rw [e]; exact q⟩
theorem eqM_ne (hu : X.A.units + 200 < cLine) : OpR X (compareOp .NotEq) (rC X.K .ne) := by
  rintro pins s σ H x y v u Q I rx ry ⟨ρ, M, a, b, c, k, ra, rb, h, q⟩
  simp only [PL.cmpop, Option.map_eq_some_iff] at h
  obtain ⟨c', h, rfl⟩ := h
  unfold PL.eqM at h
  split at h
  · split at h
    · rename_i e
      subst e
      obtain rfl := Option.some.inj h
      obtain ⟨e, hs⟩ := rep_rep ra rb
      exact op_ne pins s σ H x y v u Q I rx ry ⟨hs, by rw [decide_eq_true e]; exact q⟩
    · cases h
  · obtain ⟨d1, d2, p1, p2, s1, s2, e⟩ := eqD_rep k ra rb h
    exact op_neD (by omega) pins s σ H x y v u Q I rx ry ⟨d1, d2, p1, p2, s1, s2, by rw [e]; exact q⟩
theorem inM_all {M : PL.Mem} {x : PV} : ∀ {ys : List PV} {b : Bool}, PL.inM M x ys = some b → (∀ y ∈ ys, (PL.eqD M y x).isSome = true) ∧ b = ys.any fun y => PL.eqD M y x == some true
  | [], b, h => by simp only [PL.inM, Option.some.injEq] at h; subst h; simp
  | y :: ys, b, h => by
    simp only [PL.inM, Option.bind_eq_some_iff, Option.map_eq_some_iff] at h
    obtain ⟨c, h1, d, h2, rfl⟩ := h
    obtain ⟨i1, i2⟩ := inM_all h2
    refine ⟨fun z hz => ?_, ?_⟩
    · rcases List.mem_cons.mp hz with rfl | hz
      · rw [h1]; rfl
      · exact i1 z hz
    · rw [List.any_cons, h1, i2]
      cases c <;> simp
theorem any_by {M : PL.Mem} {x : PV} {e : Value → Bool} : ∀ {ys : List PV} {vs : List Value}, ys.length = vs.length → (∀ (i : Nat) (y : PV) (v : Value), ys[i]? = some y → vs[i]? = some v → PL.eqD M y x = some (e v)) →
    vs.any e = ys.any fun y => PL.eqD M y x == some true
  | [], [], _, _ => rfl
  | y :: ys, v :: vs, hl, h => by
    rw [List.any_cons, List.any_cons, h 0 y v rfl rfl, any_by (ys := ys) (vs := vs) (by simpa using hl) fun i y' v' h1 h2 => h (i + 1) y' v' (by simpa using h1) (by simpa using h2)]
    cases e v <;> simp
/-- the key of a value -/
theorem key_rep {K : PySem.W.Frag} {ρ : List Addr} {H : Hp} {x : PV} {u : V} (r : RepV K ρ H x u) (h : PL.key1 x = true) : ∃ k, keyK x = some k ∧ u = kV k := by
  cases x with
  | int i => simp only [RepV] at r; exact ⟨_, rfl, r⟩
  | str s => simp only [RepV] at r; exact ⟨_, rfl, r⟩
  | _ => simp [PL.key1] at h
theorem keyK_inj {x y : PV} {k : L2.Key} (h1 : keyK x = some k) (h2 : keyK y = some k) : x = y := by
  cases x <;> cases y <;> simp [keyK] at h1 h2 <;> subst h1 <;> simp at h2
  · rw [h2]
  · rw [toStr_inj h2]
theorem dget_rep {K : PySem.W.Frag} {ρ : List Addr} {H : Hp} : ∀ {ks vs : List PV} {kvs : List (L2.Key × V)} {x : PV} {k : L2.Key}, ks.map keyK = kvs.map (fun kv => some kv.1) → RepVs K ρ H vs (kvs.map (·.2)) → keyK x = some k →
    (PL.dgetV ks vs x = none ∧ valV kvs k = none) ∨ ∃ v u, PL.dgetV ks vs x = some v ∧ valV kvs k = some u ∧ RepV K ρ H v u
  | [], vs, kvs, x, k, h1, h2, h3 => by
    have : kvs = [] := by cases kvs with | nil => rfl | cons a b => simp at h1
    subst this
    exact .inl ⟨by cases vs <;> simp [PL.dgetV], rfl⟩
  | k0 :: ks, vs, kvs, x, k, h1, h2, h3 => by
    cases kvs with
    | nil => simp at h1
    | cons p kvs =>
      simp only [List.map_cons, List.cons.injEq] at h1
      cases vs with
      | nil => have := h2.inv0; simp at this
      | cons v vs =>
        obtain ⟨u, r, e, h4, h5⟩ := h2.inv
        simp only [List.map_cons, List.cons.injEq] at e
        obtain ⟨rfl, rfl⟩ := e
        by_cases hk : k0 = x
        · subst hk
          have e1 : p.1 = k := Option.some.inj (h1.1.symm.trans h3)
          exact .inr ⟨v, p.2, by simp [PL.dgetV], valV_pos e1, h4⟩
        · have e1 : ¬ p.1 = k := fun z => hk (keyK_inj (h1.1.trans (by rw [z])) h3)
          have e2 : PL.dgetV (k0 :: ks) (v :: vs) x = PL.dgetV ks vs x := by simp only [PL.dgetV]; rw [if_neg hk]
          rw [e2, valV_neg e1]
          exact dget_rep h1.2 h5 h3
theorem in_data (hu : X.A.units + 200 < cLine) {pins : List (Addr × Obj)} {s : Shared} {σ : L2.St} {H : Hp} {M : PL.Mem} {ρ : List Addr} {a : PV} {x : V} {v : Value} {ys : List PV} {us : List V} {p : Addr} {b : Bool} (I : Inv X pins σ H s) (k : RepM X.K ρ H M)
    (ra : RepV X.K ρ H a x) (rx : RelV x v) (hs : SqL X.K H p us ∨ SqT X.K H p us) (rs : RepVs X.K ρ H ys us) (h : PL.inM M a ys = some b) :
    (∀ Q : Value → Shared → Prop, Q (.bool b) s → wpAny (model X.prog X.w) X.A (compareOp .In v (.ref p)) Q X.xe s) ∧ (∀ Q : Value → Shared → Prop, Q (.bool (!b)) s → wpAny (model X.prog X.w) X.A (compareOp .NotIn v (.ref p)) Q X.xe s) := by
  obtain ⟨h1, h2⟩ := inM_all h
  rcases hs with hs | hs
  · obtain ⟨its, r, pl, _⟩ := I.list hs
    obtain ⟨e, he, hi⟩ := eqD_at (b := b) I k hu ra rx rs r h1
    have hb : its.toArray.any e = b := by
      rw [show its.toArray.any e = its.any e by simp, h2]
      exact any_by (by rw [rs.length, r.length]) hi
    exact ⟨fun Q q => SeqAt.in_listAt e pl.isList (fun w hw => he w (by simpa using hw)) (by rw [hb]; exact q), fun Q q => SeqAt.notIn_listAt e pl.isList (fun w hw => he w (by simpa using hw)) (by rw [hb]; exact q)⟩
  · obtain ⟨its, r, pl, _⟩ := I.tuple hs
    obtain ⟨e, he, hi⟩ := eqD_at (b := b) I k hu ra rx rs r h1
    have hb : its.toArray.any e = b := by
      rw [show its.toArray.any e = its.any e by simp, h2]
      exact any_by (by rw [rs.length, r.length]) hi
    exact ⟨fun Q q => SeqAt.in_tupleAt e pl (fun w hw => he w (by simpa using hw)) (by rw [hb]; exact q), fun Q q => SeqAt.notIn_tupleAt e pl (fun w hw => he w (by simpa using hw)) (by rw [hb]; exact q)⟩
theorem dget_of {H : Hp} {a : Addr} {kvs : List (L2.Key × V)} {k : L2.Key} (h : Rd H a (.dK kvs)) : DGet H a (kV k) (valV kvs k) := .inl ⟨kvs, k, h, rfl, rfl⟩
theorem inOp_rep (hu : X.A.units + 200 < cLine) {pins : List (Addr × Obj)} {s : Shared} {σ : L2.St} {H : Hp} {M : PL.Mem} {ρ : List Addr} {a c : PV} {x y : V} {v u : Value} {b : Bool} (I : Inv X pins σ H s) (k : RepM X.K ρ H M)
    (ra : RepV X.K ρ H a x) (rc : RepV X.K ρ H c y) (rx : RelV x v) (ry : RelV y u) (h : PL.inOp M a c = some b) :
    (∀ Q : Value → Shared → Prop, (∀ s', Inv X pins σ H s' → Q (.bool b) s') → wpAny (model X.prog X.w) X.A (compareOp .In v u) Q X.xe s) ∧ (∀ Q : Value → Shared → Prop, (∀ s', Inv X pins σ H s' → Q (.bool (!b)) s') → wpAny (model X.prog X.w) X.A (compareOp .NotIn v u) Q X.xe s) := by
  unfold PL.inOp at h
  split at h
  · cases h
  · split at h
    · rename_i ys e
      obtain ⟨p, us, rfl, hs, rs⟩ := items_rep k rc e
      cases ry
      obtain ⟨h1, h2⟩ := in_data hu I k ra rx hs rs h
      exact ⟨fun Q q => h1 Q (q s I), fun Q q => h2 Q (q s I)⟩
    · split at h
      · rename_i p e
        split at h
        · rename_i hk
          obtain ⟨t, ks, vs⟩ := p
          obtain rfl := Option.some.inj h
          cases t with
          | false =>
            obtain ⟨d, kvs, rfl, hd, hks, hvs⟩ := dkeys_rep k rc e
            cases ry
            obtain ⟨key, e1, rfl⟩ := key_rep ra hk
            have hi : (PL.dgetV ks vs a).isSome = (valV kvs key).isSome := by
              rcases dget_rep hks hvs e1 with ⟨e2, e3⟩ | ⟨v, u, e2, e3, _⟩
              · rw [e2, e3]; rfl
              · rw [e2, e3]; rfl
            refine ⟨fun Q q => d_in (by omega) I (dget_of hd) rx fun s' I' => ?_, fun Q q => d_notIn (by omega) I (dget_of hd) rx fun s' I' => ?_⟩
            · rw [← hi]; exact q s' I'
            · rw [← hi]; exact q s' I'
          | true =>
            obtain ⟨d, kvs, rfl, hd, rfl, hrk, hvs⟩ := dkeysT_rep k rc e
            cases ry
            obtain ⟨is, b, o, rfl, rfl, hb⟩ := keyT_rep ra hk
            cases rx
            have hi : (PL.dgetV (kvs.map keyTV) vs (.tup (is.map PL.V.int))).isSome = (valT kvs is).isSome := by
              rcases tget_rep is hvs with ⟨e2, e3⟩ | ⟨v, u, e2, e3, _⟩
              · rw [e2, e3]; rfl
              · rw [e2, e3]; rfl
            have go := fun Q => t_in (Q := Q) (E := X.xe) (A := X.A) (by omega) I hd (keysAt_rep hrk) hb
            refine ⟨fun Q q => (go Q).1 fun s' I' => ?_, fun Q q => (go Q).2 fun s' I' => ?_⟩
            · rw [← hi]; exact q s' I'
            · rw [← hi]; exact q s' I'
        · cases h
      · cases h
theorem inM_in (hu : X.A.units + 200 < cLine) : OpR X (compareOp .In) (rC X.K .isin) := by
  rintro pins s σ H x y v u Q I rx ry ⟨ρ, M, a, b, c, k, ra, rb, h, q⟩
  exact (inOp_rep hu I k ra rb rx ry h).1 _ fun s' I' => ⟨.bl c, H, I', rfl, q⟩
theorem inM_notin (hu : X.A.units + 200 < cLine) : OpR X (compareOp .NotIn) (rC X.K .notin) := by
  rintro pins s σ H x y v u Q I rx ry ⟨ρ, M, a, b, c, k, ra, rb, h, q⟩
  simp only [PL.cmpop, Option.map_eq_some_iff] at h
  obtain ⟨c', h, rfl⟩ := h
  exact (inOp_rep hu I k ra rb rx ry h).2 _ fun s' I' => ⟨.bl (!c'), H, I', rfl, q⟩
theorem lexAt_shift {e r : Nat → Bool} {z : Bool} : ∀ (m i : Nat), Ob.lexAt e r z (i + 1) m = Ob.lexAt (fun j => e (j + 1)) (fun j => r (j + 1)) z i m
  | 0, i => rfl
  | m + 1, i => by
    rw [Ob.lexAt_succ, Ob.lexAt_succ, lexAt_shift m (i + 1)]
theorem lexLe_at : ∀ (ns ms : List Int), Ob.lexAt (fun j => decide (ns.getD j 0 = ms.getD j 0)) (fun j => decide (ns.getD j 0 ≤ ms.getD j 0)) (decide (ns.length ≤ ms.length)) 0 (min ns.length ms.length) = PL.lexLe ns ms
  | [], ms => by simp [Ob.lexAt_zero, PL.lexLe]
  | n :: ns, [] => by simp [Ob.lexAt_zero, PL.lexLe]
  | n :: ns, m :: ms => by
    rw [List.length_cons, List.length_cons, show min (ns.length + 1) (ms.length + 1) = min ns.length ms.length + 1 by omega, Ob.lexAt_succ, lexAt_shift]
    have ih := lexLe_at ns ms
    simp only [List.getD_cons_succ, List.getD_cons_zero, Nat.add_le_add_iff_right, decide_eq_true_eq, PL.lexLe]
    rw [ih]
    by_cases h : n = m
    · rw [if_pos h, if_pos h]
    · rw [if_neg h, if_neg h]
      have : (n ≤ m) ↔ (n < m) := by omega
      simp [this]
theorem lexLt_at : ∀ (ns ms : List Int), HT.lexLt ns ms = PL.lexLt ns ms
  | [], [] => rfl
  | [], _ :: _ => rfl
  | _ :: _, [] => rfl
  | n :: ns, m :: ms => by
    show (if n = m then HT.lexLt ns ms else decide (n < m)) = PL.lexLt (n :: ns) (m :: ms)
    rw [lexLt_at ns ms]; rfl
theorem leV_le (hu : X.A.units + 200 < cLine) : OpR X (compareOp .LtE) (rC X.K .le) := by
  rintro pins s σ H x y v u Q I rx ry ⟨ρ, M, a, b, c, k, ra, rb, h, q⟩
  change PL.leV a b = some c at h
  unfold PL.leV at h
  split at h
  · obtain rfl := Option.some.inj h
    simp only [RepV] at ra rb
    exact op_le pins s σ H x y v u Q I rx ry ⟨_, _, ra, rb, q⟩
  · split at h
    · rename_i e1 e2
      obtain rfl := Option.some.inj h
      obtain ⟨p, us, rfl, h1, r1⟩ := ra.toTup
      obtain ⟨p', us', rfl, h2, r2⟩ := rb.toTup
      rw [r1.ints e1] at h1
      rw [r2.ints e2] at h2
      exact op_leT (by omega) pins s σ H _ _ v u Q I rx ry ⟨p, p', _, _, rfl, rfl, h1, h2, by rw [lexLe_at]; exact q⟩
    · cases h
  · cases h
theorem ltV_lt (hu : X.A.units + 200 < cLine) : OpR X (compareOp .Lt) (rC X.K .lt) := by
  rintro pins s σ H x y v u Q I rx ry ⟨ρ, M, a, b, c, k, ra, rb, h, q⟩
  change PL.ltV a b = some c at h
  unfold PL.ltV at h
  split at h
  · obtain rfl := Option.some.inj h
    simp only [RepV] at ra rb
    exact op_lt pins s σ H x y v u Q I rx ry ⟨_, _, ra, rb, q⟩
  · split at h
    · rename_i e1 e2
      obtain rfl := Option.some.inj h
      obtain ⟨p, us, rfl, h1, r1⟩ := ra.toTup
      obtain ⟨p', us', rfl, h2, r2⟩ := rb.toTup
      rw [r1.ints e1] at h1
      rw [r2.ints e2] at h2
      exact op_ltT (by omega) pins s σ H _ _ v u Q I rx ry ⟨p, p', _, _, rfl, rfl, h1, h2, by rw [lexLt_at]; exact q⟩
    · cases h
  · cases h
theorem gtV_gt : OpR X (compareOp .Gt) (rC X.K .gt) := by
  rintro pins s σ H x y v u Q I rx ry ⟨ρ, M, a, b, c, k, ra, rb, h, q⟩
  change PL.intC (fun i j => decide (j < i)) a b = some c at h
  unfold PL.intC at h
  split at h
  · obtain rfl := Option.some.inj h
    simp only [RepV] at ra rb
    exact op_gt pins s σ H x y v u Q I rx ry ⟨_, _, ra, rb, q⟩
  · cases h
theorem geV_ge : OpR X (compareOp .GtE) (rC X.K .ge) := by
  rintro pins s σ H x y v u Q I rx ry ⟨ρ, M, a, b, c, k, ra, rb, h, q⟩
  change PL.intC (fun i j => decide (j ≤ i)) a b = some c at h
  unfold PL.intC at h
  split at h
  · obtain rfl := Option.some.inj h
    simp only [RepV] at ra rb
    exact op_ge pins s σ H x y v u Q I rx ry ⟨_, _, ra, rb, q⟩
  · cases h
theorem op_cmp (hu : X.A.units + 200 < cLine) (o : PL.Cm) : OpR X (compareOp (opC o)) (rC X.K o) := by
  cases o with
  | eq => exact eqM_eq hu
  | ne => exact eqM_ne hu
  | lt => exact ltV_lt hu
  | le => exact leV_le hu
  | gt => exact gtV_gt
  | ge => exact geV_ge
  | isin => exact inM_in hu
  | notin => exact inM_notin hu
end

/-! ### subscripts -/
section
variable {X : Cx} {mk : Mk} {E : EXC}
theorem nIx_eq (n : Nat) (i : Int) : PL.nIx n i = ixN n i := rfl
theorem atI_of {α : Type} (xs : List α) (i : Int) : atI xs i = (PL.nIx xs.length i).bind fun j => xs[j]? := rfl
theorem sIx_eq (n d : Nat) (o : Option Int) : PL.sIx n d o = HT.sIx n d o := by cases o <;> rfl
theorem cut_eq {xs : List V} (lo hi : Option Int) : PL.cut xs lo hi = cutV xs lo hi := by
  unfold PL.cut cutV; rw [sIx_eq, sIx_eq]
theorem RepVs.cut {K : PySem.W.Frag} {ρ : List Addr} {H : Hp} {xs : List PV} {us : List V} (r : RepVs K ρ H xs us) (lo hi : Option Int) : RepVs K ρ H (PL.cut xs lo hi) (cutV us lo hi) := by
  rw [← cut_eq]
  unfold PL.cut
  rw [r.length]
  exact (r.drop _).take _
def rI_ (K : PySem.W.Frag) : R2 := fun x y H Q => ∃ ρ M v w z, RepM K ρ H M ∧ RepV K ρ H v x ∧ RepV K ρ H w y ∧ PL.index M v w = some z ∧ ∀ u, RepV K ρ H z u → Q u H
theorem ix_dict (hu : X.A.units + 200 < cLine) : IxR X (fun x y H Q => ∃ a v, x = .ref a ∧ DGet H a y (some v) ∧ Q v H) := by
  intro value slice pins s σ H x y v u Q I rx ry h hs
  obtain ⟨a, w, rfl, g, q⟩ := h
  cases rx
  have ht := dict_typeIs I g
  exact tail_any ht F.slot_dict_getitem.lookup (d_getItem (by omega) I g ry fun w' s' I' r' => ⟨w, H, I', r', q⟩) hs
theorem op_index (hu : X.A.units + 200 < cLine) : IxR X (rI_ X.K) := by
  rintro value slice pins s σ H x y v u Q I rx ry ⟨ρ, M, a, b, z, k, ra, rb, h, q⟩ hs
  unfold PL.index at h
  split at h
  · rename_i t ks vs e
    split at h
    · rename_i hk
      cases t with
      | false =>
        obtain ⟨d, kvs, rfl, hd, hks, hvs⟩ := dkeys_rep k ra e
        obtain ⟨key, e1, rfl⟩ := key_rep rb hk
        rcases dget_rep hks hvs e1 with ⟨e2, _⟩ | ⟨w, uw, e2, e3, rw'⟩
        · rw [e2] at h; cases h
        · rw [e2] at h
          obtain rfl := Option.some.inj h
          exact ix_dict hu value slice pins s σ H _ _ v u Q I rx ry ⟨d, uw, rfl, by rw [← e3]; exact dget_of hd, q uw rw'⟩ hs
      | true =>
        obtain ⟨d, kvs, rfl, hd, rfl, hrk, hvs⟩ := dkeysT_rep k ra e
        obtain ⟨is, b', o, rfl, rfl, hb⟩ := keyT_rep rb hk
        cases rx
        cases ry
        rcases tget_rep is hvs with ⟨e2, _⟩ | ⟨w, uw, e2, e3, rw'⟩
        · rw [e2] at h; cases h
        · rw [e2] at h
          obtain rfl := Option.some.inj h
          exact tail_any (dt_typeIs I hd).1 F.slot_dict_getitem.lookup (t_getItem (by omega) I hd (keysAt_rep hrk) hb e3 fun w' s' I' r' => ⟨uw, H, I', r', q uw rw'⟩) hs
    · cases h
  · split at h
    · rename_i i
      simp only [RepV] at rb
      subst rb
      split at h
      · rename_i xs e
        obtain ⟨p, us, rfl, hq, rs⟩ := items_rep k ra e
        obtain ⟨j, hj, hz⟩ := Option.bind_eq_some_iff.mp h
        obtain ⟨w, hw, rw'⟩ := rs.get hz
        have hat : atI us i = some w := by
          rw [atI_of, ← rs.length, hj]; exact hw
        rcases hq with hq | hq
        · exact ix_list value slice pins s σ H _ _ v u Q I rx ry ⟨p, us, i, w, rfl, rfl, hq, hat, q w rw'⟩ hs
        · exact ix_tup value slice pins s σ H _ _ v u Q I rx ry ⟨p, us, i, w, rfl, rfl, hq, hat, q w rw'⟩ hs
      · cases h
    · cases h

/-! ### slices -/
def rS (K : PySem.W.Frag) (mk : Mk) (E : EXC) : V → Option Int → Option Int → Hp → VK → Prop := fun x lo hi H Q => ∃ ρ M v, Ok K mk ρ H M ∧ RepV K ρ H v x ∧ Post K mk (RepV K) E ρ H Q (PL.slice M v lo hi)
theorem cut_whole {α : Type} {xs : List α} {lo hi : Option Int} (h1 : HT.sIx xs.length 0 lo = 0) (h2 : HT.sIx xs.length xs.length hi = xs.length) : PL.cut xs lo hi = xs := by
  unfold PL.cut
  rw [sIx_eq, sIx_eq, h1, h2, List.drop_zero, Nat.sub_zero, List.take_length]
theorem sl_rep : SlR X (rS X.K mk E) := by
  rintro pins s σ H x v vl vu lo hi sl Q I rx hs pl pu ⟨ρ, M, a, k, ra, h⟩
  unfold PL.slice at h
  split at h
  · rename_i xs
    have ra0 := ra
    obtain ⟨p, us, rfl, hq, rs⟩ := ra.toTup
    cases rx
    obtain ⟨its, r, ht, hz⟩ := I.tuple hq
    have hlen : its.toArray.size = us.length := by rw [List.size_toArray]; exact r.length.symm
    refine ⟨"tuple", _, PyProof.Rows.slot_tuple_getitem.lookup, ht.typeIs, ?_⟩
    by_cases hw : HT.sIx us.length 0 lo = 0 ∧ HT.sIx us.length us.length hi = us.length
    · refine getItem_tuple_whole ht hs pl pu (by rw [hlen]; exact hw) ⟨.ref p, H, I, rfl, ?_⟩
      refine h.ok k ?_
      rw [cut_whole (by rw [rs.length]; exact hw.1) (by rw [rs.length]; exact hw.2)]
      exact ra0
    · refine HT.getItem_tuple_cut ht hs pl pu (by rw [hlen]; exact hw) ?_ (by rw [hlen]; exact hz)
      rw [hlen]
      exact ⟨.ref s.heap.objs.size, _, Inv.tnew (t' := s.toks) (us := cutV us lo hi) I ((r.drop _).take _) (Nat.le_trans (cutV_length us lo hi) hz), rfl, post_tup h k (rs.cut lo hi) _ _ I.fresh (tupO_new _)⟩
  · exact h.elim
  · split at h
    · rename_i e
      obtain ⟨p, us, rfl, hq, rs⟩ := litems_rep k.rep ra e
      exact sl_list pins s σ H _ v vl vu lo hi sl Q I rx hs pl pu ⟨p, us, rfl, hq, fun z n => post_alloc h k ⟨_, rfl, rs.cut lo hi⟩ z n⟩
    · exact h.elim
end
end PLS

/-! PLS6: what is built in. -/
namespace PLS
open PySem PySem.Spec PyProof.Rows L2
section
variable {X : Cx} {mk : Mk} {E : EXC}
def rP (K : PySem.W.Frag) (mk : Mk) (E : EXC) (p : PL.Pr) : List V → Hp → VK → Prop := fun us H Q => ∃ ρ M vs, Ok K mk ρ H M ∧ RepVs K ρ H vs us ∧ Post K mk (RepV K) E ρ H Q (PL.prim M p vs)
theorem prim_cases {K : PySem.W.Frag} {ρ : List Addr} {H : Hp} {M : PL.Mem} {p : PL.Pr} {vs : List PV} {us : List V} {Q : VK} (r : RepVs K ρ H vs us) (h : Post K mk (RepV K) E ρ H Q (PL.prim M p vs)) :
    (∃ x u, vs = [x] ∧ us = [u] ∧ RepV K ρ H x u ∧ Post K mk (RepV K) E ρ H Q (PL.prim1 M p x)) ∨ ∃ x y u w, vs = [x, y] ∧ us = [u, w] ∧ RepV K ρ H x u ∧ RepV K ρ H y w ∧ Post K mk (RepV K) E ρ H Q (PL.prim2 M p x y) := by
  unfold PL.prim at h
  split at h
  · obtain ⟨u, t, rfl, r1, r2⟩ := r.inv
    rw [r2.inv0]
    exact .inl ⟨_, u, rfl, rfl, r1, h⟩
  · obtain ⟨u, t, rfl, r1, r2⟩ := r.inv
    obtain ⟨w, t', rfl, r3, r4⟩ := r2.inv
    rw [r4.inv0]
    exact .inr ⟨_, _, u, w, rfl, rfl, r1, r3, h⟩
  · exact h.elim
theorem pr_len : CallR X (.builtin "len") (rP X.K mk E .len) := by
  rintro pins s σ H xs us Q I r ⟨ρ, M, vs, k, rs, h⟩
  rcases prim_cases rs h with ⟨x, u, rfl, rfl, rx, h⟩ | ⟨x, y, u, w, rfl, rfl, _, _, h⟩
  · change Post X.K mk (RepV X.K) E ρ H Q (PL.pLen M x) at h
    unfold PL.pLen at h
    split at h
    · rename_i ys e
      obtain ⟨p, ws, rfl, hq, hr⟩ := items_rep k.rep rx e
      exact call_len_seq pins s σ H _ us Q I r ⟨p, ws, rfl, hq, h.ok k (by simp only [RepV]; rw [hr.length])⟩
    · split at h
      · rename_i p e
        obtain ⟨t, pks, pvs⟩ := p
        change Post X.K mk (RepV X.K) E ρ H Q (.ok (.int pks.length) M) at h
        obtain ⟨v, rfl, rv⟩ := vals1 r
        cases t
        rotate_left
        · obtain ⟨d, kvs, rfl, hd, rfl, hrk, _⟩ := dkeysT_rep k.rep rx e
          cases rv
          refine t_len I hd (keysAt_rep hrk) fun t s' I' => ⟨.int kvs.length, H, I', ⟨t, rfl⟩, h.ok k ?_⟩
          simp only [RepV]
          rw [List.length_map]
        obtain ⟨d, kvs, rfl, hd, hks, hvs⟩ := dkeys_rep k.rep rx e
        cases rv
        refine d_len I hd fun t s' I' => ⟨.int kvs.length, H, I', ⟨t, rfl⟩, h.ok k ?_⟩
        simp only [RepV]
        have := congrArg List.length hks
        rw [List.length_map, List.length_map] at this
        rw [this]
      · split at h
        · split at h
          · rename_i hz
            simp only [RepV] at rx
            subst rx
            exact call_len_str pins s σ H _ us Q I r ⟨_, rfl, by rw [toStr_len, ← SZ_eq]; exact hz, h.ok k (by simp only [RepV]; rw [toStr_len])⟩
          · exact h.elim
        · exact h.elim
  · exact h.elim
theorem pr_abs : CallR X (.builtin "abs") (rP X.K mk E .abs) := by
  rintro pins s σ H xs us Q I r ⟨ρ, M, vs, k, rs, h⟩
  rcases prim_cases rs h with ⟨x, u, rfl, rfl, rx, h⟩ | ⟨x, y, u, w, rfl, rfl, _, _, h⟩
  · change Post X.K mk (RepV X.K) E ρ H Q (PL.pAbs M x) at h
    unfold PL.pAbs at h
    split at h
    · simp only [RepV] at rx
      subst rx
      exact call_abs pins s σ H _ us Q I r ⟨_, rfl, h.ok k (by simp only [RepV])⟩
    · exact h.elim
  · exact h.elim
theorem pr_int : CallR X (.type "int") (rP X.K mk E .int) := by
  rintro pins s σ H xs us Q I r ⟨ρ, M, vs, k, rs, h⟩
  rcases prim_cases rs h with ⟨x, u, rfl, rfl, rx, h⟩ | ⟨x, y, u, w, rfl, rfl, _, _, h⟩
  · change Post X.K mk (RepV X.K) E ρ H Q (PL.pInt M x) at h
    unfold PL.pInt at h
    split at h
    · simp only [RepV] at rx
      subst rx
      exact call_int1 pins s σ H _ us Q I r (.inl ⟨_, rfl, h.ok k (by simp only [RepV])⟩)
    · simp only [RepV] at rx
      subst rx
      exact call_int1 pins s σ H _ us Q I r (.inr ⟨_, rfl, h.ok k (by simp only [RepV])⟩)
    · exact h.elim
  · exact h.elim
theorem keys_rep {K : PySem.W.Frag} {ρ : List Addr} {H : Hp} : ∀ {ks : List PV} {kvs : List (L2.Key × V)}, ks.map keyK = kvs.map (fun kv => some kv.1) → RepVs K ρ H ks (kvs.map fun kv => kV kv.1)
  | [], [], _ => .nil
  | [], _ :: _, h => by simp at h
  | _ :: _, [], h => by simp at h
  | k :: ks, p :: kvs, h => by
    simp only [List.map_cons, List.cons.injEq] at h
    refine .cons ?_ (keys_rep h.2)
    have := h.1
    cases k <;> simp [keyK] at this <;> simp only [RepV, ← this, kV]
theorem pr_list (hc : X.calm = true) : CallR X (.type "list") (rP X.K mk E .list) := by
  rintro pins s σ H xs us Q I r ⟨ρ, M, vs, k, rs, h⟩
  rcases prim_cases rs h with ⟨x, u, rfl, rfl, rx, h⟩ | ⟨x, y, u, w, rfl, rfl, _, _, h⟩
  · change Post X.K mk (RepV X.K) E ρ H Q (PL.pList M x) at h
    unfold PL.pList at h
    split at h
    · rename_i ys e
      obtain ⟨p, ws, rfl, hq, hr⟩ := items_rep k.rep rx e
      exact call_list_of pins s σ H _ us Q I r ⟨p, ws, rfl, hq, fun z n => post_alloc h k ⟨_, rfl, hr⟩ z n⟩
    · split at h
      · rename_i i e2
        split at h
        · rename_i tt ks vs e
          simp only [RepV] at rx
          obtain ⟨b, h4, rfl⟩ := rx
          cases tt with
          | true =>
            obtain ⟨a, kvs, h1, h2, rfl, h3, h5⟩ := k.rep.dctT e
            rw [h1] at h4; obtain rfl := Option.some.inj h4
            obtain ⟨v, rfl, rv⟩ := vals1 r
            cases rv
            exact t_list hc I (.inl h2) fun z n => post_alloc h k ⟨_, rfl, h3⟩ z n
          | false =>
          obtain ⟨a, kvs, h1, h2, h3, h5⟩ := k.rep.dct e
          rw [h1] at h4; obtain rfl := Option.some.inj h4
          exact call_list_dK hc pins s σ H _ us Q I r ⟨a, kvs, rfl, h2, fun z n => post_alloc h k ⟨_, rfl, keys_rep h3⟩ z n⟩
        · exact h.elim
      · exact h.elim
  · exact h.elim
theorem pairK_inv {x : PV} {xs : List PV} {p p' : List PV × List PV} (e : PL.pairK (x :: xs) p = some p') : ∃ k v, x = .tup [k, v] ∧ PL.keyT k = true ∧ PL.pairK xs (PL.dputV p.1 p.2 k v) = some p' := by
  cases x with
  | tup zs =>
    match zs, e with
    | [k, v], e =>
      simp only [PL.pairK] at e
      split at e
      · rename_i h; exact ⟨k, v, rfl, h, e⟩
      · cases e
    | [], e => simp [PL.pairK] at e
    | [_], e => simp [PL.pairK] at e
    | _ :: _ :: _ :: _, e => simp [PL.pairK] at e
  | _ => simp [PL.pairK] at e
/-- the pairs of a list, one by one, as PL and the heap tell them -/
theorem pairs_at {K : PySem.W.Frag} {ρ : List Addr} {H : Hp} {X : Cx} {pins : List (Addr × Obj)} {σ : L2.St} {s : Shared} (I : Inv X pins σ H s) :
    ∀ {xs : List PV} {us : List V} {its : List Value} {p p' : List PV × List PV} {acc : TL} {accX : TX}, RepVs K ρ H xs us → Vals us its → PL.pairK xs p = some p' → TRel acc accX → p.1 = acc.map keyTV →
      RepVs K ρ H p.1 (acc.map fun q => V.ref q.2.1) → RepVs K ρ H p.2 (acc.map (·.2.2)) →
      ∃ (ts : List Addr) (xh : TX) (acc' : TL), its = ts.map Value.ref ∧ xh.length = ts.length ∧ (∀ (j : Nat) (q : List Int × Addr × Value), xh[j]? = some q → ∃ t, ts[j]? = some t ∧ s.heap.IsTuple t #[.ref q.2.1, q.2.2] ∧ (tk X.prog X.w).is s.heap q.1 q.2.1) ∧
        TRel acc' (storedAllH accX xh) ∧ p'.1 = acc'.map keyTV ∧ RepVs K ρ H p'.1 (acc'.map fun q => V.ref q.2.1) ∧ RepVs K ρ H p'.2 (acc'.map (·.2.2)) ∧ acc'.length ≤ acc.length + xs.length
  | [], us, its, p, p', acc, accX, r, rv, e, ta, e1, r1, r2 => by
    simp only [PL.pairK, Option.some.injEq] at e
    subst e
    obtain rfl := r.inv0
    cases rv
    exact ⟨[], [], acc, rfl, rfl, fun j q hq => by simp at hq, ta, e1, r1, r2, by simp⟩
  | x :: xs, us, its, p, p', acc, accX, r, rv, e, ta, e1, r1, r2 => by
    obtain ⟨k, v, rfl, hk, e⟩ := pairK_inv e
    obtain ⟨u, t, rfl, q1, q2⟩ := r.inv
    cases rv with
    | cons rv1 rv2 =>
      simp only [RepV] at q1
      obtain ⟨a, o, ws, rfl, h1, h2, h3, q3⟩ := q1
      cases rv1
      obtain ⟨ku, w1, rfl, qk, q4⟩ := q3.inv
      obtain ⟨vu, w2, rfl, qv, q5⟩ := q4.inv
      obtain rfl := q5.inv0
      obtain ⟨is, b, ob, rfl, rfl, hb⟩ := keyT_rep qk hk
      obtain ⟨_, _, tits, rt, o', g1, g2, n, g3⟩ := (show ObjOk X.prog X.w H s.heap a (.frz o (.tup [.ref b, vu])) from I.hok a _ h1)
      obtain ⟨kv, vv, rfl, rk, rvv⟩ : ∃ kv vv, tits = [kv, vv] ∧ RelV (.ref b) kv ∧ RelV vu vv := by
        cases rt with
        | cons c1 c2 => cases c2 with
          | cons c3 c4 => cases c4; exact ⟨_, _, rfl, c1, c3⟩
      cases rk
      have hpk : p.1.length = acc.length := by rw [e1, List.length_map]
      obtain ⟨d1, d2, d3⟩ := tput_rep is qk qv (by rw [← e1]; exact r1) r2
      obtain ⟨pk, pv⟩ := p
      simp only at e1 e d1 d2 d3
      subst e1
      obtain ⟨ts, xh, acc', f1, f2, f3, f4, f5, f6, f7, f8⟩ := pairs_at I (acc := putT acc is b vu) (accX := storedH accX is b vv) q2 rv2 e (TRel.put ta is b rvv) d1 d2 d3
      refine ⟨a :: ts, (is, b, vv) :: xh, acc', by rw [f1]; rfl, by simp [f2], fun j q hq => ?_, f4, f5, f6, f7, ?_⟩
      · cases j with
        | zero =>
          simp only [List.getElem?_cons_zero, Option.some.injEq] at hq
          subst hq
          exact ⟨a, rfl, ⟨o', g1, g2, n, g3⟩, tkey_of I.hok hb⟩
        | succ j => exact f3 j q hq
      · have : (putT acc is b vu).length ≤ acc.length + 1 := by
          unfold putT; split <;> simp
        rw [List.length_cons]; omega
theorem pr_dictT (hu : X.A.units + 200 < cLine) (hc : X.calm = true) : CallR X (.type "dict") (rP X.K mk E .dictT) := by
  rintro pins s σ H xs us Q I r ⟨ρ, M, vs, k, rs, h⟩
  rcases prim_cases rs h with ⟨x, u, rfl, rfl, rx, h⟩ | ⟨x, y, u, w, rfl, rfl, _, _, h⟩
  · change Post X.K mk (RepV X.K) E ρ H Q (PL.pDictT M x) at h
    unfold PL.pDictT at h
    split at h
    · rename_i ys e
      split at h
      · rename_i p e2
        obtain ⟨l, ws, rfl, hq, hr⟩ := litems_rep k.rep rx e
        obtain ⟨v, rfl, rv⟩ := vals1 r
        cases rv
        obtain ⟨its, rr, pl, hz⟩ := I.list hq
        obtain ⟨ts, xh, acc', f1, f2, f3, f4, f5, f6, f7, f8⟩ := pairs_at I (acc := []) (accX := []) hr rr e2 .nil rfl .nil .nil
        subst f1
        have hlen := rr.length
        rw [List.length_map] at hlen
        refine call_dict_pairsH (knd := tk X.prog X.w) (ps := xh) (PairArg.list l (ts.map Value.ref).toArray (fun j => ts.getD j 0) (xh.map fun q => (Value.ref q.2.1, q.2.2))) (I.ok.hd hc) (tupleKind_room_in1 (show X.A.in1.units + 1 < cLine from by show X.A.units + 1 + 1 < cLine; omega)) ⟨pl, by simp [f2], fun j kk vv hj => ?_⟩
          ⟨by simp, fun i key vv hi => ?_⟩ (fun h' hk q hq => ?_) (by rw [List.length_map, f2, ← hlen]; exact hz) fun h' t' hd hk => ?_
        · rw [List.getElem?_map, Option.map_eq_some_iff] at hj
          obtain ⟨q, hq, e3⟩ := hj
          simp only [Prod.mk.injEq] at e3
          obtain ⟨rfl, rfl⟩ := e3
          obtain ⟨t, ht, h1, h2⟩ := f3 j q hq
          have hg : ts.getD j 0 = t := by rw [List.getD, ht]; rfl
          show (List.map Value.ref ts).toArray[j]? = some (Value.ref (ts.getD j 0)) ∧ PairAt s.heap (ts.getD j 0) _ _
          rw [hg]
          exact ⟨by simp [ht], .inl h1⟩
        · rw [PairRel, List.getElem?_map, Option.map_eq_some_iff] at hi
          obtain ⟨q, hq, e3⟩ := hi
          simp only [Prod.mk.injEq] at e3
          obtain ⟨rfl, rfl⟩ := e3
          exact ⟨q.1, q.2.1, hq, rfl⟩
        · obtain ⟨j, hj, rfl⟩ := List.mem_iff_getElem.mp hq
          obtain ⟨t, _, _, ⟨o, items, n, g1, g2, g3, g4⟩⟩ := f3 j _ (List.getElem?_eq_getElem hj)
          exact ⟨o, items, n, hk _ _ (Nat.ne_of_lt (Heap.lt_size g1)) (by simp) g1, g2, g3, g4⟩
        · have hm : (s.heap.objs.size == sysModules) = false := beq_eq_false_iff_ne.mpr (Nat.ne_of_gt I.big)
          have hl : acc'.length ≤ sizeLine := by
            have := hr.length
            simp only [List.length_nil, Nat.zero_add] at f8
            omega
          refine ⟨.ref s.heap.objs.size, upd H s.heap.objs.size (DTO s.heap.objs.size acc'), I.laid (t' := t') (fun b o g => hk b o (by simp) g) (Nat.le_refl _) (dt_obj hl hm f4 hd), rfl, ?_⟩
          have n := I.hok.fresh (Nat.le_refl s.heap.objs.size)
          refine Post.okx h (Ext.alloc k.rep n) (k.alloc n ⟨acc', rfl, f5, f6, f7⟩) ?_
          simp only [RepV]
          exact ⟨s.heap.objs.size, by rw [← k.rep.len, List.getElem?_append_right (Nat.le_refl _), Nat.sub_self]; rfl, rfl⟩
      · exact h.elim
    · exact h.elim
  · exact h.elim
theorem pr_tuple : CallR X (.type "tuple") (rP X.K mk E .tuple) := by
  rintro pins s σ H xs us Q I r ⟨ρ, M, vs, k, rs, h⟩
  rcases prim_cases rs h with ⟨x, u, rfl, rfl, rx, h⟩ | ⟨x, y, u, w, rfl, rfl, _, _, h⟩
  · change Post X.K mk (RepV X.K) E ρ H Q (PL.pTuple M x) at h
    unfold PL.pTuple at h
    split at h
    · have rx0 := rx
      obtain ⟨p, ws, rfl, hq, hr⟩ := rx.toTup
      exact call_tuple_of pins s σ H _ us Q I r ⟨p, ws, rfl, .inr ⟨hq, h.ok k rx0⟩⟩
    · split at h
      · rename_i ys e
        obtain ⟨p, ws, rfl, hq, hr⟩ := litems_rep k.rep rx e
        obtain ⟨v, rfl, rv⟩ := vals1 r
        cases rv
        obtain ⟨its, r', pl, hz⟩ := I.list hq
        have hlen := r'.length
        refine call_tuple_list pl.isList (fun h' kp => ?_) (by simp only [List.size_toArray] <;> omega)
        have I1 : Inv X pins σ H { s with heap := h' } := I.kept (t' := s.toks) kp
        exact ⟨.ref h'.objs.size, _, Inv.tnew (t' := s.toks) I1 r' hz, rfl, post_tup h k hr _ _ I1.fresh (tupO_new _)⟩
      · exact h.elim
  · exact h.elim
theorem reads_ints {h : Heap} : ∀ {its : List Value} {is : List Int}, IntsAre its is → ReadsAll h its (is.map PyData.int) []
  | _, _, .nil => .nil
  | _, _, .cons n t r => by
    have := ReadsAll.cons (Reads.int n t) (reads_ints (h := h) r)
    simpa using this
theorem alike_ints (is : List Int) : PySem.W.AlikeAll (is.map PyData.int) := by
  refine ⟨fun x hx y hy => ?_, fun x hx => ?_⟩
  · obtain ⟨i, _, e1⟩ := List.mem_map.mp hx
    obtain ⟨j, _, e2⟩ := List.mem_map.mp hy
    rw [← e1, ← e2]
    rfl
  · obtain ⟨i, _, e1⟩ := List.mem_map.mp hx
    rw [← e1]
    intro z; cases z
theorem depth_ints : ∀ is : List Int, PyData.depthAll (is.map PyData.int) = 0
  | [] => by simp [PyData.depthAll]
  | i :: is => by simp [PyData.depthAll, PyData.depth, depth_ints is]
theorem ints_vals {us : List V} {its : List Value} {is : List Int} (r : Vals us its) (e : us = is.map V.int) : IntsAre its is := by
  subst e; exact Vals.ints r
theorem reads_int {h : Heap} {v : Value} {m : Int} {bs : List Addr} (r : Reads h v (.int m) bs) : ∃ t, v = .int m t := by
  cases r; exact ⟨_, rfl⟩
theorem pr_max (hu : X.A.units + 200 < cLine) (hc : X.calm = true) : CallR X (.builtin "max") (rP X.K mk E .max) := by
  rintro pins s σ H xs us Q I r ⟨ρ, M, vs, k, rs, h⟩
  rcases prim_cases rs h with ⟨x, u, rfl, rfl, rx, h⟩ | ⟨x, y, u, w, rfl, rfl, rx, ry, h⟩
  · change Post X.K mk (RepV X.K) E ρ H Q (PL.pInts _ M x) at h
    unfold PL.pInts at h
    split at h
    · rename_i i js e
      obtain ⟨ys, e1, e2⟩ := Option.bind_eq_some_iff.mp e
      obtain ⟨p, ws, rfl, hq, hr⟩ := items_rep k.rep rx e1
      have ew := hr.ints e2
      obtain ⟨v, rfl, rv⟩ := vals1 r
      cases rv
      have hd := depth_ints (i :: js)
      rcases hq with hq | hq
      · obtain ⟨its, r', pl, hz⟩ := I.list hq
        have hi := ints_vals r' ew
        refine PySem.W.max_list_data (I.ok.hd hc) pl.isList (x := .int i) (xs := js.map .int) (show ReadsAll s.heap its ((i :: js).map PyData.int) [] from reads_ints hi) (alike_ints (i :: js)) (by rw [show (PyData.int i :: js.map PyData.int) = (i :: js).map PyData.int from rfl, hd]; omega) fun _ v h' tk bs _ rd kp => ?_
        rw [PySem.W.maxD_ints] at rd
        obtain ⟨t, rfl⟩ := reads_int rd
        exact ⟨.int _, H, I.kept kp, ⟨t, rfl⟩, h.ok k (by simp only [RepV]; rfl)⟩
      · obtain ⟨its, r', pl, hz⟩ := I.tuple hq
        have hi := ints_vals r' ew
        refine PySem.W.max_tuple_data (I.ok.hd hc) pl (x := .int i) (xs := js.map .int) (show ReadsAll s.heap its ((i :: js).map PyData.int) [] from reads_ints hi) (alike_ints (i :: js)) (by rw [show (PyData.int i :: js.map PyData.int) = (i :: js).map PyData.int from rfl, hd]; omega) fun _ v h' tk bs _ rd kp => ?_
        rw [PySem.W.maxD_ints] at rd
        obtain ⟨t, rfl⟩ := reads_int rd
        exact ⟨.int _, H, I.kept kp, ⟨t, rfl⟩, h.ok k (by simp only [RepV]; rfl)⟩
    · exact h.elim
  · change Post X.K mk (RepV X.K) E ρ H Q (PL.pMax2 M x y) at h
    unfold PL.pMax2 at h
    split at h
    · simp only [RepV] at rx ry
      subst rx ry
      exact call_max2 hc pins s σ H _ us Q I r ⟨_, _, rfl, h.ok k (by simp only [RepV])⟩
    · exact h.elim
theorem pr_min (hu : X.A.units + 200 < cLine) (hc : X.calm = true) : CallR X (.builtin "min") (rP X.K mk E .min) := by
  rintro pins s σ H xs us Q I r ⟨ρ, M, vs, k, rs, h⟩
  rcases prim_cases rs h with ⟨x, u, rfl, rfl, rx, h⟩ | ⟨x, y, u, w, rfl, rfl, rx, ry, h⟩
  · change Post X.K mk (RepV X.K) E ρ H Q (PL.pInts _ M x) at h
    unfold PL.pInts at h
    split at h
    · rename_i i js e
      obtain ⟨ys, e1, e2⟩ := Option.bind_eq_some_iff.mp e
      obtain ⟨p, ws, rfl, hq, hr⟩ := items_rep k.rep rx e1
      have ew := hr.ints e2
      obtain ⟨v, rfl, rv⟩ := vals1 r
      cases rv
      have hd := depth_ints (i :: js)
      rcases hq with hq | hq
      · obtain ⟨its, r', pl, hz⟩ := I.list hq
        have hi := ints_vals r' ew
        refine PySem.W.min_list_data (I.ok.hd hc) pl.isList (x := .int i) (xs := js.map .int) (show ReadsAll s.heap its ((i :: js).map PyData.int) [] from reads_ints hi) (alike_ints (i :: js)) (by rw [show (PyData.int i :: js.map PyData.int) = (i :: js).map PyData.int from rfl, hd]; omega) fun _ v h' tk bs _ rd kp => ?_
        rw [PySem.W.minD_ints] at rd
        obtain ⟨t, rfl⟩ := reads_int rd
        exact ⟨.int _, H, I.kept kp, ⟨t, rfl⟩, h.ok k (by simp only [RepV]; rfl)⟩
      · obtain ⟨its, r', pl, hz⟩ := I.tuple hq
        have hi := ints_vals r' ew
        refine PySem.W.min_tuple_data (I.ok.hd hc) pl (x := .int i) (xs := js.map .int) (show ReadsAll s.heap its ((i :: js).map PyData.int) [] from reads_ints hi) (alike_ints (i :: js)) (by rw [show (PyData.int i :: js.map PyData.int) = (i :: js).map PyData.int from rfl, hd]; omega) fun _ v h' tk bs _ rd kp => ?_
        rw [PySem.W.minD_ints] at rd
        obtain ⟨t, rfl⟩ := reads_int rd
        exact ⟨.int _, H, I.kept kp, ⟨t, rfl⟩, h.ok k (by simp only [RepV]; rfl)⟩
    · exact h.elim
  · change Post X.K mk (RepV X.K) E ρ H Q (PL.pMin2 M x y) at h
    unfold PL.pMin2 at h
    split at h
    · simp only [RepV] at rx ry
      subst rx ry
      exact call_min2 hc pins s σ H _ us Q I r ⟨_, _, rfl, h.ok k (by simp only [RepV])⟩
    · exact h.elim
theorem pr_sum (hc : X.calm = true) : CallR X (.builtin "sum") (rP X.K mk E .sum) := by
  rintro pins s σ H xs us Q I r ⟨ρ, M, vs, k, rs, h⟩
  rcases prim_cases rs h with ⟨x, u, rfl, rfl, rx, h⟩ | ⟨x, y, u, w, rfl, rfl, rx, ry, h⟩
  · change Post X.K mk (RepV X.K) E ρ H Q (PL.pSum M x) at h
    unfold PL.pSum at h
    split at h
    · rename_i js e
      obtain ⟨ys, e1, e2⟩ := Option.bind_eq_some_iff.mp e
      obtain ⟨p, ws, rfl, hq, hr⟩ := litems_rep k.rep rx e1
      rw [hr.ints e2] at hq
      exact cr_sum hc pins s σ H _ us Q I r ⟨p, js, rfl, hq, h.ok k (by simp only [RepV])⟩
    · exact h.elim
  · exact h.elim
theorem pr_any (hc : X.calm = true) : CallR X (.builtin "any") (rP X.K mk E .any) := by
  rintro pins s σ H xs us Q I r ⟨ρ, M, vs, k, rs, h⟩
  rcases prim_cases rs h with ⟨x, u, rfl, rfl, rx, h⟩ | ⟨x, y, u, w, rfl, rfl, rx, ry, h⟩
  · change Post X.K mk (RepV X.K) E ρ H Q (PL.pBools _ M x) at h
    unfold PL.pBools at h
    split at h
    · rename_i js e
      obtain ⟨ys, e1, e2⟩ := Option.bind_eq_some_iff.mp e
      obtain ⟨p, ws, rfl, hq, hr⟩ := litems_rep k.rep rx e1
      rw [hr.bools e2] at hq
      exact cr_any hc pins s σ H _ us Q I r ⟨p, js, rfl, hq, h.ok k (by simp only [RepV])⟩
    · exact h.elim
  · exact h.elim
theorem pr_all (hc : X.calm = true) : CallR X (.builtin "all") (rP X.K mk E .all) := by
  rintro pins s σ H xs us Q I r ⟨ρ, M, vs, k, rs, h⟩
  rcases prim_cases rs h with ⟨x, u, rfl, rfl, rx, h⟩ | ⟨x, y, u, w, rfl, rfl, rx, ry, h⟩
  · change Post X.K mk (RepV X.K) E ρ H Q (PL.pBools _ M x) at h
    unfold PL.pBools at h
    split at h
    · rename_i js e
      obtain ⟨ys, e1, e2⟩ := Option.bind_eq_some_iff.mp e
      obtain ⟨p, ws, rfl, hq, hr⟩ := litems_rep k.rep rx e1
      rw [hr.bools e2] at hq
      exact cr_all hc pins s σ H _ us Q I r ⟨p, js, rfl, hq, h.ok k (by simp only [RepV])⟩
    · exact h.elim
  · exact h.elim

/-! ### sorted -/
theorem insI_perm (x : Int) : ∀ l : List Int, (PL.insI x l).Perm (x :: l)
  | [] => .refl _
  | y :: ys => by
    unfold PL.insI
    split
    · exact .refl _
    · exact ((insI_perm x ys).cons y).trans (.swap x y ys)
theorem sortI_perm : ∀ l : List Int, (PL.sortI l).Perm l
  | [] => .refl _
  | x :: xs => (insI_perm x _).trans ((sortI_perm xs).cons x)
theorem insI_sorted (x : Int) : ∀ {l : List Int}, l.Pairwise (· ≤ ·) → (PL.insI x l).Pairwise (· ≤ ·)
  | [], _ => by simp [PL.insI]
  | y :: ys, h => by
    rw [List.pairwise_cons] at h
    unfold PL.insI
    split
    · rename_i hxy
      refine List.pairwise_cons.mpr ⟨fun z hz => ?_, List.pairwise_cons.mpr h⟩
      rcases List.mem_cons.mp hz with rfl | hz
      · exact hxy
      · exact Int.le_trans hxy (h.1 z hz)
    · rename_i hxy
      refine List.pairwise_cons.mpr ⟨fun z hz => ?_, insI_sorted x h.2⟩
      rcases List.mem_cons.mp ((insI_perm x ys).mem_iff.mp hz) with rfl | hz
      · omega
      · exact h.1 z hz
theorem sortI_sorted : ∀ l : List Int, (PL.sortI l).Pairwise (· ≤ ·)
  | [] => .nil
  | x :: xs => insI_sorted x (sortI_sorted xs)
theorem sorted_one : ∀ {a b : List Int}, a.Perm b → a.Pairwise (· ≤ ·) → b.Pairwise (· ≤ ·) → a = b
  | [], b, p, _, _ => by rw [List.Perm.eq_nil p.symm]
  | x :: xs, b, p, h1, h2 => by
    cases b with
    | nil => exact absurd p.length_eq (by simp)
    | cons y ys =>
      rw [List.pairwise_cons] at h1 h2
      have hx : x ∈ y :: ys := p.mem_iff.mp List.mem_cons_self
      have hy : y ∈ x :: xs := p.mem_iff.mpr List.mem_cons_self
      have e : x = y := by
        rcases List.mem_cons.mp hx with e | hx
        · exact e
        · rcases List.mem_cons.mp hy with e | hy
          · exact e.symm
          · exact Int.le_antisymm (h1.1 y hy) (h2.1 x hx)
      subst e
      rw [sorted_one (p.cons_inv) h1.2 h2.2]
theorem pr_sorted : CallR X (.builtin "sorted") (rP X.K mk E .sorted) := by
  rintro pins s σ H xs us Q I r ⟨ρ, M, vs, k, rs, h⟩
  rcases prim_cases rs h with ⟨x, u, rfl, rfl, rx, h⟩ | ⟨x, y, u, w, rfl, rfl, rx, ry, h⟩
  · change Post X.K mk (RepV X.K) E ρ H Q (PL.pSorted M x) at h
    unfold PL.pSorted at h
    split at h
    · rename_i js e
      obtain ⟨ys, e1, e2⟩ := Option.bind_eq_some_iff.mp e
      obtain ⟨p, ws, rfl, hq, hr⟩ := litems_rep k.rep rx e1
      rw [hr.ints e2] at hq
      refine cr_sortedI pins s σ H _ us Q I r ⟨p, js, rfl, hq, fun ns' z p1 p2 n => ?_⟩
      have e3 : ns' = PL.sortI js := sorted_one (p1.trans (sortI_perm js).symm) p2 (sortI_sorted js)
      subst e3
      exact post_alloc h k ⟨_, rfl, repVs_ints _⟩ z n
    · exact h.elim
  · exact h.elim
theorem dedup_mem : ∀ {l : List Int} {x : Int}, x ∈ PL.dedup l ↔ x ∈ l
  | [], x => by simp [PL.dedup]
  | y :: ys, x => by
    unfold PL.dedup
    split
    · rename_i h
      rw [dedup_mem, List.mem_cons]
      constructor
      · exact .inr
      · rintro (rfl | h')
        · simpa using h
        · exact h'
    · rw [List.mem_cons, dedup_mem, List.mem_cons]
theorem dedup_nodup : ∀ l : List Int, (PL.dedup l).Nodup
  | [] => .nil
  | y :: ys => by
    unfold PL.dedup
    split
    · exact dedup_nodup ys
    · rename_i h
      exact List.nodup_cons.mpr ⟨fun z => h (by simpa using dedup_mem.mp z), dedup_nodup ys⟩
theorem perm_of_mem : ∀ {a b : List Int}, a.Nodup → b.Nodup → (∀ x, x ∈ a ↔ x ∈ b) → a.Perm b := fun h1 h2 h => (List.perm_ext_iff_of_nodup h1 h2).mpr h
/-- set(a tuple of vints) -/
def rSetT (K : PySem.W.Frag) (w : World) : List V → Hp → VK → Prop := fun xs H Q => ∃ (p : Addr) (is : List Int), xs = [.ref p] ∧ SqT K H p (is.map V.int) ∧ is.length < 64 ∧ ∀ (a : Addr) (c : Nat), H a = none → c ≤ is.length → Q (.ref a) (upd H a (SetO w a (fun j => decide (j ∈ is)) c))
theorem cr_setT (hc : X.calm = true) : CallR X (.type "set") (rSetT X.K X.w) := by
  rintro pins s σ H xs us Q I r ⟨p, is, rfl, hq, hl, q⟩
  obtain ⟨v, rfl, rv⟩ := vals1 r
  cases rv
  obtain ⟨its, r', pl, hz⟩ := I.tuple hq
  refine call_set_tupI is (I.ok.hd hc) pl (Vals.ints r') (by unfold scanBound; omega) fun h' tk c R hcn kp => ?_
  exact ⟨.ref _, _, I.laid kp (Nat.le_refl _) (setO_new R), rfl, q _ c I.fresh hcn⟩
theorem sortedSet_rep {ρ : List Addr} {H : Hp} {M : PL.Mem} {w : World} {x : PV} {u : V} {Q : VK} (k : Ok X.K mk ρ H M) (rx : RepV X.K ρ H x u) (h : Post X.K mk (RepV X.K) E ρ H Q (PL.pSortedSet M x)) :
    rSetT X.K w [u] H fun y H1 => rSortedSet w [y] H1 Q := by
  unfold PL.pSortedSet at h
  split at h
  · split at h
    · rename_i js e
      split at h
      · rename_i h64
        obtain ⟨p, ws, rfl, hq, hr⟩ := rx.toTup
        rw [hr.ints e] at hq
        refine ⟨p, js, rfl, hq, h64, fun a c n hcl => ⟨a, _, c, rfl, upd_same, by omega, fun ns z p1 p2 p3 nz => ?_⟩⟩
        have e3 : ns = PL.sortI (PL.dedup js) := by
          refine sorted_one (perm_of_mem (p1.imp fun h => Int.ne_of_lt h) ?_ fun x => ?_) (p1.imp fun h => Int.le_of_lt h) (sortI_sorted _)
          · exact (sortI_perm _).nodup_iff.mpr (dedup_nodup js)
          · rw [p2 x, (sortI_perm _).mem_iff, dedup_mem]; simp
        subst e3
        exact post_alloc (h.ext (Ext.new k.rep n)) (k.new n) ⟨_, rfl, repVs_ints _⟩ z nz
      · exact h.elim
    · exact h.elim
  · exact h.elim
end
end PLS

/-! PLSQ: repr of data that has dicts. -/
namespace PLS
open PySem PySem.Spec PyProof.Rows L2
/-- no dict lies where the modules do -/
def Clear1 (hp : Heap) : Prop := ∀ (ob : Obj) (es : Array DictEntry) (ep : Nat), hp.get? sysModules = some ob → ob.cls = .type "dict" → ob.data = .dict es ep → False
section
variable {prog : Program} {w : World} {hp : Heap}
mutual
theorem rk_one (nm : Clear1 hp) : ∀ {v : Value} {d : PyData} {as : List Addr}, Reads hp v d as → d.showable = true → d.shown.length ≤ sizeLine → ∃ bs, ReadAtMost hp d.depth bs ∧ ReprK prog w bs hp d.depth v d.shown
  | _, _, _, .none, _, _ => ⟨[], (fun _ z => nomatch z), by simp only [PyData.shown]; exact .of_is ReprIs.none _ _ _⟩
  | _, _, _, .bool q, _, _ => ⟨[], (fun _ z => nomatch z), by simp only [PyData.shown]; exact .of_is (ReprIs.bool q) _ _ _⟩
  | _, _, _, .int i tk, sh, _ => ⟨[], (fun _ z => nomatch z), by simp only [PyData.shown]; exact .of_is (ReprIs.int tk (by simpa [PyData.showable] using sh)) _ _ _⟩
  | _, _, _, .str x tk, _, ln => ⟨[], (fun _ z => nomatch z), by simp only [PyData.shown]; exact .of_is (ReprIs.str x tk (by simpa only [PyData.shown] using ln)) _ _ _⟩
  | _, _, _, .list (a := p) (vs := its) (xs := ds) g1 g2 g3 g4, sh, ln => by
    have ln2 : (listText (PyData.shownAll ds)).length ≤ sizeLine := by simpa only [PyData.shown] using ln
    obtain ⟨cs, hc, kk⟩ := rk_all nm g4 (by simpa [PyData.showable] using sh) fun t ht => Nat.le_trans (listText_mem_le ht) ln2
    have rr : Reads hp (.ref p) (.list ds) _ := .list g1 g2 g3 g4
    have np : p ∉ cs := not_mem_of_deeper rr (by simp only [PyData.depth]; omega) hc
    refine ⟨p :: cs, ReadAtMost.cons rr (by simp only [PyData.depth]; omega) hc, ?_⟩
    simp only [PyData.shown, PyData.depth]
    obtain ⟨m⟩ := its
    cases m with
    | nil =>
      have g5 : ReadsAll hp [] ds _ := g4
      cases g5
      simp only [listText_nil, PyData.shownAll]
      exact .listEmpty g1 g2 g3
    | cons y m => exact .list g1 g2 g3 np (by simpa using kk.length_eq) fun i z e => kk.item i z (by simpa using e)
  | _, _, _, .tuple (a := p) (xs := ds) g1 g2 g3 g4, sh, ln => by
    have ln2 : (tupleText (PyData.shownAll ds)).length ≤ sizeLine := by simpa only [PyData.shown] using ln
    obtain ⟨cs, hc, kk⟩ := rk_all nm g4 (by simpa [PyData.showable] using sh) fun t ht => Nat.le_trans (tupleText_mem_le ht) ln2
    have rr : Reads hp (.ref p) (.tuple ds) _ := .tuple g1 g2 g3 g4
    have np : p ∉ cs := not_mem_of_deeper rr (by simp only [PyData.depth]; omega) hc
    refine ⟨p :: cs, ReadAtMost.cons rr (by simp only [PyData.depth]; omega) hc, ?_⟩
    simp only [PyData.shown, PyData.depth]
    exact .tuple g1 g2 g3 np kk
  | _, _, _, .dict (a := p) (es := es) (kvs := ps) g1 g2 g3 g4 g5, sh, ln => by
    have ln2 : (dictText (PyData.shownKv ps)).length ≤ sizeLine := by simpa only [PyData.shown] using ln
    obtain ⟨sh1, sh2⟩ := PyData.showableKv_split ps (by simpa [PyData.showable] using sh)
    obtain ⟨c1, hc1, q1⟩ := rk_all nm g4 sh1 fun t ht => let ⟨z, hz, le⟩ := PyData.shownKv_key_le ps t ht; Nat.le_trans le (Nat.le_trans (dictText_mem_le hz) ln2)
    obtain ⟨c2, hc2, q2⟩ := rk_all nm g5 sh2 fun t ht => let ⟨z, hz, le⟩ := PyData.shownKv_val_le ps t ht; Nat.le_trans le (Nat.le_trans (dictText_mem_le hz) ln2)
    have rr : Reads hp (.ref p) (.dict ps) _ := .dict g1 g2 g3 g4 g5
    have hc : ReadAtMost hp (PyData.depthKv ps) (c1 ++ c2) := (hc1.mono (PyData.depthAll_keys_le ps)).append (hc2.mono (PyData.depthAll_vals_le ps))
    have np : p ∉ c1 ++ c2 := not_mem_of_deeper rr (by simp only [PyData.depth]; omega) hc
    have lo : (p == sysModules) = false := beq_eq_false_iff_ne.mpr fun e => nm _ _ _ (e ▸ g1) g2 g3
    refine ⟨p :: (c1 ++ c2), ReadAtMost.cons rr (by simp only [PyData.depth]; omega) hc, ?_⟩
    simp only [PyData.shownKv_eq, PyData.shown, PyData.depth]
    exact .dict g1 g2 g3 lo np (ReprEntriesK.of_two es.toList _ _ (q1.more_le (fun z hz => List.mem_append_left _ hz) (PyData.depthAll_keys_le ps)) (q2.more_le (fun z hz => List.mem_append_right _ hz) (PyData.depthAll_vals_le ps)))
theorem rk_all (nm : Clear1 hp) : ∀ {vs : List Value} {ds : List PyData} {as : List Addr}, ReadsAll hp vs ds as → PyData.showableAll ds = true → (∀ t ∈ PyData.shownAll ds, t.length ≤ sizeLine) →
    ∃ bs, ReadAtMost hp (PyData.depthAll ds) bs ∧ ReprAllK prog w bs hp (PyData.depthAll ds) vs (PyData.shownAll ds)
  | _, _, _, .nil, _, _ => ⟨[], (fun _ z => nomatch z), by simp only [PyData.shownAll]; exact .nil⟩
  | _, _, _, .cons (d := d) (ds := ds) g gs, sh, ln => by
    have sh' : d.showable = true ∧ PyData.showableAll ds = true := by simpa [PyData.showableAll] using sh
    obtain ⟨c1, hc1, q1⟩ := rk_one nm g sh'.1 (ln _ (by simp only [PyData.shownAll]; exact List.mem_cons_self ..))
    obtain ⟨c2, hc2, q2⟩ := rk_all nm gs sh'.2 fun t ht => ln t (by simp only [PyData.shownAll]; exact List.mem_cons_of_mem _ ht)
    refine ⟨c1 ++ c2, fun z hz => ?_, ?_⟩
    · simp only [PyData.depthAll]
      rcases List.mem_append.mp hz with hz | hz
      · obtain ⟨d1, s1, r1, l1⟩ := hc1 z hz
        exact ⟨d1, s1, r1, Nat.le_trans l1 (Nat.le_max_left _ _)⟩
      · obtain ⟨d1, s1, r1, l1⟩ := hc2 z hz
        exact ⟨d1, s1, r1, Nat.le_trans l1 (Nat.le_max_right _ _)⟩
    · simp only [PyData.shownAll, PyData.depthAll]
      exact .cons ((q1.more fun z hz => List.mem_append_left _ hz).level_le (Nat.le_max_left _ _)) (q2.more_le (fun z hz => List.mem_append_right _ hz) (Nat.le_max_right _ _))
end
/-- how such data are shown -/
theorem shows_one {p : Addr} {d : PyData} {as : List Addr} (nm : Clear1 hp) (r : Reads hp (.ref p) d as) (sh : d.showable = true) (ln : d.shown.length ≤ sizeLine) : ∃ T idr, ShowsBy prog w hp p d T idr := by
  cases r with
  | list g1 g2 g3 g4 =>
    rename_i ob its m ds cs0
    have ln2 : (listText (PyData.shownAll ds)).length ≤ sizeLine := by simpa only [PyData.shown] using ln
    obtain ⟨cs, hc, kk⟩ := rk_all (prog := prog) (w := w) nm g4 (by simpa [PyData.showable] using sh) fun t ht => Nat.le_trans (listText_mem_le ht) ln2
    have np : p ∉ cs := not_mem_of_deeper (.list g1 g2 g3 g4) (by simp only [PyData.depth]; omega) hc
    refine ⟨"list", "list.__repr__", F.slot_list_repr.toG, F.slot_list_str, F.slot_list_format, fun s kp => ⟨ob, kp _ _ g1, g2⟩, fun A E s Q hg hu kp fin => ?_⟩
    simp only [PyData.depth] at hu
    simp only [PyData.shown] at fin
    obtain ⟨l⟩ := its
    cases l with
    | nil =>
      have g5 : ReadsAll hp [] ds _ := g4
      cases g5
      simp only [listText_nil, PyData.shownAll] at fin
      exact call_list_repr_empty ⟨ob, kp _ _ g1, g2⟩ (kp _ _ g1) g3 (fin s.heap _ _ fun _ _ e => e)
    | cons y l => exact call_list_reprK g1 g2 g3 np (by simpa using kk.length_eq) (fun i z e => kk.item i z (by simpa using e)) hg (fun z _ => Clear.nil z) hu kp fin ln2
  | tuple g1 g2 g3 g4 =>
    rename_i ob its m ds
    have ln2 : (tupleText (PyData.shownAll ds)).length ≤ sizeLine := by simpa only [PyData.shown] using ln
    obtain ⟨cs, hc, kk⟩ := rk_all (prog := prog) (w := w) nm g4 (by simpa [PyData.showable] using sh) fun t ht => Nat.le_trans (tupleText_mem_le ht) ln2
    have np : p ∉ cs := not_mem_of_deeper (.tuple g1 g2 g3 g4) (by simp only [PyData.depth]; omega) hc
    refine ⟨"tuple", "tuple.__repr__", F.slot_tuple_repr, F.slot_tuple_str, F.slot_tuple_format, fun s kp => ⟨ob, kp _ _ g1, g2⟩, fun A E s Q hg hu kp fin => ?_⟩
    simp only [PyData.depth] at hu
    simp only [PyData.shown] at fin
    exact call_tuple_reprK g1 g2 g3 np kk hg (fun z _ => Clear.nil z) hu kp fin ln2
  | dict g1 g2 g3 g4 g5 =>
    rename_i ob es m ps as1 bs1
    have ln2 : (dictText (PyData.shownKv ps)).length ≤ sizeLine := by simpa only [PyData.shown] using ln
    obtain ⟨sh1, sh2⟩ := PyData.showableKv_split ps (by simpa [PyData.showable] using sh)
    obtain ⟨c1, hc1, q1⟩ := rk_all (prog := prog) (w := w) nm g4 sh1 fun t ht => let ⟨z, hz, le⟩ := PyData.shownKv_key_le ps t ht; Nat.le_trans le (Nat.le_trans (dictText_mem_le hz) ln2)
    obtain ⟨c2, hc2, q2⟩ := rk_all (prog := prog) (w := w) nm g5 sh2 fun t ht => let ⟨z, hz, le⟩ := PyData.shownKv_val_le ps t ht; Nat.le_trans le (Nat.le_trans (dictText_mem_le hz) ln2)
    have hc : ReadAtMost hp (PyData.depthKv ps) (c1 ++ c2) := (hc1.mono (PyData.depthAll_keys_le ps)).append (hc2.mono (PyData.depthAll_vals_le ps))
    have np : p ∉ c1 ++ c2 := not_mem_of_deeper (.dict g1 g2 g3 g4 g5) (by simp only [PyData.depth]; omega) hc
    have lo : (p == sysModules) = false := beq_eq_false_iff_ne.mpr fun e => nm _ _ _ (e ▸ g1) g2 g3
    refine ⟨"dict", "dict.__repr__", F.slot_dict_repr, F.slot_dict_str, F.slot_dict_format, fun s kp => ⟨ob, kp _ _ g1, g2⟩, fun A E s Q hg hu kp fin => ?_⟩
    simp only [PyData.depth] at hu
    simp only [PyData.shownKv_eq, PyData.shown] at fin
    exact call_dict_reprK g1 g2 g3 lo np (ReprEntriesK.of_two es.toList _ _ (q1.more_le (fun z hz => List.mem_append_left _ hz) (PyData.depthAll_keys_le ps)) (q2.more_le (fun z hz => List.mem_append_right _ hz) (PyData.depthAll_vals_le ps)))
      hg (fun z _ => Clear.nil z) hu kp fin (by rw [← PyData.shownKv_eq]; exact ln2)
theorem reprs_one {A : Around} {E : Value → Shared → Prop} {s : Shared} {Q : Value → Shared → Prop} {p : Addr} {d : PyData} {as : List Addr} (nm : sysModules ∈ as → Clear1 s.heap) (r : Reads s.heap (.ref p) d as) (sh : d.showable = true) (hg : A.guards = some []) (hu : A.units + (d.depth + 1) < cLine)
    (fin : ∀ h' u tk, (∀ b o, s.heap.get? b = some o → h'.get? b = some o) → Q (.str d.shown u) { s with heap := h', toks := tk }) (ln : d.shown.length ≤ sizeLine) : wpAny (model prog w) A (call (.builtin "repr") [.ref p]) Q E s := by
  by_cases c : sysModules ∈ as
  · obtain ⟨T, idr, S⟩ := shows_one (prog := prog) (w := w) (nm c) r sh ln
    exact call_repr_slot (by omega) (S.typeIs s fun _ _ e => e) S.slotRepr (S.call A.in1 E s _ hg (by show A.units + 1 + d.depth < cLine; omega) (fun _ _ e => e) fun h' u tk hk => ⟨_, _, rfl, fin h' u tk hk⟩)
  · exact repr_of_reads' r sh (fun _ => c) hg hu (fun _ _ e => e) fin ln
end
end PLS

/-! PLS7: isinstance, repr, methods. -/
namespace PLS
open PySem PySem.Spec PyProof.Rows L2

/-! ### isinstance -/
def tyS : PL.Ty → String
  | .int => "int"
  | .bool => "bool"
  | .str => "str"
  | .tuple => "tuple"
  | .list => "list"
  | .dict => "dict"
section
variable {X : Cx} {mk : Mk} {E : EXC}
theorem rd_tyx {K : PySem.W.Frag} {H : Hp} {a : Addr} {kvs : List (L2.Key × V)} (h : Rd H a (.dK kvs)) : TyX K H (.ref a) (.type "dict") := by
  rcases h with h | ⟨o, h⟩
  · exact .base (.dK h)
  · exact .fDict h
theorem isi_rep {K : PySem.W.Frag} {ρ : List Addr} {H : Hp} {M : PL.Mem} (k : RepM K ρ H M) {x : PV} {u : V} (t : PL.Ty) (r : RepV K ρ H x u) (ok : PL.tyOk M x = true) : ∃ tv : String, TyX K H u (.type tv) ∧ kitB tv (tyS t) = some (PL.isTy M x t) := by
  have lst : ∀ a us, SqL K H a us → TyX K H (.ref a) (.type "list") := fun a us h => by
    rcases h with (h | ⟨o, h⟩) | ⟨o, its, n, h1, h2, _⟩
    · exact .base (.lst h)
    · exact .base (.frz h)
    · exact .kList h1 h2
  have hL : PL.litems M x = none → (PL.litems M x).isSome = false := fun e => by rw [e]; rfl
  cases x with
  | non =>
    simp only [RepV] at r; subst r
    exact ⟨_, .base .non, by cases t <;> simp only [PL.isTy, PL.litems, PL.dkeys, Option.isSome_some, Option.isSome_none] <;> decide +kernel⟩
  | bl b =>
    simp only [RepV] at r; subst r
    exact ⟨_, .base (.bl b), by cases t <;> simp only [PL.isTy, PL.litems, PL.dkeys, Option.isSome_some, Option.isSome_none] <;> decide +kernel⟩
  | int b =>
    simp only [RepV] at r; subst r
    exact ⟨_, .base (.int b), by cases t <;> simp only [PL.isTy, PL.litems, PL.dkeys, Option.isSome_some, Option.isSome_none] <;> decide +kernel⟩
  | str b =>
    simp only [RepV] at r; subst r
    exact ⟨_, .base (.str _), by cases t <;> simp only [PL.isTy, PL.litems, PL.dkeys, Option.isSome_some, Option.isSome_none] <;> decide +kernel⟩
  | rep d =>
    simp only [RepV] at r
    obtain ⟨pd, _, rfl⟩ := r
    exact ⟨_, .base (.str _), by cases t <;> simp only [PL.isTy, PL.litems, PL.dkeys, Option.isSome_some, Option.isSome_none] <;> decide +kernel⟩
  | tup xs =>
    simp only [RepV] at r
    obtain ⟨a, o, us, rfl, h1, h2, n, _⟩ := r
    exact ⟨_, .fTuple h1, by cases t <;> simp only [PL.isTy, PL.litems, PL.dkeys, Option.isSome_some, Option.isSome_none] <;> decide +kernel⟩
  | ct xs =>
    simp only [RepV] at r
    obtain ⟨a, us, rfl, ⟨o, its, n, h1, h2, _⟩, _⟩ := r
    exact ⟨_, .kTuple h1 h2, by cases t <;> simp only [PL.isTy, PL.litems, PL.dkeys, Option.isSome_some, Option.isSome_none] <;> decide +kernel⟩
  | fl xs =>
    simp only [RepV] at r
    obtain ⟨a, us, rfl, h1, n, _⟩ := r
    exact ⟨_, .base (.lst h1), by cases t <;> simp only [PL.isTy, PL.litems, PL.dkeys, Option.isSome_some, Option.isSome_none] <;> decide +kernel⟩
  | cl xs =>
    obtain ⟨a, us, rfl, h1, _⟩ := r.toCl
    exact ⟨_, lst a us h1, by cases t <;> simp only [PL.isTy, PL.litems, PL.dkeys, Option.isSome_some, Option.isSome_none] <;> decide +kernel⟩
  | fd ks vs =>
    simp only [RepV] at r
    have : ∃ a kvs, u = .ref a ∧ Rd H a (.dK kvs) := by
      rcases r with ⟨a, kvs, rfl, h1, n, _⟩ | ⟨a, kvs, rfl, h1, n, h2, _, _, h3⟩
      · exact ⟨a, kvs, rfl, h1⟩
      · cases kvs with
        | nil => exact absurd rfl h3
        | cons p kvs => subst h2; simp [PL.tyOk, keyTV, PL.isTup] at ok
    obtain ⟨a, kvs, rfl, h1⟩ := this
    exact ⟨_, rd_tyx h1, by cases t <;> simp only [PL.isTy, PL.litems, PL.dkeys, Option.isSome_some, Option.isSome_none] <;> decide +kernel⟩
  | ref i =>
    have r0 := r
    simp only [RepV] at r
    obtain ⟨a, h1, rfl⟩ := r
    have hi : i < M.length := by rw [← k.len]; exact (List.getElem?_eq_some_iff.mp h1).1
    have hm := List.getElem?_eq_getElem hi
    cases hmo : M[i] with
    | lst xs =>
      rw [hmo] at hm
      obtain ⟨b, us, h3, h4, _⟩ := k.lst hm
      rw [h1] at h3; obtain rfl := Option.some.inj h3
      exact ⟨_, .base (.lst h4), by cases t <;> simp only [PL.isTy, PL.litems, PL.dkeys, Option.isSome_some, Option.isSome_none, hm] <;> decide +kernel⟩
    | dct lk ks vs =>
      rw [hmo] at hm
      cases lk with
      | true => simp [PL.tyOk, hm] at ok
      | false => ?_
      obtain ⟨b, kvs, h3, h4, _⟩ := k.dct hm
      rw [h1] at h3; obtain rfl := Option.some.inj h3
      exact ⟨_, .base (.dK h4), by cases t <;> simp only [PL.isTy, PL.litems, PL.dkeys, Option.isSome_some, Option.isSome_none, hm] <;> decide +kernel⟩
end

/-! ### repr -/
theorem int_shown {i : Int} (h : i.natAbs < 2 ^ 1900) : i.natAbs.log2 < 1900 := PySem.Flt.log2_lt_of (by decide) h
/-- texts of proper signs -/
def Chs (s : Str) : Prop := ∀ c ∈ s.cps.toList, c < 16 ^ 8
theorem Chs.app {a b : Str} (h : Chs a) (g : Chs b) : Chs (a ++ b) := fun c hc => by
  have hc : c ∈ (a.cps ++ b.cps).toList := hc
  rw [Array.toList_append, List.mem_append] at hc
  exact hc.elim (h c) (g c)
theorem Chs.of (s : String) : Chs (Str.ofString s) := fun c hc => by
  rw [Str.ofString_eq_toList] at hc
  have hc : c ∈ s.toList.map Char.toNat := by simpa using hc
  obtain ⟨ch, _, rfl⟩ := List.mem_map.mp hc
  have : ch.toNat < 1114112 := by
    rcases ch.valid with h | ⟨_, h⟩
    · have : ch.toNat < 55296 := h
      omega
    · exact h
  exact Nat.lt_trans this (by decide)
theorem Chs.join {sep : Str} (hs : Chs sep) : ∀ {ts : List Str}, (∀ t ∈ ts, Chs t) → Chs (Str.join sep ts)
  | [], _ => fun c hc => by simp [Str.join, Str.empty] at hc
  | [x], h => h x (List.mem_cons_self ..)
  | x :: y :: r, h => ((h x (List.mem_cons_self ..)).app hs).app (Chs.join hs fun t ht => h t (List.mem_cons_of_mem _ ht))
theorem ints_chs : ∀ {xs : List PV} {ds : List PyData}, xs.all PL.isI = true → dats xs = some ds → ∀ t ∈ PyData.shownAll ds, Chs t
  | [], ds, _, h, t, ht => by simp only [dats, Option.some.injEq] at h; subst h; simp [PyData.shownAll] at ht
  | x :: xs, ds, p, h, t, ht => by
    simp only [dats, Option.bind_eq_some_iff, Option.map_eq_some_iff] at h
    obtain ⟨d1, e1, ds, e2, rfl⟩ := h
    rw [List.all_cons, Bool.and_eq_true] at p
    simp only [PyData.shownAll, List.mem_cons] at ht
    rcases ht with rfl | ht
    · cases x with
      | int i =>
        simp only [dat, Option.some.injEq] at e1; subst e1
        simp only [PyData.shown]
        exact Chs.of _
      | _ => simp [PL.isI] at p
    · exact ints_chs p.2 e2 t ht
theorem repd_chs {x : PV} {d : PyData} (p : PL.repd x = true) (h : dat x = some d) : Chs d.shown := by
  cases x with
  | int i =>
    simp only [dat, Option.some.injEq] at h; subst h
    simp only [PyData.shown]
    exact Chs.of _
  | tup xs =>
    simp only [dat, Option.map_eq_some_iff] at h
    obtain ⟨ds, h, rfl⟩ := h
    simp only [PL.repd] at p
    simp only [PyData.shown, tupleText]
    refine ((Chs.of "(").app (Chs.join (Chs.of ", ") (ints_chs p h))).app ?_
    split
    · exact Chs.of _
    · exact Chs.of _
  | _ => simp [PL.repd] at p
mutual
theorem plain_shp : ∀ {v : PV}, PL.plain v = true → PL.shp v = true
  | .non, _ => by simp [PL.shp]
  | .bl _, _ => by simp [PL.shp]
  | .int _, _ => by simp [PL.shp]
  | .str _, h => by simp only [PL.plain] at h; simp only [PL.shp]; exact h
  | .tup xs, h => by simp only [PL.plain] at h; simp only [PL.shp]; exact plain_shps h
  | .fl xs, h => by simp only [PL.plain] at h; simp only [PL.shp]; exact plain_shps h
  | .fd _ _, h => by simp [PL.plain] at h
  | .ref _, h => by simp [PL.plain] at h
  | .rep _, h => by simp [PL.plain] at h
  | .ct _, h => by simp [PL.plain] at h
  | .cl _, h => by simp [PL.plain] at h
theorem plain_shps : ∀ {xs : List PV}, PL.plains xs = true → PL.shps xs = true
  | [], _ => by simp [PL.shps]
  | x :: xs, h => by
    simp only [PL.plains, Bool.and_eq_true] at h
    simp only [PL.shps, plain_shp h.1, plain_shps h.2, Bool.and_self]
end
theorem isI_shps : ∀ {xs : List PV}, xs.all PL.isI = true → PL.shps xs = true
  | [], _ => by simp [PL.shps]
  | x :: xs, h => by
    rw [List.all_cons, Bool.and_eq_true] at h
    have : PL.shp x = true := by cases x <;> simp [PL.isI] at h <;> simp [PL.shp]
    simp only [PL.shps, this, isI_shps h.2, Bool.and_self]
theorem repd_shp {x : PV} (h : PL.repd x = true) : PL.shp x = true := by
  cases x with
  | int i => simp [PL.shp]
  | tup xs => simp only [PL.repd] at h; simp only [PL.shp]; exact isI_shps h
  | _ => simp [PL.repd] at h
theorem kv_len : ∀ (a b : List PyData), a.length = b.length → ((PyData.shownKv (a.zip b)).map (·.length)).sum + 2 * (PyData.shownKv (a.zip b)).length ≤ ((PyData.shownAll a).map (·.length)).sum + 2 * (PyData.shownAll a).length + (((PyData.shownAll b).map (·.length)).sum + 2 * (PyData.shownAll b).length)
  | [], [], _ => by simp [PyData.shownKv, PyData.shownAll]
  | [], _ :: _, h => by simp at h
  | _ :: _, [], h => by simp at h
  | x :: a, y :: b, h => by
    have ih := kv_len a b (by simpa using h)
    simp only [List.zip_cons_cons, PyData.shownKv, PyData.shownAll, List.map_cons, List.sum_cons, List.length_cons]
    have : (x.shown ++ (": " : Str) ++ y.shown).length = x.shown.length + 2 + y.shown.length := by
      rw [strLen_append, strLen_append]; rfl
    omega
theorem dats_len : ∀ {xs : List PV} {ds : List PyData}, dats xs = some ds → ds.length = xs.length
  | [], ds, h => by simp only [dats, Option.some.injEq] at h; subst h; rfl
  | x :: xs, ds, h => by
    simp only [dats, Option.bind_eq_some_iff, Option.map_eq_some_iff] at h
    obtain ⟨d1, e1, ds, e2, rfl⟩ := h
    rw [List.length_cons, List.length_cons, dats_len e2]
theorem showKv : ∀ (a b : List PyData), PyData.showableAll a = true → PyData.showableAll b = true → PyData.showableKv (a.zip b) = true
  | [], b, _, _ => by simp [PyData.showableKv]
  | x :: a, [], _, _ => by simp [PyData.showableKv]
  | x :: a, y :: b, h, g => by
    simp only [PyData.showableAll, Bool.and_eq_true] at h g
    simp only [List.zip_cons_cons, PyData.showableKv, h.1, g.1, showKv a b h.2 g.2, Bool.and_self]
theorem dictText_le (ps : List Str) : (dictText ps).length ≤ (ps.map (·.length)).sum + 2 * ps.length + 4 := by
  cases ps with
  | nil => decide +kernel
  | cons p ps =>
    have h := join_length_add (p :: ps) (by simp)
    have e : ∀ l : List Str, piled l = (l.map (·.length)).sum + 2 * l.length := fun l => by
      induction l with
      | nil => rfl
      | cons x l ih => simp only [piled, List.map_cons, List.sum_cons, List.length_cons] at ih ⊢; omega
    rw [e] at h
    unfold dictText
    rw [strLen_append, strLen_append]
    have : ("{" : Str).length = 1 := rfl
    have : ("}" : Str).length = 1 := rfl
    omega
mutual
theorem shown_len : ∀ {v : PV} {d : PyData}, dat v = some d → PL.shw v = true → PL.shp v = true → d.shown.length ≤ PL.wt v ∧ d.showable = true
  | .non, d, h, p, q => by simp only [dat, Option.some.injEq] at h; subst h; exact ⟨by simp only [PyData.shown, PL.wt]; decide +kernel, by simp only [PyData.showable]⟩
  | .bl b, d, h, p, q => by simp only [dat, Option.some.injEq] at h; subst h; exact ⟨by simp only [PyData.shown, PL.wt]; cases b <;> decide +kernel, by simp only [PyData.showable]⟩
  | .int i, d, h, p, q => by
    simp only [dat, Option.some.injEq] at h; subst h
    simp only [PL.shw, decide_eq_true_eq] at p
    have hl := int_shown p
    refine ⟨?_, by simp only [PyData.showable]; exact decide_eq_true (by omega)⟩
    have := int_text_length_le (a := i) (k := 1900) (by decide) hl
    simp only [PyData.shown, PL.wt]
    show (Str.ofString (toString i)).length ≤ 1904
    have e : (Str.ofString (toString i)).length = (toString i).length := PySem.ofString_length _
    omega
  | .str s, d, h, p, q => by
    simp only [dat, Option.some.injEq] at h; subst h
    refine ⟨?_, by simp only [PyData.showable]⟩
    simp only [PyData.shown, PL.wt]
    simp only [PL.shw, List.all_eq_true, decide_eq_true_eq] at p
    have := PySem.StrLaws.reprText_len (toStr s) fun c hc => by
      have := p c (by simpa [toStr] using hc)
      exact Nat.lt_of_lt_of_le this (by decide)
    rw [toStr_len] at this
    exact this
  | .rep x, d, h, p, q => by
    simp only [dat, Option.map_eq_some_iff] at h
    obtain ⟨y, h, rfl⟩ := h
    simp only [PL.shw, PL.shp] at p q
    obtain ⟨h1, _⟩ := shown_len h p (repd_shp q)
    refine ⟨?_, by simp only [PyData.showable]⟩
    simp only [PyData.shown, PL.wt]
    have := PySem.StrLaws.reprText_len y.shown (repd_chs q h)
    show (reprText y.shown).length ≤ _
    omega
  | .tup xs, d, h, p, q => by
    simp only [dat, Option.map_eq_some_iff] at h
    obtain ⟨ds, h, rfl⟩ := h
    simp only [PL.shw, PL.shp] at p q
    obtain ⟨h1, h2⟩ := shown_lens h p q
    refine ⟨?_, by simp only [PyData.showable]; exact h2⟩
    simp only [PyData.shown, PL.wt]
    have := tupleText_len_le (PyData.shownAll ds)
    omega
  | .fl xs, d, h, p, q => by
    simp only [dat, Option.map_eq_some_iff] at h
    obtain ⟨ds, h, rfl⟩ := h
    simp only [PL.shw, PL.shp] at p q
    obtain ⟨h1, h2⟩ := shown_lens h p q
    refine ⟨?_, by simp only [PyData.showable]; exact h2⟩
    simp only [PyData.shown, PL.wt]
    have := listText_len_le (PyData.shownAll ds)
    omega
  | .fd ks vs, d, h, p, q => by
    simp only [dat, Option.bind_eq_some_iff, Option.map_eq_some_iff] at h
    obtain ⟨a, e1, b, e2, rfl⟩ := h
    simp only [PL.shw, PL.shp, Bool.and_eq_true, decide_eq_true_eq] at p q
    obtain ⟨a1, a2⟩ := shown_lens e1 p.1.1 q.1.2
    obtain ⟨b1, b2⟩ := shown_lens e2 p.1.2 q.2
    refine ⟨?_, by simp only [PyData.showable]; exact showKv a b a2 b2⟩
    simp only [PyData.shown, PL.wt]
    have h1 := dictText_le (PyData.shownKv (a.zip b))
    have h2 := kv_len a b (by rw [dats_len e1, dats_len e2, p.2])
    omega
  | .ref _, d, h, p, q => by simp [PL.shp] at q
  | .ct _, d, h, p, q => by simp [PL.shp] at q
  | .cl _, d, h, p, q => by simp [PL.shp] at q
theorem shown_lens : ∀ {xs : List PV} {ds : List PyData}, dats xs = some ds → PL.shws xs = true → PL.shps xs = true → ((PyData.shownAll ds).map (·.length)).sum + 2 * (PyData.shownAll ds).length ≤ PL.wts xs ∧ PyData.showableAll ds = true
  | [], ds, h, p, q => by simp only [dats, Option.some.injEq] at h; subst h; simp [PyData.shownAll, PyData.showableAll, PL.wts]
  | x :: xs, ds, h, p, q => by
    simp only [dats, Option.bind_eq_some_iff, Option.map_eq_some_iff] at h
    obtain ⟨d1, e1, ds, e2, rfl⟩ := h
    simp only [PL.shws, PL.shps, Bool.and_eq_true] at p q
    obtain ⟨a1, a2⟩ := shown_len e1 p.1 q.1
    obtain ⟨b1, b2⟩ := shown_lens e2 p.2 q.2
    refine ⟨?_, by simp only [PyData.showableAll, a2, b2, Bool.and_self]⟩
    simp only [PyData.shownAll, List.map_cons, List.sum_cons, List.length_cons, PL.wts]
    omega
end
/-! ### what the heap tells of such data -/
section
variable {X : Cx} {pins : List (Addr × Obj)} {σ : L2.St} {H : Hp} {s : Shared} {ρ : List Addr} {M : PL.Mem}
def Sys (hp : Heap) (as : List Addr) : Prop := sysModules ∈ as → Clear1 hp
theorem Sys.app {hp : Heap} {a b : List Addr} (h : Sys hp a) (g : Sys hp b) : Sys hp (a ++ b) := fun m => (List.mem_append.mp m).elim h g
theorem Sys.lst {hp : Heap} {a : Addr} {as : List Addr} {ob : Obj} (h : Sys hp as) (e : hp.get? a = some ob) (c : ob.cls = .type "list") : Sys hp (a :: as) := fun m => by
  rcases List.mem_cons.mp m with rfl | m
  · intro o2 es ep e2 c2 _
    rw [e] at e2
    obtain rfl := Option.some.inj e2
    rw [c] at c2
    exact absurd c2 (by decide)
  · exact h m
theorem Sys.dct {hp : Heap} {a : Addr} {as : List Addr} (h : Sys hp as) (e : (a == sysModules) = false) : Sys hp (a :: as) := fun m => by
  rcases List.mem_cons.mp m with z | m
  · rw [z] at e; simp at e
  · exact h m
/-- the keys and values of a dict, as the heap has them -/
theorem dK_reads (I : Inv X pins σ H s) {a : Addr} {kvs : List (L2.Key × V)} (e : Rd H a (.dK kvs)) : (a == sysModules) = false ∧ ∃ (ob : Obj) (es : Array DictEntry) (ep : Nat), s.heap.get? a = some ob ∧ ob.cls = .type "dict" ∧ ob.data = .dict es ep ∧
    Vals (kvs.map fun p => kV p.1) (es.toList.map (·.key)) ∧ Vals (kvs.map (·.2)) (es.toList.map (·.val)) := by
  obtain ⟨_, hs, vs, rel, ob, es, ep, h1, h2, h3, _, pr, _⟩ := dk_rd I.hok e
  refine ⟨hs, ob, es, ep, h1, h2.1, h3, ?_, ?_⟩
  · have go : ∀ {kvs : List (L2.Key × V)} {vs : List (L2.Key × Value)} {l : List DictEntry}, KV kvs vs → Pairs (mixKind X.prog X.w) l vs → Vals (kvs.map fun p => kV p.1) (l.map (·.key)) := by
      intro kvs vs l r
      unfold KV at r
      induction r generalizing l with
      | nil => intro p; cases p; exact .nil
      | cons q t ih =>
        intro p
        cases p with
        | cons p1 p2 p3 =>
          rw [List.map_cons, List.map_cons]
          refine .cons ?_ (ih p3)
          rw [q.1]
          exact keyIs_rel p1
    exact go rel pr
  · have go : ∀ {kvs : List (L2.Key × V)} {vs : List (L2.Key × Value)} {l : List DictEntry}, KV kvs vs → Pairs (mixKind X.prog X.w) l vs → Vals (kvs.map (·.2)) (l.map (·.val)) := by
      intro kvs vs l r
      unfold KV at r
      induction r generalizing l with
      | nil => intro p; cases p; exact .nil
      | cons q t ih =>
        intro p
        cases p with
        | cons p1 p2 p3 =>
          rw [List.map_cons, List.map_cons]
          refine .cons ?_ (ih p3)
          rw [p2]
          exact q.2
    exact go rel pr
end
/-- the keys of a dict that is read -/
theorem keys_rd {f : Nat → Option PV} : ∀ {ks ks' : List PV} {kvs : List (L2.Key × V)}, ks.map keyK = kvs.map (fun kv => some kv.1) → PL.rdWs f ks = some ks' → ks' = ks ∧ ∃ ds, dats ks = some ds ∧ ∀ (us : List Value), Vals (kvs.map fun p => kV p.1) us → ∀ hp : Heap, ∃ as, ReadsAll hp us ds as ∧ as = []
  | [], ks', [], _, e => by
    simp only [PL.rdWs, Option.some.injEq] at e
    subst e
    exact ⟨rfl, [], by simp only [dats], fun us r hp => by rw [List.map_nil] at r; cases r; exact ⟨[], .nil, rfl⟩⟩
  | [], _, _ :: _, h, _ => by simp at h
  | _ :: _, _, [], h, _ => by simp at h
  | k :: ks, ks', p :: kvs, h, e => by
    simp only [List.map_cons, List.cons.injEq] at h
    simp only [PL.rdWs, Option.bind_eq_some_iff, Option.map_eq_some_iff] at e
    obtain ⟨a, e1, b, e2, rfl⟩ := e
    obtain ⟨rfl, ds, h1, h2⟩ := keys_rd h.2 e2
    have hk := h.1
    cases k with
    | int i =>
      simp only [keyK, Option.some.injEq] at hk
      simp only [PL.rdW, Option.some.injEq] at e1
      subst e1
      refine ⟨rfl, .int i :: ds, by simp only [dats, dat, h1, Option.bind_some, Option.map_some], fun us r hp => ?_⟩
      rw [List.map_cons] at r
      cases r with
      | cons r1 r2 =>
        rw [← hk] at r1
        obtain ⟨t, rfl⟩ := r1
        obtain ⟨as, g, rfl⟩ := h2 _ r2 hp
        exact ⟨_, .cons (.int i t) g, rfl⟩
    | str x =>
      simp only [keyK, Option.some.injEq] at hk
      simp only [PL.rdW, Option.some.injEq] at e1
      subst e1
      refine ⟨rfl, .str (toStr x) :: ds, by simp only [dats, dat, h1, Option.bind_some, Option.map_some], fun us r hp => ?_⟩
      rw [List.map_cons] at r
      cases r with
      | cons r1 r2 =>
        rw [← hk] at r1
        obtain ⟨t, rfl⟩ := r1
        obtain ⟨as, g, rfl⟩ := h2 _ r2 hp
        exact ⟨_, .cons (.str _ t) g, rfl⟩
    | _ => simp [keyK] at hk
section
variable {X : Cx} {pins : List (Addr × Obj)} {σ : L2.St} {H : Hp} {s : Shared} {ρ : List Addr} {M : PL.Mem}
/-- a datum that is told, as the heap has it -/
abbrev Told (X : Cx) (s : Shared) (v' : PV) (w : Value) : Prop := ∃ d as, dat v' = some d ∧ Reads s.heap w d as ∧ Sys s.heap as
abbrev Tolds (X : Cx) (s : Shared) (vs : List PV) (ws : List Value) : Prop := ∃ ds as, dats vs = some ds ∧ ReadsAll s.heap ws ds as ∧ Sys s.heap as
theorem dct_told (I : Inv X pins σ H s) {a : Addr} {kvs : List (L2.Key × V)} {ks ks' vs' : List PV} {f : Nat → Option PV} (h1 : Rd H a (.dK kvs)) (h2 : ks.map keyK = kvs.map (fun kv => some kv.1)) (e1 : PL.rdWs f ks = some ks') (hv : ∀ ws, Vals (kvs.map (·.2)) ws → Tolds X s vs' ws) : Told X s (.fd ks' vs') (.ref a) := by
  obtain ⟨lo, ob, es, ep, g1, g2, g3, g4, g5⟩ := dK_reads I h1
  obtain ⟨rfl, ds, d1, d2⟩ := keys_rd h2 e1
  obtain ⟨as, r1, rfl⟩ := d2 _ g4 s.heap
  obtain ⟨es2, bs, d3, r2, s2⟩ := hv _ g5
  have l1 := dats_len d1
  have l2 := dats_len d3
  have lk : ds.length = es2.length := by
    have m1 : ∀ {us : List Value} {ds : List PyData} {as : List Addr}, ReadsAll s.heap us ds as → us.length = ds.length := by
      intro us ds as r
      induction us generalizing ds as with
      | nil => cases r; rfl
      | cons u us ih => cases r with | cons a b => rw [List.length_cons, List.length_cons, ih b]
    have q1 := m1 r1
    have q2 := m1 r2
    rw [List.length_map] at q1 q2
    omega
  have z1 : (ds.zip es2).map (·.1) = ds := List.map_fst_zip (Nat.le_of_eq lk)
  have z2 : (ds.zip es2).map (·.2) = es2 := List.map_snd_zip (Nat.le_of_eq lk.symm)
  refine ⟨.dict (ds.zip es2), a :: [] ++ bs, by simp only [dat, d1, d3, Option.bind_some, Option.map_some], .dict g1 g2 g3 (by rw [z1]; exact r1) (by rw [z2]; exact r2), ?_⟩
  exact Sys.dct s2 lo
mutual
theorem told_W (I : Inv X pins σ H s) {f : Nat → Option PV} (hf : ∀ i v' u w, f i = some v' → PL.shp v' = true → RepV X.K ρ H (.ref i) u → RelV u w → Told X s v' w) :
    ∀ {v v' : PV} {u : V} {w : Value}, RepV X.K ρ H v u → PL.rdW f v = some v' → PL.shp v' = true → RelV u w → Told X s v' w
  | .ref i, v', u, w, r, e, p, rw_ => hf i v' u w (by simpa only [PL.rdW] using e) p r rw_
  | .non, v', u, w, r, e, p, rw_ => by
    simp only [PL.rdW, Option.some.injEq] at e; subst e
    simp only [RepV] at r; subst r
    cases rw_
    exact ⟨.none, [], by simp only [dat], .none, fun m => nomatch m⟩
  | .bl b, v', u, w, r, e, p, rw_ => by
    simp only [PL.rdW, Option.some.injEq] at e; subst e
    simp only [RepV] at r; subst r
    cases rw_
    exact ⟨.bool b, [], by simp only [dat], .bool b, fun m => nomatch m⟩
  | .int i, v', u, w, r, e, p, rw_ => by
    simp only [PL.rdW, Option.some.injEq] at e; subst e
    simp only [RepV] at r; subst r
    obtain ⟨t, rfl⟩ := rw_
    exact ⟨.int i, [], by simp only [dat], .int i t, fun m => nomatch m⟩
  | .str x, v', u, w, r, e, p, rw_ => by
    simp only [PL.rdW, Option.some.injEq] at e; subst e
    simp only [RepV] at r; subst r
    obtain ⟨t, rfl⟩ := rw_
    exact ⟨.str _, [], by simp only [dat], .str _ t, fun m => nomatch m⟩
  | .rep x, v', u, w, r, e, p, rw_ => by
    simp only [PL.rdW, Option.some.injEq] at e; subst e
    simp only [RepV] at r
    obtain ⟨pd, h, rfl⟩ := r
    obtain ⟨t, rfl⟩ := rw_
    exact ⟨.str pd.shown, [], by simp only [dat, h, Option.map_some], .str _ t, fun m => nomatch m⟩
  | .tup xs, v', u, w, r, e, p, rw_ => by
    simp only [PL.rdW, Option.map_eq_some_iff] at e
    obtain ⟨ys, e, rfl⟩ := e
    simp only [RepV] at r
    obtain ⟨a, o, us, rfl, h1, _, _, rs⟩ := r
    cases rw_
    simp only [PL.shp] at p
    obtain ⟨its, rv, ⟨ob, g1, g2, n, g3⟩, _⟩ := I.tuple (show SqT X.K H a us from .inl (.inr ⟨o, h1⟩))
    obtain ⟨ds, as, d1, d2, d3⟩ := told_Ws I hf rs e p rv
    exact ⟨.tuple ds, as, by simp only [dat, d1, Option.map_some], .tuple g1 g2 g3 (by simpa using d2), d3⟩
  | .fl xs, v', u, w, r, e, p, rw_ => by
    simp only [PL.rdW, Option.map_eq_some_iff] at e
    obtain ⟨ys, e, rfl⟩ := e
    simp only [RepV] at r
    obtain ⟨a, us, rfl, h1, _, rs⟩ := r
    cases rw_
    simp only [PL.shp] at p
    obtain ⟨its, rv, ⟨ob, n, g1, g2, _, g3⟩, _⟩ := I.list (show SqL X.K H a us from .inl (.inl h1))
    obtain ⟨ds, as, d1, d2, d3⟩ := told_Ws I hf rs e p rv
    exact ⟨.list ds, a :: as, by simp only [dat, d1, Option.map_some], .list g1 g2 g3 (by simpa using d2), d3.lst g1 g2⟩
  | .fd ks vs, v', u, w, r, e, p, rw_ => by
    simp only [PL.rdW, Option.bind_eq_some_iff, Option.map_eq_some_iff] at e
    obtain ⟨ks', e1, vs', e2, rfl⟩ := e
    simp only [PL.shp, Bool.and_eq_true] at p
    simp only [RepV] at r
    rcases r with ⟨a, kvs, rfl, h1, _, h2, rs⟩ | ⟨a, kvs, rfl, h1, _, h2, r1, rs, h3⟩
    · cases rw_
      exact dct_told I h1 h2 e1 fun ws hw => told_Ws I hf rs e2 p.2 hw
    · cases kvs with
      | nil => exact absurd rfl h3
      | cons q kvs =>
        subst h2
        rw [List.map_cons] at e1
        simp only [PL.rdWs, Option.bind_eq_some_iff, Option.map_eq_some_iff, keyTV, PL.rdW] at e1
        obtain ⟨x, ⟨y, _, rfl⟩, z, _, rfl⟩ := e1
        have := p.1.1
        simp [PL.keyish] at this
  | .ct xs, v', u, w, r, e, p, rw_ => by
    simp only [PL.rdW, Option.some.injEq] at e; subst e
    simp [PL.shp] at p
  | .cl xs, v', u, w, r, e, p, rw_ => by
    simp only [PL.rdW, Option.some.injEq] at e; subst e
    simp [PL.shp] at p
theorem told_Ws (I : Inv X pins σ H s) {f : Nat → Option PV} (hf : ∀ i v' u w, f i = some v' → PL.shp v' = true → RepV X.K ρ H (.ref i) u → RelV u w → Told X s v' w) :
    ∀ {xs ys : List PV} {us : List V} {ws : List Value}, RepVs X.K ρ H xs us → PL.rdWs f xs = some ys → PL.shps ys = true → Vals us ws → Tolds X s ys ws
  | [], ys, us, ws, r, e, p, rw_ => by
    simp only [PL.rdWs, Option.some.injEq] at e; subst e
    obtain rfl := r.inv0
    cases rw_
    exact ⟨[], [], by simp only [dats], .nil, fun m => nomatch m⟩
  | x :: xs, ys, us, ws, r, e, p, rw_ => by
    simp only [PL.rdWs, Option.bind_eq_some_iff, Option.map_eq_some_iff] at e
    obtain ⟨a, e1, b, e2, rfl⟩ := e
    simp only [PL.shps, Bool.and_eq_true] at p
    obtain ⟨u, t, rfl, h1, h2⟩ := r.inv
    cases rw_ with
    | cons q1 q2 =>
      obtain ⟨d, as, d1, d2, d3⟩ := told_W I hf h1 e1 p.1 q1
      obtain ⟨ds, bs, d4, d5, d6⟩ := told_Ws I hf h2 e2 p.2 q2
      exact ⟨d :: ds, as ++ bs, by simp only [dats, d1, d4, Option.bind_some, Option.map_some], .cons d2 d5, d3.app d6⟩
end
theorem told_rd (I : Inv X pins σ H s) (k : RepM X.K ρ H M) : ∀ (n : Nat) {v v' : PV} {u : V} {w : Value}, RepV X.K ρ H v u → PL.rd M n v = some v' → PL.shp v' = true → RelV u w → Told X s v' w
  | 0, v, v', u, w, r, e, p, q => told_W I (f := fun _ => none) (fun _ _ _ _ z => nomatch z) r (by simpa only [PL.rd] using e) p q
  | n + 1, v, v', u, w, r, e, p, q => by
    simp only [PL.rd] at e
    refine told_W I ?_ r e p q
    intro i v' u w e p r q
    split at e
    · rename_i xs hm
      simp only [Option.map_eq_some_iff] at e
      obtain ⟨ys, e, rfl⟩ := e
      obtain ⟨a, us, h1, h2, rs⟩ := k.lst hm
      simp only [RepV] at r
      obtain ⟨b, h3, rfl⟩ := r
      rw [h1] at h3; obtain rfl := Option.some.inj h3
      cases q
      simp only [PL.shp] at p
      obtain ⟨its, rv, ⟨ob, m, g1, g2, _, g3⟩, _⟩ := I.list (show SqL X.K H a us from .inl (.inl h2))
      obtain ⟨ds, as, d1, d2, d3⟩ := told_Ws I (fun j z t x e p r q => told_rd I k n r e p q) rs e p rv
      exact ⟨.list ds, a :: as, by simp only [dat, d1, Option.map_some], .list g1 g2 g3 (by simpa using d2), d3.lst g1 g2⟩
    · rename_i lk ks vs hm
      simp only [Option.bind_eq_some_iff, Option.map_eq_some_iff] at e
      obtain ⟨ks', e1, vs', e2, rfl⟩ := e
      simp only [PL.shp, Bool.and_eq_true] at p
      simp only [RepV] at r
      obtain ⟨b, h3, rfl⟩ := r
      cases q
      cases lk with
      | false =>
        obtain ⟨a, kvs, h1, h2, h4, rs⟩ := k.dct hm
        rw [h1] at h3; obtain rfl := Option.some.inj h3
        exact dct_told I (.inl h2) h4 e1 fun ws hw => told_Ws I (fun j z t x e p r q => told_rd I k n r e p q) rs e2 p.2 hw
      | true =>
        obtain ⟨a, kvs, h1, h2, h4, r1, rs⟩ := k.dctT hm
        rw [h1] at h3; obtain rfl := Option.some.inj h3
        cases kvs with
        | nil =>
          subst h4
          simp only [List.map_nil, PL.rdWs, Option.some.injEq] at e1
          subst e1
          obtain rfl : vs = [] := by
            cases vs with
            | nil => rfl
            | cons _ _ => obtain ⟨_, _, z, _⟩ := rs.inv; simp at z
          simp only [PL.rdWs, Option.some.injEq] at e2
          subst e2
          obtain ⟨_, lo, ob, es, ep, g1, g2, g3, g4, _⟩ := dt_raw I (.inl h2)
          have : es.toList = [] := by
            have : es.toList.length = 0 := by rw [Array.length_toList]; exact g4
            exact List.length_eq_zero_iff.mp this
          exact ⟨.dict [], a :: [] ++ [], by simp [dat, dats], .dict g1 g2.1 g3 (by rw [this]; exact .nil) (by rw [this]; exact .nil), Sys.dct (fun m => nomatch m) lo⟩
        | cons q kvs =>
          subst h4
          rw [List.map_cons] at e1
          simp only [PL.rdWs, Option.bind_eq_some_iff, Option.map_eq_some_iff, keyTV] at e1
          obtain ⟨x, ex, z, _, rfl⟩ := e1
          have hx : ∃ y, x = .tup y := by
            cases n with
            | zero => simp [PL.rd, PL.rdW] at ex; obtain ⟨y, _, rfl⟩ := ex; exact ⟨_, rfl⟩
            | succ n => simp [PL.rd, PL.rdW] at ex; obtain ⟨y, _, rfl⟩ := ex; exact ⟨_, rfl⟩
          obtain ⟨y, rfl⟩ := hx
          have := p.1.1
          simp [PL.keyish] at this
    · cases e
end
section
variable {X : Cx} {mk : Mk} {E : EXC}
theorem pr_repr (hu : X.A.units + 200 < cLine) (hg : X.A.guards = some []) : CallR X (.builtin "repr") (rP X.K mk E .repr) := by
  rintro pins s σ H xs us Q I r ⟨ρ, M, vs, k, rs, h⟩
  rcases prim_cases rs h with ⟨x, u, rfl, rfl, rx, h⟩ | ⟨x, y, u, w, rfl, rfl, rx, ry, h⟩
  · change Post X.K mk (RepV X.K) E ρ H Q (PL.pRepr M x) at h
    unfold PL.pRepr at h
    split at h
    · rename_i v' e
      split at h
      · rename_i hp
        simp only [Bool.and_eq_true, Bool.or_eq_true, decide_eq_true_eq] at hp
        obtain ⟨⟨⟨p0, p2⟩, p3⟩, p4⟩ := hp
        have p1 : PL.shp v' = true := p0.elim plain_shp id
        obtain ⟨v, rfl, rv⟩ := vals1 r
        obtain ⟨d, as, e1, rd, sy⟩ := told_rd I k.rep _ rx e p1 rv
        obtain ⟨h1, h2⟩ := shown_len e1 p2 p1
        have hz : d.shown.length ≤ sizeLine := by rw [SZ_eq] at p3; omega
        have hdep := dat_dep e1
        have q : Q (.str d.shown) H := h.ok k (by simp only [RepV]; exact ⟨d, e1, rfl⟩)
        have go : ∀ {b : Addr}, Reads s.heap (.ref b) d as → wpAny (model X.prog X.w) X.A (call (.builtin "repr") [.ref b]) (EP X pins σ Q) X.xe s := fun {b} rd =>
          reprs_one sy rd h2 hg (by omega) (fun h' t tk kp => ⟨.str _, H, I.kept kp, ⟨_, rfl⟩, q⟩) hz
        cases rd with
        | none => exact PySem.P.repr_of_none ⟨.str _, H, I.tok _, ⟨_, rfl⟩, by simpa only [PyData.shown] using q⟩
        | bool b => exact PySem.P.repr_of_bool ⟨.str _, H, I.tok _, ⟨_, rfl⟩, by simpa only [PyData.shown] using q⟩
        | int i t =>
          refine PySem.P.repr_of_int ?_ ⟨.str _, H, I.tok _, ⟨_, rfl⟩, by simpa only [PyData.shown] using q⟩
          simpa [PyData.showable] using h2
        | str y t => exact PySem.P.repr_of_str ⟨.str _, H, I.tok _, ⟨_, rfl⟩, by simpa only [PyData.shown] using q⟩ (by simpa only [PyData.shown] using hz)
        | list g1 g2 g3 g4 => exact go (.list g1 g2 g3 g4)
        | tuple g1 g2 g3 g4 => exact go (.tuple g1 g2 g3 g4)
        | dict g1 g2 g3 g4 g5 => exact go (.dict g1 g2 g3 g4 g5)
      · exact h.elim
    · exact h.elim
  · exact h.elim
theorem isI_plains : ∀ {xs : List PV}, xs.all PL.isI = true → PL.norefs xs = true ∧ PL.plains xs = true ∧ PL.deps xs = 0
  | [], _ => by simp [PL.norefs, PL.plains, PL.deps]
  | x :: xs, h => by
    rw [List.all_cons, Bool.and_eq_true] at h
    obtain ⟨h1, h2, h3⟩ := isI_plains h.2
    have : PL.noref x = true ∧ PL.plain x = true ∧ PL.dep x = 0 := by cases x <;> simp [PL.isI] at h <;> simp [PL.noref, PL.plain, PL.dep]
    refine ⟨?_, ?_, ?_⟩
    · simp only [PL.norefs, this.1, h1, Bool.and_self]
    · simp only [PL.plains, this.2.1, h2, Bool.and_self]
    · simp only [PL.deps, this.2.2, h3, Nat.max_self]
theorem isI_rd {f : Nat → Option PV} : ∀ {xs : List PV}, xs.all PL.isI = true → PL.rdWs f xs = some xs
  | [], _ => by simp [PL.rdWs]
  | x :: xs, h => by
    rw [List.all_cons, Bool.and_eq_true] at h
    have : PL.rdW f x = some x := by cases x <;> simp [PL.isI] at h <;> simp [PL.rdW]
    simp only [PL.rdWs, this, isI_rd h.2, Option.bind_some, Option.map_some]
theorem pr_str (hu : X.A.units + 200 < cLine) (hg : X.A.guards = some []) : CallR X (.type "str") (rP X.K mk E .str) := by
  rintro pins s σ H xs us Q I r ⟨ρ, M, vs, k, rs, h⟩
  rcases prim_cases rs h with ⟨x, u, rfl, rfl, rx, h⟩ | ⟨x, y, u, w, rfl, rfl, _, _, h⟩
  · change Post X.K mk (RepV X.K) E ρ H Q (PL.pStr M x) at h
    unfold PL.pStr at h
    split at h
    · rename_i i h0
      split at h
      · rename_i hz
        simp only [RepV] at rx
        subst rx
        have hl : i.natAbs.log2 < 1900 := PySem.Flt.log2_lt_of (by decide) hz
        exact call_str_int pins s σ H _ us Q I r ⟨i, rfl, by omega, h.ok k (by simp only [RepV]; exact ⟨.int i, rfl, by rw [PyData.shown_int]⟩)⟩
      · exact h.elim
    · rename_i ys _
      split at h
      · rename_i hp
        simp only [Bool.and_eq_true, decide_eq_true_eq] at hp
        obtain ⟨⟨p1, p2⟩, p3⟩ := hp
        obtain ⟨n1, n2, n3⟩ := isI_plains p1
        obtain ⟨v, rfl, rv⟩ := vals1 r
        have e : PL.rd M 0 (.tup ys) = some (.tup ys) := by simp only [PL.rd, PL.rdW, isI_rd p1, Option.map_some]
        have pp : PL.plain (.tup ys) = true := by simp only [PL.plain]; exact n2
        obtain ⟨d, as, e1, rd, sy⟩ := told_rd I k.rep _ rx e (plain_shp pp) rv
        obtain ⟨h1, h2⟩ := shown_len e1 (by simp only [PL.shw]; exact p2) (plain_shp pp)
        have hz : d.shown.length ≤ sizeLine := by rw [SZ_eq] at p3; omega
        have hdep := dat_dep e1
        have hdp : PL.dep (.tup ys) = 1 := by simp only [PL.dep, n3]
        have hdd : d.hasDict = false := PyData.hasDict_of_canLay d (dat_lay e1 pp)
        have q : Q (.str d.shown) H := h.ok k (by simp only [RepV]; exact ⟨d, e1, rfl⟩)
        simp only [dat, Option.map_eq_some_iff] at e1
        obtain ⟨ds, _, rfl⟩ := e1
        cases rd with
        | tuple g1 g2 g3 g4 =>
          exact str_of_reads (.tuple g1 g2 g3 g4) h2 (PyData.noDict_hsm hdd) hg (by omega) (fun _ _ e => e) (fun h' t tk kp => ⟨.str _, H, I.kept kp, ⟨_, rfl⟩, q⟩) hz
      · exact h.elim
    · exact h.elim
  · exact h.elim
end
end PLS

/-! PLS8: methods, stores. -/
namespace PLS
open PySem PySem.Spec PyProof.Rows L2

/-! ### dicts -/
theorem any_keys {x : PV} {k : L2.Key} (hx : keyK x = some k) : ∀ {ks : List PV} {kvs : List (L2.Key × V)}, ks.map keyK = kvs.map (fun kv => some kv.1) → (ks.any fun z => decide (z = x)) = kvs.any fun kv => decide (kv.1 = k)
  | [], kvs, h => by
    have : kvs = [] := by cases kvs with | nil => rfl | cons a b => simp at h
    subst this; rfl
  | z :: ks, [], h => by simp at h
  | z :: ks, p :: kvs, h => by
    simp only [List.map_cons, List.cons.injEq] at h
    rw [List.any_cons, List.any_cons, any_keys hx h.2]
    congr 1
    refine decide_eq_decide.mpr ⟨fun e => ?_, fun e => ?_⟩
    · subst e; exact Option.some.inj (h.1.symm.trans hx)
    · exact keyK_inj (h.1.trans (by rw [e])) hx
theorem putAll_rep {K : PySem.W.Frag} {ρ : List Addr} {H : Hp} {x y : PV} {u : V} {k : L2.Key} (hx : keyK x = some k) (ry : RepV K ρ H y u) : ∀ {ks vs : List PV} {kvs : List (L2.Key × V)}, ks.map keyK = kvs.map (fun kv => some kv.1) → RepVs K ρ H vs (kvs.map (·.2)) →
    RepVs K ρ H (PL.putAll ks vs x y) ((kvs.map fun kv => if kv.1 = k then (kv.1, u) else kv).map (·.2))
  | [], vs, kvs, h, r => by
    have : kvs = [] := by cases kvs with | nil => rfl | cons a b => simp at h
    subst this; simpa [PL.putAll] using RepVs.nil
  | z :: ks, vs, [], h, r => by simp at h
  | z :: ks, [], p :: kvs, h, r => by have := r.inv0; simp at this
  | z :: ks, v :: vs, p :: kvs, h, r => by
    simp only [List.map_cons, List.cons.injEq] at h
    obtain ⟨w, t, e, r1, r2⟩ := r.inv
    simp only [List.map_cons, List.cons.injEq] at e
    obtain ⟨rfl, rfl⟩ := e
    simp only [PL.putAll, List.map_cons]
    refine .cons ?_ (putAll_rep hx ry h.2 r2)
    by_cases e : z = x
    · subst e
      have e2 : p.1 = k := Option.some.inj (h.1.symm.trans hx)
      rw [if_pos rfl, if_pos e2]; exact ry
    · have e2 : ¬ p.1 = k := fun q => e (keyK_inj (h.1.trans (by rw [q])) hx)
      rw [if_neg e, if_neg e2]; exact r1
theorem dput_rep {K : PySem.W.Frag} {ρ : List Addr} {H : Hp} {x y : PV} {u : V} {k : L2.Key} (hx : keyK x = some k) (ry : RepV K ρ H y u) {ks vs : List PV} {kvs : List (L2.Key × V)} (h : ks.map keyK = kvs.map (fun kv => some kv.1)) (r : RepVs K ρ H vs (kvs.map (·.2))) :
    (PL.dputV ks vs x y).1.map keyK = (putK kvs k u).map (fun kv => some kv.1) ∧ RepVs K ρ H (PL.dputV ks vs x y).2 ((putK kvs k u).map (·.2)) := by
  unfold PL.dputV putK
  rw [any_keys hx h]
  by_cases e : (kvs.any fun kv => decide (kv.1 = k)) = true
  · rw [if_pos e, if_pos e]
    refine ⟨?_, putAll_rep hx ry h r⟩
    rw [h, List.map_map]
    refine List.map_congr_left fun p _ => ?_
    simp only [Function.comp]
    by_cases e2 : p.1 = k
    · rw [if_pos e2]
    · rw [if_neg e2]
  · rw [if_neg e, if_neg e]
    refine ⟨by simp [h, hx], ?_⟩
    rw [List.map_append]
    exact r.append (.cons ry .nil)
theorem putK_new {kvs : List (L2.Key × V)} {k : L2.Key} {u : V} (h : valV kvs k = none) : putK kvs k u = kvs ++ [(k, u)] := by
  unfold putK
  rw [if_neg]
  unfold valV at h
  simp only [Option.map_eq_none_iff, List.find?_eq_none] at h
  simp only [List.any_eq_true, not_exists, not_and]
  exact fun p hp => h p hp

/-! ### methods -/
def rtName : PL.RT → String
  | .list => "list"
  | .tuple => "tuple"
  | .dict => "dict"
def mtName : PL.Mt → String
  | .append => "append"
  | .extend => "extend"
  | .pop => "pop"
  | .popAt => "pop"
  | .insert => "insert"
  | .count => "count"
  | .index => "index"
  | .get => "get"
  | .setdefault => "setdefault"
  | .reverse => "reverse"
def mtId : PL.RT → PL.Mt → String
  | .list, .append => "list.append"
  | .list, .extend => "list.extend"
  | .list, .pop => "list.pop"
  | .list, .popAt => "list.pop"
  | .list, .insert => "list.insert"
  | .list, .count => "list.count"
  | .list, .index => "list.index"
  | .list, .reverse => "list.reverse"
  | .tuple, .count => "tuple.count"
  | .tuple, .index => "tuple.index"
  | .dict, .get => "dict.get"
  | .dict, .setdefault => "dict.setdefault"
  | _, _ => ""
/-- a value that may have such a type -/
def xT : PL.RT → PV → Prop
  | .tuple, x => ∃ xs, x = .tup xs
  | .list, x => (∃ xs, x = .fl xs) ∨ ∃ i, x = .ref i
  | .dict, x => (∃ ks vs, x = .fd ks vs) ∨ ∃ i, x = .ref i
theorem tyR_xT {M : PL.Mem} {x : PV} {T : PL.RT} (h : PL.tyR M x = some T) : xT T x := by
  unfold PL.tyR at h
  split at h
  · obtain rfl := Option.some.inj h; exact ⟨_, rfl⟩
  · obtain rfl := Option.some.inj h; exact .inl ⟨_, rfl⟩
  · obtain rfl := Option.some.inj h; exact .inl ⟨_, _, rfl⟩
  · split at h
    · obtain rfl := Option.some.inj h; exact .inr ⟨_, rfl⟩
    · obtain rfl := Option.some.inj h; exact .inr ⟨_, rfl⟩
    · cases h
  · cases h
theorem mt_facts : ∀ (T : PL.RT) (m : PL.Mt), PL.hasM m T = true → PlainAttrs (rtName T) ∧ Slot (rtName T) (Str.ofString (mtName m)) (mtId T m) ∧ typeOf (.builtin (mtId T m)) = pure (.type "method_descriptor")
  | .list, .append, _ => ⟨PySem.F.plainAttrs_list, PySem.F.slot_list_append, PySem.F.type_list_append⟩
  | .list, .extend, _ => ⟨PySem.F.plainAttrs_list, PySem.F.slot_list_extend, PySem.F.type_list_extend⟩
  | .list, .pop, _ => ⟨PySem.F.plainAttrs_list, PySem.F.slot_list_pop, PySem.F.type_list_pop⟩
  | .list, .popAt, _ => ⟨PySem.F.plainAttrs_list, PySem.F.slot_list_pop, PySem.F.type_list_pop⟩
  | .list, .insert, _ => ⟨PySem.F.plainAttrs_list, PySem.F.slot_list_insert, PySem.F.type_list_insert⟩
  | .list, .count, _ => ⟨PySem.F.plainAttrs_list, PySem.F.slot_list_count, PySem.F.type_list_count⟩
  | .list, .index, _ => ⟨PySem.F.plainAttrs_list, PySem.F.slot_list_index, PySem.F.type_list_index⟩
  | .list, .reverse, _ => ⟨PySem.F.plainAttrs_list, PySem.F.slot_list_reverse, PySem.F.type_list_reverse⟩
  | .tuple, .count, _ => ⟨PySem.F.plainAttrs_tuple, PySem.F.slot_tuple_count, PySem.F.type_tuple_count⟩
  | .tuple, .index, _ => ⟨PySem.F.plainAttrs_tuple, PySem.F.slot_tuple_index, PySem.F.type_tuple_index⟩
  | .dict, .get, _ => ⟨PySem.F.plainAttrs_dict, PySem.F.slot_dict_get, PySem.F.type_dict_get⟩
  | .dict, .setdefault, _ => ⟨PySem.F.plainAttrs_dict, PySem.F.slot_dict_setdefault, PySem.F.type_dict_setdefault⟩
  | .list, .get, h => by simp [PL.hasM] at h
  | .list, .setdefault, h => by simp [PL.hasM] at h
  | .tuple, .append, h => by simp [PL.hasM] at h
  | .tuple, .extend, h => by simp [PL.hasM] at h
  | .tuple, .pop, h => by simp [PL.hasM] at h
  | .tuple, .popAt, h => by simp [PL.hasM] at h
  | .tuple, .insert, h => by simp [PL.hasM] at h
  | .tuple, .get, h => by simp [PL.hasM] at h
  | .tuple, .setdefault, h => by simp [PL.hasM] at h
  | .tuple, .reverse, h => by simp [PL.hasM] at h
  | .dict, .append, h => by simp [PL.hasM] at h
  | .dict, .extend, h => by simp [PL.hasM] at h
  | .dict, .pop, h => by simp [PL.hasM] at h
  | .dict, .popAt, h => by simp [PL.hasM] at h
  | .dict, .insert, h => by simp [PL.hasM] at h
  | .dict, .count, h => by simp [PL.hasM] at h
  | .dict, .index, h => by simp [PL.hasM] at h
  | .dict, .reverse, h => by simp [PL.hasM] at h
section
variable {X : Cx} {mk : Mk} {E : EXC} {pins : List (Addr × Obj)} {σ : L2.St} {H : Hp} {s : Shared} {M : PL.Mem} {ρ : List Addr}
/-- the type of what is called upon -/
theorem tyR_at (I : Inv X pins σ H s) (k : RepM X.K ρ H M) {x : PV} {u : V} {v : Value} {T : PL.RT} (r : RepV X.K ρ H x u) (q : RelV u v) (h : PL.tyR M x = some T) :
    s.TypeIs v (rtName T) ∧ ∀ a, v = .ref a → ∃ ob, s.heap.get? a = some ob ∧ ob.dict = none := by
  have hL : ∀ {a : Addr} {us : List V}, H a = some (.lst us) → v = .ref a → s.TypeIs v "list" ∧ ∀ b, v = .ref b → ∃ ob, s.heap.get? b = some ob ∧ ob.dict = none := fun {a us} e ev => by
    obtain ⟨z, its, n, _, e2⟩ := I.hok a _ e
    subst ev
    exact ⟨⟨_, e2, rfl⟩, fun b hb => by cases hb; exact ⟨_, e2, rfl⟩⟩
  have hD : ∀ {a : Addr} {kvs : List (L2.Key × V)}, Rd H a (.dK kvs) → v = .ref a → s.TypeIs v "dict" ∧ ∀ b, v = .ref b → ∃ ob, s.heap.get? b = some ob ∧ ob.dict = none := fun {a kvs} e ev => by
    subst ev
    obtain ⟨t1, t2, _⟩ := isD_at I (show IsD H a from .inl ⟨_, e⟩)
    exact ⟨t1, t2⟩
  unfold PL.tyR at h
  split at h
  · obtain rfl := Option.some.inj h
    simp only [RepV] at r
    obtain ⟨a, o, us, rfl, h1, h2, n, _⟩ := r
    cases q
    obtain ⟨e, _⟩ := I.hok a _ h1
    exact ⟨⟨o, e, h2.1⟩, fun b hb => by cases hb; exact ⟨o, e, h2.2⟩⟩
  · obtain rfl := Option.some.inj h
    simp only [RepV] at r
    obtain ⟨a, us, rfl, h1, n, _⟩ := r
    cases q
    exact hL h1 rfl
  · obtain rfl := Option.some.inj h
    simp only [RepV] at r
    rcases r with ⟨a, kvs, rfl, h1, n, _⟩ | ⟨a, kvs, rfl, h1, n, _⟩
    · cases q
      exact hD h1 rfl
    · cases q
      exact dt_typeIs I h1
  · rename_i i
    split at h
    · rename_i xs e
      obtain rfl := Option.some.inj h
      obtain ⟨a, us, h1, h2, h3⟩ := k.lst e
      simp only [RepV] at r
      obtain ⟨b, h4, rfl⟩ := r
      rw [h1] at h4; obtain rfl := Option.some.inj h4
      cases q
      exact hL h2 rfl
    · rename_i lk ks vs e
      obtain rfl := Option.some.inj h
      simp only [RepV] at r
      obtain ⟨b, h4, rfl⟩ := r
      cases lk with
      | false =>
        obtain ⟨a, kvs, h1, h2, h3⟩ := k.dct e
        rw [h1] at h4; obtain rfl := Option.some.inj h4
        cases q
        exact hD (.inl h2) rfl
      | true =>
        obtain ⟨a, kvs, h1, h2, h3⟩ := k.dctT e
        rw [h1] at h4; obtain rfl := Option.some.inj h4
        cases q
        exact dt_typeIs I (.inl h2)
    · cases h
  · cases h

def rMt (K : PySem.W.Frag) (mk : Mk) (E : EXC) (T : PL.RT) (m : PL.Mt) : V → List V → Hp → VK → Prop := fun u us H Q => ∃ ρ M x vs, Ok K mk ρ H M ∧ RepV K ρ H x u ∧ RepVs K ρ H vs us ∧ xT T x ∧ Post K mk (RepV K) E ρ H Q (PL.meth mk M m x vs)
theorem meth_cases {K : PySem.W.Frag} {m : PL.Mt} {x : PV} {vs : List PV} {us : List V} {Q : VK} (r : RepVs K ρ H vs us) (h : Post K mk (RepV K) E ρ H Q (PL.meth mk M m x vs)) :
    (vs = [] ∧ us = [] ∧ Post K mk (RepV K) E ρ H Q (PL.meth0 M m x)) ∨ (∃ y w, vs = [y] ∧ us = [w] ∧ RepV K ρ H y w ∧ Post K mk (RepV K) E ρ H Q (PL.meth1 mk M m x y)) ∨
      ∃ y z w t, vs = [y, z] ∧ us = [w, t] ∧ RepV K ρ H y w ∧ RepV K ρ H z t ∧ Post K mk (RepV K) E ρ H Q (PL.meth2 mk M m x y z) := by
  unfold PL.meth at h
  split at h
  · exact .inl ⟨rfl, r.inv0, h⟩
  · obtain ⟨u, t, rfl, r1, r2⟩ := r.inv
    rw [r2.inv0]
    exact .inr (.inl ⟨_, u, rfl, rfl, r1, h⟩)
  · obtain ⟨u, t, rfl, r1, r2⟩ := r.inv
    obtain ⟨w, t', rfl, r3, r4⟩ := r2.inv
    rw [r4.inv0]
    exact .inr (.inr ⟨_, _, u, w, rfl, rfl, r1, r3, h⟩)
  · exact h.elim
end
end PLS

/-! PLS9: the methods. -/
namespace PLS
open PySem PySem.Spec PyProof.Rows L2

theorem belows_sub {mk : Nat} {xs ys : List PV} (h : belows mk xs = true) (s : ∀ y ∈ ys, y ∈ xs) : belows mk ys = true :=
  belows_iff.mpr fun y hy => belows_iff.mp h y (s y hy)
theorem belows_snoc {mk : Nat} {xs : List PV} {v : PV} (h : belows mk xs = true) (hv : below mk v = true) : belows mk (xs ++ [v]) = true :=
  belows_append h (by simp only [belows, hv, Bool.and_self])
theorem below_wOk_ {mk : Mk} {i m : Nat} {v : PV} (h : PL.wOk mk i v = true) (hi : mk.In i m) : below m v = true := by
  unfold PL.wOk at h
  rw [Bool.or_eq_true] at h
  rcases h with h | h
  · exact absurd (of_decide_eq_true h) (Nat.not_le.mpr hi.lt)
  · exact below_of_noref m h
theorem belows_tup {mk : Mk} {i m : Nat} {xs : List PV} (h : PL.wOk mk i (.tup xs) = true) (hi : mk.In i m) : belows m xs = true := by
  have := below_wOk_ h hi
  simpa only [below] using this
section
variable {K : PySem.W.Frag} {mk : Mk} {ρ : List Addr} {H : Hp} {M : PL.Mem} {E : EXC} {Q : VK} {i m : Nat} {a : Addr} {xs ys : List PV} {us ws : List V}
theorem Ok.lstBel (k : Ok K mk ρ H M) (e : M[i]? = some (.lst xs)) (hi : mk.In i m) : belows m xs = true := by
  have := k.bel m hi.1 i _ hi.2 e
  simpa only [belowO] using this
theorem Ok.dctBel {lk : Bool} {ks vs : List PV} (k : Ok K mk ρ H M) (e : M[i]? = some (.dct lk ks vs)) (hi : mk.In i m) : belows m ks = true ∧ belows m vs = true := by
  have := k.bel m hi.1 i _ hi.2 e
  simpa only [belowO, Bool.and_eq_true] using this
theorem ref_at {u : V} (r : RepV K ρ H (.ref i) u) : ∃ a, ρ[i]? = some a ∧ u = .ref a := by simpa only [RepV] using r
/-- a live list is changed; r is given -/
theorem post_lst {v : PV} {u : V} (h : Post K mk (RepV K) E ρ H Q (.ok v (M.set i (.lst ys)))) (k : Ok K mk ρ H M) (ha : ρ[i]? = some a) (rs : RepVs K ρ H ys ws) (rv : RepV K ρ H v u) (hb : ∀ {m}, mk.In i m → belows m ys = true) : Q u (upd H a (.lst ws)) :=
  h.okx (Ext.write ha) (k.write ha ⟨ws, rfl, rs⟩ hb) (rv.ext (Ext.write ha))
theorem post_dct {v : PV} {u : V} {ks vs : List PV} {kvs : List (L2.Key × V)} (h : Post K mk (RepV K) E ρ H Q (.ok v (M.set i (.dct false ks vs)))) (k : Ok K mk ρ H M) (ha : ρ[i]? = some a) (h1 : ks.map keyK = kvs.map (fun kv => some kv.1)) (h2 : RepVs K ρ H vs (kvs.map (·.2)))
    (rv : RepV K ρ H v u) (hb : ∀ {m}, mk.In i m → belows m ks = true ∧ belows m vs = true) : Q u (upd H a (.dK kvs)) :=
  h.okx (Ext.write ha) (k.write ha ⟨kvs, rfl, h1, h2⟩ fun hi => by simp only [belowO, Bool.and_eq_true]; exact hb hi) (rv.ext (Ext.write ha))
theorem rep_non : RepV K ρ H .non .non := by simp only [RepV]
theorem lenR {o : V} (h : RepVs K ρ H xs us) : xs.length = us.length := h.length
end
section
variable {X : Cx} {mk : Mk} {E : EXC}
theorem mt_appendP : MtR X "list.append" (rMt X.K mk E .list .append) := by
  rintro pins s σ H u us v vs Q I ru rus ⟨ρ, M, x, ys, k, rx, rs, xt, h⟩
  rcases meth_cases rs h with ⟨rfl, rfl, h⟩ | ⟨y, w, rfl, rfl, ry, h⟩ | ⟨y, z, w, t, rfl, rfl, ry, rz, h⟩
  · unfold PL.meth0 at h; split at h <;> first | (rename_i e _; cases e) | exact h.elim
  · rcases xt with ⟨xs, rfl⟩ | ⟨i, rfl⟩
    · exact h.elim
    · change Post X.K mk (RepV X.K) E ρ H Q (PL.mAppend mk M i y) at h
      unfold PL.mAppend at h
      split at h
      · rename_i xs e
        split at h
        · rename_i hw
          rw [Bool.and_eq_true, decide_eq_true_eq] at hw
          obtain ⟨a, ws, h1, h2, h3⟩ := k.rep.lst e
          obtain ⟨b, h4, rfl⟩ := ref_at rx
          rw [h1] at h4; obtain rfl := Option.some.inj h4
          exact mt_append pins s σ H _ _ v vs Q I ru rus ⟨a, ws, w, rfl, rfl, h2, by rw [← h3.length, ← SZ_eq]; exact hw.2, post_lst h k h1 (h3.append (.cons ry .nil)) rep_non fun hi => belows_snoc (k.lstBel e hi) (below_wOk_ hw.1 hi)⟩
        · exact h.elim
      · exact h.elim
  · exact h.elim
theorem mt_extendP : MtR X "list.extend" (rMt X.K mk E .list .extend) := by
  rintro pins s σ H u us v vs Q I ru rus ⟨ρ, M, x, ys, k, rx, rs, xt, h⟩
  rcases meth_cases rs h with ⟨rfl, rfl, h⟩ | ⟨y, w, rfl, rfl, ry, h⟩ | ⟨y, z, w, t, rfl, rfl, ry, rz, h⟩
  · exact h.elim
  · rcases xt with ⟨xs, rfl⟩ | ⟨i, rfl⟩
    · exact h.elim
    · change Post X.K mk (RepV X.K) E ρ H Q (PL.mExtend mk M i y) at h
      unfold PL.mExtend at h
      split at h
      · rename_i xs zs e e2
        split at h
        · rename_i hw
          rw [Bool.and_eq_true, decide_eq_true_eq] at hw
          obtain ⟨a, ws, h1, h2, h3⟩ := k.rep.lst e
          obtain ⟨b, h4, rfl⟩ := ref_at rx
          rw [h1] at h4; obtain rfl := Option.some.inj h4
          obtain ⟨c, ts, rfl, h5, h6⟩ := llst_rep k.rep ry e2
          exact mt_extend pins s σ H _ _ v vs Q I ru rus ⟨a, c, ws, ts, rfl, rfl, h2, h5, by rw [← h3.length, ← h6.length, ← SZ_eq]; exact hw.2, post_lst h k h1 (h3.append h6) rep_non fun hi => belows_append (k.lstBel e hi) (belows_tup hw.1 hi)⟩
        · exact h.elim
      · exact h.elim
  · exact h.elim
theorem mt_popP : MtR X "list.pop" (rMt X.K mk E .list .pop) := by
  rintro pins s σ H u us v vs Q I ru rus ⟨ρ, M, x, ys, k, rx, rs, xt, h⟩
  rcases meth_cases rs h with ⟨rfl, rfl, h⟩ | ⟨y, w, rfl, rfl, ry, h⟩ | ⟨y, z, w, t, rfl, rfl, ry, rz, h⟩
  · rcases xt with ⟨xs, rfl⟩ | ⟨i, rfl⟩
    · exact h.elim
    · change Post X.K mk (RepV X.K) E ρ H Q (PL.mPop M i) at h
      unfold PL.mPop at h
      split at h
      · rename_i xs e
        split at h
        · rename_i y e2
          obtain ⟨a, ws, h1, h2, h3⟩ := k.rep.lst e
          obtain ⟨b, h4, rfl⟩ := ref_at rx
          rw [h1] at h4; obtain rfl := Option.some.inj h4
          rw [List.getLast?_eq_getElem?] at e2
          obtain ⟨u, hu, r⟩ := h3.get e2
          rw [h3.length] at hu
          refine mt_pop pins s σ H _ _ v vs Q I ru rus ⟨a, ws, u, rfl, rfl, h2, hu, post_lst h k h1 ?_ r fun hi => belows_sub (k.lstBel e hi) fun y hy => List.dropLast_subset _ hy⟩
          rw [List.dropLast_eq_take, List.dropLast_eq_take, h3.length]
          exact h3.take _
        · exact h.elim
      · exact h.elim
  · exact h.elim
  · exact h.elim
theorem mt_reverseP : MtR X "list.reverse" (rMt X.K mk E .list .reverse) := by
  rintro pins s σ H u us v vs Q I ru rus ⟨ρ, M, x, ys, k, rx, rs, xt, h⟩
  rcases meth_cases rs h with ⟨rfl, rfl, h⟩ | ⟨y, w, rfl, rfl, ry, h⟩ | ⟨y, z, w, t, rfl, rfl, ry, rz, h⟩
  · rcases xt with ⟨xs, rfl⟩ | ⟨i, rfl⟩
    · exact h.elim
    · change Post X.K mk (RepV X.K) E ρ H Q (PL.mReverse M i) at h
      unfold PL.mReverse at h
      split at h
      · rename_i xs e
        obtain ⟨a, ws, h1, h2, h3⟩ := k.rep.lst e
        obtain ⟨b, h4, rfl⟩ := ref_at rx
        rw [h1] at h4; obtain rfl := Option.some.inj h4
        exact mt_reverse pins s σ H _ _ v vs Q I ru rus ⟨a, ws, rfl, rfl, h2, post_lst h k h1 h3.reverse rep_non fun hi => belows_sub (k.lstBel e hi) fun y hy => List.mem_reverse.mp hy⟩
      · exact h.elim
  · exact h.elim
  · exact h.elim
theorem nIx_lt {n : Nat} {i : Int} {j : Nat} (h : PL.nIx n i = some j) : seqIndex? i n = some j ∧ j < n ∧ -(n : Int) ≤ i ∧ i < n := ixN_seq (by rw [← nIx_eq]; exact h)
theorem RepVs.eraseIdx {K : PySem.W.Frag} {ρ : List Addr} {H : Hp} : ∀ {xs : List PV} {us : List V} (i : Nat), RepVs K ρ H xs us → RepVs K ρ H (xs.eraseIdx i) (us.eraseIdx i)
  | [], us, i, h => by rw [h.inv0]; exact .nil
  | _ :: _, us, 0, h => by
    obtain ⟨w, r, e, h1, t⟩ := h.inv
    subst e; exact t
  | _ :: _, us, i + 1, h => by
    obtain ⟨w, r, e, h1, t⟩ := h.inv
    subst e; exact .cons h1 (RepVs.eraseIdx i t)
theorem mt_popAtP : MtR X "list.pop" (rMt X.K mk E .list .popAt) := by
  rintro pins s σ H u us v vs Q I ru rus ⟨ρ, M, x, ys, k, rx, rs, xt, h⟩
  rcases meth_cases rs h with ⟨rfl, rfl, h⟩ | ⟨y, w, rfl, rfl, ry, h⟩ | ⟨y, z, w, t, rfl, rfl, ry, rz, h⟩
  · exact h.elim
  · rcases xt with ⟨xs, rfl⟩ | ⟨i, rfl⟩
    · exact h.elim
    · cases y with
      | int n =>
        change Post X.K mk (RepV X.K) E ρ H Q (PL.mPopAt M i n) at h
        simp only [RepV] at ry
        subst ry
        unfold PL.mPopAt at h
        split at h
        · rename_i xs e
          split at h
          · rename_i p e2
            obtain ⟨a, ws, h1, h2, h3⟩ := k.rep.lst e
            obtain ⟨b, h4, rfl⟩ := ref_at rx
            rw [h1] at h4; obtain rfl := Option.some.inj h4
            simp only [Option.bind_eq_some_iff, Option.map_eq_some_iff] at e2
            obtain ⟨j, e3, y, e4, rfl⟩ := e2
            obtain ⟨q1, q2, q3, q4⟩ := nIx_lt e3
            obtain ⟨u, hu, r⟩ := h3.get e4
            have hz := (I.lstM h2).1
            rw [← h3.length, sizeLine_eq] at hz
            refine mt_popAt pins s σ H _ _ v vs Q I ru rus ⟨a, ws, n, j, u, rfl, rfl, h2, by omega, by omega, by rw [← h3.length]; exact q1, hu, post_lst h k h1 (h3.eraseIdx j) r fun hi => belows_sub (k.lstBel e hi) fun y hy => List.mem_of_mem_eraseIdx hy⟩
          · exact h.elim
        · exact h.elim
      | _ => exact h.elim
  · exact h.elim
theorem mt_insertP : MtR X "list.insert" (rMt X.K mk E .list .insert) := by
  rintro pins s σ H u us v vs Q I ru rus ⟨ρ, M, x, ys, k, rx, rs, xt, h⟩
  rcases meth_cases rs h with ⟨rfl, rfl, h⟩ | ⟨y, w, rfl, rfl, ry, h⟩ | ⟨y, z, w, t, rfl, rfl, ry, rz, h⟩
  · exact h.elim
  · exact h.elim
  · rcases xt with ⟨xs, rfl⟩ | ⟨i, rfl⟩
    · exact h.elim
    · cases y with
      | int n =>
        change Post X.K mk (RepV X.K) E ρ H Q (PL.mInsert mk M i n z) at h
        simp only [RepV] at ry
        subst ry
        unfold PL.mInsert at h
        split at h
        · rename_i xs e
          split at h
          · rename_i hw
            simp only [Bool.and_eq_true, decide_eq_true_eq] at hw
            obtain ⟨⟨⟨w1, w2⟩, w3⟩, w4⟩ := hw
            obtain ⟨a, ws, h1, h2, h3⟩ := k.rep.lst e
            obtain ⟨b, h4, rfl⟩ := ref_at rx
            rw [h1] at h4; obtain rfl := Option.some.inj h4
            have hz := (I.lstM h2).1
            rw [← h3.length, sizeLine_eq] at hz
            refine mt_insert pins s σ H _ _ v vs Q I ru rus ⟨a, ws, n, t, rfl, rfl, h2, by rw [← h3.length, ← SZ_eq]; exact w2, w3, by omega, ?_⟩
            refine post_lst h k h1 ?_ rep_non fun hi => ?_
            · rw [List.append_assoc]
              exact (h3.take _).append (.cons rz (h3.drop _))
            · refine belows_append (belows_sub (k.lstBel e hi) fun y hy => List.mem_of_mem_take hy) ?_
              simp only [belows, Bool.and_eq_true]
              exact ⟨below_wOk_ w1 hi, belows_sub (k.lstBel e hi) fun y hy => List.mem_of_mem_drop hy⟩
          · exact h.elim
        · exact h.elim
      | _ => exact h.elim
theorem mt_getP (hu : X.A.units + 200 < cLine) : MtR X "dict.get" (rMt X.K mk E .dict .get) := by
  rintro pins s σ H u us v vs Q I ru rus ⟨ρ, M, x, ys, k, rx, rs, xt, h⟩
  have go : ∀ y w d t, RepV X.K ρ H y w → RepV X.K ρ H d t → Post X.K mk (RepV X.K) E ρ H Q (PL.mGet M x y d) → ∃ b o, u = .ref b ∧ (DGet H b w o ∨ TGet H b w o) ∧ Q (o.getD t) H := fun y w d t ry rd h => by
    unfold PL.mGet at h
    split at h
    · rename_i p e
      split at h
      · rename_i hk
        obtain ⟨tt, pks, pvs⟩ := p
        cases tt with
        | true =>
          obtain ⟨b, kvs, rfl, hd, rfl, hrk, hvs⟩ := dkeysT_rep k.rep rx e
          obtain ⟨is, c, ob, rfl, rfl, hb⟩ := keyT_rep ry hk
          refine ⟨b, valT kvs is, rfl, .inr ⟨kvs, is, c, ob, hd, keysAt_rep hrk, rfl, hb, rfl⟩, ?_⟩
          change Post X.K mk (RepV X.K) E ρ H Q (.ok ((PL.dgetV (kvs.map keyTV) pvs (.tup (is.map PL.V.int))).getD d) M) at h
          rcases tget_rep is hvs with ⟨e2, e3⟩ | ⟨v, u, e2, e3, r⟩
          · rw [e2] at h; rw [e3]; exact h.ok k rd
          · rw [e2] at h; rw [e3]; exact h.ok k r
        | false => ?_
        obtain ⟨b, kvs, rfl, hd, hks, hvs⟩ := dkeys_rep k.rep rx e
        obtain ⟨kk, e1, rfl⟩ := key_rep ry hk
        refine ⟨b, valV kvs kk, rfl, .inl (dget_of hd), ?_⟩
        change Post X.K mk (RepV X.K) E ρ H Q (.ok ((PL.dgetV pks pvs y).getD d) M) at h
        rcases dget_rep hks hvs e1 with ⟨e2, e3⟩ | ⟨v, u, e2, e3, r⟩
        · rw [e2] at h; rw [e3]; exact h.ok k rd
        · rw [e2] at h; rw [e3]; exact h.ok k r
      · exact h.elim
    · exact h.elim
  rcases meth_cases rs h with ⟨rfl, rfl, h⟩ | ⟨y, w, rfl, rfl, ry, h⟩ | ⟨y, z, w, t, rfl, rfl, ry, rz, h⟩
  · rcases xt with ⟨_, _, rfl⟩ | ⟨i, rfl⟩ <;> exact h.elim
  · have h' : Post X.K mk (RepV X.K) E ρ H Q (PL.mGet M x y .non) := by rcases xt with ⟨_, _, rfl⟩ | ⟨i, rfl⟩ <;> exact h
    obtain ⟨b, o, rfl, g, q⟩ := go y w .non .non ry rep_non h'
    obtain ⟨v1, rfl, rv⟩ := rus.one
    cases ru
    rcases g with g | g
    · exact d_get1 (by omega) I g rv fun w' s' I' rw' => ⟨_, H, I', rw', q⟩
    · exact t_get1 (by omega) I g rv fun w' s' I' rw' => ⟨_, H, I', rw', q⟩
  · have h' : Post X.K mk (RepV X.K) E ρ H Q (PL.mGet M x y z) := by rcases xt with ⟨_, _, rfl⟩ | ⟨i, rfl⟩ <;> exact h
    obtain ⟨b, o, rfl, g, q⟩ := go y w z t ry rz h'
    obtain ⟨v1, v2, rfl, rv, rv2⟩ := rus.two
    cases ru
    rcases g with g | g
    · exact d_get2 (by omega) I g rv rv2 fun w' s' I' rw' => ⟨_, H, I', rw', q⟩
    · exact t_get2 (by omega) I g rv rv2 fun w' s' I' rw' => ⟨_, H, I', rw', q⟩
theorem mt_setdP (hu : X.A.units + 200 < cLine) : MtR X "dict.setdefault" (rMt X.K mk E .dict .setdefault) := by
  rintro pins s σ H u us v vs Q I ru rus ⟨ρ, M, x, ys, k, rx, rs, xt, h⟩
  rcases meth_cases rs h with ⟨rfl, rfl, h⟩ | ⟨y, w, rfl, rfl, ry, h⟩ | ⟨y, z, w, t, rfl, rfl, ry, rz, h⟩
  · rcases xt with ⟨_, _, rfl⟩ | ⟨i, rfl⟩ <;> exact h.elim
  · rcases xt with ⟨_, _, rfl⟩ | ⟨i, rfl⟩ <;> exact h.elim
  · rcases xt with ⟨_, _, rfl⟩ | ⟨i, rfl⟩
    · exact h.elim
    · change Post X.K mk (RepV X.K) E ρ H Q (PL.mSetd mk M i y z) at h
      unfold PL.mSetd at h
      split at h
      · rename_i tt ks vs' e
        split at h
        · rename_i hw
          rw [Bool.and_eq_true, decide_eq_true_eq] at hw
          obtain ⟨v1, v2, rfl, rv, rv2⟩ := rus.two
          cases tt with
          | true =>
            obtain ⟨a, kvs, h1, h2, rfl, h3, h5⟩ := k.rep.dctT e
            obtain ⟨b, h4, rfl⟩ := ref_at rx
            rw [h1] at h4; obtain rfl := Option.some.inj h4
            obtain ⟨is, c, ob, rfl, rfl, hb⟩ := keyT_rep ry hw.1
            cases ru
            cases rv
            have hl : kvs.length < sizeLine := by
              have := hw.2
              rw [List.length_map, SZ_eq] at this
              exact this
            refine t_setd (by omega) I h2 (keysAt_rep h3) hb rv2 hl (fun v0 ev w' s' I' rw' => ⟨_, H, I', rw', ?_⟩) fun en s' I' => ⟨_, _, I', rv2, ?_⟩
            · rcases tget_rep is h5 with ⟨e2, e3⟩ | ⟨v, u, e2, e3, r⟩
              · rw [ev] at e3; cases e3
              · rw [ev] at e3
                obtain rfl := Option.some.inj e3
                rw [e2] at h
                exact h.ok k r
            · rcases tget_rep is h5 with ⟨e2, e3⟩ | ⟨v, u, e2, e3, r⟩
              · rw [e2] at h
                simp only at h
                split at h
                · rename_i hw2
                  rw [Bool.and_eq_true] at hw2
                  have hnew : (kvs.any fun p => decide (p.1 = is)) = false := by rw [valT_any, en]; rfl
                  have hp : putT kvs is c t = kvs ++ [(is, c, t)] := by unfold putT; rw [hnew]; rfl
                  rw [hp]
                  refine h.okx (Ext.write h1) (k.write h1 ⟨kvs ++ [(is, c, t)], rfl, by rw [List.map_append]; rfl, ?_, ?_⟩ fun hi => ?_) (rz.ext (Ext.write h1))
                  · rw [List.map_append]; exact h3.append (.cons ry .nil)
                  · rw [List.map_append]; exact h5.append (.cons rz .nil)
                  · simp only [belowO, Bool.and_eq_true]
                    exact ⟨belows_snoc (k.dctBel e hi).1 (below_wOk_ hw2.1 hi), belows_snoc (k.dctBel e hi).2 (below_wOk_ hw2.2 hi)⟩
                · exact h.elim
              · rw [en] at e3; cases e3
          | false =>
          obtain ⟨a, kvs, h1, h2, h3, h5⟩ := k.rep.dct e
          obtain ⟨b, h4, rfl⟩ := ref_at rx
          rw [h1] at h4; obtain rfl := Option.some.inj h4
          obtain ⟨kk, e1, rfl⟩ := key_rep ry hw.1
          cases ru
          have hl : kvs.length < sizeLine := by
            have := congrArg List.length h3
            rw [List.length_map, List.length_map] at this
            rw [← this, ← SZ_eq]; exact hw.2
          refine d_setd I h2 rv rv2 hl (fun v0 ev w' s' I' rw' => ⟨_, H, I', rw', ?_⟩) fun en w' s' I' rw' => ⟨_, _, I', rw', ?_⟩
          · rcases dget_rep h3 h5 e1 with ⟨e2, e3⟩ | ⟨v, u, e2, e3, r⟩
            · rw [ev] at e3; cases e3
            · rw [ev] at e3
              obtain rfl := Option.some.inj e3
              rw [e2] at h
              exact h.ok k r
          · rcases dget_rep h3 h5 e1 with ⟨e2, e3⟩ | ⟨v, u, e2, e3, r⟩
            · rw [e2] at h
              simp only at h
              split at h
              · rename_i hw2
                rw [Bool.and_eq_true] at hw2
                rw [putK_new en]
                refine post_dct h k h1 (by simp [h3, e1]) ?_ rz fun hi => ⟨belows_snoc (k.dctBel e hi).1 (below_wOk_ hw2.1 hi), belows_snoc (k.dctBel e hi).2 (below_wOk_ hw2.2 hi)⟩
                rw [List.map_append]
                exact h5.append (.cons rz .nil)
              · exact h.elim
            · rw [en] at e3; cases e3
        · exact h.elim
      · exact h.elim
/-! ### count, index -/
theorem countM_all {M : PL.Mem} {x : PV} : ∀ {ys : List PV} {n : Nat}, PL.countM M x ys = some n → (∀ y ∈ ys, (PL.eqD M y x).isSome = true) ∧ n = ys.countP fun y => PL.eqD M y x == some true
  | [], n, h => by simp only [PL.countM, Option.some.injEq] at h; subst h; simp
  | y :: ys, n, h => by
    simp only [PL.countM, Option.bind_eq_some_iff, Option.map_eq_some_iff] at h
    obtain ⟨b, hb, m, hm, rfl⟩ := h
    obtain ⟨h1, h2⟩ := countM_all hm
    refine ⟨fun z hz => ?_, ?_⟩
    · rcases List.mem_cons.mp hz with rfl | hz
      · rw [hb]; rfl
      · exact h1 z hz
    · rw [List.countP_cons, ← h2, hb]
      cases b <;> simp
theorem indexM_all {M : PL.Mem} {x : PV} : ∀ {ys : List PV} {n : Option Nat}, PL.indexM M x ys = some n → (∀ y ∈ ys, (PL.eqD M y x).isSome = true) ∧ ∀ j, n = some j → ∃ y, ys[j]? = some y ∧ PL.eqD M y x = some true ∧ ∀ m z, m < j → ys[m]? = some z → PL.eqD M z x = some false
  | [], n, h => by simp only [PL.indexM, Option.some.injEq] at h; subst h; simp
  | y :: ys, n, h => by
    simp only [PL.indexM, Option.bind_eq_some_iff, Option.map_eq_some_iff] at h
    obtain ⟨b, hb, m, hm, rfl⟩ := h
    obtain ⟨h1, h2⟩ := indexM_all hm
    refine ⟨fun z hz => ?_, fun j hj => ?_⟩
    · rcases List.mem_cons.mp hz with rfl | hz
      · rw [hb]; rfl
      · exact h1 z hz
    · cases b with
      | true =>
        simp only [if_true, Option.some.injEq] at hj
        subst hj
        exact ⟨y, rfl, hb, fun m z hm => absurd hm (Nat.not_lt_zero _)⟩
      | false =>
        simp only [Bool.false_eq_true, if_false, Option.map_eq_some_iff] at hj
        obtain ⟨j', e, rfl⟩ := hj
        obtain ⟨w, a1, a2, a3⟩ := h2 j' e
        refine ⟨w, by simpa using a1, a2, fun m z hm hz => ?_⟩
        cases m with
        | zero => simp only [List.getElem?_cons_zero, Option.some.injEq] at hz; subst hz; exact hb
        | succ m => exact a3 m z (by omega) (by simpa using hz)
theorem countP_by {α β : Type} {p : α → Bool} {q : β → Bool} : ∀ {xs : List α} {ys : List β}, xs.length = ys.length → (∀ (i : Nat) x y, xs[i]? = some x → ys[i]? = some y → p x = q y) → xs.countP p = ys.countP q
  | [], [], _, _ => rfl
  | [], _ :: _, h, _ => by simp at h
  | _ :: _, [], h, _ => by simp at h
  | x :: xs, y :: ys, h, hs => by
    rw [List.countP_cons, List.countP_cons, countP_by (by simpa using h) fun i a b ha hb => hs (i + 1) a b (by simpa using ha) (by simpa using hb), hs 0 x y rfl rfl]
/-- what is asked of the items of a list or tuple -/
theorem count_run (hu : X.A.units + 200 < cLine) {T : PL.RT} (hT : T = .list ∨ T = .tuple) : MtR X (mtId T .count) (rMt X.K mk E T .count) := by
  rintro pins s σ H u us v vs Q I ru rus ⟨ρ, M, x, ys, k, rx, rs, xt, h⟩
  rcases meth_cases rs h with ⟨rfl, rfl, h⟩ | ⟨y, w, rfl, rfl, ry, h⟩ | ⟨y, z, w, t, rfl, rfl, ry, rz, h⟩
  · exact h.elim
  · obtain ⟨v1, rfl, rv⟩ := rus.one
    change Post X.K mk (RepV X.K) E ρ H Q (PL.mCount M x y) at h
    unfold PL.mCount at h
    split at h
    · rename_i n e
      simp only [Option.bind_eq_some_iff] at e
      obtain ⟨xs, e1, e2⟩ := e
      obtain ⟨hs, hn⟩ := countM_all e2
      have q : Q (.int (n : Nat)) H := h.ok k (by simp only [RepV])
      have fin : ∀ {p : Addr} {ts : List V} {its : List Value} (e : Value → Bool), RepVs X.K ρ H xs ts → Vals ts its → (∀ (i : Nat) (y' : PV) (v : Value), xs[i]? = some y' → its[i]? = some v → PL.eqD M y' y = some (e v)) → its.countP e = n := fun e r1 r2 hi => by
        rw [hn]
        refine (countP_by (by rw [r1.length, r2.length]) fun i a b ha hb => ?_).symm
        rw [hi i a b ha hb]
        cases e b <;> rfl
      rcases hT with rfl | rfl
      · have e1' : PL.litems M x = some xs := by
          rcases xt with ⟨zs, rfl⟩ | ⟨i, rfl⟩
          · exact e1
          · exact e1
        obtain ⟨p, ts, rfl, hq, r1⟩ := litems_rep k.rep rx e1'
        cases ru
        obtain ⟨its, r2, ⟨⟨cls, dd, data, sl⟩, m, ho, hc, hdn, hd⟩, hlen⟩ := I.list hq
        simp only at hc hd
        subst hc hd
        obtain ⟨e, he, hi⟩ := eqD_at (b := true) I k.rep hu ry rv r1 r2 hs
        refine call_meets PySem.F.slot_list_count ⟨_, ho, rfl⟩ PySem.F.entry_list_count (PySem.F.args_list_count_2 _ _) (SeqAt.list_countAt p its.toArray m dd sl v1 e) ⟨ho, fun y hy => he y (by simpa using hy), ?_⟩
        exact ⟨.int (n : Nat), H, I.tok _, ⟨s.toks, by rw [← fin (p := p) e r1 r2 hi]⟩, q⟩
      · obtain ⟨zs, rfl⟩ := xt
        obtain rfl : zs = xs := Option.some.inj e1
        obtain ⟨p, ts, rfl, hq, r1⟩ := rx.toTup
        cases ru
        obtain ⟨its, r2, pl, hlen⟩ := I.tuple hq
        obtain ⟨⟨cls, dd, data, sl⟩, ho, hc, m, hd⟩ := id pl
        simp only at hc hd
        subst hc hd
        obtain ⟨e, he, hi⟩ := eqD_at (b := true) I k.rep hu ry rv r1 r2 hs
        refine call_meets PySem.F.slot_tuple_count ⟨_, ho, rfl⟩ PySem.F.entry_tuple_count (PySem.F.args_tuple_count_2 _ _) (SeqAt.tuple_countAt p its.toArray m dd sl v1 e) ⟨ho, fun y hy => he y (by simpa using hy), ?_⟩
        exact ⟨.int (n : Nat), H, I.tok _, ⟨s.toks, by rw [← fin (p := p) e r1 r2 hi]⟩, q⟩
    · exact h.elim
  · rcases hT with rfl | rfl
    · rcases xt with ⟨zs, rfl⟩ | ⟨i, rfl⟩ <;> exact h.elim
    · obtain ⟨zs, rfl⟩ := xt; exact h.elim
theorem index_run (hu : X.A.units + 200 < cLine) {T : PL.RT} (hT : T = .list ∨ T = .tuple) : MtR X (mtId T .index) (rMt X.K mk E T .index) := by
  rintro pins s σ H u us v vs Q I ru rus ⟨ρ, M, x, ys, k, rx, rs, xt, h⟩
  rcases meth_cases rs h with ⟨rfl, rfl, h⟩ | ⟨y, w, rfl, rfl, ry, h⟩ | ⟨y, z, w, t, rfl, rfl, ry, rz, h⟩
  · exact h.elim
  · obtain ⟨v1, rfl, rv⟩ := rus.one
    change Post X.K mk (RepV X.K) E ρ H Q (PL.mIndex M x y) at h
    unfold PL.mIndex at h
    split at h
    · rename_i n e
      simp only [Option.bind_eq_some_iff] at e
      obtain ⟨xs, e1, e2⟩ := e
      obtain ⟨hs, hn⟩ := indexM_all e2
      obtain ⟨y0, y1, y2, y3⟩ := hn n rfl
      have q : Q (.int (n : Nat)) H := h.ok k (by simp only [RepV])
      have fin : ∀ {ts : List V} {its : List Value} (e : Value → Bool), RepVs X.K ρ H xs ts → Vals ts its → (∀ (i : Nat) (y' : PV) (v : Value), xs[i]? = some y' → its[i]? = some v → PL.eqD M y' y = some (e v)) →
          ∃ hj : n < its.toArray.size, e its.toArray[n] = true ∧ ∀ m (hm : m < its.toArray.size), m < n → e its.toArray[m] = false := fun {ts its} e r1 r2 hi => by
        have hl : xs.length = its.length := by rw [r1.length, r2.length]
        have hn0 : n < xs.length := (List.getElem?_eq_some_iff.mp y1).1
        refine ⟨by rw [List.size_toArray]; omega, ?_, fun m hm hmn => ?_⟩
        · have hv : its[n]? = some its[n] := List.getElem?_eq_getElem (by omega)
          have := hi n y0 _ y1 hv
          rw [y2] at this
          simpa using (Option.some.inj this).symm
        · rw [List.size_toArray] at hm
          have hv : its[m]? = some its[m] := List.getElem?_eq_getElem hm
          have hx : xs[m]? = some xs[m] := List.getElem?_eq_getElem (by omega)
          have := hi m _ _ hx hv
          rw [y3 m _ hmn hx] at this
          simpa using (Option.some.inj this).symm
      rcases hT with rfl | rfl
      · have e1' : PL.litems M x = some xs := by
          rcases xt with ⟨zs, rfl⟩ | ⟨i, rfl⟩
          · exact e1
          · exact e1
        obtain ⟨p, ts, rfl, hq, r1⟩ := litems_rep k.rep rx e1'
        cases ru
        obtain ⟨its, r2, ⟨⟨cls, dd, data, sl⟩, m, ho, hc, hdn, hd⟩, hlen⟩ := I.list hq
        simp only at hc hd
        subst hc hd
        obtain ⟨e, he, hi⟩ := eqD_at (b := true) I k.rep hu ry rv r1 r2 hs
        obtain ⟨hj, a1, a2⟩ := fin e r1 r2 hi
        have hl2 : its.length = ts.length := r2.length.symm
        have hj' := hj
        rw [List.size_toArray, hl2] at hj'
        rw [sizeLine_eq] at hlen
        refine call_meets PySem.F.slot_list_index ⟨_, ho, rfl⟩ PySem.F.entry_list_index (PySem.F.args_list_index_2 _ _) (SeqAt.list_indexAt p its.toArray m dd sl v1 e n hj (by omega) a1 a2) ⟨ho, fun y hy => he y (by simpa using hy), ?_⟩
        exact ⟨.int (n : Nat), H, I.tok _, ⟨s.toks, rfl⟩, q⟩
      · obtain ⟨zs, rfl⟩ := xt
        obtain rfl : zs = xs := Option.some.inj e1
        obtain ⟨p, ts, rfl, hq, r1⟩ := rx.toTup
        cases ru
        obtain ⟨its, r2, pl, hlen⟩ := I.tuple hq
        obtain ⟨⟨cls, dd, data, sl⟩, ho, hc, m, hd⟩ := id pl
        simp only at hc hd
        subst hc hd
        obtain ⟨e, he, hi⟩ := eqD_at (b := true) I k.rep hu ry rv r1 r2 hs
        obtain ⟨hj, a1, a2⟩ := fin e r1 r2 hi
        refine call_meets PySem.F.slot_tuple_index ⟨_, ho, rfl⟩ PySem.F.entry_tuple_index (PySem.F.args_tuple_index_2 _ _) (TI.tuple_indexAt p its.toArray m dd sl v1 e n hj a1 a2) ⟨ho, fun y hy => he y (by simpa using hy), ?_⟩
        exact ⟨.int (n : Nat), H, I.tok _, ⟨s.toks, rfl⟩, q⟩
    · exact h.elim
  · rcases hT with rfl | rfl
    · rcases xt with ⟨zs, rfl⟩ | ⟨i, rfl⟩ <;> exact h.elim
    · obtain ⟨zs, rfl⟩ := xt; exact h.elim
theorem mt_all (hu : X.A.units + 200 < cLine) : ∀ (T : PL.RT) (m : PL.Mt), PL.hasM m T = true → MtR X (mtId T m) (rMt X.K mk E T m)
  | .list, .append, _ => mt_appendP
  | .list, .extend, _ => mt_extendP
  | .list, .pop, _ => mt_popP
  | .list, .popAt, _ => mt_popAtP
  | .list, .insert, _ => mt_insertP
  | .list, .count, _ => count_run hu (.inl rfl)
  | .list, .index, _ => index_run hu (.inl rfl)
  | .list, .reverse, _ => mt_reverseP
  | .tuple, .count, _ => count_run hu (.inr rfl)
  | .tuple, .index, _ => index_run hu (.inr rfl)
  | .dict, .get, _ => mt_getP hu
  | .dict, .setdefault, _ => mt_setdP hu
  | .list, .get, h => by simp [PL.hasM] at h
  | .list, .setdefault, h => by simp [PL.hasM] at h
  | .tuple, .append, h => by simp [PL.hasM] at h
  | .tuple, .extend, h => by simp [PL.hasM] at h
  | .tuple, .pop, h => by simp [PL.hasM] at h
  | .tuple, .popAt, h => by simp [PL.hasM] at h
  | .tuple, .insert, h => by simp [PL.hasM] at h
  | .tuple, .get, h => by simp [PL.hasM] at h
  | .tuple, .setdefault, h => by simp [PL.hasM] at h
  | .tuple, .reverse, h => by simp [PL.hasM] at h
  | .dict, .append, h => by simp [PL.hasM] at h
  | .dict, .extend, h => by simp [PL.hasM] at h
  | .dict, .pop, h => by simp [PL.hasM] at h
  | .dict, .popAt, h => by simp [PL.hasM] at h
  | .dict, .insert, h => by simp [PL.hasM] at h
  | .dict, .count, h => by simp [PL.hasM] at h
  | .dict, .index, h => by simp [PL.hasM] at h
  | .dict, .reverse, h => by simp [PL.hasM] at h
end
end PLS

/-! PLS10: the rules of expressions. -/
namespace PLS
open PySem PySem.Spec PyProof.Rows L2

section
variable {X : Cx}
theorem OpR.ex {α : Type} {f : Value → Value → Sem Value} {r : α → R2} (h : ∀ a, OpR X f (r a)) : OpR X f (fun x y H Q => ∃ a, r a x y H Q) :=
  fun pins s σ H x y v u Q I rx ry ⟨a, q⟩ => h a pins s σ H x y v u Q I rx ry q
theorem CallR.ex {α : Type} {f : Value} {r : α → List V → Hp → VK → Prop} (h : ∀ a, CallR X f (r a)) : CallR X f (fun xs H Q => ∃ a, r a xs H Q) :=
  fun pins s σ H xs us Q I r ⟨a, q⟩ => h a pins s σ H xs us Q I r q
theorem SlR.ex {α : Type} {r : α → V → Option Int → Option Int → Hp → VK → Prop} (h : ∀ a, SlR X (r a)) : SlR X (fun x l u H Q => ∃ a, r a x l u H Q) :=
  fun pins s σ H x v vl vu lo hi sl Q I rx hs pl pu ⟨a, q⟩ => h a pins s σ H x v vl vu lo hi sl Q I rx hs pl pu q
theorem IxR.ex {α : Type} {r : α → R2} (h : ∀ a, IxR X (r a)) : IxR X (fun x y H Q => ∃ a, r a x y H Q) :=
  fun value slice pins s σ H x y v u Q I rx ry ⟨a, q⟩ hs => h a value slice pins s σ H x y v u Q I rx ry q hs
end
/-! ### what an expression is not -/
def special : Expr → Bool
  | .UnaryOp .Not _ _ => true
  | .BoolOp _ _ _ => true
  | .IfExp _ _ _ _ => true
  | .Compare _ _ _ _ => true
  | _ => false
theorem isTrue_of {x : Expr} (h : special x = false) (env : Env) (whole : Sem Value) : isTrue x env whole = (do let v ← whole; standAt x.pos; holding [v] (truthy v)) := by
  cases x with
  | UnaryOp op a p => cases op <;> first | rfl | simp [special] at h
  | BoolOp => simp [special] at h
  | IfExp => simp [special] at h
  | Compare => simp [special] at h
  | _ => rfl
def isStar : Expr → Bool
  | .Starred _ _ => true
  | _ => false
theorem starEach_of {e : Expr} {es : List Expr} (h : isStar e = false) (env : Env) : starEach (e :: es) env = (false, eval e env) :: starEach es env := by
  cases e <;> first | rfl | simp [isStar] at h
theorem backTo_plain {env : Env} {pos : Pos} : ∀ {es : List Expr}, es.any isStar = false → (backTo pos (starEach es env)).any (·.1) = false
  | [], _ => rfl
  | e :: es, h => by
    rw [List.any_cons, Bool.or_eq_false_iff] at h
    rw [starEach_of h.1]
    show ((false || (backTo pos (starEach es env)).any (·.1))) = false
    rw [backTo_plain h.2]; rfl
theorem backTo_all {env : Env} {pos : Pos} : ∀ {es : List Expr}, es.any isStar = false → (backTo pos (starEach es env)).all (fun x => !x.1) = true
  | [], _ => rfl
  | e :: es, h => by
    rw [List.any_cons, Bool.or_eq_false_iff] at h
    rw [starEach_of h.1]
    show ((true && (backTo pos (starEach es env)).all (fun x => !x.1))) = true
    rw [backTo_all h.2]; rfl
def isSet : Expr → Bool
  | .Set _ _ _ => true
  | _ => false
theorem folded_of {e : Expr} (h : isSet e = false) (env : Env) (x : Value) : foldedSetIterable e env x = pure x := by
  cases e <;> first | rfl | simp [isSet] at h
theorem behind_of {e : Expr} (h : isSet e = false) (op : CmpOp) : behindInMarks op e = false := by
  cases e <;> first | rfl | simp [isSet] at h
def isCall : Expr → Bool
  | .Call _ _ _ _ => true
  | _ => false
theorem base_of {e : Expr} (h : isCall e = false) (m : Str) (env : Env) (whole : Sem Value) : attributeBase e m env whole = whole := by
  cases e <;> first | rfl | simp [isCall] at h
def isSlice : Expr → Bool
  | .Slice _ _ _ _ => true
  | _ => false
theorem plainIx_of {e : Expr} (h : isSlice e = false) : PlainIx e := fun o i => by
  cases e <;> first | rfl | simp [isSlice] at h
theorem marks_of {b c : Expr} {o p : CmpOp} (h : isSet c = false) : lastMarks [o, p] [b, c] = false := behind_of h p

section
variable {X : Cx} {RX : RXT} {W : WX} {mk : Mk} {x a b c : Expr} {m ma mb mc : Mn PV} {pos p : Pos}
abbrev TI_ (RX : RXT) (X : Cx) (W : WX) (mk : Mk) (m : Mn PV) : TE := tI RX X.K W mk m
structure PEB (RX : RXT) (X : Cx) (W : WX) (mk : Mk) (x : Expr) (m : Mn PV) : Prop where
  v : PE X x (tI RX X.K W mk m)
  t : PT X x (tIb RX X.K W mk m)
theorem tIb_tB {σ : L2.St} {H : Hp} {Q : Bool → Hp → Prop} {K : PySem.W.Frag} (h : tIb RX K W mk m σ H Q) : tB (tI RX K W mk m) σ H Q := by
  obtain ⟨ρ, s, M, re, k, h⟩ := h
  refine ⟨ρ, s, M, re, k, Post.bind h fun v M1 ρ1 H1 u x1 k1 r1 h1 => ?_⟩
  cases v with
  | bl b =>
    simp only [RepV] at r1
    exact ⟨b, r1, h1.ok k1 rfl⟩
  | _ => exact h1.elim
theorem PEB.plain (h : PE X x (tI RX X.K W mk m)) (hs : special x = false) : PEB RX X W mk x m :=
  ⟨h, PT.imp (pt_val h (isTrue_of hs _)) fun _ _ _ q => tIb_tB q⟩
theorem bind_assoc {α β γ : Type} (m : PL.R α) (f : α → PL.Mem → PL.R β) (g : β → PL.Mem → PL.R γ) : (m.bind f).bind g = m.bind fun a M => (f a M).bind g := by
  cases m <;> rfl
theorem asB_bind {α : Type} (m : PL.R α) (f : α → PL.Mem → PL.R PV) : asB (m.bind f) = m.bind fun a M => asB (f a M) := bind_assoc _ _ _
theorem m_cases {α : Type} (m : PL.R α) : m = .no ∨ (∃ x M, m = .exc x M) ∨ ∃ v M, m = .ok v M := by
  cases m with
  | ok a M => exact .inr (.inr ⟨a, M, rfl⟩)
  | exc x M => exact .inr (.inl ⟨x, M, rfl⟩)
  | no => exact .inl rfl
/-- what is known at once -/
theorem rE_pure {v : PV} {u : V} (h : PE X x (tC u)) (r : ∀ ρ H, RepV X.K ρ H v u) : PE X x (tI RX X.K W mk fun _ M => .ok v M) :=
  PE.imp h fun σ H Q ⟨ρ, s, M, re, k, h⟩ => h.ok k (r ρ H)
theorem rE_var {P : String → Option (List String)} {C : PL.Orc} {i : Nat} {n : Str} (hN : X.N[i]? = some n) (hv : Vis X.env.scope n) (hd : (n == ("__debug__" : Str)) = false) (hc : (n == ("__classdict__" : Str)) = false) :
    PE X (.Name n pos) (tI RX X.K W mk (PL.ev P C mk (.var i))) :=
  PE.imp (pe_var hN hv hd hc) fun σ H Q ⟨ρ, s, M, re, k, h⟩ => by
    simp only [PL.ev] at h
    cases e : PL.lk s i with
    | none => rw [e] at h; exact h.elim
    | some v =>
      rw [e] at h
      obtain ⟨u, h1, h2⟩ := re.at_ i v e
      exact ⟨u, h1, h.ok k h2⟩
theorem rE_bin {o : PL.Op} {op : Operator} (ho : ∀ E, OpR X (binaryOp op) (rB X.K mk E o)) (ha : PE X a (tI RX X.K W mk ma)) (hb : PE X b (tI RX X.K W mk mb)) :
    PE X (.BinOp a op b pos) (tI RX X.K W mk fun σ M => (ma σ M).bind fun x M1 => (mb σ M1).bind fun y M2 => PL.binop M2 o x y) :=
  PE.imp (pe_op (OpR.ex ho) ha hb) fun σ H Q ⟨ρ, s, M, re, k, h⟩ =>
    ⟨ρ, s, M, re, k, Post.bind h fun v M1 ρ1 H1 u x1 k1 r1 h1 => ⟨ρ1, s, M1, re.ext x1, k1, Post.bind h1 fun w M2 ρ2 H2 z x2 k2 r2 h2 => ⟨_, ρ2, M2, v, w, k2, r1.ext x2, r2, h2⟩⟩⟩
theorem rE_neg (ha : PE X a (tI RX X.K W mk ma)) :
    PE X (.UnaryOp .USub a pos) (tI RX X.K W mk fun σ M => (ma σ M).bind fun x M1 => match x with | .int i => .ok (.int (-i)) M1 | _ => .no) :=
  PE.imp (pe_un un_neg ha) fun σ H Q ⟨ρ, s, M, re, k, h⟩ =>
    ⟨ρ, s, M, re, k, Post.bind h fun v M1 ρ1 H1 u x1 k1 r1 h1 => by
      cases v with
      | int i =>
        simp only [RepV] at r1
        exact ⟨i, r1, h1.ok k1 (by simp only [RepV])⟩
      | _ => exact h1.elim⟩
theorem rE_not (ha : PEB RX X W mk a ma) :
    PEB RX X W mk (.UnaryOp .Not a pos) fun σ M => (ma σ M).bind fun x M1 => match x with | .bl b => .ok (.bl (!b)) M1 | _ => .no := by
  refine ⟨PE.imp (pe_not ha.v) fun σ H Q ⟨ρ, s, M, re, k, h⟩ => ⟨ρ, s, M, re, k, Post.bind h fun v M1 ρ1 H1 u x1 k1 r1 h1 => ?_⟩, PT.imp (pt_not ha.t) fun σ H Q ⟨ρ, s, M, re, k, h⟩ => ⟨ρ, s, M, re, k, ?_⟩⟩
  · cases v with
    | bl b =>
      simp only [RepV] at r1
      exact ⟨b, r1, h1.ok k1 (by simp only [RepV])⟩
    | _ => exact h1.elim
  · rw [asB_bind] at h
    rcases m_cases (ma s M) with e | ⟨x, M1, e⟩ | ⟨v, M1, e⟩
    · rw [e] at h; exact h.elim
    · rw [e] at h ⊢; exact h
    · rw [e] at h ⊢
      cases v with
      | bl b => exact fun ρ' H' d x' k' r' => by subst r'; exact h ρ' H' (!b) x' k' rfl
      | _ => exact h.elim
theorem rE_cmp {o : PL.Cm} {op : CmpOp} (ho : OpR X (compareOp op) (rC X.K o)) (ha : PE X a (tI RX X.K W mk ma)) (hb : PE X b (tI RX X.K W mk mb)) (hs : isSet b = false) :
    PEB RX X W mk (.Compare a [op] [b] pos) fun σ M => (ma σ M).bind fun x M1 => (mb σ M1).bind fun y M2 => match PL.cmpop M2 o x y with | some c => .ok (.bl c) M2 | none => .no := by
  have pc : PC X op a b (tI RX X.K W mk fun σ M => (ma σ M).bind fun x M1 => (mb σ M1).bind fun y M2 => match PL.cmpop M2 o x y with | some c => .ok (.bl c) M2 | none => .no) :=
    ⟨fun pins s0 σ H Q I ⟨ρ, s, M, re, k, h⟩ =>
      binT ha hb (R := fun x y H => rC X.K o x y H Q) I (show tI RX X.K W mk ma σ H fun x H1 => tI RX X.K W mk mb σ H1 fun y H2 => rC X.K o x y H2 Q from
        ⟨ρ, s, M, re, k, Post.bind h fun v M1 ρ1 H1 u x1 k1 r1 h1 => ⟨ρ1, s, M1, re.ext x1, k1, Post.bind h1 fun w M2 ρ2 H2 z x2 k2 r2 h2 => by
          cases e : PL.cmpop M2 o v w with
          | none => rw [e] at h2; exact h2.elim
          | some c =>
            rw [e] at h2
            exact ⟨ρ2, M2, v, w, c, k2.rep, r1.ext x2, r2, e, h2.ok k2 (by simp only [RepV])⟩⟩⟩) fun v u s2 x y H2 I2 rx ry q => ho pins s2 σ H2 x y v u Q I2 rx ry q⟩
  exact ⟨pe_cmp pc (behind_of hs op), PT.imp (pt_cmp pc (behind_of hs op)) fun _ _ _ q => tIb_tB q⟩
end
end PLS

/-! PLS11: more rules of expressions. -/
namespace PLS
open PySem PySem.Spec PyProof.Rows L2
section
variable {X : Cx} {RX : RXT} {W : WX} {mk : Mk} {x a b c : Expr} {es : List Expr} {m ma mb mc : Mn PV} {ms : Mn (List PV)} {pos p : Pos}
/-! ### lists of expressions -/
theorem rA_nil : PA X [] (tIs RX X.K W mk fun _ M => .ok [] M) := PA.imp pa_nil fun σ H Q ⟨ρ, s, M, re, k, h⟩ => h.ok k .nil
theorem rA_cons (ha : PE X a (tI RX X.K W mk ma)) (hs : isStar a = false) (hr : PA X es (tIs RX X.K W mk ms)) :
    PA X (a :: es) (tIs RX X.K W mk fun σ M => (ma σ M).bind fun x M1 => (ms σ M1).bind fun xs M2 => .ok (x :: xs) M2) :=
  PA.imp (pa_cons ha hr (starEach_of hs _)) fun σ H Q ⟨ρ, s, M, re, k, h⟩ =>
    ⟨ρ, s, M, re, k, Post.bind h fun v M1 ρ1 H1 u x1 k1 r1 h1 => ⟨ρ1, s, M1, re.ext x1, k1, Post.bind h1 fun w M2 ρ2 H2 z x2 k2 r2 h2 => h2.ok k2 (.cons (r1.ext x2) r2)⟩⟩
theorem rA_star (ha : PE X a (tI RX X.K W mk ma)) (hr : PA X es (tIs RX X.K W mk ms)) :
    PA X (.Starred a p :: es) (tIs RX X.K W mk fun σ M => (ma σ M).bind fun x M1 => match PL.starred M1 x with | some ys => (ms σ M1).bind fun xs M2 => .ok (ys ++ xs) M2 | none => .no) :=
  PA.imp (StX.pa_star ha hr rfl) fun σ H Q ⟨ρ, s, M, re, k, h⟩ =>
    ⟨ρ, s, M, re, k, Post.bind h fun v M1 ρ1 H1 u x1 k1 r1 h1 => by
      cases e : PL.starred M1 v with
      | none => rw [e] at h1; exact h1.elim
      | some ys =>
        rw [e] at h1
        obtain ⟨q, us, rfl, hq, rs⟩ := items_rep k1.rep r1 e
        exact ⟨q, us, rfl, hq.symm, ρ1, s, M1, re.ext x1, k1, Post.bind h1 fun w M2 ρ2 H2 z x2 k2 r2 h2 => h2.ok k2 ((rs.ext x2).append r2)⟩⟩
/-! ### displays -/
theorem rE_tup {j : Nat} (ha : PA X es (tIs RX X.K W mk ms)) : PEB RX X W mk (.Tuple es j pos) fun σ M => (ms σ M).bind fun xs M1 => if xs.length ≤ PL.SZ then .ok (.tup xs) M1 else .no := by
  refine .plain ⟨fun pins s0 σ H Q I ⟨ρ, s, M, re, k, h⟩ => ?_⟩ rfl
  refine wpAny_Tuple_spliced (thn (ha.run pos pins s0 σ H (fun us H1 => us.length ≤ sizeLine ∧ ∀ p o, H1 p = none → TupO o → Q (.ref p) (upd H1 p (.frz o (.tup us)))) I
    ⟨ρ, s, M, re, k, Post.bind h fun v M1 ρ1 H1 u x1 k1 r1 h1 => ?_⟩) fun us s1 ⟨xs, H1, I1, r, z, q⟩ => ⟨by rw [← r.length]; exact z, ?_⟩)
  · split at h1
    · rename_i hz
      exact ⟨by rw [← r1.length, ← SZ_eq]; exact hz, fun p o n t => post_tup h1 k1 r1 p o n t⟩
    · exact h1.elim
  · exact ⟨.ref s1.heap.objs.size, _, Inv.tnew (t' := s1.toks) I1 r z, rfl, q _ _ I1.fresh (tupO_new _)⟩
theorem rE_lst (ha : PA X es (tIs RX X.K W mk ms)) : PEB RX X W mk (.List es pos) fun σ M => (ms σ M).bind fun xs M1 => if xs.length ≤ PL.SZ then PL.alloc (.lst xs) M1 else .no :=
  .plain (PE.imp (pe_lst ha) fun σ H Q ⟨ρ, s, M, re, k, h⟩ => ⟨ρ, s, M, re, k, Post.bind h fun v M1 ρ1 H1 u x1 k1 r1 h1 => by
    split at h1
    · rename_i hz
      exact ⟨by rw [← r1.length, ← SZ_eq]; exact hz, fun p n => post_alloc h1 k1 ⟨u, rfl, r1⟩ p n⟩
    · exact h1.elim⟩) rfl
/-! ### is, chains, if, and/or -/
theorem rep_isN {K : PySem.W.Frag} {ρ : List Addr} {H : Hp} {v : PV} {u : V} (r : RepV K ρ H v u) : decide (u = .non) = decide (v = .non) := by
  have hr : ∀ a : Addr, ¬ (V.ref a = V.non) := fun a h => by cases h
  cases v with
  | non => simp only [RepV] at r; subst r; rfl
  | bl b => simp only [RepV] at r; subst r; rfl
  | int b => simp only [RepV] at r; subst r; rfl
  | str b => simp only [RepV] at r; subst r; rfl
  | rep d => simp only [RepV] at r; obtain ⟨_, _, rfl⟩ := r; rfl
  | tup xs => simp only [RepV] at r; obtain ⟨q, _, _, rfl, _⟩ := r; rfl
  | ct xs => simp only [RepV] at r; obtain ⟨q, _, rfl, _⟩ := r; rfl
  | fl xs => simp only [RepV] at r; obtain ⟨q, _, rfl, _⟩ := r; rfl
  | cl xs => simp only [RepV] at r; obtain ⟨q, _, rfl, _⟩ := r; rfl
  | fd ks vs => simp only [RepV] at r; rcases r with ⟨q, _, rfl, _⟩ | ⟨q, _, rfl, _⟩ <;> rfl
  | ref i => simp only [RepV] at r; obtain ⟨q, _, rfl⟩ := r; rfl
theorem rE_isN {j : Nat} {p' : Pos} (n : Bool) (ha : PE X a (tI RX X.K W mk ma)) :
    PEB RX X W mk (.Compare a [if n then .IsNot else .Is] [.Constant .none j p'] pos) fun σ M => (ma σ M).bind fun x M1 => .ok (.bl (if n then !decide (x = .non) else decide (x = .non))) M1 := by
  cases n with
  | true =>
    have pc : PC X .IsNot a (.Constant .none j p') (tI RX X.K W mk fun σ M => (ma σ M).bind fun x M1 => .ok (.bl (!decide (x = .non))) M1) :=
      ⟨fun pins s0 σ H Q I ⟨ρ, s, M, re, k, h⟩ => (pc_notN ha).run pins s0 σ H Q I ⟨ρ, s, M, re, k, Post.bind h fun v M1 ρ1 H1 u x1 k1 r1 h1 => h1.ok k1 (by simp only [RepV]; rw [rep_isN r1])⟩⟩
    exact ⟨pe_cmp pc rfl, PT.imp (pt_cmp pc rfl) fun _ _ _ q => tIb_tB q⟩
  | false =>
    have pc : PC X .Is a (.Constant .none j p') (tI RX X.K W mk fun σ M => (ma σ M).bind fun x M1 => .ok (.bl (decide (x = .non))) M1) :=
      ⟨fun pins s0 σ H Q I ⟨ρ, s, M, re, k, h⟩ => (pc_isN ha).run pins s0 σ H Q I ⟨ρ, s, M, re, k, Post.bind h fun v M1 ρ1 H1 u x1 k1 r1 h1 => h1.ok k1 (by simp only [RepV]; rw [rep_isN r1])⟩⟩
    exact ⟨pe_cmp pc rfl, PT.imp (pt_cmp pc rfl) fun _ _ _ q => tIb_tB q⟩
theorem rep_isB {K : PySem.W.Frag} {ρ : List Addr} {H : Hp} {v : PV} {u : V} {z : Value} (c : Bool) (r : RepV K ρ H v u) (q : RelV u z) : plainIs z (.bool c) = true ∧ (z == .bool c) = PL.isBV c v := by
  cases v with
  | non => simp only [RepV] at r; subst r; cases q; exact ⟨rfl, rfl⟩
  | bl b => simp only [RepV] at r; subst r; cases q; exact ⟨rfl, by cases b <;> cases c <;> rfl⟩
  | int b => simp only [RepV] at r; subst r; obtain ⟨t, rfl⟩ := q; exact ⟨rfl, rfl⟩
  | str b => simp only [RepV] at r; subst r; obtain ⟨t, rfl⟩ := q; exact ⟨rfl, rfl⟩
  | rep d => simp only [RepV] at r; obtain ⟨_, _, rfl⟩ := r; obtain ⟨t, rfl⟩ := q; exact ⟨rfl, rfl⟩
  | tup xs => simp only [RepV] at r; obtain ⟨_, _, _, rfl, _⟩ := r; cases q; exact ⟨rfl, rfl⟩
  | ct xs => simp only [RepV] at r; obtain ⟨_, _, rfl, _⟩ := r; cases q; exact ⟨rfl, rfl⟩
  | fl xs => simp only [RepV] at r; obtain ⟨_, _, rfl, _⟩ := r; cases q; exact ⟨rfl, rfl⟩
  | cl xs => simp only [RepV] at r; obtain ⟨_, _, rfl, _⟩ := r; cases q; exact ⟨rfl, rfl⟩
  | fd ks vs => simp only [RepV] at r; rcases r with ⟨_, _, rfl, _⟩ | ⟨_, _, rfl, _⟩ <;> (cases q; exact ⟨rfl, rfl⟩)
  | ref i => simp only [RepV] at r; obtain ⟨_, _, rfl⟩ := r; cases q; exact ⟨rfl, rfl⟩
def rIsC (K : PySem.W.Frag) (n c : Bool) : R2 := fun x y H Q => ∃ ρ v, RepV K ρ H v x ∧ y = .bl c ∧ Q (.bl (if n then !PL.isBV c v else PL.isBV c v)) H
theorem op_isC (n c : Bool) : OpR X (compareOp (if n then .IsNot else .Is)) (rIsC X.K n c) := by
  rintro pins s σ H x y v u Q I rx ry ⟨ρ, w, r, rfl, q⟩
  cases ry
  obtain ⟨h1, h2⟩ := rep_isB c r rx
  cases n with
  | true => exact wpAny_isNot_plain h1 ⟨_, H, I, by rw [h2]; rfl, q⟩
  | false => exact wpAny_is_plain h1 ⟨_, H, I, by rw [h2]; rfl, q⟩
theorem rE_isB {j : Nat} {p' : Pos} (n c : Bool) (ha : PE X a (tI RX X.K W mk ma)) :
    PEB RX X W mk (.Compare a [if n then .IsNot else .Is] [.Constant (.bool c) j p'] pos) fun σ M => (ma σ M).bind fun x M1 => .ok (.bl (if n then !PL.isBV c x else PL.isBV c x)) M1 := by
  have pc : PC X (if n then .IsNot else .Is) a (.Constant (.bool c) j p') (tI RX X.K W mk fun σ M => (ma σ M).bind fun x M1 => .ok (.bl (if n then !PL.isBV c x else PL.isBV c x)) M1) :=
    ⟨fun pins s0 σ H Q I ⟨ρ, s, M, re, k, h⟩ =>
      binT ha (pe_bl (b := c)) (R := fun x y H => rIsC X.K n c x y H Q) I (show tI RX X.K W mk ma σ H fun x H1 => tC (.bl c) σ H1 fun y H2 => rIsC X.K n c x y H2 Q from
        ⟨ρ, s, M, re, k, Post.bind h fun v M1 ρ1 H1 u x1 k1 r1 h1 => ⟨ρ1, v, r1, rfl, h1.ok k1 (by simp only [RepV])⟩⟩) fun v u s2 x y H2 I2 rx ry q => op_isC n c pins s2 σ H2 x y v u Q I2 rx ry q⟩
  exact ⟨pe_cmp pc (by cases n <;> rfl), PT.imp (pt_cmp pc (by cases n <;> rfl)) fun _ _ _ q => tIb_tB q⟩
theorem rE_rev {k : Nat} {p1 p2 p3 : Pos} (ha : PE X a (tI RX X.K W mk ma)) :
    PEB RX X W mk (.Subscript a (.Slice none none (some (.UnaryOp .USub (.Constant (.int 1) k p1) p2)) p3) pos) fun σ M => (ma σ M).bind fun x M1 => match PL.litems M1 x with | some xs => PL.alloc (.lst xs.reverse) M1 | none => .no :=
  .plain (PE.imp (pe_revL ha) fun σ H Q ⟨ρ, s, M, re, k, h⟩ => ⟨ρ, s, M, re, k, Post.bind h fun v M1 ρ1 H1 u x1 k1 r1 h1 => by
    split at h1
    · rename_i xs e
      obtain ⟨p, us, rfl, hq, rs⟩ := litems_rep k1.rep r1 e
      exact ⟨p, us, rfl, hq, fun z n => post_alloc h1 k1 ⟨_, rfl, rs.reverse⟩ z n⟩
    · exact h1.elim⟩) rfl
theorem rE_dnt : PEB RX X W mk (.Dict [] [] pos) fun σ M => PL.alloc (.dct true [] []) M :=
  .plain (PE.imp pe_dnt fun σ H Q ⟨ρ, s, M, re, k, h⟩ p n => Post.okx h (Ext.alloc k.rep n) (k.alloc n ⟨[], rfl, rfl, .nil, .nil⟩) (by
    simp only [RepV]
    exact ⟨p, by rw [← k.rep.len, List.getElem?_append_right (Nat.le_refl _), Nat.sub_self]; rfl, rfl⟩)) rfl
theorem rE_chn {o o' : PL.Cm} {op op' : CmpOp} (ho : OpR X (compareOp op) (rC X.K o)) (ho' : OpR X (compareOp op') (rC X.K o')) (ha : PE X a (tI RX X.K W mk ma)) (hb : PE X b (tI RX X.K W mk mb)) (hc : PE X c (tI RX X.K W mk mc)) (hs : isSet c = false) :
    PEB RX X W mk (.Compare a [op, op'] [b, c] pos) fun σ M => (ma σ M).bind fun x M1 => (mb σ M1).bind fun y M2 => match PL.cmpop M2 o x y with
      | some true => (mc σ M2).bind fun z M3 => match PL.cmpop M3 o' y z with | some d => .ok (.bl d) M3 | none => .no
      | some false => .ok (.bl false) M2
      | none => .no := by
  have key : ∀ (σ : L2.St) (H : Hp) (Q : VK), tI RX X.K W mk (fun σ M => (ma σ M).bind fun x M1 => (mb σ M1).bind fun y M2 => match PL.cmpop M2 o x y with
      | some true => (mc σ M2).bind fun z M3 => match PL.cmpop M3 o' y z with | some d => .ok (.bl d) M3 | none => .no
      | some false => .ok (.bl false) M2
      | none => .no) σ H Q → tChain (rC X.K o) (rC X.K o') (tI RX X.K W mk ma) (tI RX X.K W mk mb) (tI RX X.K W mk mc) σ H Q := fun σ H Q ⟨ρ, s, M, re, k, h⟩ =>
    ⟨ρ, s, M, re, k, Post.bind h fun v M1 ρ1 H1 u x1 k1 r1 h1 => ⟨ρ1, s, M1, re.ext x1, k1, Post.bind h1 fun w M2 ρ2 H2 z x2 k2 r2 h2 => by
      cases e : PL.cmpop M2 o v w with
      | none => rw [e] at h2; exact h2.elim
      | some d =>
        rw [e] at h2
        refine ⟨ρ2, M2, v, w, d, k2.rep, r1.ext x2, r2, e, d, rfl, ?_⟩
        cases d with
        | false => exact h2.ok k2 (by simp only [RepV])
        | true =>
          refine ⟨ρ2, s, M2, (re.ext x1).ext x2, k2, Post.bind h2 fun y M3 ρ3 H3 t x3 k3 r3 h3 => ?_⟩
          cases e2 : PL.cmpop M3 o' w y with
          | none => rw [e2] at h3; exact h3.elim
          | some d =>
            rw [e2] at h3
            exact ⟨ρ3, M3, w, y, d, k3.rep, r2.ext x3, r3, e2, h3.ok k3 (by simp only [RepV])⟩⟩⟩
  exact ⟨PE.imp (pe_chain ho ho' ha hb hc (marks_of hs)) key, PT.imp (pt_chain ho ho' ha hb hc (marks_of hs)) fun σ H Q q => key σ H _ (tIb_tB q)⟩
theorem isTrue_ite {M : Model} {A : Around} {env : Env} {E : Value → Shared → Prop} {s : Shared} {whole : Sem Value} {Q : Bool → Shared → Prop} (h : wpAny M A (isTrue c env (eval c env)) (fun d s1 => if d = true then wpAny M A (isTrue a env (eval a env)) Q E s1 else wpAny M A (isTrue b env (eval b env)) Q E s1) E s) :
    wpAny M A (isTrue (.IfExp c a b pos) env whole) Q E s := by
  show wpAny M A (do if ← isTrue c env (eval c env) then isTrue a env (eval a env) else isTrue b env (eval b env)) Q E s
  refine wpAny_bind (wpAny_mono h (fun d s1 h1 => ?_) fun _ _ z => z)
  cases d <;> exact h1
theorem rE_ite (hc : PEB RX X W mk c mc) (ha : PEB RX X W mk a ma) (hb : PEB RX X W mk b mb) :
    PEB RX X W mk (.IfExp c a b pos) fun σ M => (mc σ M).bind fun x M1 => match x with | .bl true => ma σ M1 | .bl false => mb σ M1 | _ => .no := by
  have key : ∀ {β : Type} {Rel : List Addr → Hp → PV → β → Prop} {σ : L2.St} {H : Hp} {Q : β → Hp → Prop} {ρ : List Addr} {s : PL.Env} {M : PL.Mem} (f : Mn PV) (re : RepE X.K ρ H s σ) (k : Ok X.K mk ρ H M), True := fun _ _ _ => trivial
  refine ⟨PE.imp (pe_ifExp hc.t ha.v hb.v) fun σ H Q ⟨ρ, s, M, re, k, h⟩ => ⟨ρ, s, M, re, k, ?_⟩, ⟨fun pins s0 σ H Q I ⟨ρ, s, M, re, k, h⟩ => isTrue_ite (thn (hc.t.run pins s0 σ H (fun d H1 => ∃ ρ1 M1, RepE X.K ρ1 H1 s σ ∧ Ok X.K mk ρ1 H1 M1 ∧ Post X.K mk (fun _ _ (a b : Bool) => a = b) (EX RX X.K W σ) ρ1 H1 Q (asB (if d = true then ma s M1 else mb s M1))) I ⟨ρ, s, M, re, k, ?_⟩)
    fun d s1 ⟨H1, I1, ρ1, M1, re1, k1, h1⟩ => ?_)⟩⟩
  · unfold asB
    dsimp only at h
    rcases m_cases (mc s M) with e | ⟨x, M1, e⟩ | ⟨v, M1, e⟩
    · rw [e] at h; exact h.elim
    · rw [e] at h ⊢; exact h
    · rw [e] at h ⊢
      cases v with
      | bl d =>
        exact fun ρ' H' d' x' k' r' => by
          subst r'
          have h2 := Post.ext h x'
          cases d with
          | true => exact ⟨ρ', s, M1, re.ext x', k', h2⟩
          | false => exact ⟨ρ', s, M1, re.ext x', k', h2⟩
      | _ => exact h.elim
  · dsimp only at h
    rw [asB_bind] at h
    unfold asB
    rcases m_cases (mc s M) with e | ⟨x, M1, e⟩ | ⟨v, M1, e⟩
    · rw [e] at h; exact h.elim
    · rw [e] at h ⊢; exact h
    · rw [e] at h ⊢
      cases v with
      | bl d =>
        exact fun ρ' H' d' x' k' r' => by
          subst r'
          have h2 := Post.ext h x'
          cases d with
          | true => exact ⟨ρ', M1, re.ext x', k', h2⟩
          | false => exact ⟨ρ', M1, re.ext x', k', h2⟩
      | _ => exact h.elim
  · cases d with
    | true => exact ha.t.run pins s1 σ H1 Q I1 ⟨ρ1, s, M1, re1, k1, h1⟩
    | false => exact hb.t.run pins s1 σ H1 Q I1 ⟨ρ1, s, M1, re1, k1, h1⟩
/-! ### subscripts -/
theorem rE_idx (hu : X.A.units + 200 < cLine) (ha : PE X a (tI RX X.K W mk ma)) (hb : PE X b (tI RX X.K W mk mb)) (hs : isSlice b = false) :
    PEB RX X W mk (.Subscript a b pos) fun σ M => (ma σ M).bind fun x M1 => (mb σ M1).bind fun y M2 => match PL.index M2 x y with | some v => .ok v M2 | none => .no :=
  .plain (PE.imp (pe_ix (op_index hu) ha hb (plainIx_of hs)) fun σ H Q ⟨ρ, s, M, re, k, h⟩ =>
    ⟨ρ, s, M, re, k, Post.bind h fun v M1 ρ1 H1 u x1 k1 r1 h1 => ⟨ρ1, s, M1, re.ext x1, k1, Post.bind h1 fun w M2 ρ2 H2 z x2 k2 r2 h2 => by
      cases e : PL.index M2 v w with
      | none => rw [e] at h2; exact h2.elim
      | some d =>
        rw [e] at h2
        exact ⟨ρ2, M2, v, w, d, k2.rep, r1.ext x2, r2, e, fun t rt => h2.ok k2 rt⟩⟩⟩) rfl
def tIo (RX : RXT) (K : PySem.W.Frag) (W : WX) (mk : Mk) (m : Mn (Option Int)) : TO := fun s H Q => ∃ ρ σ M, RepE K ρ H σ s ∧ Ok K mk ρ H M ∧ Post K mk (fun _ _ (a b : Option Int) => a = b) (EX RX K W s) ρ H Q (m σ M)
theorem rO_none : PO X none (tIo RX X.K W mk fun _ M => .ok none M) := ⟨fun pins s0 σ H Q I ⟨ρ, s, M, re, k, h⟩ => po_none.run pins s0 σ H Q I (h.ok k rfl)⟩
theorem rO_some (ha : PE X a (tI RX X.K W mk ma)) : PO X (some a) (tIo RX X.K W mk fun σ M => (ma σ M).bind fun x M1 => match x with | .int i => .ok (some i) M1 | _ => .no) :=
  ⟨fun pins s0 σ H Q I ⟨ρ, s, M, re, k, h⟩ => (po_some ha).run pins s0 σ H Q I ⟨ρ, s, M, re, k, Post.bind h fun v M1 ρ1 H1 u x1 k1 r1 h1 => by
    cases v with
    | int i =>
      simp only [RepV] at r1
      exact ⟨i, r1, h1.ok k1 rfl⟩
    | _ => exact h1.elim⟩⟩
theorem rE_slc {lo hi : Option Expr} {ml mh : Mn (Option Int)} {p2 : Pos} (ha : PE X a (tI RX X.K W mk ma)) (hl : PO X lo (tIo RX X.K W mk ml)) (hh : PO X hi (tIo RX X.K W mk mh)) :
    PEB RX X W mk (.Subscript a (.Slice lo hi none p2) pos) fun σ M => (ma σ M).bind fun x M1 => (ml σ M1).bind fun l M2 => (mh σ M2).bind fun h M3 => PL.slice M3 x l h :=
  .plain (PE.imp (pe_slice (SlR.ex fun E => sl_rep (E := E)) ha hl hh) fun σ H Q ⟨ρ, s, M, re, k, h⟩ =>
    ⟨ρ, s, M, re, k, Post.bind h fun v M1 ρ1 H1 u x1 k1 r1 h1 => ⟨ρ1, s, M1, re.ext x1, k1, Post.bind h1 fun l M2 ρ2 H2 l' x2 k2 r2 h2 =>
      ⟨ρ2, s, M2, (re.ext x1).ext x2, k2, Post.bind h2 fun t M3 ρ3 H3 t' x3 k3 r3 h3 => by subst r2; subst r3; exact ⟨_, ρ3, M3, v, k3, (r1.ext x2).ext x3, h3⟩⟩⟩⟩) rfl
end
end PLS

/-! PLS12: calls. -/
namespace PLS
open PySem PySem.Spec PyProof.Rows L2

/-! ### what a def of the text promises, where the repr's guards are known -/
structure FnG (P : Program) (w : World) (K : PySem.W.Frag) (mg : Str → Option Value) (base : Heap) (k : Nat) (f : Addr) (fd : FuncData) (ps : List Str) (sp : Sp) : Prop where
  run : ∀ (A : Around) (outer : List Env) (s : Shared) (H : Hp) (args : Args) (us : List Value) (vs : List V) (Q : VK) (E : XK), Room k A → A.guards = some [] → Env0 P w K mg base A outer s H → BindsTo s fd args (ps.zip us) → us.length = ps.length → Vals vs us →
    sp vs H Q E → codeAny (model P w) A (.call (.ref f) args) (CR (L2.CX P w) outer P w H s Q E) s
theorem FnG.mono {P : Program} {w : World} {K : PySem.W.Frag} {mg : Str → Option Value} {base : Heap} {j k : Nat} {f : Addr} {fd : FuncData} {ps : List Str} {sp : Sp} (F : FnG P w K mg base j f fd ps sp) (h : j ≤ k) : FnG P w K mg base k f fd ps sp :=
  ⟨fun A outer s H args us vs Q E hr => F.run A outer s H args us vs Q E (hr.mono h)⟩
/-- a call's promise by a run of PL -/
def spF (C : PL.Orc) (RX : RXT) (K : PySem.W.Frag) (f : String) : Sp := fun us H Q E => ∃ mk ρ M xs, Ok K mk ρ H M ∧ RepVs K ρ H xs us ∧ Post K mk (RepV K) (fun x ρ' H' _ => ∀ cls d, RX ρ' H' x cls d → E cls d H') ρ H Q (C mk f xs M)
/-- how a call binds: by place; by names -/
structure BindF (K : PySem.W.Frag) (fd : FuncData) (ps : List String) : Prop where
  pos : ∀ (s : Shared) (us : List Value), us.length = ps.length → BindsTo s fd ⟨us, []⟩ ((ps.map Str.ofString).zip us)
  kw : ∀ (s : Shared) (us ws zs : List Value) (ks : List String) (is : List Nat), ws.length = ks.length → PL.permIdx ps us.length ks = some is → PL.pick (us ++ ws) is = some zs →
    zs.length = ps.length → BindsTo s fd ⟨us, (ks.map Str.ofString).zip ws⟩ ((ps.map Str.ofString).zip zs)
/-- a def that may be called from here -/
def FunIn (X : Cx) (C : PL.Orc) (RX : RXT) (f : String) (ps : List String) : Prop :=
  (∀ mk xs M, xs.length ≠ ps.length → C mk f xs M = .no) ∧ ∃ fa fd k, X.mg (Str.ofString f) = some (.ref fa) ∧ PySem.W.keepIn X.K (.ref fa) = true ∧ Room k X.A ∧ BindF X.K fd ps ∧ FnG X.prog X.w X.K X.mg X.base k fa fd (ps.map Str.ofString) (spF C RX X.K f)
section
variable {X : Cx} {RX : RXT} {W : WX} {mk : Mk} {x a b c : Expr} {es : List Expr} {m ma mb mc : Mn PV} {ms mks : Mn (List PV)} {pos p : Pos}
theorem run_G {k : Nat} {fa : Addr} {fd : FuncData} {ps : List Str} {sp : Sp} {pins : List (Addr × Obj)} {σ : L2.St} {H : Hp} {s : Shared} {Q : VK} {us zs : List Value} {vs : List V} {kw : List (Str × Value)} {E : XK}
    (F : FnG X.prog X.w X.K X.mg X.base k fa fd ps sp) (hr : Room k X.A) (hg : X.A.guards = some []) (hx : PassesAt (L2.CX X.prog X.w) X σ E) (I : Inv X pins σ H s) (hb : BindsTo s fd ⟨us, kw⟩ (ps.zip zs)) (hl : zs.length = ps.length) (r : Vals vs zs) (h : sp vs H Q E) :
    wpAny (model X.prog X.w) X.A (call (.ref fa) us kw) (EP X pins σ Q) X.xe s := by
  refine wpAny_call (codeAny_mono (F.run X.A X.stack s H ⟨us, kw⟩ zs vs Q E hr hg I.env0 hb hl r h) fun res s' hq => ?_)
  match res, hq with
  | .error e, hq => exact hx pins H s e s' I hq
  | .ok (.ret u), hq => exact I.after hq
/-- the exceptions of a call at the slots σ -/
theorem pass_W (tk : Takes X W) (σ : L2.St) : PassesAt (L2.CX X.prog X.w) X σ (fun cls d H => W cls d σ H) := passAt tk σ
theorem rE_fn {C : PL.Orc} {f : String} {ps : List String} {n : Str} {e : Expr} (hf : FunIn X C RX f ps) (hgu : X.A.guards = some []) (tk : Takes X W) (hg : Gl X n) (hn : n = Str.ofString f) (hd : (n == ("__debug__" : Str)) = false)
    (ha : PA X (e :: es) (tIs RX X.K W mk ms)) (hs : (e :: es).any isStar = false) :
    PEB RX X W mk (.Call (.Name n p) (e :: es) [] pos) fun σ M => (ms σ M).bind fun xs M1 => C mk f xs M1 := by
  subst hn
  rw [List.any_cons, Bool.or_eq_false_iff] at hs
  obtain ⟨hl, fa, fd, k, hm, hk, hr, hb, F⟩ := hf
  refine .plain ⟨fun pins s0 σ H Q I ⟨ρ, s, M, re, ko, h⟩ => ?_⟩ rfl
  refine wpAny_Call_Name_kw (ld_glob I hg hm ?_ hd)
  have h' : tIs RX X.K W mk ms σ H fun vs H1 => vs.length = ps.length ∧ spF C RX X.K f vs H1 Q fun cls d H => W cls d σ H :=
    ⟨ρ, s, M, re, ko, Post.bind h fun v M1 ρ1 H1 u x1 k1 r1 h1 => by
      by_cases l : v.length = ps.length
      · exact ⟨by rw [← r1.length]; exact l, mk, ρ1, M1, v, k1, r1, h1⟩
      · rw [hl _ _ _ l] at h1; exact h1.elim⟩
  refine PySem.W.callWith_K (h₀ := X.base) I.ok.mod.kin hk (thn (ha.run pos pins s0 σ H _ I h') fun us s1 ⟨vs, H1, I1, r, q1, q2⟩ => ⟨I1.kIn, ?_⟩) (starEach_of hs.1 _) (backTo_plain hs.2)
  have lu : us.length = ps.length := by rw [← r.length]; exact q1
  exact run_G F hr hgu (pass_W tk σ) I1 (hb.pos s1 us lu) (by rw [List.length_map]; exact lu) r q2
theorem rE_fn0 {C : PL.Orc} {f : String} {ps : List String} {n : Str} (hf : FunIn X C RX f ps) (hgu : X.A.guards = some []) (tk : Takes X W) (hg : Gl X n) (hn : n = Str.ofString f) (hd : (n == ("__debug__" : Str)) = false) :
    PEB RX X W mk (.Call (.Name n p) [] [] pos) fun σ M => C mk f [] M := by
  subst hn
  obtain ⟨hl, fa, fd, k, hm, hk, hr, hb, F⟩ := hf
  refine .plain ⟨fun pins s0 σ H Q I ⟨ρ, s, M, re, ko, h⟩ => ?_⟩ rfl
  refine wpAny_Call_Name_kw (ld_glob I hg hm ?_ hd)
  have l : 0 = ps.length := by
    by_cases l : ([] : List PV).length = ps.length
    · exact l
    · dsimp only at h
      rw [hl _ _ _ l] at h; exact h.elim
  exact PySem.W.callWith_K0 I.kIn hk (run_G (us := []) (kw := []) F hr hgu (pass_W tk σ) I (hb.pos s0 [] l) (by rw [List.length_map]; exact l) .nil ⟨mk, ρ, M, [], ko, .nil, h⟩)
theorem pick_rep {K : PySem.W.Frag} {ρ : List Addr} {H : Hp} {vs : List PV} {us : List V} {ws : List Value} (r : RepVs K ρ H vs us) (q : Vals us ws) : ∀ {is : List Nat} {zs : List PV}, PL.pick vs is = some zs → ∃ zu zw, PL.pick ws is = some zw ∧ RepVs K ρ H zs zu ∧ Vals zu zw
  | [], zs, h => by
    simp only [PL.pick, Option.some.injEq] at h
    subst h
    exact ⟨[], [], rfl, .nil, .nil⟩
  | i :: is, zs, h => by
    simp only [PL.pick, Option.bind_eq_some_iff, Option.map_eq_some_iff] at h
    obtain ⟨v, h1, t, h2, rfl⟩ := h
    obtain ⟨zu, zw, a1, a2, a3⟩ := pick_rep r q h2
    obtain ⟨u, b1, b2⟩ := r.get h1
    obtain ⟨w, c1, c2⟩ := q.get b1
    exact ⟨u :: zu, w :: zw, by simp only [PL.pick, c1, a1]; rfl, .cons b2 a2, .cons c2 a3⟩
/-! keywords -/
theorem rK_nil : PK X [] (tIs RX X.K W mk fun _ M => .ok [] M) := ⟨fun pos pins s0 σ H Q I ⟨ρ, s, M, re, k, h⟩ => pk_nil.run pos pins s0 σ H Q I (h.ok k .nil)⟩
theorem rK_cons {nm : Option Str} {kpos : Pos} {kws : List Keyword} (ha : PE X a (tI RX X.K W mk ma)) (hr : PK X kws (tIs RX X.K W mk ms)) :
    PK X (⟨nm, a, kpos⟩ :: kws) (tIs RX X.K W mk fun σ M => (ma σ M).bind fun x M1 => (ms σ M1).bind fun xs M2 => .ok (x :: xs) M2) :=
  ⟨fun pos pins s0 σ H Q I ⟨ρ, s, M, re, k, h⟩ => (pk_cons ha hr).run pos pins s0 σ H Q I
    ⟨ρ, s, M, re, k, Post.bind h fun v M1 ρ1 H1 u x1 k1 r1 h1 => ⟨ρ1, s, M1, re.ext x1, k1, Post.bind h1 fun w M2 ρ2 H2 z x2 k2 r2 h2 => h2.ok k2 (.cons (r1.ext x2) r2)⟩⟩⟩
theorem kw_names {env : Env} {pos : Pos} : ∀ {kws : List Keyword} {ks : List String}, kws.map (·.arg) = ks.map (fun k => some (Str.ofString k)) →
    (backToKw pos (keywordEach kws env)).all (·.1.isSome) = true ∧ (backToKw pos (keywordEach kws env)).filterMap (·.1) = ks.map Str.ofString ∧ (backToKw pos (keywordEach kws env)).any (·.1.isNone) = false
  | [], [], _ => ⟨rfl, rfl, rfl⟩
  | [], _ :: _, h => by simp at h
  | _ :: _, [], h => by simp at h
  | ⟨nm, e, kp⟩ :: kws, k :: ks, h => by
    simp only [List.map_cons, List.cons.injEq] at h
    obtain ⟨h1, h2⟩ := h
    obtain ⟨a1, a2, a3⟩ := kw_names (env := env) (pos := pos) h2
    subst h1
    refine ⟨?_, ?_, ?_⟩
    · show ((true && (backToKw pos (keywordEach kws env)).all (·.1.isSome))) = true
      rw [a1]; rfl
    · show Str.ofString k :: (backToKw pos (keywordEach kws env)).filterMap (·.1) = _
      rw [a2]; rfl
    · show ((false || (backToKw pos (keywordEach kws env)).any (·.1.isNone))) = false
      rw [a3]; rfl
/-- a call with keywords -/
def mfnk (P : String → Option (List String)) (C : PL.Orc) (mk : Mk) (f : String) (ks : List String) (ms mks : Mn (List PV)) : Mn PV := fun σ M => (ms σ M).bind fun xs M1 => (mks σ M1).bind fun ys M2 => if ys.length = ks.length then
      match (P f).bind fun ps => (PL.permIdx ps xs.length ks).bind fun is => PL.pick (xs ++ ys) is with
      | some zs => C mk f zs M2
      | none => .no
    else .no
theorem kw_h {P : String → Option (List String)} {C : PL.Orc} {f : String} {ps : List String} {ks : List String} {σ : L2.St} {H : Hp} {Q : VK} {K : PySem.W.Frag} (hP : P f = some ps) (hl : ∀ mk xs M, xs.length ≠ ps.length → C mk f xs M = .no)
    (h : tI RX K W mk (mfnk P C mk f ks ms mks) σ H Q) : tIs RX K W mk ms σ H fun vs H1 => tIs RX K W mk mks σ H1 fun zs H2 => zs.length = ks.length ∧ ∀ us ws, Vals vs us → Vals zs ws →
      ∃ is tu tw, PL.permIdx ps us.length ks = some is ∧ PL.pick (us ++ ws) is = some tw ∧ Vals tu tw ∧ tw.length = ps.length ∧ spF C RX K f tu H2 Q fun cls d H => W cls d σ H := by
  obtain ⟨ρ, s, M, re, ko, h⟩ := h
  refine ⟨ρ, s, M, re, ko, Post.bind h fun v M1 ρ1 H1 u x1 k1 r1 h1 => ⟨ρ1, s, M1, re.ext x1, k1, Post.bind h1 fun y M2 ρ2 H2 t x2 k2 r2 h2 => ?_⟩⟩
  split at h2
  · rename_i hy
    refine ⟨by rw [← r2.length]; exact hy, fun us ws q1 q2 => ?_⟩
    rw [hP, Option.bind_some] at h2
    split at h2
    · rename_i zs e
      obtain ⟨is, e1, e2⟩ := Option.bind_eq_some_iff.mp e
      obtain ⟨zu, zw, a1, a2, a3⟩ := pick_rep ((r1.ext x2).append r2) (q1.append q2) e2
      by_cases l : zs.length = ps.length
      · exact ⟨is, zu, zw, by rw [← q1.length, ← r1.length]; exact e1, a1, a3, by rw [← a3.length, ← a2.length]; exact l, mk, ρ2, M2, zs, k2, a2, h2⟩
      · rw [hl _ _ _ l] at h2; exact h2.elim
    · exact h2.elim
  · exact h2.elim
theorem rE_fnk {P : String → Option (List String)} {C : PL.Orc} {f : String} {ps : List String} {ks : List String} {kws : List Keyword} {n : Str} {e : Expr} (hf : FunIn X C RX f ps) (hP : P f = some ps) (hgu : X.A.guards = some []) (tk : Takes X W) (hg : Gl X n) (hn : n = Str.ofString f)
    (hd : (n == ("__debug__" : Str)) = false) (ha : PA X (e :: es) (tIs RX X.K W mk ms)) (hs : (e :: es).any isStar = false) (hkw : PK X kws (tIs RX X.K W mk mks)) (hks : kws.map (·.arg) = ks.map (fun k => some (Str.ofString k))) :
    PEB RX X W mk (.Call (.Name n p) (e :: es) kws pos) (mfnk P C mk f ks ms mks) := by
  subst hn
  obtain ⟨hl, fa, fd, k, hm, hk, hr, hb, F⟩ := hf
  refine .plain ⟨fun pins s0 σ H Q I h => ?_⟩ rfl
  refine wpAny_Call_Name_kw (ld_glob I hg hm ?_ hd)
  obtain ⟨n1, n2, n3⟩ := kw_names (env := X.env) (pos := pos) hks
  refine PySem.W.callWith_KW (h₀ := X.base) I.ok.mod.kin hk n1 (thn (ha.run pos pins s0 σ H _ I (kw_h hP hl h)) fun us s1 ⟨vs, H1, I1, r, q⟩ => ?_) (by rw [backTo_plain hs, n3]; rfl) (starEach_of (by rw [List.any_cons, Bool.or_eq_false_iff] at hs; exact hs.1) _)
  refine thn (hkw.run pos pins s1 σ H1 _ I1 q) fun ws s2 ⟨zs, H2, I2, rz, lz, q2⟩ => ⟨I2.kIn, ?_⟩
  obtain ⟨is, tu, tw, e1, e2, e3, e4, e5⟩ := q2 us ws r rz
  rw [n2]
  exact run_G (us := us) F hr hgu (pass_W tk σ) I2 (hb.kw s2 us ws tw ks is (by rw [← rz.length]; exact lz) e1 e2 e4) (by rw [List.length_map]; exact e4) e3 e5
theorem rE_fnk0 {P : String → Option (List String)} {C : PL.Orc} {f : String} {ps : List String} {ks : List String} {kws : List Keyword} {n : Str} (hf : FunIn X C RX f ps) (hP : P f = some ps) (hgu : X.A.guards = some []) (tk : Takes X W) (hg : Gl X n) (hn : n = Str.ofString f)
    (hd : (n == ("__debug__" : Str)) = false) (hkw : PK X kws (tIs RX X.K W mk mks)) (hks : kws.map (·.arg) = ks.map (fun k => some (Str.ofString k))) :
    PEB RX X W mk (.Call (.Name n p) [] kws pos) (mfnk P C mk f ks (fun _ M => .ok [] M) mks) := by
  subst hn
  obtain ⟨hl, fa, fd, k, hm, hk, hr, hb, F⟩ := hf
  refine .plain ⟨fun pins s0 σ H Q I h => ?_⟩ rfl
  refine wpAny_Call_Name_kw (ld_glob I hg hm ?_ hd)
  obtain ⟨n1, n2, n3⟩ := kw_names (env := X.env) (pos := pos) hks
  obtain ⟨ρ, s, M, re, ko, h⟩ := kw_h hP hl h
  have h := h.ok ko .nil
  refine PySem.W.callWith_KW0 (h₀ := X.base) I.ok.mod.kin hk n1 ?_ (by rw [n3]; rfl)
  refine thn (hkw.run pos pins s0 σ H _ I h) fun ws s2 ⟨zs, H2, I2, rz, lz, q2⟩ => ⟨I2.kIn, ?_⟩
  obtain ⟨is, tu, tw, e1, e2, e3, e4, e5⟩ := q2 [] ws .nil rz
  rw [n2]
  exact run_G (us := []) F hr hgu (pass_W tk σ) I2 (hb.kw s2 [] ws tw ks is (by rw [← rz.length]; exact lz) e1 e2 e4) (by rw [List.length_map]; exact e4) e3 e5
end
end PLS

/-! PLS13: what is built in, called; methods; and, or. -/
namespace PLS
open PySem PySem.Spec PyProof.Rows L2

def pName : PL.Pr → String
  | .len => "len"
  | .abs => "abs"
  | .int => "int"
  | .repr => "repr"
  | .tuple => "tuple"
  | .list => "list"
  | .max => "max"
  | .min => "min"
  | .sum => "sum"
  | .any => "any"
  | .all => "all"
  | .sorted => "sorted"
  | .sortedSet => "sorted"
  | .bool => "bool"
  | .str => "str"
  | .dictT => "dict"
def pType : PL.Pr → Bool
  | .int | .tuple | .list | .str | .dictT => true
  | _ => false
def pOk : PL.Pr → Bool
  | .sortedSet | .bool => false
  | _ => true
def pVal (p : PL.Pr) : Value := if pType p then .type (pName p) else .builtin (pName p)
theorem boot_p (p : PL.Pr) (h : pOk p = true) : bootBuiltins (Str.ofString (pName p)) = some (pVal p) := by
  cases p <;> first | (simp [pOk] at h; done) | decide +kernel
section
variable {X : Cx} {RX : RXT} {W : WX} {mk : Mk} {x a b c e : Expr} {es : List Expr} {m ma mb mc : Mn PV} {ms mks : Mn (List PV)} {pos pos2 p p2 : Pos} {E : EXC}
theorem pr_call (hu : X.A.units + 200 < cLine) (hgu : X.A.guards = some []) (hc : X.calm = true) (p : PL.Pr) (h : pOk p = true) : CallR X (pVal p) (rP X.K mk E p) := by
  cases p with
  | len => exact pr_len
  | abs => exact pr_abs
  | int => exact pr_int
  | repr => exact pr_repr hu hgu
  | tuple => exact pr_tuple
  | list => exact pr_list hc
  | max => exact pr_max hu hc
  | min => exact pr_min hu hc
  | sum => exact pr_sum hc
  | any => exact pr_any hc
  | all => exact pr_all hc
  | sorted => exact pr_sorted
  | sortedSet => simp [pOk] at h
  | bool => simp [pOk] at h
  | str => exact pr_str hu hgu
  | dictT => exact pr_dictT hu hc
/-- a call of something known -/
theorem pe_known {f : Value} {r : List V → Hp → VK → Prop} {t : TA} {n : Str} (hf : ∃ id, f = .builtin id ∨ f = .type id) (hc : CallR X f r) (hg : Gl X n) (hm : X.mg n = none) (hv : bootBuiltins n = some f) (ha : PA X (e :: es) t) (hs : (e :: es).any isStar = false)
    (hn : n ≠ "__name__") (hd : (n == ("__debug__" : Str)) = false) : PE X (.Call (.Name n p) (e :: es) [] pos) (tCB r t) := by
  rw [List.any_cons, Bool.or_eq_false_iff] at hs
  obtain ⟨id, rfl | rfl⟩ := hf
  · exact pe_callB hc hg hm hv ha hn hd (starEach_of hs.1 _) (backTo_plain hs.2)
  · exact pe_callTy hc hg hm hv ha hn hd (starEach_of hs.1 _) (backTo_plain hs.2)
theorem rE_pr {q : PL.Pr} (hu : X.A.units + 200 < cLine) (hgu : X.A.guards = some []) (hc : X.calm = true) (hq : pOk q = true) (hg : Gl X (Str.ofString (pName q))) (hm : X.mg (Str.ofString (pName q)) = none)
    (ha : PA X (e :: es) (tIs RX X.K W mk ms)) (hs : (e :: es).any isStar = false) :
    PEB RX X W mk (.Call (.Name (Str.ofString (pName q)) p) (e :: es) [] pos) fun σ M => (ms σ M).bind fun xs M1 => PL.prim M1 q xs := by
  have hb := boot_p q hq
  refine .plain (PE.imp (pe_known (by unfold pVal; cases pType q; exact ⟨pName q, .inl (by simp)⟩; exact ⟨pName q, .inr (by simp)⟩) (CallR.ex fun E => pr_call (E := E) hu hgu hc q hq) hg hm hb ha hs (by cases q <;> decide +kernel) (by cases q <;> decide +kernel)) fun σ H Q ⟨ρ, s, M, re, k, h⟩ =>
    ⟨ρ, s, M, re, k, Post.bind h fun v M1 ρ1 H1 u x1 k1 r1 h1 => ⟨_, ρ1, M1, v, k1, r1, h1⟩⟩) rfl
theorem pe_tyName {T : PL.Ty} {n : Str} (hn : n = Str.ofString (tyS T)) (hg : Gl X n) (hm : X.mg n = none) : PE X (.Name n p) (tC (.ty (tyS T))) := by
  subst hn
  cases T
  all_goals exact pe_bltn hg hm (u := .type _) (by decide +kernel) rfl (by decide +kernel) (by decide +kernel)
theorem rE_isi {T : PL.Ty} {n : Str} (hn : n = Str.ofString (tyS T)) (hg : Gl X n) (hm : X.mg n = none) (hg2 : Gl X "isinstance") (hm2 : X.mg "isinstance" = none) (ha : PE X a (tI RX X.K W mk ma)) (hs : isStar a = false) :
    PEB RX X W mk (.Call (.Name "isinstance" p) [a, .Name n p2] [] pos) fun σ M => (ma σ M).bind fun x M1 => if PL.tyOk M1 x then .ok (.bl (PL.isTy M1 x T)) M1 else .no := by
  have hA : PA X [a, .Name n p2] (tCons (tI RX X.K W mk ma) (tCons (tC (.ty (tyS T))) tNil)) := pa_cons ha (pa_cons (pe_tyName hn hg hm) pa_nil rfl) (starEach_of hs _)
  refine .plain (PE.imp (pe_callB call_isi hg2 hm2 PyProof.Rows.boot_isinstance hA (by decide +kernel) (by decide +kernel) (starEach_of hs _) rfl) fun σ H Q ⟨ρ, s, M, re, k, h⟩ =>
    ⟨ρ, s, M, re, k, Post.bind h fun v M1 ρ1 H1 u x1 k1 r1 h1 => ?_⟩) rfl
  split at h1
  rotate_left
  · exact h1.elim
  rename_i hok
  obtain ⟨tv, h2, h3⟩ := isi_rep k1.rep T r1 hok
  exact ⟨u, .ty (tyS T), _, _, _, rfl, .ty _, h2, kit_ty h3, h1.ok k1 (by simp only [RepV])⟩
theorem rE_sset (hc : X.calm = true) (hg : Gl X "sorted") (hm : X.mg "sorted" = none) (hg2 : Gl X "set") (hm2 : X.mg "set" = none) (ha : PE X a (tI RX X.K W mk ma)) (hs : isStar a = false) :
    PEB RX X W mk (.Call (.Name "sorted" p) [.Call (.Name "set" p2) [a] [] pos2] [] pos) fun σ M => (ma σ M).bind fun x M1 => PL.pSortedSet M1 x := by
  have h1 : PE X (.Call (.Name "set" p2) [a] [] pos2) (tCB (rSetT X.K X.w) (tCons (tI RX X.K W mk ma) tNil)) := pe_callTy (cr_setT hc) hg2 hm2 (by decide +kernel) (pa_cons ha pa_nil (starEach_of hs _)) (by decide +kernel) (by decide +kernel) (starEach_of hs _) rfl
  have h2 := pe_callB (id := "sorted") (p := p) (pos := pos) (cr_sortedSet hc) hg hm (by decide +kernel) (pa_cons h1 pa_nil rfl) (by decide +kernel) (by decide +kernel) rfl rfl
  refine .plain (PE.imp h2 fun σ H Q ⟨ρ, s, M, re, k, h⟩ => ⟨ρ, s, M, re, k, Post.bind h fun v M1 ρ1 H1 u x1 k1 r1 h1 => ?_⟩) rfl
  exact sortedSet_rep k1 r1 h1
/-! ### methods -/
theorem rE_mt {q : PL.Mt} {name : Str} {apos : Pos} (hu : X.A.units + 200 < cLine) (hn : name = Str.ofString (mtName q)) (ha : PE X a (tI RX X.K W mk ma)) (hs : PA X es (tIs RX X.K W mk ms)) (hst : es.any isStar = false) (hlen : es.length < 30)
    (hnil : es = [] → ∀ σ M, ms σ M = .ok [] M) (hcl : isCall a = false) (hline : (apos.endLine == pos.line) = true) :
    PEB RX X W mk (.Call (.Attribute a name apos) es [] pos) fun σ M => (ma σ M).bind fun x M1 => if PL.recvOk M1 q x then (ms σ M1).bind fun xs M2 => PL.meth mk M2 q x xs else .no := by
  subst hn
  refine .plain ⟨fun pins s0 σ H Q I ⟨ρ, s, M, re, k, h⟩ => ?_⟩ rfl
  have few : ((backTo pos (starEach es X.env)).all (fun x => !x.1) && (backToKw pos (keywordEach [] X.env)).all (fun x => x.1.isSome)
      && decide (es.length + ([] : List Keyword).length + (if ([] : List Keyword).isEmpty then 0 else 1) < 30)) = true := by
    rw [backTo_all hst]
    have : decide (es.length + ([] : List Keyword).length + (if ([] : List Keyword).isEmpty then 0 else 1) < 30) = true := decide_eq_true (by simpa using hlen)
    rw [this]; rfl
  refine wpAny_Call_method_late (base_of hcl _ _ _) few hline rfl (thn (ha.run pins s0 σ H (fun u H1 => ∃ ρ1 M1 v T, RepE X.K ρ1 H1 s σ ∧ Ok X.K mk ρ1 H1 M1 ∧ RepV X.K ρ1 H1 v u ∧ PL.tyR M1 v = some T ∧ PL.hasM q T = true ∧
    Post X.K mk (RepV X.K) (EX RX X.K W σ) ρ1 H1 Q ((ms s M1).bind fun xs M2 => PL.meth mk M2 q v xs)) I ⟨ρ, s, M, re, k, Post.bind h fun v M1 ρ1 H1 u x1 k1 r1 h1 => ?_⟩) fun ov s1 ⟨u, H1, I1, ru, ρ1, M1, v, T, re1, k1, r1, hT, hM, h1⟩ => ?_)
  · split at h1
    · rename_i hr
      unfold PL.recvOk at hr
      split at hr
      · rename_i T hT
        exact ⟨ρ1, M1, v, T, re.ext x1, k1, r1, hT, hr, h1⟩
      · cases hr
    · exact h1.elim
  · obtain ⟨f1, f2, f3⟩ := mt_facts T q hM
    obtain ⟨t1, t2⟩ := tyR_at I1 k1.rep r1 ru hT
    refine ⟨_, _, f1, f2, f3, t1, t2, ?_⟩
    have fin : ∀ (us : List Value) (s2 : Shared), AP X pins σ (fun us H2 => rMt X.K mk (EX RX X.K W σ) T q u us H2 Q) us s2 → wpAny (model X.prog X.w) X.A (call (.builtin (mtId T q)) (ov :: us)) (EP X pins σ Q) X.xe s2 :=
      fun us s2 ⟨vs, H2, I2, rv, q2⟩ => mt_all hu T q hM pins s2 σ H2 u vs ov us Q I2 ru rv q2
    have hA := hs.run pos pins s1 σ H1 (fun us H2 => rMt X.K mk (EX RX X.K W σ) T q u us H2 Q) I1 ⟨ρ1, s, M1, re1, k1, Post.bind h1 fun ys M2 ρ2 H2 ws x2 k2 r2 h2 => ⟨ρ2, M2, v, ys, k2, r1.ext x2, r2, tyR_xT hT, h2⟩⟩
    cases es with
    | nil =>
      refine Calls.callWith_builtin rfl (PySem.evalArgs_none ?_)
      rw [hnil rfl] at h1
      exact mt_all hu T q hM pins s1 σ H1 u [] ov [] Q I1 ru .nil ⟨ρ1, M1, v, [], k1, r1, .nil, tyR_xT hT, h1⟩
    | cons e es =>
      have hst2 := hst
      rw [List.any_cons, Bool.or_eq_false_iff] at hst2
      rw [starEach_of hst2.1] at hA ⊢
      exact Calls.callWith_builtin (by show (false || (backTo pos (starEach es X.env)).any (·.1)) = false; rw [backTo_plain hst2.2]; rfl) (Calls.evalArgs_plain (thn hA fun us s2 z => fin us s2 z))
/-! ### and, or -/
structure PWB (RX : RXT) (X : Cx) (W : WX) (mk : Mk) (op : BoolOp) (es : List Expr) (pos : Pos) (m : Mn PV) : Prop where
  v : PE X (.BoolOp op es pos) (tI RX X.K W mk m)
  t : PW X (.BoolOp op es pos) (tIb RX X.K W mk m)
def bOp (o : Bool) : BoolOp := if o then .And else .Or
theorem rB_one {o : Bool} (ha : PEB RX X W mk a ma) : PWB RX X W mk (bOp o) [a] pos fun σ M => (ma σ M).bind fun x M1 => match x with | .bl c => .ok (.bl c) M1 | _ => .no := by
  refine ⟨PE.imp (pe_one ha.v) fun σ H Q ⟨ρ, s, M, re, k, h⟩ => ⟨ρ, s, M, re, k, Post.bind h fun v M1 ρ1 H1 u x1 k1 r1 h1 => ?_⟩, ?_⟩
  · cases v with
    | bl b => exact h1.ok k1 r1
    | _ => exact h1.elim
  · have hp : PW X (.BoolOp (bOp o) [a] pos) (tIb RX X.K W mk ma) := by
      cases o with
      | true => exact pw_and1 ha.t
      | false => exact pw_or1 ha.t
    refine PW.imp hp fun σ H Q ⟨ρ, s, M, re, k, h⟩ => ⟨ρ, s, M, re, k, ?_⟩
    dsimp only at h
    rw [asB_bind] at h
    rcases m_cases (ma s M) with e | ⟨x, M1, e⟩ | ⟨v, M1, e⟩
    · rw [e] at h; exact h.elim
    · rw [e] at h ⊢; exact h
    · rw [e] at h ⊢
      cases v with
      | bl b => exact h
      | _ => exact h.elim
theorem rB_cons {o : Bool} {rest : List Expr} (ha : PEB RX X W mk a ma) (hb : PWB RX X W mk (bOp o) (b :: rest) pos mb) :
    PWB RX X W mk (bOp o) (a :: b :: rest) pos fun σ M => (ma σ M).bind fun x M1 => match x with | .bl c => if c = o then mb σ M1 else .ok (.bl c) M1 | _ => .no := by
  constructor
  · cases o with
    | true =>
      refine PE.imp (pe_and ha.v hb.v) fun σ H Q ⟨ρ, s, M, re, k, h⟩ => ⟨ρ, s, M, re, k, Post.bind h fun v M1 ρ1 H1 u x1 k1 r1 h1 => ?_⟩
      cases v with
      | bl c =>
        simp only [RepV] at r1
        refine ⟨c, r1, ?_⟩
        cases c with
        | true => exact ⟨ρ1, s, M1, re.ext x1, k1, h1⟩
        | false => exact h1.ok k1 (by simp only [RepV])
      | _ => exact h1.elim
    | false =>
      refine PE.imp (pe_or ha.v hb.v) fun σ H Q ⟨ρ, s, M, re, k, h⟩ => ⟨ρ, s, M, re, k, Post.bind h fun v M1 ρ1 H1 u x1 k1 r1 h1 => ?_⟩
      cases v with
      | bl c =>
        simp only [RepV] at r1
        refine ⟨c, r1, ?_⟩
        cases c with
        | true => exact h1.ok k1 (by simp only [RepV])
        | false => exact ⟨ρ1, s, M1, re.ext x1, k1, h1⟩
      | _ => exact h1.elim
  · have key : ∀ {σ : L2.St} {H : Hp} {Q : Bool → Hp → Prop}, tIb RX X.K W mk (fun σ M => (ma σ M).bind fun x M1 => match x with | .bl c => if c = o then mb σ M1 else .ok (.bl c) M1 | _ => .no) σ H Q →
        tIb RX X.K W mk ma σ H fun c H1 => if c = o then tIb RX X.K W mk mb σ H1 Q else Q c H1 := fun {σ H Q} ⟨ρ, s, M, re, k, h⟩ => by
      refine ⟨ρ, s, M, re, k, ?_⟩
      dsimp only at h
      rw [asB_bind] at h
      rcases m_cases (ma s M) with e | ⟨x, M1, e⟩ | ⟨v, M1, e⟩
      · rw [e] at h; exact h.elim
      · rw [e] at h ⊢; exact h
      · rw [e] at h ⊢
        cases v with
        | bl b =>
          exact fun ρ' H' d x' k' r' => by
            subst r'
            have h2 := Post.ext h x'
            rw [PL.R.bind_ok] at h2
            by_cases hb : b = o
            · simp only [if_pos hb] at h2 ⊢
              exact ⟨ρ', s, M1, re.ext x', k', h2⟩
            · simp only [if_neg hb] at h2 ⊢
              exact Post.ok (Rel := fun _ _ (a b : Bool) => a = b) (a := b) h2 k' rfl
        | _ => exact h.elim
    cases o with
    | true =>
      refine PW.imp (pw_and ha.t hb.t) fun σ H Q q => ?_
      obtain ⟨ρ, s, M, re, k, h⟩ := key q
      refine ⟨ρ, s, M, re, k, Post.mono h fun ρ1 H1 c x1 z => ?_⟩
      cases c with
      | true => exact z
      | false => exact z
    | false =>
      refine PW.imp (pw_or ha.t hb.t) fun σ H Q q => ?_
      obtain ⟨ρ, s, M, re, k, h⟩ := key q
      refine ⟨ρ, s, M, re, k, Post.mono h fun ρ1 H1 c x1 z => ?_⟩
      cases c with
      | true => exact z
      | false => exact z
theorem PWB.eb {op : BoolOp} (h : PWB RX X W mk op es pos m) : PEB RX X W mk (.BoolOp op es pos) m := ⟨h.v, h.t.pt⟩
/-! ### list(range(..)) -/
theorem rE_lrng1 (hc : X.calm = true) (hg : Gl X "list") (hm : X.mg "list" = none) (hg2 : Gl X "range") (hm2 : X.mg "range" = none) (ha : PE X a (tI RX X.K W mk ma)) (hs : isStar a = false) :
    PEB RX X W mk (.Call (.Name "list" p) [.Call (.Name "range" p2) [a] [] pos2] [] pos) fun σ M => (ma σ M).bind fun y M2 => match PL.V.int 0, y with
      | .int i, .int j => if PL.rOk i && PL.rOk j && decide ((j - i).toNat ≤ PL.SZ) then PL.alloc (.lst (PL.ranged i (j - i).toNat)) M2 else .no
      | _, _ => .no := by
  refine .plain (PE.imp (pe_listRg hc hg hm (prg_1 hg2 hm2 ha (starEach_of hs _)) rfl) fun σ H Q ⟨ρ, s, M, re, k, h⟩ => ⟨ρ, s, M, re, k, Post.bind h fun v M1 ρ1 H1 u x1 k1 r1 h1 => ?_⟩) rfl
  split at h1
  · rename_i i j e
    simp only [RepV] at r1
    subst r1
    cases e
    split at h1
    · rename_i hr
      simp only [Bool.and_eq_true, PL.rOk, decide_eq_true_eq] at hr
      obtain ⟨⟨⟨a1, a2⟩, a3, a4⟩, a5⟩ := hr
      exact ⟨j, rfl, ⟨a1, a2, a3, a4, a5⟩, fun q n => post_alloc h1 k1 ⟨_, rfl, by
        have := repVs_ints (K := X.K) (ρ := ρ1) (H := H1) ((List.range (j - 0).toNat).map fun t => (0 : Int) + (t : Nat))
        rw [List.map_map, List.map_map] at this
        exact this⟩ q n⟩
    · exact h1.elim
  · exact h1.elim
theorem rE_lrng2 (hc : X.calm = true) (hg : Gl X "list") (hm : X.mg "list" = none) (hg2 : Gl X "range") (hm2 : X.mg "range" = none) (ha : PE X a (tI RX X.K W mk ma)) (hs : isStar a = false) (hb : PE X b (tI RX X.K W mk mb)) (hs2 : isStar b = false) :
    PEB RX X W mk (.Call (.Name "list" p) [.Call (.Name "range" p2) [a, b] [] pos2] [] pos) fun σ M => (ma σ M).bind fun x M1 => (mb σ M1).bind fun y M2 => match x, y with
      | .int i, .int j => if PL.rOk i && PL.rOk j && decide ((j - i).toNat ≤ PL.SZ) then PL.alloc (.lst (PL.ranged i (j - i).toNat)) M2 else .no
      | _, _ => .no := by
  refine .plain (PE.imp (pe_listRg hc hg hm (prg_2 hg2 hm2 ha hb (starEach_of hs _) (starEach_of hs2 _) (backTo_plain (by rw [List.any_cons, hs2]; rfl))) rfl) fun σ H Q ⟨ρ, s, M, re, k, h⟩ => ⟨ρ, s, M, re, k, Post.bind h fun v M1 ρ1 H1 u x1 k1 r1 h1 =>
    ⟨ρ1, s, M1, re.ext x1, k1, Post.bind h1 fun w M2 ρ2 H2 t x2 k2 r2 h2 => ?_⟩⟩) rfl
  split at h2
  · rename_i i j
    simp only [RepV] at r1 r2
    subst r1 r2
    split at h2
    · rename_i hr
      simp only [Bool.and_eq_true, PL.rOk, decide_eq_true_eq] at hr
      obtain ⟨⟨⟨a1, a2⟩, a3, a4⟩, a5⟩ := hr
      exact ⟨i, j, rfl, rfl, ⟨a1, a2, a3, a4, a5⟩, fun q n => post_alloc h2 k2 ⟨_, rfl, by
        have := repVs_ints (K := X.K) (ρ := ρ2) (H := H2) ((List.range (j - i).toNat).map fun t => i + (t : Nat))
        rw [List.map_map, List.map_map] at this
        exact this⟩ q n⟩
    · exact h2.elim
  · exact h2.elim
end
end PLS

/-! PLS14: what is walked; targets. -/
namespace PySem
open Sem (wp)
set_option maxHeartbeats 1000000 in
/-- enumerate(v) of what begins -/
theorem pl_enum_new {v : Value} {o : Obj} {Hv : Heap → Prop} (B : Begins v o Hv) : Meets (Builtin.«enumerate.__new__» ⟨[.type "enumerate", v], []⟩)
    (fun _ R s => Hv s.heap ∧ R (.ok (.ret (.ref (s.heap.push o).objs.size)))
      { s with heap := (s.heap.push o).push { cls := .type "enumerate", data := .fields #[.none, .bool false, .ref s.heap.objs.size, rawInt 0, .none, .none] } }) :=
  .of_wp fun pg wo Ar R s h => by
    obtain ⟨hp, g, d, tk, os⟩ := s; obtain ⟨h1, h2⟩ := h
    have sub := sub_enumerate
    have q1 : ∀ {A' : Around} {E' : Value → Shared → Prop} {Q' : Value → Shared → Prop}, Q' (.ref hp.objs.size) ⟨hp.push o, g, d, tk, os⟩ → wpAny (model pg wo) A' (pyIter v) Q' E' ⟨hp, g, d, tk, os⟩ := fun z => B.iter pg wo _ _ ⟨hp, g, d, tk, os⟩ _ h1 z
    wp_walk using q1
    refine wpAny_stack_any (fun _ => wpAny_pure ?_)
    split
    · rename_i c _ _ _ _ _
      cases (c == Value.type "enumerate") <;> (wp_walk using q1; exact ⟨_, rfl, h2⟩)
    · wp_walk using q1
      exact ⟨_, rfl, h2⟩
theorem pl_enum_call {prog : Program} {w : World} {A : Around} {E : Value → Shared → Prop} {s : Shared} {v : Value} {o : Obj} {Hv : Heap → Prop} {Q : Value → Shared → Prop} (B : Begins v o Hv) (h1 : Hv s.heap)
    (h : ∀ h', IsEnum h' (s.heap.objs.size + 1) s.heap.objs.size 0 .none → h'.get? s.heap.objs.size = some o → (∀ b u, s.heap.get? b = some u → h'.get? b = some u) → Q (.ref (s.heap.objs.size + 1)) { s with heap := h' }) :
    wpAny (model prog w) A (call (.type "enumerate") [v]) Q E s := by
  refine callType_new F.called_enumerate (by decide) (F.typeCall_enumerate_1 _) (F.newCall_enumerate_1 _) (fun obj => F.args_object_init_2 obj _) F.entry_enumerate_new (pl_enum_new B) ⟨h1, ?_⟩
  have hz : (s.heap.push o).objs.size = s.heap.objs.size + 1 := Heap.size_push ..
  have he : IsEnum ((s.heap.push o).push { cls := .type "enumerate", data := .fields #[.none, .bool false, .ref s.heap.objs.size, rawInt 0, .none, .none] }) (s.heap.objs.size + 1) s.heap.objs.size 0 .none := by
    have := Heap.get?_push_size (s.heap.push o) (o := { cls := .type "enumerate", data := .fields #[.none, .bool false, .ref s.heap.objs.size, rawInt 0, .none, .none] }) rfl
    rw [hz] at this; exact this
  show _ ∧ _
  rw [hz]
  exact ⟨⟨_, he, rfl⟩, h _ he (Heap.get?_push_of_some _ (Heap.get?_push_size _ B.free)) fun b u x => Heap.get?_push_of_some _ (Heap.get?_push_of_some _ x)⟩
end PySem
namespace PLS
open PySem PySem.Spec PyProof.Rows L2
/-! ### enumerate(a tuple) -/
def IteT (K : PySem.W.Frag) (a : Addr) : It :=
  ⟨fun i H => ∃ (xs : List V) (x : V), SqT K H a xs ∧ xs[i]? = some x, fun i H v H' => ∃ T x, v = .ref T ∧ H T = none ∧ H' = upd H T (.tup [.int (i : Nat), x]) ∧ ∀ xs, SqT K H a xs → xs[i]? = some x,
   fun i H => ∃ xs : List V, SqT K H a xs ∧ xs.length = i⟩
theorem turn_enumT {P : Program} {w : World} {K : PySem.W.Frag} {elts : List Expr} {kk : Nat} {tpos : Pos} (a e it : Addr) (n1 : e ≠ it) (n2 : e ≠ a) (n3 : a ≠ it) :
    Turn P w K (.Tuple elts kk tpos) (IteT K a) [e, it] e (fun i h => (∃ old, IsEnum h e it ((i : Nat) : Int) old) ∧ h.IsTupleIter it a i) where
  mem := by simp
  obj := fun i h st b hb => by
    obtain ⟨⟨old, he⟩, ⟨o, ho, hc, hd⟩⟩ := st
    rcases (show b = e ∨ b = it by simpa using hb) with z | z
    · rw [z]; exact ⟨_, he, fun v q => nomatch q⟩
    · rw [z]; exact ⟨o, ho, fun v q => by rw [hd] at q; cases q⟩
  keep := fun i h h' st k => let ⟨⟨old, he⟩, hi⟩ := st; ⟨⟨old, k e (by simp) _ he⟩, hi.at fun o q => k it (by simp) o q⟩
  item := by
    intro X hP hw hK hc i pins s σ H E I hf st hg
    subst hP hw hK
    obtain ⟨⟨old, he⟩, hit⟩ := st
    obtain ⟨xs, x, hq, hx⟩ := hg
    obtain ⟨its, rv, p, hz⟩ := I.tuple hq
    obtain ⟨u, hu, ru⟩ := rv.get hx
    have hel : e < s.heap.objs.size := Heap.lt_size he
    have hil : it < s.heap.objs.size := by obtain ⟨_, q, _⟩ := hit; exact Heap.lt_size q
    have hi : i < its.toArray.size := by
      rw [List.size_toArray]
      exact (List.getElem?_eq_some_iff.mp hu).1
    have D := Draws.tuple (prog := X.prog) (w := X.w) (A := X.A.in1) (show X.A.in1.handled = none from I.ok.hd hc) it a n3 its.toArray
    refine wpAny_pyNext_enum_itemD D he ⟨hit, p⟩ hi n1 (by simp [n1, n2]) fun y h' tk hy ho hs hT hsz hk => ?_
    have ey : y = u := by
      have : its[i]? = some y := by simpa using hy
      rw [hu] at this; exact (Option.some.inj this).symm
    subst ey
    refine ⟨_, rfl, wpAny_letOwnedTupleGo_enum (s := { s with heap := h', toks := tk + 1 }) ho fun h'' he' sb => ?_⟩
    have hT2 : h''.get? s.heap.objs.size = some { cls := .type "tuple", data := .seq #[.int i tk, y] } := (sb.2 _ (Nat.ne_of_gt hel)).trans hT
    have new : ObjOk X.prog X.w (upd H s.heap.objs.size (.tup [.int (i : Nat), x])) h'' s.heap.objs.size (.tup [.int (i : Nat), x]) :=
      ⟨by show 2 ≤ sizeLine; decide, [.int i tk, y], .cons ⟨_, rfl⟩ (.cons ru .nil), ⟨_, hT2, rfl, _, rfl⟩⟩
    have I1 : Inv X pins σ (upd H s.heap.objs.size (.tup [.int (i : Nat), x])) { s with heap := h'', toks := tk + 1 } :=
      I.turnedNew (ch := [e, it]) (fun b ob hb q => (sb.2 b (fun z => hb (by simp [z]))).trans (hk b ob (fun z => hb (by simp [z])) (fun z => hb (by simp [z])) q)) hf (Nat.le_refl _) new
    refine ⟨.ref s.heap.objs.size, _, I1, rfl, ⟨_, x, rfl, I.hok.fresh (Nat.le_refl _), rfl, fun ys hy => by rw [I.tuple_inj hy hq]; exact hx⟩, ⟨⟨y, ?_⟩, hs.1.at fun o q => (sb.2 it (Ne.symm n1)).trans q⟩, fun b hb => ?_⟩
    · have e1 : ((i + 1 : Nat) : Int) = (i : Int) + 1 := by omega
      rw [e1]; exact he'
    · have hb' : b < s.heap.objs.size := by
        rcases (show b = e ∨ b = it by simpa using hb) with z | z
        · rw [z]; exact hel
        · rw [z]; exact hil
      rw [upd_ne (Nat.ne_of_lt hb')]
      exact (hf b hb).1
  done := by
    intro X hP hw hK hc i pins s σ H E I hf st hg
    subst hP hw hK
    obtain ⟨⟨old, he⟩, hit⟩ := st
    obtain ⟨xs, hq, hx⟩ := hg
    obtain ⟨its, rv, p, hz⟩ := I.tuple hq
    obtain ⟨f0, f1, f2, f3, f4, f5⟩ := hf it (by simp)
    have hl := rv.length
    have D := Draws.tuple (prog := X.prog) (w := X.w) (A := X.A.in1) (show X.A.in1.handled = none from I.ok.hd hc) it a n3 its.toArray
    refine wpAny_pyNext_enum_endD D (i := (i : Nat)) he ⟨?_, p⟩ fun h' eb => ⟨rfl, I.turned (t' := s.toks) (fun b o hb q => eb b o hb q) f0 f1 f3 f4 f5⟩
    rw [List.size_toArray, ← hl, hx]; exact hit
  self := fun A i s Q E st h => let ⟨⟨_, he⟩, _⟩ := st; wpAny_pyIter_enum he h

/-! ### what is served -/
/-- a pair that lives for a turn -/
def RelX (tr : Bool) (K : PySem.W.Frag) (ρ : List Addr) (H : Hp) (v : PV) (u : V) : Prop := RepV K ρ H v u ∨ (tr = true ∧ ∃ xs p us, v = .tup xs ∧ u = .ref p ∧ SqT K H p us ∧ RepVs K ρ H xs us)
def Serve (tr : Bool) (K : PySem.W.Frag) (mk : Mk) (ρ : List Addr) (H : Hp) (src : PL.Src) (J : It) : Prop :=
  ∀ (i : Nat) ρ' H' M', Ext ρ H ρ' H' → Ok K mk ρ' H' M' → PL.watched src.2 M' = true →
    (∀ v, src.1[i]? = some v → J.go i H' ∧ ∀ u H'', J.yld i H' u H'' → Ext ρ' H' ρ' H'' ∧ Ok K mk ρ' H'' M' ∧ RelX tr K ρ' H'' v u) ∧ (i = src.1.length → J.stop i H')
theorem Serve.ext {tr : Bool} {K : PySem.W.Frag} {mk : Mk} {ρ ρ1 : List Addr} {H H1 : Hp} {src : PL.Src} {J : It} (h : Serve tr K mk ρ H src J) (x : Ext ρ H ρ1 H1) : Serve tr K mk ρ1 H1 src J :=
  fun i ρ' H' M' x' k' w => h i ρ' H' M' (x.trans x') k' w
section
variable {K : PySem.W.Frag} {mk : Mk} {ρ ρ' : List Addr} {H H' : Hp} {M M' : PL.Mem} {a : Addr} {us : List V} {xs : List PV}
/-- how the items stand at a turn -/
def Stands (mk : Mk) (K : PySem.W.Frag) (ρ : List Addr) (H : Hp) (Sq : Hp → List V → Prop) (src : PL.Src) : Prop := ∀ ρ' H' M', Ext ρ H ρ' H' → Ok K mk ρ' H' M' → PL.watched src.2 M' = true → ∃ us, Sq H' us ∧ RepVs K ρ' H' src.1 us
theorem stands_src (k : Ok K mk ρ H M) {v : PV} {u : V} {src : PL.Src} (r : RepV K ρ H v u) (e : PL.srcOf M v = some src) :
    ∃ a, u = .ref a ∧ ((PL.isT v = false ∧ Stands mk K ρ H (fun H us => SqL K H a us) src) ∨ (PL.isT v = true ∧ Stands mk K ρ H (fun H us => SqT K H a us) src)) := by
  unfold PL.srcOf at e
  split at e
  · obtain rfl := Option.some.inj e
    simp only [RepV] at r
    obtain ⟨a, o, us, rfl, h1, h2, n, rs⟩ := r
    exact ⟨a, rfl, .inr ⟨rfl, fun ρ' H' M' x k' w => ⟨us, .inl (.inr ⟨o, (x.keep _ _ h1 n).1⟩), rs.ext x⟩⟩⟩
  · obtain rfl := Option.some.inj e
    simp only [RepV] at r
    obtain ⟨a, us, rfl, h1, n, rs⟩ := r
    exact ⟨a, rfl, .inl ⟨rfl, fun ρ' H' M' x k' w => ⟨us, .inl (.inl (x.keep _ _ h1 n).1), rs.ext x⟩⟩⟩
  · obtain rfl := Option.some.inj e
    simp only [RepV] at r
    obtain ⟨a, us, rfl, h1, rs⟩ := r
    exact ⟨a, rfl, .inr ⟨rfl, fun ρ' H' M' x k' w => ⟨us, .inr h1, rs.ext x⟩⟩⟩
  · obtain rfl := Option.some.inj e
    simp only [RepV] at r
    obtain ⟨a, us, rfl, h1, rs⟩ := r
    refine ⟨a, rfl, .inl ⟨rfl, fun ρ' H' M' x k' w => ⟨us, ?_, rs.ext x⟩⟩⟩
    rcases h1 with ⟨o, q1, q2⟩ | h1
    · exact .inl (.inr ⟨o, (x.keep _ _ q1 q2).1⟩)
    · exact .inr h1
  · rename_i i
    split at e
    · rename_i xs hm
      obtain rfl := Option.some.inj e
      obtain ⟨a, h1, rfl⟩ := ref_at r
      refine ⟨a, rfl, .inl ⟨rfl, fun ρ' H' M' x k' w => ?_⟩⟩
      have hm' : M'[i]? = some (.lst xs) := by simpa [PL.watched] using w
      obtain ⟨b, us, h2, h3, h4⟩ := k'.rep.lst hm'
      rw [x.at h1] at h2
      obtain rfl := Option.some.inj h2
      exact ⟨us, .inl (.inl h3), h4⟩
    · cases e
  · cases e
theorem serve_list {src : PL.Src} (h : Stands mk K ρ H (fun H us => SqL K H a us) src) : Serve false K mk ρ H src (Itl K a) := fun i ρ' H' M' x k w => by
  obtain ⟨us, hs, rs⟩ := h ρ' H' M' x k w
  refine ⟨fun v hv => ?_, fun e => ⟨us, hs, by rw [← rs.length, e]; exact Nat.le_refl _⟩⟩
  obtain ⟨u, hu, ru⟩ := rs.get hv
  refine ⟨⟨us, u, hs, hu⟩, fun t H'' ⟨eH, ht⟩ => ?_⟩
  subst eH
  have := ht us hs
  rw [hu] at this
  obtain rfl := Option.some.inj this
  exact ⟨.refl, k, .inl ru⟩
theorem serve_tup {src : PL.Src} (h : Stands mk K ρ H (fun H us => SqT K H a us) src) : Serve false K mk ρ H src (Itt K a) := fun i ρ' H' M' x k w => by
  obtain ⟨us, hs, rs⟩ := h ρ' H' M' x k w
  refine ⟨fun v hv => ?_, fun e => ⟨us, hs, by rw [← rs.length, e]; exact Nat.le_refl _⟩⟩
  obtain ⟨u, hu, ru⟩ := rs.get hv
  refine ⟨⟨us, u, hs, hu⟩, fun t H'' ⟨eH, ht⟩ => ?_⟩
  subst eH
  have := ht us hs
  rw [hu] at this
  obtain rfl := Option.some.inj this
  exact ⟨.refl, k, .inl ru⟩
theorem ranged_get {lo : Int} {n i : Nat} {v : PV} (h : (PL.ranged lo n)[i]? = some v) : i < n ∧ v = .int (lo + (i : Nat)) := by
  unfold PL.ranged at h
  rw [List.getElem?_map, Option.map_eq_some_iff] at h
  obtain ⟨j, e1, e2⟩ := h
  obtain ⟨h1, h2⟩ := List.getElem?_eq_some_iff.mp e1
  rw [List.length_range] at h1
  simp only [List.getElem_range] at h2
  subst h2
  exact ⟨h1, e2.symm⟩
theorem ranged_len (lo : Int) (n : Nat) : (PL.ranged lo n).length = n := by simp [PL.ranged]
theorem serve_range (lo : Int) (n : Nat) : Serve false K mk ρ H (PL.ranged lo n, []) (Itr lo n) := fun i ρ' H' M' x k w => by
  refine ⟨fun v hv => ?_, fun e => ?_⟩
  · obtain ⟨h1, rfl⟩ := ranged_get hv
    refine ⟨h1, fun t H'' ⟨eH, ht⟩ => ?_⟩
    subst eH; subst ht
    exact ⟨.refl, k, .inl (by simp only [RepV])⟩
  · show n ≤ i
    rw [e]; exact Nat.le_of_eq (ranged_len lo n).symm
theorem serve_down (lo : Int) (n : Nat) : Serve false K mk ρ H ((List.range n).map fun k => PL.V.int (lo - (k : Nat)), []) (Itc lo (-1) n) := fun i ρ' H' M' x k w => by
  refine ⟨fun v hv => ?_, fun e => ?_⟩
  · dsimp only at hv
    rw [List.getElem?_map, Option.map_eq_some_iff] at hv
    obtain ⟨j, e1, rfl⟩ := hv
    obtain ⟨h1, h2⟩ := List.getElem?_eq_some_iff.mp e1
    rw [List.length_range] at h1
    simp only [List.getElem_range] at h2
    subst h2
    refine ⟨h1, fun t H'' ⟨eH, ht⟩ => ?_⟩
    subst eH; subst ht
    refine ⟨.refl, k, .inl ?_⟩
    simp only [RepV]
    congr 1
    omega
  · show n ≤ i
    rw [e]; simp
/-- a pair that was just laid -/
theorem laid_pair {T : Addr} {x y : PV} {u w : V} (k : Ok K mk ρ H M) (n : H T = none) (rx : RepV K ρ H x u) (ry : RepV K ρ H y w) : Ext ρ H ρ (upd H T (.tup [u, w])) ∧ Ok K mk ρ (upd H T (.tup [u, w])) M ∧ RelX true K ρ (upd H T (.tup [u, w])) (.tup [x, y]) (.ref T) :=
  ⟨Ext.new k.rep n, k.new n, .inr ⟨rfl, _, T, [u, w], rfl, rfl, .inl (.inl upd_same), .cons (rx.ext (Ext.new k.rep n)) (.cons (ry.ext (Ext.new k.rep n)) .nil)⟩⟩
theorem enumed_get : ∀ {xs : List PV} {n i : Nat} {v : PV}, (PL.enumed n xs)[i]? = some v → ∃ x, xs[i]? = some x ∧ v = .tup [.int ((n + i : Nat) : Int), x]
  | [], n, i, v, h => by simp [PL.enumed] at h
  | x :: xs, n, 0, v, h => by simp [PL.enumed] at h; exact ⟨x, rfl, h.symm⟩
  | x :: xs, n, i + 1, v, h => by
    simp only [PL.enumed, List.getElem?_cons_succ] at h
    obtain ⟨y, h1, h2⟩ := enumed_get h
    exact ⟨y, by simpa using h1, by rw [h2]; congr 4; omega⟩
theorem enumed_len : ∀ {xs : List PV} {n : Nat}, (PL.enumed n xs).length = xs.length
  | [], n => rfl
  | x :: xs, n => by simp only [PL.enumed, List.length_cons, enumed_len]
theorem zipped_get : ∀ {xs ys : List PV} {i : Nat} {v : PV}, (PL.zipped xs ys)[i]? = some v → ∃ x y, xs[i]? = some x ∧ ys[i]? = some y ∧ v = .tup [x, y]
  | [], ys, i, v, h => by simp [PL.zipped] at h
  | x :: xs, [], i, v, h => by simp [PL.zipped] at h
  | x :: xs, y :: ys, 0, v, h => by simp [PL.zipped] at h; exact ⟨x, y, rfl, rfl, h.symm⟩
  | x :: xs, y :: ys, i + 1, v, h => by
    simp only [PL.zipped, List.getElem?_cons_succ] at h
    obtain ⟨a, b, h1, h2, h3⟩ := zipped_get h
    exact ⟨a, b, by simpa using h1, by simpa using h2, h3⟩
theorem zipped_len : ∀ {xs ys : List PV}, (PL.zipped xs ys).length = min xs.length ys.length
  | [], ys => by simp [PL.zipped]
  | x :: xs, [] => by simp [PL.zipped]
  | x :: xs, y :: ys => by simp only [PL.zipped, List.length_cons, zipped_len]; omega
theorem serve_enumL {src : PL.Src} (h : Stands mk K ρ H (fun H us => SqL K H a us) src) : Serve true K mk ρ H (PL.enumed 0 src.1, src.2) (Ite K a) := fun i ρ' H' M' x k w => by
  obtain ⟨us, hs, rs⟩ := h ρ' H' M' x k w
  refine ⟨fun v hv => ?_, fun e => ⟨us, hs, by rw [← rs.length, e, enumed_len]; exact Nat.le_refl _⟩⟩
  obtain ⟨y, hy, rfl⟩ := enumed_get hv
  obtain ⟨u, hu, ru⟩ := rs.get hy
  refine ⟨⟨us, u, hs, hu⟩, fun t H'' ⟨T, z, et, nT, eH, ht⟩ => ?_⟩
  subst eH; subst et
  have := ht us hs
  rw [hu] at this
  obtain rfl := Option.some.inj this
  exact laid_pair k nT (by simp only [RepV, Nat.zero_add]) ru
theorem serve_enumT {src : PL.Src} (h : Stands mk K ρ H (fun H us => SqT K H a us) src) : Serve true K mk ρ H (PL.enumed 0 src.1, src.2) (IteT K a) := fun i ρ' H' M' x k w => by
  obtain ⟨us, hs, rs⟩ := h ρ' H' M' x k w
  refine ⟨fun v hv => ?_, fun e => ⟨us, hs, by rw [← rs.length, e, enumed_len]⟩⟩
  obtain ⟨y, hy, rfl⟩ := enumed_get hv
  obtain ⟨u, hu, ru⟩ := rs.get hy
  refine ⟨⟨us, u, hs, hu⟩, fun t H'' ⟨T, z, et, nT, eH, ht⟩ => ?_⟩
  subst eH; subst et
  have := ht us hs
  rw [hu] at this
  obtain rfl := Option.some.inj this
  exact laid_pair k nT (by simp only [RepV, Nat.zero_add]) ru
theorem watched_app {w1 w2 : List (Nat × List PV)} (h : PL.watched (w1 ++ w2) M = true) : PL.watched w1 M = true ∧ PL.watched w2 M = true := by
  unfold PL.watched at h ⊢
  rw [List.all_append, Bool.and_eq_true] at h
  exact h
theorem serve_zipL {b : Addr} {s1 s2 : PL.Src} (h : Stands mk K ρ H (fun H us => SqL K H a us) s1) (g : Stands mk K ρ H (fun H us => SqL K H b us) s2) : Serve true K mk ρ H (PL.zipped s1.1 s2.1, s1.2 ++ s2.2) (Itz K a b) := fun i ρ' H' M' x k w => by
  obtain ⟨w1, w2⟩ := watched_app w
  obtain ⟨us, hs, rs⟩ := h ρ' H' M' x k w1
  obtain ⟨ws, ht, rt⟩ := g ρ' H' M' x k w2
  refine ⟨fun v hv => ?_, fun e => ⟨us, ws, hs, ht, ?_⟩⟩
  · obtain ⟨y, z, hy, hz, rfl⟩ := zipped_get hv
    obtain ⟨u, hu, ru⟩ := rs.get hy
    obtain ⟨o, ho, ro⟩ := rt.get hz
    refine ⟨⟨us, ws, u, o, hs, ht, hu, ho⟩, fun t H'' ⟨T, u', o', et, nT, eH, q1, q2⟩ => ?_⟩
    subst eH; subst et
    have e1 := q1 us hs
    have e2 := q2 ws ht
    rw [hu] at e1; rw [ho] at e2
    obtain rfl := Option.some.inj e1
    obtain rfl := Option.some.inj e2
    exact laid_pair k nT ru ro
  · rw [zipped_len] at e
    rw [← rs.length, ← rt.length]; omega
theorem serve_zipT {b : Addr} {s1 s2 : PL.Src} (h : Stands mk K ρ H (fun H us => SqT K H a us) s1) (g : Stands mk K ρ H (fun H us => SqT K H b us) s2) : Serve true K mk ρ H (PL.zipped s1.1 s2.1, s1.2 ++ s2.2) (RZ.ItzT K a b) := fun i ρ' H' M' x k w => by
  obtain ⟨w1, w2⟩ := watched_app w
  obtain ⟨us, hs, rs⟩ := h ρ' H' M' x k w1
  obtain ⟨ws, ht, rt⟩ := g ρ' H' M' x k w2
  refine ⟨fun v hv => ?_, fun e => ⟨us, ws, hs, ht, ?_⟩⟩
  · obtain ⟨y, z, hy, hz, rfl⟩ := zipped_get hv
    obtain ⟨u, hu, ru⟩ := rs.get hy
    obtain ⟨o, ho, ro⟩ := rt.get hz
    refine ⟨⟨us, ws, u, o, hs, ht, hu, ho⟩, fun t H'' ⟨T, u', o', et, nT, eH, q1, q2⟩ => ?_⟩
    subst eH; subst et
    have e1 := q1 us hs
    have e2 := q2 ws ht
    rw [hu] at e1; rw [ho] at e2
    obtain rfl := Option.some.inj e1
    obtain rfl := Option.some.inj e2
    exact laid_pair k nT ru ro
  · rw [zipped_len] at e
    rw [← rs.length, ← rt.length]; omega
end
end PLS

/-! PLS15: the rules of what is walked; targets. -/
namespace PLS
open PySem PySem.Spec PyProof.Rows L2
def iS (RX : RXT) (K : PySem.W.Frag) (W : WX) (mk : Mk) (tr : Bool) (m : Mn PL.Src) : TI := fun s H R => ∃ ρ σ M, RepE K ρ H σ s ∧ Ok K mk ρ H M ∧ Post K mk (fun ρ' H' src J => Serve tr K mk ρ' H' src J) (EX RX K W s) ρ H R (m σ M)
theorem PI.imp {X : Cx} {tg e : Expr} {t t' : TI} (h : PI X tg e t) (i : ∀ σ H R, t' σ H R → t σ H R) : PI X tg e t' := ⟨fun pins s σ H R I q => h.run pins s σ H R I (i σ H R q)⟩
section
variable {X : Cx} {RX : RXT} {W : WX} {mk : Mk} {tg x a b c e : Expr} {es : List Expr} {m ma mb mc : Mn PV} {ms mks : Mn (List PV)} {pos pos2 p p2 tpos : Pos} {elts : List Expr} {kk : Nat}
theorem srcOf_watched {M : PL.Mem} {v : PV} {src : PL.Src} (e : PL.srcOf M v = some src) : PL.watched src.2 M = true := by
  unfold PL.srcOf at e
  split at e
  · obtain rfl := Option.some.inj e; rfl
  · obtain rfl := Option.some.inj e; rfl
  · obtain rfl := Option.some.inj e; rfl
  · obtain rfl := Option.some.inj e; rfl
  · split at e
    · rename_i xs hm
      obtain rfl := Option.some.inj e
      simp [PL.watched, hm]
    · cases e
  · cases e
theorem stands_ex {K : PySem.W.Frag} {ρ : List Addr} {H : Hp} {M : PL.Mem} {Sq : Hp → List V → Prop} {src : PL.Src} (q : Stands mk K ρ H Sq src) (k : Ok K mk ρ H M) (w : PL.watched src.2 M = true) : ∃ us, Sq H us :=
  let ⟨us, h, _⟩ := q ρ H M .refl k w; ⟨us, h⟩
theorem rI_of (ha : PE X a (tI RX X.K W mk ma)) : PI X tg a (iS RX X.K W mk false fun σ M => (ma σ M).bind fun x M1 => PL.src1 M1 x) := by
  refine ⟨fun pins s0 σ H R I ⟨ρ, s, M, re, k, h⟩ => ?_⟩
  have h' : tI RX X.K W mk ma σ H fun u H1 => ∃ a, u = .ref a ∧ (((∃ xs, SqL X.K H1 a xs) ∧ R (Itl X.K a) H1) ∨ ((∃ xs, SqT X.K H1 a xs) ∧ R (Itt X.K a) H1)) :=
    ⟨ρ, s, M, re, k, Post.bind h fun v M1 ρ1 H1 u x1 k1 r1 h1 => by
      unfold PL.src1 at h1
      split at h1
      · rename_i src e
        obtain ⟨a, rfl, ⟨_, q⟩ | ⟨_, q⟩⟩ := stands_src k1 r1 e
        · exact ⟨a, rfl, .inl ⟨stands_ex q k1 (srcOf_watched e), h1.ok k1 (serve_list q)⟩⟩
        · exact ⟨a, rfl, .inr ⟨stands_ex q k1 (srcOf_watched e), h1.ok k1 (serve_tup q)⟩⟩
      · exact h1.elim⟩
  refine thn (ha.run pins s0 σ H _ I h') fun v s1 ⟨x, H1, I1, r1, a, ex, q⟩ => ?_
  subst ex
  cases r1
  rcases q with ⟨⟨xs, hq⟩, q⟩ | ⟨⟨xs, hq⟩, q⟩
  · obtain ⟨its, rv, p, hz⟩ := I1.list hq
    exact wpAny_pyIter_list p.isList (pi_one (tk := s1.toks) I1 _ (turn_list a _) ⟨_, Heap.get?_push_size _ rfl, rfl, rfl⟩ q)
  · obtain ⟨its, rv, p, hz⟩ := I1.tuple hq
    exact wpAny_pyIter_tuple (show s1.heap.IsTuple a its.toArray from p) (pi_one (tk := s1.toks) I1 _ (turn_tuple a _) ⟨_, Heap.get?_push_size _ rfl, rfl, rfl⟩ q)
theorem rOk_iff {i : Int} (h : PL.rOk i = true) : -(2 ^ 62) ≤ i ∧ i < 2 ^ 62 := by
  simp only [PL.rOk, Bool.and_eq_true, decide_eq_true_eq] at h
  exact h
theorem rI_rng1 (hg : Gl X "range") (hm : X.mg "range" = none) (ha : PE X a (tI RX X.K W mk ma)) (hs : isStar a = false) :
    PI X tg (.Call (.Name "range" p) [a] [] pos) (iS RX X.K W mk false fun σ M => (ma σ M).bind fun x M1 => PL.srcR M1 (.int 0) x) := by
  refine PI.imp (pi_range1 hg hm (pa_cons ha pa_nil (starEach_of hs _)) (starEach_of hs _)) fun σ H R ⟨ρ, s, M, re, k, h⟩ => ⟨ρ, s, M, re, k, Post.bind h fun v M1 ρ1 H1 u x1 k1 r1 h1 => ?_⟩
  unfold PL.srcR at h1
  split at h1
  · rename_i i j e
    cases e
    simp only [RepV] at r1
    subst r1
    split at h1
    · rename_i hr
      rw [Bool.and_eq_true] at hr
      obtain ⟨b1, b2⟩ := rOk_iff hr.2
      rw [Int.sub_zero] at h1
      exact ⟨j, rfl, b1, b2, h1.ok k1 (serve_range 0 j.toNat)⟩
    · exact h1.elim
  · exact h1.elim
theorem rI_rng2 (hg : Gl X "range") (hm : X.mg "range" = none) (ha : PE X a (tI RX X.K W mk ma)) (hs : isStar a = false) (hb : PE X b (tI RX X.K W mk mb)) (hs2 : isStar b = false) :
    PI X tg (.Call (.Name "range" p) [a, b] [] pos) (iS RX X.K W mk false fun σ M => (ma σ M).bind fun x M1 => (mb σ M1).bind fun y M2 => PL.srcR M2 x y) := by
  refine PI.imp (pi_range2 hg hm (pa_cons ha (pa_cons hb pa_nil (starEach_of hs2 _)) (starEach_of hs _)) (by rw [starEach_of hs, starEach_of hs2]; rfl) (starEach_of hs2 _)) fun σ H R ⟨ρ, s, M, re, k, h⟩ =>
    ⟨ρ, s, M, re, k, Post.bind h fun v M1 ρ1 H1 u x1 k1 r1 h1 => ⟨ρ1, s, M1, re.ext x1, k1, Post.bind h1 fun w M2 ρ2 H2 t x2 k2 r2 h2 => ?_⟩⟩
  unfold PL.srcR at h2
  split at h2
  · rename_i i j
    simp only [RepV] at r1 r2
    subst r1 r2
    split at h2
    · rename_i hr
      rw [Bool.and_eq_true] at hr
      obtain ⟨a1, a2⟩ := rOk_iff hr.1
      obtain ⟨b1, b2⟩ := rOk_iff hr.2
      exact ⟨i, j, rfl, ⟨a1, a2, b1, b2⟩, h2.ok k2 (serve_range i _)⟩
    · exact h2.elim
  · exact h2.elim
theorem rI_rng3 (hg : Gl X "range") (hm : X.mg "range" = none) (ha : PE X a (tI RX X.K W mk ma)) (hs : isStar a = false) (hb : PE X b (tI RX X.K W mk mb)) (hs2 : isStar b = false) (hc : PE X c (tI RX X.K W mk mc)) (hs3 : isStar c = false) :
    PI X tg (.Call (.Name "range" p) [a, b, c] [] pos) (iS RX X.K W mk false fun σ M => (ma σ M).bind fun x M1 => (mb σ M1).bind fun y M2 => (mc σ M2).bind fun z M3 => PL.srcR3 M3 x y z) := by
  refine PI.imp (pi_range3 hg hm (pa_cons ha (pa_cons hb (pa_cons hc pa_nil (starEach_of hs3 _)) (starEach_of hs2 _)) (starEach_of hs _)) (starEach_of hs _) (backTo_plain (by rw [List.any_cons, List.any_cons, hs2, hs3]; rfl))) fun σ H R ⟨ρ, s, M, re, k, h⟩ =>
    ⟨ρ, s, M, re, k, Post.bind h fun v M1 ρ1 H1 u x1 k1 r1 h1 => ⟨ρ1, s, M1, re.ext x1, k1, Post.bind h1 fun w M2 ρ2 H2 t x2 k2 r2 h2 => ⟨ρ2, s, M2, (re.ext x1).ext x2, k2, Post.bind h2 fun z M3 ρ3 H3 o x3 k3 r3 h3 => ?_⟩⟩⟩
  unfold PL.srcR3 at h3
  split at h3
  · rename_i i j q
    simp only [RepV] at r1 r2 r3
    subst r1 r2 r3
    split at h3
    · rename_i hr
      simp only [Bool.and_eq_true, decide_eq_true_eq] at hr
      obtain ⟨a1, a2⟩ := rOk_iff hr.1.1
      obtain ⟨b1, b2⟩ := rOk_iff hr.1.2
      obtain rfl := hr.2
      exact ⟨i, j, -1, _, rfl, RgC.neg a1 a2 b1 b2, h3.ok k3 (serve_down i _)⟩
    · exact h3.elim
  · exact h3.elim
theorem rI_enum (hg : Gl X "enumerate") (hm : X.mg "enumerate" = none) (ha : PE X a (tI RX X.K W mk ma)) (hs : isStar a = false) :
    PI X (.Tuple elts kk tpos) (.Call (.Name "enumerate" p) [a] [] pos) (iS RX X.K W mk true fun σ M => (ma σ M).bind fun x M1 => PL.srcE M1 x) := by
  refine ⟨fun pins s0 σ H R I ⟨ρ, s, M, re, k, h⟩ => ?_⟩
  have h' : tI RX X.K W mk ma σ H fun u H1 => ∃ a, u = .ref a ∧ (((∃ xs, SqL X.K H1 a xs) ∧ R (Ite X.K a) H1) ∨ ((∃ xs, SqT X.K H1 a xs) ∧ R (IteT X.K a) H1)) :=
    ⟨ρ, s, M, re, k, Post.bind h fun v M1 ρ1 H1 u x1 k1 r1 h1 => by
      unfold PL.srcE at h1
      split at h1
      · rename_i src e
        obtain ⟨a, rfl, ⟨_, q⟩ | ⟨_, q⟩⟩ := stands_src k1 r1 e
        · exact ⟨a, rfl, .inl ⟨stands_ex q k1 (srcOf_watched e), h1.ok k1 (serve_enumL q)⟩⟩
        · exact ⟨a, rfl, .inr ⟨stands_ex q k1 (srcOf_watched e), h1.ok k1 (serve_enumT q)⟩⟩
      · exact h1.elim⟩
  have hp : PA X [a] (tCons (tI RX X.K W mk ma) tNil) := pa_cons ha pa_nil (starEach_of hs _)
  refine Call_ (ld_blt I hg hm PyProof.Rows.boot_enumerate (PyProof.Rows.callWith_type1 (thn (hp.run pos pins s0 σ H (fun us H1 => ∃ u, us = [u] ∧ ∃ a, u = .ref a ∧ (((∃ xs, SqL X.K H1 a xs) ∧ R (Ite X.K a) H1) ∨ ((∃ xs, SqT X.K H1 a xs) ∧ R (IteT X.K a) H1))) I ?_) fun us s1 ⟨vs, H1, I1, r1, u, ev, a, eu, q⟩ => ?_) (starEach_of hs _) rfl))
  · obtain ⟨ρ', s', M', re', k', h''⟩ := h'
    exact ⟨ρ', s', M', re', k', Post.mono h'' fun ρ1 H1 b x1 z => ⟨b, rfl, z⟩⟩
  subst ev; subst eu
  obtain ⟨v, rfl, rv⟩ := vals1 r1
  cases rv
  have fresh2 : ∀ b, b ∈ [s1.heap.objs.size + 1, s1.heap.objs.size] → FpOk X pins H1 b := fun b hb => by
    have hle : s1.heap.objs.size ≤ b := by
      rcases (show b = s1.heap.objs.size + 1 ∨ b = s1.heap.objs.size by simpa using hb) with z | z
      · rw [z]; exact Nat.le_add_right _ _
      · rw [z]; exact Nat.le_refl _
    exact I1.fpOk hle (I1.hok.fresh hle)
  rcases q with ⟨⟨xs, hq⟩, q⟩ | ⟨⟨xs, hq⟩, q⟩
  · obtain ⟨its, rv, pl, hz⟩ := I1.list hq
    refine call_enumerate_list pl.isList fun h1 he hit hsz hk => wpAny_pyIter_enum he ?_
    have I2 : Inv X pins σ H1 { s1 with heap := h1 } := I1.kept (t' := s1.toks) hk
    exact ⟨s1.heap.objs.size + 1, _, _, _, H1, rfl, I2, turn_enum a (s1.heap.objs.size + 1) s1.heap.objs.size, ⟨⟨.none, he⟩, hit, Nat.succ_ne_self _⟩, fresh2, q⟩
  · obtain ⟨its, rv, pl, hz⟩ := I1.tuple hq
    have hal : a < s1.heap.objs.size := by obtain ⟨o, ho, _⟩ := id pl; exact Heap.lt_size ho
    refine pl_enum_call (begins_tuple a its.toArray) pl fun h1 he hit hk => wpAny_pyIter_enum he ?_
    have I2 : Inv X pins σ H1 { s1 with heap := h1 } := I1.kept (t' := s1.toks) hk
    exact ⟨s1.heap.objs.size + 1, _, _, _, H1, rfl, I2, turn_enumT a (s1.heap.objs.size + 1) s1.heap.objs.size (Nat.succ_ne_self _) (Nat.ne_of_gt (Nat.lt_succ_of_lt hal)) (Nat.ne_of_lt hal), ⟨⟨.none, he⟩, ⟨_, hit, rfl, rfl⟩⟩, fresh2, q⟩
theorem rI_zip (hg : Gl X "zip") (hm : X.mg "zip" = none) (ha : PE X a (tI RX X.K W mk ma)) (hs : isStar a = false) (hb : PE X b (tI RX X.K W mk mb)) (hs2 : isStar b = false) :
    PI X (.Tuple elts kk tpos) (.Call (.Name "zip" p) [a, b] [] pos) (iS RX X.K W mk true fun σ M => (ma σ M).bind fun x M1 => (mb σ M1).bind fun y M2 => PL.srcZ M2 x y) := by
  refine PI.imp (RZ.pi_zipA hg hm (pa_cons ha (pa_cons hb pa_nil (starEach_of hs2 _)) (starEach_of hs _)) (starEach_of hs _) (backTo_plain (by rw [List.any_cons, hs2]; rfl))) fun σ H R ⟨ρ, s, M, re, k, h⟩ =>
    ⟨ρ, s, M, re, k, Post.bind h fun v M1 ρ1 H1 u x1 k1 r1 h1 => ⟨ρ1, s, M1, re.ext x1, k1, Post.bind h1 fun w M2 ρ2 H2 t x2 k2 r2 h2 => ?_⟩⟩
  unfold PL.srcZ at h2
  split at h2
  · rename_i s1 s2 e1 e2
    split at h2
    · rename_i et
      obtain ⟨c, rfl, ⟨t1, q⟩ | ⟨t1, q⟩⟩ := stands_src k2 (r1.ext x2) e1
      · obtain ⟨d, rfl, ⟨t2, q'⟩ | ⟨t2, q'⟩⟩ := stands_src k2 r2 e2
        · obtain ⟨us, hu⟩ := stands_ex q k2 (srcOf_watched e1)
          obtain ⟨ws, hw⟩ := stands_ex q' k2 (srcOf_watched e2)
          exact ⟨c, d, us, ws, rfl, .inl ⟨hu, hw, h2.ok k2 (serve_zipL q q')⟩⟩
        · rw [t1, t2] at et; cases et
      · obtain ⟨d, rfl, ⟨t2, q'⟩ | ⟨t2, q'⟩⟩ := stands_src k2 r2 e2
        · rw [t1, t2] at et; cases et
        · obtain ⟨us, hu⟩ := stands_ex q k2 (srcOf_watched e1)
          obtain ⟨ws, hw⟩ := stands_ex q' k2 (srcOf_watched e2)
          exact ⟨c, d, us, ws, rfl, .inr ⟨hu, hw, h2.ok k2 (serve_zipT q q')⟩⟩
    · exact h2.elim
  · exact h2.elim
end
end PLS

/-! PLS16: targets, comprehensions. -/
namespace PLS
open PySem PySem.Spec PyProof.Rows L2
/-- what is known of the names -/
structure Ctx where
  N : List Str
  sc : Scope
  fb : Str → Bool
def isLoc (Γ : Ctx) (n : Str) : Bool := decide (Γ.sc.names.lookup n = some .local) || (decide (Γ.sc.names.lookup n = some .cell) && Γ.fb n)
def isVis (Γ : Ctx) (n : Str) : Bool := decide (Γ.sc.names.lookup n = some .local) || decide (Γ.sc.names.lookup n = some .cell) || decide (Γ.sc.names.lookup n = some .free)
def isGl (Γ : Ctx) (n : Str) : Bool := decide (Γ.sc.names.lookup n = some .globalImplicit)
structure CtxOk (Γ : Ctx) (X : Cx) : Prop where
  nd : X.N.Nodup
  N : X.N = Γ.N
  sc : X.env.scope = Γ.sc
  fb : ∀ n, Γ.fb n = true → X.fn n = true
theorem CtxOk.vis {Γ : Ctx} {X : Cx} (h : CtxOk Γ X) {n : Str} (e : isVis Γ n = true) : Vis X.env.scope n := by
  simp only [isVis, Bool.or_eq_true, decide_eq_true_eq] at e
  unfold Vis
  rw [h.sc]
  rcases e with (e | e) | e
  · exact .inl e
  · exact .inr (.inl e)
  · exact .inr (.inr e)
theorem CtxOk.gl {Γ : Ctx} {X : Cx} (h : CtxOk Γ X) {n : Str} (e : isGl Γ n = true) : Gl X n := by
  unfold Gl
  show X.env.scope.names.lookup n = _
  rw [h.sc]
  exact of_decide_eq_true e
theorem CtxOk.loc {Γ : Ctx} {X : Cx} (h : CtxOk Γ X) {n : Str} (e : isLoc Γ n = true) : L2.Loc X.env.scope n ∧ (X.fn n = true ∨ X.env.scope.names.lookup n = some .local) := by
  simp only [isLoc, Bool.or_eq_true, Bool.and_eq_true, decide_eq_true_eq] at e
  unfold L2.Loc
  rw [h.sc]
  rcases e with e | ⟨e, f⟩
  · exact ⟨.inl e, .inr e⟩
  · exact ⟨.inr e, .inl (h.fb n f)⟩
mutual
def chkT (Γ : Ctx) : PL.Tg → Expr → Bool
  | .nm i, x => match x with
    | .Name n _ => decide (Γ.N[i]? = some n) && isLoc Γ n
    | _ => false
  | .tp ts, x => match x with
    | .Tuple es _ _ => chkTs Γ ts es
    | _ => false
def chkTs (Γ : Ctx) : PL.Tgs → List Expr → Bool
  | .nil, x => match x with
    | [] => true
    | _ => false
  | .cons t r, x => match x with
    | e :: es => chkT Γ t e && chkTs Γ r es
    | _ => false
end
mutual
def tgIs : PL.Tg → List Nat
  | .nm i => [i]
  | .tp ts => tgsIs ts
def tgsIs : PL.Tgs → List Nat
  | .nil => []
  | .cons t r => tgIs t ++ tgsIs r
end
theorem RepO_.mono {K : PySem.W.Frag} {off off2 : List Nat} {ρ : List Addr} {H : Hp} {σ : PL.Env} {s : L2.St} (h : RepO_ K off ρ H σ s) (m : ∀ j ∈ off, j ∈ off2) : RepO_ K off2 ρ H σ s :=
  ⟨h.len, fun i v n e => h.at_ i v (fun z => n (m i z)) e⟩
def SameOff (is : List Nat) (σ σ' : L2.St) : Prop := σ'.length = σ.length ∧ ∀ j, j ∉ is → σ'[j]? = σ[j]?
def less (off is : List Nat) : List Nat := off.filter fun j => decide (j ∉ is)
def gT (K : PySem.W.Frag) (t : PL.Tg) : TG := fun u σ H Q => ∃ off ρ v s s' tr, RepO_ K off ρ H s σ ∧ RelX tr K ρ H v u ∧ (tr = true → ∃ ts, t = .tp ts) ∧ PL.asg t v s = some s' ∧ ∀ σ', RepO_ K (less off (tgIs t)) ρ H s' σ' → SameOff (tgIs t) σ σ' → Q σ' H
def gTs (K : PySem.W.Frag) (t : PL.Tgs) : TGs := fun us σ H Q => ∃ off ρ vs s s', RepO_ K off ρ H s σ ∧ RepVs K ρ H vs us ∧ PL.asgs t vs s = some s' ∧ ∀ σ', RepO_ K (less off (tgsIs t)) ρ H s' σ' → SameOff (tgsIs t) σ σ' → Q σ' H
theorem RelX.tup {tr : Bool} {K : PySem.W.Frag} {ρ : List Addr} {H : Hp} {xs : List PV} {u : V} (r : RelX tr K ρ H (.tup xs) u) : ∃ p us, u = .ref p ∧ SqT K H p us ∧ RepVs K ρ H xs us := by
  rcases r with r | ⟨_, ys, p, us, e, rfl, h1, h2⟩
  · exact r.toTup
  · cases e; exact ⟨p, us, rfl, h1, h2⟩
theorem assignEach_of {e : Expr} {es : List Expr} (h : isStar e = false) (env : Env) : assignEach (e :: es) env = (false, assign e env) :: assignEach es env := by
  cases e <;> first | rfl | simp [isStar] at h
theorem chkT_star {Γ : Ctx} {t : PL.Tg} {x : Expr} (h : chkT Γ t x = true) : isStar x = false := by
  cases t with
  | nm i => cases x <;> first | rfl | simp [chkT] at h
  | tp ts => cases x <;> first | rfl | simp [chkT] at h
theorem assignEach_len {Γ : Ctx} {env : Env} : ∀ {t : PL.Tgs} {es : List Expr}, chkTs Γ t es = true → (assignEach es env).length = es.length ∧ (assignEach es env).findIdx? (·.1) = none
  | .nil, [], _ => ⟨rfl, rfl⟩
  | .nil, _ :: _, h => by simp [chkTs] at h
  | .cons _ _, [], h => by simp [chkTs] at h
  | .cons t r, e :: es, h => by
    simp only [chkTs, Bool.and_eq_true] at h
    obtain ⟨h1, h2⟩ := assignEach_len (env := env) h.2
    rw [assignEach_of (chkT_star h.1)]
    refine ⟨by rw [List.length_cons, List.length_cons, h1], ?_⟩
    rw [List.findIdx?_cons]
    simp only [Bool.false_eq_true, if_false, h2]
    rfl
theorem asgs_len {Γ : Ctx} : ∀ {t : PL.Tgs} {es : List Expr} {vs : List PV} {s s' : PL.Env}, chkTs Γ t es = true → PL.asgs t vs s = some s' → vs.length = es.length
  | .nil, [], [], _, _, _, _ => rfl
  | .nil, [], _ :: _, _, _, _, h => by simp [PL.asgs] at h
  | .nil, _ :: _, _, _, _, h, _ => by simp [chkTs] at h
  | .cons _ _, [], _, _, _, h, _ => by simp [chkTs] at h
  | .cons _ _, _ :: _, [], _, _, _, h => by simp [PL.asgs] at h
  | .cons t r, e :: es, v :: vs, s, s', h, h2 => by
    simp only [chkTs, Bool.and_eq_true] at h
    simp only [PL.asgs, Option.bind_eq_some_iff] at h2
    obtain ⟨s1, _, h3⟩ := h2
    rw [List.length_cons, List.length_cons, asgs_len h.2 h3]
section
variable {X : Cx} {Γ : Ctx}
mutual
theorem rG (hc : X.calm = true) (hΓ : CtxOk Γ X) : ∀ (t : PL.Tg) {x : Expr}, chkT Γ t x = true → PG X x (gT X.K t)
  | .nm i, x, h => by
    cases x with
    | Name n p =>
      simp only [chkT, Bool.and_eq_true, decide_eq_true_eq] at h
      obtain ⟨h1, h2⟩ := h
      obtain ⟨l1, l2⟩ := hΓ.loc h2
      refine ⟨fun pins s0 σ H v u Q I r ⟨off, ρ, w, s, s', tr, re, rx, htr, ha, q⟩ => ?_⟩
      refine (pg_name (pos := p) hΓ.nd (by rw [hΓ.N]; exact h1) l1 l2).run pins s0 σ H v u Q I r ?_
      simp only [PL.asg, Option.some.injEq] at ha
      subst ha
      have rv : RepV X.K ρ H w v := by
        rcases rx with rx | ⟨e, _⟩
        · exact rx
        · obtain ⟨ts, z⟩ := htr e; cases z
      refine q _ ((re.set rv).mono fun j hj => ?_) ⟨by rw [List.length_set], fun j hj => ?_⟩
      · rw [List.mem_filter] at hj
        unfold less
        rw [List.mem_filter]
        simpa [tgIs] using hj
      · simp only [tgIs, List.mem_singleton] at hj
        rw [List.getElem?_set_ne (Ne.symm hj)]
    | _ => simp [chkT] at h
  | .tp ts, x, h => by
    cases x with
    | Tuple es k p =>
      simp only [chkT] at h
      have ih := rGs hc hΓ ts h
      obtain ⟨a1, a2⟩ := assignEach_len (env := X.env) h
      refine ⟨fun pins s0 σ H v u Q I r ⟨off, ρ, w, s, s', tr, re, rx, htr, ha, q⟩ => ?_⟩
      cases w with
      | fl xs =>
        simp only [PL.asg] at ha
        refine (pg_lst hc ih a1 a2).run pins s0 σ H v u Q I r ?_
        rcases rx with rx | ⟨_, _, _, _, e, _⟩
        · simp only [RepV] at rx
          obtain ⟨a, us, rfl, hq, _, rs⟩ := rx
          exact ⟨a, us, rfl, .inl (.inl hq), by rw [← rs.length]; exact asgs_len h ha, off, ρ, xs, s, s', re, rs, ha, q⟩
        · cases e
      | tup xs =>
        refine (pg_tup hc ih a1 a2).run pins s0 σ H v u Q I r ?_
        simp only [PL.asg] at ha
        obtain ⟨a, us, rfl, hq, rs⟩ := rx.tup
        exact ⟨a, us, rfl, hq, by rw [← rs.length]; exact asgs_len h ha, off, ρ, xs, s, s', re, rs, ha, q⟩
      | _ => simp [PL.asg] at ha
    | _ => simp [chkT] at h
theorem rGs (hc : X.calm = true) (hΓ : CtxOk Γ X) : ∀ (t : PL.Tgs) {x : List Expr}, chkTs Γ t x = true → PGs X x (gTs X.K t)
  | .nil, x, h => by
    cases x with
    | nil =>
      refine ⟨fun pins s0 σ H vs us Q I r ⟨off, ρ, w, s, s', re, rs, ha, q⟩ => pgs_nil.run pins s0 σ H vs us Q I r ?_⟩
      cases w with
      | nil =>
        simp only [PL.asgs, Option.some.injEq] at ha
        subst ha
        exact ⟨rs.inv0, q σ (re.mono fun j hj => by simp [less, tgsIs]; exact hj) ⟨rfl, fun _ _ => rfl⟩⟩
      | cons _ _ => simp [PL.asgs] at ha
    | cons _ _ => simp [chkTs] at h
  | .cons t r, x, h => by
    cases x with
    | nil => simp [chkTs] at h
    | cons e es =>
      simp only [chkTs, Bool.and_eq_true] at h
      have h1 := rG hc hΓ t h.1
      have h2 := rGs hc hΓ r h.2
      refine ⟨fun pins s0 σ H vs us Q I rr ⟨off, ρ, w, s, s', re, rs, ha, q⟩ => ?_⟩
      refine (pgs_cons h1 h2 (by rw [assignEach_of (chkT_star h.1)]; rfl)).run pins s0 σ H vs us Q I rr ?_
      cases w with
      | nil => simp [PL.asgs] at ha
      | cons v ws =>
        simp only [PL.asgs, Option.bind_eq_some_iff] at ha
        obtain ⟨s1, e1, e2⟩ := ha
        obtain ⟨u, ur, rfl, r1, r2⟩ := rs.inv
        refine ⟨u, ur, rfl, off, ρ, v, s, s1, false, re, .inl r1, (fun z => by cases z), e1, fun σ1 re1 so1 => ?_⟩
        refine ⟨_, ρ, ws, s1, s', re1, r2, e2, fun σ2 re2 so2 => q σ2 (re2.mono fun j hj => ?_) ⟨so2.1.trans so1.1, fun j hj => ?_⟩⟩
        · simp only [less, List.mem_filter, decide_eq_true_eq, tgsIs, List.mem_append, not_or] at hj ⊢
          exact ⟨hj.1.1, hj.1.2, hj.2⟩
        · simp only [tgsIs, List.mem_append, not_or] at hj
          exact (so2.2 j hj.2).trans (so1.2 j hj.1)
end
end
def gTM (K : PySem.W.Frag) (t : PL.Tg) : TG := fun u σ H Q => ∃ off ρ M v s s', RepO_ K off ρ H s σ ∧ RepM K ρ H M ∧ RepV K ρ H v u ∧ PL.asgM M t v s = some s' ∧ ∀ σ', RepO_ K (less off (tgIs t)) ρ H s' σ' → SameOff (tgIs t) σ σ' → Q σ' H
theorem rGM {X : Cx} {Γ : Ctx} (hc : X.calm = true) (hΓ : CtxOk Γ X) (t : PL.Tg) {x : Expr} (h : chkT Γ t x = true) : PG X x (gTM X.K t) := by
  refine ⟨fun pins s0 σ H v u Q I r ⟨off, ρ, M, w, s, s', re, k, rx, ha, q⟩ => ?_⟩
  cases t with
  | nm i => exact (rG hc hΓ (.nm i) h).run pins s0 σ H v u Q I r ⟨off, ρ, w, s, s', false, re, .inl rx, (fun z => by cases z), ha, q⟩
  | tp ts =>
    cases e : PL.llst M w with
    | none =>
      simp only [PL.asgM, e] at ha
      exact (rG hc hΓ (.tp ts) h).run pins s0 σ H v u Q I r ⟨off, ρ, w, s, s', false, re, .inl rx, (fun z => by cases z), ha, q⟩
    | some xs =>
      simp only [PL.asgM, e] at ha
      cases x with
      | Tuple es k' p =>
        simp only [chkT] at h
        have ih := rGs hc hΓ ts h
        obtain ⟨a1, a2⟩ := assignEach_len (env := X.env) h
        refine (pg_lst hc ih a1 a2).run pins s0 σ H v u Q I r ?_
        obtain ⟨p', us, rfl, hq, rs⟩ := llst_rep k rx e
        exact ⟨p', us, rfl, .inl (.inl hq), by rw [← rs.length]; exact asgs_len h ha, off, ρ, xs, s, s', re, rs, ha, q⟩
      | _ => simp [chkT] at h
/-- what a name's slots are forgotten as, after the name's store -/
theorem wipe_ext : ∀ {vs : List Nat} {σ σ' : L2.St}, σ'.length = σ.length → (∀ j, j ∉ vs → σ'[j]? = σ[j]?) → wipe σ' vs = wipe σ vs := fun {vs σ σ'} hl h => by
  refine List.ext_getElem? fun j => ?_
  by_cases hj : j ∈ vs
  · have e : ∀ {ws : List Nat} {τ : L2.St}, j ∈ ws → (wipe τ ws)[j]? = if j < τ.length then some none else none := fun {ws} => by
      induction ws with
      | nil => intro τ hw; simp at hw
      | cons w ws ih =>
        intro τ hw
        unfold wipe
        by_cases e : w = j
        · subst e
          rw [List.getElem?_set_self']
          by_cases hl : w < τ.length
          · rw [if_pos hl, List.getElem?_eq_getElem (by rw [wipe_length]; exact hl)]; rfl
          · rw [if_neg hl, List.getElem?_eq_none (by rw [wipe_length]; omega)]; rfl
        · rw [List.getElem?_set_ne e]
          exact ih (by rcases List.mem_cons.mp hw with z | z; exact absurd z.symm e; exact z)
    rw [e hj, e hj, hl]
  · rw [wipe_get hj, wipe_get hj]
    exact h j hj
end PLS

/-! PLS17: comprehensions. -/
namespace PLS
open PySem PySem.Spec PyProof.Rows L2
abbrev WF : WX := fun _ _ _ _ => False
theorem noExc_bind {α β : Type} (m : PL.R α) (f : α → PL.Mem → PL.R β) : PL.noExc (m.bind f) = (PL.noExc m).bind fun a M => PL.noExc (f a M) := by
  cases m <;> rfl
theorem drop_cons {α : Type} : ∀ {xs r : List α} {i : Nat} {y : α}, xs.drop i = y :: r → xs[i]? = some y ∧ xs.drop (i + 1) = r
  | [], r, i, y, h => by simp at h
  | x :: xs, r, 0, y, h => by
    simp only [List.drop_zero, List.cons.injEq] at h
    exact ⟨by simp [h.1], by simpa using h.2⟩
  | x :: xs, r, i + 1, y, h => by
    simp only [List.drop_succ_cons] at h
    obtain ⟨h1, h2⟩ := drop_cons h
    exact ⟨by simpa using h1, by simpa using h2⟩
section
variable {K : PySem.W.Frag} {RX : RXT} {W : WX} {mk : Mk} {t : PL.Tg} {mi : Mn PL.Src} {mc me : Mn PV}
def compM (t : PL.Tg) (mi : Mn PL.Src) (mc me : Mn PV) : Mn PV := fun σ M => (mi σ M).bind fun s M1 => (PL.noExc (PL.compL M1.length s.2 t mc me σ s.1 (M1 ++ [.lst []]))).bind fun _ M2 => .ok (.ref M1.length) M2
/-- what is asked of the condition and of the item, at a turn -/
theorem cond_post {ρ : List Addr} {H : Hp} {M : PL.Mem} {E : EXC} {σ2 : L2.St} {Q : VK} {Q1 : Bool → Hp → Prop} {s : PL.Env} {f : PV → PL.Mem → PL.R Unit} {g : Unit → PL.Mem → PL.R PV} (h : Post K mk (RepV K) E ρ H Q ((PL.noExc ((mc s M).bind f)).bind g))
    (hf : ∀ v M1, (∀ b, v ≠ .bl b) → f v M1 = .no) (k : ∀ c M1 ρ1 H1, Ext ρ H ρ1 H1 → Ok K mk ρ1 H1 M1 → Post K mk (RepV K) E ρ1 H1 Q ((PL.noExc (f (.bl c) M1)).bind g) → Q1 c H1) :
    Post K mk (fun _ _ (a b : Bool) => a = b) (EX RX K WF σ2) ρ H Q1 (asB (mc s M)) := by
  unfold asB
  rw [noExc_bind] at h
  rcases m_cases (mc s M) with e | ⟨x, M1, e⟩ | ⟨v, M1, e⟩
  · rw [e] at h; exact h.elim
  · rw [e] at h; exact h.elim
  · rw [e] at h ⊢
    cases v with
    | bl c => exact fun ρ' H' d x' k' r' => by subst r'; exact k c M1 ρ' H' x' k' (Post.ext h x')
    | _ =>
      change Post K mk (RepV K) E ρ H Q ((PL.noExc (f _ M1)).bind g) at h
      rw [hf _ _ (by intro b z; cases z)] at h
      exact h.elim
theorem item_post {ρ : List Addr} {H : Hp} {M : PL.Mem} {E : EXC} {σ2 : L2.St} {Q Q1 : VK} {s : PL.Env} {f : PV → PL.Mem → PL.R Unit} {g : Unit → PL.Mem → PL.R PV} (h : Post K mk (RepV K) E ρ H Q ((PL.noExc ((me s M).bind f)).bind g))
    (k : ∀ v M1 ρ1 H1 u, Ext ρ H ρ1 H1 → Ok K mk ρ1 H1 M1 → RepV K ρ1 H1 v u → Post K mk (RepV K) E ρ1 H1 Q ((PL.noExc (f v M1)).bind g) → Q1 u H1) :
    Post K mk (RepV K) (EX RX K WF σ2) ρ H Q1 (me s M) := by
  rw [noExc_bind] at h
  rcases m_cases (me s M) with e | ⟨x, M1, e⟩ | ⟨v, M1, e⟩
  · rw [e] at h; exact h.elim
  · rw [e] at h; exact h.elim
  · rw [e] at h ⊢
    exact fun ρ' H' u x' k' r' => k v M1 ρ' H' u x' k' r' (Post.ext h x')
theorem comp_key {tr : Bool} {vs : List Nat} (h1 : ∀ j ∈ tgIs t, j ∈ vs) (h2 : ∀ j ∈ vs, j ∈ tgIs t) (htr : tr = true → ∃ ts, t = .tp ts) {σ : L2.St} {H : Hp} {Q : VK} (h : tI RX K W mk (compM t mi mc me) σ H Q) :
    tLc (iS RX K W mk tr mi) (gT K t) (tIb RX K WF mk mc) (tI RX K WF mk me) vs σ H Q := by
  obtain ⟨ρ, s, M, re, k, h⟩ := h
  refine ⟨ρ, s, M, re, k, Post.bind h fun src M1 ρ1 H1 J x1 k1 sv h => ?_⟩
  intro D nD
  have kA : Ok K mk (ρ1 ++ [D]) (upd H1 D (.lst [])) (M1 ++ [.lst []]) := k1.alloc nD ⟨[], rfl, .nil⟩
  have xA : Ext ρ1 H1 (ρ1 ++ [D]) (upd H1 D (.lst [])) := Ext.alloc k1.rep nD
  have aD : (ρ1 ++ [D])[M1.length]? = some D := by rw [← k1.rep.len, List.getElem?_append_right (Nat.le_refl _), Nat.sub_self]; rfl
  refine ⟨fun i n H' => ∃ ρ' M', Ext (ρ1 ++ [D]) (upd H1 D (.lst [])) ρ' H' ∧ Ok K mk ρ' H' M' ∧ i ≤ src.1.length ∧ n = src.1.length - i ∧
    Post K mk (RepV K) (EX RX K W σ) ρ' H' Q ((PL.noExc (PL.compL M1.length src.2 t mc me s (src.1.drop i) M')).bind fun _ M2 => .ok (.ref M1.length) M2),
    ⟨_, ρ1 ++ [D], M1 ++ [.lst []], .refl, kA, Nat.zero_le _, rfl, Post.ext h xA⟩, ?_⟩
  rintro i n H' ⟨ρ', M', x', k', hi, hn, hp⟩
  have hD : ρ'[M1.length]? = some D := x'.at aD
  cases hdr : src.1.drop i with
  | nil =>
    rw [hdr] at hp
    have hil : i = src.1.length := by
      have := congrArg List.length hdr
      rw [List.length_drop, List.length_nil] at this
      omega
    unfold PL.compL at hp
    split at hp
    · rename_i hw
      exact .inl ⟨((sv.ext xA) i ρ' H' M' x' k' hw).2 hil, Post.ok (a := PL.V.ref M1.length) (M := M') (Rel := RepV K) hp k' (by simp only [RepV]; exact ⟨D, hD, rfl⟩)⟩
    · exact hp.elim
  | cons y rest =>
    rw [hdr] at hp
    obtain ⟨hy, hrest⟩ := drop_cons hdr
    have hil : i < src.1.length := (List.getElem?_eq_some_iff.mp hy).1
    unfold PL.compL at hp
    split at hp
    · rename_i hw
      obtain ⟨go, yl⟩ := ((sv.ext xA) i ρ' H' M' x' k' hw).1 y hy
      refine .inr ⟨go, fun H2 => ∃ ρ2 M2, Ext (ρ1 ++ [D]) (upd H1 D (.lst [])) ρ2 H2 ∧ Ok K mk ρ2 H2 M2 ∧
        Post K mk (RepV K) (EX RX K W σ) ρ2 H2 Q ((PL.noExc (PL.compL M1.length src.2 t mc me s rest M2)).bind fun _ M2 => .ok (.ref M1.length) M2), ?_, ?_⟩
      · rintro H2 ⟨ρ2, M2, x2, k2, h2⟩
        exact ⟨n - 1, by omega, ρ2, M2, x2, k2, hil, by omega, by rw [hrest]; exact h2⟩
      · intro u H2 hyl
        obtain ⟨x3, k3, rx⟩ := yl u H2 hyl
        split at hp
        · exact hp.elim
        · rename_i s' hs
          refine ⟨vs, ρ', y, s, s', tr, (((re.ext (x1.trans xA)).ext x').ext x3).wipe vs, rx, htr, hs, fun σ2 re2 so2 => ⟨?_, ?_⟩⟩
          · refine (wipe_ext so2.1 fun j hj => so2.2 j fun z => hj (h1 j z)).trans (wipe_ext (wipe_length _ _) fun j hj => wipe_get hj)
          · have re3 : RepE K ρ' H2 s' σ2 := (re2.mono (off2 := []) fun j hj => by
              simp only [less, List.mem_filter, decide_eq_true_eq] at hj
              exact absurd (h2 j hj.1) hj.2).all
            refine ⟨ρ', s', M', re3, k3, cond_post (Post.ext hp x3) (fun v M1 hv => by cases v <;> first | rfl | exact absurd rfl (hv _)) fun c M4 ρ4 H4 x4 k4 h4 => ?_⟩
            cases c with
            | false => exact ⟨ρ4, M4, (x'.trans x3).trans x4, k4, h4⟩
            | true =>
              rw [if_pos rfl]
              refine ⟨ρ4, s', M4, re3.ext x4, k4, item_post (f := fun y M2 => match M2[M1.length]? with
                | some (.lst acc) => if acc.length < PL.SZ then PL.compL M1.length src.2 t mc me s rest (M2.set M1.length (.lst (acc ++ [y]))) else .no
                | _ => .no) h4 fun v M5 ρ5 H5 w x5 k5 r5 h5 => ?_⟩
              split at h5
              · rename_i acc hm
                split at h5
                · rename_i hz
                  obtain ⟨b, us, e1, e2, e3⟩ := k5.rep.lst hm
                  have hD5 : ρ5[M1.length]? = some D := x5.at (x4.at (x3.at hD))
                  rw [hD5] at e1
                  obtain rfl := Option.some.inj e1
                  refine ⟨us, e2, by rw [← e3.length, ← SZ_eq]; exact hz, ρ5, M5.set M1.length (.lst (acc ++ [v])), ?_, k5.write hD5 ⟨_, rfl, e3.append (.cons r5 .nil)⟩ fun hm => ?_, Post.ext h5 (Ext.write hD5)⟩
                  · exact (((x'.trans x3).trans x4).trans x5).trans (Ext.write hD5)
                  · exact absurd hm.lt (Nat.not_lt.mpr k1.mkl)
                · exact h5.elim
              · exact h5.elim
    · exact hp.elim
end
end PLS

/-! PLS18: that an expression of the text is one of PL, by a check; its soundness. -/
namespace PLS
open PySem PySem.Spec PyProof.Rows L2
abbrev G_ := List (String × PV)
def bltNames : List String := ["len", "abs", "int", "repr", "tuple", "list", "max", "min", "sum", "any", "all", "sorted", "set", "isinstance", "range", "enumerate", "zip", "bool", "str", "dict"]
structure Okx (P : String → Option (List String)) (C : PL.Orc) (RX : RXT) (G : G_) (X : Cx) (W : WX) : Prop where
  calm : X.calm = true
  hu : X.A.units + 200 < cLine
  hgu : X.A.guards = some []
  tk : Takes X W
  blt : ∀ n ∈ bltNames, X.mg (Str.ofString n) = none
  glb : ∀ q ∈ G, ∃ u w, X.mg (Str.ofString q.1) = some w ∧ RelV u w ∧ ∀ ρ H, RepV X.K ρ H q.2 u
  fns : ∀ f ps, P f = some ps → FunIn X C RX f ps
def nmOk (n : Str) : Bool := !(n == ("__debug__" : Str)) && !(n == ("__classdict__" : Str))
theorem nmOk_d {n : Str} (h : nmOk n = true) : (n == ("__debug__" : Str)) = false ∧ (n == ("__classdict__" : Str)) = false := by
  simp only [nmOk, Bool.and_eq_true, Bool.not_eq_true'] at h
  exact h
/-! ### comprehensions' scopes -/
def nIdx (n : Str) : List Str → Option Nat
  | [] => none
  | x :: xs => if x = n then some 0 else (nIdx n xs).map (· + 1)
theorem nIdx_get {n : Str} : ∀ {l : List Str} {i : Nat}, nIdx n l = some i → l[i]? = some n
  | [], i, h => by simp [nIdx] at h
  | x :: xs, i, h => by
    unfold nIdx at h
    split at h
    · rename_i e
      obtain rfl := Option.some.inj h
      simp [e]
    · simp only [Option.map_eq_some_iff] at h
      obtain ⟨j, h1, rfl⟩ := h
      simpa using nIdx_get h1
theorem nIdx_none {n : Str} : ∀ {l : List Str}, nIdx n l = none → n ∉ l
  | [], _ => by simp
  | x :: xs, h => by
    unfold nIdx at h
    split at h
    · cases h
    · rename_i e
      simp only [Option.map_eq_none_iff] at h
      simp only [List.mem_cons, not_or]
      exact ⟨fun z => e z.symm, nIdx_none h⟩
def ownOf (N : List Str) : List (Str × NameKind) → List (Str × Nat)
  | [] => []
  | y :: r => if y.2 = .local ∨ y.2 = .cell then (match nIdx y.1 N with | some i => (y.1, i) :: ownOf N r | none => ownOf N r) else ownOf N r
theorem ownOf_ix {N : List Str} : ∀ {l : List (Str × NameKind)} {p : Str × Nat}, p ∈ ownOf N l → N[p.2]? = some p.1
  | [], p, h => by simp [ownOf] at h
  | y :: r, p, h => by
    unfold ownOf at h
    split at h
    · split at h
      · rename_i i e
        rcases List.mem_cons.mp h with rfl | h
        · exact nIdx_get e
        · exact ownOf_ix h
      · exact ownOf_ix h
    · exact ownOf_ix h
theorem ownOf_own {N : List Str} : ∀ {l : List (Str × NameKind)} {y : Str × NameKind}, y ∈ l → (y.2 = .local ∨ y.2 = .cell) → y.1 ∈ (ownOf N l).map (·.1) ∨ y.1 ∉ N
  | [], y, h, _ => by simp at h
  | z :: r, y, h, hk => by
    rcases List.mem_cons.mp h with rfl | h
    · unfold ownOf
      rw [if_pos hk]
      split
      · exact .inl (by simp)
      · rename_i e
        exact .inr (nIdx_none e)
    · rcases ownOf_own (N := N) h hk with q | q
      · left
        unfold ownOf
        split
        · split
          · rw [List.map_cons]; exact List.mem_cons_of_mem _ q
          · exact q
        · exact q
      · exact .inr q
def blkB (Γ : Ctx) (scope : Scope) : Bool :=
  decide (scope.kind = .function) && scope.names.all (fun y => decide (scope.names.lookup y.1 = some y.2)) &&
    scope.names.all (fun y => !decide (y.2 = .free) || decide (Γ.sc.names.lookup y.1 = some .cell) || decide (Γ.sc.names.lookup y.1 = some .free))
theorem blkB_ok {Γ : Ctx} {scope : Scope} (h : blkB Γ scope = true) : BlkOk Γ.N Γ.sc scope (ownOf Γ.N scope.names) := by
  simp only [blkB, Bool.and_eq_true, decide_eq_true_eq, List.all_eq_true, Bool.or_eq_true, Bool.not_eq_true', decide_eq_false_iff_not] at h
  obtain ⟨⟨h1, h2⟩, h3⟩ := h
  refine ⟨h1, h2, fun p hp => ownOf_ix hp, fun y hy e => ?_, fun y hy e => ownOf_own hy e⟩
  rcases h3 y hy with (z | z) | z
  · exact absurd e z
  · exact .inl z
  · exact .inr z
def inCtx (Γ : Ctx) (scope : Scope) : Ctx := ⟨Γ.N, relS scope Γ.sc, fun n => decide (scope.names.lookup n = some .cell)⟩
def slotsB (Γ : Ctx) (scope : Scope) (t : PL.Tg) : Bool := (tgIs t).all (fun j => decide (j ∈ (ownOf Γ.N scope.names).map (·.2))) && ((ownOf Γ.N scope.names).map (·.2)).all fun j => decide (j ∈ tgIs t)
section
variable {P : String → Option (List String)} {C : PL.Orc} {RX : RXT} {G : G_} {X : Cx} {W : WX} {Γ : Ctx}
theorem Okx.blk (h : Okx P C RX G X W) {s : Shared} {H : Hp} {scope : Scope} {cenv : Env} {fp : List Addr} : Okx P C RX G (X.blk s H scope cenv fp) WF :=
  ⟨h.calm, h.hu, h.hgu, fun u s' ⟨_, _, _, _, _, _, _, _, _, _, _, _, _, _, _, _, z⟩ => z, h.blt, h.glb, h.fns⟩
theorem CtxOk.blk (h : CtxOk Γ X) {s : Shared} {H : Hp} {scope : Scope} {C : Addr} {cl : List (Str × Addr)} {fp : List Addr} : CtxOk (inCtx Γ scope) (X.blk s H scope (compEnvC scope cl C X.env) fp) :=
  ⟨h.nd, h.N, by
    show relS scope X.env.scope = relS scope Γ.sc
    rw [h.sc], fun n e => by
    show (scope.names.lookup n == some .cell) = true
    have : scope.names.lookup n = some .cell := of_decide_eq_true e
    rw [this]; rfl⟩
end
end PLS

/-! PLS19: the check of expressions. -/
namespace PLS
open PySem PySem.Spec PyProof.Rows L2
def cstB : PV → Const → Bool
  | .non, .none => true
  | .bl a, .bool b => decide (a = b)
  | .int a, .int b => decide (a = b)
  | .str s, .str z => decide (toStr s = z)
  | _, _ => false
def isZ : PL.E → Bool
  | .cst (.int 0) => true
  | _ => false
def isTr : PL.It → Bool
  | .enum _ => true
  | .zip _ _ => true
  | _ => false
def isTp : PL.Tg → Bool
  | .tp _ => true
  | _ => false
abbrev eqN (n : Str) (s : String) : Bool := decide (n = Str.ofString s)
section
variable (P : String → Option (List String)) (G : G_)
mutual
def chkE : Ctx → PL.E → Expr → Bool
  | Γ, .var i, x => match x with
    | .Name n _ => decide (Γ.N[i]? = some n) && isVis Γ n && nmOk n
    | _ => false
  | Γ, .cst v, x => match x with
    | .Constant c _ _ => cstB v c
    | _ => false
  | Γ, .glb g v, x => match x with
    | .Name n _ => eqN n g && isGl Γ n && nmOk n && G.any fun q => decide (q.1 = g) && decide (q.2 = v)
    | _ => false
  | Γ, .bin o a b, x => match x with
    | .BinOp l op r _ => decide (op = opOf o) && chkE Γ a l && chkE Γ b r
    | _ => false
  | Γ, .neg a, x => match x with
    | .UnaryOp op e _ => decide (op = .USub) && chkE Γ a e
    | _ => false
  | Γ, .not a, x => match x with
    | .UnaryOp op e _ => decide (op = .Not) && chkE Γ a e
    | _ => false
  | Γ, .bop o es, x => match x with
    | .BoolOp op vs _ => decide (op = bOp o) && !vs.isEmpty && !vs.any isStar && chkEs Γ es vs
    | _ => false
  | Γ, .cmp o a b, x => match x with
    | .Compare l [op] [r] _ => decide (op = opC o) && !isSet r && chkE Γ a l && chkE Γ b r
    | _ => false
  | Γ, .chn o o' a b c, x => match x with
    | .Compare l [op, op'] [r, q] _ => decide (op = opC o) && decide (op' = opC o') && !isSet q && chkE Γ a l && chkE Γ b r && chkE Γ c q
    | _ => false
  | Γ, .isN n a, x => match x with
    | .Compare l [op] [.Constant .none _ _] _ => decide (op = if n then .IsNot else .Is) && chkE Γ a l
    | _ => false
  | Γ, .isB n c a, x => match x with
    | .Compare l [op] [.Constant (.bool d) _ _] _ => decide (op = if n then .IsNot else .Is) && decide (d = c) && chkE Γ a l
    | _ => false
  | Γ, .rev a, x => match x with
    | .Subscript l (.Slice none none (some (.UnaryOp .USub (.Constant (.int 1) _ _) _)) _) _ => chkE Γ a l
    | _ => false
  | _, .dnt, x => match x with
    | .Dict [] [] _ => true
    | _ => false
  | Γ, .isi a t, x => match x with
    | .Call (.Name f _) [e, .Name n _] [] _ => eqN f "isinstance" && eqN n (tyS t) && isGl Γ f && isGl Γ n && !isStar e && chkE Γ a e
    | _ => false
  | Γ, .ite c a b, x => match x with
    | .IfExp t l r _ => chkE Γ c t && chkE Γ a l && chkE Γ b r
    | _ => false
  | Γ, .tup es, x => match x with
    | .Tuple xs _ _ => chkEs Γ es xs
    | _ => false
  | Γ, .lst es, x => match x with
    | .List xs _ => chkEs Γ es xs
    | _ => false
  | Γ, .dsp kvs, x => match x with
    | .Dict ks vs _ => decide (ks.length ≤ 15) && chkD Γ kvs ks vs
    | _ => false
  | Γ, .idx a i, x => match x with
    | .Subscript l r _ => !isSlice r && chkE Γ a l && chkE Γ i r
    | _ => false
  | Γ, .slc a lo hi, x => match x with
    | .Subscript l (.Slice xl xh none _) _ => chkE Γ a l && chkEo Γ lo xl && chkEo Γ hi xh
    | _ => false
  | Γ, .fn f es, x => match x with
    | .Call (.Name n _) xs [] _ => eqN n f && (P f).isSome && isGl Γ n && nmOk n && !xs.any isStar && chkEs Γ es xs
    | _ => false
  | Γ, .fnk f es kws ks, x => match x with
    | .Call (.Name n _) xs kk _ => eqN n f && (P f).isSome && isGl Γ n && nmOk n && !xs.any isStar && chkEs Γ es xs && decide (kk.map (·.arg) = ks.map fun k => some (Str.ofString k)) && chkKs Γ kws kk
    | _ => false
  | Γ, .pr p es, x => match x with
    | .Call (.Name n _) xs [] _ => if pOk p then eqN n (pName p) && isGl Γ n && !xs.isEmpty && !xs.any isStar && chkEs Γ es xs
      else match p, xs with
        | .sortedSet, [.Call (.Name g _) [y] [] _] => eqN n "sorted" && eqN g "set" && isGl Γ n && isGl Γ g && !isStar y && chkEs Γ es [y]
        | _, _ => false
    | _ => false
  | Γ, .mt m o es, x => match x with
    | .Call (.Attribute l name apos) xs [] pos => eqN name (mtName m) && !isCall l && (apos.endLine == pos.line) && decide (xs.length < 30) && !xs.any isStar && chkE Γ o l && chkEs Γ es xs
    | _ => false
  | Γ, .comp t it c e, x => match x with
    | .ListComp elt [⟨tg, iter, ifs, asy⟩] scope _ => decide (asy = 0) && blkB Γ scope && slotsB Γ scope t && !isSet iter && (!isTr it || isTp t) && chkT (inCtx Γ scope) t tg && chkI Γ it iter && chkEc (inCtx Γ scope) c ifs && chkE (inCtx Γ scope) e elt
    | _ => false
  | _, .dcomp _ _ _ _ _, _ => false
  | Γ, .lrng a b, x => match x with
    | .Call (.Name f _) [.Call (.Name g _) xs [] _] [] _ => eqN f "list" && eqN g "range" && isGl Γ f && isGl Γ g && !xs.any isStar && (match xs with
      | [y] => isZ a && chkE Γ b y
      | [x, y] => chkE Γ a x && chkE Γ b y
      | _ => false)
    | _ => false
def chkEs : Ctx → PL.Es → List Expr → Bool
  | _, .nil, xs => xs.isEmpty
  | Γ, .cons e r, xs => match xs with
    | x :: ys => !isStar x && chkE Γ e x && chkEs Γ r ys
    | [] => false
  | Γ, .star e r, xs => match xs with
    | .Starred x _ :: ys => chkE Γ e x && chkEs Γ r ys
    | _ => false
def chkD : Ctx → PL.Es → List (Option Expr) → List Expr → Bool
  | _, .nil, ks, vs => ks.isEmpty && vs.isEmpty
  | Γ, .cons k (.cons v r), ks, vs => match ks, vs with
    | some a :: ks, b :: vs => chkE Γ k a && chkE Γ v b && chkD Γ r ks vs
    | _, _ => false
  | _, _, _, _ => false
def chkKs : Ctx → PL.Es → List Keyword → Bool
  | _, .nil, xs => xs.isEmpty
  | Γ, .cons e r, xs => match xs with
    | ⟨_, x, _⟩ :: ys => chkE Γ e x && chkKs Γ r ys
    | [] => false
  | _, .star _ _, _ => false
def chkEo : Ctx → PL.Eo → Option Expr → Bool
  | _, .none, x => x.isNone
  | Γ, .some e, x => match x with
    | some y => chkE Γ e y
    | none => false
def chkEc : Ctx → PL.Eo → List Expr → Bool
  | _, .none, x => x.isEmpty
  | Γ, .some e, x => match x with
    | [y] => chkE Γ e y
    | _ => false
def chkI : Ctx → PL.It → Expr → Bool
  | Γ, .of e, x => chkE Γ e x
  | Γ, .rng1 a, x => match x with
    | .Call (.Name f _) [y] [] _ => eqN f "range" && isGl Γ f && !isStar y && chkE Γ a y
    | _ => false
  | Γ, .rng2 a b, x => match x with
    | .Call (.Name f _) [y, z] [] _ => eqN f "range" && isGl Γ f && !isStar y && !isStar z && chkE Γ a y && chkE Γ b z
    | _ => false
  | Γ, .rng3 a b c, x => match x with
    | .Call (.Name f _) [y, z, w] [] _ => eqN f "range" && isGl Γ f && !isStar y && !isStar z && !isStar w && chkE Γ a y && chkE Γ b z && chkE Γ c w
    | _ => false
  | Γ, .enum a, x => match x with
    | .Call (.Name f _) [y] [] _ => eqN f "enumerate" && isGl Γ f && !isStar y && chkE Γ a y
    | _ => false
  | Γ, .zip a b, x => match x with
    | .Call (.Name f _) [y, z] [] _ => eqN f "zip" && isGl Γ f && !isStar y && !isStar z && chkE Γ a y && chkE Γ b z
    | _ => false
  | _, .items _, _ => false
  | _, .values _, _ => false
end
end
end PLS

/-! PLS20: the check of expressions is sound. -/
namespace PLS
open PySem PySem.Spec PyProof.Rows L2
theorem cst_ok {RX : RXT} {X : Cx} {W : WX} {mk : Mk} : ∀ {v : PV} {c : Const} {j : Nat} {pos : Pos}, cstB v c = true → PE X (.Constant c j pos) (tI RX X.K W mk fun _ M => .ok v M) := by
  intro v c j pos h
  cases v <;> cases c <;> simp only [cstB, Bool.false_eq_true, decide_eq_true_eq] at h
  · exact rE_pure pe_non fun _ _ => by simp only [RepV]
  · subst h; exact rE_pure pe_bl fun _ _ => by simp only [RepV]
  · subst h; exact rE_pure pe_int fun _ _ => by simp only [RepV]
  · subst h; exact rE_pure pe_str fun _ _ => by simp only [RepV]
theorem mem_blt {s : String} (h : (bltNames.any fun n => decide (n = s)) = true) : s ∈ bltNames := by
  simp only [List.any_eq_true, decide_eq_true_eq] at h
  obtain ⟨n, h1, rfl⟩ := h; exact h1
theorem pName_blt (p : PL.Pr) : pName p ∈ bltNames := by cases p <;> decide
theorem ty_blt (t : PL.Ty) : tyS t ∈ bltNames := by cases t <;> decide
section
variable {P : String → Option (List String)} {C : PL.Orc} {RX : RXT} {G : G_} {mk : Mk}
theorem any_rest {e : Expr} {es : List Expr} (h : (e :: es).any isStar = false) : isStar e = false ∧ es.any isStar = false := by
  rw [List.any_cons, Bool.or_eq_false_iff] at h; exact h
theorem dsp_nil {s : PL.Env} {M : PL.Mem} : PL.ev P C mk (.dsp .nil) s M = PL.alloc (.dct false [] []) M := by
  simp [PL.ev, PL.evs, PL.dispK, PL.alloc]
theorem sset_eq {a : PL.E} : PL.ev P C mk (.pr .sortedSet (.cons a .nil)) = fun σ M => (PL.ev P C mk a σ M).bind fun x M1 => PL.pSortedSet M1 x := by
  funext σ M
  simp only [PL.ev, PL.evs, bind_assoc, PL.R.bind_ok, PL.prim, PL.prim1]
def pairsV : List V → List (V × V)
  | a :: b :: r => (a, b) :: pairsV r
  | _ => []
theorem dispK_rep {K : PySem.W.Frag} {ρ : List Addr} {H : Hp} : ∀ {xs : List PV} {us : List V} {p : List PV × List PV}, PL.dispK xs = some p → RepVs K ρ H xs us →
    ∃ kvs : List (L2.Key × V), pairsV us = kvs.map (fun kv => (kV kv.1, kv.2)) ∧ p.1.map keyK = kvs.map (fun kv => some kv.1) ∧ RepVs K ρ H p.2 (kvs.map (·.2)) ∧ (kvs.map (·.1)).Nodup
  | [], us, p, e, r => by
    simp only [PL.dispK, Option.some.injEq] at e
    subst e
    rw [r.inv0]
    exact ⟨[], rfl, rfl, .nil, .nil⟩
  | [_], us, p, e, r => by simp [PL.dispK] at e
  | k :: v :: xs, us, p, e, r => by
    simp only [PL.dispK, Option.bind_eq_some_iff] at e
    obtain ⟨q, e1, e2⟩ := e
    split at e2
    · rename_i hc
      obtain rfl := Option.some.inj e2
      simp only [Bool.and_eq_true, Bool.not_eq_true', decide_eq_true_eq] at hc
      obtain ⟨⟨⟨c1, c2⟩, c3⟩, c4⟩ := hc
      obtain ⟨u, t, rfl, r1, r2⟩ := r.inv
      obtain ⟨w, t2, rfl, r3, r4⟩ := r2.inv
      obtain ⟨kvs, h1, h2, h3, h4⟩ := dispK_rep e1 r4
      obtain ⟨kk, k1, rfl⟩ := key_rep r1 c1
      refine ⟨(kk, w) :: kvs, by simp only [pairsV, List.map_cons, h1], by simp only [List.map_cons, k1, h2], .cons r3 h3, List.nodup_cons.mpr ⟨fun hm => ?_, h4⟩⟩
      obtain ⟨kv, m1, m2⟩ := List.mem_map.mp hm
      have : some kk ∈ q.1.map keyK := by rw [h2]; exact List.mem_map.mpr ⟨kv, m1, by rw [m2]⟩
      obtain ⟨z, z1, z2⟩ := List.mem_map.mp this
      have : z = k := keyK_inj z2 k1
      subst this
      have : q.1.contains z = true := by simpa using z1
      rw [this] at c3; cases c3
    · cases e2
theorem mergeK_new : ∀ {more acc : List (L2.Key × V)}, ((acc ++ more).map (·.1)).Nodup → mergeK acc more = acc ++ more
  | [], acc, _ => by simp [mergeK]
  | p :: more, acc, h => by
    have e : putK acc p.1 p.2 = acc ++ [p] := by
      refine putK_new ?_
      unfold valV
      rw [Option.map_eq_none_iff, List.find?_eq_none]
      intro kv hk hd
      rw [List.map_append, List.nodup_append] at h
      exact h.2.2 kv.1 (List.mem_map.mpr ⟨kv, hk, rfl⟩) p.1 (by simp) (of_decide_eq_true hd)
    show mergeK (putK acc p.1 p.2) more = _
    rw [e, mergeK_new (by rw [List.append_assoc]; exact h), List.append_assoc]; rfl
/-- how the pairs of a display are told -/
def Disp (RX : RXT) (X : Cx) (W : WX) (mk : Mk) (ks : List (Option Expr)) (vs : List Expr) (ms : Mn (List PV)) : Prop := ∀ pos, ∃ trs, PPs X pos ks vs trs ∧ ks.all (·.isSome) = true ∧ ks.length = vs.length ∧
  ∀ (σ : L2.St) (ρ : List Addr) (s : PL.Env) (M : PL.Mem) (H : Hp) (Q : VK) (F : List PV → PL.Mem → PL.R PV) (R : List (V × V) → Hp → Prop), RepE X.K ρ H s σ → Ok X.K mk ρ H M → Post X.K mk (RepV X.K) (EX RX X.K W σ) ρ H Q ((ms s M).bind F) →
    (∀ xs M1 ρ1 H1 us, Ext ρ H ρ1 H1 → Ok X.K mk ρ1 H1 M1 → RepVs X.K ρ1 H1 xs us → Post X.K mk (RepV X.K) (EX RX X.K W σ) ρ1 H1 Q (F xs M1) → R (pairsV us) H1) → tPairs trs σ H R
theorem disp_nil {X : Cx} {W : WX} : Disp RX X W mk [] [] fun _ M => .ok [] M := fun pos => ⟨[], pps_nil, rfl, rfl, fun σ ρ s M H Q F R re k h c => c [] M ρ H [] .refl k .nil h⟩
theorem disp_cons {X : Cx} {W : WX} {a b : Expr} {ks : List (Option Expr)} {vs : List Expr} {ma mb : Mn PV} {ms : Mn (List PV)} (ha : PE X a (tI RX X.K W mk ma)) (hb : PE X b (tI RX X.K W mk mb)) (hr : Disp RX X W mk ks vs ms) :
    Disp RX X W mk (some a :: ks) (b :: vs) fun σ M => (ma σ M).bind fun x M1 => ((mb σ M1).bind fun y M2 => (ms σ M2).bind fun zs M3 => .ok (y :: zs) M3).bind fun xs M2 => .ok (x :: xs) M2 := fun pos => by
  obtain ⟨trs, h1, h2, h3, h4⟩ := hr pos
  refine ⟨_, pps_cons ha hb h1, by simpa using h2, by simp [h3], fun σ ρ s M H Q F R re k h c => ?_⟩
  dsimp only at h
  rw [bind_assoc] at h
  refine ⟨ρ, s, M, re, k, Post.bind h fun x M1 ρ1 H1 u x1 k1 r1 h => ?_⟩
  rw [bind_assoc, bind_assoc] at h
  refine ⟨ρ1, s, M1, re.ext x1, k1, Post.bind h fun y M2 ρ2 H2 w x2 k2 r2 h => ?_⟩
  rw [bind_assoc] at h
  refine h4 σ ρ2 s M2 H2 Q _ _ ((re.ext x1).ext x2) k2 h fun zs M3 ρ3 H3 us x3 k3 r3 h => ?_
  exact c (x :: y :: zs) M3 ρ3 H3 (u :: w :: us) ((x1.trans x2).trans x3) k3 (.cons ((r1.ext x2).ext x3) (.cons (r2.ext x3) r3)) h
theorem rE_dsp {X : Cx} {W : WX} {ks : List (Option Expr)} {vs : List Expr} {ms : Mn (List PV)} {pos : Pos} (hd : Disp RX X W mk ks vs ms) (h0 : ks ≠ []) (h15 : ks.length ≤ 15) :
    PEB RX X W mk (.Dict ks vs pos) fun σ M => (ms σ (M ++ [.dct false [] []])).bind fun xs M1 => match PL.dispK xs, M1[M.length]? with
      | some p, some (.dct false [] []) => .ok (.ref M.length) (M1.set M.length (.dct false p.1 p.2))
      | _, _ => .no := by
  obtain ⟨trs, h1, h2, h3, h4⟩ := hd pos
  refine .plain (PE.imp (pe_disp h1 h2 h3 h0 h15) fun σ H Q ⟨ρ, s, M, re, k, h⟩ => ?_) rfl
  intro p np
  have kA : Ok X.K mk (ρ ++ [p]) (upd H p (.dK [])) (M ++ [.dct false [] []]) := k.alloc np ⟨[], rfl, rfl, .nil⟩
  have xA : Ext ρ H (ρ ++ [p]) (upd H p (.dK [])) := Ext.alloc k.rep np
  have aD : (ρ ++ [p])[M.length]? = some p := by rw [← k.rep.len, List.getElem?_append_right (Nat.le_refl _), Nat.sub_self]; rfl
  refine h4 σ _ s _ _ Q _ _ (re.ext xA) kA (Post.ext h xA) fun xs M1 ρ1 H1 us x1 k1 r1 hh => ?_
  split at hh
  · rename_i q e1 e2
    obtain ⟨b, kvs0, z1, z2, z3, z4⟩ := k1.rep.dct e2
    have hp1 := x1.at aD
    rw [hp1] at z1
    obtain rfl := Option.some.inj z1
    have e0 : kvs0 = [] := by cases kvs0 with | nil => rfl | cons _ _ => simp at z3
    subst e0
    obtain ⟨kvs, g1, g2, g3, g4⟩ := dispK_rep e1 r1
    have hm : mergeK [] kvs = kvs := by rw [mergeK_new (by simpa using g4)]; rfl
    refine ⟨z2, kvs, g1, ?_, ?_⟩
    · have hlen : ∀ {xs : List PV} {q : List PV × List PV}, PL.dispK xs = some q → q.1.length ≤ 15 := fun {xs q} e => by
        cases xs with
        | nil => simp only [PL.dispK, Option.some.injEq] at e; subst e; simp
        | cons a xs =>
          cases xs with
          | nil => simp [PL.dispK] at e
          | cons b xs =>
            simp only [PL.dispK, Option.bind_eq_some_iff] at e
            obtain ⟨q', _, e⟩ := e
            split at e
            · rename_i hc
              obtain rfl := Option.some.inj e
              simp only [Bool.and_eq_true, decide_eq_true_eq] at hc
              have := hc.2
              simp only [List.length_cons]; omega
            · cases e
      have := congrArg List.length g2
      rw [List.length_map, List.length_map] at this
      rw [← this]; exact hlen e1
    · rw [hm]
      refine Post.okx hh (Ext.write hp1) (k1.write hp1 ⟨kvs, rfl, g2, g3⟩ fun hi => ?_) (by simp only [RepV]; exact ⟨p, hp1, rfl⟩)
      exact absurd hi.lt (Nat.not_lt.mpr k.mkl)
  · exact hh.elim
set_option maxHeartbeats 4000000 in
mutual
theorem cE_ok : ∀ (e : PL.E) {Γ : Ctx} {X : Cx} {W : WX} {x : Expr}, CtxOk Γ X → Okx P C RX G X W → chkE P G Γ e x = true → PEB RX X W mk x (PL.ev P C mk e)
  | .var i, Γ, X, W, x, hΓ, ho, h => by
    simp only [chkE] at h
    split at h
    · simp only [Bool.and_eq_true, decide_eq_true_eq] at h
      obtain ⟨⟨h1, h2⟩, h3⟩ := h
      obtain ⟨d1, d2⟩ := nmOk_d h3
      exact .plain (rE_var (by rw [hΓ.N]; exact h1) (hΓ.vis h2) d1 d2) rfl
    · cases h
  | .cst v, Γ, X, W, x, hΓ, ho, h => by
    simp only [chkE] at h
    split at h
    · exact .plain (cst_ok h) rfl
    · cases h
  | .glb g v, Γ, X, W, x, hΓ, ho, h => by
    simp only [chkE] at h
    split at h
    · simp only [Bool.and_eq_true, decide_eq_true_eq, List.any_eq_true] at h
      obtain ⟨⟨⟨h1, h2⟩, h3⟩, q, hq, e1, e2⟩ := h
      subst h1 e1 e2
      obtain ⟨u, w, m, r, rv⟩ := ho.glb q hq
      exact .plain (rE_pure (pe_glob (hΓ.gl h2) m r (nmOk_d h3).1) rv) rfl
    · cases h
  | .bin o a b, Γ, X, W, x, hΓ, ho, h => by
    simp only [chkE] at h
    split at h
    · simp only [Bool.and_eq_true, decide_eq_true_eq] at h
      obtain ⟨⟨h1, h2⟩, h3⟩ := h
      subst h1
      exact .plain (rE_bin (fun E => op_bin o) (cE_ok a hΓ ho h2).v (cE_ok b hΓ ho h3).v) rfl
    · cases h
  | .neg a, Γ, X, W, x, hΓ, ho, h => by
    simp only [chkE] at h
    split at h
    · simp only [Bool.and_eq_true, decide_eq_true_eq] at h
      obtain ⟨h1, h2⟩ := h
      subst h1
      exact .plain (rE_neg (cE_ok a hΓ ho h2).v) rfl
    · cases h
  | .not a, Γ, X, W, x, hΓ, ho, h => by
    simp only [chkE] at h
    split at h
    · simp only [Bool.and_eq_true, decide_eq_true_eq] at h
      obtain ⟨h1, h2⟩ := h
      subst h1
      exact rE_not (cE_ok a hΓ ho h2)
    · cases h
  | .bop o es, Γ, X, W, x, hΓ, ho, h => by
    simp only [chkE] at h
    split at h
    · rename_i op vs pos
      simp only [Bool.and_eq_true, decide_eq_true_eq, Bool.not_eq_true'] at h
      obtain ⟨⟨⟨h1, h2⟩, h3⟩, h4⟩ := h
      subst h1
      exact (cB_ok es o hΓ ho h2 h3 h4).eb
    · cases h
  | .cmp o a b, Γ, X, W, x, hΓ, ho, h => by
    simp only [chkE] at h
    split at h
    · simp only [Bool.and_eq_true, decide_eq_true_eq, Bool.not_eq_true'] at h
      obtain ⟨⟨⟨h1, h2⟩, h3⟩, h4⟩ := h
      subst h1
      exact rE_cmp (op_cmp ho.hu o) (cE_ok a hΓ ho h3).v (cE_ok b hΓ ho h4).v h2
    · cases h
  | .chn o o' a b c, Γ, X, W, x, hΓ, ho, h => by
    simp only [chkE] at h
    split at h
    · simp only [Bool.and_eq_true, decide_eq_true_eq, Bool.not_eq_true'] at h
      obtain ⟨⟨⟨⟨⟨h1, h2⟩, h3⟩, h4⟩, h5⟩, h6⟩ := h
      subst h1 h2
      exact rE_chn (op_cmp ho.hu o) (op_cmp ho.hu o') (cE_ok a hΓ ho h4).v (cE_ok b hΓ ho h5).v (cE_ok c hΓ ho h6).v h3
    · cases h
  | .isN n a, Γ, X, W, x, hΓ, ho, h => by
    simp only [chkE] at h
    split at h
    · simp only [Bool.and_eq_true, decide_eq_true_eq] at h
      obtain ⟨h1, h2⟩ := h
      subst h1
      exact rE_isN n (cE_ok a hΓ ho h2).v
    · cases h
  | .isB n c a, Γ, X, W, x, hΓ, ho, h => by
    simp only [chkE] at h
    split at h
    · simp only [Bool.and_eq_true, decide_eq_true_eq] at h
      obtain ⟨⟨h1, h2⟩, h3⟩ := h
      subst h1 h2
      exact rE_isB n _ (cE_ok a hΓ ho h3).v
    · cases h
  | .rev a, Γ, X, W, x, hΓ, ho, h => by
    simp only [chkE] at h
    split at h
    · exact rE_rev (cE_ok a hΓ ho h).v
    · cases h
  | .dnt, Γ, X, W, x, hΓ, ho, h => by
    simp only [chkE] at h
    split at h
    · exact rE_dnt
    · cases h
  | .isi a t, Γ, X, W, x, hΓ, ho, h => by
    simp only [chkE] at h
    split at h
    · simp only [Bool.and_eq_true, decide_eq_true_eq, Bool.not_eq_true'] at h
      obtain ⟨⟨⟨⟨⟨h1, h2⟩, h3⟩, h4⟩, h5⟩, h6⟩ := h
      subst h1
      exact rE_isi h2 (hΓ.gl h4) (by rw [h2]; exact ho.blt _ (ty_blt t)) (hΓ.gl h3) (ho.blt "isinstance" (by decide)) (cE_ok a hΓ ho h6).v h5
    · cases h
  | .ite c a b, Γ, X, W, x, hΓ, ho, h => by
    simp only [chkE] at h
    split at h
    · simp only [Bool.and_eq_true] at h
      obtain ⟨⟨h1, h2⟩, h3⟩ := h
      exact rE_ite (cE_ok c hΓ ho h1) (cE_ok a hΓ ho h2) (cE_ok b hΓ ho h3)
    · cases h
  | .tup es, Γ, X, W, x, hΓ, ho, h => by
    simp only [chkE] at h
    split at h
    · exact rE_tup (cEs_ok es hΓ ho h)
    · cases h
  | .lst es, Γ, X, W, x, hΓ, ho, h => by
    simp only [chkE] at h
    split at h
    · exact rE_lst (cEs_ok es hΓ ho h)
    · cases h
  | .dsp kvs, Γ, X, W, x, hΓ, ho, h => by
    simp only [chkE] at h
    split at h
    · rename_i ks vs pos
      simp only [Bool.and_eq_true, decide_eq_true_eq] at h
      obtain ⟨h1, h2⟩ := h
      cases ks with
      | nil =>
        have e : kvs = .nil ∧ vs = [] := by
          cases kvs with
          | nil => simp only [chkD, List.isEmpty_nil, Bool.true_and, List.isEmpty_iff] at h2; exact ⟨rfl, h2⟩
          | cons k r => cases r <;> simp [chkD] at h2
          | star _ _ => simp [chkD] at h2
        obtain ⟨rfl, rfl⟩ := e
        refine .plain (PE.imp pe_dnewK fun σ H Q ⟨ρ, s, M, re, k, h⟩ => ?_) rfl
        rw [dsp_nil] at h
        exact fun p n => post_alloc h k ⟨[], rfl, rfl, .nil⟩ p n
      | cons k ks => exact rE_dsp (cD_ok kvs hΓ ho h2) (by simp) h1
    · cases h
  | .idx a i, Γ, X, W, x, hΓ, ho, h => by
    simp only [chkE] at h
    split at h
    · simp only [Bool.and_eq_true, Bool.not_eq_true'] at h
      obtain ⟨⟨h1, h2⟩, h3⟩ := h
      exact rE_idx ho.hu (cE_ok a hΓ ho h2).v (cE_ok i hΓ ho h3).v h1
    · cases h
  | .slc a lo hi, Γ, X, W, x, hΓ, ho, h => by
    simp only [chkE] at h
    split at h
    · simp only [Bool.and_eq_true] at h
      obtain ⟨⟨h1, h2⟩, h3⟩ := h
      exact rE_slc (cE_ok a hΓ ho h1).v (cEo_ok lo hΓ ho h2) (cEo_ok hi hΓ ho h3)
    · cases h
  | .fn f es, Γ, X, W, x, hΓ, ho, h => by
    simp only [chkE] at h
    split at h
    · rename_i n p xs pos
      simp only [Bool.and_eq_true, decide_eq_true_eq, Bool.not_eq_true'] at h
      obtain ⟨⟨⟨⟨⟨h1, h2⟩, h3⟩, h4⟩, h5⟩, h6⟩ := h
      obtain ⟨ps, hp⟩ := Option.isSome_iff_exists.mp h2
      cases xs with
      | nil =>
        have e : es = .nil := by cases es <;> simp [chkEs] at h6; rfl
        subst e
        exact rE_fn0 (ho.fns f ps hp) ho.hgu ho.tk (hΓ.gl h3) h1 (nmOk_d h4).1
      | cons y ys => exact rE_fn (ho.fns f ps hp) ho.hgu ho.tk (hΓ.gl h3) h1 (nmOk_d h4).1 (cEs_ok es hΓ ho h6) h5
    · cases h
  | .fnk f es kws ks, Γ, X, W, x, hΓ, ho, h => by
    simp only [chkE] at h
    split at h
    · rename_i n p xs kk pos
      simp only [Bool.and_eq_true, decide_eq_true_eq, Bool.not_eq_true'] at h
      obtain ⟨⟨⟨⟨⟨⟨⟨h1, h2⟩, h3⟩, h4⟩, h5⟩, h6⟩, h7⟩, h8⟩ := h
      obtain ⟨ps, hp⟩ := Option.isSome_iff_exists.mp h2
      cases xs with
      | nil =>
        have e : es = .nil := by cases es <;> simp [chkEs] at h6; rfl
        subst e
        exact rE_fnk0 (ho.fns f ps hp) hp ho.hgu ho.tk (hΓ.gl h3) h1 (nmOk_d h4).1 (cKs_ok kws hΓ ho h8) h7
      | cons y ys => exact rE_fnk (ho.fns f ps hp) hp ho.hgu ho.tk (hΓ.gl h3) h1 (nmOk_d h4).1 (cEs_ok es hΓ ho h6) h5 (cKs_ok kws hΓ ho h8) h7
    · cases h
  | .pr p es, Γ, X, W, x, hΓ, ho, h => by
    simp only [chkE] at h
    split at h
    · rename_i n pp xs pos
      split at h
      · rename_i hp
        simp only [Bool.and_eq_true, decide_eq_true_eq, Bool.not_eq_true'] at h
        obtain ⟨⟨⟨⟨h1, h2⟩, h3⟩, h4⟩, h5⟩ := h
        subst h1
        cases xs with
        | nil => simp at h3
        | cons y ys => exact rE_pr ho.hu ho.hgu ho.calm hp (hΓ.gl h2) (ho.blt _ (pName_blt p)) (cEs_ok es hΓ ho h5) h4
      · split at h
        · simp only [Bool.and_eq_true, decide_eq_true_eq, Bool.not_eq_true'] at h
          obtain ⟨⟨⟨⟨⟨h1, h2⟩, h3⟩, h4⟩, h5⟩, h6⟩ := h
          subst h1 h2
          cases es with
          | nil => simp [chkEs] at h6
          | star _ _ =>
            simp only [chkEs] at h6
            split at h6
            · simp_all [isStar]
            · cases h6
          | cons a r =>
            cases r with
            | nil =>
              simp only [chkEs, Bool.and_eq_true] at h6
              rw [sset_eq]
              exact rE_sset ho.calm (hΓ.gl h3) (ho.blt "sorted" (by decide)) (hΓ.gl h4) (ho.blt "set" (by decide)) (cE_ok a hΓ ho h6.1.2).v h5
            | cons _ _ => simp [chkEs] at h6
            | star _ _ => simp [chkEs] at h6
        · cases h
    · cases h
  | .mt m o es, Γ, X, W, x, hΓ, ho, h => by
    simp only [chkE] at h
    split at h
    · simp only [Bool.and_eq_true, decide_eq_true_eq, Bool.not_eq_true'] at h
      obtain ⟨⟨⟨⟨⟨⟨h1, h2⟩, h3⟩, h4⟩, h5⟩, h6⟩, h7⟩ := h
      refine rE_mt ho.hu h1 (cE_ok o hΓ ho h6).v (cEs_ok es hΓ ho h7) h5 h4 (fun e => ?_) h2 h3
      subst e
      have e : es = .nil := by cases es <;> simp [chkEs] at h7; rfl
      subst e
      exact fun _ _ => rfl
    · cases h
  | .comp t it c e, Γ, X, W, x, hΓ, ho, h => by
    simp only [chkE] at h
    split at h
    · rename_i elt tg iter ifs asy scope pos
      simp only [Bool.and_eq_true, decide_eq_true_eq, Bool.not_eq_true', Bool.or_eq_true] at h
      obtain ⟨⟨⟨⟨⟨⟨⟨⟨h1, h2⟩, h3⟩, h4⟩, h5⟩, h6⟩, h7⟩, h8⟩, h9⟩ := h
      subst h1
      have htr : isTr it = true → ∃ ts, t = .tp ts := fun z => by
        rcases h5 with q | q
        · rw [z] at q; cases q
        · cases t with
          | nm i => simp [isTp] at q
          | tp ts => exact ⟨ts, rfl⟩
      simp only [slotsB, Bool.and_eq_true, List.all_eq_true, decide_eq_true_eq] at h3
      refine .plain (PE.imp (pe_lc ho.calm hΓ.nd (cI_ok it hΓ ho h7 fun z => ?_) (show BlkOk X.N X.env.scope scope (ownOf Γ.N scope.names) by rw [hΓ.N, hΓ.sc]; exact blkB_ok h2) (fun s H C cl fp => rG (X := X.blk s H scope (compEnvC scope cl C X.env) fp) ho.calm hΓ.blk t h6) (fun s H C cl fp => cEc_ok c hΓ.blk ho.blk h8) (fun s H C cl fp => (cE_ok e hΓ.blk ho.blk h9).v) (folded_of h4 _))
        fun σ H Q q => comp_key (fun j hj => h3.1 j hj) (fun j hj => h3.2 j hj) htr q) rfl
      obtain ⟨ts, rfl⟩ := htr z
      cases tg with
      | Tuple elts kk tpos => exact ⟨elts, kk, tpos, rfl⟩
      | _ => simp [chkT] at h6
    · cases h
  | .dcomp _ _ _ _ _, Γ, X, W, x, hΓ, ho, h => by simp [chkE] at h
  | .lrng a b, Γ, X, W, x, hΓ, ho, h => by
    simp only [chkE] at h
    split at h
    · simp only [Bool.and_eq_true, decide_eq_true_eq, Bool.not_eq_true'] at h
      obtain ⟨⟨⟨⟨⟨h1, h2⟩, h3⟩, h4⟩, h5⟩, h6⟩ := h
      subst h1 h2
      split at h6
      · simp only [Bool.and_eq_true] at h6
        have e : a = .cst (.int 0) := by
          unfold isZ at h6
          split at h6
          · rfl
          · simp at h6
        subst e
        exact rE_lrng1 ho.calm (hΓ.gl h3) (ho.blt "list" (by decide)) (hΓ.gl h4) (ho.blt "range" (by decide)) (cE_ok b hΓ ho h6.2).v (any_rest h5).1
      · simp only [Bool.and_eq_true] at h6
        exact rE_lrng2 ho.calm (hΓ.gl h3) (ho.blt "list" (by decide)) (hΓ.gl h4) (ho.blt "range" (by decide)) (cE_ok a hΓ ho h6.1).v (any_rest h5).1 (cE_ok b hΓ ho h6.2).v (any_rest (any_rest h5).2).1
      · cases h6
    · cases h
theorem cEs_ok : ∀ (es : PL.Es) {Γ : Ctx} {X : Cx} {W : WX} {xs : List Expr}, CtxOk Γ X → Okx P C RX G X W → chkEs P G Γ es xs = true → PA X xs (tIs RX X.K W mk (PL.evs P C mk es))
  | .nil, Γ, X, W, xs, hΓ, ho, h => by
    simp only [chkEs] at h
    cases xs with
    | nil => exact rA_nil
    | cons _ _ => simp at h
  | .cons e r, Γ, X, W, xs, hΓ, ho, h => by
    simp only [chkEs] at h
    split at h
    · simp only [Bool.and_eq_true, Bool.not_eq_true'] at h
      exact rA_cons (cE_ok e hΓ ho h.1.2).v h.1.1 (cEs_ok r hΓ ho h.2)
    · cases h
  | .star e r, Γ, X, W, xs, hΓ, ho, h => by
    simp only [chkEs] at h
    split at h
    · simp only [Bool.and_eq_true] at h
      exact rA_star (cE_ok e hΓ ho h.1).v (cEs_ok r hΓ ho h.2)
    · cases h
theorem cD_ok : ∀ (es : PL.Es) {Γ : Ctx} {X : Cx} {W : WX} {ks : List (Option Expr)} {vs : List Expr}, CtxOk Γ X → Okx P C RX G X W → chkD P G Γ es ks vs = true → Disp RX X W mk ks vs (PL.evs P C mk es)
  | .nil, Γ, X, W, ks, vs, hΓ, ho, h => by
    simp only [chkD, Bool.and_eq_true, List.isEmpty_iff] at h
    obtain ⟨rfl, rfl⟩ := h
    exact disp_nil
  | .cons k (.cons v r), Γ, X, W, ks, vs, hΓ, ho, h => by
    simp only [chkD] at h
    split at h
    · simp only [Bool.and_eq_true] at h
      exact disp_cons (cE_ok k hΓ ho h.1.1).v (cE_ok v hΓ ho h.1.2).v (cD_ok r hΓ ho h.2)
    · cases h
  | .cons _ .nil, Γ, X, W, ks, vs, hΓ, ho, h => by simp [chkD] at h
  | .cons _ (.star _ _), Γ, X, W, ks, vs, hΓ, ho, h => by simp [chkD] at h
  | .star _ _, Γ, X, W, ks, vs, hΓ, ho, h => by simp [chkD] at h
theorem cKs_ok : ∀ (es : PL.Es) {Γ : Ctx} {X : Cx} {W : WX} {xs : List Keyword}, CtxOk Γ X → Okx P C RX G X W → chkKs P G Γ es xs = true → PK X xs (tIs RX X.K W mk (PL.evs P C mk es))
  | .nil, Γ, X, W, xs, hΓ, ho, h => by
    simp only [chkKs] at h
    cases xs with
    | nil => exact rK_nil
    | cons _ _ => simp at h
  | .cons e r, Γ, X, W, xs, hΓ, ho, h => by
    simp only [chkKs] at h
    split at h
    · simp only [Bool.and_eq_true] at h
      exact rK_cons (cE_ok e hΓ ho h.1).v (cKs_ok r hΓ ho h.2)
    · cases h
  | .star e r, Γ, X, W, xs, hΓ, ho, h => by simp [chkKs] at h
theorem cB_ok : ∀ (es : PL.Es) (o : Bool) {Γ : Ctx} {X : Cx} {W : WX} {xs : List Expr} {pos : Pos}, CtxOk Γ X → Okx P C RX G X W → xs.isEmpty = false → xs.any isStar = false → chkEs P G Γ es xs = true → PWB RX X W mk (bOp o) xs pos (PL.evb P C mk o es)
  | .nil, o, Γ, X, W, xs, pos, hΓ, ho, hn, hs, h => by
    simp only [chkEs] at h
    rw [hn] at h; cases h
  | .star e r, o, Γ, X, W, xs, pos, hΓ, ho, hn, hs, h => by
    simp only [chkEs] at h
    split at h
    · simp [isStar] at hs
    · cases h
  | .cons e .nil, o, Γ, X, W, xs, pos, hΓ, ho, hn, hs, h => by
    simp only [chkEs] at h
    split at h
    · rename_i x ys
      simp only [Bool.and_eq_true] at h
      cases ys with
      | nil => exact rB_one (cE_ok e hΓ ho h.1.2)
      | cons _ _ => simp at h
    · cases h
  | .cons e (.cons e2 r), o, Γ, X, W, xs, pos, hΓ, ho, hn, hs, h => by
    cases xs with
    | nil => simp at hn
    | cons x ys =>
      have h : (!isStar x && chkE P G Γ e x && chkEs P G Γ (.cons e2 r) ys) = true := h
      simp only [Bool.and_eq_true] at h
      cases ys with
      | nil => simp [chkEs] at h
      | cons y zs => exact rB_cons (cE_ok e hΓ ho h.1.2) (cB_ok (.cons e2 r) o hΓ ho rfl (any_rest hs).2 h.2)
  | .cons e (.star e2 r), o, Γ, X, W, xs, pos, hΓ, ho, hn, hs, h => by
    cases xs with
    | nil => simp at hn
    | cons x ys =>
      have h : (!isStar x && chkE P G Γ e x && chkEs P G Γ (.star e2 r) ys) = true := h
      simp only [Bool.and_eq_true] at h
      obtain ⟨h1, h2⟩ := h
      simp only [chkEs] at h2
      split at h2
      · simp [isStar] at hs
      · cases h2
theorem cEo_ok : ∀ (e : PL.Eo) {Γ : Ctx} {X : Cx} {W : WX} {x : Option Expr}, CtxOk Γ X → Okx P C RX G X W → chkEo P G Γ e x = true → PO X x (tIo RX X.K W mk (PL.evo P C mk e))
  | .none, Γ, X, W, x, hΓ, ho, h => by
    simp only [chkEo] at h
    cases x with
    | none => exact rO_none
    | some _ => simp at h
  | .some e, Γ, X, W, x, hΓ, ho, h => by
    simp only [chkEo] at h
    split at h
    · exact rO_some (cE_ok e hΓ ho h).v
    · cases h
theorem cEc_ok : ∀ (e : PL.Eo) {Γ : Ctx} {X : Cx} {W : WX} {x : List Expr}, CtxOk Γ X → Okx P C RX G X W → chkEc P G Γ e x = true → PTs X x (tIb RX X.K W mk (PL.evc P C mk e))
  | .none, Γ, X, W, x, hΓ, ho, h => by
    simp only [chkEc] at h
    cases x with
    | nil => exact ⟨fun pins s0 σ H Q I ⟨ρ, s, M, re, k, h⟩ => pts_nil.run pins s0 σ H Q I (Post.ok (a := true) (M := M) (Rel := fun _ _ (a b : Bool) => a = b) h k rfl)⟩
    | cons _ _ => simp at h
  | .some e, Γ, X, W, x, hΓ, ho, h => by
    simp only [chkEc] at h
    split at h
    · exact pts_one (cE_ok e hΓ ho h).t
    · cases h
theorem cI_ok : ∀ (it : PL.It) {Γ : Ctx} {X : Cx} {W : WX} {x tg : Expr}, CtxOk Γ X → Okx P C RX G X W → chkI P G Γ it x = true → (isTr it = true → ∃ elts kk tpos, tg = .Tuple elts kk tpos) → PI X tg x (iS RX X.K W mk (isTr it) (PL.evi P C mk it))
  | .of e, Γ, X, W, x, tg, hΓ, ho, h, ht => by
    simp only [chkI] at h
    exact rI_of (cE_ok e hΓ ho h).v
  | .rng1 a, Γ, X, W, x, tg, hΓ, ho, h, ht => by
    simp only [chkI] at h
    split at h
    · simp only [Bool.and_eq_true, decide_eq_true_eq, Bool.not_eq_true'] at h
      obtain ⟨⟨⟨h1, h2⟩, h3⟩, h4⟩ := h
      subst h1
      exact rI_rng1 (hΓ.gl h2) (ho.blt "range" (by decide)) (cE_ok a hΓ ho h4).v h3
    · cases h
  | .rng2 a b, Γ, X, W, x, tg, hΓ, ho, h, ht => by
    simp only [chkI] at h
    split at h
    · simp only [Bool.and_eq_true, decide_eq_true_eq, Bool.not_eq_true'] at h
      obtain ⟨⟨⟨⟨⟨h1, h2⟩, h3⟩, h4⟩, h5⟩, h6⟩ := h
      subst h1
      exact rI_rng2 (hΓ.gl h2) (ho.blt "range" (by decide)) (cE_ok a hΓ ho h5).v h3 (cE_ok b hΓ ho h6).v h4
    · cases h
  | .rng3 a b c, Γ, X, W, x, tg, hΓ, ho, h, ht => by
    simp only [chkI] at h
    split at h
    · simp only [Bool.and_eq_true, decide_eq_true_eq, Bool.not_eq_true'] at h
      obtain ⟨⟨⟨⟨⟨⟨⟨h1, h2⟩, h3⟩, h4⟩, h5⟩, h6⟩, h7⟩, h8⟩ := h
      subst h1
      exact rI_rng3 (hΓ.gl h2) (ho.blt "range" (by decide)) (cE_ok a hΓ ho h6).v h3 (cE_ok b hΓ ho h7).v h4 (cE_ok c hΓ ho h8).v h5
    · cases h
  | .enum a, Γ, X, W, x, tg, hΓ, ho, h, ht => by
    simp only [chkI] at h
    split at h
    · simp only [Bool.and_eq_true, decide_eq_true_eq, Bool.not_eq_true'] at h
      obtain ⟨⟨⟨h1, h2⟩, h3⟩, h4⟩ := h
      subst h1
      obtain ⟨elts, kk, tpos, rfl⟩ := ht rfl
      exact rI_enum (hΓ.gl h2) (ho.blt "enumerate" (by decide)) (cE_ok a hΓ ho h4).v h3
    · cases h
  | .zip a b, Γ, X, W, x, tg, hΓ, ho, h, ht => by
    simp only [chkI] at h
    split at h
    · simp only [Bool.and_eq_true, decide_eq_true_eq, Bool.not_eq_true'] at h
      obtain ⟨⟨⟨⟨⟨h1, h2⟩, h3⟩, h4⟩, h5⟩, h6⟩ := h
      subst h1
      obtain ⟨elts, kk, tpos, rfl⟩ := ht rfl
      exact rI_zip (hΓ.gl h2) (ho.blt "zip" (by decide)) (cE_ok a hΓ ho h5).v h3 (cE_ok b hΓ ho h6).v h4
    · cases h
  | .items _, Γ, X, W, x, tg, hΓ, ho, h, ht => by simp [chkI] at h
  | .values _, Γ, X, W, x, tg, hΓ, ho, h, ht => by simp [chkI] at h
end
end
end PLS

/-! PLS21: the rules of statements. -/
namespace PLS
open PySem PySem.Spec PyProof.Rows L2
/-- what a block's run promises -/
def PostS (K : PySem.W.Frag) (mk : Mk) (RX : RXT) (W : WX) (ρ : List Addr) (H : Hp) (D : Ends) : PL.Rs → Prop
  | .nx s' M' => ∀ ρ' H' σ', Ext ρ H ρ' H' → Ok K mk ρ' H' M' → RepE K ρ' H' s' σ' → D.nx σ' H'
  | .bk s' M' => ∀ ρ' H' σ', Ext ρ H ρ' H' → Ok K mk ρ' H' M' → RepE K ρ' H' s' σ' → D.bk σ' H'
  | .rt v M' => ∀ ρ' H' u, Ext ρ H ρ' H' → Ok K mk ρ' H' M' → RepV K ρ' H' v u → D.rt u H'
  | .exc x s' M' => ∀ ρ' H' σ', Ext ρ H ρ' H' → Ok K mk ρ' H' M' → RepE K ρ' H' s' σ' → ∀ cls d, RX ρ' H' x cls d → W cls d σ' H'
  | .no => False
section
variable {K : PySem.W.Frag} {mk : Mk} {RX : RXT} {W : WX} {ρ ρ' : List Addr} {H H' : Hp} {D : Ends}
theorem PostS.ext {m : PL.Rs} (h : PostS K mk RX W ρ H D m) (x : Ext ρ H ρ' H') : PostS K mk RX W ρ' H' D m := by
  cases m with
  | nx s M => exact fun ρ2 H2 σ2 x2 k r => h ρ2 H2 σ2 (x.trans x2) k r
  | bk s M => exact fun ρ2 H2 σ2 x2 k r => h ρ2 H2 σ2 (x.trans x2) k r
  | rt v M => exact fun ρ2 H2 u x2 k r => h ρ2 H2 u (x.trans x2) k r
  | exc e s M => exact fun ρ2 H2 σ2 x2 k r => h ρ2 H2 σ2 (x.trans x2) k r
  | no => exact h
theorem toS_bind {m : PL.R PV} {f : PV → PL.Mem → PL.Rs} {s : PL.Env} {σ : L2.St} {Q : VK} (h : PostS K mk RX W ρ H D (m.toS s f)) (re : RepE K ρ H s σ)
    (k : ∀ v M1 ρ1 H1 u, Ext ρ H ρ1 H1 → Ok K mk ρ1 H1 M1 → RepV K ρ1 H1 v u → PostS K mk RX W ρ1 H1 D (f v M1) → Q u H1) : Post K mk (RepV K) (EX RX K W σ) ρ H Q m := by
  cases m with
  | ok v M => exact fun ρ1 H1 u x o r => k v M ρ1 H1 u x o r (PostS.ext h x)
  | exc e M => exact fun ρ1 H1 x o => h ρ1 H1 σ x o (re.ext x)
  | no => exact h
theorem toSl_bind {α β : Type} {Rel : List Addr → Hp → α → β → Prop} {m : PL.R α} {f : α → PL.Mem → PL.Rs} {s : PL.Env} {σ : L2.St} {Q : β → Hp → Prop} (h : PostS K mk RX W ρ H D (m.toSl s f)) (re : RepE K ρ H s σ)
    (k : ∀ v M1 ρ1 H1 u, Ext ρ H ρ1 H1 → Ok K mk ρ1 H1 M1 → Rel ρ1 H1 v u → PostS K mk RX W ρ1 H1 D (f v M1) → Q u H1) : Post K mk Rel (EX RX K W σ) ρ H Q m := by
  cases m with
  | ok v M => exact fun ρ1 H1 u x o r => k v M ρ1 H1 u x o r (PostS.ext h x)
  | exc e M => exact fun ρ1 H1 x o => h ρ1 H1 σ x o (re.ext x)
  | no => exact h
end
abbrev Ms := PL.Env → PL.Mem → PL.Rs
def tSt (RX : RXT) (K : PySem.W.Frag) (W : WX) (mk : Mk) (m : Ms) : TS := fun D σ H => ∃ ρ s M, RepE K ρ H s σ ∧ Ok K mk ρ H M ∧ PostS K mk RX W ρ H D (m s M)
def isComp : Expr → Bool
  | .ListComp _ _ _ _ | .SetComp _ _ _ _ | .DictComp _ _ _ _ _ => true
  | _ => false
theorem swaps_of {e : Expr} (h : isComp e = false) (t : Option Expr) (l : Nat) (env : Env) : swapsWith e t l env = pure false := by
  cases e <;> first | rfl | simp [isComp] at h
section
variable {X : Cx} {RX : RXT} {W : WX} {mk : Mk} {x a b c e : Expr} {es : List Expr} {m ma mb mc : Mn PV} {ms mks : Mn (List PV)} {pos pos2 p : Pos} {st : Stmt} {sts : List Stmt} {n n1 n2 : Ms}
theorem rS_nil : PSs X [] (tSt RX X.K W mk fun σ M => .nx σ M) := PSs.imp pss_nil fun D σ H ⟨ρ, s, M, re, k, h⟩ => h ρ H σ .refl k re
theorem rS_cons (h1 : PS X st (tSt RX X.K W mk n1)) (h2 : PSs X sts (tSt RX X.K W mk n2)) : PSs X (st :: sts) (tSt RX X.K W mk fun σ M => match n1 σ M with | .nx σ1 M1 => n2 σ1 M1 | o => o) := by
  refine PSs.imp (pss_cons h1 h2) fun D σ H ⟨ρ, s, M, re, k, h⟩ => ⟨ρ, s, M, re, k, ?_⟩
  dsimp only at h
  cases e : n1 s M with
  | nx s1 M1 => rw [e] at h; exact fun ρ' H' σ' x' k' r' => ⟨ρ', s1, M1, r', k', PostS.ext h x'⟩
  | bk s1 M1 => rw [e] at h; exact h
  | rt v M1 => rw [e] at h; exact h
  | exc x s1 M1 => rw [e] at h; exact h
  | no => rw [e] at h; exact h
theorem rS_pass : PS X (.Pass pos) (tSt RX X.K W mk fun σ M => .nx σ M) := PS.imp ps_pass fun D σ H ⟨ρ, s, M, re, k, h⟩ => h ρ H σ .refl k re
theorem rS_brk : PS X (.Break pos) (tSt RX X.K W mk fun σ M => .bk σ M) := PS.imp ps_break fun D σ H ⟨ρ, s, M, re, k, h⟩ => h ρ H σ .refl k re
theorem rS_ex (ha : PE X a (tI RX X.K W mk ma)) (hc : isComp a = false) : PS X (.Expr a pos) (tSt RX X.K W mk fun σ M => (ma σ M).toS σ fun _ M1 => .nx σ M1) :=
  PS.imp (ps_expr ha (swaps_of hc _ _ _)) fun D σ H ⟨ρ, s, M, re, k, h⟩ => ⟨ρ, s, M, re, k, toS_bind h re fun v M1 ρ1 H1 u x1 k1 r1 h1 => h1 ρ1 H1 σ .refl k1 (re.ext x1)⟩
theorem rS_doc {z : Str} {j : Nat} {p' : Pos} : PS X (.Expr (.Constant (.str z) j p') pos) (tSt RX X.K W mk fun σ M => .nx σ M) := PS.imp ps_doc fun D σ H ⟨ρ, s, M, re, k, h⟩ => h ρ H σ .refl k re
theorem rS_ret (ha : PE X a (tI RX X.K W mk ma)) : PS X (.Return (some a) pos) (tSt RX X.K W mk fun σ M => (ma σ M).toS σ fun v M1 => .rt v M1) :=
  PS.imp (ps_ret ha) fun D σ H ⟨ρ, s, M, re, k, h⟩ => ⟨ρ, s, M, re, k, toS_bind h re fun v M1 ρ1 H1 u x1 k1 r1 h1 => h1 ρ1 H1 u .refl k1 r1⟩
theorem rS_retN : PS X (.Return none pos) (tSt RX X.K W mk fun _ M => .rt .non M) := PS.imp ps_retN fun D σ H ⟨ρ, s, M, re, k, h⟩ => h ρ H .non .refl k rep_non
theorem rS_if (hc : PT X c (tIb RX X.K W mk mc)) (ha : PSs X sts (tSt RX X.K W mk n1)) {sts2 : List Stmt} (hb : PSs X sts2 (tSt RX X.K W mk n2)) :
    PS X (.If c sts sts2 pos) (tSt RX X.K W mk fun σ M => (mc σ M).toS σ fun v M1 => match v with | .bl true => n1 σ M1 | .bl false => n2 σ M1 | _ => .no) := by
  refine PS.imp (ps_if hc ha hb) fun D σ H ⟨ρ, s, M, re, k, h⟩ => ⟨ρ, s, M, re, k, ?_⟩
  unfold asB
  dsimp only at h
  rcases m_cases (mc s M) with e | ⟨x, M1, e⟩ | ⟨v, M1, e⟩
  · rw [e] at h; exact h.elim
  · rw [e] at h ⊢; exact fun ρ1 H1 x1 k1 => h ρ1 H1 σ x1 k1 (re.ext x1)
  · rw [e] at h ⊢
    cases v with
    | bl d =>
      exact fun ρ' H' d' x' k' r' => by
        subst r'
        have h2 := PostS.ext h x'
        cases d with
        | true => exact ⟨ρ', s, M1, re.ext x', k', h2⟩
        | false => exact ⟨ρ', s, M1, re.ext x', k', h2⟩
    | _ => exact h.elim
/-! ### stores -/
theorem rS_asg {t : PL.Tg} {tg : Expr} {Γ : Ctx} (hcalm : X.calm = true) (hΓ : CtxOk Γ X) (ha : PE X a (tI RX X.K W mk ma)) (ht : chkT Γ t tg = true) (hs : swapsWith a (some tg) pos.line X.env = pure false) (hw : swappedStores [tg] a X.env = pure none) :
    PS X (.Assign [tg] a pos) (tSt RX X.K W mk fun σ M => (ma σ M).toS σ fun v M1 => match PL.asgM M1 t v σ with | some σ' => .nx σ' M1 | none => .no) := by
  refine PS.imp (ps_asg ha (rGM hcalm hΓ t ht) hs hw (by rw [assignEach_of (chkT_star ht)]; rfl)) fun D σ H ⟨ρ, s, M, re, k, h⟩ => ⟨ρ, s, M, re, k, toS_bind h re fun v M1 ρ1 H1 u x1 k1 r1 h1 => ?_⟩
  split at h1
  · rename_i s' e
    exact ⟨[], ρ1, M1, v, s, s', (re.ext x1).toOff, k1.rep, r1, e, fun σ' re' so => h1 ρ1 H1 σ' .refl k1 (re'.mono fun j hj => by simp [less] at hj).all⟩
  · exact h1.elim
theorem post_put {ρ : List Addr} {H : Hp} {M : PL.Mem} {o i v : PV} {uo ui uv : V} {Q : Hp → Prop} {M4 : PL.Mem} {K : PySem.W.Frag} (k : Ok K mk ρ H M) (ro : RepV K ρ H o uo) (ri : RepV K ρ H i ui) (rv : RepV K ρ H v uv) (e : PL.put mk M o i v = some M4)
    (q : ∀ H', Ext ρ H ρ H' → Ok K mk ρ H' M4 → Q H') : rSetL uo ui uv H Q ∨ (∃ a H4, uo = .ref a ∧ DPut H a ui uv H4 ∧ Q H4) ∨
      ∃ a b kvs is o, uo = .ref a ∧ ui = .ref b ∧ H a = some (DTO a kvs) ∧ KeysAt H kvs ∧ H b = some (.frz o (.tup (is.map V.int))) ∧ kvs.length < sizeLine ∧ Q (upd H a (DTO a (putT kvs is b uv))) := by
  unfold PL.put at e
  split at e
  · rename_i a
    obtain ⟨p, hp, rfl⟩ := ref_at ro
    split at e
    · rename_i xs hm
      split at e
      · rename_i n
        obtain ⟨b, us, h1, h2, h3⟩ := k.rep.lst hm
        rw [hp] at h1; obtain rfl := Option.some.inj h1
        simp only [RepV] at ri
        subst ri
        obtain ⟨j, e1, e2⟩ := Option.bind_eq_some_iff.mp e
        split at e2
        · rename_i hw
          obtain rfl := Option.some.inj e2
          refine .inl ⟨p, us, n, j, rfl, rfl, h2, by rw [← h3.length, ← nIx_eq]; exact e1, q _ (Ext.write hp) (k.write hp ⟨_, rfl, h3.set rv j⟩ fun hi => ?_)⟩
          refine belows_iff.mpr fun y hy => ?_
          rcases List.mem_or_eq_of_mem_set hy with hy | rfl
          · exact belows_iff.mp (k.lstBel hm hi) y hy
          · exact below_wOk_ hw hi
        · cases e2
      · cases e
    · rename_i dt ks vs hm
      split at e
      · rename_i hw
        simp only [Bool.and_eq_true, decide_eq_true_eq] at hw
        obtain ⟨⟨⟨w1, w2⟩, w3⟩, w4⟩ := hw
        obtain rfl := Option.some.inj e
        have hbel : ∀ {m}, mk.In a m → belowO m (.dct dt (PL.dputV ks vs i v).1 (PL.dputV ks vs i v).2) = true := fun {m} hi => by
          obtain ⟨b1, b2⟩ := k.dctBel hm hi
          simp only [belowO, Bool.and_eq_true]
          unfold PL.dputV
          split
          · refine ⟨b1, belows_iff.mpr fun y hy => ?_⟩
            have : ∀ {ks vs : List PV}, belows _ vs = true → ∀ y ∈ PL.putAll ks vs i v, below _ y = true := fun {ks} => by
              induction ks with
              | nil => intro vs _ y hy; simp [PL.putAll] at hy
              | cons k0 ks ih =>
                intro vs hb y hy
                cases vs with
                | nil => simp [PL.putAll] at hy
                | cons v0 vs =>
                  simp only [belows, Bool.and_eq_true] at hb
                  simp only [PL.putAll, List.mem_cons] at hy
                  rcases hy with rfl | hy
                  · split
                    · exact below_wOk_ w4 hi
                    · exact hb.1
                  · exact ih hb.2 y hy
            exact this b2 y hy
          · exact ⟨belows_snoc b1 (below_wOk_ w3 hi), belows_snoc b2 (below_wOk_ w4 hi)⟩
        cases dt with
        | false =>
          obtain ⟨b, kvs, h1, h2, h3, h4⟩ := k.rep.dct hm
          rw [hp] at h1; obtain rfl := Option.some.inj h1
          obtain ⟨kk, e1, rfl⟩ := key_rep ri w1
          have hl : kvs.length < sizeLine := by
            have := congrArg List.length h3
            rw [List.length_map, List.length_map] at this
            rw [← this, ← SZ_eq]; exact w2
          obtain ⟨d1, d2⟩ := dput_rep e1 rv h3 h4
          exact .inr (.inl ⟨p, _, rfl, DPut.k h2 hl, q _ (Ext.write hp) (k.write hp ⟨_, rfl, d1, d2⟩ hbel)⟩)
        | true =>
          obtain ⟨b, kvs, h1, h2, rfl, h3, h4⟩ := k.rep.dctT hm
          rw [hp] at h1; obtain rfl := Option.some.inj h1
          obtain ⟨is, b', o, rfl, rfl, hb⟩ := keyT_rep ri w1
          have hl : kvs.length < sizeLine := by
            rw [List.length_map] at w2
            rw [← SZ_eq]; exact w2
          obtain ⟨d1, d2, d3⟩ := tput_rep is ri rv h3 h4
          exact .inr (.inr ⟨p, b', kvs, is, o, rfl, rfl, h2, keysAt_rep h3, hb, hl, q _ (Ext.write hp) (k.write hp ⟨_, rfl, d1, d2, d3⟩ hbel)⟩)
      · cases e
    · cases e
  · cases e
theorem rS_put {o i v : Expr} {mo mi mv : Mn PV} {pos' : Pos} (hu : X.A.units + 200 < cLine) (ho : PE X o (tI RX X.K W mk mo)) (hi : PE X i (tI RX X.K W mk mi)) (hv : PE X v (tI RX X.K W mk mv)) (hc : isComp v = false) :
    PS X (.Assign [.Subscript o i pos'] v pos) (tSt RX X.K W mk fun σ M => (mv σ M).toS σ fun v M1 => (mo σ M1).toS σ fun ov M2 => (mi σ M2).toS σ fun iv M3 => match PL.put mk M3 ov iv v with | some M4 => .nx σ M4 | none => .no) := by
  refine ⟨fun pins s0 σ H D I ⟨ρ, s, M, re, k, h⟩ => ?_⟩
  refine wpAny_Assign_Subscript (thn (hv.run pins s0 σ H (fun uv H1 => tI RX X.K W mk mo σ H1 fun uo H2 => tI RX X.K W mk mi σ H2 fun ui H3 => rSetL uo ui uv H3 (fun H4 => D.nx σ H4) ∨ (∃ a H4, uo = .ref a ∧ DPut H3 a ui uv H4 ∧ D.nx σ H4) ∨
      ∃ a b kvs is o, uo = .ref a ∧ ui = .ref b ∧ H3 a = some (DTO a kvs) ∧ KeysAt H3 kvs ∧ H3 b = some (.frz o (.tup (is.map V.int))) ∧ kvs.length < sizeLine ∧ D.nx σ (upd H3 a (DTO a (putT kvs is b uv)))) I
    ⟨ρ, s, M, re, k, toS_bind h re fun v M1 ρ1 H1 uv x1 k1 r1 h1 => ⟨ρ1, s, M1, re.ext x1, k1, toS_bind h1 (re.ext x1) fun ov M2 ρ2 H2 uo x2 k2 r2 h2 => ⟨ρ2, s, M2, (re.ext x1).ext x2, k2, toS_bind h2 ((re.ext x1).ext x2) fun iv M3 ρ3 H3 ui x3 k3 r3 h3 => ?_⟩⟩⟩)
    fun r s1 ⟨uv, H1, I1, rv, q1⟩ => thn (ho.run pins s1 σ H1 _ I1 q1) fun u s2 ⟨uo, H2, I2, ro, q2⟩ => thn (hi.run pins s2 σ H2 _ I2 q2) fun iv s3 ⟨ui, H3, I3, ri, q3⟩ => ?_) (swaps_of hc _ _ _)
  · split at h3
    · rename_i M4 e
      exact post_put k3 (r2.ext x3) r3 ((r1.ext x2).ext x3) e fun H' x' k' => h3 ρ3 H' σ x' k' ((((re.ext x1).ext x2).ext x3).ext x')
    · exact h3.elim
  · rcases q3 with q3 | ⟨a, H4, rfl, g, q3⟩ | ⟨a, b, kvs, is, o, rfl, rfl, z1, z2, z3, z4, q3⟩
    · exact thn (set_list pins s3 σ H3 uo ui uv u iv r _ I3 ro ri rv q3) fun _ s4 ⟨H4, I4, q4⟩ => ⟨σ, H4, I4, q4⟩
    · obtain rfl : u = Value.ref a := ro
      exact d_setItem (by omega) I3 g ri rv fun s4 I4 => ⟨σ, H4, I4, q3⟩
    · obtain rfl : u = Value.ref a := ro
      obtain rfl : iv = Value.ref b := ri
      exact t_setItem (by omega) I3 z1 z2 z3 z4 rv fun s4 I4 => ⟨σ, _, I4, q3⟩
end
end PLS

/-! PLS22: loops; a comprehension stored; a, b = x, y. -/
namespace PLS
open PySem PySem.Spec PyProof.Rows L2
section
variable {X : Cx} {RX : RXT} {W : WX} {mk : Mk} {x a b c e : Expr} {es : List Expr} {m ma mb : Mn PV} {mi : Mn PL.Src} {mc me : Mn PV} {ms mks : Mn (List PV)} {pos pos2 p : Pos} {st : Stmt} {sts : List Stmt} {n n1 n2 : Ms} {t : PL.Tg} {Γ : Ctx}
theorem turn_body {K : PySem.W.Frag} {ρ : List Addr} {H : Hp} {D : Ends} {N : L2.St → Hp → Prop} {s : PL.Env} {M : PL.Mem} {nxt : PL.Env → PL.Mem → PL.Rs}
    (h : PostS K mk RX W ρ H D (match n s M with | .nx σ1 M1 => nxt σ1 M1 | .bk σ1 M1 => .nx σ1 M1 | r => r))
    (k : ∀ s1 M1 ρ1 H1 σ1, Ext ρ H ρ1 H1 → Ok K mk ρ1 H1 M1 → RepE K ρ1 H1 s1 σ1 → PostS K mk RX W ρ1 H1 D (nxt s1 M1) → N σ1 H1) :
    PostS K mk RX W ρ H { D with nx := N, ct := N, bk := D.nx } (n s M) := by
  cases e : n s M with
  | nx s1 M1 => rw [e] at h; exact fun ρ' H' σ' x' k' r' => k s1 M1 ρ' H' σ' x' k' r' (PostS.ext h x')
  | bk s1 M1 => rw [e] at h; exact h
  | rt v M1 => rw [e] at h; exact h
  | exc x s1 M1 => rw [e] at h; exact h
  | no => rw [e] at h; exact h
theorem rS_for {tg iter : Expr} {tr : Bool} (hp : PassesOwn (model X.prog X.w) X.A X.env X.xe) (hcalm : X.calm = true) (hΓ : CtxOk Γ X) (hi : PI X tg iter (iS RX X.K W mk tr mi)) (ht : chkT Γ t tg = true) (htr : tr = true → ∃ ts, t = .tp ts)
    (hb : PSs X sts (tSt RX X.K W mk n)) (hs : isSet iter = false) : PS X (.For tg iter sts [] pos) (tSt RX X.K W mk fun σ M => (mi σ M).toSl σ fun s M1 => PL.forL s.2 t n s.1 σ M1) := by
  refine PS.imp (ps_for hp hcalm hi (rG hcalm hΓ t ht) hb (folded_of hs _)) fun D σ H ⟨ρ, s, M, re, k, h⟩ => ⟨ρ, s, M, re, k, toSl_bind h re fun src M1 ρ1 H1 J x1 k1 sv h1 => ?_⟩
  refine ⟨fun i q σ' H' => ∃ ρ' s' M', Ext ρ1 H1 ρ' H' ∧ Ok X.K mk ρ' H' M' ∧ RepE X.K ρ' H' s' σ' ∧ i ≤ src.1.length ∧ q = src.1.length - i ∧ PostS X.K mk RX W ρ' H' D (PL.forL src.2 t n (src.1.drop i) s' M'),
    ⟨_, ρ1, s, M1, .refl, k1, re.ext x1, Nat.zero_le _, rfl, h1⟩, ?_⟩
  rintro i q σ' H' ⟨ρ', s', M', x', k', re', hi', hq, hp'⟩
  cases hdr : src.1.drop i with
  | nil =>
    rw [hdr] at hp'
    have hil : i = src.1.length := by
      have := congrArg List.length hdr
      rw [List.length_drop, List.length_nil] at this
      omega
    unfold PL.forL at hp'
    split at hp'
    · rename_i hw
      exact .inl ⟨(sv i ρ' H' M' x' k' hw).2 hil, hp' ρ' H' σ' .refl k' re'⟩
    · exact hp'.elim
  | cons y rest =>
    rw [hdr] at hp'
    obtain ⟨hy, hrest⟩ := drop_cons hdr
    have hil : i < src.1.length := (List.getElem?_eq_some_iff.mp hy).1
    unfold PL.forL at hp'
    split at hp'
    · rename_i hw
      obtain ⟨go, yl⟩ := (sv i ρ' H' M' x' k' hw).1 y hy
      refine .inr ⟨go, fun σ2 H2 => ∃ ρ2 s2 M2, Ext ρ1 H1 ρ2 H2 ∧ Ok X.K mk ρ2 H2 M2 ∧ RepE X.K ρ2 H2 s2 σ2 ∧ PostS X.K mk RX W ρ2 H2 D (PL.forL src.2 t n rest s2 M2), ?_, ?_⟩
      · rintro σ2 H2 ⟨ρ2, s2, M2, x2, k2, re2, h2⟩
        exact ⟨q - 1, by omega, ρ2, s2, M2, x2, k2, re2, hil, by omega, by rw [hrest]; exact h2⟩
      · intro u H2 hyl
        obtain ⟨x3, k3, rx⟩ := yl u H2 hyl
        split at hp'
        · exact hp'.elim
        · rename_i s2 hs2
          refine ⟨[], ρ', y, s', s2, tr, (re'.ext x3).toOff, rx, htr, hs2, fun σ2 re2 so => ?_⟩
          refine ⟨ρ', s2, M', (re2.mono fun j hj => by simp [less] at hj).all, k3, turn_body (PostS.ext hp' x3) fun s4 M4 ρ4 H4 σ4 x4 k4 re4 h4 => ?_⟩
          exact ⟨ρ4, s4, M4, (x'.trans x3).trans x4, k4, re4, h4⟩
    · exact hp'.elim
theorem rS_whl (hp : PassesOwn (model X.prog X.w) X.A X.env X.xe) (hc : PT X c (tIb RX X.K W mk mc)) (hb : PSs X sts (tSt RX X.K W mk n)) : PS X (.While c sts [] pos) (tSt RX X.K W mk fun σ M => PL.whlL mc n PL.FUEL σ M) := by
  generalize PL.FUEL = F
  refine PS.imp (ps_while hp hc hb) fun D σ H ⟨ρ, s, M, re, k, h⟩ => ?_
  refine ⟨fun q σ' H' => ∃ ρ' s' M', Ok X.K mk ρ' H' M' ∧ RepE X.K ρ' H' s' σ' ∧ PostS X.K mk RX W ρ' H' D (PL.whlL mc n q s' M'), ⟨F, ρ, s, M, k, re, h⟩, ?_⟩
  rintro q σ' H' ⟨ρ', s', M', k', re', hp'⟩
  cases q with
  | zero => exact hp'.elim
  | succ q =>
    unfold PL.whlL at hp'
    refine ⟨ρ', s', M', re', k', ?_⟩
    unfold asB
    rcases m_cases (mc s' M') with e | ⟨x, M1, e⟩ | ⟨v, M1, e⟩
    · rw [e] at hp'; exact hp'.elim
    · rw [e] at hp' ⊢; exact fun ρ1 H1 x1 k1 => hp' ρ1 H1 σ' x1 k1 (re'.ext x1)
    · rw [e] at hp' ⊢
      cases v with
      | bl d =>
        exact fun ρ1 H1 d' x1 k1 r1 => by
          subst r1
          have h2 := PostS.ext hp' x1
          cases d with
          | true =>
            rw [if_pos rfl]
            refine ⟨fun σ2 H2 => ∃ ρ2 s2 M2, Ok X.K mk ρ2 H2 M2 ∧ RepE X.K ρ2 H2 s2 σ2 ∧ PostS X.K mk RX W ρ2 H2 D (PL.whlL mc n q s2 M2), fun σ2 H2 z => ⟨q, Nat.lt_succ_self _, z⟩, ρ1, s', M1, re'.ext x1, k1, turn_body h2 fun s4 M4 ρ4 H4 σ4 x4 k4 re4 h4 => ⟨ρ4, s4, M4, k4, re4, h4⟩⟩
          | false => exact h2 ρ1 H1 σ' .refl k1 (re'.ext x1)
      | _ => exact hp'.elim
/-- name = [..] -/
theorem rS_setLc {i : Nat} {y : Str} {py spos : Pos} {elt tg iter : Expr} {ifs : List Expr} {scope : Scope} {own : List (Str × Nat)} {tr : Bool} (hc : X.calm = true) (hN : X.N.Nodup) (hy : X.N[i]? = some y) (hyl : X.env.scope.names.lookup y = some .local)
    (hsw : swapsWith (.ListComp elt [⟨tg, iter, ifs, 0⟩] scope pos) (some (.Name y py)) spos.line X.env = pure true) (hi : PI X tg iter (iS RX X.K W mk tr mi)) (ok : BlkOk X.N X.env.scope scope own)
    (hg : ∀ (s : Shared) (H : Hp) (C : Addr) (cl : List (Str × Addr)) (fp : List Addr), PG (X.blk s H scope (compEnvC scope cl C X.env) fp) tg (gT X.K t))
    (ht : ∀ (s : Shared) (H : Hp) (C : Addr) (cl : List (Str × Addr)) (fp : List Addr), PTs (X.blk s H scope (compEnvC scope cl C X.env) fp) ifs (tIb RX X.K WF mk mc))
    (he : ∀ (s : Shared) (H : Hp) (C : Addr) (cl : List (Str × Addr)) (fp : List Addr), PE (X.blk s H scope (compEnvC scope cl C X.env) fp) elt (tI RX X.K WF mk me)) (hs : isSet iter = false)
    (h1 : ∀ j ∈ tgIs t, j ∈ own.map (·.2)) (h2 : ∀ j ∈ own.map (·.2), j ∈ tgIs t) (htr : tr = true → ∃ ts, t = .tp ts) :
    PS X (.Assign [.Name y py] (.ListComp elt [⟨tg, iter, ifs, 0⟩] scope pos) spos) (tSt RX X.K W mk fun σ M => (compM t mi mc me σ M).toS σ fun v M1 => match PL.asg (.nm i) v σ with | some σ' => .nx σ' M1 | none => .no) := by
  refine PS.imp (ps_setLc hc hN hy hyl hsw hi ok hg ht he (folded_of hs _)) fun D σ H ⟨ρ, s, M, re, k, h⟩ => ?_
  refine comp_key (RX := RX) (W := W) (mk := mk) h1 h2 htr (Q := fun x H1 => D.nx (σ.set i (some x)) H1) ⟨ρ, s, M, re, k, toS_bind h re fun v M1 ρ1 H1 u x1 k1 r1 h1 => ?_⟩
  simp only [PL.asg] at h1
  exact h1 ρ1 H1 _ .refl k1 ((re.ext x1).set r1)
/-! ### a, b = x, y -/
theorem rS_par2 {i j : Nat} {y z : Str} {px py pt : Pos} {kt k2 : Nat} {pt2 : Pos} (hc : X.calm = true) (hN : X.N.Nodup) (hi : X.N[i]? = some y) (hj : X.N[j]? = some z) (hij : i ≠ j) (hx : X.env.scope.names.lookup y = some .local) (hy : X.env.scope.names.lookup z = some .local)
    (ha : PA X [a, b] (tIs RX X.K W mk ms)) (hw : swappedStores [.Tuple [.Name y px, .Name z py] kt pt] (.Tuple [a, b] k2 pt2) X.env = pure (some [y, z])) :
    PS X (.Assign [.Tuple [.Name y px, .Name z py] kt pt] (.Tuple [a, b] k2 pt2) pos) (tSt RX X.K W mk fun σ M => (ms σ M).toSl σ fun vs M1 => match PL.pars [i, j] vs σ with | some σ' => .nx σ' M1 | none => .no) := by
  refine PS.imp (ps_par hc hN hi hj hij hx hy ha hw rfl) fun D σ H ⟨ρ, s, M, re, k, h⟩ => ⟨ρ, s, M, re, k, toSl_bind h re fun vs M1 ρ1 H1 us x1 k1 r1 h1 => ?_⟩
  split at h1
  · rename_i s' e
    match vs, e, r1 with
    | [v, w], e, r1 =>
      simp only [PL.pars, Option.some.injEq] at e
      subst e
      obtain ⟨u, t, rfl, q1, q2⟩ := r1.inv
      obtain ⟨u2, t2, rfl, q3, q4⟩ := q2.inv
      rw [q4.inv0]
      exact ⟨u, u2, rfl, h1 ρ1 H1 _ .refl k1 (((re.ext x1).set q1).set q3)⟩
    | [], e, _ => simp [PL.pars] at e
    | [_], e, _ => simp [PL.pars] at e
    | _ :: _ :: _ :: _, e, _ => simp [PL.pars] at e
  · exact h1.elim
theorem rS_par3 {i j l : Nat} {y z w : Str} {px py pz pt : Pos} {kt k2 : Nat} {pt2 : Pos} (hc : X.calm = true) (hN : X.N.Nodup) (hi : X.N[i]? = some y) (hj : X.N[j]? = some z) (hl : X.N[l]? = some w) (hij : i ≠ j) (hil : i ≠ l) (hjl : j ≠ l)
    (hx : X.env.scope.names.lookup y = some .local) (hy : X.env.scope.names.lookup z = some .local) (hz : X.env.scope.names.lookup w = some .local)
    (ha : PA X [a, b, c] (tIs RX X.K W mk ms)) (hw : swappedStores [.Tuple [.Name y px, .Name z py, .Name w pz] kt pt] (.Tuple [a, b, c] k2 pt2) X.env = pure (some [y, z, w])) :
    PS X (.Assign [.Tuple [.Name y px, .Name z py, .Name w pz] kt pt] (.Tuple [a, b, c] k2 pt2) pos) (tSt RX X.K W mk fun σ M => (ms σ M).toSl σ fun vs M1 => match PL.pars [i, j, l] vs σ with | some σ' => .nx σ' M1 | none => .no) := by
  refine PS.imp (ps_par3 hc hN hi hj hl hij hil hjl hx hy hz ha hw rfl) fun D σ H ⟨ρ, s, M, re, k, h⟩ => ⟨ρ, s, M, re, k, toSl_bind h re fun vs M1 ρ1 H1 us x1 k1 r1 h1 => ?_⟩
  split at h1
  · rename_i s' e
    match vs, e, r1 with
    | [v, w, t], e, r1 =>
      simp only [PL.pars, Option.some.injEq] at e
      subst e
      obtain ⟨u, t, rfl, q1, q2⟩ := r1.inv
      obtain ⟨u2, t2, rfl, q3, q4⟩ := q2.inv
      obtain ⟨u3, t3, rfl, q5, q6⟩ := q4.inv
      rw [q6.inv0]
      exact ⟨u, u2, u3, rfl, h1 ρ1 H1 _ .refl k1 ((((re.ext x1).set q1).set q3).set q5)⟩
    | [], e, _ => simp [PL.pars] at e
    | [_], e, _ => simp [PL.pars] at e
    | [_, _], e, _ => simp [PL.pars] at e
    | _ :: _ :: _ :: _ :: _, e, _ => simp [PL.pars] at e
  · exact h1.elim
end
end PLS

/-! PLS23: the check of statements, sound. -/
namespace PLS
open PySem PySem.Spec PyProof.Rows L2
def isTupE : Expr → Bool
  | .Tuple _ _ _ => true
  | _ => false
theorem sw_none {tg e : Expr} {env : Env} (h : isTupE e = false) : swappedStores [tg] e env = pure none := by
  cases e <;> first | (simp [isTupE] at h; done) | (cases tg <;> rfl)
theorem sw_name {n : Str} {p : Pos} {e : Expr} {env : Env} : swappedStores [.Name n p] e env = pure none := by
  cases e <;> rfl
theorem sw_pair {y z : Str} {px py pt pt2 : Pos} {kt k2 : Nat} {a b : Expr} {env : Env} (hk : env.blockKind = .function) (hy : env.scope.names.lookup y = some .local) (hz : env.scope.names.lookup z = some .local) (hl : px.line = py.line) (hne : y ≠ z)
    (ha : isStar a = false) (hb : isStar b = false) (hf : [a, b].all (foldedForSure 8) = false) (hc : [a, b].all (constantsAlone 8) = false) :
    swappedStores [.Tuple [.Name y px, .Name z py] kt pt] (.Tuple [a, b] k2 pt2) env = pure (some [y, z]) := by
  have h1 : ([a, b].any fun | .Starred .. => true | _ => false) = false := by
    cases a <;> first | (simp [isStar] at ha; done) | (cases b <;> first | rfl | (simp [isStar] at hb; done))
  have e1 : env.kindOf y = some .local := hy
  have e2 : env.kindOf z = some .local := hz
  have hd : [y, z].eraseDups.length = 2 := by
    have : (z == y) = false := beq_eq_false_iff_ne.mpr (Ne.symm hne)
    simp [List.eraseDups, List.eraseDupsBy, List.eraseDupsBy.loop, this]
  unfold swappedStores
  simp [hk, e1, e2, hl, hf, hc, h1, hd, Expr.pos]
  intro h
  exfalso
  rcases h with h | h
  · cases a <;> simp [isStar] at h ha
  · cases b <;> simp [isStar] at h hb
def swOff (Γ : Ctx) : Expr → Expr → Bool
  | .Tuple ts _ _, .Tuple _ _ _ => decide (3 < ts.length) || ts.any fun t => match t with
    | .Name n _ => !decide (Γ.sc.names.lookup n = some .local)
    | _ => true
  | _, _ => false
theorem fm_less {α β : Type} {f : α → Option β} : ∀ {l : List α}, (∃ x ∈ l, f x = none) → (l.filterMap f).length < l.length
  | [], h => by obtain ⟨x, hx, _⟩ := h; cases hx
  | y :: l, h => by
    have hle : (l.filterMap f).length ≤ l.length := List.length_filterMap_le f l
    obtain ⟨x, hx, e⟩ := h
    rw [List.filterMap_cons]
    rcases List.mem_cons.mp hx with rfl | hx
    · rw [e]; simp only [List.length_cons]; omega
    · have := fm_less ⟨x, hx, e⟩
      cases f y <;> simp only [List.length_cons] <;> omega
theorem sw_off {Γ : Ctx} {tg v : Expr} {env : Env} (hsc : env.scope = Γ.sc) (h : swOff Γ tg v = true) : swappedStores [tg] v env = pure none := by
  cases tg <;> cases v <;> try (simp [swOff] at h; done)
  rename_i ts k p vs k2 p2
  unfold swappedStores
  simp only [swOff, Bool.or_eq_true, decide_eq_true_eq, List.any_eq_true] at h
  simp only []
  split
  · rfl
  · rename_i c1
    split
    · rfl
    · rcases h with h | ⟨t, ht, h⟩
      · exfalso
        simp only [Bool.or_eq_true, Bool.not_eq_true', Bool.or_eq_false_iff, beq_eq_false_iff_ne, not_or] at c1
        have := c1.1.1
        simp only [ne_eq, not_and, Classical.not_not] at this
        omega
      · split
        · rfl
        · rename_i c3
          exfalso
          simp only [Bool.or_eq_true, not_or, bne_iff_ne, ne_eq, Classical.not_not] at c3
          refine Nat.lt_irrefl _ (Nat.lt_of_lt_of_eq (fm_less ⟨t, ht, ?_⟩) c3.1.symm)
          split at h
          · rename_i n pp
            simp only [Bool.not_eq_true', decide_eq_false_iff_not] at h
            have e : (env.kindOf n == some .local) = false := by
              rw [beq_eq_false_iff_ne]; unfold Env.kindOf; rw [hsc]; exact h
            simp [e]
          · cases t <;> first | rfl | (rename_i hh; exact absurd rfl (hh _ _))
theorem sw_triple {y z w : Str} {px py pz pt pt2 : Pos} {kt k2 : Nat} {a b c : Expr} {env : Env} (hk : env.blockKind = .function) (hy : env.scope.names.lookup y = some .local) (hz : env.scope.names.lookup z = some .local) (hw : env.scope.names.lookup w = some .local) (hl : px.line = py.line) (hl2 : px.line = pz.line) (hne : y ≠ z) (hne2 : y ≠ w) (hne3 : z ≠ w)
    (ha : isStar a = false) (hb : isStar b = false) (hcc : isStar c = false) (hf : [a, b, c].all (foldedForSure 8) = false) (hc : [a, b, c].all (constantsAlone 8) = false) :
    swappedStores [.Tuple [.Name y px, .Name z py, .Name w pz] kt pt] (.Tuple [a, b, c] k2 pt2) env = pure (some [y, z, w]) := by
  have st : ∀ {a : Expr}, isStar a = false → (match a with | .Starred .. => true | _ => false) = false := fun {a} h => by cases a <;> first | rfl | (simp [isStar] at h; done)
  have h1 : ([a, b, c].any fun | .Starred .. => true | _ => false) = false := by
    simp only [List.any_cons, List.any_nil, Bool.or_false, Bool.or_eq_false_iff]
    exact ⟨st ha, st hb, st hcc⟩
  have e1 : env.kindOf y = some .local := hy
  have e2 : env.kindOf z = some .local := hz
  have e3 : env.kindOf w = some .local := hw
  have hd : [y, z, w].eraseDups.length = 3 := by
    have : (z == y) = false := beq_eq_false_iff_ne.mpr (Ne.symm hne)
    have t2 : (w == y) = false := beq_eq_false_iff_ne.mpr (Ne.symm hne2)
    have t3 : (w == z) = false := beq_eq_false_iff_ne.mpr (Ne.symm hne3)
    simp [List.eraseDups, List.eraseDupsBy, List.eraseDupsBy.loop, this, t2, t3]
  unfold swappedStores
  simp [hk, e1, e2, e3, ← hl, ← hl2, hf, hc, h1, hd, Expr.pos]
  intro h
  exfalso
  rcases h with h | h | h
  · cases a <;> simp [isStar] at h ha
  · cases b <;> simp [isStar] at h hb
  · cases c <;> simp [isStar] at h hcc
structure CtxS (Γ : Ctx) (X : Cx) : Prop where
  c : CtxOk Γ X
  kind : X.env.scope.kind = .function
  hp : PassesOwn (model X.prog X.w) X.A X.env X.xe
theorem CtxS.bk {Γ : Ctx} {X : Cx} (h : CtxS Γ X) : X.env.blockKind = .function := by
  unfold Env.blockKind
  rw [h.kind]; rfl
/-- whether the name's value and the list change places -/
def swLc (Γ : Ctx) (t : Str) (pos vpos : Pos) (scope : Scope) : Bool :=
  decide (Γ.sc.names.lookup t = some .local) && pos.line == vpos.line && !(scope.names.any fun (n, k) => n == t && (k == .local || k == .cell))
theorem swLc_eq {Γ : Ctx} {X : Cx} (h : CtxS Γ X) {elt : Expr} {gs : List Comprehension} {scope : Scope} {vpos pos : Pos} {t : Str} {l : Nat} : swapsWith (.ListComp elt gs scope vpos) (some (.Name t pos)) l X.env = pure (swLc Γ t pos vpos scope) := by
  show pure (X.env.blockKind == .function && X.env.kindOf t == some .local && pos.line == (Expr.ListComp elt gs scope vpos).pos.line && !(scope.names.any fun (n, k) => n == t && (k == .local || k == .cell))) = _
  have e : (X.env.kindOf t == some .local) = decide (Γ.sc.names.lookup t = some .local) := by
    rw [← h.c.sc]
    exact Bool.beq_eq_decide_eq _ _
  rw [h.bk, e]
  rfl
section
variable (P : String → Option (List String)) (G : G_)
mutual
def chkS : Ctx → PL.S → Stmt → Bool
  | Γ, .set t e, x => match x with
    | .Assign [tg] v _ => (match v with
      | .ListComp elt gs scope vpos => (match tg with
        | .Name n p => chkT Γ t tg && chkE P G Γ e v && (!swLc Γ n p vpos scope || (match t, e with
          | .nm _, .comp _ _ _ _ => true
          | _, _ => false))
        | _ => false)
      | v => !isComp v && (!isTupE v || swOff Γ tg v) && chkT Γ t tg && chkE P G Γ e v)
    | _ => false
  | Γ, .par is es, x => match x with
    | .Assign [.Tuple [.Name y px, .Name z py] _ _] (.Tuple [a, b] _ _) _ => (match is with
      | [i, j] => decide (Γ.N[i]? = some y) && decide (Γ.N[j]? = some z) && decide (i ≠ j) && decide (y ≠ z) && decide (Γ.sc.names.lookup y = some .local) && decide (Γ.sc.names.lookup z = some .local) && decide (px.line = py.line) &&
        !isStar a && !isStar b && !([a, b].all (foldedForSure 8)) && !([a, b].all (constantsAlone 8)) && chkEs P G Γ es [a, b]
      | _ => false)
    | .Assign [.Tuple [.Name y px, .Name z py, .Name w pz] _ _] (.Tuple [a, b, c] _ _) _ => (match is with
      | [i, j, l] => decide (Γ.N[i]? = some y) && decide (Γ.N[j]? = some z) && decide (Γ.N[l]? = some w) && decide (i ≠ j) && decide (i ≠ l) && decide (j ≠ l) && decide (y ≠ z) && decide (y ≠ w) && decide (z ≠ w) &&
        decide (Γ.sc.names.lookup y = some .local) && decide (Γ.sc.names.lookup z = some .local) && decide (Γ.sc.names.lookup w = some .local) && decide (px.line = py.line) && decide (px.line = pz.line) &&
        !isStar a && !isStar b && !isStar c && !([a, b, c].all (foldedForSure 8)) && !([a, b, c].all (constantsAlone 8)) && chkEs P G Γ es [a, b, c]
      | _ => false)
    | _ => false
  | Γ, .put o i e, x => match x with
    | .Assign [.Subscript l r _] v _ => !isComp v && chkE P G Γ o l && chkE P G Γ i r && chkE P G Γ e v
    | _ => false
  | Γ, .ex e, x => match x with
    | .Expr v _ => !isComp v && chkE P G Γ e v
    | _ => false
  | Γ, .ret e, x => match x with
    | .Return (some v) _ => chkE P G Γ e v
    | _ => false
  | _, .retN, x => match x with
    | .Return none _ => true
    | _ => false
  | Γ, .iff c a b, x => match x with
    | .If t l r _ => chkE P G Γ c t && chkSs Γ a l && chkSs Γ b r
    | _ => false
  | Γ, .for t it b, x => match x with
    | .For tg iter l [] _ => !isSet iter && (!isTr it || isTp t) && chkT Γ t tg && chkI P G Γ it iter && chkSs Γ b l
    | _ => false
  | Γ, .whl c b, x => match x with
    | .While t l [] _ => chkE P G Γ c t && chkSs Γ b l
    | _ => false
  | _, .brk, x => match x with
    | .Break _ => true
    | _ => false
  | _, .pass, x => match x with
    | .Pass _ => true
    | _ => false
  | _, .rai _ _, _ => false
  | _, .tri _ _ _ _, _ => false
def chkSs : Ctx → PL.Ss → List Stmt → Bool
  | _, .nil, xs => xs.isEmpty
  | Γ, .cons s r, xs => match xs with
    | x :: ys => chkS Γ s x && chkSs Γ r ys
    | [] => false
end
end
section
variable {P : String → Option (List String)} {C : PL.Orc} {RX : RXT} {G : G_} {mk : Mk}
theorem tr_tp {it : PL.It} {t : PL.Tg} (h : isTr it = false ∨ isTp t = true) : isTr it = true → ∃ ts, t = .tp ts := fun z => by
  rcases h with q | q
  · rw [z] at q; cases q
  · cases t with
    | nm i => simp [isTp] at q
    | tp ts => exact ⟨ts, rfl⟩
theorem tg_tup {Γ : Ctx} {t : PL.Tg} {tg : Expr} (h : chkT Γ t tg = true) (e : ∃ ts, t = .tp ts) : ∃ elts kk tpos, tg = .Tuple elts kk tpos := by
  obtain ⟨ts, rfl⟩ := e
  cases tg with
  | Tuple elts kk tpos => exact ⟨elts, kk, tpos, rfl⟩
  | _ => simp [chkT] at h
set_option maxHeartbeats 4000000 in
mutual
theorem cS_ok : ∀ (s : PL.S) {Γ : Ctx} {X : Cx} {W : WX} {x : Stmt}, CtxS Γ X → Okx P C RX G X W → chkS P G Γ s x = true → PS X x (tSt RX X.K W mk (PL.xs P C mk s))
  | .set t e, Γ, X, W, x, hΓ, ho, h => by
    simp only [chkS] at h
    split at h
    · rename_i tg v pos
      split at h
      · rename_i elt gs scope vpos
        split at h
        · rename_i n p
          simp only [Bool.and_eq_true, Bool.or_eq_true, Bool.not_eq_true'] at h
          obtain ⟨⟨h1, h2⟩, h3⟩ := h
          cases hsw : swLc Γ n p vpos scope with
          | false => exact rS_asg ho.calm hΓ.c (cE_ok e hΓ.c ho h2).v h1 (by rw [swLc_eq hΓ, hsw]) sw_name
          | true =>
            rcases h3 with h3 | h3
            · rw [hsw] at h3; cases h3
            · split at h3
              · rename_i i t2 it c e2
                have h2' := h2
                simp only [chkE] at h2'
                split at h2'
                · rename_i elt' tg' iter ifs asy scope' pos' heq
                  cases heq
                  simp only [Bool.and_eq_true, decide_eq_true_eq, Bool.not_eq_true', Bool.or_eq_true] at h2'
                  obtain ⟨⟨⟨⟨⟨⟨⟨⟨g1, g2⟩, g3⟩, g4⟩, g5⟩, g6⟩, g7⟩, g8⟩, g9⟩ := h2'
                  subst g1
                  simp only [slotsB, Bool.and_eq_true, List.all_eq_true, decide_eq_true_eq] at g3
                  simp only [chkT, Bool.and_eq_true, decide_eq_true_eq] at h1
                  have hl := hsw
                  simp only [swLc, Bool.and_eq_true, decide_eq_true_eq] at hl
                  exact rS_setLc (own := ownOf Γ.N scope.names) (tr := isTr it) ho.calm hΓ.c.nd (by rw [hΓ.c.N]; exact h1.1) (by rw [hΓ.c.sc]; exact hl.1.1) (by rw [swLc_eq hΓ, hsw]) (cI_ok it hΓ.c ho g7 fun z => tg_tup g6 (tr_tp g5 z)) (by rw [hΓ.c.N, hΓ.c.sc]; exact blkB_ok g2)
                    (fun s H C cl fp => rG (X := X.blk s H scope (compEnvC scope cl C X.env) fp) ho.calm hΓ.c.blk t2 g6) (fun s H C cl fp => cEc_ok c hΓ.c.blk ho.blk g8) (fun s H C cl fp => (cE_ok e2 hΓ.c.blk ho.blk g9).v) g4 (fun j hj => g3.1 j hj) (fun j hj => g3.2 j hj) (tr_tp g5)
                · cases h2'
              · cases h3
        · cases h
      · simp only [Bool.and_eq_true, Bool.not_eq_true'] at h
        obtain ⟨⟨⟨h1, h2⟩, h3⟩, h4⟩ := h
        refine rS_asg ho.calm hΓ.c (cE_ok e hΓ.c ho h4).v h3 (swaps_of h1 _ _ _) ?_
        rw [Bool.or_eq_true, Bool.not_eq_true'] at h2
        rcases h2 with h2 | h2
        · exact sw_none h2
        · exact sw_off hΓ.c.sc h2
    · cases h
  | .par is es, Γ, X, W, x, hΓ, ho, h => by
    simp only [chkS] at h
    split at h
    · split at h
      · simp only [Bool.and_eq_true, decide_eq_true_eq, Bool.not_eq_true'] at h
        obtain ⟨⟨⟨⟨⟨⟨⟨⟨⟨⟨⟨h1, h2⟩, h3⟩, h4⟩, h5⟩, h6⟩, h7⟩, h8⟩, h9⟩, h10⟩, h11⟩, h12⟩ := h
        exact rS_par2 ho.calm hΓ.c.nd (by rw [hΓ.c.N]; exact h1) (by rw [hΓ.c.N]; exact h2) h3 (by rw [hΓ.c.sc]; exact h5) (by rw [hΓ.c.sc]; exact h6) (cEs_ok es hΓ.c ho h12) (sw_pair hΓ.bk (by rw [hΓ.c.sc]; exact h5) (by rw [hΓ.c.sc]; exact h6) h7 h4 h8 h9 h10 h11)
      · cases h
    · split at h
      · simp only [Bool.and_eq_true, decide_eq_true_eq, Bool.not_eq_true'] at h
        obtain ⟨⟨⟨⟨⟨⟨⟨⟨⟨⟨⟨⟨⟨⟨⟨⟨⟨⟨⟨h1, h2⟩, h3⟩, h4⟩, h5⟩, h6⟩, h7⟩, h8⟩, h9⟩, g1⟩, g2⟩, g3⟩, l1⟩, l2⟩, s1⟩, s2⟩, s3⟩, f1⟩, f2⟩, hes⟩ := h
        exact rS_par3 ho.calm hΓ.c.nd (by rw [hΓ.c.N]; exact h1) (by rw [hΓ.c.N]; exact h2) (by rw [hΓ.c.N]; exact h3) h4 h5 h6 (by rw [hΓ.c.sc]; exact g1) (by rw [hΓ.c.sc]; exact g2) (by rw [hΓ.c.sc]; exact g3) (cEs_ok es hΓ.c ho hes)
          (sw_triple hΓ.bk (by rw [hΓ.c.sc]; exact g1) (by rw [hΓ.c.sc]; exact g2) (by rw [hΓ.c.sc]; exact g3) l1 l2 h7 h8 h9 s1 s2 s3 f1 f2)
      · cases h
    · cases h
  | .put o i e, Γ, X, W, x, hΓ, ho, h => by
    simp only [chkS] at h
    split at h
    · simp only [Bool.and_eq_true, Bool.not_eq_true'] at h
      obtain ⟨⟨⟨h1, h2⟩, h3⟩, h4⟩ := h
      exact rS_put ho.hu (cE_ok o hΓ.c ho h2).v (cE_ok i hΓ.c ho h3).v (cE_ok e hΓ.c ho h4).v h1
    · cases h
  | .ex e, Γ, X, W, x, hΓ, ho, h => by
    simp only [chkS] at h
    split at h
    · simp only [Bool.and_eq_true, Bool.not_eq_true'] at h
      exact rS_ex (cE_ok e hΓ.c ho h.2).v h.1
    · cases h
  | .ret e, Γ, X, W, x, hΓ, ho, h => by
    simp only [chkS] at h
    split at h
    · exact rS_ret (cE_ok e hΓ.c ho h).v
    · cases h
  | .retN, Γ, X, W, x, hΓ, ho, h => by
    simp only [chkS] at h
    split at h
    · exact rS_retN
    · cases h
  | .iff c a b, Γ, X, W, x, hΓ, ho, h => by
    simp only [chkS] at h
    split at h
    · simp only [Bool.and_eq_true] at h
      exact rS_if (cE_ok c hΓ.c ho h.1.1).t (cSs_ok a hΓ ho h.1.2) (cSs_ok b hΓ ho h.2)
    · cases h
  | .for t it b, Γ, X, W, x, hΓ, ho, h => by
    simp only [chkS] at h
    split at h
    · simp only [Bool.and_eq_true, Bool.or_eq_true, Bool.not_eq_true'] at h
      obtain ⟨⟨⟨⟨h1, h2⟩, h3⟩, h4⟩, h5⟩ := h
      exact rS_for (tr := isTr it) hΓ.hp ho.calm hΓ.c (cI_ok it hΓ.c ho h4 fun z => tg_tup h3 (tr_tp h2 z)) h3 (tr_tp h2) (cSs_ok b hΓ ho h5) h1
    · cases h
  | .whl c b, Γ, X, W, x, hΓ, ho, h => by
    simp only [chkS] at h
    split at h
    · simp only [Bool.and_eq_true] at h
      exact rS_whl hΓ.hp (cE_ok c hΓ.c ho h.1).t (cSs_ok b hΓ ho h.2)
    · cases h
  | .brk, Γ, X, W, x, hΓ, ho, h => by
    simp only [chkS] at h
    split at h
    · exact rS_brk
    · cases h
  | .pass, Γ, X, W, x, hΓ, ho, h => by
    simp only [chkS] at h
    split at h
    · exact rS_pass
    · cases h
  | .rai _ _, Γ, X, W, x, hΓ, ho, h => by simp [chkS] at h
  | .tri _ _ _ _, Γ, X, W, x, hΓ, ho, h => by simp [chkS] at h
theorem cSs_ok : ∀ (s : PL.Ss) {Γ : Ctx} {X : Cx} {W : WX} {x : List Stmt}, CtxS Γ X → Okx P C RX G X W → chkSs P G Γ s x = true → PSs X x (tSt RX X.K W mk (PL.xss P C mk s))
  | .nil, Γ, X, W, x, hΓ, ho, h => by
    simp only [chkSs] at h
    cases x with
    | nil => exact rS_nil
    | cons _ _ => simp at h
  | .cons s r, Γ, X, W, x, hΓ, ho, h => by
    simp only [chkSs] at h
    split at h
    · simp only [Bool.and_eq_true] at h
      exact rS_cons (cS_ok s hΓ ho h.1) (cSs_ok r hΓ ho h.2)
    · cases h
end
end
end PLS

/-! PLS24: what leaves a function. -/
namespace PLS
open PySem PySem.Spec PyProof.Rows L2
section
variable {K : PySem.W.Frag} {ρ more : List Addr} {H : Hp}
mutual
theorem RepV.shrink : ∀ {v : PV} {u : V}, below ρ.length v = true → RepV K (ρ ++ more) H v u → RepV K ρ H v u
  | .non, u, _, h => by simpa only [RepV] using h
  | .bl _, u, _, h => by simpa only [RepV] using h
  | .int _, u, _, h => by simpa only [RepV] using h
  | .str _, u, _, h => by simpa only [RepV] using h
  | .rep _, u, _, h => by simpa only [RepV] using h
  | .ref i, u, hb, h => by
    simp only [RepV] at h ⊢
    simp only [below, decide_eq_true_eq] at hb
    obtain ⟨a, h1, h2⟩ := h
    exact ⟨a, by rw [List.getElem?_append_left hb] at h1; exact h1, h2⟩
  | .tup xs, u, hb, h => by
    simp only [RepV] at h ⊢
    simp only [below] at hb
    obtain ⟨a, o, us, e, h1, h2, n, r⟩ := h
    exact ⟨a, o, us, e, h1, h2, fun z => n (List.mem_append_left _ z), RepVs.shrink hb r⟩
  | .ct xs, u, hb, h => by
    simp only [RepV] at h ⊢
    simp only [below] at hb
    obtain ⟨a, us, e, h1, r⟩ := h
    exact ⟨a, us, e, h1, RepVs.shrink hb r⟩
  | .fl xs, u, hb, h => by
    simp only [RepV] at h ⊢
    simp only [below] at hb
    obtain ⟨a, us, e, h1, n, r⟩ := h
    exact ⟨a, us, e, h1, fun z => n (List.mem_append_left _ z), RepVs.shrink hb r⟩
  | .cl xs, u, hb, h => by
    simp only [RepV] at h ⊢
    simp only [below] at hb
    obtain ⟨a, us, e, h1, r⟩ := h
    exact ⟨a, us, e, h1.imp (fun q => let ⟨o, q1, q2⟩ := q; ⟨o, q1, fun z => q2 (List.mem_append_left _ z)⟩) id, RepVs.shrink hb r⟩
  | .fd ks vs, u, hb, h => by
    simp only [RepV] at h ⊢
    simp only [below, Bool.and_eq_true] at hb
    rcases h with ⟨a, kvs, e, h1, n, h2, r⟩ | ⟨a, kvs, e, h1, n, h2, r1, r, r2⟩
    · exact .inl ⟨a, kvs, e, h1, fun z => n (List.mem_append_left _ z), h2, RepVs.shrink hb.2 r⟩
    · exact .inr ⟨a, kvs, e, h1, fun z => n (List.mem_append_left _ z), h2, RepVs.shrink hb.1 r1, RepVs.shrink hb.2 r, r2⟩
theorem RepVs.shrink : ∀ {xs : List PV} {us : List V}, belows ρ.length xs = true → RepVs K (ρ ++ more) H xs us → RepVs K ρ H xs us
  | [], us, _, h => by simpa only [RepVs] using h
  | _ :: _, us, hb, h => by
    simp only [RepVs] at h ⊢
    simp only [belows, Bool.and_eq_true] at hb
    obtain ⟨u, r, e, h1, h2⟩ := h
    exact ⟨u, r, e, RepV.shrink hb.1 h1, RepVs.shrink hb.2 h2⟩
end
theorem RepO.shrink {a : Addr} {mo : PL.MO} {o : Option HO} (hb : belowO ρ.length mo = true) (h : RepO K (ρ ++ more) H a mo o) : RepO K ρ H a mo o := by
  cases mo with
  | lst xs =>
    obtain ⟨us, e, r⟩ := h
    simp only [belowO] at hb
    exact ⟨us, e, r.shrink hb⟩
  | dct lk ks vs =>
    simp only [belowO, Bool.and_eq_true] at hb
    cases lk with
    | false =>
      obtain ⟨kvs, e, e2, r⟩ := h
      exact ⟨kvs, e, e2, r.shrink hb.2⟩
    | true =>
      obtain ⟨kvs, e, e2, r1, r⟩ := h
      exact ⟨kvs, e, e2, r1.shrink hb.1, r.shrink hb.2⟩
/-- the live heap as the caller knows it -/
theorem RepM.cut {M : PL.Mem} (h : RepM K (ρ ++ more) H M) (hb : Below ρ.length M) : RepM K ρ H (M.take ρ.length) := by
  have hl := h.len
  rw [List.length_append] at hl
  refine ⟨by rw [List.length_take]; omega, (List.nodup_append.mp h.nd).1, fun i mo e => ?_⟩
  rw [List.getElem?_take] at e
  split at e
  · rename_i hi
    obtain ⟨a, h1, h2⟩ := h.at_ i mo e
    rw [List.getElem?_append_left hi] at h1
    exact ⟨a, h1, h2.shrink (hb i mo hi e)⟩
  · cases e
theorem frz_key {f : Nat → Option PV} {n : Nat} : ∀ {ks ks' : List PV} {l : List (Option L2.Key)}, PL.frzWs f n ks = some ks' → ks.map keyK = l → (∀ o ∈ l, o.isSome = true) → ks'.map keyK = l
  | [], ks', l, h, e, _ => by
    simp only [PL.frzWs, Option.some.injEq] at h
    subst h; exact e
  | k :: ks, ks', l, h, e, hs => by
    subst e
    simp only [PL.frzWs, Option.bind_eq_some_iff, Option.map_eq_some_iff] at h
    obtain ⟨a, h1, t, h2, rfl⟩ := h
    have e1 := frz_key h2 rfl fun o ho => hs o (by rw [List.map_cons]; exact List.mem_cons_of_mem _ ho)
    have hk := hs (keyK k) (by simp)
    rw [List.map_cons, List.map_cons, e1]
    congr 1
    cases k <;> simp [keyK] at hk <;> simp [PL.frzW] at h1 <;> subst h1 <;> rfl
theorem frz_ints {f : Nat → Option PV} {n : Nat} : ∀ (is : List Int), PL.frzWs f n (is.map PL.V.int) = some (is.map PL.V.int)
  | [] => rfl
  | i :: is => by simp [PL.frzWs, PL.frzW, frz_ints is]
theorem frz_keyT {f : Nat → Option PV} {n : Nat} : ∀ {kvs : TL} {ks' : List PV}, PL.frzWs f n (kvs.map keyTV) = some ks' → ks' = kvs.map keyTV
  | [], ks', h => by
    simp only [List.map_nil, PL.frzWs, Option.some.injEq] at h
    subst h; rfl
  | p :: kvs, ks', h => by
    simp only [List.map_cons, PL.frzWs, Option.bind_eq_some_iff, Option.map_eq_some_iff] at h
    obtain ⟨a, h1, t, h2, rfl⟩ := h
    simp only [keyTV, PL.frzW, frz_ints, Option.map_some, Option.some.injEq] at h1
    subst h1
    rw [frz_keyT h2]; rfl
section
variable {f : Nat → Option PV}
mutual
theorem frzW_rep (hf : ∀ i v' u, ρ.length ≤ i → f i = some v' → RepV K (ρ ++ more) H (.ref i) u → RepV K ρ H v' u) : ∀ {v v' : PV} {u : V}, PL.frzW f ρ.length v = some v' → RepV K (ρ ++ more) H v u → RepV K ρ H v' u
  | .non, v', u, e, h => by simp only [PL.frzW, Option.some.injEq] at e; subst e; simpa only [RepV] using h
  | .bl _, v', u, e, h => by simp only [PL.frzW, Option.some.injEq] at e; subst e; simpa only [RepV] using h
  | .int _, v', u, e, h => by simp only [PL.frzW, Option.some.injEq] at e; subst e; simpa only [RepV] using h
  | .str _, v', u, e, h => by simp only [PL.frzW, Option.some.injEq] at e; subst e; simpa only [RepV] using h
  | .rep _, v', u, e, h => by simp only [PL.frzW, Option.some.injEq] at e; subst e; simpa only [RepV] using h
  | .ref i, v', u, e, h => by
    simp only [PL.frzW] at e
    split at e
    · rename_i hi
      obtain rfl := Option.some.inj e
      exact RepV.shrink (by simp only [below]; exact decide_eq_true hi) h
    · rename_i hi
      exact hf i v' u (Nat.le_of_not_lt hi) e h
  | .tup xs, v', u, e, h => by
    simp only [PL.frzW, Option.map_eq_some_iff] at e
    obtain ⟨ys, e, rfl⟩ := e
    simp only [RepV] at h ⊢
    obtain ⟨a, o, us, eu, h1, h2, n, r⟩ := h
    exact ⟨a, o, us, eu, h1, h2, fun z => n (List.mem_append_left _ z), frzWs_rep hf e r⟩
  | .fl xs, v', u, e, h => by
    simp only [PL.frzW, Option.map_eq_some_iff] at e
    obtain ⟨ys, e, rfl⟩ := e
    simp only [RepV] at h ⊢
    obtain ⟨a, us, eu, h1, n, r⟩ := h
    exact ⟨a, us, eu, h1, fun z => n (List.mem_append_left _ z), frzWs_rep hf e r⟩
  | .ct xs, v', u, e, h => by
    simp only [PL.frzW] at e
    split at e
    · rename_i hn
      obtain rfl := Option.some.inj e
      exact RepV.shrink (by simp only [below]; exact belows_of_norefs _ hn) h
    · cases e
  | .cl xs, v', u, e, h => by
    simp only [PL.frzW] at e
    split at e
    · rename_i hn
      obtain rfl := Option.some.inj e
      exact RepV.shrink (by simp only [below]; exact belows_of_norefs _ hn) h
    · cases e
  | .fd ks vs, v', u, e, h => by
    simp only [PL.frzW, Option.bind_eq_some_iff, Option.map_eq_some_iff] at e
    obtain ⟨ks', e1, vs', e2, rfl⟩ := e
    simp only [RepV] at h ⊢
    rcases h with ⟨a, kvs, eu, h1, n, h2, r⟩ | ⟨a, kvs, eu, h1, n, h2, r1, r, r2⟩
    · exact .inl ⟨a, kvs, eu, h1, fun z => n (List.mem_append_left _ z), frz_key e1 h2 (by intro o ho; obtain ⟨kv, _, rfl⟩ := List.mem_map.mp ho; rfl), frzWs_rep hf e2 r⟩
    · have hr := frzWs_rep hf e1 r1
      exact .inr ⟨a, kvs, eu, h1, fun z => n (List.mem_append_left _ z), frz_keyT (by rw [← h2]; exact e1), hr, frzWs_rep hf e2 r, r2⟩
theorem frzWs_rep (hf : ∀ i v' u, ρ.length ≤ i → f i = some v' → RepV K (ρ ++ more) H (.ref i) u → RepV K ρ H v' u) : ∀ {xs xs' : List PV} {us : List V}, PL.frzWs f ρ.length xs = some xs' → RepVs K (ρ ++ more) H xs us → RepVs K ρ H xs' us
  | [], xs', us, e, h => by
    simp only [PL.frzWs, Option.some.injEq] at e
    subst e
    rw [h.inv0]; exact .nil
  | x :: xs, xs', us, e, h => by
    simp only [PL.frzWs, Option.bind_eq_some_iff, Option.map_eq_some_iff] at e
    obtain ⟨a, e1, t, e2, rfl⟩ := e
    obtain ⟨u, r, rfl, h1, h2⟩ := h.inv
    exact .cons (frzW_rep hf e1 h1) (frzWs_rep hf e2 h2)
end
end
theorem frz_rep {M : PL.Mem} (h : RepM K (ρ ++ more) H M) : ∀ (n : Nat) {v v' : PV} {u : V}, PL.frz M ρ.length n v = some v' → RepV K (ρ ++ more) H v u → RepV K ρ H v' u
  | 0, v, v', u, e, r => frzW_rep (fun i v' u _ z => by cases z) e r
  | n + 1, v, v', u, e, r => by
    refine frzW_rep (fun i v' u hi z q => ?_) e r
    have nin : ∀ {a : Addr}, (ρ ++ more)[i]? = some a → a ∉ ρ := fun {a} ha hm => by
      rw [List.getElem?_append_right hi] at ha
      exact (List.nodup_append.mp h.nd).2.2 a hm a (List.mem_of_getElem? ha) rfl
    obtain ⟨a, h1, rfl⟩ := ref_at q
    split at z
    · rename_i xs hm
      simp only [Option.map_eq_some_iff] at z
      obtain ⟨ys, z, rfl⟩ := z
      obtain ⟨b, us, h2, h3, h4⟩ := h.lst hm
      rw [h1] at h2
      obtain rfl := Option.some.inj h2
      simp only [RepV]
      exact ⟨a, us, rfl, h3, nin h1, frzWs_rep (fun j w x _ e2 q2 => frz_rep h n e2 q2) z h4⟩
    · rename_i lk ks vs hm
      split at z
      · cases z
      rename_i hemp
      simp only [Option.bind_eq_some_iff, Option.map_eq_some_iff] at z
      obtain ⟨ks', e1, vs', e2, rfl⟩ := z
      simp only [RepV]
      cases lk with
      | true =>
        obtain ⟨b, kvs, h2, h3, h4, h5, h6⟩ := h.dctT hm
        rw [h1] at h2
        obtain rfl := Option.some.inj h2
        exact .inr ⟨a, kvs, rfl, .inl h3, nin h1, frz_keyT (by rw [← h4]; exact e1), frzWs_rep (fun j w x _ e3 q2 => frz_rep h n e3 q2) e1 h5, frzWs_rep (fun j w x _ e3 q2 => frz_rep h n e3 q2) e2 h6, fun z => hemp (by subst z; subst h4; rfl)⟩
      | false =>
      obtain ⟨b, kvs, h2, h3, h4, h5⟩ := h.dct hm
      rw [h1] at h2
      obtain rfl := Option.some.inj h2
      exact .inl ⟨a, kvs, rfl, .inl h3, nin h1, frz_key e1 h4 (by intro o ho; obtain ⟨kv, _, rfl⟩ := List.mem_map.mp ho; rfl), frzWs_rep (fun j w x _ e3 q2 => frz_rep h n e3 q2) e2 h5⟩
    · cases z
end
/-- a callee's marks -/
def Mk.sub (mk : Mk) (n : Nat) (h : mk.m ≤ n) : Mk := ⟨n, mk.m :: mk.ms, fun x hx => by
  rcases List.mem_cons.mp hx with rfl | hx
  · exact h
  · exact Nat.le_trans (mk.le x hx) h⟩
section
variable {K : PySem.W.Frag} {ρ ρ' : List Addr} {H H' : Hp} {M M' : PL.Mem} {mk : Mk}
theorem Ok.enter (k : Ok K mk ρ H M) : Ok K (mk.sub M.length k.mkl) ρ H M := by
  refine ⟨k.rep, fun m hm => ?_, Nat.le_refl _⟩
  rcases hm with rfl | hm
  · intro i mo hi e
    obtain ⟨a, h1, h2⟩ := k.rep.at_ i mo e
    have hl : M.length = ρ.length := k.rep.len.symm
    show belowO M.length mo = true
    rw [hl]
    cases mo with
    | lst xs =>
      obtain ⟨us, _, r⟩ := h2
      simp only [belowO]
      exact r.below
    | dct lk ks vs =>
      cases lk with
      | false =>
        obtain ⟨kvs, _, hk, r⟩ := h2
        simp only [belowO, Bool.and_eq_true]
        exact ⟨keys_below _ (by rw [hk]; intro o ho; obtain ⟨kv, _, rfl⟩ := List.mem_map.mp ho; rfl), r.below⟩
      | true =>
        obtain ⟨kvs, _, _, r1, r⟩ := h2
        simp only [belowO, Bool.and_eq_true]
        exact ⟨r1.below, r.below⟩
  · rcases List.mem_cons.mp hm with rfl | hm
    · exact k.bel _ (.inl rfl)
    · exact k.bel _ (.inr hm)
theorem Ok.leave (k : Ok K mk ρ H M) (x : Ext ρ H ρ' H') (k' : Ok K (mk.sub M.length k.mkl) ρ' H' M') : Ext ρ H ρ H' ∧ Ok K mk ρ H' (M'.take M.length) ∧ ∀ n {v v' : PV} {u : V}, PL.frz M' M.length n v = some v' → RepV K ρ' H' v u → RepV K ρ H' v' u := by
  obtain ⟨more, rfl⟩ := x.pre
  have hl : M.length = ρ.length := k.rep.len.symm
  refine ⟨⟨⟨[], by simp⟩, fun a o h n => let ⟨h1, h2⟩ := x.keep a o h n; ⟨h1, fun z => h2 (List.mem_append_left _ z)⟩⟩, ⟨?_, fun m hm => ?_, ?_⟩, fun n v v' u e r => ?_⟩
  · rw [hl]
    exact k'.rep.cut (by rw [← hl]; exact k'.bel _ (.inl rfl))
  · have hb : Below m M' := k'.bel m (.inr (by
      rcases hm with rfl | hm
      · exact List.mem_cons_self ..
      · exact List.mem_cons_of_mem _ hm))
    intro i mo hi e
    rw [List.getElem?_take] at e
    split at e
    · exact hb i mo hi e
    · cases e
  · have := k'.mkl
    have e : (mk.sub M.length k.mkl).m = M.length := rfl
    rw [e] at this
    rw [List.length_take]
    have := k.mkl
    omega
  · rw [hl] at e
    exact frz_rep k'.rep n e r
end
end PLS

/-! PLS25: functions. -/
namespace PLS
open PySem PySem.Spec PyProof.Rows L2
abbrev RX0 : RXT := fun _ _ _ _ _ => False
section
variable {P : Program} {w : World} {K : PySem.W.Frag} {mg : Str → Option Value} {base : Heap}
/-- a def by its body, where the guards are known -/
theorem fnG_of {k : Nat} {f : Addr} {nm ql : Str} {prs : Arguments} {bd : List Stmt} {scp : Scope} {dV kV dc pm cdv ct oc : Value} {an od : Option Addr} {osl : Array (Option Value)} {N ps : List Str} {sp : Sp}
    (lk : K.lookup f = some ⟨oc, od, .func (PySem.W.fnOf nm ql prs bd scp dV kV dc pm an cdv ct), osl⟩) (hcd : PySem.W.codeIn K cdv ql = true) (S : FnScope N ps scp)
    (hb : ∀ (Ar : Around) (out : List Env) (s : Shared) (H : Hp) (vs : List V) (Q : VK) (E : XK), Room k (Ar.deeper (envOfC ql scp s.heap.objs.size f cdv)) → Ar.guards = some [] → vs.length = ps.length → sp vs H Q E →
      ∃ t, PSs (cxOf (L2.CX P w) P w K mg base N ql scp f cdv Ar out s H E) bd t ∧ t { nx := fun _ H' => Q .non H', rt := Q } (L2.start N vs) H) :
    FnG P w K mg base (k + 1) f (PySem.W.fnOf nm ql prs bd scp dV kV dc pm an cdv ct) ps sp := by
  constructor
  intro Ar out s H args us vs Q E room guards e0 bind len rel spec
  have vl : vs.length = ps.length := rel.length.trans len
  have inK : K.In s.heap := e0.mod.kin.keeps fun b o e => (e0.bs b o e).1
  have nolim : s.heap.NoLimit := e0.mod.nolimit.keeps fun b o e => (e0.bs b o e).1
  have kinds : ∀ y ∈ ps.zip us, scp.names.lookup y.1 = some .local ∨ (scp.names.lookup y.1 = some .cell ∧ ((cellsFrom (s.heap.objs.size + 1) scp.names []).lookup y.1).isSome = true) := by
    rintro ⟨n, v⟩ hy
    exact (S.par n (List.of_mem_zip hy).1).imp id fun q => ⟨q, PySem.W.cellsFrom_some _ _ _ (.inl q)⟩
  refine codeAny_call_function room.depth (inK _ _ lk) rfl S.co S.gen rfl (PySem.W.codeRec_of inK hcd) (bind _ _ _ _ (wpAny_newFunctionEnv_cells S.kind kinds ?_))
  intro env he s1 x
  subst he
  refine ⟨nolim.keeps x.toInCall.keep, codeAny_func ?_⟩
  obtain ⟨t, ht, hq⟩ := hb Ar out s H vs Q E (room.deeper _) guards vl spec
  have I0 := inv_start (CX := L2.CX P w) (E := E) (w := w) S room.hd e0 vl rel x
  refine wpAny_mono (ht.run [] s1 (L2.start N vs) H _ I0 hq) ?_ fun e s' hs => hs
  intro fl s' hs
  match fl, hs with
  | .ret u, ⟨v, σ', H', J, rv, q⟩ => exact ⟨v, H', J.os, J.bare, J.base, J.hok, rv, q⟩
  | .next, ⟨σ', H', J, q⟩ => exact ⟨.non, H', J.os, J.bare, J.base, J.hok, rfl, q⟩
  | .brk, ⟨_, _, _, q⟩ => exact q.elim
  | .cont, ⟨_, _, _, q⟩ => exact q.elim
theorem env_rep {ρ : List Addr} {H : Hp} {d : PL.Def} {xs : List PV} {vs : List V} {N : List Str} (r : RepVs K ρ H xs vs) (h1 : xs.length = d.ps.length) (h2 : N.length = d.ns) (h3 : d.ps.length ≤ d.ns) : RepE K ρ H (PL.envOf d xs) (L2.start N vs) := by
  have hl : vs.length = xs.length := r.length.symm
  unfold PL.envOf L2.start
  refine ⟨by rw [List.length_append, List.length_append, List.length_map, List.length_map, List.length_replicate, List.length_replicate]; omega, ?_⟩
  have lk_get : ∀ (σ : PL.Env) (i : Nat), PL.lk σ i = (σ[i]?).join := fun σ => by
    induction σ with
    | nil => intro i; simp [PL.lk]
    | cons x σ ih =>
      intro i
      cases i with
      | zero => simp
      | succ i => simpa using ih i
  intro i v e
  rw [lk_get] at e
  by_cases hi : i < xs.length
  · rw [List.getElem?_append_left (by simpa using hi), List.getElem?_map] at e
    cases hx : xs[i]? with
    | none => rw [hx] at e; cases e
    | some x =>
      rw [hx] at e
      obtain rfl : x = v := by simpa using e
      obtain ⟨u, hu, ru⟩ := r.get hx
      exact ⟨u, by rw [List.getElem?_append_left (by rw [List.length_map, hl]; exact hi), List.getElem?_map, hu]; rfl, ru⟩
  · rw [List.getElem?_append_right (by simpa using hi), List.getElem?_replicate] at e
    split at e <;> cases e
/-- a function's end, as its caller sees it -/
theorem left_post {mk : Mk} {ρ : List Addr} {H : Hp} {M : PL.Mem} {E : XK} {Q : VK} (k : Ok K mk ρ H M) {live : Bool} {m : PL.Rs} (h : Post K mk (RepV K) (fun x ρ' H' _ => ∀ cls d, RX0 ρ' H' x cls d → E cls d H') ρ H Q (PL.left live M m)) :
    PostS K (if live then mk else mk.sub M.length k.mkl) RX0 (fun cls d _ H => E cls d H) ρ H { nx := fun _ H' => Q .non H', rt := Q } m := by
  cases live with
  | true =>
    cases m with
    | nx s M1 => exact fun ρ' H' σ' x k' r => Post.okx h x k' rep_non
    | bk s M1 => exact h.elim
    | rt v M1 => exact fun ρ' H' u x k' r => Post.okx h x k' r
    | exc e s M1 => exact fun ρ' H' σ' x k' r cls d z => z.elim
    | no => exact h.elim
  | false =>
    cases m with
    | nx s M1 =>
      exact fun ρ' H' σ' x k' r => by
        obtain ⟨x2, k2, _⟩ := k.leave x k'
        exact Post.okx h x2 k2 rep_non
    | bk s M1 => exact h.elim
    | rt v M1 =>
      exact fun ρ' H' u x k' r => by
        obtain ⟨x2, k2, hf⟩ := k.leave x k'
        simp only [PL.left, Bool.false_eq_true, if_false] at h
        split at h
        · rename_i v' e
          exact Post.okx h x2 k2 (hf _ e r)
        · exact h.elim
    | exc e s M1 => exact fun ρ' H' σ' x k' r cls d z => z.elim
    | no => exact h.elim
/-- what must be seen of a def in the written part -/
structure FnFact (D : String → Option PL.Def) (G : G_) (K : PySem.W.Frag) (mg : Str → Option Value) (f : String) (d : PL.Def) (fa : Addr) (fd : FuncData) : Prop where
  at_ : mg (Str.ofString f) = some (.ref fa)
  keep : PySem.W.keepIn K (.ref fa) = true
  bind : BindF K fd d.ps
  obj : ∃ (nm ql : Str) (prs : Arguments) (bd : List Stmt) (scp : Scope) (dV kV dc pm cdv ct oc : Value) (an od : Option Addr) (osl : Array (Option Value)) (N : List Str),
    fd = PySem.W.fnOf nm ql prs bd scp dV kV dc pm an cdv ct ∧ K.lookup fa = some ⟨oc, od, .func fd, osl⟩ ∧ PySem.W.codeIn K cdv ql = true ∧ FnScope N (d.ps.map Str.ofString) scp ∧ N.length = d.ns ∧ d.ps.length ≤ d.ns ∧
    chkSs (PL.parsOf D) G ⟨N, scp, fun _ => true⟩ d.body bd = true
structure Facts (D : String → Option PL.Def) (G : G_) (K : PySem.W.Frag) (mg : Str → Option Value) : Prop where
  blt : ∀ n ∈ bltNames, mg (Str.ofString n) = none
  glb : ∀ q ∈ G, ∃ u w, mg (Str.ofString q.1) = some w ∧ RelV u w ∧ ∀ ρ H, RepV K ρ H q.2 u
  fns : ∀ f d, D f = some d → ∃ fa fd, FnFact D G K mg f d fa fd
theorem callN_len {D : String → Option PL.Def} {n mk : Nat} {f : String} {d : PL.Def} {xs : List PV} {M : PL.Mem} (hd : D f = some d) (h : xs.length ≠ d.ps.length) : PL.callN D n mk f xs M = .no := by
  cases n with
  | zero => rfl
  | succ n =>
    unfold PL.callN
    rw [hd]
    simp only [if_neg h]
theorem all_G {D : String → Option PL.Def} {G : G_} (F : Facts D G K mg) : ∀ (n : Nat) (f : String) (d : PL.Def) (fa : Addr) (fd : FuncData), D f = some d → FnFact D G K mg f d fa fd → FnG P w K mg base n fa fd (d.ps.map Str.ofString) (spF (PL.callN D n) RX0 K f)
  | 0, f, d, fa, fd, hd, ff => ⟨fun Ar out s H args us vs Q E _ _ _ _ _ _ ⟨mk, ρ, M, xs, k, r, h⟩ => h.elim⟩
  | n + 1, f, d, fa, fd, hd, ff => by
    obtain ⟨at_, keep, bind, nm, ql, prs, bd, scp, dV, kV, dc, pm, cdv, ct, oc, an, od, osl, N, rfl, lk, hcd, S, hN, hps, hchk⟩ := ff
    refine fnG_of lk hcd S fun Ar out s H vs Q E room guards vl ⟨mk, ρ, M, xs, k, r, h⟩ => ?_
    unfold PL.callN at h
    rw [hd] at h
    dsimp only at h
    split at h
    · rename_i hl
      have hp := left_post k h
      have okx : Okx (PL.parsOf D) (PL.callN D n) RX0 G (cxOf (L2.CX P w) P w K mg base N ql scp fa cdv Ar out s H E) (fun cls d _ H => E cls d H) :=
        { calm := rfl
          hu := by have := room.un; show (Ar.deeper _).units + 200 < cLine; omega
          hgu := guards
          tk := takes_of rfl rfl rfl rfl
          blt := F.blt
          glb := F.glb
          fns := fun g ps hg => by
            obtain ⟨d', hd', rfl⟩ := Option.map_eq_some_iff.mp hg
            obtain ⟨fa', fd', ff'⟩ := F.fns g d' hd'
            exact ⟨fun mk xs M hne => callN_len hd' hne, fa', fd', n, ff'.at_, ff'.keep, room, ff'.bind, all_G F n g d' fa' fd' hd' ff'⟩ }
      have ctx : CtxS ⟨N, scp, fun _ => true⟩ (cxOf (L2.CX P w) P w K mg base N ql scp fa cdv Ar out s H E) :=
        ⟨⟨S.nd, rfl, rfl, fun _ _ => rfl⟩, S.kind, passes_of rfl⟩
      cases hlive : d.live with
      | true =>
        rw [hlive] at hp
        refine ⟨_, cSs_ok (mk := mk) d.body ctx okx hchk, ρ, PL.envOf d xs, M, env_rep r hl hN hps, k, ?_⟩
        simp only [if_true] at hp
        exact hp
      | false =>
        rw [hlive] at hp
        refine ⟨_, cSs_ok (mk := mk.sub M.length k.mkl) d.body ctx okx hchk, ρ, PL.envOf d xs, M, env_rep r hl hN hps, k.enter, ?_⟩
        simp only [Bool.false_eq_true, if_false] at hp
        exact hp
    · exact h.elim
end
end PLS

/-! PLS26: how calls bind. -/
namespace PLS
open PySem PySem.Spec PyProof.Rows L2
theorem kw_loop {β : Type} (f : (Str × Value) → β → Sem (ForInStep β)) (g : β → (Str × Value) → β) (I : List (Str × Value) → β → Prop) : ∀ (kws : List (Str × Value)) (b : β), I kws b →
    (∀ p r b, I (p :: r) b → f p b = pure (.yield (g b p)) ∧ I r (g b p)) → forIn kws b f = (pure (kws.foldl g b) : Sem β)
  | [], b, _, _ => rfl
  | p :: r, b, h, hf => by
    obtain ⟨h1, h2⟩ := hf p r b h
    rw [List.forIn_cons, h1]
    show forIn r (g b p) f = _
    rw [kw_loop f g I r (g b p) h2 hf]
    rfl
theorem foldl_pair (kws : List (Str × Value)) : ∀ (s e : List (Str × Value)), kws.foldl (fun (b : List (Str × Value) × List (Str × Value)) p => (b.1 ++ [p], b.2)) (s, e) = (s ++ kws, e) := by
  induction kws with
  | nil => intro s e; simp
  | cons p r ih => intro s e; rw [List.foldl_cons, ih]; simp
theorem lookup_none_app {n : Str} : ∀ {s : List (Str × Value)} {p : Str × Value}, s.lookup n = none → n ≠ p.1 → (s ++ [p]).lookup n = none
  | [], p, _, h2 => by
    have : (n == p.1) = false := beq_eq_false_iff_ne.mpr h2
    obtain ⟨a, b⟩ := p
    simp [List.lookup, this] at *
  | q :: s, p, h1, h2 => by
    obtain ⟨a, b⟩ := q
    simp only [List.cons_append, List.lookup_cons] at h1 ⊢
    split at h1
    · cases h1
    · exact lookup_none_app h1 h2
theorem pb {α β : Type} (a : α) (f : α → Sem β) : (pure a >>= f) = f a := rfl
theorem bind_plain {fd : FuncData} {us : List Value} {kws : List (Str × Value)} {names : List Str} (h1 : fd.params.posonlyargs = []) (h2 : fd.params.kwonlyargs = []) (h3 : fd.params.vararg = none) (h4 : fd.params.kwarg = none) (h5 : fd.defaults = .none)
    (hn : fd.params.args.map (·.arg) = names) (hk : ∀ p ∈ kws, p.1 ∈ names ∧ (names.zip us).lookup p.1 = none) (hd : (kws.map (·.1)).Nodup) (hl : us.length ≤ names.length) (hall : ∀ n ∈ names, ((names.zip us ++ kws).lookup n).isSome = true) :
    bindArgs fd ⟨us, kws⟩ = pure (names.filterMap fun n => ((names.zip us ++ kws).lookup n).map (n, ·)) := by
  have hmiss : (names.filter fun n => ((names.zip us ++ kws).lookup n).isNone) = [] := by
    rw [List.filter_eq_nil_iff]
    intro n hn' hh
    have := hall n hn'
    cases e : (names.zip us ++ kws).lookup n with
    | none => rw [e] at this; cases this
    | some v => rw [e] at hh; cases hh
  unfold bindArgs
  simp only [h1, h2, h3, h4, h5, hn, List.map_nil, List.nil_append, List.append_nil]
  rw [kw_loop _ (fun b p => (b.1 ++ [p], b.2)) (fun rest b => (∀ p ∈ rest, p.1 ∈ names ∧ b.1.lookup p.1 = none) ∧ (rest.map (·.1)).Nodup) kws (names.zip us, []) ⟨hk, hd⟩ ?_]
  · rw [foldl_pair]
    have e0 : seqItems? Value.none = pure none := rfl
    rw [e0]

    have hlen : decide (us.length > names.length) = false := decide_eq_false (by omega)
    simp only [pb, hlen, Bool.false_and, Bool.false_eq_true, if_false, Option.getD_none, List.drop_nil, List.length_nil, Nat.sub_zero, List.take_length, hmiss, List.isEmpty_nil, Bool.not_true, List.zip_nil_right, List.forIn_nil]
  · rintro p r b ⟨q1, q2⟩
    obtain ⟨m1, m2⟩ := q1 p (List.mem_cons_self ..)
    have hc : names.contains p.1 = true := by simpa using m1
    rw [List.map_cons, List.nodup_cons] at q2
    refine ⟨?_, fun q hq => ⟨(q1 q (List.mem_cons_of_mem _ hq)).1, lookup_none_app (q1 q (List.mem_cons_of_mem _ hq)).2 fun e => q2.1 (List.mem_map.mpr ⟨q, hq, e⟩)⟩, q2.2⟩
    simp only [hc, m2, Bool.true_or, if_true, Option.isSome_none, Bool.false_eq_true, if_false]
theorem fm_zip {slots : List (Str × Value)} : ∀ {names : List Str} {zs : List Value}, zs.length = names.length → (∀ (i : Nat) n z, names[i]? = some n → zs[i]? = some z → slots.lookup n = some z) → names.filterMap (fun n => (slots.lookup n).map (n, ·)) = names.zip zs
  | [], [], _, _ => rfl
  | [], _ :: _, h, _ => by simp at h
  | _ :: _, [], h, _ => by simp at h
  | n :: names, z :: zs, hl, h => by
    rw [List.filterMap_cons, h 0 n z rfl rfl]
    show (n, z) :: names.filterMap _ = _
    rw [fm_zip (by simpa using hl) fun i n' z' h1 h2 => h (i + 1) n' z' (by simpa using h1) (by simpa using h2)]
    rfl
theorem lookup_zip {l : List Str} {vs : List Value} : ∀ {i : Nat} {n : Str} {v : Value}, l.Nodup → l[i]? = some n → vs[i]? = some v → (l.zip vs).lookup n = some v := by
  induction l generalizing vs with
  | nil => intro i n v _ h _; simp at h
  | cons x l ih =>
    intro i n v nd h1 h2
    cases vs with
    | nil => simp at h2
    | cons w vs =>
      rw [List.nodup_cons] at nd
      cases i with
      | zero =>
        simp only [List.getElem?_cons_zero, Option.some.injEq] at h1 h2
        subst h1; subst h2
        simp [List.lookup_cons]
      | succ i =>
        simp only [List.getElem?_cons_succ] at h1 h2
        have hne : n ≠ x := fun e => nd.1 (e ▸ List.mem_of_getElem? h1)
        have : (n == x) = false := beq_eq_false_iff_ne.mpr hne
        simp only [List.zip_cons_cons, List.lookup_cons, this]
        exact ih nd.2 h1 h2
theorem lookup_zip_none {n : Str} : ∀ {l : List Str} {vs : List Value}, n ∉ l.take vs.length → (l.zip vs).lookup n = none
  | [], _, _ => by simp
  | _ :: _, [], _ => by simp
  | x :: l, v :: vs, h => by
    simp only [List.length_cons, List.take_succ_cons, List.mem_cons, not_or] at h
    have : (n == x) = false := beq_eq_false_iff_ne.mpr h.1
    simp only [List.zip_cons_cons, List.lookup_cons, this]
    exact lookup_zip_none h.2
theorem lookup_app {n : Str} : ∀ {a b : List (Str × Value)}, (a ++ b).lookup n = match a.lookup n with | some v => some v | none => b.lookup n
  | [], b => rfl
  | q :: a, b => by
    obtain ⟨x, y⟩ := q
    simp only [List.cons_append, List.lookup_cons]
    cases (n == x) with
    | true => rfl
    | false => exact lookup_app
theorem inj_of {f : String → Str} : ∀ {ps : List String}, (ps.map f).Nodup → ∀ a ∈ ps, ∀ b ∈ ps, f a = f b → a = b
  | [], _, a, ha, _, _, _ => by simp at ha
  | p :: ps, h, a, ha, b, hb, e => by
    rw [List.map_cons, List.nodup_cons] at h
    rcases List.mem_cons.mp ha with rfl | ha'
    · rcases List.mem_cons.mp hb with rfl | hb'
      · rfl
      · exact absurd (List.mem_map.mpr ⟨b, hb', e.symm⟩) h.1
    · rcases List.mem_cons.mp hb with rfl | hb'
      · exact absurd (List.mem_map.mpr ⟨a, ha', e⟩) h.1
      · exact inj_of h.2 a ha' b hb' e
theorem nodup_map_on {f : String → Str} : ∀ {ks : List String}, ks.Nodup → (∀ a ∈ ks, ∀ b ∈ ks, f a = f b → a = b) → (ks.map f).Nodup
  | [], _, _ => .nil
  | k :: ks, h, hi => by
    rw [List.nodup_cons] at h
    rw [List.map_cons, List.nodup_cons]
    refine ⟨fun hm => ?_, nodup_map_on h.2 fun a ha b hb => hi a (List.mem_cons_of_mem _ ha) b (List.mem_cons_of_mem _ hb)⟩
    obtain ⟨z, hz, e⟩ := List.mem_map.mp hm
    have := hi z (List.mem_cons_of_mem _ hz) k (List.mem_cons_self ..) e
    subst this; exact h.1 hz
theorem idxOf_get {k : String} : ∀ {ks : List String} {j : Nat}, PL.idxOf k ks = some j → ks[j]? = some k
  | [], _, h => by simp [PL.idxOf] at h
  | x :: ks, j, h => by
    unfold PL.idxOf at h
    split at h
    · rename_i e
      obtain rfl := Option.some.inj h
      simp [e]
    · obtain ⟨i, h1, rfl⟩ := Option.map_eq_some_iff.mp h
      simpa using idxOf_get h1
theorem idxs_get {ks : List String} {n : Nat} : ∀ {ps : List String} {r : List Nat}, PL.idxs ks n ps = some r → r.length = ps.length ∧ ∀ (i : Nat) p, ps[i]? = some p → ∃ j, ks[j]? = some p ∧ r[i]? = some (n + j)
  | [], r, h => by
    simp only [PL.idxs, Option.some.injEq] at h
    subst h; exact ⟨rfl, fun i p e => by simp at e⟩
  | q :: ps, r, h => by
    simp only [PL.idxs, Option.bind_eq_some_iff, Option.map_eq_some_iff] at h
    obtain ⟨j, h1, t, h2, rfl⟩ := h
    obtain ⟨g1, g2⟩ := idxs_get h2
    refine ⟨by simp [g1], fun i p e => ?_⟩
    cases i with
    | zero =>
      simp only [List.getElem?_cons_zero, Option.some.injEq] at e
      subst e
      exact ⟨j, idxOf_get h1, rfl⟩
    | succ i =>
      obtain ⟨j', a, b⟩ := g2 i p (by simpa using e)
      exact ⟨j', a, by simpa using b⟩
theorem pick_get {α : Type} {vs : List α} : ∀ {is : List Nat} {zs : List α}, PL.pick vs is = some zs → zs.length = is.length ∧ ∀ (i j : Nat), is[i]? = some j → zs[i]? = vs[j]?
  | [], zs, h => by
    simp only [PL.pick, Option.some.injEq] at h
    subst h; exact ⟨rfl, fun i j e => by simp at e⟩
  | k :: is, zs, h => by
    simp only [PL.pick, Option.bind_eq_some_iff, Option.map_eq_some_iff] at h
    obtain ⟨v, h1, t, h2, rfl⟩ := h
    obtain ⟨g1, g2⟩ := pick_get h2
    refine ⟨by simp [g1], fun i j e => ?_⟩
    cases i with
    | zero =>
      simp only [List.getElem?_cons_zero, Option.some.injEq] at e
      subst e
      rw [h1]; rfl
    | succ i => simpa using g2 i j (by simpa using e)
theorem bindF_of {K : PySem.W.Frag} {fd : FuncData} {ps : List String} (h1 : fd.params.posonlyargs = []) (h2 : fd.params.kwonlyargs = []) (h3 : fd.params.vararg = none) (h4 : fd.params.kwarg = none) (h5 : fd.defaults = .none)
    (hn : fd.params.args.map (·.arg) = ps.map Str.ofString) (nd : (ps.map Str.ofString).Nodup) : BindF K fd ps := by
  have core : ∀ (us zs : List Value) (kws : List (Str × Value)), us.length ≤ ps.length → zs.length = ps.length → (∀ p ∈ kws, p.1 ∈ ps.map Str.ofString ∧ ((ps.map Str.ofString).zip us).lookup p.1 = none) → (kws.map (·.1)).Nodup →
      (∀ (i : Nat) n z, (ps.map Str.ofString)[i]? = some n → zs[i]? = some z → ((ps.map Str.ofString).zip us ++ kws).lookup n = some z) → bindArgs fd ⟨us, kws⟩ = pure ((ps.map Str.ofString).zip zs) := fun us zs kws l1 l2 hk hd hz => by
    rw [bind_plain h1 h2 h3 h4 h5 hn hk hd (by rw [List.length_map]; exact l1) fun n hm => ?_]
    · rw [fm_zip (by rw [List.length_map]; exact l2) hz]
    · obtain ⟨i, hi, e⟩ := List.mem_iff_getElem.mp hm
      rw [List.length_map] at hi
      rw [hz i n zs[i] (by rw [List.getElem?_eq_getElem (by rw [List.length_map]; exact hi), e]) (List.getElem?_eq_getElem (by omega))]
      rfl
  refine ⟨fun s us hl => .of_eq (core us us [] (by omega) hl (fun p hp => by cases hp) .nil fun i n z e1 e2 => ?_), fun s us ws zs ks is hw hp hz hzl => .of_eq (core us zs _ ?_ hzl ?_ ?_ ?_)⟩
  · rw [List.append_nil]; exact lookup_zip nd e1 e2
  all_goals
    unfold PL.permIdx at hp
    split at hp
    · rename_i hc
      obtain ⟨c1, c2, c3⟩ := hc
      obtain ⟨r, hr, rfl⟩ := Option.map_eq_some_iff.mp hp
      have sub : ∀ k ∈ ks, k ∈ ps.drop us.length := fun k hk => by simpa using List.all_eq_true.mp c2 k hk
      have inj := inj_of nd
      have ksnd : (ks.map Str.ofString).Nodup := nodup_map_on c3 fun a ha b hb => inj a (List.mem_of_mem_drop (sub a ha)) b (List.mem_of_mem_drop (sub b hb))
      have out : ∀ k ∈ ps.drop us.length, Str.ofString k ∉ (ps.map Str.ofString).take us.length := fun k hk hm => by
        have e : (ps.map Str.ofString) = (ps.map Str.ofString).take us.length ++ (ps.map Str.ofString).drop us.length := (List.take_append_drop _ _).symm
        have nd2 := nd
        rw [e, List.nodup_append] at nd2
        exact nd2.2.2 _ hm _ (by rw [← List.map_drop]; exact List.mem_map.mpr ⟨k, hk, rfl⟩) rfl
      first
        | (show us.length ≤ ps.length; omega)
        | (show ((ks.map Str.ofString).zip ws |>.map (·.1)).Nodup
           rw [List.map_fst_zip (by rw [List.length_map]; omega)]
           exact ksnd)
        | (show ∀ p ∈ (ks.map Str.ofString).zip ws, _
           intro p hp
           obtain ⟨k, hk, e⟩ := List.mem_map.mp (List.of_mem_zip hp).1
           rw [← e]
           exact ⟨List.mem_map.mpr ⟨k, List.mem_of_mem_drop (sub k hk), rfl⟩, lookup_zip_none (out k (sub k hk))⟩)
        | (intro i n z e1 e2
           obtain ⟨g1, g2⟩ := pick_get hz
           obtain ⟨q1, q2⟩ := idxs_get hr
           rw [List.getElem?_map, Option.map_eq_some_iff] at e1
           obtain ⟨p, e1, rfl⟩ := e1
           rw [lookup_app]
           by_cases hi : i < us.length
           · have hz' := g2 i i (by rw [List.getElem?_append_left (by simpa using hi), List.getElem?_range hi])
             rw [e2, List.getElem?_append_left hi] at hz'
             rw [lookup_zip nd (by rw [List.getElem?_map, e1]; rfl) hz'.symm]
           · have hd : (ps.drop us.length)[i - us.length]? = some p := by rw [List.getElem?_drop, show us.length + (i - us.length) = i by omega]; exact e1
             obtain ⟨j, j1, j2⟩ := q2 _ _ hd
             have hz' := g2 i (us.length + j) (by rw [List.getElem?_append_right (by simpa using hi)]; simpa using j2)
             rw [e2, List.getElem?_append_right (by omega), show us.length + j - us.length = j by omega] at hz'
             rw [lookup_zip_none (out p (List.mem_of_getElem? hd))]
             exact lookup_zip ksnd (by rw [List.getElem?_map, j1]; rfl) hz'.symm)
    · cases hp
end PLS

/-! PLS27: the law's call; the facts of the top. -/
namespace PLS
open PySem PySem.Spec PyProof.Rows L2
theorem law_G {P : Program} {w : World} {K : PySem.W.Frag} {mg mb : Str → Option Value} {k : Nat} {fa a : Addr} {fd : FuncData} {x : Str} {sp : Sp} {s1 : Shared} {vs : List Value} {ns : List Int}
    (inK : K.In s1.heap) (hns : s1.heap.Ns mainGlobals mg) (hb : s1.heap.Ns builtinsNs mb) (hbb : ∀ y : Str, y ≠ "__name__" → mb y = bootBuiltins y) (lim : s1.heap.NoLimit) (hg : s1.gens = #[])
    (ha : s1.heap.get? a = some { cls := .type "list", data := .seq vs.toArray }) (hi : IntsAre vs ns) (hl : ns.length ≤ sizeLine) (room : Room k callerA)
    (F : ∀ base : Heap, K.In base → base.Ns mainGlobals mg → FnG P w K mg base k fa fd [x] sp) (bind : ∀ (s : Shared) (u : Value), BindsTo s fd ⟨[u], []⟩ [(x, u)])
    (spec : ∀ H : Hp, Only H → SqL K H a (ns.map V.int) → sp [.ref a] H (fun v _ => v = .bl true) fun _ _ _ => False) :
    codeAny (model P w) callerA (.call (.ref fa) ⟨[.ref a], []⟩)
      (fun r s' => r = .ok (.ret (.bool true)) ∧ OldK s1.heap s'.heap ∧ s'.os = s1.os ∧ AllBare s'.gens) s1 := by
  have rv := vals_ints hi
  have lenV := hi.length
  let ob : Obj := { cls := .type "list", data := .seq vs.toArray }
  let H : Hp := fun b => if b = a ∧ K.lookup a = none then some (.frz ob (.lst (ns.map V.int))) else none
  have hH : ∀ {b : Addr} {u : HO}, H b = some u → b = a ∧ K.lookup a = none ∧ u = .frz ob (.lst (ns.map V.int)) := fun {b u} e => by
    by_cases c : b = a ∧ K.lookup a = none
    · have e' : some (HO.frz ob (.lst (ns.map V.int))) = some u := (if_pos c).symm.trans e
      exact ⟨c.1, c.2, (Option.some.inj e').symm⟩
    · have e' : (none : Option HO) = some u := (if_neg c).symm.trans e
      cases e'
  have lenL : (ns.map V.int).length ≤ sizeLine := by rw [List.length_map]; exact hl
  have only : Only H := fun b => by
    cases e : H b with
    | none => exact .inl rfl
    | some u => obtain ⟨_, _, rfl⟩ := hH e; exact .inr ⟨_, _, rfl⟩
  have sq : SqL K H a (ns.map V.int) := by
    cases e : K.lookup a with
    | none => exact .inl (.inr ⟨ob, if_pos ⟨rfl, e⟩⟩)
    | some o =>
      have e2 := inK a o e
      rw [ha] at e2
      obtain rfl := Option.some.inj e2
      exact .inr ⟨_, vs.toArray, _, e, rfl, rfl, rfl, by rw [List.size_toArray, lenV]; exact hl, by simpa using rv⟩
  have ok : HOk P w H s1.heap := fun b u e => by
    obtain ⟨rfl, _, rfl⟩ := hH e
    exact ⟨ha, lenL, vs, 0, rv, ha⟩
  -- what is no list is not hidden
  have free : ∀ {b : Addr} {o : Obj}, s1.heap.get? b = some o → o ≠ ob → H b = none := fun {b o} e ne => by
    cases q : H b with
    | none => rfl
    | some u =>
      obtain ⟨rfl, _, _⟩ := hH q
      exact absurd (Option.some.inj (e.symm.trans ha)) ne
  have ns_up : ∀ {b : Addr} {m : Str → Option Value}, s1.heap.Ns b m → (hidT s1.heap H).Ns b m := fun {b m} ⟨o, es, ep, e, d, r⟩ =>
    ⟨o, es, ep, hidT_get e (free e fun z => by rw [z] at d; exact nomatch d), d, r⟩
  have inB : K.In (hidT s1.heap H) := fun b o e => hidT_get (inK b o e) (by
    cases q : H b with
    | none => rfl
    | some u =>
      obtain ⟨rfl, z, _⟩ := hH q
      rw [z] at e; exact nomatch e)
  have modu : Mod K mg (hidT s1.heap H) := by
    obtain ⟨mc, c1, c2⟩ := lim
    exact ⟨inB, ns_up hns, ⟨mb, ns_up hb, hbb⟩, mc, ns_up c1, c2⟩
  have none_in : ∀ b : Addr, b ∉ ([] : List Addr) := fun b => List.not_mem_nil
  have e0 : Env0 P w K mg (hidT s1.heap H) callerA [] s1 H :=
    { frames := rfl, mod := modu, bs := fun b o e => of_hidT e, bsz := Nat.le_of_eq (hidT_size _ _), funs := trivial, frf := fun b z => absurd z (none_in b), hok := ok, bare := .of_eq hg }
  have go := (F _ inB (ns_up hns)).run callerA [] s1 H ⟨[.ref a], []⟩ [.ref a] [.ref a] _ _ room rfl e0 (bind s1 (.ref a)) rfl (.cons rfl .nil) (spec H only sq)
  refine codeAny_mono go fun r s' h => ?_
  match r, h with
  | .error e, h =>
    obtain ⟨_, _, _, _, _, _, _, _, _, _, _, _, z⟩ := h
    exact z.elim
  | .ok (.ret u), ⟨v, H', os, bare, un, ok', r', q⟩ =>
    obtain rfl : v = .bl true := q
    obtain rfl : u = Value.bool true := r'
    refine ⟨rfl, OldK.of_keep fun b o e => ?_, os, bare⟩
    cases q : H b with
    | none => exact un.keep b o e q (none_in b) (by simp)
    | some u =>
      obtain ⟨rfl, _, rfl⟩ := hH q
      have z2 := un.frzs _ ob _ q
      have z3 := (ok' _ _ z2).1
      rw [ha] at e
      rw [← Option.some.inj e]
      exact z3
/-! ### the table of the defs -/
structure Ent where
  f : String
  d : PL.Def
  N : List Str
  dd : He.DefD
def Dof (tab : List Ent) : String → Option PL.Def := fun f => (tab.find? fun e => decide (e.f = f)).map (·.d)
def prsB (p : Arguments) (ps : List String) : Bool :=
  p.posonlyargs.isEmpty && p.kwonlyargs.isEmpty && p.vararg.isNone && p.kwarg.isNone && decide (p.args.map (·.arg) = ps.map Str.ofString) && decide (ps.map Str.ofString).Nodup
def scB (N Q : List Str) (sc : Scope) : Bool :=
  decide (sc.kind = .function) && !sc.isCoroutine && !sc.isGenerator && decide N.Nodup && decide (N.take Q.length = Q) && Q.all (fun x => decide (sc.names.lookup x = some .local) || decide (sc.names.lookup x = some .cell)) && sc.names.all fun y => !decide (y.2 = .free)
theorem scB_ok {N Q : List Str} {sc : Scope} (h : scB N Q sc = true) : FnScope N Q sc := by
  simp only [scB, Bool.and_eq_true, decide_eq_true_eq, Bool.not_eq_true', List.all_eq_true, Bool.or_eq_true, decide_eq_false_iff_not] at h
  obtain ⟨⟨⟨⟨⟨⟨h1, h2⟩, h3⟩, h4⟩, h5⟩, h6⟩, h7⟩ := h
  exact ⟨h1, h2, h3, h4, h5, h6, h7⟩
def entB (D : String → Option PL.Def) (G : G_) (e : Ent) : Bool :=
  decide (e.dd.at_ = (Str.ofString e.f, none)) && e.dd.dfl.isEmpty && prsB e.dd.params e.d.ps && scB e.N (e.d.ps.map Str.ofString) e.dd.scope && decide (e.N.length = e.d.ns) && decide (e.d.ps.length ≤ e.d.ns) &&
    chkSs (PL.parsOf D) G ⟨e.N, e.dd.scope, fun _ => true⟩ e.d.body e.dd.body
def faOf (tab : List Ent) (cs : List (String × Int)) : List He.Fa := bltNames.map (fun n => .free (Str.ofString n)) ++ (tab.map (fun e => .glo (Str.ofString e.f)) ++ cs.map fun c => .int (Str.ofString c.1) c.2)
/-- the whole numbers of the top -/
def gOf (cs : List (String × Int)) : G_ := cs.map fun c => (c.1, PL.V.int c.2)
def fnsOf (tab : List Ent) : List He.DefD := tab.map (·.dd)
theorem ent_fact {tab : List Ent} {cs : List (String × Int)} {G : G_} {K : PySem.W.Frag} {h : Heap} {mg : Str → Option Value} (inK : K.In h) (gns : h.Ns mainGlobals mg) (c : He.SaysD (faOf tab cs) (fnsOf tab) K) {e : Ent} (he : e ∈ tab) (hB : entB (Dof tab) G e = true) :
    ∃ fd, FnFact (Dof tab) G K mg e.f e.d (He.ga K (Str.ofString e.f)) fd ∧ BindF K fd e.d.ps := by
  simp only [entB, Bool.and_eq_true, decide_eq_true_eq] at hB
  obtain ⟨⟨⟨⟨⟨⟨b1, b2⟩, b3⟩, b4⟩, b5⟩, b6⟩, b7⟩ := hB
  obtain ⟨fd, ⟨oc, od, dV, kV, dc, pm, an, cdv, ct, osl, rfl, lk, cd, df, _⟩, kp⟩ := c.defs (d := e.dd) (List.mem_map.mpr ⟨e, he, rfl⟩)
  have ef : He.fAd K e.dd.at_ = He.ga K (Str.ofString e.f) := by rw [b1]; rfl
  rw [ef] at lk kp
  have dn : dV = .none := by
    rcases df with ⟨_, z⟩ | ⟨z, _⟩
    · exact z
    · refine absurd ?_ z
      show (e.dd.dfl.map _) = []
      rw [List.isEmpty_iff.mp b2]; rfl
  simp only [prsB, Bool.and_eq_true, decide_eq_true_eq, List.isEmpty_iff, Option.isNone_iff_eq_none] at b3
  obtain ⟨⟨⟨⟨⟨p1, p2⟩, p3⟩, p4⟩, p5⟩, p6⟩ := b3
  have bf := bindF_of (K := K) (fd := PySem.W.fnOf e.dd.name e.dd.qual e.dd.params e.dd.body e.dd.scope dV kV dc pm an cdv ct) p1 p2 p3 p4 dn p5 p6
  refine ⟨_, ⟨He.glo_ok inK gns (c.facts (List.mem_append_right _ (List.mem_append_left _ (List.mem_map.mpr ⟨e, he, rfl⟩)))), kp, bf, _, _, _, _, _, _, _, _, _, _, _, _, _, _, _, e.N, rfl, lk, cd, scB_ok b4, b5, b6, b7⟩, bf⟩
theorem facts_of {tab : List Ent} {cs : List (String × Int)} {K : PySem.W.Frag} {h : Heap} {mg : Str → Option Value} (inK : K.In h) (gns : h.Ns mainGlobals mg) (c : He.SaysD (faOf tab cs) (fnsOf tab) K) (hB : tab.all (entB (Dof tab) (gOf cs)) = true) : Facts (Dof tab) (gOf cs) K mg := by
  refine ⟨fun n hn => He.free_ok inK gns (c.facts (List.mem_append_left _ (List.mem_map.mpr ⟨n, hn, rfl⟩))), fun q hq => ?_, fun f d hd => ?_⟩
  · obtain ⟨x, hx, rfl⟩ := List.mem_map.mp hq
    obtain ⟨t, ht⟩ := He.int_ok inK gns (c.facts (List.mem_append_right _ (List.mem_append_right _ (List.mem_map.mpr ⟨x, hx, rfl⟩))))
    exact ⟨.int x.2, _, ht, ⟨t, rfl⟩, fun ρ H => by simp only [RepV]⟩
  obtain ⟨e, h1, rfl⟩ := Option.map_eq_some_iff.mp hd
  have he := List.mem_of_find?_eq_some h1
  have ef : e.f = f := by simpa using List.find?_some h1
  subst ef
  obtain ⟨fd, ff, _⟩ := ent_fact inK gns c he (List.all_eq_true.mp hB e he)
  exact ⟨_, fd, ff⟩
theorem law_spec {K : PySem.W.Frag} {D : String → Option PL.Def} {n : Nat} {H : Hp} {a : Addr} {ns : List Int} (only : Only H) (sq : SqL K H a (ns.map V.int)) {M' : PL.Mem} (run : PL.callN D n 0 "law" [.cl (ns.map PL.V.int)] [] = .ok (.bl true) M') :
    spF (PL.callN D n) RX0 K "law" [.ref a] H (fun v _ => v = .bl true) fun _ _ _ => False := by
  refine ⟨⟨0, [], fun x hx => by cases hx⟩, [], [], [.cl (ns.map PL.V.int)], ⟨⟨rfl, .nil, fun i mo e => by simp at e⟩, fun m hm i mo hi e => by simp at e, Nat.le_refl _⟩, .cons ?_ .nil, ?_⟩
  · simp only [RepV]
    refine ⟨a, ns.map V.int, rfl, ?_, repVs_ints ns⟩
    rcases sq with (h | ⟨o, h⟩) | ⟨o, its, m, h1, h2, h3, h4, h5, h6⟩
    · rcases only a with z | ⟨_, _, z⟩
      · rw [h] at z; cases z
      · rw [h] at z; cases z
    · exact .inl ⟨o, h, by simp⟩
    · exact .inr ⟨o, its, m, h1, h2, h3, h4, h5, h6⟩
  · show Post K _ (RepV K) _ [] H _ (PL.callN D n 0 "law" [.cl (ns.map PL.V.int)] [])
    rw [run]
    exact fun ρ' H' b x k r => by simpa only [RepV] using r
theorem walk_PL {tab : List Ent} {cs : List (String × Int)} {l : PySem.W.OpenLaw} {k : Nat} {q : Program} {loose : List Str} {XP : (Str → Option Value) → Heap → Prop} {YP : World → Heap → Prop} {d : DefRec} {e : Ent}
    (hn : l.most = some 63) (hdf : d.params.defaults = []) (hY : ∀ w h, YP w h → ∃ K : PySem.W.Frag, K.In h ∧ He.SaysD (faOf tab cs) (fnsOf tab) K) (hB : tab.all (entB (Dof tab) (gOf cs)) = true) (he : (tab.find? fun e => decide (e.f = "law")) = some e)
    (hps : e.d.ps = ["script"]) (hname : d.name = Str.ofString "law") (run : ∀ ns : List Int, ns.length ≤ 63 → ∃ M, PL.callN (Dof tab) k 0 "law" [.cl (ns.map PL.V.int)] [] = .ok (.bl true) M) (room : Room k callerA) :
    PySem.W.WalkO q loose XP YP l.row.toRowW d [] (fun f vs => PySem.call f vs) := by
  refine Att.attach_call hn hdf fun w s0 s1 mg mb fa o pm cd doc a vs ns G Y ho hd hcd hmg hobj hints hlen hg => ?_
  obtain ⟨K, inK, c⟩ := hY w _ Y
  have hm := List.mem_of_find?_eq_some he
  have ef : e.f = "law" := by simpa using List.find?_some he
  obtain ⟨fd, ff, bf⟩ := ent_fact inK G.T.g c hm (List.all_eq_true.mp hB e hm)
  have F := facts_of inK G.T.g c hB
  have dl : Dof tab "law" = some e.d := by unfold Dof; rw [he]; rfl
  rw [ef] at ff
  have efa : fa = He.ga K (Str.ofString "law") := by
    have z := ff.at_
    rw [hname] at hmg
    rw [hmg] at z
    exact Value.ref.inj (Option.some.inj z)
  subst efa
  refine law_G (k := k) (fd := fd) (x := Str.ofString "script") (sp := spF (PL.callN (Dof tab) k) RX0 K "law") inK G.T.g G.T.b G.T.builtins G.T.nolimit hg hobj hints (Nat.le_trans hlen (by rw [sizeLine_eq]; decide)) room (fun base _ _ => ?_) (fun s u => ?_) fun H only sq => ?_
  · have g := all_G (P := l.prog) (w := w) (base := base) F k "law" e.d _ fd dl ff
    rw [hps] at g
    exact g
  · have := bf.pos s [u] (by rw [hps]; rfl)
    rw [hps] at this
    exact this
  · obtain ⟨M, r⟩ := run ns hlen
    exact law_spec only sq r
end PLS

/-! PLT: what runs of PL tell. -/
namespace PL
theorem noref_rd (f : Nat → Option V) {v : V} (h : noref v = true) : rdW f v = some v := (go v).1 h
where
  go : ∀ v : V, (noref v = true → rdW f v = some v) ∧ True
    | .non => ⟨fun _ => by simp [rdW], trivial⟩
    | .bl _ => ⟨fun _ => by simp [rdW], trivial⟩
    | .int _ => ⟨fun _ => by simp [rdW], trivial⟩
    | .str _ => ⟨fun _ => by simp [rdW], trivial⟩
    | .rep _ => ⟨fun _ => by simp [rdW], trivial⟩
    | .ct _ => ⟨fun _ => by simp [rdW], trivial⟩
    | .cl _ => ⟨fun _ => by simp [rdW], trivial⟩
    | .ref _ => ⟨fun h => by simp [noref] at h, trivial⟩
    | .tup xs => ⟨fun h => by simp only [noref] at h; simp only [rdW, gos xs h, Option.map_some], trivial⟩
    | .fl xs => ⟨fun h => by simp only [noref] at h; simp only [rdW, gos xs h, Option.map_some], trivial⟩
    | .fd ks vs => ⟨fun h => by simp only [noref, Bool.and_eq_true] at h; simp only [rdW, gos ks h.1, gos vs h.2, Option.bind_some, Option.map_some], trivial⟩
  gos : ∀ xs : List V, norefs xs = true → rdWs f xs = some xs
    | [], _ => by simp [rdWs]
    | x :: xs, h => by
      simp only [norefs, Bool.and_eq_true] at h
      simp only [rdWs, (go x).1 h.1, gos xs h.2, Option.bind_some, Option.map_some]
theorem rd_noref {M : Mem} {n : Nat} {v : V} (h : noref v = true) : rd M n v = some v := by
  cases n <;> (unfold rd; exact noref_rd _ h)
theorem norefs_all {xs : List V} (h : ∀ x ∈ xs, noref x = true) : norefs xs = true := by
  induction xs with
  | nil => rfl
  | cons x xs ih => simp only [norefs, h x (List.mem_cons_self ..), ih fun y hy => h y (List.mem_cons_of_mem _ hy), Bool.and_self]
theorem plains_all {xs : List V} (h : ∀ x ∈ xs, plain x = true) : plains xs = true := by
  induction xs with
  | nil => rfl
  | cons x xs ih => simp only [plains, h x (List.mem_cons_self ..), ih fun y hy => h y (List.mem_cons_of_mem _ hy), Bool.and_self]
theorem deps_all {xs : List V} {n : Nat} (h : ∀ x ∈ xs, dep x ≤ n) : deps xs ≤ n := by
  induction xs with
  | nil => exact Nat.zero_le _
  | cons x xs ih =>
    simp only [deps]
    exact Nat.max_le.mpr ⟨h x (List.mem_cons_self ..), ih fun y hy => h y (List.mem_cons_of_mem _ hy)⟩
/-- plain data: no live object within, not deep -/
def pd (n : Nat) (v : V) : Prop := noref v = true ∧ plain v = true ∧ dep v ≤ n
theorem pd_int {n : Nat} {i : Int} : pd n (.int i) := ⟨rfl, rfl, Nat.zero_le _⟩
theorem pd_bl {n : Nat} {i : Bool} : pd n (.bl i) := ⟨rfl, rfl, Nat.zero_le _⟩
theorem pd_non {n : Nat} : pd n .non := ⟨rfl, rfl, Nat.zero_le _⟩
theorem pd_tup {n : Nat} {xs : List V} (h : ∀ x ∈ xs, pd n x) : pd (n + 1) (.tup xs) :=
  ⟨by simp only [noref]; exact norefs_all fun x hx => (h x hx).1, by simp only [plain]; exact plains_all fun x hx => (h x hx).2.1, by simp only [dep]; exact Nat.succ_le_succ (deps_all fun x hx => (h x hx).2.2)⟩
theorem pd_fl {n : Nat} {xs : List V} (h : ∀ x ∈ xs, pd n x) : pd (n + 1) (.fl xs) :=
  ⟨by simp only [noref]; exact norefs_all fun x hx => (h x hx).1, by simp only [plain]; exact plains_all fun x hx => (h x hx).2.1, by simp only [dep]; exact Nat.succ_le_succ (deps_all fun x hx => (h x hx).2.2)⟩
theorem pd.mono {m n : Nat} {v : V} (h : pd m v) (l : m ≤ n) : pd n v := ⟨h.1, h.2.1, Nat.le_trans h.2.2 l⟩
/-- what a value is as a datum -/
def Reads (M : Mem) (v d : V) : Prop := rd M RDN v = some d ∧ pd 60 d
theorem reads_pd {M : Mem} {v : V} (h : pd 60 v) : Reads M v v := ⟨rd_noref h.1, h⟩
theorem reads_ref {M : Mem} {i : Nat} {xs : List V} (h : M[i]? = some (.lst xs)) (hx : ∀ x ∈ xs, pd 59 x) : Reads M (.ref i) (.fl xs) := by
  refine ⟨?_, pd_fl hx⟩
  have e : ∀ f : Nat → Option V, rdWs f xs = some xs := fun f => noref_rd.gos f xs (norefs_all fun x hx' => (hx x hx').1)
  show rd M (5 + 1) (.ref i) = _
  simp only [rd, rdW, h, e, Option.map_some]
theorem eqD_reads {M : Mem} {v w a b : V} (h1 : Reads M v a) (h2 : Reads M w b) : eqD M v w = some (eqV a b) := by
  unfold eqD
  rw [h1.1, h2.1]
  simp only [h1.2.2.1, h2.2.2.1, h1.2.2.2, h2.2.2.2, decide_true, Bool.and_self, if_true]
theorem eqM_reads {M : Mem} {v w a b : V} (h1 : Reads M v a) (h2 : Reads M w b) : eqM M v w = some (eqV a b) := by
  unfold eqM
  split
  · have := h1.2.2.1
    simp only [Reads, rd, rdW] at h1
    obtain ⟨e, _, p, _⟩ := h1
    have e' : rd M RDN (.rep _) = some a := e
    simp [rd, RDN, rdW] at e'
    subst e'
    simp [plain] at p
  · exact eqD_reads h1 h2
theorem ints_map (is : List Int) : vints (is.map .int) = some is := by
  induction is with
  | nil => rfl
  | cons i is ih => simp only [List.map_cons, vints, ih, Option.map_some]
theorem bools_map {α : Type} (f : α → Bool) (xs : List α) : bools (xs.map fun x => .bl (f x)) = some (xs.map f) := by
  induction xs with
  | nil => rfl
  | cons i is ih => simp only [List.map_cons, bools, ih, Option.map_some]
theorem at_end {M : Mem} {o : MO} : (M ++ [o])[M.length]? = some o := by simp
theorem set_end {M : Mem} {o o' : MO} : (M ++ [o]).set M.length o' = M ++ [o'] := by simp
/-- a comprehension whose condition and items change nothing -/
theorem compL_pure {w : List (Nat × List V)} {t : Tg} {c e : Env → Mem → R V} {σ : Env} {M : Mem} (p : V → Bool) (f : V → V) : ∀ (xs acc : List V),
    (∀ acc, watched w (M ++ [.lst acc]) = true) →
    (∀ x ∈ xs, ∃ σ', asg t x σ = some σ' ∧ ∀ acc, c σ' (M ++ [.lst acc]) = .ok (.bl (p x)) (M ++ [.lst acc]) ∧ (p x = true → e σ' (M ++ [.lst acc]) = .ok (f x) (M ++ [.lst acc]))) →
    acc.length + xs.length ≤ SZ → compL M.length w t c e σ xs (M ++ [.lst acc]) = .ok () (M ++ [.lst (acc ++ (xs.filter p).map f)])
  | [], acc, hw, _, _ => by
    unfold compL
    simp only [hw, if_true, List.filter_nil, List.map_nil, List.append_nil]
  | x :: xs, acc, hw, h, hz => by
    obtain ⟨σ', ha, hc⟩ := h x (List.mem_cons_self ..)
    have hr := fun acc => compL_pure p f xs acc hw fun y hy => h y (List.mem_cons_of_mem _ hy)
    rw [List.length_cons] at hz
    unfold compL
    simp only [hw, if_true, ha, (hc acc).1, R.bind_ok]
    cases hp : p x with
    | false =>
      simp only [List.filter_cons, hp, Bool.false_eq_true, if_false]
      exact hr acc (by omega)
    | true =>
      simp only [(hc acc).2 hp, R.bind_ok, at_end, set_end]
      rw [if_pos (by omega), hr (acc ++ [f x]) (by rw [List.length_append, List.length_singleton]; omega)]
      simp [List.filter_cons, hp]
/-- the same over encoded items -/
theorem compL_enc {α : Type} {w : List (Nat × List V)} {t : Tg} {c e : Env → Mem → R V} {σ : Env} {M : Mem} (enc : α → V) (p : α → Bool) (f : α → V) : ∀ (xs : List α) (acc : List V),
    (∀ acc, watched w (M ++ [.lst acc]) = true) →
    (∀ x ∈ xs, ∃ σ', asg t (enc x) σ = some σ' ∧ ∀ acc, c σ' (M ++ [.lst acc]) = .ok (.bl (p x)) (M ++ [.lst acc]) ∧ (p x = true → e σ' (M ++ [.lst acc]) = .ok (f x) (M ++ [.lst acc]))) →
    acc.length + xs.length ≤ SZ → compL M.length w t c e σ (xs.map enc) (M ++ [.lst acc]) = .ok () (M ++ [.lst (acc ++ (xs.filter p).map f)])
  | [], acc, hw, _, _ => by
    unfold compL
    simp only [hw, if_true, List.filter_nil, List.map_nil, List.append_nil]
  | x :: xs, acc, hw, h, hz => by
    obtain ⟨σ', ha, hc⟩ := h x (List.mem_cons_self ..)
    have hr := fun acc => compL_enc enc p f xs acc hw fun y hy => h y (List.mem_cons_of_mem _ hy)
    rw [List.length_cons] at hz
    rw [List.map_cons]
    unfold compL
    simp only [hw, if_true, ha, (hc acc).1, R.bind_ok]
    cases hp : p x with
    | false =>
      simp only [List.filter_cons, hp, Bool.false_eq_true, if_false]
      exact hr acc (by omega)
    | true =>
      simp only [(hc acc).2 hp, R.bind_ok, at_end, set_end]
      rw [if_pos (by omega), hr (acc ++ [f x]) (by rw [List.length_append, List.length_singleton]; omega)]
      simp [List.filter_cons, hp]
/-- a loop, by an invariant -/
theorem forL_inv {w : List (Nat × List V)} {t : Tg} {b : Env → Mem → Rs} (I : List V → Env → Mem → Prop) : ∀ (xs : List V) (σ : Env) (M : Mem), I xs σ M →
    (∀ xs σ M, I xs σ M → watched w M = true) →
    (∀ x xs σ M, I (x :: xs) σ M → ∃ σ', asg t x σ = some σ' ∧ ∃ σ1 M1, b σ' M = .nx σ1 M1 ∧ I xs σ1 M1) → ∃ σ1 M1, forL w t b xs σ M = .nx σ1 M1 ∧ I [] σ1 M1
  | [], σ, M, h, hw, _ => ⟨σ, M, by unfold forL; simp only [hw _ _ _ h, if_true], h⟩
  | x :: xs, σ, M, h, hw, hs => by
    obtain ⟨σ', ha, σ1, M1, hb, h1⟩ := hs x xs σ M h
    obtain ⟨σ2, M2, h2, h3⟩ := forL_inv I xs σ1 M1 h1 hw hs
    refine ⟨σ2, M2, ?_, h3⟩
    unfold forL
    simp only [hw _ _ _ h, if_true, ha, hb]
    exact h2
/-- what is no live object leaves as it is -/
theorem frzW_plain (f : Nat → Option V) (n : Nat) {v : V} (h : plain v = true) : frzW f n v = some v := go v h
where
  go : ∀ v : V, plain v = true → frzW f n v = some v
    | .non, _ => by simp [frzW]
    | .bl _, _ => by simp [frzW]
    | .int _, _ => by simp [frzW]
    | .str _, _ => by simp [frzW]
    | .rep _, h => by simp [plain] at h
    | .ct _, h => by simp [plain] at h
    | .cl _, h => by simp [plain] at h
    | .ref _, h => by simp [plain] at h
    | .fd _ _, h => by simp [plain] at h
    | .tup xs, h => by simp only [plain] at h; simp only [frzW, gos xs h, Option.map_some]
    | .fl xs, h => by simp only [plain] at h; simp only [frzW, gos xs h, Option.map_some]
  gos : ∀ xs : List V, plains xs = true → frzWs f n xs = some xs
    | [], _ => by simp [frzWs]
    | x :: xs, h => by
      simp only [plains, Bool.and_eq_true] at h
      simp only [frzWs, go x h.1, gos xs h.2, Option.bind_some, Option.map_some]
theorem frz_pd {M : Mem} {n k : Nat} {v : V} (h : pd n v) : frz M k RDN v = some v := by
  show frz M k (5 + 1) v = some v
  unfold frz
  exact frzW_plain _ _ h.2.1
theorem frz_lst {M : Mem} {k i : Nat} {xs : List V} (h : M[i]? = some (.lst xs)) (hi : k ≤ i) (hx : ∀ x ∈ xs, plain x = true) : frz M k RDN (.ref i) = some (.fl xs) := by
  show frz M k (5 + 1) (.ref i) = _
  simp only [frz, frzW, if_neg (Nat.not_lt.mpr hi), h, frzW_plain.gos _ _ xs (plains_all hx), Option.map_some]
end PL

/-! PLR: runs of PL, step by step. -/
namespace PL
section
variable {P : String → Option (List String)} {C : Orc} {mk : Nat} {σ σ1 : Env} {M M1 M2 M3 M4 : Mem} {e a b c o i : E} {es r kws : Es} {x y z v : V} {vs ws us : List V} {R' : R V}
theorem ev_var {j : Nat} (h : lk σ j = some v) : ev P C mk (.var j) σ M = .ok v M := by simp only [ev, h]
theorem ev_cst : ev P C mk (.cst v) σ M = .ok v M := by simp only [ev]
theorem ev_glb {s : String} : ev P C mk (.glb s v) σ M = .ok v M := by simp only [ev]
theorem ev_bin {p : Op} (h1 : ev P C mk a σ M = .ok x M1) (h2 : ev P C mk b σ M1 = .ok y M2) (h3 : binop M2 p x y = R') : ev P C mk (.bin p a b) σ M = R' := by simp only [ev, h1, h2, R.bind_ok, h3]
theorem ev_neg {j : Int} (h1 : ev P C mk a σ M = .ok (.int j) M1) : ev P C mk (.neg a) σ M = .ok (.int (-j)) M1 := by simp only [ev, h1, R.bind_ok]
theorem ev_not {j : Bool} (h1 : ev P C mk a σ M = .ok (.bl j) M1) : ev P C mk (.not a) σ M = .ok (.bl !j) M1 := by simp only [ev, h1, R.bind_ok]
theorem ev_bop {p : Bool} (h : evb P C mk p es σ M = R') : ev P C mk (.bop p es) σ M = R' := by simp only [ev, h]
theorem evb_one {p q : Bool} (h : ev P C mk e σ M = .ok (.bl q) M1) : evb P C mk p (.cons e .nil) σ M = .ok (.bl q) M1 := by simp only [evb, h, R.bind_ok]
theorem evb_cons {p q : Bool} {e2 : E} (h : ev P C mk e σ M = .ok (.bl q) M1) (h2 : (if q = p then evb P C mk p (.cons e2 r) σ M1 else .ok (.bl q) M1) = R') : evb P C mk p (.cons e (.cons e2 r)) σ M = R' := by
  rw [evb, h, R.bind_ok]
  · exact h2
  · intro h; cases h
theorem ev_cmp {p : Cm} {q : Bool} (h1 : ev P C mk a σ M = .ok x M1) (h2 : ev P C mk b σ M1 = .ok y M2) (h3 : cmpop M2 p x y = some q) : ev P C mk (.cmp p a b) σ M = .ok (.bl q) M2 := by simp only [ev, h1, h2, R.bind_ok, h3]
theorem ev_chnT {p p' : Cm} {q : Bool} (h1 : ev P C mk a σ M = .ok x M1) (h2 : ev P C mk b σ M1 = .ok y M2) (h3 : cmpop M2 p x y = some true) (h4 : ev P C mk c σ M2 = .ok z M3) (h5 : cmpop M3 p' y z = some q) : ev P C mk (.chn p p' a b c) σ M = .ok (.bl q) M3 := by simp only [ev, h1, h2, R.bind_ok, h3, h4, h5]
theorem ev_chnF {p p' : Cm} (h1 : ev P C mk a σ M = .ok x M1) (h2 : ev P C mk b σ M1 = .ok y M2) (h3 : cmpop M2 p x y = some false) : ev P C mk (.chn p p' a b c) σ M = .ok (.bl false) M2 := by simp only [ev, h1, h2, R.bind_ok, h3]
theorem ev_isN {n : Bool} (h1 : ev P C mk a σ M = .ok x M1) : ev P C mk (.isN n a) σ M = .ok (.bl (if n then !decide (x = .non) else decide (x = .non))) M1 := by simp only [ev, h1, R.bind_ok]
theorem ev_isi {t : Ty} {q : Bool} (h1 : ev P C mk a σ M = .ok x M1) (h2 : tyOk M1 x = true) (h3 : isTy M1 x t = q) : ev P C mk (.isi a t) σ M = .ok (.bl q) M1 := by simp only [ev, h1, R.bind_ok, h2, h3, if_true]
theorem ev_isB {n k : Bool} (h1 : ev P C mk a σ M = .ok x M1) : ev P C mk (.isB n k a) σ M = .ok (.bl (if n then !isBV k x else isBV k x)) M1 := by simp only [ev, h1, R.bind_ok]
theorem ev_rev (h1 : ev P C mk a σ M = .ok x M1) (h2 : litems M1 x = some vs) : ev P C mk (.rev a) σ M = .ok (.ref M1.length) (M1 ++ [.lst vs.reverse]) := by simp only [ev, h1, R.bind_ok, h2, alloc]
theorem ev_dnt : ev P C mk .dnt σ M = .ok (.ref M.length) (M ++ [.dct true [] []]) := by simp only [ev, alloc]
theorem ev_ite {q : Bool} (h1 : ev P C mk c σ M = .ok (.bl q) M1) (h2 : (if q = true then ev P C mk a σ M1 else ev P C mk b σ M1) = R') : ev P C mk (.ite c a b) σ M = R' := by
  cases q <;> simp only [ev, h1, R.bind_ok] <;> simpa using h2
theorem ev_tup (h : evs P C mk es σ M = .ok vs M1) (hz : vs.length ≤ SZ) : ev P C mk (.tup es) σ M = .ok (.tup vs) M1 := by simp only [ev, h, R.bind_ok, hz, if_true]
theorem ev_lst (h : evs P C mk es σ M = .ok vs M1) (hz : vs.length ≤ SZ) : ev P C mk (.lst es) σ M = .ok (.ref M1.length) (M1 ++ [.lst vs]) := by simp only [ev, h, R.bind_ok, hz, if_true, alloc]
theorem ev_idx (h1 : ev P C mk a σ M = .ok x M1) (h2 : ev P C mk i σ M1 = .ok y M2) (h3 : index M2 x y = some v) : ev P C mk (.idx a i) σ M = .ok v M2 := by simp only [ev, h1, h2, R.bind_ok, h3]
theorem ev_slc {lo hi : Eo} {l u : Option Int} (h1 : ev P C mk a σ M = .ok x M1) (h2 : evo P C mk lo σ M1 = .ok l M2) (h3 : evo P C mk hi σ M2 = .ok u M3) (h4 : slice M3 x l u = R') : ev P C mk (.slc a lo hi) σ M = R' := by simp only [ev, h1, h2, h3, R.bind_ok, h4]
theorem evo_none : evo P C mk .none σ M = .ok none M := by simp only [evo]
theorem evo_some {j : Int} (h : ev P C mk e σ M = .ok (.int j) M1) : evo P C mk (.some e) σ M = .ok (some j) M1 := by simp only [evo, h, R.bind_ok]
theorem ev_fn {f : String} (h : evs P C mk es σ M = .ok vs M1) (h2 : C mk f vs M1 = R') : ev P C mk (.fn f es) σ M = R' := by simp only [ev, h, R.bind_ok, h2]
theorem ev_fnk {f : String} {ks ps : List String} {is : List Nat} (h : evs P C mk es σ M = .ok vs M1) (h2 : evs P C mk kws σ M1 = .ok ws M2) (hl : ws.length = ks.length) (hp : P f = some ps) (hi : permIdx ps vs.length ks = some is) (hk : pick (vs ++ ws) is = some us) (h3 : C mk f us M2 = R') :
    ev P C mk (.fnk f es kws ks) σ M = R' := by simp only [ev, h, h2, R.bind_ok, hl, if_true, hp, Option.bind_some, hi, hk, h3]
theorem ev_pr {p : Pr} (h : evs P C mk es σ M = .ok vs M1) (h2 : prim M1 p vs = R') : ev P C mk (.pr p es) σ M = R' := by simp only [ev, h, R.bind_ok, h2]
theorem ev_mt {m : Mt} (h : ev P C mk o σ M = .ok x M1) (hr : recvOk M1 m x = true) (h2 : evs P C mk es σ M1 = .ok vs M2) (h3 : meth mk M2 m x vs = R') : ev P C mk (.mt m o es) σ M = R' := by simp only [ev, h, R.bind_ok, hr, if_true, h2, h3]
theorem ev_comp {t : Tg} {it : It} {c : Eo} {s : Src} (h : evi P C mk it σ M = .ok s M1) (h2 : compL M1.length s.2 t (fun σ' M' => evc P C mk c σ' M') (fun σ' M' => ev P C mk e σ' M') σ s.1 (M1 ++ [.lst []]) = .ok () M2) : ev P C mk (.comp t it c e) σ M = .ok (.ref M1.length) M2 := by
  simp only [ev, h, R.bind_ok, h2, noExc]
theorem ev_lrng {j k : Int} (h1 : ev P C mk a σ M = .ok (.int j) M1) (h2 : ev P C mk b σ M1 = .ok (.int k) M2) (hz : (rOk j && rOk k && decide ((k - j).toNat ≤ SZ)) = true) : ev P C mk (.lrng a b) σ M = .ok (.ref M2.length) (M2 ++ [.lst (ranged j (k - j).toNat)]) := by
  simp only [ev, h1, h2, R.bind_ok, hz, if_true, alloc]
theorem evs_nil : evs P C mk .nil σ M = .ok [] M := by simp only [evs]
theorem evs_cons (h : ev P C mk e σ M = .ok x M1) (h2 : evs P C mk r σ M1 = .ok vs M2) : evs P C mk (.cons e r) σ M = .ok (x :: vs) M2 := by simp only [evs, h, h2, R.bind_ok]
theorem evc_none : evc P C mk .none σ M = .ok (.bl true) M := by simp only [evc]
theorem evc_some (h : ev P C mk e σ M = R') : evc P C mk (.some e) σ M = R' := by simp only [evc, h]
theorem evi_of {s : Src} (h : ev P C mk e σ M = .ok x M1) (h2 : srcOf M1 x = some s) : evi P C mk (.of e) σ M = .ok s M1 := by simp only [evi, h, R.bind_ok, src1, h2]
theorem evi_rng1 {k : Int} (h : ev P C mk e σ M = .ok (.int k) M1) (hz : rOk k = true) : evi P C mk (.rng1 e) σ M = .ok (ranged 0 (k - 0).toNat, []) M1 := by
  have h0 : rOk 0 = true := by decide
  simp only [evi, h, R.bind_ok, srcR, h0, hz, Bool.and_self, if_true]
theorem evi_rng2 {j k : Int} (h : ev P C mk a σ M = .ok (.int j) M1) (h2 : ev P C mk b σ M1 = .ok (.int k) M2) (hz : (rOk j && rOk k) = true) : evi P C mk (.rng2 a b) σ M = .ok (ranged j (k - j).toNat, []) M2 := by simp only [evi, h, h2, R.bind_ok, srcR, hz, if_true]
theorem evi_enum {s : Src} (h : ev P C mk e σ M = .ok x M1) (h2 : srcOf M1 x = some s) : evi P C mk (.enum e) σ M = .ok (enumed 0 s.1, s.2) M1 := by simp only [evi, h, R.bind_ok, srcE, h2]
variable {t : Tg} {st : S} {ss sa sb : Ss} {O : Rs}
theorem xss_nx (h : xs P C mk st σ M = .nx σ1 M1) (h2 : xss P C mk ss σ1 M1 = O) : xss P C mk (.cons st ss) σ M = O := by simp only [xss, h, h2]
theorem xss_rt (h : xs P C mk st σ M = .rt v M1) : xss P C mk (.cons st ss) σ M = .rt v M1 := by simp only [xss, h]
theorem xss_nil : xss P C mk .nil σ M = .nx σ M := by simp only [xss]
theorem xs_set (h : ev P C mk e σ M = .ok v M1) (h2 : asgM M1 t v σ = some σ1) : xs P C mk (.set t e) σ M = .nx σ1 M1 := by simp only [xs, h, R.toS_ok, h2]
theorem xs_par {is : List Nat} (h : evs P C mk es σ M = .ok vs M1) (h2 : pars is vs σ = some σ1) : xs P C mk (.par is es) σ M = .nx σ1 M1 := by simp only [xs, h, R.toSl_ok, h2]
theorem xs_put (h : ev P C mk e σ M = .ok v M1) (h2 : ev P C mk o σ M1 = .ok x M2) (h3 : ev P C mk i σ M2 = .ok y M3) (h4 : put mk M3 x y v = some M4) : xs P C mk (.put o i e) σ M = .nx σ M4 := by simp only [xs, h, h2, h3, R.toS_ok, h4]
theorem xs_ex (h : ev P C mk e σ M = .ok v M1) : xs P C mk (.ex e) σ M = .nx σ M1 := by simp only [xs, h, R.toS_ok]
theorem xs_ret (h : ev P C mk e σ M = .ok v M1) : xs P C mk (.ret e) σ M = .rt v M1 := by simp only [xs, h, R.toS_ok]
theorem xs_iff {q : Bool} (h : ev P C mk c σ M = .ok (.bl q) M1) (h2 : (if q = true then xss P C mk sa σ M1 else xss P C mk sb σ M1) = O) : xs P C mk (.iff c sa sb) σ M = O := by
  cases q <;> simp only [xs, h, R.toS_ok] <;> simpa using h2
theorem xs_for {it : It} {s : Src} (h : evi P C mk it σ M = .ok s M1) (h2 : forL s.2 t (fun σ' M' => xss P C mk sa σ' M') s.1 σ M1 = O) : xs P C mk (.for t it sa) σ M = O := by simp only [xs, h, R.toSl_ok, h2]
theorem xs_whl (h : whlL (fun σ' M' => ev P C mk c σ' M') (fun σ' M' => xss P C mk sa σ' M') FUEL σ M = O) : xs P C mk (.whl c sa) σ M = O := by simp only [xs, h]
end
/-- a call -/
theorem call_rt {D : String → Option Def} {n mk : Nat} {f : String} {d : Def} {args : List V} {M M1 M2 : Mem} {v v' : V} (hd : D f = some d) (hl : args.length = d.ps.length) (hv : d.live = false) (h : xss (parsOf D) (callN D n) M.length d.body (envOf d args) M = .rt v M1) (hf : frz M1 M.length RDN v = some v') (ht : M1.take M.length = M2) :
    callN D (n + 1) mk f args M = .ok v' M2 := by
  unfold callN
  simp only [hd, hl, if_true, hv, Bool.false_eq_true, if_false, h, left, hf, ht]
theorem call_live {D : String → Option Def} {n mk : Nat} {f : String} {d : Def} {args : List V} {M M1 : Mem} {v : V} (hd : D f = some d) (hl : args.length = d.ps.length) (hv : d.live = true) (h : xss (parsOf D) (callN D n) mk d.body (envOf d args) M = .rt v M1) :
    callN D (n + 1) mk f args M = .ok v M1 := by
  unfold callN
  simp only [hd, hl, if_true, hv, h, left]
theorem add_i {M : Mem} {i j : Int} : binop M .add (.int i) (.int j) = .ok (.int (i + j)) M := rfl
theorem sub_i {M : Mem} {i j : Int} : binop M .sub (.int i) (.int j) = .ok (.int (i - j)) M := rfl
theorem mul_i {M : Mem} {i j : Int} (h : mulOk i j = true) : binop M .mul (.int i) (.int j) = .ok (.int (i * j)) M := by simp only [binop, mulV, h, if_true]
theorem mod_i {M : Mem} {i j : Int} (h : 0 < j) : binop M .mod (.int i) (.int j) = .ok (.int (i % j)) M := by simp only [binop, modV, h, if_true]
theorem fdiv_w {M : Mem} {i j : Int} (h : 0 < j) (h2 : j.natAbs < 2 ^ 4000) : binop M .fdiv (.int i) (.int j) = .ok (.int (i / j)) M := by
  show fdivV M (.int i) (.int j) = _
  unfold fdivV
  exact if_pos ⟨h, h2⟩
set_option exponentiation.threshold 5000 in
theorem two_big {n : Nat} (h : n < 2 ^ 30) : n < 2 ^ 4000 := Nat.lt_of_lt_of_le h (Nat.pow_le_pow_right (i := 30) (j := 4000) (Nat.succ_pos 1) (Nat.le_of_ble_eq_true rfl))
theorem fdiv_i {M : Mem} {i j : Int} (h : 0 < j) (h2 : j < 1073741824) : binop M .fdiv (.int i) (.int j) = .ok (.int (i / j)) M :=
  fdiv_w h (two_big (by omega))
theorem int_i {M : Mem} {i : Int} : prim M .int [.int i] = .ok (.int i) M := rfl
theorem mulOk_r {i j : Int} (h : j.natAbs < 2 ^ 64) : mulOk i j = true := by unfold mulOk; rw [decide_eq_true h, Bool.or_true, Bool.true_or]
theorem mulOk_l {i j : Int} (h : i.natAbs < 2 ^ 64) : mulOk i j = true := by unfold mulOk; rw [decide_eq_true h, Bool.true_or, Bool.true_or]
theorem asgM_nm {i : Nat} {v : V} {σ : Env} {M : Mem} : asgM M (.nm i) v σ = some (stv σ i v) := by simp only [asgM, asg]
theorem asg_nm {i : Nat} {v : V} {σ : Env} : asg (.nm i) v σ = some (stv σ i v) := by simp only [asg]
theorem cmp_ne {M : Mem} {x y a b : V} {q : Bool} (h1 : Reads M x a) (h2 : Reads M y b) (h3 : (!eqV a b) = q) : cmpop M .ne x y = some q := by
  simp only [cmpop, eqM_reads h1 h2, Option.map_some, h3]
theorem cmp_eq {M : Mem} {x y a b : V} {q : Bool} (h1 : Reads M x a) (h2 : Reads M y b) (h3 : eqV a b = q) : cmpop M .eq x y = some q := by
  simp only [cmpop, eqM_reads h1 h2, h3]
theorem reads_ints {M : Mem} {i : Nat} {xs : List Int} (h : M[i]? = some (.lst (xs.map .int))) : Reads M (.ref i) (.fl (xs.map .int)) :=
  reads_ref h fun x hx => by obtain ⟨j, _, rfl⟩ := List.mem_map.mp hx; exact pd_int
theorem reads_new {M : Mem} {xs : List V} (h : ∀ x ∈ xs, pd 59 x) : Reads (M ++ [.lst xs]) (.ref M.length) (.fl xs) := reads_ref at_end h
theorem eqV_nil {xs : List V} : eqV (.fl xs) (.fl []) = xs.isEmpty := by
  cases xs <;> simp [eqV, eqVs]
/-- nothing but the objects at r and g is changed -/
structure Same (M M' : Mem) (r g : Nat) : Prop where
  len : M'.length = M.length
  at_ : ∀ i, i ≠ r → i ≠ g → M'[i]? = M[i]?
theorem Same.refl {M : Mem} {r g : Nat} : Same M M r g := ⟨rfl, fun _ _ _ => rfl⟩
theorem Same.trans {M M' M2 : Mem} {r g : Nat} (h : Same M M' r g) (k : Same M' M2 r g) : Same M M2 r g := ⟨k.len.trans h.len, fun i a b => (k.at_ i a b).trans (h.at_ i a b)⟩
theorem take_app {M N : Mem} : (M ++ N).take M.length = M := by simp
theorem take_set {M N : Mem} {i : Nat} {o : MO} (h : i < M.length) : ((M ++ N).set i o).take M.length = M.set i o := by
  rw [List.set_append_left _ _ h, List.take_append_of_le_length (by simp)]
  exact List.take_of_length_le (by simp)
end PL
namespace PL.K13
open PL
def d_is_integer : Def := ⟨["value"], 1, false,
    (.cons (.ret (.bop true (.cons (.isi (.var 0) .int) (.cons (.not (.isi (.var 0) .bool)) .nil))))
    .nil)⟩

def d_many_things : Def := ⟨["pattern"], 1, false,
    (.cons (.ret (.bin .add (.pr .max (.cons (.var 0) .nil)) (.cst (.int 1))))
    .nil)⟩

def d_patterns_of : Def := ⟨["n"], 6, false,
    (.cons (.set (.nm 1) (.lst (.cons (.tup (.cons (.cst (.int 0)) .nil)) .nil)))
    (.cons (.for (.nm 2) (.rng2 (.cst (.int 1)) (.var 0)) (.cons (.set (.nm 3) (.lst .nil))
    (.cons (.for (.nm 4) (.of (.var 1)) (.cons (.ex (.mt .extend (.var 3) (.cons (.comp (.nm 5) (.rng1 (.bin .add (.fn "many_things" (.cons (.var 4) .nil)) (.cst (.int 1)))) .none (.tup (.star (.var 4) (.cons (.var 5) .nil)))) .nil)))
    .nil))
    (.cons (.set (.nm 1) (.pr .list (.cons (.var 3) .nil)))
    .nil))))
    (.cons (.ret (.pr .tuple (.cons (.var 1) .nil)))
    .nil)))⟩

def d_is_entry : Def := ⟨["pattern", "value"], 4, false,
    (.cons (.iff (.bop false (.cons (.not (.isi (.var 1) .tuple)) (.cons (.cmp .ne (.pr .len (.cons (.var 1) .nil)) (.pr .len (.cons (.var 0) .nil))) .nil))) (.cons (.ret (.cst (.bl false)))
    .nil) .nil)
    (.cons (.set (.nm 2) (.fn "many_things" (.cons (.var 0) .nil)))
    (.cons (.iff (.not (.pr .all (.cons (.comp (.nm 3) (.of (.var 1)) .none (.bop true (.cons (.fn "is_integer" (.cons (.var 3) .nil)) (.cons (.chn .le .lt (.cst (.int 0)) (.var 3) (.var 2)) .nil)))) .nil))) (.cons (.ret (.cst (.bl false)))
    .nil) .nil)
    (.cons (.ret (.pr .all (.cons (.comp (.nm 3) (.rng1 (.var 2)) .none (.cmp .isin (.var 3) (.var 1))) .nil)))
    .nil))))⟩

def d_table_error : Def := ⟨["n", "value"], 5, false,
    (.cons (.set (.nm 2) (.fn "patterns_of" (.cons (.var 0) .nil)))
    (.cons (.iff (.bop false (.cons (.not (.isi (.var 1) .tuple)) (.cons (.cmp .ne (.pr .len (.cons (.var 1) .nil)) (.pr .len (.cons (.var 2) .nil))) .nil))) (.cons (.ret (.cst (.str (cs "form"))))
    .nil) .nil)
    (.cons (.for (.tp (.cons (.nm 3) (.cons (.nm 4) .nil))) (.enum (.var 2)) (.cons (.iff (.not (.fn "is_entry" (.cons (.var 4) (.cons (.idx (.var 1) (.var 3)) .nil)))) (.cons (.ret (.tup (.cons (.cst (.str (cs "entry"))) (.cons (.var 3) .nil))))
    .nil) .nil)
    .nil))
    (.cons (.ret (.cst .non))
    .nil))))⟩

def d_still : Def := ⟨["n"], 1, false,
    (.cons (.ret (.fn "patterns_of" (.cons (.var 0) .nil)))
    .nil)⟩

def d__law_own_bag : Def := ⟨["script"], 4, true,
    (.cons (.set (.nm 1) (.comp (.nm 3) (.of (.slc (.var 0) .none (.some (.cst (.int 63))))) .none (.pr .abs (.cons (.var 3) .nil))))
    (.cons (.set (.nm 2) (.bin .add (.cst (.int 2468)) (.pr .len (.cons (.var 1) .nil))))
    (.cons (.for (.nm 3) (.of (.var 1)) (.cons (.set (.nm 2) (.bin .mod (.bin .add (.bin .add (.bin .mul (.var 2) (.cst (.int 48271))) (.bin .mod (.pr .int (.cons (.var 3) .nil)) (.cst (.int 2147483629)))) (.cst (.int 7))) (.cst (.int 2147483647))))
    .nil))
    (.cons (.ret (.lst (.cons (.rev (.var 1)) (.cons (.cst (.int 0)) (.cons (.var 2) .nil)))))
    .nil))))⟩

def d__law_draw : Def := ⟨["bag", "below"], 4, false,
    (.cons (.whl (.bop true (.cons (.cmp .eq (.idx (.var 0) (.cst (.int 1))) (.cst (.int 0))) (.cons (.cmp .ne (.idx (.var 0) (.cst (.int 0))) (.lst .nil)) .nil))) (.cons (.set (.nm 2) (.mt .pop (.idx (.var 0) (.cst (.int 0))) .nil))
    (.cons (.put (.var 0) (.cst (.int 1)) (.ite (.cmp .gt (.var 2) (.bin .pow (.cst (.int 10)) (.cst (.int 9)))) (.var 2) (.cst (.int 0))))
    .nil)))
    (.cons (.iff (.cmp .gt (.idx (.var 0) (.cst (.int 1))) (.cst (.int 0))) (.cons (.set (.nm 3) (.bin .mod (.pr .int (.cons (.idx (.var 0) (.cst (.int 1))) .nil)) (.var 1)))
    (.cons (.put (.var 0) (.cst (.int 1)) (.bin .fdiv (.idx (.var 0) (.cst (.int 1))) (.var 1)))
    (.cons (.ret (.var 3))
    .nil))) .nil)
    (.cons (.put (.var 0) (.cst (.int 2)) (.bin .mod (.pr .int (.cons (.bin .add (.bin .mul (.idx (.var 0) (.cst (.int 2))) (.cst (.int 48271))) (.cst (.int 11))) .nil)) (.cst (.int 2147483647))))
    (.cons (.ret (.bin .mod (.pr .int (.cons (.bin .fdiv (.bin .mod (.bin .mul (.idx (.var 0) (.cst (.int 2))) (.idx (.var 0) (.cst (.int 2)))) (.cst (.int 2147483629))) (.cst (.int 7))) .nil)) (.var 1)))
    .nil))))⟩

def d__law_pick : Def := ⟨["bag", "some"], 2, false,
    (.cons (.ret (.idx (.var 1) (.fn "_law_draw" (.cons (.var 0) (.cons (.pr .len (.cons (.var 1) .nil)) .nil)))))
    .nil)⟩

def d__law_order : Def := ⟨["bag", "many"], 4, false,
    (.cons (.par [2, 3] (.cons (.lrng (.cst (.int 0)) (.var 1)) (.cons (.lst .nil) .nil)))
    (.cons (.whl (.cmp .ne (.var 2) (.lst .nil)) (.cons (.ex (.mt .append (.var 3) (.cons (.mt .popAt (.var 2) (.cons (.fn "_law_draw" (.cons (.var 0) (.cons (.pr .len (.cons (.var 2) .nil)) .nil))) .nil)) .nil)))
    .nil))
    (.cons (.ret (.var 3))
    .nil)))⟩

def d__law_same : Def := ⟨["told", "due"], 4, false,
    (.cons (.iff (.isi (.var 1) .tuple) (.cons (.iff (.bop false (.cons (.not (.isi (.var 0) .tuple)) (.cons (.cmp .ne (.pr .len (.cons (.var 0) .nil)) (.pr .len (.cons (.var 1) .nil))) .nil))) (.cons (.ret (.cst (.bl false)))
    .nil) .nil)
    (.cons (.ret (.pr .all (.cons (.comp (.tp (.cons (.nm 2) (.cons (.nm 3) .nil))) (.zip (.var 0) (.var 1)) .none (.fn "_law_same" (.cons (.var 2) (.cons (.var 3) .nil)))) .nil)))
    .nil)) .nil)
    (.cons (.iff (.bop false (.cons (.isN false (.var 1)) (.cons (.isB false true (.var 1)) (.cons (.isB false false (.var 1)) .nil)))) (.cons (.ret (.ite (.isN false (.var 1)) (.isN false (.var 0)) (.bop true (.cons (.isi (.var 0) .bool) (.cons (.cmp .eq (.var 0) (.var 1)) .nil)))))
    .nil) .nil)
    (.cons (.iff (.isi (.var 1) .int) (.cons (.ret (.bop true (.cons (.isi (.var 0) .int) (.cons (.not (.isi (.var 0) .bool)) (.cons (.cmp .eq (.var 0) (.var 1)) .nil)))))
    .nil) .nil)
    (.cons (.ret (.bop true (.cons (.isi (.var 0) .str) (.cons (.cmp .eq (.var 0) (.var 1)) .nil))))
    .nil))))⟩

def d__law_world : Def := ⟨["n"], 8, false,
    (.cons (.set (.nm 1) (.lst (.cons (.tup (.cons (.cst (.int 0)) .nil)) .nil)))
    (.cons (.for (.nm 2) (.rng1 (.bin .sub (.var 0) (.cst (.int 1)))) (.cons (.set (.nm 4) (.lst .nil))
    (.cons (.for (.nm 5) (.of (.var 1)) (.cons (.ex (.mt .extend (.var 4) (.cons (.comp (.nm 7) (.rng1 (.bin .add (.pr .max (.cons (.var 5) .nil)) (.cst (.int 2)))) .none (.bin .add (.var 5) (.tup (.cons (.var 7) .nil)))) .nil)))
    .nil))
    (.cons (.set (.nm 1) (.pr .list (.cons (.var 4) .nil)))
    .nil))))
    (.cons (.set (.nm 3) .dnt)
    (.cons (.for (.tp (.cons (.nm 6) (.cons (.nm 5) .nil))) (.enum (.var 1)) (.cons (.put (.var 3) (.var 5) (.var 6))
    .nil))
    (.cons (.ret (.lst (.cons (.var 0) (.cons (.var 1) (.cons (.var 3) .nil)))))
    .nil)))))⟩

def d__law_things : Def := ⟨["row"], 3, false,
    (.cons (.ret (.comp (.tp (.cons (.nm 1) (.cons (.nm 2) .nil))) (.enum (.var 0)) (.some (.cmp .notin (.var 2) (.slc (.var 0) .none (.some (.var 1))))) (.var 2)))
    .nil)⟩

def d__law_behind : Def := ⟨["world", "table", "row"], 7, false,
    (.cons (.set (.nm 3) (.fn "_law_things" (.cons (.var 2) .nil)))
    (.cons (.set (.nm 4) (.pr .tuple (.cons (.comp (.nm 5) (.of (.var 2)) .none (.mt .index (.var 3) (.cons (.var 5) .nil))) .nil)))
    (.cons (.ret (.pr .tuple (.cons (.comp (.nm 6) (.of (.idx (.var 1) (.idx (.idx (.var 0) (.cst (.int 2))) (.var 4)))) .none (.idx (.var 3) (.var 6))) .nil)))
    .nil)))⟩

def d__law_put : Def := ⟨["world", "one", "other"], 4, false,
    (.cons (.ret (.pr .tuple (.cons (.comp (.nm 3) (.of (.var 1)) .none (.fn "_law_behind" (.cons (.var 0) (.cons (.var 2) (.cons (.var 3) .nil))))) .nil)))
    .nil)⟩

def d__law_copied : Def := ⟨["row", "a", "b"], 3, false,
    (.cons (.ret (.bin .add (.bin .add (.slc (.var 0) .none (.some (.var 2))) (.tup (.cons (.idx (.var 0) (.var 1)) .nil))) (.slc (.var 0) (.some (.bin .add (.var 2) (.cst (.int 1)))) .none)))
    .nil)⟩

def d__law_done : Def := ⟨["row", "deed"], 9, false,
    (.cons (.set (.tp (.cons (.nm 3) (.cons (.nm 4) (.cons (.nm 5) (.cons (.nm 6) .nil))))) (.var 1))
    (.cons (.set (.nm 2) (.bop true (.cons (.pr .all (.cons (.comp (.tp (.cons (.nm 7) (.cons (.nm 8) .nil))) (.of (.var 3)) .none (.cmp .eq (.idx (.var 0) (.var 7)) (.idx (.var 0) (.var 8)))) .nil)) (.cons (.pr .all (.cons (.comp (.tp (.cons (.nm 7) (.cons (.nm 8) .nil))) (.of (.var 4)) .none (.cmp .ne (.idx (.var 0) (.var 7)) (.idx (.var 0) (.var 8)))) .nil)) .nil))))
    (.cons (.ret (.ite (.bop true (.cons (.var 2) (.cons (.cmp .ne (.idx (.var 0) (.var 5)) (.idx (.var 0) (.var 6))) (.cons (.cmp .gt (.mt .count (.var 0) (.cons (.idx (.var 0) (.var 6)) .nil)) (.cst (.int 1))) .nil)))) (.fn "_law_copied" (.cons (.var 0) (.cons (.var 5) (.cons (.var 6) .nil)))) (.var 0)))
    .nil)))⟩

def d__law_deed_table : Def := ⟨["world", "deed"], 3, false,
    (.cons (.ret (.pr .tuple (.cons (.comp (.nm 2) (.of (.idx (.var 0) (.cst (.int 1)))) .none (.fn "_law_done" (.cons (.var 2) (.cons (.var 1) .nil)))) .nil)))
    .nil)⟩

def d__law_copies : Def := ⟨["pattern"], 5, false,
    (.cons (.set (.nm 1) (.lst .nil))
    (.cons (.for (.nm 2) (.of (.fn "_law_first" (.cons (.var 0) .nil))) (.cons (.ex (.mt .extend (.var 1) (.cons (.comp (.tp (.cons (.nm 3) (.cons (.nm 4) .nil))) (.enum (.var 0)) (.some (.bop true (.cons (.cmp .ne (.var 4) (.idx (.var 0) (.var 2))) (.cons (.cmp .gt (.mt .count (.var 0) (.cons (.var 4) .nil)) (.cst (.int 1))) .nil)))) (.tup (.cons (.var 2) (.cons (.var 3) .nil)))) .nil)))
    .nil))
    (.cons (.ret (.var 1))
    .nil)))⟩

def d__law_first : Def := ⟨["pattern"], 2, false,
    (.cons (.ret (.comp (.nm 1) (.rng1 (.bin .add (.pr .max (.cons (.var 0) .nil)) (.cst (.int 1)))) .none (.mt .index (.var 0) (.cons (.var 1) .nil))))
    .nil)⟩

def d__law_level : Def := ⟨["world", "m"], 4, false,
    (.cons (.ret (.comp (.tp (.cons (.nm 2) (.cons (.nm 3) .nil))) (.enum (.idx (.var 0) (.cst (.int 1)))) (.some (.cmp .eq (.bin .add (.pr .max (.cons (.var 3) .nil)) (.cst (.int 1))) (.var 1))) (.var 2)))
    .nil)⟩

def d__law_full : Def := ⟨["pattern", "a", "b"], 7, false,
    (.cons (.set (.nm 3) (.lst .nil))
    (.cons (.for (.nm 4) (.rng1 (.pr .len (.cons (.var 0) .nil))) (.cons (.ex (.mt .extend (.var 3) (.cons (.comp (.nm 6) (.rng2 (.bin .add (.var 4) (.cst (.int 1))) (.pr .len (.cons (.var 0) .nil))) .none (.tup (.cons (.var 4) (.cons (.var 6) .nil)))) .nil)))
    .nil))
    (.cons (.set (.nm 5) (.pr .tuple (.cons (.comp (.tp (.cons (.nm 4) (.cons (.nm 6) .nil))) (.of (.var 3)) (.some (.cmp .eq (.idx (.var 0) (.var 4)) (.idx (.var 0) (.var 6)))) (.tup (.cons (.var 4) (.cons (.var 6) .nil)))) .nil)))
    (.cons (.ret (.tup (.cons (.var 5) (.cons (.pr .tuple (.cons (.comp (.tp (.cons (.nm 4) (.cons (.nm 6) .nil))) (.of (.var 3)) (.some (.cmp .ne (.idx (.var 0) (.var 4)) (.idx (.var 0) (.var 6)))) (.tup (.cons (.var 4) (.cons (.var 6) .nil)))) .nil)) (.cons (.var 1) (.cons (.var 2) .nil))))))
    .nil))))⟩

def d__law_deed : Def := ⟨["bag", "world"], 12, false,
    (.cons (.set (.nm 2) (.idx (.var 1) (.cst (.int 0))))
    (.cons (.iff (.cmp .eq (.fn "_law_draw" (.cons (.var 0) (.cons (.cst (.int 2)) .nil))) (.cst (.int 0))) (.cons (.set (.nm 6) (.idx (.idx (.var 1) (.cst (.int 1))) (.bin .add (.cst (.int 1)) (.fn "_law_draw" (.cons (.var 0) (.cons (.bin .sub (.pr .len (.cons (.idx (.var 1) (.cst (.int 1))) .nil)) (.cst (.int 2))) .nil))))))
    (.cons (.set (.tp (.cons (.nm 3) (.cons (.nm 4) .nil))) (.fn "_law_pick" (.cons (.var 0) (.cons (.fn "_law_copies" (.cons (.var 6) .nil)) .nil))))
    (.cons (.ret (.fn "_law_full" (.cons (.var 6) (.cons (.var 3) (.cons (.var 4) .nil)))))
    .nil))) .nil)
    (.cons (.set (.nm 3) (.fn "_law_draw" (.cons (.var 0) (.cons (.var 2) .nil))))
    (.cons (.set (.nm 4) (.bin .mod (.bin .add (.bin .add (.var 3) (.cst (.int 1))) (.fn "_law_draw" (.cons (.var 0) (.cons (.bin .sub (.var 2) (.cst (.int 1))) .nil)))) (.var 2)))
    (.cons (.par [7, 8, 9] (.cons (.lst .nil) (.cons (.lst .nil) (.cons (.bin .add (.cst (.int 3)) (.fn "_law_draw" (.cons (.var 0) (.cons (.bin .mul (.cst (.int 2)) (.var 2)) .nil)))) .nil))))
    (.cons (.for (.nm 5) (.rng1 (.var 2)) (.cons (.for (.nm 10) (.rng2 (.bin .add (.var 5) (.cst (.int 1))) (.var 2)) (.cons (.set (.nm 11) (.fn "_law_draw" (.cons (.var 0) (.cons (.var 9) .nil))))
    (.cons (.iff (.bop false (.cons (.cmp .eq (.var 11) (.cst (.int 0))) (.cons (.bop true (.cons (.cmp .eq (.var 11) (.cst (.int 2))) (.cons (.cmp .eq (.fn "_law_draw" (.cons (.var 0) (.cons (.cst (.int 20)) .nil))) (.cst (.int 0))) .nil))) .nil))) (.cons (.ex (.mt .append (.var 7) (.cons (.tup (.cons (.var 5) (.cons (.var 10) .nil))) .nil)))
    .nil) .nil)
    (.cons (.iff (.bop false (.cons (.cmp .eq (.var 11) (.cst (.int 1))) (.cons (.bop true (.cons (.cmp .eq (.var 11) (.cst (.int 0))) (.cons (.cmp .eq (.fn "_law_draw" (.cons (.var 0) (.cons (.cst (.int 20)) .nil))) (.cst (.int 0))) .nil))) .nil))) (.cons (.ex (.mt .append (.var 8) (.cons (.tup (.cons (.var 5) (.cons (.var 10) .nil))) .nil)))
    .nil) .nil)
    .nil))))
    .nil))
    (.cons (.ret (.tup (.cons (.pr .tuple (.cons (.var 7) .nil)) (.cons (.pr .tuple (.cons (.var 8) .nil)) (.cons (.var 3) (.cons (.var 4) .nil))))))
    .nil)))))))⟩

def d__law_entry : Def := ⟨["bag", "world", "number"], 4, false,
    (.cons (.set (.nm 3) (.fn "_law_level" (.cons (.var 1) (.cons (.bin .add (.pr .max (.cons (.idx (.idx (.var 1) (.cst (.int 1))) (.var 2)) .nil)) (.cst (.int 1))) .nil))))
    (.cons (.ret (.fn "_law_laid" (.cons (.var 0) (.cons (.var 1) (.cons (.fn "_law_pick" (.cons (.var 0) (.cons (.var 3) .nil))) .nil)))))
    .nil))⟩

def d__law_laid : Def := ⟨["bag", "world", "target"], 6, false,
    (.cons (.set (.nm 3) (.idx (.idx (.var 1) (.cst (.int 1))) (.var 2)))
    (.cons (.set (.nm 4) (.fn "_law_order" (.cons (.var 0) (.cons (.bin .add (.pr .max (.cons (.var 3) .nil)) (.cst (.int 1))) .nil))))
    (.cons (.ret (.pr .tuple (.cons (.comp (.nm 5) (.of (.var 3)) .none (.idx (.var 4) (.var 5))) .nil)))
    .nil)))⟩

def d__law_level_moved : Def := ⟨["bag", "world", "entries", "m", "way"], 20, false,
    (.cons (.set (.tp (.cons (.nm 6) (.cons (.nm 7) .nil))) (.tup (.cons (.fn "_law_level" (.cons (.var 1) (.cons (.var 3) .nil))) (.cons (.idx (.var 1) (.cst (.int 1))) .nil))))
    (.cons (.par [8, 9] (.cons (.pr .list (.cons (.var 6) .nil)) (.cons (.fn "_law_order" (.cons (.var 0) (.cons (.pr .len (.cons (.var 6) .nil)) .nil))) .nil)))
    (.cons (.iff (.cmp .eq (.var 4) (.cst (.int 5))) (.cons (.for (.nm 10) (.of (.var 6)) (.cons (.put (.var 2) (.var 10) (.idx (.var 7) (.var 10)))
    .nil))
    (.cons .retN
    .nil)) .nil)
    (.cons (.iff (.cmp .eq (.var 4) (.cst (.int 0))) (.cons (.set (.nm 11) (.fn "_law_pick" (.cons (.var 0) (.cons (.var 6) .nil))))
    (.cons (.put (.var 2) (.var 11) (.fn "_law_entry" (.cons (.var 0) (.cons (.var 1) (.cons (.var 11) .nil)))))
    (.cons .retN
    .nil))) .nil)
    (.cons (.set (.nm 5) (.cmp .eq (.fn "_law_draw" (.cons (.var 0) (.cons (.cst (.int 3)) .nil))) (.cst (.int 0))))
    (.cons (.iff (.cmp .eq (.var 4) (.cst (.int 1))) (.cons (.set (.nm 12) (.comp (.nm 16) (.rng1 (.bin .add (.cst (.int 1)) (.fn "_law_draw" (.cons (.var 0) (.cons (.cst (.int 3)) .nil))))) .none (.fn "_law_pick" (.cons (.var 0) (.cons (.var 6) .nil)))))
    (.cons (.set (.nm 8) (.comp (.nm 10) (.of (.var 6)) .none (.fn "_law_pick" (.cons (.var 0) (.cons (.var 12) .nil)))))
    .nil)) (.cons (.iff (.cmp .eq (.var 4) (.cst (.int 4))) (.cons (.set (.nm 8) (.comp (.nm 10) (.of (.var 6)) .none (.fn "_law_pick" (.cons (.var 0) (.cons (.var 6) .nil)))))
    .nil) (.cons (.iff (.cmp .eq (.fn "_law_draw" (.cons (.var 0) (.cons (.cst (.int 2)) .nil))) (.cst (.int 0))) (.cons (.set (.nm 8) (.comp (.nm 19) (.of (.var 9)) .none (.idx (.var 6) (.var 19))))
    .nil) (.cons (.par [17, 18] (.cons (.fn "_law_draw" (.cons (.var 0) (.cons (.pr .len (.cons (.var 6) .nil)) .nil))) (.cons (.fn "_law_draw" (.cons (.var 0) (.cons (.pr .len (.cons (.var 6) .nil)) .nil))) .nil)))
    (.cons (.put (.var 8) (.var 17) (.idx (.var 6) (.var 18)))
    (.cons (.put (.var 8) (.var 18) (.idx (.var 6) (.var 17)))
    .nil))))
    .nil))
    .nil))
    (.cons (.for (.tp (.cons (.nm 10) (.cons (.nm 13) .nil))) (.zip (.var 6) (.var 8)) (.cons (.put (.var 2) (.var 10) (.ite (.var 5) (.idx (.var 7) (.var 13)) (.fn "_law_laid" (.cons (.var 0) (.cons (.var 1) (.cons (.var 13) .nil))))))
    .nil))
    (.cons (.iff (.cmp .eq (.var 4) (.cst (.int 3))) (.cons (.set (.nm 11) (.fn "_law_pick" (.cons (.var 0) (.cons (.var 6) .nil))))
    (.cons (.set (.tp (.cons (.nm 14) (.cons (.nm 15) .nil))) (.fn "_law_pick" (.cons (.var 0) (.cons (.fn "_law_copies" (.cons (.idx (.var 7) (.var 11)) .nil)) .nil))))
    (.cons (.put (.var 2) (.var 11) (.fn "_law_behind" (.cons (.var 1) (.cons (.var 2) (.cons (.fn "_law_copied" (.cons (.idx (.var 7) (.var 11)) (.cons (.var 14) (.cons (.var 15) .nil)))) .nil)))))
    .nil))) .nil)
    .nil))))))))⟩

def d__law_called : Def := ⟨["world", "table", "order"], 8, false,
    (.cons (.par [4, 5] (.cons (.lst .nil) (.cons (.comp (.nm 7) (.rng1 (.pr .len (.cons (.var 2) .nil))) .none (.mt .index (.var 2) (.cons (.var 7) .nil))) .nil)))
    (.cons (.for (.nm 3) (.of (.idx (.var 0) (.cst (.int 1)))) (.cons (.set (.nm 6) (.fn "_law_behind" (.cons (.var 0) (.cons (.var 1) (.cons (.pr .tuple (.cons (.comp (.nm 7) (.of (.var 2)) .none (.idx (.var 3) (.var 7))) .nil)) .nil)))))
    (.cons (.ex (.mt .append (.var 4) (.cons (.pr .tuple (.cons (.comp (.nm 7) (.of (.var 5)) .none (.idx (.var 6) (.var 7))) .nil)) .nil)))
    .nil)))
    (.cons (.ret (.pr .tuple (.cons (.var 4) .nil)))
    .nil)))⟩

def d__law_some_table : Def := ⟨["bag", "world"], 7, false,
    (.cons (.par [3, 4] (.cons (.pr .list (.cons (.idx (.var 1) (.cst (.int 1))) .nil)) (.cons (.idx (.var 1) (.cst (.int 0))) .nil)))
    (.cons (.iff (.cmp .eq (.fn "_law_draw" (.cons (.var 0) (.cons (.cst (.int 2)) .nil))) (.cst (.int 0))) (.cons (.for (.nm 5) (.rng1 (.bin .add (.cst (.int 1)) (.fn "_law_draw" (.cons (.var 0) (.cons (.cst (.int 3)) .nil))))) (.cons (.set (.nm 3) (.pr .list (.cons (.fn "_law_put" (.cons (.var 1) (.cons (.var 3) (.cons (.fn "_law_deed_table" (.cons (.var 1) (.cons (.fn "_law_deed" (.cons (.var 0) (.cons (.var 1) .nil))) .nil))) .nil)))) .nil)))
    .nil))
    .nil) .nil)
    (.cons (.for (.nm 2) (.rng2 (.cst (.int 2)) (.var 4)) (.cons (.set (.nm 6) (.fn "_law_draw" (.cons (.var 0) (.cons (.cst (.int 8)) .nil))))
    (.cons (.iff (.cmp .lt (.var 6) (.cst (.int 6))) (.cons (.ex (.fn "_law_level_moved" (.cons (.var 0) (.cons (.var 1) (.cons (.var 3) (.cons (.var 2) (.cons (.var 6) .nil)))))))
    .nil) .nil)
    .nil)))
    (.cons (.iff (.cmp .eq (.fn "_law_draw" (.cons (.var 0) (.cons (.cst (.int 8)) .nil))) (.cst (.int 0))) (.cons (.put (.var 3) (.neg (.cst (.int 1))) (.fn "_law_entry" (.cons (.var 0) (.cons (.var 1) (.cons (.bin .sub (.pr .len (.cons (.var 3) .nil)) (.cst (.int 1))) .nil)))))
    .nil) .nil)
    (.cons (.ret (.ite (.cmp .eq (.fn "_law_draw" (.cons (.var 0) (.cons (.cst (.int 4)) .nil))) (.cst (.int 0))) (.fn "_law_called" (.cons (.var 1) (.cons (.var 3) (.cons (.fn "_law_order" (.cons (.var 0) (.cons (.var 4) .nil))) .nil)))) (.pr .tuple (.cons (.var 3) .nil))))
    .nil)))))⟩

def d__law_is_entry : Def := ⟨["pattern", "value"], 3, false,
    (.cons (.iff (.bop false (.cons (.not (.isi (.var 1) .tuple)) (.cons (.cmp .ne (.pr .len (.cons (.var 1) .nil)) (.pr .len (.cons (.var 0) .nil))) .nil))) (.cons (.ret (.cst (.bl false)))
    .nil) .nil)
    (.cons (.iff (.not (.pr .all (.cons (.comp (.nm 2) (.of (.var 1)) .none (.bop true (.cons (.isi (.var 2) .int) (.cons (.not (.isi (.var 2) .bool)) .nil)))) .nil))) (.cons (.ret (.cst (.bl false)))
    .nil) .nil)
    (.cons (.ret (.cmp .eq (.pr .sortedSet (.cons (.var 1) .nil)) (.lrng (.cst (.int 0)) (.bin .add (.pr .max (.cons (.var 0) .nil)) (.cst (.int 1))))))
    .nil)))⟩

def d__law_due : Def := ⟨["world", "value"], 4, false,
    (.cons (.iff (.bop false (.cons (.not (.isi (.var 1) .tuple)) (.cons (.cmp .ne (.pr .len (.cons (.var 1) .nil)) (.pr .len (.cons (.idx (.var 0) (.cst (.int 1))) .nil))) .nil))) (.cons (.ret (.cst (.str (cs "form"))))
    .nil) .nil)
    (.cons (.for (.tp (.cons (.nm 2) (.cons (.nm 3) .nil))) (.enum (.idx (.var 0) (.cst (.int 1)))) (.cons (.iff (.not (.fn "_law_is_entry" (.cons (.var 3) (.cons (.idx (.var 1) (.var 2)) .nil)))) (.cons (.ret (.tup (.cons (.cst (.str (cs "entry"))) (.cons (.var 2) .nil))))
    .nil) .nil)
    .nil))
    (.cons (.ret (.cst .non))
    .nil)))⟩

def d__law_odd_items : Def := ⟨["bag", "entry"], 10, false,
    (.cons (.set (.tp (.cons (.nm 3) (.cons (.nm 4) .nil))) (.tup (.cons (.fn "_law_draw" (.cons (.var 0) (.cons (.pr .len (.cons (.var 1) .nil)) .nil))) (.cons (.fn "_law_draw" (.cons (.var 0) (.cons (.pr .len (.cons (.var 1) .nil)) .nil))) .nil))))
    (.cons (.set (.tp (.cons (.nm 5) (.cons (.nm 6) (.cons (.nm 7) .nil)))) (.tup (.cons (.slc (.var 1) .none (.some (.var 3))) (.cons (.slc (.var 1) (.some (.bin .add (.var 3) (.cst (.int 1)))) .none) (.cons (.bin .add (.pr .max (.cons (.var 1) .nil)) (.cst (.int 1))) .nil)))))
    (.cons (.set (.nm 2) (.comp (.nm 8) (.of (.lst (.cons (.var 7) (.cons (.neg (.cst (.int 1))) (.cons (.bin .pow (.cst (.int 10)) (.cst (.int 30))) (.cons (.cst .non) (.cons (.pr .str (.cons (.idx (.var 1) (.var 3)) .nil)) (.cons (.tup (.cons (.idx (.var 1) (.var 3)) .nil)) (.cons (.bin .sub (.var 7) (.cst (.int 1))) .nil))))))))) .none (.bin .add (.bin .add (.var 5) (.tup (.cons (.var 8) .nil))) (.var 6))))
    (.cons (.ex (.mt .append (.var 2) (.cons (.pr .tuple (.cons (.comp (.tp (.cons (.nm 9) (.cons (.nm 8) .nil))) (.enum (.var 1)) .none (.ite (.bop true (.cons (.cmp .eq (.var 9) (.var 3)) (.cons (.cmp .lt (.var 8) (.cst (.int 2))) .nil))) (.cmp .eq (.var 8) (.cst (.int 1))) (.var 8))) .nil)) .nil)))
    (.cons (.ex (.mt .append (.var 2) (.cons (.pr .tuple (.cons (.comp (.nm 8) (.of (.var 1)) .none (.ite (.cmp .eq (.var 8) (.idx (.var 1) (.var 3))) (.idx (.var 1) (.var 4)) (.var 8))) .nil)) .nil)))
    (.cons (.ret (.bin .add (.var 2) (.lst (.cons (.pr .list (.cons (.var 1) .nil)) (.cons (.slc (.var 1) .none (.some (.neg (.cst (.int 1))))) (.cons (.bin .add (.var 1) (.slc (.var 1) .none (.some (.cst (.int 1))))) (.cons (.tup .nil) (.cons (.cst .non) (.cons (.var 3) (.cons (.pr .str (.cons (.var 1) .nil)) (.cons (.dsp (.cons (.cst (.str (cs "entry"))) (.cons (.var 1) .nil))) (.cons (.tup (.cons (.var 1) .nil)) .nil))))))))))))
    .nil))))))⟩

def d__law_is_told : Def := ⟨["n", "value", "due", "is_named"], 7, false,
    (.cons (.set (.nm 4) (.pr .repr (.cons (.var 1) .nil)))
    (.cons (.set (.nm 5) (.lst (.cons (.ite (.var 3) (.fnk "table_error" .nil (.cons (.var 0) (.cons (.var 1) .nil)) ["n", "value"]) (.fn "table_error" (.cons (.var 0) (.cons (.var 1) .nil)))) .nil)))
    (.cons (.iff (.cmp .eq (.var 0) (.cst (.int 3))) (.cons (.ex (.mt .extend (.var 5) (.cons (.lst (.cons (.fn "table_error" (.cons (.var 0) (.cons (.var 1) .nil))) (.cons (.fnk "table_error" .nil (.cons (.var 0) (.cons (.var 1) .nil)) ["n", "value"]) .nil))) .nil)))
    .nil) .nil)
    (.cons (.ret (.bop true (.cons (.pr .all (.cons (.comp (.nm 6) (.of (.var 5)) .none (.fn "_law_same" (.cons (.var 6) (.cons (.var 2) .nil)))) .nil)) (.cons (.cmp .eq (.pr .repr (.cons (.var 1) .nil)) (.var 4)) .nil))))
    .nil))))⟩

def d__law_are_wholes_right : Def := ⟨["bag", "world", "table"], 8, false,
    (.cons (.set (.tp (.cons (.nm 5) (.cons (.nm 6) .nil))) (.tup (.cons (.idx (.var 1) (.cst (.int 0))) (.cons (.fn "_law_draw" (.cons (.var 0) (.cons (.pr .len (.cons (.var 2) .nil)) .nil))) .nil))))
    (.cons (.set (.nm 3) (.lst (.cons (.pr .list (.cons (.var 2) .nil)) (.cons (.slc (.var 2) .none (.some (.neg (.cst (.int 1))))) (.cons (.slc (.var 2) (.some (.cst (.int 1))) .none) (.cons (.bin .add (.var 2) (.slc (.var 2) (.some (.neg (.cst (.int 1)))) .none)) (.cons (.tup .nil) (.cons (.cst .non) (.cons (.cst (.bl true)) (.cons (.var 5) (.cons (.cst (.str (cs "form"))) (.cons (.tup (.cons (.var 2) .nil)) .nil))))))))))))
    (.cons (.ex (.mt .append (.var 3) (.cons (.dsp (.cons (.cst (.str (cs "table"))) (.cons (.var 2) .nil))) .nil)))
    (.cons (.ex (.mt .extend (.var 3) (.cons (.lst (.cons (.slc (.var 2) .none (.some (.var 6))) (.cons (.bin .add (.slc (.var 2) .none (.some (.var 6))) (.slc (.var 2) (.some (.bin .add (.var 6) (.cst (.int 1)))) .none)) (.cons (.bin .add (.bin .add (.slc (.var 2) .none (.some (.var 6))) (.slc (.var 2) (.some (.var 6)) (.some (.bin .add (.var 6) (.cst (.int 1)))))) (.slc (.var 2) (.some (.var 6)) .none)) .nil)))) .nil)))
    (.cons (.for (.nm 4) (.of (.lst (.cons (.cst (.int 3)) (.cons (.cst (.int 4)) (.cons (.cst (.int 5)) .nil))))) (.cons (.iff (.cmp .ne (.var 4) (.var 5)) (.cons (.ex (.mt .append (.var 3) (.cons (.pr .tuple (.cons (.idx (.fn "_law_world" (.cons (.var 4) .nil)) (.cst (.int 1))) .nil)) .nil)))
    .nil) .nil)
    .nil))
    (.cons (.ret (.pr .all (.cons (.comp (.nm 7) (.of (.var 3)) .none (.fn "_law_is_told" (.cons (.var 5) (.cons (.var 7) (.cons (.fn "_law_due" (.cons (.var 1) (.cons (.var 7) .nil))) (.cons (.cmp .eq (.fn "_law_draw" (.cons (.var 0) (.cons (.cst (.int 2)) .nil))) (.cst (.int 0))) .nil)))))) .nil)))
    .nil))))))⟩

def d_law : Def := ⟨["script"], 14, false,
    (.cons (.set (.nm 1) (.fn "_law_own_bag" (.cons (.var 0) .nil)))
    (.cons (.set (.nm 2) (.fn "_law_pick" (.cons (.var 1) (.cons (.lst (.cons (.cst (.int 3)) (.cons (.cst (.int 3)) (.cons (.cst (.int 4)) (.cons (.cst (.int 4)) (.cons (.cst (.int 4)) (.cons (.cst (.int 5)) .nil))))))) .nil))))
    (.cons (.set (.nm 3) (.fn "_law_world" (.cons (.var 2) .nil)))
    (.cons (.iff (.bop false (.cons (.not (.fn "_law_same" (.cons (.fn "still" (.cons (.var 2) .nil)) (.cons (.pr .tuple (.cons (.idx (.var 3) (.cst (.int 1))) .nil)) .nil)))) (.cons (.not (.fn "_law_same" (.cons (.fnk "still" .nil (.cons (.var 2) .nil) ["n"]) (.cons (.pr .tuple (.cons (.idx (.var 3) (.cst (.int 1))) .nil)) .nil)))) .nil))) (.cons (.ret (.cst (.bl false)))
    .nil) .nil)
    (.cons (.set (.nm 4) (.fn "_law_some_table" (.cons (.var 1) (.cons (.var 3) .nil))))
    (.cons (.set (.nm 5) (.bop true (.cons (.fn "_law_is_told" (.cons (.var 2) (.cons (.var 4) (.cons (.cst .non) (.cons (.cst (.bl true)) .nil))))) (.cons (.fn "_law_is_told" (.cons (.var 2) (.cons (.var 4) (.cons (.cst .non) (.cons (.cst (.bl false)) .nil))))) .nil))))
    (.cons (.iff (.bop false (.cons (.not (.var 5)) (.cons (.not (.fn "_law_are_wholes_right" (.cons (.var 1) (.cons (.var 3) (.cons (.var 4) .nil))))) .nil))) (.cons (.ret (.cst (.bl false)))
    .nil) .nil)
    (.cons (.for (.nm 6) (.rng1 (.cst (.int 4))) (.cons (.par [7, 10] (.cons (.fn "_law_draw" (.cons (.var 1) (.cons (.pr .len (.cons (.var 4) .nil)) .nil))) (.cons (.fn "_law_draw" (.cons (.var 1) (.cons (.pr .len (.cons (.var 4) .nil)) .nil))) .nil)))
    (.cons (.set (.nm 7) (.idx (.lst (.cons (.var 7) (.cons (.cst (.int 0)) (.cons (.bin .sub (.pr .len (.cons (.var 4) .nil)) (.cst (.int 1))) (.cons (.var 7) .nil))))) (.var 6)))
    (.cons (.set (.nm 8) (.fn "_law_odd_items" (.cons (.var 1) (.cons (.idx (.var 4) (.var 7)) .nil))))
    (.cons (.iff (.cmp .gt (.var 2) (.cst (.int 3))) (.cons (.set (.nm 8) (.comp (.nm 13) (.of (.slc (.fn "_law_order" (.cons (.var 1) (.cons (.pr .len (.cons (.var 8) .nil)) .nil))) .none (.some (.ite (.cmp .eq (.var 2) (.cst (.int 4))) (.cst (.int 10)) (.cst (.int 3)))))) .none (.idx (.var 8) (.var 13))))
    .nil) .nil)
    (.cons (.for (.nm 9) (.of (.var 8)) (.cons (.set (.nm 11) (.bin .add (.bin .add (.slc (.var 4) .none (.some (.var 7))) (.tup (.cons (.var 9) .nil))) (.slc (.var 4) (.some (.bin .add (.var 7) (.cst (.int 1)))) .none)))
    (.cons (.iff (.cmp .eq (.var 6) (.cst (.int 3))) (.cons (.set (.nm 12) (.ite (.isi (.idx (.var 11) (.var 10)) .tuple) (.slc (.idx (.var 11) (.var 10)) .none (.some (.neg (.cst (.int 1))))) (.cst .non)))
    (.cons (.set (.nm 11) (.bin .add (.bin .add (.slc (.var 11) .none (.some (.var 10))) (.tup (.cons (.var 12) .nil))) (.slc (.var 11) (.some (.bin .add (.var 10) (.cst (.int 1)))) .none)))
    .nil)) .nil)
    (.cons (.iff (.not (.fn "_law_is_told" (.cons (.var 2) (.cons (.var 11) (.cons (.fn "_law_due" (.cons (.var 3) (.cons (.var 11) .nil))) (.cons (.cmp .eq (.fn "_law_draw" (.cons (.var 1) (.cons (.cst (.int 2)) .nil))) (.cst (.int 0))) .nil)))))) (.cons (.ret (.cst (.bl false)))
    .nil) .nil)
    .nil))))
    .nil))))))
    (.cons (.ret (.fn "_law_is_told" (.cons (.var 2) (.cons (.var 4) (.cons (.cst .non) (.cons (.cst (.bl true)) .nil))))))
    .nil)))))))))⟩

end PL.K13
namespace K13
open PySem PySem.Spec PyProof.Rows L2 PLS
def top (i : Nat) : Stmt := PySem.Challenge.pw_keptthings_k13_what_tables_are.main.body.getD i (.Pass ⟨0, 0, 0, 0⟩)
def ent (f : String) (i : Nat) (d : PL.Def) (N : List String) : Ent := ⟨f, d, N.map Str.ofString, ⟨(Str.ofString f, none), Str.ofString f, Str.ofString f, defArgs (top i), defBody (top i), defScope (top i), [], []⟩⟩
def tab : List Ent := [
  ent "is_integer" 1 PL.K13.d_is_integer ["value"],
  ent "many_things" 3 PL.K13.d_many_things ["pattern"],
  ent "patterns_of" 4 PL.K13.d_patterns_of ["n", "found", "box", "longer", "pattern", "block"],
  ent "is_entry" 6 PL.K13.d_is_entry ["pattern", "value", "blocks", "block"],
  ent "table_error" 7 PL.K13.d_table_error ["n", "value", "patterns", "number", "pattern"],
  ent "still" 8 PL.K13.d_still ["n"],
  ent "_law_own_bag" 10 PL.K13.d__law_own_bag ["script", "cells", "mixed", "cell"],
  ent "_law_draw" 11 PL.K13.d__law_draw ["bag", "below", "cell", "found"],
  ent "_law_pick" 12 PL.K13.d__law_pick ["bag", "some"],
  ent "_law_order" 13 PL.K13.d__law_order ["bag", "many", "rest", "found"],
  ent "_law_same" 14 PL.K13.d__law_same ["told", "due", "mine", "yours"],
  ent "_law_world" 15 PL.K13.d__law_world ["n", "found", "turn", "numbers", "longer", "pattern", "number", "block"],
  ent "_law_things" 16 PL.K13.d__law_things ["row", "box", "thing"],
  ent "_law_behind" 17 PL.K13.d__law_behind ["world", "table", "row", "things", "shape", "thing", "block"],
  ent "_law_put" 18 PL.K13.d__law_put ["world", "one", "other", "entry"],
  ent "_law_copied" 19 PL.K13.d__law_copied ["row", "a", "b"],
  ent "_law_done" 20 PL.K13.d__law_done ["row", "deed", "is_so", "alike", "unlike", "a", "b", "i", "j"],
  ent "_law_deed_table" 21 PL.K13.d__law_deed_table ["world", "deed", "pattern"],
  ent "_law_copies" 22 PL.K13.d__law_copies ["pattern", "found", "a", "b", "block"],
  ent "_law_first" 23 PL.K13.d__law_first ["pattern", "block"],
  ent "_law_level" 24 PL.K13.d__law_level ["world", "m", "number", "pattern"],
  ent "_law_full" 25 PL.K13.d__law_full ["pattern", "a", "b", "pairs", "i", "alike", "j"],
  ent "_law_deed" 26 PL.K13.d__law_deed ["bag", "world", "n", "a", "b", "i", "pattern", "alike", "unlike", "few", "j", "way"],
  ent "_law_entry" 27 PL.K13.d__law_entry ["bag", "world", "number", "some"],
  ent "_law_laid" 28 PL.K13.d__law_laid ["bag", "world", "target", "pattern", "order", "block"],
  ent "_law_level_moved" 29 PL.K13.d__law_level_moved ["bag", "world", "entries", "m", "way", "is_plain", "level", "rows", "targets", "order", "number", "at", "few", "target", "a", "b", "turn", "one", "other", "place"],
  ent "_law_called" 30 PL.K13.d__law_called ["world", "table", "order", "pattern", "found", "back", "row", "box"],
  ent "_law_some_table" 31 PL.K13.d__law_some_table ["bag", "world", "m", "entries", "n", "turn", "way"],
  ent "_law_is_entry" 32 PL.K13.d__law_is_entry ["pattern", "value", "block"],
  ent "_law_due" 33 PL.K13.d__law_due ["world", "value", "number", "pattern"],
  ent "_law_odd_items" 34 PL.K13.d__law_odd_items ["bag", "entry", "found", "at", "other", "ahead", "later", "many", "block", "box"],
  ent "_law_is_told" 35 PL.K13.d__law_is_told ["n", "value", "due", "is_named", "kept", "found", "told"],
  ent "_law_are_wholes_right" 36 PL.K13.d__law_are_wholes_right ["bag", "world", "table", "found", "many", "n", "one", "value"],
  ent "law" 37 PL.K13.d_law ["script", "bag", "n", "world", "table", "is_right", "turn", "one", "items", "item", "other", "value", "spoilt", "place"]]
def cs : List (String × Int) := []
def fa : List He.Fa := faOf tab cs
def fn : List He.DefD := fnsOf tab
abbrev R : PySem.W.OpenRow := PySem.W.OpenLaw.row PySem.Challenge.rw_keptthings_k13_what_tables_are
abbrev hk : PySem.W.Hook := He.hookD 4 fa fn
def ob (s : PySem.W.SharedT) : He.AlD := He.obsDG 4 fa fn (HandSHeadRun.getT s)
theorem ob_eq (s : PySem.W.SharedT) : ob s = hk.obs s.abs := He.obsDG_eq (HandSHeadRun.getT_eq s)
def others : List Str := [Str.ofString "is_integer", Str.ofString "many_things", Str.ofString "patterns_of", Str.ofString "is_entry", Str.ofString "table_error", Str.ofString "still", Str.ofString "_law_own_bag", Str.ofString "_law_draw", Str.ofString "_law_pick", Str.ofString "_law_order", Str.ofString "_law_same", Str.ofString "_law_world", Str.ofString "_law_things", Str.ofString "_law_behind", Str.ofString "_law_put", Str.ofString "_law_copied", Str.ofString "_law_done", Str.ofString "_law_deed_table", Str.ofString "_law_copies", Str.ofString "_law_first", Str.ofString "_law_level", Str.ofString "_law_full", Str.ofString "_law_deed", Str.ofString "_law_entry", Str.ofString "_law_laid", Str.ofString "_law_level_moved", Str.ofString "_law_called", Str.ofString "_law_some_table", Str.ofString "_law_is_entry", Str.ofString "_law_due", Str.ofString "_law_odd_items", Str.ofString "_law_is_told", Str.ofString "_law_are_wholes_right"]
set_option maxHeartbeats 0 in
theorem run (w : World) : HandSHeadRun.RunEq R (PySem.W.view R.prog [37]) hk ob 3000 others w := by
  intro os
  kernel_rfl
theorem checked : tab.all (entB (Dof tab) (gOf cs)) = true := by decide +kernel
end K13
section
local macro_rules | `(tactic| walk_at "pl") => `(tactic| first
  | (with_reducible apply PL.ev_var); rfl | with_reducible exact PL.ev_cst | with_reducible exact PL.ev_glb | with_reducible exact PL.evs_nil | with_reducible exact PL.evo_none | with_reducible exact PL.evc_none | with_reducible exact PL.xss_nil
  | with_reducible apply PL.evs_cons | with_reducible apply PL.ev_bin | with_reducible apply PL.ev_neg | with_reducible apply PL.ev_not | with_reducible apply PL.ev_bop | with_reducible apply PL.evb_one | with_reducible apply PL.evb_cons | with_reducible apply PL.ev_cmp
  | with_reducible apply PL.ev_isN | with_reducible apply PL.ev_isi | with_reducible apply PL.ev_isB | with_reducible apply PL.ev_ite | with_reducible apply PL.ev_tup | with_reducible apply PL.ev_lst | with_reducible apply PL.ev_idx | with_reducible apply PL.ev_slc | with_reducible apply PL.evo_some
  | with_reducible apply PL.ev_fn | with_reducible apply PL.ev_pr | with_reducible apply PL.ev_mt | with_reducible apply PL.ev_comp | with_reducible apply PL.evi_of | with_reducible apply PL.evi_enum | with_reducible apply PL.evc_some
  | with_reducible apply PL.xs_set | with_reducible apply PL.xs_par | with_reducible apply PL.xs_put | with_reducible apply PL.xs_ex | with_reducible apply PL.xs_ret | with_reducible apply PL.xs_iff | with_reducible apply PL.xs_for
  | with_reducible exact PL.add_i | with_reducible exact PL.sub_i | with_reducible exact PL.int_i | with_reducible exact PL.asg_nm | with_reducible exact PL.asgM_nm
  | (with_reducible apply PL.mod_i); decide | (with_reducible apply PL.fdiv_i) <;> decide)
/-! LB1: the law's bag of numbers: draws, picks, orders. -/
namespace PL.LB
def d_many_things : Def := ⟨["pattern"], 1, false,
    (.cons (.ret (.bin .add (.pr .max (.cons (.var 0) .nil)) (.cst (.int 1))))
    .nil)⟩

def d_first_boxes : Def := ⟨["pattern"], 2, false,
    (.cons (.ret (.pr .tuple (.cons (.comp (.nm 1) (.rng1 (.fn "many_things" (.cons (.var 0) .nil))) .none (.mt .index (.var 0) (.cons (.var 1) .nil))) .nil)))
    .nil)⟩

def d_copies_of : Def := ⟨["pattern"], 5, false,
    (.cons (.set (.nm 1) (.lst .nil))
    (.cons (.for (.nm 2) (.of (.fn "first_boxes" (.cons (.var 0) .nil))) (.cons (.for (.tp (.cons (.nm 3) (.cons (.nm 4) .nil))) (.enum (.var 0)) (.cons (.iff (.bop true (.cons (.cmp .ne (.var 4) (.idx (.var 0) (.var 2))) (.cons (.cmp .gt (.mt .count (.var 0) (.cons (.var 4) .nil)) (.cst (.int 1))) .nil))) (.cons (.ex (.mt .append (.var 1) (.cons (.tup (.cons (.var 2) (.cons (.var 3) .nil))) .nil)))
    .nil) .nil)
    .nil))
    .nil))
    (.cons (.ret (.pr .tuple (.cons (.var 1) .nil)))
    .nil)))⟩

def d_entry_behind : Def := ⟨["pattern", "a", "b"], 3, false,
    (.cons (.ret (.bin .add (.bin .add (.slc (.var 0) .none (.some (.var 2))) (.tup (.cons (.idx (.var 0) (.var 1)) .nil))) (.slc (.var 0) (.some (.bin .add (.var 2) (.cst (.int 1)))) .none)))
    .nil)⟩

def d__law_own_bag : Def := ⟨["script"], 4, true,
    (.cons (.set (.nm 1) (.comp (.nm 3) (.of (.slc (.var 0) .none (.some (.cst (.int 63))))) .none (.pr .abs (.cons (.var 3) .nil))))
    (.cons (.set (.nm 2) (.bin .add (.cst (.int 2468)) (.pr .len (.cons (.var 1) .nil))))
    (.cons (.for (.nm 3) (.of (.var 1)) (.cons (.set (.nm 2) (.bin .mod (.bin .add (.bin .add (.bin .mul (.var 2) (.cst (.int 48271))) (.bin .mod (.pr .int (.cons (.var 3) .nil)) (.cst (.int 2147483629)))) (.cst (.int 7))) (.cst (.int 2147483647))))
    .nil))
    (.cons (.ret (.lst (.cons (.rev (.var 1)) (.cons (.cst (.int 0)) (.cons (.var 2) .nil)))))
    .nil))))⟩

def d__law_draw : Def := ⟨["bag", "below"], 4, false,
    (.cons (.whl (.bop true (.cons (.cmp .eq (.idx (.var 0) (.cst (.int 1))) (.cst (.int 0))) (.cons (.cmp .ne (.idx (.var 0) (.cst (.int 0))) (.lst .nil)) .nil))) (.cons (.set (.nm 2) (.mt .pop (.idx (.var 0) (.cst (.int 0))) .nil))
    (.cons (.put (.var 0) (.cst (.int 1)) (.ite (.cmp .gt (.var 2) (.bin .pow (.cst (.int 10)) (.cst (.int 9)))) (.var 2) (.cst (.int 0))))
    .nil)))
    (.cons (.iff (.cmp .gt (.idx (.var 0) (.cst (.int 1))) (.cst (.int 0))) (.cons (.set (.nm 3) (.bin .mod (.pr .int (.cons (.idx (.var 0) (.cst (.int 1))) .nil)) (.var 1)))
    (.cons (.put (.var 0) (.cst (.int 1)) (.bin .fdiv (.idx (.var 0) (.cst (.int 1))) (.var 1)))
    (.cons (.ret (.var 3))
    .nil))) .nil)
    (.cons (.put (.var 0) (.cst (.int 2)) (.bin .mod (.pr .int (.cons (.bin .add (.bin .mul (.idx (.var 0) (.cst (.int 2))) (.cst (.int 48271))) (.cst (.int 11))) .nil)) (.cst (.int 2147483647))))
    (.cons (.ret (.bin .mod (.pr .int (.cons (.bin .fdiv (.bin .mod (.bin .mul (.idx (.var 0) (.cst (.int 2))) (.idx (.var 0) (.cst (.int 2)))) (.cst (.int 2147483629))) (.cst (.int 7))) .nil)) (.var 1)))
    .nil))))⟩

def d__law_pick : Def := ⟨["bag", "some"], 2, false,
    (.cons (.ret (.idx (.var 1) (.fn "_law_draw" (.cons (.var 0) (.cons (.pr .len (.cons (.var 1) .nil)) .nil)))))
    .nil)⟩

def d__law_order : Def := ⟨["bag", "many"], 4, false,
    (.cons (.par [2, 3] (.cons (.lrng (.cst (.int 0)) (.var 1)) (.cons (.lst .nil) .nil)))
    (.cons (.whl (.cmp .ne (.var 2) (.lst .nil)) (.cons (.ex (.mt .append (.var 3) (.cons (.mt .popAt (.var 2) (.cons (.fn "_law_draw" (.cons (.var 0) (.cons (.pr .len (.cons (.var 2) .nil)) .nil))) .nil)) .nil)))
    .nil))
    (.cons (.ret (.var 3))
    .nil)))⟩

def d__law_same : Def := ⟨["told", "due"], 4, false,
    (.cons (.iff (.isi (.var 1) .tuple) (.cons (.iff (.bop false (.cons (.not (.isi (.var 0) .tuple)) (.cons (.cmp .ne (.pr .len (.cons (.var 0) .nil)) (.pr .len (.cons (.var 1) .nil))) .nil))) (.cons (.ret (.cst (.bl false)))
    .nil) .nil)
    (.cons (.ret (.pr .all (.cons (.comp (.tp (.cons (.nm 2) (.cons (.nm 3) .nil))) (.zip (.var 0) (.var 1)) .none (.fn "_law_same" (.cons (.var 2) (.cons (.var 3) .nil)))) .nil)))
    .nil)) .nil)
    (.cons (.iff (.bop false (.cons (.isN false (.var 1)) (.cons (.isB false true (.var 1)) (.cons (.isB false false (.var 1)) .nil)))) (.cons (.ret (.ite (.isN false (.var 1)) (.isN false (.var 0)) (.bop true (.cons (.isi (.var 0) .bool) (.cons (.cmp .eq (.var 0) (.var 1)) .nil)))))
    .nil) .nil)
    (.cons (.iff (.isi (.var 1) .int) (.cons (.ret (.bop true (.cons (.isi (.var 0) .int) (.cons (.not (.isi (.var 0) .bool)) (.cons (.cmp .eq (.var 0) (.var 1)) .nil)))))
    .nil) .nil)
    (.cons (.ret (.bop true (.cons (.isi (.var 0) .str) (.cons (.cmp .eq (.var 0) (.var 1)) .nil))))
    .nil))))⟩

def d__law_world : Def := ⟨["n"], 8, false,
    (.cons (.set (.nm 1) (.lst (.cons (.tup (.cons (.cst (.int 0)) .nil)) .nil)))
    (.cons (.for (.nm 2) (.rng1 (.bin .sub (.var 0) (.cst (.int 1)))) (.cons (.set (.nm 4) (.lst .nil))
    (.cons (.for (.nm 5) (.of (.var 1)) (.cons (.ex (.mt .extend (.var 4) (.cons (.comp (.nm 7) (.rng1 (.bin .add (.pr .max (.cons (.var 5) .nil)) (.cst (.int 2)))) .none (.bin .add (.var 5) (.tup (.cons (.var 7) .nil)))) .nil)))
    .nil))
    (.cons (.set (.nm 1) (.pr .list (.cons (.var 4) .nil)))
    .nil))))
    (.cons (.set (.nm 3) .dnt)
    (.cons (.for (.tp (.cons (.nm 6) (.cons (.nm 5) .nil))) (.enum (.var 1)) (.cons (.put (.var 3) (.var 5) (.var 6))
    .nil))
    (.cons (.ret (.lst (.cons (.var 0) (.cons (.var 1) (.cons (.var 3) .nil)))))
    .nil)))))⟩

def d__law_things : Def := ⟨["row"], 3, false,
    (.cons (.ret (.comp (.tp (.cons (.nm 1) (.cons (.nm 2) .nil))) (.enum (.var 0)) (.some (.cmp .notin (.var 2) (.slc (.var 0) .none (.some (.var 1))))) (.var 2)))
    .nil)⟩

def d__law_shape : Def := ⟨["row"], 3, false,
    (.cons (.set (.nm 1) (.fn "_law_things" (.cons (.var 0) .nil)))
    (.cons (.ret (.pr .tuple (.cons (.comp (.nm 2) (.of (.var 0)) .none (.mt .index (.var 1) (.cons (.var 2) .nil))) .nil)))
    .nil))⟩

def d__law_copied : Def := ⟨["row", "a", "b"], 3, false,
    (.cons (.ret (.bin .add (.bin .add (.slc (.var 0) .none (.some (.var 2))) (.tup (.cons (.idx (.var 0) (.var 1)) .nil))) (.slc (.var 0) (.some (.bin .add (.var 2) (.cst (.int 1)))) .none)))
    .nil)⟩

def d__law_copies : Def := ⟨["pattern"], 5, false,
    (.cons (.set (.nm 1) (.lst .nil))
    (.cons (.for (.nm 2) (.of (.fn "_law_first" (.cons (.var 0) .nil))) (.cons (.ex (.mt .extend (.var 1) (.cons (.comp (.tp (.cons (.nm 3) (.cons (.nm 4) .nil))) (.enum (.var 0)) (.some (.bop true (.cons (.cmp .ne (.var 4) (.idx (.var 0) (.var 2))) (.cons (.cmp .gt (.mt .count (.var 0) (.cons (.var 4) .nil)) (.cst (.int 1))) .nil)))) (.tup (.cons (.var 2) (.cons (.var 3) .nil)))) .nil)))
    .nil))
    (.cons (.ret (.var 1))
    .nil)))⟩

def d__law_first : Def := ⟨["pattern"], 2, false,
    (.cons (.ret (.comp (.nm 1) (.rng1 (.bin .add (.pr .max (.cons (.var 0) .nil)) (.cst (.int 1)))) .none (.mt .index (.var 0) (.cons (.var 1) .nil))))
    .nil)⟩

def d__law_back : Def := ⟨["row", "entry", "b"], 5, false,
    (.cons (.ret (.pr .min (.cons (.comp (.tp (.cons (.nm 3) (.cons (.nm 4) .nil))) (.enum (.var 1)) (.some (.cmp .eq (.var 4) (.idx (.var 0) (.var 2)))) (.var 3)) .nil)))
    .nil)⟩

/-! ### runs -/
theorem frz_bl {M : Mem} {n : Nat} {b : Bool} : frz M n RDN (.bl b) = some (.bl b) := rfl
theorem filter_true {α : Type} (l : List α) : l.filter (fun _ => true) = l := List.filter_eq_self.mpr fun _ _ => rfl
theorem eq_int {M : Mem} {a b : Int} : cmpop M .eq (.int a) (.int b) = some (a == b) := by
  have := eqM_reads (M := M) (reads_pd (pd_int (i := a))) (reads_pd (pd_int (i := b)))
  simpa only [eqV, cmpop] using this
theorem ne_int {M : Mem} {a b : Int} : cmpop M .ne (.int a) (.int b) = some (a != b) := by
  have := eqM_reads (M := M) (reads_pd (pd_int (i := a))) (reads_pd (pd_int (i := b)))
  simp only [eqV] at this
  simp only [cmpop, this, Option.map_some, bne]
/-- the bag at r: what is left of the script at g, the number under way, the mixed one -/
structure Bag (M : Mem) (r g : Nat) (gs : List Int) (c m : Int) : Prop where
  ne : r ≠ g
  d : M[r]? = some (.lst [.ref g, .int c, .int m])
  l : M[g]? = some (.lst (gs.map .int))
  z : gs.length ≤ 1000
section
variable {M M' M0 : Mem} {r g p mk : Nat} {gs gs' : List Int} {c m c' m' k : Int} {o : MO}
theorem Bag.lt (h : Bag M r g gs c m) : r < M.length ∧ g < M.length := ⟨(List.getElem?_eq_some_iff.mp h.d).1, (List.getElem?_eq_some_iff.mp h.l).1⟩
theorem Bag.app (h : Bag M r g gs c m) (N : Mem) : Bag (M ++ N) r g gs c m :=
  ⟨h.ne, by rw [List.getElem?_append_left h.lt.1]; exact h.d, by rw [List.getElem?_append_left h.lt.2]; exact h.l, h.z⟩
theorem Bag.i0 (h : Bag M r g gs c m) : index M (.ref r) (.int 0) = some (.ref g) := by simp only [index, dkeys, items, h.d]; rfl
theorem Bag.i1 (h : Bag M r g gs c m) : index M (.ref r) (.int 1) = some (.int c) := by simp only [index, dkeys, items, h.d]; rfl
theorem Bag.i2 (h : Bag M r g gs c m) : index M (.ref r) (.int 2) = some (.int m) := by simp only [index, dkeys, items, h.d]; rfl
theorem Bag.p1 (h : Bag M r g gs c m) : put mk M (.ref r) (.int 1) (.int k) = some (M.set r (.lst [.ref g, .int k, .int m])) := by
  simp only [PL.put, h.d, wOk, noref, Bool.or_true]; rfl
theorem Bag.p2 (h : Bag M r g gs c m) : put mk M (.ref r) (.int 2) (.int k) = some (M.set r (.lst [.ref g, .int c, .int k])) := by
  simp only [PL.put, h.d, wOk, noref, Bool.or_true]; rfl
theorem Bag.s1 (h : Bag M r g gs c m) : Bag (M.set r (.lst [.ref g, .int c', .int m'])) r g gs c' m' :=
  ⟨h.ne, by rw [List.getElem?_set_self h.lt.1], by rw [List.getElem?_set_ne h.ne]; exact h.l, h.z⟩
theorem Bag.at (h : Bag M r g gs c m) (a : p ≠ r) (b : p ≠ g) : Bag (M.set p o) r g gs c m :=
  ⟨h.ne, by rw [List.getElem?_set_ne a]; exact h.d, by rw [List.getElem?_set_ne b]; exact h.l, h.z⟩
theorem Bag.out (h : Bag M r g gs' c' m') (h0 : Bag M0 r g gs c m) : Bag (M.take M0.length) r g gs' c' m' :=
  ⟨h.ne, by rw [List.getElem?_take_of_lt h0.lt.1]; exact h.d, by rw [List.getElem?_take_of_lt h0.lt.2]; exact h.l, h.z⟩
/-- what was there before is kept, but for r and g -/
structure Fr (M0 M : Mem) (r g : Nat) : Prop where
  le : M0.length ≤ M.length
  at_ : ∀ i, i < M0.length → i ≠ r → i ≠ g → M[i]? = M0[i]?
theorem Fr.refl : Fr M M r g := ⟨Nat.le_refl _, fun _ _ _ _ => rfl⟩
theorem Fr.app (h : Fr M0 M r g) (N : Mem) : Fr M0 (M ++ N) r g :=
  ⟨by have := h.le; rw [List.length_append]; omega, fun i a b c => by rw [List.getElem?_append_left (Nat.lt_of_lt_of_le a h.le)]; exact h.at_ i a b c⟩
theorem Fr.trans (h : Fr M0 M r g) (k : Fr M M' r g) : Fr M0 M' r g := ⟨Nat.le_trans h.le k.le, fun i a b c => (k.at_ i (Nat.lt_of_lt_of_le a h.le) b c).trans (h.at_ i a b c)⟩
theorem Same.fr (k : Same M M' r g) : Fr M M' r g := ⟨Nat.le_of_eq k.len.symm, fun i _ b c => k.at_ i b c⟩
theorem Fr.same (h : Fr M0 M r g) (k : Same M M' r g) : Fr M0 M' r g := h.trans (Same.fr k)
theorem Fr.set (h : Fr M0 M r g) (hp : M0.length ≤ p ∨ p = r ∨ p = g) : Fr M0 (M.set p o) r g :=
  ⟨by rw [List.length_set]; exact h.le, fun i a b c => by rw [List.getElem?_set_ne (by omega)]; exact h.at_ i a b c⟩
theorem Fr.out (h : Fr M0 M r g) : Same M0 (M.take M0.length) r g :=
  ⟨by have := h.le; rw [List.length_take]; omega, fun i a b => by
    by_cases c : i < M0.length
    · rw [List.getElem?_take_of_lt c]; exact h.at_ i c a b
    · rw [List.getElem?_eq_none (by rw [List.length_take]; omega), List.getElem?_eq_none (by omega)]⟩
theorem Fr.get (h : Fr M0 M r g) (e : M0[p]? = some o) (a : p ≠ r) (b : p ≠ g) : M[p]? = some o := by
  rw [h.at_ p (List.getElem?_eq_some_iff.mp e).1 a b]; exact e
/-- some bag -/
def BagAt (M : Mem) (r g : Nat) : Prop := ∃ gs c m, Bag M r g gs c m
theorem BagAt.lt (h : BagAt M r g) : r < M.length ∧ g < M.length := let ⟨_, _, _, b⟩ := h; b.lt
theorem BagAt.app (h : BagAt M r g) (N : Mem) : BagAt (M ++ N) r g := let ⟨a, b, c, d⟩ := h; ⟨a, b, c, d.app N⟩
theorem BagAt.at (h : BagAt M r g) (a : p ≠ r) (b : p ≠ g) : BagAt (M.set p o) r g := let ⟨x, y, z, d⟩ := h; ⟨x, y, z, d.at a b⟩
theorem BagAt.out (h : BagAt M r g) (h0 : BagAt M0 r g) : BagAt (M.take M0.length) r g := let ⟨x, y, z, d⟩ := h; let ⟨_, _, _, d0⟩ := h0; ⟨x, y, z, d.out d0⟩
end
theorem whl_inv {c : Env → Mem → R V} {b : Env → Mem → Rs} {J : Env → Mem → Prop} (I : Nat → Env → Mem → Prop)
    (hs : ∀ k σ M, I k σ M → ∃ M1, (c σ M = .ok (.bl true) M1 ∧ ∃ k' σ2 M2, b σ M1 = .nx σ2 M2 ∧ k' < k ∧ I k' σ2 M2) ∨ c σ M = .ok (.bl false) M1 ∧ J σ M1) :
    ∀ (F k : Nat) (σ : Env) (M : Mem), I k σ M → k < F → ∃ σ1 M1, whlL c b F σ M = .nx σ1 M1 ∧ J σ1 M1
  | 0, k, _, _, _, hf => by omega
  | F + 1, k, σ, M, h, hf => by
    obtain ⟨M1, ⟨e, k', σ2, M2, e2, hk, i⟩ | ⟨e, j⟩⟩ := hs k σ M h
    · obtain ⟨σ3, M3, e3, j⟩ := whl_inv I hs F k' σ2 M2 i (by omega)
      refine ⟨σ3, M3, ?_, j⟩
      simp only [whlL, e, R.toS_ok, e2, e3]
    · refine ⟨σ, M1, ?_, j⟩
      simp only [whlL, e, R.toS_ok]
theorem ev_iteV {C : Orc} {P : String → Option (List String)} {mk : Nat} {σ : Env} {M M1 : Mem} {cc a b : E} {q : Bool} {va vb : V} (h1 : ev P C mk cc σ M = .ok (.bl q) M1) (ha : ev P C mk a σ M1 = .ok va M1) (hb : ev P C mk b σ M1 = .ok vb M1) : ev P C mk (.ite cc a b) σ M = .ok (if q = true then va else vb) M1 := by
  apply ev_ite h1
  cases q
  · exact hb
  · exact ha
theorem recv_list {M : Mem} {i : Nat} {xs : List V} {m : Mt} (h : M[i]? = some (.lst xs)) (hm : hasM m .list = true) : recvOk M m (.ref i) = true := by
  simp only [recvOk, tyR, h, hm]
theorem len_items {M : Mem} {x : V} {xs : List V} (h : items M x = some xs) : prim M .len [x] = .ok (.int xs.length) M := by
  simp only [prim, prim1, pLen, h]
theorem len_ref {M : Mem} {i : Nat} {xs : List V} (h : M[i]? = some (.lst xs)) : prim M .len [.ref i] = .ok (.int xs.length) M := len_items (by simp only [items, h])
theorem index_items {M : Mem} {x v : V} {xs : List V} {k : Int} (h : dkeys M x = none) (hi : items M x = some xs) (h0 : 0 ≤ k) (hv : xs[k.toNat]? = some v) : index M x (.int k) = some v := by
  have hk := (List.getElem?_eq_some_iff.mp hv).1
  simp only [index, h, hi, nIx]
  rw [if_pos h0, if_pos (by omega), Option.bind_some, hv]
theorem tuple_ref {M : Mem} {i : Nat} {xs : List V} (h : M[i]? = some (.lst xs)) : prim M .tuple [.ref i] = .ok (.tup xs) M := by
  simp only [prim, prim1, pTuple, litems, h]
theorem popAt_run {mk : Nat} {M : Mem} {p : Nat} {xs : List V} {v : Int} {y : V} (h : M[p]? = some (.lst xs)) (h0 : 0 ≤ v) (hv : xs[v.toNat]? = some y) : meth mk M .popAt (.ref p) [.int v] = .ok y (M.set p (.lst (xs.eraseIdx v.toNat))) := by
  have hl := (List.getElem?_eq_some_iff.mp hv).1
  show mPopAt M p v = _
  simp only [mPopAt, h, nIx]
  rw [if_pos h0, if_pos (by omega), Option.bind_some, hv]
  rfl
theorem append_run {mk : Nat} {M : Mem} {p : Nat} {xs : List V} {y : V} (h : M[p]? = some (.lst xs)) (hw : wOk mk p y = true) (hz : xs.length < SZ) : meth mk M .append (.ref p) [y] = .ok .non (M.set p (.lst (xs ++ [y]))) := by
  show mAppend mk M p y = _
  simp only [mAppend, h, hw, decide_eq_true hz, Bool.and_self, if_true]
theorem erase_map {zs : List Int} {i : Nat} : (zs.map V.int).eraseIdx i = (zs.eraseIdx i).map V.int := by
  induction zs generalizing i with
  | nil => rfl
  | cons z zs ih => cases i with
    | zero => rfl
    | succ i => simp only [List.map_cons, List.eraseIdx_cons_succ, ih]
theorem pd_ints {n : Nat} {xs : List Int} : ∀ x ∈ xs.map V.int, pd n x := fun x hx => by obtain ⟨i, _, rfl⟩ := List.mem_map.mp hx; exact pd_int
theorem ne_nil {C : Orc} {P : String → Option (List String)} {mk i : Nat} {σ : Env} {M M1 : Mem} {xs : List V} {e : E} (he : ev P C mk e σ M = .ok (.ref i) M1) (h : M1[i]? = some (.lst xs)) (hx : ∀ x ∈ xs, pd 59 x) :
    ev P C mk (.cmp .ne e (.lst .nil)) σ M = .ok (.bl (!xs.isEmpty)) (M1 ++ [.lst []]) := by
  apply ev_cmp
  exact he
  repeat walk_at "pl"
  decide
  refine cmp_ne (reads_ref (by rw [List.getElem?_append_left (List.getElem?_eq_some_iff.mp h).1]; exact h) hx) (reads_new (by simp)) ?_
  rw [eqV_nil]
theorem cons_erase {α : Type} : ∀ {zs : List α} {i : Nat} (h : i < zs.length), (zs[i] :: zs.eraseIdx i).Perm zs
  | z :: zs, 0, _ => by simp
  | z :: zs, i + 1, h => by
    simp only [List.getElem_cons_succ, List.eraseIdx_cons_succ]
    exact (List.Perm.swap _ _ _).trans ((cons_erase (by simpa using h)).cons z)
theorem rOk_nat {k : Nat} (h : k ≤ 1000000) : rOk (k : Int) = true := by
  unfold rOk
  rw [decide_eq_true (by omega), decide_eq_true (by omega)]; rfl
theorem lrng_ok {k : Nat} (h : k ≤ 1000) : (rOk 0 && rOk (k : Int) && decide (((k : Int) - 0).toNat ≤ SZ)) = true := by
  rw [rOk_nat (by omega), decide_eq_true (by unfold SZ; omega)]; rfl
section
variable {D : String → Option Def} (hdraw : D "_law_draw" = some d__law_draw) (hpick : D "_law_pick" = some d__law_pick) (horder : D "_law_order" = some d__law_order)
include hdraw
theorem draw_w (n mk : Nat) {M : Mem} {r g : Nat} (h : BagAt M r g) (k : Int) (h1 : 1 ≤ k) (h2 : k.natAbs < 2 ^ 4000) :
    ∃ v M', callN D (n + 1) mk "_law_draw" [.ref r, .int k] M = .ok (.int v) M' ∧ BagAt M' r g ∧ Same M M' r g ∧ 0 ≤ v ∧ v < k := by
  obtain ⟨gs, c, m, hb⟩ := h
  have key := whl_inv (c := fun σ' M' => ev (parsOf D) (callN D n) M.length (.bop true (.cons (.cmp .eq (.idx (.var 0) (.cst (.int 1))) (.cst (.int 0))) (.cons (.cmp .ne (.idx (.var 0) (.cst (.int 0))) (.lst .nil)) .nil))) σ' M')
    (b := fun σ' M' => xss (parsOf D) (callN D n) M.length (.cons (.set (.nm 2) (.mt .pop (.idx (.var 0) (.cst (.int 0))) .nil))
    (.cons (.put (.var 0) (.cst (.int 1)) (.ite (.cmp .gt (.var 2) (.bin .pow (.cst (.int 10)) (.cst (.int 9)))) (.var 2) (.cst (.int 0))))
    .nil)) σ' M')
    (J := fun σ' M' => ∃ x gs c m, σ' = [some (.ref r), some (.int k), x, none] ∧ Bag M' r g gs c m ∧ Fr M M' r g)
    (fun j σ' M' => ∃ x gs c m, σ' = [some (.ref r), some (.int k), x, none] ∧ Bag M' r g gs c m ∧ Fr M M' r g ∧ gs.length = j)
    (by
      rintro j σ' M' ⟨x, gs, c, m, rfl, hb, hf, hj⟩
      by_cases hc : c = 0
      · subst hc
        have hA := hb.app [.lst []]
        have hcond : ev (parsOf D) (callN D n) M.length (.bop true (.cons (.cmp .eq (.idx (.var 0) (.cst (.int 1))) (.cst (.int 0))) (.cons (.cmp .ne (.idx (.var 0) (.cst (.int 0))) (.lst .nil)) .nil))) [some (.ref r), some (.int k), x, none] M' = .ok (.bl (!gs.isEmpty)) (M' ++ [.lst []]) := by
          apply ev_bop
          apply evb_cons
          apply ev_cmp
          repeat walk_at "pl"
          exact hb.i1
          repeat walk_at "pl"
          exact eq_int
          refine (if_pos rfl).trans ?_
          apply evb_one
          have := ne_nil (P := parsOf D) (C := callN D n) (mk := M.length) (σ := [some (.ref r), some (.int k), x, none]) (e := .idx (.var 0) (.cst (.int 0))) (ev_idx (ev_var rfl) ev_cst hb.i0) hb.l pd_ints
          rw [this]; cases gs <;> rfl
        refine ⟨M' ++ [.lst []], ?_⟩
        by_cases e : gs = []
        · subst e
          exact .inr ⟨hcond, x, [], 0, m, rfl, hA, hf.app _⟩
        · obtain ⟨fs, w, rfl⟩ : ∃ fs w, gs = fs ++ [w] := ⟨gs.dropLast, gs.getLast e, (List.dropLast_concat_getLast e).symm⟩
          have hpop : meth M.length (M' ++ [MO.lst []]) .pop (.ref g) [] = .ok (.int w) ((M' ++ [MO.lst []]).set g (.lst (fs.map .int))) := by
            show mPop _ g = _
            simp only [mPop, hA.l, List.map_append, List.map_cons, List.map_nil, List.getLast?_append, List.getLast?_singleton, Option.some_or, List.dropLast_concat]
          have zf : fs.length ≤ 1000 := by have := hb.z; rw [List.length_append, List.length_singleton] at this; omega
          have hP : Bag ((M' ++ [MO.lst []]).set g (.lst (fs.map .int))) r g fs 0 m := ⟨hb.ne, by rw [List.getElem?_set_ne (Ne.symm hb.ne)]; exact hA.d, by rw [List.getElem?_set_self hA.lt.2], zf⟩
          refine .inl ⟨hcond.trans (by cases fs <;> rfl), fs.length, [some (.ref r), some (.int k), some (.int w), none], ((M' ++ [MO.lst []]).set g (.lst (fs.map .int))).set r (.lst [.ref g, .int (if 1000000000 < w then w else 0), .int m]), ?_, by rw [← hj]; simp,
            some (.int w), fs, (if 1000000000 < w then w else 0), m, rfl, hP.s1, ((hf.app _).set (.inr (.inr rfl))).set (.inr (.inl rfl)), rfl⟩
          apply xss_nx
          apply xs_set
          apply ev_mt
          repeat walk_at "pl"
          exact hA.i0
          exact recv_list hA.l rfl
          repeat walk_at "pl"
          exact hpop
          exact asgM_nm
          apply xss_nx
          apply xs_put
          apply ev_iteV (q := decide (1000000000 < w))
          apply ev_cmp
          repeat walk_at "pl"
          rfl
          rfl
          exact ev_var rfl
          exact ev_cst
          exact ev_var rfl
          exact ev_cst
          have hif : (if decide (1000000000 < w) = true then V.int w else V.int 0) = V.int (if 1000000000 < w then w else 0) := by
            by_cases hw : 1000000000 < w <;> simp [hw]
          rw [hif]
          exact hP.p1
          exact xss_nil
      · refine ⟨M', .inr ⟨?_, x, gs, c, m, rfl, hb, hf⟩⟩
        apply ev_bop
        apply evb_cons (q := false)
        apply ev_cmp
        repeat walk_at "pl"
        exact hb.i1
        repeat walk_at "pl"
        refine eq_int.trans ?_
        rw [beq_eq_false_iff_ne.mpr hc]
        exact if_neg (by decide))
    FUEL gs.length [some (.ref r), some (.int k), none, none] M ⟨none, gs, c, m, rfl, hb, .refl, rfl⟩ (by have := hb.z; unfold FUEL; omega)
  obtain ⟨σ1, M1, hw, x, gs1, c1, m1, rfl, hb1, hf1⟩ := key
  by_cases hc : 0 < c1
  · refine ⟨c1 % k, (M1.set r (.lst [.ref g, .int (c1 / k), .int m1])).take M.length, ?_, ⟨gs1, c1 / k, m1, hb1.s1.out hb⟩, (hf1.set (.inr (.inl rfl))).out, Int.emod_nonneg _ (by omega), Int.emod_lt_of_pos _ (by omega)⟩
    apply call_rt (d := d__law_draw) hdraw rfl rfl
    apply xss_nx
    apply xs_whl
    exact hw
    apply xss_rt
    apply xs_iff (q := true)
    apply ev_cmp
    repeat walk_at "pl"
    exact hb1.i1
    repeat walk_at "pl"
    exact congrArg some (decide_eq_true hc)
    rw [if_pos rfl]
    apply xss_nx
    repeat walk_at "pl"
    exact hb1.i1
    repeat walk_at "pl"
    exact mod_i (by omega)
    exact asgM_nm
    apply xss_nx
    repeat walk_at "pl"
    exact hb1.i1
    repeat walk_at "pl"
    exact fdiv_w (by omega) h2
    repeat walk_at "pl"
    exact hb1.p1
    apply xss_rt
    repeat walk_at "pl"
    rfl
    rfl
  · let m2 := (m1 * 48271 + 11) % 2147483647
    have b2 := hb1.s1 (c' := c1) (m' := m2)
    have hm2 : 0 ≤ m2 ∧ m2 < 2147483647 := ⟨Int.emod_nonneg _ (by omega), Int.emod_lt_of_pos _ (by omega)⟩
    refine ⟨(m2 * m2 % 2147483629 / 7) % k, (M1.set r (.lst [.ref g, .int c1, .int m2])).take M.length, ?_, ⟨gs1, c1, m2, b2.out hb⟩, (hf1.set (.inr (.inl rfl))).out, Int.emod_nonneg _ (by omega), Int.emod_lt_of_pos _ (by omega)⟩
    apply call_rt (d := d__law_draw) hdraw rfl rfl
    apply xss_nx
    apply xs_whl
    exact hw
    apply xss_nx
    apply xs_iff (q := false)
    apply ev_cmp
    repeat walk_at "pl"
    exact hb1.i1
    repeat walk_at "pl"
    exact congrArg some (decide_eq_false hc)
    rw [if_neg (by decide)]
    exact xss_nil
    apply xss_nx
    repeat walk_at "pl"
    exact hb1.i2
    repeat walk_at "pl"
    exact mul_i (mulOk_r (by decide))
    repeat walk_at "pl"
    exact hb1.p2
    apply xss_rt
    repeat walk_at "pl"
    exact b2.i2
    repeat walk_at "pl"
    exact b2.i2
    refine mul_i (mulOk_r ?_)
    show m2.natAbs < 2 ^ 64
    omega
    repeat walk_at "pl"
    exact mod_i (by omega)
    rfl
    rfl
theorem draw_run (n mk : Nat) {M : Mem} {r g : Nat} (h : BagAt M r g) (k : Int) (h1 : 1 ≤ k) (h2 : k < 1000000000) :
    ∃ v M', callN D (n + 1) mk "_law_draw" [.ref r, .int k] M = .ok (.int v) M' ∧ BagAt M' r g ∧ Same M M' r g ∧ 0 ≤ v ∧ v < k :=
  draw_w hdraw n mk h k h1 (two_big (by omega))
include hpick
/-- a list or a tuple, of which one is picked -/
theorem pick_run (n mk : Nat) {M : Mem} {r g : Nat} (h : BagAt M r g) {x : V} {vs : List V} (hi : ∀ M', Same M M' r g → dkeys M' x = none ∧ items M' x = some vs) (h0 : vs ≠ []) (hz : vs.length < 1000000) (hf : ∀ v ∈ vs, ∀ M' : Mem, Same M M' r g → frz M' M.length RDN v = some v) :
    ∃ v M', callN D (n + 2) mk "_law_pick" [.ref r, x] M = .ok v M' ∧ BagAt M' r g ∧ Same M M' r g ∧ v ∈ vs := by
  have l0 : 0 < vs.length := List.length_pos_iff.mpr h0
  obtain ⟨k, M', hc, hd, hs, k0, k1⟩ := draw_run hdraw n M.length h (vs.length : Int) (by omega) (by omega)
  have hk : k.toNat < vs.length := by omega
  refine ⟨vs[k.toNat], M', ?_, hd, hs, List.getElem_mem hk⟩
  apply call_rt (d := d__law_pick) hpick rfl rfl
  apply xss_rt
  apply xs_ret
  apply ev_idx
  repeat walk_at "pl"
  exact len_items (hi M Same.refl).2
  repeat walk_at "pl"
  exact hc
  exact index_items (hi M' hs).1 (hi M' hs).2 k0 (List.getElem?_eq_getElem hk)
  exact hf _ (List.getElem_mem hk) M' hs
  rw [← hs.len]; simp
include horder
theorem order_run (n mk : Nat) {M : Mem} {r g : Nat} (h : BagAt M r g) (k : Nat) (hk : k ≤ 1000) :
    ∃ (ys : List Int) (M' : Mem), callN D (n + 2) mk "_law_order" [.ref r, .int k] M = .ok (.fl (ys.map .int)) M' ∧ BagAt M' r g ∧ Same M M' r g ∧ ys.Perm ((List.range k).map fun i : Nat => (i : Int)) := by
  have e1 : (M ++ [MO.lst (ranged 0 k)]).length = M.length + 1 := by simp
  have e0 : ranged 0 k = (((List.range k).map fun i : Nat => (i : Int)).map V.int) := by
    simp [ranged]
  have ltM := h.lt
  have key := whl_inv (c := fun σ' M' => ev (parsOf D) (callN D (n + 1)) M.length (.cmp .ne (.var 2) (.lst .nil)) σ' M')
    (b := fun σ' M' => xss (parsOf D) (callN D (n + 1)) M.length (.cons (.ex (.mt .append (.var 3) (.cons (.mt .popAt (.var 2) (.cons (.fn "_law_draw" (.cons (.var 0) (.cons (.pr .len (.cons (.var 2) .nil)) .nil))) .nil)) .nil))) .nil) σ' M')
    (J := fun σ' M' => σ' = [some (.ref r), some (.int k), some (.ref M.length), some (.ref (M.length + 1))] ∧ ∃ ys : List Int, BagAt M' r g ∧ Fr M M' r g ∧ M'[M.length + 1]? = some (.lst (ys.map .int)) ∧ ys.Perm ((List.range k).map fun i : Nat => (i : Int)))
    (fun j σ' M' => σ' = [some (.ref r), some (.int k), some (.ref M.length), some (.ref (M.length + 1))] ∧ ∃ (zs ys : List Int), BagAt M' r g ∧ Fr M M' r g ∧ M'[M.length]? = some (.lst (zs.map .int)) ∧ M'[M.length + 1]? = some (.lst (ys.map .int)) ∧ zs.length = j ∧ (ys ++ zs).Perm ((List.range k).map fun i : Nat => (i : Int)))
    (by
      rintro j σ' M' ⟨rfl, zs, ys, hd, hf, hp, hq, l1, hper⟩
      have hc0 := ne_nil (P := parsOf D) (C := callN D (n + 1)) (mk := M.length) (M := M') (σ := [some (.ref r), some (.int k), some (.ref M.length), some (.ref (M.length + 1))]) (e := .var 2) (ev_var rfl) hp pd_ints
      have lp := (List.getElem?_eq_some_iff.mp hp).1
      have lq := (List.getElem?_eq_some_iff.mp hq).1
      refine ⟨M' ++ [.lst []], ?_⟩
      by_cases hz : zs = []
      · subst hz
        refine .inr ⟨hc0, rfl, ys, hd.app _, hf.app _, ?_, by simpa using hper⟩
        rw [List.getElem?_append_left lq]; exact hq
      · have hl0 : 0 < zs.length := List.length_pos_iff.mpr hz
        have hlk : zs.length ≤ k := by
          have := hper.length_eq
          simp only [List.length_append, List.length_map, List.length_range] at this
          omega
        obtain ⟨v, M2, hc, hd2, hs2, v0, v1⟩ := draw_run hdraw n M.length (hd.app [.lst []]) (zs.length : Int) (by omega) (by omega)
        have hp2 : M2[M.length]? = some (.lst (zs.map .int)) := by
          rw [hs2.at_ _ (by omega) (by omega), List.getElem?_append_left lp]; exact hp
        have hq2 : M2[M.length + 1]? = some (.lst (ys.map .int)) := by
          rw [hs2.at_ _ (by omega) (by omega), List.getElem?_append_left lq]; exact hq
        have hv : v.toNat < zs.length := by omega
        have lM2 : M2.length = M'.length + 1 := by rw [hs2.len]; simp
        refine .inl ⟨hc0.trans (by cases zs with | nil => simp at hl0 | cons _ _ => rfl), (zs.eraseIdx v.toNat).length, _, (M2.set M.length (.lst ((zs.eraseIdx v.toNat).map .int))).set (M.length + 1) (.lst ((ys ++ [zs[v.toNat]]).map .int)), ?_, by rw [List.length_eraseIdx_of_lt hv]; omega, rfl,
          zs.eraseIdx v.toNat, ys ++ [zs[v.toNat]], (hd2.at (by omega) (by omega)).at (by omega) (by omega), (((hf.app _).same hs2).set (.inl (by omega))).set (.inl (by omega)), ?_, ?_, rfl, ?_⟩
        · apply xss_nx
          apply xs_ex
          apply ev_mt
          exact ev_var rfl
          exact recv_list (xs := ys.map .int) (by rw [List.getElem?_append_left lq]; exact hq) rfl
          apply evs_cons
          apply ev_mt
          exact ev_var rfl
          exact recv_list (xs := zs.map .int) (by rw [List.getElem?_append_left lp]; exact hp) rfl
          apply evs_cons
          apply ev_fn
          apply evs_cons
          exact ev_var rfl
          apply evs_cons
          apply ev_pr
          apply evs_cons
          exact ev_var rfl
          exact evs_nil
          refine len_ref (xs := zs.map .int) ?_
          rw [List.getElem?_append_left lp]; exact hp
          exact evs_nil
          rw [List.length_map]
          exact hc
          exact evs_nil
          refine popAt_run (y := .int zs[v.toNat]) hp2 v0 ?_
          simp [hv]
          exact evs_nil
          refine append_run (xs := ys.map .int) ?_ ?_ ?_
          rw [List.getElem?_set_ne (by omega)]; exact hq2
          simp [wOk, noref]
          have := hper.length_eq
          simp only [List.length_append, List.length_map, List.length_range] at this
          rw [List.length_map]; unfold SZ; omega
          rw [erase_map, List.map_append]
          exact xss_nil
        · rw [List.getElem?_set_ne (by omega), List.getElem?_set_self (by omega)]
        · rw [List.getElem?_set_self (by rw [List.length_set]; omega)]
        · refine List.Perm.trans ?_ hper
          rw [List.append_assoc]
          refine List.Perm.append_left ys ?_
          rw [List.singleton_append]
          exact cons_erase hv)
    FUEL k _ (M ++ [.lst (ranged 0 k)] ++ [.lst []])
    ⟨rfl, (List.range k).map fun i : Nat => (i : Int), [], (h.app _).app _, (Fr.refl.app _).app _, by rw [List.getElem?_append_left (by simp), ← e0]; exact at_end, by rw [← e1]; exact at_end, by simp, by simp⟩ (by unfold FUEL; omega)
  obtain ⟨σ1, M1, hw, rfl, ys, hd, hf, hq, hper⟩ := key
  refine ⟨ys, M1.take M.length, ?_, hd.out h, hf.out, hper⟩
  apply call_rt (d := d__law_order) horder rfl rfl
  apply xss_nx
  apply xs_par
  apply evs_cons
  apply ev_lrng
  exact ev_cst
  exact ev_var rfl
  exact lrng_ok hk
  apply evs_cons
  apply ev_lst
  exact evs_nil
  decide
  exact evs_nil
  rfl
  apply xss_nx
  apply xs_whl
  rw [show ((k : Int) - 0).toNat = k by omega, e1]
  exact hw
  apply xss_rt
  repeat walk_at "pl"
  exact frz_lst hq (by omega) fun x hx => (pd_ints (n := 0) x hx).2.1
  rfl
end
end PL.LB

/-! LB2: what is told alike; things, shapes. -/
namespace PL.LB
abbrev st (s : List Int) : V := .tup (s.map .int)
mutual
/-- tuples of tuples of whole numbers, of texts, of None -/
def sm : V → Bool
  | .int _ => true
  | .non => true
  | .str s => s.all fun c => decide (c < 1114112)
  | .tup xs => decide (xs.length ≤ SZ) && sms xs
  | _ => false
def sms : List V → Bool
  | [] => true
  | x :: xs => sm x && sms xs
end
theorem sms_all : ∀ {xs : List V}, sms xs = true ↔ ∀ x ∈ xs, sm x = true
  | [] => by simp [sms]
  | x :: xs => by simp [sms, sms_all (xs := xs)]
theorem sm_st {s : List Int} (h : s.length ≤ 1000) : sm (st s) = true := by
  simp only [sm, sms_all, Bool.and_eq_true, decide_eq_true_eq]
  refine ⟨by rw [List.length_map]; unfold SZ; omega, ?_⟩
  intro x hx; obtain ⟨i, _, rfl⟩ := List.mem_map.mp hx; rfl
theorem zip_self : ∀ xs : List V, zipped xs xs = xs.map fun x => .tup [x, x]
  | [] => rfl
  | x :: xs => by simp only [zipped, List.map_cons, zip_self xs]
theorem dep_mem : ∀ {xs : List V} {x : V}, x ∈ xs → dep x ≤ deps xs
  | y :: xs, x, h => by
    simp only [deps]
    rcases List.mem_cons.mp h with rfl | h
    · omega
    · have := dep_mem h; omega
theorem all_trues {M : Mem} {xs : List V} : prim (M ++ [MO.lst (xs.map fun _ => .bl true)]) .all [.ref M.length] = .ok (.bl true) (M ++ [MO.lst (xs.map fun _ => .bl true)]) := by
  simp only [prim, prim1, pBools, litems, at_end, Option.bind_some, bools_map]
  congr 2
  simp
theorem ev_isNq {C : Orc} {P : String → Option (List String)} {mk : Nat} {σ : Env} {M M1 : Mem} {a : E} {x : V} {n q : Bool} (h1 : ev P C mk a σ M = .ok x M1) (h2 : (if n then !decide (x = .non) else decide (x = .non)) = q) : ev P C mk (.isN n a) σ M = .ok (.bl q) M1 := h2 ▸ ev_isN h1
theorem ev_isBq {C : Orc} {P : String → Option (List String)} {mk : Nat} {σ : Env} {M M1 : Mem} {a : E} {x : V} {n k q : Bool} (h1 : ev P C mk a σ M = .ok x M1) (h2 : (if n then !isBV k x else isBV k x) = q) : ev P C mk (.isB n k a) σ M = .ok (.bl q) M1 := h2 ▸ ev_isB h1
section
variable {D : String → Option Def} (hsame : D "_law_same" = some d__law_same)
include hsame
theorem same_int (n mk : Nat) (M : Mem) (i : Int) : callN D (n + 1) mk "_law_same" [.int i, .int i] M = .ok (.bl true) M := by
  apply call_rt (d := d__law_same) hsame rfl rfl
  apply xss_nx
  apply xs_iff (q := false)
  apply ev_isi
  exact ev_var rfl
  rfl
  rfl
  refine (if_neg (by decide)).trans ?_
  exact xss_nil
  apply xss_nx
  apply xs_iff (q := false)
  apply ev_bop
  apply evb_cons (q := false)
  exact ev_isNq (ev_var rfl) rfl
  refine (if_pos rfl).trans ?_
  apply evb_cons (q := false)
  exact ev_isBq (ev_var rfl) rfl
  refine (if_pos rfl).trans ?_
  apply evb_one
  exact ev_isBq (ev_var rfl) rfl
  refine (if_neg (by decide)).trans ?_
  exact xss_nil
  apply xss_rt
  apply xs_iff (q := true)
  apply ev_isi
  exact ev_var rfl
  rfl
  rfl
  refine (if_pos rfl).trans ?_
  apply xss_rt
  apply xs_ret
  apply ev_bop
  apply evb_cons (q := true)
  apply ev_isi
  exact ev_var rfl
  rfl
  rfl
  refine (if_pos rfl).trans ?_
  apply evb_cons (q := true)
  apply ev_not (j := false)
  apply ev_isi
  exact ev_var rfl
  rfl
  rfl
  refine (if_pos rfl).trans ?_
  apply evb_one (q := true)
  apply ev_cmp
  exact ev_var rfl
  exact ev_var rfl
  rw [eq_int]; simp
  rfl
  simp
theorem same_non (n mk : Nat) (M : Mem) : callN D (n + 1) mk "_law_same" [.non, .non] M = .ok (.bl true) M := by
  apply call_rt (d := d__law_same) hsame rfl rfl
  apply xss_nx
  apply xs_iff (q := false)
  apply ev_isi
  exact ev_var rfl
  rfl
  rfl
  refine (if_neg (by decide)).trans ?_
  exact xss_nil
  apply xss_rt
  apply xs_iff (q := true)
  apply ev_bop
  apply evb_cons (q := true)
  exact ev_isNq (ev_var rfl) rfl
  exact if_neg (by decide)
  refine (if_pos rfl).trans ?_
  apply xss_rt
  apply xs_ret
  apply ev_ite (q := true)
  exact ev_isNq (ev_var rfl) rfl
  refine (if_pos rfl).trans ?_
  exact ev_isNq (q := true) (ev_var rfl) rfl
  rfl
  simp
theorem same_str (n mk : Nat) (M : Mem) {x : List Nat} (hx : (x.all fun c => decide (c < 1114112)) = true) : callN D (n + 1) mk "_law_same" [.str x, .str x] M = .ok (.bl true) M := by
  have hp : pd 60 (.str x) := ⟨rfl, by simp only [plain]; exact hx, Nat.zero_le _⟩
  apply call_rt (d := d__law_same) hsame rfl rfl
  apply xss_nx
  apply xs_iff (q := false)
  apply ev_isi
  exact ev_var rfl
  rfl
  rfl
  refine (if_neg (by decide)).trans ?_
  exact xss_nil
  apply xss_nx
  apply xs_iff (q := false)
  apply ev_bop
  apply evb_cons (q := false)
  exact ev_isNq (ev_var rfl) rfl
  refine (if_pos rfl).trans ?_
  apply evb_cons (q := false)
  exact ev_isBq (ev_var rfl) rfl
  refine (if_pos rfl).trans ?_
  apply evb_one
  exact ev_isBq (ev_var rfl) rfl
  refine (if_neg (by decide)).trans ?_
  exact xss_nil
  apply xss_nx
  apply xs_iff (q := false)
  apply ev_isi
  exact ev_var rfl
  rfl
  rfl
  refine (if_neg (by decide)).trans ?_
  exact xss_nil
  apply xss_rt
  apply xs_ret
  apply ev_bop
  apply evb_cons (q := true)
  apply ev_isi
  exact ev_var rfl
  rfl
  rfl
  refine (if_pos rfl).trans ?_
  apply evb_one (q := true)
  apply ev_cmp
  exact ev_var rfl
  exact ev_var rfl
  refine cmp_eq (reads_pd hp) (reads_pd hp) ?_
  simp [eqV]
  rfl
  simp
theorem same_run (k : Nat) : ∀ (d mk : Nat) (M : Mem) (v : V), sm v = true → dep v ≤ d → callN D (k + d + 1) mk "_law_same" [v, v] M = .ok (.bl true) M := by
  intro d
  induction d with
  | zero =>
    intro mk M v hv hd
    cases v with
    | int i =>
      exact same_int hsame _ mk M i
    | non => exact same_non hsame _ mk M
    | str x => exact same_str hsame _ mk M (by simpa only [sm] using hv)
    | tup xs => simp [dep] at hd
    | _ => simp [sm] at hv
  | succ d ih =>
    intro mk M v hv hd
    cases v with
    | int i =>
      exact same_int hsame _ mk M i
    | non => exact same_non hsame _ mk M
    | str x => exact same_str hsame _ mk M (by simpa only [sm] using hv)
    | tup xs =>
      simp only [sm, Bool.and_eq_true, decide_eq_true_eq] at hv
      simp only [dep] at hd
      obtain ⟨hz, hv⟩ := hv
      have hcomp := fun hz => compL_enc (w := []) (t := .tp (.cons (.nm 2) (.cons (.nm 3) .nil))) (c := fun σ' M' => evc (parsOf D) (callN D (k + (d + 1))) M.length .none σ' M') (e := fun σ' M' => ev (parsOf D) (callN D (k + (d + 1))) M.length (.fn "_law_same" (.cons (.var 2) (.cons (.var 3) .nil))) σ' M')
        (σ := [some (.tup xs), some (.tup xs), none, none]) (M := M) (fun x : V => .tup [x, x]) (fun _ => true) (fun _ => .bl true) xs []
        (fun _ => rfl) (fun x hx => ⟨[some (.tup xs), some (.tup xs), some x, some x], rfl, fun acc => ⟨evc_none, fun _ =>
          ev_fn (evs_cons (ev_var rfl) (evs_cons (ev_var rfl) evs_nil)) (ih _ _ x (sms_all.mp hv x hx) (by have := dep_mem hx; omega))⟩⟩) hz
      apply call_rt (d := d__law_same) hsame rfl rfl
      apply xss_rt
      apply xs_iff (q := true)
      apply ev_isi
      exact ev_var rfl
      rfl
      rfl
      refine (if_pos rfl).trans ?_
      apply xss_nx
      apply xs_iff (q := false)
      apply ev_bop
      apply evb_cons (q := false)
      apply ev_not (j := true)
      apply ev_isi
      exact ev_var rfl
      rfl
      rfl
      refine (if_pos rfl).trans ?_
      apply evb_one (q := false)
      apply ev_cmp
      apply ev_pr
      repeat walk_at "pl"
      exact len_items rfl
      apply ev_pr
      repeat walk_at "pl"
      exact len_items rfl
      rw [ne_int]; simp
      refine (if_neg (by decide)).trans ?_
      exact xss_nil
      apply xss_rt
      apply xs_ret
      apply ev_pr
      apply evs_cons
      apply ev_comp (s := (xs.map fun x => .tup [x, x], []))
      simp only [evi, ev, lk, R.bind_ok, srcZ, srcOf, envOf, List.map_cons, List.cons_append, isT, if_true, zip_self, List.append_nil]
      rfl
      exact hcomp (by simpa using hz)
      exact evs_nil
      rw [List.nil_append, filter_true]
      exact all_trues
      rfl
      simp
    | _ => simp [sm] at hv
end
end PL.LB

/-! LBP: rows, their things and shapes, copies: plain. -/
namespace PL.LB
theorem mem_insI {x y : Int} : ∀ {l : List Int}, y ∈ insI x l ↔ y = x ∨ y ∈ l
  | [] => by simp [insI]
  | z :: l => by
    unfold insI
    split
    · simp
    · simp only [List.mem_cons, mem_insI (l := l)]
      constructor
      · rintro (h | h | h)
        · exact .inr (.inl h)
        · exact .inl h
        · exact .inr (.inr h)
      · rintro (h | h | h)
        · exact .inr (.inl h)
        · exact .inl h
        · exact .inr (.inr h)
theorem mem_sortI {y : Int} : ∀ {l : List Int}, y ∈ sortI l ↔ y ∈ l
  | [] => by simp [sortI]
  | x :: l => by unfold sortI; rw [mem_insI, mem_sortI, List.mem_cons]
theorem mem_dedup {y : Int} : ∀ {l : List Int}, y ∈ dedup l ↔ y ∈ l
  | [] => by simp [dedup]
  | x :: l => by
    unfold dedup
    split
    · rename_i h
      rw [mem_dedup, List.mem_cons]
      refine ⟨.inr, ?_⟩
      rintro (rfl | h')
      · simpa using h
      · exact h'
    · rw [List.mem_cons, List.mem_cons, mem_dedup]
theorem nodup_dedup : ∀ {l : List Int}, (dedup l).Nodup
  | [] => by simp [dedup]
  | x :: l => by
    unfold dedup
    split
    · exact nodup_dedup
    · rename_i h
      exact List.nodup_cons.mpr ⟨fun h' => h (by simpa using mem_dedup.mp h'), nodup_dedup⟩
theorem up_insI {x : Int} : ∀ {l : List Int}, l.Pairwise (· < ·) → x ∉ l → (insI x l).Pairwise (· < ·)
  | [], _, _ => by simp [insI]
  | y :: l, h, k => by
    have hy := List.pairwise_cons.mp h
    have ne : x ≠ y := fun e => k (e ▸ List.mem_cons_self ..)
    unfold insI
    split
    · rename_i c
      refine List.pairwise_cons.mpr ⟨fun z hz => ?_, h⟩
      rcases List.mem_cons.mp hz with rfl | hz
      · omega
      · have := hy.1 z hz; omega
    · rename_i c
      refine List.pairwise_cons.mpr ⟨fun z hz => ?_, up_insI hy.2 fun e => k (List.mem_cons_of_mem _ e)⟩
      rcases mem_insI.mp hz with rfl | hz
      · omega
      · exact hy.1 z hz
theorem up_sortI : ∀ {l : List Int}, l.Nodup → (sortI l).Pairwise (· < ·)
  | [], _ => by simp [sortI]
  | x :: l, h => by
    have hh := List.nodup_cons.mp h
    unfold sortI
    exact up_insI (up_sortI hh.2) fun e => hh.1 (mem_sortI.mp e)
theorem up_ext : ∀ {l k : List Int}, l.Pairwise (· < ·) → k.Pairwise (· < ·) → (∀ x, x ∈ l ↔ x ∈ k) → l = k
  | [], [], _, _, _ => rfl
  | [], y :: k, _, _, h => absurd ((h y).mpr (List.mem_cons_self ..)) (by simp)
  | x :: l, [], _, _, h => absurd ((h x).mp (List.mem_cons_self ..)) (by simp)
  | x :: l, y :: k, hl, hk, h => by
    have a := List.pairwise_cons.mp hl
    have b := List.pairwise_cons.mp hk
    have e : x = y := by
      have h1 := List.mem_cons.mp ((h x).mp (List.mem_cons_self ..))
      have h2 := List.mem_cons.mp ((h y).mpr (List.mem_cons_self ..))
      rcases h1 with h1 | h1
      · exact h1
      · rcases h2 with h2 | h2
        · exact h2.symm
        · have := b.1 x h1; have := a.1 y h2; omega
    subst e
    congr 1
    refine up_ext a.2 b.2 fun z => ⟨fun hz => ?_, fun hz => ?_⟩
    · rcases List.mem_cons.mp ((h z).mp (List.mem_cons_of_mem _ hz)) with e | e
      · have := a.1 z hz; omega
      · exact e
    · rcases List.mem_cons.mp ((h z).mpr (List.mem_cons_of_mem _ hz)) with e | e
      · have := b.1 z hz; omega
      · exact e

/-! ### things -/
def things (s : List Int) : List Int := (s.zipIdx.filter fun q => !(s.take q.2).contains q.1).map (·.1)
theorem mem_zip_lt {α : Type} {l : List α} {q : α × Nat} (h : q ∈ l.zipIdx) : q.2 < l.length ∧ l[q.2]? = some q.1 := by
  obtain ⟨x, i⟩ := q
  have h1 := List.mem_zipIdx h
  simp only [Nat.zero_add, Nat.sub_zero] at h1
  exact ⟨h1.2.1, (List.getElem?_eq_getElem h1.2.1).trans (congrArg some h1.2.2.symm)⟩
theorem things_snoc (s : List Int) (x : Int) : things (s ++ [x]) = things s ++ if x ∈ s then [] else [x] := by
  unfold things
  rw [List.zipIdx_append, List.filter_append, List.map_append]
  congr 1
  · congr 1
    refine List.filter_congr fun q hq => ?_
    rw [List.take_append_of_le_length (Nat.le_of_lt (mem_zip_lt hq).1)]
  · simp only [List.zipIdx_cons, List.zipIdx_nil, Nat.zero_add]
    by_cases h : x ∈ s
    · simp [h]
    · simp [h]
theorem snoc_ind {α : Type} {P : List α → Prop} (h0 : P []) (h1 : ∀ s x, P s → P (s ++ [x])) (s : List α) : P s := by
  have : ∀ t : List α, P t.reverse := fun t => by
    induction t with
    | nil => exact h0
    | cons x t ih => rw [List.reverse_cons]; exact h1 _ _ ih
  have h := this s.reverse
  rwa [List.reverse_reverse] at h
theorem mem_things {x : Int} (s : List Int) : x ∈ things s ↔ x ∈ s := by
  induction s using snoc_ind with
  | h0 => simp [things]
  | h1 s y ih =>
    rw [things_snoc, List.mem_append, ih, List.mem_append, List.mem_singleton]
    by_cases h : y ∈ s
    · rw [if_pos h]; simp only [List.not_mem_nil, or_false]
      exact ⟨.inl, fun h' => h'.elim id fun e => e ▸ h⟩
    · rw [if_neg h, List.mem_singleton]
theorem things_nodup (s : List Int) : (things s).Nodup := by
  induction s using snoc_ind with
  | h0 => exact .nil
  | h1 s y ih =>
    rw [things_snoc]
    by_cases h : y ∈ s
    · rw [if_pos h, List.append_nil]; exact ih
    · rw [if_neg h, List.nodup_append]
      refine ⟨ih, by simp, fun a ha b hb => ?_⟩
      rw [List.mem_singleton.mp hb]
      exact fun e => h ((mem_things s).mp (e ▸ ha))
theorem things_le (s : List Int) : (things s).length ≤ s.length := by
  unfold things
  rw [List.length_map]
  exact Nat.le_trans (List.length_filter_le _ _) (by simp)
theorem sort_things {s t : List Int} (h : ∀ x, x ∈ s ↔ x ∈ t) : sortI (things s) = sortI (things t) :=
  up_ext (up_sortI (things_nodup s)) (up_sortI (things_nodup t)) fun x => by rw [mem_sortI, mem_sortI, mem_things, mem_things, h]
def shape (s : List Int) : List Int := s.map fun x => ((things s).idxOf x : Int)
theorem shape_len (s : List Int) : (shape s).length = s.length := by simp [shape]
def thingAt (T : List Int) (k : Int) : Int := T.getD k.toNat 0
theorem things_back {s : List Int} {x : Int} (h : x ∈ s) : thingAt (things s) ((things s).idxOf x : Int) = x := by
  unfold thingAt
  have hl := List.idxOf_lt_length_of_mem ((mem_things s).mpr h)
  rw [Int.toNat_natCast, List.getD, List.getElem?_eq_getElem hl]
  simp
theorem shape_back (s : List Int) : (shape s).map (thingAt (things s)) = s := by
  unfold shape
  rw [List.map_map]
  conv => rhs; rw [← List.map_id s]
  exact List.map_congr_left fun x hx => things_back hx
/-! ### copies -/
def doneL (s : List Int) (a b : Nat) : List Int := s.set b (s.getD a 0)
theorem doneL_len (s : List Int) (a b : Nat) : (doneL s a b).length = s.length := by simp [doneL]
theorem doneL_map (f : Int → Int) {s : List Int} {a b : Nat} (ha : a < s.length) : (doneL s a b).map f = doneL (s.map f) a b := by
  unfold doneL
  rw [List.map_set]
  congr 1
  simp [List.getD, ha]
theorem entry_eq {s : List Int} {a b : Nat} (ha : a < s.length) : (doneL (shape s) a b).map (thingAt (things s)) = doneL s a b := by
  rw [doneL_map _ (by rw [shape_len]; exact ha), shape_back]
theorem getD_eq {s : List Int} {i : Nat} (h : i < s.length) : s.getD i 0 = s[i] := by simp [List.getD, h]
theorem getD_mem {s : List Int} {i : Nat} (h : i < s.length) : s.getD i 0 ∈ s := by rw [getD_eq h]; exact List.getElem_mem h
theorem doneL_b {s : List Int} {a b : Nat} (hb : b < s.length) : (doneL s a b).getD b 0 = s.getD a 0 := by
  rw [getD_eq (by rw [doneL_len]; exact hb)]; simp [doneL]
theorem doneL_ne {s : List Int} {a b i : Nat} (h : i ≠ b) : (doneL s a b).getD i 0 = s.getD i 0 := by
  simp only [List.getD, doneL, List.getElem?_set_ne (Ne.symm h)]
theorem two_of_count {s : List Int} {v : Int} {b : Nat} (hb : b < s.length) (hv : s.getD b 0 = v) (h : 1 < s.countP fun x => x == v) : ∃ i, i < s.length ∧ i ≠ b ∧ s.getD i 0 = v := by
  have hs : s = s.take b ++ s[b] :: s.drop (b + 1) := by simp
  have hc : (s.take b).countP (fun x => x == v) + (s.drop (b + 1)).countP (fun x => x == v) + 1 = s.countP fun x => x == v := by
    conv => rhs; rw [hs]
    rw [List.countP_append, List.countP_cons]
    rw [getD_eq hb] at hv
    simp [hv]; omega
  have : 0 < (s.take b).countP (fun x => x == v) ∨ 0 < (s.drop (b + 1)).countP (fun x => x == v) := by omega
  rcases this with h | h
  · obtain ⟨x, hx, e⟩ := List.countP_pos_iff.mp h
    obtain ⟨i, hi, e2⟩ := List.mem_iff_getElem.mp hx
    rw [List.length_take] at hi
    refine ⟨i, by omega, by omega, ?_⟩
    rw [getD_eq (by omega)]
    rw [List.getElem_take] at e2
    rw [e2]; exact eq_of_beq e
  · obtain ⟨x, hx, e⟩ := List.countP_pos_iff.mp h
    obtain ⟨i, hi, e2⟩ := List.mem_iff_getElem.mp hx
    rw [List.length_drop] at hi
    refine ⟨b + 1 + i, by omega, by omega, ?_⟩
    rw [getD_eq (by omega)]
    rw [List.getElem_drop] at e2
    rw [e2]; exact eq_of_beq e
theorem count_of_two {s : List Int} {v : Int} {a b : Nat} (ha : a < s.length) (hb : b < s.length) (hne : a ≠ b) (h1 : s.getD a 0 = v) (h2 : s.getD b 0 = v) : 1 < s.countP fun x => x == v := by
  rcases Nat.lt_or_gt_of_ne hne with h | h
  · have hs : s = s.take b ++ s.drop b := by simp
    rw [hs, List.countP_append]
    have q1 : 0 < (s.take b).countP fun x => x == v := List.countP_pos_iff.mpr ⟨s[a], by
      rw [List.mem_iff_getElem]; exact ⟨a, by rw [List.length_take]; omega, by rw [List.getElem_take]⟩, by rw [← getD_eq ha, h1]; exact beq_self_eq_true v⟩
    have q2 : 0 < (s.drop b).countP fun x => x == v := List.countP_pos_iff.mpr ⟨s[b], by
      rw [List.mem_iff_getElem]; exact ⟨0, by rw [List.length_drop]; omega, by rw [List.getElem_drop]; simp⟩, by rw [← getD_eq hb, h2]; exact beq_self_eq_true v⟩
    omega
  · have hs : s = s.take a ++ s.drop a := by simp
    rw [hs, List.countP_append]
    have q1 : 0 < (s.take a).countP fun x => x == v := List.countP_pos_iff.mpr ⟨s[b], by
      rw [List.mem_iff_getElem]; exact ⟨b, by rw [List.length_take]; omega, by rw [List.getElem_take]⟩, by rw [← getD_eq hb, h2]; exact beq_self_eq_true v⟩
    have q2 : 0 < (s.drop a).countP fun x => x == v := List.countP_pos_iff.mpr ⟨s[a], by
      rw [List.mem_iff_getElem]; exact ⟨0, by rw [List.length_drop]; omega, by rw [List.getElem_drop]; simp⟩, by rw [← getD_eq ha, h1]; exact beq_self_eq_true v⟩
    omega
/-- a may be copied to b -/
structure Cp (s : List Int) (a b : Nat) : Prop where
  la : a < s.length
  lb : b < s.length
  ne : s.getD a 0 ≠ s.getD b 0
  two : 1 < s.countP fun x => x == s.getD b 0
theorem Cp.mem {s : List Int} {a b : Nat} (h : Cp s a b) (x : Int) : x ∈ doneL s a b ↔ x ∈ s := by
  obtain ⟨i, hi, hib, hv⟩ := two_of_count h.lb rfl h.two
  constructor
  · intro hx
    unfold doneL at hx
    rcases List.mem_or_eq_of_mem_set hx with hx | rfl
    · exact hx
    · exact getD_mem h.la
  · intro hx
    obtain ⟨j, hj, rfl⟩ := List.mem_iff_getElem.mp hx
    by_cases e : j = b
    · subst e
      have : s[j] = (doneL s a j).getD i 0 := by rw [doneL_ne hib, hv, getD_eq hj]
      rw [this]; exact getD_mem (by rw [doneL_len]; exact hi)
    · have : s[j] = (doneL s a b).getD j 0 := by rw [doneL_ne e, getD_eq hj]
      rw [this]; exact getD_mem (by rw [doneL_len]; exact hj)
/-- the copy back -/
def bk (row entry : List Int) (b : Nat) : Nat := entry.idxOf (row.getD b 0)
theorem idxOf_getD {s : List Int} {x : Int} (h : x ∈ s) : s.idxOf x < s.length ∧ s.getD (s.idxOf x) 0 = x := by
  have hl := List.idxOf_lt_length_of_mem h
  exact ⟨hl, by rw [getD_eq hl]; simp⟩
theorem Cp.hbk {s : List Int} {a b : Nat} (h : Cp s a b) : bk s (doneL s a b) b < s.length ∧ (doneL s a b).getD (bk s (doneL s a b) b) 0 = s.getD b 0 := by
  have := idxOf_getD ((h.mem (s.getD b 0)).mpr (getD_mem h.lb))
  rw [doneL_len] at this
  exact this
theorem Cp.back {s : List Int} {a b : Nat} (h : Cp s a b) : doneL (doneL s a b) (bk s (doneL s a b) b) b = s := by
  have := h.hbk.2
  show (doneL s a b).set b ((doneL s a b).getD (bk s (doneL s a b) b) 0) = s
  rw [this]
  show (s.set b (s.getD a 0)).set b _ = s
  rw [List.set_set, getD_eq h.lb, List.set_getElem_self]
theorem Cp.backT {s : List Int} {a b : Nat} (h : Cp s a b) : (doneL (shape (doneL s a b)) (bk s (doneL s a b) b) b).map (thingAt (things (doneL s a b))) = s := by
  rw [entry_eq (by rw [doneL_len]; exact h.hbk.1), h.back]
/-! ### canonical rows -/
def mx : List Int → Int
  | [] => 0
  | x :: r => maxI x r
structure Canon (s : List Int) (N : Nat) : Prop where
  pos : 0 < N
  rng : ∀ x ∈ s, 0 ≤ x ∧ x < N
  all : ∀ k : Nat, k < N → (k : Int) ∈ s
theorem maxI_le {K : Int} : ∀ {xs : List Int} {i : Int}, i ≤ K → (∀ x ∈ xs, x ≤ K) → maxI i xs ≤ K
  | [], i, h, _ => h
  | x :: xs, i, h, k => by
    have hx := k x (List.mem_cons_self ..)
    exact maxI_le (i := max i x) (by omega) fun y hy => k y (List.mem_cons_of_mem _ hy)
theorem maxI_ge : ∀ {xs : List Int} {i : Int}, i ≤ maxI i xs ∧ ∀ x ∈ xs, x ≤ maxI i xs
  | [], i => ⟨Int.le_refl _, by simp⟩
  | x :: xs, i => by
    have ⟨h1, h2⟩ := maxI_ge (xs := xs) (i := max i x)
    refine ⟨?_, fun y hy => ?_⟩
    · show i ≤ maxI (max i x) xs
      omega
    · show y ≤ maxI (max i x) xs
      rcases List.mem_cons.mp hy with rfl | hy
      · omega
      · exact h2 y hy
theorem Canon.ne {s : List Int} {N : Nat} (h : Canon s N) : s ≠ [] := fun e => by
  have := h.all 0 h.pos
  rw [e] at this; cases this
theorem Canon.mx {s : List Int} {N : Nat} (h : Canon s N) : mx s = N - 1 := by
  have hp := h.pos
  have hN := h.all (N - 1) (by omega)
  cases s with
  | nil => cases hN
  | cons x r =>
    have h1 : maxI x r ≤ N - 1 := maxI_le (by have := h.rng x (List.mem_cons_self ..); omega) fun y hy => by have := h.rng y (List.mem_cons_of_mem _ hy); omega
    have h2 : ((N - 1 : Nat) : Int) ≤ maxI x r := by
      rcases List.mem_cons.mp hN with e | e
      · rw [e]; exact maxI_ge.1
      · exact maxI_ge.2 _ e
    show maxI x r = N - 1
    omega
theorem shape_canon {s : List Int} (h : s ≠ []) : Canon (shape s) (things s).length := by
  have hne : things s ≠ [] := by
    cases s with
    | nil => exact absurd rfl h
    | cons x s => exact fun e => by have := (mem_things (x :: s)).mpr (List.mem_cons_self ..); rw [e] at this; cases this
  refine ⟨List.length_pos_iff.mpr hne, fun x hx => ?_, fun k hk => ?_⟩
  · obtain ⟨y, hy, rfl⟩ := List.mem_map.mp hx
    have := List.idxOf_lt_length_of_mem ((mem_things s).mpr hy)
    omega
  · refine List.mem_map.mpr ⟨(things s)[k], (mem_things s).mp (List.getElem_mem hk), ?_⟩
    rw [(things_nodup s).idxOf_getElem]
def frs (s : List Int) : List Nat := (List.range (mx s + 1).toNat).map fun k : Nat => s.idxOf (k : Int)
def cpa (s : List Int) (a : Nat) : List (Nat × Nat) := (s.zipIdx.filter fun q => q.1 != s.getD a 0 && decide (1 < s.countP fun x => x == q.1)).map fun q => (a, q.2)
def cps (s : List Int) : List (Nat × Nat) := (frs s).flatMap (cpa s)
theorem mem_cpa {s : List Int} {a a' b : Nat} : (a', b) ∈ cpa s a ↔ a' = a ∧ b < s.length ∧ s.getD b 0 ≠ s.getD a 0 ∧ 1 < s.countP fun x => x == s.getD b 0 := by
  unfold cpa
  rw [List.mem_map]
  constructor
  · rintro ⟨⟨x, i⟩, h, e⟩
    rw [List.mem_filter] at h
    obtain ⟨h1, h2⟩ := mem_zip_lt h.1
    simp only [Prod.mk.injEq] at e
    obtain ⟨rfl, rfl⟩ := e
    have e3 : s.getD i 0 = x := by rw [List.getD, h2]; rfl
    simp only [Bool.and_eq_true, bne_iff_ne, ne_eq, decide_eq_true_eq] at h
    exact ⟨rfl, h1, by rw [e3]; exact h.2.1, by rw [e3]; exact h.2.2⟩
  · rintro ⟨rfl, h1, h2, h3⟩
    refine ⟨(s.getD b 0, b), ?_, rfl⟩
    rw [List.mem_filter]
    refine ⟨?_, ?_⟩
    · rw [List.mem_zipIdx_iff_getElem?, List.getElem?_eq_getElem h1, getD_eq h1]
    · simp only [Bool.and_eq_true, bne_iff_ne, ne_eq, decide_eq_true_eq]
      exact ⟨h2, h3⟩
theorem mem_cps {s : List Int} {N a b : Nat} (h : Canon s N) : (a, b) ∈ cps s ↔ Cp s a b ∧ a = s.idxOf (s.getD a 0) := by
  unfold cps frs
  rw [List.mem_flatMap]
  constructor
  · rintro ⟨a', ha, hb⟩
    obtain ⟨rfl, h1, h2, h3⟩ := mem_cpa.mp hb
    obtain ⟨k, hk, rfl⟩ := List.mem_map.mp ha
    rw [List.mem_range, h.mx] at hk
    obtain ⟨q1, q2⟩ := idxOf_getD (h.all k (by omega))
    exact ⟨⟨q1, h1, Ne.symm h2, h3⟩, by rw [q2]⟩
  · rintro ⟨hc, e⟩
    refine ⟨a, ?_, mem_cpa.mpr ⟨rfl, hc.lb, Ne.symm hc.ne, hc.two⟩⟩
    obtain ⟨h1, h2⟩ := h.rng _ (getD_mem hc.la)
    refine List.mem_map.mpr ⟨(s.getD a 0).toNat, ?_, ?_⟩
    · rw [List.mem_range, h.mx]; omega
    · rw [Int.toNat_of_nonneg h1]; exact e.symm
theorem idxOf_map {f : Int → Int} : ∀ {s : List Int} {x : Int}, (∀ y ∈ s, f y = f x → y = x) → (s.map f).idxOf (f x) = s.idxOf x
  | [], _, _ => rfl
  | y :: s, x, h => by
    rw [List.map_cons, List.idxOf_cons, List.idxOf_cons]
    by_cases e : y = x
    · subst e; simp
    · have : ¬ f y = f x := fun z => e (h y (List.mem_cons_self ..) z)
      simp only [beq_eq_false_iff_ne.mpr e, beq_eq_false_iff_ne.mpr this, cond_false]
      rw [idxOf_map fun z hz => h z (List.mem_cons_of_mem _ hz)]
theorem shape_at {s : List Int} {i : Nat} (h : i < s.length) : (shape s).getD i 0 = ((things s).idxOf (s.getD i 0) : Int) := by
  rw [getD_eq (by rw [shape_len]; exact h), getD_eq h]; simp [shape]
theorem shape_inj {s : List Int} {x y : Int} (hx : x ∈ s) (hy : y ∈ s) (e : ((things s).idxOf x : Int) = ((things s).idxOf y : Int)) : x = y := by
  rw [← things_back hx, e, things_back hy]
theorem shape_count {s : List Int} {v : Int} (hv : v ∈ s) : (shape s).countP (fun x => x == ((things s).idxOf v : Int)) = s.countP fun x => x == v := by
  unfold shape
  rw [List.countP_map]
  refine List.countP_congr fun x hx => ?_
  simp only [Function.comp, beq_iff_eq]
  exact ⟨fun e => shape_inj hx hv e, fun e => by rw [e]⟩
theorem Cp.toShape {s : List Int} {a b : Nat} (h : Cp s a b) : Cp (shape s) a b := by
  refine ⟨by rw [shape_len]; exact h.la, by rw [shape_len]; exact h.lb, ?_, ?_⟩
  · rw [shape_at h.la, shape_at h.lb]
    exact fun e => h.ne (shape_inj (getD_mem h.la) (getD_mem h.lb) e)
  · rw [shape_at h.lb, shape_count (getD_mem h.lb)]; exact h.two
theorem Cp.of_shape {s : List Int} {a b : Nat} (h : Cp (shape s) a b) : Cp s a b := by
  have ha : a < s.length := by have := h.la; rwa [shape_len] at this
  have hb : b < s.length := by have := h.lb; rwa [shape_len] at this
  have h3 := h.ne
  have h4 := h.two
  rw [shape_at ha, shape_at hb] at h3
  rw [shape_at hb, shape_count (getD_mem hb)] at h4
  exact ⟨ha, hb, fun e => h3 (by rw [e]), h4⟩
/-- the copy back is one of the copies of the shape -/
theorem Cp.back_in {s : List Int} {a b : Nat} (h : Cp s a b) : (bk s (doneL s a b) b, b) ∈ cps (shape (doneL s a b)) := by
  have hb : b < (doneL s a b).length := by rw [doneL_len]; exact h.lb
  have hne : doneL s a b ≠ [] := fun e => by rw [e] at hb; simp at hb
  have hc := h.hbk
  have hc1 : bk s (doneL s a b) b < (doneL s a b).length := by rw [doneL_len]; exact hc.1
  have hab : a ≠ b := fun e => h.ne (by rw [e])
  have cp : Cp (doneL s a b) (bk s (doneL s a b) b) b := ⟨hc1, hb, by rw [hc.2, doneL_b h.lb]; exact Ne.symm h.ne,
    count_of_two (a := a) (b := b) (by rw [doneL_len]; exact h.la) hb hab (by rw [doneL_ne hab, doneL_b h.lb]) rfl⟩
  rw [mem_cps (shape_canon hne)]
  refine ⟨cp.toShape, ?_⟩
  rw [shape_at hc1]
  have hm : ∀ y ∈ doneL s a b, ((things (doneL s a b)).idxOf y : Int) = ((things (doneL s a b)).idxOf ((doneL s a b).getD (bk s (doneL s a b) b) 0) : Int) → y = (doneL s a b).getD (bk s (doneL s a b) b) 0 := fun y hy e => shape_inj hy (getD_mem hc1) e
  have := idxOf_map (f := fun x => ((things (doneL s a b)).idxOf x : Int)) hm
  unfold shape
  rw [this, hc.2]
  rfl
/-- where nothing can be copied -/
theorem no_cps {s : List Int} {N : Nat} (h : Canon s N) (e : cps s = []) : mx s = 0 ∨ mx s = s.length - 1 := by
  rw [h.mx]
  have hp := h.pos
  by_cases h1 : N = 1
  · exact .inl (by omega)
  right
  have no : ∀ a b, ¬ ((a, b) ∈ cps s) := fun a b hm => by rw [e] at hm; cases hm
  have nd : ∀ x ∈ s, ¬ 1 < s.countP fun y => y == x := fun x hx hc => by
    obtain ⟨b1, b2⟩ := idxOf_getD hx
    have ⟨k, hk, hkx⟩ : ∃ k : Nat, k < N ∧ (k : Int) ≠ x := by
      by_cases q : x = 0
      · exact ⟨1, by omega, by omega⟩
      · exact ⟨0, by omega, fun z => q (by omega)⟩
    obtain ⟨a1, a2⟩ := idxOf_getD (h.all k hk)
    exact no (s.idxOf (k : Int)) (s.idxOf x) ((mem_cps h).mpr ⟨⟨a1, b1, by rw [a2, b2]; exact hkx, by rw [b2]; exact hc⟩, by rw [a2]⟩)
  have hnd : s.Nodup := by
    rw [List.nodup_iff_count]
    intro x
    by_cases hx : x ∈ s
    · have := nd x hx
      unfold List.count
      omega
    · rw [List.count_eq_zero_of_not_mem hx]; omega
  have hper : s.Perm ((List.range N).map fun k : Nat => (k : Int)) := by
    refine (List.perm_ext_iff_of_nodup hnd ?_).mpr fun x => ?_
    · exact List.pairwise_map.mpr (List.Pairwise.imp (fun {a b} h e => h (by omega)) List.nodup_range)
    · rw [List.mem_map]
      constructor
      · intro hx
        obtain ⟨q1, q2⟩ := h.rng x hx
        exact ⟨x.toNat, by rw [List.mem_range]; omega, by omega⟩
      · rintro ⟨k, hk, rfl⟩
        exact h.all k (List.mem_range.mp hk)
  have := hper.length_eq
  rw [List.length_map, List.length_range] at this
  omega
end PL.LB

/-! LB3: things, shapes, copies: run. -/
namespace PL.LB
theorem enumed_map {α : Type} (f : α → V) : ∀ (l : List α) (k : Nat), enumed k (l.map f) = (l.zipIdx k).map fun q => .tup [.int q.2, f q.1]
  | [], _ => rfl
  | x :: l, k => by simp only [List.map_cons, enumed, List.zipIdx_cons, enumed_map f l (k + 1)]
theorem eqD_int {M : Mem} {a b : Int} : eqD M (.int a) (.int b) = some (a == b) := by
  rw [eqD_reads (reads_pd pd_int) (reads_pd pd_int)]; rfl
theorem inM_ints {M : Mem} {x : Int} : ∀ {l : List Int}, inM M (.int x) (l.map .int) = some (l.contains x)
  | [] => rfl
  | y :: l => by
    have e : (y == x) = (x == y) := by rw [Bool.eq_iff_iff, beq_iff_eq, beq_iff_eq]; exact eq_comm
    simp only [List.map_cons, inM, eqD_int, inM_ints (l := l), Option.bind_some, Option.map_some, List.contains_cons, e]
theorem in_tup {M : Mem} {x : Int} {l : List Int} : cmpop M .isin (.int x) (st l) = some (l.contains x) := by simp only [cmpop, inOp, items, inM_ints]
theorem notin_tup {M : Mem} {x : Int} {l : List Int} : cmpop M .notin (.int x) (st l) = some (!l.contains x) := by simp only [cmpop, inOp, items, inM_ints, Option.map_some]
theorem cut_to {α : Type} {xs : List α} {b : Nat} : cut xs none (some (b : Int)) = xs.take b := by
  unfold cut sIx
  simp only [List.drop_zero, Nat.sub_zero]
  rw [if_neg (by omega), Int.toNat_natCast]
  rcases Nat.le_total b xs.length with h | h
  · rw [Nat.min_eq_left h]
  · rw [Nat.min_eq_right h, List.take_length, List.take_of_length_le h]
theorem cut_from {α : Type} {xs : List α} {b : Nat} (h : b < xs.length) : cut xs (some ((b : Int) + 1)) none = xs.drop (b + 1) := by
  unfold cut sIx
  simp only []
  rw [if_neg (by omega)]
  have e : min ((b : Int) + 1).toNat xs.length = b + 1 := by omega
  rw [e, List.take_of_length_le (by simp)]
theorem idx_st {M : Mem} {s : List Int} {i : Nat} (h : i < s.length) : index M (st s) (.int (i : Int)) = some (.int (s.getD i 0)) := by
  refine index_items rfl rfl (by omega) ?_
  rw [Int.toNat_natCast, List.getElem?_map, List.getElem?_eq_getElem h, getD_eq h]; rfl
theorem pd_st {n : Nat} {s : List Int} : pd (n + 1) (st s) := pd_tup fun x hx => by obtain ⟨i, _, rfl⟩ := List.mem_map.mp hx; exact pd_int
theorem frz_st {M : Mem} {k : Nat} {s : List Int} : frz M k RDN (st s) = some (st s) := frz_pd (n := 1) pd_st
theorem indexM_ints {M : Mem} {x : Int} : ∀ {l : List Int}, x ∈ l → indexM M (.int x) (l.map .int) = some (some (l.idxOf x))
  | y :: l, h => by
    simp only [List.map_cons, indexM, eqD_int, Option.bind_some, List.idxOf_cons]
    by_cases e : y = x
    · subst e
      simp only [beq_self_eq_true, cond_true, if_true]
      have : ∃ r, indexM M (.int y) (l.map .int) = some r := by
        clear h
        induction l with
        | nil => exact ⟨_, rfl⟩
        | cons z l ih =>
          obtain ⟨r, hr⟩ := ih
          simp only [List.map_cons, indexM, eqD_int, Option.bind_some, hr, Option.map_some]
          exact ⟨_, rfl⟩
      obtain ⟨r, hr⟩ := this
      rw [hr]; rfl
    · have hm : x ∈ l := (List.mem_cons.mp h).resolve_left fun z => e z.symm
      simp only [beq_eq_false_iff_ne.mpr e, cond_false, Bool.false_eq_true, if_false, indexM_ints hm, Option.map_some]
theorem count_ints {M : Mem} {x : Int} : ∀ {l : List Int}, countM M (.int x) (l.map .int) = some (l.countP fun y => y == x)
  | [] => rfl
  | y :: l => by
    simp only [List.map_cons, countM, eqD_int, count_ints (l := l), Option.bind_some, Option.map_some, List.countP_cons]
    cases (y == x) <;> simp
theorem count_st {mk : Nat} {M : Mem} {s : List Int} {x : Int} : meth mk M .count (st s) [.int x] = .ok (.int (s.countP fun y => y == x)) M := by
  show mCount M (st s) (.int x) = _
  simp only [mCount, items, Option.bind_some, count_ints]
theorem index_st {mk : Nat} {M : Mem} {s : List Int} {x : Int} (h : x ∈ s) : meth mk M .index (st s) [.int x] = .ok (.int (s.idxOf x)) M := by
  show mIndex M (st s) (.int x) = _
  simp only [mIndex, items, Option.bind_some, indexM_ints h]
theorem index_fl {mk : Nat} {M : Mem} {s : List Int} {x : Int} (h : x ∈ s) : meth mk M .index (.fl (s.map .int)) [.int x] = .ok (.int (s.idxOf x)) M := by
  show mIndex M _ (.int x) = _
  simp only [mIndex, items, Option.bind_some, indexM_ints h]
theorem max_st {M : Mem} {s : List Int} (h : s ≠ []) : prim M .max [st s] = .ok (.int (mx s)) M := by
  cases s with
  | nil => exact absurd rfl h
  | cons x r => simp only [prim, prim1, pInts, items, Option.bind_some, ints_map]; rfl
theorem ranged0 {k : Nat} : ranged 0 ((k : Int) - 0).toNat = (List.range k).map fun i : Nat => V.int (i : Int) := by
  rw [show ((k : Int) - 0).toNat = k by omega]
  simp [ranged]
theorem srcOf_tup {M : Mem} {xs : List V} : srcOf M (.tup xs) = some (xs, []) := rfl
theorem srcOf_fl {M : Mem} {xs : List V} : srcOf M (.fl xs) = some (xs, []) := rfl
theorem llst_ref {M : Mem} {q : Nat} {ys : List V} (h : M[q]? = some (.lst ys)) : llst M (.ref q) = some ys := by simp only [llst, h]
theorem extend_run {mk : Nat} {M : Mem} {p : Nat} {x : V} {xs ys : List V} (h : M[p]? = some (.lst xs)) (hy : llst M x = some ys) (hw : mk ≤ p) (hz : xs.length + ys.length ≤ SZ) : meth mk M .extend (.ref p) [x] = .ok .non (M.set p (.lst (xs ++ ys))) := by
  show mExtend mk M p x = _
  simp only [mExtend, h, hy, wOk, decide_eq_true hw, decide_eq_true hz, Bool.true_or, Bool.and_self, if_true]
theorem tup_add {x y : List V} {M : Mem} (h : x.length + y.length ≤ SZ) : binop M .add (.tup x) (.tup y) = .ok (.tup (x ++ y)) M := by simp only [binop, addV, if_pos h]
/-- row[:b] + (row[a],) + row[b + 1:] -/
theorem copy_run {C : Orc} {P : String → Option (List String)} {mk : Nat} {s : List Int} {σ : Env} {M : Mem} {a b i j : Nat} (h0 : lk σ 0 = some (st s)) (h4 : lk σ i = some (.int a)) (h5 : lk σ j = some (.int b)) (ha : a < s.length) (hb : b < s.length) (hz : s.length ≤ 1000) :
    ev P C mk (.bin .add (.bin .add (.slc (.var 0) .none (.some (.var j))) (.tup (.cons (.idx (.var 0) (.var i)) .nil))) (.slc (.var 0) (.some (.bin .add (.var j) (.cst (.int 1)))) .none)) σ M = .ok (st (doneL s a b)) M := by
  apply ev_bin
  apply ev_bin
  apply ev_slc
  exact ev_var h0
  exact evo_none
  exact evo_some (ev_var h5)
  rfl
  apply ev_tup
  exact evs_cons (ev_idx (ev_var h0) (ev_var h4) (idx_st ha)) evs_nil
  show 1 ≤ SZ
  decide
  refine tup_add ?_
  rw [cut_to]
  simp only [List.length_map, List.length_take, List.length_cons, List.length_nil]
  unfold SZ; omega
  apply ev_slc
  exact ev_var h0
  exact evo_some (ev_bin (ev_var h5) ev_cst add_i)
  exact evo_none
  rfl
  rw [cut_to, cut_from (by simpa using hb)]
  refine (tup_add ?_).trans ?_
  · simp only [List.length_append, List.length_map, List.length_take, List.length_drop, List.length_cons, List.length_nil]
    unfold SZ; omega
  · show _ = R.ok (V.tup ((doneL s a b).map V.int)) M
    congr 2
    rw [doneL, List.set_eq_take_append_cons_drop, if_pos hb]
    simp
section
variable {D : String → Option Def}
theorem copied_run (h : D "_law_copied" = some d__law_copied) (n mk : Nat) (M : Mem) {s : List Int} {a b : Nat} (ha : a < s.length) (hb : b < s.length) (hz : s.length ≤ 1000) :
    callN D (n + 1) mk "_law_copied" [st s, .int a, .int b] M = .ok (st (doneL s a b)) M := by
  apply call_rt (d := d__law_copied) h rfl rfl
  apply xss_rt
  apply xs_ret
  refine copy_run (a := a) (b := b) ?_ ?_ ?_ ha hb hz
  rfl
  rfl
  rfl
  exact frz_st
  simp
theorem behind_run (h : D "entry_behind" = some d_entry_behind) (n mk : Nat) (M : Mem) {s : List Int} {a b : Nat} (ha : a < s.length) (hb : b < s.length) (hz : s.length ≤ 1000) :
    callN D (n + 1) mk "entry_behind" [st s, .int a, .int b] M = .ok (st (doneL s a b)) M := by
  apply call_rt (d := d_entry_behind) h rfl rfl
  apply xss_rt
  apply xs_ret
  refine copy_run (a := a) (b := b) ?_ ?_ ?_ ha hb hz
  rfl
  rfl
  rfl
  exact frz_st
  simp
theorem things_run (h : D "_law_things" = some d__law_things) (n mk : Nat) (M : Mem) {s : List Int} (hz : s.length ≤ 1000) :
    callN D (n + 1) mk "_law_things" [st s] M = .ok (.fl ((things s).map .int)) M := by
  have hcomp := compL_enc (w := []) (t := .tp (.cons (.nm 1) (.cons (.nm 2) .nil))) (c := fun σ' M' => evc (parsOf D) (callN D n) M.length (.some (.cmp .notin (.var 2) (.slc (.var 0) .none (.some (.var 1))))) σ' M') (e := fun σ' M' => ev (parsOf D) (callN D n) M.length (.var 2) σ' M')
    (σ := [some (st s), none, none]) (M := M) (fun q : Int × Nat => V.tup [.int q.2, .int q.1]) (fun q => !(s.take q.2).contains q.1) (fun q => .int q.1) s.zipIdx []
    (fun _ => rfl) (fun q hq => ⟨[some (st s), some (.int q.2), some (.int q.1)], rfl, fun acc => ⟨by
      apply evc_some
      apply ev_cmp
      exact ev_var rfl
      apply ev_slc
      exact ev_var rfl
      exact evo_none
      exact evo_some (ev_var rfl)
      rfl
      rw [cut_to, ← List.map_take]
      exact notin_tup, fun _ => ev_var rfl⟩⟩) (by unfold SZ; simp; omega)
  apply call_rt (d := d__law_things) h rfl rfl
  apply xss_rt
  apply xs_ret
  apply ev_comp
  apply evi_enum
  exact ev_var rfl
  exact srcOf_tup
  rw [enumed_map]
  exact hcomp
  refine (frz_lst at_end (Nat.le_refl _) fun x hx => ?_).trans ?_
  · rw [List.nil_append] at hx
    obtain ⟨q, _, rfl⟩ := List.mem_map.mp hx; rfl
  · rw [List.nil_append]
    unfold things
    rw [List.map_map]; rfl
  simp
theorem shape_run (h : D "_law_things" = some d__law_things) (h' : D "_law_shape" = some d__law_shape) (n mk : Nat) (M : Mem) {s : List Int} (hz : s.length ≤ 1000) :
    callN D (n + 2) mk "_law_shape" [st s] M = .ok (st (shape s)) M := by
  have ht := things_run h n M.length M hz
  have hcomp := compL_enc (w := []) (t := .nm 2) (c := fun σ' M' => evc (parsOf D) (callN D (n + 1)) M.length .none σ' M') (e := fun σ' M' => ev (parsOf D) (callN D (n + 1)) M.length (.mt .index (.var 1) (.cons (.var 2) .nil)) σ' M')
    (σ := [some (st s), some (.fl ((things s).map .int)), none]) (M := M) V.int (fun _ => true) (fun x => .int ((things s).idxOf x)) s []
    (fun _ => rfl) (fun x hx => ⟨[some (st s), some (.fl ((things s).map .int)), some (.int x)], rfl, fun acc => ⟨evc_none, fun _ => by
      apply ev_mt
      exact ev_var rfl
      rfl
      exact evs_cons (ev_var rfl) evs_nil
      exact index_fl ((mem_things s).mpr hx)⟩⟩) (by unfold SZ; simp; omega)
  apply call_rt (d := d__law_shape) h' rfl rfl
  apply xss_nx
  apply xs_set
  apply ev_fn
  repeat walk_at "pl"
  exact ht
  exact asgM_nm
  apply xss_rt
  apply xs_ret
  apply ev_pr
  apply evs_cons
  apply ev_comp
  apply evi_of
  exact ev_var rfl
  exact srcOf_tup
  exact hcomp
  exact evs_nil
  exact tuple_ref at_end
  rw [filter_true, List.nil_append]
  rw [show V.tup (s.map fun x => V.int ((things s).idxOf x)) = st (shape s) by rw [st, shape, List.map_map]; rfl]
  exact frz_st
  simp
theorem many_run (h : D "many_things" = some d_many_things) (n mk : Nat) (M : Mem) {s : List Int} (hs : s ≠ []) :
    callN D (n + 1) mk "many_things" [st s] M = .ok (.int (mx s + 1)) M := by
  apply call_rt (d := d_many_things) h rfl rfl
  apply xss_rt
  apply xs_ret
  apply ev_bin
  apply ev_pr
  repeat walk_at "pl"
  exact max_st hs
  exact ev_cst
  exact add_i
  rfl
  simp
theorem frs_comp {P : String → Option (List String)} {C : Orc} {mk : Nat} {M : Mem} {s : List Int} {N : Nat} {x : Option V} (hc : Canon s N) (hz : s.length ≤ 1000) (hN : N ≤ 1000) :
    compL M.length [] (.nm 1) (fun σ' M' => evc P C mk .none σ' M') (fun σ' M' => ev P C mk (.mt .index (.var 0) (.cons (.var 1) .nil)) σ' M') [some (st s), x] ((List.range N).map fun i : Nat => V.int (i : Int)) (M ++ [.lst []]) =
      .ok () (M ++ [.lst ((frs s).map fun a : Nat => .int a)]) := by
  have hcomp := compL_enc (w := []) (t := .nm 1) (c := fun σ' M' => evc P C mk .none σ' M') (e := fun σ' M' => ev P C mk (.mt .index (.var 0) (.cons (.var 1) .nil)) σ' M')
    (σ := [some (st s), x]) (M := M) (fun i : Nat => V.int (i : Int)) (fun _ => true) (fun k => .int (s.idxOf (k : Int))) (List.range N) []
    (fun _ => rfl) (fun k hk => ⟨[some (st s), some (.int k)], rfl, fun acc => ⟨evc_none, fun _ => by
      apply ev_mt
      exact ev_var rfl
      rfl
      exact evs_cons (ev_var rfl) evs_nil
      exact index_st (hc.all k (List.mem_range.mp hk))⟩⟩) (by unfold SZ; simp; omega)
  rw [hcomp, filter_true, List.nil_append, frs, List.map_map, hc.mx, show ((N : Int) - 1 + 1).toNat = N by omega]
  rfl
theorem first_run (h : D "_law_first" = some d__law_first) (n mk : Nat) (M : Mem) {s : List Int} {N : Nat} (hc : Canon s N) (hz : s.length ≤ 1000) (hN : N ≤ 1000) :
    callN D (n + 1) mk "_law_first" [st s] M = .ok (.fl ((frs s).map fun a : Nat => .int a)) M := by
  apply call_rt (d := d__law_first) h rfl rfl
  apply xss_rt
  apply xs_ret
  apply ev_comp
  apply evi_rng1 (k := (N : Int))
  apply ev_bin
  apply ev_pr
  repeat walk_at "pl"
  exact max_st hc.ne
  exact ev_cst
  rw [hc.mx]
  refine add_i.trans ?_
  congr 2
  omega
  exact rOk_nat (by omega)
  rw [ranged0]
  exact frs_comp hc hz hN
  exact frz_lst at_end (Nat.le_refl _) fun x hx => by obtain ⟨q, _, rfl⟩ := List.mem_map.mp hx; rfl
  simp
theorem boxes_run (h0 : D "many_things" = some d_many_things) (h : D "first_boxes" = some d_first_boxes) (n mk : Nat) (M : Mem) {s : List Int} {N : Nat} (hc : Canon s N) (hz : s.length ≤ 1000) (hN : N ≤ 1000) :
    callN D (n + 2) mk "first_boxes" [st s] M = .ok (.tup ((frs s).map fun a : Nat => .int a)) M := by
  have hm := many_run h0 n M.length M hc.ne
  rw [hc.mx, show (N : Int) - 1 + 1 = N by omega] at hm
  apply call_rt (d := d_first_boxes) h rfl rfl
  apply xss_rt
  apply xs_ret
  apply ev_pr
  apply evs_cons
  apply ev_comp
  apply evi_rng1 (k := (N : Int))
  apply ev_fn
  repeat walk_at "pl"
  exact hm
  exact rOk_nat (by omega)
  rw [ranged0]
  exact frs_comp hc hz hN
  exact evs_nil
  exact tuple_ref at_end
  refine frz_pd (n := 1) (pd_tup fun x hx => ?_)
  obtain ⟨q, _, rfl⟩ := List.mem_map.mp hx
  exact pd_int
  simp
end
end PL.LB

/-! LB4: copies, the way back, all patterns: run. -/
namespace PL.LB
/-- old objects stay as they are -/
structure Old (M0 M : Mem) : Prop where
  le : M0.length ≤ M.length
  at_ : ∀ i, i < M0.length → M[i]? = M0[i]?
section
variable {M0 M M1 : Mem} {p : Nat} {o : MO}
theorem Old.refl : Old M M := ⟨Nat.le_refl _, fun _ _ => rfl⟩
theorem Old.app (h : Old M0 M) (N : Mem) : Old M0 (M ++ N) :=
  ⟨by have := h.le; rw [List.length_append]; omega, fun i a => by rw [List.getElem?_append_left (Nat.lt_of_lt_of_le a h.le)]; exact h.at_ i a⟩
theorem Old.set (h : Old M0 M) (hp : M0.length ≤ p) : Old M0 (M.set p o) :=
  ⟨by rw [List.length_set]; exact h.le, fun i a => by rw [List.getElem?_set_ne (by omega)]; exact h.at_ i a⟩
theorem Old.trans (h : Old M0 M) (k : Old M M1) : Old M0 M1 :=
  ⟨Nat.le_trans h.le k.le, fun i a => (k.at_ i (Nat.lt_of_lt_of_le a h.le)).trans (h.at_ i a)⟩
theorem Old.get (h : Old M0 M) (e : M0[p]? = some o) : M[p]? = some o := by rw [h.at_ p (List.getElem?_eq_some_iff.mp e).1]; exact e
theorem Old.out (h : Old M0 M) : M.take M0.length = M0 := by
  apply List.ext_getElem?
  intro i
  by_cases c : i < M0.length
  · rw [List.getElem?_take_of_lt c]; exact h.at_ i c
  · rw [List.getElem?_eq_none (by rw [List.length_take]; omega), List.getElem?_eq_none (by omega)]
end
theorem watch1 {M : Mem} {p : Nat} {xs : List V} (h : M[p]? = some (.lst xs)) : watched [(p, xs)] M = true := by
  simp only [watched, List.all_cons, List.all_nil, Bool.and_true]
  exact decide_eq_true h
theorem srcOf_ref {M : Mem} {p : Nat} {xs : List V} (h : M[p]? = some (.lst xs)) : srcOf M (.ref p) = some (xs, [(p, xs)]) := by simp only [srcOf, h]
theorem list_items {M : Mem} {x : V} {xs : List V} (h : items M x = some xs) : prim M .list [x] = .ok (.ref M.length) (M ++ [.lst xs]) := by
  simp only [prim, prim1, pList, h, alloc]
abbrev pe (p : Nat × Nat) : V := .tup [.int p.1, .int p.2]
theorem plain_pe {l : List (Nat × Nat)} : ∀ x ∈ l.map pe, plain x = true := fun x hx => by obtain ⟨p, _, rfl⟩ := List.mem_map.mp hx; rfl
theorem pd_pe {n : Nat} {p : Nat × Nat} : pd (n + 1) (pe p) := pd_tup fun y hy => by
  simp only [List.mem_cons, List.not_mem_nil, or_false] at hy
  rcases hy with rfl | rfl <;> exact pd_int
theorem cpa_le (s : List Int) (a : Nat) : (cpa s a).length ≤ s.length := by
  unfold cpa
  rw [List.length_map]
  exact Nat.le_trans (List.length_filter_le _ _) (by simp)
theorem flat_le {α β : Type} {f : α → List β} {k : Nat} : ∀ {l : List α}, (∀ x ∈ l, (f x).length ≤ k) → (l.flatMap f).length ≤ l.length * k
  | [], _ => by simp
  | x :: l, h => by
    have h1 := h x (List.mem_cons_self ..)
    have h2 := flat_le fun y hy => h y (List.mem_cons_of_mem _ hy)
    rw [List.flatMap_cons, List.length_append, List.length_cons, Nat.add_mul]
    omega
theorem frs_mem {s : List Int} {N a : Nat} (hc : Canon s N) (h : a ∈ frs s) : a < s.length := by
  obtain ⟨k, hk, rfl⟩ := List.mem_map.mp h
  rw [List.mem_range, hc.mx] at hk
  exact List.idxOf_lt_length_of_mem (hc.all k (by omega))
theorem frs_len {s : List Int} {N : Nat} (hc : Canon s N) : (frs s).length = N := by
  rw [frs, List.length_map, List.length_range, hc.mx]; omega
/-- block != pattern[a] and pattern.count(block) > 1 -/
theorem cond_run {P : String → Option (List String)} {C : Orc} {mk : Nat} {M : Mem} {σ : Env} {s : List Int} {a : Nat} {x : Int} (h0 : lk σ 0 = some (st s)) (h2 : lk σ 2 = some (.int a)) (h4 : lk σ 4 = some (.int x)) (ha : a < s.length) :
    ev P C mk (.bop true (.cons (.cmp .ne (.var 4) (.idx (.var 0) (.var 2))) (.cons (.cmp .gt (.mt .count (.var 0) (.cons (.var 4) .nil)) (.cst (.int 1))) .nil))) σ M = .ok (.bl (x != s.getD a 0 && decide (1 < s.countP fun y => y == x))) M := by
  apply ev_bop
  apply evb_cons (q := x != s.getD a 0)
  apply ev_cmp
  exact ev_var h4
  exact ev_idx (ev_var h0) (ev_var h2) (idx_st ha)
  exact ne_int
  cases (x != s.getD a 0) with
  | false => rfl
  | true =>
    rw [if_pos rfl]
    apply evb_one
    apply ev_cmp
    apply ev_mt
    exact ev_var h0
    rfl
    exact evs_cons (ev_var h4) evs_nil
    exact count_st
    exact ev_cst
    simp only [cmpop, intC, Bool.true_and]
    congr 1
    exact decide_eq_decide.mpr (by omega)
section
variable {D : String → Option Def}
theorem lcopies_run (h0 : D "_law_first" = some d__law_first) (h : D "_law_copies" = some d__law_copies) (n mk : Nat) (M : Mem) {s : List Int} {N : Nat} (hc : Canon s N) (hz : s.length ≤ 1000) (hN : N ≤ 1000) :
    callN D (n + 2) mk "_law_copies" [st s] M = .ok (.fl ((cps s).map pe)) M := by
  have hf := first_run h0 n M.length (M ++ [.lst []]) hc hz hN
  obtain ⟨σ1, M1, hl, dn, x2, hσ, hdn, ho, hp⟩ := forL_inv (w := []) (t := .nm 2)
    (b := fun σ' M' => xss (parsOf D) (callN D (n + 1)) M.length (.cons (.ex (.mt .extend (.var 1) (.cons (.comp (.tp (.cons (.nm 3) (.cons (.nm 4) .nil))) (.enum (.var 0)) (.some (.bop true (.cons (.cmp .ne (.var 4) (.idx (.var 0) (.var 2))) (.cons (.cmp .gt (.mt .count (.var 0) (.cons (.var 4) .nil)) (.cst (.int 1))) .nil)))) (.tup (.cons (.var 2) (.cons (.var 3) .nil)))) .nil))) .nil) σ' M')
    (fun xs σ' M' => ∃ (dn : List Nat) (x2 : Option V), σ' = [some (st s), some (.ref M.length), x2, none, none] ∧ (∃ rest : List Nat, xs = rest.map (fun a : Nat => V.int a) ∧ dn ++ rest = frs s) ∧ Old M M' ∧ M'[M.length]? = some (.lst ((dn.flatMap (cpa s)).map pe)))
    ((frs s).map fun a : Nat => V.int a) [some (st s), some (.ref M.length), none, none, none] (M ++ [.lst []])
    ⟨[], none, rfl, ⟨frs s, rfl, rfl⟩, Old.refl.app _, at_end⟩
    (fun _ _ _ _ => rfl)
    (by
      rintro x xs σ' M' ⟨dn, x2, rfl, ⟨rest, hx, hr⟩, ho, hp⟩
      cases rest with
      | nil => simp at hx
      | cons a rest =>
        rw [List.map_cons, List.cons.injEq] at hx
        obtain ⟨rfl, rfl⟩ := hx
        have ha : a < s.length := frs_mem hc (by rw [← hr]; simp)
        have lp := (List.getElem?_eq_some_iff.mp hp).1
        have hcomp := compL_enc (w := []) (t := .tp (.cons (.nm 3) (.cons (.nm 4) .nil))) (c := fun σ' M' => evc (parsOf D) (callN D (n + 1)) M.length (.some (.bop true (.cons (.cmp .ne (.var 4) (.idx (.var 0) (.var 2))) (.cons (.cmp .gt (.mt .count (.var 0) (.cons (.var 4) .nil)) (.cst (.int 1))) .nil)))) σ' M') (e := fun σ' M' => ev (parsOf D) (callN D (n + 1)) M.length (.tup (.cons (.var 2) (.cons (.var 3) .nil))) σ' M')
          (σ := [some (st s), some (.ref M.length), some (.int a), none, none]) (M := M') (fun q : Int × Nat => V.tup [.int q.2, .int q.1]) (fun q => q.1 != s.getD a 0 && decide (1 < s.countP fun y => y == q.1)) (fun q => pe (a, q.2)) s.zipIdx []
          (fun _ => rfl) (fun q hq => ⟨[some (st s), some (.ref M.length), some (.int a), some (.int q.2), some (.int q.1)], rfl, fun acc => ⟨evc_some (cond_run rfl rfl rfl ha), fun _ => ev_tup (evs_cons (ev_var rfl) (evs_cons (ev_var rfl) evs_nil)) (by unfold SZ; simp)⟩⟩) (by unfold SZ; simp; omega)
        rw [List.nil_append] at hcomp
        have hle : (dn.flatMap (cpa s)).length ≤ 1000000 := by
          have h1 := flat_le (f := cpa s) (l := dn) (k := 1000) fun x _ => Nat.le_trans (cpa_le s x) hz
          have h2 : dn.length ≤ N := by
            rw [← frs_len hc, ← hr, List.length_append]; omega
          have h3 : dn.length * 1000 ≤ 1000 * 1000 := Nat.mul_le_mul (by omega) (Nat.le_refl _)
          omega
        have hcl := cpa_le s a
        refine ⟨[some (st s), some (.ref M.length), some (.int a), none, none], rfl, [some (st s), some (.ref M.length), some (.int a), none, none], (M' ++ [MO.lst ((cpa s a).map pe)]).set M.length (.lst (((dn ++ [a]).flatMap (cpa s)).map pe)), ?_, dn ++ [a], _, rfl, ⟨rest, rfl, by rw [← hr]; simp⟩, (ho.app _).set (Nat.le_refl _), ?_⟩
        · apply xss_nx
          apply xs_ex
          apply ev_mt
          exact ev_var rfl
          exact recv_list hp rfl
          apply evs_cons
          apply ev_comp
          apply evi_enum
          exact ev_var rfl
          exact srcOf_tup
          rw [enumed_map]
          exact hcomp
          exact evs_nil
          refine extend_run (xs := (dn.flatMap (cpa s)).map pe) (ys := (cpa s a).map pe) ?_ ?_ (Nat.le_refl _) ?_
          · rw [List.getElem?_append_left lp]; exact hp
          · refine llst_ref ?_
            rw [at_end, cpa, List.map_map]; rfl
          · simp only [List.length_map]; unfold SZ; omega
          rw [List.flatMap_append, List.map_append]
          simp only [List.flatMap_cons, List.flatMap_nil, List.append_nil]
          unfold cpa
          rw [List.map_map]
          exact xss_nil
        · rw [List.getElem?_set_self (by rw [List.length_append]; omega)])
  obtain ⟨rest, hx, hr⟩ := hdn
  have : rest = [] := by cases rest with | nil => rfl | cons _ _ => simp at hx
  subst this
  rw [List.append_nil] at hr
  subst hr
  apply call_rt (d := d__law_copies) h rfl rfl
  apply xss_nx
  apply xs_set
  apply ev_lst
  exact evs_nil
  decide
  exact asgM_nm
  apply xss_nx
  apply xs_for
  apply evi_of
  apply ev_fn
  repeat walk_at "pl"
  exact hf
  exact srcOf_fl
  exact hl
  rw [hσ]
  apply xss_rt
  repeat walk_at "pl"
  exact frz_lst hp (Nat.le_refl _) plain_pe
  exact ho.out
theorem copies_run (hm : D "many_things" = some d_many_things) (h0 : D "first_boxes" = some d_first_boxes) (h : D "copies_of" = some d_copies_of) (n mk : Nat) (M : Mem) {s : List Int} {N : Nat} (hc : Canon s N) (hz : s.length ≤ 1000) (hN : N ≤ 1000) :
    callN D (n + 3) mk "copies_of" [st s] M = .ok (.tup ((cps s).map pe)) M := by
  have hf := boxes_run hm h0 n M.length (M ++ [.lst []]) hc hz hN
  -- the inner loop
  have inner : ∀ (a : Nat) (ps : List (Nat × Nat)) (M' : Mem) (x3 x4 : Option V), a < s.length → Old M M' → M'[M.length]? = some (.lst (ps.map pe)) → ps.length ≤ 1000000 →
      ∃ M1 y3 y4, forL [] (.tp (.cons (.nm 3) (.cons (.nm 4) .nil))) (fun σ' M' => xss (parsOf D) (callN D (n + 2)) M.length (.cons (.iff (.bop true (.cons (.cmp .ne (.var 4) (.idx (.var 0) (.var 2))) (.cons (.cmp .gt (.mt .count (.var 0) (.cons (.var 4) .nil)) (.cst (.int 1))) .nil))) (.cons (.ex (.mt .append (.var 1) (.cons (.tup (.cons (.var 2) (.cons (.var 3) .nil))) .nil))) .nil) .nil) .nil) σ' M')
        (enumed 0 (s.map .int)) [some (st s), some (.ref M.length), some (.int a), x3, x4] M' = .nx [some (st s), some (.ref M.length), some (.int a), y3, y4] M1 ∧ Old M M1 ∧ M1[M.length]? = some (.lst ((ps ++ cpa s a).map pe)) := by
    intro a ps M' x3 x4 ha ho hp hps
    obtain ⟨σ1, M1, hl, y3, y4, dn, hσ, hdn, ho1, hp1⟩ := forL_inv (w := []) (t := .tp (.cons (.nm 3) (.cons (.nm 4) .nil)))
      (b := fun σ' M' => xss (parsOf D) (callN D (n + 2)) M.length (.cons (.iff (.bop true (.cons (.cmp .ne (.var 4) (.idx (.var 0) (.var 2))) (.cons (.cmp .gt (.mt .count (.var 0) (.cons (.var 4) .nil)) (.cst (.int 1))) .nil))) (.cons (.ex (.mt .append (.var 1) (.cons (.tup (.cons (.var 2) (.cons (.var 3) .nil))) .nil))) .nil) .nil) .nil) σ' M')
      (fun xs σ' M' => ∃ (y3 y4 : Option V) (dn : List (Int × Nat)), σ' = [some (st s), some (.ref M.length), some (.int a), y3, y4] ∧ (∃ rest : List (Int × Nat), xs = rest.map (fun q => V.tup [.int q.2, .int q.1]) ∧ dn ++ rest = s.zipIdx) ∧ Old M M' ∧
        M'[M.length]? = some (.lst ((ps ++ (dn.filter fun q => q.1 != s.getD a 0 && decide (1 < s.countP fun y => y == q.1)).map fun q => (a, q.2)).map pe)))
      (enumed 0 (s.map .int)) [some (st s), some (.ref M.length), some (.int a), x3, x4] M'
      ⟨x3, x4, [], rfl, ⟨s.zipIdx, enumed_map _ _ _, rfl⟩, ho, by simpa using hp⟩
      (fun _ _ _ _ => rfl)
      (by
        rintro x xs σ' M' ⟨y3, y4, dn, rfl, ⟨rest, hx, hr⟩, ho, hp⟩
        cases rest with
        | nil => simp at hx
        | cons q rest =>
          rw [List.map_cons, List.cons.injEq] at hx
          obtain ⟨rfl, rfl⟩ := hx
          have hcd := fun M' => cond_run (P := parsOf D) (C := callN D (n + 2)) (mk := M.length) (M := M') (σ := [some (st s), some (.ref M.length), some (.int a), some (.int q.2), some (.int q.1)]) (s := s) (a := a) (x := q.1) rfl rfl rfl ha
          refine ⟨[some (st s), some (.ref M.length), some (.int a), some (.int q.2), some (.int q.1)], rfl, [some (st s), some (.ref M.length), some (.int a), some (.int q.2), some (.int q.1)], ?_⟩
          cases hq : (q.1 != s.getD a 0 && decide (1 < s.countP fun y => y == q.1)) with
          | false =>
            refine ⟨M', ?_, _, _, dn ++ [q], rfl, ⟨rest, rfl, by rw [← hr]; simp⟩, ho, ?_⟩
            · apply xss_nx
              apply xs_iff
              exact hcd M'
              rw [hq]
              refine (if_neg (by decide)).trans ?_
              exact xss_nil
              exact xss_nil
            · rw [hp, List.filter_append, List.filter_cons, hq]
              simp
          | true =>
            have hle : ((dn.filter fun q => q.1 != s.getD a 0 && decide (1 < s.countP fun y => y == q.1)).map fun q => (a, q.2)).length ≤ 1000 := by
              rw [List.length_map]
              refine Nat.le_trans (List.length_filter_le _ _) ?_
              have : dn.length ≤ s.zipIdx.length := by rw [← hr, List.length_append]; omega
              rw [List.length_zipIdx] at this
              omega
            refine ⟨M'.set M.length (.lst ((ps ++ ((dn ++ [q]).filter fun q => q.1 != s.getD a 0 && decide (1 < s.countP fun y => y == q.1)).map fun q => (a, q.2)).map pe)), ?_, _, _, dn ++ [q], rfl, ⟨rest, rfl, by rw [← hr]; simp⟩, ho.set (Nat.le_refl _), ?_⟩
            · apply xss_nx
              apply xs_iff
              exact hcd M'
              rw [hq]
              refine (if_pos rfl).trans ?_
              apply xss_nx
              apply xs_ex
              apply ev_mt
              exact ev_var rfl
              exact recv_list hp rfl
              exact evs_cons (ev_tup (evs_cons (ev_var rfl) (evs_cons (ev_var rfl) evs_nil)) (by unfold SZ; simp)) evs_nil
              refine append_run hp ?_ ?_
              · unfold wOk; simp
              · rw [List.length_map, List.length_append]; unfold SZ; omega
              exact xss_nil
              rw [List.filter_append, List.filter_cons, hq]
              simp only [if_true, List.filter_nil, List.map_append, List.map_cons, List.map_nil, List.append_assoc]
              exact xss_nil
            · rw [List.getElem?_set_self (List.getElem?_eq_some_iff.mp hp).1])
    obtain ⟨rest, hx, hr⟩ := hdn
    have : rest = [] := by cases rest with | nil => rfl | cons _ _ => simp at hx
    subst this
    rw [List.append_nil] at hr
    subst hr
    rw [hσ] at hl
    exact ⟨M1, y3, y4, hl, ho1, hp1⟩
  obtain ⟨σ1, M1, hl, dn, x2, x3, x4, hσ, hdn, ho, hp⟩ := forL_inv (w := []) (t := .nm 2)
    (b := fun σ' M' => xss (parsOf D) (callN D (n + 2)) M.length (.cons (.for (.tp (.cons (.nm 3) (.cons (.nm 4) .nil))) (.enum (.var 0)) (.cons (.iff (.bop true (.cons (.cmp .ne (.var 4) (.idx (.var 0) (.var 2))) (.cons (.cmp .gt (.mt .count (.var 0) (.cons (.var 4) .nil)) (.cst (.int 1))) .nil))) (.cons (.ex (.mt .append (.var 1) (.cons (.tup (.cons (.var 2) (.cons (.var 3) .nil))) .nil))) .nil) .nil) .nil)) .nil) σ' M')
    (fun xs σ' M' => ∃ (dn : List Nat) (x2 x3 x4 : Option V), σ' = [some (st s), some (.ref M.length), x2, x3, x4] ∧ (∃ rest : List Nat, xs = rest.map (fun a : Nat => V.int a) ∧ dn ++ rest = frs s) ∧ Old M M' ∧ M'[M.length]? = some (.lst ((dn.flatMap (cpa s)).map pe)))
    ((frs s).map fun a : Nat => V.int a) [some (st s), some (.ref M.length), none, none, none] (M ++ [.lst []])
    ⟨[], none, none, none, rfl, ⟨frs s, rfl, rfl⟩, Old.refl.app _, at_end⟩
    (fun _ _ _ _ => rfl)
    (by
      rintro x xs σ' M' ⟨dn, x2, x3, x4, rfl, ⟨rest, hx, hr⟩, ho, hp⟩
      cases rest with
      | nil => simp at hx
      | cons a rest =>
        rw [List.map_cons, List.cons.injEq] at hx
        obtain ⟨rfl, rfl⟩ := hx
        have ha : a < s.length := frs_mem hc (by rw [← hr]; simp)
        have hle : (dn.flatMap (cpa s)).length ≤ 1000000 := by
          have h1 := flat_le (f := cpa s) (l := dn) (k := 1000) fun x _ => Nat.le_trans (cpa_le s x) hz
          have h2 : dn.length ≤ N := by
            rw [← frs_len hc, ← hr, List.length_append]; omega
          have h3 : dn.length * 1000 ≤ 1000 * 1000 := Nat.mul_le_mul (by omega) (Nat.le_refl _)
          omega
        obtain ⟨M1, y3, y4, h1, ho1, hp1⟩ := inner a (dn.flatMap (cpa s)) M' x3 x4 ha ho hp hle
        refine ⟨[some (st s), some (.ref M.length), some (.int a), x3, x4], rfl, [some (st s), some (.ref M.length), some (.int a), y3, y4], M1, ?_, dn ++ [a], _, _, _, rfl, ⟨rest, rfl, by rw [← hr]; simp⟩, ho1, ?_⟩
        · apply xss_nx
          apply xs_for
          apply evi_enum
          exact ev_var rfl
          exact srcOf_tup
          exact h1
          exact xss_nil
        · rw [hp1, List.flatMap_append]
          simp)
  obtain ⟨rest, hx, hr⟩ := hdn
  have : rest = [] := by cases rest with | nil => rfl | cons _ _ => simp at hx
  subst this
  rw [List.append_nil] at hr
  subst hr
  apply call_rt (d := d_copies_of) h rfl rfl
  apply xss_nx
  apply xs_set
  apply ev_lst
  exact evs_nil
  decide
  exact asgM_nm
  apply xss_nx
  apply xs_for
  apply evi_of
  apply ev_fn
  repeat walk_at "pl"
  exact hf
  exact srcOf_tup
  exact hl
  rw [hσ]
  apply xss_rt
  apply xs_ret
  apply ev_pr
  repeat walk_at "pl"
  exact tuple_ref hp
  refine frz_pd (n := 2) (pd_tup fun x hx => ?_)
  obtain ⟨q, _, rfl⟩ := List.mem_map.mp hx
  exact pd_pe
  exact ho.out
end
end PL.LB

/-! LB5: the way back, all patterns: run. -/
namespace PL.LB
theorem minI_le {K : Int} : ∀ {xs : List Int} {i : Int}, (∀ x ∈ xs, i ≤ x) → minI i xs = i
  | [], i, _ => rfl
  | x :: xs, i, h => by
    have h1 := h x (List.mem_cons_self ..)
    show minI (min i x) xs = i
    rw [Int.min_eq_left h1]
    exact minI_le (K := K) fun y hy => h y (List.mem_cons_of_mem _ hy)
/-- the first place of v is the least one -/
theorem first_place {v : Int} : ∀ {l : List Int} (k : Nat), v ∈ l → ∃ r : List Int, ((l.zipIdx k).filter fun q => q.1 == v).map (fun q => (q.2 : Int)) = ((k + l.idxOf v : Nat) : Int) :: r ∧ ∀ x ∈ r, ((k + l.idxOf v : Nat) : Int) ≤ x
  | y :: l, k, h => by
    rw [List.zipIdx_cons, List.filter_cons, List.idxOf_cons]
    by_cases e : y = v
    · subst e
      simp only [beq_self_eq_true, if_true, cond_true, List.map_cons, Nat.add_zero]
      refine ⟨_, rfl, fun x hx => ?_⟩
      obtain ⟨q, hq, rfl⟩ := List.mem_map.mp hx
      have := List.mem_zipIdx (List.mem_filter.mp hq).1
      omega
    · have hm : v ∈ l := (List.mem_cons.mp h).resolve_left fun z => e z.symm
      obtain ⟨r, h1, h2⟩ := first_place (k + 1) hm
      simp only [beq_eq_false_iff_ne.mpr e, Bool.false_eq_true, if_false, cond_false]
      rw [h1]
      refine ⟨r, by congr 1; omega, fun x hx => ?_⟩
      have := h2 x hx
      omega
section
variable {D : String → Option Def}
theorem back_run (h : D "_law_back" = some d__law_back) (n mk : Nat) (M : Mem) {s e : List Int} {b : Nat} (hb : b < s.length) (hm : s.getD b 0 ∈ e) (hz : e.length ≤ 1000) :
    callN D (n + 1) mk "_law_back" [st s, st e, .int b] M = .ok (.int (bk s e b)) M := by
  have hcomp := compL_enc (w := []) (t := .tp (.cons (.nm 3) (.cons (.nm 4) .nil))) (c := fun σ' M' => evc (parsOf D) (callN D n) M.length (.some (.cmp .eq (.var 4) (.idx (.var 0) (.var 2)))) σ' M') (e := fun σ' M' => ev (parsOf D) (callN D n) M.length (.var 3) σ' M')
    (σ := [some (st s), some (st e), some (.int b), none, none]) (M := M) (fun q : Int × Nat => V.tup [.int q.2, .int q.1]) (fun q => q.1 == s.getD b 0) (fun q => .int q.2) e.zipIdx []
    (fun _ => rfl) (fun q hq => ⟨[some (st s), some (st e), some (.int b), some (.int q.2), some (.int q.1)], rfl, fun acc => ⟨evc_some (ev_cmp (ev_var rfl) (ev_idx (ev_var rfl) (ev_var rfl) (idx_st hb)) eq_int), fun _ => ev_var rfl⟩⟩) (by unfold SZ; simp; omega)
  obtain ⟨r, h1, h2⟩ := first_place 0 hm
  have h3 : ((e.zipIdx.filter fun q => q.1 == s.getD b 0).map fun q => V.int (q.2 : Int)) = (((0 + e.idxOf (s.getD b 0) : Nat) : Int) :: r).map V.int := by
    rw [← h1, List.map_map]; rfl
  rw [h3, List.nil_append] at hcomp
  apply call_rt (d := d__law_back) h rfl rfl
  apply xss_rt
  apply xs_ret
  apply ev_pr
  apply evs_cons
  apply ev_comp
  apply evi_enum
  exact ev_var rfl
  exact srcOf_tup
  rw [enumed_map]
  exact hcomp
  exact evs_nil
  simp only [prim, prim1, pInts, items, at_end, Option.bind_some, ints_map]
  rw [minI_le (K := 0) h2]
  simp only [Nat.zero_add]
  rfl
  simp
end
/-! ### all patterns -/
def nx1 (q : List Int) : List (List Int) := (List.range (mx q + 2).toNat).map fun j : Nat => q ++ [(j : Int)]
def wl : Nat → List (List Int)
  | 0 => [[0]]
  | k + 1 => (wl k).flatMap nx1
theorem wl_small : ∀ k, k < 5 → (wl k).length ≤ 52 ∧ (wl k).Nodup := by decide +kernel
theorem mx_snoc {q : List Int} {N : Nat} (h : Canon q N) {j : Nat} (hj : j < N + 1) : Canon (q ++ [(j : Int)]) (if j < N then N else N + 1) := by
  have hp := h.pos
  refine ⟨by split <;> omega, fun x hx => ?_, fun k hk => ?_⟩
  · rcases List.mem_append.mp hx with hx | hx
    · have := h.rng x hx; split <;> omega
    · rw [List.mem_singleton.mp hx]; split <;> omega
  · by_cases c : k < N
    · exact List.mem_append_left _ (h.all k c)
    · have : j = k := by split at hk <;> omega
      subst this
      exact List.mem_append_right _ (List.mem_singleton.mpr rfl)
theorem wl_canon : ∀ (k : Nat) (q : List Int), q ∈ wl k → q.length = k + 1 ∧ ∃ N, Canon q N ∧ N ≤ k + 1
  | 0, q, h => by
    simp only [wl, List.mem_singleton] at h
    subst h
    refine ⟨rfl, 1, ⟨Nat.one_pos, fun x hx => ?_, fun k hk => ?_⟩, Nat.le_refl _⟩
    · rw [List.mem_singleton.mp hx]; omega
    · have : k = 0 := by omega
      subst this
      exact List.mem_singleton.mpr rfl
  | k + 1, q, h => by
    obtain ⟨p, hp, hq⟩ := List.mem_flatMap.mp h
    obtain ⟨l1, N, hc, hN⟩ := wl_canon k p hp
    obtain ⟨j, hj, rfl⟩ := List.mem_map.mp hq
    rw [List.mem_range, hc.mx] at hj
    refine ⟨by rw [List.length_append, l1]; rfl, _, mx_snoc hc (by omega), ?_⟩
    split <;> omega
theorem wl_ne (k : Nat) : wl k ≠ [] := by
  induction k with
  | zero => simp [wl]
  | succ k ih =>
    obtain ⟨q, r, e⟩ := List.exists_cons_of_ne_nil ih
    obtain ⟨_, N, hc, _⟩ := wl_canon k q (by rw [e]; exact List.mem_cons_self ..)
    have hp := hc.pos
    intro z
    rw [wl, e, List.flatMap_cons, List.append_eq_nil_iff, nx1, List.map_eq_nil_iff, List.range_eq_nil, hc.mx] at z
    omega
theorem nx1_len {q : List Int} {N : Nat} (h : Canon q N) : (nx1 q).length = N + 1 := by
  rw [nx1, List.length_map, List.length_range, h.mx]; omega
theorem plain_sts {ps : List (List Int)} : ∀ x ∈ ps.map st, plain x = true := fun x hx => by
  obtain ⟨p, _, rfl⟩ := List.mem_map.mp hx
  exact (pd_st (n := 0)).2.1
abbrev wB : Ss := .cons (.ex (.mt .extend (.var 4) (.cons (.comp (.nm 7) (.rng1 (.bin .add (.pr .max (.cons (.var 5) .nil)) (.cst (.int 2)))) .none (.bin .add (.var 5) (.tup (.cons (.var 7) .nil)))) .nil))) .nil
/-- all patterns with one more -/
theorem world_step {P : String → Option (List String)} {C : Orc} {mk : Nat} {M : Mem} {p k : Nat} {x0 x2 x3 x5 : Option V} (hk : k < 4) (hp : M[p]? = some (.lst ((wl k).map st))) (hm : mk ≤ M.length) :
    ∃ M1 y5, forL [(p, (wl k).map st)] (.nm 5) (fun σ' M' => xss P C mk wB σ' M') ((wl k).map st) [x0, some (.ref p), x2, x3, some (.ref M.length), x5, none, none] (M ++ [.lst []]) = .nx [x0, some (.ref p), x2, x3, some (.ref M.length), y5, none, none] M1 ∧
      Old M M1 ∧ M1[M.length]? = some (.lst ((wl (k + 1)).map st)) := by
  have lp := (List.getElem?_eq_some_iff.mp hp).1
  obtain ⟨σ1, M1, hl, dn, y5, hσ, ho, hn, hdn⟩ := forL_inv (w := [(p, (wl k).map st)]) (t := .nm 5) (b := fun σ' M' => xss P C mk wB σ' M')
    (fun xs σ M' => ∃ (dn : List (List Int)) (y5 : Option V), σ = [x0, some (.ref p), x2, x3, some (.ref M.length), y5, none, none] ∧ Old M M' ∧ M'[M.length]? = some (.lst ((dn.flatMap nx1).map st)) ∧ ∃ rest : List (List Int), xs = rest.map st ∧ dn ++ rest = wl k)
    ((wl k).map st) [x0, some (.ref p), x2, x3, some (.ref M.length), x5, none, none] (M ++ [.lst []])
    ⟨[], x5, rfl, Old.refl.app _, at_end, wl k, rfl, rfl⟩
    (by
      rintro xs σ M' ⟨dn, y5, rfl, ho, _⟩
      exact watch1 (ho.get hp))
    (by
      rintro x xs σ M' ⟨dn, y5, rfl, ho, hn, rest, hx, hr⟩
      cases rest with
      | nil => simp at hx
      | cons q rest =>
        rw [List.map_cons, List.cons.injEq] at hx
        obtain ⟨rfl, rfl⟩ := hx
        obtain ⟨lq, N, hc, hN⟩ := wl_canon k q (by rw [← hr]; simp)
        have ln := (List.getElem?_eq_some_iff.mp hn).1
        have hcomp := compL_enc (w := []) (t := .nm 7) (c := fun σ' M' => evc P C mk .none σ' M') (e := fun σ' M' => ev P C mk (.bin .add (.var 5) (.tup (.cons (.var 7) .nil))) σ' M')
          (σ := [x0, some (.ref p), x2, x3, some (.ref M.length), some (st q), none, none]) (M := M') (fun j : Nat => V.int (j : Int)) (fun _ => true) (fun j => st (q ++ [(j : Int)])) (List.range (N + 1)) []
          (fun _ => rfl) (fun j hj => ⟨[x0, some (.ref p), x2, x3, some (.ref M.length), some (st q), none, some (.int (j : Int))], asg_nm, fun acc => ⟨evc_none, fun _ =>
            ev_bin (ev_var rfl) (ev_tup (evs_cons (ev_var rfl) evs_nil) (by unfold SZ; simp)) ((tup_add (by simp only [List.length_map, List.length_singleton]; unfold SZ; omega)).trans (by rw [st, List.map_append]; rfl))⟩⟩) (by unfold SZ; simp; omega)
        rw [List.nil_append, filter_true] at hcomp
        have hle : (dn.flatMap nx1).length ≤ 1000 := by
          have h1 := flat_le (f := nx1) (l := dn) (k := 10) fun y hy => by
            obtain ⟨_, N', hc', hN'⟩ := wl_canon k y (by rw [← hr]; exact List.mem_append_left _ hy)
            rw [nx1_len hc']; omega
          have h2 : dn.length ≤ 52 := by
            have := (wl_small k (by omega)).1
            rw [← hr, List.length_append] at this; omega
          omega
        refine ⟨[x0, some (.ref p), x2, x3, some (.ref M.length), some (st q), none, none], asg_nm, [x0, some (.ref p), x2, x3, some (.ref M.length), some (st q), none, none], (M' ++ [MO.lst ((List.range (N + 1)).map fun j : Nat => st (q ++ [(j : Int)]))]).set M.length (MO.lst (((dn ++ [q]).flatMap nx1).map st)), ?_, dn ++ [q], _, rfl, (ho.app _).set (Nat.le_refl _), by rw [List.getElem?_set_self (by rw [List.length_append]; omega)], rest, rfl, by rw [← hr]; simp⟩
        apply xss_nx
        apply xs_ex
        apply ev_mt
        exact ev_var rfl
        exact recv_list hn rfl
        apply evs_cons
        apply ev_comp
        apply evi_rng1 (k := ((N + 1 : Nat) : Int))
        apply ev_bin
        apply ev_pr
        repeat walk_at "pl"
        exact max_st hc.ne
        exact ev_cst
        rw [hc.mx]
        refine add_i.trans ?_
        congr 2
        omega
        exact rOk_nat (by omega)
        rw [ranged0]
        exact hcomp
        exact evs_nil
        refine extend_run (xs := (dn.flatMap nx1).map st) ?_ (llst_ref at_end) hm ?_
        · rw [List.getElem?_append_left ln]; exact hn
        · simp only [List.length_map, List.length_range]; unfold SZ; omega
        rw [List.flatMap_append, List.map_append]
        simp only [List.flatMap_cons, List.flatMap_nil, List.append_nil, nx1, List.map_map, hc.mx]
        rw [show ((N : Int) - 1 + 2).toNat = N + 1 by omega]
        exact xss_nil)
  obtain ⟨rest, hx, hr⟩ := hdn
  have : rest = [] := by cases rest with | nil => rfl | cons _ _ => simp at hx
  subst this
  rw [List.append_nil] at hr
  subst hr
  rw [hσ] at hl
  exact ⟨M1, y5, hl, ho, hn⟩
end PL.LB

/-! LB6: the world. -/
namespace PL.LB
theorem frz_lst' {M : Mem} {k i d : Nat} {xs : List V} (h : M[i]? = some (.lst xs)) (hi : k ≤ i) (hx : ∀ x ∈ xs, plain x = true) : frz M k (d + 1) (.ref i) = some (.fl xs) := by
  simp only [frz, frzW, if_neg (Nat.not_lt.mpr hi), h, frzW_plain.gos _ _ xs (plains_all hx), Option.map_some]
theorem frz_dct {M : Mem} {k i d : Nat} {t : Bool} {ks vs : List V} (h : M[i]? = some (.dct t ks vs)) (hi : k ≤ i) (hk : ∀ x ∈ ks, plain x = true) (hv : ∀ x ∈ vs, plain x = true) (hne : ks ≠ []) : frz M k (d + 1) (.ref i) = some (.fd ks vs) := by
  have he : (t && ks.isEmpty) = false := by cases ks with | nil => exact absurd rfl hne | cons _ _ => simp
  simp only [he, Bool.false_eq_true, if_false, frz, frzW, if_neg (Nat.not_lt.mpr hi), h, frzW_plain.gos _ _ ks (plains_all hk), frzW_plain.gos _ _ vs (plains_all hv), Option.map_some, Option.bind_some]
/-- the law's world of n = k + 1 boxes -/
def wv (k : Nat) : V := .fl [.int ((k + 1 : Nat) : Int), .fl ((wl k).map st), .fd ((wl k).map st) ((wl k).zipIdx.map fun q => .int q.2)]
theorem st_inj {s t : List Int} (h : st s = st t) : s = t := by
  simp only [V.tup.injEq] at h
  have : ∀ {s t : List Int}, s.map V.int = t.map V.int → s = t := fun {s} => by
    induction s with
    | nil => intro t h; cases t with | nil => rfl | cons _ _ => simp at h
    | cons x s ih =>
      intro t h
      cases t with
      | nil => simp at h
      | cons y t =>
        simp only [List.map_cons, List.cons.injEq, V.int.injEq] at h
        rw [h.1, ih h.2]
  exact this h
theorem keyT_st {s : List Int} : keyT (st s) = true := by simp only [keyT, ints_map]; rfl
theorem world_run {D : String → Option Def} (h : D "_law_world" = some d__law_world) (n mk : Nat) (M : Mem) {k : Nat} (hk : k < 5) :
    callN D (n + 1) mk "_law_world" [.int ((k + 1 : Nat) : Int)] M = .ok (wv k) M := by
  obtain ⟨σ1, M1, hl, j, p, x2, x4, x5, hσ, ho, hp, hpm, hj⟩ := forL_inv (w := []) (t := .nm 2)
    (b := fun σ' M' => xss (parsOf D) (callN D n) M.length (.cons (.set (.nm 4) (.lst .nil)) (.cons (.for (.nm 5) (.of (.var 1)) wB) (.cons (.set (.nm 1) (.pr .list (.cons (.var 4) .nil))) .nil))) σ' M')
    (fun xs σ' M' => ∃ (j p : Nat) (x2 x4 x5 : Option V), σ' = [some (.int ((k + 1 : Nat) : Int)), some (.ref p), x2, none, x4, x5, none, none] ∧ Old M M' ∧ M'[p]? = some (.lst ((wl j).map st)) ∧ M.length ≤ p ∧ j + xs.length = k)
    ((List.range k).map fun i : Nat => V.int (i : Int)) [some (.int ((k + 1 : Nat) : Int)), some (.ref M.length), none, none, none, none, none, none] (M ++ [.lst [st [0]]])
    ⟨0, M.length, none, none, none, rfl, Old.refl.app _, at_end, Nat.le_refl _, by simp⟩
    (fun _ _ _ _ => rfl)
    (by
      rintro x xs σ' M' ⟨j, p, x2, x4, x5, rfl, ho, hp, hpm, hj⟩
      rw [List.length_cons] at hj
      have lp := (List.getElem?_eq_some_iff.mp hp).1
      have lM := ho.le
      obtain ⟨M1, y5, h1, ho1, hn⟩ := world_step (P := parsOf D) (C := callN D n) (mk := M.length) (x0 := some (.int ((k + 1 : Nat) : Int))) (x2 := some x) (x3 := none) (x5 := x5) (k := j) (by omega) hp lM
      have lM1 := ho1.le
      refine ⟨[some (.int ((k + 1 : Nat) : Int)), some (.ref p), some x, none, x4, x5, none, none], rfl, [some (.int ((k + 1 : Nat) : Int)), some (.ref M1.length), some x, none, some (.ref M'.length), y5, none, none], M1 ++ [.lst ((wl (j + 1)).map st)], ?_, j + 1, M1.length, _, _, _, rfl, (ho.trans ho1).app _, at_end, by omega, by omega⟩
      apply xss_nx
      apply xs_set
      apply ev_lst
      exact evs_nil
      decide
      exact asgM_nm
      apply xss_nx
      apply xs_for
      apply evi_of
      exact ev_var rfl
      refine srcOf_ref (xs := (wl j).map st) ?_
      rw [List.getElem?_append_left lp]; exact hp
      exact h1
      apply xss_nx
      apply xs_set
      apply ev_pr
      repeat walk_at "pl"
      refine list_items (xs := (wl (j + 1)).map st) ?_
      simp only [items, hn]
      exact asgM_nm
      exact xss_nil)
  have hjk : j = k := by simpa using hj
  subst hjk
  have lp := (List.getElem?_eq_some_iff.mp hp).1
  have lM1 := ho.le
  have nd := (wl_small j hk).2
  have small := (wl_small j hk).1
  obtain ⟨σ2, M2, hl2, dn, x5', x6', hσ2, ho2, hd2, hdn⟩ := forL_inv (w := [(p, (wl j).map st)]) (t := .tp (.cons (.nm 6) (.cons (.nm 5) .nil)))
    (b := fun σ' M' => xss (parsOf D) (callN D n) M.length (.cons (.put (.var 3) (.var 5) (.var 6)) .nil) σ' M')
    (fun xs σ' M' => ∃ (dn : List (List Int × Nat)) (x5' x6' : Option V), σ' = [some (.int ((j + 1 : Nat) : Int)), some (.ref p), x2, some (.ref M1.length), x4, x5', x6', none] ∧ Old M1 M' ∧ M'[M1.length]? = some (.dct true (dn.map fun q => st q.1) (dn.map fun q => .int q.2)) ∧ ∃ rest : List (List Int × Nat), xs = rest.map (fun q => V.tup [.int q.2, st q.1]) ∧ dn ++ rest = (wl j).zipIdx)
    (enumed 0 ((wl j).map st)) [some (.int ((j + 1 : Nat) : Int)), some (.ref p), x2, some (.ref M1.length), x4, x5, none, none] (M1 ++ [.dct true [] []])
    ⟨[], x5, none, rfl, Old.refl.app _, at_end, (wl j).zipIdx, enumed_map _ _ _, rfl⟩
    (by
      rintro xs σ' M' ⟨dn, x5', x6', rfl, ho2, _⟩
      exact watch1 (ho2.get hp))
    (by
      rintro x xs σ' M' ⟨dn, x5', x6', rfl, ho2, hd, rest, hx, hr⟩
      cases rest with
      | nil => simp at hx
      | cons q rest =>
        rw [List.map_cons, List.cons.injEq] at hx
        obtain ⟨rfl, rfl⟩ := hx
        have hnew : (((dn.map fun q => st q.1)).any fun k => decide (k = st q.1)) = false := by
          rw [List.any_eq_false]
          intro y hy e
          obtain ⟨q', hq', rfl⟩ := List.mem_map.mp hy
          have e := st_inj (of_decide_eq_true e)
          have hm : ((dn ++ q :: rest).map (·.1)) = wl j := by rw [hr]; simp
          rw [List.map_append, List.map_cons] at hm
          rw [← hm, List.nodup_append] at nd
          exact nd.2.2 q'.1 (List.mem_map.mpr ⟨q', hq', rfl⟩) q.1 (List.mem_cons_self ..) e
        have hlen : dn.length < SZ := by
          have : dn.length ≤ (wl j).zipIdx.length := by rw [← hr, List.length_append]; omega
          rw [List.length_zipIdx] at this
          unfold SZ; omega
        have hput : put M.length M' (.ref M1.length) (st q.1) (.int q.2) = some (M'.set M1.length (.dct true ((dn ++ [q]).map fun q => st q.1) ((dn ++ [q]).map fun q => .int q.2))) := by
          simp only [put, hd, keyOk, if_true, keyT_st, wOk, decide_eq_true lM1, Bool.true_or, Bool.and_true, Bool.true_and, List.length_map, decide_eq_true hlen, dputV, hnew, Bool.false_eq_true, if_false, List.map_append, List.map_cons, List.map_nil]
        refine ⟨[some (.int ((j + 1 : Nat) : Int)), some (.ref p), x2, some (.ref M1.length), x4, some (st q.1), some (.int q.2), none], rfl, [some (.int ((j + 1 : Nat) : Int)), some (.ref p), x2, some (.ref M1.length), x4, some (st q.1), some (.int q.2), none], _, ?_, dn ++ [q], _, _, rfl, ho2.set (Nat.le_refl _), by rw [List.getElem?_set_self (List.getElem?_eq_some_iff.mp hd).1], rest, rfl, by rw [← hr]; simp⟩
        apply xss_nx
        apply xs_put
        exact ev_var rfl
        exact ev_var rfl
        exact ev_var rfl
        exact hput
        exact xss_nil)
  obtain ⟨rest, hx, hr⟩ := hdn
  have : rest = [] := by cases rest with | nil => rfl | cons _ _ => simp at hx
  subst this
  rw [List.append_nil] at hr
  subst hr
  have hp2 := ho2.get hp
  have lM2 := ho2.le
  apply call_rt (d := d__law_world) h rfl rfl
  apply xss_nx
  apply xs_set
  apply ev_lst
  apply evs_cons
  apply ev_tup
  exact evs_cons ev_cst evs_nil
  decide
  exact evs_nil
  show 1 ≤ SZ
  decide
  exact asgM_nm
  apply xss_nx
  apply xs_for
  apply evi_rng1 (k := (j : Int))
  apply ev_bin
  repeat walk_at "pl"
  refine sub_i.trans ?_
  congr 2
  omega
  exact rOk_nat (by omega)
  rw [ranged0]
  exact hl
  rw [hσ]
  apply xss_nx
  apply xs_set
  exact ev_dnt
  exact asgM_nm
  apply xss_nx
  apply xs_for
  apply evi_enum
  exact ev_var rfl
  refine srcOf_ref (xs := (wl j).map st) ?_
  rw [List.getElem?_append_left lp]; exact hp
  exact hl2
  rw [hσ2]
  apply xss_rt
  repeat walk_at "pl"
  show 3 ≤ SZ
  decide
  show frz _ _ (5 + 1) (.ref M2.length) = _
  have hfp : frz (M2 ++ [MO.lst [.int ((j + 1 : Nat) : Int), .ref p, .ref M1.length]]) M.length (4 + 1) (.ref p) = some (.fl ((wl j).map st)) := frz_lst' (by rw [List.getElem?_append_left (by omega)]; exact hp2) hpm plain_sts
  have hfd : frz (M2 ++ [MO.lst [.int ((j + 1 : Nat) : Int), .ref p, .ref M1.length]]) M.length (4 + 1) (.ref M1.length) = some (.fd ((wl j).zipIdx.map fun q => st q.1) ((wl j).zipIdx.map fun q => .int q.2)) :=
    frz_dct (by rw [List.getElem?_append_left (List.getElem?_eq_some_iff.mp hd2).1]; exact hd2) lM1 (fun x hx => by obtain ⟨q, _, rfl⟩ := List.mem_map.mp hx; exact (pd_st (n := 0)).2.1) (fun x hx => by obtain ⟨q, _, rfl⟩ := List.mem_map.mp hx; rfl) (fun z => wl_ne _ (by simpa using z))
  have hzip : ((wl j).zipIdx.map fun q => st q.1) = (wl j).map st := by
    rw [show (fun q : List Int × Nat => st q.1) = st ∘ Prod.fst from rfl, ← List.map_map]; simp
  rw [hzip] at hfd
  unfold frz
  simp only [frzW]
  rw [if_neg (by have := ho.le; omega), at_end]
  simp only [frzWs, frzW, if_neg (Nat.not_lt.mpr hpm), if_neg (Nat.not_lt.mpr lM1), hfp, hfd, Option.bind_some, Option.map_some]
  rfl
  rw [List.take_append_of_le_length (by have := ho.le; omega)]
  exact (ho.trans ho2).out
end PL.LB

/-! LB7: the bag is made. -/
namespace PL.LB
def absI (i : Int) : Int := if i < 0 then -i else i
theorem own_bag_run {D : String → Option Def} (h : D "_law_own_bag" = some d__law_own_bag) (n : Nat) (ns : List Int) :
    ∃ r g M', callN D (n + 1) 0 "_law_own_bag" [.cl (ns.map .int)] [] = .ok (.ref r) M' ∧ BagAt M' r g := by
  let cells : List Int := (ns.take 63).map absI
  have hz : cells.length ≤ 63 := by simp only [cells, List.length_map, List.length_take]; omega
  have hcomp := compL_enc (w := [(0, (ns.take 63).map .int)]) (t := .nm 3) (c := fun σ' M' => evc (parsOf D) (callN D n) 0 .none σ' M') (e := fun σ' M' => ev (parsOf D) (callN D n) 0 (.pr .abs (.cons (.var 3) .nil)) σ' M')
    (σ := [some (.cl (ns.map .int)), none, none, none]) (M := [.lst ((ns.take 63).map .int)]) V.int (fun _ => true) (fun i => .int (absI i)) (ns.take 63) []
    (fun _ => watch1 rfl) (fun i hi => ⟨[some (.cl (ns.map .int)), none, none, some (.int i)], rfl, fun acc => ⟨evc_none, fun _ => ev_pr (evs_cons (ev_var rfl) evs_nil) rfl⟩⟩) (by unfold SZ; simp; omega)
  rw [filter_true, List.nil_append] at hcomp
  have hcells : ((ns.take 63).map fun i => V.int (absI i)) = cells.map V.int := by rw [show cells = (ns.take 63).map absI from rfl, List.map_map]; rfl
  rw [hcells] at hcomp
  obtain ⟨σ1, M1, hl, m, x3, hσ, hM⟩ := forL_inv (w := [(1, cells.map .int)]) (t := .nm 3)
    (b := fun σ' M' => xss (parsOf D) (callN D n) 0 (.cons (.set (.nm 2) (.bin .mod (.bin .add (.bin .add (.bin .mul (.var 2) (.cst (.int 48271))) (.bin .mod (.pr .int (.cons (.var 3) .nil)) (.cst (.int 2147483629)))) (.cst (.int 7))) (.cst (.int 2147483647)))) .nil) σ' M')
    (fun xs σ' M' => ∃ (m : Int) (x3 : Option V), (σ' = [some (.cl (ns.map .int)), some (.ref 1), some (.int m), x3] ∧ M' = [.lst ((ns.take 63).map .int), .lst (cells.map .int)]) ∧ ∃ rest : List Int, xs = rest.map V.int)
    (cells.map .int) [some (.cl (ns.map .int)), some (.ref 1), some (.int (2468 + cells.length)), none] [.lst ((ns.take 63).map .int), .lst (cells.map .int)]
    ⟨2468 + cells.length, none, ⟨rfl, rfl⟩, cells, rfl⟩
    (by
      rintro xs σ' M' ⟨m, x3, ⟨rfl, rfl⟩, _⟩
      exact watch1 rfl)
    (by
      rintro x xs σ' M' ⟨m, x3, ⟨rfl, rfl⟩, rest, hx⟩
      cases rest with
      | nil => simp at hx
      | cons i rest =>
        rw [List.map_cons, List.cons.injEq] at hx
        obtain ⟨rfl, rfl⟩ := hx
        refine ⟨[some (.cl (ns.map .int)), some (.ref 1), some (.int m), some (.int i)], rfl, [some (.cl (ns.map .int)), some (.ref 1), some (.int ((m * 48271 + i % 2147483629 + 7) % 2147483647)), some (.int i)], [.lst ((ns.take 63).map .int), .lst (cells.map .int)], ?_, _, _, ⟨rfl, rfl⟩, rest, rfl⟩
        apply xss_nx
        apply xs_set
        apply ev_bin
        apply ev_bin
        apply ev_bin
        apply ev_bin
        exact ev_var rfl
        exact ev_cst
        exact mul_i (mulOk_r (by decide))
        repeat walk_at "pl"
        repeat walk_at "pl"
        exact xss_nil)
  obtain ⟨hσ, rfl⟩ := hσ
  refine ⟨3, 2, [.lst ((ns.take 63).map .int), .lst (cells.map .int), .lst (cells.reverse.map .int), .lst [.ref 2, .int 0, .int m]], ?_, cells.reverse, 0, m, ⟨by decide, rfl, rfl, by rw [List.length_reverse]; omega⟩⟩
  apply call_live (d := d__law_own_bag) h rfl rfl
  apply xss_nx
  apply xs_set
  apply ev_comp
  apply evi_of
  apply ev_slc
  exact ev_var rfl
  exact evo_none
  exact evo_some ev_cst
  show alloc (.lst (cut (ns.map V.int) none (some ((63 : Nat) : Int)))) [] = _
  rw [cut_to, ← List.map_take]
  rfl
  exact srcOf_ref rfl
  exact hcomp
  exact asgM_nm
  apply xss_nx
  apply xs_set
  apply ev_bin
  exact ev_cst
  apply ev_pr
  repeat walk_at "pl"
  exact len_ref (xs := cells.map .int) rfl
  exact add_i
  exact asgM_nm
  apply xss_nx
  apply xs_for
  apply evi_of
  exact ev_var rfl
  exact srcOf_ref (xs := cells.map .int) rfl
  rw [List.length_map]
  exact hl
  rw [hσ]
  apply xss_rt
  apply xs_ret
  refine (ev_lst (M1 := [.lst ((ns.take 63).map .int), .lst (cells.map .int), .lst (cells.reverse.map .int)]) (vs := [.ref 2, .int 0, .int m]) ?_ ?_).trans rfl
  rw [List.map_reverse]
  exact evs_cons (ev_rev (vs := cells.map .int) (ev_var rfl) rfl) (evs_cons ev_cst (evs_cons (ev_var rfl) evs_nil))
  show 3 ≤ SZ
  decide
end PL.LB

/-! LTP: tables: plain. -/
namespace PL.LB
theorem idxOf_app {l m : List Int} {x : Int} (h : x ∈ l) : (l ++ m).idxOf x = l.idxOf x := by
  induction l with
  | nil => cases h
  | cons y l ih =>
    rw [List.cons_append, List.idxOf_cons, List.idxOf_cons]
    by_cases e : y = x
    · subst e; simp
    · rw [beq_eq_false_iff_ne.mpr e]
      simp only [cond_false]
      rw [ih ((List.mem_cons.mp h).resolve_left fun z => e z.symm)]
theorem idxOf_end {l : List Int} {x : Int} (h : x ∉ l) : (l ++ [x]).idxOf x = l.length := by
  induction l with
  | nil => simp
  | cons y l ih =>
    rw [List.cons_append, List.idxOf_cons]
    have : ¬ y = x := fun e => h (e ▸ List.mem_cons_self ..)
    rw [beq_eq_false_iff_ne.mpr this]
    simp only [cond_false, List.length_cons]
    rw [ih fun hm => h (List.mem_cons_of_mem _ hm)]
theorem shape_snoc (s : List Int) (x : Int) : ∃ j : Nat, j ≤ (things s).length ∧ shape (s ++ [x]) = shape s ++ [(j : Int)] := by
  unfold shape
  rw [things_snoc, List.map_append]
  by_cases h : x ∈ s
  · rw [if_pos h, List.append_nil]
    exact ⟨(things s).idxOf x, Nat.le_of_lt (List.idxOf_lt_length_of_mem ((mem_things s).mpr h)), rfl⟩
  · rw [if_neg h]
    refine ⟨(things s).length, Nat.le_refl _, ?_⟩
    congr 1
    · refine List.map_congr_left fun y hy => ?_
      rw [idxOf_app ((mem_things s).mpr hy)]
    · simp only [List.map_cons, List.map_nil]
      rw [idxOf_end fun hm => h ((mem_things s).mp hm)]
theorem shape_in : ∀ (k : Nat) (s : List Int), s.length = k + 1 → shape s ∈ wl k
  | 0, s, h => by
    match s, h with
    | [x], _ =>
      have : shape [x] = [0] := by simp [shape, things]
      rw [this]; exact List.mem_singleton.mpr rfl
  | k + 1, s, h => by
    have hne : s ≠ [] := fun e => by rw [e] at h; simp at h
    obtain ⟨t, x, rfl⟩ : ∃ t x, s = t ++ [x] := ⟨s.dropLast, s.getLast hne, (List.dropLast_concat_getLast hne).symm⟩
    have ht : t.length = k + 1 := by rw [List.length_append, List.length_singleton] at h; omega
    have htn : t ≠ [] := fun e => by rw [e] at ht; simp at ht
    obtain ⟨j, hj, e⟩ := shape_snoc t x
    rw [e]
    refine List.mem_flatMap.mpr ⟨shape t, shape_in k t ht, List.mem_map.mpr ⟨j, ?_, rfl⟩⟩
    rw [List.mem_range, (shape_canon htn).mx]
    omega
theorem Canon.uniq {s : List Int} {N N' : Nat} (h : Canon s N) (h' : Canon s N') : N = N' := by
  have := h.mx.symm.trans h'.mx
  omega
theorem Canon.of_mem {s t : List Int} {N : Nat} (h : Canon s N) (e : ∀ x, x ∈ t ↔ x ∈ s) : Canon t N :=
  ⟨h.pos, fun x hx => h.rng x ((e x).mp hx), fun k hk => (e _).mpr (h.all k hk)⟩
/-- an entry of a pattern -/
def EOk (q e : List Int) : Prop := e.length = q.length ∧ ∃ N, Canon q N ∧ Canon e N
/-- the number of a row's pattern -/
def idxP (k : Nat) (s : List Int) : Nat := (wl k).idxOf s
theorem idxP_lt {k : Nat} {q : List Int} (h : q ∈ wl k) : idxP k q < (wl k).length := List.idxOf_lt_length_of_mem h
theorem idxP_at {k : Nat} {q : List Int} (h : q ∈ wl k) : (wl k).getD (idxP k q) [] = q := by
  rw [List.getD, List.getElem?_eq_getElem (idxP_lt h)]
  simp [idxP]
def at_ (T : List (List Int)) (i : Nat) : List Int := T.getD i []
/-- a table of the world k -/
structure TOk (k : Nat) (T : List (List Int)) : Prop where
  len : T.length = (wl k).length
  ent : ∀ i, i < (wl k).length → EOk (at_ (wl k) i) (at_ T i)
theorem at_get {T : List (List Int)} {i : Nat} (h : i < T.length) : at_ T i = T[i] := by simp [at_, List.getD, h]
theorem at_mem {T : List (List Int)} {i : Nat} (h : i < T.length) : at_ T i ∈ T := by rw [at_get h]; exact List.getElem_mem h
def bhd (k : Nat) (T : List (List Int)) (row : List Int) : List Int := (at_ T (idxP k (shape row))).map (thingAt (things row))
theorem things_len {s : List Int} {N : Nat} (h : Canon s N) : (things s).length = N := by
  have hper : (things s).Perm ((List.range N).map fun k : Nat => (k : Int)) := by
    refine (List.perm_ext_iff_of_nodup (things_nodup s) ?_).mpr fun x => ?_
    · exact List.pairwise_map.mpr (List.Pairwise.imp (fun {a b} h e => h (by omega)) List.nodup_range)
    · rw [mem_things, List.mem_map]
      constructor
      · intro hx
        obtain ⟨q1, q2⟩ := h.rng x hx
        exact ⟨x.toNat, by rw [List.mem_range]; omega, by omega⟩
      · rintro ⟨k, hk, rfl⟩
        exact h.all k (List.mem_range.mp hk)
  have := hper.length_eq
  rwa [List.length_map, List.length_range] at this
/-- the table's entry of a row's pattern -/
theorem TOk.of {k : Nat} {T : List (List Int)} (h : TOk k T) {row : List Int} (hr : row.length = k + 1) :
    idxP k (shape row) < T.length ∧ (at_ T (idxP k (shape row))).length = k + 1 ∧ Canon (at_ T (idxP k (shape row))) (things row).length := by
  have hin := shape_in k row hr
  have hlt := idxP_lt hin
  have hat : at_ (wl k) (idxP k (shape row)) = shape row := idxP_at hin
  obtain ⟨h1, N, h2, h3⟩ := h.ent _ hlt
  rw [hat] at h1 h2
  have hne : row ≠ [] := fun e => by rw [e] at hr; simp at hr
  rw [h2.uniq (shape_canon hne)] at h3
  exact ⟨by rw [h.len]; exact hlt, by rw [h1, shape_len, hr], h3⟩
theorem bhd_len {k : Nat} {T : List (List Int)} (h : TOk k T) {row : List Int} (hr : row.length = k + 1) : (bhd k T row).length = k + 1 := by
  rw [bhd, List.length_map]; exact (h.of hr).2.1
theorem thingAt_mem {T : List Int} {x : Int} (h : 0 ≤ x ∧ x < T.length) : thingAt T x ∈ T := by
  have : x.toNat < T.length := by omega
  rw [thingAt, getD_eq this]; exact List.getElem_mem this
theorem bhd_mem {k : Nat} {T : List (List Int)} (h : TOk k T) {row : List Int} (hr : row.length = k + 1) (x : Int) : x ∈ bhd k T row ↔ x ∈ row := by
  obtain ⟨_, _, hc⟩ := h.of hr
  rw [bhd, List.mem_map]
  constructor
  · rintro ⟨y, hy, rfl⟩
    exact (mem_things row).mp (thingAt_mem (hc.rng y hy))
  · intro hx
    exact ⟨((things row).idxOf x : Int), hc.all _ (List.idxOf_lt_length_of_mem ((mem_things row).mpr hx)), things_back hx⟩
theorem wl_ok (k : Nat) : TOk k (wl k) := ⟨rfl, fun i hi => by
  obtain ⟨_, N, hc, _⟩ := wl_canon k _ (at_mem hi)
  exact ⟨rfl, N, hc, hc⟩⟩
/-- an entry by its things -/
theorem EOk.of {k : Nat} {q e : List Int} (hq : q ∈ wl k) (hl : e.length = k + 1) (hm : ∀ x, x ∈ e ↔ x ∈ q) : EOk q e := by
  obtain ⟨l, N, hc, _⟩ := wl_canon k q hq
  exact ⟨hl.trans l.symm, N, hc, hc.of_mem hm⟩
theorem EOk.mem {q e : List Int} (h : EOk q e) (x : Int) : x ∈ e ↔ x ∈ q := by
  obtain ⟨_, N, h1, h2⟩ := h
  constructor
  · intro hx; obtain ⟨a, b⟩ := h2.rng x hx
    have := h1.all x.toNat (by omega); rwa [Int.toNat_of_nonneg a] at this
  · intro hx; obtain ⟨a, b⟩ := h1.rng x hx
    have := h2.all x.toNat (by omega); rwa [Int.toNat_of_nonneg a] at this
theorem wl_len {k : Nat} {q : List Int} (h : q ∈ wl k) : q.length = k + 1 := (wl_canon k q h).1
theorem TOk.elen {k : Nat} {T : List (List Int)} (h : TOk k T) {e : List Int} (he : e ∈ T) : e.length = k + 1 := by
  obtain ⟨i, hi, rfl⟩ := List.mem_iff_getElem.mp he
  have hi' : i < (wl k).length := by rw [← h.len]; exact hi
  have := (h.ent i hi').1
  rw [at_get hi, at_get hi'] at this
  rw [this, wl_len (List.getElem_mem hi')]
theorem at_map {T : List (List Int)} {f : List Int → List Int} {i : Nat} (h : i < T.length) : at_ (T.map f) i = f (at_ T i) := by
  rw [at_get (by simpa using h), at_get h]; simp
/-- a table made of a table, entry by entry, the same things in each -/
theorem TOk.map {k : Nat} {T : List (List Int)} (h : TOk k T) {f : List Int → List Int} (hf : ∀ e, e.length = k + 1 → (f e).length = k + 1 ∧ ∀ x, x ∈ f e ↔ x ∈ e) : TOk k (T.map f) :=
  ⟨by rw [List.length_map]; exact h.len, fun i hi => by
    have hi' : i < T.length := by rw [h.len]; exact hi
    have he := h.ent i hi
    have hl : (at_ T i).length = k + 1 := h.elen (at_mem hi')
    obtain ⟨f1, f2⟩ := hf _ hl
    rw [at_map hi']
    exact EOk.of (at_mem hi) f1 fun x => (f2 x).trans (he.mem x)⟩
def put_ (k : Nat) (one other : List (List Int)) : List (List Int) := one.map (bhd k other)
theorem put_ok {k : Nat} {one other : List (List Int)} (h1 : TOk k one) (h2 : TOk k other) : TOk k (put_ k one other) :=
  h1.map fun e he => ⟨bhd_len h2 he, bhd_mem h2 he⟩
theorem TOk.set {k : Nat} {T : List (List Int)} (h : TOk k T) {i : Nat} (hi : i < (wl k).length) {e : List Int} (he : EOk (at_ (wl k) i) e) : TOk k (T.set i e) :=
  ⟨by rw [List.length_set]; exact h.len, fun j hj => by
    by_cases c : j = i
    · subst c
      rw [at_get (T := T.set j e) (by rw [List.length_set, h.len]; exact hj)]
      simpa using he
    · have : at_ (T.set i e) j = at_ T j := by
        simp only [at_, List.getD, List.getElem?_set_ne (Ne.symm c)]
      rw [this]; exact h.ent j hj⟩
/-! ### deeds -/
/-- whether a deed holds at a row -/
def heldF (s : List Int) (al ul : List (Nat × Nat)) (a b : Nat) : Bool :=
  al.all (fun p => s.getD p.1 0 == s.getD p.2 0) && ul.all (fun p => s.getD p.1 0 != s.getD p.2 0) && (s.getD a 0 != s.getD b 0) && decide (1 < (s.countP fun x => x == s.getD b 0))
def doneF (s : List Int) (al ul : List (Nat × Nat)) (a b : Nat) : List Int := if heldF s al ul a b = true then doneL s a b else s
theorem held_cp {s : List Int} {al ul : List (Nat × Nat)} {a b : Nat} (ha : a < s.length) (hb : b < s.length) (h : heldF s al ul a b = true) : Cp s a b := by
  simp only [heldF, Bool.and_eq_true, bne_iff_ne, ne_eq, decide_eq_true_eq] at h
  exact ⟨ha, hb, h.1.2, h.2⟩
theorem doneF_ok {s : List Int} {al ul : List (Nat × Nat)} {a b : Nat} (ha : a < s.length) (hb : b < s.length) : (doneF s al ul a b).length = s.length ∧ ∀ x, x ∈ doneF s al ul a b ↔ x ∈ s := by
  unfold doneF
  split
  · rename_i h
    exact ⟨doneL_len s a b, (held_cp ha hb h).mem⟩
  · exact ⟨rfl, fun _ => Iff.rfl⟩
/-- a deed of n boxes -/
structure DOk (n : Nat) (al ul : List (Nat × Nat)) (a b : Nat) : Prop where
  la : a < n
  lb : b < n
  bal : ∀ p ∈ al, p.1 < n ∧ p.2 < n
  bul : ∀ p ∈ ul, p.1 < n ∧ p.2 < n
  zal : al.length ≤ 100
  zul : ul.length ≤ 100
def dtab (k : Nat) (al ul : List (Nat × Nat)) (a b : Nat) : List (List Int) := (wl k).map fun s => doneF s al ul a b
theorem dtab_ok {k : Nat} {al ul : List (Nat × Nat)} {a b : Nat} (h : DOk (k + 1) al ul a b) : TOk k (dtab k al ul a b) :=
  (wl_ok k).map fun e he => by
    obtain ⟨h1, h2⟩ := doneF_ok (s := e) (al := al) (ul := ul) (by rw [he]; exact h.la) (by rw [he]; exact h.lb)
    exact ⟨by rw [h1, he], h2⟩
/-! ### levels -/
def lv (k m : Nat) : List Nat := (((wl k).zipIdx.filter fun q => mx q.1 + 1 == (m : Int))).map (·.2)
theorem lv_mem {k m i : Nat} (h : i ∈ lv k m) : i < (wl k).length ∧ mx (at_ (wl k) i) + 1 = m := by
  obtain ⟨⟨q, j⟩, hq, rfl⟩ := List.mem_map.mp h
  rw [List.mem_filter] at hq
  obtain ⟨h1, h2⟩ := mem_zip_lt hq.1
  refine ⟨h1, ?_⟩
  rw [at_, List.getD, h2]
  simpa using hq.2
theorem lv_ne : ∀ k, k < 5 → ∀ m, m < k + 2 → 1 ≤ m → lv k m ≠ [] := by decide +kernel
theorem lv_len (k m : Nat) : (lv k m).length ≤ (wl k).length := by
  unfold lv
  rw [List.length_map]
  exact Nat.le_trans (List.length_filter_le _ _) (by simp)
theorem lv_canon {k m i : Nat} (h : i ∈ lv k m) : Canon (at_ (wl k) i) m := by
  obtain ⟨h1, h2⟩ := lv_mem h
  obtain ⟨_, N, hc, _⟩ := wl_canon k _ (at_mem h1)
  have := hc.mx
  have : N = m := by omega
  rw [← this]; exact hc
/-- patterns of one level: each is an entry of each -/
theorem lv_ent {k m i j : Nat} (hi : i ∈ lv k m) (hj : j ∈ lv k m) : EOk (at_ (wl k) i) (at_ (wl k) j) :=
  ⟨by rw [wl_len (at_mem (lv_mem hi).1), wl_len (at_mem (lv_mem hj).1)], m, lv_canon hi, lv_canon hj⟩
theorem lv_cps {k m i : Nat} (hm : 2 ≤ m) (hm2 : m < k + 1) (hi : i ∈ lv k m) : cps (at_ (wl k) i) ≠ [] := fun e => by
  have hc := lv_canon hi
  have hl := wl_len (at_mem (lv_mem hi).1)
  rcases no_cps hc e with h | h
  · rw [hc.mx] at h; omega
  · rw [hc.mx, hl] at h; omega
/-- an order laid over a pattern -/
theorem laid_ok {k m i j : Nat} (hi : i ∈ lv k m) (hj : j ∈ lv k m) {os : List Int} (h : os.Perm ((List.range m).map fun i : Nat => (i : Int))) : EOk (at_ (wl k) i) ((at_ (wl k) j).map (thingAt os)) := by
  have hc := lv_canon hj
  have hl : os.length = m := by have := h.length_eq; rwa [List.length_map, List.length_range] at this
  refine ⟨by rw [List.length_map, wl_len (at_mem (lv_mem hi).1), wl_len (at_mem (lv_mem hj).1)], m, lv_canon hi, hc.pos, fun x hx => ?_, fun t ht => ?_⟩
  · obtain ⟨y, hy, rfl⟩ := List.mem_map.mp hx
    have := h.mem_iff.mp (thingAt_mem (T := os) (x := y) (by rw [hl]; exact hc.rng y hy))
    obtain ⟨z, hz, e⟩ := List.mem_map.mp this
    have := List.mem_range.mp hz
    omega
  · have hm : (t : Int) ∈ os := h.mem_iff.mpr (List.mem_map.mpr ⟨t, List.mem_range.mpr ht, rfl⟩)
    obtain ⟨p1, p2⟩ := idxOf_getD hm
    refine List.mem_map.mpr ⟨(os.idxOf (t : Int) : Int), hc.all _ (by omega), ?_⟩
    rw [thingAt, Int.toNat_natCast]; exact p2
theorem lv_of {k i : Nat} (hi : i < (wl k).length) : ∃ m, i ∈ lv k m ∧ 1 ≤ m ∧ m ≤ k + 1 ∧ mx (at_ (wl k) i) + 1 = m := by
  obtain ⟨_, N, hc, hN⟩ := wl_canon k _ (at_mem hi)
  have hp := hc.pos
  refine ⟨N, ?_, hp, hN, by rw [hc.mx]; omega⟩
  refine List.mem_map.mpr ⟨(at_ (wl k) i, i), ?_, rfl⟩
  rw [List.mem_filter]
  refine ⟨?_, ?_⟩
  · rw [List.mem_zipIdx_iff_getElem?, List.getElem?_eq_getElem hi, at_get hi]
  · rw [beq_iff_eq]; simp only; rw [hc.mx]; omega
end PL.LB

/-! LT1: tables: run. -/
namespace PL.LB
def d__law_behind : Def := ⟨["world", "table", "row"], 7, false,
    (.cons (.set (.nm 3) (.fn "_law_things" (.cons (.var 2) .nil)))
    (.cons (.set (.nm 4) (.pr .tuple (.cons (.comp (.nm 5) (.of (.var 2)) .none (.mt .index (.var 3) (.cons (.var 5) .nil))) .nil)))
    (.cons (.ret (.pr .tuple (.cons (.comp (.nm 6) (.of (.idx (.var 1) (.idx (.idx (.var 0) (.cst (.int 2))) (.var 4)))) .none (.idx (.var 3) (.var 6))) .nil)))
    .nil)))⟩

def d__law_put : Def := ⟨["world", "one", "other"], 4, false,
    (.cons (.ret (.pr .tuple (.cons (.comp (.nm 3) (.of (.var 1)) .none (.fn "_law_behind" (.cons (.var 0) (.cons (.var 2) (.cons (.var 3) .nil))))) .nil)))
    .nil)⟩

def d__law_done : Def := ⟨["row", "deed"], 9, false,
    (.cons (.set (.tp (.cons (.nm 3) (.cons (.nm 4) (.cons (.nm 5) (.cons (.nm 6) .nil))))) (.var 1))
    (.cons (.set (.nm 2) (.bop true (.cons (.pr .all (.cons (.comp (.tp (.cons (.nm 7) (.cons (.nm 8) .nil))) (.of (.var 3)) .none (.cmp .eq (.idx (.var 0) (.var 7)) (.idx (.var 0) (.var 8)))) .nil)) (.cons (.pr .all (.cons (.comp (.tp (.cons (.nm 7) (.cons (.nm 8) .nil))) (.of (.var 4)) .none (.cmp .ne (.idx (.var 0) (.var 7)) (.idx (.var 0) (.var 8)))) .nil)) .nil))))
    (.cons (.ret (.ite (.bop true (.cons (.var 2) (.cons (.cmp .ne (.idx (.var 0) (.var 5)) (.idx (.var 0) (.var 6))) (.cons (.cmp .gt (.mt .count (.var 0) (.cons (.idx (.var 0) (.var 6)) .nil)) (.cst (.int 1))) .nil)))) (.fn "_law_copied" (.cons (.var 0) (.cons (.var 5) (.cons (.var 6) .nil)))) (.var 0)))
    .nil)))⟩

def d__law_deed_table : Def := ⟨["world", "deed"], 3, false,
    (.cons (.ret (.pr .tuple (.cons (.comp (.nm 2) (.of (.idx (.var 0) (.cst (.int 1)))) .none (.fn "_law_done" (.cons (.var 2) (.cons (.var 1) .nil)))) .nil)))
    .nil)⟩

def d__law_level : Def := ⟨["world", "m"], 4, false,
    (.cons (.ret (.comp (.tp (.cons (.nm 2) (.cons (.nm 3) .nil))) (.enum (.idx (.var 0) (.cst (.int 1)))) (.some (.cmp .eq (.bin .add (.pr .max (.cons (.var 3) .nil)) (.cst (.int 1))) (.var 1))) (.var 2)))
    .nil)⟩

def d__law_full : Def := ⟨["pattern", "a", "b"], 7, false,
    (.cons (.set (.nm 3) (.lst .nil))
    (.cons (.for (.nm 4) (.rng1 (.pr .len (.cons (.var 0) .nil))) (.cons (.ex (.mt .extend (.var 3) (.cons (.comp (.nm 6) (.rng2 (.bin .add (.var 4) (.cst (.int 1))) (.pr .len (.cons (.var 0) .nil))) .none (.tup (.cons (.var 4) (.cons (.var 6) .nil)))) .nil)))
    .nil))
    (.cons (.set (.nm 5) (.pr .tuple (.cons (.comp (.tp (.cons (.nm 4) (.cons (.nm 6) .nil))) (.of (.var 3)) (.some (.cmp .eq (.idx (.var 0) (.var 4)) (.idx (.var 0) (.var 6)))) (.tup (.cons (.var 4) (.cons (.var 6) .nil)))) .nil)))
    (.cons (.ret (.tup (.cons (.var 5) (.cons (.pr .tuple (.cons (.comp (.tp (.cons (.nm 4) (.cons (.nm 6) .nil))) (.of (.var 3)) (.some (.cmp .ne (.idx (.var 0) (.var 4)) (.idx (.var 0) (.var 6)))) (.tup (.cons (.var 4) (.cons (.var 6) .nil)))) .nil)) (.cons (.var 1) (.cons (.var 2) .nil))))))
    .nil))))⟩

def d__law_deed : Def := ⟨["bag", "world"], 12, false,
    (.cons (.set (.nm 2) (.idx (.var 1) (.cst (.int 0))))
    (.cons (.iff (.cmp .eq (.fn "_law_draw" (.cons (.var 0) (.cons (.cst (.int 2)) .nil))) (.cst (.int 0))) (.cons (.set (.nm 6) (.idx (.idx (.var 1) (.cst (.int 1))) (.bin .add (.cst (.int 1)) (.fn "_law_draw" (.cons (.var 0) (.cons (.bin .sub (.pr .len (.cons (.idx (.var 1) (.cst (.int 1))) .nil)) (.cst (.int 2))) .nil))))))
    (.cons (.set (.tp (.cons (.nm 3) (.cons (.nm 4) .nil))) (.fn "_law_pick" (.cons (.var 0) (.cons (.fn "_law_copies" (.cons (.var 6) .nil)) .nil))))
    (.cons (.ret (.fn "_law_full" (.cons (.var 6) (.cons (.var 3) (.cons (.var 4) .nil)))))
    .nil))) .nil)
    (.cons (.set (.nm 3) (.fn "_law_draw" (.cons (.var 0) (.cons (.var 2) .nil))))
    (.cons (.set (.nm 4) (.bin .mod (.bin .add (.bin .add (.var 3) (.cst (.int 1))) (.fn "_law_draw" (.cons (.var 0) (.cons (.bin .sub (.var 2) (.cst (.int 1))) .nil)))) (.var 2)))
    (.cons (.par [7, 8, 9] (.cons (.lst .nil) (.cons (.lst .nil) (.cons (.bin .add (.cst (.int 3)) (.fn "_law_draw" (.cons (.var 0) (.cons (.bin .mul (.cst (.int 2)) (.var 2)) .nil)))) .nil))))
    (.cons (.for (.nm 5) (.rng1 (.var 2)) (.cons (.for (.nm 10) (.rng2 (.bin .add (.var 5) (.cst (.int 1))) (.var 2)) (.cons (.set (.nm 11) (.fn "_law_draw" (.cons (.var 0) (.cons (.var 9) .nil))))
    (.cons (.iff (.bop false (.cons (.cmp .eq (.var 11) (.cst (.int 0))) (.cons (.bop true (.cons (.cmp .eq (.var 11) (.cst (.int 2))) (.cons (.cmp .eq (.fn "_law_draw" (.cons (.var 0) (.cons (.cst (.int 20)) .nil))) (.cst (.int 0))) .nil))) .nil))) (.cons (.ex (.mt .append (.var 7) (.cons (.tup (.cons (.var 5) (.cons (.var 10) .nil))) .nil)))
    .nil) .nil)
    (.cons (.iff (.bop false (.cons (.cmp .eq (.var 11) (.cst (.int 1))) (.cons (.bop true (.cons (.cmp .eq (.var 11) (.cst (.int 0))) (.cons (.cmp .eq (.fn "_law_draw" (.cons (.var 0) (.cons (.cst (.int 20)) .nil))) (.cst (.int 0))) .nil))) .nil))) (.cons (.ex (.mt .append (.var 8) (.cons (.tup (.cons (.var 5) (.cons (.var 10) .nil))) .nil)))
    .nil) .nil)
    .nil))))
    .nil))
    (.cons (.ret (.tup (.cons (.pr .tuple (.cons (.var 7) .nil)) (.cons (.pr .tuple (.cons (.var 8) .nil)) (.cons (.var 3) (.cons (.var 4) .nil))))))
    .nil)))))))⟩

def d__law_entry : Def := ⟨["bag", "world", "number"], 4, false,
    (.cons (.set (.nm 3) (.fn "_law_level" (.cons (.var 1) (.cons (.bin .add (.pr .max (.cons (.idx (.idx (.var 1) (.cst (.int 1))) (.var 2)) .nil)) (.cst (.int 1))) .nil))))
    (.cons (.ret (.fn "_law_laid" (.cons (.var 0) (.cons (.var 1) (.cons (.fn "_law_pick" (.cons (.var 0) (.cons (.var 3) .nil))) .nil)))))
    .nil))⟩

def d__law_laid : Def := ⟨["bag", "world", "target"], 6, false,
    (.cons (.set (.nm 3) (.idx (.idx (.var 1) (.cst (.int 1))) (.var 2)))
    (.cons (.set (.nm 4) (.fn "_law_order" (.cons (.var 0) (.cons (.bin .add (.pr .max (.cons (.var 3) .nil)) (.cst (.int 1))) .nil))))
    (.cons (.ret (.pr .tuple (.cons (.comp (.nm 5) (.of (.var 3)) .none (.idx (.var 4) (.var 5))) .nil)))
    .nil)))⟩

def d__law_level_moved : Def := ⟨["bag", "world", "entries", "m", "way"], 20, false,
    (.cons (.set (.tp (.cons (.nm 6) (.cons (.nm 7) .nil))) (.tup (.cons (.fn "_law_level" (.cons (.var 1) (.cons (.var 3) .nil))) (.cons (.idx (.var 1) (.cst (.int 1))) .nil))))
    (.cons (.par [8, 9] (.cons (.pr .list (.cons (.var 6) .nil)) (.cons (.fn "_law_order" (.cons (.var 0) (.cons (.pr .len (.cons (.var 6) .nil)) .nil))) .nil)))
    (.cons (.iff (.cmp .eq (.var 4) (.cst (.int 5))) (.cons (.for (.nm 10) (.of (.var 6)) (.cons (.put (.var 2) (.var 10) (.idx (.var 7) (.var 10)))
    .nil))
    (.cons .retN
    .nil)) .nil)
    (.cons (.iff (.cmp .eq (.var 4) (.cst (.int 0))) (.cons (.set (.nm 11) (.fn "_law_pick" (.cons (.var 0) (.cons (.var 6) .nil))))
    (.cons (.put (.var 2) (.var 11) (.fn "_law_entry" (.cons (.var 0) (.cons (.var 1) (.cons (.var 11) .nil)))))
    (.cons .retN
    .nil))) .nil)
    (.cons (.set (.nm 5) (.cmp .eq (.fn "_law_draw" (.cons (.var 0) (.cons (.cst (.int 3)) .nil))) (.cst (.int 0))))
    (.cons (.iff (.cmp .eq (.var 4) (.cst (.int 1))) (.cons (.set (.nm 12) (.comp (.nm 16) (.rng1 (.bin .add (.cst (.int 1)) (.fn "_law_draw" (.cons (.var 0) (.cons (.cst (.int 3)) .nil))))) .none (.fn "_law_pick" (.cons (.var 0) (.cons (.var 6) .nil)))))
    (.cons (.set (.nm 8) (.comp (.nm 10) (.of (.var 6)) .none (.fn "_law_pick" (.cons (.var 0) (.cons (.var 12) .nil)))))
    .nil)) (.cons (.iff (.cmp .eq (.var 4) (.cst (.int 4))) (.cons (.set (.nm 8) (.comp (.nm 10) (.of (.var 6)) .none (.fn "_law_pick" (.cons (.var 0) (.cons (.var 6) .nil)))))
    .nil) (.cons (.iff (.cmp .eq (.fn "_law_draw" (.cons (.var 0) (.cons (.cst (.int 2)) .nil))) (.cst (.int 0))) (.cons (.set (.nm 8) (.comp (.nm 19) (.of (.var 9)) .none (.idx (.var 6) (.var 19))))
    .nil) (.cons (.par [17, 18] (.cons (.fn "_law_draw" (.cons (.var 0) (.cons (.pr .len (.cons (.var 6) .nil)) .nil))) (.cons (.fn "_law_draw" (.cons (.var 0) (.cons (.pr .len (.cons (.var 6) .nil)) .nil))) .nil)))
    (.cons (.put (.var 8) (.var 17) (.idx (.var 6) (.var 18)))
    (.cons (.put (.var 8) (.var 18) (.idx (.var 6) (.var 17)))
    .nil))))
    .nil))
    .nil))
    (.cons (.for (.tp (.cons (.nm 10) (.cons (.nm 13) .nil))) (.zip (.var 6) (.var 8)) (.cons (.put (.var 2) (.var 10) (.ite (.var 5) (.idx (.var 7) (.var 13)) (.fn "_law_laid" (.cons (.var 0) (.cons (.var 1) (.cons (.var 13) .nil))))))
    .nil))
    (.cons (.iff (.cmp .eq (.var 4) (.cst (.int 3))) (.cons (.set (.nm 11) (.fn "_law_pick" (.cons (.var 0) (.cons (.var 6) .nil))))
    (.cons (.set (.tp (.cons (.nm 14) (.cons (.nm 15) .nil))) (.fn "_law_pick" (.cons (.var 0) (.cons (.fn "_law_copies" (.cons (.idx (.var 7) (.var 11)) .nil)) .nil))))
    (.cons (.put (.var 2) (.var 11) (.fn "_law_behind" (.cons (.var 1) (.cons (.var 2) (.cons (.fn "_law_copied" (.cons (.idx (.var 7) (.var 11)) (.cons (.var 14) (.cons (.var 15) .nil)))) .nil)))))
    .nil))) .nil)
    .nil))))))))⟩

def d__law_called : Def := ⟨["world", "table", "order"], 8, false,
    (.cons (.par [4, 5] (.cons (.lst .nil) (.cons (.comp (.nm 7) (.rng1 (.pr .len (.cons (.var 2) .nil))) .none (.mt .index (.var 2) (.cons (.var 7) .nil))) .nil)))
    (.cons (.for (.nm 3) (.of (.idx (.var 0) (.cst (.int 1)))) (.cons (.set (.nm 6) (.fn "_law_behind" (.cons (.var 0) (.cons (.var 1) (.cons (.pr .tuple (.cons (.comp (.nm 7) (.of (.var 2)) .none (.idx (.var 3) (.var 7))) .nil)) .nil)))))
    (.cons (.ex (.mt .append (.var 4) (.cons (.pr .tuple (.cons (.comp (.nm 7) (.of (.var 5)) .none (.idx (.var 6) (.var 7))) .nil)) .nil)))
    .nil)))
    (.cons (.ret (.pr .tuple (.cons (.var 4) .nil)))
    .nil)))⟩

def d__law_some_table : Def := ⟨["bag", "world"], 7, false,
    (.cons (.par [3, 4] (.cons (.pr .list (.cons (.idx (.var 1) (.cst (.int 1))) .nil)) (.cons (.idx (.var 1) (.cst (.int 0))) .nil)))
    (.cons (.iff (.cmp .eq (.fn "_law_draw" (.cons (.var 0) (.cons (.cst (.int 2)) .nil))) (.cst (.int 0))) (.cons (.for (.nm 5) (.rng1 (.bin .add (.cst (.int 1)) (.fn "_law_draw" (.cons (.var 0) (.cons (.cst (.int 3)) .nil))))) (.cons (.set (.nm 3) (.pr .list (.cons (.fn "_law_put" (.cons (.var 1) (.cons (.var 3) (.cons (.fn "_law_deed_table" (.cons (.var 1) (.cons (.fn "_law_deed" (.cons (.var 0) (.cons (.var 1) .nil))) .nil))) .nil)))) .nil)))
    .nil))
    .nil) .nil)
    (.cons (.for (.nm 2) (.rng2 (.cst (.int 2)) (.var 4)) (.cons (.set (.nm 6) (.fn "_law_draw" (.cons (.var 0) (.cons (.cst (.int 8)) .nil))))
    (.cons (.iff (.cmp .lt (.var 6) (.cst (.int 6))) (.cons (.ex (.fn "_law_level_moved" (.cons (.var 0) (.cons (.var 1) (.cons (.var 3) (.cons (.var 2) (.cons (.var 6) .nil)))))))
    .nil) .nil)
    .nil)))
    (.cons (.iff (.cmp .eq (.fn "_law_draw" (.cons (.var 0) (.cons (.cst (.int 8)) .nil))) (.cst (.int 0))) (.cons (.put (.var 3) (.neg (.cst (.int 1))) (.fn "_law_entry" (.cons (.var 0) (.cons (.var 1) (.cons (.bin .sub (.pr .len (.cons (.var 3) .nil)) (.cst (.int 1))) .nil)))))
    .nil) .nil)
    (.cons (.ret (.ite (.cmp .eq (.fn "_law_draw" (.cons (.var 0) (.cons (.cst (.int 4)) .nil))) (.cst (.int 0))) (.fn "_law_called" (.cons (.var 1) (.cons (.var 3) (.cons (.fn "_law_order" (.cons (.var 0) (.cons (.var 4) .nil))) .nil)))) (.pr .tuple (.cons (.var 3) .nil))))
    .nil)))))⟩

/-- a list or tuple that reads so, here and behind new objects -/
structure Sq (M : Mem) (v : V) (xs : List V) : Prop where
  h : ∀ N, dkeys (M ++ N) v = none ∧ items (M ++ N) v = some xs
  s : ∃ w, ∀ N, srcOf (M ++ N) v = some (xs, w) ∧ watched w (M ++ N) = true
section
variable {M : Mem} {v : V} {xs : List V}
theorem Sq.fl : Sq M (.fl xs) xs := ⟨fun _ => ⟨rfl, rfl⟩, [], fun _ => ⟨rfl, rfl⟩⟩
theorem Sq.tup : Sq M (.tup xs) xs := ⟨fun _ => ⟨rfl, rfl⟩, [], fun _ => ⟨rfl, rfl⟩⟩
theorem Sq.ref {e : Nat} (h : M[e]? = some (.lst xs)) : Sq M (.ref e) xs := by
  have h' : ∀ N, (M ++ N)[e]? = some (.lst xs) := fun N => by rw [List.getElem?_append_left (List.getElem?_eq_some_iff.mp h).1]; exact h
  exact ⟨fun N => ⟨by simp only [dkeys, h'], by simp only [items, h']⟩, [(e, xs)], fun N => ⟨srcOf_ref (h' N), watch1 (h' N)⟩⟩
theorem Sq.app (h : Sq M v xs) (N : Mem) : Sq (M ++ N) v xs := by
  obtain ⟨h1, w, h2⟩ := h
  exact ⟨fun N' => by rw [List.append_assoc]; exact h1 _, w, fun N' => by rw [List.append_assoc]; exact h2 _⟩
theorem Sq.items (h : Sq M v xs) : items M v = some xs := by have := (h.h []).2; rwa [List.append_nil] at this
theorem Sq.idx (h : Sq M v xs) {i : Nat} {y : V} (hy : xs[i]? = some y) : index M v (.int (i : Int)) = some y := by
  have h1 := h.h []
  rw [List.append_nil] at h1
  exact index_items h1.1 h1.2 (by omega) (by rw [Int.toNat_natCast]; exact hy)
theorem Sq.len (h : Sq M v xs) : prim M .len [v] = .ok (.int xs.length) M := len_items h.items
end
theorem sts_at {T : List (List Int)} {i : Nat} (h : i < T.length) : (T.map st)[i]? = some (st (at_ T i)) := by
  rw [List.getElem?_map, List.getElem?_eq_getElem h, at_get h]; rfl
theorem w0 {M : Mem} {k : Nat} : index M (wv k) (.int 0) = some (.int ((k + 1 : Nat) : Int)) := rfl
theorem w1 {M : Mem} {k : Nat} : index M (wv k) (.int 1) = some (.fl ((wl k).map st)) := rfl
theorem w2 {M : Mem} {k : Nat} : index M (wv k) (.int 2) = some (.fd ((wl k).map st) ((wl k).zipIdx.map fun q => .int q.2)) := rfl
theorem num_get {q : List Int} : ∀ {l : List (List Int)} (s : Nat), q ∈ l → dgetV (l.map st) ((l.zipIdx s).map fun p => .int p.2) (st q) = some (.int ((s + l.idxOf q : Nat) : Int))
  | y :: l, s, h => by
    rw [List.zipIdx_cons, List.map_cons, List.map_cons, List.idxOf_cons]
    simp only [dgetV]
    by_cases e : y = q
    · subst e; simp
    · have : ¬ st y = st q := fun z => e (st_inj z)
      rw [if_neg this, num_get (s + 1) ((List.mem_cons.mp h).resolve_left fun z => e z.symm), beq_eq_false_iff_ne.mpr e]
      simp only [cond_false]
      congr 2
      omega
theorem wnum {M : Mem} {k : Nat} {q : List Int} (h : q ∈ wl k) : index M (.fd ((wl k).map st) ((wl k).zipIdx.map fun q => .int q.2)) (st q) = some (.int (idxP k q : Int)) := by
  have hg := num_get (l := wl k) 0 h
  rw [Nat.zero_add] at hg
  obtain ⟨q0, r, e⟩ := List.exists_cons_of_ne_nil (wl_ne k)
  have hd : dkeys M (.fd ((wl k).map st) ((wl k).zipIdx.map fun q => .int q.2)) = some (true, (wl k).map st, (wl k).zipIdx.map fun q => .int q.2) := by rw [e]; rfl
  simp only [index, hd, keyOk, if_true, keyT_st, hg]
  rfl
theorem pat_at {M : Mem} {k i : Nat} (h : i < (wl k).length) : index M (.fl ((wl k).map st)) (.int (i : Int)) = some (st (at_ (wl k) i)) := Sq.fl.idx (sts_at h)
/-- tuple([things[block] for block in row]) -/
theorem named_run {C : Orc} {P : String → Option (List String)} {mk : Nat} {σ : Env} {M M' : Mem} {X : V} {T t : List Int} {e : E} {i j : Nat} (hj : ∀ x : V, lk (stv σ j x) i = some X ∧ lk (stv σ j x) j = some x) (hX : Sq M' X (T.map .int))
    (he : ev P C mk e σ M = .ok (st t) M') (ht : ∀ x ∈ t, 0 ≤ x ∧ x < T.length) (hz : t.length ≤ 1000) :
    ev P C mk (.pr .tuple (.cons (.comp (.nm j) (.of e) .none (.idx (.var i) (.var j))) .nil)) σ M = .ok (st (t.map (thingAt T))) (M' ++ [.lst ((t.map (thingAt T)).map .int)]) := by
  have hcomp := compL_enc (w := []) (t := .nm j) (c := fun σ' M' => evc P C mk .none σ' M') (e := fun σ' M' => ev P C mk (.idx (.var i) (.var j)) σ' M')
    (σ := σ) (M := M') V.int (fun _ => true) (fun x => .int (thingAt T x)) t []
    (fun _ => rfl) (fun x hx => ⟨stv σ j (.int x), rfl, fun acc => ⟨evc_none, fun _ => by
      apply ev_idx
      exact ev_var (hj _).1
      exact ev_var (hj _).2
      obtain ⟨h1, h2⟩ := ht x hx
      refine index_items (hX.h _).1 (hX.h _).2 h1 ?_
      have hl : x.toNat < T.length := by omega
      rw [List.getElem?_map, List.getElem?_eq_getElem hl, thingAt, getD_eq hl]; rfl⟩⟩) (by unfold SZ; simp; omega)
  apply ev_pr
  apply evs_cons
  apply ev_comp
  apply evi_of
  exact he
  exact srcOf_tup
  exact hcomp
  exact evs_nil
  rw [filter_true, List.nil_append, show (t.map fun x => V.int (thingAt T x)) = (t.map (thingAt T)).map V.int by rw [List.map_map]; rfl]
  exact tuple_ref at_end
section
variable {D : String → Option Def}
theorem behind_tab (hth : D "_law_things" = some d__law_things) (h : D "_law_behind" = some d__law_behind) (n mk : Nat) (M : Mem) {k : Nat} {T : List (List Int)} {tv : V} (hT : TOk k T) (hv : Sq M tv (T.map st)) {row : List Int} (hr : row.length = k + 1) (hk : k < 100) :
    callN D (n + 2) mk "_law_behind" [wv k, tv, st row] M = .ok (st (bhd k T row)) M := by
  have ht := things_run hth n M.length M (s := row) (by omega)
  obtain ⟨t1, t2, t3⟩ := hT.of hr
  have hcomp := compL_enc (w := []) (t := .nm 5) (c := fun σ' M' => evc (parsOf D) (callN D (n + 1)) M.length .none σ' M') (e := fun σ' M' => ev (parsOf D) (callN D (n + 1)) M.length (.mt .index (.var 3) (.cons (.var 5) .nil)) σ' M')
    (σ := [some (wv k), some tv, some (st row), some (.fl ((things row).map .int)), none, none, none]) (M := M) V.int (fun _ => true) (fun x => .int ((things row).idxOf x)) row []
    (fun _ => rfl) (fun x hx => ⟨[some (wv k), some tv, some (st row), some (.fl ((things row).map .int)), none, some (.int x), none], rfl, fun acc => ⟨evc_none, fun _ => by
      apply ev_mt
      exact ev_var rfl
      rfl
      exact evs_cons (ev_var rfl) evs_nil
      exact index_fl ((mem_things row).mpr hx)⟩⟩) (by unfold SZ; simp; omega)
  apply call_rt (d := d__law_behind) h rfl rfl
  apply xss_nx
  apply xs_set
  apply ev_fn
  repeat walk_at "pl"
  exact ht
  exact asgM_nm
  apply xss_nx
  apply xs_set
  apply ev_pr
  apply evs_cons
  apply ev_comp
  apply evi_of
  exact ev_var rfl
  exact srcOf_tup
  exact hcomp
  exact evs_nil
  exact tuple_ref at_end
  exact asgM_nm
  rw [filter_true, List.nil_append, show V.tup (row.map fun x => V.int ((things row).idxOf x)) = st (shape row) by rw [st, shape, List.map_map]; rfl]
  apply xss_rt
  apply xs_ret
  refine named_run (M' := M ++ [MO.lst (row.map fun x => V.int ((things row).idxOf x))]) (X := .fl ((things row).map .int)) (T := things row) (t := at_ T (idxP k (shape row))) (fun x => ⟨rfl, rfl⟩) Sq.fl ?_ t3.rng (by omega)
  apply ev_idx
  exact ev_var rfl
  apply ev_idx
  exact ev_idx (ev_var rfl) ev_cst w2
  exact ev_var rfl
  exact wnum (shape_in k row hr)
  exact (hv.app _).idx (sts_at t1)
  exact frz_st
  simp
theorem put_tab (hth : D "_law_things" = some d__law_things) (hb : D "_law_behind" = some d__law_behind) (h : D "_law_put" = some d__law_put) (n mk : Nat) (M : Mem) {k : Nat} {A T : List (List Int)} {av tv : V} (hA : TOk k A) (ha : Sq M av (A.map st)) (hT : TOk k T) (hv : Sq M tv (T.map st)) (hk : k < 5) :
    callN D (n + 3) mk "_law_put" [wv k, av, tv] M = .ok (.tup ((put_ k A T).map st)) M := by
  obtain ⟨w, hw⟩ := ha.s
  have small := (wl_small k hk).1
  have hcomp := compL_enc (w := w) (t := .nm 3) (c := fun σ' M' => evc (parsOf D) (callN D (n + 2)) M.length .none σ' M') (e := fun σ' M' => ev (parsOf D) (callN D (n + 2)) M.length (.fn "_law_behind" (.cons (.var 0) (.cons (.var 2) (.cons (.var 3) .nil)))) σ' M')
    (σ := [some (wv k), some av, some tv, none]) (M := M) st (fun _ => true) (fun e => st (bhd k T e)) A []
    (fun _ => (hw _).2) (fun e he => ⟨[some (wv k), some av, some tv, some (st e)], rfl, fun acc => ⟨evc_none, fun _ =>
      ev_fn (evs_cons (ev_var rfl) (evs_cons (ev_var rfl) (evs_cons (ev_var rfl) evs_nil))) (behind_tab hth hb n _ _ hT (hv.app _) (hA.elen he) (by omega))⟩⟩) (by unfold SZ; simp; have := hA.len; omega)
  apply call_rt (d := d__law_put) h rfl rfl
  apply xss_rt
  apply xs_ret
  apply ev_pr
  apply evs_cons
  apply ev_comp
  apply evi_of
  exact ev_var rfl
  have := (hw []).1
  rw [List.append_nil] at this
  exact this
  exact hcomp
  exact evs_nil
  rw [filter_true, List.nil_append, show (A.map fun e => st (bhd k T e)) = (put_ k A T).map st by rw [put_, List.map_map]; rfl]
  exact tuple_ref at_end
  exact frz_pd (n := 2) (pd_tup fun x hx => by obtain ⟨q, _, rfl⟩ := List.mem_map.mp hx; exact pd_st)
  simp
/-- a comprehension of comparisons over pairs -/
theorem prs_comp {C : Orc} {P : String → Option (List String)} {mk : Nat} {al : List (Nat × Nat)} {σ : Env} {i u v : Nat} {e : E} {M : Mem} {xv : V} {w : List (Nat × List V)} (f : Nat × Nat → Bool) (hz : al.length ≤ 100) (hi : lk σ i = some xv) (hs : ∀ N, srcOf (M ++ N) xv = some (al.map pe, w) ∧ watched w (M ++ N) = true)
    (h : ∀ q ∈ al, ∀ M', ev P C mk e (stv (stv σ u (.int q.1)) v (.int q.2)) M' = .ok (.bl (f q)) M') :
    ev P C mk (.comp (.tp (.cons (.nm u) (.cons (.nm v) .nil))) (.of (.var i)) .none e) σ M = .ok (.ref M.length) (M ++ [.lst (al.map fun q => .bl (f q))]) := by
  apply ev_comp
  apply evi_of
  exact ev_var hi
  have := (hs []).1
  rw [List.append_nil] at this
  exact this
  have := compL_enc (w := w) (t := .tp (.cons (.nm u) (.cons (.nm v) .nil))) (c := fun σ' M' => evc P C mk .none σ' M') (e := fun σ' M' => ev P C mk e σ' M') (σ := σ) (M := M) pe (fun _ => true) (fun q => .bl (f q)) al [] (fun _ => (hs _).2)
    (fun q hq => ⟨_, rfl, fun acc => ⟨evc_none, fun _ => h q hq _⟩⟩) (by unfold SZ; simp; omega)
  rw [filter_true, List.nil_append] at this
  exact this
theorem all_bls {M : Mem} {α : Type} {l : List α} {g : α → Bool} : prim (M ++ [MO.lst (l.map fun q => .bl (g q))]) .all [.ref M.length] = .ok (.bl (l.all g)) (M ++ [MO.lst (l.map fun q => .bl (g q))]) := by
  simp only [prim, prim1, pBools, litems, at_end, Option.bind_some, bools_map]
  congr 2
  simp [List.all_map, Function.comp_def]
theorem any_bls {M : Mem} {α : Type} {l : List α} {g : α → Bool} : prim (M ++ [MO.lst (l.map fun q => .bl (g q))]) .any [.ref M.length] = .ok (.bl (l.any g)) (M ++ [MO.lst (l.map fun q => .bl (g q))]) := by
  simp only [prim, prim1, pBools, litems, at_end, Option.bind_some, bools_map]
  congr 2
  simp [List.any_map, Function.comp_def]
abbrev prs (l : List (Nat × Nat)) : V := .tup (l.map pe)
abbrev dd (al ul : List (Nat × Nat)) (a b : Nat) : V := .tup [prs al, prs ul, .int a, .int b]
theorem prs_src {M : Mem} {l : List (Nat × Nat)} : ∀ N, srcOf (M ++ N) (prs l) = some (l.map pe, []) ∧ watched [] (M ++ N) = true := fun _ => ⟨rfl, rfl⟩
theorem pair_eq {C : Orc} {P : String → Option (List String)} {mk : Nat} {s : List Int} {σ : Env} {M : Mem} {u v i j : Nat} (h0 : lk σ 0 = some (st s)) (hu : lk σ u = some (.int i)) (hv : lk σ v = some (.int j)) (l1 : i < s.length) (l2 : j < s.length) :
    ev P C mk (.cmp .eq (.idx (.var 0) (.var u)) (.idx (.var 0) (.var v))) σ M = .ok (.bl (s.getD i 0 == s.getD j 0)) M := ev_cmp (ev_idx (ev_var h0) (ev_var hu) (idx_st l1)) (ev_idx (ev_var h0) (ev_var hv) (idx_st l2)) eq_int
theorem pair_ne {C : Orc} {P : String → Option (List String)} {mk : Nat} {s : List Int} {σ : Env} {M : Mem} {u v i j : Nat} (h0 : lk σ 0 = some (st s)) (hu : lk σ u = some (.int i)) (hv : lk σ v = some (.int j)) (l1 : i < s.length) (l2 : j < s.length) :
    ev P C mk (.cmp .ne (.idx (.var 0) (.var u)) (.idx (.var 0) (.var v))) σ M = .ok (.bl (s.getD i 0 != s.getD j 0)) M := ev_cmp (ev_idx (ev_var h0) (ev_var hu) (idx_st l1)) (ev_idx (ev_var h0) (ev_var hv) (idx_st l2)) ne_int
theorem count_gt {C : Orc} {P : String → Option (List String)} {mk : Nat} {s : List Int} {σ : Env} {M : Mem} {j b : Nat} (h0 : lk σ 0 = some (st s)) (hj : lk σ j = some (.int b)) (hb : b < s.length) :
    ev P C mk (.cmp .gt (.mt .count (.var 0) (.cons (.idx (.var 0) (.var j)) .nil)) (.cst (.int 1))) σ M = .ok (.bl (decide (1 < s.countP fun x => x == s.getD b 0))) M := by
  apply ev_cmp
  apply ev_mt
  exact ev_var h0
  rfl
  exact evs_cons (ev_idx (ev_var h0) (ev_var hj) (idx_st hb)) evs_nil
  exact count_st
  exact ev_cst
  simp only [cmpop, intC]
  congr 1
  exact decide_eq_decide.mpr (by omega)
theorem done_tab (hc : D "_law_copied" = some d__law_copied) (h : D "_law_done" = some d__law_done) (n mk : Nat) (M : Mem) {s : List Int} {al ul : List (Nat × Nat)} {a b : Nat} (hd : DOk s.length al ul a b) (hz : s.length ≤ 1000) :
    callN D (n + 2) mk "_law_done" [st s, dd al ul a b] M = .ok (st (doneF s al ul a b)) M := by
  have hcp := fun mk M => copied_run hc n mk M hd.la hd.lb hz
  -- is_so
  have so : ∃ N, ev (parsOf D) (callN D (n + 1)) M.length (.bop true (.cons (.pr .all (.cons (.comp (.tp (.cons (.nm 7) (.cons (.nm 8) .nil))) (.of (.var 3)) .none (.cmp .eq (.idx (.var 0) (.var 7)) (.idx (.var 0) (.var 8)))) .nil)) (.cons (.pr .all (.cons (.comp (.tp (.cons (.nm 7) (.cons (.nm 8) .nil))) (.of (.var 4)) .none (.cmp .ne (.idx (.var 0) (.var 7)) (.idx (.var 0) (.var 8)))) .nil)) .nil)))
      [some (st s), some (dd al ul a b), none, some (prs al), some (prs ul), some (.int a), some (.int b), none, none] M = .ok (.bl (al.all (fun p => s.getD p.1 0 == s.getD p.2 0) && ul.all (fun p => s.getD p.1 0 != s.getD p.2 0))) (M ++ N) := by
    have c1 := prs_comp (P := parsOf D) (C := callN D (n + 1)) (mk := M.length) (M := M) (σ := [some (st s), some (dd al ul a b), none, some (prs al), some (prs ul), some (.int a), some (.int b), none, none]) (i := 3) (u := 7) (v := 8) (e := .cmp .eq (.idx (.var 0) (.var 7)) (.idx (.var 0) (.var 8))) (fun q => s.getD q.1 0 == s.getD q.2 0) hd.zal rfl prs_src
      (fun q hq M' => pair_eq rfl rfl rfl (hd.bal q hq).1 (hd.bal q hq).2)
    have c2 := fun mk M => prs_comp (P := parsOf D) (C := callN D (n + 1)) (mk := mk) (M := M) (σ := [some (st s), some (dd al ul a b), none, some (prs al), some (prs ul), some (.int a), some (.int b), none, none]) (i := 4) (u := 7) (v := 8) (e := .cmp .ne (.idx (.var 0) (.var 7)) (.idx (.var 0) (.var 8))) (fun q => s.getD q.1 0 != s.getD q.2 0) hd.zul rfl prs_src
      (fun q hq M' => pair_ne rfl rfl rfl (hd.bul q hq).1 (hd.bul q hq).2)
    cases g : al.all (fun p => s.getD p.1 0 == s.getD p.2 0) with
    | false =>
      refine ⟨[.lst (al.map fun q => .bl (s.getD q.1 0 == s.getD q.2 0))], ?_⟩
      apply ev_bop
      apply evb_cons (q := false)
      apply ev_pr
      exact evs_cons c1 evs_nil
      rw [all_bls, g]
      exact if_neg (by decide)
    | true =>
      refine ⟨[.lst (al.map fun q => .bl (s.getD q.1 0 == s.getD q.2 0))] ++ [.lst (ul.map fun q => .bl (s.getD q.1 0 != s.getD q.2 0))], ?_⟩
      apply ev_bop
      apply evb_cons (q := true)
      apply ev_pr
      exact evs_cons c1 evs_nil
      rw [all_bls, g]
      refine (if_pos rfl).trans ?_
      apply evb_one
      apply ev_pr
      exact evs_cons (c2 _ _) evs_nil
      rw [all_bls, Bool.true_and, List.append_assoc]
  obtain ⟨N, so⟩ := so
  have last : ∀ M', ev (parsOf D) (callN D (n + 1)) M.length (.ite (.bop true (.cons (.var 2) (.cons (.cmp .ne (.idx (.var 0) (.var 5)) (.idx (.var 0) (.var 6))) (.cons (.cmp .gt (.mt .count (.var 0) (.cons (.idx (.var 0) (.var 6)) .nil)) (.cst (.int 1))) .nil)))) (.fn "_law_copied" (.cons (.var 0) (.cons (.var 5) (.cons (.var 6) .nil)))) (.var 0))
      [some (st s), some (dd al ul a b), some (.bl (al.all (fun p => s.getD p.1 0 == s.getD p.2 0) && ul.all (fun p => s.getD p.1 0 != s.getD p.2 0))), some (prs al), some (prs ul), some (.int a), some (.int b), none, none] M' = .ok (st (doneF s al ul a b)) M' := fun M' => by
    have hcond : ev (parsOf D) (callN D (n + 1)) M.length (.bop true (.cons (.var 2) (.cons (.cmp .ne (.idx (.var 0) (.var 5)) (.idx (.var 0) (.var 6))) (.cons (.cmp .gt (.mt .count (.var 0) (.cons (.idx (.var 0) (.var 6)) .nil)) (.cst (.int 1))) .nil))))
        [some (st s), some (dd al ul a b), some (.bl (al.all (fun p => s.getD p.1 0 == s.getD p.2 0) && ul.all (fun p => s.getD p.1 0 != s.getD p.2 0))), some (prs al), some (prs ul), some (.int a), some (.int b), none, none] M' = .ok (.bl (heldF s al ul a b)) M' := by
      unfold heldF
      apply ev_bop
      apply evb_cons (q := (al.all (fun p => s.getD p.1 0 == s.getD p.2 0) && ul.all (fun p => s.getD p.1 0 != s.getD p.2 0)))
      exact ev_var rfl
      cases (al.all (fun p => s.getD p.1 0 == s.getD p.2 0) && ul.all (fun p => s.getD p.1 0 != s.getD p.2 0)) with
      | false => rfl
      | true =>
        refine (if_pos rfl).trans ?_
        apply evb_cons (q := (s.getD a 0 != s.getD b 0))
        exact pair_ne rfl rfl rfl hd.la hd.lb
        cases (s.getD a 0 != s.getD b 0) with
        | false => rfl
        | true =>
          refine (if_pos rfl).trans ?_
          apply evb_one
          exact count_gt rfl rfl hd.lb
    apply ev_ite hcond
    unfold doneF
    cases heldF s al ul a b with
    | false => refine (if_neg (by decide)).trans ?_; exact ev_var rfl
    | true => refine (if_pos rfl).trans ?_; exact ev_fn (evs_cons (ev_var rfl) (evs_cons (ev_var rfl) (evs_cons (ev_var rfl) evs_nil))) (hcp _ _)
  apply call_rt (d := d__law_done) h rfl rfl
  apply xss_nx
  apply xs_set
  exact ev_var rfl
  rfl
  apply xss_nx
  apply xs_set
  exact so
  exact asgM_nm
  apply xss_rt
  apply xs_ret
  exact last _
  exact frz_st
  simp
theorem deed_tab (hc : D "_law_copied" = some d__law_copied) (hdn : D "_law_done" = some d__law_done) (h : D "_law_deed_table" = some d__law_deed_table) (n mk : Nat) (M : Mem) {k : Nat} {al ul : List (Nat × Nat)} {a b : Nat} (hd : DOk (k + 1) al ul a b) (hk : k < 5) :
    callN D (n + 3) mk "_law_deed_table" [wv k, dd al ul a b] M = .ok (.tup ((dtab k al ul a b).map st)) M := by
  have small := (wl_small k hk).1
  have hcomp := compL_enc (w := []) (t := .nm 2) (c := fun σ' M' => evc (parsOf D) (callN D (n + 2)) M.length .none σ' M') (e := fun σ' M' => ev (parsOf D) (callN D (n + 2)) M.length (.fn "_law_done" (.cons (.var 2) (.cons (.var 1) .nil))) σ' M')
    (σ := [some (wv k), some (dd al ul a b), none]) (M := M) st (fun _ => true) (fun e => st (doneF e al ul a b)) (wl k) []
    (fun _ => rfl) (fun e he => ⟨[some (wv k), some (dd al ul a b), some (st e)], rfl, fun acc => ⟨evc_none, fun _ =>
      ev_fn (evs_cons (ev_var rfl) (evs_cons (ev_var rfl) evs_nil)) (done_tab hc hdn n _ _ (by rw [wl_len he]; exact hd) (by rw [wl_len he]; omega))⟩⟩) (by unfold SZ; simp; omega)
  apply call_rt (d := d__law_deed_table) h rfl rfl
  apply xss_rt
  apply xs_ret
  apply ev_pr
  apply evs_cons
  apply ev_comp
  apply evi_of
  exact ev_idx (ev_var rfl) ev_cst w1
  exact srcOf_fl
  exact hcomp
  exact evs_nil
  rw [filter_true, List.nil_append, show ((wl k).map fun e => st (doneF e al ul a b)) = (dtab k al ul a b).map st by rw [dtab, List.map_map]; rfl]
  exact tuple_ref at_end
  exact frz_pd (n := 2) (pd_tup fun x hx => by obtain ⟨q, _, rfl⟩ := List.mem_map.mp hx; exact pd_st)
  simp
theorem level_tab (h : D "_law_level" = some d__law_level) (n mk : Nat) (M : Mem) {k m : Nat} (hk : k < 5) :
    callN D (n + 1) mk "_law_level" [wv k, .int m] M = .ok (.fl ((lv k m).map fun i : Nat => .int i)) M := by
  have small := (wl_small k hk).1
  have hcomp := compL_enc (w := []) (t := .tp (.cons (.nm 2) (.cons (.nm 3) .nil))) (c := fun σ' M' => evc (parsOf D) (callN D n) M.length (.some (.cmp .eq (.bin .add (.pr .max (.cons (.var 3) .nil)) (.cst (.int 1))) (.var 1))) σ' M') (e := fun σ' M' => ev (parsOf D) (callN D n) M.length (.var 2) σ' M')
    (σ := [some (wv k), some (.int m), none, none]) (M := M) (fun q : List Int × Nat => V.tup [.int q.2, st q.1]) (fun q => mx q.1 + 1 == (m : Int)) (fun q => .int q.2) (wl k).zipIdx []
    (fun _ => rfl) (fun q hq => ⟨[some (wv k), some (.int m), some (.int q.2), some (st q.1)], rfl, fun acc => ⟨by
      apply evc_some
      apply ev_cmp
      apply ev_bin
      exact ev_pr (evs_cons (ev_var rfl) evs_nil) (max_st (by
        obtain ⟨h1, h2⟩ := mem_zip_lt hq
        obtain ⟨_, N, hc, _⟩ := wl_canon k q.1 (List.mem_of_getElem? h2)
        exact hc.ne))
      exact ev_cst
      exact add_i
      exact ev_var rfl
      exact eq_int, fun _ => ev_var rfl⟩⟩) (by unfold SZ; simp; omega)
  apply call_rt (d := d__law_level) h rfl rfl
  apply xss_rt
  apply xs_ret
  apply ev_comp
  apply evi_enum
  exact ev_idx (ev_var rfl) ev_cst w1
  exact srcOf_fl
  rw [enumed_map]
  exact hcomp
  rw [List.nil_append, show (((wl k).zipIdx.filter fun q => mx q.1 + 1 == (m : Int)).map fun q => V.int (q.2 : Int)) = (lv k m).map fun i : Nat => V.int (i : Int) by rw [lv, List.map_map]; rfl]
  exact frz_lst at_end (Nat.le_refl _) fun x hx => by obtain ⟨q, _, rfl⟩ := List.mem_map.mp hx; rfl
  simp
end
end PL.LB

/-! LT2: drawn deeds, entries. -/
namespace PL.LB
theorem mid_cps : ∀ k, k < 5 → ∀ i, i < (wl k).length → 1 ≤ i → i + 1 < (wl k).length → cps (at_ (wl k) i) ≠ [] := by decide +kernel
theorem ranged_nat (lo n : Nat) : ranged (lo : Int) n = (List.range n).map fun t : Nat => V.int ((lo + t : Nat) : Int) := by
  unfold ranged
  refine List.map_congr_left fun t _ => ?_
  congr 1
theorem Fr.olds {M0 M : Mem} {r g p : Nat} {o : MO} (h : Fr M0 M r g) (e : M0[p]? = some o) (a : p ≠ r) (b : p ≠ g) : M[p]? = some o := h.get e a b
section
variable {D : String → Option Def}
theorem full_tab (h : D "_law_full" = some d__law_full) (n mk : Nat) (M : Mem) {s : List Int} {a b : Nat} (ha : a < s.length) (hb : b < s.length) (hz : s.length ≤ 10) :
    ∃ al ul, callN D (n + 1) mk "_law_full" [st s, .int a, .int b] M = .ok (dd al ul a b) M ∧ DOk s.length al ul a b := by
  obtain ⟨σ1, M1, hl, ps, i, x4, hσ, ho, hp, hb1, hlen, hx⟩ := forL_inv (w := []) (t := .nm 4)
    (b := fun σ' M' => xss (parsOf D) (callN D n) M.length (.cons (.ex (.mt .extend (.var 3) (.cons (.comp (.nm 6) (.rng2 (.bin .add (.var 4) (.cst (.int 1))) (.pr .len (.cons (.var 0) .nil))) .none (.tup (.cons (.var 4) (.cons (.var 6) .nil)))) .nil))) .nil) σ' M')
    (fun xs σ' M' => ∃ (ps : List (Nat × Nat)) (i : Nat) (x4 : Option V), σ' = [some (st s), some (.int a), some (.int b), some (.ref M.length), x4, none, none] ∧ Old M M' ∧ M'[M.length]? = some (.lst (ps.map pe)) ∧ (∀ p ∈ ps, p.1 < s.length ∧ p.2 < s.length) ∧ ps.length ≤ i * s.length ∧ i ≤ s.length ∧ xs = (List.range (s.length - i)).map fun t : Nat => V.int ((i + t : Nat) : Int))
    ((List.range s.length).map fun t : Nat => V.int (t : Int)) [some (st s), some (.int a), some (.int b), some (.ref M.length), none, none, none] (M ++ [.lst []])
    ⟨[], 0, none, rfl, Old.refl.app _, at_end, by simp, by simp, by omega, by simp⟩
    (fun _ _ _ _ => rfl)
    (by
      rintro x xs σ' M' ⟨ps, i, x4, rfl, ho, hp, hb1, hlen, hi, hx⟩
      have hi' : i < s.length := by
        rcases Nat.lt_or_ge i s.length with c | c
        · exact c
        · rw [Nat.sub_eq_zero_of_le c] at hx; simp at hx
      have lp := (List.getElem?_eq_some_iff.mp hp).1
      have e1 : s.length - i = (s.length - (i + 1)) + 1 := by omega
      rw [e1, List.range_succ_eq_map, List.map_cons, List.cons.injEq, List.map_map] at hx
      obtain ⟨rfl, hxs⟩ := hx
      have hcomp := compL_enc (w := []) (t := .nm 6) (c := fun σ' M' => evc (parsOf D) (callN D n) M.length .none σ' M') (e := fun σ' M' => ev (parsOf D) (callN D n) M.length (.tup (.cons (.var 4) (.cons (.var 6) .nil))) σ' M')
        (σ := [some (st s), some (.int a), some (.int b), some (.ref M.length), some (.int i), none, none]) (M := M') (fun t : Nat => V.int ((i + 1 + t : Nat) : Int)) (fun _ => true) (fun t => pe (i, i + 1 + t)) (List.range (s.length - (i + 1))) []
        (fun _ => rfl) (fun t ht => ⟨[some (st s), some (.int a), some (.int b), some (.ref M.length), some (.int i), none, some (.int ((i + 1 + t : Nat) : Int))], rfl, fun acc => ⟨evc_none, fun _ => ev_tup (evs_cons (ev_var rfl) (evs_cons (ev_var rfl) evs_nil)) (by unfold SZ; simp)⟩⟩) (by unfold SZ; simp; omega)
      rw [filter_true, List.nil_append] at hcomp
      have hps : ps.length ≤ 100 := Nat.le_trans hlen (Nat.le_trans (Nat.mul_le_mul hi hz) (by omega))
      refine ⟨[some (st s), some (.int a), some (.int b), some (.ref M.length), some (.int i), none, none], rfl, [some (st s), some (.int a), some (.int b), some (.ref M.length), some (.int i), none, none], (M' ++ [MO.lst ((List.range (s.length - (i + 1))).map fun t => pe (i, i + 1 + t))]).set M.length (.lst ((ps ++ (List.range (s.length - (i + 1))).map fun t => (i, i + 1 + t)).map pe)), ?_,
        ps ++ (List.range (s.length - (i + 1))).map fun t => (i, i + 1 + t), i + 1, _, rfl, (ho.app _).set (Nat.le_refl _), by rw [List.getElem?_set_self (by rw [List.length_append]; omega)], ?_, ?_, by omega, ?_⟩
      · apply xss_nx
        apply xs_ex
        apply ev_mt
        exact ev_var rfl
        exact recv_list hp rfl
        apply evs_cons
        apply ev_comp
        apply evi_rng2 (j := ((i + 1 : Nat) : Int)) (k := (s.length : Int))
        exact ev_bin (ev_var rfl) ev_cst add_i
        refine (ev_pr (evs_cons (ev_var rfl) evs_nil) Sq.tup.len).trans ?_
        rw [List.length_map]
        rw [rOk_nat (by omega), rOk_nat (by omega)]; rfl
        rw [show ((s.length : Int) - ((i + 1 : Nat) : Int)).toNat = s.length - (i + 1) by omega, ranged_nat]
        exact hcomp
        exact evs_nil
        refine extend_run (xs := ps.map pe) ?_ (llst_ref at_end) (Nat.le_refl _) ?_
        · rw [List.getElem?_append_left lp]; exact hp
        · simp only [List.length_map, List.length_range]; unfold SZ; omega
        rw [List.map_append, List.map_map]
        exact xss_nil
      · intro p hp'
        rcases List.mem_append.mp hp' with hp' | hp'
        · exact hb1 p hp'
        · obtain ⟨t, ht, rfl⟩ := List.mem_map.mp hp'
          have := List.mem_range.mp ht
          exact ⟨by simp only; omega, by simp only; omega⟩
      · rw [List.length_append, List.length_map, List.length_range, Nat.add_mul]; omega
      · rw [hxs]
        refine List.map_congr_left fun t _ => ?_
        simp only [Function.comp]
        congr 2
        omega)
  have hps : ps.length ≤ 100 := Nat.le_trans hlen (Nat.le_trans (Nat.mul_le_mul hx.1 hz) (by omega))
  have hs1 : ∀ N, srcOf (M1 ++ N) (.ref M.length) = some (ps.map pe, [(M.length, ps.map pe)]) ∧ watched [(M.length, ps.map pe)] (M1 ++ N) = true := fun N => by
    have : (M1 ++ N)[M.length]? = some (.lst (ps.map pe)) := by rw [List.getElem?_append_left (List.getElem?_eq_some_iff.mp hp).1]; exact hp
    exact ⟨srcOf_ref this, watch1 this⟩
  have c1 := compL_enc (w := [(M.length, ps.map pe)]) (t := .tp (.cons (.nm 4) (.cons (.nm 6) .nil))) (c := fun σ' M' => evc (parsOf D) (callN D n) M.length (.some (.cmp .eq (.idx (.var 0) (.var 4)) (.idx (.var 0) (.var 6)))) σ' M') (e := fun σ' M' => ev (parsOf D) (callN D n) M.length (.tup (.cons (.var 4) (.cons (.var 6) .nil))) σ' M')
    (σ := [some (st s), some (.int a), some (.int b), some (.ref M.length), x4, none, none]) (M := M1) pe (fun q => s.getD q.1 0 == s.getD q.2 0) pe ps []
    (fun _ => (hs1 _).2) (fun q hq => ⟨[some (st s), some (.int a), some (.int b), some (.ref M.length), some (.int q.1), none, some (.int q.2)], rfl, fun acc => ⟨evc_some (pair_eq rfl rfl rfl (hb1 q hq).1 (hb1 q hq).2), fun _ => ev_tup (evs_cons (ev_var rfl) (evs_cons (ev_var rfl) evs_nil)) (by unfold SZ; simp)⟩⟩) (by unfold SZ; simp; omega)
  have c2 := fun (y5 : Option V) (N : Mem) => compL_enc (w := [(M.length, ps.map pe)]) (t := .tp (.cons (.nm 4) (.cons (.nm 6) .nil))) (c := fun σ' M' => evc (parsOf D) (callN D n) M.length (.some (.cmp .ne (.idx (.var 0) (.var 4)) (.idx (.var 0) (.var 6)))) σ' M') (e := fun σ' M' => ev (parsOf D) (callN D n) M.length (.tup (.cons (.var 4) (.cons (.var 6) .nil))) σ' M')
    (σ := [some (st s), some (.int a), some (.int b), some (.ref M.length), x4, y5, none]) (M := M1 ++ N) pe (fun q => s.getD q.1 0 != s.getD q.2 0) pe ps []
    (fun _ => by rw [List.append_assoc]; exact (hs1 _).2) (fun q hq => ⟨[some (st s), some (.int a), some (.int b), some (.ref M.length), some (.int q.1), y5, some (.int q.2)], rfl, fun acc => ⟨evc_some (pair_ne rfl rfl rfl (hb1 q hq).1 (hb1 q hq).2), fun _ => ev_tup (evs_cons (ev_var rfl) (evs_cons (ev_var rfl) evs_nil)) (by unfold SZ; simp)⟩⟩) (by unfold SZ; simp; omega)
  refine ⟨ps.filter fun q => s.getD q.1 0 == s.getD q.2 0, ps.filter fun q => s.getD q.1 0 != s.getD q.2 0, ?_, ⟨ha, hb, fun p hp' => hb1 p (List.mem_filter.mp hp').1, fun p hp' => hb1 p (List.mem_filter.mp hp').1, Nat.le_trans (List.length_filter_le _ _) (by omega), Nat.le_trans (List.length_filter_le _ _) (by omega)⟩⟩
  apply call_rt (d := d__law_full) h rfl rfl
  apply xss_nx
  apply xs_set
  exact ev_lst evs_nil (by decide)
  exact asgM_nm
  apply xss_nx
  apply xs_for
  apply evi_rng1 (k := (s.length : Int))
  refine (ev_pr (evs_cons (ev_var rfl) evs_nil) Sq.tup.len).trans ?_
  rw [List.length_map]
  exact rOk_nat (by omega)
  rw [ranged0]
  exact hl
  rw [hσ]
  apply xss_nx
  apply xs_set
  apply ev_pr
  apply evs_cons
  apply ev_comp
  apply evi_of
  exact ev_var rfl
  have := (hs1 []).1
  rw [List.append_nil] at this
  exact this
  exact c1
  exact evs_nil
  exact tuple_ref at_end
  exact asgM_nm
  apply xss_rt
  apply xs_ret
  apply ev_tup
  apply evs_cons
  exact ev_var rfl
  apply evs_cons
  apply ev_pr
  apply evs_cons
  apply ev_comp
  apply evi_of
  exact ev_var rfl
  exact (hs1 _).1
  exact c2 _ _
  exact evs_nil
  exact tuple_ref at_end
  exact evs_cons (ev_var rfl) (evs_cons (ev_var rfl) evs_nil)
  show 4 ≤ SZ
  decide
  rw [List.nil_append]
  refine frz_pd (n := 3) (pd_tup fun x hx' => ?_)
  simp only [List.mem_cons, List.not_mem_nil, or_false] at hx'
  have hpp : ∀ l : List (Nat × Nat), pd 2 (.tup (l.map pe)) := fun l => pd_tup fun y hy => by obtain ⟨q, _, rfl⟩ := List.mem_map.mp hy; exact pd_pe
  rcases hx' with rfl | rfl | rfl | rfl
  · exact hpp _
  · exact hpp _
  · exact pd_int
  · exact pd_int
  rw [List.append_assoc, List.take_append_of_le_length ho.le]
  exact ho.out
theorem laid_tab (hdraw : D "_law_draw" = some d__law_draw) (hpick : D "_law_pick" = some d__law_pick) (horder : D "_law_order" = some d__law_order) (h : D "_law_laid" = some d__law_laid) (n mk : Nat) {M : Mem} {r g : Nat} (hb : BagAt M r g) {k m i j : Nat} (hk : k < 5) (hi : i ∈ lv k m) (hj : j ∈ lv k m) :
    ∃ e M', callN D (n + 3) mk "_law_laid" [.ref r, wv k, .int j] M = .ok (st e) M' ∧ EOk (at_ (wl k) i) e ∧ BagAt M' r g ∧ Same M M' r g := by
  have hc := lv_canon hj
  obtain ⟨l1, l2⟩ := lv_mem hj
  obtain ⟨_, N, hcN, hN⟩ := wl_canon k _ (at_mem l1)
  have hm : m ≤ 5 := by have := hc.uniq hcN; omega
  have hlen := wl_len (at_mem l1)
  obtain ⟨os, M2, ho, hb2, hs2, hper⟩ := order_run hdraw hpick horder n M.length hb m (by omega)
  have hol : os.length = m := by have := hper.length_eq; rwa [List.length_map, List.length_range] at this
  refine ⟨_, M2, ?_, laid_ok hi hj hper, hb2, hs2⟩
  apply call_rt (d := d__law_laid) h rfl rfl
  apply xss_nx
  apply xs_set
  exact ev_idx (ev_idx (ev_var rfl) ev_cst w1) (ev_var rfl) (pat_at l1)
  exact asgM_nm
  apply xss_nx
  apply xs_set
  apply ev_fn
  apply evs_cons
  exact ev_var rfl
  apply evs_cons
  apply ev_bin
  exact ev_pr (evs_cons (ev_var rfl) evs_nil) (max_st hc.ne)
  exact ev_cst
  exact add_i
  exact evs_nil
  rw [l2]
  exact ho
  exact asgM_nm
  apply xss_rt
  apply xs_ret
  exact named_run (X := .fl (os.map .int)) (T := os) (t := at_ (wl k) j) (fun x => ⟨rfl, rfl⟩) Sq.fl (ev_var rfl) (fun x hx => by rw [hol]; exact hc.rng x hx) (by omega)
  exact frz_st
  rw [← hs2.len]; simp
theorem entry_tab (hdraw : D "_law_draw" = some d__law_draw) (hpick : D "_law_pick" = some d__law_pick) (horder : D "_law_order" = some d__law_order) (hlaid : D "_law_laid" = some d__law_laid) (hlevel : D "_law_level" = some d__law_level) (h : D "_law_entry" = some d__law_entry) (n mk : Nat) {M : Mem} {r g : Nat} (hb : BagAt M r g) {k i : Nat} (hk : k < 5) (hi : i < (wl k).length) :
    ∃ e M', callN D (n + 4) mk "_law_entry" [.ref r, wv k, .int i] M = .ok (st e) M' ∧ EOk (at_ (wl k) i) e ∧ BagAt M' r g ∧ Same M M' r g := by
  obtain ⟨m, him, m1, m2, hmx⟩ := lv_of hi
  have hlv := level_tab hlevel (n + 2) M.length M (m := m) hk
  have hc := lv_canon him
  obtain ⟨v, M2, hp, hb2, hs2, hv⟩ := pick_run hdraw hpick (n + 1) M.length hb (x := .fl ((lv k m).map fun i : Nat => .int i)) (vs := (lv k m).map fun i : Nat => .int i) (fun _ _ => ⟨rfl, rfl⟩) (by simpa using List.ne_nil_of_mem him) (by
      have := lv_len k m
      have := (wl_small k hk).1
      rw [List.length_map]; omega) (fun v hv M' _ => by
        obtain ⟨q, _, rfl⟩ := List.mem_map.mp hv
        exact frz_pd (n := 0) pd_int)
  obtain ⟨j, hj, rfl⟩ := List.mem_map.mp hv
  obtain ⟨e, M3, hla, heok, hb3, hs3⟩ := laid_tab hdraw hpick horder hlaid n M.length hb2 hk him hj
  refine ⟨e, M3, ?_, heok, hb3, hs2.trans hs3⟩
  apply call_rt (d := d__law_entry) h rfl rfl
  apply xss_nx
  apply xs_set
  apply ev_fn
  apply evs_cons
  exact ev_var rfl
  apply evs_cons
  apply ev_bin
  apply ev_pr
  apply evs_cons
  exact ev_idx (ev_idx (ev_var rfl) ev_cst w1) (ev_var rfl) (pat_at hi)
  exact evs_nil
  exact max_st hc.ne
  exact ev_cst
  exact add_i
  exact evs_nil
  rw [hmx]
  exact hlv
  exact asgM_nm
  apply xss_rt
  apply xs_ret
  apply ev_fn
  apply evs_cons
  exact ev_var rfl
  apply evs_cons
  exact ev_var rfl
  apply evs_cons
  exact ev_fn (evs_cons (ev_var rfl) (evs_cons (ev_var rfl) evs_nil)) hp
  exact evs_nil
  exact hla
  exact frz_st
  rw [← (hs2.trans hs3).len]; simp
end
end PL.LB

/-! LT3: a drawn deed. -/
namespace PL.LB
/-- the heap of the drawing of a deed -/
structure DH (M M' : Mem) (r g p : Nat) (n : Nat) (al ul : List (Nat × Nat)) : Prop where
  bag : BagAt M' r g
  fr : Fr M M' r g
  hp : M.length ≤ p
  pa : M'[p]? = some (.lst (al.map pe))
  pb : M'[p + 1]? = some (.lst (ul.map pe))
  ba : ∀ q ∈ al, q.1 < n ∧ q.2 < n
  bb : ∀ q ∈ ul, q.1 < n ∧ q.2 < n
section
variable {M M' M2 : Mem} {r g p n : Nat} {al ul : List (Nat × Nat)}
theorem DH.same (h : DH M M' r g p n al ul) (lt : r < M.length ∧ g < M.length) (hs : Same M' M2 r g) (hb : BagAt M2 r g) : DH M M2 r g p n al ul := by
  have := h.hp
  exact ⟨hb, h.fr.same hs, h.hp, by rw [hs.at_ _ (by omega) (by omega)]; exact h.pa, by rw [hs.at_ _ (by omega) (by omega)]; exact h.pb, h.ba, h.bb⟩
theorem DH.pushA (h : DH M M' r g p n al ul) (lt : r < M.length ∧ g < M.length) {q : Nat × Nat} (hq : q.1 < n ∧ q.2 < n) : DH M (M'.set p (.lst ((al ++ [q]).map pe))) r g p n (al ++ [q]) ul := by
  have := h.hp
  refine ⟨h.bag.at (by omega) (by omega), h.fr.set (.inl h.hp), h.hp, by rw [List.getElem?_set_self (List.getElem?_eq_some_iff.mp h.pa).1], by rw [List.getElem?_set_ne (by omega)]; exact h.pb, fun x hx => ?_, h.bb⟩
  rcases List.mem_append.mp hx with hx | hx
  · exact h.ba x hx
  · rw [List.mem_singleton.mp hx]; exact hq
theorem DH.pushB (h : DH M M' r g p n al ul) (lt : r < M.length ∧ g < M.length) {q : Nat × Nat} (hq : q.1 < n ∧ q.2 < n) : DH M (M'.set (p + 1) (.lst ((ul ++ [q]).map pe))) r g p n al (ul ++ [q]) := by
  have := h.hp
  refine ⟨h.bag.at (by omega) (by omega), h.fr.set (.inl (by omega)), h.hp, by rw [List.getElem?_set_ne (by omega)]; exact h.pa, by rw [List.getElem?_set_self (List.getElem?_eq_some_iff.mp h.pb).1], h.ba, fun x hx => ?_⟩
  rcases List.mem_append.mp hx with hx | hx
  · exact h.bb x hx
  · rw [List.mem_singleton.mp hx]; exact hq
end
section
variable {D : String → Option Def} (hdraw : D "_law_draw" = some d__law_draw)
include hdraw
/-- way == x or (way == y and draw(20) == 0) -/
theorem way_cond (n : Nat) {mk : Nat} {M' : Mem} {r g : Nat} (hb : BagAt M' r g) {σ : Env} {w x y : Int} (h0 : lk σ 0 = some (.ref r)) (h11 : lk σ 11 = some (.int w)) :
    ∃ q M2, ev (parsOf D) (callN D (n + 1)) mk (.bop false (.cons (.cmp .eq (.var 11) (.cst (.int x))) (.cons (.bop true (.cons (.cmp .eq (.var 11) (.cst (.int y))) (.cons (.cmp .eq (.fn "_law_draw" (.cons (.var 0) (.cons (.cst (.int 20)) .nil))) (.cst (.int 0))) .nil))) .nil))) σ M' = .ok (.bl q) M2 ∧ BagAt M2 r g ∧ Same M' M2 r g := by
  obtain ⟨v, M2, hd, hb2, hs2, _, _⟩ := draw_run hdraw n mk hb 20 (by omega) (by omega)
  have c1 : ∀ z : Int, ev (parsOf D) (callN D (n + 1)) mk (.cmp .eq (.var 11) (.cst (.int z))) σ M' = .ok (.bl (w == z)) M' := fun z => ev_cmp (ev_var h11) ev_cst eq_int
  cases e1 : (w == x) with
  | true =>
    refine ⟨true, M', ?_, hb, Same.refl⟩
    apply ev_bop
    apply evb_cons (q := true)
    rw [← e1]; exact c1 x
    exact if_neg (by decide)
  | false =>
    cases e2 : (w == y) with
    | false =>
      refine ⟨false, M', ?_, hb, Same.refl⟩
      apply ev_bop
      apply evb_cons (q := false)
      rw [← e1]; exact c1 x
      refine (if_pos rfl).trans ?_
      apply evb_one
      apply ev_bop
      apply evb_cons (q := false)
      rw [← e2]; exact c1 y
      exact if_neg (by decide)
    | true =>
      refine ⟨v == 0, M2, ?_, hb2, hs2⟩
      apply ev_bop
      apply evb_cons (q := false)
      rw [← e1]; exact c1 x
      refine (if_pos rfl).trans ?_
      apply evb_one
      apply ev_bop
      apply evb_cons (q := true)
      rw [← e2]; exact c1 y
      refine (if_pos rfl).trans ?_
      apply evb_one
      exact ev_cmp (ev_fn (evs_cons (ev_var h0) (evs_cons ev_cst evs_nil)) hd) ev_cst eq_int
abbrev dσ (r k a b p : Nat) (few : Int) (x5 x10 x11 : Option V) : Env := [some (.ref r), some (wv k), some (.int ((k + 1 : Nat) : Int)), some (.int a), some (.int b), x5, none, some (.ref p), some (.ref (p + 1)), some (.int few), x10, x11]
abbrev dB : Ss := (.cons (.set (.nm 11) (.fn "_law_draw" (.cons (.var 0) (.cons (.var 9) .nil))))
    (.cons (.iff (.bop false (.cons (.cmp .eq (.var 11) (.cst (.int 0))) (.cons (.bop true (.cons (.cmp .eq (.var 11) (.cst (.int 2))) (.cons (.cmp .eq (.fn "_law_draw" (.cons (.var 0) (.cons (.cst (.int 20)) .nil))) (.cst (.int 0))) .nil))) .nil))) (.cons (.ex (.mt .append (.var 7) (.cons (.tup (.cons (.var 5) (.cons (.var 10) .nil))) .nil)))
    .nil) .nil)
    (.cons (.iff (.bop false (.cons (.cmp .eq (.var 11) (.cst (.int 1))) (.cons (.bop true (.cons (.cmp .eq (.var 11) (.cst (.int 0))) (.cons (.cmp .eq (.fn "_law_draw" (.cons (.var 0) (.cons (.cst (.int 20)) .nil))) (.cst (.int 0))) .nil))) .nil))) (.cons (.ex (.mt .append (.var 8) (.cons (.tup (.cons (.var 5) (.cons (.var 10) .nil))) .nil)))
    .nil) .nil)
    .nil)))
/-- one pair of boxes -/
theorem pair_turn (n : Nat) {M M' : Mem} {r g p k a b i j : Nat} {few : Int} {al ul : List (Nat × Nat)} {x11 : Option V} (lt : r < M.length ∧ g < M.length) (hd : DH M M' r g p (k + 1) al ul) (hf : 3 ≤ few ∧ few < 1000) (hi : i < k + 1) (hj : j < k + 1) (za : al.length ≤ 1000) (zb : ul.length ≤ 1000) :
    ∃ al' ul' y11 M1, xss (parsOf D) (callN D (n + 1)) M.length dB (dσ r k a b p few (some (.int i)) (some (.int j)) x11) M' = .nx (dσ r k a b p few (some (.int i)) (some (.int j)) y11) M1 ∧ DH M M1 r g p (k + 1) al' ul' ∧ al'.length ≤ al.length + 1 ∧ ul'.length ≤ ul.length + 1 := by
  obtain ⟨w, M2, hdr, hb2, hs2, _, _⟩ := draw_run hdraw n M.length hd.bag few (by omega) (by omega)
  have hd2 := hd.same lt hs2 hb2
  obtain ⟨q1, M3, hc1, hb3, hs3⟩ := way_cond hdraw n (mk := M.length) hb2 (σ := dσ r k a b p few (some (.int i)) (some (.int j)) (some (.int w))) (w := w) (x := 0) (y := 2) rfl rfl
  have hd3 := hd2.same lt hs3 hb3
  have st1 : ∃ al' M4, (if q1 = true then xss (parsOf D) (callN D (n + 1)) M.length (.cons (.ex (.mt .append (.var 7) (.cons (.tup (.cons (.var 5) (.cons (.var 10) .nil))) .nil))) .nil) (dσ r k a b p few (some (.int i)) (some (.int j)) (some (.int w))) M3 else xss (parsOf D) (callN D (n + 1)) M.length .nil (dσ r k a b p few (some (.int i)) (some (.int j)) (some (.int w))) M3) = .nx (dσ r k a b p few (some (.int i)) (some (.int j)) (some (.int w))) M4 ∧
      DH M M4 r g p (k + 1) al' ul ∧ al'.length ≤ al.length + 1 := by
    cases q1 with
    | false => exact ⟨al, M3, (if_neg (by decide)).trans xss_nil, hd3, by omega⟩
    | true =>
      refine ⟨al ++ [(i, j)], M3.set p (.lst ((al ++ [(i, j)]).map pe)), (if_pos rfl).trans ?_, hd3.pushA lt ⟨hi, hj⟩, by simp⟩
      apply xss_nx
      apply xs_ex
      apply ev_mt
      exact ev_var rfl
      exact recv_list hd3.pa rfl
      exact evs_cons (ev_tup (evs_cons (ev_var rfl) (evs_cons (ev_var rfl) evs_nil)) (by unfold SZ; simp)) evs_nil
      refine append_run hd3.pa ?_ ?_
      · simp [wOk, noref, norefs]
      · rw [List.length_map]; unfold SZ; omega
      rw [List.map_append]
      exact xss_nil
  obtain ⟨al', M4, hs4, hd4, hl4⟩ := st1
  obtain ⟨q2, M5, hc2, hb5, hs5⟩ := way_cond hdraw n (mk := M.length) hd4.bag (σ := dσ r k a b p few (some (.int i)) (some (.int j)) (some (.int w))) (w := w) (x := 1) (y := 0) rfl rfl
  have hd5 := hd4.same lt hs5 hb5
  have st2 : ∃ ul' M6, (if q2 = true then xss (parsOf D) (callN D (n + 1)) M.length (.cons (.ex (.mt .append (.var 8) (.cons (.tup (.cons (.var 5) (.cons (.var 10) .nil))) .nil))) .nil) (dσ r k a b p few (some (.int i)) (some (.int j)) (some (.int w))) M5 else xss (parsOf D) (callN D (n + 1)) M.length .nil (dσ r k a b p few (some (.int i)) (some (.int j)) (some (.int w))) M5) = .nx (dσ r k a b p few (some (.int i)) (some (.int j)) (some (.int w))) M6 ∧
      DH M M6 r g p (k + 1) al' ul' ∧ ul'.length ≤ ul.length + 1 := by
    cases q2 with
    | false => exact ⟨ul, M5, (if_neg (by decide)).trans xss_nil, hd5, by omega⟩
    | true =>
      refine ⟨ul ++ [(i, j)], M5.set (p + 1) (.lst ((ul ++ [(i, j)]).map pe)), (if_pos rfl).trans ?_, hd5.pushB lt ⟨hi, hj⟩, by simp⟩
      apply xss_nx
      apply xs_ex
      apply ev_mt
      exact ev_var rfl
      exact recv_list hd5.pb rfl
      exact evs_cons (ev_tup (evs_cons (ev_var rfl) (evs_cons (ev_var rfl) evs_nil)) (by unfold SZ; simp)) evs_nil
      refine append_run hd5.pb ?_ ?_
      · simp [wOk, noref, norefs]
      · rw [List.length_map]; unfold SZ; omega
      rw [List.map_append]
      exact xss_nil
  obtain ⟨ul', M6, hs6, hd6, hl6⟩ := st2
  refine ⟨al', ul', some (.int w), M6, ?_, hd6, hl4, hl6⟩
  apply xss_nx
  apply xs_set
  exact ev_fn (evs_cons (ev_var rfl) (evs_cons (ev_var rfl) evs_nil)) hdr
  exact asgM_nm
  apply xss_nx
  exact xs_iff hc1 hs4
  apply xss_nx
  exact xs_iff hc2 hs6
  exact xss_nil
end
section
variable {D : String → Option Def} (hdraw : D "_law_draw" = some d__law_draw) (hpick : D "_law_pick" = some d__law_pick)
include hdraw hpick
theorem deed_draw (hfirst : D "_law_first" = some d__law_first) (hcopies : D "_law_copies" = some d__law_copies) (hfull : D "_law_full" = some d__law_full) (h : D "_law_deed" = some d__law_deed) (n mk : Nat) {M : Mem} {r g : Nat} (hb : BagAt M r g) {k : Nat} (hk2 : 2 ≤ k) (hk : k < 5) :
    ∃ al ul a b M', callN D (n + 3) mk "_law_deed" [.ref r, wv k] M = .ok (dd al ul a b) M' ∧ DOk (k + 1) al ul a b ∧ BagAt M' r g ∧ Same M M' r g := by
  have lt := hb.lt
  have small := (wl_small k hk).1
  have big : 3 ≤ (wl k).length := by
    have : ∀ k, k < 5 → 2 ≤ k → 3 ≤ (wl k).length := by decide +kernel
    exact this k hk hk2
  have hpd : ∀ (l : List (Nat × Nat)), pd 2 (.tup (l.map pe)) := fun l => pd_tup fun y hy => by obtain ⟨q, _, rfl⟩ := List.mem_map.mp hy; exact pd_pe
  have hpdd : ∀ (al ul : List (Nat × Nat)) (a b : Nat), pd 3 (dd al ul a b) := fun al ul a b => pd_tup fun x hx => by
    simp only [List.mem_cons, List.not_mem_nil, or_false] at hx
    rcases hx with rfl | rfl | rfl | rfl
    · exact hpd _
    · exact hpd _
    · exact pd_int
    · exact pd_int
  obtain ⟨v, M2, hd, hb2, hs2, v0, v1⟩ := draw_run hdraw (n + 1) M.length hb 2 (by omega) (by omega)
  have hcond : ev (parsOf D) (callN D (n + 2)) M.length (.cmp .eq (.fn "_law_draw" (.cons (.var 0) (.cons (.cst (.int 2)) .nil))) (.cst (.int 0))) [some (.ref r), some (wv k), some (.int ((k + 1 : Nat) : Int)), none, none, none, none, none, none, none, none, none] M = .ok (.bl (v == 0)) M2 :=
    ev_cmp (ev_fn (evs_cons (ev_var rfl) (evs_cons ev_cst evs_nil)) hd) ev_cst eq_int
  by_cases hv : v = 0
  · subst hv
    obtain ⟨w, M3, hd3, hb3, hs3, w0', w1'⟩ := draw_run hdraw (n + 1) M.length hb2 (((wl k).length : Int) - 2) (by omega) (by omega)
    have hi : 1 + w.toNat < (wl k).length := by omega
    have hcp := mid_cps k hk (1 + w.toNat) hi (by omega) (by omega)
    obtain ⟨_, N, hc, hN⟩ := wl_canon k _ (at_mem hi)
    have hlen := wl_len (at_mem hi)
    have hlc := lcopies_run hfirst hcopies n M.length M3 hc (by omega) (by omega)
    obtain ⟨x, M4, hp, hb4, hs4, hx⟩ := pick_run hdraw hpick n M.length hb3 (x := .fl ((cps (at_ (wl k) (1 + w.toNat))).map pe)) (vs := (cps (at_ (wl k) (1 + w.toNat))).map pe) (fun _ _ => ⟨rfl, rfl⟩) (by simpa using hcp) (by
      rw [List.length_map]
      have h1 := flat_le (f := cpa (at_ (wl k) (1 + w.toNat))) (l := frs (at_ (wl k) (1 + w.toNat))) (k := 10) fun x _ => Nat.le_trans (cpa_le _ x) (by omega)
      rw [frs_len hc] at h1
      unfold cps; omega) (fun v hv M' _ => by obtain ⟨q, _, rfl⟩ := List.mem_map.mp hv; exact frz_pd (n := 1) pd_pe)
    obtain ⟨⟨a, b⟩, hab, rfl⟩ := List.mem_map.mp hx
    obtain ⟨cp, _⟩ := (mem_cps hc).mp hab
    obtain ⟨al, ul, hf, hdo⟩ := full_tab hfull (n + 1) M.length M4 cp.la cp.lb (by omega)
    rw [hlen] at hdo
    refine ⟨al, ul, a, b, M4, ?_, hdo, hb4, (hs2.trans hs3).trans hs4⟩
    apply call_rt (d := d__law_deed) h rfl rfl
    apply xss_nx
    apply xs_set
    exact ev_idx (ev_var rfl) ev_cst w0
    exact asgM_nm
    apply xss_rt
    apply xs_iff
    exact hcond
    refine (if_pos rfl).trans ?_
    apply xss_nx
    apply xs_set
    apply ev_idx
    exact ev_idx (ev_var rfl) ev_cst w1
    apply ev_bin
    exact ev_cst
    apply ev_fn
    apply evs_cons
    exact ev_var rfl
    apply evs_cons
    apply ev_bin
    exact ev_pr (evs_cons (ev_idx (ev_var rfl) ev_cst w1) evs_nil) Sq.fl.len
    exact ev_cst
    exact sub_i
    exact evs_nil
    rw [List.length_map]
    exact hd3
    exact add_i
    rw [show 1 + w = ((1 + w.toNat : Nat) : Int) by omega]
    exact pat_at hi
    exact asgM_nm
    apply xss_nx
    apply xs_set
    apply ev_fn
    exact evs_cons (ev_var rfl) (evs_cons (ev_fn (evs_cons (ev_var rfl) evs_nil) hlc) evs_nil)
    exact hp
    rfl
    apply xss_rt
    apply xs_ret
    exact ev_fn (evs_cons (ev_var rfl) (evs_cons (ev_var rfl) (evs_cons (ev_var rfl) evs_nil))) hf
    exact frz_pd (hpdd _ _ _ _)
    rw [← ((hs2.trans hs3).trans hs4).len]; simp
  · obtain ⟨a, M3, hd3, hb3, hs3, a0, a1⟩ := draw_run hdraw (n + 1) M.length hb2 ((k + 1 : Nat) : Int) (by omega) (by omega)
    obtain ⟨w, M4, hd4, hb4, hs4, w0', w1'⟩ := draw_run hdraw (n + 1) M.length hb3 (((k + 1 : Nat) : Int) - 1) (by omega) (by omega)
    obtain ⟨f, M5, hd5, hb5, hs5, f0, f1⟩ := draw_run hdraw (n + 1) M.length ((hb4.app [.lst []]).app [.lst []]) (2 * ((k + 1 : Nat) : Int)) (by omega) (by omega)
    have lM4 : M4.length = M.length := (((hs2.trans hs3).trans hs4)).len
    have lM5 : M5.length = M.length + 2 := by rw [hs5.len]; simp [lM4]
    have fr5 : Fr M M5 r g := (((Same.fr ((hs2.trans hs3).trans hs4)).app [.lst []]).app [.lst []]).same hs5
    have hbv : ((a + 1 + w) % ((k + 1 : Nat) : Int)).toNat < k + 1 := by
      have := Int.emod_nonneg (a + 1 + w) (b := ((k + 1 : Nat) : Int)) (by omega)
      have := Int.emod_lt_of_pos (a + 1 + w) (b := ((k + 1 : Nat) : Int)) (by omega)
      omega
    have hbv' : (((a + 1 + w) % ((k + 1 : Nat) : Int)).toNat : Int) = (a + 1 + w) % ((k + 1 : Nat) : Int) := Int.toNat_of_nonneg (Int.emod_nonneg _ (by omega))
    have hav' : ((a.toNat : Nat) : Int) = a := by omega
    have hdh : DH M M5 r g M.length (k + 1) [] [] := ⟨hb5, fr5, Nat.le_refl _, by
      rw [hs5.at_ _ (by omega) (by omega), ← lM4, List.getElem?_append_left (by simp)]; exact at_end, by
      rw [hs5.at_ _ (by omega) (by omega), ← lM4]
      have : (M4 ++ [MO.lst []]).length = M4.length + 1 := by simp
      rw [← this]; exact at_end, by simp, by simp⟩
    obtain ⟨σ1, M6, hl, i, x5, x10, x11, al, ul, hσ, hdh6, _, za, zb, hx6⟩ := forL_inv (w := []) (t := .nm 5)
      (b := fun σ' M' => xss (parsOf D) (callN D (n + 2)) M.length (.cons (.for (.nm 10) (.rng2 (.bin .add (.var 5) (.cst (.int 1))) (.var 2)) dB) .nil) σ' M')
      (fun xs σ' M' => ∃ (i : Nat) (x5 x10 x11 : Option V) (al ul : List (Nat × Nat)), σ' = dσ r k a.toNat ((a + 1 + w) % ((k + 1 : Nat) : Int)).toNat M.length (3 + f) x5 x10 x11 ∧ DH M M' r g M.length (k + 1) al ul ∧ i ≤ k + 1 ∧ al.length ≤ i * 10 ∧ ul.length ≤ i * 10 ∧ xs = (List.range (k + 1 - i)).map fun t : Nat => V.int ((i + t : Nat) : Int))
      ((List.range (k + 1)).map fun t : Nat => V.int (t : Int)) (dσ r k a.toNat ((a + 1 + w) % ((k + 1 : Nat) : Int)).toNat M.length (3 + f) none none none) M5
      ⟨0, none, none, none, [], [], rfl, hdh, by omega, by simp, by simp, by simp⟩
      (fun _ _ _ _ => rfl)
      (by
        rintro x xs σ' M' ⟨i, x5, x10, x11, al, ul, rfl, hdh', hi, za, zb, hx⟩
        have hi' : i < k + 1 := by
          rcases Nat.lt_or_ge i (k + 1) with c | c
          · exact c
          · rw [Nat.sub_eq_zero_of_le c] at hx; simp at hx
        have e1 : k + 1 - i = (k + 1 - (i + 1)) + 1 := by omega
        rw [e1, List.range_succ_eq_map, List.map_cons, List.cons.injEq, List.map_map] at hx
        obtain ⟨rfl, hxs⟩ := hx
        obtain ⟨σ2, M7, hl2, j, y10, y11, al', ul', hσ2, hdh7, hj2, za', zb', hx7⟩ := forL_inv (w := []) (t := .nm 10)
          (b := fun σ' M' => xss (parsOf D) (callN D (n + 2)) M.length dB σ' M')
          (fun xs σ' M' => ∃ (j : Nat) (y10 y11 : Option V) (al' ul' : List (Nat × Nat)), σ' = dσ r k a.toNat ((a + 1 + w) % ((k + 1 : Nat) : Int)).toNat M.length (3 + f) (some (.int i)) y10 y11 ∧ DH M M' r g M.length (k + 1) al' ul' ∧ i + 1 + j ≤ k + 1 ∧ al'.length ≤ al.length + j ∧ ul'.length ≤ ul.length + j ∧ xs = (List.range (k + 1 - (i + 1) - j)).map fun t : Nat => V.int ((i + 1 + j + t : Nat) : Int))
          ((List.range (k + 1 - (i + 1))).map fun t : Nat => V.int ((i + 1 + t : Nat) : Int)) (dσ r k a.toNat ((a + 1 + w) % ((k + 1 : Nat) : Int)).toNat M.length (3 + f) (some (.int i)) x10 x11) M'
          ⟨0, x10, x11, al, ul, rfl, hdh', by omega, by omega, by omega, by simp⟩
          (fun _ _ _ _ => rfl)
          (by
            rintro x xs σ' M' ⟨j, y10, y11, al', ul', rfl, hdh', hj, za', zb', hx⟩
            have hj' : i + 1 + j < k + 1 := by
              rcases Nat.lt_or_ge (i + 1 + j) (k + 1) with c | c
              · exact c
              · rw [show k + 1 - (i + 1) - j = 0 by omega] at hx; simp at hx
            have e1 : k + 1 - (i + 1) - j = (k + 1 - (i + 1) - (j + 1)) + 1 := by omega
            rw [e1, List.range_succ_eq_map, List.map_cons, List.cons.injEq, List.map_map] at hx
            obtain ⟨rfl, hxs⟩ := hx
            obtain ⟨al2, ul2, z11, M8, h8, hd8, l8, l8'⟩ := pair_turn hdraw (n + 1) (a := a.toNat) (b := ((a + 1 + w) % ((k + 1 : Nat) : Int)).toNat) (few := 3 + f) (i := i) (j := i + 1 + j) (x11 := y11) lt hdh' (by omega) hi' hj' (by omega) (by omega)
            refine ⟨_, asg_nm, _, M8, h8, j + 1, _, z11, al2, ul2, rfl, hd8, by omega, by omega, by omega, ?_⟩
            rw [hxs]
            refine List.map_congr_left fun t _ => ?_
            simp only [Function.comp]
            congr 2
            omega)
        refine ⟨dσ r k a.toNat ((a + 1 + w) % ((k + 1 : Nat) : Int)).toNat M.length (3 + f) (some (.int i)) x10 x11, rfl, dσ r k a.toNat ((a + 1 + w) % ((k + 1 : Nat) : Int)).toNat M.length (3 + f) (some (.int i)) y10 y11, M7, ?_, i + 1, _, y10, y11, al', ul', rfl, hdh7, by omega, by omega, by omega, ?_⟩
        · apply xss_nx
          apply xs_for
          apply evi_rng2 (j := ((i + 1 : Nat) : Int)) (k := ((k + 1 : Nat) : Int))
          exact ev_bin (ev_var rfl) ev_cst add_i
          exact ev_var rfl
          rw [rOk_nat (by omega), rOk_nat (by omega)]; rfl
          rw [show (((k + 1 : Nat) : Int) - ((i + 1 : Nat) : Int)).toNat = k + 1 - (i + 1) by omega, ranged_nat]
          exact hl2
          rw [hσ2]
          exact xss_nil
        · rw [hxs]
          refine List.map_congr_left fun t _ => ?_
          simp only [Function.comp]
          congr 2
          omega)
    refine ⟨al, ul, a.toNat, ((a + 1 + w) % ((k + 1 : Nat) : Int)).toNat, M6.take M.length, ?_, ⟨by omega, hbv, hdh6.ba, hdh6.bb, by omega, by omega⟩, hdh6.bag.out hb, hdh6.fr.out⟩
    apply call_rt (d := d__law_deed) h rfl rfl
    apply xss_nx
    apply xs_set
    exact ev_idx (ev_var rfl) ev_cst w0
    exact asgM_nm
    apply xss_nx
    apply xs_iff
    exact hcond
    rw [beq_eq_false_iff_ne.mpr hv]
    refine (if_neg (by decide)).trans ?_
    exact xss_nil
    apply xss_nx
    apply xs_set
    exact ev_fn (evs_cons (ev_var rfl) (evs_cons (ev_var rfl) evs_nil)) hd3
    exact asgM_nm
    apply xss_nx
    apply xs_set
    apply ev_bin
    apply ev_bin
    exact ev_bin (ev_var rfl) ev_cst add_i
    exact ev_fn (evs_cons (ev_var rfl) (evs_cons (ev_bin (ev_var rfl) ev_cst sub_i) evs_nil)) hd4
    exact add_i
    exact ev_var rfl
    exact mod_i (by omega)
    exact asgM_nm
    apply xss_nx
    apply xs_par
    apply evs_cons
    exact ev_lst evs_nil (by decide)
    apply evs_cons
    exact ev_lst evs_nil (by decide)
    apply evs_cons
    apply ev_bin
    exact ev_cst
    refine ev_fn (evs_cons (ev_var rfl) (evs_cons (ev_bin ev_cst (ev_var rfl) (mul_i (mulOk_l (by decide)))) evs_nil)) hd5
    exact add_i
    exact evs_nil
    rw [List.length_append, lM4]
    rfl
    apply xss_nx
    apply xs_for
    apply evi_rng1 (k := ((k + 1 : Nat) : Int))
    exact ev_var rfl
    exact rOk_nat (by omega)
    rw [ranged0]
    have hd0 : dσ r k a.toNat ((a + 1 + w) % ((k + 1 : Nat) : Int)).toNat M.length (3 + f) none none none = [some (.ref r), some (wv k), some (.int ((k + 1 : Nat) : Int)), some (.int a), some (.int ((a + 1 + w) % ((k + 1 : Nat) : Int))), none, none, some (.ref M.length), some (.ref (M.length + 1)), some (.int (3 + f)), none, none] := by simp only [dσ, hav', hbv']
    rw [hd0] at hl
    exact hl
    rw [hσ]
    apply xss_rt
    apply xs_ret
    apply ev_tup
    apply evs_cons
    exact ev_pr (evs_cons (ev_var rfl) evs_nil) (tuple_ref hdh6.pa)
    apply evs_cons
    exact ev_pr (evs_cons (ev_var rfl) evs_nil) (tuple_ref hdh6.pb)
    exact evs_cons (ev_var rfl) (evs_cons (ev_var rfl) evs_nil)
    show 4 ≤ SZ
    decide
    exact frz_pd (hpdd _ _ _ _)
    rfl
end
end PL.LB

/-! LT4: one level of a table is moved. -/
namespace PL.LB
theorem call_nx {D : String → Option Def} {n mk : Nat} {f : String} {d : Def} {args : List V} {M M1 M2 : Mem} {σ1 : Env} (hd : D f = some d) (hl : args.length = d.ps.length) (hv : d.live = false) (h : xss (parsOf D) (callN D n) M.length d.body (envOf d args) M = .nx σ1 M1) (ht : M1.take M.length = M2) :
    callN D (n + 1) mk f args M = .ok .non M2 := by
  unfold callN
  simp only [hd, hl, if_true, hv, Bool.false_eq_true, if_false, h, left, ht]
theorem compL_st {j : Nat} {w : List (Nat × List V)} {t : Tg} {c e : Env → Mem → R V} {σ : Env} (I : List V → Mem → Prop) (hc : ∀ σ' M', c σ' M' = .ok (.bl true) M') (hw : ∀ acc M, I acc M → watched w M = true) :
    ∀ (xs acc : List V) (M : Mem), (∀ x ∈ xs, ∀ acc M, I acc M → ∃ σ', asg t x σ = some σ' ∧ ∃ y M', e σ' M = .ok y M' ∧ M'[j]? = some (.lst acc) ∧ I (acc ++ [y]) (M'.set j (.lst (acc ++ [y])))) →
      I acc M → acc.length + xs.length ≤ SZ → ∃ acc' M', compL j w t c e σ xs M = .ok () M' ∧ I acc' M' ∧ acc'.length = acc.length + xs.length
  | [], acc, M, _, hi, _ => ⟨acc, M, by unfold compL; simp only [hw _ _ hi, if_true], hi, rfl⟩
  | x :: xs, acc, M, hs, hi, hz => by
    rw [List.length_cons] at hz
    obtain ⟨σ', ha, y, M', he, hm, hi'⟩ := hs x (List.mem_cons_self ..) acc M hi
    obtain ⟨acc', M2, h1, h2, h3⟩ := compL_st I hc hw xs (acc ++ [y]) _ (fun x hx => hs x (List.mem_cons_of_mem _ hx)) hi' (by rw [List.length_append, List.length_singleton]; omega)
    refine ⟨acc', M2, ?_, h2, by rw [h3, List.length_append, List.length_singleton, List.length_cons]; omega⟩
    unfold compL
    simp only [hw _ _ hi, if_true, ha, hc, R.bind_ok, he, hm]
    rw [if_pos (by omega)]
    exact h1
/-- the heap while a live table at e is moved -/
structure EB (M0 M' : Mem) (r g e : Nat) (T : List (List Int)) : Prop where
  bag : BagAt M' r g
  le : M0.length ≤ M'.length
  fr : ∀ i, i < M0.length → i ≠ r → i ≠ g → i ≠ e → M'[i]? = M0[i]?
  en : M'[e]? = some (.lst (T.map st))
section
variable {M0 M' M2 : Mem} {r g e p : Nat} {T T' : List (List Int)} {o : MO}
theorem EB.app (h : EB M0 M' r g e T) (N : Mem) : EB M0 (M' ++ N) r g e T :=
  ⟨h.bag.app N, by have := h.le; rw [List.length_append]; omega, fun i a b c d => by rw [List.getElem?_append_left (Nat.lt_of_lt_of_le a h.le)]; exact h.fr i a b c d,
    by rw [List.getElem?_append_left (List.getElem?_eq_some_iff.mp h.en).1]; exact h.en⟩
theorem EB.same (h : EB M0 M' r g e T) (er : e ≠ r ∧ e ≠ g) (hs : Same M' M2 r g) (hb : BagAt M2 r g) : EB M0 M2 r g e T :=
  ⟨hb, by rw [hs.len]; exact h.le, fun i a b c d => (hs.at_ i b c).trans (h.fr i a b c d), by rw [hs.at_ _ er.1 er.2]; exact h.en⟩
theorem EB.put (h : EB M0 M' r g e T) (er : e ≠ r ∧ e ≠ g) : EB M0 (M'.set e (.lst (T'.map st))) r g e T' :=
  ⟨h.bag.at er.1 er.2, by rw [List.length_set]; exact h.le, fun i a b c d => by rw [List.getElem?_set_ne (Ne.symm d)]; exact h.fr i a b c d, by rw [List.getElem?_set_self (List.getElem?_eq_some_iff.mp h.en).1]⟩
theorem EB.setN (h : EB M0 M' r g e T) (lt : r < M0.length ∧ g < M0.length ∧ e < M0.length) (hp : M0.length ≤ p) : EB M0 (M'.set p o) r g e T :=
  ⟨h.bag.at (by omega) (by omega), by rw [List.length_set]; exact h.le, fun i a b c d => by rw [List.getElem?_set_ne (by omega)]; exact h.fr i a b c d, by rw [List.getElem?_set_ne (by omega)]; exact h.en⟩
end
theorem put_entry {M : Mem} {mk e i : Nat} {T : List (List Int)} {x : List Int} (h : M[e]? = some (.lst (T.map st))) (hi : i < T.length) : put mk M (.ref e) (.int (i : Int)) (st x) = some (M.set e (.lst ((T.set i x).map st))) := by
  have hn : noref (st x) = true := (pd_st (n := 0)).1
  simp only [PL.put, h, nIx, List.length_map]
  rw [if_pos (by omega), if_pos (by omega), Option.bind_some]
  simp only [wOk, hn, Bool.or_true, if_true, Int.toNat_natCast, List.map_set]
abbrev lvI (k m : Nat) : List V := (lv k m).map fun i : Nat => V.int i
theorem frz_plain {M : Mem} {k : Nat} {v : V} (h : plain v = true) : frz M k RDN v = some v := by
  show frz M k (5 + 1) v = some v
  unfold frz
  exact frzW_plain _ _ h
/-- a pool to pick from: it stands still, or is a new list -/
def Pl (M0 M' : Mem) (pv : V) (fs : List V) : Prop := pv = .fl fs ∨ ∃ p, pv = .ref p ∧ M0.length ≤ p ∧ M'[p]? = some (.lst fs)
theorem Pl.sq {M0 M' : Mem} {pv : V} {fs : List V} (h : Pl M0 M' pv fs) : Sq M' pv fs := by
  rcases h with rfl | ⟨p, rfl, _, h⟩
  · exact Sq.fl
  · exact Sq.ref h
theorem Pl.same {M0 M' M2 : Mem} {pv : V} {fs : List V} {r g : Nat} (h : Pl M0 M' pv fs) (lt : r < M0.length ∧ g < M0.length) (hs : Same M' M2 r g) : Pl M0 M2 pv fs := by
  rcases h with rfl | ⟨p, rfl, hp, h⟩
  · exact .inl rfl
  · exact .inr ⟨p, rfl, hp, by rw [hs.at_ _ (by omega) (by omega)]; exact h⟩
theorem Pl.app {M0 M' : Mem} {pv : V} {fs : List V} (h : Pl M0 M' pv fs) (N : Mem) : Pl M0 (M' ++ N) pv fs := by
  rcases h with rfl | ⟨p, rfl, hp, h⟩
  · exact .inl rfl
  · exact .inr ⟨p, rfl, hp, by rw [List.getElem?_append_left (List.getElem?_eq_some_iff.mp h).1]; exact h⟩
theorem Pl.set {M0 M' : Mem} {pv : V} {fs : List V} (h : Pl M0 M' pv fs) {j : Nat} {o : MO} (hj : ∀ p, pv = .ref p → p ≠ j) : Pl M0 (M'.set j o) pv fs := by
  rcases h with rfl | ⟨p, rfl, hp, h⟩
  · exact .inl rfl
  · exact .inr ⟨p, rfl, hp, by rw [List.getElem?_set_ne (Ne.symm (hj p rfl))]; exact h⟩
section
variable {D : String → Option Def} (hdraw : D "_law_draw" = some d__law_draw) (hpick : D "_law_pick" = some d__law_pick)
include hdraw hpick
/-- one is picked of a pool of vints -/
theorem pick_pool (n : Nat) {mk : Nat} {M0 M' : Mem} {r g : Nat} (hb : BagAt M' r g) (lt : r < M0.length ∧ g < M0.length) {pv : V} {fs : List V} (hp : Pl M0 M' pv fs) (h0 : fs ≠ []) (hz : fs.length ≤ 1000) (hfs : ∀ y ∈ fs, plain y = true) :
    ∃ v M2, callN D (n + 2) mk "_law_pick" [.ref r, pv] M' = .ok v M2 ∧ BagAt M2 r g ∧ Same M' M2 r g ∧ v ∈ fs :=
  pick_run hdraw hpick n mk hb (x := pv) (vs := fs) (fun M2 hs => by
    have := (hp.same lt hs).sq.h []
    rw [List.append_nil] at this
    exact this) h0 (by omega) (fun v hv M' _ => by
      exact frz_plain (hfs v hv))
/-- [pick(bag, pool) for ..] -/
theorem picks_comp (n : Nat) {mk : Nat} {M0 M1 : Mem} {r g e : Nat} {T : List (List Int)} (lt : r < M0.length ∧ g < M0.length ∧ e < M0.length) (er : e ≠ r ∧ e ≠ g) (hE : EB M0 M1 r g e T) {pv : V} {fs : List V} (hp : Pl M0 M1 pv fs) (h0 : fs ≠ []) (hz : fs.length ≤ 1000) (hfs : ∀ y ∈ fs, plain y = true)
    {t pi : Nat} {σ : Env} (hσ : ∀ x, lk (stv σ t x) 0 = some (.ref r) ∧ lk (stv σ t x) pi = some pv) (xs : List V) (hxs : xs.length ≤ 1000) :
    ∃ acc M2, compL M1.length [] (.nm t) (fun σ' M' => evc (parsOf D) (callN D (n + 2)) mk .none σ' M') (fun σ' M' => ev (parsOf D) (callN D (n + 2)) mk (.fn "_law_pick" (.cons (.var 0) (.cons (.var pi) .nil))) σ' M') σ xs (M1 ++ [.lst []]) = .ok () M2 ∧
      EB M0 M2 r g e T ∧ Pl M0 M2 pv fs ∧ M2[M1.length]? = some (.lst acc) ∧ acc.length = xs.length ∧ ∀ y ∈ acc, y ∈ fs := by
  have hpj : ∀ p, pv = .ref p → p ≠ M1.length := fun p e => by
    rcases hp with rfl | ⟨q, rfl, _, hq⟩
    · cases e
    · cases e
      have := (List.getElem?_eq_some_iff.mp hq).1
      omega
  obtain ⟨acc, M2, h1, ⟨h2, h3, h4, h5⟩, h6⟩ := compL_st (j := M1.length) (w := []) (t := .nm t) (c := fun σ' M' => evc (parsOf D) (callN D (n + 2)) mk .none σ' M') (e := fun σ' M' => ev (parsOf D) (callN D (n + 2)) mk (.fn "_law_pick" (.cons (.var 0) (.cons (.var pi) .nil))) σ' M') (σ := σ)
    (fun acc M' => EB M0 M' r g e T ∧ Pl M0 M' pv fs ∧ M'[M1.length]? = some (.lst acc) ∧ ∀ y ∈ acc, y ∈ fs) (fun _ _ => evc_none) (fun _ _ _ => rfl) xs [] (M1 ++ [.lst []])
    (fun x _ acc M' ⟨hE', hp', hj, ha⟩ => by
      obtain ⟨v, M2, hc, hb2, hs2, hv⟩ := pick_pool hdraw hpick n (mk := mk) hE'.bag ⟨lt.1, lt.2.1⟩ hp' h0 hz hfs
      have hle := hE.le
      have hj2 : M2[M1.length]? = some (.lst acc) := by rw [hs2.at_ _ (by omega) (by omega)]; exact hj
      refine ⟨_, asg_nm, v, M2, ev_fn (evs_cons (ev_var (hσ x).1) (evs_cons (ev_var (hσ x).2) evs_nil)) hc, hj2, (hE'.same er hs2 hb2).setN lt hle, (hp'.same ⟨lt.1, lt.2.1⟩ hs2).set hpj, by rw [List.getElem?_set_self (List.getElem?_eq_some_iff.mp hj2).1], fun y hy => ?_⟩
      rcases List.mem_append.mp hy with hy | hy
      · exact ha y hy
      · rw [List.mem_singleton.mp hy]; exact hv)
    ⟨hE.app _, hp.app _, at_end, by simp⟩ (by unfold SZ; simp; omega)
  exact ⟨acc, M2, h1, h2, h3, h4, by simpa using h6, h5⟩
end
theorem lvI_plain {k m : Nat} : ∀ y ∈ lvI k m, plain y = true := fun y hy => by obtain ⟨i, _, rfl⟩ := List.mem_map.mp hy; rfl
theorem of_lvI {k m : Nat} : ∀ {acc : List V}, (∀ y ∈ acc, y ∈ lvI k m) → ∃ ts : List Nat, acc = ts.map (fun i : Nat => V.int i) ∧ ∀ j ∈ ts, j ∈ lv k m
  | [], _ => ⟨[], rfl, by simp⟩
  | y :: acc, h => by
    obtain ⟨ts, e, ht⟩ := of_lvI fun z hz => h z (List.mem_cons_of_mem _ hz)
    obtain ⟨i, hi, rfl⟩ := List.mem_map.mp (h y (List.mem_cons_self ..))
    exact ⟨i :: ts, by rw [e]; rfl, fun j hj => by
      rcases List.mem_cons.mp hj with rfl | hj
      · exact hi
      · exact ht j hj⟩
abbrev mσ (r k e m : Nat) (way : Int) (x5 x8 x9 x10 x11 x12 x13 x14 x15 x16 x17 x18 x19 : Option V) : Env := [some (.ref r), some (wv k), some (.ref e), some (.int m), some (.int way), x5, some (.fl (lvI k m)), some (.fl ((wl k).map st)), x8, x9, x10, x11, x12, x13, x14, x15, x16, x17, x18, x19]
abbrev tgS : S := (.iff (.cmp .eq (.var 4) (.cst (.int 1))) (.cons (.set (.nm 12) (.comp (.nm 16) (.rng1 (.bin .add (.cst (.int 1)) (.fn "_law_draw" (.cons (.var 0) (.cons (.cst (.int 3)) .nil))))) .none (.fn "_law_pick" (.cons (.var 0) (.cons (.var 6) .nil)))))
    (.cons (.set (.nm 8) (.comp (.nm 10) (.of (.var 6)) .none (.fn "_law_pick" (.cons (.var 0) (.cons (.var 12) .nil)))))
    .nil)) (.cons (.iff (.cmp .eq (.var 4) (.cst (.int 4))) (.cons (.set (.nm 8) (.comp (.nm 10) (.of (.var 6)) .none (.fn "_law_pick" (.cons (.var 0) (.cons (.var 6) .nil)))))
    .nil) (.cons (.iff (.cmp .eq (.fn "_law_draw" (.cons (.var 0) (.cons (.cst (.int 2)) .nil))) (.cst (.int 0))) (.cons (.set (.nm 8) (.comp (.nm 19) (.of (.var 9)) .none (.idx (.var 6) (.var 19))))
    .nil) (.cons (.par [17, 18] (.cons (.fn "_law_draw" (.cons (.var 0) (.cons (.pr .len (.cons (.var 6) .nil)) .nil))) (.cons (.fn "_law_draw" (.cons (.var 0) (.cons (.pr .len (.cons (.var 6) .nil)) .nil))) .nil)))
    (.cons (.put (.var 8) (.var 17) (.idx (.var 6) (.var 18)))
    (.cons (.put (.var 8) (.var 18) (.idx (.var 6) (.var 17)))
    .nil))))
    .nil))
    .nil))
section
variable {D : String → Option Def} (hdraw : D "_law_draw" = some d__law_draw) (hpick : D "_law_pick" = some d__law_pick)
include hdraw hpick
/-- where each number of the level is led -/
theorem targets_run (n : Nat) {mk : Nat} {M0 M1 : Mem} {r g e k m p0 : Nat} {T : List (List Int)} {way : Int} {os : List Int} {x5 : Option V} (lt : r < M0.length ∧ g < M0.length ∧ e < M0.length) (er : e ≠ r ∧ e ≠ g) (hE : EB M0 M1 r g e T) (hk : k < 5) (hm : 1 ≤ m ∧ m < k + 2)
    (hp0 : M0.length ≤ p0) (ht0 : M1[p0]? = some (.lst (lvI k m))) (hos : os.Perm ((List.range (lv k m).length).map fun i : Nat => (i : Int))) (hmk : mk ≤ M0.length) :
    ∃ (p : Nat) (ts : List Nat) (M2 : Mem) (y10 y12 y16 y17 y18 y19 : Option V), xs (parsOf D) (callN D (n + 2)) mk tgS (mσ r k e m way x5 (some (.ref p0)) (some (.fl (os.map .int))) none none none none none none none none none none) M1 = .nx (mσ r k e m way x5 (some (.ref p)) (some (.fl (os.map .int))) y10 none y12 none none none y16 y17 y18 y19) M2 ∧
      EB M0 M2 r g e T ∧ M0.length ≤ p ∧ M2[p]? = some (.lst (ts.map fun i : Nat => V.int i)) ∧ ts.length = (lv k m).length ∧ ∀ j ∈ ts, j ∈ lv k m := by
  have hne := lv_ne k hk m hm.2 hm.1
  have small := (wl_small k hk).1
  have hll := lv_len k m
  have hneI : lvI k m ≠ [] := by simpa using hne
  have hlI : (lvI k m).length ≤ 1000 := by rw [List.length_map]; omega
  have hle := hE.le
  have l0 : 0 < (lv k m).length := List.length_pos_iff.mpr hne
  by_cases w1 : way = 1
  · obtain ⟨v, M2, hd, hb2, hs2, v0, v1⟩ := draw_run hdraw (n + 1) mk hE.bag 3 (by omega) (by omega)
    have hE2 := hE.same er hs2 hb2
    have hle2 := hE2.le
    obtain ⟨acc, M3, hc3, hE3, hP3, ha3, hl3, hm3⟩ := picks_comp hdraw hpick n (mk := mk) lt er hE2 (pv := .fl (lvI k m)) (.inl rfl) hneI hlI lvI_plain (t := 16) (pi := 6) (σ := mσ r k e m way x5 (some (.ref p0)) (some (.fl (os.map .int))) none none none none none none none none none none) (fun x => ⟨rfl, rfl⟩)
      ((List.range (1 + v).toNat).map fun i : Nat => V.int (i : Int)) (by simp; omega)
    have hl3' : acc.length = (1 + v).toNat := by simpa using hl3
    have hne3 : acc ≠ [] := fun e => by rw [e] at hl3'; simp at hl3'; omega
    have hplain : ∀ y ∈ acc, plain y = true := fun y hy => lvI_plain y (hm3 y hy)
    have hle3 := hE3.le
    have lt3 := (List.getElem?_eq_some_iff.mp ha3).1
    obtain ⟨acc', M4, hc4, hE4, hP4, ha4, hl4, hm4⟩ := picks_comp hdraw hpick n (mk := mk) lt er hE3 (pv := .ref M2.length) (.inr ⟨M2.length, rfl, hle2, ha3⟩) hne3 (by omega) hplain (t := 10) (pi := 12) (σ := mσ r k e m way x5 (some (.ref p0)) (some (.fl (os.map .int))) none none (some (.ref M2.length)) none none none none none none none) (fun x => ⟨rfl, rfl⟩) (lvI k m) hlI
    obtain ⟨ts, rfl, hts⟩ := of_lvI fun y hy => hm3 y (hm4 y hy)
    refine ⟨M3.length, ts, M4, none, some (.ref M2.length), none, none, none, none, ?_, hE4, hE3.le, ha4, by simpa using hl4, hts⟩
    apply xs_iff (q := true)
    refine ev_cmp (ev_var rfl) ev_cst ?_
    rw [eq_int, w1]; rfl
    refine (if_pos rfl).trans ?_
    apply xss_nx
    apply xs_set
    apply ev_comp
    apply evi_rng1 (k := (((1 + v).toNat : Nat) : Int))
    refine (ev_bin ev_cst (ev_fn (evs_cons (ev_var rfl) (evs_cons ev_cst evs_nil)) hd) add_i).trans ?_
    congr 2
    omega
    exact rOk_nat (by omega)
    rw [ranged0]
    exact hc3
    exact asgM_nm
    apply xss_nx
    apply xs_set
    apply ev_comp
    apply evi_of
    exact ev_var rfl
    exact srcOf_fl
    exact hc4
    exact asgM_nm
    exact xss_nil
  have n1 : (way == 1) = false := beq_eq_false_iff_ne.mpr w1
  by_cases w4 : way = 4
  · obtain ⟨acc', M4, hc4, hE4, hP4, ha4, hl4, hm4⟩ := picks_comp hdraw hpick n (mk := mk) lt er hE (pv := .fl (lvI k m)) (.inl rfl) hneI hlI lvI_plain (t := 10) (pi := 6) (σ := mσ r k e m way x5 (some (.ref p0)) (some (.fl (os.map .int))) none none none none none none none none none none) (fun x => ⟨rfl, rfl⟩) (lvI k m) hlI
    obtain ⟨ts, rfl, hts⟩ := of_lvI hm4
    refine ⟨M1.length, ts, M4, none, none, none, none, none, none, ?_, hE4, hE.le, ha4, by simpa using hl4, hts⟩
    apply xs_iff (q := false)
    refine ev_cmp (ev_var rfl) ev_cst ?_
    rw [eq_int, n1]
    refine (if_neg (by decide)).trans ?_
    apply xss_nx
    apply xs_iff (q := true)
    refine ev_cmp (ev_var rfl) ev_cst ?_
    rw [eq_int, w4]; rfl
    refine (if_pos rfl).trans ?_
    apply xss_nx
    apply xs_set
    apply ev_comp
    apply evi_of
    exact ev_var rfl
    exact srcOf_fl
    exact hc4
    exact asgM_nm
    exact xss_nil
    exact xss_nil
  have n4 : (way == 4) = false := beq_eq_false_iff_ne.mpr w4
  obtain ⟨v, M2, hd, hb2, hs2, v0, v1⟩ := draw_run hdraw (n + 1) mk hE.bag 2 (by omega) (by omega)
  have hE2 := hE.same er hs2 hb2
  have hle2 := hE2.le
  by_cases hv : v = 0
  · have hcomp := compL_enc (w := []) (t := .nm 19) (c := fun σ' M' => evc (parsOf D) (callN D (n + 2)) mk .none σ' M') (e := fun σ' M' => ev (parsOf D) (callN D (n + 2)) mk (.idx (.var 6) (.var 19)) σ' M')
      (σ := mσ r k e m way x5 (some (.ref p0)) (some (.fl (os.map .int))) none none none none none none none none none none) (M := M2) V.int (fun _ => true) (fun o => .int ((lv k m).getD o.toNat 0 : Nat)) os []
      (fun _ => rfl) (fun o ho => ⟨_, asg_nm, fun acc => ⟨evc_none, fun _ => by
        obtain ⟨i, hi, rfl⟩ := List.mem_map.mp (hos.mem_iff.mp ho)
        have hi := List.mem_range.mp hi
        refine ev_idx (ev_var rfl) (ev_var rfl) (Sq.fl.idx ?_)
        rw [List.getElem?_map, List.getElem?_eq_getElem hi, Int.toNat_natCast, List.getD, List.getElem?_eq_getElem hi]; rfl⟩⟩) (by
          have := hos.length_eq
          rw [List.length_map, List.length_range] at this
          unfold SZ; simp; omega)
    rw [filter_true, List.nil_append] at hcomp
    have hlo : os.length = (lv k m).length := by have := hos.length_eq; rwa [List.length_map, List.length_range] at this
    refine ⟨M2.length, os.map fun o => (lv k m).getD o.toNat 0, M2 ++ [.lst (os.map fun o => .int ((lv k m).getD o.toNat 0 : Nat))], none, none, none, none, none, none, ?_, hE2.app _, hle2, by rw [List.map_map]; exact at_end, by rw [List.length_map, hlo], fun j hj => ?_⟩
    · apply xs_iff (q := false)
      refine ev_cmp (ev_var rfl) ev_cst ?_
      rw [eq_int, n1]
      refine (if_neg (by decide)).trans ?_
      apply xss_nx
      apply xs_iff (q := false)
      refine ev_cmp (ev_var rfl) ev_cst ?_
      rw [eq_int, n4]
      refine (if_neg (by decide)).trans ?_
      apply xss_nx
      apply xs_iff (q := true)
      refine ev_cmp (ev_fn (evs_cons (ev_var rfl) (evs_cons ev_cst evs_nil)) hd) ev_cst ?_
      rw [eq_int, hv]; rfl
      refine (if_pos rfl).trans ?_
      apply xss_nx
      apply xs_set
      apply ev_comp
      apply evi_of
      exact ev_var rfl
      exact srcOf_fl
      exact hcomp
      exact asgM_nm
      exact xss_nil
      exact xss_nil
      exact xss_nil
    · obtain ⟨o, ho, rfl⟩ := List.mem_map.mp hj
      obtain ⟨i, hi, rfl⟩ := List.mem_map.mp (hos.mem_iff.mp ho)
      have hi := List.mem_range.mp hi
      rw [Int.toNat_natCast, List.getD, List.getElem?_eq_getElem hi]
      exact List.getElem_mem hi
  · obtain ⟨one, M3, hd3, hb3, hs3, o0, o1⟩ := draw_run hdraw (n + 1) mk hb2 ((lv k m).length : Int) (by omega) (by omega)
    obtain ⟨oth, M4, hd4, hb4, hs4, t0, t1⟩ := draw_run hdraw (n + 1) mk hb3 ((lv k m).length : Int) (by omega) (by omega)
    have hE4 := (hE2.same er hs3 hb3).same er hs4 hb4
    have hp4 : M4[p0]? = some (.lst ((lv k m).map fun i : Nat => V.int i)) := by
      rw [hs4.at_ _ (by omega) (by omega), hs3.at_ _ (by omega) (by omega), hs2.at_ _ (by omega) (by omega)]; exact ht0
    have i1 : one.toNat < (lv k m).length := by omega
    have i2 : oth.toNat < (lv k m).length := by omega
    have putI : ∀ (M : Mem) (l : List Nat) (i : Int) (j : Nat), M[p0]? = some (.lst (l.map fun i : Nat => V.int i)) → 0 ≤ i → i.toNat < l.length → PL.put mk M (.ref p0) (.int i) (.int (j : Int)) = some (M.set p0 (.lst ((l.set i.toNat j).map fun i : Nat => V.int i))) := fun M l i j hM h0 hl => by
      simp only [PL.put, hM, nIx, List.length_map]
      rw [if_pos h0, if_pos (by omega), Option.bind_some]
      simp only [wOk, noref, Bool.or_true, if_true, List.map_set]
    have lp4 := (List.getElem?_eq_some_iff.mp hp4).1
    have getI : ∀ (M : Mem) (i : Int), 0 ≤ i → i.toNat < (lv k m).length → index M (.fl (lvI k m)) (.int i) = some (.int ((lv k m).getD i.toNat 0 : Nat)) := fun M i h0 hl => by
      refine index_items rfl rfl h0 ?_
      rw [List.getElem?_map, List.getElem?_eq_getElem hl, List.getD, List.getElem?_eq_getElem hl]; rfl
    have gm : ∀ i, i < (lv k m).length → (lv k m).getD i 0 ∈ lv k m := fun i hi => by
      rw [List.getD, List.getElem?_eq_getElem hi]; exact List.getElem_mem hi
    refine ⟨p0, ((lv k m).set one.toNat ((lv k m).getD oth.toNat 0)).set oth.toNat ((lv k m).getD one.toNat 0), (M4.set p0 (.lst (((lv k m).set one.toNat ((lv k m).getD oth.toNat 0)).map fun i : Nat => V.int i))).set p0 (.lst ((((lv k m).set one.toNat ((lv k m).getD oth.toNat 0)).set oth.toNat ((lv k m).getD one.toNat 0)).map fun i : Nat => V.int i)), none, none, none, some (.int one), some (.int oth), none, ?_,
      (hE4.setN lt hp0).setN lt hp0, hp0, by rw [List.getElem?_set_self (by rw [List.length_set]; exact lp4)], by simp, fun j hj => ?_⟩
    · apply xs_iff (q := false)
      refine ev_cmp (ev_var rfl) ev_cst ?_
      rw [eq_int, n1]
      refine (if_neg (by decide)).trans ?_
      apply xss_nx
      apply xs_iff (q := false)
      refine ev_cmp (ev_var rfl) ev_cst ?_
      rw [eq_int, n4]
      refine (if_neg (by decide)).trans ?_
      apply xss_nx
      apply xs_iff (q := false)
      refine ev_cmp (ev_fn (evs_cons (ev_var rfl) (evs_cons ev_cst evs_nil)) hd) ev_cst ?_
      rw [eq_int, beq_eq_false_iff_ne.mpr hv]
      refine (if_neg (by decide)).trans ?_
      apply xss_nx
      apply xs_par
      apply evs_cons
      apply ev_fn
      exact evs_cons (ev_var rfl) (evs_cons (ev_pr (evs_cons (ev_var rfl) evs_nil) Sq.fl.len) evs_nil)
      rw [List.length_map]; exact hd3
      apply evs_cons
      apply ev_fn
      exact evs_cons (ev_var rfl) (evs_cons (ev_pr (evs_cons (ev_var rfl) evs_nil) Sq.fl.len) evs_nil)
      rw [List.length_map]; exact hd4
      exact evs_nil
      rfl
      apply xss_nx
      apply xs_put
      exact ev_idx (ev_var rfl) (ev_var rfl) (getI _ _ t0 i2)
      exact ev_var rfl
      exact ev_var rfl
      exact putI _ _ _ _ hp4 o0 i1
      apply xss_nx
      apply xs_put
      exact ev_idx (ev_var rfl) (ev_var rfl) (getI _ _ o0 i1)
      exact ev_var rfl
      exact ev_var rfl
      exact putI _ _ _ _ (by rw [List.getElem?_set_self lp4]) t0 (by rw [List.length_set]; exact i2)
      exact xss_nil
      exact xss_nil
      exact xss_nil
    · rcases List.mem_or_eq_of_mem_set hj with hj | rfl
      · rcases List.mem_or_eq_of_mem_set hj with hj | rfl
        · exact hj
        · exact gm _ i2
      · exact gm _ i1
end
end PL.LB

/-! LT5: a level moved, boxes called otherwise, some table. -/
namespace PL.LB
theorem zipped_map {α β : Type} (f : α → V) (h : β → V) : ∀ (l : List α) (t : List β), zipped (l.map f) (t.map h) = (l.zip t).map fun q => .tup [f q.1, h q.2]
  | [], t => by cases t <;> rfl
  | _ :: _, [] => rfl
  | x :: l, y :: t => by simp only [List.map_cons, zipped, List.zip_cons_cons, zipped_map f h l t]
theorem evi_zip {C : Orc} {P : String → Option (List String)} {mk : Nat} {σ : Env} {M M1 M2 : Mem} {a b : E} {x y : V} {s : Src} (h1 : ev P C mk a σ M = .ok x M1) (h2 : ev P C mk b σ M1 = .ok y M2) (h3 : srcZ M2 x y = .ok s M2) : evi P C mk (.zip a b) σ M = .ok s M2 := by
  simp only [evi, h1, h2, R.bind_ok, h3]
/-- what `_law_level_moved` needs -/
structure HasT (D : String → Option Def) : Prop where
  draw : D "_law_draw" = some d__law_draw
  pick : D "_law_pick" = some d__law_pick
  order : D "_law_order" = some d__law_order
  things : D "_law_things" = some d__law_things
  copied : D "_law_copied" = some d__law_copied
  copies : D "_law_copies" = some d__law_copies
  first : D "_law_first" = some d__law_first
  behind : D "_law_behind" = some d__law_behind
  put : D "_law_put" = some d__law_put
  done : D "_law_done" = some d__law_done
  deed_table : D "_law_deed_table" = some d__law_deed_table
  level : D "_law_level" = some d__law_level
  full : D "_law_full" = some d__law_full
  deed : D "_law_deed" = some d__law_deed
  entry : D "_law_entry" = some d__law_entry
  laid : D "_law_laid" = some d__law_laid
  level_moved : D "_law_level_moved" = some d__law_level_moved
  called : D "_law_called" = some d__law_called
  some_table : D "_law_some_table" = some d__law_some_table
section
variable {D : String → Option Def} (hD : HasT D)
include hD
abbrev zipB : Ss := (.cons (.put (.var 2) (.var 10) (.ite (.var 5) (.idx (.var 7) (.var 13)) (.fn "_law_laid" (.cons (.var 0) (.cons (.var 1) (.cons (.var 13) .nil)))))) .nil)
/-- for number, target in zip(level, targets): .. -/
theorem zip_run (n : Nat) {mk : Nat} {M0 M1 : Mem} {r g e k m p : Nat} {T : List (List Int)} {ts : List Nat} {way : Int} {q : Bool} {x8 x9 x10 x11 x12 x16 x17 x18 x19 : Option V} (lt : r < M0.length ∧ g < M0.length ∧ e < M0.length) (er : e ≠ r ∧ e ≠ g) (hE : EB M0 M1 r g e T) (hT : TOk k T) (hk : k < 5)
    (hp : M0.length ≤ p) (ht : M1[p]? = some (.lst (ts.map fun i : Nat => V.int i))) (hts : ∀ j ∈ ts, j ∈ lv k m) (h8 : x8 = some (.ref p)) :
    ∃ T' M2 y10 y13, xs (parsOf D) (callN D (n + 3)) mk (.for (.tp (.cons (.nm 10) (.cons (.nm 13) .nil))) (.zip (.var 6) (.var 8)) zipB) (mσ r k e m way (some (.bl q)) x8 x9 x10 x11 x12 none none none x16 x17 x18 x19) M1 = .nx (mσ r k e m way (some (.bl q)) x8 x9 y10 x11 x12 y13 none none x16 x17 x18 x19) M2 ∧ EB M0 M2 r g e T' ∧ TOk k T' := by
  subst h8
  obtain ⟨σ1, M2, hl, T', y10, y13, rest, hσ, hE', hT', _⟩ := forL_inv (w := [(p, ts.map fun i : Nat => V.int i)]) (t := .tp (.cons (.nm 10) (.cons (.nm 13) .nil))) (b := fun σ' M' => xss (parsOf D) (callN D (n + 3)) mk zipB σ' M')
    (fun xs σ' M' => ∃ (T' : List (List Int)) (y10 y13 : Option V) (rest : List (Nat × Nat)), σ' = mσ r k e m way (some (.bl q)) (some (.ref p)) x9 y10 x11 x12 y13 none none x16 x17 x18 x19 ∧ EB M0 M' r g e T' ∧ TOk k T' ∧ M'[p]? = some (.lst (ts.map fun i : Nat => V.int i)) ∧ xs = rest.map (fun q : Nat × Nat => V.tup [V.int q.1, V.int q.2]) ∧ ∀ q ∈ rest, q.1 ∈ lv k m ∧ q.2 ∈ lv k m)
    (zipped (lvI k m) (ts.map fun i : Nat => V.int i)) (mσ r k e m way (some (.bl q)) (some (.ref p)) x9 x10 x11 x12 none none none x16 x17 x18 x19) M1
    ⟨T, x10, none, (lv k m).zip ts, rfl, hE, hT, ht, zipped_map _ _ _ _, fun q hq => ⟨(List.of_mem_zip hq).1, hts _ (List.of_mem_zip hq).2⟩⟩
    (by
      rintro xs σ' M' ⟨T', y10, y13, rest, rfl, hE', hT', ht', hx, hr⟩
      exact watch1 ht')
    (by
      rintro x xs σ' M' ⟨T', y10, y13, rest, rfl, hE', hT', ht', hx, hr⟩
      cases rest with
      | nil => simp at hx
      | cons w rest =>
        rw [List.map_cons, List.cons.injEq] at hx
        obtain ⟨rfl, rfl⟩ := hx
        obtain ⟨hw1, hw2⟩ := hr w (List.mem_cons_self ..)
        have l1 := (lv_mem hw1).1
        have l2 := (lv_mem hw2).1
        have l1' : w.1 < T'.length := by rw [hT'.len]; exact l1
        refine ⟨mσ r k e m way (some (.bl q)) (some (.ref p)) x9 (some (.int w.1)) x11 x12 (some (.int w.2)) none none x16 x17 x18 x19, rfl, mσ r k e m way (some (.bl q)) (some (.ref p)) x9 (some (.int w.1)) x11 x12 (some (.int w.2)) none none x16 x17 x18 x19, ?_⟩
        cases q with
        | true =>
          refine ⟨M'.set e (.lst ((T'.set w.1 (at_ (wl k) w.2)).map st)), ?_, T'.set w.1 (at_ (wl k) w.2), _, _, rest, rfl, hE'.put er, hT'.set l1 (lv_ent hw1 hw2), by rw [List.getElem?_set_ne (by omega)]; exact ht', rfl, fun q hq => hr q (List.mem_cons_of_mem _ hq)⟩
          apply xss_nx
          apply xs_put
          apply ev_ite (q := true)
          exact ev_var rfl
          refine (if_pos rfl).trans ?_
          exact ev_idx (ev_var rfl) (ev_var rfl) (pat_at l2)
          exact ev_var rfl
          exact ev_var rfl
          exact put_entry hE'.en l1'
          exact xss_nil
        | false =>
          obtain ⟨en, M3, hla, heok, hb3, hs3⟩ := laid_tab hD.draw hD.pick hD.order hD.laid n mk hE'.bag hk hw1 hw2
          have hE3 := hE'.same er hs3 hb3
          refine ⟨M3.set e (.lst ((T'.set w.1 en).map st)), ?_, T'.set w.1 en, _, _, rest, rfl, hE3.put er, hT'.set l1 heok, by rw [List.getElem?_set_ne (by omega), hs3.at_ _ (by omega) (by omega)]; exact ht', rfl, fun q hq => hr q (List.mem_cons_of_mem _ hq)⟩
          apply xss_nx
          apply xs_put
          apply ev_ite (q := false)
          exact ev_var rfl
          refine (if_neg (by decide)).trans ?_
          exact ev_fn (evs_cons (ev_var rfl) (evs_cons (ev_var rfl) (evs_cons (ev_var rfl) evs_nil))) hla
          exact ev_var rfl
          exact ev_var rfl
          exact put_entry hE3.en l1'
          exact xss_nil)
  refine ⟨T', M2, y10, y13, ?_, hE', hT'⟩
  apply xs_for
  refine evi_zip (ev_var rfl) (ev_var rfl) (s := (zipped (lvI k m) (ts.map fun i : Nat => V.int i), [(p, ts.map fun i : Nat => V.int i)])) ?_
  simp only [srcZ, srcOf_fl, srcOf_ref ht, isT, if_true, List.nil_append]
  rw [hσ] at hl
  exact hl
theorem moved_run (n mk : Nat) {M : Mem} {r g e k m : Nat} {T : List (List Int)} {way : Int} (hb : BagAt M r g) (he : M[e]? = some (.lst (T.map st))) (er : e ≠ r ∧ e ≠ g) (hT : TOk k T) (hk : k < 5) (hm : 2 ≤ m) (hm2 : m < k + 1) :
    ∃ T' M', callN D (n + 5) mk "_law_level_moved" [.ref r, wv k, .ref e, .int m, .int way] M = .ok .non M' ∧ TOk k T' ∧ EB M M' r g e T' ∧ M'.length = M.length := by
  have lt' := hb.lt
  have lt : r < M.length ∧ g < M.length ∧ e < M.length := ⟨lt'.1, lt'.2, (List.getElem?_eq_some_iff.mp he).1⟩
  have small := (wl_small k hk).1
  have hll := lv_len k m
  have hne := lv_ne k hk m (by omega) (by omega)
  have hE0 : EB M M r g e T := ⟨hb, Nat.le_refl _, fun _ _ _ _ _ => rfl, he⟩
  have hlv := level_tab hD.level (n + 3) M.length M (m := m) hk
  have hE1 := hE0.app [.lst (lvI k m)]
  obtain ⟨os, M1, ho, hb1, hs1, hper⟩ := order_run hD.draw hD.pick hD.order (n + 2) M.length hE1.bag (lv k m).length (by omega)
  have hEM1 := hE1.same er hs1 hb1
  have hp1 : M1[M.length]? = some (.lst (lvI k m)) := by rw [hs1.at_ _ (by omega) (by omega)]; exact at_end
  -- the end
  have fin : ∀ {M2 : Mem} {T2 : List (List Int)}, EB M M2 r g e T2 → EB M (M2.take M.length) r g e T2 ∧ (M2.take M.length).length = M.length := fun {M2 T2} h => by
    refine ⟨⟨h.bag.out hb, by rw [List.length_take]; have := h.le; omega, fun i a b c d => by rw [List.getElem?_take_of_lt a]; exact h.fr i a b c d, by rw [List.getElem?_take_of_lt lt.2.2]; exact h.en⟩, by rw [List.length_take]; have := h.le; omega⟩
  have start : ∀ {O : Rs} {rest : Ss}, xss (parsOf D) (callN D (n + 4)) M.length rest (mσ r k e m way none (some (.ref M.length)) (some (.fl (os.map .int))) none none none none none none none none none none) M1 = O →
      xss (parsOf D) (callN D (n + 4)) M.length (.cons (.set (.tp (.cons (.nm 6) (.cons (.nm 7) .nil))) (.tup (.cons (.fn "_law_level" (.cons (.var 1) (.cons (.var 3) .nil))) (.cons (.idx (.var 1) (.cst (.int 1))) .nil))))
        (.cons (.par [8, 9] (.cons (.pr .list (.cons (.var 6) .nil)) (.cons (.fn "_law_order" (.cons (.var 0) (.cons (.pr .len (.cons (.var 6) .nil)) .nil))) .nil))) rest)) (envOf d__law_level_moved [.ref r, wv k, .ref e, .int m, .int way]) M = O := fun {O rest} hO => by
    apply xss_nx
    apply xs_set
    apply ev_tup
    exact evs_cons (ev_fn (evs_cons (ev_var rfl) (evs_cons (ev_var rfl) evs_nil)) hlv) (evs_cons (ev_idx (ev_var rfl) ev_cst w1) evs_nil)
    show 2 ≤ SZ
    decide
    rfl
    apply xss_nx
    apply xs_par
    apply evs_cons
    exact ev_pr (evs_cons (ev_var rfl) evs_nil) (list_items (xs := lvI k m) rfl)
    apply evs_cons
    apply ev_fn
    exact evs_cons (ev_var rfl) (evs_cons (ev_pr (evs_cons (ev_var rfl) evs_nil) Sq.fl.len) evs_nil)
    rw [List.length_map]
    exact ho
    exact evs_nil
    rfl
    exact hO
  by_cases w5 : way = 5
  · -- all stays
    obtain ⟨σ2, M2, hl, T', y10, rest, hσ, hE2, hT2, _⟩ := forL_inv (w := []) (t := .nm 10) (b := fun σ' M' => xss (parsOf D) (callN D (n + 4)) M.length (.cons (.put (.var 2) (.var 10) (.idx (.var 7) (.var 10))) .nil) σ' M')
      (fun xs σ' M' => ∃ (T' : List (List Int)) (y10 : Option V) (rest : List Nat), σ' = mσ r k e m way none (some (.ref M.length)) (some (.fl (os.map .int))) y10 none none none none none none none none none ∧ EB M M' r g e T' ∧ TOk k T' ∧ xs = rest.map (fun i : Nat => V.int i) ∧ ∀ i ∈ rest, i ∈ lv k m)
      (lvI k m) (mσ r k e m way none (some (.ref M.length)) (some (.fl (os.map .int))) none none none none none none none none none none) M1
      ⟨T, none, lv k m, rfl, hEM1, hT, rfl, fun _ h => h⟩
      (fun _ _ _ _ => rfl)
      (by
        rintro x xs σ' M' ⟨T', y10, rest, rfl, hE', hT', hx, hr⟩
        cases rest with
        | nil => simp at hx
        | cons i rest =>
          rw [List.map_cons, List.cons.injEq] at hx
          obtain ⟨rfl, rfl⟩ := hx
          have hi := hr i (List.mem_cons_self ..)
          have l1 := (lv_mem hi).1
          refine ⟨_, asg_nm, mσ r k e m way none (some (.ref M.length)) (some (.fl (os.map .int))) (some (.int i)) none none none none none none none none none, M'.set e (.lst ((T'.set i (at_ (wl k) i)).map st)), ?_, T'.set i (at_ (wl k) i), _, rest, rfl, hE'.put er, hT'.set l1 (lv_ent hi hi), rfl, fun q hq => hr q (List.mem_cons_of_mem _ hq)⟩
          apply xss_nx
          apply xs_put
          exact ev_idx (ev_var rfl) (ev_var rfl) (pat_at l1)
          exact ev_var rfl
          exact ev_var rfl
          exact put_entry hE'.en (by rw [hT'.len]; exact l1)
          exact xss_nil)
    obtain ⟨hEf, hlf⟩ := fin hE2
    refine ⟨T', M2.take M.length, ?_, hT2, hEf, hlf⟩
    apply call_rt (d := d__law_level_moved) hD.level_moved rfl rfl
    refine start ?_
    apply xss_rt
    apply xs_iff (q := true)
    refine ev_cmp (ev_var rfl) ev_cst ?_
    rw [eq_int, w5]; rfl
    refine (if_pos rfl).trans ?_
    apply xss_nx
    apply xs_for
    apply evi_of
    exact ev_var rfl
    exact srcOf_fl
    exact hl
    rw [hσ]
    apply xss_rt
    simp only [xs]
    rfl
    rfl
    rfl
  have n5 : (way == 5) = false := beq_eq_false_iff_ne.mpr w5
  by_cases w0' : way = 0
  · obtain ⟨v, M2, hp, hb2, hs2, hv⟩ := pick_pool hD.draw hD.pick (n + 2) (mk := M.length) (M0 := M) hEM1.bag lt' (pv := .fl (lvI k m)) (fs := lvI k m) (.inl rfl) (by simpa using hne) (by rw [List.length_map]; omega) lvI_plain
    obtain ⟨i, hi, rfl⟩ := List.mem_map.mp hv
    have l1 := (lv_mem hi).1
    have hE2 := hEM1.same er hs2 hb2
    obtain ⟨en, M3, hen, heok, hb3, hs3⟩ := entry_tab hD.draw hD.pick hD.order hD.laid hD.level hD.entry n M.length hb2 hk l1
    have hE3 := hE2.same er hs3 hb3
    obtain ⟨hEf, hlf⟩ := fin (hE3.put er (T' := T.set i en))
    refine ⟨T.set i en, _, ?_, hT.set l1 heok, hEf, hlf⟩
    apply call_rt (d := d__law_level_moved) hD.level_moved rfl rfl
    refine start ?_
    apply xss_nx
    apply xs_iff (q := false)
    refine ev_cmp (ev_var rfl) ev_cst ?_
    rw [eq_int, n5]
    refine (if_neg (by decide)).trans ?_
    exact xss_nil
    apply xss_rt
    apply xs_iff (q := true)
    refine ev_cmp (ev_var rfl) ev_cst ?_
    rw [eq_int, w0']; rfl
    refine (if_pos rfl).trans ?_
    apply xss_nx
    apply xs_set
    exact ev_fn (evs_cons (ev_var rfl) (evs_cons (ev_var rfl) evs_nil)) hp
    exact asgM_nm
    apply xss_nx
    apply xs_put
    exact ev_fn (evs_cons (ev_var rfl) (evs_cons (ev_var rfl) (evs_cons (ev_var rfl) evs_nil))) hen
    exact ev_var rfl
    exact ev_var rfl
    exact put_entry hE3.en (by rw [hT.len]; exact l1)
    apply xss_rt
    simp only [xs]
    rfl
    rfl
    rfl
  have n0 : (way == 0) = false := beq_eq_false_iff_ne.mpr w0'
  obtain ⟨v, M2, hd, hb2, hs2, v0, v1⟩ := draw_run hD.draw (n + 3) M.length hEM1.bag 3 (by omega) (by omega)
  have hE2 := hEM1.same er hs2 hb2
  have hp2 : M2[M.length]? = some (.lst (lvI k m)) := by rw [hs2.at_ _ (by omega) (by omega)]; exact hp1
  obtain ⟨p, ts, M3, y10, y12, y16, y17, y18, y19, ht, hE3, hpM, hp3, hlts, hts⟩ := targets_run hD.draw hD.pick (n + 2) (mk := M.length) (way := way) (x5 := some (.bl (v == 0))) lt er hE2 hk ⟨by omega, by omega⟩ (Nat.le_refl _) hp2 hper (Nat.le_refl _)
  obtain ⟨T', M4, z10, z13, hz, hE4, hT4⟩ := zip_run hD (n + 1) (mk := M.length) (way := way) (q := v == 0) (x9 := some (.fl (os.map .int))) (x10 := y10) (x11 := none) (x12 := y12) (x16 := y16) (x17 := y17) (x18 := y18) (x19 := y19) lt er hE3 hT hk hpM hp3 hts rfl
  have mid : ∀ {O : Rs} {last : Ss}, xss (parsOf D) (callN D (n + 4)) M.length last (mσ r k e m way (some (.bl (v == 0))) (some (.ref p)) (some (.fl (os.map .int))) z10 none y12 z13 none none y16 y17 y18 y19) M4 = O →
      xss (parsOf D) (callN D (n + 4)) M.length (.cons (.iff (.cmp .eq (.var 4) (.cst (.int 5))) (.cons (.for (.nm 10) (.of (.var 6)) (.cons (.put (.var 2) (.var 10) (.idx (.var 7) (.var 10))) .nil)) (.cons .retN .nil)) .nil)
        (.cons (.iff (.cmp .eq (.var 4) (.cst (.int 0))) (.cons (.set (.nm 11) (.fn "_law_pick" (.cons (.var 0) (.cons (.var 6) .nil)))) (.cons (.put (.var 2) (.var 11) (.fn "_law_entry" (.cons (.var 0) (.cons (.var 1) (.cons (.var 11) .nil))))) (.cons .retN .nil))) .nil)
        (.cons (.set (.nm 5) (.cmp .eq (.fn "_law_draw" (.cons (.var 0) (.cons (.cst (.int 3)) .nil))) (.cst (.int 0)))) (.cons tgS (.cons (.for (.tp (.cons (.nm 10) (.cons (.nm 13) .nil))) (.zip (.var 6) (.var 8)) zipB) last)))))
        (mσ r k e m way none (some (.ref M.length)) (some (.fl (os.map .int))) none none none none none none none none none none) M1 = O := fun {O last} hO => by
    apply xss_nx
    apply xs_iff (q := false)
    refine ev_cmp (ev_var rfl) ev_cst ?_
    rw [eq_int, n5]
    refine (if_neg (by decide)).trans ?_
    exact xss_nil
    apply xss_nx
    apply xs_iff (q := false)
    refine ev_cmp (ev_var rfl) ev_cst ?_
    rw [eq_int, n0]
    refine (if_neg (by decide)).trans ?_
    exact xss_nil
    apply xss_nx
    apply xs_set
    exact ev_cmp (ev_fn (evs_cons (ev_var rfl) (evs_cons ev_cst evs_nil)) hd) ev_cst eq_int
    exact asgM_nm
    apply xss_nx
    exact ht
    apply xss_nx
    exact hz
    exact hO
  by_cases w3 : way = 3
  · obtain ⟨u, M5, hpk, hb5, hs5, hu⟩ := pick_pool hD.draw hD.pick (n + 2) (mk := M.length) (M0 := M) hE4.bag lt' (pv := .fl (lvI k m)) (fs := lvI k m) (.inl rfl) (by simpa using hne) (by rw [List.length_map]; omega) lvI_plain
    obtain ⟨i, hi, rfl⟩ := List.mem_map.mp hu
    have l1 := (lv_mem hi).1
    have hE5 := hE4.same er hs5 hb5
    have hc := lv_canon hi
    have hlen := wl_len (at_mem l1)
    have hcp := lv_cps hm hm2 hi
    have hlc := lcopies_run hD.first hD.copies (n + 2) M.length M5 hc (by omega) (by omega)
    obtain ⟨x, M6, hpk2, hb6, hs6, hx⟩ := pick_pool hD.draw hD.pick (n + 2) (mk := M.length) (M0 := M) hb5 lt' (pv := .fl ((cps (at_ (wl k) i)).map pe)) (fs := (cps (at_ (wl k) i)).map pe) (.inl rfl) (by simpa using hcp) (by
      rw [List.length_map]
      have h1 := flat_le (f := cpa (at_ (wl k) i)) (l := frs (at_ (wl k) i)) (k := 10) fun x _ => Nat.le_trans (cpa_le _ x) (by omega)
      rw [frs_len hc] at h1
      unfold cps; omega) (fun y hy => plain_pe y hy)
    obtain ⟨⟨a, b⟩, hab, rfl⟩ := List.mem_map.mp hx
    obtain ⟨cp, _⟩ := (mem_cps hc).mp hab
    have hE6 := hE5.same er hs6 hb6
    have hcd := copied_run hD.copied (n + 3) M.length M6 cp.la cp.lb (by omega)
    have hdl : (doneL (at_ (wl k) i) a b).length = k + 1 := by rw [doneL_len, hlen]
    have hbe := behind_tab hD.things hD.behind (n + 2) M.length M6 hT4 (Sq.ref hE6.en) hdl (by omega)
    have heok : EOk (at_ (wl k) i) (bhd k T' (doneL (at_ (wl k) i) a b)) := EOk.of (at_mem l1) (bhd_len hT4 hdl) fun x => (bhd_mem hT4 hdl x).trans (cp.mem x)
    obtain ⟨hEf, hlf⟩ := fin (hE6.put er (T' := T'.set i (bhd k T' (doneL (at_ (wl k) i) a b))))
    refine ⟨_, _, ?_, hT4.set l1 heok, hEf, hlf⟩
    refine call_nx (d := d__law_level_moved) (σ1 := mσ r k e m way (some (.bl (v == 0))) (some (.ref p)) (some (.fl (os.map .int))) z10 (some (.int i)) y12 z13 (some (.int a)) (some (.int b)) y16 y17 y18 y19) hD.level_moved rfl rfl ?_ rfl
    refine start (mid ?_)
    apply xss_nx
    apply xs_iff (q := true)
    refine ev_cmp (ev_var rfl) ev_cst ?_
    rw [eq_int, w3]; rfl
    refine (if_pos rfl).trans ?_
    apply xss_nx
    apply xs_set
    exact ev_fn (evs_cons (ev_var rfl) (evs_cons (ev_var rfl) evs_nil)) hpk
    exact asgM_nm
    apply xss_nx
    apply xs_set
    exact ev_fn (evs_cons (ev_var rfl) (evs_cons (ev_fn (evs_cons (ev_idx (ev_var rfl) (ev_var rfl) (pat_at l1)) evs_nil) hlc) evs_nil)) hpk2
    rfl
    apply xss_nx
    apply xs_put
    apply ev_fn
    apply evs_cons
    exact ev_var rfl
    apply evs_cons
    exact ev_var rfl
    apply evs_cons
    exact ev_fn (evs_cons (ev_idx (ev_var rfl) (ev_var rfl) (pat_at l1)) (evs_cons (ev_var rfl) (evs_cons (ev_var rfl) evs_nil))) hcd
    exact evs_nil
    exact hbe
    exact ev_var rfl
    exact ev_var rfl
    exact put_entry hE6.en (by rw [hT4.len]; exact l1)
    exact xss_nil
    exact xss_nil
  · have n3 : (way == 3) = false := beq_eq_false_iff_ne.mpr w3
    obtain ⟨hEf, hlf⟩ := fin hE4
    refine ⟨_, _, ?_, hT4, hEf, hlf⟩
    refine call_nx (d := d__law_level_moved) (σ1 := mσ r k e m way (some (.bl (v == 0))) (some (.ref p)) (some (.fl (os.map .int))) z10 none y12 z13 none none y16 y17 y18 y19) hD.level_moved rfl rfl ?_ rfl
    refine start (mid ?_)
    apply xss_nx
    apply xs_iff (q := false)
    refine ev_cmp (ev_var rfl) ev_cst ?_
    rw [eq_int, n3]
    refine (if_neg (by decide)).trans ?_
    exact xss_nil
    exact xss_nil
end
end PL.LB

/-! LT6: boxes called otherwise, some table. -/
namespace PL.LB
theorem perm_mem {os s : List Int} {n : Nat} (h : os.Perm ((List.range n).map fun i : Nat => (i : Int))) (hl : s.length = n) (x : Int) : x ∈ os.map (thingAt s) ↔ x ∈ s := by
  rw [List.mem_map]
  constructor
  · rintro ⟨y, hy, rfl⟩
    obtain ⟨i, hi, rfl⟩ := List.mem_map.mp (h.mem_iff.mp hy)
    have := List.mem_range.mp hi
    exact thingAt_mem (by omega)
  · intro hx
    obtain ⟨i, hi, rfl⟩ := List.mem_iff_getElem.mp hx
    refine ⟨(i : Int), h.mem_iff.mpr (List.mem_map.mpr ⟨i, List.mem_range.mpr (by omega), rfl⟩), ?_⟩
    rw [thingAt, Int.toNat_natCast, getD_eq hi]
theorem perm_len {os : List Int} {n : Nat} (h : os.Perm ((List.range n).map fun i : Nat => (i : Int))) : os.length = n := by
  have := h.length_eq; rwa [List.length_map, List.length_range] at this
theorem range_nd (n : Nat) : ((List.range n).map fun i : Nat => (i : Int)).Nodup := List.pairwise_map.mpr (List.Pairwise.imp (fun {a b} h e => h (by omega)) List.nodup_range)
/-- the order turned about -/
def backs (os : List Int) (n : Nat) : List Int := (List.range n).map fun i : Nat => (os.idxOf (i : Int) : Int)
theorem backs_perm {os : List Int} {n : Nat} (h : os.Perm ((List.range n).map fun i : Nat => (i : Int))) : (backs os n).Perm ((List.range n).map fun i : Nat => (i : Int)) := by
  have hl := perm_len h
  have hnd : os.Nodup := h.nodup_iff.mpr (range_nd n)
  have hm : ∀ i : Nat, i < n → (i : Int) ∈ os := fun i hi => h.mem_iff.mpr (List.mem_map.mpr ⟨i, List.mem_range.mpr hi, rfl⟩)
  refine (List.perm_ext_iff_of_nodup ?_ (range_nd n)).mpr fun x => ?_
  · refine List.pairwise_map.mpr ?_
    have hin : ∀ (l : List Nat), (∀ i ∈ l, i < n) → l.Nodup → l.Pairwise fun a b : Nat => ((os.idxOf (a : Int) : Int)) ≠ (os.idxOf (b : Int) : Int) := fun l => by
      induction l with
      | nil => intro _ _; exact .nil
      | cons a l ih =>
        intro hl' hn
        rw [List.nodup_cons] at hn
        refine List.pairwise_cons.mpr ⟨fun b hb e => ?_, ih (fun i hi => hl' i (List.mem_cons_of_mem _ hi)) hn.2⟩
        have ha := idxOf_getD (hm a (hl' a (List.mem_cons_self ..)))
        have hb' := idxOf_getD (hm b (hl' b (List.mem_cons_of_mem _ hb)))
        have e' : os.idxOf (a : Int) = os.idxOf (b : Int) := by omega
        rw [e'] at ha
        have : (a : Int) = (b : Int) := ha.2.symm.trans hb'.2
        have : a = b := by omega
        exact hn.1 (this ▸ hb)
    exact hin _ (fun i hi => List.mem_range.mp hi) List.nodup_range
  · rw [backs, List.mem_map, List.mem_map]
    constructor
    · rintro ⟨i, hi, rfl⟩
      have := (idxOf_getD (hm i (List.mem_range.mp hi))).1
      exact ⟨os.idxOf (i : Int), List.mem_range.mpr (by omega), rfl⟩
    · rintro ⟨j, hj, rfl⟩
      have hj := List.mem_range.mp hj
      have hjl : j < os.length := by omega
      obtain ⟨i, hi, e⟩ := List.mem_map.mp (h.mem_iff.mp (List.getElem_mem hjl))
      refine ⟨i, hi, ?_⟩
      rw [e, hnd.idxOf_getElem]
/-- tuple([X[j] for j in ..]), of any list or tuple of vints -/
theorem named_sq {C : Orc} {P : String → Option (List String)} {mk : Nat} {σ : Env} {M M' : Mem} {X sv : V} {T t : List Int} {e : E} {i j : Nat} (hj : ∀ x : V, lk (stv σ j x) i = some X ∧ lk (stv σ j x) j = some x) (hX : Sq M' X (T.map .int))
    (he : ev P C mk e σ M = .ok sv M') (hs : Sq M' sv (t.map .int)) (ht : ∀ x ∈ t, 0 ≤ x ∧ x < T.length) (hz : t.length ≤ 1000) :
    ev P C mk (.pr .tuple (.cons (.comp (.nm j) (.of e) .none (.idx (.var i) (.var j))) .nil)) σ M = .ok (st (t.map (thingAt T))) (M' ++ [.lst ((t.map (thingAt T)).map .int)]) := by
  obtain ⟨w, hw⟩ := hs.s
  have hcomp := compL_enc (w := w) (t := .nm j) (c := fun σ' M' => evc P C mk .none σ' M') (e := fun σ' M' => ev P C mk (.idx (.var i) (.var j)) σ' M')
    (σ := σ) (M := M') V.int (fun _ => true) (fun x => .int (thingAt T x)) t []
    (fun _ => (hw _).2) (fun x hx => ⟨stv σ j (.int x), rfl, fun acc => ⟨evc_none, fun _ => by
      apply ev_idx
      exact ev_var (hj _).1
      exact ev_var (hj _).2
      obtain ⟨h1, h2⟩ := ht x hx
      refine index_items (hX.h _).1 (hX.h _).2 h1 ?_
      have hl : x.toNat < T.length := by omega
      rw [List.getElem?_map, List.getElem?_eq_getElem hl, thingAt, getD_eq hl]; rfl⟩⟩) (by unfold SZ; simp; omega)
  apply ev_pr
  apply evs_cons
  apply ev_comp
  apply evi_of
  exact he
  have := (hw []).1
  rw [List.append_nil] at this
  exact this
  exact hcomp
  exact evs_nil
  rw [filter_true, List.nil_append, show (t.map fun x => V.int (thingAt T x)) = (t.map (thingAt T)).map V.int by rw [List.map_map]; rfl]
  exact tuple_ref at_end
def calledF (k : Nat) (T : List (List Int)) (os : List Int) (q : List Int) : List Int := (backs os (k + 1)).map (thingAt (bhd k T (os.map (thingAt q))))
theorem calledF_ok {k : Nat} {T : List (List Int)} (hT : TOk k T) {os : List Int} (h : os.Perm ((List.range (k + 1)).map fun i : Nat => (i : Int))) {q : List Int} (hq : q.length = k + 1) : (calledF k T os q).length = k + 1 ∧ ∀ x, x ∈ calledF k T os q ↔ x ∈ q := by
  have h1 : (os.map (thingAt q)).length = k + 1 := by rw [List.length_map, perm_len h]
  have h2 := bhd_len hT h1
  refine ⟨by simp [calledF, backs], fun x => ?_⟩
  unfold calledF
  rw [perm_mem (backs_perm h) h2, bhd_mem hT h1, perm_mem h hq]
section
variable {D : String → Option Def} (hD : HasT D)
include hD
theorem called_tab (n mk : Nat) (M : Mem) {k : Nat} {T : List (List Int)} {tv : V} {os : List Int} (hT : TOk k T) (hv : Sq M tv (T.map st)) (h : os.Perm ((List.range (k + 1)).map fun i : Nat => (i : Int))) (hk : k < 5) :
    callN D (n + 3) mk "_law_called" [wv k, tv, .fl (os.map .int)] M = .ok (.tup (((wl k).map (calledF k T os)).map st)) M := by
  have hlo := perm_len h
  have small := (wl_small k hk).1
  have hrng : ∀ {l : List Int}, l.Perm ((List.range (k + 1)).map fun i : Nat => (i : Int)) → ∀ x ∈ l, 0 ≤ x ∧ x < ((k + 1 : Nat) : Int) := fun {l} hl x hx => by
    obtain ⟨i, hi, rfl⟩ := List.mem_map.mp (hl.mem_iff.mp hx)
    have := List.mem_range.mp hi
    omega
  have c1 := compL_enc (w := []) (t := .nm 7) (c := fun σ' M' => evc (parsOf D) (callN D (n + 2)) M.length .none σ' M') (e := fun σ' M' => ev (parsOf D) (callN D (n + 2)) M.length (.mt .index (.var 2) (.cons (.var 7) .nil)) σ' M')
    (σ := [some (wv k), some tv, some (.fl (os.map .int)), none, none, none, none, none]) (M := M ++ [.lst []]) (fun i : Nat => V.int (i : Int)) (fun _ => true) (fun i => .int (os.idxOf (i : Int))) (List.range (k + 1)) []
    (fun _ => rfl) (fun i hi => ⟨[some (wv k), some tv, some (.fl (os.map .int)), none, none, none, none, some (.int i)], rfl, fun acc => ⟨evc_none, fun _ => by
      apply ev_mt
      exact ev_var rfl
      rfl
      exact evs_cons (ev_var rfl) evs_nil
      exact index_fl (h.mem_iff.mpr (List.mem_map.mpr ⟨i, hi, rfl⟩))⟩⟩) (by unfold SZ; simp; omega)
  rw [filter_true, List.nil_append, show ((List.range (k + 1)).map fun i : Nat => V.int (os.idxOf (i : Int))) = (backs os (k + 1)).map V.int by rw [backs, List.map_map]; rfl] at c1
  have lb : (M ++ [MO.lst []]).length = M.length + 1 := by simp
  have hbk := backs_perm h
  obtain ⟨σ1, M1, hl, dn, x3, x6, hσ, ho, hp, hq, rest, hx, hr⟩ := forL_inv (w := []) (t := .nm 3)
    (b := fun σ' M' => xss (parsOf D) (callN D (n + 2)) M.length (.cons (.set (.nm 6) (.fn "_law_behind" (.cons (.var 0) (.cons (.var 1) (.cons (.pr .tuple (.cons (.comp (.nm 7) (.of (.var 2)) .none (.idx (.var 3) (.var 7))) .nil)) .nil)))))
      (.cons (.ex (.mt .append (.var 4) (.cons (.pr .tuple (.cons (.comp (.nm 7) (.of (.var 5)) .none (.idx (.var 6) (.var 7))) .nil)) .nil))) .nil)) σ' M')
    (fun xs σ' M' => ∃ (dn : List (List Int)) (x3 x6 : Option V), σ' = [some (wv k), some tv, some (.fl (os.map .int)), x3, some (.ref M.length), some (.ref (M.length + 1)), x6, none] ∧ Old M M' ∧ M'[M.length]? = some (.lst ((dn.map (calledF k T os)).map st)) ∧ M'[M.length + 1]? = some (.lst ((backs os (k + 1)).map .int)) ∧ ∃ rest : List (List Int), xs = rest.map st ∧ dn ++ rest = wl k)
    ((wl k).map st) [some (wv k), some tv, some (.fl (os.map .int)), none, some (.ref M.length), some (.ref (M.length + 1)), none, none] (M ++ [.lst []] ++ [.lst ((backs os (k + 1)).map .int)])
    ⟨[], none, none, rfl, (Old.refl.app _).app _, by rw [List.getElem?_append_left (by simp)]; exact at_end, by rw [← lb]; exact at_end, wl k, rfl, rfl⟩
    (fun _ _ _ _ => rfl)
    (by
      rintro x xs σ' M' ⟨dn, x3, x6, rfl, ho, hp, hq, rest, hx, hr⟩
      cases rest with
      | nil => simp at hx
      | cons q rest =>
        rw [List.map_cons, List.cons.injEq] at hx
        obtain ⟨rfl, rfl⟩ := hx
        have hqw : q ∈ wl k := by rw [← hr]; simp
        have hql := wl_len hqw
        have h1 : (os.map (thingAt q)).length = k + 1 := by rw [List.length_map, hlo]
        have ov : ∃ N, M' = M ++ N := by
          refine ⟨M'.drop M.length, ?_⟩
          have := ho.out
          conv => lhs; rw [← List.take_append_drop M.length M']
          rw [this]
        obtain ⟨N, hN⟩ := ov
        have hvM' : Sq M' tv (T.map st) := by rw [hN]; exact hv.app N
        have hbe := behind_tab hD.things hD.behind n M.length (M' ++ [.lst ((os.map (thingAt q)).map .int)]) hT (hvM'.app _) h1 (by omega)
        have lM := ho.le
        have lp := (List.getElem?_eq_some_iff.mp hp).1
        have hcf := calledF_ok hT h hql
        have hdn : dn.length ≤ 52 := by
          have := congrArg List.length hr
          rw [List.length_append] at this
          omega
        refine ⟨_, asg_nm, [some (wv k), some tv, some (.fl (os.map .int)), some (st q), some (.ref M.length), some (.ref (M.length + 1)), some (st (bhd k T (os.map (thingAt q)))), none], (M' ++ [MO.lst ((os.map (thingAt q)).map .int)] ++ [MO.lst ((calledF k T os q).map .int)]).set M.length (.lst (((dn ++ [q]).map (calledF k T os)).map st)), ?_, dn ++ [q], _, _, rfl, ((ho.app _).app _).set (Nat.le_refl _), by rw [List.getElem?_set_self (by simp; omega)], ?_, rest, rfl, by rw [← hr]; simp⟩
        · apply xss_nx
          apply xs_set
          apply ev_fn
          apply evs_cons
          exact ev_var rfl
          apply evs_cons
          exact ev_var rfl
          apply evs_cons
          exact named_sq (X := st q) (sv := .fl (os.map .int)) (T := q) (t := os) (fun x => ⟨rfl, rfl⟩) Sq.tup (ev_var rfl) Sq.fl (fun x hx => by rw [hql]; exact hrng h x hx) (by omega)
          exact evs_nil
          exact hbe
          exact asgM_nm
          apply xss_nx
          apply xs_ex
          apply ev_mt
          exact ev_var rfl
          exact recv_list (xs := (dn.map (calledF k T os)).map st) (by rw [List.getElem?_append_left lp]; exact hp) rfl
          apply evs_cons
          refine named_sq (X := st (bhd k T (os.map (thingAt q)))) (sv := .ref (M.length + 1)) (T := bhd k T (os.map (thingAt q))) (t := backs os (k + 1)) (fun x => ⟨rfl, rfl⟩) Sq.tup (ev_var rfl) (Sq.ref (by rw [List.getElem?_append_left (List.getElem?_eq_some_iff.mp hq).1]; exact hq)) (fun x hx => by rw [bhd_len hT h1]; exact hrng hbk x hx) (by rw [perm_len hbk]; omega)
          exact evs_nil
          refine append_run (xs := (dn.map (calledF k T os)).map st) ?_ ?_ ?_
          · rw [List.append_assoc, List.getElem?_append_left lp]; exact hp
          · unfold wOk; simp
          · rw [List.length_map, List.length_map]; unfold SZ; omega
          rw [List.map_append, List.map_append]
          exact xss_nil
        · rw [List.getElem?_set_ne (by omega), List.append_assoc, List.getElem?_append_left (List.getElem?_eq_some_iff.mp hq).1]; exact hq)
  have : rest = [] := by cases rest with | nil => rfl | cons _ _ => simp at hx
  subst this
  rw [List.append_nil] at hr
  subst hr
  apply call_rt (d := d__law_called) hD.called rfl rfl
  apply xss_nx
  apply xs_par
  apply evs_cons
  exact ev_lst evs_nil (by decide)
  apply evs_cons
  apply ev_comp
  apply evi_rng1 (k := ((k + 1 : Nat) : Int))
  refine (ev_pr (evs_cons (ev_var rfl) evs_nil) Sq.fl.len).trans ?_
  rw [List.length_map, hlo]
  exact rOk_nat (by omega)
  rw [ranged0]
  exact c1
  exact evs_nil
  rw [lb]
  rfl
  apply xss_nx
  apply xs_for
  apply evi_of
  exact ev_idx (ev_var rfl) ev_cst w1
  exact srcOf_fl
  exact hl
  rw [hσ]
  apply xss_rt
  apply xs_ret
  apply ev_pr
  repeat walk_at "pl"
  exact tuple_ref hp
  exact frz_pd (n := 2) (pd_tup fun x hx => by obtain ⟨q, _, rfl⟩ := List.mem_map.mp hx; exact pd_st)
  exact ho.out
/-- some table's heap -/
structure SH (M M' : Mem) (r g e : Nat) (T : List (List Int)) : Prop where
  bag : BagAt M' r g
  fr : Fr M M' r g
  ne : M.length ≤ e
  en : M'[e]? = some (.lst (T.map st))
omit hD in
theorem SH.same {M M' M2 : Mem} {r g e : Nat} {T : List (List Int)} (h : SH M M' r g e T) (lt : r < M.length ∧ g < M.length) (hs : Same M' M2 r g) (hb : BagAt M2 r g) : SH M M2 r g e T := by
  have := h.ne
  exact ⟨hb, h.fr.same hs, h.ne, by rw [hs.at_ _ (by omega) (by omega)]; exact h.en⟩
omit hD in
theorem SH.put {M M' : Mem} {r g e : Nat} {T T' : List (List Int)} (h : SH M M' r g e T) (lt : r < M.length ∧ g < M.length) : SH M (M'.set e (.lst (T'.map st))) r g e T' := by
  have := h.ne
  exact ⟨h.bag.at (by omega) (by omega), h.fr.set (.inl h.ne), h.ne, by rw [List.getElem?_set_self (List.getElem?_eq_some_iff.mp h.en).1]⟩
abbrev sσ (r k e : Nat) (x2 x5 x6 : Option V) : Env := [some (.ref r), some (wv k), x2, some (.ref e), some (.int ((k + 1 : Nat) : Int)), x5, x6]
theorem some_run (n mk : Nat) {M : Mem} {r g k : Nat} (hb : BagAt M r g) (hk2 : 2 ≤ k) (hk : k < 5) :
    ∃ T M', callN D (n + 6) mk "_law_some_table" [.ref r, wv k] M = .ok (.tup (T.map st)) M' ∧ TOk k T ∧ BagAt M' r g ∧ Same M M' r g := by
  have lt := hb.lt
  have small := (wl_small k hk).1
  have hpdT : ∀ T : List (List Int), pd 2 (.tup (T.map st)) := fun T => pd_tup fun x hx => by obtain ⟨q, _, rfl⟩ := List.mem_map.mp hx; exact pd_st
  have hS0 : SH M (M ++ [.lst ((wl k).map st)]) r g M.length (wl k) := ⟨hb.app _, Fr.refl.app _, Nat.le_refl _, at_end⟩
  -- deeds, at times
  have s2 : ∃ e T x5 M2, xs (parsOf D) (callN D (n + 5)) M.length (.iff (.cmp .eq (.fn "_law_draw" (.cons (.var 0) (.cons (.cst (.int 2)) .nil))) (.cst (.int 0))) (.cons (.for (.nm 5) (.rng1 (.bin .add (.cst (.int 1)) (.fn "_law_draw" (.cons (.var 0) (.cons (.cst (.int 3)) .nil))))) (.cons (.set (.nm 3) (.pr .list (.cons (.fn "_law_put" (.cons (.var 1) (.cons (.var 3) (.cons (.fn "_law_deed_table" (.cons (.var 1) (.cons (.fn "_law_deed" (.cons (.var 0) (.cons (.var 1) .nil))) .nil))) .nil)))) .nil))) .nil)) .nil) .nil)
      (sσ r k M.length none none none) (M ++ [.lst ((wl k).map st)]) = .nx (sσ r k e none x5 none) M2 ∧ SH M M2 r g e T ∧ TOk k T := by
    obtain ⟨v, M1, hd, hb1, hs1, v0, v1⟩ := draw_run hD.draw (n + 4) M.length hS0.bag 2 (by omega) (by omega)
    have hS1 := hS0.same lt hs1 hb1
    by_cases hv : v = 0
    · obtain ⟨w, M2, hd2, hb2, hs2, w0', w1'⟩ := draw_run hD.draw (n + 4) M.length hb1 3 (by omega) (by omega)
      have hS2 := hS1.same lt hs2 hb2
      obtain ⟨σ1, M3, hl, e, T, x5, hσ, hS3, hT3⟩ := forL_inv (w := []) (t := .nm 5) (b := fun σ' M' => xss (parsOf D) (callN D (n + 5)) M.length (.cons (.set (.nm 3) (.pr .list (.cons (.fn "_law_put" (.cons (.var 1) (.cons (.var 3) (.cons (.fn "_law_deed_table" (.cons (.var 1) (.cons (.fn "_law_deed" (.cons (.var 0) (.cons (.var 1) .nil))) .nil))) .nil)))) .nil))) .nil) σ' M')
        (fun xs σ' M' => ∃ (e : Nat) (T : List (List Int)) (x5 : Option V), σ' = sσ r k e none x5 none ∧ SH M M' r g e T ∧ TOk k T)
        ((List.range (1 + w).toNat).map fun i : Nat => V.int (i : Int)) (sσ r k M.length none none none) M2
        ⟨M.length, wl k, none, rfl, hS2, wl_ok k⟩
        (fun _ _ _ _ => rfl)
        (by
          rintro x xs σ' M' ⟨e, T, x5, rfl, hS, hT⟩
          obtain ⟨al, ul, a, b, M4, hde, hdo, hb4, hs4⟩ := deed_draw hD.draw hD.pick hD.first hD.copies hD.full hD.deed (n + 2) M.length hS.bag hk2 hk
          have hS4 := hS.same lt hs4 hb4
          have hdt := deed_tab hD.copied hD.done hD.deed_table (n + 2) M.length M4 hdo hk
          have hpt := put_tab hD.things hD.behind hD.put (n + 2) M.length M4 hT (Sq.ref hS4.en) (dtab_ok hdo) (Sq.tup (xs := (dtab k al ul a b).map st)) hk
          refine ⟨_, asg_nm, sσ r k M4.length none (some x) none, M4 ++ [.lst ((put_ k T (dtab k al ul a b)).map st)], ?_, M4.length, put_ k T (dtab k al ul a b), _, rfl, ⟨hb4.app _, hS4.fr.app _, hS4.fr.le, at_end⟩, put_ok hT (dtab_ok hdo)⟩
          apply xss_nx
          apply xs_set
          apply ev_pr
          apply evs_cons
          apply ev_fn
          apply evs_cons
          exact ev_var rfl
          apply evs_cons
          exact ev_var rfl
          apply evs_cons
          exact ev_fn (evs_cons (ev_var rfl) (evs_cons (ev_fn (evs_cons (ev_var rfl) (evs_cons (ev_var rfl) evs_nil)) hde) evs_nil)) hdt
          exact evs_nil
          exact hpt
          exact evs_nil
          exact list_items (xs := (put_ k T (dtab k al ul a b)).map st) rfl
          exact asgM_nm
          exact xss_nil)
      refine ⟨e, T, x5, M3, ?_, hS3, hT3⟩
      apply xs_iff (q := true)
      refine ev_cmp (ev_fn (evs_cons (ev_var rfl) (evs_cons ev_cst evs_nil)) hd) ev_cst ?_
      rw [eq_int, hv]; rfl
      refine (if_pos rfl).trans ?_
      apply xss_nx
      apply xs_for
      apply evi_rng1 (k := (((1 + w).toNat : Nat) : Int))
      refine (ev_bin ev_cst (ev_fn (evs_cons (ev_var rfl) (evs_cons ev_cst evs_nil)) hd2) add_i).trans ?_
      congr 2
      omega
      exact rOk_nat (by omega)
      rw [ranged0]
      exact hl
      rw [hσ]
      exact xss_nil
    · refine ⟨M.length, wl k, none, M1, ?_, hS1, wl_ok k⟩
      apply xs_iff (q := false)
      refine ev_cmp (ev_fn (evs_cons (ev_var rfl) (evs_cons ev_cst evs_nil)) hd) ev_cst ?_
      rw [eq_int, beq_eq_false_iff_ne.mpr hv]
      refine (if_neg (by decide)).trans ?_
      exact xss_nil
  obtain ⟨e2, T2, x5, M2, h2, hS2, hT2⟩ := s2
  -- levels
  obtain ⟨σ3, M3, hl3, j3, T3, x2, x6, hσ3, hS3, hT3, _⟩ := forL_inv (w := []) (t := .nm 2)
    (b := fun σ' M' => xss (parsOf D) (callN D (n + 5)) M.length (.cons (.set (.nm 6) (.fn "_law_draw" (.cons (.var 0) (.cons (.cst (.int 8)) .nil)))) (.cons (.iff (.cmp .lt (.var 6) (.cst (.int 6))) (.cons (.ex (.fn "_law_level_moved" (.cons (.var 0) (.cons (.var 1) (.cons (.var 3) (.cons (.var 2) (.cons (.var 6) .nil))))))) .nil) .nil) .nil)) σ' M')
    (fun xs σ' M' => ∃ (j : Nat) (T : List (List Int)) (x2 x6 : Option V), σ' = sσ r k e2 x2 x5 x6 ∧ SH M M' r g e2 T ∧ TOk k T ∧ j ≤ k - 1 ∧ xs = (List.range (k - 1 - j)).map fun t : Nat => V.int ((2 + j + t : Nat) : Int))
    ((List.range (k - 1)).map fun t : Nat => V.int ((2 + t : Nat) : Int)) (sσ r k e2 none x5 none) M2
    ⟨0, T2, none, none, rfl, hS2, hT2, by omega, by simp⟩
    (fun _ _ _ _ => rfl)
    (by
      rintro x xs σ' M' ⟨j, T, x2, x6, rfl, hS, hT, hj, hx⟩
      have hj' : j < k - 1 := by
        rcases Nat.lt_or_ge j (k - 1) with c | c
        · exact c
        · rw [Nat.sub_eq_zero_of_le c] at hx; simp at hx
      have e1 : k - 1 - j = (k - 1 - (j + 1)) + 1 := by omega
      rw [e1, List.range_succ_eq_map, List.map_cons, List.cons.injEq, List.map_map] at hx
      obtain ⟨rfl, hxs⟩ := hx
      obtain ⟨w, M4, hd4, hb4, hs4, w0', w1'⟩ := draw_run hD.draw (n + 4) M.length hS.bag 8 (by omega) (by omega)
      have hS4 := hS.same lt hs4 hb4
      have hne := hS.ne
      have hxs' : xs = (List.range (k - 1 - (j + 1))).map fun t : Nat => V.int ((2 + (j + 1) + t : Nat) : Int) := by
        rw [hxs]
        refine List.map_congr_left fun t _ => ?_
        simp only [Function.comp]
        congr 2
        omega
      by_cases hw : w < 6
      · obtain ⟨T', M5, hmv, hT', hE, hlen⟩ := moved_run hD n M.length (way := w) (m := 2 + j + 0) hb4 hS4.en ⟨by omega, by omega⟩ hT hk (by omega) (by omega)
        refine ⟨_, asg_nm, sσ r k e2 (some (.int ((2 + j + 0 : Nat) : Int))) x5 (some (.int w)), M5, ?_, j + 1, T', _, _, rfl, ⟨hE.bag, ⟨by rw [hlen]; exact hS4.fr.le, fun i a b c => (hE.fr i (Nat.lt_of_lt_of_le a hS4.fr.le) b c (by omega)).trans (hS4.fr.at_ i a b c)⟩, hS.ne, hE.en⟩, hT', by omega, hxs'⟩
        apply xss_nx
        apply xs_set
        exact ev_fn (evs_cons (ev_var rfl) (evs_cons ev_cst evs_nil)) hd4
        exact asgM_nm
        apply xss_nx
        apply xs_iff (q := true)
        refine ev_cmp (ev_var rfl) ev_cst ?_
        exact congrArg some (decide_eq_true hw)
        refine (if_pos rfl).trans ?_
        apply xss_nx
        apply xs_ex
        exact ev_fn (evs_cons (ev_var rfl) (evs_cons (ev_var rfl) (evs_cons (ev_var rfl) (evs_cons (ev_var rfl) (evs_cons (ev_var rfl) evs_nil))))) hmv
        exact xss_nil
        exact xss_nil
      · refine ⟨_, asg_nm, sσ r k e2 (some (.int ((2 + j + 0 : Nat) : Int))) x5 (some (.int w)), M4, ?_, j + 1, T, _, _, rfl, hS4, hT, by omega, hxs'⟩
        apply xss_nx
        apply xs_set
        exact ev_fn (evs_cons (ev_var rfl) (evs_cons ev_cst evs_nil)) hd4
        exact asgM_nm
        apply xss_nx
        apply xs_iff (q := false)
        refine ev_cmp (ev_var rfl) ev_cst ?_
        exact congrArg some (decide_eq_false hw)
        refine (if_neg (by decide)).trans ?_
        exact xss_nil
        exact xss_nil)
  -- the last entry, at times
  have s4 : ∃ T M4, xs (parsOf D) (callN D (n + 5)) M.length (.iff (.cmp .eq (.fn "_law_draw" (.cons (.var 0) (.cons (.cst (.int 8)) .nil))) (.cst (.int 0))) (.cons (.put (.var 3) (.neg (.cst (.int 1))) (.fn "_law_entry" (.cons (.var 0) (.cons (.var 1) (.cons (.bin .sub (.pr .len (.cons (.var 3) .nil)) (.cst (.int 1))) .nil))))) .nil) .nil)
      (sσ r k e2 x2 x5 x6) M3 = .nx (sσ r k e2 x2 x5 x6) M4 ∧ SH M M4 r g e2 T ∧ TOk k T := by
    obtain ⟨v, M4, hd, hb4, hs4, v0, v1⟩ := draw_run hD.draw (n + 4) M.length hS3.bag 8 (by omega) (by omega)
    have hS4 := hS3.same lt hs4 hb4
    have l0 : 0 < (wl k).length := List.length_pos_iff.mpr (wl_ne k)
    by_cases hv : v = 0
    · obtain ⟨en, M5, hen, heok, hb5, hs5⟩ := entry_tab hD.draw hD.pick hD.order hD.laid hD.level hD.entry (n + 1) M.length hb4 (k := k) (i := (wl k).length - 1) hk (by omega)
      have hS5 := hS4.same lt hs5 hb5
      have l1 : (wl k).length - 1 < T3.length := by rw [hT3.len]; omega
      refine ⟨T3.set ((wl k).length - 1) en, _, ?_, hS5.put lt, hT3.set (by omega) heok⟩
      apply xs_iff (q := true)
      refine ev_cmp (ev_fn (evs_cons (ev_var rfl) (evs_cons ev_cst evs_nil)) hd) ev_cst ?_
      rw [eq_int, hv]; rfl
      refine (if_pos rfl).trans ?_
      apply xss_nx
      apply xs_put
      apply ev_fn
      apply evs_cons
      exact ev_var rfl
      apply evs_cons
      exact ev_var rfl
      apply evs_cons
      apply ev_bin
      exact ev_pr (evs_cons (ev_var rfl) evs_nil) (len_ref hS4.en)
      exact ev_cst
      exact sub_i
      exact evs_nil
      rw [List.length_map, hT3.len, show ((wl k).length : Int) - 1 = (((wl k).length - 1 : Nat) : Int) by omega]
      exact hen
      exact ev_var rfl
      exact ev_neg ev_cst
      have hpe := put_entry (mk := M.length) (x := en) hS5.en l1
      have hnx : nIx (T3.map st).length (-1) = nIx (T3.map st).length (((wl k).length - 1 : Nat) : Int) := by
        unfold nIx
        rw [if_neg (by omega), if_pos (by rw [List.length_map]; omega), if_pos (by omega), if_pos (by rw [List.length_map]; omega)]
        congr 1
        rw [List.length_map, hT3.len]
        omega
      have heq : PL.put M.length M5 (.ref e2) (.int (-1)) (st en) = PL.put M.length M5 (.ref e2) (.int (((wl k).length - 1 : Nat) : Int)) (st en) := by
        simp only [PL.put, hS5.en, hnx]
      exact heq.trans hpe
      exact xss_nil
    · refine ⟨T3, M4, ?_, hS4, hT3⟩
      apply xs_iff (q := false)
      refine ev_cmp (ev_fn (evs_cons (ev_var rfl) (evs_cons ev_cst evs_nil)) hd) ev_cst ?_
      rw [eq_int, beq_eq_false_iff_ne.mpr hv]
      refine (if_neg (by decide)).trans ?_
      exact xss_nil
  obtain ⟨T4, M4, h4, hS4, hT4⟩ := s4
  obtain ⟨v, M5, hd5, hb5, hs5, v0, v1⟩ := draw_run hD.draw (n + 4) M.length hS4.bag 4 (by omega) (by omega)
  have hS5 := hS4.same lt hs5 hb5
  have lead : ∀ {O : Rs}, xss (parsOf D) (callN D (n + 5)) M.length (.cons (.ret (.ite (.cmp .eq (.fn "_law_draw" (.cons (.var 0) (.cons (.cst (.int 4)) .nil))) (.cst (.int 0))) (.fn "_law_called" (.cons (.var 1) (.cons (.var 3) (.cons (.fn "_law_order" (.cons (.var 0) (.cons (.var 4) .nil))) .nil)))) (.pr .tuple (.cons (.var 3) .nil)))) .nil) (sσ r k e2 x2 x5 x6) M4 = O →
      xss (parsOf D) (callN D (n + 5)) M.length d__law_some_table.body (envOf d__law_some_table [.ref r, wv k]) M = O := fun {O} hO => by
    apply xss_nx
    apply xs_par
    apply evs_cons
    exact ev_pr (evs_cons (ev_idx (ev_var rfl) ev_cst w1) evs_nil) (list_items (xs := (wl k).map st) rfl)
    exact evs_cons (ev_idx (ev_var rfl) ev_cst w0) evs_nil
    rfl
    apply xss_nx
    exact h2
    apply xss_nx
    apply xs_for
    apply evi_rng2 (j := ((2 : Nat) : Int)) (k := ((k + 1 : Nat) : Int))
    exact ev_cst
    exact ev_var rfl
    rw [rOk_nat (by omega), rOk_nat (by omega)]; rfl
    rw [show (((k + 1 : Nat) : Int) - ((2 : Nat) : Int)).toNat = k - 1 by omega, ranged_nat]
    exact hl3
    rw [hσ3]
    apply xss_nx
    exact h4
    exact hO
  by_cases hv : v = 0
  · obtain ⟨os, M6, ho, hb6, hs6, hper⟩ := order_run hD.draw hD.pick hD.order (n + 3) M.length hb5 (k + 1) (by omega)
    have hS6 := hS5.same lt hs6 hb6
    have hca := called_tab hD (n + 2) M.length M6 hT4 (Sq.ref hS6.en) hper hk
    refine ⟨(wl k).map (calledF k T4 os), M6.take M.length, ?_, (wl_ok k).map fun q hq => calledF_ok hT4 hper hq, hb6.out hb, hS6.fr.out⟩
    apply call_rt (d := d__law_some_table) hD.some_table rfl rfl
    refine lead ?_
    apply xss_rt
    apply xs_ret
    apply ev_ite (q := true)
    refine ev_cmp (ev_fn (evs_cons (ev_var rfl) (evs_cons ev_cst evs_nil)) hd5) ev_cst ?_
    rw [eq_int, hv]; rfl
    refine (if_pos rfl).trans ?_
    exact ev_fn (evs_cons (ev_var rfl) (evs_cons (ev_var rfl) (evs_cons (ev_fn (evs_cons (ev_var rfl) (evs_cons (ev_var rfl) evs_nil)) ho) evs_nil))) hca
    exact frz_pd (hpdT _)
    rfl
  · refine ⟨T4, M5.take M.length, ?_, hT4, hb5.out hb, hS5.fr.out⟩
    apply call_rt (d := d__law_some_table) hD.some_table rfl rfl
    refine lead ?_
    apply xss_rt
    apply xs_ret
    apply ev_ite (q := false)
    refine ev_cmp (ev_fn (evs_cons (ev_var rfl) (evs_cons ev_cst evs_nil)) hd5) ev_cst ?_
    rw [eq_int, beq_eq_false_iff_ne.mpr hv]
    refine (if_neg (by decide)).trans ?_
    exact ev_pr (evs_cons (ev_var rfl) evs_nil) (tuple_ref hS5.en)
    exact frz_pd (hpdT _)
    rfl
end
end PL.LB

/-! LTQ: tables one behind another: plain. -/
namespace PL.LB
/-- a canonical row is its own shape -/
theorem wl_things : ∀ (k : Nat) (q : List Int), q ∈ wl k → ∃ N, Canon q N ∧ things q = (List.range N).map fun i : Nat => (i : Int)
  | 0, q, h => by
    obtain ⟨_, N, hc, _⟩ := wl_canon 0 q h
    simp only [wl, List.mem_singleton] at h
    subst h
    have : N = 1 := by have := hc.mx; have h0 : mx [0] = 0 := rfl; omega
    subst this
    exact ⟨1, hc, by simp [things]⟩
  | k + 1, q, h => by
    obtain ⟨p, hp, hq⟩ := List.mem_flatMap.mp h
    obtain ⟨N, hc, ht⟩ := wl_things k p hp
    obtain ⟨j, hj, rfl⟩ := List.mem_map.mp hq
    rw [List.mem_range, hc.mx] at hj
    refine ⟨_, mx_snoc hc (by omega), ?_⟩
    rw [things_snoc, ht]
    by_cases c : j < N
    · rw [if_pos (hc.all j c), if_pos c, List.append_nil]
    · have : j = N := by omega
      subst this
      rw [if_neg (fun hm => by have := hc.rng _ hm; omega), if_neg c, List.range_succ, List.map_append]; rfl
theorem idxOf_range {N i : Nat} (h : i < N) : ((List.range N).map fun i : Nat => (i : Int)).idxOf (i : Int) = i := by
  have hn : ((List.range N).map fun i : Nat => (i : Int)).Nodup := List.pairwise_map.mpr (List.Pairwise.imp (fun {a b} h e => h (by omega)) List.nodup_range)
  have hl : i < ((List.range N).map fun i : Nat => (i : Int)).length := by simpa using h
  have := hn.idxOf_getElem i hl
  simpa using this
theorem wl_shape {k : Nat} {q : List Int} (h : q ∈ wl k) : shape q = q := by
  obtain ⟨N, hc, ht⟩ := wl_things k q h
  unfold shape
  conv => rhs; rw [← List.map_id q]
  refine List.map_congr_left fun x hx => ?_
  obtain ⟨h1, h2⟩ := hc.rng x hx
  rw [ht]
  have : x = ((x.toNat : Nat) : Int) := by omega
  rw [this, idxOf_range (by omega)]
  simp
/-- the table applied to a pattern is its entry -/
theorem bhd_pat {k : Nat} {T : List (List Int)} (hT : TOk k T) {q : List Int} (h : q ∈ wl k) : bhd k T q = at_ T (idxP k q) := by
  obtain ⟨N, hc, ht⟩ := wl_things k q h
  obtain ⟨_, _, h3⟩ := hT.of (wl_len h)
  rw [wl_shape h] at h3
  unfold bhd
  rw [wl_shape h]
  conv => rhs; rw [← List.map_id (at_ T (idxP k q))]
  refine List.map_congr_left fun x hx => ?_
  obtain ⟨h1, h2⟩ := h3.rng x hx
  have hl := things_len hc
  rw [hl] at h2
  rw [ht, thingAt, List.getD]
  simp only [List.getElem?_map, List.getElem?_range (show x.toNat < N by omega), Option.map_some, Option.getD_some, id]
  omega
theorem idxP_get {k i : Nat} (hk : k < 5) (hi : i < (wl k).length) : idxP k (at_ (wl k) i) = i := by
  rw [at_get hi, idxP]
  exact ((wl_small k hk).2).idxOf_getElem i hi
theorem put_still {k : Nat} {T : List (List Int)} (hT : TOk k T) (hk : k < 5) : put_ k (wl k) T = T := by
  refine List.ext_getElem (by rw [put_, List.length_map, hT.len]) fun i h1 h2 => ?_
  have hi : i < (wl k).length := by rw [put_, List.length_map] at h1; exact h1
  simp only [put_, List.getElem_map]
  rw [bhd_pat hT (List.getElem_mem hi), ← at_get hi, idxP_get hk hi, at_get h2]
theorem bhd_still {k : Nat} {e : List Int} (he : e.length = k + 1) : bhd k (wl k) e = e := by
  unfold bhd
  have := idxP_at (shape_in k e he)
  unfold at_
  rw [this, shape_back]
theorem still_put {k : Nat} {T : List (List Int)} (hT : TOk k T) : put_ k T (wl k) = T := by
  unfold put_
  conv => rhs; rw [← List.map_id T]
  exact List.map_congr_left fun e he => bhd_still (hT.elen he)
/-! ### things called otherwise -/
theorem things_map {f : Int → Int} (s : List Int) : (∀ x ∈ s, ∀ y ∈ s, f x = f y → x = y) → things (s.map f) = (things s).map f := by
  induction s using snoc_ind with
  | h0 => intro _; rfl
  | h1 s x ih =>
    intro hf
    have hs := ih fun a ha b hb => hf a (List.mem_append_left _ ha) b (List.mem_append_left _ hb)
    rw [List.map_append, List.map_cons, List.map_nil, things_snoc, things_snoc, hs, List.map_append]
    congr 1
    by_cases h : x ∈ s
    · rw [if_pos h, if_pos (List.mem_map.mpr ⟨x, h, rfl⟩)]; rfl
    · rw [if_neg h, if_neg]
      · rfl
      · intro hm
        obtain ⟨y, hy, e⟩ := List.mem_map.mp hm
        exact h (hf y (List.mem_append_left _ hy) x (List.mem_append_right _ (List.mem_singleton.mpr rfl)) e ▸ hy)
theorem shape_map {f : Int → Int} {s : List Int} (hf : ∀ x ∈ s, ∀ y ∈ s, f x = f y → x = y) : shape (s.map f) = shape s := by
  unfold shape
  rw [things_map s hf, List.map_map]
  refine List.map_congr_left fun x hx => ?_
  simp only [Function.comp]
  rw [idxOf_map fun y hy e => hf y ((mem_things s).mp hy) x hx e]
theorem thingAt_map {f : Int → Int} {T : List Int} {x : Int} (h : 0 ≤ x ∧ x < T.length) : thingAt (T.map f) x = f (thingAt T x) := by
  have : x.toNat < T.length := by omega
  unfold thingAt
  rw [getD_eq this, getD_eq (by simpa using this)]
  simp
theorem bhd_map {k : Nat} {T : List (List Int)} (hT : TOk k T) {f : Int → Int} {s : List Int} (hs : s.length = k + 1) (hf : ∀ x ∈ s, ∀ y ∈ s, f x = f y → x = y) : bhd k T (s.map f) = (bhd k T s).map f := by
  obtain ⟨_, _, hc⟩ := hT.of hs
  unfold bhd
  rw [shape_map hf, things_map s hf, List.map_map]
  refine List.map_congr_left fun x hx => ?_
  exact thingAt_map (hc.rng x hx)
theorem thingAt_inj {T : List Int} (hn : T.Nodup) {x y : Int} (hx : 0 ≤ x ∧ x < T.length) (hy : 0 ≤ y ∧ y < T.length) (e : thingAt T x = thingAt T y) : x = y := by
  have hx' : x.toNat < T.length := by omega
  have hy' : y.toNat < T.length := by omega
  unfold thingAt at e
  rw [getD_eq hx', getD_eq hy'] at e
  have := (List.getElem_inj hn).mp e
  omega
/-- one table behind another -/
theorem bhd_put {k : Nat} {A B : List (List Int)} (hA : TOk k A) (hB : TOk k B) {e : List Int} (he : e.length = k + 1) : bhd k (put_ k A B) e = bhd k B (bhd k A e) := by
  obtain ⟨h1, h2, hc⟩ := hA.of he
  have hat : at_ (put_ k A B) (idxP k (shape e)) = bhd k B (at_ A (idxP k (shape e))) := at_map h1
  rw [bhd, hat]
  conv => rhs; rw [bhd.eq_def k A e]
  rw [bhd_map hB h2 fun x hx y hy e => thingAt_inj (things_nodup _) (hc.rng x hx) (hc.rng y hy) e]
/-- a row led through tables -/
def led (k : Nat) (Ts : List (List (List Int))) (row : List Int) : List Int := Ts.foldl (fun row T => bhd k T row) row
theorem led_len {k : Nat} : ∀ {Ts : List (List (List Int))}, (∀ T ∈ Ts, TOk k T) → ∀ {row : List Int}, row.length = k + 1 → (led k Ts row).length = k + 1
  | [], _, _, h => h
  | T :: Ts, hT, row, h => led_len (fun T' hT' => hT T' (List.mem_cons_of_mem _ hT')) (bhd_len (hT T (List.mem_cons_self ..)) h)
theorem led_app {k : Nat} (A B : List (List (List Int))) (row : List Int) : led k (A ++ B) row = led k B (led k A row) := by
  unfold led; rw [List.foldl_append]
/-- two neighbours put together lead alike -/
theorem led_join {k : Nat} {A B : List (List (List Int))} {S T : List (List Int)} (hA : ∀ T ∈ A, TOk k T) (hS : TOk k S) (hT : TOk k T) {row : List Int} (hr : row.length = k + 1) : led k (A ++ [put_ k S T] ++ B) row = led k (A ++ [S, T] ++ B) row := by
  rw [led_app, led_app, led_app (A ++ [S, T]) B, led_app A [S, T]]
  congr 1
  show bhd k (put_ k S T) (led k A row) = bhd k T (bhd k S (led k A row))
  exact bhd_put hS hT (led_len hA hr)
theorem led_one {k : Nat} {T : List (List Int)} (hT : TOk k T) (hk : k < 5) : (wl k).map (led k [T]) = T := put_still hT hk
end PL.LB

/-! LK1: the package's functions about tables: run. -/
namespace PL.LB
def d_holds : Def := ⟨["store", "deed"], 8, false,
    (.cons (.set (.tp (.cons (.nm 2) (.cons (.nm 3) (.cons (.nm 4) (.cons (.nm 5) .nil))))) (.var 1))
    (.cons (.iff (.bop false (.cons (.pr .any (.cons (.comp (.tp (.cons (.nm 6) (.cons (.nm 7) .nil))) (.of (.var 2)) .none (.cmp .ne (.idx (.var 0) (.var 6)) (.idx (.var 0) (.var 7)))) .nil)) (.cons (.pr .any (.cons (.comp (.tp (.cons (.nm 6) (.cons (.nm 7) .nil))) (.of (.var 3)) .none (.cmp .eq (.idx (.var 0) (.var 6)) (.idx (.var 0) (.var 7)))) .nil)) .nil))) (.cons (.ret (.cst (.bl false)))
    .nil) .nil)
    (.cons (.ret (.bop true (.cons (.cmp .ne (.idx (.var 0) (.var 4)) (.idx (.var 0) (.var 5))) (.cons (.cmp .gt (.mt .count (.var 0) (.cons (.idx (.var 0) (.var 5)) .nil)) (.cst (.int 1))) .nil))))
    .nil)))⟩

def d_done : Def := ⟨["store", "deed"], 4, false,
    (.cons (.iff (.not (.fn "holds" (.cons (.var 0) (.cons (.var 1) .nil)))) (.cons (.ret (.var 0))
    .nil) .nil)
    (.cons (.par [2, 3] (.cons (.idx (.var 1) (.cst (.int 2))) (.cons (.idx (.var 1) (.cst (.int 3))) .nil)))
    (.cons (.ret (.bin .add (.bin .add (.slc (.var 0) .none (.some (.var 3))) (.tup (.cons (.idx (.var 0) (.var 2)) .nil))) (.slc (.var 0) (.some (.bin .add (.var 3) (.cst (.int 1)))) .none)))
    .nil)))⟩

def d_patterns_of : Def := ⟨["n"], 6, false,
    (.cons (.set (.nm 1) (.lst (.cons (.tup (.cons (.cst (.int 0)) .nil)) .nil)))
    (.cons (.for (.nm 2) (.rng2 (.cst (.int 1)) (.var 0)) (.cons (.set (.nm 3) (.lst .nil))
    (.cons (.for (.nm 4) (.of (.var 1)) (.cons (.ex (.mt .extend (.var 3) (.cons (.comp (.nm 5) (.rng1 (.bin .add (.fn "many_things" (.cons (.var 4) .nil)) (.cst (.int 1)))) .none (.tup (.star (.var 4) (.cons (.var 5) .nil)))) .nil)))
    .nil))
    (.cons (.set (.nm 1) (.pr .list (.cons (.var 3) .nil)))
    .nil))))
    (.cons (.ret (.pr .tuple (.cons (.var 1) .nil)))
    .nil)))⟩

def d_still : Def := ⟨["n"], 1, false,
    (.cons (.ret (.fn "patterns_of" (.cons (.var 0) .nil)))
    .nil)⟩

def d_deed_table : Def := ⟨["n", "deed"], 3, false,
    (.cons (.ret (.pr .tuple (.cons (.comp (.nm 2) (.of (.fn "patterns_of" (.cons (.var 0) .nil))) .none (.fn "done" (.cons (.var 2) (.cons (.var 1) .nil)))) .nil)))
    .nil)⟩

def d_numbers_of : Def := ⟨["n"], 3, false,
    (.cons (.ret (.pr .dictT (.cons (.comp (.tp (.cons (.nm 1) (.cons (.nm 2) .nil))) (.enum (.fn "patterns_of" (.cons (.var 0) .nil))) .none (.tup (.cons (.var 2) (.cons (.var 1) .nil)))) .nil)))
    .nil)⟩

def d_lead_by : Def := ⟨["table", "store", "numbers"], 8, false,
    (.cons (.set (.nm 3) (.dsp .nil))
    (.cons (.for (.nm 4) (.of (.var 1)) (.cons (.ex (.mt .setdefault (.var 3) (.cons (.var 4) (.cons (.pr .len (.cons (.var 3) .nil)) .nil))))
    .nil))
    (.cons (.set (.tp (.cons (.nm 5) (.cons (.nm 6) .nil))) (.tup (.cons (.pr .list (.cons (.var 3) .nil)) (.cons (.pr .tuple (.cons (.comp (.nm 4) (.of (.var 1)) .none (.idx (.var 3) (.var 4))) .nil)) .nil))))
    (.cons (.ret (.pr .tuple (.cons (.comp (.nm 7) (.of (.idx (.var 0) (.idx (.var 2) (.var 6)))) .none (.idx (.var 5) (.var 7))) .nil)))
    .nil))))⟩

def d_both : Def := ⟨["n", "one", "other"], 5, false,
    (.cons (.set (.nm 3) (.fn "numbers_of" (.cons (.var 0) .nil)))
    (.cons (.ret (.pr .tuple (.cons (.comp (.nm 4) (.of (.var 1)) .none (.fn "lead_by" (.cons (.var 2) (.cons (.var 4) (.cons (.var 3) .nil))))) .nil)))
    .nil))⟩

theorem evs_star {C : Orc} {P : String → Option (List String)} {mk : Nat} {σ : Env} {M M1 M2 : Mem} {e : E} {r : Es} {x : V} {ys vs : List V} (h : ev P C mk e σ M = .ok x M1) (hs : items M1 x = some ys) (h2 : evs P C mk r σ M1 = .ok vs M2) : evs P C mk (.star e r) σ M = .ok (ys ++ vs) M2 := by
  simp only [evs, h, R.bind_ok, starred, hs, h2]
section
variable {D : String → Option Def}
abbrev pB : Ss := .cons (.ex (.mt .extend (.var 3) (.cons (.comp (.nm 5) (.rng1 (.bin .add (.fn "many_things" (.cons (.var 4) .nil)) (.cst (.int 1)))) .none (.tup (.star (.var 4) (.cons (.var 5) .nil)))) .nil))) .nil
theorem pat_step (hm : D "many_things" = some d_many_things) (n : Nat) {mk : Nat} {M : Mem} {p k : Nat} {x0 x2 x4 : Option V} (hk : k < 4) (hp : M[p]? = some (.lst ((wl k).map st))) (hmk : mk ≤ M.length) :
    ∃ M1 y4, forL [(p, (wl k).map st)] (.nm 4) (fun σ' M' => xss (parsOf D) (callN D (n + 1)) mk pB σ' M') ((wl k).map st) [x0, some (.ref p), x2, some (.ref M.length), x4, none] (M ++ [.lst []]) = .nx [x0, some (.ref p), x2, some (.ref M.length), y4, none] M1 ∧
      Old M M1 ∧ M1[M.length]? = some (.lst ((wl (k + 1)).map st)) := by
  obtain ⟨σ1, M1, hl, dn, y4, hσ, ho, hn, hdn⟩ := forL_inv (w := [(p, (wl k).map st)]) (t := .nm 4) (b := fun σ' M' => xss (parsOf D) (callN D (n + 1)) mk pB σ' M')
    (fun xs σ M' => ∃ (dn : List (List Int)) (y4 : Option V), σ = [x0, some (.ref p), x2, some (.ref M.length), y4, none] ∧ Old M M' ∧ M'[M.length]? = some (.lst ((dn.flatMap nx1).map st)) ∧ ∃ rest : List (List Int), xs = rest.map st ∧ dn ++ rest = wl k)
    ((wl k).map st) [x0, some (.ref p), x2, some (.ref M.length), x4, none] (M ++ [.lst []])
    ⟨[], x4, rfl, Old.refl.app _, at_end, wl k, rfl, rfl⟩
    (by
      rintro xs σ M' ⟨dn, y4, rfl, ho, _⟩
      exact watch1 (ho.get hp))
    (by
      rintro x xs σ M' ⟨dn, y4, rfl, ho, hn, rest, hx, hr⟩
      cases rest with
      | nil => simp at hx
      | cons q rest =>
        rw [List.map_cons, List.cons.injEq] at hx
        obtain ⟨rfl, rfl⟩ := hx
        obtain ⟨lq, N, hc, hN⟩ := wl_canon k q (by rw [← hr]; simp)
        have ln := (List.getElem?_eq_some_iff.mp hn).1
        have hmr := many_run hm n mk M' hc.ne
        have hcomp := compL_enc (w := []) (t := .nm 5) (c := fun σ' M' => evc (parsOf D) (callN D (n + 1)) mk .none σ' M') (e := fun σ' M' => ev (parsOf D) (callN D (n + 1)) mk (.tup (.star (.var 4) (.cons (.var 5) .nil))) σ' M')
          (σ := [x0, some (.ref p), x2, some (.ref M.length), some (st q), none]) (M := M') (fun j : Nat => V.int (j : Int)) (fun _ => true) (fun j => st (q ++ [(j : Int)])) (List.range (N + 1)) []
          (fun _ => rfl) (fun j hj => ⟨[x0, some (.ref p), x2, some (.ref M.length), some (st q), some (.int (j : Int))], asg_nm, fun acc => ⟨evc_none, fun _ =>
            (ev_tup (evs_star (ev_var rfl) rfl (evs_cons (ev_var rfl) evs_nil)) (by simp only [List.length_append, List.length_map, List.length_singleton]; unfold SZ; omega)).trans (by rw [st, List.map_append]; rfl)⟩⟩) (by unfold SZ; simp; omega)
        rw [List.nil_append, filter_true] at hcomp
        have hle : (dn.flatMap nx1).length ≤ 1000 := by
          have h1 := flat_le (f := nx1) (l := dn) (k := 10) fun y hy => by
            obtain ⟨_, N', hc', hN'⟩ := wl_canon k y (by rw [← hr]; exact List.mem_append_left _ hy)
            rw [nx1_len hc']; omega
          have h2 : dn.length ≤ 52 := by
            have := (wl_small k (by omega)).1
            rw [← hr, List.length_append] at this; omega
          omega
        refine ⟨[x0, some (.ref p), x2, some (.ref M.length), some (st q), none], asg_nm, [x0, some (.ref p), x2, some (.ref M.length), some (st q), none], (M' ++ [MO.lst ((List.range (N + 1)).map fun j : Nat => st (q ++ [(j : Int)]))]).set M.length (MO.lst (((dn ++ [q]).flatMap nx1).map st)), ?_, dn ++ [q], _, rfl, (ho.app _).set (Nat.le_refl _), by rw [List.getElem?_set_self (by rw [List.length_append]; omega)], rest, rfl, by rw [← hr]; simp⟩
        apply xss_nx
        apply xs_ex
        apply ev_mt
        exact ev_var rfl
        exact recv_list hn rfl
        apply evs_cons
        apply ev_comp
        apply evi_rng1 (k := ((N + 1 : Nat) : Int))
        apply ev_bin
        exact ev_fn (evs_cons (ev_var rfl) evs_nil) hmr
        exact ev_cst
        rw [hc.mx]
        refine add_i.trans ?_
        congr 2
        omega
        exact rOk_nat (by omega)
        rw [ranged0]
        exact hcomp
        exact evs_nil
        refine extend_run (xs := (dn.flatMap nx1).map st) ?_ (llst_ref at_end) hmk ?_
        · rw [List.getElem?_append_left ln]; exact hn
        · simp only [List.length_map, List.length_range]; unfold SZ; omega
        rw [List.flatMap_append, List.map_append]
        simp only [List.flatMap_cons, List.flatMap_nil, List.append_nil, nx1, List.map_map, hc.mx]
        rw [show ((N : Int) - 1 + 2).toNat = N + 1 by omega]
        exact xss_nil)
  obtain ⟨rest, hx, hr⟩ := hdn
  have : rest = [] := by cases rest with | nil => rfl | cons _ _ => simp at hx
  subst this
  rw [List.append_nil] at hr
  subst hr
  rw [hσ] at hl
  exact ⟨M1, y4, hl, ho, hn⟩
theorem pd_sts {n : Nat} {T : List (List Int)} : pd (n + 2) (.tup (T.map st)) := pd_tup fun x hx => by obtain ⟨q, _, rfl⟩ := List.mem_map.mp hx; exact pd_st
theorem patterns_run (hm : D "many_things" = some d_many_things) (h : D "patterns_of" = some d_patterns_of) (n mk : Nat) (M : Mem) {k : Nat} (hk : k < 5) :
    callN D (n + 2) mk "patterns_of" [.int ((k + 1 : Nat) : Int)] M = .ok (.tup ((wl k).map st)) M := by
  obtain ⟨σ1, M1, hl, j, p, x2, x3, x4, hσ, ho, hp, hpm, hj⟩ := forL_inv (w := []) (t := .nm 2)
    (b := fun σ' M' => xss (parsOf D) (callN D (n + 1)) M.length (.cons (.set (.nm 3) (.lst .nil)) (.cons (.for (.nm 4) (.of (.var 1)) pB) (.cons (.set (.nm 1) (.pr .list (.cons (.var 3) .nil))) .nil))) σ' M')
    (fun xs σ' M' => ∃ (j p : Nat) (x2 x3 x4 : Option V), σ' = [some (.int ((k + 1 : Nat) : Int)), some (.ref p), x2, x3, x4, none] ∧ Old M M' ∧ M'[p]? = some (.lst ((wl j).map st)) ∧ M.length ≤ p ∧ j + xs.length = k)
    ((List.range k).map fun i : Nat => V.int ((1 + i : Nat) : Int)) [some (.int ((k + 1 : Nat) : Int)), some (.ref M.length), none, none, none, none] (M ++ [.lst [st [0]]])
    ⟨0, M.length, none, none, none, rfl, Old.refl.app _, at_end, Nat.le_refl _, by simp⟩
    (fun _ _ _ _ => rfl)
    (by
      rintro x xs σ' M' ⟨j, p, x2, x3, x4, rfl, ho, hp, hpm, hj⟩
      rw [List.length_cons] at hj
      have lp := (List.getElem?_eq_some_iff.mp hp).1
      have lM := ho.le
      obtain ⟨M1, y4, h1, ho1, hn⟩ := pat_step hm n (mk := M.length) (x0 := some (.int ((k + 1 : Nat) : Int))) (x2 := some x) (x4 := x4) (k := j) (by omega) hp lM
      have lM1 := ho1.le
      refine ⟨[some (.int ((k + 1 : Nat) : Int)), some (.ref p), some x, x3, x4, none], rfl, [some (.int ((k + 1 : Nat) : Int)), some (.ref M1.length), some x, some (.ref M'.length), y4, none], M1 ++ [.lst ((wl (j + 1)).map st)], ?_, j + 1, M1.length, _, _, _, rfl, (ho.trans ho1).app _, at_end, by omega, by omega⟩
      apply xss_nx
      apply xs_set
      apply ev_lst
      exact evs_nil
      decide
      exact asgM_nm
      apply xss_nx
      apply xs_for
      apply evi_of
      exact ev_var rfl
      refine srcOf_ref (xs := (wl j).map st) ?_
      rw [List.getElem?_append_left lp]; exact hp
      exact h1
      apply xss_nx
      apply xs_set
      apply ev_pr
      repeat walk_at "pl"
      refine list_items (xs := (wl (j + 1)).map st) ?_
      simp only [items, hn]
      exact asgM_nm
      exact xss_nil)
  have hjk : j = k := by simpa using hj
  subst hjk
  apply call_rt (d := d_patterns_of) h rfl rfl
  apply xss_nx
  apply xs_set
  apply ev_lst
  apply evs_cons
  apply ev_tup
  exact evs_cons ev_cst evs_nil
  decide
  exact evs_nil
  show 1 ≤ SZ
  decide
  exact asgM_nm
  apply xss_nx
  apply xs_for
  apply evi_rng2 (j := ((1 : Nat) : Int)) (k := ((j + 1 : Nat) : Int))
  exact ev_cst
  exact ev_var rfl
  rw [rOk_nat (by omega), rOk_nat (by omega)]; rfl
  rw [show (((j + 1 : Nat) : Int) - ((1 : Nat) : Int)).toNat = j by omega, ranged_nat]
  exact hl
  rw [hσ]
  apply xss_rt
  apply xs_ret
  exact ev_pr (evs_cons (ev_var rfl) evs_nil) (tuple_ref hp)
  exact frz_pd (n := 2) pd_sts
  exact ho.out
theorem still_run (hm : D "many_things" = some d_many_things) (hp : D "patterns_of" = some d_patterns_of) (h : D "still" = some d_still) (n mk : Nat) (M : Mem) {k : Nat} (hk : k < 5) :
    callN D (n + 3) mk "still" [.int ((k + 1 : Nat) : Int)] M = .ok (.tup ((wl k).map st)) M := by
  apply call_rt (d := d_still) h rfl rfl
  apply xss_rt
  apply xs_ret
  exact ev_fn (evs_cons (ev_var rfl) evs_nil) (patterns_run hm hp n _ _ hk)
  exact frz_pd (n := 2) pd_sts
  simp
/-! ### deeds -/
theorem held_any (s : List Int) (al ul : List (Nat × Nat)) (a b : Nat) : heldF s al ul a b = (!(al.any (fun p => s.getD p.1 0 != s.getD p.2 0) || ul.any fun p => s.getD p.1 0 == s.getD p.2 0) && ((s.getD a 0 != s.getD b 0) && decide (1 < (s.countP fun x => x == s.getD b 0)))) := by
  have h1 : al.all (fun p => s.getD p.1 0 == s.getD p.2 0) = !al.any (fun p => s.getD p.1 0 != s.getD p.2 0) := by
    rw [List.all_eq_not_any_not]; congr 2
  have h2 : ul.all (fun p => s.getD p.1 0 != s.getD p.2 0) = !ul.any (fun p => s.getD p.1 0 == s.getD p.2 0) := by
    rw [List.all_eq_not_any_not]; congr 2
    funext p; simp [bne]
  rw [heldF, h1, h2, Bool.not_or, Bool.and_assoc, Bool.and_assoc]
theorem holds_run (h : D "holds" = some d_holds) (n mk : Nat) (M : Mem) {s : List Int} {al ul : List (Nat × Nat)} {a b : Nat} (hd : DOk s.length al ul a b) :
    callN D (n + 1) mk "holds" [st s, dd al ul a b] M = .ok (.bl (heldF s al ul a b)) M := by
  have c1 := fun mk M => prs_comp (P := parsOf D) (C := callN D n) (mk := mk) (M := M) (σ := [some (st s), some (dd al ul a b), some (prs al), some (prs ul), some (.int a), some (.int b), none, none]) (i := 2) (u := 6) (v := 7) (e := .cmp .ne (.idx (.var 0) (.var 6)) (.idx (.var 0) (.var 7))) (fun q => s.getD q.1 0 != s.getD q.2 0) hd.zal rfl prs_src
    (fun q hq M' => pair_ne rfl rfl rfl (hd.bal q hq).1 (hd.bal q hq).2)
  have c2 := fun mk M => prs_comp (P := parsOf D) (C := callN D n) (mk := mk) (M := M) (σ := [some (st s), some (dd al ul a b), some (prs al), some (prs ul), some (.int a), some (.int b), none, none]) (i := 3) (u := 6) (v := 7) (e := .cmp .eq (.idx (.var 0) (.var 6)) (.idx (.var 0) (.var 7))) (fun q => s.getD q.1 0 == s.getD q.2 0) hd.zul rfl prs_src
    (fun q hq M' => pair_eq rfl rfl rfl (hd.bul q hq).1 (hd.bul q hq).2)
  rw [held_any]
  cases g1 : al.any (fun p => s.getD p.1 0 != s.getD p.2 0) with
  | true =>
    apply call_rt (d := d_holds) h rfl rfl
    apply xss_nx
    apply xs_set
    exact ev_var rfl
    rfl
    apply xss_rt
    apply xs_iff (q := true)
    apply ev_bop
    apply evb_cons (q := true)
    refine (ev_pr (evs_cons (c1 _ _) evs_nil) any_bls).trans ?_
    rw [g1]
    exact if_neg (by decide)
    refine (if_pos rfl).trans ?_
    apply xss_rt
    exact xs_ret ev_cst
    exact frz_bl
    exact take_app
  | false =>
    cases g2 : ul.any (fun p => s.getD p.1 0 == s.getD p.2 0) with
    | true =>
      apply call_rt (d := d_holds) h rfl rfl
      apply xss_nx
      apply xs_set
      exact ev_var rfl
      rfl
      apply xss_rt
      apply xs_iff (q := true)
      apply ev_bop
      apply evb_cons (q := false)
      refine (ev_pr (evs_cons (c1 _ _) evs_nil) any_bls).trans ?_
      rw [g1]
      refine (if_pos rfl).trans ?_
      apply evb_one
      refine (ev_pr (evs_cons (c2 _ _) evs_nil) any_bls).trans ?_
      rw [g2]
      refine (if_pos rfl).trans ?_
      apply xss_rt
      exact xs_ret ev_cst
      exact frz_bl
      rw [List.append_assoc]; exact take_app
    | false =>
      apply call_rt (d := d_holds) h rfl rfl
      apply xss_nx
      apply xs_set
      exact ev_var rfl
      rfl
      apply xss_nx
      apply xs_iff (q := false)
      apply ev_bop
      apply evb_cons (q := false)
      refine (ev_pr (evs_cons (c1 _ _) evs_nil) any_bls).trans ?_
      rw [g1]
      refine (if_pos rfl).trans ?_
      apply evb_one
      refine (ev_pr (evs_cons (c2 _ _) evs_nil) any_bls).trans ?_
      rw [g2]
      refine (if_neg (by decide)).trans ?_
      exact xss_nil
      apply xss_rt
      apply xs_ret
      apply ev_bop
      apply evb_cons (q := s.getD a 0 != s.getD b 0)
      exact pair_ne rfl rfl rfl hd.la hd.lb
      have hfin : (if (s.getD a 0 != s.getD b 0) = true then evb (parsOf D) (callN D n) M.length true (.cons (.cmp .gt (.mt .count (.var 0) (.cons (.idx (.var 0) (.var 5)) .nil)) (.cst (.int 1))) .nil) [some (st s), some (dd al ul a b), some (prs al), some (prs ul), some (.int a), some (.int b), none, none] (M ++ [MO.lst (al.map fun q => V.bl (s.getD q.1 0 != s.getD q.2 0))] ++ [MO.lst (ul.map fun q => V.bl (s.getD q.1 0 == s.getD q.2 0))]) else .ok (.bl (s.getD a 0 != s.getD b 0)) (M ++ [MO.lst (al.map fun q => V.bl (s.getD q.1 0 != s.getD q.2 0))] ++ [MO.lst (ul.map fun q => V.bl (s.getD q.1 0 == s.getD q.2 0))])) =
          .ok (.bl ((s.getD a 0 != s.getD b 0) && decide (1 < (s.countP fun x => x == s.getD b 0)))) (M ++ [MO.lst (al.map fun q => V.bl (s.getD q.1 0 != s.getD q.2 0))] ++ [MO.lst (ul.map fun q => V.bl (s.getD q.1 0 == s.getD q.2 0))]) := by
        cases (s.getD a 0 != s.getD b 0) with
        | false => rfl
        | true =>
          refine (if_pos rfl).trans ?_
          apply evb_one
          exact count_gt rfl rfl hd.lb
      exact hfin
      exact frz_bl
      rw [List.append_assoc]; exact take_app
theorem done_run (hh : D "holds" = some d_holds) (h : D "done" = some d_done) (n mk : Nat) (M : Mem) {s : List Int} {al ul : List (Nat × Nat)} {a b : Nat} (hd : DOk s.length al ul a b) (hz : s.length ≤ 1000) :
    callN D (n + 2) mk "done" [st s, dd al ul a b] M = .ok (st (doneF s al ul a b)) M := by
  have hho := holds_run hh n M.length M hd
  cases g : heldF s al ul a b with
  | false =>
    rw [g] at hho
    apply call_rt (d := d_done) h rfl rfl
    apply xss_rt
    apply xs_iff
    apply ev_not
    exact ev_fn (evs_cons (ev_var rfl) (evs_cons (ev_var rfl) evs_nil)) hho
    refine (if_pos rfl).trans ?_
    apply xss_rt
    exact xs_ret (ev_var rfl)
    exact frz_st.trans (by unfold doneF; rw [g]; rfl)
    simp
  | true =>
    rw [g] at hho
    apply call_rt (d := d_done) h rfl rfl
    apply xss_nx
    apply xs_iff
    apply ev_not
    exact ev_fn (evs_cons (ev_var rfl) (evs_cons (ev_var rfl) evs_nil)) hho
    refine (if_neg (by decide)).trans ?_
    exact xss_nil
    apply xss_nx
    apply xs_par
    exact evs_cons (ev_idx (ev_var rfl) ev_cst (v := .int a) rfl) (evs_cons (ev_idx (ev_var rfl) ev_cst (v := .int b) rfl) evs_nil)
    rfl
    apply xss_rt
    apply xs_ret
    refine copy_run (a := a) (b := b) ?_ ?_ ?_ hd.la hd.lb hz
    rfl
    rfl
    rfl
    exact frz_st.trans (by unfold doneF; rw [g]; rfl)
    simp
theorem deed_table_run (hm : D "many_things" = some d_many_things) (hp : D "patterns_of" = some d_patterns_of) (hh : D "holds" = some d_holds) (hdn : D "done" = some d_done) (h : D "deed_table" = some d_deed_table) (n mk : Nat) (M : Mem) {k : Nat} {al ul : List (Nat × Nat)} {a b : Nat} (hd : DOk (k + 1) al ul a b) (hk : k < 5) :
    callN D (n + 3) mk "deed_table" [.int ((k + 1 : Nat) : Int), dd al ul a b] M = .ok (.tup ((dtab k al ul a b).map st)) M := by
  have small := (wl_small k hk).1
  have hcomp := compL_enc (w := []) (t := .nm 2) (c := fun σ' M' => evc (parsOf D) (callN D (n + 2)) M.length .none σ' M') (e := fun σ' M' => ev (parsOf D) (callN D (n + 2)) M.length (.fn "done" (.cons (.var 2) (.cons (.var 1) .nil))) σ' M')
    (σ := [some (.int ((k + 1 : Nat) : Int)), some (dd al ul a b), none]) (M := M) st (fun _ => true) (fun e => st (doneF e al ul a b)) (wl k) []
    (fun _ => rfl) (fun e he => ⟨[some (.int ((k + 1 : Nat) : Int)), some (dd al ul a b), some (st e)], rfl, fun acc => ⟨evc_none, fun _ =>
      ev_fn (evs_cons (ev_var rfl) (evs_cons (ev_var rfl) evs_nil)) (done_run hh hdn n _ _ (by rw [wl_len he]; exact hd) (by rw [wl_len he]; omega))⟩⟩) (by unfold SZ; simp; omega)
  apply call_rt (d := d_deed_table) h rfl rfl
  apply xss_rt
  apply xs_ret
  apply ev_pr
  apply evs_cons
  apply ev_comp
  apply evi_of
  exact ev_fn (evs_cons (ev_var rfl) evs_nil) (patterns_run hm hp n _ _ hk)
  exact srcOf_tup
  exact hcomp
  exact evs_nil
  rw [filter_true, List.nil_append, show ((wl k).map fun e => st (doneF e al ul a b)) = (dtab k al ul a b).map st by rw [dtab, List.map_map]; rfl]
  exact tuple_ref at_end
  exact frz_pd (n := 2) pd_sts
  simp
/-! ### numbers of patterns -/
abbrev nv (k : Nat) : V := .fd ((wl k).map st) ((wl k).zipIdx.map fun q => .int q.2)
theorem pairK_new : ∀ (l : List (List Int × Nat)) (dn : List (List Int × Nat)), ((dn ++ l).map (·.1)).Nodup →
    pairK (l.map fun q => V.tup [st q.1, .int q.2]) (dn.map (fun q => st q.1), dn.map fun q => .int q.2) = some ((dn ++ l).map (fun q => st q.1), (dn ++ l).map fun q => .int q.2)
  | [], dn, _ => by simp [pairK]
  | q :: l, dn, hn => by
    have hnew : ((dn.map fun q => st q.1).any fun k => decide (k = st q.1)) = false := by
      rw [List.any_eq_false]
      intro y hy e
      obtain ⟨q', hq', rfl⟩ := List.mem_map.mp hy
      have e := st_inj (of_decide_eq_true e)
      rw [List.map_append, List.map_cons, List.nodup_append] at hn
      exact hn.2.2 q'.1 (List.mem_map.mpr ⟨q', hq', rfl⟩) q.1 (List.mem_cons_self ..) e
    have ih := pairK_new l (dn ++ [q]) (by rw [List.append_assoc]; exact hn)
    rw [List.append_assoc] at ih
    rw [List.map_cons]
    simp only [pairK, keyT_st, if_true, dputV, hnew, Bool.false_eq_true, if_false]
    rw [List.map_append, List.map_append] at ih
    exact ih
theorem numbers_run (hm : D "many_things" = some d_many_things) (hp : D "patterns_of" = some d_patterns_of) (h : D "numbers_of" = some d_numbers_of) (n mk : Nat) (M : Mem) {k : Nat} (hk : k < 5) :
    callN D (n + 3) mk "numbers_of" [.int ((k + 1 : Nat) : Int)] M = .ok (nv k) M := by
  have small := (wl_small k hk).1
  have nd := (wl_small k hk).2
  have hcomp := compL_enc (w := []) (t := .tp (.cons (.nm 1) (.cons (.nm 2) .nil))) (c := fun σ' M' => evc (parsOf D) (callN D (n + 2)) M.length .none σ' M') (e := fun σ' M' => ev (parsOf D) (callN D (n + 2)) M.length (.tup (.cons (.var 2) (.cons (.var 1) .nil))) σ' M')
    (σ := [some (.int ((k + 1 : Nat) : Int)), none, none]) (M := M) (fun q : List Int × Nat => V.tup [.int q.2, st q.1]) (fun _ => true) (fun q => V.tup [st q.1, .int q.2]) (wl k).zipIdx []
    (fun _ => rfl) (fun q hq => ⟨[some (.int ((k + 1 : Nat) : Int)), some (.int q.2), some (st q.1)], rfl, fun acc => ⟨evc_none, fun _ => ev_tup (evs_cons (ev_var rfl) (evs_cons (ev_var rfl) evs_nil)) (by unfold SZ; simp)⟩⟩) (by unfold SZ; simp; omega)
  rw [filter_true, List.nil_append] at hcomp
  have hz : (((wl k).zipIdx).map (·.1)) = wl k := by simp
  have hpk := pairK_new (wl k).zipIdx [] (by rw [List.nil_append, hz]; exact nd)
  rw [List.nil_append] at hpk
  have hks : ((wl k).zipIdx.map fun q => st q.1) = (wl k).map st := by
    rw [show (fun q : List Int × Nat => st q.1) = st ∘ Prod.fst from rfl, ← List.map_map, hz]
  rw [hks] at hpk
  apply call_rt (d := d_numbers_of) h rfl rfl
  apply xss_rt
  apply xs_ret
  apply ev_pr
  apply evs_cons
  apply ev_comp
  apply evi_enum
  exact ev_fn (evs_cons (ev_var rfl) evs_nil) (patterns_run hm hp n _ _ hk)
  exact srcOf_tup
  rw [enumed_map]
  exact hcomp
  exact evs_nil
  show pDictT _ _ = _
  simp only [pDictT, litems, at_end]
  have hpk' : pairK ((wl k).zipIdx.map fun q => V.tup [st q.1, .int q.2]) ([], []) = some ((wl k).map st, (wl k).zipIdx.map fun q => .int q.2) := hpk
  rw [hpk']
  rfl
  exact frz_dct (d := 5) at_end (by simp) (fun x hx => by obtain ⟨q, _, rfl⟩ := List.mem_map.mp hx; exact (pd_st (n := 0)).2.1) (fun x hx => by obtain ⟨q, _, rfl⟩ := List.mem_map.mp hx; rfl) (fun z => wl_ne _ (by simpa using z))
  rw [List.append_assoc]; exact take_app
end
end PL.LB

/-! LB8: loops that may return; what is told alike. -/
namespace PL.LB
theorem forL_ret {w : List (Nat × List V)} {t : Tg} {b : Env → Mem → Rs} (I : List V → Env → Mem → Prop) (R : V → Mem → Prop) : ∀ (xs : List V) (σ : Env) (M : Mem), I xs σ M →
    (∀ xs σ M, I xs σ M → watched w M = true) →
    (∀ x xs σ M, I (x :: xs) σ M → ∃ σ', asg t x σ = some σ' ∧ ((∃ σ1 M1, b σ' M = .nx σ1 M1 ∧ I xs σ1 M1) ∨ ∃ v M1, b σ' M = .rt v M1 ∧ R v M1)) →
    (∃ σ1 M1, forL w t b xs σ M = .nx σ1 M1 ∧ I [] σ1 M1) ∨ ∃ v M1, forL w t b xs σ M = .rt v M1 ∧ R v M1
  | [], σ, M, h, hw, _ => .inl ⟨σ, M, by unfold forL; simp only [hw _ _ _ h, if_true], h⟩
  | x :: xs, σ, M, h, hw, hs => by
    obtain ⟨σ', ha, ⟨σ1, M1, hb, h1⟩ | ⟨v, M1, hb, hr⟩⟩ := hs x xs σ M h
    · rcases forL_ret I R xs σ1 M1 h1 hw hs with ⟨σ2, M2, h2, h3⟩ | ⟨v, M2, h2, h3⟩
      · refine .inl ⟨σ2, M2, ?_, h3⟩
        unfold forL
        simp only [hw _ _ _ h, if_true, ha, hb]
        exact h2
      · refine .inr ⟨v, M2, ?_, h3⟩
        unfold forL
        simp only [hw _ _ _ h, if_true, ha, hb]
        exact h2
    · refine .inr ⟨v, M1, ?_, hr⟩
      unfold forL
      simp only [hw _ _ _ h, if_true, ha, hb]
theorem ev_ite_same {C : Orc} {P : String → Option (List String)} {mk : Nat} {σ : Env} {M M1 M2 : Mem} {c a b : E} {q : Bool} {v : V} (h1 : ev P C mk c σ M = .ok (.bl q) M1) (ha : ev P C mk a σ M1 = .ok v M2) (hb : ev P C mk b σ M1 = .ok v M2) : ev P C mk (.ite c a b) σ M = .ok v M2 := by
  apply ev_ite h1
  cases q
  · exact hb
  · exact ha
theorem tuple_items {M : Mem} {x : V} {xs : List V} (h : litems M x = some xs) (hx : ∀ ys, x ≠ .tup ys) : prim M .tuple [x] = .ok (.tup xs) M := by
  show pTuple M x = _
  unfold pTuple
  split
  · rename_i ys; exact absurd rfl (hx ys)
  · rw [h]
theorem pe_eq {M : Mem} {p q : Nat × Nat} : eqD M (pe p) (pe q) = some (decide (p = q)) := by
  rw [eqD_reads (reads_pd (pd_pe (n := 59))) (reads_pd (pd_pe (n := 59)))]
  simp only [eqV, eqVs, Bool.and_true]
  congr 1
  rw [Bool.eq_iff_iff, decide_eq_true_eq, Bool.and_eq_true, beq_iff_eq, beq_iff_eq, Prod.ext_iff]
  omega
theorem inM_pe {M : Mem} {p : Nat × Nat} : ∀ {l : List (Nat × Nat)}, inM M (pe p) (l.map pe) = some (decide (p ∈ l))
  | [] => rfl
  | q :: l => by
    simp only [List.map_cons, inM, pe_eq, inM_pe (l := l), Option.bind_some, Option.map_some]
    congr 1
    rw [Bool.eq_iff_iff, Bool.or_eq_true, decide_eq_true_eq, decide_eq_true_eq, decide_eq_true_eq, List.mem_cons]
    exact or_congr_left eq_comm
theorem sm_pes {l : List (Nat × Nat)} (h : l.length ≤ 1000000) : sm (.tup (l.map pe)) = true := by
  simp only [sm, Bool.and_eq_true, decide_eq_true_eq, List.length_map]
  refine ⟨by unfold SZ; omega, sms_all.mpr fun x hx => ?_⟩
  obtain ⟨p, _, rfl⟩ := List.mem_map.mp hx
  rfl
theorem dep_pes (l : List (Nat × Nat)) : dep (.tup (l.map pe)) ≤ 2 := by
  simp only [dep]
  have := deps_all (xs := l.map pe) (n := 1) fun x hx => by
    obtain ⟨p, _, rfl⟩ := List.mem_map.mp hx
    simp [dep, deps]
  omega
theorem dep_st (s : List Int) : dep (st s) ≤ 1 := by
  simp only [dep]
  have := deps_all (xs := s.map V.int) (n := 0) fun x hx => by
    obtain ⟨p, _, rfl⟩ := List.mem_map.mp hx
    simp [dep]
  omega
theorem cps_le {s : List Int} {N : Nat} (hc : Canon s N) (hz : s.length ≤ 1000) (hN : N ≤ 1000) : (cps s).length ≤ 1000000 := by
  have h1 := flat_le (f := cpa s) (l := frs s) (k := 1000) fun x _ => Nat.le_trans (cpa_le s x) hz
  rw [frs_len hc] at h1
  have h3 : N * 1000 ≤ 1000 * 1000 := Nat.mul_le_mul hN (Nat.le_refl _)
  unfold cps; omega
/-- tuple([things[block] for block in row]) -/
theorem called_run {C : Orc} {P : String → Option (List String)} {mk : Nat} {σ : Env} {M M' : Mem} {X : V} {T t : List Int} {e : E} {i j : Nat} (hj : ∀ x : V, lk (stv σ j x) i = some X ∧ lk (stv σ j x) j = some x) (hX : ∀ acc, dkeys (M' ++ [.lst acc]) X = none ∧ items (M' ++ [.lst acc]) X = some (T.map .int))
    (he : ev P C mk e σ M = .ok (st t) M') (ht : ∀ x ∈ t, 0 ≤ x ∧ x < T.length) (hz : t.length ≤ 1000) :
    ev P C mk (.pr .tuple (.cons (.comp (.nm j) (.of e) .none (.idx (.var i) (.var j))) .nil)) σ M = .ok (st (t.map (thingAt T))) (M' ++ [.lst ((t.map (thingAt T)).map .int)]) := by
  have hcomp := compL_enc (w := []) (t := .nm j) (c := fun σ' M' => evc P C mk .none σ' M') (e := fun σ' M' => ev P C mk (.idx (.var i) (.var j)) σ' M')
    (σ := σ) (M := M') V.int (fun _ => true) (fun x => .int (thingAt T x)) t []
    (fun _ => rfl) (fun x hx => ⟨stv σ j (.int x), rfl, fun acc => ⟨evc_none, fun _ => by
      apply ev_idx
      exact ev_var (hj _).1
      exact ev_var (hj _).2
      obtain ⟨h1, h2⟩ := ht x hx
      refine index_items (hX _).1 (hX _).2 h1 ?_
      have hl : x.toNat < T.length := by omega
      rw [List.getElem?_map, List.getElem?_eq_getElem hl, thingAt, getD_eq hl]; rfl⟩⟩) (by unfold SZ; simp; omega)
  apply ev_pr
  apply evs_cons
  apply ev_comp
  apply evi_of
  exact he
  exact srcOf_tup
  exact hcomp
  exact evs_nil
  rw [filter_true, List.nil_append, show (t.map fun x => V.int (thingAt T x)) = (t.map (thingAt T)).map V.int by rw [List.map_map]; rfl]
  exact tuple_ref at_end
theorem shape_rng {s : List Int} {x : Int} (h : x ∈ shape s) : 0 ≤ x ∧ x < (things s).length := by
  obtain ⟨y, hy, rfl⟩ := List.mem_map.mp h
  have := List.idxOf_lt_length_of_mem ((mem_things s).mpr hy)
  omega
theorem doneL_rng {s : List Int} {a b : Nat} {N : Int} (h : ∀ x ∈ s, 0 ≤ x ∧ x < N) (ha : a < s.length) : ∀ x ∈ doneL s a b, 0 ≤ x ∧ x < N := fun x hx => by
  unfold doneL at hx
  rcases List.mem_or_eq_of_mem_set hx with hx | rfl
  · exact h x hx
  · exact h _ (getD_mem ha)
end PL.LB

/-! LK2: stores led by tables. -/
namespace PL.LB
theorem ev_dsp0 {C : Orc} {P : String → Option (List String)} {mk : Nat} {σ : Env} {M : Mem} : ev P C mk (.dsp .nil) σ M = .ok (.ref M.length) (M ++ [.dct false [] []]) := by
  simp [ev, evs, dispK]
abbrev nums (n : Nat) : List V := (List.range n).map fun i : Nat => V.int i
theorem known_get {x : Int} : ∀ (T : List Int) (k : Nat), x ∈ T → dgetV (T.map V.int) ((List.range' k T.length).map fun i : Nat => V.int i) (.int x) = some (.int ((k + T.idxOf x : Nat) : Int))
  | y :: T, k, h => by
    rw [List.length_cons, List.range'_succ, List.map_cons, List.map_cons, List.idxOf_cons]
    simp only [dgetV]
    by_cases e : y = x
    · subst e; simp
    · have : ¬ V.int y = V.int x := fun z => e (V.int.inj z)
      rw [if_neg this, known_get T (k + 1) ((List.mem_cons.mp h).resolve_left fun z => e z.symm), beq_eq_false_iff_ne.mpr e]
      simp only [cond_false]
      congr 2
      omega
theorem known_none {x : Int} : ∀ (T : List Int) (k : Nat), x ∉ T → dgetV (T.map V.int) ((List.range' k T.length).map fun i : Nat => V.int i) (.int x) = none
  | [], _, _ => by simp [dgetV]
  | y :: T, k, h => by
    rw [List.length_cons, List.range'_succ, List.map_cons, List.map_cons]
    simp only [dgetV]
    have : ¬ V.int y = V.int x := fun z => h (V.int.inj z ▸ List.mem_cons_self ..)
    rw [if_neg this]
    exact known_none T (k + 1) fun hm => h (List.mem_cons_of_mem _ hm)
theorem range0 (n : Nat) : List.range n = List.range' 0 n := List.range_eq_range'
section
variable {D : String → Option Def}
theorem lead_run (h : D "lead_by" = some d_lead_by) (n mk : Nat) (M : Mem) {k : Nat} {T : List (List Int)} {tv : V} (hT : TOk k T) (hv : Sq M tv (T.map st)) {row : List Int} (hr : row.length = k + 1) (hk : k < 5) :
    callN D (n + 1) mk "lead_by" [tv, st row, nv k] M = .ok (st (bhd k T row)) M := by
  obtain ⟨t1, t2, t3⟩ := hT.of hr
  have hlt := things_le row
  obtain ⟨σ1, M1, hl, dn, x4, hσ, ho, hd, rest, hx, hrr⟩ := forL_inv (w := []) (t := .nm 4) (b := fun σ' M' => xss (parsOf D) (callN D n) M.length (.cons (.ex (.mt .setdefault (.var 3) (.cons (.var 4) (.cons (.pr .len (.cons (.var 3) .nil)) .nil)))) .nil) σ' M')
    (fun xs σ' M' => ∃ (dn : List Int) (x4 : Option V), σ' = [some tv, some (st row), some (nv k), some (.ref M.length), x4, none, none, none] ∧ Old M M' ∧ M'[M.length]? = some (.dct false ((things dn).map .int) (nums (things dn).length)) ∧ ∃ rest : List Int, xs = rest.map V.int ∧ dn ++ rest = row)
    (row.map .int) [some tv, some (st row), some (nv k), some (.ref M.length), none, none, none, none] (M ++ [.dct false [] []])
    ⟨[], none, rfl, Old.refl.app _, at_end, row, rfl, rfl⟩
    (fun _ _ _ _ => rfl)
    (by
      rintro x xs σ' M' ⟨dn, x4, rfl, ho, hd, rest, hx, hrr⟩
      cases rest with
      | nil => simp at hx
      | cons i rest =>
        rw [List.map_cons, List.cons.injEq] at hx
        obtain ⟨rfl, rfl⟩ := hx
        have ld := (List.getElem?_eq_some_iff.mp hd).1
        have hdn : (things dn).length ≤ 100 := by
          have h1 := things_le dn
          have := congrArg List.length hrr
          rw [List.length_append] at this
          omega
        have hlen : ev (parsOf D) (callN D n) M.length (.pr .len (.cons (.var 3) .nil)) [some tv, some (st row), some (nv k), some (.ref M.length), some (.int i), none, none, none] M' = .ok (.int (things dn).length) M' := by
          apply ev_pr
          exact evs_cons (ev_var rfl) evs_nil
          simp only [prim, prim1, pLen, items, hd, dkeys, List.length_map]
        have hrecv : recvOk M' .setdefault (.ref M.length) = true := by simp only [recvOk, tyR, hd]; rfl
        have hz : decide (((things dn).map V.int).length < SZ) = true := decide_eq_true (by rw [List.length_map]; unfold SZ; omega)
        by_cases hi : i ∈ dn
        · have hg := known_get (things dn) 0 ((mem_things dn).mpr hi)
          rw [← range0] at hg
          refine ⟨[some tv, some (st row), some (nv k), some (.ref M.length), some (.int i), none, none, none], rfl, [some tv, some (st row), some (nv k), some (.ref M.length), some (.int i), none, none, none], M', ?_, dn ++ [i], _, rfl, ho, by rw [things_snoc, if_pos hi, List.append_nil]; exact hd, rest, rfl, by rw [← hrr]; simp⟩
          apply xss_nx
          apply xs_ex
          apply ev_mt
          exact ev_var rfl
          exact hrecv
          exact evs_cons (ev_var rfl) (evs_cons hlen evs_nil)
          show mSetd M.length M' M.length (.int i) (.int _) = _
          simp only [mSetd, hd, key1, Bool.true_and, hz, if_true, hg]
          rfl
          exact xss_nil
        · have hg := known_none (things dn) 0 (fun hm => hi ((mem_things dn).mp hm))
          rw [← range0] at hg
          refine ⟨[some tv, some (st row), some (nv k), some (.ref M.length), some (.int i), none, none, none], rfl, [some tv, some (st row), some (nv k), some (.ref M.length), some (.int i), none, none, none], M'.set M.length (.dct false ((things (dn ++ [i])).map .int) (nums (things (dn ++ [i])).length)), ?_, dn ++ [i], _, rfl, ho.set (Nat.le_refl _), by rw [List.getElem?_set_self ld], rest, rfl, by rw [← hrr]; simp⟩
          apply xss_nx
          apply xs_ex
          apply ev_mt
          exact ev_var rfl
          exact hrecv
          exact evs_cons (ev_var rfl) (evs_cons hlen evs_nil)
          show mSetd M.length M' M.length (.int i) (.int _) = _
          simp only [mSetd, hd, key1, Bool.true_and, hz, if_true, hg, wOk, noref, Bool.or_true, Bool.and_self]
          rfl
          rw [things_snoc, if_neg hi, List.map_append, List.length_append, List.length_singleton, show nums ((things dn).length + 1) = nums (things dn).length ++ [V.int (things dn).length] by rw [nums, List.range_succ, List.map_append]; rfl]
          exact xss_nil)
  have : rest = [] := by cases rest with | nil => rfl | cons _ _ => simp at hx
  subst this
  rw [List.append_nil] at hrr
  subst hrr
  have hd2 : ∀ N : Mem, (M1 ++ N)[M.length]? = some (.dct false ((things dn).map .int) (nums (things dn).length)) := fun N => by
    rw [List.getElem?_append_left (List.getElem?_eq_some_iff.mp hd).1]; exact hd
  have ov : ∃ N, M1 = M ++ N := by
    refine ⟨M1.drop M.length, ?_⟩
    have := ho.out
    conv => lhs; rw [← List.take_append_drop M.length M1]
    rw [this]
  obtain ⟨N1, hN1⟩ := ov
  have hcomp := compL_enc (w := []) (t := .nm 4) (c := fun σ' M' => evc (parsOf D) (callN D n) M.length .none σ' M') (e := fun σ' M' => ev (parsOf D) (callN D n) M.length (.idx (.var 3) (.var 4)) σ' M')
    (σ := [some tv, some (st dn), some (nv k), some (.ref M.length), x4, none, none, none]) (M := M1 ++ [.lst ((things dn).map .int)]) V.int (fun _ => true) (fun x => .int ((things dn).idxOf x)) dn []
    (fun _ => rfl) (fun x hx => ⟨[some tv, some (st dn), some (nv k), some (.ref M.length), some (.int x), none, none, none], rfl, fun acc => ⟨evc_none, fun _ => by
      apply ev_idx
      exact ev_var rfl
      exact ev_var rfl
      have hg := known_get (things dn) 0 ((mem_things dn).mpr hx)
      rw [← range0, Nat.zero_add] at hg
      simp only [index, dkeys, List.append_assoc, hd2, keyOk, key1, Bool.false_eq_true, if_false, if_true]
      exact hg⟩⟩) (by unfold SZ; simp; omega)
  rw [filter_true, List.nil_append] at hcomp
  apply call_rt (d := d_lead_by) h rfl rfl
  apply xss_nx
  apply xs_set
  exact ev_dsp0
  exact asgM_nm
  apply xss_nx
  apply xs_for
  apply evi_of
  exact ev_var rfl
  exact srcOf_tup
  exact hl
  rw [hσ]
  apply xss_nx
  apply xs_set
  apply ev_tup
  apply evs_cons
  apply ev_pr
  exact evs_cons (ev_var rfl) evs_nil
  show pList M1 (.ref M.length) = .ok (.ref M1.length) (M1 ++ [.lst ((things dn).map .int)])
  simp only [pList, items, hd, alloc]
  apply evs_cons
  apply ev_pr
  apply evs_cons
  apply ev_comp
  apply evi_of
  exact ev_var rfl
  exact srcOf_tup
  exact hcomp
  exact evs_nil
  exact tuple_ref at_end
  exact evs_nil
  show 2 ≤ SZ
  decide
  rfl
  rw [show V.tup (dn.map fun x => V.int ((things dn).idxOf x)) = st (shape dn) by rw [st, shape, List.map_map]; rfl]
  apply xss_rt
  apply xs_ret
  refine named_sq (M' := M1 ++ [.lst ((things dn).map .int)] ++ [.lst (dn.map fun x => V.int ((things dn).idxOf x))]) (X := .ref M1.length) (sv := st (at_ T (idxP k (shape dn)))) (T := things dn) (t := at_ T (idxP k (shape dn))) (fun x => ⟨rfl, rfl⟩) (Sq.ref (by rw [List.append_assoc, List.getElem?_append_right (Nat.le_refl _), Nat.sub_self]; rfl)) ?_ Sq.tup t3.rng (by omega)
  apply ev_idx
  exact ev_var rfl
  exact ev_idx (ev_var rfl) (ev_var rfl) (wnum (shape_in k dn hr))
  rw [hN1]
  exact (((hv.app _).app _).app _).idx (sts_at t1)
  exact frz_st
  simp only [List.append_assoc]
  rw [List.take_append_of_le_length ho.le]
  exact ho.out
theorem both_run (hm : D "many_things" = some d_many_things) (hp : D "patterns_of" = some d_patterns_of) (hn : D "numbers_of" = some d_numbers_of) (hl : D "lead_by" = some d_lead_by) (h : D "both" = some d_both) (n mk : Nat) (M : Mem) {k : Nat} {A T : List (List Int)} {av tv : V} (hA : TOk k A) (ha : Sq M av (A.map st)) (hT : TOk k T) (hv : Sq M tv (T.map st)) (hk : k < 5) :
    callN D (n + 4) mk "both" [.int ((k + 1 : Nat) : Int), av, tv] M = .ok (.tup ((put_ k A T).map st)) M := by
  obtain ⟨w, hw⟩ := ha.s
  have small := (wl_small k hk).1
  have hcomp := compL_enc (w := w) (t := .nm 4) (c := fun σ' M' => evc (parsOf D) (callN D (n + 3)) M.length .none σ' M') (e := fun σ' M' => ev (parsOf D) (callN D (n + 3)) M.length (.fn "lead_by" (.cons (.var 2) (.cons (.var 4) (.cons (.var 3) .nil)))) σ' M')
    (σ := [some (.int ((k + 1 : Nat) : Int)), some av, some tv, some (nv k), none]) (M := M) st (fun _ => true) (fun e => st (bhd k T e)) A []
    (fun _ => (hw _).2) (fun e he => ⟨[some (.int ((k + 1 : Nat) : Int)), some av, some tv, some (nv k), some (st e)], rfl, fun acc => ⟨evc_none, fun _ =>
      ev_fn (evs_cons (ev_var rfl) (evs_cons (ev_var rfl) (evs_cons (ev_var rfl) evs_nil))) (lead_run hl (n + 2) _ _ hT (hv.app _) (hA.elen he) hk)⟩⟩) (by unfold SZ; simp; have := hA.len; omega)
  apply call_rt (d := d_both) h rfl rfl
  apply xss_nx
  apply xs_set
  exact ev_fn (evs_cons (ev_var rfl) evs_nil) (numbers_run hm hp hn n _ _ hk)
  exact asgM_nm
  apply xss_rt
  apply xs_ret
  apply ev_pr
  apply evs_cons
  apply ev_comp
  apply evi_of
  exact ev_var rfl
  have := (hw []).1
  rw [List.append_nil] at this
  exact this
  exact hcomp
  exact evs_nil
  rw [filter_true, List.nil_append, show (A.map fun e => st (bhd k T e)) = (put_ k A T).map st by rw [put_, List.map_map]; rfl]
  exact tuple_ref at_end
  exact frz_pd (n := 2) pd_sts
  simp
end
end PL.LB

/-! LB9: loops that break; dicts by rows; reprs of tables. -/
namespace PL.LB
set_option exponentiation.threshold 5000 in
theorem big_64 {n : Nat} (h : n < 2 ^ 64) : n < 2 ^ 4000 := Nat.lt_of_lt_of_le h (Nat.pow_le_pow_right (i := 64) (j := 4000) (Nat.succ_pos 1) (Nat.le_of_ble_eq_true rfl))
/-- a loop whose body goes on, or breaks off -/
theorem forL_brk {w : List (Nat × List V)} {t : Tg} {b : Env → Mem → Rs} (I : List V → Env → Mem → Prop) (J : Env → Mem → Prop) : ∀ (xs : List V) (σ : Env) (M : Mem), I xs σ M →
    (∀ xs σ M, I xs σ M → watched w M = true) →
    (∀ x xs σ M, I (x :: xs) σ M → ∃ σ', asg t x σ = some σ' ∧ ((∃ σ2 M2, b σ' M = .nx σ2 M2 ∧ I xs σ2 M2) ∨ ∃ σ2 M2, b σ' M = .bk σ2 M2 ∧ J σ2 M2)) →
    ∃ σ2 M2, forL w t b xs σ M = .nx σ2 M2 ∧ (I [] σ2 M2 ∨ J σ2 M2)
  | [], σ, M, h, hw, _ => ⟨σ, M, by simp only [forL, hw _ _ _ h, if_true], .inl h⟩
  | x :: xs, σ, M, h, hw, hb => by
    obtain ⟨σ', e, g⟩ := hb x xs σ M h
    rcases g with ⟨σ2, M2, e2, h2⟩ | ⟨σ2, M2, e2, h2⟩
    · obtain ⟨σ3, M3, e3, h3⟩ := forL_brk I J xs σ2 M2 h2 hw hb
      exact ⟨σ3, M3, by simp only [forL, hw _ _ _ h, if_true, e, e2, e3], h3⟩
    · exact ⟨σ2, M2, by simp only [forL, hw _ _ _ h, if_true, e, e2], .inr h2⟩
theorem frz_tup1 {M : Mem} {k d i : Nat} {v : V} {b : Int} (h : frz M k (d + 1) (.ref i) = some v) : frz M k (d + 1) (.tup [.ref i, .int b]) = some (.tup [v, .int b]) := by
  simp only [frz] at h ⊢
  simp only [frzW, frzWs] at h ⊢
  rw [h]; rfl
theorem frz_new1 {M : Mem} {k d i j : Nat} {v : V} {b : Int} (hj : M[j]? = some (.lst [.ref i, .int b])) (hk : k ≤ j) (hi : k ≤ i) (h : frz M k (d + 1) (.ref i) = some v) : frz M k (d + 1 + 1) (.ref j) = some (.fl [v, .int b]) := by
  rw [frz]
  simp only [frzW, if_neg (Nat.not_lt.mpr hk), if_neg (Nat.not_lt.mpr hi), hj, frzWs, h, Option.bind_some, Option.map_some]
/-! ### dicts whose keys are rows, numbered -/
theorem sts_get {q : List Int} : ∀ (l : List (List Int)) (s : Nat), q ∈ l → dgetV (l.map st) ((List.range' s l.length).map fun i : Nat => V.int i) (st q) = some (.int ((s + l.idxOf q : Nat) : Int))
  | y :: l, s, h => by
    rw [List.length_cons, List.range'_succ, List.map_cons, List.map_cons, List.idxOf_cons]
    simp only [dgetV]
    by_cases e : y = q
    · subst e; simp
    · rw [if_neg fun z => e (st_inj z), sts_get l (s + 1) ((List.mem_cons.mp h).resolve_left fun z => e z.symm), beq_eq_false_iff_ne.mpr e]
      simp only [cond_false]
      congr 2
      omega
theorem sts_none {q : List Int} : ∀ (l : List (List Int)) (s : Nat), q ∉ l → dgetV (l.map st) ((List.range' s l.length).map fun i : Nat => V.int i) (st q) = none
  | [], _, _ => by simp [dgetV]
  | y :: l, s, h => by
    rw [List.length_cons, List.range'_succ, List.map_cons, List.map_cons]
    simp only [dgetV]
    have hne : ¬ st y = st q := fun z => by have := st_inj z; subst this; exact h (List.mem_cons_self ..)
    rw [if_neg hne]
    exact sts_none l (s + 1) fun hm => h (List.mem_cons_of_mem _ hm)
/-- the dict at p has these rows for its keys, numbered -/
abbrev Seen (M : Mem) (p : Nat) (l : List (List Int)) : Prop := M[p]? = some (.dct true (l.map st) (nums l.length))
section
variable {M : Mem} {p mk : Nat} {l : List (List Int)} {q : List Int}
theorem Seen.in_ (h : Seen M p l) : cmpop M .isin (st q) (.ref p) = some (decide (q ∈ l)) := by
  have e : dgetV (l.map st) (nums l.length) (st q) = if q ∈ l then some (.int (l.idxOf q)) else none := by
    by_cases c : q ∈ l
    · rw [if_pos c]
      have := sts_get l 0 c
      rw [← range0, Nat.zero_add] at this
      exact this
    · rw [if_neg c]
      have := sts_none l 0 c
      rw [← range0] at this
      exact this
  simp only [cmpop, inOp, items, h, dkeys, keyOk, keyT_st, if_true]
  rw [e]
  by_cases c : q ∈ l <;> simp [c]
theorem Seen.notin (h : Seen M p l) : cmpop M .notin (st q) (.ref p) = some (!decide (q ∈ l)) := by
  have := h.in_ (q := q)
  simp only [cmpop] at this ⊢
  rw [this]; rfl
theorem Seen.len (h : Seen M p l) : prim M .len [.ref p] = .ok (.int l.length) M := by
  simp only [prim, prim1, pLen, items, h, dkeys, List.length_map]
theorem Seen.get (h : Seen M p l) {d : V} : mGet M (.ref p) (st q) d = .ok (if q ∈ l then .int (l.idxOf q) else d) M := by
  simp only [mGet, h, dkeys, keyOk, keyT_st, if_true]
  by_cases c : q ∈ l
  · have := sts_get l 0 c
    rw [← range0, Nat.zero_add] at this
    rw [show dgetV (l.map st) (nums l.length) (st q) = some (.int (l.idxOf q)) from this, if_pos c]; rfl
  · have := sts_none l 0 c
    rw [← range0] at this
    rw [show dgetV (l.map st) (nums l.length) (st q) = none from this, if_neg c]; rfl
theorem Seen.idx (h : Seen M p l) (hq : q ∈ l) : index M (.ref p) (st q) = some (.int (l.idxOf q)) := by
  have := sts_get l 0 hq
  rw [← range0, Nat.zero_add] at this
  simp only [index, h, dkeys, keyOk, keyT_st, if_true]
  exact this
theorem Seen.put (h : Seen M p l) (hq : q ∉ l) (hz : l.length < SZ) (hm : mk ≤ p) : PL.put mk M (.ref p) (st q) (.int l.length) = some (M.set p (.dct true ((l ++ [q]).map st) (nums (l ++ [q]).length))) := by
  have hnew : ((l.map st).any fun k => decide (k = st q)) = false := by
    rw [List.any_eq_false]
    intro y hy e
    obtain ⟨z, hz, rfl⟩ := List.mem_map.mp hy
    have := st_inj (of_decide_eq_true e)
    subst this
    exact hq hz
  simp only [PL.put, h, keyOk, keyT_st, if_true, List.length_map, decide_eq_true hz, wOk, decide_eq_true hm, Bool.true_or, Bool.and_self, dputV, hnew, Bool.false_eq_true, if_false]
  congr 2
  rw [List.map_append, List.length_append, List.length_singleton, nums, nums, List.range_succ, List.map_append]
  rfl
theorem Seen.list (h : Seen M p l) : prim M .list [.ref p] = .ok (.ref M.length) (M ++ [.lst (l.map st)]) := by
  simp only [prim, prim1, pList, items, h, alloc]
theorem Seen.app (h : Seen M p l) (N : Mem) : Seen (M ++ N) p l := by
  unfold Seen
  rw [List.getElem?_append_left (List.getElem?_eq_some_iff.mp h).1]; exact h
theorem Seen.recv (h : Seen M p l) {m : Mt} (hm : hasM m .dict = true) : recvOk M m (.ref p) = true := by
  simp only [recvOk, tyR, h]; exact hm
end
/-! ### reprs -/
theorem wts_le {c : Nat} : ∀ {xs : List V}, (∀ x ∈ xs, wt x ≤ c) → wts xs ≤ xs.length * (c + 4)
  | [], _ => by simp [wts]
  | x :: xs, h => by
    have h1 := h x (List.mem_cons_self ..)
    have h2 := wts_le fun y hy => h y (List.mem_cons_of_mem _ hy)
    simp only [wts, List.length_cons, Nat.add_mul]
    omega
theorem shws_all : ∀ {xs : List V}, (∀ x ∈ xs, shw x = true) → shws xs = true
  | [], _ => rfl
  | x :: xs, h => by simp only [shws, h x (List.mem_cons_self ..), shws_all fun y hy => h y (List.mem_cons_of_mem _ hy), Bool.and_self]
theorem small_shw {i : Int} (h : i.natAbs < 1000) : shw (.int i) = true := by
  simp only [shw]
  exact decide_eq_true (Nat.lt_of_lt_of_le h (by decide +kernel))
theorem st_wt (s : List Int) : wt (st s) = s.length * 1908 + 4 := by
  have : ∀ s : List Int, wts (s.map V.int) = s.length * 1908 := fun s => by
    induction s with
    | nil => rfl
    | cons x s ih => simp only [List.map_cons, wts, wt, ih, List.length_cons]; omega
  simp only [wt, this]
abbrev tabv (T : List (List Int)) : V := .tup (T.map st)
theorem tab_show {k : Nat} {T : List (List Int)} (hT : TOk k T) (hk : k < 5) : shw (tabv T) = true ∧ wt (tabv T) ≤ 500000 := by
  have small := (wl_small k hk).1
  refine ⟨?_, ?_⟩
  · simp only [shw]
    refine shws_all fun x hx => ?_
    obtain ⟨e, he, rfl⟩ := List.mem_map.mp hx
    simp only [shw]
    refine shws_all fun y hy => ?_
    obtain ⟨i, hi, rfl⟩ := List.mem_map.mp hy
    refine small_shw ?_
    obtain ⟨j, hj, rfl⟩ := List.mem_iff_getElem.mp he
    have hj' : j < (wl k).length := by rw [← hT.len]; exact hj
    obtain ⟨_, N, h1, h2⟩ := hT.ent j hj'
    rw [at_get hj] at h2
    obtain ⟨_, N', hc, hN⟩ := wl_canon k _ (at_mem hj')
    have := h1.uniq hc
    have := h2.rng i hi
    omega
  · have h1 := wts_le (xs := T.map st) (c := 9544) fun x hx => by
      obtain ⟨e, he, rfl⟩ := List.mem_map.mp hx
      rw [st_wt, hT.elen he]
      omega
    rw [List.length_map, hT.len] at h1
    have h2 : (wl k).length * (9544 + 4) ≤ 52 * (9544 + 4) := Nat.mul_le_mul small (Nat.le_refl _)
    simp only [wt]
    omega
theorem tab_repr {k : Nat} {T : List (List Int)} {M : Mem} (hT : TOk k T) (hk : k < 5) : prim M .repr [tabv T] = .ok (.rep (tabv T)) M := by
  obtain ⟨h1, h2⟩ := tab_show hT hk
  have hp : pd 2 (tabv T) := pd_sts
  show pRepr M _ = _
  have hr : rd M RDN (tabv T) = some (tabv T) := (reads_pd (hp.mono (by omega))).1
  simp only [pRepr, hr, hp.2.1, h1, decide_eq_true (show wt (tabv T) ≤ SZ by unfold SZ; omega), decide_eq_true (show dep (tabv T) ≤ 60 by have := hp.2.2; omega), Bool.true_or, Bool.and_self, if_true]
theorem rep_eq {M : Mem} {d : V} : cmpop M .eq (.rep d) (.rep d) = some true := by simp [cmpop, eqM]
theorem sm_tab {k : Nat} {T : List (List Int)} (h : TOk k T) (hk : k < 5) : sm (tabv T) = true := by
  have small := (wl_small k hk).1
  simp only [sm, Bool.and_eq_true, decide_eq_true_eq]
  refine ⟨by rw [List.length_map, h.len]; unfold SZ; omega, ?_⟩
  refine sms_all.mpr fun x hx => ?_
  obtain ⟨e, he, rfl⟩ := List.mem_map.mp hx
  exact sm_st (by rw [h.elen he]; omega)
theorem dep_tab (T : List (List Int)) : dep (tabv T) ≤ 2 := (pd_sts (n := 0) (T := T)).2.2
end PL.LB

namespace PL.K13
open PL.LB
structure Has (D : String → Option Def) : Prop where
  draw : D "_law_draw" = some LB.d__law_draw
  pick : D "_law_pick" = some LB.d__law_pick
  order : D "_law_order" = some LB.d__law_order
  same : D "_law_same" = some LB.d__law_same
  world : D "_law_world" = some LB.d__law_world
  things : D "_law_things" = some LB.d__law_things
  copied : D "_law_copied" = some LB.d__law_copied
  copies : D "_law_copies" = some LB.d__law_copies
  first : D "_law_first" = some LB.d__law_first
  behind : D "_law_behind" = some LB.d__law_behind
  put : D "_law_put" = some LB.d__law_put
  done : D "_law_done" = some LB.d__law_done
  deed_table : D "_law_deed_table" = some LB.d__law_deed_table
  level : D "_law_level" = some LB.d__law_level
  full : D "_law_full" = some LB.d__law_full
  deed : D "_law_deed" = some LB.d__law_deed
  entry : D "_law_entry" = some LB.d__law_entry
  laid : D "_law_laid" = some LB.d__law_laid
  level_moved : D "_law_level_moved" = some LB.d__law_level_moved
  called : D "_law_called" = some LB.d__law_called
  some_table : D "_law_some_table" = some LB.d__law_some_table
  bag : D "_law_own_bag" = some LB.d__law_own_bag
  many : D "many_things" = some LB.d_many_things
  patterns : D "patterns_of" = some LB.d_patterns_of
  still : D "still" = some LB.d_still
  integer : D "is_integer" = some d_is_integer
  is_entry : D "is_entry" = some d_is_entry
  error : D "table_error" = some d_table_error
  lentry : D "_law_is_entry" = some d__law_is_entry
  due : D "_law_due" = some d__law_due
  odd : D "_law_odd_items" = some d__law_odd_items
  told : D "_law_is_told" = some d__law_is_told
  wholes : D "_law_are_wholes_right" = some d__law_are_wholes_right
  law : D "law" = some d_law
theorem Has.t {D : String → Option Def} (h : Has D) : HasT D := ⟨h.draw, h.pick, h.order, h.things, h.copied, h.copies, h.first, h.behind, h.put, h.done, h.deed_table, h.level, h.full, h.deed, h.entry, h.laid, h.level_moved, h.called, h.some_table⟩
/-! ### plain: what entries are -/
/-- the numbers of a row, in 0 .. N - 1 -/
def inR (N : Nat) : V → Bool
  | .int i => decide (0 ≤ i) && decide (i < N)
  | _ => false
def entryF (q : List Int) (v : V) : Bool :=
  match v with
  | .tup xs => decide (xs.length = q.length) && xs.all (inR (mx q + 1).toNat) && (List.range (mx q + 1).toNat).all fun k : Nat => decide (V.int (k : Int) ∈ xs)
  | _ => false
def dueL : List (List Int) → List V → Nat → V
  | q :: qs, v :: vs, i => if entryF q v = true then dueL qs vs (i + 1) else .tup [.str (cs "entry"), .int i]
  | _, _, _ => .non
def dueF (k : Nat) (v : V) : V :=
  match v with
  | .tup xs => if xs.length = (wl k).length then dueL (wl k) xs 0 else .str (cs "form")
  | _ => .str (cs "form")
theorem dueL_kind : ∀ (qs : List (List Int)) (vs : List V) (i : Nat), dueL qs vs i = .non ∨ ∃ j : Nat, dueL qs vs i = .tup [.str (cs "entry"), .int (j : Int)]
  | [], _, _ => .inl (by simp [dueL])
  | _ :: _, [], _ => .inl (by simp [dueL])
  | q :: qs, v :: vs, i => by
    simp only [dueL]
    split
    · exact dueL_kind qs vs (i + 1)
    · exact .inr ⟨i, rfl⟩
theorem dueF_kind (k : Nat) (v : V) : dueF k v = .non ∨ dueF k v = .str (cs "form") ∨ ∃ j : Nat, dueF k v = .tup [.str (cs "entry"), .int (j : Int)] := by
  cases v with
  | tup xs =>
    simp only [dueF]
    split
    · exact (dueL_kind _ _ _).imp id .inr
    · exact .inr (.inl rfl)
  | _ => exact .inr (.inl rfl)
theorem cs_ok (s : List Nat) (h : s = cs "form" ∨ s = cs "entry") : (s.all fun c => decide (c < 1114112)) = true := by
  rcases h with rfl | rfl <;> decide +kernel
theorem due_sm (k : Nat) (v : V) : sm (dueF k v) = true ∧ dep (dueF k v) ≤ 1 ∧ plain (dueF k v) = true := by
  rcases dueF_kind k v with e | e | ⟨j, e⟩ <;> rw [e]
  · exact ⟨rfl, Nat.zero_le _, rfl⟩
  · exact ⟨cs_ok _ (.inl rfl), Nat.zero_le _, by simp only [plain]; exact cs_ok _ (.inl rfl)⟩
  · refine ⟨?_, by simp [dep, deps], ?_⟩
    · simp only [sm, sms, cs_ok _ (.inr rfl), Bool.and_true]
      exact decide_eq_true (by unfold SZ; simp)
    · simp only [plain, plains, cs_ok _ (.inr rfl), Bool.and_self]
/-- a datum that is handed about: nobody's to change, its repr is told -/
structure Dv (w : Nat) (v : V) : Prop where
  nr : noref v = true
  sp : shp v = true
  sw : shw v = true
  dp : dep v ≤ 10
  wt : wt v ≤ w
theorem Dv.ty {w : Nat} {v : V} (h : Dv w v) (M : Mem) : tyOk M v = true := by
  have h1 := h.nr
  have h2 := h.sp
  cases v with
  | ref i => simp [noref] at h1
  | fd ks vs =>
    cases ks with
    | nil => rfl
    | cons k ks =>
      simp only [shp, List.all_cons, Bool.and_eq_true] at h2
      have := h2.1.1.1
      cases k <;> simp [keyish] at this <;> rfl
  | _ => rfl
theorem Dv.mono {w w' : Nat} {v : V} (h : Dv w v) (l : w ≤ w') : Dv w' v := ⟨h.nr, h.sp, h.sw, h.dp, Nat.le_trans h.wt l⟩
theorem shps_all : ∀ {xs : List V}, (∀ x ∈ xs, shp x = true) → shps xs = true
  | [], _ => rfl
  | x :: xs, h => by simp only [shps, h x (List.mem_cons_self ..), shps_all fun y hy => h y (List.mem_cons_of_mem _ hy), Bool.and_self]
theorem deps_le {n : Nat} : ∀ {xs : List V}, (∀ x ∈ xs, dep x ≤ n) → deps xs ≤ n
  | [], _ => Nat.zero_le _
  | x :: xs, h => by
    simp only [deps]
    exact Nat.max_le.mpr ⟨h x (List.mem_cons_self ..), deps_le fun y hy => h y (List.mem_cons_of_mem _ hy)⟩
/-- the repr of a tuple of such -/
theorem tup_repr {w : Nat} {xs : List V} {M : Mem} (h : ∀ x ∈ xs, Dv w x) (hz : xs.length * (w + 4) + 4 ≤ SZ) : prim M .repr [.tup xs] = .ok (.rep (.tup xs)) M := by
  have h1 : norefs xs = true := norefs_all fun x hx => (h x hx).nr
  have hr : rd M RDN (.tup xs) = some (.tup xs) := rd_noref (by simp only [noref]; exact h1)
  have h2 : shp (.tup xs) = true := by simp only [shp]; exact shps_all fun x hx => (h x hx).sp
  have h3 : shw (.tup xs) = true := by simp only [shw]; exact shws_all fun x hx => (h x hx).sw
  have h4 := wts_le fun x hx => (h x hx).wt
  have h5 : dep (.tup xs) ≤ 60 := by simp only [dep]; have := deps_le fun x hx => (h x hx).dp; omega
  show pRepr M _ = _
  simp only [pRepr, hr, h2, h3, Bool.or_true, decide_eq_true (show PL.wt (.tup xs) ≤ SZ by simp only [PL.wt]; omega), decide_eq_true h5, Bool.and_self, if_true]
theorem isint {M : Mem} {v : V} {q : Bool} (h : (match v with | .int _ => true | _ => false) = q) (hnr : noref v = true) : (isTy M v .int && !isTy M v .bool) = q := by
  cases v <;> simp [noref] at hnr <;> simp [isTy] <;> simpa using h
/-- all of them numbers -/
theorem ints_of : ∀ {xs : List V}, (xs.all isI) = true → ∃ is : List Int, xs = is.map .int
  | [], _ => ⟨[], rfl⟩
  | x :: xs, h => by
    rw [List.all_cons, Bool.and_eq_true] at h
    obtain ⟨is, rfl⟩ := ints_of h.2
    cases x with
    | int i => exact ⟨i :: is, rfl⟩
    | _ => simp [isI] at h
theorem inR_isI {N : Nat} {xs : List V} (h : xs.all (inR N) = true) : xs.all isI = true := by
  rw [List.all_eq_true] at h ⊢
  intro x hx
  have := h x hx
  cases x <;> simp [inR] at this <;> rfl
theorem eqVs_ints : ∀ (a b : List Int), eqVs (a.map .int) (b.map .int) = decide (a = b)
  | [], [] => by simp [eqVs]
  | [], _ :: _ => by simp [eqVs]
  | _ :: _, [] => by simp [eqVs]
  | x :: a, y :: b => by
    simp only [List.map_cons, eqVs, eqV, eqVs_ints a b]
    by_cases h : x = y
    · subst h; simp
    · simp [h]
theorem mem_ints {i : Int} {is : List Int} : V.int i ∈ is.map V.int ↔ i ∈ is := by
  rw [List.mem_map]
  constructor
  · rintro ⟨j, hj, e⟩; cases e; exact hj
  · intro h; exact ⟨i, h, rfl⟩
/-- sorted, each once: just the numbers 0 .. N - 1 -/
theorem sort_range (is : List Int) (N : Nat) : decide (sortI (dedup is) = (List.range N).map fun k : Nat => (k : Int)) = ((is.map V.int).all (inR N) && (List.range N).all fun k : Nat => decide (V.int (k : Int) ∈ is.map V.int)) := by
  rw [Bool.eq_iff_iff, decide_eq_true_eq, Bool.and_eq_true, List.all_eq_true, List.all_eq_true]
  have hup : ((List.range N).map fun k : Nat => (k : Int)).Pairwise (· < ·) := List.pairwise_map.mpr (List.Pairwise.imp (fun {a b} h => by omega) List.pairwise_lt_range)
  constructor
  · intro e
    refine ⟨fun x hx => ?_, fun k hk => ?_⟩
    · obtain ⟨i, hi, rfl⟩ := List.mem_map.mp hx
      have : i ∈ sortI (dedup is) := mem_sortI.mpr (mem_dedup.mpr hi)
      rw [e] at this
      obtain ⟨k, hk, rfl⟩ := List.mem_map.mp this
      have := List.mem_range.mp hk
      simp only [inR, Bool.and_eq_true, decide_eq_true_eq]
      omega
    · have : (k : Int) ∈ sortI (dedup is) := by rw [e]; exact List.mem_map.mpr ⟨k, hk, rfl⟩
      exact decide_eq_true (mem_ints.mpr (mem_dedup.mp (mem_sortI.mp this)))
  · rintro ⟨h1, h2⟩
    refine up_ext (up_sortI nodup_dedup) hup fun x => ?_
    rw [mem_sortI, mem_dedup]
    constructor
    · intro hx
      have := h1 _ (List.mem_map.mpr ⟨x, hx, rfl⟩)
      simp only [inR, Bool.and_eq_true, decide_eq_true_eq] at this
      exact List.mem_map.mpr ⟨x.toNat, List.mem_range.mpr (by omega), by omega⟩
    · intro hx
      obtain ⟨k, hk, rfl⟩ := List.mem_map.mp hx
      exact mem_ints.mp (of_decide_eq_true (h2 k hk))
section
variable {D : String → Option Def} (hD : Has D)
include hD
theorem integer_run (n mk : Nat) (M : Mem) {w : Nat} {v : V} (h : Dv w v) : callN D (n + 1) mk "is_integer" [v] M = .ok (.bl (isI v)) M := by
  have hi : (isTy M v .int && !isTy M v .bool) = isI v := by
    have := h.nr
    cases v <;> simp [noref] at this <;> rfl
  cases e : isTy M v .int with
  | true =>
    rw [e, Bool.true_and] at hi
    rw [← hi]
    apply call_rt (d := d_is_integer) hD.integer rfl rfl
    apply xss_rt
    apply xs_ret
    apply ev_bop
    apply evb_cons (q := true)
    exact ev_isi (ev_var rfl) (h.ty _) e
    refine (if_pos rfl).trans ?_
    apply evb_one
    apply ev_not (j := isTy M v .bool)
    exact ev_isi (ev_var rfl) (h.ty _) rfl
    exact frz_bl
    simp
  | false =>
    rw [e, Bool.false_and] at hi
    rw [← hi]
    apply call_rt (d := d_is_integer) hD.integer rfl rfl
    apply xss_rt
    apply xs_ret
    apply ev_bop
    apply evb_cons (q := false)
    exact ev_isi (ev_var rfl) (h.ty _) e
    exact if_neg (by decide)
    exact frz_bl
    simp
end
end PL.K13

namespace PL.K13
open PL.LB
theorem tup_len {M : Mem} {xs : List V} : prim M .len [.tup xs] = .ok (.int xs.length) M := len_items rfl
theorem not_tup {v : V} {M : Mem} (h : ∀ xs, v ≠ .tup xs) (hc : ∀ xs, v ≠ .ct xs) : isTy M v .tuple = false := by
  cases v <;> first | rfl | exact absurd rfl (h _) | exact absurd rfl (hc _)
theorem Dv.nct {w : Nat} {v : V} (h : Dv w v) : ∀ xs, v ≠ .ct xs := fun xs e => by
  have := h.sp
  rw [e] at this
  simp [shp] at this
/-- the head of all these functions: no tuple, or another length: the value x -/
theorem head_run {P : String → Option (List String)} {C : Orc} {mk : Nat} {M : Mem} {σ : Env} {i : Nat} {v x : V} {w L : Nat} {e2 : E} {rest : Ss} {O : Rs} (hi : lk σ i = some v) (hv : tyOk M v = true) (hc : ∀ xs, v ≠ .ct xs) (h2 : ev P C mk (.pr .len (.cons e2 .nil)) σ M = .ok (.int (L : Int)) M)
    (hO : ∀ xs, v = .tup xs → xs.length = L → xss P C mk rest σ M = O) (hx : (∀ xs, v = .tup xs → xs.length ≠ L) → O = .rt x M) :
    xss P C mk (.cons (.iff (.bop false (.cons (.not (.isi (.var i) .tuple)) (.cons (.cmp .ne (.pr .len (.cons (.var i) .nil)) (.pr .len (.cons e2 .nil))) .nil))) (.cons (.ret (.cst x)) .nil) .nil) rest) σ M = O := by
  by_cases ht : ∃ xs, v = .tup xs
  · obtain ⟨xs, rfl⟩ := ht
    have hb : ev P C mk (.bop false (.cons (.not (.isi (.var i) .tuple)) (.cons (.cmp .ne (.pr .len (.cons (.var i) .nil)) (.pr .len (.cons e2 .nil))) .nil))) σ M = .ok (.bl ((xs.length : Int) != (L : Int))) M := by
      apply ev_bop
      apply evb_cons (q := false)
      apply ev_not (j := true)
      exact ev_isi (ev_var hi) hv rfl
      refine (if_pos rfl).trans ?_
      apply evb_one
      exact ev_cmp (ev_pr (evs_cons (ev_var hi) evs_nil) tup_len) h2 ne_int
    by_cases hl : xs.length = L
    · apply xss_nx
      apply xs_iff
      exact hb
      rw [hl, bne_self_eq_false]
      refine (if_neg (by decide)).trans ?_
      exact xss_nil
      exact hO xs rfl hl
    · rw [hx fun ys e => by cases e; exact hl]
      apply xss_rt
      apply xs_iff
      exact hb
      have : ((xs.length : Int) != (L : Int)) = true := by rw [bne_iff_ne]; omega
      rw [this]
      refine (if_pos rfl).trans ?_
      apply xss_rt
      exact xs_ret ev_cst
  · have hn : ∀ xs, v ≠ .tup xs := fun xs e => ht ⟨xs, e⟩
    rw [hx fun ys e => absurd e (hn ys)]
    apply xss_rt
    apply xs_iff (q := true)
    apply ev_bop
    apply evb_cons (q := true)
    apply ev_not (j := false)
    exact ev_isi (ev_var hi) hv (not_tup hn hc)
    exact if_neg (by decide)
    refine (if_pos rfl).trans ?_
    apply xss_rt
    exact xs_ret ev_cst
section
variable {D : String → Option Def} (hD : Has D)
include hD
theorem entry_run (n mk : Nat) (M : Mem) {k w : Nat} {q : List Int} {v : V} (hq : q ∈ wl k) (hk : k < 5) (hv : Dv w v) (hit : ∀ xs, v = .tup xs → ∀ x ∈ xs, Dv w x) :
    callN D (n + 2) mk "is_entry" [st q, v] M = .ok (.bl (entryF q v)) M := by
  obtain ⟨lq, N, hc, hN⟩ := wl_canon k q hq
  have hmx := hc.mx
  have hmr := many_run hD.many n M.length M hc.ne
  have hNe : (mx q + 1).toNat = N := by omega
  have hql : ∀ {C : Orc} {mk : Nat} {σ : Env}, lk σ 0 = some (st q) → ev (parsOf D) C mk (.pr .len (.cons (.var 0) .nil)) σ M = .ok (.int (q.length : Int)) M := fun {C mk σ} h => (ev_pr (evs_cons (ev_var h) evs_nil) tup_len).trans (by rw [List.length_map])
  by_cases hok : ∃ xs, v = .tup xs ∧ xs.length = q.length
  · obtain ⟨xs, rfl, hl⟩ := hok
    have hz : xs.length ≤ 5 := by omega
    have c1 := fun M => compL_enc (w := []) (t := .nm 3) (c := fun σ' M' => evc (parsOf D) (callN D (n + 1)) M.length .none σ' M') (e := fun σ' M' => ev (parsOf D) (callN D (n + 1)) M.length (.bop true (.cons (.fn "is_integer" (.cons (.var 3) .nil)) (.cons (.chn .le .lt (.cst (.int 0)) (.var 3) (.var 2)) .nil))) σ' M')
      (σ := [some (st q), some (.tup xs), some (.int (mx q + 1)), none]) (M := M) (fun x : V => x) (fun _ => true) (fun x => .bl (inR N x)) xs []
      (fun _ => rfl) (fun x hx => ⟨[some (st q), some (.tup xs), some (.int (mx q + 1)), some x], rfl, fun acc => ⟨evc_none, fun _ => by
        have hdx := hit xs rfl x hx
        have hir := fun mk M => integer_run hD n mk M hdx
        apply ev_bop
        cases hxi : isI x with
        | false =>
          have : inR N x = false := by cases x <;> first | rfl | simp [isI] at hxi
          rw [this]
          rw [hxi] at hir
          apply evb_cons (q := false)
          exact ev_fn (evs_cons (ev_var rfl) evs_nil) (hir _ _)
          exact if_neg (by decide)
        | true =>
          rw [hxi] at hir
          obtain ⟨i, rfl⟩ : ∃ i, x = .int i := by cases x <;> simp [isI] at hxi; exact ⟨_, rfl⟩
          apply evb_cons (q := true)
          exact ev_fn (evs_cons (ev_var rfl) evs_nil) (hir _ _)
          refine (if_pos rfl).trans ?_
          apply evb_one
          simp only [inR]
          by_cases h0 : 0 ≤ i
          · rw [decide_eq_true h0, Bool.true_and]
            refine ev_chnT ev_cst (ev_var rfl) ?_ (ev_var rfl) ?_
            · simp only [cmpop, leV]; exact congrArg some (decide_eq_true h0)
            · simp only [cmpop, ltV]
              refine congrArg some (decide_eq_decide.mpr ?_)
              omega
          · rw [decide_eq_false h0, Bool.false_and]
            refine ev_chnF ev_cst (ev_var rfl) ?_
            simp only [cmpop, leV]; exact congrArg some (decide_eq_false h0)⟩⟩) (by unfold SZ; simp; omega)
    have c1 := fun M => (c1 M)
    simp only [List.map_id', filter_true, List.nil_append] at c1
    have hall : ∀ (M : Mem), ev (parsOf D) (callN D (n + 1)) M.length (.pr .all (.cons (.comp (.nm 3) (.of (.var 1)) .none (.bop true (.cons (.fn "is_integer" (.cons (.var 3) .nil)) (.cons (.chn .le .lt (.cst (.int 0)) (.var 3) (.var 2)) .nil)))) .nil)) [some (st q), some (.tup xs), some (.int (mx q + 1)), none] M = .ok (.bl (xs.all (inR N))) (M ++ [.lst (xs.map fun x => .bl (inR N x))]) := fun M => by
      apply ev_pr
      apply evs_cons
      apply ev_comp
      apply evi_of
      exact ev_var rfl
      exact srcOf_tup
      exact c1 M
      exact evs_nil
      exact all_bls
    cases ha : xs.all (inR N) with
    | false =>
      have e : entryF q (.tup xs) = false := by simp only [entryF, hNe, ha, Bool.and_false, Bool.false_and]
      rw [e]
      have hall := hall M
      rw [ha] at hall
      apply call_rt (d := d_is_entry) hD.is_entry rfl rfl
      apply head_run (w := w) (L := q.length) rfl (hv.ty _) hv.nct (hql rfl)
      intro ys _ _
      apply xss_nx
      apply xs_set
      exact ev_fn (evs_cons (ev_var rfl) evs_nil) hmr
      exact asgM_nm
      apply xss_rt
      apply xs_iff (q := true)
      exact ev_not (j := false) hall
      refine (if_pos rfl).trans ?_
      apply xss_rt
      exact xs_ret ev_cst
      intro z
      exact absurd hl (z xs rfl)
      exact frz_bl
      simp
    | true =>
      obtain ⟨is, rfl⟩ := ints_of (inR_isI ha)
      have e : entryF q (.tup (is.map .int)) = (List.range N).all fun k : Nat => decide (V.int (k : Int) ∈ is.map V.int) := by simp only [entryF, hNe, ha, hl, decide_true, Bool.true_and]
      rw [e]
      have hall := hall M
      rw [ha] at hall
      have c2 := fun M => compL_enc (w := []) (t := .nm 3) (c := fun σ' M' => evc (parsOf D) (callN D (n + 1)) M.length .none σ' M') (e := fun σ' M' => ev (parsOf D) (callN D (n + 1)) M.length (.cmp .isin (.var 3) (.var 1)) σ' M')
        (σ := [some (st q), some (st is), some (.int (mx q + 1)), none]) (M := M) (fun k : Nat => V.int (k : Int)) (fun _ => true) (fun k => .bl (decide (V.int (k : Int) ∈ is.map V.int))) (List.range N) []
        (fun _ => rfl) (fun x hx => ⟨[some (st q), some (st is), some (.int (mx q + 1)), some (.int (x : Int))], rfl, fun acc => ⟨evc_none, fun _ => by
          refine ev_cmp (ev_var rfl) (ev_var rfl) (in_tup.trans (congrArg some ?_))
          rw [Bool.eq_iff_iff, List.contains_iff_mem, decide_eq_true_eq, mem_ints]⟩⟩) (by unfold SZ; simp; omega)
      simp only [filter_true, List.nil_append] at c2
      apply call_rt (d := d_is_entry) hD.is_entry rfl rfl
      apply head_run (w := w) (L := q.length) rfl (hv.ty _) hv.nct (hql rfl)
      intro ys _ _
      apply xss_nx
      apply xs_set
      exact ev_fn (evs_cons (ev_var rfl) evs_nil) hmr
      exact asgM_nm
      apply xss_nx
      apply xs_iff (q := false)
      exact ev_not (j := true) hall
      refine (if_neg (by decide)).trans ?_
      exact xss_nil
      apply xss_rt
      apply xs_ret
      apply ev_pr
      apply evs_cons
      apply ev_comp
      apply evi_rng1 (k := (N : Int))
      refine (ev_var (v := .int (mx q + 1)) rfl).trans ?_
      rw [show mx q + 1 = (N : Int) by omega]
      exact rOk_nat (by omega)
      rw [ranged0]
      exact c2 _
      exact evs_nil
      exact all_bls
      intro z
      exact absurd hl (z _ rfl)
      exact frz_bl
      rw [List.append_assoc]; exact take_app
  · have hno : ∀ xs, v = .tup xs → xs.length ≠ q.length := fun xs e h => hok ⟨xs, e, h⟩
    have e : entryF q v = false := by
      cases v with
      | tup xs => simp only [entryF, decide_eq_false (hno xs rfl), Bool.false_and]
      | _ => rfl
    rw [e]
    apply call_rt (d := d_is_entry) hD.is_entry rfl rfl
    apply head_run (w := w) (L := q.length) rfl (hv.ty _) hv.nct (hql rfl)
    intro ys e2 h2
    exact absurd h2 (hno ys e2)
    intro _
    rfl
    exact frz_bl
    simp
end
end PL.K13

namespace PL.K13
open PL.LB
section
variable {D : String → Option Def} (hD : Has D)
include hD
theorem lentry_run (n mk : Nat) (M : Mem) {k w : Nat} {q : List Int} {v : V} (hq : q ∈ wl k) (hk : k < 5) (hv : Dv w v) (hit : ∀ xs, v = .tup xs → ∀ x ∈ xs, Dv w x) :
    callN D (n + 1) mk "_law_is_entry" [st q, v] M = .ok (.bl (entryF q v)) M := by
  obtain ⟨lq, N, hc, hN⟩ := wl_canon k q hq
  have hmx := hc.mx
  have hNe : (mx q + 1).toNat = N := by omega
  have hql : ∀ {C : Orc} {mk : Nat} {σ : Env}, lk σ 0 = some (st q) → ev (parsOf D) C mk (.pr .len (.cons (.var 0) .nil)) σ M = .ok (.int (q.length : Int)) M := fun {C mk σ} h => (ev_pr (evs_cons (ev_var h) evs_nil) tup_len).trans (by rw [List.length_map])
  by_cases hok : ∃ xs, v = .tup xs ∧ xs.length = q.length
  · obtain ⟨xs, rfl, hl⟩ := hok
    have hz : xs.length ≤ 5 := by omega
    have c1 := fun M => compL_enc (w := []) (t := .nm 2) (c := fun σ' M' => evc (parsOf D) (callN D n) M.length .none σ' M') (e := fun σ' M' => ev (parsOf D) (callN D n) M.length (.bop true (.cons (.isi (.var 2) .int) (.cons (.not (.isi (.var 2) .bool)) .nil))) σ' M')
      (σ := [some (st q), some (.tup xs), none]) (M := M) (fun x : V => x) (fun _ => true) (fun x => .bl (isI x)) xs []
      (fun _ => rfl) (fun x hx => ⟨[some (st q), some (.tup xs), some x], rfl, fun acc => ⟨evc_none, fun _ => by
        have hdx := hit xs rfl x hx
        have hi : ∀ M, (isTy M x .int && !isTy M x .bool) = isI x := fun M => by
          have := hdx.nr
          cases x <;> simp [noref] at this <;> rfl
        apply ev_bop
        have hi := hi (M ++ [.lst acc])
        cases e : isTy (M ++ [.lst acc]) x .int with
        | true =>
          rw [e, Bool.true_and] at hi
          rw [← hi]
          apply evb_cons (q := true)
          exact ev_isi (ev_var rfl) (hdx.ty _) e
          refine (if_pos rfl).trans ?_
          apply evb_one
          apply ev_not (j := isTy (M ++ [.lst acc]) x .bool)
          exact ev_isi (ev_var rfl) (hdx.ty _) rfl
        | false =>
          rw [e, Bool.false_and] at hi
          rw [← hi]
          apply evb_cons (q := false)
          exact ev_isi (ev_var rfl) (hdx.ty _) e
          exact if_neg (by decide)⟩⟩) (by unfold SZ; simp; omega)
    simp only [List.map_id', filter_true, List.nil_append] at c1
    have hall : ∀ (M : Mem), ev (parsOf D) (callN D n) M.length (.pr .all (.cons (.comp (.nm 2) (.of (.var 1)) .none (.bop true (.cons (.isi (.var 2) .int) (.cons (.not (.isi (.var 2) .bool)) .nil)))) .nil)) [some (st q), some (.tup xs), none] M = .ok (.bl (xs.all isI)) (M ++ [.lst (xs.map fun x => .bl (isI x))]) := fun M => by
      apply ev_pr
      apply evs_cons
      apply ev_comp
      apply evi_of
      exact ev_var rfl
      exact srcOf_tup
      exact c1 M
      exact evs_nil
      exact all_bls
    have hall := hall M
    cases ha : xs.all isI with
    | false =>
      have e : entryF q (.tup xs) = false := by
        have : xs.all (inR N) = false := by
          cases h : xs.all (inR N) with
          | false => rfl
          | true => rw [inR_isI h] at ha; cases ha
        simp only [entryF, hNe, this, Bool.and_false, Bool.false_and]
      rw [e]
      rw [ha] at hall
      apply call_rt (d := d__law_is_entry) hD.lentry rfl rfl
      apply head_run (w := w) (L := q.length) rfl (hv.ty _) hv.nct (hql rfl)
      intro ys _ _
      apply xss_rt
      apply xs_iff (q := true)
      exact ev_not (j := false) hall
      refine (if_pos rfl).trans ?_
      apply xss_rt
      exact xs_ret ev_cst
      intro z
      exact absurd hl (z xs rfl)
      exact frz_bl
      simp
    | true =>
      obtain ⟨is, rfl⟩ := ints_of ha
      have e : entryF q (.tup (is.map .int)) = decide (sortI (dedup is) = (List.range N).map fun k : Nat => (k : Int)) := by
        rw [sort_range]
        simp only [entryF, hNe, hl, decide_true, Bool.true_and]
      rw [e]
      rw [ha] at hall
      have lis : is.length < 64 := by rw [List.length_map] at hz; omega
      have hrng : ∀ Mx : Mem, ev (parsOf D) (callN D n) M.length (.lrng (.cst (.int 0)) (.bin .add (.pr .max (.cons (.var 0) .nil)) (.cst (.int 1)))) [some (st q), some (st is), none] Mx = .ok (.ref Mx.length) (Mx ++ [.lst (((List.range N).map fun k : Nat => (k : Int)).map .int)]) := fun Mx => by
        have e1 : ev (parsOf D) (callN D n) M.length (.bin .add (.pr .max (.cons (.var 0) .nil)) (.cst (.int 1))) [some (st q), some (st is), none] Mx = .ok (.int (N : Int)) Mx := by
          refine (ev_bin (ev_pr (evs_cons (ev_var rfl) evs_nil) (max_st hc.ne)) ev_cst add_i).trans ?_
          rw [show mx q + 1 = (N : Int) by omega]
        refine (ev_lrng ev_cst e1 (lrng_ok (by omega))).trans ?_
        rw [ranged0, List.map_map]
        rfl
      apply call_rt (d := d__law_is_entry) hD.lentry rfl rfl
      apply head_run (w := w) (L := q.length) rfl (hv.ty _) hv.nct (hql rfl)
      intro ys _ _
      apply xss_nx
      apply xs_iff (q := false)
      exact ev_not (j := true) hall
      refine (if_neg (by decide)).trans ?_
      exact xss_nil
      apply xss_rt
      apply xs_ret
      apply ev_cmp (q := decide (sortI (dedup is) = (List.range N).map fun k : Nat => (k : Int)))
      apply ev_pr
      exact evs_cons (ev_var rfl) evs_nil
      show pSortedSet _ (.tup (is.map .int)) = _
      simp only [pSortedSet, ints_map, if_pos lis]
      rfl
      exact hrng _
      refine cmp_eq (a := .fl ((sortI (dedup is)).map .int)) (b := .fl (((List.range N).map fun k : Nat => (k : Int)).map .int)) (reads_ints ?_) (reads_ints ?_) ?_
      · rw [List.getElem?_append_left (by simp)]; exact at_end
      · exact at_end
      · simp only [eqV, eqVs_ints]
      intro z
      exact absurd hl (z _ rfl)
      exact frz_bl
      simp only [List.append_assoc]; exact take_app
  · have hno : ∀ xs, v = .tup xs → xs.length ≠ q.length := fun xs e h => hok ⟨xs, e, h⟩
    have e : entryF q v = false := by
      cases v with
      | tup xs => simp only [entryF, decide_eq_false (hno xs rfl), Bool.false_and]
      | _ => rfl
    rw [e]
    apply call_rt (d := d__law_is_entry) hD.lentry rfl rfl
    apply head_run (w := w) (L := q.length) rfl (hv.ty _) hv.nct (hql rfl)
    intro ys e2 h2
    exact absurd h2 (hno ys e2)
    intro _
    rfl
    exact frz_bl
    simp
omit hD in
theorem dueL_drop (k : Nat) {xs : List V} (hl : xs.length = (wl k).length) {i : Nat} (hi : i < (wl k).length) (v : V) (hv : xs[i]? = some v) :
    dueL ((wl k).drop i) (xs.drop i) i = if entryF (at_ (wl k) i) v = true then dueL ((wl k).drop (i + 1)) (xs.drop (i + 1)) (i + 1) else .tup [.str (cs "entry"), .int i] := by
  have h1 : (wl k).drop i = at_ (wl k) i :: (wl k).drop (i + 1) := by rw [at_get hi]; exact List.drop_eq_getElem_cons hi
  have h2 : xs.drop i = v :: xs.drop (i + 1) := by
    have hi' : i < xs.length := by omega
    rw [List.drop_eq_getElem_cons hi']
    rw [List.getElem?_eq_getElem hi'] at hv
    rw [Option.some.inj hv]
  rw [h1, h2]
  rfl
omit hD in
/-- a loop over all patterns that answers by the first odd entry -/
theorem pat_loop {C : Orc} {P : String → Option (List String)} {mk : Nat} {M : Mem} {k : Nat} {xs : List V} {b : Ss} {u v : Nat} {S : Env → Prop} (hl : xs.length = (wl k).length) {σ0 : Env} (h0 : S σ0)
    (hb : ∀ i σ y, S σ → i < (wl k).length → xs[i]? = some y → ∃ σ', asg (.tp (.cons (.nm u) (.cons (.nm v) .nil))) (.tup [.int (i : Int), st (at_ (wl k) i)]) σ = some σ' ∧
      (entryF (at_ (wl k) i) y = true → ∃ σ2, xss P C mk b σ' M = .nx σ2 M ∧ S σ2) ∧ (entryF (at_ (wl k) i) y = false → xss P C mk b σ' M = .rt (.tup [.str (cs "entry"), .int i]) M)) :
    (dueL (wl k) xs 0 = .non ∧ ∃ σ2, forL [] (.tp (.cons (.nm u) (.cons (.nm v) .nil))) (fun σ' M' => xss P C mk b σ' M') (enumed 0 ((wl k).map st)) σ0 M = .nx σ2 M ∧ S σ2) ∨
      ∃ x, x = dueL (wl k) xs 0 ∧ forL [] (.tp (.cons (.nm u) (.cons (.nm v) .nil))) (fun σ' M' => xss P C mk b σ' M') (enumed 0 ((wl k).map st)) σ0 M = .rt x M := by
  have key := forL_ret (w := []) (t := .tp (.cons (.nm u) (.cons (.nm v) .nil))) (b := fun σ' M' => xss P C mk b σ' M')
    (fun rest σ M' => M' = M ∧ S σ ∧ ∃ i, i ≤ (wl k).length ∧ rest = (((wl k).drop i).zipIdx i).map (fun q => V.tup [.int q.2, st q.1]) ∧ dueL (wl k) xs 0 = dueL ((wl k).drop i) (xs.drop i) i)
    (fun x M' => M' = M ∧ x = dueL (wl k) xs 0)
    (enumed 0 ((wl k).map st)) σ0 M ⟨rfl, h0, 0, Nat.zero_le _, by rw [enumed_map]; rfl, rfl⟩
    (fun _ _ _ _ => rfl)
    (by
      rintro x rest σ M' ⟨rfl, hS, i, hi, hx, hd⟩
      have hi' : i < (wl k).length := by
        rcases Nat.lt_or_ge i (wl k).length with c | c
        · exact c
        · rw [List.drop_eq_nil_of_le c] at hx; simp at hx
      have hdr : (wl k).drop i = at_ (wl k) i :: (wl k).drop (i + 1) := by rw [at_get hi']; exact List.drop_eq_getElem_cons hi'
      rw [hdr, List.zipIdx_cons, List.map_cons, List.cons.injEq] at hx
      obtain ⟨rfl, hrest⟩ := hx
      have hxi : i < xs.length := by omega
      obtain ⟨σ', e1, e2, e3⟩ := hb i σ xs[i] hS hi' (List.getElem?_eq_getElem hxi)
      have hdd := dueL_drop k hl hi' xs[i] (List.getElem?_eq_getElem hxi)
      refine ⟨σ', e1, ?_⟩
      cases he : entryF (at_ (wl k) i) xs[i] with
      | true =>
        obtain ⟨σ2, g1, g2⟩ := e2 he
        rw [he, if_pos rfl] at hdd
        exact .inl ⟨σ2, M', g1, rfl, g2, i + 1, hi', hrest, hd.trans hdd⟩
      | false =>
        rw [he] at hdd
        exact .inr ⟨_, M', e3 he, rfl, (hd.trans hdd).symm⟩)
  rcases key with ⟨σ2, M2, g1, rfl, g2, i, hi, hx, hd⟩ | ⟨x, M2, g1, rfl, g2⟩
  · refine .inl ⟨?_, σ2, g1, g2⟩
    have : (wl k).drop i = [] := by
      cases e : (wl k).drop i with
      | nil => rfl
      | cons a l => rw [e] at hx; simp at hx
    rw [hd, this]
    simp [dueL]
  · exact .inr ⟨x, g2, g1⟩
/-- what is handed to the functions that judge: no tuple, or a tuple of such data -/
structure Val (w : Nat) (M : Mem) (v : V) : Prop where
  ty : tyOk M v = true
  nct : ∀ xs, v ≠ .ct xs
  it : ∀ xs, v = .tup xs → ∀ x ∈ xs, Dv w x
  deep : ∀ xs, v = .tup xs → ∀ x ∈ xs, ∀ ys, x = .tup ys → ∀ y ∈ ys, Dv w y
omit hD in
theorem frz_due {M : Mem} {m k : Nat} {v : V} : frz M m RDN (dueF k v) = some (dueF k v) := frz_plain (due_sm k v).2.2
theorem error_run (n mk : Nat) (M : Mem) {k w : Nat} {v : V} (hk : k < 5) (hv : Val w M v) :
    callN D (n + 3) mk "table_error" [.int ((k + 1 : Nat) : Int), v] M = .ok (dueF k v) M := by
  have hpat := patterns_run hD.many hD.patterns n M.length M hk
  have hql : ∀ {C : Orc} {mk : Nat} {σ : Env}, lk σ 2 = some (tabv (wl k)) → ev (parsOf D) C mk (.pr .len (.cons (.var 2) .nil)) σ M = .ok (.int ((wl k).length : Int)) M := fun {C mk σ} h => (ev_pr (evs_cons (ev_var h) evs_nil) tup_len).trans (by rw [List.length_map])
  have pre : ∀ {O : Rs} {rest : Ss}, xss (parsOf D) (callN D (n + 2)) M.length rest [some (.int ((k + 1 : Nat) : Int)), some v, some (tabv (wl k)), none, none] M = O →
      xss (parsOf D) (callN D (n + 2)) M.length (.cons (.set (.nm 2) (.fn "patterns_of" (.cons (.var 0) .nil))) rest) (envOf d_table_error [.int ((k + 1 : Nat) : Int), v]) M = O := fun {O rest} h => by
    apply xss_nx
    apply xs_set
    exact ev_fn (evs_cons (ev_var rfl) evs_nil) hpat
    exact asgM_nm
    exact h
  by_cases hok : ∃ xs, v = .tup xs ∧ xs.length = (wl k).length
  · obtain ⟨xs, rfl, hl⟩ := hok
    have hdue : dueF k (.tup xs) = dueL (wl k) xs 0 := by simp only [dueF, if_pos hl]
    have hloop := pat_loop (C := callN D (n + 2)) (P := parsOf D) (mk := M.length) (M := M) (k := k) (xs := xs) (b := .cons (.iff (.not (.fn "is_entry" (.cons (.var 4) (.cons (.idx (.var 1) (.var 3)) .nil)))) (.cons (.ret (.tup (.cons (.cst (.str (cs "entry"))) (.cons (.var 3) .nil)))) .nil) .nil) .nil) (u := 3) (v := 4)
      (S := fun σ => ∃ x3 x4, σ = [some (.int ((k + 1 : Nat) : Int)), some (.tup xs), some (tabv (wl k)), x3, x4]) hl (σ0 := [some (.int ((k + 1 : Nat) : Int)), some (.tup xs), some (tabv (wl k)), none, none]) ⟨none, none, rfl⟩
      (by
        rintro i σ y ⟨x3, x4, rfl⟩ hi hy
        have hym : y ∈ xs := List.mem_of_getElem? hy
        have her := fun mk M => entry_run hD n mk M (at_mem hi) hk (hv.it xs rfl y hym) (hv.deep xs rfl y hym)
        have hidx : index M (.tup xs) (.int (i : Int)) = some y := Sq.tup.idx hy
        refine ⟨[some (.int ((k + 1 : Nat) : Int)), some (.tup xs), some (tabv (wl k)), some (.int (i : Int)), some (st (at_ (wl k) i))], rfl, fun he => ?_, fun he => ?_⟩
        · rw [he] at her
          refine ⟨[some (.int ((k + 1 : Nat) : Int)), some (.tup xs), some (tabv (wl k)), some (.int (i : Int)), some (st (at_ (wl k) i))], ?_, _, _, rfl⟩
          apply xss_nx
          apply xs_iff (q := false)
          apply ev_not (j := true)
          exact ev_fn (evs_cons (ev_var rfl) (evs_cons (ev_idx (ev_var rfl) (ev_var rfl) hidx) evs_nil)) (her _ _)
          refine (if_neg (by decide)).trans ?_
          exact xss_nil
          exact xss_nil
        · rw [he] at her
          apply xss_rt
          apply xs_iff (q := true)
          apply ev_not (j := false)
          exact ev_fn (evs_cons (ev_var rfl) (evs_cons (ev_idx (ev_var rfl) (ev_var rfl) hidx) evs_nil)) (her _ _)
          refine (if_pos rfl).trans ?_
          apply xss_rt
          apply xs_ret
          exact ev_tup (evs_cons ev_cst (evs_cons (ev_var rfl) evs_nil)) (by show 2 ≤ SZ; decide))
    rw [hdue]
    have hfz : frz M M.length RDN (dueL (wl k) xs 0) = some (dueL (wl k) xs 0) := by rw [← hdue]; exact frz_due
    rcases hloop with ⟨hn, σ2, hlp, x3, x4, rfl⟩ | ⟨x, hx, hlp⟩
    · rw [hn]
      apply call_rt (d := d_table_error) hD.error rfl rfl
      apply pre
      apply head_run (w := w) (L := (wl k).length) rfl hv.ty hv.nct (hql rfl)
      intro ys _ _
      apply xss_nx
      apply xs_for
      apply evi_enum
      exact ev_var rfl
      exact srcOf_tup
      exact hlp
      apply xss_rt
      exact xs_ret ev_cst
      intro z
      exact absurd hl (z _ rfl)
      rfl
      simp
    · apply call_rt (d := d_table_error) hD.error rfl rfl
      apply pre
      apply head_run (w := w) (L := (wl k).length) rfl hv.ty hv.nct (hql rfl)
      intro ys _ _
      apply xss_rt
      apply xs_for
      apply evi_enum
      exact ev_var rfl
      exact srcOf_tup
      exact hlp
      intro z
      exact absurd hl (z _ rfl)
      rw [hx]; exact hfz
      simp
  · have hno : ∀ xs, v = .tup xs → xs.length ≠ (wl k).length := fun xs e h => hok ⟨xs, e, h⟩
    have e : dueF k v = .str (cs "form") := by
      cases v with
      | tup xs => simp only [dueF, if_neg (hno xs rfl)]
      | _ => rfl
    rw [e]
    apply call_rt (d := d_table_error) hD.error rfl rfl
    apply pre
    apply head_run (w := w) (L := (wl k).length) rfl hv.ty hv.nct (hql rfl)
    intro ys e2 h2
    exact absurd h2 (hno ys e2)
    intro _
    rfl
    rfl
    simp
theorem due_run (n mk : Nat) (M : Mem) {k w : Nat} {v : V} (hk : k < 5) (hv : Val w M v) :
    callN D (n + 2) mk "_law_due" [wv k, v] M = .ok (dueF k v) M := by
  have hql : ∀ {C : Orc} {mk : Nat} {σ : Env}, lk σ 0 = some (wv k) → ev (parsOf D) C mk (.pr .len (.cons (.idx (.var 0) (.cst (.int 1))) .nil)) σ M = .ok (.int ((wl k).length : Int)) M := fun {C mk σ} h => (ev_pr (evs_cons (ev_idx (ev_var h) ev_cst w1) evs_nil) Sq.fl.len).trans (by rw [List.length_map])
  by_cases hok : ∃ xs, v = .tup xs ∧ xs.length = (wl k).length
  · obtain ⟨xs, rfl, hl⟩ := hok
    have hdue : dueF k (.tup xs) = dueL (wl k) xs 0 := by simp only [dueF, if_pos hl]
    have hloop := pat_loop (C := callN D (n + 1)) (P := parsOf D) (mk := M.length) (M := M) (k := k) (xs := xs) (b := .cons (.iff (.not (.fn "_law_is_entry" (.cons (.var 3) (.cons (.idx (.var 1) (.var 2)) .nil)))) (.cons (.ret (.tup (.cons (.cst (.str (cs "entry"))) (.cons (.var 2) .nil)))) .nil) .nil) .nil) (u := 2) (v := 3)
      (S := fun σ => ∃ x3 x4, σ = [some (wv k), some (.tup xs), x3, x4]) hl (σ0 := [some (wv k), some (.tup xs), none, none]) ⟨none, none, rfl⟩
      (by
        rintro i σ y ⟨x3, x4, rfl⟩ hi hy
        have hym : y ∈ xs := List.mem_of_getElem? hy
        have her := fun mk M => lentry_run hD n mk M (at_mem hi) hk (hv.it xs rfl y hym) (hv.deep xs rfl y hym)
        have hidx : index M (.tup xs) (.int (i : Int)) = some y := Sq.tup.idx hy
        refine ⟨[some (wv k), some (.tup xs), some (.int (i : Int)), some (st (at_ (wl k) i))], rfl, fun he => ?_, fun he => ?_⟩
        · rw [he] at her
          refine ⟨[some (wv k), some (.tup xs), some (.int (i : Int)), some (st (at_ (wl k) i))], ?_, _, _, rfl⟩
          apply xss_nx
          apply xs_iff (q := false)
          apply ev_not (j := true)
          exact ev_fn (evs_cons (ev_var rfl) (evs_cons (ev_idx (ev_var rfl) (ev_var rfl) hidx) evs_nil)) (her _ _)
          refine (if_neg (by decide)).trans ?_
          exact xss_nil
          exact xss_nil
        · rw [he] at her
          apply xss_rt
          apply xs_iff (q := true)
          apply ev_not (j := false)
          exact ev_fn (evs_cons (ev_var rfl) (evs_cons (ev_idx (ev_var rfl) (ev_var rfl) hidx) evs_nil)) (her _ _)
          refine (if_pos rfl).trans ?_
          apply xss_rt
          apply xs_ret
          exact ev_tup (evs_cons ev_cst (evs_cons (ev_var rfl) evs_nil)) (by show 2 ≤ SZ; decide))
    rw [hdue]
    have hfz : frz M M.length RDN (dueL (wl k) xs 0) = some (dueL (wl k) xs 0) := by rw [← hdue]; exact frz_due
    rcases hloop with ⟨hn, σ2, hlp, x3, x4, rfl⟩ | ⟨x, hx, hlp⟩
    · rw [hn]
      apply call_rt (d := d__law_due) hD.due rfl rfl
      apply head_run (w := w) (L := (wl k).length) rfl hv.ty hv.nct (hql rfl)
      intro ys _ _
      apply xss_nx
      apply xs_for
      apply evi_enum
      exact ev_idx (ev_var rfl) ev_cst w1
      exact srcOf_fl
      exact hlp
      apply xss_rt
      exact xs_ret ev_cst
      intro z
      exact absurd hl (z _ rfl)
      rfl
      simp
    · apply call_rt (d := d__law_due) hD.due rfl rfl
      apply head_run (w := w) (L := (wl k).length) rfl hv.ty hv.nct (hql rfl)
      intro ys _ _
      apply xss_rt
      apply xs_for
      apply evi_enum
      exact ev_idx (ev_var rfl) ev_cst w1
      exact srcOf_fl
      exact hlp
      intro z
      exact absurd hl (z _ rfl)
      rw [hx]; exact hfz
      simp
  · have hno : ∀ xs, v = .tup xs → xs.length ≠ (wl k).length := fun xs e h => hok ⟨xs, e, h⟩
    have e : dueF k v = .str (cs "form") := by
      cases v with
      | tup xs => simp only [dueF, if_neg (hno xs rfl)]
      | _ => rfl
    rw [e]
    apply call_rt (d := d__law_due) hD.due rfl rfl
    apply head_run (w := w) (L := (wl k).length) rfl hv.ty hv.nct (hql rfl)
    intro ys e2 h2
    exact absurd h2 (hno ys e2)
    intro _
    rfl
    rfl
    simp
end
end PL.K13

namespace PL.K13
open PL.LB
theorem dv_int {i : Int} (h : i.natAbs < 2 ^ 1900) : Dv 1904 (.int i) := ⟨rfl, rfl, by simp only [shw]; exact decide_eq_true h, Nat.zero_le _, Nat.le_refl _⟩
theorem small_pow {n : Nat} (h : n < 1000) : n < 2 ^ 1900 := Nat.lt_of_lt_of_le h (by decide +kernel)
theorem dv_st {e : List Int} (hl : e.length ≤ 5) (hs : ∀ x ∈ e, x.natAbs < 1000) : Dv 9544 (st e) := by
  refine ⟨norefs_all fun x hx => ?_, ?_, ?_, by have := dep_st e; omega, by rw [st_wt]; omega⟩
  · obtain ⟨i, _, rfl⟩ := List.mem_map.mp hx; rfl
  · simp only [shp]; exact shps_all fun x hx => by obtain ⟨i, _, rfl⟩ := List.mem_map.mp hx; rfl
  · simp only [shw]; exact shws_all fun x hx => by obtain ⟨i, hi, rfl⟩ := List.mem_map.mp hx; exact small_shw (hs i hi)
/-- the rows of a table -/
theorem row_small {k : Nat} {T : List (List Int)} (hT : TOk k T) (hk : k < 5) {e : List Int} (he : e ∈ T) : e.length ≤ 5 ∧ ∀ x ∈ e, x.natAbs < 1000 := by
  refine ⟨by rw [hT.elen he]; omega, fun x hx => ?_⟩
  obtain ⟨j, hj, rfl⟩ := List.mem_iff_getElem.mp he
  have hj' : j < (wl k).length := by rw [← hT.len]; exact hj
  obtain ⟨_, N, h1, h2⟩ := hT.ent j hj'
  rw [at_get hj] at h2
  obtain ⟨_, N', hc, hN⟩ := wl_canon k _ (at_mem hj')
  have := h1.uniq hc
  have := h2.rng x hx
  omega
theorem dv_tab {k : Nat} {T : List (List Int)} (hT : TOk k T) (hk : k < 5) : Dv 500000 (tabv T) := by
  obtain ⟨h1, h2⟩ := tab_show hT hk
  have hp : pd 2 (tabv T) := pd_sts
  refine ⟨hp.1, ?_, h1, by have := hp.2.2; omega, h2⟩
  simp only [shp]
  exact shps_all fun x hx => by
    obtain ⟨e, he, rfl⟩ := List.mem_map.mp hx
    obtain ⟨a, b⟩ := row_small hT hk he
    exact (dv_st a b).sp
/-- the kinds of what is judged -/
inductive Sk (M : Mem) : V → Prop
  | tup {w : Nat} {xs : List V} : (∀ x ∈ xs, Dv w x) → (∀ x ∈ xs, ∀ ys, x = .tup ys → ∀ y ∈ ys, Dv w y) → xs.length * (w + 4) + 4 ≤ SZ → Sk M (.tup xs)
  | dv {w : Nat} {v : V} : Dv w v → (∀ xs, v ≠ .tup xs) → w ≤ SZ → Sk M v
  | lst {i k : Nat} {T : List (List Int)} : M[i]? = some (.lst (T.map st)) → TOk k T → k < 5 → Sk M (.ref i)
  | dct {i k : Nat} {s : List Nat} {T : List (List Int)} : M[i]? = some (.dct false [.str s] [tabv T]) → TOk k T → k < 5 → s = cs "table" → Sk M (.ref i)
theorem Sk.to {M M' : Mem} {v : V} (h : Sk M v) (hr : ∀ i, v = .ref i → M'[i]? = M[i]?) : Sk M' v := by
  cases h with
  | tup a b c => exact .tup a b c
  | dv a b c => exact .dv a b c
  | lst a b c => exact .lst ((hr _ rfl).trans a) b c
  | dct a b c d => exact .dct ((hr _ rfl).trans a) b c d
theorem Sk.app {M : Mem} {v : V} (h : Sk M v) (N : Mem) : Sk (M ++ N) v := by
  cases h with
  | tup a b c => exact .tup a b c
  | dv a b c => exact .dv a b c
  | lst a b c => exact .lst (by rw [List.getElem?_append_left (List.getElem?_eq_some_iff.mp a).1]; exact a) b c
  | dct a b c d => exact .dct (by rw [List.getElem?_append_left (List.getElem?_eq_some_iff.mp a).1]; exact a) b c d
theorem Sk.val {M : Mem} {v : V} (h : Sk M v) : ∃ w, Val w M v := by
  cases h with
  | tup a b c => rename_i w xs; exact ⟨w, rfl, (fun ys e => by cases e), (fun ys e => by cases e; exact a), (fun ys e => by cases e; exact b)⟩
  | dv a b c => rename_i w; exact ⟨w, a.ty M, a.nct, fun ys e => absurd e (b ys), fun ys e => absurd e (b ys)⟩
  | lst a b c => exact ⟨0, by simp only [tyOk, a], (fun ys e => by cases e), (fun ys e => by cases e), (fun ys e => by cases e)⟩
  | dct a b c d => exact ⟨0, by simp only [tyOk, a]; rfl, (fun ys e => by cases e), (fun ys e => by cases e), (fun ys e => by cases e)⟩
theorem rd_lst {M : Mem} {n i : Nat} {xs : List V} (h : M[i]? = some (.lst xs)) (hx : norefs xs = true) : rd M (n + 1) (.ref i) = some (.fl xs) := by
  have : rd M (n + 1) (.ref i) = (rdWs (fun j => rd M n (.ref j)) xs).map .fl := by simp only [rd, rdW, h]
  rw [this, noref_rd.gos _ _ hx]; rfl
theorem rd_dct {M : Mem} {n i : Nat} {t : Bool} {ks vs : List V} (h : M[i]? = some (.dct t ks vs)) (hk : norefs ks = true) (hv : norefs vs = true) : rd M (n + 1) (.ref i) = some (.fd ks vs) := by
  have : rd M (n + 1) (.ref i) = (rdWs (fun j => rd M n (.ref j)) ks).bind fun a => (rdWs (fun j => rd M n (.ref j)) vs).map fun b => .fd a b := by simp only [rd, rdW, h]
  rw [this, noref_rd.gos _ _ hk, noref_rd.gos _ _ hv]; rfl
theorem table_cs : ((cs "table").all fun c => decide (c < 1114112)) = true := by decide +kernel
/-- what the repr of such a thing is of -/
theorem Sk.repr {M : Mem} {v : V} (h : Sk M v) : ∃ d, ∀ N, prim (M ++ N) .repr [v] = .ok (.rep d) (M ++ N) := by
  cases h with
  | tup a b c => exact ⟨_, fun N => tup_repr a c⟩
  | dv a b c =>
    refine ⟨v, fun N => ?_⟩
    have h5 := a.dp
    have h6 := a.wt
    show pRepr (M ++ N) v = _
    simp only [pRepr, rd_noref a.nr, a.sp, a.sw, Bool.or_true, decide_eq_true (show PL.wt v ≤ SZ by omega), decide_eq_true (show dep v ≤ 60 by omega), Bool.and_self, if_true]
  | lst a b c =>
    rename_i i k T
    refine ⟨.fl (T.map st), fun N => ?_⟩
    have ha : (M ++ N)[i]? = some (.lst (T.map st)) := by rw [List.getElem?_append_left (List.getElem?_eq_some_iff.mp a).1]; exact a
    have hd : ∀ x ∈ T.map st, Dv 9544 x := fun x hx => by
      obtain ⟨e, he, rfl⟩ := List.mem_map.mp hx
      obtain ⟨p, q⟩ := row_small b c he
      exact dv_st p q
    have hr : rd (M ++ N) RDN (.ref i) = some (.fl (T.map st)) := rd_lst (n := 5) ha (norefs_all fun x hx => (hd x hx).nr)
    have small := (wl_small k c).1
    have h1 : shp (.fl (T.map st)) = true := by simp only [shp]; exact shps_all fun x hx => (hd x hx).sp
    have h2 : shw (.fl (T.map st)) = true := by simp only [shw]; exact shws_all fun x hx => (hd x hx).sw
    have h3 := wts_le fun x hx => (hd x hx).wt
    have h4 : dep (.fl (T.map st)) ≤ 60 := by simp only [dep]; have := deps_le fun x hx => (hd x hx).dp; omega
    have h5 : PL.wt (.fl (T.map st)) ≤ SZ := by
      simp only [PL.wt]
      rw [List.length_map, b.len] at h3
      have : (wl k).length * (9544 + 4) ≤ 52 * (9544 + 4) := Nat.mul_le_mul small (Nat.le_refl _)
      unfold SZ; omega
    show pRepr (M ++ N) _ = _
    simp only [pRepr, hr, h1, h2, Bool.or_true, decide_eq_true h5, decide_eq_true h4, Bool.and_self, if_true]
  | dct a b c d =>
    rename_i i k s T
    subst d
    refine ⟨.fd [.str (cs "table")] [tabv T], fun N => ?_⟩
    have ha : (M ++ N)[i]? = some (.dct false [.str (cs "table")] [tabv T]) := by rw [List.getElem?_append_left (List.getElem?_eq_some_iff.mp a).1]; exact a
    have hd := dv_tab b c
    have hr : rd (M ++ N) RDN (.ref i) = some (.fd [.str (cs "table")] [tabv T]) := rd_dct (n := 5) ha rfl (norefs_all fun x hx => by rw [List.mem_singleton.mp hx]; exact hd.nr)
    have h1 : shp (.fd [.str (cs "table")] [tabv T]) = true := by
      simp only [shp, List.all_cons, List.all_nil, keyish, Bool.and_true, Bool.true_and, Bool.and_eq_true]
      refine ⟨?_, ?_⟩
      · simp only [shps, shp, table_cs, Bool.and_self]
      · simp only [shps, hd.sp, Bool.and_self]
    have h2 : shw (.fd [.str (cs "table")] [tabv T]) = true := by
      have hs := hd.sw
      simp only [shw] at hs
      simp only [shw, shws, table_cs, hs, Bool.and_self, List.length_singleton, decide_true]
    have h6 := hd.wt
    have h7 := hd.dp
    have h3 : PL.wt (.fd [.str (cs "table")] [tabv T]) ≤ SZ := by
      have e : PL.wt (.fd [.str (cs "table")] [tabv T]) = (PL.wt (.str (cs "table")) + 4 + 0) + (PL.wt (tabv T) + 4 + 0) + 4 := rfl
      have e2 : PL.wt (.str (cs "table")) ≤ 100 := by decide +kernel
      rw [e]
      unfold SZ; omega
    have h4 : dep (.fd [.str (cs "table")] [tabv T]) ≤ 60 := by
      have e : dep (.fd [.str (cs "table")] [tabv T]) = max (max 0 0) (max (dep (tabv T)) 0) + 1 := rfl
      rw [e]
      omega
    show pRepr (M ++ N) _ = _
    simp only [pRepr, hr, h1, h2, Bool.or_true, decide_eq_true h3, decide_eq_true h4, Bool.and_self, if_true]
section
variable {D : String → Option Def} (hD : Has D)
include hD
theorem told_run (n mk : Nat) (M : Mem) {k : Nat} {v : V} {b : Bool} (hk : k < 5) (hv : Sk M v) :
    callN D (n + 4) mk "_law_is_told" [.int ((k + 1 : Nat) : Int), v, dueF k v, .bl b] M = .ok (.bl true) M := by
  obtain ⟨d, hrep⟩ := hv.repr
  have herr := fun mk N => let ⟨w, hw⟩ := (hv.app N).val; error_run hD n mk (M ++ N) hk hw
  obtain ⟨s1, s2, _⟩ := due_sm k v
  have hsame := fun mk M => same_run hD.same (n + 1) 1 mk M (dueF k v) s1 s2
  have hpos : ∀ (mk : Nat) (N : Mem) (σ : Env), lk σ 0 = some (.int ((k + 1 : Nat) : Int)) → lk σ 1 = some v → ev (parsOf D) (callN D (n + 3)) mk (.fn "table_error" (.cons (.var 0) (.cons (.var 1) .nil))) σ (M ++ N) = .ok (dueF k v) (M ++ N) := fun mk N σ h0 h1 =>
    ev_fn (evs_cons (ev_var h0) (evs_cons (ev_var h1) evs_nil)) (herr mk N)
  have hkey : ∀ (mk : Nat) (N : Mem) (σ : Env), lk σ 0 = some (.int ((k + 1 : Nat) : Int)) → lk σ 1 = some v → ev (parsOf D) (callN D (n + 3)) mk (.fnk "table_error" .nil (.cons (.var 0) (.cons (.var 1) .nil)) ["n", "value"]) σ (M ++ N) = .ok (dueF k v) (M ++ N) := fun mk N σ h0 h1 => by
    refine ev_fnk (vs := []) (ws := [.int ((k + 1 : Nat) : Int), v]) (us := [.int ((k + 1 : Nat) : Int), v]) (ps := ["n", "value"]) (is := [0, 1]) evs_nil (evs_cons (ev_var h0) (evs_cons (ev_var h1) evs_nil)) rfl ?_ rfl rfl (herr mk N)
    simp only [parsOf, hD.error]; rfl
  have hn3 : (((k + 1 : Nat) : Int) == 3) = decide (k = 2) := by rw [Bool.eq_iff_iff, beq_iff_eq, decide_eq_true_eq]; omega
  -- the list of what is told
  obtain ⟨L, N, hL, hx⟩ : ∃ (L : List V) (N : Mem), (∀ x ∈ L, x = dueF k v) ∧ L.length ≤ 3 ∧ (M ++ N)[M.length]? = some (.lst L) ∧
      PL.xs (parsOf D) (callN D (n + 3)) M.length (.iff (.cmp .eq (.var 0) (.cst (.int 3))) (.cons (.ex (.mt .extend (.var 5) (.cons (.lst (.cons (.fn "table_error" (.cons (.var 0) (.cons (.var 1) .nil))) (.cons (.fnk "table_error" .nil (.cons (.var 0) (.cons (.var 1) .nil)) ["n", "value"]) .nil))) .nil))) .nil) .nil)
        [some (.int ((k + 1 : Nat) : Int)), some v, some (dueF k v), some (.bl b), some (.rep d), some (.ref M.length), none] (M ++ [.lst [dueF k v]]) = .nx [some (.int ((k + 1 : Nat) : Int)), some v, some (dueF k v), some (.bl b), some (.rep d), some (.ref M.length), none] (M ++ N) := by
    by_cases h3 : k = 2
    · refine ⟨[dueF k v] ++ [dueF k v, dueF k v], [.lst ([dueF k v] ++ [dueF k v, dueF k v]), .lst [dueF k v, dueF k v]], ?_, by simp, by simp, ?_⟩
      · intro x hx
        simp only [List.cons_append, List.nil_append, List.mem_cons, List.not_mem_nil, or_false, or_self] at hx
        exact hx
      apply xs_iff (q := true)
      exact ev_cmp (ev_var rfl) ev_cst (eq_int.trans (by rw [hn3, decide_eq_true h3]))
      refine (if_pos rfl).trans ?_
      apply xss_nx
      apply xs_ex
      apply ev_mt
      exact ev_var rfl
      exact recv_list at_end rfl
      apply evs_cons
      apply ev_lst
      exact evs_cons (hpos _ _ _ rfl rfl) (evs_cons (hkey _ _ _ rfl rfl) evs_nil)
      show 2 ≤ SZ
      decide
      exact evs_nil
      refine extend_run (xs := [dueF k v]) (ys := [dueF k v, dueF k v]) ?_ (llst_ref at_end) (Nat.le_refl _) ?_
      · rw [List.getElem?_append_left (by simp)]; exact at_end
      · show 3 ≤ SZ
        decide
      rw [List.append_assoc]
      rw [show (M ++ ([MO.lst [dueF k v]] ++ [MO.lst [dueF k v, dueF k v]])).set M.length (MO.lst ([dueF k v] ++ [dueF k v, dueF k v])) = M ++ [MO.lst ([dueF k v] ++ [dueF k v, dueF k v]), MO.lst [dueF k v, dueF k v]] by simp]
      exact xss_nil
    · refine ⟨[dueF k v], [.lst [dueF k v]], by simp, by simp, at_end, ?_⟩
      apply xs_iff (q := false)
      exact ev_cmp (ev_var rfl) ev_cst (eq_int.trans (by rw [hn3, decide_eq_false h3]))
      refine (if_neg (by decide)).trans ?_
      exact xss_nil
  obtain ⟨lL, hat, hx⟩ := hx
  have hcomp := compL_enc (w := [(M.length, L)]) (t := .nm 6) (c := fun σ' M' => evc (parsOf D) (callN D (n + 3)) M.length .none σ' M') (e := fun σ' M' => ev (parsOf D) (callN D (n + 3)) M.length (.fn "_law_same" (.cons (.var 6) (.cons (.var 2) .nil))) σ' M')
    (σ := [some (.int ((k + 1 : Nat) : Int)), some v, some (dueF k v), some (.bl b), some (.rep d), some (.ref M.length), none]) (M := M ++ N) (fun x : V => x) (fun _ => true) (fun _ => .bl true) L []
    (fun acc => watch1 (by rw [List.getElem?_append_left (List.getElem?_eq_some_iff.mp hat).1]; exact hat)) (fun x hx => ⟨[some (.int ((k + 1 : Nat) : Int)), some v, some (dueF k v), some (.bl b), some (.rep d), some (.ref M.length), some x], rfl, fun acc => ⟨evc_none, fun _ => by
      rw [hL x hx]
      exact ev_fn (evs_cons (ev_var rfl) (evs_cons (ev_var rfl) evs_nil)) (hsame _ _)⟩⟩) (by unfold SZ; simp; omega)
  simp only [List.map_id', filter_true, List.nil_append] at hcomp
  apply call_rt (d := d__law_is_told) hD.told rfl rfl
  apply xss_nx
  apply xs_set
  apply ev_pr
  exact evs_cons (ev_var rfl) evs_nil
  have := hrep []
  rw [List.append_nil] at this
  exact this
  exact asgM_nm
  apply xss_nx
  apply xs_set
  apply ev_lst
  apply evs_cons
  apply ev_ite_same
  exact ev_var rfl
  have h := hkey M.length [] [some (.int ((k + 1 : Nat) : Int)), some v, some (dueF k v), some (.bl b), some (.rep d), none, none] rfl rfl
  rw [List.append_nil] at h
  exact h
  have h := hpos M.length [] [some (.int ((k + 1 : Nat) : Int)), some v, some (dueF k v), some (.bl b), some (.rep d), none, none] rfl rfl
  rw [List.append_nil] at h
  exact h
  exact evs_nil
  show 1 ≤ SZ
  decide
  exact asgM_nm
  apply xss_nx
  exact hx
  apply xss_rt
  apply xs_ret
  apply ev_bop
  apply evb_cons (q := true)
  apply ev_pr
  apply evs_cons
  apply ev_comp
  apply evi_of
  exact ev_var rfl
  exact srcOf_ref hat
  exact hcomp
  exact evs_nil
  exact all_trues
  refine (if_pos rfl).trans ?_
  apply evb_one (q := true)
  apply ev_cmp
  apply ev_pr
  exact evs_cons (ev_var rfl) evs_nil
  have h := hrep (N ++ [.lst (L.map fun _ => .bl true)])
  rw [← List.append_assoc] at h
  exact h
  exact ev_var rfl
  exact rep_eq
  exact frz_bl
  rw [List.append_assoc]; exact take_app
end
end PL.K13

namespace PL.K13
open PL.LB
theorem frzW_nr (f : Nat → Option V) (n : Nat) {v : V} (h : noref v = true) : frzW f n v = some v := go v h
where
  go : ∀ v : V, noref v = true → frzW f n v = some v
    | .non, _ => by simp [frzW]
    | .bl _, _ => by simp [frzW]
    | .int _, _ => by simp [frzW]
    | .str _, _ => by simp [frzW]
    | .rep _, _ => by simp [frzW]
    | .ct xs, h => by simp only [noref] at h; simp [frzW, h]
    | .cl xs, h => by simp only [noref] at h; simp [frzW, h]
    | .ref _, h => by simp [noref] at h
    | .fd ks vs, h => by
      simp only [noref, Bool.and_eq_true] at h
      simp only [frzW, gos ks h.1, gos vs h.2, Option.map_some, Option.bind_some]
    | .tup xs, h => by simp only [noref] at h; simp only [frzW, gos xs h, Option.map_some]
    | .fl xs, h => by simp only [noref] at h; simp only [frzW, gos xs h, Option.map_some]
  gos : ∀ xs : List V, norefs xs = true → frzWs f n xs = some xs
    | [], _ => by simp [frzWs]
    | x :: xs, h => by
      simp only [norefs, Bool.and_eq_true] at h
      simp only [frzWs, go x h.1, gos xs h.2, Option.bind_some, Option.map_some]
theorem frzWs_app {f : Nat → Option V} {n : Nat} : ∀ {xs xs' ys ys' : List V}, frzWs f n xs = some xs' → frzWs f n ys = some ys' → frzWs f n (xs ++ ys) = some (xs' ++ ys')
  | [], xs', ys, ys', h, g => by
    simp only [frzWs, Option.some.injEq] at h
    subst h; exact g
  | x :: xs, xs', ys, ys', h, g => by
    simp only [frzWs, Option.bind_eq_some_iff, Option.map_eq_some_iff] at h
    obtain ⟨a, e1, b, e2, rfl⟩ := h
    simp only [List.cons_append, frzWs, e1, frzWs_app e2 g, Option.bind_some, Option.map_some]
theorem ev_dsp1 {C : Orc} {P : String → Option (List String)} {mk : Nat} {σ : Env} {M : Mem} {a b : E} {s : List Nat} {y : V} (h1 : ev P C mk a σ (M ++ [.dct false [] []]) = .ok (.str s) (M ++ [.dct false [] []])) (h2 : ev P C mk b σ (M ++ [.dct false [] []]) = .ok y (M ++ [.dct false [] []])) :
    ev P C mk (.dsp (.cons a (.cons b .nil))) σ M = .ok (.ref M.length) (M ++ [.dct false [.str s] [y]]) := by
  simp [ev, evs, h1, h2, dispK, key1]
theorem cut_mem {α : Type} {xs : List α} {lo hi : Option Int} {y : α} (h : y ∈ cut xs lo hi) : y ∈ xs := List.mem_of_mem_drop (List.mem_of_mem_take h)
theorem cut_le {α : Type} {xs : List α} {lo hi : Option Int} : (cut xs lo hi).length ≤ xs.length := by
  unfold cut
  rw [List.length_take, List.length_drop]
  omega
/-- small things that stand in odd entries -/
structure Bv (v : V) : Prop where
  nr : noref v = true
  sp : shp v = true
  sw : shw v = true
  dp : dep v ≤ 1
  wt : wt v ≤ 20000
def Gd (v : V) : Prop := Dv 200000 v ∧ ∀ zs, v = .tup zs → ∀ z ∈ zs, Dv 200000 z
theorem Bv.dv {v : V} (h : Bv v) : Dv 200000 v := ⟨h.nr, h.sp, h.sw, by have := h.dp; omega, by have := h.wt; omega⟩
theorem gd_tup {xs : List V} (h : ∀ x ∈ xs, Bv x) (hl : xs.length ≤ 8) : Gd (.tup xs) := by
  refine ⟨⟨?_, ?_, ?_, ?_, ?_⟩, fun zs e z hz => ?_⟩
  · simp only [noref]; exact norefs_all fun x hx => (h x hx).nr
  · simp only [shp]; exact shps_all fun x hx => (h x hx).sp
  · simp only [shw]; exact shws_all fun x hx => (h x hx).sw
  · simp only [dep]; have := deps_le fun x hx => (h x hx).dp; omega
  · have h1 := wts_le fun x hx => (h x hx).wt
    have h2 : xs.length * (20000 + 4) ≤ 8 * (20000 + 4) := Nat.mul_le_mul hl (Nat.le_refl _)
    simp only [PL.wt]; omega
  · cases e; exact (h z hz).dv
theorem bv_int {i : Int} (h : i.natAbs < 2 ^ 1900) : Bv (.int i) := ⟨rfl, rfl, by simp only [shw]; exact decide_eq_true h, Nat.zero_le _, by simp only [PL.wt]; omega⟩
theorem bv_small {i : Int} (h : i.natAbs < 1000) : Bv (.int i) := bv_int (small_pow h)
theorem bv_st {e : List Int} (hl : e.length ≤ 5) (hs : ∀ x ∈ e, x.natAbs < 1000) : Bv (st e) :=
  let h := dv_st hl hs
  ⟨h.nr, h.sp, h.sw, dep_st e, by have := h.wt; omega⟩
section
variable {D : String → Option Def} (hD : Has D)
include hD
theorem odd_run (n mk : Nat) {M : Mem} {r g : Nat} (hb : BagAt M r g) {e : List Int} {N : Nat} (hc : Canon e N) (hl1 : 1 ≤ e.length) (hl : e.length ≤ 5) (hN : N ≤ 5) :
    ∃ ys M', callN D (n + 2) mk "_law_odd_items" [.ref r, st e] M = .ok (.fl ys) M' ∧ BagAt M' r g ∧ Same M M' r g ∧ ys.length = 18 ∧ ∀ y ∈ ys, Gd y := by
  have hsm : ∀ x ∈ e, x.natAbs < 1000 := fun x hx => by have := hc.rng x hx; omega
  obtain ⟨a', M1, hd1, hb1, hs1, a0, a1⟩ := draw_run hD.draw n M.length hb (e.length : Int) (by omega) (by omega)
  obtain ⟨o', M2, hd2, hb2, hs2, o0, o1⟩ := draw_run hD.draw n M.length hb1 (e.length : Int) (by omega) (by omega)
  obtain ⟨a, rfl⟩ : ∃ a : Nat, a' = (a : Int) := ⟨a'.toNat, by omega⟩
  obtain ⟨o, rfl⟩ : ∃ o : Nat, o' = (o : Int) := ⟨o'.toNat, by omega⟩
  have ha : a < e.length := by omega
  have ho : o < e.length := by omega
  have hS := hs1.trans hs2
  have hea : (e.getD a 0).natAbs < 1000 := hsm _ (getD_mem ha)
  have lent : ∀ {C : Orc} {mk : Nat} {σ : Env} {M : Mem}, lk σ 1 = some (st e) → ev (parsOf D) C mk (.pr .len (.cons (.var 1) .nil)) σ M = .ok (.int (e.length : Int)) M := fun {C mk σ M} h => (ev_pr (evs_cons (ev_var h) evs_nil) tup_len).trans (by rw [List.length_map])
  have hmx := hc.mx
  let A : List V := (e.take a).map .int
  let B : List V := (e.drop (a + 1)).map .int
  let bl7 : List V := [.int (N : Int), .int (-1), .int 1000000000000000000000000000000, .non, .rep (.int (e.getD a 0)), .tup [.int (e.getD a 0)], .int ((N : Int) - 1)]
  let it1 : List V := bl7.map fun b => .tup (A ++ [b] ++ B)
  let l8 : List V := e.zipIdx.map fun q => if (decide (q.2 = a) && decide (q.1 < 2)) = true then .bl (q.1 == 1) else .int q.1
  let l9 : List V := e.map fun x => if (x == e.getD a 0) = true then V.int (e.getD o 0) else .int x
  have hA : A.length + B.length + 1 ≤ 5 := by
    simp only [A, B, List.length_map, List.length_take, List.length_drop]; omega
  have bvA : ∀ x ∈ A, Bv x := fun x hx => by obtain ⟨i, hi, rfl⟩ := List.mem_map.mp hx; exact bv_small (hsm i (List.mem_of_mem_take hi))
  have bvB : ∀ x ∈ B, Bv x := fun x hx => by obtain ⟨i, hi, rfl⟩ := List.mem_map.mp hx; exact bv_small (hsm i (List.mem_of_mem_drop hi))
  have bv7 : ∀ x ∈ bl7, Bv x := fun x hx => by
    simp only [bl7, List.mem_cons, List.not_mem_nil, or_false] at hx
    rcases hx with rfl | rfl | rfl | rfl | rfl | rfl | rfl
    · exact bv_small (by omega)
    · exact bv_small (by decide)
    · exact bv_int (by decide +kernel)
    · exact ⟨rfl, rfl, rfl, Nat.zero_le _, by decide⟩
    · exact ⟨rfl, rfl, by simp only [shw]; exact decide_eq_true (small_pow hea), Nat.zero_le _, by simp only [PL.wt]; omega⟩
    · refine ⟨rfl, rfl, ?_, by simp [dep, deps], by simp only [PL.wt, wts]; omega⟩
      simp only [shw, shws, Bool.and_true]
      exact decide_eq_true (small_pow hea)
    · exact bv_small (by omega)
  -- the seven
  have c7 := compL_enc (w := [(M2.length, bl7)]) (t := .nm 8) (c := fun σ' M' => evc (parsOf D) (callN D (n + 1)) M.length .none σ' M') (e := fun σ' M' => ev (parsOf D) (callN D (n + 1)) M.length (.bin .add (.bin .add (.var 5) (.tup (.cons (.var 8) .nil))) (.var 6)) σ' M')
    (σ := [some (.ref r), some (st e), none, some (.int (a : Int)), some (.int (o : Int)), some (.tup A), some (.tup B), some (.int (N : Int)), none, none]) (M := M2 ++ [.lst bl7]) (fun x : V => x) (fun _ => true) (fun b => .tup (A ++ [b] ++ B)) bl7 []
    (fun acc => watch1 (by rw [List.append_assoc, List.getElem?_append_right (Nat.le_refl _), Nat.sub_self]; rfl)) (fun x hx => ⟨[some (.ref r), some (st e), none, some (.int (a : Int)), some (.int (o : Int)), some (.tup A), some (.tup B), some (.int (N : Int)), some x, none], rfl, fun acc => ⟨evc_none, fun _ => by
      apply ev_bin
      apply ev_bin
      exact ev_var rfl
      exact ev_tup (evs_cons (ev_var rfl) evs_nil) (by show 1 ≤ SZ; decide)
      exact tup_add (by rw [List.length_singleton]; unfold SZ; omega)
      exact ev_var rfl
      exact tup_add (by rw [List.length_append, List.length_singleton]; unfold SZ; omega)⟩⟩) (by simp [bl7]; decide)
  simp only [List.map_id', filter_true, List.nil_append] at c7
  -- found
  let Ma : Mem := M2 ++ [.lst bl7] ++ [.lst it1]
  have lMa : Ma.length = M2.length + 2 := by simp [Ma]
  have hfa : Ma[M2.length + 1]? = some (.lst it1) := by
    rw [show M2.length + 1 = (M2 ++ [MO.lst bl7]).length by simp]; exact at_end
  have c8 := compL_enc (w := []) (t := .tp (.cons (.nm 9) (.cons (.nm 8) .nil))) (c := fun σ' M' => evc (parsOf D) (callN D (n + 1)) M.length .none σ' M') (e := fun σ' M' => ev (parsOf D) (callN D (n + 1)) M.length (.ite (.bop true (.cons (.cmp .eq (.var 9) (.var 3)) (.cons (.cmp .lt (.var 8) (.cst (.int 2))) .nil))) (.cmp .eq (.var 8) (.cst (.int 1))) (.var 8)) σ' M')
    (σ := [some (.ref r), some (st e), some (.ref (M2.length + 1)), some (.int (a : Int)), some (.int (o : Int)), some (.tup A), some (.tup B), some (.int (N : Int)), none, none]) (M := Ma) (fun q : Int × Nat => V.tup [.int (q.2 : Int), .int q.1]) (fun _ => true) (fun q => if (decide (q.2 = a) && decide (q.1 < 2)) = true then .bl (q.1 == 1) else .int q.1) e.zipIdx []
    (fun acc => rfl) (fun q hq => ⟨[some (.ref r), some (st e), some (.ref (M2.length + 1)), some (.int (a : Int)), some (.int (o : Int)), some (.tup A), some (.tup B), some (.int (N : Int)), some (.int q.1), some (.int (q.2 : Int))], rfl, fun acc => ⟨evc_none, fun _ => by
      have hco : ev (parsOf D) (callN D (n + 1)) M.length (.bop true (.cons (.cmp .eq (.var 9) (.var 3)) (.cons (.cmp .lt (.var 8) (.cst (.int 2))) .nil))) [some (.ref r), some (st e), some (.ref (M2.length + 1)), some (.int (a : Int)), some (.int (o : Int)), some (.tup A), some (.tup B), some (.int (N : Int)), some (.int q.1), some (.int (q.2 : Int))] (Ma ++ [.lst acc]) = .ok (.bl (decide (q.2 = a) && decide (q.1 < 2))) (Ma ++ [.lst acc]) := by
        apply ev_bop
        have h1 : ((q.2 : Int) == (a : Int)) = decide (q.2 = a) := by rw [Bool.eq_iff_iff, beq_iff_eq, decide_eq_true_eq]; omega
        by_cases hq2 : q.2 = a
        · rw [decide_eq_true hq2, Bool.true_and]
          apply evb_cons (q := true)
          exact ev_cmp (ev_var rfl) (ev_var rfl) (eq_int.trans (by rw [h1, decide_eq_true hq2]))
          refine (if_pos rfl).trans ?_
          apply evb_one
          exact ev_cmp (ev_var rfl) ev_cst rfl
        · rw [decide_eq_false hq2, Bool.false_and]
          apply evb_cons (q := false)
          exact ev_cmp (ev_var rfl) (ev_var rfl) (eq_int.trans (by rw [h1, decide_eq_false hq2]))
          exact if_neg (by decide)
      apply ev_ite
      exact hco
      cases (decide (q.2 = a) && decide (q.1 < 2)) with
      | true =>
        refine (if_pos rfl).trans ?_
        exact ev_cmp (ev_var rfl) ev_cst eq_int
      | false =>
        refine (if_neg (by decide)).trans ?_
        exact ev_var rfl⟩⟩) (by unfold SZ; simp; omega)
  simp only [filter_true, List.nil_append] at c8
  let Mb : Mem := (Ma ++ [MO.lst l8]).set (M2.length + 1) (MO.lst (it1 ++ [V.tup l8]))
  have lMb : Mb.length = M2.length + 3 := by simp [Mb, Ma]
  have hfb : Mb[M2.length + 1]? = some (MO.lst (it1 ++ [V.tup l8])) := by
    simp only [Mb]; rw [List.getElem?_set_self (by rw [List.length_append, lMa]; omega)]
  have c9 := compL_enc (w := []) (t := .nm 8) (c := fun σ' M' => evc (parsOf D) (callN D (n + 1)) M.length .none σ' M') (e := fun σ' M' => ev (parsOf D) (callN D (n + 1)) M.length (.ite (.cmp .eq (.var 8) (.idx (.var 1) (.var 3))) (.idx (.var 1) (.var 4)) (.var 8)) σ' M')
    (σ := [some (.ref r), some (st e), some (.ref (M2.length + 1)), some (.int (a : Int)), some (.int (o : Int)), some (.tup A), some (.tup B), some (.int (N : Int)), none, none]) (M := Mb) V.int (fun _ => true) (fun x => if (x == e.getD a 0) = true then V.int (e.getD o 0) else .int x) e []
    (fun acc => rfl) (fun x hx => ⟨[some (.ref r), some (st e), some (.ref (M2.length + 1)), some (.int (a : Int)), some (.int (o : Int)), some (.tup A), some (.tup B), some (.int (N : Int)), some (.int x), none], rfl, fun acc => ⟨evc_none, fun _ => by
      apply ev_ite
      exact ev_cmp (ev_var rfl) (ev_idx (ev_var rfl) (ev_var rfl) (idx_st ha)) eq_int
      cases (x == e.getD a 0) with
      | true =>
        refine (if_pos rfl).trans ?_
        exact ev_idx (ev_var rfl) (ev_var rfl) (idx_st ho)
      | false =>
        refine (if_neg (by decide)).trans ?_
        exact ev_var rfl⟩⟩) (by unfold SZ; simp; omega)
  simp only [filter_true, List.nil_append] at c9
  let Mc : Mem := (Mb ++ [MO.lst l9]).set (M2.length + 1) (MO.lst (it1 ++ [V.tup l8] ++ [V.tup l9]))
  have lMc : Mc.length = M2.length + 4 := by simp [Mc, Mb, Ma]
  have hfc : Mc[M2.length + 1]? = some (MO.lst (it1 ++ [V.tup l8] ++ [V.tup l9])) := by
    simp only [Mc]; rw [List.getElem?_set_self (by rw [List.length_append, lMb]; omega)]
  have hold : Old M2 Mc := ((((Old.refl.app [.lst bl7]).app [.lst it1]).app [MO.lst l8]).set (Nat.le_succ _) |>.app [MO.lst l9]).set (Nat.le_succ _)
  -- the last nine
  let Md : Mem := Mc ++ [.lst (e.map .int)]
  let Me : Mem := Md ++ [.dct false [.str (cs "entry")] [st e]]
  let raw : List V := [.ref Mc.length, .tup (cut (e.map .int) none (some (-1))), .tup (e.map .int ++ cut (e.map .int) none (some 1)), .tup [], .non, .int (a : Int), .rep (st e), .ref Md.length, .tup [st e]]
  let fin : List V := [.fl (e.map .int), .tup (cut (e.map .int) none (some (-1))), .tup (e.map .int ++ cut (e.map .int) none (some 1)), .tup [], .non, .int (a : Int), .rep (st e), .fd [.str (cs "entry")] [st e], .tup [st e]]
  let Mf : Mem := Me ++ [MO.lst raw] ++ [.lst (it1 ++ [V.tup l8] ++ [V.tup l9] ++ raw)]
  have hbe := bv_st hl hsm
  have gd9 : ∀ y ∈ it1 ++ [V.tup l8] ++ [V.tup l9] ++ fin, Gd y := by
    intro y hy
    rw [List.mem_append, List.mem_append, List.mem_append] at hy
    rcases hy with ((hy | hy) | hy) | hy
    · obtain ⟨b, hbm, rfl⟩ := List.mem_map.mp hy
      refine gd_tup (fun x hx => ?_) (by rw [List.length_append, List.length_append, List.length_singleton]; omega)
      rw [List.mem_append, List.mem_append, List.mem_singleton] at hx
      rcases hx with (hx | rfl) | hx
      · exact bvA x hx
      · exact bv7 _ hbm
      · exact bvB x hx
    · rw [List.mem_singleton] at hy; subst hy
      refine gd_tup (fun x hx => ?_) (by simp [l8]; omega)
      obtain ⟨q, hq, rfl⟩ := List.mem_map.mp hx
      have hm : q.1 ∈ e := List.mem_of_getElem? (mem_zip_lt hq).2
      split
      · exact ⟨rfl, rfl, rfl, Nat.zero_le _, by show 6 ≤ 20000; omega⟩
      · exact bv_small (hsm _ hm)
    · rw [List.mem_singleton] at hy; subst hy
      refine gd_tup (fun x hx => ?_) (by simp [l9]; omega)
      obtain ⟨q, hq, rfl⟩ := List.mem_map.mp hx
      split
      · exact bv_small (hsm _ (getD_mem ho))
      · exact bv_small (hsm _ hq)
    · have bve : ∀ x ∈ e.map V.int, Bv x := fun x hx => by obtain ⟨i, hi, rfl⟩ := List.mem_map.mp hx; exact bv_small (hsm i hi)
      have hcl := @cut_le V (e.map .int) none (some (-1))
      have hcl2 := @cut_le V (e.map .int) none (some 1)
      rw [List.length_map] at hcl hcl2
      simp only [fin, List.mem_cons, List.not_mem_nil, or_false] at hy
      have nt : ∀ {v : V}, Dv 200000 v → (∀ zs, v ≠ .tup zs) → Gd v := fun h1 h2 => ⟨h1, fun zs e => absurd e (h2 zs)⟩
      rcases hy with rfl | rfl | rfl | rfl | rfl | rfl | rfl | rfl | rfl
      · refine nt ⟨?_, ?_, ?_, ?_, ?_⟩ (fun zs e => by cases e)
        · simp only [noref]; exact norefs_all fun x hx => (bve x hx).nr
        · simp only [shp]; exact shps_all fun x hx => (bve x hx).sp
        · simp only [shw]; exact shws_all fun x hx => (bve x hx).sw
        · simp only [dep]; have := deps_le fun x hx => (bve x hx).dp; omega
        · have h1 := wts_le fun x hx => (bve x hx).wt
          rw [List.length_map] at h1
          have h2 : e.length * (20000 + 4) ≤ 5 * (20000 + 4) := Nat.mul_le_mul hl (Nat.le_refl _)
          simp only [PL.wt]; omega
      · exact gd_tup (fun x hx => bve x (cut_mem hx)) (by omega)
      · have hx2 : cut (e.map V.int) none (some 1) = (e.map V.int).take 1 := cut_to (b := 1)
        refine gd_tup (fun x hx => ?_) (by rw [hx2, List.length_append, List.length_map, List.length_take]; omega)
        rw [List.mem_append] at hx
        exact hx.elim (bve x) fun h => bve x (cut_mem h)
      · exact gd_tup (fun x hx => by cases hx) (Nat.zero_le _)
      · exact nt ⟨rfl, rfl, rfl, Nat.zero_le _, by decide⟩ (fun zs e => by cases e)
      · exact nt (bv_small (by omega)).dv (fun zs e => by cases e)
      · refine nt ⟨hbe.nr, ?_, hbe.sw, Nat.zero_le _, ?_⟩ (fun zs e => by cases e)
        · simp only [shp, repd]
          exact List.all_eq_true.mpr fun x hx => by obtain ⟨i, _, rfl⟩ := List.mem_map.mp hx; rfl
        · have := (dv_st hl hsm).wt
          show 10 * PL.wt (st e) + 2 ≤ 200000
          omega
      · have hcs : ((cs "entry").all fun c => decide (c < 1114112)) = true := by decide +kernel
        refine nt ⟨?_, ?_, ?_, ?_, ?_⟩ (fun zs e => by cases e)
        · show (norefs [.str (cs "entry")] && norefs [st e]) = true
          simp only [norefs, hbe.nr, Bool.and_true]; rfl
        · show ([V.str (cs "entry")].all keyish && shps [.str (cs "entry")] && shps [st e]) = true
          have h1 : shps [V.str (cs "entry")] = true := by simp only [shps, shp, hcs, Bool.and_true]
          have h2 : shps [st e] = true := by simp only [shps, hbe.sp, Bool.and_true]
          rw [h1, h2]; rfl
        · show (shws [.str (cs "entry")] && shws [st e] && decide ([V.str (cs "entry")].length = [st e].length)) = true
          have h1 : shws [V.str (cs "entry")] = true := by simp only [shws, shw, hcs, Bool.and_true]
          have h2 : shws [st e] = true := by simp only [shws, hbe.sw, Bool.and_true]
          rw [h1, h2]; rfl
        · have := hbe.dp
          show max (max 0 0) (max (dep (st e)) 0) + 1 ≤ 10
          omega
        · have := hbe.wt
          have e2 : PL.wt (.str (cs "entry")) ≤ 100 := by decide +kernel
          show (PL.wt (.str (cs "entry")) + 4 + 0) + (PL.wt (st e) + 4 + 0) + 4 ≤ 200000
          omega
      · exact gd_tup (fun x hx => by rw [List.mem_singleton.mp hx]; exact hbe) (by show 1 ≤ 8; omega)
  refine ⟨it1 ++ [V.tup l8] ++ [V.tup l9] ++ fin, M2, ?_, hb2, hS, by simp [it1, bl7, fin], gd9⟩
  have hle : M.length ≤ M2.length := Nat.le_of_eq hS.len.symm
  apply call_rt (d := d__law_odd_items) hD.odd rfl rfl
  apply xss_nx
  apply xs_set
  apply ev_tup
  apply evs_cons
  exact ev_fn (evs_cons (ev_var rfl) (evs_cons (lent rfl) evs_nil)) hd1
  apply evs_cons
  exact ev_fn (evs_cons (ev_var rfl) (evs_cons (lent rfl) evs_nil)) hd2
  exact evs_nil
  show 2 ≤ SZ
  decide
  rfl
  apply xss_nx
  apply xs_set
  apply ev_tup
  apply evs_cons
  apply ev_slc
  exact ev_var rfl
  exact evo_none
  exact evo_some (ev_var rfl)
  show R.ok (V.tup (cut (e.map .int) none (some (a : Int)))) M2 = .ok (.tup A) M2
  rw [cut_to, ← List.map_take]
  apply evs_cons
  apply ev_slc
  exact ev_var rfl
  exact evo_some (ev_bin (ev_var rfl) ev_cst add_i)
  exact evo_none
  show R.ok (V.tup (cut (e.map .int) (some ((a : Int) + 1)) none)) M2 = .ok (.tup B) M2
  rw [cut_from (by rw [List.length_map]; exact ha), ← List.map_drop]
  apply evs_cons
  refine (ev_bin (ev_pr (evs_cons (ev_var rfl) evs_nil) (max_st hc.ne)) ev_cst add_i).trans ?_
  rw [show mx e + 1 = (N : Int) by omega]
  exact evs_nil
  show 3 ≤ SZ
  decide
  rfl
  apply xss_nx
  apply xs_set
  apply ev_comp
  apply evi_of
  apply ev_lst (vs := bl7)
  apply evs_cons
  exact ev_var rfl
  apply evs_cons
  exact ev_neg ev_cst
  apply evs_cons
  exact ev_bin ev_cst ev_cst (y := .int 30) (R' := .ok (.int 1000000000000000000000000000000) M2) rfl
  apply evs_cons
  exact ev_cst
  apply evs_cons
  apply ev_pr
  exact evs_cons (ev_idx (ev_var rfl) (ev_var rfl) (idx_st ha)) evs_nil
  show pStr M2 (.int (e.getD a 0)) = _
  simp only [pStr, if_pos (small_pow hea)]
  rfl
  apply evs_cons
  exact ev_tup (evs_cons (ev_idx (ev_var rfl) (ev_var rfl) (idx_st ha)) evs_nil) (by show 1 ≤ SZ; decide)
  apply evs_cons
  exact ev_bin (ev_var rfl) ev_cst sub_i
  exact evs_nil
  show 7 ≤ SZ
  decide
  exact srcOf_ref at_end
  exact c7
  exact asgM_nm
  rw [show (M2 ++ [MO.lst bl7]).length = M2.length + 1 by simp]
  apply xss_nx
  apply xs_ex
  apply ev_mt
  exact ev_var rfl
  exact recv_list hfa rfl
  apply evs_cons
  apply ev_pr
  apply evs_cons
  apply ev_comp
  apply evi_enum
  exact ev_var rfl
  exact srcOf_tup
  rw [enumed_map]
  exact c8
  exact evs_nil
  exact tuple_ref at_end
  exact evs_nil
  refine append_run (xs := it1) ?_ ?_ ?_
  · rw [List.getElem?_append_left (by rw [lMa]; omega)]; exact hfa
  · unfold wOk
    rw [decide_eq_true (show M.length ≤ M2.length + 1 by omega)]; rfl
  · show 7 < SZ
    decide
  apply xss_nx
  apply xs_ex
  apply ev_mt
  exact ev_var rfl
  exact recv_list hfb rfl
  apply evs_cons
  apply ev_pr
  apply evs_cons
  apply ev_comp
  apply evi_of
  exact ev_var rfl
  exact srcOf_tup
  exact c9
  exact evs_nil
  exact tuple_ref at_end
  exact evs_nil
  refine append_run (xs := it1 ++ [V.tup l8]) ?_ ?_ ?_
  · rw [List.getElem?_append_left (by rw [lMb]; omega)]; exact hfb
  · unfold wOk
    rw [decide_eq_true (show M.length ≤ M2.length + 1 by omega)]; rfl
  · show 8 < SZ
    decide
  apply xss_rt
  apply xs_ret
  apply ev_bin
  exact ev_var rfl
  apply ev_lst (vs := raw)
  apply evs_cons
  exact ev_pr (evs_cons (ev_var rfl) evs_nil) (list_items (xs := e.map .int) rfl)
  apply evs_cons
  apply ev_slc
  exact ev_var rfl
  exact evo_none
  exact evo_some (ev_neg ev_cst)
  rfl
  apply evs_cons
  apply ev_bin
  exact ev_var rfl
  apply ev_slc
  exact ev_var rfl
  exact evo_none
  exact evo_some ev_cst
  rfl
  refine tup_add ?_
  · have := @cut_le V (e.map .int) none (some 1)
    rw [List.length_map] at this ⊢
    unfold SZ; omega
  apply evs_cons
  exact ev_tup evs_nil (by decide)
  apply evs_cons
  exact ev_cst
  apply evs_cons
  exact ev_var rfl
  apply evs_cons
  apply ev_pr
  exact evs_cons (ev_var rfl) evs_nil
  show pStr _ (.tup (e.map .int)) = .ok (.rep (st e)) Md
  have hstr : ((e.map V.int).all isI && shws (e.map V.int) && decide (PL.wt (.tup (e.map V.int)) ≤ SZ)) = true := by
    have h1 : (e.map V.int).all isI = true := List.all_eq_true.mpr fun x hx => by obtain ⟨i, _, rfl⟩ := List.mem_map.mp hx; rfl
    have h2 : shws (e.map V.int) = true := shws_all fun x hx => by obtain ⟨i, hi, rfl⟩ := List.mem_map.mp hx; exact small_shw (hsm i hi)
    have h3 := (dv_st hl hsm).wt
    rw [h1, h2, decide_eq_true (show PL.wt (.tup (e.map V.int)) ≤ SZ by unfold SZ; exact Nat.le_trans h3 (by decide))]; rfl
  simp only [pStr, hstr, if_true]
  rfl
  apply evs_cons
  exact ev_dsp1 ev_cst (ev_var rfl)
  apply evs_cons
  exact ev_tup (evs_cons (ev_var rfl) evs_nil) (by show 1 ≤ SZ; decide)
  exact evs_nil
  show 9 ≤ SZ
  decide
  show addV (Me ++ [MO.lst raw]) (.ref (M2.length + 1)) (.ref Me.length) = .ok (.ref (Me ++ [MO.lst raw]).length) Mf
  have hf2 : (Me ++ [MO.lst raw])[M2.length + 1]? = some (MO.lst (it1 ++ [V.tup l8] ++ [V.tup l9])) := by
    have z1 : M2.length + 1 < Me.length := by simp [Me, Md, lMc]
    rw [List.getElem?_append_left z1]
    simp only [Me, Md]
    have z2 : M2.length + 1 < (Mc ++ [MO.lst (e.map V.int)]).length := by simp [lMc]
    have z3 : M2.length + 1 < Mc.length := by rw [lMc]; omega
    rw [List.getElem?_append_left z2, List.getElem?_append_left z3]
    exact hfc
  simp only [addV, llst, hf2, at_end]
  rw [if_pos (by show 18 ≤ SZ; decide)]
  rfl
  show frz Mf M.length (5 + 1) (.ref (Me ++ [MO.lst raw]).length) = some (.fl (it1 ++ [V.tup l8] ++ [V.tup l9] ++ fin))
  have hR : Mf[(Me ++ [MO.lst raw]).length]? = some (MO.lst (it1 ++ [V.tup l8] ++ [V.tup l9] ++ raw)) := at_end
  have hnr : norefs (it1 ++ [V.tup l8] ++ [V.tup l9]) = true := norefs_all fun x hx => (gd9 x (List.mem_append_left _ hx)).1.nr
  have hg1 : frz Mf M.length (4 + 1) (.ref Mc.length) = some (.fl (e.map .int)) := by
    refine frz_lst' ?_ (by rw [lMc]; omega) (fun x hx => by obtain ⟨i, _, rfl⟩ := List.mem_map.mp hx; rfl)
    simp only [Mf, Me, Md]
    rw [List.getElem?_append_left (by simp), List.getElem?_append_left (by simp), List.getElem?_append_left (by simp)]
    exact at_end
  have hg2 : frz Mf M.length (4 + 1) (.ref Md.length) = some (.fd [.str (cs "entry")] [st e]) := by
    refine frz_dct (t := false) ?_ (by simp [Md, lMc]; omega) (fun x hx => by rw [List.mem_singleton.mp hx]; decide +kernel) (fun x hx => by rw [List.mem_singleton.mp hx]; exact (pd_st (n := 0)).2.1) (by simp)
    simp only [Mf, Me]
    rw [List.getElem?_append_left (by simp), List.getElem?_append_left (by simp)]
    exact at_end
  have hraw : frzWs (fun j => frz Mf M.length 5 (.ref j)) M.length raw = some fin := by
    have k1 : ¬ Mc.length < M.length := by rw [lMc]; omega
    have k2 : ¬ Md.length < M.length := by simp [Md, lMc]; omega
    have q1 : norefs (cut (e.map V.int) none (some (-1))) = true := norefs_all fun x hx => by obtain ⟨i, _, rfl⟩ := List.mem_map.mp (cut_mem hx); rfl
    have q2 : norefs (e.map V.int ++ cut (e.map V.int) none (some 1)) = true := norefs_all fun x hx => by
      rw [List.mem_append] at hx
      rcases hx with hx | hx
      · obtain ⟨i, _, rfl⟩ := List.mem_map.mp hx; rfl
      · obtain ⟨i, _, rfl⟩ := List.mem_map.mp (cut_mem hx); rfl
    have q3 : frzW (fun j => frz Mf M.length 5 (.ref j)) M.length (st e) = some (st e) := frzW_nr _ _ hbe.nr
    have q3' : frzWs (fun j => frz Mf M.length 5 (.ref j)) M.length (e.map V.int) = some (e.map V.int) := frzW_nr.gos _ _ _ (by have := hbe.nr; simpa only [noref] using this)
    simp only [raw, fin, frzWs, frzW, if_neg k1, if_neg k2, hg1, hg2, frzW_nr.gos _ _ _ q1, frzW_nr.gos _ _ _ q2, q3', Option.bind_some, Option.map_some]
  have hall := frzWs_app (frzW_nr.gos (fun j => frz Mf M.length 5 (.ref j)) M.length _ hnr) hraw
  have hf : frz Mf M.length (5 + 1) (.ref (Me ++ [MO.lst raw]).length) = (frzWs (fun j => frz Mf M.length 5 (.ref j)) M.length (it1 ++ [V.tup l8] ++ [V.tup l9] ++ raw)).map .fl := by
    rw [frz]
    simp only [frzW, hR]
    rw [if_neg (by simp [Me, Md, lMc]; omega)]
  rw [hf, hall]; rfl
  rw [← hS.len]
  exact ((((hold.app [.lst (e.map .int)]).app [.dct false [.str (cs "entry")] [st e]]).app [MO.lst raw]).app [.lst (it1 ++ [V.tup l8] ++ [V.tup l9] ++ raw)]).out
end
end PL.K13

namespace PL.K13
open PL.LB
theorem sk_rows {M : Mem} {k : Nat} {T : List (List Int)} {xs : List V} (hT : TOk k T) (hk : k < 5) (h : ∀ x ∈ xs, x ∈ T.map st) (hl : xs.length ≤ 200) : Sk M (.tup xs) := by
  have hr : ∀ x ∈ xs, ∃ e, x = st e ∧ e.length ≤ 5 ∧ ∀ y ∈ e, y.natAbs < 1000 := fun x hx => by
    obtain ⟨e, he, rfl⟩ := List.mem_map.mp (h x hx)
    obtain ⟨a, b⟩ := row_small hT hk he
    exact ⟨e, rfl, a, b⟩
  refine .tup (w := 9544) (fun x hx => ?_) (fun x hx ys e y hy => ?_) ?_
  · obtain ⟨e, rfl, a, b⟩ := hr x hx
    exact dv_st a b
  · obtain ⟨e', rfl, a, b⟩ := hr x hx
    cases e
    obtain ⟨i, hi, rfl⟩ := List.mem_map.mp hy
    exact (dv_int (small_pow (b i hi))).mono (by decide)
  · have : xs.length * (9544 + 4) ≤ 200 * (9544 + 4) := Nat.mul_le_mul hl (Nat.le_refl _)
    unfold SZ; omega
/-- a growing list of what is to be judged -/
structure WH (M0 M' : Mem) (r g p : Nat) (F : List V) : Prop where
  bag : BagAt M' r g
  fr : Fr M0 M' r g
  ge : M0.length ≤ p
  at_ : M'[p]? = some (.lst F)
  ok : ∀ v ∈ F, Sk M' v ∧ ∀ i, v = .ref i → i ≠ r ∧ i ≠ g ∧ i ≠ p
  z : F.length ≤ 40
section
variable {M0 M' M2 : Mem} {r g p : Nat} {F : List V}
theorem WH.app (h : WH M0 M' r g p F) (N : Mem) : WH M0 (M' ++ N) r g p F :=
  ⟨h.bag.app N, h.fr.app N, h.ge, by rw [List.getElem?_append_left (List.getElem?_eq_some_iff.mp h.at_).1]; exact h.at_, fun v hv => ⟨(h.ok v hv).1.app N, (h.ok v hv).2⟩, h.z⟩
theorem WH.same (h : WH M0 M' r g p F) (lt : r < M0.length ∧ g < M0.length) (hs : Same M' M2 r g) (hb : BagAt M2 r g) : WH M0 M2 r g p F := by
  have := h.ge
  refine ⟨hb, h.fr.same hs, h.ge, by rw [hs.at_ _ (by omega) (by omega)]; exact h.at_, fun v hv => ⟨(h.ok v hv).1.to fun i e => ?_, (h.ok v hv).2⟩, h.z⟩
  obtain ⟨a, b, _⟩ := (h.ok v hv).2 i e
  exact hs.at_ i a b
theorem WH.push (h : WH M0 M' r g p F) (lt : r < M0.length ∧ g < M0.length) {G : List V} (hG : ∀ v ∈ G, Sk M' v ∧ ∀ i, v = .ref i → i ≠ r ∧ i ≠ g ∧ i ≠ p) (hz : F.length + G.length ≤ 40) : WH M0 (M'.set p (.lst (F ++ G))) r g p (F ++ G) := by
  have := h.ge
  refine ⟨h.bag.at (by omega) (by omega), h.fr.set (.inl h.ge), h.ge, by rw [List.getElem?_set_self (List.getElem?_eq_some_iff.mp h.at_).1], fun v hv => ?_, by rw [List.length_append]; exact hz⟩
  have hb : Sk M' v ∧ ∀ i, v = .ref i → i ≠ r ∧ i ≠ g ∧ i ≠ p := (List.mem_append.mp hv).elim (h.ok v) (hG v)
  refine ⟨hb.1.to fun i e => ?_, hb.2⟩
  obtain ⟨_, _, c⟩ := hb.2 i e
  rw [List.getElem?_set_ne (Ne.symm c)]
end
theorem all_true {M : Mem} {j : Nat} {acc : List V} (h : M[j]? = some (.lst acc)) (ha : ∀ y ∈ acc, y = .bl true) : prim M .all [.ref j] = .ok (.bl true) M := by
  have e : acc = acc.map fun _ => V.bl true := by
    conv => lhs; rw [← List.map_id acc]
    exact List.map_congr_left fun y hy => ha y hy
  show pBools _ M (.ref j) = _
  have hb : bools acc = some (acc.map fun _ => true) := by
    conv => lhs; rw [e]
    exact bools_map (fun _ => true) acc
  simp only [pBools, litems, h, Option.bind_some, hb]
  congr 2
  simp
section
variable {D : String → Option Def} (hD : Has D)
include hD
/-- a thing is judged, by draws -/
theorem judge_run (n mk : Nat) {M : Mem} {r g k : Nat} {v : V} (hb : BagAt M r g) (hk : k < 5) (hv : Sk M v) (hr : ∀ i, v = .ref i → i ≠ r ∧ i ≠ g) {σ : Env} {i0 i1 i2 i3 : Nat} (h0 : lk σ i0 = some (.int ((k + 1 : Nat) : Int))) (h1 : lk σ i1 = some v) (h2 : lk σ i2 = some (wv k)) (h3 : lk σ i3 = some (.ref r)) :
    ∃ M', ev (parsOf D) (callN D (n + 4)) mk (.fn "_law_is_told" (.cons (.var i0) (.cons (.var i1) (.cons (.fn "_law_due" (.cons (.var i2) (.cons (.var i1) .nil))) (.cons (.cmp .eq (.fn "_law_draw" (.cons (.var i3) (.cons (.cst (.int 2)) .nil))) (.cst (.int 0))) .nil))))) σ M = .ok (.bl true) M' ∧ BagAt M' r g ∧ Same M M' r g := by
  obtain ⟨w, hw⟩ := hv.val
  have hdue := due_run hD (n + 2) mk M hk hw
  obtain ⟨x, M1, hd, hb1, hs1, x0, x1⟩ := draw_run hD.draw (n + 3) mk hb 2 (by omega) (by omega)
  have hv1 : Sk M1 v := hv.to fun i e => hs1.at_ i (hr i e).1 (hr i e).2
  have ht := told_run hD n mk M1 (b := x == 0) hk hv1
  refine ⟨M1, ?_, hb1, hs1⟩
  apply ev_fn
  apply evs_cons
  exact ev_var h0
  apply evs_cons
  exact ev_var h1
  apply evs_cons
  exact ev_fn (evs_cons (ev_var h2) (evs_cons (ev_var h1) evs_nil)) hdue
  apply evs_cons
  exact ev_cmp (ev_fn (evs_cons (ev_var h3) (evs_cons ev_cst evs_nil)) hd) ev_cst eq_int
  exact evs_nil
  exact ht
abbrev wσ (r k : Nat) (T : List (List Int)) (p o : Nat) (x4 : Option V) : Env := [some (.ref r), some (wv k), some (tabv T), some (.ref p), x4, some (.int ((k + 1 : Nat) : Int)), some (.int (o : Int)), none]
theorem wholes_run (n mk : Nat) {M : Mem} {r g k : Nat} {T : List (List Int)} (hb : BagAt M r g) (hT : TOk k T) (hk2 : 2 ≤ k) (hk : k < 5) :
    ∃ M', callN D (n + 5) mk "_law_are_wholes_right" [.ref r, wv k, tabv T] M = .ok (.bl true) M' ∧ BagAt M' r g ∧ Same M M' r g := by
  have lt := hb.lt
  have small := (wl_small k hk).1
  have lT := hT.len
  have l0 : 0 < T.length := by rw [lT]; exact List.length_pos_iff.mpr (wl_ne k)
  obtain ⟨o', M1, hd1, hb1, hs1, o0, o1⟩ := draw_run hD.draw (n + 3) M.length hb (T.length : Int) (by omega) (by omega)
  obtain ⟨o, rfl⟩ : ∃ o : Nat, o' = (o : Int) := ⟨o'.toNat, by omega⟩
  have ho : o < T.length := by omega
  have ll1 := hs1.len
  let Ts : List V := T.map st
  have lTs : Ts.length = T.length := by simp [Ts]
  have cl : ∀ (lo hi : Option Int), (cut Ts lo hi).length ≤ T.length := fun lo hi => by have := @cut_le V Ts lo hi; omega
  have cm : ∀ (lo hi : Option Int), ∀ x ∈ cut Ts lo hi, x ∈ T.map st := fun lo hi x hx => cut_mem hx
  -- the first ten
  let F0 : List V := [.ref M1.length, .tup (cut Ts none (some (-1))), .tup (cut Ts (some 1) none), .tup (Ts ++ cut Ts (some (-1)) none), .tup [], .non, .bl true, .int ((k + 1 : Nat) : Int), .str (cs "form"), .tup [tabv T]]
  have hcs : ((cs "form").all fun c => decide (c < 1114112)) = true := by decide +kernel
  have W0 : WH M (M1 ++ [.lst Ts] ++ [.lst F0]) r g (M1.length + 1) F0 := by
    refine ⟨(hb1.app _).app _, ((LB.Same.fr hs1).app _).app _, by omega, by rw [show M1.length + 1 = (M1 ++ [MO.lst Ts]).length by simp]; exact at_end, fun v hv => ?_, by show 10 ≤ 40; decide⟩
    have nr : ∀ {u : V}, (∀ i, u ≠ .ref i) → ∀ i, u = .ref i → i ≠ r ∧ i ≠ g ∧ i ≠ M1.length + 1 := fun h i e => absurd e (h i)
    simp only [F0, List.mem_cons, List.not_mem_nil, or_false] at hv
    rcases hv with rfl | rfl | rfl | rfl | rfl | rfl | rfl | rfl | rfl | rfl
    · refine ⟨.lst (T := T) (k := k) ?_ hT hk, fun i e => by cases e; omega⟩
      rw [List.append_assoc, List.getElem?_append_right (Nat.le_refl _), Nat.sub_self]; rfl
    · exact ⟨sk_rows hT hk (cm _ _) (by have := cl none (some (-1)); omega), nr fun i e => by cases e⟩
    · exact ⟨sk_rows hT hk (cm _ _) (by have := cl (some 1) none; omega), nr fun i e => by cases e⟩
    · refine ⟨sk_rows hT hk (fun x hx => (List.mem_append.mp hx).elim id (cm _ _ x)) (by rw [List.length_append]; have := cl (some (-1)) none; omega), nr fun i e => by cases e⟩
    · exact ⟨sk_rows hT hk (fun x hx => by cases hx) (Nat.zero_le _), nr fun i e => by cases e⟩
    · exact ⟨.dv (w := 6) ⟨rfl, rfl, rfl, Nat.zero_le _, Nat.le_refl _⟩ (fun xs e => by cases e) (by decide), nr fun i e => by cases e⟩
    · exact ⟨.dv (w := 6) ⟨rfl, rfl, rfl, Nat.zero_le _, Nat.le_refl _⟩ (fun xs e => by cases e) (by decide), nr fun i e => by cases e⟩
    · exact ⟨.dv (dv_int (small_pow (by omega))) (fun xs e => by cases e) (by decide), nr fun i e => by cases e⟩
    · refine ⟨.dv (w := 100) ⟨rfl, ?_, ?_, Nat.zero_le _, by decide +kernel⟩ (fun xs e => by cases e) (by decide), nr fun i e => by cases e⟩
      · simp only [shp]; exact hcs
      · simp only [shw]; exact hcs
    · refine ⟨.tup (w := 500000) (fun x hx => ?_) (fun x hx ys e y hy => ?_) (by show 1 * (500000 + 4) + 4 ≤ SZ; decide), nr fun i e => by cases e⟩
      · rw [List.mem_singleton.mp hx]; exact dv_tab hT hk
      · rw [List.mem_singleton.mp hx] at e
        cases e
        obtain ⟨q, hq, rfl⟩ := List.mem_map.mp hy
        obtain ⟨a, b⟩ := row_small hT hk hq
        exact (dv_st a b).mono (by decide)
  have lMa : (M1 ++ [MO.lst Ts] ++ [MO.lst F0]).length = M1.length + 2 := by simp
  -- the dict
  let Mb : Mem := (M1 ++ [MO.lst Ts] ++ [MO.lst F0]) ++ [MO.dct false [.str (cs "table")] [tabv T]]
  have W1 : WH M (Mb.set (M1.length + 1) (.lst (F0 ++ [.ref (M1.length + 2)]))) r g (M1.length + 1) (F0 ++ [.ref (M1.length + 2)]) := by
    refine (W0.app [MO.dct false [.str (cs "table")] [tabv T]]).push lt (fun v hv => ?_) (by show 11 ≤ 40; decide)
    rw [List.mem_singleton.mp hv]
    refine ⟨.dct (T := T) (k := k) (s := cs "table") ?_ hT hk rfl, fun i e => by cases e; omega⟩
    rw [← lMa]; exact at_end
  -- three more
  let F2 : List V := [.tup (cut Ts none (some (o : Int))), .tup (cut Ts none (some (o : Int)) ++ cut Ts (some ((o : Int) + 1)) none), .tup (cut Ts none (some (o : Int)) ++ cut Ts (some (o : Int)) (some ((o : Int) + 1)) ++ cut Ts (some (o : Int)) none)]
  let Mc : Mem := Mb.set (M1.length + 1) (.lst (F0 ++ [.ref (M1.length + 2)]))
  have W2 : WH M ((Mc ++ [MO.lst F2]).set (M1.length + 1) (.lst (F0 ++ [.ref (M1.length + 2)] ++ F2))) r g (M1.length + 1) (F0 ++ [.ref (M1.length + 2)] ++ F2) := by
    refine (W1.app [MO.lst F2]).push lt (fun v hv => ?_) (by show 14 ≤ 40; decide)
    have e1 := cl none (some (o : Int))
    have e2 := cl (some ((o : Int) + 1)) none
    have e3 := cl (some (o : Int)) (some ((o : Int) + 1))
    have e4 := cl (some (o : Int)) none
    simp only [F2, List.mem_cons, List.not_mem_nil, or_false] at hv
    rcases hv with rfl | rfl | rfl
    · exact ⟨sk_rows hT hk (cm _ _) (by omega), fun i e => by cases e⟩
    · exact ⟨sk_rows hT hk (fun x hx => (List.mem_append.mp hx).elim (cm _ _ x) (cm _ _ x)) (by rw [List.length_append]; omega), fun i e => by cases e⟩
    · refine ⟨sk_rows hT hk (fun x hx => ?_) (by rw [List.length_append, List.length_append]; omega), fun i e => by cases e⟩
      rw [List.mem_append, List.mem_append] at hx
      rcases hx with (hx | hx) | hx <;> exact cm _ _ x hx
  -- the worlds of other sizes
  let Md : Mem := (Mc ++ [MO.lst F2]).set (M1.length + 1) (.lst (F0 ++ [.ref (M1.length + 2)] ++ F2))
  have lMd : Md.length = M1.length + 4 := by simp [Md, Mc, Mb]
  let sizes : List V := [.int 3, .int 4, .int 5]
  obtain ⟨σ3, M3, hl3, F3, x4, hσ3, W3, hz3, hw3, _⟩ := forL_inv (w := [(Md.length, sizes)]) (t := .nm 4) (b := fun σ' M' => xss (parsOf D) (callN D (n + 4)) M.length (.cons (.iff (.cmp .ne (.var 4) (.var 5)) (.cons (.ex (.mt .append (.var 3) (.cons (.pr .tuple (.cons (.idx (.fn "_law_world" (.cons (.var 4) .nil)) (.cst (.int 1))) .nil)) .nil))) .nil) .nil) .nil) σ' M')
    (fun xs σ' M' => ∃ (F : List V) (x4 : Option V), σ' = wσ r k T (M1.length + 1) o x4 ∧ WH M M' r g (M1.length + 1) F ∧ F.length + xs.length ≤ 20 ∧ M'[Md.length]? = some (.lst sizes) ∧ ∀ x ∈ xs, ∃ j : Nat, x = .int ((j + 1 : Nat) : Int) ∧ j < 5)
    sizes (wσ r k T (M1.length + 1) o none) (Md ++ [.lst sizes])
    ⟨_, none, rfl, W2.app _, by show 14 + 3 ≤ 20; decide, at_end, fun x hx => by
      simp only [sizes, List.mem_cons, List.not_mem_nil, or_false] at hx
      rcases hx with rfl | rfl | rfl
      · exact ⟨2, rfl, by omega⟩
      · exact ⟨3, rfl, by omega⟩
      · exact ⟨4, rfl, by omega⟩⟩
    (by
      rintro xs σ' M' ⟨F, x4, rfl, W, hz, hw, _⟩
      exact watch1 hw)
    (by
      rintro x xs σ' M' ⟨F, x4, rfl, W, hz, hw, hx⟩
      obtain ⟨j, rfl, hj⟩ := hx x (List.mem_cons_self ..)
      rw [List.length_cons] at hz
      have hwr := world_run hD.world (n + 3) M.length M' hj
      refine ⟨wσ r k T (M1.length + 1) o (some (.int ((j + 1 : Nat) : Int))), rfl, ?_⟩
      by_cases hjk : j = k
      · refine ⟨wσ r k T (M1.length + 1) o (some (.int ((j + 1 : Nat) : Int))), M', ?_, F, _, rfl, W, by omega, hw, fun y hy => hx y (List.mem_cons_of_mem _ hy)⟩
        apply xss_nx
        apply xs_iff (q := false)
        refine ev_cmp (ev_var rfl) (ev_var rfl) (ne_int.trans (congrArg some ?_))
        rw [hjk, bne_self_eq_false]
        refine (if_neg (by decide)).trans ?_
        exact xss_nil
        exact xss_nil
      · refine ⟨wσ r k T (M1.length + 1) o (some (.int ((j + 1 : Nat) : Int))), M'.set (M1.length + 1) (.lst (F ++ [tabv (wl j)])), ?_, F ++ [tabv (wl j)], _, rfl, W.push lt (fun v hv => ?_) (by rw [List.length_singleton]; omega), by rw [List.length_append, List.length_singleton]; omega, ?_, fun y hy => hx y (List.mem_cons_of_mem _ hy)⟩
        · apply xss_nx
          apply xs_iff (q := true)
          refine ev_cmp (ev_var rfl) (ev_var rfl) (ne_int.trans (congrArg some ?_))
          rw [bne_iff_ne]; omega
          refine (if_pos rfl).trans ?_
          apply xss_nx
          apply xs_ex
          apply ev_mt
          exact ev_var rfl
          exact recv_list W.at_ rfl
          apply evs_cons
          apply ev_pr
          apply evs_cons
          exact ev_idx (ev_fn (evs_cons (ev_var rfl) evs_nil) hwr) ev_cst w1
          exact evs_nil
          exact tuple_items rfl (fun _ e => by cases e)
          exact evs_nil
          refine append_run W.at_ ?_ ?_
          · unfold wOk
            rw [decide_eq_true (show M.length ≤ M1.length + 1 by omega)]; rfl
          · unfold SZ; omega
          exact xss_nil
          exact xss_nil
        · rw [List.mem_singleton.mp hv]
          have := (wl_small j hj).1
          exact ⟨sk_rows (wl_ok j) hj (fun x hx => hx) (by rw [List.length_map]; omega), fun i e => by cases e⟩
        · rw [List.getElem?_set_ne (by omega)]; exact hw)
  subst hσ3
  -- all are judged
  have hj3 : M3.length = (M3 ++ [MO.lst []]).length - 1 := by simp
  obtain ⟨acc, M4, hc4, ⟨W4, hacc, hat4⟩, _⟩ := compL_st (j := M3.length) (w := [(M1.length + 1, F3)]) (t := .nm 7) (c := fun σ' M' => evc (parsOf D) (callN D (n + 4)) M.length .none σ' M') (e := fun σ' M' => ev (parsOf D) (callN D (n + 4)) M.length (.fn "_law_is_told" (.cons (.var 5) (.cons (.var 7) (.cons (.fn "_law_due" (.cons (.var 1) (.cons (.var 7) .nil))) (.cons (.cmp .eq (.fn "_law_draw" (.cons (.var 0) (.cons (.cst (.int 2)) .nil))) (.cst (.int 0))) .nil))))) σ' M')
    (σ := wσ r k T (M1.length + 1) o x4) (fun acc M' => WH M M' r g (M1.length + 1) F3 ∧ (∀ y ∈ acc, y = V.bl true) ∧ M'[M3.length]? = some (.lst acc)) (fun _ _ => evc_none) (fun acc M' h => watch1 h.1.at_) F3 [] (M3 ++ [.lst []])
    (fun v hv acc M' ⟨W, ha, hat⟩ => by
      have hok := W.ok v hv
      obtain ⟨M5, h5, hb5, hs5⟩ := judge_run hD n M.length (σ := [some (.ref r), some (wv k), some (tabv T), some (.ref (M1.length + 1)), x4, some (.int ((k + 1 : Nat) : Int)), some (.int (o : Int)), some v]) (i0 := 5) (i1 := 7) (i2 := 1) (i3 := 0) W.bag hk hok.1 (fun i e => ⟨(hok.2 i e).1, (hok.2 i e).2.1⟩) rfl rfl rfl rfl
      have W5 := W.same lt hs5 hb5
      have le3 := W3.fr.le
      have l3 := (List.getElem?_eq_some_iff.mp W3.at_).1
      have hat5 : M5[M3.length]? = some (.lst acc) := by rw [hs5.at_ _ (by omega) (by omega)]; exact hat
      have l5 := (List.getElem?_eq_some_iff.mp hat5).1
      refine ⟨_, rfl, V.bl true, M5, h5, hat5, ⟨W5.bag.at (by omega) (by omega), W5.fr.set (.inl le3), W5.ge, ?_, fun u hu => ?_, W5.z⟩, fun y hy => ?_, by rw [List.getElem?_set_self l5]⟩
      · rw [List.getElem?_set_ne (by omega)]; exact W5.at_
      · have := W5.ok u hu
        refine ⟨this.1.to fun i e => ?_, this.2⟩
        have hi : i < M3.length := by
          have hu3 := (W3.ok u hu).1
          subst e
          cases hu3 with
          | dv h => have := h.nr; simp [noref] at this
          | lst h => exact (List.getElem?_eq_some_iff.mp h).1
          | dct h => exact (List.getElem?_eq_some_iff.mp h).1
        rw [List.getElem?_set_ne (by omega)]
      · exact (List.mem_append.mp hy).elim (ha y) (fun z => List.mem_singleton.mp z))
    ⟨W3.app _, (fun y hy => by cases hy), at_end⟩ (by have := W3.z; unfold SZ; simp; omega)
  refine ⟨M4.take M.length, ?_, W4.bag.out hb, W4.fr.out⟩
  have lW : (M1 ++ [MO.lst Ts] ++ [MO.lst F0])[M1.length + 1]? = some (.lst F0) := W0.at_
  apply call_rt (d := d__law_are_wholes_right) hD.wholes rfl rfl
  apply xss_nx
  apply xs_set
  apply ev_tup
  apply evs_cons
  exact ev_idx (ev_var rfl) ev_cst w0
  apply evs_cons
  apply ev_fn
  apply evs_cons
  exact ev_var rfl
  apply evs_cons
  exact (ev_pr (evs_cons (ev_var rfl) evs_nil) tup_len).trans (by rw [List.length_map])
  exact evs_nil
  exact hd1
  exact evs_nil
  show 2 ≤ SZ
  decide
  rfl
  apply xss_nx
  apply xs_set
  apply ev_lst (vs := F0)
  apply evs_cons
  exact ev_pr (evs_cons (ev_var rfl) evs_nil) (list_items (xs := Ts) rfl)
  apply evs_cons
  exact ev_slc (ev_var rfl) evo_none (evo_some (ev_neg ev_cst)) rfl
  apply evs_cons
  exact ev_slc (ev_var rfl) (evo_some ev_cst) evo_none rfl
  apply evs_cons
  apply ev_bin
  exact ev_var rfl
  exact ev_slc (ev_var rfl) (evo_some (ev_neg ev_cst)) evo_none rfl
  refine tup_add ?_
  · have := cl (some (-1)) none
    show Ts.length + (cut Ts (some (-1)) none).length ≤ SZ
    unfold SZ; omega
  apply evs_cons
  exact ev_tup evs_nil (by decide)
  apply evs_cons
  exact ev_cst
  apply evs_cons
  exact ev_cst
  apply evs_cons
  exact ev_var rfl
  apply evs_cons
  exact ev_cst
  apply evs_cons
  exact ev_tup (evs_cons (ev_var rfl) evs_nil) (by show 1 ≤ SZ; decide)
  exact evs_nil
  show 10 ≤ SZ
  decide
  exact asgM_nm
  rw [show (M1 ++ [MO.lst (T.map st)]).length = M1.length + 1 by simp]
  apply xss_nx
  apply xs_ex
  apply ev_mt
  exact ev_var rfl
  exact recv_list lW rfl
  apply evs_cons
  exact ev_dsp1 ev_cst (ev_var rfl)
  exact evs_nil
  refine append_run (xs := F0) ?_ ?_ ?_
  · exact (W0.app _).at_
  · unfold wOk
    rw [decide_eq_true (show M.length ≤ M1.length + 1 by omega)]; rfl
  · show 10 < SZ
    decide
  rw [lMa]
  apply xss_nx
  apply xs_ex
  apply ev_mt
  exact ev_var rfl
  exact recv_list W1.at_ rfl
  apply evs_cons
  apply ev_lst (vs := F2)
  have s1 : ∀ {mk : Nat} {σ : Env} {M : Mem}, lk σ 2 = some (tabv T) → lk σ 6 = some (.int (o : Int)) → ev (parsOf D) (callN D (n + 4)) mk (.slc (.var 2) .none (.some (.var 6))) σ M = .ok (.tup (cut Ts none (some (o : Int)))) M := fun a b => ev_slc (ev_var a) evo_none (evo_some (ev_var b)) rfl
  apply evs_cons
  exact s1 rfl rfl
  apply evs_cons
  apply ev_bin
  exact s1 rfl rfl
  exact ev_slc (ev_var rfl) (evo_some (ev_bin (ev_var rfl) ev_cst add_i)) evo_none rfl
  refine tup_add ?_
  · have := cl none (some (o : Int))
    have := cl (some ((o : Int) + 1)) none
    show (cut Ts none (some (o : Int))).length + (cut Ts (some ((o : Int) + 1)) none).length ≤ SZ
    unfold SZ; omega
  apply evs_cons
  apply ev_bin
  apply ev_bin
  exact s1 rfl rfl
  exact ev_slc (ev_var rfl) (evo_some (ev_var rfl)) (evo_some (ev_bin (ev_var rfl) ev_cst add_i)) rfl
  refine tup_add ?_
  · have := cl none (some (o : Int))
    have := cl (some (o : Int)) (some ((o : Int) + 1))
    show (cut Ts none (some (o : Int))).length + (cut Ts (some (o : Int)) (some ((o : Int) + 1))).length ≤ SZ
    unfold SZ; omega
  exact ev_slc (ev_var rfl) (evo_some (ev_var rfl)) evo_none rfl
  refine tup_add ?_
  · have := cl none (some (o : Int))
    have := cl (some (o : Int)) (some ((o : Int) + 1))
    have := cl (some (o : Int)) none
    show (cut Ts none (some (o : Int)) ++ cut Ts (some (o : Int)) (some ((o : Int) + 1))).length + (cut Ts (some (o : Int)) none).length ≤ SZ
    rw [List.length_append]
    unfold SZ; omega
  exact evs_nil
  show 3 ≤ SZ
  decide
  exact evs_nil
  refine extend_run (xs := F0 ++ [.ref (M1.length + 2)]) ?_ (llst_ref at_end) (by omega) ?_
  · exact (W1.app _).at_
  · show 11 + 3 ≤ SZ
    decide
  apply xss_nx
  apply xs_for
  apply evi_of
  apply ev_lst (vs := sizes)
  exact evs_cons ev_cst (evs_cons ev_cst (evs_cons ev_cst evs_nil))
  show 3 ≤ SZ
  decide
  exact srcOf_ref at_end
  exact hl3
  apply xss_rt
  apply xs_ret
  apply ev_pr
  apply evs_cons
  apply ev_comp
  apply evi_of
  exact ev_var rfl
  exact srcOf_ref W3.at_
  exact hc4
  exact evs_nil
  exact all_true hat4 hacc
  exact frz_bl
  rfl
end
end PL.K13

namespace PL.K13
open PL.LB
theorem wts_take : ∀ (xs : List V) (n : Nat), wts (xs.take n) ≤ wts xs
  | [], n => by simp [wts]
  | x :: xs, 0 => by simp [wts]
  | x :: xs, n + 1 => by
    have := wts_take xs n
    simp only [List.take_succ_cons, wts]; omega
theorem wts_drop : ∀ (xs : List V) (n : Nat), wts (xs.drop n) ≤ wts xs
  | [], n => by simp [wts]
  | x :: xs, 0 => by simp
  | x :: xs, n + 1 => by
    have := wts_drop xs n
    simp only [List.drop_succ_cons, wts]; omega
theorem dep_le_deps {x : V} : ∀ {xs : List V}, x ∈ xs → dep x ≤ deps xs := fun h => dep_mem h
/-- a piece of an item is an item -/
theorem gd_cut {zs : List V} (h : Gd (.tup zs)) (lo hi : Option Int) : Gd (.tup (cut zs lo hi)) := by
  have hd := h.2 zs rfl
  have hm : ∀ x ∈ cut zs lo hi, Dv 200000 x := fun x hx => hd x (cut_mem hx)
  have h1 := h.1.dp
  have h2 := h.1.wt
  simp only [dep] at h1
  simp only [PL.wt] at h2
  refine ⟨⟨?_, ?_, ?_, ?_, ?_⟩, fun ys e y hy => by cases e; exact hm y hy⟩
  · simp only [noref]; exact norefs_all fun x hx => (hm x hx).nr
  · simp only [shp]; exact shps_all fun x hx => (hm x hx).sp
  · simp only [shw]; exact shws_all fun x hx => (hm x hx).sw
  · simp only [dep]
    have := deps_le (xs := cut zs lo hi) (n := deps zs) fun x hx => dep_mem (cut_mem hx)
    omega
  · simp only [PL.wt]
    have a1 := wts_take (zs.drop (sIx zs.length 0 lo)) (sIx zs.length zs.length hi - sIx zs.length 0 lo)
    have a2 := wts_drop zs (sIx zs.length 0 lo)
    show wts ((zs.drop (sIx zs.length 0 lo)).take (sIx zs.length zs.length hi - sIx zs.length 0 lo)) + 4 ≤ 200000
    omega
theorem gd_row {k : Nat} {T : List (List Int)} (hT : TOk k T) (hk : k < 5) {x : V} (h : x ∈ T.map st) : Gd x := by
  obtain ⟨e, he, rfl⟩ := List.mem_map.mp h
  obtain ⟨a, b⟩ := row_small hT hk he
  refine ⟨(dv_st a b).mono (by decide), fun zs e2 z hz => ?_⟩
  cases e2
  obtain ⟨i, hi, rfl⟩ := List.mem_map.mp hz
  exact (dv_int (small_pow (b i hi))).mono (by decide)
theorem sk_gd {M : Mem} {xs : List V} (h : ∀ x ∈ xs, Gd x) (hl : xs.length ≤ 60) : Sk M (.tup xs) := by
  refine .tup (w := 200000) (fun x hx => (h x hx).1) (fun x hx ys e y hy => (h x hx).2 ys e y hy) ?_
  exact Nat.le_trans (Nat.add_le_add_right (Nat.mul_le_mul_right _ hl) 4) (by decide)
/-- an item put in its place -/
def putIn (xs : List V) (i : Nat) (x : V) : List V := xs.take i ++ [x] ++ xs.drop (i + 1)
theorem putIn_len {xs : List V} {i : Nat} {x : V} (h : i < xs.length) : (putIn xs i x).length = xs.length := by
  simp only [putIn, List.length_append, List.length_take, List.length_drop, List.length_singleton]; omega
theorem putIn_mem {xs : List V} {i : Nat} {x y : V} (h : y ∈ putIn xs i x) : y ∈ xs ∨ y = x := by
  simp only [putIn, List.mem_append, List.mem_singleton] at h
  rcases h with (h | h) | h
  · exact .inl (List.mem_of_mem_take h)
  · exact .inr h
  · exact .inl (List.mem_of_mem_drop h)
theorem put_expr {C : Orc} {P : String → Option (List String)} {mk : Nat} {σ : Env} {M : Mem} {xs : List V} {x : V} {a b c i : Nat} (ha : lk σ a = some (.tup xs)) (hb : lk σ b = some (.int (i : Int))) (hc : lk σ c = some x) (hi : i < xs.length) (hz : xs.length ≤ 100) :
    ev P C mk (.bin .add (.bin .add (.slc (.var a) .none (.some (.var b))) (.tup (.cons (.var c) .nil))) (.slc (.var a) (.some (.bin .add (.var b) (.cst (.int 1)))) .none)) σ M = .ok (.tup (putIn xs i x)) M := by
  apply ev_bin
  apply ev_bin
  apply ev_slc
  exact ev_var ha
  exact evo_none
  exact evo_some (ev_var hb)
  show R.ok (V.tup (cut xs none (some (i : Int)))) M = .ok (.tup (xs.take i)) M
  rw [cut_to]
  exact ev_tup (evs_cons (ev_var hc) evs_nil) (by show 1 ≤ SZ; decide)
  refine tup_add ?_
  · rw [List.length_take, List.length_singleton]; unfold SZ; omega
  apply ev_slc
  exact ev_var ha
  exact evo_some (ev_bin (ev_var hb) ev_cst add_i)
  exact evo_none
  show R.ok (V.tup (cut xs (some ((i : Int) + 1)) none)) M = .ok (.tup (xs.drop (i + 1))) M
  rw [cut_from hi]
  refine tup_add ?_
  rw [List.length_append, List.length_take, List.length_singleton, List.length_drop]; unfold SZ; omega
section
variable {D : String → Option Def} (hD : Has D)
include hD
abbrev gσ (ns : List Int) (r k : Nat) (T : List (List Int)) (x6 x7 x8 x9 x10 x11 x12 : Option V) : Env := [some (.cl (ns.map .int)), some (.ref r), some (.int ((k + 1 : Nat) : Int)), some (wv k), some (tabv T), some (.bl true), x6, x7, x8, x9, x10, x11, x12, none]
abbrev itB : Ss := (.cons (.set (.nm 11) (.bin .add (.bin .add (.slc (.var 4) .none (.some (.var 7))) (.tup (.cons (.var 9) .nil))) (.slc (.var 4) (.some (.bin .add (.var 7) (.cst (.int 1)))) .none)))
    (.cons (.iff (.cmp .eq (.var 6) (.cst (.int 3))) (.cons (.set (.nm 12) (.ite (.isi (.idx (.var 11) (.var 10)) .tuple) (.slc (.idx (.var 11) (.var 10)) .none (.some (.neg (.cst (.int 1))))) (.cst .non)))
    (.cons (.set (.nm 11) (.bin .add (.bin .add (.slc (.var 11) .none (.some (.var 10))) (.tup (.cons (.var 12) .nil))) (.slc (.var 11) (.some (.bin .add (.var 10) (.cst (.int 1)))) .none)))
    .nil)) .nil)
    (.cons (.iff (.not (.fn "_law_is_told" (.cons (.var 2) (.cons (.var 11) (.cons (.fn "_law_due" (.cons (.var 3) (.cons (.var 11) .nil))) (.cons (.cmp .eq (.fn "_law_draw" (.cons (.var 1) (.cons (.cst (.int 2)) .nil))) (.cst (.int 0))) .nil)))))) (.cons (.ret (.cst (.bl false)))
    .nil) .nil)
    .nil)))
theorem item_turn (n : Nat) {M : Mem} {ns : List Int} {r g k turn one other : Nat} {T : List (List Int)} {x8 x11 x12 : Option V} {item : V} (hb : BagAt M r g) (hT : TOk k T) (hk : k < 5) (h1 : one < T.length) (h2 : other < T.length) (hi : Gd item) :
    ∃ y11 y12 M', xss (parsOf D) (callN D (n + 4)) 0 itB (gσ ns r k T (some (.int (turn : Int))) (some (.int (one : Int))) x8 (some item) (some (.int (other : Int))) x11 x12) M = .nx (gσ ns r k T (some (.int (turn : Int))) (some (.int (one : Int))) x8 (some item) (some (.int (other : Int))) y11 y12) M' ∧ BagAt M' r g ∧ Same M M' r g := by
  have small := (wl_small k hk).1
  have lT := hT.len
  have lTs : (T.map st).length = T.length := by simp
  have g1 : ∀ y ∈ putIn (T.map st) one item, Gd y := fun y hy => (putIn_mem hy).elim (gd_row hT hk) fun e => e ▸ hi
  have l1 : (putIn (T.map st) one item).length = T.length := by rw [putIn_len (by rw [lTs]; exact h1), lTs]
  have s1 : ev (parsOf D) (callN D (n + 4)) 0 (.bin .add (.bin .add (.slc (.var 4) .none (.some (.var 7))) (.tup (.cons (.var 9) .nil))) (.slc (.var 4) (.some (.bin .add (.var 7) (.cst (.int 1)))) .none)) (gσ ns r k T (some (.int (turn : Int))) (some (.int (one : Int))) x8 (some item) (some (.int (other : Int))) x11 x12) M = .ok (.tup (putIn (T.map st) one item)) M :=
    put_expr (a := 4) (b := 7) (c := 9) rfl rfl rfl (by rw [lTs]; exact h1) (by rw [lTs]; omega)
  -- the value that is judged
  obtain ⟨L, y12, h3, gL, lL⟩ : ∃ (L : List V) (y12 : Option V), PL.xs (parsOf D) (callN D (n + 4)) 0 (.iff (.cmp .eq (.var 6) (.cst (.int 3))) (.cons (.set (.nm 12) (.ite (.isi (.idx (.var 11) (.var 10)) .tuple) (.slc (.idx (.var 11) (.var 10)) .none (.some (.neg (.cst (.int 1))))) (.cst .non)))
      (.cons (.set (.nm 11) (.bin .add (.bin .add (.slc (.var 11) .none (.some (.var 10))) (.tup (.cons (.var 12) .nil))) (.slc (.var 11) (.some (.bin .add (.var 10) (.cst (.int 1)))) .none))) .nil)) .nil)
      (gσ ns r k T (some (.int (turn : Int))) (some (.int (one : Int))) x8 (some item) (some (.int (other : Int))) (some (.tup (putIn (T.map st) one item))) x12) M = .nx (gσ ns r k T (some (.int (turn : Int))) (some (.int (one : Int))) x8 (some item) (some (.int (other : Int))) (some (.tup L)) y12) M ∧ (∀ y ∈ L, Gd y) ∧ L.length ≤ 60 := by
    have hq : ∀ {q : Bool}, ((turn : Int) == 3) = q → ev (parsOf D) (callN D (n + 4)) 0 (.cmp .eq (.var 6) (.cst (.int 3))) (gσ ns r k T (some (.int (turn : Int))) (some (.int (one : Int))) x8 (some item) (some (.int (other : Int))) (some (.tup (putIn (T.map st) one item))) x12) M = .ok (.bl q) M := fun e => ev_cmp (ev_var rfl) ev_cst (eq_int.trans (congrArg some e))
    cases e3 : ((turn : Int) == 3) with
    | false =>
      refine ⟨_, x12, ?_, g1, by omega⟩
      apply xs_iff
      exact hq e3
      refine (if_neg (by decide)).trans ?_
      exact xss_nil
    | true =>
      have h2' : other < (putIn (T.map st) one item).length := by omega
      have hidx : ∀ {M : Mem}, index M (.tup (putIn (T.map st) one item)) (.int (other : Int)) = some (putIn (T.map st) one item)[other] := fun {M} => Sq.tup.idx (List.getElem?_eq_getElem h2')
      have gv := g1 _ (List.getElem_mem h2')
      generalize (putIn (T.map st) one item)[other] = v at hidx gv
      obtain ⟨sp, hsp, gsp⟩ : ∃ sp, ev (parsOf D) (callN D (n + 4)) 0 (.ite (.isi (.idx (.var 11) (.var 10)) .tuple) (.slc (.idx (.var 11) (.var 10)) .none (.some (.neg (.cst (.int 1))))) (.cst .non)) (gσ ns r k T (some (.int (turn : Int))) (some (.int (one : Int))) x8 (some item) (some (.int (other : Int))) (some (.tup (putIn (T.map st) one item))) x12) M = .ok sp M ∧ Gd sp := by
        by_cases ht : ∃ zs, v = .tup zs
        · obtain ⟨zs, rfl⟩ := ht
          refine ⟨.tup (cut zs none (some (-1))), ?_, gd_cut gv _ _⟩
          apply ev_ite (q := true)
          exact ev_isi (ev_idx (ev_var rfl) (ev_var rfl) hidx) (gv.1.ty _) rfl
          refine (if_pos rfl).trans ?_
          exact ev_slc (ev_idx (ev_var rfl) (ev_var rfl) hidx) evo_none (evo_some (ev_neg ev_cst)) rfl
        · refine ⟨.non, ?_, ⟨rfl, rfl, rfl, Nat.zero_le _, by decide⟩, fun zs e => by cases e⟩
          apply ev_ite (q := false)
          exact ev_isi (ev_idx (ev_var rfl) (ev_var rfl) hidx) (gv.1.ty _) (not_tup (fun zs e => ht ⟨zs, e⟩) gv.1.nct)
          refine (if_neg (by decide)).trans ?_
          exact ev_cst
      refine ⟨putIn (putIn (T.map st) one item) other sp, some sp, ?_, fun y hy => (putIn_mem hy).elim (g1 y) fun e => e ▸ gsp, by rw [putIn_len h2']; omega⟩
      apply xs_iff
      exact hq e3
      refine (if_pos rfl).trans ?_
      apply xss_nx
      apply xs_set
      exact hsp
      exact asgM_nm
      apply xss_nx
      apply xs_set
      exact put_expr (a := 11) (b := 10) (c := 12) (xs := putIn (T.map st) one item) (x := sp) (i := other) rfl rfl rfl h2' (by omega)
      exact asgM_nm
      exact xss_nil
  obtain ⟨M', h4, hb4, hs4⟩ := judge_run hD n 0 (σ := gσ ns r k T (some (.int (turn : Int))) (some (.int (one : Int))) x8 (some item) (some (.int (other : Int))) (some (.tup L)) y12) (i0 := 2) (i1 := 11) (i2 := 3) (i3 := 1) hb hk (sk_gd gL lL) (fun i e => by cases e) rfl rfl rfl rfl
  refine ⟨some (.tup L), y12, M', ?_, hb4, hs4⟩
  apply xss_nx
  apply xs_set
  exact s1
  exact asgM_nm
  apply xss_nx
  exact h3
  apply xss_nx
  apply xs_iff (q := false)
  exact ev_not (j := true) h4
  refine (if_neg (by decide)).trans ?_
  exact xss_nil
  exact xss_nil
/-- all items of a turn -/
theorem item_loop (n : Nat) {M : Mem} {ns : List Int} {r g k turn one other : Nat} {T : List (List Int)} {v8 : V} {x9 x11 x12 : Option V} {ys : List V} {w : List (Nat × List V)} (hb : BagAt M r g) (hT : TOk k T) (hk : k < 5) (h1 : one < T.length) (h2 : other < T.length) (hy : ∀ y ∈ ys, Gd y)
    (hw : ∀ M', Same M M' r g → watched w M' = true) :
    ∃ y9 y11 y12 M', forL w (.nm 9) (fun σ' M' => xss (parsOf D) (callN D (n + 4)) 0 itB σ' M') ys (gσ ns r k T (some (.int (turn : Int))) (some (.int (one : Int))) (some v8) x9 (some (.int (other : Int))) x11 x12) M = .nx (gσ ns r k T (some (.int (turn : Int))) (some (.int (one : Int))) (some v8) y9 (some (.int (other : Int))) y11 y12) M' ∧ BagAt M' r g := by
  obtain ⟨σ1, M1, hl, y9, y11, y12, hσ, hb1, hs1, _⟩ := forL_inv (w := w) (t := .nm 9) (b := fun σ' M' => xss (parsOf D) (callN D (n + 4)) 0 itB σ' M')
    (fun xs σ' M' => ∃ (y9 y11 y12 : Option V), σ' = gσ ns r k T (some (.int (turn : Int))) (some (.int (one : Int))) (some v8) y9 (some (.int (other : Int))) y11 y12 ∧ BagAt M' r g ∧ Same M M' r g ∧ ∀ y ∈ xs, Gd y)
    ys (gσ ns r k T (some (.int (turn : Int))) (some (.int (one : Int))) (some v8) x9 (some (.int (other : Int))) x11 x12) M
    ⟨x9, x11, x12, rfl, hb, Same.refl, hy⟩
    (by
      rintro xs σ' M' ⟨_, _, _, rfl, _, hs, _⟩
      exact hw M' hs)
    (by
      rintro x xs σ' M' ⟨y9, y11, y12, rfl, hb', hs, hx⟩
      obtain ⟨z11, z12, M2, h, hb2, hs2⟩ := item_turn hD n (ns := ns) (turn := turn) (x8 := some v8) (x11 := y11) (x12 := y12) hb' hT hk h1 h2 (hx x (List.mem_cons_self ..))
      exact ⟨_, asg_nm, _, M2, h, some x, z11, z12, rfl, hb2, hs.trans hs2, fun y hy => hx y (List.mem_cons_of_mem _ hy)⟩)
  rw [hσ] at hl
  exact ⟨y9, y11, y12, M1, hl, hb1⟩
abbrev turnB : Ss := (.cons (.par [7, 10] (.cons (.fn "_law_draw" (.cons (.var 1) (.cons (.pr .len (.cons (.var 4) .nil)) .nil))) (.cons (.fn "_law_draw" (.cons (.var 1) (.cons (.pr .len (.cons (.var 4) .nil)) .nil))) .nil)))
    (.cons (.set (.nm 7) (.idx (.lst (.cons (.var 7) (.cons (.cst (.int 0)) (.cons (.bin .sub (.pr .len (.cons (.var 4) .nil)) (.cst (.int 1))) (.cons (.var 7) .nil))))) (.var 6)))
    (.cons (.set (.nm 8) (.fn "_law_odd_items" (.cons (.var 1) (.cons (.idx (.var 4) (.var 7)) .nil))))
    (.cons (.iff (.cmp .gt (.var 2) (.cst (.int 3))) (.cons (.set (.nm 8) (.comp (.nm 13) (.of (.slc (.fn "_law_order" (.cons (.var 1) (.cons (.pr .len (.cons (.var 8) .nil)) .nil))) .none (.some (.ite (.cmp .eq (.var 2) (.cst (.int 4))) (.cst (.int 10)) (.cst (.int 3)))))) .none (.idx (.var 8) (.var 13))))
    .nil) .nil)
    (.cons (.for (.nm 9) (.of (.var 8)) itB)
    .nil)))))
theorem turn_run (n : Nat) {M : Mem} {ns : List Int} {r g k turn : Nat} {T : List (List Int)} {x7 x8 x9 x10 x11 x12 : Option V} (hb : BagAt M r g) (hT : TOk k T) (hk2 : 2 ≤ k) (hk : k < 5) (ht : turn < 4) :
    ∃ y7 y8 y9 y10 y11 y12 M', xss (parsOf D) (callN D (n + 4)) 0 turnB (gσ ns r k T (some (.int (turn : Int))) x7 x8 x9 x10 x11 x12) M = .nx (gσ ns r k T (some (.int (turn : Int))) y7 y8 y9 y10 y11 y12) M' ∧ BagAt M' r g := by
  have small := (wl_small k hk).1
  have lT := hT.len
  have l0 : 0 < T.length := by rw [lT]; exact List.length_pos_iff.mpr (wl_ne k)
  obtain ⟨a, M1, hd1, hb1, hs1, a0, a1⟩ := draw_run hD.draw (n + 3) 0 hb (T.length : Int) (by omega) (by omega)
  obtain ⟨c, M2, hd2, hb2, hs2, c0, c1⟩ := draw_run hD.draw (n + 3) 0 hb1 (T.length : Int) (by omega) (by omega)
  obtain ⟨other, rfl⟩ : ∃ o : Nat, c = (o : Int) := ⟨c.toNat, by omega⟩
  have ho : other < T.length := by omega
  obtain ⟨one, hone, h1⟩ : ∃ one : Nat, ([V.int a, .int 0, .int ((T.length : Int) - 1), .int a])[turn]? = some (.int (one : Int)) ∧ one < T.length := by
    have : turn = 0 ∨ turn = 1 ∨ turn = 2 ∨ turn = 3 := by omega
    rcases this with rfl | rfl | rfl | rfl
    · exact ⟨a.toNat, by rw [show ((a.toNat : Nat) : Int) = a by omega]; rfl, by omega⟩
    · exact ⟨0, rfl, by omega⟩
    · exact ⟨T.length - 1, by rw [show ((T.length - 1 : Nat) : Int) = (T.length : Int) - 1 by omega]; rfl, by omega⟩
    · exact ⟨a.toNat, by rw [show ((a.toNat : Nat) : Int) = a by omega]; rfl, by omega⟩
  have hm := at_mem h1
  have h1' : one < (wl k).length := by omega
  obtain ⟨_, N, hcq, hce⟩ := hT.ent one h1'
  obtain ⟨_, N', hcq', hN'⟩ := wl_canon k _ (at_mem h1')
  have hNN := hcq.uniq hcq'
  have hel := hT.elen hm
  obtain ⟨ys, M3, hd3, hb3, hs3, ly, gy⟩ := odd_run hD (n + 2) 0 (hb2.app [.lst [.int a, .int 0, .int ((T.length : Int) - 1), .int a]]) hce (by omega) (by omega) (by omega)
  have lt3 := hb3.lt
  have hlen : ∀ {σ : Env} {M : Mem}, lk σ 4 = some (tabv T) → ev (parsOf D) (callN D (n + 4)) 0 (.pr .len (.cons (.var 4) .nil)) σ M = .ok (.int (T.length : Int)) M := fun h => (ev_pr (evs_cons (ev_var h) evs_nil) tup_len).trans (by rw [List.length_map])
  have pre : ∀ {O : Rs} {rest : Ss}, xss (parsOf D) (callN D (n + 4)) 0 rest (gσ ns r k T (some (.int (turn : Int))) (some (.int (one : Int))) (some (.fl ys)) x9 (some (.int (other : Int))) x11 x12) M3 = O →
      xss (parsOf D) (callN D (n + 4)) 0 (.cons (.par [7, 10] (.cons (.fn "_law_draw" (.cons (.var 1) (.cons (.pr .len (.cons (.var 4) .nil)) .nil))) (.cons (.fn "_law_draw" (.cons (.var 1) (.cons (.pr .len (.cons (.var 4) .nil)) .nil))) .nil)))
    (.cons (.set (.nm 7) (.idx (.lst (.cons (.var 7) (.cons (.cst (.int 0)) (.cons (.bin .sub (.pr .len (.cons (.var 4) .nil)) (.cst (.int 1))) (.cons (.var 7) .nil))))) (.var 6)))
    (.cons (.set (.nm 8) (.fn "_law_odd_items" (.cons (.var 1) (.cons (.idx (.var 4) (.var 7)) .nil)))) rest))) (gσ ns r k T (some (.int (turn : Int))) x7 x8 x9 x10 x11 x12) M = O := fun {O rest} h => by
    apply xss_nx
    apply xs_par
    apply evs_cons
    exact ev_fn (evs_cons (ev_var rfl) (evs_cons (hlen rfl) evs_nil)) hd1
    apply evs_cons
    exact ev_fn (evs_cons (ev_var rfl) (evs_cons (hlen rfl) evs_nil)) hd2
    exact evs_nil
    rfl
    apply xss_nx
    apply xs_set
    apply ev_idx
    apply ev_lst
    exact evs_cons (ev_var rfl) (evs_cons ev_cst (evs_cons (ev_bin (hlen rfl) ev_cst sub_i) (evs_cons (ev_var rfl) evs_nil)))
    show 4 ≤ SZ
    decide
    exact ev_var rfl
    exact (Sq.ref at_end).idx hone
    exact asgM_nm
    apply xss_nx
    apply xs_set
    exact ev_fn (evs_cons (ev_var rfl) (evs_cons (ev_idx (ev_var rfl) (ev_var rfl) (Sq.tup.idx (sts_at h1))) evs_nil)) hd3
    exact asgM_nm
    exact h
  have hgt : ∀ {σ : Env} {M : Mem}, lk σ 2 = some (.int ((k + 1 : Nat) : Int)) → ev (parsOf D) (callN D (n + 4)) 0 (.cmp .gt (.var 2) (.cst (.int 3))) σ M = .ok (.bl (decide (3 ≤ k))) M := fun h => by
    refine ev_cmp (ev_var h) ev_cst ?_
    simp only [cmpop, intC]
    refine congrArg some (decide_eq_decide.mpr ?_)
    omega
  by_cases h3 : 3 ≤ k
  · obtain ⟨os, M4, hd4, hb4, hs4, hper⟩ := order_run hD.draw hD.pick hD.order (n + 2) 0 hb3 18 (by omega)
    have hm10 : ∀ {M : Mem}, ∃ t : Nat, ev (parsOf D) (callN D (n + 4)) 0 (.ite (.cmp .eq (.var 2) (.cst (.int 4))) (.cst (.int 10)) (.cst (.int 3))) (gσ ns r k T (some (.int (turn : Int))) (some (.int (one : Int))) (some (.fl ys)) x9 (some (.int (other : Int))) x11 x12) M = .ok (.int (t : Int)) M := fun {M} => by
      have hn4 : (((k + 1 : Nat) : Int) == 4) = decide (k = 3) := by rw [Bool.eq_iff_iff, beq_iff_eq, decide_eq_true_eq]; omega
      by_cases h : k = 3
      · refine ⟨10, ?_⟩
        apply ev_ite (q := true)
        exact ev_cmp (ev_var rfl) ev_cst (eq_int.trans (by rw [hn4, decide_eq_true h]))
        exact (if_pos rfl).trans ev_cst
      · refine ⟨3, ?_⟩
        apply ev_ite (q := false)
        exact ev_cmp (ev_var rfl) ev_cst (eq_int.trans (by rw [hn4, decide_eq_false h]))
        exact (if_neg (by decide)).trans ev_cst
    obtain ⟨t, htk⟩ := @hm10 M4
    have hsl : slice M4 (.fl (os.map .int)) none (some (t : Int)) = .ok (.ref M4.length) (M4 ++ [.lst ((os.take t).map .int)]) := by
      show alloc (.lst (cut (os.map V.int) none (some (t : Int)))) M4 = _
      rw [cut_to, ← List.map_take]; rfl
    have hin : ∀ i ∈ os.take t, 0 ≤ i ∧ i < 18 := fun i hi => by
      obtain ⟨j, hj, rfl⟩ := List.mem_map.mp (hper.mem_iff.mp (List.mem_of_mem_take hi))
      have := List.mem_range.mp hj
      omega
    have lo : (os.take t).length ≤ 18 := by
      have := hper.length_eq
      rw [List.length_map, List.length_range] at this
      rw [List.length_take]; omega
    have hcomp := compL_enc (w := [(M4.length, (os.take t).map V.int)]) (t := .nm 13) (c := fun σ' M' => evc (parsOf D) (callN D (n + 4)) 0 .none σ' M') (e := fun σ' M' => ev (parsOf D) (callN D (n + 4)) 0 (.idx (.var 8) (.var 13)) σ' M')
      (σ := gσ ns r k T (some (.int (turn : Int))) (some (.int (one : Int))) (some (.fl ys)) x9 (some (.int (other : Int))) x11 x12) (M := M4 ++ [.lst ((os.take t).map .int)]) V.int (fun _ => true) (fun i => ys.getD i.toNat .non) (os.take t) []
      (fun acc => watch1 (by rw [List.append_assoc, List.getElem?_append_right (Nat.le_refl _), Nat.sub_self]; rfl)) (fun i hi => ⟨_, asg_nm, fun acc => ⟨evc_none, fun _ => by
        obtain ⟨i0, i1⟩ := hin i hi
        have hlt : i.toNat < ys.length := by omega
        refine ev_idx (ev_var rfl) (ev_var rfl) ?_
        have := (Sq.fl (M := M4 ++ [.lst ((os.take t).map .int)] ++ [.lst acc]) (xs := ys)).idx (i := i.toNat) (List.getElem?_eq_getElem hlt)
        rw [show ((i.toNat : Nat) : Int) = i by omega] at this
        rw [this, List.getD, List.getElem?_eq_getElem hlt]; rfl⟩⟩) (by unfold SZ; simp at lo ⊢; omega)
    simp only [filter_true, List.nil_append] at hcomp
    have gz : ∀ y ∈ (os.take t).map fun i => ys.getD i.toNat .non, Gd y := fun y hy => by
      obtain ⟨i, hi, rfl⟩ := List.mem_map.mp hy
      obtain ⟨i0, i1⟩ := hin i hi
      have hlt : i.toNat < ys.length := by omega
      rw [List.getD, List.getElem?_eq_getElem hlt]
      exact gy _ (List.getElem_mem hlt)
    have lt4 := hb4.lt
    let M5 : Mem := M4 ++ [.lst ((os.take t).map .int)] ++ [.lst ((os.take t).map fun i => ys.getD i.toNat .non)]
    have hp5 : M5[M4.length + 1]? = some (.lst ((os.take t).map fun i => ys.getD i.toNat .non)) := by
      rw [show M4.length + 1 = (M4 ++ [MO.lst ((os.take t).map V.int)]).length by simp]; exact at_end
    obtain ⟨y9, y11, y12, M6, hl6, hb6⟩ := item_loop hD n (ns := ns) (turn := turn) (v8 := .ref (M4.length + 1)) (x9 := x9) (x11 := x11) (x12 := x12) (w := [(M4.length + 1, (os.take t).map fun i => ys.getD i.toNat .non)]) (M := M5) ((hb4.app _).app _) hT hk h1 ho gz
      (fun M' hs => watch1 (by rw [hs.at_ _ (by omega) (by omega)]; exact hp5))
    refine ⟨some (.int (one : Int)), some (.ref (M4.length + 1)), y9, some (.int (other : Int)), y11, y12, M6, ?_, hb6⟩
    apply pre
    apply xss_nx
    apply xs_iff
    exact hgt rfl
    rw [decide_eq_true h3]
    refine (if_pos rfl).trans ?_
    apply xss_nx
    apply xs_set
    apply ev_comp
    apply evi_of
    apply ev_slc
    apply ev_fn
    apply evs_cons
    exact ev_var rfl
    apply evs_cons
    exact ev_pr (evs_cons (ev_var rfl) evs_nil) Sq.fl.len
    exact evs_nil
    rw [ly]
    exact hd4
    exact evo_none
    exact evo_some htk
    exact hsl
    exact srcOf_ref at_end
    exact hcomp
    exact asgM_nm
    exact xss_nil
    apply xss_nx
    apply xs_for
    apply evi_of
    exact ev_var rfl
    rw [show (M4 ++ [MO.lst ((os.take t).map V.int)]).length = M4.length + 1 by simp]
    exact srcOf_ref hp5
    rw [show (M4 ++ [MO.lst ((os.take t).map V.int)]).length = M4.length + 1 by simp]
    exact hl6
    exact xss_nil
  · obtain ⟨y9, y11, y12, M6, hl6, hb6⟩ := item_loop hD n (ns := ns) (turn := turn) (v8 := .fl ys) (x9 := x9) (x11 := x11) (x12 := x12) (w := []) hb3 hT hk h1 ho gy (fun M' hs => rfl)
    refine ⟨some (.int (one : Int)), some (.fl ys), y9, some (.int (other : Int)), y11, y12, M6, ?_, hb6⟩
    apply pre
    apply xss_nx
    apply xs_iff
    exact hgt rfl
    rw [decide_eq_false h3]
    refine (if_neg (by decide)).trans ?_
    exact xss_nil
    apply xss_nx
    apply xs_for
    apply evi_of
    exact ev_var rfl
    exact srcOf_fl
    exact hl6
    exact xss_nil
omit hD in
theorem due_tab {k : Nat} {T : List (List Int)} (hT : TOk k T) : dueF k (tabv T) = .non := by
  have go : ∀ (qs : List (List Int)) (es : List (List Int)) (i : Nat), (∀ j, j < qs.length → EOk (at_ qs j) (at_ es j)) → qs.length = es.length → dueL qs (es.map st) i = .non := by
    intro qs
    induction qs with
    | nil => intro es i _ _; cases es <;> simp [dueL]
    | cons q qs ih =>
      intro es i h hl
      cases es with
      | nil => simp at hl
      | cons e es =>
        obtain ⟨l1, N, c1, c2⟩ := h 0 (by simp)
        have hq : at_ (q :: qs) 0 = q := rfl
        have he : at_ (e :: es) 0 = e := rfl
        rw [hq] at l1 c1
        rw [he] at l1 c2
        have hN : (mx q + 1).toNat = N := by have := c1.mx; omega
        have : entryF q (st e) = true := by
          simp only [entryF, hN, List.length_map, l1, decide_true, Bool.true_and, Bool.and_eq_true]
          refine ⟨List.all_eq_true.mpr fun x hx => ?_, List.all_eq_true.mpr fun t ht => ?_⟩
          · obtain ⟨i, hi, rfl⟩ := List.mem_map.mp hx
            have := c2.rng i hi
            simp only [inR, Bool.and_eq_true, decide_eq_true_eq]
            omega
          · exact decide_eq_true (mem_ints.mpr (c2.all t (List.mem_range.mp ht)))
        rw [List.map_cons]
        simp only [dueL, this, if_true]
        exact ih es (i + 1) (fun j hj => h (j + 1) (by simpa using hj)) (by simpa using hl)
  simp only [dueF]
  rw [if_pos (by rw [List.length_map, hT.len])]
  exact go _ _ 0 (fun j hj => hT.ent j hj) hT.len.symm
theorem law_run (n : Nat) (ns : List Int) : ∃ M, callN D (n + 8) 0 "law" [.cl (ns.map V.int)] [] = .ok (.bl true) M := by
  obtain ⟨r, g, M1, hc1, hb1⟩ := own_bag_run hD.bag (n + 6) ns
  have lt1 := hb1.lt
  let few : List V := [.int 3, .int 3, .int 4, .int 4, .int 4, .int 5]
  obtain ⟨v, M2, hc2, hb2, hs2, hv⟩ := pick_run hD.draw hD.pick (n + 5) 0 (hb1.app [.lst few]) (x := .ref M1.length) (vs := few)
    (fun M' hs => by
      have e : M'[M1.length]? = some (.lst few) := by rw [hs.at_ _ (by omega) (by omega)]; exact at_end
      exact ⟨by simp only [dkeys, e], by simp only [items, e]⟩) (by simp [few]) (by simp [few]) (fun v hv M' _ => by
        simp only [few, List.mem_cons, List.not_mem_nil, or_false] at hv
        rcases hv with rfl | rfl | rfl | rfl | rfl | rfl <;> rfl)
  obtain ⟨k, rfl, k2, k5⟩ : ∃ k : Nat, v = .int ((k + 1 : Nat) : Int) ∧ 2 ≤ k ∧ k < 5 := by
    simp only [few, List.mem_cons, List.not_mem_nil, or_false] at hv
    rcases hv with rfl | rfl | rfl | rfl | rfl | rfl
    · exact ⟨2, rfl, by omega, by omega⟩
    · exact ⟨2, rfl, by omega, by omega⟩
    · exact ⟨3, rfl, by omega, by omega⟩
    · exact ⟨3, rfl, by omega, by omega⟩
    · exact ⟨3, rfl, by omega, by omega⟩
    · exact ⟨4, rfl, by omega, by omega⟩
  have hc3 := world_run hD.world (n + 6) 0 M2 k5
  have hst := fun mk M => still_run hD.many hD.patterns hD.still (n + 4) mk M k5
  have z0 := fun mk M => same_run hD.same (n + 4) 2 mk M (tabv (wl k)) (sm_tab (wl_ok k) k5) (dep_tab _)
  obtain ⟨T, M4, hc4, hT, hb4, hs4⟩ := some_run hD.t (n + 1) 0 hb2 k2 k5
  have skT : ∀ M, Sk M (tabv T) := fun M => sk_rows hT k5 (fun x hx => hx) (by rw [List.length_map, hT.len]; have := (wl_small k k5).1; omega)
  have htold : ∀ (b : Bool) mk M, callN D (n + 7) mk "_law_is_told" [.int ((k + 1 : Nat) : Int), tabv T, .non, .bl b] M = .ok (.bl true) M := fun b mk M => by
    have := told_run hD (n + 3) mk M (b := b) k5 (skT M)
    rw [due_tab hT] at this
    exact this
  obtain ⟨M5, hc5, hb5, hs5⟩ := wholes_run hD (n + 2) 0 hb4 hT k2 k5
  obtain ⟨σ6, M6, hl6, y6, y7, y8, y9, y10, y11, y12, hσ6, hb6, _⟩ := forL_inv (w := []) (t := .nm 6) (b := fun σ' M' => xss (parsOf D) (callN D (n + 7)) 0 turnB σ' M')
    (fun xs σ' M' => ∃ (y6 y7 y8 y9 y10 y11 y12 : Option V), σ' = gσ ns r k T y6 y7 y8 y9 y10 y11 y12 ∧ BagAt M' r g ∧ ∀ x ∈ xs, ∃ j : Nat, x = .int (j : Int) ∧ j < 4)
    ((List.range 4).map fun i : Nat => V.int (i : Int)) (gσ ns r k T none none none none none none none) M5
    ⟨none, none, none, none, none, none, none, rfl, hb5, fun x hx => by obtain ⟨j, hj, rfl⟩ := List.mem_map.mp hx; exact ⟨j, rfl, List.mem_range.mp hj⟩⟩
    (fun _ _ _ _ => rfl)
    (by
      rintro x xs σ' M' ⟨y6, y7, y8, y9, y10, y11, y12, rfl, hb', hx⟩
      obtain ⟨j, rfl, hj⟩ := hx x (List.mem_cons_self ..)
      obtain ⟨z7, z8, z9, z10, z11, z12, M2, h, hb2⟩ := turn_run hD (n + 3) (ns := ns) (turn := j) (x7 := y7) (x8 := y8) (x9 := y9) (x10 := y10) (x11 := y11) (x12 := y12) hb' hT k2 k5 hj
      exact ⟨_, asg_nm, _, M2, h, some (.int (j : Int)), z7, z8, z9, z10, z11, z12, rfl, hb2, fun y hy => hx y (List.mem_cons_of_mem _ hy)⟩)
  subst hσ6
  refine ⟨M6.take 0, ?_⟩
  apply call_rt (d := d_law) hD.law rfl rfl
  apply xss_nx
  apply xs_set
  exact ev_fn (evs_cons (ev_var rfl) evs_nil) hc1
  exact asgM_nm
  apply xss_nx
  apply xs_set
  apply ev_fn
  apply evs_cons
  exact ev_var rfl
  apply evs_cons
  refine ev_lst (vs := few) (evs_cons ev_cst (evs_cons ev_cst (evs_cons ev_cst (evs_cons ev_cst (evs_cons ev_cst (evs_cons ev_cst evs_nil)))))) ?_
  show 6 ≤ SZ
  decide
  exact evs_nil
  exact hc2
  exact asgM_nm
  apply xss_nx
  apply xs_set
  exact ev_fn (evs_cons (ev_var rfl) evs_nil) hc3
  exact asgM_nm
  apply xss_nx
  apply xs_iff (q := false)
  apply ev_bop
  apply evb_cons (q := false)
  apply ev_not (j := true)
  apply ev_fn
  apply evs_cons
  exact ev_fn (evs_cons (ev_var rfl) evs_nil) (hst _ _)
  apply evs_cons
  exact ev_pr (evs_cons (ev_idx (ev_var rfl) ev_cst w1) evs_nil) (tuple_items rfl (fun _ e => by cases e))
  exact evs_nil
  exact z0 _ _
  refine (if_pos rfl).trans ?_
  apply evb_one (q := false)
  apply ev_not (j := true)
  apply ev_fn
  apply evs_cons
  refine ev_fnk (vs := []) (ws := [.int ((k + 1 : Nat) : Int)]) (us := [.int ((k + 1 : Nat) : Int)]) (ps := ["n"]) (is := [0]) evs_nil (evs_cons (ev_var rfl) evs_nil) rfl ?_ rfl rfl (hst _ _)
  simp only [parsOf, hD.still]; rfl
  apply evs_cons
  exact ev_pr (evs_cons (ev_idx (ev_var rfl) ev_cst w1) evs_nil) (tuple_items rfl (fun _ e => by cases e))
  exact evs_nil
  exact z0 _ _
  refine (if_neg (by decide)).trans ?_
  exact xss_nil
  apply xss_nx
  apply xs_set
  exact ev_fn (evs_cons (ev_var rfl) (evs_cons (ev_var rfl) evs_nil)) hc4
  exact asgM_nm
  apply xss_nx
  apply xs_set
  apply ev_bop
  apply evb_cons (q := true)
  exact ev_fn (evs_cons (ev_var rfl) (evs_cons (ev_var rfl) (evs_cons ev_cst (evs_cons ev_cst evs_nil)))) (htold _ _ _)
  refine (if_pos rfl).trans ?_
  apply evb_one
  exact ev_fn (evs_cons (ev_var rfl) (evs_cons (ev_var rfl) (evs_cons ev_cst (evs_cons ev_cst evs_nil)))) (htold _ _ _)
  exact asgM_nm
  apply xss_nx
  apply xs_iff (q := false)
  apply ev_bop
  apply evb_cons (q := false)
  exact ev_not (j := true) (ev_var rfl)
  refine (if_pos rfl).trans ?_
  apply evb_one (q := false)
  apply ev_not (j := true)
  exact ev_fn (evs_cons (ev_var rfl) (evs_cons (ev_var rfl) (evs_cons (ev_var rfl) evs_nil))) hc5
  refine (if_neg (by decide)).trans ?_
  exact xss_nil
  apply xss_nx
  apply xs_for
  apply evi_rng1 (k := ((4 : Nat) : Int))
  exact ev_cst
  exact rOk_nat (by omega)
  rw [ranged0]
  exact hl6
  apply xss_rt
  apply xs_ret
  exact ev_fn (evs_cons (ev_var rfl) (evs_cons (ev_var rfl) (evs_cons ev_cst (evs_cons ev_cst evs_nil)))) (htold _ _ _)
  rfl
  rfl
end
end PL.K13

end
theorem PL.K13.has : PL.K13.Has (PLS.Dof K13.tab) := ⟨rfl, rfl, rfl, rfl, rfl, rfl, rfl, rfl, rfl, rfl, rfl, rfl, rfl, rfl, rfl, rfl, rfl, rfl, rfl, rfl, rfl, rfl, rfl, rfl, rfl, rfl, rfl, rfl, rfl, rfl, rfl, rfl, rfl, rfl⟩
namespace K13
theorem true_run : ∀ ns : List Int, ns.length ≤ 63 → ∃ M, PL.callN (PLS.Dof tab) 40 0 "law" [.cl (ns.map PL.V.int)] [] = .ok (.bl true) M := fun ns _ => PL.K13.law_run PL.K13.has 32 ns
end K13
open PySem PySem.W PySem.Calls PyProof.Rows
set_option maxHeartbeats 0 in
theorem PySem.Challenge.cw_keptthings_k13_what_tables_are_holds : PySem.Challenge.rw_keptthings_k13_what_tables_are.Holds := by
  w_on; o_law
  refine HandSHeadRun.head_any (r := OpenLaw.row PySem.Challenge.rw_keptthings_k13_what_tables_are) (q := view (OpenLaw.row PySem.Challenge.rw_keptthings_k13_what_tables_are).prog [37]) (H := K13.hk) (ob := K13.ob) (M := 3000) (loose := K13.others) (d := HandSHeadRun.topDef (OpenLaw.row PySem.Challenge.rw_keptthings_k13_what_tables_are).prog 37) (kwd := []) K13.ob_eq
    (by kernel_rfl) (fun s => by kernel_rfl) K13.run (by kernel_rfl) (by kernel_rfl) (by kernel_rfl) (by rfl) (by first | assumption | decide +kernel) (by decide +kernel) ⟨rfl, rfl, rfl, rfl, rfl, by decide +kernel⟩ ?hw ?hc
  case hw => w_witness2
  case hc =>
    exact PLS.walk_PL (tab := K13.tab) (cs := K13.cs) (l := PySem.Challenge.rw_keptthings_k13_what_tables_are) (k := 40) rfl (by kernel_rfl) (fun w h Y => Y) K13.checked rfl rfl (by kernel_rfl) K13.true_run ⟨rfl, by decide, by decide⟩
