import PyProof.Rows.All
import PyProof.ReprReads
import Wide.All
import OpenK.AllK
import Wide.FinOn
import HandS.Base
import HandS.Call
import HandS.List
import HandS.Comp
import HandS.Ends
import HandS.Dict
import HandS.Iter
import HandS.Text
import HandS.Exc
import HandS.ExcCtx
import HandS.ExcOwn
import HandS.TryOnly
import HandS.Words
import HandS.WordsList
import HandS.WordsDict
import HandS.WordsExc
import HandS.Wide
import HandS.TupAny
import HandS.IsInst
import HandS.DictComp
import HandS.DictTup
import HandS.TupLen
import HandS.Flow
import HandS.Deep
import HandS.Defaults
import KE.SortData
import KE.LtData
import KE.DataCmp
import KE.DataIsa
import HandS.TupMul
import KE.DataMinMax
import PyProof.SumWalkG
import PyProof.WalksMore
import HandS.Conv
import HandS.Head0
import HandS.Head1
import HandS.Head2
import HandS.HeadEnd
import HandS.HeadHook1
import HandS.HeadHook2
import KE.GoesMore
import KE.GoesEnum
import KE.SortLaws
import KE.GoesZip
import PyProof.LongRange
import HandS.Style
import KE.KIsAll
import KE.KExcSuper
import HandS.ExcInit
import HandS.More
import KE.KDictDisplayH
import PyProof.ListRange
import KE.KExcIs
import HandS.ExcField
import HandS.TryMany
import HandS.Sort
import KE.KDictList
import HandS.SetFor
import HandS.Strs
import PyProof.TupleOfSeq
import HandS.OwnEq
import PyProof.InstNe
import HandS.Nested
import HandS.Hot
import HandS.HotCalls
import KE.KStateDown
import PySem.Challenge.RW_wholestakes_k27_stakes_judged
set_option autoImplicit false
set_option linter.all false
/-! Dx: data by value, readings of statements over them (written for these claims). -/
namespace Dx
inductive D where
  | non | bl (b : Bool) | int (i : Int) | str (s : List Nat) | ref (a : Nat) | ty (n : String)
  | tup (xs : List D) | kt (xs : List D) | lst (xs : List D) | dic (t : Bool) (kvs : List (D × D)) | st (xs : List D) | obj (c : String) (fs : List D) | exc (a : Nat) (d : Option Nat) (c : String) (fs : List D)
/-- what a name holds: nothing known, a value that stays, a thing of its own that may still change -/
inductive SV where
  | no | va (d : D) | ow (d : D)
structure Xn where
  c : String
  fs : List D
abbrev L := List SV
def LIM : Nat := 16777216

section
variable {G : Type}
abbrev XW (G : Type) := Xn → L → G → Prop
abbrev DE (G : Type) := XW G → L → G → (D → L → G → Prop) → Prop
abbrev DT (G : Type) := XW G → L → G → (Bool → L → G → Prop) → Prop
abbrev DA (G : Type) := XW G → L → G → (List D → L → G → Prop) → Prop
structure En (G : Type) where
  nx : L → G → Prop
  rt : D → L → G → Prop
  rf : D → L → G → Prop := fun _ _ _ => False
  bk : L → G → Prop := fun _ _ => False
  ct : L → G → Prop := fun _ _ => False
abbrev DS (G : Type) := XW G → En G → L → G → Prop
/-- a def's promise -/
abbrev Ct (G : Type) := List D → G → (D → G → Prop) → (Xn → G → Prop) → Prop
/-- a target -/
abbrev Tg := D → L → (L → Prop) → Prop
abbrev Tgs := List D → L → (L → Prop) → Prop

/-! ### names, constants -/
def getV (l : L) (i : Nat) (k : D → Prop) : Prop := match l[i]? with
  | some (.va d) => k d
  | _ => False
def getO (l : L) (i : Nat) (k : D → Prop) : Prop := match l[i]? with
  | some (.ow d) => k d
  | _ => False
def dVar (i : Nat) : DE G := fun _ l g Q => getV l i fun d => Q d l g
/-- an own thing is let go: it stays from now on -/
def dFz (i : Nat) : DE G := fun _ l g Q => getO l i fun d => Q d (l.set i (.va d)) g
def dC (d : D) : DE G := fun _ l g Q => Q d l g

/-! ### operators on values -/
def MulOk (i j : Int) : Prop := (-(2 ^ 64) < i ∧ i < 2 ^ 64) ∨ (-(2 ^ 64) < j ∧ j < 2 ^ 64) ∨ ∃ m n : Nat, i.natAbs < 2 ^ m ∧ j.natAbs < 2 ^ n ∧ m + n ≤ 1000000
def DivOk (i j : Int) : Prop := 0 < j ∧ (j < 1073741824 ∨ ∃ m n : Nat, i.natAbs < 2 ^ m ∧ j.natAbs < 2 ^ n ∧ m ≤ 1000000 ∧ n ≤ 8000)
abbrev W2 := D → D → (D → Prop) → Prop
abbrev W1 := D → (D → Prop) → Prop
def wAdd : W2 := fun x y k => match x, y with
  | .int i, .int j => k (.int (i + j))
  | .str a, .str b => a.length + b.length ≤ LIM ∧ k (.str (a ++ b))
  | .lst a, .lst b => a.length + b.length ≤ LIM ∧ k (.lst (a ++ b))
  | .tup a, .tup b => a.length + b.length ≤ LIM ∧ k (.tup (a ++ b))
  | _, _ => False
/-- of two lists, to be a new one -/
def wCat : W2 := fun x y k => match x, y with
  | .lst a, .lst b => a.length + b.length ≤ LIM ∧ k (.lst (a ++ b))
  | _, _ => False
def wRep : W2 := fun x y k => match x, y with
  | .lst a, .int j => j ≤ 1000000 ∧ -1000000 ≤ j ∧ a.length * j.toNat ≤ LIM ∧ k (.lst (List.replicate j.toNat a).flatten)
  | _, _ => False
def wAddI : W2 := fun x y k => match x, y with
  | .int i, .int j => k (.int (i + j))
  | _, _ => False
def wSub : W2 := fun x y k => match x, y with
  | .int i, .int j => k (.int (i - j))
  | _, _ => False
def wMul : W2 := fun x y k => match x, y with
  | .int i, .int j => MulOk i j ∧ k (.int (i * j))
  | .lst a, .int j => j ≤ 1000000 ∧ -1000000 ≤ j ∧ a.length * j.toNat ≤ LIM ∧ k (.lst (List.replicate j.toNat a).flatten)
  | .tup a, .int j => a ≠ [] ∧ 1 ≤ j ∧ j ≤ 1000 ∧ a.length ≤ 1000 ∧ k (.tup (List.replicate j.toNat a).flatten)
  | _, _ => False
def wDiv : W2 := fun x y k => match x, y with
  | .int i, .int j => DivOk i j ∧ k (.int (i / j))
  | _, _ => False
def wMod : W2 := fun x y k => match x, y with
  | .int i, .int j => 0 < j ∧ k (.int (i % j))
  | _, _ => False
def wPow : W2 := fun x y k => match x, y with
  | .int i, .int j => (0 ≤ j ∧ j ≤ 1000000 ∧ i.natAbs < 2 ^ 64) ∧ k (.int (i ^ j.toNat))
  | _, _ => False
def wNeg : W1 := fun x k => match x with
  | .int i => k (.int (-i))
  | _ => False
mutual
/-- x == y, as Python says it of data -/
def deq : D → D → Bool
  | .non, .non => true
  | .bl a, .bl b => a == b
  | .bl a, .int j => decide ((if a then 1 else 0 : Int) = j)
  | .int i, .bl b => decide (i = (if b then 1 else 0 : Int))
  | .int i, .int j => decide (i = j)
  | .str a, .str b => decide (a = b)
  | .tup xs, .tup ys => deqs xs ys
  | .kt xs, .kt ys => deqs xs ys
  | .kt xs, .tup ys => deqs xs ys
  | .tup xs, .kt ys => deqs xs ys
  | .lst xs, .lst ys => deqs xs ys
  | _, _ => false
def deqs : List D → List D → Bool
  | [], [] => true
  | x :: xs, y :: ys => deq x y && deqs xs ys
  | _, _ => false
end
mutual
/-- data that == is told of: no objects, dicts, sets -/
def pla : D → Bool
  | .non => true
  | .bl _ => true
  | .int _ => true
  | .str s => s.all fun c => decide (c < 128)
  | .tup xs => plas xs
  | .kt xs => plas xs
  | .lst xs => plas xs
  | _ => false
def plas : List D → Bool
  | [] => true
  | x :: xs => pla x && plas xs
end
mutual
def dep : D → Nat
  | .tup xs => deps xs + 1
  | .kt xs => deps xs + 1
  | .lst xs => deps xs + 1
  | _ => 0
def deps : List D → Nat
  | [] => 0
  | x :: xs => max (dep x) (deps xs)
end
mutual
/-- both can be compared by < -/
def lik : D → D → Bool
  | .non, .non => true
  | .bl _, .bl _ => true
  | .int _, .int _ => true
  | .str _, .str _ => true
  | .tup xs, .tup ys => liks xs ys
  | .lst xs, .lst ys => liks xs ys
  | _, _ => false
def liks : List D → List D → Bool
  | x :: xs, y :: ys => lik x y && liks xs ys
  | _, _ => true
end
def sLt (a b : List Nat) : Bool := decide (a < b)
mutual
/-- x < y for such -/
def dlt : D → D → Bool
  | .bl a, .bl b => !a && b
  | .int i, .int j => decide (i < j)
  | .str a, .str b => sLt a b
  | .tup xs, .tup ys => dlts xs ys
  | .lst xs, .lst ys => dlts xs ys
  | _, _ => false
def dlts : List D → List D → Bool
  | [], [] => false
  | [], _ :: _ => true
  | _ :: _, [] => false
  | x :: xs, y :: ys => if deq x y then dlts xs ys else dlt x y
end
def eqOk (x y : D) : Prop := pla x = true ∧ pla y = true ∧ dep x ≤ 60 ∧ dep y ≤ 60
def wEq : W2 := fun x y k => eqOk x y ∧ k (.bl (deq x y))
def wNe : W2 := fun x y k => eqOk x y ∧ k (.bl (!deq x y))
def isNon : D → Bool
  | .non => true
  | _ => false
def wIsN : W2 := fun x y k => match y with
  | .non => k (.bl (isNon x))
  | _ => False
def wNotN : W2 := fun x y k => match y with
  | .non => k (.bl (!isNon x))
  | _ => False
def wLt : W2 := fun x y k => match x, y with
  | .int i, .int j => k (.bl (decide (i < j)))
  | .str a, .str b => (pla (.str a) = true ∧ pla (.str b) = true) ∧ k (.bl (sLt a b))
  | .tup a, .tup b => (liks a b = true ∧ dep (.tup a) ≤ 60 ∧ pla (.tup a) = true ∧ pla (.tup b) = true) ∧ k (.bl (dlts a b))
  | _, _ => False
def wLe : W2 := fun x y k => match x, y with
  | .int i, .int j => k (.bl (decide (i ≤ j)))
  | _, _ => False
def wGt : W2 := fun x y k => match x, y with
  | .int i, .int j => k (.bl (decide (j < i)))
  | _, _ => False
def wGe : W2 := fun x y k => match x, y with
  | .int i, .int j => k (.bl (decide (j ≤ i)))
  | _, _ => False
def keyD : D → Bool
  | .int _ => true
  | .str _ => true
  | _ => false
/-- a dict's key: an int or a text; t: a tuple of such -/
def keyK (t : Bool) : D → Bool
  | .int _ => !t
  | .str _ => !t
  | .tup xs => t && xs.all keyD
  | _ => false
def look (kvs : List (D × D)) (x : D) : Option D := (kvs.find? fun p => deq p.1 x).map (·.2)
def put (kvs : List (D × D)) (x v : D) : List (D × D) :=
  if (kvs.any fun p => deq p.1 x) = true then kvs.map (fun p => if deq p.1 x = true then (p.1, v) else p) else kvs ++ [(x, v)]
def flat : D → Bool
  | .non => true
  | .bl _ => true
  | .int _ => true
  | .str _ => true
  | _ => false
def wIn : W2 := fun x y k => match y with
  | .lst ys => (flat x = true ∧ ys.all flat = true) ∧ k (.bl (ys.any fun z => deq z x))
  | .tup ys => (flat x = true ∧ ys.all flat = true) ∧ k (.bl (ys.any fun z => deq z x))
  | .dic t kvs => keyK t x = true ∧ k (.bl (look kvs x).isSome)
  | .str s => match x with
    | .str [c] => k (.bl (decide (c ∈ s)))
    | _ => False
  | _ => False
def wNin : W2 := fun x y k => match y with
  | .lst ys => (flat x = true ∧ ys.all flat = true) ∧ k (.bl (!ys.any fun z => deq z x))
  | .tup ys => (flat x = true ∧ ys.all flat = true) ∧ k (.bl (!ys.any fun z => deq z x))
  | .dic t kvs => keyK t x = true ∧ k (.bl (!(look kvs x).isSome))
  | .str s => match x with
    | .str [c] => k (.bl (!decide (c ∈ s)))
    | _ => False
  | _ => False
/-- of lists of data of any depth -/
def wInD : W2 := fun x y k => match y with
  | .lst ys => eqOk x (.lst ys) ∧ k (.bl (ys.any fun z => deq z x))
  | _ => False
def wNinD : W2 := fun x y k => match y with
  | .lst ys => eqOk x (.lst ys) ∧ k (.bl (!ys.any fun z => deq z x))
  | _ => False
/-- the place of an index -/
def ixAt (n : Nat) (i : Int) : Option Nat := if 0 ≤ i then (if i < n then some i.toNat else none) else (if -(n : Int) ≤ i then some (i + n).toNat else none)
def wIx : W2 := fun x y k => match x, y with
  | .lst xs, .int i => ∃ d, (ixAt xs.length i).bind (fun j => xs[j]?) = some d ∧ k d
  | .tup xs, .int i => ∃ d, (ixAt xs.length i).bind (fun j => xs[j]?) = some d ∧ k d
  | .kt xs, .int i => ∃ d, (ixAt xs.length i).bind (fun j => xs[j]?) = some d ∧ k d
  | .str s, .int i => ∃ c, (ixAt s.length i).bind (fun j => s[j]?) = some c ∧ s.length ≤ LIM ∧ k (.str [c])
  | _, _ => False
/-- d[k] -/
def wIxD : W2 := fun x y k => match x with
  | .dic t kvs => ∃ d, keyK t y = true ∧ look kvs y = some d ∧ k d
  | _ => False
/-- the j-th field of an object of one of these classes -/
def wFld (cs : List String) (j : Nat) : W1 := fun x k => match x with
  | .obj c fs => c ∈ cs ∧ ∃ d, fs[j]? = some d ∧ k d
  | _ => False

/-! ### expressions -/
def dBin (w : W2) (a b : DE G) : DE G := fun ex l g Q => a ex l g fun x l1 g1 => b ex l1 g1 fun y l2 g2 => w x y fun z => Q z l2 g2
def dUn (w : W1) (a : DE G) : DE G := fun ex l g Q => a ex l g fun x l1 g1 => w x fun z => Q z l1 g1
/-- an own thing, looked into -/
def dBinO (w : W2) (i : Nat) (b : DE G) : DE G := fun ex l g Q => getO l i fun _ => b ex l g fun y l1 g1 => getO l1 i fun x => w x y fun z => Q z l1 g1
def dBinR (w : W2) (a : DE G) (i : Nat) : DE G := fun ex l g Q => a ex l g fun x l1 g1 => getO l1 i fun y => w x y fun z => Q z l1 g1
def dUnO (w : W1) (i : Nat) : DE G := fun ex l g Q => getO l i fun x => w x fun z => Q z l g
def dChain (w w' : W2) (a b c : DE G) : DE G := fun ex l g Q => a ex l g fun x l1 g1 => b ex l1 g1 fun y l2 g2 => w x y fun z => match z with
  | .bl true => c ex l2 g2 fun u l3 g3 => w' y u fun z => Q z l3 g3
  | .bl false => Q (.bl false) l2 g2
  | _ => False
def aNil : DA G := fun _ l g Q => Q [] l g
def aCons (a : DE G) (r : DA G) : DA G := fun ex l g Q => a ex l g fun x l1 g1 => r ex l1 g1 fun xs l2 g2 => Q (x :: xs) l2 g2
def dTup (a : DA G) : DE G := fun ex l g Q => a ex l g fun xs l1 g1 => xs.length ≤ LIM ∧ Q (.tup xs) l1 g1
/-- a new list -/
def dLst (a : DA G) : DE G := fun ex l g Q => a ex l g fun xs l1 g1 => xs.length ≤ LIM ∧ Q (.lst xs) l1 g1
def dCall (c : Ct G) (a : DA G) : DE G := fun ex l g Q => a ex l g fun ds l1 g1 => c ds g1 (fun d g2 => Q d l1 g2) fun x g2 => ex x l1 g2
/-- a built-in, by values -/
abbrev WA := List D → (D → Prop) → Prop
def dB (w : WA) (a : DA G) : DE G := fun ex l g Q => a ex l g fun ds l1 g1 => w ds fun d => Q d l1 g1
def dBO (w : WA) (i : Nat) : DE G := fun ex l g Q => getO l i fun d => w [d] fun d => Q d l g
def dIf (t : DT G) (a b : DE G) : DE G := fun ex l g Q => t ex l g fun c l1 g1 => if c = true then a ex l1 g1 Q else b ex l1 g1 Q

/-! ### tests -/
def tVal (a : DE G) : DT G := fun ex l g Q => a ex l g fun x l1 g1 => match x with
  | .bl b => Q b l1 g1
  | _ => False
def tAnd (t u : DT G) : DT G := fun ex l g Q => t ex l g fun c l1 g1 => if c = true then u ex l1 g1 Q else Q false l1 g1
def tOr (t u : DT G) : DT G := fun ex l g Q => t ex l g fun c l1 g1 => if c = true then Q true l1 g1 else u ex l1 g1 Q
def tNot (t : DT G) : DT G := fun ex l g Q => t ex l g fun c l1 g1 => Q (!c) l1 g1
/-- .. as values, all parts flags -/
def dAnd (a b : DE G) : DE G := fun ex l g Q => a ex l g fun x l1 g1 => match x with
  | .bl true => b ex l1 g1 Q
  | .bl false => Q (.bl false) l1 g1
  | _ => False
def dOr (a b : DE G) : DE G := fun ex l g Q => a ex l g fun x l1 g1 => match x with
  | .bl true => Q (.bl true) l1 g1
  | .bl false => b ex l1 g1 Q
  | _ => False
def dNot (a : DE G) : DE G := fun ex l g Q => a ex l g fun x l1 g1 => match x with
  | .bl b => Q (.bl (!b)) l1 g1
  | _ => False

/-! ### slices -/
def sIx (n d : Nat) : Option Int → Nat
  | none => d
  | some v => if v < 0 then (v + (n : Int)).toNat else min v.toNat n
def cut {α : Type} (xs : List α) (lo hi : Option Int) : List α := (xs.drop (sIx xs.length 0 lo)).take (sIx xs.length xs.length hi - sIx xs.length 0 lo)
abbrev DO (G : Type) := XW G → L → G → (Option Int → L → G → Prop) → Prop
def oNo : DO G := fun _ l g Q => Q none l g
def oSo (a : DE G) : DO G := fun ex l g Q => a ex l g fun d l1 g1 => match d with
  | .int i => Q (some i) l1 g1
  | _ => False
def wSl (d : D) (lo hi : Option Int) (k : D → Prop) : Prop := match d with
  | .lst xs => k (.lst (cut xs lo hi))
  | .tup xs => k (.tup (cut xs lo hi))
  | .str s => s.length ≤ LIM ∧ k (.str (cut s lo hi))
  | _ => False
def dSl (a : DE G) (lo hi : DO G) : DE G := fun ex l g Q => a ex l g fun d l1 g1 => lo ex l1 g1 fun u l2 g2 => hi ex l2 g2 fun v l3 g3 => wSl d u v fun z => Q z l3 g3
/-- of a list, to be a new one -/
def dSlF (a : DE G) (lo hi : DO G) : DE G := fun ex l g Q => a ex l g fun d l1 g1 => lo ex l1 g1 fun u l2 g2 => hi ex l2 g2 fun v l3 g3 => match d with
  | .lst xs => Q (.lst (cut xs u v)) l3 g3
  | _ => False
/-! ### "".join -/
def joinL (S : List Nat) : List (List Nat) → List Nat
  | [] => []
  | [p] => p
  | p :: q :: r => p ++ (S ++ joinL S (q :: r))
def dJoin (s a : DE G) : DE G := fun ex l g Q => s ex l g fun sd l1 g1 => a ex l1 g1 fun d l2 g2 => match sd, d with
  | .str s, .lst xs => ∃ ys : List (List Nat), xs = ys.map .str ∧ (ys.map (·.length)).sum + ys.length * s.length ≤ LIM ∧ Q (.str (joinL s ys)) l2 g2
  | _, _ => False
/-! ### built-ins -/
def bLen : WA := fun ds k => match ds with
  | [.lst xs] => xs.length ≤ LIM ∧ k (.int xs.length)
  | [.tup xs] => xs.length ≤ LIM ∧ k (.int xs.length)
  | [.str s] => s.length ≤ LIM ∧ k (.int s.length)
  | [.dic _ kvs] => kvs.length ≤ LIM ∧ k (.int kvs.length)
  | _ => False
def bSum : WA := fun ds k => match ds with
  | [.lst xs] => ∃ ns : List Int, xs = ns.map .int ∧ k (.int ns.sum)
  | [.tup xs] => ∃ ns : List Int, xs = ns.map .int ∧ k (.int ns.sum)
  | _ => False
/-- least and greatest of data -/
def mmOk (xs : List D) : Prop := xs ≠ [] ∧ (∀ x ∈ xs, pla x = true ∧ dep x ≤ 60 ∧ x ≠ .non) ∧ ∀ x ∈ xs, ∀ y ∈ xs, lik x y = true
def bMinD : WA := fun ds k => match ds with
  | [.lst xs] => mmOk xs ∧ ∀ m ∈ xs, (∀ y ∈ xs, dlt y m = false) → k m
  | [.tup xs] => mmOk xs ∧ ∀ m ∈ xs, (∀ y ∈ xs, dlt y m = false) → k m
  | _ => False
def bMaxD : WA := fun ds k => match ds with
  | [.lst xs] => mmOk xs ∧ ∀ m ∈ xs, (∀ y ∈ xs, dlt m y = false) → k m
  | [.tup xs] => mmOk xs ∧ ∀ m ∈ xs, (∀ y ∈ xs, dlt m y = false) → k m
  | _ => False
def bAll : WA := fun ds k => match ds with
  | [.lst xs] => ∃ bs : List Bool, xs = bs.map .bl ∧ k (.bl (bs.all id))
  | _ => False
def bAny : WA := fun ds k => match ds with
  | [.lst xs] => ∃ bs : List Bool, xs = bs.map .bl ∧ k (.bl (bs.any id))
  | _ => False
def bMaxL : WA := fun ds k => match ds with
  | [.lst xs] => ∃ ns : List Int, xs = ns.map .int ∧ ns ≠ [] ∧ ∀ m, m ∈ ns → (∀ y, y ∈ ns → y ≤ m) → k (.int m)
  | _ => False
def bMinL : WA := fun ds k => match ds with
  | [.lst xs] => ∃ ns : List Int, xs = ns.map .int ∧ ns ≠ [] ∧ ∀ m, m ∈ ns → (∀ y, y ∈ ns → m ≤ y) → k (.int m)
  | _ => False
def bMax2 : WA := fun ds k => match ds with
  | [.int i, .int j] => k (.int (if j > i then j else i))
  | _ => False
def bMin2 : WA := fun ds k => match ds with
  | [.int i, .int j] => k (.int (if j < i then j else i))
  | _ => False
def bAbs : WA := fun ds k => match ds with
  | [.int i] => k (.int (if i < 0 then -i else i))
  | _ => False
def bInt : WA := fun ds k => match ds with
  | [.int i] => k (.int i)
  | [.bl b] => k (.int (if b then 1 else 0))
  | _ => False
/-- the built-in classes that isinstance is asked for -/
def isTy (n : String) : D → Bool
  | .non => n == "NoneType"
  | .bl _ => n == "bool" || n == "int"
  | .int _ => n == "int"
  | .str _ => n == "str"
  | .tup _ => n == "tuple"
  | .lst _ => n == "list"
  | .dic _ _ => n == "dict"
  | .st _ => n == "set"
  | _ => false
def nref : D → Bool
  | .ref _ => false
  | .kt _ => false
  | .ty _ => false
  | .st _ => false
  | .exc _ _ _ _ => false
  | _ => true
def dIs (ns : List String) (a : DE G) : DE G := fun ex l g Q => a ex l g fun d l1 g1 => nref d = true ∧ Q (.bl (ns.any fun n => isTy n d)) l1 g1
def dIsO (ns : List String) (i : Nat) : DE G := fun ex l g Q => getO l i fun d => Q (.bl (ns.any fun n => isTy n d)) l g
/-- a new tuple of the items -/
def bTuple : WA := fun ds k => match ds with
  | [.lst xs] => xs.length ≤ LIM ∧ k (.tup xs)
  | [.tup xs] => k (.tup xs)
  | _ => False
/-- a new list -/
def bList : WA := fun ds k => match ds with
  | [.lst xs] => xs.length ≤ LIM ∧ k (.lst xs)
  | [.tup xs] => xs.length ≤ LIM ∧ k (.lst xs)
  | _ => False

/-! ### what is walked -/
abbrev DI (G : Type) := XW G → L → G → (List D → L → G → Prop) → Prop
def items (d : D) (k : List D → Prop) : Prop := match d with
  | .lst xs => k xs
  | .tup xs => k xs
  | .str s => s.length ≤ LIM ∧ k (s.map fun c => .str [c])
  | _ => False
def rng (lo : Int) (n : Nat) : List D := (List.range n).map fun (i : Nat) => D.int (lo + i)
def iE (a : DE G) : DI G := fun ex l g Q => a ex l g fun d l1 g1 => items d fun xs => Q xs l1 g1
def iR1 (a : DE G) : DI G := fun ex l g Q => a ex l g fun d l1 g1 => match d with
  | .int n => -(2 ^ 62) ≤ n ∧ n < 2 ^ 62 ∧ Q (rng 0 n.toNat) l1 g1
  | _ => False
def iR2 (a b : DE G) : DI G := fun ex l g Q => a ex l g fun d l1 g1 => b ex l1 g1 fun e l2 g2 => match d, e with
  | .int m, .int n => (-(2 ^ 62) ≤ m ∧ m < 2 ^ 62 ∧ -(2 ^ 62) ≤ n ∧ n < 2 ^ 62) ∧ Q (rng m (n - m).toNat) l2 g2
  | _, _ => False
/-- .. of any size -/
def iR2W (a b : DE G) : DI G := fun ex l g Q => a ex l g fun d l1 g1 => b ex l1 g1 fun e l2 g2 => match d, e with
  | .int m, .int n => Q (rng m (n - m).toNat) l2 g2
  | _, _ => False
/-- with its place -/
def numd (xs : List D) : List D := (List.range xs.length).zipWith (fun (i : Nat) x => D.tup [.int i, x]) xs
def iEnum (a : DE G) : DI G := fun ex l g Q => a ex l g fun d l1 g1 => match d with
  | .lst xs => Q (numd xs) l1 g1
  | _ => False
def zipd (xs ys : List D) : List D := List.zipWith (fun x y => D.tup [x, y]) xs ys
def iZip (a b : DE G) : DI G := fun ex l g Q => a ex l g fun d l1 g1 => b ex l1 g1 fun e l2 g2 => match d, e with
  | .lst xs, .lst ys => Q (zipd xs ys) l2 g2
  | .lst xs, .tup ys => Q (zipd xs ys) l2 g2
  | .tup xs, .lst ys => Q (zipd xs ys) l2 g2
  | .tup xs, .tup ys => Q (zipd xs ys) l2 g2
  | _, _ => False
/-- list(range(..)), tuple(range(..)) -/
def dLR (it : DI G) : DE G := fun ex l g Q => it ex l g fun xs l1 g1 => xs.length ≤ LIM ∧ Q (.lst xs) l1 g1
def dTR (it : DI G) : DE G := fun ex l g Q => it ex l g fun xs l1 g1 => xs.length ≤ LIM ∧ Q (.tup xs) l1 g1
/-! ### targets -/
def gNm (i : Nat) : Tg := fun v l k => k (l.set i (.va v))
def gsNil : Tgs := fun vs l k => vs = [] ∧ k l
def gsCons (t : Tg) (r : Tgs) : Tgs := fun vs l k => match vs with
  | [] => False
  | v :: vs => t v l fun l1 => r vs l1 k
def gTp (n : Nat) (t : Tgs) : Tg := fun v l k => match v with
  | .tup xs => xs.length = n ∧ t xs l k
  | .kt xs => xs.length = n ∧ t xs l k
  | _ => False
/-! ### comprehensions -/
def wipeL (l : L) : List Nat → L
  | [] => l
  | v :: vs => (wipeL l vs).set v .no
def noOw (l : L) (vs : List Nat) : Bool := vs.all fun v => match l[v]? with
  | some (.ow _) => false
  | _ => true
def noX : XW G := fun _ _ _ => False
/-- [elt for t in it if c]: I by the turn, what is made so far -/
def dComp (it : DI G) (t : Tg) (c : DT G) (e : DE G) (vs : List Nat) : DE G := fun ex l g Q => it ex l g fun xs l1 g1 => noOw l1 vs = true ∧ ∃ I : Nat → List D → G → Prop, I 0 [] g1 ∧
  (∀ i x acc g, xs[i]? = some x → I i acc g → t x (wipeL l1 vs) fun l2 => wipeL l2 vs = wipeL l1 vs ∧ c noX l2 g fun b l3 g3 => wipeL l3 vs = wipeL l1 vs ∧
    if b = true then e noX l3 g3 fun y l4 g4 => wipeL l4 vs = wipeL l1 vs ∧ acc.length < LIM ∧ I (i + 1) (acc ++ [y]) g4 else I (i + 1) acc g3) ∧
  ∀ acc g, I xs.length acc g → Q (.lst acc) l1 g
/-- {kx: vx for t in it if c} -/
def dDC (tt : Bool) (it : DI G) (t : Tg) (c : DT G) (kx vx : DE G) (vs : List Nat) : DE G := fun ex l g Q => it ex l g fun xs l1 g1 => noOw l1 vs = true ∧ ∃ I : Nat → List (D × D) → G → Prop, I 0 [] g1 ∧
  (∀ i x acc g, xs[i]? = some x → I i acc g → t x (wipeL l1 vs) fun l2 => wipeL l2 vs = wipeL l1 vs ∧ c noX l2 g fun b l3 g3 => wipeL l3 vs = wipeL l1 vs ∧
    if b = true then kx noX l3 g3 fun y l4 g4 => vx noX l4 g4 fun z l5 g5 => wipeL l5 vs = wipeL l1 vs ∧ acc.length < LIM ∧ keyK tt y = true ∧ I (i + 1) (put acc y z) g5 else I (i + 1) acc g3) ∧
  ∀ acc g, I xs.length acc g → Q (.dic tt acc) l1 g
def cYes : DT G := fun _ l g Q => Q true l g

/-! ### statements -/
def sNil : DS G := fun _ E l g => E.nx l g
def sSeq (a b : DS G) : DS G := fun ex E l g => a ex { E with nx := fun l1 g1 => b ex E l1 g1 } l g
def sSet (i : Nat) (a : DE G) : DS G := fun ex E l g => a ex l g fun d l1 g1 => E.nx (l1.set i (.va d)) g1
/-- a new thing, to be changed by this name alone -/
def sOwn (i : Nat) (a : DE G) : DS G := fun ex E l g => a ex l g fun d l1 g1 => E.nx (l1.set i (.ow d)) g1
def sTgt (t : Tg) (a : DE G) : DS G := fun ex E l g => a ex l g fun d l1 g1 => t d l1 fun l2 => E.nx l2 g1
def sDrop (a : DE G) : DS G := fun ex E l g => a ex l g fun _ l1 g1 => E.nx l1 g1
def sRet (a : DE G) : DS G := fun ex E l g => a ex l g fun d l1 g1 => E.rt d l1 g1
/-- a new thing is handed out, to be changed by its taker -/
def sRetF (a : DE G) : DS G := fun ex E l g => a ex l g fun d l1 g1 => E.rf d l1 g1
/-- an own thing, let go as it is -/
def dOwn (i : Nat) : DE G := fun _ l g Q => getO l i fun d => Q d (l.set i .no) g
def sRetN : DS G := fun _ E l g => E.rt .non l g
def sIf (t : DT G) (a b : DS G) : DS G := fun ex E l g => t ex l g fun c l1 g1 => if c = true then a ex E l1 g1 else b ex E l1 g1
def sPass : DS G := fun _ E l g => E.nx l g
def sBreak : DS G := fun _ E l g => E.bk l g
def sCont : DS G := fun _ E l g => E.ct l g
/-- raise c() -/
def sRaise (c : String) : DS G := fun ex _ l g => ex ⟨c, []⟩ l g
/-- class c is h or below it; the classes are those of the program's errors -/
def xSub (c h : String) : Bool := c == h || h == "StakeError" || h == "ValueError"
/-- a clause: its class, its name's slot, its suite by what was caught -/
structure Hd (G : Type) where
  c : String
  i : Option Nat
  b : D → DS G
def hdRun (h : Hd G) (e : D) (E : En G) (l : L) (g : G) : Prop := match h.i with
  | none => h.b e (fun _ _ _ => False) E l g
  | some i => h.b e (fun _ _ _ => False) { E with nx := fun l1 g1 => E.nx (l1.set i .no) g1, bk := fun l1 g1 => E.bk (l1.set i .no) g1, ct := fun l1 g1 => E.ct (l1.set i .no) g1 } (l.set i (.va e)) g
def hdAll (ex : XW G) (E : En G) : List (Hd G) → Xn → L → G → Prop
  | [], x, l, g => ex x l g
  | h :: r, x, l, g => if xSub x.c h.c = true then ∀ a d, (x.fs = [] ↔ d = none) → hdRun h (.exc a d x.c x.fs) E l g else hdAll ex E r x l g
/-- try: b, except ..; cs: the classes that may be caught -/
def sTry (cs : List String) (b : DS G) (hs : List (Hd G)) : DS G := fun ex E l g => b (fun x l1 g1 => x.c ∈ cs ∧ hdAll ex E hs x l1 g1) E l g
/-- isinstance(e, h) -/
def dIsX (i : Nat) (e : D) (h : String) : DE G := fun _ l g Q => getV l i fun v => v = e ∧ match e with
  | .exc _ _ c _ => Q (.bl (xSub c h)) l g
  | _ => False
/-- e.f, the j-th field -/
def dXf (i : Nat) (e : D) (j : Nat) : DE G := fun _ l g Q => getV l i fun v => v = e ∧ match e with
  | .exc _ _ _ fs => ∃ d, fs[j]? = some d ∧ Q d l g
  | _ => False
/-- what cannot be reached -/
def sNever : DS G := fun _ _ _ _ => False
def sAug (i : Nat) (w : W2) (a : DE G) : DS G := fun ex E l g => getV l i fun x => a ex l g fun y l1 g1 => w x y fun z => E.nx (l1.set i (.va z)) g1
/-- own.append(a) -/
def sApp (i : Nat) (a : DE G) : DS G := fun ex E l g => getO l i fun d0 => match d0 with
  | .lst _ => a ex l g fun y l1 g1 => getO l1 i fun d => match d with
    | .lst xs => xs.length < LIM ∧ E.nx (l1.set i (.ow (.lst (xs ++ [y])))) g1
    | _ => False
  | _ => False
/-- own.pop() -/
def dPop (i : Nat) : DE G := fun _ l g Q => getO l i fun d => match d with
  | .lst xs => ∃ y, xs[xs.length - 1]? = some y ∧ Q y (l.set i (.ow (.lst xs.dropLast))) g
  | _ => False
/-- own[k] = a : the value first -/
def sPut (i : Nat) (kx a : DE G) : DS G := fun ex E l g => a ex l g fun y l1 g1 => getO l1 i fun _ => kx ex l1 g1 fun kd l2 g2 => getO l2 i fun d => match d with
  | .lst xs => match kd with
    | .int n => ∃ j, ixAt xs.length n = some j ∧ E.nx (l2.set i (.ow (.lst (xs.set j y)))) g2
    | _ => False
  | _ => False
def sPutD (i : Nat) (kx a : DE G) : DS G := fun ex E l g => a ex l g fun y l1 g1 => getO l1 i fun _ => kx ex l1 g1 fun kd l2 g2 => getO l2 i fun d => match d with
  | .dic t kvs => keyK t kd = true ∧ kvs.length < LIM ∧ E.nx (l2.set i (.ow (.dic t (put kvs kd y)))) g2
  | _ => False
/-- a new dict -/
def dDic (t : Bool) : DE G := fun _ l g Q => Q (.dic t []) l g
/-- d.get(k), d.get(k, x) -/
def dGet1 (a kx : DE G) : DE G := fun ex l g Q => a ex l g fun d l1 g1 => kx ex l1 g1 fun kd l2 g2 => match d with
  | .dic t kvs => keyK t kd = true ∧ Q ((look kvs kd).getD .non) l2 g2
  | _ => False
def dGet2 (a kx x : DE G) : DE G := fun ex l g Q => a ex l g fun d l1 g1 => kx ex l1 g1 fun kd l2 g2 => x ex l2 g2 fun z l3 g3 => match d with
  | .dic t kvs => keyK t kd = true ∧ Q ((look kvs kd).getD z) l3 g3
  | _ => False
def sFor (it : DI G) (t : Tg) (b : DS G) : DS G := fun ex E l g => it ex l g fun xs l1 g1 => ∃ I : Nat → L → G → Prop, I 0 l1 g1 ∧
  (∀ i x l g, xs[i]? = some x → I i l g → t x l fun l2 => b ex { E with nx := I (i + 1), ct := I (i + 1), bk := E.nx } l2 g) ∧ ∀ l g, I xs.length l g → E.nx l g
/-- over an own list that stays as it is meanwhile -/
def sForO (j : Nat) (t : Tg) (b : DS G) : DS G := fun ex E l g => getO l j fun d => match d with
  | .lst xs => ∃ I : Nat → L → G → Prop, I 0 l g ∧ (∀ i l g, I i l g → l[j]? = some (.ow (.lst xs))) ∧
    (∀ i x l g, xs[i]? = some x → I i l g → t x l fun l2 => b ex { E with nx := I (i + 1), ct := I (i + 1), bk := E.nx } l2 g) ∧ ∀ l g, I xs.length l g → E.nx l g
  | _ => False
def sWhile (t : DT G) (b : DS G) : DS G := fun ex E l g => ∃ I : Nat → L → G → Prop, (∃ m, I m l g) ∧ ∀ m l g, I m l g →
  t ex l g fun c l1 g1 => if c = true then b ex { E with nx := fun l2 g2 => ∃ m', m' < m ∧ I m' l2 g2, ct := fun l2 g2 => ∃ m', m' < m ∧ I m' l2 g2, bk := E.nx } l1 g1 else E.nx l1 g1

/-! ### the script, and lists that are changed from many places -/
end
/-- the script at scr; the lists that several hands change, by their addresses -/
structure Gm where
  scr : Nat
  ns : List Int
  trk : Bool
  st : Nat → Option (List D)
def gset (g : Gm) (a : Nat) (xs : List D) : Gm := { g with st := fun b => if b = a then some xs else g.st b }
def scl : D → Bool
  | .non => true
  | .bl _ => true
  | .int _ => true
  | .str _ => true
  | .ref _ => true
  | _ => false
/-- the script's slice, a new list; its length; a list of it -/
def zSl (i : Nat) (lo hi : DO Gm) : DE Gm := fun ex l g Q => getV l i fun x => lo ex l g fun u l1 g1 => hi ex l1 g1 fun v l2 g2 => x = .ref g2.scr ∧ Q (.lst (cut (g2.ns.map .int) u v)) l2 g2
def zLen (i : Nat) : DE Gm := fun _ l g Q => getV l i fun x => x = .ref g.scr ∧ Q (.int g.ns.length) l g
def zList (i : Nat) : DE Gm := fun _ l g Q => getV l i fun x => x = .ref g.scr ∧ Q (.lst (g.ns.map .int)) l g
def mIx (a b : DE Gm) : DE Gm := fun ex l g Q => a ex l g fun x l1 g1 => b ex l1 g1 fun y l2 g2 => match x with
  | .ref p => match y with
    | .int i => ∃ xs d, g2.st p = some xs ∧ (ixAt xs.length i).bind (fun j => xs[j]?) = some d ∧ Q d l2 g2
    | _ => False
  | _ => False
def mLen (a : DE Gm) : DE Gm := fun ex l g Q => a ex l g fun x l1 g1 => match x with
  | .ref p => ∃ xs, g1.st p = some xs ∧ Q (.int xs.length) l1 g1
  | _ => False
/-- of whole numbers -/
def mSum (a : DE Gm) : DE Gm := fun ex l g Q => a ex l g fun x l1 g1 => match x with
  | .ref p => ∃ ns : List Int, g1.st p = some (ns.map .int) ∧ Q (.int ns.sum) l1 g1
  | _ => False
/-- o[k] = v -/
def sMSet (o kx v : DE Gm) : DS Gm := fun ex E l g => v ex l g fun y l1 g1 => o ex l1 g1 fun x l2 g2 => kx ex l2 g2 fun k l3 g3 => match x with
  | .ref p => match k with
    | .int i => ∃ xs j, g3.st p = some xs ∧ ixAt xs.length i = some j ∧ scl y = true ∧ E.nx l3 (gset g3 p (xs.set j y))
    | _ => False
  | _ => False
/-- o.pop(k) -/
def mPopAt (o kx : DE Gm) : DE Gm := fun ex l g Q => o ex l g fun x l1 g1 => match x with
  | .ref p => (∃ xs, g1.st p = some xs) ∧ kx ex l1 g1 fun k l2 g2 => match k with
    | .int i => ∃ xs j y, g2.st p = some xs ∧ xs.length ≤ LIM ∧ ixAt xs.length i = some j ∧ xs[j]? = some y ∧ Q y l2 (gset g2 p (xs.eraseIdx j))
    | _ => False
  | _ => False
/-- a new list, to be changed from many places -/
def mNew (f : DE Gm) : DE Gm := fun ex l g Q => f ex l g fun d l1 g1 => match d with
  | .lst xs => xs.all scl = true ∧ ∀ a, g1.st a = none → Q (.ref a) l1 (gset g1 a xs)
  | _ => False
section
variable {G : Type}
/-! ### a def -/
def start : Nat → List D → L
  | 0, _ => []
  | n + 1, [] => .no :: start n []
  | n + 1, d :: ds => .va d :: start n ds
/-- the body b keeps the promise c -/
def KeepsF (n : Nat) (c : Ct G) (b : DS G) : Prop := ∀ ds g Q E, c ds g Q E → b (fun x _ g => E x g) { nx := fun _ _ => False, rt := fun _ _ _ => False, rf := fun d _ g => Q d g } (start n ds) g
def Keeps (n : Nat) (c : Ct G) (b : DS G) : Prop := ∀ ds g Q E, c ds g Q E → b (fun x _ g => E x g) { nx := fun _ g => Q .non g, rt := fun d _ g => Q d g } (start n ds) g
end
end Dx

set_option autoImplicit false
set_option linter.all false
set_option maxRecDepth 100000
set_option maxHeartbeats 2000000
namespace Dx
/-- the steps from the place j, off the arrows -/
def stepD (j : Nat) : D → Option D
  | .tup [.int p, l, pay, go] => if p = (j : Int) then some (.tup [l, pay, go]) else none
  | _ => none
def stepsD (ds : List D) (j : Nat) : List D := ds.filterMap (stepD j)
def keptD (n : Nat) (ds : List D) : List D := (List.range n).map fun j => .lst (stepsD ds j)
def arrOk (n : Nat) (d : D) : Prop := ∃ (p : Nat) (l pay go : D), d = .tup [.int p, l, pay, go] ∧ p < n
def trkD (c : String) (n : Nat) (ds : List D) : D := .obj c [.int n, .tup ds, .lst (keptD n ds)]
/-- the arrows of a track, as far as its making looks at them -/
structure Ar where
  p : Nat
  c : Nat
  pay : Nat
  q : Nat
deriving DecidableEq
def arD (a : Ar) : D := .tup [.int a.p, .str [a.c], .int a.pay, .int a.q]
def arLt (a b : Ar) : Prop := a.p < b.p ∨ (a.p = b.p ∧ a.c < b.c)
structure TrkOk (n : Nat) (as : List Ar) : Prop where
  n1 : 1 ≤ n
  n2 : n ≤ 12
  l1 : 1 ≤ as.length
  l2 : as.length ≤ 60
  ok : ∀ a ∈ as, a.p < n ∧ 97 ≤ a.c ∧ a.c ≤ 122 ∧ a.pay ≤ 9 ∧ a.q < n
  asc : as.Pairwise arLt
  all : ∀ p, p < n → ∃ a ∈ as, a.p = p
def trk (n : Nat) (as : List Ar) : D := trkD "Track" n (as.map arD)
variable {G : Type}
/-- what sorted takes -/
def SortOk (xs : List D) : Prop := (∀ x ∈ xs, pla x = true ∧ dep x ≤ 60) ∧ (∀ x ∈ xs, ∀ y ∈ xs, lik x y = true) ∧ ((∀ x ∈ xs, ∃ y r, x = .tup (y :: r)) ∨ ∀ x ∈ xs, x ≠ .non ∧ ∀ r, x ≠ .tup r)
def bSort : WA := fun ds k => match ds with
  | [.lst xs] => SortOk xs ∧ ∀ ys : List D, ys.Perm xs → ys.Pairwise (fun a b => dlt b a = false) → k (.lst ys)
  | _ => False
/-- with its place, of a tuple -/
def iEnumT (a : DE G) : DI G := fun ex l g Q => a ex l g fun d l1 g1 => match d with
  | .tup xs => Q (numd xs) l1 g1
  | _ => False
def cTrack : Ct G := fun ds g Q _ => ∃ n as, ds = [.int (n : Nat), .tup (as.map arD)] ∧ TrkOk n as ∧ Q (trk n as) g
/-- the looks ahead of keep let a right track by -/
def InitOk (n : Nat) (b : DS G) : Prop := ∀ (x m : Nat) as g (E : En G), TrkOk m as → E.nx (start n [.ref x, .int (m : Nat), .tup (as.map arD)]) g → b (fun _ _ _ => False) E (start n [.ref x, .int (m : Nat), .tup (as.map arD)]) g
/-- the law: its script; it answers True -/
def cLaw : Ct Gm := fun ds g Q _ => ds = [.ref g.scr] ∧ g.ns.length ≤ 63 ∧ (∀ a, g.st a = none) ∧ ∀ g', Q (.bl true) g'
theorem l_cLaw : ∀ ds g q e, cLaw ds g q e → ds.length = 1 := fun ds g q e h => by rw [h.1]; rfl
end Dx

set_option autoImplicit false
set_option linter.all false
set_option maxRecDepth 100000
set_option maxHeartbeats 2000000
/-! Dy: what the plain proofs lean on. -/
namespace Dx
theorem wipeL_c (a : SV) (l : List SV) (v : Nat) (vs : List Nat) : wipeL (a :: l) (v :: vs) = (wipeL (a :: l) vs).set v .no := rfl
theorem wipeL_n (a : SV) (l : List SV) : wipeL (a :: l) [] = a :: l := rfl
theorem lim_ok {n : Nat} (h : n ≤ 16777216) : n ≤ LIM := h
theorem lim_lt {n : Nat} (h : n < 16777216) : n < LIM := h
/-- a slot without a thing of its own -/
def Nv (v : SV) : Prop := v = .no ∨ ∃ d, v = .va d
theorem Nv.no : Nv .no := .inl rfl
theorem Nv.va (d : D) : Nv (.va d) := .inr ⟨d, rfl⟩
theorem nv1 {f : SV → Bool} {v : SV} (h : Nv v) (h1 : f .no = true) (h2 : ∀ d, f (.va d) = true) : f v = true := by
  rcases h with rfl | ⟨d, rfl⟩
  · exact h1
  · exact h2 d
section
variable {G : Type}
/-- a comprehension whose parts change nothing, over items that are made of others -/
theorem comp_map {α : Type} {as : List α} {h : α → D} {t : Tg} {c : DT G} {e : DE G} {vs : List Nat} {w : L} {g1 : G} {P : List D → G → Prop} (f : α → Option D) (hl : as.length ≤ LIM)
    (step : ∀ a ∈ as, ∀ (KT : D → G → Prop) (KF : G → Prop), (∀ y, f a = some y → KT y g1) → (f a = none → KF g1) → t (h a) (w) fun l2 => wipeL l2 vs = w ∧ c noX l2 g1 fun b l3 g3 => wipeL l3 vs = w ∧
      if b = true then e noX l3 g3 fun y l4 g4 => wipeL l4 vs = w ∧ KT y g4 else KF g3)
    (fin : P (as.filterMap f) g1) :
    ∃ I : Nat → List D → G → Prop, I 0 [] g1 ∧
  (∀ i x acc g, (as.map h)[i]? = some x → I i acc g → t x (w) fun l2 => wipeL l2 vs = w ∧ c noX l2 g fun b l3 g3 => wipeL l3 vs = w ∧
    if b = true then e noX l3 g3 fun y l4 g4 => wipeL l4 vs = w ∧ acc.length < LIM ∧ I (i + 1) (acc ++ [y]) g4 else I (i + 1) acc g3) ∧
  ∀ acc g, I (as.map h).length acc g → P acc g := by
  refine ⟨fun i acc g => g = g1 ∧ acc = (as.take i).filterMap f, ⟨rfl, rfl⟩, fun i x acc g hx ⟨hg, ha⟩ => ?_, fun acc g ⟨hg, ha⟩ => ?_⟩
  · subst hg ha
    have hx' : ∃ a, as[i]? = some a ∧ h a = x := by
      rw [List.getElem?_map] at hx
      cases e : as[i]? with
      | none => rw [e] at hx; cases hx
      | some a => rw [e] at hx; cases hx; exact ⟨a, rfl, rfl⟩
    clear hx
    obtain ⟨a, hx, rfl⟩ := hx'
    have hi : i < as.length := (List.getElem?_eq_some_iff.mp hx).1
    have tk : (as.take (i + 1)).filterMap f = (as.take i).filterMap f ++ (f a).toList := by
      rw [List.take_add_one, hx, List.filterMap_append]
      cases h : f a <;> simp [h]
    refine step a (List.mem_of_getElem? hx) (fun y g4 => ((as.take i).filterMap f).length < LIM ∧ (g4 = g ∧ (as.take i).filterMap f ++ [y] = (as.take (i + 1)).filterMap f)) (fun g3 => g3 = g ∧ (as.take i).filterMap f = (as.take (i + 1)).filterMap f) (fun y hy => ?_) (fun hy => ?_)
    · refine ⟨?_, rfl, by rw [tk, hy]; rfl⟩
      have h1 : ((as.take i).filterMap f).length ≤ (as.take i).length := List.length_filterMap_le _ _
      rw [List.length_take] at h1
      omega
    · exact ⟨rfl, by rw [tk, hy]; simp⟩
  · subst hg ha
    rw [List.length_map, List.take_length]
    exact fin
/-- .. over the items themselves -/
theorem comp_of {xs : List D} {t : Tg} {c : DT G} {e : DE G} {vs : List Nat} {w : L} {g1 : G} {P : List D → G → Prop} (f : D → Option D) (hl : xs.length ≤ LIM)
    (step : ∀ a ∈ xs, ∀ (KT : D → G → Prop) (KF : G → Prop), (∀ y, f a = some y → KT y g1) → (f a = none → KF g1) → t a (w) fun l2 => wipeL l2 vs = w ∧ c noX l2 g1 fun b l3 g3 => wipeL l3 vs = w ∧
      if b = true then e noX l3 g3 fun y l4 g4 => wipeL l4 vs = w ∧ KT y g4 else KF g3)
    (fin : P (xs.filterMap f) g1) :
    ∃ I : Nat → List D → G → Prop, I 0 [] g1 ∧
  (∀ i x acc g, xs[i]? = some x → I i acc g → t x (w) fun l2 => wipeL l2 vs = w ∧ c noX l2 g fun b l3 g3 => wipeL l3 vs = w ∧
    if b = true then e noX l3 g3 fun y l4 g4 => wipeL l4 vs = w ∧ acc.length < LIM ∧ I (i + 1) (acc ++ [y]) g4 else I (i + 1) acc g3) ∧
  ∀ acc g, I xs.length acc g → P acc g := by
  have h := comp_map (as := xs) (h := fun x => x) (t := t) (c := c) (e := e) (vs := vs) (w := w) (P := P) f hl step fin
  rw [List.map_id'] at h
  exact h
end
theorem deq_refl_flat : ∀ d : D, flat d = true → (∀ t, d ≠ .tup t) → deq d d = true
  | .non, _, _ => rfl
  | .bl b, _, _ => by simp [deq]
  | .int i, _, _ => by simp [deq]
  | .str s, _, _ => by simp [deq]
  | .tup _, h, _ => by cases h
  | .kt _, h, _ => by cases h
  | .lst _, h, _ => by cases h
  | .dic _ _, h, _ => by cases h
  | .st _, h, _ => by cases h
  | .obj _ _, h, _ => by cases h
  | .ref _, h, _ => by cases h
  | .ty _, h, _ => by cases h
mutual
theorem deq_self : ∀ d : D, pla d = true → deq d d = true
  | .non, _ => rfl
  | .bl b, _ => by simp [deq]
  | .int i, _ => by simp [deq]
  | .str s, _ => by simp [deq]
  | .tup xs, h => by simp only [deq]; exact deqs_self xs (by simpa only [pla] using h)
  | .kt xs, h => by simp only [deq]; exact deqs_self xs (by simpa only [pla] using h)
  | .lst xs, h => by simp only [deq]; exact deqs_self xs (by simpa only [pla] using h)
  | .dic _ _, h => by simp [pla] at h
  | .st _, h => by simp [pla] at h
  | .obj _ _, h => by simp [pla] at h
  | .ref _, h => by simp [pla] at h
  | .ty _, h => by simp [pla] at h
theorem deqs_self : ∀ d : List D, plas d = true → deqs d d = true
  | [], _ => rfl
  | x :: xs, h => by
    rw [plas, Bool.and_eq_true] at h
    simp only [deqs, deq_self x h.1, deqs_self xs h.2, Bool.and_self]
end
theorem ite_of {c : Bool} {A B : Prop} (h : c = true → A) (k : ¬ c = true → B) : if c = true then A else B := by
  split
  · exact h ‹_›
  · exact k ‹_›
theorem and_of {c : Bool} {A B : Prop} (h : c = true → A) (k : c = false → B) : (match (D.bl c : D) with
  | .bl true => A
  | .bl false => B
  | _ => False) := by
  cases c with
  | true => exact h rfl
  | false => exact k rfl
theorem and_of' {c : Bool} {A B : Prop} (h : c = true → A) (k : c = false → B) : (match (D.bl c : D) with
  | .bl true => A
  | .bl false => B
  | _ => False) := and_of h k
theorem eqOk_int (i j : Int) : eqOk (.int i) (.int j) := ⟨rfl, rfl, Nat.zero_le _, Nat.zero_le _⟩
theorem any_int (i : Int) : ∀ ns : List Int, ((ns.map D.int).any fun z => deq z (.int i)) = decide (i ∈ ns)
  | [] => rfl
  | n :: ns => by
    rw [List.map_cons, List.any_cons, any_int i ns]
    simp only [deq, List.mem_cons]
    by_cases h : n = i
    · simp [h]
    · have h' : ¬ i = n := fun e => h e.symm
      simp [h, h']
theorem flat_ints (ns : List Int) : (ns.map D.int).all flat = true := by
  rw [List.all_map]
  exact List.all_eq_true.mpr fun _ _ => rfl
theorem ixAt_of {n p : Nat} (h : p < n) : ixAt n (p : Int) = some p := by
  unfold ixAt
  rw [if_pos (by omega), if_pos (by omega), Int.toNat_natCast]
/-- an item by its place -/
theorem wIx_lst {xs : List D} {p : Nat} {d : D} {k : D → Prop} (h : xs[p]? = some d) (hk : k d) : wIx (.lst xs) (.int (p : Nat)) k :=
  ⟨d, by rw [ixAt_of (List.getElem?_eq_some_iff.mp h).1]; exact h, hk⟩
theorem wIx_tup {xs : List D} {p : Nat} {d : D} {k : D → Prop} (h : xs[p]? = some d) (hk : k d) : wIx (.tup xs) (.int (p : Nat)) k :=
  ⟨d, by rw [ixAt_of (List.getElem?_eq_some_iff.mp h).1]; exact h, hk⟩
theorem rng_len (lo : Int) (n : Nat) : (rng lo n).length = n := by simp [rng]
theorem rng_get {lo : Int} {n i : Nat} {x : D} (h : (rng lo n)[i]? = some x) : i < n ∧ x = .int (lo + i) := by
  unfold rng at h
  rw [List.getElem?_map] at h
  cases e : (List.range n)[i]? with
  | none => rw [e] at h; cases h
  | some j =>
    rw [e] at h
    have := List.getElem?_eq_some_iff.mp e
    obtain ⟨h1, h2⟩ := this
    rw [List.length_range] at h1
    rw [List.getElem_range] at h2
    subst h2
    cases h
    exact ⟨h1, rfl⟩
theorem rng0 (n : Nat) : rng 0 n = (List.range n).map fun (i : Nat) => D.int (i : Nat) := by
  unfold rng
  congr 1
  funext i
  rw [Int.zero_add]
theorem rng_mem {lo : Int} {n : Nat} {x : D} (h : x ∈ rng lo n) : ∃ i : Nat, i < n ∧ x = .int (lo + i) := by
  obtain ⟨i, hi⟩ := List.getElem?_of_mem h
  exact ⟨i, rng_get hi⟩
/-! ### the tape: a list of the script, where it stands, what is left, a mixed number, a count -/
structure Tp (g : Gm) (p q : Nat) (ns : List Int) (a : Nat) (r m c : Int) : Prop where
  hp : g.st p = some [.ref q, .int (a : Nat), .int r, .int m, .int c]
  hq : g.st q = some (ns.map D.int)
  ne : q ≠ p
theorem Tp.set {g : Gm} {p q : Nat} {ns : List Int} {a : Nat} {r m c : Int} (h : Tp g p q ns a r m c) (a' : Nat) (r' m' c' : Int) : Tp (gset g p [.ref q, .int (a' : Nat), .int r', .int m', .int c']) p q ns a' r' m' c' := by
  refine ⟨?_, ?_, h.ne⟩
  · show (if p = p then _ else _) = _
    rw [if_pos rfl]
  · show (if q = p then _ else _) = _
    rw [if_neg h.ne]
    exact h.hq
def IsTape (g : Gm) (p : Nat) : Prop := ∃ q ns a r m c, Tp g p q ns a r m c
/-- all but p is as it was -/
def Sm (g g' : Gm) (p : Nat) : Prop := g'.scr = g.scr ∧ g'.ns = g.ns ∧ g'.trk = g.trk ∧ ∀ a, a ≠ p → g'.st a = g.st a
theorem Sm.refl (g : Gm) (p : Nat) : Sm g g p := ⟨rfl, rfl, rfl, fun _ _ => rfl⟩
theorem Sm.set {g g' : Gm} {p : Nat} (h : Sm g g' p) (xs : List D) : Sm g (gset g' p xs) p := ⟨h.1, h.2.1, h.2.2.1, fun a e => by
  show (if a = p then some xs else g'.st a) = _
  rw [if_neg e]
  exact h.2.2.2 a e⟩
theorem map_get {α : Type} {as : List α} {h : α → D} {i : Nat} {x : D} (hx : (as.map h)[i]? = some x) : ∃ a, as[i]? = some a ∧ h a = x := by
  rw [List.getElem?_map] at hx
  cases e : as[i]? with
  | none => rw [e] at hx; cases hx
  | some a => rw [e] at hx; cases hx; exact ⟨a, rfl, rfl⟩
theorem all_id {α : Type} (f : α → Bool) (xs : List α) : (xs.map f).all id = xs.all f := by rw [List.all_map]; rfl
theorem pigN : ∀ (n : Nat) (S : List Nat), S.Pairwise (· < ·) → (∀ p ∈ S, p < n) → S.length ≤ n := fun n S h1 h2 => by
  have : ∀ (S : List Nat) (lo : Nat), S.Pairwise (· < ·) → (∀ p ∈ S, lo ≤ p ∧ p < n) → S.length + lo ≤ max n lo := by
    intro S
    induction S with
    | nil => intro lo _ _; rw [List.length_nil]; omega
    | cons a S ih =>
      intro lo h1 h2
      obtain ⟨h3, h4⟩ := List.pairwise_cons.mp h1
      have ha := h2 a List.mem_cons_self
      have := ih (a + 1) h4 fun p hp => ⟨h3 p hp, (h2 p (List.mem_cons_of_mem _ hp)).2⟩
      rw [List.length_cons]
      omega
  have := this S 0 h1 fun p hp => ⟨Nat.zero_le _, h2 p hp⟩
  omega
/-! ### tables by place -/
def tab (n : Nat) (f : Nat → D) : List D := (List.range n).map f
theorem tab_len (n : Nat) (f : Nat → D) : (tab n f).length = n := by simp [tab]
theorem tab_get {n p : Nat} {f : Nat → D} (h : p < n) : (tab n f)[p]? = some (f p) := by simp [tab, h]
theorem tab_congr {n : Nat} {f g : Nat → D} (h : ∀ p, p < n → f p = g p) : tab n f = tab n g := by
  unfold tab
  exact List.map_congr_left fun p hp => h p (List.mem_range.mp hp)
theorem tab_set {n p : Nat} {f : Nat → D} {d : D} : (tab n f).set p d = tab n fun x => if x = p then d else f x := by
  refine List.ext_getElem? fun j => ?_
  rw [List.getElem?_set]
  by_cases e : p = j
  · subst e
    rw [if_pos rfl, tab_len]
    by_cases h : p < n
    · rw [if_pos h, tab_get h, if_pos rfl]
    · rw [if_neg h]
      exact (List.getElem?_eq_none (by rw [tab_len]; omega)).symm
  · rw [if_neg e]
    by_cases h : j < n
    · rw [tab_get h, tab_get h, if_neg fun z => e z.symm]
    · rw [List.getElem?_eq_none (by rw [tab_len]; omega), List.getElem?_eq_none (by rw [tab_len]; omega)]
theorem tab_rep (n : Nat) (d : D) : List.replicate n d = tab n fun _ => d := by
  unfold tab
  refine List.ext_getElem? fun j => ?_
  by_cases h : j < n <;> simp [h]
/-- numbers as data -/
def nD (S : List Nat) : List D := S.map fun (i : Nat) => D.int (i : Nat)
theorem nD_len (S : List Nat) : (nD S).length = S.length := by simp [nD]
theorem nD_range (n : Nat) : rng 0 n = nD (List.range n) := rng0 n
theorem any_nat (i : Nat) : ∀ ns : List Nat, ((nD ns).any fun z => deq z (.int (i : Nat))) = decide (i ∈ ns)
  | [] => rfl
  | n :: ns => by
    show (deq (.int (n : Nat)) (.int (i : Nat)) || (nD ns).any fun z => deq z (.int (i : Nat))) = _
    rw [any_nat i ns]
    simp only [deq, List.mem_cons]
    by_cases h : n = i
    · simp [h]
    · have h' : ¬ i = n := fun e => h e.symm
      have h2 : ¬ (n : Int) = (i : Int) := fun e => h (Int.ofNat.inj e)
      simp [h', h2]
theorem flat_nats (ns : List Nat) : (nD ns).all flat = true := by
  unfold nD
  rw [List.all_map]
  exact List.all_eq_true.mpr fun _ _ => rfl
theorem fm_filter (c : Nat → Bool) : ∀ xs : List Nat, (xs.filterMap fun p => if c p = true then some (D.int (p : Nat)) else none) = nD (xs.filter c)
  | [] => rfl
  | x :: xs => by
    rw [List.filterMap_cons, List.filter_cons]
    by_cases h : c x = true
    · rw [if_pos h, if_pos h, fm_filter c xs]; rfl
    · rw [if_neg h, if_neg h, fm_filter c xs]
theorem fm_some {α : Type} (f : α → D) : ∀ xs : List α, xs.filterMap (fun x => some (f x)) = xs.map f
  | [] => rfl
  | x :: xs => by rw [List.filterMap_cons, List.map_cons, fm_some f xs]
theorem filter_split {α : Type} (c : α → Bool) : ∀ xs : List α, (xs.filter fun x => !c x).length + (xs.filter c).length = xs.length
  | [] => rfl
  | x :: xs => by
    have ih := filter_split c xs
    rw [List.filter_cons, List.filter_cons, List.length_cons]
    cases h : c x <;> simp <;> omega
/-! ### the steps of a track -/
/-- the weight of a pay, of 2520 -/
def wt (p : Int) : Int := if 0 < p then 2520 / p else 2520
def stD (a : Ar) : D := .tup [.str [a.c], .int (a.pay : Nat), .int (a.q : Nat)]
def frm (as : List Ar) (p : Nat) : List Ar := as.filter fun a => a.p = p
theorem steps_frm (as : List Ar) (p : Nat) : stepsD (as.map arD) p = (frm as p).map stD := by
  unfold stepsD frm
  induction as with
  | nil => rfl
  | cons a as ih =>
    rw [List.map_cons, List.filterMap_cons, List.filter_cons]
    by_cases h : a.p = p
    · have e : stepD p (arD a) = some (stD a) := by simp [stepD, arD, stD, h]
      rw [e, ih]
      simp [h]
    · have e : stepD p (arD a) = none := by simp [stepD, arD]; omega
      rw [e, ih]
      simp [h]
theorem kept_get {n : Nat} {as : List Ar} {p : Nat} (h : p < n) : (keptD n (as.map arD))[p]? = some (.lst ((frm as p).map stD)) := by
  unfold keptD
  rw [List.getElem?_map, List.getElem?_range h]
  simp [steps_frm]
theorem frm_len (as : List Ar) (p : Nat) : (frm as p).length ≤ as.length := List.length_filter_le _ _
end Dx

set_option autoImplicit false
set_option linter.all false
set_option maxRecDepth 100000
set_option maxHeartbeats 2000000
namespace Dx
/-- the weights of the steps from p back into S -/
def wb (as : List Ar) (p : Nat) (S : List Nat) : Int := (((frm as p).filter fun a => decide (a.q ∈ S)).map fun a => wt a.pay).sum
theorem wb_map (S : List Nat) : ∀ bs : List Ar, (bs.filterMap fun a => if a.q ∈ S then some (D.int (wt a.pay)) else none) = ((bs.filter fun a => decide (a.q ∈ S)).map fun a => wt a.pay).map D.int
  | [] => rfl
  | a :: bs => by
    rw [List.filterMap_cons, List.filter_cons]
    by_cases h : a.q ∈ S
    · rw [if_pos h, wb_map S bs]
      simp [h]
    · rw [if_neg h, wb_map S bs]
      simp [h]
/-- whether the reciprocals of the pays come to one, as the law goes on -/
def cto (t b : Int) : List Int → Bool
  | [] => decide (b ≤ t)
  | p :: ps => if p < 2 then true else cto (t * p + b) (b * p) ps
/-- the law's way and the weights, of 2520 -/
theorem cto_wt : ∀ (ps : List Nat) (t b s : Int), (∀ p ∈ ps, p ≤ 9) → 0 < b → t * 2520 = b * s → 0 ≤ s → cto t b (ps.map fun (p : Nat) => (p : Int)) = decide (2520 ≤ s + (ps.map fun (p : Nat) => wt p).sum)
  | [], t, b, s, _, hb, e, _ => by
    show decide (b ≤ t) = decide (2520 ≤ s + 0)
    rw [Int.add_zero]
    refine decide_eq_decide.mpr ⟨fun h => ?_, fun h => ?_⟩
    · have h1 : b * 2520 ≤ b * s := by rw [← e]; exact Int.mul_le_mul_of_nonneg_right h (by decide)
      exact Int.le_of_mul_le_mul_left h1 hb
    · have h1 : b * 2520 ≤ t * 2520 := by rw [e]; exact Int.mul_le_mul_of_nonneg_left h (Int.le_of_lt hb)
      exact Int.le_of_mul_le_mul_right h1 (by decide)
  | p :: ps, t, b, s, hp, hb, e, hs => by
    have h9 := hp p List.mem_cons_self
    have nn : ∀ xs : List Nat, 0 ≤ (xs.map fun (p : Nat) => wt p).sum := by
      intro xs
      induction xs with
      | nil => exact Int.le_refl 0
      | cons x xs ih =>
        rw [List.map_cons, List.sum_cons]
        have : 0 ≤ wt (x : Int) := by
          unfold wt
          split
          · exact Int.ediv_nonneg (by decide) (by omega)
          · decide
        omega
    rw [List.map_cons, List.map_cons, List.sum_cons]
    show (if (p : Int) < 2 then true else cto (t * p + b) (b * p) _) = _
    by_cases h2 : (p : Int) < 2
    · rw [if_pos h2]
      have hw : wt (p : Int) = 2520 := by
        have : p = 0 ∨ p = 1 := by omega
        rcases this with rfl | rfl <;> rfl
      rw [hw]
      have := nn ps
      exact (decide_eq_true (by omega)).symm
    · rw [if_neg h2]
      have hw : wt (p : Int) * p = 2520 := by
        have : p = 2 ∨ p = 3 ∨ p = 4 ∨ p = 5 ∨ p = 6 ∨ p = 7 ∨ p = 8 ∨ p = 9 := by omega
        rcases this with rfl | rfl | rfl | rfl | rfl | rfl | rfl | rfl <;> rfl
      have hw0 : 0 ≤ wt (p : Int) := by
        unfold wt
        split
        · exact Int.ediv_nonneg (by decide) (by omega)
        · decide
      have hb' : 0 < b * (p : Int) := Int.mul_pos hb (by omega)
      rw [cto_wt ps (t * p + b) (b * p) (s + wt p) (fun q hq => hp q (List.mem_cons_of_mem _ hq)) hb' ?_ (by omega)]
      · rw [Int.add_assoc]
      · have e1 : (t * p + b) * 2520 = (t * 2520) * p + b * 2520 := by rw [Int.add_mul, Int.mul_assoc, Int.mul_comm (p : Int) 2520, ← Int.mul_assoc]
        rw [e1, e, ← hw, Int.mul_add]
        congr 1
        · rw [Int.mul_assoc, Int.mul_comm s, ← Int.mul_assoc]
        · rw [Int.mul_comm (wt (p : Int)), ← Int.mul_assoc]
def paysIn (as : List Ar) (p : Nat) (S : List Nat) : List Nat := ((frm as p).filter fun a => decide (a.q ∈ S)).map fun a => a.pay
theorem cto_wb (as : List Ar) (p : Nat) (S : List Nat) (h : ∀ a ∈ as, a.pay ≤ 9) : cto 0 1 ((paysIn as p S).map fun (p : Nat) => (p : Int)) = decide (2520 ≤ wb as p S) := by
  rw [cto_wt (paysIn as p S) 0 1 0 (fun x hx => ?_) (by decide) (by decide) (by decide)]
  · rw [Int.zero_add]
    unfold wb paysIn
    rw [List.map_map]
    rfl
  · obtain ⟨a, ha, rfl⟩ := List.mem_map.mp hx
    exact h a (List.mem_filter.mp (List.mem_filter.mp ha).1).1
theorem fm_pays (S : List Nat) : ∀ bs : List Ar, (bs.filterMap fun a => if decide (a.q ∈ S) = true then some (D.int (a.pay : Nat)) else none) = (((bs.filter fun a => decide (a.q ∈ S)).map fun a => a.pay).map fun (p : Nat) => (p : Int)).map D.int
  | [] => rfl
  | a :: bs => by
    rw [List.filterMap_cons, List.filter_cons]
    by_cases h : decide (a.q ∈ S) = true
    · rw [if_pos h, if_pos h, fm_pays S bs]
      rfl
    · rw [if_neg h, if_neg h, fm_pays S bs]
theorem rep_flat (n : Nat) (d : D) : (List.replicate n [d]).flatten = List.replicate n d := by
  induction n with
  | zero => rfl
  | succ n ih => rw [List.replicate_succ, List.flatten_cons, ih, List.replicate_succ]; rfl
theorem nD_get {S : List Nat} {i : Nat} {x : D} (h : (nD S)[i]? = some x) : ∃ p, S[i]? = some p ∧ x = .int (p : Nat) := by
  unfold nD at h
  rw [List.getElem?_map] at h
  cases e : S[i]? with
  | none => rw [e] at h; cases h
  | some p => rw [e] at h; cases h; exact ⟨p, rfl, rfl⟩
theorem plas_of : ∀ xs : List D, (∀ d ∈ xs, pla d = true) → plas xs = true
  | [], _ => rfl
  | x :: xs, h => by rw [plas, h x List.mem_cons_self, plas_of xs fun d hd => h d (List.mem_cons_of_mem _ hd)]; rfl
theorem deps_of : ∀ (xs : List D) (k : Nat), (∀ d ∈ xs, dep d ≤ k) → deps xs ≤ k
  | [], _, _ => Nat.zero_le _
  | x :: xs, k, h => by
    rw [deps]
    exact Nat.max_le.mpr ⟨h x List.mem_cons_self, deps_of xs k fun d hd => h d (List.mem_cons_of_mem _ hd)⟩
theorem eqOk_tups {xs ys : List D} (hx : ∀ d ∈ xs, pla d = true ∧ dep d ≤ 20) (hy : ∀ d ∈ ys, pla d = true ∧ dep d ≤ 20) : eqOk (.tup xs) (.tup ys) :=
  ⟨by rw [pla]; exact plas_of xs fun d hd => (hx d hd).1, by rw [pla]; exact plas_of ys fun d hd => (hy d hd).1, by rw [dep]; have := deps_of xs 20 fun d hd => (hx d hd).2; omega, by rw [dep]; have := deps_of ys 20 fun d hd => (hy d hd).2; omega⟩
theorem deq_tups {xs : List D} (hx : ∀ d ∈ xs, pla d = true ∧ dep d ≤ 20) : deq (.tup xs) (.tup xs) = true := deq_self _ (by rw [pla]; exact plas_of xs fun d hd => (hx d hd).1)
theorem nD_flat (S : List Nat) : ∀ d ∈ nD S, pla d = true ∧ dep d ≤ 20 := fun d hd => by
  obtain ⟨p, _, rfl⟩ := List.mem_map.mp hd
  exact ⟨rfl, Nat.zero_le _⟩
theorem fm_none {α : Type} : ∀ xs : List α, (xs.filterMap fun _ => (none : Option D)) = []
  | [] => rfl
  | x :: xs => by rw [List.filterMap_cons, fm_none xs]
/-- all parts of 0 .. n - 1, each ascending -/
def subs : Nat → List (List Nat)
  | 0 => [[]]
  | n + 1 => subs n ++ (subs n).map (· ++ [n])
def lotsL (n : Nat) : List (List Nat) := (subs n).filter fun S => decide (0 < S.length)
theorem subs_len : ∀ n, (subs n).length = 2 ^ n
  | 0 => rfl
  | n + 1 => by rw [subs, List.length_append, List.length_map, subs_len n, Nat.pow_succ]; omega
theorem subs_spec : ∀ (n : Nat) (S : List Nat), S ∈ subs n ↔ S.Pairwise (· < ·) ∧ ∀ p ∈ S, p < n
  | 0, S => by
    rw [subs, List.mem_singleton]
    constructor
    · rintro rfl; exact ⟨List.Pairwise.nil, fun _ h => by cases h⟩
    · rintro ⟨_, h⟩
      cases S with
      | nil => rfl
      | cons a b => exact absurd (h a List.mem_cons_self) (by omega)
  | n + 1, S => by
    rw [subs, List.mem_append, List.mem_map]
    constructor
    · rintro (h | ⟨T, h, rfl⟩)
      · have := (subs_spec n S).mp h
        exact ⟨this.1, fun p hp => by have := this.2 p hp; omega⟩
      · have := (subs_spec n T).mp h
        refine ⟨List.pairwise_append.mpr ⟨this.1, List.pairwise_singleton _ _, fun a ha b hb => ?_⟩, fun p hp => ?_⟩
        · cases List.mem_singleton.mp hb
          exact this.2 a ha
        · rcases List.mem_append.mp hp with hp | hp
          · have := this.2 p hp; omega
          · cases List.mem_singleton.mp hp; omega
    · rintro ⟨h1, h2⟩
      by_cases c : n ∈ S
      · right
        obtain ⟨s, t, rfl⟩ := List.append_of_mem c
        have ht : t = [] := by
          cases t with
          | nil => rfl
          | cons b t =>
            have h3 := (List.pairwise_append.mp h1).2.1
            have h4 := (List.pairwise_cons.mp h3).1 b List.mem_cons_self
            have h5 := h2 b (by simp)
            omega
        subst ht
        refine ⟨s, (subs_spec n s).mpr ⟨(List.pairwise_append.mp h1).1, fun p hp => ?_⟩, rfl⟩
        exact (List.pairwise_append.mp h1).2.2 p hp n (List.mem_singleton.mpr rfl)
      · left
        exact (subs_spec n S).mpr ⟨h1, fun p hp => by
          have := h2 p hp
          by_cases e : p = n
          · subst e; exact absurd hp c
          · omega⟩
theorem subs_short {n : Nat} {S : List Nat} (h : S ∈ subs n) : S.length ≤ n := by
  have := (subs_spec n S).mp h
  have k := pigN n S this.1 this.2
  exact k
def tD (S : List Nat) : D := .tup (nD S)
theorem fm_keep {α : Type} (h : α → D) (c : α → Bool) : ∀ xs : List α, (xs.filterMap fun a => if c a = true then some (h a) else none) = (xs.filter c).map h
  | [] => rfl
  | x :: xs => by
    rw [List.filterMap_cons, List.filter_cons]
    by_cases e : c x = true
    · rw [if_pos e, if_pos e, fm_keep h c xs]; rfl
    · rw [if_neg e, if_neg e, fm_keep h c xs]
theorem pow_le {n m : Nat} (h : n ≤ m) : 2 ^ n ≤ 2 ^ m := Nat.pow_le_pow_right (by decide) h
theorem put_new {kvs : List (D × D)} {x v : D} (h : ∀ p ∈ kvs, deq p.1 x = false) : put kvs x v = kvs ++ [(x, v)] := by
  unfold put
  rw [if_neg]
  intro z
  obtain ⟨p, hp, e⟩ := List.any_eq_true.mp z
  rw [h p hp] at e
  cases e
theorem put_keys {kvs : List (D × D)} {i : Int} {v : D} (h : ∀ k ∈ kvs.map (·.1), ∃ j : Int, k = .int j) : (∀ k ∈ (put kvs (.int i) v).map (·.1), ∃ j : Int, k = .int j) ∧ (∀ k ∈ kvs.map (·.1), k ∈ (put kvs (.int i) v).map (·.1)) ∧ .int i ∈ (put kvs (.int i) v).map (·.1) ∧ (put kvs (.int i) v).length ≤ kvs.length + 1 := by
  unfold put
  by_cases c : (kvs.any fun p => deq p.1 (.int i)) = true
  · rw [if_pos c]
    have e : (kvs.map fun p => if deq p.1 (.int i) = true then (p.1, v) else p).map (·.1) = kvs.map (·.1) := by
      rw [List.map_map]
      refine List.map_congr_left fun p _ => ?_
      show (if deq p.1 (.int i) = true then (p.1, v) else p).1 = p.1
      split <;> rfl
    rw [e]
    refine ⟨h, fun k hk => hk, ?_, by rw [List.length_map]; omega⟩
    obtain ⟨p, hp, e⟩ := List.any_eq_true.mp c
    obtain ⟨j, hj⟩ := h p.1 (List.mem_map_of_mem hp)
    rw [hj] at e
    have e : j = i := of_decide_eq_true e
    rw [← e, ← hj]
    exact List.mem_map_of_mem hp
  · rw [if_neg c]
    refine ⟨fun k hk => ?_, fun k hk => ?_, ?_, by simp⟩
    · rw [List.map_append, List.mem_append] at hk
      rcases hk with hk | hk
      · exact h k hk
      · exact ⟨i, List.mem_singleton.mp hk⟩
    · rw [List.map_append, List.mem_append]
      exact .inl hk
    · rw [List.map_append, List.mem_append]
      exact .inr (List.mem_singleton.mpr rfl)
theorem pig : ∀ (n : Nat) (ks : List D), (∀ p : Nat, p < n → .int (p : Nat) ∈ ks) → n ≤ ks.length
  | 0, _, _ => Nat.zero_le _
  | n + 1, ks, h => by
    obtain ⟨s, t, rfl⟩ := List.append_of_mem (h n (by omega))
    have := pig n (s ++ t) fun p hp => by
      have := h p (by omega)
      rw [List.mem_append, List.mem_cons] at this
      rw [List.mem_append]
      rcases this with y | y | y
      · exact .inl y
      · injection y with y
        have : p = n := by omega
        omega
      · exact .inr y
    rw [List.length_append, List.length_cons]
    rw [List.length_append] at this
    omega
theorem cut_len {α : Type} (xs : List α) (lo hi : Option Int) : (cut xs lo hi).length ≤ xs.length := by
  unfold cut
  rw [List.length_take, List.length_drop]
  omega
theorem Sm.trans {g g' g'' : Gm} {p : Nat} (h : Sm g g' p) (k : Sm g' g'' p) : Sm g g'' p := ⟨k.1.trans h.1, k.2.1.trans h.2.1, k.2.2.1.trans h.2.2.1, fun a e => (k.2.2.2 a e).trans (h.2.2.2 a e)⟩
theorem mulSmall {i j : Int} (h : -(2 ^ 64) < j ∧ j < 2 ^ 64) : MulOk i j := .inr (.inl h)
/-- the turns in which places are struck, t turns long -/
def lft (n : Nat) (r : Nat → Option Nat) : List Nat := (List.range n).filter fun p => (r p).isNone
def rk (n : Nat) (as : List Ar) : Nat → Nat → Option Nat
  | 0 => fun _ => none
  | t + 1 => fun p => match rk n as t p with
    | some k => some k
    | none => if wb as p (lft n (rk n as t)) < 2520 then some (t + 1) else none
def strk (n : Nat) (as : List Ar) (t : Nat) : List Nat := (lft n (rk n as t)).filter fun p => decide (wb as p (lft n (rk n as t)) < 2520)
def oD : Option Nat → D
  | none => .non
  | some k => .int (k : Nat)
def rkD (n : Nat) (as : List Ar) (t : Nat) : List D := tab n fun p => oD (rk n as t p)
def rkF (n : Nat) (as : List Ar) : List D := rkD n as (n + 1)
theorem isNon_oD (o : Option Nat) : isNon (oD o) = o.isNone := by cases o <;> rfl
theorem mem_lft {n : Nat} {r : Nat → Option Nat} {p : Nat} : p ∈ lft n r ↔ p < n ∧ r p = none := by
  unfold lft
  rw [List.mem_filter, List.mem_range, Option.isNone_iff_eq_none]
theorem mem_strk {n : Nat} {as : List Ar} {t p : Nat} : p ∈ strk n as t ↔ (p < n ∧ rk n as t p = none) ∧ wb as p (lft n (rk n as t)) < 2520 := by
  unfold strk
  rw [List.mem_filter, mem_lft, decide_eq_true_eq]
theorem rk_succ (n : Nat) (as : List Ar) (t p : Nat) (h : p < n) : rk n as (t + 1) p = if p ∈ strk n as t then some (t + 1) else rk n as t p := by
  show (match rk n as t p with
    | some k => some k
    | none => if wb as p (lft n (rk n as t)) < 2520 then some (t + 1) else none) = _
  cases e : rk n as t p with
  | some k =>
    have : ¬ p ∈ strk n as t := fun z => by
      have := (mem_strk.mp z).1.2
      rw [e] at this
      cases this
    rw [if_neg this]
  | none =>
    by_cases h2 : wb as p (lft n (rk n as t)) < 2520
    · have : p ∈ strk n as t := mem_strk.mpr ⟨⟨h, e⟩, h2⟩
      rw [if_pos this]
      exact if_pos h2
    · have : ¬ p ∈ strk n as t := fun z => h2 (mem_strk.mp z).2
      rw [if_neg this]
      exact if_neg h2
theorem lft_succ (n : Nat) (as : List Ar) (t : Nat) : lft n (rk n as (t + 1)) = (lft n (rk n as t)).filter fun p => !decide (p ∈ strk n as t) := by
  unfold lft
  rw [List.filter_filter]
  refine List.filter_congr fun p hp => ?_
  rw [rk_succ n as t p (List.mem_range.mp hp)]
  by_cases h : p ∈ strk n as t
  · simp [h]
  · simp [h]
theorem cnt (n : Nat) (as : List Ar) (t : Nat) : (lft n (rk n as (t + 1))).length + (strk n as t).length = (lft n (rk n as t)).length := by
  rw [lft_succ]
  have e : strk n as t = (lft n (rk n as t)).filter fun p => decide (p ∈ strk n as t) := by
    have e2 : strk n as t = (lft n (rk n as t)).filter fun p => decide (wb as p (lft n (rk n as t)) < 2520) := rfl
    rw [e2]
    refine List.filter_congr fun p hp => ?_
    rw [← e2]
    have := mem_lft.mp hp
    by_cases h : wb as p (lft n (rk n as t)) < 2520
    · simp [h, mem_strk, this.1, this.2]
    · simp [h, mem_strk]
  have h2 := filter_split (fun p => decide (p ∈ strk n as t)) (lft n (rk n as t))
  rw [← e] at h2
  exact h2
theorem stab {n : Nat} {as : List Ar} {t : Nat} (h : strk n as t = []) : ∀ m, t ≤ m → (∀ p, p < n → rk n as m p = rk n as t p) ∧ strk n as m = [] := by
  intro m hm
  obtain ⟨m, rfl⟩ := Nat.exists_eq_add_of_le hm
  induction m with
  | zero => exact ⟨fun _ _ => rfl, h⟩
  | succ m ih =>
    have ih := ih (by omega)
    revert ih
    rw [← Nat.add_assoc]
    generalize t + m = m
    intro ih
    have e1 : ∀ p, p < n → rk n as (m + 1) p = rk n as t p := fun p hp => by
      rw [rk_succ n as m p hp, ih.2, if_neg (List.not_mem_nil), ih.1 p hp]
    refine ⟨e1, ?_⟩
    have e2 : lft n (rk n as (m + 1)) = lft n (rk n as m) := List.filter_congr fun p hp => by
      rw [e1 p (List.mem_range.mp hp), ih.1 p (List.mem_range.mp hp)]
    have e3 : strk n as (m + 1) = strk n as m := by unfold strk; rw [e2]
    rw [e3]; exact ih.2
/-- the places that are never struck -/
def fullF (n : Nat) (as : List Ar) : List Nat := lft n (rk n as (n + 1))
theorem numd_tab (n : Nat) (f : Nat → D) : numd (tab n f) = (List.range n).map fun (i : Nat) => D.tup [.int (i : Nat), f i] := by
  unfold numd
  rw [tab_len]
  unfold tab
  refine List.ext_getElem? fun j => ?_
  rw [List.getElem?_zipWith]
  by_cases h : j < n <;> simp [h]
def fullB (as : List Ar) (S : List Nat) : Bool := S.all fun p => decide (2520 ≤ wb as p S)
theorem wt_nonneg (p : Int) : 0 ≤ wt p := by
  unfold wt
  split
  · exact Int.ediv_nonneg (by decide) (by omega)
  · decide
theorem sum_mono {α : Type} (f h : α → Int) : ∀ xs : List α, (∀ x ∈ xs, f x ≤ h x) → (xs.map f).sum ≤ (xs.map h).sum
  | [], _ => Int.le_refl _
  | x :: xs, k => by
    rw [List.map_cons, List.map_cons, List.sum_cons, List.sum_cons]
    have := k x List.mem_cons_self
    have := sum_mono f h xs fun y hy => k y (List.mem_cons_of_mem _ hy)
    omega
theorem sum_filter_mono {α : Type} (f : α → Int) (hf : ∀ x, 0 ≤ f x) (c d : α → Bool) : ∀ xs : List α, (∀ x ∈ xs, c x = true → d x = true) → ((xs.filter c).map f).sum ≤ ((xs.filter d).map f).sum
  | [], _ => Int.le_refl _
  | x :: xs, k => by
    have ih := sum_filter_mono f hf c d xs fun y hy => k y (List.mem_cons_of_mem _ hy)
    have h0 := hf x
    rw [List.filter_cons, List.filter_cons]
    by_cases hc : c x = true
    · rw [if_pos hc, if_pos (k x List.mem_cons_self hc), List.map_cons, List.map_cons, List.sum_cons, List.sum_cons]
      omega
    · rw [if_neg hc]
      split
      · rw [List.map_cons, List.sum_cons]
        omega
      · exact ih
theorem wb_mono (as : List Ar) (p : Nat) {S T : List Nat} (h : ∀ q ∈ S, q ∈ T) : wb as p S ≤ wb as p T := by
  unfold wb
  exact sum_filter_mono (fun a : Ar => wt a.pay) (fun a => wt_nonneg _) _ _ _ fun a _ c => decide_eq_true (h _ (of_decide_eq_true c))
/-- what is full is never struck -/
theorem full_lft {n : Nat} {as : List Ar} {S : List Nat} (hS : ∀ p ∈ S, p < n) (hf : fullB as S = true) : ∀ t, ∀ p ∈ S, p ∈ lft n (rk n as t)
  | 0 => fun p hp => mem_lft.mpr ⟨hS p hp, rfl⟩
  | t + 1 => fun p hp => by
    have ih := full_lft hS hf t
    rw [lft_succ, List.mem_filter]
    refine ⟨ih p hp, ?_⟩
    have h1 : 2520 ≤ wb as p S := of_decide_eq_true (List.all_eq_true.mp hf p hp)
    have h2 := wb_mono as p ih
    have : ¬ p ∈ strk n as t := fun z => by
      have := (mem_strk.mp z).2
      omega
    simp [this]
theorem lft_len (n : Nat) (r : Nat → Option Nat) : (lft n r).length ≤ n := by
  have := List.length_filter_le (fun p => (r p).isNone) (List.range n)
  rw [List.length_range] at this
  exact this
/-- at last no more is struck -/
theorem strk_end (n : Nat) (as : List Ar) : strk n as (n + 1) = [] := by
  have : ∀ t, (∃ u, u ≤ t ∧ strk n as u = []) ∨ (lft n (rk n as (t + 1))).length + (t + 1) ≤ n := by
    intro t
    induction t with
    | zero =>
      by_cases h : strk n as 0 = []
      · exact .inl ⟨0, Nat.le_refl _, h⟩
      · right
        have := cnt n as 0
        have := lft_len n (rk n as 0)
        have := List.length_pos_iff.mpr h
        omega
    | succ t ih =>
      rcases ih with ⟨u, hu, h⟩ | ih
      · exact .inl ⟨u, by omega, h⟩
      · by_cases h : strk n as (t + 1) = []
        · exact .inl ⟨t + 1, Nat.le_refl _, h⟩
        · right
          have := cnt n as (t + 1)
          have := List.length_pos_iff.mpr h
          omega
  rcases this (n + 1) with ⟨u, hu, h⟩ | h
  · exact (stab h (n + 1) hu).2
  · omega
theorem fullF_full (n : Nat) (as : List Ar) : fullB as (fullF n as) = true := by
  refine List.all_eq_true.mpr fun p hp => decide_eq_true ?_
  have h := mem_lft.mp hp
  by_cases c : wb as p (fullF n as) < 2520
  · have : p ∈ strk n as (n + 1) := mem_strk.mpr ⟨h, c⟩
    rw [strk_end] at this
    cases this
  · omega
theorem fullF_asc (n : Nat) (as : List Ar) : (fullF n as).Pairwise (· < ·) := List.Pairwise.filter _ List.pairwise_lt_range
theorem fullF_lt {n : Nat} {as : List Ar} : ∀ p ∈ fullF n as, p < n := fun p hp => (mem_lft.mp hp).1
theorem fullF_len (n : Nat) (as : List Ar) : (fullF n as).length ≤ n := lft_len n _
/-- the full lots, as the law tries them -/
def fullsL (n : Nat) (as : List Ar) : List (List Nat) := (lotsL n).filter (fullB as)
theorem mem_fulls {n : Nat} {as : List Ar} {S : List Nat} : S ∈ fullsL n as ↔ (S.Pairwise (· < ·) ∧ ∀ p ∈ S, p < n) ∧ S ≠ [] ∧ fullB as S = true := by
  unfold fullsL lotsL
  rw [List.mem_filter, List.mem_filter, subs_spec, decide_eq_true_eq, List.length_pos_iff]
  exact ⟨fun ⟨⟨a, b⟩, c⟩ => ⟨a, b, c⟩, fun ⟨a, b, c⟩ => ⟨⟨a, b⟩, c⟩⟩
theorem fullF_iff {n : Nat} {as : List Ar} {p : Nat} : p ∈ fullF n as ↔ ∃ S ∈ fullsL n as, p ∈ S := by
  constructor
  · intro h
    exact ⟨fullF n as, mem_fulls.mpr ⟨⟨fullF_asc n as, fullF_lt⟩, fun z => (by rw [z] at h; cases h), fullF_full n as⟩, h⟩
  · rintro ⟨S, h, hp⟩
    obtain ⟨⟨h1, h2⟩, h3, h4⟩ := mem_fulls.mp h
    exact full_lft h2 h4 (n + 1) p hp
theorem fullF_nil {n : Nat} {as : List Ar} : fullF n as = [] ↔ fullsL n as = [] := by
  constructor
  · intro h
    cases e : fullsL n as with
    | nil => rfl
    | cons S t =>
      have hS : S ∈ fullsL n as := by rw [e]; exact List.mem_cons_self
      obtain ⟨⟨h1, h2⟩, h3, h4⟩ := mem_fulls.mp hS
      obtain ⟨p, hp⟩ := List.exists_mem_of_ne_nil S h3
      have := fullF_iff.mpr ⟨S, hS, hp⟩
      rw [h] at this
      cases this
  · intro h
    cases e : fullF n as with
    | nil => rfl
    | cons p t =>
      have hp : p ∈ fullF n as := by rw [e]; exact List.mem_cons_self
      obtain ⟨S, hS, _⟩ := fullF_iff.mp hp
      rw [h] at hS
      cases hS
theorem tD_flat (L : List (List Nat)) : ∀ d ∈ L.map tD, pla d = true ∧ dep d ≤ 1 := fun d hd => by
  obtain ⟨S, _, rfl⟩ := List.mem_map.mp hd
  refine ⟨by unfold tD; rw [pla]; exact plas_of _ fun d hd => (nD_flat S d hd).1, ?_⟩
  unfold tD
  rw [dep]
  have := deps_of (nD S) 0 fun d hd => by obtain ⟨p, _, rfl⟩ := List.mem_map.mp hd; exact Nat.le_refl _
  omega
theorem eqOk_lsts {xs ys : List D} (hx : ∀ d ∈ xs, pla d = true ∧ dep d ≤ 20) (hy : ∀ d ∈ ys, pla d = true ∧ dep d ≤ 20) : eqOk (.lst xs) (.lst ys) :=
  ⟨by rw [pla]; exact plas_of xs fun d hd => (hx d hd).1, by rw [pla]; exact plas_of ys fun d hd => (hy d hd).1, by rw [dep]; have := deps_of xs 20 fun d hd => (hx d hd).2; omega, by rw [dep]; have := deps_of ys 20 fun d hd => (hy d hd).2; omega⟩
theorem deqs_nil (xs : List D) : deqs xs [] = xs.isEmpty := by cases xs <;> rfl
/-- a pay raised -/
def ArLe (as bs : List Ar) : Prop := ∃ i a, as[i]? = some a ∧ 2 ≤ a.pay ∧ bs = as.set i ⟨a.p, a.c, a.pay + 1, a.q⟩
theorem sum_set_le (f : Ar → Int) : ∀ (as : List Ar) (i : Nat) (a b : Ar), as[i]? = some a → f b ≤ f a → ((as.set i b).map f).sum ≤ (as.map f).sum
  | [], _, _, _, h, _ => by cases h
  | x :: as, 0, a, b, h, k => by
    cases h
    rw [List.set_cons_zero, List.map_cons, List.map_cons, List.sum_cons, List.sum_cons]
    omega
  | x :: as, i + 1, a, b, h, k => by
    rw [List.set_cons_succ, List.map_cons, List.map_cons, List.sum_cons, List.sum_cons]
    have := sum_set_le f as i a b (by simpa using h) k
    omega
theorem sum_if (c : Ar → Bool) (f : Ar → Int) : ∀ as : List Ar, ((as.filter c).map f).sum = (as.map fun a => if c a = true then f a else 0).sum
  | [] => rfl
  | a :: as => by
    rw [List.filter_cons, List.map_cons, List.sum_cons, ← sum_if c f as]
    by_cases h : c a = true
    · rw [if_pos h, if_pos h, List.map_cons, List.sum_cons]
    · rw [if_neg h, if_neg h]; omega
theorem wb_if (as : List Ar) (p : Nat) (S : List Nat) : wb as p S = (as.map fun a => if (decide (a.q ∈ S) && decide (a.p = p)) = true then wt a.pay else 0).sum := by
  unfold wb frm
  rw [List.filter_filter, sum_if]
theorem wt_anti {i : Int} (h : 2 ≤ i) : wt (i + 1) ≤ wt i := by
  unfold wt
  rw [if_pos (by omega), if_pos (by omega)]
  have h1 : 2520 / (i + 1) * (i + 1) ≤ 2520 := Int.ediv_mul_le _ (by omega)
  have h2 : 0 ≤ 2520 / (i + 1) := Int.ediv_nonneg (by decide) (by omega)
  refine (Int.le_ediv_iff_mul_le (by omega)).mpr ?_
  have h3 : 2520 / (i + 1) * i ≤ 2520 / (i + 1) * (i + 1) := Int.mul_le_mul_of_nonneg_left (by omega) h2
  omega
theorem wb_raise {as bs : List Ar} (h : ArLe as bs) (p : Nat) (S : List Nat) : wb bs p S ≤ wb as p S := by
  obtain ⟨i, a, hi, ha, rfl⟩ := h
  rw [wb_if, wb_if]
  refine sum_set_le _ as i a _ hi ?_
  show (if (decide (a.q ∈ S) && decide (a.p = p)) = true then wt ((a.pay + 1 : Nat) : Int) else 0) ≤ (if (decide (a.q ∈ S) && decide (a.p = p)) = true then wt (a.pay : Nat) else 0)
  split
  · have e : ((a.pay + 1 : Nat) : Int) = (a.pay : Int) + 1 := by omega
    rw [e]
    exact wt_anti (by omega)
  · exact Int.le_refl _
theorem fullF_raise {n : Nat} {as bs : List Ar} (h : ArLe as bs) : ∀ p ∈ fullF n bs, p ∈ fullF n as := fun p hp => by
  have hf : fullB as (fullF n bs) = true := List.all_eq_true.mpr fun q hq => decide_eq_true (by
    have h1 : 2520 ≤ wb bs q (fullF n bs) := of_decide_eq_true (List.all_eq_true.mp (fullF_full n bs) q hq)
    have h2 := wb_raise h q (fullF n bs)
    omega)
  exact full_lft fullF_lt hf (n + 1) p hp
theorem trkOk_raise {n : Nat} {as : List Ar} {i : Nat} {a : Ar} (ok : TrkOk n as) (hi : as[i]? = some a) (h8 : a.pay ≤ 8) : TrkOk n (as.set i ⟨a.p, a.c, a.pay + 1, a.q⟩) := by
  obtain ⟨hlt, hget⟩ := List.getElem?_eq_some_iff.mp hi
  have ga : ∀ (j : Nat) (b : Ar), (as.set i ⟨a.p, a.c, a.pay + 1, a.q⟩)[j]? = some b → ∃ b', as[j]? = some b' ∧ b'.p = b.p ∧ b'.c = b.c ∧ b'.q = b.q ∧ b.pay ≤ 9 := by
    intro j b hb
    rw [List.getElem?_set] at hb
    split at hb
    · rename_i e
      subst e
      cases hb
      exact ⟨a, hi, rfl, rfl, rfl, by show a.pay + 1 ≤ 9; omega⟩
    · have := ok.ok b (List.mem_of_getElem? hb)
      exact ⟨b, hb, rfl, rfl, rfl, this.2.2.2.1⟩
  refine ⟨ok.n1, ok.n2, by rw [List.length_set]; exact ok.l1, by rw [List.length_set]; exact ok.l2, fun b hb => ?_, ?_, fun p hp => ?_⟩
  · obtain ⟨j, hj⟩ := List.getElem?_of_mem hb
    obtain ⟨b', h1, h2, h3, h4, h5⟩ := ga j b hj
    have := ok.ok b' (List.mem_of_getElem? h1)
    rw [h2, h3, h4] at this
    exact ⟨this.1, this.2.1, this.2.2.1, h5, this.2.2.2.2⟩
  · refine List.pairwise_iff_getElem.mpr fun j k hj hk hjk => ?_
    obtain ⟨b, h1, h2, h3, _⟩ := ga j _ (List.getElem?_eq_getElem hj)
    obtain ⟨c, k1, k2, k3, _⟩ := ga k _ (List.getElem?_eq_getElem hk)
    obtain ⟨u1, e1⟩ := List.getElem?_eq_some_iff.mp h1
    obtain ⟨u2, e2⟩ := List.getElem?_eq_some_iff.mp k1
    have := (List.pairwise_iff_getElem.mp ok.asc) j k u1 u2 hjk
    rw [e1, e2] at this
    unfold arLt at this ⊢
    rw [← h2, ← h3, ← k2, ← k3]
    exact this
  · obtain ⟨b, hb, e⟩ := ok.all p hp
    obtain ⟨j, hj⟩ := List.getElem?_of_mem hb
    by_cases c : i = j
    · subst c
      rw [hi] at hj
      cases hj
      refine ⟨⟨a.p, a.c, a.pay + 1, a.q⟩, ?_, e⟩
      exact List.mem_of_getElem? (i := i) (by rw [List.getElem?_set, if_pos rfl, if_pos hlt])
    · exact ⟨b, List.mem_of_getElem? (i := j) (by rw [List.getElem?_set, if_neg c]; exact hj), e⟩
theorem cut_set {α : Type} (xs : List α) (i : Nat) (x : α) (h : i < xs.length) : cut xs none (some (i : Nat)) ++ [x] ++ cut xs (some ((i : Int) + 1)) none = xs.set i x := by
  have s1 : sIx xs.length xs.length (some (i : Int)) = i := by
    show (if (i : Int) < 0 then ((i : Int) + (xs.length : Int)).toNat else min (i : Int).toNat xs.length) = i
    rw [if_neg (by omega)]
    omega
  have s2 : sIx xs.length 0 (some ((i : Int) + 1)) = i + 1 := by
    show (if (i : Int) + 1 < 0 then ((i : Int) + 1 + (xs.length : Int)).toNat else min ((i : Int) + 1).toNat xs.length) = i + 1
    rw [if_neg (by omega)]
    omega
  have e1 : cut xs none (some (i : Nat)) = xs.take i := by
    unfold cut
    rw [s1]
    rfl
  have e2 : cut xs (some ((i : Int) + 1)) none = xs.drop (i + 1) := by
    unfold cut
    rw [s2]
    exact List.take_of_length_le (by rw [List.length_drop]; exact Nat.le_refl _)
  rw [e1, e2, List.set_eq_take_append_cons_drop, if_pos h]
  simp
theorem rkF_flat (n : Nat) (as : List Ar) : ∀ d ∈ rkF n as, pla d = true ∧ dep d ≤ 20 := fun d hd => by
  obtain ⟨p, _, rfl⟩ := List.mem_map.mp hd
  cases rk n as (n + 1) p <;> exact ⟨rfl, Nat.zero_le _⟩
/-- the turns that are told -/
def rkT (n : Nat) (as : List Ar) : List Nat := (List.range n).filterMap (rk n as (n + 1))
theorem fm_oD (r : Nat → Option Nat) : ∀ xs : List Nat, (xs.filterMap fun p => if (!(r p).isNone) = true then some (oD (r p)) else none) = nD (xs.filterMap r)
  | [] => rfl
  | x :: xs => by
    rw [List.filterMap_cons, List.filterMap_cons, fm_oD r xs]
    cases r x <;> rfl
theorem rk_keep {n : Nat} {as : List Ar} {t p k : Nat} (h : rk n as t p = some k) : ∀ m, t ≤ m → rk n as m p = some k := fun m hm => by
  obtain ⟨m, rfl⟩ := Nat.exists_eq_add_of_le hm
  induction m with
  | zero => exact h
  | succ m ih =>
    show (match rk n as (t + m) p with
      | some k => some k
      | none => if wb as p (lft n (rk n as (t + m))) < 2520 then some (t + m + 1) else none) = _
    rw [ih (by omega)]
theorem rk_val {n : Nat} {as : List Ar} {p k : Nat} (hp : p < n) : ∀ t, rk n as t p = some k → 1 ≤ k ∧ k ≤ t ∧ p ∈ strk n as (k - 1)
  | 0, h => by cases h
  | t + 1, h => by
    rw [rk_succ n as t p hp] at h
    by_cases c : p ∈ strk n as t
    · rw [if_pos c] at h
      cases h
      exact ⟨by omega, by omega, c⟩
    · rw [if_neg c] at h
      obtain ⟨h1, h2, h3⟩ := rk_val hp t h
      exact ⟨h1, by omega, h3⟩
theorem rkT_le {n : Nat} {as : List Ar} {m : Nat} (h : m ∈ rkT n as) : 1 ≤ m ∧ m ≤ n + 1 := by
  obtain ⟨p, hp, e⟩ := List.mem_filterMap.mp h
  obtain ⟨h1, h2, _⟩ := rk_val (List.mem_range.mp hp) _ e
  exact ⟨h1, h2⟩
/-- no turn is left out -/
theorem rkT_all {n : Nat} {as : List Ar} {m t : Nat} (h : m ∈ rkT n as) (ht : t < m) : t + 1 ∈ rkT n as := by
  obtain ⟨p, hp, e⟩ := List.mem_filterMap.mp h
  obtain ⟨h1, h2, h3⟩ := rk_val (List.mem_range.mp hp) _ e
  have hne : strk n as t ≠ [] := fun z => by
    rw [(stab z (m - 1) (by omega)).2] at h3
    cases h3
  obtain ⟨q, hq⟩ := List.exists_mem_of_ne_nil _ hne
  have hqn := (mem_strk.mp hq).1.1
  have e1 : rk n as (t + 1) q = some (t + 1) := by rw [rk_succ n as t q hqn, if_pos hq]
  exact List.mem_filterMap.mpr ⟨q, List.mem_range.mpr hqn, rk_keep e1 (n + 1) (by omega)⟩
theorem trkOk_max {n : Nat} {as : List Ar} (h : TrkOk n as) : TrkOk n (as.map fun a => ⟨a.p, a.c, max a.pay 3, a.q⟩) := by
  refine ⟨h.n1, h.n2, by rw [List.length_map]; exact h.l1, by rw [List.length_map]; exact h.l2, fun a ha => ?_, ?_, fun p hp => ?_⟩
  · obtain ⟨b, hb, rfl⟩ := List.mem_map.mp ha
    have := h.ok b hb
    exact ⟨this.1, this.2.1, this.2.2.1, Nat.max_le.mpr ⟨this.2.2.2.1, by decide⟩, this.2.2.2.2⟩
  · rw [List.pairwise_map]
    exact h.asc
  · obtain ⟨a, ha, e⟩ := h.all p hp
    exact ⟨_, List.mem_map_of_mem ha, e⟩
/-- the row of twelve places -/
def row12 : List Ar := (List.range 12).map fun i => ⟨i, 97, if i = 11 then 2 else 1, min (i + 1) 11⟩
theorem trkOk_row : TrkOk 12 row12 := by
  refine ⟨by decide, by decide, by decide, by decide, by decide +kernel, by unfold row12; rw [List.pairwise_map]; exact (List.pairwise_lt_range).imp fun h => .inl h, fun p hp => ?_⟩
  exact ⟨_, List.mem_map_of_mem (List.mem_range.mpr hp), rfl⟩
theorem rangeD (n : Nat) : (List.range n).map (fun (i : Nat) => D.int (0 + i)) = nD (List.range n) := rng0 n
def inRng (a b : Int) (d : D) : Bool := match d with
  | .int i => decide (a ≤ i) && decide (i ≤ b)
  | _ => false
/-- x < y of ints -/
def ltI : D → D → Bool
  | .int a, .int b => decide (a < b)
  | _, _ => false
def ascI (xs : List D) : Bool := (List.range (xs.length - 1)).all fun i => match xs[i]?, xs[i + 1]? with
  | some x, some y => ltI x y
  | _, _ => true
/-- a lot: a tuple, not empty, of places, ascending -/
def isLotD (n : Nat) (d : D) : Bool := match d with
  | .tup xs => !xs.isEmpty && (xs.all (inRng 0 ((n : Int) - 1)) && ascI xs)
  | _ => false
theorem inRng_int {a b : Int} {d : D} (h : inRng a b d = true) : ∃ i, d = .int i ∧ a ≤ i ∧ i ≤ b := by
  unfold inRng at h
  split at h
  · rw [Bool.and_eq_true, decide_eq_true_eq, decide_eq_true_eq] at h
    exact ⟨_, rfl, h⟩
  · cases h
theorem lot_nat {n : Nat} : ∀ xs : List D, xs.all (inRng 0 ((n : Int) - 1)) = true → ∃ S : List Nat, xs = nD S ∧ ∀ p ∈ S, p < n
  | [], _ => ⟨[], rfl, fun _ h => by cases h⟩
  | x :: xs, h => by
    rw [List.all_cons, Bool.and_eq_true] at h
    obtain ⟨S, rfl, hS⟩ := lot_nat xs h.2
    obtain ⟨i, rfl, h1, h2⟩ := inRng_int h.1
    refine ⟨i.toNat :: S, ?_, fun p hp => ?_⟩
    · show _ = D.int (i.toNat : Nat) :: nD S
      rw [show ((i.toNat : Nat) : Int) = i by omega]
    · rcases List.mem_cons.mp hp with rfl | hp
      · omega
      · exact hS p hp
/-- full as a lot of natural numbers -/
def fullD (as : List Ar) (d : D) : Bool := match d with
  | .tup xs => fullB as (xs.map fun x => match x with
    | .int i => i.toNat
    | _ => 0)
  | _ => false
theorem fullD_nD (as : List Ar) (S : List Nat) : fullD as (.tup (nD S)) = fullB as S := by
  show fullB as _ = _
  congr 1
  unfold nD
  rw [List.map_map]
  exact List.map_id'' (fun p => by show (p : Int).toNat = p; omega) S
def isInt (d : D) : Bool := isTy "int" d && !isTy "bool" d
def isLet (d : D) : Bool := match d with
  | .str [c] => decide (97 ≤ c) && decide (c ≤ 122)
  | _ => false
theorem letters_mem (c : Nat) : decide (c ∈ [97, 98, 99, 100, 101, 102, 103, 104, 105, 106, 107, 108, 109, 110, 111, 112, 113, 114, 115, 116, 117, 118, 119, 120, 121, 122]) = (decide (97 ≤ c) && decide (c ≤ 122)) := by
  by_cases h : 97 ≤ c ∧ c ≤ 122
  · rw [decide_eq_true h.1, decide_eq_true h.2]
    simp only [Bool.and_self, decide_eq_true_eq, List.mem_cons, List.not_mem_nil, or_false]
    omega
  · have : (decide (97 ≤ c) && decide (c ≤ 122)) = false := by
      simp only [Bool.and_eq_false_iff, decide_eq_false_iff_not]
      omega
    rw [this]
    simp only [decide_eq_false_iff_not, List.mem_cons, List.not_mem_nil, or_false]
    omega
theorem arD_pla {a : Ar} (h : a.c < 128) : pla (arD a) = true := by simp [arD, pla, plas, h]
theorem arD_lt {a b : Ar} (h : arLt a b) : dlt (arD a) (arD b) = true := by
  unfold arLt at h
  simp only [arD, dlt, dlts, deq]
  rcases h with h | ⟨h1, h2⟩
  · have n : ¬ (a.p : Int) = (b.p : Int) := by omega
    have l : (a.p : Int) < (b.p : Int) := by omega
    simp [n, l]
  · have n : ¬ a.c = b.c := by omega
    simp [h1, sLt, n]
    exact List.Lex.rel h2
/-- x < y is told, as b -/
def LtOk (x y : D) (b : Bool) : Prop := ∀ k : D → Prop, k (.bl b) → wLt x y k
theorem ltOk_ar {a b : Ar} (ha : a.c < 128) (hb : b.c < 128) (h : arLt a b) : LtOk (arD a) (arD b) true := fun k hk => by
  refine ⟨⟨by simp [liks, lik], by simp [arD, dep, deps], arD_pla ha, arD_pla hb⟩, ?_⟩
  have e : dlts [.int (a.p : Nat), .str [a.c], .int (a.pay : Nat), .int (a.q : Nat)] [.int (b.p : Nat), .str [b.c], .int (b.pay : Nat), .int (b.q : Nat)] = true := arD_lt h
  rw [e]
  exact hk
theorem ltOk_int (i j : Int) : LtOk (.int i) (.int j) (decide (i < j)) := fun k hk => hk
theorem all_rep : ∀ bs : List Bool, (∀ b ∈ bs, b = true) → bs.all id = true := fun bs h => List.all_eq_true.mpr h
theorem lot_of {n : Nat} {S : List Nat} (h1 : S.Pairwise (· < ·)) (h2 : ∀ p ∈ S, p < n) (h3 : S ≠ []) : isLotD n (.tup (nD S)) = true := by
  show (!(nD S).isEmpty && ((nD S).all (inRng 0 ((n : Int) - 1)) && ascI (nD S))) = true
  rw [Bool.and_eq_true, Bool.and_eq_true]
  refine ⟨?_, ?_, ?_⟩
  · cases S with
    | nil => exact absurd rfl h3
    | cons a b => rfl
  · refine List.all_eq_true.mpr fun d hd => ?_
    obtain ⟨p, hp, rfl⟩ := List.mem_map.mp hd
    have := h2 p hp
    show (decide ((0 : Int) ≤ (p : Nat)) && decide (((p : Nat) : Int) ≤ (n : Int) - 1)) = true
    rw [Bool.and_eq_true]
    exact ⟨decide_eq_true (by omega), decide_eq_true (by omega)⟩
  · refine List.all_eq_true.mpr fun i hi => ?_
    have hi := List.mem_range.mp hi
    rw [nD_len] at hi
    have g : ∀ j (hj : j < S.length), (nD S)[j]? = some (.int (S[j] : Nat)) := fun j hj => by unfold nD; rw [List.getElem?_map, List.getElem?_eq_getElem hj]; rfl
    rw [g i (by omega), g (i + 1) (by omega)]
    have := (List.pairwise_iff_getElem.mp h1) i (i + 1) (by omega) (by omega) (by omega)
    exact decide_eq_true (by omega)
end Dx

set_option autoImplicit false
set_option linter.all false
set_option maxRecDepth 100000
set_option maxHeartbeats 2000000
/-! Dv: stakes, goals: what the plain proofs lean on. -/
namespace Dx
def fromB (k : Int) : D → Bool
  | .int i => decide (k ≤ i)
  | _ => false
def stakeB (as : List Ar) (p : Nat) : D → Bool
  | .tup xs => decide (xs.length = (frm as p).length) && xs.all (fromB 0)
  | _ => false
theorem nD_ints (L : List Nat) : nD L = (L.map fun (x : Nat) => (x : Int)).map .int := by
  unfold nD
  rw [List.map_map]
  rfl
theorem sumN : ∀ L : List Nat, (L.map fun (x : Nat) => (x : Int)).sum = ((L.sum : Nat) : Int)
  | [] => rfl
  | x :: L => by
    rw [List.map_cons, List.sum_cons, List.sum_cons, sumN L]
    omega
theorem place_in {p n : Nat} (h : p < n) : inRng 0 ((n : Int) - 1) (.int (p : Nat)) = true := by
  simp [inRng]
  omega
theorem from_ge {c k : Int} (h : k ≤ c) : fromB k (.int c) = true := by simp [fromB, h]
theorem stakeB_nD {as : List Ar} {p : Nat} {L : List Nat} (hl : L.length = (frm as p).length) : stakeB as p (.tup (nD L)) = true := by
  show (decide ((nD L).length = (frm as p).length) && (nD L).all (fromB 0)) = true
  rw [nD_len, hl]
  simp only [decide_true, Bool.true_and]
  refine List.all_eq_true.mpr fun x hx => ?_
  obtain ⟨y, _, rfl⟩ := List.mem_map.mp hx
  exact from_ge (by omega)
def outD (c s : Int) (a : Ar) (x : Nat) : D := .tup [.str [a.c], .int (c - s + a.pay * x), .int (a.q : Nat)]
def outsL (as : List Ar) (p : Nat) (c : Int) (L : List Nat) : List D := ((frm as p).zip L).map fun ax => outD c (L.sum : Nat) ax.1 ax.2
theorem outsL_len {as : List Ar} {p : Nat} {c : Int} {L : List Nat} (hl : L.length = (frm as p).length) : (outsL as p c L).length = (frm as p).length := by
  unfold outsL
  rw [List.length_map, List.length_zip, hl, Nat.min_self]
theorem outsL_get {as : List Ar} {p : Nat} {c : Int} {L : List Nat} {j : Nat} {y : D} (h : (outsL as p c L)[j]? = some y) : ∃ b z, (frm as p)[j]? = some b ∧ L[j]? = some z ∧ outD c (L.sum : Nat) b z = y := by
  obtain ⟨⟨b, z⟩, hb, rfl⟩ := map_get h
  obtain ⟨h1, h2⟩ := List.getElem?_zip_eq_some.mp hb
  exact ⟨b, z, h1, h2, rfl⟩
theorem outsL_at {as : List Ar} {p : Nat} {c : Int} {L : List Nat} {j : Nat} {b : Ar} {z : Nat} (h1 : (frm as p)[j]? = some b) (h2 : L[j]? = some z) : (outsL as p c L)[j]? = some (outD c (L.sum : Nat) b z) := by
  unfold outsL
  rw [List.getElem?_map, (List.getElem?_zip_eq_some (z := (b, z))).mpr ⟨h1, h2⟩]
  rfl
theorem zipd_map {α : Type} (f : α → D) : ∀ (xs : List α) (L : List Nat), zipd (xs.map f) (nD L) = (xs.zip L).map fun ax => .tup [f ax.1, .int (ax.2 : Nat)]
  | [], _ => rfl
  | _ :: _, [] => rfl
  | x :: xs, y :: L => by
    show D.tup [f x, .int (y : Nat)] :: zipd (xs.map f) (nD L) = _
    rw [zipd_map f xs L]
    rfl
theorem frm_pair {as : List Ar} {p : Nat} (asc : as.Pairwise arLt) : (frm as p).Pairwise fun a b => a.c < b.c := by
  have h := List.Pairwise.filter (fun a => decide (a.p = p)) asc
  refine (List.Pairwise.and_mem.mp h).imp ?_
  rintro a b ⟨ha, hb, h⟩
  have ha := of_decide_eq_true (List.mem_filter.mp ha).2
  have hb := of_decide_eq_true (List.mem_filter.mp hb).2
  rcases h with h | h
  · omega
  · exact h.2
theorem frm_inj {as : List Ar} {p i j : Nat} {a b : Ar} (asc : as.Pairwise arLt) (hb : (frm as p)[j]? = some b) (ha : (frm as p)[i]? = some a) (h : b.c = a.c) : j = i := by
  have pw := List.pairwise_iff_getElem.mp (frm_pair (p := p) asc)
  obtain ⟨h1, e1⟩ := List.getElem?_eq_some_iff.mp hb
  obtain ⟨h2, e2⟩ := List.getElem?_eq_some_iff.mp ha
  rcases Nat.lt_trichotomy i j with y | y | y
  · have := pw i j h2 h1 y
    rw [e1, e2] at this
    omega
  · exact y.symm
  · have := pw j i h1 h2 y
    rw [e1, e2] at this
    omega
end Dx

set_option autoImplicit false
set_option linter.all false
set_option maxRecDepth 100000
set_option maxHeartbeats 2000000
/-! Du: goals at a place: the least coins, by what is kept. -/
namespace Dx
abbrev Pr := Option Nat × Nat
def prD (x : Pr) : D := .tup [oD x.1, .int (x.2 : Nat)]
def gvl (x : Pr) : Nat := x.1.getD 0
def cdiv (a b : Nat) : Nat := (a + b - 1) / b
def stk (k : Nat) (x : Pr) : Nat := if gvl x ≤ k then 0 else cdiv (gvl x - k) x.2
def tot (ps : List Pr) (k : Nat) : Nat := k + (ps.map (stk k)).sum
def must : List Pr → Nat
  | [] => 0
  | x :: ps => max (if x.2 = 0 then gvl x else 0) (must ps)
def slope (ps : List Pr) (k : Nat) : Nat := (ps.map fun x => if k < gvl x then 2520 / x.2 else 0).sum
theorem must_le {ps : List Pr} {k : Nat} : must ps ≤ k ↔ ∀ x ∈ ps, x.2 = 0 → gvl x ≤ k := by
  induction ps with
  | nil => exact ⟨fun _ x h => (by cases h), fun _ => Nat.zero_le _⟩
  | cons y ps ih =>
    rw [must, Nat.max_le, ih]
    constructor
    · rintro ⟨h1, h2⟩ x hx h0
      rcases List.mem_cons.mp hx with rfl | hx
      · rw [if_pos h0] at h1
        exact h1
      · exact h2 x hx h0
    · intro h
      refine ⟨?_, fun x hx => h x (List.mem_cons_of_mem _ hx)⟩
      split
      · exact h y List.mem_cons_self ‹_›
      · exact Nat.zero_le _
theorem cdiv_mul {a m b : Nat} (hb : 0 < b) : cdiv (a + m * b) b = cdiv a b + m := by
  unfold cdiv
  have e : a + m * b + b - 1 = (a + b - 1) + m * b := by omega
  rw [e, Nat.add_mul_div_right _ _ hb]
theorem cdiv_mono {a c b : Nat} (h : a ≤ c) : cdiv a b ≤ cdiv c b := Nat.div_le_div_right (by omega)
theorem cdiv_zero {b : Nat} : cdiv 0 b = 0 := by
  unfold cdiv
  rcases Nat.eq_zero_or_pos b with h | h
  · rw [h]
  · exact Nat.div_eq_of_lt (by omega)
theorem cdiv_le {a b c : Nat} (hb : 0 < b) : cdiv a b ≤ c ↔ a ≤ b * c := by
  unfold cdiv
  rw [← Nat.lt_succ_iff, Nat.div_lt_iff_lt_mul hb, Nat.succ_mul, Nat.mul_comm c b]
  omega
theorem div_dvd {p R : Nat} (hp : 0 < p) (h : p ∣ R) : R / p * p = R := Nat.div_mul_cancel h
/-- one letter: R coins more that are kept -/
theorem stk_up {x : Pr} {k R : Nat} (hp : k < gvl x → 0 < x.2 ∧ x.2 ∣ R) : stk k x ≤ stk (k + R) x + (if k < gvl x then R / x.2 else 0) := by
  unfold stk
  by_cases h1 : gvl x ≤ k
  · rw [if_pos h1]; exact Nat.zero_le _
  · obtain ⟨p0, pd⟩ := hp (by omega)
    have e := div_dvd p0 pd
    rw [if_neg h1, if_pos (show k < gvl x by omega)]
    by_cases h2 : gvl x ≤ k + R
    · rw [if_pos h2, Nat.zero_add]
      refine (cdiv_le p0).mpr ?_
      rw [Nat.mul_comm, e]
      omega
    · rw [if_neg h2]
      have e2 : gvl x - k = (gvl x - (k + R)) + R / x.2 * x.2 := by rw [e]; omega
      rw [e2, cdiv_mul p0]
      exact Nat.le_refl _
theorem stk_down {x : Pr} {k R : Nat} (hR : 0 < R) (hp : k < gvl x → 0 < x.2 ∧ x.2 ∣ R) : stk (k + R) x + (if k + R - 1 < gvl x then R / x.2 else 0) ≤ stk k x := by
  unfold stk
  by_cases h1 : k + R - 1 < gvl x
  · obtain ⟨p0, pd⟩ := hp (by omega)
    have e := div_dvd p0 pd
    rw [if_pos h1, if_neg (show ¬ gvl x ≤ k by omega)]
    have e2 : gvl x - k = (gvl x - (k + R)) + R / x.2 * x.2 := by rw [e]; omega
    rw [e2, cdiv_mul p0]
    by_cases h2 : gvl x ≤ k + R
    · rw [if_pos h2]
      omega
    · rw [if_neg h2]
      exact Nat.le_refl _
  · rw [if_neg h1, if_pos (show gvl x ≤ k + R by omega)]
    exact Nat.zero_le _
theorem sumN_le {α : Type} {f h : α → Nat} : ∀ {xs : List α}, (∀ x ∈ xs, f x ≤ h x) → (xs.map f).sum ≤ (xs.map h).sum
  | [], _ => Nat.le_refl _
  | x :: xs, e => by
    rw [List.map_cons, List.map_cons, List.sum_cons, List.sum_cons]
    exact Nat.add_le_add (e x List.mem_cons_self) (sumN_le fun y hy => e y (List.mem_cons_of_mem _ hy))
theorem sumN_add {α : Type} (f h : α → Nat) : ∀ xs : List α, (xs.map fun x => f x + h x).sum = (xs.map f).sum + (xs.map h).sum
  | [] => rfl
  | x :: xs => by
    rw [List.map_cons, List.map_cons, List.map_cons, List.sum_cons, List.sum_cons, List.sum_cons, sumN_add f h xs]
    omega
theorem sumN_mul {α : Type} (f : α → Nat) (c : Nat) : ∀ xs : List α, (xs.map fun x => f x * c).sum = (xs.map f).sum * c
  | [] => by simp
  | x :: xs => by
    rw [List.map_cons, List.map_cons, List.sum_cons, List.sum_cons, sumN_mul f c xs, Nat.add_mul]
theorem sumN_congr {α : Type} {f h : α → Nat} {xs : List α} (e : ∀ x ∈ xs, f x = h x) : (xs.map f).sum = (xs.map h).sum := by
  rw [List.map_congr_left e]
/-- pays to nine -/
def PaysOk (ps : List Pr) : Prop := ∀ x ∈ ps, x.2 ≤ 9
theorem pay_dvd {p : Nat} (h : p ≤ 9) (h0 : 0 < p) : p ∣ 2520 := by
  have : p = 1 ∨ p = 2 ∨ p = 3 ∨ p = 4 ∨ p = 5 ∨ p = 6 ∨ p = 7 ∨ p = 8 ∨ p = 9 := by omega
  rcases this with rfl | rfl | rfl | rfl | rfl | rfl | rfl | rfl | rfl <;> decide
theorem slope_R {ps : List Pr} {k R : Nat} (hp : PaysOk ps) (h : ∀ x ∈ ps, k < gvl x → 0 < x.2 ∧ x.2 ∣ R) : (ps.map fun x => if k < gvl x then R / x.2 else 0).sum * 2520 = slope ps k * R := by
  unfold slope
  rw [← sumN_mul, ← sumN_mul]
  refine sumN_congr fun x hx => ?_
  by_cases h1 : k < gvl x
  · obtain ⟨p0, pd⟩ := h x hx h1
    rw [if_pos h1, if_pos h1]
    obtain ⟨n, hn⟩ := pay_dvd (hp x hx) p0
    obtain ⟨m, hm⟩ := pd
    rw [hn, hm, Nat.mul_div_cancel_left _ p0, Nat.mul_div_cancel_left _ p0]
    rw [Nat.mul_left_comm, Nat.mul_comm n, Nat.mul_assoc]
  · rw [if_neg h1, if_neg h1, Nat.zero_mul, Nat.zero_mul]
theorem slope_anti {ps : List Pr} {k j : Nat} (h : k ≤ j) : slope ps j ≤ slope ps k := by
  unfold slope
  refine sumN_le fun x _ => ?_
  by_cases h1 : j < gvl x
  · rw [if_pos h1, if_pos (by omega)]
    exact Nat.le_refl _
  · rw [if_neg h1]
    exact Nat.zero_le _
/-- a round of the pays -/
structure Rnd (ps : List Pr) (R : Nat) : Prop where
  pos : 0 < R
  le : R ≤ 2520
  dvd : ∀ x ∈ ps, 0 < x.2 → x.2 ∣ R
theorem above {ps : List Pr} {k : Nat} {R : Nat} (r : Rnd ps R) (hk : must ps ≤ k) : ∀ x ∈ ps, k < gvl x → 0 < x.2 ∧ x.2 ∣ R := fun x hx h => by
  have h0 : 0 < x.2 := by
    rcases Nat.eq_zero_or_pos x.2 with h0 | h0
    · have := must_le.mp hk x hx h0
      omega
    · exact h0
  exact ⟨h0, r.dvd x hx h0⟩
theorem tot_up {ps : List Pr} {k R : Nat} (hp : PaysOk ps) (r : Rnd ps R) (hk : must ps ≤ k) (hs : slope ps k ≤ 2520) : tot ps k ≤ tot ps (k + R) := by
  have ab := above r hk
  have h1 := sumN_le (xs := ps) (f := stk k) (h := fun x => stk (k + R) x + (if k < gvl x then R / x.2 else 0)) fun x hx => stk_up (ab x hx)
  rw [sumN_add] at h1
  have h2 := slope_R hp ab
  have h3 : slope ps k * R ≤ 2520 * R := Nat.mul_le_mul_right R hs
  unfold tot
  omega
theorem tot_down {ps : List Pr} {k R : Nat} (hp : PaysOk ps) (r : Rnd ps R) (hk : must ps ≤ k) (hs : 2520 < slope ps (k + R - 1)) : tot ps (k + R) ≤ tot ps k := by
  have ab := above r hk
  have h1 := sumN_le (xs := ps) (h := stk k) (f := fun x => stk (k + R) x + (if k + R - 1 < gvl x then R / x.2 else 0)) fun x hx => stk_down r.pos (ab x hx)
  rw [sumN_add] at h1
  have h2 := slope_R hp (k := k + R - 1) (R := R) fun x hx h => ab x hx (by have := r.pos; omega)
  have h3 : 2520 * R ≤ slope ps (k + R - 1) * R := Nat.mul_le_mul_right R (by omega)
  unfold tot
  omega
/-- where the sum turns -/
structure Turn (ps : List Pr) (t : Nat) : Prop where
  ge : must ps ≤ t
  le : slope ps t ≤ 2520
  gt : ∀ k, must ps ≤ k → k < t → 2520 < slope ps k
theorem window {ps : List Pr} {t R lo : Nat} (hp : PaysOk ps) (r : Rnd ps R) (T : Turn ps t) (hl : must ps ≤ lo) (k : Nat) (hk : lo ≤ k) :
    ∃ j, max lo (t - R) ≤ j ∧ j < max (max lo (t - R)) t + R ∧ tot ps j ≤ tot ps k := by
  have hR := r.pos
  by_cases h1 : k < max lo (t - R)
  · -- below: on by rounds
    have go : ∀ n k, t - R - k ≤ n → lo ≤ k → k < max lo (t - R) → ∃ j, max lo (t - R) ≤ j ∧ j < max (max lo (t - R)) t + R ∧ tot ps j ≤ tot ps k := by
      intro n
      induction n with
      | zero => intro k h1 h2 h3; omega
      | succ n ih =>
        intro k h1 h2 h3
        have hd := tot_down hp r (k := k) (by omega) (T.gt (k + R - 1) (by omega) (by omega))
        by_cases h4 : k + R < max lo (t - R)
        · obtain ⟨j, a, b, c⟩ := ih (k + R) (by omega) (by omega) h4
          exact ⟨j, a, b, by omega⟩
        · exact ⟨k + R, by omega, by omega, hd⟩
    exact go _ k (Nat.le_refl _) hk h1
  · -- above: back by rounds
    have go : ∀ n k, k ≤ n → max lo (t - R) ≤ k → ∃ j, max lo (t - R) ≤ j ∧ j < max (max lo (t - R)) t + R ∧ tot ps j ≤ tot ps k := by
      intro n
      induction n with
      | zero => intro k h1 h2; exact ⟨k, h2, by omega, Nat.le_refl _⟩
      | succ n ih =>
        intro k h1 h2
        by_cases h4 : k < max (max lo (t - R)) t + R
        · exact ⟨k, h2, h4, Nat.le_refl _⟩
        · have hd := tot_up hp r (k := k - R) (by omega) (Nat.le_trans (slope_anti (show t ≤ k - R by omega)) T.le)
          rw [show k - R + R = k by omega] at hd
          obtain ⟨j, a, b, c⟩ := ih (k - R) (by omega) (by omega)
          exact ⟨j, a, b, by omega⟩
    exact go _ k (Nat.le_refl _) (by omega)
/-- the least coins m, with k kept -/
structure NeedOk (ps : List Pr) (lo m k : Nat) : Prop where
  eq : m = tot ps k
  ge : lo ≤ k
  min : ∀ j, lo ≤ j → m ≤ tot ps j
theorem NeedOk.uniq {ps : List Pr} {lo m k m' k' : Nat} (h : NeedOk ps lo m k) (h' : NeedOk ps lo m' k') : m = m' := by
  have a := h.min k' h'.ge
  have b := h'.min k h.ge
  have := h.eq
  have := h'.eq
  omega
def told (ps : List Pr) : List Pr := ps.filter fun x => decide (0 < gvl x)
theorem told_mem {ps : List Pr} {x : Pr} (h : x ∈ told ps) : x ∈ ps ∧ 0 < gvl x := by
  obtain ⟨a, b⟩ := List.mem_filter.mp h
  exact ⟨a, of_decide_eq_true b⟩
theorem told_tot (ps : List Pr) (k : Nat) : tot (told ps) k = tot ps k := by
  unfold tot told
  congr 1
  induction ps with
  | nil => rfl
  | cons x ps ih =>
    rw [List.filter_cons]
    by_cases h : 0 < gvl x
    · rw [if_pos (decide_eq_true h), List.map_cons, List.map_cons, List.sum_cons, List.sum_cons, ih]
    · rw [if_neg (by simpa using h), ih, List.map_cons, List.sum_cons]
      have : stk k x = 0 := by
        unfold stk
        rw [if_pos (by omega)]
      omega
theorem told_must (ps : List Pr) : must (told ps) = must ps := by
  refine Nat.le_antisymm (must_le.mpr fun x hx h0 => must_le.mp (Nat.le_refl _) x (told_mem hx).1 h0) (must_le.mpr fun x hx h0 => ?_)
  by_cases h : 0 < gvl x
  · exact must_le.mp (Nat.le_refl _) x (List.mem_filter.mpr ⟨hx, decide_eq_true h⟩) h0
  · omega
theorem told_need {ps : List Pr} {m k : Nat} (h : NeedOk (told ps) (must (told ps)) m k) : NeedOk ps (must ps) m k := by
  rw [told_must] at h
  exact ⟨by rw [h.eq, told_tot], h.ge, fun j hj => by rw [← told_tot ps j]; exact h.min j hj⟩
/-! ### stakes that meet -/
def MeetsP (ps : List Pr) (k : Nat) (s : List Nat) : Prop := ∀ (i : Nat) x y, ps[i]? = some x → s[i]? = some y → gvl x ≤ k + x.2 * y
theorem meets_ge {ps : List Pr} : ∀ {k : Nat} {s : List Nat}, s.length = ps.length → MeetsP ps k s → must ps ≤ k ∧ (ps.map (stk k)).sum ≤ s.sum := by
  induction ps with
  | nil => intro k s _ _; exact ⟨Nat.zero_le _, Nat.zero_le _⟩
  | cons x ps ih =>
    intro k s hl h
    cases s with
    | nil => cases hl
    | cons y s =>
      obtain ⟨a, b⟩ := ih (k := k) (s := s) (by simpa using hl) fun i x y hx hy => h (i + 1) x y hx hy
      have h0 := h 0 x y rfl rfl
      refine ⟨?_, ?_⟩
      · rw [must, Nat.max_le]
        refine ⟨?_, a⟩
        split
        · rename_i e
          rw [e] at h0
          omega
        · exact Nat.zero_le _
      · rw [List.map_cons, List.sum_cons, List.sum_cons]
        refine Nat.add_le_add ?_ b
        unfold stk
        split
        · exact Nat.zero_le _
        · rcases Nat.eq_zero_or_pos x.2 with e | e
          · rw [e] at h0
            omega
          · exact (cdiv_le e).mpr (by omega)
theorem stk_meets {ps : List Pr} {k : Nat} (h : must ps ≤ k) : MeetsP ps k (ps.map (stk k)) := fun i x y hx hy => by
  rw [List.getElem?_map, hx] at hy
  cases hy
  unfold stk
  split
  · omega
  · rcases Nat.eq_zero_or_pos x.2 with e | e
    · have := must_le.mp h x (List.mem_of_getElem? hx) e
      omega
    · have := (cdiv_le (a := gvl x - k) (c := cdiv (gvl x - k) x.2) e).mp (Nat.le_refl _)
      omega
/-- some stake meets with so many coins just from the least coins on -/
theorem meets_iff {ps : List Pr} {m k c : Nat} (h : NeedOk ps (must ps) m k) : (∃ s : List Nat, s.length = ps.length ∧ s.sum ≤ c ∧ MeetsP ps (c - s.sum) s) ↔ m ≤ c := by
  constructor
  · rintro ⟨s, hl, hs, hm⟩
    obtain ⟨a, b⟩ := meets_ge hl hm
    have := h.min _ a
    unfold tot at this
    omega
  · intro hc
    have e := h.eq
    unfold tot at e
    refine ⟨ps.map (stk k), by rw [List.length_map], by omega, fun i x y hx hy => ?_⟩
    have := stk_meets h.ge i x y hx hy
    omega
/-- never more than the greatest goal -/
theorem need_le {ps : List Pr} {m k c : Nat} (h : NeedOk ps (must ps) m k) (hc : ∀ x ∈ ps, gvl x ≤ c) : m ≤ c := by
  refine (meets_iff h).mp ⟨ps.map fun _ => 0, by rw [List.length_map], ?_, fun i x y hx hy => ?_⟩
  · rw [show (ps.map fun _ => 0).sum = 0 from ?_]
    · exact Nat.zero_le _
    · clear h hc
      induction ps with
      | nil => rfl
      | cons _ _ ih => rw [List.map_cons, List.sum_cons, ih]
  · have e : (ps.map fun _ => 0).sum = 0 := by
      clear h hc hx hy
      induction ps with
      | nil => rfl
      | cons _ _ ih => rw [List.map_cons, List.sum_cons, ih]
    have := hc x (List.mem_of_getElem? hx)
    omega
/-- the pairs of the letters at a place -/
def pairsAt (as : List Ar) (p : Nat) (G : List (Option Nat)) : List Pr := (frm as p).map fun a => (G.getD a.q none, a.pay)
theorem pairsAt_len (as : List Ar) (p : Nat) (G : List (Option Nat)) : (pairsAt as p G).length = (frm as p).length := by simp [pairsAt]
theorem pairsAt_pays {n : Nat} {as : List Ar} (ok : TrkOk n as) (p : Nat) (G : List (Option Nat)) : PaysOk (pairsAt as p G) := fun x hx => by
  obtain ⟨a, ha, rfl⟩ := List.mem_map.mp hx
  exact (ok.ok a (List.mem_filter.mp ha).1).2.2.2.1
def goalsD (G : List (Option Nat)) : D := .tup (G.map oD)
end Dx
namespace Dx
theorem ex_max {P : Nat → Prop} [DecidablePred P] : ∀ T : List Nat, (∃ c ∈ T, P c) → ∃ c ∈ T, P c ∧ ∀ d ∈ T, P d → d ≤ c
  | [], ⟨_, h, _⟩ => by cases h
  | x :: T, h => by
    by_cases hT : ∃ c ∈ T, P c
    · obtain ⟨c, hc, pc, mx⟩ := ex_max T hT
      by_cases hx : P x ∧ c < x
      · refine ⟨x, List.mem_cons_self, hx.1, fun d hd pd => ?_⟩
        rcases List.mem_cons.mp hd with rfl | hd
        · exact Nat.le_refl _
        · have := mx d hd pd
          omega
      · refine ⟨c, List.mem_cons_of_mem _ hc, pc, fun d hd pd => ?_⟩
        rcases List.mem_cons.mp hd with rfl | hd
        · have : ¬ c < d := fun z => hx ⟨pd, z⟩
          omega
        · exact mx d hd pd
    · obtain ⟨c, hc, pc⟩ := h
      rcases List.mem_cons.mp hc with rfl | hc
      · refine ⟨c, List.mem_cons_self, pc, fun d hd pd => ?_⟩
        rcases List.mem_cons.mp hd with rfl | hd
        · exact Nat.le_refl _
        · exact absurd ⟨d, hd, pd⟩ hT
      · exact absurd ⟨c, hc, pc⟩ hT
def natOf : D → Nat
  | .int i => i.toNat
  | _ => 0
theorem sort_nat {ys : List D} {zs : List Nat} (hp : ys.Perm (nD zs)) (hs : ys.Pairwise fun a b => dlt b a = false) : ∃ S : List Nat, ys = nD S ∧ S.Perm zs ∧ S.Pairwise (· ≤ ·) := by
  have e1 : ∀ xs : List D, (∀ x ∈ xs, ∃ n : Nat, x = .int (n : Nat)) → xs = nD (xs.map natOf) := fun xs => by
    induction xs with
    | nil => intro _; rfl
    | cons x xs ih =>
      intro h
      obtain ⟨n, rfl⟩ := h x List.mem_cons_self
      have := ih fun y hy => h y (List.mem_cons_of_mem _ hy)
      show _ = D.int _ :: nD (xs.map natOf)
      rw [← this]
      rfl
  have hm : ∀ x ∈ ys, ∃ n : Nat, x = .int (n : Nat) := fun x hx => by
    obtain ⟨n, _, rfl⟩ := List.mem_map.mp (hp.mem_iff.mp hx)
    exact ⟨n, rfl⟩
  have e2 := e1 ys hm
  refine ⟨ys.map natOf, e2, ?_, ?_⟩
  · have := hp.map natOf
    rw [show (nD zs).map natOf = zs from ?_] at this
    · exact this
    · unfold nD
      rw [List.map_map]
      exact List.map_id'' (fun n => by simp [natOf]) zs
  · rw [e2] at hs
    unfold nD at hs
    rw [List.pairwise_map] at hs
    refine hs.imp fun {a b} h => ?_
    have h : decide ((b : Int) < (a : Nat)) = false := h
    rw [decide_eq_false_iff_not] at h
    omega
theorem slope_gap {ps : List Pr} {S : List Nat} {i k : Nat} {c : Nat} (hS : S.Pairwise (· ≤ ·)) (hm : must ps ∈ S) (hx : ∀ x ∈ ps, must ps < gvl x → gvl x ∈ S) (hc : S[i]? = some c) (hk : must ps ≤ k) (hk2 : k < c)
    (hj : ∀ j d, j < i → S[j]? = some d → 2520 < slope ps d) : 2520 < slope ps k := by
  have low : ∀ d ∈ S, d ≤ k → ∃ j, j < i ∧ S[j]? = some d := fun d hd hdk => by
    obtain ⟨j, e⟩ := List.getElem?_of_mem hd
    refine ⟨j, ?_, e⟩
    obtain ⟨h1, e1⟩ := List.getElem?_eq_some_iff.mp e
    obtain ⟨h2, e2⟩ := List.getElem?_eq_some_iff.mp hc
    rcases Nat.lt_or_ge j i with y | y
    · exact y
    · rcases Nat.eq_or_lt_of_le y with z | z
      · subst z
        rw [e1] at e2
        omega
      · have := List.pairwise_iff_getElem.mp hS i j h2 h1 z
        rw [e1, e2] at this
        omega
  obtain ⟨d, hd, pd, mx⟩ := ex_max (P := fun d => d ≤ k) S ⟨must ps, hm, hk⟩
  obtain ⟨j, h1, h2⟩ := low d hd pd
  have h3 := hj j d h1 h2
  have hmd : must ps ≤ d := mx _ hm hk
  refine Nat.lt_of_lt_of_le h3 ?_
  unfold slope
  refine sumN_le fun x hxm => ?_
  by_cases h4 : d < gvl x
  · have h5 : k < gvl x := by
      rcases Nat.lt_or_ge k (gvl x) with y | y
      · exact y
      · have := mx _ (hx x hxm (by omega)) y
        omega
    rw [if_pos h4, if_pos h5]
    exact Nat.le_refl _
  · rw [if_neg h4]
    exact Nat.zero_le _
theorem slope_top {ps : List Pr} {c : Nat} (h : ∀ x ∈ ps, gvl x ≤ c) : slope ps c = 0 := by
  unfold slope
  induction ps with
  | nil => rfl
  | cons x ps ih =>
    rw [List.map_cons, List.sum_cons, ih fun y hy => h y (List.mem_cons_of_mem _ hy), if_neg]
    have := h x List.mem_cons_self
    omega
def Tld (ps : List Pr) : Prop := ∀ x ∈ ps, ∃ gg, x.1 = some gg
theorem told_tld (ps : List Pr) : Tld (told ps) := fun x hx => by
  have := (told_mem hx).2
  obtain ⟨o, p⟩ := x
  cases o with
  | none => exact absurd this (Nat.lt_irrefl 0)
  | some g => exact ⟨g, rfl⟩
theorem told_len (ps : List Pr) : (told ps).length ≤ ps.length := List.length_filter_le _ _
theorem prD_tld {x : Pr} (h : ∃ gg, x.1 = some gg) : prD x = .tup [.int (gvl x : Nat), .int (x.2 : Nat)] := by
  obtain ⟨o, p⟩ := x
  obtain ⟨gg, e⟩ := h
  cases e
  rfl
theorem dlt_pair (a b c d : Int) : dlt (.tup [.int a, .int b]) (.tup [.int c, .int d]) = if a = c then decide (b < d) else decide (a < c) := by
  simp only [dlt, dlts, deq]
  by_cases h : a = c
  · simp [h]
    by_cases h2 : b = d
    · simp [h2]
    · simp [h2]
  · simp [h]
end Dx
namespace Dx
/-! ### all stakes of at most so many coins -/
def extS (c : Nat) (s : List Nat) : List (List Nat) := (List.range (c - s.sum + 1)).map fun x => s ++ [x]
def stakesL (c : Nat) : Nat → List (List Nat)
  | 0 => [[]]
  | m + 1 => (stakesL c m).flatMap (extS c)
theorem mem_extS {c : Nat} {s t : List Nat} (h : s.sum ≤ c) : t ∈ extS c s ↔ ∃ x, t = s ++ [x] ∧ s.sum + x ≤ c := by
  unfold extS
  rw [List.mem_map]
  constructor
  · rintro ⟨x, hx, rfl⟩
    exact ⟨x, rfl, by have := List.mem_range.mp hx; omega⟩
  · rintro ⟨x, rfl, hx⟩
    exact ⟨x, List.mem_range.mpr (by omega), rfl⟩
theorem mem_stakesL {c : Nat} : ∀ {m : Nat} {s : List Nat}, s ∈ stakesL c m ↔ s.length = m ∧ s.sum ≤ c
  | 0, s => by
    rw [stakesL, List.mem_singleton]
    constructor
    · rintro rfl
      exact ⟨rfl, Nat.zero_le _⟩
    · rintro ⟨h, _⟩
      exact List.eq_nil_of_length_eq_zero h
  | m + 1, s => by
    rw [stakesL, List.mem_flatMap]
    constructor
    · rintro ⟨t, ht, hs⟩
      obtain ⟨h1, h2⟩ := mem_stakesL.mp ht
      obtain ⟨x, rfl, hx⟩ := (mem_extS h2).mp hs
      rw [List.length_append, List.sum_append]
      simp only [List.length_cons, List.length_nil, List.sum_cons, List.sum_nil]
      omega
    · rintro ⟨h1, h2⟩
      have hne : s ≠ [] := fun e => by rw [e] at h1; cases h1
      have e := List.dropLast_concat_getLast hne
      have e2 := congrArg List.sum e
      rw [List.sum_append] at e2
      simp only [List.sum_cons, List.sum_nil] at e2
      refine ⟨s.dropLast, mem_stakesL.mpr ⟨by rw [List.length_dropLast]; omega, by omega⟩, (mem_extS (by omega)).mpr ⟨s.getLast hne, e.symm, by omega⟩⟩
theorem len_extS {c : Nat} {s : List Nat} : (extS c s).length ≤ c + 1 := by
  unfold extS
  rw [List.length_map, List.length_range]
  omega
theorem len_flat {c : Nat} : ∀ L : List (List Nat), (L.flatMap (extS c)).length ≤ L.length * (c + 1)
  | [] => by simp
  | s :: L => by
    rw [List.flatMap_cons, List.length_append, List.length_cons, Nat.add_mul, Nat.one_mul]
    have := len_extS (c := c) (s := s)
    have := len_flat (c := c) L
    omega
theorem len_stakesL {c : Nat} : ∀ m : Nat, (stakesL c m).length ≤ (c + 1) ^ m
  | 0 => Nat.le_refl _
  | m + 1 => by
    rw [stakesL, Nat.pow_succ]
    exact Nat.le_trans (len_flat _) (Nat.mul_le_mul_right _ (len_stakesL m))
theorem pow_mono {c m n : Nat} (h : m ≤ n) : (c + 1) ^ m ≤ (c + 1) ^ n := Nat.pow_le_pow_right (by omega) h
end Dx
namespace Dx
def lcmP (ps : List Pr) : Nat := ps.foldl (fun R x => if 0 < x.2 then Nat.lcm R x.2 else R) 1
theorem lcmP_snoc (ps : List Pr) (x : Pr) : lcmP (ps ++ [x]) = if 0 < x.2 then Nat.lcm (lcmP ps) x.2 else lcmP ps := by
  unfold lcmP
  rw [List.foldl_append]
  rfl
/-- which of the kept coins is told -/
def BK (ps : List Pr) (lo k : Nat) : Prop := ∃ t, Turn ps t ∧ (max lo (t - lcmP ps) ≤ k ∧ k < max (max lo (t - lcmP ps)) t + lcmP ps) ∧
  ∀ j, max lo (t - lcmP ps) ≤ j → j < max (max lo (t - lcmP ps)) t + lcmP ps → tot ps k < tot ps j ∨ (tot ps k = tot ps j ∧ k ≤ j)
theorem Turn.uniq {ps : List Pr} {t t' : Nat} (h : Turn ps t) (h' : Turn ps t') : t = t' := by
  rcases Nat.lt_trichotomy t t' with y | y | y
  · have := h'.gt t h.ge y
    have := h.le
    omega
  · exact y
  · have := h.gt t' h'.ge y
    have := h'.le
    omega
theorem BK.uniq {ps : List Pr} {lo k k' : Nat} (h : BK ps lo k) (h' : BK ps lo k') : k = k' := by
  obtain ⟨t, T, ⟨a, b⟩, c⟩ := h
  obtain ⟨t', T', ⟨a', b'⟩, c'⟩ := h'
  have e := T.uniq T'
  subst e
  have h1 := c k' a' b'
  have h2 := c' k a b
  omega
end Dx
namespace Dx
/-! ### the pot: great numbers, small ones, turns -/
structure Pt (g : Gm) (p a b : Nat) (gr sm : List Int) (t c : Nat) : Prop where
  hp : g.st p = some [.ref a, .ref b, .int (t : Nat), .int (c : Nat)]
  ha : g.st a = some (gr.map D.int)
  hb : g.st b = some (sm.map D.int)
  ne : sm ≠ []
  pos : ∀ x ∈ gr, 0 ≤ x
  pos2 : ∀ x ∈ sm, 0 ≤ x
  pa : p ≠ a
  pb : p ≠ b
  ab : a ≠ b
  few : gr.length ≤ 1000
  few2 : sm.length ≤ 1000
def IsPot (g : Gm) (p : Nat) : Prop := ∃ a b gr sm t c, Pt g p a b gr sm t c
theorem gset_same (g : Gm) (a : Nat) (xs : List D) : (gset g a xs).st a = some xs := if_pos rfl
theorem gset_ne (g : Gm) {a b : Nat} (xs : List D) (h : b ≠ a) : (gset g a xs).st b = g.st b := if_neg h
theorem Pt.turn {g : Gm} {p a b : Nat} {gr sm : List Int} {t c : Nat} (h : Pt g p a b gr sm t c) (t' : Nat) : Pt (gset g p [.ref a, .ref b, .int (t' : Nat), .int (c : Nat)]) p a b gr sm t' c :=
  ⟨gset_same _ _ _, by rw [gset_ne _ _ (Ne.symm h.pa)]; exact h.ha, by rw [gset_ne _ _ (Ne.symm h.pb)]; exact h.hb, h.ne, h.pos, h.pos2, h.pa, h.pb, h.ab, h.few, h.few2⟩
theorem Pt.great {g : Gm} {p a b : Nat} {gr sm : List Int} {t c : Nat} (h : Pt g p a b gr sm t c) (gr' : List Int) (h0 : ∀ x ∈ gr', 0 ≤ x) (hl : gr'.length ≤ 1000) : Pt (gset g a (gr'.map D.int)) p a b gr' sm t c :=
  ⟨by rw [gset_ne _ _ h.pa]; exact h.hp, gset_same _ _ _, by rw [gset_ne _ _ (Ne.symm h.ab)]; exact h.hb, h.ne, h0, h.pos2, h.pa, h.pb, h.ab, hl, h.few2⟩
theorem perm_map_inv {α β : Type} (f : α → β) : ∀ (ys : List β) (xs : List α), ys.Perm (xs.map f) → ∃ zs : List α, ys = zs.map f ∧ zs.Perm xs
  | [], xs, h => by
    have := h.length_eq
    rw [List.length_map, List.length_nil] at this
    rw [List.eq_nil_of_length_eq_zero this.symm]
    exact ⟨[], rfl, List.Perm.refl _⟩
  | y :: ys, xs, h => by
    have hy : y ∈ xs.map f := h.mem_iff.mp List.mem_cons_self
    obtain ⟨x, hx, rfl⟩ := List.mem_map.mp hy
    obtain ⟨l1, l2, rfl⟩ := List.append_of_mem hx
    have h2 : (f x :: ys).Perm (f x :: (l1 ++ l2).map f) := by
      refine h.trans ?_
      rw [List.map_append, List.map_append, List.map_cons]
      exact List.perm_middle
    obtain ⟨zs, rfl, hz⟩ := perm_map_inv f ys (l1 ++ l2) h2.cons_inv
    exact ⟨x :: zs, rfl, (hz.cons x).trans List.perm_middle.symm⟩
theorem arLt_of {a b : Ar} (h : dlt (arD b) (arD a) = false) (hk : ¬ (a.p = b.p ∧ a.c = b.c)) : arLt a b := by
  by_cases w : arLt b a
  · rw [arD_lt w] at h
    cases h
  · unfold arLt at w ⊢
    omega
theorem sort_arrows {ys : List D} {bs : List Ar} (hp : ys.Perm (bs.map arD)) (hs : ys.Pairwise fun a b => dlt b a = false) (hk : bs.Pairwise fun a b => ¬ (a.p = b.p ∧ a.c = b.c)) : ∃ as : List Ar, ys = as.map arD ∧ as.Perm bs ∧ as.Pairwise arLt := by
  obtain ⟨as, rfl, h⟩ := perm_map_inv arD ys bs hp
  refine ⟨as, rfl, h, ?_⟩
  rw [List.pairwise_map] at hs
  have hk2 : as.Pairwise fun a b => ¬ (a.p = b.p ∧ a.c = b.c) := (h.pairwise_iff (fun {a b} w => fun z => w ⟨z.1.symm, z.2.symm⟩)).mpr hk
  exact (hs.and hk2).imp fun {a b} w => arLt_of w.1 w.2
/-- the least coins, told -/
theorem need_ex (ps : List Pr) (lo : Nat) : ∃ m k, NeedOk ps lo m k := by
  have : ∀ n, (∃ k, lo ≤ k ∧ tot ps k ≤ n) → ∃ m k, NeedOk ps lo m k := by
    intro n
    induction n with
    | zero =>
      rintro ⟨k, h1, h2⟩
      exact ⟨tot ps k, k, rfl, h1, fun j _ => by omega⟩
    | succ n ih =>
      rintro ⟨k, h1, h2⟩
      by_cases h : ∃ k, lo ≤ k ∧ tot ps k ≤ n
      · exact ih h
      · refine ⟨tot ps k, k, rfl, h1, fun j hj => ?_⟩
        have : ¬ tot ps j ≤ n := fun e => h ⟨j, hj, e⟩
        omega
  exact this _ ⟨lo, Nat.le_refl _, Nat.le_refl _⟩
noncomputable def needN (ps : List Pr) : Nat := Classical.choose (need_ex ps (must ps))
theorem needN_ok (ps : List Pr) : ∃ k, NeedOk ps (must ps) (needN ps) k := Classical.choose_spec (need_ex ps (must ps))
theorem needN_eq {ps : List Pr} {m k : Nat} (h : NeedOk ps (must ps) m k) : m = needN ps := by
  obtain ⟨k2, h2⟩ := needN_ok ps
  exact h.uniq h2
theorem half_le {ps : List Pr} {qs : List Pr} (hl : qs.length = ps.length) (h : ∀ (i : Nat) x y, qs[i]? = some x → ps[i]? = some y → x.2 = y.2 ∧ gvl x ≤ gvl y) {m k m' k' : Nat} (nd : NeedOk ps (must ps) m k) (nd' : NeedOk qs (must qs) m' k') : m' ≤ m := by
  obtain ⟨s, h1, h2, h3⟩ := (meets_iff nd (c := m)).mpr (Nat.le_refl _)
  refine (meets_iff nd').mp ⟨s, by omega, h2, fun i x z hx hz => ?_⟩
  obtain ⟨hi, _⟩ := List.getElem?_eq_some_iff.mp hx
  have hy : ps[i]? = some ps[i] := List.getElem?_eq_getElem (by omega)
  obtain ⟨e1, e2⟩ := h i x _ hx hy
  have := h3 i _ z hy hz
  rw [e1]
  omega
theorem needN_zero {ps : List Pr} (h : ∀ x ∈ ps, gvl x = 0) : needN ps = 0 := by
  obtain ⟨k, nd⟩ := needN_ok ps
  have := need_le nd (c := 0) fun x hx => by rw [h x hx]; exact Nat.le_refl _
  omega
/-- goals of one letter less -/
noncomputable def nextW (n : Nat) (as : List Ar) (W : List Nat) : List Nat := (List.range n).map fun p => needN (pairsAt as p (W.map some))
noncomputable def aftW (n : Nat) (as : List Ar) (W : List Nat) : Nat → List Nat
  | 0 => W
  | t + 1 => nextW n as (aftW n as W t)
theorem aftW_add (n : Nat) (as : List Ar) (W : List Nat) (s : Nat) : ∀ t, aftW n as (aftW n as W s) t = aftW n as W (s + t)
  | 0 => rfl
  | t + 1 => by
    show nextW n as (aftW n as (aftW n as W s) t) = nextW n as (aftW n as W (s + t))
    rw [aftW_add n as W s t]
theorem aftW_len {n : Nat} {as : List Ar} {W : List Nat} (h : W.length = n) : ∀ t, (aftW n as W t).length = n
  | 0 => h
  | t + 1 => by simp [aftW, nextW]
def LeW (V W : List Nat) : Prop := V.length = W.length ∧ ∀ (i : Nat) x y, V[i]? = some x → W[i]? = some y → x ≤ y
theorem getD_some (W : List Nat) (q : Nat) : gvl ((W.map some).getD q none, 0) = W.getD q 0 := by
  rw [List.getD_eq_getElem?_getD, List.getD_eq_getElem?_getD, List.getElem?_map]
  cases W[q]? <;> rfl
theorem LeW.getD {V W : List Nat} (h : LeW V W) (q : Nat) : V.getD q 0 ≤ W.getD q 0 := by
  rw [List.getD_eq_getElem?_getD, List.getD_eq_getElem?_getD]
  cases hv : V[q]? with
  | none => exact Nat.zero_le _
  | some x =>
    have hi := (List.getElem?_eq_some_iff.mp hv).1
    have hw : W[q]? = some (W[q]'(by rw [← h.1]; exact hi)) := List.getElem?_eq_getElem _
    rw [hw]
    exact h.2 q x _ hv hw
theorem nextW_mono {n : Nat} {as : List Ar} {V W : List Nat} (h : LeW V W) : LeW (nextW n as V) (nextW n as W) := by
  refine ⟨by simp [nextW], fun i x y hx hy => ?_⟩
  unfold nextW at hx hy
  rw [List.getElem?_map] at hx hy
  cases e : (List.range n)[i]? with
  | none => rw [e] at hx; cases hx
  | some p =>
    rw [e] at hx hy
    cases hx
    cases hy
    obtain ⟨k, nd⟩ := needN_ok (pairsAt as p (V.map some))
    obtain ⟨k', nd'⟩ := needN_ok (pairsAt as p (W.map some))
    refine half_le (by rw [pairsAt_len, pairsAt_len]) (fun i x y hx hy => ?_) nd' nd
    unfold pairsAt at hx hy
    rw [List.getElem?_map] at hx hy
    cases ha : (frm as p)[i]? with
    | none => rw [ha] at hx; cases hx
    | some a =>
      rw [ha] at hx hy
      cases hx
      cases hy
      refine ⟨rfl, ?_⟩
      show gvl ((V.map some).getD a.q none, 0) ≤ gvl ((W.map some).getD a.q none, 0)
      rw [getD_some, getD_some]
      exact h.getD a.q
theorem aftW_mono {n : Nat} {as : List Ar} {V W : List Nat} (h : LeW V W) : ∀ t, LeW (aftW n as V t) (aftW n as W t)
  | 0 => h
  | t + 1 => nextW_mono (aftW_mono h t)
theorem aftW_zero {n : Nat} {as : List Ar} : ∀ t, aftW n as (List.replicate n 0) t = List.replicate n 0
  | 0 => rfl
  | t + 1 => by
    show nextW n as (aftW n as (List.replicate n 0) t) = _
    rw [aftW_zero t]
    unfold nextW
    refine List.ext_getElem? fun i => ?_
    rw [List.getElem?_map, List.getElem?_replicate]
    by_cases h : i < n
    · rw [List.getElem?_range h, if_pos h]
      show some (needN _) = some 0
      rw [needN_zero fun x hx => ?_]
      obtain ⟨a, _, rfl⟩ := List.mem_map.mp hx
      show gvl (((List.replicate n 0).map some).getD a.q none, 0) = 0
      rw [getD_some, List.getD_eq_getElem?_getD, List.getElem?_replicate]
      split <;> rfl
    · rw [if_neg h, List.getElem?_eq_none (by rw [List.length_range]; omega)]
      rfl
def zeroN (G : List (Option Nat)) : List Nat := G.map fun o => o.getD 0
theorem goals_some (W : List Nat) : goalsD (W.map some) = .tup (nD W) := by
  unfold goalsD nD
  rw [List.map_map]
  rfl
end Dx
namespace Dx
noncomputable def nearN (n : Nat) (as : List Ar) (c : Nat) (W : List Nat) : List Nat := (nextW n as W).map fun x => min c x
noncomputable def withW (n : Nat) (as : List Ar) (c : Nat) : Nat → List Nat
  | 0 => List.replicate n c
  | t + 1 => nearN n as c (withW n as c t)
theorem withW_len (n : Nat) (as : List Ar) (c : Nat) : ∀ t, (withW n as c t).length = n
  | 0 => by simp [withW]
  | t + 1 => by simp [withW, nearN, nextW]
theorem withW_le (n : Nat) (as : List Ar) (c : Nat) : ∀ t, ∀ x ∈ withW n as c t, x ≤ c
  | 0 => fun x hx => by
    rw [withW] at hx
    rw [List.eq_of_mem_replicate hx]
    exact Nat.le_refl _
  | t + 1 => fun x hx => by
    rw [withW, nearN] at hx
    obtain ⟨y, _, rfl⟩ := List.mem_map.mp hx
    exact Nat.min_le_left _ _
theorem nearN_mono {n : Nat} {as : List Ar} {c : Nat} {V W : List Nat} (h : LeW V W) : LeW (nearN n as c V) (nearN n as c W) := by
  have hn := nextW_mono (n := n) (as := as) h
  refine ⟨by simp [nearN, nextW], fun i x y hx hy => ?_⟩
  unfold nearN at hx hy
  rw [List.getElem?_map] at hx hy
  cases ha : (nextW n as V)[i]? with
  | none => rw [ha] at hx; cases hx
  | some a =>
    cases hb : (nextW n as W)[i]? with
    | none => rw [hb] at hy; cases hy
    | some b =>
      rw [ha] at hx
      rw [hb] at hy
      cases hx
      cases hy
      have := hn.2 i a b ha hb
      show min c a ≤ min c b
      omega
theorem withW_down (n : Nat) (as : List Ar) (c : Nat) : ∀ t, LeW (withW n as c (t + 1)) (withW n as c t)
  | 0 => by
    refine ⟨by rw [withW_len, withW_len], fun i x y hx hy => ?_⟩
    have h1 := withW_le n as c 1 x (List.mem_of_getElem? hx)
    have h2 : y = c := by
      rw [withW, List.getElem?_replicate] at hy
      split at hy <;> cases hy
      rfl
    omega
  | t + 1 => nearN_mono (withW_down n as c t)
theorem withW_at {n : Nat} {as : List Ar} {c t p : Nat} (h : p < n) : (withW n as c (t + 1))[p]? = some (min c (needN (pairsAt as p ((withW n as c t).map some)))) := by
  rw [withW, nearN, nextW, List.getElem?_map, List.getElem?_map, List.getElem?_range h]
  rfl
theorem frm_ne {n : Nat} {as : List Ar} (ok : TrkOk n as) {p : Nat} (hp : p < n) : frm as p ≠ [] := fun e => by
  obtain ⟨a, ha, h⟩ := ok.all p hp
  have : a ∈ frm as p := List.mem_filter.mpr ⟨ha, decide_eq_true h⟩
  rw [e] at this
  cases this
theorem some_tld (as : List Ar) (p : Nat) (W : List Nat) (h : ∀ a ∈ as, a.q < W.length) : Tld (pairsAt as p (W.map some)) := fun x hx => by
  obtain ⟨a, ha, rfl⟩ := List.mem_map.mp hx
  have hq := h a (List.mem_filter.mp ha).1
  refine ⟨W[a.q], ?_⟩
  show (W.map some).getD a.q none = _
  rw [List.getD_eq_getElem?_getD, List.getElem?_map, List.getElem?_eq_getElem hq]
  rfl
theorem some_lt (as : List Ar) (p : Nat) (W : List Nat) (B : Nat) (h : ∀ x ∈ W, x ≤ B) : ∀ x ∈ pairsAt as p (W.map some), gvl x ≤ B := fun x hx => by
  obtain ⟨a, _, rfl⟩ := List.mem_map.mp hx
  show gvl ((W.map some).getD a.q none, 0) ≤ _
  rw [getD_some, List.getD_eq_getElem?_getD]
  cases e : W[a.q]? with
  | none => exact Nat.zero_le _
  | some z => exact h z (List.mem_of_getElem? e)
theorem pairs_map (as : List Ar) (p : Nat) (G : List (Option Nat)) : (frm as p).map (fun a => prD (G.getD a.q none, a.pay)) = (pairsAt as p G).map prD := by
  unfold pairsAt
  rw [List.map_map]
  rfl
theorem stk_sum {ps : List Pr} {m k c : Nat} (nd : NeedOk ps (must ps) m k) (h : m ≤ c) : (ps.map (stk k)).sum ≤ c ∧ MeetsP ps (c - (ps.map (stk k)).sum) (ps.map (stk k)) := by
  have e := nd.eq
  unfold tot at e
  refine ⟨by omega, fun i x y hx hy => ?_⟩
  have := stk_meets nd.ge i x y hx hy
  omega
theorem nD_ok (S : List Nat) : eqOk (.tup (nD S)) (.tup (nD S)) := eqOk_tups (nD_flat S) (nD_flat S)
theorem zip_gt {V W : List Nat} (h : LeW V W) : ∀ p ∈ V.zip W, p.1 ≤ p.2 := fun p hp => by
  obtain ⟨i, hi⟩ := List.getElem?_of_mem hp
  obtain ⟨h1, h2⟩ := List.getElem?_zip_eq_some.mp hi
  exact h.2 i _ _ h1 h2
theorem zipd_nn (V W : List Nat) : zipd (nD V) (nD W) = (V.zip W).map fun p => .tup [.int (p.1 : Nat), .int (p.2 : Nat)] := zipd_map (fun (n : Nat) => D.int (n : Nat)) V W
theorem filter_nil {α : Type} (c : α → Bool) (xs : List α) : deq (.int ((xs.filter c).length : Nat)) (.int 0) = decide (∀ x ∈ xs, c x = false) := by
  show decide _ = decide _
  refine decide_eq_decide.mpr ?_
  constructor
  · intro h x hx
    cases e : c x with
    | false => rfl
    | true =>
      have := List.length_pos_of_mem (List.mem_filter.mpr ⟨hx, e⟩)
      omega
  · intro h
    have : xs.filter c = [] := List.filter_eq_nil_iff.mpr fun x hx => by rw [h x hx]; decide
    rw [this]
    rfl
theorem rng_at {n i j : Nat} (h : (List.range n)[i]? = some j) : i < n ∧ j = i := by
  obtain ⟨h1, h2⟩ := List.getElem?_eq_some_iff.mp h
  rw [List.length_range] at h1
  rw [List.getElem_range] at h2
  exact ⟨h1, h2.symm⟩
theorem nD_at {S : List Nat} {i x : Nat} (h : S[i]? = some x) : (nD S)[i]? = some (.int (x : Nat)) := by
  unfold nD
  rw [List.getElem?_map, h]
  rfl
end Dx

set_option autoImplicit false
set_option linter.all false
set_option Elab.async false
set_option maxRecDepth 100000
set_option maxHeartbeats 2000000
namespace Dx
section
variable {G : Type}
/-- a or 0, of a whole number or None -/
def dOr0 (a : DE G) : DE G := fun ex l g Q => a ex l g fun x l1 g1 => match x with
  | .non => Q (.int 0) l1 g1
  | .int i => Q (.int i) l1 g1
  | _ => False
/-- xs[::-1] -/
def dRev (a : DE G) : DE G := fun ex l g Q => a ex l g fun x l1 g1 => match x with
  | .lst xs => Q (.lst xs.reverse) l1 g1
  | _ => False
/-- [e for t in it if c for t1 in it1 if c1] -/
def dComp2 (it : DI G) (t : Tg) (c : DT G) (it1 : DI G) (t1 : Tg) (c1 : DT G) (e : DE G) (vs vs1 : List Nat) : DE G := fun ex l g Q => it ex l g fun xs l1 g1 => noOw l1 vs = true ∧ ∃ I : Nat → List D → G → Prop, I 0 [] g1 ∧
  (∀ i x acc g, xs[i]? = some x → I i acc g → t x (wipeL l1 vs) fun l2 => wipeL l2 vs = wipeL l1 vs ∧ c noX l2 g fun b l3 g3 => wipeL l3 vs = wipeL l1 vs ∧
    if b = true then it1 noX l3 g3 fun ys l4 g4 => wipeL l4 vs = wipeL l1 vs ∧ ∃ J : Nat → List D → G → Prop, J 0 acc g4 ∧
      (∀ j y acc g, ys[j]? = some y → J j acc g → t1 y (wipeL l4 vs1) fun l5 => wipeL l5 vs1 = wipeL l4 vs1 ∧ c1 noX l5 g fun b l6 g6 => wipeL l6 vs1 = wipeL l4 vs1 ∧
        if b = true then e noX l6 g6 fun z l7 g7 => wipeL l7 vs1 = wipeL l4 vs1 ∧ acc.length < LIM ∧ J (j + 1) (acc ++ [z]) g7 else J (j + 1) acc g6) ∧
      ∀ acc g, J ys.length acc g → I (i + 1) acc g
    else I (i + 1) acc g3) ∧
  ∀ acc g, I xs.length acc g → Q (.lst acc) l1 g
/-- own.extend(a) -/
def sExt (i : Nat) (a : DE G) : DS G := fun ex E l g => getO l i fun d0 => match d0 with
  | .lst _ => a ex l g fun y l1 g1 => getO l1 i fun d => match d with
    | .lst xs => match y with
      | .lst ys => xs.length + ys.length ≤ LIM ∧ E.nx (l1.set i (.ow (.lst (xs ++ ys)))) g1
      | _ => False
    | _ => False
  | _ => False
/-- {k: v} -/
def dDisp1 (kx vx : DE G) : DE G := fun ex l g Q => kx ex l g fun y l1 g1 => vx ex l1 g1 fun z l2 g2 => keyK false y = true ∧ Q (.dic false [(y, z)]) l2 g2
/-- sorted(d), by whole numbers as keys -/
def bSortK : WA := fun ds k => match ds with
  | [.dic false kvs] => ∃ ks : List Int, kvs.map (·.1) = ks.map .int ∧ ks.length < 64 ∧ ∀ ys : List Int, ys.Perm ks → ys.Pairwise (· ≤ ·) → k (.lst (ys.map .int))
  | _ => False
/-- [e for t in own if c] -/
def dCompO (j : Nat) (t : Tg) (c : DT G) (e : DE G) (vs : List Nat) : DE G := fun _ l g Q => getO l j fun d => match d with
  | .lst xs => noOw l vs = true ∧ j ∉ vs ∧ ∃ I : Nat → List D → G → Prop, I 0 [] g ∧
    (∀ i x acc g, xs[i]? = some x → I i acc g → t x (wipeL l vs) fun l2 => wipeL l2 vs = wipeL l vs ∧ c noX l2 g fun b l3 g3 => wipeL l3 vs = wipeL l vs ∧
      if b = true then e noX l3 g3 fun y l4 g4 => wipeL l4 vs = wipeL l vs ∧ acc.length < LIM ∧ I (i + 1) (acc ++ [y]) g4 else I (i + 1) acc g3) ∧
    ∀ acc g, I xs.length acc g → Q (.lst acc) l g
  | _ => False
end
/-! ### the parts of a coin that goals need -/
def pqD (x : Pr) : D := .tup [(match x.1 with | none => D.non | some g => .tup [.int (g : Nat), .int 1]), .int (x.2 : Nat)]
def cost (ps : List Pr) (k : Nat) : Nat := k * 2520 + (ps.map fun x => (gvl x - k) * (2520 / x.2)).sum
theorem sum_keep {α : Type} {f : α → Nat} {c : α → Bool} : ∀ {xs : List α}, (∀ x ∈ xs, c x = false → f x = 0) → ((xs.filter c).map f).sum = (xs.map f).sum
  | [], _ => rfl
  | x :: xs, h => by
    have ih := sum_keep (f := f) (c := c) (xs := xs) fun y hy => h y (List.mem_cons_of_mem _ hy)
    rw [List.filter_cons, List.map_cons, List.sum_cons]
    cases e : c x with
    | true => rw [if_pos rfl, List.map_cons, List.sum_cons, ih]
    | false =>
      rw [if_neg (by decide), ih, h x List.mem_cons_self e, Nat.zero_add]
theorem cost_told (ps : List Pr) (t : Nat) : t * 2520 + (((told ps).filter fun x => decide (t < gvl x)).map fun x => (gvl x - t) * (2520 / x.2)).sum = cost ps t := by
  unfold cost
  rw [sum_keep fun x _ h => by rw [show gvl x - t = 0 by have := of_decide_eq_false h; omega, Nat.zero_mul]]
  unfold told
  rw [sum_keep fun x _ h => by rw [show gvl x - t = 0 by have := of_decide_eq_false h; omega, Nat.zero_mul]]
theorem told_slope (ps : List Pr) (k : Nat) : slope (told ps) k = slope ps k := by
  unfold slope told
  exact sum_keep fun x _ h => by rw [if_neg (by have := of_decide_eq_false h; omega)]
theorem told_turn {ps : List Pr} {t : Nat} (T : Turn (told ps) t) : Turn ps t :=
  ⟨by rw [← told_must]; exact T.ge, by rw [← told_slope]; exact T.le, fun k h1 h2 => by rw [← told_slope]; exact T.gt k (by rw [told_must]; exact h1) h2⟩
theorem cost_step (ps : List Pr) (k : Nat) : cost ps (k + 1) + slope ps k = cost ps k + 2520 := by
  have h : (ps.map fun x => (gvl x - (k + 1)) * (2520 / x.2)).sum + slope ps k = (ps.map fun x => (gvl x - k) * (2520 / x.2)).sum := by
    unfold slope
    rw [← sumN_add]
    refine sumN_congr fun x _ => ?_
    by_cases h : k < gvl x
    · rw [if_pos h]
      have e : gvl x - k = (gvl x - (k + 1)) + 1 := by omega
      rw [e, Nat.add_mul, Nat.one_mul]
    · rw [if_neg h, show gvl x - (k + 1) = 0 by omega, show gvl x - k = 0 by omega, Nat.zero_mul]
  unfold cost
  omega
theorem cost_min {ps : List Pr} {t : Nat} (T : Turn ps t) : ∀ k, must ps ≤ k → cost ps t ≤ cost ps k := by
  have up : ∀ n, cost ps t ≤ cost ps (t + n) := fun n => by
    induction n with
    | zero => exact Nat.le_refl _
    | succ n ih =>
      have a := cost_step ps (t + n)
      have b := slope_anti (ps := ps) (show t ≤ t + n by omega)
      have c := T.le
      have e : t + (n + 1) = t + n + 1 := rfl
      rw [e]
      omega
  have dn : ∀ n k, must ps ≤ k → k + n = t → cost ps t ≤ cost ps k := fun n => by
    induction n with
    | zero =>
      intro k _ h
      rw [show t = k by omega]
      exact Nat.le_refl _
    | succ n ih =>
      intro k hk h
      have a := cost_step ps k
      have b := T.gt k hk (by omega)
      have c := ih (k + 1) (by omega) (by omega)
      omega
  intro k hk
  rcases Nat.le_total t k with h | h
  · rw [show k = t + (k - t) by omega]
    exact up _
  · exact dn (t - k) k hk (by omega)
theorem cost_tot (ps : List Pr) (k : Nat) : cost ps k ≤ tot ps k * 2520 := by
  have h : (ps.map fun x => (gvl x - k) * (2520 / x.2)).sum ≤ (ps.map fun x => stk k x * 2520).sum := sumN_le fun x _ => by
    unfold stk
    split
    · rw [show gvl x - k = 0 by omega, Nat.zero_mul]
      exact Nat.zero_le _
    · rcases Nat.eq_zero_or_pos x.2 with e | e
      · rw [e, Nat.div_zero, Nat.mul_zero]
        exact Nat.zero_le _
      · have h1 := (cdiv_le (a := gvl x - k) (c := cdiv (gvl x - k) x.2) e).mp (Nat.le_refl _)
        have h2 := Nat.mul_le_mul_right (2520 / x.2) h1
        have h3 : x.2 * cdiv (gvl x - k) x.2 * (2520 / x.2) ≤ cdiv (gvl x - k) x.2 * 2520 := by
          rw [Nat.mul_comm x.2, Nat.mul_assoc]
          exact Nat.mul_le_mul_left _ (Nat.mul_div_le 2520 x.2)
        exact Nat.le_trans h2 h3
  rw [sumN_mul] at h
  unfold cost tot
  omega
theorem tot_cost {ps : List Pr} (hp : PaysOk ps) {t : Nat} (ht : must ps ≤ t) : tot ps t * 2520 + ps.length ≤ cost ps t + ps.length * 2520 := by
  have h : (ps.map fun x => stk t x * 2520 + 1).sum ≤ (ps.map fun x => (gvl x - t) * (2520 / x.2) + 2520).sum := sumN_le fun x hx => by
    unfold stk
    split
    · omega
    · have e : 0 < x.2 := by
        rcases Nat.eq_zero_or_pos x.2 with e | e
        · have := must_le.mp ht x hx e
          omega
        · exact e
      obtain ⟨q, hq⟩ := pay_dvd (hp x hx) e
      have eq : 2520 / x.2 = q := by rw [hq, Nat.mul_div_cancel_left _ e]
      have q0 : 0 < q := by
        rcases Nat.eq_zero_or_pos q with z | z
        · rw [z] at hq
          omega
        · exact z
      have h1 : cdiv (gvl x - t) x.2 * x.2 ≤ gvl x - t + x.2 - 1 := Nat.div_mul_le_self _ _
      have h2 := Nat.mul_le_mul_right q h1
      rw [Nat.mul_assoc, ← hq] at h2
      have h3 : (gvl x - t + x.2 - 1) * q + q = (gvl x - t) * q + 2520 := by
        rw [hq, ← Nat.add_mul, ← Nat.succ_mul]
        congr 1
        omega
      rw [eq]
      omega
  rw [sumN_add, sumN_add, sumN_mul] at h
  have l1 : ∀ (c : Nat) (ps : List Pr), (ps.map fun _ => c).sum = ps.length * c := fun c ps => by
    induction ps with
    | nil => simp
    | cons _ ps ih =>
      rw [List.map_cons, List.sum_cons, ih, List.length_cons, Nat.succ_mul]
      omega
  rw [l1, l1] at h
  unfold cost tot
  omega
theorem cost_need {ps : List Pr} (hp : PaysOk ps) {t m k : Nat} (T : Turn (told ps) t) (nd : NeedOk ps (must ps) m k) (hn : 0 < ps.length) : cost ps t ≤ m * 2520 ∧ m * 2520 < cost ps t + ps.length * 2520 := by
  have T := told_turn T
  have a := cost_min T k nd.ge
  have b := cost_tot ps k
  rw [← nd.eq] at b
  have c := tot_cost hp T.ge
  have d := nd.min t T.ge
  exact ⟨by omega, by omega⟩
/-! ### least coins of other goals -/
theorem need_of {ps ps' : List Pr} {m k m' k' c : Nat} (nd : NeedOk ps (must ps) m k) (nd' : NeedOk ps' (must ps') m' k') (f : ∀ s, s.length = ps.length → s.sum ≤ m → MeetsP ps (m - s.sum) s → ∃ s' : List Nat, s'.length = ps'.length ∧ s'.sum ≤ c ∧ MeetsP ps' (c - s'.sum) s') : m' ≤ c := by
  obtain ⟨s, a, b, d⟩ := (meets_iff nd).mpr (Nat.le_refl m)
  exact (meets_iff nd').mp (f s a b d)
theorem sum_times (t : Nat) : ∀ s : List Nat, (s.map fun y => t * y).sum = t * s.sum
  | [] => by simp
  | y :: s => by rw [List.map_cons, List.sum_cons, List.sum_cons, sum_times t s, Nat.mul_add]
theorem need_times {ps ps' : List Pr} {m k m' k' : Nat} (t : Nat) (nd : NeedOk ps (must ps) m k) (nd' : NeedOk ps' (must ps') m' k') (φ : Pr → Pr) (e : ps' = ps.map φ) (hg : ∀ x ∈ ps, gvl (φ x) = t * gvl x) (hp : ∀ x, (φ x).2 = x.2) : m' ≤ t * m := by
  subst e
  refine need_of nd nd' fun s hl hs hm => ⟨s.map fun y => t * y, by rw [List.length_map, List.length_map, hl], by rw [sum_times]; exact Nat.mul_le_mul_left t hs, fun i x' y' hx hy => ?_⟩
  rw [List.getElem?_map] at hx hy
  cases ex : ps[i]? with
  | none => rw [ex] at hx; cases hx
  | some x =>
    cases ey : s[i]? with
    | none => rw [ey] at hy; cases hy
    | some y =>
      rw [ex] at hx
      rw [ey] at hy
      cases hx
      cases hy
      have h := Nat.mul_le_mul_left t (hm i x y ex ey)
      rw [Nat.mul_add, Nat.mul_sub] at h
      rw [sum_times, hg x (List.mem_of_getElem? ex), hp]
      have e2 : t * (x.2 * y) = x.2 * (t * y) := Nat.mul_left_comm _ _ _
      show _ ≤ t * m - t * s.sum + x.2 * (t * y)
      omega
theorem need_up {ps ps' : List Pr} {m k m' k' d : Nat} (nd : NeedOk ps (must ps) m k) (nd' : NeedOk ps' (must ps') m' k') (φ : Pr → Pr) (e : ps' = ps.map φ) (hg : ∀ x ∈ ps, gvl (φ x) ≤ gvl x + d) (hp : ∀ x, (φ x).2 = x.2) : m' ≤ m + d := by
  subst e
  refine need_of nd nd' fun s hl hs hm => ⟨s, by rw [List.length_map, hl], by omega, fun i x' y hx hy => ?_⟩
  rw [List.getElem?_map] at hx
  cases ex : ps[i]? with
  | none => rw [ex] at hx; cases hx
  | some x =>
    rw [ex] at hx
    cases hx
    have h := hm i x y ex hy
    have h2 := hg x (List.mem_of_getElem? ex)
    rw [hp]
    omega
theorem need_dn {ps ps' : List Pr} {m k m' k' : Nat} (nd : NeedOk ps (must ps) m k) (nd' : NeedOk ps' (must ps') m' k') (φ : Pr → Pr) (e : ps' = ps.map φ) (hg : ∀ x ∈ ps, gvl x ≤ gvl (φ x)) (hp : ∀ x, (φ x).2 = x.2) : m ≤ m' := by
  subst e
  refine need_of nd' nd fun s hl hs hm => ⟨s, by rw [hl, List.length_map], hs, fun i x y hx hy => ?_⟩
  have h := hm i (φ x) y (by rw [List.getElem?_map, hx]; rfl) hy
  rw [hp] at h
  have h2 := hg x (List.mem_of_getElem? hx)
  omega
theorem sum_both : ∀ s s' : List Nat, s.length = s'.length → (List.zipWith (· + ·) s s').sum = s.sum + s'.sum
  | [], [], _ => rfl
  | x :: s, y :: s', h => by
    have ih := sum_both s s' (by simpa using h)
    rw [List.zipWith_cons_cons, List.sum_cons, List.sum_cons, List.sum_cons, ih]
    omega
  | [], _ :: _, h => by cases h
  | _ :: _, [], h => by cases h
theorem need_both {ps qs rs : List Pr} {m k m' k' m2 k2 : Nat} (nd : NeedOk ps (must ps) m k) (nd' : NeedOk qs (must qs) m' k') (nd2 : NeedOk rs (must rs) m2 k2) (h1 : qs.length = ps.length) (h2 : rs.length = ps.length)
    (h : ∀ (i : Nat) x y z, ps[i]? = some x → qs[i]? = some y → rs[i]? = some z → gvl z = gvl x + gvl y ∧ z.2 = x.2 ∧ y.2 = x.2) : m2 ≤ m + m' := by
  obtain ⟨s, a, b, d⟩ := (meets_iff nd).mpr (Nat.le_refl m)
  obtain ⟨s', a', b', d'⟩ := (meets_iff nd').mpr (Nat.le_refl m')
  have hs : (List.zipWith (· + ·) s s').sum = s.sum + s'.sum := sum_both s s' (by omega)
  refine (meets_iff nd2).mp ⟨List.zipWith (· + ·) s s', by rw [List.length_zipWith]; omega, by omega, fun i z y hz hy => ?_⟩
  rw [List.getElem?_zipWith] at hy
  have hi := (List.getElem?_eq_some_iff.mp hz).1
  have e1 : s[i]? = some (s[i]'(by omega)) := List.getElem?_eq_getElem _
  have e2 : s'[i]? = some (s'[i]'(by omega)) := List.getElem?_eq_getElem _
  have e3 : ps[i]? = some (ps[i]'(by omega)) := List.getElem?_eq_getElem _
  have e4 : qs[i]? = some (qs[i]'(by omega)) := List.getElem?_eq_getElem _
  rw [e1, e2] at hy
  cases hy
  obtain ⟨f1, f2, f3⟩ := h i _ _ z e3 e4 hz
  have g1 := d i _ _ e3 e1
  have g2 := d' i _ _ e4 e2
  rw [f3] at g2
  rw [f1, f2, hs]
  show _ ≤ m + m' - (s.sum + s'.sum) + (ps[i]'(by omega)).2 * (s[i]'(by omega) + s'[i]'(by omega))
  rw [Nat.mul_add]
  omega
theorem mem_sum {s : List Nat} {y : Nat} (h : y ∈ s) : y ≤ s.sum := by
  induction s with
  | nil => cases h
  | cons x s ih =>
    rw [List.sum_cons]
    rcases List.mem_cons.mp h with rfl | h
    · omega
    · have := ih h
      omega
theorem need_ge {ps : List Pr} {m k : Nat} (nd : NeedOk ps (must ps) m k) (h1 : ∀ x ∈ ps, x.2 ≤ 1) : ∀ x ∈ ps, gvl x ≤ m := by
  obtain ⟨s, a, b, d⟩ := (meets_iff nd).mpr (Nat.le_refl m)
  intro x hx
  obtain ⟨i, hi⟩ := List.getElem?_of_mem hx
  have hl := (List.getElem?_eq_some_iff.mp hi).1
  have e1 : s[i]? = some (s[i]'(by omega)) := List.getElem?_eq_getElem _
  have g := d i x _ hi e1
  have h2 := mem_sum (List.mem_of_getElem? e1)
  have h3 : x.2 * s[i]'(by omega) ≤ 1 * s[i]'(by omega) := Nat.mul_le_mul_right _ (h1 x hx)
  omega
/-! ### goals told of others -/
theorem goalAt {G : List (Option Nat)} {q : Nat} (h : q < G.length) : (G.map oD)[q]? = some (oD (G.getD q none)) := by
  rw [List.getElem?_map, List.getD_eq_getElem?_getD, List.getElem?_eq_getElem h]
  rfl
def addO (a b : Option Nat) : Option Nat := match a, b with
  | none, none => none
  | _, _ => some (a.getD 0 + b.getD 0)
theorem addO_get (a b : Option Nat) : (addO a b).getD 0 = a.getD 0 + b.getD 0 := by cases a <;> cases b <;> rfl
def addG (G H : List (Option Nat)) : List (Option Nat) := (List.range G.length).map fun i => addO (G.getD i none) (H.getD i none)
theorem addG_len (G H : List (Option Nat)) : (addG G H).length = G.length := by rw [addG, List.length_map, List.length_range]
theorem addG_at {G H : List (Option Nat)} {q : Nat} (h : q < G.length) : (addG G H).getD q none = addO (G.getD q none) (H.getD q none) := by
  rw [addG, List.getD_eq_getElem?_getD, List.getElem?_map, List.getElem?_range h]
  rfl
theorem pairs_mapO {as : List Ar} {p : Nat} {G : List (Option Nat)} (f : Option Nat → Option Nat) (h0 : f none = none) : pairsAt as p (G.map f) = (pairsAt as p G).map fun x => (f x.1, x.2) := by
  unfold pairsAt
  rw [List.map_map]
  refine List.map_congr_left fun a _ => ?_
  show ((G.map f).getD a.q none, a.pay) = (f (G.getD a.q none), a.pay)
  rw [List.getD_eq_getElem?_getD, List.getD_eq_getElem?_getD, List.getElem?_map]
  cases G[a.q]? with
  | none => rw [Option.map_none, Option.getD_none, h0]
  | some o => rfl
theorem nD_ok2 (S T : List Nat) : eqOk (.tup (nD S)) (.tup (nD T)) := eqOk_tups (nD_flat S) (nD_flat T)
/-! ### how soon a goal is sure -/
noncomputable def wv (n : Nat) (as : List Ar) (go t p : Nat) : Nat := (withW n as go t).getD p 0
theorem wv_at {n : Nat} {as : List Ar} {go t p : Nat} (h : p < n) : (withW n as go t)[p]? = some (wv n as go t p) := by
  have hl := withW_len n as go t
  rw [wv, List.getD_eq_getElem?_getD, List.getElem?_eq_getElem (by omega)]
  rfl
theorem wv0 {n : Nat} {as : List Ar} {go p : Nat} (h : p < n) : wv n as go 0 p = go := by
  have e := wv_at (as := as) (go := go) (t := 0) h
  rw [withW, List.getElem?_replicate, if_pos h] at e
  exact (Option.some.inj e).symm
theorem wvS {n : Nat} {as : List Ar} {go t p : Nat} (h : p < n) : wv n as go (t + 1) p = min go (needN (pairsAt as p ((withW n as go t).map some))) := by
  have e := wv_at (as := as) (go := go) (t := t + 1) h
  rw [withW_at h] at e
  exact (Option.some.inj e).symm
/-- the answer of soonest -/
def Soon (n : Nat) (as : List Ar) (p co go : Nat) : Option Nat → Prop
  | some t => wv n as go t p ≤ co ∧ ∀ s, s < t → co < wv n as go s p
  | none => ∀ s, co < wv n as go s p
theorem Soon.uniq {n : Nat} {as : List Ar} {p co go : Nat} : ∀ {r r' : Option Nat}, Soon n as p co go r → Soon n as p co go r' → r = r'
  | none, none, _, _ => rfl
  | some t, none, h, k => by
    have := k t
    have := h.1
    omega
  | none, some t, k, h => by
    have := k t
    have := h.1
    omega
  | some t, some t', h, k => by
    rcases Nat.lt_trichotomy t t' with e | e | e
    · have := k.2 t e
      have := h.1
      omega
    · rw [e]
    · have := h.2 t' e
      have := k.1
      omega
theorem withW_stop {n : Nat} {as : List Ar} {go t : Nat} (h : withW n as go (t + 1) = withW n as go t) : ∀ s, withW n as go (t + s) = withW n as go t
  | 0 => rfl
  | s + 1 => by
    show nearN n as go (withW n as go (t + s)) = _
    rw [withW_stop h s]
    exact h
theorem Soon.stop {n : Nat} {as : List Ar} {p co go t : Nat} (h : withW n as go (t + 1) = withW n as go t) (h2 : ∀ s, s ≤ t → co < wv n as go s p) : Soon n as p co go none := fun s => by
  rcases Nat.le_total s t with e | e
  · exact h2 s e
  · have e2 : wv n as go s p = wv n as go t p := by
      rw [show s = t + (s - t) by omega, wv, withW_stop h, wv]
    rw [e2]
    exact h2 t (Nat.le_refl _)
theorem deqs_nD : ∀ A B : List Nat, deqs (nD A) (nD B) = decide (A = B)
  | [], [] => rfl
  | [], _ :: _ => rfl
  | _ :: _, [] => rfl
  | x :: A, y :: B => by
    show (decide ((x : Int) = (y : Int)) && deqs (nD A) (nD B)) = _
    rw [deqs_nD A B]
    by_cases h : x = y
    · by_cases h2 : A = B
      · simp [h, h2]
      · simp [h, h2]
    · have h3 : ¬ (x : Int) = (y : Int) := by omega
      rw [decide_eq_false h3, decide_eq_false (show ¬ x :: A = y :: B from fun z => h (List.cons.inj z).1)]
      rfl
theorem sum_less : ∀ {A B : List Nat}, LeW A B → A ≠ B → A.sum < B.sum := by
  have le : ∀ {A B : List Nat}, LeW A B → A.sum ≤ B.sum := by
    intro A
    induction A with
    | nil => intro B _; exact Nat.zero_le _
    | cons x A ih =>
      intro B h
      cases B with
      | nil => exact absurd h.1 (by simp)
      | cons y B =>
        have h0 := h.2 0 x y rfl rfl
        have := ih (B := B) ⟨by simpa using h.1, fun i a b ha hb => h.2 (i + 1) a b ha hb⟩
        rw [List.sum_cons, List.sum_cons]
        omega
  intro A
  induction A with
  | nil =>
    intro B h ne
    cases B with
    | nil => exact absurd rfl ne
    | cons _ _ => exact absurd h.1 (by simp)
  | cons x A ih =>
    intro B h ne
    cases B with
    | nil => exact absurd h.1 (by simp)
    | cons y B =>
      have h0 := h.2 0 x y rfl rfl
      have hr : LeW A B := ⟨by simpa using h.1, fun i a b ha hb => h.2 (i + 1) a b ha hb⟩
      rw [List.sum_cons, List.sum_cons]
      by_cases e : A = B
      · have hn : x ≠ y := fun z => ne (by rw [e, z])
        rw [e]
        omega
      · have := ih hr e
        omega
theorem withW_sum0 (n : Nat) (as : List Ar) (go : Nat) : (withW n as go 0).sum = go * n := by
  rw [withW]
  induction n with
  | zero => rfl
  | succ n ih => rw [List.replicate_succ, List.sum_cons, ih, Nat.mul_succ]; omega
theorem wv_less {n : Nat} {as : List Ar} {go t : Nat} (ne : withW n as go (t + 1) ≠ withW n as go t) : (withW n as go (t + 1)).sum < (withW n as go t).sum := sum_less (withW_down n as go t) ne
theorem wv_up {n : Nat} {as : List Ar} {go p : Nat} (hp : p < n) (t : Nat) : wv n as go t p ≤ wv n as (go + 1) t p := by
  have h : ∀ t, LeW (withW n as go t) (withW n as (go + 1) t) := fun t => by
    induction t with
    | zero =>
      refine ⟨by rw [withW_len, withW_len], fun i x y hx hy => ?_⟩
      rw [withW, List.getElem?_replicate] at hx hy
      split at hx
      · rename_i h
        rw [if_pos h] at hy
        cases hx
        cases hy
        omega
      · cases hx
    | succ t ih =>
      have hn := nextW_mono (n := n) (as := as) ih
      refine ⟨by rw [withW_len, withW_len], fun i x y hx hy => ?_⟩
      rw [withW, nearN, List.getElem?_map] at hx hy
      cases ha : (nextW n as (withW n as go t))[i]? with
      | none => rw [ha] at hx; cases hx
      | some a =>
        cases hb : (nextW n as (withW n as (go + 1) t))[i]? with
        | none => rw [hb] at hy; cases hy
        | some b =>
          rw [ha] at hx
          rw [hb] at hy
          cases hx
          cases hy
          have := hn.2 i a b ha hb
          show min go a ≤ min (go + 1) b
          omega
  exact (h t).2 p _ _ (wv_at hp) (wv_at hp)
def later (a b : Option Nat) : Bool := match b with
  | none => false
  | some y => match a with
    | none => true
    | some x => decide (y < x)
theorem Soon.some_of {n : Nat} {as : List Ar} {p co go t : Nat} (h : wv n as go t p ≤ co) {r : Option Nat} (k : Soon n as p co go r) : ∃ t', r = some t' ∧ t' ≤ t := by
  cases r with
  | none =>
    have := k t
    omega
  | some t' =>
    refine ⟨t', rfl, ?_⟩
    rcases Nat.lt_or_ge t t' with e | e
    · have := k.2 t e
      omega
    · exact e
theorem not_later {n : Nat} {as : List Ar} {p co go co' go' : Nat} {r r' : Option Nat} (k : Soon n as p co go r) (k' : Soon n as p co' go' r') (h : ∀ t, wv n as go' t p ≤ co' → wv n as go t p ≤ co) : later r r' = false := by
  cases r' with
  | none => rfl
  | some t =>
    obtain ⟨t', rfl, h2⟩ := k.some_of (h t k'.1)
    exact decide_eq_false (by omega)
theorem ratio {T B C D : Nat} (B0 : 0 < B) (D0 : 0 < D) (h : T * D = C * B) : T / Nat.gcd T B = C / Nat.gcd C D ∧ B / Nat.gcd T B = D / Nat.gcd C D := by
  have g0 : 0 < Nat.gcd T B := Nat.gcd_pos_of_pos_right T B0
  have h0 : 0 < Nat.gcd C D := Nat.gcd_pos_of_pos_right C D0
  have c1 : Nat.Coprime (T / Nat.gcd T B) (B / Nat.gcd T B) := Nat.coprime_div_gcd_div_gcd g0
  have c2 : Nat.Coprime (C / Nat.gcd C D) (D / Nat.gcd C D) := Nat.coprime_div_gcd_div_gcd h0
  have e1 := Nat.div_mul_cancel (Nat.gcd_dvd_left T B)
  have e2 := Nat.div_mul_cancel (Nat.gcd_dvd_right T B)
  have e3 := Nat.div_mul_cancel (Nat.gcd_dvd_left C D)
  have e4 := Nat.div_mul_cancel (Nat.gcd_dvd_right C D)
  generalize T / Nat.gcd T B = x at *
  generalize B / Nat.gcd T B = y at *
  generalize C / Nat.gcd C D = z at *
  generalize D / Nat.gcd C D = w at *
  generalize Nat.gcd T B = a at *
  generalize Nat.gcd C D = b at *
  have e : x * w = z * y := by
    have e5 : (x * w) * (a * b) = (z * y) * (a * b) := by
      have : (x * a) * (w * b) = (z * b) * (y * a) := by rw [e1, e2, e3, e4, h]
      rw [Nat.mul_mul_mul_comm x w, this, Nat.mul_mul_mul_comm z b, Nat.mul_comm b a]
    exact Nat.eq_of_mul_eq_mul_right (Nat.mul_pos g0 h0) e5
  have y0 : 0 < y := by
    rcases Nat.eq_zero_or_pos y with u | u
    · rw [u, Nat.zero_mul] at e2
      omega
    · exact u
  have d1 : y ∣ w := (c1.symm).dvd_of_dvd_mul_left (by rw [e]; exact Nat.dvd_mul_left y z)
  have d2 : w ∣ y := (c2.symm).dvd_of_dvd_mul_left (by rw [← e]; exact Nat.dvd_mul_left w x)
  have yw := Nat.dvd_antisymm d1 d2
  subst yw
  exact ⟨Nat.eq_of_mul_eq_mul_right y0 e, rfl⟩
theorem must_mem : ∀ ps : List Pr, must ps = 0 ∨ ∃ x ∈ ps, gvl x = must ps
  | [] => .inl rfl
  | x :: ps => by
    rw [must]
    by_cases h0 : x.2 = 0
    · rw [if_pos h0]
      rcases Nat.le_total (gvl x) (must ps) with e | e
      · rw [Nat.max_eq_right e]
        rcases must_mem ps with h | ⟨z, hz, h⟩
        · exact .inl h
        · exact .inr ⟨z, List.mem_cons_of_mem _ hz, h⟩
      · rw [Nat.max_eq_left e]
        exact .inr ⟨x, List.mem_cons_self, rfl⟩
    · rw [if_neg h0, Nat.max_eq_right (Nat.zero_le _)]
      rcases must_mem ps with h | ⟨z, hz, h⟩
      · exact .inl h
      · exact .inr ⟨z, List.mem_cons_of_mem _ hz, h⟩
/-- where the sum turns is nought or a goal -/
theorem turn_mark {ps : List Pr} {t : Nat} (T : Turn ps t) : t = 0 ∨ ∃ x ∈ ps, gvl x = t := by
  have h1 := T.ge
  rcases Nat.eq_or_lt_of_le h1 with h | h
  · rw [← h]
    exact must_mem ps
  · have a := T.gt (t - 1) (by omega) (by omega)
    have b := T.le
    by_cases e : ∃ x ∈ ps, gvl x = t
    · exact .inr e
    · exfalso
      have : slope ps (t - 1) = slope ps t := by
        unfold slope
        refine sumN_congr fun x hx => ?_
        have hx := fun z => e ⟨x, hx, z⟩
        by_cases h2 : t < gvl x
        · rw [if_pos h2, if_pos (by omega)]
        · rw [if_neg h2, if_neg (fun z => hx (by omega))]
      omega
theorem cost_times {ps ps' : List Pr} {s u u' : Nat} (s0 : 0 < s) (T : Turn ps u) (T' : Turn ps' u') (φ : Pr → Pr) (e : ps' = ps.map φ) (hg : ∀ x ∈ ps, gvl (φ x) = s * gvl x) (hp : ∀ x, (φ x).2 = x.2) : cost ps' u' = s * cost ps u := by
  subst e
  have ec : ∀ k, cost (ps.map φ) (s * k) = s * cost ps k := fun k => by
    unfold cost
    rw [List.map_map]
    have h : (ps.map ((fun x => (gvl x - s * k) * (2520 / x.2)) ∘ φ)).sum = (ps.map fun x => (gvl x - k) * (2520 / x.2) * s).sum := sumN_congr fun x hx => by
      show (gvl (φ x) - s * k) * (2520 / (φ x).2) = _
      rw [hg x hx, hp, ← Nat.mul_sub, Nat.mul_assoc, Nat.mul_comm s]
    rw [h, sumN_mul, Nat.mul_add, Nat.mul_comm s (List.sum _), Nat.mul_assoc]
  have em : ∀ k, must (ps.map φ) ≤ s * k ↔ must ps ≤ k := fun k => by
    rw [must_le, must_le]
    constructor
    · intro h x hx h0
      have := h (φ x) (List.mem_map.mpr ⟨x, hx, rfl⟩) (by rw [hp]; exact h0)
      rw [hg x hx] at this
      exact Nat.le_of_mul_le_mul_left this s0
    · intro h x' hx' h0
      obtain ⟨x, hx, rfl⟩ := List.mem_map.mp hx'
      rw [hg x hx]
      exact Nat.mul_le_mul_left s (h x hx (by rw [← hp]; exact h0))
  refine Nat.le_antisymm ?_ ?_
  · rw [← ec]
    exact cost_min T' _ ((em u).mpr T.ge)
  · have hk : ∃ k, u' = s * k := by
      rcases turn_mark T' with h | ⟨x', hx', h⟩
      · exact ⟨0, by omega⟩
      · obtain ⟨x, hx, rfl⟩ := List.mem_map.mp hx'
        exact ⟨gvl x, by rw [← h, hg x hx]⟩
    obtain ⟨k, rfl⟩ := hk
    rw [ec]
    exact Nat.mul_le_mul_left s (cost_min T k ((em k).mp T'.ge))
theorem cost_zero {ps : List Pr} {u : Nat} (T : Turn ps u) (h : ∀ x ∈ ps, gvl x = 0) : cost ps u = 0 := by
  have hu : u = 0 := by
    rcases turn_mark T with e | ⟨x, hx, e⟩
    · exact e
    · rw [← e]
      exact h x hx
  unfold cost
  rw [hu, sumN_congr (h := fun _ => 0) fun x hx => by rw [h x hx, Nat.zero_sub, Nat.zero_mul]]
  clear T h
  induction ps with
  | nil => rfl
  | cons _ _ ih => simpa using ih
/-! ### the least amount, parts of coins let -/
theorem mulB {i j : Nat} (h : j < 2 ^ 64 ∨ (i < 2 ^ 8000 ∧ j < 2 ^ 8000)) : MulOk (i : Nat) (j : Nat) := by
  rcases h with h | ⟨h1, h2⟩
  · exact mulSmall ⟨by omega, by omega⟩
  · exact .inr (.inr ⟨8000, 8000, by rw [Int.natAbs_natCast]; exact h1, by rw [Int.natAbs_natCast]; exact h2, by decide⟩)
theorem divB {i j : Nat} (j0 : 0 < j) (h : j < 1073741824 ∨ (i < 2 ^ 100000 ∧ j < 2 ^ 8000)) : DivOk (i : Nat) (j : Nat) := by
  refine ⟨by omega, ?_⟩
  rcases h with h | ⟨h1, h2⟩
  · exact .inl (by omega)
  · exact .inr ⟨100000, 8000, by rw [Int.natAbs_natCast]; exact h1, by rw [Int.natAbs_natCast]; exact h2, by decide, Nat.le_refl _⟩
theorem turn_ex (ps : List Pr) : ∃ t, Turn ps t := by
  have hb : ∃ B, ∀ x ∈ ps, gvl x ≤ B := by
    induction ps with
    | nil => exact ⟨0, fun x h => (by cases h)⟩
    | cons y ps ih =>
      obtain ⟨B, h⟩ := ih
      refine ⟨max (gvl y) B, fun x hx => ?_⟩
      rcases List.mem_cons.mp hx with rfl | hx
      · exact Nat.le_max_left _ _
      · exact Nat.le_trans (h x hx) (Nat.le_max_right _ _)
  obtain ⟨B, hB⟩ := hb
  have go : ∀ n, (∃ t, must ps ≤ t ∧ t ≤ must ps + n ∧ slope ps t ≤ 2520) → ∃ t, Turn ps t := by
    intro n
    induction n with
    | zero =>
      rintro ⟨t, h1, h2, h3⟩
      have e : t = must ps := by omega
      subst e
      exact ⟨_, Nat.le_refl _, h3, fun k h4 h5 => (by omega)⟩
    | succ n ih =>
      rintro ⟨t, h1, h2, h3⟩
      by_cases h : ∃ t, must ps ≤ t ∧ t ≤ must ps + n ∧ slope ps t ≤ 2520
      · exact ih h
      · refine ⟨t, h1, h3, fun k h4 h5 => ?_⟩
        rcases Nat.lt_or_ge 2520 (slope ps k) with h6 | h6
        · exact h6
        · exact absurd ⟨k, h4, by omega, h6⟩ h
  refine go (max (must ps) B) ⟨max (must ps) B, Nat.le_max_left _ _, by omega, ?_⟩
  rw [slope_top fun x hx => Nat.le_trans (hB x hx) (Nat.le_max_right _ _)]
  exact Nat.zero_le _
/-- the least amount, of 2520 -/
noncomputable def costN (ps : List Pr) : Nat := cost ps (Classical.choose (turn_ex ps))
theorem costN_turn {ps : List Pr} {t : Nat} (T : Turn ps t) : cost ps t = costN ps := by
  rw [costN, T.uniq (Classical.choose_spec (turn_ex ps))]
theorem costN_le {ps : List Pr} {k : Nat} (h : must ps ≤ k) : costN ps ≤ cost ps k := by
  obtain ⟨t, T⟩ := turn_ex ps
  rw [← costN_turn T]
  exact cost_min T k h
theorem costN_ex (ps : List Pr) : ∃ k, must ps ≤ k ∧ costN ps = cost ps k := by
  obtain ⟨t, T⟩ := turn_ex ps
  exact ⟨t, T.ge, (costN_turn T).symm⟩
theorem costN_told (ps : List Pr) {t : Nat} (T : Turn (told ps) t) : t * 2520 + (((told ps).filter fun x => decide (t < gvl x)).map fun x => (gvl x - t) * (2520 / x.2)).sum = costN ps := by
  rw [cost_told, costN_turn (told_turn T)]
theorem costN_times {s : Nat} (s0 : 0 < s) (ps : List Pr) (φ : Pr → Pr) (hg : ∀ x ∈ ps, gvl (φ x) = s * gvl x) (hp : ∀ x, (φ x).2 = x.2) : costN (ps.map φ) = s * costN ps := by
  obtain ⟨t, T⟩ := turn_ex ps
  obtain ⟨u, U⟩ := turn_ex (ps.map φ)
  rw [← costN_turn T, ← costN_turn U]
  exact cost_times s0 T U φ rfl hg hp
/-- a fraction in lowest terms -/
def frD (a b : Nat) : D := .tup [.int ((a / Nat.gcd a b : Nat) : Int), .int ((b / Nat.gcd a b : Nat) : Int)]
def IsFr (d : D) (a b : Nat) : Prop := d = frD a b ∨ d = .kt [.int ((a / Nat.gcd a b : Nat) : Int), .int ((b / Nat.gcd a b : Nat) : Int)]
theorem frD_eq {a b c d : Nat} (b0 : 0 < b) (d0 : 0 < d) (h : a * d = c * b) : frD a b = frD c d := by
  obtain ⟨e1, e2⟩ := ratio b0 d0 h
  unfold frD
  rw [e1, e2]
theorem frD_one (a : Nat) : frD a 1 = .tup [.int (a : Nat), .int 1] := by
  unfold frD
  rw [Nat.gcd_one_right, Nat.div_one, Nat.div_one]
  rfl
theorem IsFr.one {d : D} {a b : Nat} (h : IsFr d a b) {k : D → Prop} (hk : k (.int ((b / Nat.gcd a b : Nat) : Int))) : wIx d (.int 1) k := by
  rcases h with rfl | rfl
  · exact ⟨_, rfl, hk⟩
  · exact ⟨_, rfl, hk⟩
theorem IsFr.nul {d : D} {a b : Nat} (h : IsFr d a b) {k : D → Prop} (hk : k (.int ((a / Nat.gcd a b : Nat) : Int))) : wIx d (.int 0) k := by
  rcases h with rfl | rfl
  · exact ⟨_, rfl, hk⟩
  · exact ⟨_, rfl, hk⟩
theorem IsFr.nn {d : D} {a b : Nat} (h : IsFr d a b) : isNon d = false := by rcases h with rfl | rfl <;> rfl
theorem IsFr.deq {d e : D} {a b : Nat} (h : IsFr d a b) (k : IsFr e a b) : Dx.deq d e = true := by
  rcases h with rfl | rfl <;> rcases k with rfl | rfl <;> simp [frD, Dx.deq, deqs]
/-- a pair of a goal, a fraction of N, and a pay -/
def IsPq (N : Nat) (d : D) (x : Pr) : Prop := ∃ e, d = .tup [e, .int (x.2 : Nat)] ∧ match x.1 with
  | none => e = .non
  | some g => IsFr e g N
def PqL (N : Nat) (ds : List D) (ps : List Pr) : Prop := ds.length = ps.length ∧ ∀ (i : Nat) d x, ds[i]? = some d → ps[i]? = some x → IsPq N d x
theorem zipD {ds : List D} {α : Type} {ps : List α} (h : ds.length = ps.length) : (ds.zip ps).map (·.1) = ds ∧ (ds.zip ps).map (·.2) = ps := ⟨List.map_fst_zip (by omega), List.map_snd_zip (by omega)⟩
theorem PqL.mem {N : Nat} {ds : List D} {ps : List Pr} (h : PqL N ds ps) {z : D × Pr} (hz : z ∈ ds.zip ps) : IsPq N z.1 z.2 := by
  obtain ⟨i, hi⟩ := List.getElem?_of_mem hz
  obtain ⟨h1, h2⟩ := List.getElem?_zip_eq_some.mp hi
  exact h.2 i _ _ h1 h2
/-- amounts behind letters -/
noncomputable def nextA (n : Nat) (as : List Ar) (W : List Nat) : List Nat := (List.range n).map fun p => costN (pairsAt as p (W.map some))
noncomputable def amtW (n : Nat) (as : List Ar) (W : List Nat) : Nat → List Nat
  | 0 => W
  | t + 1 => nextA n as (amtW n as W t)
theorem nextA_len (n : Nat) (as : List Ar) (W : List Nat) : (nextA n as W).length = n := by simp [nextA]
theorem amtW_len {n : Nat} {as : List Ar} {W : List Nat} (h : W.length = n) : ∀ t, (amtW n as W t).length = n
  | 0 => h
  | t + 1 => nextA_len n as _
theorem nextA_at {n : Nat} {as : List Ar} {W : List Nat} {p : Nat} (h : p < n) : (nextA n as W)[p]? = some (costN (pairsAt as p (W.map some))) := by
  rw [nextA, List.getElem?_map, List.getElem?_range h]
  rfl
theorem costN_bd {ps : List Pr} {M : Nat} (h : ∀ x ∈ ps, gvl x ≤ M) : costN ps ≤ M * 2520 := by
  refine Nat.le_trans (costN_le (k := M) (must_le.mpr fun x hx _ => h x hx)) ?_
  unfold cost
  rw [sumN_congr (h := fun _ => 0) fun x hx => by rw [show gvl x - M = 0 by have := h x hx; omega, Nat.zero_mul]]
  have : (ps.map fun _ => 0).sum = 0 := by
    clear h
    induction ps with
    | nil => rfl
    | cons _ _ ih => simpa using ih
  omega
theorem amtW_bd {n : Nat} {as : List Ar} {W : List Nat} {M : Nat} (h : ∀ x ∈ W, x ≤ M) : ∀ t, ∀ x ∈ amtW n as W t, x ≤ M * 2520 ^ t
  | 0 => fun x hx => by rw [Nat.pow_zero, Nat.mul_one]; exact h x hx
  | t + 1 => fun x hx => by
    obtain ⟨p, _, rfl⟩ := List.mem_map.mp hx
    rw [Nat.pow_succ, ← Nat.mul_assoc]
    exact costN_bd (some_lt as p _ _ (amtW_bd h t))
def FrL (N : Nat) (ds : List D) (W : List Nat) : Prop := ds.length = W.length ∧ ∀ (i : Nat) d x, ds[i]? = some d → W[i]? = some x → IsFr d x N
theorem FrL.map (N : Nat) (W : List Nat) : FrL N (W.map fun x => frD x N) W := ⟨List.length_map _, fun i d x hd hx => by
  rw [List.getElem?_map, hx] at hd
  cases hd
  exact .inl rfl⟩
theorem pow2520 {t : Nat} (h : t ≤ 61) : 2520 ^ t < 2 ^ 2000 := by
  have h1 : 2520 ^ t ≤ 2520 ^ 61 := Nat.pow_le_pow_right (by decide) h
  have h2 : 2520 ^ 61 ≤ (2 ^ 12) ^ 61 := Nat.pow_le_pow_left (by decide) 61
  rw [← Nat.pow_mul] at h2
  exact Nat.lt_of_le_of_lt (Nat.le_trans h1 h2) (Nat.pow_lt_pow_right (by decide) (by decide))
theorem pairs_fr {n : Nat} {as : List Ar} {N : Nat} {xs : List D} {W : List Nat} {p : Nat} (ok : TrkOk n as) (hW : W.length = n) (hx : FrL N xs W) : PqL N ((frm as p).map fun a => .tup [xs.getD a.q .non, .int (a.pay : Nat)]) (pairsAt as p (W.map some)) := by
  refine ⟨by rw [List.length_map, pairsAt_len], fun i d x hd hx2 => ?_⟩
  unfold pairsAt at hx2
  rw [List.getElem?_map] at hd hx2
  cases ha : (frm as p)[i]? with
  | none => rw [ha] at hd; cases hd
  | some a =>
    rw [ha] at hd hx2
    cases hd
    cases hx2
    have hq5 := (ok.ok a (List.mem_filter.mp (List.mem_of_getElem? ha)).1).2.2.2.2
    have hl := hx.1
    have e1 : xs[a.q]? = some (xs[a.q]'(by omega)) := List.getElem?_eq_getElem _
    have e2 : W[a.q]? = some (W[a.q]'(by omega)) := List.getElem?_eq_getElem _
    have e3 : (W.map some).getD a.q none = some (W[a.q]'(by omega)) := by rw [List.getD_eq_getElem?_getD, List.getElem?_map, e2]; rfl
    have e4 : xs.getD a.q .non = xs[a.q]'(by omega) := by rw [List.getD_eq_getElem?_getD, e1]; rfl
    refine ⟨_, rfl, ?_⟩
    show (match (W.map some).getD a.q none with
      | none => xs.getD a.q .non = .non
      | some g => IsFr (xs.getD a.q .non) g N)
    rw [e3, e4]
    exact hx.2 a.q _ _ e1 e2
theorem pw2 {m n : Nat} (h : m ≤ n) : 2 ^ m ≤ 2 ^ n := Nat.pow_le_pow_right (by decide) h
theorem ltw {a m n : Nat} (h : a < 2 ^ m) (k : m ≤ n) : a < 2 ^ n := Nat.lt_of_lt_of_le h (pw2 k)
theorem mulw {a b m n : Nat} (h : a < 2 ^ m) (k : b < 2 ^ n) : a * b < 2 ^ (m + n) := by
  rw [Nat.pow_add]
  exact Nat.mul_lt_mul'' h k
theorem addw {a b m : Nat} (h : a < 2 ^ m) (k : b < 2 ^ m) : a + b < 2 ^ (m + 1) := by
  rw [Nat.pow_succ]
  omega
theorem fr_parts (a : Nat) {N : Nat} (N0 : 0 < N) : ∃ a' b' : Nat, frD a N = .tup [.int (a' : Nat), .int (b' : Nat)] ∧ a' * N = a * b' ∧ 0 < b' ∧ a' ≤ a ∧ b' ≤ N := by
  have g0 : 0 < Nat.gcd a N := Nat.gcd_pos_of_pos_right a N0
  refine ⟨a / Nat.gcd a N, N / Nat.gcd a N, rfl, ?_, Nat.div_pos (Nat.le_of_dvd N0 (Nat.gcd_dvd_right a N)) g0, Nat.div_le_self _ _, Nat.div_le_self _ _⟩
  have e1 := Nat.div_mul_cancel (Nat.gcd_dvd_left a N)
  have e2 := Nat.div_mul_cancel (Nat.gcd_dvd_right a N)
  generalize a / Nat.gcd a N = x at *
  generalize N / Nat.gcd a N = y at *
  generalize Nat.gcd a N = d at *
  subst e1 e2
  ac_rfl
theorem frD_zero {N : Nat} (N0 : 0 < N) : frD 0 N = .tup [.int 0, .int 1] := by
  unfold frD
  rw [Nat.gcd_zero_left, Nat.zero_div, Nat.div_self N0]
  rfl
/-- a pair of a fraction of N and a pay -/
def prF (N : Nat) (x : Pr) : D := .tup [frD (gvl x) N, .int (x.2 : Nat)]
/-- what each amount is multiplied by -/
def facD (a N : Nat) : D := .tup [.int ((N / Nat.gcd a N : Nat) : Int), .int ((a / Nat.gcd a N : Nat) : Int)]
theorem fac_parts (a : Nat) {N : Nat} (N0 : 0 < N) : ∃ a' b' : Nat, frD a N = .tup [.int (a' : Nat), .int (b' : Nat)] ∧ facD a N = .tup [.int (b' : Nat), .int (a' : Nat)] ∧ a' * N = a * b' ∧ 0 < b' ∧ a' ≤ a ∧ b' ≤ N := by
  obtain ⟨x, y, e, h1, h2, h3, h4⟩ := fr_parts a N0
  refine ⟨x, y, e, ?_, h1, h2, h3, h4⟩
  unfold frD at e
  injection e with e
  injection e with e1 e2
  injection e2 with e2 _
  unfold facD
  rw [e1, e2]
noncomputable def amtF (n : Nat) (as : List Ar) (t p : Nat) : Nat := (amtW n as (List.replicate n 1) t).getD p 0
theorem costN_mono {ps qs : List Pr} (hl : qs.length = ps.length) (h : ∀ (i : Nat) x y, qs[i]? = some x → ps[i]? = some y → x.2 = y.2 ∧ gvl x ≤ gvl y) : costN qs ≤ costN ps := by
  obtain ⟨k, hk, e⟩ := costN_ex ps
  rw [e]
  have aux : ∀ {ps qs : List Pr}, qs.length = ps.length → (∀ (i : Nat) x y, qs[i]? = some x → ps[i]? = some y → x.2 = y.2 ∧ gvl x ≤ gvl y) → (must ps ≤ k → must qs ≤ k) ∧ (qs.map fun x => (gvl x - k) * (2520 / x.2)).sum ≤ (ps.map fun x => (gvl x - k) * (2520 / x.2)).sum := by
    intro ps
    induction ps with
    | nil =>
      intro qs hl h
      cases qs with
      | nil => exact ⟨fun h => h, Nat.le_refl _⟩
      | cons _ _ => cases hl
    | cons y ps ih =>
      intro qs hl h
      cases qs with
      | nil => cases hl
      | cons x qs =>
        obtain ⟨h1, h2⟩ := ih (qs := qs) (by simpa using hl) fun i a b ha hb => h (i + 1) a b ha hb
        obtain ⟨e, g⟩ := h 0 x y rfl rfl
        refine ⟨fun hm => ?_, ?_⟩
        · rw [must, Nat.max_le] at hm ⊢
          refine ⟨?_, h1 hm.2⟩
          have := hm.1
          rw [e]
          split
          · rename_i z
            rw [if_pos z] at this
            omega
          · exact Nat.zero_le _
        · rw [List.map_cons, List.map_cons, List.sum_cons, List.sum_cons, e]
          exact Nat.add_le_add (Nat.mul_le_mul_right _ (by omega)) h2
  obtain ⟨h1, h2⟩ := aux hl h
  refine Nat.le_trans (costN_le (h1 hk)) ?_
  unfold cost
  omega
theorem pairs_le {as : List Ar} {V W : List Nat} (h : LeW V W) (p : Nat) : ∀ (i : Nat) x y, (pairsAt as p (V.map some))[i]? = some x → (pairsAt as p (W.map some))[i]? = some y → x.2 = y.2 ∧ gvl x ≤ gvl y := fun i x y hx hy => by
  unfold pairsAt at hx hy
  rw [List.getElem?_map] at hx hy
  cases ha : (frm as p)[i]? with
  | none => rw [ha] at hx; cases hx
  | some a =>
    rw [ha] at hx hy
    cases hx
    cases hy
    refine ⟨rfl, ?_⟩
    show gvl ((V.map some).getD a.q none, 0) ≤ gvl ((W.map some).getD a.q none, 0)
    rw [getD_some, getD_some]
    exact h.getD a.q
theorem nextA_mono {n : Nat} {as : List Ar} {V W : List Nat} (h : LeW V W) : LeW (nextA n as V) (nextA n as W) := by
  refine ⟨by rw [nextA_len, nextA_len], fun i x y hx hy => ?_⟩
  have hi := (List.getElem?_eq_some_iff.mp hx).1
  rw [nextA_len] at hi
  rw [nextA_at hi] at hx hy
  cases hx
  cases hy
  exact costN_mono (by rw [pairsAt_len, pairsAt_len]) (pairs_le h i)
theorem pairs_mul (as : List Ar) (p s : Nat) (W : List Nat) : pairsAt as p ((W.map fun x => s * x).map some) = (pairsAt as p (W.map some)).map fun x => (x.1.map fun g => s * g, x.2) := by
  unfold pairsAt
  refine Eq.trans ?_ (List.map_map ..).symm
  refine List.map_congr_left fun a _ => ?_
  show (((W.map fun x => s * x).map some).getD a.q none, a.pay) = (((W.map some).getD a.q none).map fun g => s * g, a.pay)
  rw [List.getD_eq_getElem?_getD, List.getD_eq_getElem?_getD, List.getElem?_map, List.getElem?_map, List.getElem?_map]
  cases W[a.q]? <;> rfl
theorem nextA_mul {n : Nat} {as : List Ar} {s : Nat} (s0 : 0 < s) (W : List Nat) : nextA n as (W.map fun x => s * x) = (nextA n as W).map fun x => s * x := by
  unfold nextA
  refine Eq.trans ?_ (List.map_map ..).symm
  refine List.map_congr_left fun p _ => ?_
  show costN _ = s * costN _
  rw [pairs_mul, costN_times s0]
  · intro x _
    obtain ⟨o, q⟩ := x
    cases o <;> rfl
  · intro x
    rfl
/-- goals h times as great -/
theorem amtW_mul {n : Nat} {as : List Ar} {s : Nat} (s0 : 0 < s) (W : List Nat) : ∀ t, amtW n as (W.map fun x => s * x) t = (amtW n as W t).map fun x => s * x
  | 0 => rfl
  | t + 1 => by
    show nextA n as (amtW n as (W.map fun x => s * x) t) = (nextA n as (amtW n as W t)).map _
    rw [amtW_mul s0 W t, nextA_mul s0]
theorem getD_rep {n p c : Nat} (h : p < n) : (List.replicate n c).getD p 0 = c := by
  rw [List.getD_eq_getElem?_getD, List.getElem?_replicate, if_pos h]
  rfl
theorem costN_rep {n : Nat} (as : List Ar) (p c : Nat) : costN (pairsAt as p ((List.replicate n c).map some)) ≤ c * 2520 := costN_bd (some_lt as p _ c fun x hx => by rw [List.eq_of_mem_replicate hx]; exact Nat.le_refl _)
/-- one letter more is never worse -/
theorem amtW_down {n : Nat} {as : List Ar} {c : Nat} : ∀ t, LeW (amtW n as (List.replicate n c) (t + 1)) ((amtW n as (List.replicate n c) t).map fun x => 2520 * x)
  | 0 => by
    refine ⟨?_, fun i x y hx hy => ?_⟩
    · show (nextA n as _).length = ((List.replicate n c).map _).length
      rw [nextA_len, List.length_map, List.length_replicate]
    · have hi := (List.getElem?_eq_some_iff.mp hx).1
      rw [show amtW n as (List.replicate n c) (0 + 1) = nextA n as (List.replicate n c) from rfl, nextA_len] at hi
      rw [show amtW n as (List.replicate n c) (0 + 1) = nextA n as (List.replicate n c) from rfl, nextA_at hi] at hx
      rw [show amtW n as (List.replicate n c) 0 = List.replicate n c from rfl, List.getElem?_map, List.getElem?_replicate, if_pos hi] at hy
      cases hx
      cases hy
      have := costN_rep (n := n) as i c
      show _ ≤ 2520 * c
      omega
  | t + 1 => by
    have h := nextA_mono (n := n) (as := as) (amtW_down (n := n) (as := as) (c := c) t)
    rw [nextA_mul (by decide)] at h
    exact h
theorem amtF_at {n : Nat} {as : List Ar} {t p : Nat} (h : p < n) : (amtW n as (List.replicate n 1) t)[p]? = some (amtF n as t p) := by
  have hl := amtW_len (as := as) (List.length_replicate (n := n) (a := 1)) t
  rw [amtF, List.getD_eq_getElem?_getD, List.getElem?_eq_getElem (by omega)]
  rfl
theorem amtF_down {n : Nat} {as : List Ar} {t p : Nat} (h : p < n) : amtF n as (t + 1) p ≤ 2520 * amtF n as t p := by
  have hd := amtW_down (n := n) (as := as) (c := 1) t
  exact hd.2 p _ _ (amtF_at h) (by rw [List.getElem?_map, amtF_at h]; rfl)
theorem amtF_zero {n : Nat} {as : List Ar} {p : Nat} (h : p < n) : amtF n as 0 p = 1 := getD_rep h
theorem amtF_le {n : Nat} {as : List Ar} {t p : Nat} (h : p < n) : amtF n as t p ≤ 2520 ^ t := by
  have := amtW_bd (as := as) (n := n) (W := List.replicate n 1) (M := 1) (fun x hx => by rw [List.eq_of_mem_replicate hx]; exact Nat.le_refl _) t _ (List.mem_of_getElem? (amtF_at (as := as) h))
  omega
/-- one goal for all: one coin -/
theorem costN_ones {ps : List Pr} (hp : PaysOk ps) (h1 : ∀ x ∈ ps, gvl x = 1) : costN ps = min 2520 (ps.map fun x => 2520 / max 1 x.2).sum := by
  have c1 : costN ps ≤ 2520 := by
    have := costN_bd (ps := ps) (M := 1) fun x hx => by rw [h1 x hx]; exact Nat.le_refl _
    omega
  by_cases hm : must ps = 0
  · have c2 : cost ps 0 = (ps.map fun x => 2520 / max 1 x.2).sum := by
      unfold cost
      rw [Nat.zero_mul, Nat.zero_add]
      refine sumN_congr fun x hx => ?_
      have : x.2 ≠ 0 := fun e => by
        have := must_le.mp (Nat.le_of_eq hm) x hx e
        rw [h1 x hx] at this
        omega
      rw [h1 x hx, Nat.sub_zero, Nat.one_mul, show max 1 x.2 = x.2 by omega]
    have c3 := costN_le (ps := ps) (k := 0) (Nat.le_of_eq hm)
    obtain ⟨k, hk, e⟩ := costN_ex ps
    rcases Nat.eq_zero_or_pos k with z | z
    · subst z
      omega
    · have : 2520 ≤ cost ps k := by unfold cost; omega
      omega
  · have hs : 2520 ≤ (ps.map fun x => 2520 / max 1 x.2).sum := by
      have : ∃ x ∈ ps, x.2 = 0 := by
        apply Classical.byContradiction
        intro hn
        refine hm (Nat.le_antisymm (must_le.mpr fun x hx e => absurd ⟨x, hx, e⟩ hn) (Nat.zero_le _))
      obtain ⟨x, hx, e⟩ := this
      have h2 : 2520 / max 1 x.2 ∈ ps.map fun x => 2520 / max 1 x.2 := List.mem_map.mpr ⟨x, hx, rfl⟩
      have h3 := mem_sum h2
      rw [e] at h3
      exact h3
    obtain ⟨k, hk, e⟩ := costN_ex ps
    have : 2520 ≤ cost ps k := by unfold cost; omega
    omega
/-- a power whose size does not matter -/
theorem wPow_gen {i j : Int} {k : D → Prop} (h : 0 ≤ j ∧ j ≤ 1000000 ∧ i.natAbs < 2 ^ 64) (hk : ∀ r : Int, k (.int r)) : wPow (.int i) (.int j) k := ⟨h, hk _⟩
theorem wPow_nat {i j m : Nat} {k : D → Prop} (h : j ≤ 1000000 ∧ i < 2 ^ 64) (e : i ^ j = m) (hk : k (.int (m : Nat))) : wPow (.int (i : Nat)) (.int (j : Nat)) k := by
  refine ⟨⟨by omega, by omega, by rw [Int.natAbs_natCast]; exact h.2⟩, ?_⟩
  rw [Int.toNat_natCast, ← Int.natCast_pow, e]
  exact hk
/-! ### what can be come to -/
inductive Rch (as : List Ar) : Nat → Nat → Prop
  | refl (p : Nat) : Rch as p p
  | step {p q : Nat} {a : Ar} : Rch as p q → a ∈ frm as q → Rch as p a.q
theorem Rch.lt {n : Nat} {as : List Ar} (ok : TrkOk n as) {p q : Nat} (hp : p < n) (h : Rch as p q) : q < n := by
  induction h with
  | refl => exact hp
  | step _ ha _ => exact (ok.ok _ (List.mem_filter.mp ha).1).2.2.2.2
theorem Rch.trans {as : List Ar} {p q r : Nat} (h : Rch as p q) (k : Rch as q r) : Rch as p r := by
  induction k with
  | refl => exact h
  | step _ ha ih => exact .step ih ha
theorem Rch.closed {as : List Ar} {p q : Nat} {F : Nat → Prop} (h : Rch as p q) (hp : F p) (hc : ∀ r, F r → ∀ a ∈ frm as r, F a.q) : F q := by
  induction h with
  | refl => exact hp
  | step _ ha ih => exact hc _ ih _ ha
noncomputable def rchL (n : Nat) (as : List Ar) (p : Nat) : List Nat := (List.range n).filter fun q => @decide (Rch as p q) (Classical.propDecidable _)
theorem mem_rchL {n : Nat} {as : List Ar} {p q : Nat} : q ∈ rchL n as p ↔ q < n ∧ Rch as p q := by
  unfold rchL
  rw [List.mem_filter, List.mem_range]
  exact and_congr_right fun _ => @decide_eq_true_iff _ (Classical.propDecidable _)
theorem rchL_asc (n : Nat) (as : List Ar) (p : Nat) : (rchL n as p).Pairwise (· < ·) := List.Pairwise.filter _ List.pairwise_lt_range
theorem asc_ext : ∀ {S T : List Nat}, S.Pairwise (· < ·) → T.Pairwise (· < ·) → (∀ x, x ∈ S ↔ x ∈ T) → S = T
  | [], [], _, _, _ => rfl
  | [], y :: T, _, _, h => by have := (h y).mpr List.mem_cons_self; cases this
  | x :: S, [], _, _, h => by have := (h x).mp List.mem_cons_self; cases this
  | x :: S, y :: T, hS, hT, h => by
    obtain ⟨s1, s2⟩ := List.pairwise_cons.mp hS
    obtain ⟨t1, t2⟩ := List.pairwise_cons.mp hT
    have e : x = y := by
      rcases List.mem_cons.mp ((h x).mp List.mem_cons_self) with e | e
      · exact e
      · rcases List.mem_cons.mp ((h y).mpr List.mem_cons_self) with e2 | e2
        · exact e2.symm
        · have := t1 x e
          have := s1 y e2
          omega
    subst e
    have : S = T := asc_ext s2 t2 fun z => by
      constructor
      · intro hz
        rcases List.mem_cons.mp ((h z).mp (List.mem_cons_of_mem _ hz)) with e | e
        · subst e
          have := s1 z hz
          omega
        · exact e
      · intro hz
        rcases List.mem_cons.mp ((h z).mpr (List.mem_cons_of_mem _ hz)) with e | e
        · subst e
          have := t1 z hz
          omega
        · exact e
    rw [this]
theorem pigNd : ∀ (n : Nat) (F : List Nat), F.Nodup → (∀ q ∈ F, q < n) → F.length ≤ n
  | 0, F, _, h => by
    cases F with
    | nil => exact Nat.le_refl _
    | cons a _ => have := h a List.mem_cons_self; omega
  | n + 1, F, nd, h => by
    by_cases c : n ∈ F
    · obtain ⟨s, t, rfl⟩ := List.append_of_mem c
      have nd2 := (List.perm_middle (a := n) (l₁ := s) (l₂ := t)).nodup_iff.mp nd
      obtain ⟨n1, n2⟩ := List.nodup_cons.mp nd2
      have := pigNd n (s ++ t) n2 fun q hq => by
        have h1 := h q (by
          rcases List.mem_append.mp hq with z | z
          · exact List.mem_append_left _ z
          · exact List.mem_append_right _ (List.mem_cons_of_mem _ z))
        have : q ≠ n := fun e => n1 (e ▸ hq)
        omega
      rw [List.length_append, List.length_cons]
      rw [List.length_append] at this
      omega
    · have := pigNd n F nd fun q hq => by
        have := h q hq
        have : q ≠ n := fun e => c (e ▸ hq)
        omega
      omega
theorem sorted_of {ys : List Int} {F : List Nat} (hp : ys.Perm (F.map fun (x : Nat) => (x : Int))) (hs : ys.Pairwise (· ≤ ·)) (nd : F.Nodup) : ∃ S : List Nat, ys.map D.int = nD S ∧ S.Perm F ∧ S.Pairwise (· < ·) := by
  obtain ⟨S, e, h1, h2⟩ := sort_nat (ys := ys.map D.int) (zs := F) (by
    have := hp.map D.int
    rw [List.map_map] at this
    exact this) (by
    rw [List.pairwise_map]
    exact hs.imp fun {a b} h => decide_eq_false (by omega))
  refine ⟨S, e, h1, ?_⟩
  have n2 : S.Nodup := h1.nodup_iff.mpr nd
  exact (h2.and n2).imp fun {a b} h => by omega
/-- places without a full lot within reach -/
noncomputable def hopL (n : Nat) (as : List Ar) : List Nat := (List.range n).filter fun p => @decide (∀ q, Rch as p q → q ∉ fullF n as) (Classical.propDecidable _)
theorem mem_hopL {n : Nat} {as : List Ar} {p : Nat} : p ∈ hopL n as ↔ p < n ∧ ∀ q, Rch as p q → q ∉ fullF n as := by
  unfold hopL
  rw [List.mem_filter, List.mem_range]
  exact and_congr_right fun _ => @decide_eq_true_iff _ (Classical.propDecidable _)
/-! ### all lots of some places, with fewer places first -/
theorem pigL {α : Type} : ∀ {L M : List α}, L.Nodup → (∀ x ∈ L, x ∈ M) → L.length ≤ M.length
  | [], _, _, _ => Nat.zero_le _
  | x :: L, M, nd, h => by
    obtain ⟨n1, n2⟩ := List.nodup_cons.mp nd
    obtain ⟨s, t, rfl⟩ := List.append_of_mem (h x List.mem_cons_self)
    have := pigL (L := L) (M := s ++ t) n2 fun y hy => by
      have hm := h y (List.mem_cons_of_mem _ hy)
      rcases List.mem_append.mp hm with z | z
      · exact List.mem_append_left _ z
      · rcases List.mem_cons.mp z with e | z
        · exact absurd (e ▸ hy) n1
        · exact List.mem_append_right _ z
    rw [List.length_cons, List.length_append, List.length_cons]
    rw [List.length_append] at this
    omega
def okExt (S : List Nat) (p : Nat) : Bool := S.isEmpty || decide (S.getLastD 0 < p)
def extP (P S : List Nat) : List (List Nat) := (P.filter (okExt S)).map fun p => S ++ [p]
def layL (P : List Nat) : Nat → List (List Nat)
  | 0 => [[]]
  | m + 1 => (layL P m).flatMap (extP P)
theorem asc_snoc {S : List Nat} {p : Nat} : (S ++ [p]).Pairwise (· < ·) ↔ S.Pairwise (· < ·) ∧ okExt S p = true := by
  rw [List.pairwise_append]
  unfold okExt
  constructor
  · rintro ⟨h1, _, h3⟩
    refine ⟨h1, ?_⟩
    cases S with
    | nil => rfl
    | cons x S =>
      have := h3 ((x :: S).getLast (by simp)) (List.getLast_mem _) p (List.mem_singleton.mpr rfl)
      rw [Bool.or_eq_true, decide_eq_true_eq, List.getLastD_eq_getLast?, List.getLast?_eq_some_getLast (by simp)]
      exact .inr this
  · rintro ⟨h1, h2⟩
    refine ⟨h1, List.pairwise_singleton _ _, fun a ha b hb => ?_⟩
    cases List.mem_singleton.mp hb
    cases S with
    | nil => cases ha
    | cons x S =>
      rw [Bool.or_eq_true, decide_eq_true_eq, List.getLastD_eq_getLast?, List.getLast?_eq_some_getLast (by simp)] at h2
      rcases h2 with h2 | h2
      · cases h2
      · have h2 : (x :: S).getLast (by simp) < p := h2
        obtain ⟨i, hi, e⟩ := List.getElem_of_mem ha
        have el : (x :: S).getLast (by simp) = (x :: S)[(x :: S).length - 1]'(by simp) := List.getLast_eq_getElem _
        rcases Nat.lt_or_ge i ((x :: S).length - 1) with y | y
        · have := List.pairwise_iff_getElem.mp h1 i ((x :: S).length - 1) hi (by simp) y
          rw [e, ← el] at this
          omega
        · have ei : i = (x :: S).length - 1 := by omega
          subst ei
          rw [← e, ← el]
          exact h2
theorem mem_layL {P : List Nat} : ∀ {m : Nat} {S : List Nat}, S ∈ layL P m ↔ S.length = m ∧ S.Pairwise (· < ·) ∧ ∀ p ∈ S, p ∈ P
  | 0, S => by
    rw [layL, List.mem_singleton]
    constructor
    · rintro rfl
      exact ⟨rfl, List.Pairwise.nil, fun _ h => by cases h⟩
    · rintro ⟨h, _⟩
      exact List.eq_nil_of_length_eq_zero h
  | m + 1, S => by
    rw [layL, List.mem_flatMap]
    constructor
    · rintro ⟨T, hT, hS⟩
      obtain ⟨p, hp, rfl⟩ := List.mem_map.mp hS
      obtain ⟨hp1, hp2⟩ := List.mem_filter.mp hp
      obtain ⟨h1, h2, h3⟩ := mem_layL.mp hT
      refine ⟨by rw [List.length_append, h1]; rfl, asc_snoc.mpr ⟨h2, hp2⟩, fun q hq => ?_⟩
      rcases List.mem_append.mp hq with hq | hq
      · exact h3 q hq
      · cases List.mem_singleton.mp hq
        exact hp1
    · rintro ⟨h1, h2, h3⟩
      have hne : S ≠ [] := fun e => by rw [e] at h1; cases h1
      have e := List.dropLast_concat_getLast hne
      rw [← e] at h2
      obtain ⟨a, b⟩ := asc_snoc.mp h2
      refine ⟨S.dropLast, mem_layL.mpr ⟨by rw [List.length_dropLast]; omega, a, fun p hp => h3 p (List.dropLast_subset _ hp)⟩, List.mem_map.mpr ⟨S.getLast hne, List.mem_filter.mpr ⟨h3 _ (List.getLast_mem _), b⟩, e⟩⟩
theorem layL_nd {P : List Nat} (hP : P.Nodup) : ∀ m, (layL P m).Nodup
  | 0 => List.pairwise_singleton _ _
  | m + 1 => by
    rw [layL]
    refine List.pairwise_flatMap.mpr ⟨fun S hS => ?_, (layL_nd hP m).imp fun {S T} hne x hx y hy e => ?_⟩
    · unfold extP
      rw [List.pairwise_map]
      exact (hP.filter _).imp fun {a b} h e => h (by simpa using e)
    · obtain ⟨p, _, rfl⟩ := List.mem_map.mp hx
      obtain ⟨q, _, rfl⟩ := List.mem_map.mp hy
      exact hne (List.append_inj_left' e rfl)
def lotsP (P : List Nat) (i : Nat) : List (List Nat) := (List.range i).flatMap fun m => layL P (m + 1)
theorem lotsP_succ (P : List Nat) (i : Nat) : lotsP P (i + 1) = lotsP P i ++ layL P (i + 1) := by
  unfold lotsP
  rw [List.range_succ, List.flatMap_append]
  simp
theorem mem_lotsP {P : List Nat} {i : Nat} {S : List Nat} : S ∈ lotsP P i ↔ S ≠ [] ∧ S.length ≤ i ∧ S.Pairwise (· < ·) ∧ ∀ p ∈ S, p ∈ P := by
  unfold lotsP
  rw [List.mem_flatMap]
  constructor
  · rintro ⟨m, hm, h⟩
    obtain ⟨h1, h2, h3⟩ := mem_layL.mp h
    have := List.mem_range.mp hm
    exact ⟨fun e => (by rw [e] at h1; cases h1), by omega, h2, h3⟩
  · rintro ⟨h0, h1, h2, h3⟩
    have := List.length_pos_iff.mpr h0
    exact ⟨S.length - 1, List.mem_range.mpr (by omega), mem_layL.mpr ⟨by omega, h2, h3⟩⟩
theorem lotsP_nd {P : List Nat} (hP : P.Nodup) (i : Nat) : (lotsP P i).Nodup := by
  unfold lotsP
  refine List.pairwise_flatMap.mpr ⟨fun m _ => layL_nd hP _, List.pairwise_lt_range.imp fun {a b} hab x hx y hy e => ?_⟩
  have h1 := (mem_layL.mp hx).1
  have h2 := (mem_layL.mp hy).1
  rw [e] at h1
  omega
theorem lotsP_len {P : List Nat} (i : Nat) : (lotsP P i).Pairwise fun a b => a.length ≤ b.length := by
  unfold lotsP
  refine List.pairwise_flatMap.mpr ⟨fun m _ => ?_, List.pairwise_lt_range.imp fun {a b} hab x hx y hy => ?_⟩
  · have : ∀ L : List (List Nat), (∀ S ∈ L, S.length = m + 1) → L.Pairwise fun a b => a.length ≤ b.length := fun L => by
      induction L with
      | nil => intro _; exact List.Pairwise.nil
      | cons S L ih =>
        intro h
        refine List.pairwise_cons.mpr ⟨fun T hT => ?_, ih fun T hT => h T (List.mem_cons_of_mem _ hT)⟩
        rw [h S List.mem_cons_self, h T (List.mem_cons_of_mem _ hT)]
        exact Nat.le_refl _
    exact this _ fun S hS => (mem_layL.mp hS).1
  · have h1 := (mem_layL.mp hx).1
    have h2 := (mem_layL.mp hy).1
    omega
theorem asc_nd {P : List Nat} (h : P.Pairwise (· < ·)) : P.Nodup := h.imp fun {a b} h e => by omega
theorem layL_few {P : List Nat} (hP : P.Pairwise (· < ·)) (hn : ∀ p ∈ P, p < 12) (m : Nat) : (layL P m).length ≤ 4096 := by
  have := pigL (layL_nd (asc_nd hP) m) (M := subs 12) fun S hS => by
    obtain ⟨_, h2, h3⟩ := mem_layL.mp hS
    exact (subs_spec 12 S).mpr ⟨h2, fun p hp => hn p (h3 p hp)⟩
  rw [subs_len] at this
  exact this
theorem lotsP_few {P : List Nat} (hP : P.Pairwise (· < ·)) (hn : ∀ p ∈ P, p < 12) (m : Nat) : (lotsP P m).length ≤ 4096 := by
  have := pigL (lotsP_nd (asc_nd hP) m) (M := subs 12) fun S hS => by
    obtain ⟨_, _, h2, h3⟩ := mem_lotsP.mp hS
    exact (subs_spec 12 S).mpr ⟨h2, fun p hp => hn p (h3 p hp)⟩
  rw [subs_len] at this
  exact this
/-- a full lot of which no other one is a part -/
def IsLF (n : Nat) (as : List Ar) (S : List Nat) : Prop := S ∈ fullsL n as ∧ ∀ T ∈ fullsL n as, (∀ p ∈ T, p ∈ S) → T = S
theorem asc_sub {S T : List Nat} (hS : S.Pairwise (· < ·)) (hT : T.Pairwise (· < ·)) (h : ∀ p ∈ T, p ∈ S) : T.length ≤ S.length ∧ (S.length ≤ T.length → T = S) := by
  refine ⟨pigL (asc_nd hT) h, fun hl => asc_ext hT hS fun x => ⟨fun hx => h x hx, fun hx => ?_⟩⟩
  apply Classical.byContradiction
  intro hn
  have := pigL (L := x :: T) (M := S) (List.nodup_cons.mpr ⟨hn, asc_nd hT⟩) fun y hy => by
    rcases List.mem_cons.mp hy with rfl | hy
    · exact hx
    · exact h y hy
  rw [List.length_cons] at this
  omega
theorem lf_in {n : Nat} {as : List Ar} : ∀ (k : Nat) {T : List Nat}, T.length ≤ k → T ∈ fullsL n as → ∃ U, IsLF n as U ∧ ∀ p ∈ U, p ∈ T
  | 0, T, hk, hT => by
    have := (mem_fulls.mp hT).2.1
    exact absurd (List.eq_nil_of_length_eq_zero (by omega)) this
  | k + 1, T, hk, hT => by
    by_cases h : ∃ V ∈ fullsL n as, (∀ p ∈ V, p ∈ T) ∧ V ≠ T
    · obtain ⟨V, hV, h1, h2⟩ := h
      obtain ⟨a, b⟩ := asc_sub (mem_fulls.mp hT).1.1 (mem_fulls.mp hV).1.1 h1
      have hl : V.length ≤ k := by
        rcases Nat.lt_or_ge k V.length with e | e
        · exact absurd (b (by omega)) h2
        · exact e
      obtain ⟨U, hU, h3⟩ := lf_in k hl hV
      exact ⟨U, hU, fun p hp => h1 p (h3 p hp)⟩
    · refine ⟨T, ⟨hT, fun V hV h1 => ?_⟩, fun p hp => hp⟩
      apply Classical.byContradiction
      intro h2
      exact h ⟨V, hV, h1, h2⟩
theorem full_in {n : Nat} {as : List Ar} {S : List Nat} (h : S ∈ fullsL n as) : ∀ p ∈ S, p ∈ fullF n as := fun p hp => fullF_iff.mpr ⟨S, h, hp⟩
theorem liks_nD : ∀ S T : List Nat, liks (nD S) (nD T) = true
  | [], _ => by simp [nD, liks]
  | _ :: _, [] => by simp [nD, liks]
  | x :: S, y :: T => by
    show (lik (.int (x : Nat)) (.int (y : Nat)) && liks (nD S) (nD T)) = true
    rw [liks_nD S T]
    rfl
theorem aft_le {n : Nat} {as : List Ar} {W : List Nat} {B : Nat} (h : ∀ x ∈ W, x ≤ B) : ∀ t, ∀ x ∈ aftW n as W t, x ≤ B
  | 0 => h
  | t + 1 => fun x hx => by
    obtain ⟨p, _, rfl⟩ := List.mem_map.mp hx
    obtain ⟨k, nd⟩ := needN_ok (pairsAt as p ((aftW n as W t).map some))
    exact need_le nd (some_lt as p _ B (aft_le h t))
theorem cost_needN (ps : List Pr) : costN ps ≤ needN ps * 2520 := by
  obtain ⟨k, nd⟩ := needN_ok ps
  refine Nat.le_trans (costN_le nd.ge) ?_
  rw [nd.eq]
  exact cost_tot ps k
theorem parts_le_coins {n : Nat} {as : List Ar} {W : List Nat} (hW : W.length = n) : ∀ t, LeW (amtW n as W t) ((aftW n as W t).map fun x => 2520 ^ t * x)
  | 0 => by
    refine ⟨by rw [List.length_map]; rfl, fun i x y hx hy => ?_⟩
    rw [List.getElem?_map, show (aftW n as W 0)[i]? = some x from hx] at hy
    cases hy
    simp
  | t + 1 => by
    have h := nextA_mono (n := n) (as := as) (parts_le_coins (as := as) hW t)
    rw [nextA_mul (Nat.pow_pos (by decide))] at h
    refine ⟨by rw [List.length_map, aftW_len hW, amtW_len hW], fun i x y hx hy => ?_⟩
    have hi := (List.getElem?_eq_some_iff.mp hx).1
    rw [amtW_len hW] at hi
    have h1 := h.2 i x _ hx (by rw [List.getElem?_map, nextA_at hi]; rfl)
    rw [List.getElem?_map, show aftW n as W (t + 1) = nextW n as (aftW n as W t) from rfl, nextW, List.getElem?_map, List.getElem?_range hi] at hy
    cases hy
    have h2 := cost_needN (pairsAt as i ((aftW n as W t).map some))
    show x ≤ 2520 ^ (t + 1) * needN _
    rw [Nat.pow_succ, Nat.mul_assoc, Nat.mul_comm 2520]
    exact Nat.le_trans h1 (Nat.mul_le_mul_left _ h2)
/-! ### full lots hold goals -/
def wtN (p : Nat) : Nat := if p = 0 then 2520 else 2520 / p
theorem wtN_int (p : Nat) : ((wtN p : Nat) : Int) = wt (p : Nat) := by
  unfold wtN wt
  by_cases h : p = 0
  · subst h
    rfl
  · rw [if_neg h, if_pos (by omega), Int.natCast_ediv]
    rfl
def wbN (as : List Ar) (p : Nat) (S : List Nat) : Nat := (((frm as p).filter fun a => decide (a.q ∈ S)).map fun a => wtN a.pay).sum
theorem wbN_int (as : List Ar) (p : Nat) (S : List Nat) : ((wbN as p S : Nat) : Int) = wb as p S := by
  unfold wbN wb
  generalize (frm as p).filter (fun a => decide (a.q ∈ S)) = L
  induction L with
  | nil => rfl
  | cons a L ih => rw [List.map_cons, List.map_cons, List.sum_cons, List.sum_cons, Int.natCast_add, ih, wtN_int]
theorem sumN_filter {α : Type} (c : α → Bool) (f : α → Nat) : ∀ xs : List α, ((xs.filter c).map f).sum ≤ (xs.map f).sum
  | [] => Nat.le_refl _
  | x :: xs => by
    have ih := sumN_filter c f xs
    rw [List.filter_cons, List.map_cons, List.sum_cons]
    split
    · rw [List.map_cons, List.sum_cons]
      omega
    · omega
theorem sumN_filter2 {α : Type} (c d : α → Bool) (f : α → Nat) : ∀ xs : List α, (∀ x ∈ xs, c x = true → d x = true) → ((xs.filter c).map f).sum ≤ ((xs.filter d).map f).sum
  | [], _ => Nat.le_refl _
  | x :: xs, h => by
    have ih := sumN_filter2 c d f xs fun y hy => h y (List.mem_cons_of_mem _ hy)
    rw [List.filter_cons, List.filter_cons]
    by_cases hc : c x = true
    · rw [if_pos hc, if_pos (h x List.mem_cons_self hc), List.map_cons, List.map_cons, List.sum_cons, List.sum_cons]
      omega
    · rw [if_neg hc]
      split
      · rw [List.map_cons, List.sum_cons]
        omega
      · exact ih
theorem costN_full {ps : List Pr} {N : Nat} (h : 2520 ≤ ((ps.filter fun x => decide (N ≤ gvl x)).map fun x => wtN x.2).sum) : N * 2520 ≤ costN ps := by
  obtain ⟨k, hk, e⟩ := costN_ex ps
  rw [e]
  rcases Nat.lt_or_ge k N with hN | hN
  · have h1 : ((ps.filter fun x => decide (N ≤ gvl x)).map fun x => wtN x.2 * (N - k)).sum ≤ ((ps.filter fun x => decide (N ≤ gvl x)).map fun x => (gvl x - k) * (2520 / x.2)).sum := sumN_le fun x hx => by
      obtain ⟨hx1, hx2⟩ := List.mem_filter.mp hx
      have hx2 := of_decide_eq_true hx2
      have h0 : x.2 ≠ 0 := fun z => by
        have := must_le.mp hk x hx1 z
        omega
      unfold wtN
      rw [if_neg h0, Nat.mul_comm]
      exact Nat.mul_le_mul_right _ (by omega)
    rw [sumN_mul] at h1
    have h2 := sumN_filter (fun x => decide (N ≤ gvl x)) (fun x : Pr => (gvl x - k) * (2520 / x.2)) ps
    have h3 := Nat.mul_le_mul_right (N - k) h
    unfold cost
    omega
  · unfold cost
    have := Nat.mul_le_mul_right 2520 hN
    omega
theorem costN_lot {as : List Ar} {p N : Nat} {S : List Nat} {G : List (Option Nat)} (hw : 2520 ≤ wb as p S) (hG : ∀ q ∈ S, N ≤ (G.getD q none).getD 0) : N * 2520 ≤ costN (pairsAt as p G) := by
  refine costN_full ?_
  have h1 : wbN as p S ≤ (((pairsAt as p G).filter fun x => decide (N ≤ gvl x)).map fun x => wtN x.2).sum := by
    unfold pairsAt wbN
    rw [List.filter_map, List.map_map]
    exact sumN_filter2 _ _ _ _ fun a _ ha => decide_eq_true (hG a.q (of_decide_eq_true ha))
  have h2 := wbN_int as p S
  omega
theorem needN_lot {as : List Ar} {p N : Nat} {S : List Nat} {G : List (Option Nat)} (hw : 2520 ≤ wb as p S) (hG : ∀ q ∈ S, N ≤ (G.getD q none).getD 0) (hN : ∀ q, (G.getD q none).getD 0 ≤ N) : needN (pairsAt as p G) = N ∧ costN (pairsAt as p G) = N * 2520 := by
  have hle : ∀ x ∈ pairsAt as p G, gvl x ≤ N := fun x hx => by
    obtain ⟨a, _, rfl⟩ := List.mem_map.mp hx
    exact hN a.q
  have h1 := costN_lot hw hG
  have h2 := cost_needN (pairsAt as p G)
  obtain ⟨k, nd⟩ := needN_ok (pairsAt as p G)
  have h3 := need_le nd hle
  have h4 := costN_bd hle
  exact ⟨by omega, by omega⟩
theorem rk_one {n : Nat} {as : List Ar} {p : Nat} (hp : p < n) : rk n as (n + 1) p = some 1 ↔ wb as p (List.range n) < 2520 := by
  have e0 : lft n (rk n as 0) = List.range n := List.filter_eq_self.mpr fun _ _ => rfl
  constructor
  · intro h
    have := (mem_strk.mp (rk_val hp _ h).2.2).2
    rw [show 1 - 1 = 0 from rfl, e0] at this
    exact this
  · intro h
    have : rk n as 1 p = some 1 := by
      rw [rk_succ n as 0 p hp, if_pos (mem_strk.mpr ⟨⟨hp, rfl⟩, by rw [e0]; exact h⟩)]
    exact rk_keep this (n + 1) (by omega)
theorem wbN_all {n : Nat} {as : List Ar} (ok : TrkOk n as) (p : Nat) : wbN as p (List.range n) = ((frm as p).map fun a => wtN a.pay).sum := by
  have e : (frm as p).filter (fun a => decide (a.q ∈ List.range n)) = frm as p := List.filter_eq_self.mpr fun a ha => decide_eq_true (List.mem_range.mpr (ok.ok a (List.mem_filter.mp ha).1).2.2.2.2)
  unfold wbN
  rw [e]
theorem cdiv_exact {m p : Nat} (p0 : 0 < p) (hp : p ∣ 2520) : cdiv (2520 * m) p = m * (2520 / p) := by
  refine Nat.le_antisymm ((cdiv_le p0).mpr ?_) ?_
  · rw [Nat.mul_left_comm, Nat.mul_div_cancel' hp, Nat.mul_comm]
    exact Nat.le_refl _
  · have h := (cdiv_le (a := 2520 * m) (c := cdiv (2520 * m) p) p0).mp (Nat.le_refl _)
    refine Nat.le_of_mul_le_mul_left (c := p) ?_ p0
    rw [Nat.mul_left_comm, Nat.mul_div_cancel' hp, Nat.mul_comm m]
    exact h
/-- where the letters come to less than one, fewer coins are enough -/
theorem need_less {n : Nat} {as : List Ar} (ok : TrkOk n as) {p m : Nat} (hp : p < n) (m0 : 0 < m) (hw : wb as p (List.range n) < 2520) : needN (pairsAt as p (List.replicate n (some (2520 * m)))) < 2520 * m := by
  have hW := wbN_int as p (List.range n)
  have hA := wbN_all ok p
  have hpay : ∀ a ∈ frm as p, 0 < a.pay := fun a ha => by
    rcases Nat.eq_zero_or_pos a.pay with z | z
    · have h1 : wtN a.pay ∈ (frm as p).map fun a => wtN a.pay := List.mem_map.mpr ⟨a, ha, rfl⟩
      have h2 := mem_sum h1
      rw [z] at h2
      have : wtN 0 = 2520 := rfl
      omega
    · exact z
  have hg : ∀ a ∈ frm as p, gvl (((List.replicate n (some (2520 * m))).getD a.q none, a.pay) : Pr) = 2520 * m := fun a ha => by
    have hqa := (ok.ok a (List.mem_filter.mp ha).1).2.2.2.2
    show ((List.replicate n (some (2520 * m))).getD a.q none).getD 0 = _
    rw [List.getD_eq_getElem?_getD, List.getElem?_replicate, if_pos hqa]
    rfl
  obtain ⟨k, nd⟩ := needN_ok (pairsAt as p (List.replicate n (some (2520 * m))))
  have hm : must (pairsAt as p (List.replicate n (some (2520 * m)))) ≤ 0 := must_le.mpr fun x hx h0 => by
    obtain ⟨a, ha, rfl⟩ := List.mem_map.mp hx
    have := hpay a ha
    have h0 : a.pay = 0 := h0
    omega
  have h1 := nd.min 0 hm
  have h2 : tot (pairsAt as p (List.replicate n (some (2520 * m)))) 0 = ((frm as p).map fun a => wtN a.pay).sum * m := by
    unfold tot pairsAt
    rw [List.map_map, Nat.zero_add, ← sumN_mul]
    refine sumN_congr fun a ha => ?_
    show stk 0 ((List.replicate n (some (2520 * m))).getD a.q none, a.pay) = _
    unfold stk
    rw [hg a ha, if_neg (by omega), Nat.sub_zero]
    show cdiv (2520 * m) a.pay = wtN a.pay * m
    have p0 := hpay a ha
    rw [cdiv_exact p0 (pay_dvd (ok.ok a (List.mem_filter.mp ha).1).2.2.2.1 p0), Nat.mul_comm]
    unfold wtN
    rw [if_neg (by omega)]
  rw [h2, ← hA] at h1
  have h3 : wbN as p (List.range n) * m < 2520 * m := Nat.mul_lt_mul_of_pos_right (by omega) m0
  omega
theorem mulSmall' {i j : Int} (h : -(2 ^ 64) < i ∧ i < 2 ^ 64) : MulOk i j := .inl h
theorem trkOk_like {n : Nat} {as bs : List Ar} (ok : TrkOk n as) (hl : bs.length = as.length) (h : ∀ (i : Nat) a b, as[i]? = some a → bs[i]? = some b → b.p = a.p ∧ b.c = a.c ∧ b.q = a.q ∧ b.pay ≤ 9) : TrkOk n bs := by
  have g : ∀ (i : Nat) (hi : i < bs.length), ∃ a, as[i]? = some a ∧ bs[i].p = a.p ∧ bs[i].c = a.c ∧ bs[i].q = a.q ∧ bs[i].pay ≤ 9 := fun i hi => by
    have e : as[i]? = some (as[i]'(by omega)) := List.getElem?_eq_getElem _
    exact ⟨_, e, h i _ _ e (List.getElem?_eq_getElem hi)⟩
  refine ⟨ok.n1, ok.n2, by rw [hl]; exact ok.l1, by rw [hl]; exact ok.l2, fun b hb => ?_, ?_, fun p hp => ?_⟩
  · obtain ⟨i, hi, rfl⟩ := List.getElem_of_mem hb
    obtain ⟨a, ha, e1, e2, e3, e4⟩ := g i hi
    have := ok.ok a (List.mem_of_getElem? ha)
    rw [e1, e2, e3]
    exact ⟨this.1, this.2.1, this.2.2.1, e4, this.2.2.2.2⟩
  · refine List.pairwise_iff_getElem.mpr fun i j hi hj hij => ?_
    obtain ⟨a, ha, e1, e2, _⟩ := g i hi
    obtain ⟨b, hb, f1, f2, _⟩ := g j hj
    obtain ⟨i1, ea⟩ := List.getElem?_eq_some_iff.mp ha
    obtain ⟨j1, eb⟩ := List.getElem?_eq_some_iff.mp hb
    have := List.pairwise_iff_getElem.mp ok.asc i j i1 j1 hij
    rw [ea, eb] at this
    unfold arLt at this ⊢
    rw [e1, e2, f1, f2]
    exact this
  · obtain ⟨a, ha, e⟩ := ok.all p hp
    obtain ⟨i, hi, rfl⟩ := List.getElem_of_mem ha
    refine ⟨bs[i]'(by omega), List.getElem_mem _, ?_⟩
    obtain ⟨a', ha', e1, _⟩ := g i (by omega)
    rw [List.getElem?_eq_getElem hi] at ha'
    cases ha'
    rw [e1]
    exact e
/-! ### a track without bounds; own.pop(i); {(a, b): v} -/
/-- what grows in turns over n places grows no more after n turns -/
theorem sat {n : Nat} {P : Nat → Nat → Prop} (up : ∀ i p, P i p → P (i + 1) p) (st : ∀ i, (∀ p, p < n → P (i + 1) p → P i p) → ∀ p, p < n → P (i + 2) p → P (i + 1) p) : ∀ m p, p < n → P m p → P n p := by
  have upm : ∀ i m p, P i p → P (i + m) p := fun i m p h => by
    induction m with
    | zero => exact h
    | succ m ih => exact up _ _ ih
  have stm : ∀ i, (∀ p, p < n → P (i + 1) p → P i p) → ∀ m p, p < n → P (i + m) p → P i p := fun i h m => by
    have all : ∀ m, ∀ p, p < n → P (i + m + 1) p → P (i + m) p := fun m => by
      induction m with
      | zero => exact h
      | succ m ih => exact st (i + m) ih
    induction m with
    | zero => exact fun p _ h => h
    | succ m ih => exact fun p hp h => ih p hp (all m p hp h)
  have key : ∀ t, (∃ u, u ≤ t ∧ ∀ p, p < n → P (u + 1) p → P u p) ∨ ∃ S : List Nat, S.Nodup ∧ S.length = t + 1 ∧ ∀ p ∈ S, p < n ∧ P (t + 1) p := by
    intro t
    induction t with
    | zero =>
      by_cases h : ∀ p, p < n → P 1 p → P 0 p
      · exact .inl ⟨0, Nat.le_refl _, h⟩
      · simp only [Classical.not_forall] at h
        obtain ⟨p, hp, h1, _⟩ := h
        exact .inr ⟨[p], List.pairwise_singleton _ _, rfl, fun q hq => by cases List.mem_singleton.mp hq; exact ⟨hp, h1⟩⟩
    | succ t ih =>
      rcases ih with ⟨u, hu, h⟩ | ⟨S, nd, hl, hS⟩
      · exact .inl ⟨u, by omega, h⟩
      · by_cases h : ∀ p, p < n → P (t + 2) p → P (t + 1) p
        · exact .inl ⟨t + 1, Nat.le_refl _, h⟩
        · simp only [Classical.not_forall] at h
          obtain ⟨p, hp, h1, h2⟩ := h
          refine .inr ⟨p :: S, List.nodup_cons.mpr ⟨fun z => h2 (hS p z).2, nd⟩, by rw [List.length_cons, hl], fun q hq => ?_⟩
          rcases List.mem_cons.mp hq with rfl | hq
          · exact ⟨hp, h1⟩
          · exact ⟨(hS q hq).1, up _ _ (hS q hq).2⟩
  intro m p hp h
  rcases key n with ⟨u, hu, hs⟩ | ⟨S, nd, hl, hS⟩
  · have h1 : P u p := by
      rcases Nat.le_total m u with e | e
      · have := upm m (u - m) p h
        rw [show m + (u - m) = u by omega] at this
        exact this
      · exact stm u hs (m - u) p hp (by rw [show u + (m - u) = m by omega]; exact h)
    have := upm u (n - u) p h1
    rw [show u + (n - u) = n by omega] at this
    exact this
  · have := pigNd n S nd fun q hq => (hS q hq).1
    omega
/-- come to in so many turns -/
def Fw (as : List Ar) (p : Nat) : Nat → Nat → Prop
  | 0 => fun q => q = p
  | i + 1 => fun q => Fw as p i q ∨ ∃ r, Fw as p i r ∧ ∃ a ∈ frm as r, q = a.q
theorem fw_all {n : Nat} {as : List Ar} (ok : TrkOk n as) {p q : Nat} (hp : p < n) (h : Rch as p q) : Fw as p n q := by
  have hm : ∃ m, Fw as p m q := by
    induction h with
    | refl => exact ⟨0, rfl⟩
    | step _ ha ih =>
      obtain ⟨m, hm⟩ := ih
      exact ⟨m + 1, .inr ⟨_, hm, _, ha, rfl⟩⟩
  obtain ⟨m, hm⟩ := hm
  have hlt : ∀ i r, Fw as p i r → r < n := fun i => by
    induction i with
    | zero => rintro r rfl; exact hp
    | succ i ih =>
      rintro r (h | ⟨s, _, a, ha, rfl⟩)
      · exact ih r h
      · exact (ok.ok a (List.mem_filter.mp ha).1).2.2.2.2
  refine sat (n := n) (P := Fw as p) (fun i p h => .inl h) (fun i hs r hr h => ?_) m q (h.lt ok hp) hm
  rcases h with h | ⟨s, h1, a, ha, rfl⟩
  · exact h
  · exact .inr ⟨s, hs s (hlt _ _ h1) h1, a, ha, rfl⟩
theorem wbN_if (as : List Ar) (p : Nat) (S : List Nat) : wbN as p S = (as.map fun a => if a.p = p ∧ a.q ∈ S then wtN a.pay else 0).sum := by
  unfold wbN frm
  induction as with
  | nil => rfl
  | cons a as ih =>
    rw [List.filter_cons, List.map_cons, List.sum_cons, ← ih]
    by_cases h1 : a.p = p
    · rw [if_pos (decide_eq_true h1), List.filter_cons]
      by_cases h2 : a.q ∈ S
      · rw [if_pos (decide_eq_true h2), if_pos ⟨h1, h2⟩, List.map_cons, List.sum_cons]
      · rw [if_neg (by rw [decide_eq_true_eq]; exact h2), if_neg fun z => h2 z.2, Nat.zero_add]
    · rw [if_neg (by rw [decide_eq_true_eq]; exact h1), if_neg fun z => h1 z.1, Nat.zero_add]
theorem sum_ixN {α β : Type} {f : α → Nat} {h : β → Nat} : ∀ {xs : List α} {ys : List β}, xs.length = ys.length → (∀ (i : Nat) x y, xs[i]? = some x → ys[i]? = some y → f x ≤ h y) → (xs.map f).sum ≤ (ys.map h).sum
  | [], [], _, _ => Nat.le_refl _
  | [], _ :: _, h, _ => by cases h
  | _ :: _, [], h, _ => by cases h
  | x :: xs, y :: ys, h, k => by
    rw [List.map_cons, List.map_cons, List.sum_cons, List.sum_cons]
    have h1 := k 0 x y rfl rfl
    have h2 := sum_ixN (xs := xs) (ys := ys) (by simpa using h) fun i a b ha hb => k (i + 1) a b ha hb
    omega
theorem wtN_anti {a b : Nat} (h : a ≤ b) (h2 : a ≤ 1 → b = a) : wtN b ≤ wtN a := by
  rcases Nat.lt_or_ge 1 a with w | w
  · unfold wtN
    rw [if_neg (by omega), if_neg (by omega)]
    exact Nat.div_le_div_left h (by omega)
  · rw [h2 w]
    exact Nat.le_refl _
section
variable {G : Type}
def cRaw : Ct G := fun ds g Q _ => ∃ (n : Nat) (xs : List D), ds = [.int (n : Nat), .tup xs] ∧ n ≤ 1000000 ∧ xs.length ≤ 1000000 ∧ (∀ d ∈ xs, arrOk n d) ∧ Q (trkD "Track" n xs) g
def dPopAt (i : Nat) (a : DE G) : DE G := fun ex l g Q => getO l i fun d0 => match d0 with
  | .lst _ => a ex l g fun y l1 g1 => getO l1 i fun d => match d with
    | .lst xs => match y with
      | .int n => xs.length ≤ LIM ∧ ∃ j z, ixAt xs.length n = some j ∧ xs[j]? = some z ∧ Q z (l1.set i (.ow (.lst (xs.eraseIdx j)))) g1
      | _ => False
    | _ => False
  | _ => False
/-- own.index(y): the first place of an equal one -/
def dIdxO (i : Nat) (a : DE G) : DE G := fun ex l g Q => getO l i fun d0 => match d0 with
  | .lst _ => a ex l g fun y l1 g1 => getO l1 i fun d => match d with
    | .lst xs => (flat y = true ∧ xs.all flat = true) ∧ ∃ j z, xs[j]? = some z ∧ deq z y = true ∧ (∀ m z', m < j → xs[m]? = some z' → deq z' y = false) ∧ Q (.int (j : Nat)) l1 g1
    | _ => False
  | _ => False
def dDispT (kx vx : DE G) : DE G := fun ex l g Q => kx ex l g fun y l1 g1 => vx ex l1 g1 fun z l2 g2 => keyK true y = true ∧ Q (.dic true [(y, z)]) l2 g2
/-- sorted(set(xs)): ints, or texts -/
def bSetS : WA := fun ds k => match ds with
  | [.lst xs] => (∃ ns : List Int, xs = ns.map D.int ∧ ns.length < 64 ∧ ∀ ys : List Int, ys.Pairwise (· < ·) → (∀ j, j ∈ ys ↔ j ∈ ns) → k (.lst (ys.map D.int))) ∨
    (∃ ks : List (List Nat), xs = ks.map D.str ∧ ks.length < 64 ∧ ∀ ys : List (List Nat), ys.Pairwise (fun a b => sLt a b = true) → (∀ j, j ∈ ys ↔ j ∈ ks) → k (.lst (ys.map D.str)))
  | _ => False
/-- sorted of a tuple -/
def bSortT : WA := fun ds k => match ds with
  | [.tup xs] => SortOk xs ∧ ∀ ys : List D, ys.Perm xs → ys.Pairwise (fun a b => dlt b a = false) → k (.lst ys)
  | _ => False
/-- x is True, x is not False, .. of a flag -/
def wIsB : W2 := fun x y k => match x, y with
  | .bl a, .bl b => k (.bl (a == b))
  | _, _ => False
def wNotB : W2 := fun x y k => match x, y with
  | .bl a, .bl b => k (.bl (!(a == b)))
  | _, _ => False
/-- x.upper(), x one letter -/
def dUpper (a : DE G) : DE G := fun ex l g Q => a ex l g fun d l1 g1 => match d with
  | .str [c] => (97 ≤ c ∧ c ≤ 122) ∧ Q (.str [c - 32]) l1 g1
  | _ => False
/-- sorted of a dict's keys, all texts -/
def bSortS : WA := fun ds k => match ds with
  | [.dic false kvs] => ∃ ks : List (List Nat), kvs.map (·.1) = ks.map D.str ∧ ks.length < 64 ∧ ∀ ys : List (List Nat), ys.Perm ks → k (.lst (ys.map D.str))
  | _ => False
/-- .. and in order, where no key stands twice -/
def bSortSO : WA := fun ds k => match ds with
  | [.dic false kvs] => ∃ ks : List (List Nat), kvs.map (·.1) = ks.map D.str ∧ ks.length < 64 ∧ ∀ ys : List (List Nat), ys.Perm ks → (ks.Nodup → ys.Pairwise fun a b => sLt a b = true) → k (.lst (ys.map D.str))
  | _ => False
/-- raise c(a), a kept by the error -/
def sRaiseV (c : String) (a : DA G) : DS G := fun ex _ l g => a ex l g fun ds l1 g1 => ds.length = 1 ∧ ex ⟨c, ds⟩ l1 g1
/-- tracks by their own == (neg: by !=) -/
structure wCmpT (neg : Bool) (x y : D) (k : D → Prop) : Prop where
  ex : ∃ a0 a1 a2 b0 b1 b2, x = .obj "Track" [a0, a1, a2] ∧ y = .obj "Track" [b0, b1, b2] ∧ (eqOk a0 b0 ∧ eqOk a1 b1 ∧ eqOk b0 a0 ∧ eqOk b1 a1) ∧ k (.bl ((deq a0 b0 && deq a1 b1) != neg)) ∧ k (.bl ((deq b0 a0 && deq b1 a1) != neg))
/-- isinstance(x, Track) of a track -/
def dIsT (a : DE G) : DE G := fun ex l g Q => a ex l g fun d l1 g1 => (∃ fs, d = .obj "Track" fs) ∧ Q (.bl true) l1 g1
def c_teq : Ct Gm := fun ds g Q _ => ∃ a0 a1 a2 b0 b1 b2, ds = [.obj "Track" [a0, a1, a2], .obj "Track" [b0, b1, b2]] ∧ eqOk a0 b0 ∧ eqOk a1 b1 ∧ Q (.bl (deq a0 b0 && deq a1 b1)) g
theorem l_teq : ∀ ds g q e, c_teq ds g q e → ds.length = 2 := fun _ _ _ _ ⟨_, _, _, _, _, _, h, _⟩ => by rw [h]; rfl
def b_teq : DS Gm := sRet (dAnd (dIsT (dVar 1)) (dAnd (dBin wEq (dUn (wFld ["Track"] 0) (dVar 0)) (dUn (wFld ["Track"] 0) (dVar 1))) (dBin wEq (dUn (wFld ["Track"] 1) (dVar 0)) (dUn (wFld ["Track"] 1) (dVar 1)))))
theorem k_teq : Keeps 2 c_teq b_teq := by
  rintro ds g Q E ⟨a0, a1, a2, b0, b1, b2, rfl, h0, h1, hq⟩
  refine ⟨⟨_, rfl⟩, ?_⟩
  refine ⟨List.mem_singleton.mpr rfl, a0, rfl, List.mem_singleton.mpr rfl, b0, rfl, h0, ?_⟩
  cases e : deq a0 b0 with
  | false =>
    rw [e] at hq
    exact hq
  | true =>
    rw [e, Bool.true_and] at hq
    exact ⟨List.mem_singleton.mpr rfl, a1, rfl, List.mem_singleton.mpr rfl, b1, rfl, h1, hq⟩
/-- a text, twice or more often -/
def wMulS : W2 := fun x y k => match x, y with
  | .str a, .int j => (a ≠ [] ∧ 2 ≤ j ∧ j ≤ 1000 ∧ a.length ≤ 1000) ∧ k (.str (List.replicate j.toNat a).flatten)
  | _, _ => False
/-- list of a text -/
def bListS : WA := fun ds k => match ds with
  | [.str s] => s.length ≤ LIM ∧ k (.lst (s.map fun c => .str [c]))
  | _ => False
/-- d.get(k), d.get(k, x): the dict seen first -/
def dGetV1 (a kx : DE G) : DE G := fun ex l g Q => a ex l g fun d l1 g1 => match d with
  | .dic t kvs => kx ex l1 g1 fun kd l2 g2 => keyK t kd = true ∧ Q ((look kvs kd).getD .non) l2 g2
  | _ => False
def dGetV2 (a kx x : DE G) : DE G := fun ex l g Q => a ex l g fun d l1 g1 => match d with
  | .dic t kvs => kx ex l1 g1 fun kd l2 g2 => x ex l2 g2 fun z l3 g3 => keyK t kd = true ∧ Q ((look kvs kd).getD z) l3 g3
  | _ => False
/-- tuple(range(n)) -/
def dTR1 (a : DE G) : DE G := fun ex l g Q => a ex l g fun d l1 g1 => match d with
  | .int n => -(2 ^ 62) ≤ n ∧ n < 2 ^ 62 ∧ n.toNat ≤ LIM ∧ Q (.tup (rng 0 n.toNat)) l1 g1
  | _ => False
/-- int(a flag) -/
def bIntB : WA := fun ds k => match ds with
  | [.bl b] => k (.int (if b = true then 1 else 0))
  | _ => False
/-- range(m, n, k), k above 0 -/
def rngC (lo c : Int) (n : Nat) : List D := (List.range n).map fun (i : Nat) => D.int (lo + i * c)
def stepN (m n k : Int) : Nat := (if m < n then (n - m - 1) / k + 1 else 0 : Int).toNat
def iR3 (a b c : DE G) : DI G := fun ex l g Q => a ex l g fun d l1 g1 => b ex l1 g1 fun e l2 g2 => c ex l2 g2 fun f l3 g3 => match d, e, f with
  | .int m, .int n, .int k => (0 ≤ m ∧ m < 1099511627776 ∧ 0 ≤ n ∧ n < 1099511627776 ∧ 0 < k ∧ k < 1073741824) ∧ Q (rngC m k (stepN m n k)) l3 g3
  | _, _, _ => False
end
section
theorem strk_n (n : Nat) (as : List Ar) : strk n as n = [] := by
  have : ∀ t, (∃ u, u ≤ t ∧ strk n as u = []) ∨ (lft n (rk n as (t + 1))).length + (t + 1) ≤ n := by
    intro t
    induction t with
    | zero =>
      by_cases h : strk n as 0 = []
      · exact .inl ⟨0, Nat.le_refl _, h⟩
      · right
        have := cnt n as 0
        have := lft_len n (rk n as 0)
        have := List.length_pos_iff.mpr h
        omega
    | succ t ih =>
      rcases ih with ⟨u, hu, h⟩ | ih
      · exact .inl ⟨u, by omega, h⟩
      · by_cases h : strk n as (t + 1) = []
        · exact .inl ⟨t + 1, Nat.le_refl _, h⟩
        · right
          have := cnt n as (t + 1)
          have := List.length_pos_iff.mpr h
          omega
  rcases this n with ⟨u, hu, h⟩ | h
  · exact (stab h n hu).2
  · omega
theorem rk_n {n : Nat} {as : List Ar} {p : Nat} (hp : p < n) : rk n as (n + 1) p = rk n as n p := (stab (strk_n n as) (n + 1) (by omega)).1 p hp
theorem full_n {n : Nat} {as : List Ar} {p : Nat} : p ∈ fullF n as ↔ p < n ∧ rk n as n p = none := by
  unfold fullF
  rw [mem_lft]
  exact and_congr_right fun hp => by rw [rk_n hp]
end
section
variable {G : Type}
/-- [e for t in d if c], d an own dict: its keys, d as it is meanwhile -/
def dCompK (j : Nat) (t : Tg) (c : DT G) (e : DE G) (vs : List Nat) : DE G := fun ex l g Q => getO l j fun d => match d with
  | .dic false kvs => j ∉ vs ∧ dComp (fun _ l g Q => Q (kvs.map (·.1)) l g) t c e vs ex (l.set j .no) g fun d' _ g1 => Q d' l g1
  | _ => False
/-- list(d.values()) -/
def dListV (a : DE G) : DE G := fun ex l g Q => a ex l g fun d l1 g1 => match d with
  | .dic false kvs => Q (.lst (kvs.map (·.2))) l1 g1
  | _ => False
end
/-- a track is equal to itself -/
theorem cmpT_same {neg : Bool} {n : Nat} {as : List Ar} (ok : TrkOk n as) {k : D → Prop} (h : k (.bl (true != neg))) : wCmpT neg (trk n as) (trk n as) k := by
  have hp : pla (.tup (as.map arD)) = true := by
    rw [pla]
    refine plas_of _ fun d hd => ?_
    obtain ⟨a, ha, rfl⟩ := List.mem_map.mp hd
    exact arD_pla (by have := ok.ok a ha; omega)
  have hd : dep (.tup (as.map arD)) ≤ 60 := by
    have : deps (as.map arD) ≤ 1 := deps_of _ 1 fun d hd => by
      obtain ⟨a, ha, rfl⟩ := List.mem_map.mp hd
      simp [arD, dep, deps]
    show deps (as.map arD) + 1 ≤ 60
    omega
  have h1 : deq (.int (n : Nat)) (.int (n : Nat)) = true := by simp [deq]
  have h2 := deq_self _ hp
  exact ⟨_, _, _, _, _, _, rfl, rfl, ⟨eqOk_int _ _, ⟨hp, hp, hd, hd⟩, eqOk_int _ _, ⟨hp, hp, hd, hd⟩⟩, by rw [h1, h2]; exact h, by rw [h1, h2]; exact h⟩
end Dx

set_option autoImplicit false
set_option linter.all false
set_option Elab.async false
set_option maxRecDepth 100000
set_option maxHeartbeats 2000000
/-! repr(x), x plain data or an empty dict: a text by the data -/
namespace Dx
mutual
def toQ : D → PySem.PyData
  | .bl b => .bool b
  | .int i => .int i
  | .str s => .str ⟨s.toArray⟩
  | .tup xs => .tuple (toQs xs)
  | .lst xs => .list (toQs xs)
  | .dic _ _ => .dict []
  | _ => .none
def toQs : List D → List PySem.PyData
  | [] => []
  | x :: xs => toQ x :: toQs xs
end
mutual
def shw : D → Bool
  | .non => true
  | .bl _ => true
  | .int i => decide (i.natAbs < 10 ^ 200)
  | .str s => s.all fun c => decide (c < 128)
  | .tup xs => shws xs
  | .lst xs => shws xs
  | .dic _ kvs => kvs.isEmpty
  | _ => false
def shws : List D → Bool
  | [] => true
  | x :: xs => shw x && shws xs
end
mutual
def bnd : D → Nat
  | .int _ => 201
  | .str s => 10 * s.length + 2
  | .tup xs => bnds xs + 4
  | .lst xs => bnds xs + 4
  | _ => 5
def bnds : List D → Nat
  | [] => 0
  | x :: xs => bnd x + 2 + bnds xs
end
mutual
def dpt : D → Nat
  | .tup xs => dpts xs + 1
  | .lst xs => dpts xs + 1
  | .dic _ _ => 1
  | _ => 0
def dpts : List D → Nat
  | [] => 0
  | x :: xs => max (dpt x) (dpts xs)
end
/-- its text -/
theorem rpr_ex : ∃ f : D → List Nat, ∀ d, f d = (toQ d).shown.cps.toList := ⟨_, fun _ => rfl⟩
noncomputable def rpr : D → List Nat := Classical.choose rpr_ex
theorem rpr_eq (d : D) : rpr d = (toQ d).shown.cps.toList := Classical.choose_spec rpr_ex d
def bRepr : WA := fun ds k => match ds with
  | [d] => (shw d = true ∧ bnd d ≤ 15000000 ∧ dpt d ≤ 100) ∧ k (.str (rpr d))
  | _ => False
/-- f(x, .., d, ..): names; the own dict at i is lent meanwhile -/
def getA (l : L) (j : Nat) : Option D := match l[j]? with
  | some (.va d) => some d
  | some (.ow d) => some d
  | _ => none
def getAs (l : L) : List Nat → Option (List D)
  | [] => some []
  | j :: js => match getA l j, getAs l js with
    | some d, some ds => some (d :: ds)
    | _, _ => none
def isVa (l : L) (j : Nat) : Prop := match l[j]? with
  | some (.va _) => True
  | _ => False
def dCallN {G : Type} (c : Ct G) (js : List Nat) (i : Nat) : DE G := fun _ l g Q => getO l i fun d0 => match d0 with
  | .dic _ _ => ∃ ds, getAs l js = some ds ∧ (∀ j ∈ js, j = i ∨ isVa l j) ∧ c ds g (fun d g1 => pla d = true ∧ Q d l g1) fun _ _ => False
  | _ => False
/-- t[::-1] of a tuple -/
def dRevT {G : Type} (a : DE G) : DE G := fun ex l g Q => a ex l g fun x l1 g1 => match x with
  | .tup xs => Q (.tup xs.reverse) l1 g1
  | _ => False
/-- x != y, two texts -/
def wNeS : W2 := fun x y k => match x, y with
  | .str a, .str b => k (.bl (!decide (a = b)))
  | _, _ => False
end Dx

set_option autoImplicit false
set_option linter.all false
set_option Elab.async false
set_option maxRecDepth 100000
set_option maxHeartbeats 2000000
/-! Lk: what the data are in the heap, and the rules that carry the readings of Dx over the layer. -/
namespace Lk
open PySem PySem.Spec PyProof.Rows L2 Dx

abbrev Fg := PySem.W.Frag
def clsA (K : Fg) (c : String) : Addr := match PySem.W.nsIn K mainGlobals (Str.ofString c) with
  | some (some (.ref a)) => a
  | _ => 0
def kD : Key → D
  | .inl i => .int i
  | .inr x => .str x.cps.toList
/-- the fields of the classes, in the order in which they are stored -/
def flds (c : String) : List Str :=
  if c = "Track" then ["places", "arrows", "kept_arrows"] else if c = "RawTrack" then ["places", "arrows", "kept_arrows"] else if c = "TooMany" ∨ c = "TooLong" then ["most"] else if c = "BadTrack" then ["part"] else if c = "BadStake" ∨ c = "BadLetter" then ["row"] else if c = "TooFew" then ["least"] else if c = "BadText" then ["line"] else if c = "NoName" then ["name"] else []
/-- the text's own == of tracks -/
def eqA (K : Fg) : Addr := match PySem.W.findIn K (.ref (clsA K "Track")) "__eq__" with
  | some (some (.ref a)) => a
  | _ => 0
/-- a thing of the class is no built-in thing; it is a track, and compared as one -/
structure IsiOk (K : Fg) (C : Addr) : Prop where
  ca : PySem.W.findIn K (.ref C) "__class__" = some (some (.builtin "object.__class__"))
  cg : PySem.W.specialIn K (.builtin "object.__class__") "__get__" = some (some (.builtin "getset_descriptor.__get__"))
  ct : PySem.W.takesIn K (.builtin "object.__class__") = some true
  cm : PySem.W.mroIn K C (.type "object") = some true
  no : ∀ n ∈ ["int", "bool", "str", "list", "tuple", "dict"], PySem.W.kitOne K (.ref C) (.type n) = some false
  eqf : PySem.W.findIn K (.ref C) "__eq__" = some (some (.ref (eqA K)))
  nef : PySem.W.findIn K (.ref C) "__ne__" = some (some (.builtin "object.__ne__"))
  own : PySem.W.kitOne K (.ref C) (.ref (clsA K "Track")) = some true
  isf : PySem.W.isFn K (.ref (eqA K)) = true
/-- a class whose objects read as those of c -/
def Kin (K : Fg) (cls : Addr) (c : String) : Prop := Cls K cls ∧ (∀ fn ∈ flds c, NoAttr K cls fn) ∧ IsiOk K cls
/-- a tuple of the written part -/
def KT (K : Fg) (a : Addr) (xs : List V) : Prop := ∃ (o : Obj) (its : Array Value) (n : Nat), K.lookup a = some o ∧ o.cls = .type "tuple" ∧ o.data = .seq its n ∧ its.size ≤ sizeLine ∧ Vals xs its.toList
theorem KT.sqt {K : Fg} {a : Addr} {xs : List V} (h : KT K a xs) (H : Hp) : SqT K H a xs := .inr h
mutual
inductive Rep (K : Fg) (R : Hp) : V → D → Prop
  | non : Rep K R .non .non
  | bl (b : Bool) : Rep K R (.bl b) (.bl b)
  | int (i : Int) : Rep K R (.int i) (.int i)
  | str (x : Str) : Rep K R (.str x) (.str x.cps.toList)
  | ref (a : Addr) : Rep K R (.ref a) (.ref a)
  | ty (n : String) : Rep K R (.ty n) (.ty n)
  | tup {a : Addr} {vs : List V} {ds : List D} : R a = some (.tup vs) → Reps K R vs ds → Rep K R (.ref a) (.tup ds)
  | kt {a : Addr} {vs : List V} {ds : List D} : KT K a vs → Reps K R vs ds → Rep K R (.ref a) (.kt ds)
  | lst {a : Addr} {vs : List V} {ds : List D} : R a = some (.lst vs) → Reps K R vs ds → Rep K R (.ref a) (.lst ds)
  | dic {a : Addr} {kvs : List (Key × V)} {ds : List (D × D)} : R a = some (.dK kvs) → RepK K R kvs ds → Rep K R (.ref a) (.dic false ds)
  | diT {a : Addr} {kvs : List (List Key × V)} {ds : List (D × D)} : R a = some (.dT kvs) → RepT K R kvs ds → Rep K R (.ref a) (.dic true ds)
  | obj {a dx cls : Addr} {c : String} {fs : List (Str × V)} {ds : List D} : R a = some (.ins cls dx fs) → Kin K cls c → RepF K R fs (flds c) ds → Rep K R (.ref a) (.obj c ds)
  | exc (a : Addr) (c : String) : Rep K R (.ref a) (.exc a none c [])
  | exf {a dd : Addr} {c : String} {fs : List (Str × V)} {ds : List D} : ds ≠ [] → R dd = some (.xd fs) → RepF K R fs (flds c) ds → Rep K R (.ref a) (.exc a (some dd) c ds)
inductive Reps (K : Fg) (R : Hp) : List V → List D → Prop
  | nil : Reps K R [] []
  | cons {v : V} {vs : List V} {d : D} {ds : List D} : Rep K R v d → Reps K R vs ds → Reps K R (v :: vs) (d :: ds)
inductive RepK (K : Fg) (R : Hp) : List (Key × V) → List (D × D) → Prop
  | nil : RepK K R [] []
  | cons {k : Key} {v : V} {vs : List (Key × V)} {d : D} {ds : List (D × D)} : Rep K R v d → RepK K R vs ds → RepK K R ((k, v) :: vs) ((kD k, d) :: ds)
inductive RepT (K : Fg) (R : Hp) : List (List Key × V) → List (D × D) → Prop
  | nil : RepT K R [] []
  | cons {k : List Key} {v : V} {vs : List (List Key × V)} {d : D} {ds : List (D × D)} : Rep K R v d → RepT K R vs ds → RepT K R ((k, v) :: vs) ((.tup (k.map kD), d) :: ds)
inductive RepF (K : Fg) (R : Hp) : List (Str × V) → List Str → List D → Prop
  | nil : RepF K R [] [] []
  | cons {n : Str} {ns : List Str} {v : V} {vs : List (Str × V)} {d : D} {ds : List D} : Rep K R v d → RepF K R vs ns ds → RepF K R ((n, v) :: vs) (n :: ns) (d :: ds)
end

def Sub (R H : Hp) : Prop := ∀ a o, R a = some o → H a = some o
theorem Sub.refl (R : Hp) : Sub R R := fun _ _ e => e
theorem Sub.trans {R H T : Hp} (h : Sub R H) (k : Sub H T) : Sub R T := fun a o e => k a o (h a o e)
theorem Sub.no0 {R H : Hp} (h : Sub R H) {a : Addr} (e : H a = none) : R a = none := by
  cases q : R a with
  | none => rfl
  | some o => rw [h a o q] at e; cases e
theorem Sub.new {H : Hp} {p : Addr} {o : HO} (h : H p = none) : Sub H (upd H p o) := fun a u e => by
  rw [upd_ne (ne_of_none e h)]
  exact e
theorem Sub.upd2 {R H : Hp} {p : Addr} {o : HO} (s : Sub R H) : Sub (upd R p o) (upd H p o) := fun a u e => by
  by_cases h : a = p
  · subst h; rw [upd_same] at e ⊢; exact e
  · rw [upd_ne h] at e ⊢; exact s a u e
theorem Sub.rd {R H : Hp} (s : Sub R H) {a : Addr} {u : HO} (h : Rd R a u) : Rd H a u := by
  rcases h with h | ⟨o, h⟩
  · exact .inl (s a _ h)
  · exact .inr ⟨o, s a _ h⟩
theorem Sub.sqt {K : Fg} {R H : Hp} (s : Sub R H) {a : Addr} {vs : List V} (h : SqT K R a vs) : SqT K H a vs := by
  rcases h with h | h
  · exact .inl (s.rd h)
  · exact .inr h
theorem Sub.sql {K : Fg} {R H : Hp} (s : Sub R H) {a : Addr} {vs : List V} (h : SqL K R a vs) : SqL K H a vs := by
  rcases h with h | h
  · exact .inl (s.rd h)
  · exact .inr h

mutual
theorem Rep.mono {K : Fg} {R T : Hp} (s : Sub R T) : ∀ {v : V} {d : D}, Rep K R v d → Rep K T v d
  | _, _, .non => .non
  | _, _, .bl b => .bl b
  | _, _, .int i => .int i
  | _, _, .str x => .str x
  | _, _, .ref a => .ref a
  | _, _, .ty n => .ty n
  | _, _, .tup h q => .tup (s _ _ h) (Reps.mono s q)
  | _, _, .kt h q => .kt h (Reps.mono s q)
  | _, _, .lst h q => .lst (s _ _ h) (Reps.mono s q)
  | _, _, .dic h q => .dic (s _ _ h) (RepK.mono s q)
  | _, _, .diT h q => .diT (s _ _ h) (RepT.mono s q)
  | _, _, .obj h kn q => .obj (s _ _ h) kn (RepF.mono s q)
  | _, _, .exc a c => .exc a c
  | _, _, .exf n h q => .exf n (s _ _ h) (RepF.mono s q)
theorem Reps.mono {K : Fg} {R T : Hp} (s : Sub R T) : ∀ {v : List V} {d : List D}, Reps K R v d → Reps K T v d
  | _, _, .nil => .nil
  | _, _, .cons h q => .cons (Rep.mono s h) (Reps.mono s q)
theorem RepK.mono {K : Fg} {R T : Hp} (s : Sub R T) : ∀ {v : List (Key × V)} {d : List (D × D)}, RepK K R v d → RepK K T v d
  | _, _, .nil => .nil
  | _, _, .cons h q => .cons (Rep.mono s h) (RepK.mono s q)
theorem RepT.mono {K : Fg} {R T : Hp} (s : Sub R T) : ∀ {v : List (List Key × V)} {d : List (D × D)}, RepT K R v d → RepT K T v d
  | _, _, .nil => .nil
  | _, _, .cons h q => .cons (Rep.mono s h) (RepT.mono s q)
theorem RepF.mono {K : Fg} {R T : Hp} (s : Sub R T) : ∀ {v : List (Str × V)} {n : List Str} {d : List D}, RepF K R v n d → RepF K T v n d
  | _, _, _, .nil => .nil
  | _, _, _, .cons h q => .cons (Rep.mono s h) (RepF.mono s q)
end
section
variable {K : Fg} {R : Hp}
theorem Reps.length : ∀ {vs : List V} {ds : List D}, Reps K R vs ds → vs.length = ds.length
  | _, _, .nil => rfl
  | _, _, .cons _ q => congrArg Nat.succ q.length
theorem RepK.length : ∀ {vs : List (Key × V)} {ds : List (D × D)}, RepK K R vs ds → vs.length = ds.length
  | _, _, .nil => rfl
  | _, _, .cons _ q => congrArg Nat.succ q.length
theorem RepT.length : ∀ {vs : List (List Key × V)} {ds : List (D × D)}, RepT K R vs ds → vs.length = ds.length
  | _, _, .nil => rfl
  | _, _, .cons _ q => congrArg Nat.succ q.length
theorem Reps.app : ∀ {vs ws : List V} {ds es : List D}, Reps K R vs ds → Reps K R ws es → Reps K R (vs ++ ws) (ds ++ es)
  | _, _, _, _, .nil, h => h
  | _, _, _, _, .cons a q, h => .cons a (q.app h)
theorem Reps.one {v : V} {d : D} (h : Rep K R v d) : Reps K R [v] [d] := .cons h .nil
theorem Reps.get : ∀ {vs : List V} {ds : List D} {i : Nat} {d : D}, Reps K R vs ds → ds[i]? = some d → ∃ v, vs[i]? = some v ∧ Rep K R v d
  | _, _, _, _, .nil, e => by simp at e
  | _, _, 0, _, .cons h _, e => by simp at e; subst e; exact ⟨_, rfl, h⟩
  | _, _, i + 1, _, .cons _ q, e => by
    obtain ⟨v, h1, h2⟩ := q.get (i := i) (by simpa using e)
    exact ⟨v, by simpa using h1, h2⟩
theorem Reps.getV : ∀ {vs : List V} {ds : List D} {i : Nat} {v : V}, Reps K R vs ds → vs[i]? = some v → ∃ d, ds[i]? = some d ∧ Rep K R v d
  | _, _, _, _, .nil, e => by simp at e
  | _, _, 0, _, .cons h _, e => by simp at e; subst e; exact ⟨_, rfl, h⟩
  | _, _, i + 1, _, .cons _ q, e => by
    obtain ⟨v, h1, h2⟩ := q.getV (i := i) (by simpa using e)
    exact ⟨v, by simpa using h1, h2⟩
theorem Reps.set : ∀ {vs : List V} {ds : List D} {v : V} {d : D} (i : Nat), Reps K R vs ds → Rep K R v d → Reps K R (vs.set i v) (ds.set i d)
  | _, _, _, _, _, .nil, _ => .nil
  | _, _, _, _, 0, .cons _ q, h => .cons h q
  | _, _, _, _, i + 1, .cons a q, h => .cons a (q.set i h)
theorem RepF.look : ∀ {vs : List (Str × V)} {ns : List Str} {ds : List D} {j : Nat} {n : Str} {d : D}, RepF K R vs ns ds → ns.Nodup → ns[j]? = some n → ds[j]? = some d → ∃ v, vs.lookup n = some v ∧ Rep K R v d
  | _, _, _, _, _, _, .nil, _, e, _ => by simp at e
  | _, _, _, 0, _, _, .cons (n := m) h q, nd, e, e2 => by
    simp at e e2
    subst e e2
    exact ⟨_, by rw [List.lookup_cons]; simp, h⟩
  | _, _, _, j + 1, n, _, .cons (n := m) (ns := ns) h q, nd, e, e2 => by
    obtain ⟨n1, n2⟩ := List.nodup_cons.mp nd
    have e' : ns[j]? = some n := by simpa using e
    obtain ⟨v, h1, h2⟩ := q.look n2 e' (by simpa using e2)
    refine ⟨v, ?_, h2⟩
    rw [List.lookup_cons]
    have hb : (n == m) = false := beq_eq_false_iff_ne.mpr fun z => n1 (z ▸ List.mem_of_getElem? e')
    rw [hb]
    exact h1
/-- ints and nothing else -/
theorem Reps.ints : ∀ {vs : List V} {ns : List Int}, Reps K R vs (ns.map .int) → vs = ns.map .int
  | _, [], h => by cases h; rfl
  | _, n :: ns, h => by
    cases h with
    | cons a q => cases a; rw [q.ints]; rfl
theorem Reps.bls : ∀ {vs : List V} {ns : List Bool}, Reps K R vs (ns.map .bl) → vs = ns.map .bl
  | _, [], h => by cases h; rfl
  | _, n :: ns, h => by
    cases h with
    | cons a q => cases a; rw [q.bls]; rfl
end

/-! ### the world behind the readings -/
/-- what else may change meanwhile, and where -/
structure GInt (G : Type) where
  at_ : G → Hp → Prop
  fp : G → Addr → Prop
  there : ∀ g H a, at_ g H → fp g a → H a ≠ none
  stay : ∀ g H H', at_ g H → (∀ a, fp g a → H' a = H a) → at_ g H'
def OwnAt (K : Fg) (R H : Hp) (a : Addr) : D → Prop
  | .lst ds => ∃ vs, H a = some (.lst vs) ∧ Reps K R vs ds
  | .dic false ds => ∃ kvs, H a = some (.dK kvs) ∧ RepK K R kvs ds
  | .dic true ds => ∃ kvs, H a = some (.dT kvs) ∧ RepT K R kvs ds
  | _ => False
theorem OwnAt.ne {K : Fg} {R H : Hp} {a : Addr} {d : D} (h : OwnAt K R H a d) : H a ≠ none := by
  cases d with
  | lst ds => obtain ⟨_, e, _⟩ := h; rw [e]; simp
  | dic t ds => cases t <;> (obtain ⟨_, e, _⟩ := h; rw [e]; simp)
  | _ => exact h.elim
theorem OwnAt.mono {K : Fg} {R R' H H' : Hp} {a : Addr} {d : D} (h : OwnAt K R H a d) (s : Sub R R') (e : H' a = H a) : OwnAt K R' H' a d := by
  cases d with
  | lst ds => obtain ⟨v, q, r⟩ := h; exact ⟨v, e.trans q, r.mono s⟩
  | dic t ds => cases t <;> (obtain ⟨v, q, r⟩ := h; exact ⟨v, e.trans q, r.mono s⟩)
  | _ => exact h.elim
structure Fx where
  Hc : Hp
  R0 : Hp
structure Rel {G : Type} (K : Fg) (Γ : GInt G) (C : Fx) (l : L) (g : G) (σ : L2.St) (R H : Hp) : Prop where
  len : l.length = σ.length
  sub : Sub R H
  keep : Sub C.Hc H
  rnew : ∀ a, R a ≠ none → C.R0 a ≠ none ∨ C.Hc a = none
  gat : Γ.at_ g H
  gfr : ∀ a, Γ.fp g a → R a = none ∧ C.Hc a = none
  va : ∀ (i : Nat) d, l[i]? = some (.va d) → ∃ v, σ[i]? = some (some v) ∧ Rep K R v d
  ow : ∀ (i : Nat) d, l[i]? = some (.ow d) → ∃ a, σ[i]? = some (some (.ref a)) ∧ OwnAt K R H a d ∧ R a = none ∧ C.Hc a = none ∧ ¬ Γ.fp g a
  sep : ∀ (i j : Nat) d e a, i ≠ j → l[i]? = some (.ow d) → l[j]? = some (.ow e) → σ[i]? = some (some (.ref a)) → σ[j]? ≠ some (some (.ref a))
/-- an exception's data -/
def XRep (K : Fg) (R H : Hp) (cls : Value) (dx : Option Addr) (x : Xn) : Prop :=
  cls = .ref (clsA K x.c) ∧ ∀ a, Rep K R (.ref a) (.exc a dx x.c x.fs)

section
variable {G : Type} (K : Fg) (Γ : GInt G)
def XTo (C : Fx) (R : Hp) (ex : XW G) (P : Value → Option Addr → Hp → Prop) (σ : L2.St) : Prop :=
  ∀ cls dx H' R' x l' g', Sub R R' → Rel K Γ C l' g' σ R' H' → XRep K R' H' cls dx x → ex x l' g' → P cls dx H'
def liftE (W : WX) (f : DE G) : TE := fun σ H Q => ∃ (C : Fx) (l : L) (g : G) (R : Hp) (ex : XW G) (q : D → L → G → Prop), Rel K Γ C l g σ R H ∧ f ex l g q ∧
  (∀ v H' R' d l' g', Sub R R' → Rel K Γ C l' g' σ R' H' → Rep K R' v d → q d l' g' → Q v H') ∧ XTo K Γ C R ex (fun c d H' => W c d σ H') σ
def liftT (W : WX) (f : DT G) : TT := fun σ H Q => ∃ (C : Fx) (l : L) (g : G) (R : Hp) (ex : XW G) (q : Bool → L → G → Prop), Rel K Γ C l g σ R H ∧ f ex l g q ∧
  (∀ H' R' b l' g', Sub R R' → Rel K Γ C l' g' σ R' H' → q b l' g' → Q b H') ∧ XTo K Γ C R ex (fun c d H' => W c d σ H') σ
def liftA (W : WX) (f : DA G) : TA := fun σ H Q => ∃ (C : Fx) (l : L) (g : G) (R : Hp) (ex : XW G) (q : List D → L → G → Prop), Rel K Γ C l g σ R H ∧ f ex l g q ∧
  (∀ vs H' R' ds l' g', Sub R R' → Rel K Γ C l' g' σ R' H' → Reps K R' vs ds → q ds l' g' → Q vs H') ∧ XTo K Γ C R ex (fun c d H' => W c d σ H') σ
/-- no own name's -/
def Apart (l : L) (σ : L2.St) (a : Addr) : Prop := ∀ (i : Nat) d, l[i]? = some (.ow d) → σ[i]? ≠ some (some (.ref a))
def liftF (W : WX) (f : DE G) : TE := fun σ H Q => ∃ (C : Fx) (l : L) (g : G) (R : Hp) (ex : XW G) (q : D → L → G → Prop), Rel K Γ C l g σ R H ∧ f ex l g q ∧
  (∀ a H' R' d l' g', Sub R R' → Rel K Γ C l' g' σ R' H' → OwnAt K R' H' a d → R' a = none → C.Hc a = none → ¬ Γ.fp g' a → Apart l' σ a → q d l' g' → Q (.ref a) H') ∧ XTo K Γ C R ex (fun c d H' => W c d σ H') σ
/-- a new thing that nobody holds -/
def NewAt (C : Fx) (g : G) (R H : Hp) (v : V) (d : D) : Prop := ∃ a, v = .ref a ∧ OwnAt K R H a d ∧ R a = none ∧ C.Hc a = none ∧ ¬ Γ.fp g a
def liftS (W : WX) (b : DS G) : TS := fun D σ H => ∃ (C : Fx) (l : L) (g : G) (R : Hp) (ex : XW G) (E : En G), Rel K Γ C l g σ R H ∧ b ex E l g ∧
  (∀ σ' H' R' l' g', Sub R R' → Rel K Γ C l' g' σ' R' H' → E.nx l' g' → D.nx σ' H') ∧
  (∀ v σ' H' R' d l' g', Sub R R' → Rel K Γ C l' g' σ' R' H' → ((Rep K R' v d ∧ E.rt d l' g') ∨ (NewAt K Γ C g' R' H' v d ∧ E.rf d l' g')) → D.rt v H') ∧
  (∀ σ' H' R' l' g', Sub R R' → Rel K Γ C l' g' σ' R' H' → E.bk l' g' → D.bk σ' H') ∧
  (∀ σ' H' R' l' g', Sub R R' → Rel K Γ C l' g' σ' R' H' → E.ct l' g' → D.ct σ' H') ∧ ∀ σ', XTo K Γ C R ex (fun c d H' => W c d σ' H') σ'
/-- a def's promise over the heap -/
def liftC (c : Ct G) : Sp := fun vs H Q E => ∃ (ds : List D) (R : Hp) (g : G) (q : D → G → Prop) (e : Xn → G → Prop), Reps K R vs ds ∧ Sub R H ∧ Γ.at_ g H ∧ (∀ a, Γ.fp g a → R a = none) ∧ c ds g q e ∧
  (∀ v H' R' d g', Sub R R' → Sub R' H' → (∀ a o, ¬ Γ.fp g a → H a = some o → H' a = some o) → (∀ a, R' a ≠ none → R a ≠ none ∨ Γ.fp g a ∨ H a = none) → Γ.at_ g' H' →
    (∀ a, Γ.fp g' a → R' a = none ∧ (Γ.fp g a ∨ H a = none)) → Rep K R' v d → q d g' → Q v H') ∧
  (∀ cls dx H' R' x g', Sub R R' → Sub R' H' → (∀ a o, ¬ Γ.fp g a → H a = some o → H' a = some o) → (∀ a, R' a ≠ none → R a ≠ none ∨ Γ.fp g a ∨ H a = none) → Γ.at_ g' H' →
    (∀ a, Γ.fp g' a → R' a = none ∧ (Γ.fp g a ∨ H a = none)) → XRep K R' H' cls dx x → e x g' → E cls dx H')
/-- .. of a def that hands out a new thing -/
def liftCF (c : Ct G) : Sp := fun vs H Q E => ∃ (ds : List D) (R : Hp) (g : G) (q : D → G → Prop) (e : Xn → G → Prop), Reps K R vs ds ∧ Sub R H ∧ Γ.at_ g H ∧ (∀ a, Γ.fp g a → R a = none) ∧ c ds g q e ∧
  (∀ a H' R' d g', Sub R R' → Sub R' H' → (∀ a o, ¬ Γ.fp g a → H a = some o → H' a = some o) → (∀ a, R' a ≠ none → R a ≠ none ∨ Γ.fp g a ∨ H a = none) → Γ.at_ g' H' →
    (∀ a, Γ.fp g' a → R' a = none ∧ (Γ.fp g a ∨ H a = none)) → OwnAt K R' H' a d → R' a = none → (Γ.fp g a ∨ H a = none) → ¬ Γ.fp g' a → q d g' → Q (.ref a) H') ∧
  (∀ cls dx H' R' x g', Sub R R' → Sub R' H' → (∀ a o, ¬ Γ.fp g a → H a = some o → H' a = some o) → (∀ a, R' a ≠ none → R a ≠ none ∨ Γ.fp g a ∨ H a = none) → Γ.at_ g' H' →
    (∀ a, Γ.fp g' a → R' a = none ∧ (Γ.fp g a ∨ H a = none)) → XRep K R' H' cls dx x → e x g' → E cls dx H')
variable {K Γ}
theorem XTo.mono {C : Fx} {R R1 : Hp} {ex : XW G} {P : Value → Option Addr → Hp → Prop} {σ : L2.St} (h : XTo K Γ C R ex P σ) (s : Sub R R1) : XTo K Γ C R1 ex P σ :=
  fun cls dx H' R' x l' g' s' => h cls dx H' R' x l' g' (s.trans s')
end
theorem _root_.L2.PE.imp {X : Cx} {e : Expr} {t u : TE} (h : PE X e t) (k : ∀ σ H Q, u σ H Q → t σ H Q) : PE X e u := ⟨fun pins s σ H Q I q => h.run pins s σ H Q I (k σ H Q q)⟩
theorem _root_.L2.PT.imp {X : Cx} {e : Expr} {t u : TT} (h : PT X e t) (k : ∀ σ H Q, u σ H Q → t σ H Q) : PT X e u := ⟨fun pins s σ H Q I q => h.run pins s σ H Q I (k σ H Q q)⟩
theorem _root_.L2.PW.imp {X : Cx} {e : Expr} {t u : TT} (h : PW X e t) (k : ∀ σ H Q, u σ H Q → t σ H Q) : PW X e u := ⟨fun w pins s σ H Q I q => h.run w pins s σ H Q I (k σ H Q q)⟩
theorem _root_.L2.PA.imp {X : Cx} {e : List Expr} {t u : TA} (h : PA X e t) (k : ∀ σ H Q, u σ H Q → t σ H Q) : PA X e u := ⟨fun p pins s σ H Q I q => h.run p pins s σ H Q I (k σ H Q q)⟩
theorem _root_.L2.PS.imp {X : Cx} {e : Stmt} {t u : TS} (h : PS X e t) (k : ∀ D σ H, u D σ H → t D σ H) : PS X e u := ⟨fun pins s σ H D I q => h.run pins s σ H D I (k D σ H q)⟩
theorem _root_.L2.PSs.imp {X : Cx} {e : List Stmt} {t u : TS} (h : PSs X e t) (k : ∀ D σ H, u D σ H → t D σ H) : PSs X e u := ⟨fun pins s σ H D I q => h.run pins s σ H D I (k D σ H q)⟩

/-! ### moves of the relation -/
section
variable {G : Type} {K : Fg} {Γ : GInt G} {C : Fx} {l : L} {g : G} {σ : L2.St} {R H : Hp}
/-- a new thing is laid and stays -/
theorem Rel.laid (r : Rel K Γ C l g σ R H) {p : Addr} {o : HO} (n : H p = none) : Rel K Γ C l g σ (upd R p o) (upd H p o) := by
  have nR : R p = none := r.sub.no0 n
  have nC : C.Hc p = none := r.keep.no0 n
  have nf : ¬ Γ.fp g p := fun z => Γ.there g H p r.gat z n
  refine ⟨r.len, r.sub.upd2, r.keep.trans (Sub.new n), fun a e => ?_, Γ.stay g H _ r.gat fun a ha => upd_ne fun z => nf (z ▸ ha), fun a ha => ?_, fun i d e => ?_, fun i d e => ?_, r.sep⟩
  · by_cases h : a = p
    · subst h; exact .inr nC
    · rw [upd_ne h] at e; exact r.rnew a e
  · have h : a ≠ p := fun z => nf (z ▸ ha)
    rw [upd_ne h]
    exact r.gfr a ha
  · obtain ⟨v, e1, q⟩ := r.va i d e
    exact ⟨v, e1, q.mono (Sub.new nR)⟩
  · obtain ⟨a, e1, q, n1, n2, n3⟩ := r.ow i d e
    have h : a ≠ p := fun z => q.ne (z ▸ n)
    exact ⟨a, e1, q.mono (Sub.new nR) (upd_ne h), by rw [upd_ne h]; exact n1, n2, n3⟩
/-- a new thing is laid, not yet said to stay -/
theorem Rel.laidF (r : Rel K Γ C l g σ R H) {p : Addr} {o : HO} (n : H p = none) : Rel K Γ C l g σ R (upd H p o) := by
  have nf : ¬ Γ.fp g p := fun z => Γ.there g H p r.gat z n
  refine ⟨r.len, r.sub.trans (Sub.new n), r.keep.trans (Sub.new n), r.rnew, Γ.stay g H _ r.gat fun a ha => upd_ne fun z => nf (z ▸ ha), r.gfr, r.va, fun i d e => ?_, r.sep⟩
  obtain ⟨a, e1, q, n1, n2, n3⟩ := r.ow i d e
  have h : a ≠ p := fun z => q.ne (z ▸ n)
  exact ⟨a, e1, q.mono (Sub.refl R) (upd_ne h), n1, n2, n3⟩
theorem Rel.newF (r : Rel K Γ C l g σ R H) {p : Addr} (n : H p = none) : R p = none ∧ C.Hc p = none ∧ ¬ Γ.fp g p ∧ Apart l σ p :=
  ⟨r.sub.no0 n, r.keep.no0 n, fun z => Γ.there g H p r.gat z n, fun i d e z => by
    obtain ⟨a, e1, q, _⟩ := r.ow i d e
    rw [z] at e1
    cases e1
    exact q.ne n⟩
/-- a fresh thing is let stay -/
theorem Rel.frz (r : Rel K Γ C l g σ R H) {a : Addr} {o : HO} (h : H a = some o) (n : R a = none) (nC : C.Hc a = none) (nf : ¬ Γ.fp g a) (ap : Apart l σ a) : Rel K Γ C l g σ (upd R a o) H := by
  have s : Sub R (upd R a o) := Sub.new n
  refine ⟨r.len, fun b u e => ?_, r.keep, fun b e => ?_, r.gat, fun b hb => ?_, fun i d e => ?_, fun i d e => ?_, r.sep⟩
  · by_cases z : b = a
    · subst z; rw [upd_same] at e; cases e; exact h
    · rw [upd_ne z] at e; exact r.sub b u e
  · by_cases z : b = a
    · subst z; exact .inr nC
    · rw [upd_ne z] at e; exact r.rnew b e
  · have z : b ≠ a := fun z => nf (z ▸ hb)
    rw [upd_ne z]
    exact r.gfr b hb
  · obtain ⟨v, e1, q⟩ := r.va i d e
    exact ⟨v, e1, q.mono s⟩
  · obtain ⟨b, e1, q, n1, n2, n3⟩ := r.ow i d e
    have z : b ≠ a := fun z => ap i d e (by rw [e1, z])
    exact ⟨b, e1, q.mono s rfl, by rw [upd_ne z]; exact n1, n2, n3⟩
theorem OwnAt.rep {a : Addr} {d : D} (q : OwnAt K R H a d) : ∃ o, H a = some o ∧ (R a = none → Rep K (upd R a o) (.ref a) d) := by
  cases d with
  | lst ds =>
    obtain ⟨vs, e, r⟩ := q
    exact ⟨_, e, fun n => .lst upd_same (r.mono (Sub.new n))⟩
  | dic t ds =>
    cases t with
    | false =>
      obtain ⟨kvs, e, r⟩ := q
      exact ⟨_, e, fun n => .dic upd_same (r.mono (Sub.new n))⟩
    | true =>
      obtain ⟨kvs, e, r⟩ := q
      exact ⟨_, e, fun n => .diT upd_same (r.mono (Sub.new n))⟩
  | _ => exact q.elim
/-- a name gets a value that stays -/
theorem Rel.setV (r : Rel K Γ C l g σ R H) {i : Nat} {v : V} {d : D} (q : Rep K R v d) : Rel K Γ C (l.set i (.va d)) g (σ.set i (some v)) R H := by
  refine ⟨by rw [List.length_set, List.length_set]; exact r.len, r.sub, r.keep, r.rnew, r.gat, r.gfr, fun j e h => ?_, fun j e h => ?_, fun j k d' e' a ne h1 h2 h3 => ?_⟩
  · by_cases z : i = j
    · subst z
      rw [List.getElem?_set] at h ⊢
      simp only [if_true] at h ⊢
      split at h
      · cases h
        exact ⟨v, by rw [if_pos (by rw [← r.len]; assumption)], q⟩
      · cases h
    · rw [List.getElem?_set_ne z] at h ⊢
      exact r.va j e h
  · by_cases z : i = j
    · subst z
      rw [List.getElem?_set] at h
      simp only [if_true] at h
      split at h <;> cases h
    · rw [List.getElem?_set_ne z] at h ⊢
      exact r.ow j e h
  · have hj : i ≠ j := fun z => by
      subst z
      rw [List.getElem?_set] at h1
      simp only [if_true] at h1
      split at h1 <;> cases h1
    have hk : i ≠ k := fun z => by
      subst z
      rw [List.getElem?_set] at h2
      simp only [if_true] at h2
      split at h2 <;> cases h2
    rw [List.getElem?_set_ne hj] at h1 h3
    rw [List.getElem?_set_ne hk] at h2 ⊢
    exact r.sep j k d' e' a ne h1 h2 h3
/-- a name gets a thing of its own -/
theorem Rel.setO (r : Rel K Γ C l g σ R H) {i : Nat} {a : Addr} {d : D} (q : OwnAt K R H a d) (n : R a = none) (nC : C.Hc a = none) (nf : ¬ Γ.fp g a) (ap : Apart l σ a) :
    Rel K Γ C (l.set i (.ow d)) g (σ.set i (some (.ref a))) R H := by
  refine ⟨by rw [List.length_set, List.length_set]; exact r.len, r.sub, r.keep, r.rnew, r.gat, r.gfr, fun j e h => ?_, fun j e h => ?_, fun j k d' e' b ne h1 h2 h3 h4 => ?_⟩
  · by_cases z : i = j
    · subst z
      rw [List.getElem?_set] at h
      simp only [if_true] at h
      split at h <;> cases h
    · rw [List.getElem?_set_ne z] at h ⊢
      exact r.va j e h
  · by_cases z : i = j
    · subst z
      rw [List.getElem?_set] at h ⊢
      simp only [if_true] at h ⊢
      split at h
      · cases h
        exact ⟨a, by rw [if_pos (by rw [← r.len]; assumption)], q, n, nC, nf⟩
      · cases h
    · rw [List.getElem?_set_ne z] at h ⊢
      exact r.ow j e h
  · by_cases hj : i = j
    · subst hj
      have hk : i ≠ k := ne
      rw [List.getElem?_set_ne hk] at h2 h4
      rw [List.getElem?_set] at h3
      simp only [if_true] at h3
      split at h3
      · cases h3
        exact ap k e' h2 h4
      · cases h3
    · rw [List.getElem?_set_ne hj] at h1 h3
      by_cases hk : i = k
      · subst hk
        rw [List.getElem?_set] at h4
        simp only [if_true] at h4
        split at h4
        · cases h4
          exact ap j d' h1 h3
        · cases h4
      · rw [List.getElem?_set_ne hk] at h2 h4
        exact r.sep j k d' e' b ne h1 h2 h3 h4
/-- the own thing of a name has changed -/
theorem Rel.chg (r : Rel K Γ C l g σ R H) {i : Nat} {a : Addr} {d d' : D} {o : HO} (hi : l[i]? = some (.ow d)) (hs : σ[i]? = some (some (.ref a))) (q : OwnAt K R (upd H a o) a d') : Rel K Γ C (l.set i (.ow d')) g σ R (upd H a o) := by
  obtain ⟨b, e1, q1, n1, n2, n3⟩ := r.ow i d hi
  rw [hs] at e1
  cases e1
  have hl : i < l.length := (List.getElem?_eq_some_iff.mp hi).1
  have up : ∀ {T : Hp}, Sub T H → T a = none → Sub T (upd H a o) := fun s n c u e => by
    rw [upd_ne (fun z => by rw [z, n] at e; cases e)]
    exact s c u e
  have back : ∀ {j : Nat} {e : D}, j ≠ i → (l.set i (.ow d'))[j]? = some (.ow e) → l[j]? = some (.ow e) := fun ne h => by
    rw [List.getElem?_set_ne (Ne.symm ne)] at h
    exact h
  refine ⟨by rw [List.length_set]; exact r.len, up r.sub n1, up r.keep n2, r.rnew, Γ.stay g H _ r.gat fun b hb => upd_ne fun z => n3 (z ▸ hb), r.gfr, fun j e h => ?_, fun j e h => ?_, fun j k d1 e1 b ne h1 h2 h3 h4 => ?_⟩
  · by_cases z : i = j
    · subst z
      rw [List.getElem?_set_self hl] at h
      cases h
    · rw [List.getElem?_set_ne z] at h
      exact r.va j e h
  · by_cases z : i = j
    · subst z
      rw [List.getElem?_set_self hl] at h
      cases h
      exact ⟨a, hs, q, n1, n2, n3⟩
    · rw [List.getElem?_set_ne z] at h
      obtain ⟨b, e2, q2, m1, m2, m3⟩ := r.ow j e h
      have hb : b ≠ a := fun y => r.sep i j d e a z hi h hs (by rw [e2, y])
      exact ⟨b, e2, q2.mono (Sub.refl R) (upd_ne hb), m1, m2, m3⟩
  · by_cases hj : j = i
    · subst hj
      exact r.sep j k d e1 b ne hi (back (Ne.symm ne) h2) h3 h4
    · by_cases hk : k = i
      · subst hk
        exact r.sep j k d1 d b ne (back hj h1) hi h3 h4
      · exact r.sep j k d1 e1 b ne (back hj h1) (back hk h2) h3 h4
end
/-- around a body nothing is let out -/
theorem takes0 {X : Cx} : L2N.Takes X (fun _ _ _ _ => False) := fun _ _ x => by
  obtain ⟨_, _, _, _, _, _, _, _, _, _, _, _, _, _, _, _, z⟩ := x
  exact z.elim
end Lk

set_option autoImplicit false
set_option linter.all false
set_option Elab.async false
set_option maxRecDepth 100000
set_option maxHeartbeats 2000000
namespace Lk
open PySem PySem.Spec PyProof.Rows L2 Dx
section
variable {G : Type} {Γ : GInt G} {X : Cx} {W : WX} {e : Expr} {pos : Pos}

theorem getV_ex {l : L} {i : Nat} {k : D → Prop} (h : getV l i k) : ∃ d, l[i]? = some (.va d) ∧ k d := by
  unfold getV at h
  split at h
  · exact ⟨_, by assumption, h⟩
  · exact h.elim
theorem getO_ex {l : L} {i : Nat} {k : D → Prop} (h : getO l i k) : ∃ d, l[i]? = some (.ow d) ∧ k d := by
  unfold getO at h
  split at h
  · exact ⟨_, by assumption, h⟩
  · exact h.elim
/-! ### names, constants -/
theorem de_var {i : Nat} {x : Str} (hN : X.N[i]? = some x) (hv : Vis X.env.scope x) (hd : (x == ("__debug__" : Str)) = false := by decide) (hcd : (x == ("__classdict__" : Str)) = false := by decide) : PE X (.Name x pos) (liftE X.K Γ W (dVar i)) :=
  (pe_var hN hv hd hcd).imp fun σ H Q ⟨C, l, g, R, ex, q, r, h, k, _⟩ => by
    obtain ⟨d, e, h⟩ := getV_ex h
    obtain ⟨v, e1, z⟩ := r.va i d e
    exact ⟨v, e1, k v H R d l g (Sub.refl R) r z h⟩
theorem letgo {K : Fg} {C : Fx} {l : L} {g : G} {σ : L2.St} {R H : Hp} (r : Rel K Γ C l g σ R H) {i : Nat} {d : D} (e : l[i]? = some (.ow d)) :
    ∃ a, σ[i]? = some (some (V.ref a)) ∧ Rel K Γ C (l.set i .no) g σ R H ∧ OwnAt K R H a d ∧ R a = none ∧ C.Hc a = none ∧ ¬ Γ.fp g a ∧ Apart (l.set i .no) σ a := by
  obtain ⟨a, e1, z, n1, n2, n3⟩ := r.ow i d e
  have ap : Apart (l.set i .no) σ a := fun j d' ej hs => by
    have nij : i ≠ j := fun y => by
      subst y
      rw [List.getElem?_set] at ej
      simp only [if_true] at ej
      split at ej <;> cases ej
    rw [List.getElem?_set_ne nij] at ej
    exact r.sep i j d d' a nij e ej e1 hs
  have nij : ∀ {j : Nat} {z : SV}, z ≠ .no → (l.set i .no)[j]? = some z → i ≠ j ∧ l[j]? = some z := fun {j z} nz ej => by
    by_cases y : i = j
    · subst y
      rw [List.getElem?_set] at ej
      simp only [if_true] at ej
      split at ej
      · cases ej
        exact absurd rfl nz
      · cases ej
    · rw [List.getElem?_set_ne y] at ej
      exact ⟨y, ej⟩
  exact ⟨a, e1, ⟨by rw [List.length_set]; exact r.len, r.sub, r.keep, r.rnew, r.gat, r.gfr, fun j d' ej => r.va j d' (nij (by intro y; cases y) ej).2, fun j d' ej => r.ow j d' (nij (by intro y; cases y) ej).2,
    fun j k d' e' b ne h1 h2 h3 => r.sep j k d' e' b ne (nij (by intro y; cases y) h1).2 (nij (by intro y; cases y) h2).2 h3⟩, z, n1, n2, n3, ap⟩
theorem de_own {i : Nat} {x : Str} (hN : X.N[i]? = some x) (hv : Vis X.env.scope x) (hd : (x == ("__debug__" : Str)) = false := by decide) (hcd : (x == ("__classdict__" : Str)) = false := by decide) : PE X (.Name x pos) (liftF X.K Γ W (dOwn i)) :=
  (pe_var hN hv hd hcd).imp fun σ H Q ⟨C, l, g, R, ex, q, r, h, k, _⟩ => by
    obtain ⟨d, e, h⟩ := getO_ex h
    obtain ⟨a, e1, r0, z, n1, n2, n3, ap⟩ := letgo r e
    exact ⟨_, e1, k a H R d _ g (Sub.refl R) r0 z n1 n2 n3 ap h⟩
theorem de_fz {i : Nat} {x : Str} (hN : X.N[i]? = some x) (hv : Vis X.env.scope x) (hd : (x == ("__debug__" : Str)) = false := by decide) (hcd : (x == ("__classdict__" : Str)) = false := by decide) : PE X (.Name x pos) (liftE X.K Γ W (dFz i)) :=
  (pe_var hN hv hd hcd).imp fun σ H Q ⟨C, l, g, R, ex, q, r, h, k, _⟩ => by
    obtain ⟨d, e, h⟩ := getO_ex h
    obtain ⟨a, e1, r0, z, n1, n2, n3, ap⟩ := letgo r e
    obtain ⟨o, eo, zr⟩ := z.rep
    have r1 := (r0.frz eo n1 n2 n3 ap).setV (i := i) (zr n1)
    rw [List.set_set] at r1
    have es : σ.set i (some (V.ref a)) = σ := by
      refine List.ext_getElem? fun j => ?_
      by_cases y : i = j
      · subst y
        have hl : i < σ.length := (List.getElem?_eq_some_iff.mp e1).1
        rw [List.getElem?_set_self hl, e1]
      · rw [List.getElem?_set_ne y]
    rw [es] at r1
    exact ⟨_, e1, k _ H _ d _ g (Sub.new n1) r1 (zr n1) h⟩
theorem de_c {v : V} {d : D} (h : PE X e (tC v)) (z : ∀ R, Rep X.K R v d) : PE X e (liftE X.K Γ W (dC d)) :=
  h.imp fun σ H Q ⟨C, l, g, R, ex, q, r, h, k, _⟩ => k v H R d l g (Sub.refl R) r (z R) h
theorem de_int {i : Int} {j} : PE X (.Constant (.int i) j pos) (liftE X.K Γ W (dC (.int i))) := de_c pe_int fun _ => .int i
theorem de_bl {b : Bool} {j} : PE X (.Constant (.bool b) j pos) (liftE X.K Γ W (dC (.bl b))) := de_c pe_bl fun _ => .bl b
theorem de_non {j} : PE X (.Constant .none j pos) (liftE X.K Γ W (dC .non)) := de_c pe_non fun _ => .non
theorem de_str {x : Str} {s : List Nat} {j} (hs : x.cps.toList = s := by rfl) : PE X (.Constant (.str x) j pos) (liftE X.K Γ W (dC (.str s))) := by
  subst hs
  exact de_c pe_str fun _ => .str x
theorem de_gint {x : Str} {i : Int} {t : Tok} (hg : Gl X x) (hm : X.mg x = some (.int i t)) (hd : (x == ("__debug__" : Str)) = false := by decide) : PE X (.Name x pos) (liftE X.K Γ W (dC (.int i))) :=
  de_c (pe_glob hg hm (v := .int i) ⟨t, rfl⟩ hd) fun _ => .int i
theorem de_gstr {x z : Str} {t : Tok} {s : List Nat} (hg : Gl X x) (hm : X.mg x = some (.str z t)) (hs : z.cps.toList = s := by rfl) (hd : (x == ("__debug__" : Str)) = false := by decide) : PE X (.Name x pos) (liftE X.K Γ W (dC (.str s))) := by
  subst hs
  exact de_c (pe_glob hg hm (v := .str z) ⟨t, rfl⟩ hd) fun _ => .str z

/-! ### what an operator may look into: what stays, or a thing of one's own -/
def Rb (K : Fg) (R H : Hp) (v : V) (d : D) : Prop := Rep K R v d ∨ ∃ a, v = .ref a ∧ OwnAt K R H a d
theorem Rb.of {K : Fg} {R H : Hp} {v : V} {d : D} (h : Rep K R v d) : Rb K R H v d := .inl h
theorem Rb.lst {K : Fg} {R H : Hp} {v : V} {ds : List D} (h : Rb K R H v (.lst ds)) (s : Sub R H) : ∃ a vs, v = .ref a ∧ H a = some (.lst vs) ∧ Reps K R vs ds := by
  rcases h with h | ⟨a, rfl, vs, e, q⟩
  · cases h with
    | lst e q => exact ⟨_, _, rfl, s _ _ e, q⟩
  · exact ⟨a, vs, rfl, e, q⟩
theorem Rb.tup {K : Fg} {R H : Hp} {v : V} {ds : List D} (h : Rb K R H v (.tup ds)) (s : Sub R H) : ∃ a vs, v = .ref a ∧ H a = some (.tup vs) ∧ Reps K R vs ds := by
  rcases h with h | ⟨a, rfl, z⟩
  · cases h with
    | tup e q => exact ⟨_, _, rfl, s _ _ e, q⟩
  · exact z.elim
theorem Rb.kt {K : Fg} {R H : Hp} {v : V} {ds : List D} (h : Rb K R H v (.kt ds)) : ∃ a vs, v = .ref a ∧ KT K a vs ∧ Reps K R vs ds := by
  rcases h with h | ⟨a, rfl, z⟩
  · cases h with
    | kt e q => exact ⟨_, _, rfl, e, q⟩
  · exact z.elim
theorem Rb.int {K : Fg} {R H : Hp} {v : V} {i : Int} (h : Rb K R H v (.int i)) : v = .int i := by
  rcases h with h | ⟨a, rfl, z⟩
  · cases h; rfl
  · exact z.elim
theorem Rb.bl {K : Fg} {R H : Hp} {v : V} {b : Bool} (h : Rb K R H v (.bl b)) : v = .bl b := by
  rcases h with h | ⟨a, rfl, z⟩
  · cases h; rfl
  · exact z.elim
theorem Rb.non {K : Fg} {R H : Hp} {v : V} (h : Rb K R H v .non) : v = .non := by
  rcases h with h | ⟨a, rfl, z⟩
  · cases h; rfl
  · exact z.elim
theorem Rb.str {K : Fg} {R H : Hp} {v : V} {s : List Nat} (h : Rb K R H v (.str s)) : ∃ x : Str, v = .str x ∧ x.cps.toList = s := by
  rcases h with h | ⟨a, rfl, z⟩
  · cases h; exact ⟨_, rfl, rfl⟩
  · exact z.elim
theorem Rb.dic {K : Fg} {R H : Hp} {v : V} {ds : List (D × D)} (h : Rb K R H v (.dic false ds)) (s : Sub R H) : ∃ a kvs, v = .ref a ∧ H a = some (.dK kvs) ∧ RepK K R kvs ds := by
  rcases h with h | ⟨a, rfl, kvs, e, q⟩
  · cases h with
    | dic e q => exact ⟨_, _, rfl, s _ _ e, q⟩
  · exact ⟨a, kvs, rfl, e, q⟩
theorem Rb.diT {K : Fg} {R H : Hp} {v : V} {ds : List (D × D)} (h : Rb K R H v (.dic true ds)) (s : Sub R H) : ∃ a kvs, v = .ref a ∧ H a = some (.dT kvs) ∧ RepT K R kvs ds := by
  rcases h with h | ⟨a, rfl, kvs, e, q⟩
  · cases h with
    | diT e q => exact ⟨_, _, rfl, s _ _ e, q⟩
  · exact ⟨a, kvs, rfl, e, q⟩
/-- the operator r does what w says -/
def Ag2 (K : Fg) (Γ : GInt G) (r : R2) (w : W2) : Prop := ∀ (C : Fx) (l : L) (g : G) (σ : L2.St) (R H : Hp) (x y : V) (d e : D) (k : D → Prop) (Q : VK), Rel K Γ C l g σ R H → Rb K R H x d → Rb K R H y e → w d e k →
  (∀ v H' R' z, Sub R R' → Rel K Γ C l g σ R' H' → Rep K R' v z → k z → Q v H') → r x y H Q
def Ag1 (K : Fg) (Γ : GInt G) (r : V → Hp → VK → Prop) (w : W1) : Prop := ∀ (C : Fx) (l : L) (g : G) (σ : L2.St) (R H : Hp) (x : V) (d : D) (k : D → Prop) (Q : VK), Rel K Γ C l g σ R H → Rb K R H x d → w d k →
  (∀ v H' R' z, Sub R R' → Rel K Γ C l g σ R' H' → Rep K R' v z → k z → Q v H') → r x H Q
/-- .. and what it makes is a new thing -/
def Ag2F (K : Fg) (Γ : GInt G) (r : R2) (w : W2) : Prop := ∀ (C : Fx) (l : L) (g : G) (σ : L2.St) (R H : Hp) (x y : V) (d e : D) (k : D → Prop) (Q : VK), Rel K Γ C l g σ R H → Rb K R H x d → Rb K R H y e → w d e k →
  (∀ a H' z, Rel K Γ C l g σ R H' → OwnAt K R H' a z → R a = none → C.Hc a = none → ¬ Γ.fp g a → Apart l σ a → k z → Q (.ref a) H') → r x y H Q
theorem Rel.ownRb {K : Fg} {C : Fx} {l : L} {g : G} {σ : L2.St} {R H : Hp} (r : Rel K Γ C l g σ R H) {i : Nat} {d : D} (h : l[i]? = some (.ow d)) : ∃ a, σ[i]? = some (some (V.ref a)) ∧ Rb K R H (.ref a) d := by
  obtain ⟨a, e, q, _⟩ := r.ow i d h
  exact ⟨a, e, .inr ⟨a, rfl, q⟩⟩
/-- the parts of an expression, then what is made of their values -/
theorem bin_run {r : R2} {w : W2} {f f' : DE G} {K : Fg} (ag : Ag2 K Γ r w) {σ : L2.St} {H : Hp} {Q : VK} (h : liftE K Γ W (dBin w f f') σ H Q) : tOp r (liftE K Γ W f) (liftE K Γ W f') σ H Q := by
  obtain ⟨C, l, g, R, ex, q, rl, h, k, kx⟩ := h
  refine ⟨C, l, g, R, ex, _, rl, h, fun x H1 R1 d l1 g1 s1 r1 z1 h1 => ?_, kx⟩
  refine ⟨C, l1, g1, R1, ex, _, r1, h1, fun y H2 R2 e l2 g2 s2 r2 z2 h2 => ?_, kx.mono s1⟩
  exact ag C l2 g2 σ R2 H2 x y d e _ Q r2 (.of (z1.mono s2)) (.of z2) h2 fun v H' R' z s' r' zz kk => k v H' R' z l2 g2 (s1.trans (s2.trans s')) r' zz kk
theorem de_bin {a b : Expr} {op : Operator} {r : R2} {w : W2} {f f' : DE G} (ho : OpR X (binaryOp op) r) (ag : Ag2 X.K Γ r w) (ha : PE X a (liftE X.K Γ W f)) (hb : PE X b (liftE X.K Γ W f')) : PE X (.BinOp a op b pos) (liftE X.K Γ W (dBin w f f')) :=
  (pe_op ho ha hb).imp fun _ _ _ h => bin_run ag h
theorem de_cmp {a b : Expr} {op : CmpOp} {r : R2} {w : W2} {f f' : DE G} (ho : OpR X (compareOp op) r) (ag : Ag2 X.K Γ r w) (ha : PE X a (liftE X.K Γ W f)) (hb : PE X b (liftE X.K Γ W f'))
    (hm : behindInMarks op b = false := by first | exact nobehind _ (by decide) (by decide) | rfl) : PE X (.Compare a [op] [b] pos) (liftE X.K Γ W (dBin w f f')) :=
  (pe_cmpR ho ha hb hm).imp fun _ _ _ h => bin_run ag h
/-- the left one a name that holds an own thing: it is looked into behind the right one -/
theorem binO_run {r : R2} {w : W2} {f' : DE G} {K : Fg} {i : Nat} (ag : Ag2 K Γ r w) {σ : L2.St} {H : Hp} {Q : VK} (h : liftE K Γ W (dBinO w i f') σ H Q) : tOp r (tVar i) (liftE K Γ W f') σ H Q := by
  obtain ⟨C, l, g, R, ex, q, rl, h, k, kx⟩ := h
  obtain ⟨d0, e0, h⟩ := getO_ex h
  obtain ⟨a, ea, _⟩ := rl.ownRb e0
  refine ⟨.ref a, ea, C, l, g, R, ex, _, rl, h, fun y H2 R2 e l2 g2 s2 r2 z2 h2 => ?_, kx⟩
  obtain ⟨d, ed, h3⟩ := getO_ex h2
  obtain ⟨a', ea', rb⟩ := r2.ownRb ed
  rw [ea] at ea'
  cases ea'
  exact ag C l2 g2 σ R2 H2 _ y d e _ Q r2 rb (.of z2) h3 fun v H' R' z s' r' zz kk => k v H' R' z l2 g2 (s2.trans s') r' zz kk
/-- the right one -/
theorem binR_run {r : R2} {w : W2} {f : DE G} {K : Fg} {i : Nat} (ag : Ag2 K Γ r w) {σ : L2.St} {H : Hp} {Q : VK} (h : liftE K Γ W (dBinR w f i) σ H Q) : tOp r (liftE K Γ W f) (tVar i) σ H Q := by
  obtain ⟨C, l, g, R, ex, q, rl, h, k, kx⟩ := h
  refine ⟨C, l, g, R, ex, _, rl, h, fun x H1 R1 e l1 g1 s1 r1 z1 h1 => ?_, kx⟩
  obtain ⟨d, ed, h3⟩ := getO_ex h1
  obtain ⟨a, ea, rb⟩ := r1.ownRb ed
  exact ⟨.ref a, ea, ag C l1 g1 σ R1 H1 x _ e d _ Q r1 (.of z1) rb h3 fun v H' R' z s' r' zz kk => k v H' R' z l1 g1 (s1.trans s') r' zz kk⟩
variable {a b : Expr} {op : Operator} {cp : CmpOp} {r : R2} {w : W2} {f f' : DE G} {i : Nat} {x : Str} {p2 : Pos}
theorem de_binO (ho : OpR X (binaryOp op) r) (ag : Ag2 X.K Γ r w) (ha : PE X a (tVar i)) (hb : PE X b (liftE X.K Γ W f')) : PE X (.BinOp a op b pos) (liftE X.K Γ W (dBinO w i f')) := (pe_op ho ha hb).imp fun _ _ _ h => binO_run ag h
theorem de_binR (ho : OpR X (binaryOp op) r) (ag : Ag2 X.K Γ r w) (ha : PE X a (liftE X.K Γ W f)) (hb : PE X b (tVar i)) : PE X (.BinOp a op b pos) (liftE X.K Γ W (dBinR w f i)) := (pe_op ho ha hb).imp fun _ _ _ h => binR_run ag h
theorem de_cmpR (ho : OpR X (compareOp cp) r) (ag : Ag2 X.K Γ r w) (ha : PE X a (liftE X.K Γ W f)) (hb : PE X b (tVar i)) (hm : behindInMarks cp b = false := by first | exact nobehind _ (by decide) (by decide) | rfl) :
    PE X (.Compare a [cp] [b] pos) (liftE X.K Γ W (dBinR w f i)) := (pe_cmpR ho ha hb hm).imp fun _ _ _ h => binR_run ag h
theorem de_cmpO (ho : OpR X (compareOp cp) r) (ag : Ag2 X.K Γ r w) (ha : PE X a (tVar i)) (hb : PE X b (liftE X.K Γ W f')) (hm : behindInMarks cp b = false := by first | exact nobehind _ (by decide) (by decide) | rfl) :
    PE X (.Compare a [cp] [b] pos) (liftE X.K Γ W (dBinO w i f')) := (pe_cmpR ho ha hb hm).imp fun _ _ _ h => binO_run ag h
/-- what makes a new thing -/
theorem binF_run {r : R2} {w : W2} {f f' : DE G} {K : Fg} (ag : Ag2F K Γ r w) {σ : L2.St} {H : Hp} {Q : VK} (h : liftF K Γ W (dBin w f f') σ H Q) : tOp r (liftE K Γ W f) (liftE K Γ W f') σ H Q := by
  obtain ⟨C, l, g, R, ex, q, rl, h, k, kx⟩ := h
  refine ⟨C, l, g, R, ex, _, rl, h, fun x H1 R1 d l1 g1 s1 r1 z1 h1 => ?_, kx⟩
  refine ⟨C, l1, g1, R1, ex, _, r1, h1, fun y H2 R2 e l2 g2 s2 r2 z2 h2 => ?_, kx.mono s1⟩
  exact ag C l2 g2 σ R2 H2 x y d e _ Q r2 (.of (z1.mono s2)) (.of z2) h2 fun a H' z r' zz n1 n2 n3 n4 kk => k a H' R2 z l2 g2 (s1.trans s2) r' zz n1 n2 n3 n4 kk
theorem de_binF (ho : OpR X (binaryOp op) r) (ag : Ag2F X.K Γ r w) (ha : PE X a (liftE X.K Γ W f)) (hb : PE X b (liftE X.K Γ W f')) : PE X (.BinOp a op b pos) (liftF X.K Γ W (dBin w f f')) := (pe_op ho ha hb).imp fun _ _ _ h => binF_run ag h
/-- a new thing is let stay at once -/
theorem de_new {e : Expr} (h : PE X e (liftF X.K Γ W f)) : PE X e (liftE X.K Γ W f) := h.imp fun σ H Q ⟨C, l, g, R, ex, q, r, h, k, kx⟩ =>
  ⟨C, l, g, R, ex, q, r, h, fun a H' R' d l' g' s' r' z n1 n2 n3 n4 hq => by
    obtain ⟨o, eo, zr⟩ := z.rep
    exact k _ H' _ d l' g' (s'.trans (Sub.new n1)) (r'.frz eo n1 n2 n3 n4) (zr n1) hq, kx⟩

/-! ### operators by values -/
theorem lim : LIM = sizeLine := by rw [sizeLine_eq]; rfl
theorem str_len (x : Str) : x.length = x.cps.toList.length := by simp [Str.length]
end
end Lk

set_option autoImplicit false
set_option linter.all false
set_option Elab.async false
set_option maxRecDepth 100000
set_option maxHeartbeats 2000000
namespace Lk
open PySem PySem.Spec PyProof.Rows L2 Dx
mutual
def toP : D → PyData
  | .non => .none
  | .bl b => .bool b
  | .int i => .int i
  | .str s => .str ⟨s.toArray⟩
  | .tup xs => .tuple (toPs xs)
  | .kt xs => .tuple (toPs xs)
  | .lst xs => .list (toPs xs)
  | _ => .none
def toPs : List D → List PyData
  | [] => []
  | x :: xs => toP x :: toPs xs
end
mutual
theorem rep_dp {K : Fg} {R H : Hp} (s : Sub R H) : ∀ {v : V} {d : D}, Rep K R v d → pla d = true → Dp K H v (toP d)
  | _, _, .non, _ => .non
  | _, _, .bl b, _ => .bl b
  | _, _, .int i, _ => .int i
  | _, _, .str x, _ => by
    show Dp K H _ (.str ⟨x.cps.toList.toArray⟩)
    have e : (⟨x.cps.toList.toArray⟩ : Str) = x := by cases x; rfl
    rw [e]
    exact .str x
  | _, _, .tup h q, p => .tup (SqT.of (s _ _ h)) (reps_dp s q (by simpa only [pla] using p))
  | _, _, .kt h q, p => .tup (h.sqt H) (reps_dp s q (by simpa only [pla] using p))
  | _, _, .lst h q, p => .lst (SqL.of (s _ _ h)) (reps_dp s q (by simpa only [pla] using p))
  | _, _, .ref _, p => by simp [pla] at p
  | _, _, .ty _, p => by simp [pla] at p
  | _, _, .dic _ _, p => by simp [pla] at p
  | _, _, .diT _ _, p => by simp [pla] at p
  | _, _, .obj _ _ _, p => by simp [pla] at p
theorem reps_dp {K : Fg} {R H : Hp} (s : Sub R H) : ∀ {v : List V} {d : List D}, Reps K R v d → plas d = true → DpAll K H v (toPs d)
  | _, _, .nil, _ => .nil
  | _, _, .cons h q, p => by
    rw [plas, Bool.and_eq_true] at p
    exact .cons (rep_dp s h p.1) (reps_dp s q p.2)
end
theorem rb_dp {K : Fg} {R H : Hp} (s : Sub R H) {v : V} {d : D} (h : Rb K R H v d) (p : pla d = true) : Dp K H v (toP d) := by
  rcases h with h | ⟨a, rfl, z⟩
  · exact rep_dp s h p
  · cases d with
    | lst ds =>
      obtain ⟨vs, e, q⟩ := z
      exact .lst (SqL.of e) (reps_dp s q (by simpa only [pla] using p))
    | dic _ _ => simp [pla] at p
    | _ => exact z.elim
theorem str_inj {a b : List Nat} (h : (⟨a.toArray⟩ : Str) = ⟨b.toArray⟩) : a = b := by
  have e := congrArg (fun z : Str => z.cps.toList) h
  simpa using e
mutual
theorem deq_p : ∀ (d e : D), pla d = true → pla e = true → PyData.eqv (toP d) (toP e) = deq d e
  | .non, e, _, q => by cases e <;> first | rfl | simp [pla] at q
  | .bl a, e, _, q => by cases e <;> first | rfl | simp [pla] at q | (cases a <;> rfl)
  | .int i, e, _, q => by
    cases e with
    | int j => simp only [toP, PyData.eqv, deq]; exact Bool.beq_eq_decide_eq i j
    | bl b => cases b <;> (simp only [toP, PyData.eqv, deq]; exact Bool.beq_eq_decide_eq _ _)
    | _ => first | rfl | simp [pla] at q
  | .str a, e, _, q => by
    cases e with
    | str b =>
      simp only [toP, PyData.eqv, deq]
      by_cases h : a = b
      · subst h; simp
      · rw [decide_eq_false h]
        exact beq_eq_false_iff_ne.mpr fun z => h (str_inj z)
    | _ => first | rfl | simp [pla] at q
  | .tup xs, e, p, q => by
    cases e with
    | tup ys => simp only [toP, PyData.eqv, deq]; exact deqs_p xs ys (by simpa only [pla] using p) (by simpa only [pla] using q)
    | kt ys => simp only [toP, PyData.eqv, deq]; exact deqs_p xs ys (by simpa only [pla] using p) (by simpa only [pla] using q)
    | _ => first | rfl | simp [pla] at q
  | .kt xs, e, p, q => by
    cases e with
    | tup ys => simp only [toP, PyData.eqv, deq]; exact deqs_p xs ys (by simpa only [pla] using p) (by simpa only [pla] using q)
    | kt ys => simp only [toP, PyData.eqv, deq]; exact deqs_p xs ys (by simpa only [pla] using p) (by simpa only [pla] using q)
    | _ => first | rfl | simp [pla] at q
  | .lst xs, e, p, q => by
    cases e with
    | lst ys => simp only [toP, PyData.eqv, deq]; exact deqs_p xs ys (by simpa only [pla] using p) (by simpa only [pla] using q)
    | _ => first | rfl | simp [pla] at q
  | .ref _, _, p, _ => by simp [pla] at p
  | .ty _, _, p, _ => by simp [pla] at p
  | .dic _ _, _, p, _ => by simp [pla] at p
  | .st _, _, p, _ => by simp [pla] at p
  | .obj _ _, _, p, _ => by simp [pla] at p
  | .exc _ _ _ _, _, p, _ => by simp [pla] at p
theorem deqs_p : ∀ (d e : List D), plas d = true → plas e = true → PyData.eqvAll (toPs d) (toPs e) = deqs d e
  | [], [], _, _ => rfl
  | [], _ :: _, _, _ => rfl
  | _ :: _, [], _, _ => rfl
  | x :: xs, y :: ys, p, q => by
    rw [plas, Bool.and_eq_true] at p q
    simp only [toPs, PyData.eqvAll, deqs]
    rw [deq_p x y p.1 q.1, deqs_p xs ys p.2 q.2]
end
mutual
theorem dep_p : ∀ d : D, (toP d).depth = dep d
  | .non => rfl
  | .bl _ => rfl
  | .int _ => rfl
  | .str _ => rfl
  | .tup xs => by simp only [toP, PyData.depth, dep, deps_p xs]
  | .kt xs => by simp only [toP, PyData.depth, dep, deps_p xs]
  | .lst xs => by simp only [toP, PyData.depth, dep, deps_p xs]
  | .ref _ => rfl
  | .ty _ => rfl
  | .dic _ _ => rfl
  | .st _ => rfl
  | .obj _ _ => rfl
  | .exc _ _ _ _ => rfl
theorem deps_p : ∀ d : List D, PyData.depthAll (toPs d) = deps d
  | [] => rfl
  | x :: xs => by simp only [toPs, PyData.depthAll, deps, dep_p x, deps_p xs]
end
mutual
theorem lay_p : ∀ d : D, pla d = true → (toP d).canLay0 = true
  | .non, _ => rfl
  | .bl _, _ => rfl
  | .int _, _ => rfl
  | .str s, p => by
    simp only [pla, List.all_eq_true, decide_eq_true_eq] at p
    simp only [toP, PyData.canLay0, PyData.strOk, Array.all_eq_true', decide_eq_true_eq, List.mem_toArray]
    intro x hx
    have := p x hx
    omega
  | .tup xs, p => by simp only [toP, PyData.canLay0]; exact lays_p xs (by simpa only [pla] using p)
  | .kt xs, p => by simp only [toP, PyData.canLay0]; exact lays_p xs (by simpa only [pla] using p)
  | .lst xs, p => by simp only [toP, PyData.canLay0]; exact lays_p xs (by simpa only [pla] using p)
  | .ref _, p => by simp [pla] at p
  | .ty _, p => by simp [pla] at p
  | .dic _ _, p => by simp [pla] at p
  | .st _, p => by simp [pla] at p
  | .obj _ _, p => by simp [pla] at p
  | .exc _ _ _ _, p => by simp [pla] at p
theorem lays_p : ∀ d : List D, plas d = true → PyData.canLayAll0 (toPs d) = true
  | [], _ => rfl
  | x :: xs, p => by
    rw [plas, Bool.and_eq_true] at p
    simp only [toPs, PyData.canLayAll0, lay_p x p.1, lays_p xs p.2, Bool.and_true]
end
theorem shaped_p {d : D} (p : pla d = true) (h : dep d ≤ 60) : SeqAt.shaped (toP d) = true := by
  unfold SeqAt.shaped
  rw [lay_p d p, dep_p]
  simp only [Bool.true_and, decide_eq_true_eq]
  omega
mutual
theorem lik_p : ∀ (d e : D), lik d e = true → PySem.W.alike (toP d) (toP e) = true
  | .non, e, q => by cases e <;> first | rfl | simp [lik] at q
  | .bl a, e, q => by cases e <;> first | rfl | simp [lik] at q
  | .int i, e, q => by cases e <;> first | rfl | simp [lik] at q
  | .str a, e, q => by cases e <;> first | rfl | simp [lik] at q
  | .tup xs, e, q => by
    cases e with
    | tup ys => simp only [toP, PySem.W.alike]; exact liks_p xs ys (by simpa only [lik] using q)
    | _ => simp [lik] at q
  | .lst xs, e, q => by
    cases e with
    | lst ys => simp only [toP, PySem.W.alike]; exact liks_p xs ys (by simpa only [lik] using q)
    | _ => simp [lik] at q
  | .kt _, _, p => by simp [lik] at p
  | .ref _, _, p => by simp [lik] at p
  | .ty _, _, p => by simp [lik] at p
  | .dic _ _, _, p => by simp [lik] at p
  | .st _, _, p => by simp [lik] at p
  | .obj _ _, _, p => by simp [lik] at p
theorem liks_p : ∀ (d e : List D), liks d e = true → PySem.W.alikeAll (toPs d) (toPs e) = true
  | [], _, _ => rfl
  | _ :: _, [], _ => rfl
  | x :: xs, y :: ys, q => by
    rw [liks, Bool.and_eq_true] at q
    simp only [toPs, PySem.W.alikeAll, lik_p x y q.1, liks_p xs ys q.2, Bool.and_true]
end
mutual
theorem dlt_p : ∀ (d e : D), lik d e = true → pla d = true → pla e = true → PySem.W.dataLt (toP d) (toP e) = dlt d e
  | .non, e, q, _, _ => by
    cases e with
    | non => rfl
    | _ => simp [lik] at q
  | .bl a, e, q, _, _ => by
    cases e with
    | bl b => simp only [toP, PySem.W.dataLt_bool, dlt]; cases a <;> cases b <;> rfl
    | _ => simp [lik] at q
  | .int i, e, q, _, _ => by
    cases e with
    | int j => simp only [toP, PySem.W.dataLt_int, dlt]
    | _ => simp [lik] at q
  | .str a, e, q, _, _ => by
    cases e with
    | str b => simp only [toP, PySem.W.dataLt_str, dlt, sLt]
    | _ => simp [lik] at q
  | .tup xs, e, q, p1, p2 => by
    cases e with
    | tup ys => simp only [toP, PySem.W.dataLt_tuple, dlt]; exact dlts_p xs ys (by simpa only [lik] using q) (by simpa only [pla] using p1) (by simpa only [pla] using p2)
    | _ => simp [lik] at q
  | .lst xs, e, q, p1, p2 => by
    cases e with
    | lst ys => simp only [toP, PySem.W.dataLt_list, dlt]; exact dlts_p xs ys (by simpa only [lik] using q) (by simpa only [pla] using p1) (by simpa only [pla] using p2)
    | _ => simp [lik] at q
  | .kt _, _, p, _, _ => by simp [lik] at p
  | .ref _, _, p, _, _ => by simp [lik] at p
  | .ty _, _, p, _, _ => by simp [lik] at p
  | .dic _ _, _, p, _, _ => by simp [lik] at p
  | .st _, _, p, _, _ => by simp [lik] at p
  | .obj _ _, _, p, _, _ => by simp [lik] at p
theorem dlts_p : ∀ (d e : List D), liks d e = true → plas d = true → plas e = true → PyProof.Rows.lexLt PyProof.Rows.itemOrd (PySem.W.keyToksAll (toPs d)) (PySem.W.keyToksAll (toPs e)) = dlts d e
  | [], [], _, _, _ => by decide
  | [], y :: ys, _, _, _ => by
    simp only [toPs, PySem.W.keyToksAll]
    first
      | (rw [PySem.W.lex_atom (by simp), PySem.W.lex_one]; rfl)
      | (show PyProof.Rows.lexLt _ (_ :: _) (_ :: _) = _; rw [PySem.W.lex_atom (by simp), PySem.W.lex_one]; rfl)
  | x :: xs, [], _, _, _ => by
    simp only [toPs, PySem.W.keyToksAll]
    first
      | (rw [PySem.W.lex_atom (by simp), PySem.W.lex_one]; rfl)
      | (show PyProof.Rows.lexLt _ (_ :: _) (_ :: _) = _; rw [PySem.W.lex_atom (by simp), PySem.W.lex_one]; rfl)
  | x :: xs, y :: ys, q, p1, p2 => by
    rw [liks, Bool.and_eq_true] at q
    rw [plas, Bool.and_eq_true] at p1 p2
    have hk := lik_p x y q.1
    show PyProof.Rows.lexLt PyProof.Rows.itemOrd (PySem.W.keyToksAll (toP x :: toPs xs)) (PySem.W.keyToksAll (toP y :: toPs ys)) = dlts (x :: xs) (y :: ys)
    rw [dlts]
    cases h : deq x y with
    | true =>
      rw [PySem.W.dataLt_all_yes hk (by rw [deq_p x y p1.1 p2.1]; exact h), dlts_p xs ys q.2 p1.2 p2.2]
      rfl
    | false =>
      rw [PySem.W.dataLt_all_no hk (by rw [deq_p x y p1.1 p2.1]; exact h), dlt_p x y q.1 p1.1 p2.1]
      rfl
end
end Lk

set_option autoImplicit false
set_option linter.all false
set_option Elab.async false
set_option maxRecDepth 100000
set_option maxHeartbeats 2000000
namespace Lk
open PySem PySem.Spec PyProof.Rows L2 Dx
section
variable {G : Type} {Γ : GInt G} {X : Cx} {W : WX} {K : Fg}
theorem Rel.newT {C : Fx} {l : L} {g : G} {σ : L2.St} {R H : Hp} (r : Rel K Γ C l g σ R H) {p : Addr} {vs : List V} {ds : List D} (n : H p = none) (q : Reps K R vs ds) :
    Rel K Γ C l g σ (upd R p (.tup vs)) (upd H p (.tup vs)) ∧ Sub R (upd R p (.tup vs)) ∧ Rep K (upd R p (.tup vs)) (.ref p) (.tup ds) :=
  ⟨r.laid n, Sub.new (r.sub.no0 n), .tup upd_same (q.mono (Sub.new (r.sub.no0 n)))⟩
theorem Rel.newL {C : Fx} {l : L} {g : G} {σ : L2.St} {R H : Hp} (r : Rel K Γ C l g σ R H) {p : Addr} {vs : List V} {ds : List D} (n : H p = none) (q : Reps K R vs ds) :
    Rel K Γ C l g σ (upd R p (.lst vs)) (upd H p (.lst vs)) ∧ Sub R (upd R p (.lst vs)) ∧ Rep K (upd R p (.lst vs)) (.ref p) (.lst ds) :=
  ⟨r.laid n, Sub.new (r.sub.no0 n), .lst upd_same (q.mono (Sub.new (r.sub.no0 n)))⟩
/-- .. as a thing of its own -/
theorem Rel.newLF {C : Fx} {l : L} {g : G} {σ : L2.St} {R H : Hp} (r : Rel K Γ C l g σ R H) {p : Addr} {vs : List V} {ds : List D} (n : H p = none) (q : Reps K R vs ds) :
    Rel K Γ C l g σ R (upd H p (.lst vs)) ∧ OwnAt K R (upd H p (.lst vs)) p (.lst ds) := ⟨r.laidF n, vs, upd_same, q⟩
theorem rep_int {R : Hp} {K : Fg} (i : Int) : Rep K R (.int i) (.int i) := .int i

/-! ### + - * // % ** -/
theorem ag_add : Ag2 K Γ (fun x y H Q => (rI0 (fun i j => .int (i + j))) x y H Q ∨ ((fun x y H Q => ∃ i j, x = .str i ∧ y = .str j ∧ i.length + j.length ≤ sizeLine ∧ Q (.str (i ++ j)) H : R2) x y H Q ∨ (rCat x y H Q ∨ rCatA K x y H Q))) wAdd := by
  intro C l g σ R H x y d e k Q r zx zy hw fin
  unfold wAdd at hw
  split at hw
  · rw [zx.int, zy.int]
    exact .inl ⟨_, _, rfl, rfl, fin _ H R _ (Sub.refl R) r (.int _) hw⟩
  · rename_i a b
    obtain ⟨xa, rfl, rfl⟩ := zx.str
    obtain ⟨xb, rfl, rfl⟩ := zy.str
    refine .inr (.inl ⟨xa, xb, rfl, rfl, ?_, fin _ H R _ (Sub.refl R) r ?_ hw.2⟩)
    · rw [str_len, str_len, ← lim]; exact hw.1
    · have e : (xa ++ xb).cps.toList = xa.cps.toList ++ xb.cps.toList := by
        show (xa.cps ++ xb.cps).toList = _
        simp
      rw [← e]
      exact .str _
  · obtain ⟨a, vs, rfl, ha, qa⟩ := zx.lst r.sub
    obtain ⟨b, ws, rfl, hb, qb⟩ := zy.lst r.sub
    refine .inr (.inr (.inl ⟨a, b, vs, ws, rfl, rfl, ha, hb, by rw [qa.length, qb.length, ← lim]; exact hw.1, fun p hp => ?_⟩))
    obtain ⟨r1, s1, z1⟩ := r.newL hp (qa.app qb)
    exact fin _ _ _ _ s1 r1 z1 hw.2
  · rename_i xs ys
    obtain ⟨a, vs, rfl, ha, qa⟩ := zx.tup r.sub
    obtain ⟨b, ws, rfl, hb, qb⟩ := zy.tup r.sub
    refine .inr (.inr (.inr ⟨a, b, vs, ws, rfl, rfl, SqT.of ha, SqT.of hb, by rw [qa.length, qb.length, ← lim]; exact hw.1, fun e => ?_, fun _ e => ?_, fun _ _ p hp => ?_⟩))
    · have : xs = [] := by
        have h := qa.length
        rw [e] at h
        exact List.eq_nil_of_length_eq_zero h.symm
      rcases zy with zy | ⟨_, _, z⟩
      · exact fin _ H R _ (Sub.refl R) r (by rw [this]; exact zy) hw.2
      · exact z.elim
    · have : ys = [] := by
        have h := qb.length
        rw [e] at h
        exact List.eq_nil_of_length_eq_zero h.symm
      rcases zx with zx | ⟨_, _, z⟩
      · exact fin _ H R _ (Sub.refl R) r (by rw [this, List.append_nil]; exact zx) hw.2
      · exact z.elim
    · obtain ⟨r1, s1, z1⟩ := r.newT hp (qa.app qb)
      exact fin _ _ _ _ s1 r1 z1 hw.2
  · exact hw.elim
theorem op_addA : OpR X (binaryOp .Add) (fun x y H Q => (rI0 (fun i j => .int (i + j))) x y H Q ∨ ((fun x y H Q => ∃ i j, x = .str i ∧ y = .str j ∧ i.length + j.length ≤ sizeLine ∧ Q (.str (i ++ j)) H : R2) x y H Q ∨ (rCat x y H Q ∨ rCatA X.K x y H Q))) :=
  op_add.or (op_add_str.or (op_cat.or op_catA))
theorem ag_cat : Ag2F K Γ rCat wCat := by
  intro C l g σ R H x y d e k Q r zx zy hw fin
  unfold wCat at hw
  split at hw
  · obtain ⟨a, vs, rfl, ha, qa⟩ := zx.lst r.sub
    obtain ⟨b, ws, rfl, hb, qb⟩ := zy.lst r.sub
    refine ⟨a, b, vs, ws, rfl, rfl, ha, hb, by rw [qa.length, qb.length, ← lim]; exact hw.1, fun p hp => ?_⟩
    obtain ⟨r1, z1⟩ := r.newLF hp (qa.app qb)
    obtain ⟨n1, n2, n3, n4⟩ := r.newF hp
    exact fin p _ _ r1 z1 n1 n2 n3 n4 hw.2
  · exact hw.elim
theorem reps_rep {R : Hp} {vs : List V} {ds : List D} (q : Reps K R vs ds) : ∀ n : Nat, Reps K R (List.replicate n vs).flatten (List.replicate n ds).flatten
  | 0 => .nil
  | n + 1 => by
    rw [List.replicate_succ, List.replicate_succ, List.flatten_cons, List.flatten_cons]
    exact q.app (reps_rep q n)
theorem ag_rep : Ag2F K Γ rRep wRep := by
  intro C l g σ R H x y d e k Q r zx zy hw fin
  unfold wRep at hw
  split at hw
  · obtain ⟨a, vs, rfl, ha, qa⟩ := zx.lst r.sub
    rw [zy.int]
    obtain ⟨h1, h2, h3, h4⟩ := hw
    refine ⟨a, _, vs, rfl, rfl, ha, by omega, by omega, by rw [qa.length, ← lim]; exact h3, fun p hp => ?_⟩
    obtain ⟨r1, z1⟩ := r.newLF hp (reps_rep qa _)
    obtain ⟨n1, n2, n3, n4⟩ := r.newF hp
    exact fin p _ _ r1 z1 n1 n2 n3 n4 h4
  · exact hw.elim
theorem ag_sub : Ag2 K Γ (rI0 fun i j => .int (i - j)) wSub := by
  intro C l g σ R H x y d e k Q r zx zy hw fin
  unfold wSub at hw
  split at hw
  · rw [zx.int, zy.int]
    exact ⟨_, _, rfl, rfl, fin _ H R _ (Sub.refl R) r (.int _) hw⟩
  · exact hw.elim
set_option maxHeartbeats 4000000 in
theorem tup_mul1 (l : Addr) (items : Array Value) (n : Nat) (dd : Option Addr) (sl : Array (Option Value)) (u : Tok) :
    Meets (Builtin.«tuple.__mul__» ⟨[.ref l, .int 1 u], []⟩) (fun _ R s => s.heap.get? l = some { cls := .type "tuple", dict := dd, data := .seq items n, slots := sl } ∧ R (.ok (.ret (Value.ref l))) s) :=
  .of_wp fun prog w A R s h => by
    obtain ⟨hp, g, d, tk, os⟩ := s
    obtain ⟨hl, h⟩ := h
    have f1 := AutoSeq1.idx_int
    wp_walk using wpAny_loadPart' hl
    exact ⟨_, rfl, h⟩
/-- a tuple, once or more often -/
def rRepTA (K : Fg) : R2 := fun x y H Q => ∃ l k xs, x = .ref l ∧ y = .int k ∧ SqT K H l xs ∧ xs ≠ [] ∧ 1 ≤ k ∧ k ≤ 1000 ∧ xs.length ≤ 1000 ∧ (k = 1 → Q (.ref l) H) ∧ ∀ p, H p = none → Q (.ref p) (upd H p (.tup (List.replicate k.toNat xs).flatten))
theorem op_repTA : OpR X (binaryOp .Mult) (rRepTA X.K) := by
  intro pins s σ H x y v u Q I rx ry h
  obtain ⟨l, k, xs, ex, ey, hT, hne, h1, h2, hz, q1, q⟩ := h
  by_cases e : k = 1
  · subst e ex ey
    cases rx
    obtain ⟨t, rfl⟩ := ry
    obtain ⟨its, r, ⟨⟨cls, dd, data, sl⟩, ho, hc, n, hd⟩, hs⟩ := I.tuple hT
    simp only at hc hd
    subst hc hd
    refine wpAny_binaryOp_repeat_ref (T := "tuple") (U := "int") (by decide) ⟨_, ho, rfl⟩ (fun s' => typeIs_int s' 1 t) noFill_tuple_mul F.fills_int_mul F.slot_int_rmul repeat_tuple F.slot_int_index.lookup
      (call_meets F.slot_int_rmul (typeIs_int s 1 t) F.entry_int_rmul (F.args_int_rmul_2 _ _) (int_rmul_tuple 1 t l its.toArray n dd sl)
        ⟨ho, rfl, ⟨_, ho, rfl⟩, call_meets F.slot_tuple_mul ⟨_, ho, rfl⟩ F.entry_tuple_mul (F.args_tuple_mul_2 _ _) (tup_mul1 l its.toArray n dd sl t) ⟨ho, ?_⟩⟩)
    exact ⟨.ref l, H, I, rfl, q1 rfl⟩
  · exact op_repT pins s σ H x y v u Q I rx ry ⟨l, k, xs, ex, ey, hT, hne, by omega, h2, hz, q⟩
theorem ag_mul : Ag2 K Γ (fun x y H Q => rI CMul (fun i j => .int (i * j)) x y H Q ∨ (rI CMulW (fun i j => .int (i * j)) x y H Q ∨ (rRep x y H Q ∨ rRepTA K x y H Q))) wMul := by
  intro C l g σ R H x y d e k Q r zx zy hw fin
  unfold wMul at hw
  split at hw
  · rw [zx.int, zy.int]
    obtain ⟨hm, hk⟩ := hw
    have f := fin _ H R _ (Sub.refl R) r (.int _) hk
    rcases hm with hm | hm | ⟨m, n, hm, hn, hs⟩
    · exact .inl ⟨_, _, rfl, rfl, .inl hm, f⟩
    · exact .inl ⟨_, _, rfl, rfl, .inr hm, f⟩
    · rename_i i j
      by_cases z1 : m = 0
      · subst z1
        exact .inl ⟨_, _, rfl, rfl, .inl ⟨by omega, by omega⟩, f⟩
      · by_cases z2 : n = 0
        · subst z2
          exact .inl ⟨_, _, rfl, rfl, .inr ⟨by omega, by omega⟩, f⟩
        · exact .inr (.inl ⟨_, _, rfl, rfl, wide_mul hm hn (by omega) (by omega) hs, f⟩)
  · obtain ⟨a, vs, rfl, ha, qa⟩ := zx.lst r.sub
    rw [zy.int]
    obtain ⟨h1, h2, h3, h4⟩ := hw
    refine .inr (.inr (.inl ⟨a, _, vs, rfl, rfl, ha, by omega, by omega, by rw [qa.length, ← lim]; exact h3, fun p hp => ?_⟩))
    obtain ⟨r1, s1, z1⟩ := r.newL hp (reps_rep qa _)
    exact fin _ _ _ _ s1 r1 z1 h4
  · obtain ⟨a, vs, rfl, ha, qa⟩ := zx.tup r.sub
    rw [zy.int]
    obtain ⟨h0, h1, h2, h3, h4⟩ := hw
    rename_i j
    refine .inr (.inr (.inr ⟨a, j, vs, rfl, rfl, SqT.of ha, fun e => h0 (by rw [e] at qa; cases qa; rfl), h1, h2, by rw [qa.length]; exact h3, fun e => ?_, fun p hp => ?_⟩))
    · subst e
      rcases zx with zx | ⟨b, _, zx⟩
      · refine fin _ H R _ (Sub.refl R) r zx ?_
        rw [show (List.replicate (1 : Int).toNat _).flatten = _ from List.append_nil _] at h4
        exact h4
      · exact zx.elim
    · obtain ⟨r1, s1, z1⟩ := r.newT hp (reps_rep qa _)
      exact fin _ _ _ _ s1 r1 z1 h4
  · exact hw.elim
theorem op_mulA : OpR X (binaryOp .Mult) (fun x y H Q => rI CMul (fun i j => .int (i * j)) x y H Q ∨ (rI CMulW (fun i j => .int (i * j)) x y H Q ∨ (rRep x y H Q ∨ rRepTA X.K x y H Q))) := op_mul.or (op_mulW.or (op_rep.or op_repTA))
theorem ag_div : Ag2 K Γ (fun x y H Q => rI CDivN (fun i j => .int (i.fdiv j)) x y H Q ∨ rI CDivW (fun i j => .int (i / j)) x y H Q) wDiv := by
  intro C l g σ R H x y d e k Q r zx zy hw fin
  unfold wDiv at hw
  split at hw
  · rw [zx.int, zy.int]
    rename_i i j
    obtain ⟨⟨h0, hm⟩, hk⟩ := hw
    have f := fin _ H R _ (Sub.refl R) r (.int _) hk
    rcases hm with hm | ⟨m, n, h1, h2, h3, h4⟩
    · refine .inl ⟨_, _, rfl, rfl, ⟨by omega, by omega⟩, ?_⟩
      show Q (.int (i.fdiv j)) H
      rw [Int.fdiv_eq_ediv_of_nonneg _ (by omega)]
      exact f
    · by_cases z : n = 0
      · subst z
        exact absurd h2 (by omega)
      · exact .inr ⟨_, _, rfl, rfl, wide_div h0 h2 (by omega) (by omega), f⟩
  · exact hw.elim
theorem op_divA : OpR X (binaryOp .FloorDiv) (fun x y H Q => rI CDivN (fun i j => .int (i.fdiv j)) x y H Q ∨ rI CDivW (fun i j => .int (i / j)) x y H Q) := op_fdivN.or op_fdivW
theorem ag_mod : Ag2 K Γ (rI (fun _ j => 0 < j) fun i j => .int (i % j)) wMod := by
  intro C l g σ R H x y d e k Q r zx zy hw fin
  unfold wMod at hw
  split at hw
  · rw [zx.int, zy.int]
    exact ⟨_, _, rfl, rfl, hw.1, fin _ H R _ (Sub.refl R) r (.int _) hw.2⟩
  · exact hw.elim
theorem ag_pow : Ag2 K Γ (rI CPow fun i j => .int (i ^ j.toNat)) wPow := by
  intro C l g σ R H x y d e k Q r zx zy hw fin
  unfold wPow at hw
  split at hw
  · rw [zx.int, zy.int]
    exact ⟨_, _, rfl, rfl, hw.1, fin _ H R _ (Sub.refl R) r (.int _) hw.2⟩
  · exact hw.elim
theorem ag_neg : Ag1 K Γ (rU fun i => .int (-i)) wNeg := by
  intro C l g σ R H x d k Q r zx hw fin
  unfold wNeg at hw
  split at hw
  · rw [zx.int]
    exact ⟨_, rfl, fin _ H R _ (Sub.refl R) r (.int _) hw⟩
  · exact hw.elim
/-! ### comparisons -/
theorem ag_eq : Ag2 K Γ (rEqD K) wEq := fun C l g σ R H x y d e k Q r zx zy hw fin =>
  ⟨toP d, toP e, rb_dp r.sub zx hw.1.1, rb_dp r.sub zy hw.1.2.1, shaped_p hw.1.1 hw.1.2.2.1, shaped_p hw.1.2.1 hw.1.2.2.2, by
    rw [deq_p d e hw.1.1 hw.1.2.1]
    exact fin _ H R _ (Sub.refl R) r (.bl _) hw.2⟩
theorem ag_ne : Ag2 K Γ (rNeD K) wNe := fun C l g σ R H x y d e k Q r zx zy hw fin =>
  ⟨toP d, toP e, rb_dp r.sub zx hw.1.1, rb_dp r.sub zy hw.1.2.1, shaped_p hw.1.1 hw.1.2.2.1, shaped_p hw.1.2.1 hw.1.2.2.2, by
    rw [deq_p d e hw.1.1 hw.1.2.1]
    exact fin _ H R _ (Sub.refl R) r (.bl _) hw.2⟩
theorem isN_iff {R H : Hp} {x : V} {d : D} (zx : Rb K R H x d) : decide (x = .non) = isNon d := by
  rcases zx with h | ⟨a, rfl, z⟩
  · cases h <;> rfl
  · cases d <;> first | rfl | exact z.elim
theorem ag_isN : Ag2 K Γ (fun x y H Q => y = .non ∧ Q (.bl (decide (x = .non))) H) wIsN := by
  intro C l g σ R H x y d e k Q r zx zy hw fin
  unfold wIsN at hw
  split at hw
  · refine ⟨zy.non, ?_⟩
    rw [isN_iff zx]
    exact fin _ H R _ (Sub.refl R) r (.bl _) hw
  · exact hw.elim
theorem ag_notN : Ag2 K Γ (fun x y H Q => y = .non ∧ Q (.bl (!decide (x = .non))) H) wNotN := by
  intro C l g σ R H x y d e k Q r zx zy hw fin
  unfold wNotN at hw
  split at hw
  · refine ⟨zy.non, ?_⟩
    rw [isN_iff zx]
    exact fin _ H R _ (Sub.refl R) r (.bl _) hw
  · exact hw.elim
/-- < of data that are alike -/
def rLtD (K : Fg) : R2 := fun x y H Q => ∃ d e, Dp K H x d ∧ Dp K H y e ∧ PySem.W.alike d e = true ∧ d ≠ .none ∧ d.depth ≤ 60 ∧ Q (.bl (PySem.W.dataLt d e)) H
theorem op_ltD (hu : X.A.units + 64 < cLine) : OpR X (compareOp .Lt) (rLtD X.K) := by
  intro pins s σ H x y v u Q I rx ry h
  obtain ⟨d, e, hd, he, ha, hn, hz, q⟩ := h
  obtain ⟨as, r1⟩ := Dp.reads I d x v hd rx
  obtain ⟨bs, r2⟩ := Dp.reads I e y u he ry
  exact PySem.W.lt_data r1 r2 ha hn (by have := Nat.min_le_left d.depth e.depth; omega) ⟨.bl _, H, I, rfl, q⟩
theorem ag_lt : Ag2 K Γ (rLtD K) wLt := by
  intro C l g σ R H x y d e k Q r zx zy hw fin
  unfold wLt at hw
  split at hw
  · rename_i i j
    refine ⟨_, _, rb_dp r.sub zx rfl, rb_dp r.sub zy rfl, rfl, (by intro z; cases z), Nat.zero_le _, ?_⟩
    rw [dlt_p (.int i) (.int j) rfl rfl rfl]
    exact fin _ H R _ (Sub.refl R) r (.bl _) hw
  · rename_i a b
    obtain ⟨⟨p1, p2⟩, hw⟩ := hw
    refine ⟨_, _, rb_dp r.sub zx p1, rb_dp r.sub zy p2, rfl, (by intro z; cases z), Nat.zero_le _, ?_⟩
    rw [dlt_p (.str a) (.str b) rfl p1 p2]
    exact fin _ H R _ (Sub.refl R) r (.bl _) hw
  · rename_i a b
    obtain ⟨⟨h1, h2, h3, h4⟩, hw⟩ := hw
    refine ⟨_, _, rb_dp r.sub zx h3, rb_dp r.sub zy h4, lik_p (.tup a) (.tup b) (by simpa only [lik] using h1), (by intro z; cases z), by rw [dep_p]; exact h2, ?_⟩
    rw [dlt_p (.tup a) (.tup b) (by simpa only [lik] using h1) h3 h4]
    exact fin _ H R _ (Sub.refl R) r (.bl _) hw
  · exact hw.elim
theorem ag_le : Ag2 K Γ (rI0 fun i j => .bl (decide (i ≤ j))) wLe := by
  intro C l g σ R H x y d e k Q r zx zy hw fin
  unfold wLe at hw
  split at hw
  · rw [zx.int, zy.int]
    exact ⟨_, _, rfl, rfl, fin _ H R _ (Sub.refl R) r (.bl _) hw⟩
  · exact hw.elim
theorem ag_gt : Ag2 K Γ (rI0 fun i j => .bl (decide (j < i))) wGt := by
  intro C l g σ R H x y d e k Q r zx zy hw fin
  unfold wGt at hw
  split at hw
  · rw [zx.int, zy.int]
    exact ⟨_, _, rfl, rfl, fin _ H R _ (Sub.refl R) r (.bl _) hw⟩
  · exact hw.elim
theorem ag_ge : Ag2 K Γ (rI0 fun i j => .bl (decide (j ≤ i))) wGe := by
  intro C l g σ R H x y d e k Q r zx zy hw fin
  unfold wGe at hw
  split at hw
  · rw [zx.int, zy.int]
    exact ⟨_, _, rfl, rfl, fin _ H R _ (Sub.refl R) r (.bl _) hw⟩
  · exact hw.elim
/-! ### xs[i], in -/
theorem ixN_at (n : Nat) (i : Int) : ixN n i = ixAt n i := by
  unfold ixN ixAt
  split <;> rfl
theorem atI_ix {α : Type} (xs : List α) (i : Int) : atI xs i = (ixAt xs.length i).bind fun j => xs[j]? := by unfold atI; rw [ixN_at]
theorem ag_ix : Ag2 K Γ (rIx K) wIx := by
  intro C l g σ R H x y d e k Q r zx zy hw fin
  unfold wIx at hw
  split at hw
  · rename_i xs i
    obtain ⟨d, hd, hk⟩ := hw
    obtain ⟨a, vs, rfl, ha, qa⟩ := zx.lst r.sub
    rw [zy.int]
    obtain ⟨j, hj, hx⟩ := Option.bind_eq_some_iff.mp hd
    obtain ⟨v, hv, zv⟩ := qa.get hx
    exact .inl ⟨a, vs, i, v, rfl, rfl, SqL.of ha, by rw [atI_ix, qa.length, hj]; exact hv, fin _ H R _ (Sub.refl R) r zv hk⟩
  · rename_i xs i
    obtain ⟨d, hd, hk⟩ := hw
    obtain ⟨a, vs, rfl, ha, qa⟩ := zx.tup r.sub
    rw [zy.int]
    obtain ⟨j, hj, hx⟩ := Option.bind_eq_some_iff.mp hd
    obtain ⟨v, hv, zv⟩ := qa.get hx
    exact .inr (.inl ⟨a, vs, i, v, rfl, rfl, SqT.of ha, by rw [atI_ix, qa.length, hj]; exact hv, fin _ H R _ (Sub.refl R) r zv hk⟩)
  · rename_i xs i
    obtain ⟨d, hd, hk⟩ := hw
    obtain ⟨a, vs, rfl, ha, qa⟩ := zx.kt
    rw [zy.int]
    obtain ⟨j, hj, hx⟩ := Option.bind_eq_some_iff.mp hd
    obtain ⟨v, hv, zv⟩ := qa.get hx
    exact .inr (.inl ⟨a, vs, i, v, rfl, rfl, ha.sqt H, by rw [atI_ix, qa.length, hj]; exact hv, fin _ H R _ (Sub.refl R) r zv hk⟩)
  · rename_i s i
    obtain ⟨c, hc, hl, hk⟩ := hw
    obtain ⟨z, rfl, rfl⟩ := zx.str
    rw [zy.int]
    refine .inr (.inr ⟨z, i, c, rfl, rfl, by rw [str_len, ← lim]; exact hl, by rw [atI_ix]; exact hc, fin _ H R _ (Sub.refl R) r ?_ hk⟩)
    exact .str ⟨#[c]⟩
  · exact hw.elim
theorem d_ix {a b : Expr} {pos : Pos} {f f' : DE G} (hs : PlainIx b) (ha : PE X a (liftE X.K Γ W f)) (hb : PE X b (liftE X.K Γ W f')) : PE X (.Subscript a b pos) (liftE X.K Γ W (dBin wIx f f')) := (pe_ix ix_seq ha hb hs).imp fun _ _ _ h => bin_run ag_ix h
theorem d_ixO {a b : Expr} {pos : Pos} {i : Nat} {f' : DE G} (hs : PlainIx b) (ha : PE X a (tVar i)) (hb : PE X b (liftE X.K Γ W f')) : PE X (.Subscript a b pos) (liftE X.K Γ W (dBinO wIx i f')) := (pe_ix ix_seq ha hb hs).imp fun _ _ _ h => binO_run ag_ix h
theorem any_deq {d : D} (p : pla d = true) : ∀ (ys : List D), plas ys = true → ((toPs ys).any fun z => PyData.eqv z (toP d)) = ys.any fun z => deq z d
  | [], _ => rfl
  | y :: ys, q => by
    rw [plas, Bool.and_eq_true] at q
    simp only [toPs, List.any_cons]
    rw [deq_p y d q.1 p, any_deq p ys q.2]
theorem ag_inD : Ag2 K Γ (rInD K) wInD := by
  intro C l g σ R H x y d e k Q r zx zy hw fin
  unfold wInD at hw
  split at hw
  · rename_i ys
    obtain ⟨⟨p1, p2, p3, p4⟩, hk⟩ := hw
    refine ⟨toP d, toPs ys, rb_dp r.sub zx p1, rb_dp r.sub zy p2, shaped_p p1 p3, shaped_p p2 p4, ?_⟩
    rw [any_deq p1 ys (by simpa only [pla] using p2)]
    exact fin _ H R _ (Sub.refl R) r (.bl _) hk
  · exact hw.elim
theorem ag_ninD : Ag2 K Γ (rNotInD K) wNinD := by
  intro C l g σ R H x y d e k Q r zx zy hw fin
  unfold wNinD at hw
  split at hw
  · rename_i ys
    obtain ⟨⟨p1, p2, p3, p4⟩, hk⟩ := hw
    refine ⟨toP d, toPs ys, rb_dp r.sub zx p1, rb_dp r.sub zy p2, shaped_p p1 p3, shaped_p p2 p4, ?_⟩
    rw [any_deq p1 ys (by simpa only [pla] using p2)]
    exact fin _ H R _ (Sub.refl R) r (.bl _) hk
  · exact hw.elim
/-! ### keys -/
theorem str_cps {x y : Str} : decide (x.cps.toList = y.cps.toList) = decide (x = y) := by
  by_cases h : x = y
  · subst h; simp
  · rw [decide_eq_false h, decide_eq_false fun z => h ?_]
    cases x; cases y
    simp only [Array.toList_inj] at z
    exact congrArg Str.mk z
theorem deq_k : ∀ (k j : Key), deq (kD k) (kD j) = decide (k = j)
  | .inl i, .inl j => by simp [kD, deq]
  | .inl _, .inr _ => by simp [kD, deq]
  | .inr _, .inl _ => by simp [kD, deq]
  | .inr x, .inr y => by
    simp only [kD, deq, str_cps]
    by_cases h : x = y
    · subst h; simp
    · rw [decide_eq_false h, decide_eq_false fun z => h (Sum.inr.inj z)]
theorem deqs_k : ∀ (k j : List Key), deqs (k.map kD) (j.map kD) = decide (k = j)
  | [], [] => rfl
  | [], _ :: _ => rfl
  | _ :: _, [] => rfl
  | x :: xs, y :: ys => by
    simp only [List.map_cons, deqs, deq_k, deqs_k xs ys, List.cons.injEq]
    by_cases h : x = y <;> by_cases h' : xs = ys <;> simp [h, h']
theorem look_k {R : Hp} {k : Key} : ∀ {kvs : List (Key × V)} {ds : List (D × D)}, RepK K R kvs ds → (look ds (kD k) = none ∧ valV kvs k = none) ∨ ∃ d v, look ds (kD k) = some d ∧ valV kvs k = some v ∧ Rep K R v d
  | _, _, .nil => .inl ⟨rfl, rfl⟩
  | _, _, .cons (k := j) (d := d) (v := v) (vs := vs) (ds := ds) h q => by
    unfold look
    rw [List.find?_cons]
    simp only [deq_k]
    by_cases e : j = k
    · rw [decide_eq_true e]
      exact .inr ⟨d, v, rfl, valV_pos e, h⟩
    · rw [decide_eq_false e, valV_neg e]
      exact look_k q
theorem look_t {R : Hp} {k : List Key} : ∀ {kvs : List (List Key × V)} {ds : List (D × D)}, RepT K R kvs ds → (look ds (.tup (k.map kD)) = none ∧ valV kvs k = none) ∨ ∃ d v, look ds (.tup (k.map kD)) = some d ∧ valV kvs k = some v ∧ Rep K R v d
  | _, _, .nil => .inl ⟨rfl, rfl⟩
  | _, _, .cons (k := j) (d := d) (v := v) (vs := vs) (ds := ds) h q => by
    unfold look
    rw [List.find?_cons]
    simp only [deq, deqs_k]
    by_cases e : j = k
    · rw [decide_eq_true e]
      exact .inr ⟨d, v, rfl, valV_pos e, h⟩
    · rw [decide_eq_false e, valV_neg e]
      exact look_t q
theorem key_k {R H : Hp} {v : V} {d : D} (h : Rb K R H v d) (hk : keyK false d = true) : ∃ k : Key, v = kV k ∧ d = kD k := by
  cases d with
  | int i => exact ⟨.inl i, h.int, rfl⟩
  | str s => obtain ⟨x, e, rfl⟩ := h.str; exact ⟨.inr x, e, rfl⟩
  | tup xs => simp [keyK] at hk
  | _ => cases hk
theorem keys_k {R : Hp} : ∀ {vs : List V} {ds : List D}, Reps K R vs ds → ds.all keyD = true → ∃ k : List Key, vs = k.map kV ∧ ds = k.map kD
  | _, _, .nil, _ => ⟨[], rfl, rfl⟩
  | _, _, .cons h q, hk => by
    rw [List.all_cons, Bool.and_eq_true] at hk
    obtain ⟨ks, e1, e2⟩ := keys_k q hk.2
    cases h with
    | int i => exact ⟨.inl i :: ks, by rw [e1]; rfl, by rw [e2]; rfl⟩
    | str x => exact ⟨.inr x :: ks, by rw [e1]; rfl, by rw [e2]; rfl⟩
    | _ => cases hk.1
theorem key_t {R H : Hp} {v : V} {d : D} (s : Sub R H) (h : Rb K R H v d) (hk : keyK true d = true) : ∃ (b : Addr) (k : List Key), v = .ref b ∧ H b = some (.tup (k.map kV)) ∧ d = .tup (k.map kD) := by
  cases d with
  | tup xs =>
    obtain ⟨a, vs, rfl, e, q⟩ := h.tup s
    obtain ⟨k, e1, e2⟩ := keys_k q (by simpa [keyK] using hk)
    exact ⟨a, k, rfl, by rw [← e1]; exact e, by rw [e2]⟩
  | _ => cases hk
/-- the dict at v, asked for the key at u -/
theorem dget_of {R H : Hp} {v u : V} {t : Bool} {ds : List (D × D)} {kd : D} (s : Sub R H) (h : Rb K R H v (.dic t ds)) (hu : Rb K R H u kd) (hk : keyK t kd = true) :
    ∃ a o, v = .ref a ∧ DGet H a u o ∧ ((look ds kd = none ∧ o = none) ∨ ∃ d w, look ds kd = some d ∧ o = some w ∧ Rep K R w d) := by
  cases t with
  | false =>
    obtain ⟨a, kvs, rfl, e, q⟩ := h.dic s
    obtain ⟨k, rfl, rfl⟩ := key_k hu hk
    exact ⟨a, _, rfl, DGet.k e, look_k q⟩
  | true =>
    obtain ⟨a, kvs, rfl, e, q⟩ := h.diT s
    obtain ⟨b, k, rfl, eb, rfl⟩ := key_t s hu hk
    exact ⟨a, _, rfl, DGet.t e eb, look_t q⟩
theorem op_inDic (hu : X.A.units + 1 < cLine) : OpR X (compareOp .In) (fun y x H Q => ∃ a o, x = .ref a ∧ DGet H a y o ∧ Q (.bl o.isSome) H) := by
  intro pins s σ H y x u v Q I ry rx h
  obtain ⟨a, o, rfl, g, q⟩ := h
  cases rx
  exact d_in hu I g ry fun s' I' => ⟨.bl _, H, I', rfl, q⟩
theorem op_ninDic (hu : X.A.units + 1 < cLine) : OpR X (compareOp .NotIn) (fun y x H Q => ∃ a o, x = .ref a ∧ DGet H a y o ∧ Q (.bl (!o.isSome)) H) := by
  intro pins s σ H y x u v Q I ry rx h
  obtain ⟨a, o, rfl, g, q⟩ := h
  cases rx
  exact d_notIn hu I g ry fun s' I' => ⟨.bl _, H, I', rfl, q⟩
theorem flat_rep {R : Hp} {v : V} {d : D} (h : Rep K R v d) (f : flat d = true) : flatV v = true := by
  cases h <;> first | rfl | cases f
theorem flat_rb {R H : Hp} {v : V} {d : D} (h : Rb K R H v d) (f : flat d = true) : Rep K R v d := by
  rcases h with h | ⟨a, rfl, z⟩
  · exact h
  · cases d <;> first | exact z.elim | cases f
theorem flats_rep {R : Hp} : ∀ {vs : List V} {ds : List D}, Reps K R vs ds → ds.all flat = true → vs.all flatV = true
  | _, _, .nil, _ => rfl
  | _, _, .cons h q, f => by
    rw [List.all_cons, Bool.and_eq_true] at f ⊢
    exact ⟨flat_rep h f.1, flats_rep q f.2⟩
theorem eqV_deq {R : Hp} {v u : V} {d e : D} (h : Rep K R v d) (q : Rep K R u e) (f : flat d = true) (f' : flat e = true) : eqV v u = deq d e := by
  cases h with
  | non => cases q <;> first | rfl | cases f'
  | bl b => cases q <;> first | rfl | cases f' | (simp only [eqV, deq]; exact Bool.beq_eq_decide_eq _ _)
  | int b => cases q <;> first | rfl | cases f' | (simp only [eqV, deq]; exact Bool.beq_eq_decide_eq _ _)
  | str b =>
    cases q with
    | str c =>
      simp only [eqV, deq, str_cps]
      exact Bool.beq_eq_decide_eq _ _
    | _ => first | rfl | cases f'
  | _ => cases f
theorem inV_deq {R : Hp} {v : V} {d : D} (h : Rep K R v d) (f : flat d = true) : ∀ {vs : List V} {ds : List D}, Reps K R vs ds → ds.all flat = true → inV v vs = ds.any fun z => deq z d
  | _, _, .nil, _ => rfl
  | _, _, .cons a q, fs => by
    rw [List.all_cons, Bool.and_eq_true] at fs
    show ((eqV _ v) || inV v _) = _
    rw [List.any_cons, eqV_deq a h fs.1 f, inV_deq h f q fs.2]
theorem ag_in : Ag2 K Γ (fun x y H Q => rIn K false x y H Q ∨ ((∃ a o, y = .ref a ∧ DGet H a x o ∧ Q (.bl o.isSome) H) ∨ ∃ (c : Nat) (z : Str), x = .str ⟨#[c]⟩ ∧ y = .str z ∧ Q (.bl (decide (c ∈ z.cps.toList))) H)) wIn := by
  intro C l g σ R H x y d e k Q r zx zy hw fin
  unfold wIn at hw
  split at hw
  · rename_i ys
    obtain ⟨⟨f1, f2⟩, hk⟩ := hw
    obtain ⟨a, vs, rfl, ha, q⟩ := zy.lst r.sub
    have zx := flat_rb zx f1
    refine .inl ⟨a, vs, rfl, .inl (SqL.of ha), flat_rep zx f1, flats_rep q f2, ?_⟩
    show Q (.bl (inV x vs)) H
    rw [inV_deq zx f1 q f2]
    exact fin _ H R _ (Sub.refl R) r (.bl _) hk
  · rename_i ys
    obtain ⟨⟨f1, f2⟩, hk⟩ := hw
    obtain ⟨a, vs, rfl, ha, q⟩ := zy.tup r.sub
    have zx := flat_rb zx f1
    refine .inl ⟨a, vs, rfl, .inr (SqT.of ha), flat_rep zx f1, flats_rep q f2, ?_⟩
    show Q (.bl (inV x vs)) H
    rw [inV_deq zx f1 q f2]
    exact fin _ H R _ (Sub.refl R) r (.bl _) hk
  · rename_i t kvs
    obtain ⟨a, o, rfl, g', c⟩ := dget_of r.sub zy zx hw.1
    refine .inr (.inl ⟨a, o, rfl, g', ?_⟩)
    have e : (look kvs d).isSome = o.isSome := by
      rcases c with ⟨c1, c2⟩ | ⟨_, _, c1, c2, _⟩ <;> (rw [c1, c2]; rfl)
    rw [← e]
    exact fin _ H R _ (Sub.refl R) r (.bl _) hw.2
  · split at hw
    · rename_i s _ c
      obtain ⟨z, rfl, hz⟩ := zx.str
      obtain ⟨z', rfl, rfl⟩ := zy.str
      refine .inr (.inr ⟨c, z', ?_, rfl, fin _ H R _ (Sub.refl R) r (.bl _) hw⟩)
      have : z = ⟨#[c]⟩ := by
        cases z with
        | mk cps =>
          have hz : cps.toList = [c] := hz
          have : cps = #[c] := by
            rw [← Array.toList_inj, hz]
          rw [this]
      rw [this]
    · exact hw.elim
  · exact hw.elim
theorem ag_nin : Ag2 K Γ (fun x y H Q => rIn K true x y H Q ∨ ((∃ a o, y = .ref a ∧ DGet H a x o ∧ Q (.bl (!o.isSome)) H) ∨ ∃ (c : Nat) (z : Str), x = .str ⟨#[c]⟩ ∧ y = .str z ∧ Q (.bl (!decide (c ∈ z.cps.toList))) H)) wNin := by
  intro C l g σ R H x y d e k Q r zx zy hw fin
  unfold wNin at hw
  split at hw
  · rename_i ys
    obtain ⟨⟨f1, f2⟩, hk⟩ := hw
    obtain ⟨a, vs, rfl, ha, q⟩ := zy.lst r.sub
    have zx := flat_rb zx f1
    refine .inl ⟨a, vs, rfl, .inl (SqL.of ha), flat_rep zx f1, flats_rep q f2, ?_⟩
    show Q (.bl (!inV x vs)) H
    rw [inV_deq zx f1 q f2]
    exact fin _ H R _ (Sub.refl R) r (.bl _) hk
  · rename_i ys
    obtain ⟨⟨f1, f2⟩, hk⟩ := hw
    obtain ⟨a, vs, rfl, ha, q⟩ := zy.tup r.sub
    have zx := flat_rb zx f1
    refine .inl ⟨a, vs, rfl, .inr (SqT.of ha), flat_rep zx f1, flats_rep q f2, ?_⟩
    show Q (.bl (!inV x vs)) H
    rw [inV_deq zx f1 q f2]
    exact fin _ H R _ (Sub.refl R) r (.bl _) hk
  · rename_i t kvs
    obtain ⟨a, o, rfl, g', c⟩ := dget_of r.sub zy zx hw.1
    refine .inr (.inl ⟨a, o, rfl, g', ?_⟩)
    have e : (look kvs d).isSome = o.isSome := by
      rcases c with ⟨c1, c2⟩ | ⟨_, _, c1, c2, _⟩ <;> (rw [c1, c2]; rfl)
    rw [← e]
    exact fin _ H R _ (Sub.refl R) r (.bl _) hw.2
  · split at hw
    · rename_i s _ c
      obtain ⟨z, rfl, hz⟩ := zx.str
      obtain ⟨z', rfl, rfl⟩ := zy.str
      refine .inr (.inr ⟨c, z', ?_, rfl, fin _ H R _ (Sub.refl R) r (.bl _) hw⟩)
      have : z = ⟨#[c]⟩ := by
        cases z with
        | mk cps =>
          have hz : cps.toList = [c] := hz
          have : cps = #[c] := by
            rw [← Array.toList_inj, hz]
          rw [this]
      rw [this]
    · exact hw.elim
  · exact hw.elim
theorem op_inA (hu : X.A.units + 1 < cLine) : OpR X (compareOp .In) (fun x y H Q => rIn X.K false x y H Q ∨ ((∃ a o, y = .ref a ∧ DGet H a x o ∧ Q (.bl o.isSome) H) ∨ ∃ (c : Nat) (z : Str), x = .str ⟨#[c]⟩ ∧ y = .str z ∧ Q (.bl (decide (c ∈ z.cps.toList))) H)) :=
  op_in_seq.or ((op_inDic hu).or op_in_sign)
theorem op_ninA (hu : X.A.units + 1 < cLine) : OpR X (compareOp .NotIn) (fun x y H Q => rIn X.K true x y H Q ∨ ((∃ a o, y = .ref a ∧ DGet H a x o ∧ Q (.bl (!o.isSome)) H) ∨ ∃ (c : Nat) (z : Str), x = .str ⟨#[c]⟩ ∧ y = .str z ∧ Q (.bl (!decide (c ∈ z.cps.toList))) H)) := op_notIn_seq.or ((op_ninDic hu).or op_notIn_sign)
/-- d[k] -/
theorem ag_ixD : Ag2 K Γ (fun x y H Q => ∃ a v, x = .ref a ∧ DGet H a y (some v) ∧ Q v H) wIxD := by
  intro C l g σ R H x y d e k Q r zx zy hw fin
  unfold wIxD at hw
  split at hw
  · obtain ⟨z, hk, hl, hq⟩ := hw
    obtain ⟨a, o, rfl, g', c⟩ := dget_of r.sub zx zy hk
    rcases c with ⟨c1, _⟩ | ⟨z', w, c1, rfl, zr⟩
    · rw [hl] at c1; cases c1
    · rw [hl] at c1
      cases c1
      exact ⟨a, w, rfl, g', fin _ H R _ (Sub.refl R) r zr hq⟩
  · exact hw.elim
theorem d_ixD {a b : Expr} {pos : Pos} {f f' : DE G} (hu : X.A.units + 1 < cLine) (hs : NoSl b) (ha : PE X a (liftE X.K Γ W f)) (hb : PE X b (liftE X.K Γ W f')) : PE X (.Subscript a b pos) (liftE X.K Γ W (dBin wIxD f f')) := (pe_dget hu ha hb hs).imp fun _ _ _ h => bin_run ag_ixD h
theorem d_ixDO {a b : Expr} {pos : Pos} {i : Nat} {f' : DE G} (hu : X.A.units + 1 < cLine) (hs : NoSl b) (ha : PE X a (tVar i)) (hb : PE X b (liftE X.K Γ W f')) : PE X (.Subscript a b pos) (liftE X.K Γ W (dBinO wIxD i f')) := (pe_dget hu ha hb hs).imp fun _ _ _ h => binO_run ag_ixD h
end
end Lk

set_option autoImplicit false
set_option linter.all false
set_option Elab.async false
set_option maxRecDepth 100000
set_option maxHeartbeats 2000000
/-! a list or a tuple, either: sums, least and greatest of them -/
namespace Lk
open PySem PySem.Spec PyProof.Rows L2 Dx
def SqB (K : Fg) (b : Bool) (H : Hp) (a : Addr) (xs : List V) : Prop := match b with
  | true => SqT K H a xs
  | false => SqL K H a xs
def HpB (b : Bool) (h : Heap) (a : Addr) (its : Array Value) : Prop := match b with
  | true => h.IsTuple a its
  | false => h.IsList a its
theorem sqB_read {X : Cx} {pins : List (Addr × Obj)} {σ : L2.St} {H : Hp} {s : Shared} (I : Inv X pins σ H s) {b : Bool} {a : Addr} {xs : List V} (h : SqB X.K b H a xs) : ∃ its : List Value, Vals xs its ∧ HpB b s.heap a its.toArray ∧ a < s.heap.objs.size := by
  cases b with
  | true =>
    obtain ⟨its, rv, p, _⟩ := I.tuple h
    have p2 : s.heap.IsTuple a its.toArray := p
    obtain ⟨o, ho, _⟩ := id p2
    exact ⟨its, rv, p2, Heap.lt_size ho⟩
  | false =>
    obtain ⟨its, rv, p, _⟩ := I.list h
    exact ⟨its, rv, p.isList, p.lt⟩
theorem sqB_inj {X : Cx} {pins : List (Addr × Obj)} {σ : L2.St} {H : Hp} {s : Shared} (I : Inv X pins σ H s) {b : Bool} {a : Addr} {xs ys : List V} (h : SqB X.K b H a xs) (h' : SqB X.K b H a ys) : xs = ys := by
  cases b with
  | true => exact I.tuple_inj h h'
  | false => exact I.list_inj h h'

theorem hpB_lt {b : Bool} {h : Heap} {a : Addr} {its : Array Value} (x : HpB b h a its) : a < h.objs.size := by
  cases b with
  | true =>
    have x : h.IsTuple a its := x
    obtain ⟨o, ho, _⟩ := x
    exact Heap.lt_size ho
  | false =>
    have x : h.IsList a its := x
    obtain ⟨o, ho, _⟩ := x
    exact Heap.lt_size ho
theorem sumT_raw {prog : Program} {w : World} {A : Around} {E : Value → Shared → Prop} {s : Shared} {l : Addr} {its : List Value} {ns : List Int} {Q : Value → Shared → Prop} (hh : A.handled = none) (hl : s.heap.IsTuple l its.toArray) (hi : IntsAre its ns)
    (h : ∀ h' tk t', (∀ b o, s.heap.get? b = some o → h'.get? b = some o) → Q (.int ns.sum t') { s with heap := h', toks := tk }) : wpAny (model prog w) A (call (.builtin "sum") [.ref l]) Q E s := by
  obtain ⟨zs, ez⟩ := hi.allInts.items
  have en : numsOf (intItems zs).toList = ns := by rw [← ez]; exact hi.numsOf
  rw [nums_intItems] at en
  rw [ez] at hl
  have hlt : l < s.heap.objs.size := by obtain ⟨_, y, _⟩ := hl; exact Heap.lt_size y
  refine call_sum_walkG (wpAny_pyIter_tuple hl ?_)
  refine ⟨s.heap.objs.size, [s.heap.objs.size, l], [s.heap.objs.size], _, _, _, numAt zs, rfl, Walks.tuple (A := A.in1) hh _ l (Nat.ne_of_lt hlt) (intItems zs), ⟨⟨_, Heap.get?_push_size _ rfl, rfl, rfl⟩, hl.push _⟩, fun b hb => ?_, fun _ _ => intItems_at, fun h' tk t' hk => ?_⟩
  · show b < (s.heap.push _).objs.size
    rw [Heap.size_push]
    rcases List.mem_cons.mp hb with rfl | hb
    · exact Nat.lt_succ_self _
    · rcases List.mem_cons.mp hb with rfl | hb
      · exact Nat.lt_succ_of_lt hlt
      · cases hb
  · have k0 := h h' tk t' fun b o e => hk b o (fun hm => absurd ((List.mem_singleton.mp hm) ▸ Heap.lt_size e) (Nat.lt_irrefl _)) (Heap.get?_push_of_some _ e)
    have es : preSum (numAt zs) (intItems zs).size = ns.sum := by
      rw [show (intItems zs).size = zs.size by simp [intItems], preSum_eq, List.take_of_length_le (by simp), en]
    rw [es]
    exact k0
def rSumB (K : Fg) : List V → Hp → VK → Prop := fun vs H Q => ∃ (a : Addr) (b : Bool) (ns : List Int), vs = [V.ref a] ∧ SqB K b H a (ns.map V.int) ∧ Q (.int ns.sum) H
theorem cr_sumB {X : Cx} (hc : X.calm = true) : CallR X (.builtin "sum") (rSumB X.K) := by
  intro pins s σ H vs us Q I r h
  obtain ⟨a, b, ns, rfl, hs, q⟩ := h
  obtain ⟨its, rv, hl, _⟩ := sqB_read I hs
  rw [Vals.ref1 r]
  cases b with
  | true => exact sumT_raw (I.ok.hd hc) hl rv.ints fun h' tk t' hk => ⟨.int _, H, I.kept hk, ⟨_, rfl⟩, q⟩
  | false => exact sum_raw (I.ok.hd hc) hl rv.ints fun h' tk t' hk => ⟨.int _, H, I.kept hk, ⟨_, rfl⟩, q⟩
/-! ### least and greatest of data -/
theorem dl_trans (a b c : PyData) (h1 : PySem.W.dataLt b a = false) (h2 : PySem.W.dataLt c b = false) : PySem.W.dataLt c a = false := by
  cases h : PySem.W.dataLt c a with
  | false => rfl
  | true =>
    unfold PySem.W.dataLt at h h1 h2
    rcases lex_negTrans _ (PySem.W.keyToks b) _ h with y | y
    · rw [h2] at y; cases y
    · rw [h1] at y; cases y
theorem dl_asym (a b : PyData) (h : PySem.W.dataLt a b = true) : PySem.W.dataLt b a = false := by
  cases h2 : PySem.W.dataLt b a with
  | false => rfl
  | true =>
    unfold PySem.W.dataLt at h h2
    have := lex_trans _ _ _ h h2
    rw [lex_irrefl] at this
    cases this
theorem dl_irr (a : PyData) : PySem.W.dataLt a a = false := by
  cases h : PySem.W.dataLt a a with
  | false => rfl
  | true =>
    unfold PySem.W.dataLt at h
    rw [lex_irrefl] at h
    cases h
theorem minD_spec : ∀ (xs : List PyData) (x : PyData), ∀ y ∈ x :: xs, PySem.W.dataLt y (PySem.W.minD x xs) = false := by
  suffices h : ∀ (xs done : List PyData) (x : PyData), (∀ y ∈ done, PySem.W.dataLt y x = false) → ∀ y, (y ∈ done ∨ y = x ∨ y ∈ xs) → PySem.W.dataLt y (PySem.W.minD x xs) = false by
    intro xs x y hy
    exact h xs [] x (fun y h => by cases h) y (.inr (List.mem_cons.mp hy))
  intro xs
  induction xs with
  | nil =>
    intro done x hd y hy
    show PySem.W.dataLt y x = false
    rcases hy with hy | rfl | hy
    · exact hd y hy
    · exact dl_irr _
    · cases hy
  | cons z zs ih =>
    intro done x hd y hy
    have e : PySem.W.minD x (z :: zs) = PySem.W.minD (if PySem.W.dataLt z x then z else x) zs := rfl
    rw [e]
    by_cases hz : PySem.W.dataLt z x = true
    · rw [if_pos hz]
      refine ih (x :: done) z (fun w hw => ?_) y ?_
      · rcases List.mem_cons.mp hw with rfl | hw
        · exact dl_asym _ _ hz
        · exact dl_trans z x w (dl_asym _ _ hz) (hd w hw)
      · rcases hy with hy | rfl | hy
        · exact .inl (List.mem_cons_of_mem _ hy)
        · exact .inl List.mem_cons_self
        · rcases List.mem_cons.mp hy with rfl | hy
          · exact .inr (.inl rfl)
          · exact .inr (.inr hy)
    · rw [if_neg hz]
      refine ih (z :: done) x (fun w hw => ?_) y ?_
      · rcases List.mem_cons.mp hw with rfl | hw
        · exact Bool.eq_false_iff.mpr hz
        · exact hd w hw
      · rcases hy with hy | rfl | hy
        · exact .inl (List.mem_cons_of_mem _ hy)
        · exact .inr (.inl rfl)
        · rcases List.mem_cons.mp hy with rfl | hy
          · exact .inl List.mem_cons_self
          · exact .inr (.inr hy)
theorem maxD_spec : ∀ (xs : List PyData) (x : PyData), ∀ y ∈ x :: xs, PySem.W.dataLt (PySem.W.maxD x xs) y = false := by
  suffices h : ∀ (xs done : List PyData) (x : PyData), (∀ y ∈ done, PySem.W.dataLt x y = false) → ∀ y, (y ∈ done ∨ y = x ∨ y ∈ xs) → PySem.W.dataLt (PySem.W.maxD x xs) y = false by
    intro xs x y hy
    exact h xs [] x (fun y h => by cases h) y (.inr (List.mem_cons.mp hy))
  intro xs
  induction xs with
  | nil =>
    intro done x hd y hy
    show PySem.W.dataLt x y = false
    rcases hy with hy | rfl | hy
    · exact hd y hy
    · exact dl_irr _
    · cases hy
  | cons z zs ih =>
    intro done x hd y hy
    have e : PySem.W.maxD x (z :: zs) = PySem.W.maxD (if PySem.W.dataLt x z then z else x) zs := rfl
    rw [e]
    by_cases hz : PySem.W.dataLt x z = true
    · rw [if_pos hz]
      refine ih (x :: done) z (fun w hw => ?_) y ?_
      · rcases List.mem_cons.mp hw with rfl | hw
        · exact dl_asym _ _ hz
        · exact dl_trans w x z (hd w hw) (dl_asym _ _ hz)
      · rcases hy with hy | rfl | hy
        · exact .inl (List.mem_cons_of_mem _ hy)
        · exact .inl List.mem_cons_self
        · rcases List.mem_cons.mp hy with rfl | hy
          · exact .inr (.inl rfl)
          · exact .inr (.inr hy)
    · rw [if_neg hz]
      refine ih (z :: done) x (fun w hw => ?_) y ?_
      · rcases List.mem_cons.mp hw with rfl | hw
        · exact Bool.eq_false_iff.mpr hz
        · exact hd w hw
      · rcases hy with hy | rfl | hy
        · exact .inl (List.mem_cons_of_mem _ hy)
        · exact .inr (.inl rfl)
        · rcases List.mem_cons.mp hy with rfl | hy
          · exact .inl List.mem_cons_self
          · exact .inr (.inr hy)
def rMinB (K : Fg) : List V → Hp → VK → Prop := fun vs H Q => ∃ (a : Addr) (b : Bool) (xs : List V) (d : PyData) (ds : List PyData), vs = [V.ref a] ∧ SqB K b H a xs ∧ DpAll K H xs (d :: ds) ∧ PySem.W.AlikeAll (d :: ds) ∧ (d :: ds).all (fun e => e.canLay0) = true ∧ PyData.depthAll (d :: ds) ≤ 60 ∧
  ∀ (i : Nat) v e, xs[i]? = some v → (d :: ds)[i]? = some e → e = PySem.W.minD d ds → Q v H
def rMaxB (K : Fg) : List V → Hp → VK → Prop := fun vs H Q => ∃ (a : Addr) (b : Bool) (xs : List V) (d : PyData) (ds : List PyData), vs = [V.ref a] ∧ SqB K b H a xs ∧ DpAll K H xs (d :: ds) ∧ PySem.W.AlikeAll (d :: ds) ∧ (d :: ds).all (fun e => e.canLay0) = true ∧ PyData.depthAll (d :: ds) ≤ 60 ∧
  ∀ (i : Nat) v e, xs[i]? = some v → (d :: ds)[i]? = some e → e = PySem.W.maxD d ds → Q v H
theorem vals_back : ∀ {xs : List V} {us : List Value}, Vals xs us → ∀ (i : Nat) (u : Value), us[i]? = some u → ∃ v, xs[i]? = some v ∧ RelV v u
  | _, _, .nil, i, u, h => by cases h
  | _, _, .cons r t, 0, u, h => by
    cases h
    exact ⟨_, rfl, r⟩
  | _, _, .cons r t, i + 1, u, h => vals_back t i u h
theorem dpAll_get {K : Fg} {H : Hp} : ∀ {xs : List V} {ds : List PyData}, DpAll K H xs ds → ∀ (i : Nat) (v : V), xs[i]? = some v → ∃ d, ds[i]? = some d ∧ Dp K H v d
  | _, _, .nil, i, v, h => by cases h
  | _, _, .cons r t, 0, v, h => by
    cases h
    exact ⟨_, rfl, r⟩
  | _, _, .cons r t, i + 1, v, h => dpAll_get t i v h
theorem cr_minB {X : Cx} (hc : X.calm = true) (hu : X.A.units + 65 < cLine) : CallR X (.builtin "min") (rMinB X.K) := by
  intro pins s σ H vs us Q I r h
  obtain ⟨a, b, xs, d, ds, rfl, hs, hd, hal, hcl, hdp, q⟩ := h
  obtain ⟨its, rv, hl, _⟩ := sqB_read I hs
  rw [Vals.ref1 r]
  obtain ⟨as, hr⟩ := Dp.readsAll I _ _ _ hd rv
  have fin : ∀ (i : Nat) v h' tk bs, its.toArray[i]? = some v → Reads h' v (PySem.W.minD d ds) bs → (∀ b o, s.heap.get? b = some o → h'.get? b = some o) → EP X pins σ Q v { s with heap := h', toks := tk } := fun i v h' tk bs hi hrd hk => by
    obtain ⟨x, hx, rx⟩ := vals_back rv i v (by simpa using hi)
    obtain ⟨e, he, de⟩ := dpAll_get hd i x hx
    obtain ⟨bs2, r2⟩ := Dp.reads I e x v de rx
    have ee := (Reads.unique (Reads.keeps hk r2) _ _ hrd).1
    exact ⟨x, H, I.kept hk, rx, q i x e hx he ee⟩
  have hu2 : X.A.units + 1 + PyData.depthAll (d :: ds) < cLine := by omega
  cases b with
  | true => exact PySem.W.min_tuple_data (I.ok.hd hc) hl hr hal hu2 fin
  | false => exact PySem.W.min_list_data (I.ok.hd hc) hl hr hal hu2 fin
theorem cr_maxB {X : Cx} (hc : X.calm = true) (hu : X.A.units + 65 < cLine) : CallR X (.builtin "max") (rMaxB X.K) := by
  intro pins s σ H vs us Q I r h
  obtain ⟨a, b, xs, d, ds, rfl, hs, hd, hal, hcl, hdp, q⟩ := h
  obtain ⟨its, rv, hl, _⟩ := sqB_read I hs
  rw [Vals.ref1 r]
  obtain ⟨as, hr⟩ := Dp.readsAll I _ _ _ hd rv
  have fin : ∀ (i : Nat) v h' tk bs, its.toArray[i]? = some v → Reads h' v (PySem.W.maxD d ds) bs → (∀ b o, s.heap.get? b = some o → h'.get? b = some o) → EP X pins σ Q v { s with heap := h', toks := tk } := fun i v h' tk bs hi hrd hk => by
    obtain ⟨x, hx, rx⟩ := vals_back rv i v (by simpa using hi)
    obtain ⟨e, he, de⟩ := dpAll_get hd i x hx
    obtain ⟨bs2, r2⟩ := Dp.reads I e x v de rx
    have ee := (Reads.unique (Reads.keeps hk r2) _ _ hrd).1
    exact ⟨x, H, I.kept hk, rx, q i x e hx he ee⟩
  have hu2 : X.A.units + 1 + PyData.depthAll (d :: ds) < cLine := by omega
  cases b with
  | true => exact PySem.W.max_tuple_data (I.ok.hd hc) hl hr hal hu2 fin
  | false => exact PySem.W.max_list_data (I.ok.hd hc) hl hr hal hu2 fin
end Lk

set_option autoImplicit false
set_option linter.all false
set_option Elab.async false
set_option maxRecDepth 100000
set_option maxHeartbeats 2000000
namespace Lk
open PySem PySem.Spec PyProof.Rows L2 Dx
section
variable {G : Type} {Γ : GInt G} {X : Cx} {W : WX} {K : Fg}
/-! ### one operand -/
theorem un_run {r : V → Hp → VK → Prop} {w : W1} {f : DE G} (ag : Ag1 K Γ r w) {σ : L2.St} {H : Hp} {Q : VK} (h : liftE K Γ W (dUn w f) σ H Q) : tUn r (liftE K Γ W f) σ H Q := by
  obtain ⟨C, l, g, R, ex, q, rl, h, k, kx⟩ := h
  refine ⟨C, l, g, R, ex, _, rl, h, fun x H1 R1 d l1 g1 s1 r1 z1 h1 => ?_, kx⟩
  exact ag C l1 g1 σ R1 H1 x d _ Q r1 (.of z1) h1 fun v H' R' z s' r' zz kk => k v H' R' z l1 g1 (s1.trans s') r' zz kk
theorem d_neg {a : Expr} {pos : Pos} {f : DE G} (ha : PE X a (liftE X.K Γ W f)) : PE X (.UnaryOp .USub a pos) (liftE X.K Γ W (dUn wNeg f)) := (pe_un un_neg ha).imp fun _ _ _ h => un_run ag_neg h
/-- o.f of one of the classes cs -/
theorem d_fld {a : Expr} {pos : Pos} {f : DE G} {fn : Str} {cs : List String} {j : Nat} (ha : PE X a (liftE X.K Γ W f)) (hc : ∀ c ∈ cs, (flds c)[j]? = some fn ∧ (flds c).Nodup)
    (hb : attributeBase a fn X.env (eval a X.env) = eval a X.env) : PE X (.Attribute a fn pos) (liftE X.K Γ W (dUn (wFld cs j) f)) :=
  (pe_fld ha hb).imp fun σ H Q h => by
    obtain ⟨C, l, g, R, ex, q, rl, h, k, kx⟩ := h
    refine ⟨C, l, g, R, ex, _, rl, h, fun x H1 R1 d l1 g1 s1 r1 z1 h1 => ?_, kx⟩
    unfold wFld at h1
    split at h1
    · obtain ⟨hcs, e, he, hq⟩ := h1
      cases z1 with
      | obj hR kn hF =>
        obtain ⟨c3, c4⟩ := hc _ hcs
        have c1 := kn.1
        have c2 := kn.2.1 fn (List.mem_of_getElem? c3)
        obtain ⟨v, hv, zv⟩ := hF.look c4 c3 he
        exact ⟨_, _, _, _, v, rfl, r1.sub _ _ hR, c1, c2, hv, k v H1 R1 e l1 g1 s1 r1 zv hq⟩
    · exact h1.elim
/-! ### arguments, displays, calls -/
theorem da_nil : PA X [] (liftA X.K Γ W aNil) := pa_nil.imp fun σ H Q ⟨C, l, g, R, ex, q, r, h, k, _⟩ => k [] H R [] l g (Sub.refl R) r .nil h
theorem da_cons {e : Expr} {es : List Expr} {f : DE G} {fs : DA G} (ha : PE X e (liftE X.K Γ W f)) (hr : PA X es (liftA X.K Γ W fs)) (hs : starEach (e :: es) X.env = (false, eval e X.env) :: starEach es X.env := by rfl) : PA X (e :: es) (liftA X.K Γ W (aCons f fs)) :=
  (pa_cons ha hr hs).imp fun σ H Q ⟨C, l, g, R, ex, q, rl, h, k, kx⟩ => by
    refine ⟨C, l, g, R, ex, _, rl, h, fun x H1 R1 d l1 g1 s1 r1 z1 h1 => ?_, kx⟩
    exact ⟨C, l1, g1, R1, ex, _, r1, h1, fun xs H2 R2 ds l2 g2 s2 r2 z2 h2 => k _ H2 R2 _ l2 g2 (s1.trans s2) r2 (.cons (z1.mono s2) z2) h2, kx.mono s1⟩
theorem d_tup {es : List Expr} {x1} {pos : Pos} {fs : DA G} (h : PA X es (liftA X.K Γ W fs)) : PE X (.Tuple es x1 pos) (liftE X.K Γ W (dTup fs)) :=
  (pe_tup h).imp fun σ H Q ⟨C, l, g, R, ex, q, rl, h, k, kx⟩ => ⟨C, l, g, R, ex, _, rl, h, fun xs H1 R1 ds l1 g1 s1 r1 z1 h1 => ⟨by rw [z1.length, ← lim]; exact h1.1, fun p hp => by
    obtain ⟨r2, s2, z2⟩ := r1.newT hp z1
    exact k _ _ _ _ l1 g1 (s1.trans s2) r2 z2 h1.2⟩, kx⟩
theorem d_lst {es : List Expr} {pos : Pos} {fs : DA G} (h : PA X es (liftA X.K Γ W fs)) : PE X (.List es pos) (liftF X.K Γ W (dLst fs)) :=
  (pe_lst h).imp fun σ H Q ⟨C, l, g, R, ex, q, rl, h, k, kx⟩ => ⟨C, l, g, R, ex, _, rl, h, fun xs H1 R1 ds l1 g1 s1 r1 z1 h1 => ⟨by rw [z1.length, ← lim]; exact h1.1, fun p hp => by
    obtain ⟨r2, z2⟩ := r1.newLF hp z1
    obtain ⟨n1, n2, n3, n4⟩ := r1.newF hp
    exact k p _ R1 _ l1 g1 s1 r2 z2 n1 n2 n3 n4 h1.2⟩, kx⟩
open Classical in
/-- the frame of a callee -/
noncomputable def calleeFx (Γ : GInt G) (g : G) (R H : Hp) : Fx := ⟨fun a => if Γ.fp g a then none else H a, R⟩
/-- behind a call -/
theorem Rel.behind {C : Fx} {l : L} {g g' : G} {σ : L2.St} {R H R' H' : Hp} (r : Rel K Γ C l g σ R H) (s : Sub R R') (sH : Sub R' H') (kp : ∀ a o, ¬ Γ.fp g a → H a = some o → H' a = some o)
    (nw : ∀ a, R' a ≠ none → R a ≠ none ∨ Γ.fp g a ∨ H a = none) (at' : Γ.at_ g' H') (fr : ∀ a, Γ.fp g' a → R' a = none ∧ (Γ.fp g a ∨ H a = none)) : Rel K Γ C l g' σ R' H' := by
  have nR : ∀ a, R a = none → Γ.fp g a ∨ H a = none ∨ R' a = none := fun a n => by
    by_cases z : R' a = none
    · exact .inr (.inr z)
    · rcases nw a z with y | y | y
      · exact absurd n y
      · exact .inl y
      · exact .inr (.inl y)
  refine ⟨r.len, sH, fun a o e => kp a o (fun z => by have := (r.gfr a z).2; rw [this] at e; cases e) (r.keep a o e), fun a h => ?_, at', fun a h => ?_, fun i d e => ?_, fun i d e => ?_, r.sep⟩
  · rcases nw a h with y | y | y
    · exact r.rnew a y
    · exact .inr (r.gfr a y).2
    · exact .inr (r.keep.no0 y)
  · obtain ⟨h1, h2⟩ := fr a h
    refine ⟨h1, ?_⟩
    rcases h2 with y | y
    · exact (r.gfr a y).2
    · exact r.keep.no0 y
  · obtain ⟨v, e1, z⟩ := r.va i d e
    exact ⟨v, e1, z.mono s⟩
  · obtain ⟨a, e1, z, n1, n2, n3⟩ := r.ow i d e
    have nz := z.ne
    have eH : H' a = H a := by
      cases h : H a with
      | none => exact absurd h nz
      | some o => exact kp a o n3 h
    refine ⟨a, e1, z.mono s eH, ?_, n2, fun y => ?_⟩
    · rcases nR a n1 with y | y | y
      · exact absurd y n3
      · exact absurd y nz
      · exact y
    · rcases (fr a y).2 with y | y
      · exact n3 y
      · exact nz y
theorem call_run {c : Ct G} {fs : DA G} {σ : L2.St} {H : Hp} {Q : VK} (h : liftE K Γ W (dCall c fs) σ H Q) : tCallS (liftC K Γ c) (WE W) (liftA K Γ W fs) σ H Q := by
  obtain ⟨C, l, g, R, ex, q, rl, h, k, kx⟩ := h
  refine ⟨C, l, g, R, ex, _, rl, h, fun vs H1 R1 ds l1 g1 s1 r1 z1 h1 => ?_, kx⟩
  refine ⟨ds, R1, g1, _, _, z1, r1.sub, r1.gat, fun a ha => (r1.gfr a ha).1, h1, fun v H' R' d g' s sH kp nw at' fr z hq => ?_, fun cls dx H' R' x g' s sH kp nw at' fr z hq => ?_⟩
  · exact k v H' R' d l1 g' (s1.trans s) (r1.behind s sH kp nw at' fr) z hq
  · exact kx cls dx H' R' x l1 g' (s1.trans s) (r1.behind s sH kp nw at' fr) z hq
theorem d_call {c : Ct G} {fs : DA G} {k : Nat} {f : Addr} {fd : FuncData} {ps : List Str} {x : Str} {p pos : Pos} {e : Expr} {es : List Expr} (F : FnOk X.prog X.w X.K X.mg X.base (L2N.CX X.prog X.w) k f fd ps (liftC X.K Γ c)) (tk : L2N.Takes X W) (hr : Room k X.A) (hg : Gl X x) (hm : X.mg x = some (.ref f))
    (hk : PySem.W.keepIn X.K (.ref f) = true) (hb : Binds X.K fd ps []) (ha : PA X (e :: es) (liftA X.K Γ W fs)) (hdb : (x == ("__debug__" : Str)) = false := by decide)
    (he : starEach (e :: es) X.env = (false, eval e X.env) :: starEach es X.env := by rfl) (hpl : (backTo pos (starEach es X.env)).any (·.1) = false := by rfl) : PE X (.Call (.Name x p) (e :: es) [] pos) (liftE X.K Γ W (dCall c fs)) :=
  (pe_callS F hr hg hm hk hb (L2N.passAt tk) ha hdb he hpl).imp fun _ _ _ h => call_run h
/-! ### built-ins, by their arguments' values -/
inductive Rbs (K : Fg) (R H : Hp) : List V → List D → Prop
  | nil : Rbs K R H [] []
  | cons {v : V} {vs : List V} {d : D} {ds : List D} : Rb K R H v d → Rbs K R H vs ds → Rbs K R H (v :: vs) (d :: ds)
theorem Reps.rbs {R H : Hp} : ∀ {vs : List V} {ds : List D}, Reps K R vs ds → Rbs K R H vs ds
  | _, _, .nil => .nil
  | _, _, .cons h q => .cons (.of h) (Reps.rbs q)
theorem Rbs.one {R H : Hp} {vs : List V} {d : D} (h : Rbs K R H vs [d]) : ∃ v, vs = [v] ∧ Rb K R H v d := by
  cases h with
  | cons a q => cases q; exact ⟨_, rfl, a⟩
theorem Rbs.two {R H : Hp} {vs : List V} {d e : D} (h : Rbs K R H vs [d, e]) : ∃ v u, vs = [v, u] ∧ Rb K R H v d ∧ Rb K R H u e := by
  cases h with
  | cons a q =>
    obtain ⟨u, rfl, b⟩ := q.one
    exact ⟨_, u, rfl, a, b⟩
def AgA (K : Fg) (Γ : GInt G) (r : List V → Hp → VK → Prop) (w : WA) : Prop := ∀ (C : Fx) (l : L) (g : G) (σ : L2.St) (R H : Hp) (vs : List V) (ds : List D) (k : D → Prop) (Q : VK), Rel K Γ C l g σ R H → Rbs K R H vs ds → w ds k →
  (∀ v H' R' z, Sub R R' → Rel K Γ C l g σ R' H' → Rep K R' v z → k z → Q v H') → r vs H Q
def AgAF (K : Fg) (Γ : GInt G) (r : List V → Hp → VK → Prop) (w : WA) : Prop := ∀ (C : Fx) (l : L) (g : G) (σ : L2.St) (R H : Hp) (vs : List V) (ds : List D) (k : D → Prop) (Q : VK), Rel K Γ C l g σ R H → Rbs K R H vs ds → w ds k →
  (∀ a H' z, Rel K Γ C l g σ R H' → OwnAt K R H' a z → R a = none → C.Hc a = none → ¬ Γ.fp g a → Apart l σ a → k z → Q (.ref a) H') → r vs H Q
theorem b_run {r : List V → Hp → VK → Prop} {w : WA} {fs : DA G} (ag : AgA K Γ r w) {σ : L2.St} {H : Hp} {Q : VK} (h : liftE K Γ W (dB w fs) σ H Q) : tCB r (liftA K Γ W fs) σ H Q := by
  obtain ⟨C, l, g, R, ex, q, rl, h, k, kx⟩ := h
  refine ⟨C, l, g, R, ex, _, rl, h, fun vs H1 R1 ds l1 g1 s1 r1 z1 h1 => ?_, kx⟩
  exact ag C l1 g1 σ R1 H1 vs ds _ Q r1 z1.rbs h1 fun v H' R' z s' r' zz kk => k v H' R' z l1 g1 (s1.trans s') r' zz kk
theorem bF_run {r : List V → Hp → VK → Prop} {w : WA} {fs : DA G} (ag : AgAF K Γ r w) {σ : L2.St} {H : Hp} {Q : VK} (h : liftF K Γ W (dB w fs) σ H Q) : tCB r (liftA K Γ W fs) σ H Q := by
  obtain ⟨C, l, g, R, ex, q, rl, h, k, kx⟩ := h
  refine ⟨C, l, g, R, ex, _, rl, h, fun vs H1 R1 ds l1 g1 s1 r1 z1 h1 => ?_, kx⟩
  exact ag C l1 g1 σ R1 H1 vs ds _ Q r1 z1.rbs h1 fun a H' z r' zz n1 n2 n3 n4 kk => k a H' R1 z l1 g1 s1 r' zz n1 n2 n3 n4 kk
theorem bO_run {r : List V → Hp → VK → Prop} {w : WA} {i : Nat} (ag : AgA K Γ r w) {σ : L2.St} {H : Hp} {Q : VK} (h : liftE K Γ W (dBO w i) σ H Q) : tCB r (tCons (tVar i) tNil) σ H Q := by
  obtain ⟨C, l, g, R, ex, q, rl, h, k, kx⟩ := h
  obtain ⟨d, ed, h1⟩ := getO_ex h
  obtain ⟨a, ea, rb⟩ := rl.ownRb ed
  exact ⟨.ref a, ea, ag C l g σ R H [.ref a] [d] _ Q rl (.cons rb .nil) h1 fun v H' R' z s' r' zz kk => k v H' R' z l g s' r' zz kk⟩
theorem bFO_run {r : List V → Hp → VK → Prop} {w : WA} {i : Nat} (ag : AgAF K Γ r w) {σ : L2.St} {H : Hp} {Q : VK} (h : liftF K Γ W (dBO w i) σ H Q) : tCB r (tCons (tVar i) tNil) σ H Q := by
  obtain ⟨C, l, g, R, ex, q, rl, h, k, kx⟩ := h
  obtain ⟨d, ed, h1⟩ := getO_ex h
  obtain ⟨a, ea, rb⟩ := rl.ownRb ed
  exact ⟨.ref a, ea, ag C l g σ R H [.ref a] [d] _ Q rl (.cons rb .nil) h1 fun a H' z r' zz n1 n2 n3 n4 kk => k a H' R z l g (Sub.refl R) r' zz n1 n2 n3 n4 kk⟩
section
variable {x : Str} {p pos : Pos} {e : Expr} {es : List Expr} {fs : DA G} {id T : String} {r : List V → Hp → VK → Prop} {w : WA} {i : Nat}
theorem d_b (hc : CallR X (.builtin id) r) (ag : AgA X.K Γ r w) (hg : Gl X x) (hm : X.mg x = none) (hv : bootBuiltins x = some (.builtin id)) (ha : PA X (e :: es) (liftA X.K Γ W fs)) (hn : x ≠ "__name__" := by decide) (hdb : (x == ("__debug__" : Str)) = false := by decide)
    (he : starEach (e :: es) X.env = (false, eval e X.env) :: starEach es X.env := by rfl) (hpl : (backTo pos (starEach es X.env)).any (·.1) = false := by rfl) : PE X (.Call (.Name x p) (e :: es) [] pos) (liftE X.K Γ W (dB w fs)) :=
  (pe_callB hc hg hm hv ha hn hdb he hpl).imp fun _ _ _ h => b_run ag h
theorem d_bF (hc : CallR X (.builtin id) r) (ag : AgAF X.K Γ r w) (hg : Gl X x) (hm : X.mg x = none) (hv : bootBuiltins x = some (.builtin id)) (ha : PA X (e :: es) (liftA X.K Γ W fs)) (hn : x ≠ "__name__" := by decide) (hdb : (x == ("__debug__" : Str)) = false := by decide)
    (he : starEach (e :: es) X.env = (false, eval e X.env) :: starEach es X.env := by rfl) (hpl : (backTo pos (starEach es X.env)).any (·.1) = false := by rfl) : PE X (.Call (.Name x p) (e :: es) [] pos) (liftF X.K Γ W (dB w fs)) :=
  (pe_callB hc hg hm hv ha hn hdb he hpl).imp fun _ _ _ h => bF_run ag h
theorem d_bT (hc : CallR X (.type T) r) (ag : AgA X.K Γ r w) (hg : Gl X x) (hm : X.mg x = none) (hv : bootBuiltins x = some (.type T)) (ha : PA X (e :: es) (liftA X.K Γ W fs)) (hn : x ≠ "__name__" := by decide) (hdb : (x == ("__debug__" : Str)) = false := by decide)
    (he : starEach (e :: es) X.env = (false, eval e X.env) :: starEach es X.env := by rfl) (hpl : (backTo pos (starEach es X.env)).any (·.1) = false := by rfl) : PE X (.Call (.Name x p) (e :: es) [] pos) (liftE X.K Γ W (dB w fs)) :=
  (pe_callTy hc hg hm hv ha hn hdb he hpl).imp fun _ _ _ h => b_run ag h
theorem d_bTF (hc : CallR X (.type T) r) (ag : AgAF X.K Γ r w) (hg : Gl X x) (hm : X.mg x = none) (hv : bootBuiltins x = some (.type T)) (ha : PA X (e :: es) (liftA X.K Γ W fs)) (hn : x ≠ "__name__" := by decide) (hdb : (x == ("__debug__" : Str)) = false := by decide)
    (he : starEach (e :: es) X.env = (false, eval e X.env) :: starEach es X.env := by rfl) (hpl : (backTo pos (starEach es X.env)).any (·.1) = false := by rfl) : PE X (.Call (.Name x p) (e :: es) [] pos) (liftF X.K Γ W (dB w fs)) :=
  (pe_callTy hc hg hm hv ha hn hdb he hpl).imp fun _ _ _ h => bF_run ag h
/-- .. of a name that holds an own thing -/
theorem d_bO {y : Str} {p2 : Pos} (hc : CallR X (.builtin id) r) (ag : AgA X.K Γ r w) (hg : Gl X x) (hm : X.mg x = none) (hv : bootBuiltins x = some (.builtin id)) (ha : PE X (.Name y p2) (tVar i)) (hn : x ≠ "__name__" := by decide) (hdb : (x == ("__debug__" : Str)) = false := by decide) :
    PE X (.Call (.Name x p) [.Name y p2] [] pos) (liftE X.K Γ W (dBO w i)) :=
  (pe_callB hc hg hm hv (pa_cons ha pa_nil) hn hdb).imp fun _ _ _ h => bO_run ag h
theorem d_bTO {y : Str} {p2 : Pos} (hc : CallR X (.type T) r) (ag : AgA X.K Γ r w) (hg : Gl X x) (hm : X.mg x = none) (hv : bootBuiltins x = some (.type T)) (ha : PE X (.Name y p2) (tVar i)) (hn : x ≠ "__name__" := by decide) (hdb : (x == ("__debug__" : Str)) = false := by decide) :
    PE X (.Call (.Name x p) [.Name y p2] [] pos) (liftE X.K Γ W (dBO w i)) :=
  (pe_callTy hc hg hm hv (pa_cons ha pa_nil) hn hdb).imp fun _ _ _ h => bO_run ag h
end
/-! what they say -/
theorem ag_sum : AgA K Γ (rSumB K) bSum := by
  intro C l g σ R H vs ds k Q r z hw fin
  unfold bSum at hw
  split at hw
  · obtain ⟨ns, rfl, hk⟩ := hw
    obtain ⟨v, rfl, rb⟩ := z.one
    obtain ⟨a, ws, rfl, ha, q⟩ := rb.lst r.sub
    exact ⟨a, false, ns, rfl, SqL.of (by rw [← q.ints]; exact ha), fin _ H R _ (Sub.refl R) r (.int _) hk⟩
  · obtain ⟨ns, rfl, hk⟩ := hw
    obtain ⟨v, rfl, rb⟩ := z.one
    obtain ⟨a, ws, rfl, ha, q⟩ := rb.tup r.sub
    exact ⟨a, true, ns, rfl, SqT.of (by rw [← q.ints]; exact ha), fin _ H R _ (Sub.refl R) r (.int _) hk⟩
  · exact hw.elim
theorem all_lay : ∀ {xs : List D}, (∀ x ∈ xs, pla x = true) → ((toPs xs).all fun e => e.canLay0) = true
  | [], _ => rfl
  | x :: xs, h => by
    show ((toP x).canLay0 && (toPs xs).all fun e => e.canLay0) = true
    rw [lay_p x (h x List.mem_cons_self), all_lay fun y hy => h y (List.mem_cons_of_mem _ hy)]
    rfl
theorem toPs_get : ∀ (xs : List D) (i : Nat), (toPs xs)[i]? = xs[i]?.map toP
  | [], _ => rfl
  | _ :: _, 0 => rfl
  | _ :: xs, i + 1 => toPs_get xs i
theorem toPs_mem : ∀ (xs : List D) (e : PyData), e ∈ toPs xs → ∃ x ∈ xs, e = toP x
  | [], e, h => by cases h
  | x :: xs, e, h => by
    rcases List.mem_cons.mp h with rfl | h
    · exact ⟨x, List.mem_cons_self, rfl⟩
    · obtain ⟨y, hy, e2⟩ := toPs_mem xs e h
      exact ⟨y, List.mem_cons_of_mem _ hy, e2⟩
theorem pla_all {xs : List D} (h : ∀ x ∈ xs, pla x = true) : plas xs = true := by
  induction xs with
  | nil => rfl
  | cons x xs ih =>
    rw [plas, h x List.mem_cons_self, ih fun y hy => h y (List.mem_cons_of_mem _ hy)]
    rfl
theorem deps_all {xs : List D} {k : Nat} (h : ∀ x ∈ xs, dep x ≤ k) : deps xs ≤ k := by
  induction xs with
  | nil => exact Nat.zero_le _
  | cons x xs ih =>
    rw [deps]
    exact Nat.max_le.mpr ⟨h x List.mem_cons_self, ih fun y hy => h y (List.mem_cons_of_mem _ hy)⟩
theorem mm_alike {xs : List D} (h : mmOk xs) : PySem.W.AlikeAll (toPs xs) := by
  obtain ⟨_, h1, h2⟩ := h
  refine ⟨fun d hd d' hd' => ?_, fun d hd => ?_⟩
  · obtain ⟨x, hx, rfl⟩ := toPs_mem _ _ hd
    obtain ⟨y, hy, rfl⟩ := toPs_mem _ _ hd'
    exact lik_p x y (h2 x hx y hy)
  · obtain ⟨x, hx, rfl⟩ := toPs_mem _ _ hd
    intro e
    have n := (h1 x hx).2.2
    cases x <;> simp [toP] at e n
    all_goals (have := (h1 _ hx).1; simp [pla] at this)
theorem ag_minD : AgA K Γ (rMinB K) bMinD := by
  intro C l g σ R H vs ds k Q r z hw fin
  have go : ∀ (b : Bool) (a : Addr) (ws : List V) (xs : List D), vs = [.ref a] → SqB K b H a ws → Reps K R ws xs → mmOk xs → (∀ m ∈ xs, (∀ y ∈ xs, dlt y m = false) → k m) → rMinB K vs H Q := fun b a ws xs e hs q ok hk => by
    have h2 := ok.2.2
    have h1 := ok.2.1
    cases xs with
    | nil => exact absurd rfl ok.1
    | cons x xs =>
      have dd : DpAll K H ws (toPs (x :: xs)) := reps_dp r.sub q (pla_all fun y hy => (h1 y hy).1)
      refine ⟨a, b, ws, toP x, toPs xs, e, hs, dd, mm_alike ok, all_lay (xs := x :: xs) fun y hy => (h1 y hy).1, ?_, fun i v d hv hd ed => ?_⟩
      · rw [show toP x :: toPs xs = toPs (x :: xs) from rfl, deps_p]
        exact deps_all fun y hy => (h1 y hy).2.1
      · obtain ⟨y, hy, zy⟩ := q.getV hv
        have hd : (toPs (x :: xs))[i]? = some d := hd
        rw [toPs_get, hy] at hd
        cases hd
        have my := List.mem_of_getElem? hy
        refine fin v H R y (Sub.refl R) r zy (hk y my fun u hu => ?_)
        rw [← dlt_p u y (h2 u hu y my) (h1 u hu).1 (h1 y my).1, ed]
        refine minD_spec (toPs xs) (toP x) (toP u) ?_
        show toP u ∈ toPs (x :: xs)
        obtain ⟨j, hj⟩ := List.getElem?_of_mem hu
        exact List.mem_of_getElem? (i := j) (by rw [toPs_get, hj]; rfl)
  unfold bMinD at hw
  split at hw
  · obtain ⟨v, rfl, rb⟩ := z.one
    obtain ⟨a, ws, rfl, ha, q⟩ := rb.lst r.sub
    exact go false a ws _ rfl (SqL.of ha) q hw.1 hw.2
  · obtain ⟨v, rfl, rb⟩ := z.one
    obtain ⟨a, ws, rfl, ha, q⟩ := rb.tup r.sub
    exact go true a ws _ rfl (SqT.of ha) q hw.1 hw.2
  · exact hw.elim
theorem ag_maxD : AgA K Γ (rMaxB K) bMaxD := by
  intro C l g σ R H vs ds k Q r z hw fin
  have go : ∀ (b : Bool) (a : Addr) (ws : List V) (xs : List D), vs = [.ref a] → SqB K b H a ws → Reps K R ws xs → mmOk xs → (∀ m ∈ xs, (∀ y ∈ xs, dlt m y = false) → k m) → rMaxB K vs H Q := fun b a ws xs e hs q ok hk => by
    have h2 := ok.2.2
    have h1 := ok.2.1
    cases xs with
    | nil => exact absurd rfl ok.1
    | cons x xs =>
      have dd : DpAll K H ws (toPs (x :: xs)) := reps_dp r.sub q (pla_all fun y hy => (h1 y hy).1)
      refine ⟨a, b, ws, toP x, toPs xs, e, hs, dd, mm_alike ok, all_lay (xs := x :: xs) fun y hy => (h1 y hy).1, ?_, fun i v d hv hd ed => ?_⟩
      · rw [show toP x :: toPs xs = toPs (x :: xs) from rfl, deps_p]
        exact deps_all fun y hy => (h1 y hy).2.1
      · obtain ⟨y, hy, zy⟩ := q.getV hv
        have hd : (toPs (x :: xs))[i]? = some d := hd
        rw [toPs_get, hy] at hd
        cases hd
        have my := List.mem_of_getElem? hy
        refine fin v H R y (Sub.refl R) r zy (hk y my fun u hu => ?_)
        rw [← dlt_p y u (h2 y my u hu) (h1 y my).1 (h1 u hu).1, ed]
        refine maxD_spec (toPs xs) (toP x) (toP u) ?_
        show toP u ∈ toPs (x :: xs)
        obtain ⟨j, hj⟩ := List.getElem?_of_mem hu
        exact List.mem_of_getElem? (i := j) (by rw [toPs_get, hj]; rfl)
  unfold bMaxD at hw
  split at hw
  · obtain ⟨v, rfl, rb⟩ := z.one
    obtain ⟨a, ws, rfl, ha, q⟩ := rb.lst r.sub
    exact go false a ws _ rfl (SqL.of ha) q hw.1 hw.2
  · obtain ⟨v, rfl, rb⟩ := z.one
    obtain ⟨a, ws, rfl, ha, q⟩ := rb.tup r.sub
    exact go true a ws _ rfl (SqT.of ha) q hw.1 hw.2
  · exact hw.elim
theorem ag_all : AgA K Γ (rAll K) bAll := by
  intro C l g σ R H vs ds k Q r z hw fin
  unfold bAll at hw
  split at hw
  · obtain ⟨ns, rfl, hk⟩ := hw
    obtain ⟨v, rfl, rb⟩ := z.one
    obtain ⟨a, ws, rfl, ha, q⟩ := rb.lst r.sub
    exact ⟨a, ns, rfl, SqL.of (by rw [← q.bls]; exact ha), fin _ H R _ (Sub.refl R) r (.bl _) hk⟩
  · exact hw.elim
theorem ag_any : AgA K Γ (rAny K) bAny := by
  intro C l g σ R H vs ds k Q r z hw fin
  unfold bAny at hw
  split at hw
  · obtain ⟨ns, rfl, hk⟩ := hw
    obtain ⟨v, rfl, rb⟩ := z.one
    obtain ⟨a, ws, rfl, ha, q⟩ := rb.lst r.sub
    exact ⟨a, ns, rfl, SqL.of (by rw [← q.bls]; exact ha), fin _ H R _ (Sub.refl R) r (.bl _) hk⟩
  · exact hw.elim
theorem ag_maxL : AgA K Γ (rMax K) bMaxL := by
  intro C l g σ R H vs ds k Q r z hw fin
  unfold bMaxL at hw
  split at hw
  · obtain ⟨ns, rfl, hn, hk⟩ := hw
    obtain ⟨v, rfl, rb⟩ := z.one
    obtain ⟨a, ws, rfl, ha, q⟩ := rb.lst r.sub
    exact ⟨a, ns, rfl, SqL.of (by rw [← q.ints]; exact ha), List.length_pos_iff.mpr hn, fun m h1 h2 => fin _ H R _ (Sub.refl R) r (.int _) (hk m h1 h2)⟩
  · exact hw.elim
theorem ag_minL : AgA K Γ (rMin K) bMinL := by
  intro C l g σ R H vs ds k Q r z hw fin
  unfold bMinL at hw
  split at hw
  · obtain ⟨ns, rfl, hn, hk⟩ := hw
    obtain ⟨v, rfl, rb⟩ := z.one
    obtain ⟨a, ws, rfl, ha, q⟩ := rb.lst r.sub
    exact ⟨a, ns, rfl, SqL.of (by rw [← q.ints]; exact ha), List.length_pos_iff.mpr hn, fun m h1 h2 => fin _ H R _ (Sub.refl R) r (.int _) (hk m h1 h2)⟩
  · exact hw.elim
theorem ag_max2 : AgA K Γ (fun xs H Q => ∃ i j, xs = [.int i, .int j] ∧ Q (.int (if j > i then j else i)) H) bMax2 := by
  intro C l g σ R H vs ds k Q r z hw fin
  unfold bMax2 at hw
  split at hw
  · obtain ⟨v, u, rfl, rb, rc⟩ := z.two
    rw [rb.int, rc.int]
    exact ⟨_, _, rfl, fin _ H R _ (Sub.refl R) r (.int _) hw⟩
  · exact hw.elim
theorem ag_min2 : AgA K Γ (fun xs H Q => ∃ i j, xs = [.int i, .int j] ∧ Q (.int (if j < i then j else i)) H) bMin2 := by
  intro C l g σ R H vs ds k Q r z hw fin
  unfold bMin2 at hw
  split at hw
  · obtain ⟨v, u, rfl, rb, rc⟩ := z.two
    rw [rb.int, rc.int]
    exact ⟨_, _, rfl, fin _ H R _ (Sub.refl R) r (.int _) hw⟩
  · exact hw.elim
theorem ag_abs : AgA K Γ (fun xs H Q => ∃ i, xs = [.int i] ∧ Q (.int (if i < 0 then -i else i)) H) bAbs := by
  intro C l g σ R H vs ds k Q r z hw fin
  unfold bAbs at hw
  split at hw
  · obtain ⟨v, rfl, rb⟩ := z.one
    rw [rb.int]
    exact ⟨_, rfl, fin _ H R _ (Sub.refl R) r (.int _) hw⟩
  · exact hw.elim
theorem ag_int : AgA K Γ (fun xs H Q => (∃ i, xs = [.int i] ∧ Q (.int i) H) ∨ ∃ k, xs = [.bl k] ∧ Q (.int (if k then 1 else 0)) H) bInt := by
  intro C l g σ R H vs ds k Q r z hw fin
  unfold bInt at hw
  split at hw
  · obtain ⟨v, rfl, rb⟩ := z.one
    rw [rb.int]
    exact .inl ⟨_, rfl, fin _ H R _ (Sub.refl R) r (.int _) hw⟩
  · obtain ⟨v, rfl, rb⟩ := z.one
    rw [rb.bl]
    exact .inr ⟨_, rfl, fin _ H R _ (Sub.refl R) r (.int _) hw⟩
  · exact hw.elim
theorem ag_tuple : AgA K Γ (fun xs H Q => ∃ p ys, xs = [.ref p] ∧ ((SqL K H p ys ∧ ∀ l, H l = none → Q (.ref l) (upd H l (.tup ys))) ∨ (SqT K H p ys ∧ Q (.ref p) H))) bTuple := by
  intro C l g σ R H vs ds k Q r z hw fin
  unfold bTuple at hw
  split at hw
  · obtain ⟨v, rfl, rb⟩ := z.one
    obtain ⟨a, ws, rfl, ha, q⟩ := rb.lst r.sub
    refine ⟨a, ws, rfl, .inl ⟨SqL.of ha, fun p hp => ?_⟩⟩
    obtain ⟨r1, s1, z1⟩ := r.newT hp q
    exact fin _ _ _ _ s1 r1 z1 hw.2
  · obtain ⟨v, rfl, rb⟩ := z.one
    obtain ⟨a, ws, rfl, ha, q⟩ := rb.tup r.sub
    rcases rb with rb | ⟨_, _, rb⟩
    · exact ⟨a, ws, rfl, .inr ⟨SqT.of ha, fin _ H R _ (Sub.refl R) r rb hw⟩⟩
    · exact rb.elim
  · exact hw.elim
theorem ag_list : AgAF K Γ (fun xs H Q => ∃ p ys, xs = [.ref p] ∧ (SqL K H p ys ∨ SqT K H p ys) ∧ ∀ l, H l = none → Q (.ref l) (upd H l (.lst ys))) bList := by
  intro C l g σ R H vs ds k Q r z hw fin
  unfold bList at hw
  split at hw
  · obtain ⟨v, rfl, rb⟩ := z.one
    obtain ⟨a, ws, rfl, ha, q⟩ := rb.lst r.sub
    refine ⟨a, ws, rfl, .inl (SqL.of ha), fun p hp => ?_⟩
    obtain ⟨r1, z1⟩ := r.newLF hp q
    obtain ⟨n1, n2, n3, n4⟩ := r.newF hp
    exact fin p _ _ r1 z1 n1 n2 n3 n4 hw.2
  · obtain ⟨v, rfl, rb⟩ := z.one
    obtain ⟨a, ws, rfl, ha, q⟩ := rb.tup r.sub
    refine ⟨a, ws, rfl, .inr (SqT.of ha), fun p hp => ?_⟩
    obtain ⟨r1, z1⟩ := r.newLF hp q
    obtain ⟨n1, n2, n3, n4⟩ := r.newF hp
    exact fin p _ _ r1 z1 n1 n2 n3 n4 hw.2
  · exact hw.elim
theorem call_lenA : CallR X (.builtin "len") (fun xs H Q => (∃ x n, xs = [x] ∧ LenV X.K x H n ∧ Q (.int n) H) ∨ ((∃ a kvs, xs = [V.ref a] ∧ Rd H a (.dK kvs) ∧ Q (.int kvs.length) H) ∨ rLenT xs H Q)) := fun pins s σ H xs us Q I r h => by
  rcases h with h | ⟨a, kvs, rfl, ha, q⟩ | h
  · exact call_len pins s σ H xs us Q I r h
  · obtain ⟨u, rfl, ru⟩ := vals1 r
    cases ru
    exact d_len I ha fun t s' I' => ⟨.int kvs.length, H, I', ⟨t, rfl⟩, q⟩
  · exact call_len_dT pins s σ H xs us Q I r h
theorem ag_len : AgA K Γ (fun xs H Q => (∃ x n, xs = [x] ∧ LenV K x H n ∧ Q (.int n) H) ∨ ((∃ a kvs, xs = [V.ref a] ∧ Rd H a (.dK kvs) ∧ Q (.int kvs.length) H) ∨ rLenT xs H Q)) bLen := by
  intro C l g σ R H vs ds k Q r z hw fin
  unfold bLen at hw
  split at hw
  · obtain ⟨v, rfl, rb⟩ := z.one
    obtain ⟨a, ws, rfl, ha, q⟩ := rb.lst r.sub
    exact .inl ⟨_, _, rfl, .inl ⟨ws, SqL.of ha, rfl⟩, by rw [q.length]; exact fin _ H R _ (Sub.refl R) r (.int _) hw.2⟩
  · obtain ⟨v, rfl, rb⟩ := z.one
    obtain ⟨a, ws, rfl, ha, q⟩ := rb.tup r.sub
    exact .inl ⟨_, _, rfl, .inr ⟨ws, SqT.of ha, rfl⟩, by rw [q.length]; exact fin _ H R _ (Sub.refl R) r (.int _) hw.2⟩
  · obtain ⟨v, rfl, rb⟩ := z.one
    obtain ⟨x, rfl, rfl⟩ := rb.str
    exact .inl ⟨_, _, rfl, ⟨by rw [str_len, ← lim]; exact hw.1, rfl⟩, by rw [str_len]; exact fin _ H R _ (Sub.refl R) r (.int _) hw.2⟩
  · rename_i t kvs
    obtain ⟨v, rfl, rb⟩ := z.one
    cases t with
    | false =>
      obtain ⟨a, kvs, rfl, ha, q⟩ := rb.dic r.sub
      exact .inr (.inl ⟨a, kvs, rfl, .inl ha, by rw [q.length]; exact fin _ H R _ (Sub.refl R) r (.int _) hw.2⟩)
    | true =>
      obtain ⟨a, kvs, rfl, ha, q⟩ := rb.diT r.sub
      exact .inr (.inr ⟨a, kvs, rfl, ha, by rw [q.length]; exact fin _ H R _ (Sub.refl R) r (.int _) hw.2⟩)
  · exact hw.elim
end
end Lk

set_option autoImplicit false
set_option linter.all false
set_option Elab.async false
set_option maxRecDepth 100000
set_option maxHeartbeats 2000000
namespace Lk
open PySem PySem.Spec PyProof.Rows L2 Dx
section
variable {G : Type} {Γ : GInt G} {X : Cx} {W : WX} {K : Fg}
/-! ### tests -/
theorem tval_run {f : DE G} {t : TE} (ht : ∀ σ H Q, liftE K Γ W f σ H Q → t σ H Q) {σ : L2.St} {H : Hp} {Q : Bool → Hp → Prop} (h : liftT K Γ W (tVal f) σ H Q) : t σ H fun x H1 => ∃ c, x = .bl c ∧ Q c H1 := by
  obtain ⟨C, l, g, R, ex, q, rl, h, k, kx⟩ := h
  refine ht σ H _ ⟨C, l, g, R, ex, _, rl, h, fun x H1 R1 d l1 g1 s1 r1 z1 h1 => ?_, kx⟩
  split at h1
  · cases z1
    exact ⟨_, rfl, k H1 R1 _ l1 g1 s1 r1 h1⟩
  · exact h1.elim
theorem dt_val {e : Expr} {f : DE G} (h : PE X e (liftE X.K Γ W f)) (he : ∀ whole, isTrue e X.env whole = (do let v ← whole; standAt e.pos; holding [v] (truthy v)) := by intro _; rfl) : PT X e (liftT X.K Γ W (tVal f)) :=
  (pt_val h he).imp fun _ _ _ q => tval_run (fun _ _ _ z => z) q
section
variable {a b c : Expr} {pos : Pos} {op op' : CmpOp} {r r' : R2} {w w' : W2} {f f' f'' : DE G} {i : Nat}
theorem dt_cmp (ho : OpR X (compareOp op) r) (ag : Ag2 X.K Γ r w) (ha : PE X a (liftE X.K Γ W f)) (hb : PE X b (liftE X.K Γ W f')) (hm : behindInMarks op b = false := by first | exact nobehind _ (by decide) (by decide) | rfl) :
    PT X (.Compare a [op] [b] pos) (liftT X.K Γ W (tVal (dBin w f f'))) := (pt_cmpR ho ha hb hm).imp fun _ _ _ q => tval_run (fun _ _ _ z => bin_run ag z) q
theorem dt_cmpO (ho : OpR X (compareOp op) r) (ag : Ag2 X.K Γ r w) (ha : PE X a (tVar i)) (hb : PE X b (liftE X.K Γ W f')) (hm : behindInMarks op b = false := by first | exact nobehind _ (by decide) (by decide) | rfl) :
    PT X (.Compare a [op] [b] pos) (liftT X.K Γ W (tVal (dBinO w i f'))) := (pt_cmpR ho ha hb hm).imp fun _ _ _ q => tval_run (fun _ _ _ z => binO_run ag z) q
theorem dt_cmpR (ho : OpR X (compareOp op) r) (ag : Ag2 X.K Γ r w) (ha : PE X a (liftE X.K Γ W f)) (hb : PE X b (tVar i)) (hm : behindInMarks op b = false := by first | exact nobehind _ (by decide) (by decide) | rfl) :
    PT X (.Compare a [op] [b] pos) (liftT X.K Γ W (tVal (dBinR w f i))) := (pt_cmpR ho ha hb hm).imp fun _ _ _ q => tval_run (fun _ _ _ z => binR_run ag z) q
theorem chain_run (ag : Ag2 K Γ r w) (ag' : Ag2 K Γ r' w') {σ : L2.St} {H : Hp} {Q : VK} (h : liftE K Γ W (dChain w w' f f' f'') σ H Q) : tChain r r' (liftE K Γ W f) (liftE K Γ W f') (liftE K Γ W f'') σ H Q := by
  obtain ⟨C, l, g, R, ex, q, rl, h, k, kx⟩ := h
  refine ⟨C, l, g, R, ex, _, rl, h, fun x H1 R1 d l1 g1 s1 r1 z1 h1 => ?_, kx⟩
  refine ⟨C, l1, g1, R1, ex, _, r1, h1, fun y H2 R2 e l2 g2 s2 r2 z2 h2 => ?_, kx.mono s1⟩
  refine ag C l2 g2 σ R2 H2 x y d e _ _ r2 (.of (z1.mono s2)) (.of z2) h2 fun v H3 R3 z s3 r3 zz kk => ?_
  split at kk
  · cases zz
    refine ⟨true, rfl, ?_⟩
    show liftE K Γ W f'' σ H3 _
    refine ⟨C, l2, g2, R3, ex, _, r3, kk, fun u H4 R4 e' l4 g4 s4 r4 z4 h4 => ?_, kx.mono (s1.trans (s2.trans s3))⟩
    exact ag' C l4 g4 σ R4 H4 y u e e' _ _ r4 (.of (z2.mono (s3.trans s4))) (.of z4) h4 fun v H5 R5 z s5 r5 zz kk => k v H5 R5 z l4 g4 (s1.trans (s2.trans (s3.trans (s4.trans s5)))) r5 zz kk
  · cases zz
    refine ⟨false, rfl, ?_⟩
    show Q (.bl false) H3
    exact k _ H3 R3 _ l2 g2 (s1.trans (s2.trans s3)) r3 (.bl _) kk
  · exact kk.elim
theorem d_chain (ho : OpR X (compareOp op) r) (ag : Ag2 X.K Γ r w) (ho' : OpR X (compareOp op') r') (ag' : Ag2 X.K Γ r' w') (ha : PE X a (liftE X.K Γ W f)) (hb : PE X b (liftE X.K Γ W f')) (hc : PE X c (liftE X.K Γ W f''))
    (hm : lastMarks [op, op'] [b, c] = false := by with_unfolding_all rfl) : PE X (.Compare a [op, op'] [b, c] pos) (liftE X.K Γ W (dChain w w' f f' f'')) := (pe_chain ho ho' ha hb hc hm).imp fun _ _ _ h => chain_run ag ag' h
theorem dt_chain (ho : OpR X (compareOp op) r) (ag : Ag2 X.K Γ r w) (ho' : OpR X (compareOp op') r') (ag' : Ag2 X.K Γ r' w') (ha : PE X a (liftE X.K Γ W f)) (hb : PE X b (liftE X.K Γ W f')) (hc : PE X c (liftE X.K Γ W f''))
    (hm : lastMarks [op, op'] [b, c] = false := by with_unfolding_all rfl) : PT X (.Compare a [op, op'] [b, c] pos) (liftT X.K Γ W (tVal (dChain w w' f f' f''))) := (pt_chain ho ho' ha hb hc hm).imp fun _ _ _ q => tval_run (fun _ _ _ z => chain_run ag ag' z) q
end
section
variable {a b c : Expr} {rest : List Expr} {pos : Pos} {t u : DT G} {f f' : DE G}
theorem and_run {σ : L2.St} {H : Hp} {Q : Bool → Hp → Prop} (h : liftT K Γ W (tAnd t u) σ H Q) : L2.tAnd (liftT K Γ W t) (liftT K Γ W u) σ H Q := by
  obtain ⟨C, l, g, R, ex, q, rl, h, k, kx⟩ := h
  refine ⟨C, l, g, R, ex, _, rl, h, fun H1 R1 b l1 g1 s1 r1 h1 => ?_, kx⟩
  cases b with
  | true => exact ⟨C, l1, g1, R1, ex, _, r1, h1, fun H2 R2 b l2 g2 s2 r2 h2 => k H2 R2 b l2 g2 (s1.trans s2) r2 h2, kx.mono s1⟩
  | false => exact k H1 R1 _ l1 g1 s1 r1 h1
theorem or_run {σ : L2.St} {H : Hp} {Q : Bool → Hp → Prop} (h : liftT K Γ W (tOr t u) σ H Q) : L2.tOr (liftT K Γ W t) (liftT K Γ W u) σ H Q := by
  obtain ⟨C, l, g, R, ex, q, rl, h, k, kx⟩ := h
  refine ⟨C, l, g, R, ex, _, rl, h, fun H1 R1 b l1 g1 s1 r1 h1 => ?_, kx⟩
  cases b with
  | false => exact ⟨C, l1, g1, R1, ex, _, r1, h1, fun H2 R2 b l2 g2 s2 r2 h2 => k H2 R2 b l2 g2 (s1.trans s2) r2 h2, kx.mono s1⟩
  | true => exact k H1 R1 _ l1 g1 s1 r1 h1
theorem dw_one {op : BoolOp} (h : PT X a (liftT X.K Γ W t)) : PW X (.BoolOp op [a] pos) (liftT X.K Γ W t) := by
  cases op
  · exact pw_and1 h
  · exact pw_or1 h
theorem dw_and (ha : PT X a (liftT X.K Γ W t)) (hb : PW X (.BoolOp .And (b :: rest) pos) (liftT X.K Γ W u)) : PW X (.BoolOp .And (a :: b :: rest) pos) (liftT X.K Γ W (tAnd t u)) := (pw_and ha hb).imp fun _ _ _ h => and_run h
theorem dw_or (ha : PT X a (liftT X.K Γ W t)) (hb : PW X (.BoolOp .Or (b :: rest) pos) (liftT X.K Γ W u)) : PW X (.BoolOp .Or (a :: b :: rest) pos) (liftT X.K Γ W (tOr t u)) := (pw_or ha hb).imp fun _ _ _ h => or_run h
theorem dt_not (ha : PT X a (liftT X.K Γ W t)) : PT X (.UnaryOp .Not a pos) (liftT X.K Γ W (tNot t)) := (pt_not ha).imp fun σ H Q h => by
  obtain ⟨C, l, g, R, ex, q, rl, h, k, kx⟩ := h
  exact ⟨C, l, g, R, ex, _, rl, h, fun H1 R1 b l1 g1 s1 r1 h1 => k H1 R1 _ l1 g1 s1 r1 h1, kx⟩
theorem d_one {op : BoolOp} (h : PE X a (liftE X.K Γ W f)) : PE X (.BoolOp op [a] pos) (liftE X.K Γ W f) := pe_one h
theorem d_and (ha : PE X a (liftE X.K Γ W f)) (hb : PE X (.BoolOp .And (b :: rest) pos) (liftE X.K Γ W f')) : PE X (.BoolOp .And (a :: b :: rest) pos) (liftE X.K Γ W (dAnd f f')) := (pe_and ha hb).imp fun σ H Q h => by
  obtain ⟨C, l, g, R, ex, q, rl, h, k, kx⟩ := h
  refine ⟨C, l, g, R, ex, _, rl, h, fun x H1 R1 d l1 g1 s1 r1 z1 h1 => ?_, kx⟩
  split at h1
  · cases z1
    exact ⟨true, rfl, C, l1, g1, R1, ex, _, r1, h1, fun v H2 R2 b l2 g2 s2 r2 z2 h2 => k v H2 R2 b l2 g2 (s1.trans s2) r2 z2 h2, kx.mono s1⟩
  · cases z1
    exact ⟨false, rfl, k _ H1 R1 _ l1 g1 s1 r1 (.bl _) h1⟩
  · exact h1.elim
theorem d_or (ha : PE X a (liftE X.K Γ W f)) (hb : PE X (.BoolOp .Or (b :: rest) pos) (liftE X.K Γ W f')) : PE X (.BoolOp .Or (a :: b :: rest) pos) (liftE X.K Γ W (dOr f f')) := (pe_or ha hb).imp fun σ H Q h => by
  obtain ⟨C, l, g, R, ex, q, rl, h, k, kx⟩ := h
  refine ⟨C, l, g, R, ex, _, rl, h, fun x H1 R1 d l1 g1 s1 r1 z1 h1 => ?_, kx⟩
  split at h1
  · cases z1
    exact ⟨true, rfl, k _ H1 R1 _ l1 g1 s1 r1 (.bl _) h1⟩
  · cases z1
    exact ⟨false, rfl, C, l1, g1, R1, ex, _, r1, h1, fun v H2 R2 b l2 g2 s2 r2 z2 h2 => k v H2 R2 b l2 g2 (s1.trans s2) r2 z2 h2, kx.mono s1⟩
  · exact h1.elim
theorem d_not (ha : PE X a (liftE X.K Γ W f)) : PE X (.UnaryOp .Not a pos) (liftE X.K Γ W (dNot f)) := (pe_not ha).imp fun σ H Q h => by
  obtain ⟨C, l, g, R, ex, q, rl, h, k, kx⟩ := h
  refine ⟨C, l, g, R, ex, _, rl, h, fun x H1 R1 d l1 g1 s1 r1 z1 h1 => ?_, kx⟩
  split at h1
  · cases z1
    exact ⟨_, rfl, k _ H1 R1 _ l1 g1 s1 r1 (.bl _) h1⟩
  · exact h1.elim
theorem d_if (hc : PT X c (liftT X.K Γ W t)) (ha : PE X a (liftE X.K Γ W f)) (hb : PE X b (liftE X.K Γ W f')) : PE X (.IfExp c a b pos) (liftE X.K Γ W (dIf t f f')) := (pe_ifExp hc ha hb).imp fun σ H Q h => by
  obtain ⟨C, l, g, R, ex, q, rl, h, k, kx⟩ := h
  refine ⟨C, l, g, R, ex, _, rl, h, fun H1 R1 b l1 g1 s1 r1 h1 => ?_, kx⟩
  cases b with
  | true => exact ⟨C, l1, g1, R1, ex, _, r1, h1, fun v H2 R2 b l2 g2 s2 r2 z2 h2 => k v H2 R2 b l2 g2 (s1.trans s2) r2 z2 h2, kx.mono s1⟩
  | false => exact ⟨C, l1, g1, R1, ex, _, r1, h1, fun v H2 R2 b l2 g2 s2 r2 z2 h2 => k v H2 R2 b l2 g2 (s1.trans s2) r2 z2 h2, kx.mono s1⟩
end
/-! ### isinstance -/
theorem kit_is : ∀ n ∈ ["int", "bool", "str", "list", "tuple", "dict"], ∀ t ∈ ["NoneType", "bool", "int", "str", "tuple", "list", "dict"], kitB t n = some ((t == n) || (t == "bool" && n == "int")) := by decide +kernel
def nrefO : D → Bool
  | .obj _ _ => false
  | d => nref d
def tyN : D → String
  | .non => "NoneType"
  | .bl _ => "bool"
  | .int _ => "int"
  | .str _ => "str"
  | .tup _ => "tuple"
  | .lst _ => "list"
  | _ => "dict"
theorem rb_ty {R H : Hp} {v : V} {d : D} (s : Sub R H) (h : Rb K R H v d) (n : nrefO d = true) : TyX K H v (.type (tyN d)) := by
  cases d with
  | non => rw [h.non]; exact .base .non
  | bl b => rw [h.bl]; exact .base (.bl b)
  | int i => rw [h.int]; exact .base (.int i)
  | str z => obtain ⟨x, rfl, _⟩ := h.str; exact .base (.str x)
  | tup xs => obtain ⟨a, vs, rfl, e, _⟩ := h.tup s; exact .base (.tup e)
  | lst xs => obtain ⟨a, vs, rfl, e, _⟩ := h.lst s; exact .base (.lst e)
  | dic t xs =>
    cases t with
    | false => obtain ⟨a, kvs, rfl, e, _⟩ := h.dic s; exact .base (.dK e)
    | true => obtain ⟨a, kvs, rfl, e, _⟩ := h.diT s; exact .base (.dT e)
  | _ => simp [nrefO, nref] at n
theorem ty_in (d : D) : tyN d ∈ ["NoneType", "bool", "int", "str", "tuple", "list", "dict"] := by cases d <;> simp [tyN]
theorem ty_is {d : D} (n : nrefO d = true) {m : String} : ((tyN d == m) || (tyN d == "bool" && m == "int")) = isTy m d := by
  cases d with
  | ref _ => cases n
  | ty _ => cases n
  | kt _ => cases n
  | obj _ _ => cases n
  | st _ => cases n
  | exc _ _ _ _ => cases n
  | bl b =>
    show ((("bool" : String) == m) || (true && m == "int")) = (m == "bool" || m == "int")
    rw [Bool.true_and, Bool.beq_comm (a := "bool")]
  | non =>
    show ((("NoneType" : String) == m) || (false && m == "int")) = (m == "NoneType")
    rw [Bool.false_and, Bool.or_false, Bool.beq_comm]
  | int _ =>
    show ((("int" : String) == m) || (false && m == "int")) = (m == "int")
    rw [Bool.false_and, Bool.or_false, Bool.beq_comm]
  | str _ =>
    show ((("str" : String) == m) || (false && m == "int")) = (m == "str")
    rw [Bool.false_and, Bool.or_false, Bool.beq_comm]
  | tup _ =>
    show ((("tuple" : String) == m) || (false && m == "int")) = (m == "tuple")
    rw [Bool.false_and, Bool.or_false, Bool.beq_comm]
  | lst _ =>
    show ((("list" : String) == m) || (false && m == "int")) = (m == "list")
    rw [Bool.false_and, Bool.or_false, Bool.beq_comm]
  | dic _ _ =>
    show ((("dict" : String) == m) || (false && m == "int")) = (m == "dict")
    rw [Bool.false_and, Bool.or_false, Bool.beq_comm]
theorem is_tyN {d : D} (n : nrefO d = true) {m : String} (hm : m ∈ ["int", "bool", "str", "list", "tuple", "dict"]) : kitB (tyN d) m = some (isTy m d) := by
  rw [kit_is m hm _ (ty_in d), ty_is n]
theorem d_is {a : Expr} {f : DE G} {n : String} {x : Str} {p p2 pos : Pos} (ha : PE X a (liftE X.K Γ W f)) (hn : n ∈ ["int", "bool", "str", "list", "tuple", "dict"]) (hg : Gl X "isinstance") (hm : X.mg "isinstance" = none) (ht : PE X (.Name x p2) (tC (.ty n)))
    (he : starEach [a, .Name x p2] X.env = (false, eval a X.env) :: starEach [.Name x p2] X.env := by rfl) (hpl : (backTo pos (starEach [.Name x p2] X.env)).any (·.1) = false := by rfl) :
    PE X (.Call (.Name "isinstance" p) [a, .Name x p2] [] pos) (liftE X.K Γ W (dIs [n] f)) :=
  (pe_callB call_isi hg hm boot_isinstance (pa_cons ha (pa_cons ht pa_nil) he) (he := he) (hpl := hpl)).imp fun σ H Q h => by
    obtain ⟨C, l, g, R, ex, q, rl, h, k, kx⟩ := h
    refine ⟨C, l, g, R, ex, _, rl, h, fun v H1 R1 d l1 g1 s1 r1 z1 h1 => ?_, kx⟩
    have h2 := h1.2
    by_cases ho : nrefO d = true
    · refine ⟨v, .ty n, _, _, _, rfl, .ty n, rb_ty r1.sub (.of z1) ho, kit_ty (is_tyN ho hn), k _ H1 R1 _ l1 g1 s1 r1 (.bl _) ?_⟩
      simpa using h2
    · have hn0 := h1.1
      cases d with
      | obj c fs =>
        cases z1 with
        | obj hR kn hF =>
          obtain ⟨k1, k2, k3⟩ := kn
          refine ⟨_, .ty n, _, _, false, rfl, .ty n, .base (.ins (r1.sub _ _ hR) k1 k3.ca k3.cg k3.ct k3.cm), k3.no n hn, k _ H1 R1 _ l1 g1 s1 r1 (.bl _) ?_⟩
          simpa [isTy] using h2
      | _ => exact absurd hn0 ho
theorem d_isO {i : Nat} {n : String} {x y : Str} {p p2 p3 pos : Pos} (ha : PE X (.Name y p3) (tVar i)) (hn : n ∈ ["int", "bool", "str", "list", "tuple", "dict"]) (hg : Gl X "isinstance") (hm : X.mg "isinstance" = none) (ht : PE X (.Name x p2) (tC (.ty n))) :
    PE X (.Call (.Name "isinstance" p) [.Name y p3, .Name x p2] [] pos) (liftE X.K Γ W (dIsO [n] i)) :=
  (pe_callB call_isi hg hm boot_isinstance (pa_cons ha (pa_cons ht pa_nil))).imp fun σ H Q h => by
    obtain ⟨C, l, g, R, ex, q, rl, h, k, kx⟩ := h
    obtain ⟨d, ed, h1⟩ := getO_ex h
    obtain ⟨a, ea, oa, _⟩ := rl.ow i d ed
    have hn2 : nrefO d = true := by
      cases d <;> first | rfl | exact oa.elim
    refine ⟨.ref a, ea, .ref a, .ty n, _, _, _, rfl, .ty n, rb_ty rl.sub (.inr ⟨a, rfl, oa⟩) hn2, kit_ty (is_tyN hn2 hn), k _ H R _ l g (Sub.refl R) rl (.bl _) ?_⟩
    simpa using h1
end
end Lk

set_option autoImplicit false
set_option linter.all false
set_option Elab.async false
set_option maxRecDepth 100000
set_option maxHeartbeats 2000000
namespace Lk
open PySem PySem.Spec PyProof.Rows L2 Dx
section
variable {G : Type} {Γ : GInt G} {X : Cx} {W : WX} {K : Fg} {pos : Pos}
/-! ### statements -/
theorem seq_run {a b : DS G} {D : Ends} {σ : L2.St} {H : Hp} (h : liftS K Γ W (sSeq a b) D σ H) : tSeq (liftS K Γ W a) (liftS K Γ W b) D σ H := by
  obtain ⟨C, l, g, R, ex, E, r, h, k1, k2, k3, k4, kx⟩ := h
  refine ⟨C, l, g, R, ex, _, r, h, fun σ' H' R' l' g' s' r' h' => ?_, k2, k3, k4, kx⟩
  exact ⟨C, l', g', R', ex, E, r', h', fun σ2 H2 R2 l2 g2 s2 => k1 σ2 H2 R2 l2 g2 (s'.trans s2), fun v σ2 H2 R2 d l2 g2 s2 => k2 v σ2 H2 R2 d l2 g2 (s'.trans s2), fun σ2 H2 R2 l2 g2 s2 => k3 σ2 H2 R2 l2 g2 (s'.trans s2),
    fun σ2 H2 R2 l2 g2 s2 => k4 σ2 H2 R2 l2 g2 (s'.trans s2), fun σ2 => (kx σ2).mono s'⟩
theorem ds_nil : PSs X [] (liftS X.K Γ W sNil) := pss_nil.imp fun D σ H ⟨C, l, g, R, ex, E, r, h, k1, _⟩ => k1 σ H R l g (Sub.refl R) r h
theorem ds_cons {st : Stmt} {rest : List Stmt} {a b : DS G} (h1 : PS X st (liftS X.K Γ W a)) (h2 : PSs X rest (liftS X.K Γ W b)) : PSs X (st :: rest) (liftS X.K Γ W (sSeq a b)) := (pss_cons h1 h2).imp fun _ _ _ h => seq_run h
theorem ds_one {st : Stmt} {a : DS G} (h1 : PS X st (liftS X.K Γ W a)) : PSs X [st] (liftS X.K Γ W a) := pss_one h1
section
variable {i : Nat} {x : Str} {e : Expr} {p2 : Pos} {f : DE G}
theorem set_run {t : TE} (ht : ∀ σ H Q, liftE K Γ W f σ H Q → t σ H Q) {D : Ends} {σ : L2.St} {H : Hp} (h : liftS K Γ W (sSet i f) D σ H) : tAsg t (gName i) D σ H := by
  obtain ⟨C, l, g, R, ex, E, r, h, k1, k2, k3, k4, kx⟩ := h
  exact ht σ H _ ⟨C, l, g, R, ex, _, r, h, fun v H1 R1 d l1 g1 s1 r1 z1 h1 => k1 _ H1 R1 _ g1 s1 (r1.setV z1) h1, kx σ⟩
theorem own_run {t : TE} (ht : ∀ σ H Q, liftF K Γ W f σ H Q → t σ H Q) {D : Ends} {σ : L2.St} {H : Hp} (h : liftS K Γ W (sOwn i f) D σ H) : tAsg t (gName i) D σ H := by
  obtain ⟨C, l, g, R, ex, E, r, h, k1, k2, k3, k4, kx⟩ := h
  exact ht σ H _ ⟨C, l, g, R, ex, _, r, h, fun a H1 R1 d l1 g1 s1 r1 z1 n1 n2 n3 n4 h1 => k1 _ H1 R1 _ g1 s1 (r1.setO z1 n1 n2 n3 n4) h1, kx σ⟩
theorem ds_set (hN : X.N.Nodup) (hi : X.N[i]? = some x) (hx : Loc X.env.scope x) (he : PE X e (liftE X.K Γ W f)) (hs : swapsWith e (some (.Name x p2)) pos.line X.env = pure false := by rfl)
    (hf : X.fn x = true ∨ X.env.scope.names.lookup x = some .local := by first | exact .inl rfl | exact .inr rfl | assumption) : PS X (.Assign [.Name x p2] e pos) (liftS X.K Γ W (sSet i f)) := (ps_set hN hi hx he hs hf).imp fun _ _ _ h => set_run (fun _ _ _ z => z) h
theorem ds_own (hN : X.N.Nodup) (hi : X.N[i]? = some x) (hx : Loc X.env.scope x) (he : PE X e (liftF X.K Γ W f)) (hs : swapsWith e (some (.Name x p2)) pos.line X.env = pure false := by rfl)
    (hf : X.fn x = true ∨ X.env.scope.names.lookup x = some .local := by first | exact .inl rfl | exact .inr rfl | assumption) : PS X (.Assign [.Name x p2] e pos) (liftS X.K Γ W (sOwn i f)) := (ps_set hN hi hx he hs hf).imp fun _ _ _ h => own_run (fun _ _ _ z => z) h
theorem ds_expr (he : PE X e (liftE X.K Γ W f)) (hs : swapsWith e none pos.line X.env = pure false := by rfl) : PS X (.Expr e pos) (liftS X.K Γ W (sDrop f)) := (ps_expr he hs).imp fun D σ H h => by
  obtain ⟨C, l, g, R, ex, E, r, h, k1, k2, k3, k4, kx⟩ := h
  exact ⟨C, l, g, R, ex, _, r, h, fun v H1 R1 d l1 g1 s1 r1 z1 h1 => k1 _ H1 R1 _ g1 s1 r1 h1, kx σ⟩
theorem ds_ret (he : PE X e (liftE X.K Γ W f)) : PS X (.Return (some e) pos) (liftS X.K Γ W (sRet f)) := (ps_ret he).imp fun D σ H h => by
  obtain ⟨C, l, g, R, ex, E, r, h, k1, k2, k3, k4, kx⟩ := h
  exact ⟨C, l, g, R, ex, _, r, h, fun v H1 R1 d l1 g1 s1 r1 z1 h1 => k2 v σ H1 R1 d l1 g1 s1 r1 (.inl ⟨z1, h1⟩), kx σ⟩
theorem ds_retF (he : PE X e (liftF X.K Γ W f)) : PS X (.Return (some e) pos) (liftS X.K Γ W (sRetF f)) := (ps_ret he).imp fun D σ H h => by
  obtain ⟨C, l, g, R, ex, E, r, h, k1, k2, k3, k4, kx⟩ := h
  exact ⟨C, l, g, R, ex, _, r, h, fun a H1 R1 d l1 g1 s1 r1 z1 n1 n2 n3 n4 h1 => k2 _ σ H1 R1 d l1 g1 s1 r1 (.inr ⟨⟨a, rfl, z1, n1, n2, n3⟩, h1⟩), kx σ⟩
theorem ds_if {c : Expr} {a b : List Stmt} {t : DT G} {u v : DS G} (hc : PT X c (liftT X.K Γ W t)) (ha : PSs X a (liftS X.K Γ W u)) (hb : PSs X b (liftS X.K Γ W v)) : PS X (.If c a b pos) (liftS X.K Γ W (sIf t u v)) := (ps_if hc ha hb).imp fun D σ H h => by
  obtain ⟨C, l, g, R, ex, E, r, h, k1, k2, k3, k4, kx⟩ := h
  refine ⟨C, l, g, R, ex, _, r, h, fun H1 R1 b l1 g1 s1 r1 h1 => ?_, kx σ⟩
  have go : ∀ {w : DS G}, w ex E l1 g1 → liftS X.K Γ W w D σ H1 := fun hw => ⟨C, l1, g1, R1, ex, E, r1, hw, fun σ2 H2 R2 l2 g2 s2 => k1 σ2 H2 R2 l2 g2 (s1.trans s2), fun v σ2 H2 R2 d l2 g2 s2 => k2 v σ2 H2 R2 d l2 g2 (s1.trans s2),
    fun σ2 H2 R2 l2 g2 s2 => k3 σ2 H2 R2 l2 g2 (s1.trans s2), fun σ2 H2 R2 l2 g2 s2 => k4 σ2 H2 R2 l2 g2 (s1.trans s2), fun σ2 => (kx σ2).mono s1⟩
  cases b with
  | true => exact go h1
  | false => exact go h1
theorem ds_pass : PS X (.Pass pos) (liftS X.K Γ W sPass) := ps_pass.imp fun D σ H ⟨C, l, g, R, ex, E, r, h, k1, _⟩ => k1 σ H R l g (Sub.refl R) r h
theorem ds_break : PS X (.Break pos) (liftS X.K Γ W sBreak) := ps_break.imp fun D σ H ⟨C, l, g, R, ex, E, r, h, _, _, k3, _⟩ => k3 σ H R l g (Sub.refl R) r h
theorem ds_cont : PS X (.Continue pos) (liftS X.K Γ W sCont) := ps_continue.imp fun D σ H ⟨C, l, g, R, ex, E, r, h, _, _, _, k4, _⟩ => k4 σ H R l g (Sub.refl R) r h
theorem ds_never {st : Stmt} : PS X st (liftS X.K Γ W sNever) := ⟨fun pins s σ H D I h => by
  obtain ⟨C, l, g, R, ex, E, r, h, _⟩ := h
  exact h.elim⟩
theorem ds_aug {op : Operator} {rr : R2} {w : W2} (hN : X.N.Nodup) (hi : X.N[i]? = some x) (hx : Loc X.env.scope x) (he : PE X e (liftE X.K Γ W f)) (ho : PIp X op rr) (ag : Ag2 X.K Γ rr w)
    (hf : X.fn x = true ∨ X.env.scope.names.lookup x = some .local := by first | exact .inl rfl | exact .inr rfl | assumption) : PS X (.AugAssign (.Name x p2) op e pos) (liftS X.K Γ W (sAug i w f)) := (ps_aug hN hi hx he ho hf).imp fun D σ H h => by
  obtain ⟨C, l, g, R, ex, E, r, h, k1, k2, k3, k4, kx⟩ := h
  obtain ⟨d, ed, h⟩ := getV_ex h
  obtain ⟨v, ev, z⟩ := r.va i d ed
  refine ⟨v, ev, C, l, g, R, ex, _, r, h, fun y H1 R1 e l1 g1 s1 r1 z1 h1 => ?_, kx σ⟩
  exact ag C l1 g1 σ R1 H1 v y d e _ _ r1 (.of (z.mono s1)) (.of z1) h1 fun u H2 R2 z2 s2 r2 zz kk => k1 _ H2 R2 _ g1 (s1.trans s2) (r2.setV zz) kk
end
/-! ### targets -/
def liftG (K : Fg) (Γ : GInt G) (ws : List Nat) (t : Tg) : TG := fun v σ H Q => ∃ (C : Fx) (l : L) (g : G) (R : Hp) (d : D) (k : L → Prop), Rel K Γ C l g σ R H ∧ Rep K R v d ∧ t d l k ∧ ∀ σ' l', (∀ j, j ∉ ws → σ'[j]? = σ[j]?) → Rel K Γ C l' g σ' R H → k l' → Q σ' H
def liftGs (K : Fg) (Γ : GInt G) (ws : List Nat) (t : Tgs) : TGs := fun vs σ H Q => ∃ (C : Fx) (l : L) (g : G) (R : Hp) (ds : List D) (k : L → Prop), Rel K Γ C l g σ R H ∧ Reps K R vs ds ∧ t ds l k ∧ ∀ σ' l', (∀ j, j ∉ ws → σ'[j]? = σ[j]?) → Rel K Γ C l' g σ' R H → k l' → Q σ' H
theorem _root_.L2.PG.imp {e : Expr} {t u : TG} (h : PG X e t) (k : ∀ v σ H Q, u v σ H Q → t v σ H Q) : PG X e u := ⟨fun pins s σ H v uu Q I r q => h.run pins s σ H v uu Q I r (k v σ H Q q)⟩
theorem _root_.L2.PGs.imp {e : List Expr} {t u : TGs} (h : PGs X e t) (k : ∀ v σ H Q, u v σ H Q → t v σ H Q) : PGs X e u := ⟨fun pins s σ H v uu Q I r q => h.run pins s σ H v uu Q I r (k v σ H Q q)⟩
theorem dg_name {i : Nat} {x : Str} {p2 : Pos} (hN : X.N.Nodup) (hi : X.N[i]? = some x) (hx : Loc X.env.scope x) (hf : X.fn x = true ∨ X.env.scope.names.lookup x = some .local := by first | exact .inl rfl | exact .inr rfl | assumption) : PG X (.Name x p2) (liftG X.K Γ [i] (gNm i)) :=
  (pg_name hN hi hx hf).imp fun v σ H Q ⟨C, l, g, R, d, k, r, z, h, q⟩ => q _ _ (fun j hj => by
    have : i ≠ j := fun e => hj (by simp [e])
    rw [List.getElem?_set_ne this]) (r.setV z) h
theorem dgs_nil : PGs X [] (liftGs X.K Γ [] gsNil) := pgs_nil.imp fun vs σ H Q ⟨C, l, g, R, ds, k, r, z, h, q⟩ => by
  obtain ⟨rfl, h⟩ := h
  cases z
  exact ⟨rfl, q _ _ (fun _ _ => rfl) r h⟩
theorem dgs_cons {e : Expr} {es : List Expr} {t : Tg} {u : Tgs} {ws vs : List Nat} (h1 : PG X e (liftG X.K Γ ws t)) (h2 : PGs X es (liftGs X.K Γ vs u)) (hs : (assignEach (e :: es) X.env).map (·.2) = assign e X.env :: (assignEach es X.env).map (·.2) := by rfl) : PGs X (e :: es) (liftGs X.K Γ (ws ++ vs) (gsCons t u)) :=
  (pgs_cons h1 h2 hs).imp fun vs σ H Q ⟨C, l, g, R, ds, k, r, z, h, q⟩ => by
    cases z with
    | nil => exact h.elim
    | cons a b => exact ⟨_, _, rfl, C, l, g, R, _, _, r, a, h, fun σ1 l1 w1 r1 h1 => ⟨C, l1, g, R, _, k, r1, b, h1, fun σ2 l2 w2 r2 h2 => q σ2 l2 (fun j hj => by
      rw [List.mem_append, not_or] at hj
      rw [w2 j hj.2, w1 j hj.1]) r2 h2⟩⟩
theorem dg_tup {es : List Expr} {kk : Nat} {t : Tgs} {n : Nat} {p2 : Pos} {ws : List Nat} (hc : X.calm = true) (h : PGs X es (liftGs X.K Γ ws t)) (hn : (assignEach es X.env).length = n := by rfl) (hst : (assignEach es X.env).findIdx? (·.1) = none := by rfl) :
    PG X (.Tuple es kk p2) (liftG X.K Γ ws (gTp n t)) := (pg_tup hc h hn hst).imp fun v σ H Q ⟨C, l, g, R, d, k, r, z, h, q⟩ => by
  unfold gTp at h
  split at h
  · cases z with
    | tup e zs => exact ⟨_, _, rfl, SqT.of (r.sub _ _ e), zs.length.trans h.1, C, l, g, R, _, k, r, zs, h.2, q⟩
  · cases z with
    | kt e zs => exact ⟨_, _, rfl, e.sqt H, zs.length.trans h.1, C, l, g, R, _, k, r, zs, h.2, q⟩
  · exact h.elim
theorem ds_tgt {tg e : Expr} {t : Tg} {f : DE G} {ws : List Nat} (he : PE X e (liftE X.K Γ W f)) (hg : PG X tg (liftG X.K Γ ws t)) (hs : swapsWithSole [tg] e pos.line X.env = pure false := by rfl) (hw : swappedStores [tg] e X.env = pure none := by rfl)
    (h1 : (assignEach [tg] X.env).map (·.2) = [assign tg X.env] := by rfl) : PS X (.Assign [tg] e pos) (liftS X.K Γ W (sTgt t f)) := (ps_asg he hg hs hw h1).imp fun D σ H h => by
  obtain ⟨C, l, g, R, ex, E, r, h, k1, k2, k3, k4, kx⟩ := h
  exact ⟨C, l, g, R, ex, _, r, h, fun v H1 R1 d l1 g1 s1 r1 z1 h1 => ⟨C, l1, g1, R1, d, _, r1, z1, h1, fun σ' l' _ r' h' => k1 σ' H1 R1 l' g1 s1 r' h'⟩, kx σ⟩
/-! ### what is walked -/
/-- J gives the items ds, one by one, at every state with what stays of R -/
def Wk (K : Fg) (Γ : GInt G) (C : Fx) (R : Hp) (J : It) (ds : List D) : Prop := ∀ R1 H l g σ, Sub R R1 → Rel K Γ C l g σ R1 H → ∀ i : Nat,
  (i < ds.length → J.go i H ∧ ∀ x H', J.yld i H x H' → ∃ R', Sub R1 R' ∧ Rel K Γ C l g σ R' H' ∧ ∃ d, ds[i]? = some d ∧ Rep K R' x d) ∧ (i = ds.length → J.stop i H)
def liftI (K : Fg) (Γ : GInt G) (W : WX) (it : DI G) : TI := fun σ H P => ∃ (C : Fx) (l : L) (g : G) (R : Hp) (ex : XW G) (q : List D → L → G → Prop), Rel K Γ C l g σ R H ∧ it ex l g q ∧
  (∀ J H' R' ds l' g', Sub R R' → Rel K Γ C l' g' σ R' H' → (∀ C', Wk K Γ C' R' J ds) → q ds l' g' → P J H') ∧ XTo K Γ C R ex (fun c d H' => W c d σ H') σ
theorem _root_.L2.PI.imp {tg e : Expr} {t u : TI} (h : PI X tg e t) (k : ∀ σ H Q, u σ H Q → t σ H Q) : PI X tg e u := ⟨fun pins s σ H P I q => h.run pins s σ H P I (k σ H P q)⟩
theorem _root_.L2.PI.or {tg e : Expr} {t u : TI} (h : PI X tg e t) (h' : PI X tg e u) : PI X tg e (fun σ H P => t σ H P ∨ u σ H P) := ⟨fun pins s σ H P I q => q.elim (h.run pins s σ H P I) (h'.run pins s σ H P I)⟩
theorem wk_list {C : Fx} {R : Hp} {a : Addr} {vs : List V} {ds : List D} (e : R a = some (.lst vs)) (z : Reps K R vs ds) : Wk K Γ C R (Itl K a) ds := fun R1 H l g σ s r i => by
  have eH := r.sub _ _ (s _ _ e)
  refine ⟨fun hi => ?_, fun e => have hi := Nat.le_of_eq e.symm; ⟨vs, SqL.of eH, by rw [z.length]; exact hi⟩⟩
  obtain ⟨v, hv, zv⟩ := z.get (List.getElem?_eq_getElem hi)
  refine ⟨⟨vs, v, SqL.of eH, hv⟩, fun x H' ⟨e1, y⟩ => ?_⟩
  subst e1
  have := y vs (SqL.of eH)
  rw [hv] at this
  cases this
  exact ⟨R1, Sub.refl R1, r, _, List.getElem?_eq_getElem hi, zv.mono s⟩
theorem wk_tup {C : Fx} {R : Hp} {a : Addr} {vs : List V} {ds : List D} (e : R a = some (.tup vs)) (z : Reps K R vs ds) : Wk K Γ C R (Itt K a) ds := fun R1 H l g σ s r i => by
  have eH := r.sub _ _ (s _ _ e)
  refine ⟨fun hi => ?_, fun e => have hi := Nat.le_of_eq e.symm; ⟨vs, SqT.of eH, by rw [z.length]; exact hi⟩⟩
  obtain ⟨v, hv, zv⟩ := z.get (List.getElem?_eq_getElem hi)
  refine ⟨⟨vs, v, SqT.of eH, hv⟩, fun x H' ⟨e1, y⟩ => ?_⟩
  subst e1
  have := y vs (SqT.of eH)
  rw [hv] at this
  cases this
  exact ⟨R1, Sub.refl R1, r, _, List.getElem?_eq_getElem hi, zv.mono s⟩
theorem wk_rng {C : Fx} {R : Hp} (lo : Int) (n : Nat) : Wk K Γ C R (Itr lo n) (rng lo n) := fun R1 H l g σ s r i => by
  have hl : (rng lo n).length = n := by simp [rng]
  refine ⟨fun hi => ⟨by rw [hl] at hi; exact hi, fun x H' ⟨e1, y⟩ => ?_⟩, fun e => have hi := Nat.le_of_eq e.symm; by rw [hl] at hi; exact hi⟩
  subst e1 y
  refine ⟨R1, Sub.refl R1, r, .int (lo + i), ?_, .int _⟩
  rw [hl] at hi
  simp [rng, hi]
theorem wk_str {C : Fx} {R : Hp} (x : Str) : Wk K Γ C R (Its x) (x.cps.toList.map fun c => .str [c]) := fun R1 H l g σ s r i => by
  have hl : (x.cps.toList.map fun c => D.str [c]).length = x.cps.size := by simp
  refine ⟨fun hi => ⟨by rw [hl] at hi; exact hi, fun v H' ⟨e1, c, hc, y⟩ => ?_⟩, fun e => have hi := Nat.le_of_eq e.symm; by rw [hl] at hi; exact hi⟩
  subst e1 y
  refine ⟨R1, Sub.refl R1, r, .str [c], ?_, .str ⟨#[c]⟩⟩
  rw [List.getElem?_map, Array.getElem?_toList, hc]
  rfl
theorem di_e {tg e : Expr} {f : DE G} (he : PE X e (liftE X.K Γ W f)) : PI X tg e (liftI X.K Γ W (iE f)) := by
  refine ⟨fun pins s σ H P I ⟨C, l, g, R, ex, q, r, h, k, kx⟩ => ?_⟩
  refine thn (he.run pins s σ H (fun x H1 => (∃ a, x = .ref a ∧ (∃ xs, SqL X.K H1 a xs) ∧ P (Itl X.K a) H1) ∨ ((∃ a, x = .ref a ∧ (∃ xs, SqT X.K H1 a xs) ∧ P (Itt X.K a) H1) ∨ ∃ z, x = .str z ∧ P (Its z) H1)) I
    ⟨C, l, g, R, ex, _, r, h, fun x H1 R1 d l1 g1 s1 r1 z1 h1 => ?_, kx⟩) fun v s1 ⟨x, H1, I1, r1, q1⟩ => ?_
  · cases d with
    | lst xs =>
      cases z1 with
      | lst e z => exact .inl ⟨_, rfl, ⟨_, SqL.of (r1.sub _ _ e)⟩, k _ H1 R1 xs l1 g1 s1 r1 (fun _ => wk_list e z) h1⟩
    | tup xs =>
      cases z1 with
      | tup e z => exact .inr (.inl ⟨_, rfl, ⟨_, SqT.of (r1.sub _ _ e)⟩, k _ H1 R1 xs l1 g1 s1 r1 (fun _ => wk_tup e z) h1⟩)
    | str xs =>
      cases z1 with
      | str y => exact .inr (.inr ⟨y, rfl, k _ H1 R1 _ l1 g1 s1 r1 (fun _ => wk_str y) h1.2⟩)
    | _ => exact (show False from h1).elim
  · rcases q1 with ⟨a, e, ⟨xs, hq⟩, q⟩ | ⟨a, e, ⟨xs, hq⟩, q⟩ | ⟨z, e, q⟩
    · subst e
      cases r1
      obtain ⟨its, rv, p, hz⟩ := I1.list hq
      refine wpAny_pyIter_list p.isList ?_
      refine ⟨s1.heap.objs.size, [s1.heap.objs.size], _, _, H1, rfl, I1.kept (t' := s1.toks) fun b o e => Heap.get?_push_of_some _ e, turn_list a _, ⟨_, Heap.get?_push_size _ rfl, rfl, rfl⟩, fun b hb => ?_, q⟩
      have e : b = s1.heap.objs.size := by simpa using hb
      subst e
      exact I1.fpOk (Nat.le_refl _) (I1.hok.fresh (Nat.le_refl _))
    · subst e
      cases r1
      obtain ⟨its, rv, p, hz⟩ := I1.tuple hq
      refine wpAny_pyIter_tuple (show s1.heap.IsTuple a its.toArray from p) ?_
      refine ⟨s1.heap.objs.size, [s1.heap.objs.size], _, _, H1, rfl, I1.kept (t' := s1.toks) fun b o e => Heap.get?_push_of_some _ e, turn_tuple a _, ⟨_, Heap.get?_push_size _ rfl, rfl, rfl⟩, fun b hb => ?_, q⟩
      have e : b = s1.heap.objs.size := by simpa using hb
      subst e
      exact I1.fpOk (Nat.le_refl _) (I1.hok.fresh (Nat.le_refl _))
    · subst e
      obtain ⟨t, rfl⟩ := r1
      cases ha : z.cps.all (· < 128)
      · exact wpAny_pyIter_wide ha (pi_one (tk := s1.toks) I1 _ (turn_str _ z t "str_iterator" (.inr rfl)) ⟨_, Heap.get?_push_size _ rfl, rfl, rfl⟩ q)
      · exact wpAny_pyIter_ascii ha (pi_one (tk := s1.toks) I1 _ (turn_str _ z t "str_ascii_iterator" (.inl rfl)) ⟨_, Heap.get?_push_size _ rfl, rfl, rfl⟩ q)
theorem di_r1 {tg a : Expr} {f : DE G} {p : Pos} (hg : Gl X "range") (hm : X.mg "range" = none) (ha : PE X a (liftE X.K Γ W f)) (hs : starEach [a] X.env = [(false, eval a X.env)] := by rfl) : PI X tg (.Call (.Name "range" p) [a] [] pos) (liftI X.K Γ W (iR1 f)) :=
  (pi_range1 hg hm (pa_cons ha pa_nil hs) hs).imp fun σ H P ⟨C, l, g, R, ex, q, r, h, k, kx⟩ => by
    refine ⟨C, l, g, R, ex, _, r, h, fun x H1 R1 d l1 g1 s1 r1 z1 h1 => ?_, kx⟩
    split at h1
    · cases z1
      exact ⟨_, rfl, h1.1, h1.2.1, k _ H1 R1 _ l1 g1 s1 r1 (fun _ => wk_rng 0 _) h1.2.2⟩
    · exact h1.elim
theorem di_r2 {tg a b : Expr} {f f' : DE G} {p : Pos} (hg : Gl X "range") (hm : X.mg "range" = none) (ha : PE X a (liftE X.K Γ W f)) (hb : PE X b (liftE X.K Γ W f')) (hs : starEach [a, b] X.env = [(false, eval a X.env), (false, eval b X.env)] := by rfl)
    (hs2 : starEach [b] X.env = [(false, eval b X.env)] := by rfl) : PI X tg (.Call (.Name "range" p) [a, b] [] pos) (liftI X.K Γ W (iR2 f f')) :=
  (pi_range2 hg hm (pa_cons ha (pa_cons hb pa_nil hs2) (by rw [hs, hs2])) hs hs2).imp fun σ H P ⟨C, l, g, R, ex, q, r, h, k, kx⟩ => by
    refine ⟨C, l, g, R, ex, _, r, h, fun x H1 R1 d l1 g1 s1 r1 z1 h1 => ?_, kx⟩
    refine ⟨C, l1, g1, R1, ex, _, r1, h1, fun y H2 R2 e l2 g2 s2 r2 z2 h2 => ?_, kx.mono s1⟩
    show ∃ i j : Int, [x, y] = [.int i, .int j] ∧ _ ∧ _
    split at h2
    · cases z1
      cases z2
      exact ⟨_, _, rfl, h2.1, k _ H2 R2 _ l2 g2 (s1.trans s2) r2 (fun _ => wk_rng _ _) h2.2⟩
    · exact h2.elim
theorem num_get (xs : List D) {i : Nat} {d : D} (h : xs[i]? = some d) : (numd xs)[i]? = some (.tup [.int i, d]) := by
  obtain ⟨hi, e⟩ := List.getElem?_eq_some_iff.mp h
  unfold numd
  rw [List.getElem?_zipWith]
  simp [hi, e]
theorem num_len (xs : List D) : (numd xs).length = xs.length := by simp [numd]
theorem wk_enum {C : Fx} {R : Hp} {a : Addr} {vs : List V} {ds : List D} (e : R a = some (.lst vs)) (z : Reps K R vs ds) : Wk K Γ C R (Ite K a) (numd ds) := fun R1 H l g σ s r i => by
  have eH := r.sub _ _ (s _ _ e)
  rw [num_len]
  refine ⟨fun hi => ?_, fun e => have hi := Nat.le_of_eq e.symm; ⟨vs, SqL.of eH, by rw [z.length]; exact hi⟩⟩
  obtain ⟨v, hv, zv⟩ := z.get (List.getElem?_eq_getElem hi)
  refine ⟨⟨vs, v, SqL.of eH, hv⟩, fun x H' ⟨T, y, e0, hT, e1, hy⟩ => ?_⟩
  subst e0 e1
  have := hy vs (SqL.of eH)
  rw [hv] at this
  cases this
  obtain ⟨r2, s2, z2⟩ := r.newT (ds := [.int i, ds[i]]) hT (.cons (.int _) (.one (zv.mono s)))
  exact ⟨_, s2, r2, _, num_get ds (List.getElem?_eq_getElem hi), z2⟩
theorem di_enum {e : Expr} {f : DE G} {p tpos : Pos} {elts : List Expr} {kk : Nat} (hg : Gl X "enumerate") (hm : X.mg "enumerate" = none) (ha : PE X e (liftE X.K Γ W f)) (hs : starEach [e] X.env = [(false, eval e X.env)] := by rfl) :
    PI X (.Tuple elts kk tpos) (.Call (.Name "enumerate" p) [e] [] pos) (liftI X.K Γ W (iEnum f)) :=
  (pi_enum hg hm (pa_cons ha pa_nil hs) hs).imp fun σ H P ⟨C, l, g, R, ex, q, r, h, k, kx⟩ => by
    refine ⟨C, l, g, R, ex, _, r, h, fun x H1 R1 d l1 g1 s1 r1 z1 h1 => ?_, kx⟩
    split at h1
    · cases z1 with
      | lst e z => exact ⟨_, _, rfl, SqL.of (r1.sub _ _ e), k _ H1 R1 _ l1 g1 s1 r1 (fun _ => wk_enum e z) h1⟩
    · exact h1.elim
/-! ### for, while -/
theorem ds_for {tg iter : Expr} {body : List Stmt} {it : DI G} {t : Tg} {b : DS G} {ws : List Nat} (hp : PassesOwn (model X.prog X.w) X.A X.env X.xe) (hc : X.calm = true) (hi : PI X tg iter (liftI X.K Γ W it)) (hg : PG X tg (liftG X.K Γ ws t)) (hb : PSs X body (liftS X.K Γ W b))
    (hs : ∀ x, foldedSetIterable iter X.env x = pure x := by intro _; rfl) : PS X (.For tg iter body [] pos) (liftS X.K Γ W (sFor it t b)) := (ps_for hp hc hi hg hb hs).imp fun D σ H h => by
  obtain ⟨C, l, g, R, ex, E, r, h, k1, k2, k3, k4, kx⟩ := h
  refine ⟨C, l, g, R, ex, _, r, h, fun J H1 R1 ds l1 g1 s1 r1 wk h1 => ?_, kx σ⟩
  obtain ⟨I, i0, step, fin⟩ := h1
  refine ⟨fun i m σ H => m = ds.length - i ∧ i ≤ ds.length ∧ ∃ l g R', Sub R1 R' ∧ Rel X.K Γ C l g σ R' H ∧ I i l g, ⟨_, rfl, Nat.zero_le _, l1, g1, R1, Sub.refl _, r1, i0⟩, ?_⟩
  rintro i m σ H2 ⟨rfl, hi, l2, g2, R2, s2, r2, hI⟩
  have w := wk C R2 H2 l2 g2 σ s2 r2 i
  by_cases hlt : i < ds.length
  · refine .inr ⟨(w.1 hlt).1, fun σ' H' => ∃ l g R', Sub R1 R' ∧ Rel X.K Γ C l g σ' R' H' ∧ I (i + 1) l g, fun σ' H' q => ⟨_, by omega, rfl, hlt, q⟩, fun x H' y => ?_⟩
    obtain ⟨R3, s3, r3, d, hd, z⟩ := (w.1 hlt).2 x H' y
    refine ⟨C, l2, g2, R3, d, _, r3, z, step i d l2 g2 hd hI, fun σ' l' _ r' h' => ?_⟩
    have sA : Sub R R3 := s1.trans (s2.trans s3)
    exact ⟨C, l', g2, R3, ex, _, r', h', fun σ4 H4 R4 l4 g4 s4 r4 h4 => ⟨l4, g4, R4, s2.trans (s3.trans s4), r4, h4⟩, fun v σ4 H4 R4 d4 l4 g4 s4 => k2 v σ4 H4 R4 d4 l4 g4 (sA.trans s4), fun σ4 H4 R4 l4 g4 s4 => k1 σ4 H4 R4 l4 g4 (sA.trans s4),
      fun σ4 H4 R4 l4 g4 s4 r4 h4 => ⟨l4, g4, R4, s2.trans (s3.trans s4), r4, h4⟩, fun σ4 => (kx σ4).mono sA⟩
  · have e : i = ds.length := by omega
    subst e
    exact .inl ⟨w.2 rfl, k1 σ H2 R2 l2 g2 (s1.trans s2) r2 (fin l2 g2 hI)⟩
theorem ds_while {c : Expr} {body : List Stmt} {t : DT G} {b : DS G} (hp : PassesOwn (model X.prog X.w) X.A X.env X.xe) (hc : PT X c (liftT X.K Γ W t)) (hb : PSs X body (liftS X.K Γ W b)) : PS X (.While c body [] pos) (liftS X.K Γ W (sWhile t b)) := (ps_while hp hc hb).imp fun D σ H h => by
  obtain ⟨C, l, g, R, ex, E, r, h, k1, k2, k3, k4, kx⟩ := h
  obtain ⟨I, ⟨m0, i0⟩, step⟩ := h
  refine ⟨fun m σ H => ∃ l g R', Sub R R' ∧ Rel X.K Γ C l g σ R' H ∧ I m l g, ⟨m0, l, g, R, Sub.refl _, r, i0⟩, ?_⟩
  rintro m σ H2 ⟨l2, g2, R2, s2, r2, hI⟩
  refine ⟨C, l2, g2, R2, ex, _, r2, step m l2 g2 hI, fun H3 R3 c l3 g3 s3 r3 h3 => ?_, (kx σ).mono s2⟩
  have sA : Sub R R3 := s2.trans s3
  cases c with
  | true =>
    refine ⟨fun σ' H' => ∃ m', m' < m ∧ ∃ l g R', Sub R R' ∧ Rel X.K Γ C l g σ' R' H' ∧ I m' l g, fun σ' H' ⟨m', hm, q⟩ => ⟨m', hm, q⟩, ?_⟩
    exact ⟨C, l3, g3, R3, ex, _, r3, h3, fun σ4 H4 R4 l4 g4 s4 r4 ⟨m', hm, h4⟩ => ⟨m', hm, l4, g4, R4, sA.trans s4, r4, h4⟩, fun v σ4 H4 R4 d4 l4 g4 s4 => k2 v σ4 H4 R4 d4 l4 g4 (sA.trans s4), fun σ4 H4 R4 l4 g4 s4 => k1 σ4 H4 R4 l4 g4 (sA.trans s4),
      fun σ4 H4 R4 l4 g4 s4 r4 ⟨m', hm, h4⟩ => ⟨m', hm, l4, g4, R4, sA.trans s4, r4, h4⟩, fun σ4 => (kx σ4).mono sA⟩
  | false => exact k1 σ H3 R3 l3 g3 sA r3 h3
end
end Lk

set_option autoImplicit false
set_option linter.all false
set_option Elab.async false
set_option maxRecDepth 100000
set_option maxHeartbeats 2000000
namespace Lk
open PySem PySem.Spec PyProof.Rows L2 Dx
section
variable {G : Type} {Γ : GInt G} {X : Cx} {W : WX} {K : Fg} {pos : Pos} {C : Fx} {l : L} {g g' : G} {σ : L2.St} {R H R' H' : Hp}
theorem wipeL_len (l : L) : ∀ vs : List Nat, (wipeL l vs).length = l.length
  | [] => rfl
  | v :: vs => by unfold wipeL; rw [List.length_set, wipeL_len l vs]
theorem wipeL_get {l : L} {i : Nat} {z : SV} (nz : z ≠ .no) : ∀ {vs : List Nat}, (wipeL l vs)[i]? = some z → l[i]? = some z ∧ i ∉ vs
  | [], h => ⟨h, by simp⟩
  | v :: vs, h => by
    unfold wipeL at h
    by_cases hi : v = i
    · subst hi
      rw [List.getElem?_set] at h
      simp only [if_true] at h
      split at h
      · cases h; exact absurd rfl nz
      · cases h
    · rw [List.getElem?_set_ne hi] at h
      obtain ⟨h1, h2⟩ := wipeL_get nz h
      exact ⟨h1, by simp only [List.mem_cons, not_or]; exact ⟨fun e => hi e.symm, h2⟩⟩
theorem wipeL_out {l : L} {i : Nat} : ∀ {vs : List Nat}, i ∉ vs → (wipeL l vs)[i]? = l[i]?
  | [], _ => rfl
  | v :: vs, h => by
    unfold wipeL
    rw [List.mem_cons, not_or] at h
    rw [List.getElem?_set_ne (fun e => h.1 e.symm)]
    exact wipeL_out h.2
theorem wipe_out {σ : L2.St} {i : Nat} : ∀ {vs : List Nat}, i ∉ vs → (wipe σ vs)[i]? = σ[i]?
  | [], _ => rfl
  | v :: vs, h => by
    unfold wipe
    rw [List.mem_cons, not_or] at h
    rw [List.getElem?_set_ne (fun e => h.1 e.symm)]
    exact wipe_out h.2
theorem wipe_in {σ : L2.St} {i : Nat} : ∀ {vs : List Nat}, i ∈ vs → (wipe σ vs)[i]? = if i < σ.length then some none else none
  | v :: vs, h => by
    unfold wipe
    by_cases e : v = i
    · subst e
      rw [List.getElem?_set, if_pos rfl, wipe_length]
    · rw [List.getElem?_set_ne e]
      rcases List.mem_cons.mp h with z | z
      · exact absurd z.symm e
      · exact wipe_in z
theorem wipe_ext {σ τ : L2.St} {vs : List Nat} (hl : τ.length = σ.length) (h : ∀ j, j ∉ vs → τ[j]? = (wipe σ vs)[j]?) : wipe τ vs = wipe σ vs := by
  refine List.ext_getElem? fun j => ?_
  by_cases hj : j ∈ vs
  · rw [wipe_in hj, wipe_in hj, hl]
  · rw [wipe_out hj, h j hj]
theorem Rel.wipe_ (r : Rel K Γ C l g σ R H) (vs : List Nat) : Rel K Γ C (wipeL l vs) g (wipe σ vs) R H := by
  refine ⟨by rw [wipeL_len, wipe_length]; exact r.len, r.sub, r.keep, r.rnew, r.gat, r.gfr, fun i d e => ?_, fun i d e => ?_, fun i j d e a ne h1 h2 h3 => ?_⟩
  · obtain ⟨e1, n⟩ := wipeL_get (by intro z; cases z) e
    rw [wipe_out n]
    exact r.va i d e1
  · obtain ⟨e1, n⟩ := wipeL_get (by intro z; cases z) e
    rw [wipe_out n]
    exact r.ow i d e1
  · obtain ⟨e1, n1⟩ := wipeL_get (by intro z; cases z) h1
    obtain ⟨e2, n2⟩ := wipeL_get (by intro z; cases z) h2
    rw [wipe_out n1] at h3
    rw [wipe_out n2]
    exact r.sep i j d e a ne e1 e2 h3
theorem Rel.unwipe {vs : List Nat} {C0 : Fx} {H0 : Hp} (r0 : Rel K Γ C0 l g σ R H0) (no : noOw l vs = true) (r : Rel K Γ C (wipeL l vs) g' (wipe σ vs) R' H') (s : Sub R R') : Rel K Γ C l g' σ R' H' := by
  have out : ∀ {i : Nat} {d : D}, l[i]? = some (.ow d) → i ∉ vs := fun {i d} e hi => by
    unfold noOw at no
    have := List.all_eq_true.mp no i hi
    rw [e] at this
    cases this
  refine ⟨r0.len, r.sub, r.keep, r.rnew, r.gat, r.gfr, fun i d e => ?_, fun i d e => ?_, fun i j d e a ne h1 h2 h3 => ?_⟩
  · obtain ⟨v, e1, z⟩ := r0.va i d e
    exact ⟨v, e1, z.mono s⟩
  · have n := out e
    have h := r.ow i d (by rw [wipeL_out n]; exact e)
    rw [wipe_out n] at h
    exact h
  · have n1 := out h1
    have n2 := out h2
    have h := r.sep i j d e a ne (by rw [wipeL_out n1]; exact h1) (by rw [wipeL_out n2]; exact h2) (by rw [wipe_out n1]; exact h3)
    rw [wipe_out n2] at h
    exact h
/-- the frame that keeps a list in the making -/
def fxD (C : Fx) (R : Hp) (D : Addr) (o : HO) : Fx := ⟨upd C.Hc D o, R⟩
theorem Rel.begin (r : Rel K Γ C l g σ R H) {D : Addr} {o : HO} (n : H D = none) : Rel K Γ (fxD C R D o) l g σ R (upd H D o) := by
  obtain ⟨nR, nC, nf, ap⟩ := r.newF n
  have r1 := r.laidF (o := o) n
  refine ⟨r1.len, r1.sub, r.keep.upd2, fun a h => .inl h, r1.gat, fun a ha => ⟨(r.gfr a ha).1, ?_⟩, r1.va, fun i d e => ?_, r1.sep⟩
  · have za : a ≠ D := fun z => nf (z ▸ ha)
    show upd C.Hc D o a = none
    rw [upd_ne za]
    exact (r.gfr a ha).2
  · obtain ⟨a, e1, q, n1, n2, n3⟩ := r1.ow i d e
    have ne : a ≠ D := fun z => ap i d e (z ▸ e1)
    exact ⟨a, e1, q, n1, (upd_ne ne).trans n2, n3⟩
theorem Rel.inD {R1 : Hp} {D : Addr} {o : HO} (r : Rel K Γ (fxD C R1 D o) l g σ R H) (n : R1 D = none) : H D = some o ∧ R D = none ∧ ¬ Γ.fp g D ∧ Apart l σ D := by
  have hD : (fxD C R1 D o).Hc D = some o := upd_same
  refine ⟨r.keep D o hD, ?_, fun z => ?_, fun i d e z => ?_⟩
  · cases h : R D with
    | none => rfl
    | some u =>
      rcases r.rnew D (by rw [h]; simp) with y | y
      · exact absurd n y
      · rw [hD] at y; cases y
  · have := (r.gfr D z).2
    rw [hD] at this
    cases this
  · obtain ⟨a, e1, q, n1, n2, n3⟩ := r.ow i d e
    rw [z] at e1
    cases e1
    rw [hD] at n2
    cases n2
theorem Rel.regrow {R1 : Hp} {D : Addr} {o o' : HO} (r : Rel K Γ (fxD C R1 D o) l g σ R H) (n : R1 D = none) : Rel K Γ (fxD C R1 D o') l g σ R (upd H D o') := by
  obtain ⟨hD, nR, nf, ap⟩ := r.inD n
  have st : Γ.at_ g (upd H D o') := Γ.stay g H _ r.gat fun a ha => upd_ne fun z => nf (z ▸ ha)
  refine ⟨r.len, fun a u e => ?_, fun a u e => ?_, fun a h => ?_, st, fun a ha => ⟨(r.gfr a ha).1, ?_⟩, r.va, fun i d e => ?_, r.sep⟩
  · rw [upd_ne (fun z => by rw [z, nR] at e; cases e)]
    exact r.sub a u e
  · have e : upd C.Hc D o' a = some u := e
    by_cases z : a = D
    · subst z
      rw [upd_same] at e ⊢
      exact e
    · rw [upd_ne z] at e ⊢
      exact r.keep a u (show upd C.Hc D o a = some u by rw [upd_ne z]; exact e)
  · rcases r.rnew a h with y | y
    · exact .inl y
    · refine .inr ?_
      have y : upd C.Hc D o a = none := y
      show upd C.Hc D o' a = none
      by_cases z : a = D
      · subst z
        rw [upd_same] at y
        cases y
      · rw [upd_ne z] at y ⊢
        exact y
  · have y : upd C.Hc D o a = none := (r.gfr a ha).2
    have z : a ≠ D := fun z => nf (z ▸ ha)
    show upd C.Hc D o' a = none
    rw [upd_ne z] at y ⊢
    exact y
  · obtain ⟨a, e1, q, n1, n2, n3⟩ := r.ow i d e
    have z : a ≠ D := fun z => ap i d e (z ▸ e1)
    refine ⟨a, e1, q.mono (Sub.refl R) (upd_ne z), n1, ?_, n3⟩
    have y : upd C.Hc D o a = none := n2
    show upd C.Hc D o' a = none
    rw [upd_ne z] at y ⊢
    exact y
theorem Rel.done {R1 H1 : Hp} {l0 : L} {g0 : G} {D : Addr} {o : HO} (r0 : Rel K Γ C l0 g0 σ R1 H1) (r : Rel K Γ (fxD C R1 D o) l g σ R H) (n : H1 D = none) : Rel K Γ C l g σ R H ∧ C.Hc D = none := by
  obtain ⟨n0, nC, _, _⟩ := r0.newF n
  obtain ⟨hD, nR, nf, ap⟩ := r.inD n0
  have back : ∀ {a : Addr}, upd C.Hc D o a = none → C.Hc a = none := fun {a} y => by
    by_cases z : a = D
    · subst z; exact nC
    · rw [upd_ne z] at y; exact y
  refine ⟨⟨r.len, r.sub, fun a u e => r.keep a u (show upd C.Hc D o a = some u by rw [upd_ne (fun z => by rw [z, nC] at e; cases e)]; exact e), fun a h => ?_, r.gat, fun a ha => ⟨(r.gfr a ha).1, back (r.gfr a ha).2⟩, r.va, fun i d e => ?_, r.sep⟩, nC⟩
  · rcases r.rnew a h with y | y
    · exact r0.rnew a y
    · exact .inr (back y)
  · obtain ⟨a, e1, q, n1, n2, n3⟩ := r.ow i d e
    exact ⟨a, e1, q, n1, back n2, n3⟩
/-- the wish within a block -/
abbrev W0 : WX := fun _ _ _ _ => False
theorem comp_run {it : DI G} {t : Tg} {c : DT G} {e : DE G} {vs ws : List Nat} (hw : ∀ j ∈ ws, j ∈ vs) {H : Hp} {Q : VK} (h : liftF K Γ W (dComp it t c e vs) σ H Q) :
    tLc (liftI K Γ W it) (liftG K Γ ws t) (liftT K Γ W0 c) (liftE K Γ W0 e) vs σ H Q := by
  obtain ⟨C, l, g, R, ex, q, rl, h, k, kx⟩ := h
  refine ⟨C, l, g, R, ex, _, rl, h, fun J H1 R1 ds l1 g1 s1 r1 wk h1 => ?_, kx⟩
  obtain ⟨no, I, i0, step, fin⟩ := h1
  intro D hD
  have nD : R1 D = none := r1.sub.no0 hD
  refine ⟨fun i m H => m = ds.length - i ∧ i ≤ ds.length ∧ ∃ g2 R2 acc accD, Sub R1 R2 ∧ Rel K Γ (fxD C R1 D (.lst acc)) (wipeL l1 vs) g2 (wipe σ vs) R2 H ∧ Reps K R2 acc accD ∧ I i accD g2,
    ⟨_, rfl, Nat.zero_le _, g1, R1, [], [], Sub.refl _, (r1.wipe_ vs).begin hD, .nil, i0⟩, ?_⟩
  rintro i m H2 ⟨rfl, hi, g2, R2, acc, accD, s2, r2, za, hI⟩
  have w := wk (fxD C R1 D (.lst acc)) R2 H2 _ g2 _ s2 r2 i
  by_cases hlt : i < ds.length
  · refine .inr ⟨(w.1 hlt).1, fun H' => ∃ g2 R2 acc accD, Sub R1 R2 ∧ Rel K Γ (fxD C R1 D (.lst acc)) (wipeL l1 vs) g2 (wipe σ vs) R2 H' ∧ Reps K R2 acc accD ∧ I (i + 1) accD g2, fun H' z => ⟨_, by omega, rfl, hlt, z⟩, fun x H' y => ?_⟩
    obtain ⟨R3, s3, r3, d, hd, z⟩ := (w.1 hlt).2 x H' y
    refine ⟨_, _, g2, R3, d, _, r3, z, step i d accD g2 hd hI, fun σ' l' out r' h' => ?_⟩
    obtain ⟨hwl, h'⟩ := h'
    have hws : wipe σ' vs = wipe σ vs := by
      refine wipe_ext ?_ fun j hj => out j fun z => hj (hw j z)
      rw [← r'.len, ← wipeL_len l' vs, hwl, wipeL_len, r1.len]
    refine ⟨hws, _, l', g2, R3, noX, _, r', h', fun H4 R4 b l4 g4 s4 r4 h4 => ?_, fun _ _ _ _ _ _ _ _ _ _ z => z⟩
    obtain ⟨hw4, h4⟩ := h4
    cases b with
    | true =>
      refine ⟨_, l4, g4, R4, noX, _, r4, h4, fun y H5 R5 dd l5 g5 s5 r5 z5 h5 => ?_, fun _ _ _ _ _ _ _ _ _ _ z => z⟩
      obtain ⟨hw5, hlen, hI5⟩ := h5
      obtain ⟨hD5, _⟩ := r5.inD nD
      refine ⟨acc, hD5, by rw [za.length, ← lim]; exact hlen, g5, R5, acc ++ [y], accD ++ [dd], s2.trans (s3.trans (s4.trans s5)), ?_, (za.mono (s3.trans (s4.trans s5))).app (.one z5), hI5⟩
      have r6 := (r5.wipe_ vs).regrow (o' := .lst (acc ++ [y])) nD
      rw [hw5, hws] at r6
      exact r6
    | false =>
      have r6 := r4.wipe_ vs
      rw [hw4, hws] at r6
      exact ⟨g4, R4, acc, accD, s2.trans (s3.trans s4), r6, za.mono (s3.trans s4), h4⟩
  · have e : i = ds.length := by omega
    subst e
    refine .inl ⟨w.2 rfl, ?_⟩
    obtain ⟨hD2, nR2, nf2, ap2⟩ := r2.inD nD
    have r3 := r1.unwipe no r2 s2
    obtain ⟨hD3, nR3, nf3, ap3⟩ := r3.inD nD
    obtain ⟨r4, nC⟩ := r1.done r3 hD
    exact k D H2 R2 (.lst accD) l1 g2 (s1.trans s2) r4 ⟨acc, hD3, za⟩ nR3 nC nf3 ap3 (fin accD g2 hI)
theorem d_comp {elt tg iter : Expr} {ifs : List Expr} {scope : Scope} {own : List (Str × Nat)} {it : DI G} {t : Tg} {c : DT G} {e : DE G} {ws : List Nat} (hc : X.calm = true) (hN : X.N.Nodup) (hi : PI X tg iter (liftI X.K Γ W it)) (ok : BlkOk X.N X.env.scope scope own)
    (hg : ∀ (s : Shared) (H : Hp) (C : Addr) (cl : List (Str × Addr)) (fp : List Addr), PG (X.blk s H scope (compEnvC scope cl C X.env) fp) tg (liftG X.K Γ ws t))
    (ht : ∀ (s : Shared) (H : Hp) (C : Addr) (cl : List (Str × Addr)) (fp : List Addr), PTs (X.blk s H scope (compEnvC scope cl C X.env) fp) ifs (liftT X.K Γ W0 c))
    (he : ∀ (s : Shared) (H : Hp) (C : Addr) (cl : List (Str × Addr)) (fp : List Addr), PE (X.blk s H scope (compEnvC scope cl C X.env) fp) elt (liftE X.K Γ W0 e)) (hw : ∀ j ∈ ws, j ∈ own.map (·.2)) (hs : ∀ x, foldedSetIterable iter X.env x = pure x := by intro _; rfl) :
    PE X (.ListComp elt [⟨tg, iter, ifs, 0⟩] scope pos) (liftF X.K Γ W (dComp it t c e (own.map (·.2)))) := (pe_lc hc hN hi ok hg ht he hs).imp fun _ _ _ h => comp_run hw h
theorem _root_.L2.PTs.imp {ifs : List Expr} {t u : TT} (h : PTs X ifs t) (k : ∀ σ H Q, u σ H Q → t σ H Q) : PTs X ifs u := ⟨fun pins s σ H Q I q => h.run pins s σ H Q I (k σ H Q q)⟩
theorem dts_nil : PTs X [] (liftT X.K Γ W cYes) := pts_nil.imp fun σ H Q ⟨C, l, g, R, ex, q, r, h, k, _⟩ => k H R true l g (Sub.refl R) r h
theorem dts_one {c : Expr} {t : DT G} (h : PT X c (liftT X.K Γ W t)) : PTs X [c] (liftT X.K Γ W t) := pts_one h
section
variable {i : Nat} {y : Str} {py : Pos} {spos : Pos} {elt tg iter : Expr} {ifs : List Expr} {scope : Scope} {own : List (Str × Nat)} {it : DI G} {t : Tg} {c : DT G} {e : DE G} {ws : List Nat}
/-- name = [..] on one line -/
theorem ds_ownC (hc : X.calm = true) (hN : X.N.Nodup) (hy : X.N[i]? = some y) (hyl : X.env.scope.names.lookup y = some .local) (hsw : swapsWith (.ListComp elt [⟨tg, iter, ifs, 0⟩] scope pos) (some (.Name y py)) spos.line X.env = pure true)
    (hi : PI X tg iter (liftI X.K Γ W it)) (ok : BlkOk X.N X.env.scope scope own)
    (hg : ∀ (s : Shared) (H : Hp) (C : Addr) (cl : List (Str × Addr)) (fp : List Addr), PG (X.blk s H scope (compEnvC scope cl C X.env) fp) tg (liftG X.K Γ ws t))
    (ht : ∀ (s : Shared) (H : Hp) (C : Addr) (cl : List (Str × Addr)) (fp : List Addr), PTs (X.blk s H scope (compEnvC scope cl C X.env) fp) ifs (liftT X.K Γ W0 c))
    (he : ∀ (s : Shared) (H : Hp) (C : Addr) (cl : List (Str × Addr)) (fp : List Addr), PE (X.blk s H scope (compEnvC scope cl C X.env) fp) elt (liftE X.K Γ W0 e)) (hw : ∀ j ∈ ws, j ∈ own.map (·.2)) (hs : ∀ x, foldedSetIterable iter X.env x = pure x := by intro _; rfl) :
    PS X (.Assign [.Name y py] (.ListComp elt [⟨tg, iter, ifs, 0⟩] scope pos) spos) (liftS X.K Γ W (sOwn i (dComp it t c e (own.map (·.2))))) := (ps_setLc hc hN hy hyl hsw hi ok hg ht he hs).imp fun _ _ _ h => own_run (fun _ _ _ z => comp_run hw z) h
/-- .. that stays -/
theorem ds_setC (hc : X.calm = true) (hN : X.N.Nodup) (hy : X.N[i]? = some y) (hyl : X.env.scope.names.lookup y = some .local) (hsw : swapsWith (.ListComp elt [⟨tg, iter, ifs, 0⟩] scope pos) (some (.Name y py)) spos.line X.env = pure true)
    (hi : PI X tg iter (liftI X.K Γ W it)) (ok : BlkOk X.N X.env.scope scope own)
    (hg : ∀ (s : Shared) (H : Hp) (C : Addr) (cl : List (Str × Addr)) (fp : List Addr), PG (X.blk s H scope (compEnvC scope cl C X.env) fp) tg (liftG X.K Γ ws t))
    (ht : ∀ (s : Shared) (H : Hp) (C : Addr) (cl : List (Str × Addr)) (fp : List Addr), PTs (X.blk s H scope (compEnvC scope cl C X.env) fp) ifs (liftT X.K Γ W0 c))
    (he : ∀ (s : Shared) (H : Hp) (C : Addr) (cl : List (Str × Addr)) (fp : List Addr), PE (X.blk s H scope (compEnvC scope cl C X.env) fp) elt (liftE X.K Γ W0 e)) (hw : ∀ j ∈ ws, j ∈ own.map (·.2)) (hs : ∀ x, foldedSetIterable iter X.env x = pure x := by intro _; rfl) :
    PS X (.Assign [.Name y py] (.ListComp elt [⟨tg, iter, ifs, 0⟩] scope pos) spos) (liftS X.K Γ W (sSet i (dComp it t c e (own.map (·.2))))) := (ps_setLc hc hN hy hyl hsw hi ok hg ht he hs).imp fun _ _ _ h => set_run (fun σ H Q z => comp_run hw (by
      obtain ⟨C, l, g, R, ex, q, r, h, k, kx⟩ := z
      exact ⟨C, l, g, R, ex, q, r, h, fun a H' R' d l' g' s' r' z n1 n2 n3 n4 hq => by
        obtain ⟨o, eo, zr⟩ := z.rep
        exact k _ H' _ d l' g' (s'.trans (Sub.new n1)) (r'.frz eo n1 n2 n3 n4) (zr n1) hq, kx⟩)) h
end
end
end Lk

set_option autoImplicit false
set_option linter.all false
set_option Elab.async false
set_option maxRecDepth 100000
set_option maxHeartbeats 2000000
namespace Lk
open PySem PySem.Spec PyProof.Rows L2 Dx
section
variable {G : Type} {Γ : GInt G} {X : Cx} {W : WX} {K : Fg} {pos : Pos}
/-! ### an own thing changed -/
theorem Rel.chgL {C : Fx} {l : L} {g : G} {σ : L2.St} {R H : Hp} (r : Rel K Γ C l g σ R H) {i : Nat} {a : Addr} {d : D} {vs : List V} {ds : List D} (hi : l[i]? = some (.ow d)) (hs : σ[i]? = some (some (.ref a))) (q : Reps K R vs ds) :
    Rel K Γ C (l.set i (.ow (.lst ds))) g σ R (upd H a (.lst vs)) := r.chg hi hs ⟨vs, upd_same, q⟩
theorem Rel.owL {C : Fx} {l : L} {g : G} {σ : L2.St} {R H : Hp} (r : Rel K Γ C l g σ R H) {i : Nat} {ds : List D} (hi : l[i]? = some (.ow (.lst ds))) : ∃ a vs, σ[i]? = some (some (.ref a)) ∧ H a = some (.lst vs) ∧ Reps K R vs ds := by
  obtain ⟨a, e, ⟨vs, h, q⟩, _⟩ := r.ow i _ hi
  exact ⟨a, vs, e, h, q⟩
theorem ds_app {i : Nat} {x : Str} {p2 apos cpos : Pos} {e : Expr} {f : DE G} (hv : PE X (.Name x p2) (tVar i)) (he : PE X e (liftE X.K Γ W f))
    (hfew : ((backTo cpos (starEach [e] X.env)).all (fun x => !x.1) && (backToKw cpos (keywordEach [] X.env)).all (fun x => x.1.isSome) && decide (([e] : List Expr).length + ([] : List Keyword).length + (if ([] : List Keyword).isEmpty then 0 else 1) < 30)) = true := by rfl)
    (hline : (apos.endLine == cpos.line) = true := by rfl) (hs : starEach [e] X.env = (false, eval e X.env) :: starEach [] X.env := by rfl) (hsw : swapsWith (.Call (.Attribute (.Name x p2) "append" apos) [e] [] cpos) none pos.line X.env = pure false := by rfl)
    (hbase : attributeBase (.Name x p2) "append" X.env (eval (.Name x p2) X.env) = eval (.Name x p2) X.env := by rfl) :
    PS X (.Expr (.Call (.Attribute (.Name x p2) "append" apos) [e] [] cpos) pos) (liftS X.K Γ W (sApp i f)) :=
  (ps_expr (pe_bm PySem.F.plainAttrs_list PySem.F.slot_list_append PySem.F.type_list_append mt_append hv (pa_cons he pa_nil hs) hbase hfew hline hs rfl) hsw).imp fun D σ H h => by
    obtain ⟨C, l, g, R, ex, E, r, h, k1, k2, k3, k4, kx⟩ := h
    obtain ⟨d0, e0, h⟩ := getO_ex h
    split at h
    · obtain ⟨a, vs, ea, eh, _⟩ := r.owL e0
      refine ⟨.ref a, ea, .inl ⟨rfl, _, SqL.of eh⟩, C, l, g, R, ex, _, r, h, fun y H1 R1 d l1 g1 s1 r1 z1 h1 => ?_, kx σ⟩
      obtain ⟨d2, e2, h1⟩ := getO_ex h1
      split at h1
      · obtain ⟨a', vs', ea', eh', q'⟩ := r1.owL e2
        rw [ea] at ea'
        cases ea'
        refine ⟨a, vs', y, rfl, rfl, eh', by rw [q'.length, ← lim]; exact h1.1, ?_⟩
        exact k1 σ _ R1 _ g1 s1 (r1.chgL e2 ea (q'.app (.one z1))) h1.2
      · exact h1.elim
    · exact h.elim
theorem d_pop {i : Nat} {x : Str} {p2 apos cpos : Pos} (hv : PE X (.Name x p2) (tVar i)) (hline : (apos.endLine == cpos.line) = true := by rfl) (hbase : attributeBase (.Name x p2) "pop" X.env (eval (.Name x p2) X.env) = eval (.Name x p2) X.env := by rfl) :
    PE X (.Call (.Attribute (.Name x p2) "pop" apos) [] [] cpos) (liftE X.K Γ W (dPop i)) :=
  (pe_bm0 PySem.F.plainAttrs_list PySem.F.slot_list_pop PySem.F.type_list_pop mt_pop hv hbase hline).imp fun σ H Q h => by
    obtain ⟨C, l, g, R, ex, q, r, h, k, kx⟩ := h
    obtain ⟨d, ed, h⟩ := getO_ex h
    split at h
    · rename_i xs
      obtain ⟨y, hy, hq⟩ := h
      obtain ⟨a, vs, ea, eh, z⟩ := r.owL ed
      obtain ⟨v, hv', zv⟩ := z.get hy
      rw [← z.length] at hv'
      refine ⟨.ref a, ea, .inl ⟨rfl, _, SqL.of eh⟩, a, vs, v, rfl, rfl, eh, hv', ?_⟩
      have zd : Reps X.K R vs.dropLast xs.dropLast := by
        have h1 : ∀ {vs : List V} {ds : List D}, Reps X.K R vs ds → Reps X.K R vs.dropLast ds.dropLast := by
          intro vs ds z
          induction z using Reps.rec (motive_1 := fun _ _ _ => True) (motive_3 := fun _ _ _ => True) (motive_4 := fun _ _ _ => True) (motive_5 := fun _ _ _ _ => True) with
          | nil => exact .nil
          | cons a q _ ih =>
            cases q with
            | nil => exact .nil
            | cons b q => exact .cons a ih
          | _ => trivial
        exact h1 z
      exact k v _ R y _ g (Sub.refl R) (r.chgL ed ea zd) zv hq
    · exact h.elim
/-- xs[k] = e -/
theorem ds_put {i : Nat} {x : Str} {p2 p3 : Pos} {kx e : Expr} {fk f : DE G} (hv : PE X (.Name x p2) (tVar i)) (hk : PE X kx (liftE X.K Γ W fk)) (he : PE X e (liftE X.K Γ W f))
    (ha : ∀ v, assign (.Subscript (.Name x p2) kx p3) X.env v = (do
      let ov ← holding [v] (eval (.Name x p2) X.env)
      let iv ← holding [v, ov] (eval kx X.env)
      standAt p3
      holding [v, ov, iv] (setItem ov iv v)
      release [v, ov, iv] []) := by intro _; rfl) (hs : swapsWithSole [.Subscript (.Name x p2) kx p3] e pos.line X.env = pure false := by rfl) (hw : swappedStores [.Subscript (.Name x p2) kx p3] e X.env = pure none := by rfl)
    (h1 : (assignEach [.Subscript (.Name x p2) kx p3] X.env).map (·.2) = [assign (.Subscript (.Name x p2) kx p3) X.env] := by rfl) : PS X (.Assign [.Subscript (.Name x p2) kx p3] e pos) (liftS X.K Γ W (sPut i fk f)) :=
  (ps_asg he (pg_sub hv hk set_list ha) hs hw h1).imp fun D σ H h => by
    obtain ⟨C, l, g, R, ex, E, r, h, k1, k2, k3, k4, kx⟩ := h
    refine ⟨C, l, g, R, ex, _, r, h, fun y H1 R1 d l1 g1 s1 r1 z1 h1 => ?_, kx σ⟩
    obtain ⟨d0, e0, h1⟩ := getO_ex h1
    obtain ⟨a, ea, _⟩ := r1.ownRb e0
    refine ⟨.ref a, ea, C, l1, g1, R1, ex, _, r1, h1, fun kv H2 R2 kd l2 g2 s2 r2 z2 h2 => ?_, (kx σ).mono s1⟩
    obtain ⟨d2, e2, h2⟩ := getO_ex h2
    split at h2
    · split at h2
      · obtain ⟨j, hj, hn⟩ := h2
        obtain ⟨a', vs', ea', eh', q'⟩ := r2.owL e2
        rw [ea] at ea'
        cases ea'
        cases z2
        refine ⟨a, vs', _, j, rfl, rfl, eh', by rw [ixN_at, q'.length]; exact hj, ?_⟩
        exact k1 σ _ R2 _ g2 (s1.trans s2) (r2.chgL e2 ea (q'.set j (z1.mono s2))) hn
      · exact h2.elim
    · exact h2.elim
theorem put_k {R : Hp} {k : Key} {v : V} {d : D} {kvs : List (Key × V)} {ds : List (D × D)} (q : RepK K R kvs ds) (z : Rep K R v d) : RepK K R (putK kvs k v) (put ds (kD k) d) := by
  have any_ : ∀ {kvs : List (Key × V)} {ds : List (D × D)}, RepK K R kvs ds → (kvs.any fun kv => decide (kv.1 = k)) = ds.any fun p => deq p.1 (kD k) := by
    intro kvs ds q
    induction kvs generalizing ds with
    | nil => cases q; rfl
    | cons p r ih =>
      cases q with
      | cons h q => rw [List.any_cons, List.any_cons, ih q, deq_k]
  have map_ : ∀ {kvs : List (Key × V)} {ds : List (D × D)}, RepK K R kvs ds → RepK K R (kvs.map fun kv => if kv.1 = k then (kv.1, v) else kv) (ds.map fun p => if deq p.1 (kD k) = true then (p.1, d) else p) := by
    intro kvs ds q
    induction kvs generalizing ds with
    | nil => cases q; exact .nil
    | cons p r ih =>
      cases q with
      | cons h q =>
        rename_i j v' d' ds'
        simp only [List.map_cons, deq_k]
        by_cases e : j = k
        · rw [if_pos e, if_pos (decide_eq_true e)]
          exact .cons z (ih q)
        · rw [if_neg e, if_neg (by rw [decide_eq_false e]; simp)]
          exact .cons h (ih q)
  have app_ : ∀ {kvs : List (Key × V)} {ds : List (D × D)}, RepK K R kvs ds → RepK K R (kvs ++ [(k, v)]) (ds ++ [(kD k, d)]) := by
    intro kvs ds q
    induction kvs generalizing ds with
    | nil => cases q; exact .cons z .nil
    | cons p r ih =>
      cases q with
      | cons h q => exact .cons h (ih q)
  unfold putK put
  rw [any_ q]
  split
  · exact map_ q
  · exact app_ q
theorem put_t {R : Hp} {k : List Key} {v : V} {d : D} {kvs : List (List Key × V)} {ds : List (D × D)} (q : RepT K R kvs ds) (z : Rep K R v d) : RepT K R (putK kvs k v) (put ds (.tup (k.map kD)) d) := by
  have dk : ∀ j : List Key, deq (.tup (j.map kD)) (.tup (k.map kD)) = decide (j = k) := fun j => by simp only [deq, deqs_k]
  have any_ : ∀ {kvs : List (List Key × V)} {ds : List (D × D)}, RepT K R kvs ds → (kvs.any fun kv => decide (kv.1 = k)) = ds.any fun p => deq p.1 (.tup (k.map kD)) := by
    intro kvs ds q
    induction kvs generalizing ds with
    | nil => cases q; rfl
    | cons p r ih =>
      cases q with
      | cons h q => rw [List.any_cons, List.any_cons, ih q, dk]
  have map_ : ∀ {kvs : List (List Key × V)} {ds : List (D × D)}, RepT K R kvs ds → RepT K R (kvs.map fun kv => if kv.1 = k then (kv.1, v) else kv) (ds.map fun p => if deq p.1 (.tup (k.map kD)) = true then (p.1, d) else p) := by
    intro kvs ds q
    induction kvs generalizing ds with
    | nil => cases q; exact .nil
    | cons p r ih =>
      cases q with
      | cons h q =>
        rename_i j v' d' ds'
        simp only [List.map_cons, dk]
        by_cases e : j = k
        · rw [if_pos e, if_pos (decide_eq_true e)]
          exact .cons z (ih q)
        · rw [if_neg e, if_neg (by rw [decide_eq_false e]; simp)]
          exact .cons h (ih q)
  have app_ : ∀ {kvs : List (List Key × V)} {ds : List (D × D)}, RepT K R kvs ds → RepT K R (kvs ++ [(k, v)]) (ds ++ [(.tup (k.map kD), d)]) := by
    intro kvs ds q
    induction kvs generalizing ds with
    | nil => cases q; exact .cons z .nil
    | cons p r ih =>
      cases q with
      | cons h q => exact .cons h (ih q)
  unfold putK put
  rw [any_ q]
  split
  · exact map_ q
  · exact app_ q
/-- d[k] = e -/
theorem ds_putD {i : Nat} {x : Str} {p2 p3 : Pos} {kx e : Expr} {fk f : DE G} (hu : X.A.units + 1 < cLine) (hv : PE X (.Name x p2) (tVar i)) (hk : PE X kx (liftE X.K Γ W fk)) (he : PE X e (liftE X.K Γ W f))
    (hs : swapsWith e (some (.Subscript (.Name x p2) kx p3)) pos.line X.env = pure false := by rfl) : PS X (.Assign [.Subscript (.Name x p2) kx p3] e pos) (liftS X.K Γ W (sPutD i fk f)) :=
  (ps_dput hu hv hk he hs).imp fun D σ H h => by
    obtain ⟨C, l, g, R, ex, E, r, h, k1, k2, k3, k4, kx⟩ := h
    refine ⟨C, l, g, R, ex, _, r, h, fun y H1 R1 d l1 g1 s1 r1 z1 h1 => ?_, kx σ⟩
    obtain ⟨d0, e0, h1⟩ := getO_ex h1
    obtain ⟨a, ea, _⟩ := r1.ownRb e0
    refine ⟨.ref a, ea, C, l1, g1, R1, ex, _, r1, h1, fun kv H2 R2 kd l2 g2 s2 r2 z2 h2 => ?_, (kx σ).mono s1⟩
    obtain ⟨d2, e2, h2⟩ := getO_ex h2
    split at h2
    · rename_i t kvs
      obtain ⟨hk, hz, hn⟩ := h2
      obtain ⟨a', ea', oa, _⟩ := r2.ow i _ e2
      rw [ea] at ea'
      cases ea'
      cases t with
      | false =>
        obtain ⟨ks, eh, q⟩ := oa
        obtain ⟨k, rfl, rfl⟩ := key_k (H := H2) (.of z2) hk
        refine ⟨a, _, rfl, DPut.k eh (by rw [q.length, ← lim]; exact hz), k1 σ _ R2 _ g2 (s1.trans s2) (r2.chg (d' := .dic false (put kvs (kD k) d)) e2 ea ⟨_, upd_same, put_k q (z1.mono s2)⟩) hn⟩
      | true =>
        obtain ⟨ks, eh, q⟩ := oa
        obtain ⟨b, k, rfl, eb, rfl⟩ := key_t r2.sub (.of z2) hk
        refine ⟨a, _, rfl, DPut.t eh eb (by rw [q.length, ← lim]; exact hz), k1 σ _ R2 _ g2 (s1.trans s2) (r2.chg (d' := .dic true (put kvs (.tup (k.map kD)) d)) e2 ea ⟨_, upd_same, put_t q (z1.mono s2)⟩) hn⟩
    · exact h2.elim
theorem d_dic0 : PE X (.Dict [] [] pos) (liftF X.K Γ W (dDic false)) := pe_dnewK.imp fun σ H Q ⟨C, l, g, R, ex, q, r, h, k, kx⟩ => fun p hp => by
  obtain ⟨n1, n2, n3, n4⟩ := r.newF hp
  exact k p _ R (.dic false []) l g (Sub.refl R) (r.laidF hp) ⟨[], upd_same, .nil⟩ n1 n2 n3 n4 h
theorem d_dicT : PE X (.Dict [] [] pos) (liftF X.K Γ W (dDic true)) := pe_dnewT.imp fun σ H Q ⟨C, l, g, R, ex, q, r, h, k, kx⟩ => fun p hp => by
  obtain ⟨n1, n2, n3, n4⟩ := r.newF hp
  exact k p _ R (.dic true []) l g (Sub.refl R) (r.laidF hp) ⟨[], upd_same, .nil⟩ n1 n2 n3 n4 h
/-! ### slices -/
theorem sIx_eq (n d : Nat) (o : Option Int) : HT.sIx n d o = Dx.sIx n d o := by
  cases o <;> rfl
theorem reps_take {R : Hp} : ∀ {vs : List V} {ds : List D} (n : Nat), Reps K R vs ds → Reps K R (vs.take n) (ds.take n)
  | _, _, 0, _ => .nil
  | _, _, _ + 1, .nil => .nil
  | _, _, n + 1, .cons a q => .cons a (reps_take n q)
theorem reps_drop {R : Hp} : ∀ {vs : List V} {ds : List D} (n : Nat), Reps K R vs ds → Reps K R (vs.drop n) (ds.drop n)
  | _, _, 0, q => q
  | _, _, _ + 1, .nil => .nil
  | _, _, n + 1, .cons a q => reps_drop n q
theorem reps_cut {R : Hp} {vs : List V} {ds : List D} (lo hi : Option Int) (q : Reps K R vs ds) : Reps K R (cutV vs lo hi) (cut ds lo hi) := by
  unfold cutV cut
  rw [sIx_eq, sIx_eq, q.length]
  exact reps_take _ (reps_drop _ q)
def liftO (K : Fg) (Γ : GInt G) (W : WX) (f : DO G) : TO := fun σ H Q => ∃ (C : Fx) (l : L) (g : G) (R : Hp) (ex : XW G) (q : Option Int → L → G → Prop), Rel K Γ C l g σ R H ∧ f ex l g q ∧
  (∀ H' R' b l' g', Sub R R' → Rel K Γ C l' g' σ R' H' → q b l' g' → Q b H') ∧ XTo K Γ C R ex (fun c d H' => W c d σ H') σ
theorem _root_.L2.PO.imp {e : Option Expr} {t u : TO} (h : PO X e t) (k : ∀ σ H Q, u σ H Q → t σ H Q) : PO X e u := ⟨fun pins s σ H Q I q => h.run pins s σ H Q I (k σ H Q q)⟩
theorem do_no : PO X none (liftO X.K Γ W oNo) := po_none.imp fun σ H Q ⟨C, l, g, R, ex, q, r, h, k, kx⟩ => k H R none l g (Sub.refl R) r h
theorem do_so {e : Expr} {f : DE G} (h : PE X e (liftE X.K Γ W f)) : PO X (some e) (liftO X.K Γ W (oSo f)) := (po_some h).imp fun σ H Q ⟨C, l, g, R, ex, q, r, h, k, kx⟩ => by
  refine ⟨C, l, g, R, ex, _, r, h, fun v H1 R1 d l1 g1 s1 r1 z1 h1 => ?_, kx⟩
  split at h1
  · cases z1
    exact ⟨_, rfl, k H1 R1 _ l1 g1 s1 r1 h1⟩
  · exact h1.elim
theorem d_sl {a : Expr} {lo hi : Option Expr} {p2 : Pos} {f : DE G} {u v : DO G} (ha : PE X a (liftE X.K Γ W f)) (hl : PO X lo (liftO X.K Γ W u)) (hh : PO X hi (liftO X.K Γ W v)) : PE X (.Subscript a (.Slice lo hi none p2) pos) (liftE X.K Γ W (dSl f u v)) :=
  (pe_slice (sl_list.or (sl_tupA.or sl_str)) ha hl hh).imp fun σ H Q ⟨C, l, g, R, ex, q, r, h, k, kx⟩ => by
    refine ⟨C, l, g, R, ex, _, r, h, fun x H1 R1 d l1 g1 s1 r1 z1 h1 => ?_, kx⟩
    refine ⟨C, l1, g1, R1, ex, _, r1, h1, fun H2 R2 lo l2 g2 s2 r2 h2 => ?_, kx.mono s1⟩
    refine ⟨C, l2, g2, R2, ex, _, r2, h2, fun H3 R3 hi l3 g3 s3 r3 h3 => ?_, kx.mono (s1.trans s2)⟩
    have z3 := z1.mono (s2.trans s3)
    have sA := s1.trans (s2.trans s3)
    unfold wSl at h3
    split at h3
    · cases z3 with
      | lst e zs =>
        refine .inl ⟨_, _, rfl, SqL.of (r3.sub _ _ e), fun p hp => ?_⟩
        obtain ⟨r4, s4, z4⟩ := r3.newL hp (reps_cut lo hi zs)
        exact k _ _ _ _ l3 g3 (sA.trans s4) r4 z4 h3
    · cases z3 with
      | tup e zs =>
        rename_i ds a vs
        refine .inr (.inl ⟨a, vs, rfl, SqT.of (r3.sub _ _ e), fun hw => ?_, fun _ p hp => ?_⟩)
        · have hc : cut ds lo hi = ds := by
            rw [sIx_eq, sIx_eq, zs.length] at hw
            unfold cut
            rw [hw.1, hw.2, List.drop_zero, Nat.sub_zero, List.take_length]
          exact k _ H3 R3 (.tup ds) l3 g3 sA r3 (.tup e zs) (by rw [hc] at h3; exact h3)
        · obtain ⟨r4, s4, z4⟩ := r3.newT hp (reps_cut lo hi zs)
          exact k _ _ _ _ l3 g3 (sA.trans s4) r4 z4 h3
    · cases z3 with
      | str y =>
        refine .inr (.inr ⟨y, rfl, by rw [str_len, ← lim]; exact h3.1, k _ H3 R3 _ l3 g3 sA r3 ?_ h3.2⟩)
        have e : (cutS y lo hi).cps.toList = cut y.cps.toList lo hi := by
          unfold cutS cut
          rw [sIx_eq, sIx_eq, str_len]
        rw [← e]
        exact .str _
    · exact h3.elim
/-! ### a def keeps its promise by its body -/
theorem start_nil : ∀ (n i : Nat) (z : SV), (Dx.start n [])[i]? = some z → z = .no
  | 0, _, _, h => by cases h
  | n + 1, 0, z, h => by
    injection h with h
    exact h.symm
  | n + 1, i + 1, z, h => start_nil n i z h
theorem start_get : ∀ (n : Nat) (ds : List D) (i : Nat) (d : D), (Dx.start n ds)[i]? = some (.va d) → ds[i]? = some d
  | 0, _, _, _, h => by cases h
  | n + 1, [], i, d, h => by cases start_nil (n + 1) i _ h
  | n + 1, e :: ds, 0, d, h => by
    injection h with h
    injection h with h
    rw [h]
    rfl
  | n + 1, e :: ds, i + 1, d, h => start_get n ds i d h
theorem start_noow : ∀ (n : Nat) (ds : List D) (i : Nat) (d : D), (Dx.start n ds)[i]? ≠ some (.ow d)
  | 0, _, _, _ => fun h => by cases h
  | n + 1, [], i, d => fun h => by cases start_nil (n + 1) i _ h
  | n + 1, e :: ds, 0, d => fun h => by injection h with h; cases h
  | n + 1, e :: ds, i + 1, d => fun h => start_noow n ds i d h
theorem start_len : ∀ (n : Nat) (ds : List D), ds.length ≤ n → (Dx.start n ds).length = n
  | 0, _, _ => rfl
  | n + 1, [], _ => congrArg (· + 1) (start_len n [] (Nat.zero_le _))
  | n + 1, e :: ds, h => congrArg (· + 1) (start_len n ds (Nat.le_of_succ_le_succ h))
/-- the wish of a def's body -/
abbrev WB (E : XK) : WX := fun c d _ H => E c d H
theorem body_begin {n : Nat} (N : List Str) (hN : N.length = n) {ds : List D} (hl : ds.length ≤ n) {vs : List V} {H R : Hp} {g : G} (z : Reps K R vs ds) (s : Sub R H) (at_ : Γ.at_ g H) (fr : ∀ a, Γ.fp g a → R a = none) :
    Rel K Γ (calleeFx Γ g R H) (Dx.start n ds) g (L2.start N vs) R H := by
  classical
  refine ⟨?_, s, fun a o h => ?_, fun a h => .inl h, at_, fun a ha => ⟨fr a ha, ?_⟩, fun i d h => ?_, fun i d h => absurd h (start_noow n ds i d), fun i j d e a _ h => absurd h (start_noow n ds i d)⟩
  · have hz := z.length
    unfold L2.start
    rw [start_len n ds hl, List.length_append, List.length_map, List.length_replicate]
    omega
  · have h : (if Γ.fp g a then none else H a) = some o := h
    split at h
    · cases h
    · exact h
  · show (if Γ.fp g a then none else H a) = none
    rw [if_pos ha]
  · obtain ⟨v, hv, zv⟩ := z.get (start_get n ds i d h)
    refine ⟨v, ?_, zv⟩
    unfold L2.start
    have hi : i < vs.length := (List.getElem?_eq_some_iff.mp hv).1
    rw [List.getElem?_append_left (by simpa using hi), List.getElem?_map, hv]
    rfl
theorem callee_none {g : G} {R H : Hp} {a : Addr} (h : (calleeFx Γ g R H).Hc a = none) : Γ.fp g a ∨ H a = none := by
  classical
  have h : (if Γ.fp g a then none else H a) = none := h
  by_cases y : Γ.fp g a
  · exact .inl y
  · rw [if_neg y] at h; exact .inr h
theorem body_facts {l' : L} {g g' : G} {σ' : L2.St} {R H R' H' : Hp} (r' : Rel K Γ (calleeFx Γ g R H) l' g' σ' R' H') : (∀ a o, ¬ Γ.fp g a → H a = some o → H' a = some o) ∧ (∀ a, R' a ≠ none → R a ≠ none ∨ Γ.fp g a ∨ H a = none) ∧
      ∀ a, Γ.fp g' a → R' a = none ∧ (Γ.fp g a ∨ H a = none) := by
  classical
  refine ⟨fun a o nf h => r'.keep a o ?_, fun a h => ?_, fun a h => ⟨(r'.gfr a h).1, callee_none (r'.gfr a h).2⟩⟩
  · show (if Γ.fp g a then none else H a) = some o
    rw [if_neg nf]
    exact h
  · rcases r'.rnew a h with y | y
    · exact .inl y
    · exact .inr (callee_none y)
theorem body_run {n : Nat} {c : Ct G} {b : DS G} (N : List Str) (hN : N.length = n) (kp : Keeps n c b) (hlen : ∀ ds g q e, c ds g q e → ds.length ≤ n) {vs : List V} {H : Hp} {Q : VK} {E : XK} (h : liftC K Γ c vs H Q E) :
    liftS K Γ (WB E) b { nx := fun _ H' => Q .non H', rt := Q } (L2.start N vs) H := by
  obtain ⟨ds, R, g, q, e, z, s, at_, fr, hc, k, kx⟩ := h
  have r := body_begin N hN (hlen ds g q e hc) z s at_ fr
  refine ⟨_, _, g, R, _, _, r, kp ds g q e hc, fun σ' H' R' l' g' s' r' h' => ?_, fun v σ' H' R' d l' g' s' r' y' => ?_, fun _ _ _ _ _ _ _ h => h.elim, fun _ _ _ _ _ _ _ h => h.elim, fun σ' cls dx H' R' x l' g' s' r' z' h' => ?_⟩
  · obtain ⟨f1, f2, f3⟩ := body_facts r'
    exact k .non H' R' .non g' s' r'.sub f1 f2 r'.gat f3 .non h'
  · obtain ⟨f1, f2, f3⟩ := body_facts r'
    rcases y' with ⟨z', h'⟩ | ⟨_, h'⟩
    · exact k v H' R' d g' s' r'.sub f1 f2 r'.gat f3 z' h'
    · exact h'.elim
  · obtain ⟨f1, f2, f3⟩ := body_facts r'
    exact kx cls dx H' R' x g' s' r'.sub f1 f2 r'.gat f3 z' h'
theorem bodyF_run {n : Nat} {c : Ct G} {b : DS G} (N : List Str) (hN : N.length = n) (kp : KeepsF n c b) (hlen : ∀ ds g q e, c ds g q e → ds.length ≤ n) {vs : List V} {H : Hp} {Q : VK} {E : XK} (h : liftCF K Γ c vs H Q E) :
    liftS K Γ (WB E) b { nx := fun _ H' => Q .non H', rt := Q } (L2.start N vs) H := by
  obtain ⟨ds, R, g, q, e, z, s, at_, fr, hc, k, kx⟩ := h
  have r := body_begin N hN (hlen ds g q e hc) z s at_ fr
  refine ⟨_, _, g, R, _, _, r, kp ds g q e hc, fun _ _ _ _ _ _ _ h => h.elim, fun v σ' H' R' d l' g' s' r' y' => ?_, fun _ _ _ _ _ _ _ h => h.elim, fun _ _ _ _ _ _ _ h => h.elim, fun σ' cls dx H' R' x l' g' s' r' z' h' => ?_⟩
  · obtain ⟨f1, f2, f3⟩ := body_facts r'
    rcases y' with ⟨_, h'⟩ | ⟨⟨a, rfl, zo, n1, n2, n3⟩, h'⟩
    · exact h'.elim
    · exact k a H' R' d g' s' r'.sub f1 f2 r'.gat f3 zo n1 (callee_none n2) n3 h'
  · obtain ⟨f1, f2, f3⟩ := body_facts r'
    exact kx cls dx H' R' x g' s' r'.sub f1 f2 r'.gat f3 z' h'
theorem fn_dF {P : Program} {w : World} {mg : Str → Option Value} {base : Heap} {x qual : Str} {params : Arguments} {body : List Stmt} {scope : Scope} {f : Addr} {fd : FuncData} {N ps : List Str} {k : Nat} {c : Ct G} {b : DS G}
    (F : FunD K x qual params body scope [] [] f fd) (S : FnScope N ps scope) (len : ∀ ds g q e, c ds g q e → ds.length = ps.length) (kp : KeepsF N.length c b)
    (der : ∀ (cdv : Value) (A : Around) (outer : List Env) (s : Shared) (H : Hp) (E : XK), Room k (A.deeper (envOfC qual scope s.heap.objs.size f cdv)) → PSs (cxOf (L2N.CX P w) P w K mg base N qual scope f cdv A outer s H E) body (liftS K Γ (WB E) b)) :
    FnOk P w K mg base (L2N.CX P w) (k + 1) f fd ps (liftCF K Γ c) := by
  refine F.ok S (fun vs H Q E h => ?_) (fun cdv A outer s H vs Q E hr h => ⟨_, der cdv A outer s H E hr, bodyF_run N rfl kp (fun ds g q e hc => ?_) h⟩)
  · obtain ⟨ds, R, g, q, e, z, _, _, _, hc, _⟩ := h
    rw [z.length]
    exact len ds g q e hc
  · rw [len ds g q e hc]
    have := congrArg List.length S.pre
    rw [List.length_take] at this
    omega
theorem fn_d {P : Program} {w : World} {mg : Str → Option Value} {base : Heap} {x qual : Str} {params : Arguments} {body : List Stmt} {scope : Scope} {f : Addr} {fd : FuncData} {N ps : List Str} {k : Nat} {c : Ct G} {b : DS G}
    (F : FunD K x qual params body scope [] [] f fd) (S : FnScope N ps scope) (len : ∀ ds g q e, c ds g q e → ds.length = ps.length) (kp : Keeps N.length c b)
    (der : ∀ (cdv : Value) (A : Around) (outer : List Env) (s : Shared) (H : Hp) (E : XK), Room k (A.deeper (envOfC qual scope s.heap.objs.size f cdv)) → PSs (cxOf (L2N.CX P w) P w K mg base N qual scope f cdv A outer s H E) body (liftS K Γ (WB E) b)) :
    FnOk P w K mg base (L2N.CX P w) (k + 1) f fd ps (liftC K Γ c) := by
  refine F.ok S (fun vs H Q E h => ?_) (fun cdv A outer s H vs Q E hr h => ⟨_, der cdv A outer s H E hr, body_run N rfl kp (fun ds g q e hc => ?_) h⟩)
  · obtain ⟨ds, R, g, q, e, z, _, _, _, hc, _⟩ := h
    rw [z.length]
    exact len ds g q e hc
  · rw [len ds g q e hc]
    have := congrArg List.length S.pre
    rw [List.length_take] at this
    omega
end
end Lk

set_option autoImplicit false
set_option linter.all false
set_option Elab.async false
set_option maxRecDepth 100000
set_option maxHeartbeats 2000000
namespace Lk
open PySem PySem.Spec PyProof.Rows L2 Dx
/-- d[k] = v by a comprehension, the key a tuple -/
theorem d_dictSetT {X : Cx} {pins : List (Addr × Obj)} {σ : L2.St} {H : Hp} {s : Shared} {E : Value → Shared → Prop} {D b : Addr} {kvs : List (List Key × V)} {k : List Key} {v : V} {u r : Value} {Q : Unit → Shared → Prop} (hu : X.A.units + 1 < cLine) (I : Inv X pins σ H s)
    (hD : H D = some (.dT kvs)) (hz : kvs.length < sizeLine) (eb : H b = some (.tup (k.map kV))) (ry : RelV (.ref b) u) (rv : RelV v r) (h : ∀ s', Inv X pins σ (upd H D (.dT (putK kvs k v))) s' → Q () s') : wpAny (model X.prog X.w) X.A (dictSet D u r) Q E s := by
  cases (show u = Value.ref b from ry)
  obtain ⟨_, hd, xs, rel, dd⟩ := dt_of I.hok hD
  have q1 := Paired.length rel
  have q2 := length_putK kvs k v
  refine wpAny_dictSet_heap (hsz := by omega) (show X.A.units < cLine by omega) (key_of I.hok eb) dd fun h' dd' hs => h _ ?_
  obtain ⟨q, es, ep, hq, h2, h3, h4, _, h5⟩ := dd'
  refine d_write I (by rw [hD]; trivial) hs ⟨q, hq⟩ ⟨by omega, hd, _, (rel.put k eb rv).keeps fun c ys ec => ?_, q, es, ep, hq, h2, h3, h4, h5⟩
  rw [upd_ne (ne_of ec hD (fun z => nomatch z))]
  exact ec
section
variable {X : Cx}
/-- the reading of a dict comprehension whose keys are tuples -/
def tDcT (wi : TI) (g : TG) (tt : TT) (tk tv : TE) (vs : List Nat) : TE := fun σ H Q => wi σ H fun J H1 => ∀ D, H1 D = none → ∃ W : Nat → Nat → Hp → Prop, (∃ m, W 0 m (upd H1 D (.dT []))) ∧ ∀ i m H, W i m H →
  (J.stop i H ∧ Q (.ref D) H) ∨ (J.go i H ∧ ∃ Nx : Hp → Prop, (∀ H', Nx H' → ∃ m', m' < m ∧ W (i + 1) m' H') ∧ ∀ x H', J.yld i H x H' → g x (wipe σ vs) H' fun σ2 H2 => wipe σ2 vs = wipe σ vs ∧ tt σ2 H2 fun b H3 =>
    if b = true then tk σ2 H3 fun y H4 => tv σ2 H4 fun z H5 => ∃ kvs k b, y = .ref b ∧ H5 b = some (.tup (k.map kV)) ∧ H5 D = some (.dT kvs) ∧ kvs.length < sizeLine ∧ Nx (upd H5 D (.dT (putK kvs k z))) else Nx H3)
theorem dcT_core {pins : List (Addr × Obj)} {s : Shared} {σ : L2.St} {H : Hp} {Q : VK} {kx vx tg iter : Expr} {ifs : List Expr} {scope : Scope} {own : List (Str × Nat)} {pos pos' : Pos} {wi : TI} {g : TG} {tt : TT} {tk tv : TE} {use : Option (Value → Sem Unit)} {Qf : Value → Shared → Prop}
    (hu : X.A.units + 1 < cLine) (hc : X.calm = true) (hN : X.N.Nodup) (I : Inv X pins σ H s) (hi : PI X tg iter wi) (ok : BlkOk X.N X.env.scope scope own)
    (hg : ∀ (s : Shared) (H : Hp) (C : Addr) (cl : List (Str × Addr)) (fp : List Addr), PG (X.blk s H scope (compEnvC scope cl C X.env) fp) tg g) (ht : ∀ (s : Shared) (H : Hp) (C : Addr) (cl : List (Str × Addr)) (fp : List Addr), PTs (X.blk s H scope (compEnvC scope cl C X.env) fp) ifs tt)
    (hk : ∀ (s : Shared) (H : Hp) (C : Addr) (cl : List (Str × Addr)) (fp : List Addr), PE (X.blk s H scope (compEnvC scope cl C X.env) fp) kx tk)
    (he : ∀ (s : Shared) (H : Hp) (C : Addr) (cl : List (Str × Addr)) (fp : List Addr), PE (X.blk s H scope (compEnvC scope cl C X.env) fp) vx tv) (hs : ∀ x, foldedSetIterable iter X.env x = pure x)
    (h : tDcT wi g tt tk tv (own.map (·.2)) σ H Q)
    (hRR : ∀ D C s' m H', Inv X pins σ H' s' → Q (.ref D) H' → s'.heap.Ns C m → FpOk X pins H' C → compPost (model X.prog X.w) X.A X.xe use Qf (.ref D) C (.ok .next) s') :
    wpAny (model X.prog X.w) X.A (comprehension (.DictComp kx vx [⟨tg, iter, ifs, 0⟩] scope pos) scope X.env pos' newDict false (eval iter X.env) use) Qf X.xe s := by
  have hfree : ∀ y ∈ scope.names, y.2 = .free → ∃ c, X.env.cells.lookup y.1 = some c := fun y hy e => by
    rcases ok.free y hy e with k | k
    · exact I.ok.has _ (.inl k)
    · exact I.ok.has _ (.inr k)
  refine wpAny_comprehension_free (use := use) rfl hs (closure_ok hfree) ok.kind (fun y hy e => by rw [ok.uniq y hy, e])
    (thn (hi.run pins s σ H _ I h) fun xv s1 hx => thn hx fun itv s2 h2 => ?_)
  obtain ⟨it, fp, tn, J, H2, e, I2, T, st2, f2, q⟩ := h2
  subst e
  refine wpAny_newObj_type (newEnv_comp ?_)
  generalize hD : s2.heap.objs.size = D
  have hDn : H2 D = none := I2.hok.fresh (Nat.le_of_eq hD)
  obtain ⟨W, ⟨m0, w0⟩, turn⟩ := q D hDn
  -- the new list
  generalize hs3 : ({ s2 with heap := s2.heap.push { cls := .type "dict", data := .dict #[] } } : Shared) = s3
  have I3 : Inv X pins σ (upd H2 D (.dT [])) s3 := by
    rw [← hs3]
    refine I2.laid (t' := s2.toks) (fun b o e => Heap.get?_push_of_some _ e) (Nat.le_of_eq hD) ?_
    rw [← hD]
    exact dt_empty s2.heap I2.big
  have h3 : s3.heap = s2.heap.push { cls := .type "dict", data := .dict #[] } := by rw [← hs3]
  have sz : ∀ b ∈ fp, b < s2.heap.objs.size := fun b hb => by
    obtain ⟨o, e, _⟩ := T.obj _ _ st2 b hb
    exact Heap.lt_size e
  have f3 : ∀ b ∈ fp, FpOk X pins (upd H2 D (.dT [])) b ∧ b < s3.heap.objs.size := fun b hb => by
    have hlt := sz b hb
    refine ⟨⟨?_, (f2 b hb).2⟩, by rw [h3, Heap.size_push]; exact Nat.lt_succ_of_lt hlt⟩
    rw [upd_ne (by rw [← hD]; exact Nat.ne_of_lt hlt)]
    exact (f2 b hb).1
  have st3 : tn 0 s3.heap := T.keep _ _ _ st2 fun b _ o e => by rw [h3]; exact Heap.get?_push_of_some _ e
  have I4 := block_start I3 ok hN f3
  have pg := hg s3 (upd H2 D (.dT [])) s3.heap.objs.size (cellsFrom (s3.heap.objs.size + 1) scope.names (cloFrom X.env.cells scope.names [])) fp
  have pt := ht s3 (upd H2 D (.dT [])) s3.heap.objs.size (cellsFrom (s3.heap.objs.size + 1) scope.names (cloFrom X.env.cells scope.names [])) fp
  have pk := hk s3 (upd H2 D (.dT [])) s3.heap.objs.size (cellsFrom (s3.heap.objs.size + 1) scope.names (cloFrom X.env.cells scope.names [])) fp
  have pe := he s3 (upd H2 D (.dT [])) s3.heap.objs.size (cellsFrom (s3.heap.objs.size + 1) scope.names (cloFrom X.env.cells scope.names [])) fp
  show codeAny _ _ (.compStart (.DictComp kx vx [⟨tg, iter, ifs, 0⟩] scope pos) 0 (.ref it) (.ref D) (compEnvC scope (cellsFrom (s3.heap.objs.size + 1) scope.names (cloFrom X.env.cells scope.names [])) s3.heap.objs.size X.env)) (compPost (model X.prog X.w) X.A X.xe use Qf (.ref D) s3.heap.objs.size) { s3 with heap := pushCells (s3.heap.push { cls := .type "dict", data := .dict #[] }) scope.names }
  have nfp : ∀ b ∈ fp, (upd H2 D (.dT [])) b = none := fun b hb => (f3 b hb).1.1
  generalize hce : compEnvC scope (cellsFrom (s3.heap.objs.size + 1) scope.names (cloFrom X.env.cells scope.names [])) s3.heap.objs.size X.env = ce at I4 pg pt pk pe ⊢
  have cL : ce.locals = s3.heap.objs.size := by subst hce; rfl
  generalize hH3 : upd H2 D (.dT []) = H3 at I3 I4 pg pt pk pe w0 nfp f3
  generalize hs4 : ({ s3 with heap := pushCells (s3.heap.push { cls := .type "dict", data := .dict #[] }) scope.names } : Shared) = s4 at I4 ⊢
  have st4 : tn 0 s4.heap := T.keep _ _ _ st3 fun b _ o e => by rw [← hs4]; exact pushCells_keeps _ _ _ _ (Heap.get?_push_of_some _ e)
  have stat : ∀ {σ' : L2.St} {H' : Hp} {s' : Shared}, Inv (X.blk s3 H3 scope ce fp) [] σ' H' s' → (∀ b ∈ fp, H' b = none) → ∀ b ∈ fp, FpOk (X.blk s3 H3 scope ce fp) [] H' b := fun {σ' H' s'} I' hn b hb =>
    ⟨hn b hb, (I'.ok.exf b hb).1, I'.ok.exfs b hb, .inl hb, fun x c e => (I'.ok.exf b hb).2 x c e, fun p hp => absurd (show p ∈ ([] : List (Addr × Obj)) ++ [] from hp) (by simp)⟩
  have loop : codeAny (model X.prog X.w) X.A (.compLoop (.DictComp kx vx [⟨tg, iter, ifs, 0⟩] scope pos) 0 (.ref it) (.ref D) ce) (compPost (model X.prog X.w) X.A X.xe use Qf (.ref D) s3.heap.objs.size) s4 := by
    refine compLoop_anyD (fun n s' => ∃ i H', Inv (X.blk s3 H3 scope ce fp) [] (wipe σ (own.map (·.2))) H' s' ∧ tn i s'.heap ∧ (∀ b ∈ fp, H' b = none) ∧ W i n H') ?_ m0 ⟨0, H3, I4, st4, nfp, w0⟩
    rintro n s5 ⟨i, H5, I5, st5, n5, w5⟩
    rcases turn i n H5 w5 with ⟨stop, qq⟩ | ⟨go, Nx, hNx, step⟩
    · have td := T.done (X.blk s3 H3 scope ce fp) rfl rfl rfl hc i [] s5 _ H5 (fun _ _ => False) I5 (stat I5 n5) st5 stop
      refine thnF td fun r s6 ⟨hr, I6⟩ => ?_
      subst hr
      -- back in the def's context
      have I7 : Inv X pins σ H5 s6 := I3.call' (ch := fp) I6.os I6.base I6.hok I6.bare fun b hb => ⟨(f3 b hb).1.2.2.2.1, (f3 b hb).1.2.1, (f3 b hb).1.2.2.2.2.1, (f3 b hb).1.2.2.2.2.2⟩
      have nC : H5 s3.heap.objs.size = none := by
        have z : H5 ce.locals = none := I6.free
        rw [cL] at z
        exact z
      obtain ⟨m, hn, _⟩ := I6.loc
      have hn : s6.heap.Ns ce.locals m := hn
      rw [cL] at hn
      exact hRR D s3.heap.objs.size s6 m H5 I7 qq hn (I3.fpOk (Nat.le_refl _) nC)
    · have ti := T.item (X.blk s3 H3 scope ce fp) rfl rfl rfl hc i [] s5 _ H5 (fun _ _ => False) I5 (stat I5 n5) st5 go
      refine thnF ti fun r s6 ⟨u, hr, h6⟩ => ?_
      subst hr
      refine thnF h6 fun _ s7 ⟨x, H7, I7, r7, y7, st7, n7⟩ => ?_
      have I7' := I7.pinned (stat I7 n7) (T.obj _ _ st7)
      refine thnF (pg.run _ s7 _ H7 x u _ I7' r7 (step x H7 y7)) fun _ s8 ⟨σ8, H8, I8, hw8, q8⟩ => ?_
      refine thnF (pt.run _ s8 σ8 H8 _ I8 q8) fun b s9 ⟨H9, I9, q9⟩ => ?_
      -- the turn's end
      have fin : ∀ {s' : Shared} {H' : Hp}, Inv (X.blk s3 H3 scope ce fp) ([] ++ pinsAt fp s7.heap) σ8 H' s' → Nx H' → ∃ m, m < n ∧ ∃ i H', Inv (X.blk s3 H3 scope ce fp) [] (wipe σ (own.map (·.2))) H' s' ∧ tn i s'.heap ∧ (∀ b ∈ fp, H' b = none) ∧ W i m H' := fun {s' H'} I' nx => by
        obtain ⟨m', hm, w'⟩ := hNx H' nx
        have pin' : ∀ b ∈ fp, ∀ o, s7.heap.get? b = some o → s'.heap.get? b = some o ∧ H' b = none := fun b hb o e =>
          let z := I'.pin (b, o) (List.mem_append_right _ (List.mem_append_right _ (mem_pinsAt hb e)))
          ⟨z.1, z.2.1⟩
        have hl : (wipe σ (own.map (·.2))).length = σ8.length := by rw [← hw8, wipe_length]
        refine ⟨m', hm, i + 1, H', (I'.unpinned (pins := [])).weak hl (fun j v e => ?_), T.keep _ _ _ st7 fun b hb o e => (pin' b hb o e).1, fun b hb => ?_, w'⟩
        · rw [← hw8] at e
          exact (wipe_some e).1
        · obtain ⟨o, e, _⟩ := T.obj _ _ st7 b hb
          exact (pin' b hb o e).2
      cases b with
      | false =>
        simp only [Bool.false_eq_true, if_false] at q9 ⊢
        exact fin I9 q9
      | true =>
        simp only [if_true] at q9 ⊢
        refine thnF (pk.run _ s9 σ8 H9 _ I9 q9) fun z s10 ⟨yk, H10, I10, r10, q10⟩ => ?_
        refine thnF (pe.run _ s10 σ8 H10 _ I10 q10) fun z2 s11 ⟨yv, H11, I11, r11, kvs, k, kb, ek, eb11, hD11, hz11, nx⟩ => ?_
        subst ek
        exact d_dictSetT (X := X.blk s3 H3 scope ce fp) hu I11 hD11 hz11 eb11 r10 r11 fun s12 I12 => fin I12 nx
  exact codeAny_compStart_dict loop (T.self X.A 0 _ _ _ st4 loop)
theorem pe_dcT {kx vx tg iter : Expr} {ifs : List Expr} {scope : Scope} {own : List (Str × Nat)} {pos : Pos} {wi : TI} {g : TG} {tt : TT} {tk tv : TE} (hu : X.A.units + 1 < cLine) (hc : X.calm = true) (hN : X.N.Nodup) (hi : PI X tg iter wi) (ok : BlkOk X.N X.env.scope scope own)
    (hg : ∀ (s : Shared) (H : Hp) (C : Addr) (cl : List (Str × Addr)) (fp : List Addr), PG (X.blk s H scope (compEnvC scope cl C X.env) fp) tg g) (ht : ∀ (s : Shared) (H : Hp) (C : Addr) (cl : List (Str × Addr)) (fp : List Addr), PTs (X.blk s H scope (compEnvC scope cl C X.env) fp) ifs tt)
    (hk : ∀ (s : Shared) (H : Hp) (C : Addr) (cl : List (Str × Addr)) (fp : List Addr), PE (X.blk s H scope (compEnvC scope cl C X.env) fp) kx tk)
    (he : ∀ (s : Shared) (H : Hp) (C : Addr) (cl : List (Str × Addr)) (fp : List Addr), PE (X.blk s H scope (compEnvC scope cl C X.env) fp) vx tv) (hs : ∀ x, foldedSetIterable iter X.env x = pure x := by intro _; rfl) :
    PE X (.DictComp kx vx [⟨tg, iter, ifs, 0⟩] scope pos) (tDcT wi g tt tk tv (own.map (·.2))) := by
  refine ⟨fun pins s σ H Q I h => ?_⟩
  rw [arm_eval_DictComp]
  refine dcT_core hu hc hN I hi ok hg ht hk he hs h fun D C s' m H' I' q hn f => ⟨m, hn, fun h'' sb => ?_⟩
  obtain ⟨f0, f1, f2, f3, f4, f5⟩ := f
  exact ⟨.ref D, H', I'.turned (t' := s'.toks) (fun b o hb e => (sb.2 b hb).trans e) f0 f1 f3 f4 f5, rfl, q⟩
end
section
variable {G : Type} {Γ : GInt G} {X : Cx} {W : WX} {K : Fg} {pos : Pos} {σ : L2.St}
theorem dcomp_run {it : DI G} {t : Tg} {c : DT G} {kx vx : DE G} {vs ws : List Nat} (hw : ∀ j ∈ ws, j ∈ vs) {H : Hp} {Q : VK} (h : liftF K Γ W (dDC false it t c kx vx vs) σ H Q) :
    tDc (liftI K Γ W it) (liftG K Γ ws t) (liftT K Γ W0 c) (liftE K Γ W0 kx) (liftE K Γ W0 vx) vs σ H Q := by
  obtain ⟨C, l, g, R, ex, q, rl, h, k, kx⟩ := h
  refine ⟨C, l, g, R, ex, _, rl, h, fun J H1 R1 ds l1 g1 s1 r1 wk h1 => ?_, kx⟩
  obtain ⟨no, I, i0, step, fin⟩ := h1
  intro D hD
  have nD : R1 D = none := r1.sub.no0 hD
  refine ⟨fun i m H => m = ds.length - i ∧ i ≤ ds.length ∧ ∃ g2 R2 acc accD, Sub R1 R2 ∧ Rel K Γ (fxD C R1 D (.dK acc)) (wipeL l1 vs) g2 (wipe σ vs) R2 H ∧ RepK K R2 acc accD ∧ I i accD g2,
    ⟨_, rfl, Nat.zero_le _, g1, R1, [], [], Sub.refl _, (r1.wipe_ vs).begin hD, .nil, i0⟩, ?_⟩
  rintro i m H2 ⟨rfl, hi, g2, R2, acc, accD, s2, r2, za, hI⟩
  have w := wk (fxD C R1 D (.dK acc)) R2 H2 _ g2 _ s2 r2 i
  by_cases hlt : i < ds.length
  · refine .inr ⟨(w.1 hlt).1, fun H' => ∃ g2 R2 acc accD, Sub R1 R2 ∧ Rel K Γ (fxD C R1 D (.dK acc)) (wipeL l1 vs) g2 (wipe σ vs) R2 H' ∧ RepK K R2 acc accD ∧ I (i + 1) accD g2, fun H' z => ⟨_, by omega, rfl, hlt, z⟩, fun x H' y => ?_⟩
    obtain ⟨R3, s3, r3, d, hd, z⟩ := (w.1 hlt).2 x H' y
    refine ⟨_, _, g2, R3, d, _, r3, z, step i d accD g2 hd hI, fun σ' l' out r' h' => ?_⟩
    obtain ⟨hwl, h'⟩ := h'
    have hws : wipe σ' vs = wipe σ vs := by
      refine wipe_ext ?_ fun j hj => out j fun z => hj (hw j z)
      rw [← r'.len, ← wipeL_len l' vs, hwl, wipeL_len, r1.len]
    refine ⟨hws, _, l', g2, R3, noX, _, r', h', fun H4 R4 b l4 g4 s4 r4 h4 => ?_, fun _ _ _ _ _ _ _ _ _ _ z => z⟩
    obtain ⟨hw4, h4⟩ := h4
    cases b with
    | true =>
      refine ⟨_, l4, g4, R4, noX, _, r4, h4, fun y H5 R5 yd l5 g5 s5 r5 z5 h5 => ?_, fun _ _ _ _ _ _ _ _ _ _ z => z⟩
      refine ⟨_, l5, g5, R5, noX, _, r5, h5, fun z H6 R6 zd l6 g6 s6 r6 z6 h6 => ?_, fun _ _ _ _ _ _ _ _ _ _ z => z⟩
      obtain ⟨hw6, hlen, hkey, hI6⟩ := h6
      obtain ⟨hD6, _⟩ := r6.inD nD
      obtain ⟨kk, rfl, rfl⟩ := key_k (H := H6) (.of z5) hkey
      refine ⟨acc, kk, rfl, hD6, by rw [za.length, ← lim]; exact hlen, g6, R6, putK acc kk z, put accD (kD kk) zd, s2.trans (s3.trans (s4.trans (s5.trans s6))), ?_, put_k (za.mono (s3.trans (s4.trans (s5.trans s6)))) z6, hI6⟩
      have r7 := (r6.wipe_ vs).regrow (o' := .dK (putK acc kk z)) nD
      rw [hw6, hws] at r7
      exact r7
    | false =>
      have r6 := r4.wipe_ vs
      rw [hw4, hws] at r6
      exact ⟨g4, R4, acc, accD, s2.trans (s3.trans s4), r6, za.mono (s3.trans s4), h4⟩
  · have e : i = ds.length := by omega
    subst e
    refine .inl ⟨w.2 rfl, ?_⟩
    have r3 := r1.unwipe no r2 s2
    obtain ⟨hD3, nR3, nf3, ap3⟩ := r3.inD nD
    obtain ⟨r4, nC⟩ := r1.done r3 hD
    exact k D H2 R2 (.dic false accD) l1 g2 (s1.trans s2) r4 ⟨acc, hD3, za⟩ nR3 nC nf3 ap3 (fin accD g2 hI)
theorem dcompT_run {it : DI G} {t : Tg} {c : DT G} {kx vx : DE G} {vs ws : List Nat} (hw : ∀ j ∈ ws, j ∈ vs) {H : Hp} {Q : VK} (h : liftF K Γ W (dDC true it t c kx vx vs) σ H Q) :
    tDcT (liftI K Γ W it) (liftG K Γ ws t) (liftT K Γ W0 c) (liftE K Γ W0 kx) (liftE K Γ W0 vx) vs σ H Q := by
  obtain ⟨C, l, g, R, ex, q, rl, h, k, kx⟩ := h
  refine ⟨C, l, g, R, ex, _, rl, h, fun J H1 R1 ds l1 g1 s1 r1 wk h1 => ?_, kx⟩
  obtain ⟨no, I, i0, step, fin⟩ := h1
  intro D hD
  have nD : R1 D = none := r1.sub.no0 hD
  refine ⟨fun i m H => m = ds.length - i ∧ i ≤ ds.length ∧ ∃ g2 R2 acc accD, Sub R1 R2 ∧ Rel K Γ (fxD C R1 D (.dT acc)) (wipeL l1 vs) g2 (wipe σ vs) R2 H ∧ RepT K R2 acc accD ∧ I i accD g2,
    ⟨_, rfl, Nat.zero_le _, g1, R1, [], [], Sub.refl _, (r1.wipe_ vs).begin hD, .nil, i0⟩, ?_⟩
  rintro i m H2 ⟨rfl, hi, g2, R2, acc, accD, s2, r2, za, hI⟩
  have w := wk (fxD C R1 D (.dT acc)) R2 H2 _ g2 _ s2 r2 i
  by_cases hlt : i < ds.length
  · refine .inr ⟨(w.1 hlt).1, fun H' => ∃ g2 R2 acc accD, Sub R1 R2 ∧ Rel K Γ (fxD C R1 D (.dT acc)) (wipeL l1 vs) g2 (wipe σ vs) R2 H' ∧ RepT K R2 acc accD ∧ I (i + 1) accD g2, fun H' z => ⟨_, by omega, rfl, hlt, z⟩, fun x H' y => ?_⟩
    obtain ⟨R3, s3, r3, d, hd, z⟩ := (w.1 hlt).2 x H' y
    refine ⟨_, _, g2, R3, d, _, r3, z, step i d accD g2 hd hI, fun σ' l' out r' h' => ?_⟩
    obtain ⟨hwl, h'⟩ := h'
    have hws : wipe σ' vs = wipe σ vs := by
      refine wipe_ext ?_ fun j hj => out j fun z => hj (hw j z)
      rw [← r'.len, ← wipeL_len l' vs, hwl, wipeL_len, r1.len]
    refine ⟨hws, _, l', g2, R3, noX, _, r', h', fun H4 R4 b l4 g4 s4 r4 h4 => ?_, fun _ _ _ _ _ _ _ _ _ _ z => z⟩
    obtain ⟨hw4, h4⟩ := h4
    cases b with
    | true =>
      refine ⟨_, l4, g4, R4, noX, _, r4, h4, fun y H5 R5 yd l5 g5 s5 r5 z5 h5 => ?_, fun _ _ _ _ _ _ _ _ _ _ z => z⟩
      refine ⟨_, l5, g5, R5, noX, _, r5, h5, fun z H6 R6 zd l6 g6 s6 r6 z6 h6 => ?_, fun _ _ _ _ _ _ _ _ _ _ z => z⟩
      obtain ⟨hw6, hlen, hkey, hI6⟩ := h6
      obtain ⟨hD6, _⟩ := r6.inD nD
      obtain ⟨b, kk, rfl, eb, rfl⟩ := key_t r6.sub (.of (z5.mono s6)) hkey
      refine ⟨acc, kk, b, rfl, eb, hD6, by rw [za.length, ← lim]; exact hlen, g6, R6, putK acc kk z, put accD (.tup (kk.map kD)) zd, s2.trans (s3.trans (s4.trans (s5.trans s6))), ?_, put_t (za.mono (s3.trans (s4.trans (s5.trans s6)))) z6, hI6⟩
      have r7 := (r6.wipe_ vs).regrow (o' := .dT (putK acc kk z)) nD
      rw [hw6, hws] at r7
      exact r7
    | false =>
      have r6 := r4.wipe_ vs
      rw [hw4, hws] at r6
      exact ⟨g4, R4, acc, accD, s2.trans (s3.trans s4), r6, za.mono (s3.trans s4), h4⟩
  · have e : i = ds.length := by omega
    subst e
    refine .inl ⟨w.2 rfl, ?_⟩
    have r3 := r1.unwipe no r2 s2
    obtain ⟨hD3, nR3, nf3, ap3⟩ := r3.inD nD
    obtain ⟨r4, nC⟩ := r1.done r3 hD
    exact k D H2 R2 (.dic true accD) l1 g2 (s1.trans s2) r4 ⟨acc, hD3, za⟩ nR3 nC nf3 ap3 (fin accD g2 hI)
section
variable {kx vx tg iter : Expr} {ifs : List Expr} {scope : Scope} {own : List (Str × Nat)} {it : DI G} {t : Tg} {c : DT G} {fk fv : DE G} {ws : List Nat}
theorem d_dc (hc : X.calm = true) (hN : X.N.Nodup) (hi : PI X tg iter (liftI X.K Γ W it)) (ok : BlkOk X.N X.env.scope scope own)
    (hg : ∀ (s : Shared) (H : Hp) (C : Addr) (cl : List (Str × Addr)) (fp : List Addr), PG (X.blk s H scope (compEnvC scope cl C X.env) fp) tg (liftG X.K Γ ws t))
    (ht : ∀ (s : Shared) (H : Hp) (C : Addr) (cl : List (Str × Addr)) (fp : List Addr), PTs (X.blk s H scope (compEnvC scope cl C X.env) fp) ifs (liftT X.K Γ W0 c))
    (hk : ∀ (s : Shared) (H : Hp) (C : Addr) (cl : List (Str × Addr)) (fp : List Addr), PE (X.blk s H scope (compEnvC scope cl C X.env) fp) kx (liftE X.K Γ W0 fk))
    (he : ∀ (s : Shared) (H : Hp) (C : Addr) (cl : List (Str × Addr)) (fp : List Addr), PE (X.blk s H scope (compEnvC scope cl C X.env) fp) vx (liftE X.K Γ W0 fv)) (hw : ∀ j ∈ ws, j ∈ own.map (·.2)) (hs : ∀ x, foldedSetIterable iter X.env x = pure x := by intro _; rfl) :
    PE X (.DictComp kx vx [⟨tg, iter, ifs, 0⟩] scope pos) (liftF X.K Γ W (dDC false it t c fk fv (own.map (·.2)))) := (pe_dc hc hN hi ok hg ht hk he hs).imp fun _ _ _ h => dcomp_run hw h
theorem d_dcT (hu : X.A.units + 1 < cLine) (hc : X.calm = true) (hN : X.N.Nodup) (hi : PI X tg iter (liftI X.K Γ W it)) (ok : BlkOk X.N X.env.scope scope own)
    (hg : ∀ (s : Shared) (H : Hp) (C : Addr) (cl : List (Str × Addr)) (fp : List Addr), PG (X.blk s H scope (compEnvC scope cl C X.env) fp) tg (liftG X.K Γ ws t))
    (ht : ∀ (s : Shared) (H : Hp) (C : Addr) (cl : List (Str × Addr)) (fp : List Addr), PTs (X.blk s H scope (compEnvC scope cl C X.env) fp) ifs (liftT X.K Γ W0 c))
    (hk : ∀ (s : Shared) (H : Hp) (C : Addr) (cl : List (Str × Addr)) (fp : List Addr), PE (X.blk s H scope (compEnvC scope cl C X.env) fp) kx (liftE X.K Γ W0 fk))
    (he : ∀ (s : Shared) (H : Hp) (C : Addr) (cl : List (Str × Addr)) (fp : List Addr), PE (X.blk s H scope (compEnvC scope cl C X.env) fp) vx (liftE X.K Γ W0 fv)) (hw : ∀ j ∈ ws, j ∈ own.map (·.2)) (hs : ∀ x, foldedSetIterable iter X.env x = pure x := by intro _; rfl) :
    PE X (.DictComp kx vx [⟨tg, iter, ifs, 0⟩] scope pos) (liftF X.K Γ W (dDC true it t c fk fv (own.map (·.2)))) := (pe_dcT hu hc hN hi ok hg ht hk he hs).imp fun _ _ _ h => dcompT_run hw h
end
end
end Lk

set_option autoImplicit false
set_option linter.all false
set_option Elab.async false
set_option maxRecDepth 100000
set_option maxHeartbeats 2000000
/-! a Track is made -/
namespace Lk
open PySem PySem.Spec PyProof.Rows L2 Dx
theorem reps_at {K : Fg} {R : Hp} : ∀ {vs : List V} {ds : List D}, vs.length = ds.length → (∀ (i : Nat) v d, vs[i]? = some v → ds[i]? = some d → Rep K R v d) → Reps K R vs ds
  | [], [], _, _ => .nil
  | [], _ :: _, h, _ => by simp at h
  | _ :: _, [], h, _ => by simp at h
  | v :: vs, d :: ds, h, k => .cons (k 0 v d rfl rfl) (reps_at (by simpa using h) fun i v d h1 h2 => k (i + 1) v d (by simpa using h1) (by simpa using h2))
theorem ne_pa : ¬ ("places" : Str) = "arrows" := by decide +kernel
theorem ne_pk : ¬ ("places" : Str) = "kept_arrows" := by decide +kernel
theorem ne_ak : ¬ ("arrows" : Str) = "kept_arrows" := by decide +kernel
theorem put2 (u v : V) : putF "arrows" v [(("places" : Str), u)] = ([("places", u), ("arrows", v)] : List (Str × V)) := by
  show (if ("places" : Str) = "arrows" then [(("places" : Str), v)] else (("places" : Str), u) :: putF "arrows" v []) = ([("places", u), ("arrows", v)] : List (Str × V))
  rw [if_neg ne_pa]
  rfl
theorem put3 (u v w : V) : putF "kept_arrows" w [(("places" : Str), u), ("arrows", v)] = ([("places", u), ("arrows", v), ("kept_arrows", w)] : List (Str × V)) := by
  show (if ("places" : Str) = "kept_arrows" then [(("places" : Str), w), ("arrows", v)] else (("places" : Str), u) :: (if ("arrows" : Str) = "kept_arrows" then [(("arrows" : Str), w)] else (("arrows" : Str), v) :: putF "kept_arrows" w [])) = ([("places", u), ("arrows", v), ("kept_arrows", w)] : List (Str × V))
  rw [if_neg ne_pk, if_neg ne_ak]
  rfl
theorem look3 (u v w : V) : List.lookup ("kept_arrows" : Str) [(("places" : Str), u), ("arrows", v), ("kept_arrows", w)] = some w := by
  have b1 : (("kept_arrows" : Str) == "places") = false := by decide +kernel
  have b2 : (("kept_arrows" : Str) == "arrows") = false := by decide +kernel
  simp only [List.lookup_cons, b1, b2, beq_self_eq_true]
def isTrk (c : String) : Prop := c = "Track" ∨ c = "RawTrack"
theorem flds_trk {c : String} (h : isTrk c) : flds c = (["places", "arrows", "kept_arrows"] : List Str) := by
  rcases h with rfl | rfl
  · rfl
  · rfl
theorem ixAt_nat {n p : Nat} (h : p < n) : ixAt n (p : Int) = some p := by
  unfold ixAt
  rw [if_pos (by omega), if_pos (by omega), Int.toNat_natCast]
/-- keep(self, places, arrows) -/
def spKeep (K : Fg) (c : String) : Sp := fun vs H Q _ => ∃ (x dx arr : Addr) (n : Nat) (avs : List V) (ds : List D) (R : Hp), vs = [.ref x, .int n, .ref arr] ∧ n ≤ 1000000 ∧ ds.length ≤ 1000000 ∧ H x = some (.ins (clsA K c) dx []) ∧ R x = none ∧ Sub R H ∧ R arr = some (.tup avs) ∧ Reps K R avs ds ∧
  (∀ d ∈ ds, arrOk n d) ∧ ∀ H' R', Sub R R' → Sub R' H' → (∀ a o, a ≠ x → H a = some o → H' a = some o) → (∀ a, R' a ≠ none → R a ≠ none ∨ a = x ∨ H a = none) → Rep K R' (.ref x) (trkD "Track" n ds) → Q .non H'
def tKeep (K : Fg) (r : R2) : TS := tSeq (sFld K (tVar 0) (tVar 1) "places") (tSeq (sFld K (tVar 0) (tVar 2) "arrows") (tSeq (sFld K (tVar 0) (tLc (iRng1 (tCons (tVar 1) tNil)) (gName 3) tYes (tLst tNil) [3]) "kept_arrows")
  (tFor (iTup K (tVar 2)) (gTup K 4 (gCons (gName 3) (gCons (gName 4) (gCons (gName 5) (gCons (gName 6) gNil))))) (tDrop (tBM K "list" rAppend (tOp r (tFld K (tVar 0) "kept_arrows") (tVar 3)) (tCons (tTup (tCons (tVar 4) (tCons (tVar 5) (tCons (tVar 6) tNil)))) tNil))))))
theorem stepsD_snoc (ds : List D) (d : D) (j : Nat) : stepsD (ds ++ [d]) j = stepsD ds j ++ (stepD j d).toList := by
  unfold stepsD
  rw [List.filterMap_append]
  simp only [List.filterMap_cons, List.filterMap_nil]
  cases stepD j d <;> rfl
theorem pure_keep {K : Fg} {c : String} (ic : isTrk c) (hc : Cls K (clsA K c)) (n1 : NoAttr K (clsA K c) "places") (n2 : NoAttr K (clsA K c) "arrows") (n3 : NoAttr K (clsA K c) "kept_arrows") (hi : IsiOk K (clsA K c)) (vs : List V) (H : Hp) (Q : VK) (E : XK) (h : spKeep K c vs H Q E) :
    tKeep K (rIxL K) { nx := fun _ H' => Q .non H', rt := Q } (L2.start ["self", "places", "arrows", "place", "letter", "pay", "goal"] vs) H := by
  obtain ⟨x, dx, arr, n, avs, ds, R, rfl, hn, hdl, hx, Rx, sR, hA, zA, ok, k⟩ := h
  have arr_x : arr ≠ x := fun z => by rw [z, Rx] at hA; cases hA
  refine ⟨_, rfl, _, rfl, x, _, dx, _, rfl, hx, hc, n1, by decide, ?_⟩
  refine ⟨_, rfl, _, rfl, x, _, dx, _, rfl, upd_same, hc, n2, by show 1 < 1000; decide, ?_⟩
  rw [upd_upd]
  have e2 : putF "arrows" (.ref arr) (putF "places" (.int (n : Int)) []) = [(("places" : Str), V.int n), ("arrows", .ref arr)] := put2 _ _
  rw [e2]
  generalize hH3 : upd H x (.ins (clsA K c) dx [(("places" : Str), V.int n), ("arrows", .ref arr)]) = H3
  have h3x : H3 x = some (.ins (clsA K c) dx [(("places" : Str), V.int n), ("arrows", .ref arr)]) := by rw [← hH3]; exact upd_same
  have h3o : ∀ a o, a ≠ x → H a = some o → H3 a = some o := fun a o na e => by rw [← hH3, upd_ne na]; exact e
  have h3n : ∀ a, H3 a = none → H a = none := fun a e => by
    cases q : H a with
    | none => rfl
    | some o =>
      by_cases na : a = x
      · subst na; rw [h3x] at e; cases e
      · rw [h3o a o na q] at e; cases e
  refine ⟨_, rfl, (n : Int), rfl, by omega, by omega, fun L hL => ?_⟩
  refine lc_range (lo := 0) (n := ((n : Int)).toNat) (fun i H' => ∃ ls : List Addr, ls.length = i ∧ ls.Nodup ∧ (∀ a ∈ ls, H3 a = none ∧ a ≠ L ∧ H' a = some (.lst [])) ∧ H' L = some (.lst (ls.map .ref)) ∧ ∀ a o, H3 a = some o → H' a = some o) ?_ ?_ ?_
  · refine ⟨[], rfl, List.nodup_nil, fun a ha => by simp at ha, upd_same, fun a o e => ?_⟩
    rw [upd_ne (ne_of_none e hL)]
    exact e
  · rintro i H' hi ⟨ls, hl, nd, hls, hD, hk⟩
    refine ⟨rfl, ?_⟩
    show ([] : List V).length ≤ sizeLine ∧ _
    refine ⟨Nat.zero_le _, fun p hp => ?_⟩
    have pL : L ≠ p := ne_of_none hD hp
    refine ⟨ls.map .ref, by rw [upd_ne pL]; exact hD, by rw [List.length_map, hl, sizeLine_eq]; omega, ls ++ [p], by simp [hl], ?_, fun a ha => ?_, ?_, fun a o e => ?_⟩
    · rw [List.nodup_append]
      refine ⟨nd, by simp, fun a ha b hb => ?_⟩
      have : b = p := by simpa using hb
      subst this
      rintro rfl
      rw [(hls a ha).2.2] at hp
      cases hp
    · rcases List.mem_append.mp ha with ha | ha
      · obtain ⟨q1, q2, q3⟩ := hls a ha
        have : a ≠ p := fun z => by rw [z, hp] at q3; cases q3
        exact ⟨q1, q2, by rw [upd_ne q2, upd_ne this]; exact q3⟩
      · have : a = p := by simpa using ha
        subst this
        refine ⟨?_, pL.symm, by rw [upd_ne pL.symm]; exact upd_same⟩
        cases q : H3 a with
        | none => rfl
        | some o => rw [hk a o q] at hp; cases hp
    · rw [List.map_append]; exact upd_same
    · have nL : a ≠ L := ne_of_none e hL
      have np : a ≠ p := ne_of_none (hk a o e) hp
      rw [upd_ne nL, upd_ne np]
      exact hk a o e
  · rintro H4 ⟨ls, hl, nd, hls, hD, hk⟩
    have hln : ls.length = n := by rw [hl]; simp
    refine ⟨_, rfl, x, _, dx, _, rfl, hk x _ h3x, hc, n3, by show 2 < 1000; decide, ?_⟩
    rw [put3]
    have Lx : L ≠ x := fun z => by rw [z, h3x] at hL; cases hL
    have lsx : ∀ a ∈ ls, a ≠ x := fun a ha z => by have := (hls a ha).1; rw [z, h3x] at this; cases this
    generalize hF : ([("places", V.int n), ("arrows", .ref arr), ("kept_arrows", .ref L)] : List (Str × V)) = F
    have hlook : F.lookup ("kept_arrows" : Str) = some (V.ref L) := by rw [← hF]; exact look3 _ _ _
    have hA5 : SqT K (upd H4 x (.ins (clsA K c) dx F)) arr avs := SqT.of (by rw [upd_ne arr_x]; exact hk _ _ (h3o _ _ arr_x (sR _ _ hA)))
    refine ⟨_, rfl, arr, rfl, ⟨avs, hA5⟩, ?_⟩
    refine for_tup (K := K) (a := arr) (xs := avs) (fun i σ H' => (∃ s1 s2 s3 s4, σ = [some (.ref x), some (.int n), some (.ref arr), s1, s2, s3, s4]) ∧ H' x = some (.ins (clsA K c) dx F) ∧ H' L = some (.lst (ls.map .ref)) ∧
      (∀ a o, a ≠ x → H a = some o → H' a = some o) ∧ ∃ R2 : Hp, Sub R R2 ∧ Sub R2 H' ∧ (∀ a, R2 a ≠ none → R a ≠ none ∨ H a = none) ∧ R2 x = none ∧ R2 L = none ∧ (∀ a ∈ ls, R2 a = none) ∧
      ∀ (j : Nat) a, ls[j]? = some a → ∃ ws, H' a = some (.lst ws) ∧ Reps K R2 ws (stepsD (ds.take i) j)) ?_ ?_ ?_ ?_
    · refine ⟨⟨none, none, none, none, rfl⟩, upd_same, by rw [upd_ne Lx]; exact hD, fun a o na e => ?_, R, Sub.refl R, fun a o e => ?_, fun a e => .inl e, Rx, ?_, fun a ha => ?_, fun j a ha => ?_⟩
      · rw [upd_ne na]
        exact hk a o (h3o a o na e)
      · have na : a ≠ x := fun z => by rw [z, Rx] at e; cases e
        rw [upd_ne na]
        exact hk a o (h3o a o na (sR a o e))
      · exact sR.no0 (h3n L hL)
      · exact sR.no0 (h3n a (hls a ha).1)
      · have hm := List.mem_of_getElem? ha
        refine ⟨[], by rw [upd_ne (lsx a hm)]; exact (hls a hm).2.2, ?_⟩
        rw [List.take_zero]
        exact .nil
    · rintro i σ H' _ ⟨_, _, _, hO, _⟩
      exact SqT.of (hO arr _ arr_x (sR _ _ hA))
    · rintro i y σ H' hy ⟨⟨s1, s2, s3, s4, rfl⟩, hx', hL', hO, R2, sR2, sH2, new2, R2x, R2L, R2l, hst⟩
      obtain ⟨d, hd, zd⟩ := zA.getV hy
      obtain ⟨p, l, pay, go, rfl, hp⟩ := ok d (List.mem_of_getElem? hd)
      cases zd with
      | tup ht zs =>
        rename_i ta tvs
        cases zs with
        | cons z1 zs =>
          cases zs with
          | cons z2 zs =>
            cases zs with
            | cons z3 zs =>
              cases zs with
              | cons z4 zs =>
                cases zs
                cases z1
                rename_i v2 v3 v4
                have htx : ta ≠ x := fun z => by rw [z, Rx] at ht; cases ht
                refine ⟨ta, _, rfl, SqT.of (hO ta _ htx (sR _ _ ht)), rfl, ?_⟩
                refine ⟨_, _, rfl, _, _, rfl, _, _, rfl, _, _, rfl, rfl, ?_⟩
                obtain ⟨a, ha⟩ : ∃ a, ls[p]? = some a := ⟨_, List.getElem?_eq_getElem (by omega)⟩
                have hm := List.mem_of_getElem? ha
                obtain ⟨ws, hw, zw⟩ := hst p a ha
                refine ⟨_, rfl, x, _, dx, F, .ref L, rfl, hx', hc, n3, hlook, ?_⟩
                refine ⟨_, rfl, L, ls.map .ref, (p : Int), .ref a, rfl, rfl, SqL.of hL', (by rw [atI_ix, List.length_map, hln, ixAt_nat hp]; show (ls.map V.ref)[p]? = _; rw [List.getElem?_map, ha]; rfl), ?_⟩
                refine ⟨.inl ⟨rfl, ws, SqL.of hw⟩, _, rfl, _, rfl, _, rfl, by show 3 ≤ sizeLine; decide, fun q hq => ?_⟩
                have nqa : a ≠ q := ne_of_none hw hq
                have nqx : x ≠ q := ne_of_none hx' hq
                have nqL : L ≠ q := ne_of_none hL' hq
                have nq2 : R2 q = none := sH2.no0 hq
                have ax : a ≠ x := lsx a hm
                have aL : a ≠ L := (hls a hm).2.1
                have wl : ws.length ≤ i := by
                  rw [zw.length]
                  refine Nat.le_trans (List.length_filterMap_le _ _) ?_
                  rw [List.length_take]
                  exact Nat.min_le_left _ _
                have hi : i < ds.length := (List.getElem?_eq_some_iff.mp hd).1
                refine ⟨a, ws, _, rfl, rfl, by rw [upd_ne nqa]; exact hw, by rw [sizeLine_eq]; omega, ?_⟩
                have s3 : Sub R2 (upd R2 q (.tup [v2, v3, v4])) := Sub.new nq2
                refine ⟨⟨_, _, _, _, rfl⟩, by rw [upd_ne ax.symm, upd_ne nqx]; exact hx', by rw [upd_ne aL.symm, upd_ne nqL]; exact hL', fun b o nb e => ?_, upd R2 q (.tup [v2, v3, v4]), sR2.trans s3, fun b o e => ?_, fun b e => ?_, ?_, ?_, fun b hb => ?_, fun j b hb => ?_⟩
                · have n1 : b ≠ a := fun z => by
                    have := h3n a (hls a hm).1
                    rw [← z, e] at this
                    cases this
                  have n2 : b ≠ q := ne_of_none (hO b o nb e) hq
                  rw [upd_ne n1, upd_ne n2]
                  exact hO b o nb e
                · by_cases z : b = q
                  · subst z
                    rw [upd_ne nqa.symm]
                    rw [upd_same] at e ⊢
                    exact e
                  · rw [upd_ne z] at e
                    have n1 : b ≠ a := fun y => by rw [y, R2l a hm] at e; cases e
                    rw [upd_ne n1, upd_ne z]
                    exact sH2 b o e
                · by_cases z : b = q
                  · subst z
                    refine .inr ?_
                    cases y : H b with
                    | none => rfl
                    | some o =>
                      by_cases nb : b = x
                      · exact absurd nb.symm nqx
                      · rw [hO b o nb y] at hq; cases hq
                  · rw [upd_ne z] at e
                    exact new2 b e
                · rw [upd_ne nqx]; exact R2x
                · rw [upd_ne nqL]; exact R2L
                · have n1 : b ≠ q := fun z => by
                    obtain ⟨j, hj⟩ := List.mem_iff_getElem?.mp hb
                    obtain ⟨_, h1, _⟩ := hst j b hj
                    rw [z, hq] at h1
                    cases h1
                  rw [upd_ne n1]
                  exact R2l b hb
                · obtain ⟨ws', hw', zw'⟩ := hst j b hb
                  have et : ds.take (i + 1) = ds.take i ++ [.tup [.int (p : Int), l, pay, go]] := by
                    rw [List.take_add_one, hd]
                    rfl
                  have step : stepD j (.tup [.int (p : Int), l, pay, go]) = if p = j then some (.tup [l, pay, go]) else none := by
                    show (if (p : Int) = (j : Int) then some (D.tup [l, pay, go]) else none) = _
                    by_cases z : p = j
                    · rw [if_pos z, if_pos (by rw [z])]
                    · rw [if_neg z, if_neg (fun y => z (by omega))]
                  rw [et, stepsD_snoc, step]
                  by_cases z : p = j
                  · subst z
                    rw [ha] at hb
                    cases hb
                    rw [hw] at hw'
                    cases hw'
                    refine ⟨_, upd_same, ?_⟩
                    rw [if_pos rfl]
                    have sRR := sR2.trans s3
                    exact (zw'.mono s3).app (.one (.tup upd_same (.cons (z2.mono sRR) (.cons (z3.mono sRR) (.cons (z4.mono sRR) .nil)))))
                  · have nb : b ≠ a := fun y => by
                      subst y
                      obtain ⟨h1, e1⟩ := List.getElem?_eq_some_iff.mp ha
                      obtain ⟨h2, e2⟩ := List.getElem?_eq_some_iff.mp hb
                      exact z ((List.getElem_inj nd).mp (e1.trans e2.symm))
                    have nbq : b ≠ q := ne_of_none hw' hq
                    refine ⟨ws', by rw [upd_ne nb, upd_ne nbq]; exact hw', ?_⟩
                    rw [if_neg z]
                    show Reps K _ ws' (_ ++ [])
                    rw [List.append_nil]
                    exact zw'.mono s3
    · rintro σ H' ⟨_, hx', hL', hO, R2, sR2, sH2, new2, R2x, R2L, R2l, hst⟩
      have el : avs.length = ds.length := zA.length
      rw [el, List.take_length] at hst
      let R3 : Hp := fun a => if a ∈ ls then H' a else if a = L then H' L else if a = x then H' x else R2 a
      have r3l : ∀ a ∈ ls, R3 a = H' a := fun a ha => if_pos ha
      have Lnl : L ∉ ls := fun z => (hls L z).2.1 rfl
      have xnl : x ∉ ls := fun z => lsx x z rfl
      have r3L : R3 L = H' L := by show (if L ∈ ls then _ else if L = L then _ else _) = _; rw [if_neg Lnl, if_pos rfl]
      have r3x : R3 x = H' x := by show (if x ∈ ls then _ else if x = L then _ else if x = x then _ else _) = _; rw [if_neg xnl, if_neg Lx.symm, if_pos rfl]
      have s23 : Sub R2 R3 := fun a o e => by
        have q1 : a ∉ ls := fun z => by rw [R2l a z] at e; cases e
        have q2 : a ≠ L := fun z => by rw [z, R2L] at e; cases e
        have q3 : a ≠ x := fun z => by rw [z, R2x] at e; cases e
        show (if a ∈ ls then _ else if a = L then _ else if a = x then _ else _) = _
        rw [if_neg q1, if_neg q2, if_neg q3]
        exact e
      refine k H' R3 (sR2.trans s23) (fun a o e => ?_) hO (fun a e => ?_) ?_
      · have e : (if a ∈ ls then H' a else if a = L then H' L else if a = x then H' x else R2 a) = some o := e
        by_cases q1 : a ∈ ls
        · rw [if_pos q1] at e; exact e
        · rw [if_neg q1] at e
          by_cases q2 : a = L
          · rw [if_pos q2] at e; rw [q2]; exact e
          · rw [if_neg q2] at e
            by_cases q3 : a = x
            · rw [if_pos q3] at e; rw [q3]; exact e
            · rw [if_neg q3] at e; exact sH2 a o e
      · by_cases q1 : a ∈ ls
        · exact .inr (.inr (h3n a (hls a q1).1))
        · by_cases q2 : a = L
          · subst q2; exact .inr (.inr (h3n a hL))
          · by_cases q3 : a = x
            · exact .inr (.inl q3)
            · have e : (if a ∈ ls then H' a else if a = L then H' L else if a = x then H' x else R2 a) ≠ none := e
              rw [if_neg q1, if_neg q2, if_neg q3] at e
              rcases new2 a e with y | y
              · exact .inl y
              · exact .inr (.inr y)
      · refine .obj (cls := clsA K c) (by rw [r3x]; exact hx') ⟨hc, fun fn hfn => ?_, hi⟩ ?_
        · rw [flds_trk (.inl rfl)] at hfn
          rcases List.mem_cons.mp hfn with rfl | hfn
          · exact n1
          rcases List.mem_cons.mp hfn with rfl | hfn
          · exact n2
          rcases List.mem_cons.mp hfn with rfl | hfn
          · exact n3
          · cases hfn
        rw [flds_trk (.inl rfl), ← hF]
        refine .cons (.int _) (.cons (.tup ((sR2.trans s23) _ _ hA) (zA.mono (sR2.trans s23))) (.cons (.lst (by rw [r3L]; exact hL') ?_) .nil))
        refine reps_at (by rw [List.length_map, hln]; simp [keptD]) fun j v d hv hd => ?_
        rw [List.getElem?_map] at hv
        cases ha : ls[j]? with
        | none => rw [ha] at hv; cases hv
        | some a =>
          rw [ha] at hv
          cases hv
          obtain ⟨ws, hw, zw⟩ := hst j a ha
          unfold keptD at hd
          rw [List.getElem?_map] at hd
          have hj : j < n := by rw [← hln]; exact (List.getElem?_eq_some_iff.mp ha).1
          rw [List.getElem?_range hj] at hd
          cases hd
          exact .lst (by rw [r3l a (List.mem_of_getElem? ha)]; exact hw) (zw.mono s23)
end Lk

set_option autoImplicit false
set_option linter.all false
set_option Elab.async false
set_option maxRecDepth 100000
set_option maxHeartbeats 2000000
namespace Lk
open PySem PySem.Spec PyProof.Rows L2 Dx
def noH : Hp := fun _ => none
theorem scl_rep {K : Fg} {R T : Hp} {v : V} {d : D} (h : Rep K R v d) (f : scl d = true) : Rep K T v d := by
  cases h with
  | non => exact .non
  | bl b => exact .bl b
  | int i => exact .int i
  | str x => exact .str x
  | ref a => exact .ref a
  | _ => cases f
theorem scl_reps {K : Fg} {R T : Hp} : ∀ {vs : List V} {ds : List D}, Reps K R vs ds → ds.all scl = true → Reps K T vs ds
  | _, _, .nil, _ => .nil
  | _, _, .cons h q, f => by
    rw [List.all_cons, Bool.and_eq_true] at f
    exact .cons (scl_rep h f.1) (scl_reps q f.2)
theorem noH_sub (R : Hp) : Sub noH R := fun a o e => by cases e
/-- a list of the written part -/
def KLst (K : Fg) (a : Addr) (xs : List V) : Prop := ∃ (o : Obj) (its : Array Value) (n : Nat), K.lookup a = some o ∧ o.cls = .type "list" ∧ o.dict = none ∧ o.data = .seq its n ∧ its.size ≤ sizeLine ∧ Vals xs its.toList
def gint (K : Fg) : GInt Gm where
  at_ := fun g H => (if g.trk = true then Rd H g.scr (.lst (g.ns.map .int)) else KLst K g.scr (g.ns.map .int)) ∧ (g.trk = true → g.st g.scr = none) ∧ ∀ a xs, g.st a = some xs → ∃ vs, H a = some (.lst vs) ∧ Reps K noH vs xs
  fp := fun g a => g.st a ≠ none ∨ (a = g.scr ∧ g.trk = true)
  there := fun g H a h f => by
    rcases f with f | ⟨rfl, f⟩
    · cases e : g.st a with
      | none => exact absurd e f
      | some xs =>
        obtain ⟨vs, q, _⟩ := h.2.2 a xs e
        rw [q]
        simp
    · have h1 := h.1
      rw [if_pos f] at h1
      rcases h1 with q | ⟨o, q⟩ <;> (rw [q]; simp)
  stay := fun g H H' h k => by
    refine ⟨?_, h.2.1, fun a xs e => ?_⟩
    · by_cases f : g.trk = true
      · have h1 := h.1
        rw [if_pos f] at h1 ⊢
        have e := k g.scr (.inr ⟨rfl, f⟩)
        rcases h1 with q | ⟨o, q⟩
        · exact .inl (e.trans q)
        · exact .inr ⟨o, e.trans q⟩
      · have h1 := h.1
        rw [if_neg f] at h1 ⊢
        exact h1
    · obtain ⟨vs, q, z⟩ := h.2.2 a xs e
      exact ⟨vs, (k a (.inl (by rw [e]; simp))).trans q, z⟩
section
variable {X : Cx} {W : WX} {K : Fg} {pos : Pos} {C : Fx} {l : L} {g : Gm} {σ : L2.St} {R H : Hp}
theorem Rel.script (r : Rel K (gint K) C l g σ R H) : SqL K H g.scr (g.ns.map .int) := by
  have h := r.gat.1
  by_cases f : g.trk = true
  · rw [if_pos f] at h
    exact .inl h
  · rw [if_neg f] at h
    exact .inr h
theorem Rel.mut (r : Rel K (gint K) C l g σ R H) {p : Addr} {xs : List D} (h : g.st p = some xs) : ∃ vs, H p = some (.lst vs) ∧ Reps K noH vs xs := r.gat.2.2 p xs h
/-- a list of the store is changed -/
theorem Rel.mset (r : Rel K (gint K) C l g σ R H) {p : Addr} {xs ys : List D} {ws : List V} (h : g.st p = some xs) (z : Reps K noH ws ys) : Rel K (gint K) C l (gset g p ys) σ R (upd H p (.lst ws)) := by
  have hp : (gint K).fp g p := .inl (by rw [h]; simp)
  have ns : ¬ (p = g.scr ∧ g.trk = true) := fun ⟨e, f⟩ => by
    have y := r.gat.2.1 f
    rw [← e, h] at y
    cases y
  obtain ⟨nR, nC⟩ := r.gfr p hp
  have fpe : ∀ a, (gint K).fp (gset g p ys) a → (gint K).fp g a := fun a f => by
    rcases f with f | f
    · by_cases e : a = p
      · rw [e]; exact hp
      · refine .inl ?_
        have f : (if a = p then some ys else g.st a) ≠ none := f
        rw [if_neg e] at f
        exact f
    · exact .inr f
  have up : ∀ {T : Hp}, Sub T H → T p = none → Sub T (upd H p (.lst ws)) := fun s n a o e => by
    rw [upd_ne (fun z => by rw [z, n] at e; cases e)]
    exact s a o e
  refine ⟨r.len, up r.sub nR, up r.keep nC, r.rnew, ⟨?_, fun f => ?_, fun a ds e => ?_⟩, fun a f => r.gfr a (fpe a f), r.va, fun i d e => ?_, r.sep⟩
  · have h1 := r.gat.1
    show if g.trk = true then Rd (upd H p (.lst ws)) g.scr _ else _
    by_cases f : g.trk = true
    · rw [if_pos f] at h1 ⊢
      have ne : g.scr ≠ p := fun e => ns ⟨e.symm, f⟩
      rcases h1 with q | ⟨o, q⟩
      · exact .inl (by rw [upd_ne ne]; exact q)
      · exact .inr ⟨o, by rw [upd_ne ne]; exact q⟩
    · rw [if_neg f] at h1 ⊢
      exact h1
  · show (if g.scr = p then some ys else g.st g.scr) = none
    have ne : g.scr ≠ p := fun e => ns ⟨e.symm, f⟩
    rw [if_neg ne]
    exact r.gat.2.1 f
  · have e : (if a = p then some ys else g.st a) = some ds := e
    by_cases y : a = p
    · subst y
      rw [if_pos rfl] at e
      cases e
      exact ⟨ws, upd_same, z⟩
    · rw [if_neg y] at e
      rw [upd_ne y]
      exact r.gat.2.2 a ds e
  · obtain ⟨a, e1, q, n1, n2, n3⟩ := r.ow i d e
    have ne : a ≠ p := fun y => n3 (y ▸ hp)
    exact ⟨a, e1, q.mono (Sub.refl R) (upd_ne ne), n1, n2, fun f => n3 (fpe a f)⟩
/-- a fresh list is put into the store -/
theorem Rel.mnew (r : Rel K (gint K) C l g σ R H) {p : Addr} {ys : List D} {ws : List V} (hp : H p = some (.lst ws)) (z : Reps K noH ws ys) (nR : R p = none) (nC : C.Hc p = none) (nf : ¬ (gint K).fp g p) (ap : Apart l σ p) : Rel K (gint K) C l (gset g p ys) σ R H := by
  refine ⟨r.len, r.sub, r.keep, r.rnew, ⟨r.gat.1, fun f => ?_, fun a ds e => ?_⟩, fun a f => ?_, r.va, fun i d e => ?_, r.sep⟩
  · show (if g.scr = p then some ys else g.st g.scr) = none
    rw [if_neg (fun e => nf (.inr ⟨e.symm, f⟩))]
    exact r.gat.2.1 f
  · have e : (if a = p then some ys else g.st a) = some ds := e
    by_cases y : a = p
    · subst y
      rw [if_pos rfl] at e
      cases e
      exact ⟨ws, hp, z⟩
    · rw [if_neg y] at e
      exact r.gat.2.2 a ds e
  · by_cases y : a = p
    · subst y; exact ⟨nR, nC⟩
    · refine r.gfr a ?_
      rcases f with f | f
      · have f : (if a = p then some ys else g.st a) ≠ none := f
        rw [if_neg y] at f
        exact .inl f
      · exact .inr f
  · obtain ⟨a, e1, q, n1, n2, n3⟩ := r.ow i d e
    refine ⟨a, e1, q, n1, n2, fun f => n3 ?_⟩
    have ne : a ≠ p := fun y => ap i d e (y ▸ e1)
    rcases f with f | f
    · have f : (if a = p then some ys else g.st a) ≠ none := f
      rw [if_neg ne] at f
      exact .inl f
    · exact .inr f
section
variable {a b e : Expr} {f f' : DE Gm} {i : Nat} {x : Str} {p2 p : Pos}
abbrev Gi (K : Fg) := gint K
theorem z_sl {lo hi : Option Expr} {u v : DO Gm} (hv : PE X (.Name x p2) (tVar i)) (hl : PO X lo (liftO X.K (gint X.K) W u)) (hh : PO X hi (liftO X.K (gint X.K) W v)) : PE X (.Subscript (.Name x p2) (.Slice lo hi none p) pos) (liftF X.K (gint X.K) W (zSl i u v)) :=
  (pe_slice sl_list hv hl hh).imp fun σ H Q ⟨C, l, g, R, ex, q, r, h, k, kx⟩ => by
    obtain ⟨d, ed, h⟩ := getV_ex h
    obtain ⟨w, ew, zw⟩ := r.va i d ed
    refine ⟨w, ew, C, l, g, R, ex, _, r, h, fun H1 R1 lo l1 g1 s1 r1 h1 => ?_, kx⟩
    refine ⟨C, l1, g1, R1, ex, _, r1, h1, fun H2 R2 hi l2 g2 s2 r2 h2 => ?_, kx.mono s1⟩
    obtain ⟨rfl, h2⟩ := h2
    cases zw
    refine ⟨_, _, rfl, r2.script, fun q hq => ?_⟩
    have z : Reps X.K R2 (g2.ns.map V.int) (g2.ns.map D.int) := by
      have : ∀ ns : List Int, Reps X.K R2 (ns.map V.int) (ns.map D.int) := by
        intro ns
        induction ns with
        | nil => exact .nil
        | cons n ns ih => exact .cons (.int n) ih
      exact this _
    obtain ⟨r3, z3⟩ := r2.newLF hq (reps_cut lo hi z)
    obtain ⟨n1, n2, n3, n4⟩ := r2.newF hq
    exact k q _ R2 _ l2 g2 (s1.trans s2) r3 z3 n1 n2 n3 n4 h2
theorem z_len (hv : PE X (.Name x p2) (tVar i)) (hg : Gl X "len") (hm : X.mg "len" = none) : PE X (.Call (.Name "len" p) [.Name x p2] [] pos) (liftE X.K (gint X.K) W (zLen i)) :=
  (pe_callB call_len_seq hg hm boot_len (pa_cons hv pa_nil)).imp fun σ H Q ⟨C, l, g, R, ex, q, r, h, k, kx⟩ => by
    obtain ⟨d, ed, h⟩ := getV_ex h
    obtain ⟨w, ew, zw⟩ := r.va i d ed
    obtain ⟨rfl, h⟩ := h
    cases zw
    refine ⟨_, ew, _, _, rfl, .inl r.script, ?_⟩
    rw [List.length_map]
    exact k _ H R _ l g (Sub.refl R) r (.int _) h
theorem z_list (hv : PE X (.Name x p2) (tVar i)) (hg : Gl X "list") (hm : X.mg "list" = none) : PE X (.Call (.Name "list" p) [.Name x p2] [] pos) (liftF X.K (gint X.K) W (zList i)) :=
  (pe_callTy call_list_of hg hm (by decide +kernel) (pa_cons hv pa_nil)).imp fun σ H Q ⟨C, l, g, R, ex, q, r, h, k, kx⟩ => by
    obtain ⟨d, ed, h⟩ := getV_ex h
    obtain ⟨w, ew, zw⟩ := r.va i d ed
    obtain ⟨rfl, h⟩ := h
    cases zw
    refine ⟨_, ew, _, _, rfl, .inl r.script, fun q hq => ?_⟩
    have z : Reps X.K R (g.ns.map V.int) (g.ns.map D.int) := by
      have : ∀ ns : List Int, Reps X.K R (ns.map V.int) (ns.map D.int) := by
        intro ns
        induction ns with
        | nil => exact .nil
        | cons n ns ih => exact .cons (.int n) ih
      exact this _
    obtain ⟨r3, z3⟩ := r.newLF hq z
    obtain ⟨n1, n2, n3, n4⟩ := r.newF hq
    exact k q _ R _ l g (Sub.refl R) r3 z3 n1 n2 n3 n4 h
theorem m_ix (hs : PlainIx b) (ha : PE X a (liftE X.K (gint X.K) W f)) (hb : PE X b (liftE X.K (gint X.K) W f')) : PE X (.Subscript a b pos) (liftE X.K (gint X.K) W (mIx f f')) :=
  (pe_ix ix_list ha hb hs).imp fun σ H Q ⟨C, l, g, R, ex, q, r, h, k, kx⟩ => by
    refine ⟨C, l, g, R, ex, _, r, h, fun x H1 R1 d l1 g1 s1 r1 z1 h1 => ?_, kx⟩
    refine ⟨C, l1, g1, R1, ex, _, r1, h1, fun y H2 R2 e l2 g2 s2 r2 z2 h2 => ?_, kx.mono s1⟩
    split at h2
    · split at h2
      · obtain ⟨xs, dd, hx, hi, hq⟩ := h2
        cases z1
        cases z2
        obtain ⟨vs, hv, zv⟩ := r2.mut hx
        obtain ⟨j, hj, hd⟩ := Option.bind_eq_some_iff.mp hi
        obtain ⟨v, ev, zz⟩ := zv.get hd
        exact ⟨_, vs, _, v, rfl, rfl, SqL.of hv, by rw [atI_ix, zv.length, hj]; exact ev, k v H2 R2 dd l2 g2 (s1.trans s2) r2 (zz.mono (noH_sub R2)) hq⟩
      · exact h2.elim
    · exact h2.elim
theorem m_len (hg : Gl X "len") (hm : X.mg "len" = none) (ha : PE X a (liftE X.K (gint X.K) W f)) (he : starEach [a] X.env = (false, eval a X.env) :: starEach [] X.env := by rfl) : PE X (.Call (.Name "len" p) [a] [] pos) (liftE X.K (gint X.K) W (mLen f)) :=
  (pe_callB call_len_seq hg hm boot_len (pa_cons ha pa_nil he) (he := he)).imp fun σ H Q ⟨C, l, g, R, ex, q, r, h, k, kx⟩ => by
    refine ⟨C, l, g, R, ex, _, r, h, fun x H1 R1 d l1 g1 s1 r1 z1 h1 => ?_, kx⟩
    split at h1
    · obtain ⟨xs, hx, hq⟩ := h1
      cases z1
      obtain ⟨vs, hv, zv⟩ := r1.mut hx
      refine ⟨_, vs, rfl, .inl (SqL.of hv), ?_⟩
      rw [zv.length]
      exact k _ H1 R1 _ l1 g1 s1 r1 (.int _) hq
    · exact h1.elim
theorem reps_set {ws : List V} {ds : List D} {v : V} {d : D} (j : Nat) (q : Reps K noH ws ds) (z : Rep K noH v d) : Reps K noH (ws.set j v) (ds.set j d) := q.set j z
theorem ms_set {o kx v : Expr} {fo fk fv : DE Gm} {p3 : Pos} (ho : PE X o (liftE X.K (gint X.K) W fo)) (hk : PE X kx (liftE X.K (gint X.K) W fk)) (hv : PE X v (liftE X.K (gint X.K) W fv))
    (ha : ∀ u, assign (.Subscript o kx p3) X.env u = (do
      let ov ← holding [u] (eval o X.env)
      let iv ← holding [u, ov] (eval kx X.env)
      standAt p3
      holding [u, ov, iv] (setItem ov iv u)
      release [u, ov, iv] []) := by intro _; rfl) (hs : swapsWithSole [.Subscript o kx p3] v pos.line X.env = pure false := by rfl) (hw : swappedStores [.Subscript o kx p3] v X.env = pure none := by rfl)
    (h1 : (assignEach [.Subscript o kx p3] X.env).map (·.2) = [assign (.Subscript o kx p3) X.env] := by rfl) : PS X (.Assign [.Subscript o kx p3] v pos) (liftS X.K (gint X.K) W (sMSet fo fk fv)) :=
  (ps_asg hv (pg_sub ho hk set_list ha) hs hw h1).imp fun D σ H h => by
    obtain ⟨C, l, g, R, ex, E, r, h, k1, k2, k3, k4, kx⟩ := h
    refine ⟨C, l, g, R, ex, _, r, h, fun y H1 R1 d l1 g1 s1 r1 z1 h1 => ?_, kx σ⟩
    refine ⟨C, l1, g1, R1, ex, _, r1, h1, fun ov H2 R2 od l2 g2 s2 r2 z2 h2 => ?_, (kx σ).mono s1⟩
    refine ⟨C, l2, g2, R2, ex, _, r2, h2, fun kv H3 R3 kd l3 g3 s3 r3 z3 h3 => ?_, (kx σ).mono (s1.trans s2)⟩
    split at h3
    · split at h3
      · obtain ⟨xs, j, hx, hj, hy, hn⟩ := h3
        cases z2
        cases z3
        obtain ⟨vs, hv, zv⟩ := r3.mut hx
        refine ⟨_, vs, _, j, rfl, rfl, hv, by rw [ixN_at, zv.length]; exact hj, ?_⟩
        exact k1 σ _ R3 l3 _ (s1.trans (s2.trans s3)) (r3.mset hx (zv.set j (scl_rep z1 hy))) hn
      · exact h3.elim
    · exact h3.elim
theorem reps_erase {K : Fg} {R : Hp} : ∀ (j : Nat) {vs : List V} {ds : List D}, Reps K R vs ds → Reps K R (vs.eraseIdx j) (ds.eraseIdx j)
  | _, _, _, .nil => .nil
  | 0, _, _, .cons _ q => q
  | j + 1, _, _, .cons h q => .cons h (reps_erase j q)
theorem m_new_run {K : Fg} {f : DE Gm} {σ : L2.St} {H : Hp} {Q : VK} (z : liftE K (gint K) W (mNew f) σ H Q) : liftF K (gint K) W f σ H Q := by
  obtain ⟨C, l, g, R, ex, q, r, h, k, kx⟩ := z
  refine ⟨C, l, g, R, ex, _, r, h, fun a H1 R1 d l1 g1 s1 r1 z1 nR nC nf ap h1 => ?_, kx⟩
  split at h1
  · rename_i xs
    obtain ⟨vs, hv, zv⟩ := z1
    have n : g1.st a = none := by
      cases e : g1.st a with
      | none => rfl
      | some ys => exact absurd (.inl (by rw [e]; simp)) nf
    exact k _ H1 R1 _ l1 _ s1 (r1.mnew hv (scl_reps zv h1.1) nR nC nf ap) (.ref a) (h1.2 a n)
  · exact h1.elim
theorem m_new {f : DE Gm} (h : PE X e (liftF X.K (gint X.K) W f)) : PE X e (liftE X.K (gint X.K) W (mNew f)) := h.imp fun _ _ _ z => m_new_run z
theorem seq_ix {i : Int} {n j : Nat} (h : ixAt n i = some j) (hn : n ≤ 16777216) : seqIndex? i n = some j ∧ (-9223372036854775808 : Int) ≤ i ∧ i < (9223372036854775808 : Int) := by
  unfold ixAt at h
  unfold seqIndex?
  split at h
  · split at h
    · cases h
      refine ⟨?_, by omega, by omega⟩
      rename_i h1 h2
      dsimp only
      rw [if_neg (show ¬ i < 0 by omega), if_pos (by simp; omega)]
    · cases h
  · split at h
    · cases h
      refine ⟨?_, by omega, by omega⟩
      dsimp only
      rw [if_pos (show i < 0 by omega), if_pos (by simp; omega)]
    · cases h
/-- o.pop(k) -/
theorem m_popAt {o kx : Expr} {fo fk : DE Gm} {apos cpos : Pos} (ho : PE X o (liftE X.K (gint X.K) W fo)) (hk : PE X kx (liftE X.K (gint X.K) W fk))
    (hbase : attributeBase o "pop" X.env (eval o X.env) = eval o X.env := by rfl)
    (hfew : ((backTo cpos (starEach (kx :: []) X.env)).all (fun x => !x.1) && (backToKw cpos (keywordEach [] X.env)).all (fun x => x.1.isSome)
      && decide ((kx :: ([] : List Expr)).length + ([] : List Keyword).length + (if ([] : List Keyword).isEmpty then 0 else 1) < 30)) = true := by rfl)
    (hline : (apos.endLine == cpos.line) = true := by rfl) (hs : starEach (kx :: []) X.env = (false, eval kx X.env) :: starEach [] X.env := by rfl) : PE X (.Call (.Attribute o "pop" apos) [kx] [] cpos) (liftE X.K (gint X.K) W (mPopAt fo fk)) :=
  (pe_bm PySem.F.plainAttrs_list PySem.F.slot_list_pop PySem.F.type_list_pop mt_popAt ho (pa_cons hk pa_nil hs) hbase hfew hline hs rfl).imp fun σ H Q ⟨C, l, g, R, ex, q, r, h, k, kx⟩ => by
    refine ⟨C, l, g, R, ex, _, r, h, fun x H1 R1 d l1 g1 s1 r1 z1 h1 => ?_, kx⟩
    split at h1
    · obtain ⟨⟨xs0, hx0⟩, h1⟩ := h1
      obtain ⟨vs0, hv0, _⟩ := r1.mut hx0
      cases z1
      refine ⟨.inl ⟨rfl, _, SqL.of hv0⟩, C, l1, g1, R1, ex, _, r1, h1, fun y H2 R2 e l2 g2 s2 r2 z2 h2 => ?_, kx.mono s1⟩
      split at h2
      · obtain ⟨xs, j, y, hx, hl, hj, hy, hn⟩ := h2
        cases z2
        obtain ⟨vs, hv, zv⟩ := r2.mut hx
        obtain ⟨v, ev, zz⟩ := zv.get hy
        obtain ⟨n1, n2, n3⟩ := seq_ix hj hl
        refine ⟨_, vs, _, j, v, rfl, rfl, hv, n2, n3, by rw [zv.length]; exact n1, ev, ?_⟩
        have ze : Reps X.K noH (vs.eraseIdx j) (xs.eraseIdx j) := reps_erase j zv
        exact k v _ R2 _ l2 _ (s1.trans s2) (r2.mset hx ze) (zz.mono (noH_sub R2)) hn
      · exact h2.elim
    · exact h1.elim
end
end
end Lk

set_option autoImplicit false
set_option linter.all false
set_option Elab.async false
set_option maxRecDepth 100000
set_option maxHeartbeats 2000000
namespace Lk
open PySem PySem.Spec PyProof.Rows L2 Dx
section
variable {G : Type} {Γ : GInt G} {K : Fg}
open Classical in
/-- __init__ of a track that is right -/
def spInit (K : Fg) (Γ : GInt G) : Sp := fun vs H Q _ => ∃ (x dx : Addr) (v : V) (n : Nat) (as : List Ar) (R : Hp) (g : G), vs = [.ref x, .int (n : Nat), v] ∧ TrkOk n as ∧ Rep K R v (.tup (as.map arD)) ∧ Sub R H ∧ Γ.at_ g H ∧ (∀ a, Γ.fp g a → R a = none) ∧ ¬ Γ.fp g x ∧
  H x = some (.ins (clsA K "Track") dx []) ∧ R x = none ∧ ∀ H' R', Sub R R' → Sub R' H' → (∀ a o, ¬ Γ.fp g a → a ≠ x → H a = some o → H' a = some o) → (∀ a, R' a ≠ none → R a ≠ none ∨ a = x ∨ H a = none) → Γ.at_ g H' → (∀ a, Γ.fp g a → R' a = none) →
    Rep K R' (.ref x) (trk n as) → Q .non H'
theorem init_run {N : List Str} {b : DS G} (io : InitOk N.length b) (h3 : 3 ≤ N.length) {vs : List V} {H : Hp} {Q : VK} {E E2 : XK} (h : spInit K Γ vs H Q E) :
    tSeq (liftS K Γ W0 b) (tDrop (tMeth (clsA K "Track") "keep" (spKeep K "Track") [] E2 (tVar 0) (tCons (tVar 1) (tCons (tVar 2) tNil)))) { nx := fun _ H' => Q .non H', rt := Q } (L2.start N vs) H := by
  classical
  obtain ⟨x, dx, v, n, as, R, g, rfl, ok, zv, s, at_, fr, nx, hx, Rx, k⟩ := h
  have z : Reps K R [.ref x, .int (n : Nat), v] [.ref x, .int (n : Nat), .tup (as.map arD)] := .cons (.ref x) (.cons (.int _) (.cons zv .nil))
  have r : Rel K Γ (calleeFx Γ g R H) (Dx.start N.length [.ref x, .int (n : Nat), .tup (as.map arD)]) g (L2.start N [.ref x, .int (n : Nat), v]) R H := by
    refine ⟨?_, s, fun a o h => ?_, fun a h => .inl h, at_, fun a ha => ⟨fr a ha, ?_⟩, fun i d h => ?_, fun i d h => absurd h (start_noow _ _ i d), fun i j d e a _ h => absurd h (start_noow _ _ i d)⟩
    · unfold L2.start
      rw [start_len _ _ h3, List.length_append, List.length_map, List.length_replicate]
      show N.length = 3 + (N.length - 3)
      omega
    · have h : (if Γ.fp g a then none else H a) = some o := h
      split at h
      · cases h
      · exact h
    · show (if Γ.fp g a then none else H a) = none
      rw [if_pos ha]
    · obtain ⟨v, hv, zv⟩ := z.get (start_get _ _ i d h)
      refine ⟨v, ?_, zv⟩
      unfold L2.start
      have hi : i < [V.ref x, .int (n : Nat), v].length := (List.getElem?_eq_some_iff.mp hv).1
      rw [List.getElem?_append_left (by simpa using hi), List.getElem?_map, hv]
      rfl
  refine ⟨_, _, g, R, _, { nx := fun l g' => l = Dx.start N.length [.ref x, .int (n : Nat), .tup (as.map arD)] ∧ g' = g, rt := fun _ _ _ => False }, r, io x n as g _ ok ⟨rfl, rfl⟩, fun σ' H' R' l' g' s' r' h' => ?_, fun _ _ _ _ _ _ _ _ _ h => h.elim (fun y => y.2.elim) fun y => y.2.elim, fun _ _ _ _ _ _ _ h => h.elim, fun _ _ _ _ _ _ _ h => h.elim,
    fun σ' cls dx H' R' x l' g' s' r' z' h' => h'.elim⟩
  obtain ⟨rfl, rfl⟩ := h'
  obtain ⟨kk, hk⟩ : ∃ k, N.length = k + 3 := ⟨N.length - 3, by omega⟩
  have g0 : (Dx.start N.length [.ref x, .int (n : Nat), .tup (as.map arD)])[0]? = some (.va (.ref x)) := by rw [hk]; rfl
  have g1 : (Dx.start N.length [.ref x, .int (n : Nat), .tup (as.map arD)])[1]? = some (.va (.int (n : Nat))) := by rw [hk]; rfl
  have g2 : (Dx.start N.length [.ref x, .int (n : Nat), .tup (as.map arD)])[2]? = some (.va (.tup (as.map arD))) := by rw [hk]; rfl
  obtain ⟨v0, e0, z0⟩ := r'.va 0 _ g0
  obtain ⟨v1, e1, z1⟩ := r'.va 1 _ g1
  obtain ⟨v2, e2, z2⟩ := r'.va 2 _ g2
  cases z0
  cases z1
  have hx' : H' x = some (.ins (clsA K "Track") dx []) := r'.keep x _ (by show (if Γ.fp g' x then none else H x) = _; rw [if_neg nx]; exact hx)
  have Rx' : R' x = none := by
    cases q : R' x with
    | none => rfl
    | some o =>
      rcases r'.rnew x (by rw [q]; simp) with y | y
      · exact absurd Rx y
      · have y : (if Γ.fp g' x then none else H x) = none := y
        rw [if_neg nx, hx] at y
        cases y
  have vx : ∃ a vs, v2 = .ref a ∧ R' a = some (.tup vs) ∧ Reps K R' vs (as.map arD) := by
    cases z2 with
    | tup h q => exact ⟨_, _, rfl, h, q⟩
  obtain ⟨ar, avs, rfl, hA, zA⟩ := vx
  refine ⟨_, e0, x, dx, [], rfl, hx', rfl, _, e1, _, e2, ?_⟩
  refine ⟨x, dx, ar, n, avs, as.map arD, R', rfl, by have := ok.n2; omega, by rw [List.length_map]; have := ok.l2; omega, hx', Rx', r'.sub, hA, zA, fun d hd => ?_, fun H2 R2 s2 sH2 kp2 nw2 zz => ?_⟩
  · obtain ⟨a, ha, rfl⟩ := List.mem_map.mp hd
    exact ⟨a.p, .str [a.c], .int a.pay, .int a.q, rfl, (ok.ok a ha).1⟩
  · have nfx : ∀ a, Γ.fp g' a → a ≠ x := fun a f e => nx (e ▸ f)
    have at2 : Γ.at_ g' H2 := by
      refine Γ.stay g' H' H2 r'.gat fun a ha => ?_
      cases q : H' a with
      | none => exact absurd q (Γ.there g' H' a r'.gat ha)
      | some o => exact kp2 a o (nfx a ha) q
    refine k H2 R2 (s'.trans s2) sH2 (fun a o nf na e => kp2 a o na (r'.keep a o (by show (if Γ.fp g' a then none else H a) = _; rw [if_neg nf]; exact e))) (fun a e => ?_) at2 (fun a ha => ?_) zz
    · have n0 : H' a = none → H a = none := fun h => by
        cases q : H a with
        | none => rfl
        | some o =>
          by_cases f : Γ.fp g' a
          · exact absurd h (Γ.there g' H' a r'.gat f)
          · have := r'.keep a o (by show (if Γ.fp g' a then none else H a) = _; rw [if_neg f]; exact q)
            rw [h] at this
            cases this
      rcases nw2 a e with y | y | y
      · rcases r'.rnew a y with y | y
        · exact .inl y
        · have y : (if Γ.fp g' a then none else H a) = none := y
          by_cases f : Γ.fp g' a
          · exact absurd ((r'.gfr a f).1) (by assumption)
          · rw [if_neg f] at y
            exact .inr (.inr y)
      · exact .inr (.inl y)
      · exact .inr (.inr (n0 y))
    · cases q : R2 a with
      | none => rfl
      | some o =>
        rcases nw2 a (by rw [q]; simp) with y | y | y
        · exact absurd (r'.gfr a ha).1 y
        · exact absurd y (nfx a ha)
        · exact absurd y (Γ.there g' H' a r'.gat ha)
variable {X : Cx} {W : WX} {pos : Pos}
theorem passes0 {X : Cx} : Passes (L2N.CX X.prog X.w) X (fun _ _ _ => False) := fun pins σ H s e s' I c => L2N.passAt (W := W0) takes0 σ pins H s e s' I c
theorem make_run {fs : DA G} {σ : L2.St} {H : Hp} {Q : VK} (h : liftE K Γ W (dCall cTrack fs) σ H Q) : tMake (clsA K "Track") (spInit K Γ) [] (fun _ _ _ => False) (liftA K Γ W fs) σ H Q := by
  obtain ⟨C, l, g, R, ex, q, r, h, k, kx⟩ := h
  refine ⟨C, l, g, R, ex, _, r, h, fun vs H1 R1 ds l1 g1 s1 r1 z1 h1 x dx hx hdx ne => ?_, kx⟩
  obtain ⟨n, as, rfl, ok, hq⟩ := h1
  obtain ⟨nRx, _, nfx, _⟩ := r1.newF hx
  obtain ⟨nRd, _, nfd, _⟩ := r1.newF hdx
  have e : ∃ v, vs = [.int (n : Nat), v] ∧ Rep K R1 v (.tup (as.map arD)) := by
    cases z1 with
    | cons a b =>
      cases a
      cases b with
      | cons a b => cases b; exact ⟨_, rfl, a⟩
  obtain ⟨v, rfl, zv⟩ := e
  generalize hH2 : upd (upd H1 dx (.own x)) x (.ins (clsA K "Track") dx []) = H2
  have o2 : ∀ a, a ≠ x → a ≠ dx → H2 a = H1 a := fun a n1 n2 => by rw [← hH2, upd_ne n1, upd_ne n2]
  have k2 : ∀ a o, H1 a = some o → H2 a = some o := fun a o e => by
    rw [o2 a (ne_of_none e hx) (ne_of_none e hdx)]
    exact e
  refine ⟨x, dx, v, n, as, R1, g1, rfl, ok, zv, fun a o e => k2 a o (r1.sub a o e), Γ.stay g1 H1 H2 r1.gat fun a ha => o2 a (fun e => nfx (e ▸ ha)) (fun e => nfd (e ▸ ha)), fun a ha => (r1.gfr a ha).1, nfx, by rw [← hH2]; exact upd_same, nRx, fun H' R' s' sH' kp nw at' fr zz => ⟨rfl, ?_⟩⟩
  refine k _ H' R' _ l1 g1 (s1.trans s') (r1.behind s' sH' (fun a o nf e => kp a o nf (ne_of_none e hx) (k2 a o e)) (fun a e => ?_) at' fun a ha => ⟨fr a ha, .inl ha⟩) zz hq
  rcases nw a e with y | y | y
  · exact .inl y
  · exact .inr (.inr (y ▸ hx))
  · refine .inr (.inr ?_)
    cases q : H1 a with
    | none => rfl
    | some o => rw [k2 a o q] at y; cases y
/-- Track(places, arrows) -/
theorem d_track {fs : DA G} {k : Nat} {f : Addr} {fd : FuncData} {ps : List Str} {x : Str} {p : Pos} {e : Expr} {es : List Expr} (M : Mk X.K (clsA X.K "Track") f) (F : FnOk X.prog X.w X.K X.mg X.base (L2N.CX X.prog X.w) k f fd ps (spInit X.K Γ)) (hr : Room (k + 1) X.A) (hg : Gl X x)
    (hm : X.mg x = some (.ref (clsA X.K "Track"))) (hb : Binds X.K fd ps []) (ha : PA X (e :: es) (liftA X.K Γ W fs)) (hdb : (x == ("__debug__" : Str)) = false := by decide) (he : starEach (e :: es) X.env = (false, eval e X.env) :: starEach es X.env := by rfl)
    (hpl : (backTo pos (starEach es X.env)).any (·.1) = false := by rfl) : PE X (.Call (.Name x p) (e :: es) [] pos) (liftE X.K Γ W (dCall cTrack fs)) :=
  (pe_make M F hr hg hm hb (ds := []) (dvs := []) .nil passes0 ha hdb he hpl).imp fun _ _ _ h => make_run h
theorem init_body {s1 s2 s3 s4 s5 : Stmt} {b1 b2 b3 b4 : DS G} {t : TS} (h1 : PS X s1 (liftS X.K Γ W b1)) (h2 : PS X s2 (liftS X.K Γ W b2)) (h3 : PS X s3 (liftS X.K Γ W b3)) (h4 : PS X s4 (liftS X.K Γ W b4)) (h5 : PS X s5 t) :
    PSs X [s1, s2, s3, s4, s5] (tSeq (liftS X.K Γ W (sSeq b1 (sSeq b2 (sSeq b3 b4)))) t) :=
  (pss_cons h1 (pss_cons h2 (pss_cons h3 (pss_cons h4 (pss_one h5))))).imp fun D σ H h => by
    have e : ∀ {a b : DS G} {t : TS} {D σ H}, tSeq (liftS X.K Γ W (sSeq a b)) t D σ H → tSeq (liftS X.K Γ W a) (tSeq (liftS X.K Γ W b) t) D σ H := fun h => seq_run h
    have e2 : ∀ {a b c : DS G} {t : TS} {D σ H}, tSeq (liftS X.K Γ W (sSeq a (sSeq b c))) t D σ H → tSeq (liftS X.K Γ W a) (tSeq (liftS X.K Γ W b) (tSeq (liftS X.K Γ W c) t)) D σ H := fun {a b c t D σ H} h => by
      have h := e h
      have m : ∀ {u v : TS} {D σ H}, (∀ D σ H, u D σ H → v D σ H) → tSeq (liftS X.K Γ W a) u D σ H → tSeq (liftS X.K Γ W a) v D σ H := fun {u v D σ H} huv h => by
        obtain ⟨C, l, g, R, ex, E, r, h, k1, k2, k3, k4, kx⟩ := h
        exact ⟨C, l, g, R, ex, E, r, h, fun σ' H' R' l' g' s' r' h' => huv _ _ _ (k1 σ' H' R' l' g' s' r' h'), k2, k3, k4, kx⟩
      exact m (fun D σ H h => e h) h
    have h := e h
    have m : ∀ {a : DS G} {u v : TS} {D σ H}, (∀ D σ H, u D σ H → v D σ H) → tSeq (liftS X.K Γ W a) u D σ H → tSeq (liftS X.K Γ W a) v D σ H := fun {a u v D σ H} huv h => by
      obtain ⟨C, l, g, R, ex, E, r, h, k1, k2, k3, k4, kx⟩ := h
      exact ⟨C, l, g, R, ex, E, r, h, fun σ' H' R' l' g' s' r' h' => huv _ _ _ (k1 σ' H' R' l' g' s' r' h'), k2, k3, k4, kx⟩
    exact m (fun D σ H h => e2 h) h
theorem fn_init {P : Program} {w : World} {mg : Str → Option Value} {base : Heap} {x qual : Str} {params : Arguments} {body : List Stmt} {scope : Scope} {f : Addr} {fd : FuncData} {N ps : List Str} {k : Nat} {b : DS G}
    (F : FunD K x qual params body scope [] [] f fd) (S : FnScope N ps scope) (hps : ps.length = 3) (io : InitOk N.length b)
    (der : ∀ (cdv : Value) (A : Around) (outer : List Env) (s : Shared) (H : Hp) (E : XK), Room k (A.deeper (envOfC qual scope s.heap.objs.size f cdv)) → ∃ E2, PSs (cxOf (L2N.CX P w) P w K mg base N qual scope f cdv A outer s H E) body (tSeq (liftS K Γ W0 b) (tDrop (tMeth (clsA K "Track") "keep" (spKeep K "Track") [] E2 (tVar 0) (tCons (tVar 1) (tCons (tVar 2) tNil)))))) :
    FnOk P w K mg base (L2N.CX P w) (k + 1) f fd ps (spInit K Γ) := by
  have hN : 3 ≤ N.length := by
    have := congrArg List.length S.pre
    rw [List.length_take] at this
    omega
  refine F.ok S (fun vs H Q E h => ?_) (fun cdv A outer s H vs Q E hr h => ?_)
  · obtain ⟨x, dx, v, n, as, R, g, rfl, _⟩ := h
    rw [hps]; rfl
  · obtain ⟨E2, d⟩ := der cdv A outer s H E hr
    exact ⟨_, d, init_run io hN h⟩
end
end Lk

set_option autoImplicit false
set_option linter.all false
set_option Elab.async false
set_option maxRecDepth 100000
set_option maxHeartbeats 2000000
namespace Lk
open PySem PySem.Spec PyProof.Rows L2 Dx
/-- a global def that keeps its promise -/
def Okd (P : Program) (w : World) (K : Fg) (mg : Str → Option Value) (base : Heap) (k : Nat) (x : Str) (ps : List Str) (c : Ct Gm) : Prop :=
  ∃ fd, FnOk P w K mg base (L2N.CX P w) k (He.ga K x) fd ps (liftC K (gint K) c) ∧ L2.Binds K fd ps [] ∧ PySem.W.keepIn K (.ref (He.ga K x)) = true ∧ mg x = some (.ref (He.ga K x)) ∧
    ∃ (oc : Value) (od : Option Addr) (osl : Array (Option Value)), K.lookup (He.ga K x) = some ⟨oc, od, .func fd, osl⟩
/-- what the head says, at the heap's names -/
def Say (fa : List He.Fa) (fn : List He.DefD) (K : Fg) (mg : Str → Option Value) : Prop := ∃ h : Heap, K.In h ∧ h.Ns mainGlobals mg ∧ He.SaysD fa fn K
section
variable {fa : List He.Fa} {fn : List He.DefD} {K : Fg} {mg : Str → Option Value}
theorem Say.fre (S : Say fa fn K mg) (i : Nat) {x : Str} (h : fa[i]? = some (.free x) := by rfl) : mg x = none := by
  obtain ⟨hp, X, G, c⟩ := S
  exact He.free_ok X G (c.fact i h)
theorem Say.glo (S : Say fa fn K mg) (i : Nat) {x : Str} (h : fa[i]? = some (.glo x) := by rfl) : mg x = some (.ref (He.ga K x)) := by
  obtain ⟨hp, X, G, c⟩ := S
  exact He.glo_ok X G (c.fact i h)
theorem Say.int (S : Say fa fn K mg) (i : Nat) {x : Str} {n : Int} (h : fa[i]? = some (.int x n) := by rfl) : ∃ t, mg x = some (.int n t) := by
  obtain ⟨hp, X, G, c⟩ := S
  exact He.int_ok X G (c.fact i h)
theorem Say.str (S : Say fa fn K mg) (i : Nat) {x z : Str} (h : fa[i]? = some (.str x z) := by rfl) : ∃ t, mg x = some (.str z t) := by
  obtain ⟨hp, X, G, c⟩ := S
  exact He.str_ok X G (c.fact i h)
theorem Say.at_ (S : Say fa fn K mg) (i : Nat) {f : He.Fa} (h : fa[i]? = some f := by rfl) : f.ok K = true := by
  obtain ⟨hp, X, G, c⟩ := S
  exact c.fact i h
theorem Say.fun_ (S : Say fa fn K mg) (i : Nat) {d : He.DefD} (h : fn[i]? = some d := by rfl) : ∃ fd, FunD K d.name d.qual d.params d.body d.scope (d.dvs K) (d.kws K) (He.fAd K d.at_) fd := by
  obtain ⟨hp, X, G, c⟩ := S
  exact c.def_ i h
end
section
variable {P : Program} {w : World} {K : Fg} {mg : Str → Option Value} {base : Heap}
theorem okd_of {x qual : Str} {params : Arguments} {body : List Stmt} {scope : Scope} {N ps : List Str} {k : Nat} {c : Ct Gm} {b : DS Gm} {fd : FuncData}
    (F : FunD K x qual params body scope [] [] (He.ga K x) fd) (hm : mg x = some (.ref (He.ga K x))) (S : FnScope N ps scope)
    (hb : ∀ (kV doc pm : Value) (an : Option Addr) (cdv ct : Value) (us : List Value), us.length = ps.length → bindArgs (PySem.W.fnOf x qual params body scope .none kV doc pm an cdv ct) ⟨us, []⟩ = pure (ps.zip us))
    (len : ∀ ds g q e, c ds g q e → ds.length = ps.length) (kp : Keeps N.length c b)
    (der : ∀ (cdv : Value) (A : Around) (outer : List Env) (s : Shared) (H : Hp) (E : XK), Room k (A.deeper (envOfC qual scope s.heap.objs.size (He.ga K x) cdv)) → PSs (cxOf (L2N.CX P w) P w K mg base N qual scope (He.ga K x) cdv A outer s H E) body (liftS K (gint K) (WB E) b)) :
    Okd P w K mg base (k + 1) x ps c := ⟨fd, fn_d F S len kp der, F.bindsN hb, F.kp, hm, by
  obtain ⟨oc, od, _, _, _, _, _, _, _, osl, _, lk, _⟩ := F.ex
  exact ⟨oc, od, osl, lk⟩⟩
/-- .. that hands out a new thing -/
def OkdF (P : Program) (w : World) (K : Fg) (mg : Str → Option Value) (base : Heap) (k : Nat) (x : Str) (ps : List Str) (c : Ct Gm) : Prop :=
  ∃ fd, FnOk P w K mg base (L2N.CX P w) k (He.ga K x) fd ps (liftCF K (gint K) c) ∧ L2.Binds K fd ps [] ∧ PySem.W.keepIn K (.ref (He.ga K x)) = true ∧ mg x = some (.ref (He.ga K x))
theorem okdF_of {x qual : Str} {params : Arguments} {body : List Stmt} {scope : Scope} {N ps : List Str} {k : Nat} {c : Ct Gm} {b : DS Gm} {fd : FuncData}
    (F : FunD K x qual params body scope [] [] (He.ga K x) fd) (hm : mg x = some (.ref (He.ga K x))) (S : FnScope N ps scope)
    (hb : ∀ (kV doc pm : Value) (an : Option Addr) (cdv ct : Value) (us : List Value), us.length = ps.length → bindArgs (PySem.W.fnOf x qual params body scope .none kV doc pm an cdv ct) ⟨us, []⟩ = pure (ps.zip us))
    (len : ∀ ds g q e, c ds g q e → ds.length = ps.length) (kp : KeepsF N.length c b)
    (der : ∀ (cdv : Value) (A : Around) (outer : List Env) (s : Shared) (H : Hp) (E : XK), Room k (A.deeper (envOfC qual scope s.heap.objs.size (He.ga K x) cdv)) → PSs (cxOf (L2N.CX P w) P w K mg base N qual scope (He.ga K x) cdv A outer s H E) body (liftS K (gint K) (WB E) b)) :
    OkdF P w K mg base (k + 1) x ps c := ⟨fd, fn_dF F S len kp der, F.bindsN hb, F.kp, hm⟩
end
section
variable {X : Cx} {W : WX} {G : Type} {Γ : GInt G}
theorem d_callK {c : Ct Gm} {fs : DA Gm} {k : Nat} {ps : List Str} {x : Str} {p pos : Pos} {e : Expr} {es : List Expr} (F : Okd X.prog X.w X.K X.mg X.base k x ps c) (tk : L2N.Takes X W) (hr : Room k X.A) (hg : Gl X x)
    (ha : PA X (e :: es) (liftA X.K (gint X.K) W fs)) (hdb : (x == ("__debug__" : Str)) = false := by decide)
    (he : starEach (e :: es) X.env = (false, eval e X.env) :: starEach es X.env := by rfl) (hpl : (backTo pos (starEach es X.env)).any (·.1) = false := by rfl) : PE X (.Call (.Name x p) (e :: es) [] pos) (liftE X.K (gint X.K) W (dCall c fs)) := by
  obtain ⟨fd, F1, B, kp, hm, _⟩ := F
  exact d_call F1 tk hr hg hm kp B ha hdb he hpl
theorem callF_run {Γ : GInt G} {K : Fg} {c : Ct G} {fs : DA G} {σ : L2.St} {H : Hp} {Q : VK} (h : liftF K Γ W (dCall c fs) σ H Q) : tCallS (liftCF K Γ c) (WE W) (liftA K Γ W fs) σ H Q := by
  obtain ⟨C, l, g, R, ex, q, rl, h, k, kx⟩ := h
  refine ⟨C, l, g, R, ex, _, rl, h, fun vs H1 R1 ds l1 g1 s1 r1 z1 h1 => ?_, kx⟩
  refine ⟨ds, R1, g1, _, _, z1, r1.sub, r1.gat, fun a ha => (r1.gfr a ha).1, h1, fun a H' R' d g' s sH kp nw at' fr z n1 n2 n3 hq => ?_, fun cls dx H' R' x g' s sH kp nw at' fr z hq => ?_⟩
  · refine k a H' R' d l1 g' (s1.trans s) (r1.behind s sH kp nw at' fr) z n1 ?_ n3 (fun i e hi => ?_) hq
    · rcases n2 with y | y
      · exact (r1.gfr a y).2
      · exact r1.keep.no0 y
    · obtain ⟨b, e1, zb, m1, m2, m3⟩ := r1.ow i e hi
      intro e2
      rw [e1] at e2
      cases e2
      rcases n2 with y | y
      · exact m3 y
      · exact zb.ne y
  · exact kx cls dx H' R' x l1 g' (s1.trans s) (r1.behind s sH kp nw at' fr) z hq
theorem d_callF {c : Ct Gm} {fs : DA Gm} {k : Nat} {ps : List Str} {x : Str} {p pos : Pos} {e : Expr} {es : List Expr} (F : OkdF X.prog X.w X.K X.mg X.base k x ps c) (tk : L2N.Takes X W) (hr : Room k X.A) (hg : Gl X x)
    (ha : PA X (e :: es) (liftA X.K (gint X.K) W fs)) (hdb : (x == ("__debug__" : Str)) = false := by decide)
    (he : starEach (e :: es) X.env = (false, eval e X.env) :: starEach es X.env := by rfl) (hpl : (backTo pos (starEach es X.env)).any (·.1) = false := by rfl) : PE X (.Call (.Name x p) (e :: es) [] pos) (liftF X.K (gint X.K) W (dCall c fs)) := by
  obtain ⟨fd, F1, B, kp, hm⟩ := F
  exact (pe_callS F1 hr hg hm kp B (L2N.passAt tk) ha hdb he hpl).imp fun _ _ _ h => callF_run h
theorem ag_ipa {K : Fg} : Ag2 K Γ (ipI fun i j => i + j) wAddI := by
  intro C l g σ R H x y d e k Q r zx zy hw fin
  unfold wAddI at hw
  split at hw
  · rw [zx.int, zy.int]
    exact ⟨_, _, rfl, rfl, fin _ H R _ (Sub.refl R) r (.int _) hw⟩
  · exact hw.elim
theorem ag_ips {K : Fg} : Ag2 K Γ (ipI fun i j => i - j) wSub := by
  intro C l g σ R H x y d e k Q r zx zy hw fin
  unfold wSub at hw
  split at hw
  · rw [zx.int, zy.int]
    exact ⟨_, _, rfl, rfl, fin _ H R _ (Sub.refl R) r (.int _) hw⟩
  · exact hw.elim
theorem rng_rep {K : Fg} {R : Hp} (lo : Int) : ∀ n : Nat, Reps K R ((List.range n).map fun i => V.int (lo + (i : Nat))) (rng lo n) := fun n => by
  unfold rng
  have : ∀ xs : List Nat, Reps K R (xs.map fun i => V.int (lo + (i : Nat))) (xs.map fun (i : Nat) => D.int (lo + i)) := by
    intro xs
    induction xs with
    | nil => exact .nil
    | cons x xs ih => exact .cons (.int _) ih
  exact this _
theorem lim24 {n : Nat} (h : n ≤ LIM) : n ≤ 2 ^ 24 := h
section
variable {a b : Expr} {f f' : DE G} {p p2 p3 pos : Pos}
theorem prg_r1 (hg : Gl X "range") (hm : X.mg "range" = none) (ha : PE X a (liftE X.K Γ W f)) (na : starEach [a] X.env = (false, eval a X.env) :: starEach [] X.env := by rfl) : PRg X (.Call (.Name "range" p) [a] [] pos) (tRg1 (liftE X.K Γ W f)) := prg_1 hg hm ha na
theorem d_lr1 (hc : X.calm = true) (hl : Gl X "list") (hml : X.mg "list" = none) (hg : Gl X "range") (hm : X.mg "range" = none) (ha : PE X a (liftE X.K Γ W f)) (na : starEach [a] X.env = (false, eval a X.env) :: starEach [] X.env := by rfl)
    (na2 : starEach [.Call (.Name "range" p) [a] [] pos] X.env = (false, eval (.Call (.Name "range" p) [a] [] pos) X.env) :: starEach [] X.env := by rfl) : PE X (.Call (.Name "list" p2) [.Call (.Name "range" p) [a] [] pos] [] p3) (liftF X.K Γ W (dLR (iR1 f))) :=
  (pe_listRg hc hl hml (prg_1 hg hm ha na) na2).imp fun σ H Q ⟨C, l, g, R, ex, q, r, h, k, kx⟩ => by
    refine ⟨C, l, g, R, ex, _, r, h, fun x H1 R1 d l1 g1 s1 r1 z1 h1 => ?_, kx⟩
    split at h1
    · rename_i n
      cases z1
      obtain ⟨b1, b2, b3, hq⟩ := h1
      have e : rgV 0 n = (List.range n.toNat).map fun i => V.int (0 + (i : Nat)) := by unfold rgV; rw [Int.sub_zero]
      refine ⟨n, rfl, ⟨by decide, by decide, b1, b2, ?_⟩, fun q hq2 => ?_⟩
      · rw [Int.sub_zero]
        unfold rng at b3
        rw [List.length_map, List.length_range] at b3
        exact b3
      · rw [e]
        obtain ⟨r3, z3⟩ := r1.newLF hq2 (rng_rep (K := X.K) (R := R1) 0 n.toNat)
        obtain ⟨n1, n2, n3, n4⟩ := r1.newF hq2
        exact k q _ R1 _ l1 g1 s1 r3 z3 n1 n2 n3 n4 hq
    · exact h1.elim
theorem d_lr2 (hc : X.calm = true) (hl : Gl X "list") (hml : X.mg "list" = none) (hg : Gl X "range") (hm : X.mg "range" = none) (ha : PE X a (liftE X.K Γ W f)) (hb : PE X b (liftE X.K Γ W f')) (na : starEach [a, b] X.env = (false, eval a X.env) :: starEach [b] X.env := by rfl)
    (nb : starEach [b] X.env = (false, eval b X.env) :: starEach [] X.env := by rfl) (hp : (backTo pos (starEach [b] X.env)).any (·.1) = false := by rfl)
    (na2 : starEach [.Call (.Name "range" p) [a, b] [] pos] X.env = (false, eval (.Call (.Name "range" p) [a, b] [] pos) X.env) :: starEach [] X.env := by rfl) : PE X (.Call (.Name "list" p2) [.Call (.Name "range" p) [a, b] [] pos] [] p3) (liftF X.K Γ W (dLR (iR2 f f'))) :=
  (pe_listRg hc hl hml (prg_2 hg hm ha hb na nb hp) na2).imp fun σ H Q ⟨C, l, g, R, ex, q, r, h, k, kx⟩ => by
    refine ⟨C, l, g, R, ex, _, r, h, fun x H1 R1 d l1 g1 s1 r1 z1 h1 => ?_, kx⟩
    refine ⟨C, l1, g1, R1, ex, _, r1, h1, fun y H2 R2 e l2 g2 s2 r2 z2 h2 => ?_, kx.mono s1⟩
    split at h2
    · rename_i m n
      cases z1
      cases z2
      obtain ⟨⟨b0, b00, b1, b2⟩, b3, hq⟩ := h2
      refine ⟨m, n, rfl, rfl, ⟨b0, b00, b1, b2, ?_⟩, fun q hq2 => ?_⟩
      · unfold rng at b3
        rw [List.length_map, List.length_range] at b3
        exact b3
      · obtain ⟨r3, z3⟩ := r2.newLF hq2 (rng_rep (K := X.K) (R := R2) m (n - m).toNat)
        obtain ⟨n1, n2, n3, n4⟩ := r2.newF hq2
        exact k q _ R2 _ l2 g2 (s1.trans s2) r3 z3 n1 n2 n3 n4 hq
    · exact h2.elim
end
end
end Lk

set_option autoImplicit false
set_option linter.all false
set_option Elab.async false
set_option maxRecDepth 100000
set_option maxHeartbeats 2000000
namespace Lk
open PySem PySem.Spec PyProof.Rows L2 Dx
theorem hu1 {k : Nat} {A : Around} (r : Room k A) : A.units + 1 < cLine := by have := r.un; omega
theorem hu65 {k : Nat} {A : Around} (r : Room k A) : A.units + 65 < cLine := by have := r.un; omega
theorem bt_len : bootBuiltins "len" = some (.builtin "len") := by decide +kernel
theorem bt_sum : bootBuiltins "sum" = some (.builtin "sum") := by decide +kernel
theorem bt_all : bootBuiltins "all" = some (.builtin "all") := by decide +kernel
theorem bt_any : bootBuiltins "any" = some (.builtin "any") := by decide +kernel
theorem bt_abs : bootBuiltins "abs" = some (.builtin "abs") := by decide +kernel
theorem bt_max : bootBuiltins "max" = some (.builtin "max") := by decide +kernel
theorem bt_min : bootBuiltins "min" = some (.builtin "min") := by decide +kernel
theorem to0 {P : Program} {w : World} {K : Fg} {mg : Str → Option Value} {base : Heap} {k : Nat} {f : Addr} {fd : FuncData} {ps : List Str} {sp : Sp} (F : FnOk P w K mg base (L2N.CX P w) k f fd ps sp) :
    FnOk P w K mg base L2.CX0 k f fd ps (fun vs H Q _ => sp vs H Q fun _ _ _ => False) :=
  ⟨fun vs H Q E h => F.len vs H Q _ h, fun A outer s H args us vs Q E hr he hb hv hs => codeAny_mono (F.run A outer s H args us vs Q _ hr he hb hv hs) fun r s' q => by
    unfold CR at q ⊢
    split at q
    · exact q
    · exact q
    · obtain ⟨_, _, _, _, _, _, _, _, _, _, _, _, q⟩ := q
      exact q.elim⟩
theorem law_sp {K : Fg} {H : Hp} {a : Addr} {ns : List Int} (hl : ns.length ≤ 63) (hS : SqL K H a (ns.map V.int)) : liftC K (gint K) cLaw [.ref a] H (fun v _ => v = .bl true) (fun _ _ _ => False) := by
  have fin : ∀ g : Gm, g.scr = a → g.ns = ns → (∀ b, g.st b = none) → (gint K).at_ g H → liftC K (gint K) cLaw [.ref a] H (fun v _ => v = .bl true) (fun _ _ _ => False) := fun g e1 e2 e3 e4 =>
    ⟨[.ref a], noH, g, fun d _ => d = .bl true, fun _ _ => False, .cons (.ref a) .nil, noH_sub H, e4, fun _ _ => rfl, ⟨by rw [e1], by rw [e2]; exact hl, e3, fun _ => rfl⟩,
      fun v H' R' d g' _ _ _ _ _ _ z q => by subst q; cases z; rfl, fun _ _ _ _ _ _ _ _ _ _ _ _ _ q => q.elim⟩
  rcases hS with h | h
  · exact fin ⟨a, ns, true, fun _ => none⟩ rfl rfl (fun _ => rfl) ⟨h, fun _ => rfl, fun _ _ e => by cases e⟩
  · exact fin ⟨a, ns, false, fun _ => none⟩ rfl rfl (fun _ => rfl) ⟨h, fun e => (by cases e), fun _ _ e => (by cases e)⟩
theorem fld_of {j : Nat} {fn : Str} (hj : (flds "Track")[j]? = some fn := by decide +kernel) : ∀ c ∈ ["Track"], (flds c)[j]? = some fn ∧ (flds c).Nodup := fun c h => by
  cases List.mem_singleton.mp h
  exact ⟨hj, by decide +kernel⟩
theorem h_fld0 : ∀ c ∈ ["Track"], (flds c)[0]? = some ("places" : Str) ∧ (flds c).Nodup := fld_of
theorem h_fld1 : ∀ c ∈ ["Track"], (flds c)[1]? = some ("arrows" : Str) ∧ (flds c).Nodup := fld_of
theorem h_fld2 : ∀ c ∈ ["Track"], (flds c)[2]? = some ("kept_arrows" : Str) ∧ (flds c).Nodup := fld_of
end Lk

set_option autoImplicit false
set_option linter.all false
set_option Elab.async false
set_option maxRecDepth 100000
set_option maxHeartbeats 2000000
namespace Lk
open PySem PySem.Spec PyProof.Rows L2 Dx
set_option maxHeartbeats 4000000 in
theorem meets_enumB1 {v : Value} {o : Obj} {H : Heap → Prop} (B : Begins v o H) :
    Meets (Builtin.«enumerate.__new__» ⟨[.type "enumerate", v], []⟩) (fun _ R s => H s.heap ∧
      R (.ok (.ret (.ref (s.heap.push o).objs.size))) { s with heap := (s.heap.push o).push { cls := .type "enumerate", data := .fields #[.none, .bool false, .ref s.heap.objs.size, rawInt 0, .none, .none] } }) :=
  .of_wp fun prog w A R s h => by
    obtain ⟨hp, g, d, tk, os⟩ := s; obtain ⟨h1, h⟩ := h
    have hsub := sub_enumerate
    have q1 : ∀ {A' : Around} {E : Value → Shared → Prop} {Q : Value → Shared → Prop}, Q (.ref hp.objs.size) ⟨hp.push o, g, d, tk, os⟩ → wpAny (model prog w) A' (pyIter v) Q E ⟨hp, g, d, tk, os⟩ :=
      fun q => B.iter prog w _ _ ⟨hp, g, d, tk, os⟩ _ h1 q
    wp_walk using q1
    refine wpAny_stack_any fun st => wpAny_pure ?_
    split
    · rename_i c _ _ _ _ _
      cases (c == Value.type "enumerate")
      · wp_walk using q1
        exact ⟨_, rfl, h⟩
      · wp_walk using q1
        exact ⟨_, rfl, h⟩
    · wp_walk using q1
      exact ⟨_, rfl, h⟩
theorem enum_begins1 {prog : Program} {w : World} {A : Around} {E : Value → Shared → Prop} {s : Shared} {v : Value} {o : Obj} {H : Heap → Prop} {Q : Value → Shared → Prop} (B : Begins v o H) (h1 : H s.heap)
    (h : ∀ h', IsEnum h' (s.heap.objs.size + 1) s.heap.objs.size 0 .none → h'.get? s.heap.objs.size = some o → h'.objs.size = s.heap.objs.size + 2 →
      (∀ b o, s.heap.get? b = some o → h'.get? b = some o) → Q (.ref (s.heap.objs.size + 1)) { s with heap := h' }) :
    wpAny (model prog w) A (call (.type "enumerate") [v]) Q E s := by
  refine callType_new F.called_enumerate (by decide) (F.typeCall_enumerate_1 _) (F.newCall_enumerate_1 _) (fun obj => F.args_object_init_2 obj _) F.entry_enumerate_new
    (meets_enumB1 B) ⟨h1, ?_⟩
  have hz : (s.heap.push o).objs.size = s.heap.objs.size + 1 := Heap.size_push ..
  show _ ∧ _
  rw [hz]
  have he : IsEnum ((s.heap.push o).push { cls := .type "enumerate", data := .fields #[.none, .bool false, .ref s.heap.objs.size, rawInt 0, .none, .none] }) (s.heap.objs.size + 1) s.heap.objs.size 0 .none := by
    have := Heap.get?_push_size (s.heap.push o) (o := { cls := .type "enumerate", data := .fields #[.none, .bool false, .ref s.heap.objs.size, rawInt 0, .none, .none] }) rfl
    rw [hz] at this; exact this
  refine ⟨⟨_, he, rfl⟩, h _ he (Heap.get?_push_of_some _ (Heap.get?_push_size _ B.free)) (by rw [Heap.size_push, hz]) fun b o x => Heap.get?_push_of_some _ (Heap.get?_push_of_some _ x)⟩
/-- the tuple at a as it stands at each turn, each item in a new pair -/
def IteT (K : PySem.W.Frag) (a : Addr) : It :=
  ⟨fun i H => ∃ (xs : List V) (x : V), SqT K H a xs ∧ xs[i]? = some x, fun i H v H' => ∃ T x, v = .ref T ∧ H T = none ∧ H' = upd H T (.tup [.int (i : Nat), x]) ∧ ∀ xs, SqT K H a xs → xs[i]? = some x, fun i H => ∃ xs : List V, SqT K H a xs ∧ xs.length ≤ i⟩
theorem turn_enumT {P : Program} {w : World} {K : PySem.W.Frag} {elts : List Expr} {kk : Nat} {tpos : Pos} (a e it : Addr) :
    Turn P w K (.Tuple elts kk tpos) (IteT K a) [e, it] e (fun i h => (∃ old, IsEnum h e it ((i : Nat) : Int) old) ∧ h.IsTupleIter it a i ∧ e ≠ it) where
  mem := by simp
  obj := fun i h st b hb => by
    obtain ⟨⟨old, he⟩, ⟨o, ho, hc, hd⟩, _⟩ := st
    have e' : b = e ∨ b = it := by simpa using hb
    rcases e' with z | z
    · rw [z]; exact ⟨_, he, fun v q => nomatch q⟩
    · rw [z]; exact ⟨o, ho, fun v q => by rw [hd] at q; cases q⟩
  keep := fun i h h' st k => let ⟨⟨old, he⟩, hi, hne⟩ := st; ⟨⟨old, k e (by simp) _ he⟩, hi.at fun o q => k it (by simp) o q, hne⟩
  item := by
    intro X hP hw hK hc i pins s σ H E I hf st hg
    subst hP hw hK
    obtain ⟨⟨old, he⟩, hit, hne⟩ := st
    obtain ⟨xs, x, hq, hx⟩ := hg
    obtain ⟨its, rv, p, hz⟩ := I.tuple hq
    obtain ⟨u, hu, ru⟩ := rv.get hx
    have hel : e < s.heap.objs.size := Heap.lt_size he
    have hil : it < s.heap.objs.size := by obtain ⟨_, q, _⟩ := hit; exact Heap.lt_size q
    have tup : s.heap.IsTuple a its.toArray := p
    have hai : a ≠ it := fun z => by
      obtain ⟨o, ho, hcl, _⟩ := hit
      obtain ⟨o2, ho2, hcl2, _⟩ := tup
      rw [z, ho] at ho2
      cases ho2
      rw [hcl] at hcl2
      injection hcl2 with hs
      exact absurd hs (by decide)
    have hae : a ≠ e := fun z => by
      obtain ⟨o2, ho2, hcl2, _⟩ := tup
      have he' : s.heap.get? e = some _ := he
      rw [z, he'] at ho2
      cases ho2
      injection hcl2 with hs
      exact absurd hs (by decide)
    have hu' : its.toArray[i]? = some u := by simpa using hu
    have hlt : i < its.toArray.size := by
      rcases Nat.lt_or_ge i its.toArray.size with h | h
      · exact h
      · rw [Array.getElem?_eq_none h] at hu'; cases hu'
    refine wpAny_pyNext_enum_itemD (Draws.tuple (A := X.A.in1) (show X.A.in1.handled = none from I.ok.hd hc) it a hai its.toArray) he ⟨hit, tup⟩ hlt hne (by simp [hne, Ne.symm hae]) fun y h' tk hPy ho hit' hT hsz hk => ?_
    have ey : y = u := by rw [hu'] at hPy; cases hPy; rfl
    subst ey
    refine ⟨_, rfl, wpAny_letOwnedTupleGo_enum (s := { s with heap := h', toks := tk + 1 }) ho fun h'' he' sb => ?_⟩
    have hT2 : h''.get? s.heap.objs.size = some { cls := .type "tuple", data := .seq #[.int i tk, y] } := (sb.2 _ (Nat.ne_of_gt hel)).trans hT
    have new : ObjOk X.prog X.w (upd H s.heap.objs.size (.tup [.int (i : Nat), x])) h'' s.heap.objs.size (.tup [.int (i : Nat), x]) :=
      ⟨by show 2 ≤ sizeLine; decide, [.int i tk, y], .cons ⟨_, rfl⟩ (.cons ru .nil), ⟨_, hT2, rfl, _, rfl⟩⟩
    have I1 : Inv X pins σ (upd H s.heap.objs.size (.tup [.int (i : Nat), x])) { s with heap := h'', toks := tk + 1 } :=
      I.turnedNew (ch := [e, it]) (fun b ob hb q => (sb.2 b (fun z => hb (by simp [z]))).trans (hk b ob (fun z => hb (by simp [z])) (fun z => hb (by simp [z])) q)) hf (Nat.le_refl _) new
    refine ⟨.ref s.heap.objs.size, _, I1, rfl, ⟨_, x, rfl, I.hok.fresh (Nat.le_refl _), rfl, fun ys hy => by rw [I.tuple_inj hy hq]; exact hx⟩, ⟨⟨y, ?_⟩, hit'.1.at fun o q => (sb.2 it (Ne.symm hne)).trans q, hne⟩, fun b hb => ?_⟩
    · have e1 : ((i + 1 : Nat) : Int) = (i : Int) + 1 := by omega
      rw [e1]; exact he'
    · have hb' : b < s.heap.objs.size := by
        have e' : b = e ∨ b = it := by simpa using hb
        rcases e' with z | z
        · rw [z]; exact hel
        · rw [z]; exact hil
      rw [upd_ne (Nat.ne_of_lt hb')]
      exact (hf b hb).1
  done := by
    intro X hP hw hK hc i pins s σ H E I hf st hg
    subst hP hw hK
    obtain ⟨⟨old, he⟩, hit, hne⟩ := st
    obtain ⟨xs, hq, hx⟩ := hg
    obtain ⟨its, rv, p, hz⟩ := I.tuple hq
    obtain ⟨f0, f1, f2, f3, f4, f5⟩ := hf it (by simp)
    have hl := rv.length
    have tup : s.heap.IsTuple a its.toArray := p
    have hT : s.TypeIs (.ref e) "enumerate" := ⟨_, he, rfl⟩
    unfold pyNext
    refine wpAny_bind (wpAny_attempt (wpAny_callSpecial?_slot (name := Str.ofString "__next__") hT F.slot_enumerate_next
      (wpAny_call_entry F.slot_enumerate_next hT F.entry_enumerate_next ?_ (F.args_enumerate_next_1 _))))
    show wpAny _ _ (field (.ref e) 2 >>= _) _ _ _
    refine wpAny_bind (wpAny_field he rfl (x := .ref it) rfl ?_)
    refine wpAny_bind (wpAny_nextOf_tuple_end (I.ok.hd hc) hit tup (by simp; omega) fun h' x he' hx' => ?_)
    obtain ⟨o, ho, hcl⟩ := hx'
    refine wpAny_bind (wpAny_isInstance (T := "StopIteration") (b := true) ⟨o, ho, hcl⟩ isSubtype_stop ?_)
    exact wpAny_pure ⟨rfl, I.turned (t' := s.toks) (fun b o hb q => he' b o hb q) f0 f1 f3 f4 f5⟩
  self := fun A i s Q E st h => let ⟨⟨_, he⟩, _⟩ := st; wpAny_pyIter_enum he h
def iEnumTup (K : PySem.W.Frag) (ta : TA) : TI := fun σ H R => ta σ H fun vs H1 => ∃ a xs, vs = [.ref a] ∧ SqT K H1 a xs ∧ R (IteT K a) H1
theorem pi_enumT {X : Cx} {e : Expr} {ta : TA} {p pos tpos : Pos} {elts : List Expr} {kk : Nat} (hg : Gl X "enumerate") (hm : X.mg "enumerate" = none) (ha : PA X [e] ta) (hs : starEach [e] X.env = [(false, eval e X.env)] := by rfl) :
    PI X (.Tuple elts kk tpos) (.Call (.Name "enumerate" p) [e] [] pos) (iEnumTup X.K ta) := by
  refine ⟨fun pins s σ H R I h => ?_⟩
  refine Call_ (ld_blt I hg hm boot_enumerate (PyProof.Rows.callWith_type1 (thn (ha.run pos pins s σ H _ I h) fun us s1 ⟨vs, H1, I1, r1, q1⟩ => ?_) hs rfl))
  obtain ⟨a, xs, ex, hq, q⟩ := q1
  subst ex
  cases r1 with
  | cons r rr =>
    cases rr
    cases r
    obtain ⟨its, rv, p', hz⟩ := I1.tuple hq
    refine enum_begins1 (begins_tuple a its.toArray) (show s1.heap.IsTuple a its.toArray from p') fun h' he hit hsz hk => wpAny_pyIter_enum he ?_
    have I2 : Inv X pins σ H1 { s1 with heap := h' } := I1.kept (t' := s1.toks) hk
    refine ⟨s1.heap.objs.size + 1, [s1.heap.objs.size + 1, s1.heap.objs.size], _, _, H1, rfl, I2, turn_enumT a (s1.heap.objs.size + 1) s1.heap.objs.size, ⟨⟨.none, he⟩, ⟨_, hit, rfl, rfl⟩, Nat.succ_ne_self _⟩, fun b hb => ?_, q⟩
    have e' : b = s1.heap.objs.size + 1 ∨ b = s1.heap.objs.size := by simpa using hb
    have hle : s1.heap.objs.size ≤ b := by
      rcases e' with z | z
      · rw [z]; exact Nat.le_add_right _ _
      · rw [z]; exact Nat.le_refl _
    exact I1.fpOk hle (I1.hok.fresh hle)
section
variable {G : Type} {Γ : GInt G} {X : Cx} {W : WX} {K : Fg} {pos : Pos}
theorem wk_enumT {C : Fx} {R : Hp} {a : Addr} {vs : List V} {ds : List D} (e : R a = some (.tup vs)) (z : Reps K R vs ds) : Wk K Γ C R (IteT K a) (numd ds) := fun R1 H l g σ s r i => by
  have eH := r.sub _ _ (s _ _ e)
  rw [num_len]
  refine ⟨fun hi => ?_, fun e => have hi := Nat.le_of_eq e.symm; ⟨vs, SqT.of eH, by rw [z.length]; exact hi⟩⟩
  obtain ⟨v, hv, zv⟩ := z.get (List.getElem?_eq_getElem hi)
  refine ⟨⟨vs, v, SqT.of eH, hv⟩, fun x H' ⟨T, y, e0, hT, e1, hy⟩ => ?_⟩
  subst e0 e1
  have := hy vs (SqT.of eH)
  rw [hv] at this
  cases this
  obtain ⟨r2, s2, z2⟩ := r.newT (ds := [.int i, ds[i]]) hT (.cons (.int _) (.one (zv.mono s)))
  exact ⟨_, s2, r2, _, num_get ds (List.getElem?_eq_getElem hi), z2⟩
theorem di_enumT {e : Expr} {f : DE G} {p tpos : Pos} {elts : List Expr} {kk : Nat} (hg : Gl X "enumerate") (hm : X.mg "enumerate" = none) (ha : PE X e (liftE X.K Γ W f)) (hs : starEach [e] X.env = [(false, eval e X.env)] := by rfl) :
    PI X (.Tuple elts kk tpos) (.Call (.Name "enumerate" p) [e] [] pos) (liftI X.K Γ W (iEnumT f)) :=
  (pi_enumT hg hm (pa_cons ha pa_nil hs) hs).imp fun σ H P ⟨C, l, g, R, ex, q, r, h, k, kx⟩ => by
    refine ⟨C, l, g, R, ex, _, r, h, fun x H1 R1 d l1 g1 s1 r1 z1 h1 => ?_, kx⟩
    split at h1
    · cases z1 with
      | tup e z => exact ⟨_, _, rfl, SqT.of (r1.sub _ _ e), k _ H1 R1 _ l1 g1 s1 r1 (fun _ => wk_enumT e z) h1⟩
    · exact h1.elim
end
end Lk

set_option autoImplicit false
set_option linter.all false
set_option Elab.async false
set_option maxRecDepth 100000
set_option maxHeartbeats 2000000
/-! sorted of data -/
namespace Lk
open PySem PySem.Spec PyProof.Rows L2 Dx
def encD (b : V × D) : PyData := toP b.2
def rSortD (K : Fg) : List V → Hp → VK → Prop := fun vs H Q => ∃ (a : Addr) (bs : List (V × D)), vs = [V.ref a] ∧ SqL K H a (bs.map (·.1)) ∧ (∀ b ∈ bs, Dp K H b.1 (encD b) ∧ (encD b).depth ≤ 60) ∧
  PySem.W.AllAlike (bs.map encD) ∧ PySem.W.Sortable (bs.map encD) ∧ ∀ (cs : List (V × D)) (p : Addr), cs.Perm bs → cs.Pairwise (fun b c => PySem.W.dataLt (encD c) (encD b) = false) → H p = none → Q (.ref p) (upd H p (.lst (cs.map (·.1))))
theorem dataLe_pair : ∀ (a b c : V × D), PySem.W.dataLe false encD a b = true → PySem.W.dataLe false encD b c = true → PySem.W.dataLe false encD a c = true := by
  intro a b c h1 h2
  rw [PySem.W.dataLe_eq] at h1 h2 ⊢
  have h1 : (!PySem.W.dataLt (encD b) (encD a)) = true := h1
  have h2 : (!PySem.W.dataLt (encD c) (encD b)) = true := h2
  show (!PySem.W.dataLt (encD c) (encD a)) = true
  rw [Bool.not_eq_true'] at h1 h2 ⊢
  cases h : PySem.W.dataLt (encD c) (encD a) with
  | false => rfl
  | true =>
    unfold PySem.W.dataLt at h h1 h2
    rcases lex_negTrans _ (PySem.W.keyToks (encD b)) _ h with y | y
    · rw [h2] at y; cases y
    · rw [h1] at y; cases y
theorem dataLe_tot : ∀ (a b : V × D), (PySem.W.dataLe false encD a b || PySem.W.dataLe false encD b a) = true := by
  intro a b
  rw [PySem.W.dataLe_eq]
  show ((!PySem.W.dataLt (encD b) (encD a)) || (!PySem.W.dataLt (encD a) (encD b))) = true
  cases h : PySem.W.dataLt (encD b) (encD a) with
  | false => rfl
  | true =>
    cases h2 : PySem.W.dataLt (encD a) (encD b) with
    | false => rfl
    | true =>
      unfold PySem.W.dataLt at h h2
      have := lex_trans _ _ _ h h2
      rw [lex_irrefl] at this
      cases this
theorem each_rel : ∀ {bs : List (V × D)} {its : List Value}, Vals (bs.map (·.1)) its → PySem.W.EachIs (fun (v : Value) (b : V × D) => RelV b.1 v) its bs
  | [], _, .nil => .nil
  | _ :: _, _ :: _, .cons r t => .cons r (each_rel t)
theorem rel_each : ∀ {bs : List (V × D)} {its : List Value}, PySem.W.EachIs (fun (v : Value) (b : V × D) => RelV b.1 v) its bs → Vals (bs.map (·.1)) its
  | _, _, .nil => .nil
  | _, _, .cons r t => .cons r (rel_each t)
theorem cr_sortD {X : Cx} (hu : X.A.units + 64 < cLine) : CallR X (.builtin "sorted") (rSortD X.K) := by
  intro pins s σ H vs us Q I r h
  obtain ⟨a, bs, rfl, hs, hd, hal, hso, q⟩ := h
  obtain ⟨its, rv, hl, hz⟩ := I.list hs
  rw [Vals.ref1 r]
  have e := each_rel rv
  have hlen : bs.length ≤ sizeLine := by rw [List.length_map] at hz; exact hz
  have er : PySem.W.EachIs (fun (v : Value) (b : V × D) => ∃ as, Reads s.heap v (encD b) as) its bs := by
    have : ∀ {bs : List (V × D)} {its : List Value}, PySem.W.EachIs (fun (v : Value) (b : V × D) => RelV b.1 v) its bs → (∀ b ∈ bs, Dp X.K H b.1 (encD b) ∧ (encD b).depth ≤ 60) → PySem.W.EachIs (fun (v : Value) (b : V × D) => ∃ as, Reads s.heap v (encD b) as) its bs := by
      intro bs its h hd
      induction h with
      | nil => exact .nil
      | cons r t ih => exact .cons (Dp.reads I _ _ _ (hd _ List.mem_cons_self).1 r) (ih fun b hb => hd b (List.mem_cons_of_mem _ hb))
    exact this e hd
  have hl' : s.heap.IsList a its.toArray := hl.isList
  refine PySem.W.sorted_data hl' e er hal hso hlen (fun b hb => by have := (hd b hb).2; omega) fun out ho eo => ?_
  obtain ⟨ep, he'⟩ := PyProof.Rows.sortedAll_at s.heap its out.toArray
  have hp := List.mergeSort_perm bs (PySem.W.dataLe false encD)
  have hpw : (bs.mergeSort (PySem.W.dataLe false encD)).Pairwise (fun b c => PySem.W.dataLt (encD c) (encD b) = false) :=
    (List.pairwise_mergeSort dataLe_pair dataLe_tot bs).imp fun {b c} h => by
      rw [PySem.W.dataLe_eq] at h
      have h : (!PySem.W.dataLt (encD c) (encD b)) = true := h
      rw [Bool.not_eq_true'] at h
      exact h
  generalize bs.mergeSort (PySem.W.dataLe false encD) = cs at eo hp hpw
  have hlen2 : (cs.map (·.1)).length ≤ sizeLine := by rw [List.length_map, hp.length_eq]; exact hlen
  exact ⟨.ref _, upd H (s.heap.objs.size + 1) (.lst (cs.map (·.1))), I.laid (t' := s.toks) (fun _ _ => PyProof.Rows.sortedAll_old) (Nat.le_succ _) ⟨hlen2, out, ep, rel_each eo, he'⟩, rfl, q cs _ hp hpw (I.hok.fresh (Nat.le_succ _))⟩
theorem reps_zip {K : Fg} {R : Hp} : ∀ {vs : List V} {ds : List D}, Reps K R vs ds → ∀ b ∈ vs.zip ds, Rep K R b.1 b.2
  | _, _, .nil, b, h => by cases h
  | _, _, .cons z q, b, h => by
    rw [List.zip_cons_cons] at h
    rcases List.mem_cons.mp h with rfl | h
    · exact z
    · exact reps_zip q b h
theorem zip_reps {K : Fg} {R : Hp} : ∀ {bs : List (V × D)}, (∀ b ∈ bs, Rep K R b.1 b.2) → Reps K R (bs.map (·.1)) (bs.map (·.2))
  | [], _ => .nil
  | b :: bs, h => .cons (h b List.mem_cons_self) (zip_reps fun c hc => h c (List.mem_cons_of_mem _ hc))
section
variable {G : Type} {Γ : GInt G} {K : Fg}
theorem ag_sort : AgAF K Γ (rSortD K) bSort := by
  intro C l g σ R H vs ds k Q r z hw fin
  unfold bSort at hw
  split at hw
  · rename_i xs
    obtain ⟨⟨h1, h2, h3⟩, hk⟩ := hw
    obtain ⟨v, rfl, rb⟩ := z.one
    obtain ⟨a, ws, rfl, ha, q⟩ := rb.lst r.sub
    have hlen := q.length
    have e1 : (ws.zip xs).map (·.1) = ws := List.map_fst_zip (by omega)
    have e2 : (ws.zip xs).map (·.2) = xs := List.map_snd_zip (by omega)
    have mem2 : ∀ b ∈ ws.zip xs, b.2 ∈ xs := fun b hb => by rw [← e2]; exact List.mem_map_of_mem hb
    have ee : (ws.zip xs).map encD = xs.map toP := by
      have : (ws.zip xs).map encD = ((ws.zip xs).map (·.2)).map toP := by rw [List.map_map]; rfl
      rw [this, e2]
    refine ⟨a, ws.zip xs, rfl, by rw [e1]; exact SqL.of ha, fun b hb => ⟨rep_dp r.sub (reps_zip q b hb) (h1 _ (mem2 b hb)).1, ?_⟩, ?_, ?_, fun cs p hp hpw hn => ?_⟩
    · show (toP b.2).depth ≤ 60
      rw [dep_p]
      exact (h1 _ (mem2 b hb)).2
    · rw [ee]
      intro d hd d' hd'
      obtain ⟨x, hx, rfl⟩ := List.mem_map.mp hd
      obtain ⟨y, hy, rfl⟩ := List.mem_map.mp hd'
      exact lik_p x y (h2 x hx y hy)
    · rw [ee]
      rcases h3 with h3 | h3
      · left
        intro d hd
        obtain ⟨x, hx, rfl⟩ := List.mem_map.mp hd
        obtain ⟨y, ys, rfl⟩ := h3 x hx
        exact ⟨toP y, toPs ys, rfl⟩
      · right
        intro d hd
        obtain ⟨x, hx, rfl⟩ := List.mem_map.mp hd
        obtain ⟨n1, n2⟩ := h3 x hx
        have p1 := (h1 x hx).1
        cases x with
        | non => exact absurd rfl n1
        | tup ys => exact absurd rfl (n2 ys)
        | kt ys =>
          have z := h2 _ hx _ hx
          simp [lik] at z
        | bl b => exact ⟨fun e => (by cases e), fun xs e => (by cases e)⟩
        | int b => exact ⟨fun e => (by cases e), fun xs e => (by cases e)⟩
        | str b => exact ⟨fun e => (by cases e), fun xs e => (by cases e)⟩
        | lst b => exact ⟨fun e => (by simp [toP] at e), fun xs e => (by simp [toP] at e)⟩
        | _ => simp [pla] at p1
    · have zc : Reps K R (cs.map (·.1)) (cs.map (·.2)) := zip_reps fun b hb => reps_zip q b (hp.mem_iff.mp hb)
      obtain ⟨r1, z1⟩ := r.newLF hn zc
      obtain ⟨n1, n2, n3, n4⟩ := r.newF hn
      refine fin p _ _ r1 z1 n1 n2 n3 n4 (hk _ ?_ ?_)
      · have := hp.map (·.2)
        rw [e2] at this
        exact this
      · rw [List.pairwise_map]
        refine (List.Pairwise.and_mem.mp hpw).imp ?_
        rintro b c ⟨hb, hc, h⟩
        have hb := mem2 b (hp.mem_iff.mp hb)
        have hc := mem2 c (hp.mem_iff.mp hc)
        rw [← dlt_p c.2 b.2 (h2 _ hc _ hb) (h1 _ hc).1 (h1 _ hb).1]
        exact h
  · exact hw.elim
end
end Lk

set_option autoImplicit false
set_option linter.all false
set_option Elab.async false
set_option maxRecDepth 100000
set_option maxHeartbeats 2000000
/-! zip of a list or tuple and a list or tuple -/
namespace Lk
open PySem PySem.Spec PyProof.Rows L2 Dx
def ItB (b : Bool) (h : Heap) (it a : Addr) (i : Nat) : Prop := match b with
  | true => h.IsTupleIter it a i
  | false => h.IsListIter it a i
def obB (b : Bool) (a : Addr) : Obj := match b with
  | true => { cls := .type "tuple_iterator", data := .fields #[.ref a, .int 0 0] }
  | false => { cls := .type "list_iterator", data := .fields #[.ref a, .int 0 0] }
theorem drawsB {prog : Program} {w : World} {A : Around} (hh : A.handled = none) (b : Bool) (it a : Addr) (hne : a ≠ it) (items : Array Value) :
    Draws prog w A it [it, a] items.size (fun i v => items[i]? = some v) (fun i h => ItB b h it a i ∧ HpB b h a items) := by
  cases b with
  | true => exact Draws.tuple hh it a hne items
  | false => exact Draws.list hh it a hne items
theorem beginsB (b : Bool) (a : Addr) (items : Array Value) : Begins (.ref a) (obB b a) fun h => HpB b h a items := by
  cases b with
  | true => exact begins_tuple a items
  | false => exact begins_list a items
theorem itB_begin {b : Bool} {h : Heap} {it a : Addr} (e : h.get? it = some (obB b a)) : ItB b h it a 0 := by
  cases b with
  | true => exact ⟨_, e, rfl, rfl⟩
  | false => exact ⟨_, e, rfl, rfl⟩
theorem ItB.at {b : Bool} {h h' : Heap} {it a : Addr} {i : Nat} (x : ItB b h it a i) (k : ∀ o, h.get? it = some o → h'.get? it = some o) : ItB b h' it a i := by
  cases b with
  | true => exact Heap.IsTupleIter.at x k
  | false => exact Heap.IsListIter.at x k
theorem ItB.ob {b : Bool} {h : Heap} {it a : Addr} {i : Nat} (x : ItB b h it a i) : ∃ o, h.get? it = some o ∧ ∀ v, o.data ≠ .cell v := by
  cases b with
  | true =>
    obtain ⟨o, ho, _, hd⟩ := x
    exact ⟨o, ho, fun v q => by rw [hd] at q; cases q⟩
  | false =>
    obtain ⟨o, ho, _, hd⟩ := x
    exact ⟨o, ho, fun v q => by rw [hd] at q; cases q⟩
/-- both stand at each turn; the items in new pairs -/
def ItzB (K : Fg) (b c : Bool) (p q : Addr) : It :=
  ⟨fun i H => ∃ (xs ys : List V) (x y : V), SqB K b H p xs ∧ SqB K c H q ys ∧ xs[i]? = some x ∧ ys[i]? = some y,
   fun i H v H' => ∃ T x y, v = .ref T ∧ H T = none ∧ H' = upd H T (.tup [x, y]) ∧ (∀ xs, SqB K b H p xs → xs[i]? = some x) ∧ ∀ ys, SqB K c H q ys → ys[i]? = some y,
   fun i H => ∃ xs ys : List V, SqB K b H p xs ∧ SqB K c H q ys ∧ i ≤ xs.length ∧ i ≤ ys.length ∧ (i = xs.length ∨ i = ys.length)⟩
theorem turn_zipB {P : Program} {w : World} {K : Fg} {elts : List Expr} {kk : Nat} {tpos : Pos} {b c : Bool} {p q z TI TO i1 i2 : Addr} (S : ZipSep2 z TI TO i1 i2 [i1, p] [i2, q]) (n1 : p ≠ i1) (n2 : q ≠ i2) :
    Turn P w K (.Tuple elts kk tpos) (ItzB K b c p q) [z, TI, TO, i1, i2] z (fun i h => IsZip h z TI TO .none ∧ IsTupOf2 h TI (.ref i1) (.ref i2) ∧ (∃ x y, IsTupOf2 h TO x y) ∧ ItB b h i1 p i ∧ ItB c h i2 q i) where
  mem := by simp
  obj := fun i h st d hd => by
    obtain ⟨hz, hTI, ⟨x, y, hTO⟩, h1, h2⟩ := st
    obtain ⟨o1, e1, d1⟩ := h1.ob
    obtain ⟨o2, e2, d2⟩ := h2.ob
    have hh : d = z ∨ d = TI ∨ d = TO ∨ d = i1 ∨ d = i2 := by simpa using hd
    rcases hh with e | e | e | e | e <;> rw [e]
    · exact ⟨_, hz, fun v q => nomatch q⟩
    · exact ⟨_, hTI, fun v q => nomatch q⟩
    · exact ⟨_, hTO, fun v q => nomatch q⟩
    · exact ⟨o1, e1, d1⟩
    · exact ⟨o2, e2, d2⟩
  keep := fun i h h' st k => by
    obtain ⟨hz, hTI, ⟨x, y, hTO⟩, h1, h2⟩ := st
    refine ⟨k z (by simp) _ hz, k TI (by simp) _ hTI, ⟨x, y, k TO (by simp) _ hTO⟩, h1.at fun o e => ?_, h2.at fun o e => ?_⟩
    · exact k i1 (by simp) o e
    · exact k i2 (by simp) o e
  item := by
    intro X hP hw hK hc i pins s σ H E I hf st hg
    subst hP hw hK
    obtain ⟨hz, hTI, ⟨x0, y0, hTO⟩, h1, h2⟩ := st
    obtain ⟨xs, ys, x, y, hqx, hqy, hx, hy⟩ := hg
    obtain ⟨its, rv, u1, _⟩ := sqB_read I hqx
    obtain ⟨jts, rw2, u2, _⟩ := sqB_read I hqy
    obtain ⟨u, hu, ru⟩ := rv.get hx
    obtain ⟨t, ht, rt⟩ := rw2.get hy
    have hd := show X.A.in1.handled = none from I.ok.hd hc
    have hu' : its.toArray[i]? = some u := by simpa using hu
    have ht' : jts.toArray[i]? = some t := by simpa using ht
    have lt1 : i < its.toArray.size := (Array.getElem?_eq_some_iff.mp hu').1
    have lt2 : i < jts.toArray.size := (Array.getElem?_eq_some_iff.mp ht').1
    have hzl : z < s.heap.objs.size := Heap.lt_size hz
    refine wpAny_pyNext_zipD2_item S (drawsB hd b i1 p n1 its.toArray) (drawsB hd c i2 q n2 jts.toArray) hz hTI hTO ⟨h1, u1⟩ ⟨h2, u2⟩ lt1 lt2 fun x1 x2 h' tk g1 g2 z' TO' st1 st2 hT hsz hk => ?_
    have e1 : x1 = u := by rw [hu'] at g1; cases g1; rfl
    have e2 : x2 = t := by rw [ht'] at g2; cases g2; rfl
    subst e1 e2
    refine ⟨_, rfl, wpAny_letOwnedTupleGo_zip (s := { s with heap := h', toks := tk }) z' fun h'' z'' sb => ?_⟩
    have ne' : s.heap.objs.size ≠ z := Nat.ne_of_gt hzl
    have hT2 : h''.get? s.heap.objs.size = some { cls := .type "tuple", data := .seq #[x1, x2] } := (sb.2 _ ne').trans hT
    have new : ObjOk X.prog X.w (upd H s.heap.objs.size (.tup [x, y])) h'' s.heap.objs.size (.tup [x, y]) :=
      ⟨by show 2 ≤ sizeLine; decide, [x1, x2], .cons ru (.cons rt .nil), ⟨_, hT2, rfl, _, rfl⟩⟩
    have I1 : Inv X pins σ (upd H s.heap.objs.size (.tup [x, y])) { s with heap := h'', toks := tk } := by
      refine I.turnedNew (t' := tk) (ch := [z, TI, TO, i1, i2]) (fun d o hb e => ?_) hf (Nat.le_refl _) new
      refine (sb.2 d fun w => hb (by simp [w])).trans (hk d o ?_ ?_ ?_ ?_ e)
      · exact fun w => hb (by simp [w])
      · exact fun w => hb (by simp [w])
      · exact fun w => hb (by simp [w])
      · exact fun w => hb (by simp [w])
    refine ⟨.ref s.heap.objs.size, _, I1, rfl, ⟨_, x, y, rfl, I.hok.fresh (Nat.le_refl _), rfl, fun l hl => ?_, fun l hl => ?_⟩, ⟨z'', ?_, ⟨x1, x2, ?_⟩, ?_, ?_⟩, fun d hdm => ?_⟩
    · rw [sqB_inj I hl hqx]; exact hx
    · rw [sqB_inj I hl hqy]; exact hy
    · exact (sb.2 _ S.TIz).trans (hk _ _ S.TIz S.TITO S.TIi1 S.TIi2 hTI)
    · exact (sb.2 _ S.TOz).trans TO'
    · exact st1.1.at fun o e => (sb.2 _ (Ne.symm S.zi1)).trans e
    · exact st2.1.at fun o e => (sb.2 _ (Ne.symm S.zi2)).trans e
    · have hlt : d < s.heap.objs.size := by
        have hh : d = z ∨ d = TI ∨ d = TO ∨ d = i1 ∨ d = i2 := by simpa using hdm
        rcases hh with e | e | e | e | e <;> rw [e]
        · exact hzl
        · exact Heap.lt_size hTI
        · exact Heap.lt_size hTO
        · obtain ⟨_, e1, _⟩ := h1.ob
          exact Heap.lt_size e1
        · obtain ⟨_, e2, _⟩ := h2.ob
          exact Heap.lt_size e2
      rw [upd_ne (Nat.ne_of_lt hlt)]
      exact (hf d hdm).1
  done := by
    intro X hP hw hK hc i pins s σ H E I hf st hg
    subst hP hw hK
    obtain ⟨hz, hTI, ⟨x0, y0, hTO⟩, h1, h2⟩ := st
    obtain ⟨xs, ys, hqx, hqy, le1, le2, hend⟩ := hg
    obtain ⟨its, rv, u1, _⟩ := sqB_read I hqx
    obtain ⟨jts, rw2, u2, _⟩ := sqB_read I hqy
    have hd := show X.A.in1.handled = none from I.ok.hd hc
    have s1 : its.toArray.size = xs.length := by rw [List.size_toArray]; exact rv.length.symm
    have s2 : jts.toArray.size = ys.length := by rw [List.size_toArray]; exact rw2.length.symm
    refine wpAny_pyNext_zipD2_end S (drawsB hd b i1 p n1 its.toArray) (drawsB hd c i2 q n2 jts.toArray) hz hTI hTO ⟨h1, u1⟩ ⟨h2, u2⟩ (by rw [s1]; exact le1) (by rw [s2]; exact le2) (by rw [s1, s2]; exact hend) fun h' tk hk => ⟨rfl, ?_⟩
    refine I.turnedL (t' := tk) (ch := [z, TI, TO, i1, i2]) (fun d o hb e => hk d o ?_ ?_ ?_ ?_ e) hf
    · exact fun w => hb (by simp [w])
    · exact fun w => hb (by simp [w])
    · exact fun w => hb (by simp [w])
    · exact fun w => hb (by simp [w])
  self := fun A i s Q E st h => wpAny_pyIter_zip st.1 h
section
variable {G : Type} {Γ : GInt G} {X : Cx} {W : WX}
def iZipB (K : Fg) (ta : TA) : TI := fun σ H R => ta σ H fun vs H1 => ∃ (a b : Addr) (m n : Bool) (xs ys : List V), vs = [.ref a, .ref b] ∧ SqB K m H1 a xs ∧ SqB K n H1 b ys ∧ R (ItzB K m n a b) H1
theorem pi_zipB {e e2 : Expr} {ta : TA} {p pos tpos : Pos} {elts : List Expr} {kk : Nat} (hg : Gl X "zip") (hm : X.mg "zip" = none) (ha : PA X [e, e2] ta)
    (hs : starEach [e, e2] X.env = (false, eval e X.env) :: starEach [e2] X.env := by rfl) (hpl : (backTo pos (starEach [e2] X.env)).any (·.1) = false := by rfl) :
    PI X (.Tuple elts kk tpos) (.Call (.Name "zip" p) [e, e2] [] pos) (iZipB X.K ta) := by
  refine ⟨fun pins s σ H R I h => ?_⟩
  refine Call_ (ld_blt I hg hm PyProof.Rows.boot_zip (PyProof.Rows.callWith_type1 (thn (ha.run pos pins s σ H _ I h) fun us s1 ⟨vs, H1, I1, r1, q1⟩ => ?_) hs hpl))
  obtain ⟨a, b, m, n, xs, ys, rfl, hqx, hqy, q⟩ := q1
  obtain ⟨its, rv, u1, la⟩ := sqB_read I1 hqx
  obtain ⟨jts, rw2, u2, lb⟩ := sqB_read I1 hqy
  cases r1 with
  | cons r rr =>
    cases rr with
    | cons r' rr =>
      cases rr
      cases r
      cases r'
      refine zip_begins2 (beginsB m a its.toArray) (beginsB n b jts.toArray) u1 u2 fun h' hz hTI hTO g1 g2 hsz hk => wpAny_pyIter_zip hz ?_
      have I2 : Inv X pins σ H1 { s1 with heap := h' } := I1.kept (t' := s1.toks) hk
      have S := zip_sep2 (N := s1.heap.objs.size) (fp1 := [a]) (fp2 := [b]) (fun c hc => by rw [List.mem_singleton.mp hc]; exact la) (fun c hc => by rw [List.mem_singleton.mp hc]; exact lb)
      refine ⟨s1.heap.objs.size + 4, [s1.heap.objs.size + 4, s1.heap.objs.size + 2, s1.heap.objs.size + 3, s1.heap.objs.size, s1.heap.objs.size + 1], _, _, H1, rfl, I2, turn_zipB S (Nat.ne_of_lt la) (Nat.ne_of_lt (Nat.lt_succ_of_lt lb)), ⟨hz, hTI, ⟨_, _, hTO⟩, itB_begin g1, itB_begin g2⟩, fun c hcm => ?_, q⟩
      have hle : s1.heap.objs.size ≤ c := by
        have hh : c = s1.heap.objs.size + 4 ∨ c = s1.heap.objs.size + 2 ∨ c = s1.heap.objs.size + 3 ∨ c = s1.heap.objs.size ∨ c = s1.heap.objs.size + 1 := by simpa using hcm
        rcases hh with e | e | e | e | e <;> rw [e]
        · exact Nat.le_add_right _ _
        · exact Nat.le_add_right _ _
        · exact Nat.le_add_right _ _
        · exact Nat.le_refl _
        · exact Nat.le_add_right _ _
      exact I1.fpOk hle (I1.hok.fresh hle)
theorem zip_len (xs ys : List D) : (zipd xs ys).length = min xs.length ys.length := by simp [zipd]
theorem zip_get {xs ys : List D} {i : Nat} {x y : D} (h : xs[i]? = some x) (k : ys[i]? = some y) : (zipd xs ys)[i]? = some (.tup [x, y]) := by
  unfold zipd
  rw [List.getElem?_zipWith, h, k]
/-- what stands at a for ds, a list or a tuple -/
def SidAt (R : Hp) (b : Bool) (a : Addr) (vs : List V) : Prop := match b with
  | true => R a = some (.tup vs)
  | false => R a = some (.lst vs)
def SidR (K : Fg) (R : Hp) (b : Bool) (a : Addr) (ds : List D) : Prop := ∃ vs, SidAt R b a vs ∧ Reps K R vs ds
theorem sid_sq {K : Fg} {R H : Hp} {b : Bool} {a : Addr} {vs : List V} (s : Sub R H) (h : SidAt R b a vs) : SqB K b H a vs := by
  cases b with
  | true => exact SqT.of (s _ _ h)
  | false => exact SqL.of (s _ _ h)
theorem wk_zipB {K : Fg} {C : Fx} {R : Hp} {m n : Bool} {a b : Addr} {ds es : List D} (e1 : SidR K R m a ds) (e2 : SidR K R n b es) : Wk K Γ C R (ItzB K m n a b) (zipd ds es) := fun R1 H l g σ s r i => by
  obtain ⟨vs, h1, z1⟩ := e1
  obtain ⟨ws, h2, z2⟩ := e2
  have q1 : SqB K m H a vs := sid_sq (Sub.trans s r.sub) h1
  have q2 : SqB K n H b ws := sid_sq (Sub.trans s r.sub) h2
  have l1 := z1.length
  have l2 := z2.length
  rw [zip_len]
  refine ⟨fun hi => ?_, fun e => ⟨vs, ws, q1, q2, by omega, by omega, by omega⟩⟩
  obtain ⟨v, hv, zv⟩ := z1.get (List.getElem?_eq_getElem (show i < ds.length by omega))
  obtain ⟨u, hu, zu⟩ := z2.get (List.getElem?_eq_getElem (show i < es.length by omega))
  refine ⟨⟨vs, ws, v, u, q1, q2, hv, hu⟩, fun x H' ⟨T, x1, y1, e0, hT, e3, k1, k2⟩ => ?_⟩
  subst e0 e3
  have a1 := k1 vs q1
  have a2 := k2 ws q2
  rw [hv] at a1
  rw [hu] at a2
  cases a1
  cases a2
  obtain ⟨r2, s2, z3⟩ := r.newT (ds := [ds[i], es[i]]) hT (.cons (zv.mono s) (.one (zu.mono s)))
  exact ⟨_, s2, r2, _, zip_get (List.getElem?_eq_getElem _) (List.getElem?_eq_getElem _), z3⟩
theorem sid_of {K : Fg} {R H : Hp} {v : V} {d : D} {ds : List D} (h : Rep K R v d) (hd : d = .lst ds ∨ d = .tup ds) : ∃ a b, v = .ref a ∧ SidR K R b a ds := by
  rcases hd with rfl | rfl
  · cases h with
    | lst e z => exact ⟨_, false, rfl, _, e, z⟩
  · cases h with
    | tup e z => exact ⟨_, true, rfl, _, e, z⟩
theorem di_zip {e e2 : Expr} {f f' : DE G} {p tpos : Pos} {pos : Pos} {elts : List Expr} {kk : Nat} (hg : Gl X "zip") (hm : X.mg "zip" = none) (ha : PE X e (liftE X.K Γ W f)) (hb : PE X e2 (liftE X.K Γ W f'))
    (hs : starEach [e, e2] X.env = (false, eval e X.env) :: starEach [e2] X.env := by rfl) (hs2 : starEach [e2] X.env = [(false, eval e2 X.env)] := by rfl) (hpl : (backTo pos (starEach [e2] X.env)).any (·.1) = false := by rfl) :
    PI X (.Tuple elts kk tpos) (.Call (.Name "zip" p) [e, e2] [] pos) (liftI X.K Γ W (iZip f f')) :=
  (pi_zipB hg hm (pa_cons ha (pa_cons hb pa_nil hs2) hs) hs hpl).imp fun σ H P ⟨C, l, g, R, ex, q, r, h, k, kx⟩ => by
    refine ⟨C, l, g, R, ex, _, r, h, fun x H1 R1 d l1 g1 s1 r1 z1 h1 => ?_, kx⟩
    refine ⟨C, l1, g1, R1, ex, _, r1, h1, fun y H2 R2 d2 l2 g2 s2 r2 z2 h2 => ?_, kx.mono s1⟩
    have go : ∀ ds es, (d = .lst ds ∨ d = .tup ds) → (d2 = .lst es ∨ d2 = .tup es) → q (zipd ds es) l2 g2 → ∃ (a b : Addr) (m n : Bool) (xs ys : List V), [x, y] = [V.ref a, .ref b] ∧ SqB X.K m H2 a xs ∧ SqB X.K n H2 b ys ∧ P (ItzB X.K m n a b) H2 := fun ds es c1 c2 hq => by
      obtain ⟨a, m, rfl, sa⟩ := sid_of (H := H2) (z1.mono s2) c1
      obtain ⟨b, n, rfl, sb⟩ := sid_of (H := H2) z2 c2
      obtain ⟨vs, h3, z3⟩ := id sa
      obtain ⟨ws, h4, z4⟩ := id sb
      exact ⟨a, b, m, n, vs, ws, rfl, sid_sq r2.sub h3, sid_sq r2.sub h4, k _ H2 R2 _ l2 g2 (s1.trans s2) r2 (fun _ => wk_zipB sa sb) hq⟩
    split at h2
    · exact go _ _ (.inl rfl) (.inl rfl) h2
    · exact go _ _ (.inl rfl) (.inr rfl) h2
    · exact go _ _ (.inr rfl) (.inl rfl) h2
    · exact go _ _ (.inr rfl) (.inr rfl) h2
    · exact h2.elim
end
end Lk

set_option autoImplicit false
set_option linter.all false
set_option Elab.async false
set_option maxRecDepth 100000
set_option maxHeartbeats 4000000
/-! range(a, b) of whole numbers of any size -/
namespace Lk
open PySem PySem.Spec PyProof.Rows L2 Dx
theorem turn_long {P : Program} {w : World} {K : PySem.W.Frag} {tg : Expr} (it : Addr) (lo : Int) (n : Nat) : Turn P w K tg (Itr lo n) [it] it (fun i h => IsLongIter h it (lo + (i : Nat)) ((n : Int) - (i : Nat)) 1) where
  mem := by simp
  obj := fun i h st b hb => by
    have e : b = it := by simpa using hb
    rw [e]
    exact ⟨_, st, fun v z => nomatch z⟩
  keep := fun i h h' st k => k it (by simp) _ st
  item := by
    intro X hP hw hK hc i pins s σ H E I hf st hg
    subst hP hw hK
    obtain ⟨f0, f1, f2, f3, f4, f5⟩ := hf it (by simp)
    have hg : i < n := hg
    refine wpAny_pyNext_long_item st (by omega) fun h' st' sb => ?_
    have I1 : Inv X pins σ H { s with heap := h', toks := s.toks + 1 } := I.turned (fun b o hb e => (sb.2 b hb).trans e) f0 f1 f3 f4 f5
    have e1 : lo + (i : Nat) + 1 = lo + ((i + 1 : Nat) : Int) := by omega
    have e2 : (n : Int) - (i : Nat) - 1 = (n : Int) - ((i + 1 : Nat) : Int) := by omega
    rw [e1, e2] at st'
    exact ⟨_, rfl, go_of (s := { s with heap := h', toks := s.toks + 1 }) (n := "longrange_iterator") st' rfl rfl (by decide) ⟨.int (lo + i), H, I1, ⟨_, rfl⟩, ⟨rfl, rfl⟩, st', fun b hb => (hf b hb).1⟩⟩
  done := by
    intro X hP hw hK hc i pins s σ H E I hf st hg
    subst hP hw hK
    obtain ⟨f0, f1, f2, f3, f4, f5⟩ := hf it (by simp)
    have hg : n ≤ i := hg
    exact wpAny_pyNext_long_end (I.ok.hd hc) st (by omega) fun h' eb => ⟨rfl, I.turned (t' := s.toks) (fun b o hb e => eb b o hb e) f0 f1 f3 f4 f5⟩
  self := fun _ _ _ _ _ st h => wpAny_pyIter_longiter st h
theorem range_itW {X : Cx} {tg : Expr} {pins : List (Addr × Obj)} {σ : L2.St} {H : Hp} {s : Shared} {R : It → Hp → Prop} {E : Value → Shared → Prop} {lo hi : Int} {t u v : Tok} {tk : Nat} (I : Inv X pins σ H s)
    (q : R (Itr lo (hi - lo).toNat) H) : wpAny (model X.prog X.w) X.A (pyIter (.ref s.heap.objs.size)) (PIE X pins σ tg R) E { s with heap := s.heap.push { cls := .type "range", data := .fields #[.int lo t, .int hi u, .int 1 v] }, toks := tk } := by
  have I1 : Inv X pins σ H { s with heap := s.heap.push { cls := .type "range", data := .fields #[.int lo t, .int hi u, .int 1 v] }, toks := tk } := I.kept fun b o e => Heap.get?_push_of_some _ e
  have e2 : (((hi - lo).toNat : Nat) : Int) - ((0 : Nat) : Int) = Builtin.Range.rangeSize lo hi 1 := by rw [rangeSize_one]; split <;> omega
  cases hs : Builtin.Range.small lo hi 1 with
  | true =>
    refine wpAny_pyIter_range (IsRange.new ..) hs ?_
    refine ⟨(s.heap.push { cls := .type "range", data := .fields #[.int lo t, .int hi u, .int 1 v] }).objs.size, [(s.heap.push { cls := .type "range", data := .fields #[.int lo t, .int hi u, .int 1 v] }).objs.size], _, _, H, rfl,
      I1.kept (t' := tk) fun b o e => Heap.get?_push_of_some _ e, turn_range _ lo (hi - lo).toNat, ?_, fun b hb => ?_, q⟩
    · have e1 : lo + ((0 : Nat) : Int) * 1 = lo := by simp
      show IsRangeIter _ _ (lo + ((0 : Nat) : Int) * 1) ((((hi - lo).toNat : Nat) : Int) - ((0 : Nat) : Int)) 1
      rw [e1, e2]
      exact Heap.get?_push_size _ rfl
    · have e : b = (s.heap.push { cls := .type "range", data := .fields #[.int lo t, .int hi u, .int 1 v] }).objs.size := by simpa using hb
      rw [e]
      exact I1.fpOk (Nat.le_refl _) (I1.hok.fresh (Nat.le_refl _))
  | false =>
    refine wpAny_pyIter_longrange (IsRange.new ..) hs ?_
    refine ⟨(s.heap.push { cls := .type "range", data := .fields #[.int lo t, .int hi u, .int 1 v] }).objs.size, [(s.heap.push { cls := .type "range", data := .fields #[.int lo t, .int hi u, .int 1 v] }).objs.size], _, _, H, rfl,
      I1.kept (t' := tk) fun b o e => Heap.get?_push_of_some _ e, turn_long _ lo (hi - lo).toNat, ?_, fun b hb => ?_, q⟩
    · have e1 : lo + ((0 : Nat) : Int) = lo := by simp
      show IsLongIter _ _ (lo + ((0 : Nat) : Int)) ((((hi - lo).toNat : Nat) : Int) - ((0 : Nat) : Int)) 1
      rw [e1, e2]
      exact Heap.get?_push_size _ rfl
    · have e : b = (s.heap.push { cls := .type "range", data := .fields #[.int lo t, .int hi u, .int 1 v] }).objs.size := by simpa using hb
      rw [e]
      exact I1.fpOk (Nat.le_refl _) (I1.hok.fresh (Nat.le_refl _))
section
variable {G : Type} {Γ : GInt G} {X : Cx} {W : WX} {pos : Pos}
def iRngW (ta : TA) : TI := fun σ H R => ta σ H fun vs H1 => ∃ i j : Int, vs = [.int i, .int j] ∧ R (Itr i (j - i).toNat) H1
theorem pi_rangeW {tg a b : Expr} {ta : TA} {p : Pos} (hg : Gl X "range") (hm : X.mg "range" = none) (ha : PA X [a, b] ta) (hs : starEach [a, b] X.env = [(false, eval a X.env), (false, eval b X.env)] := by rfl) (hs2 : starEach [b] X.env = [(false, eval b X.env)] := by rfl) :
    PI X tg (.Call (.Name "range" p) [a, b] [] pos) (iRngW ta) := by
  refine ⟨fun pins s σ H R I h => ?_⟩
  refine Call_ (ld_blt I hg hm boot_range (PyProof.Rows.callWith_type1 (thn (ha.run pos pins s σ H _ I h) fun us s1 ⟨vs, H1, I1, r1, q1⟩ => ?_) (by rw [hs, hs2]) (by rw [hs2]; rfl)))
  obtain ⟨i, j, rfl, q⟩ := q1
  cases r1 with
  | cons r rr =>
    cases rr with
    | cons r' rr =>
      cases rr
      obtain ⟨t, rfl⟩ := r
      obtain ⟨t', rfl⟩ := r'
      exact call_range_2 (range_itW I1 q)
theorem di_r2W {tg a b : Expr} {f f' : DE G} {p : Pos} (hg : Gl X "range") (hm : X.mg "range" = none) (ha : PE X a (liftE X.K Γ W f)) (hb : PE X b (liftE X.K Γ W f')) (hs : starEach [a, b] X.env = [(false, eval a X.env), (false, eval b X.env)] := by rfl)
    (hs2 : starEach [b] X.env = [(false, eval b X.env)] := by rfl) : PI X tg (.Call (.Name "range" p) [a, b] [] pos) (liftI X.K Γ W (iR2W f f')) :=
  (pi_rangeW hg hm (pa_cons ha (pa_cons hb pa_nil hs2) (by rw [hs, hs2])) hs hs2).imp fun σ H P ⟨C, l, g, R, ex, q, r, h, k, kx⟩ => by
    refine ⟨C, l, g, R, ex, _, r, h, fun x H1 R1 d l1 g1 s1 r1 z1 h1 => ?_, kx⟩
    refine ⟨C, l1, g1, R1, ex, _, r1, h1, fun y H2 R2 e l2 g2 s2 r2 z2 h2 => ?_, kx.mono s1⟩
    show ∃ i j : Int, [x, y] = [.int i, .int j] ∧ _
    split at h2
    · cases z1
      cases z2
      exact ⟨_, _, rfl, k _ H2 R2 _ l2 g2 (s1.trans s2) r2 (fun _ => wk_rng _ _) h2⟩
    · exact h2.elim
end
section
variable {X : Cx} {W : WX} {pos : Pos} {a : Expr} {f : DE Gm} {p : Pos}
theorem m_sum (hc : X.calm = true) (hg : Gl X "sum") (hm : X.mg "sum" = none) (ha : PE X a (liftE X.K (gint X.K) W f)) (he : starEach [a] X.env = (false, eval a X.env) :: starEach [] X.env := by rfl) : PE X (.Call (.Name "sum" p) [a] [] pos) (liftE X.K (gint X.K) W (mSum f)) :=
  (pe_callB (cr_sum hc) hg hm (by decide +kernel : bootBuiltins "sum" = some (.builtin "sum")) (pa_cons ha pa_nil he) (he := he)).imp fun σ H Q ⟨C, l, g, R, ex, q, r, h, k, kx⟩ => by
    refine ⟨C, l, g, R, ex, _, r, h, fun x H1 R1 d l1 g1 s1 r1 z1 h1 => ?_, kx⟩
    split at h1
    · obtain ⟨ns, hx, hq⟩ := h1
      cases z1
      obtain ⟨vs, hv, zv⟩ := r1.mut hx
      rw [zv.ints] at hv
      exact ⟨_, ns, rfl, SqL.of hv, k _ H1 R1 _ l1 g1 s1 r1 (.int _) hq⟩
    · exact h1.elim
/-- name = [..], a list to be changed from many places -/
theorem ds_setCM {i : Nat} {y : Str} {py spos : Pos} {elt tg iter : Expr} {ifs : List Expr} {scope : Scope} {own : List (Str × Nat)} {it : DI Gm} {t : Tg} {c : DT Gm} {e : DE Gm} {ws : List Nat} (hc : X.calm = true) (hN : X.N.Nodup) (hy : X.N[i]? = some y) (hyl : X.env.scope.names.lookup y = some .local)
    (hsw : swapsWith (.ListComp elt [⟨tg, iter, ifs, 0⟩] scope pos) (some (.Name y py)) spos.line X.env = pure true) (hi : PI X tg iter (liftI X.K (gint X.K) W it)) (ok : BlkOk X.N X.env.scope scope own)
    (hg : ∀ (s : Shared) (H : Hp) (C : Addr) (cl : List (Str × Addr)) (fp : List Addr), PG (X.blk s H scope (compEnvC scope cl C X.env) fp) tg (liftG X.K (gint X.K) ws t))
    (ht : ∀ (s : Shared) (H : Hp) (C : Addr) (cl : List (Str × Addr)) (fp : List Addr), PTs (X.blk s H scope (compEnvC scope cl C X.env) fp) ifs (liftT X.K (gint X.K) W0 c))
    (he : ∀ (s : Shared) (H : Hp) (C : Addr) (cl : List (Str × Addr)) (fp : List Addr), PE (X.blk s H scope (compEnvC scope cl C X.env) fp) elt (liftE X.K (gint X.K) W0 e)) (hw : ∀ j ∈ ws, j ∈ own.map (·.2)) (hs : ∀ x, foldedSetIterable iter X.env x = pure x := by intro _; rfl) :
    PS X (.Assign [.Name y py] (.ListComp elt [⟨tg, iter, ifs, 0⟩] scope pos) spos) (liftS X.K (gint X.K) W (sSet i (mNew (dComp it t c e (own.map (·.2)))))) :=
  (ps_setLc hc hN hy hyl hsw hi ok hg ht he hs).imp fun _ _ _ h => set_run (fun σ H Q z => comp_run hw (m_new_run z)) h
end
section
variable {G : Type} {Γ : GInt G} {X : Cx} {W : WX} {pos : Pos}
theorem par_run {K : Fg} {i j : Nat} {fa fb : DE G} {D : Ends} {σ : L2.St} {H : Hp} (h : liftS K Γ W (sTgt (gTp 2 (gsCons (gNm i) (gsCons (gNm j) gsNil))) (dTup (aCons fa (aCons fb aNil)))) D σ H) : tPar i j (liftA K Γ W (aCons fa (aCons fb aNil))) D σ H := by
  obtain ⟨C, l, g, R, ex, E, r, h, k1, k2, k3, k4, kx⟩ := h
  refine ⟨C, l, g, R, ex, fun ds l1 g1 => ds.length ≤ LIM ∧ gTp 2 (gsCons (gNm i) (gsCons (gNm j) gsNil)) (.tup ds) l1 fun l2 => E.nx l2 g1, r, h, fun vs H1 R1 ds l1 g1 s1 r1 z1 h1 => ?_, kx σ⟩
  obtain ⟨_, h2, h1⟩ := h1
  cases z1 with
  | nil => cases h2
  | cons zv z2 =>
    cases z2 with
    | nil => cases h2
    | cons zw z3 =>
      cases z3 with
      | cons _ _ => cases h2
      | nil =>
        obtain ⟨_, h1⟩ := h1
        exact ⟨_, _, rfl, k1 _ H1 R1 _ g1 s1 ((r1.setV zv).setV zw) h1⟩
theorem ds_par {i j : Nat} {x y : Str} {a b : Expr} {fa fb : DE G} {px py pt : Pos} {kt k2 pt2} (hc : X.calm = true) (hN : X.N.Nodup) (hi : X.N[i]? = some x) (hj : X.N[j]? = some y) (hij : i ≠ j)
    (hx : X.env.scope.names.lookup x = some .local) (hy : X.env.scope.names.lookup y = some .local) (ha : PA X [a, b] (liftA X.K Γ W (aCons fa (aCons fb aNil))))
    (hw : swappedStores [.Tuple [.Name x px, .Name y py] kt pt] (.Tuple [a, b] k2 pt2) X.env = pure (some [x, y]))
    (hs : swapsWithSole [.Tuple [.Name x px, .Name y py] kt pt] (.Tuple [a, b] k2 pt2) pos.line X.env = pure false := by rfl) :
    PS X (.Assign [.Tuple [.Name x px, .Name y py] kt pt] (.Tuple [a, b] k2 pt2) pos) (liftS X.K Γ W (sTgt (gTp 2 (gsCons (gNm i) (gsCons (gNm j) gsNil))) (dTup (aCons fa (aCons fb aNil))))) :=
  (ps_par hc hN hi hj hij hx hy ha hw hs).imp fun _ _ _ h => par_run h
end
/-! ### a or 0 -/
theorem d_or0 {G : Type} {Γ : GInt G} {X : Cx} {W : WX} {a b : Expr} {rest : List Expr} {pos : Pos} {f : DE G} (ha : PE X a (liftE X.K Γ W f)) (hb : PE X (.BoolOp .Or (b :: rest) pos) (liftE X.K Γ W (dC (.int 0)))) :
    PE X (.BoolOp .Or (a :: b :: rest) pos) (liftE X.K Γ W (dOr0 f)) := (pe_orT ha hb).imp fun σ H Q h => by
  obtain ⟨C, l, g, R, ex, q, rl, h, k, kx⟩ := h
  refine ⟨C, l, g, R, ex, _, rl, h, fun x H1 R1 d l1 g1 s1 r1 z1 h1 => ?_, kx⟩
  split at h1
  · cases z1
    exact ⟨false, rfl, C, l1, g1, R1, ex, _, r1, (h1 : dC (.int 0) ex l1 g1 q), fun v H2 R2 b l2 g2 s2 r2 z2 h2 => k v H2 R2 b l2 g2 (s1.trans s2) r2 z2 h2, kx.mono s1⟩
  · rename_i i
    cases z1
    by_cases e : i = 0
    · subst e
      exact ⟨false, rfl, C, l1, g1, R1, ex, _, r1, (h1 : dC (.int 0) ex l1 g1 q), fun v H2 R2 b l2 g2 s2 r2 z2 h2 => k v H2 R2 b l2 g2 (s1.trans s2) r2 z2 h2, kx.mono s1⟩
    · refine ⟨i != 0, rfl, ?_⟩
      rw [if_pos (by simpa using e)]
      exact k _ H1 R1 _ l1 g1 s1 r1 (.int _) h1
  · exact h1.elim
end Lk

set_option autoImplicit false
set_option linter.all false
set_option Elab.async false
set_option maxRecDepth 100000
set_option maxHeartbeats 2000000
namespace Lk
open PySem PySem.Spec PyProof.Rows L2 Dx
/-! ### the head's facts, and tuples of whole numbers among the module's names -/
/-- what isinstance asks of an exception's class -/
structure XcOk (K : Fg) (D : Addr) : Prop where
  hc : (PySem.W.clsIn K D).isSome = true
  hg : PySem.W.findIn K (.ref D) "__getattribute__" = some (some (.builtin "BaseException.__getattribute__"))
  hk : PySem.W.findIn K (.ref D) "__getattr__" = some none
  hs : PySem.W.subIn K (.ref D) (.type "BaseException") = some true
  ha : PySem.W.findIn K (.ref D) "__class__" = some (some (.builtin "object.__class__"))
  hn : PySem.W.specialIn K (.builtin "object.__class__") "__get__" = some (some (.builtin "getset_descriptor.__get__"))
  ht : PySem.W.takesIn K (.builtin "object.__class__") = some true
  hm : PySem.W.mroIn K D (.type "object") = some true
  hd : PySem.W.hasDictIn K D = true
def eqVV (a b : Option (Option Value)) : Bool := decide (a = b)
def eqOB (a b : Option Bool) : Bool := decide (a = b)
def xcB (K : Fg) (D : Addr) : Bool := (PySem.W.clsIn K D).isSome && (eqVV (PySem.W.findIn K (.ref D) "__getattribute__") (some (some (.builtin "BaseException.__getattribute__"))) && (eqVV (PySem.W.findIn K (.ref D) "__getattr__") (some none) &&
  (eqOB (PySem.W.subIn K (.ref D) (.type "BaseException")) (some true) && (eqVV (PySem.W.findIn K (.ref D) "__class__") (some (some (.builtin "object.__class__"))) && (eqVV (PySem.W.specialIn K (.builtin "object.__class__") "__get__") (some (some (.builtin "getset_descriptor.__get__"))) &&
  (eqOB (PySem.W.takesIn K (.builtin "object.__class__")) (some true) && (eqOB (PySem.W.mroIn K D (.type "object")) (some true) && PySem.W.hasDictIn K D)))))))
theorem xcB_ok {K : Fg} {D : Addr} (h : xcB K D = true) : XcOk K D := by
  unfold xcB at h
  simp only [Bool.and_eq_true] at h
  obtain ⟨h1, h2, h3, h4, h5, h6, h7, h8, h9⟩ := h
  exact ⟨h1, of_decide_eq_true h2, of_decide_eq_true h3, of_decide_eq_true h4, of_decide_eq_true h5, of_decide_eq_true h6, of_decide_eq_true h7, of_decide_eq_true h8, h9⟩
inductive Tf where
  | tup (x : Str) (ns : List Int)
  | exs (cs hs fs : List String)
  | isi (x : String)
  | rav (file : Str) (c : String) (fl qual : Str)
  | exv (cs : List String)
  | sys
/-- the class object of an own error -/
def oxB (K : Fg) (C : Addr) : Bool := match K.lookup C with
  | some ⟨.type "type", _, .cls cd, sl⟩ => (match cd.mro, sl.toList with
    | .ref C' :: bm, [_, _, _, _, some (.builtin n), _] => decide (C' = C) && (decide (n = "ValueError.__new__") && (!cd.hasDel && (cd.hasDict && PySem.HandSPX.refsVE bm)))
    | _, _ => false)
  | _ => false
theorem oxB_ok {K : Fg} {C : Addr} (h : oxB K C = true) : ∃ nm q N bs bm sn sub ab col dd k0 k1 k2 k3 k5, K.lookup C = some (excClassObj nm q C N bs bm true sn sub ab col dd k0 k1 k2 k3 k5 "ValueError.__new__") ∧ PySem.HandSPX.refsVE bm = true := by
  unfold oxB at h
  split at h
  · rename_i dd cd sl ho
    split at h
    · rename_i C' bm k0 k1 k2 k3 n k5 e1 e2
      simp only [Bool.and_eq_true, decide_eq_true_eq, Bool.not_eq_true'] at h
      obtain ⟨rfl, rfl, h3, h4, h5⟩ := h
      obtain ⟨nm, bs, mro, ns, qn, hd, sn, sub, ab, col, del⟩ := cd
      dsimp only at e1 h3 h4
      subst e1 h3 h4
      obtain ⟨l⟩ := sl
      have e2 : l = _ := e2
      subst e2
      exact ⟨nm, qn, ns, bs, bm, sn, sub, ab, col, dd, k0, k1, k2, k3, k5, ho, h5⟩
    · cases h
  · cases h
/-- what closes over the class, and where the code stands -/
def cloB (K : Fg) (C f : Addr) (file qual : Str) : Bool := match K.lookup f with
  | some ⟨_, _, .func fd, _⟩ => decide (fd.defaults = .none) && ((match fd.closure with
    | [(_, cc)] => (match K.lookup cc with
      | some ⟨_, _, .cell (some (.ref D)), _⟩ => decide (D = C)
      | _ => false)
    | _ => false) && (match fd.code with
    | .ref cda => PySem.W.codeIn K (.ref cda) qual && (match K.lookup cda with
      | some ⟨_, _, .fields vs, _⟩ => (match (vs[2]? : Option Value) with
        | some (.str fi _) => file == fi
        | _ => false)
      | _ => false)
    | _ => false))
  | _ => false
theorem cloB_ok {K : Fg} {C f : Addr} {file qual : Str} (h : cloB K C f file qual = true) : ∃ oc od osl fd x cc cda, K.lookup f = some ⟨oc, od, .func fd, osl⟩ ∧ fd.defaults = .none ∧ fd.closure = [(x, cc)] ∧ fd.code = .ref cda ∧ (∃ cl cld csl, K.lookup cc = some ⟨cl, cld, .cell (some (.ref C)), csl⟩) ∧ PySem.W.codeIn K (.ref cda) qual = true ∧
    ∃ ccl cdd vs ccs fi tf, K.lookup cda = some ⟨ccl, cdd, .fields vs, ccs⟩ ∧ vs[2]? = some (.str fi tf) ∧ (file == fi) = true := by
  unfold cloB at h
  split at h
  · rename_i oc od fd osl hf
    obtain ⟨h0, h⟩ := He.ba h
    obtain ⟨h1, h2⟩ := He.ba h
    split at h1
    · rename_i x cc ecl
      split at h1
      · rename_i cl cld D csl hcc
        have e := of_decide_eq_true h1
        subst e
        split at h2
        · rename_i cda eco
          obtain ⟨h3, h4⟩ := He.ba h2
          split at h4
          · rename_i ccl cdd vs ccs hcd
            split at h4
            · rename_i fi tf hv
              exact ⟨oc, od, osl, fd, x, cc, cda, hf, of_decide_eq_true h0, ecl, eco, ⟨cl, cld, csl, hcc⟩, h3, ccl, cdd, vs, ccs, fi, tf, hcd, hv, h4⟩
            · cases h4
          · cases h4
        · cases h2
      · cases h1
    · cases h1
  · cases h
def ravB (K : Fg) (file : Str) (c : String) (fl qual : Str) : Bool := oxB K (clsA K c) && (He.eqO (PySem.W.findIn K (.ref (clsA K c)) "__setattr__") (some (some (.builtin "object.__setattr__"))) && (decide (PySem.W.subIn K (.ref (clsA K c)) (.type "BaseException") = some true) && (decide (PySem.W.typeIn K (.ref (clsA K c)) = some (.type "type")) && (PySem.W.keepIn K (.ref (clsA K c)) &&
  (cloB K (clsA K c) (He.ma K (He.ga K c) "__init__") file qual && (He.eqO (PySem.W.findIn K (.ref (clsA K c)) "__init__") (some (some (.ref (He.ma K (He.ga K c) "__init__")))) && (decide (PySem.W.typeIn K (.ref (He.ma K (He.ga K c) "__init__")) = some (.type "function")) && ((PySem.W.clsIn K (clsA K c)).isSome && (decide (PySem.W.mroIn K (clsA K c) (.ref (clsA K c)) = some true) &&
  (He.eqO (PySem.W.ks_superIn K (clsA K c) (clsA K c) "__init__") (some (some (.builtin "ValueError.__init__"))) && (He.eqO (PySem.W.nsIn K PySem.cStatics "thirdparty.any") (some none) && (decide (PySem.W.subIn K (.ref (clsA K c)) (.type "ValueError") = some true) && He.eqO (PySem.W.findIn K (.ref (clsA K c)) fl) (some none)))))))))))))
/-- an own error's __init__, by its text -/
abbrev FnC : Type := Option (Str × Str × Arguments × FuncBody × Scope × Addr × List Str × Addr)
def fnC (K : Fg) (x : Str) : FnC := match K.lookup (He.ma K (He.ga K x) "__init__") with
  | some ⟨_, _, .func fd, _⟩ => some (fd.name, fd.qualname, fd.params, fd.body, fd.scope, fd.globals, fd.closure.map (·.1), fd.builtins)
  | _ => none
structure DefX where
  cls : Str
  qual : Str
  params : Arguments
  body : List Stmt
  scope : Scope
def DefX.val (d : DefX) : FnC := some ("__init__", d.qual, d.params, .stmts d.body, d.scope, mainGlobals, ["__class__"], builtinsNs)
structure Tfs where
  l : List Tf
  xs : List DefX := []
def isiB (K : Fg) (C : Addr) : Bool := He.eqO (PySem.W.findIn K (.ref C) "__class__") (some (some (.builtin "object.__class__"))) && (He.eqO (PySem.W.specialIn K (.builtin "object.__class__") "__get__") (some (some (.builtin "getset_descriptor.__get__"))) &&
  (decide (PySem.W.takesIn K (.builtin "object.__class__") = some true) && (decide (PySem.W.mroIn K C (.type "object") = some true) && ((["int", "bool", "str", "list", "tuple", "dict"].all fun n => decide (PySem.W.kitOne K (.ref C) (.type n) = some false)) && (He.eqO (PySem.W.findIn K (.ref C) "__eq__") (some (some (.ref (eqA K)))) && (He.eqO (PySem.W.findIn K (.ref C) "__ne__") (some (some (.builtin "object.__ne__"))) && (decide (PySem.W.kitOne K (.ref C) (.ref (clsA K "Track")) = some true) && PySem.W.isFn K (.ref (eqA K)))))))))
theorem isiB_ok {K : Fg} {C : Addr} (h : isiB K C = true) : IsiOk K C := by
  obtain ⟨h1, h⟩ := He.ba h
  obtain ⟨h2, h⟩ := He.ba h
  obtain ⟨h3, h⟩ := He.ba h
  obtain ⟨h4, h⟩ := He.ba h
  obtain ⟨h5, h⟩ := He.ba h
  obtain ⟨h6, h⟩ := He.ba h
  obtain ⟨h7, h⟩ := He.ba h
  obtain ⟨h8, h9⟩ := He.ba h
  exact ⟨He.eqO_ok h1, He.eqO_ok h2, of_decide_eq_true h3, of_decide_eq_true h4, fun n hn => of_decide_eq_true (List.all_eq_true.mp h5 n hn), He.eqO_ok h6, He.eqO_ok h7, of_decide_eq_true h8, h9⟩
def tfB (K : Fg) : Tf → Bool
  | .isi x => isiB K (clsA K x)
  | .rav file c fl qual => ravB K file c fl qual
  | .sys => (K.lookup PySem.sysModules).isSome
  | .exv cs => cs.all fun c => decide (PySem.W.kitOne K (.ref (clsA K c)) (.type "ValueError") = some true)
  | .tup x ns => He.tupB K x (ns.map He.Dv.int) && He.eqO (PySem.W.nsIn K mainGlobals x) (some (some (.ref (He.ga K x))))
  | .exs cs hs fs => cs.all fun c => xcB K (clsA K c) && ((fs.all fun f => eqVV (PySem.W.findIn K (.ref (clsA K c)) (Str.ofString f)) (some none)) && hs.all fun h => eqOB (PySem.W.exmOne K (.ref (clsA K c)) (.ref (clsA K h))) (some (xSub c h)) && eqOB (PySem.W.kitOne K (.ref (clsA K c)) (.ref (clsA K h))) (some (xSub c h)))
/-- what the written part says of the classes cs of exceptions, asked for the classes hs -/
def XsOk (K : Fg) (cs hs fs : List String) : Prop := ∀ c ∈ cs, XcOk K (clsA K c) ∧ (∀ f ∈ fs, PySem.W.findIn K (.ref (clsA K c)) (Str.ofString f) = some none) ∧ ∀ h ∈ hs, PySem.W.exmOne K (.ref (clsA K c)) (.ref (clsA K h)) = some (xSub c h) ∧ PySem.W.kitOne K (.ref (clsA K c)) (.ref (clsA K h)) = some (xSub c h)
theorem exs_ok {K : Fg} {cs hs fs : List String} (h : tfB K (.exs cs hs fs) = true) : XsOk K cs hs fs := fun c hc => by
  have h1 := List.all_eq_true.mp h c hc
  obtain ⟨h2, h3⟩ := He.ba h1
  obtain ⟨h5, h3⟩ := He.ba h3
  refine ⟨xcB_ok h2, fun f hf => of_decide_eq_true (List.all_eq_true.mp h5 f hf), fun k hk => ?_⟩
  obtain ⟨h4, h5⟩ := He.ba (List.all_eq_true.mp h3 k hk)
  exact ⟨of_decide_eq_true h4, of_decide_eq_true h5⟩
abbrev AlX : Type := He.AlD × Bool × List FnC
def obsX (fa : List He.Fa) (fn : List He.DefD) (ts : Tfs) (K : Fg) : AlX := (He.obsD fa fn K, ts.l.all (tfB K), ts.xs.map fun d => fnC K d.cls)
def valX (fn : List He.DefD) (ts : Tfs) : AlX := (He.valD fn, true, ts.xs.map DefX.val)
def SaysX (fa : List He.Fa) (fn : List He.DefD) (ts : Tfs) (K : Fg) : Prop := obsX fa fn ts K = valX fn ts
def obsXG (n : Nat) (fa : List He.Fa) (fn : List He.DefD) (ts : Tfs) (g : Addr → Option Obj) : AlX := obsX fa fn ts (He.frG g (PySem.cStatics :: PySem.sysModules :: He.asD g n))
def hookX (n : Nat) (fa : List He.Fa) (fn : List He.DefD) (ts : Tfs) : PySem.W.Hook where
  α := AlX
  obs := fun s => obsXG n fa fn ts s.heap.get?
  val := fun _ => valX fn ts
  says := fun _ h => ∃ K : Fg, K.In h ∧ SaysX fa fn ts K
  of := fun _ _ e => ⟨_, He.frG_in, e⟩
  keeps := fun _ _ _ ⟨K, hK, c⟩ k => ⟨K, PySem.W.Frag.In.keeps hK k, c⟩
theorem obsXG_eq {n : Nat} {fa : List He.Fa} {fn : List He.DefD} {ts : Tfs} {g : Addr → Option Obj} {s : Shared} (h : ∀ a, g a = s.heap.get? a) : obsXG n fa fn ts g = (hookX n fa fn ts).obs s := by
  have e : g = s.heap.get? := funext h
  rw [e] <;> rfl
/-- what the head says, at the heap's names -/
def SayX (fa : List He.Fa) (fn : List He.DefD) (ts : Tfs) (K : Fg) (mg : Str → Option Value) : Prop := ∃ h : Heap, K.In h ∧ h.Ns mainGlobals mg ∧ SaysX fa fn ts K
section
variable {fa : List He.Fa} {fn : List He.DefD} {ts : Tfs} {K : Fg} {mg : Str → Option Value}
theorem SayX.S (S : SayX fa fn ts K mg) : Say fa fn K mg := by
  obtain ⟨h, X, G, c⟩ := S
  exact ⟨h, X, G, congrArg (fun z : AlX => z.1) c⟩
theorem SayX.fre (S : SayX fa fn ts K mg) (i : Nat) {x : Str} (h : fa[i]? = some (.free x) := by rfl) : mg x = none := S.S.fre i h
theorem SayX.glo (S : SayX fa fn ts K mg) (i : Nat) {x : Str} (h : fa[i]? = some (.glo x) := by rfl) : mg x = some (.ref (He.ga K x)) := S.S.glo i h
theorem SayX.int (S : SayX fa fn ts K mg) (i : Nat) {x : Str} {n : Int} (h : fa[i]? = some (.int x n) := by rfl) : ∃ t, mg x = some (.int n t) := S.S.int i h
theorem SayX.str (S : SayX fa fn ts K mg) (i : Nat) {x z : Str} (h : fa[i]? = some (.str x z) := by rfl) : ∃ t, mg x = some (.str z t) := S.S.str i h
theorem SayX.at_ (S : SayX fa fn ts K mg) (i : Nat) {f : He.Fa} (h : fa[i]? = some f := by rfl) : f.ok K = true := S.S.at_ i h
theorem SayX.fun_ (S : SayX fa fn ts K mg) (i : Nat) {d : He.DefD} (h : fn[i]? = some d := by rfl) : ∃ fd, FunD K d.name d.qual d.params d.body d.scope (d.dvs K) (d.kws K) (He.fAd K d.at_) fd := S.S.fun_ i h
theorem tup_kt {x : Str} {vs : List He.Dv} (h : He.tupB K x vs = true) : KT K (He.ga K x) (vs.map (He.Dv.v K)) := by
  rcases He.tupB_ok h noH with z | z
  · rcases z with z | ⟨_, z⟩ <;> cases z
  · exact z
theorem SayX.isi (S : SayX fa fn ts K mg) (i : Nat) {x : String} (h : ts.l[i]? = some (.isi x) := by rfl) : IsiOk K (clsA K x) := by
  obtain ⟨hp, X, G, c⟩ := S
  have c2 : ts.l.all (tfB K) = true := congrArg (fun z : AlX => z.2.1) c
  exact isiB_ok (List.all_eq_true.mp c2 _ (List.mem_of_getElem? h))
theorem SayX.ravB (S : SayX fa fn ts K mg) (i : Nat) {file : Str} {c : String} {fl qual : Str} (h : ts.l[i]? = some (.rav file c fl qual) := by rfl) : ravB K file c fl qual = true := by
  obtain ⟨hp, X, G, c⟩ := S
  have c2 : ts.l.all (tfB K) = true := congrArg (fun z : AlX => z.2.1) c
  exact List.all_eq_true.mp c2 _ (List.mem_of_getElem? h)
theorem SayX.exv (S : SayX fa fn ts K mg) (i : Nat) {cs : List String} (h : ts.l[i]? = some (.exv cs) := by rfl) : ∀ c ∈ cs, PySem.W.kitOne K (.ref (clsA K c)) (.type "ValueError") = some true := fun c hc => by
  obtain ⟨hp, X, G, c0⟩ := S
  have c2 : ts.l.all (tfB K) = true := congrArg (fun z : AlX => z.2.1) c0
  have h1 := List.all_eq_true.mp c2 _ (List.mem_of_getElem? h)
  exact of_decide_eq_true (List.all_eq_true.mp (show (cs.all fun c => decide (PySem.W.kitOne K (.ref (clsA K c)) (.type "ValueError") = some true)) = true from h1) c hc)
theorem SayX.sys (S : SayX fa fn ts K mg) (i : Nat) (h : ts.l[i]? = some .sys := by rfl) : ∃ o, K.lookup PySem.sysModules = some o := by
  obtain ⟨hp, X, G, c0⟩ := S
  have c2 : ts.l.all (tfB K) = true := congrArg (fun z : AlX => z.2.1) c0
  exact Option.isSome_iff_exists.mp (List.all_eq_true.mp c2 _ (List.mem_of_getElem? h))
theorem SayX.fnC (S : SayX fa fn ts K mg) (i : Nat) {d : DefX} (h : ts.xs[i]? = some d := by rfl) : fnC K d.cls = d.val := by
  obtain ⟨hp, X, G, c⟩ := S
  have e : (ts.xs.map fun d => Lk.fnC K d.cls) = ts.xs.map DefX.val := congrArg (fun z : AlX => z.2.2) c
  have e2 : (ts.xs.map fun d => Lk.fnC K d.cls)[i]? = (ts.xs.map DefX.val)[i]? := by rw [e]
  rw [List.getElem?_map, List.getElem?_map, h] at e2
  exact Option.some.inj e2
theorem SayX.tup (S : SayX fa fn ts K mg) (i : Nat) {x : Str} {ns : List Int} (h : ts.l[i]? = some (.tup x ns) := by rfl) : mg x = some (.ref (He.ga K x)) ∧ KT K (He.ga K x) (ns.map .int) := by
  obtain ⟨hp, X, G, c⟩ := S
  have c2 : ts.l.all (tfB K) = true := congrArg (fun z : AlX => z.2.1) c
  have c3 := List.all_eq_true.mp c2 _ (List.mem_of_getElem? h)
  obtain ⟨c4, c5⟩ := He.ba (show (He.tupB K x (ns.map He.Dv.int) && He.eqO (PySem.W.nsIn K mainGlobals x) (some (some (.ref (He.ga K x))))) = true from c3)
  refine ⟨PySem.W.mg_of X G (He.eqO_ok c5), ?_⟩
  have z := tup_kt c4
  rw [List.map_map] at z
  exact z
end
section
variable {X : Cx} {W : WX} {G : Type} {Γ : GInt G}
theorem ints_rep {K : Fg} {R : Hp} : ∀ ns : List Int, Reps K R (ns.map V.int) (ns.map D.int)
  | [] => .nil
  | n :: ns => .cons (.int n) (ints_rep ns)
theorem de_gtup {x : Str} {ns : List Int} {pos : Pos} (hg : Gl X x) (hm : X.mg x = some (.ref (He.ga X.K x)) ∧ KT X.K (He.ga X.K x) (ns.map .int)) (hd : (x == ("__debug__" : Str)) = false := by decide) : PE X (.Name x pos) (liftE X.K Γ W (dC (.kt (ns.map .int)))) :=
  de_c (pe_glob hg hm.1 (v := .ref (He.ga X.K x)) rfl hd) fun R => .kt hm.2 (ints_rep ns)
theorem SayX.exs {fa : List He.Fa} {fn : List He.DefD} {ts : Tfs} {K : Fg} {mg : Str → Option Value} (S : SayX fa fn ts K mg) (i : Nat) {cs hs fs : List String} (h : ts.l[i]? = some (.exs cs hs fs) := by rfl) : XsOk K cs hs fs := by
  obtain ⟨hp, X, G, c⟩ := S
  have c2 : ts.l.all (tfB K) = true := congrArg (fun z : AlX => z.2.1) c
  exact exs_ok (List.all_eq_true.mp c2 _ (List.mem_of_getElem? h))
/-! ### a list the other way about -/
theorem reps_rev {K : Fg} {R : Hp} : ∀ {vs : List V} {ds : List D}, Reps K R vs ds → Reps K R vs.reverse ds.reverse
  | _, _, .nil => .nil
  | _, _, .cons a q => by
    rw [List.reverse_cons, List.reverse_cons]
    exact (reps_rev q).app (.one a)
theorem d_revL {e : Expr} {f : DE G} {k : Nat} {p1 p2 p3 pos : Pos} (he : PE X e (liftE X.K Γ W f)) : PE X (.Subscript e (.Slice none none (some (.UnaryOp .USub (.Constant (.int 1) k p1) p2)) p3) pos) (liftF X.K Γ W (dRev f)) :=
  (pe_revL he).imp fun σ H Q ⟨C, l, g, R, ex, q, r, h, k, kx⟩ => by
    refine ⟨C, l, g, R, ex, _, r, h, fun x H1 R1 d l1 g1 s1 r1 z1 h1 => ?_, kx⟩
    split at h1
    · cases z1 with
      | lst e zs =>
        refine ⟨_, _, rfl, SqL.of (r1.sub _ _ e), fun p hp => ?_⟩
        obtain ⟨r3, z3⟩ := r1.newLF hp (reps_rev zs)
        obtain ⟨n1, n2, n3, n4⟩ := r1.newF hp
        exact k p _ R1 _ l1 g1 s1 r3 z3 n1 n2 n3 n4 h1
    · exact h1.elim
/-! ### three names at once -/
theorem par3_run {K : Fg} {i j m : Nat} {fa fb fc : DE G} {D : Ends} {σ : L2.St} {H : Hp} (h : liftS K Γ W (sTgt (gTp 3 (gsCons (gNm i) (gsCons (gNm j) (gsCons (gNm m) gsNil)))) (dTup (aCons fa (aCons fb (aCons fc aNil))))) D σ H) : tPar3 i j m (liftA K Γ W (aCons fa (aCons fb (aCons fc aNil)))) D σ H := by
  obtain ⟨C, l, g, R, ex, E, r, h, k1, k2, k3, k4, kx⟩ := h
  refine ⟨C, l, g, R, ex, fun ds l1 g1 => ds.length ≤ LIM ∧ gTp 3 (gsCons (gNm i) (gsCons (gNm j) (gsCons (gNm m) gsNil))) (.tup ds) l1 fun l2 => E.nx l2 g1, r, h, fun vs H1 R1 ds l1 g1 s1 r1 z1 h1 => ?_, kx σ⟩
  obtain ⟨_, h2, h1⟩ := h1
  cases z1 with
  | nil => cases h2
  | cons zv z2 =>
    cases z2 with
    | nil => cases h2
    | cons zw z3 =>
      cases z3 with
      | nil => cases h2
      | cons zx z4 =>
        cases z4 with
        | cons _ _ => cases h2
        | nil =>
          obtain ⟨_, h1⟩ := h1
          exact ⟨_, _, _, rfl, k1 _ H1 R1 _ g1 s1 (((r1.setV zv).setV zw).setV zx) h1⟩
theorem ds_par3 {i j m : Nat} {x y z : Str} {a b c : Expr} {fa fb fc : DE G} {px py pz pt pos : Pos} {kt k2 pt2} (hc : X.calm = true) (hN : X.N.Nodup) (hi : X.N[i]? = some x) (hj : X.N[j]? = some y) (hl : X.N[m]? = some z) (hij : i ≠ j) (hil : i ≠ m) (hjl : j ≠ m)
    (hx : X.env.scope.names.lookup x = some .local) (hy : X.env.scope.names.lookup y = some .local) (hz : X.env.scope.names.lookup z = some .local) (ha : PA X [a, b, c] (liftA X.K Γ W (aCons fa (aCons fb (aCons fc aNil)))))
    (hw : swappedStores [.Tuple [.Name x px, .Name y py, .Name z pz] kt pt] (.Tuple [a, b, c] k2 pt2) X.env = pure (some [x, y, z]))
    (hs : swapsWithSole [.Tuple [.Name x px, .Name y py, .Name z pz] kt pt] (.Tuple [a, b, c] k2 pt2) pos.line X.env = pure false := by rfl) :
    PS X (.Assign [.Tuple [.Name x px, .Name y py, .Name z pz] kt pt] (.Tuple [a, b, c] k2 pt2) pos) (liftS X.K Γ W (sTgt (gTp 3 (gsCons (gNm i) (gsCons (gNm j) (gsCons (gNm m) gsNil)))) (dTup (aCons fa (aCons fb (aCons fc aNil)))))) :=
  (ps_par3 hc hN hi hj hl hij hil hjl hx hy hz ha hw hs).imp fun _ _ _ h => par3_run h
end
end Lk

set_option autoImplicit false
set_option linter.all false
set_option Elab.async false
set_option maxRecDepth 100000
set_option maxHeartbeats 2000000
namespace Lk
open PySem PySem.Spec PyProof.Rows L2 Dx
section
variable {G : Type} {Γ : GInt G} {X : Cx} {W : WX} {K : Fg} {pos : Pos} {σ : L2.St}
theorem wipeL_in {l : L} {i : Nat} : ∀ {vs : List Nat}, i ∈ vs → (wipeL l vs)[i]? = if i < l.length then some .no else none
  | v :: vs, h => by
    unfold wipeL
    by_cases e : v = i
    · subst e
      rw [List.getElem?_set, if_pos rfl, wipeL_len]
    · rw [List.getElem?_set_ne e]
      rcases List.mem_cons.mp h with z | z
      · exact absurd z.symm e
      · exact wipeL_in z
theorem wipeL_sub {l : L} {vs vs1 : List Nat} (h : ∀ i ∈ vs1, i ∈ vs) : wipeL (wipeL l vs1) vs = wipeL l vs := by
  refine List.ext_getElem? fun j => ?_
  by_cases hj : j ∈ vs
  · rw [wipeL_in hj, wipeL_in hj, wipeL_len]
  · rw [wipeL_out hj, wipeL_out hj, wipeL_out fun z => hj (h j z)]
theorem wipe_sub {vs vs1 : List Nat} (h : ∀ i ∈ vs1, i ∈ vs) : wipe (wipe σ vs1) vs = wipe σ vs := by
  refine List.ext_getElem? fun j => ?_
  by_cases hj : j ∈ vs
  · rw [wipe_in hj, wipe_in hj, wipe_length]
  · rw [wipe_out hj, wipe_out hj, wipe_out fun z => hj (h j z)]
theorem comp2_run {it it1 : DI G} {t t1 : Tg} {c c1 : DT G} {e : DE G} {vs vs1 ws ws1 : List Nat} (hw : ∀ j ∈ ws, j ∈ vs) (hw1 : ∀ j ∈ ws1, j ∈ vs1) (hv : ∀ j ∈ vs1, j ∈ vs) {H : Hp} {Q : VK} (h : liftF K Γ W (dComp2 it t c it1 t1 c1 e vs vs1) σ H Q) :
    tLc2 (liftI K Γ W it) (liftG K Γ ws t) (liftT K Γ W0 c) (liftI K Γ W0 it1) (liftG K Γ ws1 t1) (liftT K Γ W0 c1) (liftE K Γ W0 e) vs vs1 σ H Q := by
  obtain ⟨C, l, g, R, ex, q, rl, h, k, kx⟩ := h
  refine ⟨C, l, g, R, ex, _, rl, h, fun J H1 R1 ds l1 g1 s1 r1 wk h1 => ?_, kx⟩
  obtain ⟨no, I, i0, step, fin⟩ := h1
  intro D hD
  have nD : R1 D = none := r1.sub.no0 hD
  refine ⟨fun i m H => m = ds.length - i ∧ i ≤ ds.length ∧ ∃ g2 R2 acc accD, Sub R1 R2 ∧ Rel K Γ (fxD C R1 D (.lst acc)) (wipeL l1 vs) g2 (wipe σ vs) R2 H ∧ Reps K R2 acc accD ∧ I i accD g2,
    ⟨_, rfl, Nat.zero_le _, g1, R1, [], [], Sub.refl _, (r1.wipe_ vs).begin hD, .nil, i0⟩, ?_⟩
  rintro i m H2 ⟨rfl, hi, g2, R2, acc, accD, s2, r2, za, hI⟩
  have w := wk (fxD C R1 D (.lst acc)) R2 H2 _ g2 _ s2 r2 i
  by_cases hlt : i < ds.length
  · refine .inr ⟨(w.1 hlt).1, fun H' => ∃ g2 R2 acc accD, Sub R1 R2 ∧ Rel K Γ (fxD C R1 D (.lst acc)) (wipeL l1 vs) g2 (wipe σ vs) R2 H' ∧ Reps K R2 acc accD ∧ I (i + 1) accD g2, fun H' z => ⟨_, by omega, rfl, hlt, z⟩, fun x H' y => ?_⟩
    obtain ⟨R3, s3, r3, d, hd, z⟩ := (w.1 hlt).2 x H' y
    refine ⟨_, _, g2, R3, d, _, r3, z, step i d accD g2 hd hI, fun σ' l' out r' h' => ?_⟩
    obtain ⟨hwl, h'⟩ := h'
    have hws : wipe σ' vs = wipe σ vs := by
      refine wipe_ext ?_ fun j hj => out j fun z => hj (hw j z)
      rw [← r'.len, ← wipeL_len l' vs, hwl, wipeL_len, r1.len]
    refine ⟨hws, _, l', g2, R3, noX, _, r', h', fun H4 R4 b l4 g4 s4 r4 h4 => ?_, fun _ _ _ _ _ _ _ _ _ _ z => z⟩
    obtain ⟨hw4, h4⟩ := h4
    cases b with
    | true =>
      refine ⟨_, l4, g4, R4, noX, _, r4, h4, fun J1 H5 R5 ys l5 g5 s5 r5 wk1 h5 => ?_, fun _ _ _ _ _ _ _ _ _ _ z => z⟩
      obtain ⟨hw5, JJ, j0, stepJ, finJ⟩ := h5
      refine ⟨fun j k H => k = ys.length - j ∧ j ≤ ys.length ∧ ∃ g6 R6 acc6 accD6, Sub R5 R6 ∧ Rel K Γ (fxD C R1 D (.lst acc6)) (wipeL l5 vs1) g6 (wipe σ' vs1) R6 H ∧ Reps K R6 acc6 accD6 ∧ JJ j accD6 g6,
        ⟨_, rfl, Nat.zero_le _, g5, R5, acc, accD, Sub.refl _, r5.wipe_ vs1, za.mono (s3.trans (s4.trans s5)), j0⟩, ?_⟩
      rintro j k H6 ⟨rfl, hj, g6, R6, acc6, accD6, s6, r6, za6, hJ⟩
      have w1 := wk1 (fxD C R1 D (.lst acc6)) R6 H6 _ g6 _ s6 r6 j
      by_cases hlt1 : j < ys.length
      · refine .inr ⟨(w1.1 hlt1).1, fun H' => ∃ g6 R6 acc6 accD6, Sub R5 R6 ∧ Rel K Γ (fxD C R1 D (.lst acc6)) (wipeL l5 vs1) g6 (wipe σ' vs1) R6 H' ∧ Reps K R6 acc6 accD6 ∧ JJ (j + 1) accD6 g6, fun H' z => ⟨_, by omega, rfl, hlt1, z⟩, fun x H' y => ?_⟩
        obtain ⟨R7, s7, r7, d1, hd1, z1⟩ := (w1.1 hlt1).2 x H' y
        refine ⟨_, _, g6, R7, d1, _, r7, z1, stepJ j d1 accD6 g6 hd1 hJ, fun σ3 l7 out1 r7' h7 => ?_⟩
        obtain ⟨hwl7, h7⟩ := h7
        have hws7 : wipe σ3 vs1 = wipe σ' vs1 := by
          refine wipe_ext ?_ fun j hj => out1 j fun z => hj (hw1 j z)
          rw [← r7'.len, ← wipeL_len l7 vs1, hwl7, wipeL_len, r5.len]
        refine ⟨hws7, _, l7, g6, R7, noX, _, r7', h7, fun H8 R8 b l8 g8 s8 r8 h8 => ?_, fun _ _ _ _ _ _ _ _ _ _ z => z⟩
        obtain ⟨hw8, h8⟩ := h8
        cases b with
        | true =>
          refine ⟨_, l8, g8, R8, noX, _, r8, h8, fun y H9 R9 dd l9 g9 s9 r9 z9 h9 => ?_, fun _ _ _ _ _ _ _ _ _ _ z => z⟩
          obtain ⟨hw9, hlen, hI9⟩ := h9
          obtain ⟨hD9, _⟩ := r9.inD nD
          refine ⟨acc6, hD9, by rw [za6.length, ← lim]; exact hlen, g9, R9, acc6 ++ [y], accD6 ++ [dd], s6.trans (s7.trans (s8.trans s9)), ?_, (za6.mono (s7.trans (s8.trans s9))).app (.one z9), hI9⟩
          have r10 := (r9.wipe_ vs1).regrow (o' := .lst (acc6 ++ [y])) nD
          rw [hw9, hws7] at r10
          exact r10
        | false =>
          have r10 := r8.wipe_ vs1
          rw [hw8, hws7] at r10
          exact ⟨g8, R8, acc6, accD6, s6.trans (s7.trans s8), r10, za6.mono (s7.trans s8), h8⟩
      · have e : j = ys.length := by omega
        subst e
        refine .inl ⟨w1.2 rfl, ?_⟩
        have r7 := r6.wipe_ vs
        rw [wipeL_sub hv, wipe_sub hv, hw5, hws] at r7
        exact ⟨g6, R6, acc6, accD6, s2.trans (s3.trans (s4.trans (s5.trans s6))), r7, za6, finJ accD6 g6 hJ⟩
    | false =>
      have r6 := r4.wipe_ vs
      rw [hw4, hws] at r6
      exact ⟨g4, R4, acc, accD, s2.trans (s3.trans s4), r6, za.mono (s3.trans s4), h4⟩
  · have e : i = ds.length := by omega
    subst e
    refine .inl ⟨w.2 rfl, ?_⟩
    obtain ⟨hD2, nR2, nf2, ap2⟩ := r2.inD nD
    have r3 := r1.unwipe no r2 s2
    obtain ⟨hD3, nR3, nf3, ap3⟩ := r3.inD nD
    obtain ⟨r4, nC⟩ := r1.done r3 hD
    exact k D H2 R2 (.lst accD) l1 g2 (s1.trans s2) r4 ⟨acc, hD3, za⟩ nR3 nC nf3 ap3 (fin accD g2 hI)
section
variable {elt tg iter tg1 iter1 : Expr} {ifs ifs1 : List Expr} {scope : Scope} {own : List (Str × Nat)} {vs1 : List Nat} {it it1 : DI G} {t t1 : Tg} {c c1 : DT G} {e : DE G} {ws ws1 : List Nat}
theorem d_comp2 (hc : X.calm = true) (hN : X.N.Nodup) (hi : PI X tg iter (liftI X.K Γ W it)) (ok : BlkOk X.N X.env.scope scope own)
    (hg : ∀ (s : Shared) (H : Hp) (C : Addr) (cl : List (Str × Addr)) (fp : List Addr), PG (X.blk s H scope (compEnvC scope cl C X.env) fp) tg (liftG X.K Γ ws t))
    (ht : ∀ (s : Shared) (H : Hp) (C : Addr) (cl : List (Str × Addr)) (fp : List Addr), PTs (X.blk s H scope (compEnvC scope cl C X.env) fp) ifs (liftT X.K Γ W0 c))
    (hi1 : ∀ (s : Shared) (H : Hp) (C : Addr) (cl : List (Str × Addr)) (fp : List Addr), PI (X.blk s H scope (compEnvC scope cl C X.env) fp) tg1 iter1 (liftI X.K Γ W0 it1))
    (hg1 : ∀ (s : Shared) (H : Hp) (C : Addr) (cl : List (Str × Addr)) (fp : List Addr), PG (X.blk s H scope (compEnvC scope cl C X.env) fp) tg1 (liftG X.K Γ ws1 t1))
    (ht1 : ∀ (s : Shared) (H : Hp) (C : Addr) (cl : List (Str × Addr)) (fp : List Addr), PTs (X.blk s H scope (compEnvC scope cl C X.env) fp) ifs1 (liftT X.K Γ W0 c1))
    (he : ∀ (s : Shared) (H : Hp) (C : Addr) (cl : List (Str × Addr)) (fp : List Addr), PE (X.blk s H scope (compEnvC scope cl C X.env) fp) elt (liftE X.K Γ W0 e)) (hw : ∀ j ∈ ws, j ∈ own.map (·.2)) (hw1 : ∀ j ∈ ws1, j ∈ vs1) (hv : ∀ j ∈ vs1, j ∈ own.map (·.2))
    (hs : ∀ x, foldedSetIterable iter X.env x = pure x := by intro _; rfl) (hs1 : ∀ env x, foldedSetIterable iter1 env x = pure x := by intro _ _; rfl) :
    PE X (.ListComp elt [⟨tg, iter, ifs, 0⟩, ⟨tg1, iter1, ifs1, 0⟩] scope pos) (liftF X.K Γ W (dComp2 it t c it1 t1 c1 e (own.map (·.2)) vs1)) :=
  (pe_lc2 hc hN hi ok hv hg ht hi1 hg1 ht1 he hs hs1).imp fun _ _ _ h => comp2_run hw hw1 hv h
/-- name = [..] -/
theorem ds_ownC2 {i : Nat} {y : Str} {py spos : Pos} (hc : X.calm = true) (hN : X.N.Nodup) (hy : X.N[i]? = some y) (hyl : X.env.scope.names.lookup y = some .local)
    (hsw : swapsWith (.ListComp elt [⟨tg, iter, ifs, 0⟩, ⟨tg1, iter1, ifs1, 0⟩] scope pos) (some (.Name y py)) spos.line X.env = pure true) (hi : PI X tg iter (liftI X.K Γ W it)) (ok : BlkOk X.N X.env.scope scope own)
    (hg : ∀ (s : Shared) (H : Hp) (C : Addr) (cl : List (Str × Addr)) (fp : List Addr), PG (X.blk s H scope (compEnvC scope cl C X.env) fp) tg (liftG X.K Γ ws t))
    (ht : ∀ (s : Shared) (H : Hp) (C : Addr) (cl : List (Str × Addr)) (fp : List Addr), PTs (X.blk s H scope (compEnvC scope cl C X.env) fp) ifs (liftT X.K Γ W0 c))
    (hi1 : ∀ (s : Shared) (H : Hp) (C : Addr) (cl : List (Str × Addr)) (fp : List Addr), PI (X.blk s H scope (compEnvC scope cl C X.env) fp) tg1 iter1 (liftI X.K Γ W0 it1))
    (hg1 : ∀ (s : Shared) (H : Hp) (C : Addr) (cl : List (Str × Addr)) (fp : List Addr), PG (X.blk s H scope (compEnvC scope cl C X.env) fp) tg1 (liftG X.K Γ ws1 t1))
    (ht1 : ∀ (s : Shared) (H : Hp) (C : Addr) (cl : List (Str × Addr)) (fp : List Addr), PTs (X.blk s H scope (compEnvC scope cl C X.env) fp) ifs1 (liftT X.K Γ W0 c1))
    (he : ∀ (s : Shared) (H : Hp) (C : Addr) (cl : List (Str × Addr)) (fp : List Addr), PE (X.blk s H scope (compEnvC scope cl C X.env) fp) elt (liftE X.K Γ W0 e)) (hw : ∀ j ∈ ws, j ∈ own.map (·.2)) (hw1 : ∀ j ∈ ws1, j ∈ vs1) (hv : ∀ j ∈ vs1, j ∈ own.map (·.2))
    (hs : ∀ x, foldedSetIterable iter X.env x = pure x := by intro _; rfl) (hs1 : ∀ env x, foldedSetIterable iter1 env x = pure x := by intro _ _; rfl) :
    PS X (.Assign [.Name y py] (.ListComp elt [⟨tg, iter, ifs, 0⟩, ⟨tg1, iter1, ifs1, 0⟩] scope pos) spos) (liftS X.K Γ W (sOwn i (dComp2 it t c it1 t1 c1 e (own.map (·.2)) vs1))) :=
  (ps_setLc2 hc hN hy hyl hsw hi ok hv hg ht hi1 hg1 ht1 he hs hs1).imp fun _ _ _ h => own_run (fun _ _ _ z => comp2_run hw hw1 hv z) h
/-- .. that stays -/
theorem ds_setC2 {i : Nat} {y : Str} {py spos : Pos} (hc : X.calm = true) (hN : X.N.Nodup) (hy : X.N[i]? = some y) (hyl : X.env.scope.names.lookup y = some .local)
    (hsw : swapsWith (.ListComp elt [⟨tg, iter, ifs, 0⟩, ⟨tg1, iter1, ifs1, 0⟩] scope pos) (some (.Name y py)) spos.line X.env = pure true) (hi : PI X tg iter (liftI X.K Γ W it)) (ok : BlkOk X.N X.env.scope scope own)
    (hg : ∀ (s : Shared) (H : Hp) (C : Addr) (cl : List (Str × Addr)) (fp : List Addr), PG (X.blk s H scope (compEnvC scope cl C X.env) fp) tg (liftG X.K Γ ws t))
    (ht : ∀ (s : Shared) (H : Hp) (C : Addr) (cl : List (Str × Addr)) (fp : List Addr), PTs (X.blk s H scope (compEnvC scope cl C X.env) fp) ifs (liftT X.K Γ W0 c))
    (hi1 : ∀ (s : Shared) (H : Hp) (C : Addr) (cl : List (Str × Addr)) (fp : List Addr), PI (X.blk s H scope (compEnvC scope cl C X.env) fp) tg1 iter1 (liftI X.K Γ W0 it1))
    (hg1 : ∀ (s : Shared) (H : Hp) (C : Addr) (cl : List (Str × Addr)) (fp : List Addr), PG (X.blk s H scope (compEnvC scope cl C X.env) fp) tg1 (liftG X.K Γ ws1 t1))
    (ht1 : ∀ (s : Shared) (H : Hp) (C : Addr) (cl : List (Str × Addr)) (fp : List Addr), PTs (X.blk s H scope (compEnvC scope cl C X.env) fp) ifs1 (liftT X.K Γ W0 c1))
    (he : ∀ (s : Shared) (H : Hp) (C : Addr) (cl : List (Str × Addr)) (fp : List Addr), PE (X.blk s H scope (compEnvC scope cl C X.env) fp) elt (liftE X.K Γ W0 e)) (hw : ∀ j ∈ ws, j ∈ own.map (·.2)) (hw1 : ∀ j ∈ ws1, j ∈ vs1) (hv : ∀ j ∈ vs1, j ∈ own.map (·.2))
    (hs : ∀ x, foldedSetIterable iter X.env x = pure x := by intro _; rfl) (hs1 : ∀ env x, foldedSetIterable iter1 env x = pure x := by intro _ _; rfl) :
    PS X (.Assign [.Name y py] (.ListComp elt [⟨tg, iter, ifs, 0⟩, ⟨tg1, iter1, ifs1, 0⟩] scope pos) spos) (liftS X.K Γ W (sSet i (dComp2 it t c it1 t1 c1 e (own.map (·.2)) vs1))) :=
  (ps_setLc2 hc hN hy hyl hsw hi ok hv hg ht hi1 hg1 ht1 he hs hs1).imp fun _ _ _ h => set_run (fun σ H Q z => comp2_run hw hw1 hv (by
      obtain ⟨C, l, g, R, ex, q, r, h, k, kx⟩ := z
      exact ⟨C, l, g, R, ex, q, r, h, fun a H' R' d l' g' s' r' z n1 n2 n3 n4 hq => by
        obtain ⟨o, eo, zr⟩ := z.rep
        exact k _ H' _ d l' g' (s'.trans (Sub.new n1)) (r'.frz eo n1 n2 n3 n4) (zr n1) hq, kx⟩)) h
end
theorem ds_ext {i : Nat} {x : Str} {p2 apos cpos : Pos} {e : Expr} {f : DE G} (hv : PE X (.Name x p2) (tVar i)) (he : PE X e (liftE X.K Γ W f))
    (hfew : ((backTo cpos (starEach [e] X.env)).all (fun x => !x.1) && (backToKw cpos (keywordEach [] X.env)).all (fun x => x.1.isSome) && decide (([e] : List Expr).length + ([] : List Keyword).length + (if ([] : List Keyword).isEmpty then 0 else 1) < 30)) = true := by rfl)
    (hline : (apos.endLine == cpos.line) = true := by rfl) (hs : starEach [e] X.env = (false, eval e X.env) :: starEach [] X.env := by rfl) (hsw : swapsWith (.Call (.Attribute (.Name x p2) "extend" apos) [e] [] cpos) none pos.line X.env = pure false := by rfl)
    (hbase : attributeBase (.Name x p2) "extend" X.env (eval (.Name x p2) X.env) = eval (.Name x p2) X.env := by rfl) :
    PS X (.Expr (.Call (.Attribute (.Name x p2) "extend" apos) [e] [] cpos) pos) (liftS X.K Γ W (sExt i f)) :=
  (ps_expr (pe_bm PySem.F.plainAttrs_list PySem.F.slot_list_extend PySem.F.type_list_extend mt_extend hv (pa_cons he pa_nil hs) hbase hfew hline hs rfl) hsw).imp fun D σ H h => by
    obtain ⟨C, l, g, R, ex, E, r, h, k1, k2, k3, k4, kx⟩ := h
    obtain ⟨d0, e0, h⟩ := getO_ex h
    split at h
    · obtain ⟨a, vs, ea, eh, _⟩ := r.owL e0
      refine ⟨.ref a, ea, .inl ⟨rfl, _, SqL.of eh⟩, C, l, g, R, ex, _, r, h, fun y H1 R1 d l1 g1 s1 r1 z1 h1 => ?_, kx σ⟩
      obtain ⟨d2, e2, h1⟩ := getO_ex h1
      split at h1
      · split at h1
        · obtain ⟨a', vs', ea', eh', q'⟩ := r1.owL e2
          rw [ea] at ea'
          cases ea'
          cases z1 with
          | lst ez qz =>
            exact ⟨a, _, vs', _, rfl, rfl, eh', r1.sub _ _ ez, by rw [q'.length, qz.length, ← lim]; exact h1.1, k1 σ _ R1 _ g1 s1 (r1.chgL e2 ea (q'.app qz)) h1.2⟩
        · exact h1.elim
      · exact h1.elim
    · exact h.elim
/-- {k: v} -/
theorem d_disp1 {kx vx : Expr} {fk fv : DE G} (hk : PE X kx (liftE X.K Γ W fk)) (hv : PE X vx (liftE X.K Γ W fv)) : PE X (.Dict [some kx] [vx] pos) (liftF X.K Γ W (dDisp1 fk fv)) :=
  (pe_disp (pps_cons hk hv pps_nil) rfl rfl (by simp) (show 1 ≤ 15 by decide)).imp fun σ H Q ⟨C, l, g, R, ex, q, r, h, k, kx⟩ => fun p hp => by
    have nR := r.sub.no0 hp
    have kx' : XTo X.K Γ (fxD C R p (.dK [])) R ex (fun c d H' => W c d σ H') σ := fun cls dx H' R' x l' g' s' r' => kx cls dx H' R' x l' g' s' (r.done r' hp).1
    refine ⟨fxD C R p (.dK []), l, g, R, ex, _, r.begin hp, h, fun y H1 R1 d l1 g1 s1 r1 z1 h1 => ?_, kx'⟩
    refine ⟨fxD C R p (.dK []), l1, g1, R1, ex, _, r1, h1, fun z H2 R2 e l2 g2 s2 r2 z2 h2 => ?_, kx'.mono s1⟩
    obtain ⟨hkey, hq⟩ := h2
    obtain ⟨kk, rfl, rfl⟩ := key_k (H := H2) (.of (z1.mono s2)) hkey
    refine ⟨(r2.inD nR).1, [(kk, z)], rfl, (show 1 ≤ 15 by decide), ?_⟩
    have r3 := r2.regrow (o' := .dK [(kk, z)]) nR
    obtain ⟨_, nR3, nf3, ap3⟩ := r3.inD nR
    obtain ⟨r4, nC⟩ := r.done r3 hp
    exact k p _ R2 (.dic false [(kD kk, e)]) l2 g2 (s1.trans s2) r4 ⟨[(kk, z)], upd_same, .cons z2 .nil⟩ nR3 nC nf3 ap3 hq
/-- sorted of a dict's keys -/
theorem repK_keys {R : Hp} : ∀ {kvs : List (Key × V)} {ds : List (D × D)} {ks : List Int}, RepK K R kvs ds → ds.map (·.1) = ks.map .int → kvs.map (·.1) = ks.map Sum.inl
  | _, _, [], .nil, _ => rfl
  | _, _, _ :: _, .nil, h => by cases h
  | _, _, [], .cons _ _, h => by cases h
  | _, _, n :: ks, .cons (k := k) (kvs) q, h => by
    rw [List.map_cons, List.map_cons] at h
    injection h with h1 h2
    rw [List.map_cons, List.map_cons, repK_keys q h2]
    cases k with
    | inl i =>
      have h1 : D.int i = D.int n := h1
      cases h1
      rfl
    | inr x => cases h1
theorem Rb.dicAny {R H : Hp} {v : V} {ds : List (D × D)} (h : Rb K R H v (.dic false ds)) (s : Sub R H) : ∃ a kvs, v = .ref a ∧ H a = some (.dK kvs) ∧ RepK K R kvs ds := h.dic s
theorem ag_sortK : AgAF K Γ (fun xs H Q => ∃ (a : Addr) (kvs : List (Key × V)) (ks : List Int), xs = [.ref a] ∧ Rd H a (.dK kvs) ∧ kvs.map (·.1) = ks.map Sum.inl ∧ ks.length < 64 ∧ ∀ (ys : List Int) (p : Addr), ys.Perm ks → ys.Pairwise (· ≤ ·) → H p = none → Q (.ref p) (upd H p (.lst (ys.map V.int)))) bSortK := by
  intro C l g σ R H vs ds k Q r z hw fin
  unfold bSortK at hw
  split at hw
  · obtain ⟨ks, e, hl, hk⟩ := hw
    obtain ⟨v, rfl, rb⟩ := z.one
    obtain ⟨a, kvs, rfl, ha, q⟩ := rb.dic r.sub
    refine ⟨a, kvs, ks, rfl, .inl ha, repK_keys q e, hl, fun ys p hp hs hn => ?_⟩
    obtain ⟨r1, z1⟩ := r.newLF hn (ints_rep (K := K) (R := R) ys)
    obtain ⟨n1, n2, n3, n4⟩ := r.newF hn
    exact fin p _ _ r1 z1 n1 n2 n3 n4 (hk ys hp hs)
  · exact hw.elim
theorem d_bFO {id : String} {r : List V → Hp → VK → Prop} {w : WA} {i : Nat} {x y : Str} {p p2 : Pos} (hc : CallR X (.builtin id) r) (ag : AgAF X.K Γ r w) (hg : Gl X x) (hm : X.mg x = none) (hv : bootBuiltins x = some (.builtin id)) (ha : PE X (.Name y p2) (tVar i)) (hn : x ≠ "__name__" := by decide) (hdb : (x == ("__debug__" : Str)) = false := by decide) :
    PE X (.Call (.Name x p) [.Name y p2] [] pos) (liftF X.K Γ W (dBO w i)) := (pe_callB hc hg hm hv (pa_cons ha pa_nil) hn hdb).imp fun _ _ _ h => bFO_run ag h
theorem d_bTFO {T : String} {r : List V → Hp → VK → Prop} {w : WA} {i : Nat} {x y : Str} {p p2 : Pos} (hc : CallR X (.type T) r) (ag : AgAF X.K Γ r w) (hg : Gl X x) (hm : X.mg x = none) (hv : bootBuiltins x = some (.type T)) (ha : PE X (.Name y p2) (tVar i)) (hn : x ≠ "__name__" := by decide) (hdb : (x == ("__debug__" : Str)) = false := by decide) :
    PE X (.Call (.Name x p) [.Name y p2] [] pos) (liftF X.K Γ W (dBO w i)) := (pe_callTy hc hg hm hv (pa_cons ha pa_nil) hn hdb).imp fun _ _ _ h => bFO_run ag h
theorem compO_run {j : Nat} {t : Tg} {c : DT G} {e : DE G} {vs ws : List Nat} (hw : ∀ j ∈ ws, j ∈ vs) {H : Hp} {Q : VK} (h : liftF K Γ W (dCompO j t c e vs) σ H Q) :
    tLc (iList K (tVar j)) (liftG K Γ ws t) (liftT K Γ W0 c) (liftE K Γ W0 e) vs σ H Q := by
  obtain ⟨C, l, g, R, ex, q, rl, h, k, kx⟩ := h
  obtain ⟨d0, ed, h⟩ := getO_ex h
  split at h
  rotate_left
  · exact h.elim
  rename_i ds
  obtain ⟨no, nj, I, i0, step, fin⟩ := h
  obtain ⟨a, vs0, ea, eh, q0⟩ := rl.owL ed
  refine ⟨.ref a, ea, a, rfl, ⟨_, SqL.of eh⟩, ?_⟩
  intro D hD
  have nD : R D = none := rl.sub.no0 hD
  refine ⟨fun i m H => m = ds.length - i ∧ i ≤ ds.length ∧ ∃ g2 R2 acc accD, Sub R R2 ∧ Rel K Γ (fxD C R D (.lst acc)) (wipeL l vs) g2 (wipe σ vs) R2 H ∧ Reps K R2 acc accD ∧ I i accD g2,
    ⟨_, rfl, Nat.zero_le _, g, R, [], [], Sub.refl _, (rl.wipe_ vs).begin hD, .nil, i0⟩, ?_⟩
  rintro i m H2 ⟨rfl, hi, g2, R2, acc, accD, s2, r2, za, hI⟩
  have ej : (wipeL l vs)[j]? = some (.ow (.lst ds)) := by rw [wipeL_out nj]; exact ed
  obtain ⟨a2, vs2, ea2, eh2, q2⟩ := r2.owL ej
  rw [wipe_out nj, ea] at ea2
  cases ea2
  by_cases hlt : i < ds.length
  · obtain ⟨v, hv, zv⟩ := q2.get (List.getElem?_eq_getElem hlt)
    refine .inr ⟨⟨vs2, v, SqL.of eh2, hv⟩, fun H' => ∃ g2 R2 acc accD, Sub R R2 ∧ Rel K Γ (fxD C R D (.lst acc)) (wipeL l vs) g2 (wipe σ vs) R2 H' ∧ Reps K R2 acc accD ∧ I (i + 1) accD g2, fun H' z => ⟨_, by omega, rfl, hlt, z⟩, fun x H' ⟨e1, y⟩ => ?_⟩
    subst e1
    have y2 := y vs2 (SqL.of eh2)
    rw [hv] at y2
    cases y2
    refine ⟨_, _, g2, R2, _, _, r2, zv, step i _ accD g2 (List.getElem?_eq_getElem hlt) hI, fun σ' l' out r' h' => ?_⟩
    obtain ⟨hwl, h'⟩ := h'
    have hws : wipe σ' vs = wipe σ vs := by
      refine wipe_ext ?_ fun j hj => out j fun z => hj (hw j z)
      rw [← r'.len, ← wipeL_len l' vs, hwl, wipeL_len, rl.len]
    refine ⟨hws, _, l', g2, R2, noX, _, r', h', fun H4 R4 b l4 g4 s4 r4 h4 => ?_, fun _ _ _ _ _ _ _ _ _ _ z => z⟩
    obtain ⟨hw4, h4⟩ := h4
    cases b with
    | true =>
      refine ⟨_, l4, g4, R4, noX, _, r4, h4, fun y H5 R5 dd l5 g5 s5 r5 z5 h5 => ?_, fun _ _ _ _ _ _ _ _ _ _ z => z⟩
      obtain ⟨hw5, hlen, hI5⟩ := h5
      obtain ⟨hD5, _⟩ := r5.inD nD
      refine ⟨acc, hD5, by rw [za.length, ← lim]; exact hlen, g5, R5, acc ++ [y], accD ++ [dd], s2.trans (s4.trans s5), ?_, (za.mono (s4.trans s5)).app (.one z5), hI5⟩
      have r6 := (r5.wipe_ vs).regrow (o' := .lst (acc ++ [y])) nD
      rw [hw5, hws] at r6
      exact r6
    | false =>
      have r6 := r4.wipe_ vs
      rw [hw4, hws] at r6
      exact ⟨g4, R4, acc, accD, s2.trans s4, r6, za.mono s4, h4⟩
  · have e : i = ds.length := by omega
    subst e
    refine .inl ⟨⟨vs2, SqL.of eh2, by rw [q2.length]; exact Nat.le_refl _⟩, ?_⟩
    obtain ⟨hD2, nR2, nf2, ap2⟩ := r2.inD nD
    have r3 := rl.unwipe no r2 s2
    obtain ⟨hD3, nR3, nf3, ap3⟩ := r3.inD nD
    obtain ⟨r4, nC⟩ := rl.done r3 hD
    exact k D H2 R2 (.lst accD) l g2 s2 r4 ⟨acc, hD3, za⟩ nR3 nC nf3 ap3 (fin accD g2 hI)
theorem d_compO {elt tg : Expr} {x : Str} {p2 : Pos} {j : Nat} {ifs : List Expr} {scope : Scope} {own : List (Str × Nat)} {t : Tg} {c : DT G} {e : DE G} {ws : List Nat} (hc : X.calm = true) (hN : X.N.Nodup) (hi : PE X (.Name x p2) (tVar j)) (ok : BlkOk X.N X.env.scope scope own)
    (hg : ∀ (s : Shared) (H : Hp) (C : Addr) (cl : List (Str × Addr)) (fp : List Addr), PG (X.blk s H scope (compEnvC scope cl C X.env) fp) tg (liftG X.K Γ ws t))
    (ht : ∀ (s : Shared) (H : Hp) (C : Addr) (cl : List (Str × Addr)) (fp : List Addr), PTs (X.blk s H scope (compEnvC scope cl C X.env) fp) ifs (liftT X.K Γ W0 c))
    (he : ∀ (s : Shared) (H : Hp) (C : Addr) (cl : List (Str × Addr)) (fp : List Addr), PE (X.blk s H scope (compEnvC scope cl C X.env) fp) elt (liftE X.K Γ W0 e)) (hw : ∀ j ∈ ws, j ∈ own.map (·.2)) (hs : ∀ z, foldedSetIterable (.Name x p2) X.env z = pure z := by intro _; rfl) :
    PE X (.ListComp elt [⟨tg, .Name x p2, ifs, 0⟩] scope pos) (liftF X.K Γ W (dCompO j t c e (own.map (·.2)))) := (pe_lc hc hN (pi_list hi) ok hg ht he hs).imp fun _ _ _ h => compO_run hw h
end
end Lk

set_option autoImplicit false
set_option linter.all false
set_option Elab.async false
set_option maxRecDepth 100000
set_option maxHeartbeats 2000000
namespace Lk
open PySem PySem.Spec PyProof.Rows L2 Dx
/-! a RawTrack is made -/
section
variable {G : Type} {Γ : GInt G} {K : Fg}
/-- __init__ of a RawTrack -/
def spRaw (K : Fg) (Γ : GInt G) : Sp := fun vs H Q _ => ∃ (x dx : Addr) (v : V) (n : Nat) (ds : List D) (R : Hp) (g : G), vs = [.ref x, .int (n : Nat), v] ∧ n ≤ 1000000 ∧ ds.length ≤ 1000000 ∧ (∀ d ∈ ds, arrOk n d) ∧ Rep K R v (.tup ds) ∧ Sub R H ∧ Γ.at_ g H ∧ (∀ a, Γ.fp g a → R a = none) ∧ ¬ Γ.fp g x ∧
  H x = some (.ins (clsA K "RawTrack") dx []) ∧ R x = none ∧ ∀ H' R', Sub R R' → Sub R' H' → (∀ a o, ¬ Γ.fp g a → a ≠ x → H a = some o → H' a = some o) → (∀ a, R' a ≠ none → R a ≠ none ∨ a = x ∨ H a = none) → Γ.at_ g H' → (∀ a, Γ.fp g a → R' a = none) →
    Rep K R' (.ref x) (trkD "Track" n ds) → Q .non H'
theorem raw_run {N : List Str} {vs : List V} {H : Hp} {Q : VK} {E E2 : XK} (h : spRaw K Γ vs H Q E) :
    tDrop (tMeth (clsA K "RawTrack") "keep" (spKeep K "RawTrack") [] E2 (tVar 0) (tCons (tVar 1) (tCons (tVar 2) tNil))) { nx := fun _ H' => Q .non H', rt := Q } (L2.start N vs) H := by
  obtain ⟨x, dx, v, n, ds, R, g, rfl, hn, hd, ok, zv, s, at_, fr, nx, hx, Rx, k⟩ := h
  have get : ∀ (i : Nat) (u : V), [V.ref x, .int (n : Nat), v][i]? = some u → (L2.start N [V.ref x, .int (n : Nat), v])[i]? = some (some u) := fun i u hv => by
    unfold L2.start
    have hi := (List.getElem?_eq_some_iff.mp hv).1
    rw [List.getElem?_append_left (by simpa using hi), List.getElem?_map, hv]
    rfl
  have vx : ∃ a vs', v = .ref a ∧ R a = some (.tup vs') ∧ Reps K R vs' ds := by
    cases zv with
    | tup h q => exact ⟨_, _, rfl, h, q⟩
  obtain ⟨ar, avs, rfl, hA, zA⟩ := vx
  refine ⟨_, get 0 _ rfl, x, dx, [], rfl, hx, rfl, _, get 1 _ rfl, _, get 2 _ rfl, ?_⟩
  refine ⟨x, dx, ar, n, avs, ds, R, rfl, hn, hd, hx, Rx, s, hA, zA, ok, fun H2 R2 s2 sH2 kp2 nw2 zz => ?_⟩
  have nfx : ∀ a, Γ.fp g a → a ≠ x := fun a f e => nx (e ▸ f)
  have at2 : Γ.at_ g H2 := by
    refine Γ.stay g H H2 at_ fun a ha => ?_
    cases q : H a with
    | none => exact absurd q (Γ.there g H a at_ ha)
    | some o => exact kp2 a o (nfx a ha) q
  refine k H2 R2 s2 sH2 (fun a o _ na e => kp2 a o na e) nw2 at2 (fun a ha => ?_) zz
  cases q : R2 a with
  | none => rfl
  | some o =>
    rcases nw2 a (by rw [q]; simp) with y | y | y
    · exact absurd (fr a ha) y
    · exact absurd y (nfx a ha)
    · exact absurd y (Γ.there g H a at_ ha)
variable {X : Cx} {W : WX} {pos : Pos}
theorem rawmk_run {fs : DA G} {σ : L2.St} {H : Hp} {Q : VK} (h : liftE K Γ W (dCall cRaw fs) σ H Q) : tMake (clsA K "RawTrack") (spRaw K Γ) [] (fun _ _ _ => False) (liftA K Γ W fs) σ H Q := by
  obtain ⟨C, l, g, R, ex, q, r, h, k, kx⟩ := h
  refine ⟨C, l, g, R, ex, _, r, h, fun vs H1 R1 ds l1 g1 s1 r1 z1 h1 x dx hx hdx ne => ?_, kx⟩
  obtain ⟨n, xs, rfl, hn, hl, ok, hq⟩ := h1
  obtain ⟨nRx, _, nfx, _⟩ := r1.newF hx
  obtain ⟨nRd, _, nfd, _⟩ := r1.newF hdx
  have e : ∃ v, vs = [.int (n : Nat), v] ∧ Rep K R1 v (.tup xs) := by
    cases z1 with
    | cons a b =>
      cases a
      cases b with
      | cons a b => cases b; exact ⟨_, rfl, a⟩
  obtain ⟨v, rfl, zv⟩ := e
  generalize hH2 : upd (upd H1 dx (.own x)) x (.ins (clsA K "RawTrack") dx []) = H2
  have o2 : ∀ a, a ≠ x → a ≠ dx → H2 a = H1 a := fun a n1 n2 => by rw [← hH2, upd_ne n1, upd_ne n2]
  have k2 : ∀ a o, H1 a = some o → H2 a = some o := fun a o e => by
    rw [o2 a (ne_of_none e hx) (ne_of_none e hdx)]
    exact e
  refine ⟨x, dx, v, n, xs, R1, g1, rfl, hn, hl, ok, zv, fun a o e => k2 a o (r1.sub a o e), Γ.stay g1 H1 H2 r1.gat fun a ha => o2 a (fun e => nfx (e ▸ ha)) (fun e => nfd (e ▸ ha)), fun a ha => (r1.gfr a ha).1, nfx, by rw [← hH2]; exact upd_same, nRx, fun H' R' s' sH' kp nw at' fr zz => ⟨rfl, ?_⟩⟩
  refine k _ H' R' _ l1 g1 (s1.trans s') (r1.behind s' sH' (fun a o nf e => kp a o nf (ne_of_none e hx) (k2 a o e)) (fun a e => ?_) at' fun a ha => ⟨fr a ha, .inl ha⟩) zz hq
  rcases nw a e with y | y | y
  · exact .inl y
  · exact .inr (.inr (y ▸ hx))
  · refine .inr (.inr ?_)
    cases q : H1 a with
    | none => rfl
    | some o => rw [k2 a o q] at y; cases y
/-- RawTrack(places, arrows) -/
theorem d_raw {fs : DA G} {k : Nat} {f : Addr} {fd : FuncData} {ps : List Str} {x : Str} {p : Pos} {e : Expr} {es : List Expr} (M : Mk X.K (clsA X.K "RawTrack") f) (F : FnOk X.prog X.w X.K X.mg X.base (L2N.CX X.prog X.w) k f fd ps (spRaw X.K Γ)) (hr : Room (k + 1) X.A) (hg : Gl X x)
    (hm : X.mg x = some (.ref (clsA X.K "RawTrack"))) (hb : Binds X.K fd ps []) (ha : PA X (e :: es) (liftA X.K Γ W fs)) (hdb : (x == ("__debug__" : Str)) = false := by decide) (he : starEach (e :: es) X.env = (false, eval e X.env) :: starEach es X.env := by rfl)
    (hpl : (backTo pos (starEach es X.env)).any (·.1) = false := by rfl) : PE X (.Call (.Name x p) (e :: es) [] pos) (liftE X.K Γ W (dCall cRaw fs)) :=
  (pe_make M F hr hg hm hb (ds := []) (dvs := []) .nil passes0 ha hdb he hpl).imp fun _ _ _ h => rawmk_run h
theorem fn_raw {P : Program} {w : World} {mg : Str → Option Value} {base : Heap} {x qual : Str} {params : Arguments} {body : List Stmt} {scope : Scope} {f : Addr} {fd : FuncData} {N ps : List Str} {k : Nat}
    (F : FunD K x qual params body scope [] [] f fd) (S : FnScope N ps scope) (hps : ps.length = 3)
    (der : ∀ (cdv : Value) (A : Around) (outer : List Env) (s : Shared) (H : Hp) (E : XK), Room k (A.deeper (envOfC qual scope s.heap.objs.size f cdv)) → ∃ E2, PSs (cxOf (L2N.CX P w) P w K mg base N qual scope f cdv A outer s H E) body (tDrop (tMeth (clsA K "RawTrack") "keep" (spKeep K "RawTrack") [] E2 (tVar 0) (tCons (tVar 1) (tCons (tVar 2) tNil))))) :
    FnOk P w K mg base (L2N.CX P w) (k + 1) f fd ps (spRaw K Γ) := by
  refine F.ok S (fun vs H Q E h => ?_) (fun cdv A outer s H vs Q E hr h => ?_)
  · obtain ⟨x, dx, v, n, ds, R, g, rfl, _⟩ := h
    rw [hps]; rfl
  · obtain ⟨E2, d⟩ := der cdv A outer s H E hr
    exact ⟨_, d, raw_run h⟩
end
/-! own.pop(i) -/
section
variable {G : Type} {Γ : GInt G} {K : Fg} {X : Cx} {W : WX} {pos : Pos}
theorem d_popAt {i : Nat} {x : Str} {p2 apos cpos : Pos} {e : Expr} {f : DE G} (hv : PE X (.Name x p2) (tVar i)) (he : PE X e (liftE X.K Γ W f))
    (hfew : ((backTo cpos (starEach [e] X.env)).all (fun x => !x.1) && (backToKw cpos (keywordEach [] X.env)).all (fun x => x.1.isSome) && decide (([e] : List Expr).length + ([] : List Keyword).length + (if ([] : List Keyword).isEmpty then 0 else 1) < 30)) = true := by rfl)
    (hline : (apos.endLine == cpos.line) = true := by rfl) (hs : starEach [e] X.env = (false, eval e X.env) :: starEach [] X.env := by rfl)
    (hbase : attributeBase (.Name x p2) "pop" X.env (eval (.Name x p2) X.env) = eval (.Name x p2) X.env := by rfl) :
    PE X (.Call (.Attribute (.Name x p2) "pop" apos) [e] [] cpos) (liftE X.K Γ W (dPopAt i f)) :=
  (pe_bm PySem.F.plainAttrs_list PySem.F.slot_list_pop PySem.F.type_list_pop mt_popAt hv (pa_cons he pa_nil hs) hbase hfew hline hs rfl).imp fun σ H Q h => by
    obtain ⟨C, l, g, R, ex, q, r, h, k, kx⟩ := h
    obtain ⟨d0, e0, h⟩ := getO_ex h
    split at h
    · obtain ⟨a, vs, ea, eh, _⟩ := r.owL e0
      refine ⟨.ref a, ea, .inl ⟨rfl, _, SqL.of eh⟩, C, l, g, R, ex, _, r, h, fun y H1 R1 d l1 g1 s1 r1 z1 h1 => ?_, kx⟩
      obtain ⟨d2, e2, h1⟩ := getO_ex h1
      split at h1
      · split at h1
        rotate_left
        · exact h1.elim
        obtain ⟨hl, j, z, hj, hz, hq⟩ := h1
        obtain ⟨a', vs', ea', eh', q'⟩ := r1.owL e2
        rw [ea] at ea'
        cases ea'
        cases z1
        obtain ⟨v, hv', zv⟩ := q'.get hz
        obtain ⟨s1', s2', s3'⟩ := seq_ix hj hl
        refine ⟨a, vs', _, j, v, rfl, rfl, eh', s2', s3', by rw [q'.length]; exact s1', hv', ?_⟩
        exact k v _ R1 z _ g1 s1 (r1.chgL e2 ea (reps_erase j q')) zv hq
      · exact h1.elim
    · exact h.elim
/-! {(a, b): v} -/
def tDispT (tk tv : TE) : TE := fun σ H Q => ∀ p, H p = none → tk σ (upd H p (.dT [])) fun y H1 => tv σ H1 fun z H2 => H2 p = some (.dT []) ∧ ∃ k b, y = .ref b ∧ H2 b = some (.tup (k.map kV)) ∧ Q (.ref p) (upd H2 p (.dT [(k, z)]))
theorem pe_dispT {kx vx : Expr} {tk tv : TE} (hu : X.A.units + 1 < cLine) (hk : PE X kx tk) (hv : PE X vx tv) : PE X (.Dict [some kx] [vx] pos) (tDispT tk tv) := by
  refine ⟨fun pins s σ H Q I q => ?_⟩
  have hn := I.hok.fresh (Nat.le_refl s.heap.objs.size)
  have I1 := I.laid (a := s.heap.objs.size) (o := .dT []) (h' := s.heap.push { cls := .type "dict", data := .dict #[] }) (t' := s.toks) (fun _ _ q => Heap.get?_push_of_some _ q) (Nat.le_refl _) (dt_empty s.heap I.big)
  have hsh := zip_pairTrees [some kx] [vx] X.env pos rfl rfl
  have h0 : pairTrees [some kx] [vx] X.env pos ≠ [] := by simp [pairTrees]
  have h15 : (pairTrees [some kx] [vx] X.env pos).length ≤ 15 := by simp [pairTrees]
  rw [arm_eval_Dict, hsh, dictDisplay_pairs _ h0 (by omega)]
  refine wpAny_bind (wpAny_standAt (wpAny_bind (wpAny_subDictH (knd := tupleKind (mixKind X.prog X.w)) (Q := fun d s' => wpAny (model X.prog X.w) X.A (pure (Value.ref d)) (EP X pins σ Q) X.xe s') (show X.A.units < cLine by omega) h15 ?_)))
  refine thn ((pps_cons hk hv pps_nil).run pins _ σ _ (fun ps H2 => match ps with
    | [(y, z)] => H2 s.heap.objs.size = some (.dT []) ∧ ∃ k b, y = .ref b ∧ H2 b = some (.tup (k.map kV)) ∧ Q (.ref s.heap.objs.size) (upd H2 s.heap.objs.size (.dT [(k, z)]))
    | _ => False) I1 (q _ hn)) fun ws s2 ⟨ps, H2, I2, rel, hq⟩ => ?_
  cases rel with
  | nil => exact hq.elim
  | @cons p0 w0 ps0 qs0 r0 rr =>
    cases rr with
    | cons _ _ => exact hq.elim
    | nil =>
      obtain ⟨y, z⟩ := p0
      obtain ⟨u, v⟩ := w0
      obtain ⟨e, k, b, rfl, eb, q2⟩ := hq
      obtain ⟨ry, rz⟩ := r0
      cases (show u = Value.ref b from ry)
      obtain ⟨_, hd, xs, rel2, dd⟩ := dt_of I2.hok e
      cases rel2
      refine ⟨[(k, b, v)], ⟨rfl, rfl, key_of I2.hok eb, trivial⟩, dd, fun h' tk dd' hs => wpAny_pure ⟨.ref s.heap.objs.size, _, ?_, rfl, q2⟩⟩
      obtain ⟨o, es, ep, hq', h2, h3, h4, _, h5⟩ := dd'
      have q1 : (putK ([] : List (List Key × V)) k z).length ≤ sizeLine := by rw [sizeLine_eq]; exact (show (1 : Nat) ≤ 16777216 by decide)
      refine d_write I2 (by rw [e]; trivial) hs ⟨o, hq'⟩ ⟨q1, hd, _, ((show L2.KT H2 ([] : List (List Key × V)) [] from .nil).put k eb rz).keeps fun c ys ec => ?_, o, es, ep, hq', h2, h3, h4, h5⟩
      rw [upd_ne (ne_of ec e (fun z => nomatch z))]
      exact ec
theorem d_dispT {kx vx : Expr} {fk fv : DE G} (hu : X.A.units + 1 < cLine) (hk : PE X kx (liftE X.K Γ W fk)) (hv : PE X vx (liftE X.K Γ W fv)) : PE X (.Dict [some kx] [vx] pos) (liftF X.K Γ W (dDispT fk fv)) :=
  (pe_dispT hu hk hv).imp fun σ H Q ⟨C, l, g, R, ex, q, r, h, k, kx⟩ => fun p hp => by
    have nR := r.sub.no0 hp
    have kx' : XTo X.K Γ (fxD C R p (.dT [])) R ex (fun c d H' => W c d σ H') σ := fun cls dx H' R' x l' g' s' r' => kx cls dx H' R' x l' g' s' (r.done r' hp).1
    refine ⟨fxD C R p (.dT []), l, g, R, ex, _, r.begin hp, h, fun y H1 R1 d l1 g1 s1 r1 z1 h1 => ?_, kx'⟩
    refine ⟨fxD C R p (.dT []), l1, g1, R1, ex, _, r1, h1, fun z H2 R2 e l2 g2 s2 r2 z2 h2 => ?_, kx'.mono s1⟩
    obtain ⟨hkey, hq⟩ := h2
    obtain ⟨b, kk, rfl, eb, rfl⟩ := key_t r2.sub (.of (z1.mono s2)) hkey
    refine ⟨(r2.inD nR).1, kk, b, rfl, eb, ?_⟩
    have r3 := r2.regrow (o' := .dT [(kk, z)]) nR
    obtain ⟨_, nR3, nf3, ap3⟩ := r3.inD nR
    obtain ⟨r4, nC⟩ := r.done r3 hp
    exact k p _ R2 (.dic true [(.tup (kk.map kD), e)]) l2 g2 (s1.trans s2) r4 ⟨[(kk, z)], upd_same, .cons z2 .nil⟩ nR3 nC nf3 ap3 hq
/-! sorted of a dict by texts -/
theorem repK_keysS {R : Hp} : ∀ {kvs : List (Key × V)} {ds : List (D × D)} {ks : List (List Nat)}, RepK K R kvs ds → ds.map (·.1) = ks.map D.str → ∃ xs : List Str, kvs.map (·.1) = xs.map Sum.inr ∧ xs.map (fun x => x.cps.toList) = ks
  | _, _, [], .nil, _ => ⟨[], rfl, rfl⟩
  | _, _, _ :: _, .nil, h => by cases h
  | _, _, [], .cons _ _, h => by cases h
  | _, _, n :: ks, .cons (k := k) (kvs) q, h => by
    rw [List.map_cons, List.map_cons] at h
    injection h with h1 h2
    obtain ⟨xs, e1, e2⟩ := repK_keysS q h2
    cases k with
    | inl i => cases h1
    | inr x =>
      have h1 : D.str x.cps.toList = D.str n := h1
      cases h1
      exact ⟨x :: xs, by rw [List.map_cons, List.map_cons, e1], by rw [List.map_cons, e2]⟩
theorem strs_rep {R : Hp} : ∀ ys : List Str, Reps K R (ys.map V.str) (ys.map fun x => D.str x.cps.toList)
  | [] => .nil
  | x :: ys => .cons (.str x) (strs_rep ys)
theorem ag_sortS : AgAF K Γ (fun xs H Q => ∃ (a : Addr) (kvs : List (Key × V)) (ks : List Str), xs = [.ref a] ∧ Rd H a (.dK kvs) ∧ kvs.map (·.1) = ks.map Sum.inr ∧ ks.length < 64 ∧
    ∀ ys p, ys.Perm ks → sortedS ys = true → H p = none → Q (.ref p) (upd H p (.lst (ys.map V.str)))) bSortS := by
  intro C l g σ R H vs ds k Q r z hw fin
  unfold bSortS at hw
  split at hw
  · obtain ⟨ks, e, hl, hk⟩ := hw
    obtain ⟨v, rfl, rb⟩ := z.one
    obtain ⟨a, kvs, rfl, ha, q⟩ := rb.dic r.sub
    obtain ⟨xs, e1, e2⟩ := repK_keysS q e
    refine ⟨a, kvs, xs, rfl, .inl ha, e1, by rw [← e2, List.length_map] at hl; exact hl, fun ys p hp hs hn => ?_⟩
    obtain ⟨r1, z1⟩ := r.newLF hn (strs_rep (K := K) (R := R) ys)
    obtain ⟨n1, n2, n3, n4⟩ := r.newF hn
    have hq := hk (ys.map fun x => x.cps.toList) (by rw [← e2]; exact hp.map _)
    rw [List.map_map] at hq
    exact fin p _ _ r1 z1 n1 n2 n3 n4 hq
  · exact hw.elim
/-! list of a text -/
theorem cr_listStr (hcalm : X.calm = true) : CallR X (.type "list") (fun xs H Q => ∃ z : Str, xs = [.str z] ∧ z.cps.size ≤ sizeLine ∧ ∀ p, H p = none → Q (.ref p) (upd H p (.lst (z.cps.toList.map fun c => V.str ⟨#[c]⟩)))) := by
  intro pins s σ H xs us Q I r q
  obtain ⟨z, ex, hz, q⟩ := q
  subst ex
  obtain ⟨u, eu, rx⟩ := vals1 r
  subst eu
  obtain ⟨t, rfl⟩ := rx
  refine PySem.call_list_str (I.ok.hd hcalm) z t (fun h' tk acc c' hk hD hacc => ?_) hz
  have hv : Vals (z.cps.toList.map fun c => V.str ⟨#[c]⟩) acc.toList := L2.vals_of_idx _ _ (by rw [List.length_map, Array.length_toList, Array.length_toList]; exact hacc.1) fun j u e => by
    obtain ⟨c, t2, h1, h2⟩ := hacc.2 j u (by rw [← Array.getElem?_toList]; exact e)
    refine ⟨.str ⟨#[c]⟩, ?_, ⟨t2, h2⟩⟩
    rw [List.getElem?_map, Array.getElem?_toList, h1]
    rfl
  exact ⟨.ref s.heap.objs.size, upd H s.heap.objs.size (.lst (z.cps.toList.map fun c => V.str ⟨#[c]⟩)), I.laid (t' := tk) hk (Nat.le_refl _)
    (show ObjOk X.prog X.w _ _ _ (.lst (z.cps.toList.map fun c => V.str ⟨#[c]⟩)) from ⟨by rw [List.length_map, Array.length_toList]; exact hz, acc.toList, c', hv, by rw [Array.toArray_toList]; exact hD⟩), rfl, q _ (I.hok.fresh (Nat.le_refl _))⟩
theorem chars_rep {R : Hp} : ∀ cs : List Nat, Reps K R (cs.map fun c => V.str ⟨#[c]⟩) (cs.map fun c => D.str [c])
  | [] => .nil
  | c :: cs => .cons (.str ⟨#[c]⟩) (chars_rep cs)
theorem ag_listS : AgAF K Γ (fun xs H Q => ∃ z : Str, xs = [.str z] ∧ z.cps.size ≤ sizeLine ∧ ∀ p, H p = none → Q (.ref p) (upd H p (.lst (z.cps.toList.map fun c => V.str ⟨#[c]⟩)))) bListS := by
  intro C l g σ R H vs ds k Q r z hw fin
  unfold bListS at hw
  split at hw
  · obtain ⟨hl, hk⟩ := hw
    obtain ⟨v, rfl, rb⟩ := z.one
    obtain ⟨x, rfl, e⟩ : ∃ x : Str, v = .str x ∧ x.cps.toList = _ := rb.str
    subst e
    refine ⟨x, rfl, by rw [← Array.length_toList, ← lim]; exact hl, fun p hp => ?_⟩
    obtain ⟨r1, z1⟩ := r.newLF hp (chars_rep (K := K) (R := R) x.cps.toList)
    obtain ⟨n1, n2, n3, n4⟩ := r.newF hp
    exact fin p _ _ r1 z1 n1 n2 n3 n4 hk
  · exact hw.elim
/-! d.get(k), d.get(k, x) -/
theorem Rep.isD {R H : Hp} {v : V} {t : Bool} {kvs : List (D × D)} (z : Rep K R v (.dic t kvs)) (s : Sub R H) : ∃ a, v = .ref a ∧ IsD H a := by
  cases z with
  | dic e _ => exact ⟨_, rfl, .inl ⟨_, .inl (s _ _ e)⟩⟩
  | diT e _ => exact ⟨_, rfl, .inr ⟨_, .inl (s _ _ e)⟩⟩
theorem d_getV1 {o e : Expr} {apos cpos : Pos} {fo fk : DE G} (hu : X.A.units + 1 < cLine) (ho : PE X o (liftE X.K Γ W fo)) (he : PE X e (liftE X.K Γ W fk)) (m : M1 X o "get" apos e cpos := by exact ⟨rfl, rfl, rfl, rfl⟩) :
    PE X (.Call (.Attribute o "get" apos) [e] [] cpos) (liftE X.K Γ W (dGetV1 fo fk)) :=
  (pe_dget1 hu ho he m).imp fun σ H Q ⟨C, l, g, R, ex, q, r, h, k, kx⟩ => by
    refine ⟨C, l, g, R, ex, _, r, h, fun x H1 R1 d l1 g1 s1 r1 z1 h1 => ?_, kx⟩
    split at h1
    · obtain ⟨a, rfl, isd⟩ := z1.isD r1.sub
      refine ⟨a, rfl, isd, C, l1, g1, R1, ex, _, r1, h1, fun y H2 R2 kd l2 g2 s2 r2 z2 h2 => ?_, kx.mono s1⟩
      obtain ⟨hk, hq⟩ := h2
      obtain ⟨a', o', e', gt, c⟩ := dget_of r2.sub (.of (z1.mono s2)) (.of z2) hk
      cases e'
      refine ⟨o', gt, ?_⟩
      rcases c with ⟨c1, rfl⟩ | ⟨d', w, c1, rfl, zr⟩
      · rw [c1] at hq
        exact k .non H2 R2 .non l2 g2 (s1.trans s2) r2 .non hq
      · rw [c1] at hq
        exact k w H2 R2 d' l2 g2 (s1.trans s2) r2 zr hq
    · exact h1.elim
theorem d_getV2 {o e f : Expr} {apos cpos : Pos} {fo fk fx : DE G} (hu : X.A.units + 1 < cLine) (ho : PE X o (liftE X.K Γ W fo)) (he : PE X e (liftE X.K Γ W fk)) (hf : PE X f (liftE X.K Γ W fx)) (m : M2 X o "get" apos e f cpos := by exact ⟨rfl, rfl, rfl, rfl⟩) :
    PE X (.Call (.Attribute o "get" apos) [e, f] [] cpos) (liftE X.K Γ W (dGetV2 fo fk fx)) :=
  (pe_dget2 hu ho he hf m).imp fun σ H Q ⟨C, l, g, R, ex, q, r, h, k, kx⟩ => by
    refine ⟨C, l, g, R, ex, _, r, h, fun x H1 R1 d l1 g1 s1 r1 z1 h1 => ?_, kx⟩
    split at h1
    · obtain ⟨a, rfl, isd⟩ := z1.isD r1.sub
      refine ⟨a, rfl, isd, C, l1, g1, R1, ex, _, r1, h1, fun y H2 R2 kd l2 g2 s2 r2 z2 h2 => ?_, kx.mono s1⟩
      refine ⟨C, l2, g2, R2, ex, _, r2, h2, fun z H3 R3 zd l3 g3 s3 r3 z3 h3 => ?_, (kx.mono s1).mono s2⟩
      obtain ⟨hk, hq⟩ := h3
      obtain ⟨a', o', e', gt, c⟩ := dget_of r3.sub (.of ((z1.mono s2).mono s3)) (.of (z2.mono s3)) hk
      cases e'
      refine ⟨o', gt, ?_⟩
      rcases c with ⟨c1, rfl⟩ | ⟨d', w, c1, rfl, zr⟩
      · rw [c1] at hq
        exact k z H3 R3 zd l3 g3 (s1.trans (s2.trans s3)) r3 z3 hq
      · rw [c1] at hq
        exact k w H3 R3 d' l3 g3 (s1.trans (s2.trans s3)) r3 zr hq
    · exact h1.elim
/-! tuple(range(n)) -/
theorem d_tr1 {a : Expr} {f : DE G} {p p2 p3 : Pos} (hc : X.calm = true) (hl : Gl X "tuple") (hml : X.mg "tuple" = none) (hg : Gl X "range") (hm : X.mg "range" = none) (ha : PE X a (liftE X.K Γ W f)) (na : starEach [a] X.env = (false, eval a X.env) :: starEach [] X.env := by rfl)
    (na2 : starEach [.Call (.Name "range" p) [a] [] pos] X.env = (false, eval (.Call (.Name "range" p) [a] [] pos) X.env) :: starEach [] X.env := by rfl) : PE X (.Call (.Name "tuple" p2) [.Call (.Name "range" p) [a] [] pos] [] p3) (liftE X.K Γ W (dTR1 f)) :=
  (pe_tupRg hc hl hml (prg_1 hg hm ha na) na2).imp fun σ H Q ⟨C, l, g, R, ex, q, r, h, k, kx⟩ => by
    refine ⟨C, l, g, R, ex, _, r, h, fun x H1 R1 d l1 g1 s1 r1 z1 h1 => ?_, kx⟩
    split at h1
    · rename_i n
      cases z1
      obtain ⟨b1, b2, b3, hq⟩ := h1
      have e : rgV 0 n = (List.range n.toNat).map fun i => V.int (0 + (i : Nat)) := by unfold rgV; rw [Int.sub_zero]
      refine ⟨n, rfl, ⟨by decide, by decide, b1, b2, ?_⟩, fun q hq2 => ?_⟩
      · rw [Int.sub_zero]
        exact b3
      · rw [e]
        obtain ⟨r2, s2, z2⟩ := r1.newT hq2 (rng_rep (K := X.K) (R := R1) 0 n.toNat)
        exact k _ _ _ _ l1 g1 (s1.trans s2) r2 z2 hq
    · exact h1.elim
theorem ag_intB : AgA K Γ (fun xs H Q => (∃ i, xs = [.int i] ∧ Q (.int i) H) ∨ ∃ k, xs = [.bl k] ∧ Q (.int (if k then 1 else 0)) H) bIntB := by
  intro C l g σ R H vs ds k Q r z hw fin
  unfold bIntB at hw
  split at hw
  · obtain ⟨v, rfl, rb⟩ := z.one
    rw [rb.bl]
    exact .inr ⟨_, rfl, fin _ H R _ (Sub.refl R) r (.int _) hw⟩
  · exact hw.elim
end
end Lk

set_option autoImplicit false
set_option linter.all false
set_option Elab.async false
set_option maxRecDepth 100000
set_option maxHeartbeats 4000000
/-! list(range(a, b)) of whole numbers of any size -/
namespace Lk
open PySem PySem.Spec PyProof.Rows L2 Dx
section
variable {P : Program} {w : World} {A : Around} {E : Value → Shared → Prop} {s : Shared}
abbrev RgAt (a : Int) : Nat → Value → Prop := fun i v => ∃ t, v = .int (a + i * 1) t
theorem ext_long {R : Result → Shared → Prop} {r : Addr} {a b : Int} {t u v : Tok} {n : Nat} (hh : A.handled = none) (hr : IsRange s.heap r a b 1 t u v) (big : Builtin.Range.small a b 1 = false) (hn : Builtin.Range.rangeSize a b 1 = n) (n24 : n ≤ 2 ^ 24) (S : Addr) (res : Value) (c0 : Nat)
    (hS : s.heap.get? S = some { cls := .type "list", data := .seq #[] c0 }) (hR : ∀ h' tk acc c', (∀ x o, x ≠ S → s.heap.get? x = some o → h'.get? x = some o) → h'.get? S = some { cls := .type "list", dict := none, data := .seq acc c', slots := #[] } → ItemsOf (RgAt a) acc n → R (.ok (.ret res)) { s with heap := h', toks := tk }) :
    wpAny (model P w) A.in1 (Builtin.List.listExtendWith (.ref S) (.ref r) res) (fun fin s' => match fin with | .done f => R (.ok f) s' | .again c' => c'.quiet = true ∧ codeAny (model P w) A c' R s') (fun e s' => R (.error e) s') s := by
  have neS : S ≠ r := fun e => (by rw [e, hr] at hS; simp at hS)
  have ltS : S < s.heap.objs.size := Heap.lt_size hS
  have neI : S ≠ s.heap.objs.size := Nat.ne_of_lt ltS
  have notI : S ∉ [s.heap.objs.size] := fun hm => neI (List.mem_singleton.mp hm)
  have WW := (Walks.longrange (prog := P) (w := w) (A := A.in1) hh s.heap.objs.size a 1 n).toS
  have loop : ∀ (h : Heap) (c1 tk : Nat), IsLongIter h s.heap.objs.size (a + ((0 : Nat) : Int) * 1) ((n : Int) - ((0 : Nat) : Int)) 1 → (∀ x o, x ≠ S → s.heap.get? x = some o → h.get? x = some o) → h.get? S = some { cls := .type "list", data := .seq #[] c1 } →
      codeAny (model P w) A (.builtin "list.extend.loop" ⟨[.ref S, .ref s.heap.objs.size, res], []⟩) R { s with heap := h, toks := tk } := fun h c1 tk hit hk hS1 => by
    refine codeAny_extend_loopS WW (by rw [sizeLine_eq]; omega) S notI res n 0 _ #[] c1 rfl (Nat.zero_le _) hit hS1 (ItemsOf.nil _) fun s' acc c' hm hS' hacc => ?_
    rw [Moved.eq_with hm]
    refine hR s'.heap s'.toks acc c' (fun x o hx e => hm.heap x o (fun hmem => ?_) (hk x o hx e)) hS' hacc
    exact (List.mem_cons.mp hmem).elim (fun e' => hx e') fun hmem => absurd (Heap.lt_size e) (by rw [List.mem_singleton.mp hmem]; exact Nat.lt_irrefl _)
  unfold Builtin.List.listExtendWith; refine wpAny_bind (wpAny_typeOf (T := "range") ⟨_, hr, rfl⟩ ?_)
  simp only [show Builtin.List.listSameRef (.ref S) (.ref r) = false by simp [Builtin.List.listSameRef, neS], show (Value.type "range" == Value.type "list") = false by decide, show (Value.type "range" == Value.type "tuple") = false by decide, Bool.or_false, Bool.false_eq_true, if_false]
  refine wpAny_bind (wpAny_pyIter_longrange hr big ?_)
  refine wpAny_bind (wpAny_holding (wpAny_hint_range (n := n) (Heap.get?_push_of_some _ hr) hn n24 ?_))
  have it0 : IsLongIter (s.heap.push { cls := .type "longrange_iterator", data := .fields #[rawInt a, rawInt (Builtin.Range.rangeSize a b 1), rawInt 1] }) s.heap.objs.size (a + ((0 : Nat) : Int) * 1) ((n : Int) - ((0 : Nat) : Int)) 1 := by
    show IsLongIter _ _ _ _ _
    rw [hn]
    simpa using Heap.get?_push_size _ rfl
  have S1 := Heap.get?_push_of_some { cls := .type "longrange_iterator", data := .fields #[rawInt a, rawInt (Builtin.Range.rangeSize a b 1), rawInt 1] } hS
  refine wpAny_ite_split (fun _ => ?_) (fun _ => wpAny_pure ⟨plainId_quiet PySem.F.plain_extend_loop _, loop _ c0 _ it0 (fun x o _ e => Heap.get?_push_of_some _ e) S1⟩)
  refine wpAny_bind (wpAny_rule (wpAny_bind ?_))
  show wpAny _ _ (updateSeq S (·.push .none) >>= fun _ => updateSeq S (·.pop)) _ _ _; refine wpAny_bind (wpAny_updateSeq S1 rfl ?_)
  have S2 := Heap.get?_update_self (Obj.mapSeq (·.push Value.none)) S1 rfl
  refine wpAny_updateSeq (hz := by seq_fits) S2 rfl ?_
  have S3 := Heap.get?_update_self (Obj.mapSeq (·.pop)) S2 rfl
  refine wpAny_pure ⟨plainId_quiet PySem.F.plain_extend_loop _, loop _ _ _ ((Heap.get?_update_other _ _ neI).trans ((Heap.get?_update_other _ _ neI).trans it0)) (fun x o hx e => ?_) S3⟩
  exact (Heap.get?_update_other _ _ (Ne.symm hx)).trans ((Heap.get?_update_other _ _ (Ne.symm hx)).trans (Heap.get?_push_of_some _ e))
theorem init_long {R : Result → Shared → Prop} {r : Addr} {a b : Int} {t u v : Tok} {n : Nat} (hh : A.handled = none) (hr : IsRange s.heap r a b 1 t u v) (big : Builtin.Range.small a b 1 = false) (hn : Builtin.Range.rangeSize a b 1 = n) (n24 : n ≤ 2 ^ 24) (S : Addr) (hS : s.heap.get? S = some { cls := .type "list", data := .seq #[] })
    (hR : ∀ h' tk acc c', (∀ x o, x ≠ S → s.heap.get? x = some o → h'.get? x = some o) → h'.get? S = some { cls := .type "list", dict := none, data := .seq acc c', slots := #[] } → ItemsOf (RgAt a) acc n → R (.ok (.ret .none)) { s with heap := h', toks := tk }) :
    wpAny (model P w) A.in1 (Builtin.«list.__init__» ⟨[.ref S, .ref r], []⟩) (fun fin s' => match fin with | .done f => R (.ok f) s' | .again c' => c'.quiet = true ∧ codeAny (model P w) A c' R s') (fun e s' => R (.error e) s') s := by
  have neS : S ≠ r := fun e => (by rw [e, hr] at hS; simp at hS)
  show wpAny _ _ (do let old ← Builtin.List.listItems (.ref S); Builtin.List.listUpdate (.ref S) (fun _ => #[]); letGo old.toList.reverse; Builtin.List.listExtendWith (.ref S) (.ref r) .none) _ _ s; refine wpAny_bind ?_
  unfold Builtin.List.listItems; refine wpAny_bind (wpAny_seqItems hS rfl (wpAny_pure ?_))
  show wpAny _ _ (updateSeq S (fun _ => #[]) >>= fun _ => letGo (#[] : Array Value).toList.reverse >>= fun _ => Builtin.List.listExtendWith (.ref S) (.ref r) .none) _ _ s; refine wpAny_bind (wpAny_updateSeq hS rfl ?_)
  have S2 := Heap.get?_update_self (Obj.mapSeq (fun _ => (#[] : Array Value))) hS rfl
  have rest : ∀ x o, x ≠ S → s.heap.get? x = some o → (s.heap.update S (Obj.mapSeq (fun _ => (#[] : Array Value)))).get? x = some o := fun x o hx e => (Heap.get?_update_other _ _ (Ne.symm hx)).trans e
  refine wpAny_bind (wpAny_letGo (ext_long hh (rest r _ (Ne.symm neS) hr) big hn n24 S .none _ S2 fun h' tk acc c' hk hS' hacc => hR h' tk acc c' (fun x o hx e => hk x o hx (rest x o hx e)) hS' hacc))
theorem call_long {Q : Value → Shared → Prop} {r : Addr} {a b : Int} {t u v : Tok} {n : Nat} (hh : A.handled = none) (hr : IsRange s.heap r a b 1 t u v) (big : Builtin.Range.small a b 1 = false) (hn : Builtin.Range.rangeSize a b 1 = n) (n24 : n ≤ 2 ^ 24)
    (hQ : ∀ h' tk acc c', (∀ x o, s.heap.get? x = some o → h'.get? x = some o) → h'.get? s.heap.objs.size = some { cls := .type "list", dict := none, data := .seq acc c', slots := #[] } → ItemsOf (RgAt a) acc n → Q (.ref s.heap.objs.size) { s with heap := h', toks := tk }) :
    wpAny (model P w) A (call (.type "list") [.ref r]) Q E s := by
  refine callType_codes (Q₁ := fun obj s1 => obj = .ref s.heap.objs.size ∧ s1 = { s with heap := s.heap.push { cls := .type "list", data := .seq #[] } }) PySem.F.called_list (PySem.F.typeCall_list_1 _) PySem.F.entry_list_init (code_list_new _ ⟨rfl, rfl⟩) fun obj s1 h1 => ?_
  obtain ⟨rfl, rfl⟩ := h1
  have S0 : (s.heap.push { cls := .type "list", data := .seq #[] }).get? s.heap.objs.size = some { cls := .type "list", data := .seq #[] } := Heap.get?_push_size _ rfl
  exact ⟨⟨_, S0, rfl⟩, PySem.F.args_list_init_2 _ _, init_long (A := A.in1) hh (Heap.get?_push_of_some _ hr) big hn n24 _ S0 fun h' tk acc c' hk hS' hacc => ⟨rfl, hQ h' tk acc c' (fun x o e => hk x o (Nat.ne_of_lt (Heap.lt_size e)) (Heap.get?_push_of_some _ e)) hS' hacc⟩⟩
/-- of any size -/
theorem call_anyRg {Q : Value → Shared → Prop} {r : Addr} {a b : Int} {t u v : Tok} {n : Nat} (hh : A.handled = none) (hr : IsRange s.heap r a b 1 t u v) (hn : Builtin.Range.rangeSize a b 1 = n) (n24 : n ≤ 2 ^ 24)
    (hQ : ∀ h' tk acc c', (∀ x o, s.heap.get? x = some o → h'.get? x = some o) → h'.get? s.heap.objs.size = some { cls := .type "list", dict := none, data := .seq acc c', slots := #[] } → ItemsOf (RgAt a) acc n → Q (.ref s.heap.objs.size) { s with heap := h', toks := tk }) :
    wpAny (model P w) A (call (.type "list") [.ref r]) Q E s := by
  cases h : Builtin.Range.small a b 1 with
  | true => exact call_list_range hh hr h hn n24 hQ
  | false => exact call_long hh hr h hn n24 hQ
end
section
variable {X : Cx}
def tLstRgW (te : L2.St → Hp → (Int → Int → Hp → Prop) → Prop) : TE := fun σ H Q => te σ H fun a b H1 => (b - a).toNat ≤ 2 ^ 24 ∧ ∀ q, H1 q = none → Q (.ref q) (upd H1 q (.lst (rgV a b)))
theorem pe_listRgW {e : Expr} {te : L2.St → Hp → (Int → Int → Hp → Prop) → Prop} {p pos : Pos} (hc : X.calm = true) (hg : Gl X "list") (hm : X.mg "list" = none) (he : PRg X e te) (na : starEach [e] X.env = (false, eval e X.env) :: starEach [] X.env := by rfl) : PE X (.Call (.Name "list" p) [e] [] pos) (tLstRgW te) := by
  refine ⟨fun pins s σ H Q I h => ?_⟩
  refine Call_ (ld_blt I hg hm boot_list (PyProof.Rows.callWith_type1 (args_cons (thn (he pins s σ H _ I h) fun x s1 ⟨r, a, b, t, u, v, H1, ex, hr, I1, n24, q⟩ => args_nil ?_) na) na))
  subst ex
  refine call_anyRg (n := (b - a).toNat) (I1.ok.hd hc) hr (rangeSize_nat a b) n24 fun h' tk acc c' hk e' hi => ⟨.ref s1.heap.objs.size, upd H1 s1.heap.objs.size (.lst (rgV a b)), I1.laid hk (Nat.le_refl _) (show ObjOk X.prog X.w _ _ _ (.lst (rgV a b)) from ⟨?_, acc.toList, c', vals_rg hi, ?_⟩), rfl, q _ (I1.hok.fresh (Nat.le_refl _))⟩
  · rw [rgV_length, sizeLine_eq]
    omega
  · rw [Array.toArray_toList]
    exact e'
end
section
variable {G : Type} {Γ : GInt G} {X : Cx} {W : WX}
theorem d_lr2W {a b : Expr} {f f' : DE G} {p p2 p3 pos : Pos} (hc : X.calm = true) (hl : Gl X "list") (hml : X.mg "list" = none) (hg : Gl X "range") (hm : X.mg "range" = none) (ha : PE X a (liftE X.K Γ W f)) (hb : PE X b (liftE X.K Γ W f')) (na : starEach [a, b] X.env = (false, eval a X.env) :: starEach [b] X.env := by rfl)
    (nb : starEach [b] X.env = (false, eval b X.env) :: starEach [] X.env := by rfl) (hp : (backTo pos (starEach [b] X.env)).any (·.1) = false := by rfl)
    (na2 : starEach [.Call (.Name "range" p) [a, b] [] pos] X.env = (false, eval (.Call (.Name "range" p) [a, b] [] pos) X.env) :: starEach [] X.env := by rfl) : PE X (.Call (.Name "list" p2) [.Call (.Name "range" p) [a, b] [] pos] [] p3) (liftF X.K Γ W (dLR (iR2W f f'))) :=
  (pe_listRgW hc hl hml (prg_2 hg hm ha hb na nb hp) na2).imp fun σ H Q ⟨C, l, g, R, ex, q, r, h, k, kx⟩ => by
    refine ⟨C, l, g, R, ex, _, r, h, fun x H1 R1 d l1 g1 s1 r1 z1 h1 => ?_, kx⟩
    refine ⟨C, l1, g1, R1, ex, _, r1, h1, fun y H2 R2 e l2 g2 s2 r2 z2 h2 => ?_, kx.mono s1⟩
    split at h2
    · rename_i m n
      cases z1
      cases z2
      obtain ⟨b3, hq⟩ := h2
      refine ⟨m, n, rfl, rfl, ?_, fun q hq2 => ?_⟩
      · unfold rng at b3
        rw [List.length_map, List.length_range] at b3
        exact b3
      · obtain ⟨r3, z3⟩ := r2.newLF hq2 (rng_rep (K := X.K) (R := R2) m (n - m).toNat)
        obtain ⟨n1, n2, n3, n4⟩ := r2.newF hq2
        exact k q _ R2 _ l2 g2 (s1.trans s2) r3 z3 n1 n2 n3 n4 hq
    · exact h2.elim
end
end Lk

set_option autoImplicit false
set_option linter.all false
set_option Elab.async false
set_option maxRecDepth 100000
set_option maxHeartbeats 4000000
/-! range with a step -/
namespace Lk
open PySem PySem.Spec PyProof.Rows L2 Dx
theorem small_step {a b c : Int} (a0 : 0 ≤ a) (a1 : a < 1099511627776) (b0 : 0 ≤ b) (b1 : b < 1099511627776) (c0 : 0 < c) (c1 : c < 1073741824) : Builtin.Range.small a b c = true := by
  have hs : 0 ≤ Builtin.Range.rangeSize a b c ∧ Builtin.Range.rangeSize a b c ≤ b := by
    have h1 := rangeSize_toNat a b c
    unfold Builtin.Range.rangeSize
    rw [if_pos (by omega : c > 0)]
    split
    · have h2 := Int.ediv_nonneg (a := b - a - 1) (b := c) (by omega) (by omega)
      have h3 := Int.ediv_le_self c (show (0 : Int) ≤ b - a - 1 by omega)
      omega
    · omega
  unfold Builtin.Range.small
  generalize Builtin.Range.rangeSize a b c = z at hs
  simp only [Builtin.Range.rangeFitsLong, Bool.and_eq_true, Bool.or_eq_true, decide_eq_true_eq, beq_iff_eq]
  refine ⟨by omega, .inr ?_⟩
  rw [if_pos (by omega), Bool.and_eq_true, decide_eq_true_eq, decide_eq_true_eq]
  omega
section
variable {G : Type} {Γ : GInt G} {K : Fg} {X : Cx} {W : WX} {pos : Pos}
theorem wk_rngC {C : Fx} {R : Hp} (lo c : Int) (n : Nat) : Wk K Γ C R (Itc lo c n) (rngC lo c n) := fun R1 H l g σ s r i => by
  have hl : (rngC lo c n).length = n := by simp [rngC]
  refine ⟨fun hi => ⟨by rw [hl] at hi; exact hi, fun x H' ⟨e1, y⟩ => ?_⟩, fun e => have hi := Nat.le_of_eq e.symm; by rw [hl] at hi; exact hi⟩
  subst e1 y
  rw [hl] at hi
  exact ⟨R1, Sub.refl R1, r, .int (lo + i * c), by simp [rngC, hi], .int _⟩
theorem di_r3 {tg a b c : Expr} {f f' f2 : DE G} {p : Pos} (hg : Gl X "range") (hm : X.mg "range" = none) (ha : PE X a (liftE X.K Γ W f)) (hb : PE X b (liftE X.K Γ W f')) (hc : PE X c (liftE X.K Γ W f2)) (hs : starEach [a, b, c] X.env = (false, eval a X.env) :: starEach [b, c] X.env := by rfl)
    (hs2 : starEach [b, c] X.env = (false, eval b X.env) :: starEach [c] X.env := by rfl) (hs3 : starEach [c] X.env = (false, eval c X.env) :: starEach [] X.env := by rfl) (hpl : (backTo pos (starEach [b, c] X.env)).any (·.1) = false := by rfl) : PI X tg (.Call (.Name "range" p) [a, b, c] [] pos) (liftI X.K Γ W (iR3 f f' f2)) :=
  (pi_range3 hg hm (pa_cons ha (pa_cons hb (pa_cons hc pa_nil hs3) hs2) hs) hs hpl).imp fun σ H P ⟨C, l, g, R, ex, q, r, h, k, kx⟩ => by
    refine ⟨C, l, g, R, ex, _, r, h, fun x H1 R1 d l1 g1 s1 r1 z1 h1 => ?_, kx⟩
    refine ⟨C, l1, g1, R1, ex, _, r1, h1, fun y H2 R2 e l2 g2 s2 r2 z2 h2 => ?_, kx.mono s1⟩
    refine ⟨C, l2, g2, R2, ex, _, r2, h2, fun u H3 R3 e3 l3 g3 s3 r3 z3 h3 => ?_, (kx.mono s1).mono s2⟩
    split at h3
    · rename_i m n kk
      cases z1
      cases z2
      cases z3
      obtain ⟨⟨a0, a1, b0, b1, c0, c1⟩, hq⟩ := h3
      refine ⟨m, n, kk, stepN m n kk, rfl, ⟨by omega, by omega, small_step a0 a1 b0 b1 c0 c1, ?_⟩, k _ H3 R3 _ l3 g3 (s1.trans (s2.trans s3)) r3 (fun _ => wk_rngC _ _ _) hq⟩
      rw [rangeSize_toNat]
      unfold stepN Builtin.Range.rangeSize
      rw [if_pos (by omega : kk > 0)]
    · exact h3.elim
end
end Lk

set_option autoImplicit false
set_option linter.all false
set_option Elab.async false
set_option maxRecDepth 100000
set_option maxHeartbeats 4000000
/-! exceptions: raised without arguments, caught -/
namespace Lk
open PySem PySem.Spec PyProof.Rows L2 Dx
section
variable {G : Type} {Γ : GInt G} {K : Fg} {X : Cx} {W : WX} {pos pos' : Pos}
/-! ### raise C() -/
theorem pmk_x0 {C : Addr} {x : Str} {p : Pos} (q : PySem.W.excIn X.K C He.veBase "ValueError.__new__" = true) (gC : X.mg x = some (.ref C)) (kC : PySem.W.keepIn X.K (.ref C) = true) (r : Raises X (.ref C)) (hg : Gl X x)
    (hdb : (x == ("__debug__" : Str)) = false := by decide) : L2N.PMk X (.Call (.Name x p) [] [] pos) (fun _ H Q => Q (.ref C) none H) := by
  intro pins s σ H Q I h
  refine wpAny_Call_Name_kw (ld_glob I hg gC ?_ hdb)
  refine PySem.W.callWith_K0 I.kIn kC ?_
  obtain ⟨bm, N, nm, qn, bs, hdct, sn, sub, ab, col, dd, k0, k1, k2, k3, k5, mN, hC, hN, hni, T⟩ := exc_obj I.kIn q
  exact wpAny_call_exc_subT PySem.F.excBase_ValueError T hC hN hni (fun h' e hm => L2N.mk_of I hm r h (I.hok.gone hm.new)) (Nat.zero_le _)
/-- a class that is raised without arguments -/
def RaiOk (K : Fg) (c : String) : Prop := PySem.W.excIn K (clsA K c) He.veBase "ValueError.__new__" = true ∧ PySem.W.keepIn K (.ref (clsA K c)) = true ∧ PySem.W.subIn K (.ref (clsA K c)) (.type "BaseException") = some true ∧ PySem.W.typeIn K (.ref (clsA K c)) = some (.type "type")
theorem ds_raise {c : String} {x : Str} {p : Pos} (hc : X.calm = true) (tk : L2N.Takes X W) (q : RaiOk X.K c) (hm : X.mg x = some (.ref (clsA X.K c))) (hg : Gl X x) (hdb : (x == ("__debug__" : Str)) = false := by decide) :
    PS X (.Raise (some (.Call (.Name x p) [] [] pos)) none pos') (liftS X.K Γ W (sRaise c)) :=
  (L2N.ps_raise hc tk (pmk_x0 q.1 hm q.2.1 (raises_own q.2.2.1 q.2.2.2) hg hdb)).imp fun D σ H ⟨C, l, g, R, ex, E, r, h, _, _, _, _, kx⟩ => kx σ (.ref (clsA X.K c)) none H R ⟨c, []⟩ l g (Sub.refl R) r ⟨rfl, fun a => .exc a c⟩ h
/-! ### try -/
/-- nothing is known of a name -/
theorem Rel.setN {C : Fx} {l : L} {g : G} {σ : L2.St} {R H : Hp} (r : Rel K Γ C l g σ R H) (i : Nat) (u : Option V) : Rel K Γ C (l.set i .no) g (σ.set i u) R H := by
  have back : ∀ {j : Nat} {s : SV}, s ≠ .no → (l.set i .no)[j]? = some s → i ≠ j ∧ l[j]? = some s := fun {j s} n h => by
    by_cases z : i = j
    · subst z
      rw [List.getElem?_set] at h
      simp only [if_true] at h
      split at h
      · cases h
        exact absurd rfl n
      · cases h
    · rw [List.getElem?_set_ne z] at h
      exact ⟨z, h⟩
  refine ⟨by rw [List.length_set, List.length_set]; exact r.len, r.sub, r.keep, r.rnew, r.gat, r.gfr, fun j e h => ?_, fun j e h => ?_, fun j k d' e' a ne h1 h2 h3 => ?_⟩
  · obtain ⟨z, h⟩ := back (by simp) h
    rw [List.getElem?_set_ne z]
    exact r.va j e h
  · obtain ⟨z, h⟩ := back (by simp) h
    rw [List.getElem?_set_ne z]
    exact r.ow j e h
  · obtain ⟨z1, h1⟩ := back (by simp) h1
    obtain ⟨z2, h2⟩ := back (by simp) h2
    rw [List.getElem?_set_ne z1] at h3
    rw [List.getElem?_set_ne z2]
    exact r.sep j k d' e' a ne h1 h2 h3
theorem exc_d {R : Hp} {v : V} {a : Nat} {d : Option Nat} {c : String} {fs : List D} (h : Rep K R v (.exc a d c fs)) : v = .ref a ∧ (fs = [] ↔ d = none) := by
  cases h with
  | exc => exact ⟨rfl, by simp⟩
  | exf n _ _ => exact ⟨rfl, by simp [n]⟩
/-- a suite's wish -/
def tSuite (K : Fg) (Γ : GInt G) (cs : List String) (s : D → DS G) (a : Addr) (cls : Value) (d : Option Addr) : TS := fun D σ H => ∃ k fs, cls = .ref (clsA K k) ∧ k ∈ cs ∧ liftS K Γ W0 (s (.exc a d k fs)) D σ H
theorem hd_as {C : Fx} {E : En G} {Dn : Ends} {R : Hp} {cs : List String} {c : String} {i : Nat} {s : D → DS G} {cls : Value} {dx : Option Addr} {H' R' : Hp} {x : Xn} {l' : L} {g' : G} {σ' : L2.St}
    (k1 : ∀ σ' H' R' l' g', Sub R R' → Rel K Γ C l' g' σ' R' H' → E.nx l' g' → Dn.nx σ' H')
    (k2 : ∀ v σ' H' R' d l' g', Sub R R' → Rel K Γ C l' g' σ' R' H' → ((Rep K R' v d ∧ E.rt d l' g') ∨ (NewAt K Γ C g' R' H' v d ∧ E.rf d l' g')) → Dn.rt v H')
    (k3 : ∀ σ' H' R' l' g', Sub R R' → Rel K Γ C l' g' σ' R' H' → E.bk l' g' → Dn.bk σ' H') (k4 : ∀ σ' H' R' l' g', Sub R R' → Rel K Γ C l' g' σ' R' H' → E.ct l' g' → Dn.ct σ' H')
    (s' : Sub R R') (r' : Rel K Γ C l' g' σ' R' H') (xr : XRep K R' H' cls dx x) (hm : x.c ∈ cs) (a : Addr) (h : hdRun ⟨c, some i, s⟩ (.exc a dx x.c x.fs) E l' g') :
    tSuite K Γ cs s a cls dx { nx := fun σ' H' => Dn.nx (σ'.set i none) H', rt := Dn.rt, bk := fun σ' H' => Dn.bk (σ'.set i none) H', ct := fun σ' H' => Dn.ct (σ'.set i none) H' } (σ'.set i (some (.ref a))) H' := by
  refine ⟨x.c, x.fs, xr.1, hm, C, _, g', R', _, _, r'.setV (xr.2 a), h, fun σ2 H2 R2 l2 g2 s2 r2 h2 => ?_, fun v σ2 H2 R2 d l2 g2 s2 r2 h2 => ?_, fun σ2 H2 R2 l2 g2 s2 r2 h2 => ?_, fun σ2 H2 R2 l2 g2 s2 r2 h2 => ?_, fun σ2 cls2 dx2 H2 R2 x2 l2 g2 s2 r2 xr2 h2 => h2.elim⟩
  · exact k1 _ H2 R2 _ g2 (s'.trans s2) (r2.setN i none) h2
  · exact k2 v σ2 H2 R2 d l2 g2 (s'.trans s2) r2 h2
  · exact k3 _ H2 R2 _ g2 (s'.trans s2) (r2.setN i none) h2
  · exact k4 _ H2 R2 _ g2 (s'.trans s2) (r2.setN i none) h2
theorem hd_no {C : Fx} {E : En G} {Dn : Ends} {R : Hp} {cs : List String} {c : String} {s : D → DS G} {cls : Value} {dx : Option Addr} {H' R' : Hp} {x : Xn} {l' : L} {g' : G} {σ' : L2.St}
    (k1 : ∀ σ' H' R' l' g', Sub R R' → Rel K Γ C l' g' σ' R' H' → E.nx l' g' → Dn.nx σ' H')
    (k2 : ∀ v σ' H' R' d l' g', Sub R R' → Rel K Γ C l' g' σ' R' H' → ((Rep K R' v d ∧ E.rt d l' g') ∨ (NewAt K Γ C g' R' H' v d ∧ E.rf d l' g')) → Dn.rt v H')
    (k3 : ∀ σ' H' R' l' g', Sub R R' → Rel K Γ C l' g' σ' R' H' → E.bk l' g' → Dn.bk σ' H') (k4 : ∀ σ' H' R' l' g', Sub R R' → Rel K Γ C l' g' σ' R' H' → E.ct l' g' → Dn.ct σ' H')
    (s' : Sub R R') (r' : Rel K Γ C l' g' σ' R' H') (xr : XRep K R' H' cls dx x) (hm : x.c ∈ cs) (a : Addr) (h : hdRun ⟨c, none, s⟩ (.exc a dx x.c x.fs) E l' g') :
    tSuite K Γ cs s a cls dx Dn σ' H' := by
  refine ⟨x.c, x.fs, xr.1, hm, C, l', g', R', _, E, r', h, fun σ2 H2 R2 l2 g2 s2 r2 h2 => ?_, fun v σ2 H2 R2 d l2 g2 s2 r2 h2 => ?_, fun σ2 H2 R2 l2 g2 s2 r2 h2 => ?_, fun σ2 H2 R2 l2 g2 s2 r2 h2 => ?_, fun σ2 cls2 dx2 H2 R2 x2 l2 g2 s2 r2 xr2 h2 => h2.elim⟩
  · exact k1 _ H2 R2 _ g2 (s'.trans s2) r2 h2
  · exact k2 v σ2 H2 R2 d l2 g2 (s'.trans s2) r2 h2
  · exact k3 _ H2 R2 _ g2 (s'.trans s2) r2 h2
  · exact k4 _ H2 R2 _ g2 (s'.trans s2) r2 h2
/-- the suite of a clause -/
def SuiteOk (X : Cx) (Γ : GInt G) (cs : List String) (body : List Stmt) (s : D → DS G) : Prop :=
  ∀ (a : Addr) (oe : Obj) (d : Option Addr) (k : String) (fs : List D) (pn : List (Addr × Obj)), k ∈ cs → L2N.Zn (.ref (clsA X.K k)) d oe → (∃ vs, oe.data = .fields vs) → PSs (X.suite a ((a, oe) :: pn)) body (liftS X.K Γ W0 (s (.exc a d k fs)))
theorem SuiteOk.pss {cs : List String} {body : List Stmt} {s : D → DS G} (h : SuiteOk X Γ cs body s) (a : Addr) (oe : Obj) (cls : Value) (d : Option Addr) (pn : List (Addr × Obj)) (hz : L2N.Zn cls d oe) (hd : ∃ vs, oe.data = .fields vs) :
    PSs (X.suite a ((a, oe) :: pn)) body (tSuite X.K Γ cs s a cls d) := ⟨fun pins st σ H D I z => by
  obtain ⟨k, fs, rfl, hk, z⟩ := z
  exact (h a oe d k fs pn hk hz hd).run pins st σ H D I z⟩
/-- try: .. except c as n: .. -/
theorem ds_tryA {x n : Str} {c : String} {i : Nat} {body suite : List Stmt} {b₀ : Stmt} {np : Pos} {cs : List String} {b : DS G} {s : D → DS G} (hs : X.stack = X.env :: X.outer) (hf : X.env.frame = some X.env.locals) (hN : X.N.Nodup) (hi : X.N[i]? = some n) (hln : X.env.kindOf n = some .local)
    (hc : Names X x (.ref (clsA X.K c))) (tk : L2N.Takes X W) (fx : ∀ k ∈ cs, PySem.W.exmOne X.K (.ref (clsA X.K k)) (.ref (clsA X.K c)) = some (xSub k c))
    (hb : ∀ (W : WX) (pn : List (Addr × Obj)) (xe : Value → Shared → Prop), L2N.Takes (X.tr pn xe) W → PassesOwn (model X.prog X.w) X.A X.env xe → PSs (X.tr pn xe) body (liftS X.K Γ W b)) (hsu : SuiteOk X Γ cs (b₀ :: suite) s) :
    PS X (.Try body [.ExceptHandler (some (.Name x np)) (some n) (b₀ :: suite) pos'] [] [] pos) (liftS X.K Γ W (sTry cs b [⟨c, some i, s⟩])) :=
  (L2N.ps_try_as (ts := tSuite X.K Γ cs s) (Wout := W) hs hf hN hi hln hc tk hb hsu.pss).imp fun D σ H ⟨C, l, g, R, ex, E, r, h, k1, k2, k3, k4, kx⟩ => by
    refine ⟨C, l, g, R, _, E, r, h, k1, k2, k3, k4, fun σ' cls dx H' R' y l' g' s' r' xr hx => ?_⟩
    obtain ⟨hm, hx⟩ := hx
    refine ⟨xSub y.c c, by rw [xr.1]; exact fx y.c hm, fun hb a ha => ?_, fun hb => ?_⟩
    · have hx : if xSub y.c c = true then ∀ a d, (y.fs = [] ↔ d = none) → hdRun ⟨c, some i, s⟩ (.exc a d y.c y.fs) E l' g' else ex y l' g' := hx
      rw [if_pos hb] at hx
      exact hd_as k1 k2 k3 k4 s' r' xr hm a (hx a dx (exc_d (xr.2 a)).2)
    · have hx : if xSub y.c c = true then ∀ a d, (y.fs = [] ↔ d = none) → hdRun ⟨c, some i, s⟩ (.exc a d y.c y.fs) E l' g' else ex y l' g' := hx
      rw [if_neg (by rw [hb]; decide)] at hx
      exact kx σ' cls dx H' R' y l' g' s' r' xr hx
/-- several clauses without names -/
inductive Hds (X : Cx) (Γ : GInt G) (cs : List String) : List ExceptHandler → List (Hd G) → Prop
  | nil : Hds X Γ cs [] []
  | cons {x : Str} {c : String} {s : D → DS G} {b₀ : Stmt} {suite : List Stmt} {np pos' : Pos} {hds : List ExceptHandler} {hs : List (Hd G)} (hc : Names X x (.ref (clsA X.K c))) (fx : ∀ k ∈ cs, PySem.W.exmOne X.K (.ref (clsA X.K k)) (.ref (clsA X.K c)) = some (xSub k c))
      (hsu : SuiteOk X Γ cs (b₀ :: suite) s) (r : Hds X Γ cs hds hs) : Hds X Γ cs (.ExceptHandler (some (.Name x np)) none (b₀ :: suite) pos' :: hds) (⟨c, none, s⟩ :: hs)
def hdT (K : Fg) (Γ : GInt G) (cs : List String) (h : Hd G) : Value × (Addr → Value → Option Addr → TS) := (.ref (clsA K h.c), tSuite K Γ cs h.b)
theorem Hds.ok {cs : List String} : ∀ {hds : List ExceptHandler} {hs : List (Hd G)}, Hds X Γ cs hds hs → L2N.HdsOk X hds (hs.map (hdT X.K Γ cs))
  | _, _, .nil => .nil
  | _, _, .cons hc _ hsu r => .cons hc hsu.pss r.ok
theorem Hds.run {cs : List String} {C : Fx} {E : En G} {Dn : Ends} {R : Hp} {ex : XW G} {cls : Value} {dx : Option Addr} {H' R' : Hp} {x : Xn} {l' : L} {g' : G} {σ' : L2.St}
    (k1 : ∀ σ' H' R' l' g', Sub R R' → Rel X.K Γ C l' g' σ' R' H' → E.nx l' g' → Dn.nx σ' H')
    (k2 : ∀ v σ' H' R' d l' g', Sub R R' → Rel X.K Γ C l' g' σ' R' H' → ((Rep X.K R' v d ∧ E.rt d l' g') ∨ (NewAt X.K Γ C g' R' H' v d ∧ E.rf d l' g')) → Dn.rt v H')
    (k3 : ∀ σ' H' R' l' g', Sub R R' → Rel X.K Γ C l' g' σ' R' H' → E.bk l' g' → Dn.bk σ' H') (k4 : ∀ σ' H' R' l' g', Sub R R' → Rel X.K Γ C l' g' σ' R' H' → E.ct l' g' → Dn.ct σ' H')
    (kx : ∀ σ', XTo X.K Γ C R ex (fun c d H' => W c d σ' H') σ') (s' : Sub R R') (r' : Rel X.K Γ C l' g' σ' R' H') (xr : XRep X.K R' H' cls dx x) (hm : x.c ∈ cs) :
    ∀ {hds : List ExceptHandler} {hs : List (Hd G)}, Hds X Γ cs hds hs → hdAll ex E hs x l' g' → wMany X.K W Dn (hs.map (hdT X.K Γ cs)) cls dx σ' H'
  | _, _, .nil, h => kx σ' cls dx H' R' x l' g' s' r' xr h
  | _, _, .cons (c := c) (s := s) (hs := hs) _ fx _ r, h => by
    have h : if xSub x.c c = true then ∀ a d, (x.fs = [] ↔ d = none) → hdRun ⟨c, none, s⟩ (.exc a d x.c x.fs) E l' g' else hdAll ex E hs x l' g' := h
    refine ⟨xSub x.c c, by rw [xr.1]; exact fx x.c hm, fun hb a ha => ?_, fun hb => ?_⟩
    · rw [if_pos hb] at h
      exact hd_no k1 k2 k3 k4 s' r' xr hm a (h a dx (exc_d (xr.2 a)).2)
    · rw [if_neg (by rw [hb]; decide)] at h
      exact Hds.run k1 k2 k3 k4 kx s' r' xr hm r h
theorem ds_tryM {body : List Stmt} {h₀ : ExceptHandler} {hds : List ExceptHandler} {cs : List String} {b : DS G} {hh : List (Hd G)} (hs : X.stack = X.env :: X.outer) (hf : X.env.frame = some X.env.locals) (tk : L2N.Takes X W)
    (hb : ∀ (W : WX) (pn : List (Addr × Obj)) (xe : Value → Shared → Prop), L2N.Takes (X.tr pn xe) W → PassesOwn (model X.prog X.w) X.A X.env xe → PSs (X.tr pn xe) body (liftS X.K Γ W b)) (hk : Hds X Γ cs (h₀ :: hds) hh) :
    PS X (.Try body (h₀ :: hds) [] [] pos) (liftS X.K Γ W (sTry cs b hh)) :=
  (L2N.ps_try_many (Wout := W) hs hf tk hb hk.ok).imp fun D σ H ⟨C, l, g, R, ex, E, r, h, k1, k2, k3, k4, kx⟩ =>
    ⟨C, l, g, R, _, E, r, h, k1, k2, k3, k4, fun σ' cls dx H' R' y l' g' s' r' xr hx => Hds.run k1 k2 k3 k4 kx s' r' xr hx.1 hk hx.2⟩
/-! ### in a suite -/
theorem bt_isi : bootBuiltins "isinstance" = some (.builtin "isinstance") := by decide +kernel
/-- isinstance(e, C) -/
theorem d_isX {a : Addr} {oe : Obj} {d : Option Addr} {k : String} {fs : List D} {pn : List (Addr × Obj)} {i : Nat} {n x : Str} {c : String} {p p1 p2 : Pos} (C : XcOk X.K (clsA X.K k)) (kc : PySem.W.kitOne X.K (.ref (clsA X.K k)) (.ref (clsA X.K c)) = some (xSub k c))
    (hz : L2N.Zn (.ref (clsA X.K k)) d oe) (hf : ∃ vs, oe.data = .fields vs) (hg : Gl X "isinstance") (hm : X.mg "isinstance" = none) (hn : PE (X.suite a ((a, oe) :: pn)) (.Name n p1) (tVar i)) (hgx : Gl X x) (hmx : X.mg x = some (.ref (clsA X.K c)))
    (hdb : (x == ("__debug__" : Str)) = false := by decide) (he : starEach [.Name n p1, .Name x p2] X.env = (false, eval (.Name n p1) X.env) :: starEach [.Name x p2] X.env := by rfl) (he2 : starEach [.Name x p2] X.env = (false, eval (.Name x p2) X.env) :: starEach [] X.env := by rfl)
    (hpl : (backTo pos (starEach [.Name x p2] X.env)).any (·.1) = false := by rfl) :
    PE (X.suite a ((a, oe) :: pn)) (.Call (.Name "isinstance" p) [.Name n p1, .Name x p2] [] pos) (liftE X.K Γ W (dIsX i (.exc a d k fs) c)) := by
  have hx : PE (X.suite a ((a, oe) :: pn)) (.Name x p2) (tC (.ref (clsA X.K c))) := pe_glob (X := X.suite a ((a, oe) :: pn)) hgx hmx rfl hdb
  refine ⟨fun pins s σ H Q I h => ?_⟩
  obtain ⟨C0, l, g, R, ex, q, r, h, kk, _⟩ := h
  obtain ⟨v, ev, rv⟩ := r.va i (.exc a d k fs) (by
    unfold dIsX getV at h
    split at h
    · rename_i y hy
      rw [h.1] at hy
      exact hy
    · exact h.elim)
  have hq : q (.bl (xSub k c)) l g := by
    unfold dIsX getV at h
    split at h
    · exact h.2
    · exact h.elim
  obtain ⟨rfl, _⟩ := exc_d rv
  have hr : CallR (X.suite a ((a, oe) :: pn)) (.builtin "isinstance") (fun xs H' Q => xs = [.ref a, .ref (clsA X.K c)] ∧ H' = H ∧ Q (.bl (xSub k c)) H') := by
    intro pins2 s2 σ2 H2 xs us Q2 I2 ru h
    obtain ⟨rfl, rfl, hQ⟩ := h
    cases ru with
    | cons ra ru =>
      cases ru with
      | cons rb ru =>
        cases ru
        cases ra
        cases rb
        obtain ⟨hget, _⟩ := I2.pin (a, oe) (List.mem_append.mpr (.inl List.mem_cons_self))
        obtain ⟨vs, hv⟩ := hf
        have J : ∃ od, PySem.W.InstAt s2.heap a oe (clsA X.K k) od := by
          obtain ⟨oc, od, oda, osl⟩ := oe
          obtain ⟨h1, h2, _⟩ := hz
          dsimp only at h1 h2 hv
          subst h1 h2 hv
          cases rv with
          | exc => exact ⟨none, hget, rfl, rfl, trivial⟩
          | exf _ hR _ =>
            obtain ⟨mA, hns, _⟩ := (I2.hok _ _ (r.sub _ _ hR) : ObjOk _ _ _ _ _ (.xd _))
            obtain ⟨ob, ho, _⟩ := lookIn_ns hns
            exact ⟨some ob, hget, rfl, rfl, ho⟩
        obtain ⟨od, J⟩ := J
        exact PySem.W.kia_one (PySem.W.kitx_exc C.hc C.hg C.hk C.hs C.ha C.hn C.ht C.hm) I2.kIn J kc (fun z => nomatch z) fun tk => ⟨.bl (xSub k c), H2, I2.kept (t' := tk) fun _ _ z => z, rfl, hQ⟩
  exact (pe_callB (X := X.suite a ((a, oe) :: pn)) hr hg hm bt_isi (pa_cons hn (pa_cons hx pa_nil he2) he) (by decide) (by decide) he hpl).run pins s σ H Q I ⟨.ref a, ev, rfl, rfl, kk _ H R _ l g (Sub.refl R) r (.bl _) hq⟩
end
end Lk

set_option autoImplicit false
set_option linter.all false
set_option Elab.async false
set_option maxRecDepth 100000
set_option maxHeartbeats 4000000
/-! an own dict walked while it is locked; the list of a dict's values -/
namespace Lk
open PySem PySem.Spec PyProof.Rows L2 Dx
/-- all but what is locked -/
def SubZ (R T : Hp) : Prop := ∀ a o, R a = some o → (∀ ob u, o ≠ .frz ob u) → T a = some o
mutual
theorem Rep.monoZ {K : Fg} {R T : Hp} (s : SubZ R T) : ∀ {v : V} {d : D}, Rep K R v d → Rep K T v d
  | _, _, .non => .non
  | _, _, .bl b => .bl b
  | _, _, .int i => .int i
  | _, _, .str x => .str x
  | _, _, .ref a => .ref a
  | _, _, .ty n => .ty n
  | _, _, .tup h q => .tup (s _ _ h (fun _ _ z => nomatch z)) (Reps.monoZ s q)
  | _, _, .kt h q => .kt h (Reps.monoZ s q)
  | _, _, .lst h q => .lst (s _ _ h (fun _ _ z => nomatch z)) (Reps.monoZ s q)
  | _, _, .dic h q => .dic (s _ _ h (fun _ _ z => nomatch z)) (RepK.monoZ s q)
  | _, _, .diT h q => .diT (s _ _ h (fun _ _ z => nomatch z)) (RepT.monoZ s q)
  | _, _, .obj h kn q => .obj (s _ _ h (fun _ _ z => nomatch z)) kn (RepF.monoZ s q)
  | _, _, .exc a c => .exc a c
  | _, _, .exf n h q => .exf n (s _ _ h (fun _ _ z => nomatch z)) (RepF.monoZ s q)
theorem Reps.monoZ {K : Fg} {R T : Hp} (s : SubZ R T) : ∀ {v : List V} {d : List D}, Reps K R v d → Reps K T v d
  | _, _, .nil => .nil
  | _, _, .cons h q => .cons (Rep.monoZ s h) (Reps.monoZ s q)
theorem RepK.monoZ {K : Fg} {R T : Hp} (s : SubZ R T) : ∀ {v : List (Key × V)} {d : List (D × D)}, RepK K R v d → RepK K T v d
  | _, _, .nil => .nil
  | _, _, .cons h q => .cons (Rep.monoZ s h) (RepK.monoZ s q)
theorem RepT.monoZ {K : Fg} {R T : Hp} (s : SubZ R T) : ∀ {v : List (List Key × V)} {d : List (D × D)}, RepT K R v d → RepT K T v d
  | _, _, .nil => .nil
  | _, _, .cons h q => .cons (Rep.monoZ s h) (RepT.monoZ s q)
theorem RepF.monoZ {K : Fg} {R T : Hp} (s : SubZ R T) : ∀ {v : List (Str × V)} {n : List Str} {d : List D}, RepF K R v n d → RepF K T v n d
  | _, _, _, .nil => .nil
  | _, _, _, .cons h q => .cons (Rep.monoZ s h) (RepF.monoZ s q)
end
theorem OwnAt.monoZ {K : Fg} {R T H H' : Hp} {a : Addr} {d : D} (h : OwnAt K R H a d) (s : SubZ R T) (e : H' a = H a) : OwnAt K T H' a d := by
  cases d with
  | lst ds => obtain ⟨v, q, r⟩ := h; exact ⟨v, e.trans q, r.monoZ s⟩
  | dic t ds => cases t <;> (obtain ⟨v, q, r⟩ := h; exact ⟨v, e.trans q, r.monoZ s⟩)
  | _ => exact h.elim
def delR (R : Hp) (a : Addr) : Hp := fun b => if b = a then none else R b
section
variable {G : Type} {K : Fg} {Γ : GInt G} {C : Fx} {l : L} {g g2 : G} {σ : L2.St} {R H R2 H2 : Hp} {X : Cx} {W : WX} {pos : Pos}
theorem set_ne {l : L} {i j : Nat} {s : SV} (n : s ≠ .no) (h : (l.set j .no)[i]? = some s) : j ≠ i ∧ l[i]? = some s := by
  by_cases z : j = i
  · subst z
    rw [List.getElem?_set] at h
    simp only [if_true] at h
    split at h
    · cases h
      exact absurd rfl n
    · cases h
  · rw [List.getElem?_set_ne z] at h
    exact ⟨z, h⟩
theorem Rel.lock (r : Rel K Γ C l g σ R H) {j : Nat} {a : Addr} {d : D} {kvs : List (Key × V)} (ed : l[j]? = some (.ow d)) (ea : σ[j]? = some (some (.ref a))) (eH : H a = some (.dK kvs)) (od : Obj) :
    Rel K Γ C (l.set j .no) g σ (upd R a (.frz od (.dK kvs))) (upd H a (.frz od (.dK kvs))) := by
  obtain ⟨b, e1, q, nR, nC, nf⟩ := r.ow j d ed
  rw [ea] at e1
  cases e1
  have s : Sub R (upd R a (.frz od (.dK kvs))) := Sub.new nR
  refine ⟨by rw [List.length_set]; exact r.len, r.sub.upd2, fun b o e => ?_, fun b h => ?_, Γ.stay g H _ r.gat fun b hb => upd_ne fun z => nf (z ▸ hb), fun b hb => ?_, fun i d' e => ?_, fun i d' e => ?_, fun i k d1 d2 b ne h1 h2 h3 => ?_⟩
  · rw [upd_ne (fun z => by rw [z, nC] at e; cases e)]
    exact r.keep b o e
  · by_cases z : b = a
    · exact .inr (z ▸ nC)
    · rw [upd_ne z] at h
      exact r.rnew b h
  · have z : b ≠ a := fun z => nf (z ▸ hb)
    rw [upd_ne z]
    exact r.gfr b hb
  · obtain ⟨_, e⟩ := set_ne (by simp) e
    obtain ⟨v, e1, q⟩ := r.va i d' e
    exact ⟨v, e1, q.mono s⟩
  · obtain ⟨z, e⟩ := set_ne (by simp) e
    obtain ⟨b, e1, q, n1, n2, n3⟩ := r.ow i d' e
    have zb : b ≠ a := fun y => r.sep j i d d' a z ed e ea (by rw [e1, y])
    exact ⟨b, e1, q.mono s (upd_ne zb), by rw [upd_ne zb]; exact n1, n2, n3⟩
  · obtain ⟨_, h1⟩ := set_ne (by simp) h1
    obtain ⟨_, h2⟩ := set_ne (by simp) h2
    exact r.sep i k d1 d2 b ne h1 h2 h3
theorem subZ_del {a : Addr} {od : Obj} {u : HO} (h : R2 a = some (.frz od u)) : SubZ R2 (delR R2 a) := fun b o e n => by
  unfold delR
  rw [if_neg (fun z => by rw [z, h] at e; cases e; exact n _ _ rfl)]
  exact e
theorem Rel.unlock (r0 : Rel K Γ C l g σ R H) {j : Nat} {a : Addr} {d : D} {kvs : List (Key × V)} {od : Obj} (ed : l[j]? = some (.ow d)) (ea : σ[j]? = some (some (.ref a))) (eH : H a = some (.dK kvs))
    (s : Sub (upd R a (.frz od (.dK kvs))) R2) (r : Rel K Γ C (l.set j .no) g2 σ R2 H2) : H2 a = some (.frz od (.dK kvs)) ∧ Sub R (delR R2 a) ∧ SubZ R2 (delR R2 a) ∧ Rel K Γ C l g2 σ (delR R2 a) (upd H2 a (.dK kvs)) := by
  obtain ⟨b, e1, q, nR, nC, nf⟩ := r0.ow j d ed
  rw [ea] at e1
  cases e1
  have e2 : R2 a = some (.frz od (.dK kvs)) := s a _ upd_same
  have sz := subZ_del e2
  have dn : ∀ {b : Addr}, b ≠ a → delR R2 a b = R2 b := fun {b} z => by unfold delR; rw [if_neg z]
  have d0 : delR R2 a a = none := by unfold delR; rw [if_pos rfl]
  have sR : Sub R (delR R2 a) := fun b o e => by
    have z : b ≠ a := fun z => by rw [z, nR] at e; cases e
    rw [dn z]
    exact s b o (by rw [upd_ne z]; exact e)
  have nf2 : ¬ Γ.fp g2 a := fun z => by
    have := (r.gfr a z).1
    rw [e2] at this
    cases this
  have ow2 : ∀ (i : Nat) d', l[i]? = some (.ow d') → i ≠ j → ∃ b, σ[i]? = some (some (.ref b)) ∧ OwnAt K R2 H2 b d' ∧ R2 b = none ∧ C.Hc b = none ∧ ¬ Γ.fp g2 b := fun i d' e z => r.ow i d' (by rw [List.getElem?_set_ne (Ne.symm z)]; exact e)
  refine ⟨r.sub a _ e2, sR, sz, ⟨by have := r.len; rw [List.length_set] at this; exact this, fun b o e => ?_, fun b o e => ?_, fun b h => ?_, Γ.stay g2 H2 _ r.gat fun b hb => upd_ne fun z => nf2 (z ▸ hb), fun b hb => ?_, fun i d' e => ?_, fun i d' e => ?_, fun i k d1 d2 b ne h1 h2 h3 h4 => ?_⟩⟩
  · have z : b ≠ a := fun z => by rw [z, d0] at e; cases e
    rw [dn z] at e
    rw [upd_ne z]
    exact r.sub b o e
  · rw [upd_ne (fun z => by rw [z, nC] at e; cases e)]
    exact r.keep b o e
  · by_cases z : b = a
    · exact .inr (z ▸ nC)
    · rw [dn z] at h
      exact r.rnew b h
  · have z : b ≠ a := fun z => nf2 (z ▸ hb)
    rw [dn z]
    exact r.gfr b hb
  · have z : i ≠ j := fun z => by subst z; rw [ed] at e; cases e
    obtain ⟨v, e1, q⟩ := r.va i d' (by rw [List.getElem?_set_ne (Ne.symm z)]; exact e)
    exact ⟨v, e1, q.monoZ sz⟩
  · by_cases z : i = j
    · subst z
      rw [ed] at e
      cases e
      refine ⟨a, ea, ?_, d0, nC, nf2⟩
      cases d with
      | dic t ds =>
        cases t with
        | false =>
          obtain ⟨kv, e3, q3⟩ := q
          rw [eH] at e3
          cases e3
          exact ⟨kvs, upd_same, q3.mono sR⟩
        | true => obtain ⟨kv, e3, q3⟩ := q; rw [eH] at e3; cases e3
      | lst ds => obtain ⟨kv, e3, q3⟩ := q; rw [eH] at e3; cases e3
      | _ => exact q.elim
    · obtain ⟨b, e1, q, n1, n2, n3⟩ := ow2 i d' e z
      have zb : b ≠ a := fun y => by rw [y, e2] at n1; cases n1
      exact ⟨b, e1, q.monoZ sz (upd_ne zb), by rw [dn zb]; exact n1, n2, n3⟩
  · have na : ∀ (k : Nat) d', l[k]? = some (.ow d') → k ≠ j → σ[k]? ≠ some (some (.ref a)) := fun k d' e z y => by
      obtain ⟨b, e1, q, n1, _⟩ := ow2 k d' e z
      rw [y] at e1
      cases e1
      rw [e2] at n1
      cases n1
    by_cases zi : i = j
    · subst zi
      rw [ea] at h3
      cases h3
      exact na k d2 h2 (Ne.symm ne) h4
    · by_cases zk : k = j
      · subst zk
        rw [ea] at h4
        cases h4
        exact na i d1 h1 zi h3
      · exact r.sep i k d1 d2 b ne (by rw [List.getElem?_set_ne (Ne.symm zi)]; exact h1) (by rw [List.getElem?_set_ne (Ne.symm zk)]; exact h2) h3 h4
/-- a comprehension's turns, over whatever yields what is known -/
theorem comp_in {t : Tg} {c : DT G} {e : DE G} {vs ws : List Nat} (hw : ∀ j ∈ ws, j ∈ vs) {J : It} {l1 : L} {g1 : G} {R1 H1 : Hp} {ds : List D} {q : D → G → Prop} {Q : VK} (r1 : Rel K Γ C l1 g1 σ R1 H1) (wk : ∀ C', Wk K Γ C' R1 J ds)
    (h1 : noOw l1 vs = true ∧ ∃ I : Nat → List D → G → Prop, I 0 [] g1 ∧ (∀ i x acc g, ds[i]? = some x → I i acc g → t x (wipeL l1 vs) fun l2 => wipeL l2 vs = wipeL l1 vs ∧ c noX l2 g fun b l3 g3 => wipeL l3 vs = wipeL l1 vs ∧
      if b = true then e noX l3 g3 fun y l4 g4 => wipeL l4 vs = wipeL l1 vs ∧ acc.length < LIM ∧ I (i + 1) (acc ++ [y]) g4 else I (i + 1) acc g3) ∧ ∀ acc g, I ds.length acc g → q (.lst acc) g)
    (k : ∀ p H' R' d' g', Sub R1 R' → Rel K Γ C l1 g' σ R' H' → OwnAt K R' H' p d' → R' p = none → C.Hc p = none → ¬ Γ.fp g' p → Apart l1 σ p → q d' g' → Q (.ref p) H') :
    ∀ D, H1 D = none → ∃ W : Nat → Nat → Hp → Prop, (∃ m, W 0 m (upd H1 D (.lst []))) ∧ ∀ i m H, W i m H →
      (J.stop i H ∧ Q (.ref D) H) ∨ (J.go i H ∧ ∃ Nx : Hp → Prop, (∀ H', Nx H' → ∃ m', m' < m ∧ W (i + 1) m' H') ∧ ∀ x H', J.yld i H x H' → liftG K Γ ws t x (wipe σ vs) H' fun σ2 H2 => wipe σ2 vs = wipe σ vs ∧ liftT K Γ W0 c σ2 H2 fun b H3 =>
        if b = true then liftE K Γ W0 e σ2 H3 fun y H4 => ∃ acc, H4 D = some (.lst acc) ∧ acc.length < sizeLine ∧ Nx (upd H4 D (.lst (acc ++ [y]))) else Nx H3) := by
  obtain ⟨no, I, i0, step, fin⟩ := h1
  intro D hD
  have nD : R1 D = none := r1.sub.no0 hD
  refine ⟨fun i m H => m = ds.length - i ∧ i ≤ ds.length ∧ ∃ g2 R2 acc accD, Sub R1 R2 ∧ Rel K Γ (fxD C R1 D (.lst acc)) (wipeL l1 vs) g2 (wipe σ vs) R2 H ∧ Reps K R2 acc accD ∧ I i accD g2,
    ⟨_, rfl, Nat.zero_le _, g1, R1, [], [], Sub.refl _, (r1.wipe_ vs).begin hD, .nil, i0⟩, ?_⟩
  rintro i m H2 ⟨rfl, hi, g2, R2, acc, accD, s2, r2, za, hI⟩
  have w := wk (fxD C R1 D (.lst acc)) R2 H2 _ g2 _ s2 r2 i
  by_cases hlt : i < ds.length
  · refine .inr ⟨(w.1 hlt).1, fun H' => ∃ g2 R2 acc accD, Sub R1 R2 ∧ Rel K Γ (fxD C R1 D (.lst acc)) (wipeL l1 vs) g2 (wipe σ vs) R2 H' ∧ Reps K R2 acc accD ∧ I (i + 1) accD g2, fun H' z => ⟨_, by omega, rfl, hlt, z⟩, fun x H' y => ?_⟩
    obtain ⟨R3, s3, r3, d, hd, z⟩ := (w.1 hlt).2 x H' y
    refine ⟨_, _, g2, R3, d, _, r3, z, step i d accD g2 hd hI, fun σ' l' out r' h' => ?_⟩
    obtain ⟨hwl, h'⟩ := h'
    have hws : wipe σ' vs = wipe σ vs := by
      refine wipe_ext ?_ fun j hj => out j fun z => hj (hw j z)
      rw [← r'.len, ← wipeL_len l' vs, hwl, wipeL_len, r1.len]
    refine ⟨hws, _, l', g2, R3, noX, _, r', h', fun H4 R4 b l4 g4 s4 r4 h4 => ?_, fun _ _ _ _ _ _ _ _ _ _ z => z⟩
    obtain ⟨hw4, h4⟩ := h4
    cases b with
    | true =>
      refine ⟨_, l4, g4, R4, noX, _, r4, h4, fun y H5 R5 dd l5 g5 s5 r5 z5 h5 => ?_, fun _ _ _ _ _ _ _ _ _ _ z => z⟩
      obtain ⟨hw5, hlen, hI5⟩ := h5
      obtain ⟨hD5, _⟩ := r5.inD nD
      refine ⟨acc, hD5, by rw [za.length, ← lim]; exact hlen, g5, R5, acc ++ [y], accD ++ [dd], s2.trans (s3.trans (s4.trans s5)), ?_, (za.mono (s3.trans (s4.trans s5))).app (.one z5), hI5⟩
      have r6 := (r5.wipe_ vs).regrow (o' := .lst (acc ++ [y])) nD
      rw [hw5, hws] at r6
      exact r6
    | false =>
      have r6 := r4.wipe_ vs
      rw [hw4, hws] at r6
      exact ⟨g4, R4, acc, accD, s2.trans (s3.trans s4), r6, za.mono (s3.trans s4), h4⟩
  · have e : i = ds.length := by omega
    subst e
    refine .inl ⟨w.2 rfl, ?_⟩
    obtain ⟨hD2, nR2, nf2, ap2⟩ := r2.inD nD
    have r3 := r1.unwipe no r2 s2
    obtain ⟨hD3, nR3, nf3, ap3⟩ := r3.inD nD
    obtain ⟨r4, nC⟩ := r1.done r3 hD
    exact k D H2 R2 (.lst accD) g2 s2 r4 ⟨acc, hD3, za⟩ nR3 nC nf3 ap3 (fin accD g2 hI)
theorem repK_fst {R : Hp} : ∀ {kvs : List (Key × V)} {ds : List (D × D)}, RepK K R kvs ds → ∀ (i : Nat) k v, kvs[i]? = some (k, v) → (ds.map (·.1))[i]? = some (kD k)
  | _, _, .nil, i, k, v, h => by cases h
  | _, _, .cons _ _, 0, k, v, h => by cases h; rfl
  | _, _, .cons _ q, i + 1, k, v, h => repK_fst q i k v h
theorem wk_keysZ {C : Fx} {R : Hp} {a : Addr} {od : Obj} {kvs : List (Key × V)} {ds : List (D × D)} {T : Hp} (e : R a = some (.frz od (.dK kvs))) (z : RepK K T kvs ds) : Wk K Γ C R (Itk a od kvs) (ds.map (·.1)) := fun R1 H l g σ s r i => by
  have eH := r.sub _ _ (s _ _ e)
  have hl : (ds.map (·.1)).length = kvs.length := by rw [List.length_map, z.length]
  refine ⟨fun hi => ⟨⟨eH, by omega⟩, fun x H' y => ?_⟩, fun e => ⟨eH, by omega⟩⟩
  obtain ⟨rfl, k, v, hk, rfl⟩ := y
  refine ⟨R1, Sub.refl R1, r, kD k, repK_fst z i k v hk, ?_⟩
  cases k with
  | inl n => exact .int n
  | inr x => exact .str x
theorem compK_run {j : Nat} {t : Tg} {c : DT G} {e : DE G} {vs ws : List Nat} (hw : ∀ j ∈ ws, j ∈ vs) {H : Hp} {Q : VK} (h : liftF K Γ W (dCompK j t c e vs) σ H Q) :
    tLockE (tLc (iKeys (tVar j)) (liftG K Γ ws t) (liftT K Γ W0 c) (liftE K Γ W0 e) vs) σ H Q := by
  obtain ⟨C, l, g, R, ex, q, rl, h, k, kx⟩ := h
  obtain ⟨d0, ed, h⟩ := getO_ex h
  split at h
  rotate_left
  · exact h.elim
  rename_i ds
  obtain ⟨nj, no, I, i0, step, fin⟩ := h
  obtain ⟨a, ea, ⟨kvs, eH, q0⟩, nR, nC, nf⟩ := rl.ow j _ ed
  refine ⟨a, .dK kvs, eH, trivial, fun od => ?_⟩
  refine ⟨.ref a, ea, a, od, rfl, .inl ⟨kvs, upd_same, ?_⟩⟩
  have r1 := rl.lock ed ea eH od
  refine comp_in (q := fun d' g' => q d' l g') (Q := fun v H' => H' a = some (.frz od (.dK kvs)) ∧ Q v (upd H' a (.dK kvs))) hw r1 (fun C' => wk_keysZ upd_same q0) ⟨no, I, i0, step, fin⟩ fun p H' R' d' g' s' r' zo n1 n2 n3 n4 hq => ?_
  obtain ⟨u1, u2, u3, u4⟩ := rl.unlock ed ea eH s' r'
  have zp : p ≠ a := fun z => by
    have := s' a _ upd_same
    rw [z, this] at n1
    cases n1
  refine ⟨u1, k p _ _ d' l g' u2 u4 (zo.monoZ u3 (upd_ne zp)) ?_ n2 n3 (fun i d e z => ?_) hq⟩
  · unfold delR
    rw [if_neg zp]
    exact n1
  · by_cases y : i = j
    · subst y
      rw [ea] at z
      cases z
      exact zp rfl
    · exact n4 i d (by rw [List.getElem?_set_ne (Ne.symm y)]; exact e) z
theorem d_compK {elt tg : Expr} {x : Str} {p2 : Pos} {j : Nat} {ifs : List Expr} {scope : Scope} {own : List (Str × Nat)} {t : Tg} {c : DT G} {e : DE G} {ws : List Nat} (hc : X.calm = true) (hN : X.N.Nodup) (hi : PE X (.Name x p2) (tVar j)) (ok : BlkOk X.N X.env.scope scope own)
    (hg : ∀ (s : Shared) (H : Hp) (C : Addr) (cl : List (Str × Addr)) (fp : List Addr), PG (X.blk s H scope (compEnvC scope cl C X.env) fp) tg (liftG X.K Γ ws t))
    (ht : ∀ (s : Shared) (H : Hp) (C : Addr) (cl : List (Str × Addr)) (fp : List Addr), PTs (X.blk s H scope (compEnvC scope cl C X.env) fp) ifs (liftT X.K Γ W0 c))
    (he : ∀ (s : Shared) (H : Hp) (C : Addr) (cl : List (Str × Addr)) (fp : List Addr), PE (X.blk s H scope (compEnvC scope cl C X.env) fp) elt (liftE X.K Γ W0 e)) (hw : ∀ j ∈ ws, j ∈ own.map (·.2)) (hs : ∀ z, foldedSetIterable (.Name x p2) X.env z = pure z := by intro _; rfl) :
    PE X (.ListComp elt [⟨tg, .Name x p2, ifs, 0⟩] scope pos) (liftF X.K Γ W (dCompK j t c e (own.map (·.2)))) := (pe_lock (pe_lc hc hN (pi_keys hi) ok hg ht he hs)).imp fun _ _ _ h => compK_run hw h
/-! ### list(d.values()) -/
theorem kv_snd : ∀ {kvs : List (Key × V)} {vs : List (Key × Value)}, KV kvs vs → Vals (kvs.map (·.2)) (vs.map (·.2)) := fun {kvs vs} r => by
  unfold KV at r
  induction r with
  | nil => exact .nil
  | cons a b ih => exact .cons a.2 ih
theorem vals_list {vs : List (Key × Value)} {acc : List Value} (hl : acc.length = vs.length) (h : ∀ (i : Nat) v, acc[i]? = some v → ∃ k, vs[i]? = some (k, v)) : acc = vs.map (·.2) := by
  refine List.ext_getElem? fun i => ?_
  rw [List.getElem?_map]
  cases e : acc[i]? with
  | some v =>
    obtain ⟨k, hk⟩ := h i v e
    rw [hk]
    rfl
  | none =>
    have := List.getElem?_eq_none_iff.mp e
    rw [List.getElem?_eq_none (by omega)]
    rfl
def tListV (td : TE) : TE := fun σ H Q => td σ H fun x H1 => ∃ a kvs, x = V.ref a ∧ Rd H1 a (.dK kvs) ∧ ∀ p, H1 p = none → Q (.ref p) (upd H1 p (.lst (kvs.map (·.2))))
theorem pe_listV {o : Expr} {p apos mpos : Pos} {td : TE} (hc : X.calm = true) (hg : Gl X "list") (hm : X.mg "list" = none) (hd : PE X o td) (hbase : attributeBase o "values" X.env (eval o X.env) = eval o X.env := by rfl) (hline : (apos.endLine == mpos.line) = true := by rfl)
    (hse : starEach [Expr.Call (.Attribute o "values" apos) [] [] mpos] X.env = [(false, eval (Expr.Call (.Attribute o "values" apos) [] [] mpos) X.env)] := by rfl) :
    PE X (.Call (.Name "list" p) [.Call (.Attribute o "values" apos) [] [] mpos] [] pos) (tListV td) := by
  refine ⟨fun pins s σ H Q I h => ?_⟩
  refine wpAny_Call_Name_kw (ld_blt I hg hm (u := .type "list") (by first | rfl | decide +kernel) ?_ (by decide) (by decide))
  have na : starEach [Expr.Call (.Attribute o "values" apos) [] [] mpos] X.env = (false, eval (Expr.Call (.Attribute o "values" apos) [] [] mpos) X.env) :: starEach [] X.env := by rw [hse]; rfl
  refine PyProof.Rows.callWith_type1 (PyProof.Rows.spliced_more (wpAny_Call_method0_late hbase hline (thn (hd.run pins s σ H _ I h) fun v s1 ⟨x, H1, I1, r1, a, kvs, ex, ha, q⟩ => ?_)) na) na
  subst ex
  obtain rfl : v = Value.ref a := r1
  obtain ⟨z, hsys, vs, rel, dof⟩ := dk_rd I1.hok ha
  obtain ⟨ep, dat⟩ := dof.dictAt
  have dat' := dat
  obtain ⟨ob, es, ho, ex, hdat, hko, hpr, hnd⟩ := dat'
  refine ⟨"dict", "dict.values", F.plainAttrs_dict, F.slot_dict_values, F.type_dict_values, ⟨ob, ho, ex.1⟩, fun b e => ?_, Calls.callWith_builtin rfl (PySem.evalArgs_none ?_)⟩
  · cases e
    exact ⟨ob, ho, ex.2.1⟩
  refine call_meetsIn F.slot_dict_values ⟨ob, ho, ex.1⟩ F.entry_dict_values (F.args_dict_values_1 _) (meets_dict_values (mixKind X.prog X.w) a hsys) ⟨⟨vs, dof⟩, ?_⟩
  refine PyProof.Rows.spliced_none ?_
  have k1 : ∀ b u, s1.heap.get? b = some u → (s1.heap.push { cls := .type "dict_values", data := .fields #[.ref a] }).get? b = some u := fun b u e => Heap.get?_push_of_some _ e
  have dat1 : (s1.heap.push { cls := .type "dict_values", data := .fields #[.ref a] }).DictAt (mixKind X.prog X.w) a vs ep := dat.keep k1
  have I2 : Inv X pins σ H1 { s1 with heap := s1.heap.push { cls := .type "dict_values", data := .fields #[.ref a] } } := I1.kept (t' := s1.toks) k1
  refine PySem.W.kdl_call (s := { s1 with heap := s1.heap.push { cls := .type "dict_values", data := .fields #[.ref a] } }) (PySem.W.kdl_values (knd := mixKind X.prog X.w) (kvs := vs) (ep := ep) (r := s1.heap.objs.size) (d := a)) (I.ok.hd hc) ⟨⟨_, Heap.get?_push_size _ rfl, rfl, rfl⟩, dat1⟩ (by rw [← KV.length rel]; exact z) fun h' tk acc c' hk hD hacc => ?_
  have ev : acc.toList = vs.map (·.2) := vals_list (by rw [Array.length_toList]; exact hacc.1) fun i v e => hacc.2 i v (by rw [← Array.getElem?_toList]; exact e)
  have hv : Vals (kvs.map (·.2)) acc.toList := by rw [ev]; exact kv_snd rel
  refine ⟨.ref _, _, I2.laid (t' := tk) hk (Nat.le_refl _) (show ObjOk X.prog X.w _ _ _ (.lst (kvs.map (·.2))) from ⟨by rw [List.length_map]; exact z, acc.toList, c', hv, by rw [Array.toArray_toList]; exact hD⟩), rfl, q _ (I2.hok.fresh (Nat.le_refl _))⟩
theorem repK_snd {R : Hp} : ∀ {kvs : List (Key × V)} {ds : List (D × D)}, RepK K R kvs ds → Reps K R (kvs.map (·.2)) (ds.map (·.2))
  | _, _, .nil => .nil
  | _, _, .cons h q => .cons h (repK_snd q)
theorem d_listV {o : Expr} {f : DE G} {p apos mpos : Pos} (hc : X.calm = true) (hg : Gl X "list") (hm : X.mg "list" = none) (hd : PE X o (liftE X.K Γ W f)) (hbase : attributeBase o "values" X.env (eval o X.env) = eval o X.env := by rfl) (hline : (apos.endLine == mpos.line) = true := by rfl)
    (hse : starEach [Expr.Call (.Attribute o "values" apos) [] [] mpos] X.env = [(false, eval (Expr.Call (.Attribute o "values" apos) [] [] mpos) X.env)] := by rfl) :
    PE X (.Call (.Name "list" p) [.Call (.Attribute o "values" apos) [] [] mpos] [] pos) (liftF X.K Γ W (dListV f)) :=
  (pe_listV hc hg hm hd hbase hline hse).imp fun σ H Q ⟨C, l, g, R, ex, q, r, h, k, kx⟩ => by
    refine ⟨C, l, g, R, ex, _, r, h, fun x H1 R1 d l1 g1 s1 r1 z1 h1 => ?_, kx⟩
    split at h1
    · cases z1 with
      | dic e zs =>
        refine ⟨_, _, rfl, .inl (r1.sub _ _ e), fun p hp => ?_⟩
        obtain ⟨r3, z3⟩ := r1.newLF hp (repK_snd zs)
        obtain ⟨n1, n2, n3, n4⟩ := r1.newF hp
        exact k p _ R1 _ l1 g1 s1 r3 z3 n1 n2 n3 n4 h1
    · exact h1.elim
/-! ### name = {..} on one line -/
section
variable {i : Nat} {y : Str} {py spos : Pos} {kx vx tg iter : Expr} {ifs : List Expr} {scope : Scope} {own : List (Str × Nat)} {it : DI G} {t : Tg} {c : DT G} {fk fv : DE G} {ws : List Nat}
theorem ds_ownDC (hc : X.calm = true) (hN : X.N.Nodup) (hy : X.N[i]? = some y) (hyl : X.env.scope.names.lookup y = some .local) (hsw : swapsWith (.DictComp kx vx [⟨tg, iter, ifs, 0⟩] scope pos) (some (.Name y py)) spos.line X.env = pure true)
    (hi : PI X tg iter (liftI X.K Γ W it)) (ok : BlkOk X.N X.env.scope scope own)
    (hg : ∀ (s : Shared) (H : Hp) (C : Addr) (cl : List (Str × Addr)) (fp : List Addr), PG (X.blk s H scope (compEnvC scope cl C X.env) fp) tg (liftG X.K Γ ws t))
    (ht : ∀ (s : Shared) (H : Hp) (C : Addr) (cl : List (Str × Addr)) (fp : List Addr), PTs (X.blk s H scope (compEnvC scope cl C X.env) fp) ifs (liftT X.K Γ W0 c))
    (hk : ∀ (s : Shared) (H : Hp) (C : Addr) (cl : List (Str × Addr)) (fp : List Addr), PE (X.blk s H scope (compEnvC scope cl C X.env) fp) kx (liftE X.K Γ W0 fk))
    (he : ∀ (s : Shared) (H : Hp) (C : Addr) (cl : List (Str × Addr)) (fp : List Addr), PE (X.blk s H scope (compEnvC scope cl C X.env) fp) vx (liftE X.K Γ W0 fv)) (hw : ∀ j ∈ ws, j ∈ own.map (·.2)) (hs : ∀ x, foldedSetIterable iter X.env x = pure x := by intro _; rfl) :
    PS X (.Assign [.Name y py] (.DictComp kx vx [⟨tg, iter, ifs, 0⟩] scope pos) spos) (liftS X.K Γ W (sOwn i (dDC false it t c fk fv (own.map (·.2))))) := ⟨fun pins s σ H Dn I h0 => by
  have h : tAsg (tDc (liftI X.K Γ W it) (liftG X.K Γ ws t) (liftT X.K Γ W0 c) (liftE X.K Γ W0 fk) (liftE X.K Γ W0 fv) (own.map (·.2))) (gName i) Dn σ H := own_run (fun _ _ _ z => dcomp_run hw z) h0
  have h : tDc (liftI X.K Γ W it) (liftG X.K Γ ws t) (liftT X.K Γ W0 c) (liftE X.K Γ W0 fk) (liftE X.K Γ W0 fv) (own.map (·.2)) σ H (fun x H1 => gName i x σ H1 Dn.nx) := h
  rw [exec_Assign_Name_used _ _ _ _ hsw]
  refine wpAny_bind (wpAny_standAt (wpAny_bind ?_))
  show wpAny _ X.A (do
    let _ ← comprehension (.DictComp kx vx [⟨tg, iter, ifs, 0⟩] scope pos) scope X.env (firstIterPos [⟨tg, iter, ifs, 0⟩] pos) newDict false (eval iter X.env) (some (assign (.Name y py) X.env))) _ _ s
  have fin := dc_core (pos := pos) (pos' := firstIterPos [⟨tg, iter, ifs, 0⟩] pos) (use := some (assign (.Name y py) X.env)) (Qf := fun _ s' => SP X pins Dn .next s') hc hN I hi ok hg ht hk he hs h (fun L C s' m H' I' q hn f => by
    show wpAny _ _ (assign (.Name y py) X.env (.ref L)) _ _ _
    refine wpAny_assign_Name (store_ok2 (v := V.ref L) I' hN hy (.inl hyl) rfl (fun s2 I2 kk => ?_) (.inr hyl))
    obtain ⟨a, sb, ha⟩ := kk
    obtain ⟨f0, f1, f2, f3, f4, f5⟩ := f
    have na : C ≠ a := by
      rcases ha with z | z
      · rw [z]
        exact f1
      · exact fun e => f4 y a z e.symm
    exact ⟨m, hn.sameBut sb na, fun h3 sb3 => ⟨_, H', I2.turned (t' := s2.toks) (fun b o hb e => (sb3.2 b hb).trans e) f0 f1 f3 f4 f5, q⟩⟩)
  exact wpAny_bind (thn fin fun _ s' hq => wpAny_pure (wpAny_pure hq))⟩
end
end
end Lk

set_option autoImplicit false
set_option linter.all false
set_option Elab.async false
set_option maxRecDepth 100000
set_option maxHeartbeats 4000000
/-! sorted(set(list)) -/
namespace Lk
open PySem PySem.Spec PyProof.Rows L2 Dx
section
variable {P : Program} {w : World} {A : Around} {E : Value → Shared → Prop} {s : Shared}
set_option maxRecDepth 100000 in
set_option maxHeartbeats 3200000 in
theorem set_listI {l : Addr} {items : Array Value} (ns : List Int) {Q : Value → Shared → Prop} (hh : A.handled = none) (hl : s.heap.IsList l items) (hit : IntsAre items.toList ns) (hb : ns.length + 1 < scanBound)
    (h : ∀ (h' : Heap) (tk c : Nat), SetR w h' s.heap.objs.size (fun j => decide (j ∈ ns)) c → c ≤ ns.length → (∀ b o, s.heap.get? b = some o → h'.get? b = some o) → Q (.ref s.heap.objs.size) { s with heap := h', toks := tk }) :
    wpAny (model P w) A (call (.type "set") [.ref l]) Q E s := by
  have hisz : items.size = ns.length := by
    have q := IntsAre.length hit
    rw [Array.length_toList] at q
    exact q
  obtain ⟨c, tl, hmro⟩ := F.called_set.mro
  have hmade := F.called_set.made
  have hsub := F.called_set.sub
  refine wpAny_call (codeAny_of_tree ?_)
  show wpAny _ _ (callAny (.type "set") _) _ _ _
  refine wpAny_pure ⟨Code.quiet_builtin _ (by decide +kernel), codeAny_builtin F.entry_type_call ?_⟩
  rw [Around.under_plain (weight_type_call_type "set" [.ref l] []) rfl]
  have h1 := F.called_set.notType
  have h2 := F.called_set.canCreate
  have hct := F.typeCall_set_1 (.ref l)
  repeat (any_goals (first | assumption | wp_step))

  refine codeAny_mono (code_set_led1 (.ref l) (E := E) (Q₁ := fun obj s₁ => obj = .ref s.heap.objs.size ∧ s₁ = { s with heap := s.heap.push { cls := .type "set", dict := none, data := .set #[] 0 (.fresh 0 0 (!w.params.followText "set-order")) } }) ⟨rfl, rfl⟩) fun r s₁ hr => ?_
  cases r with
  | error e => exact hr
  | ok fl =>
    cases fl with
    | ret obj =>
      obtain ⟨rfl, rfl⟩ := hr
      have hS : (s.heap.push { cls := .type "set", dict := none, data := .set #[] 0 (.fresh 0 0 (!w.params.followText "set-order")) }).get? s.heap.objs.size = some { cls := .type "set", dict := none, data := .set #[] 0 (.fresh 0 0 (!w.params.followText "set-order")) } := Heap.get?_push_size _ rfl
      have hT : Shared.TypeIs { s with heap := s.heap.push { cls := .type "set", dict := none, data := .set #[] 0 (.fresh 0 0 (!w.params.followText "set-order")) } } (.ref s.heap.objs.size) "set" := ⟨_, hS, rfl⟩
      have hli := F.called_set.init.lookup
      have hbi := F.called_set.init.bind (.ref s.heap.objs.size)
      repeat (any_goals (first | assumption | wp_step))

      refine codeAny_mono (codeAny_call_builtin (R := wants (fun r s₂ => r = .none ∧ ∃ h' tk c, s₂ = { s with heap := h', toks := tk } ∧ SetR w h' s.heap.objs.size (fun j => decide (j ∈ ns)) c ∧ c ≤ ns.length ∧
          (∀ b o, s.heap.get? b = some o → h'.get? b = some o)) E) F.called_set.init.plain F.entry_set_init (check_set_init_1 hT ?_)) fun r₂ s₂ hr₂ => ?_
      · obtain ⟨ol, hol, hcl, nl, hdl⟩ := hl
        obtain ⟨ocls, odict, odata, oslots⟩ := ol
        simp only at hcl hdl
        subst hcl; subst hdl
        have hol' : (s.heap.push { cls := .type "set", dict := none, data := .set #[] 0 (.fresh 0 0 (!w.params.followText "set-order")) }).get? l = some { cls := .type "list", dict := odict, data := .seq items nl, slots := oslots } := Heap.get?_push_of_some _ hol
        have hsls := F.sub_list_set
        have hslf := F.sub_list_frozenset
        have hne : (Value.type "list" == Value.type "dict") = false := by decide
        have hl1 : (s.heap.push { cls := .type "set", dict := none, data := .set #[] 0 (.fresh 0 0 (!w.params.followText "set-order")) }).IsList l items := ⟨_, hol', rfl, nl, rfl⟩
        unfold Builtin.«set.__init__» noKeywords Builtin.Frozenset.updateFrom
        generalize hPI : pyIter = PI
        wp_walk
        subst hPI

        refine wpAny_pyIter_list hl1 ?_
        refine wpAny_bind (wpAny_runValue ?_)
        have hlS : l < s.heap.objs.size := Heap.lt_size hol
        have hh3 : A.in1.in1.in1.handled = none := by simp [hh]
        have hz1 : (s.heap.push { cls := .type "set", dict := none, data := .set #[] 0 (.fresh 0 0 (!w.params.followText "set-order")) }).objs.size = s.heap.objs.size + 1 := Heap.size_push ..
        have hneI : l ≠ (s.heap.push { cls := .type "set", dict := none, data := .set #[] 0 (.fresh 0 0 (!w.params.followText "set-order")) }).objs.size := by
          rw [Heap.size_push]; exact Nat.ne_of_lt (Nat.lt_succ_of_lt hlS)
        have hSf : s.heap.objs.size ∉ [(s.heap.push { cls := .type "set", dict := none, data := .set #[] 0 (.fresh 0 0 (!w.params.followText "set-order")) }).objs.size, l] := by
          rw [Heap.size_push]; simp only [List.mem_cons, List.mem_singleton, List.not_mem_nil, or_false, not_or]
          exact ⟨Nat.ne_of_lt (Nat.lt_succ_self _), Nat.ne_of_gt hlS⟩
        have hval : ∀ (i : Nat) (v : Value), items[i]? = some v → ∃ k t, ns[i]? = some k ∧ v = .int k t := fun i v hv => by
          have hi : i < ns.length := by rw [← hisz]; exact (Array.getElem?_eq_some_iff.mp hv).1
          obtain ⟨t, e⟩ := PyProof.Rows.IntsAre.int_at hit i v (by rw [Array.getElem?_toList]; exact hv)
          refine ⟨ns[i], t, List.getElem?_eq_getElem hi, ?_⟩
          rw [e, List.getD_eq_getElem?_getD, List.getElem?_eq_getElem hi] <;> rfl
        refine set_update_ints ((Walks.list hh3 _ l hneI items).toS) s.heap.objs.size
          hSf ns hisz hb hval (items.size - 0) 0 _ (by omega) (Nat.zero_le _)
          ⟨⟨_, Heap.get?_push_size _ rfl, rfl, rfl⟩, (hl1.push _)⟩ ?hS0 ?hR
        case hS0 =>
          have hget : ((s.heap.push { cls := .type "set", dict := none, data := .set #[] 0 (.fresh 0 0 (!w.params.followText "set-order")) }).push { cls := .type "list_iterator", data := .fields #[.ref l, .int 0 0] }).get? s.heap.objs.size
              = some { cls := .type "set", dict := none, data := .set #[] 0 (.fresh 0 0 (!w.params.followText "set-order")) } := Heap.get?_push_of_some _ hS
          exact ⟨0, Nat.le_refl 0, setR_new_at hget⟩
        case hR =>
          intro s' c' hm hc' hS'
          obtain ⟨h', g2, d', tk', os'⟩ := s'
          have eg : g2 = s.gens := hm.gens
          have ed : d' = s.drawn := hm.drawn
          have eo : os' = s.os := hm.os
          subst eg; subst ed; subst eo
          show wpAny _ _ _ _ _ _
          refine wpAny_pure ?_
          show wpAny _ _ (ret Value.none) _ _ _
          rw [hisz] at hc'
          refine wpAny_pure ⟨rfl, h', tk', c', rfl, hS', hc', fun b o e => ?_⟩
          have hb0 : b < s.heap.objs.size := Heap.lt_size e
          have hb1 : b ≠ s.heap.objs.size := Nat.ne_of_lt hb0
          have hb2 : b ≠ (s.heap.push { cls := .type "set", dict := none, data := .set #[] 0 (.fresh 0 0 (!w.params.followText "set-order")) }).objs.size := by
            rw [Heap.size_push]; exact Nat.ne_of_lt (Nat.lt_succ_of_lt hb0)
          exact hm.heap b o (by simp only [List.mem_cons, List.mem_singleton, List.not_mem_nil, or_false, not_or]; exact ⟨hb1, hb2⟩) (Heap.get?_push_of_some _ (Heap.get?_push_of_some _ e))

      · cases r₂ with
        | error e => exact hr₂
        | ok fl₂ =>
          cases fl₂ with
          | ret r =>
            obtain ⟨rfl, h', tk, c', rfl, hS', hc', hk'⟩ := hr₂
            repeat (any_goals (first | assumption | wp_step))
            exact h _ _ _ hS' hc' hk'
          | _ => exact hr₂.elim
    | _ => exact hr.elim
end
def rSetI (K : Fg) (w : World) : List V → Hp → VK → Prop := fun xs H Q => ∃ (a : Addr) (ns : List Int), xs = [.ref a] ∧ SqL K H a (ns.map V.int) ∧ ns.length < 64 ∧
  ∀ p n, n ≤ ns.length → H p = none → Q (.ref p) (upd H p (SetO w p (fun j => decide (j ∈ ns)) n))
section
variable {X : Cx}
theorem cr_setI (hc : X.calm = true) : CallR X (.type "set") (rSetI X.K X.w) := by
  intro pins s σ H xs us Q I r h
  obtain ⟨a, ns, rfl, hq, hl, q⟩ := h
  rw [Vals.ref1 r]
  obtain ⟨its, rv, pl, hz⟩ := I.list hq
  have hi : IntsAre its.toArray.toList ns := ints_of_vals rv
  refine set_listI ns (I.ok.hd hc) pl.isList hi (by unfold scanBound; omega) fun h' tk c R1 hcn k => ?_
  exact ⟨.ref _, upd H s.heap.objs.size (SetO X.w s.heap.objs.size (fun j => decide (j ∈ ns)) c), I.laid (t' := tk) (fun b u e => k b u e) (Nat.le_refl _) (setO_new R1), rfl, q _ c hcn (I.hok.fresh (Nat.le_refl _))⟩
end
end Lk

set_option autoImplicit false
set_option linter.all false
set_option Elab.async false
set_option maxRecDepth 100000
set_option maxHeartbeats 2000000
/-! sep.join(a list of texts), the separator written -/
namespace Lk
open PySem PySem.Spec PyProof.Rows L2 Dx
section
variable {G : Type} {Γ : GInt G} {K : Fg}
theorem Reps.strs {R : Hp} : ∀ {vs : List V} {ys : List (List Nat)}, Reps K R vs (ys.map D.str) → ∃ zs : List Str, vs = zs.map V.str ∧ zs.map (fun z => z.cps.toList) = ys
  | _, [], h => by cases h; exact ⟨[], rfl, rfl⟩
  | _, y :: ys, h => by
    cases h with
    | cons a q =>
      obtain ⟨zs, rfl, e⟩ := Reps.strs q
      cases a
      exact ⟨_ :: zs, rfl, by rw [List.map_cons, e]⟩
theorem joinL_eq (s : List Nat) : ∀ ys : List (List Nat), TL.joinL s ys = Dx.joinL s ys
  | [] => rfl
  | [_] => rfl
  | p :: q :: r => by
    show p ++ (s ++ TL.joinL s (q :: r)) = p ++ (s ++ Dx.joinL s (q :: r))
    rw [joinL_eq s (q :: r)]
variable {X : Cx} {W : WX}
theorem d_join {x : Str} {s : List Nat} {j : Nat} {pp apos pos : Pos} {e : Expr} {f : DE G} (he : PE X e (liftE X.K Γ W f)) (hx : x.cps.toList = s := by rfl)
    (hs : starEach [e] X.env = [(false, eval e X.env)] := by rfl) (hbase : attributeBase (.Constant (.str x) j pp) "join" X.env (eval (.Constant (.str x) j pp) X.env) = eval (.Constant (.str x) j pp) X.env := by rfl) (hline : (apos.endLine == pos.line) = true := by rfl) :
    PE X (.Call (.Attribute (.Constant (.str x) j pp) "join" apos) [e] [] pos) (liftE X.K Γ W (dJoin (dC (.str s)) f)) :=
  (pe_join pe_str he hs hbase hline).imp fun σ H Q h => by
    obtain ⟨C, l, g, R, ex, q, r, h, k, kx⟩ := h
    refine ⟨⟨x, rfl⟩, C, l, g, R, ex, _, r, h, fun v H1 R1 d l1 g1 s1 r1 z1 h1 => ?_, kx⟩
    split at h1
    · rename_i s0 xs e0
      cases e0
      obtain ⟨ys, rfl, hl, hq⟩ := h1
      cases z1 with
      | lst ha zz =>
        obtain ⟨zs, rfl, ez⟩ := zz.strs
        have el : (zs.map (·.length)) = ys.map (·.length) := by
          rw [← ez, List.map_map]
          rfl
        refine ⟨x, _, zs, rfl, rfl, .inl (SqL.of (r1.sub _ _ ha)), ?_, ?_⟩
        · have e2 : zs.length = ys.length := by rw [← ez, List.length_map]
          have e3 : x.length = s.length := by rw [← hx]; rfl
          rw [el, e2, e3]
          exact hl
        · have e4 : (Txt.join x zs).cps.toList = joinL s ys := by
            rw [TL.join_eq]
            have := TL.tl_join x zs
            rw [← joinL_eq, ← ez, ← hx]
            exact this
          exact k _ _ R1 _ l1 g1 s1 r1 (e4 ▸ Rep.str (Txt.join x zs)) hq
    · exact h1.elim
end
end Lk

set_option autoImplicit false
set_option linter.all false
set_option Elab.async false
set_option maxRecDepth 100000
set_option maxHeartbeats 4000000
/-! sorted(set(a list of texts)) -/
namespace Lk
open PySem PySem.Spec PyProof.Rows L2 Dx
theorem isT (P : Program) (w : World) (k : Str) (tk : Tok) : (PySem.strKind P w).is k (.str k tk) = true := by
  show Value.isStrOf k (.str k tk) = true
  simp [Value.isStrOf]
def keyT (e : Int × Value) : Str := match e.2 with | .str k _ => k | _ => Str.empty
def GoodT (w : World) (e : Int × Value) : Prop := ∃ k tk, e.2 = Value.str k tk ∧ e.1 = hashStr w k

/-- the set of ints at a: S its members, n their number; its table rises and can be walked -/
def SetT (w : World) (h : Heap) (a : Addr) (S : Str → Bool) (n : Nat) : Prop :=
  ∃ o es ep t, h.get? a = some o ∧ o.ExactSet ∧ o.data = .set es ep t ∧ (∀ e ∈ es.toList, GoodT w e) ∧ (es.toList.map keyT).Nodup ∧ (∀ k, S k = true ↔ k ∈ es.toList.map keyT) ∧
    es.size < scanBound ∧ t.fits es.size = true ∧ es.size = n ∧ Ris t.place.toList ∧ (w.params.followText "set-order" = true ∨ t.led = true)

section
variable {P : Program} {w : World} {h h' : Heap} {a : Addr} {S : Str → Bool} {n : Nat}

theorem SetT.at (R : SetT w h a S n) (k : ∀ o, h.get? a = some o → h'.get? a = some o) : SetT w h' a S n := by
  obtain ⟨o, es, ep, t, ho, r⟩ := R
  exact ⟨o, es, ep, t, k o ho, r⟩
theorem SetT.lt (R : SetT w h a S n) : a < h.objs.size := by
  obtain ⟨o, es, ep, t, ho, r⟩ := R
  exact Heap.lt_size ho
theorem SetT.congr {S' : Str → Bool} (R : SetT w h a S n) (e : ∀ k, S' k = S k) : SetT w h a S' n := by
  have q : S' = S := funext e
  rw [q]; exact R
theorem goodT_elems {l : List (Int × Value)} (g : ∀ e ∈ l, GoodT w e) : ElemsOf (PySem.strKind P w) l := fun e he => by
  obtain ⟨k, tk, h1, h2⟩ := g e he
  exact ⟨⟨k, by rw [h1]; exact isT P w k tk, h2⟩, by rw [h1] <;> rfl⟩
theorem goodT_is {e : Int × Value} (g : GoodT w e) (k : Str) : (PySem.strKind P w).is k e.2 = true ↔ keyT e = k := by
  obtain ⟨k0, tk, h1, _⟩ := g
  unfold keyT
  rw [h1]
  show Value.isStrOf k (.str k0 tk) = true ↔ k0 = k
  simp [Value.isStrOf]
theorem goodT_mem {l : List (Int × Value)} (g : ∀ e ∈ l, GoodT w e) (k : Str) : k ∈ l.map keyT ↔ ∃ e ∈ l, (PySem.strKind P w).is k e.2 = true := by
  rw [List.mem_map]
  constructor
  · rintro ⟨e, he, q⟩
    exact ⟨e, he, (goodT_is (g e he) k).2 q⟩
  · rintro ⟨e, he, q⟩
    exact ⟨e, he, (goodT_is (g e he) k).1 q⟩
theorem SetT.setOf (R : SetT w h a S n) : h.SetOf (PySem.strKind P w) a S n := by
  obtain ⟨o, es, ep, t, ho, hx, hd, g, nd, hm, hb, hf, hn, _⟩ := R
  exact ⟨o, es, ep, t, ho, hx, hd, goodT_elems g, fun k => (hm k).trans (goodT_mem g k), hb, hf, hn⟩
end

section
variable {P : Program} {w : World} {A : Around} {E : Value → Shared → Prop} {s : Shared} {a : Addr} {S : Str → Bool} {n : Nat}

theorem setT_add_tail {g : Bool → Sem Unit} (hg : ∀ (b : Bool) (s₁ : Shared) (Q' : Unit → Shared → Prop), Q' () s₁ → wpAny (model P w) A (g b) Q' E s₁)
    {o : Obj} {es : Array (Int × Value)} {ep : Nat} {t : SetTable} (ho : s.heap.get? a = some o) (hex : o.ExactSet) (hd : o.data = .set es ep t)
    {es1 : Array (Int × Value)} {t2 : SetTable} {S' : Str → Bool} (g1 : ∀ e ∈ es1.toList, GoodT w e) (nd1 : (es1.toList.map keyT).Nodup) (m1 : ∀ k, S' k = true ↔ k ∈ es1.toList.map keyT)
    (hb1 : es1.size < scanBound) (hf2 : t2.fits es1.size = true) (hr : Ris t2.place.toList) (hl : w.params.followText "set-order" = true ∨ t2.led = true) {wasDummy : Bool} {R : Option Bool → Shared → Prop}
    (hR : ∀ h', Heap.SameBut a s.heap h' → SetT w h' a S' es1.size → R (some true) { s with heap := h' }) :
    wpAny (model P w) A (do
        storeSet a es1 t2
        if (!wasDummy && t2.tooFull) = true then do
            g (relayAll t2 es1 (SetTable.grown es1.size)).2.2
            storeSet a (relayAll t2 es1 (SetTable.grown es1.size)).1 (relayAll t2 es1 (SetTable.grown es1.size)).2.1
            pure (some true)
          else pure (some true)) R E s := by
  refine wpAny_bind (wpAny_storeSet_of ho hd ?_ (fits_of_scanBound hb1))
  have ho1 := store_at (es' := es1) (t' := t2) ho hd
  have sb1 := Heap.SameBut.update s.heap a (Obj.putSet es1 t2)
  split
  · have pm := relayAll_perm t2 es1 (SetTable.grown es1.size)
    have hf3 := relayAll_fits t2 es1 (SetTable.grown es1.size)
    have hr3 := relayAll_ris t2 es1 (SetTable.grown es1.size)
    have hl3 := relayAll_led t2 es1 (SetTable.grown es1.size)
    generalize relayAll t2 es1 (SetTable.grown es1.size) = Z at pm hf3 hr3 hl3 ⊢
    obtain ⟨es2, t3, gave⟩ := Z
    dsimp only at pm hf3 hr3 hl3 ⊢
    have hsz : es2.size = es1.size := by rw [← Array.length_toList, pm.length_eq, Array.length_toList]
    have hb2 : es2.size < scanBound := by rw [hsz]; exact hb1
    refine wpAny_bind (hg _ _ _ ?_)
    refine wpAny_bind (wpAny_storeSet_of ho1 rfl ?_ (fits_of_scanBound hb2))
    have ho2 := store_at (es' := es2) (t' := t3) ho1 rfl
    refine wpAny_pure (hR _ (sb1.trans (Heap.SameBut.update _ a _)) ?_)
    exact ⟨_, es2, _, t3, ho2, hex, rfl, fun e he => g1 e (pm.mem_iff.mp he), (pm.map keyT).nodup_iff.mpr nd1, fun k => (m1 k).trans (pm.map keyT).mem_iff.symm, hb2, hf3, hsz, hr3,
      hl.imp id fun z => by rw [hl3]; exact z⟩
  · exact wpAny_pure (hR _ sb1 ⟨_, es1, _, t2, ho1, hex, rfl, g1, nd1, m1, hb1, hf2, rfl, hr, hl⟩)

theorem setT_add_hashed {k : Str} {tk : Tok} {Q : Bool → Shared → Prop} (R : SetT w s.heap a S n) (room : n + 1 < scanBound)
    (hQ : ∀ h', Heap.SameBut a s.heap h' → SetT w h' a (fun j => S j || decide (j = k)) (if S k = true then n else n + 1) → Q (!S k) { s with heap := h' }) :
    wpAny (model P w) A (setAddHashed a (.str k tk) ((PySem.strKind P w).hash k)) Q E s := by
  obtain ⟨o, es, ep, t, ho, hex, hd, g, nd, hm, hb, hf, hn, hr, hl⟩ := R
  have hkey : (PySem.strKind P w).is k (.str k tk) = true := isT P w k tk
  have hsc : (Value.str k tk).scannable = true := rfl
  have hel : ElemsOf (PySem.strKind P w) es.toList := goodT_elems g
  unfold setAddHashed setAddHashedIn
  refine wpAny_holding (wpAny_bind (wpAny_setState_of ho hd hf ?_))
  dsimp only
  rw [byScan_of hsc hb hel]
  simp only [↓reduceIte]
  unfold setAddByScan
  refine wpAny_bind ?_
  refine wpAny_bind (wpAny_rule ?_)
  refine wpAny_bind (wpAny_setScan_of hkey ho hd hf hel ?_)
  cases hfi : List.findIdx? (fun e => (PySem.strKind P w).is k e.2) es.toList with
  | some j =>
    dsimp only
    obtain ⟨hj, pj, _⟩ := List.findIdx?_eq_some_iff_getElem.mp hfi
    have hSk : S k = true := (hm k).2 ((goodT_mem (P := P) (w := w) g k).2 ⟨es.toList[j], List.getElem_mem hj, pj⟩)
    refine wpAny_pure (wpAny_pure ?_)
    have q := hQ s.heap (Heap.SameBut.refl a s.heap) ⟨o, es, ep, t, ho, hex, hd, g, nd, fun i => by
      rw [Bool.or_eq_true, decide_eq_true_eq, ← hm i]
      exact ⟨fun z => z.elim id (fun e => e ▸ hSk), .inl⟩, hb, hf, by rw [if_pos hSk]; exact hn, hr, hl⟩
    rw [hSk] at q
    exact q
  | none =>
    dsimp only
    have hnk : k ∉ es.toList.map keyT := fun z => by
      obtain ⟨e, he, q⟩ := (goodT_mem (P := P) (w := w) g k).1 z
      have c := List.findIdx?_eq_none_iff.mp hfi e he
      rw [q] at c
      cases c
    have hSk : S k = false := by
      cases q : S k with
      | false => rfl
      | true => exact absurd ((hm k).1 q) hnk
    have hgw : ∀ (b : Bool) {s₁ : Shared} {Q' : Unit → Shared → Prop}, Q' () s₁ → wpAny (model P w) A (match b with | true => rule "set.scan.the-table-gave-way" | false => pure ()) Q' E s₁ :=
      fun b s₁ Q' q => by cases b <;> first | exact wpAny_pure q | exact wpAny_rule q
    have pm := layNew_perm t es ((PySem.strKind P w).hash k) (.str k tk)
    have hf1 := layNew_fits t es ((PySem.strKind P w).hash k) (.str k tk)
    have hr1 := layNew_ris t es ((PySem.strKind P w).hash k) (.str k tk) hr
    have hl1 := layNew_led t es ((PySem.strKind P w).hash k) (.str k tk)
    generalize layNew t es ((PySem.strKind P w).hash k) (.str k tk) = Z at pm hf1 hr1 hl1 ⊢
    obtain ⟨es1, t1, wasDummy, gave⟩ := Z
    dsimp only at pm hf1 hr1 hl1 ⊢
    rw [Array.toList_push] at pm
    have pc : es1.toList.Perm (((PySem.strKind P w).hash k, Value.str k tk) :: es.toList) := pm.trans (List.perm_append_singleton _ _)
    have pk : (es1.toList.map keyT).Perm (k :: es.toList.map keyT) := pc.map keyT
    have g1 : ∀ e ∈ es1.toList, GoodT w e := fun e he => by
      rcases List.mem_cons.mp (pc.mem_iff.mp he) with z | z
      · rw [z]; exact ⟨k, tk, rfl, rfl⟩
      · exact g e z
    have nd1 : (es1.toList.map keyT).Nodup := pk.nodup_iff.mpr (List.nodup_cons.mpr ⟨hnk, nd⟩)
    have m1 : ∀ i, (S i || decide (i = k)) = true ↔ i ∈ es1.toList.map keyT := fun i => by
      rw [Bool.or_eq_true, decide_eq_true_eq, hm i, pk.mem_iff, List.mem_cons]
      exact Or.comm
    have hsz : es1.size = n + 1 := by rw [← Array.length_toList, pc.length_eq, List.length_cons, Array.length_toList, hn]
    have hb1 : es1.size < scanBound := by rw [hsz]; exact room
    have hled : w.params.followText "set-order" = true ∨ t1.led = true := hl.imp id fun z => by rw [hl1]; exact z
    have fin : ∀ h', Heap.SameBut a s.heap h' → SetT w h' a (fun j => S j || decide (j = k)) es1.size → Q true { s with heap := h' } := fun h' sb r => by
      have q := hQ h' sb
      rw [hSk] at q
      rw [hsz] at r
      exact q r
    refine wpAny_bind (hgw _ ?_)
    split
    · refine wpAny_bind ?_
      rw [hashByValue_scannable 8 hsc]
      refine wpAny_pure ?_
      refine setT_add_tail ?_ ho hex hd g1 nd1 m1 hb1 ?_ ?_ ?_ ?_
      · intro b s₁ Q' q; cases b <;> first | exact wpAny_pure q | exact wpAny_rule q
      · first | (split <;> first | exact hf1 | exact SetTable.fits_plain_off hf1) | exact hf1
      · first | (split <;> exact hr1) | exact hr1
      · first | (split <;> exact hled) | exact hled
      · intro h' sb r; dsimp only; exact wpAny_pure (fin h' sb r)
    · refine wpAny_bind (wpAny_pure ?_)
      simp only [↓reduceIte]
      refine setT_add_tail ?_ ho hex hd g1 nd1 m1 hb1 hf1 hr1 hled ?_
      · intro b s₁ Q' q; cases b <;> first | exact wpAny_pure q | exact wpAny_rule q
      · intro h' sb r; dsimp only; exact wpAny_pure (fin h' sb r)

end
theorem setT_new_at {w : World} {h : Heap} {a : Addr} {ns : List Str} (ho : h.get? a = some { cls := .type "set", dict := none, data := .set #[] 0 (.fresh 0 0 (!w.params.followText "set-order")) }) : SetT w h a (fun j => decide (j ∈ ns.take 0)) 0 :=
  ⟨_, #[], 0, _, ho, ⟨rfl, rfl, rfl⟩, rfl, (fun e he => by simp at he), (by simp), (fun k => by simp), (by decide), (by rfl), rfl, List.Pairwise.nil, by
    show _ ∨ (!w.params.followText "set-order") = true
    cases w.params.followText "set-order"
    · exact .inr rfl
    · exact .inl rfl⟩
section
variable {P : Program} {w : World} {A : Around} {E : Value → Shared → Prop} {s : Shared}
theorem set_update_strs {I : Addr} {fp wr : List Addr} {G : Array GenState → Array GenState → Prop} {n : Nat} {Pv : Nat → Value → Prop} {St : Nat → Shared → Prop} {R : Result → Shared → Prop}
    (W : WalksS P w A.in1 I fp wr G n Pv St) (S : Addr) (hSf : S ∉ fp) (ns : List Str) (hn : n = ns.length) (hb : ns.length + 1 < scanBound) (hval : ∀ i v, Pv i v → ∃ k t, ns[i]? = some k ∧ v = .str k t) :
    ∀ (k i : Nat) (s : Shared), n - i = k → i ≤ n → St i s → (∃ c, c ≤ i ∧ SetT w s.heap S (fun j => decide (j ∈ ns.take i)) c) →
      (∀ s' c, Moved (S :: wr) G s s' → c ≤ n → SetT w s'.heap S (fun j => decide (j ∈ ns)) c → R (.ok (.ret .none)) s') →
      codeAny (model P w) A (.builtin "set.update.loop" ⟨[.ref S, .ref I], []⟩) R s := by
  have hSw : S ∉ wr := fun h => hSf (W.sub _ h)
  have hsub : ∀ b ∈ wr, b ∈ S :: wr := fun b hb => List.mem_cons_of_mem _ hb
  intro k
  induction k with
  | zero =>
    intro i s hk' hi hst ⟨c, hc, hS⟩ hR
    have hin : i = n := by omega
    subst hin
    refine codeAny_builtin F.entry_set_update_loop ?_
    rw [Around.under_plainId F.plain_set_update_loop _]
    show wpAny _ A.in1 (pyNext (.ref I) >>= _) _ _ s
    refine wpAny_bind (W.done s _ _ hst fun s' hm => ?_)
    show wpAny _ A.in1 (ret Value.none) _ _ s'
    have e : ns.take i = ns := List.take_of_length_le (by omega)
    rw [e] at hS
    exact wpAny_pure (hR s' c (hm.mono hsub) hc (hS.at fun o e => hm.heap S o hSw e))
  | succ k ih =>
    intro i s hk' hi hst ⟨c, hc, hS⟩ hR
    have hlt : i < n := by omega
    refine codeAny_builtin F.entry_set_update_loop ?_
    rw [Around.under_plainId F.plain_set_update_loop _]
    show wpAny _ A.in1 (pyNext (.ref I) >>= _) _ _ s
    refine wpAny_bind (W.item i s _ _ hlt hst fun v s' hP hst' hm => ?_)
    obtain ⟨z, t, hz, rfl⟩ := hval i v hP
    have hS' : SetT w s'.heap S (fun j => decide (j ∈ ns.take i)) c := hS.at fun o e => hm.heap S o hSw e
    show wpAny _ A.in1 (holding [Value.str z t] (setAdd S (.str z t)) >>= _) _ _ s'
    refine wpAny_bind (wpAny_holding ?_)
    unfold setAdd
    refine wpAny_holding ?_
    refine wpAny_bind ((PySem.strKind P w).pyHash (k := z) (isT _ _ _ _) ?_)
    refine setT_add_hashed (s := { s' with toks := s'.toks + 1 }) hS' (by omega) fun h' hsb hS2 => ?_
    have hS3 : SetT w h' S (fun j => decide (j ∈ ns.take (i + 1))) (if decide (z ∈ ns.take i) = true then c else c + 1) := hS2.congr fun j => by
      rw [List.take_add_one, hz]
      simp [List.mem_append]
    have hc3 : (if decide (z ∈ ns.take i) = true then c else c + 1) ≤ i + 1 := by
      split <;> omega
    refine wpAny_pure ⟨plainId_quiet F.plain_set_update_loop _, ih (i + 1) _ (by omega) hlt (W.frame _ s' _ _ hst' (Nat.le_succ _) fun b hb o e => ?_) ⟨_, hc3, hS3⟩ fun s'' c2 hm'' hc'' hS'' => ?_⟩
    · rw [hsb.2 b (fun h : b = S => hSf (by rw [← h]; exact hb))]; exact e
    · refine hR s'' c2 (Moved.trans W.gtrans ((hm.mono hsub).then_heap (Nat.le_succ _) fun b o hb e => ?_) hm'') hc'' hS''
      rw [hsb.2 b (fun h : b = S => hb (by rw [h]; exact List.mem_cons_self))]; exact e

theorem strsT_len : ∀ {us : List Value} {ks : List Str}, StrsAre us ks → us.length = ks.length
  | _, _, .nil => rfl
  | _, _, .cons k t h => by rw [List.length_cons, List.length_cons, strsT_len h]
theorem strsT_get : ∀ {us : List Value} {ks : List Str}, StrsAre us ks → ∀ (i : Nat) (v : Value), us[i]? = some v → ∃ x t, ks[i]? = some x ∧ v = Value.str x t
  | _, _, .nil => fun i v e => by simp at e
  | _, _, .cons k t h => fun i v e => by
    cases i with
    | zero => cases e; exact ⟨k, t, rfl, rfl⟩
    | succ i => exact strsT_get h i v (by simpa using e)
set_option maxRecDepth 100000 in
set_option maxHeartbeats 3200000 in
theorem set_listT {l : Addr} {items : Array Value} (ns : List Str) {Q : Value → Shared → Prop} (hh : A.handled = none) (hl : s.heap.IsList l items) (hit : StrsAre items.toList ns) (hb : ns.length + 1 < scanBound)
    (h : ∀ (h' : Heap) (tk c : Nat), SetT w h' s.heap.objs.size (fun j => decide (j ∈ ns)) c → c ≤ ns.length → (∀ b o, s.heap.get? b = some o → h'.get? b = some o) → Q (.ref s.heap.objs.size) { s with heap := h', toks := tk }) :
    wpAny (model P w) A (call (.type "set") [.ref l]) Q E s := by
  have hisz : items.size = ns.length := by
    have q := strsT_len hit
    rw [Array.length_toList] at q
    exact q
  obtain ⟨c, tl, hmro⟩ := F.called_set.mro
  have hmade := F.called_set.made
  have hsub := F.called_set.sub
  refine wpAny_call (codeAny_of_tree ?_)
  show wpAny _ _ (callAny (.type "set") _) _ _ _
  refine wpAny_pure ⟨Code.quiet_builtin _ (by decide +kernel), codeAny_builtin F.entry_type_call ?_⟩
  rw [Around.under_plain (weight_type_call_type "set" [.ref l] []) rfl]
  have h1 := F.called_set.notType
  have h2 := F.called_set.canCreate
  have hct := F.typeCall_set_1 (.ref l)
  repeat (any_goals (first | assumption | wp_step))

  refine codeAny_mono (code_set_led1 (.ref l) (E := E) (Q₁ := fun obj s₁ => obj = .ref s.heap.objs.size ∧ s₁ = { s with heap := s.heap.push { cls := .type "set", dict := none, data := .set #[] 0 (.fresh 0 0 (!w.params.followText "set-order")) } }) ⟨rfl, rfl⟩) fun r s₁ hr => ?_
  cases r with
  | error e => exact hr
  | ok fl =>
    cases fl with
    | ret obj =>
      obtain ⟨rfl, rfl⟩ := hr
      have hS : (s.heap.push { cls := .type "set", dict := none, data := .set #[] 0 (.fresh 0 0 (!w.params.followText "set-order")) }).get? s.heap.objs.size = some { cls := .type "set", dict := none, data := .set #[] 0 (.fresh 0 0 (!w.params.followText "set-order")) } := Heap.get?_push_size _ rfl
      have hT : Shared.TypeIs { s with heap := s.heap.push { cls := .type "set", dict := none, data := .set #[] 0 (.fresh 0 0 (!w.params.followText "set-order")) } } (.ref s.heap.objs.size) "set" := ⟨_, hS, rfl⟩
      have hli := F.called_set.init.lookup
      have hbi := F.called_set.init.bind (.ref s.heap.objs.size)
      repeat (any_goals (first | assumption | wp_step))

      refine codeAny_mono (codeAny_call_builtin (R := wants (fun r s₂ => r = .none ∧ ∃ h' tk c, s₂ = { s with heap := h', toks := tk } ∧ SetT w h' s.heap.objs.size (fun j => decide (j ∈ ns)) c ∧ c ≤ ns.length ∧
          (∀ b o, s.heap.get? b = some o → h'.get? b = some o)) E) F.called_set.init.plain F.entry_set_init (check_set_init_1 hT ?_)) fun r₂ s₂ hr₂ => ?_
      · obtain ⟨ol, hol, hcl, nl, hdl⟩ := hl
        obtain ⟨ocls, odict, odata, oslots⟩ := ol
        simp only at hcl hdl
        subst hcl; subst hdl
        have hol' : (s.heap.push { cls := .type "set", dict := none, data := .set #[] 0 (.fresh 0 0 (!w.params.followText "set-order")) }).get? l = some { cls := .type "list", dict := odict, data := .seq items nl, slots := oslots } := Heap.get?_push_of_some _ hol
        have hsls := F.sub_list_set
        have hslf := F.sub_list_frozenset
        have hne : (Value.type "list" == Value.type "dict") = false := by decide
        have hl1 : (s.heap.push { cls := .type "set", dict := none, data := .set #[] 0 (.fresh 0 0 (!w.params.followText "set-order")) }).IsList l items := ⟨_, hol', rfl, nl, rfl⟩
        unfold Builtin.«set.__init__» noKeywords Builtin.Frozenset.updateFrom
        generalize hPI : pyIter = PI
        wp_walk
        subst hPI

        refine wpAny_pyIter_list hl1 ?_
        refine wpAny_bind (wpAny_runValue ?_)
        have hlS : l < s.heap.objs.size := Heap.lt_size hol
        have hh3 : A.in1.in1.in1.handled = none := by simp [hh]
        have hz1 : (s.heap.push { cls := .type "set", dict := none, data := .set #[] 0 (.fresh 0 0 (!w.params.followText "set-order")) }).objs.size = s.heap.objs.size + 1 := Heap.size_push ..
        have hneI : l ≠ (s.heap.push { cls := .type "set", dict := none, data := .set #[] 0 (.fresh 0 0 (!w.params.followText "set-order")) }).objs.size := by
          rw [Heap.size_push]; exact Nat.ne_of_lt (Nat.lt_succ_of_lt hlS)
        have hSf : s.heap.objs.size ∉ [(s.heap.push { cls := .type "set", dict := none, data := .set #[] 0 (.fresh 0 0 (!w.params.followText "set-order")) }).objs.size, l] := by
          rw [Heap.size_push]; simp only [List.mem_cons, List.mem_singleton, List.not_mem_nil, or_false, not_or]
          exact ⟨Nat.ne_of_lt (Nat.lt_succ_self _), Nat.ne_of_gt hlS⟩
        have hval : ∀ (i : Nat) (v : Value), items[i]? = some v → ∃ k t, ns[i]? = some k ∧ v = .str k t := fun i v hv => by
          have hi : i < ns.length := by rw [← hisz]; exact (Array.getElem?_eq_some_iff.mp hv).1
          obtain ⟨x, t, e1, e2⟩ := strsT_get hit i v (by rw [Array.getElem?_toList]; exact hv)
          exact ⟨x, t, e1, e2⟩
        refine set_update_strs ((Walks.list hh3 _ l hneI items).toS) s.heap.objs.size
          hSf ns hisz hb hval (items.size - 0) 0 _ (by omega) (Nat.zero_le _)
          ⟨⟨_, Heap.get?_push_size _ rfl, rfl, rfl⟩, (hl1.push _)⟩ ?hS0 ?hR
        case hS0 =>
          have hget : ((s.heap.push { cls := .type "set", dict := none, data := .set #[] 0 (.fresh 0 0 (!w.params.followText "set-order")) }).push { cls := .type "list_iterator", data := .fields #[.ref l, .int 0 0] }).get? s.heap.objs.size
              = some { cls := .type "set", dict := none, data := .set #[] 0 (.fresh 0 0 (!w.params.followText "set-order")) } := Heap.get?_push_of_some _ hS
          exact ⟨0, Nat.le_refl 0, setT_new_at hget⟩
        case hR =>
          intro s' c' hm hc' hS'
          obtain ⟨h', g2, d', tk', os'⟩ := s'
          have eg : g2 = s.gens := hm.gens
          have ed : d' = s.drawn := hm.drawn
          have eo : os' = s.os := hm.os
          subst eg; subst ed; subst eo
          show wpAny _ _ _ _ _ _
          refine wpAny_pure ?_
          show wpAny _ _ (ret Value.none) _ _ _
          rw [hisz] at hc'
          refine wpAny_pure ⟨rfl, h', tk', c', rfl, hS', hc', fun b o e => ?_⟩
          have hb0 : b < s.heap.objs.size := Heap.lt_size e
          have hb1 : b ≠ s.heap.objs.size := Nat.ne_of_lt hb0
          have hb2 : b ≠ (s.heap.push { cls := .type "set", dict := none, data := .set #[] 0 (.fresh 0 0 (!w.params.followText "set-order")) }).objs.size := by
            rw [Heap.size_push]; exact Nat.ne_of_lt (Nat.lt_succ_of_lt hb0)
          exact hm.heap b o (by simp only [List.mem_cons, List.mem_singleton, List.not_mem_nil, or_false, not_or]; exact ⟨hb1, hb2⟩) (Heap.get?_push_of_some _ (Heap.get?_push_of_some _ e))

      · cases r₂ with
        | error e => exact hr₂
        | ok fl₂ =>
          cases fl₂ with
          | ret r =>
            obtain ⟨rfl, h', tk, c', rfl, hS', hc', hk'⟩ := hr₂
            repeat (any_goals (first | assumption | wp_step))
            exact h _ _ _ hS' hc' hk'
          | _ => exact hr₂.elim
    | _ => exact hr.elim

end
end Lk

set_option autoImplicit false
set_option linter.all false
set_option Elab.async false
set_option maxRecDepth 100000
set_option maxHeartbeats 4000000
namespace Lk
open PySem PySem.Spec PyProof.Rows L2 Dx
/-- the set of texts at a -/
def SetX (w : World) (a : Addr) (S : Str → Bool) (n : Nat) : HO := .ext fun h => SetT w h a S n
def rSetT (K : Fg) (w : World) : List V → Hp → VK → Prop := fun xs H Q => ∃ (a : Addr) (ns : List Str), xs = [.ref a] ∧ SqL K H a (ns.map V.str) ∧ ns.length < 64 ∧
  ∀ p n, n ≤ ns.length → H p = none → Q (.ref p) (upd H p (SetX w p (fun j => decide (j ∈ ns)) n))
def rSortedT (w : World) : List V → Hp → VK → Prop := fun vs H Q => ∃ (a : Addr) (S : Str → Bool) (n : Nat), vs = [V.ref a] ∧ H a = some (SetX w a S n) ∧ n < 64 ∧
  ∀ (ns : List Str) (p : Addr), ns.Nodup → sortedS ns = true → (∀ k : Str, k ∈ ns ↔ S k = true) → H p = none → Q (.ref p) (upd H p (.lst (ns.map V.str)))
theorem strs_keyT {w : World} : ∀ (l : List (Int × Value)), (∀ e ∈ l, GoodT w e) → StrsAre (l.map (·.2)) (l.map keyT)
  | [], _ => .nil
  | e :: l, h => by
    obtain ⟨k, tk, h1, _⟩ := h e List.mem_cons_self
    have e2 : keyT e = k := by
      unfold keyT
      rw [h1]
    rw [List.map_cons, List.map_cons, e2, h1]
    exact .cons k tk (strs_keyT l fun u hu => h u (List.mem_cons_of_mem _ hu))
theorem strs_perm {us vs : List Value} (p : us.Perm vs) {ks : List Str} (h : StrsAre vs ks) : ∃ js, StrsAre us js ∧ js.Perm ks := by
  induction p generalizing ks with
  | nil => exact ⟨ks, h, List.Perm.refl _⟩
  | cons x p ih =>
    cases h with
    | cons k t h =>
      obtain ⟨js, h1, h2⟩ := ih h
      exact ⟨k :: js, .cons k t h1, h2.cons k⟩
  | swap x y l =>
    cases h with
    | cons k t h =>
      cases h with
      | cons k2 t2 h => exact ⟨_, .cons k2 t2 (.cons k t h), List.Perm.swap _ _ _⟩
  | trans p1 p2 ih1 ih2 =>
    obtain ⟨js, h1, h2⟩ := ih2 h
    obtain ⟨is, h3, h4⟩ := ih1 h1
    exact ⟨is, h3, h4.trans h2⟩
section
variable {X : Cx}
theorem setX_new {w : World} {P : Program} {H : Hp} {h : Heap} {a : Addr} {S : Str → Bool} {n : Nat} (R : SetT w h a S n) : ObjOk P w H h a (SetX w a S n) := by
  have ⟨o, _, _, _, ho, _⟩ := R
  exact ⟨R, ⟨o, ho⟩, fun h1 h2 p k => SetT.at p k⟩
theorem setX_get {pins : List (Addr × Obj)} {σ : L2.St} {H : Hp} {s : Shared} {a : Addr} {S : Str → Bool} {n : Nat} (I : Inv X pins σ H s) (ha : H a = some (SetX X.w a S n)) : SetT X.w s.heap a S n := (I.hok a _ ha).1
theorem cr_setT (hc : X.calm = true) : CallR X (.type "set") (rSetT X.K X.w) := by
  intro pins s σ H xs us Q I r h
  obtain ⟨a, ns, rfl, hq, hl, q⟩ := h
  rw [Vals.ref1 r]
  obtain ⟨its, rv, pl, hz⟩ := I.list hq
  have hi : StrsAre its.toArray.toList ns := by rw [List.toList_toArray]; exact strs_of_vals rv
  refine set_listT ns (I.ok.hd hc) pl.isList hi (by unfold scanBound; omega) fun h' tk c R1 hcn k => ?_
  exact ⟨.ref _, upd H s.heap.objs.size (SetX X.w s.heap.objs.size (fun j => decide (j ∈ ns)) c), I.laid (t' := tk) (fun b u e => k b u e) (Nat.le_refl _) (setX_new R1), rfl, q _ c hcn (I.hok.fresh (Nat.le_refl _))⟩
theorem cr_sortedT (hc : X.calm = true) : CallR X (.builtin "sorted") (rSortedT X.w) := by
  intro pins s σ H vs us Q I r h
  obtain ⟨a, S, n, rfl, ha, h64, q⟩ := h
  obtain ⟨o, es, ep, t, ho, hex, hd, g, nd, hm, hb, hf, hn, hr, hl⟩ := setX_get I ha
  rw [Vals.ref1 r]
  refine Calls.call_function_entry PyProof.Rows.kind_sorted PyProof.Rows.plain_sorted PyProof.Rows.entry_sorted (PyProof.Rows.args_sorted1 _) ?_
  unfold Builtin.«sorted»
  refine wpAny_bind (m := checkCount "sorted" 1 1 _) (wpAny_pure ?_)
  refine wpAny_bind (collect_set (A := X.A.in1) (I.ok.hd hc) ⟨o, ho, hex.1, hd⟩ hf hb hr hl fun s1 out k1 hz g1 o1 pm => ?_)
  obtain ⟨h1, gs1, d1, t1, os1⟩ := s1
  have o1 : os1 = s.os := o1
  have g1 : gs1 = s.gens := g1
  have k1 : ∀ b u, s.heap.get? b = some u → h1.get? b = some u := k1
  have hz : s.heap.objs.size ≤ h1.objs.size := hz
  subst o1
  obtain ⟨ks, hS, hks⟩ := strs_perm pm (strs_keyT es.toList g)
  have hal : out.length = n := by rw [pm.length_eq, List.length_map, Array.length_toList]; exact hn
  refine wpAny_bind (wpAny_newList ?_ (by rw [hal, sizeLine_eq]; omega))
  have hoL : (h1.push (seqObj "list" out.toArray 0)).get? h1.objs.size = some (seqObj "list" out.toArray 0) := Heap.get?_push_size _ rfl
  refine wpAny_bind (wpAny_holding (wpAny_call_entry PyProof.Rows.slot_list_sort ⟨_, hoL, rfl⟩ PyProof.Rows.entry_list_sort
    (list_sort_treeK strKind_oneLt (s := { s with heap := h1.push (seqObj "list" out.toArray 0), gens := gs1, drawn := d1, toks := t1 }) hoL hS.keysOf (fun v₁ v₂ rest e => keyKind_strs (by rw [← e]; exact hS)) (by rw [hal]; exact h64) fun st' hp hs => ⟨_, rfl, ?_⟩)
    (PyProof.Rows.args_list_sort _)))
  obtain ⟨ys, g1', g2, g3⟩ := sorted_out_str hS hp hs
  obtain ⟨e', he'⟩ := PyProof.Rows.sortedHeap_at (vs := out) (out := (arrOf st').map (·.2)) hoL
  have hkn : ks.length = n := by rw [hks.length_eq, List.length_map, Array.length_toList]; exact hn
  have hlen : (ys.map V.str).length ≤ sizeLine := by
    rw [List.length_map, g2.length_eq, hkn]
    exact Nat.le_trans (Nat.le_of_lt h64) (by decide)
  have hfr : H h1.objs.size = none := I.hok.fresh hz
  have kk : ∀ b u, s.heap.get? b = some u → (sortedHeap (h1.push (seqObj "list" out.toArray 0)) h1.objs.size out ((arrOf st').map (·.2))).get? b = some u := fun b u e => by
    have q := k1 b u e
    have hlt := Heap.lt_size q
    rw [PyProof.Rows.sortedHeap_old (Nat.ne_of_lt hlt) (by rw [size_push']; exact Nat.lt_succ_of_lt hlt)]
    exact Heap.get?_push_of_some _ q
  have pk := g2.trans hks
  refine wpAny_pure ⟨_, rfl, ?_⟩
  have J : Inv X pins σ (upd H h1.objs.size (.lst (ys.map V.str))) { s with heap := sortedHeap (h1.push (seqObj "list" out.toArray 0)) h1.objs.size out ((arrOf st').map (·.2)), gens := gs1, drawn := d1, toks := t1 } :=
    I.call (ch := []) (Un.laid kk hz hfr) (I.hok.laid kk hz ⟨hlen, ((arrOf st').map (·.2)).toList, e', vals_of_strs g1', by rw [Array.toArray_toList]; exact he'⟩) (by rw [show gs1 = s.gens from g1]; exact I.bare) (fun _ z => nomatch z)
  exact ⟨.ref h1.objs.size, _, J, rfl, q ys _ (pk.nodup_iff.mpr nd) g3 (fun k => by rw [pk.mem_iff, ← hm k]) hfr⟩
end
section
variable {G : Type} {Γ : GInt G} {K : Fg}
theorem cr_either {X : Cx} {f : Value} {r1 r2 : List V → Hp → VK → Prop} (h1 : CallR X f r1) (h2 : CallR X f r2) : CallR X f fun xs H Q => r1 xs H Q ∨ r2 xs H Q := by
  intro pins s σ H xs us Q I r h
  rcases h with h | h
  · exact h1 pins s σ H xs us Q I r h
  · exact h2 pins s σ H xs us Q I r h
def rSetS (K : Fg) (w : World) : List V → Hp → VK → Prop := fun xs H Q => rSetI K w xs H (fun x H2 => rSortedSet w [x] H2 Q ∨ rSortedT w [x] H2 Q) ∨ rSetT K w xs H (fun x H2 => rSortedSet w [x] H2 Q ∨ rSortedT w [x] H2 Q)
theorem strsD_rep {R : Hp} : ∀ ys : List Str, Reps K R (ys.map V.str) ((ys.map fun x => x.cps.toList).map D.str)
  | [] => .nil
  | x :: ys => .cons (.str x) (strsD_rep ys)
theorem str_injL {a b : Str} (h : a.cps.toList = b.cps.toList) : a = b := by
  obtain ⟨x⟩ := a
  obtain ⟨y⟩ := b
  have h : x.toList = y.toList := h
  rw [Array.toList_inj.mp h]
theorem ltCps_dec : ∀ a b : List Nat, ltCps a b = sLt a b
  | [], [] => rfl
  | [], _ :: _ => by show true = sLt _ _; simp [sLt]
  | _ :: _, [] => by show false = sLt _ _; simp [sLt]
  | a :: r, b :: t => by
    show (decide (a < b) || (a == b && ltCps r t)) = sLt _ _
    rw [ltCps_dec r t]
    by_cases h : a < b
    · simp [sLt, List.cons_lt_cons_iff, h]
    · by_cases e : a = b
      · subst e
        simp [sLt, List.cons_lt_cons_iff]
      · simp [sLt, List.cons_lt_cons_iff, h, e]
theorem sLt_tri : ∀ a b : List Nat, sLt a b = true ∨ a = b ∨ sLt b a = true
  | [], [] => .inr (.inl rfl)
  | [], _ :: _ => .inl (by simp [sLt])
  | _ :: _, [] => .inr (.inr (by simp [sLt]))
  | a :: r, b :: t => by
    rcases Nat.lt_trichotomy a b with h | h | h
    · exact .inl (by simp [sLt, List.cons_lt_cons_iff, h])
    · subst h
      rcases sLt_tri r t with h | h | h
      · exact .inl (by simpa [sLt, List.cons_lt_cons_iff] using h)
      · exact .inr (.inl (by rw [h]))
      · exact .inr (.inr (by simpa [sLt, List.cons_lt_cons_iff] using h))
    · exact .inr (.inr (by simp [sLt, List.cons_lt_cons_iff, h]))
theorem sLt_trans {a b c : List Nat} (h : sLt a b = true) (k : sLt b c = true) : sLt a c = true := by
  unfold sLt at *
  rw [decide_eq_true_eq] at *
  exact List.lt_trans h k
theorem sLt_irr (a : List Nat) : sLt a a = false := by
  unfold sLt
  simp
theorem rising_pw : ∀ (l : List Str) (p : Str), (p :: l).Nodup → risingS p l = true → (p :: l).Pairwise (fun a b => sLt a.cps.toList b.cps.toList = true)
  | [], p, _, _ => List.pairwise_singleton _ _
  | x :: r, p, hnd, h => by
    have h : (!ltCps x.cps.toList p.cps.toList && risingS x r) = true := h
    obtain ⟨h1, h2⟩ := Bool.and_eq_true_iff.mp h
    have hnd2 := (List.nodup_cons.mp hnd).2
    have ih := rising_pw r x hnd2 h2
    have hpx : sLt p.cps.toList x.cps.toList = true := by
      rw [ltCps_dec, Bool.not_eq_true'] at h1
      rcases sLt_tri p.cps.toList x.cps.toList with k | k | k
      · exact k
      · exact absurd (str_injL k) (fun e => (List.nodup_cons.mp hnd).1 (e ▸ List.mem_cons_self))
      · rw [k] at h1; cases h1
    refine List.pairwise_cons.mpr ⟨fun y hy => ?_, ih⟩
    rcases List.mem_cons.mp hy with rfl | hy
    · exact hpx
    · exact sLt_trans hpx ((List.pairwise_cons.mp ih).1 y hy)
theorem sorted_pw : ∀ l : List Str, l.Nodup → sortedS l = true → (l.map fun x => x.cps.toList).Pairwise (fun a b => sLt a b = true)
  | [], _, _ => List.Pairwise.nil
  | x :: r, hnd, h => by
    rw [List.pairwise_map]
    exact rising_pw r x hnd h
theorem ag_setS (w : World) : AgAF K Γ (rSetS K w) bSetS := by
  intro C l g σ R H vs ds k Q r z hw fin
  unfold bSetS at hw
  split at hw
  · rcases hw with ⟨ns, rfl, hl, hk⟩ | ⟨ks, rfl, hl, hk⟩
    · obtain ⟨v, rfl, rb⟩ := z.one
      obtain ⟨a, ws, rfl, ha, q⟩ := rb.lst r.sub
      refine .inl ⟨a, ns, rfl, SqL.of (by rw [← q.ints]; exact ha), hl, fun p n hn h0 => ?_⟩
      have r1 := r.laidF (o := SetO w p (fun j => decide (j ∈ ns)) n) h0
      refine .inl ⟨p, _, n, rfl, upd_same, by omega, fun ys p2 hp hm _ hn2 => ?_⟩
      obtain ⟨r2, z2⟩ := r1.newLF hn2 (ints_rep (K := K) (R := R) ys)
      obtain ⟨n1, n2, n3, n4⟩ := r1.newF hn2
      exact fin p2 _ _ r2 z2 n1 n2 n3 n4 (hk ys hp fun j => by rw [hm j, decide_eq_true_eq])
    · obtain ⟨v, rfl, rb⟩ := z.one
      obtain ⟨a, ws, rfl, ha, q⟩ := rb.lst r.sub
      obtain ⟨zs, rfl, ez⟩ := q.strs
      have elen : zs.length = ks.length := by rw [← ez, List.length_map]
      refine .inr ⟨a, zs, rfl, SqL.of ha, by omega, fun p n hn h0 => ?_⟩
      have r1 := r.laidF (o := SetX w p (fun j => decide (j ∈ zs)) n) h0
      refine .inr ⟨p, _, n, rfl, upd_same, by omega, fun ys p2 hnd hst hm hn2 => ?_⟩
      obtain ⟨r2, z2⟩ := r1.newLF hn2 (strsD_rep (K := K) (R := R) ys)
      obtain ⟨n1, n2, n3, n4⟩ := r1.newF hn2
      refine fin p2 _ _ r2 z2 n1 n2 n3 n4 (hk (ys.map fun x => x.cps.toList) (sorted_pw ys hnd hst) fun j => ?_)
      · rw [← ez, List.mem_map, List.mem_map]
        constructor
        · rintro ⟨y, hy, rfl⟩
          exact ⟨y, by rw [hm y, decide_eq_true_eq] at hy; exact hy, rfl⟩
        · rintro ⟨y, hy, rfl⟩
          exact ⟨y, by rw [hm y, decide_eq_true_eq]; exact hy, rfl⟩
  · exact hw.elim
variable {X : Cx} {W : WX} {pos q p p2 : Pos} {e : Expr} {es : List Expr} {fs : DA G}
/-- sorted(set(xs)) -/
theorem d_setS (hc : X.calm = true) (hg : Gl X "sorted") (hm : X.mg "sorted" = none) (hg2 : Gl X "set") (hm2 : X.mg "set" = none) (ha : PA X (e :: es) (liftA X.K Γ W fs))
    (he : starEach (e :: es) X.env = (false, eval e X.env) :: starEach es X.env := by rfl) (hpl : (backTo q (starEach es X.env)).any (·.1) = false := by rfl)
    (he2 : starEach [Expr.Call (.Name "set" p2) (e :: es) [] q] X.env = (false, eval (.Call (.Name "set" p2) (e :: es) [] q) X.env) :: starEach [] X.env := by rfl) :
    PE X (.Call (.Name "sorted" p) [.Call (.Name "set" p2) (e :: es) [] q] [] pos) (liftF X.K Γ W (dB bSetS fs)) :=
  (pe_callB (cr_either (cr_sortedSet hc) (cr_sortedT hc)) hg hm boot_sorted (pa_cons (pe_callTy (cr_either (cr_setI hc) (cr_setT hc)) hg2 hm2 boot_set ha (by decide) (by decide) he hpl) pa_nil he2) (by decide) (by decide)).imp fun _ _ _ h => bF_run (r := rSetS X.K X.w) (ag_setS X.w) h
theorem up_one {c : Nat} (h : 97 ≤ c ∧ c ≤ 122) : Txt.upper ⟨#[c]⟩ = ⟨#[c - 32]⟩ := by
  have key : ∀ i : Fin 26, Txt.upper ⟨#[97 + i.val]⟩ = ⟨#[65 + i.val]⟩ := by decide +kernel
  have := key ⟨c - 97, by omega⟩
  have e1 : 97 + (c - 97) = c := by omega
  have e2 : 65 + (c - 97) = c - 32 := by omega
  rw [show (97 + (⟨c - 97, by omega⟩ : Fin 26).val) = c from e1, show (65 + (⟨c - 97, by omega⟩ : Fin 26).val) = c - 32 from e2] at this
  exact this
/-- x.upper(), x one letter -/
theorem d_upper {o : Expr} {f : DE G} {apos cpos : Pos} (ho : PE X o (liftE X.K Γ W f)) (hbase : attributeBase o "upper" X.env (eval o X.env) = eval o X.env := by rfl) (hline : (apos.endLine == cpos.line) = true := by rfl) :
    PE X (.Call (.Attribute o "upper" apos) [] [] cpos) (liftE X.K Γ W (dUpper f)) :=
  (pe_upper ho hbase hline).imp fun σ H Q h => by
    obtain ⟨C, l, g, R, ex, q, r, h, k, kx⟩ := h
    refine ⟨C, l, g, R, ex, _, r, h, fun v H1 R1 d l1 g1 s1 r1 z1 h1 => ?_, kx⟩
    split at h1
    · rename_i c
      obtain ⟨hc, hq⟩ := h1
      have inv : ∀ {v : V} {d : D}, Rep X.K R1 v d → d = .str [c] → ∃ x : Str, v = .str x ∧ x.cps.toList = [c] := by
        intro v d z e
        cases z <;> first | (cases e; done) | skip
        injection e with e
        exact ⟨_, rfl, e⟩
      have e := inv z1 rfl
      obtain ⟨x, rfl, ex⟩ := e
      have ex2 : x = ⟨#[c]⟩ := str_injL ex
      subst ex2
      refine ⟨⟨_, rfl⟩, _, rfl, rfl, (by decide : (1 : Nat) ≤ 5592405), ?_⟩
      rw [up_one hc]
      exact k _ _ R1 _ l1 g1 s1 r1 (Rep.str ⟨#[c - 32]⟩) hq
    · exact h1.elim
end
end Lk

set_option autoImplicit false
set_option linter.all false
set_option Elab.async false
set_option maxRecDepth 100000
set_option maxHeartbeats 2000000
/-! x is True -/
namespace Lk
open PySem PySem.Spec PyProof.Rows L2 Dx
section
variable {X : Cx}
theorem op_isB : OpR X (compareOp .Is) (fun x y H Q => ∃ a b, x = .bl a ∧ y = .bl b ∧ Q (.bl (a == b)) H) := by
  intro pins s σ H x y v u Q I rx ry h
  obtain ⟨a, b, rfl, rfl, q⟩ := h
  cases rx
  cases ry
  have e : (Value.bool a == Value.bool b) = (a == b) := by cases a <;> cases b <;> rfl
  refine PySem.wpAny_is_plain rfl ?_
  rw [e]
  exact ⟨.bl (a == b), H, I, rfl, q⟩
theorem op_notB : OpR X (compareOp .IsNot) (fun x y H Q => ∃ a b, x = .bl a ∧ y = .bl b ∧ Q (.bl (!(a == b))) H) := by
  intro pins s σ H x y v u Q I rx ry h
  obtain ⟨a, b, rfl, rfl, q⟩ := h
  cases rx
  cases ry
  have e : (Value.bool a == Value.bool b) = (a == b) := by cases a <;> cases b <;> rfl
  refine PySem.wpAny_isNot_plain rfl ?_
  rw [e]
  exact ⟨.bl (!(a == b)), H, I, rfl, q⟩
end
section
variable {G : Type} {Γ : GInt G} {K : Fg}
theorem ag_isB : Ag2 K Γ (fun x y H Q => ∃ a b, x = .bl a ∧ y = .bl b ∧ Q (.bl (a == b)) H) wIsB := by
  intro C l g σ R H x y d e k Q r zx zy hw fin
  unfold wIsB at hw
  split at hw
  · exact ⟨_, _, zx.bl, zy.bl, fin _ H R _ (Sub.refl R) r (.bl _) hw⟩
  · exact hw.elim
theorem ag_notB : Ag2 K Γ (fun x y H Q => ∃ a b, x = .bl a ∧ y = .bl b ∧ Q (.bl (!(a == b))) H) wNotB := by
  intro C l g σ R H x y d e k Q r zx zy hw fin
  unfold wNotB at hw
  split at hw
  · exact ⟨_, _, zx.bl, zy.bl, fin _ H R _ (Sub.refl R) r (.bl _) hw⟩
  · exact hw.elim
end
end Lk

set_option autoImplicit false
set_option linter.all false
set_option Elab.async false
set_option maxRecDepth 100000
set_option maxHeartbeats 4000000
/-! sorted of a tuple of data -/
namespace Lk
open PySem PySem.Spec PyProof.Rows L2 Dx
section
variable {prog : Program} {w : World} {A : Around} {E : Value → Shared → Prop} {s : Shared} {β : Type} {vs : List Value} {bs : List β} {enc : β → PyData} {R : Value → β → Prop}
theorem sorted_dataT {l : Addr} {Q : Value → Shared → Prop} (hl : s.heap.IsTuple l vs.toArray) (e : PySem.W.EachIs R vs bs) (er : PySem.W.EachIs (fun v b => ∃ as, Reads s.heap v (enc b) as) vs bs) (hal : PySem.W.AllAlike (bs.map enc)) (hk : PySem.W.Sortable (bs.map enc)) (hL : bs.length ≤ sizeLine)
    (hu : ∀ b, b ∈ bs → A.units + 2 + (enc b).depth < cLine)
    (h : ∀ (h1 h' : Heap) (out : List Value) (ep : Nat), (∀ b o, s.heap.get? b = some o → h1.get? b = some o) → (∀ b o, h1.get? b = some o → h'.get? b = some o) → h'.get? h1.objs.size = some (seqObj "list" out.toArray ep) → out.length = bs.length → PySem.W.EachIs R out (bs.mergeSort (PySem.W.dataLe false enc)) → Q (.ref h1.objs.size) { s with heap := h' }) :
    wpAny (model prog w) A (call (.builtin "sorted") [.ref l]) Q E s := by
  obtain ⟨o, ho, hc, n, hd⟩ := hl
  have hvl : vs.length ≤ sizeLine := by rw [e.length]; exact hL
  refine Calls.call_function_entry PyProof.Rows.kind_sorted PyProof.Rows.plain_sorted PyProof.Rows.entry_sorted (PyProof.Rows.args_sorted1 _) ?_
  unfold Builtin.«sorted»
  refine wpAny_bind (m := checkCount "sorted" 1 1 _) (wpAny_pure ?_)
  refine wpAny_bind (wpAny_collect_seq l (.inr rfl) ho hc hd (fun h1 k1 => ?_) (by rw [List.size_toArray]; exact hvl))
  rw [List.toList_toArray]
  refine wpAny_bind (wpAny_newList ?_ hvl)
  have hoL : (h1.push (seqObj "list" vs.toArray 0)).get? h1.objs.size = some (seqObj "list" vs.toArray 0) := Heap.get?_push_size _ rfl
  have er' : PySem.W.EachIs (fun v b => ∃ as, Reads (PySem.W.sortingHeap (h1.push (seqObj "list" vs.toArray 0)) h1.objs.size vs) v (enc b) as) vs bs := er.mono fun _ _ ⟨as, r⟩ => ⟨as, PyProof.Rows.Reads.keeps (fun b u q => PySem.W.sortingHeap_old (Nat.ne_of_lt (Heap.lt_size (k1 b u q))) (Heap.get?_push_of_some _ (k1 b u q))) r⟩
  refine wpAny_bind (wpAny_holding (wpAny_call_entry PyProof.Rows.slot_list_sort ⟨_, hoL, rfl⟩ PyProof.Rows.entry_list_sort
    (PySem.W.list_sort_vals (κ := PySem.W.dataKind (PySem.W.sortingHeap (h1.push (seqObj "list" vs.toArray 0)) h1.objs.size vs) (bs.map enc)) hoL
      (PySem.W.SortsAt.data (s := { s with heap := PySem.W.sortingHeap (h1.push (seqObj "list" vs.toArray 0)) h1.objs.size vs }) (PySem.W.each_map (R := fun v d => ∃ as, Reads (PySem.W.sortingHeap (h1.push (seqObj "list" vs.toArray 0)) h1.objs.size vs) v d as) enc er') hal hk (PySem.W.bound_map hu)) hvl ⟨_, rfl, ?_⟩)
    (PyProof.Rows.args_list_sort _)))
  obtain ⟨ep, he'⟩ := PyProof.Rows.sortedHeap_at (vs := vs) (out := (PySem.W.sortVals (PySem.W.dataKind (PySem.W.sortingHeap (h1.push (seqObj "list" vs.toArray 0)) h1.objs.size vs) (bs.map enc)) false vs vs).toArray) hoL
  refine wpAny_pure ⟨_, rfl, h h1 _ _ ep k1 (fun b u q => ?_) he' (by rw [PySem.W.sortVals_length false rfl]; exact e.length) (PySem.W.sortVals_data false e er' hal)⟩
  have hlt := Heap.lt_size q
  rw [PyProof.Rows.sortedHeap_old (Nat.ne_of_lt hlt) (by rw [size_push']; exact Nat.lt_succ_of_lt hlt)]
  exact Heap.get?_push_of_some _ q
end
def rSortDT (K : Fg) : List V → Hp → VK → Prop := fun vs H Q => ∃ (a : Addr) (bs : List (V × D)), vs = [V.ref a] ∧ SqT K H a (bs.map (·.1)) ∧ (∀ b ∈ bs, Dp K H b.1 (encD b) ∧ (encD b).depth ≤ 60) ∧
  PySem.W.AllAlike (bs.map encD) ∧ PySem.W.Sortable (bs.map encD) ∧ ∀ (cs : List (V × D)) (p : Addr), cs.Perm bs → cs.Pairwise (fun b c => PySem.W.dataLt (encD c) (encD b) = false) → H p = none → Q (.ref p) (upd H p (.lst (cs.map (·.1))))
theorem cr_sortDT {X : Cx} (hu : X.A.units + 64 < cLine) : CallR X (.builtin "sorted") (rSortDT X.K) := by
  intro pins s σ H vs us Q I r h
  obtain ⟨a, bs, rfl, hs, hd, hal, hso, q⟩ := h
  obtain ⟨its, rv, hl, hz⟩ := I.tuple hs
  rw [Vals.ref1 r]
  have e := each_rel rv
  have hlen : bs.length ≤ sizeLine := by rw [List.length_map] at hz; exact hz
  have er : PySem.W.EachIs (fun (v : Value) (b : V × D) => ∃ as, Reads s.heap v (encD b) as) its bs := by
    have : ∀ {bs : List (V × D)} {its : List Value}, PySem.W.EachIs (fun (v : Value) (b : V × D) => RelV b.1 v) its bs → (∀ b ∈ bs, Dp X.K H b.1 (encD b) ∧ (encD b).depth ≤ 60) → PySem.W.EachIs (fun (v : Value) (b : V × D) => ∃ as, Reads s.heap v (encD b) as) its bs := by
      intro bs its h hd
      induction h with
      | nil => exact .nil
      | cons r t ih => exact .cons (Dp.reads I _ _ _ (hd _ List.mem_cons_self).1 r) (ih fun b hb => hd b (List.mem_cons_of_mem _ hb))
    exact this e hd
  have hl' : s.heap.IsTuple a its.toArray := hl
  refine sorted_dataT hl' e er hal hso hlen (fun b hb => by have := (hd b hb).2; omega) fun h1 h' out ep k1 k2 ho hlo eo => ?_
  have I1 : Inv X pins σ H { s with heap := h1, toks := s.toks } := I.kept k1
  have hp := List.mergeSort_perm bs (PySem.W.dataLe false encD)
  have hpw : (bs.mergeSort (PySem.W.dataLe false encD)).Pairwise (fun b c => PySem.W.dataLt (encD c) (encD b) = false) :=
    (List.pairwise_mergeSort dataLe_pair dataLe_tot bs).imp fun {b c} h => by
      rw [PySem.W.dataLe_eq] at h
      have h : (!PySem.W.dataLt (encD c) (encD b)) = true := h
      rw [Bool.not_eq_true'] at h
      exact h
  generalize bs.mergeSort (PySem.W.dataLe false encD) = cs at eo hp hpw
  have hlen2 : (cs.map (·.1)).length ≤ sizeLine := by rw [List.length_map, hp.length_eq]; exact hlen
  exact ⟨.ref _, upd H h1.objs.size (.lst (cs.map (·.1))), I1.laid (t' := s.toks) k2 (Nat.le_refl _) ⟨hlen2, out, ep, rel_each eo, ho⟩, rfl, q cs _ hp hpw (I1.hok.fresh (Nat.le_refl _))⟩
section
variable {G : Type} {Γ : GInt G} {K : Fg}
theorem ag_sortT : AgAF K Γ (rSortDT K) bSortT := by
  intro C l g σ R H vs ds k Q r z hw fin
  unfold bSortT at hw
  split at hw
  · rename_i xs
    obtain ⟨⟨h1, h2, h3⟩, hk⟩ := hw
    obtain ⟨v, rfl, rb⟩ := z.one
    obtain ⟨a, ws, rfl, ha, q⟩ := rb.tup r.sub
    have hlen := q.length
    have e1 : (ws.zip xs).map (·.1) = ws := List.map_fst_zip (by omega)
    have e2 : (ws.zip xs).map (·.2) = xs := List.map_snd_zip (by omega)
    have mem2 : ∀ b ∈ ws.zip xs, b.2 ∈ xs := fun b hb => by rw [← e2]; exact List.mem_map_of_mem hb
    have ee : (ws.zip xs).map encD = xs.map toP := by
      have : (ws.zip xs).map encD = ((ws.zip xs).map (·.2)).map toP := by rw [List.map_map]; rfl
      rw [this, e2]
    refine ⟨a, ws.zip xs, rfl, by rw [e1]; exact SqT.of ha, fun b hb => ⟨rep_dp r.sub (reps_zip q b hb) (h1 _ (mem2 b hb)).1, ?_⟩, ?_, ?_, fun cs p hp hpw hn => ?_⟩
    · show (toP b.2).depth ≤ 60
      rw [dep_p]
      exact (h1 _ (mem2 b hb)).2
    · rw [ee]
      intro d hd d' hd'
      obtain ⟨x, hx, rfl⟩ := List.mem_map.mp hd
      obtain ⟨y, hy, rfl⟩ := List.mem_map.mp hd'
      exact lik_p x y (h2 x hx y hy)
    · rw [ee]
      rcases h3 with h3 | h3
      · left
        intro d hd
        obtain ⟨x, hx, rfl⟩ := List.mem_map.mp hd
        obtain ⟨y, ys, rfl⟩ := h3 x hx
        exact ⟨toP y, toPs ys, rfl⟩
      · right
        intro d hd
        obtain ⟨x, hx, rfl⟩ := List.mem_map.mp hd
        obtain ⟨n1, n2⟩ := h3 x hx
        have p1 := (h1 x hx).1
        cases x with
        | non => exact absurd rfl n1
        | tup ys => exact absurd rfl (n2 ys)
        | kt ys =>
          have z := h2 _ hx _ hx
          simp [lik] at z
        | bl b => exact ⟨fun e => (by cases e), fun xs e => (by cases e)⟩
        | int b => exact ⟨fun e => (by cases e), fun xs e => (by cases e)⟩
        | str b => exact ⟨fun e => (by cases e), fun xs e => (by cases e)⟩
        | lst b => exact ⟨fun e => (by simp [toP] at e), fun xs e => (by simp [toP] at e)⟩
        | _ => simp [pla] at p1
    · have zc : Reps K R (cs.map (·.1)) (cs.map (·.2)) := zip_reps fun b hb => reps_zip q b (hp.mem_iff.mp hb)
      obtain ⟨r1, z1⟩ := r.newLF hn zc
      obtain ⟨n1, n2, n3, n4⟩ := r.newF hn
      refine fin p _ _ r1 z1 n1 n2 n3 n4 (hk _ ?_ ?_)
      · have := hp.map (·.2)
        rw [e2] at this
        exact this
      · rw [List.pairwise_map]
        refine (List.Pairwise.and_mem.mp hpw).imp ?_
        rintro b c ⟨hb, hc, h⟩
        have hb := mem2 b (hp.mem_iff.mp hb)
        have hc := mem2 c (hp.mem_iff.mp hc)
        rw [← dlt_p c.2 b.2 (h2 _ hc _ hb) (h1 _ hc).1 (h1 _ hb).1]
        exact h
  · exact hw.elim
end
end Lk

set_option autoImplicit false
set_option linter.all false
set_option Elab.async false
set_option maxRecDepth 100000
set_option maxHeartbeats 4000000
/-! sorted(dict by texts), in order -/
namespace Lk
open PySem PySem.Spec PyProof.Rows L2 Dx
section
variable {G : Type} {Γ : GInt G} {K : Fg}
theorem ag_sortSO : AgAF K Γ (fun xs H Q => ∃ (a : Addr) (kvs : List (Key × V)) (ks : List Str), xs = [.ref a] ∧ Rd H a (.dK kvs) ∧ kvs.map (·.1) = ks.map Sum.inr ∧ ks.length < 64 ∧
    ∀ ys p, ys.Perm ks → sortedS ys = true → H p = none → Q (.ref p) (upd H p (.lst (ys.map V.str)))) bSortSO := by
  intro C l g σ R H vs ds k Q r z hw fin
  unfold bSortSO at hw
  split at hw
  · obtain ⟨ks, e, hl, hk⟩ := hw
    obtain ⟨v, rfl, rb⟩ := z.one
    obtain ⟨a, kvs, rfl, ha, q⟩ := rb.dic r.sub
    obtain ⟨xs, e1, e2⟩ := repK_keysS q e
    refine ⟨a, kvs, xs, rfl, .inl ha, e1, by rw [← e2, List.length_map] at hl; exact hl, fun ys p hp hs hn => ?_⟩
    obtain ⟨r1, z1⟩ := r.newLF hn (strs_rep (K := K) (R := R) ys)
    obtain ⟨n1, n2, n3, n4⟩ := r.newF hn
    have hq := hk (ys.map fun x => x.cps.toList) (by rw [← e2]; exact hp.map _) (fun nd => sorted_pw ys (hp.nodup_iff.mpr (by
      rw [← e2, List.Nodup, List.pairwise_map] at nd
      exact nd.imp fun {a b} h e => h (by rw [e]))) hs)
    rw [List.map_map] at hq
    exact fin p _ _ r1 z1 n1 n2 n3 n4 hq
  · exact hw.elim
end
end Lk

set_option autoImplicit false
set_option linter.all false
set_option Elab.async false
set_option maxRecDepth 100000
set_option maxHeartbeats 2000000
/-! a text, twice or more often -/
namespace Lk
open PySem PySem.Spec PyProof.Rows L2 Dx
section
variable {X : Cx}
theorem foldl_arr (a : Array Nat) : ∀ (n : Nat) (b : Array Nat), ((List.replicate n a).foldl (· ++ ·) b).toList = b.toList ++ (List.replicate n a.toList).flatten
  | 0, b => by simp
  | n + 1, b => by
    rw [List.replicate_succ, List.foldl_cons, foldl_arr a n, List.replicate_succ, List.flatten_cons]
    simp
def rMulS : R2 := fun x y H Q => ∃ (i : Str) (k : Int), x = .str i ∧ y = .int k ∧ i.length ≠ 0 ∧ 2 ≤ k ∧ k ≤ 1000 ∧ i.length ≤ 1000 ∧ Q (.str ⟨(List.replicate k.toNat i.cps).foldl (· ++ ·) #[]⟩) H
theorem op_mulS : OpR X (binaryOp .Mult) rMulS := by
  intro pins s σ H x y v u Q I rx ry h
  obtain ⟨i, k, rfl, rfl, h0, h1, h2, h3, q⟩ := h
  obtain ⟨t, rfl⟩ := rx
  obtain ⟨t', rfl⟩ := ry
  have hx : (k == 1 || i.length == 0) = false := by
    rw [Bool.or_eq_false_iff]
    exact ⟨beq_eq_false_iff_ne.mpr (by omega), beq_eq_false_iff_ne.mpr h0⟩
  have hn : ¬ k < 1 := by omega
  have hb : i.length * k.toNat ≤ 1000 * 1000 := Nat.mul_le_mul h3 (by omega)
  refine PySem.P.mul_str ?_ ?_ ?_ ?_
  · rw [decide_eq_false (by omega), decide_eq_false (by omega)]
    rfl
  · intro _ _ hc
    have h4 : ((2 : Int) ^ 63 - 1) / k ≥ 1000 := by
      have : (1000 : Int) * k ≤ 2 ^ 63 - 1 := by omega
      exact Int.le_ediv_of_mul_le (by omega) this
    omega
  · intro _ _
    unfold PySem.Builtin.Str.tooLong
    rw [decide_eq_false]
    rw [sizeLine_eq]
    omega
  · rw [if_neg hn, hx]
    refine ⟨?_, .str ⟨(List.replicate k.toNat i.cps).foldl (· ++ ·) #[]⟩, H, I.tok _, ⟨_, rfl⟩, q⟩
    · rw [sizeLine_eq]
      have e : (Str.mk (List.foldl (fun x1 x2 => x1 ++ x2) #[] (List.replicate k.toNat i.cps))).length = i.length * k.toNat := by
        show (List.foldl (fun x1 x2 => x1 ++ x2) #[] (List.replicate k.toNat i.cps)).size = _
        rw [← Array.length_toList, foldl_arr]
        simp
        exact Nat.mul_comm _ _
      rw [e]
      omega
end
section
variable {G : Type} {K : Fg} {Γ : GInt G}
theorem ag_mulS : Ag2 K Γ rMulS wMulS := by
  intro C l g σ R H x y d e k Q r zx zy hw fin
  unfold wMulS at hw
  split at hw
  · rename_i a j
    obtain ⟨xa, rfl, rfl⟩ := zx.str
    rw [zy.int]
    obtain ⟨⟨h0, h1, h2, h3⟩, hk⟩ := hw
    refine ⟨xa, j, rfl, rfl, ?_, h1, h2, ?_, fin _ H R _ (Sub.refl R) r ?_ hk⟩
    · rw [str_len]
      exact fun z => h0 (List.eq_nil_of_length_eq_zero z)
    · rw [str_len]
      exact h3
    · have e := foldl_arr xa.cps j.toNat #[]
      rw [show (#[] : Array Nat).toList = [] from rfl, List.nil_append] at e
      rw [← e]
      exact .str _
  · exact hw.elim
end
end Lk

set_option autoImplicit false
set_option linter.all false
set_option Elab.async false
set_option maxRecDepth 100000
set_option maxHeartbeats 2000000
/-! tracks compared by their own == -/
namespace Lk
open PySem PySem.Spec PyProof.Rows L2 Dx
section
open PySem.W
variable {prog : Program} {w : World} {Ar : Around} {Er : Value → Shared → Prop} {st : Shared} {Kf : Frag} {xa ya Ca Da fa : Addr} {o1 o2 : Obj} {d1 d2 : Option Obj} {nm : Str}
theorem bnd_bi {M : Model} {bi : String} {rs : List Value} {Q : Option Value → Shared → Prop} (X : Kf.In st.heap) (I : InstAt st.heap xa o1 Ca d1) (hs : findIn Kf (.ref Ca) nm = some (some (.builtin bi)))
    (hb : ∀ self, bindSpecial (.builtin bi) self = pure (.builtin bi, [self])) (h : wpAny M Ar (call (.builtin bi) (.ref xa :: rs)) (fun v => Q (some v)) Er st) : wpAny M Ar (callSpecialIfBound? (.ref xa) nm rs) Q Er st := by
  unfold callSpecialIfBound? bindSpecialIfBound?
  have last : wpAny M Ar (call (.builtin bi) ([.ref xa] ++ rs) >>= fun z => pure (some z)) Q Er st := wpAny_bind (wpAny_mono h (fun _ _ q => wpAny_pure q) fun _ _ q => q)
  refine wpAny_holding (wpAny_bind (wpAny_bind (wpAny_bind (I.type.here ((looks_findIn X hs).here (wpAny_bind (wpAny_askSetting (wpAny_ite ?_))))))))
  split
  · exact wpAny_bind (wpAny_of_eq (hb _) (wpAny_pure (by exact last)))
  · exact wpAny_tryCatch (wpAny_bind (wpAny_of_eq (hb _) (wpAny_pure (by exact last))))
theorem ne_slot : ∀ self, bindSpecial (.builtin "object.__ne__") self = pure (.builtin "object.__ne__", [self]) := F.cmp_object.ne.bind
theorem try_eq {Q : Value → Shared → Prop} {b : Value} (X : Kf.In st.heap) (I : InstAt st.heap xa o1 Ca d1) (he : findIn Kf (.ref Ca) "__eq__" = some (some (.ref fa))) (hf : isFn Kf (.ref fa) = true)
    (h : wpAny (model prog w) Ar (call (.ref fa) [.ref xa, b]) (fun v s' => ∃ r, v = .bool r ∧ Q (.bool r) s') Er st) : wpAny (model prog w) Ar (tryCompare (.ref xa) "__eq__" b) (fun r s' => ∃ v, r = some v ∧ Q v s') Er st := by
  unfold tryCompare
  refine wpAny_bind (ifBound_K X I he hf (wpAny_mono h (fun v s' hv => ?_) fun _ _ e => e))
  obtain ⟨r, rfl, hq⟩ := hv
  exact wpAny_pure ⟨_, rfl, hq⟩
theorem try_ne {Q : Value → Shared → Prop} {b : Value} (X : Kf.In st.heap) (I : InstAt st.heap xa o1 Ca d1) (hn : findIn Kf (.ref Ca) "__ne__" = some (some (.builtin "object.__ne__"))) (he : findIn Kf (.ref Ca) "__eq__" = some (some (.ref fa))) (hf : isFn Kf (.ref fa) = true)
    (hm : mroIn Kf Ca (.type "object") = some true) (hu : Ar.units + 1 < cLine)
    (h : wpAny (model prog w) Ar.in1 (call (.ref fa) [.ref xa, b]) (fun v s' => ∃ r, v = .bool r ∧ Q (.bool (!r)) s') Er st) : wpAny (model prog w) Ar (tryCompare (.ref xa) "__ne__" b) (fun r s' => ∃ v, r = some v ∧ Q v s') Er st := by
  unfold tryCompare
  have sub : Looks (model prog w) st.heap (isInstance (.ref xa) (.type "object")) true := I.type.andThen (looks_mroIn X hm)
  refine wpAny_bind (bnd_bi X I hn ne_slot (wpAny_call (codeAny_call_builtin F.cmp_object.ne.plain F.cmpEntry_ne (check_slot F.cmpKind_ne F.cmpSplit_ne sub (F.cmpArgs_ne _ _) ?_))))
  unfold Builtin.«object.__ne__»
  have hu1 : Ar.in1.units < cLine := hu
  repeat (first
    | with_reducible refine wpAny_cRoomFor hu1 ?_
    | (refine wpAny_bind (m := callSpecialIfBound? (.ref xa) (Str.ofString "__eq__") [b]) (ifBound_K X I he hf (wpAny_mono h (fun v s' hv => ?_) fun _ _ e => e)))
    | wp_step)
  obtain ⟨r, rfl, hq⟩ := hv
  refine wpAny_bind (wpAny_truthy_bool ?_)
  exact wpAny_pure (wpAny_pure ⟨_, rfl, hq⟩)
/-- either order: the right one first if its class is below -/
theorem rich_T {op : CmpOp} {sy : String} {nn : Str} {Q : Value → Shared → Prop} {r : Bool} (hop : cmpInfo op = (sy, nn, nn)) (X : Kf.In st.heap) (I : InstAt st.heap xa o1 Ca d1) (J : InstAt st.heap ya o2 Da d2) (hs : subIn Kf (.ref Da) (.ref Ca) = some r) (hu : Ar.units < cLine)
    (h1 : wpAny (model prog w) Ar (tryCompare (.ref xa) nn (.ref ya)) (fun r s' => ∃ v, r = some v ∧ Q v s') Er st) (h2 : wpAny (model prog w) Ar (tryCompare (.ref ya) nn (.ref xa)) (fun r s' => ∃ v, r = some v ∧ Q v s') Er st) : wpAny (model prog w) Ar (richCompare op (.ref xa) (.ref ya)) Q Er st := by
  unfold richCompare
  simp only [oneThing_ref]
  refine wpAny_holding (wpAny_bind (wpAny_cRoomFor hu ?_))
  rw [hop]
  refine wpAny_bind (I.type.here (wpAny_bind (J.type.here ?_)))
  have fin1 : ∀ (f : Option Value → Sem Value), (∀ v, f (some v) = pure v) → wpAny (model prog w) Ar (tryCompare (.ref xa) nn (.ref ya) >>= f) Q Er st := fun f hf => wpAny_bind (wpAny_mono h1 (fun r s' z => by
    obtain ⟨v, rfl, hq⟩ := z
    rw [hf]
    exact wpAny_pure hq) fun _ _ e => e)
  split
  · refine wpAny_bind ((looks_subIn X hs).here ?_)
    cases r with
    | true =>
      rw [if_pos rfl]
      refine wpAny_bind (wpAny_mono h2 (fun r s' z => ?_) fun _ _ e => e)
      obtain ⟨v, rfl, hq⟩ := z
      exact wpAny_bind (wpAny_rule (wpAny_pure hq))
    | false => exact fin1 _ fun v => rfl
  · refine wpAny_bind (wpAny_pure ?_)
    exact fin1 _ fun v => rfl
end
section
variable {X : Cx} {k : Nat} {fd : FuncData} {ps : List Str} {sp : Sp} {f : Addr}
/-- a callee runs, somewhat deeper than this body -/
theorem run_at {Ab : Around} {pins : List (Addr × Obj)} {σ : L2.St} {H : Hp} {s : Shared} {Q : VK} {us : List Value} {vs : List V} (hA : Ab.frames = X.A.frames) (Fn : FnOk X.prog X.w X.K X.mg X.base (L2N.CX X.prog X.w) k f fd ps sp) (hr : Room k Ab) (hb : Binds X.K fd ps [])
    (I : Inv X pins σ H s) (r : Vals vs us) (h : sp vs H Q fun _ _ _ => False) : wpAny (model X.prog X.w) Ab (call (.ref f) us) (EP X pins σ Q) X.xe s := by
  have e0 := I.env0
  have e1 : Env0 X.prog X.w X.K X.mg X.base Ab X.stack s H := ⟨hA ▸ e0.frames, e0.mod, e0.bs, e0.bsz, e0.funs, e0.frf, e0.hok, e0.bare⟩
  have hl : us.length = ps.length := by
    have := Fn.len _ _ _ _ h
    have := r.length
    omega
  have hbt := hb s us I.kIn (by rw [List.append_nil]; exact hl)
  rw [List.append_nil] at hbt
  refine wpAny_call (codeAny_mono (Fn.run Ab X.stack s H ⟨us, []⟩ us vs Q (fun _ _ _ => False) hr e1 hbt r h) fun o s' hq => ?_)
  match o with
  | .error e => exact passes0 pins σ H s e s' I hq
  | .ok (.ret u) => exact I.after hq
  | .ok .next => exact hq.elim
  | .ok .brk => exact hq.elim
  | .ok .cont => exact hq.elim
def rCmpT (K : Fg) (neg : Bool) : R2 := fun x y H Q => ∃ (a b dx dy C D : Addr) (fs gs : List (Str × V)), x = .ref a ∧ y = .ref b ∧ H a = some (.ins C dx fs) ∧ H b = some (.ins D dy gs) ∧ IsiOk K C ∧ IsiOk K D ∧
  liftC K (gint K) c_teq [.ref a, .ref b] H (fun v H' => ∃ r, v = .bl r ∧ Q (.bl (r != neg)) H') (fun _ _ _ => False) ∧ liftC K (gint K) c_teq [.ref b, .ref a] H (fun v H' => ∃ r, v = .bl r ∧ Q (.bl (r != neg)) H') fun _ _ _ => False
/-- what == of tracks needs of the text -/
structure TeqOk (P : Program) (w : World) (K : Fg) (mg : Str → Option Value) (base : Heap) (k : Nat) : Prop where
  fn : ∃ fd, FnOk P w K mg base (L2N.CX P w) k (eqA K) fd ["self", "other"] (liftC K (gint K) c_teq) ∧ Binds K fd ["self", "other"] []
theorem sub_tot {K : Fg} {C D : Addr} (h : IsiOk K C) : ∃ r, PySem.W.subIn K (.ref C) (.ref D) = some r := by
  have h := h.cm
  show ∃ r, PySem.W.mroIn K C (.ref D) = some r
  unfold PySem.W.mroIn at h ⊢
  obtain ⟨cd, h1, h2⟩ := Option.bind_eq_some_iff.mp h
  rw [h1]
  show ∃ r, (if cd.mro.isEmpty = true then none else some _) = some r
  by_cases e : cd.mro.isEmpty = true
  · rw [if_pos e] at h2
    cases h2
  · exact ⟨_, if_neg e⟩
theorem op_cmpT {neg : Bool} {op : CmpOp} (hop : (op = .Eq ∧ neg = false) ∨ (op = .NotEq ∧ neg = true)) (T : TeqOk X.prog X.w X.K X.mg X.base k) (hr : Room (k + 1) X.A) : OpR X (compareOp op) (rCmpT X.K neg) := by
  intro pins s σ H x y v u Q I rx ry h
  obtain ⟨a, b, dx, dy, C, D, fs, gs, rfl, rfl, ha, hb, hC, hD, h1, h2⟩ := h
  cases rx
  cases ry
  obtain ⟨fd, Fn, hbd⟩ := T.fn
  obtain ⟨mA, J, _⟩ := ins_get I.hok ha
  obtain ⟨mB, J', _⟩ := ins_get I.hok hb
  obtain ⟨od, J, _⟩ := J.look
  obtain ⟨od', J', _⟩ := J'.look
  obtain ⟨r, hs⟩ := sub_tot (K := X.K) (C := D) (D := C) hD
  have ru : ∀ (Ab : Around) (p q : Addr), Ab.frames = X.A.frames → Room k Ab → liftC X.K (gint X.K) c_teq [.ref p, .ref q] H (fun v H' => ∃ r, v = .bl r ∧ Q (.bl (r != neg)) H') (fun _ _ _ => False) →
      wpAny (model X.prog X.w) Ab (call (.ref (eqA X.K)) [.ref p, .ref q]) (fun v s' => ∃ r, v = .bool r ∧ EP X pins σ Q (.bool (r != neg)) s') X.xe s := fun Ab p q hA hR hh =>
    wpAny_mono (run_at (us := [.ref p, .ref q]) (vs := [.ref p, .ref q]) hA Fn hR hbd I (.cons (show L2.RelV (.ref p) (.ref p) from rfl) (.cons (show L2.RelV (.ref q) (.ref q) from rfl) .nil)) hh) (fun v s' hv => by
      obtain ⟨z, H', I', rz, r, rfl, hq⟩ := hv
      cases rz
      exact ⟨r, rfl, .bl (r != neg), H', I', rfl, hq⟩) fun _ _ e => e
  rcases hop with ⟨rfl, rfl⟩ | ⟨rfl, rfl⟩
  · have go : ∀ p q : Addr, liftC X.K (gint X.K) c_teq [.ref p, .ref q] H (fun v H' => ∃ r, v = .bl r ∧ Q (.bl (r != false)) H') (fun _ _ _ => False) →
        wpAny (model X.prog X.w) X.A (call (.ref (eqA X.K)) [.ref p, .ref q]) (fun v s' => ∃ r, v = .bool r ∧ EP X pins σ Q (.bool r) s') X.xe s := fun p q hh =>
      wpAny_mono (ru X.A p q rfl (hr.mono (Nat.le_succ k)) hh) (fun v s' ⟨r, e, z⟩ => ⟨r, e, by rw [show (r != false) = r by cases r <;> rfl] at z; exact z⟩) fun _ _ e => e
    exact rich_T (op := .Eq) (sy := "==") rfl I.kIn J J' hs hr.units0 (try_eq I.kIn J hC.eqf hC.isf (go a b h1)) (try_eq I.kIn J' hD.eqf hC.isf (go b a h2))
  · have go : ∀ p q : Addr, liftC X.K (gint X.K) c_teq [.ref p, .ref q] H (fun v H' => ∃ r, v = .bl r ∧ Q (.bl (r != true)) H') (fun _ _ _ => False) →
        wpAny (model X.prog X.w) X.A.in1 (call (.ref (eqA X.K)) [.ref p, .ref q]) (fun v s' => ∃ r, v = .bool r ∧ EP X pins σ Q (.bool (!r)) s') X.xe s := fun p q hh =>
      wpAny_mono (ru X.A.in1 p q rfl hr.in1 hh) (fun v s' ⟨r, e, z⟩ => ⟨r, e, by rw [show (r != true) = !r by cases r <;> rfl] at z; exact z⟩) fun _ _ e => e
    have hu : X.A.units + 1 < cLine := by have := hr.units; omega
    exact rich_T (op := .NotEq) (sy := "!=") rfl I.kIn J J' hs hr.units0 (try_ne I.kIn J hC.nef hC.eqf hC.isf hC.cm hu (go a b h1)) (try_ne I.kIn J' hD.nef hD.eqf hC.isf hD.cm hu (go b a h2))
theorem ag_cmpT {K : Fg} (neg : Bool) : Ag2 K (gint K) (rCmpT K neg) (wCmpT neg) := by
  intro C l g σ R H x y d e k Q r zx zy hw fin
  obtain ⟨a0, a1, a2, b0, b1, b2, rfl, rfl, ⟨e1, e2, e3, e4⟩, k1, k2⟩ := hw.ex
  rcases zx with zx | ⟨_, _, z⟩
  rotate_left
  · exact z.elim
  rcases zy with zy | ⟨_, _, z⟩
  rotate_left
  · exact z.elim
  cases id zx with
  | obj hX kx fx =>
    cases id zy with
    | obj hY ky fy =>
      refine ⟨_, _, _, _, _, _, _, _, rfl, rfl, r.sub _ _ hX, r.sub _ _ hY, kx.2.2, ky.2.2, ?_, ?_⟩
      · refine ⟨[.obj "Track" [a0, a1, a2], .obj "Track" [b0, b1, b2]], R, g, fun d' g' => g' = g ∧ d' = .bl (deq a0 b0 && deq a1 b1), fun _ _ => False, .cons zx (.cons zy .nil), r.sub, r.gat, fun a ha => (r.gfr a ha).1, ⟨_, _, _, _, _, _, rfl, e1, e2, rfl, rfl⟩,
          fun v H' R' d' g' s sH kp nw at' fr z hq => ?_, fun _ _ _ _ _ _ _ _ _ _ _ _ _ hq => hq.elim⟩
        obtain ⟨rfl, rfl⟩ := hq
        cases z
        exact ⟨_, rfl, fin _ H' R' _ s (r.behind s sH kp nw at' fr) (.bl _) k1⟩
      · refine ⟨[.obj "Track" [b0, b1, b2], .obj "Track" [a0, a1, a2]], R, g, fun d' g' => g' = g ∧ d' = .bl (deq b0 a0 && deq b1 a1), fun _ _ => False, .cons zy (.cons zx .nil), r.sub, r.gat, fun a ha => (r.gfr a ha).1, ⟨_, _, _, _, _, _, rfl, e3, e4, rfl, rfl⟩,
          fun v H' R' d' g' s sH kp nw at' fr z hq => ?_, fun _ _ _ _ _ _ _ _ _ _ _ _ _ hq => hq.elim⟩
        obtain ⟨rfl, rfl⟩ := hq
        cases z
        exact ⟨_, rfl, fin _ H' R' _ s (r.behind s sH kp nw at' fr) (.bl _) k2⟩
end
section
variable {X : Cx} {W : WX} {G : Type} {Γ : GInt G}
theorem d_isT {a : Expr} {f : DE G} {p p2 pos : Pos} (ha : PE X a (liftE X.K Γ W f)) (hg : Gl X "isinstance") (hm : X.mg "isinstance" = none) (ht : PE X (.Name "Track" p2) (tC (.ref (clsA X.K "Track"))))
    (he : starEach [a, .Name "Track" p2] X.env = (false, eval a X.env) :: starEach [.Name "Track" p2] X.env := by rfl) (hpl : (backTo pos (starEach [.Name "Track" p2] X.env)).any (·.1) = false := by rfl) :
    PE X (.Call (.Name "isinstance" p) [a, .Name "Track" p2] [] pos) (liftE X.K Γ W (dIsT f)) :=
  (pe_callB call_isi hg hm boot_isinstance (pa_cons ha (pa_cons ht pa_nil) he) (he := he) (hpl := hpl)).imp fun σ H Q h => by
    obtain ⟨C, l, g, R, ex, q, rl, h, k, kx⟩ := h
    refine ⟨C, l, g, R, ex, _, rl, h, fun v H1 R1 d l1 g1 s1 r1 z1 h1 => ?_, kx⟩
    obtain ⟨⟨fs, rfl⟩, h2⟩ := h1
    cases z1 with
    | obj hR kn hF =>
      obtain ⟨k1, k2, k3⟩ := kn
      exact ⟨_, .ref (clsA X.K "Track"), _, _, true, rfl, .own _, .base (.ins (r1.sub _ _ hR) k1 k3.ca k3.cg k3.ct k3.cm), k3.own, k _ H1 R1 _ l1 g1 s1 r1 (.bl _) h2⟩
end
end Lk

set_option autoImplicit false
set_option linter.all false
set_option Elab.async false
set_option maxRecDepth 100000
set_option maxHeartbeats 2000000
/-! own errors that keep a value: __init__ says super().__init__(text), then self.f = v -/
namespace Lk
open PySem PySem.Spec PyProof.Rows L2 Dx
section
open PySem.W PySem.Calls
variable {prog : Program} {w : World} {Ar : Around} {Er : Value → Shared → Prop} {h : Heap} {gg : Array GenState} {dr : Drawn} {tk : Nat} {os : OsState}
variable {nm q : Str} {C N : Addr} {bs bm : List Value} {hdct : Bool} {sn : List Str} {sub : List Value} {ab : Bool} {col : Option Bool} {dd : Option Addr} {k0 k1 k2 k3 k5 : Option Value}
/-- the bound __init__ of the base, called -/
theorem call_mw {u x t0 : Addr} {rest : List Value} {Q : Value → Shared → Prop} (hC : h.get? C = some (excClassObj nm q C N bs bm hdct sn sub ab col dd k0 k1 k2 k3 k5 "ValueError.__new__")) (he : h.get? x = some (excObj C t0 none .none)) (hu : h.get? u = some (kxs_mw "ValueError.__init__" x))
    (hz : rest.length ≤ sizeLine) (hq : ∀ h' t1, (∀ b o, b ≠ x → h.get? b = some o → h'.get? b = some o) → h'.get? x = some (excObj C t1 none .none) → Q .none ⟨h', gg, dr, tk, os⟩) : wpAny (model prog w) Ar (call (.ref u) rest) Q Er ⟨h, gg, dr, tk, os⟩ := by
  have FB := F.excBase_ValueError
  refine wpAny_call (codeAny_of_tree ?_)
  show wpAny _ Ar.in1 (callAny (.ref u) ⟨rest, []⟩) _ _ _
  unfold callAny
  refine wpAny_bind (wpAny_load hu ?_)
  simp only [kxs_mw, show (Value.type "method-wrapper" == Value.type "method" || Value.type "method-wrapper" == Value.type "builtin_function_or_method" || Value.type "method-wrapper" == Value.type "method-wrapper") = true by decide, if_true]
  refine KFB.if_so (by decide) (wpAny_bind (check_bound_init FB.toExcCallFacts hC he rfl (wpAny_bind (wpAny_pure (wpAny_pure ?_)))))
  refine ⟨plainId_quiet FB.init.plain _, codeAny_builtin FB.initEntry ?_⟩
  exact exc_init_tree (cls := .ref C) (t0 := t0) (dv := none) (c2 := .none) (c3 := .none) (b4 := .bool false) he hz fun h' k e' _ => hq h' _ k e'
end
/-- what the written part says of an own error's class at C and its __init__ at f -/
structure SupK (K : Fg) (file : Str) (C f cc cda : Addr) (fd : FuncData) : Prop where
  fn : ∃ oc od osl, K.lookup f = some ⟨oc, od, .func fd, osl⟩
  par : ∃ ar, (fd.params.posonlyargs ++ fd.params.args).head? = some ar ∧ ar.arg = "self"
  cell : ∃ cl cld csl, K.lookup cc = some ⟨cl, cld, .cell (some (.ref C)), csl⟩
  code : ∃ ccl cdd vs ccs fi tf, K.lookup cda = some ⟨ccl, cdd, .fields vs, ccs⟩ ∧ vs[2]? = some (.str fi tf) ∧ (file == fi) = true
  cls : ∃ cd, PySem.W.clsIn K C = some cd
  own : PySem.W.mroIn K C (.ref C) = some true
  sup : PySem.W.ks_superIn K C C "__init__" = some (some (.builtin "ValueError.__init__"))
  opq : PySem.W.nsIn K PySem.cStatics "thirdparty.any" = some none
  sub : PySem.W.subIn K (.ref C) (.type "ValueError") = some true
  oex : OexC K C
section
open PySem.W PySem.Calls
variable {X : Cx} {C f cc cda a : Addr} {fd : FuncData} {pins : List (Addr × Obj)} {σ : L2.St} {H : Hp} {s : Shared} {body : List Stmt} {Q : Flow → Shared → Prop} {z : Str} {p0 p1 p2 p3 p4 pc : Pos} {kd : Nat} {E : Value → Shared → Prop}
theorem sup_run {pl : Sem Bool} (T : SupK X.K X.prog.main.file C f cc cda fd) (I : Inv X pins σ H s) (hks : X.env.kindOf "super" = some .globalImplicit) (hkc : X.env.kindOf "__class__" = some .free) (hcl : X.env.cells.lookup ("__class__" : Str) = some cc) (hfu : X.env.func = some f) (hco : X.env.code = .ref cda)
    (hsf : X.env.scope.names.lookup ("self" : Str) = some .local) (hN : X.N[0]? = some ("self" : Str)) (hσ : σ[0]? = some (some (.ref a))) (ea : H a = some (exo a C none)) (hm : X.mg "super" = none) (htop : (X.prog.main.scope.names.lookup ("super" : Str)).isSome = false)
    (hi : interactive X.env = false) (hsw : swapsWith (.Call (.Attribute (.Call (.Name "super" p0) [] [] p1) "__init__" p2) [.Constant (.str z) kd pc] [] p3) none p4.line X.env = pure false)
    (hev : eval (.Call (.Attribute (.Call (.Name "super" p0) [] [] p1) "__init__" p2) [.Constant (.str z) kd pc] [] p3) X.env = (do
      let ov ← attributeBase (.Call (.Name "super" p0) [] [] p1) "__init__" X.env (eval (.Call (.Name "super" p0) [] [] p1) X.env)
      standAt p2.atName
      let (f, first) ← holding [ov] (getMethod ov "__init__" pl)
      callWith p3 f first (backTo p3 (starEach [.Constant (.str z) kd pc] X.env)) []))
    (hst : starEach [.Constant (.str z) kd pc] X.env = (false, eval (.Constant (.str z) kd pc) X.env) :: starEach [] X.env) (hs0 : starEach [] X.env = [])
    (hq : ∀ s', Inv X pins σ H s' → Q .next s') :
    _root_.PySem.wpAt (model X.prog X.w) X.A (.func body X.env) (exec (.Expr (.Call (.Attribute (.Call (.Name "super" p0) [] [] p1) "__init__" p2) [.Constant (.str z) kd pc] [] p3) p4) X.env) Q E s := by
  obtain ⟨oc, od, osl, hf⟩ := T.fn
  obtain ⟨ar, hp, har⟩ := T.par
  obtain ⟨cl, cld, csl, hcc⟩ := T.cell
  obtain ⟨ccl, cdd, vs, ccs, fi, tf, hcda, hvs, hfi⟩ := T.code
  obtain ⟨cd, hcd⟩ := T.cls
  obtain ⟨nmC, qC, NC, bsC, bmC, snC, subC, abC, colC, ddC, k0, k1, k2, k3, k5, hlC, hbm⟩ := T.oex.cls
  have KX := I.kIn
  obtain ⟨t1, ho⟩ := exo_at I.hok ea
  obtain ⟨m, hn, hl⟩ := I.loc
  obtain ⟨u, ru, lu⟩ := hl 0 "self" (.ref a) hN hσ (.inl hsf)
  have eu : u = Value.ref a := ru
  subst eu
  have hmS : m "self" = some (Value.ref a) := by
    rcases lu with ⟨_, e⟩ | ⟨hk, _⟩
    · exact e
    · have hk : X.env.scope.names.lookup ("self" : Str) = some .cell ∨ X.env.scope.names.lookup ("self" : Str) = some .free := hk
      rw [hsf] at hk
      rcases hk with hk | hk <;> cases hk
  obtain ⟨mb, hb1, hb2⟩ := I.mod.blt
  obtain ⟨hh, g, d, t, os⟩ := s
  obtain ⟨oD, hD1, hD2⟩ : ∃ oD, hh.get? C = some oD ∧ oD.data = .cls cd := by
    have := KX _ _ hlC
    have e : PySem.W.clsIn X.K C = some { name := nmC, bases := bsC, mro := .ref C :: bmC, ns := NC, qualname := qC, hasDict := true, slotNames := snC, subclasses := subC, abstract := abC, collection := colC, hasDel := false } := by unfold PySem.W.clsIn; rw [hlC] <;> rfl
    rw [hcd] at e
    cases e
    exact ⟨_, this, rfl⟩
  have J : InstAt hh a { cls := .ref C, dict := none, data := .fields #[.ref t1, .none, .none, .none, .bool false, .none] } C none := ⟨ho, rfl, rfl, trivial⟩
  have haC : a ≠ C := ks_ne KX J hcd
  refine ks_wpAt_Expr_any (ks_wpAt_MethodCall (pl := pl) (ks_wpAt_super_base hks hkc (show (("__init__" : Str) == ("__class__" : Str)) = false by decide) hfu (KX _ _ hf) rfl hp hco (KX _ _ hcda) rfl hvs hfi htop ?_) hev) hi hsw
  refine ks_loadName_global I.ok.kind hks (loadGlobal_builtin (by rw [I.ok.glob]; exact I.mod.glob.keeps I.bk) hm (by rw [I.ok.blt]; exact hb1.keeps I.bk) ((hb2 "super" (by decide)).trans (show bootBuiltins "super" = some (.type "super") by kernel_rfl)) ⟨rfl, ?_⟩)
  refine wpAny_loadName_free I.ok.kind hkc hcl ⟨_, KX _ _ hcc, rfl⟩ ?_
  rw [har]
  refine wpAny_loadName_local I.ok.kind hsf hn hmS ?_
  refine ks_wpAny_isType_cls hD1 hD2 ⟨rfl, ?_⟩
  refine ks_wpAny_call_super hD1 hD2 ho rfl (fun c e => by cases e) (looks_mroIn KX T.own) (fun h1 e1 q1 => ?_)
  have KX1 : X.K.In h1 := KX.keeps q1
  have ho1 := q1 _ _ ho
  have J1 : InstAt h1 a { cls := .ref C, dict := none, data := .fields #[.ref t1, .none, .none, .none, .bool false, .none] } C none := ⟨ho1, rfl, rfl, trivial⟩
  have hal := T.sup
  unfold ks_superIn at hal
  rw [hcd] at hal
  refine kxs_getMethod kxs_ValueError e1 (looks_opaque KX1 T.opq) ((looks_clsIn KX1 hcd).andThen .now) rfl KX1 hal (J1.type.andThen (looks_subIn KX1 T.sub)) haC (by decide) ?_
  have hpu : ∀ b o, h1.get? b = some o → (h1.push (kxs_mw "ValueError.__init__" a)).get? b = some o := fun b o e => Heap.get?_push_of_some _ e
  have hmw : (h1.push (kxs_mw "ValueError.__init__" a)).get? h1.objs.size = some (kxs_mw "ValueError.__init__" a) := Heap.get?_push_at rfl rfl
  refine kxs_callWith (i := "ValueError.__init__") (x := a) (by rw [hst, hs0]; rfl) ?_
  rw [hst]
  refine evalArgs_plain ?_
  refine spliced_cons (Constant_str (k := kd) (pos := pc) ?_)
  rw [hs0]
  refine spliced_nil ⟨hmw, ?_⟩
  refine call_mw (KX1.keeps hpu _ _ hlC) (hpu _ _ ho1) hmw (by rw [sizeLine_eq]; show 1 ≤ 16777216; decide) fun h2 t2 k2 e2 => ?_
  have I1 := I.kept (h' := h1.push (kxs_mw "ValueError.__init__" a)) (t' := t + 1 + 1) fun b o e => hpu b o (q1 b o e)
  have I2 := I1.write (t' := t + 1 + 1) (x := a) (e := a) (o := exo a C none) (by rw [ea]; exact True.intro) (.inl rfl) k2 ⟨_, e2⟩ (exo_ok e2)
  have eu : upd H a (exo a C none) = H := by
    funext b
    by_cases hb : b = a
    · rw [hb, upd_same, ea]
    · rw [upd_ne hb]
  rw [eu] at I2
  exact hq _ I2
end
/-- what such an __init__ does with the object being made: its one field -/
def spSup (C : Addr) (fl : Str) : Sp := fun vs H Q _ => ∃ (a : Addr) (v : V), vs = [.ref a, v] ∧ H a = some (exo a C none) ∧ ∀ d, H d = none → d ≠ a → Q .non (upd (upd H d (exd d [(fl, v)])) a (exo a C (some d)))
section
open PySem.W NdefX
variable {P : Program} {w : World} {K : Fg} {mg : Str → Option Value} {base : Heap} {C f cc cda : Addr} {name qual pn fl z : Str} {params : Arguments} {scope : Scope} {dV kV doc pm ct : Value} {an : Option Addr} {p0 p1 p2 p3 p4 pc q1 q2 q3 q4 : Pos} {kd : Nat} {k : Nat}
abbrev supB (z pn fl : Str) (p0 p1 p2 p3 p4 pc q1 q2 q3 q4 : Pos) (kd : Nat) : List Stmt := [.Expr (.Call (.Attribute (.Call (.Name "super" p0) [] [] p1) "__init__" p2) [.Constant (.str z) kd pc] [] p3) p4, .Assign [.Attribute (.Name "self" q1) fl q2] (.Name pn q3) q4]
theorem fn_sup (T : SupK K P.main.file C f cc cda (fnX name qual params (supB z pn fl p0 p1 p2 p3 p4 pc q1 q2 q3 q4 kd) scope [("__class__", cc)] dV kV doc pm an (.ref cda) ct)) (hcd : codeIn K (.ref cda) qual = true) (hno : findIn K (.ref C) fl = some none)
    (S : NScope ["self", pn, "__class__"] ["self", pn] ["__class__"] scope) (hsup : scope.names.lookup ("super" : Str) = some .globalImplicit) (hm : mg "super" = none) (htop : (P.main.scope.names.lookup ("super" : Str)).isSome = false)
    (hd1 : (pn == ("__debug__" : Str)) = false) (hd2 : (pn == ("__classdict__" : Str)) = false) (hsw : ∀ L, swapsWith (.Name pn q3) (some (.Attribute (.Name "self" q1) fl q2)) q4.line (envX qual scope L f (.ref cda) [("__class__", cc)]) = pure false)
    (hin : ∀ L, interactive (envX qual scope L f (.ref cda) [("__class__", cc)]) = false)
    (hev : ∃ pl, ∀ L, eval (.Call (.Attribute (.Call (.Name "super" p0) [] [] p1) "__init__" p2) [.Constant (.str z) kd pc] [] p3) (envX qual scope L f (.ref cda) [("__class__", cc)]) = (do
      let ov ← attributeBase (.Call (.Name "super" p0) [] [] p1) "__init__" (envX qual scope L f (.ref cda) [("__class__", cc)]) (eval (.Call (.Name "super" p0) [] [] p1) (envX qual scope L f (.ref cda) [("__class__", cc)]))
      standAt p2.atName
      let (fu, first) ← holding [ov] (getMethod ov "__init__" pl)
      callWith p3 fu first (backTo p3 (starEach [.Constant (.str z) kd pc] (envX qual scope L f (.ref cda) [("__class__", cc)]))) [])) :
    FnOk P w K mg base (L2N.CX P w) (k + 1) f (fnX name qual params (supB z pn fl p0 p1 p2 p3 p4 pc q1 q2 q3 q4 kd) scope [("__class__", cc)] dV kV doc pm an (.ref cda) ct) ["self", pn] (spSup C fl) := by
  refine ⟨fun vs H Q E h => ?_, fun A outer s H args us vs Q E hr e0 hb r hsp => ?_⟩
  · obtain ⟨a, v, rfl, _⟩ := h
    rfl
  obtain ⟨a, v, rfl, ea, hq⟩ := hsp
  obtain ⟨oc, od, osl, hf⟩ := T.fn
  obtain ⟨cl, cld, csl, hcc⟩ := T.cell
  have KX : K.In s.heap := e0.mod.kin.keeps fun b o e => (e0.bs b o e).1
  have lim : s.heap.NoLimit := e0.mod.nolimit.keeps fun b o e => (e0.bs b o e).1
  refine ks_codeAny_call_defAt (body := supB z pn fl p0 p1 p2 p3 p4 pc q1 q2 q3 q4 kd) (binds := List.zip ["self", pn] us) hr.depth (KX _ _ hf) rfl lim (codeRec_of KX hcd) rfl hb S.nocell (fun ⟨n, _⟩ hy => S.par n (List.of_mem_zip hy).1) (fun h1 hns hk1 => ?_) S.co S.gen S.kind
  have cells : CellsAt [("__class__", cc)] ["__class__"] [none] s.heap H := by
    refine ⟨rfl, fun y c e => ?_, fun x y c e1 e2 => ?_, fun i y e => ?_⟩
    · rw [List.lookup_cons] at e
      split at e
      · cases e
        have hb1 : base.get? cc = some ⟨cl, cld, .cell (some (.ref C)), csl⟩ := e0.mod.kin _ _ hcc
        exact ⟨(e0.bs _ _ hb1).2, some (.ref C), _, KX _ _ hcc, rfl⟩
      · cases e
    · rw [List.lookup_cons] at e1 e2
      split at e1
      · rename_i h1
        split at e2
        · rename_i h2
          rw [eq_of_beq h1, eq_of_beq h2]
        · cases e2
      · cases e1
    · match i, e with
      | 0, e =>
        cases e
        exact ⟨cc, by rfl, fun v hv => by cases hv⟩
  have I := inv_startN (CX := L2N.CX P w) (h₁ := h1) (tk := s.toks + (List.zip (["self", pn] : List Str) us).length) (E := E) (F := ⟨name, qual, params, supB z pn fl p0 p1 p2 p3 p4 pc q1 q2 q3 q4 kd, scope, [("__class__", cc)], cda⟩) (f := f) S hr.hd e0 rfl r cells hns hk1
  obtain ⟨pl, hev⟩ := hev
  refine ks_wpAt_execs_cons (sup_run (pl := pl) T I hsup (S.frk _ (List.mem_singleton.mpr rfl)) (by rfl) rfl rfl (S.par _ List.mem_cons_self) rfl rfl ea hm htop (hin _) rfl (hev _) rfl rfl fun s' I' => ?_)
  refine _root_.PySem.wpAt_of_wpAny ?_
  have ps := pss_one (ps_ost (X := ncx (L2N.CX P w) P w K mg base ["self", pn, "__class__"] ⟨name, qual, params, supB z pn fl p0 p1 p2 p3 p4 pc q1 q2 q3 q4 kd, scope, [("__class__", cc)], cda⟩ f A outer s H E) (f := fl) (pe_var (i := 0) (x := "self") (pos := q1) rfl (.inl (S.par _ List.mem_cons_self))) (pe_var (i := 1) (x := pn) (pos := q3) rfl (.inl (S.par _ (List.mem_cons_of_mem _ (List.mem_singleton.mpr rfl)))) hd1 hd2) (hsw _))
  refine wpAny_mono (ps.run [] s' _ H { nx := fun _ H' => Q .non H', rt := Q } I' ⟨v, rfl, .ref a, rfl, a, C, rfl, T.oex, hno, .inl ⟨ea, fun dx n ne => hq dx n ne⟩⟩) (fun fw s'' hs => ?_) fun e s'' hs => hs
  have fin : ∀ {σ' : L2.St} {H' : Hp} {v : V} {u : Value}, Inv (ncx (L2N.CX P w) P w K mg base ["self", pn, "__class__"] ⟨name, qual, params, supB z pn fl p0 p1 p2 p3 p4 pc q1 q2 q3 q4 kd, scope, [("__class__", cc)], cda⟩ f A outer s H E) [] σ' H' s'' → L2.RelV v u → Q v H' → CE outer P w H s Q u s'' :=
    fun {σ' H' v u} J rv q => ⟨v, H', J.os, J.bare, J.base, J.hok, rv, q⟩
  match fw, hs with
  | .ret u, ⟨v, σ', H', J, rv, q⟩ => exact fin J rv q
  | .next, ⟨σ', H', J, q⟩ => exact fin (v := V.non) (u := Value.none) J rfl q
  | .brk, ⟨_, _, _, q⟩ => exact q.elim
  | .cont, ⟨_, _, _, q⟩ => exact q.elim
end
section
open PySem.W
variable {X : Cx} {x : Str} {e : Expr} {es : List Expr} {ta : TA} {p pos : Pos}
/-- X(v, ..) of an own error with an own __init__; the made object's context is None -/
theorem pmk_oexN {CX : CXT} {C fI : Addr} {k : Nat} {fd : FuncData} {ps : List Str} {sp : Sp} {ds : List Value} {dvs : List V} (T : OexC X.K C) (iC : PySem.W.findIn X.K (.ref C) "__init__" = some (some (.ref fI))) (tI : PySem.W.typeIn X.K (.ref fI) = some (.type "function"))
    (F1 : FnOk X.prog X.w X.K X.mg X.base CX k fI fd ps sp) (hr : Room (k + 1) X.A) (hb : Binds X.K fd ps ds) (hd : Vals dvs ds) (hx : Passes CX X (fun _ _ _ => False)) (hg : Gl X x) (hm : X.mg x = some (.ref C)) (ha : PA X (e :: es) ta)
    (hdb : (x == ("__debug__" : Str)) = false := by decide) (he : starEach (e :: es) X.env = (false, eval e X.env) :: starEach es X.env := by rfl) (hpl : (backTo pos (starEach es X.env)).any (·.1) = false := by rfl) :
    L2N.PMk X (.Call (.Name x p) (e :: es) [] pos) (tMkO C sp dvs ta) := by
  intro pins s σ H Q I h
  obtain ⟨nm, q, N, bs, bm, sn, sub, ab, col, dd, k0, k1, k2, k3, k5, hC, hbm⟩ := T.cls
  refine wpAny_Call_Name_kw (ld_glob I hg hm ?_ hdb)
  refine PySem.W.callWith_K (h₀ := X.base) I.ok.mod.kin T.kC (thn (ha.run pos pins s σ H _ I h) fun us s1 ⟨vs, H1, I1, r1, hz, q1⟩ => ⟨I1.kIn, ?_⟩) he hpl
  show wpAny _ _ (call (.ref C) us) _ _ _
  obtain ⟨hp, g, dr, tk, os⟩ := s1
  have room : hp.objs.size ≤ hp.objs.size + 1 := Nat.le_succ _
  have todo := q1 (hp.objs.size + 1) (I1.hok.fresh room)
  have at1 : ((hp.push (PySem.W.kdv_tup us)).push (PySem.HandSPX.excO C hp.objs.size)).get? (hp.objs.size + 1) = some (PySem.HandSPX.excO C hp.objs.size) := by heap_get
  have old : ∀ b o, hp.get? b = some o → ((hp.push (PySem.W.kdv_tup us)).push (PySem.HandSPX.excO C hp.objs.size)).get? b = some o := fun b o e => Heap.get?_push_of_some _ (Heap.get?_push_of_some _ e)
  have I2 : Inv X pins σ (upd H1 (hp.objs.size + 1) (exo (hp.objs.size + 1) C none)) ⟨(hp.push (PySem.W.kdv_tup us)).push (PySem.HandSPX.excO C hp.objs.size), g, dr, tk, os⟩ :=
    I1.laid (t' := tk) (a := hp.objs.size + 1) (o := exo (hp.objs.size + 1) C none) (h' := (hp.push (PySem.W.kdv_tup us)).push (PySem.HandSPX.excO C hp.objs.size)) old room (exo_ok at1)
  have given : Vals (V.ref (hp.objs.size + 1) :: (vs ++ dvs)) (Value.ref (hp.objs.size + 1) :: (us ++ ds)) := .cons rfl (r1.append hd)
  have hl : (Value.ref (hp.objs.size + 1) :: us ++ ds).length = ps.length := by
    have e := given.length
    rw [F1.len _ _ _ _ todo] at e
    exact e.symm
  have few : us.length ≤ sizeLine := by
    rw [← Paired.length r1, sizeLine_eq]
    omega
  refine wpAny_call (PySem.HandSPX.call_own F.excBase_ValueError (fun Y => PySem.HandSPX.refsVE_contains Y bm hbm) (I1.kIn _ _ hC) (PySem.W.looks_findIn I1.kIn iC) (fun self => PySem.W.bind_fn I1.kIn self tI) few
    (codeAny_mono (F1.run _ X.stack _ _ ⟨Value.ref (hp.objs.size + 1) :: us, []⟩ (Value.ref (hp.objs.size + 1) :: (us ++ ds)) _ _ (fun _ _ _ => False) (hr.make C us []) (I2.env0.make C us []) (hb _ (Value.ref (hp.objs.size + 1) :: us) I2.kIn hl) given todo) fun r s' hq => ?_))
  cases r with
  | error er => exact hx pins σ _ _ er s' I2 hq
  | ok fl =>
    cases fl with
    | ret u =>
      obtain ⟨v, H2, os2, bare2, un2, hok2, rv, ev, d, fs, ea, ed, hd1, q2⟩ := hq
      subst ev
      obtain ⟨h2, g2, d2, t2, os'⟩ := s'
      obtain ⟨t0, G, J, kG, ge, hoe, na⟩ := mk_end0 (d2 := d2) (t2 := t2) I1 room old un2 hok2 os2 bare2 ea ed hd1
      exact ⟨rv, hp.objs.size + 1, _, _, ⟨G, g2, d2, t2, os'⟩, _, .ref C, some d, rfl, J, kG, ge, hoe, ⟨rfl, rfl, fun vs e => by cases e; rfl⟩, rfl, rfl, na, rfl, bare2, raises_own T.exC T.tyC, q2⟩
    | next => exact False.elim hq
    | brk => exact False.elim hq
    | cont => exact False.elim hq
end
/-- all that raise c(e) of such an error needs -/
structure RavOk (P : Program) (w : World) (K : Fg) (mg : Str → Option Value) (base : Heap) (c : String) (fl : Str) : Prop where
  oex : OexC K (clsA K c)
  fn : ∃ f fd pn, PySem.W.findIn K (.ref (clsA K c)) "__init__" = some (some (.ref f)) ∧ PySem.W.typeIn K (.ref f) = some (.type "function") ∧ FnOk P w K mg base (L2N.CX P w) 1 f fd ["self", pn] (spSup (clsA K c) fl) ∧ L2.Binds K fd ["self", pn] []
section
variable {X : Cx} {W : WX} {G : Type} {Γ : GInt G}
theorem ds_raiseV {c : String} {fl x : Str} {p pos pos' : Pos} {e : Expr} {fs : DA G} (hc : X.calm = true) (tk : L2N.Takes X W) (V : RavOk X.prog X.w X.K X.mg X.base c fl) (hr : Room 2 X.A) (hm : X.mg x = some (.ref (clsA X.K c))) (hg : Gl X x) (hfl : flds c = [fl]) (ha : PA X [e] (liftA X.K Γ W fs))
    (hdb : (x == ("__debug__" : Str)) = false := by decide) (he : starEach [e] X.env = (false, eval e X.env) :: starEach [] X.env := by rfl) (hpl : (backTo pos (starEach [] X.env)).any (·.1) = false := by rfl) :
    PS X (.Raise (some (.Call (.Name x p) [e] [] pos)) none pos') (liftS X.K Γ W (sRaiseV c fs)) := by
  obtain ⟨f, fd, pn, iC, tI, Fn, hb⟩ := V.fn
  refine (L2N.ps_raise hc tk (pmk_oexN (ds := []) (dvs := []) V.oex iC tI Fn hr hb .nil passes0 hg hm ha hdb he hpl)).imp fun D σ H ⟨C, l, g, R, ex, E, r, h, _, _, _, _, kx⟩ => ?_
  refine ⟨C, l, g, R, ex, _, r, h, fun vs H1 R1 ds l1 g1 s1 r1 z1 h1 => ?_, kx σ⟩
  obtain ⟨hl, h2⟩ := h1
  match ds, z1, hl with
  | [d], .cons (v := v) zv .nil, _ =>
    refine ⟨by show 1 ≤ 1000; omega, fun a na => ⟨a, v, rfl, upd_same, fun dx nd nda => ⟨rfl, dx, [(fl, v)], upd_same, ?_, ?_, ?_⟩⟩⟩
    · rw [upd_ne nda, upd_same]
    · rw [upd_ne nda] at nd
      exact nd
    · rw [upd_ne nda] at nd
      have eH : upd (del (upd (upd (upd H1 a (exo a (clsA X.K c) none)) dx (exd dx [(fl, v)])) a (exo a (clsA X.K c) (some dx))) a) dx (.xd [(fl, v)]) = upd H1 dx (.xd [(fl, v)]) := by
        funext b
        by_cases h1 : b = dx
        · rw [h1, upd_same, upd_same]
        · rw [upd_ne h1, upd_ne h1]
          by_cases h2 : b = a
          · rw [h2, del_same, na]
          · rw [del_ne h2, upd_ne h2, upd_ne h1, upd_ne h2]
      rw [eH]
      have r2 := r1.laid (o := .xd [(fl, v)]) nd
      have s2 : Sub R1 (upd R1 dx (.xd [(fl, v)])) := Sub.new (r1.sub.no0 nd)
      refine kx σ _ _ _ _ ⟨c, [d]⟩ l1 g1 (s1.trans s2) r2 ⟨rfl, fun b => .exf (by simp) upd_same ?_⟩ h2
      rw [hfl]
      exact .cons (zv.mono s2) .nil
end
section
open PySem.W NdefX
variable {P : Program} {w : World} {K : Fg} {mg : Str → Option Value} {base : Heap} {c : String} {qual pn fl z file : Str} {params : Arguments} {scope : Scope} {p0 p1 p2 p3 p4 pc q1 q2 q3 q4 : Pos} {kd : Nat}
theorem ravOk_of (R : ravB K file c fl qual = true) (Fc : fnC K c = DefX.val ⟨c, qual, params, supB z pn fl p0 p1 p2 p3 p4 pc q1 q2 q3 q4 kd, scope⟩) (hfile : P.main.file = file) (hm : mg "super" = none) (htop : (P.main.scope.names.lookup ("super" : Str)).isSome = false)
    (S : NScope ["self", pn, "__class__"] ["self", pn] ["__class__"] scope) (hsup : scope.names.lookup ("super" : Str) = some .globalImplicit) (hd1 : (pn == ("__debug__" : Str)) = false) (hd2 : (pn == ("__classdict__" : Str)) = false) (hpar : ∃ ar, (params.posonlyargs ++ params.args).head? = some ar ∧ ar.arg = "self")
    (hsw : ∀ L f cda cc, swapsWith (.Name pn q3) (some (.Attribute (.Name "self" q1) fl q2)) q4.line (envX qual scope L f (.ref cda) [("__class__", cc)]) = pure false) (hin : ∀ L f cda cc, interactive (envX qual scope L f (.ref cda) [("__class__", cc)]) = false)
    (hev : ∃ pl, ∀ L f cda cc, eval (.Call (.Attribute (.Call (.Name "super" p0) [] [] p1) "__init__" p2) [.Constant (.str z) kd pc] [] p3) (envX qual scope L f (.ref cda) [("__class__", cc)]) = (do
      let ov ← attributeBase (.Call (.Name "super" p0) [] [] p1) "__init__" (envX qual scope L f (.ref cda) [("__class__", cc)]) (eval (.Call (.Name "super" p0) [] [] p1) (envX qual scope L f (.ref cda) [("__class__", cc)]))
      standAt p2.atName
      let (fu, first) ← holding [ov] (getMethod ov "__init__" pl)
      callWith p3 fu first (backTo p3 (starEach [.Constant (.str z) kd pc] (envX qual scope L f (.ref cda) [("__class__", cc)]))) []))
    (hb : ∀ (cl : List (Str × Addr)) (kV doc pm : Value) (an : Option Addr) (cdv ct : Value) (us : List Value), us.length = 2 → bindArgs (fnX "__init__" qual params (supB z pn fl p0 p1 p2 p3 p4 pc q1 q2 q3 q4 kd) scope cl .none kV doc pm an cdv ct) ⟨us, []⟩ = pure (List.zip (["self", pn] : List Str) us)) : RavOk P w K mg base c fl := by
  unfold ravB at R
  obtain ⟨r1, R⟩ := He.ba R
  obtain ⟨r2, R⟩ := He.ba R
  obtain ⟨r3, R⟩ := He.ba R
  obtain ⟨r4, R⟩ := He.ba R
  obtain ⟨r5, R⟩ := He.ba R
  obtain ⟨r6, R⟩ := He.ba R
  obtain ⟨r7, R⟩ := He.ba R
  obtain ⟨r8, R⟩ := He.ba R
  obtain ⟨r9, R⟩ := He.ba R
  obtain ⟨r10, R⟩ := He.ba R
  obtain ⟨r11, R⟩ := He.ba R
  obtain ⟨r12, R⟩ := He.ba R
  obtain ⟨r13, r14⟩ := He.ba R
  have ox : OexC K (clsA K c) := ⟨oxB_ok r1, He.eqO_ok r2, of_decide_eq_true r3, of_decide_eq_true r4, r5⟩
  obtain ⟨oc, od, osl, fd, x, cc, cda, hf, edf, ecl, eco, hcell, hcd, hcode⟩ := cloB_ok r6
  unfold Lk.fnC DefX.val at Fc
  rw [hf] at Fc
  obtain ⟨n1, n2, n3, n4, n5, n6, n7, n8, n9, n10, n11, n12, n13, n14, n15⟩ := fd
  simp only at ecl eco edf
  subst ecl eco edf
  simp only [Option.some.injEq, Prod.mk.injEq, List.map_cons, List.map_nil, List.cons.injEq, and_true] at Fc
  obtain ⟨h1, h2, h3, h4, h5, h6, h7, h8⟩ := Fc
  subst h1 h2 h3 h4 h5 h6 h7 h8
  obtain ⟨pl, hev⟩ := hev
  have T : SupK K P.main.file (clsA K c) (He.ma K (He.ga K c) "__init__") cc cda (fnX "__init__" n2 n3 (supB z pn fl p0 p1 p2 p3 p4 pc q1 q2 q3 q4 kd) n5 [("__class__", cc)] .none n9 n10 n11 n12 (.ref cda) n14) := by
    rw [hfile]
    exact ⟨⟨oc, od, osl, hf⟩, hpar, hcell, hcode, Option.isSome_iff_exists.mp r9, of_decide_eq_true r10, He.eqO_ok r11, He.eqO_ok r12, of_decide_eq_true r13, ox⟩
  exact ⟨ox, _, _, pn, He.eqO_ok r7, of_decide_eq_true r8, fn_sup T hcd (He.eqO_ok r14) S hsup hm htop hd1 hd2 (fun L => hsw L _ _ _) (fun L => hin L _ _ _) ⟨pl, fun L => hev L _ _ _⟩, Binds.all fun us hl => hb _ _ _ _ _ _ _ us hl⟩
end
theorem repF_has {K : Fg} {R : Hp} : ∀ {vs : List (Str × V)} {ns : List Str} {ds : List D}, RepF K R vs ns ds → ∀ {j : Nat} {d : D}, ds[j]? = some d → ∃ n, ns[j]? = some n
  | _, _, _, .nil, j, d, h => by cases h
  | _, _, _, .cons z q, 0, d, h => ⟨_, rfl⟩
  | _, _, _, .cons z q, j + 1, d, h => repF_has q (by simpa using h)
section
variable {X : Cx} {W : WX} {G : Type} {Γ : GInt G}
/-- err.f in a suite -/
theorem d_xf {a : Addr} {oe : Obj} {d : Option Addr} {k : String} {fs : List D} {pn : List (Addr × Obj)} {i j : Nat} {n fl : Str} {p1 pos : Pos} (C : XcOk X.K (clsA X.K k)) (hno : PySem.W.findIn X.K (.ref (clsA X.K k)) fl = some none)
    (hz : L2N.Zn (.ref (clsA X.K k)) d oe) (hf : ∃ vs, oe.data = .fields vs) (hn : PE (X.suite a ((a, oe) :: pn)) (.Name n p1) (tVar i)) (hj : ∀ g, (flds k)[j]? = some g → g = fl) (hnd : (flds k).Nodup)
    (hb : attributeBase (.Name n p1) fl X.env (eval (.Name n p1) X.env) = eval (.Name n p1) X.env := by rfl) :
    PE (X.suite a ((a, oe) :: pn)) (.Attribute (.Name n p1) fl pos) (liftE X.K Γ W (dXf i (.exc a d k fs) j)) :=
  (pe_xf ⟨C.hg, C.hk, C.hs, C.hd⟩ hno hz.zc hf hn hb).imp fun σ H Q ⟨C0, l, g, R, ex, q, r, h, kk, _⟩ => by
    obtain ⟨y, hy, rfl, d0, h0, hq⟩ := getV_ex h
    obtain ⟨v, ev, rv⟩ := r.va i _ hy
    cases id rv with
    | exc => cases h0
    | exf hne hR hF =>
      obtain ⟨fn, hfn⟩ := repF_has hF h0
      obtain ⟨u, hu, zu⟩ := hF.look hnd hfn h0
      have e := hj fn hfn
      subst e
      exact ⟨.ref a, ev, rfl, rfl, _, _, u, rfl, r.sub _ _ hR, hu, kk u H R d0 l g (Sub.refl R) r zu hq⟩
end
def fldB (cs : List String) (fl : Str) : Bool := cs.all fun k => decide (flds k = [] ∨ flds k = [fl])
theorem fldB_ok {cs : List String} {fl : Str} {k : String} (h : fldB cs fl = true) (hk : k ∈ cs) : (∀ g, (flds k)[0]? = some g → g = fl) ∧ (flds k).Nodup := by
  have h1 := of_decide_eq_true (List.all_eq_true.mp h k hk)
  rcases h1 with e | e
  · rw [e]
    exact ⟨fun g hg => (by cases hg), List.Pairwise.nil⟩
  · rw [e]
    exact ⟨fun g hg => (by cases hg; rfl), List.pairwise_singleton _ _⟩
end Lk

set_option autoImplicit false
set_option linter.all false
set_option Elab.async false
set_option maxRecDepth 100000
set_option maxHeartbeats 2000000
/-! isinstance(e, ValueError) of an own error -/
namespace Lk
open PySem PySem.Spec PyProof.Rows L2 Dx
section
variable {X : Cx} {W : WX} {G : Type} {Γ : GInt G}
/-- isinstance(e, ValueError) -/
theorem d_isXV {a : Addr} {oe : Obj} {d : Option Addr} {k : String} {fs : List D} {pn : List (Addr × Obj)} {i : Nat} {n x : Str} {p p1 p2 pos : Pos} (C : XcOk X.K (clsA X.K k)) (kc : PySem.W.kitOne X.K (.ref (clsA X.K k)) (.type "ValueError") = some true)
    (hz : L2N.Zn (.ref (clsA X.K k)) d oe) (hf : ∃ vs, oe.data = .fields vs) (hg : Gl X "isinstance") (hm : X.mg "isinstance" = none) (hn : PE (X.suite a ((a, oe) :: pn)) (.Name n p1) (tVar i)) (hgx : Gl X x) (hmx : X.mg x = none) (hbx : bootBuiltins x = some (.type "ValueError")) (hnx : x ≠ "__name__" := by decide)
    (hdb : (x == ("__debug__" : Str)) = false := by decide) (he : starEach [.Name n p1, .Name x p2] X.env = (false, eval (.Name n p1) X.env) :: starEach [.Name x p2] X.env := by rfl) (he2 : starEach [.Name x p2] X.env = (false, eval (.Name x p2) X.env) :: starEach [] X.env := by rfl)
    (hpl : (backTo pos (starEach [.Name x p2] X.env)).any (·.1) = false := by rfl) :
    PE (X.suite a ((a, oe) :: pn)) (.Call (.Name "isinstance" p) [.Name n p1, .Name x p2] [] pos) (liftE X.K Γ W (dIsX i (.exc a d k fs) "ValueError")) := by
  have hx : PE (X.suite a ((a, oe) :: pn)) (.Name x p2) (tC (.ty "ValueError")) := pe_bltn (X := X.suite a ((a, oe) :: pn)) hgx hmx hbx rfl hnx hdb
  refine ⟨fun pins s σ H Q I h => ?_⟩
  obtain ⟨C0, l, g, R, ex, q, r, h, kk, _⟩ := h
  obtain ⟨v, ev, rv⟩ := r.va i (.exc a d k fs) (by
    unfold dIsX getV at h
    split at h
    · rename_i y hy
      rw [h.1] at hy
      exact hy
    · exact h.elim)
  have hq0 : q (.bl (xSub k "ValueError")) l g := by
    unfold dIsX getV at h
    split at h
    · exact h.2
    · exact h.elim
  have ex : xSub k "ValueError" = true := by
    unfold xSub
    simp
  have hq : q (.bl true) l g := ex ▸ hq0
  obtain ⟨rfl, _⟩ := exc_d rv
  have hr : CallR (X.suite a ((a, oe) :: pn)) (.builtin "isinstance") (fun xs H' Q => xs = [.ref a, .ty "ValueError"] ∧ H' = H ∧ Q (.bl true) H') := by
    intro pins2 s2 σ2 H2 xs us Q2 I2 ru h
    obtain ⟨rfl, rfl, hQ⟩ := h
    cases ru with
    | cons ra ru =>
      cases ru with
      | cons rb ru =>
        cases ru
        cases ra
        cases rb
        obtain ⟨hget, _⟩ := I2.pin (a, oe) (List.mem_append.mpr (.inl List.mem_cons_self))
        obtain ⟨vs, hv⟩ := hf
        have J : ∃ od, PySem.W.InstAt s2.heap a oe (clsA X.K k) od := by
          obtain ⟨oc, od, oda, osl⟩ := oe
          obtain ⟨h1, h2, _⟩ := hz
          dsimp only at h1 h2 hv
          subst h1 h2 hv
          cases rv with
          | exc => exact ⟨none, hget, rfl, rfl, trivial⟩
          | exf _ hR _ =>
            obtain ⟨mA, hns, _⟩ := (I2.hok _ _ (r.sub _ _ hR) : ObjOk _ _ _ _ _ (.xd _))
            obtain ⟨ob, ho, _⟩ := lookIn_ns hns
            exact ⟨some ob, hget, rfl, rfl, ho⟩
        obtain ⟨od, J⟩ := J
        exact PySem.W.kia_one (PySem.W.kitx_exc C.hc C.hg C.hk C.hs C.ha C.hn C.ht C.hm) I2.kIn J kc (fun z => nomatch z) fun tk => ⟨.bl true, H2, I2.kept (t' := tk) fun _ _ z => z, rfl, hQ⟩
  exact (pe_callB (X := X.suite a ((a, oe) :: pn)) hr hg hm bt_isi (pa_cons hn (pa_cons hx pa_nil he2) he) (by decide) (by decide) he hpl).run pins s σ H Q I ⟨.ref a, ev, rfl, rfl, kk _ H R _ l g (Sub.refl R) r (.bl _) hq⟩
/-- own.index(y) -/
theorem d_idxO {i : Nat} {x : Str} {p2 apos cpos : Pos} {e : Expr} {f : DE G} (hv : PE X (.Name x p2) (tVar i)) (he : PE X e (liftE X.K Γ W f))
    (hfew : ((backTo cpos (starEach [e] X.env)).all (fun x => !x.1) && (backToKw cpos (keywordEach [] X.env)).all (fun x => x.1.isSome) && decide (([e] : List Expr).length + ([] : List Keyword).length + (if ([] : List Keyword).isEmpty then 0 else 1) < 30)) = true := by rfl)
    (hline : (apos.endLine == cpos.line) = true := by rfl) (hs : starEach [e] X.env = (false, eval e X.env) :: starEach [] X.env := by rfl)
    (hbase : attributeBase (.Name x p2) "index" X.env (eval (.Name x p2) X.env) = eval (.Name x p2) X.env := by rfl) :
    PE X (.Call (.Attribute (.Name x p2) "index" apos) [e] [] cpos) (liftE X.K Γ W (dIdxO i f)) :=
  (pe_bm PySem.F.plainAttrs_list PySem.F.slot_list_index PySem.F.type_list_index mt_index hv (pa_cons he pa_nil hs) hbase hfew hline hs rfl).imp fun σ H Q h => by
    obtain ⟨C, l, g, R, ex, q, r, h, k, kx⟩ := h
    obtain ⟨d0, e0, h⟩ := getO_ex h
    split at h
    · obtain ⟨a, vs, ea, eh, _⟩ := r.owL e0
      refine ⟨.ref a, ea, .inl ⟨rfl, _, SqL.of eh⟩, C, l, g, R, ex, _, r, h, fun y H1 R1 d l1 g1 s1 r1 z1 h1 => ?_, kx⟩
      obtain ⟨d2, e2, h1⟩ := getO_ex h1
      split at h1
      · obtain ⟨⟨fy, fx⟩, j, z, hz, hzj, hno, hq⟩ := h1
        obtain ⟨a', vs', ea', eh', q'⟩ := r1.owL e2
        rw [ea] at ea'
        cases ea'
        obtain ⟨v, hv', zv⟩ := q'.get hz
        have fl : ∀ {m : Nat} {z' : D}, _[m]? = some z' → flat z' = true := fun {m z'} h => List.all_eq_true.mp fx z' (List.mem_of_getElem? h)
        refine ⟨a, vs', y, j, v, rfl, rfl, SqL.of eh', flat_rep z1 fy, flats_rep q' fx, hv', (eqV_deq zv z1 (fl hz) fy).trans hzj, fun m v' hm hv2 => ?_, ?_⟩
        · have hml : m < _ := (List.getElem?_eq_some_iff.mp hv2).1
          rw [q'.length] at hml
          obtain ⟨v2, hv3, zv2⟩ := q'.get (List.getElem?_eq_getElem hml)
          rw [hv2] at hv3
          cases hv3
          exact (eqV_deq zv2 z1 (fl (List.getElem?_eq_getElem hml)) fy).trans (hno m _ hm (List.getElem?_eq_getElem hml))
        · exact k _ _ R1 _ l1 g1 s1 r1 (.int _) hq
      · exact h1.elim
    · exact h.elim
end
end Lk

set_option autoImplicit false
set_option linter.all false
set_option Elab.async false
set_option maxRecDepth 100000
set_option maxHeartbeats 2000000
set_option exponentiation.threshold 4000
/-! repr(x) of data, where nothing else is shown meanwhile (the law's own body) -/
namespace Lk
open PySem PySem.Spec PyProof.Rows L2 Dx
/-! ### the text's length -/
theorem shown_num {i : Int} (h : i.natAbs < 10 ^ 200) : (toString i).length ≤ 201 := int_text_length_le10 (by decide) h
mutual
theorem shown_bnd : ∀ d : D, shw d = true → (toQ d).shown.length ≤ bnd d
  | .non, _ => by simp only [toQ, PyData.shown, bnd]; decide
  | .bl b, _ => by
    simp only [toQ, PyData.shown, bnd]
    cases b <;> decide
  | .int i, h => by
    simp only [toQ, PyData.shown, bnd]
    have h1 := shown_num (of_decide_eq_true h)
    have e : ((toString i : String) : Str).length = (toString i).length := PySem.ofString_length _
    omega
  | .str s, h => by
    simp only [toQ, PyData.shown, bnd]
    have := StrLaws.reprText_len ⟨s.toArray⟩ fun c hc => by
      have h2 := of_decide_eq_true (List.all_eq_true.mp (show (s.all fun c => decide (c < 128)) = true from h) c (by simpa using hc))
      have : (128 : Nat) ≤ 16 ^ 8 := by decide
      omega
    have e : (⟨s.toArray⟩ : Str).length = s.length := by show s.toArray.size = _; simp
    omega
  | .tup xs, h => by
    simp only [toQ, PyData.shown, bnd]
    have h1 := tupleText_len_le (PyData.shownAll (toQs xs))
    have h2 := shown_bnds xs h
    omega
  | .lst xs, h => by
    simp only [toQ, PyData.shown, bnd]
    have h1 := listText_len_le (PyData.shownAll (toQs xs))
    have h2 := shown_bnds xs h
    omega
  | .dic _ _, _ => by simp only [toQ, PyData.shown, bnd, PyData.shownKv]; decide
  | .ref _, h => by simp [shw] at h
  | .ty _, h => by simp [shw] at h
  | .kt _, h => by simp [shw] at h
  | .st _, h => by simp [shw] at h
  | .obj _ _, h => by simp [shw] at h
  | .exc _ _ _ _, h => by simp [shw] at h
theorem shown_bnds : ∀ ds : List D, shws ds = true → ((PyData.shownAll (toQs ds)).map (·.length)).sum + 2 * (PyData.shownAll (toQs ds)).length ≤ bnds ds
  | [], _ => by simp [toQs, PyData.shownAll, bnds]
  | x :: xs, h => by
    rw [shws, Bool.and_eq_true] at h
    have h1 := shown_bnd x h.1
    have h2 := shown_bnds xs h.2
    simp only [toQs, PyData.shownAll, bnds, List.map_cons, List.sum_cons, List.length_cons]
    omega
end
mutual
theorem shown_able : ∀ d : D, shw d = true → (toQ d).showable = true
  | .non, _ => rfl
  | .bl b, _ => rfl
  | .int i, h => by
    simp only [toQ, PyData.showable]
    refine decide_eq_true ?_
    have h1 := of_decide_eq_true h
    by_cases h0 : i.natAbs = 0
    · rw [h0]; decide
    · exact (Nat.log2_lt h0).mpr (Nat.lt_trans h1 (by decide))
  | .str s, h => rfl
  | .tup xs, h => by simp only [toQ, PyData.showable]; exact shown_ables xs h
  | .lst xs, h => by simp only [toQ, PyData.showable]; exact shown_ables xs h
  | .dic _ _, _ => rfl
  | .ref _, h => by simp [shw] at h
  | .ty _, h => by simp [shw] at h
  | .kt _, h => by simp [shw] at h
  | .st _, h => by simp [shw] at h
  | .obj _ _, h => by simp [shw] at h
  | .exc _ _ _ _, h => by simp [shw] at h
theorem shown_ables : ∀ ds : List D, shws ds = true → PyData.showableAll (toQs ds) = true
  | [], _ => rfl
  | x :: xs, h => by
    rw [shws, Bool.and_eq_true] at h
    simp only [toQs, PyData.showableAll, Bool.and_eq_true]
    exact ⟨shown_able x h.1, shown_ables xs h.2⟩
end
mutual
theorem depth_q : ∀ d : D, (toQ d).depth ≤ dpt d
  | .tup xs => by simp only [toQ, PyData.depth, dpt]; exact Nat.succ_le_succ (depths_q xs)
  | .lst xs => by simp only [toQ, PyData.depth, dpt]; exact Nat.succ_le_succ (depths_q xs)
  | .dic _ _ => by simp only [toQ, PyData.depth, PyData.depthKv, dpt]; decide
  | .non => Nat.le_refl _
  | .bl _ => Nat.le_refl _
  | .int _ => Nat.le_refl _
  | .str _ => Nat.le_refl _
  | .ref _ => Nat.le_refl _
  | .ty _ => Nat.le_refl _
  | .kt _ => Nat.le_refl _
  | .st _ => Nat.le_refl _
  | .obj _ _ => Nat.le_refl _
  | .exc _ _ _ _ => Nat.le_refl _
theorem depths_q : ∀ ds : List D, PyData.depthAll (toQs ds) ≤ dpts ds
  | [] => Nat.le_refl _
  | x :: xs => by
    simp only [toQs, PyData.depthAll, dpts]
    have h1 := depth_q x
    have h2 := depths_q xs
    omega
end
section
variable {X : Cx} {pins : List (Addr × Obj)} {σ : L2.St} {H R : Hp} {s : Shared}
mutual
theorem rep_rd (I : Inv X pins σ H s) (sub : Sub R H) (ns : H sysModules = none) : ∀ {d : D} {v : V} {u : Value}, Rep X.K R v d → shw d = true → RelV v u → ∃ as, Reads s.heap u (toQ d) as ∧ sysModules ∉ as
  | .non, _, _, .non, _, r => by cases r; exact ⟨_, .none, by simp⟩
  | .bl _, _, _, .bl b, _, r => by cases r; exact ⟨_, .bool b, by simp⟩
  | .int _, _, _, .int i, _, r => by obtain ⟨t, rfl⟩ := r; exact ⟨_, .int i t, by simp⟩
  | .str _, _, _, .str x, _, r => by
    obtain ⟨t, rfl⟩ := r
    have e : (⟨x.cps.toList.toArray⟩ : Str) = x := by cases x; rfl
    simp only [toQ]
    rw [e]
    exact ⟨_, .str x t, by simp⟩
  | .tup _, _, _, .tup h q, p, r => by
    cases r
    obtain ⟨its, rv, ⟨o, ho, hc, n, hd⟩, _⟩ := I.tuple (SqT.of (sub _ _ h))
    obtain ⟨as, hr, hn⟩ := reps_rd I sub ns q (by simpa only [shw] using p) rv
    simp only [toQ]
    exact ⟨_, .tuple ho hc hd hr, hn⟩
  | .lst _, _, _, .lst h q, p, r => by
    cases r
    have hH := sub _ _ h
    obtain ⟨its, rv, ⟨o, n, ho, hc, _, hd⟩, _⟩ := I.list (SqL.of hH)
    obtain ⟨as, hr, hn⟩ := reps_rd I sub ns q (by simpa only [shw] using p) rv
    simp only [toQ]
    refine ⟨_, .list ho hc hd hr, fun z => ?_⟩
    rcases List.mem_cons.mp z with z | z
    · rw [← z, ns] at hH
      cases hH
    · exact hn z
  | .dic _ _, _, _, .dic h q, p, r => by
    cases q with
    | cons _ _ => simp [shw] at p
    | nil =>
      cases r
      obtain ⟨_, hs, vs, kv, o, es, ep, ho, hx, hd, _, hp, _⟩ := (I.hok _ _ (sub _ _ h) : ObjOk _ _ _ _ _ (.dK []))
      cases kv
      have he : es.toList = [] := by
        generalize es.toList = l at hp
        cases hp
        rfl
      have hne := beq_eq_false_iff_ne.mp hs
      simp only [toQ]
      exact ⟨_, .dict (kvs := []) ho hx.1 hd (by rw [he]; exact .nil) (by rw [he]; exact .nil), by simpa using fun e => hne e.symm⟩
  | .dic _ _, _, _, .diT h q, p, r => by
    cases q with
    | cons _ _ => simp [shw] at p
    | nil =>
      cases r
      obtain ⟨_, hs, xs, kv, o, es, ep, ho, hx, hd, he, _⟩ := (I.hok _ _ (sub _ _ h) : ObjOk _ _ _ _ _ (.dT []))
      cases kv
      have hne := beq_eq_false_iff_ne.mp hs
      simp only [toQ]
      exact ⟨_, .dict (kvs := []) ho hx.1 hd (by rw [he]; exact .nil) (by rw [he]; exact .nil), by simpa using fun e => hne e.symm⟩
  | .ref _, _, _, _, p, _ => by simp [shw] at p
  | .ty _, _, _, _, p, _ => by simp [shw] at p
  | .kt _, _, _, _, p, _ => by simp [shw] at p
  | .st _, _, _, _, p, _ => by simp [shw] at p
  | .obj _ _, _, _, _, p, _ => by simp [shw] at p
  | .exc _ _ _ _, _, _, _, p, _ => by simp [shw] at p
theorem reps_rd (I : Inv X pins σ H s) (sub : Sub R H) (ns : H sysModules = none) : ∀ {ds : List D} {vs : List V} {us : List Value}, Reps X.K R vs ds → shws ds = true → Vals vs us → ∃ as, ReadsAll s.heap us (toQs ds) as ∧ sysModules ∉ as
  | [], _, _, .nil, _, r => by cases r; exact ⟨_, .nil, by simp⟩
  | _ :: _, _, _, .cons h q, p, r => by
    rw [shws, Bool.and_eq_true] at p
    cases r with
    | cons r1 r2 =>
      obtain ⟨as, q1, n1⟩ := rep_rd I sub ns h p.1 r1
      obtain ⟨bs, q2, n2⟩ := reps_rd I sub ns q p.2 r2
      exact ⟨_, .cons q1 q2, fun z => by rcases List.mem_append.mp z with z | z; exact n1 z; exact n2 z⟩
end
end
section
variable {X : Cx} {W : WX} {G : Type} {Γ : GInt G} {K : Fg}
/-- repr(x) of what stands for d -/
def rRepr (K : Fg) : List V → Hp → VK → Prop := fun xs H Q => ∃ (v : V) (d : D) (R : Hp), xs = [v] ∧ Sub R H ∧ Rep K R v d ∧ shw d = true ∧ bnd d ≤ 15000000 ∧ dpt d ≤ 100 ∧ Q (.str ⟨(rpr d).toArray⟩) H
theorem call_reprD (hu : X.A.units + 150 < cLine) (hg : X.A.guards = some []) (hs : ∃ o, X.K.lookup sysModules = some o) : CallR X (.builtin "repr") (rRepr X.K) := by
  intro pins s σ H xs us Q I r h
  obtain ⟨v, d, R, rfl, sub, z, hd, hb, hp, q⟩ := h
  obtain ⟨u, rfl, ru⟩ := vals1 r
  obtain ⟨o, hs⟩ := hs
  have ns : H sysModules = none := (I.bs _ _ (I.ok.mod.kin _ _ hs)).2
  obtain ⟨as, rd, hn⟩ := rep_rd I sub ns z hd ru
  have h1 := shown_bnd d hd
  have h2 := depth_q d
  have e : (⟨(rpr d).toArray⟩ : Str) = (toQ d).shown := by
    rw [rpr_eq]
    first
      | done
      | (cases (toQ d).shown; rfl)
  rw [e] at q
  have hz : (toQ d).shown.length ≤ sizeLine := by rw [sizeLine_eq]; omega
  cases z with
  | non => cases ru; exact PySem.P.repr_of_none ⟨.str (toQ .non).shown, H, I.tok _, ⟨_, rfl⟩, q⟩
  | bl b => cases ru; exact PySem.P.repr_of_bool ⟨.str (toQ (.bl b)).shown, H, I.tok _, ⟨_, by cases b <;> rfl⟩, q⟩
  | int i =>
    obtain ⟨t, rfl⟩ := ru
    have hi : i.natAbs.log2 < 1920 := by simpa [toQ, PyData.showable] using shown_able (.int i) hd
    exact PySem.P.repr_of_int hi ⟨.str (toQ (.int i)).shown, H, I.tok _, ⟨_, rfl⟩, q⟩
  | str x =>
    obtain ⟨t, rfl⟩ := ru
    have ex : (toQ (.str x.cps.toList)).shown = reprText x := by
      simp only [toQ, PyData.shown]
    rw [ex] at q hz
    exact PySem.P.repr_of_str ⟨.str (reprText x), H, I.tok _, ⟨_, rfl⟩, q⟩ hz
  | ref a => simp [shw] at hd
  | ty n => simp [shw] at hd
  | kt h q => simp [shw] at hd
  | obj h q r => simp [shw] at hd
  | exc a c => simp [shw] at hd
  | exf a b c => simp [shw] at hd
  | _ =>
    cases ru
    exact PySem.repr_of_reads' rd (shown_able _ hd) (fun _ => hn) hg (by omega) (fun _ _ e => e) (fun h' t1 tk hk => ⟨.str _, H, I.kept (t' := tk) hk, ⟨t1, rfl⟩, q⟩) hz
theorem repr_run {fs : DA G} {σ : L2.St} {H : Hp} {Q : VK} (h : liftE K Γ W (dB bRepr fs) σ H Q) : tCB (rRepr K) (liftA K Γ W fs) σ H Q := by
  obtain ⟨C, l, g, R, ex, q, rl, h, k, kx⟩ := h
  refine ⟨C, l, g, R, ex, _, rl, h, fun vs H1 R1 ds l1 g1 s1 r1 z1 h1 => ?_, kx⟩
  unfold bRepr at h1
  split at h1
  · rename_i d
    obtain ⟨⟨a, b, c⟩, hq⟩ := h1
    cases z1 with
    | cons z zn =>
      cases zn
      have zs : Rep K R1 (.str ⟨(rpr d).toArray⟩) (.str (rpr d)) := by
        have := Rep.str (K := K) (R := R1) ⟨(rpr d).toArray⟩
        simpa using this
      exact ⟨_, d, R1, rfl, r1.sub, z, a, b, c, k _ H1 R1 _ l1 g1 s1 r1 zs hq⟩
  · exact h1.elim
theorem bt_repr : bootBuiltins "repr" = some (.builtin "repr") := by decide +kernel
theorem d_repr {e : Expr} {p pos : Pos} {fs : DA G} (hu : X.A.units + 150 < cLine) (hg : X.A.guards = some []) (hs : ∃ o, X.K.lookup sysModules = some o) (hgl : Gl X "repr") (hm : X.mg "repr" = none) (ha : PA X [e] (liftA X.K Γ W fs))
    (he : starEach [e] X.env = (false, eval e X.env) :: starEach [] X.env := by rfl) (hpl : (backTo pos (starEach [] X.env)).any (·.1) = false := by rfl) : PE X (.Call (.Name "repr" p) [e] [] pos) (liftE X.K Γ W (dB bRepr fs)) :=
  (pe_callB (call_reprD hu hg hs) hgl hm bt_repr ha (by decide) (by decide) he hpl).imp fun _ _ _ h => repr_run h
theorem ag_neS : Ag2 K Γ rNe wNeS := by
  intro C l g σ R H x y d e k Q r zx zy hw fin
  unfold wNeS at hw
  split at hw
  · obtain ⟨a, rfl, rfl⟩ := zx.str
    obtain ⟨b, rfl, rfl⟩ := zy.str
    refine ⟨rfl, ?_⟩
    have e : decide (V.str a = V.str b) = decide (a.cps.toList = b.cps.toList) := by
      rw [str_cps]
      exact decide_eq_decide.mpr ⟨fun e => by injection e, fun e => by rw [e]⟩
    rw [e]
    exact fin _ H R _ (Sub.refl R) r (.bl _) hw
  · exact hw.elim
end
end Lk

set_option autoImplicit false
set_option linter.all false
set_option Elab.async false
set_option maxRecDepth 100000
set_option maxHeartbeats 2000000
/-! the law's own def, at the row's call alone: there nothing is being shown (the guards are known) -/
namespace Lk
open PySem PySem.Spec PyProof.Rows L2 Dx
/-- what a def promises to the row -/
def FnAt (P : Program) (w : World) (K : Fg) (mg : Str → Option Value) (base : Heap) (f : Addr) (fd : FuncData) (x : Str) (sp : Sp) : Prop :=
  ∀ (s : Shared) (H : Hp) (u : Value) (v : V) (Q : VK) (E : XK), Env0 P w K mg base callerA [] s H → BindsTo s fd ⟨[u], []⟩ [(x, u)] → RelV v u → sp [v] H Q E →
    codeAny (model P w) callerA (.call (.ref f) ⟨[u], []⟩) (CR (L2N.CX P w) [] P w H s Q E) s
section
variable {P : Program} {w : World} {K : Fg} {mg : Str → Option Value} {base : Heap}
theorem fn_at {x qual : Str} {params : Arguments} {body : List Stmt} {scope : Scope} {f : Addr} {fd : FuncData} {N : List Str} {y : Str} {k : Nat} {c : Ct Gm} {b : DS Gm}
    (F : FunD K x qual params body scope [] [] f fd) (S : FnScope N [y] scope) (len : ∀ ds g q e, c ds g q e → ds.length = 1) (kp : Keeps N.length c b) (hr : Room (k + 1) callerA)
    (der : ∀ (cdv : Value) (s : Shared) (H : Hp) (E : XK), Room k (callerA.deeper (envOfC qual scope s.heap.objs.size f cdv)) → PSs (cxOf (L2N.CX P w) P w K mg base N qual scope f cdv callerA [] s H E) body (liftS K (gint K) (WB E) b)) :
    FnAt P w K mg base f fd y (liftC K (gint K) c) := by
  intro s H u v Q E e0 hb rv hsp
  obtain ⟨oc, od, dV, kV, doc, pm, an, cdv, ct, osl, rfl, lk, hcd, _, _⟩ := F.ex
  have inHeap : K.In s.heap := e0.mod.kin.keeps fun b o e => (e0.bs b o e).1
  have free : s.heap.NoLimit := e0.mod.nolimit.keeps fun b o e => (e0.bs b o e).1
  have kinds : ∀ z ∈ [(y, u)], scope.names.lookup z.1 = some .local ∨ (scope.names.lookup z.1 = some .cell ∧ ((cellsFrom (s.heap.objs.size + 1) scope.names []).lookup z.1).isSome = true) := fun z hz => by
    rw [List.mem_singleton] at hz
    subst hz
    rcases S.par y (by simp) with q | q
    · exact .inl q
    · exact .inr ⟨q, PySem.W.cellsFrom_some _ _ _ (.inl q)⟩
  refine codeAny_call_function hr.depth (inHeap _ _ lk) rfl S.co S.gen rfl (PySem.W.codeRec_of inHeap hcd) (hb _ _ _ _ ?_)
  refine wpAny_newFunctionEnv_cells S.kind kinds fun env he s1 x1 => ?_
  subst he
  refine ⟨free.keeps x1.toInCall.keep, codeAny_func ?_⟩
  have hN1 : ([y] : List Str).length = 1 := rfl
  have hrun : (liftS K (gint K) (WB E) b) { nx := fun _ H' => Q .non H', rt := Q } (L2.start N [v]) H := by
    refine body_run N rfl kp (fun ds g q e hc => ?_) hsp
    rw [len ds g q e hc]
    have := congrArg List.length S.pre
    rw [List.length_take] at this
    simp only [List.length_cons, List.length_nil] at this
    omega
  have I := inv_start (CX := L2N.CX P w) (E := E) S hr.hd e0 (vs := [v]) rfl (.cons rv .nil) x1
  refine wpAny_mono ((der cdv s H E (hr.deeper _)).run [] s1 (L2.start N [v]) H _ I hrun) (fun fl s' hs => ?_) fun e s' hs => hs
  cases fl with
  | ret u2 =>
    obtain ⟨v2, σ2, H2, J, r2, q⟩ := hs
    exact ⟨v2, H2, J.os, J.bare, J.base, J.hok, r2, q⟩
  | next =>
    obtain ⟨σ2, H2, J, q⟩ := hs
    exact ⟨V.non, H2, J.os, J.bare, J.base, J.hok, rfl, q⟩
  | brk =>
    obtain ⟨_, _, _, q⟩ := hs
    exact False.elim q
  | cont =>
    obtain ⟨_, _, _, q⟩ := hs
    exact False.elim q
theorem hu150 {k : Nat} {A : Around} (r : Room k A) : A.units + 150 < cLine := by
  have := r.un
  omega
theorem okat_of {x qual : Str} {params : Arguments} {body : List Stmt} {scope : Scope} {N : List Str} {y : Str} {k : Nat} {c : Ct Gm} {b : DS Gm} {fd : FuncData}
    (F : FunD K x qual params body scope [] [] (He.ga K x) fd) (S : FnScope N [y] scope) (len : ∀ ds g q e, c ds g q e → ds.length = 1) (kp : Keeps N.length c b) (hr : Room (k + 1) callerA)
    (der : ∀ (cdv : Value) (s : Shared) (H : Hp) (E : XK), Room k (callerA.deeper (envOfC qual scope s.heap.objs.size (He.ga K x) cdv)) → PSs (cxOf (L2N.CX P w) P w K mg base N qual scope (He.ga K x) cdv callerA [] s H E) body (liftS K (gint K) (WB E) b)) :
    ∃ fd, FnAt P w K mg base (He.ga K x) fd y (liftC K (gint K) c) ∧ ∃ (oc : Value) (od : Option Addr) (osl : Array (Option Value)), K.lookup (He.ga K x) = some ⟨oc, od, .func fd, osl⟩ := ⟨fd, fn_at F S len kp hr der, by
  obtain ⟨oc, od, _, _, _, _, _, _, _, osl, _, lk, _⟩ := F.ex
  exact ⟨oc, od, osl, lk⟩⟩
/-- the head, for such a def -/
theorem law_at {mb : Str → Option Value} {fa a : Addr} {fd : FuncData} {x : Str} {sp : Sp} {s₁ : Shared} {vs : List Value} {ns : List Int} (KX : K.In s₁.heap) (hns : s₁.heap.Ns mainGlobals mg) (hb : s₁.heap.Ns builtinsNs mb)
    (hbb : ∀ x : Str, x ≠ "__name__" → mb x = bootBuiltins x) (hlim : s₁.heap.NoLimit) (hg : s₁.gens = #[]) (ha : s₁.heap.get? a = some { cls := .type "list", data := .seq vs.toArray }) (hi : IntsAre vs ns) (hl : ns.length ≤ sizeLine)
    (F : ∀ base : Heap, K.In base → base.Ns mainGlobals mg → FnAt P w K mg base fa fd x sp) (hbind : ∀ (s : Shared) (u : Value), BindsTo s fd ⟨[u], []⟩ [(x, u)])
    (hsp : ∀ H : Hp, Only H → SqL K H a (ns.map V.int) → sp [.ref a] H (fun v _ => v = .bl true) fun _ _ _ => False) :
    codeAny (model P w) callerA (.call (.ref fa) ⟨[.ref a], []⟩) (fun r s' => r = .ok (.ret (.bool true)) ∧ OldK s₁.heap s'.heap ∧ s'.os = s₁.os ∧ AllBare s'.gens) s₁ := by
  have rv := vals_ints hi
  have lenV := hi.length
  -- T: what is tracked of the script
  have main : ∀ T : Hp, Only T → SqL K T a (ns.map V.int) → HOk P w T s₁.heap → (∀ b u, T b = some u → b = a ∧ K.lookup a = none) →
      codeAny (model P w) callerA (.call (.ref fa) ⟨[.ref a], []⟩) (fun r s' => r = .ok (.ret (.bool true)) ∧ OldK s₁.heap s'.heap ∧ s'.os = s₁.os ∧ AllBare s'.gens) s₁ := by
    intro T oT sT okT only
    have keep : ∀ {b : Addr} {o : Obj}, s₁.heap.get? b = some o → T b = none → (hidT s₁.heap T).get? b = some o := fun e n => hidT_get e n
    have noList : ∀ {b : Addr} {o : Obj} {es : Array DictEntry} {ep : Nat}, s₁.heap.get? b = some o → o.data = .dict es ep → T b = none := fun {b o es ep} e d => by
      cases q : T b with
      | none => rfl
      | some u =>
        obtain ⟨rfl, _⟩ := only b u q
        rw [ha] at e
        cases e
        exact Data.noConfusion (show Data.seq vs.toArray _ = Data.dict es ep from d)
    have names : ∀ {b : Addr} {m : Str → Option Value}, s₁.heap.Ns b m → (hidT s₁.heap T).Ns b m := fun {b m} ⟨o, es, ep, e, d, r⟩ => ⟨o, es, ep, keep e (noList e d), d, r⟩
    have kin : K.In (hidT s₁.heap T) := fun b o e => keep (KX b o e) (by
      cases q : T b with
      | none => rfl
      | some u =>
        obtain ⟨rfl, hn⟩ := only b u q
        rw [hn] at e
        cases e)
    obtain ⟨mc, l1, l2⟩ := hlim
    have e0 : Env0 P w K mg (hidT s₁.heap T) callerA [] s₁ T := ⟨rfl, ⟨kin, names hns, ⟨mb, names hb, hbb⟩, ⟨mc, names l1, l2⟩⟩, fun b o e => of_hidT e, Nat.le_of_eq (hidT_size _ _), trivial, (fun b hb => nomatch hb), okT, .of_eq hg⟩
    refine codeAny_mono (F _ kin (names hns) s₁ T (.ref a) (.ref a) _ _ e0 (hbind s₁ (.ref a)) rfl (hsp T oT sT)) fun r s' h => ?_
    cases r with
    | error e =>
      obtain ⟨_, _, _, _, _, _, _, _, _, _, _, _, q⟩ := h
      exact q.elim
    | ok fl =>
      cases fl with
      | next => exact False.elim h
      | brk => exact False.elim h
      | cont => exact False.elim h
      | ret u =>
        obtain ⟨v, T2, os, bare, un, ok2, r2, rfl⟩ := h
        obtain rfl : u = Value.bool true := r2
        refine ⟨rfl, OldK.of_keep fun b o e => ?_, os, bare⟩
        cases q : T b with
        | none => exact un.keep b o e q (fun z => nomatch z) (fun z => nomatch z)
        | some u =>
          rcases oT b with z | ⟨ob, xs, z⟩
          · rw [q] at z
            cases z
          · have g1 := (okT b _ z).1
            have g2 := (ok2 b _ (un.frzs b ob _ z)).1
            rw [e] at g1
            cases g1
            exact g2
  cases hk : K.lookup a with
  | some o =>
    have e := KX a o hk
    rw [ha] at e
    cases e
    exact main (fun _ => none) (fun _ => .inl rfl) (.inr ⟨_, vs.toArray, _, hk, rfl, rfl, rfl, by rw [List.size_toArray, lenV]; exact hl, by simpa using rv⟩) (fun b u z => by cases (show (none : Option HO) = some u from z)) fun b u z => by cases (show (none : Option HO) = some u from z)
  | none =>
    have out : ∀ {b : Addr} {u : HO}, upd (fun _ => none) a (.frz { cls := .type "list", data := .seq vs.toArray } (.lst (ns.map V.int))) b = some u → b = a ∧ u = .frz { cls := .type "list", data := .seq vs.toArray } (.lst (ns.map V.int)) := fun {b u} e => by
      by_cases h : b = a
      · subst h
        rw [upd_same] at e
        cases e
        exact ⟨rfl, rfl⟩
      · rw [upd_ne h] at e
        cases (show (none : Option HO) = some u from e)
    refine main (upd (fun _ => none) a (.frz { cls := .type "list", data := .seq vs.toArray } (.lst (ns.map V.int)))) (fun b => ?_) (.inl (.inr ⟨_, upd_same⟩)) (fun b u e => ?_) fun b u e => ⟨(out e).1, hk⟩
    · by_cases h : b = a
      · subst h
        exact .inr ⟨_, _, upd_same⟩
      · exact .inl (upd_ne h)
    · obtain ⟨rfl, rfl⟩ := out e
      exact ⟨ha, by rw [List.length_map]; exact hl, vs, _, rv, ha⟩
theorem walk_at {l : PySem.W.OpenLaw} {n : Nat} {q : Program} {loose : List Str} {XP : (Str → Option Value) → Heap → Prop} {YP : World → Heap → Prop} {d : DefRec} {x : Str} (hn : l.most = some n) (hn2 : n ≤ sizeLine) (hdf : d.params.defaults = [])
    (F : ∀ (w : World) (mg : Str → Option Value) (fa : Addr) (h : Heap), YP w h → h.Ns mainGlobals mg → mg d.name = some (.ref fa) →
      ∃ (K : PySem.W.Frag) (fd : FuncData) (sp : Sp), K.In h ∧ (∀ (s : Shared) (u : Value), BindsTo s fd ⟨[u], []⟩ [(x, u)]) ∧
        (∀ (H : Hp) (a : Addr) (ns : List Int), ns.length ≤ n → Only H → SqL K H a (ns.map V.int) → sp [.ref a] H (fun v _ => v = .bl true) fun _ _ _ => False) ∧
        ∀ base : Heap, K.In base → base.Ns mainGlobals mg → FnAt l.prog w K mg base fa fd x sp) :
    PySem.W.WalkO q loose XP YP l.row.toRowW d [] (fun f vs => PySem.call f vs) := by
  refine Att.attach_call hn hdf fun w s₀ s₁ mg mb fa o pm cd doc a vs ns G Y ho hd hcd hmg hobj hints hlen hg => ?_
  obtain ⟨K, fd, sp, KX, hb, hsp, hF⟩ := F w mg fa _ Y G.T.g hmg
  exact law_at KX G.T.g G.T.b G.T.builtins G.T.nolimit hg hobj hints (Nat.le_trans hlen hn2) hF hb fun H hO hS => hsp H a ns hlen hO hS
end
end Lk

set_option autoImplicit false
set_option linter.all false
set_option Elab.async false
set_option maxRecDepth 100000
set_option maxHeartbeats 2000000
/-! t[::-1] of a tuple -/
namespace Lk
open PySem PySem.Spec PyProof.Rows L2 Dx
section
variable {prog : Program} {w : World} {A : Around} {E : Value → Shared → Prop} {s : Shared}
theorem places_down (n : Nat) : Builtin.Slice.slicePlaces ((n : Int) - 1) (-1) (-1) = n := by
  unfold Builtin.Slice.slicePlaces
  rw [if_neg (by decide)]
  by_cases h : ((n : Int) - 1) > -1
  · rw [if_pos h, show (-(-1) : Int) = 1 by decide, Int.ediv_one]
    omega
  · rw [if_neg h]
    omega
theorem applied_down {sl : Addr} {vl vu vs : Value} {n : Nat} {Q : Int × Int × Nat → Shared → Prop} (hs : s.heap.IsSliceOf sl vl vu vs) (pl : IsPart vl none) (pu : IsPart vu none) (ps : IsPart vs (some (-1))) (h : Q ((n : Int) - 1, -1, n) s) :
    wpAny (model prog w) A (Builtin.Slice.sliceApplied (.ref sl) (pure (n : Int))) Q E s := by
  obtain ⟨os, hos, hcs, hds⟩ := id hs
  unfold Builtin.Slice.sliceApplied Builtin.Slice.sliceFields
  refine wpAny_bind (wpAny_bind (wpAny_field hos hds (x := vl) rfl (wpAny_bind (wpAny_field hos hds (x := vu) rfl (wpAny_bind (wpAny_field hos hds (x := vs) rfl (wpAny_pure ?_)))))))
  refine wpAny_bind (HT.slicePart_ ps ?_)
  show wpAny _ _ (if ((-1 : Int) == 0) = true then _ else _) _ _ s
  rw [if_neg (by decide)]
  refine wpAny_bind (HT.slicePart_ pl (wpAny_bind (HT.slicePart_ pu (wpAny_bind (wpAny_pure ?_)))))
  show wpAny _ _ (pure ((n : Int) - 1, (-1 : Int), Builtin.Slice.slicePlaces ((n : Int) - 1) (-1) (-1))) _ _ s
  rw [places_down]
  exact wpAny_pure h
theorem pick_down (xs : List Value) : (List.range xs.length).filterMap (fun (k : Nat) => xs[((xs.length : Int) - 1 + (k : Int) * (-1)).toNat]?) = xs.reverse := by
  apply List.ext_getElem?
  intro i
  have e : ∀ k, k < xs.length → xs[((xs.length : Int) - 1 + (k : Int) * (-1)).toNat]? = some (xs.reverse[k]?.getD Value.none) := fun k hk => by
    rw [List.getElem?_reverse hk, show ((xs.length : Int) - 1 + (k : Int) * (-1)).toNat = xs.length - 1 - k by omega, List.getElem?_eq_getElem (show xs.length - 1 - k < xs.length by omega)]
    rfl
  have e2 : (List.range xs.length).filterMap (fun (k : Nat) => xs[((xs.length : Int) - 1 + (k : Int) * (-1)).toNat]?) = (List.range xs.length).map fun k => xs.reverse[k]?.getD Value.none := by
    have : ∀ l : List Nat, (∀ k ∈ l, k < xs.length) → l.filterMap (fun (k : Nat) => xs[((xs.length : Int) - 1 + (k : Int) * (-1)).toNat]?) = l.map fun k => xs.reverse[k]?.getD Value.none := by
      intro l
      induction l with
      | nil => intro _; rfl
      | cons a l ih =>
        intro h
        rw [List.filterMap_cons, e a (h a List.mem_cons_self), List.map_cons, ih fun k hk => h k (List.mem_cons_of_mem _ hk)]
    exact this _ fun k hk => List.mem_range.mp hk
  rw [e2, List.getElem?_map]
  by_cases hi : i < xs.length
  · rw [List.getElem?_range hi, Option.map_some]
    rw [List.getElem?_eq_getElem (by rw [List.length_reverse]; exact hi)]
    rfl
  · rw [List.getElem?_eq_none (by rw [List.length_range]; omega), List.getElem?_eq_none (by rw [List.length_reverse]; omega)]
    rfl
theorem getItem_tup_down {t sl : Addr} {items : Array Value} {vl vu vs : Value} {Q : Value → Shared → Prop} (ht : IsTup s.heap t items) (hs : s.heap.IsSliceOf sl vl vu vs) (pl : IsPart vl none) (pu : IsPart vu none) (ps : IsPart vs (some (-1)))
    (h : Q (.ref s.heap.objs.size) { s with heap := s.heap.push { cls := .type "tuple", data := .seq items.toList.reverse.toArray } }) (hsz : items.size ≤ sizeLine) : wpAny (model prog w) A (getItem (.ref t) (.ref sl)) Q E s := by
  have ok : sizeOk (.seq items.toList.reverse.toArray) := by
    show items.toList.reverse.toArray.size ≤ sizeLine
    rw [List.size_toArray, List.length_reverse, Array.length_toList]
    exact hsz
  obtain ⟨os, hos, hcs, hds⟩ := id hs
  have hTs : s.TypeIs (.ref sl) "slice" := ⟨os, hos, hcs⟩
  unfold getItem
  try with_reducible refine wpAny_holding ?_
  first | refine wpAny_bind (wpAny_pure ?_) | skip
  refine wpAny_bind (wpAny_sequenceKey ht.typeIs (by decide) ?_)
  refine wpAny_bind (wpAny_callSpecial?_slot (name := Str.ofString "__getitem__") ht.typeIs PyProof.Rows.slot_tuple_getitem
    (wpAny_call_entry PyProof.Rows.slot_tuple_getitem ht.typeIs entry_tuple_getitem ?_ (args_tuple_getitem _ _)))
  show wpAny _ _ (Builtin.Tuple.tupleItemsOf (.ref t) >>= _) _ _ s
  refine wpAny_bind (PyProof.Rows.tupleItemsOf_ ht ?_)
  refine wpAny_bind (wpAny_typeOf hTs ?_)
  rw [if_pos (by decide)]
  refine wpAny_bind (applied_down hs pl pu ps ?_)
  have no : ¬ ((((items.size : Int) - 1) == 0 && (-1 : Int) == 1 && items.size == items.size) = true) := by
    intro q
    rw [Bool.and_eq_true, Bool.and_eq_true] at q
    exact absurd (eq_of_beq q.1.2) (by decide)
  show wpAny _ _ (if (((items.size : Int) - 1) == 0 && (-1 : Int) == 1 && items.size == items.size) = true then _ else _) _ _ s
  rw [if_neg no]
  have e : ((List.range items.size).filterMap fun (k : Nat) => items[((items.size : Int) - 1 + (k : Int) * (-1)).toNat]?).toArray = items.toList.reverse.toArray := by
    have := pick_down items.toList
    rw [Array.length_toList] at this
    rw [← this]
    congr 1
    congr 1
    funext k
    rw [Array.getElem?_toList]
  rw [e]
  first
    | exact wpAny_bind (m := Builtin.Tuple.tupleExact _) (wpAny_newObj_type (wpAny_pure ⟨_, rfl, wpAny_pure h⟩) ok)
    | exact wpAny_bind (m := Builtin.Tuple.tupleExact _) (wpAny_newObj_type (wpAny_bind (wpAny_pure (wpAny_pure ⟨_, rfl, wpAny_pure h⟩))) ok)
    | exact wpAny_bind (wpAny_bind (m := Builtin.Tuple.tupleExact _) (wpAny_newObj_type (wpAny_pure (wpAny_pure ⟨_, rfl, wpAny_pure h⟩)) ok))
    | exact wpAny_bind (wpAny_bind (m := Builtin.Tuple.tupleExact _) (wpAny_newObj_type (wpAny_pure ⟨_, rfl, wpAny_pure h⟩) ok))
end
section
variable {X : Cx} {W : WX} {G : Type} {Γ : GInt G}
def tRevT (K : PySem.W.Frag) (te : TE) : TE := fun σ H Q => te σ H fun x H1 => ∃ a xs, x = .ref a ∧ SqT K H1 a xs ∧ ∀ p, H1 p = none → Q (.ref p) (upd H1 p (.tup xs.reverse))
theorem pe_revT {e : Expr} {te : TE} {k : Nat} {p1 p2 p3 pos : Pos} (he : PE X e te) : PE X (.Subscript e (.Slice none none (some (.UnaryOp .USub (.Constant (.int 1) k p1) p2)) p3) pos) (tRevT X.K te) := by
  refine ⟨fun pins s σ H Q I h => ?_⟩
  refine Subscript_ (thn (he.run pins s σ H _ I h) fun v s1 ⟨x, H1, I1, r1, q1⟩ => ?_)
  obtain ⟨a, xs, ex, hx, q⟩ := q1
  subst ex
  cases r1
  have hst : PO X (some (.UnaryOp .USub (.Constant (.int 1) k p1) p2)) (tPart (tUn (rU fun i => .int (-i)) (tC (.int 1)))) := po_some (pe_un un_neg pe_int)
  refine wpAny_Slice (thn (po_none.run pins s1 σ H1 (fun o H2 => o = none ∧ H2 = H1) I1 ⟨rfl, rfl⟩) fun vl s2 ⟨l, H2, I2, pl, el, e2⟩ => ?_)
  subst el e2
  refine thn (po_none.run pins s2 σ H2 (fun o H3 => o = none ∧ H3 = H2) I2 ⟨rfl, rfl⟩) fun vu s3 ⟨u, H3, I3, pu, eu, e3⟩ => ?_
  subst eu e3
  refine thn (hst.run pins s3 σ H3 (fun o H4 => o = some (-1) ∧ H4 = H3) I3 ⟨1, rfl, -1, rfl, rfl, rfl⟩) fun vs s4 ⟨o, H4, I4, ps, eo, e4⟩ => ?_
  subst eo e4
  have I5 : Inv X pins σ H4 { s4 with heap := s4.heap.push { cls := .type "slice", data := .fields #[vl, vu, vs] } } := I4.kept (t' := s4.toks) fun b ob q => Heap.get?_push_of_some _ q
  obtain ⟨its, r, ht, hz⟩ := I5.tuple hx
  have hlen := r.length
  show wpAny (model X.prog X.w) X.A (subscriptTail e (.Slice none none (some (.UnaryOp .USub (.Constant (.int 1) k p1) p2)) p3) (.ref a) (.ref s4.heap.objs.size)) (EP X pins σ Q) X.xe { s4 with heap := s4.heap.push { cls := .type "slice", data := .fields #[vl, vu, vs] } }
  refine tail_any (ops := [.ref a, .ref s4.heap.objs.size]) ht.typeIs (PySem.F.slot_tuple_getitem.lookup) ?_ (by with_unfolding_all rfl)
  refine getItem_tup_down ht (Heap.IsSliceOf.new _ vl vu vs) pl pu ps ?_ (by rw [List.size_toArray]; omega)
  refine ⟨.ref _, _, I5.laid (t' := s4.toks) (o := .tup xs.reverse) (fun b ob q => Heap.get?_push_of_some _ q) (Nat.le_refl _) ?_, rfl, q _ (I5.hok.fresh (Nat.le_refl _))⟩
  exact ⟨by rw [List.length_reverse]; exact hz, _, r.reverse, ⟨_, Heap.get?_push_size _ rfl, rfl, _, rfl⟩⟩
theorem d_revT {e : Expr} {f : DE G} {k : Nat} {p1 p2 p3 pos : Pos} (he : PE X e (liftE X.K Γ W f)) : PE X (.Subscript e (.Slice none none (some (.UnaryOp .USub (.Constant (.int 1) k p1) p2)) p3) pos) (liftE X.K Γ W (dRevT f)) :=
  (pe_revT he).imp fun σ H Q ⟨C, l, g, R, ex, q, r, h, k, kx⟩ => by
    refine ⟨C, l, g, R, ex, _, r, h, fun x H1 R1 d l1 g1 s1 r1 z1 h1 => ?_, kx⟩
    split at h1
    · cases z1 with
      | tup e zs =>
        refine ⟨_, _, rfl, SqT.of (r1.sub _ _ e), fun p hp => ?_⟩
        obtain ⟨r2, s2, z2⟩ := r1.newT hp (reps_rev zs)
        exact k _ _ _ _ l1 g1 (s1.trans s2) r2 z2 h1
    · exact h1.elim
end
end Lk

set_option autoImplicit false
set_option linter.all false
set_option Elab.async false
set_option maxRecDepth 100000
set_option maxHeartbeats 2000000
/-! an own dict, lent to a def for the time of the call -/
namespace Lk
open PySem PySem.Spec PyProof.Rows L2 Dx
def tVars : List Nat → TA
  | [] => tNil
  | j :: js => tCons (tVar j) (tVars js)
section
variable {K : Fg} {R : Hp} {a : Addr}
mutual
theorem rep_del {o : HO} (h : R a = some o) (n1 : ∀ vs, o ≠ .tup vs) (n2 : ∀ vs, o ≠ .lst vs) : ∀ {d : D} {v : V}, Rep K R v d → pla d = true → Rep K (delR R a) v d
  | _, _, .non, _ => .non
  | _, _, .bl b, _ => .bl b
  | _, _, .int i, _ => .int i
  | _, _, .str x, _ => .str x
  | _, _, .tup (a := b) e q, p => by
    have hb : b ≠ a := fun z => by
      rw [z, h] at e
      cases e
      exact n1 _ rfl
    exact .tup ((if_neg hb).trans e) (reps_del h n1 n2 q (by simpa only [pla] using p))
  | _, _, .lst (a := b) e q, p => by
    have hb : b ≠ a := fun z => by
      rw [z, h] at e
      cases e
      exact n2 _ rfl
    exact .lst ((if_neg hb).trans e) (reps_del h n1 n2 q (by simpa only [pla] using p))
  | _, _, .kt e q, p => .kt e (reps_del h n1 n2 q (by simpa only [pla] using p))
  | _, _, .ref _, p => by simp [pla] at p
  | _, _, .ty _, p => by simp [pla] at p
  | _, _, .dic _ _, p => by simp [pla] at p
  | _, _, .diT _ _, p => by simp [pla] at p
  | _, _, .obj _ _ _, p => by simp [pla] at p
theorem reps_del {o : HO} (h : R a = some o) (n1 : ∀ vs, o ≠ .tup vs) (n2 : ∀ vs, o ≠ .lst vs) : ∀ {ds : List D} {vs : List V}, Reps K R vs ds → plas ds = true → Reps K (delR R a) vs ds
  | _, _, .nil, _ => .nil
  | _, _, .cons e q, p => by
    rw [plas, Bool.and_eq_true] at p
    exact .cons (rep_del h n1 n2 e p.1) (reps_del h n1 n2 q p.2)
end
end
section
variable {G : Type} {Γ : GInt G} {K : Fg} {X : Cx} {W : WX}
theorem vars_run {C : Fx} {l : L} {g : G} {σ : L2.St} {R H R1 : Hp} (r : Rel K Γ C l g σ R H) {i : Nat} {a : Addr} {d0 : D} (hi : l[i]? = some (.ow d0)) (ha : σ[i]? = some (some (.ref a))) (s1 : Sub R R1) (z : Rep K R1 (.ref a) d0) :
    ∀ (js : List Nat) (ds : List D), getAs l js = some ds → (∀ j ∈ js, j = i ∨ isVa l j) → ∃ vs, Reps K R1 vs ds ∧ ∀ P : List V → Hp → Prop, P vs H → tVars js σ H P
  | [], ds, e, _ => by
    cases e
    exact ⟨[], .nil, fun P h => h⟩
  | j :: js, ds, e, hv => by
    unfold getAs at e
    split at e
    · rename_i d ds2 e1 e2
      cases e
      obtain ⟨vs, zs, run⟩ := vars_run r hi ha s1 z js ds2 e2 fun j hj => hv j (List.mem_cons_of_mem _ hj)
      rcases hv j List.mem_cons_self with rfl | hva
      · have : d = d0 := by
          unfold getA at e1
          rw [hi] at e1
          exact (Option.some.inj e1).symm
        subst this
        exact ⟨_, .cons z zs, fun P h => ⟨_, ha, run _ h⟩⟩
      · unfold isVa at hva
        split at hva
        · rename_i d2 hl
          have : d = d2 := by
            unfold getA at e1
            rw [hl] at e1
            exact (Option.some.inj e1).symm
          subst this
          obtain ⟨v, ev, zv⟩ := r.va j d hl
          exact ⟨_, .cons (zv.mono s1) zs, fun P h => ⟨_, ev, run _ h⟩⟩
        · exact hva.elim
    · cases e
theorem callN_run {c : Ct G} {js : List Nat} {i : Nat} {σ : L2.St} {H : Hp} {Q : VK} (h : liftE K Γ W (dCallN c js i) σ H Q) : tCallS (liftC K Γ c) (WE W) (tVars js) σ H Q := by
  obtain ⟨C, l, g, R, ex, q, rl, h, k, kx⟩ := h
  obtain ⟨d0, e0, h⟩ := getO_ex h
  split at h
  · rename_i t kvs
    obtain ⟨ds, eds, hva, hc⟩ := h
    obtain ⟨a, ea, z, n1, n2, n3⟩ := rl.ow i _ e0
    obtain ⟨o, eo, zr, m1, m2⟩ : ∃ o, H a = some o ∧ (∀ R1, Sub R R1 → R1 a = some o → Rep K R1 (.ref a) (.dic t kvs)) ∧ (∀ vs, o ≠ .tup vs) ∧ ∀ vs, o ≠ .lst vs := by
      cases t with
      | false =>
        obtain ⟨w, e, zz⟩ := z
        exact ⟨_, e, fun R1 s e1 => .dic e1 (zz.mono s), fun vs e => (by cases e), fun vs e => (by cases e)⟩
      | true =>
        obtain ⟨w, e, zz⟩ := z
        exact ⟨_, e, fun R1 s e1 => .diT e1 (zz.mono s), fun vs e => (by cases e), fun vs e => (by cases e)⟩
    have s1 : Sub R (upd R a o) := Sub.new n1
    have sH : Sub (upd R a o) H := fun b u e => by
      by_cases hb : b = a
      · subst hb
        rw [upd_same] at e
        cases e
        exact eo
      · rw [upd_ne hb] at e
        exact rl.sub b u e
    obtain ⟨vs, zs, run⟩ := vars_run rl e0 ea s1 (zr _ s1 upd_same) js ds eds hva
    refine run _ ⟨ds, upd R a o, g, _, _, zs, sH, rl.gat, fun b hb => ?_, hc, fun v H' R' d g' s sH2 kp nw at' fr zv hq => ?_, fun _ _ _ _ _ _ _ _ _ _ _ _ _ hq => hq.elim⟩
    · have ne : b ≠ a := fun e => n3 (by rw [← e]; exact hb)
      rw [upd_ne ne]
      exact (rl.gfr b hb).1
    · obtain ⟨hp, hQ⟩ := hq
      have ra : R' a = some o := s a o upd_same
      have sD : Sub R (delR R' a) := fun b u e => by
        have hb : b ≠ a := fun z => by rw [z, n1] at e; cases e
        exact (if_neg hb).trans (s b u (s1 b u e))
      have dsub : ∀ b u, delR R' a b = some u → b ≠ a ∧ R' b = some u := fun b u e => by
        by_cases hb : b = a
        · rw [show delR R' a b = none from if_pos hb] at e
          cases e
        · exact ⟨hb, (if_neg hb).symm.trans e⟩
      refine k v H' (delR R' a) d l g' sD (rl.behind sD (fun b u e => sH2 b u (dsub b u e).2) kp (fun b hb => ?_) at' fun b hb => ⟨?_, (fr b hb).2⟩) (rep_del ra m1 m2 zv hp) hQ
      · cases e : delR R' a b with
        | none => exact absurd e hb
        | some u =>
          obtain ⟨ne, e2⟩ := dsub b u e
          rcases nw b (by rw [e2]; simp) with y | y
          · rw [upd_ne ne] at y
            exact .inl y
          · exact .inr y
      · by_cases hb2 : b = a
        · exact if_pos hb2
        · exact (if_neg hb2).trans (fr b hb).1
  · exact h.elim
end
section
variable {X : Cx} {W : WX}
theorem pa_vars_nil : PA X [] (tVars []) := pa_nil
theorem pa_vars {e : Expr} {es : List Expr} {j : Nat} {js : List Nat} (h : PE X e (tVar j)) (hr : PA X es (tVars js)) (hs : starEach (e :: es) X.env = (false, eval e X.env) :: starEach es X.env := by rfl) : PA X (e :: es) (tVars (j :: js)) := pa_cons h hr hs
theorem d_callN {c : Ct Gm} {js : List Nat} {i k : Nat} {ps : List Str} {x : Str} {p pos : Pos} {e : Expr} {es : List Expr} (F : Okd X.prog X.w X.K X.mg X.base k x ps c) (tk : L2N.Takes X W) (hr : Room k X.A) (hg : Gl X x)
    (ha : PA X (e :: es) (tVars js)) (hdb : (x == ("__debug__" : Str)) = false := by decide)
    (he : starEach (e :: es) X.env = (false, eval e X.env) :: starEach es X.env := by rfl) (hpl : (backTo pos (starEach es X.env)).any (·.1) = false := by rfl) : PE X (.Call (.Name x p) (e :: es) [] pos) (liftE X.K (gint X.K) W (dCallN c js i)) := by
  obtain ⟨fd, F1, B, kp, hm, _⟩ := F
  exact (pe_callS F1 hr hg hm kp B (L2N.passAt tk) ha hdb he hpl).imp fun _ _ _ h => callN_run h
/-- f() -/
theorem d_callK0 {c : Ct Gm} {k : Nat} {ps : List Str} {x : Str} {p pos : Pos} (F : Okd X.prog X.w X.K X.mg X.base k x ps c) (tk : L2N.Takes X W) (hr : Room k X.A) (hg : Gl X x) (hdb : (x == ("__debug__" : Str)) = false := by decide) :
    PE X (.Call (.Name x p) [] [] pos) (liftE X.K (gint X.K) W (dCall c aNil)) := by
  obtain ⟨fd, F1, B, kp, hm, _⟩ := F
  refine ⟨fun pins s σ H Q I h => ?_⟩
  have h2 := call_run h
  obtain ⟨C, l, g, R, ex, q, rl, h3, k3, kx⟩ := h2
  have h4 := k3 [] H R [] l g (Sub.refl R) rl .nil h3
  exact wpAny_Call_Name_kw (ld_glob I hg hm (PySem.W.callWith_K0 I.kIn kp (run_fnS (us := []) (vs := []) F1 hr B (L2N.passAt tk σ) I .nil h4)) hdb)
end
end Lk

set_option autoImplicit false
set_option linter.all false
set_option Elab.async false
set_option maxRecDepth 100000
set_option maxHeartbeats 2000000
/-! lists walked, comprehensions, while an exception is handled -/
namespace Lk
open PySem PySem.Spec PyProof.Rows L2 L2H Dx HotX
section
variable {prog : Program} {w : World} {A : Around} {E : Value → Shared → Prop} {s : Shared}
/-- a list's iterator has ended, an exception being handled -/
theorem next_list_end_hot {it l x1 : Addr} {i : Nat} {items : Array Value} {Q : Option Value → Shared → Prop} (hot : HotAt A x1 s.heap) (hit : s.heap.IsListIter it l i) (hl : s.heap.IsList l items) (hx : items[i]? = none)
    (hQ : ∀ h', Heap.ExtBut it s.heap h' → Q none { s with heap := h' }) : wpAny (model prog w) A (pyNext (.ref it)) Q E s := by
  obtain ⟨hh, o1, vs1, h1, d1, c1⟩ := hot
  obtain ⟨o, ho, hc, hd⟩ := id hit
  obtain ⟨ol, hol, _, nl, hdl⟩ := hl
  have ne : x1 ≠ it := fun e => by
    subst e
    rw [ho] at h1
    cases h1
    rw [hd] at d1
    cases d1
    cases c1
  unfold pyNext
  refine wpAny_bind (wpAny_attempt (wpAny_callSpecial?_slot (name := Str.ofString "__next__") hit.typeIs slot_listiter_next
    (wpAny_call_entry slot_listiter_next hit.typeIs entry_listiter_next ?_ (args_listiter_next _))))
  show wpAny _ _ (field (.ref it) 0 >>= _) _ _ s
  refine wpAny_bind (wpAny_field ho hd (x := .ref l) rfl ?_)
  show wpAny _ _ (if (Value.ref l == Value.none) = true then _ else _) _ _ s
  rw [if_neg (show ¬ ((Value.ref l == Value.none) = true) from Bool.false_ne_true)]
  show wpAny _ _ (field (.ref it) 1 >>= _) _ _ s
  refine wpAny_bind (wpAny_field ho hd (x := .int i 0) rfl ?_)
  show wpAny _ _ (seqItems? (.ref l) >>= _) _ _ s
  refine wpAny_bind (wpAny_seqItems hol hdl ?_)
  simp only [Int.toNat_natCast, hx]
  refine wpAny_bind (wpAny_rule (wpAny_bind (wpAny_setField ho hd (by simp) ?_)))
  show wpAny _ _ (newExc (.type "StopIteration") [] >>= _) _ _ _
  refine wpAny_bind ?_
  simp only [newExc, newTuple]
  refine wpAny_bind (wpAny_newObj_type ?_ (by size_fits))
  refine wpAny_bind (m := firstArgMember _ _) (wpAny_of_eq (a := Value.none) (by first | rfl | (simp only [firstArgMember]; rfl)) ?_)
  refine wpAny_newObj_type ?_ (by size_fits)
  have g1 : (s.heap.update it (Obj.mapFields (·.setIfInBounds 0 .none))).get? x1 = some o1 := by
    rw [Heap.get?_update_other _ _ ne.symm]
    exact h1
  refine raiseNew_hot ⟨hh, o1, vs1, Heap.get?_push_of_some _ (Heap.get?_push_of_some _ g1), d1, c1⟩ (Nat.ne_of_lt (Heap.lt_size (Heap.get?_push_of_some _ g1))) (Heap.get?_push_size _ rfl) rfl (by first | (simp; done) | (simp; omega) | (simp only [Array.size_append]; simp; omega)) ?_
  refine wpAny_bind (wpAny_isInstance (T := "StopIteration") (b := true) ⟨_, Heap.get?_update_self _ (Heap.get?_push_size _ rfl) rfl, rfl⟩ isSubtype_stop ?_)
  refine wpAny_pure (hQ _ fun b u nb e => ?_)
  have e2 : (s.heap.update it (Obj.mapFields (·.setIfInBounds 0 .none))).get? b = some u := by
    rw [Heap.get?_update_other _ _ (Ne.symm nb)]
    exact e
  rw [Heap.get?_update_other _ _ (Nat.ne_of_gt (Heap.lt_size (Heap.get?_push_of_some _ e2)))]
  exact Heap.get?_push_of_some _ (Heap.get?_push_of_some _ e2)
end
theorem turn_listH {P : Program} {w : World} {K : PySem.W.Frag} {tg : Expr} (a it : Addr) : TurnH P w K tg (Itl K a) [it] it (fun i h => h.IsListIter it a i) where
  mem := by simp
  obj := fun i h st b hb => by
    have e : b = it := by simpa using hb
    subst e
    obtain ⟨o, e, c, d⟩ := st
    exact ⟨o, e, fun v z => by rw [d] at z; cases z⟩
  keep := fun i h h' st k => st.at fun o e => k it (by simp) o e
  item := by
    intro X hP hw hK hc i pins s σ H E I hf st hg
    subst hP hw hK
    obtain ⟨xs, x, hq, hx⟩ := hg
    obtain ⟨its, rv, p, hz⟩ := I.list hq
    obtain ⟨u, hu, ru⟩ := rv.get hx
    obtain ⟨f0, f1, f2, f3, f4, f5⟩ := hf it (by simp)
    refine wpAny_pyNext_list_item st p.isList (x := u) (by simpa using hu) fun h' st' sb => ?_
    have I1 : Inv X pins σ H { s with heap := h' } := I.turned (t' := s.toks) (fun b o hb e => (sb.2 b hb).trans e) f0 f1 f3 f4 f5
    obtain ⟨o, e, c, d⟩ := id st'
    exact ⟨u, rfl, go_of (s := { s with heap := h' }) e c d (by decide) ⟨x, H, I1, ru, ⟨rfl, fun ys hy => by rw [I.list_inj hy hq]; exact hx⟩, st', fun b hb => (hf b hb).1⟩⟩
  done := by
    intro X hP hw hK hc i pins s σ H E I hf st hg
    subst hP hw hK
    obtain ⟨xs, hq, hx⟩ := hg
    obtain ⟨its, rv, p, hz⟩ := I.list hq
    obtain ⟨f0, f1, f2, f3, f4, f5⟩ := hf it (by simp)
    have hl := rv.length
    obtain ⟨x1, hot⟩ := hc.at I
    exact next_list_end_hot hot st p.isList (by simp; omega) fun h' eb => ⟨rfl, I.turned (t' := s.toks) (fun b o hb e => eb b o hb e) f0 f1 f3 f4 f5⟩
  self := fun _ _ _ _ _ st h => wpAny_pyIter_listiter st h
/-- the list of a name, walked there -/
theorem pi_listH {X : Cx} {tg e : Expr} {te : TE} (he : PE X e te) : PIH X tg e (iList X.K te) := by
  refine ⟨fun pins s σ H R I h => thn (he.run pins s σ H _ I h) fun u s1 ⟨x, H1, I1, r1, a, e, ⟨xs, hq⟩, q⟩ => ?_⟩
  subst e
  cases r1
  obtain ⟨its, rv, p, hz⟩ := I1.list hq
  refine wpAny_pyIter_list p.isList ?_
  refine ⟨s1.heap.objs.size, [s1.heap.objs.size], _, _, H1, rfl, I1.kept (t' := s1.toks) fun b o e => Heap.get?_push_of_some _ e, turn_listH a _, ⟨_, Heap.get?_push_size _ rfl, rfl, rfl⟩, fun b hb => ?_, q⟩
  have e : b = s1.heap.objs.size := by simpa using hb
  subst e
  exact I1.fpOk (Nat.le_refl _) (I1.hok.fresh (Nat.le_refl _))
/-- a comprehension's block, with what is pinned -/
abbrev blkP (X : Cx) (s : Shared) (H : Hp) (scope : Scope) (cenv : Env) (fp : List Addr) (p : Addr × Obj) : Cx := { X.blk s H scope cenv fp with pn := [p] }
section
variable {X : Cx} {pins : List (Addr × Obj)} {σ : L2.St} {H : Hp} {s : Shared}
theorem pin_blk {s0 : Shared} {H0 : Hp} {scope : Scope} {cenv : Env} {fp : List Addr} {p : Addr × Obj} (I : Inv (X.blk s0 H0 scope cenv fp) [] σ H s) (h : s.heap.get? p.1 = some p.2 ∧ H p.1 = none ∧ p.1 ≠ cenv.locals ∧ p.1 ∉ (X.blk s0 H0 scope cenv fp).fs ∧ ∀ v, p.2.data ≠ .cell v) :
    Inv (blkP X s0 H0 scope cenv fp p) [] σ H s := by
  obtain ⟨ok, os, bare, base, loc, cell, free, freeC, pin, hok, len⟩ := I
  refine ⟨?_, os, bare, base, loc, cell, free, freeC, fun q hq => ?_, hok, len⟩
  · obtain ⟨a1, a2, a3, a4, a5, a6, a7, a8, a9, a10, a11, a12, a13, a14, a15, a16, a17, a18⟩ := ok
    exact ⟨a1, a2, a3, a4, a5, a6, a7, a8, a9, a10, a11, a12, a13, a14, a15, a16, a17, a18⟩
  · cases List.mem_singleton.mp (show q ∈ [p] by simpa using hq)
    exact h
/-- [elt for tg in iter if ..], an exception being handled -/
theorem pe_lcH {elt tg iter : Expr} {ifs : List Expr} {scope : Scope} {own : List (Str × Nat)} {pos : Pos} {wi : TI} {g : TG} {tt : TT} {te : TE} {p : Addr × Obj} (hot : Hot1 X.A p) (hm : p ∈ X.pn) (hN : X.N.Nodup) (hi : PIH X tg iter wi) (ok : BlkOk X.N X.env.scope scope own)
    (hg : ∀ (s : Shared) (H : Hp) (C : Addr) (cl : List (Str × Addr)) (fp : List Addr), PG (blkP X s H scope (compEnvC scope cl C X.env) fp p) tg g)
    (ht : ∀ (s : Shared) (H : Hp) (C : Addr) (cl : List (Str × Addr)) (fp : List Addr), PTs (blkP X s H scope (compEnvC scope cl C X.env) fp p) ifs tt)
    (he : ∀ (s : Shared) (H : Hp) (C : Addr) (cl : List (Str × Addr)) (fp : List Addr), PE (blkP X s H scope (compEnvC scope cl C X.env) fp p) elt te) (hs : ∀ x, foldedSetIterable iter X.env x = pure x := by intro _; rfl) :
    PE X (.ListComp elt [⟨tg, iter, ifs, 0⟩] scope pos) (tLc wi g tt te (own.map (·.2))) := by
  refine ⟨fun pins s σ H Q I h => ?_⟩
  rw [eval_ListComp]
  have free : ∀ y ∈ scope.names, y.2 = .free → ∃ c, X.env.cells.lookup y.1 = some c := fun y hy e => by
    rcases ok.free y hy e with k | k
    · exact I.ok.has _ (.inl k)
    · exact I.ok.has _ (.inr k)
  refine wpAny_comprehension_free (use := none) rfl hs (closure_ok free) ok.kind (fun y hy e => by rw [ok.uniq y hy, e]) (thn (hi.run pins s σ H _ I h) fun xv s1 hx => thn hx fun itv s2 h2 => ?_)
  obtain ⟨it, fp, tn, J, H2, rfl, I2, T, st2, f2, q⟩ := h2
  refine wpAny_newObj_type (newEnv_comp ?_) (by show 0 ≤ sizeLine; decide)
  generalize hD : s2.heap.objs.size = D
  obtain ⟨Wm, ⟨m0, w0⟩, turn⟩ := q D (I2.hok.fresh (Nat.le_of_eq hD))
  generalize hs3 : ({ s2 with heap := s2.heap.push { cls := .type "list", data := .seq ([] : List Value).toArray } } : Shared) = s3
  have I3 : Inv X pins σ (upd H2 D (.lst [])) s3 := by
    rw [← hs3]
    refine I2.laid (t' := s2.toks) (fun b o e => Heap.get?_push_of_some _ e) (Nat.le_of_eq hD) ⟨Nat.zero_le _, [], 0, .nil, ?_⟩
    rw [← hD]
    exact Heap.get?_push_size _ rfl
  have h3 : s3.heap = s2.heap.push { cls := .type "list", data := .seq ([] : List Value).toArray } := by rw [← hs3]
  have f3 : ∀ b ∈ fp, FpOk X pins (upd H2 D (.lst [])) b ∧ b < s3.heap.objs.size := fun b hb => by
    obtain ⟨o, e, _⟩ := T.obj _ _ st2 b hb
    have lt := Heap.lt_size e
    refine ⟨⟨?_, (f2 b hb).2⟩, by rw [h3, Heap.size_push]; exact Nat.lt_succ_of_lt lt⟩
    rw [upd_ne (by rw [← hD]; exact Nat.ne_of_lt lt)]
    exact (f2 b hb).1
  have st3 : tn 0 s3.heap := T.keep _ _ _ st2 fun b _ o e => by rw [h3]; exact Heap.get?_push_of_some _ e
  obtain ⟨pg, pf, pl, ps, pc⟩ := I3.pin p (List.mem_append_left _ hm)
  have I4 := pin_blk (p := p) (block_start I3 ok hN f3) ⟨pushCells_keeps _ _ _ _ (Heap.get?_push_of_some _ pg), pf, Nat.ne_of_lt (Heap.lt_size pg), fun z => by
    rcases List.mem_cons.mp (I3.stkSub _ z) with z | z
    · exact pl z
    · exact ps z, pc⟩
  have bg := hg s3 (upd H2 D (.lst [])) s3.heap.objs.size (cellsFrom (s3.heap.objs.size + 1) scope.names (cloFrom X.env.cells scope.names [])) fp
  have bt := ht s3 (upd H2 D (.lst [])) s3.heap.objs.size (cellsFrom (s3.heap.objs.size + 1) scope.names (cloFrom X.env.cells scope.names [])) fp
  have be := he s3 (upd H2 D (.lst [])) s3.heap.objs.size (cellsFrom (s3.heap.objs.size + 1) scope.names (cloFrom X.env.cells scope.names [])) fp
  show codeAny _ _ (.compStart (.ListComp elt [⟨tg, iter, ifs, 0⟩] scope pos) 0 (.ref it) (.ref D) (compEnvC scope (cellsFrom (s3.heap.objs.size + 1) scope.names (cloFrom X.env.cells scope.names [])) s3.heap.objs.size X.env)) (compPost (model X.prog X.w) X.A X.xe none (EP X pins σ Q) (.ref D) s3.heap.objs.size) { s3 with heap := pushCells (s3.heap.push { cls := .type "dict", data := .dict #[] }) scope.names }
  have nfp : ∀ b ∈ fp, (upd H2 D (.lst [])) b = none := fun b hb => (f3 b hb).1.1
  have pne : ∀ b ∈ fp, p.1 ≠ b := fun b hb => (f2 b hb).2.2.2.2.2 p (List.mem_append_left _ hm)
  generalize hce : compEnvC scope (cellsFrom (s3.heap.objs.size + 1) scope.names (cloFrom X.env.cells scope.names [])) s3.heap.objs.size X.env = ce at I4 bg bt be ⊢
  have cL : ce.locals = s3.heap.objs.size := by subst hce; rfl
  generalize hH3 : upd H2 D (.lst []) = H3 at I3 I4 bg bt be w0 nfp f3
  generalize hs4 : ({ s3 with heap := pushCells (s3.heap.push { cls := .type "dict", data := .dict #[] }) scope.names } : Shared) = s4 at I4 ⊢
  have st4 : tn 0 s4.heap := T.keep _ _ _ st3 fun b _ o e => by rw [← hs4]; exact pushCells_keeps _ _ _ _ (Heap.get?_push_of_some _ e)
  have hotB : HotC (blkP X s3 H3 scope ce fp p) := ⟨p, hot, List.mem_singleton.mpr rfl⟩
  have stay : ∀ {σ' : L2.St} {H' : Hp} {s' : Shared}, Inv (blkP X s3 H3 scope ce fp p) [] σ' H' s' → (∀ b ∈ fp, H' b = none) → ∀ b ∈ fp, FpOk (blkP X s3 H3 scope ce fp p) [] H' b := fun {σ' H' s'} I' hn b hb =>
    ⟨hn b hb, (I'.ok.exf b hb).1, I'.ok.exfs b hb, .inl hb, fun x c e => (I'.ok.exf b hb).2 x c e, fun q hq => by
      cases List.mem_singleton.mp (show q ∈ [p] by simpa using hq)
      exact pne b hb⟩
  have loop : codeAny (model X.prog X.w) X.A (.compLoop (.ListComp elt [⟨tg, iter, ifs, 0⟩] scope pos) 0 (.ref it) (.ref D) ce) (compPost (model X.prog X.w) X.A X.xe none (EP X pins σ Q) (.ref D) s3.heap.objs.size) s4 := by
    refine compLoop_any (fun n s' => ∃ i H', Inv (blkP X s3 H3 scope ce fp p) [] (wipe σ (own.map (·.2))) H' s' ∧ tn i s'.heap ∧ (∀ b ∈ fp, H' b = none) ∧ Wm i n H') ?_ m0 ⟨0, H3, I4, st4, nfp, w0⟩
    rintro n s5 ⟨i, H5, I5, st5, n5, w5⟩
    rcases turn i n H5 w5 with ⟨stop, qq⟩ | ⟨go, Nx, hNx, step⟩
    · refine thnF (T.done (blkP X s3 H3 scope ce fp p) rfl rfl rfl hotB i [] s5 _ H5 (fun _ _ => False) I5 (stay I5 n5) st5 stop) fun r s6 ⟨hr, I6⟩ => ?_
      subst hr
      have I7 : Inv X pins σ H5 s6 := I3.call' (ch := fp) I6.os I6.base I6.hok I6.bare fun b hb => ⟨(f3 b hb).1.2.2.2.1, (f3 b hb).1.2.1, (f3 b hb).1.2.2.2.2.1, (f3 b hb).1.2.2.2.2.2⟩
      have nC : H5 s3.heap.objs.size = none := by
        have z : H5 ce.locals = none := I6.free
        rw [cL] at z
        exact z
      obtain ⟨m, hn, _⟩ := I6.loc
      have hn : s6.heap.Ns ce.locals m := hn
      rw [cL] at hn
      obtain ⟨c0, c1, c2, c3, c4, c5⟩ := I3.fpOk (Nat.le_refl _) nC
      exact ⟨m, hn, fun h' sb => ⟨.ref D, H5, I7.turned (t' := s6.toks) (fun b o hb e => (sb.2 b hb).trans e) c0 c1 c3 c4 c5, rfl, qq⟩⟩
    · refine thnF (T.item (blkP X s3 H3 scope ce fp p) rfl rfl rfl hotB i [] s5 _ H5 (fun _ _ => False) I5 (stay I5 n5) st5 go) fun r s6 ⟨u, hr, h6⟩ => ?_
      subst hr
      refine thnF h6 fun _ s7 ⟨x, H7, I7, r7, y7, st7, n7⟩ => ?_
      refine thnF (bg.run _ s7 _ H7 x u _ (I7.pinned (stay I7 n7) (T.obj _ _ st7)) r7 (step x H7 y7)) fun _ s8 ⟨σ8, H8, I8, hw8, q8⟩ => ?_
      refine thnF (bt.run _ s8 σ8 H8 _ I8 q8) fun b s9 ⟨H9, I9, q9⟩ => ?_
      have next : ∀ {s' : Shared} {H' : Hp}, Inv (blkP X s3 H3 scope ce fp p) ([] ++ pinsAt fp s7.heap) σ8 H' s' → Nx H' → ∃ m, m < n ∧ ∃ i H', Inv (blkP X s3 H3 scope ce fp p) [] (wipe σ (own.map (·.2))) H' s' ∧ tn i s'.heap ∧ (∀ b ∈ fp, H' b = none) ∧ Wm i m H' := fun {s' H'} I' nx => by
        obtain ⟨m', hm', w'⟩ := hNx H' nx
        have same : ∀ b ∈ fp, ∀ o, s7.heap.get? b = some o → s'.heap.get? b = some o ∧ H' b = none := fun b hb o e =>
          let z := I'.pin (b, o) (List.mem_append_right _ (List.mem_append_right _ (mem_pinsAt hb e)))
          ⟨z.1, z.2.1⟩
        have hl : (wipe σ (own.map (·.2))).length = σ8.length := by rw [← hw8, wipe_length]
        refine ⟨m', hm', i + 1, H', (I'.unpinned (pins := [])).weak hl (fun j v e => ?_), T.keep _ _ _ st7 fun b hb o e => (same b hb o e).1, fun b hb => ?_, w'⟩
        · rw [← hw8] at e
          exact (wipe_some e).1
        · obtain ⟨o, e, _⟩ := T.obj _ _ st7 b hb
          exact (same b hb o e).2
      cases b with
      | false =>
        simp only [Bool.false_eq_true, if_false] at q9 ⊢
        exact next I9 q9
      | true =>
        simp only [if_true] at q9 ⊢
        refine thnF (be.run _ s9 σ8 H9 _ I9 q9) fun z s10 ⟨yv, H10, I10, r10, acc, hD10, hz10, nx⟩ => ?_
        exact app_ok (X := blkP X s3 H3 scope ce fp p) I10 hD10 hz10 r10 fun s11 I11 => next I11 nx
  exact codeAny_compStart_list loop (T.self X.A 0 _ _ _ st4 loop)
end
section
variable {X : Cx} {W : WX} {G : Type} {Γ : GInt G} {pos : Pos}
theorem hotS {a : Addr} {oe : Obj} {cls : Value} {d : Option Addr} {pn : List (Addr × Obj)} (hz : L2N.Zn cls d oe) (hf : ∃ vs, oe.data = .fields vs) : Hot1 (X.suite a ((a, oe) :: pn)).A (a, oe) := by
  obtain ⟨vs, hv⟩ := hf
  exact ⟨rfl, vs, hv, hz.2.2 vs hv⟩
theorem d_compOH {elt tg : Expr} {x : Str} {p2 : Pos} {j : Nat} {ifs : List Expr} {scope : Scope} {own : List (Str × Nat)} {t : Tg} {c : DT G} {e : DE G} {ws : List Nat} {p : Addr × Obj} (hot : Hot1 X.A p) (hm : p ∈ X.pn) (hN : X.N.Nodup) (hi : PE X (.Name x p2) (tVar j)) (ok : BlkOk X.N X.env.scope scope own)
    (hg : ∀ (s : Shared) (H : Hp) (C : Addr) (cl : List (Str × Addr)) (fp : List Addr), PG (blkP X s H scope (compEnvC scope cl C X.env) fp p) tg (liftG X.K Γ ws t))
    (ht : ∀ (s : Shared) (H : Hp) (C : Addr) (cl : List (Str × Addr)) (fp : List Addr), PTs (blkP X s H scope (compEnvC scope cl C X.env) fp p) ifs (liftT X.K Γ W0 c))
    (he : ∀ (s : Shared) (H : Hp) (C : Addr) (cl : List (Str × Addr)) (fp : List Addr), PE (blkP X s H scope (compEnvC scope cl C X.env) fp p) elt (liftE X.K Γ W0 e)) (hw : ∀ j ∈ ws, j ∈ own.map (·.2)) (hs : ∀ z, foldedSetIterable (.Name x p2) X.env z = pure z := by intro _; rfl) :
    PE X (.ListComp elt [⟨tg, .Name x p2, ifs, 0⟩] scope pos) (liftF X.K Γ W (dCompO j t c e (own.map (·.2)))) := (pe_lcH hot hm hN (pi_listH hi) ok hg ht he hs).imp fun _ _ _ h => compO_run hw h
end
end Lk

set_option autoImplicit false
set_option linter.all false
set_option Elab.async false
set_option maxRecDepth 100000
set_option maxHeartbeats 2000000
/-! comprehensions over a range within an except suite -/
namespace Lk
open PySem PySem.Spec PyProof.Rows L2 L2H Dx HotX
section
variable {X : Cx} {W : WX} {G : Type} {Γ : GInt G} {pos : Pos}
theorem pih_imp {tg e : Expr} {t u : TI} (h : PIH X tg e t) (k : ∀ σ H Q, u σ H Q → t σ H Q) : PIH X tg e u := ⟨fun pins s σ H P I q => h.run pins s σ H P I (k σ H P q)⟩
theorem di_r1H {tg a : Expr} {f : DE G} {p : Pos} (hg : Gl X "range") (hm : X.mg "range" = none) (ha : PE X a (liftE X.K Γ W f)) (hs : starEach [a] X.env = [(false, eval a X.env)] := by rfl) : PIH X tg (.Call (.Name "range" p) [a] [] pos) (liftI X.K Γ W (iR1 f)) :=
  pih_imp (pi_range1H hg hm (pa_cons ha pa_nil hs) hs) fun σ H P ⟨C, l, g, R, ex, q, r, h, k, kx⟩ => by
    refine ⟨C, l, g, R, ex, _, r, h, fun x H1 R1 d l1 g1 s1 r1 z1 h1 => ?_, kx⟩
    split at h1
    · cases z1
      exact ⟨_, rfl, h1.1, h1.2.1, k _ H1 R1 _ l1 g1 s1 r1 (fun _ => wk_rng 0 _) h1.2.2⟩
    · exact h1.elim
theorem d_compH {elt tg iter : Expr} {ifs : List Expr} {scope : Scope} {own : List (Str × Nat)} {it : DI G} {t : Tg} {c : DT G} {e : DE G} {ws : List Nat} {p : Addr × Obj} (hot : Hot1 X.A p) (hm : p ∈ X.pn) (hN : X.N.Nodup) (hi : PIH X tg iter (liftI X.K Γ W it)) (ok : BlkOk X.N X.env.scope scope own)
    (hg : ∀ (s : Shared) (H : Hp) (C : Addr) (cl : List (Str × Addr)) (fp : List Addr), PG (blkP X s H scope (compEnvC scope cl C X.env) fp p) tg (liftG X.K Γ ws t))
    (ht : ∀ (s : Shared) (H : Hp) (C : Addr) (cl : List (Str × Addr)) (fp : List Addr), PTs (blkP X s H scope (compEnvC scope cl C X.env) fp p) ifs (liftT X.K Γ W0 c))
    (he : ∀ (s : Shared) (H : Hp) (C : Addr) (cl : List (Str × Addr)) (fp : List Addr), PE (blkP X s H scope (compEnvC scope cl C X.env) fp p) elt (liftE X.K Γ W0 e)) (hw : ∀ j ∈ ws, j ∈ own.map (·.2)) (hs : ∀ x, foldedSetIterable iter X.env x = pure x := by intro _; rfl) :
    PE X (.ListComp elt [⟨tg, iter, ifs, 0⟩] scope pos) (liftF X.K Γ W (dComp it t c e (own.map (·.2)))) := (pe_lcH hot hm hN hi ok hg ht he hs).imp fun _ _ _ h => comp_run hw h
end
end Lk

set_option autoImplicit false
set_option linter.all false
set_option maxRecDepth 100000
set_option maxHeartbeats 2000000
namespace Dx
def c_is_integer : Ct Gm := fun ds g Q _ => ∃ d, ds = [d] ∧ nref d = true ∧ Q (.bl (isInt d)) g
theorem l_is_integer : ∀ ds g q e, c_is_integer ds g q e → ds.length = 1 := fun _ _ _ _ ⟨_, h, _⟩ => by rw [h]; rfl
def b_is_integer : DS Gm := (sRet (dAnd (dIs ["int"] (dVar 0)) (dNot (dIs ["bool"] (dVar 0)))))
theorem k_is_integer : Keeps 1 c_is_integer b_is_integer := by
  rintro ds g Q E ⟨d, rfl, hd, hq⟩
  refine ⟨hd, ?_⟩
  unfold isInt at hq
  cases h : isTy "int" d with
  | false =>
    rw [h] at hq
    have e : (["int"].any fun n => isTy n d) = false := by simp [h]
    rw [e]
    exact hq
  | true =>
    rw [h] at hq
    have e : (["int"].any fun n => isTy n d) = true := by simp [h]
    rw [e]
    refine ⟨hd, ?_⟩
    have e : (["bool"].any fun n => isTy n d) = isTy "bool" d := by simp
    rw [e]
    exact hq
end Dx

set_option autoImplicit false
set_option linter.all false
set_option maxRecDepth 100000
set_option maxHeartbeats 2000000
namespace Dx
def c_is_within : Ct Gm := fun ds g Q _ => ∃ d a b, ds = [d, .int a, .int b] ∧ nref d = true ∧ Q (.bl (inRng a b d)) g
theorem l_is_within : ∀ ds g q e, c_is_within ds g q e → ds.length = 3 := fun _ _ _ _ ⟨_, _, _, h, _⟩ => by rw [h]; rfl
def b_is_within : DS Gm := (sRet (dAnd (dCall c_is_integer (aCons (dVar 0) aNil)) (dChain wLe wLe (dVar 1) (dVar 0) (dVar 2))))
theorem k_is_within : Keeps 3 c_is_within b_is_within := by
  rintro ds g Q E ⟨d, a, b, rfl, hd, hq⟩
  refine ⟨d, rfl, hd, ?_⟩
  cases d with
  | int i =>
    change Q (.bl (decide (a ≤ i) && decide (i ≤ b))) g at hq
    conv => whnf
    cases h : decide (a ≤ i) with
    | true => rw [h] at hq; exact hq
    | false => rw [h] at hq; exact hq
  | _ => exact hq
end Dx

set_option autoImplicit false
set_option linter.all false
set_option maxRecDepth 100000
set_option maxHeartbeats 2000000
namespace Dx
def c_are_ascending : Ct Gm := fun ds g Q _ => ∃ (xs : List D) (f : Nat → Bool), ds = [.tup xs] ∧ xs.length ≤ 1000000 ∧ (∀ i x y, xs[i]? = some x → xs[i + 1]? = some y → LtOk x y (f i)) ∧ Q (.bl ((List.range (xs.length - 1)).all f)) g
theorem l_are_ascending : ∀ ds g q e, c_are_ascending ds g q e → ds.length = 1 := fun _ _ _ _ ⟨_, _, h, _⟩ => by rw [h]; rfl
def b_are_ascending : DS Gm := (sRet (dB bAll (aCons (dComp (iR2 (dC (.int 1)) (dB bLen (aCons (dVar 0) aNil))) (gNm 1) cYes (dBin wLt (dBin wIx (dVar 0) (dBin wSub (dVar 1) (dC (.int 1)))) (dBin wIx (dVar 0) (dVar 1))) [1]) aNil)))
theorem k_are_ascending : Keeps 2 c_are_ascending b_are_ascending := by
  rintro ds g Q E ⟨xs, f, rfl, hl, hp, hq⟩
  refine ⟨Nat.le_trans hl (by decide), ⟨⟨by omega, by omega, by omega, by omega⟩, ?_⟩⟩
  have en : ((xs.length : Int) - 1).toNat = xs.length - 1 := by omega
  refine ⟨rfl, comp_map (as := List.range ((xs.length : Int) - 1).toNat) (h := fun (i : Nat) => D.int (1 + i)) (fun i => some (.bl (f i))) ?_ (fun i hi KT KF h1 h2 => ?_) ?_⟩
  · rw [List.length_range, en]; exact Nat.le_trans (by omega) (Nat.le_trans hl (by decide))
  · have hi := List.mem_range.mp hi
    rw [en] at hi
    have e0 : xs[i]? = some xs[i] := List.getElem?_eq_getElem (by omega)
    have e1 : xs[i + 1]? = some xs[i + 1] := List.getElem?_eq_getElem (by omega)
    have i0 : (1 + (i : Int) - 1) = (i : Nat) := by omega
    have i1 : (1 + (i : Int)) = ((i + 1 : Nat) : Int) := by omega
    refine ⟨rfl, rfl, ?_⟩
    show wIx (.tup xs) (.int (1 + (i : Int) - 1)) _
    rw [i0]
    refine wIx_tup e0 ?_
    show wIx (.tup xs) (.int (1 + (i : Int))) _
    rw [i1]
    refine wIx_tup e1 ?_
    refine hp i _ _ e0 e1 _ ?_
    exact ⟨rfl, h1 _ rfl⟩
  · refine ⟨(List.range ((xs.length : Int) - 1).toNat).map f, ?_, ?_⟩
    · rw [fm_some fun i => D.bl (f i), List.map_map]; rfl
    · rw [en, List.all_map]
      exact hq
end Dx

set_option autoImplicit false
set_option linter.all false
set_option maxRecDepth 100000
set_option maxHeartbeats 2000000
namespace Dx
def c_is_letter : Ct Gm := fun ds g Q _ => ∃ d, ds = [d] ∧ nref d = true ∧ (∀ s, d = .str s → s.length ≤ LIM) ∧ Q (.bl (isLet d)) g
theorem l_is_letter : ∀ ds g q e, c_is_letter ds g q e → ds.length = 1 := fun _ _ _ _ ⟨_, h, _⟩ => by rw [h]; rfl
def b_is_letter : DS Gm := (sRet (dAnd (dIs ["str"] (dVar 0)) (dAnd (dBin wEq (dB bLen (aCons (dVar 0) aNil)) (dC (.int 1))) (dBin wIn (dVar 0) (dC (.str [97, 98, 99, 100, 101, 102, 103, 104, 105, 106, 107, 108, 109, 110, 111, 112, 113, 114, 115, 116, 117, 118, 119, 120, 121, 122]))))))
theorem k_is_letter : Keeps 1 c_is_letter b_is_letter := by
  rintro ds g Q E ⟨d, rfl, hd, hl, hq⟩
  refine ⟨hd, ?_⟩
  cases d with
  | str s =>
    refine ⟨hl s rfl, eqOk_int _ _, ?_⟩
    match s, hq with
    | [], hq => exact hq
    | [c], hq =>
      show Q (.bl (decide (c ∈ [97, 98, 99, 100, 101, 102, 103, 104, 105, 106, 107, 108, 109, 110, 111, 112, 113, 114, 115, 116, 117, 118, 119, 120, 121, 122]))) g
      rw [letters_mem c]
      exact hq
    | _ :: _ :: s, hq =>
      exact hq
  | _ => exact hq
end Dx

set_option autoImplicit false
set_option linter.all false
set_option maxRecDepth 100000
set_option maxHeartbeats 2000000
namespace Dx
def c_is_arrow : Ct Gm := fun ds g Q _ => ∃ a n, ds = [arD a, .int (n : Nat)] ∧ (a.p < n ∧ 97 ≤ a.c ∧ a.c ≤ 122 ∧ a.pay ≤ 9 ∧ a.q < n) ∧ Q (.bl true) g
theorem l_is_arrow : ∀ ds g q e, c_is_arrow ds g q e → ds.length = 2 := fun _ _ _ _ ⟨_, _, h, _⟩ => by rw [h]; rfl
def b_is_arrow : DS Gm := (sSeq (sIf (tOr (tNot (tVal (dIs ["tuple"] (dVar 0)))) (tVal (dBin wNe (dB bLen (aCons (dVar 0) aNil)) (dC (.int 4))))) (sRet (dC (.bl false))) sNil) (sSeq (sIf (tOr (tNot (tVal (dCall c_is_within (aCons (dBin wIx (dVar 0) (dC (.int 0))) (aCons (dC (.int 0)) (aCons (dBin wSub (dVar 1) (dC (.int 1))) aNil)))))) (tNot (tVal (dCall c_is_letter (aCons (dBin wIx (dVar 0) (dC (.int 1))) aNil))))) (sRet (dC (.bl false))) sNil) (sRet (dAnd (dCall c_is_within (aCons (dBin wIx (dVar 0) (dC (.int 2))) (aCons (dC (.int 0)) (aCons (dC (.int 9)) aNil)))) (dCall c_is_within (aCons (dBin wIx (dVar 0) (dC (.int 3))) (aCons (dC (.int 0)) (aCons (dBin wSub (dVar 1) (dC (.int 1))) aNil))))))))
theorem k_is_arrow : Keeps 2 c_is_arrow b_is_arrow := by
  rintro ds g Q E ⟨a, n, rfl, ⟨h1, h2, h3, h4, h5⟩, hq⟩
  have r1 : ∀ p : Nat, p < n → inRng 0 ((n : Int) - 1) (.int (p : Nat)) = true := fun p hp => by simp [inRng]; omega
  have r2 : inRng 0 9 (.int (a.pay : Nat)) = true := by simp [inRng]; omega
  have r3 : isLet (.str [a.c]) = true := by simp [isLet]; omega
  refine ⟨rfl, ⟨by show (4 : Nat) ≤ LIM; decide, eqOk_int _ _, ?_⟩⟩
  refine ⟨_, rfl, _, _, _, rfl, rfl, ?_⟩
  rw [r1 a.p h1]
  refine ⟨_, rfl, _, rfl, rfl, fun s hs => by cases hs; show (1 : Nat) ≤ LIM; decide, ?_⟩
  rw [r3]
  refine ⟨_, rfl, _, _, _, rfl, rfl, ?_⟩
  rw [r2]
  refine ⟨_, rfl, _, _, _, rfl, rfl, ?_⟩
  rw [r1 a.q h5]
  exact hq
end Dx

set_option autoImplicit false
set_option linter.all false
set_option maxRecDepth 100000
set_option maxHeartbeats 2000000
namespace Dx
def c_are_arrows : Ct Gm := fun ds g Q _ => ∃ as n, ds = [.tup (as.map arD), .int (n : Nat)] ∧ TrkOk n as ∧ Q (.bl true) g
theorem l_are_arrows : ∀ ds g q e, c_are_arrows ds g q e → ds.length = 2 := fun _ _ _ _ ⟨_, _, h, _⟩ => by rw [h]; rfl
def b_are_arrows : DS Gm := (sSeq (sIf (tOr (tNot (tVal (dIs ["tuple"] (dVar 0)))) (tNot (tVal (dChain wLe wLe (dC (.int 1)) (dB bLen (aCons (dVar 0) aNil)) (dC (.int 60)))))) (sRet (dC (.bl false))) sNil) (sRet (dAnd (dB bAll (aCons (dComp (iE (dVar 0)) (gNm 2) cYes (dCall c_is_arrow (aCons (dVar 2) (aCons (dVar 1) aNil))) [2]) aNil)) (dCall c_are_ascending (aCons (dVar 0) aNil)))))
theorem k_are_arrows : Keeps 3 c_are_arrows b_are_arrows := by
  rintro ds g Q E ⟨as, n, rfl, ok, hq⟩
  have l1 := ok.l1
  have l2 := ok.l2
  have hl : as.length ≤ LIM := Nat.le_trans l2 (by decide)
  refine ⟨rfl, ?_⟩
  refine ⟨by rw [List.length_map]; exact hl, ?_⟩
  conv => whnf
  have e1 : decide ((1 : Int) ≤ ((as.map arD).length : Nat)) = true := by rw [List.length_map]; exact decide_eq_true (by omega)
  have e2 : decide (((as.map arD).length : Nat) ≤ (60 : Int)) = true := by rw [List.length_map]; exact decide_eq_true (by omega)
  rw [e1]
  conv => whnf
  rw [e2]
  refine ⟨rfl, comp_map (as := as) (h := arD) (fun _ => some (.bl true)) hl (fun a ha KT KF h1 h2 => ?_) ?_⟩
  · exact ⟨rfl, rfl, a, n, rfl, ok.ok a ha, rfl, h1 _ rfl⟩
  · refine ⟨as.map fun _ => true, ?_, ?_⟩
    · rw [fm_some fun _ => D.bl true, List.map_map]; rfl
    · rw [all_rep _ fun b hb => by obtain ⟨_, _, h⟩ := List.mem_map.mp hb; exact h.symm]
      refine ⟨as.map arD, fun _ => true, rfl, by rw [List.length_map]; exact Nat.le_trans l2 (by decide), fun i x y hx hy => ?_, ?_⟩
      · obtain ⟨a, ha, rfl⟩ := map_get hx
        obtain ⟨b, hb, rfl⟩ := map_get hy
        obtain ⟨u1, e1⟩ := List.getElem?_eq_some_iff.mp ha
        obtain ⟨u2, e2⟩ := List.getElem?_eq_some_iff.mp hb
        have lt := (List.pairwise_iff_getElem.mp ok.asc) i (i + 1) u1 u2 (by omega)
        rw [e1, e2] at lt
        have h1 := ok.ok a (List.mem_of_getElem? ha)
        have h2 := ok.ok b (List.mem_of_getElem? hb)
        exact ltOk_ar (by omega) (by omega) lt
      · rw [List.all_eq_true.mpr fun _ _ => rfl]
        exact hq
end Dx

set_option autoImplicit false
set_option linter.all false
set_option maxRecDepth 100000
set_option maxHeartbeats 2000000
namespace Dx
def twk (a : Ar) : D := .tup [.int (a.p : Nat), .str [a.c]]
theorem twk_ne {a b : Ar} (h : arLt a b) : deq (twk a) (twk b) = false := by
  unfold arLt at h
  show (decide ((a.p : Int) = (b.p : Int)) && (decide ([a.c] = [b.c]) && true)) = false
  rw [Bool.and_true, Bool.and_eq_false_iff, decide_eq_false_iff_not, decide_eq_false_iff_not]
  rcases h with h | ⟨h1, h2⟩
  · exact .inl (by omega)
  · exact .inr (fun z => by injection z with z; omega)
def b_Track_init : DS Gm := (sSeq (sIf (tNot (tVal (dCall c_is_within (aCons (dVar 1) (aCons (dC (.int 1)) (aCons (dC (.int 12)) aNil)))))) sNever sNil) (sSeq (sIf (tNot (tVal (dCall c_are_arrows (aCons (dVar 2) (aCons (dVar 1) aNil))))) sNever sNil) (sSeq (sIf (tVal (dBin wLt (dB bLen (aCons (dDC true (iE (dVar 2)) (gNm 3) cYes (dSl (dVar 3) oNo (oSo (dC (.int 2)))) (dC (.bl true)) [3]) aNil)) (dB bLen (aCons (dVar 2) aNil)))) sNever sNil) (sIf (tVal (dBin wLt (dB bLen (aCons (dDC false (iE (dVar 2)) (gNm 3) cYes (dBin wIx (dVar 3) (dC (.int 0))) (dC (.bl true)) [3]) aNil)) (dVar 1))) sNever sNil))))
theorem k_Track_init : InitOk 4 b_Track_init := by
  intro x m as g E ok hq
  have n1 := ok.n1
  have n2 := ok.n2
  have l1 := ok.l1
  have l2 := ok.l2
  have hl : as.length ≤ LIM := Nat.le_trans l2 (by decide)
  have r1 : inRng 1 12 (.int (m : Nat)) = true := by simp [inRng]; omega
  refine ⟨_, _, _, rfl, rfl, ?_⟩
  rw [r1]
  refine ⟨as, m, rfl, ok, ?_⟩
  refine ⟨rfl, fun i acc g' => g' = g ∧ acc.map (·.1) = (as.take i).map twk, ⟨rfl, rfl⟩, fun i y acc g' hy ⟨hg, hacc⟩ => ?_, fun acc g' ⟨hg, hacc⟩ => ?_⟩
  · obtain ⟨a, ha, rfl⟩ := map_get hy
    subst hg
    have hi : i < as.length := (List.getElem?_eq_some_iff.mp ha).1
    have ll : acc.length = i := by
      have := congrArg List.length hacc
      rw [List.length_map, List.length_map, List.length_take] at this
      omega
    refine ⟨rfl, rfl, rfl, by rw [ll]; exact Nat.lt_of_lt_of_le hi hl, rfl, rfl, ?_⟩
    show (put acc (twk a) (.bl true)).map (·.1) = _
    rw [put_new, List.map_append, hacc, List.take_add_one, ha, List.map_append]
    · rfl
    · intro p hp
      have hp : p.1 ∈ acc.map (·.1) := List.mem_map_of_mem hp
      rw [hacc] at hp
      obtain ⟨b, hb, e⟩ := List.mem_map.mp hp
      rw [← e]
      obtain ⟨j, hj⟩ := List.getElem?_of_mem hb
      have hj2 : j < i := by
        have := (List.getElem?_eq_some_iff.mp hj).1
        rw [List.length_take] at this
        omega
      rw [List.getElem?_take, if_pos hj2] at hj
      refine twk_ne ?_
      obtain ⟨u1, e1⟩ := List.getElem?_eq_some_iff.mp hj
      obtain ⟨u2, e2⟩ := List.getElem?_eq_some_iff.mp ha
      have := (List.pairwise_iff_getElem.mp ok.asc) j i u1 u2 hj2
      rw [e1, e2] at this
      exact this
  · subst hg
    have ll : acc.length = as.length := by
      have := congrArg List.length hacc
      rw [List.length_map, List.length_map, List.length_map, List.take_length] at this
      exact this
    refine ⟨by rw [ll]; exact hl, by rw [List.length_map]; exact hl, ?_⟩
    refine ite_of (fun h => ?_) fun _ => ?_
    · have h : decide ((acc.length : Int) < ((as.map arD).length : Nat)) = true := h
      rw [ll, List.length_map] at h
      exact absurd (of_decide_eq_true h) (by omega)
    refine ⟨rfl, fun i acc g'' => g'' = g' ∧ (∀ k ∈ acc.map (·.1), ∃ j : Int, k = .int j) ∧ (∀ a ∈ as.take i, .int (a.p : Nat) ∈ acc.map (·.1)) ∧ acc.length ≤ i, ⟨rfl, fun _ h => (by cases h), fun _ h => (by cases h), Nat.le_refl _⟩, fun i y acc g'' hy ⟨hg, h1, h2, h3⟩ => ?_, fun acc g'' ⟨hg, h1, h2, h3⟩ => ?_⟩
    · obtain ⟨a, ha, rfl⟩ := map_get hy
      subst hg
      have hi : i < as.length := (List.getElem?_eq_some_iff.mp ha).1
      obtain ⟨q1, q2, q3, q4⟩ := put_keys (kvs := acc) (i := (a.p : Nat)) (v := .bl true) h1
      refine ⟨rfl, rfl, .int (a.p : Nat), rfl, rfl, Nat.lt_of_le_of_lt h3 (Nat.lt_of_lt_of_le hi hl), rfl, rfl, q1, fun b hb => ?_, by omega⟩
      rw [List.take_add_one, ha, List.mem_append] at hb
      rcases hb with hb | hb
      · exact q2 _ (h2 b hb)
      · cases List.mem_singleton.mp hb
        exact q3
    · subst hg
      rw [List.length_map] at h2 h3
      rw [List.take_length] at h2
      have hn : m ≤ acc.length := by
        have := pig m (acc.map (·.1)) fun p hp => by
          obtain ⟨a, ha, rfl⟩ := ok.all p hp
          exact h2 a ha
        rw [List.length_map] at this
        exact this
      refine ⟨Nat.le_trans h3 hl, ?_⟩
      refine ite_of (fun h => ?_) fun _ => hq
      have h : decide ((acc.length : Int) < (m : Nat)) = true := h
      exact absurd (of_decide_eq_true h) (by omega)
end Dx

set_option autoImplicit false
set_option linter.all false
set_option maxRecDepth 100000
set_option maxHeartbeats 2000000
namespace Dx
def c_law_tape : Ct Gm := fun ds g Q _ => ds = [.ref g.scr] ∧ (∀ p g', IsTape g' p → g.st p = none → (∀ a, g.st a ≠ none → g'.st a = g.st a) → Q (.ref p) g')
theorem l_law_tape : ∀ ds g q e, c_law_tape ds g q e → ds.length = 1 := fun _ _ _ _ ⟨h, _⟩ => by rw [h]; rfl
def b_law_tape : DS Gm := (sRet (mNew (dLst (aCons (mNew (zList 0)) (aCons (dC (.int 0)) (aCons (dC (.int 0)) (aCons (dC (.int 1)) (aCons (dC (.int 0)) aNil))))))))
theorem k_law_tape : Keeps 1 c_law_tape b_law_tape := by
  rintro ds g Q E ⟨rfl, hq⟩
  refine ⟨rfl, ?_, fun q hqn => ?_⟩
  · rw [List.all_map]
    exact List.all_eq_true.mpr fun _ _ => rfl
  · refine ⟨by show (5 : Nat) ≤ LIM; decide, rfl, fun p hpn => ?_⟩
    have hp : (gset g q (g.ns.map D.int)).st p = none := hpn
    have ne : q ≠ p := fun e => by
      subst e
      have : (if q = q then some (g.ns.map D.int) else g.st q) = none := hpn
      rw [if_pos rfl] at this
      cases this
    have hgp : g.st p = none := by
      have : (if p = q then some (g.ns.map D.int) else g.st p) = none := hpn
      rw [if_neg (Ne.symm ne)] at this
      exact this
    refine hq p _ ⟨q, g.ns, 0, 0, 1, 0, ?_, ?_, ne⟩ hgp fun a ha => ?_
    · show (if p = p then _ else _) = _
      rw [if_pos rfl]
      rfl
    · show (if q = p then _ else (if q = q then _ else _)) = _
      rw [if_neg ne, if_pos rfl]
    · show (if a = p then _ else (if a = q then _ else _)) = _
      rw [if_neg (fun e => ha (by rw [e]; exact hgp)), if_neg (fun e => ha (by rw [e]; exact hqn))]
end Dx

set_option autoImplicit false
set_option linter.all false
set_option maxRecDepth 100000
set_option maxHeartbeats 2000000
namespace Dx
def c_law_pick : Ct Gm := fun ds g Q _ => ∃ p k, ds = [.ref p, .int k] ∧ IsTape g p ∧ 0 < k ∧ k < 1073741824 ∧ ∀ (v : Nat) g', (v : Int) < k → IsTape g' p → Sm g g' p → Q (.int (v : Nat)) g'
theorem l_law_pick : ∀ ds g q e, c_law_pick ds g q e → ds.length = 2 := fun _ _ _ _ ⟨_, _, h, _⟩ => by rw [h]; rfl
def b_law_pick : DS Gm := (sSeq (sIf (tVal (dBin wGt (mIx (dVar 0) (dC (.int 2))) (dC (.int 1)))) (sSeq (sSet 2 (dBin wMod (dB bInt (aCons (mIx (dVar 0) (dC (.int 2))) aNil)) (dVar 1))) (sSeq (sMSet (dVar 0) (dC (.int 2)) (dBin wDiv (mIx (dVar 0) (dC (.int 2))) (dVar 1))) (sRet (dVar 2)))) sNil) (sSeq (sMSet (dVar 0) (dC (.int 4)) (dBin wAdd (mIx (dVar 0) (dC (.int 4))) (dC (.int 1)))) (sSeq (sSet 3 (dC (.int 0))) (sSeq (sIf (tVal (dBin wLt (mIx (dVar 0) (dC (.int 1))) (mLen (mIx (dVar 0) (dC (.int 0)))))) (sSeq (sSet 3 (mIx (mIx (dVar 0) (dC (.int 0))) (mIx (dVar 0) (dC (.int 1))))) (sMSet (dVar 0) (dC (.int 1)) (dBin wAdd (mIx (dVar 0) (dC (.int 1))) (dC (.int 1))))) sNil) (sSeq (sIf (tVal (dBin wGe (dVar 3) (dBin wPow (dC (.int 10)) (dC (.int 18))))) (sSeq (sMSet (dVar 0) (dC (.int 2)) (dBin wDiv (dVar 3) (dVar 1))) (sRet (dBin wMod (dB bInt (aCons (dVar 3) aNil)) (dVar 1)))) sNil) (sSeq (sSet 4 (dBin wMod (dB bInt (aCons (dBin wAdd (dBin wAdd (dBin wMul (mIx (dVar 0) (dC (.int 3))) (dC (.int 48271))) (dBin wMod (dB bInt (aCons (dVar 3) aNil)) (dC (.int 2147483629)))) (dBin wMul (mIx (dVar 0) (dC (.int 4))) (dC (.int 69621)))) aNil)) (dC (.int 2147483647)))) (sSeq (sSet 4 (dBin wMod (dB bInt (aCons (dBin wMul (dVar 4) (dBin wAdd (dBin wDiv (dVar 4) (dC (.int 1009))) (dC (.int 40692)))) aNil)) (dC (.int 2147483399)))) (sSeq (sMSet (dVar 0) (dC (.int 3)) (dVar 4)) (sRet (dBin wMod (dB bInt (aCons (dBin wDiv (dVar 4) (dC (.int 16))) aNil)) (dVar 1)))))))))))
theorem k_law_pick : Keeps 5 c_law_pick b_law_pick := by
  rintro ds g Q E ⟨p, k, rfl, ⟨q, ns, a, r, m, c, h⟩, k0, k1, hQ⟩
  have fin : ∀ (z : Int) g', IsTape g' p → Sm g g' p → Q (.int (z % k)) g' := fun z g' t s => by
    have h0 := Int.emod_nonneg z (show k ≠ 0 by omega)
    have h1 := Int.emod_lt_of_pos z k0
    have e : z % k = ((z % k).toNat : Nat) := by omega
    rw [e]
    exact hQ _ g' (by omega) t s
  refine ⟨_, _, h.hp, rfl, ?_⟩
  refine ite_of (fun _ => ?_) (fun _ => ?_)
  · refine ⟨_, _, h.hp, rfl, k0, _, _, h.hp, rfl, ⟨k0, .inl k1⟩, _, _, h.hp, rfl, rfl, ?_⟩
    exact fin r _ ⟨_, _, _, _, _, _, h.set a (r / k) m c⟩ ((Sm.refl g p).set _)
  · refine ⟨_, _, h.hp, rfl, _, _, h.hp, rfl, rfl, ?_⟩
    have h2 := h.set a r m (c + 1)
    have s2 : Sm g (gset g p [.ref q, .int (a : Nat), .int r, .int m, .int (c + 1)]) p := (Sm.refl g p).set _
    refine ⟨_, _, h2.hp, rfl, _, _, h2.hp, rfl, _, h2.hq, ?_⟩
    -- the number that is taken, and on
    have rest : ∀ (z : Int) (a' : Nat) (g' : Gm), Tp g' p q ns a' r m (c + 1) → Sm g g' p → (sSeq (sIf (tVal (dBin wGe (dVar 3) (dBin wPow (dC (.int 10)) (dC (.int 18))))) (sSeq (sMSet (dVar 0) (dC (.int 2)) (dBin wDiv (dVar 3) (dVar 1))) (sRet (dBin wMod (dB bInt (aCons (dVar 3) aNil)) (dVar 1)))) sNil) (sSeq (sSet 4 (dBin wMod (dB bInt (aCons (dBin wAdd (dBin wAdd (dBin wMul (mIx (dVar 0) (dC (.int 3))) (dC (.int 48271))) (dBin wMod (dB bInt (aCons (dVar 3) aNil)) (dC (.int 2147483629)))) (dBin wMul (mIx (dVar 0) (dC (.int 4))) (dC (.int 69621)))) aNil)) (dC (.int 2147483647)))) (sSeq (sSet 4 (dBin wMod (dB bInt (aCons (dBin wMul (dVar 4) (dBin wAdd (dBin wDiv (dVar 4) (dC (.int 1009))) (dC (.int 40692)))) aNil)) (dC (.int 2147483399)))) (sSeq (sMSet (dVar 0) (dC (.int 3)) (dVar 4)) (sRet (dBin wMod (dB bInt (aCons (dBin wDiv (dVar 4) (dC (.int 16))) aNil)) (dVar 1))))))) (fun x _ g => E x g) { nx := fun _ g => Q .non g, rt := fun d _ g => Q d g } [.va (.ref p), .va (.int k), .no, .va (.int z), .no] g' := by
      intro z a' g' h s
      refine ⟨⟨by decide, by decide, by decide⟩, ?_⟩
      refine ite_of (fun _ => ?_) (fun _ => ?_)
      · refine ⟨⟨k0, .inl k1⟩, _, _, h.hp, rfl, rfl, k0, ?_⟩
        exact fin z _ ⟨_, _, _, _, _, _, h.set a' (z / k) m (c + 1)⟩ (s.set _)
      · refine ⟨_, _, h.hp, rfl, mulSmall ⟨by decide, by decide⟩, by decide, _, _, h.hp, rfl, mulSmall ⟨by decide, by decide⟩, by decide, ?_⟩
        generalize hu : (m * 48271 + z % 2147483629 + (c + 1) * 69621) % 2147483647 = u
        have u0 : 0 ≤ u := by omega
        have u1 : u < 2147483647 := by omega
        refine ⟨⟨by decide, .inl (by decide)⟩, mulSmall ⟨by omega, by omega⟩, by decide, ?_⟩
        refine ⟨_, _, h.hp, rfl, rfl, ⟨by decide, .inl (by decide)⟩, k0, ?_⟩
        exact fin _ _ ⟨_, _, _, _, _, _, h.set a' r _ (c + 1)⟩ (s.set _)
    refine ite_of (fun hlt => ?_) (fun _ => rest 0 a _ h2 s2)
    have hlt : (a : Int) < ((ns.map D.int).length : Nat) := of_decide_eq_true hlt
    rw [List.length_map] at hlt
    have hlt : a < ns.length := by omega
    refine ⟨_, _, h2.hp, rfl, _, _, h2.hp, rfl, _, .int ns[a], h2.hq, ?_, ?_⟩
    · rw [List.length_map, ixAt_of hlt]
      show (ns.map D.int)[a]? = _
      rw [List.getElem?_map, List.getElem?_eq_getElem hlt]
      rfl
    · refine ⟨_, _, h2.hp, rfl, _, _, h2.hp, rfl, rfl, ?_⟩
      exact rest ns[a] (a + 1) _ (h2.set (a + 1) r m (c + 1)) (s2.set _)
end Dx

set_option autoImplicit false
set_option linter.all false
set_option maxRecDepth 100000
set_option maxHeartbeats 2000000
namespace Dx
def c_law_arrows : Ct Gm := fun ds g Q _ => ∃ p n k, ds = [.ref p, .int (n : Nat), .int (k : Nat)] ∧ IsTape g p ∧ 1 ≤ n ∧ n ≤ 12 ∧ 1 ≤ k ∧ k ≤ 8 ∧ n * k ≤ 60 ∧
  ∀ as g', TrkOk n as → (∀ a ∈ as, a.c < 97 + k) → IsTape g' p → Sm g g' p → Q (.tup (as.map arD)) g'
theorem l_law_arrows : ∀ ds g q e, c_law_arrows ds g q e → ds.length = 3 := fun _ _ _ _ ⟨_, _, _, h, _⟩ => by rw [h]; rfl
/-- the arrows of the first i places -/
structure ArPre (n k i : Nat) (as : List Ar) : Prop where
  ok : ∀ a ∈ as, a.p < i ∧ 97 ≤ a.c ∧ a.c < 97 + k ∧ a.pay ≤ 9 ∧ a.q < n
  asc : as.Pairwise arLt
  len : as.length ≤ i * k
  all : ∀ p, p < i → ∃ a ∈ as, a.p = p
theorem lets_cut : ∀ k : Nat, k < 9 → ∀ v : Nat, v < k → cut (cut [97, 98, 99, 100, 101, 102, 103, 104] none (some (k : Int))) (some (v : Int)) none = (List.range (k - v)).map fun j => 97 + v + j := by decide +kernel
def pays10 : List Nat := [0, 1, 2, 2, 3, 3, 4, 5, 6, 9]
theorem ar_snoc {n k i v j : Nat} {as bs : List Ar} {pay q : Nat} (h : ArPre n k i as) (hb : bs.length = j) (hbs : ∀ b ∈ bs, b.p = i ∧ 97 + v ≤ b.c ∧ b.c < 97 + v + j ∧ b.pay ≤ 9 ∧ b.q < n) (asc : (as ++ bs).Pairwise arLt) (hj : v + j < k) (hpay : pay ≤ 9) (hq : q < n) :
    (as ++ (bs ++ [(⟨i, 97 + v + j, pay, q⟩ : Ar)])).Pairwise arLt := by
  rw [← List.append_assoc, List.pairwise_append]
  refine ⟨asc, List.pairwise_singleton _ _, fun a ha b hb => ?_⟩
  cases List.mem_singleton.mp hb
  rcases List.mem_append.mp ha with ha | ha
  · exact .inl (h.ok a ha).1
  · have := hbs a ha
    exact .inr ⟨this.1, this.2.2.1⟩
def b_law_arrows_l1 : DS Gm := (sSeq (sSet 7 (dBin wIx (dLst (aCons (dC (.int 0)) (aCons (dC (.int 1)) (aCons (dC (.int 2)) (aCons (dC (.int 2)) (aCons (dC (.int 3)) (aCons (dC (.int 3)) (aCons (dC (.int 4)) (aCons (dC (.int 5)) (aCons (dC (.int 6)) (aCons (dC (.int 9)) aNil))))))))))) (dCall c_law_pick (aCons (dVar 0) (aCons (dC (.int 10)) aNil))))) (sApp 3 (dTup (aCons (dVar 4) (aCons (dVar 6) (aCons (dVar 7) (aCons (dCall c_law_pick (aCons (dVar 0) (aCons (dVar 1) aNil))) aNil)))))))
def b_law_arrows_l2 : DS Gm := (sSeq (sSet 5 (dSl (dC (.str [97, 98, 99, 100, 101, 102, 103, 104])) oNo (oSo (dVar 2)))) (sFor (iE (dSl (dVar 5) (oSo (dCall c_law_pick (aCons (dVar 0) (aCons (dVar 2) aNil)))) oNo)) (gNm 6) b_law_arrows_l1))
def b_law_arrows : DS Gm := (sSeq (sOwn 3 (dLst aNil)) (sSeq (sFor (iR1 (dVar 1)) (gNm 4) b_law_arrows_l2) (sRet (dBO bTuple 3))))
theorem k_law_arrows : Keeps 8 c_law_arrows b_law_arrows := by
  rintro ds g Q E ⟨p, n, k, rfl, ht, n1, n12, k1, k8, nk, hQ⟩
  refine ⟨Nat.zero_le _, by omega, by omega, ?_⟩
  rw [Int.toNat_natCast, nD_range]
  refine ⟨fun i l g' => ∃ as v4 v5 v6 v7, l = [.va (.ref p), .va (.int (n : Nat)), .va (.int (k : Nat)), .ow (.lst (as.map arD)), v4, v5, v6, v7] ∧ ArPre n k i as ∧ IsTape g' p ∧ Sm g g' p,
    ⟨[], _, _, _, _, rfl, ⟨fun _ h => (by cases h), List.Pairwise.nil, Nat.zero_le _, fun _ h => (by omega)⟩, ht, Sm.refl g p⟩, ?_, ?_⟩
  · rintro i x l g' hx ⟨as, v4, v5, v6, v7, rfl, hp, ht', hs'⟩
    obtain ⟨i', hi', rfl⟩ := map_get hx
    have hin : i < n := by
      have := (List.getElem?_eq_some_iff.mp hi').1
      rw [List.length_range] at this
      exact this
    have : i' = i := by
      have := (List.getElem?_eq_some_iff.mp hi').2
      rw [List.getElem_range] at this
      exact this.symm
    subst this
    refine ⟨by show (8 : Nat) ≤ LIM; decide, p, k, rfl, ht', by omega, by omega, fun v g2 hv ht2 hs2 => ?_⟩
    have hv : v < k := by omega
    refine ⟨Nat.le_trans (cut_len _ _ _) (by show (8 : Nat) ≤ LIM; decide), ?_⟩
    show (cut (cut [97, 98, 99, 100, 101, 102, 103, 104] none (some (k : Int))) (some (v : Int)) none).length ≤ LIM ∧ _
    rw [lets_cut k (by omega) v hv]
    refine ⟨by rw [List.length_map, List.length_range]; exact Nat.le_trans (by omega : k - v ≤ 8) (by decide), ?_⟩
    refine ⟨fun j l g' => ∃ bs v6 v7, l = [.va (.ref p), .va (.int (n : Nat)), .va (.int (k : Nat)), .ow (.lst ((as ++ bs).map arD)), .va (.int (i' : Nat)), .va (.str (cut [97, 98, 99, 100, 101, 102, 103, 104] none (some (k : Int)))), v6, v7] ∧ j ≤ k - v ∧
      bs.length = j ∧ (∀ b ∈ bs, b.p = i' ∧ 97 + v ≤ b.c ∧ b.c < 97 + v + j ∧ b.pay ≤ 9 ∧ b.q < n) ∧ (as ++ bs).Pairwise arLt ∧ IsTape g' p ∧ Sm g g' p,
      ⟨[], v6, v7, by rw [List.append_nil]; rfl, Nat.zero_le _, rfl, fun _ h => (by cases h), by rw [List.append_nil]; exact hp.asc, ht2, hs'.trans hs2⟩, ?_, ?_⟩
    · rintro j y l g3 hy ⟨bs, v6, v7, rfl, hj, hbl, hbs, asc, ht3, hs3⟩
      rw [List.getElem?_map] at hy
      obtain ⟨c, hc, rfl⟩ := Option.map_eq_some_iff.mp hy
      rw [List.getElem?_map] at hc
      obtain ⟨j', hj', rfl⟩ := Option.map_eq_some_iff.mp hc
      have hjk : j < k - v := by
        have := (List.getElem?_eq_some_iff.mp hj').1
        rw [List.length_range] at this
        exact this
      have : j' = j := by
        have := (List.getElem?_eq_some_iff.mp hj').2
        rw [List.getElem_range] at this
        exact this.symm
      subst this
      refine ⟨by show (10 : Nat) ≤ LIM; decide, p, 10, rfl, ht3, by decide, by decide, fun w g4 hw ht4 hs4 => ?_⟩
      have hw : w < pays10.length := by show w < 10; omega
      have hpay : pays10[w] ≤ 9 := (by decide : ∀ x ∈ pays10, x ≤ 9) _ (List.getElem_mem hw)
      refine wIx_lst (xs := nD pays10) (d := .int (pays10[w] : Nat)) (by unfold nD; rw [List.getElem?_map, List.getElem?_eq_getElem hw]; rfl) ?_
      refine ⟨p, n, rfl, ht4, by omega, by omega, fun q g5 hq ht5 hs5 => ?_⟩
      have hlen : ((as ++ bs).map arD).length < LIM := by
        rw [List.length_map, List.length_append, hbl]
        have := hp.len
        have h2 : i' * k + k ≤ n * k := by
          have := Nat.mul_le_mul_right k (show i' + 1 ≤ n from hin)
          rw [Nat.add_mul, Nat.one_mul] at this
          exact this
        exact Nat.lt_of_le_of_lt (show as.length + j' ≤ 60 by omega) (by decide)
      refine ⟨by show (4 : Nat) ≤ LIM; decide, hlen, bs ++ [⟨i', 97 + v + j', pays10[w], q⟩], .va (.str [97 + v + j']), .va (.int (pays10[w] : Nat)), ?_, by omega, by rw [List.length_append, hbl]; rfl, fun b hb => ?_, ar_snoc hp hbl hbs asc (by omega) hpay (by omega), ht5, (hs3.trans hs4).trans hs5⟩
      · rw [← List.append_assoc, List.map_append (l₁ := as ++ bs)]
        rfl
      · rcases List.mem_append.mp hb with hb | hb
        · have := hbs b hb
          exact ⟨this.1, this.2.1, by omega, this.2.2.2⟩
        · cases List.mem_singleton.mp hb
          exact ⟨rfl, by show 97 + v ≤ 97 + v + j'; omega, by show 97 + v + j' < 97 + v + (j' + 1); omega, hpay, by show q < n; omega⟩
    · rintro l g3 ⟨bs, v6, v7, rfl, hj, hbl, hbs, asc, ht3, hs3⟩
      rw [List.length_map, List.length_map, List.length_range] at hbl hbs
      refine ⟨as ++ bs, _, _, _, _, rfl, ⟨fun a ha => ?_, asc, ?_, fun x hx => ?_⟩, ht3, hs3⟩
      · rcases List.mem_append.mp ha with ha | ha
        · have := hp.ok a ha
          exact ⟨by omega, this.2⟩
        · have := hbs a ha
          exact ⟨by omega, by omega, by omega, this.2.2.2⟩
      · have := hp.len
        rw [List.length_append, hbl, Nat.add_mul, Nat.one_mul]
        omega
      · by_cases e : x = i'
        · have hb : bs ≠ [] := fun z => by rw [z] at hbl; simp at hbl; omega
          obtain ⟨b, hb⟩ := List.exists_mem_of_ne_nil bs hb
          exact ⟨b, List.mem_append.mpr (.inr hb), by rw [(hbs b hb).1, e]⟩
        · obtain ⟨a, ha, h⟩ := hp.all x (by omega)
          exact ⟨a, List.mem_append.mpr (.inl ha), h⟩
  · rintro l g' ⟨as, v4, v5, v6, v7, rfl, hp, ht', hs'⟩
    rw [nD_len, List.length_range] at hp
    have hlen := hp.len
    have l1 : 1 ≤ as.length := by
      obtain ⟨a, ha, _⟩ := hp.all 0 (by omega)
      exact List.length_pos_of_mem ha
    refine ⟨by rw [List.length_map]; exact Nat.le_trans (by omega : as.length ≤ 60) (by decide), ?_⟩
    exact hQ as g' ⟨n1, n12, l1, by omega, fun a ha => by have := hp.ok a ha; omega, hp.asc, hp.all⟩ (fun a ha => (hp.ok a ha).2.2.1) ht' hs'
end Dx

set_option autoImplicit false
set_option linter.all false
set_option maxRecDepth 100000
set_option maxHeartbeats 2000000
namespace Dx
def c_is_place : Ct Gm := fun ds g Q _ => ∃ n as d, ds = [trk n as, d] ∧ nref d = true ∧ Q (.bl (inRng 0 ((n : Int) - 1) d)) g
theorem l_is_place : ∀ ds g q e, c_is_place ds g q e → ds.length = 2 := fun _ _ _ _ ⟨_, _, _, h, _⟩ => by rw [h]; rfl
def b_is_place : DS Gm := (sRet (dCall c_is_within (aCons (dVar 1) (aCons (dC (.int 0)) (aCons (dBin wSub (dUn (wFld ["Track"] 0) (dVar 0)) (dC (.int 1))) aNil)))))
theorem k_is_place : Keeps 2 c_is_place b_is_place := by
  rintro ds g Q E ⟨n, as, d, rfl, hd, hq⟩
  exact ⟨List.mem_singleton.mpr rfl, _, rfl, d, 0, (n : Int) - 1, rfl, hd, hq⟩
end Dx

set_option autoImplicit false
set_option linter.all false
set_option maxRecDepth 100000
set_option maxHeartbeats 2000000
namespace Dx
def c_check_place_x : Ct Gm := fun ds g Q E => ∃ n as d, ds = [trk n as, d] ∧ nref d = true ∧ (inRng 0 ((n : Int) - 1) d = true ∧ Q .non g ∨ inRng 0 ((n : Int) - 1) d = false ∧ E ⟨"NoPlace", []⟩ g)
theorem l_check_place_x : ∀ ds g q e, c_check_place_x ds g q e → ds.length = 2 := fun _ _ _ _ ⟨_, _, _, h, _⟩ => by rw [h]; rfl
def b_check_place_x : DS Gm := (sIf (tNot (tVal (dCall c_is_place (aCons (dVar 0) (aCons (dVar 1) aNil))))) (sRaise "NoPlace") sNil)
theorem k_check_place_x : Keeps 2 c_check_place_x b_check_place_x := by
  rintro ds g Q E ⟨n, as, d, rfl, hd, h⟩
  refine ⟨n, as, d, rfl, hd, ?_⟩
  rcases h with ⟨hr, hq⟩ | ⟨hr, hq⟩
  · rw [hr]
    exact hq
  · rw [hr]
    exact hq
end Dx

set_option autoImplicit false
set_option linter.all false
set_option maxRecDepth 100000
set_option maxHeartbeats 2000000
namespace Dx
def c_is_from : Ct Gm := fun ds g Q _ => ∃ d k, ds = [d, .int k] ∧ nref d = true ∧ Q (.bl (fromB k d)) g
theorem l_is_from : ∀ ds g q e, c_is_from ds g q e → ds.length = 2 := fun _ _ _ _ ⟨_, _, h, _⟩ => by rw [h]; rfl
def b_is_from : DS Gm := (sRet (dAnd (dCall c_is_integer (aCons (dVar 0) aNil)) (dBin wGe (dVar 0) (dVar 1))))
theorem k_is_from : Keeps 2 c_is_from b_is_from := by
  rintro ds g Q E ⟨d, k, rfl, hd, hq⟩
  refine ⟨d, rfl, hd, ?_⟩
  cases d <;> exact hq
end Dx

set_option autoImplicit false
set_option linter.all false
set_option maxRecDepth 100000
set_option maxHeartbeats 2000000
namespace Dx
def c_check_coins_x : Ct Gm := fun ds g Q E => ∃ d, ds = [d] ∧ nref d = true ∧ (fromB 0 d = true ∧ Q .non g ∨ fromB 0 d = false ∧ E ⟨"NoCoins", []⟩ g)
theorem l_check_coins_x : ∀ ds g q e, c_check_coins_x ds g q e → ds.length = 1 := fun _ _ _ _ ⟨_, h, _⟩ => by rw [h]; rfl
def b_check_coins_x : DS Gm := (sIf (tNot (tVal (dCall c_is_from (aCons (dVar 0) (aCons (dC (.int 0)) aNil))))) (sRaise "NoCoins") sNil)
theorem k_check_coins_x : Keeps 1 c_check_coins_x b_check_coins_x := by
  rintro ds g Q E ⟨d, rfl, hd, h⟩
  refine ⟨d, 0, rfl, hd, ?_⟩
  rcases h with ⟨hf, hq⟩ | ⟨hf, hq⟩
  · rw [hf]
    exact hq
  · rw [hf]
    exact hq
end Dx

set_option autoImplicit false
set_option linter.all false
set_option maxRecDepth 100000
set_option maxHeartbeats 2000000
namespace Dx
def c_steps_of : Ct Gm := fun ds g Q _ => ∃ n as p, ds = [trk n as, .int (p : Nat)] ∧ p < n ∧ Q (.lst ((frm as p).map stD)) g
theorem l_steps_of : ∀ ds g q e, c_steps_of ds g q e → ds.length = 2 := fun _ _ _ _ ⟨_, _, _, h, _⟩ => by rw [h]; rfl
def b_steps_of : DS Gm := (sRet (dBin wIx (dUn (wFld ["Track"] 2) (dVar 0)) (dVar 1)))
theorem k_steps_of : Keeps 2 c_steps_of b_steps_of := by
  rintro ds g Q E ⟨n, as, p, rfl, hp, hq⟩
  refine ⟨List.mem_singleton.mpr rfl, _, rfl, ?_⟩
  exact wIx_lst (kept_get hp) hq
end Dx

set_option autoImplicit false
set_option linter.all false
set_option maxRecDepth 100000
set_option maxHeartbeats 2000000
namespace Dx
def c_is_stake_there : Ct Gm := fun ds g Q _ => ∃ n as p d, ds = [trk n as, .int (p : Nat), d] ∧ p < n ∧ as.length ≤ 1000000 ∧ nref d = true ∧ (∀ xs, d = .tup xs → xs.length ≤ 1000000 ∧ ∀ x ∈ xs, nref x = true) ∧ Q (.bl (stakeB as p d)) g
theorem l_is_stake_there : ∀ ds g q e, c_is_stake_there ds g q e → ds.length = 3 := fun _ _ _ _ ⟨_, _, _, _, h, _⟩ => by rw [h]; rfl
def b_is_stake_there : DS Gm := (sSeq (sIf (tOr (tNot (tVal (dIs ["tuple"] (dVar 2)))) (tVal (dBin wNe (dB bLen (aCons (dVar 2) aNil)) (dB bLen (aCons (dCall c_steps_of (aCons (dVar 0) (aCons (dVar 1) aNil))) aNil))))) (sRet (dC (.bl false))) sNil) (sRet (dB bAll (aCons (dComp (iE (dVar 2)) (gNm 3) cYes (dCall c_is_from (aCons (dVar 3) (aCons (dC (.int 0)) aNil))) [3]) aNil))))
theorem k_is_stake_there : Keeps 4 c_is_stake_there b_is_stake_there := by
  rintro ds g Q E ⟨n, as, p, d, rfl, hp, hal, hd, ht, hq⟩
  refine ⟨hd, ?_⟩
  cases d with
  | tup xs =>
    obtain ⟨hl, hx⟩ := ht xs rfl
    have hL : xs.length ≤ LIM := Nat.le_trans hl (by decide)
    refine ⟨hL, n, as, p, rfl, hp, ?_⟩
    refine ⟨by rw [List.length_map]; exact Nat.le_trans (frm_len as p) (Nat.le_trans hal (by decide)), eqOk_int _ _, ?_⟩
    replace hq : Q (.bl (decide (xs.length = (frm as p).length) && xs.all (fromB 0))) g := hq
    have e : deq (.int (xs.length : Nat)) (.int (((frm as p).map stD).length : Nat)) = decide (xs.length = (frm as p).length) := by
      rw [List.length_map]
      show decide _ = decide _
      exact decide_eq_decide.mpr (by omega)
    show if (!deq (.int (xs.length : Nat)) (.int (((frm as p).map stD).length : Nat))) = true then _ else _
    rw [e]
    refine ite_of (fun h => ?_) (fun h => ?_)
    · rw [Bool.not_eq_true'] at h
      rw [h] at hq
      exact hq
    · have h : decide (xs.length = (frm as p).length) = true := by simpa using h
      rw [h] at hq
      refine ⟨rfl, comp_of (fun x => some (.bl (fromB 0 x))) hL (fun x hxm KT KF h1 h2 => ?_) ?_⟩
      · exact ⟨rfl, rfl, x, 0, rfl, hx x hxm, rfl, h1 _ rfl⟩
      · refine ⟨xs.map (fromB 0), by rw [fm_some fun x => D.bl (fromB 0 x), List.map_map]; rfl, ?_⟩
        rw [all_id]
        exact hq
  | _ => exact hq
end Dx

set_option autoImplicit false
set_option linter.all false
set_option maxRecDepth 100000
set_option maxHeartbeats 2000000
namespace Dx
--NEED check_place_x check_coins_x is_stake_there
def c_is_stake : Ct Gm := fun ds g Q E => ∃ n as d m t, ds = [trk n as, d, m, t] ∧ TrkOk n as ∧ nref d = true ∧ nref m = true ∧ nref t = true ∧ (∀ xs, t = .tup xs → xs.length ≤ 1000000 ∧ ∀ x ∈ xs, nref x = true) ∧
  (inRng 0 ((n : Int) - 1) d = false ∧ E ⟨"NoPlace", []⟩ g ∨ inRng 0 ((n : Int) - 1) d = true ∧ (fromB 0 m = false ∧ E ⟨"NoCoins", []⟩ g ∨ ∃ (p : Nat) (k : Int), d = .int (p : Nat) ∧ p < n ∧ m = .int k ∧ 0 ≤ k ∧
    (stakeB as p t = false ∧ Q (.bl false) g ∨ ∃ ns : List Int, t = .tup (ns.map D.int) ∧ stakeB as p t = true ∧ Q (.bl (decide (ns.sum ≤ k))) g)))
theorem l_is_stake : ∀ ds g q e, c_is_stake ds g q e → ds.length = 4 := fun _ _ _ _ ⟨_, _, _, _, _, h, _⟩ => by rw [h]; rfl
def b_is_stake : DS Gm := (sSeq (sDrop (dCall c_check_place_x (aCons (dVar 0) (aCons (dVar 1) aNil)))) (sSeq (sDrop (dCall c_check_coins_x (aCons (dVar 2) aNil))) (sRet (dAnd (dCall c_is_stake_there (aCons (dVar 0) (aCons (dVar 1) (aCons (dVar 3) aNil)))) (dBin wLe (dB bSum (aCons (dVar 3) aNil)) (dVar 2))))))
theorem k_is_stake : Keeps 4 c_is_stake b_is_stake := by
  rintro ds g Q E ⟨n, as, d, m, t, rfl, ok, hd, hm, ht, htx, h⟩
  have l2 := ok.l2
  conv => whnf
  try dsimp only [start, wipeL_c, wipeL_n, List.set]
  refine ⟨n, as, d, rfl, hd, ?_⟩
  rcases h with ⟨hr, hE⟩ | ⟨hr, h⟩
  · exact .inr ⟨hr, hE⟩
  refine .inl ⟨hr, ?_⟩
  conv => whnf
  try dsimp only [start, wipeL_c, wipeL_n, List.set]
  refine ⟨m, rfl, hm, ?_⟩
  rcases h with ⟨hf, hE⟩ | ⟨p, k, rfl, hp, rfl, h0, h⟩
  · exact .inr ⟨hf, hE⟩
  have hk : fromB 0 (.int k) = true := decide_eq_true h0
  refine .inl ⟨hk, ?_⟩
  conv => whnf
  try dsimp only [start, wipeL_c, wipeL_n, List.set]
  refine ⟨n, as, p, t, rfl, hp, by omega, ht, htx, ?_⟩
  rcases h with ⟨hs, hq⟩ | ⟨ns, rfl, hs, hq⟩
  · rw [hs]
    conv => whnf
    try dsimp only [start, wipeL_c, wipeL_n, List.set]
    exact hq
  · rw [hs]
    conv => whnf
    try dsimp only [start, wipeL_c, wipeL_n, List.set]
    refine ⟨ns, rfl, ?_⟩
    exact hq
end Dx

set_option autoImplicit false
set_option linter.all false
set_option maxRecDepth 100000
set_option maxHeartbeats 2000000
namespace Dx
--NEED is_stake
def c_law_tried_v3 : Ct Gm := fun ds g Q _ => ∃ n as d m t, ds = [trk n as, d, m, t] ∧ TrkOk n as ∧ nref d = true ∧ nref m = true ∧ nref t = true ∧ (∀ xs, t = .tup xs → xs.length ≤ 1000000 ∧ ∀ x ∈ xs, nref x = true) ∧
  (inRng 0 ((n : Int) - 1) d = false ∧ Q (.str [112, 108, 97, 99, 101]) g ∨ inRng 0 ((n : Int) - 1) d = true ∧ (fromB 0 m = false ∧ Q (.str [99, 111, 105, 110, 115]) g ∨ ∃ (p : Nat) (k : Int), d = .int (p : Nat) ∧ p < n ∧ m = .int k ∧ 0 ≤ k ∧
    (stakeB as p t = false ∧ Q (.bl false) g ∨ ∃ ns : List Int, t = .tup (ns.map D.int) ∧ stakeB as p t = true ∧ Q (.bl (decide (ns.sum ≤ k))) g)))
theorem l_law_tried_v3 : ∀ ds g q e, c_law_tried_v3 ds g q e → ds.length = 4 := fun _ _ _ _ ⟨_, _, _, _, _, h, _⟩ => by rw [h]; rfl
def b_law_tried_v3 : DS Gm := (sSeq (sSet 4 (dC (.str [111, 116, 104, 101, 114]))) (sSeq (sTry ["NoCoins", "NoPlace"] (sSet 4 (dCall c_is_stake (aCons (dVar 0) (aCons (dVar 1) (aCons (dVar 2) (aCons (dVar 3) aNil)))))) [⟨"StakeError", some 5, fun e => (sSeq (sSet 6 (dLst (aCons (dIsX 5 e "NoPlace") (aCons (dIsX 5 e "NoCoins") (aCons (dIsX 5 e "NoStake") aNil))))) (sSet 4 (dJoin (dC (.str [32])) (dComp (iR1 (dC (.int 3))) (gNm 7) (tVal (dBin wIx (dVar 6) (dVar 7))) (dBin wIx (dLst (aCons (dC (.str [112, 108, 97, 99, 101])) (aCons (dC (.str [99, 111, 105, 110, 115])) (aCons (dC (.str [115, 116, 97, 107, 101])) aNil)))) (dVar 7)) [7]))))⟩]) (sRet (dVar 4))))
theorem k_law_tried_v3 : Keeps 8 c_law_tried_v3 b_law_tried_v3 := by
  rintro ds g Q E ⟨n, as, d, m, t, rfl, ok, hd, hm, ht, htx, h⟩
  conv => whnf
  try dsimp only [start, wipeL_c, wipeL_n, List.set]
  refine ⟨n, as, d, m, t, rfl, ok, hd, hm, ht, htx, ?_⟩
  rcases h with ⟨hr, hq⟩ | ⟨hr, h⟩
  · refine .inl ⟨hr, by decide, ?_⟩
    conv => whnf
    try dsimp only [start, wipeL_c, wipeL_n, List.set]
    intro a dx hdx
    conv => whnf
    try dsimp only [start, wipeL_c, wipeL_n, List.set]
    refine ⟨rfl, ?_⟩
    rw [show xSub "NoPlace" "NoPlace" = true by decide]
    conv => whnf
    try dsimp only [start, wipeL_c, wipeL_n, List.set]
    refine ⟨rfl, ?_⟩
    rw [show xSub "NoPlace" "NoCoins" = false by decide]
    conv => whnf
    try dsimp only [start, wipeL_c, wipeL_n, List.set]
    refine ⟨rfl, ?_⟩
    rw [show xSub "NoPlace" "NoStake" = false by decide]
    conv => whnf
    try dsimp only [start, wipeL_c, wipeL_n, List.set]
    refine ⟨by show (3 : Nat) ≤ LIM; decide, ?_⟩
    conv => whnf
    try dsimp only [start, wipeL_c, wipeL_n, List.set]
    refine ⟨by decide, by decide, ?_⟩
    refine ⟨rfl, comp_map (as := List.range 3) (h := fun (j : Nat) => D.int (0 + (j : Nat))) (fun j => if j = 0 then some (.str [112, 108, 97, 99, 101]) else none) (by show (3 : Nat) ≤ LIM; decide) (fun j hj KT KF h1 h2 => ?_) ?_⟩
    · have hj : j = 0 ∨ j = 1 ∨ j = 2 := by have := List.mem_range.mp hj; omega
      rcases hj with rfl | rfl | rfl
      · conv => whnf
        try dsimp only [start, wipeL_c, wipeL_n, List.set]
        refine ⟨rfl, ?_⟩
        conv => whnf
        try dsimp only [start, wipeL_c, wipeL_n, List.set]
        refine wIx_lst (p := 0) (d := .bl true) rfl ?_
        conv => whnf
        try dsimp only [start, wipeL_c, wipeL_n, List.set]
        refine ⟨rfl, ?_⟩
        conv => whnf
        try dsimp only [start, wipeL_c, wipeL_n, List.set]
        refine ⟨by show (3 : Nat) ≤ LIM; decide, ?_⟩
        conv => whnf
        try dsimp only [start, wipeL_c, wipeL_n, List.set]
        refine wIx_lst (p := 0) (d := .str [112, 108, 97, 99, 101]) rfl ?_
        exact ⟨rfl, h1 _ rfl⟩
      · conv => whnf
        try dsimp only [start, wipeL_c, wipeL_n, List.set]
        refine ⟨rfl, ?_⟩
        conv => whnf
        try dsimp only [start, wipeL_c, wipeL_n, List.set]
        refine wIx_lst (p := 1) (d := .bl false) rfl ?_
        conv => whnf
        try dsimp only [start, wipeL_c, wipeL_n, List.set]
        refine ⟨rfl, ?_⟩
        exact h2 rfl
      · conv => whnf
        try dsimp only [start, wipeL_c, wipeL_n, List.set]
        refine ⟨rfl, ?_⟩
        conv => whnf
        try dsimp only [start, wipeL_c, wipeL_n, List.set]
        refine wIx_lst (p := 2) (d := .bl false) rfl ?_
        conv => whnf
        try dsimp only [start, wipeL_c, wipeL_n, List.set]
        refine ⟨rfl, ?_⟩
        exact h2 rfl
    rw [show ((List.range 3).filterMap fun j => if j = 0 then some (D.str [112, 108, 97, 99, 101]) else none) = [D.str [112, 108, 97, 99, 101]] from rfl]
    conv => whnf
    try dsimp only [start, wipeL_c, wipeL_n, List.set]
    refine ⟨[[112, 108, 97, 99, 101]], rfl, by show (5 + 1 * 1 : Nat) ≤ LIM; decide, ?_⟩
    exact hq
  refine .inr ⟨hr, ?_⟩
  rcases h with ⟨hf, hq⟩ | ⟨p, k, rfl, hp, rfl, h0, h⟩
  · refine .inl ⟨hf, by decide, ?_⟩
    conv => whnf
    try dsimp only [start, wipeL_c, wipeL_n, List.set]
    intro a dx hdx
    conv => whnf
    try dsimp only [start, wipeL_c, wipeL_n, List.set]
    refine ⟨rfl, ?_⟩
    rw [show xSub "NoCoins" "NoPlace" = false by decide]
    conv => whnf
    try dsimp only [start, wipeL_c, wipeL_n, List.set]
    refine ⟨rfl, ?_⟩
    rw [show xSub "NoCoins" "NoCoins" = true by decide]
    conv => whnf
    try dsimp only [start, wipeL_c, wipeL_n, List.set]
    refine ⟨rfl, ?_⟩
    rw [show xSub "NoCoins" "NoStake" = false by decide]
    conv => whnf
    try dsimp only [start, wipeL_c, wipeL_n, List.set]
    refine ⟨by show (3 : Nat) ≤ LIM; decide, ?_⟩
    conv => whnf
    try dsimp only [start, wipeL_c, wipeL_n, List.set]
    refine ⟨by decide, by decide, ?_⟩
    refine ⟨rfl, comp_map (as := List.range 3) (h := fun (j : Nat) => D.int (0 + (j : Nat))) (fun j => if j = 1 then some (.str [99, 111, 105, 110, 115]) else none) (by show (3 : Nat) ≤ LIM; decide) (fun j hj KT KF h1 h2 => ?_) ?_⟩
    · have hj : j = 0 ∨ j = 1 ∨ j = 2 := by have := List.mem_range.mp hj; omega
      rcases hj with rfl | rfl | rfl
      · conv => whnf
        try dsimp only [start, wipeL_c, wipeL_n, List.set]
        refine ⟨rfl, ?_⟩
        conv => whnf
        try dsimp only [start, wipeL_c, wipeL_n, List.set]
        refine wIx_lst (p := 0) (d := .bl false) rfl ?_
        conv => whnf
        try dsimp only [start, wipeL_c, wipeL_n, List.set]
        refine ⟨rfl, ?_⟩
        exact h2 rfl
      · conv => whnf
        try dsimp only [start, wipeL_c, wipeL_n, List.set]
        refine ⟨rfl, ?_⟩
        conv => whnf
        try dsimp only [start, wipeL_c, wipeL_n, List.set]
        refine wIx_lst (p := 1) (d := .bl true) rfl ?_
        conv => whnf
        try dsimp only [start, wipeL_c, wipeL_n, List.set]
        refine ⟨rfl, ?_⟩
        conv => whnf
        try dsimp only [start, wipeL_c, wipeL_n, List.set]
        refine ⟨by show (3 : Nat) ≤ LIM; decide, ?_⟩
        conv => whnf
        try dsimp only [start, wipeL_c, wipeL_n, List.set]
        refine wIx_lst (p := 1) (d := .str [99, 111, 105, 110, 115]) rfl ?_
        exact ⟨rfl, h1 _ rfl⟩
      · conv => whnf
        try dsimp only [start, wipeL_c, wipeL_n, List.set]
        refine ⟨rfl, ?_⟩
        conv => whnf
        try dsimp only [start, wipeL_c, wipeL_n, List.set]
        refine wIx_lst (p := 2) (d := .bl false) rfl ?_
        conv => whnf
        try dsimp only [start, wipeL_c, wipeL_n, List.set]
        refine ⟨rfl, ?_⟩
        exact h2 rfl
    rw [show ((List.range 3).filterMap fun j => if j = 1 then some (D.str [99, 111, 105, 110, 115]) else none) = [D.str [99, 111, 105, 110, 115]] from rfl]
    conv => whnf
    try dsimp only [start, wipeL_c, wipeL_n, List.set]
    refine ⟨[[99, 111, 105, 110, 115]], rfl, by show (5 + 1 * 1 : Nat) ≤ LIM; decide, ?_⟩
    exact hq
  · refine .inr ⟨p, k, rfl, hp, rfl, h0, ?_⟩
    rcases h with ⟨hs, hq⟩ | ⟨ns, rfl, hs, hq⟩
    · exact .inl ⟨hs, hq⟩
    · exact .inr ⟨ns, rfl, hs, hq⟩
end Dx

set_option autoImplicit false
set_option linter.all false
set_option maxRecDepth 100000
set_option maxHeartbeats 2000000
namespace Dx
def c_law_steps : Ct Gm := fun ds g Q _ => ∃ as p, ds = [.tup (as.map arD), .int (p : Nat)] ∧ as.length ≤ LIM ∧ Q (.lst ((frm as p).map stD)) g
theorem l_law_steps : ∀ ds g q e, c_law_steps ds g q e → ds.length = 2 := fun _ _ _ _ ⟨_, _, h, _⟩ => by rw [h]; rfl
theorem fm_frm (p : Nat) : ∀ as : List Ar, (as.filterMap fun a => if decide ((a.p : Int) = (p : Int)) = true then some (stD a) else none) = (frm as p).map stD
  | [] => rfl
  | a :: as => by
    have ih := fm_frm p as
    unfold frm at ih ⊢
    rw [List.filterMap_cons, List.filter_cons]
    by_cases h : a.p = p
    · rw [if_pos (decide_eq_true (by rw [h])), if_pos (decide_eq_true h), ih]
      rfl
    · rw [if_neg (fun z => h (by have := of_decide_eq_true z; omega)), if_neg (fun z => h (of_decide_eq_true z)), ih]
def b_law_steps : DS Gm := (sRet (dComp (iE (dVar 0)) (gNm 2) (tVal (dBin wEq (dBin wIx (dVar 2) (dC (.int 0))) (dVar 1))) (dSl (dVar 2) (oSo (dC (.int 1))) oNo) [2]))
theorem k_law_steps : Keeps 3 c_law_steps b_law_steps := by
  rintro ds g Q E ⟨as, p, rfl, hl, hq⟩
  refine ⟨rfl, comp_map (as := as) (h := arD) (fun a => if decide ((a.p : Int) = (p : Int)) = true then some (stD a) else none) hl (fun a ha KT KF h1 h2 => ?_) ?_⟩
  · refine ⟨rfl, .int (a.p : Nat), rfl, eqOk_int _ _, rfl, ?_⟩
    refine ite_of (fun h => ?_) (fun h => ?_)
    · exact ⟨rfl, h1 _ (if_pos h)⟩
    · exact h2 (if_neg h)
  · rw [fm_frm]
    exact hq
end Dx

set_option autoImplicit false
set_option linter.all false
set_option maxRecDepth 100000
set_option maxHeartbeats 2000000
namespace Dx
/-- an odd thing, as a law judges it -/
def oddB (d : D) : Bool := nref d && (shw d && (decide (bnd d ≤ 1000) && (decide (dpt d ≤ 3) && match d with
  | .tup xs => decide (xs.length ≤ 3) && xs.all nref
  | _ => true)))
def odds (b : Int) : List D := [.non, .bl true, .bl false, .int 0, .int 1, .int (-1), .int b, .str [], .str [97], .tup [], .lst [], .dic false [], .tup [.int 0], .lst [.int 0], .tup [.int 0, .int 0], .tup [.int 1, .int 0], .tup [.int 0, .int 1], .tup [.bl true]]
def odds2 : List D := [.tup [.non], .tup [.int 0, .non], .tup [.int 0, .int 1, .int 2], .tup [.str [97]], .tup [.tup [.int 0]], .tup [.int (-1)], .tup [.int 0, .int (-1)], .tup [.int 5, .int 5], .str [97, 98], .tup [.int 1], .tup [.int 0, .int 2], .str [65]]
theorem odds_ok : ∀ d ∈ odds (10 ^ (30 : Int).toNat) ++ odds2, oddB d = true := by
  refine List.all_eq_true.mp ?_
  decide +kernel
def c_law_odd : Ct Gm := fun ds g Q _ => ∃ p, ds = [.ref p] ∧ IsTape g p ∧ ∀ d g', oddB d = true → IsTape g' p → Sm g g' p → Q d g'
theorem l_law_odd : ∀ ds g q e, c_law_odd ds g q e → ds.length = 1 := fun _ _ _ _ ⟨_, h, _⟩ => by rw [h]; rfl
def b_law_odd : DS Gm := (sSeq (sSet 1 (dLst (aCons (dC .non) (aCons (dC (.bl true)) (aCons (dC (.bl false)) (aCons (dC (.int 0)) (aCons (dC (.int 1)) (aCons (dUn wNeg (dC (.int 1))) (aCons (dBin wPow (dC (.int 10)) (dC (.int 30))) (aCons (dC (.str [])) (aCons (dC (.str [97])) (aCons (dTup aNil) (aCons (dLst aNil) (aCons (dDic false) (aCons (dTup (aCons (dC (.int 0)) aNil)) (aCons (dLst (aCons (dC (.int 0)) aNil)) (aCons (dTup (aCons (dC (.int 0)) (aCons (dC (.int 0)) aNil))) (aCons (dTup (aCons (dC (.int 1)) (aCons (dC (.int 0)) aNil))) (aCons (dTup (aCons (dC (.int 0)) (aCons (dC (.int 1)) aNil))) (aCons (dTup (aCons (dC (.bl true)) aNil)) aNil)))))))))))))))))))) (sSeq (sSet 1 (dBin wAdd (dVar 1) (dLst (aCons (dTup (aCons (dC .non) aNil)) (aCons (dTup (aCons (dC (.int 0)) (aCons (dC .non) aNil))) (aCons (dTup (aCons (dC (.int 0)) (aCons (dC (.int 1)) (aCons (dC (.int 2)) aNil)))) (aCons (dTup (aCons (dC (.str [97])) aNil)) (aCons (dTup (aCons (dTup (aCons (dC (.int 0)) aNil)) aNil)) (aCons (dTup (aCons (dUn wNeg (dC (.int 1))) aNil)) (aCons (dTup (aCons (dC (.int 0)) (aCons (dUn wNeg (dC (.int 1))) aNil))) (aCons (dTup (aCons (dC (.int 5)) (aCons (dC (.int 5)) aNil))) (aCons (dC (.str [97, 98])) (aCons (dTup (aCons (dC (.int 1)) aNil)) (aCons (dTup (aCons (dC (.int 0)) (aCons (dC (.int 2)) aNil))) (aCons (dC (.str [65])) aNil))))))))))))))) (sRet (dBin wIx (dVar 1) (dCall c_law_pick (aCons (dVar 0) (aCons (dB bLen (aCons (dVar 1) aNil)) aNil)))))))
theorem k_law_odd : Keeps 2 c_law_odd b_law_odd := by
  rintro ds g Q E ⟨p, rfl, ht, hq⟩
  conv => whnf
  try dsimp only [start, wipeL_c, wipeL_n, List.set]
  refine ⟨⟨by decide, by decide, by decide⟩, ?_⟩
  conv => whnf
  try dsimp only [start, wipeL_c, wipeL_n, List.set]
  refine ⟨by show (0 : Nat) ≤ LIM; decide, by show (0 : Nat) ≤ LIM; decide, by show (1 : Nat) ≤ LIM; decide, by show (1 : Nat) ≤ LIM; decide, by show (2 : Nat) ≤ LIM; decide, by show (2 : Nat) ≤ LIM; decide, by show (2 : Nat) ≤ LIM; decide, by show (1 : Nat) ≤ LIM; decide, by show (18 : Nat) ≤ LIM; decide, ?_⟩
  conv => whnf
  try dsimp only [start, wipeL_c, wipeL_n, List.set]
  refine ⟨by show (1 : Nat) ≤ LIM; decide, by show (2 : Nat) ≤ LIM; decide, by show (3 : Nat) ≤ LIM; decide, by show (1 : Nat) ≤ LIM; decide, by show (1 : Nat) ≤ LIM; decide, by show (1 : Nat) ≤ LIM; decide, by show (1 : Nat) ≤ LIM; decide, by show (2 : Nat) ≤ LIM; decide, by show (2 : Nat) ≤ LIM; decide, by show (1 : Nat) ≤ LIM; decide, by show (2 : Nat) ≤ LIM; decide, by show (12 : Nat) ≤ LIM; decide, ?_⟩
  conv => whnf
  try dsimp only [start, wipeL_c, wipeL_n, List.set]
  refine ⟨by show (30 : Nat) ≤ LIM; decide, ?_⟩
  conv => whnf
  try dsimp only [start, wipeL_c, wipeL_n, List.set]
  refine ⟨by show (30 : Nat) ≤ LIM; decide, ?_⟩
  conv => whnf
  try dsimp only [start, wipeL_c, wipeL_n, List.set]
  refine ⟨p, 30, rfl, ht, by decide, by decide, fun v g2 hv ht2 hs => ?_⟩
  have hv : v < (odds (10 ^ (30 : Int).toNat) ++ odds2).length := by
    show v < 30
    omega
  refine wIx_lst (p := v) (d := (odds (10 ^ (30 : Int).toNat) ++ odds2)[v]) (List.getElem?_eq_getElem hv) ?_
  exact hq _ g2 (odds_ok _ (List.getElem_mem hv)) ht2 hs
end Dx

set_option autoImplicit false
set_option linter.all false
set_option maxRecDepth 100000
set_option maxHeartbeats 2000000
namespace Dx
def c_law_is_int : Ct Gm := fun ds g Q _ => ∃ d k, ds = [d, .int k] ∧ nref d = true ∧ Q (.bl (fromB k d)) g
theorem l_law_is_int : ∀ ds g q e, c_law_is_int ds g q e → ds.length = 2 := fun _ _ _ _ ⟨_, _, h, _⟩ => by rw [h]; rfl
def b_law_is_int : DS Gm := (sRet (dAnd (dIs ["int"] (dVar 0)) (dAnd (dNot (dIs ["bool"] (dVar 0))) (dBin wGe (dVar 0) (dVar 1)))))
theorem k_law_is_int : Keeps 2 c_law_is_int b_law_is_int := by
  rintro ds g Q E ⟨d, k, rfl, hd, hq⟩
  conv => whnf
  try dsimp only [start, wipeL_c, wipeL_n, List.set]
  refine ⟨hd, ?_⟩
  cases d with
  | int i => exact ⟨rfl, hq⟩
  | bl b => exact ⟨rfl, hq⟩
  | _ => exact hq
end Dx

set_option autoImplicit false
set_option linter.all false
set_option maxRecDepth 100000
set_option maxHeartbeats 2000000
namespace Dx
def c_law_is_stake : Ct Gm := fun ds g Q _ => ∃ as p d, ds = [.tup (as.map arD), .int (p : Nat), d] ∧ as.length ≤ 1000000 ∧ nref d = true ∧ (∀ xs, d = .tup xs → xs.length ≤ 1000000 ∧ ∀ x ∈ xs, nref x = true) ∧ Q (.bl (stakeB as p d)) g
theorem l_law_is_stake : ∀ ds g q e, c_law_is_stake ds g q e → ds.length = 3 := fun _ _ _ _ ⟨_, _, _, h, _⟩ => by rw [h]; rfl
theorem filter_all {α : Type} (c : α → Bool) : ∀ xs : List α, deq (.int ((xs.filter fun x => !c x).length : Nat)) (.int 0) = xs.all c := fun xs => by
  show decide (((xs.filter fun x => !c x).length : Int) = 0) = _
  induction xs with
  | nil => rfl
  | cons x xs ih =>
    rw [List.filter_cons, List.all_cons]
    cases h : c x with
    | true =>
      rw [if_neg (by decide)]
      exact ih
    | false =>
      rw [if_pos (by decide), List.length_cons, Bool.false_and]
      exact decide_eq_false (by omega)
def b_law_is_stake : DS Gm := (sSeq (sIf (tOr (tNot (tVal (dIs ["tuple"] (dVar 2)))) (tVal (dBin wNe (dB bLen (aCons (dVar 2) aNil)) (dB bLen (aCons (dCall c_law_steps (aCons (dVar 0) (aCons (dVar 1) aNil))) aNil))))) (sRet (dC (.bl false))) sNil) (sRet (dBin wEq (dB bLen (aCons (dComp (iE (dVar 2)) (gNm 3) (tNot (tVal (dCall c_law_is_int (aCons (dVar 3) (aCons (dC (.int 0)) aNil))))) (dVar 3) [3]) aNil)) (dC (.int 0)))))
theorem k_law_is_stake : Keeps 4 c_law_is_stake b_law_is_stake := by
  rintro ds g Q E ⟨as, p, d, rfl, hal, hd, ht, hq⟩
  conv => whnf
  try dsimp only [start, wipeL_c, wipeL_n, List.set]
  refine ⟨hd, ?_⟩
  cases d with
  | tup xs =>
    obtain ⟨hl, hx⟩ := ht xs rfl
    have hL : xs.length ≤ LIM := lim_ok (by omega)
    have hf := frm_len as p
    conv => whnf
    try dsimp only [start, wipeL_c, wipeL_n, List.set]
    refine ⟨hL, ?_⟩
    conv => whnf
    try dsimp only [start, wipeL_c, wipeL_n, List.set]
    refine ⟨as, p, rfl, lim_ok (by omega), ?_⟩
    conv => whnf
    try dsimp only [start, wipeL_c, wipeL_n, List.set]
    refine ⟨lim_ok (by rw [List.length_map]; omega), ?_⟩
    conv => whnf
    try dsimp only [start, wipeL_c, wipeL_n, List.set]
    refine ⟨eqOk_int _ _, ?_⟩
    replace hq : Q (.bl (decide (xs.length = (frm as p).length) && xs.all (fromB 0))) g := hq
    have e : deq (.int (xs.length : Nat)) (.int (((frm as p).map stD).length : Nat)) = decide (xs.length = (frm as p).length) := by
      rw [List.length_map]
      show decide _ = decide _
      exact decide_eq_decide.mpr (by omega)
    rw [e]
    refine ite_of (fun h => ?_) (fun h => ?_)
    · rw [Bool.not_eq_true'] at h
      rw [h] at hq
      exact hq
    · have h : decide (xs.length = (frm as p).length) = true := by simpa using h
      rw [h] at hq
      conv => whnf
      try dsimp only [start, wipeL_c, wipeL_n, List.set]
      refine ⟨rfl, comp_of (fun x => if (!fromB 0 x) = true then some x else none) hL (fun x hxm KT KF h1 h2 => ?_) ?_⟩
      · conv => whnf
        try dsimp only [start, wipeL_c, wipeL_n, List.set]
        refine ⟨rfl, x, 0, rfl, hx x hxm, ?_⟩
        conv => whnf
        try dsimp only [start, wipeL_c, wipeL_n, List.set]
        refine ⟨rfl, ite_of (fun h => ?_) (fun h => ?_)⟩
        · exact ⟨rfl, h1 _ (if_pos h)⟩
        · exact h2 (if_neg h)
      · rw [fm_keep (fun x => x) (fun x => !fromB 0 x), List.map_id']
        have := List.length_filter_le (fun x => !fromB 0 x) xs
        conv => whnf
        try dsimp only [start, wipeL_c, wipeL_n, List.set]
        refine ⟨lim_ok (by omega), ?_⟩
        conv => whnf
        try dsimp only [start, wipeL_c, wipeL_n, List.set]
        refine ⟨eqOk_int _ _, ?_⟩
        rw [filter_all]
        exact hq
  | _ => exact hq
end Dx

set_option autoImplicit false
set_option linter.all false
set_option maxRecDepth 100000
set_option maxHeartbeats 2000000
namespace Dx
def c_law_flag : Ct Gm := fun ds g Q _ => ∃ a b : Bool, ds = [.bl a, .bl b] ∧ Q (.bl (decide (a = b))) g
theorem l_law_flag : ∀ ds g q e, c_law_flag ds g q e → ds.length = 2 := fun _ _ _ _ ⟨_, _, h, _⟩ => by rw [h]; rfl
def b_law_flag : DS Gm := (sRet (dAnd (dIs ["bool"] (dVar 0)) (dBin wEq (dVar 0) (dVar 1))))
theorem k_law_flag : Keeps 2 c_law_flag b_law_flag := by
  rintro ds g Q E ⟨a, b, rfl, hq⟩
  conv => whnf
  try dsimp only [start, wipeL_c, wipeL_n, List.set]
  refine ⟨rfl, ?_⟩
  conv => whnf
  try dsimp only [start, wipeL_c, wipeL_n, List.set]
  refine ⟨⟨rfl, rfl, Nat.zero_le _, Nat.zero_le _⟩, ?_⟩
  exact hq
end Dx

set_option autoImplicit false
set_option linter.all false
set_option maxRecDepth 100000
set_option maxHeartbeats 2000000
namespace Dx
--CUTS l2:4 l2:8 l2:10
--NEED law_odd law_tried_v3 law_flag law_is_stake law_is_int law_steps law_arrows law_tape is_stake
def c_law_k27 : Ct Gm := cLaw
theorem l_law_k27 : ∀ ds g q e, c_law_k27 ds g q e → ds.length = 1 := l_cLaw
/-- a thing that is asked for -/
structure Th27 (d : D) : Prop where
  nr : nref d = true
  sh : shw d = true
  bn : bnd d ≤ 100000
  dp : dpt d ≤ 4
  tp : ∀ xs, d = .tup xs → xs.length ≤ 100 ∧ ∀ x ∈ xs, nref x = true
theorem th27_odd {d : D} (h : oddB d = true) : Th27 d := by
  unfold oddB at h
  simp only [Bool.and_eq_true, decide_eq_true_eq] at h
  obtain ⟨h1, h2, h3, h4, h5⟩ := h
  refine ⟨h1, h2, by omega, by omega, fun xs e => ?_⟩
  subst e
  simp only [Bool.and_eq_true, decide_eq_true_eq] at h5
  exact ⟨by omega, fun x hx => List.all_eq_true.mp h5.2 x hx⟩
theorem th27_int {i : Int} (h : i.natAbs ≤ 1000) : Th27 (.int i) := ⟨rfl, decide_eq_true (Nat.lt_of_le_of_lt h (by decide)), by show (201 : Nat) ≤ 100000; decide, by show (0 : Nat) ≤ 4; decide, fun xs e => by cases e⟩
theorem stake_ints {as : List Ar} {p : Nat} {t : D} (h : stakeB as p t = true) : ∃ ns : List Int, t = .tup (ns.map D.int) := by
  cases t with
  | tup xs =>
    have h2 : (decide (xs.length = (frm as p).length) && xs.all (fromB 0)) = true := h
    rw [Bool.and_eq_true] at h2
    have : ∀ xs : List D, xs.all (fromB 0) = true → ∃ ns : List Int, xs = ns.map D.int := by
      intro xs
      induction xs with
      | nil => intro _; exact ⟨[], rfl⟩
      | cons x xs ih =>
        intro h
        rw [List.all_cons, Bool.and_eq_true] at h
        obtain ⟨ns, rfl⟩ := ih h.2
        cases x with
        | int i => exact ⟨i :: ns, rfl⟩
        | _ => exact absurd h.1 (by simp [fromB])
    obtain ⟨ns, rfl⟩ := this xs h2.2
    exact ⟨ns, rfl⟩
  | _ => cases h
theorem rep27 {d m t : D} (hd : Th27 d) (hm : Th27 m) (ht : Th27 t) : shw (.tup [d, m, t]) = true ∧ bnd (.tup [d, m, t]) ≤ 15000000 ∧ dpt (.tup [d, m, t]) ≤ 100 := by
  have a1 := hd.bn
  have a2 := hm.bn
  have a3 := ht.bn
  have b1 := hd.dp
  have b2 := hm.dp
  have b3 := ht.dp
  refine ⟨?_, ?_, ?_⟩
  · simp only [shw, shws, hd.sh, hm.sh, ht.sh, Bool.and_true]
  · simp only [bnd, bnds]
    omega
  · simp only [dpt, dpts]
    omega
theorem many27 : ∀ (xs : List D), (∀ x ∈ xs, nref x = true ∧ shw x = true ∧ bnd x ≤ 1000 ∧ dpt x ≤ 2) → shws xs = true ∧ bnds xs ≤ 1002 * xs.length ∧ dpts xs ≤ 2
  | [], _ => ⟨rfl, Nat.le_refl _, Nat.zero_le _⟩
  | x :: xs, h => by
    obtain ⟨h1, h2, h3⟩ := many27 xs fun y hy => h y (List.mem_cons_of_mem _ hy)
    obtain ⟨_, a2, a3, a4⟩ := h x List.mem_cons_self
    refine ⟨by rw [shws, a2, h1]; rfl, ?_, ?_⟩
    · rw [bnds, List.length_cons]
      omega
    · show max (dpt x) (dpts xs) ≤ 2
      omega
theorem th27_tup {xs : List D} (h : ∀ x ∈ xs, nref x = true ∧ shw x = true ∧ bnd x ≤ 1000 ∧ dpt x ≤ 2) (hl : xs.length ≤ 80) : Th27 (.tup xs) := by
  obtain ⟨h1, h2, h3⟩ := many27 xs h
  refine ⟨rfl, by rw [shw]; exact h1, by rw [bnd]; omega, by rw [dpt]; omega, fun ys e => ?_⟩
  cases e
  exact ⟨by omega, fun x hx => (h x hx).1⟩
theorem th27_lst {xs : List D} (h : ∀ x ∈ xs, nref x = true ∧ shw x = true ∧ bnd x ≤ 1000 ∧ dpt x ≤ 2) (hl : xs.length ≤ 80) : Th27 (.lst xs) := by
  obtain ⟨h1, h2, h3⟩ := many27 xs h
  exact ⟨rfl, by rw [shw]; exact h1, by rw [bnd]; omega, by rw [dpt]; omega, fun ys e => by cases e⟩
theorem el27_int {i : Int} (h : i.natAbs < 10 ^ 200) : nref (.int i) = true ∧ shw (.int i) = true ∧ bnd (.int i) ≤ 1000 ∧ dpt (.int i) ≤ 2 := ⟨rfl, decide_eq_true h, by show (201 : Nat) ≤ 1000; decide, by show (0 : Nat) ≤ 2; decide⟩
theorem sum27 : ∀ S : List Nat, (S.map fun (x : Nat) => (x : Int)).sum = ((S.sum : Nat) : Int)
  | [] => rfl
  | x :: S => by
    rw [List.map_cons, List.sum_cons, sum27 S, List.sum_cons]
    omega
theorem sum_le27 : ∀ S : List Nat, (∀ x ∈ S, x < 5) → S.sum ≤ 4 * S.length
  | [], _ => Nat.le_refl _
  | x :: S, h => by
    have h1 := sum_le27 S fun y hy => h y (List.mem_cons_of_mem _ hy)
    have h2 := h x List.mem_cons_self
    rw [List.sum_cons, List.length_cons]
    omega
theorem rep0 : ∀ j : Nat, (List.replicate j [D.int 0]).flatten = (List.replicate j (0 : Int)).map D.int
  | 0 => rfl
  | j + 1 => by
    rw [List.replicate_succ, List.flatten_cons, rep0 j, List.replicate_succ]
    rfl
def b_law_k27_l1 : DS Gm := (sApp 11 (dBin wAdd (dBin wAdd (dSl (dVar 8) oNo (oSo (dVar 10))) (dTup (aCons (dVar 12) aNil))) (dSl (dVar 8) (oSo (dBin wAdd (dVar 10) (dC (.int 1)))) oNo)))
def b_law_k27_l2_c10 : DS Gm := (sSeq (sSet 15 (dB bRepr (aCons (dTup (aCons (dVar 13) (aCons (dVar 14) (aCons (dVar 12) aNil)))) aNil))) (sSeq (sSet 16 (dCall c_law_tried_v3 (aCons (dVar 4) (aCons (dVar 13) (aCons (dVar 14) (aCons (dVar 12) aNil)))))) (sSeq (sIf (tVal (dBin wNeS (dB bRepr (aCons (dTup (aCons (dVar 13) (aCons (dVar 14) (aCons (dVar 12) aNil)))) aNil)) (dVar 15))) (sRet (dC (.bl false))) sNil) (sIf (tOr (tNot (tVal (dCall c_law_is_int (aCons (dVar 13) (aCons (dC (.int 0)) aNil))))) (tVal (dBin wGe (dVar 13) (dVar 2)))) (sIf (tVal (dBin wNe (dVar 16) (dC (.str [112, 108, 97, 99, 101])))) (sRet (dC (.bl false))) sNil) (sIf (tNot (tVal (dCall c_law_is_int (aCons (dVar 14) (aCons (dC (.int 0)) aNil))))) (sIf (tVal (dBin wNe (dVar 16) (dC (.str [99, 111, 105, 110, 115])))) (sRet (dC (.bl false))) sNil) (sSeq (sSet 17 (dAnd (dCall c_law_is_stake (aCons (dVar 3) (aCons (dVar 13) (aCons (dVar 12) aNil)))) (dBin wLe (dB bSum (aCons (dVar 12) aNil)) (dVar 14)))) (sIf (tNot (tVal (dCall c_law_flag (aCons (dVar 16) (aCons (dVar 17) aNil))))) (sRet (dC (.bl false))) sNil)))))))
def b_law_k27_l2_c8 : DS Gm := (sSeq (sSet 13 (dBin wIx (dLst (aCons (dVar 6) (aCons (dVar 6) (aCons (dVar 6) (aCons (dVar 2) (aCons (dUn wNeg (dC (.int 1))) (aCons (dC .non) (aCons (dC (.bl true)) (aCons (dC (.str [48])) (aCons (dCall c_law_odd (aCons (dVar 1) aNil)) aNil)))))))))) (dCall c_law_pick (aCons (dVar 1) (aCons (dC (.int 9)) aNil))))) (sSeq (sSet 14 (dBin wIx (dLst (aCons (dVar 9) (aCons (dVar 9) (aCons (dB bSum (aCons (dVar 8) aNil)) (aCons (dB bMax2 (aCons (dC (.int 0)) (aCons (dBin wSub (dB bSum (aCons (dVar 8) aNil)) (dC (.int 1))) aNil))) (aCons (dUn wNeg (dC (.int 1))) (aCons (dC (.bl true)) (aCons (dC .non) (aCons (dCall c_law_odd (aCons (dVar 1) aNil)) aNil))))))))) (dCall c_law_pick (aCons (dVar 1) (aCons (dC (.int 8)) aNil))))) b_law_k27_l2_c10))
def b_law_k27_l2_c4 : DS Gm := (sSeq (sSet 10 (dCall c_law_pick (aCons (dVar 1) (aCons (dVar 7) aNil)))) (sSeq (sOwn 11 (dLst (aCons (dVar 8) (aCons (dVar 8) (aCons (dBin wAdd (dVar 8) (dTup (aCons (dC (.int 0)) aNil))) (aCons (dSl (dVar 8) (oSo (dC (.int 1))) oNo) (aCons (dB bList (aCons (dVar 8) aNil)) (aCons (dCall c_law_odd (aCons (dVar 1) aNil)) (aCons (dC .non) aNil))))))))) (sSeq (sFor (iE (dLst (aCons (dUn wNeg (dC (.int 1))) (aCons (dC (.bl true)) (aCons (dC .non) (aCons (dC (.str [49])) (aCons (dBin wPow (dC (.int 10)) (dC (.int 30))) (aCons (dTup (aCons (dC (.int 1)) aNil)) (aCons (dBin wAdd (dVar 9) (dC (.int 1))) aNil))))))))) (gNm 12) b_law_k27_l1) (sSeq (sSet 12 (dBinO wIx 11 (dCall c_law_pick (aCons (dVar 1) (aCons (dC (.int 14)) aNil))))) b_law_k27_l2_c8))))
def b_law_k27_l2 : DS Gm := (sSeq (sSet 6 (dCall c_law_pick (aCons (dVar 1) (aCons (dVar 2) aNil)))) (sSeq (sSet 7 (dB bLen (aCons (dCall c_law_steps (aCons (dVar 3) (aCons (dVar 6) aNil))) aNil))) (sSeq (sSet 8 (dB bTuple (aCons (dComp (iR1 (dVar 7)) (gNm 18) cYes (dCall c_law_pick (aCons (dVar 1) (aCons (dC (.int 5)) aNil))) [18]) aNil))) (sSeq (sSet 9 (dBin wAdd (dB bSum (aCons (dVar 8) aNil)) (dCall c_law_pick (aCons (dVar 1) (aCons (dC (.int 3)) aNil))))) b_law_k27_l2_c4))))
def b_law_k27 : DS Gm := (sSeq (sSet 1 (dCall c_law_tape (aCons (dVar 0) aNil))) (sSeq (sSet 2 (dBin wAdd (dC (.int 1)) (dCall c_law_pick (aCons (dVar 1) (aCons (dC (.int 3)) aNil))))) (sSeq (sSet 3 (dCall c_law_arrows (aCons (dVar 1) (aCons (dVar 2) (aCons (dC (.int 4)) aNil))))) (sSeq (sSet 4 (dCall cTrack (aCons (dVar 2) (aCons (dVar 3) aNil)))) (sSeq (sFor (iR1 (dC (.int 6))) (gNm 5) b_law_k27_l2) (sRet (dBin wIsB (dCall c_is_stake (aCons (dVar 4) (aCons (dC (.int 0)) (aCons (dC (.int 0)) (aCons (dBin wMul (dTup (aCons (dC (.int 0)) aNil)) (dB bLen (aCons (dCall c_law_steps (aCons (dVar 3) (aCons (dC (.int 0)) aNil))) aNil))) aNil))))) (dC (.bl true)))))))))
theorem t_k27_c10 (ex : XW Gm) (E : En Gm) (g : Gm) (q n : Nat) (as : List Ar) (d m t : D) (v0 v5 v6 v7 v8 v9 v10 v11 v15 v16 v17 : SV) (ok : TrkOk n as) (hd : Th27 d) (hm : Th27 m) (ht : Th27 t)
    (hE : ∀ v15 v16 v17, E.nx [v0, .va (.ref q), .va (.int (n : Nat)), .va (.tup (as.map arD)), .va (trk n as), v5, v6, v7, v8, v9, v10, v11, .va t, .va d, .va m, v15, v16, v17, .no] g) :
    b_law_k27_l2_c10 ex E [v0, .va (.ref q), .va (.int (n : Nat)), .va (.tup (as.map arD)), .va (trk n as), v5, v6, v7, v8, v9, v10, v11, .va t, .va d, .va m, v15, v16, v17, .no] g := by
  have l2 := ok.l2
  have hR := rep27 hd hm ht
  have h3 : ([d, m, t] : List D).length ≤ LIM := by show (3 : Nat) ≤ LIM; decide
  have htx : ∀ xs, t = .tup xs → xs.length ≤ 1000000 ∧ ∀ x ∈ xs, nref x = true := fun xs e => ⟨by have := (ht.tp xs e).1; omega, (ht.tp xs e).2⟩
  conv => whnf
  try dsimp only [start, wipeL_c, wipeL_n, List.set]
  refine ⟨h3, ?_⟩
  conv => whnf
  try dsimp only [start, wipeL_c, wipeL_n, List.set]
  refine ⟨hR, ?_⟩
  conv => whnf
  try dsimp only [start, wipeL_c, wipeL_n, List.set]
  refine ⟨n, as, d, m, t, rfl, ok, hd.nr, hm.nr, ht.nr, htx, ?_⟩
  cases hr : inRng 0 ((n : Int) - 1) d with
  | false =>
    refine .inl ⟨rfl, ?_⟩
    conv => whnf
    try dsimp only [start, wipeL_c, wipeL_n, List.set]
    refine ⟨h3, ?_⟩
    conv => whnf
    try dsimp only [start, wipeL_c, wipeL_n, List.set]
    refine ⟨hR, ?_⟩
    conv => whnf
    try dsimp only [start, wipeL_c, wipeL_n, List.set]
    refine ite_of (fun h => ?_) (fun _ => ?_)
    · rw [decide_eq_true (rfl : rpr (.tup [d, m, t]) = rpr (.tup [d, m, t]))] at h
      cases h
    conv => whnf
    try dsimp only [start, wipeL_c, wipeL_n, List.set]
    refine ⟨d, 0, rfl, hd.nr, ?_⟩
    refine ite_of (fun h2 => ?_) (fun h2 => ?_)
    · conv => whnf
      try dsimp only [start, wipeL_c, wipeL_n, List.set]
      refine ⟨⟨by decide, by decide, Nat.zero_le _, Nat.zero_le _⟩, ?_⟩
      rw [show (!deq (.str [112, 108, 97, 99, 101]) (.str [112, 108, 97, 99, 101])) = false by simp [deq]]
      conv => whnf
      try dsimp only [start, wipeL_c, wipeL_n, List.set]
      exact hE _ _ _
    · obtain ⟨i, rfl, h0⟩ : ∃ i, d = .int i ∧ (0 : Int) ≤ i := by
        cases d with
        | int i => exact ⟨i, rfl, by simpa [fromB] using h2⟩
        | _ => exact absurd rfl h2
      have hi : ((n : Nat) : Int) ≤ i := by
        have h4 : (decide ((0 : Int) ≤ i) && decide (i ≤ (n : Int) - 1)) = false := hr
        rw [decide_eq_true h0, Bool.true_and] at h4
        have := of_decide_eq_false h4
        omega
      conv => whnf
      try dsimp only [start, wipeL_c, wipeL_n, List.set]
      rw [decide_eq_true hi]
      conv => whnf
      try dsimp only [start, wipeL_c, wipeL_n, List.set]
      refine ⟨⟨by decide, by decide, Nat.zero_le _, Nat.zero_le _⟩, ?_⟩
      rw [show (!deq (.str [112, 108, 97, 99, 101]) (.str [112, 108, 97, 99, 101])) = false by simp [deq]]
      conv => whnf
      try dsimp only [start, wipeL_c, wipeL_n, List.set]
      exact hE _ _ _
  | true =>
    refine .inr ⟨rfl, ?_⟩
    obtain ⟨i, rfl, i0, i1⟩ := inRng_int hr
    obtain ⟨p, rfl⟩ : ∃ p : Nat, i = (p : Nat) := ⟨i.toNat, by omega⟩
    have hp : p < n := by omega
    cases hf : fromB 0 m with
    | false =>
      refine .inl ⟨rfl, ?_⟩
      conv => whnf
      try dsimp only [start, wipeL_c, wipeL_n, List.set]
      refine ⟨h3, ?_⟩
      conv => whnf
      try dsimp only [start, wipeL_c, wipeL_n, List.set]
      refine ⟨hR, ?_⟩
      conv => whnf
      try dsimp only [start, wipeL_c, wipeL_n, List.set]
      refine ite_of (fun h => ?_) (fun _ => ?_)
      · rw [decide_eq_true (rfl : rpr (.tup [.int (p : Nat), m, t]) = rpr (.tup [.int (p : Nat), m, t]))] at h
        cases h
      conv => whnf
      try dsimp only [start, wipeL_c, wipeL_n, List.set]
      refine ⟨.int (p : Nat), 0, rfl, rfl, ?_⟩
      refine ite_of (fun h2 => ?_) (fun _ => ?_)
      · have h4 : (!decide ((0 : Int) ≤ (p : Nat))) = true := h2
        rw [decide_eq_true (by omega)] at h4
        cases h4
      conv => whnf
      try dsimp only [start, wipeL_c, wipeL_n, List.set]
      rw [decide_eq_false (show ¬ ((n : Nat) : Int) ≤ (p : Nat) by omega)]
      conv => whnf
      try dsimp only [start, wipeL_c, wipeL_n, List.set]
      refine ⟨m, 0, rfl, hm.nr, ?_⟩
      rw [hf]
      conv => whnf
      try dsimp only [start, wipeL_c, wipeL_n, List.set]
      refine ⟨⟨by decide, by decide, Nat.zero_le _, Nat.zero_le _⟩, ?_⟩
      rw [show (!deq (.str [99, 111, 105, 110, 115]) (.str [99, 111, 105, 110, 115])) = false by simp [deq]]
      conv => whnf
      try dsimp only [start, wipeL_c, wipeL_n, List.set]
      exact hE _ _ _
    | true =>
      obtain ⟨k, rfl, k0⟩ : ∃ k, m = .int k ∧ (0 : Int) ≤ k := by
        cases m with
        | int k => exact ⟨k, rfl, of_decide_eq_true hf⟩
        | _ => cases hf
      refine .inr ⟨p, k, rfl, hp, rfl, k0, ?_⟩
      cases hs : stakeB as p t with
      | false =>
        refine .inl ⟨rfl, ?_⟩
        conv => whnf
        try dsimp only [start, wipeL_c, wipeL_n, List.set]
        refine ⟨h3, ?_⟩
        conv => whnf
        try dsimp only [start, wipeL_c, wipeL_n, List.set]
        refine ⟨hR, ?_⟩
        conv => whnf
        try dsimp only [start, wipeL_c, wipeL_n, List.set]
        refine ite_of (fun h => ?_) (fun _ => ?_)
        · rw [decide_eq_true (rfl : rpr (.tup [.int (p : Nat), .int k, t]) = rpr (.tup [.int (p : Nat), .int k, t]))] at h
          cases h
        conv => whnf
        try dsimp only [start, wipeL_c, wipeL_n, List.set]
        refine ⟨.int (p : Nat), 0, rfl, rfl, ?_⟩
        refine ite_of (fun h2 => ?_) (fun _ => ?_)
        · have h4 : (!decide ((0 : Int) ≤ (p : Nat))) = true := h2
          rw [decide_eq_true (by omega)] at h4
          cases h4
        conv => whnf
        try dsimp only [start, wipeL_c, wipeL_n, List.set]
        rw [decide_eq_false (show ¬ ((n : Nat) : Int) ≤ (p : Nat) by omega)]
        conv => whnf
        try dsimp only [start, wipeL_c, wipeL_n, List.set]
        refine ⟨.int k, 0, rfl, rfl, ?_⟩
        rw [hf]
        conv => whnf
        try dsimp only [start, wipeL_c, wipeL_n, List.set]
        refine ⟨as, p, t, rfl, by omega, ht.nr, htx, ?_⟩
        rw [hs]
        conv => whnf
        try dsimp only [start, wipeL_c, wipeL_n, List.set]
        refine ⟨false, false, rfl, ?_⟩
        conv => whnf
        try dsimp only [start, wipeL_c, wipeL_n, List.set]
        exact hE _ _ _
      | true =>
        obtain ⟨ns, rfl⟩ := stake_ints hs
        refine .inr ⟨ns, rfl, rfl, ?_⟩
        conv => whnf
        try dsimp only [start, wipeL_c, wipeL_n, List.set]
        refine ⟨h3, ?_⟩
        conv => whnf
        try dsimp only [start, wipeL_c, wipeL_n, List.set]
        refine ⟨hR, ?_⟩
        conv => whnf
        try dsimp only [start, wipeL_c, wipeL_n, List.set]
        refine ite_of (fun h => ?_) (fun _ => ?_)
        · rw [decide_eq_true (rfl : rpr (.tup [.int (p : Nat), .int k, .tup (ns.map D.int)]) = rpr (.tup [.int (p : Nat), .int k, .tup (ns.map D.int)]))] at h
          cases h
        conv => whnf
        try dsimp only [start, wipeL_c, wipeL_n, List.set]
        refine ⟨.int (p : Nat), 0, rfl, rfl, ?_⟩
        refine ite_of (fun h2 => ?_) (fun _ => ?_)
        · have h4 : (!decide ((0 : Int) ≤ (p : Nat))) = true := h2
          rw [decide_eq_true (by omega)] at h4
          cases h4
        conv => whnf
        try dsimp only [start, wipeL_c, wipeL_n, List.set]
        rw [decide_eq_false (show ¬ ((n : Nat) : Int) ≤ (p : Nat) by omega)]
        conv => whnf
        try dsimp only [start, wipeL_c, wipeL_n, List.set]
        refine ⟨.int k, 0, rfl, rfl, ?_⟩
        rw [hf]
        conv => whnf
        try dsimp only [start, wipeL_c, wipeL_n, List.set]
        refine ⟨as, p, .tup (ns.map D.int), rfl, by omega, rfl, htx, ?_⟩
        rw [hs]
        conv => whnf
        try dsimp only [start, wipeL_c, wipeL_n, List.set]
        refine ⟨ns, rfl, ?_⟩
        conv => whnf
        try dsimp only [start, wipeL_c, wipeL_n, List.set]
        refine ⟨decide (ns.sum ≤ k), decide (ns.sum ≤ k), rfl, ?_⟩
        rw [decide_eq_true (rfl : decide (ns.sum ≤ k) = decide (ns.sum ≤ k))]
        conv => whnf
        try dsimp only [start, wipeL_c, wipeL_n, List.set]
        exact hE _ _ _
theorem th27_s {d : D} (h : (nref d && (shw d && (decide (bnd d ≤ 1000) && (decide (dpt d ≤ 3) && match d with
  | .tup xs => decide (xs.length ≤ 3) && xs.all nref
  | _ => true)))) = true) : Th27 d := th27_odd h
theorem t_k27_c8 (ex : XW Gm) (E : En Gm) (g : Gm) (q n p c : Nat) (as : List Ar) (S : List Nat) (t : D) (v0 v5 v7 v10 v11 v13 v14 v15 v16 v17 : SV) (ok : TrkOk n as) (hp : p < n) (hc : c ≤ 300) (hS : ((S.map fun (x : Nat) => (x : Int)).sum).natAbs ≤ 300) (h0 : 0 ≤ (S.map fun (x : Nat) => (x : Int)).sum) (ht : Th27 t) (hT : IsTape g q)
    (hE : ∀ g' v13 v14 v15 v16 v17, IsTape g' q → E.nx [v0, .va (.ref q), .va (.int (n : Nat)), .va (.tup (as.map arD)), .va (trk n as), v5, .va (.int (p : Nat)), v7, .va (.tup (nD S)), .va (.int (c : Nat)), v10, v11, .va t, v13, v14, v15, v16, v17, .no] g') :
    b_law_k27_l2_c8 ex E [v0, .va (.ref q), .va (.int (n : Nat)), .va (.tup (as.map arD)), .va (trk n as), v5, .va (.int (p : Nat)), v7, .va (.tup (nD S)), .va (.int (c : Nat)), v10, v11, .va t, v13, v14, v15, v16, v17, .no] g := by
  have n2 := ok.n2
  conv => whnf
  try dsimp only [start, wipeL_c, wipeL_n, List.set]
  refine ⟨q, rfl, hT, fun o1 g2 ho1 hT2 _ => ?_⟩
  conv => whnf
  try dsimp only [start, wipeL_c, wipeL_n, List.set]
  refine ⟨by show (9 : Nat) ≤ LIM; decide, ?_⟩
  conv => whnf
  try dsimp only [start, wipeL_c, wipeL_n, List.set]
  refine ⟨q, 9, rfl, hT2, by decide, by decide, fun w g3 hw hT3 _ => ?_⟩
  obtain ⟨d, hd, hget⟩ : ∃ d, Th27 d ∧ ([.int (p : Nat), .int (p : Nat), .int (p : Nat), .int (n : Nat), .int (-1), .non, .bl true, .str [48], o1] : List D)[w]? = some d := by
    have : w = 0 ∨ w = 1 ∨ w = 2 ∨ w = 3 ∨ w = 4 ∨ w = 5 ∨ w = 6 ∨ w = 7 ∨ w = 8 := by omega
    rcases this with rfl | rfl | rfl | rfl | rfl | rfl | rfl | rfl | rfl
    · exact ⟨_, th27_int (by omega), rfl⟩
    · exact ⟨_, th27_int (by omega), rfl⟩
    · exact ⟨_, th27_int (by omega), rfl⟩
    · exact ⟨_, th27_int (by omega), rfl⟩
    · exact ⟨_, th27_int (by decide), rfl⟩
    · exact ⟨_, th27_odd (by decide +kernel), rfl⟩
    · exact ⟨_, th27_odd (by decide +kernel), rfl⟩
    · exact ⟨_, th27_odd (by decide +kernel), rfl⟩
    · exact ⟨_, th27_odd ho1, rfl⟩
  refine wIx_lst hget ?_
  conv => whnf
  try dsimp only [start, wipeL_c, wipeL_n, List.set]
  refine ⟨S.map fun (x : Nat) => (x : Int), by unfold nD; rw [List.map_map]; rfl, ?_⟩
  conv => whnf
  try dsimp only [start, wipeL_c, wipeL_n, List.set]
  refine ⟨S.map fun (x : Nat) => (x : Int), by unfold nD; rw [List.map_map]; rfl, ?_⟩
  generalize (S.map fun (x : Nat) => (x : Int)).sum = sm at hS h0
  conv => whnf
  try dsimp only [start, wipeL_c, wipeL_n, List.set]
  refine ⟨q, rfl, hT3, fun o2 g4 ho2 hT4 _ => ?_⟩
  conv => whnf
  try dsimp only [start, wipeL_c, wipeL_n, List.set]
  refine ⟨by show (8 : Nat) ≤ LIM; decide, ?_⟩
  conv => whnf
  try dsimp only [start, wipeL_c, wipeL_n, List.set]
  refine ⟨q, 8, rfl, hT4, by decide, by decide, fun w2 g5 hw2 hT5 _ => ?_⟩
  obtain ⟨m, hm, hget2⟩ : ∃ m, Th27 m ∧ ([.int (c : Nat), .int (c : Nat), .int sm, .int (if sm - 1 > 0 then sm - 1 else 0), .int (-1), .bl true, .non, o2] : List D)[w2]? = some m := by
    have : w2 = 0 ∨ w2 = 1 ∨ w2 = 2 ∨ w2 = 3 ∨ w2 = 4 ∨ w2 = 5 ∨ w2 = 6 ∨ w2 = 7 := by omega
    rcases this with rfl | rfl | rfl | rfl | rfl | rfl | rfl | rfl
    · exact ⟨_, th27_int (by omega), rfl⟩
    · exact ⟨_, th27_int (by omega), rfl⟩
    · exact ⟨_, th27_int (by omega), rfl⟩
    · exact ⟨_, th27_int (by split <;> omega), rfl⟩
    · exact ⟨_, th27_int (by decide), rfl⟩
    · exact ⟨_, th27_odd (by decide +kernel), rfl⟩
    · exact ⟨_, th27_odd (by decide +kernel), rfl⟩
    · exact ⟨_, th27_odd ho2, rfl⟩
  refine wIx_lst hget2 ?_
  exact t_k27_c10 _ _ g5 q n as d m t _ _ _ _ _ _ _ _ _ _ _ ok hd hm ht fun v15 v16 v17 => hE g5 _ _ _ _ _ hT5
theorem t_k27_c4 (ex : XW Gm) (E : En Gm) (g : Gm) (q n p c many : Nat) (as : List Ar) (S : List Nat) (v0 v5 v10 v12 v13 v14 v15 v16 v17 : SV) (v11 : SV) (ok : TrkOk n as) (hp : p < n) (hc : c ≤ 300) (hSl : S.length = many) (hm1 : 1 ≤ many) (hm2 : many ≤ 60) (hS5 : ∀ x ∈ S, x < 5) (hT : IsTape g q)
    (hE : ∀ g' v7 v8 v9 v10 v11 v12 v13 v14 v15 v16 v17, IsTape g' q → E.nx [v0, .va (.ref q), .va (.int (n : Nat)), .va (.tup (as.map arD)), .va (trk n as), v5, .va (.int (p : Nat)), v7, v8, v9, v10, v11, v12, v13, v14, v15, v16, v17, .no] g') :
    b_law_k27_l2_c4 ex E [v0, .va (.ref q), .va (.int (n : Nat)), .va (.tup (as.map arD)), .va (trk n as), v5, .va (.int (p : Nat)), .va (.int (many : Nat)), .va (.tup (nD S)), .va (.int (c : Nat)), v10, v11, v12, v13, v14, v15, v16, v17, .no] g := by
  have elS : ∀ x ∈ nD S, nref x = true ∧ shw x = true ∧ bnd x ≤ 1000 ∧ dpt x ≤ 2 := fun x hx => by
    obtain ⟨y, hy, rfl⟩ := List.mem_map.mp hx
    have h5 := hS5 y hy
    exact el27_int (Nat.lt_of_lt_of_le (show ((y : Nat) : Int).natAbs < 5 by omega) (by decide))
  have nl2 := nD_len S
  have hsum := sum_le27 S hS5
  conv => whnf
  try dsimp only [start, wipeL_c, wipeL_n, List.set]
  refine ⟨q, many, rfl, hT, by omega, by omega, fun at_ g2 hat hT2 _ => ?_⟩
  conv => whnf
  try dsimp only [start, wipeL_c, wipeL_n, List.set]
  refine ⟨by show (1 : Nat) ≤ LIM; decide, ?_⟩
  conv => whnf
  try dsimp only [start, wipeL_c, wipeL_n, List.set]
  refine ⟨lim_ok (by rw [nD_len]; simp only [List.length_cons, List.length_nil]; omega), ?_⟩
  conv => whnf
  try dsimp only [start, wipeL_c, wipeL_n, List.set]
  refine ⟨lim_ok (by rw [nD_len]; omega), ?_⟩
  conv => whnf
  try dsimp only [start, wipeL_c, wipeL_n, List.set]
  refine ⟨q, rfl, hT2, fun o1 g3 ho1 hT3 _ => ?_⟩
  conv => whnf
  try dsimp only [start, wipeL_c, wipeL_n, List.set]
  refine ⟨by show (7 : Nat) ≤ LIM; decide, ?_⟩
  have hws0 : ∀ x ∈ ([.tup (nD S), .tup (nD S), .tup (nD S ++ [.int 0]), .tup (cut (nD S) (some 1) none), .lst (nD S), o1, .non] : List D), Th27 x := by
    intro x hx
    simp only [List.mem_cons, List.mem_nil_iff, or_false] at hx
    rcases hx with rfl | rfl | rfl | rfl | rfl | rfl | rfl
    · exact th27_tup elS (by omega)
    · exact th27_tup elS (by omega)
    · exact th27_tup (fun x hx => by
        rcases List.mem_append.mp hx with hx | hx
        · exact elS x hx
        · cases List.mem_singleton.mp hx
          exact el27_int (by decide)) (by rw [List.length_append]; simp only [List.length_cons, List.length_nil]; omega)
    · exact th27_tup (fun x hx => elS x (List.mem_of_mem_drop (List.mem_of_mem_take hx))) (Nat.le_trans (cut_len _ _ _) (by omega))
    · exact th27_lst elS (by omega)
    · exact th27_odd ho1
    · exact th27_odd (by decide +kernel)
  conv => whnf
  try dsimp only [start, wipeL_c, wipeL_n, List.set]
  refine ⟨⟨by decide, by decide, by decide⟩, ?_⟩
  conv => whnf
  try dsimp only [start, wipeL_c, wipeL_n, List.set]
  refine ⟨by show (1 : Nat) ≤ LIM; decide, by show (7 : Nat) ≤ LIM; decide, ?_⟩
  have hel : ∀ z ∈ ([.int (-1), .bl true, .non, .str [49], .int (10 ^ (30 : Int).toNat), .tup [.int 1], .int ((c : Nat) + 1)] : List D), nref z = true ∧ shw z = true ∧ bnd z ≤ 1000 ∧ dpt z ≤ 2 := by
    intro z hz
    simp only [List.mem_cons, List.mem_nil_iff, or_false] at hz
    rcases hz with rfl | rfl | rfl | rfl | rfl | rfl | rfl
    · exact el27_int (by decide)
    · exact ⟨rfl, rfl, by decide, by decide⟩
    · exact ⟨rfl, rfl, by decide, by decide⟩
    · exact ⟨rfl, rfl, by decide, by decide⟩
    · exact el27_int (by decide +kernel)
    · exact ⟨rfl, by decide +kernel, by decide, by decide⟩
    · exact el27_int (Nat.lt_of_le_of_lt (show (((c : Nat) : Int) + 1).natAbs ≤ 301 by omega) (by decide))
  refine ⟨fun i l g' => g' = g3 ∧ ∃ (ws : List D) (v12 : SV), ws.length = 7 + i ∧ i ≤ 7 ∧ (∀ x ∈ ws, Th27 x) ∧ l = [v0, .va (.ref q), .va (.int (n : Nat)), .va (.tup (as.map arD)), .va (trk n as), v5, .va (.int (p : Nat)), .va (.int (many : Nat)), .va (.tup (nD S)), .va (.int (c : Nat)), .va (.int (at_ : Nat)), .ow (.lst ws), v12, v13, v14, v15, v16, v17, .no],
    ⟨rfl, _, _, rfl, Nat.zero_le _, hws0, rfl⟩, ?_, ?_⟩
  · rintro i z l g' hz ⟨rfl, ws, v12, hwl, hi, hws, rfl⟩
    have hz2 := hel z (List.mem_of_getElem? hz)
    have hi7 : i < 7 := (List.getElem?_eq_some_iff.mp hz).1
    have c1 : (cut (nD S) none (some (at_ : Int))).length ≤ 60 := Nat.le_trans (cut_len _ _ _) (by omega)
    have c2 : (cut (nD S) (some ((at_ : Int) + 1)) none).length ≤ 60 := Nat.le_trans (cut_len _ _ _) (by omega)
    conv => whnf
    try dsimp only [start, wipeL_c, wipeL_n, List.set]
    refine ⟨by show (1 : Nat) ≤ LIM; decide, ?_⟩
    conv => whnf
    try dsimp only [start, wipeL_c, wipeL_n, List.set]
    refine ⟨lim_ok (by simp only [List.length_cons, List.length_nil]; omega), ?_⟩
    conv => whnf
    try dsimp only [start, wipeL_c, wipeL_n, List.set]
    refine ⟨lim_ok (by simp only [List.length_append, List.length_cons, List.length_nil]; omega), ?_⟩
    conv => whnf
    try dsimp only [start, wipeL_c, wipeL_n, List.set]
    refine ⟨lim_lt (by omega), ?_⟩
    refine ⟨rfl, ws ++ [.tup ((cut (nD S) none (some (at_ : Int)) ++ [z]) ++ cut (nD S) (some ((at_ : Int) + 1)) none)], .va z, by rw [List.length_append, hwl]; simp only [List.length_cons, List.length_nil]; omega, by omega, fun x hx => ?_, rfl⟩
    rcases List.mem_append.mp hx with hx | hx
    · exact hws x hx
    · cases List.mem_singleton.mp hx
      rw [cut_set _ _ _ (by rw [nD_len]; omega)]
      refine th27_tup (fun y hy => ?_) (by rw [List.length_set]; omega)
      rcases List.mem_or_eq_of_mem_set hy with hy | rfl
      · exact elS y hy
      · exact hz2
  · rintro l g' ⟨rfl, ws, v12, hwl, _, hws, rfl⟩
    have hwl : ws.length = 14 := hwl
    conv => whnf
    try dsimp only [start, wipeL_c, wipeL_n, List.set]
    refine ⟨q, 14, rfl, hT3, by decide, by decide, fun w g4 hw hT4 _ => ?_⟩
    conv => whnf
    try dsimp only [start, wipeL_c, wipeL_n, List.set]
    have hw : w < ws.length := by omega
    refine wIx_lst (xs := ws) (p := w) (d := ws[w]) (List.getElem?_eq_getElem hw) ?_
    exact t_k27_c8 _ _ g4 q n p c as S ws[w] _ _ _ _ _ _ _ _ _ _ ok hp hc (by rw [sum27]; omega) (by rw [sum27]; omega) (hws _ (List.getElem_mem hw)) hT4 fun g' v13 v14 v15 v16 v17 h => hE g' _ _ _ _ _ _ _ _ _ _ _ h
theorem t_k27_l2 (ex : XW Gm) (E : En Gm) (g : Gm) (q n : Nat) (as : List Ar) (v0 v5 v6 v7 v8 v9 v10 v11 v12 v13 v14 v15 v16 v17 : SV) (ok : TrkOk n as) (hT : IsTape g q)
    (hE : ∀ g' v6 v7 v8 v9 v10 v11 v12 v13 v14 v15 v16 v17, IsTape g' q → E.nx [v0, .va (.ref q), .va (.int (n : Nat)), .va (.tup (as.map arD)), .va (trk n as), v5, v6, v7, v8, v9, v10, v11, v12, v13, v14, v15, v16, v17, .no] g') :
    b_law_k27_l2 ex E [v0, .va (.ref q), .va (.int (n : Nat)), .va (.tup (as.map arD)), .va (trk n as), v5, v6, v7, v8, v9, v10, v11, v12, v13, v14, v15, v16, v17, .no] g := by
  have n1 := ok.n1
  have n2 := ok.n2
  have al := ok.l2
  conv => whnf
  try dsimp only [start, wipeL_c, wipeL_n, List.set]
  refine ⟨q, n, rfl, hT, by omega, by omega, fun p g2 hp hT2 _ => ?_⟩
  have hp : p < n := by omega
  have fl := frm_len as p
  obtain ⟨a0, ha0, ea0⟩ := ok.all p hp
  have f1 : 1 ≤ (frm as p).length := List.length_pos_of_mem (List.mem_filter.mpr ⟨ha0, decide_eq_true ea0⟩)
  conv => whnf
  try dsimp only [start, wipeL_c, wipeL_n, List.set]
  refine ⟨as, p, rfl, lim_ok (by omega), ?_⟩
  conv => whnf
  try dsimp only [start, wipeL_c, wipeL_n, List.set]
  refine ⟨by rw [List.length_map]; exact lim_ok (by omega), ?_⟩
  rw [List.length_map]
  generalize (frm as p).length = many at fl f1
  conv => whnf
  try dsimp only [start, wipeL_c, wipeL_n, List.set]
  refine ⟨by omega, by omega, ?_⟩
  rw [Int.toNat_natCast, nD_range]
  refine ⟨rfl, fun i acc g' => IsTape g' q ∧ ∃ S : List Nat, acc = nD S ∧ S.length = i ∧ i ≤ many ∧ ∀ x ∈ S, x < 5, ⟨hT2, [], rfl, rfl, Nat.zero_le _, fun _ h => (by cases h)⟩, ?_, ?_⟩
  · rintro i x acc g' hx ⟨hT3, S, rfl, hSl, hi, hS5⟩
    obtain ⟨j, hj, rfl⟩ := nD_get hx
    obtain ⟨hjm, rfl⟩ := rng_at hj
    conv => whnf
    try dsimp only [start, wipeL_c, wipeL_n, List.set]
    refine ⟨rfl, ?_⟩
    conv => whnf
    try dsimp only [start, wipeL_c, wipeL_n, List.set]
    refine ⟨rfl, ?_⟩
    conv => whnf
    try dsimp only [start, wipeL_c, wipeL_n, List.set]
    refine ⟨q, 5, rfl, hT3, by decide, by decide, fun u g4 hu hT4 _ => ?_⟩
    refine ⟨rfl, by rw [nD_len]; exact lim_lt (by omega), hT4, S ++ [u], ?_, by rw [List.length_append, hSl]; rfl, by omega, fun y hy => ?_⟩
    · unfold nD
      rw [List.map_append]
      rfl
    · rcases List.mem_append.mp hy with hy | hy
      · exact hS5 y hy
      · cases List.mem_singleton.mp hy
        omega
  · rintro acc g3 ⟨hT3, S, rfl, hSl, _, hS5⟩
    rw [nD_len, List.length_range] at hSl
    have hsum := sum_le27 S hS5
    conv => whnf
    try dsimp only [start, wipeL_c, wipeL_n, List.set]
    refine ⟨lim_ok (by rw [nD_len]; omega), ?_⟩
    conv => whnf
    try dsimp only [start, wipeL_c, wipeL_n, List.set]
    refine ⟨S.map fun (x : Nat) => (x : Int), by unfold nD; rw [List.map_map]; rfl, ?_⟩
    rw [sum27]
    conv => whnf
    try dsimp only [start, wipeL_c, wipeL_n, List.set]
    refine ⟨q, 3, rfl, hT3, by decide, by decide, fun u g4 hu hT4 _ => ?_⟩
    have h5 := t_k27_c4 ex E g4 q n p (S.sum + u) many as S v0 v5 v10 v12 v13 v14 v15 v16 v17 v11 ok hp (by omega) hSl f1 (by omega) hS5 hT4 fun g' v7 v8 v9 v10 v11 v12 v13 v14 v15 v16 v17 h => hE g' _ _ _ _ _ _ _ _ _ _ _ _ h
    rw [show ((S.sum + u : Nat) : Int) = ((S.sum : Nat) : Int) + (u : Nat) by omega] at h5
    exact h5
theorem k_law_k27 : Keeps 19 c_law_k27 b_law_k27 := by
  rintro ds g Q E ⟨rfl, hl, hn, hQ⟩
  conv => whnf
  try dsimp only [start, wipeL_c, wipeL_n, List.set]
  refine ⟨rfl, fun q g2 hT _ _ => ?_⟩
  conv => whnf
  try dsimp only [start, wipeL_c, wipeL_n, List.set]
  refine ⟨q, 3, rfl, hT, by decide, by decide, fun w g3 hw hT3 _ => ?_⟩
  obtain ⟨n, hn⟩ : ∃ n, n = 1 + w := ⟨_, rfl⟩
  have n1 : 1 ≤ n := by omega
  have n3 : n ≤ 3 := by omega
  conv => whnf
  try dsimp only [start, wipeL_c, wipeL_n, List.set]
  rw [show (1 : Int) + (w : Nat) = (n : Nat) by omega]
  clear hn hw
  conv => whnf
  try dsimp only [start, wipeL_c, wipeL_n, List.set]
  refine ⟨q, n, 4, rfl, hT3, n1, by omega, by decide, by decide, by omega, fun as g4 ok _ hT4 _ => ?_⟩
  conv => whnf
  try dsimp only [start, wipeL_c, wipeL_n, List.set]
  refine ⟨n, as, rfl, ok, ?_⟩
  conv => whnf
  try dsimp only [start, wipeL_c, wipeL_n, List.set]
  refine ⟨by decide, by decide, ?_⟩
  refine ⟨fun i l g' => IsTape g' q ∧ ∃ (v5 v6 v7 v8 v9 v10 v11 v12 v13 v14 v15 v16 v17 : SV), l = [.va (.ref g.scr), .va (.ref q), .va (.int (n : Nat)), .va (.tup (as.map arD)), .va (trk n as), v5, v6, v7, v8, v9, v10, v11, v12, v13, v14, v15, v16, v17, .no], ⟨hT4, _, _, _, _, _, _, _, _, _, _, _, _, _, rfl⟩, ?_, ?_⟩
  · rintro i z l g' hz ⟨hT5, v5, v6, v7, v8, v9, v10, v11, v12, v13, v14, v15, v16, v17, rfl⟩
    exact t_k27_l2 _ _ g' q n as _ _ _ _ _ _ _ _ _ _ _ _ _ _ ok hT5 fun g' v6 v7 v8 v9 v10 v11 v12 v13 v14 v15 v16 v17 h => ⟨h, _, _, _, _, _, _, _, _, _, _, _, _, _, rfl⟩
  · rintro l g' ⟨hT5, v5, v6, v7, v8, v9, v10, v11, v12, v13, v14, v15, v16, v17, rfl⟩
    have al := ok.l2
    have fl := frm_len as 0
    obtain ⟨a0, ha0, ea0⟩ := ok.all 0 (by omega)
    have f1 : 1 ≤ (frm as 0).length := List.length_pos_of_mem (List.mem_filter.mpr ⟨ha0, decide_eq_true ea0⟩)
    conv => whnf
    try dsimp only [start, wipeL_c, wipeL_n, List.set]
    refine ⟨by show (1 : Nat) ≤ LIM; decide, ?_⟩
    conv => whnf
    try dsimp only [start, wipeL_c, wipeL_n, List.set]
    refine ⟨as, 0, rfl, lim_ok (by omega), ?_⟩
    conv => whnf
    try dsimp only [start, wipeL_c, wipeL_n, List.set]
    refine ⟨by rw [List.length_map]; exact lim_ok (by omega), ?_⟩
    rw [List.length_map]
    conv => whnf
    try dsimp only [start, wipeL_c, wipeL_n, List.set]
    refine ⟨by simp, by omega, by omega, by decide, ?_⟩
    rw [Int.toNat_natCast, rep0]
    have hs : stakeB as 0 (.tup ((List.replicate (frm as 0).length (0 : Int)).map D.int)) = true := by
      show (decide (((List.replicate (frm as 0).length (0 : Int)).map D.int).length = (frm as 0).length) && ((List.replicate (frm as 0).length (0 : Int)).map D.int).all (fromB 0)) = true
      rw [List.length_map, List.length_replicate, decide_eq_true rfl, Bool.true_and]
      refine List.all_eq_true.mpr fun x hx => ?_
      obtain ⟨y, hy, rfl⟩ := List.mem_map.mp hx
      cases List.eq_of_mem_replicate hy
      rfl
    refine ⟨n, as, .int 0, .int 0, .tup ((List.replicate (frm as 0).length (0 : Int)).map D.int), rfl, ok, rfl, rfl, rfl, fun xs e => ?_, .inr ⟨place_in (p := 0) (by omega), .inr ⟨0, 0, rfl, by omega, rfl, Int.le_refl _, .inr ⟨List.replicate (frm as 0).length 0, rfl, hs, ?_⟩⟩⟩⟩
    · cases e
      refine ⟨by rw [List.length_map, List.length_replicate]; omega, fun x hx => ?_⟩
      obtain ⟨y, _, rfl⟩ := List.mem_map.mp hx
      rfl
    · have z0 : ∀ j : Nat, (List.replicate j (0 : Int)).sum = 0 := fun j => by
        induction j with
        | zero => rfl
        | succ j ih => rw [List.replicate_succ, List.sum_cons, ih]; rfl
      rw [z0, decide_eq_true (Int.le_refl 0)]
      exact hQ _
end Dx

set_option Elab.async false
set_option linter.all false
set_option maxRecDepth 100000
set_option maxHeartbeats 0
namespace HT
open PySem PySem.Spec PyProof.Rows L2
def top (i : Nat) : Stmt := PySem.Challenge.pw_wholestakes_k27_stakes_judged.main.body.getD i (.Pass ⟨0, 0, 0, 0⟩)
abbrev s0 : Stmt := top 8
def d0 : He.DefD := ⟨("is_integer", none), "is_integer", "is_integer", defArgs s0, defBody s0, defScope s0, [], []⟩
abbrev s1 : Stmt := top 9
def d1 : He.DefD := ⟨("is_within", none), "is_within", "is_within", defArgs s1, defBody s1, defScope s1, [], []⟩
abbrev s2 : Stmt := top 12
def d2 : He.DefD := ⟨("are_ascending", none), "are_ascending", "are_ascending", defArgs s2, defBody s2, defScope s2, [], []⟩
abbrev s3 : Stmt := top 11
def d3 : He.DefD := ⟨("is_letter", none), "is_letter", "is_letter", defArgs s3, defBody s3, defScope s3, [], []⟩
abbrev s4 : Stmt := top 18
def d4 : He.DefD := ⟨("is_arrow", none), "is_arrow", "is_arrow", defArgs s4, defBody s4, defScope s4, [], []⟩
abbrev s5 : Stmt := top 19
def d5 : He.DefD := ⟨("are_arrows", none), "are_arrows", "are_arrows", defArgs s5, defBody s5, defScope s5, [], []⟩
abbrev s6 : Stmt := top 29
def d6 : He.DefD := ⟨("_law_tape", none), "_law_tape", "_law_tape", defArgs s6, defBody s6, defScope s6, [], []⟩
abbrev s7 : Stmt := top 30
def d7 : He.DefD := ⟨("_law_pick", none), "_law_pick", "_law_pick", defArgs s7, defBody s7, defScope s7, [], []⟩
abbrev s8 : Stmt := top 31
def d8 : He.DefD := ⟨("_law_arrows", none), "_law_arrows", "_law_arrows", defArgs s8, defBody s8, defScope s8, [], []⟩
abbrev s9 : Stmt := top 21
def d9 : He.DefD := ⟨("is_place", none), "is_place", "is_place", defArgs s9, defBody s9, defScope s9, [], []⟩
abbrev s10 : Stmt := top 22
def d10 : He.DefD := ⟨("check_place", none), "check_place", "check_place", defArgs s10, defBody s10, defScope s10, [], []⟩
abbrev s11 : Stmt := top 10
def d11 : He.DefD := ⟨("is_from", none), "is_from", "is_from", defArgs s11, defBody s11, defScope s11, [], []⟩
abbrev s12 : Stmt := top 13
def d12 : He.DefD := ⟨("check_coins", none), "check_coins", "check_coins", defArgs s12, defBody s12, defScope s12, [], []⟩
abbrev s13 : Stmt := top 23
def d13 : He.DefD := ⟨("steps_of", none), "steps_of", "steps_of", defArgs s13, defBody s13, defScope s13, [], []⟩
abbrev s14 : Stmt := top 25
def d14 : He.DefD := ⟨("is_stake_there", none), "is_stake_there", "is_stake_there", defArgs s14, defBody s14, defScope s14, [], []⟩
abbrev s15 : Stmt := top 26
def d15 : He.DefD := ⟨("is_stake", none), "is_stake", "is_stake", defArgs s15, defBody s15, defScope s15, [], []⟩
abbrev s16 : Stmt := top 42
def d16 : He.DefD := ⟨("_law_tried", none), "_law_tried", "_law_tried", defArgs s16, defBody s16, defScope s16, [], []⟩
abbrev s17 : Stmt := top 32
def d17 : He.DefD := ⟨("_law_steps", none), "_law_steps", "_law_steps", defArgs s17, defBody s17, defScope s17, [], []⟩
abbrev s18 : Stmt := top 37
def d18 : He.DefD := ⟨("_law_odd", none), "_law_odd", "_law_odd", defArgs s18, defBody s18, defScope s18, [], []⟩
abbrev s19 : Stmt := top 38
def d19 : He.DefD := ⟨("_law_is_int", none), "_law_is_int", "_law_is_int", defArgs s19, defBody s19, defScope s19, [], []⟩
abbrev s20 : Stmt := top 40
def d20 : He.DefD := ⟨("_law_is_stake", none), "_law_is_stake", "_law_is_stake", defArgs s20, defBody s20, defScope s20, [], []⟩
abbrev s21 : Stmt := top 28
def d21 : He.DefD := ⟨("_law_flag", none), "_law_flag", "_law_flag", defArgs s21, defBody s21, defScope s21, [], []⟩
abbrev s22 : Stmt := top 43
def d22 : He.DefD := ⟨("law", none), "law", "law", defArgs s22, defBody s22, defScope s22, [], []⟩
abbrev s23 : Stmt := inClass (top 20) 0
def d23 : He.DefD := ⟨("Track", some "__init__"), "__init__", "Track.__init__", defArgs s23, defBody s23, defScope s23, [], []⟩
abbrev s24 : Stmt := inClass (top 20) 1
def d24 : He.DefD := ⟨("Track", some "keep"), "keep", "Track.keep", defArgs s24, defBody s24, defScope s24, [], []⟩
def fn : List He.DefD := [d0, d1, d2, d3, d4, d5, d6, d7, d8, d9, d10, d11, d12, d13, d14, d15, d16, d17, d18, d19, d20, d21, d22, d23, d24]
def fa : List He.Fa := [.glo "is_integer", .glo "is_within", .glo "are_ascending", .glo "is_letter", .glo "is_arrow", .glo "are_arrows", .glo "_law_tape", .glo "_law_pick", .glo "_law_arrows", .glo "is_place", .glo "check_place", .glo "is_from", .glo "check_coins", .glo "steps_of", .glo "is_stake_there", .glo "is_stake", .glo "_law_tried", .glo "_law_steps", .glo "_law_odd", .glo "_law_is_int", .glo "_law_is_stake", .glo "_law_flag", .glo "law", .free "all", .free "bool", .free "int", .free "isinstance", .free "len", .free "list", .free "max", .free "range", .free "repr", .free "str", .free "sum", .free "tuple", .int "MOST_ARROWS" 60, .int "MOST_PAY" 9, .int "MOST_PLACES" 12, .str "LETTERS" "abcdefghijklmnopqrstuvwxyz", .glo "NoCoins", .glo "NoPlace", .glo "NoStake", .glo "StakeError", .exc "NoCoins", .exc "NoPlace", .glo "Track", .cls "Track", .noat "Track" "places", .noat "Track" "arrows", .noat "Track" "kept_arrows", .mkr "Track", .meth "Track" "keep"]
def ts : Lk.Tfs := ⟨[.sys, .exs ["NoCoins", "NoPlace"] ["NoCoins", "NoPlace", "NoStake", "StakeError"] [], .isi "Track"], []⟩
abbrev R : PySem.W.OpenRow := PySem.W.OpenLaw.row PySem.Challenge.rw_wholestakes_k27_stakes_judged
abbrev hk : PySem.W.Hook := Lk.hookX 6 fa fn ts
def ob (s : PySem.W.SharedT) : Lk.AlX := Lk.obsXG 6 fa fn ts (HandSHeadRun.getT s)
theorem ob_eq (s : PySem.W.SharedT) : ob s = hk.obs s.abs := Lk.obsXG_eq (HandSHeadRun.getT_eq s)
theorem run (w : World) : HandSHeadRun.RunEq R (PySem.W.view R.prog [43]) hk ob 4000 ((["StakeError", "BadTrack", "NoPlace", "NoCoins", "NoStake", "LETTERS", "is_integer", "is_within", "is_from", "is_letter", "are_ascending", "check_coins", "MOST_PLACES", "MOST_ARROWS", "MOST_PAY", "is_arrow", "are_arrows", "Track", "is_place", "check_place", "steps_of", "is_stake_there", "is_stake", "_law_flag", "_law_tape", "_law_pick", "_law_arrows", "_law_steps", "_law_comes_to_one", "_law_is_full"] : List PySem.Str) ++ (["_law_lots", "_law_reach", "_law_odd", "_law_is_int", "_law_is_lot", "_law_is_stake", "_law_is_goals", "_law_tried"] : List PySem.Str)) w := by
  intro os
  kernel_rfl
end HT
set_option Elab.async false
set_option linter.all false
set_option maxRecDepth 100000
set_option maxHeartbeats 0
namespace Lk
open PySem PySem.Spec PyProof.Rows L2 Dx HT
section
variable {P : Program} {w : World} {K : Fg} {mg : Str → Option Value} {base : Heap}
theorem ok_is_integer (S : SayX fa fn ts K mg) : Okd P w K mg base 1 "is_integer" ["thing"] c_is_integer := by
  have m_bool := S.fre 24
  have m_int := S.fre 25
  have m_isinstance := S.fre 26
  obtain ⟨fd, F⟩ := S.fun_ 0 (d := d0)
  have hN : (["thing"] : List Str).Nodup := by decide +kernel
  refine okd_of (N := ["thing"]) (ps := ["thing"]) F (S.glo 0) ⟨rfl, rfl, rfl, hN, rfl, by decide +kernel, by decide +kernel⟩ (fun _ _ _ _ _ _ us hl => match us, hl with | [_], _ => rfl) l_is_integer k_is_integer ?_
  intro cdv A outer s H E hr
  exact (ds_one (ds_ret (d_and (d_is (de_var rfl (.inl rfl)) (by decide) rfl m_isinstance (pe_bltn (v := .ty "int") rfl m_int (by decide +kernel) rfl)) (d_one (d_not (d_is (de_var rfl (.inl rfl)) (by decide) rfl m_isinstance (pe_bltn (v := .ty "bool") rfl m_bool (by decide +kernel) rfl)))))))
theorem ok_is_within (S : SayX fa fn ts K mg) : Okd P w K mg base 2 "is_within" ["thing", "least", "most"] c_is_within := by
  have o_is_integer := ok_is_integer (P := P) (w := w) (base := base) S
  obtain ⟨fd, F⟩ := S.fun_ 1 (d := d1)
  have hN : (["thing", "least", "most"] : List Str).Nodup := by decide +kernel
  refine okd_of (N := ["thing", "least", "most"]) (ps := ["thing", "least", "most"]) F (S.glo 1) ⟨rfl, rfl, rfl, hN, rfl, by decide +kernel, by decide +kernel⟩ (fun _ _ _ _ _ _ us hl => match us, hl with | [_, _, _], _ => rfl) l_is_within k_is_within ?_
  intro cdv A outer s H E hr
  exact (ds_one (ds_ret (d_and (d_callK o_is_integer (L2N.takes_of rfl rfl rfl rfl) (hr.mono (by decide)) rfl (da_cons (de_var rfl (.inl rfl)) da_nil)) (d_one (d_chain op_le ag_le op_le ag_le (de_var rfl (.inl rfl)) (de_var rfl (.inl rfl)) (de_var rfl (.inl rfl)))))))
theorem ok_are_ascending (S : SayX fa fn ts K mg) : Okd P w K mg base 1 "are_ascending" ["things"] c_are_ascending := by
  have m_all := S.fre 23
  have m_len := S.fre 27
  have m_range := S.fre 30
  obtain ⟨fd, F⟩ := S.fun_ 2 (d := d2)
  have hN : (["things", "at"] : List Str).Nodup := by decide +kernel
  refine okd_of (N := ["things", "at"]) (ps := ["things"]) F (S.glo 2) ⟨rfl, rfl, rfl, hN, rfl, by decide +kernel, by decide +kernel⟩ (fun _ _ _ _ _ _ us hl => match us, hl with | [_], _ => rfl) l_are_ascending k_are_ascending ?_
  intro cdv A outer s H E hr
  exact (ds_one (ds_ret (d_b (cr_all rfl) ag_all rfl m_all (by decide +kernel) (da_cons (de_new (d_comp (own := [("at", 1)])  rfl hN (di_r2 rfl m_range de_int (d_b call_lenA ag_len rfl m_len (by decide +kernel) (da_cons (de_var rfl (.inr (.inl rfl))) da_nil))) (blkOk_by (own := [("at", 1)]) (by kernel_rfl)) (fun _ _ _ _ _ => (dg_name hN rfl (.inl rfl))) (fun _ _ _ _ _ => dts_nil) (fun _ _ _ _ _ => (de_cmp (op_ltD hr.units) ag_lt (d_ix (fun _ _ => rfl) (de_var rfl (.inr (.inl rfl))) (de_bin op_sub ag_sub (de_var rfl (.inl rfl)) de_int)) (d_ix (fun _ _ => rfl) (de_var rfl (.inr (.inl rfl))) (de_var rfl (.inl rfl))))) (by decide))) da_nil))))
theorem ok_is_letter (S : SayX fa fn ts K mg) : Okd P w K mg base 1 "is_letter" ["thing"] c_is_letter := by
  have m_isinstance := S.fre 26
  have m_len := S.fre 27
  have m_str := S.fre 32
  obtain ⟨t_ms_LETTERS, ms_LETTERS⟩ := S.str 38
  obtain ⟨fd, F⟩ := S.fun_ 3 (d := d3)
  have hN : (["thing"] : List Str).Nodup := by decide +kernel
  refine okd_of (N := ["thing"]) (ps := ["thing"]) F (S.glo 3) ⟨rfl, rfl, rfl, hN, rfl, by decide +kernel, by decide +kernel⟩ (fun _ _ _ _ _ _ us hl => match us, hl with | [_], _ => rfl) l_is_letter k_is_letter ?_
  intro cdv A outer s H E hr
  exact (ds_one (ds_ret (d_and (d_is (de_var rfl (.inl rfl)) (by decide) rfl m_isinstance (pe_bltn (v := .ty "str") rfl m_str (by decide +kernel) rfl)) (d_and (de_cmp (op_eqD hr.units) ag_eq (d_b call_lenA ag_len rfl m_len (by decide +kernel) (da_cons (de_var rfl (.inl rfl)) da_nil)) de_int) (d_one (de_cmp (op_inA (hu1 hr)) ag_in (de_var rfl (.inl rfl)) (de_gstr rfl ms_LETTERS)))))))
theorem ok_is_arrow (S : SayX fa fn ts K mg) : Okd P w K mg base 3 "is_arrow" ["thing", "places"] c_is_arrow := by
  have m_isinstance := S.fre 26
  have m_len := S.fre 27
  have m_tuple := S.fre 34
  obtain ⟨t_mi_MOST_PAY, mi_MOST_PAY⟩ := S.int 36
  have o_is_letter := ok_is_letter (P := P) (w := w) (base := base) S
  have o_is_within := ok_is_within (P := P) (w := w) (base := base) S
  obtain ⟨fd, F⟩ := S.fun_ 4 (d := d4)
  have hN : (["thing", "places"] : List Str).Nodup := by decide +kernel
  refine okd_of (N := ["thing", "places"]) (ps := ["thing", "places"]) F (S.glo 4) ⟨rfl, rfl, rfl, hN, rfl, by decide +kernel, by decide +kernel⟩ (fun _ _ _ _ _ _ us hl => match us, hl with | [_, _], _ => rfl) l_is_arrow k_is_arrow ?_
  intro cdv A outer s H E hr
  exact (ds_cons (ds_if (PW.pt (dw_or (dt_not (dt_val (d_is (de_var rfl (.inl rfl)) (by decide) rfl m_isinstance (pe_bltn (v := .ty "tuple") rfl m_tuple (by decide +kernel) rfl)))) (dw_one (dt_cmp (op_neD hr.units) ag_ne (d_b call_lenA ag_len rfl m_len (by decide +kernel) (da_cons (de_var rfl (.inl rfl)) da_nil)) de_int)))) (ds_one (ds_ret de_bl)) ds_nil) (ds_cons (ds_if (PW.pt (dw_or (dt_not (dt_val (d_callK o_is_within (L2N.takes_of rfl rfl rfl rfl) (hr.mono (by decide)) rfl (da_cons (d_ix (fun _ _ => rfl) (de_var rfl (.inl rfl)) de_int) (da_cons de_int (da_cons (de_bin op_sub ag_sub (de_var rfl (.inl rfl)) de_int) da_nil)))))) (dw_one (dt_not (dt_val (d_callK o_is_letter (L2N.takes_of rfl rfl rfl rfl) (hr.mono (by decide)) rfl (da_cons (d_ix (fun _ _ => rfl) (de_var rfl (.inl rfl)) de_int) da_nil))))))) (ds_one (ds_ret de_bl)) ds_nil) (ds_one (ds_ret (d_and (d_callK o_is_within (L2N.takes_of rfl rfl rfl rfl) (hr.mono (by decide)) rfl (da_cons (d_ix (fun _ _ => rfl) (de_var rfl (.inl rfl)) de_int) (da_cons de_int (da_cons (de_gint rfl mi_MOST_PAY) da_nil)))) (d_one (d_callK o_is_within (L2N.takes_of rfl rfl rfl rfl) (hr.mono (by decide)) rfl (da_cons (d_ix (fun _ _ => rfl) (de_var rfl (.inl rfl)) de_int) (da_cons de_int (da_cons (de_bin op_sub ag_sub (de_var rfl (.inl rfl)) de_int) da_nil))))))))))
theorem ok_are_arrows (S : SayX fa fn ts K mg) : Okd P w K mg base 4 "are_arrows" ["thing", "places"] c_are_arrows := by
  have m_all := S.fre 23
  have m_isinstance := S.fre 26
  have m_len := S.fre 27
  have m_tuple := S.fre 34
  obtain ⟨t_mi_MOST_ARROWS, mi_MOST_ARROWS⟩ := S.int 35
  have o_are_ascending := ok_are_ascending (P := P) (w := w) (base := base) S
  have o_is_arrow := ok_is_arrow (P := P) (w := w) (base := base) S
  obtain ⟨fd, F⟩ := S.fun_ 5 (d := d5)
  have hN : (["thing", "places", "arrow"] : List Str).Nodup := by decide +kernel
  refine okd_of (N := ["thing", "places", "arrow"]) (ps := ["thing", "places"]) F (S.glo 5) ⟨rfl, rfl, rfl, hN, rfl, by decide +kernel, by decide +kernel⟩ (fun _ _ _ _ _ _ us hl => match us, hl with | [_, _], _ => rfl) l_are_arrows k_are_arrows ?_
  intro cdv A outer s H E hr
  exact (ds_cons (ds_if (PW.pt (dw_or (dt_not (dt_val (d_is (de_var rfl (.inl rfl)) (by decide) rfl m_isinstance (pe_bltn (v := .ty "tuple") rfl m_tuple (by decide +kernel) rfl)))) (dw_one (dt_not (dt_chain op_le ag_le op_le ag_le de_int (d_b call_lenA ag_len rfl m_len (by decide +kernel) (da_cons (de_var rfl (.inl rfl)) da_nil)) (de_gint rfl mi_MOST_ARROWS)))))) (ds_one (ds_ret de_bl)) ds_nil) (ds_one (ds_ret (d_and (d_b (cr_all rfl) ag_all rfl m_all (by decide +kernel) (da_cons (de_new (d_comp (own := [("arrow", 2)])  rfl hN (di_e (de_var rfl (.inl rfl))) (blkOk_by (own := [("arrow", 2)]) (by kernel_rfl)) (fun _ _ _ _ _ => (dg_name hN rfl (.inl rfl))) (fun _ _ _ _ _ => dts_nil) (fun _ _ _ _ _ => (d_callK o_is_arrow takes0 (hr.mono (by decide)) rfl (da_cons (de_var rfl (.inl rfl)) (da_cons (de_var rfl (.inr (.inl rfl))) da_nil)))) (by decide))) da_nil)) (d_one (d_callK o_are_ascending (L2N.takes_of rfl rfl rfl rfl) (hr.mono (by decide)) rfl (da_cons (de_var rfl (.inl rfl)) da_nil)))))))
theorem ok_law_tape (S : SayX fa fn ts K mg) : Okd P w K mg base 1 "_law_tape" ["_law_script"] c_law_tape := by
  have m_list := S.fre 28
  obtain ⟨fd, F⟩ := S.fun_ 6 (d := d6)
  have hN : (["_law_script"] : List Str).Nodup := by decide +kernel
  refine okd_of (N := ["_law_script"]) (ps := ["_law_script"]) F (S.glo 6) ⟨rfl, rfl, rfl, hN, rfl, by decide +kernel, by decide +kernel⟩ (fun _ _ _ _ _ _ us hl => match us, hl with | [_], _ => rfl) l_law_tape k_law_tape ?_
  intro cdv A outer s H E hr
  exact (ds_one (ds_ret (m_new (d_lst (da_cons (m_new (z_list (pe_var (i := 0) rfl (.inl rfl)) rfl m_list)) (da_cons de_int (da_cons de_int (da_cons de_int (da_cons de_int da_nil)))))))))
theorem ok_law_pick (S : SayX fa fn ts K mg) : Okd P w K mg base 1 "_law_pick" ["_law_tape_here", "_law_many"] c_law_pick := by
  have m_int := S.fre 25
  have m_len := S.fre 27
  obtain ⟨fd, F⟩ := S.fun_ 7 (d := d7)
  have hN : (["_law_tape_here", "_law_many", "_law_digit", "_law_cell", "_law_mixed"] : List Str).Nodup := by decide +kernel
  refine okd_of (N := ["_law_tape_here", "_law_many", "_law_digit", "_law_cell", "_law_mixed"]) (ps := ["_law_tape_here", "_law_many"]) F (S.glo 7) ⟨rfl, rfl, rfl, hN, rfl, by decide +kernel, by decide +kernel⟩ (fun _ _ _ _ _ _ us hl => match us, hl with | [_, _], _ => rfl) l_law_pick k_law_pick ?_
  intro cdv A outer s H E hr
  exact (ds_cons (ds_if (dt_cmp op_gt ag_gt (m_ix (fun _ _ => rfl) (de_var rfl (.inl rfl)) de_int) de_int) (ds_cons (ds_set hN rfl (.inl rfl) (de_bin op_mod ag_mod (d_bT call_int1 ag_int rfl m_int (by decide +kernel) (da_cons (m_ix (fun _ _ => rfl) (de_var rfl (.inl rfl)) de_int) da_nil)) (de_var rfl (.inl rfl)))) (ds_cons (ms_set (de_var rfl (.inl rfl)) de_int (de_bin op_divA ag_div (m_ix (fun _ _ => rfl) (de_var rfl (.inl rfl)) de_int) (de_var rfl (.inl rfl)))) (ds_one (ds_ret (de_var rfl (.inl rfl)))))) ds_nil) (ds_cons (ms_set (de_var rfl (.inl rfl)) de_int (de_bin op_addA ag_add (m_ix (fun _ _ => rfl) (de_var rfl (.inl rfl)) de_int) de_int)) (ds_cons (ds_set hN rfl (.inl rfl) de_int) (ds_cons (ds_if (dt_cmp (op_ltD hr.units) ag_lt (m_ix (fun _ _ => rfl) (de_var rfl (.inl rfl)) de_int) (Lk.m_len rfl m_len (m_ix (fun _ _ => rfl) (de_var rfl (.inl rfl)) de_int))) (ds_cons (ds_set hN rfl (.inl rfl) (m_ix (fun _ _ => rfl) (m_ix (fun _ _ => rfl) (de_var rfl (.inl rfl)) de_int) (m_ix (fun _ _ => rfl) (de_var rfl (.inl rfl)) de_int))) (ds_one (ms_set (de_var rfl (.inl rfl)) de_int (de_bin op_addA ag_add (m_ix (fun _ _ => rfl) (de_var rfl (.inl rfl)) de_int) de_int)))) ds_nil) (ds_cons (ds_if (dt_cmp op_ge ag_ge (de_var rfl (.inl rfl)) (de_bin op_pow ag_pow de_int de_int)) (ds_cons (ms_set (de_var rfl (.inl rfl)) de_int (de_bin op_divA ag_div (de_var rfl (.inl rfl)) (de_var rfl (.inl rfl)))) (ds_one (ds_ret (de_bin op_mod ag_mod (d_bT call_int1 ag_int rfl m_int (by decide +kernel) (da_cons (de_var rfl (.inl rfl)) da_nil)) (de_var rfl (.inl rfl)))))) ds_nil) (ds_cons (ds_set hN rfl (.inl rfl) (de_bin op_mod ag_mod (d_bT call_int1 ag_int rfl m_int (by decide +kernel) (da_cons (de_bin op_addA ag_add (de_bin op_addA ag_add (de_bin op_mulA ag_mul (m_ix (fun _ _ => rfl) (de_var rfl (.inl rfl)) de_int) de_int) (de_bin op_mod ag_mod (d_bT call_int1 ag_int rfl m_int (by decide +kernel) (da_cons (de_var rfl (.inl rfl)) da_nil)) de_int)) (de_bin op_mulA ag_mul (m_ix (fun _ _ => rfl) (de_var rfl (.inl rfl)) de_int) de_int)) da_nil)) de_int)) (ds_cons (ds_set hN rfl (.inl rfl) (de_bin op_mod ag_mod (d_bT call_int1 ag_int rfl m_int (by decide +kernel) (da_cons (de_bin op_mulA ag_mul (de_var rfl (.inl rfl)) (de_bin op_addA ag_add (de_bin op_divA ag_div (de_var rfl (.inl rfl)) de_int) de_int)) da_nil)) de_int)) (ds_cons (ms_set (de_var rfl (.inl rfl)) de_int (de_var rfl (.inl rfl))) (ds_one (ds_ret (de_bin op_mod ag_mod (d_bT call_int1 ag_int rfl m_int (by decide +kernel) (da_cons (de_bin op_divA ag_div (de_var rfl (.inl rfl)) de_int) da_nil)) (de_var rfl (.inl rfl)))))))))))))
theorem ok_law_arrows (S : SayX fa fn ts K mg) : Okd P w K mg base 2 "_law_arrows" ["_law_tape_here", "_law_places", "_law_letters"] c_law_arrows := by
  have m_range := S.fre 30
  have m_tuple := S.fre 34
  have o__law_pick := ok_law_pick (P := P) (w := w) (base := base) S
  obtain ⟨fd, F⟩ := S.fun_ 8 (d := d8)
  have hN : (["_law_tape_here", "_law_places", "_law_letters", "_law_found", "_law_place", "_law_own", "_law_letter", "_law_pay"] : List Str).Nodup := by decide +kernel
  refine okd_of (N := ["_law_tape_here", "_law_places", "_law_letters", "_law_found", "_law_place", "_law_own", "_law_letter", "_law_pay"]) (ps := ["_law_tape_here", "_law_places", "_law_letters"]) F (S.glo 8) ⟨rfl, rfl, rfl, hN, rfl, by decide +kernel, by decide +kernel⟩ (fun _ _ _ _ _ _ us hl => match us, hl with | [_, _, _], _ => rfl) l_law_arrows k_law_arrows ?_
  intro cdv A outer s H E hr
  exact (ds_cons (ds_own hN rfl (.inl rfl) (d_lst da_nil)) (ds_cons (ds_for (passes_of rfl) rfl (di_r1 rfl m_range (de_var rfl (.inl rfl))) (dg_name hN rfl (.inl rfl)) (ds_cons (ds_set hN rfl (.inl rfl) (d_sl de_str do_no (do_so (de_var rfl (.inl rfl))))) (ds_one (ds_for (passes_of rfl) rfl (di_e (d_sl (de_var rfl (.inl rfl)) (do_so (d_callK o__law_pick (L2N.takes_of rfl rfl rfl rfl) (hr.mono (by decide)) rfl (da_cons (de_var rfl (.inl rfl)) (da_cons (de_var rfl (.inl rfl)) da_nil)))) do_no)) (dg_name hN rfl (.inl rfl)) (ds_cons (ds_set hN rfl (.inl rfl) (d_ix (fun _ _ => rfl) (de_new (d_lst (da_cons de_int (da_cons de_int (da_cons de_int (da_cons de_int (da_cons de_int (da_cons de_int (da_cons de_int (da_cons de_int (da_cons de_int (da_cons de_int da_nil)))))))))))) (d_callK o__law_pick (L2N.takes_of rfl rfl rfl rfl) (hr.mono (by decide)) rfl (da_cons (de_var rfl (.inl rfl)) (da_cons de_int da_nil))))) (ds_one (ds_app (pe_var (i := 3) rfl (.inl rfl)) (d_tup (da_cons (de_var rfl (.inl rfl)) (da_cons (de_var rfl (.inl rfl)) (da_cons (de_var rfl (.inl rfl)) (da_cons (d_callK o__law_pick (L2N.takes_of rfl rfl rfl rfl) (hr.mono (by decide)) rfl (da_cons (de_var rfl (.inl rfl)) (da_cons (de_var rfl (.inl rfl)) da_nil))) da_nil)))))))))))) (ds_one (ds_ret (d_bTO call_tuple_of ag_tuple rfl m_tuple (by decide +kernel) (pe_var (i := 3) rfl (.inl rfl)))))))
theorem ok_is_place (S : SayX fa fn ts K mg) : Okd P w K mg base 3 "is_place" ["track", "thing"] c_is_place := by
  have o_is_within := ok_is_within (P := P) (w := w) (base := base) S
  obtain ⟨fd, F⟩ := S.fun_ 9 (d := d9)
  have hN : (["track", "thing"] : List Str).Nodup := by decide +kernel
  refine okd_of (N := ["track", "thing"]) (ps := ["track", "thing"]) F (S.glo 9) ⟨rfl, rfl, rfl, hN, rfl, by decide +kernel, by decide +kernel⟩ (fun _ _ _ _ _ _ us hl => match us, hl with | [_, _], _ => rfl) l_is_place k_is_place ?_
  intro cdv A outer s H E hr
  exact (ds_one (ds_ret (d_callK o_is_within (L2N.takes_of rfl rfl rfl rfl) (hr.mono (by decide)) rfl (da_cons (de_var rfl (.inl rfl)) (da_cons de_int (da_cons (de_bin op_sub ag_sub (d_fld (de_var rfl (.inl rfl)) h_fld0 rfl) de_int) da_nil))))))
theorem ok_check_place_x (S : SayX fa fn ts K mg) : Okd P w K mg base 4 "check_place" ["track", "thing"] c_check_place_x := by
  have g_NoPlace : mg "NoPlace" = some (.ref (clsA K "NoPlace")) := S.glo 40
  have rai_NoPlace : RaiOk K "NoPlace" := He.exc_ok (S.at_ 44 (f := .exc "NoPlace"))
  have o_is_place := ok_is_place (P := P) (w := w) (base := base) S
  obtain ⟨fd, F⟩ := S.fun_ 10 (d := d10)
  have hN : (["track", "thing"] : List Str).Nodup := by decide +kernel
  refine okd_of (N := ["track", "thing"]) (ps := ["track", "thing"]) F (S.glo 10) ⟨rfl, rfl, rfl, hN, rfl, by decide +kernel, by decide +kernel⟩ (fun _ _ _ _ _ _ us hl => match us, hl with | [_, _], _ => rfl) l_check_place_x k_check_place_x ?_
  intro cdv A outer s H E hr
  exact (ds_one (ds_if (dt_not (dt_val (d_callK o_is_place (L2N.takes_of rfl rfl rfl rfl) (hr.mono (by decide)) rfl (da_cons (de_var rfl (.inl rfl)) (da_cons (de_var rfl (.inl rfl)) da_nil))))) (ds_one (ds_raise (c := "NoPlace") rfl (L2N.takes_of rfl rfl rfl rfl) rai_NoPlace g_NoPlace rfl)) ds_nil))
theorem ok_is_from (S : SayX fa fn ts K mg) : Okd P w K mg base 2 "is_from" ["thing", "least"] c_is_from := by
  have o_is_integer := ok_is_integer (P := P) (w := w) (base := base) S
  obtain ⟨fd, F⟩ := S.fun_ 11 (d := d11)
  have hN : (["thing", "least"] : List Str).Nodup := by decide +kernel
  refine okd_of (N := ["thing", "least"]) (ps := ["thing", "least"]) F (S.glo 11) ⟨rfl, rfl, rfl, hN, rfl, by decide +kernel, by decide +kernel⟩ (fun _ _ _ _ _ _ us hl => match us, hl with | [_, _], _ => rfl) l_is_from k_is_from ?_
  intro cdv A outer s H E hr
  exact (ds_one (ds_ret (d_and (d_callK o_is_integer (L2N.takes_of rfl rfl rfl rfl) (hr.mono (by decide)) rfl (da_cons (de_var rfl (.inl rfl)) da_nil)) (d_one (de_cmp op_ge ag_ge (de_var rfl (.inl rfl)) (de_var rfl (.inl rfl)))))))
theorem ok_check_coins_x (S : SayX fa fn ts K mg) : Okd P w K mg base 3 "check_coins" ["thing"] c_check_coins_x := by
  have g_NoCoins : mg "NoCoins" = some (.ref (clsA K "NoCoins")) := S.glo 39
  have rai_NoCoins : RaiOk K "NoCoins" := He.exc_ok (S.at_ 43 (f := .exc "NoCoins"))
  have o_is_from := ok_is_from (P := P) (w := w) (base := base) S
  obtain ⟨fd, F⟩ := S.fun_ 12 (d := d12)
  have hN : (["thing"] : List Str).Nodup := by decide +kernel
  refine okd_of (N := ["thing"]) (ps := ["thing"]) F (S.glo 12) ⟨rfl, rfl, rfl, hN, rfl, by decide +kernel, by decide +kernel⟩ (fun _ _ _ _ _ _ us hl => match us, hl with | [_], _ => rfl) l_check_coins_x k_check_coins_x ?_
  intro cdv A outer s H E hr
  exact (ds_one (ds_if (dt_not (dt_val (d_callK o_is_from (L2N.takes_of rfl rfl rfl rfl) (hr.mono (by decide)) rfl (da_cons (de_var rfl (.inl rfl)) (da_cons de_int da_nil))))) (ds_one (ds_raise (c := "NoCoins") rfl (L2N.takes_of rfl rfl rfl rfl) rai_NoCoins g_NoCoins rfl)) ds_nil))
theorem ok_steps_of (S : SayX fa fn ts K mg) : Okd P w K mg base 1 "steps_of" ["track", "place"] c_steps_of := by
  obtain ⟨fd, F⟩ := S.fun_ 13 (d := d13)
  have hN : (["track", "place"] : List Str).Nodup := by decide +kernel
  refine okd_of (N := ["track", "place"]) (ps := ["track", "place"]) F (S.glo 13) ⟨rfl, rfl, rfl, hN, rfl, by decide +kernel, by decide +kernel⟩ (fun _ _ _ _ _ _ us hl => match us, hl with | [_, _], _ => rfl) l_steps_of k_steps_of ?_
  intro cdv A outer s H E hr
  exact (ds_one (ds_ret (d_ix (fun _ _ => rfl) (d_fld (de_var rfl (.inl rfl)) h_fld2 rfl) (de_var rfl (.inl rfl)))))
theorem ok_is_stake_there (S : SayX fa fn ts K mg) : Okd P w K mg base 3 "is_stake_there" ["track", "place", "thing"] c_is_stake_there := by
  have m_all := S.fre 23
  have m_isinstance := S.fre 26
  have m_len := S.fre 27
  have m_tuple := S.fre 34
  have o_is_from := ok_is_from (P := P) (w := w) (base := base) S
  have o_steps_of := ok_steps_of (P := P) (w := w) (base := base) S
  obtain ⟨fd, F⟩ := S.fun_ 14 (d := d14)
  have hN : (["track", "place", "thing", "coins"] : List Str).Nodup := by decide +kernel
  refine okd_of (N := ["track", "place", "thing", "coins"]) (ps := ["track", "place", "thing"]) F (S.glo 14) ⟨rfl, rfl, rfl, hN, rfl, by decide +kernel, by decide +kernel⟩ (fun _ _ _ _ _ _ us hl => match us, hl with | [_, _, _], _ => rfl) l_is_stake_there k_is_stake_there ?_
  intro cdv A outer s H E hr
  exact (ds_cons (ds_if (PW.pt (dw_or (dt_not (dt_val (d_is (de_var rfl (.inl rfl)) (by decide) rfl m_isinstance (pe_bltn (v := .ty "tuple") rfl m_tuple (by decide +kernel) rfl)))) (dw_one (dt_cmp (op_neD hr.units) ag_ne (d_b call_lenA ag_len rfl m_len (by decide +kernel) (da_cons (de_var rfl (.inl rfl)) da_nil)) (d_b call_lenA ag_len rfl m_len (by decide +kernel) (da_cons (d_callK o_steps_of (L2N.takes_of rfl rfl rfl rfl) (hr.mono (by decide)) rfl (da_cons (de_var rfl (.inl rfl)) (da_cons (de_var rfl (.inl rfl)) da_nil))) da_nil)))))) (ds_one (ds_ret de_bl)) ds_nil) (ds_one (ds_ret (d_b (cr_all rfl) ag_all rfl m_all (by decide +kernel) (da_cons (de_new (d_comp (own := [("coins", 3)])  rfl hN (di_e (de_var rfl (.inl rfl))) (blkOk_by (own := [("coins", 3)]) (by kernel_rfl)) (fun _ _ _ _ _ => (dg_name hN rfl (.inl rfl))) (fun _ _ _ _ _ => dts_nil) (fun _ _ _ _ _ => (d_callK o_is_from takes0 (hr.mono (by decide)) rfl (da_cons (de_var rfl (.inl rfl)) (da_cons de_int da_nil)))) (by decide))) da_nil)))))
theorem ok_is_stake (S : SayX fa fn ts K mg) : Okd P w K mg base 5 "is_stake" ["track", "place", "coins", "thing"] c_is_stake := by
  have m_sum := S.fre 33
  have o_check_coins := ok_check_coins_x (P := P) (w := w) (base := base) S
  have o_check_place := ok_check_place_x (P := P) (w := w) (base := base) S
  have o_is_stake_there := ok_is_stake_there (P := P) (w := w) (base := base) S
  obtain ⟨fd, F⟩ := S.fun_ 15 (d := d15)
  have hN : (["track", "place", "coins", "thing"] : List Str).Nodup := by decide +kernel
  refine okd_of (N := ["track", "place", "coins", "thing"]) (ps := ["track", "place", "coins", "thing"]) F (S.glo 15) ⟨rfl, rfl, rfl, hN, rfl, by decide +kernel, by decide +kernel⟩ (fun _ _ _ _ _ _ us hl => match us, hl with | [_, _, _, _], _ => rfl) l_is_stake k_is_stake ?_
  intro cdv A outer s H E hr
  exact (ds_cons (ds_expr (d_callK o_check_place (L2N.takes_of rfl rfl rfl rfl) (hr.mono (by decide)) rfl (da_cons (de_var rfl (.inl rfl)) (da_cons (de_var rfl (.inl rfl)) da_nil)))) (ds_cons (ds_expr (d_callK o_check_coins (L2N.takes_of rfl rfl rfl rfl) (hr.mono (by decide)) rfl (da_cons (de_var rfl (.inl rfl)) da_nil))) (ds_one (ds_ret (d_and (d_callK o_is_stake_there (L2N.takes_of rfl rfl rfl rfl) (hr.mono (by decide)) rfl (da_cons (de_var rfl (.inl rfl)) (da_cons (de_var rfl (.inl rfl)) (da_cons (de_var rfl (.inl rfl)) da_nil)))) (d_one (de_cmp op_le ag_le (d_b (cr_sumB rfl) ag_sum rfl m_sum (by decide +kernel) (da_cons (de_var rfl (.inl rfl)) da_nil)) (de_var rfl (.inl rfl)))))))))
theorem ok_law_tried_v3 (S : SayX fa fn ts K mg) : Okd P w K mg base 6 "_law_tried" ["_law_track", "_law_place", "_law_coins", "_law_thing"] c_law_tried_v3 := by
  have m_isinstance := S.fre 26
  have m_range := S.fre 30
  have hx_144034 := S.exs 1
  have g_NoCoins : mg "NoCoins" = some (.ref (clsA K "NoCoins")) := S.glo 39
  have g_NoPlace : mg "NoPlace" = some (.ref (clsA K "NoPlace")) := S.glo 40
  have g_NoStake : mg "NoStake" = some (.ref (clsA K "NoStake")) := S.glo 41
  have g_StakeError : mg "StakeError" = some (.ref (clsA K "StakeError")) := S.glo 42
  have o_is_stake := ok_is_stake (P := P) (w := w) (base := base) S
  obtain ⟨fd, F⟩ := S.fun_ 16 (d := d16)
  have hN : (["_law_track", "_law_place", "_law_coins", "_law_thing", "_law_found", "e", "_law_flags", "_law_k"] : List Str).Nodup := by decide +kernel
  refine okd_of (N := ["_law_track", "_law_place", "_law_coins", "_law_thing", "_law_found", "e", "_law_flags", "_law_k"]) (ps := ["_law_track", "_law_place", "_law_coins", "_law_thing"]) F (S.glo 16) ⟨rfl, rfl, rfl, hN, rfl, by decide +kernel, by decide +kernel⟩ (fun _ _ _ _ _ _ us hl => match us, hl with | [_, _, _, _], _ => rfl) l_law_tried_v3 k_law_tried_v3 ?_
  intro cdv A outer s H E hr
  exact (ds_cons (ds_set hN rfl (.inl rfl) de_str) (ds_cons (ds_tryA (cs := ["NoCoins", "NoPlace"]) (c := "StakeError") (i := 5) rfl rfl hN rfl rfl ⟨rfl, by decide, .inl g_StakeError⟩ (L2N.takes_of rfl rfl rfl rfl) (fun k hk => ((hx_144034 k hk).2.2 "StakeError" (by decide)).1) (fun W pn xe tk1 pa1 => (ds_one (ds_set hN rfl (.inl rfl) (d_callK o_is_stake tk1 (hr.mono (by decide)) rfl (da_cons (de_var rfl (.inl rfl)) (da_cons (de_var rfl (.inl rfl)) (da_cons (de_var rfl (.inl rfl)) (da_cons (de_var rfl (.inl rfl)) da_nil)))))))) (fun a_ oe_ d_ k_ fs_ pn_ hk hz hf => (ds_cons (ds_set hN rfl (.inr rfl) (de_new (d_lst (da_cons (d_isX (hx_144034 _ hk).1 ((hx_144034 _ hk).2.2 "NoPlace" (by decide)).2 hz hf rfl m_isinstance (pe_var (i := 5) rfl (.inl rfl)) rfl g_NoPlace) (da_cons (d_isX (hx_144034 _ hk).1 ((hx_144034 _ hk).2.2 "NoCoins" (by decide)).2 hz hf rfl m_isinstance (pe_var (i := 5) rfl (.inl rfl)) rfl g_NoCoins) (da_cons (d_isX (hx_144034 _ hk).1 ((hx_144034 _ hk).2.2 "NoStake" (by decide)).2 hz hf rfl m_isinstance (pe_var (i := 5) rfl (.inl rfl)) rfl g_NoStake) da_nil)))))) (ds_one (ds_set hN rfl (.inl rfl) (d_join (de_new (d_compH (own := [("_law_k", 7)])  (hotS hz hf) List.mem_cons_self hN (di_r1H rfl m_range de_int) (blkOk_by (own := [("_law_k", 7)]) (by kernel_rfl)) (fun _ _ _ _ _ => (dg_name hN rfl (.inl rfl))) (fun _ _ _ _ _ => (dts_one (dt_val (d_ix (fun _ _ => rfl) (de_var rfl (.inr (.inl rfl))) (de_var rfl (.inl rfl)))))) (fun _ _ _ _ _ => (d_ix (fun _ _ => rfl) (de_new (d_lst (da_cons de_str (da_cons de_str (da_cons de_str da_nil))))) (de_var rfl (.inl rfl)))) (by decide))))))))) (ds_one (ds_ret (de_var rfl (.inl rfl))))))
theorem ok_law_steps (S : SayX fa fn ts K mg) : Okd P w K mg base 1 "_law_steps" ["_law_arrows_here", "_law_place"] c_law_steps := by
  obtain ⟨fd, F⟩ := S.fun_ 17 (d := d17)
  have hN : (["_law_arrows_here", "_law_place", "_law_arrow"] : List Str).Nodup := by decide +kernel
  refine okd_of (N := ["_law_arrows_here", "_law_place", "_law_arrow"]) (ps := ["_law_arrows_here", "_law_place"]) F (S.glo 17) ⟨rfl, rfl, rfl, hN, rfl, by decide +kernel, by decide +kernel⟩ (fun _ _ _ _ _ _ us hl => match us, hl with | [_, _], _ => rfl) l_law_steps k_law_steps ?_
  intro cdv A outer s H E hr
  exact (ds_one (ds_ret (de_new (d_comp (own := [("_law_arrow", 2)])  rfl hN (di_e (de_var rfl (.inl rfl))) (blkOk_by (own := [("_law_arrow", 2)]) (by kernel_rfl)) (fun _ _ _ _ _ => (dg_name hN rfl (.inl rfl))) (fun _ _ _ _ _ => (dts_one (dt_cmp (op_eqD hr.units) ag_eq (d_ix (fun _ _ => rfl) (de_var rfl (.inl rfl)) de_int) (de_var rfl (.inr (.inl rfl)))))) (fun _ _ _ _ _ => (d_sl (de_var rfl (.inl rfl)) (do_so de_int) do_no)) (by decide)))))
theorem ok_law_odd (S : SayX fa fn ts K mg) : Okd P w K mg base 2 "_law_odd" ["_law_tape_here"] c_law_odd := by
  have m_len := S.fre 27
  have o__law_pick := ok_law_pick (P := P) (w := w) (base := base) S
  obtain ⟨fd, F⟩ := S.fun_ 18 (d := d18)
  have hN : (["_law_tape_here", "_law_things"] : List Str).Nodup := by decide +kernel
  refine okd_of (N := ["_law_tape_here", "_law_things"]) (ps := ["_law_tape_here"]) F (S.glo 18) ⟨rfl, rfl, rfl, hN, rfl, by decide +kernel, by decide +kernel⟩ (fun _ _ _ _ _ _ us hl => match us, hl with | [_], _ => rfl) l_law_odd k_law_odd ?_
  intro cdv A outer s H E hr
  exact (ds_cons (ds_set hN rfl (.inl rfl) (de_new (d_lst (da_cons de_non (da_cons de_bl (da_cons de_bl (da_cons de_int (da_cons de_int (da_cons (d_neg de_int) (da_cons (de_bin op_pow ag_pow de_int de_int) (da_cons de_str (da_cons de_str (da_cons (d_tup da_nil) (da_cons (de_new (d_lst da_nil)) (da_cons (de_new d_dic0) (da_cons (d_tup (da_cons de_int da_nil)) (da_cons (de_new (d_lst (da_cons de_int da_nil))) (da_cons (d_tup (da_cons de_int (da_cons de_int da_nil))) (da_cons (d_tup (da_cons de_int (da_cons de_int da_nil))) (da_cons (d_tup (da_cons de_int (da_cons de_int da_nil))) (da_cons (d_tup (da_cons de_bl da_nil)) da_nil))))))))))))))))))))) (ds_cons (ds_set hN rfl (.inl rfl) (de_bin op_addA ag_add (de_var rfl (.inl rfl)) (de_new (d_lst (da_cons (d_tup (da_cons de_non da_nil)) (da_cons (d_tup (da_cons de_int (da_cons de_non da_nil))) (da_cons (d_tup (da_cons de_int (da_cons de_int (da_cons de_int da_nil)))) (da_cons (d_tup (da_cons de_str da_nil)) (da_cons (d_tup (da_cons (d_tup (da_cons de_int da_nil)) da_nil)) (da_cons (d_tup (da_cons (d_neg de_int) da_nil)) (da_cons (d_tup (da_cons de_int (da_cons (d_neg de_int) da_nil))) (da_cons (d_tup (da_cons de_int (da_cons de_int da_nil))) (da_cons de_str (da_cons (d_tup (da_cons de_int da_nil)) (da_cons (d_tup (da_cons de_int (da_cons de_int da_nil))) (da_cons de_str da_nil)))))))))))))))) (ds_one (ds_ret (d_ix (fun _ _ => rfl) (de_var rfl (.inl rfl)) (d_callK o__law_pick (L2N.takes_of rfl rfl rfl rfl) (hr.mono (by decide)) rfl (da_cons (de_var rfl (.inl rfl)) (da_cons (d_b call_lenA ag_len rfl m_len (by decide +kernel) (da_cons (de_var rfl (.inl rfl)) da_nil)) da_nil))))))))
theorem ok_law_is_int (S : SayX fa fn ts K mg) : Okd P w K mg base 1 "_law_is_int" ["_law_thing", "_law_least"] c_law_is_int := by
  have m_bool := S.fre 24
  have m_int := S.fre 25
  have m_isinstance := S.fre 26
  obtain ⟨fd, F⟩ := S.fun_ 19 (d := d19)
  have hN : (["_law_thing", "_law_least"] : List Str).Nodup := by decide +kernel
  refine okd_of (N := ["_law_thing", "_law_least"]) (ps := ["_law_thing", "_law_least"]) F (S.glo 19) ⟨rfl, rfl, rfl, hN, rfl, by decide +kernel, by decide +kernel⟩ (fun _ _ _ _ _ _ us hl => match us, hl with | [_, _], _ => rfl) l_law_is_int k_law_is_int ?_
  intro cdv A outer s H E hr
  exact (ds_one (ds_ret (d_and (d_is (de_var rfl (.inl rfl)) (by decide) rfl m_isinstance (pe_bltn (v := .ty "int") rfl m_int (by decide +kernel) rfl)) (d_and (d_not (d_is (de_var rfl (.inl rfl)) (by decide) rfl m_isinstance (pe_bltn (v := .ty "bool") rfl m_bool (by decide +kernel) rfl))) (d_one (de_cmp op_ge ag_ge (de_var rfl (.inl rfl)) (de_var rfl (.inl rfl))))))))
theorem ok_law_is_stake (S : SayX fa fn ts K mg) : Okd P w K mg base 2 "_law_is_stake" ["_law_arrows_here", "_law_place", "_law_thing"] c_law_is_stake := by
  have m_isinstance := S.fre 26
  have m_len := S.fre 27
  have m_tuple := S.fre 34
  have o__law_is_int := ok_law_is_int (P := P) (w := w) (base := base) S
  have o__law_steps := ok_law_steps (P := P) (w := w) (base := base) S
  obtain ⟨fd, F⟩ := S.fun_ 20 (d := d20)
  have hN : (["_law_arrows_here", "_law_place", "_law_thing", "_law_coins"] : List Str).Nodup := by decide +kernel
  refine okd_of (N := ["_law_arrows_here", "_law_place", "_law_thing", "_law_coins"]) (ps := ["_law_arrows_here", "_law_place", "_law_thing"]) F (S.glo 20) ⟨rfl, rfl, rfl, hN, rfl, by decide +kernel, by decide +kernel⟩ (fun _ _ _ _ _ _ us hl => match us, hl with | [_, _, _], _ => rfl) l_law_is_stake k_law_is_stake ?_
  intro cdv A outer s H E hr
  exact (ds_cons (ds_if (PW.pt (dw_or (dt_not (dt_val (d_is (de_var rfl (.inl rfl)) (by decide) rfl m_isinstance (pe_bltn (v := .ty "tuple") rfl m_tuple (by decide +kernel) rfl)))) (dw_one (dt_cmp (op_neD hr.units) ag_ne (d_b call_lenA ag_len rfl m_len (by decide +kernel) (da_cons (de_var rfl (.inl rfl)) da_nil)) (d_b call_lenA ag_len rfl m_len (by decide +kernel) (da_cons (d_callK o__law_steps (L2N.takes_of rfl rfl rfl rfl) (hr.mono (by decide)) rfl (da_cons (de_var rfl (.inl rfl)) (da_cons (de_var rfl (.inl rfl)) da_nil))) da_nil)))))) (ds_one (ds_ret de_bl)) ds_nil) (ds_one (ds_ret (de_cmp (op_eqD hr.units) ag_eq (d_b call_lenA ag_len rfl m_len (by decide +kernel) (da_cons (de_new (d_comp (own := [("_law_coins", 3)])  rfl hN (di_e (de_var rfl (.inl rfl))) (blkOk_by (own := [("_law_coins", 3)]) (by kernel_rfl)) (fun _ _ _ _ _ => (dg_name hN rfl (.inl rfl))) (fun _ _ _ _ _ => (dts_one (dt_not (dt_val (d_callK o__law_is_int takes0 (hr.mono (by decide)) rfl (da_cons (de_var rfl (.inl rfl)) (da_cons de_int da_nil))))))) (fun _ _ _ _ _ => (de_var rfl (.inl rfl))) (by decide))) da_nil)) de_int))))
theorem ok_law_flag (S : SayX fa fn ts K mg) : Okd P w K mg base 1 "_law_flag" ["_law_told", "_law_due"] c_law_flag := by
  have m_bool := S.fre 24
  have m_isinstance := S.fre 26
  obtain ⟨fd, F⟩ := S.fun_ 21 (d := d21)
  have hN : (["_law_told", "_law_due"] : List Str).Nodup := by decide +kernel
  refine okd_of (N := ["_law_told", "_law_due"]) (ps := ["_law_told", "_law_due"]) F (S.glo 21) ⟨rfl, rfl, rfl, hN, rfl, by decide +kernel, by decide +kernel⟩ (fun _ _ _ _ _ _ us hl => match us, hl with | [_, _], _ => rfl) l_law_flag k_law_flag ?_
  intro cdv A outer s H E hr
  exact (ds_one (ds_ret (d_and (d_is (de_var rfl (.inl rfl)) (by decide) rfl m_isinstance (pe_bltn (v := .ty "bool") rfl m_bool (by decide +kernel) rfl)) (d_one (de_cmp (op_eqD hr.units) ag_eq (de_var rfl (.inl rfl)) (de_var rfl (.inl rfl)))))))
theorem ok_keepTrack (S : SayX fa fn ts K mg) : ∃ fd, FnOk P w K mg base (L2N.CX P w) 1 (He.ma K (He.ga K "Track") "keep") fd ["self", "places", "arrows"] (spKeep K "Track") ∧ Binds K fd ["self", "places", "arrows"] [] := by
  have m_range := S.fre 30
  have h_cls : Cls K (clsA K "Track") := He.cls_ok (S.at_ 46 (f := .cls "Track"))
  have h_isi : IsiOk K (clsA K "Track") := S.isi 2
  have h_no0 : NoAttr K (clsA K "Track") "places" := He.noat_ok (S.at_ 47 (f := .noat "Track" "places"))
  have h_no1 : NoAttr K (clsA K "Track") "arrows" := He.noat_ok (S.at_ 48 (f := .noat "Track" "arrows"))
  have h_no2 : NoAttr K (clsA K "Track") "kept_arrows" := He.noat_ok (S.at_ 49 (f := .noat "Track" "kept_arrows"))
  obtain ⟨fd, F⟩ := S.fun_ 24 (d := d24)
  have hN : (["self", "places", "arrows", "place", "letter", "pay", "goal"] : List Str).Nodup := by decide +kernel
  refine ⟨fd, F.ok (N := ["self", "places", "arrows", "place", "letter", "pay", "goal"]) (ps := ["self", "places", "arrows"]) ⟨rfl, rfl, rfl, hN, rfl, by decide +kernel, by decide +kernel⟩ (fun vs H Q E h => ?_) (fun cdv A outer s H vs Q E hr h => ⟨_, PSs.nox ?_, pure_keep (.inl rfl) h_cls h_no0 h_no1 h_no2 h_isi vs H Q E h⟩), F.bindsN (fun _ _ _ _ _ _ us hl => match us, hl with | [_, _, _], _ => rfl)⟩
  · obtain ⟨x, dx, arr, n, avs, ds, R, rfl, _⟩ := h
    rfl
  · exact pss_cons (ps_fld (pe_var (i := 0) rfl (.inl rfl)) (pe_var (i := 1) rfl (.inl rfl)) rfl) (pss_cons (ps_fld (pe_var (i := 0) rfl (.inl rfl)) (pe_var (i := 2) rfl (.inl rfl)) rfl) (pss_cons (ps_fld (pe_var (i := 0) rfl (.inl rfl)) (pe_lc (own := [("place", 3)]) rfl hN (pi_range1 rfl m_range (pa_cons (pe_var (i := 1) rfl (.inl rfl)) pa_nil)) (blkOk_by (own := [("place", 3)]) (by kernel_rfl)) (fun _ _ _ _ _ => (pg_name hN rfl (.inl rfl))) (fun _ _ _ _ _ => pts_nil) (fun _ _ _ _ _ => pe_lst pa_nil)) rfl)
      (pss_one (ps_for PassesOwn.never rfl (pi_tup (pe_var (i := 2) rfl (.inl rfl))) (pg_tup rfl (pgs_cons (pg_name hN rfl (.inl rfl)) (pgs_cons (pg_name hN rfl (.inl rfl)) (pgs_cons (pg_name hN rfl (.inl rfl)) (pgs_cons (pg_name hN rfl (.inl rfl)) pgs_nil))))) (pss_one (ps_expr (pe_bm PySem.F.plainAttrs_list PySem.F.slot_list_append PySem.F.type_list_append mt_append (pe_ix ix_list (pe_fld (pe_var (i := 0) rfl (.inl rfl)) rfl) (pe_var (i := 3) rfl (.inl rfl)) (fun _ _ => rfl)) (pa_cons (pe_tup (pa_cons (pe_var (i := 4) rfl (.inl rfl)) (pa_cons (pe_var (i := 5) rfl (.inl rfl)) (pa_cons (pe_var (i := 6) rfl (.inl rfl)) pa_nil)))) pa_nil))))))))
theorem ok_Track (S : SayX fa fn ts K mg) : ∃ fd, FnOk P w K mg base (L2N.CX P w) 5 (He.ma K (He.ga K "Track") "__init__") fd ["self", "places", "arrows"] (spInit K (gint K)) ∧ Binds K fd ["self", "places", "arrows"] [] := by
  have m_len := S.fre 27
  obtain ⟨t_mi_MOST_PLACES, mi_MOST_PLACES⟩ := S.int 37
  have h_cls : Cls K (clsA K "Track") := He.cls_ok (S.at_ 46 (f := .cls "Track"))
  have h_isi : IsiOk K (clsA K "Track") := S.isi 2
  have h_no0 : NoAttr K (clsA K "Track") "places" := He.noat_ok (S.at_ 47 (f := .noat "Track" "places"))
  have h_no1 : NoAttr K (clsA K "Track") "arrows" := He.noat_ok (S.at_ 48 (f := .noat "Track" "arrows"))
  have h_no2 : NoAttr K (clsA K "Track") "kept_arrows" := He.noat_ok (S.at_ 49 (f := .noat "Track" "kept_arrows"))
  have o_are_arrows := ok_are_arrows (P := P) (w := w) (base := base) S
  have o_is_within := ok_is_within (P := P) (w := w) (base := base) S
  obtain ⟨fdK, FK, BK⟩ := ok_keepTrack (P := P) (w := w) (base := base) S
  obtain ⟨fd, F⟩ := S.fun_ 23 (d := d23)
  have h_meth : Meth K (clsA K "Track") "keep" (He.ma K (He.ga K "Track") "keep") := He.meth_ok (S.at_ 51 (f := .meth "Track" "keep"))
  have hN : (["self", "places", "arrows", "arrow"] : List Str).Nodup := by decide +kernel
  refine ⟨fd, fn_init (N := ["self", "places", "arrows", "arrow"]) (ps := ["self", "places", "arrows"]) F ⟨rfl, rfl, rfl, hN, rfl, by decide +kernel, by decide +kernel⟩ rfl k_Track_init ?_, F.bindsN (fun _ _ _ _ _ _ us hl => match us, hl with | [_, _, _], _ => rfl)⟩
  intro cdv A outer s H E hr
  refine ⟨fun _ _ _ => False, ?_⟩
  exact init_body (ds_if (dt_not (dt_val (d_callK o_is_within takes0 (hr.mono (by decide)) rfl (da_cons (de_var rfl (.inl rfl)) (da_cons de_int (da_cons (de_gint rfl mi_MOST_PLACES) da_nil)))))) (ds_one ds_never) ds_nil) (ds_if (dt_not (dt_val (d_callK o_are_arrows takes0 (hr.mono (by decide)) rfl (da_cons (de_var rfl (.inl rfl)) (da_cons (de_var rfl (.inl rfl)) da_nil))))) (ds_one ds_never) ds_nil) (ds_if (dt_cmp (op_ltD hr.units) ag_lt (d_b call_lenA ag_len rfl m_len (by decide +kernel) (da_cons (de_new (d_dcT (own := [("arrow", 3)]) (hu1 hr) rfl hN (di_e (de_var rfl (.inl rfl))) (blkOk_by (own := [("arrow", 3)]) (by kernel_rfl)) (fun _ _ _ _ _ => (dg_name hN rfl (.inl rfl))) (fun _ _ _ _ _ => dts_nil) (fun _ _ _ _ _ => (d_sl (de_var rfl (.inl rfl)) do_no (do_so de_int))) (fun _ _ _ _ _ => de_bl) (by decide))) da_nil)) (d_b call_lenA ag_len rfl m_len (by decide +kernel) (da_cons (de_var rfl (.inl rfl)) da_nil))) (ds_one ds_never) ds_nil) (ds_if (dt_cmp (op_ltD hr.units) ag_lt (d_b call_lenA ag_len rfl m_len (by decide +kernel) (da_cons (de_new (d_dc (own := [("arrow", 3)]) rfl hN (di_e (de_var rfl (.inl rfl))) (blkOk_by (own := [("arrow", 3)]) (by kernel_rfl)) (fun _ _ _ _ _ => (dg_name hN rfl (.inl rfl))) (fun _ _ _ _ _ => dts_nil) (fun _ _ _ _ _ => (d_ix (fun _ _ => rfl) (de_var rfl (.inl rfl)) de_int)) (fun _ _ _ _ _ => de_bl) (by decide))) da_nil)) (de_var rfl (.inl rfl))) (ds_one ds_never) ds_nil) (ps_expr (pe_meth (pe_var (i := 0) rfl (.inl rfl)) h_cls h_meth FK (hr.mono (by decide)) BK (ds := []) (dvs := []) .nil passes0 (pa_cons (pe_var (i := 1) rfl (.inl rfl)) (pa_cons (pe_var (i := 2) rfl (.inl rfl)) pa_nil))))
theorem ok_law_k27 (S : SayX fa fn ts K mg) : ∃ fd, FnAt P w K mg base (He.ga K "law") fd "_law_script" (liftC K (gint K) c_law_k27) ∧ ∃ (oc : Value) (od : Option Addr) (osl : Array (Option Value)), K.lookup (He.ga K "law") = some ⟨oc, od, .func fd, osl⟩ := by
  have m_len := S.fre 27
  have m_list := S.fre 28
  have m_max := S.fre 29
  have m_range := S.fre 30
  have m_repr := S.fre 31
  have m_sum := S.fre 33
  have m_tuple := S.fre 34
  have h_sys := S.sys 0
  obtain ⟨fd_Track, F_Track, B_Track⟩ := ok_Track (P := P) (w := w) (base := base) S
  have M_Track : Mk K (clsA K "Track") (He.ma K (He.ga K "Track") "__init__") := He.mkr_ok (S.at_ 50 (f := .mkr "Track"))
  have g_Track : mg "Track" = some (.ref (clsA K "Track")) := S.glo 45
  have o__law_arrows := ok_law_arrows (P := P) (w := w) (base := base) S
  have o__law_flag := ok_law_flag (P := P) (w := w) (base := base) S
  have o__law_is_int := ok_law_is_int (P := P) (w := w) (base := base) S
  have o__law_is_stake := ok_law_is_stake (P := P) (w := w) (base := base) S
  have o__law_odd := ok_law_odd (P := P) (w := w) (base := base) S
  have o__law_pick := ok_law_pick (P := P) (w := w) (base := base) S
  have o__law_steps := ok_law_steps (P := P) (w := w) (base := base) S
  have o__law_tape := ok_law_tape (P := P) (w := w) (base := base) S
  have o__law_tried := ok_law_tried_v3 (P := P) (w := w) (base := base) S
  have o_is_stake := ok_is_stake (P := P) (w := w) (base := base) S
  obtain ⟨fd, F⟩ := S.fun_ 22 (d := d22)
  have hN : (["_law_script", "_law_tape_here", "_law_places", "_law_arrows_here", "_law_track", "_law_turn", "_law_place", "_law_many", "_law_stake", "_law_coins", "_law_at", "_law_wrong", "_law_thing", "_law_where", "_law_have", "_law_kept", "_law_found", "_law_due", "_law_k"] : List Str).Nodup := by decide +kernel
  refine okat_of (k := 6) (N := ["_law_script", "_law_tape_here", "_law_places", "_law_arrows_here", "_law_track", "_law_turn", "_law_place", "_law_many", "_law_stake", "_law_coins", "_law_at", "_law_wrong", "_law_thing", "_law_where", "_law_have", "_law_kept", "_law_found", "_law_due", "_law_k"]) F ⟨rfl, rfl, rfl, hN, rfl, by decide +kernel, by decide +kernel⟩ l_law_k27 k_law_k27 ⟨rfl, by decide, by decide⟩ ?_
  intro cdv s H E hr
  exact (ds_cons (ds_set hN rfl (.inr rfl) (d_callK o__law_tape (L2N.takes_of rfl rfl rfl rfl) (hr.mono (by decide)) rfl (da_cons (de_var rfl (.inl rfl)) da_nil))) (ds_cons (ds_set hN rfl (.inl rfl) (de_bin op_addA ag_add de_int (d_callK o__law_pick (L2N.takes_of rfl rfl rfl rfl) (hr.mono (by decide)) rfl (da_cons (de_var rfl (.inr (.inl rfl))) (da_cons de_int da_nil))))) (ds_cons (ds_set hN rfl (.inl rfl) (d_callK o__law_arrows (L2N.takes_of rfl rfl rfl rfl) (hr.mono (by decide)) rfl (da_cons (de_var rfl (.inr (.inl rfl))) (da_cons (de_var rfl (.inl rfl)) (da_cons de_int da_nil))))) (ds_cons (ds_set hN rfl (.inl rfl) (d_track M_Track F_Track (hr.mono (by decide)) rfl g_Track B_Track (da_cons (de_var rfl (.inl rfl)) (da_cons (de_var rfl (.inl rfl)) da_nil)))) (ds_cons (ds_for (passes_of rfl) rfl (di_r1 rfl m_range de_int) (dg_name hN rfl (.inl rfl)) (ds_cons (ds_set hN rfl (.inl rfl) (d_callK o__law_pick (L2N.takes_of rfl rfl rfl rfl) (hr.mono (by decide)) rfl (da_cons (de_var rfl (.inr (.inl rfl))) (da_cons (de_var rfl (.inl rfl)) da_nil)))) (ds_cons (ds_set hN rfl (.inl rfl) (d_b call_lenA ag_len rfl m_len (by decide +kernel) (da_cons (d_callK o__law_steps (L2N.takes_of rfl rfl rfl rfl) (hr.mono (by decide)) rfl (da_cons (de_var rfl (.inl rfl)) (da_cons (de_var rfl (.inl rfl)) da_nil))) da_nil))) (ds_cons (ds_set hN rfl (.inl rfl) (d_bT call_tuple_of ag_tuple rfl m_tuple (by decide +kernel) (da_cons (de_new (d_comp (own := [("_law_k", 18)])  rfl hN (di_r1 rfl m_range (de_var rfl (.inl rfl))) (blkOk_by (own := [("_law_k", 18)]) (by kernel_rfl)) (fun _ _ _ _ _ => (dg_name hN rfl (.inl rfl))) (fun _ _ _ _ _ => dts_nil) (fun _ _ _ _ _ => (d_callK o__law_pick takes0 (hr.mono (by decide)) rfl (da_cons (de_var rfl (.inr (.inl rfl))) (da_cons de_int da_nil)))) (by decide))) da_nil))) (ds_cons (ds_set hN rfl (.inl rfl) (de_bin op_addA ag_add (d_b (cr_sumB rfl) ag_sum rfl m_sum (by decide +kernel) (da_cons (de_var rfl (.inl rfl)) da_nil)) (d_callK o__law_pick (L2N.takes_of rfl rfl rfl rfl) (hr.mono (by decide)) rfl (da_cons (de_var rfl (.inr (.inl rfl))) (da_cons de_int da_nil))))) (ds_cons (ds_set hN rfl (.inl rfl) (d_callK o__law_pick (L2N.takes_of rfl rfl rfl rfl) (hr.mono (by decide)) rfl (da_cons (de_var rfl (.inr (.inl rfl))) (da_cons (de_var rfl (.inl rfl)) da_nil)))) (ds_cons (ds_own hN rfl (.inl rfl) (d_lst (da_cons (de_var rfl (.inl rfl)) (da_cons (de_var rfl (.inl rfl)) (da_cons (de_bin op_addA ag_add (de_var rfl (.inl rfl)) (d_tup (da_cons de_int da_nil))) (da_cons (d_sl (de_var rfl (.inl rfl)) (do_so de_int) do_no) (da_cons (de_new (d_bTF call_list_of ag_list rfl m_list (by decide +kernel) (da_cons (de_var rfl (.inl rfl)) da_nil))) (da_cons (d_callK o__law_odd (L2N.takes_of rfl rfl rfl rfl) (hr.mono (by decide)) rfl (da_cons (de_var rfl (.inr (.inl rfl))) da_nil)) (da_cons de_non da_nil))))))))) (ds_cons (ds_for (passes_of rfl) rfl (di_e (de_new (d_lst (da_cons (d_neg de_int) (da_cons de_bl (da_cons de_non (da_cons de_str (da_cons (de_bin op_pow ag_pow de_int de_int) (da_cons (d_tup (da_cons de_int da_nil)) (da_cons (de_bin op_addA ag_add (de_var rfl (.inl rfl)) de_int) da_nil)))))))))) (dg_name hN rfl (.inl rfl)) (ds_one (ds_app (pe_var (i := 11) rfl (.inl rfl)) (de_bin op_addA ag_add (de_bin op_addA ag_add (d_sl (de_var rfl (.inl rfl)) do_no (do_so (de_var rfl (.inl rfl)))) (d_tup (da_cons (de_var rfl (.inl rfl)) da_nil))) (d_sl (de_var rfl (.inl rfl)) (do_so (de_bin op_addA ag_add (de_var rfl (.inl rfl)) de_int)) do_no))))) (ds_cons (ds_set hN rfl (.inl rfl) (d_ixO (fun _ _ => rfl) (pe_var (i := 11) rfl (.inl rfl)) (d_callK o__law_pick (L2N.takes_of rfl rfl rfl rfl) (hr.mono (by decide)) rfl (da_cons (de_var rfl (.inr (.inl rfl))) (da_cons de_int da_nil))))) (ds_cons (ds_set hN rfl (.inl rfl) (d_ix (fun _ _ => rfl) (de_new (d_lst (da_cons (de_var rfl (.inl rfl)) (da_cons (de_var rfl (.inl rfl)) (da_cons (de_var rfl (.inl rfl)) (da_cons (de_var rfl (.inl rfl)) (da_cons (d_neg de_int) (da_cons de_non (da_cons de_bl (da_cons de_str (da_cons (d_callK o__law_odd (L2N.takes_of rfl rfl rfl rfl) (hr.mono (by decide)) rfl (da_cons (de_var rfl (.inr (.inl rfl))) da_nil)) da_nil))))))))))) (d_callK o__law_pick (L2N.takes_of rfl rfl rfl rfl) (hr.mono (by decide)) rfl (da_cons (de_var rfl (.inr (.inl rfl))) (da_cons de_int da_nil))))) (ds_cons (ds_set hN rfl (.inl rfl) (d_ix (fun _ _ => rfl) (de_new (d_lst (da_cons (de_var rfl (.inl rfl)) (da_cons (de_var rfl (.inl rfl)) (da_cons (d_b (cr_sumB rfl) ag_sum rfl m_sum (by decide +kernel) (da_cons (de_var rfl (.inl rfl)) da_nil)) (da_cons (d_b (call_max2 rfl) ag_max2 rfl m_max (by decide +kernel) (da_cons de_int (da_cons (de_bin op_sub ag_sub (d_b (cr_sumB rfl) ag_sum rfl m_sum (by decide +kernel) (da_cons (de_var rfl (.inl rfl)) da_nil)) de_int) da_nil))) (da_cons (d_neg de_int) (da_cons de_bl (da_cons de_non (da_cons (d_callK o__law_odd (L2N.takes_of rfl rfl rfl rfl) (hr.mono (by decide)) rfl (da_cons (de_var rfl (.inr (.inl rfl))) da_nil)) da_nil)))))))))) (d_callK o__law_pick (L2N.takes_of rfl rfl rfl rfl) (hr.mono (by decide)) rfl (da_cons (de_var rfl (.inr (.inl rfl))) (da_cons de_int da_nil))))) (ds_cons (ds_set hN rfl (.inl rfl) (d_repr (hu150 hr) rfl h_sys rfl m_repr (da_cons (d_tup (da_cons (de_var rfl (.inl rfl)) (da_cons (de_var rfl (.inl rfl)) (da_cons (de_var rfl (.inl rfl)) da_nil)))) da_nil))) (ds_cons (ds_set hN rfl (.inl rfl) (d_callK o__law_tried (L2N.takes_of rfl rfl rfl rfl) (hr.mono (by decide)) rfl (da_cons (de_var rfl (.inl rfl)) (da_cons (de_var rfl (.inl rfl)) (da_cons (de_var rfl (.inl rfl)) (da_cons (de_var rfl (.inl rfl)) da_nil)))))) (ds_cons (ds_if (dt_cmp op_ne ag_neS (d_repr (hu150 hr) rfl h_sys rfl m_repr (da_cons (d_tup (da_cons (de_var rfl (.inl rfl)) (da_cons (de_var rfl (.inl rfl)) (da_cons (de_var rfl (.inl rfl)) da_nil)))) da_nil)) (de_var rfl (.inl rfl))) (ds_one (ds_ret de_bl)) ds_nil) (ds_one (ds_if (PW.pt (dw_or (dt_not (dt_val (d_callK o__law_is_int (L2N.takes_of rfl rfl rfl rfl) (hr.mono (by decide)) rfl (da_cons (de_var rfl (.inl rfl)) (da_cons de_int da_nil))))) (dw_one (dt_cmp op_ge ag_ge (de_var rfl (.inl rfl)) (de_var rfl (.inl rfl)))))) (ds_one (ds_if (dt_cmp (op_neD hr.units) ag_ne (de_var rfl (.inl rfl)) de_str) (ds_one (ds_ret de_bl)) ds_nil)) (ds_one (ds_if (dt_not (dt_val (d_callK o__law_is_int (L2N.takes_of rfl rfl rfl rfl) (hr.mono (by decide)) rfl (da_cons (de_var rfl (.inl rfl)) (da_cons de_int da_nil))))) (ds_one (ds_if (dt_cmp (op_neD hr.units) ag_ne (de_var rfl (.inl rfl)) de_str) (ds_one (ds_ret de_bl)) ds_nil)) (ds_cons (ds_set hN rfl (.inl rfl) (d_and (d_callK o__law_is_stake (L2N.takes_of rfl rfl rfl rfl) (hr.mono (by decide)) rfl (da_cons (de_var rfl (.inl rfl)) (da_cons (de_var rfl (.inl rfl)) (da_cons (de_var rfl (.inl rfl)) da_nil)))) (d_one (de_cmp op_le ag_le (d_b (cr_sumB rfl) ag_sum rfl m_sum (by decide +kernel) (da_cons (de_var rfl (.inl rfl)) da_nil)) (de_var rfl (.inl rfl)))))) (ds_one (ds_if (dt_not (dt_val (d_callK o__law_flag (L2N.takes_of rfl rfl rfl rfl) (hr.mono (by decide)) rfl (da_cons (de_var rfl (.inl rfl)) (da_cons (de_var rfl (.inl rfl)) da_nil))))) (ds_one (ds_ret de_bl)) ds_nil))))))))))))))))))))) (ds_one (ds_ret (de_cmp op_isB ag_isB (d_callK o_is_stake (L2N.takes_of rfl rfl rfl rfl) (hr.mono (by decide)) rfl (da_cons (de_var rfl (.inl rfl)) (da_cons de_int (da_cons de_int (da_cons (de_bin op_mulA ag_mul (d_tup (da_cons de_int da_nil)) (d_b call_lenA ag_len rfl m_len (by decide +kernel) (da_cons (d_callK o__law_steps (L2N.takes_of rfl rfl rfl rfl) (hr.mono (by decide)) rfl (da_cons (de_var rfl (.inl rfl)) (da_cons de_int da_nil))) da_nil))) da_nil))))) de_bl))))))))
end
end Lk
set_option Elab.async false
set_option linter.all false
set_option maxRecDepth 100000
set_option maxHeartbeats 0
namespace HT
open PySem PySem.Spec PyProof.Rows L2
theorem facts {P : Program} {w : World} {K : PySem.W.Frag} {h : Heap} {mg : Str → Option Value} {f : Addr} (X : K.In h) (G : h.Ns mainGlobals mg) (hfa : mg ("law" : Str) = some (.ref f)) (c : Lk.SaysX fa fn ts K) :
    ∃ fd : FuncData, (∀ (s : Shared) (v : Value), BindsTo s fd ⟨[v], []⟩ [("_law_script", v)]) ∧ ∀ base : Heap, K.In base → base.Ns mainGlobals mg → Lk.FnAt P w K mg base f fd "_law_script" (Lk.liftC K (Lk.gint K) Dx.cLaw) := by
  have S : Lk.SayX fa fn ts K mg := ⟨h, X, G, c⟩
  obtain ⟨fd, F⟩ := S.fun_ 22 (d := d22)
  have e := hfa.symm.trans (S.glo 22 (x := "law"))
  cases e
  have b := FunD.bindsA (ps := ["_law_script"]) F fun _ _ _ _ _ _ us hl => match us, hl with | [_], _ => rfl
  refine ⟨fd, fun s v => b s [v] rfl, fun base _ _ => ?_⟩
  obtain ⟨fd2, F2, oc2, od2, osl2, lk2⟩ := Lk.ok_law_k27 (P := P) (w := w) (base := base) S
  have e : fd2 = fd := by
    obtain ⟨oc, od, _, _, _, _, _, _, _, osl, _, lk, _⟩ := F.ex
    have e2 := lk2.symm.trans (show K.lookup (He.ga K "law") = _ from lk)
    cases e2
    rfl
  subst e
  exact F2
end HT
open PySem PySem.W PySem.Calls PyProof.Rows
theorem PySem.Challenge.cw_wholestakes_k27_stakes_judged_holds : PySem.Challenge.rw_wholestakes_k27_stakes_judged.Holds := by
  w_on; o_law
  refine HandSHeadRun.head_any (r := OpenLaw.row PySem.Challenge.rw_wholestakes_k27_stakes_judged) (q := view (OpenLaw.row PySem.Challenge.rw_wholestakes_k27_stakes_judged).prog [43]) (H := HT.hk) (ob := HT.ob) (M := 4000) (loose := ((["StakeError", "BadTrack", "NoPlace", "NoCoins", "NoStake", "LETTERS", "is_integer", "is_within", "is_from", "is_letter", "are_ascending", "check_coins", "MOST_PLACES", "MOST_ARROWS", "MOST_PAY", "is_arrow", "are_arrows", "Track", "is_place", "check_place", "steps_of", "is_stake_there", "is_stake", "_law_flag", "_law_tape", "_law_pick", "_law_arrows", "_law_steps", "_law_comes_to_one", "_law_is_full"] : List PySem.Str) ++ (["_law_lots", "_law_reach", "_law_odd", "_law_is_int", "_law_is_lot", "_law_is_stake", "_law_is_goals", "_law_tried"] : List PySem.Str))) (d := HandSHeadRun.topDef (OpenLaw.row PySem.Challenge.rw_wholestakes_k27_stakes_judged).prog 43) (kwd := []) HT.ob_eq
    (by kernel_rfl) (fun s => by kernel_rfl) HT.run (by kernel_rfl) (by kernel_rfl) (by kernel_rfl) (by rfl) (by first | assumption | decide +kernel) (by decide +kernel) ⟨rfl, rfl, rfl, rfl, rfl, by decide +kernel⟩ ?hw ?hc
  case hw => w_witness2
  case hc =>
    refine Lk.walk_at (l := PySem.Challenge.rw_wholestakes_k27_stakes_judged) (n := 63) (x := "_law_script") rfl (by decide) (by kernel_rfl) ?F
    intro w mg fa h Y G hmg0
    obtain ⟨K, KX, c⟩ := Y
    have hmg : mg ("law" : PySem.Str) = some (.ref fa) := by
      have e : (HandSHeadRun.topDef (OpenLaw.row PySem.Challenge.rw_wholestakes_k27_stakes_judged).prog 43).name = ("law" : PySem.Str) := by kernel_rfl
      rw [← e]
      exact hmg0
    obtain ⟨fd, hb, hF⟩ := HT.facts (P := (PySem.Challenge.rw_wholestakes_k27_stakes_judged).prog) (w := w) KX G hmg c
    exact ⟨K, fd, Lk.liftC K (Lk.gint K) Dx.cLaw, KX, hb, fun H a ns hl _ hS => Lk.law_sp hl hS, hF⟩
