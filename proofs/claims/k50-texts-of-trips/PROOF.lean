import PyProof.Rows.All
import Wide.All
import OpenK.AllK
import Wide.FinOn
import HandS.ForMost
import HandS.Nested
import HandS.TupAny
import HandS.TupMul
import HandS.Wide
import HandS.Exc
import HandS.Style
import HandS.WideBits
import KE.KTupSum
import HandS.IsInst
import HandS.Zip
import HandS.NoneIn
import HandS.Conv
import KE.KDictZip
import KE.KDictList
import PyProof.CollectIter
import HandS.WideMore
import HandS.More
import HandS.Deep
import HandS.EndBits
import HandS.Iter
import HandS.ExcInit
import KE.KExcInit
import PyProof.ExcBaseAll.ValueError
import PyProof.ExcBaseAll.RuntimeError
import PyProof.ExcBaseAll.LookupError
import PyProof.ExcBaseAll.ArithmeticError
import KE.KTryMore
import KE.KExcIs
import HandS.ExcIs
import PyProof.ReprRoads
import HandS.Dict
import KE.DataMinMax
import HandS.SetFor
import HandS.Strs
import KE.KDictPairs
import HandS.DictComp
import HandS.DictTup
import HandS.Text
import PyProof.StrOps2
import PyProof.DictUpdate
import PyProof.Rows.StrMeet
import HandS.RaiseMore
import PyProof.ReprLen
import KE.GoesEnumKw
import KE.GoesNew
import KE.GoesEnum
import KE.GoesMore
import HandS.StrSplit
import PyProof.Rows.StrItems
import PySem.Challenge.RW_liftwater_k50_texts_of_trips
set_option Elab.async false
set_option linter.all false
set_option maxRecDepth 100000
set_option maxHeartbeats 4000000
namespace LW
open PySem L2
/-- a function made on the way: where it stands, its code, what it is, its name, what it caught -/
structure CI where
  f : Nat
  c : Nat
  φ : Heap → Prop
  q : Str
  ws : List V
/-- a value: immutable data as trees; what is changed in place is a handle into the memory -/
inductive D where
  | non
  | bl (b : Bool)
  | int (i : Int)
  | str (x : Str)
  | tup (xs : List D)
  | lst (xs : List D)
  | scr (xs : List Int)
  | dct (ks : List Key) (vs : List D)
  | dtt (ks : List (List Key)) (vs : List D)
  | exn (c : Str) (d : D)
  | key (k : List Key)
  | clo (i : CI) (cs : List D)
  | ref (h : Nat)
inductive Cell where
  | lst (xs : List D)
  | dct (ks : List Key) (vs : List D)
  | dtt (ks : List (List Key)) (vs : List D)
  | dcf (ks : List Key) (vs : List D)
  | dtf (ks : List (List Key)) (vs : List D)
  | tab (x q : Str)
  | ins (c : Str) (fs : List (Str × D))
abbrev Mem := List Cell
abbrev Slots := List (Option D)
inductive R (α : Type) where
  | ok (a : α) (M : Mem)
  | exc (c : Str) (d : D) (M : Mem)
  | bad
def R.bind {α β : Type} (r : R α) (k : α → Mem → R β) : R β := match r with
  | .ok a M => k a M
  | .exc c d M => .exc c d M
  | .bad => .bad
@[simp] theorem bind_ok {α β : Type} (a : α) (M : Mem) (k : α → Mem → R β) : (R.ok a M).bind k = k a M := id rfl
@[simp] theorem bind_exc {α β : Type} (c : Str) (d : D) (M : Mem) (k : α → Mem → R β) : (R.exc c d M : R α).bind k = .exc c d M := id rfl
@[simp] theorem bind_bad {α β : Type} (k : α → Mem → R β) : (R.bad : R α).bind k = .bad := id rfl
/-- no exception: in a comprehension none may leave -/
def R.nox {α : Type} (r : R α) : R α := match r with
  | .exc _ _ _ => .bad
  | r => r
@[simp] theorem nox_ok {α : Type} (a : α) (M : Mem) : (R.ok a M).nox = .ok a M := id rfl
@[simp] theorem nox_bad {α : Type} : (R.bad : R α).nox = .bad := id rfl
@[simp] theorem nox_exc {α : Type} (c : Str) (d : D) (M : Mem) : (R.exc c d M : R α).nox = .bad := id rfl
/-- a statement's end -/
inductive RS where
  | nx (s : Slots) (M : Mem)
  | rt (d : D) (M : Mem)
  | bk (s : Slots) (M : Mem)
  | ct (s : Slots) (M : Mem)
  | exc (c : Str) (d : D) (s : Slots) (M : Mem)
  | bad
abbrev ES := Nat → Slots → Mem → R D
abbrev ET := Nat → Slots → Mem → R Bool
abbrev EA := Nat → Slots → Mem → R (List D)
abbrev EN := Nat → Slots → Mem → R (List D)
abbrev SS := Nat → Slots → Mem → RS
abbrev Fn := List D → Mem → R D
def R.toS (s : Slots) {α : Type} (r : R α) (k : α → Mem → RS) : RS := match r with
  | .ok a M => k a M
  | .exc c d M => .exc c d s M
  | .bad => .bad
@[simp] theorem toS_ok {α : Type} (s : Slots) (a : α) (M : Mem) (k : α → Mem → RS) : (R.ok a M).toS s k = k a M := id rfl
@[simp] theorem toS_exc {α : Type} (s : Slots) (c : Str) (d : D) (M : Mem) (k : α → Mem → RS) : (R.exc c d M : R α).toS s k = .exc c d s M := id rfl
@[simp] theorem toS_bad {α : Type} (s : Slots) (k : α → Mem → RS) : (R.bad : R α).toS s k = .bad := id rfl
mutual
def below (n : Nat) : D → Bool
  | .tup xs => belows n xs
  | .lst xs => belows n xs
  | .dct _ vs => belows n vs
  | .dtt _ vs => belows n vs
  | .clo _ cs => belows n cs
  | .ref h => decide (h < n)
  | _ => true
def belows (n : Nat) : List D → Bool
  | [] => true
  | x :: xs => below n x && belows n xs
end
/-- the items of a list -/
def lstOf (M : Mem) : D → Option (List D)
  | .lst xs => some xs
  | .ref h => match M[h]? with
    | some (.lst xs) => some xs
    | _ => none
  | _ => none
/-- the items of a list or a tuple -/
def seqOf (M : Mem) : D → Option (List D)
  | .tup xs => some xs
  | .scr ns => some (ns.map .int)
  | d => lstOf M d
def eVar (i : Nat) : ES := fun _ s M => match s[i]? with
  | some (some d) => .ok d M
  | _ => .bad
def eC (d : D) : ES := fun _ _ M => .ok d M
def eBin (o : D → D → Mem → R D) (f g : ES) : ES := fun b s M => (f b s M).bind fun x M1 => (g b s M1).bind fun y M2 => o x y M2
def eUn (o : D → Mem → R D) (f : ES) : ES := fun b s M => (f b s M).bind fun x M1 => o x M1
/-- several, from the left -/
def aNil : EA := fun _ _ M => .ok [] M
def aCons (f : ES) (g : EA) : EA := fun b s M => (f b s M).bind fun x M1 => (g b s M1).bind fun xs M2 => .ok (x :: xs) M2
def eTup (f : EA) : ES := fun b s M => (f b s M).bind fun xs M1 => if xs.length ≤ 1000000 then .ok (.tup xs) M1 else .bad
def nLst (f : EA) : EN := fun b s M => (f b s M).bind fun xs M1 => if xs.length ≤ 1000000 then .ok xs M1 else .bad
/-- a fresh list: never changed in place; or a handle -/
def eFrz (f : EN) : ES := fun b s M => (f b s M).bind fun xs M1 => .ok (.lst xs) M1
def eThw (f : EN) : ES := fun b s M => (f b s M).bind fun xs M1 => .ok (.ref M1.length) (M1 ++ [.lst xs])
def eCall (φ : Fn) (f : EA) : ES := fun b s M => (f b s M).bind fun ds M1 => φ ds M1
/-- a built-in function of values -/
def eFn (g : List D → Mem → R D) (f : EA) : ES := fun b s M => (f b s M).bind fun ds M1 => g ds M1
def eIf (c : ET) (f g : ES) : ES := fun b s M => (c b s M).bind fun k M1 => if k = true then f b s M1 else g b s M1
/-- and, or, not by values that are bools -/
def eAnd (f g : ES) : ES := fun b s M => (f b s M).bind fun x M1 => match x with
  | .bl k => if k = true then g b s M1 else .ok (.bl false) M1
  | _ => .bad
def eOr (f g : ES) : ES := fun b s M => (f b s M).bind fun x M1 => match x with
  | .bl k => if k = true then .ok (.bl true) M1 else g b s M1
  | _ => .bad
def oNot : D → Mem → R D
  | .bl k, M => .ok (.bl (!k)) M
  | _, _ => .bad
/-- a op b op' c -/
def eChain (o o' : D → D → Mem → R D) (f g h : ES) : ES := fun b s M => (f b s M).bind fun x M1 => (g b s M1).bind fun y M2 => (o x y M2).bind fun z M3 => match z with
  | .bl k => if k = true then (h b s M3).bind fun w M4 => o' y w M4 else .ok (.bl false) M3
  | _ => .bad
def tVal (f : ES) : ET := fun b s M => (f b s M).bind fun x M1 => match x with
  | .bl k => .ok k M1
  | _ => .bad
def tAnd (f g : ET) : ET := fun b s M => (f b s M).bind fun k M1 => if k = true then g b s M1 else .ok false M1
def tOr (f g : ET) : ET := fun b s M => (f b s M).bind fun k M1 => if k = true then .ok true M1 else g b s M1
def tNot (f : ET) : ET := fun b s M => (f b s M).bind fun k M1 => .ok (!k) M1
def tTrue : ET := fun _ _ M => .ok true M
def small (i : Int) : Bool := decide (-(2 ^ 64) < i ∧ i < 2 ^ 64)
def oAdd : D → D → Mem → R D := fun x y M => match x, y with
  | .int i, .int j => .ok (.int (i + j)) M
  | .str a, .str c => if a.length + c.length ≤ 1000000 then .ok (.str (a ++ c)) M else .bad
  | .tup xs, .tup ys => if xs.length + ys.length ≤ 1000000 then .ok (.tup (xs ++ ys)) M else .bad
  | _, _ => match lstOf M x, lstOf M y with
    | some xs, some ys => if xs.length + ys.length ≤ 1000000 then .ok (.lst (xs ++ ys)) M else .bad
    | _, _ => .bad
def oSub : D → D → Mem → R D := fun x y M => match x, y with
  | .int i, .int j => .ok (.int (i - j)) M
  | _, _ => .bad
/-- the one factor within 64 bits, or both not great -/
def mulOk (i j : Int) : Bool := small i || small j || decide (i.natAbs.log2 + j.natAbs.log2 < 1000000)
def oMul : D → D → Mem → R D := fun x y M => match x, y with
  | .int i, .int j => if mulOk i j then .ok (.int (i * j)) M else .bad
  | .tup xs, .int k => if 1 ≤ k ∧ k ≤ 1000 ∧ xs.length ≤ 1000 ∧ xs ≠ [] then .ok (.tup (List.replicate k.toNat xs).flatten) M else .bad
  | _, .int k => match lstOf M x with
    | some xs => if 0 ≤ k ∧ k ≤ 1000 ∧ xs.length ≤ 1000 then .ok (.lst (List.replicate k.toNat xs).flatten) M else .bad
    | none => .bad
  | _, _ => .bad
def oMod : D → D → Mem → R D := fun x y M => match x, y with
  | .int i, .int j => if 0 < j then .ok (.int (i % j)) M else .bad
  | _, _ => .bad
def oDiv : D → D → Mem → R D := fun x y M => match x, y with
  | .int i, .int j => if 0 < j ∧ j.natAbs.log2 < 8000 then .ok (.int (i / j)) M else .bad
  | _, _ => .bad
def oPow : D → D → Mem → R D := fun x y M => match x, y with
  | .int i, .int j => if 0 ≤ j ∧ j ≤ 100 ∧ small i = true then .ok (.int (i ^ j.toNat)) M else .bad
  | _, _ => .bad
def oCmp (p : Int → Int → Bool) : D → D → Mem → R D := fun x y M => match x, y with
  | .int i, .int j => .ok (.bl (p i j)) M
  | _, _ => .bad
def oLt := oCmp fun i j => decide (i < j)
def oLe := oCmp fun i j => decide (i ≤ j)
def oGt := oCmp fun i j => decide (j < i)
def oGe := oCmp fun i j => decide (j ≤ i)
def isNon : D → Bool
  | .non => true
  | _ => false
def oIsN : D → D → Mem → R D := fun x y M => match y with
  | .non => .ok (.bl (isNon x)) M
  | _ => .bad
def oIsntN : D → D → Mem → R D := fun x y M => match y with
  | .non => .ok (.bl (!isNon x)) M
  | _ => .bad
def oNeg : D → Mem → R D
  | .int i, M => .ok (.int (-i)) M
  | _, _ => .bad
mutual
def toPy (M : Mem) : D → Option PyData
  | .non => some .none
  | .bl b => some (.bool b)
  | .int i => some (.int i)
  | .str x => some (.str x)
  | .tup xs => (toPys M xs).map .tuple
  | .lst xs => (toPys M xs).map .list
  | _ => none
def toPys (M : Mem) : List D → Option (List PyData)
  | [] => some []
  | x :: xs => match toPy M x, toPys M xs with
    | some d, some ds => some (d :: ds)
    | _, _ => none
end
/-- a handle of a list read off -/
def rdOf (M : Mem) : D → D
  | .ref h => match M[h]? with
    | some (.lst xs) => .lst xs
    | _ => .ref h
  | d => d
def eqD (M : Mem) (x y : D) : Option Bool := match toPy M (rdOf M x), toPy M (rdOf M y) with
  | some d, some e => if SeqAt.shaped d = true ∧ SeqAt.shaped e = true then some (PyData.eqv d e) else none
  | _, _ => none
/-- two texts -/
def strs2 : D → D → Option Bool
  | .str a, .str c => some (a == c)
  | _, _ => none
def oEq : D → D → Mem → R D := fun x y M => match strs2 x y with
  | some k => .ok (.bl k) M
  | none => match eqD M x y with
    | some k => .ok (.bl k) M
    | none => .bad
def oNe : D → D → Mem → R D := fun x y M => match strs2 x y with
  | some k => .ok (.bl (!k)) M
  | none => match eqD M x y with
    | some k => .ok (.bl (!k)) M
    | none => .bad
def oIx : D → D → Mem → R D := fun x y M => match y with
  | .int i => match seqOf M x with
    | some xs => match atI xs i with
      | some d => .ok d M
      | none => .bad
    | none => .bad
  | _ => .bad
/-- xs[i] = v -/
def setIx (b : Nat) (x i v : D) (M : Mem) : Option Mem := match x, i with
  | .ref h, .int i => match M[h]? with
    | some (.lst xs) => match ixN xs.length i with
      | some k => if b ≤ h ∨ below 0 v = true then some (M.set h (.lst (xs.set k v))) else none
      | none => none
    | _ => none
  | _, _ => none
def cutL {α : Type} (xs : List α) (lo hi : Option Int) : List α := (xs.drop (HT.sIx xs.length 0 lo)).take (HT.sIx xs.length xs.length hi - HT.sIx xs.length 0 lo)
/-- a slice's part -/
abbrev EP' := Nat → Slots → Mem → R (Option Int)
def pNo : EP' := fun _ _ M => .ok none M
def pOf (f : ES) : EP' := fun b s M => (f b s M).bind fun x M1 => match x with
  | .int i => .ok (some i) M1
  | _ => .bad
/-- x[lo:hi]: of a tuple a tuple, of a list a new list -/
def oCut (x : D) (lo hi : Option Int) (M : Mem) : R D := match x with
  | .tup xs => .ok (.tup (cutL xs lo hi)) M
  | _ => match seqOf M x with
    | some xs => .ok (.lst (cutL xs lo hi)) M
    | none => .bad
def eCut (f : ES) (lo hi : EP') : ES := fun b s M => (f b s M).bind fun x M1 => (lo b s M1).bind fun l M2 => (hi b s M2).bind fun h M3 => oCut x l h M3
/-- x[::-1] -/
def oRev (x : D) (M : Mem) : R D := match x with
  | .tup xs => .ok (.tup xs.reverse) M
  | _ => match seqOf M x with
    | some xs => .ok (.lst xs.reverse) M
    | none => .bad
def bLen : List D → Mem → R D := fun xs M => match xs with
  | [.str z] => if z.length ≤ 1000000 then .ok (.int z.length) M else .bad
  | [x] => match seqOf M x with
    | some ys => .ok (.int ys.length) M
    | none => .bad
  | _ => .bad
def bTuple : List D → Mem → R D := fun xs M => match xs with
  | [x] => match seqOf M x with
    | some ys => .ok (.tup ys) M
    | none => .bad
  | _ => .bad
def nListOf (f : EA) : EN := fun b s M => (f b s M).bind fun xs M1 => match xs with
  | [x] => match seqOf M1 x with
    | some ys => .ok ys M1
    | none => .bad
  | _ => .bad
def intsOf : List D → Option (List Int)
  | [] => some []
  | .int i :: r => (intsOf r).map (i :: ·)
  | _ :: _ => none
def blsOf : List D → Option (List Bool)
  | [] => some []
  | .bl i :: r => (blsOf r).map (i :: ·)
  | _ :: _ => none
def bAll : List D → Mem → R D := fun xs M => match xs with
  | [x] => match (lstOf M x).bind blsOf with
    | some ys => .ok (.bl (ys.all id)) M
    | none => .bad
  | _ => .bad
/-- the least, the greatest of some ints, one at least -/
def minL : Int → List Int → Int
  | x, [] => x
  | x, y :: r => minL (if y < x then y else x) r
def maxL : Int → List Int → Int
  | x, [] => x
  | x, y :: r => maxL (if x < y then y else x) r
def bMin : List D → Mem → R D := fun xs M => match xs with
  | [.int i, .int j] => .ok (.int (if j < i then j else i)) M
  | [x] => match (lstOf M x).bind intsOf with
    | some (y :: ys) => .ok (.int (minL y ys)) M
    | _ => .bad
  | _ => .bad
def bMax : List D → Mem → R D := fun xs M => match xs with
  | [.int i, .int j] => .ok (.int (if j > i then j else i)) M
  | [x] => match (lstOf M x).bind intsOf with
    | some (y :: ys) => .ok (.int (maxL y ys)) M
    | _ => .bad
  | _ => .bad
def bAbs : List D → Mem → R D := fun xs M => match xs with
  | [.int i] => .ok (.int (if i < 0 then -i else i)) M
  | _ => .bad
def bInt : List D → Mem → R D := fun xs M => match xs with
  | [.int i] => .ok (.int i) M
  | [.bl k] => .ok (.int (if k then 1 else 0)) M
  | _ => .bad
def bDivmod : List D → Mem → R D := fun xs M => match xs with
  | [.int i, .int j] => if 0 < j ∧ j.natAbs.log2 < 8000 then .ok (.tup [.int (i / j), .int (i % j)]) M else .bad
  | _ => .bad
/-- a value's type -/
def tyOf (M : Mem) : D → Option String
  | .non => some "NoneType"
  | .bl _ => some "bool"
  | .int _ => some "int"
  | .str _ => some "str"
  | .tup _ => some "tuple"
  | .lst _ => some "list"
  | .scr _ => some "list"
  | .dct _ _ => some "dict"
  | .dtt _ _ => none
  | .exn _ _ => none
  | .key _ => none
  | .clo _ _ => none
  | .ref h => match M[h]? with
    | some (.lst _) => some "list"
    | some (.dct _ _) => some "dict"
    | _ => none
def isTy (t c : String) : Bool := t == c || (t == "bool" && c == "int")
/-- isinstance(x, T), isinstance(x, (T, U)) -/
def oIsi (cs : List String) : D → Mem → R D := fun x M => match tyOf M x with
  | some t => .ok (.bl (cs.any (isTy t))) M
  | none => .bad
abbrev EI := Nat → Slots → Mem → R (List D × List Nat)
/-- the handles that must stay as they are while they are walked -/
def gdOf : D → List Nat
  | .ref h => [h]
  | _ => []
def iOf (f : ES) : EI := fun b s M => (f b s M).bind fun x M1 => match seqOf M1 x with
  | some xs => .ok (xs, gdOf x) M1
  | none => .bad
def rngOk (i : Int) : Prop := -(2 ^ 62) ≤ i ∧ i < 2 ^ 62
instance (i : Int) : Decidable (rngOk i) := inferInstanceAs (Decidable (_ ∧ _))
def iRange1 (f : EA) : EI := fun b s M => (f b s M).bind fun ds M1 => match ds with
  | [.int j] => if rngOk j then .ok ((List.range j.toNat).map fun (k : Nat) => .int (0 + (k : Int)), []) M1 else .bad
  | _ => .bad
def iRange2 (f : EA) : EI := fun b s M => (f b s M).bind fun ds M1 => match ds with
  | [.int i, .int j] => if rngOk i ∧ rngOk j then .ok ((List.range (j - i).toNat).map fun (k : Nat) => .int (i + (k : Int)), []) M1 else .bad
  | _ => .bad
/-- range(i, j, -1) -/
def iDown (f : EA) : EI := fun b s M => (f b s M).bind fun ds M1 => match ds with
  | [.int i, .int j, .int c] => if rngOk i ∧ rngOk j ∧ c = -1 then .ok ((List.range (i - j).toNat).map fun (k : Nat) => .int (i + (k : Int) * (-1)), []) M1 else .bad
  | _ => .bad
def enumD : Nat → List D → List D
  | _, [] => []
  | k, x :: r => .tup [.int (k : Int), x] :: enumD (k + 1) r
def iEnum (f : EA) : EI := fun b s M => (f b s M).bind fun ds M1 => match ds with
  | [x] => match seqOf M1 x with
    | some xs => .ok (enumD 0 xs, gdOf x) M1
    | none => .bad
  | _ => .bad
def zipD (xs ys : List D) : List D := List.zipWith (fun x y => .tup [x, y]) xs ys
def iZip (st : Bool) (f : EA) : EI := fun b s M => (f b s M).bind fun ds M1 => match ds with
  | [x, y] => match seqOf M1 x, seqOf M1 y with
    | some xs, some ys => if st = true ∧ xs.length ≠ ys.length then .bad else .ok (zipD xs ys, gdOf x ++ gdOf y) M1
    | _, _ => .bad
  | _ => .bad
def zip3D : List D → List D → List D → List D
  | x :: xs, y :: ys, z :: zs => .tup [x, y, z] :: zip3D xs ys zs
  | _, _, _ => []
def iZip3 (st : Bool) (f : EA) : EI := fun b s M => (f b s M).bind fun ds M1 => match ds with
  | [x, y, z] => match seqOf M1 x, seqOf M1 y, seqOf M1 z with
    | some xs, some ys, some zs => if st = true ∧ (xs.length ≠ ys.length ∨ xs.length ≠ zs.length) then .bad else .ok (zip3D xs ys zs, gdOf x ++ gdOf y ++ gdOf z) M1
    | _, _, _ => .bad
  | _ => .bad
inductive Tg where
  | nm (i : Nat)
  | tp (ts : List Tg)
mutual
def bindT (M : Mem) : Tg → D → Slots → Option Slots
  | .nm i, d, s => some (s.set i (some d))
  | .tp ts, d, s => match seqOf M d with
    | some xs => bindTs M ts xs s
    | none => none
def bindTs (M : Mem) : List Tg → List D → Slots → Option Slots
  | [], [], s => some s
  | t :: ts, d :: ds, s => (bindT M t d s).bind fun s1 => bindTs M ts ds s1
  | _, _, _ => none
end
mutual
def Tg.slots : Tg → List Nat
  | .nm i => [i]
  | .tp ts => slotss ts
def slotss : List Tg → List Nat
  | [] => []
  | t :: ts => t.slots ++ slotss ts
end
/-- a general target: what is assigned, the slots -/
abbrev EG := Nat → D → Slots → Mem → Option (Slots × Mem)
def gT (t : Tg) : EG := fun _ d s M => (bindT M t d s).map fun s1 => (s1, M)
/-- o[i] = .. -/
def gIx (f g : ES) : EG := fun b d s M => match f b s M with
  | .ok x M1 => match g b s M1 with
    | .ok y M2 => (setIx b x y d M2).map fun M3 => (s, M3)
    | _ => none
  | _ => none
abbrev EGs := Nat → List D → Slots → Mem → Option (Slots × Mem)
def gsNil : EGs := fun _ ds s M => match ds with
  | [] => some (s, M)
  | _ => none
def gsCons (g : EG) (gs : EGs) : EGs := fun b ds s M => match ds with
  | d :: r => (g b d s M).bind fun p => gs b r p.1 p.2
  | [] => none
def gTup (gs : EGs) : EG := fun b d s M => match seqOf M d with
  | some xs => gs b xs s M
  | none => none
def sNx : SS := fun _ s M => .nx s M
def sSeq (t u : SS) : SS := fun b s M => match t b s M with
  | .nx s1 M1 => u b s1 M1
  | r => r
def sExpr (f : ES) : SS := fun b s M => (f b s M).toS s fun _ M1 => .nx s M1
def sRet (f : ES) : SS := fun b s M => (f b s M).toS s fun d M1 => .rt d M1
def sRetN : SS := fun _ _ M => .rt .non M
def sBrk : SS := fun _ s M => .bk s M
def sCnt : SS := fun _ s M => .ct s M
def sAsg (f : ES) (g : EG) : SS := fun b s M => (f b s M).toS s fun d M1 => match g b d s M1 with
  | some (s2, M2) => .nx s2 M2
  | none => .bad
def sSet (i : Nat) (f : ES) : SS := fun b s M => (f b s M).toS s fun d M1 => .nx (s.set i (some d)) M1
/-- a, b, .. = x, y, .. of plain names: no tuple -/
def setAll : List Nat → List D → Slots → Option Slots
  | [], [], s => some s
  | i :: is, d :: ds, s => setAll is ds (s.set i (some d))
  | _, _, _ => none
def sPar (is : List Nat) (f : EA) : SS := fun b s M => (f b s M).toS s fun ds M1 => match setAll is ds s with
  | some s2 => .nx s2 M1
  | none => .bad
def sIf (c : ET) (t u : SS) : SS := fun b s M => (c b s M).toS s fun k M1 => if k = true then t b s M1 else u b s M1
def sAug (i : Nat) (o : D → D → Mem → R D) (f : ES) : SS := fun b s M => match s[i]? with
  | some (some x) => (f b s M).toS s fun y M1 => (o x y M1).toS s fun z M2 => .nx (s.set i (some z)) M2
  | _ => .bad
/-- what is walked stands as it stood -/
def gdOk (hs : List Nat) (M0 M : Mem) : Prop := ∀ h ∈ hs, M[h]? = M0[h]?
open Classical in
noncomputable def forL (b : Nat) (hs : List Nat) (M0 : Mem) (t : Tg) (body : SS) : List D → Slots → Mem → RS
  | [], s, M => .nx s M
  | d :: r, s, M => match bindT M t d s with
    | some s1 => match body b s1 M with
      | .nx s2 M2 => if gdOk hs M0 M2 then forL b hs M0 t body r s2 M2 else .bad
      | .ct s2 M2 => if gdOk hs M0 M2 then forL b hs M0 t body r s2 M2 else .bad
      | .bk s2 M2 => .nx s2 M2
      | e => e
    | none => .bad
noncomputable def sFor (it : EI) (t : Tg) (body : SS) : SS := fun b s M => (it b s M).toS s fun p M1 => forL b p.2 M1 t body p.1 s M1
def whileL (b : Nat) (c : ET) (body : SS) : Nat → Slots → Mem → RS
  | 0, _, _ => .bad
  | n + 1, s, M => (c b s M).toS s fun k M1 => if k = true then (match body b s M1 with
      | .nx s2 M2 => whileL b c body n s2 M2
      | .ct s2 M2 => whileL b c body n s2 M2
      | .bk s2 M2 => .nx s2 M2
      | e => e) else .nx s M1
/-- at most n turns -/
def sWhile (n : Nat) (c : ET) (body : SS) : SS := fun b s M => whileL b c body n s M
def wipeD (s : Slots) : List Nat → Slots
  | [] => s
  | v :: vs => (wipeD s vs).set v none
open Classical in
noncomputable def compL (b : Nat) (hs : List Nat) (M0 : Mem) (t : Tg) (c : ET) (e : ES) (s : Slots) : List D → Mem → R (List D)
  | [], M => .ok [] M
  | d :: r, M => match bindT M t d s with
    | some s1 => (c b s1 M).nox.bind fun k M1 => if k = true then (e b s1 M1).nox.bind fun y M2 => if gdOk hs M0 M2 then (compL b hs M0 t c e s r M2).bind fun ys M3 => .ok (y :: ys) M3 else .bad
      else if gdOk hs M0 M1 then compL b hs M0 t c e s r M1 else .bad
    | none => .bad
noncomputable def nComp (it : EI) (own : List Nat) (t : Tg) (c : ET) (e : ES) : EN := fun b s M => (it b s M).bind fun p M1 => if p.1.length ≤ 1000000 then compL b p.2 M1 t c e (wipeD s own) p.1 M1 else .bad
def stOk (b h : Nat) (v : D) : Bool := decide (b ≤ h) || below 0 v
def mAppend (b : Nat) : D → List D → Mem → R D := fun x vs M => match x, vs with
  | .ref h, [v] => match M[h]? with
    | some (.lst xs) => if stOk b h v = true ∧ xs.length < 1000000 then .ok .non (M.set h (.lst (xs ++ [v]))) else .bad
    | _ => .bad
  | _, _ => .bad
/-- handles from n on read off as frozen data -/
def frz (M : Mem) (n : Nat) : Nat → D → Option D
  | 0, _ => none
  | k + 1, .ref h => if h < n then some (.ref h) else match M[h]? with
    | some (.lst xs) => (xs.mapM (frz M n k)).map .lst
    | some (.dtt ks vs) => (vs.mapM (frz M n k)).map (.dtt ks)
    | _ => none
  | k + 1, .tup xs => (xs.mapM (frz M n k)).map .tup
  | k + 1, .lst xs => (xs.mapM (frz M n k)).map .lst
  | k + 1, .dct ks vs => (vs.mapM (frz M n k)).map (.dct ks)
  | k + 1, .dtt ks vs => (vs.mapM (frz M n k)).map (.dtt ks)
  | _ + 1, .clo _ _ => none
  | _ + 1, d => some d
/-- what a def hands back: plain data as it is; a handle of its own read off -/
def leave (n : Nat) (d : D) (M : Mem) : R D := if below n d = true then .ok d (M.take n) else match frz M n 12 d with
  | some d' => .ok d' (M.take n)
  | none => .bad
/-- a def that hands back a list of its own to be changed on -/
def leaveK (n : Nat) (d : D) (M : Mem) : R D := match d with
  | .ref h => if h < n then .bad else match M[h]? with
    | some (.lst xs) => if belows n xs = true then .ok (.ref n) (M.take n ++ [.lst xs]) else .bad
    | _ => .bad
  | _ => .bad
def runFn (keep : Bool) (n : Nat) (r : RS) : R D := match r with
  | .rt d M => if keep = true then leaveK n d M else leave n d M
  | .nx _ M => .ok .non (M.take n)
  | .exc c d _ M => if below 0 d = true then .exc c d (M.take n) else .bad
  | _ => .bad
def mkFn (keep : Bool) (nps nsl : Nat) (body : SS) : Fn := fun ds M => if ds.length = nps then runFn keep M.length (body M.length (ds.map some ++ List.replicate (nsl - nps) none) M) else .bad
end LW
namespace LW
open PySem PySem.Spec PyProof.Rows L2
/-- the handles: their addresses, how many, the frame's base, what old cells may hold -/
abbrev NoTup (o : HO) : Prop := ∀ xs, o ≠ HO.tup xs
structure Wd where
  p : Nat → Addr × HO
  n : Nat
  b : Nat
  lim : Nat → Nat
  av : Addr → Prop
abbrev Wd.e (W : Wd) (h : Nat) : Addr := (W.p h).1
/-- what a locked thing is -/
abbrev Wd.od (W : Wd) (h : Nat) : HO := (W.p h).2
def Wd.im (W : Wd) (a : Addr) : Prop := W.av a ∨ ∃ h, h < W.n ∧ W.e h = a
/-- what is written: the fragment, the module's names -/
structure Gm where
  K : PySem.W.Frag
  mg : Str → Option Value
def KL (K : PySem.W.Frag) (a : Addr) (xs : List V) : Prop :=
  ∃ (o : Obj) (its : Array Value) (n : Nat), K.lookup a = some o ∧ o.cls = .type "list" ∧ o.dict = none ∧ o.data = .seq its n ∧ its.size ≤ sizeLine ∧ Vals xs its.toList
def KT (K : PySem.W.Frag) (a : Addr) (xs : List V) : Prop :=
  ∃ (o : Obj) (its : Array Value) (n : Nat), K.lookup a = some o ∧ o.cls = .type "tuple" ∧ o.data = .seq its n ∧ its.size ≤ sizeLine ∧ Vals xs its.toList
def LAt (G : Gm) (H : Hp) (W : Wd) (a : Addr) (vs : List V) : Prop := H a = some (.lst vs) ∧ ¬ W.im a
def SAt (G : Gm) (H : Hp) (W : Wd) (a : Addr) (vs : List V) : Prop := (Rd H a (.lst vs) ∧ ¬ W.im a) ∨ KL G.K a vs
def TAt (G : Gm) (H : Hp) (W : Wd) (a : Addr) (vs : List V) : Prop := (Rd H a (.tup vs) ∧ ¬ W.im a) ∨ KT G.K a vs
theorem LAt.sq {G : Gm} {H : Hp} {W : Wd} {a : Addr} {vs : List V} (h : LAt G H W a vs) : SqL G.K H a vs := SqL.of h.1
theorem TAt.sq {G : Gm} {H : Hp} {W : Wd} {a : Addr} {vs : List V} (h : TAt G H W a vs) : SqT G.K H a vs := h.elim (fun z => .inl z.1) fun z => .inr z
/-- a caught exception's object: its class, its dict -/
def xcO (a C dd : Addr) : HO := .ext fun h => ∃ (oe : Obj) (vs : Array Value), h.get? a = some oe ∧ oe.cls = .ref C ∧ oe.dict = some dd ∧ oe.data = .fields vs
/-- flat data -/
inductive Flt : D → V → Prop
  | int (i : Int) : Flt (.int i) (.int i)
  | str (x : Str) : Flt (.str x) (.str x)
mutual
inductive RD (G : Gm) (H : Hp) (W : Wd) : D → V → Prop
  | non : RD G H W .non .non
  | bl (b : Bool) : RD G H W (.bl b) (.bl b)
  | int (i : Int) : RD G H W (.int i) (.int i)
  | str (x : Str) : RD G H W (.str x) (.str x)
  | tup {a : Addr} {vs : List V} {ds : List D} : TAt G H W a vs → RDs G H W ds vs → RD G H W (.tup ds) (.ref a)
  | lst {a : Addr} {vs : List V} {ds : List D} : LAt G H W a vs → RDs G H W ds vs → RD G H W (.lst ds) (.ref a)
  | scr {a : Addr} {ns : List Int} : SAt G H W a (ns.map V.int) → RD G H W (.scr ns) (.ref a)
  | dct {a : Addr} {o : Obj} {ks : List Key} {ds : List D} {vs : List V} : H a = some (.frz o (.dK (ks.zip vs))) → ¬ W.im a → ks.length = vs.length → RDs G H W ds vs → RD G H W (.dct ks ds) (.ref a)
  | dtt {a : Addr} {ks : List (List Key)} {ds : List D} {vs : List V} : Rd H a (.dT (ks.zip vs)) → ¬ W.im a → ks.length = vs.length → RDs G H W ds vs → RD G H W (.dtt ks ds) (.ref a)
  | exn {a C dd : Addr} {c : Str} {d : D} {v : V} : G.mg c = some (.ref C) → H a = some (xcO a C dd) → ¬ W.im a → H dd = some (.xd [("what", v)]) → ¬ W.im dd → Flt d v → RD G H W (.exn c d) (.ref a)
  | key {a : Addr} {k : List Key} : H a = some (.tup (k.map kV)) → ¬ W.im a → RD G H W (.key k) (.ref a)
  | clo {i : CI} {cs : List D} : H i.f = some (.ext i.φ) → ¬ W.im i.f → H i.c = some (LamX.CodeO i.c i.q) → ¬ W.im i.c → RDs G H W cs i.ws → RD G H W (.clo i cs) (.ref i.f)
  | ref {h : Nat} : h < W.n → RD G H W (.ref h) (.ref (W.e h))
inductive RDs (G : Gm) (H : Hp) (W : Wd) : List D → List V → Prop
  | nil : RDs G H W [] []
  | cons {d : D} {ds : List D} {v : V} {vs : List V} : RD G H W d v → RDs G H W ds vs → RDs G H W (d :: ds) (v :: vs)
end
/-- what is tracked and no handle's stays; handles stay -/
structure Le (H : Hp) (W : Wd) (H' : Hp) (W' : Wd) : Prop where
  n : W.n ≤ W'.n
  pe : ∀ h, h < W.n → W'.p h = W.p h
  keep : ∀ a o, H a = some o → ¬ W.im a → H' a = some o ∧ ¬ W'.im a
theorem Le.e {H : Hp} {W : Wd} {H' : Hp} {W' : Wd} (x : Le H W H' W') (h : Nat) (q : h < W.n) : W'.e h = W.e h := congrArg Prod.fst (x.pe h q)
theorem Le.od {H : Hp} {W : Wd} {H' : Hp} {W' : Wd} (x : Le H W H' W') (h : Nat) (q : h < W.n) : W'.od h = W.od h := congrArg Prod.snd (x.pe h q)
structure Ext (H : Hp) (W : Wd) (H' : Hp) (W' : Wd) : Prop extends Le H W H' W' where
  b : W'.b = W.b
  lim : W'.lim = W.lim
  av : W'.av = W.av
  avk : ∀ a, W.av a → H' a = H a
theorem Le.refl (H : Hp) (W : Wd) : Le H W H W := ⟨Nat.le_refl _, fun _ _ => rfl, fun _ _ h n => ⟨h, n⟩⟩
theorem Le.trans {H H1 H2 : Hp} {W W1 W2 : Wd} (x : Le H W H1 W1) (y : Le H1 W1 H2 W2) : Le H W H2 W2 :=
  ⟨Nat.le_trans x.n y.n, fun h q => (y.pe h (Nat.lt_of_lt_of_le q x.n)).trans (x.pe h q), fun a o h n => y.keep a o (x.keep a o h n).1 (x.keep a o h n).2⟩
theorem Ext.refl (H : Hp) (W : Wd) : Ext H W H W := ⟨.refl H W, rfl, rfl, rfl, fun _ _ => rfl⟩
theorem Ext.trans {H H1 H2 : Hp} {W W1 W2 : Wd} (x : Ext H W H1 W1) (y : Ext H1 W1 H2 W2) : Ext H W H2 W2 :=
  ⟨x.toLe.trans y.toLe, y.b.trans x.b, y.lim.trans x.lim, y.av.trans x.av, fun a h => (y.avk a (by rw [x.av]; exact h)).trans (x.avk a h)⟩
theorem Le.rd {H H' : Hp} {W W' : Wd} {a : Addr} {o : HO} (x : Le H W H' W') (r : Rd H a o) (n : ¬ W.im a) : Rd H' a o ∧ ¬ W'.im a := by
  rcases r with r | ⟨ob, r⟩
  · exact ⟨.inl (x.keep _ _ r n).1, (x.keep _ _ r n).2⟩
  · exact ⟨.inr ⟨ob, (x.keep _ _ r n).1⟩, (x.keep _ _ r n).2⟩
theorem LAt.mono {G : Gm} {H H' : Hp} {W W' : Wd} {a : Addr} {vs : List V} (x : Le H W H' W') (h : LAt G H W a vs) : LAt G H' W' a vs :=
  x.keep _ _ h.1 h.2
theorem SAt.mono {G : Gm} {H H' : Hp} {W W' : Wd} {a : Addr} {vs : List V} (x : Le H W H' W') (h : SAt G H W a vs) : SAt G H' W' a vs :=
  h.elim (fun z => .inl (x.rd z.1 z.2)) .inr
theorem SAt.sq {G : Gm} {H : Hp} {W : Wd} {a : Addr} {vs : List V} (h : SAt G H W a vs) : SqL G.K H a vs := h.elim (fun z => .inl z.1) fun z => .inr z
theorem TAt.mono {G : Gm} {H H' : Hp} {W W' : Wd} {a : Addr} {vs : List V} (x : Le H W H' W') (h : TAt G H W a vs) : TAt G H' W' a vs :=
  h.elim (fun z => .inl (x.rd z.1 z.2)) .inr
mutual
theorem RD.mono {G : Gm} {H H' : Hp} {W W' : Wd} (x : Le H W H' W') : ∀ {d : D} {v : V}, RD G H W d v → RD G H' W' d v
  | _, _, .non => .non
  | _, _, .bl b => .bl b
  | _, _, .int i => .int i
  | _, _, .str y => .str y
  | _, _, .tup h r => .tup (h.mono x) (RDs.mono x r)
  | _, _, .lst h r => .lst (h.mono x) (RDs.mono x r)
  | _, _, .scr h => .scr (h.mono x)
  | _, _, .dct h n l r => .dct (x.keep _ _ h n).1 (x.keep _ _ h n).2 l (RDs.mono x r)
  | _, _, .dtt h n l r => .dtt (x.rd h n).1 (x.rd h n).2 l (RDs.mono x r)
  | _, _, .exn g h n k n' f => .exn g (x.keep _ _ h n).1 (x.keep _ _ h n).2 (x.keep _ _ k n').1 (x.keep _ _ k n').2 f
  | _, _, .key h n => .key (x.keep _ _ h n).1 (x.keep _ _ h n).2
  | _, _, .clo h n k n' r => .clo (x.keep _ _ h n).1 (x.keep _ _ h n).2 (x.keep _ _ k n').1 (x.keep _ _ k n').2 (RDs.mono x r)
  | _, _, .ref (h := h) q => by
    rw [← x.e h q]
    exact .ref (Nat.lt_of_lt_of_le q x.n)
theorem RDs.mono {G : Gm} {H H' : Hp} {W W' : Wd} (x : Le H W H' W') : ∀ {ds : List D} {vs : List V}, RDs G H W ds vs → RDs G H' W' ds vs
  | _, _, .nil => .nil
  | _, _, .cons h r => .cons (RD.mono x h) (RDs.mono x r)
end
section
variable {G : Gm} {H : Hp} {W : Wd}
theorem RDs.length : ∀ {ds : List D} {vs : List V}, RDs G H W ds vs → ds.length = vs.length
  | _, _, .nil => rfl
  | _, _, .cons _ r => by rw [List.length_cons, List.length_cons, r.length]
theorem RDs.get : ∀ {ds : List D} {vs : List V} {i : Nat} {d : D}, RDs G H W ds vs → ds[i]? = some d → ∃ v, vs[i]? = some v ∧ RD G H W d v
  | _, _, _, _, .nil, h => by simp at h
  | _, _, 0, _, .cons h _, e => by
    simp at e
    subst e
    exact ⟨_, rfl, h⟩
  | _, _, i + 1, d, .cons _ r, e => by
    obtain ⟨v, h1, h2⟩ := RDs.get (i := i) (d := d) r (by simpa using e)
    exact ⟨v, by simpa using h1, h2⟩
theorem RDs.getV : ∀ {ds : List D} {vs : List V} {i : Nat} {v : V}, RDs G H W ds vs → vs[i]? = some v → ∃ d, ds[i]? = some d ∧ RD G H W d v
  | _, _, _, _, .nil, h => by simp at h
  | _, _, 0, _, .cons h _, e => by
    simp at e
    subst e
    exact ⟨_, rfl, h⟩
  | _, _, i + 1, d, .cons _ r, e => by
    obtain ⟨v, h1, h2⟩ := RDs.getV (i := i) (v := d) r (by simpa using e)
    exact ⟨v, by simpa using h1, h2⟩
theorem RDs.append : ∀ {ds es : List D} {vs ws : List V}, RDs G H W ds vs → RDs G H W es ws → RDs G H W (ds ++ es) (vs ++ ws)
  | _, _, _, _, .nil, s => s
  | _, _, _, _, .cons h r, s => .cons h (RDs.append r s)
theorem RDs.take : ∀ {ds : List D} {vs : List V} (n : Nat), RDs G H W ds vs → RDs G H W (ds.take n) (vs.take n)
  | _, _, 0, _ => .nil
  | _, _, _ + 1, .nil => .nil
  | _, _, n + 1, .cons h r => .cons h (RDs.take n r)
theorem RDs.drop : ∀ {ds : List D} {vs : List V} (n : Nat), RDs G H W ds vs → RDs G H W (ds.drop n) (vs.drop n)
  | _, _, 0, r => r
  | _, _, _ + 1, .nil => .nil
  | _, _, n + 1, .cons _ r => RDs.drop n r
theorem RDs.set {d : D} {v : V} (q : RD G H W d v) : ∀ {ds : List D} {vs : List V} (n : Nat), RDs G H W ds vs → RDs G H W (ds.set n d) (vs.set n v)
  | _, _, _, .nil => .nil
  | _, _, 0, .cons _ r => .cons q r
  | _, _, n + 1, .cons h r => .cons h (RDs.set q n r)
theorem RDs.one {d : D} {v : V} (q : RD G H W d v) : RDs G H W [d] [v] := .cons q .nil
theorem RDs.reverse {ds : List D} {vs : List V} (r : RDs G H W ds vs) : RDs G H W ds.reverse vs.reverse := by
  induction ds generalizing vs with
  | nil => cases r; exact .nil
  | cons d ds ih => cases r with
    | cons h r => rw [List.reverse_cons, List.reverse_cons]; exact (ih r).append (.one h)
theorem RDs.flat : ∀ (n : Nat) {ds : List D} {vs : List V}, RDs G H W ds vs → RDs G H W (List.replicate n ds).flatten (List.replicate n vs).flatten
  | 0, _, _, _ => .nil
  | n + 1, _, _, r => by
    rw [List.replicate_succ, List.replicate_succ, List.flatten_cons, List.flatten_cons]
    exact r.append (RDs.flat n r)
end
/-- a cell at its handle -/
def CAt (G : Gm) (H : Hp) (W : Wd) (h : Nat) : Cell → Prop
  | .lst ds => ∃ vs, H (W.e h) = some (.lst vs) ∧ RDs G H W ds vs ∧ (h < W.b → belows (W.lim h) ds = true)
  | .dct ks ds => ∃ vs, H (W.e h) = some (.dK (ks.zip vs)) ∧ ks.length = vs.length ∧ RDs G H W ds vs ∧ (h < W.b → belows (W.lim h) ds = true)
  | .dtt ks ds => ∃ vs, H (W.e h) = some (.dT (ks.zip vs)) ∧ ks.length = vs.length ∧ RDs G H W ds vs ∧ (h < W.b → belows (W.lim h) ds = true)
  | .dcf ks ds => ∃ vs, (H (W.e h) = some (W.od h) ∧ ∃ o, W.od h = .frz o (.dK (ks.zip vs))) ∧ ks.length = vs.length ∧ RDs G H W ds vs ∧ (h < W.b → belows (W.lim h) ds = true)
  | .dtf ks ds => ∃ vs, (H (W.e h) = some (W.od h) ∧ ∃ o, W.od h = .frz o (.dT (ks.zip vs))) ∧ ks.length = vs.length ∧ RDs G H W ds vs ∧ (h < W.b → belows (W.lim h) ds = true)
  | .tab x q => (∃ c, PySem.W.tabIn G.K x = some (c, W.e h)) ∧ ∃ ps : Array Value, H (W.e h) = some (.tbl ps) ∧ TriplesOk ps.toList ∧ ∀ (pos : Pos) (cv : Value), codeAmong pos ps.toList = some cv → ∃ c, cv = .ref c ∧ H c = some (LamX.CodeO c q) ∧ ¬ W.im c
  | .ins c fs => ∃ (C dx : Addr) (vs : List V), G.mg c = some (.ref C) ∧ H (W.e h) = some (.ins C dx ((fs.map (·.1)).zip vs)) ∧ H dx = some (.own (W.e h)) ∧ ¬ W.im dx ∧ fs.length = vs.length ∧ RDs G H W (fs.map (·.2)) vs ∧ (h < W.b → belows (W.lim h) (fs.map (·.2)) = true)
structure MR (G : Gm) (H : Hp) (W : Wd) (M : Mem) : Prop where
  len : M.length = W.n
  inj : ∀ h h', h < W.n → h' < W.n → W.e h = W.e h' → h = h'
  bn : W.b ≤ W.n
  lm : ∀ h, h < W.b → W.lim h ≤ W.b
  avt : ∀ a, W.av a → (∃ o, H a = some o ∧ NoTup o) ∧ ∀ h, h < W.n → W.e h ≠ a
  cell : ∀ (h : Nat) (c : Cell), M[h]? = some c → CAt G H W h c
/-- the slots -/
structure SR (G : Gm) (H : Hp) (W : Wd) (s : Slots) (t : L2.St) : Prop where
  len : s.length = t.length
  at_ : ∀ (i : Nat) (d : D), s[i]? = some (some d) → ∃ v, t[i]? = some (some v) ∧ RD G H W d v
section
variable {G : Gm} {H H' : Hp} {W W' : Wd} {M M' : Mem} {s : Slots} {t : L2.St}
theorem SR.mono (x : Le H W H' W') (r : SR G H W s t) : SR G H' W' s t := ⟨r.len, fun i d e => let ⟨v, h1, h2⟩ := r.at_ i d e; ⟨v, h1, h2.mono x⟩⟩
theorem SR.set {d : D} {v : V} (r : SR G H W s t) (q : RD G H W d v) (i : Nat) : SR G H W (s.set i (some d)) (t.set i (some v)) := by
  refine ⟨by simp [r.len], fun j d' e => ?_⟩
  by_cases hj : i = j
  · subst hj
    by_cases hl : i < s.length
    · rw [List.getElem?_set_self hl] at e
      cases e
      exact ⟨v, List.getElem?_set_self (by rw [← r.len]; exact hl), q⟩
    · rw [List.getElem?_eq_none (by simpa using hl)] at e
      cases e
  · rw [List.getElem?_set_ne hj] at e
    rw [List.getElem?_set_ne hj]
    exact r.at_ j d' e
theorem CAt.tracked {h : Nat} {c : Cell} (q : CAt G H W h c) : ∃ o, H (W.e h) = some o := by
  cases c with
  | lst ds => obtain ⟨vs, e, _⟩ := q; exact ⟨_, e⟩
  | dct ks ds => obtain ⟨vs, e, _⟩ := q; exact ⟨_, e⟩
  | dtt ks ds => obtain ⟨vs, e, _⟩ := q; exact ⟨_, e⟩
  | dcf ks ds => obtain ⟨vs, e, _⟩ := q; exact ⟨_, e.1⟩
  | dtf ks ds => obtain ⟨vs, e, _⟩ := q; exact ⟨_, e.1⟩
  | tab P y => obtain ⟨_, ps, e, _⟩ := q; exact ⟨_, e⟩
  | ins c fs => obtain ⟨C, dx, vs, _, e, _⟩ := q; exact ⟨_, e⟩
theorem MR.tracked (m : MR G H W M) {h : Nat} (q : h < W.n) : ∃ o, H (W.e h) = some o := by
  have : h < M.length := by rw [m.len]; exact q
  exact (m.cell h M[h] (by simp [this])).tracked
theorem MR.fresh (m : MR G H W M) {p : Addr} (hp : H p = none) : ¬ W.im p := fun h => by
  rcases h with h | ⟨h, q, e⟩
  · obtain ⟨⟨o, ho, _⟩, _⟩ := m.avt p h
    rw [hp] at ho
    cases ho
  · obtain ⟨o, ho⟩ := m.tracked q
    rw [e, hp] at ho
    cases ho
/-- a new object -/
theorem MR.xnew (m : MR G H W M) {p : Addr} {o : HO} (hp : H p = none) : Ext H W (upd H p o) W :=
  ⟨⟨Nat.le_refl _, fun _ _ => rfl, fun a u h n => ⟨by rw [upd_ne (ne_of_none h hp)]; exact h, n⟩⟩, rfl, rfl, rfl, fun a h => upd_ne fun e => by
    subst e
    exact m.fresh hp (.inl h)⟩
theorem CAt.mono (x : Le H W H' W') (xb : W'.b = W.b) (xl : W'.lim = W.lim) {h : Nat} {c : Cell} (hn : h < W.n) (he : H' (W.e h) = H (W.e h)) (q : CAt G H W h c) : CAt G H' W' h c := by
  have e1 : W'.e h = W.e h := x.e h hn
  have e2 : W'.od h = W.od h := x.od h hn
  cases c with
  | lst ds => obtain ⟨vs, e, r, l⟩ := q; exact ⟨vs, by rw [e1, he]; exact e, r.mono x, by rw [xb, xl]; exact l⟩
  | dct ks ds => obtain ⟨vs, e, z, r, l⟩ := q; exact ⟨vs, by rw [e1, he]; exact e, z, r.mono x, by rw [xb, xl]; exact l⟩
  | dtt ks ds => obtain ⟨vs, e, z, r, l⟩ := q; exact ⟨vs, by rw [e1, he]; exact e, z, r.mono x, by rw [xb, xl]; exact l⟩
  | dcf ks ds => obtain ⟨vs, e, z, r, l⟩ := q; exact ⟨vs, by rw [e1, he, e2]; exact e, z, r.mono x, by rw [xb, xl]; exact l⟩
  | dtf ks ds => obtain ⟨vs, e, z, r, l⟩ := q; exact ⟨vs, by rw [e1, he, e2]; exact e, z, r.mono x, by rw [xb, xl]; exact l⟩
  | tab P y =>
    obtain ⟨u, ps, e, t, r⟩ := q
    exact ⟨by rw [e1]; exact u, ps, by rw [e1, he]; exact e, t, fun pos cv hc => let ⟨c, h1, h2, h3⟩ := r pos cv hc; ⟨c, h1, (x.keep _ _ h2 h3).1, (x.keep _ _ h2 h3).2⟩⟩
  | ins c fs => obtain ⟨C, dx, vs, g, e, d, dn, z, r, l⟩ := q; exact ⟨C, dx, vs, g, by rw [e1, he]; exact e, by rw [e1]; exact (x.keep _ _ d dn).1, (x.keep _ _ d dn).2, z, r.mono x, by rw [xb, xl]; exact l⟩
theorem lt_of_get {α : Type} {l : List α} {i : Nat} {a : α} (h : l[i]? = some a) : i < l.length := (List.getElem?_eq_some_iff.mp h).1
theorem MR.same (m : MR G H W M) (x : Ext H W H' W) (k : ∀ h, h < W.n → H' (W.e h) = H (W.e h)) : MR G H' W M :=
  ⟨m.len, m.inj, m.bn, m.lm, fun a h => ⟨by rw [x.avk a h]; exact (m.avt a h).1, (m.avt a h).2⟩, fun h c e => (m.cell h c e).mono x.toLe rfl rfl (by rw [← m.len]; exact lt_of_get e) (k h (by rw [← m.len]; exact lt_of_get e))⟩
theorem MR.new (m : MR G H W M) {p : Addr} {o : HO} (hp : H p = none) : MR G (upd H p o) W M :=
  m.same (m.xnew hp) fun h q => upd_ne fun e => m.fresh hp (.inr ⟨h, q, e⟩)
/-- a new handle: at p, a thing that nothing tells of yet -/
def Wd.add (W : Wd) (p : Addr) : Wd := { W with p := fun h => if h = W.n then (p, .own p) else W.p h, n := W.n + 1 }
theorem Wd.add_e {p : Addr} {h : Nat} (q : h < W.n) : (W.add p).e h = W.e h := by
  show (if h = W.n then (p, .own p) else W.p h).1 = _
  rw [if_neg (Nat.ne_of_lt q)]
theorem Wd.add_p {p : Addr} {h : Nat} (q : h < W.n) : (W.add p).p h = W.p h := by
  show (if h = W.n then (p, .own p) else W.p h) = _
  rw [if_neg (Nat.ne_of_lt q)]
theorem Wd.add_n {p : Addr} : (W.add p).e W.n = p := by
  show (if W.n = W.n then (p, .own p) else W.p W.n).1 = _
  rw [if_pos rfl]
theorem Wd.add_im {p a : Addr} (h : ¬ W.im a) (hp : a ≠ p) : ¬ (W.add p).im a := by
  rintro (z | ⟨k, q, e⟩)
  · exact h (.inl z)
  · by_cases hk : k = W.n
    · rw [hk, Wd.add_n] at e
      exact hp e.symm
    · have q' : k < W.n := by
        have : k < W.n + 1 := q
        omega
      rw [Wd.add_e q'] at e
      exact h (.inr ⟨k, q', e⟩)
/-- p is no claim's -/
def Wd.avo (W : Wd) (p : Addr) : Wd := { W with av := fun a => a = p ∨ W.av a }
theorem Wd.avo_im {p a : Addr} : (W.avo p).im a ↔ a = p ∨ W.im a := by
  constructor
  · rintro ((h | h) | h)
    · exact .inl h
    · exact .inr (.inl h)
    · exact .inr (.inr h)
  · rintro (h | h | h)
    · exact .inl (.inl h)
    · exact .inl (.inr h)
    · exact .inr h
/-- a new object that is to be avoided -/
theorem MR.avo_new (m : MR G H W M) {p : Addr} {o : HO} (hp : H p = none) : Le H W (upd H p o) (W.avo p) :=
  ⟨Nat.le_refl _, fun _ _ => rfl, fun a u h n => ⟨by rw [upd_ne (ne_of_none h hp)]; exact h, fun z => (Wd.avo_im.mp z).elim (fun e => ne_of_none h hp e) n⟩⟩
theorem MR.avo (m : MR G H W M) {p : Addr} {o : HO} (hp : H p = none) (nt : NoTup o := by intro _ h; cases h) : MR G (upd H p o) (W.avo p) M :=
  ⟨m.len, m.inj, m.bn, m.lm, fun a h => by
    rcases h with rfl | h
    · exact ⟨⟨o, upd_same, nt⟩, fun h q e => m.fresh hp (.inr ⟨h, q, e⟩)⟩
    · have : a ≠ p := fun e => m.fresh hp (.inl (e ▸ h))
      exact ⟨by rw [upd_ne this]; exact (m.avt a h).1, (m.avt a h).2⟩,
   fun h c e => (m.cell h c e).mono (m.avo_new hp) rfl rfl (by rw [← m.len]; exact lt_of_get e) (upd_ne fun z => m.fresh hp (.inr ⟨h, by rw [← m.len]; exact lt_of_get e, z⟩))⟩
/-- the avoided one is let in again -/
theorem Le.unavo {p : Addr} : Le H (W.avo p) H W := ⟨Nat.le_refl _, fun _ _ => rfl, fun a o h n => ⟨h, fun z => n (Wd.avo_im.mpr (.inr z))⟩⟩
theorem MR.unavo {p : Addr} (m : MR G H (W.avo p) M) : MR G H W M :=
  ⟨m.len, m.inj, m.bn, m.lm, fun a h => m.avt a (.inr h), fun h c e => (m.cell h c e).mono .unavo rfl rfl (by rw [← m.len]; exact lt_of_get e) rfl⟩
/-- .. as a handle -/
theorem Le.avo_add {p : Addr} : Le H (W.avo p) H (W.add p) := ⟨Nat.le_succ _, fun h q => Wd.add_p q, fun a o h n => ⟨h, Wd.add_im (fun z => n (Wd.avo_im.mpr (.inr z))) fun e => n (Wd.avo_im.mpr (.inl e))⟩⟩
theorem Ext.add {p : Addr} (x : Ext H W H' W') (hp : H p = none) : Ext H W H' (W'.add p) :=
  ⟨⟨Nat.le_succ_of_le x.n, fun h q => by rw [Wd.add_p (Nat.lt_of_lt_of_le q x.n)]; exact x.pe h q, fun a o h n => ⟨(x.keep a o h n).1, Wd.add_im (x.keep a o h n).2 (ne_of_none h hp)⟩⟩, x.b, x.lim, x.av, x.avk⟩
/-- the list at p becomes the newest handle -/
theorem MR.add_lst {p : Addr} {xs : List D} {vs : List V} (m : MR G H (W.avo p) M) (hp : ¬ W.av p) (r : RDs G H (W.avo p) xs vs) (hl : H p = some (.lst vs)) : MR G H (W.add p) (M ++ [.lst xs]) := by
  have hn : ∀ h, h < W.n → W.e h ≠ p := (m.avt p (.inl rfl)).2
  have ml : M.length = W.n := m.len
  have bn : W.b ≤ W.n := m.bn
  refine ⟨by rw [List.length_append, ml]; rfl, fun h h' q q' e => ?_, Nat.le_succ_of_le m.bn, m.lm, fun a h => ⟨(m.avt a (.inr h)).1, fun k q e => ?_⟩, fun h c e => ?_⟩
  · have q1 : h < W.n + 1 := q
    have q2 : h' < W.n + 1 := q'
    by_cases h1 : h = W.n
    · by_cases h2 : h' = W.n
      · omega
      · rw [h1, Wd.add_n, Wd.add_e (by omega)] at e
        exact absurd e.symm (hn h' (by omega))
    · by_cases h2 : h' = W.n
      · rw [h2, Wd.add_n, Wd.add_e (by omega)] at e
        exact absurd e (hn h (by omega))
      · rw [Wd.add_e (by omega), Wd.add_e (by omega)] at e
        exact m.inj h h' (by show h < W.n; omega) (by show h' < W.n; omega) e
  · have q1 : k < W.n + 1 := q
    by_cases h1 : k = W.n
    · rw [h1, Wd.add_n] at e
      exact hp (e ▸ h)
    · rw [Wd.add_e (by omega)] at e
      exact (m.avt a (.inr h)).2 k (by show k < W.n; omega) e
  · by_cases hh : h < M.length
    · rw [List.getElem?_append_left hh] at e
      exact (m.cell h c e).mono .avo_add rfl rfl (by show h < W.n; omega) rfl
    · have h2 : h = M.length := by
        have := lt_of_get e
        rw [List.length_append] at this
        simp at this
        omega
      rw [h2, List.getElem?_append_right (Nat.le_refl _), Nat.sub_self] at e
      simp at e
      subst e
      refine ⟨vs, ?_, r.mono .avo_add, fun z => ?_⟩
      · rw [h2, ml, Wd.add_n]
        exact hl
      · have z' : h < W.b := z
        omega
end
end LW
namespace LW
open PySem PySem.Spec PyProof.Rows L2
abbrev gm (X : Cx) : Gm := ⟨X.K, X.mg⟩
/-- what is wanted behind a result -/
def Post (G : Gm) (Z : WX) (t : L2.St) (H : Hp) (W : Wd) {α : Type} (r : R α) (Q : α → Mem → Wd → Hp → Prop) : Prop := match r with
  | .ok a M' => ∀ W' H', Ext H W H' W' → MR G H' W' M' → Q a M' W' H'
  | .exc c d M' => ∀ (W' : Wd) (H' : Hp) (C dd : Addr) (v : V), Ext H W H' W' → MR G H' W' M' → RD G H' W' d v → G.mg c = some (.ref C) → H' dd = some (.xd [("what", v)]) → ¬ W'.im dd → Z (.ref C) (some dd) t H'
  | .bad => False
section
variable {G : Gm} {Z : WX} {t : L2.St} {H H1 : Hp} {W W1 : Wd} {α β : Type} {r : R α} {Q Q' : α → Mem → Wd → Hp → Prop}
theorem Post.imp (p : Post G Z t H W r Q) (h : ∀ a M' W' H', Ext H W H' W' → MR G H' W' M' → Q a M' W' H' → Q' a M' W' H') : Post G Z t H W r Q' := by
  cases r with
  | ok a M => exact fun W' H' x m => h a M W' H' x m (p W' H' x m)
  | exc c d M => exact p
  | bad => exact p
theorem Post.ext (p : Post G Z t H W r Q) (x : Ext H W H1 W1) : Post G Z t H1 W1 r Q := by
  cases r with
  | ok a M => exact fun W' H' y m => p W' H' (x.trans y) m
  | exc c d M => exact fun W' H' C dd v y m => p W' H' C dd v (x.trans y) m
  | bad => exact p
theorem Post.bind {k : α → Mem → R β} {Q : β → Mem → Wd → Hp → Prop} (p : Post G Z t H W (r.bind k) Q) : Post G Z t H W r fun a M1 W1 H1 => Post G Z t H1 W1 (k a M1) Q := by
  cases r with
  | ok a M => exact fun W' H' x m => Post.ext (r := k a M) p x
  | exc c d M => exact p
  | bad => exact p
/-- the memory and the heap as they are -/
theorem Post.here {a : α} {M : Mem} (p : Post G Z t H W (.ok a M) Q) (m : MR G H W M) : Q a M W H := p W H (.refl _ _) m
end
def liftE (G : Gm) (Z : WX) (f : ES) : TE := fun t H Q => ∃ W s M, MR G H W M ∧ SR G H W s t ∧ Post G Z t H W (f W.b s M) fun d _ W' H' => ∀ v, RD G H' W' d v → Q v H'
def liftT (G : Gm) (Z : WX) (f : ET) : TT := fun t H Q => ∃ W s M, MR G H W M ∧ SR G H W s t ∧ Post G Z t H W (f W.b s M) fun k _ _ H' => Q k H'
def liftA (G : Gm) (Z : WX) (f : EA) : TA := fun t H Q => ∃ W s M, MR G H W M ∧ SR G H W s t ∧ Post G Z t H W (f W.b s M) fun ds _ W' H' => ∀ vs, RDs G H' W' ds vs → Q vs H'
/-- a fresh list: nothing tells of it yet -/
def PostN (G : Gm) (Z : WX) (t : L2.St) (H : Hp) (W : Wd) (r : R (List D)) (Q : VK) : Prop := match r with
  | .ok ds M' => ∀ (W' : Wd) (H' : Hp) (p : Addr) (vs : List V), Ext H W H' W' → MR G H' (W'.avo p) M' → RDs G H' (W'.avo p) ds vs → H p = none → ¬ W'.im p → H' p = some (.lst vs) → Q (.ref p) H'
  | .exc c d M' => ∀ (W' : Wd) (H' : Hp) (C dd : Addr) (v : V), Ext H W H' W' → MR G H' W' M' → RD G H' W' d v → G.mg c = some (.ref C) → H' dd = some (.xd [("what", v)]) → ¬ W'.im dd → Z (.ref C) (some dd) t H'
  | .bad => False
theorem PostN.ext {G : Gm} {Z : WX} {t : L2.St} {H H1 : Hp} {W W1 : Wd} {M M1 : Mem} {r : R (List D)} {Q : VK} (p : PostN G Z t H W r Q) (x : Ext H W H1 W1) (hf : ∀ a, H1 a = none → H a = none) : PostN G Z t H1 W1 r Q := by
  cases r with
  | ok a M => exact fun W' H' q vs y m rd hq => p W' H' q vs (x.trans y) m rd (hf q hq)
  | exc c d M => exact fun W' H' C dd v y m => p W' H' C dd v (x.trans y) m
  | bad => exact p
def liftN (G : Gm) (Z : WX) (f : EN) : TE := fun t H Q => ∃ W s M, MR G H W M ∧ SR G H W s t ∧ PostN G Z t H W (f W.b s M) Q
abbrev SE (X : Cx) (Z : WX) (e : Expr) (f : ES) : Prop := PE X e (liftE (gm X) Z f)
abbrev ST (X : Cx) (Z : WX) (e : Expr) (f : ET) : Prop := PT X e (liftT (gm X) Z f)
abbrev SA (X : Cx) (Z : WX) (es : List Expr) (f : EA) : Prop := PA X es (liftA (gm X) Z f)
abbrev SN (X : Cx) (Z : WX) (e : Expr) (f : EN) : Prop := PE X e (liftN (gm X) Z f)
theorem _root_.L2.PE.weak {X : Cx} {e : Expr} {t t' : TE} (h : PE X e t) (w : ∀ σ H Q, t' σ H Q → t σ H Q) : PE X e t' := ⟨fun pins s σ H Q I q => h.run pins s σ H Q I (w σ H Q q)⟩
theorem _root_.L2.PT.weak {X : Cx} {e : Expr} {t t' : TT} (h : PT X e t) (w : ∀ σ H Q, t' σ H Q → t σ H Q) : PT X e t' := ⟨fun pins s σ H Q I q => h.run pins s σ H Q I (w σ H Q q)⟩
theorem _root_.L2.PW.weak {X : Cx} {e : Expr} {t t' : TT} (h : PW X e t) (w : ∀ σ H Q, t' σ H Q → t σ H Q) : PW X e t' := ⟨fun wh pins s σ H Q I q => h.run wh pins s σ H Q I (w σ H Q q)⟩
theorem _root_.L2.PA.weak {X : Cx} {e : List Expr} {t t' : TA} (h : PA X e t) (w : ∀ σ H Q, t' σ H Q → t σ H Q) : PA X e t' := ⟨fun pos pins s σ H Q I q => h.run pos pins s σ H Q I (w σ H Q q)⟩
section
variable {X : Cx} {Z : WX} {pos : Pos}
theorem se_var (i : Nat) {x : Str} (h : PE X (.Name x pos) (tVar i)) : SE X Z (.Name x pos) (eVar i) := h.weak fun σ H Q ⟨W, s, M, m, sr, p⟩ => by
  show ∃ v, σ[i]? = some (some v) ∧ Q v H
  have e : eVar i W.b s M = match s[i]? with | some (some d) => .ok d M | _ => .bad := rfl
  rw [e] at p
  cases q : s[i]? with
  | none => rw [q] at p; exact p.elim
  | some o =>
    cases o with
    | none => rw [q] at p; exact p.elim
    | some d =>
      rw [q] at p
      obtain ⟨v, hv, rd⟩ := sr.at_ i d q
      exact ⟨v, hv, p.here m v rd⟩
theorem sv (i : Nat) {x : Str} (hN : X.N[i]? = some x := by rfl) (hv : Vis X.env.scope x := by first | exact Or.inl rfl | exact Or.inr (Or.inl rfl) | exact Or.inr (Or.inr rfl)) (hd : (x == ("__debug__" : Str)) = false := by decide)
    (hcd : (x == ("__classdict__" : Str)) = false := by decide) : SE X Z (.Name x pos) (eVar i) := se_var i (pe_var hN hv hd hcd)
theorem se_const {e : Expr} {d : D} {v : V} (h : PE X e (tC v)) (r : ∀ H W, RD (gm X) H W d v) : SE X Z e (eC d) := h.weak fun σ H Q ⟨W, s, M, m, sr, p⟩ => p.here m v (r H W)
theorem se_int {i : Int} {j : Nat} : SE X Z (.Constant (.int i) j pos) (eC (.int i)) := se_const pe_int fun _ _ => .int i
theorem se_bl {i : Bool} {j : Nat} : SE X Z (.Constant (.bool i) j pos) (eC (.bl i)) := se_const pe_bl fun _ _ => .bl i
theorem se_non {j : Nat} : SE X Z (.Constant .none j pos) (eC .non) := se_const pe_non fun _ _ => .non
theorem se_str {x : Str} {j : Nat} : SE X Z (.Constant (.str x) j pos) (eC (.str x)) := se_const pe_str fun _ _ => .str x
def BinV (G : Gm) (r : R2) (o : D → D → Mem → R D) : Prop := ∀ (x y : D) (M : Mem) (W : Wd) (H : Hp) (v w : V) (Z : WX) (t : L2.St) (Q : VK), MR G H W M → RD G H W x v → RD G H W y w →
  Post G Z t H W (o x y M) (fun d _ W' H' => ∀ u, RD G H' W' d u → Q u H') → r v w H Q
def FnV (G : Gm) (r : List V → Hp → VK → Prop) (o : List D → Mem → R D) : Prop := ∀ (xs : List D) (M : Mem) (W : Wd) (H : Hp) (vs : List V) (Z : WX) (t : L2.St) (Q : VK), MR G H W M → RDs G H W xs vs →
  Post G Z t H W (o xs M) (fun d _ W' H' => ∀ u, RD G H' W' d u → Q u H') → r vs H Q
variable {a b c : Expr} {f g h : ES} {o o' : D → D → Mem → R D} {r r' : R2}
theorem lift_bin {σ : L2.St} {H : Hp} {Q : VK} {r : R2} (hv : BinV (gm X) r o) (q : liftE (gm X) Z (eBin o f g) σ H Q) : tOp r (liftE (gm X) Z f) (liftE (gm X) Z g) σ H Q := by
  obtain ⟨W, s, M, m, sr, p⟩ := q
  refine ⟨W, s, M, m, sr, (Post.bind p).imp fun x M1 W1 H1 x1 m1 p1 v rv => ?_⟩
  refine ⟨W1, s, M1, m1, sr.mono x1.toLe, ?_⟩
  rw [x1.b]
  exact (Post.bind p1).imp fun y M2 W2 H2 x2 m2 p2 w rw' => hv x y M2 W2 H2 v w Z σ Q m2 (rv.mono x2.toLe) rw' p2
theorem se_bin {op : Operator} (ho : OpR X (binaryOp op) r) (hv : BinV (gm X) r o) (ha : SE X Z a f) (hb : SE X Z b g) : SE X Z (.BinOp a op b pos) (eBin o f g) :=
  (pe_op ho ha hb).weak fun _ _ _ q => lift_bin hv q
theorem se_cmp {op : CmpOp} (ho : OpR X (compareOp op) r) (hv : BinV (gm X) r o) (ha : SE X Z a f) (hb : SE X Z b g) (hm : behindInMarks op b = false := by first | exact nomark _ | rfl) : SE X Z (.Compare a [op] [b] pos) (eBin o f g) :=
  (pe_cmpR ho ha hb hm).weak fun _ _ _ q => lift_bin hv q
theorem lift_tval {σ : L2.St} {H : Hp} {Q : Bool → Hp → Prop} (q : liftT (gm X) Z (tVal f) σ H Q) : liftE (gm X) Z f σ H fun x H1 => ∃ k, x = .bl k ∧ Q k H1 := by
  obtain ⟨W, s, M, m, sr, p⟩ := q
  refine ⟨W, s, M, m, sr, (Post.bind p).imp fun x M1 W1 H1 x1 m1 p1 v rv => ?_⟩
  cases rv with
  | bl k => exact ⟨k, rfl, Post.here (a := k) p1 m1⟩
  | _ => exact (show False from p1).elim
theorem st_cmp {op : CmpOp} (ho : OpR X (compareOp op) r) (hv : BinV (gm X) r o) (ha : SE X Z a f) (hb : SE X Z b g) (hm : behindInMarks op b = false := by first | exact nomark _ | rfl) : ST X Z (.Compare a [op] [b] pos) (tVal (eBin o f g)) := by
  refine (pt_cmpR ho ha hb hm).weak fun σ H Q q => ?_
  have q1 := lift_tval q
  exact lift_bin (Q := fun x H1 => ∃ k, x = .bl k ∧ Q k H1) hv q1
theorem st_val {e : Expr} (h : SE X Z e f) (he : ∀ whole, isTrue e X.env whole = (do let v ← whole; standAt e.pos; holding [v] (truthy v)) := by intro _; rfl) : ST X Z e (tVal f) :=
  (pt_val h he).weak fun _ _ _ q => lift_tval q
theorem se_not (ha : SE X Z a f) : SE X Z (.UnaryOp .Not a pos) (eUn oNot f) := by
  refine (pe_not ha).weak fun σ H Q ⟨W, s, M, m, sr, p⟩ => ?_
  refine ⟨W, s, M, m, sr, (Post.bind p).imp fun x M1 W1 H1 x1 m1 p1 v rv => ?_⟩
  cases rv with
  | bl k => exact ⟨k, rfl, Post.here (a := D.bl (!k)) p1 m1 _ (.bl _)⟩
  | _ => exact (show False from p1).elim
theorem se_and {rest : List Expr} (ha : SE X Z a f) (hb : SE X Z (.BoolOp .And (b :: rest) pos) g) : SE X Z (.BoolOp .And (a :: b :: rest) pos) (eAnd f g) := by
  refine (pe_and ha hb).weak fun σ H Q ⟨W, s, M, m, sr, p⟩ => ?_
  refine ⟨W, s, M, m, sr, (Post.bind p).imp fun x M1 W1 H1 x1 m1 p1 v rv => ?_⟩
  cases rv with
  | bl k =>
    refine ⟨k, rfl, ?_⟩
    cases k with
    | true =>
      refine ⟨W1, s, M1, m1, sr.mono x1.toLe, ?_⟩
      rw [x1.b]
      exact p1
    | false => exact Post.here (a := D.bl false) p1 m1 _ (.bl _)
  | _ => exact (show False from p1).elim
theorem se_or {rest : List Expr} (ha : SE X Z a f) (hb : SE X Z (.BoolOp .Or (b :: rest) pos) g) : SE X Z (.BoolOp .Or (a :: b :: rest) pos) (eOr f g) := by
  refine (pe_or ha hb).weak fun σ H Q ⟨W, s, M, m, sr, p⟩ => ?_
  refine ⟨W, s, M, m, sr, (Post.bind p).imp fun x M1 W1 H1 x1 m1 p1 v rv => ?_⟩
  cases rv with
  | bl k =>
    refine ⟨k, rfl, ?_⟩
    cases k with
    | false =>
      refine ⟨W1, s, M1, m1, sr.mono x1.toLe, ?_⟩
      rw [x1.b]
      exact p1
    | true => exact Post.here (a := D.bl true) p1 m1 _ (.bl _)
  | _ => exact (show False from p1).elim
theorem se_one {op} (ha : SE X Z a f) : SE X Z (.BoolOp op [a] pos) f := pe_one ha
variable {u w : ET}
theorem se_if (hc : ST X Z c u) (ha : SE X Z a f) (hb : SE X Z b g) : SE X Z (.IfExp c a b pos) (eIf u f g) := by
  refine (pe_ifExp hc ha hb).weak fun σ H Q ⟨W, s, M, m, sr, p⟩ => ?_
  refine ⟨W, s, M, m, sr, (Post.bind p).imp fun k M1 W1 H1 x1 m1 p1 => ?_⟩
  have bb : W.b = W1.b := x1.b.symm
  cases k with
  | true => exact ⟨W1, s, M1, m1, sr.mono x1.toLe, by rw [x1.b]; exact p1⟩
  | false => exact ⟨W1, s, M1, m1, sr.mono x1.toLe, by rw [x1.b]; exact p1⟩
theorem st_not (ha : ST X Z a u) : ST X Z (.UnaryOp .Not a pos) (tNot u) := by
  refine (pt_not ha).weak fun σ H Q ⟨W, s, M, m, sr, p⟩ => ?_
  exact ⟨W, s, M, m, sr, (Post.bind p).imp fun k M1 W1 H1 x1 m1 p1 => Post.here (a := !k) p1 m1⟩
/-- a test whatever its whole is -/
abbrev SW (X : Cx) (Z : WX) (e : Expr) (f : ET) : Prop := PW X e (liftT (gm X) Z f)
theorem SW.st {e : Expr} (h : SW X Z e u) : ST X Z e u := PW.pt h
theorem sw_and1 (ha : ST X Z a u) : SW X Z (.BoolOp .And [a] pos) u := pw_and1 ha
theorem sw_or1 (ha : ST X Z a u) : SW X Z (.BoolOp .Or [a] pos) u := pw_or1 ha
theorem sw_and {rest : List Expr} (ha : ST X Z a u) (hb : SW X Z (.BoolOp .And (b :: rest) pos) w) : SW X Z (.BoolOp .And (a :: b :: rest) pos) (tAnd u w) := by
  refine (pw_and ha hb).weak fun σ H Q ⟨W, s, M, m, sr, p⟩ => ?_
  refine ⟨W, s, M, m, sr, (Post.bind p).imp fun k M1 W1 H1 x1 m1 p1 => ?_⟩
  cases k with
  | true => exact ⟨W1, s, M1, m1, sr.mono x1.toLe, by rw [x1.b]; exact p1⟩
  | false => exact Post.here (a := false) p1 m1
theorem sw_or {rest : List Expr} (ha : ST X Z a u) (hb : SW X Z (.BoolOp .Or (b :: rest) pos) w) : SW X Z (.BoolOp .Or (a :: b :: rest) pos) (tOr u w) := by
  refine (pw_or ha hb).weak fun σ H Q ⟨W, s, M, m, sr, p⟩ => ?_
  refine ⟨W, s, M, m, sr, (Post.bind p).imp fun k M1 W1 H1 x1 m1 p1 => ?_⟩
  cases k with
  | false => exact ⟨W1, s, M1, m1, sr.mono x1.toLe, by rw [x1.b]; exact p1⟩
  | true => exact Post.here (a := true) p1 m1
/-- a op b op' c -/
theorem lift_chain {σ : L2.St} {H : Hp} {Q : VK} (hv : BinV (gm X) r o) (hv' : BinV (gm X) r' o') (q : liftE (gm X) Z (eChain o o' f g h) σ H Q) : tChain r r' (liftE (gm X) Z f) (liftE (gm X) Z g) (liftE (gm X) Z h) σ H Q := by
  obtain ⟨W, s, M, m, sr, p⟩ := q
  refine ⟨W, s, M, m, sr, (Post.bind p).imp fun x M1 W1 H1 x1 m1 p1 v rv => ?_⟩
  refine ⟨W1, s, M1, m1, sr.mono x1.toLe, ?_⟩
  rw [x1.b]
  refine (Post.bind p1).imp fun y M2 W2 H2 x2 m2 p2 w rw' => ?_
  refine hv x y M2 W2 H2 v w Z σ _ m2 (rv.mono x2.toLe) rw' ((Post.bind p2).imp fun z M3 W3 H3 x3 m3 p3 zv rz => ?_)
  cases rz with
  | bl k =>
    refine ⟨k, rfl, ?_⟩
    cases k with
    | true =>
      show liftE (gm X) Z h σ H3 _
      refine ⟨W3, s, M3, m3, sr.mono ((x1.trans x2).trans x3).toLe, ?_⟩
      rw [((x1.trans x2).trans x3).b]
      exact (Post.bind p3).imp fun q M4 W4 H4 x4 m4 p4 qv rq => hv' y q M4 W4 H4 w qv Z σ Q m4 ((rw'.mono x3.toLe).mono x4.toLe) rq p4
    | false => exact Post.here (a := D.bl false) p3 m3 _ (.bl _)
  | _ => exact (show False from p3).elim
end
end LW
namespace LW
open PySem PySem.Spec PyProof.Rows L2
section
variable {G : Gm} {H : Hp} {W : Wd} {M : Mem} {x : D} {v : V} {xs : List D}
theorem lst_read (m : MR G H W M) (e : lstOf M x = some xs) (rv : RD G H W x v) : ∃ a vs, v = .ref a ∧ H a = some (.lst vs) ∧ RDs G H W xs vs := by
  cases rv with
  | lst h r =>
    have e' : some _ = some xs := e
    cases e'
    exact ⟨_, _, rfl, h.1, r⟩
  | ref q =>
    rename_i h
    have e' : (match M[h]? with | some (.lst xs) => some xs | _ => none) = some xs := e
    cases c : M[h]? with
    | none => rw [c] at e'; cases e'
    | some k =>
      rw [c] at e'
      cases k with
      | lst ds =>
        cases e'
        obtain ⟨vs, h1, h2, _⟩ := m.cell h _ c
        exact ⟨_, vs, rfl, h1, h2⟩
      | _ => cases e'
  | _ => cases e
theorem seq_read (m : MR G H W M) (e : seqOf M x = some xs) (rv : RD G H W x v) : ∃ a vs, v = .ref a ∧ (SqL G.K H a vs ∨ SqT G.K H a vs) ∧ RDs G H W xs vs := by
  have rints : ∀ ns : List Int, RDs G H W (ns.map D.int) (ns.map V.int) := fun ns => by
    induction ns with
    | nil => exact .nil
    | cons n ns ih => exact .cons (.int n) ih
  cases rv with
  | tup h r =>
    have e' : some _ = some xs := e
    cases e'
    exact ⟨_, _, rfl, .inr h.sq, r⟩
  | scr h =>
    have e' : some _ = some xs := e
    cases e'
    exact ⟨_, _, rfl, .inl h.sq, rints _⟩
  | lst h r =>
    have e' : some _ = some xs := e
    cases e'
    exact ⟨_, _, rfl, .inl h.sq, r⟩
  | ref q =>
    obtain ⟨a, vs, h1, h2, h3⟩ := lst_read (xs := xs) m (show lstOf M (D.ref _) = some xs from e) (.ref q)
    exact ⟨a, vs, h1, .inl (.of h2), h3⟩
  | _ => cases e
/-- a list (or the script), no tuple -/
theorem seq_readL (m : MR G H W M) (e : seqOf M x = some xs) (nt : ∀ ys, x ≠ .tup ys) (rv : RD G H W x v) : ∃ a vs, v = .ref a ∧ SqL G.K H a vs ∧ RDs G H W xs vs := by
  have rints : ∀ ns : List Int, RDs G H W (ns.map D.int) (ns.map V.int) := fun ns => by
    induction ns with
    | nil => exact .nil
    | cons n ns ih => exact .cons (.int n) ih
  cases rv with
  | tup h r => exact absurd rfl (nt _)
  | scr h =>
    have e' : some _ = some xs := e
    cases e'
    exact ⟨_, _, rfl, h.sq, rints _⟩
  | lst h r =>
    have e' : some _ = some xs := e
    cases e'
    exact ⟨_, _, rfl, h.sq, r⟩
  | ref q =>
    obtain ⟨a, vs, h1, h2, h3⟩ := lst_read (xs := xs) m (show lstOf M (D.ref _) = some xs from e) (.ref q)
    exact ⟨a, vs, h1, .of h2, h3⟩
  | _ => cases e
end
theorem line_le {n : Nat} (h : n ≤ 1000000) : n ≤ sizeLine := Nat.le_trans h (by rw [sizeLine_eq]; decide)
section
variable {X : Cx} {Z : WX} {pos : Pos} {a b c : Expr} {f g h : ES}
/-- a new tuple, a new list, as results -/
theorem new_tup {G : Gm} {H : Hp} {W : Wd} {M : Mem} {t : L2.St} {xs : List D} {vs : List V} {Q : VK} {p : Addr} (m : MR G H W M) (po : Post G Z t H W (.ok (D.tup xs) M) (fun d _ W' H' => ∀ u, RD G H' W' d u → Q u H')) (r : RDs G H W xs vs) (hp : H p = none) :
    Q (.ref p) (upd H p (.tup vs)) := po W _ (m.xnew hp) (m.new hp) _ (.tup (.inl ⟨.inl upd_same, m.fresh hp⟩) (r.mono (m.xnew hp).toLe))
theorem new_lst {G : Gm} {H : Hp} {W : Wd} {M : Mem} {t : L2.St} {xs : List D} {vs : List V} {Q : VK} {p : Addr} (m : MR G H W M) (po : Post G Z t H W (.ok (D.lst xs) M) (fun d _ W' H' => ∀ u, RD G H' W' d u → Q u H')) (r : RDs G H W xs vs) (hp : H p = none) :
    Q (.ref p) (upd H p (.lst vs)) := po W _ (m.xnew hp) (m.new hp) _ (.lst ⟨upd_same, m.fresh hp⟩ (r.mono (m.xnew hp).toLe))
def rAddU (K : PySem.W.Frag) : R2 := fun x y H Q => ((∃ i j, x = .int i ∧ y = .int j ∧ Q (.int (i + j)) H) ∨ (∃ i j, x = .str i ∧ y = .str j ∧ i.length + j.length ≤ sizeLine ∧ Q (.str (i ++ j)) H)) ∨ (rCatA K x y H Q ∨ rCat x y H Q)
theorem op_addU : OpR X (binaryOp .Add) (rAddU X.K) := (op_add.or op_add_str).or (op_catA.or op_cat)
theorem bv_add {G : Gm} : BinV G (rAddU G.K) oAdd := by
  intro x y M W H v w Z t Q m rv rw' p
  have lists : ∀ xs ys, lstOf M x = some xs → lstOf M y = some ys → Post G Z t H W (if xs.length + ys.length ≤ 1000000 then R.ok (D.lst (xs ++ ys)) M else .bad) (fun d _ W' H' => ∀ u, RD G H' W' d u → Q u H') → rAddU G.K v w H Q := by
    intro xs ys ex ey p
    obtain ⟨a1, vs, rfl, h1, r1⟩ := lst_read m ex rv
    obtain ⟨a2, ws, rfl, h2, r2⟩ := lst_read m ey rw'
    split at p
    · rename_i hz
      exact .inr (.inr ⟨a1, a2, vs, ws, rfl, rfl, h1, h2, line_le (by rw [← r1.length, ← r2.length]; exact hz), fun q hq => new_lst m p (r1.append r2) hq⟩)
    · exact p.elim
  unfold oAdd at p
  split at p
  · cases rv; cases rw'
    exact .inl (.inl ⟨_, _, rfl, rfl, p.here m _ (.int _)⟩)
  · cases rv; cases rw'
    split at p
    · rename_i hz
      exact .inl (.inr ⟨_, _, rfl, rfl, line_le hz, p.here m _ (.str _)⟩)
    · exact p.elim
  · rename_i xs ys
    cases rv with
    | tup h1 r1 =>
      cases rw' with
      | tup h2 r2 =>
        split at p
        · rename_i hz
          refine .inr (.inl ⟨_, _, _, _, rfl, rfl, h1.sq, h2.sq, line_le (by rw [← r1.length, ← r2.length]; exact hz), fun e => ?_, fun e1 e2 => ?_, fun e1 e2 q hq => new_tup m p (r1.append r2) hq⟩)
          · subst e
            cases r1
            exact p.here m _ (.tup h2 r2)
          · subst e2
            cases r2
            rw [List.append_nil] at p
            exact p.here m _ (.tup h1 r1)
        · exact p.elim
  · split at p
    · rename_i xs ys ex ey
      exact lists xs ys ex ey p
    · exact p.elim
theorem se_add (ha : SE X Z a f) (hb : SE X Z b g) : SE X Z (.BinOp a .Add b pos) (eBin oAdd f g) := se_bin op_addU bv_add ha hb
theorem bv_int {G : Gm} {C : Int → Int → Prop} {g : Int → Int → Int} {o : D → D → Mem → R D} (h : ∀ x y M, (∃ i j, x = .int i ∧ y = .int j ∧ C i j ∧ o x y M = .ok (.int (g i j)) M) ∨ o x y M = .bad) : BinV G (rI C fun i j => .int (g i j)) o := by
  intro x y M W H v w Z t Q m rv rw' p
  rcases h x y M with ⟨i, j, rfl, rfl, hc, e⟩ | e
  · rw [e] at p
    cases rv; cases rw'
    exact ⟨i, j, rfl, rfl, hc, p.here m _ (.int _)⟩
  · rw [e] at p
    exact p.elim
theorem bv_int0 {G : Gm} {g : Int → Int → Int} {o : D → D → Mem → R D} (h : ∀ x y M, (∃ i j, x = .int i ∧ y = .int j ∧ o x y M = .ok (.int (g i j)) M) ∨ o x y M = .bad) : BinV G (rI0 fun i j => .int (g i j)) o := by
  intro x y M W H v w Z t Q m rv rw' p
  rcases h x y M with ⟨i, j, rfl, rfl, e⟩ | e
  · rw [e] at p
    cases rv; cases rw'
    exact ⟨i, j, rfl, rfl, p.here m _ (.int _)⟩
  · rw [e] at p
    exact p.elim
theorem bv_cmp {G : Gm} {g : Int → Int → Bool} : BinV G (rI0 fun i j => .bl (g i j)) (oCmp g) := by
  intro x y M W H v w Z t Q m rv rw' p
  unfold oCmp at p
  split at p
  · cases rv; cases rw'
    exact ⟨_, _, rfl, rfl, p.here m _ (.bl _)⟩
  · exact p.elim
theorem se_sub (ha : SE X Z a f) (hb : SE X Z b g) : SE X Z (.BinOp a .Sub b pos) (eBin oSub f g) := se_bin op_sub (bv_int0 fun x y M => by
  unfold oSub
  split
  · exact .inl ⟨_, _, rfl, rfl, rfl⟩
  · exact .inr rfl) ha hb
theorem se_mod (ha : SE X Z a f) (hb : SE X Z b g) : SE X Z (.BinOp a .Mod b pos) (eBin oMod f g) := se_bin op_mod (bv_int fun x y M => by
  unfold oMod
  split
  · split
    · exact .inl ⟨_, _, rfl, rfl, by assumption, rfl⟩
    · exact .inr rfl
  · exact .inr rfl) ha hb
theorem se_div (ha : SE X Z a f) (hb : SE X Z b g) : SE X Z (.BinOp a .FloorDiv b pos) (eBin oDiv f g) := se_bin op_fdivW (bv_int fun x y M => by
  unfold oDiv
  split
  · split
    · rename_i hc
      exact .inl ⟨_, _, rfl, rfl, ⟨hc.1, by have := hc.2; omega⟩, rfl⟩
    · exact .inr rfl
  · exact .inr rfl) ha hb
theorem small_iff {i : Int} : small i = true ↔ -(2 ^ 64) < i ∧ i < 2 ^ 64 := by unfold small; simp
theorem se_pow (ha : SE X Z a f) (hb : SE X Z b g) : SE X Z (.BinOp a .Pow b pos) (eBin oPow f g) := se_bin op_pow (bv_int fun x y M => by
  unfold oPow
  split
  · split
    · rename_i hc
      have h := small_iff.mp hc.2.2
      exact .inl ⟨_, _, rfl, rfl, ⟨hc.1, by have := hc.2.1; omega, by omega⟩, rfl⟩
    · exact .inr rfl
  · exact .inr rfl) ha hb
theorem mulOk_ok {i j : Int} (h : mulOk i j = true) : CMul i j ∨ CMulW i j := by
  unfold mulOk at h
  rw [Bool.or_eq_true, Bool.or_eq_true] at h
  rcases h with (h | h) | h
  · exact .inl (.inl (small_iff.mp h))
  · exact .inl (.inr (small_iff.mp h))
  · refine .inr ?_
    unfold CMulW
    exact of_decide_eq_true h
theorem tuple_mul1 (l : Addr) (items : Array Value) (n : Nat) (dd : Option Addr) (sl : Array (Option Value)) (u : Tok) :
    Meets (Builtin.«tuple.__mul__» ⟨[.ref l, .int 1 u], []⟩) (fun _ R s => s.heap.get? l = some { cls := .type "tuple", dict := dd, data := .seq items n, slots := sl } ∧ R (.ok (.ret (Value.ref l))) s) :=
  .of_wp fun prog w A R s h => by
    obtain ⟨hp, g, d, tk, os⟩ := s
    obtain ⟨hl, h⟩ := h
    have f1 := AutoSeq1.idx_int
    wp_walk using wpAny_loadPart' hl
    repeat (first
      | (refine wpAny_ite_false (decide_eq_false (by simp)) ?_; wp_walk using wpAny_loadPart' hl)
      | (refine wpAny_ite_true (decide_eq_true (by simp)) ?_; wp_walk using wpAny_loadPart' hl))
    exact ⟨_, rfl, h⟩
def rRepT1 (K : PySem.W.Frag) : R2 := fun x y H Q => ∃ l xs, x = .ref l ∧ y = .int 1 ∧ SqT K H l xs ∧ Q (.ref l) H
theorem op_repT1 : OpR X (binaryOp .Mult) (rRepT1 X.K) := by
  intro pins s σ H x y v u Q I rx ry h
  obtain ⟨l, xs, rfl, rfl, hT, q⟩ := h
  cases rx
  obtain ⟨t, rfl⟩ := ry
  obtain ⟨its, r, ⟨⟨cls, dd, data, sl⟩, ho, hc, n, hd⟩, hs⟩ := I.tuple hT
  simp only at hc hd
  subst hc hd
  exact wpAny_binaryOp_repeat_ref (T := "tuple") (U := "int") (by decide) ⟨_, ho, rfl⟩ (fun s' => typeIs_int s' 1 t) noFill_tuple_mul F.fills_int_mul F.slot_int_rmul repeat_tuple F.slot_int_index.lookup
    (call_meets F.slot_int_rmul (typeIs_int s 1 t) F.entry_int_rmul (F.args_int_rmul_2 _ _) (int_rmul_tuple 1 t l its.toArray n dd sl)
      ⟨ho, rfl, ⟨_, ho, rfl⟩, call_meets F.slot_tuple_mul ⟨_, ho, rfl⟩ F.entry_tuple_mul (F.args_tuple_mul_2 _ _) (tuple_mul1 l its.toArray n dd sl t) ⟨ho, ⟨.ref l, H, I, rfl, q⟩⟩⟩)
def rMulU (K : PySem.W.Frag) : R2 := fun x y H Q => (rI CMul (fun i j => .int (i * j)) x y H Q ∨ rI CMulW (fun i j => .int (i * j)) x y H Q) ∨ (rRep x y H Q ∨ (rRepT K x y H Q ∨ rRepT1 K x y H Q))
theorem op_mulU : OpR X (binaryOp .Mult) (rMulU X.K) := (op_mul.or op_mulW).or (op_rep.or (op_repT.or op_repT1))
theorem bv_mul {G : Gm} : BinV G (rMulU G.K) oMul := by
  intro x y M W H v w Z t Q m rv rw' p
  unfold oMul at p
  split at p
  · cases rv; cases rw'
    split at p
    · rename_i hc
      rcases mulOk_ok hc with hc | hc
      · exact .inl (.inl ⟨_, _, rfl, rfl, hc, p.here m _ (.int _)⟩)
      · exact .inl (.inr ⟨_, _, rfl, rfl, hc, p.here m _ (.int _)⟩)
    · exact p.elim
  · rename_i xs k
    cases rw'
    cases rv with
    | tup h1 r1 =>
      split at p
      · rename_i hc
        obtain ⟨h2, h3, h4, h5⟩ := hc
        rename_i a vs
        by_cases hk : k = 1
        · subst hk
          have e : (List.replicate (1 : Int).toNat xs).flatten = xs := by
            show (List.replicate 1 xs).flatten = xs
            simp
          rw [e] at p
          exact .inr (.inr (.inr ⟨a, vs, rfl, rfl, h1.sq, p.here m _ (.tup h1 r1)⟩))
        · refine .inr (.inr (.inl ⟨a, k, vs, rfl, rfl, h1.sq, fun e => h5 ?_, by omega, h3, by rw [← r1.length]; exact h4, fun q hq => new_tup m p (r1.flat k.toNat) hq⟩))
          subst e
          cases r1
          rfl
      · exact p.elim
  · rename_i k h1 h2
    cases rw'
    split at p
    · rename_i xs ex
      obtain ⟨a1, vs, rfl, h1, r1⟩ := lst_read m ex rv
      split at p
      · rename_i hc
        refine .inr (.inl ⟨a1, k, vs, rfl, rfl, h1, by omega, by omega, ?_, fun q hq => new_lst m p (r1.flat k.toNat) hq⟩)
        rw [← r1.length]
        refine line_le (Nat.le_trans (Nat.mul_le_mul hc.2.2 (show k.toNat ≤ 1000 by omega)) (by decide))
      · exact p.elim
    · exact p.elim
  · exact p.elim
theorem se_mul (ha : SE X Z a f) (hb : SE X Z b g) : SE X Z (.BinOp a .Mult b pos) (eBin oMul f g) := se_bin op_mulU bv_mul ha hb
theorem se_le (ha : SE X Z a f) (hb : SE X Z b g) : SE X Z (.Compare a [.LtE] [b] pos) (eBin oLe f g) := se_cmp op_le bv_cmp ha hb
theorem se_ge (ha : SE X Z a f) (hb : SE X Z b g) : SE X Z (.Compare a [.GtE] [b] pos) (eBin oGe f g) := se_cmp op_ge bv_cmp ha hb
theorem st_lt (ha : SE X Z a f) (hb : SE X Z b g) : ST X Z (.Compare a [.Lt] [b] pos) (tVal (eBin oLt f g)) := st_cmp op_lt bv_cmp ha hb
theorem st_le (ha : SE X Z a f) (hb : SE X Z b g) : ST X Z (.Compare a [.LtE] [b] pos) (tVal (eBin oLe f g)) := st_cmp op_le bv_cmp ha hb
theorem st_gt (ha : SE X Z a f) (hb : SE X Z b g) : ST X Z (.Compare a [.Gt] [b] pos) (tVal (eBin oGt f g)) := st_cmp op_gt bv_cmp ha hb
theorem isNon_iff {G : Gm} {H : Hp} {W : Wd} {x : D} {v : V} (r : RD G H W x v) : isNon x = decide (v = .non) := by cases r <;> simp [isNon]
theorem bv_isN {G : Gm} : BinV G (fun x y H Q => y = .non ∧ Q (.bl (decide (x = .non))) H) oIsN := by
  intro x y M W H v w Z t Q m rv rw' p
  unfold oIsN at p
  split at p
  · cases rw'
    rw [isNon_iff rv] at p
    exact ⟨rfl, p.here m _ (.bl _)⟩
  · exact p.elim
theorem st_isN (ha : SE X Z a f) (hb : SE X Z b g) : ST X Z (.Compare a [.Is] [b] pos) (tVal (eBin oIsN f g)) := st_cmp op_isN bv_isN ha hb
mutual
theorem toPy_dp {G : Gm} {H : Hp} {W : Wd} {M : Mem} : ∀ (d : D) (v : V) (y : PyData), RD G H W d v → toPy M d = some y → Dp G.K H v y
  | .non, _, _, r, e => by cases r; simp only [toPy, Option.some.injEq] at e; subst e; exact .non
  | .bl b, _, _, r, e => by cases r; simp only [toPy, Option.some.injEq] at e; subst e; exact .bl b
  | .int b, _, _, r, e => by cases r; simp only [toPy, Option.some.injEq] at e; subst e; exact .int b
  | .str b, _, _, r, e => by cases r; simp only [toPy, Option.some.injEq] at e; subst e; exact .str b
  | .tup xs, _, y, r, e => by
    cases r with
    | tup h1 h2 =>
      simp only [toPy, Option.map_eq_some_iff] at e
      obtain ⟨ys, e1, rfl⟩ := e
      exact .tup h1.sq (toPys_dp xs _ ys h2 e1)
  | .lst xs, _, y, r, e => by
    cases r with
    | lst h1 h2 =>
      simp only [toPy, Option.map_eq_some_iff] at e
      obtain ⟨ys, e1, rfl⟩ := e
      exact .lst h1.sq (toPys_dp xs _ ys h2 e1)
  | .scr _, _, _, _, e => by simp [toPy] at e
  | .dct _ _, _, _, _, e => by simp [toPy] at e
  | .dtt _ _, _, _, _, e => by simp [toPy] at e
  | .exn _ _, _, _, _, e => by simp [toPy] at e
  | .key _, _, _, _, e => by simp [toPy] at e
  | .clo _ _, _, _, _, e => by simp [toPy] at e
  | .ref _, _, _, _, e => by simp [toPy] at e
theorem toPys_dp {G : Gm} {H : Hp} {W : Wd} {M : Mem} : ∀ (ds : List D) (vs : List V) (ys : List PyData), RDs G H W ds vs → toPys M ds = some ys → DpAll G.K H vs ys
  | [], _, _, r, e => by cases r; simp only [toPys, Option.some.injEq] at e; subst e; exact .nil
  | d :: ds, _, ys, r, e => by
    cases r with
    | cons h1 h2 =>
      simp only [toPys] at e
      cases e1 : toPy M d with
      | none => rw [e1] at e; simp at e
      | some y =>
        rw [e1] at e
        cases e2 : toPys M ds with
        | none => rw [e2] at e; simp at e
        | some zs =>
          rw [e2] at e
          simp only [Option.some.injEq] at e
          subst e
          exact .cons (toPy_dp d _ y h1 e1) (toPys_dp ds _ zs h2 e2)
end
theorem rdOf_dp {G : Gm} {H : Hp} {W : Wd} {M : Mem} {d : D} {v : V} {y : PyData} (m : MR G H W M) (r : RD G H W d v) (e : toPy M (rdOf M d) = some y) : Dp G.K H v y := by
  cases r with
  | ref q =>
    rename_i h
    cases c : M[h]? with
    | none =>
      have : rdOf M (.ref h) = .ref h := by simp only [rdOf, c]
      rw [this] at e
      simp [toPy] at e
    | some k =>
      cases k with
      | lst xs =>
        have e' : rdOf M (.ref h) = .lst xs := by simp only [rdOf, c]
        rw [e'] at e
        simp only [toPy, Option.map_eq_some_iff] at e
        obtain ⟨ys, e1, rfl⟩ := e
        obtain ⟨vs, h1, h2, _⟩ := m.cell h _ c
        exact .lst (.of h1) (toPys_dp xs _ ys h2 e1)
      | _ =>
        have : rdOf M (.ref h) = .ref h := by simp only [rdOf, c]
        rw [this] at e
        simp [toPy] at e
  | non => exact toPy_dp (W := W) _ _ y .non e
  | bl b => exact toPy_dp (W := W) _ _ y (.bl b) e
  | int b => exact toPy_dp (W := W) _ _ y (.int b) e
  | str b => exact toPy_dp (W := W) _ _ y (.str b) e
  | tup h1 h2 => exact toPy_dp (W := W) _ _ y (.tup h1 h2) e
  | lst h1 h2 => exact toPy_dp (W := W) _ _ y (.lst h1 h2) e
  | scr h => simp [rdOf, toPy] at e
  | dct h1 h2 h3 h4 => simp [rdOf, toPy] at e
  | dtt h1 h2 h3 h4 => simp [rdOf, toPy] at e
  | exn h1 h2 h3 h4 h5 h6 => simp [rdOf, toPy] at e
  | key h1 h2 => simp [rdOf, toPy] at e
  | clo h1 h2 h3 h4 h5 => simp [rdOf, toPy] at e
theorem eqD_dp {G : Gm} {H : Hp} {W : Wd} {M : Mem} {x y : D} {v w : V} {k : Bool} (m : MR G H W M) (rv : RD G H W x v) (rw' : RD G H W y w) (e : eqD M x y = some k) : ∃ d e', Dp G.K H v d ∧ Dp G.K H w e' ∧ SeqAt.shaped d = true ∧ SeqAt.shaped e' = true ∧ PyData.eqv d e' = k := by
  unfold eqD at e
  split at e
  · rename_i d e' h1 h2
    split at e
    · rename_i hs
      cases e
      exact ⟨d, e', rdOf_dp m rv h1, rdOf_dp m rw' h2, hs.1, hs.2, rfl⟩
    · cases e
  · cases e
def rEqU (K : PySem.W.Frag) : R2 := fun x y H Q => rEqD K x y H Q ∨ rEq x y H Q
def rNeU (K : PySem.W.Frag) : R2 := fun x y H Q => rNeD K x y H Q ∨ rNe x y H Q
theorem strs2_read {G : Gm} {H : Hp} {W : Wd} {x y : D} {v w : V} {k : Bool} (rv : RD G H W x v) (rw' : RD G H W y w) (e : strs2 x y = some k) : scal v w = true ∧ decide (v = w) = k := by
  unfold strs2 at e
  split at e
  · rename_i a c
    cases e
    cases rv
    cases rw'
    exact ⟨rfl, dec_str⟩
  · cases e
theorem bv_eq {G : Gm} : BinV G (rEqU G.K) oEq := by
  intro x y M W H v w Z t Q m rv rw' p
  unfold oEq at p
  split at p
  · rename_i k e
    obtain ⟨h1, h2⟩ := strs2_read rv rw' e
    exact .inr ⟨h1, by rw [h2]; exact p.here m _ (.bl _)⟩
  · split at p
    · rename_i k e
      obtain ⟨d, e', h1, h2, h3, h4, h5⟩ := eqD_dp m rv rw' e
      refine .inl ⟨d, e', h1, h2, h3, h4, ?_⟩
      rw [h5]
      exact p.here m _ (.bl _)
    · exact p.elim
theorem bv_ne {G : Gm} : BinV G (rNeU G.K) oNe := by
  intro x y M W H v w Z t Q m rv rw' p
  unfold oNe at p
  split at p
  · rename_i k e
    obtain ⟨h1, h2⟩ := strs2_read rv rw' e
    exact .inr ⟨h1, by rw [h2]; exact p.here m _ (.bl _)⟩
  · split at p
    · rename_i k e
      obtain ⟨d, e', h1, h2, h3, h4, h5⟩ := eqD_dp m rv rw' e
      refine .inl ⟨d, e', h1, h2, h3, h4, ?_⟩
      rw [h5]
      exact p.here m _ (.bl _)
    · exact p.elim
variable {k : Nat}
theorem op_eqU (hr : Room k X.A) : OpR X (compareOp .Eq) (rEqU X.K) := (op_eqD hr.units).or op_eq
theorem op_neU (hr : Room k X.A) : OpR X (compareOp .NotEq) (rNeU X.K) := (op_neD hr.units).or op_ne
theorem se_eq (hr : Room k X.A) (ha : SE X Z a f) (hb : SE X Z b g) : SE X Z (.Compare a [.Eq] [b] pos) (eBin oEq f g) := se_cmp (op_eqU hr) bv_eq ha hb
theorem se_ne (hr : Room k X.A) (ha : SE X Z a f) (hb : SE X Z b g) : SE X Z (.Compare a [.NotEq] [b] pos) (eBin oNe f g) := se_cmp (op_neU hr) bv_ne ha hb
theorem st_eq (hr : Room k X.A) (ha : SE X Z a f) (hb : SE X Z b g) : ST X Z (.Compare a [.Eq] [b] pos) (tVal (eBin oEq f g)) := st_cmp (op_eqU hr) bv_eq ha hb
theorem st_ne (hr : Room k X.A) (ha : SE X Z a f) (hb : SE X Z b g) : ST X Z (.Compare a [.NotEq] [b] pos) (tVal (eBin oNe f g)) := st_cmp (op_neU hr) bv_ne ha hb
/-- a <= b <= c and its like, of ints -/
theorem se_lele (ha : SE X Z a f) (hb : SE X Z b g) (hc : SE X Z c h) (hm : lastMarks [.LtE, .LtE] [b, c] = false := by with_unfolding_all rfl) : SE X Z (.Compare a [.LtE, .LtE] [b, c] pos) (eChain oLe oLe f g h) :=
  (pe_chain op_le op_le ha hb hc hm).weak fun _ _ _ z => lift_chain bv_cmp bv_cmp z
theorem st_lele (ha : SE X Z a f) (hb : SE X Z b g) (hc : SE X Z c h) (hm : lastMarks [.LtE, .LtE] [b, c] = false := by with_unfolding_all rfl) : ST X Z (.Compare a [.LtE, .LtE] [b, c] pos) (tVal (eChain oLe oLe f g h)) :=
  (pt_chain op_le op_le ha hb hc hm).weak fun σ H Q q => lift_chain (Q := fun x H1 => ∃ k, x = .bl k ∧ Q k H1) bv_cmp bv_cmp (lift_tval q)
variable {es : List Expr} {e : Expr} {fs : EA}
theorem sa_nil : SA X Z [] aNil := pa_nil.weak fun σ H Q ⟨W, s, M, m, sr, p⟩ => Post.here (a := ([] : List D)) p m [] .nil
theorem sa_cons (ha : SE X Z e f) (hr : SA X Z es fs) (hs : starEach (e :: es) X.env = (false, eval e X.env) :: starEach es X.env := by rfl) : SA X Z (e :: es) (aCons f fs) := by
  refine (pa_cons ha hr hs).weak fun σ H Q ⟨W, s, M, m, sr, p⟩ => ?_
  refine ⟨W, s, M, m, sr, (Post.bind p).imp fun x M1 W1 H1 x1 m1 p1 v rv => ?_⟩
  refine ⟨W1, s, M1, m1, sr.mono x1.toLe, ?_⟩
  rw [x1.b]
  exact (Post.bind p1).imp fun xs M2 W2 H2 x2 m2 p2 vs rvs => Post.here (a := x :: xs) p2 m2 _ (.cons (rv.mono x2.toLe) rvs)
theorem se_tup {x1} (h : SA X Z es fs) : SE X Z (.Tuple es x1 pos) (eTup fs) := by
  refine (pe_tup h).weak fun σ H Q ⟨W, s, M, m, sr, p⟩ => ?_
  refine ⟨W, s, M, m, sr, (Post.bind p).imp fun xs M1 W1 H1 x1 m1 p1 vs rvs => ?_⟩
  split at p1
  · rename_i hz
    exact ⟨line_le (by rw [← rvs.length]; exact hz), fun q hq => new_tup m1 p1 rvs hq⟩
  · exact p1.elim
/-- what is new to H1 is new to H -/
theorem Ext.fresh {G : Gm} {H H' : Hp} {W W' : Wd} {M M' : Mem} {p : Addr} (x : Ext H W H' W') (m : MR G H W M) (m' : MR G H' W' M') (hp : H' p = none) : H p = none := by
  cases q : H p with
  | none => rfl
  | some o =>
    by_cases hi : W.im p
    · rcases hi with hi | ⟨h, hl, e⟩
      · rw [x.avk p hi, q] at hp
        cases hp
      obtain ⟨o', ho⟩ := m'.tracked (h := h) (Nat.lt_of_lt_of_le hl x.n)
      rw [x.e h hl, e, hp] at ho
      cases ho
    · rw [(x.keep p o q hi).1] at hp
      cases hp
/-- a fresh list as HandS's rules leave it -/
theorem new_n {G : Gm} {H H1 : Hp} {W W1 : Wd} {M M1 : Mem} {t : L2.St} {xs : List D} {vs : List V} {Q : VK} {p : Addr} (x : Ext H W H1 W1) (m : MR G H W M) (m1 : MR G H1 W1 M1) (po : PostN G Z t H W (.ok xs M1) Q) (r : RDs G H1 W1 xs vs) (hp : H1 p = none) :
    Q (.ref p) (upd H1 p (.lst vs)) := po W1 _ p vs (x.trans (m1.xnew hp)) (m1.avo hp) (r.mono (m1.avo_new hp)) (x.fresh m m1 hp) (m1.fresh hp) upd_same
theorem PostN.bind {α : Type} {G : Gm} {H : Hp} {W : Wd} {M : Mem} {t : L2.St} {r : R α} {k : α → Mem → R (List D)} {Q : VK} (m : MR G H W M) (p : PostN G Z t H W (r.bind k) Q) : Post G Z t H W r fun a M1 W1 H1 => PostN G Z t H1 W1 (k a M1) Q := by
  cases r with
  | ok a M => exact fun W' H' x m' => PostN.ext (M := M) (M1 := M) (r := k a M) p x fun a ha => x.fresh m m' ha
  | exc c d M => exact p
  | bad => exact p
theorem sn_lst (h : SA X Z es fs) : SN X Z (.List es pos) (nLst fs) := by
  refine (pe_lst h).weak fun σ H Q ⟨W, s, M, m, sr, p⟩ => ?_
  refine ⟨W, s, M, m, sr, (PostN.bind m p).imp fun xs M1 W1 H1 x1 m1 p1 vs rvs => ?_⟩
  split at p1
  · rename_i hz
    exact ⟨line_le (by rw [← rvs.length]; exact hz), fun q hq => new_n (.refl _ _) m1 m1 p1 rvs hq⟩
  · exact p1.elim
variable {fn : EN}
theorem lift_frz {G : Gm} {σ : L2.St} {H : Hp} {Q : VK} (q : liftE G Z (eFrz fn) σ H Q) : liftN G Z fn σ H Q := by
  obtain ⟨W, s, M, m, sr, p⟩ := q
  refine ⟨W, s, M, m, sr, ?_⟩
  have e : eFrz fn W.b s M = (fn W.b s M).bind fun xs M1 => .ok (.lst xs) M1 := rfl
  rw [e] at p
  cases q : fn W.b s M with
  | ok xs M1 =>
    rw [q] at p
    exact fun W' H' a vs x m' r ha hi hl => p W' H' x m'.unavo _ (.lst ⟨hl, hi⟩ (r.mono .unavo))
  | exc c d M1 => rw [q] at p; exact p
  | bad => rw [q] at p; exact p
theorem lift_thw {G : Gm} {σ : L2.St} {H : Hp} {Q : VK} (q : liftE G Z (eThw fn) σ H Q) : liftN G Z fn σ H Q := by
  obtain ⟨W, s, M, m, sr, p⟩ := q
  refine ⟨W, s, M, m, sr, ?_⟩
  have e : eThw fn W.b s M = (fn W.b s M).bind fun xs M1 => .ok (.ref M1.length) (M1 ++ [.lst xs]) := rfl
  rw [e] at p
  cases q : fn W.b s M with
  | ok xs M1 =>
    rw [q] at p
    intro W' H' a vs x m' r ha hi hl
    have hn : M1.length = W'.n := m'.len
    have p' := p (W'.add a) H' (x.add ha) (m'.add_lst (fun z => hi (.inl z)) r hl) (.ref a) ?_
    · exact p'
    · have := RD.ref (G := G) (H := H') (W := W'.add a) (h := M1.length) (by rw [hn]; exact Nat.lt_succ_self _)
      rw [hn, Wd.add_n] at this
      rw [hn]
      exact this
  | exc c d M1 => rw [q] at p; exact p
  | bad => rw [q] at p; exact p
theorem se_frz (h : SN X Z e fn) : SE X Z e (eFrz fn) := PE.weak h fun _ _ _ q => lift_frz q
theorem se_thw (h : SN X Z e fn) : SE X Z e (eThw fn) := PE.weak h fun _ _ _ q => lift_thw q
end
end LW
namespace LW
open PySem PySem.Spec PyProof.Rows L2
section
variable {prog : Program} {w : World} {A : Around} {E : Value → Shared → Prop} {s : Shared}
end
section
variable {X : Cx} {Z : WX} {pos : Pos} {a b c : Expr} {f g h : ES}
theorem bv_ix {G : Gm} : BinV G (rIx G.K) oIx := by
  intro x y M W H v w Z t Q m rv rw' p
  unfold oIx at p
  split at p
  · rename_i i
    cases rw'
    split at p
    · rename_i xs ex
      obtain ⟨a, vs, rfl, hq, r⟩ := seq_read m ex rv
      split at p
      · rename_i d hd
        have hl : xs.length = vs.length := r.length
        have key : ∃ u, atI vs i = some u ∧ RD G H W d u := by
          unfold atI at hd ⊢
          rw [hl] at hd
          cases e : ixN vs.length i with
          | none => rw [e] at hd; cases hd
          | some k =>
            rw [e] at hd
            exact r.get hd
        obtain ⟨u, hu, ru⟩ := key
        rcases hq with hq | hq
        · exact .inl ⟨a, vs, i, u, rfl, rfl, hq, hu, p.here m _ ru⟩
        · exact .inr (.inl ⟨a, vs, i, u, rfl, rfl, hq, hu, p.here m _ ru⟩)
      · exact p.elim
    · exact p.elim
  · exact p.elim
theorem se_ix (ha : SE X Z a f) (hb : SE X Z b g) (hs : PlainIx b := by exact fun _ _ => rfl) : SE X Z (.Subscript a b pos) (eBin oIx f g) := (pe_ix ix_seq ha hb hs).weak fun _ _ _ q => lift_bin bv_ix q
/-- a slice's part -/
def liftP (G : Gm) (Z : WX) (f : EP') : TO := fun t H Q => ∃ W s M, MR G H W M ∧ SR G H W s t ∧ Post G Z t H W (f W.b s M) fun k _ _ H' => Q k H'
abbrev SP' (X : Cx) (Z : WX) (e : Option Expr) (f : EP') : Prop := PO X e (liftP (gm X) Z f)
theorem _root_.L2.PO.weak {X : Cx} {e : Option Expr} {t t' : TO} (h : PO X e t) (w : ∀ σ H Q, t' σ H Q → t σ H Q) : PO X e t' := ⟨fun pins s σ H Q I q => h.run pins s σ H Q I (w σ H Q q)⟩
theorem sp_no : SP' X Z none pNo := po_none.weak fun σ H Q ⟨W, s, M, m, sr, p⟩ => Post.here (a := (none : Option Int)) p m
theorem sp_of (ha : SE X Z a f) : SP' X Z (some a) (pOf f) := by
  refine (po_some ha).weak fun σ H Q ⟨W, s, M, m, sr, p⟩ => ?_
  refine ⟨W, s, M, m, sr, (Post.bind p).imp fun x M1 W1 H1 x1 m1 p1 v rv => ?_⟩
  cases rv with
  | int i => exact ⟨i, rfl, Post.here (a := some i) p1 m1⟩
  | _ => exact (show False from p1).elim
def rCutU (K : PySem.W.Frag) : V → Option Int → Option Int → Hp → VK → Prop := fun x lo hi H Q => rSlL K x lo hi H Q ∨ rSlA K x lo hi H Q
theorem sl_cutU : SlR X (rCutU X.K) := sl_list.or sl_tupA
theorem RDs.cut {G : Gm} {H : Hp} {W : Wd} {xs : List D} {vs : List V} (r : RDs G H W xs vs) (lo hi : Option Int) : RDs G H W (cutL xs lo hi) (cutV vs lo hi) := by
  unfold cutL cutV
  rw [r.length]
  exact (r.drop _).take _
theorem cut_whole {α : Type} {xs : List α} {lo hi : Option Int} (h : HT.sIx xs.length 0 lo = 0 ∧ HT.sIx xs.length xs.length hi = xs.length) : cutL xs lo hi = xs := by
  unfold cutL
  rw [h.1, h.2]
  simp
variable {l u : EP'} {lo hi : Option Expr}
theorem se_cut {p2 : Pos} (ha : SE X Z a f) (hl : SP' X Z lo l) (hu : SP' X Z hi u) : SE X Z (.Subscript a (.Slice lo hi none p2) pos) (eCut f l u) := by
  refine (pe_slice sl_cutU ha hl hu).weak fun σ H Q ⟨W, s, M, m, sr, p⟩ => ?_
  refine ⟨W, s, M, m, sr, (Post.bind p).imp fun x M1 W1 H1 x1 m1 p1 v rv => ?_⟩
  refine ⟨W1, s, M1, m1, sr.mono x1.toLe, ?_⟩
  rw [x1.b]
  refine (Post.bind p1).imp fun li M2 W2 H2 x2 m2 p2 => ?_
  refine ⟨W2, s, M2, m2, sr.mono (x1.trans x2).toLe, ?_⟩
  rw [(x1.trans x2).b]
  refine (Post.bind p2).imp fun hi' M3 W3 H3 x3 m3 p3 => ?_
  have rv' := (rv.mono x2.toLe).mono x3.toLe
  unfold oCut at p3
  split at p3
  · rename_i xs
    cases rv' with
    | tup h1 r1 =>
      refine .inr ⟨_, _, rfl, h1.sq, fun hw => ?_, fun hw q hq => new_tup m3 p3 (r1.cut li hi') hq⟩
      have e := cut_whole (xs := xs) (lo := li) (hi := hi') (by rw [r1.length]; exact hw)
      rw [e] at p3
      exact p3.here m3 _ (.tup h1 r1)
  · rename_i nt
    split at p3
    · rename_i xs ex
      obtain ⟨a1, vs, rfl, hq, r⟩ := seq_readL m3 ex (fun ys e => nt ys e) rv'
      exact .inl ⟨a1, vs, rfl, hq, fun q hq' => new_lst m3 p3 (r.cut li hi') hq'⟩
    · exact p3.elim
end
end LW
namespace LW
open PySem PySem.Spec PyProof.Rows L2
section
variable {X : Cx} {Z : WX} {pos p : Pos} {a b c e : Expr} {es : List Expr} {f g h : ES} {fs : EA} {id T : String} {x : Str} {r : List V → Hp → VK → Prop} {o : List D → Mem → R D}
theorem lift_fn {σ : L2.St} {H : Hp} {Q : VK} (hv : FnV (gm X) r o) (q : liftE (gm X) Z (eFn o fs) σ H Q) : tCB r (liftA (gm X) Z fs) σ H Q := by
  obtain ⟨W, s, M, m, sr, po⟩ := q
  exact ⟨W, s, M, m, sr, (Post.bind po).imp fun ds M1 W1 H1 x1 m1 p1 vs rvs => hv ds M1 W1 H1 vs Z σ Q m1 rvs p1⟩
theorem se_callB (hc : CallR X (.builtin id) r) (hv : FnV (gm X) r o) (hg : Gl X x) (hm : X.mg x = none) (hb : bootBuiltins x = some (.builtin id)) (ha : SA X Z (e :: es) fs) (hn : x ≠ "__name__" := by decide) (hdb : (x == ("__debug__" : Str)) = false := by decide)
    (he : starEach (e :: es) X.env = (false, eval e X.env) :: starEach es X.env := by rfl) (hpl : (backTo pos (starEach es X.env)).any (·.1) = false := by rfl) : SE X Z (.Call (.Name x p) (e :: es) [] pos) (eFn o fs) :=
  (pe_callB hc hg hm hb ha hn hdb he hpl).weak fun _ _ _ q => lift_fn hv q
theorem se_callTy (hc : CallR X (.type T) r) (hv : FnV (gm X) r o) (hg : Gl X x) (hm : X.mg x = none) (hb : bootBuiltins x = some (.type T)) (ha : SA X Z (e :: es) fs) (hn : x ≠ "__name__" := by decide) (hdb : (x == ("__debug__" : Str)) = false := by decide)
    (he : starEach (e :: es) X.env = (false, eval e X.env) :: starEach es X.env := by rfl) (hpl : (backTo pos (starEach es X.env)).any (·.1) = false := by rfl) : SE X Z (.Call (.Name x p) (e :: es) [] pos) (eFn o fs) :=
  (pe_callTy hc hg hm hb ha hn hdb he hpl).weak fun _ _ _ q => lift_fn hv q
theorem rds1 {G : Gm} {H : Hp} {W : Wd} {d : D} {vs : List V} (r : RDs G H W [d] vs) : ∃ v, vs = [v] ∧ RD G H W d v := by
  cases r with
  | cons h t => cases t; exact ⟨_, rfl, h⟩
theorem rds2 {G : Gm} {H : Hp} {W : Wd} {d d' : D} {vs : List V} (r : RDs G H W [d, d'] vs) : ∃ v v', vs = [v, v'] ∧ RD G H W d v ∧ RD G H W d' v' := by
  cases r with
  | cons h t =>
    obtain ⟨v', rfl, h'⟩ := rds1 t
    exact ⟨_, _, rfl, h, h'⟩
theorem bls_read {G : Gm} {H : Hp} {W : Wd} : ∀ {xs : List D} {vs : List V} {ns : List Bool}, RDs G H W xs vs → blsOf xs = some ns → vs = ns.map V.bl
  | _, _, _, .nil, e => by
    simp only [blsOf, Option.some.injEq] at e
    subst e
    rfl
  | _, _, _, .cons h r, e => by
    cases h with
    | bl i =>
      simp only [blsOf, Option.map_eq_some_iff] at e
      obtain ⟨ns, e1, rfl⟩ := e
      rw [bls_read r e1]
      rfl
    | _ => simp [blsOf] at e
def rLenU (K : PySem.W.Frag) : List V → Hp → VK → Prop := fun xs H Q => (∃ p ys, xs = [.ref p] ∧ (SqL K H p ys ∨ SqT K H p ys) ∧ Q (.int ys.length) H) ∨ (∃ z, xs = [.str z] ∧ z.length ≤ sizeLine ∧ Q (.int z.length) H)
theorem cr_lenU : CallR X (.builtin "len") (rLenU X.K) := call_len_seq.or call_len_str
theorem fv_len {G : Gm} : FnV G (rLenU G.K) bLen := by
  intro xs M W H vs Z t Q m rvs po
  unfold bLen at po
  split at po
  · obtain ⟨v, rfl, rv⟩ := rds1 rvs
    cases rv
    split at po
    · rename_i hz
      exact .inr ⟨_, rfl, line_le hz, po.here m _ (.int _)⟩
    · exact po.elim
  · obtain ⟨v, rfl, rv⟩ := rds1 rvs
    split at po
    · rename_i ys ey
      obtain ⟨a, ws, rfl, hq, r⟩ := seq_read m ey rv
      rw [r.length] at po
      exact .inl ⟨a, ws, rfl, hq, po.here m _ (.int _)⟩
    · exact po.elim
  · exact po.elim
theorem fv_tuple {G : Gm} : FnV G (fun xs H Q => ∃ p ys, xs = [.ref p] ∧ ((SqL G.K H p ys ∧ ∀ l, H l = none → Q (.ref l) (upd H l (.tup ys))) ∨ (SqT G.K H p ys ∧ Q (.ref p) H))) bTuple := by
  intro xs M W H vs Z t Q m rvs po
  unfold bTuple at po
  split at po
  · rename_i x
    obtain ⟨v, rfl, rv⟩ := rds1 rvs
    split at po
    · rename_i ys ey
      by_cases ht : ∃ zs, x = .tup zs
      · obtain ⟨zs, rfl⟩ := ht
        cases rv with
        | tup h1 r1 =>
          have ey' : some zs = some ys := ey
          cases ey'
          exact ⟨_, _, rfl, .inr ⟨h1.sq, po.here m _ (.tup h1 r1)⟩⟩
      · obtain ⟨a, ws, rfl, hq, r⟩ := seq_readL m ey (fun zs e => ht ⟨zs, e⟩) rv
        exact ⟨a, ws, rfl, .inl ⟨hq, fun q hq => new_tup m po r hq⟩⟩
    · exact po.elim
  · exact po.elim
theorem fv_all {G : Gm} : FnV G (rAll G.K) bAll := by
  intro xs M W H vs Z t Q m rvs po
  unfold bAll at po
  split at po
  · rename_i x
    obtain ⟨v, rfl, rv⟩ := rds1 rvs
    cases e : lstOf M x with
    | none => rw [e] at po; exact po.elim
    | some ds =>
      rw [e] at po
      obtain ⟨a, ws, rfl, hq, r⟩ := lst_read m e rv
      split at po
      · rename_i bs hb
        rw [bls_read r hb] at hq
        exact ⟨a, bs, rfl, .of hq, po.here m _ (.bl _)⟩
      · exact po.elim
  · exact po.elim
theorem fv_abs {G : Gm} : FnV G (fun xs H Q => ∃ i, xs = [.int i] ∧ Q (.int (if i < 0 then -i else i)) H) bAbs := by
  intro xs M W H vs Z t Q m rvs po
  unfold bAbs at po
  split at po
  · obtain ⟨v, rfl, rv⟩ := rds1 rvs
    cases rv
    exact ⟨_, rfl, po.here m _ (.int _)⟩
  · exact po.elim
theorem fv_int {G : Gm} : FnV G (fun xs H Q => (∃ i, xs = [.int i] ∧ Q (.int i) H) ∨ ∃ k, xs = [.bl k] ∧ Q (.int (if k then 1 else 0)) H) bInt := by
  intro xs M W H vs Z t Q m rvs po
  unfold bInt at po
  split at po
  · obtain ⟨v, rfl, rv⟩ := rds1 rvs
    cases rv
    exact .inl ⟨_, rfl, po.here m _ (.int _)⟩
  · obtain ⟨v, rfl, rv⟩ := rds1 rvs
    cases rv
    exact .inr ⟨_, rfl, po.here m _ (.int _)⟩
  · exact po.elim
theorem fv_divmod {G : Gm} : FnV G (fun xs H Q => ∃ i j, xs = [.int i, .int j] ∧ CDivP i j ∧ ∀ p, H p = none → Q (.ref p) (upd H p (.tup [.int (i / j), .int (i % j)]))) bDivmod := by
  intro xs M W H vs Z t Q m rvs po
  unfold bDivmod at po
  split at po
  · obtain ⟨v, v', rfl, rv, rv'⟩ := rds2 rvs
    cases rv; cases rv'
    split at po
    · rename_i i j hc
      refine ⟨_, _, rfl, ⟨hc.1, ?_⟩, fun q hq => new_tup m po (.cons (.int _) (.cons (.int _) .nil)) hq⟩
      show (decide ((if j == 0 then 0 else j.natAbs.log2 / 30 + 1) > 300) && decide ((if i == 0 then 0 else i.natAbs.log2 / 30 + 1) > (if j == 0 then 0 else j.natAbs.log2 / 30 + 1) + 150)) = false
      have h2 := hc.2
      have h1 : ¬ ((if j == 0 then 0 else j.natAbs.log2 / 30 + 1) > 300) := by
        split
        · omega
        · omega
      rw [decide_eq_false h1, Bool.false_and]
    · exact po.elim
  · exact po.elim
theorem se_len (hg : Gl X "len") (hm : X.mg "len" = none) (ha : SA X Z [a] fs) (he : starEach [a] X.env = (false, eval a X.env) :: starEach [] X.env := by rfl) : SE X Z (.Call (.Name "len" p) [a] [] pos) (eFn bLen fs) := se_callB cr_lenU fv_len hg hm PySem.boot_len ha (by decide) (by decide) he rfl
theorem se_tuple (hg : Gl X "tuple") (hm : X.mg "tuple" = none) (ha : SA X Z [a] fs) (he : starEach [a] X.env = (false, eval a X.env) :: starEach [] X.env := by rfl) : SE X Z (.Call (.Name "tuple" p) [a] [] pos) (eFn bTuple fs) := se_callTy call_tuple_of fv_tuple hg hm boot_tuple ha (by decide) (by decide) he rfl
theorem se_all (hc : X.calm = true) (hg : Gl X "all") (hm : X.mg "all" = none) (ha : SA X Z [a] fs) (he : starEach [a] X.env = (false, eval a X.env) :: starEach [] X.env := by rfl) : SE X Z (.Call (.Name "all" p) [a] [] pos) (eFn bAll fs) := se_callB (cr_all hc) fv_all hg hm boot_all ha (by decide) (by decide) he rfl
theorem se_abs (hg : Gl X "abs") (hm : X.mg "abs" = none) (ha : SA X Z [a] fs) (he : starEach [a] X.env = (false, eval a X.env) :: starEach [] X.env := by rfl) : SE X Z (.Call (.Name "abs" p) [a] [] pos) (eFn bAbs fs) := se_callB call_abs fv_abs hg hm boot_abs ha (by decide) (by decide) he rfl
theorem se_bint (hg : Gl X "int") (hm : X.mg "int" = none) (ha : SA X Z [a] fs) (he : starEach [a] X.env = (false, eval a X.env) :: starEach [] X.env := by rfl) : SE X Z (.Call (.Name "int" p) [a] [] pos) (eFn bInt fs) := se_callTy call_int1 fv_int hg hm boot_int ha (by decide) (by decide) he rfl
theorem se_divmod (hg : Gl X "divmod") (hm : X.mg "divmod" = none) (ha : SA X Z [a, b] fs) (he : starEach [a, b] X.env = (false, eval a X.env) :: starEach [b] X.env := by rfl) (hpl : (backTo pos (starEach [b] X.env)).any (·.1) = false := by rfl) : SE X Z (.Call (.Name "divmod" p) [a, b] [] pos) (eFn bDivmod fs) := se_callB call_divmodW fv_divmod hg hm boot_divmod ha (by decide) (by decide) he hpl
theorem sn_list (hg : Gl X "list") (hm : X.mg "list" = none) (ha : SA X Z [a] fs) (he : starEach [a] X.env = (false, eval a X.env) :: starEach [] X.env := by rfl) : SN X Z (.Call (.Name "list" p) [a] [] pos) (nListOf fs) := by
  refine (pe_callTy call_list_of hg hm boot_list ha (by decide) (by decide) he rfl).weak fun σ H Q ⟨W, s, M, m, sr, po⟩ => ?_
  refine ⟨W, s, M, m, sr, (PostN.bind m po).imp fun ds M1 W1 H1 x1 m1 p1 vs rvs => ?_⟩
  split at p1
  · obtain ⟨v, rfl, rv⟩ := rds1 rvs
    split at p1
    · rename_i ys ey
      obtain ⟨a1, ws, rfl, hq, r⟩ := seq_read m1 ey rv
      exact ⟨a1, ws, rfl, hq, fun q hq' => new_n (.refl _ _) m1 m1 p1 r hq'⟩
    · exact p1.elim
  · exact p1.elim
def tyNames : List String := ["NoneType", "bool", "int", "str", "tuple", "list", "dict"]
def clNames : List String := ["bool", "int", "str", "tuple", "list", "dict"]
theorem kit_all : ∀ t ∈ tyNames, ∀ c ∈ clNames, kitB t c = some (isTy t c) := by decide +kernel
theorem ty_read {G : Gm} {H : Hp} {W : Wd} {M : Mem} {x : D} {v : V} {t : String} (m : MR G H W M) (e : tyOf M x = some t) (rv : RD G H W x v) : TyX G.K H v (.type t) ∧ t ∈ tyNames := by
  cases rv with
  | non => cases e; exact ⟨.base .non, by decide⟩
  | bl b => cases e; exact ⟨.base (.bl b), by decide⟩
  | int b => cases e; exact ⟨.base (.int b), by decide⟩
  | str b => cases e; exact ⟨.base (.str b), by decide⟩
  | tup h r =>
    cases e
    refine ⟨?_, by decide⟩
    rcases h with ⟨h | ⟨o, h⟩, _⟩ | ⟨o, _, _, h, hc, _⟩
    · exact .base (.tup h)
    · exact .fTuple h
    · exact .kTuple h hc
  | lst h r => cases e; exact ⟨.base (.lst h.1), by decide⟩
  | scr h =>
    cases e
    refine ⟨?_, by decide⟩
    rcases h with ⟨h | ⟨o, h⟩, _⟩ | ⟨o, _, _, h, hc, _⟩
    · exact .base (.lst h)
    · exact .base (.frz h)
    · exact .kList h hc
  | dct h _ _ _ =>
    cases e
    exact ⟨.fDict h, by decide⟩
  | dtt h _ _ _ => cases e
  | exn _ _ _ _ _ _ => cases e
  | key _ _ => cases e
  | clo _ _ _ _ _ => cases e
  | ref q =>
    rename_i h
    have e' : (match M[h]? with | some (.lst _) => some "list" | some (.dct _ _) => some "dict" | _ => none) = some t := e
    cases c : M[h]? with
    | none => rw [c] at e'; cases e'
    | some k =>
      rw [c] at e'
      cases k with
      | lst ds =>
        cases e'
        obtain ⟨vs, h1, h2, _⟩ := m.cell h _ c
        exact ⟨.base (.lst h1), by decide⟩
      | dct ks ds =>
        cases e'
        obtain ⟨vs, h1, h2, _⟩ := m.cell h _ c
        exact ⟨.base (.dK h1), by decide⟩
      | _ => cases e'
theorem kitAny_of {K : PySem.W.Frag} {t : String} (ht : t ∈ tyNames) : ∀ cs : List String, (∀ c ∈ cs, c ∈ clNames) → PySem.W.kitAny K (.type t) (cs.map Value.type) = some (cs.any (isTy t))
  | [], _ => rfl
  | c :: cs, h => by
    have hk := kit_ty (K := K) (kit_all t ht c (h c List.mem_cons_self))
    have ih := kitAny_of (K := K) ht cs fun d hd => h d (List.mem_cons_of_mem _ hd)
    rw [List.map_cons, List.any_cons]
    refine kitAny_cons hk (fun e => ?_) (fun e => ?_)
    · rw [e, Bool.false_or]; exact ih
    · rw [e, Bool.true_or]
theorem se_isi {T : Str} {cl : String} {p2 : Pos} (hg : Gl X "isinstance") (hm : X.mg "isinstance" = none) (gT : Gl X T) (mT : X.mg T = none) (bT : bootBuiltins T = some (.type cl)) (hcl : cl ∈ clNames) (ha : SE X Z a f) (hnT : T ≠ "__name__" := by decide) (hdT : (T == ("__debug__" : Str)) = false := by decide)
    (he : starEach [a, .Name T p2] X.env = (false, eval a X.env) :: starEach [.Name T p2] X.env := by rfl) (hpl : (backTo pos (starEach [.Name T p2] X.env)).any (·.1) = false := by rfl) (he2 : starEach [.Name T p2] X.env = (false, eval (.Name T p2) X.env) :: starEach [] X.env := by rfl) :
    SE X Z (.Call (.Name "isinstance" p) [a, .Name T p2] [] pos) (eUn (oIsi [cl]) f) := by
  have q := pe_callB (p := p) (pos := pos) (call_isi (X := X)) hg hm boot_isinstance (pa_cons (es := [.Name T p2]) ha (pa_cons (pe_bltn (v := .ty cl) gT mT bT rfl hnT hdT) pa_nil he2) he) (by decide) (by decide) he hpl
  refine q.weak fun σ H Q ⟨W, s, M, m, sr, po⟩ => ?_
  refine ⟨W, s, M, m, sr, (Post.bind po).imp fun x M1 W1 H1 x1 m1 p1 v rv => ?_⟩
  unfold oIsi at p1
  split at p1
  · rename_i t et
    obtain ⟨ty, ht⟩ := ty_read m1 et rv
    refine ⟨v, .ty cl, .type t, .type cl, isTy t cl, rfl, .ty cl, ty, kit_ty (kit_all t ht cl hcl), ?_⟩
    have e : ([cl].any (isTy t)) = isTy t cl := by simp
    rw [e] at p1
    exact p1.here m1 _ (.bl _)
  · exact p1.elim
theorem se_isi2 {T U : Str} {cl cu : String} {p2 p3 p4 : Pos} {k : Nat} (hg : Gl X "isinstance") (hm : X.mg "isinstance" = none) (gT : Gl X T) (mT : X.mg T = none) (bT : bootBuiltins T = some (.type cl)) (hcl : cl ∈ clNames) (gU : Gl X U) (mU : X.mg U = none) (bU : bootBuiltins U = some (.type cu)) (hcu : cu ∈ clNames) (ha : SE X Z a f)
    (hnT : T ≠ "__name__" := by decide) (hdT : (T == ("__debug__" : Str)) = false := by decide) (hnU : U ≠ "__name__" := by decide) (hdU : (U == ("__debug__" : Str)) = false := by decide)
    (he : starEach [a, .Tuple [.Name T p2, .Name U p3] k p4] X.env = (false, eval a X.env) :: starEach [.Tuple [.Name T p2, .Name U p3] k p4] X.env := by rfl) (hpl : (backTo pos (starEach [.Tuple [.Name T p2, .Name U p3] k p4] X.env)).any (·.1) = false := by rfl) (he2 : starEach [.Tuple [.Name T p2, .Name U p3] k p4] X.env = (false, eval (.Tuple [.Name T p2, .Name U p3] k p4) X.env) :: starEach [] X.env := by rfl)
    (he3 : starEach [.Name T p2, .Name U p3] X.env = (false, eval (.Name T p2) X.env) :: starEach [.Name U p3] X.env := by rfl) (he4 : starEach [.Name U p3] X.env = (false, eval (.Name U p3) X.env) :: starEach [] X.env := by rfl) :
    SE X Z (.Call (.Name "isinstance" p) [a, .Tuple [.Name T p2, .Name U p3] k p4] [] pos) (eUn (oIsi [cl, cu]) f) := by
  have q := pe_callB (p := p) (pos := pos) (call_isiT (X := X)) hg hm boot_isinstance (pa_cons (es := [.Tuple [.Name T p2, .Name U p3] k p4]) ha (pa_cons (pe_tup (pa_cons (pe_bltn (v := .ty cl) gT mT bT rfl hnT hdT) (pa_cons (pe_bltn (v := .ty cu) gU mU bU rfl hnU hdU) pa_nil he4) he3)) pa_nil he2) he) (by decide) (by decide) he hpl
  refine q.weak fun σ H Q ⟨W, s, M, m, sr, po⟩ => ?_
  refine ⟨W, s, M, m, sr, (Post.bind po).imp fun x M1 W1 H1 x1 m1 p1 v rv => ?_⟩
  unfold oIsi at p1
  split at p1
  · rename_i t et
    refine ⟨by show 2 ≤ sizeLine; decide, fun q hq => ?_⟩
    obtain ⟨ty, ht⟩ := ty_read (m1.new (o := .tup [.ty cl, .ty cu]) hq) et (rv.mono (m1.xnew hq).toLe)
    refine ⟨v, q, [.ty cl, .ty cu], .type t, [.type cl, .type cu], _, rfl, upd_same, .cons (.ty cl) (.cons (.ty cu) .nil), ty, kitAny_of ht [cl, cu] (fun c hc => ?_), ?_⟩
    · rcases List.mem_cons.mp hc with rfl | hc
      · exact hcl
      · rw [List.mem_singleton.mp hc]; exact hcu
    · exact p1 W1 _ (m1.xnew hq) (m1.new hq) _ (.bl _)
  · exact p1.elim
end
end LW
namespace LW
open PySem PySem.Spec PyProof.Rows L2
/-- an iterator over a list or a tuple -/
def SIt (tp : Bool) (h : Heap) (it a : Addr) (k : Nat) : Prop := if tp = true then h.IsTupleIter it a k else h.IsListIter it a k
def SOb (tp : Bool) (h : Heap) (a : Addr) (xs : Array Value) : Prop := if tp = true then h.IsTuple a xs else h.IsList a xs
section
variable {tp : Bool} {h h' : Heap} {it a : Addr} {k : Nat} {xs : Array Value}
theorem SIt.at (st : SIt tp h it a k) (e : ∀ o, h.get? it = some o → h'.get? it = some o) : SIt tp h' it a k := by
  cases tp with
  | true => exact Heap.IsTupleIter.at (show h.IsTupleIter it a k from st) e
  | false => exact Heap.IsListIter.at (show h.IsListIter it a k from st) e
theorem SOb.at (st : SOb tp h a xs) (e : ∀ o, h.get? a = some o → h'.get? a = some o) : SOb tp h' a xs := by
  cases tp with
  | true => exact Heap.IsTuple.at (show h.IsTuple a xs from st) e
  | false => exact Heap.IsList.at (show h.IsList a xs from st) e
theorem SIt.obj (st : SIt tp h it a k) : ∃ o, h.get? it = some o ∧ ∀ v, o.data ≠ .cell v := by
  cases tp with
  | true => obtain ⟨o, e, c, d⟩ := (show h.IsTupleIter it a k from st); exact ⟨o, e, fun v z => by rw [d] at z; cases z⟩
  | false => obtain ⟨o, e, c, d⟩ := (show h.IsListIter it a k from st); exact ⟨o, e, fun v z => by rw [d] at z; cases z⟩
theorem SIt.lt (st : SIt tp h it a k) : it < h.objs.size := let ⟨_, e, _⟩ := st.obj; Heap.lt_size e
theorem SOb.lt (st : SOb tp h a xs) : a < h.objs.size := by
  cases tp with
  | true => obtain ⟨o, e, _⟩ := (show h.IsTuple a xs from st); exact Heap.lt_size e
  | false => obtain ⟨o, e, _⟩ := (show h.IsList a xs from st); exact Heap.lt_size e
end
section
variable {prog : Program} {w : World} {A : Around} {E : Value → Shared → Prop} {s : Shared} {tp : Bool} {it a : Addr} {k : Nat} {xs : Array Value} {x : Value}
theorem nextOf_item {Q : Value → Shared → Prop} (hit : SIt tp s.heap it a k) (hl : SOb tp s.heap a xs) (hx : xs[k]? = some x)
    (hQ : ∀ h', SIt tp h' it a (k + 1) → Heap.SameBut it s.heap h' → Q x { s with heap := h' }) : wpAny (model prog w) A (Builtin.SmallTypes.nextOf (.ref it)) Q E s := by
  cases tp with
  | true => exact RZ.nextOf_tuple_item (show s.heap.IsTupleIter it a k from hit) (show s.heap.IsTuple a xs from hl) hx hQ
  | false => exact wpAny_nextOf_list_item (show s.heap.IsListIter it a k from hit) (show s.heap.IsList a xs from hl) hx hQ
theorem nextOf_end {Q : Value → Shared → Prop} (hh : A.handled = none) (hit : SIt tp s.heap it a k) (hl : SOb tp s.heap a xs) (hx : xs[k]? = none)
    (hE : ∀ h' e, Heap.ExtBut it s.heap h' → (∃ o, h'.get? e = some o ∧ o.cls = .type "StopIteration") → E (.ref e) { s with heap := h' }) : wpAny (model prog w) A (Builtin.SmallTypes.nextOf (.ref it)) Q E s := by
  cases tp with
  | true => exact RZ.nextOf_tuple_end hh (show s.heap.IsTupleIter it a k from hit) (show s.heap.IsTuple a xs from hl) hx hE
  | false => exact wpAny_nextOf_list_end hh (show s.heap.IsListIter it a k from hit) (show s.heap.IsList a xs from hl) hx hE
theorem nextOrEnd_item {Q : Option Value → Shared → Prop} (hit : SIt tp s.heap it a k) (hl : SOb tp s.heap a xs) (hx : xs[k]? = some x)
    (hQ : ∀ h', SIt tp h' it a (k + 1) → Heap.SameBut it s.heap h' → Q (some x) { s with heap := h' }) : wpAny (model prog w) A (Builtin.SmallTypes.nextOrEnd (.ref it)) Q E s := by
  unfold Builtin.SmallTypes.nextOrEnd
  exact wpAny_bind (wpAny_attempt (nextOf_item hit hl hx fun h' a1 a2 => wpAny_pure (hQ h' a1 a2)))
theorem nextOrEnd_end {Q : Option Value → Shared → Prop} (hh : A.handled = none) (hit : SIt tp s.heap it a k) (hl : SOb tp s.heap a xs) (hx : xs[k]? = none)
    (hQ : ∀ h', Heap.ExtBut it s.heap h' → Q none { s with heap := h' }) : wpAny (model prog w) A (Builtin.SmallTypes.nextOrEnd (.ref it)) Q E s := by
  unfold Builtin.SmallTypes.nextOrEnd
  refine wpAny_bind (wpAny_attempt (nextOf_end hh hit hl hx fun h' e eb he => ?_))
  obtain ⟨o, ho, hc⟩ := he
  refine wpAny_bind (wpAny_isInstance (T := "StopIteration") (b := true) ⟨o, ho, hc⟩ isSubtype_stop ?_)
  exact wpAny_pure (hQ _ eb)
/-- a zip, strict or not -/
abbrev IsZ (h : Heap) (z TI TO : Addr) (st : Bool) (f0 : Value) : Prop :=
  h.get? z = some { cls := .type "zip", dict := none, data := .fields #[f0, .bool false, .bool st, .ref TI, .ref TO], slots := #[] }
abbrev IsTupV (h : Heap) (T : Addr) (vs : List Value) : Prop := h.get? T = some { cls := .type "tuple", data := .seq vs.toArray }
variable {z TI TO i1 i2 a1 a2 : Addr} {t1 t2 st : Bool} {xs1 xs2 : Array Value} {u v p q : Value}
theorem zdraw_item {Q : Option Value → Shared → Prop} (hit : SIt tp s.heap it a k) (hl : SOb tp s.heap a xs) (hx : xs[k]? = some x)
    (hQ : ∀ h', SIt tp h' it a (k + 1) → Heap.SameBut it s.heap h' → Q (some x) { s with heap := h' }) : wpAny (model prog w) A (if st = true then Builtin.SmallTypes.nextOrEnd (.ref it) else do return some (← Builtin.SmallTypes.nextOf (.ref it))) Q E s := by
  cases st with
  | true => exact nextOrEnd_item hit hl hx hQ
  | false => exact wpAny_bind (nextOf_item hit hl hx fun h' b1 b2 => wpAny_pure (hQ h' b1 b2))
theorem upd_tupv {T : Addr} {vs : List Value} {x : Value} {k : Nat} {Q : Unit → Shared → Prop} (hT : IsTupV s.heap T vs) (hv : vs.length ≤ 100)
    (h : ∀ h', IsTupV h' T (vs.set k x) → Heap.SameBut T s.heap h' → Q () { s with heap := h' }) : wpAny (model prog w) A (updateSeq T (·.setIfInBounds k x)) Q E s := by
  refine wpAny_updateSeq hT rfl (h _ ?_ (Heap.SameBut.update ..)) (line_le (by rw [List.size_toArray]; omega)) (Nat.le_succ_of_le (line_le (by simp; omega)))
  show Heap.get? _ T = _
  rw [Heap.get?_update_self _ hT rfl]
  simp [Obj.mapSeq]
/-- StopIteration is raised -/
theorem stop_raise {α : Type} {Q : α → Shared → Prop} (hh : A.handled = none) (hE : ∀ h' e, (∀ b o, s.heap.get? b = some o → h'.get? b = some o) → (∃ o, h'.get? e = some o ∧ o.cls = .type "StopIteration") → E (.ref e) { s with heap := h' }) :
    wpAny (model prog w) A (Builtin.SmallTypes.stopIteration (α := α)) Q E s := by
  unfold Builtin.SmallTypes.stopIteration
  show wpAny _ _ (newExc (.type "StopIteration") [] >>= _) _ _ _
  refine wpAny_bind ?_
  simp only [newExc, newTuple]
  refine wpAny_bind (wpAny_newObj_type ?_ (by size_fits))
  refine wpAny_bind (m := firstArgMember _ _) (wpAny_of_eq (a := Value.none) (by first | rfl | (simp only [firstArgMember]; rfl)) ?_)
  refine wpAny_newObj_type ?_ (by size_fits)
  simp only [raiseNew]
  refine wpAny_bind (wpAny_handled ?_)
  first | rw [show A.in1.handled = none from hh] | rw [hh]
  refine wpAny_bind (wpAny_pure (wpAny_throw ?_))
  exact hE _ _ (fun b o e => Heap.get?_push_of_some _ (Heap.get?_push_of_some _ e)) ⟨_, Heap.get?_push_size _ rfl, rfl⟩
end
structure Apart2 (z TI TO i1 i2 a1 a2 : Addr) : Prop where
  TI_z : TI ≠ z
  TO_z : TO ≠ z
  TI_TO : TI ≠ TO
  i1_z : i1 ≠ z
  TI_i1 : TI ≠ i1
  TO_i1 : TO ≠ i1
  i2_z : i2 ≠ z
  TI_i2 : TI ≠ i2
  TO_i2 : TO ≠ i2
  i1_i2 : i1 ≠ i2
  a1_z : a1 ≠ z
  a1_TO : a1 ≠ TO
  a1_i1 : a1 ≠ i1
  a1_i2 : a1 ≠ i2
  a2_z : a2 ≠ z
  a2_TO : a2 ≠ TO
  a2_i1 : a2 ≠ i1
  a2_i2 : a2 ≠ i2
section
variable {prog : Program} {w : World} {A : Around} {E : Value → Shared → Prop} {s : Shared} {k : Nat} {st : Bool} {z TI TO i1 i2 a1 a2 : Addr} {t1 t2 : Bool} {xs1 xs2 : Array Value} {u1 u2 p1 p2 : Value}
theorem zip2_item {Q : Value → Shared → Prop} (D : Apart2 z TI TO i1 i2 a1 a2) (hz : IsZ s.heap z TI TO st .none) (hTI : IsTupV s.heap TI [.ref i1, .ref i2]) (hTO : IsTupV s.heap TO [p1, p2]) (h1 : SIt t1 s.heap i1 a1 k) (h2 : SIt t2 s.heap i2 a2 k) (l1 : SOb t1 s.heap a1 xs1) (l2 : SOb t2 s.heap a2 xs2) (x1 : xs1[k]? = some u1) (x2 : xs2[k]? = some u2)
    (hQ : ∀ h', IsZ h' z TI TO st (rawInt s.heap.objs.size) → IsTupV h' TO [u1, u2] → SIt t1 h' i1 a1 (k + 1) → SIt t2 h' i2 a2 (k + 1) → IsTupV h' s.heap.objs.size [u1, u2] → h'.objs.size = s.heap.objs.size + 1 →
      (∀ c o, c ≠ z → c ≠ TO → c ≠ i1 → c ≠ i2 → s.heap.get? c = some o → h'.get? c = some o) → Q (.ref s.heap.objs.size) { s with heap := h' }) :
    wpAny (model prog w) A (Builtin.«zip.__next__» ⟨[.ref z], []⟩) (fun fin s' => ∃ v, fin = .done (.ret v) ∧ Q v s') E s := by
  show wpAny _ _ (field (.ref z) 2 >>= _) _ _ _
  refine wpAny_bind (wpAny_field hz rfl (x := .bool st) rfl ?_)
  show wpAny _ _ (field (.ref z) 3 >>= _) _ _ _
  refine wpAny_bind (wpAny_field hz rfl (x := .ref TI) rfl ?_)
  refine wpAny_bind (wpAny_seqItems hTI rfl ?_)
  show wpAny _ _ (Builtin.SmallTypes.ownedTupleIsFree (.ref z) >>= _) _ _ _
  refine wpAny_bind ?_
  unfold Builtin.SmallTypes.ownedTupleIsFree
  refine wpAny_bind (wpAny_field hz rfl (x := .none) rfl (wpAny_pure ?_))
  simp only [if_true]
  refine wpAny_bind (wpAny_rule ?_)
  refine wpAny_bind (wpAny_field hz rfl (x := .ref TO) rfl ?_)
  refine wpAny_bind (wpAny_setField_rec hz (by simp) fun h_0 hz_0 hs_0 => ?_)
  replace hz_0 : IsZ h_0 z TI TO st .ellipsis := hz_0
  have e_0 : ∀ c o, c ≠ z → s.heap.get? c = some o → h_0.get? c = some o := fun c o c1 e => hs_0.extBut _ _ c1 e
  have sz_0 : h_0.objs.size = s.heap.objs.size := hs_0.1
  have TO_0 : IsTupV h_0 TO [p1, p2] := e_0 _ _ D.TO_z hTO
  refine wpAny_bind ?_
  simp only [List.zipIdx_cons, List.zipIdx_nil, List.forIn_cons, List.forIn_nil]
  refine wpAny_bind (wpAny_bind (wpAny_onRaise ?_))
  refine zdraw_item (st := (Value.bool st == Value.bool true)) (h1.at fun o e => e_0 _ o D.i1_z e) (l1.at fun o e => e_0 _ o D.a1_z e) x1 fun g_1 it_1 gs_1 => ?_
  have gT_1 : IsTupV g_1 TO [p1, p2] := gs_1.extBut _ _ D.TO_i1 TO_0
  refine wpAny_bind (wpAny_seqItems gT_1 rfl ?_)
  refine wpAny_bind (upd_tupv gT_1 (by simp) fun h_1 TO_1 hs_1 => ?_)
  replace TO_1 : IsTupV h_1 TO [u1, p2] := TO_1
  have e_1 : ∀ c o, c ≠ z → c ≠ TO → c ≠ i1 → s.heap.get? c = some o → h_1.get? c = some o := fun c o c1 c2 d1 e => hs_1.extBut _ _ c2 (gs_1.extBut _ _ d1 (e_0 c o c1  e))
  have sz_1 : h_1.objs.size = s.heap.objs.size := by rw [hs_1.1, gs_1.1, sz_0]
  have hz_1 : IsZ h_1 z TI TO st .ellipsis := hs_1.extBut _ _ D.TO_z.symm (gs_1.extBut _ _ D.i1_z.symm hz_0)
  have it_1_1 : SIt t1 h_1 i1 a1 (k + 1) := it_1.at fun o e => hs_1.extBut _ _ D.TO_i1.symm e
  refine wpAny_bind (wpAny_letGo (wpAny_pure ?_))
  refine wpAny_bind (wpAny_bind (wpAny_onRaise ?_))
  refine zdraw_item (st := (Value.bool st == Value.bool true)) (h2.at fun o e => e_1 _ o D.i2_z D.TO_i2.symm D.i1_i2.symm e) (l2.at fun o e => e_1 _ o D.a2_z D.a2_TO D.a2_i1 e) x2 fun g_2 it_2 gs_2 => ?_
  have gT_2 : IsTupV g_2 TO [u1, p2] := gs_2.extBut _ _ D.TO_i2 TO_1
  refine wpAny_bind (wpAny_seqItems gT_2 rfl ?_)
  refine wpAny_bind (upd_tupv gT_2 (by simp) fun h_2 TO_2 hs_2 => ?_)
  replace TO_2 : IsTupV h_2 TO [u1, u2] := TO_2
  have e_2 : ∀ c o, c ≠ z → c ≠ TO → c ≠ i1 → c ≠ i2 → s.heap.get? c = some o → h_2.get? c = some o := fun c o c1 c2 d1 d2 e => hs_2.extBut _ _ c2 (gs_2.extBut _ _ d2 (e_1 c o c1 c2 d1 e))
  have sz_2 : h_2.objs.size = s.heap.objs.size := by rw [hs_2.1, gs_2.1, sz_1]
  have hz_2 : IsZ h_2 z TI TO st .ellipsis := hs_2.extBut _ _ D.TO_z.symm (gs_2.extBut _ _ D.i2_z.symm hz_1)
  have it_1_2 : SIt t1 h_2 i1 a1 (k + 1) := it_1_1.at fun o e => hs_2.extBut _ _ D.TO_i1.symm (gs_2.extBut _ _ D.i1_i2 e)
  have it_2_2 : SIt t2 h_2 i2 a2 (k + 1) := it_2.at fun o e => hs_2.extBut _ _ D.TO_i2.symm e
  refine wpAny_bind (wpAny_letGo (wpAny_pure (wpAny_pure ?_)))
  refine wpAny_bind (wpAny_seqItems TO_2 rfl ?_)
  refine wpAny_bind (wpAny_newTuple ?_)
  have zlt : z < h_2.objs.size := Heap.lt_size hz_2
  show wpAny _ _ (Builtin.SmallTypes.ownedTupleHandOut (.ref z) (.ref h_2.objs.size) >>= _) _ _ _
  refine wpAny_bind ?_
  unfold Builtin.SmallTypes.ownedTupleHandOut
  have hz6 : IsZ (h_2.push { cls := .type "tuple", data := .seq #[u1, u2] }) z TI TO st .ellipsis := Heap.get?_push_of_some _ hz_2
  refine wpAny_bind (wpAny_setField_rec hz6 (by simp) fun h7 hz7 hs7 => ?_)
  replace hz7 : IsZ h7 z TI TO st (rawInt h_2.objs.size) := hz7
  refine wpAny_setField_rec hz7 (by simp) fun h8 hz8 hs8 => ?_
  replace hz8 : IsZ h8 z TI TO st (rawInt h_2.objs.size) := hz8
  have up : ∀ c o, c ≠ z → h_2.get? c = some o → h8.get? c = some o := fun c o c1 e => hs8.extBut _ _ c1 (hs7.extBut _ _ c1 (Heap.get?_push_of_some _ e))
  have hT8 : IsTupV h8 h_2.objs.size [u1, u2] := hs8.extBut _ _ (Nat.ne_of_gt zlt) (hs7.extBut _ _ (Nat.ne_of_gt zlt) (Heap.get?_push_size _ rfl))
  have sz8 : h8.objs.size = h_2.objs.size + 1 := by rw [hs8.1, hs7.1, Heap.size_push]
  rw [sz_2] at hz8 hT8 sz8
  refine wpAny_pure ⟨_, rfl, ?_⟩
  show Q (.ref h_2.objs.size) _
  rw [sz_2]
  exact hQ h8 hz8 (up _ _ D.TO_z TO_2) (it_1_2.at fun o e => up _ o D.i1_z e) (it_2_2.at fun o e => up _ o D.i2_z e) hT8 sz8 fun c o c1 c2 d1 d2 e => up c o c1 (e_2 c o c1 c2 d1 d2 e)
theorem zip2_end {Q : Fin → Shared → Prop} (hh : A.handled = none) (D : Apart2 z TI TO i1 i2 a1 a2) (hz : IsZ s.heap z TI TO st .none) (hTI : IsTupV s.heap TI [.ref i1, .ref i2]) (hTO : IsTupV s.heap TO [p1, p2]) (h1 : SIt t1 s.heap i1 a1 k) (h2 : SIt t2 s.heap i2 a2 k) (l1 : SOb t1 s.heap a1 xs1) (l2 : SOb t2 s.heap a2 xs2) (hend : (xs1[k]? = none ∧ xs2[k]? = none) ∨ (st = false ∧ (xs1[k]? = none ∨ xs2[k]? = none)))
    (hE : ∀ h' e, (∀ c o, c ≠ z → c ≠ TO → c ≠ i1 → c ≠ i2 → s.heap.get? c = some o → h'.get? c = some o) → (∃ o, h'.get? e = some o ∧ o.cls = .type "StopIteration") → E (.ref e) { s with heap := h' }) :
    wpAny (model prog w) A (Builtin.«zip.__next__» ⟨[.ref z], []⟩) Q E s := by
  show wpAny _ _ (field (.ref z) 2 >>= _) _ _ _
  refine wpAny_bind (wpAny_field hz rfl (x := .bool st) rfl ?_)
  show wpAny _ _ (field (.ref z) 3 >>= _) _ _ _
  refine wpAny_bind (wpAny_field hz rfl (x := .ref TI) rfl ?_)
  refine wpAny_bind (wpAny_seqItems hTI rfl ?_)
  show wpAny _ _ (Builtin.SmallTypes.ownedTupleIsFree (.ref z) >>= _) _ _ _
  refine wpAny_bind ?_
  unfold Builtin.SmallTypes.ownedTupleIsFree
  refine wpAny_bind (wpAny_field hz rfl (x := .none) rfl (wpAny_pure ?_))
  simp only [if_true]
  refine wpAny_bind (wpAny_rule ?_)
  refine wpAny_bind (wpAny_field hz rfl (x := .ref TO) rfl ?_)
  refine wpAny_bind (wpAny_setField_rec hz (by simp) fun h_0 hz_0 hs_0 => ?_)
  replace hz_0 : IsZ h_0 z TI TO st .ellipsis := hz_0
  have e_0 : ∀ c o, c ≠ z → s.heap.get? c = some o → h_0.get? c = some o := fun c o c1 e => hs_0.extBut _ _ c1 e
  have sz_0 : h_0.objs.size = s.heap.objs.size := hs_0.1
  have TO_0 : IsTupV h_0 TO [p1, p2] := e_0 _ _ D.TO_z hTO
  refine wpAny_bind ?_
  simp only [List.zipIdx_cons, List.zipIdx_nil, List.forIn_cons, List.forIn_nil]
  cases st with
  | true =>
    have hall : xs1[k]? = none ∧ xs2[k]? = none := hend.elim id fun z => Bool.noConfusion z.1
    obtain ⟨n1, n2⟩ := hall
    refine wpAny_bind (wpAny_bind (wpAny_onRaise ?_))
    refine nextOrEnd_end hh (h1.at fun o e => e_0 _ o D.i1_z e) (l1.at fun o e => e_0 _ o D.a1_z e) n1 fun g_1 gs_1 => ?_
    have gz_1 : IsZ g_1 z TI TO true .ellipsis := gs_1 _ _ D.i1_z.symm hz_0
    refine wpAny_bind (wpAny_setField_rec gz_1 (by simp) fun q_1 qz_1 qs_1 => ?_)
    refine wpAny_bind ?_
    show wpAny _ _ (forIn [(Value.ref i2, 1)] _ _ >>= _) _ _ _
    simp only [List.forIn_cons, List.forIn_nil]
    have f_1 : ∀ c o, c ≠ z → c ≠ i1 → s.heap.get? c = some o → q_1.get? c = some o := fun c o c1 d1 e => qs_1.extBut _ _ c1 (gs_1 _ _ d1 (e_0 c o c1 e))
    refine wpAny_bind (wpAny_bind (wpAny_bind ?_))
    refine nextOrEnd_end hh (h2.at fun o e => f_1 _ o D.i2_z D.i1_i2.symm e) (l2.at fun o e => f_1 _ o D.a2_z D.a2_i1 e) n2 fun q_2 qs_2 => ?_
    simp only [Option.isSome_none, Bool.false_eq_true, if_false]
    refine wpAny_pure ?_
    have f_2 : ∀ c o, c ≠ z → c ≠ i1 → c ≠ i2 → s.heap.get? c = some o → q_2.get? c = some o := fun c o c1 d1 d2 e => qs_2 _ _ d2 (f_1 c o c1 d1 e)
    refine wpAny_pure ?_
    refine wpAny_bind (wpAny_rule ?_)
    exact stop_raise hh fun h' e hk he => hE h' e (fun c o c1 c2 d1 d2 x => hk c o (f_2 c o c1 d1 d2 x)) he
  | false =>
    have hsome : xs1[k]? = none ∨ xs2[k]? = none := hend.elim (fun z => .inl z.1) fun z => z.2
    refine wpAny_bind (wpAny_bind (wpAny_onRaise ?_))
    show wpAny _ _ (Builtin.SmallTypes.nextOf (.ref i1) >>= _) _ _ _
    cases x1 : xs1[k]? with
    | none =>
      refine wpAny_bind (nextOf_end hh (h1.at fun o e => e_0 _ o D.i1_z e) (l1.at fun o e => e_0 _ o D.a1_z e) x1 fun g_1 e gs_1 he => ?_)
      obtain ⟨oe, hoe, hce⟩ := he
      have hzg : IsZ g_1 z TI TO false .ellipsis := gs_1 _ _ D.i1_z.symm hz_0
      have hez : e ≠ z := fun x => by subst x; rw [hzg] at hoe; cases hoe; simp at hce
      exact wpAny_setField_rec hzg (by simp) fun h3 _ hs3 => hE h3 e (fun c o c1 c2 d1 d2 x => hs3.extBut _ _ c1 (gs_1 _ _ d1 (e_0 c o c1  x))) ⟨oe, hs3.extBut _ _ hez hoe, hce⟩
    | some u1 =>
      refine wpAny_bind (nextOf_item (h1.at fun o e => e_0 _ o D.i1_z e) (l1.at fun o e => e_0 _ o D.a1_z e) x1 fun g_1 it_1 gs_1 => wpAny_pure ?_)
      have gT_1 : IsTupV g_1 TO [p1, p2] := gs_1.extBut _ _ D.TO_i1 TO_0
      refine wpAny_bind (wpAny_seqItems gT_1 rfl ?_)
      refine wpAny_bind (upd_tupv gT_1 (by simp) fun h_1 TO_1 hs_1 => ?_)
      replace TO_1 : IsTupV h_1 TO [u1, p2] := TO_1
      have e_1 : ∀ c o, c ≠ z → c ≠ TO → c ≠ i1 → s.heap.get? c = some o → h_1.get? c = some o := fun c o c1 c2 d1 e => hs_1.extBut _ _ c2 (gs_1.extBut _ _ d1 (e_0 c o c1  e))
      have sz_1 : h_1.objs.size = s.heap.objs.size := by rw [hs_1.1, gs_1.1, sz_0]
      have hz_1 : IsZ h_1 z TI TO false .ellipsis := hs_1.extBut _ _ D.TO_z.symm (gs_1.extBut _ _ D.i1_z.symm hz_0)
      have it_1_1 : SIt t1 h_1 i1 a1 (k + 1) := it_1.at fun o e => hs_1.extBut _ _ D.TO_i1.symm e
      refine wpAny_bind (wpAny_letGo (wpAny_pure ?_))
      refine wpAny_bind (wpAny_bind (wpAny_onRaise ?_))
      show wpAny _ _ (Builtin.SmallTypes.nextOf (.ref i2) >>= _) _ _ _
      cases x2 : xs2[k]? with
      | none =>
        refine wpAny_bind (nextOf_end hh (h2.at fun o e => e_1 _ o D.i2_z D.TO_i2.symm D.i1_i2.symm e) (l2.at fun o e => e_1 _ o D.a2_z D.a2_TO D.a2_i1 e) x2 fun g_2 e gs_2 he => ?_)
        obtain ⟨oe, hoe, hce⟩ := he
        have hzg : IsZ g_2 z TI TO false .ellipsis := gs_2 _ _ D.i2_z.symm hz_1
        have hez : e ≠ z := fun x => by subst x; rw [hzg] at hoe; cases hoe; simp at hce
        exact wpAny_setField_rec hzg (by simp) fun h3 _ hs3 => hE h3 e (fun c o c1 c2 d1 d2 x => hs3.extBut _ _ c1 (gs_2 _ _ d2 (e_1 c o c1 c2 d1 x))) ⟨oe, hs3.extBut _ _ hez hoe, hce⟩
      | some u2 =>
        simp only [x1, x2, reduceCtorEq, or_self] at hsome
theorem zip2_next {Q : Option Value → Shared → Prop} (D : Apart2 z TI TO i1 i2 a1 a2) (hz : IsZ s.heap z TI TO st .none) (hTI : IsTupV s.heap TI [.ref i1, .ref i2]) (hTO : IsTupV s.heap TO [p1, p2]) (h1 : SIt t1 s.heap i1 a1 k) (h2 : SIt t2 s.heap i2 a2 k) (l1 : SOb t1 s.heap a1 xs1) (l2 : SOb t2 s.heap a2 xs2) (x1 : xs1[k]? = some u1) (x2 : xs2[k]? = some u2)
    (hQ : ∀ h', IsZ h' z TI TO st (rawInt s.heap.objs.size) → IsTupV h' TO [u1, u2] → SIt t1 h' i1 a1 (k + 1) → SIt t2 h' i2 a2 (k + 1) → IsTupV h' s.heap.objs.size [u1, u2] → h'.objs.size = s.heap.objs.size + 1 →
      (∀ c o, c ≠ z → c ≠ TO → c ≠ i1 → c ≠ i2 → s.heap.get? c = some o → h'.get? c = some o) → Q (some (.ref s.heap.objs.size)) { s with heap := h' }) : wpAny (model prog w) A (pyNext (.ref z)) Q E s := by
  have hT : s.TypeIs (.ref z) "zip" := ⟨_, hz, rfl⟩
  unfold pyNext
  exact wpAny_bind (wpAny_attempt (wpAny_callSpecial?_slot (name := Str.ofString "__next__") hT F.slot_zip_next
    (wpAny_call_entry F.slot_zip_next hT F.entry_zip_next
      (zip2_item D hz hTI hTO h1 h2 l1 l2 x1 x2 fun h' b1 b2 c1 c2 b3 b4 b5 => wpAny_pure (hQ h' b1 b2 c1 c2 b3 b4 b5)) (F.args_zip_next_1 _))))
theorem zip2_stop {Q : Option Value → Shared → Prop} (hh : A.handled = none) (D : Apart2 z TI TO i1 i2 a1 a2) (hz : IsZ s.heap z TI TO st .none) (hTI : IsTupV s.heap TI [.ref i1, .ref i2]) (hTO : IsTupV s.heap TO [p1, p2]) (h1 : SIt t1 s.heap i1 a1 k) (h2 : SIt t2 s.heap i2 a2 k) (l1 : SOb t1 s.heap a1 xs1) (l2 : SOb t2 s.heap a2 xs2) (hend : (xs1[k]? = none ∧ xs2[k]? = none) ∨ (st = false ∧ (xs1[k]? = none ∨ xs2[k]? = none)))
    (hQ : ∀ h', (∀ c o, c ≠ z → c ≠ TO → c ≠ i1 → c ≠ i2 → s.heap.get? c = some o → h'.get? c = some o) → Q none { s with heap := h' }) : wpAny (model prog w) A (pyNext (.ref z)) Q E s := by
  have hT : s.TypeIs (.ref z) "zip" := ⟨_, hz, rfl⟩
  unfold pyNext
  refine wpAny_bind (wpAny_attempt (wpAny_callSpecial?_slot (name := Str.ofString "__next__") hT F.slot_zip_next
    (wpAny_call_entry F.slot_zip_next hT F.entry_zip_next (zip2_end hh D hz hTI hTO h1 h2 l1 l2 hend fun h' e hk he => ?_) (F.args_zip_next_1 _))))
  obtain ⟨o, ho, hc⟩ := he
  refine wpAny_bind (wpAny_isInstance (T := "StopIteration") (b := true) ⟨o, ho, hc⟩ isSubtype_stop ?_)
  exact wpAny_pure (hQ _ hk)
end
structure Apart3 (z TI TO i1 i2 i3 a1 a2 a3 : Addr) : Prop where
  TI_z : TI ≠ z
  TO_z : TO ≠ z
  TI_TO : TI ≠ TO
  i1_z : i1 ≠ z
  TI_i1 : TI ≠ i1
  TO_i1 : TO ≠ i1
  i2_z : i2 ≠ z
  TI_i2 : TI ≠ i2
  TO_i2 : TO ≠ i2
  i3_z : i3 ≠ z
  TI_i3 : TI ≠ i3
  TO_i3 : TO ≠ i3
  i1_i2 : i1 ≠ i2
  i1_i3 : i1 ≠ i3
  i2_i3 : i2 ≠ i3
  a1_z : a1 ≠ z
  a1_TO : a1 ≠ TO
  a1_i1 : a1 ≠ i1
  a1_i2 : a1 ≠ i2
  a1_i3 : a1 ≠ i3
  a2_z : a2 ≠ z
  a2_TO : a2 ≠ TO
  a2_i1 : a2 ≠ i1
  a2_i2 : a2 ≠ i2
  a2_i3 : a2 ≠ i3
  a3_z : a3 ≠ z
  a3_TO : a3 ≠ TO
  a3_i1 : a3 ≠ i1
  a3_i2 : a3 ≠ i2
  a3_i3 : a3 ≠ i3
section
variable {prog : Program} {w : World} {A : Around} {E : Value → Shared → Prop} {s : Shared} {k : Nat} {st : Bool} {z TI TO i1 i2 i3 a1 a2 a3 : Addr} {t1 t2 t3 : Bool} {xs1 xs2 xs3 : Array Value} {u1 u2 u3 p1 p2 p3 : Value}
end
end LW
namespace LW
open PySem PySem.Spec PyProof.Rows L2
section
variable {prog : Program} {w : World} {A : Around} {E : Value → Shared → Prop} {s : Shared}
theorem callType_meetsK {T newId initId : String} {Bn Bi : Builtin} {args : List Value} {kw : List (Str × Value)} {S : PySem.Spec} {Q Q₁ : Value → Shared → Prop} (ft : TypeCalled T newId initId)
    (hct : checkTypeCall T ⟨args, kw⟩ = pure ()) (hcn : checkBuiltinCall newId ⟨.type T :: args, kw⟩ = pure ())
    (entryN : entryFor table newId = some Bn) (entryI : entryFor table initId = some Bi) (g : Meets (Bn ⟨.type T :: args, kw⟩) S)
    (h : S A.in1 (wants Q₁ E) s)
    (hnext : ∀ obj s₁, Q₁ obj s₁ → s₁.TypeIs obj T ∧ argsOk initId ⟨obj :: args, kw⟩ ∧ ∃ Si, Meets (Bi ⟨obj :: args, kw⟩) Si ∧ Si A.in1 (wants (fun r s₂ => r = .none ∧ Q obj s₂) E) s₁) :
    wpAny (model prog w) A (call (.type T) args kw) Q E s := by
  obtain ⟨c, tl, hmro⟩ := ft.mro
  have hmade := ft.made
  have hsub := ft.sub
  refine wpAny_call (codeAny_of_tree ?_)
  show wpAny _ _ (callAny (.type T) _) _ _ _
  refine wpAny_pure ⟨Code.quiet_builtin _ (by decide +kernel), codeAny_builtin F.entry_type_call ?_⟩
  rw [Around.under_plain (weight_type_call_type T args kw) (units_type_call_type T args kw)]
  have h1 := ft.notType
  have h2 := ft.canCreate
  repeat (any_goals (first | assumption | wp_step))
  refine codeAny_mono (codeAny_call_builtin ft.plain entryN (wpAny_of_eq hcn (g prog w A.in1 _ s h))) fun r s₁ hr => ?_
  cases r with
  | error e => exact hr
  | ok fl =>
    cases fl with
    | ret obj =>
      obtain ⟨hT, hok, Si, gi, hsi⟩ := hnext _ _ hr
      have hli := ft.init.lookup
      have hbi := ft.init.bind obj
      repeat (any_goals (first | assumption | wp_step))
      refine codeAny_mono (codeAny_call_builtin ft.init.plain entryI (ft.init.check _ _ _ _ _ _ _ _ hT hok (gi prog w A.in1 _ s₁ hsi))) fun r₂ s₂ hr₂ => ?_
      cases r₂ with
      | error e => exact hr₂
      | ok fl₂ =>
        cases fl₂ with
        | ret r =>
          obtain ⟨rfl, hq⟩ := hr₂
          repeat (any_goals (first | assumption | wp_step))
        | _ => exact hr₂.elim
    | _ => exact hr.elim
theorem object_init_meetsK {T newId : String} {self : Value} {rest : List Value} {kw : List (Str × Value)} (hl : typeLookup (.type T) "__init__" = pure (some (.builtin "object.__init__")))
    (hm : Bind.madeBy (.type T) = pure (some newId)) (hne : (some newId != some "object.__new__") = true) :
    Meets (Builtin.«object.__init__» ⟨self :: rest, kw⟩) (fun _ R s => s.TypeIs self T ∧ R (.ok (.ret .none)) s) := by
  refine Meets.of_wp fun prog w A R s hs => ?_
  obtain ⟨hT, hq⟩ := hs
  cases rest with
  | nil =>
    cases kw with
    | nil => exact wpAny_pure ⟨_, rfl, hq⟩
    | cons a kw =>
      repeat (any_goals (first | assumption | wp_step))
      exact ⟨_, rfl, hq⟩
  | cons a rest =>
    repeat (any_goals (first | assumption | wp_step))
    exact ⟨_, rfl, hq⟩
theorem callType_newK {T newId : String} {Bn : Builtin} {args : List Value} {kw : List (Str × Value)} {S : PySem.Spec} {Q : Value → Shared → Prop} (ft : TypeCalled T newId "object.__init__")
    (hne : (some newId != some "object.__new__") = true) (hct : checkTypeCall T ⟨args, kw⟩ = pure ()) (hcn : checkBuiltinCall newId ⟨.type T :: args, kw⟩ = pure ())
    (hok : ∀ obj, argsOk "object.__init__" ⟨obj :: args, kw⟩) (entryN : entryFor table newId = some Bn) (g : Meets (Bn ⟨.type T :: args, kw⟩) S)
    (h : S A.in1 (wants (fun obj s₁ => s₁.TypeIs obj T ∧ Q obj s₁) E) s) : wpAny (model prog w) A (call (.type T) args kw) Q E s :=
  callType_meetsK ft hct hcn entryN F.entry_object_init g h fun obj _ hq =>
    ⟨hq.1, hok obj, _, object_init_meetsK ft.init.lookup ft.made hne, hq.1, rfl, hq.2⟩
theorem callWith_typeK0 {pos : Pos} {T : String} {first : List Value} {args : List (Bool × Sem Value)} {keywords : List (Option Str × Sem Value)} {Q : Value → Shared → Prop} {M : Model}
    (hplain : args.any (·.1) = false) (hkw : keywords.any (·.1.isNone) = false)
    (h : wpAny M A (evalArgs (.type T) true args keywords) (fun a s₁ => wpAny M A (call (.type T) (first ++ a.pos) a.kw) Q E s₁) E s) :
    wpAny M A (callWith pos (.type T) first args keywords) Q E s := by
  unfold callWith
  refine wpAny_bind (wpAny_holding (wpAny_mono h (fun a s₁ h₁ => wpAny_bind (wpAny_standAt ?_)) fun _ _ x => x))
  simp only [hplain, hkw, Bool.or_false]
  refine wpAny_bind (wpAny_pure ?_)
  exact wpAny_bind (wpAny_mono h₁ (fun r s₂ hr => wpAny_bind (wpAny_holding (wpAny_point (wpAny_pure hr)))) fun _ _ x => x)
theorem callWith_typeK {pos : Pos} {T : String} {e : Expr} {rest : List Expr} {kws : List Keyword} {env : Env} {Q : Value → Shared → Prop} {M : Model}
    (h : wpAny M A (spliced (backTo pos (starEach (e :: rest) env))) (fun vs s₁ => wpAny M A (evalAll ((backToKw pos (keywordEach kws env)).map (·.2)))
      (fun kvs s₂ => wpAny M A (call (.type T) vs (((backToKw pos (keywordEach kws env)).filterMap (·.1)).zip kvs)) Q E s₂) E s₁) E s)
    (he : backTo pos (starEach (e :: rest) env) = (false, eval e env) :: backTo pos (starEach rest env) := by rfl)
    (hplain : (backTo pos (starEach (e :: rest) env)).any (·.1) = false := by rfl)
    (hall : (backToKw pos (keywordEach kws env)).all (·.1.isSome) = true := by rfl)
    (hkw : (backToKw pos (keywordEach kws env)).any (·.1.isNone) = false := by rfl) :
    wpAny M A (callWith pos (.type T) [] (backTo pos (starEach (e :: rest) env)) (backToKw pos (keywordEach kws env))) Q E s := by
  refine callWith_typeK0 hplain hkw ?_
  rw [he] at h ⊢
  exact evalArgs_kwB hall h
/-- zip(..., strict=st) or zip(..) -/
def zkw (st : Bool) : List (Str × Value) := if st = true then [("strict", .bool true)] else []
theorem pyIter_seq {tp : Bool} {a : Addr} {xs : Array Value} {Q : Value → Shared → Prop} (ho : SOb tp s.heap a xs)
    (h : Q (.ref s.heap.objs.size) { s with heap := s.heap.push { cls := .type (if tp = true then "tuple_iterator" else "list_iterator"), data := .fields #[.ref a, .int 0 0] } }) : wpAny (model prog w) A (pyIter (.ref a)) Q E s := by
  cases tp with
  | true => exact wpAny_pyIter_tuple (show s.heap.IsTuple a xs from ho) h
  | false => exact wpAny_pyIter_list (show s.heap.IsList a xs from ho) h
end
abbrev itO (tp : Bool) (a : Addr) : Obj := { cls := .type (if tp = true then "tuple_iterator" else "list_iterator"), data := .fields #[.ref a, .int 0 0] }
theorem sit_new {tp : Bool} {h : Heap} {it a : Addr} (g : h.get? it = some (itO tp a)) : SIt tp h it a 0 := by
  cases tp with
  | true => exact ⟨_, g, rfl, rfl⟩
  | false => exact ⟨_, g, rfl, rfl⟩
def zTail (iterables : List Value) (strict : Bool) : Sem PySem.Fin := do
  let its ← Builtin.SmallTypes.iterAll iterables
  let a ← newTuple its
  let b ← newTuple (its.map fun _ => .none)
  let c ← Builtin.SmallTypes.newRecord (.type "zip") (Builtin.SmallTypes.ownedTupleFields ++ [.bool strict, a, b])
  ret c
/-- a list or a tuple to be read -/
def Sq (tp : Bool) (K : PySem.W.Frag) (H : Hp) (a : Addr) (xs : List V) : Prop := if tp = true then SqT K H a xs else SqL K H a xs
section
variable {X : Cx} {pins : List (Addr × Obj)} {σ : L2.St} {H : Hp} {s : Shared}
theorem _root_.L2.Inv.sq {tp : Bool} {a : Addr} {xs : List V} (I : Inv X pins σ H s) (h : Sq tp X.K H a xs) : ∃ its : List Value, Vals xs its ∧ SOb tp s.heap a its.toArray := by
  cases tp with
  | true => obtain ⟨its, r, p, _⟩ := I.tuple (show SqT X.K H a xs from h); exact ⟨its, r, p⟩
  | false => obtain ⟨its, r, p, _⟩ := I.list (show SqL X.K H a xs from h); exact ⟨its, r, p.isList⟩
theorem _root_.L2.Inv.sq_inj {tp : Bool} {a : Addr} {xs ys : List V} (I : Inv X pins σ H s) (h : Sq tp X.K H a xs) (h' : Sq tp X.K H a ys) : xs = ys := by
  cases tp with
  | true => exact I.tuple_inj (show SqT X.K H a xs from h) h'
  | false => exact I.list_inj (show SqL X.K H a xs from h) h'
theorem vals_refs : ∀ (as : List Addr) {us : List Value}, Vals (as.map V.ref) us → us = as.map Value.ref
  | [], _, .nil => rfl
  | a :: as, _, .cons r t => by
    cases r
    rw [vals_refs as t]
    rfl
end
section
variable {prog : Program} {w : World} {A : Around} {E : Value → Shared → Prop} {s : Shared} {z TI TO : Addr} {st : Bool} {f0 : Value}
theorem go_zip {elts : List Expr} {x1} {pos : Pos} {T : Addr} {Q : Unit → Shared → Prop} (hz : IsZ s.heap z TI TO st (rawInt T))
    (hQ : ∀ h', IsZ h' z TI TO st .none → Heap.SameBut z s.heap h' → Q () { s with heap := h' }) :
    wpAny (model prog w) A (letOwnedTupleGo (.Tuple elts x1 pos) (.ref z) (.ref T)) Q E s := by
  unfold letOwnedTupleGo
  refine wpAny_bind (wpAny_load hz ?_)
  show wpAny _ _ (if (["enumerate", "zip", "dict_itemiterator", "dict_reverseitemiterator", "odict_iterator", "itertools.zip_longest", "itertools.pairwise"].contains "zip" &&
      (#[rawInt T, .bool false, .bool st, .ref TI, .ref TO] : Array Value)[0]? == some (rawInt T)) = true then _ else _) Q E s
  rw [if_pos (by simp)]
  refine wpAny_bind (wpAny_rule ?_)
  show wpAny _ _ (setField (.ref z) 0 .none) Q E s
  exact wpAny_setField_rec hz (by simp) fun h' hz' hs' => hQ h' hz' hs'
theorem iter_zip {Q : Value → Shared → Prop} (hz : IsZ s.heap z TI TO st f0) (h : Q (.ref z) s) : wpAny (model prog w) A (pyIter (.ref z)) Q E s := by
  have hT : s.TypeIs (.ref z) "zip" := ⟨_, hz, rfl⟩
  refine wpAny_pyIter_slot hT F.slot_zip_iter (wpAny_call_entry F.slot_zip_iter hT F.entry_zip_iter ?_ (F.args_zip_iter_1 _))
  show wpAny _ _ (ret (.ref z)) _ _ s
  exact wpAny_pure ⟨_, rfl, "zip", _, hT, F.slot_zip_next.lookup, h⟩
end
theorem typeCall_zip_2s (st : Bool) (a b : Value) : checkTypeCall "zip" ⟨[a, b], zkw st⟩ = pure () := by cases st <;> kernel_rfl
theorem newCall_zip_2s (st : Bool) (a b : Value) : checkBuiltinCall "zip.__new__" ⟨[.type "zip", a, b], zkw st⟩ = pure () := by cases st <;> kernel_rfl
theorem init_zip_2s (st : Bool) (a b c : Value) : argsOk "object.__init__" ⟨[a, b, c], zkw st⟩ := by
  cases st <;> (unfold argsOk; rw [signature?_of (id := "object.__init__") (n := ['_', '_', 't', 'i', 'n', 'i', '_', '_']) (o := ['t', 'c', 'e', 'j', 'b', 'o']) (by kernel_rfl) F.owner_object]; kernel_rfl)
section
variable (a1 a2 : Addr) (t1 t2 st : Bool) (xs1 xs2 : Array Value)
abbrev z2H1 (h : Heap) : Heap := h.push (itO t1 a1)
abbrev z2H2 (h : Heap) : Heap := (z2H1 a1 t1 h).push (itO t2 a2)
abbrev z2HI (h : Heap) : Heap := (z2H2 a1 a2 t1 t2 h).push { cls := .type "tuple", data := .seq #[.ref h.objs.size, .ref (z2H1 a1 t1 h).objs.size] }
abbrev z2HO (h : Heap) : Heap := (z2HI a1 a2 t1 t2 h).push { cls := .type "tuple", data := .seq #[.none, .none] }
abbrev z2HZ (h : Heap) : Heap := (z2HO a1 a2 t1 t2 h).push { cls := .type "zip", data := .fields #[.none, .bool false, .bool st, .ref (z2H2 a1 a2 t1 t2 h).objs.size, .ref (z2HI a1 a2 t1 t2 h).objs.size] }
theorem zTail2 {prog : Program} {w : World} {A : Around} {E : Value → Shared → Prop} {s : Shared} {Q : PySem.Fin → Shared → Prop} (hl1 : SOb t1 s.heap a1 xs1) (hl2 : SOb t2 s.heap a2 xs2)
    (h : Q (.done (.ret (.ref (z2HO a1 a2 t1 t2 s.heap).objs.size))) { s with heap := z2HZ a1 a2 t1 t2 st s.heap }) : wpAny (model prog w) A (zTail [.ref a1, .ref a2] st) Q E s := by
  obtain ⟨hp, g, d, tk, os⟩ := s
  have hL1 : SOb t1 (Shared.heap ⟨hp, g, d, tk, os⟩) a1 xs1 := hl1.at fun o e => e
  have hL2 : SOb t2 (Shared.heap ⟨(hp).push (itO t1 a1), g, d, tk, os⟩) a2 xs2 := hl2.at fun o e => Heap.get?_push_of_some _ e
  unfold zTail
  wp_walk using pyIter_seq hL1, pyIter_seq hL2
  exact h
theorem meets_zip2 : Meets (Builtin.«zip.__new__» ⟨[.type "zip", .ref a1, .ref a2], zkw st⟩) (fun _ R s => SOb t1 s.heap a1 xs1 ∧ SOb t2 s.heap a2 xs2 ∧
      R (.ok (.ret (.ref (z2HO a1 a2 t1 t2 s.heap).objs.size))) { s with heap := z2HZ a1 a2 t1 t2 st s.heap }) :=
  .of_wp fun prog w A R s h => by
    obtain ⟨hl1, hl2, h⟩ := h
    have hsub := sub_zip
    unfold Builtin.«zip.__new__»
    refine wpAny_bind (wpAny_mono (Q := fun r s' => r = (Value.type "zip", [Value.ref a1, Value.ref a2]) ∧ s' = s) ?_ (fun r s' hr => ?_) fun _ _ z => z)
    · unfold Builtin.SmallTypes.newClass
      wp_walk
      exact ⟨rfl, rfl⟩
    · obtain ⟨rfl, rfl⟩ := hr
      cases st
      · show wpAny _ _ (zTail [.ref a1, .ref a2] false) _ _ _
        exact zTail2 a1 a2 t1 t2 false xs1 xs2 hl1 hl2 ⟨_, rfl, h⟩
      · have c1 : ¬ ([(("strict" : Str), Value.bool true)].length > 1) := by simp
        have c2 : ¬ ((("strict" : Str) != Str.ofString "strict") = true) := by decide
        show wpAny _ _ (if ([(("strict" : Str), Value.bool true)].length > 1) then _ else _) _ _ _
        rw [if_neg c1]
        show wpAny _ _ (if ((("strict" : Str) != Str.ofString "strict") = true) then _ else _) _ _ _
        rw [if_neg c2]
        refine wpAny_bind (wpAny_truthy_bool ?_)
        show wpAny _ _ (zTail [.ref a1, .ref a2] true) _ _ _
        exact zTail2 a1 a2 t1 t2 true xs1 xs2 hl1 hl2 ⟨_, rfl, h⟩
end
section
variable {prog : Program} {w : World} {A : Around} {E : Value → Shared → Prop} {s : Shared} {a1 a2 : Addr} {t1 t2 st : Bool} {xs1 xs2 : Array Value}
theorem call_zip2 {Q : Value → Shared → Prop} (hl1 : SOb t1 s.heap a1 xs1) (hl2 : SOb t2 s.heap a2 xs2)
    (h : ∀ h', IsZ h' (s.heap.objs.size + 4) (s.heap.objs.size + 2) (s.heap.objs.size + 3) st .none → IsTupV h' (s.heap.objs.size + 2) [.ref s.heap.objs.size, .ref (s.heap.objs.size + 1)] → IsTupV h' (s.heap.objs.size + 3) [.none, .none] → SIt t1 h' s.heap.objs.size a1 0 → SIt t2 h' (s.heap.objs.size + 1) a2 0 → h'.objs.size = s.heap.objs.size + 5 →
      (∀ c o, s.heap.get? c = some o → h'.get? c = some o) → Q (.ref (s.heap.objs.size + 4)) { s with heap := h' }) :
    wpAny (model prog w) A (call (.type "zip") [.ref a1, .ref a2] (zkw st)) Q E s := by
  refine callType_newK F.called_zip (by decide) (typeCall_zip_2s _ _ _) (newCall_zip_2s _ _ _) (fun obj => init_zip_2s _ obj _ _) F.entry_zip_new
    (meets_zip2 a1 a2 t1 t2 st xs1 xs2) ⟨hl1, hl2, ?_⟩
  have s1 : (z2H1 a1 t1 s.heap).objs.size = s.heap.objs.size + 1 := by exact Heap.size_push ..
  have s2 : (z2H2 a1 a2 t1 t2 s.heap).objs.size = s.heap.objs.size + 2 := by rw [Heap.size_push, s1]
  have sI : (z2HI a1 a2 t1 t2 s.heap).objs.size = s.heap.objs.size + 3 := by rw [Heap.size_push, s2]
  have sO : (z2HO a1 a2 t1 t2 s.heap).objs.size = s.heap.objs.size + 4 := by rw [Heap.size_push, sI]
  have sZ : (z2HZ a1 a2 t1 t2 st s.heap).objs.size = s.heap.objs.size + 5 := by rw [Heap.size_push, sO]
  have gZ : (z2HZ a1 a2 t1 t2 st s.heap).get? (z2HO a1 a2 t1 t2 s.heap).objs.size = some _ := Heap.get?_push_size _ rfl
  have gO : (z2HZ a1 a2 t1 t2 st s.heap).get? (z2HI a1 a2 t1 t2 s.heap).objs.size = some _ := Heap.get?_push_of_some _ (Heap.get?_push_size _ rfl)
  have gI : (z2HZ a1 a2 t1 t2 st s.heap).get? (z2H2 a1 a2 t1 t2 s.heap).objs.size = some _ := Heap.get?_push_of_some _ (Heap.get?_push_of_some _ (Heap.get?_push_size _ rfl))
  have g1 : (z2HZ a1 a2 t1 t2 st s.heap).get? s.heap.objs.size = some _ := Heap.get?_push_of_some _ (Heap.get?_push_of_some _ (Heap.get?_push_of_some _ (Heap.get?_push_of_some _ (Heap.get?_push_size _ rfl))))
  have g2 : (z2HZ a1 a2 t1 t2 st s.heap).get? (z2H1 a1 t1 s.heap).objs.size = some _ := Heap.get?_push_of_some _ (Heap.get?_push_of_some _ (Heap.get?_push_of_some _ (Heap.get?_push_size _ rfl)))
  show _ ∧ _
  rw [s2, sI, sO] at gZ
  rw [s1, s2] at gI
  rw [sI] at gO
  rw [s1] at g2
  rw [sO]
  exact ⟨⟨_, gZ, rfl⟩, h _ gZ gI gO (sit_new g1) (sit_new g2) sZ fun c o x => Heap.get?_push_of_some _ (Heap.get?_push_of_some _ (Heap.get?_push_of_some _ (Heap.get?_push_of_some _ (Heap.get?_push_of_some _ (x)))))⟩
end
theorem apart2 (n : Nat) (a1 a2 : Addr) (q1 : a1 < n) (q2 : a2 < n) : Apart2 (n + 4) (n + 2) (n + 3) n (n + 1) a1 a2 := by
  constructor <;> (intro e; first | omega | (simp only [Addr] at *; omega))
/-- the sources as they stand at each turn, the items in new tuples -/
def Itz2 (K : PySem.W.Frag) (st t1 t2 : Bool) (a1 a2 : Addr) : It :=
  ⟨fun i H => ∃ (w1 w2 : List V) (x1 x2 : V), Sq t1 K H a1 w1 ∧ Sq t2 K H a2 w2 ∧ w1[i]? = some x1 ∧ w2[i]? = some x2,
    fun i H v H' => ∃ T x1 x2, v = .ref T ∧ H T = none ∧ H' = upd H T (.tup [x1, x2]) ∧ (∀ w, Sq t1 K H a1 w → w[i]? = some x1) ∧ (∀ w, Sq t2 K H a2 w → w[i]? = some x2),
    fun i H => ∃ w1 w2 : List V, Sq t1 K H a1 w1 ∧ Sq t2 K H a2 w2 ∧ ((w1.length ≤ i ∧ w2.length ≤ i) ∨ (st = false ∧ (w1.length ≤ i ∨ w2.length ≤ i)))⟩
theorem turn_zip2s {P : Program} {w : World} {K : PySem.W.Frag} {elts : List Expr} {kk : Nat} {tpos : Pos} {z TI TO i1 i2 a1 a2 : Addr} {st t1 t2 : Bool} (D : Apart2 z TI TO i1 i2 a1 a2) :
    Turn P w K (.Tuple elts kk tpos) (Itz2 K st t1 t2 a1 a2) [z, TI, TO, i1, i2] z (fun i h => IsZ h z TI TO st .none ∧ IsTupV h TI [.ref i1, .ref i2] ∧ (∃ p1 p2, IsTupV h TO [p1, p2]) ∧ SIt t1 h i1 a1 i ∧ SIt t2 h i2 a2 i) where
  mem := by simp
  obj := fun i h s' c hc => by
    obtain ⟨hz, hTI, ⟨p1, p2, hTO⟩, h1, h2⟩ := s'
    have e' : c = z ∨ c = TI ∨ c = TO ∨ c = i1 ∨ c = i2 := by simpa using hc
    rcases e' with q | q | q | q | q
    · rw [q]; exact ⟨_, hz, fun v q => nomatch q⟩
    · rw [q]; exact ⟨_, hTI, fun v q => nomatch q⟩
    · rw [q]; exact ⟨_, hTO, fun v q => nomatch q⟩
    · rw [q]; exact h1.obj
    · rw [q]; exact h2.obj
  keep := fun i h h' s' k => by
    obtain ⟨hz, hTI, ⟨p1, p2, hTO⟩, h1, h2⟩ := s'
    exact ⟨k z (by simp) _ hz, k TI (by simp) _ hTI, ⟨p1, p2, k TO (by simp) _ hTO⟩, h1.at fun o q => k i1 (by simp) o q, h2.at fun o q => k i2 (by simp) o q⟩
  item := by
    intro X hP hw hK hc i pins s σ H E I hf s' hg
    subst hP hw hK
    obtain ⟨hz, hTI, ⟨p1, p2, hTO⟩, h1, h2⟩ := s'
    obtain ⟨w1, w2, x1, x2, q1, q2, y1, y2⟩ := hg
    obtain ⟨b1, rv1, ob1⟩ := I.sq q1
    obtain ⟨u1, hu1, ru1⟩ := rv1.get y1
    obtain ⟨b2, rv2, ob2⟩ := I.sq q2
    obtain ⟨u2, hu2, ru2⟩ := rv2.get y2
    have zl : z < s.heap.objs.size := Heap.lt_size hz
    refine zip2_next D hz hTI hTO h1 h2 ob1 ob2 (by simpa using hu1) (by simpa using hu2) fun h' z' TO' h1' h2' hT hsz hk => ?_
    refine ⟨_, rfl, go_zip (s := { s with heap := h' }) z' fun h'' z'' sb => ?_⟩
    have hT2 : IsTupV h'' s.heap.objs.size [u1, u2] := (sb.2 _ (Nat.ne_of_gt zl)).trans hT
    have new : ObjOk X.prog X.w (upd H s.heap.objs.size (.tup [x1, x2])) h'' s.heap.objs.size (.tup [x1, x2]) :=
      ⟨by show 2 ≤ sizeLine; decide, [u1, u2], .cons ru1 (.cons ru2 .nil), ⟨_, hT2, rfl, _, rfl⟩⟩
    have I1 : Inv X pins σ (upd H s.heap.objs.size (.tup [x1, x2])) { s with heap := h'' } :=
      I.turnedNew (t' := s.toks) (ch := [z, TI, TO, i1, i2]) (fun c o hb q => (sb.2 c (fun q' => hb (by simp [q']))).trans (hk c o (fun q' => hb (by simp [q'])) (fun q' => hb (by simp [q'])) (fun q' => hb (by simp [q'])) (fun q' => hb (by simp [q'])) q)) hf (Nat.le_refl _) new
    refine ⟨.ref s.heap.objs.size, _, I1, rfl, ⟨_, x1, x2, rfl, I.hok.fresh (Nat.le_refl _), rfl, fun l hl => by rw [I.sq_inj hl q1]; exact y1, fun l hl => by rw [I.sq_inj hl q2]; exact y2⟩, ⟨z'', ?_, ⟨u1, u2, ?_⟩, ?_, ?_⟩, fun c hcm => ?_⟩
    · exact (sb.2 _ D.TI_z).trans (hk _ _ D.TI_z D.TI_TO D.TI_i1 D.TI_i2 hTI)
    · exact (sb.2 _ D.TO_z).trans TO'
    · exact h1'.at fun o q => (sb.2 _ D.i1_z).trans q
    · exact h2'.at fun o q => (sb.2 _ D.i2_z).trans q
    · have hlt : c < s.heap.objs.size := by
        have e' : c = z ∨ c = TI ∨ c = TO ∨ c = i1 ∨ c = i2 := by simpa using hcm
        rcases e' with q | q | q | q | q
        · rw [q]; exact zl
        · rw [q]; exact Heap.lt_size hTI
        · rw [q]; exact Heap.lt_size hTO
        · rw [q]; exact h1.lt
        · rw [q]; exact h2.lt
      rw [upd_ne (Nat.ne_of_lt hlt)]
      exact (hf c hcm).1
  done := by
    intro X hP hw hK hc i pins s σ H E I hf s' hg
    subst hP hw hK
    obtain ⟨hz, hTI, ⟨p1, p2, hTO⟩, h1, h2⟩ := s'
    obtain ⟨w1, w2, q1, q2, hend⟩ := hg
    obtain ⟨b1, rv1, ob1⟩ := I.sq q1
    have l1 := rv1.length
    obtain ⟨b2, rv2, ob2⟩ := I.sq q2
    have l2 := rv2.length
    have he : (b1.toArray[i]? = none ∧ b2.toArray[i]? = none) ∨ (st = false ∧ (b1.toArray[i]? = none ∨ b2.toArray[i]? = none)) := by
      rcases hend with q | ⟨q0, q⟩
      · refine .inl ⟨?_, ?_⟩ <;> (simp; omega)
      · refine .inr ⟨q0, ?_⟩
        rcases q with q | q
        · exact .inl (by simp; omega)
        · exact .inr (by simp; omega)
    exact zip2_stop (I.ok.hd hc) D hz hTI hTO h1 h2 ob1 ob2 he fun h' hk => ⟨rfl, I.turnedL (t' := s.toks) (ch := [z, TI, TO, i1, i2]) (fun c o hb q =>
      hk c o (fun q' => hb (by simp [q'])) (fun q' => hb (by simp [q'])) (fun q' => hb (by simp [q'])) (fun q' => hb (by simp [q'])) q) hf⟩
  self := fun A i s Q E s' h => iter_zip s'.1 h
def tiZip2 (K : PySem.W.Frag) (st : Bool) (ta : TA) : TI := fun σ H R => ta σ H fun vs H1 => ∃ (a1 a2 : Addr) (w1 w2 : List V) (t1 t2 : Bool), vs = [.ref a1, .ref a2] ∧ Sq t1 K H1 a1 w1 ∧ Sq t2 K H1 a2 w2 ∧ R (Itz2 K st t1 t2 a1 a2) H1
theorem pi_zip2 {X : Cx} {e1 e2 : Expr} {ta : TA} {p pos tpos : Pos} {elts : List Expr} {kk : Nat} (hg : Gl X "zip") (hm : X.mg "zip" = none) (ha : PA X [e1, e2] ta)
    (hs : starEach [e1, e2] X.env = (false, eval e1 X.env) :: starEach [e2] X.env := by rfl) (hpl : (backTo pos (starEach [e2] X.env)).any (·.1) = false := by rfl) :
    PI X (.Tuple elts kk tpos) (.Call (.Name "zip" p) [e1, e2] [] pos) (tiZip2 X.K false ta) := by
  refine ⟨fun pins s σ H R I h => ?_⟩
  refine Call_ (ld_blt I hg hm PyProof.Rows.boot_zip (PyProof.Rows.callWith_type1 (thn (ha.run pos pins s σ H _ I h) fun us s1 ⟨vs, H1, I1, r1, q1⟩ => ?_) hs hpl))
  obtain ⟨a1, a2, w1, w2, t1, t2, ex, q1, q2, q⟩ := q1
  subst ex
  obtain rfl : us = [.ref a1, .ref a2] := vals_refs [a1, a2] r1
  obtain ⟨b1, rv1, ob1⟩ := I1.sq q1
  obtain ⟨b2, rv2, ob2⟩ := I1.sq q2
  have fr : ∀ c, c ∈ [s1.heap.objs.size + 4, s1.heap.objs.size + 2, s1.heap.objs.size + 3, s1.heap.objs.size, s1.heap.objs.size + 1] → FpOk X pins H1 c := fun c hcm => by
    have hle : s1.heap.objs.size ≤ c := by
      simp only [List.mem_cons, List.not_mem_nil, or_false] at hcm
      rcases hcm with z | z | z | z | z <;> (rw [z]; first | exact Nat.le_refl _ | exact Nat.le_add_right _ _)
    exact I1.fpOk hle (I1.hok.fresh hle)
  refine call_zip2 (st := false) ob1 ob2 fun h' hz hTI hTO h1 h2 hsz hk => iter_zip hz ?_
  have I2 : Inv X pins σ H1 { s1 with heap := h' } := I1.kept (t' := s1.toks) hk
  exact ⟨_, [s1.heap.objs.size + 4, s1.heap.objs.size + 2, s1.heap.objs.size + 3, s1.heap.objs.size, s1.heap.objs.size + 1], _, _, H1, rfl, I2, turn_zip2s (apart2 s1.heap.objs.size a1 a2 ob1.lt ob2.lt), ⟨hz, hTI, ⟨_, _, hTO⟩, h1, h2⟩, fr, q⟩
theorem pi_zip2S {X : Cx} {e1 e2 : Expr} {ta : TA} {p pos tpos kp kq : Pos} {elts : List Expr} {kk kc : Nat} (hg : Gl X "zip") (hm : X.mg "zip" = none) (ha : PA X [e1, e2] ta)
    (he : backTo pos (starEach [e1, e2] X.env) = (false, eval e1 X.env) :: backTo pos (starEach [e2] X.env) := by rfl) (hpl : (backTo pos (starEach [e1, e2] X.env)).any (·.1) = false := by rfl) :
    PI X (.Tuple elts kk tpos) (.Call (.Name "zip" p) [e1, e2] [⟨some "strict", .Constant (.bool true) kc kp, kq⟩] pos) (tiZip2 X.K true ta) := by
  refine ⟨fun pins s σ H R I h => ?_⟩
  refine wpAny_Call_Name_kw (ld_blt I hg hm PyProof.Rows.boot_zip (callWith_typeK (thn (ha.run pos pins s σ H _ I h) fun us s1 ⟨vs, H1, I1, r1, q1⟩ => PyProof.Rows.kws_cons (Constant_bool (PyProof.Rows.kws_nil ?_))) he hpl))
  obtain ⟨a1, a2, w1, w2, t1, t2, ex, q1, q2, q⟩ := q1
  subst ex
  obtain rfl : us = [.ref a1, .ref a2] := vals_refs [a1, a2] r1
  obtain ⟨b1, rv1, ob1⟩ := I1.sq q1
  obtain ⟨b2, rv2, ob2⟩ := I1.sq q2
  have fr : ∀ c, c ∈ [s1.heap.objs.size + 4, s1.heap.objs.size + 2, s1.heap.objs.size + 3, s1.heap.objs.size, s1.heap.objs.size + 1] → FpOk X pins H1 c := fun c hcm => by
    have hle : s1.heap.objs.size ≤ c := by
      simp only [List.mem_cons, List.not_mem_nil, or_false] at hcm
      rcases hcm with z | z | z | z | z <;> (rw [z]; first | exact Nat.le_refl _ | exact Nat.le_add_right _ _)
    exact I1.fpOk hle (I1.hok.fresh hle)
  refine call_zip2 (st := true) ob1 ob2 fun h' hz hTI hTO h1 h2 hsz hk => iter_zip hz ?_
  have I2 : Inv X pins σ H1 { s1 with heap := h' } := I1.kept (t' := s1.toks) hk
  exact ⟨_, [s1.heap.objs.size + 4, s1.heap.objs.size + 2, s1.heap.objs.size + 3, s1.heap.objs.size, s1.heap.objs.size + 1], _, _, H1, rfl, I2, turn_zip2s (apart2 s1.heap.objs.size a1 a2 ob1.lt ob2.lt), ⟨hz, hTI, ⟨_, _, hTO⟩, h1, h2⟩, fr, q⟩
section
variable (a1 a2 a3 : Addr) (t1 t2 t3 st : Bool) (xs1 xs2 xs3 : Array Value)
end
section
variable {prog : Program} {w : World} {A : Around} {E : Value → Shared → Prop} {s : Shared} {a1 a2 a3 : Addr} {t1 t2 t3 st : Bool} {xs1 xs2 xs3 : Array Value}
end
end LW
namespace LW
open PySem PySem.Spec PyProof.Rows L2
section
variable {prog : Program} {w : World} {A : Around} {E : Value → Shared → Prop} {s : Shared} {tp : Bool}
theorem enum_item {e it l : Addr} {k : Nat} {i : Int} {items : Array Value} {x old : Value} {Q : Value → Shared → Prop}
    (he : IsEnum s.heap e it i old) (hit : SIt tp s.heap it l k) (hl : SOb tp s.heap l items) (hx : items[k]? = some x) (hne : e ≠ it)
    (hQ : ∀ h', IsEnumOut h' e it (i + 1) x s.heap.objs.size → SIt tp h' it l (k + 1) →
      h'.get? s.heap.objs.size = some { cls := .type "tuple", data := .seq #[.int i s.toks, x] } → h'.objs.size = s.heap.objs.size + 1 →
      (∀ b o, b ≠ e → b ≠ it → s.heap.get? b = some o → h'.get? b = some o) → Q (.ref s.heap.objs.size) { s with heap := h', toks := s.toks + 1 }) :
    wpAny (model prog w) A (Builtin.«enumerate.__next__» ⟨[.ref e], []⟩) (fun fin s' => ∃ v, fin = .done (.ret v) ∧ Q v s') E s := by
  obtain ⟨hp, g, d, tk, os⟩ := s
  show wpAny _ _ (field (.ref e) 2 >>= _) _ _ _
  refine wpAny_bind (wpAny_field he rfl (x := .ref it) rfl ?_)
  refine wpAny_bind (nextOf_item hit hl hx fun h₁ hit₁ hs₁ => ?_)
  replace hs₁ : Heap.SameBut it hp h₁ := hs₁
  have he₁ : IsEnum h₁ e it i old := (hs₁.2 e hne).trans he
  show wpAny _ _ (field (.ref e) 3 >>= _) _ _ ⟨h₁, g, d, tk, os⟩
  refine wpAny_bind (wpAny_field he₁ rfl (x := rawInt i) rfl ?_)
  show wpAny _ _ (field (.ref e) 4 >>= _) _ _ ⟨h₁, g, d, tk, os⟩
  refine wpAny_bind (wpAny_field he₁ rfl (x := .none) rfl ?_)
  show wpAny _ _ (mkInt i >>= _) _ _ ⟨h₁, g, d, tk, os⟩
  refine wpAny_bind (wpAny_mkInt ?_)
  show wpAny _ _ (setField (.ref e) 3 (rawInt (i + 1)) >>= _) _ _ ⟨h₁, g, d, tk + 1, os⟩
  refine wpAny_bind (wpAny_setField_rec he₁ (by simp) fun h₂ he₂ hs₂ => ?_)
  replace hs₂ : Heap.SameBut e h₁ h₂ := hs₂
  replace he₂ : IsEnum h₂ e it (i + 1) old := he₂
  show wpAny _ _ (setField (.ref e) 4 .none >>= _) _ _ ⟨h₂, g, d, tk + 1, os⟩
  refine wpAny_bind (wpAny_setField_rec he₂ (by simp) fun h₃ he₃ hs₃ => ?_)
  replace hs₃ : Heap.SameBut e h₂ h₃ := hs₃
  replace he₃ : IsEnum h₃ e it (i + 1) old := he₃
  show wpAny _ _ (newTuple [.int i tk, x] >>= _) _ _ ⟨h₃, g, d, tk + 1, os⟩
  refine wpAny_bind (wpAny_newTuple ?_)
  have he₄ : IsEnum (h₃.push { cls := .type "tuple", data := .seq #[.int i tk, x] }) e it (i + 1) old := Heap.get?_push_of_some _ he₃
  generalize hh₄ : h₃.push { cls := .type "tuple", data := .seq #[.int i tk, x] } = h₄ at he₄
  have hsz : h₃.objs.size = hp.objs.size := by rw [hs₃.1, hs₂.1, hs₁.1]
  have hel : e < hp.objs.size := Heap.lt_size he
  have ht₄ : h₄.get? hp.objs.size = some { cls := .type "tuple", data := .seq #[.int i tk, x] } := by rw [← hh₄, ← hsz]; exact Heap.get?_push_size _ rfl
  have hz₄ : h₄.objs.size = hp.objs.size + 1 := by rw [← hh₄, Heap.size_push, hsz]
  have hk₄ : ∀ b o, b ≠ e → b ≠ it → hp.get? b = some o → h₄.get? b = some o := fun b o hbe hbi hb => by
    rw [← hh₄]; exact Heap.get?_push_of_some _ (hs₃.extBut b o hbe (hs₂.extBut b o hbe (hs₁.extBut b o hbi hb)))
  have hit₄ : SIt tp h₄ it l (k + 1) := by
    rw [← hh₄]; exact hit₁.at fun o ho => Heap.get?_push_of_some _ (hs₃.extBut _ _ (Ne.symm hne) (hs₂.extBut _ _ (Ne.symm hne) ho))
  show wpAny _ _ (Builtin.SmallTypes.ownedTupleIsFree (.ref e) >>= _) _ _ ⟨h₄, g, d, tk + 1, os⟩
  rw [hsz]
  clear hh₄ he₃ hs₃ he₂ hs₂ he₁ hs₁ hit₁ hsz h₃ h₂ h₁
  refine wpAny_bind ?_
  · unfold Builtin.SmallTypes.ownedTupleIsFree
    refine wpAny_bind (wpAny_field he₄ rfl (x := .none) rfl (wpAny_pure ?_))
    simp only [if_true]
    refine wpAny_bind (wpAny_rule ?_)
    refine wpAny_bind (wpAny_field he₄ rfl (x := old) rfl ?_)
    refine wpAny_bind (wpAny_setField_rec he₄ (by simp) fun h₅ he₅ hs₅ => ?_)
    replace hs₅ : Heap.SameBut e h₄ h₅ := hs₅
    replace he₅ : IsEnum h₅ e it (i + 1) x := he₅
    show wpAny _ _ (Builtin.SmallTypes.ownedTupleHandOut (.ref e) (.ref hp.objs.size) >>= _) _ _ ⟨h₅, g, d, tk + 1, os⟩
    refine wpAny_bind ?_
    · unfold Builtin.SmallTypes.ownedTupleHandOut
      refine wpAny_bind (wpAny_setField_rec he₅ (by simp) fun h₆ he₆ hs₆ => ?_)
      replace hs₆ : Heap.SameBut e h₅ h₆ := hs₆
      replace he₆ : IsEnumOut h₆ e it (i + 1) x hp.objs.size := he₆
      refine wpAny_setField_rec he₆ (by simp) fun h₇ he₇ hs₇ => ?_
      replace hs₇ : Heap.SameBut e h₆ h₇ := hs₇
      replace he₇ : IsEnumOut h₇ e it (i + 1) x hp.objs.size := he₇
      refine wpAny_bind (wpAny_letGo (wpAny_pure ⟨_, rfl, hQ h₇ he₇ ?_ ?_ ?_ ?_⟩))
      · exact hit₄.at fun o ho => hs₇.extBut _ _ (Ne.symm hne) (hs₆.extBut _ _ (Ne.symm hne) (hs₅.extBut _ _ (Ne.symm hne) ho))
      · exact hs₇.extBut _ _ (Nat.ne_of_gt hel) (hs₆.extBut _ _ (Nat.ne_of_gt hel) (hs₅.extBut _ _ (Nat.ne_of_gt hel) ht₄))
      · rw [hs₇.1, hs₆.1, hs₅.1, hz₄]
      · exact fun b o hbe hbi hb => hs₇.extBut b o hbe (hs₆.extBut b o hbe (hs₅.extBut b o hbe (hk₄ b o hbe hbi hb)))
theorem enum_next {e it l : Addr} {k : Nat} {i : Int} {items : Array Value} {x old : Value} {Q : Option Value → Shared → Prop}
    (he : IsEnum s.heap e it i old) (hit : SIt tp s.heap it l k) (hl : SOb tp s.heap l items) (hx : items[k]? = some x) (hne : e ≠ it)
    (hQ : ∀ h', IsEnumOut h' e it (i + 1) x s.heap.objs.size → SIt tp h' it l (k + 1) →
      h'.get? s.heap.objs.size = some { cls := .type "tuple", data := .seq #[.int i s.toks, x] } → h'.objs.size = s.heap.objs.size + 1 →
      (∀ b o, b ≠ e → b ≠ it → s.heap.get? b = some o → h'.get? b = some o) → Q (some (.ref s.heap.objs.size)) { s with heap := h', toks := s.toks + 1 }) :
    wpAny (model prog w) A (pyNext (.ref e)) Q E s := by
  have hT : s.TypeIs (.ref e) "enumerate" := ⟨_, he, rfl⟩
  unfold pyNext
  exact wpAny_bind (wpAny_attempt (wpAny_callSpecial?_slot (name := Str.ofString "__next__") hT F.slot_enumerate_next
    (wpAny_call_entry F.slot_enumerate_next hT F.entry_enumerate_next
      (enum_item he hit hl hx hne fun h' a b c d k => wpAny_pure (hQ h' a b c d k)) (F.args_enumerate_next_1 _))))
theorem enum_stop {e it l : Addr} {k : Nat} {i : Int} {items : Array Value} {old : Value} {Q : Option Value → Shared → Prop} (hh : A.handled = none)
    (he : IsEnum s.heap e it i old) (hit : SIt tp s.heap it l k) (hl : SOb tp s.heap l items) (hx : items[k]? = none)
    (hQ : ∀ h', Heap.ExtBut it s.heap h' → Q none { s with heap := h' }) : wpAny (model prog w) A (pyNext (.ref e)) Q E s := by
  have hT : s.TypeIs (.ref e) "enumerate" := ⟨_, he, rfl⟩
  unfold pyNext
  refine wpAny_bind (wpAny_attempt (wpAny_callSpecial?_slot (name := Str.ofString "__next__") hT F.slot_enumerate_next
    (wpAny_call_entry F.slot_enumerate_next hT F.entry_enumerate_next ?_ (F.args_enumerate_next_1 _))))
  show wpAny _ _ (field (.ref e) 2 >>= _) _ _ _
  refine wpAny_bind (wpAny_field he rfl (x := .ref it) rfl ?_)
  refine wpAny_bind (nextOf_end hh hit hl hx fun h' x he' hx' => ?_)
  obtain ⟨o, ho, hc⟩ := hx'
  refine wpAny_bind (wpAny_isInstance (T := "StopIteration") (b := true) ⟨o, ho, hc⟩ isSubtype_stop ?_)
  exact wpAny_pure (hQ _ he')
end
theorem meets_enum (l : Addr) (tp : Bool) (items : Array Value) :
    Meets (Builtin.«enumerate.__new__» ⟨[.type "enumerate", .ref l], []⟩) (fun _ R s => SOb tp s.heap l items ∧
      R (.ok (.ret (.ref (s.heap.push (itO tp l)).objs.size)))
        { s with heap := (s.heap.push (itO tp l)).push { cls := .type "enumerate", data := .fields #[.none, .bool false, .ref s.heap.objs.size, rawInt 0, .none, .none] } }) :=
  .of_wp fun prog w A R s h => by
    obtain ⟨hp, g, d, tk, os⟩ := s; obtain ⟨hl, h⟩ := h
    have hsub := sub_enumerate
    have hL : SOb tp (Shared.heap ⟨hp, g, d, tk, os⟩) l items := hl
    wp_walk
    refine wpAny_stack_any fun st => wpAny_pure ?_
    split
    · rename_i c _ _ _ _ _
      cases (c == Value.type "enumerate")
      · wp_walk using pyIter_seq hL
        exact ⟨_, rfl, h⟩
      · wp_walk using pyIter_seq hL
        exact ⟨_, rfl, h⟩
    · wp_walk using pyIter_seq hL
      exact ⟨_, rfl, h⟩
section
variable {prog : Program} {w : World} {A : Around} {E : Value → Shared → Prop} {s : Shared} {tp : Bool}
theorem call_enum {l : Addr} {items : Array Value} {Q : Value → Shared → Prop} (hL : SOb tp s.heap l items)
    (h : ∀ h', IsEnum h' (s.heap.objs.size + 1) s.heap.objs.size 0 .none → SIt tp h' s.heap.objs.size l 0 → h'.objs.size = s.heap.objs.size + 2 →
      (∀ b o, s.heap.get? b = some o → h'.get? b = some o) → Q (.ref (s.heap.objs.size + 1)) { s with heap := h' }) :
    wpAny (model prog w) A (call (.type "enumerate") [.ref l]) Q E s := by
  refine callType_new F.called_enumerate (by decide) (F.typeCall_enumerate_1 _) (F.newCall_enumerate_1 _) (fun obj => F.args_object_init_2 obj _) F.entry_enumerate_new
    (meets_enum l tp items) ⟨hL, ?_⟩
  have hz : (s.heap.push (itO tp l)).objs.size = s.heap.objs.size + 1 := Heap.size_push ..
  show _ ∧ _
  rw [hz]
  have he : IsEnum ((s.heap.push (itO tp l)).push
      { cls := .type "enumerate", data := .fields #[.none, .bool false, .ref s.heap.objs.size, rawInt 0, .none, .none] }) (s.heap.objs.size + 1) s.heap.objs.size 0 .none := by
    have := Heap.get?_push_size (s.heap.push (itO tp l))
      (o := { cls := .type "enumerate", data := .fields #[.none, .bool false, .ref s.heap.objs.size, rawInt 0, .none, .none] }) rfl
    rw [hz] at this; exact this
  refine ⟨⟨_, he, rfl⟩, h _ he (sit_new (Heap.get?_push_of_some _ (Heap.get?_push_size _ rfl))) (by rw [Heap.size_push, hz]) fun b o x => Heap.get?_push_of_some _ (Heap.get?_push_of_some _ x)⟩
end
/-- the list or tuple at a as it stands at each turn, each item in a new pair -/
def Ite2 (K : PySem.W.Frag) (tp : Bool) (a : Addr) : It :=
  ⟨fun i H => ∃ (xs : List V) (x : V), Sq tp K H a xs ∧ xs[i]? = some x, fun i H v H' => ∃ T x, v = .ref T ∧ H T = none ∧ H' = upd H T (.tup [.int (i : Nat), x]) ∧ ∀ xs, Sq tp K H a xs → xs[i]? = some x, fun i H => ∃ xs : List V, Sq tp K H a xs ∧ xs.length ≤ i⟩
theorem turn_enum2 {P : Program} {w : World} {K : PySem.W.Frag} {elts : List Expr} {kk : Nat} {tpos : Pos} {tp : Bool} (a e it : Addr) :
    Turn P w K (.Tuple elts kk tpos) (Ite2 K tp a) [e, it] e (fun i h => (∃ old, IsEnum h e it ((i : Nat) : Int) old) ∧ SIt tp h it a i ∧ e ≠ it) where
  mem := by simp
  obj := fun i h st b hb => by
    obtain ⟨⟨old, he⟩, hi, _⟩ := st
    have e' : b = e ∨ b = it := by simpa using hb
    rcases e' with z | z
    · rw [z]; exact ⟨_, he, fun v q => nomatch q⟩
    · rw [z]; exact hi.obj
  keep := fun i h h' st k => let ⟨⟨old, he⟩, hi, hne⟩ := st; ⟨⟨old, k e (by simp) _ he⟩, hi.at fun o q => k it (by simp) o q, hne⟩
  item := by
    intro X hP hw hK hc i pins s σ H E I hf st hg
    subst hP hw hK
    obtain ⟨⟨old, he⟩, hit, hne⟩ := st
    obtain ⟨xs, x, hq, hx⟩ := hg
    obtain ⟨its, rv, p⟩ := I.sq hq
    obtain ⟨u, hu, ru⟩ := rv.get hx
    have hel : e < s.heap.objs.size := Heap.lt_size he
    have hil : it < s.heap.objs.size := hit.lt
    refine enum_next he hit p (x := u) (by simpa using hu) hne fun h' ho hit' hT hsz hk => ?_
    refine ⟨_, rfl, wpAny_letOwnedTupleGo_enum (s := { s with heap := h', toks := s.toks + 1 }) ho fun h'' he' sb => ?_⟩
    have hT2 : h''.get? s.heap.objs.size = some { cls := .type "tuple", data := .seq #[.int i s.toks, u] } := (sb.2 _ (Nat.ne_of_gt hel)).trans hT
    have new : ObjOk X.prog X.w (upd H s.heap.objs.size (.tup [.int (i : Nat), x])) h'' s.heap.objs.size (.tup [.int (i : Nat), x]) :=
      ⟨by show 2 ≤ sizeLine; decide, [.int i s.toks, u], .cons ⟨_, rfl⟩ (.cons ru .nil), ⟨_, hT2, rfl, _, rfl⟩⟩
    have I1 : Inv X pins σ (upd H s.heap.objs.size (.tup [.int (i : Nat), x])) { s with heap := h'', toks := s.toks + 1 } :=
      I.turnedNew (ch := [e, it]) (fun b ob hb q => (sb.2 b (fun z => hb (by simp [z]))).trans (hk b ob (fun z => hb (by simp [z])) (fun z => hb (by simp [z])) q)) hf (Nat.le_refl _) new
    refine ⟨.ref s.heap.objs.size, _, I1, rfl, ⟨_, x, rfl, I.hok.fresh (Nat.le_refl _), rfl, fun ys hy => by rw [I.sq_inj hy hq]; exact hx⟩, ⟨⟨u, ?_⟩, hit'.at fun o q => (sb.2 it (Ne.symm hne)).trans q, hne⟩, fun b hb => ?_⟩
    · have e1 : ((i + 1 : Nat) : Int) = (i : Int) + 1 := by omega
      rw [e1]; exact he'
    · have hb' : b < s.heap.objs.size := by
        have e' : b = e ∨ b = it := by simpa using hb
        rcases e' with z | z
        · rw [z]; exact hel
        · rw [z]; exact hil
      rw [upd_ne (Nat.ne_of_lt hb')]
      exact (hf b hb).1
  done := by
    intro X hP hw hK hc i pins s σ H E I hf st hg
    subst hP hw hK
    obtain ⟨⟨old, he⟩, hit, hne⟩ := st
    obtain ⟨xs, hq, hx⟩ := hg
    obtain ⟨its, rv, p⟩ := I.sq hq
    obtain ⟨f0, f1, f2, f3, f4, f5⟩ := hf it (by simp)
    have hl := rv.length
    exact enum_stop (I.ok.hd hc) he hit p (by simp; omega) fun h' eb => ⟨rfl, I.turned (t' := s.toks) (fun b o hb q => eb b o hb q) f0 f1 f3 f4 f5⟩
  self := fun A i s Q E st h => let ⟨⟨_, he⟩, _⟩ := st; wpAny_pyIter_enum he h
def iEnum2 (K : PySem.W.Frag) (ta : TA) : TI := fun σ H R => ta σ H fun vs H1 => ∃ (a : Addr) (xs : List V) (tp : Bool), vs = [.ref a] ∧ Sq tp K H1 a xs ∧ R (Ite2 K tp a) H1
theorem pi_enum2 {X : Cx} {e : Expr} {ta : TA} {p pos tpos : Pos} {elts : List Expr} {kk : Nat} (hg : Gl X "enumerate") (hm : X.mg "enumerate" = none) (ha : PA X [e] ta) (hs : starEach [e] X.env = [(false, eval e X.env)] := by rfl) :
    PI X (.Tuple elts kk tpos) (.Call (.Name "enumerate" p) [e] [] pos) (iEnum2 X.K ta) := by
  refine ⟨fun pins s σ H R I h => ?_⟩
  refine Call_ (ld_blt I hg hm boot_enumerate (PyProof.Rows.callWith_type1 (thn (ha.run pos pins s σ H _ I h) fun us s1 ⟨vs, H1, I1, r1, q1⟩ => ?_) hs rfl))
  obtain ⟨a, xs, tp, ex, hq, q⟩ := q1
  subst ex
  cases r1 with
  | cons r rr =>
    cases rr
    cases r
    obtain ⟨its, rv, p'⟩ := I1.sq hq
    refine call_enum p' fun h' he hit hsz hk => wpAny_pyIter_enum he ?_
    have I2 : Inv X pins σ H1 { s1 with heap := h' } := I1.kept (t' := s1.toks) hk
    refine ⟨s1.heap.objs.size + 1, [s1.heap.objs.size + 1, s1.heap.objs.size], _, _, H1, rfl, I2, turn_enum2 a (s1.heap.objs.size + 1) s1.heap.objs.size, ⟨⟨.none, he⟩, hit, Nat.succ_ne_self _⟩, fun b hb => ?_, q⟩
    have e' : b = s1.heap.objs.size + 1 ∨ b = s1.heap.objs.size := by simpa using hb
    have hle : s1.heap.objs.size ≤ b := by
      rcases e' with z | z
      · rw [z]; exact Nat.le_add_right _ _
      · rw [z]; exact Nat.le_refl _
    exact I1.fpOk hle (I1.hok.fresh hle)
/-- a list or a tuple, walked -/
def iSeq (K : PySem.W.Frag) (tl : TE) : TI := fun σ H R => tl σ H fun x H1 => ∃ a, x = .ref a ∧ (((∃ xs, SqL K H1 a xs) ∧ R (Itl K a) H1) ∨ ((∃ xs, SqT K H1 a xs) ∧ R (Itt K a) H1))
theorem pi_seq {X : Cx} {tg l : Expr} {tl : TE} (hl : PE X l tl) : PI X tg l (iSeq X.K tl) := by
  refine ⟨fun pins s σ H R I h => ?_⟩
  refine thn (hl.run pins s σ H _ I h) fun v s1 ⟨x, H1, I1, r1, q1⟩ => ?_
  obtain ⟨a, e, q1⟩ := q1
  subst e
  cases r1
  rcases q1 with ⟨⟨xs, hq⟩, q⟩ | ⟨⟨xs, hq⟩, q⟩
  · obtain ⟨its, rv, p, hz⟩ := I1.list hq
    refine wpAny_pyIter_list p.isList ?_
    refine ⟨s1.heap.objs.size, [s1.heap.objs.size], _, _, H1, rfl, I1.kept (t' := s1.toks) fun b o e => Heap.get?_push_of_some _ e, turn_list a _, ⟨_, Heap.get?_push_size _ rfl, rfl, rfl⟩, fun b hb => ?_, q⟩
    have e : b = s1.heap.objs.size := by simpa using hb
    subst e
    exact I1.fpOk (Nat.le_refl _) (I1.hok.fresh (Nat.le_refl _))
  · obtain ⟨its, rv, p, hz⟩ := I1.tuple hq
    refine wpAny_pyIter_tuple (show s1.heap.IsTuple a its.toArray from p) ?_
    refine ⟨s1.heap.objs.size, [s1.heap.objs.size], _, _, H1, rfl, I1.kept (t' := s1.toks) fun b o e => Heap.get?_push_of_some _ e, turn_tuple a _, ⟨_, Heap.get?_push_size _ rfl, rfl, rfl⟩, fun b hb => ?_, q⟩
    have e : b = s1.heap.objs.size := by simpa using hb
    subst e
    exact I1.fpOk (Nat.le_refl _) (I1.hok.fresh (Nat.le_refl _))
end LW
namespace LW
open PySem PySem.Spec PyProof.Rows L2
section
variable {G : Gm} {H H' : Hp} {W W' : Wd} {M M' : Mem}
mutual
theorem below_mono {n m : Nat} (h : n ≤ m) : ∀ d : D, below n d = true → below m d = true
  | .non, _ => rfl
  | .bl _, _ => rfl
  | .int _, _ => rfl
  | .str _, _ => rfl
  | .scr _, _ => rfl
  | .tup xs, q => belows_mono h xs q
  | .lst xs, q => belows_mono h xs q
  | .dct _ xs, q => belows_mono h xs q
  | .dtt _ xs, q => belows_mono h xs q
  | .exn _ _, _ => rfl
  | .key _, _ => rfl
  | .clo _ xs, q => belows_mono h xs q
  | .ref k, q => by
    have q' : decide (k < n) = true := q
    show decide (k < m) = true
    have := of_decide_eq_true q'
    exact decide_eq_true (by omega)
theorem belows_mono {n m : Nat} (h : n ≤ m) : ∀ ds : List D, belows n ds = true → belows m ds = true
  | [], _ => rfl
  | d :: ds, q => by
    have q' : (below n d && belows n ds) = true := q
    rw [Bool.and_eq_true] at q'
    show (below m d && belows m ds) = true
    rw [below_mono h d q'.1, belows_mono h ds q'.2]
    rfl
end
theorem belows_append {n : Nat} : ∀ {xs ys : List D}, belows n xs = true → belows n ys = true → belows n (xs ++ ys) = true
  | [], _, _, h => h
  | x :: xs, ys, h, h' => by
    have q : (below n x && belows n xs) = true := h
    rw [Bool.and_eq_true] at q
    show (below n x && belows n (xs ++ ys)) = true
    rw [q.1, belows_append q.2 h']
    rfl
theorem belows_set {n : Nat} {d : D} (hd : below n d = true) : ∀ {xs : List D} (k : Nat), belows n xs = true → belows n (xs.set k d) = true
  | [], _, h => h
  | x :: xs, 0, h => by
    have q : (below n x && belows n xs) = true := h
    rw [Bool.and_eq_true] at q
    show (below n d && belows n xs) = true
    rw [hd, q.2]
    rfl
  | x :: xs, k + 1, h => by
    have q : (below n x && belows n xs) = true := h
    rw [Bool.and_eq_true] at q
    show (below n x && belows n (xs.set k d)) = true
    rw [q.1, belows_set hd k q.2]
    rfl
theorem Ext.write {h : Nat} {o : HO} (m : MR G H W M) (hn : h < W.n) : Ext H W (upd H (W.e h) o) W :=
  ⟨⟨Nat.le_refl _, fun _ _ => rfl, fun a u q n => ⟨by rw [upd_ne fun e => n (.inr ⟨h, hn, e.symm⟩)]; exact q, n⟩⟩, rfl, rfl, rfl, fun a ha => upd_ne fun e => (m.avt a ha).2 h hn e.symm⟩
/-- the list of a handle is changed -/
theorem MR.write {h : Nat} {xs ys : List D} {ws : List V} (m : MR G H W M) (hc : M[h]? = some (.lst xs)) (r : RDs G H W ys ws) (hb : h < W.b → belows (W.lim h) ys = true) :
    MR G (upd H (W.e h) (.lst ws)) W (M.set h (.lst ys)) := by
  have hn : h < W.n := by rw [← m.len]; exact lt_of_get hc
  have x : Ext H W (upd H (W.e h) (.lst ws)) W := Ext.write m hn
  refine ⟨by rw [List.length_set]; exact m.len, m.inj, m.bn, m.lm, fun a ha => ⟨by rw [x.avk a ha]; exact (m.avt a ha).1, (m.avt a ha).2⟩, fun k c e => ?_⟩
  by_cases hk : h = k
  · subst hk
    rw [List.getElem?_set_self (by rw [m.len]; exact hn)] at e
    cases e
    exact ⟨ws, upd_same, r.mono x.toLe, hb⟩
  · rw [List.getElem?_set_ne hk] at e
    have kn : k < W.n := by rw [← m.len]; exact lt_of_get e
    exact (m.cell k c e).mono x.toLe rfl rfl kn (upd_ne fun z => hk (m.inj _ _ hn kn z.symm))
theorem stOk_lim {b h : Nat} {v : D} {W : Wd} (e : W.b = b) (s : stOk b h v = true) (hb : h < W.b) : below (W.lim h) v = true := by
  unfold stOk at s
  rw [Bool.or_eq_true] at s
  rcases s with s | s
  · have := of_decide_eq_true s
    omega
  · exact below_mono (Nat.zero_le _) v s
end
section
variable {X : Cx} {Z : WX} {pos : Pos} {a b c e : Expr} {es : List Expr} {f g h : ES} {fs : EA}
def tgOf (G : Gm) (t : Tg) : TG := fun v σ H Q => ∃ W s M d s1, MR G H W M ∧ SR G H W s σ ∧ RD G H W d v ∧ bindT M t d s = some s1 ∧ ∀ σ2, SR G H W s1 σ2 → (∀ i : Nat, i ∉ t.slots → σ2[i]? = σ[i]?) → σ2.length = σ.length → Q σ2 H
def tgsOf (G : Gm) (ts : List Tg) : TGs := fun vs σ H Q => ∃ W s M ds s1, MR G H W M ∧ SR G H W s σ ∧ RDs G H W ds vs ∧ bindTs M ts ds s = some s1 ∧ ∀ σ2, SR G H W s1 σ2 → (∀ i : Nat, i ∉ slotss ts → σ2[i]? = σ[i]?) → σ2.length = σ.length → Q σ2 H
theorem _root_.L2.PG.weak {X : Cx} {e : Expr} {t t' : TG} (h : PG X e t) (w : ∀ v σ H Q, t' v σ H Q → t v σ H Q) : PG X e t' := ⟨fun pins s σ H v u Q I r q => h.run pins s σ H v u Q I r (w v σ H Q q)⟩
theorem _root_.L2.PGs.weak {X : Cx} {e : List Expr} {t t' : TGs} (h : PGs X e t) (w : ∀ v σ H Q, t' v σ H Q → t v σ H Q) : PGs X e t' := ⟨fun pins s σ H v u Q I r q => h.run pins s σ H v u Q I r (w v σ H Q q)⟩
abbrev SG (X : Cx) (e : Expr) (t : Tg) : Prop := PG X e (tgOf (gm X) t)
abbrev SGs (X : Cx) (es : List Expr) (ts : List Tg) : Prop := PGs X es (tgsOf (gm X) ts)
theorem sg_name {i : Nat} {x : Str} (h : PG X (.Name x pos) (L2.gName i)) : SG X (.Name x pos) (.nm i) := h.weak fun v σ H Q ⟨W, s, M, d, s1, m, sr, r, e, q⟩ => by
  have e' : some (s.set i (some d)) = some s1 := e
  cases e'
  refine q _ (sr.set r i) (fun j hj => ?_) (by simp)
  have : i ≠ j := fun z => hj (by rw [z]; exact List.mem_singleton.mpr rfl)
  exact List.getElem?_set_ne this
theorem sgs_nil : SGs X [] [] := pgs_nil.weak fun v σ H Q ⟨W, s, M, d, s1, m, sr, r, e, q⟩ => by
  cases d with
  | nil =>
    cases r
    have e' : some s = some s1 := e
    cases e'
    exact ⟨rfl, q σ sr (fun _ _ => rfl) rfl⟩
  | cons d ds => cases (show none = some s1 from e)
theorem sgs_cons {t : Tg} {ts : List Tg} (h1 : SG X e t) (h2 : SGs X es ts) (hs : (assignEach (e :: es) X.env).map (·.2) = assign e X.env :: (assignEach es X.env).map (·.2) := by rfl) : SGs X (e :: es) (t :: ts) := by
  refine (pgs_cons h1 h2 hs).weak fun v σ H Q ⟨W, s, M, d, s1, m, sr, r, e, q⟩ => ?_
  cases r with
  | nil => cases (show none = some s1 from e)
  | cons r1 r2 =>
    have e' : (bindT M t _ s).bind (fun s1 => bindTs M ts _ s1) = some s1 := e
    rw [Option.bind_eq_some_iff] at e'
    obtain ⟨s2, e1, e2⟩ := e'
    refine ⟨_, _, rfl, W, s, M, _, s2, m, sr, r1, e1, fun σ2 sr2 k2 l2 => ?_⟩
    refine ⟨W, s2, M, _, s1, m, sr2, r2, e2, fun σ3 sr3 k3 l3 => q σ3 sr3 (fun i hi => ?_) (l3.trans l2)⟩
    have hi' : i ∉ t.slots ∧ i ∉ slotss ts := by
      have : i ∉ t.slots ++ slotss ts := hi
      rw [List.mem_append] at this
      exact ⟨fun z => this (.inl z), fun z => this (.inr z)⟩
    exact (k3 i hi'.2).trans (k2 i hi'.1)
theorem bindTs_len {M : Mem} : ∀ {ts : List Tg} {ds : List D} {s s1 : Slots}, bindTs M ts ds s = some s1 → ds.length = ts.length
  | [], [], _, _, _ => rfl
  | [], _ :: _, _, _, e => by simp [bindTs] at e
  | _ :: _, [], _, _, e => by simp [bindTs] at e
  | t :: ts, d :: ds, s, s1, e => by
    have e' : (bindT M t d s).bind (fun s1 => bindTs M ts ds s1) = some s1 := by
      rw [← e]
      simp [bindTs]
    rw [Option.bind_eq_some_iff] at e'
    obtain ⟨s2, _, e2⟩ := e'
    rw [List.length_cons, List.length_cons, bindTs_len e2]
/-- (a, b, ..) = a list or a tuple of that length -/
def gSeq (K : PySem.W.Frag) (n : Nat) (t : TGs) : TG := fun v σ H Q => L2.gTup K n t v σ H Q ∨ gUnl K n t v σ H Q
theorem pg_seq {k : Nat} {t : TGs} {n : Nat} (hc : X.calm = true) (h : PGs X es t)
    (hn : (assignEach es X.env).length = n := by rfl) (hst : (assignEach es X.env).findIdx? (·.1) = none := by rfl) : PG X (.Tuple es k pos) (gSeq X.K n t) :=
  ⟨fun pins s σ H v u Q I r q => q.elim (fun z => (pg_tup hc h hn hst).run pins s σ H v u Q I r z) fun z => (pg_unl hc h hn hst).run pins s σ H v u Q I r z⟩
theorem sg_tup {k : Nat} {ts : List Tg} (hc : X.calm = true) (h : SGs X es ts) (hn : (assignEach es X.env).length = ts.length := by rfl) (hst : (assignEach es X.env).findIdx? (·.1) = none := by rfl) : SG X (.Tuple es k pos) (.tp ts) := by
  refine (pg_seq hc h hn hst).weak fun v σ H Q ⟨W, s, M, d, s1, m, sr, r, e, q⟩ => ?_
  have e' := e
  simp only [bindT] at e'
  cases es : seqOf M d with
  | none => simp only [es] at e'; cases e'
  | some xs =>
    simp only [es] at e'
    obtain ⟨a, vs, rfl, hq, rs⟩ := seq_read m es r
    have hl : vs.length = ts.length := rs.length.symm.trans (bindTs_len e')
    have go : tgsOf (gm X) ts vs σ H Q := ⟨W, s, M, xs, s1, m, sr, rs, e', q⟩
    rcases hq with hq | hq
    · exact .inr ⟨a, vs, rfl, hq, hl, go⟩
    · exact .inl ⟨a, vs, rfl, hq, hl, go⟩
/-- a general target -/
def liftG (G : Gm) (g : EG) : TG := fun v σ H Q => ∃ W s M d s1 M1, MR G H W M ∧ SR G H W s σ ∧ RD G H W d v ∧ g W.b d s M = some (s1, M1) ∧ ∀ W' H' σ2, Ext H W H' W' → MR G H' W' M1 → SR G H' W' s1 σ2 → Q σ2 H'
def liftGs (G : Gm) (g : EGs) : TGs := fun vs σ H Q => ∃ W s M ds s1 M1, MR G H W M ∧ SR G H W s σ ∧ RDs G H W ds vs ∧ g W.b ds s M = some (s1, M1) ∧ ∀ W' H' σ2, Ext H W H' W' → MR G H' W' M1 → SR G H' W' s1 σ2 → Q σ2 H'
abbrev TGT (X : Cx) (e : Expr) (g : EG) : Prop := PG X e (liftG (gm X) g)
abbrev TGTs (X : Cx) (es : List Expr) (g : EGs) : Prop := PGs X es (liftGs (gm X) g)
theorem tg_of {t : Tg} (h : SG X e t) : TGT X e (gT t) := PG.weak h fun v σ H Q ⟨W, s, M, d, s1, M1, m, sr, r, e, q⟩ => by
  have e' : (bindT M t d s).map (fun s1 => (s1, M)) = some (s1, M1) := e
  rw [Option.map_eq_some_iff] at e'
  obtain ⟨s2, e1, e2⟩ := e'
  cases e2
  exact ⟨W, s, M, d, s1, m, sr, r, e1, fun σ2 sr2 _ _ => q W H σ2 (.refl _ _) m sr2⟩
theorem tgs_nil : TGTs X [] gsNil := pgs_nil.weak fun v σ H Q ⟨W, s, M, d, s1, M1, m, sr, r, e, q⟩ => by
  cases d with
  | nil =>
    cases r
    have e' : some (s, M) = some (s1, M1) := e
    cases e'
    exact ⟨rfl, q W H σ (.refl _ _) m sr⟩
  | cons d ds => cases (show none = some (s1, M1) from e)
theorem tgs_cons {g : EG} {gs : EGs} (h1 : TGT X e g) (h2 : TGTs X es gs) (hs : (assignEach (e :: es) X.env).map (·.2) = assign e X.env :: (assignEach es X.env).map (·.2) := by rfl) : TGTs X (e :: es) (gsCons g gs) := by
  refine (pgs_cons h1 h2 hs).weak fun v σ H Q ⟨W, s, M, d, s1, M1, m, sr, r, e, q⟩ => ?_
  cases r with
  | nil => cases (show none = some (s1, M1) from e)
  | cons r1 r2 =>
    have e' : (g W.b _ s M).bind (fun p => gs W.b _ p.1 p.2) = some (s1, M1) := e
    rw [Option.bind_eq_some_iff] at e'
    obtain ⟨⟨s2, M2⟩, e1, e2⟩ := e'
    refine ⟨_, _, rfl, W, s, M, _, s2, M2, m, sr, r1, e1, fun W2 H2 σ2 x2 m2 sr2 => ?_⟩
    exact ⟨W2, s2, M2, _, s1, M1, m2, sr2, r2.mono x2.toLe, by rw [x2.b]; exact e2, fun W3 H3 σ3 x3 m3 sr3 => q W3 H3 σ3 (x2.trans x3) m3 sr3⟩
theorem tg_tup {k n : Nat} {gs : EGs} (hc : X.calm = true) (h : TGTs X es gs) (hl : ∀ b ds s M r, gs b ds s M = some r → ds.length = n) (hn : (assignEach es X.env).length = n := by rfl) (hst : (assignEach es X.env).findIdx? (·.1) = none := by rfl) : TGT X (.Tuple es k pos) (gTup gs) := by
  refine (pg_seq hc h hn hst).weak fun v σ H Q ⟨W, s, M, d, s1, M1, m, sr, r, e, q⟩ => ?_
  have e' : (match seqOf M d with | some xs => gs W.b xs s M | none => none) = some (s1, M1) := e
  cases es : seqOf M d with
  | none => rw [es] at e'; cases e'
  | some xs =>
    rw [es] at e'
    obtain ⟨a, vs, rfl, hq, rs⟩ := seq_read m es r
    have hl : vs.length = n := rs.length.symm.trans (hl _ _ _ _ _ e')
    have go : liftGs (gm X) gs vs σ H Q := ⟨W, s, M, xs, s1, M1, m, sr, rs, e', q⟩
    rcases hq with hq | hq
    · exact .inr ⟨a, vs, rfl, hq, hl, go⟩
    · exact .inl ⟨a, vs, rfl, hq, hl, go⟩
theorem setIx_read {G : Gm} {H : Hp} {W : Wd} {M M3 : Mem} {x y d : D} {o i v : V} {Q : Hp → Prop} (m : MR G H W M) (rx : RD G H W x o) (ry : RD G H W y i) (rd : RD G H W d v) (e : setIx W.b x y d M = some M3)
    (q : ∀ W' H', Ext H W H' W' → MR G H' W' M3 → Q H') : rSetL o i v H Q := by
  unfold setIx at e
  split at e
  · rename_i h k
    cases ry
    split at e
    · rename_i xs hc
      split at e
      · rename_i j hj
        split at e
        · rename_i hs
          cases e
          cases rx with
          | ref hn =>
            obtain ⟨vs, h1, h2, h3⟩ := m.cell h _ hc
            refine ⟨W.e h, vs, k, j, rfl, rfl, h1, by rw [← h2.length]; exact hj, ?_⟩
            refine q W _ (Ext.write m hn) (m.write hc (h2.set rd j) fun hb => belows_set ?_ j (h3 hb))
            rcases hs with hs | hs
            · omega
            · exact below_mono (Nat.zero_le _) d hs
        · cases e
      · cases e
    · cases e
  · cases e
theorem tg_ix {fo fi : ES} (ho : SE X (fun _ _ _ _ => False) a fo) (hi : SE X (fun _ _ _ _ => False) b fi)
    (ha : ∀ v, assign (.Subscript a b pos) X.env v = (do
      let ov ← holding [v] (eval a X.env)
      let iv ← holding [v, ov] (eval b X.env)
      standAt pos
      holding [v, ov, iv] (setItem ov iv v)
      release [v, ov, iv] []) := by intro _; rfl) : TGT X (.Subscript a b pos) (gIx fo fi) := by
  refine (pg_sub ho hi set_list ha).weak fun v σ H Q ⟨W, s, M, d, s1, M1, m, sr, r, e, q⟩ => ?_
  refine ⟨W, s, M, m, sr, ?_⟩
  unfold gIx at e
  cases h1 : fo W.b s M with
  | bad => simp only [h1] at e; cases e
  | exc c d M2 => simp only [h1] at e; cases e
  | ok x M2 =>
    simp only [h1] at e
    intro W2 H2 x2 m2 o ro
    refine ⟨W2, s, M2, m2, sr.mono x2.toLe, ?_⟩
    rw [x2.b]
    cases h2 : fi W.b s M2 with
    | bad => simp only [h2] at e; cases e
    | exc c d M3 => simp only [h2] at e; cases e
    | ok y M3 =>
      simp only [h2] at e
      intro W3 H3 x3 m3 i ri
      rw [Option.map_eq_some_iff] at e
      obtain ⟨M4, e3, e4⟩ := e
      cases e4
      have xx := x2.trans x3
      refine setIx_read (Q := fun H3 => Q σ H3) m3 (ro.mono x3.toLe) ri (r.mono xx.toLe) (by rw [xx.b]; exact e3) fun W' H' x' m' => ?_
      exact q W' H' σ (xx.trans x') m' (sr.mono (xx.trans x').toLe)
end
end LW
namespace LW
open PySem PySem.Spec PyProof.Rows L2
/-- a walk whose items are known -/
structure WalkD (G : Gm) (J : It) (ds : List D) (hs : List Nat) (M0 : Mem) (W0 : Wd) (H0 : Hp) : Prop where
  goes : ∀ i W H M, i < ds.length → Le H0 W0 H W → MR G H W M → gdOk hs M0 M → J.go i H
  stops : ∀ W H M, Le H0 W0 H W → MR G H W M → gdOk hs M0 M → J.stop ds.length H
  yields : ∀ i W H M x H', i < ds.length → Le H0 W0 H W → MR G H W M → gdOk hs M0 M → J.yld i H x H' → ∃ d, ds[i]? = some d ∧ RD G H' W d x ∧ Ext H W H' W ∧ MR G H' W M
def liftI (G : Gm) (Z : WX) (f : EI) : TI := fun t H R => ∃ W s M, MR G H W M ∧ SR G H W s t ∧ Post G Z t H W (f W.b s M) fun p M' W' H' => ∀ J, WalkD G J p.1 p.2 M' W' H' → R J H'
abbrev SI (X : Cx) (Z : WX) (tg e : Expr) (f : EI) : Prop := PI X tg e (liftI (gm X) Z f)
theorem _root_.L2.PI.weak {X : Cx} {tg e : Expr} {t t' : TI} (h : PI X tg e t) (w : ∀ σ H R, t' σ H R → t σ H R) : PI X tg e t' := ⟨fun pins s σ H R I q => h.run pins s σ H R I (w σ H R q)⟩
def tpOf : D → Bool
  | .tup _ => true
  | _ => false
section
variable {G : Gm} {H H0 : Hp} {W W0 : Wd} {M M0 : Mem} {x : D} {v : V} {xs : List D}
theorem sq_read (m : MR G H W M) (e : seqOf M x = some xs) (rv : RD G H W x v) : ∃ a vs, v = .ref a ∧ Sq (tpOf x) G.K H a vs ∧ RDs G H W xs vs := by
  by_cases ht : ∃ zs, x = .tup zs
  · obtain ⟨zs, rfl⟩ := ht
    cases rv with
    | tup h1 r1 =>
      cases (show some zs = some xs from e)
      exact ⟨_, _, rfl, h1.sq, r1⟩
  · obtain ⟨a, ws, rfl, hq, r⟩ := seq_readL m e (fun zs e => ht ⟨zs, e⟩) rv
    have et : tpOf x = false := by
      cases x with
      | tup zs => exact absurd ⟨zs, rfl⟩ ht
      | _ => rfl
    rw [et]
    exact ⟨a, ws, rfl, hq, r⟩
theorem seq_same (e : seqOf M0 x = some xs) (g : gdOk (gdOf x) M0 M) : seqOf M x = some xs := by
  cases x with
  | ref h =>
    have : M[h]? = M0[h]? := g h (by simp [gdOf])
    have e' : (match M0[h]? with | some (.lst xs) => some xs | _ => none) = some xs := e
    show (match M[h]? with | some (.lst xs) => some xs | _ => none) = some xs
    rw [this]
    exact e'
  | _ => exact e
theorem sq_later {a : Addr} (e : seqOf M0 x = some xs) (rv : RD G H0 W0 x (.ref a)) (x0 : Le H0 W0 H W) (m : MR G H W M) (g : gdOk (gdOf x) M0 M) : ∃ vs, Sq (tpOf x) G.K H a vs ∧ RDs G H W xs vs := by
  obtain ⟨a', vs, ea, hq, r⟩ := sq_read m (seq_same e g) (rv.mono x0)
  cases ea
  exact ⟨vs, hq, r⟩
theorem gdOk_app {hs ks : List Nat} (g : gdOk (hs ++ ks) M0 M) : gdOk hs M0 M ∧ gdOk ks M0 M := ⟨fun h q => g h (List.mem_append_left _ q), fun h q => g h (List.mem_append_right _ q)⟩
end
section
variable {X : Cx} {Z : WX} {pos p tpos : Pos} {tg a b c e : Expr} {es elts : List Expr} {kk : Nat} {f g h : ES} {fs : EA}
theorem si_seq (ha : SE X Z a f) : SI X Z tg a (iOf f) := by
  refine (pi_seq ha).weak fun σ H R ⟨W, s, M, m, sr, po⟩ => ?_
  refine ⟨W, s, M, m, sr, (Post.bind po).imp fun x M1 W1 H1 x1 m1 p1 v rv => ?_⟩
  split at p1
  · rename_i xs ex
    obtain ⟨a, vs, rfl, hq, r⟩ := sq_read m1 ex rv
    refine ⟨a, rfl, ?_⟩
    have hl := r.length
    cases ht : tpOf x with
    | true =>
      rw [ht] at hq
      have hq' : SqT X.K H1 a vs := hq
      refine .inr ⟨⟨vs, hq'⟩, Post.here (a := (xs, gdOf x)) p1 m1 _ ⟨fun i W H M hi x0 mm g => ?_, fun W H M x0 mm g => ?_, fun i W H M y H' hi x0 mm g yl => ?_⟩⟩
      · obtain ⟨ws, q, r'⟩ := sq_later ex rv x0 mm g
        rw [ht] at q
        exact ⟨ws, ws[i]'(by rw [← r'.length]; exact hi), q, by simp⟩
      · obtain ⟨ws, q, r'⟩ := sq_later ex rv x0 mm g
        rw [ht] at q
        exact ⟨ws, q, Nat.le_of_eq r'.length.symm⟩
      · obtain ⟨ws, q, r'⟩ := sq_later ex rv x0 mm g
        rw [ht] at q
        obtain ⟨rfl, yl⟩ := yl
        obtain ⟨d, hd, rd⟩ := r'.getV (yl ws q)
        exact ⟨d, hd, rd, .refl _ _, mm⟩
    | false =>
      rw [ht] at hq
      have hq' : SqL X.K H1 a vs := hq
      refine .inl ⟨⟨vs, hq'⟩, Post.here (a := (xs, gdOf x)) p1 m1 _ ⟨fun i W H M hi x0 mm g => ?_, fun W H M x0 mm g => ?_, fun i W H M y H' hi x0 mm g yl => ?_⟩⟩
      · obtain ⟨ws, q, r'⟩ := sq_later ex rv x0 mm g
        rw [ht] at q
        exact ⟨ws, ws[i]'(by rw [← r'.length]; exact hi), q, by simp⟩
      · obtain ⟨ws, q, r'⟩ := sq_later ex rv x0 mm g
        rw [ht] at q
        exact ⟨ws, q, Nat.le_of_eq r'.length.symm⟩
      · obtain ⟨ws, q, r'⟩ := sq_later ex rv x0 mm g
        rw [ht] at q
        obtain ⟨rfl, yl⟩ := yl
        obtain ⟨d, hd, rd⟩ := r'.getV (yl ws q)
        exact ⟨d, hd, rd, .refl _ _, mm⟩
  · exact p1.elim
theorem wd_range {G : Gm} {M0 : Mem} {W0 : Wd} {H0 : Hp} (lo : Int) (n : Nat) : WalkD G (Itr lo n) ((List.range n).map fun (k : Nat) => D.int (lo + (k : Int))) [] M0 W0 H0 := by
  have hl : ((List.range n).map fun (k : Nat) => D.int (lo + (k : Int))).length = n := by simp
  refine ⟨fun i W H M hi _ _ _ => ?_, fun W H M _ _ _ => ?_, fun i W H M y H' hi _ mm _ yl => ?_⟩
  · rw [hl] at hi; exact hi
  · rw [hl]; exact Nat.le_refl _
  · rw [hl] at hi
    obtain ⟨rfl, rfl⟩ := yl
    exact ⟨.int (lo + i), by rw [List.getElem?_map, List.getElem?_range hi]; rfl, .int _, .refl _ _, mm⟩
theorem si_range1 (hg : Gl X "range") (hm : X.mg "range" = none) (ha : SA X Z [a] fs) (hs : starEach [a] X.env = [(false, eval a X.env)] := by rfl) : SI X Z tg (.Call (.Name "range" p) [a] [] pos) (iRange1 fs) := by
  refine (pi_range1 hg hm ha hs).weak fun σ H R ⟨W, s, M, m, sr, po⟩ => ?_
  refine ⟨W, s, M, m, sr, (Post.bind po).imp fun ds M1 W1 H1 x1 m1 p1 vs rvs => ?_⟩
  split at p1
  · obtain ⟨v, rfl, rv⟩ := rds1 rvs
    cases rv
    split at p1
    · rename_i j hj
      exact ⟨j, rfl, hj.1, hj.2, Post.here (a := ((List.range j.toNat).map fun (k : Nat) => D.int (0 + (k : Int)), ([] : List Nat))) p1 m1 _ (wd_range 0 j.toNat)⟩
    · exact p1.elim
  · exact p1.elim
theorem enumD_len : ∀ (k : Nat) (xs : List D), (enumD k xs).length = xs.length
  | _, [] => rfl
  | k, x :: r => by
    show (enumD (k + 1) r).length + 1 = r.length + 1
    rw [enumD_len]
theorem enumD_get : ∀ (k : Nat) (xs : List D) (i : Nat) (d : D), xs[i]? = some d → (enumD k xs)[i]? = some (.tup [.int ((k + i : Nat) : Int), d])
  | _, [], _, _, h => by simp at h
  | k, x :: r, 0, d, h => by
    simp at h
    subst h
    rfl
  | k, x :: r, i + 1, d, h => by
    have := enumD_get (k + 1) r i d (by simpa using h)
    show (enumD (k + 1) r)[i]? = _
    rw [this, show k + 1 + i = k + (i + 1) by omega]
/-- a new pair -/
theorem wd_pair {G : Gm} {H H' : Hp} {W : Wd} {M : Mem} {T : Addr} {xs : List V} {ds : List D} (m : MR G H W M) (hT : H T = none) (e : H' = upd H T (.tup xs)) (r : RDs G H W ds xs) : RD G H' W (.tup ds) (.ref T) ∧ Ext H W H' W ∧ MR G H' W M := by
  subst e
  exact ⟨.tup (.inl ⟨.inl upd_same, m.fresh hT⟩) (r.mono (m.xnew hT).toLe), m.xnew hT, m.new hT⟩
theorem si_enum (hg : Gl X "enumerate") (hm : X.mg "enumerate" = none) (ha : SA X Z [a] fs) (hs : starEach [a] X.env = [(false, eval a X.env)] := by rfl) : SI X Z (.Tuple elts kk tpos) (.Call (.Name "enumerate" p) [a] [] pos) (iEnum fs) := by
  refine (pi_enum2 hg hm ha hs).weak fun σ H R ⟨W, s, M, m, sr, po⟩ => ?_
  refine ⟨W, s, M, m, sr, (Post.bind po).imp fun ds M1 W1 H1 x1 m1 p1 vs rvs => ?_⟩
  split at p1
  · rename_i x
    obtain ⟨v, rfl, rv⟩ := rds1 rvs
    split at p1
    · rename_i xs ex
      obtain ⟨a, vs, rfl, hq, r⟩ := sq_read m1 ex rv
      refine ⟨a, vs, tpOf x, rfl, hq, Post.here (a := (enumD 0 xs, gdOf x)) p1 m1 _ ⟨fun i W H M hi x0 mm g => ?_, fun W H M x0 mm g => ?_, fun i W H M y H' hi x0 mm g yl => ?_⟩⟩
      · obtain ⟨ws, q, r'⟩ := sq_later ex rv x0 mm g
        have hi' : i < ws.length := by rw [← r'.length, ← enumD_len 0 xs]; exact hi
        exact ⟨ws, ws[i], q, by simp [hi']⟩
      · obtain ⟨ws, q, r'⟩ := sq_later ex rv x0 mm g
        exact ⟨ws, q, by rw [← r'.length, enumD_len]; exact Nat.le_refl _⟩
      · obtain ⟨ws, q, r'⟩ := sq_later ex rv x0 mm g
        obtain ⟨T, z, rfl, hT, eH, yl⟩ := yl
        obtain ⟨d, hd, rd⟩ := r'.getV (yl ws q)
        have hp := wd_pair (ds := [.int (i : Nat), d]) mm hT eH (.cons (.int _) (.cons rd .nil))
        refine ⟨_, enumD_get 0 xs i d hd, ?_, hp.2⟩
        rw [Nat.zero_add]
        exact hp.1
    · exact p1.elim
  · exact p1.elim
theorem zipD_get {xs ys : List D} {i : Nat} {x y : D} (hx : xs[i]? = some x) (hy : ys[i]? = some y) : (zipD xs ys)[i]? = some (.tup [x, y]) := by
  unfold zipD
  rw [List.getElem?_zipWith, hx, hy]
theorem zipD_len (xs ys : List D) : (zipD xs ys).length = min xs.length ys.length := by unfold zipD; simp
theorem zip_core {st : Bool} {σ : L2.St} {H : Hp} {R : It → Hp → Prop} (q : liftI (gm X) Z (iZip st fs) σ H R) : tiZip2 X.K st (liftA (gm X) Z fs) σ H R := by
  obtain ⟨W, s, M, m, sr, po⟩ := q
  refine ⟨W, s, M, m, sr, (Post.bind po).imp fun ds M1 W1 H1 x1 m1 p1 vs rvs => ?_⟩
  split at p1
  · rename_i x y
    obtain ⟨v, v', rfl, rv, rv'⟩ := rds2 rvs
    split at p1
    · rename_i xs ys ex ey
      obtain ⟨a1, vs1, rfl, q1, r1⟩ := sq_read m1 ex rv
      obtain ⟨a2, vs2, rfl, q2, r2⟩ := sq_read m1 ey rv'
      split at p1
      · exact p1.elim
      · rename_i hst
        refine ⟨a1, a2, vs1, vs2, tpOf x, tpOf y, rfl, q1, q2, Post.here (a := (zipD xs ys, gdOf x ++ gdOf y)) p1 m1 _ ⟨fun i W H M hi x0 mm g => ?_, fun W H M x0 mm g => ?_, fun i W H M z H' hi x0 mm g yl => ?_⟩⟩
        · obtain ⟨g1, g2⟩ := gdOk_app g
          obtain ⟨w1, k1, l1⟩ := sq_later ex rv x0 mm g1
          obtain ⟨w2, k2, l2⟩ := sq_later ey rv' x0 mm g2
          rw [zipD_len] at hi
          have h1 : i < w1.length := by rw [← l1.length]; omega
          have h2 : i < w2.length := by rw [← l2.length]; omega
          exact ⟨w1, w2, w1[i], w2[i], k1, k2, by simp [h1], by simp [h2]⟩
        · obtain ⟨g1, g2⟩ := gdOk_app g
          obtain ⟨w1, k1, l1⟩ := sq_later ex rv x0 mm g1
          obtain ⟨w2, k2, l2⟩ := sq_later ey rv' x0 mm g2
          have e1 := l1.length
          have e2 := l2.length
          refine ⟨w1, w2, k1, k2, ?_⟩
          rw [zipD_len]
          cases st with
          | true =>
            have : xs.length = ys.length := Classical.byContradiction fun z => hst ⟨rfl, z⟩
            exact .inl ⟨by omega, by omega⟩
          | false => exact .inr ⟨rfl, by omega⟩
        · obtain ⟨g1, g2⟩ := gdOk_app g
          obtain ⟨w1, k1, l1⟩ := sq_later ex rv x0 mm g1
          obtain ⟨w2, k2, l2⟩ := sq_later ey rv' x0 mm g2
          obtain ⟨T, z1, z2, rfl, hT, eH, y1, y2⟩ := yl
          obtain ⟨d1, hd1, rd1⟩ := l1.getV (y1 w1 k1)
          obtain ⟨d2, hd2, rd2⟩ := l2.getV (y2 w2 k2)
          have hp := wd_pair (ds := [d1, d2]) mm hT eH (.cons rd1 (.cons rd2 .nil))
          exact ⟨_, zipD_get hd1 hd2, hp.1, hp.2⟩
    · exact p1.elim
  · exact p1.elim
theorem si_zip (hg : Gl X "zip") (hm : X.mg "zip" = none) (ha : SA X Z [a, b] fs) (hs : starEach [a, b] X.env = (false, eval a X.env) :: starEach [b] X.env := by rfl) (hpl : (backTo pos (starEach [b] X.env)).any (·.1) = false := by rfl) :
    SI X Z (.Tuple elts kk tpos) (.Call (.Name "zip" p) [a, b] [] pos) (iZip false fs) := (pi_zip2 hg hm ha hs hpl).weak fun _ _ _ q => zip_core q
theorem si_zipS {kp kq : Pos} {kc : Nat} (hg : Gl X "zip") (hm : X.mg "zip" = none) (ha : SA X Z [a, b] fs) (he : backTo pos (starEach [a, b] X.env) = (false, eval a X.env) :: backTo pos (starEach [b] X.env) := by rfl) (hpl : (backTo pos (starEach [a, b] X.env)).any (·.1) = false := by rfl) :
    SI X Z (.Tuple elts kk tpos) (.Call (.Name "zip" p) [a, b] [⟨some "strict", .Constant (.bool true) kc kp, kq⟩] pos) (iZip true fs) := (pi_zip2S hg hm ha he hpl).weak fun _ _ _ q => zip_core q
end
end LW
namespace LW
open PySem PySem.Spec PyProof.Rows L2
def nRange (f : ES) : EN := fun b s M => (f b s M).bind fun x M1 => match x with
  | .int n => if 0 ≤ n ∧ n ≤ 1000 then .ok ((List.range n.toNat).map fun (i : Nat) => D.int (i : Int)) M1 else .bad
  | _ => .bad
section
variable {X : Cx} {Z : WX} {p pos pr posr : Pos} {a : Expr} {f : ES}
end
end LW
namespace LW
open PySem PySem.Spec PyProof.Rows L2
theorem add_ne {n j a : Nat} (h : a < n) : n + j ≠ a := by omega
abbrev IsZH (h : Heap) (z TI TO T : Addr) (st f : Bool) : Prop :=
  h.get? z = some { cls := .type "zip", dict := none, data := .fields #[rawInt T, .bool f, .bool st, .ref TI, .ref TO], slots := #[] }
section
variable {prog : Program} {w : World} {A : Around} {E : Value → Shared → Prop} {s : Shared} {k : Nat} {st f : Bool} {z TI TO T i1 i2 a1 a2 : Addr} {t1 t2 : Bool} {xs1 xs2 : Array Value} {u1 u2 : Value} {oT : Obj}
theorem held_zip {Q : Bool → Shared → Prop} (hz : IsZH s.heap z TI TO T st f) (hT : s.heap.get? T = some oT)
    (h : ∀ h', IsZH h' z TI TO T st true → Heap.SameBut z s.heap h' → Q false { s with heap := h' }) : wpAny (model prog w) A (Builtin.SmallTypes.ownedTupleIsFree (.ref z)) Q E s := by
  unfold Builtin.SmallTypes.ownedTupleIsFree
  refine wpAny_bind (wpAny_field hz rfl (x := rawInt T) rfl ?_)
  show wpAny _ _ (loadIfAlive ((T : Int).toNat) >>= _) _ _ _
  rw [Int.toNat_natCast]
  refine wpAny_bind (PySem.W.kdx_alive hT ?_)
  simp only [Option.isNone_some, Bool.false_eq_true, if_false]
  refine wpAny_bind (wpAny_field hz rfl (x := .bool f) rfl ?_)
  cases f with
  | true =>
    rw [if_neg (show ¬ ((Value.bool true != Value.bool true) = true) from Bool.false_ne_true)]
    exact wpAny_pure (h s.heap hz (Heap.SameBut.refl _ _))
  | false =>
    rw [if_pos (show (Value.bool false != Value.bool true) = true from rfl)]
    exact wpAny_bind (wpAny_setField_rec hz (by simp) fun h₁ hz₁ hs₁ => wpAny_pure (h h₁ hz₁ hs₁))
theorem zip2_itemH {Q : Value → Shared → Prop} (D : Apart2 z TI TO i1 i2 a1 a2) (hz : IsZH s.heap z TI TO T st f) (hT : s.heap.get? T = some oT) (hTI : IsTupV s.heap TI [.ref i1, .ref i2]) (h1 : SIt t1 s.heap i1 a1 k) (h2 : SIt t2 s.heap i2 a2 k) (l1 : SOb t1 s.heap a1 xs1) (l2 : SOb t2 s.heap a2 xs2) (x1 : xs1[k]? = some u1) (x2 : xs2[k]? = some u2)
    (hQ : ∀ h', IsZH h' z TI TO T st true → SIt t1 h' i1 a1 (k + 1) → SIt t2 h' i2 a2 (k + 1) → IsTupV h' s.heap.objs.size [u1, u2] → h'.objs.size = s.heap.objs.size + 1 →
      (∀ c o, c ≠ z → c ≠ i1 → c ≠ i2 → s.heap.get? c = some o → h'.get? c = some o) → Q (.ref s.heap.objs.size) { s with heap := h' }) :
    wpAny (model prog w) A (Builtin.«zip.__next__» ⟨[.ref z], []⟩) (fun fin s' => ∃ v, fin = .done (.ret v) ∧ Q v s') E s := by
  show wpAny _ _ (field (.ref z) 2 >>= _) _ _ _
  refine wpAny_bind (wpAny_field hz rfl (x := .bool st) rfl ?_)
  show wpAny _ _ (field (.ref z) 3 >>= _) _ _ _
  refine wpAny_bind (wpAny_field hz rfl (x := .ref TI) rfl ?_)
  refine wpAny_bind (wpAny_seqItems hTI rfl ?_)
  show wpAny _ _ (Builtin.SmallTypes.ownedTupleIsFree (.ref z) >>= _) _ _ _
  refine wpAny_bind (held_zip hz hT fun h₁ hz₁ hs₁ => ?_)
  simp only [Bool.false_eq_true, if_false]
  refine wpAny_bind ?_
  rw [← Array.forIn_toList]
  simp only [List.forIn_cons, List.forIn_nil]
  refine wpAny_bind (wpAny_bind (wpAny_holding ?_))
  refine zdraw_item (s := { s with heap := h₁ }) (st := (Value.bool st == Value.bool true)) (h1.at fun o e => hs₁.extBut _ _ D.i1_z e) (l1.at fun o e => hs₁.extBut _ _ D.a1_z e) x1 fun h₂ it₂ hs₂ => ?_
  refine wpAny_pure ?_
  refine wpAny_bind (wpAny_bind (wpAny_holding ?_))
  refine zdraw_item (s := { s with heap := h₂ }) (st := (Value.bool st == Value.bool true)) (h2.at fun o e => hs₂.extBut _ _ D.i1_i2.symm (hs₁.extBut _ _ D.i2_z e)) (l2.at fun o e => hs₂.extBut _ _ D.a2_i1 (hs₁.extBut _ _ D.a2_z e)) x2 fun h₃ it₃ hs₃ => ?_
  refine wpAny_pure (wpAny_pure ?_)
  show wpAny _ _ (newTuple [u1, u2] >>= _) _ _ _
  refine wpAny_bind (wpAny_newTuple ?_)
  have hsz : h₃.objs.size = s.heap.objs.size := by rw [hs₃.1, hs₂.1, hs₁.1]
  have hz₃ : IsZH h₃ z TI TO T st true := hs₃.extBut _ _ D.i2_z.symm (hs₂.extBut _ _ D.i1_z.symm hz₁)
  have hk : ∀ c o, c ≠ z → c ≠ i1 → c ≠ i2 → s.heap.get? c = some o → h₃.get? c = some o := fun c o c1 c2 c3 e => hs₃.extBut _ _ c3 (hs₂.extBut _ _ c2 (hs₁.extBut _ _ c1 e))
  have h1₃ : SIt t1 h₃ i1 a1 (k + 1) := it₂.at fun o e => hs₃.extBut _ _ D.i1_i2 e
  refine wpAny_pure ⟨_, rfl, ?_⟩
  show Q (.ref h₃.objs.size) _
  have hp : IsTupV (h₃.push { cls := .type "tuple", data := .seq #[u1, u2] }) h₃.objs.size [u1, u2] := Heap.get?_push_size _ rfl
  have hz4 : (h₃.push { cls := .type "tuple", data := .seq #[u1, u2] }).objs.size = h₃.objs.size + 1 := Heap.size_push ..
  rw [hsz] at hp hz4 ⊢
  exact hQ _ (Heap.get?_push_of_some _ hz₃) (h1₃.at fun o e => Heap.get?_push_of_some _ e) (it₃.at fun o e => Heap.get?_push_of_some _ e) hp hz4 fun c o c1 c2 c3 e => Heap.get?_push_of_some _ (hk c o c1 c2 c3 e)
theorem zip2_endH {Q : Fin → Shared → Prop} (hh : A.handled = none) (D : Apart2 z TI TO i1 i2 a1 a2) (hz : IsZH s.heap z TI TO T st f) (hT : s.heap.get? T = some oT) (hTI : IsTupV s.heap TI [.ref i1, .ref i2]) (h1 : SIt t1 s.heap i1 a1 k) (h2 : SIt t2 s.heap i2 a2 k) (l1 : SOb t1 s.heap a1 xs1) (l2 : SOb t2 s.heap a2 xs2) (hend : (xs1[k]? = none ∧ xs2[k]? = none) ∨ (st = false ∧ (xs1[k]? = none ∨ xs2[k]? = none)))
    (hE : ∀ h' e, (∀ c o, c ≠ z → c ≠ i1 → c ≠ i2 → s.heap.get? c = some o → h'.get? c = some o) → (∃ o, h'.get? e = some o ∧ o.cls = .type "StopIteration") → E (.ref e) { s with heap := h' }) :
    wpAny (model prog w) A (Builtin.«zip.__next__» ⟨[.ref z], []⟩) Q E s := by
  show wpAny _ _ (field (.ref z) 2 >>= _) _ _ _
  refine wpAny_bind (wpAny_field hz rfl (x := .bool st) rfl ?_)
  show wpAny _ _ (field (.ref z) 3 >>= _) _ _ _
  refine wpAny_bind (wpAny_field hz rfl (x := .ref TI) rfl ?_)
  refine wpAny_bind (wpAny_seqItems hTI rfl ?_)
  show wpAny _ _ (Builtin.SmallTypes.ownedTupleIsFree (.ref z) >>= _) _ _ _
  refine wpAny_bind (held_zip hz hT fun h₁ hz₁ hs₁ => ?_)
  simp only [Bool.false_eq_true, if_false]
  refine wpAny_bind ?_
  rw [← Array.forIn_toList]
  simp only [List.forIn_cons, List.forIn_nil]
  cases st with
  | true =>
    have hall : xs1[k]? = none ∧ xs2[k]? = none := hend.elim id fun z => Bool.noConfusion z.1
    obtain ⟨n1, n2⟩ := hall
    refine wpAny_bind (wpAny_bind (wpAny_holding ?_))
    refine nextOrEnd_end (s := { s with heap := h₁ }) hh (h1.at fun o e => hs₁.extBut _ _ D.i1_z e) (l1.at fun o e => hs₁.extBut _ _ D.a1_z e) n1 fun g_1 gs_1 => ?_
    refine wpAny_bind ?_
    show wpAny _ _ (forIn [(Value.ref i2, 1)] _ _ >>= _) _ _ _
    simp only [List.forIn_cons, List.forIn_nil]
    refine wpAny_bind (wpAny_bind (wpAny_bind ?_))
    refine nextOrEnd_end (s := { s with heap := g_1 }) hh (h2.at fun o e => gs_1 _ _ D.i1_i2.symm (hs₁.extBut _ _ D.i2_z e)) (l2.at fun o e => gs_1 _ _ D.a2_i1 (hs₁.extBut _ _ D.a2_z e)) n2 fun q_2 qs_2 => ?_
    simp only [Option.isSome_none, Bool.false_eq_true, if_false]
    refine wpAny_pure ?_
    refine wpAny_pure ?_
    refine wpAny_bind (wpAny_rule ?_)
    exact stop_raise hh fun h' e hk he => hE h' e (fun c o c1 d1 d2 x => hk c o (qs_2 _ _ d2 (gs_1 _ _ d1 (hs₁.extBut _ _ c1 x)))) he
  | false =>
    have hsome : xs1[k]? = none ∨ xs2[k]? = none := hend.elim (fun z => .inl z.1) fun z => z.2
    refine wpAny_bind (wpAny_bind (wpAny_holding ?_))
    show wpAny _ _ (Builtin.SmallTypes.nextOf (.ref i1) >>= _) _ _ _
    cases x1 : xs1[k]? with
    | none =>
      refine wpAny_bind (nextOf_end (s := { s with heap := h₁ }) hh (h1.at fun o e => hs₁.extBut _ _ D.i1_z e) (l1.at fun o e => hs₁.extBut _ _ D.a1_z e) x1 fun g_1 e gs_1 he => ?_)
      exact hE g_1 e (fun c o c1 d1 d2 x => gs_1 _ _ d1 (hs₁.extBut _ _ c1 x)) he
    | some u1 =>
      refine wpAny_bind (nextOf_item (s := { s with heap := h₁ }) (h1.at fun o e => hs₁.extBut _ _ D.i1_z e) (l1.at fun o e => hs₁.extBut _ _ D.a1_z e) x1 fun g_1 it_1 gs_1 => wpAny_pure ?_)
      refine wpAny_pure ?_
      refine wpAny_bind (wpAny_bind (wpAny_holding ?_))
      show wpAny _ _ (Builtin.SmallTypes.nextOf (.ref i2) >>= _) _ _ _
      cases x2 : xs2[k]? with
      | none =>
        refine wpAny_bind (nextOf_end (s := { s with heap := g_1 }) hh (h2.at fun o e => gs_1.extBut _ _ D.i1_i2.symm (hs₁.extBut _ _ D.i2_z e)) (l2.at fun o e => gs_1.extBut _ _ D.a2_i1 (hs₁.extBut _ _ D.a2_z e)) x2 fun g_2 e gs_2 he => ?_)
        exact hE g_2 e (fun c o c1 d1 d2 x => gs_2 _ _ d2 (gs_1.extBut _ _ d1 (hs₁.extBut _ _ c1 x))) he
      | some u2 =>
        simp only [x1, x2, reduceCtorEq, or_self] at hsome
theorem zip2_nextH {Q : Option Value → Shared → Prop} (D : Apart2 z TI TO i1 i2 a1 a2) (hz : IsZH s.heap z TI TO T st f) (hT : s.heap.get? T = some oT) (hTI : IsTupV s.heap TI [.ref i1, .ref i2]) (h1 : SIt t1 s.heap i1 a1 k) (h2 : SIt t2 s.heap i2 a2 k) (l1 : SOb t1 s.heap a1 xs1) (l2 : SOb t2 s.heap a2 xs2) (x1 : xs1[k]? = some u1) (x2 : xs2[k]? = some u2)
    (hQ : ∀ h', IsZH h' z TI TO T st true → SIt t1 h' i1 a1 (k + 1) → SIt t2 h' i2 a2 (k + 1) → IsTupV h' s.heap.objs.size [u1, u2] → h'.objs.size = s.heap.objs.size + 1 →
      (∀ c o, c ≠ z → c ≠ i1 → c ≠ i2 → s.heap.get? c = some o → h'.get? c = some o) → Q (some (.ref s.heap.objs.size)) { s with heap := h' }) : wpAny (model prog w) A (pyNext (.ref z)) Q E s := by
  have hTy : s.TypeIs (.ref z) "zip" := ⟨_, hz, rfl⟩
  unfold pyNext
  exact wpAny_bind (wpAny_attempt (wpAny_callSpecial?_slot (name := Str.ofString "__next__") hTy F.slot_zip_next
    (wpAny_call_entry F.slot_zip_next hTy F.entry_zip_next
      (zip2_itemH D hz hT hTI h1 h2 l1 l2 x1 x2 fun h' b1 c1 c2 b3 b4 b5 => wpAny_pure (hQ h' b1 c1 c2 b3 b4 b5)) (F.args_zip_next_1 _))))
theorem zip2_stopH {Q : Option Value → Shared → Prop} (hh : A.handled = none) (D : Apart2 z TI TO i1 i2 a1 a2) (hz : IsZH s.heap z TI TO T st f) (hT : s.heap.get? T = some oT) (hTI : IsTupV s.heap TI [.ref i1, .ref i2]) (h1 : SIt t1 s.heap i1 a1 k) (h2 : SIt t2 s.heap i2 a2 k) (l1 : SOb t1 s.heap a1 xs1) (l2 : SOb t2 s.heap a2 xs2) (hend : (xs1[k]? = none ∧ xs2[k]? = none) ∨ (st = false ∧ (xs1[k]? = none ∨ xs2[k]? = none)))
    (hQ : ∀ h', (∀ c o, c ≠ z → c ≠ i1 → c ≠ i2 → s.heap.get? c = some o → h'.get? c = some o) → Q none { s with heap := h' }) : wpAny (model prog w) A (pyNext (.ref z)) Q E s := by
  have hTy : s.TypeIs (.ref z) "zip" := ⟨_, hz, rfl⟩
  unfold pyNext
  refine wpAny_bind (wpAny_attempt (wpAny_callSpecial?_slot (name := Str.ofString "__next__") hTy F.slot_zip_next
    (wpAny_call_entry F.slot_zip_next hTy F.entry_zip_next (zip2_endH hh D hz hT hTI h1 h2 l1 l2 hend fun h' e hk he => ?_) (F.args_zip_next_1 _))))
  obtain ⟨o, ho, hc⟩ := he
  refine wpAny_bind (wpAny_isInstance (T := "StopIteration") (b := true) ⟨o, ho, hc⟩ isSubtype_stop ?_)
  exact wpAny_pure (hQ _ hk)
end
/-- the zip and its tuples behind i items, the first tuple at n0 -/
structure ZS (z TI TO i1 i2 a1 a2 n0 : Addr) (st t1 t2 : Bool) (xs1 xs2 : Array Value) (i : Nat) (h : Heap) : Prop where
  zp : (i = 0 ∧ IsZ h z TI TO st .none) ∨ (0 < i ∧ ∃ f, IsZH h z TI TO n0 st f)
  ti : IsTupV h TI [.ref i1, .ref i2]
  to : ∃ p1 p2, IsTupV h TO [p1, p2]
  s1 : SIt t1 h i1 a1 i
  s2 : SIt t2 h i2 a2 i
  l1 : SOb t1 h a1 xs1
  l2 : SOb t2 h a2 xs2
  sz : h.objs.size = n0 + i
  tp : ∀ j, j < i → ∃ u1 u2, xs1[j]? = some u1 ∧ xs2[j]? = some u2 ∧ IsTupV h (n0 + j) [u1, u2]
section
variable {prog : Program} {w : World} {A : Around} {E : Value → Shared → Prop} {s : Shared} {k : Nat} {st f : Bool} {z TI TO i1 i2 a1 a2 n0 : Addr} {t1 t2 : Bool} {xs1 xs2 : Array Value} {u1 u2 : Value}
theorem ZS.keep {i : Nat} {h h' : Heap} {S : Addr} (x : ZS z TI TO i1 i2 a1 a2 n0 st t1 t2 xs1 xs2 i h) (D : Apart2 z TI TO i1 i2 a1 a2) (hS : S ≠ z ∧ S ≠ TI ∧ S ≠ TO ∧ S ≠ i1 ∧ S ≠ i2 ∧ S ≠ a1 ∧ S ≠ a2 ∧ S < n0) (hz : h'.objs.size = h.objs.size)
    (hk : ∀ c o, c ≠ S → h.get? c = some o → h'.get? c = some o) : ZS z TI TO i1 i2 a1 a2 n0 st t1 t2 xs1 xs2 i h' := by
  obtain ⟨q1, q2, q3, q4, q5, q6, q7, q8⟩ := hS
  refine ⟨?_, hk _ _ q2.symm x.ti, ?_, x.s1.at fun o e => hk _ o q4.symm e, x.s2.at fun o e => hk _ o q5.symm e, x.l1.at fun o e => hk _ o q6.symm e, x.l2.at fun o e => hk _ o q7.symm e, by rw [hz]; exact x.sz, fun j hj => ?_⟩
  · rcases x.zp with ⟨e, y⟩ | ⟨e, f, y⟩
    · exact .inl ⟨e, hk _ _ q1.symm y⟩
    · exact .inr ⟨e, f, hk _ _ q1.symm y⟩
  · obtain ⟨p1, p2, y⟩ := x.to
    exact ⟨p1, p2, hk _ _ q3.symm y⟩
  · obtain ⟨u1, u2, y1, y2, y3⟩ := x.tp j hj
    exact ⟨u1, u2, y1, y2, hk _ _ (add_ne q8) y3⟩
theorem ZS.next {i : Nat} {Q : Option Value → Shared → Prop} (D : Apart2 z TI TO i1 i2 a1 a2) (lo : z < n0 ∧ TO < n0 ∧ i1 < n0 ∧ i2 < n0 ∧ a1 < n0 ∧ a2 < n0) (x : ZS z TI TO i1 i2 a1 a2 n0 st t1 t2 xs1 xs2 i s.heap) (e1 : xs1[i]? = some u1) (e2 : xs2[i]? = some u2)
    (hQ : ∀ h', ZS z TI TO i1 i2 a1 a2 n0 st t1 t2 xs1 xs2 (i + 1) h' → (∀ c o, c ≠ z → c ≠ TO → c ≠ i1 → c ≠ i2 → s.heap.get? c = some o → h'.get? c = some o) → Q (some (.ref (n0 + i))) { s with heap := h' }) :
    wpAny (model prog w) A (pyNext (.ref z)) Q E s := by
  obtain ⟨p1, p2, hTO⟩ := x.to
  obtain ⟨lz, lTO, li1, li2, la1, la2⟩ := lo
  have fin : ∀ h', (∃ f, IsZH h' z TI TO n0 st f) → (∃ p1 p2, IsTupV h' TO [p1, p2]) → SIt t1 h' i1 a1 (i + 1) → SIt t2 h' i2 a2 (i + 1) → IsTupV h' s.heap.objs.size [u1, u2] → h'.objs.size = s.heap.objs.size + 1 →
      (∀ c o, c ≠ z → c ≠ TO → c ≠ i1 → c ≠ i2 → s.heap.get? c = some o → h'.get? c = some o) → ZS z TI TO i1 i2 a1 a2 n0 st t1 t2 xs1 xs2 (i + 1) h' := fun h' b1 b2 c1 c2 b3 b4 b5 => by
    refine ⟨.inr ⟨Nat.succ_pos _, b1⟩, b5 _ _ D.TI_z D.TI_TO D.TI_i1 D.TI_i2 x.ti, b2, c1, c2, x.l1.at fun o e => b5 _ o D.a1_z D.a1_TO D.a1_i1 D.a1_i2 e, x.l2.at fun o e => b5 _ o D.a2_z D.a2_TO D.a2_i1 D.a2_i2 e, by rw [b4, x.sz]; rfl, fun j hj => ?_⟩
    by_cases hji : j = i
    · subst hji
      rw [x.sz] at b3
      exact ⟨u1, u2, e1, e2, b3⟩
    · obtain ⟨v1, v2, y1, y2, y3⟩ := x.tp j (by omega)
      have ne : ∀ a : Addr, a < n0 → (n0 + j : Nat) ≠ a := fun a ha => add_ne ha
      exact ⟨v1, v2, y1, y2, b5 _ _ (ne _ lz) (ne _ lTO) (ne _ li1) (ne _ li2) y3⟩
  have fz : (n0 + i : Nat) = s.heap.objs.size := x.sz.symm
  rcases x.zp with ⟨e0, hz⟩ | ⟨e0, f, hz⟩
  · subst e0
    have f0 : s.heap.objs.size = n0 := x.sz
    refine zip2_next D hz x.ti hTO x.s1 x.s2 x.l1 x.l2 e1 e2 fun h' b1 b2 c1 c2 b3 b4 b5 => ?_
    have r := hQ h' (fin h' ⟨false, by rw [← f0]; exact b1⟩ ⟨_, _, b2⟩ c1 c2 b3 b4 b5) b5
    rw [fz] at r
    exact r
  · obtain ⟨v1, v2, _, _, y3⟩ := x.tp 0 e0
    refine zip2_nextH D hz y3 x.ti x.s1 x.s2 x.l1 x.l2 e1 e2 fun h' b1 c1 c2 b3 b4 b5 => ?_
    have b5' : ∀ c o, c ≠ z → c ≠ TO → c ≠ i1 → c ≠ i2 → s.heap.get? c = some o → h'.get? c = some o := fun c o q1 _ q2 q3 => b5 c o q1 q2 q3
    have r := hQ h' (fin h' ⟨_, b1⟩ ⟨p1, p2, b5 _ _ D.TO_z D.TO_i1 D.TO_i2 hTO⟩ c1 c2 b3 b4 b5') b5'
    rw [fz] at r
    exact r
theorem ZS.stop {i : Nat} {Q : Option Value → Shared → Prop} (hh : A.handled = none) (D : Apart2 z TI TO i1 i2 a1 a2) (x : ZS z TI TO i1 i2 a1 a2 n0 st t1 t2 xs1 xs2 i s.heap) (hend : (xs1[i]? = none ∧ xs2[i]? = none) ∨ (st = false ∧ (xs1[i]? = none ∨ xs2[i]? = none)))
    (hQ : ∀ h', (∀ c o, c ≠ z → c ≠ TO → c ≠ i1 → c ≠ i2 → s.heap.get? c = some o → h'.get? c = some o) → Q none { s with heap := h' }) :
    wpAny (model prog w) A (pyNext (.ref z)) Q E s := by
  obtain ⟨p1, p2, hTO⟩ := x.to
  rcases x.zp with ⟨e0, hz⟩ | ⟨e0, f, hz⟩
  · subst e0
    exact zip2_stop hh D hz x.ti hTO x.s1 x.s2 x.l1 x.l2 hend hQ
  · obtain ⟨v1, v2, _, _, y3⟩ := x.tp 0 e0
    exact zip2_stopH hh D hz y3 x.ti x.s1 x.s2 x.l1 x.l2 hend fun h' hk => hQ h' fun c o q1 _ q2 q3 => hk c o q1 q2 q3
end
section
variable {prog : Program} {w : World} {A : Around} {E : Value → Shared → Prop} {s : Shared} {st : Bool} {z TI TO i1 i2 a1 a2 : Addr} {t1 t2 : Bool} {xs1 xs2 : Array Value}
end
section
variable {X : Cx} {pins : List (Addr × Obj)} {σ : L2.St} {H : Hp} {s : Shared}
variable {e1 e2 : Expr} {ta : TA} {p zp pos zpos : Pos}
end
def nZip (st : Bool) (f : EA) : EN := fun b s M => (f b s M).bind fun ds M1 => match ds with
  | [x, y] => match seqOf M1 x, seqOf M1 y with
    | some xs, some ys => if st = true ∧ xs.length ≠ ys.length then .bad else .ok (zipD xs ys) M1
    | _, _ => .bad
  | _ => .bad
section
variable {X : Cx} {Z : WX} {e1 e2 : Expr} {fs : EA} {p zp pos zpos : Pos} {st : Bool}
end
end LW
namespace LW
open PySem PySem.Spec PyProof.Rows L2
section
variable {prog : Program} {w : World} {A : Around} {E : Value → Shared → Prop} {I : Addr} {fp wr : List Addr} {N : Nat} {P : Nat → Value → Prop} {St : Nat → Heap → Prop}
theorem walk_shift (W : Walks prog w A I fp wr N P St) (k : Nat) (hk : k ≤ N) : Walks prog w A I fp wr (N - k) (fun i => P (k + i)) (fun i => St (k + i)) where
  sub := W.sub
  frame := fun i h h' st hk => W.frame (k + i) h h' st hk
  item := fun i s Q E hi st hQ => W.item (k + i) s Q E (by omega) st hQ
  done := fun s Q E st hQ => W.done s Q E (by have e : k + (N - k) = N := by omega
                                              rw [e] at st; exact st) hQ
  self := fun i s Q E st hQ => W.self (k + i) s Q E st hQ
theorem draw_walk (W : Walks prog w A I fp wr N P St) : ∀ (n i : Nat) (s : Shared) (Q : List Value → Shared → Prop), i + n ≤ N → St i s.heap →
    (∀ h' tk (vs : List Value), vs.length = n → (∀ j v, vs[j]? = some v → P (i + j) v) → St (i + n) h' → (∀ b o, b ∉ wr → s.heap.get? b = some o → h'.get? b = some o) → Q vs { s with heap := h', toks := tk }) →
    wpAny (model prog w) A (draw (.ref I) n) Q E s
  | 0, i, s, Q, _, st, hQ => by
    show wpAny _ _ (pure []) Q E s
    exact wpAny_pure (hQ s.heap s.toks [] rfl (fun j v h => by simp at h) st fun b o _ e => e)
  | n + 1, i, s, Q, hle, st, hQ => by
    show wpAny _ _ (pyNext (.ref I) >>= _) Q E s
    refine wpAny_bind (W.item i s _ _ (by omega) st fun v h1 tk1 hv st1 hk1 => ?_)
    refine wpAny_bind (wpAny_holding (draw_walk W n (i + 1) _ _ (by omega) st1 fun h2 tk2 vs hl hvs st2 hk2 => wpAny_pure ?_))
    refine hQ h2 tk2 (v :: vs) (by rw [List.length_cons, hl]) (fun j u hj => ?_) (by rw [show i + (n + 1) = i + 1 + n by omega]; exact st2) fun b o hb e => hk2 b o hb (hk1 b o hb e)
    cases j with
    | zero =>
      have e : v = u := Option.some.inj hj
      subst e
      exact hv
    | succ j =>
      have := hvs j u (by simpa using hj)
      rw [show i + (j + 1) = i + 1 + j by omega]
      exact this
end
section
variable {prog : Program} {w : World} {A : Around} {E : Value → Shared → Prop} {s : Shared}
theorem unpack_core {T : String} {I ax : Addr} {items : Array Value} {n : Nat} {St : Nat → Heap → Prop} {Q : List Value → Shared → Prop} (hh : A.handled = none) (hT : T = "str_ascii_iterator" ∨ T = "str_iterator" ∨ T = "list_iterator" ∨ T = "tuple_iterator")
    (W : ∀ A : Around, A.handled = none → Walks prog w A I [I, ax] [I] items.size (fun i v => items[i]? = some v) St) (hTy : ∀ (i : Nat) (s : Shared), St i s.heap → s.TypeIs (.ref I) T) (hax : ∀ (i : Nat) (h : Heap), St i h → ax < h.objs.size ∧ I < h.objs.size)
    (st : St 0 s.heap) (hn : n ≤ items.size) (hz : items.size ≤ sizeLine)
    (hQ : ∀ (h' : Heap) (tk : Nat), (∀ b o, b ≠ I → s.heap.get? b = some o → h'.get? b = some o) → Q (items.toList.take n ++ [.ref h'.objs.size]) { s with heap := h'.push { cls := .type "list", data := .seq (items.toList.drop n).toArray }, toks := tk }) :
    wpAny (model prog w) A (do
      let first ← holding [.ref I] (draw (.ref I) n)
      if first.length < n then
        rule "unpack.star.too-few-before"
        raiseError "ValueError" s!"not enough values to unpack (expected at least {n + 1 - 1}, got {first.length})"
      let rest ← holding first (collect (.ref I))
      let after := n + 1 - 1 - n
      if rest.length < after then
        rule "unpack.star.too-few"
        raiseError "ValueError" s!"not enough values to unpack (expected at least {n + 1 - 1}, got {n + rest.length})"
      let mid := rest.length - after
      return first ++ [← newList (rest.take mid)] ++ rest.drop mid) Q E s := by
  refine wpAny_bind (wpAny_holding (draw_walk (W A hh) n 0 _ _ (by omega) st fun h1 tk1 vs hl hvs st1 hk1 => ?_))
  rw [if_neg (by omega)]
  rw [Nat.zero_add] at st1
  refine wpAny_bind (wpAny_holding (wpAny_collect_iter (s := { s with heap := h1, toks := tk1 }) hT (walk_shift (W A.in1 hh) n hn).toS (fun i s st => hTy (n + i) s st) (by simpa using st1) (fun b hb => ?_) (by simp) (fun s' acc hm hacc => ?_) (by omega)))
  · have := hax n h1 st1
    rcases (by simpa using hb : b = I ∨ b = ax) with rfl | rfl
    · exact this.2
    · exact this.1
  · have e0 : n + 1 - 1 - n = 0 := by omega
    simp only [e0, Nat.not_lt_zero, if_false, Nat.sub_zero, List.take_length, List.drop_length, List.append_nil]
    have ev : vs = items.toList.take n := by
      apply List.ext_getElem?
      intro j
      by_cases hj : j < n
      · have h1 : vs[j]? = some (vs[j]'(by omega)) := List.getElem?_eq_getElem (by omega)
        have h2 := hvs j _ h1
        rw [h1, List.getElem?_take, if_pos hj]
        rw [Nat.zero_add] at h2
        rw [← h2]
        simp
      · rw [List.getElem?_eq_none (by omega), List.getElem?_eq_none (by rw [List.length_take]; simp; omega)]
    have ea : acc.toList = items.toList.drop n := by
      apply List.ext_getElem?
      intro j
      have hsz : acc.size = items.size - n := hacc.1
      by_cases hj : j < items.size - n
      · have h1 : acc.toList[j]? = some (acc[j]'(by omega)) := by simp [hsz, hj]
        have h2 := hacc.2 j _ (by rw [← h1]; simp)
        have h2 : items[n + j]? = some (acc[j]'(by omega)) := h2
        rw [h1, List.getElem?_drop, ← h2]
        simp
      · rw [List.getElem?_eq_none (by simp; omega), List.getElem?_eq_none (by simp; omega)]
    rw [ev, ea]
    refine wpAny_bind (wpAny_newList (wpAny_pure ?_) ?_)
    · have := hQ s'.heap s'.toks fun b o hb e => hm.heap b o (by simpa using hb) (hk1 b o (by simpa using hb) e)
      rw [Moved.eq_with hm]
      exact this
    · rw [List.length_drop]
      simp
      omega
theorem unpack_star {tp : Bool} {a : Addr} {items : Array Value} {n : Nat} {Q : List Value → Shared → Prop} (hh : A.handled = none) (ob : SOb tp s.heap a items) (hn : n ≤ items.size) (hz : items.size ≤ sizeLine)
    (hQ : ∀ (h' : Heap) (tk : Nat), (∀ b o, s.heap.get? b = some o → h'.get? b = some o) → Q (items.toList.take n ++ [.ref h'.objs.size]) { s with heap := h'.push { cls := .type "list", data := .seq (items.toList.drop n).toArray }, toks := tk }) :
    wpAny (model prog w) A (unpackItems (.ref a) (n + 1) (some n)) Q E s := by
  have fin : ∀ (h' : Heap) (tk : Nat), (∀ b o, b ≠ s.heap.objs.size → (s.heap.push (itO tp a)).get? b = some o → h'.get? b = some o) → Q (items.toList.take n ++ [.ref h'.objs.size]) { s with heap := h'.push { cls := .type "list", data := .seq (items.toList.drop n).toArray }, toks := tk } :=
    fun h' tk hk => hQ h' tk fun b o e => hk b o (Nat.ne_of_lt (Heap.lt_size e)) (Heap.get?_push_of_some _ e)
  have hne : a ≠ s.heap.objs.size := Nat.ne_of_lt ob.lt
  have it0 : SIt tp (s.heap.push (itO tp a)) s.heap.objs.size a 0 := sit_new (Heap.get?_push_size _ rfl)
  have ob0 : SOb tp (s.heap.push (itO tp a)) a items := ob.at fun o e => Heap.get?_push_of_some _ e
  unfold unpackItems
  cases tp with
  | true =>
    have ht : s.heap.IsTuple a items := ob
    refine wpAny_bind ?_
    unfold notIterableAtAll
    refine wpAny_bind (wpAny_specialOf ht.typeIs F.slot_tuple_iter.lookup ?_)
    refine wpAny_pure ?_
    simp only [Bool.false_eq_true, if_false]
    refine wpAny_bind (wpAny_holding (pyIter_seq (tp := true) ob ?_))
    exact unpack_core (T := "tuple_iterator") (ax := a) hh (by simp) (fun A hA => Walks.tuple hA _ a hne items) (fun i s st => st.1.typeIs) (fun i h st => ⟨SOb.lt (tp := true) st.2, SIt.lt (tp := true) st.1⟩) ⟨it0, ob0⟩ hn hz fin
  | false =>
    have ht : s.heap.IsList a items := ob
    refine wpAny_bind ?_
    unfold notIterableAtAll
    refine wpAny_bind (wpAny_specialOf ht.typeIs F.slot_list_iter.lookup ?_)
    refine wpAny_pure ?_
    simp only [Bool.false_eq_true, if_false]
    refine wpAny_bind (wpAny_holding (pyIter_seq (tp := false) ob ?_))
    exact unpack_core (T := "list_iterator") (ax := a) hh (by simp) (fun A hA => Walks.list hA _ a hne items) (fun i s st => st.1.typeIs) (fun i h st => ⟨SOb.lt (tp := false) st.2, SIt.lt (tp := false) st.1⟩) ⟨it0, ob0⟩ hn hz fin
end
theorem vals_drop : ∀ (n : Nat) {xs : List V} {us : List Value}, Vals xs us → Vals (xs.drop n) (us.drop n)
  | 0, _, _, r => r
  | _ + 1, _, _, .nil => .nil
  | n + 1, _, _, .cons _ r => vals_drop n r
theorem vals_take : ∀ (n : Nat) {xs : List V} {us : List Value}, Vals xs us → Vals (xs.take n) (us.take n)
  | 0, _, _, _ => .nil
  | _ + 1, _, _, .nil => .nil
  | n + 1, _, _, .cons h r => .cons h (vals_take n r)
theorem vals_app : ∀ {xs ys : List V} {us vs : List Value}, Vals xs us → Vals ys vs → Vals (xs ++ ys) (us ++ vs)
  | _, _, _, _, .nil, s => s
  | _, _, _, _, .cons h r, s => .cons h (vals_app r s)
def gpStar (K : PySem.W.Frag) (n : Nat) (t : TGs) : TG := fun v σ H Q => ∃ (a : Addr) (tp : Bool) (xs : List V), v = .ref a ∧ Sq tp K H a xs ∧ n ≤ xs.length ∧ ∀ l, H l = none → t (xs.take n ++ [.ref l]) σ (upd H l (.lst (xs.drop n))) Q
/-- the last name takes the rest, a new list -/
def gStar (n : Nat) (ts : List Tg) : EG := fun _ d s M => match seqOf M d with
  | some xs => if n ≤ xs.length then (bindTs M ts (xs.take n ++ [.lst (xs.drop n)]) s).map fun s1 => (s1, M) else none
  | none => none
section
variable {X : Cx} {pos : Pos} {es es' : List Expr} {k n : Nat}
theorem pg_star {t : TGs} (hc : X.calm = true) (h : PGs X es' t) (hn : (assignEach es X.env).length = n + 1) (hst : (assignEach es X.env).findIdx? (·.1) = some n) (hm : (assignEach es X.env).map (·.2) = (assignEach es' X.env).map (·.2)) :
    PG X (.Tuple es k pos) (gpStar X.K n t) := by
  refine ⟨fun pins s σ H v u Q I r hw => ?_⟩
  obtain ⟨a, tp, xs, e1, hq, hl, hw⟩ := hw
  subst e1
  cases r
  obtain ⟨its, rv, ob⟩ := I.sq hq
  have L := rv.length
  have hz : xs.length ≤ sizeLine := by
    cases tp with
    | true => obtain ⟨_, _, _, hz⟩ := I.tuple (show SqT X.K H a xs from hq); exact hz
    | false => obtain ⟨_, _, _, hz⟩ := I.list (show SqL X.K H a xs from hq); exact hz
  rw [assign_Tuple]
  refine wpAny_bind (wpAny_standAt ?_)
  unfold unpack
  rw [hn, hst, hm]
  refine wpAny_bind (wpAny_holding (unpack_star (I.ok.hd hc) ob (by simp; omega) (by simp; omega) fun h' tk hk => ?_))
  have I1 : Inv X pins σ H { s with heap := h', toks := tk } := I.kept hk
  have rd : Vals (xs.drop n) (its.drop n) := vals_drop n rv
  have rt : Vals (xs.take n) (its.take n) := vals_take n rv
  have new : ObjOk X.prog X.w (upd H h'.objs.size (.lst (xs.drop n))) (h'.push { cls := .type "list", data := .seq (its.drop n).toArray }) h'.objs.size (.lst (xs.drop n)) :=
    ⟨by rw [List.length_drop]; omega, its.drop n, _, rd, Heap.get?_push_size _ rfl⟩
  have I2 := I1.laid (t' := tk) (fun b u e => Heap.get?_push_of_some _ e) (Nat.le_refl _) new
  exact h.run pins _ σ _ (xs.take n ++ [.ref h'.objs.size]) _ Q I2 (by have := vals_app rt (show Vals [V.ref h'.objs.size] [Value.ref h'.objs.size] from .cons rfl .nil); simpa using this) (hw _ (I1.hok.fresh (Nat.le_refl _)))
theorem tg_star {ts : List Tg} (hc : X.calm = true) (h : SGs X es' ts) (hn : (assignEach es X.env).length = n + 1 := by rfl) (hst : (assignEach es X.env).findIdx? (·.1) = some n := by rfl) (hm : (assignEach es X.env).map (·.2) = (assignEach es' X.env).map (·.2) := by rfl) :
    TGT X (.Tuple es k pos) (gStar n ts) := by
  refine (pg_star hc h hn hst hm).weak fun v σ H Q ⟨W, s, M, d, s1, M1, m, sr, r, e, q⟩ => ?_
  unfold gStar at e
  cases hs : seqOf M d with
  | none => simp only [hs] at e; cases e
  | some xs =>
    simp only [hs] at e
    split at e
    · rename_i hl
      obtain ⟨s2, e1, e2⟩ := Option.map_eq_some_iff.mp e
      cases e2
      obtain ⟨a, vs, rfl, hq, rs⟩ := sq_read m hs r
      refine ⟨a, _, vs, rfl, hq, by rw [← rs.length]; exact hl, fun l hl0 => ?_⟩
      have x := m.xnew (o := .lst (vs.drop n)) hl0
      have mr := m.new (o := .lst (vs.drop n)) hl0
      refine ⟨W, s, M, _, s1, mr, sr.mono x.toLe, ((rs.take n).mono x.toLe).append (.one (.lst ⟨upd_same, m.fresh hl0⟩ ((rs.drop n).mono x.toLe))), e1, fun σ2 sr2 _ _ => q W _ σ2 x mr sr2⟩
    · cases e
end
end LW
namespace LW
open PySem PySem.Spec PyProof.Rows L2
abbrev ZF : WX := fun _ _ _ _ => False
section
variable {G : Gm} {H H' : Hp} {W W' : Wd} {M : Mem} {D' : Addr}
theorem wipeD_len (s : Slots) : ∀ vs : List Nat, (wipeD s vs).length = s.length
  | [] => rfl
  | v :: vs => by unfold wipeD; rw [List.length_set, wipeD_len s vs]
theorem wipeD_some {s : Slots} {i : Nat} {x : D} : ∀ {vs : List Nat}, (wipeD s vs)[i]? = some (some x) → s[i]? = some (some x) ∧ i ∉ vs
  | [], h => ⟨h, by simp⟩
  | v :: vs, h => by
    unfold wipeD at h
    by_cases hi : v = i
    · subst hi
      by_cases hv : v < (wipeD s vs).length
      · rw [List.getElem?_set_self hv] at h; cases h
      · rw [List.getElem?_eq_none (by simpa using hv)] at h; cases h
    · rw [List.getElem?_set_ne hi] at h
      obtain ⟨h1, h2⟩ := wipeD_some h
      exact ⟨h1, by simp only [List.mem_cons, not_or]; exact ⟨fun e => hi e.symm, h2⟩⟩
theorem SR.wipe {s : Slots} {t : L2.St} (r : SR G H W s t) (vs : List Nat) : SR G H W (wipeD s vs) (wipe t vs) := by
  refine ⟨by rw [wipeD_len, wipe_length]; exact r.len, fun i d e => ?_⟩
  obtain ⟨h1, h2⟩ := wipeD_some e
  obtain ⟨v, hv, rd⟩ := r.at_ i d h1
  exact ⟨v, by rw [wipe_out h2]; exact hv, rd⟩
theorem wipe_eq {t t2 : L2.St} (hl : t2.length = t.length) : ∀ {vs : List Nat}, (∀ i : Nat, i ∉ vs → t2[i]? = t[i]?) → wipe t2 vs = wipe t vs := by
  intro vs h
  apply List.ext_getElem?
  intro i
  by_cases hi : i ∈ vs
  · have key : ∀ (t : L2.St) (vs : List Nat), i ∈ vs → (wipe t vs)[i]? = if i < t.length then some none else none := by
      intro t vs
      induction vs with
      | nil => intro h; simp at h
      | cons v vs ih =>
        intro h
        unfold wipe
        by_cases hv : v = i
        · subst hv
          by_cases hl : v < t.length
          · rw [List.getElem?_set_self (by rw [wipe_length]; exact hl), if_pos hl]
          · rw [List.getElem?_eq_none (by rw [List.length_set, wipe_length]; omega), if_neg hl]
        · rw [List.getElem?_set_ne hv]
          exact ih ((List.mem_cons.mp h).resolve_left fun e => hv e.symm)
    rw [key t2 vs hi, key t vs hi, hl]
  · rw [wipe_out hi, wipe_out hi]
    exact h i hi
theorem avo_eta (h : W'.av = (W.avo D').av) : ({ W' with av := W.av } : Wd).avo D' = W' := by
  unfold Wd.avo
  cases W'
  simp only at h ⊢
  congr
  exact h.symm
end
section
variable {X : Cx} {Z : WX} {pos : Pos} {elt tg iter : Expr} {ifs : List Expr} {scope : Scope} {own : List (Str × Nat)} {it : EI} {t : Tg} {c : ET} {e : ES}
theorem sts_nil : PTs X [] (liftT (gm X) Z tTrue) := ⟨fun pins s σ H Q I q => pts_nil.run pins s σ H Q I (by
  obtain ⟨W, sl, M, m, sr, p⟩ := q
  exact Post.here (a := true) p m)⟩
theorem compL_cons {b : Nat} {hs : List Nat} {M0 M MT : Mem} {s : Slots} {d : D} {r zs : List D} (h : compL b hs M0 t c e s (d :: r) M = .ok zs MT) :
    ∃ s1 k M1, bindT M t d s = some s1 ∧ c b s1 M = .ok k M1 ∧ ((k = true ∧ ∃ y M2 zs', e b s1 M1 = .ok y M2 ∧ gdOk hs M0 M2 ∧ compL b hs M0 t c e s r M2 = .ok zs' MT ∧ zs = y :: zs') ∨ (k = false ∧ gdOk hs M0 M1 ∧ compL b hs M0 t c e s r M1 = .ok zs MT)) := by
  unfold compL at h
  cases h1 : bindT M t d s with
  | none => simp only [h1] at h; cases h
  | some s1 =>
    simp only [h1] at h
    cases h2 : c b s1 M with
    | bad => simp only [h2, nox_bad, bind_bad] at h; cases h
    | exc q1 q2 q3 => simp only [h2, nox_exc, bind_bad] at h; cases h
    | ok k M1 =>
      simp only [h2, nox_ok, bind_ok] at h
      refine ⟨s1, k, M1, rfl, h2, ?_⟩
      cases k with
      | false =>
        simp only [Bool.false_eq_true, if_false] at h
        split at h
        · rename_i hg
          exact .inr ⟨rfl, hg, h⟩
        · cases h
      | true =>
        simp only [if_true] at h
        cases h3 : e b s1 M1 with
        | bad => simp only [h3, nox_bad, bind_bad] at h; cases h
        | exc q1 q2 q3 => simp only [h3, nox_exc, bind_bad] at h; cases h
        | ok y M2 =>
          simp only [h3, nox_ok, bind_ok] at h
          split at h
          · rename_i hg
            cases h4 : compL b hs M0 t c e s r M2 with
            | bad => simp only [h4, bind_bad] at h; cases h
            | exc q1 q2 q3 => simp only [h4, bind_exc] at h; cases h
            | ok zs' M3 =>
              simp only [h4, bind_ok] at h
              cases h
              exact .inl ⟨rfl, y, M2, zs', by first | exact h3 | rfl, hg, h4, rfl⟩
          · cases h
theorem compL_noexc {b : Nat} {hs : List Nat} {M0 : Mem} {s : Slots} : ∀ (ds : List D) (M : Mem) (q1 : Str) (q2 : D) (q3 : Mem), compL b hs M0 t c e s ds M ≠ .exc q1 q2 q3
  | [], M, q1, q2, q3, h => by simp [compL] at h
  | d :: r, M, q1, q2, q3, h => by
    unfold compL at h
    cases h1 : bindT M t d s with
    | none => simp only [h1] at h; cases h
    | some s1 =>
      simp only [h1] at h
      cases h2 : c b s1 M with
      | bad => simp only [h2, nox_bad, bind_bad] at h; cases h
      | exc q1 q2 q3 => simp only [h2, nox_exc, bind_bad] at h; cases h
      | ok k M1 =>
        simp only [h2, nox_ok, bind_ok] at h
        cases k with
        | false =>
          simp only [Bool.false_eq_true, if_false] at h
          split at h
          · exact compL_noexc r M1 q1 q2 q3 h
          · cases h
        | true =>
          simp only [if_true] at h
          cases h3 : e b s1 M1 with
          | bad => simp only [h3, nox_bad, bind_bad] at h; cases h
          | exc q1 q2 q3 => simp only [h3, nox_exc, bind_bad] at h; cases h
          | ok y M2 =>
            simp only [h3, nox_ok, bind_ok] at h
            split at h
            · cases h4 : compL b hs M0 t c e s r M2 with
              | bad => simp only [h4, bind_bad] at h; cases h
              | exc q1 q2 q3 => exact compL_noexc r M2 q1 q2 q3 h4
              | ok zs' M3 => simp only [h4, bind_ok] at h; cases h
            · cases h
/-- the avoided list grows -/
theorem poke {G : Gm} {H : Hp} {W : Wd} {M : Mem} {p : Addr} {o : HO} (m : MR G H (W.avo p) M) (nt : NoTup o := by intro _ h; cases h) : Le H (W.avo p) (upd H p o) (W.avo p) ∧ MR G (upd H p o) (W.avo p) M := by
  have x : Le H (W.avo p) (upd H p o) (W.avo p) := ⟨Nat.le_refl _, fun _ _ => rfl, fun a u h n => ⟨by rw [upd_ne fun e => n (Wd.avo_im.mpr (.inl e))]; exact h, n⟩⟩
  refine ⟨x, m.len, m.inj, m.bn, m.lm, fun a h => ⟨?_, (m.avt a h).2⟩, fun h c e => (m.cell h c e).mono x rfl rfl (by rw [← m.len]; exact lt_of_get e) (upd_ne fun z => (m.avt p (.inl rfl)).2 h (by rw [← m.len]; exact lt_of_get e) z)⟩
  by_cases ha : a = p
  · subst ha; exact ⟨o, upd_same, nt⟩
  · rw [upd_ne ha]; exact (m.avt a h).1
structure CompAt (G : Gm) (H1 : Hp) (W1 : Wd) (p : Addr) (W : Wd) (H : Hp) (M : Mem) (ys : List D) : Prop where
  x : Ext H1 W1 H W
  m : MR G H (W.avo p) M
  np : ¬ W.im p
  l : ∃ ws, H p = some (.lst ws) ∧ RDs G H (W.avo p) ys ws
/-- a step within the avoiding world -/
theorem CompAt.step {G : Gm} {H1 H H' : Hp} {W1 W W' : Wd} {p : Addr} {M M' : Mem} {ys : List D} (a : CompAt G H1 W1 p W H M ys) (x : Ext H (W.avo p) H' W') (m : MR G H' W' M') : ∃ W2, W' = W2.avo p ∧ CompAt G H1 W1 p W2 H' M' ys := by
  have e : ({ W' with av := W.av } : Wd).avo p = W' := avo_eta x.av
  refine ⟨{ W' with av := W.av }, e.symm, ?_, ?_, ?_, ?_⟩
  · have k : Ext H W H' { W' with av := W.av } := by
      refine ⟨⟨x.n, x.pe, fun b o h n => ?_⟩, x.b, x.lim, rfl, fun b h => x.avk b (.inr h)⟩
      by_cases hb : b = p
      · subst hb
        refine ⟨by rw [x.avk b (.inl rfl)]; exact h, ?_⟩
        rintro (z | ⟨k, hk, ek⟩)
        · exact n (.inl z)
        · exact (m.avt b (by rw [x.av]; exact .inl rfl)).2 k hk ek
      · have q := x.keep b o h fun z => (Wd.avo_im.mp z).elim hb n
        refine ⟨q.1, fun z => q.2 ?_⟩
        rw [← e]
        exact Wd.avo_im.mpr (.inr z)
    exact a.x.trans k
  · rw [e]; exact m
  · rintro (z | ⟨k, hk, ek⟩)
    · exact a.np (.inl z)
    · exact (m.avt p (by rw [x.av]; exact .inl rfl)).2 k hk ek
  · obtain ⟨ws, h1, h2⟩ := a.l
    refine ⟨ws, by rw [x.avk p (.inl rfl)]; exact h1, ?_⟩
    rw [e]
    exact h2.mono x.toLe
theorem CompAt.push {G : Gm} {H1 H : Hp} {W1 W : Wd} {p : Addr} {M : Mem} {ys : List D} {y : D} {v : V} {ws : List V} (a : CompAt G H1 W1 p W H M ys) (h0 : H1 p = none) (hw : H p = some (.lst ws)) (r : RD G H (W.avo p) y v) : CompAt G H1 W1 p W (upd H p (.lst (ws ++ [v]))) M (ys ++ [y]) := by
  obtain ⟨ws', h1, h2⟩ := a.l
  rw [hw] at h1
  cases h1
  obtain ⟨x, m⟩ := poke (o := .lst (ws ++ [v])) a.m
  refine ⟨⟨⟨a.x.n, a.x.pe, fun b o h n => ?_⟩, a.x.b, a.x.lim, a.x.av, fun b h => ?_⟩, m, a.np, ws ++ [v], upd_same, (h2.mono x).append (.one (r.mono x))⟩
  · have q := a.x.keep b o h n
    exact ⟨by rw [upd_ne (ne_of_none h h0)]; exact q.1, q.2⟩
  · have hb : b ≠ p := fun z => a.np (by rw [← z]; exact .inl (by rw [a.x.av]; exact h))
    rw [upd_ne hb]
    exact a.x.avk b h
/-- what tLc wants -/
theorem lift_comp {G : Gm} {wi : TI} {vs : List Nat} {σ : L2.St} {H : Hp} {Q : VK} (hwi : wi = liftI G Z it) (hsub : ∀ i ∈ t.slots, i ∈ vs) (q : liftN G Z (nComp it vs t c e) σ H Q) :
    tLc wi (tgOf G t) (liftT G ZF c) (liftE G ZF e) vs σ H Q := by
  subst hwi
  obtain ⟨W0, sl, M, m0, sr, po⟩ := q
  refine ⟨W0, sl, M, m0, sr, (PostN.bind m0 po).imp fun p M1 W1 H1 x1 m1 p1 J wd p0 hp0 => ?_⟩
  obtain ⟨ds, hs'⟩ := p
  simp only at p1 wd
  split at p1
  · rename_i hlen
    -- the whole result
    obtain ⟨zT, MT, eT⟩ : ∃ zT MT, compL W0.b hs' M1 t c e (wipeD sl (vs)) ds M1 = .ok zT MT := by
      cases q : compL W0.b hs' M1 t c e (wipeD sl (vs)) ds M1 with
      | ok zT MT => exact ⟨zT, MT, rfl⟩
      | exc q1 q2 q3 => exact absurd q (compL_noexc ds M1 q1 q2 q3)
      | bad => rw [q] at p1; exact p1.elim
    rw [eT] at p1
    have bb : W1.b = W0.b := x1.b
    refine ⟨fun i k H' => k = ds.length - i ∧ i ≤ ds.length ∧ ∃ W M ys zs, CompAt G H1 W1 p0 W H' M ys ∧ ys.length ≤ i ∧ gdOk hs' M1 M ∧ compL W0.b hs' M1 t c e (wipeD sl (vs)) (ds.drop i) M = .ok zs MT ∧ zT = ys ++ zs, ⟨ds.length, by simp, Nat.zero_le _, ?_⟩, ?_⟩
    · refine ⟨W1, M1, [], zT, ⟨m1.xnew hp0, m1.avo hp0, m1.fresh hp0, [], upd_same, .nil⟩, Nat.zero_le _, fun _ _ => rfl, eT, rfl⟩
    · rintro i k H' ⟨rfl, hi', W, M, ys, zs, ca, hy, gd, eC, eZ⟩
      have le1 : Le H1 W1 H' (W.avo p0) := by
        refine ⟨ca.x.n, ca.x.pe, fun b o h n => ?_⟩
        have q := ca.x.keep b o h n
        exact ⟨q.1, fun z => (Wd.avo_im.mp z).elim (fun e => ne_of_none h hp0 e) q.2⟩
      by_cases hlt : i < ds.length
      · refine .inr ⟨wd.goes i _ H' M hlt le1 ca.m gd, _, fun H2 q => ⟨ds.length - (i + 1), by omega, rfl, hlt, q⟩, fun x H2 yl => ?_⟩
        obtain ⟨d, hd, rd, x2, m2⟩ := wd.yields i _ H' M x H2 hlt le1 ca.m gd yl
        obtain ⟨W2, e2, ca2⟩ := ca.step x2 m2
        have edrop : ds.drop i = d :: ds.drop (i + 1) := by
          obtain ⟨h1, h2⟩ := List.getElem?_eq_some_iff.mp hd
          rw [List.drop_eq_getElem_cons h1, h2]
        rw [edrop] at eC
        obtain ⟨s1, kk, M3, hb, hcc, rest⟩ := compL_cons eC
        have sr2 : SR G H2 (W.avo p0) (wipeD sl (vs)) (wipe σ (vs)) := ((sr.mono x1.toLe).mono (le1.trans x2.toLe)).wipe _
        refine ⟨W.avo p0, _, M, d, s1, m2, sr2, rd, hb, fun σ2 sr3 k3 l3 => ⟨?_, ?_⟩⟩
        · refine (wipe_eq l3 fun j hj => k3 j fun z => hj (hsub j z)).trans ?_
          exact wipe_eq (wipe_length _ _) fun j hj => wipe_out hj
        · have bW : (W.avo p0).b = W0.b := ca.x.b.trans bb
          refine ⟨W.avo p0, s1, M, m2, sr3, ?_⟩
          rw [bW, hcc]
          intro W4 H4 x4 m4
          have ca3 : CompAt G H1 W1 p0 W2 H2 M ys := ca2
          have e3 : W.avo p0 = W2.avo p0 := e2
          rw [e3] at x4 sr3
          obtain ⟨W5, e5, ca5⟩ := ca3.step x4 m4
          rcases rest with ⟨rfl, y, M5, zs', hee, hg5, eC5, rfl⟩ | ⟨rfl, hg5, eC5⟩
          · show liftE G ZF e σ2 H4 _
            refine ⟨W4, s1, M3, m4, sr3.mono x4.toLe, ?_⟩
            have b4 : W4.b = W0.b := x4.b.trans (by rw [← e3]; exact bW)
            rw [b4, hee]
            intro W6 H6 x6 m6 v rv
            rw [e5] at x6
            obtain ⟨W7, e7, ca7⟩ := ca5.step x6 m6
            obtain ⟨ws, hw, rw'⟩ := ca7.l
            refine ⟨ws, hw, ?_, W7, M5, ys ++ [y], zs', ca7.push hp0 hw (by rw [← e7]; exact rv), by simp; omega, hg5, eC5, by rw [eZ, List.append_assoc]; rfl⟩
            rw [← rw'.length]
            exact Nat.lt_of_le_of_lt (Nat.le_trans hy (Nat.le_of_lt hlt)) (Nat.lt_of_le_of_lt hlen (by rw [sizeLine_eq]; decide))
          · refine iteF ?_
            exact ⟨W5, M3, ys, zs, ca5, by omega, hg5, eC5, eZ⟩
      · have ei : i = ds.length := by omega
        subst ei
        refine .inl ⟨wd.stops _ H' M le1 ca.m gd, ?_⟩
        rw [List.drop_length] at eC
        have eC' : R.ok [] M = R.ok zs MT := by
          rw [← eC]
          simp [compL]
        cases eC'
        rw [List.append_nil] at eZ
        subst eZ
        obtain ⟨ws, hw, rw'⟩ := ca.l
        exact p1 W H' p0 ws ca.x ca.m rw' hp0 ca.np hw
  · exact p1.elim
theorem sn_comp (hc : X.calm = true) (hN : X.N.Nodup) (hi : SI X Z tg iter it) (ok : BlkOk X.N X.env.scope scope own)
    (hg : ∀ (s : Shared) (H : Hp) (C : Addr) (cl : List (Str × Addr)) (fp : List Addr), SG (X.blk s H scope (compEnvC scope cl C X.env) fp) tg t)
    (ht : ∀ (s : Shared) (H : Hp) (C : Addr) (cl : List (Str × Addr)) (fp : List Addr), PTs (X.blk s H scope (compEnvC scope cl C X.env) fp) ifs (liftT (gm X) ZF c))
    (he : ∀ (s : Shared) (H : Hp) (C : Addr) (cl : List (Str × Addr)) (fp : List Addr), SE (X.blk s H scope (compEnvC scope cl C X.env) fp) ZF elt e)
    (hsub : ∀ i ∈ t.slots, i ∈ own.map (·.2)) (hs : ∀ x, foldedSetIterable iter X.env x = pure x := by intro _; rfl) :
    SN X Z (.ListComp elt [⟨tg, iter, ifs, 0⟩] scope pos) (nComp it (own.map (·.2)) t c e) :=
  (pe_lc (g := tgOf (gm X) t) (tt := liftT (gm X) ZF c) (te := liftE (gm X) ZF e) hc hN hi ok (fun s H C cl fp => hg s H C cl fp) (fun s H C cl fp => ht s H C cl fp) (fun s H C cl fp => he s H C cl fp) hs).weak fun σ H Q q => lift_comp rfl hsub q
end
end LW
namespace LW
open PySem PySem.Spec PyProof.Rows L2
open Classical in
noncomputable def comp2L (b : Nat) (hs : List Nat) (M0 : Mem) (t : Tg) (c : ET) (it1 : EI) (vs1 : List Nat) (t1 : Tg) (c1 : ET) (e : ES) (s : Slots) : List D → Mem → R (List D)
  | [], M => .ok [] M
  | d :: r, M => match bindT M t d s with
    | some s1 => (c b s1 M).nox.bind fun k M1 => if k = true then (it1 b s1 M1).nox.bind fun p M2 => (compL b p.2 M2 t1 c1 e (wipeD s1 vs1) p.1 M2).nox.bind fun ys M3 =>
        if gdOk hs M0 M3 then (comp2L b hs M0 t c it1 vs1 t1 c1 e s r M3).nox.bind fun zs M4 => .ok (ys ++ zs) M4 else .bad
      else if gdOk hs M0 M1 then (comp2L b hs M0 t c it1 vs1 t1 c1 e s r M1).nox else .bad
    | none => .bad
noncomputable def nComp2 (it : EI) (own : List Nat) (t : Tg) (c : ET) (it1 : EI) (vs1 : List Nat) (t1 : Tg) (c1 : ET) (e : ES) : EN := fun b s M => (it b s M).bind fun p M1 => (comp2L b p.2 M1 t c it1 vs1 t1 c1 e (wipeD s own) p.1 M1).nox.bind fun zs M2 => if zs.length ≤ 1000000 then .ok zs M2 else .bad
section
variable {X : Cx} {Z : WX} {pos : Pos} {elt tg iter tg1 iter1 : Expr} {ifs ifs1 : List Expr} {scope : Scope} {own : List (Str × Nat)} {it it1 : EI} {t t1 : Tg} {c c1 : ET} {e : ES} {vs1 : List Nat}
end
end LW
namespace LW
open PySem PySem.Spec PyProof.Rows L2
/-- what is wanted behind a statement's end -/
def PostS (G : Gm) (Z : WX) (H : Hp) (W : Wd) (r : RS) (E : Ends) : Prop := match r with
  | .nx s M => ∀ W' H' t, Ext H W H' W' → MR G H' W' M → SR G H' W' s t → E.nx t H'
  | .rt d M => ∀ W' H' v, Ext H W H' W' → MR G H' W' M → RD G H' W' d v → E.rt v H'
  | .bk s M => ∀ W' H' t, Ext H W H' W' → MR G H' W' M → SR G H' W' s t → E.bk t H'
  | .ct s M => ∀ W' H' t, Ext H W H' W' → MR G H' W' M → SR G H' W' s t → E.ct t H'
  | .exc c d s M => ∀ (W' : Wd) (H' : Hp) (t : L2.St) (C dd : Addr) (v : V), Ext H W H' W' → MR G H' W' M → SR G H' W' s t → RD G H' W' d v → G.mg c = some (.ref C) → H' dd = some (.xd [("what", v)]) → ¬ W'.im dd → Z (.ref C) (some dd) t H'
  | .bad => False
theorem PostS.ext {G : Gm} {Z : WX} {H H1 : Hp} {W W1 : Wd} {r : RS} {E : Ends} (p : PostS G Z H W r E) (x : Ext H W H1 W1) : PostS G Z H1 W1 r E := by
  cases r with
  | nx s M => exact fun W' H' t y m => p W' H' t (x.trans y) m
  | rt d M => exact fun W' H' t y m => p W' H' t (x.trans y) m
  | bk s M => exact fun W' H' t y m => p W' H' t (x.trans y) m
  | ct s M => exact fun W' H' t y m => p W' H' t (x.trans y) m
  | exc c d s M => exact fun W' H' t C dd v y m => p W' H' t C dd v (x.trans y) m
  | bad => exact p
/-- an expression within a statement -/
theorem PostS.toS {G : Gm} {Z : WX} {H : Hp} {W : Wd} {t : L2.St} {s : Slots} {α : Type} {r : R α} {k : α → Mem → RS} {E : Ends} (sr : SR G H W s t) (p : PostS G Z H W (r.toS s k) E) :
    Post G Z t H W r fun a M1 W1 H1 => PostS G Z H1 W1 (k a M1) E := by
  cases r with
  | ok a M => exact fun W' H' x m => PostS.ext (r := k a M) p x
  | exc c d M => exact fun W' H' C dd v x m rd => p W' H' t C dd v x m (sr.mono x.toLe) rd
  | bad => exact p
theorem PostS.nx {G : Gm} {Z : WX} {H : Hp} {W : Wd} {s : Slots} {M : Mem} {t : L2.St} {E : Ends} (p : PostS G Z H W (.nx s M) E) (m : MR G H W M) (sr : SR G H W s t) : E.nx t H := p W H t (.refl _ _) m sr
def liftS (G : Gm) (Z : WX) (f : SS) : TS := fun E t H => ∃ W s M, MR G H W M ∧ SR G H W s t ∧ PostS G Z H W (f W.b s M) E
abbrev SX (X : Cx) (Z : WX) (st : Stmt) (f : SS) : Prop := PS X st (liftS (gm X) Z f)
abbrev SB (X : Cx) (Z : WX) (st : List Stmt) (f : SS) : Prop := PSs X st (liftS (gm X) Z f)
theorem _root_.L2.PS.weak {X : Cx} {st : Stmt} {t t' : TS} (h : PS X st t) (w : ∀ E σ H, t' E σ H → t E σ H) : PS X st t' := ⟨fun pins s σ H E I q => h.run pins s σ H E I (w E σ H q)⟩
theorem _root_.L2.PSs.weak {X : Cx} {st : List Stmt} {t t' : TS} (h : PSs X st t) (w : ∀ E σ H, t' E σ H → t E σ H) : PSs X st t' := ⟨fun pins s σ H E I q => h.run pins s σ H E I (w E σ H q)⟩
section
variable {X : Cx} {Z : WX} {pos : Pos} {st : Stmt} {rest : List Stmt} {u w : SS} {e a b : Expr} {f g : ES} {fa : EA} {c : ET} {o : D → D → Mem → R D}
theorem sb_nil : SB X Z [] sNx := pss_nil.weak fun E σ H ⟨W, s, M, m, sr, p⟩ => PostS.nx p m sr
theorem sb_cons (h1 : SX X Z st u) (h2 : SB X Z rest w) : SB X Z (st :: rest) (sSeq u w) := by
  refine (pss_cons h1 h2).weak fun E σ H ⟨W, s, M, m, sr, p⟩ => ⟨W, s, M, m, sr, ?_⟩
  have e : sSeq u w W.b s M = match u W.b s M with | .nx s1 M1 => w W.b s1 M1 | r => r := rfl
  rw [e] at p
  cases q : u W.b s M with
  | nx s1 M1 =>
    rw [q] at p
    intro W' H' t x m' sr'
    refine ⟨W', s1, M1, m', sr', ?_⟩
    rw [x.b]
    exact PostS.ext p x
  | rt d M1 => rw [q] at p; exact p
  | bk s1 M1 => rw [q] at p; exact p
  | ct s1 M1 => rw [q] at p; exact p
  | exc c d s1 M1 => rw [q] at p; exact p
  | bad => rw [q] at p; exact p
theorem sb_one (h1 : SX X Z st u) : SB X Z [st] u := pss_one h1
theorem sx_expr (he : SE X Z e f) (hs : swapsWith e none pos.line X.env = pure false := by rfl) : SX X Z (.Expr e pos) (sExpr f) :=
  (ps_expr he hs).weak fun E σ H ⟨W, s, M, m, sr, p⟩ => ⟨W, s, M, m, sr, (PostS.toS sr p).imp fun d M1 W1 H1 x1 m1 p1 v rv => PostS.nx p1 m1 (sr.mono x1.toLe)⟩
theorem sx_ret (he : SE X Z e f) : SX X Z (.Return (some e) pos) (sRet f) :=
  (ps_ret he).weak fun E σ H ⟨W, s, M, m, sr, p⟩ => ⟨W, s, M, m, sr, (PostS.toS sr p).imp fun d M1 W1 H1 x1 m1 p1 v rv => p1 W1 H1 v (.refl _ _) m1 rv⟩
theorem sx_if {ta tb : List Stmt} (hc : ST X Z e c) (ha : SB X Z ta u) (hb : SB X Z tb w) : SX X Z (.If e ta tb pos) (sIf c u w) := by
  refine (ps_if hc ha hb).weak fun E σ H ⟨W, s, M, m, sr, p⟩ => ⟨W, s, M, m, sr, (PostS.toS sr p).imp fun k M1 W1 H1 x1 m1 p1 => ?_⟩
  cases k with
  | true =>
    refine iteT ⟨W1, s, M1, m1, sr.mono x1.toLe, ?_⟩
    rw [x1.b]
    exact p1
  | false =>
    refine iteF ⟨W1, s, M1, m1, sr.mono x1.toLe, ?_⟩
    rw [x1.b]
    exact p1
theorem lift_set {G : Gm} {te : TE} {i : Nat} {E : Ends} {σ : L2.St} {H : Hp} (h : ∀ Q, liftE G Z f σ H Q → te σ H Q) (q : liftS G Z (sSet i f) E σ H) : tAsg te (gName i) E σ H := by
  obtain ⟨W, s, M, m, sr, p⟩ := q
  exact h _ ⟨W, s, M, m, sr, (PostS.toS sr p).imp fun d M1 W1 H1 x1 m1 p1 v rv => PostS.nx p1 m1 ((sr.mono x1.toLe).set rv i)⟩
theorem sx_set (i : Nat) {x : Str} {pos' : Pos} (hN : X.N.Nodup) (he : SE X Z e f) (hi : X.N[i]? = some x := by rfl) (hx : Loc X.env.scope x := by first | exact Or.inl rfl | exact Or.inr rfl) (hs : swapsWith e (some (.Name x pos')) pos.line X.env = pure false := by rfl)
    (hf : X.fn x = true ∨ X.env.scope.names.lookup x = some .local := by first | exact .inl rfl | exact .inr rfl) : SX X Z (.Assign [.Name x pos'] e pos) (sSet i f) :=
  (ps_set hN hi hx he hs hf).weak fun E σ H q => lift_set (fun Q z => z) q
/-- name = [..] on one line -/
theorem sx_setC (i : Nat) {x : Str} {pos' spos : Pos} {elt tg iter : Expr} {ifs : List Expr} {scope : Scope} {own : List (Str × Nat)} {it : EI} {t : Tg} {ee : ES} {fz : EN → ES} (hfz : fz = eFrz ∨ fz = eThw) (hc : X.calm = true) (hN : X.N.Nodup)
    (hi : SI X Z tg iter it) (ok : BlkOk X.N X.env.scope scope own)
    (hg : ∀ (s : Shared) (H : Hp) (C : Addr) (cl : List (Str × Addr)) (fp : List Addr), SG (X.blk s H scope (compEnvC scope cl C X.env) fp) tg t)
    (ht : ∀ (s : Shared) (H : Hp) (C : Addr) (cl : List (Str × Addr)) (fp : List Addr), PTs (X.blk s H scope (compEnvC scope cl C X.env) fp) ifs (liftT (gm X) ZF c))
    (he : ∀ (s : Shared) (H : Hp) (C : Addr) (cl : List (Str × Addr)) (fp : List Addr), SE (X.blk s H scope (compEnvC scope cl C X.env) fp) ZF elt ee)
    (hsub : ∀ i ∈ t.slots, i ∈ own.map (·.2)) (hk : X.env.scope.kind = .function) (hy : X.N[i]? = some x := by rfl) (hyl : X.env.scope.names.lookup x = some .local := by rfl) (hl : (pos'.line == pos.line) = true := by rfl)
    (hal : (scope.names.any fun (n, k) => n == x && (k == .local || k == .cell)) = false := by rfl) (hs : ∀ x, foldedSetIterable iter X.env x = pure x := by intro _; rfl) :
    SX X Z (.Assign [.Name x pos'] (.ListComp elt [⟨tg, iter, ifs, 0⟩] scope pos) spos) (sSet i (fz (nComp it (own.map (·.2)) t c ee))) := by
  refine (ps_setLc (g := tgOf (gm X) t) (tt := liftT (gm X) ZF c) (te := liftE (gm X) ZF ee) hc hN hy hyl (sw_true hk hyl hl hal) hi ok (fun s H C cl fp => hg s H C cl fp) (fun s H C cl fp => ht s H C cl fp) (fun s H C cl fp => he s H C cl fp) hs).weak fun E σ H q => ?_
  rcases hfz with rfl | rfl
  · exact lift_set (fun Q z => lift_comp rfl hsub (lift_frz z)) q
  · exact lift_set (fun Q z => lift_comp rfl hsub (lift_thw z)) q
theorem sx_asg {tg : Expr} {gt : EG} (he : SE X Z e f) (hg : TGT X tg gt) (hs : swapsWithSole [tg] e pos.line X.env = pure false := by rfl) (hw : swappedStores [tg] e X.env = pure none := by rfl)
    (h1 : (assignEach [tg] X.env).map (·.2) = [assign tg X.env] := by rfl) : SX X Z (.Assign [tg] e pos) (sAsg f gt) := by
  refine (ps_asg he hg hs hw h1).weak fun E σ H ⟨W, s, M, m, sr, p⟩ => ⟨W, s, M, m, sr, (PostS.toS sr p).imp fun d M1 W1 H1 x1 m1 p1 v rv => ?_⟩
  split at p1
  · rename_i s2 M2 eg
    exact ⟨W1, s, M1, d, s2, M2, m1, sr.mono x1.toLe, rv, by rw [x1.b]; exact eg, fun W' H' σ2 x2 m2 sr2 => p1 W' H' σ2 x2 m2 sr2⟩
  · exact p1.elim
theorem setAll_two {i j : Nat} {ds : List D} {s s2 : Slots} (h : setAll [i, j] ds s = some s2) : ∃ x y, ds = [x, y] ∧ s2 = (s.set i (some x)).set j (some y) := by
  match ds, h with
  | [x, y], h => exact ⟨x, y, rfl, (Option.some.inj h).symm⟩
theorem setAll_three {i j l : Nat} {ds : List D} {s s2 : Slots} (h : setAll [i, j, l] ds s = some s2) : ∃ x y z, ds = [x, y, z] ∧ s2 = ((s.set i (some x)).set j (some y)).set l (some z) := by
  match ds, h with
  | [x, y, z], h => exact ⟨x, y, z, rfl, (Option.some.inj h).symm⟩
theorem sx_par (i j : Nat) {x y : Str} {px py pt : Pos} {kt k2 pt2} (hc : X.calm = true) (hN : X.N.Nodup) (ha : SA X Z [a, b] fa) (hij : i ≠ j := by decide) (hi : X.N[i]? = some x := by rfl) (hj : X.N[j]? = some y := by rfl)
    (hx : X.env.scope.names.lookup x = some .local := by rfl) (hy : X.env.scope.names.lookup y = some .local := by rfl)
    (hw : swappedStores [.Tuple [.Name x px, .Name y py] kt pt] (.Tuple [a, b] k2 pt2) X.env = pure (some [x, y]) := by rfl)
    (hs : swapsWithSole [.Tuple [.Name x px, .Name y py] kt pt] (.Tuple [a, b] k2 pt2) pos.line X.env = pure false := by rfl) :
    SX X Z (.Assign [.Tuple [.Name x px, .Name y py] kt pt] (.Tuple [a, b] k2 pt2) pos) (sPar [i, j] fa) := by
  refine (ps_par hc hN hi hj hij hx hy ha hw hs).weak fun E σ H ⟨W, s, M, m, sr, p⟩ => ⟨W, s, M, m, sr, (PostS.toS sr p).imp fun ds M1 W1 H1 x1 m1 p1 vs rvs => ?_⟩
  split at p1
  · rename_i s2 es
    obtain ⟨d1, d2, rfl, rfl⟩ := setAll_two es
    cases rvs with
    | cons r1 rr =>
      cases rr with
      | cons r2 rr =>
        cases rr
        exact ⟨_, _, rfl, PostS.nx p1 m1 (((sr.mono x1.toLe).set r1 i).set r2 j)⟩
  · exact p1.elim
theorem sx_par3 (i j l : Nat) {x y z : Str} {d : Expr} {px py pz pt : Pos} {kt k2 pt2} (hc : X.calm = true) (hN : X.N.Nodup) (ha : SA X Z [a, b, d] fa) (hij : i ≠ j := by decide) (hil : i ≠ l := by decide) (hjl : j ≠ l := by decide) (hi : X.N[i]? = some x := by rfl) (hj : X.N[j]? = some y := by rfl) (hl : X.N[l]? = some z := by rfl)
    (hx : X.env.scope.names.lookup x = some .local := by rfl) (hy : X.env.scope.names.lookup y = some .local := by rfl) (hz : X.env.scope.names.lookup z = some .local := by rfl)
    (hw : swappedStores [.Tuple [.Name x px, .Name y py, .Name z pz] kt pt] (.Tuple [a, b, d] k2 pt2) X.env = pure (some [x, y, z]) := by rfl)
    (hs : swapsWithSole [.Tuple [.Name x px, .Name y py, .Name z pz] kt pt] (.Tuple [a, b, d] k2 pt2) pos.line X.env = pure false := by rfl) :
    SX X Z (.Assign [.Tuple [.Name x px, .Name y py, .Name z pz] kt pt] (.Tuple [a, b, d] k2 pt2) pos) (sPar [i, j, l] fa) := by
  refine (ps_par3 hc hN hi hj hl hij hil hjl hx hy hz ha hw hs).weak fun E σ H ⟨W, s, M, m, sr, p⟩ => ⟨W, s, M, m, sr, (PostS.toS sr p).imp fun ds M1 W1 H1 x1 m1 p1 vs rvs => ?_⟩
  split at p1
  · rename_i s2 es
    obtain ⟨d1, d2, d3, rfl, rfl⟩ := setAll_three es
    cases rvs with
    | cons r1 rr =>
      cases rr with
      | cons r2 rr =>
        cases rr with
        | cons r3 rr =>
          cases rr
          exact ⟨_, _, _, rfl, PostS.nx p1 m1 ((((sr.mono x1.toLe).set r1 i).set r2 j).set r3 l)⟩
  · exact p1.elim
def oAddI : D → D → Mem → R D := fun x y M => match x, y with
  | .int i, .int j => .ok (.int (i + j)) M
  | _, _ => .bad
def oIxL : D → D → Mem → R D := fun x y M => match y with
  | .int i => match lstOf M x with
    | some xs => match atI xs i with
      | some d => .ok d M
      | none => .bad
    | none => .bad
  | _ => .bad
theorem RDs.atI {G : Gm} {H : Hp} {W : Wd} {xs : List D} {vs : List V} {i : Int} {d : D} (r : RDs G H W xs vs) (h : L2.atI xs i = some d) : ∃ v, L2.atI vs i = some v ∧ RD G H W d v := by
  unfold L2.atI at h ⊢
  rw [← r.length]
  cases q : ixN xs.length i with
  | none => rw [q] at h; cases h
  | some k =>
    rw [q] at h
    exact r.get h
/-- o[i] op= e -/
def sAugL (fo fi : ES) (o : D → D → Mem → R D) (f : ES) : SS := fun b s M => (fo b s M).toS s fun x M1 => (fi b s M1).toS s fun i M2 => (oIxL x i M2).toS s fun y M3 =>
  (f b s M3).toS s fun z M4 => (o y z M4).toS s fun w M5 => match setIx b x i w M5 with
    | some M6 => .nx s M6
    | none => .bad
variable {tg iter : Expr} {body : List Stmt} {it : EI} {t : Tg} {sb : SS}
theorem sx_for (hp : PassesOwn (model X.prog X.w) X.A X.env X.xe) (hc : X.calm = true) (hi : SI X Z tg iter it) (hg : SG X tg t) (hb : SB X Z body sb) (hs : ∀ x, foldedSetIterable iter X.env x = pure x := by intro _; rfl) :
    SX X Z (.For tg iter body [] pos) (sFor it t sb) := by
  refine (ps_for hp hc hi hg hb hs).weak fun E σ H ⟨W0, sl, M, m0, sr0, po⟩ => ?_
  refine ⟨W0, sl, M, m0, sr0, (PostS.toS sr0 po).imp fun p M1 W1 H1 x1 m1 p1 J wd => ?_⟩
  obtain ⟨ds, hs'⟩ := p
  simp only at p1 wd
  have bb : W1.b = W0.b := x1.b
  refine ⟨fun i k σ' H' => k = ds.length - i ∧ i ≤ ds.length ∧ ∃ W s M, Ext H1 W1 H' W ∧ MR (gm X) H' W M ∧ SR (gm X) H' W s σ' ∧ gdOk hs' M1 M ∧ PostS (gm X) Z H' W (forL W0.b hs' M1 t sb (ds.drop i) s M) E, ⟨ds.length, by simp, Nat.zero_le _, W1, sl, M1, .refl _ _, m1, sr0.mono x1.toLe, fun _ _ => rfl, p1⟩, ?_⟩
  rintro i k σ' H' ⟨rfl, hi', W, s, M, xx, m, sr, gd, pp⟩
  by_cases hlt : i < ds.length
  · refine .inr ⟨wd.goes i W H' M hlt xx.toLe m gd, _, fun σ2 H2 q => ⟨ds.length - (i + 1), by omega, rfl, hlt, q⟩, fun x H2 yl => ?_⟩
    obtain ⟨d, hd, rd, x2, m2⟩ := wd.yields i W H' M x H2 hlt xx.toLe m gd yl
    have edrop : ds.drop i = d :: ds.drop (i + 1) := by
      obtain ⟨h1, h2⟩ := List.getElem?_eq_some_iff.mp hd
      rw [List.drop_eq_getElem_cons h1, h2]
    rw [edrop] at pp
    unfold forL at pp
    cases hbt : bindT M t d s with
    | none => simp only [hbt] at pp; exact pp.elim
    | some s1 =>
      simp only [hbt] at pp
      refine ⟨W, s, M, d, s1, m2, sr.mono x2.toLe, rd, hbt, fun σ2 sr2 _ _ => ?_⟩
      have bW : W.b = W0.b := xx.b.trans bb
      refine ⟨W, s1, M, m2, sr2, ?_⟩
      rw [bW]
      have pp' := PostS.ext pp x2
      cases q : sb W0.b s1 M with
      | nx s3 M3 =>
        simp only [q] at pp'
        intro W4 H4 t4 x4 m4 sr4
        split at pp'
        · rename_i g4
          exact ⟨W4, s3, M3, (xx.trans x2).trans x4, m4, sr4, g4, PostS.ext pp' x4⟩
        · exact pp'.elim
      | ct s3 M3 =>
        simp only [q] at pp'
        intro W4 H4 t4 x4 m4 sr4
        split at pp'
        · rename_i g4
          exact ⟨W4, s3, M3, (xx.trans x2).trans x4, m4, sr4, g4, PostS.ext pp' x4⟩
        · exact pp'.elim
      | bk s3 M3 => simp only [q] at pp'; exact pp'
      | rt d3 M3 => simp only [q] at pp'; exact pp'
      | exc c3 d3 s3 M3 => simp only [q] at pp'; exact pp'
      | bad => simp only [q] at pp'; exact pp'
  · have ei : i = ds.length := by omega
    subst ei
    refine .inl ⟨wd.stops W H' M xx.toLe m gd, ?_⟩
    rw [List.drop_length] at pp
    unfold forL at pp
    exact PostS.nx pp m sr
def OpM (G : Gm) (r : V → List V → Hp → VK → Prop) (op : Nat → D → List D → Mem → R D) : Prop := ∀ (x : D) (xs : List D) (M : Mem) (W : Wd) (H : Hp) (v : V) (vs : List V) (Z : WX) (t : L2.St) (Q : VK), MR G H W M → RD G H W x v → RDs G H W xs vs →
  Post G Z t H W (op W.b x xs M) (fun d _ W' H' => ∀ u, RD G H' W' d u → Q u H') → r v vs H Q
/-- o.m(e, ..) of a list -/
def eMethL (op : Nat → D → List D → Mem → R D) (f : ES) (fs : EA) : ES := fun b s M => (f b s M).bind fun x M1 => match lstOf M1 x with
  | some _ => (fs b s M1).bind fun ds M2 => op b x ds M2
  | none => .bad
theorem se_meth {name : Str} {apos cpos : Pos} {id : String} {r : V → List V → Hp → VK → Prop} {op : Nat → D → List D → Mem → R D} {es : List Expr} (slot : Slot "list" name id) (hty : typeOf (.builtin id) = pure (.type "method_descriptor")) (hm : MtR X id r) (hv : OpM (gm X) r op) (ho : SE X Z a f) (ha : SA X Z (e :: es) fa)
    (hbase : attributeBase a name X.env (eval a X.env) = eval a X.env := by rfl)
    (hfew : ((backTo cpos (starEach (e :: es) X.env)).all (fun x => !x.1) && (backToKw cpos (keywordEach [] X.env)).all (fun x => x.1.isSome)
      && decide ((e :: es).length + ([] : List Keyword).length + (if ([] : List Keyword).isEmpty then 0 else 1) < 30)) = true := by rfl)
    (hline : (apos.endLine == cpos.line) = true := by rfl) (hs : starEach (e :: es) X.env = (false, eval e X.env) :: starEach es X.env := by rfl) (hplain : (backTo cpos (starEach es X.env)).any (·.1) = false := by rfl) :
    SE X Z (.Call (.Attribute a name apos) (e :: es) [] cpos) (eMethL op f fa) := by
  refine (pe_bm PySem.F.plainAttrs_list slot hty hm ho ha hbase hfew hline hs hplain).weak fun σ H Q ⟨W, s, M, m, sr, p⟩ => ⟨W, s, M, m, sr, (Post.bind p).imp fun x M1 W1 H1 x1 m1 p1 v rv => ?_⟩
  split at p1
  · rename_i xs ex
    obtain ⟨q, vs, rfl, hl, r'⟩ := lst_read m1 ex rv
    refine ⟨.inl ⟨rfl, vs, .of hl⟩, W1, s, M1, m1, sr.mono x1.toLe, ?_⟩
    rw [x1.b]
    refine (Post.bind p1).imp fun ds M2 W2 H2 x2 m2 p2 ws rws => ?_
    exact hv x ds M2 W2 H2 (.ref q) ws Z σ Q m2 (rv.mono x2.toLe) rws (by rw [(x1.trans x2).b]; exact p2)
  · exact p1.elim
theorem om_append {G : Gm} : OpM G rAppend mAppend := by
  intro x xs M W H v vs Z t Q m rx rs p
  unfold mAppend at p
  split at p
  · rename_i h d
    split at p
    · rename_i ys hc
      split at p
      · rename_i hs
        cases rx with
        | ref hn =>
          cases rs with
          | cons rd rr =>
            cases rr
            obtain ⟨ws, h1, h2, h3⟩ := m.cell h _ hc
            refine ⟨W.e h, ws, _, rfl, rfl, h1, ?_, ?_⟩
            · rw [← h2.length]
              exact Nat.lt_of_lt_of_le hs.2 (line_le (Nat.le_refl _))
            · refine p W _ (Ext.write m hn) (m.write hc (h2.append (.one rd)) fun hb => belows_append (h3 hb) ?_) .non .non
              simp [belows, stOk_lim rfl hs.1 hb]
      · exact p.elim
    · exact p.elim
  · exact p.elim
theorem se_append {apos cpos : Pos} (ho : SE X Z a f) (ha : SA X Z [e] fa)
    (hbase : attributeBase a "append" X.env (eval a X.env) = eval a X.env := by rfl)
    (hfew : ((backTo cpos (starEach [e] X.env)).all (fun x => !x.1) && (backToKw cpos (keywordEach [] X.env)).all (fun x => x.1.isSome)
      && decide ([e].length + ([] : List Keyword).length + (if ([] : List Keyword).isEmpty then 0 else 1) < 30)) = true := by rfl)
    (hline : (apos.endLine == cpos.line) = true := by rfl) (hs : starEach [e] X.env = (false, eval e X.env) :: starEach [] X.env := by rfl) (hplain : (backTo cpos (starEach [] X.env)).any (·.1) = false := by rfl) :
    SE X Z (.Call (.Attribute a "append" apos) [e] [] cpos) (eMethL mAppend f fa) := se_meth PySem.F.slot_list_append PySem.F.type_list_append mt_append om_append ho ha hbase hfew hline hs hplain
end
end LW
namespace LW
open PySem PySem.Spec PyProof.Rows L2
section
variable {X : Cx} {Z : WX} {a e : Expr} {f : ES} {fa : EA} {k : Nat}
end
end LW
namespace LW
open PySem PySem.Spec PyProof.Rows L2
structure FnG (P : Program) (w : World) (K : PySem.W.Frag) (mg : Str → Option Value) (base : Heap) (CX : CXT) (k : Nat) (f : Addr) (fd : FuncData) (ps : List Str) (sp : Sp) : Prop where
  many : ∀ vs H Q E, sp vs H Q E → vs.length = ps.length
  goes : ∀ (A : Around) (out : List Env) (s : Shared) (H : Hp) (as : Args) (us : List Value) (vs : List V) (Q : VK) (E : XK), Room k A → A.guards = some [] → Env0 P w K mg base A out s H → BindsTo s fd as (ps.zip us) → Vals vs us → sp vs H Q E →
    codeAny (model P w) A (.call (.ref f) as) (CR CX out P w H s Q E) s
section
variable {P : Program} {w : World} {K : PySem.W.Frag} {mg : Str → Option Value} {base : Heap} {CX : CXT} {f : Addr} {fd : FuncData} {ps : List Str} {sp sp' : Sp}
theorem FnG.mono {j k : Nat} (F : FnG P w K mg base CX j f fd ps sp) (h : j ≤ k) : FnG P w K mg base CX k f fd ps sp := ⟨F.many, fun A out s H as us vs Q E hr => F.goes A out s H as us vs Q E (hr.mono h)⟩
theorem FnG.imp {k : Nat} (F : FnG P w K mg base CX k f fd ps sp) (h : ∀ vs H Q E, sp' vs H Q E → sp vs H Q E) : FnG P w K mg base CX k f fd ps sp' :=
  ⟨fun vs H Q E q => F.many vs H Q E (h _ _ _ _ q), fun A out s H as us vs Q E r1 r2 r3 r4 r5 r6 => F.goes A out s H as us vs Q E r1 r2 r3 r4 r5 (h _ _ _ _ r6)⟩
/-- a def by its body -/
theorem fng {x qual : Str} {st : Stmt} {N : List Str} {k : Nat} (F : Fun K x qual st f fd) (S : FnScope N ps (defScope st)) (many : ∀ vs H Q E, sp vs H Q E → vs.length = ps.length)
    (body : ∀ (cdv : Value) (A : Around) (out : List Env) (s : Shared) (H : Hp) (vs : List V) (Q : VK) (E : XK), Room k (A.deeper (envOfC qual (defScope st) s.heap.objs.size f cdv)) → (A.deeper (envOfC qual (defScope st) s.heap.objs.size f cdv)).guards = some [] → sp vs H Q E →
      ∃ t, PSs (cxOf CX P w K mg base N qual (defScope st) f cdv A out s H E) (defBody st) t ∧ t { nx := fun _ H' => Q .non H', rt := Q } (L2.start N vs) H) : FnG P w K mg base CX (k + 1) f fd ps sp := by
  obtain ⟨oc, od, kV, doc, pm, an, cdv, ct, osl, rfl, lk, hcd⟩ := F.ex
  refine ⟨many, fun A out s H as us vs Q E hr hgd e0 hb r hsp => ?_⟩
  have kin : K.In s.heap := e0.mod.kin.keeps fun a o z => (e0.bs a o z).1
  have nol : s.heap.NoLimit := e0.mod.nolimit.keeps fun a o z => (e0.bs a o z).1
  refine codeAny_call_function hr.depth (kin _ _ lk) rfl S.co S.gen rfl (PySem.W.codeRec_of kin hcd) (hb _ _ _ _ (wpAny_newFunctionEnv_cells S.kind (fun ⟨y, u⟩ hy => (S.par y (List.of_mem_zip hy).1).imp id fun c => ⟨c, PySem.W.cellsFrom_some _ _ _ (.inl c)⟩) fun env he s1 ic => ?_))
  subst he
  obtain ⟨t, run, goal⟩ := body cdv A out s H vs Q E (hr.deeper _) hgd hsp
  refine ⟨nol.keeps ic.toInCall.keep, codeAny_func (wpAny_mono (run.run [] s1 (L2.start N vs) H _ (inv_start S hr.hd e0 (many _ _ _ _ hsp) r ic) goal) (fun fl s' z => ?_) fun _ _ z => z)⟩
  cases fl with
  | brk => obtain ⟨_, _, _, z⟩ := z; exact z.elim
  | cont => obtain ⟨_, _, _, z⟩ := z; exact z.elim
  | ret u => obtain ⟨v, σ', H', J, rv, z⟩ := z; exact ⟨v, H', J.os, J.bare, J.base, J.hok, rv, z⟩
  | next => obtain ⟨σ', H', J, z⟩ := z; exact ⟨.non, H', J.os, J.bare, J.base, J.hok, rfl, z⟩
end
section
variable {X : Cx} {CX : CXT} {k : Nat} {f : Addr} {fd : FuncData} {ps : List Str} {sp : Sp} {E : XK} {x : Str} {p pos : Pos} {e : Expr} {es : List Expr} {t : TA}
theorem go_fn {pins : List (Addr × Obj)} {σ : L2.St} {H : Hp} {s : Shared} {Q : VK} {us : List Value} {vs : List V} (F : FnG X.prog X.w X.K X.mg X.base CX k f fd ps sp) (hr : Room k X.A) (hgd : X.A.guards = some []) (hb : Binds X.K fd ps []) (hx : Passes CX X E)
    (I : Inv X pins σ H s) (r : Vals vs us) (h : sp vs H Q E) : wpAny (model X.prog X.w) X.A (call (.ref f) us) (EP X pins σ Q) X.xe s := by
  have hl : (us ++ []).length = ps.length := by rw [List.append_nil, ← r.length]; exact F.many _ _ _ _ h
  have bd := hb s us I.kIn hl
  rw [List.append_nil] at bd
  refine wpAny_call (codeAny_mono (F.goes X.A X.stack s H ⟨us, []⟩ us vs Q E hr hgd I.env0 bd r h) fun r s' z => ?_)
  match r, z with
  | .error e, z => exact hx pins σ H s e s' I z
  | .ok (.ret u), z => exact I.after z
/-- f(..) -/
theorem pg_call (F : FnG X.prog X.w X.K X.mg X.base CX k f fd ps sp) (hr : Room k X.A) (hgd : X.A.guards = some []) (hg : Gl X x) (hm : X.mg x = some (.ref f)) (hk : PySem.W.keepIn X.K (.ref f) = true) (hb : Binds X.K fd ps []) (hx : Passes CX X E)
    (ha : PA X (e :: es) t) (hdb : (x == ("__debug__" : Str)) = false) (he : starEach (e :: es) X.env = (false, eval e X.env) :: starEach es X.env) (hpl : (backTo pos (starEach es X.env)).any (·.1) = false) :
    PE X (.Call (.Name x p) (e :: es) [] pos) (fun σ H Q => t σ H fun vs H1 => sp vs H1 Q E) :=
  ⟨fun pins s σ H Q I h => wpAny_Call_Name_kw (ld_glob I hg hm (PySem.W.callWith_K (h₀ := X.base) I.ok.mod.kin hk (thn (ha.run pos pins s σ H _ I h) fun us s1 ⟨vs, H1, I1, r, q⟩ => ⟨I1.kIn, go_fn F hr hgd hb hx I1 r q⟩) he hpl) hdb)⟩
end
theorem law_go {P : Program} {w : World} {K : PySem.W.Frag} {mg mb : Str → Option Value} {CX : CXT} {k : Nat} {fa a : Addr} {fd : FuncData} {x : Str} {sp : Sp} {s1 : Shared} {vs : List Value} {ns : List Int}
    (kin : K.In s1.heap) (gl : s1.heap.Ns mainGlobals mg) (bl : s1.heap.Ns builtinsNs mb) (bb : ∀ x : Str, x ≠ "__name__" → mb x = bootBuiltins x) (nol : s1.heap.NoLimit) (nog : s1.gens = #[])
    (obj : s1.heap.get? a = some { cls := .type "list", data := .seq vs.toArray }) (isI : IntsAre vs ns) (fit : ns.length ≤ sizeLine) (hr : Room k callerA)
    (F : ∀ base : Heap, K.In base → base.Ns mainGlobals mg → FnG P w K mg base CX k fa fd [x] sp) (bind : ∀ (s : Shared) (u : Value), BindsTo s fd ⟨[u], []⟩ [(x, u)])
    (hsp : ∀ H : Hp, SqL K H a (ns.map V.int) → sp [.ref a] H (fun v _ => v = .bl true) fun _ _ _ => False)
    (hCX : ∀ H e s', CX [] H s1 (fun _ _ _ => False) e s' → False) :
    codeAny (model P w) callerA (.call (.ref fa) ⟨[.ref a], []⟩) (fun r s' => r = .ok (.ret (.bool true)) ∧ OldK s1.heap s'.heap ∧ s'.os = s1.os ∧ AllBare s'.gens) s1 := by
  have rel := vals_ints isI
  have len := isI.length
  have go : ∀ H : Hp, Only H → SqL K H a (ns.map V.int) → HOk P w H s1.heap → (∀ c, H c ≠ none → c = a) → (H a ≠ none → K.lookup a = none) →
      codeAny (model P w) callerA (.call (.ref fa) ⟨[.ref a], []⟩) (fun r s' => r = .ok (.ret (.bool true)) ∧ OldK s1.heap s'.heap ∧ s'.os = s1.os ∧ AllBare s'.gens) s1 := by
    intro H only hS hok alone notK
    have undict : ∀ {c : Addr} {o : Obj} {es : Array DictEntry} {ep : Nat}, s1.heap.get? c = some o → o.data = .dict es ep → H c = none := by
      intro c o es ep z d
      cases q : H c with
      | none => rfl
      | some u =>
        obtain rfl : c = a := alone c (by rw [q]; exact Option.some_ne_none _)
        rw [obj] at z
        cases z
        cases (show Data.seq vs.toArray _ = Data.dict es ep from d)
    have names : ∀ {c : Addr} {m : Str → Option Value}, s1.heap.Ns c m → (hidT s1.heap H).Ns c m := fun ⟨o, es, ep, z, d, r⟩ => ⟨o, es, ep, hidT_get z (undict z d), d, r⟩
    have kin2 : K.In (hidT s1.heap H) := by
      intro c o z
      refine hidT_get (kin c o z) ?_
      cases q : H c with
      | none => rfl
      | some u =>
        obtain rfl : c = a := alone c (by rw [q]; exact Option.some_ne_none _)
        rw [notK (by rw [q]; exact Option.some_ne_none _)] at z
        cases z
    have md : Mod K mg (hidT s1.heap H) := ⟨kin2, names gl, ⟨mb, names bl, bb⟩, nol.elim fun mc ⟨h1, h2⟩ => ⟨mc, names h1, h2⟩⟩
    have env : Env0 P w K mg (hidT s1.heap H) callerA [] s1 H := by
      refine ⟨rfl, md, fun c o z => of_hidT z, Nat.le_of_eq (hidT_size _ _), trivial, fun c hc => ?_, hok, .of_eq nog⟩
      cases (show c ∈ ([] : List Addr) from hc)
    refine codeAny_mono ((F _ kin2 (names gl)).goes callerA [] s1 H ⟨[.ref a], []⟩ [.ref a] [.ref a] (fun v _ => v = .bl true) (fun _ _ _ => False) hr rfl env (bind s1 (.ref a)) (.cons rfl .nil) (hsp H hS)) fun r s' z => ?_
    match r, z with
    | .error e, z => exact (hCX H e s' z).elim
    | .ok (.ret u), ⟨v, H', os, bare, un, hok', rv, (ev : v = .bl true)⟩ =>
      subst ev
      obtain rfl : u = Value.bool true := rv
      refine ⟨rfl, OldK.of_keep fun c o z => ?_, os, bare⟩
      cases q : H c with
      | none => exact un.keep c o z q (fun y => by cases (show c ∈ ([] : List Addr) from y)) (by simp)
      | some u =>
        rcases only c with y | ⟨ob, xs, y⟩
        · rw [q] at y
          cases y
        · have e1 := (hok c _ y).1
          rw [z] at e1
          cases e1
          exact (hok' c _ (un.frzs c _ _ y)).1
  cases hk : K.lookup a with
  | some o =>
    have z := kin a o hk
    rw [obj] at z
    cases z
    exact go (fun _ => none) (fun _ => .inl rfl) (.inr ⟨_, vs.toArray, _, hk, rfl, rfl, rfl, by rw [List.size_toArray, len]; exact fit, by simpa using rel⟩) (fun c u y => by cases (show (none : Option HO) = some u from y)) (fun c y => (y rfl).elim) fun y => (y rfl).elim
  | none =>
    have yes : ∀ c, c = a → (fun c => if c = a then some (HO.frz { cls := .type "list", data := .seq vs.toArray } (.lst (ns.map V.int))) else none) c = some (HO.frz { cls := .type "list", data := .seq vs.toArray } (.lst (ns.map V.int))) := fun c e => if_pos e
    have no : ∀ c, c ≠ a → (fun c => if c = a then some (HO.frz { cls := .type "list", data := .seq vs.toArray } (.lst (ns.map V.int))) else none) c = none := fun c e => if_neg e
    refine go (fun c => if c = a then some (HO.frz { cls := .type "list", data := .seq vs.toArray } (.lst (ns.map V.int))) else none) (fun c => ?_) (.inl (.inr ⟨_, yes a rfl⟩)) (fun c u y => ?_) (fun c y => ?_) fun _ => hk
    · by_cases e : c = a
      · exact .inr ⟨_, _, yes c e⟩
      · exact .inl (no c e)
    · by_cases e : c = a
      · rw [yes c e] at y
        cases y
        subst e
        exact ⟨obj, by rw [List.length_map]; exact fit, vs, _, rel, obj⟩
      · rw [no c e] at y
        cases y
    · by_cases e : c = a
      · exact e
      · exact absurd (no c e) y
theorem walk_g {l : PySem.W.OpenLaw} {n k : Nat} {q : Program} {loose : List Str} {XP : (Str → Option Value) → Heap → Prop} {YP : World → Heap → Prop} {d : DefRec} {K : Params → PySem.W.Frag} {CX : World → CXT} {sp : World → Sp} {x : Str}
    (hn : l.most = some n) (hn2 : n ≤ sizeLine) (hdf : d.params.defaults = []) (hr : Room k callerA) (hY : ∀ (w : World) (h : Heap), YP w h → (K w.params).In h)
    (F : ∀ (w : World) (mg : Str → Option Value) (fa : Addr) (h : Heap), (K w.params).In h → h.Ns mainGlobals mg → mg d.name = some (.ref fa) →
      ∃ fd : FuncData, (∀ (s : Shared) (u : Value), BindsTo s fd ⟨[u], []⟩ [(x, u)]) ∧ ∀ base : Heap, (K w.params).In base → base.Ns mainGlobals mg → FnG l.prog w (K w.params) mg base (CX w) k fa fd [x] (sp w))
    (hsp : ∀ (w : World) (H : Hp) (a : Addr) (ns : List Int), ns.length ≤ n → SqL (K w.params) H a (ns.map V.int) → sp w [.ref a] H (fun v _ => v = .bl true) fun _ _ _ => False)
    (hCX : ∀ (w : World) (H : Hp) (s : Shared) (e : Value) (s' : Shared), CX w [] H s (fun _ _ _ => False) e s' → False) :
    PySem.W.WalkO q loose XP YP l.row.toRowW d [] (fun f vs => PySem.call f vs) :=
  Att.attach_call hn hdf fun w s0 s1 mg mb fa o pm cd doc a vs ns G Y ho hd hcd hmg hobj hints hlen hg =>
    let ⟨_, hb, hF⟩ := F w mg fa _ (hY w _ Y) G.T.g hmg
    law_go (hY w _ Y) G.T.g G.T.b G.T.builtins G.T.nolimit hg hobj hints (Nat.le_trans hlen hn2) hr hF hb (fun H hS => hsp w H a ns hlen hS) fun H e s' => hCX w H s1 e s'
end LW
namespace LW
open PySem PySem.Spec PyProof.Rows L2
section
variable {G : Gm} {H H2 : Hp} {W W2 : Wd} {M M2 : Mem}
mutual
theorem RD.bel {d : D} {v : V} : RD G H W d v → LW.below W.n d = true
  | .non => rfl
  | .bl _ => rfl
  | .int _ => rfl
  | .str _ => rfl
  | .tup _ r => by unfold LW.below; exact RDs.bel r
  | .lst _ r => by unfold LW.below; exact RDs.bel r
  | .scr _ => rfl
  | .dct _ _ _ r => by unfold LW.below; exact RDs.bel r
  | .dtt _ _ _ r => by unfold LW.below; exact RDs.bel r
  | .exn _ _ _ _ _ _ => rfl
  | .key _ _ => rfl
  | .clo _ _ _ _ r => by unfold LW.below; exact RDs.bel r
  | .ref q => by unfold LW.below; exact decide_eq_true q
theorem RDs.bel {ds : List D} {vs : List V} : RDs G H W ds vs → LW.belows W.n ds = true
  | .nil => rfl
  | .cons h r => by unfold LW.belows; rw [RD.bel h, RDs.bel r]; rfl
end
/-- the callee's world -/
def Wd.enter (W : Wd) : Wd := { W with b := W.n, lim := fun h => if h < W.b then W.lim h else W.n }
theorem enter_le : Le H W H W.enter := ⟨Nat.le_refl _, fun _ _ => rfl, fun _ _ h n => ⟨h, n⟩⟩
theorem enter_lim {h : Nat} {xs : List D} {vs : List V} (r : RDs G H W xs vs) (l : h < W.b → LW.belows (W.lim h) xs = true) (q : h < W.enter.b) : LW.belows (W.enter.lim h) xs = true := by
  show LW.belows (if h < W.b then W.lim h else W.n) xs = true
  by_cases hb : h < W.b
  · rw [if_pos hb]; exact l hb
  · rw [if_neg hb]; exact r.bel
theorem CAt.enter {h : Nat} {c : Cell} (q : CAt G H W h c) : CAt G H W.enter h c := by
  cases c with
  | lst ds => obtain ⟨vs, e, r, l⟩ := q; exact ⟨vs, e, r.mono enter_le, fun z => enter_lim r l z⟩
  | dct ks ds => obtain ⟨vs, e, z, r, l⟩ := q; exact ⟨vs, e, z, r.mono enter_le, fun z => enter_lim r l z⟩
  | dtt ks ds => obtain ⟨vs, e, z, r, l⟩ := q; exact ⟨vs, e, z, r.mono enter_le, fun z => enter_lim r l z⟩
  | dcf ks ds => obtain ⟨vs, e, z, r, l⟩ := q; exact ⟨vs, e, z, r.mono enter_le, fun z => enter_lim r l z⟩
  | dtf ks ds => obtain ⟨vs, e, z, r, l⟩ := q; exact ⟨vs, e, z, r.mono enter_le, fun z => enter_lim r l z⟩
  | tab P y => exact q
  | ins c fs => obtain ⟨C, dx, vs, g, e, d, dn, z, r, l⟩ := q; exact ⟨C, dx, vs, g, e, d, dn, z, r.mono enter_le, fun z => enter_lim r l z⟩
theorem MR.enter (m : MR G H W M) : MR G H W.enter M :=
  ⟨m.len, m.inj, Nat.le_refl _, fun h q => by
    show (if h < W.b then W.lim h else W.n) ≤ W.n
    split
    · rename_i hb; exact Nat.le_trans (m.lm h hb) m.bn
    · exact Nat.le_refl _, m.avt, fun h c e => (m.cell h c e).enter⟩
/-- the caller's world behind the call -/
def Wd.back (W W2 : Wd) : Wd := { W with p := W2.p }
theorem back_im {a : Addr} (x : Ext H W.enter H2 W2) (n : ¬ W2.im a) : ¬ (W.back W2).im a := by
  rintro (z | ⟨k, hk, ek⟩)
  · exact n (.inl (by rw [x.av]; exact z))
  · exact n (.inr ⟨k, Nat.lt_of_lt_of_le hk x.n, ek⟩)
theorem back_ext (x : Ext H W.enter H2 W2) : Ext H W H2 (W.back W2) :=
  ⟨⟨Nat.le_refl _, fun h q => x.pe h q, fun a o h n => ⟨(x.keep a o h n).1, back_im x (x.keep a o h n).2⟩⟩, rfl, rfl, rfl, fun a h => x.avk a h⟩
/-- into a world of less -/
structure Dn (n : Nat) (W2 W' : Wd) : Prop where
  im : ∀ a, ¬ W2.im a → ¬ W'.im a
  e : ∀ h, h < n → W'.p h = W2.p h ∧ h < W'.n
theorem Dn.back (x : Ext H W.enter H2 W2) : Dn W.n W2 (W.back W2) := ⟨fun _ => back_im x, fun h q => ⟨rfl, q⟩⟩
theorem Dn.add {h : Nat} (x : Ext H W.enter H2 W2) (hh : h < W2.n) : Dn W.n W2 ((W.back W2).add (W2.e h)) := ⟨fun a n => Wd.add_im (back_im x n) fun e => n (.inr ⟨h, hh, e.symm⟩), fun k q => ⟨Wd.add_p q, Nat.lt_succ_of_lt q⟩⟩
mutual
theorem RD.down {n : Nat} {W' : Wd} {d : D} {v : V} (x : Dn n W2 W') : RD G H2 W2 d v → LW.below n d = true → RD G H2 W' d v
  | .non, _ => .non
  | .bl b, _ => .bl b
  | .int i, _ => .int i
  | .str y, _ => .str y
  | .tup h r, q => .tup (h.elim (fun z => .inl ⟨z.1, x.im _ z.2⟩) .inr) (RDs.down x r (by unfold LW.below at q; exact q))
  | .lst h r, q => .lst ⟨h.1, x.im _ h.2⟩ (RDs.down x r (by unfold LW.below at q; exact q))
  | .scr h, _ => .scr (h.elim (fun z => .inl ⟨z.1, x.im _ z.2⟩) .inr)
  | .dct h n l r, q => .dct h (x.im _ n) l (RDs.down x r (by unfold LW.below at q; exact q))
  | .dtt h n l r, q => .dtt h (x.im _ n) l (RDs.down x r (by unfold LW.below at q; exact q))
  | .exn g h n k n' f, _ => .exn g h (x.im _ n) k (x.im _ n') f
  | .key h n, _ => .key h (x.im _ n)
  | .clo h n k n' r, q => .clo h (x.im _ n) k (x.im _ n') (RDs.down x r (by unfold LW.below at q; exact q))
  | .ref (h := h) _, q => by
    unfold LW.below at q
    have k := x.e h (of_decide_eq_true q)
    rw [show W2.e h = W'.e h from congrArg Prod.fst k.1.symm]
    exact RD.ref k.2
theorem RDs.down {n : Nat} {W' : Wd} {ds : List D} {vs : List V} (x : Dn n W2 W') : RDs G H2 W2 ds vs → LW.belows n ds = true → RDs G H2 W' ds vs
  | .nil, _ => .nil
  | .cons h r, q => by
    unfold LW.belows at q
    rw [Bool.and_eq_true] at q
    exact .cons (RD.down x h q.1) (RDs.down x r q.2)
end
theorem lim_le (m : MR G H W M) {h : Nat} (hn : h < W.n) : W.enter.lim h ≤ W.n := m.enter.lm h hn
theorem CAt.back {W' : Wd} {h : Nat} {c : Cell} (m : MR G H W M) (x : Ext H W.enter H2 W2) (dn : Dn W.n W2 W') (wb : W'.b = W.b) (wl : W'.lim = W.lim) (hn : h < W.n) (q : CAt G H2 W2 h c) : CAt G H2 W' h c := by
  have en : W'.e h = W2.e h := congrArg Prod.fst (dn.e h hn).1
  have eo : W'.od h = W2.od h := congrArg Prod.snd (dn.e h hn).1
  have key : ∀ {ds : List D} {vs : List V}, RDs G H2 W2 ds vs → (h < W2.b → LW.belows (W2.lim h) ds = true) → RDs G H2 W' ds vs ∧ (h < W'.b → LW.belows (W'.lim h) ds = true) := fun {ds vs} r l => by
    have hb : h < W2.b := by rw [x.b]; exact hn
    have l1 := l hb
    rw [x.lim] at l1
    refine ⟨r.down dn (belows_mono (lim_le m hn) _ l1), fun z => ?_⟩
    rw [wb] at z
    rw [wl]
    have e : W.enter.lim h = W.lim h := if_pos z
    rw [e] at l1
    exact l1
  cases c with
  | lst ds => obtain ⟨vs, e, r, l⟩ := q; exact ⟨vs, by rw [en]; exact e, (key r l).1, (key r l).2⟩
  | dct ks ds => obtain ⟨vs, e, z, r, l⟩ := q; exact ⟨vs, by rw [en]; exact e, z, (key r l).1, (key r l).2⟩
  | dtt ks ds => obtain ⟨vs, e, z, r, l⟩ := q; exact ⟨vs, by rw [en]; exact e, z, (key r l).1, (key r l).2⟩
  | dcf ks ds => obtain ⟨vs, e, z, r, l⟩ := q; exact ⟨vs, by rw [en, eo]; exact e, z, (key r l).1, (key r l).2⟩
  | dtf ks ds => obtain ⟨vs, e, z, r, l⟩ := q; exact ⟨vs, by rw [en, eo]; exact e, z, (key r l).1, (key r l).2⟩
  | tab P y =>
    obtain ⟨e, ps, k, t, r⟩ := q
    exact ⟨by rw [en]; exact e, ps, by rw [en]; exact k, t, fun pos cv hc => let ⟨c, h1, h2, h3⟩ := r pos cv hc; ⟨c, h1, h2, dn.im _ h3⟩⟩
  | ins c fs => obtain ⟨C, dx, vs, g, e, d, dn', z, r, l⟩ := q; exact ⟨C, dx, vs, g, by rw [en]; exact e, by rw [en]; exact d, dn.im _ dn', z, (key r l).1, (key r l).2⟩
theorem back_mr (m : MR G H W M) (x : Ext H W.enter H2 W2) (m2 : MR G H2 W2 M2) : MR G H2 (W.back W2) (M2.take W.n) := by
  have nn : W.n ≤ W2.n := x.n
  refine ⟨?_, fun h h' q q' e => m2.inj h h' (Nat.lt_of_lt_of_le q nn) (Nat.lt_of_lt_of_le q' nn) e, m.bn, m.lm, fun a h => ?_, fun h c e => ?_⟩
  · rw [List.length_take, m2.len]; exact Nat.min_eq_left nn
  · have := m2.avt a (by rw [x.av]; exact h)
    exact ⟨this.1, fun k hk => this.2 k (Nat.lt_of_lt_of_le hk nn)⟩
  · have hn : h < W.n := by
      have := lt_of_get e
      rw [List.length_take] at this
      omega
    rw [List.getElem?_take_of_lt hn] at e
    exact (m2.cell h c e).back m x (.back x) rfl rfl hn
theorem frz_ok (m : MR G H W M) (x : Ext H W.enter H2 W2) (m2 : MR G H2 W2 M2) : ∀ (k : Nat) (d d' : D) (v : V), frz M2 W.n k d = some d' → RD G H2 W2 d v → RD G H2 (W.back W2) d' v := by
  intro k
  induction k with
  | zero => intro d d' v e r; unfold frz at e; cases e
  | succ k ih =>
    have many : ∀ (ds ds' : List D) (vs : List V), ds.mapM (frz M2 W.n k) = some ds' → RDs G H2 W2 ds vs → RDs G H2 (W.back W2) ds' vs := by
      intro ds
      induction ds with
      | nil =>
        intro ds' vs e r
        rw [List.mapM_nil] at e
        cases e
        cases r
        exact .nil
      | cons d ds ihs =>
        intro ds' vs e r
        rw [List.mapM_cons] at e
        cases r with
        | cons h r =>
          cases q : frz M2 W.n k d with
          | none => rw [q] at e; cases e
          | some d1 =>
            rw [q] at e
            cases q2 : ds.mapM (frz M2 W.n k) with
            | none => rw [q2] at e; cases e
            | some ds1 =>
              rw [q2] at e
              cases e
              exact .cons (ih d d1 _ q h) (ihs ds1 _ q2 r)
    intro d d' v e r
    cases r with
    | non => unfold frz at e; cases e; exact .non
    | bl b => unfold frz at e; cases e; exact .bl b
    | int i => unfold frz at e; cases e; exact .int i
    | str y => unfold frz at e; cases e; exact .str y
    | scr h => unfold frz at e; cases e; exact .scr (h.elim (fun z => .inl ⟨z.1, back_im x z.2⟩) .inr)
    | tup h r =>
      unfold frz at e
      rw [Option.map_eq_some_iff] at e
      obtain ⟨ys, e1, rfl⟩ := e
      exact .tup (h.elim (fun z => .inl ⟨z.1, back_im x z.2⟩) .inr) (many _ _ _ e1 r)
    | lst h r =>
      unfold frz at e
      rw [Option.map_eq_some_iff] at e
      obtain ⟨ys, e1, rfl⟩ := e
      exact .lst ⟨h.1, back_im x h.2⟩ (many _ _ _ e1 r)
    | dct h n l r =>
      unfold frz at e
      rw [Option.map_eq_some_iff] at e
      obtain ⟨ys, e1, rfl⟩ := e
      exact .dct h (back_im x n) l (many _ _ _ e1 r)
    | dtt h n l r =>
      unfold frz at e
      rw [Option.map_eq_some_iff] at e
      obtain ⟨ys, e1, rfl⟩ := e
      exact .dtt h (back_im x n) l (many _ _ _ e1 r)
    | exn g h n k n' f => unfold frz at e; cases e; exact .exn g h (back_im x n) k (back_im x n') f
    | key h n => unfold frz at e; cases e; exact .key h (back_im x n)
    | clo h n k n' r => unfold frz at e; cases e
    | ref q =>
      rename_i h
      unfold frz at e
      split at e
      · rename_i hn
        cases e
        exact RD.ref (W := W.back W2) hn
      · rename_i hn
        have nim : ¬ (W.back W2).im (W2.e h) := by
          rintro (z | ⟨k', hk, ek⟩)
          · exact (m2.avt _ (by rw [x.av]; exact z)).2 h q rfl
          · have := m2.inj k' h (Nat.lt_of_lt_of_le hk x.n) q ek
            exact hn (this ▸ hk)
        split at e
        · rename_i xs hc
          rw [Option.map_eq_some_iff] at e
          obtain ⟨ys, e1, rfl⟩ := e
          obtain ⟨vs, h1, h2, _⟩ := m2.cell h _ hc
          exact .lst ⟨h1, nim⟩ (many _ _ _ e1 h2)
        · rename_i ks xs hc
          rw [Option.map_eq_some_iff] at e
          obtain ⟨ys, e1, rfl⟩ := e
          obtain ⟨vs, h1, hl, h2, _⟩ := m2.cell h _ hc
          exact .dtt (.inl h1) nim hl (many _ _ _ e1 h2)
        · cases e
/-- a list of the callee's own becomes a handle of the caller's -/
theorem back_keep {h : Nat} {xs : List D} (m : MR G H W M) (x : Ext H W.enter H2 W2) (m2 : MR G H2 W2 M2) (hn : ¬ h < W.n) (h2 : h < W2.n) (hc : M2[h]? = some (.lst xs)) (hb : LW.belows W.n xs = true) :
    Ext H W H2 ((W.back W2).add (W2.e h)) ∧ MR G H2 ((W.back W2).add (W2.e h)) (M2.take W.n ++ [.lst xs]) := by
  obtain ⟨vs, h1, r, _⟩ := m2.cell h _ hc
  have nim : ¬ (W.back W2).im (W2.e h) := by
    rintro (z | ⟨k', hk, ek⟩)
    · exact (m2.avt _ (by rw [x.av]; exact z)).2 h h2 rfl
    · have := m2.inj k' h (Nat.lt_of_lt_of_le hk x.n) h2 ek
      exact hn (this ▸ hk)
  have hp : H (W2.e h) = none := by
    cases q : H (W2.e h) with
    | none => rfl
    | some o =>
      refine absurd (.inr ⟨h, h2, rfl⟩) (x.keep _ o q fun z => ?_).2
      rcases z with z | ⟨k', hk, ek⟩
      · exact nim (.inl z)
      · exact nim (.inr ⟨k', hk, by rw [← ek]; exact x.e k' hk⟩)
  have mb := back_mr m x m2
  refine ⟨(back_ext x).add hp, ?_⟩
  have ml := mb.len
  have nn : W.n ≤ W2.n := x.n
  have dn := Dn.add x h2
  have en : ∀ k, k < W.n → ((W.back W2).add (W2.e h)).e k = W2.e k := fun k q => congrArg Prod.fst (dn.e k q).1
  have el : ((W.back W2).add (W2.e h)).e W.n = W2.e h := Wd.add_n (W := W.back W2)
  have len : (M2.take W.n).length = W.n := ml
  refine ⟨by rw [List.length_append, len]; rfl, fun k k' q q' ek => ?_, Nat.le_succ_of_le m.bn, m.lm, fun a z => ⟨(mb.avt a z).1, fun k q ek => ?_⟩, fun k c ec => ?_⟩
  · have q1 : k < W.n + 1 := q
    have q2 : k' < W.n + 1 := q'
    by_cases k1 : k = W.n
    · by_cases k2 : k' = W.n
      · omega
      · rw [k1, el, en k' (by omega)] at ek
        have := m2.inj h k' h2 (by omega) ek
        omega
    · by_cases k2 : k' = W.n
      · rw [k2, el, en k (by omega)] at ek
        have := m2.inj k h (by omega) h2 ek
        omega
      · rw [en k (by omega), en k' (by omega)] at ek
        exact m2.inj k k' (by omega) (by omega) ek
  · have q1 : k < W.n + 1 := q
    by_cases k1 : k = W.n
    · rw [k1, el] at ek
      exact nim (.inl (ek ▸ z))
    · rw [en k (by omega)] at ek
      exact (mb.avt a z).2 k (by show k < W.n; omega) ek
  · by_cases hk : k < W.n
    · rw [List.getElem?_append_left (by rw [len]; exact hk), List.getElem?_take_of_lt hk] at ec
      exact (m2.cell k c ec).back m x dn rfl rfl hk
    · have hk2 : k = W.n := by
        have := lt_of_get ec
        rw [List.length_append, len] at this
        simp at this
        omega
      rw [hk2, List.getElem?_append_right (by rw [len]; exact Nat.le_refl _), len, Nat.sub_self] at ec
      simp at ec
      subst ec
      refine ⟨vs, ?_, r.down dn hb, fun z => ?_⟩
      · rw [hk2, el]; exact h1
      · have z' : k < W.b := z
        have := m.bn
        omega
/-- what a def promises: it computes φ; no exception -/
def spF (G : Gm) (φ : Fn) : Sp := fun vs H Q _ => ∃ W M ds, MR G H W M ∧ RDs G H W ds vs ∧ Post G ZF [] H W (φ ds M) fun d _ W' H' => ∀ v, RD G H' W' d v → Q v H'
theorem leave_ok {keep : Bool} {d : D} {v : V} {Q : VK} (m : MR G H W M) (x : Ext H W.enter H2 W2) (m2 : MR G H2 W2 M2) (rd : RD G H2 W2 d v)
    (p : Post G ZF [] H W (if keep = true then leaveK W.n d M2 else leave W.n d M2) fun d _ W' H' => ∀ v, RD G H' W' d v → Q v H') : Q v H2 := by
  cases keep with
  | false =>
    simp only [Bool.false_eq_true, if_false] at p
    unfold leave at p
    split at p
    · rename_i hb
      exact p _ _ (back_ext x) (back_mr m x m2) v (rd.down (.back x) hb)
    · split at p
      · rename_i d' e
        exact p _ _ (back_ext x) (back_mr m x m2) v (frz_ok m x m2 12 d d' v e rd)
      · exact p.elim
  | true =>
    simp only [if_true] at p
    unfold leaveK at p
    split at p
    · rename_i h
      cases rd with
      | ref q =>
        split at p
        · exact p.elim
        · rename_i hn
          split at p
          · rename_i xs hc
            split at p
            · rename_i hb
              obtain ⟨k1, k2⟩ := back_keep m x m2 hn q hc hb
              refine p _ _ k1 k2 _ ?_
              have := RD.ref (G := G) (H := H2) (W := (W.back W2).add (W2.e h)) (h := W.n) (Nat.lt_succ_self _)
              rw [show ((W.back W2).add (W2.e h)).e W.n = W2.e h from Wd.add_n (W := W.back W2)] at this
              exact this
            · exact p.elim
          · exact p.elim
    · exact p.elim
end
theorem sr_start {G : Gm} {H : Hp} {W : Wd} {ds : List D} {vs : List V} {N : List Str} (r : RDs G H W ds vs) : SR G H W (ds.map some ++ List.replicate (N.length - ds.length) none) (L2.start N vs) := by
  have hl := r.length
  refine ⟨by unfold L2.start; simp [hl], fun i d e => ?_⟩
  by_cases hi : i < ds.length
  · rw [List.getElem?_append_left (by simpa using hi)] at e
    rw [List.getElem?_map] at e
    cases q : ds[i]? with
    | none => rw [q] at e; cases e
    | some d' =>
      rw [q] at e
      cases e
      obtain ⟨v, hv, rv⟩ := r.get q
      refine ⟨v, ?_, rv⟩
      unfold L2.start
      rw [List.getElem?_append_left (by simp; omega), List.getElem?_map, hv]
      rfl
  · rw [List.getElem?_append_right (by simpa using hi)] at e
    rw [List.getElem?_replicate] at e
    split at e <;> cases e
section
variable {P : Program} {w : World} {K : PySem.W.Frag} {mg : Str → Option Value} {base : Heap}
/-- a def by its body -/
theorem fn_ok {x qual : Str} {st : Stmt} {f : Addr} {fd : FuncData} {N ps : List Str} {k : Nat} (keep : Bool) {body : SS} (F : Fun K x qual st f fd) (S : FnScope N ps (defScope st))
    (hb : ∀ (cdv : Value) (A : Around) (outer : List Env) (s : Shared) (H : Hp) (E : XK), Room k (A.deeper (envOfC qual (defScope st) s.heap.objs.size f cdv)) → (A.deeper (envOfC qual (defScope st) s.heap.objs.size f cdv)).guards = some [] → SB (cxOf CX0 P w K mg base N qual (defScope st) f cdv A outer s H E).nox ZF (defBody st) body) :
    FnG P w K mg base CX0 (k + 1) f fd ps (spF ⟨K, mg⟩ (mkFn keep ps.length N.length body)) := by
  have hlen : ∀ vs H Q E, spF ⟨K, mg⟩ (mkFn keep ps.length N.length body) vs H Q E → vs.length = ps.length := fun vs H Q E h => by
    obtain ⟨W, M, ds, m, r, p⟩ := h
    unfold mkFn at p
    split at p
    · rename_i e; rw [← r.length]; exact e
    · exact p.elim
  refine fng F S hlen fun cdv A outer s H vs Q E hr hgd h => ⟨_, PSs.nox (hb cdv A outer s H E hr hgd), ?_⟩
  obtain ⟨W, M, ds, m, r, p⟩ := h
  unfold mkFn at p
  split at p
  · rename_i el
    have ml : M.length = W.n := m.len
    refine ⟨W.enter, _, M, m.enter, sr_start (N := N) (r.mono enter_le), ?_⟩
    rw [el]
    rw [ml] at p
    show PostS _ _ H W.enter (body W.n _ M) _
    cases q : body W.n (ds.map some ++ List.replicate (N.length - ps.length) none) M with
    | nx s1 M1 =>
      rw [q] at p
      intro W' H' t x1 m1 sr1
      exact p _ _ (back_ext x1) (back_mr m x1 m1) .non .non
    | rt d M1 =>
      rw [q] at p
      intro W' H' v x1 m1 rv
      exact leave_ok m x1 m1 rv p
    | bk s1 M1 => rw [q] at p; exact p.elim
    | ct s1 M1 => rw [q] at p; exact p.elim
    | exc c d s1 M1 =>
      rw [q] at p
      intro W' H' t C dd v x1 m1 sr1 rd hg hx hd
      have p' : Post ⟨K, mg⟩ ZF [] H W (if below 0 d = true then R.exc c d (M1.take W.n) else .bad) fun d _ W' H' => ∀ v, RD ⟨K, mg⟩ H' W' d v → Q v H' := p
      split at p'
      · rename_i h0
        exact p' _ _ C dd v (back_ext x1) (back_mr m x1 m1) (rd.down (.back x1) (below_mono (Nat.zero_le _) _ h0)) hg hx (back_im x1 hd)
      · exact p'.elim
    | bad => rw [q] at p; exact p.elim
  · exact p.elim
theorem fn_no {f : Addr} {fd : FuncData} {ps : List Str} {k : Nat} {φ : Fn} (h : ∀ ds M, φ ds M = .bad) : FnG P w K mg base CX0 k f fd ps (spF ⟨K, mg⟩ φ) :=
  ⟨fun vs H Q E ⟨W, M, ds, m, r, p⟩ => by rw [h] at p; exact p.elim, fun A outer s H args us vs Q E hr hgd he hb hv ⟨W, M, ds, m, r, p⟩ => by rw [h] at p; exact p.elim⟩
end
section
variable {X : Cx} {Z : WX} {pos p : Pos} {e : Expr} {es : List Expr} {fa : EA}
/-- a call of an own def -/
theorem se_call {k : Nat} {f : Addr} {fd : FuncData} {ps : List Str} {x : Str} {φ : Fn} (F : FnG X.prog X.w X.K X.mg X.base CX0 k f fd ps (spF (gm X) φ)) (hr : Room k X.A) (hgd : X.A.guards = some []) (hm : X.mg x = some (.ref f)) (hk : PySem.W.keepIn X.K (.ref f) = true) (hb : Binds X.K fd ps [])
    (ha : SA X ZF (e :: es) fa) (hg : Gl X x := by rfl) (hdb : (x == ("__debug__" : Str)) = false := by decide) (he : starEach (e :: es) X.env = (false, eval e X.env) :: starEach es X.env := by rfl) (hpl : (backTo pos (starEach es X.env)).any (·.1) = false := by rfl) :
    SE X ZF (.Call (.Name x p) (e :: es) [] pos) (eCall φ fa) := by
  refine (pg_call F hr hgd hg hm hk hb pass0 ha hdb he hpl).weak fun σ H Q ⟨W, s, M, m, sr, po⟩ => ⟨W, s, M, m, sr, (Post.bind po).imp fun ds M1 W1 H1 x1 m1 p1 vs rvs => ?_⟩
  exact ⟨W1, M1, ds, m1, rvs, p1⟩
end
end LW
namespace LW
open PySem PySem.Spec PyProof.Rows L2
/-- a look at a comprehension's names -/
def bkC (N : List Str) (sc scope : Scope) (own : List (Str × Nat)) : Bool :=
  decide (scope.kind = .function) && scope.names.all (fun y => decide (scope.names.lookup y.1 = some y.2)) && own.all (fun p => decide (N[p.2]? = some p.1)) &&
  scope.names.all (fun y => !decide (y.2 = .free) || (decide (sc.names.lookup y.1 = some .cell) || decide (sc.names.lookup y.1 = some .free))) &&
  scope.names.all (fun y => !(decide (y.2 = .local) || decide (y.2 = .cell)) || (decide (y.1 ∈ own.map (·.1)) || decide (y.1 ∉ N)))
theorem bk_by {N : List Str} {sc scope : Scope} {own : List (Str × Nat)} (h : bkC N sc scope own = true) : BlkOk N sc scope own := by
  unfold bkC at h
  simp only [Bool.and_eq_true, decide_eq_true_eq, List.all_eq_true, Bool.or_eq_true, Bool.not_eq_true', decide_eq_false_iff_not, Bool.or_eq_false_iff] at h
  obtain ⟨⟨⟨⟨h1, h2⟩, h3⟩, h4⟩, h5⟩ := h
  refine ⟨h1, h2, h3, fun y hy e => ?_, fun y hy e => ?_⟩
  · rcases h4 y hy with z | z
    · exact absurd e z
    · exact z
  · rcases h5 y hy with z | z
    · exact absurd e (fun q => q.elim z.1 z.2)
    · exact z
theorem gl_nil : ∀ b ds s M r, gsNil b ds s M = some r → ds.length = 0 := fun b ds s M r h => by
  cases ds with
  | nil => rfl
  | cons d ds => cases h
theorem gl_cons {g : EG} {gs : EGs} {n : Nat} (q : ∀ b ds s M r, gs b ds s M = some r → ds.length = n) : ∀ b ds s M r, gsCons g gs b ds s M = some r → ds.length = n + 1 := fun b ds s M r h => by
  cases ds with
  | nil => cases h
  | cons d ds =>
    have h' : (g b d s M).bind (fun p => gs b ds p.1 p.2) = some r := h
    cases e : g b d s M with
    | none => rw [e] at h'; cases h'
    | some p =>
      rw [e] at h'
      rw [List.length_cons, q b ds p.1 p.2 r h']
theorem fn_by {P : Program} {w : World} {K : PySem.W.Frag} {mg : Str → Option Value} {base : Heap} {x qual : Str} {st : Stmt} {f : Addr} {fd : FuncData} {N ps : List Str} {k : Nat} (keep : Bool) (np nn : Nat) (body : SS) {φ : Fn} (hφ : φ = mkFn keep np nn body) (F : Fun K x qual st f fd) (S : FnScope N ps (defScope st)) (hp : ps.length = np) (hn : N.length = nn)
    (hb : ∀ (cdv : Value) (A : Around) (outer : List Env) (s : Shared) (H : Hp) (E : XK), Room k (A.deeper (envOfC qual (defScope st) s.heap.objs.size f cdv)) → (A.deeper (envOfC qual (defScope st) s.heap.objs.size f cdv)).guards = some [] → SB (cxOf CX0 P w K mg base N qual (defScope st) f cdv A outer s H E).nox ZF (defBody st) body) :
    FnG P w K mg base CX0 (k + 1) f fd ps (spF ⟨K, mg⟩ φ) := by
  subst hp hn hφ
  exact fn_ok keep F S hb
/-- an own def, ready to be called -/
def Cal (P : Program) (w : World) (K : PySem.W.Frag) (mg : Str → Option Value) (base : Heap) (k : Nat) (x : Str) (ps : List Str) (φ : Fn) : Prop :=
  ∃ (f : Addr) (fd : FuncData), FnG P w K mg base CX0 k f fd ps (spF ⟨K, mg⟩ φ) ∧ mg x = some (.ref f) ∧ PySem.W.keepIn K (.ref f) = true ∧ Binds K fd ps []
theorem Cal.mono {P : Program} {w : World} {K : PySem.W.Frag} {mg : Str → Option Value} {base : Heap} {j k : Nat} {x : Str} {ps : List Str} {φ : Fn} (c : Cal P w K mg base j x ps φ) (h : j ≤ k) : Cal P w K mg base k x ps φ := by
  obtain ⟨f, fd, a, b⟩ := c
  exact ⟨f, fd, a.mono h, b⟩
section
variable {X : Cx} {pos p : Pos} {e : Expr} {es : List Expr} {fa : EA}
theorem se_cal {k k' : Nat} {ps : List Str} {x : Str} {φ : Fn} (C : Cal X.prog X.w X.K X.mg X.base k x ps φ) (hr : Room k' X.A) (hgd : X.A.guards = some []) (ha : SA X ZF (e :: es) fa) (hk : k ≤ k' := by decide) (hg : Gl X x := by rfl) (hdb : (x == ("__debug__" : Str)) = false := by decide)
    (he : starEach (e :: es) X.env = (false, eval e X.env) :: starEach es X.env := by rfl) (hpl : (backTo pos (starEach es X.env)).any (·.1) = false := by rfl) :
    SE X ZF (.Call (.Name x p) (e :: es) [] pos) (eCall φ fa) := by
  obtain ⟨f, fd, F, hm, hkp, hb⟩ := C
  exact se_call F (hr.mono hk) hgd hm hkp hb ha hg hdb he hpl
theorem sg_nm (i : Nat) {x : Str} (hN : X.N.Nodup) (hi : X.N[i]? = some x := by rfl) (hx : Loc X.env.scope x := by first | exact Or.inl rfl | exact Or.inr rfl) (hf : X.fn x = true ∨ X.env.scope.names.lookup x = some .local := by first | exact .inl rfl | exact .inr rfl) :
    SG X (.Name x pos) (.nm i) := sg_name (pg_name hN hi hx hf)
end
section
variable {X : Cx} {Z : WX} {pos p : Pos} {tg a b c : Expr} {fs : EA}
end
def spLaw (K : PySem.W.Frag) : Sp := fun vs H Q _ => ∃ (a : Addr) (ns : List Int), vs = [.ref a] ∧ SqL K H a (ns.map V.int) ∧ ns.length ≤ 63 ∧ ∀ H', Q (.bl true) H'
theorem law_end {P : Program} {w : World} {K : PySem.W.Frag} {mg : Str → Option Value} {base : Heap} {k : Nat} {f : Addr} {fd : FuncData} {ps : List Str} {φ : Fn} (F : FnG P w K mg base CX0 k f fd ps (spF ⟨K, mg⟩ φ))
    (h : ∀ ns : List Int, ns.length ≤ 63 → ∃ M', φ [.scr ns] [] = .ok (.bl true) M') : FnG P w K mg base CX0 k f fd ps (spLaw K) := by
  refine F.imp fun vs H Q E ⟨a, ns, e, hS, hl, q⟩ => ?_
  subst e
  obtain ⟨M', e⟩ := h ns hl
  refine ⟨⟨fun _ => (0, .own 0), 0, 0, fun _ => 0, fun _ => False⟩, [], [.scr ns], ⟨rfl, fun h _ q => absurd q (Nat.not_lt_zero _), Nat.le_refl _, fun h q => absurd q (Nat.not_lt_zero _), fun a z => z.elim, fun h c e => by simp at e⟩, .cons (.scr ?_) .nil, ?_⟩
  · rcases hS with z | z
    · exact .inl ⟨z, fun y => y.elim id fun ⟨k, hk, _⟩ => absurd hk (Nat.not_lt_zero _)⟩
    · exact .inr z
  · rw [e]
    intro W' H' x m v rv
    cases rv
    exact q H'
end LW
namespace LW
open PySem PySem.Spec PyProof.Rows L2
def eFld (c f : Str) (g : ES) : ES := fun b s M => (g b s M).bind fun x M1 => match x with
  | .ref h => match M1[h]? with
    | some (.ins c' fs) => if c' = c then (match fs.lookup f with | some d => .ok d M1 | none => .bad) else .bad
    | _ => .bad
  | _ => .bad
section
variable {X : Cx} {Z : WX} {e o value : Expr} {c f m : Str} {pos apos : Pos} {g : ES} {es : List Expr} {fa : EA}
/-- an own class's method, ready to be called -/
def CalM (P : Program) (w : World) (K : PySem.W.Frag) (mg : Str → Option Value) (base : Heap) (k : Nat) (c m : Str) (ps : List Str) (φ : Fn) : Prop :=
  ∃ (C f : Addr) (fd : FuncData), mg c = some (.ref C) ∧ Cls K C ∧ Meth K C m f ∧ FnG P w K mg base CX0 k f fd ps (spF ⟨K, mg⟩ φ) ∧ Binds K fd ps []
def eMth (c m : Str) (φ : Fn) (g : ES) (fa : EA) : ES := fun b s M => (g b s M).bind fun x M1 => match x with
  | .ref h => match M1[h]? with
    | some (.ins c' fs) => if c' = c ∧ fs.lookup m = none then (fa b s M1).bind fun ds M2 => φ (.ref h :: ds) M2 else .bad
    | _ => .bad
  | _ => .bad
end
def putD (f : Str) (d : D) : List (Str × D) → List (Str × D)
  | [] => [(f, d)]
  | (g, x) :: r => if g = f then (g, d) :: r else (g, x) :: putD f d r
def sFldS (c f : Str) (fo fv : ES) : SS := fun b s M => (fv b s M).toS s fun d M1 => (fo b s M1).toS s fun x M2 => match x with
  | .ref h => match M2[h]? with
    | some (.ins c' fs) => if c' = c ∧ fs.length < 1000 ∧ stOk b h d = true then .nx s (M2.set h (.ins c' (putD f d fs))) else .bad
    | _ => .bad
  | _ => .bad
section
variable {G : Gm} {H : Hp} {W : Wd} {M : Mem}
end
section
variable {X : Cx} {Z : WX} {e o value : Expr} {c f m : Str} {pos apos : Pos} {g fv : ES} {es : List Expr} {fa : EA}
end
section
variable {X : Cx} {CX : CXT} {k : Nat} {F0 C : Addr} {fd : FuncData} {ps : List Str} {sp : Sp} {E : XK} {x : Str} {p pos : Pos} {e : Expr} {es : List Expr} {t : TA}
end
def eNew (c : Str) (φ : Fn) (fa : EA) : ES := fun b s M => (fa b s M).bind fun ds M1 => match φ (.ref M1.length :: ds) (M1 ++ [.ins c []]) with
  | .ok .non M2 => .ok (.ref M1.length) M2
  | _ => .bad
def Wd.stay (W W2 : Wd) : Wd := { W2 with b := W.b, lim := W.lim }
section
variable {G : Gm} {H H2 : Hp} {W W2 : Wd} {M M2 : Mem} {x : Addr}
end
section
variable {P : Program} {w : World} {K : PySem.W.Frag} {mg : Str → Option Value} {base : Heap}
end
section
variable {X : Cx} {e : Expr} {c : Str} {p pos : Pos} {es : List Expr} {fa : EA}
end
end LW
namespace LW
open PySem PySem.Spec PyProof.Rows L2
def eMth0 (c m : Str) (φ : Fn) (g : ES) : ES := fun b s M => (g b s M).bind fun x M1 => match x with
  | .ref h => match M1[h]? with
    | some (.ins c' fs) => if c' = c ∧ fs.lookup m = none then φ [.ref h] M1 else .bad
    | _ => .bad
  | _ => .bad
section
variable {X : Cx} {o : Expr} {c m : Str} {pos apos : Pos} {g : ES}
end
end LW
namespace LW
open PySem PySem.Spec PyProof.Rows L2
def eNox (f : ES) : ES := fun b s M => (f b s M).nox
def tNox (f : ET) : ET := fun b s M => (f b s M).nox
def aNox (f : EA) : EA := fun b s M => (f b s M).nox
def RS.nox (r : RS) : RS := match r with
  | .exc _ _ _ _ => .bad
  | r => r
@[simp] theorem snox_nx (s : Slots) (M : Mem) : (RS.nx s M).nox = .nx s M := id rfl
@[simp] theorem snox_rt (d : D) (M : Mem) : (RS.rt d M).nox = .rt d M := id rfl
@[simp] theorem snox_bk (s : Slots) (M : Mem) : (RS.bk s M).nox = .bk s M := id rfl
@[simp] theorem snox_ct (s : Slots) (M : Mem) : (RS.ct s M).nox = .ct s M := id rfl
@[simp] theorem snox_exc (c : Str) (d : D) (s : Slots) (M : Mem) : (RS.exc c d s M).nox = .bad := id rfl
@[simp] theorem snox_bad : RS.bad.nox = .bad := id rfl
def sNox (f : SS) : SS := fun b s M => (f b s M).nox
@[simp] theorem r_sNox (f : SS) (b : Nat) (s : Slots) (M : Mem) : sNox f b s M = (f b s M).nox := id rfl
@[simp] theorem r_eNox (f : ES) (b : Nat) (s : Slots) (M : Mem) : eNox f b s M = (f b s M).nox := id rfl
@[simp] theorem r_tNox (f : ET) (b : Nat) (s : Slots) (M : Mem) : tNox f b s M = (f b s M).nox := id rfl
@[simp] theorem r_aNox (f : EA) (b : Nat) (s : Slots) (M : Mem) : aNox f b s M = (f b s M).nox := id rfl
theorem Post.unnox {G : Gm} {Z : WX} {t : L2.St} {H : Hp} {W : Wd} {α : Type} {r : R α} {Q : α → Mem → Wd → Hp → Prop} (p : Post G Z t H W r.nox Q) : Post G ZF t H W r Q := by
  cases r with
  | ok a M => exact p
  | exc c d M => exact p.elim
  | bad => exact p
section
variable {X : Cx} {Z : WX} {e : Expr} {es : List Expr} {st : Stmt} {f : ES} {c : ET} {fa : EA} {u : SS}
theorem st_nox (h : ST X.nox ZF e c) : ST X Z e (tNox c) := (PT.nox h).weak fun σ H Q ⟨W, s, M, m, sr, p⟩ => ⟨W, s, M, m, sr, Post.unnox p⟩
theorem _root_.L2.PA.nox {t : TA} (h : PA X.nox es t) : PA X es t := ⟨fun pos pins s σ H Q I hw =>
  wpAny_mono (h.run pos pins s σ H Q (I.wish _) hw) (fun _ _ ⟨v, H', I', r, q⟩ => ⟨v, H', I'.unwish, r, q⟩) fun _ _ z => False.elim z⟩
theorem _root_.L2.PS.nox {t : TS} (h : PS X.nox st t) : PS X st t := ⟨fun pins s σ H D I hw =>
  wpAny_mono (h.run pins s σ H D (I.wish _) hw) (fun _ _ q => q.unwish) fun _ _ z => False.elim z⟩
theorem sx_nox (h : SX X.nox ZF st u) : SX X Z st (sNox u) := (PS.nox h).weak fun E σ H ⟨W, s, M, m, sr, p⟩ => ⟨W, s, M, m, sr, by
  have e : sNox u W.b s M = (u W.b s M).nox := rfl
  rw [e] at p
  show PostS _ _ _ _ (u W.b s M) _
  cases q : u W.b s M with
  | exc c d s1 M1 => rw [q] at p; exact p.elim
  | nx s1 M1 => rw [q] at p; exact p
  | rt d M1 => rw [q] at p; exact p
  | bk s1 M1 => rw [q] at p; exact p
  | ct s1 M1 => rw [q] at p; exact p
  | bad => rw [q] at p; exact p⟩
end
abbrev ZE (E : XK) : WX := fun cls d _ H => E cls d H
def spX (G : Gm) (φ : Fn) : Sp := fun vs H Q E => ∃ W M ds, MR G H W M ∧ RDs G H W ds vs ∧ Post G (ZE E) [] H W (φ ds M) fun d _ W' H' => ∀ v, RD G H' W' d v → Q v H'
section
variable {P : Program} {w : World} {K : PySem.W.Frag} {mg : Str → Option Value} {base : Heap}
theorem leave_okX {G : Gm} {H H2 : Hp} {W W2 : Wd} {M M2 : Mem} {Z : WX} {keep : Bool} {d : D} {v : V} {Q : VK} (m : MR G H W M) (x : Ext H W.enter H2 W2) (m2 : MR G H2 W2 M2) (rd : RD G H2 W2 d v)
    (p : Post G Z [] H W (if keep = true then leaveK W.n d M2 else leave W.n d M2) fun d _ W' H' => ∀ v, RD G H' W' d v → Q v H') : Q v H2 := by
  refine leave_ok m x m2 rd (keep := keep) ?_
  have nx : ∀ c e M3, (if keep = true then leaveK W.n d M2 else leave W.n d M2) ≠ R.exc c e M3 := by
    intro c e M3 z
    cases keep with
    | true =>
      simp only [if_true] at z
      unfold leaveK at z
      split at z
      · split at z
        · cases z
        · split at z
          · split at z <;> cases z
          · cases z
      · cases z
    | false =>
      simp only [Bool.false_eq_true, if_false] at z
      unfold leave at z
      split at z
      · cases z
      · split at z <;> cases z
  cases q : (if keep = true then leaveK W.n d M2 else leave W.n d M2) with
  | ok a M3 => rw [q] at p; exact p
  | exc c e M3 => exact absurd q (nx c e M3)
  | bad => rw [q] at p; exact p
theorem fn_byX {x qual : Str} {st : Stmt} {f : Addr} {fd : FuncData} {N ps : List Str} {k : Nat} (keep : Bool) (np nn : Nat) (body : SS) {φ : Fn} (hφ : φ = mkFn keep np nn body) (F : Fun K x qual st f fd) (S : FnScope N ps (defScope st)) (hp : ps.length = np) (hn : N.length = nn)
    (hb : ∀ (cdv : Value) (A : Around) (outer : List Env) (s : Shared) (H : Hp) (E : XK), Room k (A.deeper (envOfC qual (defScope st) s.heap.objs.size f cdv)) → (A.deeper (envOfC qual (defScope st) s.heap.objs.size f cdv)).guards = some [] →
      Takes (cxOf (L2.CX P w) P w K mg base N qual (defScope st) f cdv A outer s H E) (ZE E) → PassesOwn (model P w) (A.deeper (envOfC qual (defScope st) s.heap.objs.size f cdv)) (envOfC qual (defScope st) s.heap.objs.size f cdv) (cxOf (L2.CX P w) P w K mg base N qual (defScope st) f cdv A outer s H E).xe →
      SB (cxOf (L2.CX P w) P w K mg base N qual (defScope st) f cdv A outer s H E) (ZE E) (defBody st) body) :
    FnG P w K mg base (L2.CX P w) (k + 1) f fd ps (spX ⟨K, mg⟩ φ) := by
  subst hp hn hφ
  have hlen : ∀ vs H Q E, spX ⟨K, mg⟩ (mkFn keep ps.length N.length body) vs H Q E → vs.length = ps.length := fun vs H Q E h => by
    obtain ⟨W, M, ds, m, r, p⟩ := h
    unfold mkFn at p
    split at p
    · rename_i e; rw [← r.length]; exact e
    · exact p.elim
  refine fng F S hlen fun cdv A outer s H vs Q E hr hgd h => ⟨_, hb cdv A outer s H E hr hgd (takes_of rfl rfl rfl rfl) (passes_of (X := cxOf (L2.CX P w) P w K mg base N qual (defScope st) f cdv A outer s H E) rfl), ?_⟩
  obtain ⟨W, M, ds, m, r, p⟩ := h
  unfold mkFn at p
  split at p
  · rename_i el
    have ml : M.length = W.n := m.len
    refine ⟨W.enter, _, M, m.enter, sr_start (N := N) (r.mono enter_le), ?_⟩
    rw [el]
    rw [ml] at p
    show PostS _ _ H W.enter (body W.n _ M) _
    cases q : body W.n (ds.map some ++ List.replicate (N.length - ps.length) none) M with
    | nx s1 M1 =>
      rw [q] at p
      intro W' H' t x1 m1 sr1
      exact p _ _ (back_ext x1) (back_mr m x1 m1) .non .non
    | rt d M1 =>
      rw [q] at p
      intro W' H' v x1 m1 rv
      exact leave_okX m x1 m1 rv p
    | bk s1 M1 => rw [q] at p; exact p.elim
    | ct s1 M1 => rw [q] at p; exact p.elim
    | exc c d s1 M1 =>
      rw [q] at p
      intro W' H' t C dd v x1 m1 sr1 rd hg hx hd
      have p' : Post ⟨K, mg⟩ (ZE E) [] H W (if below 0 d = true then R.exc c d (M1.take W.n) else .bad) fun d _ W' H' => ∀ v, RD ⟨K, mg⟩ H' W' d v → Q v H' := p
      split at p'
      · rename_i h0
        exact p' _ _ C dd v (back_ext x1) (back_mr m x1 m1) (rd.down (.back x1) (below_mono (Nat.zero_le _) _ h0)) hg hx (back_im x1 hd)
      · exact p'.elim
    | bad => rw [q] at p; exact p.elim
  · exact p.elim
/-- an own def that may raise, ready to be called -/
def CalX (P : Program) (w : World) (K : PySem.W.Frag) (mg : Str → Option Value) (base : Heap) (k : Nat) (x : Str) (ps : List Str) (φ : Fn) : Prop :=
  ∃ (f : Addr) (fd : FuncData), FnG P w K mg base (L2.CX P w) k f fd ps (spX ⟨K, mg⟩ φ) ∧ mg x = some (.ref f) ∧ PySem.W.keepIn K (.ref f) = true ∧ Binds K fd ps []
end
section
variable {X : Cx} {Z : WX} {x : Str} {p pos : Pos} {e : Expr} {es : List Expr} {fa : EA}
theorem go_fnX {k : Nat} {f : Addr} {fd : FuncData} {ps : List Str} {sp : Sp} {pins : List (Addr × Obj)} {σ : L2.St} {H : Hp} {s : Shared} {Q : VK} {us : List Value} {vs : List V} (F : FnG X.prog X.w X.K X.mg X.base (L2.CX X.prog X.w) k f fd ps sp) (hr : Room k X.A) (hgd : X.A.guards = some []) (hb : Binds X.K fd ps []) (tk : Takes X Z)
    (I : Inv X pins σ H s) (r : Vals vs us) (h : sp vs H Q (fun cls d H' => Z cls d σ H')) : wpAny (model X.prog X.w) X.A (call (.ref f) us) (EP X pins σ Q) X.xe s := by
  have hl : (us ++ []).length = ps.length := by rw [List.append_nil, ← r.length]; exact F.many _ _ _ _ h
  have bd := hb s us I.kIn hl
  rw [List.append_nil] at bd
  refine wpAny_call (codeAny_mono (F.goes X.A X.stack s H ⟨us, []⟩ us vs Q _ hr hgd I.env0 bd r h) fun r s' z => ?_)
  match r, z with
  | .error e, z => exact tk e s' (XE.of_call I (fun _ _ _ h => h) z)
  | .ok (.ret u), z => exact I.after z
theorem se_calX {k k' : Nat} {ps : List Str} {φ : Fn} (C : CalX X.prog X.w X.K X.mg X.base k x ps φ) (hr : Room k' X.A) (hgd : X.A.guards = some []) (tk : Takes X Z) (ha : SA X Z (e :: es) fa) (hk : k ≤ k' := by decide) (hg : Gl X x := by rfl) (hdb : (x == ("__debug__" : Str)) = false := by decide)
    (he : starEach (e :: es) X.env = (false, eval e X.env) :: starEach es X.env := by rfl) (hpl : (backTo pos (starEach es X.env)).any (·.1) = false := by rfl) :
    SE X Z (.Call (.Name x p) (e :: es) [] pos) (eCall φ fa) := by
  obtain ⟨f, fd, F, hm, hkp, hb⟩ := C
  refine ⟨fun pins s σ H Q I h => wpAny_Call_Name_kw (ld_glob I hg hm (PySem.W.callWith_K (h₀ := X.base) I.ok.mod.kin hkp (thn (ha.run pos pins s σ H (fun vs H1 => spX (gm X) φ vs H1 Q (fun cls d H' => Z cls d σ H')) I ?_) fun us s1 ⟨vs, H1, I1, r, q⟩ => ⟨I1.kIn, go_fnX F (hr.mono hk) hgd hb tk I1 r q⟩) he hpl) hdb)⟩
  obtain ⟨W, sl, M, m, sr, po⟩ := h
  refine ⟨W, sl, M, m, sr, (Post.bind po).imp fun ds M1 W1 H1 x1 m1 p1 vs rvs => ⟨W1, M1, ds, m1, rvs, ?_⟩⟩
  have p1 : Post (gm X) Z σ H1 W1 (φ ds M1) fun d _ W' H' => ∀ v, RD (gm X) H' W' d v → Q v H' := p1
  cases hq : φ ds M1 with
  | ok a M => rw [hq] at p1; exact p1
  | exc c d M => rw [hq] at p1; exact p1
  | bad => rw [hq] at p1; exact p1
end
theorem CalX.cal {P : Program} {w : World} {K : PySem.W.Frag} {mg : Str → Option Value} {base : Heap} {k : Nat} {x : Str} {ps : List Str} {φ : Fn} (C : CalX P w K mg base k x ps φ) : Cal P w K mg base k x ps φ := by
  obtain ⟨f, fd, F, h⟩ := C
  have sp : ∀ vs H Q E, spF ⟨K, mg⟩ φ vs H Q E → spX ⟨K, mg⟩ φ vs H Q (fun _ _ _ => False) := fun vs H Q E ⟨W, M, ds, m, r, p⟩ => ⟨W, M, ds, m, r, p⟩
  refine ⟨f, fd, ⟨fun vs H Q E q => F.many vs H Q _ (sp vs H Q E q), fun A out s H as us vs Q E r1 r2 r3 r4 r5 r6 => ?_⟩, h⟩
  refine codeAny_mono (F.goes A out s H as us vs Q (fun _ _ _ => False) r1 r2 r3 r4 r5 (sp vs H Q E r6)) fun r s' z => ?_
  match r, z with
  | .error e, ⟨_, _, _, _, _, _, _, _, _, _, _, _, z⟩ => exact z.elim
  | .ok (.ret u), z => exact z
end LW
namespace LW
open PySem PySem.Spec PyProof.Rows L2
def tailB (B : String) : List Value := [.type B, .type "Exception", .type "BaseException", .type "object"]
structure ExB (B newId initId : String) : Prop where
  F : ExcBaseFacts B newId initId (tailB B)
  S : StoreFacts B (tailB B) "object.__setattr__" "object"
  ty : typeOf (.type B) = pure (.type "type")
  stub : Manifest.isStub B = false
  hand : PySem.W.handedIn (.builtin initId) = true
theorem exB_V : ExB "ValueError" "ValueError.__new__" "ValueError.__init__" := ⟨F.excBase_ValueError, F.store_ValueError, by kernel_rfl, by decide +kernel, by decide +kernel⟩
structure OexB (K : PySem.W.Frag) (B newId : String) (C : Addr) : Prop where
  cls : ∃ nm q N bs sn sub ab col dd k0 k1 k2 k3 k5, K.lookup C = some (excClassObj nm q C N bs (tailB B) true sn sub ab col dd k0 k1 k2 k3 k5 newId)
  sa : PySem.W.findIn K (.ref C) "__setattr__" = some (some (.builtin "object.__setattr__"))
  exC : PySem.W.subIn K (.ref C) (.type "BaseException") = some true
  tyC : PySem.W.typeIn K (.ref C) = some (.type "type")
  kC : PySem.W.keepIn K (.ref C) = true
section
open Builtin Builtin.ObjectAttr
variable {prog : Program} {w : World} {A : Around} {R : Result → Shared → Prop} {hp : Heap} {g : Array GenState} {d : Drawn} {t : Nat} {os : OsState} {B newId initId : String}
/-- the first field of an exception -/
theorem osaB {K : PySem.W.Frag} {name : Str} {tk : Tok} {v : Value} {x C : Addr} {fv : Array Value} {cd : ClassData} (S : StoreFacts B (tailB B) "object.__setattr__" "object")
    (X : K.In hp) (hx : hp.get? x = some { cls := .ref C, data := .fields fv }) (hcd : W.clsIn K C = some cd) (hm : cd.mro = .ref C :: tailB B) (hh : cd.hasDict = true) (ha : W.findIn K (.ref C) name = some none)
    (hq : ∀ h' tk' dx, (∀ b o, b ≠ x → hp.get? b = some o → h'.get? b = some o) → hp.objs.size ≤ dx → dx ≠ x → h'.get? x = some { cls := .ref C, dict := some dx, data := .fields fv } →
      h'.Ns1 dx (fun y => if y = name then some v else none) → R (.ok (.ret .none)) ⟨h', g, d, tk', os⟩) :
    codeAny (model prog w) A (.call (.builtin "object.__setattr__") ⟨[.ref x, .str name tk, v], []⟩) R ⟨hp, g, d, t, os⟩ := by
  have I : W.InstAt hp x { cls := .ref C, data := .fields fv } C none := ⟨hx, rfl, rfl, trivial⟩
  have SF := F.store_object
  have ne : cd.mro.isEmpty = false := by rw [hm]; rfl
  have hob : cd.mro.contains (.type "object") = true := by
    rw [hm, List.contains_cons, S.hasOwner, Bool.or_true]
  have hxs : x ≠ hp.objs.size := Nat.ne_of_lt (Heap.lt_size hx)
  have sub : W.Looks (model prog w) hp (isInstance (.ref x) (.type "object")) true := I.type.andThen (W.looks_mroIn X (by unfold W.mroIn; rw [hcd, Option.bind_some, if_neg (by rw [ne]; decide), hob]))
  refine codeAny_call_builtin SF.slot.plain SF.entry (@W.check_slot (model prog w) _ _ ⟨hp, g, d, t, os⟩ "object.__setattr__" "object" "__setattr__" (.ref x) [.str name tk, v] [] _ SF.kind SF.split sub (SF.args (.ref x) (.str name tk) v) ?_)
  have hmr : W.Looks (model prog w) hp (mroOf (.ref C)) cd.mro := (W.looks_clsIn X hcd).andThen .now
  have L3 : W.Looks (model prog w) hp (storeTaker? none) none := .now
  have hcls : W.Looks (model prog w) hp (classData C) cd := W.looks_clsIn X hcd
  rw [W.osa_eq, refuse_eq]
  refine wpAny_bind (wpAny_bind (I.type.at (wpAny_bind (hmr.at ?_))))
  rw [show refuseLoop (.ref x) "__setattr__" cd.mro = pure () by rw [hm, refuseLoop_ref]; exact S.passes _]
  refine wpAny_pure (wpAny_bind (I.type.at (wpAny_bind ((W.looks_findIn X ha).at (wpAny_bind (L3.at ?_))))))
  show wpAny _ _ (storeInOwnDict (.ref x) (.ref C) (.str name tk) name v false) _ _ _
  obtain ⟨nm, bs, mro, ns, qn, hd, sn, sb, ab, col, del⟩ := cd
  dsimp only at hh
  subst hh
  unfold storeInOwnDict ownDictForStores
  repeat (first | with_reducible refine PySem.HandSPX.store_in_new ?_ ?_ | with_reducible refine wpAny_loadPart_at hx ?_ | with_reducible refine hcls.at ?_ | wp_step)
  · exact ⟨_, #[], _, (Heap.get?_update_ne _ _ _ _ hxs.symm).trans (Heap.get?_push_at rfl rfl), rfl, fun e he => absurd he (by simp), fun _ => rfl⟩
  · intro h' tk' hn' hs
    have hx₁ : (hp.push { cls := .type "dict", data := .dict #[] }).get? x = some { cls := .ref C, data := .fields fv } := Heap.get?_push_of_some _ hx
    refine hq h' tk' hp.objs.size (fun b o hb ho => ?_) (Nat.le_refl _) hxs.symm ?_ hn'
    · exact (hs.2 b (Nat.ne_of_lt (Heap.lt_size ho))).trans ((Heap.get?_update_ne _ _ _ _ hb).trans (Heap.get?_push_of_some _ ho))
    · exact (hs.2 x hxs).trans (Heap.get?_update_self _ hx₁ rfl)
end
section
variable {X : Cx} {pins : List (Addr × Obj)} {σ : L2.St} {H : Hp} {s : Shared} {a C dx : Addr} {f : Str} {y : V} {u : Value} {Q : Unit → Shared → Prop} {E : Value → Shared → Prop} {A : Around} {B newId initId : String}
/-- self.f = y -/
theorem ostB (b : ExB B newId initId) (T : OexB X.K B newId C) (I : Inv X pins σ H s) (e : H a = some (exo a C none)) (hno : PySem.W.findIn X.K (.ref C) f = some none) (ry : RelV y u)
    (h : ∀ dx s', H dx = none → dx ≠ a → Inv X pins σ (upd (upd H dx (exd dx [(f, y)])) a (exo a C (some dx))) s' → Q () s') : wpAny (model X.prog X.w) A (setAttr (.ref a) f u) Q E s := by
  obtain ⟨nm, q, N, bs, sn, sub, ab, col, dd, k0, k1, k2, k3, k5, hC⟩ := T.cls
  have hcl : PySem.W.clsIn X.K C = some { name := nm, bases := bs, mro := .ref C :: tailB B, ns := N, qualname := q, hasDict := true, slotNames := sn, subclasses := sub, abstract := ab, collection := col, hasDel := false } := by unfold PySem.W.clsIn; rw [hC] <;> rfl
  obtain ⟨t1, ho⟩ := exo_at I.hok e
  obtain ⟨hp, g, d, t, os⟩ := s
  refine PySem.W.set_plain I.kIn (ox := { cls := .ref C, dict := none, data := .fields #[.ref t1, .none, .none, .none, .bool false, .none] }) (od := none) ⟨ho, rfl, rfl, trivial⟩ T.sa ?_
  refine osaB b.S I.kIn ho hcl rfl rfl hno (fun h' tk' dx k dn dne hx hn => ?_)
  have hnd : H dx = none := I.hok.fresh dn
  have nd : ∀ {b : Addr} {o : Obj}, hp.get? b = some o → b ≠ dx := fun {b o} q => Nat.ne_of_lt (Nat.lt_of_lt_of_le (Heap.lt_size q) dn)
  have na : ∀ {b : Addr}, H b = none → b ≠ a := fun {b} n z => by
    rw [z, e] at n
    cases n
  have Un1 : Un X.fs [] H (upd (upd H dx (exd dx [(f, y)])) a (exo a C (some dx))) hp h' := {
    keep := fun b o q n _ _ => k b o (na n) q
    slot := fun b o q n _ _ => ⟨o.slots, k b o (na n) q⟩
    free := fun b o q n _ => by rw [upd_ne (na n), upd_ne (nd q)]; exact n
    there := fun b o q _ => by
      by_cases hb : b = a
      · exact ⟨_, by rw [hb]; exact hx⟩
      · exact ⟨o, k b o hb q⟩
    tups := fun b xs q => by rw [upd_ne (at_ne e q exo_tup), upd_ne (ne_of_none q hnd)]; exact q
    frzs := fun b o v q => by rw [upd_ne (at_ne e q exo_frz), upd_ne (ne_of_none q hnd)]; exact q
    tbls := fun b ps q => ⟨#[], by rw [upd_ne (at_ne e q exo_tbl), upd_ne (ne_of_none q hnd), q]; simp⟩ }
  refine h dx _ hnd dne (I.un (t' := tk') Un1 fun b o q => ?_)
  by_cases hb : b = a
  · subst hb
    rw [upd_same] at q
    cases q
    exact exo_ok hx
  · rw [upd_ne hb] at q
    by_cases hd : b = dx
    · subst hd
      rw [upd_same] at q
      cases q
      exact exd_ok hn (relO_put (fs := []) ry fun g => True.intro)
    · rw [upd_ne hd] at q
      exact (I.hok b o q).stay (fun c v hc z => k c v (by
          rcases hc with hc | hc
          · rw [hc]
            exact hb
          · exact at_ne e hc exo_own) z)
        (fun c hc => by rw [upd_ne (at_ne e hc exo_own), upd_ne (ne_of_none hc hnd)]; exact hc) (fun c xs hc => by rw [upd_ne (at_ne e hc exo_tup), upd_ne (ne_of_none hc hnd)]; exact hc)
/-- B.__init__(self, ..): nothing of it is told -/
theorem oinitB {us : List Value} {Q : Value → Shared → Prop} (b : ExB B newId initId) (T : OexB X.K B newId C) (I : Inv X pins σ H s) (e : H a = some (exo a C none)) (hl : us.length ≤ sizeLine) (h : ∀ s', Inv X pins σ H s' → Q .none s') :
    wpAny (model X.prog X.w) A (call (.builtin initId) (.ref a :: us)) Q E s := by
  obtain ⟨nm, q, N, bs, sn, sub, ab, col, dd, k0, k1, k2, k3, k5, hC⟩ := T.cls
  obtain ⟨t1, ho⟩ := exo_at I.hok e
  obtain ⟨hp, g, d, t, os⟩ := s
  refine wpAny_call (PySem.HandSPX.init_base b.F (fun Y => rfl) (I.kIn _ _ hC) ho hl fun h' t2 k hx => ?_)
  have J := I.write (t' := t) (x := a) (e := a) (o := exo a C none) (by rw [e]; exact True.intro) (.inl rfl) k ⟨_, hx⟩ (exo_ok hx)
  have eu : upd H a (exo a C none) = H := by
    funext b
    by_cases hb : b = a
    · rw [hb, upd_same, e]
    · rw [upd_ne hb]
  rw [eu] at J
  exact h _ J
end
def tBI (K : PySem.W.Frag) (B newId : String) (ta : TA) : TE := fun σ H Q => ta σ H fun vs H1 => ∃ (a C : Addr) (ws : List V), vs = .ref a :: ws ∧ ws.length ≤ 1000 ∧ OexB K B newId C ∧ H1 a = some (exo a C none) ∧ Q .non H1
def tOsB (K : PySem.W.Frag) (B newId : String) (f : Str) (to te : TE) : TS := fun D σ H => te σ H fun y H1 => to σ H1 fun x H2 => ∃ a C : Addr, x = .ref a ∧ OexB K B newId C ∧ PySem.W.findIn K (.ref C) f = some none ∧
  H2 a = some (exo a C none) ∧ ∀ dx, H2 dx = none → dx ≠ a → D.nx σ (upd (upd H2 dx (exd dx [(f, y)])) a (exo a C (some dx)))
section
variable {X : Cx} {o e : Expr} {es : List Expr} {to te : TE} {ta : TA} {f : Str} {p p' p1 p2 pos : Pos} {B newId initId : String}
theorem pe_binit {pl : Sem Bool} (b : ExB B newId initId) (hg : Gl X (Str.ofString B)) (hm : X.mg (Str.ofString B) = none) (hbt : bootBuiltins (Str.ofString B) = some (.type B)) (vV : PySem.W.findCls X.K (.type B) (.type "type") "__init__" = some (.val (.builtin initId))) (ha : PA X (e :: es) ta)
    (hc : eval (.Call (.Attribute (.Name (Str.ofString B) p1) "__init__" p2) (e :: es) [] pos) X.env = (do
      let ov ← eval (.Name (Str.ofString B) p1) X.env
      standAt p2.atName
      let (f, first) ← holding [ov] (getMethod ov "__init__" pl)
      callWith pos f first (backTo pos (starEach (e :: es) X.env)) (backToKw pos (keywordEach [] X.env))) := by rfl)
    (he : starEach (e :: es) X.env = (false, eval e X.env) :: starEach es X.env := by rfl) (hpl : (backTo pos (starEach es X.env)).any (·.1) = false := by rfl)
    (hn1 : Str.ofString B ≠ "__name__") (hn2 : (Str.ofString B == ("__debug__" : Str)) = false) :
    PE X (.Call (.Attribute (.Name (Str.ofString B) p1) "__init__" p2) (e :: es) [] pos) (tBI X.K B newId ta) := by
  refine ⟨fun pins s σ H Q I h => ?_⟩
  refine PySem.W.methodCall_KW (ld_blt I hg hm hbt ?_ hn1 hn2) hc
  obtain ⟨m, fr⟩ := I.fr
  refine PySem.W.method_type fr I.ok.mod.kin b.ty b.stub vV b.hand ?_
  show wpAny _ _ (callWith pos (Value.builtin initId) [] (backTo pos (starEach (e :: es) X.env)) []) _ _ _
  refine PyProof.Rows.callWith_method1 (thn (ha.run pos pins _ σ H _ (I.tok _) h) fun us s1 ⟨vs, H1, I1, r1, a, C, ws, ev, hl, T, ea, q⟩ => ?_) he hpl
  subst ev
  cases r1 with
  | @cons _ u0 _ ur ra rw' =>
    obtain rfl : u0 = Value.ref a := ra
    have hlen : ur.length ≤ sizeLine := by
      rw [← Paired.length rw', sizeLine_eq]
      omega
    exact oinitB b T I1 ea hlen fun s' J => ⟨.non, H1, J, rfl, q⟩
theorem ps_osB (b : ExB B newId initId) (ho : PE X o to) (he : PE X e te) (hs : swapsWith e (some (.Attribute o f p')) pos.line X.env = pure false := by rfl) : PS X (.Assign [.Attribute o f p'] e pos) (tOsB X.K B newId f to te) := by
  refine ⟨fun pins s σ H D I h => ?_⟩
  refine plainObj_wpAny_Assign_Attribute (thn (he.run pins s σ H _ I h) fun v s1 ⟨y, H1, I1, r1, q1⟩ => thn (ho.run pins s1 σ H1 _ I1 q1) fun u s2 ⟨x, H2, I2, r2, a, C, ex, T, hno, ea, q⟩ => ?_) hs
  subst ex
  obtain rfl : u = Value.ref a := r2
  exact ostB b T I2 ea hno r1 fun dx s' n ne J => ⟨σ, _, J, q dx n ne⟩
end
end LW
namespace LW
open PySem PySem.Spec PyProof.Rows L2
/-- what such an __init__ promises -/
def spIni (K : PySem.W.Frag) (B newId : String) : Sp := fun vs H Q _ => ∃ (a C : Addr) (v : V), vs = [.ref a, v] ∧ OexB K B newId C ∧ PySem.W.findIn K (.ref C) "what" = some none ∧ H a = some (exo a C none) ∧
  ∀ dx, H dx = none → dx ≠ a → Q .non (upd (upd H dx (exd dx [("what", v)])) a (exo a C (some dx)))
/-- an own exception class, ready to be made -/
def CalE (P : Program) (w : World) (K : PySem.W.Frag) (mg : Str → Option Value) (base : Heap) (c : Str) (B newId initId : String) : Prop :=
  ∃ (C f : Addr) (fd : FuncData), mg c = some (.ref C) ∧ ExB B newId initId ∧ OexB K B newId C ∧ PySem.W.findIn K (.ref C) "what" = some none ∧ PySem.W.findIn K (.ref C) "__init__" = some (some (.ref f)) ∧ PySem.W.typeIn K (.ref f) = some (.type "function") ∧
    FnG P w K mg base CX0 1 f fd ["self", "what"] (spIni K B newId) ∧ Binds K fd ["self", "what"] []
theorem guards_make {A : Around} {C : Addr} {us : List Value} {kw : List (Str × Value)} (h : A.guards = some []) : (A.under (.builtin "type.__call__" ⟨.ref C :: us, kw⟩)).guards = some [] := by
  first | exact h | (simpa [Around.under, Code.weight, Code.isCreation, Code.isGuard, Code.isCaller, Code.frames, Code.isFrame, guardIds] using h)
section
variable {X : Cx} {e : Expr} {x : Str} {p pos : Pos} {ta : TA} {B newId initId : String} {C f : Addr} {fd : FuncData}
theorem pmkB (b : ExB B newId initId) (T : OexB X.K B newId C) (hw : PySem.W.findIn X.K (.ref C) "what" = some none) (iC : PySem.W.findIn X.K (.ref C) "__init__" = some (some (.ref f))) (tI : PySem.W.typeIn X.K (.ref f) = some (.type "function"))
    (F1 : FnG X.prog X.w X.K X.mg X.base CX0 1 f fd ["self", "what"] (spIni X.K B newId)) (hb : Binds X.K fd ["self", "what"] []) (hr : Room 2 X.A) (hgd : X.A.guards = some []) (hg : Gl X x) (hm : X.mg x = some (.ref C)) (ha : PA X [e] ta)
    (hdb : (x == ("__debug__" : Str)) = false) (he : starEach [e] X.env = (false, eval e X.env) :: starEach [] X.env) (hpl : (backTo pos (starEach [] X.env)).any (·.1) = false) :
    PMk X (.Call (.Name x p) [e] [] pos) (fun σ H Q => ta σ H fun vs H1 => ∃ v, vs = [v] ∧ ∀ (d : Addr) (H2 : Hp), H1 d = none → H2 = upd H1 d (.xd [("what", v)]) → Q (.ref C) (some d) H2) := by
  intro pins s σ H Q I h
  obtain ⟨nm, q, N, bs, sn, sub, ab, col, dd, k0, k1, k2, k3, k5, hC⟩ := T.cls
  refine wpAny_Call_Name_kw (ld_glob I hg hm ?_ hdb)
  refine PySem.W.callWith_K (h₀ := X.base) I.ok.mod.kin T.kC (thn (ha.run pos pins s σ H _ I h) fun us s1 ⟨vs, H1, I1, r1, v, ev, q1⟩ => ⟨I1.kIn, ?_⟩) he hpl
  subst ev
  show wpAny _ _ (call (.ref C) us) _ _ _
  obtain ⟨hp, g, dr, tk, os⟩ := s1
  have hsz : hp.objs.size ≤ hp.objs.size + 1 := Nat.le_succ _
  have hn : H1 (hp.objs.size + 1) = none := I1.hok.fresh hsz
  have kk : ∀ b o, hp.get? b = some o → ((hp.push (PySem.W.kdv_tup us)).push (PySem.HandSPX.excO C hp.objs.size)).get? b = some o := fun b o e => Heap.get?_push_of_some _ (Heap.get?_push_of_some _ e)
  have hget : ((hp.push (PySem.W.kdv_tup us)).push (PySem.HandSPX.excO C hp.objs.size)).get? (hp.objs.size + 1) = some (PySem.HandSPX.excO C hp.objs.size) := by heap_get
  have I2 : Inv X pins σ (upd H1 (hp.objs.size + 1) (exo (hp.objs.size + 1) C none)) ⟨(hp.push (PySem.W.kdv_tup us)).push (PySem.HandSPX.excO C hp.objs.size), g, dr, tk, os⟩ :=
    I1.laid (t' := tk) (a := hp.objs.size + 1) (o := exo (hp.objs.size + 1) C none) (h' := (hp.push (PySem.W.kdv_tup us)).push (PySem.HandSPX.excO C hp.objs.size)) kk hsz (exo_ok hget)
  have r2 : Vals [V.ref (hp.objs.size + 1), v] (Value.ref (hp.objs.size + 1) :: us) := .cons rfl r1
  have hl : (Value.ref (hp.objs.size + 1) :: us ++ []).length = ["self", "what"].length := by
    have := r1.length
    simp at this ⊢
    omega
  have hus : us.length ≤ sizeLine := by
    rw [← Paired.length r1, sizeLine_eq]
    simp
  have bd := hb ⟨(hp.push (PySem.W.kdv_tup us)).push (PySem.HandSPX.excO C hp.objs.size), g, dr, tk, os⟩ (Value.ref (hp.objs.size + 1) :: us) I2.kIn hl
  rw [List.append_nil] at bd
  have hq : spIni X.K B newId [.ref (hp.objs.size + 1), v] (upd H1 (hp.objs.size + 1) (exo (hp.objs.size + 1) C none)) (fun u H2 => u = .non ∧ ∃ (d : Addr), H2 (hp.objs.size + 1) = some (exo (hp.objs.size + 1) C (some d)) ∧ H2 d = some (exd d [("what", v)]) ∧ H1 d = none ∧ Q (.ref C) (some d) (upd (del H2 (hp.objs.size + 1)) d (.xd [("what", v)]))) (fun _ _ _ => False) := by
    refine ⟨_, C, v, rfl, T, hw, upd_same, fun dx hd hne => ⟨rfl, dx, upd_same, by rw [upd_ne hne]; exact upd_same, by rw [upd_ne hne] at hd; exact hd, q1 dx _ (by rw [upd_ne hne] at hd; exact hd) ?_⟩⟩
    funext c
    by_cases c1 : c = dx
    · rw [c1, upd_same, upd_same]
    · rw [upd_ne c1, upd_ne c1]
      by_cases c2 : c = hp.objs.size + 1
      · rw [c2, del_same, hn]
      · rw [del_ne c2, upd_ne c2, upd_ne c1, upd_ne c2]
  refine wpAny_call (PySem.HandSPX.call_own b.F (fun Y => rfl) (I1.kIn _ _ hC) (PySem.W.looks_findIn I1.kIn iC) (fun self => PySem.W.bind_fn I1.kIn self tI) hus
    (codeAny_mono (F1.goes _ X.stack _ _ ⟨Value.ref (hp.objs.size + 1) :: us, []⟩ (Value.ref (hp.objs.size + 1) :: us) _ _ (fun _ _ _ => False) (hr.make C us []) (guards_make hgd) (I2.env0.make C us []) bd r2 hq) fun r s' hq' => ?_))
  cases r with
  | error er => exact hq'.elim
  | ok fl =>
    cases fl with
    | ret u =>
      obtain ⟨v, H2, os2, bare2, un2, hok2, rv, ev, d, ea, ed, hd1, q2⟩ := hq'
      subst ev
      obtain ⟨h2, g2, d2, t2, os'⟩ := s'
      exact ⟨rv, mk_end (raises_own T.exC T.tyC) I1 hsz kk un2 hok2 os2 bare2 ea ed hd1 q2⟩
    | next => exact False.elim hq'
    | brk => exact False.elim hq'
    | cont => exact False.elim hq'
end
def flatB : D → Bool
  | .int _ => true
  | .str _ => true
  | _ => false
theorem flat_flt {G : Gm} {H : Hp} {W : Wd} {d : D} {v : V} (h : flatB d = true) (r : RD G H W d v) : Flt d v := by
  cases r <;> first | exact .int _ | exact .str _ | cases h
/-- raise C(e) -/
def sRaise (c : Str) (f : ES) : SS := fun b s M => (f b s M).toS s fun d M1 => if flatB d = true then .exc c d s M1 else .bad
section
variable {X : Cx} {Z : WX} {e : Expr} {c : Str} {p p' pos : Pos} {f : ES} {B newId initId : String}
theorem sx_raise (C : CalE X.prog X.w X.K X.mg X.base c B newId initId) {k : Nat} (hr : Room k X.A) (hgd : X.A.guards = some []) (hc : X.calm = true) (tk : Takes X Z) (he : SE X Z e f) (hk : 2 ≤ k := by decide) (hg : Gl X c := by rfl) (hdb : (c == ("__debug__" : Str)) = false := by decide)
    (hs : starEach [e] X.env = (false, eval e X.env) :: starEach [] X.env := by rfl) (hpl : (backTo p' (starEach [] X.env)).any (·.1) = false := by rfl) : SX X Z (.Raise (some (.Call (.Name c p) [e] [] p')) none pos) (sRaise c f) := by
  obtain ⟨C, fi, fd, hm, b, T, hw, iC, tI, F1, hb⟩ := C
  refine (ps_raise hc tk (pmkB b T hw iC tI F1 hb (hr.mono hk) hgd hg hm (sa_cons he sa_nil hs) hdb hs hpl)).weak fun E σ H ⟨W, s, M, m, sr, po⟩ => ?_
  have po' : PostS (gm X) Z H W ((f W.b s M).toS s fun d M1 => if flatB d = true then .exc c d s M1 else .bad) E := po
  refine ⟨W, s, M, m, sr, ?_⟩
  have p1 := PostS.toS sr po'
  show Post _ _ _ _ _ (aCons f aNil W.b s M) _
  have ea : aCons f aNil W.b s M = (f W.b s M).bind fun x M1 => .ok [x] M1 := by
    show (f W.b s M).bind _ = _
    congr
  rw [ea]
  cases hq : f W.b s M with
  | ok d M1 =>
    rw [hq] at p1
    intro W1 H1 x1 m1 vs rvs
    cases rvs with
    | @cons _ _ v _ rv rr =>
      cases rr
      have p2 : PostS (gm X) Z H1 W1 (if flatB d = true then RS.exc c d s M1 else RS.bad) E := p1 W1 H1 x1 m1
      split at p2
      · rename_i hf
        refine ⟨v, rfl, fun dd H2 hd e2 => ?_⟩
        subst e2
        have x2 : Ext H1 W1 (upd H1 dd (.xd [("what", v)])) W1 := m1.xnew hd
        exact p2 W1 _ σ C dd v x2 (m1.new hd) (sr.mono (x1.trans x2).toLe) (rv.mono x2.toLe) hm upd_same (m1.fresh hd)
      · exact p2.elim
  | exc c1 d M1 => rw [hq] at p1; exact p1
  | bad => rw [hq] at p1; exact p1
end
section
variable {P : Program} {w : World} {K : PySem.W.Frag} {mg : Str → Option Value} {base : Heap}
end
end LW
namespace LW
open PySem PySem.Spec PyProof.Rows L2
section
open PySem.W
variable {M : Model} {K : Frag}
theorem exm_tupN {cls : Value} {cs : List Value} {tp e : Addr} {b : Bool} {h : Heap} (X : K.In h) (LT : Looks M h (typeOf (.ref e)) cls) (hp : h.get? tp = some { cls := .type "tuple", data := .seq cs.toArray }) (hx : exmAny K cls cs = some b) :
    Looks M h (excMatches (.ref e) (.ref tp)) b := by
  intro A Q E s k₀ q
  have LT0 : Looks M h (isInstance (.ref tp) (.type "tuple")) true := ((Looks.ld hp).andThen .now).andThen (Looks.of_pure isSubtype_tuple_tuple)
  have k : ∀ b o, h.get? b = some o → s.heap.get? b = some o := k₀
  have LT := LT.keeps k
  have LT0 := LT0.keeps k
  have X' : K.In s.heap := X.keeps k
  have hp' := k _ _ hp
  unfold excMatches
  refine wpAny_bind (LT0.here ?_)
  dsimp only
  rw [if_pos rfl]
  first
    | refine wpAny_bind (wpAny_seqItems hp' rfl ?_)
    | refine wpAny_bind (wpAny_bind (wpAny_seqItems hp' rfl (wpAny_pure ?_)))
  dsimp only [Option.getD_some, Option.getD]
  refine wpAny_bind (wpAny_pure ?_)
  have one : ∀ (l : List Value) (b : Bool), exmAny K cls l = some b → ∀ {Q' : PUnit → Shared → Prop}, Q' PUnit.unit s → wpAny M A (forIn l PUnit.unit fun c __s => do
          let __do_lift ← isExcClass c
          if (!__do_lift) = true then do
              rule "try.except-non-exception-class"
              raiseErrorWords "TypeError" "catching classes that do not inherit from BaseException is not allowed"
              pure (ForInStep.yield PUnit.unit)
            else pure (ForInStep.yield PUnit.unit)) Q' E s := by
    intro l
    induction l with
    | nil => intro b _ Q' q'; rw [List.forIn_nil]; exact wpAny_pure q'
    | cons c l ih =>
      intro b hb Q' q'
      obtain ⟨b1, d1, x1, y1, z1⟩ := exmAny_cons hb
      obtain ⟨e1, S1⟩ := exm_cls (M := M) X' x1
      rw [List.forIn_cons]
      refine wpAny_bind (wpAny_bind (e1.here ?_))
      simp only [Bool.not_true, Bool.false_eq_true, if_false]
      refine wpAny_pure ?_
      exact ih d1 y1 q'
  have two : ∀ (l : List Value) (b : Bool), exmAny K cls l = some b → ∀ {Q' : Option Bool × Unit → Shared → Prop}, Q' (if b = true then some true else none, ()) s → wpAny M A (forIn l ((none : Option Bool), ()) fun c __s => do
            let __do_lift ← isSubtype cls c
            if __do_lift = true then pure (ForInStep.done (some true, ())) else pure (ForInStep.yield (none, ()))) Q' E s := by
    intro l
    induction l with
    | nil =>
      intro b hb Q' q'
      have : some false = some b := hb
      cases this
      rw [List.forIn_nil]
      exact wpAny_pure q'
    | cons c l ih =>
      intro b hb Q' q'
      obtain ⟨b1, d1, x1, y1, z1⟩ := exmAny_cons hb
      obtain ⟨e1, S1⟩ := exm_cls (M := M) X' x1
      subst z1
      rw [List.forIn_cons]
      refine wpAny_bind (wpAny_bind (S1.here ?_))
      cases b1 with
      | true =>
        simp only [if_true]
        refine wpAny_pure ?_
        exact wpAny_pure q'
      | false =>
        simp only [Bool.false_eq_true, if_false]
        refine wpAny_pure ?_
        exact ih d1 y1 (by simpa using q')
  refine wpAny_bind (one cs b hx ?_)
  refine wpAny_bind (LT.here ?_)
  refine wpAny_bind (two cs b hx ?_)
  cases b with
  | true => exact wpAny_pure q
  | false => exact wpAny_pure q
end
/-- an except clause's classes -/
inductive Tst (X : Cx) : Expr → List Value → Prop
  | one {x : Str} {c : Value} {np : Pos} (hc : Names X x c) : Tst X (.Name x np) [c]
  | tup {es : List Expr} {cs : List Value} {k : Nat} {pos : Pos} (hl : es.length ≤ 1000) (h : Paired (fun e c => ∃ x np, e = .Name x np ∧ Names X x c) es cs) : Tst X (.Tuple es k pos) cs
section
variable {X : Cx} {pins : List (Addr × Obj)} {σ : L2.St} {H : Hp} {s : Shared}
/-- a caught exception becomes a thing that is known -/
theorem inv_caught {a C dd : Addr} {oe : Obj} {vs : Array Value} (I : Inv X pins σ H s) (ha : s.heap.get? a = some oe) (hz : Zc (.ref C) (some dd) oe) (hd : oe.data = .fields vs) (na : H a = none) (nL : a ≠ X.env.locals) (n0 : X.s_0.heap.get? a = none) (nc : ∀ x c, X.env.cells.lookup x = some c → c ≠ a) (np : ∀ p ∈ X.pn ++ pins, p.1 ≠ a) :
    Inv X pins σ (upd H a (xcO a C dd)) s := by
  have ok1 : ObjOk X.prog X.w (upd H a (xcO a C dd)) s.heap a (xcO a C dd) := ⟨⟨oe, vs, ha, hz.1, hz.2, hd⟩, ⟨oe, ha⟩, fun h1 h2 ⟨o, v, e1, e2, e3, e4⟩ k => ⟨o, v, k _ e1, e2, e3, e4⟩⟩
  refine ⟨I.ok, I.os, I.bare, ⟨I.base.keep, I.base.slot, fun b o e n hx => ?_, I.base.there, fun b xs e => ?_, fun b o xs e => ?_, fun b ps e => ?_⟩, I.loc, I.cell, ?_, fun y c e => ?_, fun p hp => ?_, fun b o e => ?_, I.len⟩
  · rw [upd_ne fun z => by rw [z, n0] at e; cases e]
    exact I.base.free b o e n hx
  · have := I.base.tups b xs e
    rw [upd_ne (ne_of_none this na)]; exact this
  · have := I.base.frzs b o xs e
    rw [upd_ne (ne_of_none this na)]; exact this
  · obtain ⟨m, this⟩ := I.base.tbls b ps e
    exact ⟨m, by rw [upd_ne (ne_of_none this na)]; exact this⟩
  · rw [upd_ne (Ne.symm nL)]; exact I.free
  · rw [upd_ne (nc y c e)]; exact I.freeC y c e
  · obtain ⟨e, n, ne, nf, d⟩ := I.pin p hp
    exact ⟨e, by rw [upd_ne (np p hp)]; exact n, ne, nf, d⟩
  · by_cases hb : b = a
    · subst hb
      rw [upd_same] at e
      cases e
      exact ok1
    · rw [upd_ne hb] at e
      exact (I.hok b o e).stay (fun c u hc r => r) (fun c r => by rw [upd_ne (ne_of_none r na)]; exact r) fun c xs r => by rw [upd_ne (ne_of_none r na)]; exact r
end
/-- what 'except .. as n: m = n' wishes of an exception of the body: slot i is n's, slot j m's -/
def wHold (K : PySem.W.Frag) (cs : List Value) (i j : Nat) (D : Ends) : WX := fun cls d σ H => PySem.W.exmAny K cls cs = some true ∧ ∃ (C dd : Addr), cls = .ref C ∧ d = some dd ∧ ∀ a, H a = none → D.nx (((σ.set i (some (.ref a))).set j (some (.ref a))).set i none) (upd H a (xcO a C dd))
section
variable {X : Cx} {n m : Str} {cs : List Value} {i j : Nat} {body : List Stmt} {te : Expr} {pm pn1 p1 pos pos' : Pos} {tb : WX → TS}
theorem tst_run {a : Addr} {oe : Obj} {cls : Value} {d : Option Addr} {pins : List (Addr × Obj)} {σ : L2.St} {H : Hp} {s : Shared} {b : Bool} (T : Tst X te cs) (J : Inv X pins σ H s) (S : Inv (X.suite a ((a, oe) :: (X.pn ++ pins))) [] σ H s) (he : s.heap.get? a = some oe) (hz : Zc cls d oe) (hb : PySem.W.exmAny X.K cls cs = some b)
    {Q : Bool → Shared → Prop} {E : Value → Shared → Prop} (q : ∀ h', (∀ c o, s.heap.get? c = some o → h'.get? c = some o) → Q b { s with heap := h' }) :
    wpAny (model X.prog X.w) (X.A.mark (some (.ref a))) (eval te X.env) (fun c s₁ => wpAny (model X.prog X.w) (X.A.mark (some (.ref a))) (excMatches (.ref a) c) Q E s₁) E s := by
  have LT : PySem.W.Looks (model X.prog X.w) s.heap (typeOf (.ref a)) cls := fun A Q E s k q => wpAny_typeOf_ref (k _ _ he) (by rw [hz.1]; exact q)
  have nm : ∀ {x : Str} {c : Value} {np : Pos} {Q : Value → Shared → Prop} {E : Value → Shared → Prop}, Names X x c → Q c s → wpAny (model X.prog X.w) (X.A.mark (some (.ref a))) (eval (.Name x np) X.env) Q E s := fun {x c np Q E} hc q => by
    obtain ⟨hg, hdbg, hm | ⟨hm, hv, hnn⟩⟩ := hc
    · exact ld_glob (X := X.suite a ((a, oe) :: (X.pn ++ pins))) S hg hm q hdbg
    · exact ld_blt (X := X.suite a ((a, oe) :: (X.pn ++ pins))) S hg hm hv q hnn hdbg
  cases T with
  | @one x c np hc =>
    refine nm hc ?_
    obtain ⟨b1, d1, x1, y1, z1⟩ := PySem.W.exmAny_cons hb
    have : some false = some d1 := y1
    cases this
    rw [Bool.or_false] at z1
    subst z1
    exact (PySem.W.exm_one J.kIn LT x1).here (q s.heap fun _ _ z => z)
  | @tup es cs k pos hl hp =>
    refine wpAny_Tuple ?_
    have go : ∀ (es : List Expr) (cs : List Value), Paired (fun e c => ∃ x np, e = .Name x np ∧ Names X x c) es cs → ∀ {Q : List Value → Shared → Prop} {E : Value → Shared → Prop}, Q cs s → wpAny (model X.prog X.w) (X.A.mark (some (.ref a))) (spliced (backTo pos (starEach es X.env))) Q E s := by
      intro es cs hp
      induction hp with
      | nil => intro Q E q; exact wpAny_items_nil q
      | cons h r ih =>
        intro Q E q
        obtain ⟨x, np, rfl, hx⟩ := h
        exact wpAny_items_cons (nm hx (ih (Q := fun vs s₂ => Q (_ :: vs) s₂) q))
    refine go es cs hp ⟨?_, ?_⟩
    · have := hp.length
      rw [← this, sizeLine_eq]
      omega
    · have kp : ∀ q o, s.heap.get? q = some o → (s.heap.push { cls := .type "tuple", data := .seq cs.toArray }).get? q = some o := fun _ _ z => Heap.get?_push_of_some _ z
      exact (exm_tupN (J.kIn.keeps kp) (LT.keeps kp) (Heap.get?_push_size s.heap rfl) hb).here (q _ kp)
theorem ps_try_hold (hs : X.stack = X.env :: X.outer) (hex : X.ex = []) (hf : X.env.frame = some X.env.locals) (hN : X.N.Nodup) (hi : X.N[i]? = some n) (hj : X.N[j]? = some m) (hln : X.env.kindOf n = some .local) (hlm : X.env.kindOf m = some .local) (T : Tst X te cs)
    (hb : ∀ (W : WX) (pn : List (Addr × Obj)) (xe : Value → Shared → Prop), Takes (X.tr pn xe) W → PassesOwn (model X.prog X.w) X.A X.env xe → PSs (X.tr pn xe) body (tb W))
    (hsw : swapsWith (.Name n pn1) (some (.Name m pm)) p1.line X.env = pure false) (hd : (n == ("__debug__" : Str)) = false) (hcd : (n == ("__classdict__" : Str)) = false) :
    PS X (.Try body [.ExceptHandler (some te) (some n) [.Assign [.Name m pm] (.Name n pn1) p1] pos'] [] [] pos) (fun D σ H => tb (wHold X.K cs i j D) D σ H) := by
  refine ⟨fun pins s σ H D I h => ?_⟩
  have ok := I.ok
  have hfr : X.A.frames = some (X.env :: X.outer) := by rw [ok.frames, hs]
  have hloc : Loc X.env.scope n := .inl hln
  have hlocm : Loc X.env.scope m := .inl hlm
  refine wpAny_Try_except ?_
  refine wpAny_mono ((hb (wHold X.K cs i j D) (X.pn ++ pins) (fun e s₁ => wpAny (model X.prog X.w) X.A (noteFrame e X.env) (fun _ s₂ => wpAny (model X.prog X.w) X.A (setFlight e none) (fun _ s₃ =>
    wpAny (model X.prog X.w) X.A (handleBy e X.env [.ExceptHandler (some te) (some n) [.Assign [.Name m pm] (.Name n pn1) p1] pos']) (SP X pins D) X.xe s₃) X.xe s₂) X.xe s₁) (fun u s' xx => ?_) PassesOwn.looking).run [] s σ H D (I.toTry _) h) (fun f s1 hsp => ?_) (fun e s1 he => he)
  · -- the catch
    obtain ⟨a, B, sI, pins', σ', H', cls, d, rfl, J', nb, up, sky, na, os, ag, hb1, C, dd, ec, ed, hyes⟩ := xx
    have J : Inv X pins σ' H' sI := J'.ofTry ok
    have sky' : Sky B (X.env :: X.outer) a (Zc cls d) X.env.locals s'.heap := by rw [← hs]; exact sky
    show wpAny (model X.prog X.w) X.A (noteFrame (.ref a) X.env) _ _ _
    refine Sky.land Zc.steady hfr hf sky' fun h3 fl3 up3 => ?_
    have J3 : Inv X pins σ' H' { s' with heap := h3 } := J.landed nb fl3.1 (up.trans up3) os ag
    obtain ⟨oe3, vs3, he3, hz3, hd3⟩ := fl3.there
    have notFr : ∀ {h : Heap} {o : Obj} {vs : Array Value}, h.FunFrames B (X.env :: X.outer) → h.get? a = some o → o.data = .fields vs → a ∉ frs (X.env :: X.outer) := fun {h o vs} ff e dd hm => by
      obtain ⟨_, o', e', hnf⟩ := ff.mem hm
      rw [e] at e'; cases e'
      exact hnf _ dd
    have nfr := notFr fl3.2.2.1 he3 hd3
    have nL : a ≠ X.env.locals := fun z => nfr (List.mem_filterMap.mpr ⟨X.env, List.mem_cons_self, by rw [hf, z]⟩)
    have nF : a ∉ X.fs := fun hm => by
      obtain ⟨e, he, q⟩ := List.mem_filterMap.mp hm
      exact nfr (List.mem_filterMap.mpr ⟨e, List.mem_cons_of_mem _ he, q⟩)
    have sIn : sI.heap.get? a = none := by
      cases q : sI.heap.get? a with
      | none => rfl
      | some o =>
        have z := nb a o q (by rw [hs]; exact nfr)
        rw [fl3.2.1] at z
        cases z
    have n0 : X.s_0.heap.get? a = none := by
      cases q : X.s_0.heap.get? a with
      | none => rfl
      | some o =>
        obtain ⟨o', z⟩ := J.base.there a o q (by rw [hex]; simp)
        rw [sIn] at z
        cases z
    have nc : ∀ x c, X.env.cells.lookup x = some c → c ≠ a := fun x c e z => by
      obtain ⟨v, o, ho, _⟩ := J.cell x c e
      rw [z, sIn] at ho
      cases ho
    have np : ∀ p ∈ X.pn ++ pins, p.1 ≠ a := fun p hp z => by
      have ho := (J.pin p hp).1
      rw [z, sIn] at ho
      cases ho
    have S3 := J3.suite he3 hd3 na nL nF
    refine wpAny_handleBy_cons (codeAny_handlers_test ?_) (by intro q; cases q)
    refine tst_run T J3 S3 he3 hz3 hb1 fun h35 k35 => ?_
    have fl35 : HandSPX.FlyingZ B (X.env :: X.outer) a (Zc cls d) h35 := by
      obtain ⟨f1, f2, f3, oe, vs, T, oT, ts, g1, g2, g3, g4, g5, g6, g7, g8, g9⟩ := fl3
      exact ⟨fun b o e => k35 b o (f1 b o e), f2, f3.of_keeps fun b o e _ => ⟨o, k35 b o e, rfl⟩, oe, vs, T, oT, ts, k35 _ _ g1, g2, g3, g4, g5, g6, k35 _ _ g7, g8, g9⟩
    have up35 : s'.heap.UpToSlots h35 := up3.trans (Heap.UpToSlots.of_keeps k35)
    refine codeAny_handlers_suite_as ?_
    refine HandSPX.lands_againZ (s := { s' with heap := h35 }) fl35 fun h4 fl4 up4 => ?_
    have J4 : Inv X pins σ' H' { s' with heap := h4 } := J.landed nb fl4.1 ((up.trans up35).trans up4) os ag
    obtain ⟨oe4, vs4, he4, hz4, hd4⟩ := fl4.there
    have S4 := J4.suite he4 hd4 na nL nF
    refine store_ok (X := X.suite a ((a, oe4) :: (X.pn ++ pins))) (v := .ref a) S4 hN hi hloc rfl (fun s5 S5 => ?_) (.inr hln)
    have asg : PSs (X.suite a ((a, oe4) :: (X.pn ++ pins))) [.Assign [.Name m pm] (.Name n pn1) p1] _ := pss_one (ps_set (X := X.suite a ((a, oe4) :: (X.pn ++ pins))) (i := j) hN hj hlocm (pe_var (i := i) hi (.inl hln) hd hcd) hsw (.inr hlm))
    have hlen : i < σ'.length := by
      have := J.len
      rw [this]
      exact lt_of_get hi
    refine wpAny_mono (asg.run [] s5 _ H' { nx := fun σ6 H6 => σ6 = (σ'.set i (some (.ref a))).set j (some (.ref a)) ∧ H6 = H', rt := fun _ _ => False } S5 ?_) (fun f s6 hsp => ?_) (fun _ _ z => False.elim z)
    · exact ⟨.ref a, List.getElem?_set_self hlen, rfl, rfl⟩
    · cases f with
      | next =>
        obtain ⟨σ6, H6, S6, e6, eH⟩ := hsp
        subst e6
        subst eH
        refine gone_ok (X := X.suite a ((a, oe4) :: (X.pn ++ pins))) S6 hN hi hln fun s7 S7 => ?_
        have pin := S7.pin (a, oe4) (List.mem_append_left _ List.mem_cons_self)
        have J7 : Inv X pins _ H6 s7 := S7.unsuite ok
        subst ec
        subst ed
        exact ⟨_, _, inv_caught J7 pin.1 hz4 hd4 na nL n0 nc np, hyes a na⟩
      | brk => obtain ⟨_, _, _, z⟩ := hsp; exact z.elim
      | cont => obtain ⟨_, _, _, z⟩ := hsp; exact z.elim
      | ret u => obtain ⟨_, _, _, _, _, z⟩ := hsp; exact z.elim
  · cases f with
    | next =>
      obtain ⟨σ', H', J', q⟩ := hsp
      exact wpAny_execs_nil ⟨σ', H', J'.ofTry ok, q⟩
    | brk =>
      obtain ⟨σ', H', J', q⟩ := hsp
      exact ⟨σ', H', J'.ofTry ok, q⟩
    | cont =>
      obtain ⟨σ', H', J', q⟩ := hsp
      exact ⟨σ', H', J'.ofTry ok, q⟩
    | ret u =>
      obtain ⟨v, σ', H', J', r, q⟩ := hsp
      exact ⟨v, σ', H', J'.ofTry ok, r, q⟩
end
/-- try: .. except .. as n: m = n (slots i, j): what it catches becomes m's value -/
def sTryAs (cs : List Str) (i j : Nat) (tb : SS) : SS := fun b s M => match tb b s M with
  | .exc c d s1 M1 => if c ∈ cs ∧ flatB d = true then .nx ((s1.set j (some (.exn c d))).set i none) M1 else .bad
  | r => r
section
variable {X : Cx} {Z : WX} {n m : Str} {us : List Value} {body : List Stmt} {te : Expr} {pm pn1 p1 pos pos' : Pos} {tb : SS}
theorem sx_try (cs : List Str) (i j : Nat) (hN : X.N.Nodup) (T : Tst X te us) (hx : ∀ c ∈ cs, ∀ C, X.mg c = some (.ref C) → PySem.W.exmAny X.K (.ref C) us = some true)
    (hb : ∀ (Z' : WX) (pn : List (Addr × Obj)) (xe : Value → Shared → Prop), Takes (X.tr pn xe) Z' → PassesOwn (model X.prog X.w) X.A X.env xe → SB (X.tr pn xe) Z' body tb)
    (hij : i ≠ j := by decide) (hs : X.stack = X.env :: X.outer := by rfl) (hex : X.ex = [] := by rfl) (hf : X.env.frame = some X.env.locals := by rfl) (hi : X.N[i]? = some n := by rfl) (hj : X.N[j]? = some m := by rfl) (hln : X.env.kindOf n = some .local := by rfl) (hlm : X.env.kindOf m = some .local := by rfl)
    (hsw : swapsWith (.Name n pn1) (some (.Name m pm)) p1.line X.env = pure false := by rfl) (hd : (n == ("__debug__" : Str)) = false := by decide) (hcd : (n == ("__classdict__" : Str)) = false := by decide) :
    SX X Z (.Try body [.ExceptHandler (some te) (some n) [.Assign [.Name m pm] (.Name n pn1) p1] pos'] [] [] pos) (sTryAs cs i j tb) := by
  refine (ps_try_hold (tb := fun W => liftS (gm X) W tb) hs hex hf hN hi hj hln hlm T (fun W pn xe tk po => hb W pn xe tk po) hsw hd hcd).weak fun E σ H ⟨W, s, M, mr, sr, p⟩ => ⟨W, s, M, mr, sr, ?_⟩
  have e : sTryAs cs i j tb W.b s M = match tb W.b s M with | .exc c d s1 M1 => if c ∈ cs ∧ flatB d = true then .nx ((s1.set j (some (.exn c d))).set i none) M1 else .bad | r => r := rfl
  rw [e] at p
  cases q : tb W.b s M with
  | nx s1 M1 => rw [q] at p; exact p
  | rt d M1 => rw [q] at p; exact p
  | bk s1 M1 => rw [q] at p; exact p
  | ct s1 M1 => rw [q] at p; exact p
  | bad => rw [q] at p; exact p
  | exc c d s1 M1 =>
    rw [q] at p
    have p : PostS (gm X) Z H W (if c ∈ cs ∧ flatB d = true then .nx ((s1.set j (some (.exn c d))).set i none) M1 else .bad) E := p
    split at p
    · rename_i hc
      intro W' H' t C dd v x1 m1 sr1 rv hC hdd nim
      refine ⟨hx c hc.1 C hC, C, dd, rfl, rfl, fun a na => ?_⟩
      have x2 : Ext H' W' (upd H' a (xcO a C dd)) W' := m1.xnew na
      have sr2 := sr1.mono x2.toLe
      refine p W' _ _ (x1.trans x2) (m1.new na) ⟨?_, fun k d' ek => ?_⟩
      · simp [sr2.len]
      · have hki : k ≠ i := fun z => by
          subst z
          by_cases hl : k < (s1.set j (some (.exn c d))).length
          · rw [List.getElem?_set_self hl] at ek; cases ek
          · rw [List.getElem?_eq_none (by rw [List.length_set]; omega)] at ek; cases ek
        rw [List.getElem?_set_ne (Ne.symm hki)] at ek ⊢
        by_cases hkj : k = j
        · subst hkj
          by_cases hl : k < s1.length
          · rw [List.getElem?_set_self hl] at ek
            cases ek
            refine ⟨.ref a, List.getElem?_set_self (by rw [List.length_set, ← sr2.len]; exact hl), ?_⟩
            exact .exn hC upd_same (m1.fresh na) (by rw [upd_ne (ne_of_none hdd na)]; exact hdd) nim (flat_flt hc.2 rv)
          · rw [List.getElem?_eq_none (by rw [List.length_set]; omega)] at ek; cases ek
        · rw [List.getElem?_set_ne (Ne.symm hkj)] at ek ⊢
          rw [List.getElem?_set_ne (Ne.symm hki)]
          exact sr2.at_ k d' ek
    · exact p.elim
end
end LW
namespace LW
open PySem PySem.Spec PyProof.Rows L2
/-- what a class must say, so that its caught instances are read and asked -/
structure XnC (K : PySem.W.Frag) (C : Addr) : Prop where
  ga : PySem.W.findIn K (.ref C) "__getattribute__" = some (some (.builtin "BaseException.__getattribute__"))
  gg : PySem.W.findIn K (.ref C) "__getattr__" = some none
  exC : PySem.W.subIn K (.ref C) (.type "BaseException") = some true
  hd : PySem.W.hasDictIn K C = true
  ha : PySem.W.findIn K (.ref C) "__class__" = some (some (.builtin "object.__class__"))
  hm : PySem.W.mroIn K C (.type "object") = some true
  no : PySem.W.findIn K (.ref C) "what" = some none
  hn : PySem.W.specialIn K (.builtin "object.__class__") "__get__" = some (some (.builtin "getset_descriptor.__get__"))
  ht : PySem.W.takesIn K (.builtin "object.__class__") = some true
theorem exn_obj {X : Cx} {pins : List (Addr × Obj)} {σ : L2.St} {H : Hp} {s : Shared} {a C dd : Addr} (I : Inv X pins σ H s) (e : H a = some (xcO a C dd)) : ∃ (oe : Obj) (vs : Array Value), s.heap.get? a = some oe ∧ oe.cls = .ref C ∧ oe.dict = some dd ∧ oe.data = .fields vs := by
  obtain ⟨z, _⟩ := I.hok a _ e
  exact z
/-- e.what -/
def oWhat (cs : List Str) : D → Mem → R D := fun x M => match x with
  | .exn c d => if c ∈ cs then .ok d M else .bad
  | _ => .bad
/-- isinstance(e, ..) -/
def oIsE (l : List (Str × Bool)) : D → Mem → R D := fun x M => match x with
  | .exn c _ => match l.lookup c with
    | some b => .ok (.bl b) M
    | none => .bad
  | _ => .bad
section
variable {X : Cx} {Z : WX} {e : Expr} {f : ES} {pos p : Pos}
theorem pe_what {te : TE} (he : PE X e te) (hb : attributeBase e "what" X.env (eval e X.env) = eval e X.env := by rfl) :
    PE X (.Attribute e "what" pos) (fun σ H Q => te σ H fun x H1 => ∃ (a C dd : Addr) (v : V), x = .ref a ∧ H1 a = some (xcO a C dd) ∧ H1 dd = some (.xd [("what", v)]) ∧ XnC X.K C ∧ Q v H1) := by
  refine ⟨fun pins s σ H Q I h => ?_⟩
  refine attr_of hb (thn (he.run pins s σ H _ I h) fun u s1 hh => ?_)
  obtain ⟨x, H1, I1, rx, a, C, dd, v, ex, ea, ed, T, q⟩ := hh
  subst ex
  obtain rfl : u = Value.ref a := rx
  obtain ⟨oe, vs, ha, hz1, hz2, hd⟩ := exn_obj I1 ea
  have hx : ObjOk X.prog X.w H1 s1.heap dd (.xd [("what", v)]) := I1.hok dd _ ed
  obtain ⟨mA, hns, hr⟩ := hx
  obtain ⟨od, ho, hl⟩ := lookIn_ns hns
  obtain ⟨u, hu, ru⟩ := RelO.some_of (v := v) (o := mA "what") (by
    have := hr "what"
    rw [lookup_put, if_pos rfl] at this
    exact this)
  have J : PySem.W.InstAt s1.heap a oe C (some od) := ⟨ha, hz1, by unfold PySem.W.notCls; rw [hd] <;> rfl, by rw [hz2]; exact ho⟩
  exact HandSPX.exc_get I1.kIn J T.ga T.gg T.exC (PySem.W.findObj_own T.hd T.no rfl (by rw [hl, hu])) (handed_of ru) ⟨v, H1, I1.tok _, ru, q⟩
theorem se_what (cs : List Str) (hx : ∀ c ∈ cs, ∀ C, X.mg c = some (.ref C) → XnC X.K C) (he : SE X Z e f) (hb : attributeBase e "what" X.env (eval e X.env) = eval e X.env := by rfl) : SE X Z (.Attribute e "what" pos) (eUn (oWhat cs) f) := by
  refine (pe_what he hb).weak fun σ H Q ⟨W, s, M, m, sr, po⟩ => ⟨W, s, M, m, sr, (Post.bind po).imp fun x M1 W1 H1 x1 m1 p1 v rv => ?_⟩
  unfold oWhat at p1
  split at p1
  · rename_i c d
    split at p1
    · rename_i hc
      cases rv with
      | exn g h n k n' fl =>
        refine ⟨_, _, _, _, rfl, h, k, hx c hc _ g, ?_⟩
        refine p1.here m1 _ ?_
        cases fl with
        | int i => exact .int i
        | str y => exact .str y
    · exact p1.elim
  · exact p1.elim
/-- isinstance of a caught exception -/
theorem call_isX : CallR X (.builtin "isinstance") (fun xs H Q => ∃ (a C dd : Addr) (c : V) (b : Bool), xs = [.ref a, c] ∧ H a = some (xcO a C dd) ∧ (∃ v, H dd = some (.xd [("what", v)])) ∧ XnC X.K C ∧ ((∃ cv, (∀ u, RelV c u → u = cv) ∧ PySem.W.kitOne X.K (.ref C) cv = some b) ∨ (∃ (tp : Addr) (cs : List V) (us : List Value), c = .ref tp ∧ H tp = some (.tup cs) ∧ (∀ ws, Vals cs ws → ws = us) ∧ PySem.W.kitAny X.K (.ref C) us = some b)) ∧ Q (.bl b) H) := by
  intro pins s σ H xs us Q I r h
  obtain ⟨a, C, dd, c, b, rfl, ea, ⟨od', ed⟩, T, hk, q⟩ := h
  cases r with
  | cons rx rr =>
    cases rr with
    | cons rt rr =>
      cases rr
      cases rx
      obtain ⟨oe, vs, ha, hz1, hz2, hd⟩ := exn_obj I ea
      have hx : ObjOk X.prog X.w H s.heap dd (.xd [("what", od')]) := I.hok dd _ ed
      obtain ⟨mA, hns, _⟩ := hx
      obtain ⟨ob, hob, _⟩ := lookIn_ns hns
      have J : PySem.W.InstAt s.heap a oe C (some ob) := ⟨ha, hz1, by unfold PySem.W.notCls; rw [hd] <;> rfl, by rw [hz2]; exact hob⟩
      have hcl : (PySem.W.clsIn X.K C).isSome = true := by obtain ⟨cd, hc, _⟩ := PySem.W.any_some T.hd; rw [hc]; rfl
      have KX := PySem.W.kitx_exc (x := a) (ox := oe) (od := some ob) hcl T.ga T.gg T.exC T.ha T.hn T.ht T.hm
      rcases hk with ⟨cv, hcv, ek⟩ | ⟨tp, cs, us, ec, et, hu, ek⟩
      · have ec := hcv _ rt
        subst ec
        exact PySem.W.kia_one KX I.kIn J ek (fun z => nomatch z) fun tk => ⟨.bl b, H, I.kept (t' := tk) fun _ _ z => z, rfl, q⟩
      · subst ec
        cases rt
        obtain ⟨_, its, hv, hit⟩ := I.hok tp _ et
        obtain ⟨⟨oc, oD, oda, osl⟩, hh, h2, n, h3⟩ := hit
        have h2 : oc = .type "tuple" := h2
        have h3 : oda = .seq its.toArray n := h3
        subst h2 h3
        have e2 := hu _ hv
        subst e2
        exact PySem.W.kia_tup KX I.kIn J hh ek (fun z => nomatch z) fun tk => ⟨.bl b, H, I.kept (t' := tk) fun _ _ z => z, rfl, q⟩
/-- names of classes -/
inductive ClE (X : Cx) : List Expr → List V → List Value → Prop
  | nil : ClE X [] [] []
  | own {x : Str} {p : Pos} {C : Addr} {es : List Expr} {vs : List V} {us : List Value} (hg : Gl X x) (hm : X.mg x = some (.ref C)) (hd : (x == ("__debug__" : Str)) = false) (r : ClE X es vs us) : ClE X (.Name x p :: es) (.ref C :: vs) (.ref C :: us)
  | blt {x : Str} {p : Pos} {T : String} {es : List Expr} {vs : List V} {us : List Value} (hg : Gl X x) (hm : X.mg x = none) (hv : bootBuiltins x = some (.type T)) (hn : x ≠ "__name__") (hd : (x == ("__debug__" : Str)) = false) (r : ClE X es vs us) : ClE X (.Name x p :: es) (.ty T :: vs) (.type T :: us)
theorem ClE.pa {es : List Expr} {vs : List V} {us : List Value} (h : ClE X es vs us) : PA X es (fun _ H Q => Q vs H) := by
  induction h with
  | nil => exact pa_nil
  | own hg hm hd r ih => exact (pa_cons (pe_glob (v := .ref _) hg hm rfl hd) ih rfl).weak fun σ H Q q => q
  | blt hg hm hv hn hd r ih => exact (pa_cons (pe_bltn (v := .ty _) hg hm hv rfl hn hd) ih rfl).weak fun σ H Q q => q
theorem ClE.uniq {es : List Expr} {vs : List V} {us : List Value} (h : ClE X es vs us) : ∀ ws, Vals vs ws → ws = us := by
  induction h with
  | nil => intro ws r; cases r; rfl
  | own hg hm hd r ih => intro ws r; cases r with | cons h1 h2 => cases h1; rw [ih _ h2]
  | blt hg hm hv hn hd r ih => intro ws r; cases r with | cons h1 h2 => cases h1; rw [ih _ h2]
theorem ClE.len {es : List Expr} {vs : List V} {us : List Value} (h : ClE X es vs us) : vs.length = es.length := by
  induction h with
  | nil => rfl
  | own hg hm hd r ih => simp [ih]
  | blt hg hm hv hn hd r ih => simp [ih]
theorem se_isE (l : List (Str × Bool)) {t : Expr} {v : V} {u : Value} (hg : Gl X "isinstance") (hm : X.mg "isinstance" = none) (T : ClE X [t] [v] [u]) (hx : ∀ c b, l.lookup c = some b → ∀ C, X.mg c = some (.ref C) → XnC X.K C ∧ PySem.W.kitOne X.K (.ref C) u = some b) (he : SE X Z e f)
    (hs : starEach [e, t] X.env = (false, eval e X.env) :: starEach [t] X.env := by rfl) (hpl : (backTo pos (starEach [t] X.env)).any (·.1) = false := by rfl) : SE X Z (.Call (.Name "isinstance" p) [e, t] [] pos) (eUn (oIsE l) f) := by
  refine (pe_callB (p := p) (pos := pos) (call_isX (X := X)) hg hm boot_isinstance (pa_cons (es := [t]) he T.pa hs) (by decide) (by decide) hs hpl).weak fun σ H Q ⟨W, s, M, m, sr, po⟩ => ⟨W, s, M, m, sr, (Post.bind po).imp fun x M1 W1 H1 x1 m1 p1 v' rv => ?_⟩
  unfold oIsE at p1
  split at p1
  · rename_i c d
    split at p1
    · rename_i b hb
      cases rv with
      | exn g h n k n' fl =>
        obtain ⟨T1, T2⟩ := hx c b hb _ g
        refine ⟨_, _, _, v, b, rfl, h, ⟨_, k⟩, T1, .inl ⟨u, fun w hw => ?_, T2⟩, p1.here m1 _ (.bl _)⟩
        have := T.uniq [w] (.cons hw .nil)
        simpa using this
    · exact p1.elim
  · exact p1.elim
theorem se_isET (l : List (Str × Bool)) {es : List Expr} {vs : List V} {us : List Value} {k : Nat} {pt : Pos} (hg : Gl X "isinstance") (hm : X.mg "isinstance" = none) (T : ClE X es vs us) (hl : es.length ≤ 1000) (hx : ∀ c b, l.lookup c = some b → ∀ C, X.mg c = some (.ref C) → XnC X.K C ∧ PySem.W.kitAny X.K (.ref C) us = some b) (he : SE X Z e f)
    (hs : starEach [e, .Tuple es k pt] X.env = (false, eval e X.env) :: starEach [.Tuple es k pt] X.env := by rfl) (hpl : (backTo pos (starEach [.Tuple es k pt] X.env)).any (·.1) = false := by rfl) (hs2 : starEach [.Tuple es k pt] X.env = (false, eval (.Tuple es k pt) X.env) :: starEach [] X.env := by rfl) : SE X Z (.Call (.Name "isinstance" p) [e, .Tuple es k pt] [] pos) (eUn (oIsE l) f) := by
  refine (pe_callB (p := p) (pos := pos) (call_isX (X := X)) hg hm boot_isinstance (pa_cons (es := [.Tuple es k pt]) he (pa_cons (pe_tup T.pa) pa_nil hs2) hs) (by decide) (by decide) hs hpl).weak fun σ H Q ⟨W, s, M, m, sr, po⟩ => ⟨W, s, M, m, sr, (Post.bind po).imp fun x M1 W1 H1 x1 m1 p1 v' rv => ?_⟩
  unfold oIsE at p1
  split at p1
  · rename_i c d
    split at p1
    · rename_i b hb
      cases rv with
      | exn g h n k n' fl =>
        obtain ⟨T1, T2⟩ := hx c b hb _ g
        refine ⟨by rw [T.len, sizeLine_eq]; omega, fun tp ntp => ?_⟩
        have x2 : Ext H1 W1 (upd H1 tp (.tup vs)) W1 := m1.xnew ntp
        refine ⟨_, _, _, .ref tp, b, rfl, by rw [upd_ne (ne_of_none h ntp)]; exact h, ⟨_, by rw [upd_ne (ne_of_none k ntp)]; exact k⟩, T1, .inr ⟨tp, vs, us, rfl, upd_same, T.uniq, T2⟩, ?_⟩
        exact p1 W1 _ x2 (m1.new ntp) _ (.bl _)
    · exact p1.elim
  · exact p1.elim
end
end LW
namespace LW
open PySem PySem.Spec PyProof.Rows L2
section
open PySem.W
variable {K : PySem.W.Frag} {C D : Addr} {b d : Bool} {T : String} {t c : Value} {r : List Value}
theorem exm_own (h1 : subIn K (.ref D) (.type "BaseException") = some true) (hd : hasDictIn K D = true) (ht : typeIn K (.ref D) = some (.type "type")) (hs : subIn K t (.ref D) = some b) : exmOne K t (.ref D) = some b := exm_ref h1 hd ht hs
theorem exm_nil : exmAny K t [] = some false := rfl
theorem exm_more (h : exmOne K t c = some b) (h2 : exmAny K t r = some d) : exmAny K t (c :: r) = some (b || d) := by
  unfold exmAny
  rw [h, h2]
theorem kit_own (hd : hasDictIn K D = true) (ht : typeIn K (.ref D) = some (.type "type")) (hs : subIn K (.ref C) (.ref D) = some b) (he : (C == D) = true → b = true) : kitOne K (.ref C) (.ref D) = some b := by
  obtain ⟨cd, hc, _⟩ := any_some hd
  have e2 : ((clsIn K D).isSome && typeIn K (.ref D) == some (.type "type")) = true := by rw [hc, ht] <;> rfl
  unfold kitOne
  split
  · rename_i h
    have : C = D := Value.ref.inj (beq_iff_eq.mp h)
    rw [he (by rw [this]; exact beq_self_eq_true _)]
  · show (if ((clsIn K D).isSome && typeIn K (.ref D) == some (.type "type")) = true then subIn K (.ref C) (.ref D) else none) = some b
    rw [if_pos e2]
    exact hs
theorem kit_blt (hm : kitMeta T = true) (hs : subIn K (.ref C) (.type T) = some b) : kitOne K (.ref C) (.type T) = some b := by
  unfold kitOne
  rw [if_neg (by intro h; cases beq_iff_eq.mp h)]
  show (if kitMeta T = true then subIn K (.ref C) (.type T) else none) = some b
  rw [if_pos hm]
  exact hs
theorem kit_nil : kitAny K t [] = some false := rfl
theorem kit_more (h : kitOne K t c = some b) (h2 : kitAny K t r = some d) : kitAny K t (c :: r) = some (b || d) := by
  unfold kitAny
  rw [h]
  cases b with
  | true => rfl
  | false => exact h2
end
end LW
namespace LW
open PySem L2
theorem lookup_head {c k : Str} {v b : Bool} {r : List (Str × Bool)} (h : List.lookup c ((k, v) :: r) = some b) : (c = k ∧ b = v) ∨ (c ≠ k ∧ List.lookup c r = some b) := by
  by_cases e : c = k
  · subst e
    simp [List.lookup] at h
    exact .inl ⟨rfl, h.symm⟩
  · have e' : (c == k) = false := by simpa using e
    simp [List.lookup, e'] at h
    exact .inr ⟨e, h⟩
end LW
namespace LW
open PySem PySem.Spec PyProof.Rows L2
section
variable {X : Cx} {Z : WX} {pos p : Pos} {a b c : Expr} {f g h : ES} {fs : EA} {k : Nat}
theorem se_gstr {x v : Str} (hm : ∃ t, X.mg x = some (.str v t)) (hg : Gl X x := by rfl) (hd : (x == ("__debug__" : Str)) = false := by decide) : SE X Z (.Name x pos) (eC (.str v)) := by
  obtain ⟨t, hm⟩ := hm
  exact se_const (pe_glob (v := .str v) hg hm ⟨t, rfl⟩ hd) fun _ _ => .str v
theorem se_gint {x : Str} {v : Int} (hm : ∃ t, X.mg x = some (.int v t)) (hg : Gl X x := by rfl) (hd : (x == ("__debug__" : Str)) = false := by decide) : SE X Z (.Name x pos) (eC (.int v)) := by
  obtain ⟨t, hm⟩ := hm
  exact se_const (pe_glob (v := .int v) hg hm ⟨t, rfl⟩ hd) fun _ _ => .int v
def vOf : D → Option V
  | .non => some .non
  | .bl k => some (.bl k)
  | .int i => some (.int i)
  | .str x => some (.str x)
  | _ => none
def vsOf : List D → Option (List V)
  | [] => some []
  | d :: ds => match vOf d, vsOf ds with
    | some v, some vs => some (v :: vs)
    | _, _ => none
theorem vOf_read {G : Gm} {H : Hp} {W : Wd} {d : D} {v w : V} (r : RD G H W d v) (e : vOf d = some w) : v = w ∧ flatV w = true := by
  cases r <;> first | (cases e; exact ⟨rfl, rfl⟩) | (cases e)
theorem vsOf_read {G : Gm} {H : Hp} {W : Wd} : ∀ {ds : List D} {vs ws : List V}, RDs G H W ds vs → vsOf ds = some ws → vs = ws ∧ ws.all flatV = true
  | _, _, ws, .nil, e => by cases e; exact ⟨rfl, rfl⟩
  | d :: ds, _, ws, .cons r rr, e => by
    unfold vsOf at e
    split at e
    · rename_i v vs h1 h2
      cases e
      obtain ⟨rfl, f1⟩ := vOf_read r h1
      obtain ⟨rfl, f2⟩ := vsOf_read rr h2
      exact ⟨rfl, by rw [List.all_cons, f1, f2]; rfl⟩
    · cases e
def oInB (neg : Bool) : D → D → Mem → R D := fun x y M => match vOf x, (seqOf M y).bind vsOf with
  | some v, some vs => .ok (.bl (if neg then !inV v vs else inV v vs)) M
  | _, _ => .bad
theorem bv_in {G : Gm} {neg : Bool} : BinV G (rIn G.K neg) (oInB neg) := by
  intro x y M W H v w Z t Q m rx ry po
  unfold oInB at po
  split at po
  · rename_i u us h1 h2
    obtain ⟨rfl, f1⟩ := vOf_read rx h1
    cases q : seqOf M y with
    | none => rw [q] at h2; cases h2
    | some ys =>
      rw [q] at h2
      obtain ⟨a, vs, rfl, hq, r⟩ := seq_read m q ry
      obtain ⟨rfl, f2⟩ := vsOf_read r h2
      exact ⟨a, vs, rfl, hq, f1, f2, Post.here po m _ (.bl _)⟩
  · exact po.elim
theorem st_in (ha : SE X Z a f) (hb : SE X Z b g) (hm : behindInMarks .In b = false := by first | exact nomark _ | rfl) : ST X Z (.Compare a [.In] [b] pos) (tVal (eBin (oInB false) f g)) := st_cmp op_in_seq bv_in ha hb hm
theorem se_ltlt (ha : SE X Z a f) (hb : SE X Z b g) (hc : SE X Z c h) (hm : lastMarks [.Lt, .Lt] [b, c] = false := by with_unfolding_all rfl) : SE X Z (.Compare a [.Lt, .Lt] [b, c] pos) (eChain oLt oLt f g h) :=
  (pe_chain op_lt op_lt ha hb hc hm).weak fun _ _ _ z => lift_chain bv_cmp bv_cmp z
theorem st_ltlt (ha : SE X Z a f) (hb : SE X Z b g) (hc : SE X Z c h) (hm : lastMarks [.Lt, .Lt] [b, c] = false := by with_unfolding_all rfl) : ST X Z (.Compare a [.Lt, .Lt] [b, c] pos) (tVal (eChain oLt oLt f g h)) :=
  (pt_chain op_lt op_lt ha hb hc hm).weak fun σ H Q q => lift_chain (Q := fun x H1 => ∃ k, x = .bl k ∧ Q k H1) bv_cmp bv_cmp (lift_tval q)
def nAdd (f g : ES) : EN := fun b s M => (f b s M).bind fun x M1 => (g b s M1).bind fun y M2 => match lstOf M2 x, lstOf M2 y with
  | some xs, some ys => if xs.length + ys.length ≤ 1000000 then .ok (xs ++ ys) M2 else .bad
  | _, _ => .bad
end
end LW
namespace LW
open PySem PySem.Spec PyProof.Rows L2
structure Gtp (K : PySem.W.Frag) (mg : Str → Option Value) (x : Str) (ss : List Str) : Prop where
  ex : ∃ a : Addr, mg x = some (.ref a) ∧ KT K a (ss.map V.str)
theorem rds_strs {G : Gm} {H : Hp} {W : Wd} : ∀ ss : List Str, RDs G H W (ss.map .str) (ss.map V.str)
  | [] => .nil
  | s :: ss => .cons (.str s) (rds_strs ss)
section
variable {X : Cx} {Z : WX} {pos : Pos} {x : Str} {ss : List Str}
end
end LW
namespace LW
open PySem PySem.Spec PyProof.Rows L2
section
variable {X : Cx} {Z : WX} {pos : Pos} {a b : Expr} {f g : ES} {k : Nat}
end
end LW
namespace LW
open PySem PySem.Spec PyProof.Rows L2
def oInG (ks : List Str) : D → Mem → R D
  | .str z, M => .ok (.bl (ks.contains z)) M
  | _, _ => .bad
def oGetG (kvs : List (Str × D)) : D → Mem → R D
  | .str z, M => match kvs.lookup z with
    | some d => .ok d M
    | none => .bad
  | _, _ => .bad
def sBad : SS := fun _ _ _ => .bad
structure Gd2 (w : World) (K : PySem.W.Frag) (mg : Str → Option Value) (x k1 a1 b1 k2 a2 b2 : Str) : Prop where
  ex : ∃ (d : Addr) (es : Array DictEntry) (n : Nat) (t1 t2 : Addr), mg x = some (.ref d) ∧ KDict K w d es n ∧ (∀ z, PySem.W.nsIn K d z = some (if z = k1 then some (.ref t1) else if z = k2 then some (.ref t2) else none)) ∧ KT K t1 [.str a1, .str b1] ∧ KT K t2 [.str a2, .str b2]
section
variable {X : Cx} {Z : WX} {pos p : Pos} {a : Expr} {f : ES} {x k1 a1 b1 k2 a2 b2 : Str}
end
end LW
namespace LW
open PySem PySem.Spec PyProof.Rows L2
abbrev GV := Int ⊕ List Str
inductive GEs (K : PySem.W.Frag) : List DictEntry → List (Str × GV) → Prop
  | nil : GEs K [] []
  | int {h : Int} {k : Str} {e t : Tok} {i : Int} {es : List DictEntry} {kvs : List (Str × GV)} : GEs K es kvs → GEs K (⟨h, .str k e, .int i t⟩ :: es) ((k, .inl i) :: kvs)
  | tup {h : Int} {k : Str} {e : Tok} {a : Addr} {ss : List Str} {es : List DictEntry} {kvs : List (Str × GV)} : KT K a (ss.map V.str) → GEs K es kvs → GEs K (⟨h, .str k e, .ref a⟩ :: es) ((k, .inr ss) :: kvs)
def GVal (K : PySem.W.Frag) : Option GV → Option Value → Prop
  | none, r => r = none
  | some (.inl i), r => ∃ t, r = some (.int i t)
  | some (.inr ss), r => ∃ a, r = some (.ref a) ∧ KT K a (ss.map V.str)
theorem GEs.find {K : PySem.W.Frag} (z : Str) : ∀ {es : List DictEntry} {kvs : List (Str × GV)}, GEs K es kvs → ((∃ e, es.find? (·.key.isStr z) = some e ∧ GVal K (kvs.lookup z) (some e.val)) ∨ (es.find? (·.key.isStr z) = none ∧ kvs.lookup z = none)) ∧ es.any (·.refKey) = false
  | _, _, .nil => ⟨.inr ⟨rfl, rfl⟩, rfl⟩
  | _, _, .int (h := h) (k := k) (e := e) (t := t) (i := i) (es := es) (kvs := kvs) r => by
    obtain ⟨h1, h2⟩ := GEs.find z r
    have q1 : (Value.str k e).isStr z = decide (k = z) := by
      rw [PySem.W.isStr_of]
      by_cases c : k = z
      · subst c; simp [Value.isStrOf]
      · simp [Value.isStrOf, c]
    refine ⟨?_, by rw [List.any_cons, h2]; rfl⟩
    by_cases c : k = z
    · subst c
      exact .inl ⟨⟨h, .str k e, .int i t⟩, by rw [List.find?_cons, q1, decide_eq_true rfl], by rw [List.lookup_cons_self]; exact ⟨t, rfl⟩⟩
    · have n1 : (z == k) = false := by simpa using fun e : z = k => c e.symm
      rcases h1 with ⟨e', f1, f2⟩ | ⟨f1, f2⟩
      · exact .inl ⟨e', by rw [List.find?_cons, q1, decide_eq_false c]; exact f1, by rw [List.lookup_cons, n1]; exact f2⟩
      · exact .inr ⟨by rw [List.find?_cons, q1, decide_eq_false c]; exact f1, by rw [List.lookup_cons, n1]; exact f2⟩
  | _, _, .tup (h := h) (k := k) (e := e) (a := a) (ss := ss) (es := es) (kvs := kvs) kt r => by
    obtain ⟨h1, h2⟩ := GEs.find z r
    have q1 : (Value.str k e).isStr z = decide (k = z) := by
      rw [PySem.W.isStr_of]
      by_cases c : k = z
      · subst c; simp [Value.isStrOf]
      · simp [Value.isStrOf, c]
    refine ⟨?_, by rw [List.any_cons, h2]; rfl⟩
    by_cases c : k = z
    · subst c
      exact .inl ⟨⟨h, .str k e, .ref a⟩, by rw [List.find?_cons, q1, decide_eq_true rfl], by rw [List.lookup_cons_self]; exact ⟨a, rfl, kt⟩⟩
    · have n1 : (z == k) = false := by simpa using fun e : z = k => c e.symm
      rcases h1 with ⟨e', f1, f2⟩ | ⟨f1, f2⟩
      · exact .inl ⟨e', by rw [List.find?_cons, q1, decide_eq_false c]; exact f1, by rw [List.lookup_cons, n1]; exact f2⟩
      · exact .inr ⟨by rw [List.find?_cons, q1, decide_eq_false c]; exact f1, by rw [List.lookup_cons, n1]; exact f2⟩
structure GdN (w : World) (K : PySem.W.Frag) (mg : Str → Option Value) (x : Str) (kvs : List (Str × GV)) : Prop where
  ex : ∃ (d : Addr) (es : Array DictEntry) (n : Nat), mg x = some (.ref d) ∧ KDict K w d es n ∧ ∀ z, ∃ r, PySem.W.nsIn K d z = some r ∧ GVal K (kvs.lookup z) r
theorem gdN_mk {w : World} {K : PySem.W.Frag} {mg : Str → Option Value} {x : Str} {kvs : List (Str × GV)} {d : Addr} {es : Array DictEntry} {n : Nat} (hm : mg x = some (.ref d))
    (hl : K.lookup d = some ⟨.type "dict", none, .dict es n, #[]⟩) (hk : PySem.W.KeysLit w.params es.toList) (lo : (d == sysModules) = false) (g : GEs K es.toList kvs) : GdN w K mg x kvs := by
  refine ⟨d, es, n, hm, ⟨hl, hk, lo⟩, fun z => ?_⟩
  obtain ⟨h1, h2⟩ := g.find z
  unfold PySem.W.nsIn
  rw [hl]
  dsimp only
  rcases h1 with ⟨e, f1, f2⟩ | ⟨f1, f2⟩
  · rw [f1]
    exact ⟨_, rfl, f2⟩
  · rw [f1, f2]
    dsimp only
    rw [h2]
    exact ⟨none, rfl, rfl⟩
theorem kt_strs {K : PySem.W.Frag} {a : Addr} {ss : List Str} {its : Array Value} {n : Nat} {o : Option Addr} {s : Array (Option Value)} (hl : K.lookup a = some ⟨.type "tuple", o, .seq its n, s⟩) (hv : Vals (ss.map V.str) its.toList) (hz : its.size ≤ sizeLine) : KT K a (ss.map V.str) :=
  ⟨_, _, _, hl, rfl, rfl, hz, hv⟩
def gvD : GV → D
  | .inl i => .int i
  | .inr ss => .tup (ss.map .str)
def oInGN (neg : Bool) (kvs : List (Str × GV)) : D → Mem → R D
  | .str z, M => .ok (.bl (if neg then !(kvs.lookup z).isSome else (kvs.lookup z).isSome)) M
  | _, _ => .bad
def oGetGN (kvs : List (Str × GV)) : D → Mem → R D
  | .str z, M => match kvs.lookup z with
    | some v => .ok (gvD v) M
    | none => .bad
  | _, _ => .bad
theorem gval_some {K : PySem.W.Frag} {o : Option GV} {r : Option Value} (h : GVal K o r) : r.isSome = o.isSome := by
  cases o with
  | none => cases h; rfl
  | some v =>
    cases v with
    | inl i => obtain ⟨t, rfl⟩ := h; rfl
    | inr ss => obtain ⟨a, rfl, _⟩ := h; rfl
section
variable {X : Cx} {Z : WX} {pos p : Pos} {a : Expr} {f : ES} {x : Str} {kvs : List (Str × GV)}
theorem st_notInGN (hg : Gl X x) (T : GdN X.w X.K X.mg x kvs) (ha : SE X Z a f) (hd : (x == ("__debug__" : Str)) = false := by decide) : ST X Z (.Compare a [.NotIn] [.Name x p] pos) (tVal (eUn (oInGN true kvs) f)) := by
  obtain ⟨d, es, n, hm, KD, ns⟩ := T.ex
  refine (pt_cmpR (op_notIn_kd KD) ha (pe_glob (v := .ref d) hg hm rfl hd) rfl).weak fun σ H Q q => ?_
  have q1 := lift_tval q
  obtain ⟨W, s, M, m, sr, p⟩ := q1
  refine ⟨W, s, M, m, sr, (Post.bind p).imp fun y M1 W1 H1 x1 m1 p1 v rv => ?_⟩
  cases rv with
  | str z =>
    obtain ⟨r, n1, n2⟩ := ns z
    refine ⟨z, _, rfl, rfl, n1, ?_⟩
    have q := Post.here (a := D.bl (!(kvs.lookup z).isSome)) p1 m1 _ (.bl _)
    rw [gval_some n2]
    exact q
  | _ => exact (show False from p1).elim
theorem se_getGN (hg : Gl X x) (T : GdN X.w X.K X.mg x kvs) (ha : SE X Z a f) (hd : (x == ("__debug__" : Str)) = false := by decide) (hs : PlainIx a := by exact fun _ _ => rfl) :
    SE X Z (.Subscript (.Name x p) a pos) (eUn (oGetGN kvs) f) := by
  obtain ⟨d, es, n, hm, KD, ns⟩ := T.ex
  refine (pe_ix ix_kdict (pe_glob (v := .ref d) hg hm rfl hd) ha hs).weak fun σ H Q ⟨W, s, M, m, sr, p⟩ => ?_
  show liftE (gm X) Z f σ H _
  refine ⟨W, s, M, m, sr, (Post.bind p).imp fun y M1 W1 H1 x1 m1 p1 v rv => ?_⟩
  cases rv with
  | str z =>
    obtain ⟨r, n1, n2⟩ := ns z
    have p1 : Post (gm X) Z σ H1 W1 ((match kvs.lookup z with | some v => R.ok (gvD v) M1 | none => .bad)) _ := p1
    cases hz : kvs.lookup z with
    | none => rw [hz] at p1; exact p1.elim
    | some g =>
      rw [hz] at p1 n2
      cases g with
      | inl i =>
        obtain ⟨t, rfl⟩ := n2
        exact ⟨d, z, .int i, rfl, rfl, ⟨es, n, .int i t, KD.at_, KD.lit, n1, ⟨t, rfl⟩⟩, Post.here p1 m1 _ (.int i)⟩
      | inr ss =>
        obtain ⟨t, rfl, kt⟩ := n2
        exact ⟨d, z, .ref t, rfl, rfl, ⟨es, n, .ref t, KD.at_, KD.lit, n1, rfl⟩, Post.here p1 m1 _ (.tup (.inr kt) (rds_strs ss))⟩
  | _ => exact (show False from p1).elim
end
end LW
namespace LW
open PySem PySem.Spec PyProof.Rows L2
def eDix (k1 k2 : Str) (f1 f2 g : ES) : ES := fun b s M => (f1 b s M).nox.bind fun x M1 => (f2 b s M1).nox.bind fun y M2 => (g b s M2).bind fun z M3 => match z with
  | .str k => if k = k1 then .ok x M3 else if k = k2 then .ok y M3 else .bad
  | _ => .bad
/-- what holds while p is avoided -/
structure AvAt (G : Gm) (H1 : Hp) (W1 : Wd) (p : Addr) (W : Wd) (H : Hp) (M : Mem) : Prop where
  x : Ext H1 W1 H W
  m : MR G H (W.avo p) M
  np : ¬ W.im p
theorem AvAt.begin {G : Gm} {H : Hp} {W : Wd} {M : Mem} {p : Addr} {o : HO} (m : MR G H W M) (hp : H p = none) (nt : NoTup o := by intro _ h; cases h) : AvAt G H W p W (upd H p o) M :=
  ⟨m.xnew hp, m.avo hp nt, m.fresh hp⟩
theorem AvAt.step {G : Gm} {H1 H H' : Hp} {W1 W W' : Wd} {p : Addr} {M M' : Mem} (a : AvAt G H1 W1 p W H M) (x : Ext H (W.avo p) H' W') (m : MR G H' W' M') : ∃ W2, W' = W2.avo p ∧ AvAt G H1 W1 p W2 H' M' := by
  have e : ({ W' with av := W.av } : Wd).avo p = W' := avo_eta x.av
  refine ⟨{ W' with av := W.av }, e.symm, ?_, ?_, ?_⟩
  · have k : Ext H W H' { W' with av := W.av } := by
      refine ⟨⟨x.n, x.pe, fun b o h n => ?_⟩, x.b, x.lim, rfl, fun b h => x.avk b (.inr h)⟩
      by_cases hb : b = p
      · subst hb
        refine ⟨by rw [x.avk b (.inl rfl)]; exact h, ?_⟩
        rintro (z | ⟨k, hk, ek⟩)
        · exact n (.inl z)
        · exact (m.avt b (by rw [x.av]; exact .inl rfl)).2 k hk ek
      · have q := x.keep b o h fun z => (Wd.avo_im.mp z).elim hb n
        refine ⟨q.1, fun z => q.2 ?_⟩
        rw [← e]
        exact Wd.avo_im.mpr (.inr z)
    exact a.x.trans k
  · rw [e]; exact m
  · rintro (z | ⟨k, hk, ek⟩)
    · exact a.np (.inl z)
    · exact (m.avt p (by rw [x.av]; exact .inl rfl)).2 k hk ek
/-- the avoided one gets its contents -/
theorem AvAt.fill {G : Gm} {H1 H : Hp} {W1 W : Wd} {p : Addr} {M : Mem} {o : HO} (a : AvAt G H1 W1 p W H M) (h0 : H1 p = none) (nt : NoTup o := by intro _ h; cases h) : Ext H1 W1 (upd H p o) W ∧ MR G (upd H p o) W M ∧ Le H (W.avo p) (upd H p o) W := by
  obtain ⟨x, m⟩ := poke (o := o) a.m nt
  refine ⟨⟨⟨a.x.n, a.x.pe, fun b o h n => ?_⟩, a.x.b, a.x.lim, a.x.av, fun b h => ?_⟩, m.unavo, x.trans .unavo⟩
  · have q := a.x.keep b o h n
    exact ⟨by rw [upd_ne (ne_of_none h h0)]; exact q.1, q.2⟩
  · have hb : b ≠ p := fun z => a.np (by rw [← z]; exact .inl (by rw [a.x.av]; exact h))
    rw [upd_ne hb]
    exact a.x.avk b h
theorem nox_some {α β : Type} {r : R α} {k : α → Mem → R β} {G : Gm} {Z : WX} {t : L2.St} {H : Hp} {W : Wd} {Q : β → Mem → Wd → Hp → Prop} (p : Post G Z t H W (r.nox.bind k) Q) : ∃ a M, r = .ok a M ∧ Post G Z t H W (k a M) Q := by
  cases r with
  | ok a M => exact ⟨a, M, rfl, p⟩
  | exc c d M => exact p.elim
  | bad => exact p.elim
section
variable {X : Cx} {Z : WX} {pos pd p1 p2 : Pos} {e1 e2 i : Expr} {f1 f2 g : ES} {k : Nat} {j1 j2 : Nat} {k1 k2 : Str}
end
def oIsB (neg : Bool) : D → D → Mem → R D := fun x y M => match x, y with
  | .bl i, .bl j => .ok (.bl (if neg then i != j else i == j)) M
  | _, _ => .bad
section
variable {X : Cx} {Z : WX} {pos : Pos} {a b : Expr} {f g : ES}
end
section
variable {X : Cx} {Z : WX} {p pos tpos : Pos} {a b c : Expr} {fs : EA} {elts : List Expr} {kk : Nat}
end
section
variable {X : Cx} {Z : WX} {p pos : Pos} {a : Expr} {fs : EA} {k : Nat}
end
end LW
namespace LW
open PySem PySem.Spec PyProof.Rows L2
section
variable {X : Cx} {Z : WX} {p pos : Pos} {a : Expr} {fs : EA} {k : Nat}
end
end LW
namespace LW
open PySem PySem.Spec PyProof.Rows L2
section
variable {P : Program} {w : World} {A : Around} {E : Value → Shared → Prop} {s : Shared}
end
/-- each once, in order -/
def insU (x : Int) : List Int → List Int
  | [] => [x]
  | y :: ys => if x < y then x :: y :: ys else if x = y then y :: ys else y :: insU x ys
def sortU (ns : List Int) : List Int := ns.foldr insU []
section
variable {X : Cx} {a : Expr} {ta : TE} {p p2 q pos : Pos}
end
end LW
namespace LW
open PySem PySem.Spec PyProof.Rows L2
def insI (x : Int) : List Int → List Int
  | [] => [x]
  | y :: ys => if x ≤ y then x :: y :: ys else y :: insI x ys
def sortI (ns : List Int) : List Int := ns.foldr insI []
def nSortSet (f : ES) : EN := fun b s M => (f b s M).bind fun x M1 => match (lstOf M1 x).bind intsOf with
  | some ns => if ns.length < 64 then .ok ((sortU ns).map D.int) M1 else .bad
  | none => .bad
def nSort (fs : EA) : EN := fun b s M => (fs b s M).bind fun xs M1 => match xs with
  | [x] => match (lstOf M1 x).bind intsOf with
    | some ns => if ns.length < 64 then .ok ((sortI ns).map D.int) M1 else .bad
    | none => .bad
  | _ => .bad
section
variable {X : Cx} {Z : WX} {a : Expr} {f : ES} {fs : EA} {p p2 q pos : Pos}
end
@[simp] theorem r_sortSet {b : Nat} {s : Slots} {M : Mem} (f : ES) : nSortSet f b s M = (f b s M).bind fun x M1 => match (lstOf M1 x).bind intsOf with
  | some ns => if ns.length < 64 then .ok ((sortU ns).map D.int) M1 else .bad
  | none => .bad := id rfl
@[simp] theorem r_sort {b : Nat} {s : Slots} {M : Mem} (fs : EA) : nSort fs b s M = (fs b s M).bind fun xs M1 => match xs with
  | [x] => match (lstOf M1 x).bind intsOf with
    | some ns => if ns.length < 64 then .ok ((sortI ns).map D.int) M1 else .bad
    | none => .bad
  | _ => .bad := id rfl
end LW
namespace LW
open PySem PySem.Spec PyProof.Rows L2
def keyOf : D → Option Key
  | .int i => some (.inl i)
  | .str x => some (.inr x)
  | _ => none
theorem key_rd {G : Gm} {H : Hp} {W : Wd} {d : D} {k : Key} {v : V} (e : keyOf d = some k) (r : RD G H W d v) : v = kV k := by
  cases r with
  | int i => cases e; rfl
  | str x => cases e; rfl
  | _ => cases e
def dctOf (M : Mem) : D → Option (List Key × List D)
  | .dct ks vs => some (ks, vs)
  | .ref h => match M[h]? with
    | some (.dct ks vs) => some (ks, vs)
    | _ => none
  | _ => none
def valD (k : Key) : List Key → List D → Option D
  | x :: ks, d :: ds => if x = k then some d else valD k ks ds
  | _, _ => none
theorem val_rd {G : Gm} {H : Hp} {W : Wd} {k : Key} {d : D} : ∀ {ks : List Key} {ds : List D} {vs : List V}, RDs G H W ds vs → valD k ks ds = some d → ∃ v, valV (ks.zip vs) k = some v ∧ RD G H W d v
  | [], _, _, _, e => by cases e
  | _ :: _, [], _, _, e => by cases e
  | x :: ks, y :: ds, _, r, e => by
    cases r with
    | cons h r =>
      rename_i w vs
      have e' : (if x = k then some y else valD k ks ds) = some d := e
      show ∃ v, valV ((x, w) :: ks.zip vs) k = some v ∧ _
      by_cases hx : x = k
      · rw [if_pos hx] at e'
        cases e'
        exact ⟨w, valV_pos hx, h⟩
      · rw [if_neg hx] at e'
        rw [valV_neg hx]
        exact val_rd r e'
theorem dct_read {G : Gm} {H : Hp} {W : Wd} {M : Mem} {d : D} {v : V} {ks : List Key} {ds : List D} (m : MR G H W M) (e : dctOf M d = some (ks, ds)) (r : RD G H W d v) : ∃ a vs, v = .ref a ∧ Rd H a (.dK (ks.zip vs)) ∧ ks.length = vs.length ∧ RDs G H W ds vs := by
  cases r with
  | dct h n l r => cases e; exact ⟨_, _, rfl, .inr ⟨_, h⟩, l, r⟩
  | ref q =>
    rename_i h
    have e' : (match M[h]? with | some (.dct ks vs) => some (ks, vs) | _ => none) = some (ks, ds) := e
    cases c : M[h]? with
    | none => rw [c] at e'; cases e'
    | some cc =>
      rw [c] at e'
      cases cc with
      | dct ks' vs' =>
        cases e'
        obtain ⟨vs, e1, z, r, l⟩ := m.cell h _ c
        exact ⟨_, vs, rfl, .inl e1, z, r⟩
      | _ => cases e'
  | _ => cases e
def eDget (f g : ES) : ES := fun b s M => (f b s M).bind fun x M1 => (g b s M1).bind fun y M2 => match keyOf y, dctOf M2 x with
  | some k, some p => (match valD k p.1 p.2 with | some d => .ok d M2 | none => .bad)
  | _, _ => .bad
section
variable {X : Cx} {Z : WX} {pos pos' : Pos} {o i value : Expr} {f g h : ES} {k : Nat}
theorem se_dget (hr : Room k X.A) (ho : SE X Z o f) (hi : SE X Z i g) (hs : NoSl i := by intro _ _; rfl) : SE X Z (.Subscript o i pos) (eDget f g) := by
  have hu : X.A.units + 1 < cLine := by have := hr.un; omega
  refine (pe_dget hu ho hi hs).weak fun σ H Q ⟨W, s, M, m, sr, po⟩ => ?_
  refine ⟨W, s, M, m, sr, (Post.bind po).imp fun x M1 W1 H1 x1 m1 p1 v rv => ?_⟩
  refine ⟨W1, s, M1, m1, sr.mono x1.toLe, ?_⟩
  rw [x1.b]
  refine (Post.bind p1).imp fun y M2 W2 H2 x2 m2 p2 w rw' => ?_
  split at p2
  · rename_i kk pp hk hp
    split at p2
    · rename_i d hd
      obtain ⟨a, vs, rfl, h1, h2, h3⟩ := dct_read (ks := pp.1) (ds := pp.2) m2 hp (rv.mono x2.toLe)
      obtain ⟨u, hu', ru⟩ := val_rd h3 hd
      refine ⟨a, u, rfl, .inl ⟨_, kk, h1, key_rd hk rw', hu'.symm⟩, Post.here p2 m2 u ru⟩
    · exact p2.elim
  · exact p2.elim
end
def putKD (k : Key) (v : D) (ks : List Key) (ds : List D) : List Key × List D :=
  if (ks.any fun x => decide (x = k)) = true then (ks, (ks.zip ds).map fun p => if p.1 = k then v else p.2) else (ks ++ [k], ds ++ [v])
def sDput (fo fi fv : ES) : SS := fun b s M => (fv b s M).toS s fun v M1 => (fo b s M1).toS s fun x M2 => (fi b s M2).toS s fun y M3 => match x, keyOf y with
  | .ref h, some k => match M3[h]? with
    | some (.dct ks ds) => if ks.length < 1000000 ∧ stOk b h v = true then .nx s (M3.set h (.dct (putKD k v ks ds).1 (putKD k v ks ds).2)) else .bad
    | _ => .bad
  | _, _ => .bad
section
variable {G : Gm} {H : Hp} {W : Wd} {M : Mem}
theorem zip_any {k : Key} : ∀ {ks : List Key} {vs : List V}, ks.length = vs.length → ((ks.zip vs).any fun kv => decide (kv.1 = k)) = ks.any fun x => decide (x = k)
  | [], [], _ => rfl
  | x :: ks, v :: vs, h => by
    show (decide (x = k) || (ks.zip vs).any fun kv => decide (kv.1 = k)) = (decide (x = k) || ks.any fun x => decide (x = k))
    rw [zip_any (by simpa using h)]
theorem putK_rd {k : Key} {d : D} {v : V} (q : RD G H W d v) {ks : List Key} {ds : List D} {vs : List V} (hl : ks.length = vs.length) (r : RDs G H W ds vs) :
    ∃ vs', RDs G H W (putKD k d ks ds).2 vs' ∧ (putKD k d ks ds).1.length = vs'.length ∧ (putKD k d ks ds).1.zip vs' = putK (ks.zip vs) k v := by
  unfold putKD putK
  rw [zip_any hl]
  by_cases hk : (ks.any fun x => decide (x = k)) = true
  · rw [if_pos hk, if_pos hk]
    have key : ∀ {ks : List Key} {ds : List D} {vs : List V}, ks.length = vs.length → RDs G H W ds vs → ∃ vs', RDs G H W ((ks.zip ds).map fun p => if p.1 = k then d else p.2) vs' ∧ ks.length = vs'.length ∧ ks.zip vs' = (ks.zip vs).map fun kv => if kv.1 = k then (kv.1, v) else kv := by
      intro ks
      induction ks with
      | nil =>
        intro ds vs hl r
        exact ⟨[], .nil, rfl, rfl⟩
      | cons x ks ih =>
        intro ds vs hl r
        cases r with
        | nil => cases hl
        | cons h r =>
          rename_i y ys w ws
          obtain ⟨vs', r', l', e'⟩ := ih (by simpa using hl) r
          by_cases hx : x = k
          · refine ⟨v :: vs', .cons (by simp only [if_pos hx]; exact q) r', by rw [List.length_cons, List.length_cons, l'], ?_⟩
            show (x, v) :: ks.zip vs' = (if x = k then (x, v) else (x, w)) :: _
            rw [if_pos hx, e']
            rfl
          · refine ⟨w :: vs', .cons (by simp only [if_neg hx]; exact h) r', by rw [List.length_cons, List.length_cons, l'], ?_⟩
            show (x, w) :: ks.zip vs' = (if x = k then (x, v) else (x, w)) :: _
            rw [if_neg hx, e']
            rfl
    exact key hl r
  · rw [if_neg hk, if_neg hk]
    refine ⟨vs ++ [v], r.append (.one q), by simp [hl], ?_⟩
    rw [List.zip_append hl]
    rfl
theorem MR.writeD {h : Nat} {ks ls : List Key} {ds es : List D} {ws : List V} (m : MR G H W M) (hc : M[h]? = some (.dct ks ds)) (hl : ls.length = ws.length) (r : RDs G H W es ws) (hb : h < W.b → belows (W.lim h) es = true) :
    MR G (upd H (W.e h) (.dK (ls.zip ws))) W (M.set h (.dct ls es)) := by
  have hn : h < W.n := by rw [← m.len]; exact lt_of_get hc
  have x : Ext H W (upd H (W.e h) (.dK (ls.zip ws))) W := Ext.write m hn
  refine ⟨by rw [List.length_set]; exact m.len, m.inj, m.bn, m.lm, fun a ha => ⟨by rw [x.avk a ha]; exact (m.avt a ha).1, (m.avt a ha).2⟩, fun k c e => ?_⟩
  by_cases hk : h = k
  · subst hk
    rw [List.getElem?_set_self (by rw [m.len]; exact hn)] at e
    cases e
    exact ⟨ws, upd_same, hl, r.mono x.toLe, hb⟩
  · rw [List.getElem?_set_ne hk] at e
    have kn : k < W.n := by rw [← m.len]; exact lt_of_get e
    exact (m.cell k c e).mono x.toLe rfl rfl kn (upd_ne fun z => hk (m.inj _ _ hn kn z.symm))
end
section
variable {X : Cx} {Z : WX} {pos pos' : Pos} {o i value : Expr} {fo fi fv : ES} {k : Nat}
end
def eDct1 (fk fv : ES) : ES := fun b s M => (fk b s M).nox.bind fun x M1 => (fv b s M1).nox.bind fun y M2 => match keyOf x with
  | some k => .ok (.ref M2.length) (M2 ++ [.dct [k] [y]])
  | none => .bad
theorem MR.add_dct {G : Gm} {H : Hp} {W : Wd} {M : Mem} {p : Addr} {ks : List Key} {xs : List D} {vs : List V} (m : MR G H (W.avo p) M) (hp : ¬ W.av p) (r : RDs G H (W.avo p) xs vs) (hk : ks.length = vs.length) (hl : H p = some (.dK (ks.zip vs))) : MR G H (W.add p) (M ++ [.dct ks xs]) := by
  have hn : ∀ h, h < W.n → W.e h ≠ p := (m.avt p (.inl rfl)).2
  have ml : M.length = W.n := m.len
  have bn : W.b ≤ W.n := m.bn
  refine ⟨by rw [List.length_append, ml]; rfl, fun h h' q q' e => ?_, Nat.le_succ_of_le m.bn, m.lm, fun a h => ⟨(m.avt a (.inr h)).1, fun k q e => ?_⟩, fun h c e => ?_⟩
  · have q1 : h < W.n + 1 := q
    have q2 : h' < W.n + 1 := q'
    by_cases h1 : h = W.n
    · by_cases h2 : h' = W.n
      · omega
      · rw [h1, Wd.add_n, Wd.add_e (by omega)] at e
        exact absurd e.symm (hn h' (by omega))
    · by_cases h2 : h' = W.n
      · rw [h2, Wd.add_n, Wd.add_e (by omega)] at e
        exact absurd e (hn h (by omega))
      · rw [Wd.add_e (by omega), Wd.add_e (by omega)] at e
        exact m.inj h h' (by show h < W.n; omega) (by show h' < W.n; omega) e
  · have q1 : k < W.n + 1 := q
    by_cases h1 : k = W.n
    · rw [h1, Wd.add_n] at e
      exact hp (e ▸ h)
    · rw [Wd.add_e (by omega)] at e
      exact (m.avt a (.inr h)).2 k (by show k < W.n; omega) e
  · by_cases hh : h < M.length
    · rw [List.getElem?_append_left hh] at e
      exact (m.cell h c e).mono .avo_add rfl rfl (by show h < W.n; omega) rfl
    · have h2 : h = M.length := by
        have := lt_of_get e
        rw [List.length_append] at this
        simp at this
        omega
      rw [h2, List.getElem?_append_right (Nat.le_refl _), Nat.sub_self] at e
      simp at e
      subst e
      refine ⟨vs, ?_, hk, r.mono .avo_add, fun z => ?_⟩
      · rw [h2, ml, Wd.add_n]
        exact hl
      · have z' : h < W.b := z
        omega
section
variable {X : Cx} {Z : WX} {pos : Pos} {ek ev : Expr} {fk fv : ES}
end
end LW
namespace LW
open PySem PySem.Spec PyProof.Rows L2
theorem valD_rd {G : Gm} {H : Hp} {W : Wd} {k : Key} : ∀ {ks : List Key} {ds : List D} {vs : List V}, ks.length = vs.length → RDs G H W ds vs → (∀ d, valD k ks ds = some d → ∃ v, valV (ks.zip vs) k = some v ∧ RD G H W d v) ∧ (valD k ks ds = none → valV (ks.zip vs) k = none)
  | [], _, _, _, _ => ⟨fun d e => by (cases e), fun _ => rfl⟩
  | x :: ks, [], _, l, r => by cases r; cases l
  | x :: ks, y :: ds, _, l, r => by
    cases r with
    | cons h r =>
      rename_i w vs
      obtain ⟨i1, i2⟩ := valD_rd (k := k) (ks := ks) (by simpa using l) r
      by_cases hx : x = k
      · refine ⟨fun d e => ?_, fun e => ?_⟩
        · have e' : (if x = k then some y else valD k ks ds) = some d := e
          rw [if_pos hx] at e'
          cases e'
          exact ⟨w, valV_pos hx, h⟩
        · have e' : (if x = k then some y else valD k ks ds) = none := e
          rw [if_pos hx] at e'
          cases e'
      · refine ⟨fun d e => ?_, fun e => ?_⟩
        · have e' : (if x = k then some y else valD k ks ds) = some d := e
          rw [if_neg hx] at e'
          show ∃ v, valV ((x, w) :: ks.zip vs) k = some v ∧ _
          rw [valV_neg hx]
          exact i1 d e'
        · have e' : (if x = k then some y else valD k ks ds) = none := e
          rw [if_neg hx] at e'
          show valV ((x, w) :: ks.zip vs) k = none
          rw [valV_neg hx]
          exact i2 e'
def oDIn (neg : Bool) : D → D → Mem → R D := fun y x M => match keyOf y, dctOf M x with
  | some k, some p => .ok (.bl ((valD k p.1 p.2).isSome != neg)) M
  | _, _ => .bad
section
variable {X : Cx} {Z : WX} {pos pos' : Pos} {o i : Expr} {f g : ES} {k : Nat}
theorem din_core {G : Gm} {σ : L2.St} {H : Hp} {Q : VK} (q : liftE G Z (eBin (oDIn false) g f) σ H Q) : tDIn (liftE G Z g) (liftE G Z f) σ H Q := by
  obtain ⟨W, s, M, m, sr, po⟩ := q
  refine ⟨W, s, M, m, sr, (Post.bind po).imp fun y M1 W1 H1 x1 m1 p1 v rv => ?_⟩
  refine ⟨W1, s, M1, m1, sr.mono x1.toLe, ?_⟩
  rw [x1.b]
  refine (Post.bind p1).imp fun x M2 W2 H2 x2 m2 p2 w rw' => ?_
  unfold oDIn at p2
  split at p2
  · rename_i kk pp hk hp
    obtain ⟨a, vs, rfl, h1, h2, h3⟩ := dct_read (ks := pp.1) (ds := pp.2) m2 hp rw'
    have q := valD_rd (k := kk) h2 h3
    refine ⟨a, valV (pp.1.zip vs) kk, rfl, .inl ⟨_, kk, h1, key_rd hk (rv.mono x2.toLe), rfl⟩, ?_⟩
    have e : (valV (pp.1.zip vs) kk).isSome = ((valD kk pp.1 pp.2).isSome != false) := by
      cases hv : valD kk pp.1 pp.2 with
      | none => rw [q.2 hv]; rfl
      | some d => obtain ⟨u, hu', _⟩ := q.1 d hv; rw [hu']; rfl
    rw [e]
    exact Post.here p2 m2 _ (.bl _)
  · exact p2.elim
theorem st_dIn (hr : Room k X.A) (hi : SE X Z i g) (ho : SE X Z o f) (hm : behindInMarks .In o = false := by first | exact nomark _ | rfl) : ST X Z (.Compare i [.In] [o] pos) (tVal (eBin (oDIn false) g f)) :=
  (pt_cmp (pc_din (by have := hr.un; omega) hi ho) hm).weak fun _ _ _ q => din_core (lift_tval q)
end
section
variable {X : Cx} {Z : WX} {pos : Pos}
def eDct0 : ES := fun _ _ M => .ok (.ref M.length) (M ++ [.dct [] []])
end
@[simp] theorem r_dct0 {b : Nat} {s : Slots} {M : Mem} : eDct0 b s M = .ok (.ref M.length) (M ++ [.dct [] []]) := id rfl
end LW
namespace LW
open PySem PySem.Spec PyProof.Rows L2
section
variable {X : Cx} {Z : WX} {pos pos' : Pos} {o i value : Expr} {es : List Expr} {f g h : ES} {fs : EA} {k x1 : Nat}
end
section
variable {G : Gm} {H : Hp} {W : Wd} {M : Mem}
end
section
variable {X : Cx} {Z : WX} {pos pos' pt : Pos} {o value : Expr} {es : List Expr} {fo fv : ES} {fi : EA} {k x1 : Nat}
end
section
variable {X : Cx} {Z : WX} {pos : Pos}
end
end LW
namespace LW
open PySem PySem.Spec PyProof.Rows L2
section
variable {prog : Program} {w : World} {A : Around} {E : Value → Shared → Prop}
end
section
variable {X : Cx}
end
end LW
namespace LW
open PySem PySem.Spec PyProof.Rows L2
section
variable {P : Program} {w : World} {K : PySem.W.Frag} {mg : Str → Option Value} {base : Heap} {CX : CXT} {f : Addr} {fd : FuncData} {ps : List Str} {sp : Sp}
end
section
variable {G : Gm} {H : Hp} {W : Wd} {a : Addr} {kvs : List (Key × V)} {od : Obj}
theorem lk_rd {b : Addr} {o : HO} (ha : H a = some (.dK kvs)) (n1 : ∀ q, o ≠ .dK q) (r : Rd H b o) : Rd (upd H a (.frz od (.dK kvs))) b o := by
  have hb : b ≠ a := fun e => by
    subst e
    rcases r with r | ⟨ob, r⟩
    · rw [ha] at r
      cases r
      exact n1 _ rfl
    · rw [ha] at r
      cases r
  rcases r with r | ⟨ob, r⟩
  · exact .inl (by rw [upd_ne hb]; exact r)
  · exact .inr ⟨ob, by rw [upd_ne hb]; exact r⟩
mutual
theorem RD.lk (ha : H a = some (.dK kvs)) : ∀ {d : D} {v : V}, RD G H W d v → RD G (upd H a (.frz od (.dK kvs))) W d v
  | _, _, .non => .non
  | _, _, .bl b => .bl b
  | _, _, .int i => .int i
  | _, _, .str y => .str y
  | _, _, .tup h r => .tup (h.elim (fun z => .inl ⟨lk_rd ha (by intro q e; cases e) z.1, z.2⟩) .inr) (RDs.lk ha r)
  | _, _, .lst h r => .lst ⟨(upd_ne fun e => by have h1 := h.1; rw [e, ha] at h1; cases h1).trans h.1, h.2⟩ (RDs.lk ha r)
  | _, _, .scr h => .scr (h.elim (fun z => .inl ⟨lk_rd ha (by intro q e; cases e) z.1, z.2⟩) .inr)
  | _, _, .dct h n l r => .dct (by rw [upd_ne fun e => by subst e; rw [ha] at h; cases h]; exact h) n l (RDs.lk ha r)
  | _, _, .dtt h n l r => .dtt (lk_rd ha (by intro q e; cases e) h) n l (RDs.lk ha r)
  | _, _, .exn g h n k n' f => .exn g (by rw [upd_ne fun e => by subst e; rw [ha] at h; exact nomatch (show HO.dK kvs = .ext _ from Option.some.inj h)]; exact h) n (by rw [upd_ne fun e => by subst e; rw [ha] at k; cases k]; exact k) n' f
  | _, _, .key h n => .key (by rw [upd_ne fun e => by subst e; rw [ha] at h; cases h]; exact h) n
  | _, _, .clo h n k n' r => .clo (by rw [upd_ne fun e => by subst e; rw [ha] at h; exact nomatch (show HO.dK kvs = .ext _ from Option.some.inj h)]; exact h) n (by rw [upd_ne fun e => by subst e; rw [ha] at k; exact nomatch (show HO.dK kvs = .ext _ from Option.some.inj k)]; exact k) n' (RDs.lk ha r)
  | _, _, .ref q => .ref q
theorem RDs.lk (ha : H a = some (.dK kvs)) : ∀ {ds : List D} {vs : List V}, RDs G H W ds vs → RDs G (upd H a (.frz od (.dK kvs))) W ds vs
  | _, _, .nil => .nil
  | _, _, .cons h r => .cons (RD.lk ha h) (RDs.lk ha r)
end
end
section
variable {G : Gm} {H : Hp} {W : Wd} {M : Mem} {a : Addr} {kvs : List (Key × V)} {od : Obj}
theorem CAt.lk {h : Nat} {c : Cell} (ha : H a = some (.dK kvs)) (hn : W.e h ≠ a) (q : CAt G H W h c) : CAt G (upd H a (.frz od (.dK kvs))) W h c := by
  cases c with
  | lst ds => obtain ⟨vs, e, r, l⟩ := q; exact ⟨vs, by rw [upd_ne hn]; exact e, r.lk ha, l⟩
  | dct ks ds => obtain ⟨vs, e, z, r, l⟩ := q; exact ⟨vs, by rw [upd_ne hn]; exact e, z, r.lk ha, l⟩
  | dtt ks ds => obtain ⟨vs, e, z, r, l⟩ := q; exact ⟨vs, by rw [upd_ne hn]; exact e, z, r.lk ha, l⟩
  | dcf ks ds => obtain ⟨vs, e, z, r, l⟩ := q; exact ⟨vs, by rw [upd_ne hn]; exact e, z, r.lk ha, l⟩
  | dtf ks ds => obtain ⟨vs, e, z, r, l⟩ := q; exact ⟨vs, by rw [upd_ne hn]; exact e, z, r.lk ha, l⟩
  | tab P y =>
    obtain ⟨u, ps, e, t, r⟩ := q
    exact ⟨u, ps, by rw [upd_ne hn]; exact e, t, fun pos cv hc => let ⟨c, h1, h2, h3⟩ := r pos cv hc; ⟨c, h1, by rw [upd_ne fun z => by subst z; rw [ha] at h2; exact nomatch (show HO.dK kvs = .ext _ from Option.some.inj h2)]; exact h2, h3⟩⟩
  | ins c fs =>
    obtain ⟨C, dx, vs, g, e, d, dn, z, r, l⟩ := q
    exact ⟨C, dx, vs, g, by rw [upd_ne hn]; exact e, by rw [upd_ne fun y => by subst y; rw [ha] at d; cases d]; exact d, dn, z, r.lk ha, l⟩
theorem MR.lk (m : MR G H W M) (ha : H a = some (.dK kvs)) (hn : ∀ h, h < W.n → W.e h ≠ a) : MR G (upd H a (.frz od (.dK kvs))) W M :=
  ⟨m.len, m.inj, m.bn, m.lm, fun b hb => ⟨by
    by_cases e : b = a
    · subst e; exact ⟨_, upd_same, by intro _ h; cases h⟩
    · rw [upd_ne e]; exact (m.avt b hb).1, (m.avt b hb).2⟩, fun h c e => (m.cell h c e).lk ha (hn h (by rw [← m.len]; exact lt_of_get e))⟩
end
section
variable {P : Program} {w : World} {K : PySem.W.Frag} {mg : Str → Option Value} {base : Heap}
end
def keyD : Key → D
  | .inl i => .int i
  | .inr x => .str x
def itemsD : List Key → List D → List D
  | k :: ks, d :: ds => .tup [keyD k, d] :: itemsD ks ds
  | _, _ => []
def iDItems (f : ES) : EI := fun b s M => (f b s M).bind fun x M1 => match x with
  | .dct ks vs => .ok (itemsD ks vs, []) M1
  | _ => .bad
section
variable {X : Cx} {Z : WX} {e : Expr} {f : ES} {apos cpos tpos : Pos} {elts : List Expr} {kk : Nat}
end
end LW
namespace LW
open PySem PySem.Spec PyProof.Rows L2
structure Lw (H : Hp) (W : Wd) (H' : Hp) (W' : Wd) : Prop where
  n : W.n ≤ W'.n
  e : ∀ h, h < W.n → W'.e h = W.e h
  keep : ∀ a o, H a = some o → ¬ W.im a → H' a = some o ∧ ¬ W'.im a
section
variable {G : Gm} {H H' : Hp} {W W' : Wd}
theorem Lw.rd {a : Addr} {o : HO} (x : Lw H W H' W') (r : Rd H a o) (n : ¬ W.im a) : Rd H' a o ∧ ¬ W'.im a := by
  rcases r with r | ⟨ob, r⟩
  · exact ⟨.inl (x.keep _ _ r n).1, (x.keep _ _ r n).2⟩
  · exact ⟨.inr ⟨ob, (x.keep _ _ r n).1⟩, (x.keep _ _ r n).2⟩
end
/-- the thing of a handle is held to be o -/
def Wd.lock (W : Wd) (h : Nat) (o : HO) : Wd := { W with p := fun k => if k = h then ((W.p k).1, o) else W.p k }
section
variable {G : Gm} {H H' : Hp} {W W' : Wd} {M : Mem} {h : Nat} {o : HO}
end
section
variable {X : Cx} {Z : WX} {e : Expr} {g : ES} {i : Nat}
end
section
variable {X : Cx} {Z : WX} {tg e : Expr} {f : ES}
end
section
variable {X : Cx} {Z : WX} {pos : Pos} {o i : Expr} {f g : ES} {k : Nat}
end
section
variable {G : Gm} {H : Hp} {W : Wd}
end
section
variable {X : Cx} {Z : WX} {pos p : Pos} {e : Expr} {fs : EA} {x : Str} {k : Nat}
end
end LW
namespace LW
open PySem PySem.Spec PyProof.Rows L2
section
variable {G : Gm} {H H2 : Hp} {W W2 : Wd} {M M2 : Mem}
end
section
variable {G : Gm} {H H2 : Hp} {W W2 : Wd} {M M2 : Mem}
end
section
variable {P : Program} {w : World} {K : PySem.W.Frag} {mg : Str → Option Value} {base : Heap}
end
section
variable {X : Cx} {Z : WX} {pos : Pos} {o i : Expr} {f g : ES} {k : Nat}
end
def pairsK : List D → Option (List (Key × D))
  | [] => some []
  | .tup [x, d] :: r => (match keyOf x with
    | some k => (pairsK r).map fun ps => (k, d) :: ps
    | none => none)
  | _ :: _ => none
def mergeKD (ks : List Key) (ds : List D) : List (Key × D) → List Key × List D
  | [] => (ks, ds)
  | p :: ps => mergeKD (putKD p.1 p.2 ks ds).1 (putKD p.1 p.2 ks ds).2 ps
def bDictPK (xs : List D) (M : Mem) : R D := match xs with
  | [.lst ys] => (match pairsK ys with
    | some ps => .ok (.ref M.length) (M ++ [.dct (mergeKD [] [] ps).1 (mergeKD [] [] ps).2])
    | none => .bad)
  | _ => .bad
section
variable {G : Gm} {H : Hp} {W : Wd}
theorem pairsK_cons {y : D} {ys : List D} {ps : List (Key × D)} (e : pairsK (y :: ys) = some ps) : ∃ x k d ps', y = .tup [x, d] ∧ keyOf x = some k ∧ pairsK ys = some ps' ∧ ps = (k, d) :: ps' := by
  unfold pairsK at e
  split at e
  · rename_i heq
    cases heq
  · rename_i x d r heq
    cases heq
    split at e
    · rename_i k hk
      obtain ⟨ps', e1, rfl⟩ := Option.map_eq_some_iff.mp e
      exact ⟨_, _, _, ps', rfl, hk, e1, rfl⟩
    · cases e
  · cases e
theorem pairsK_read : ∀ {ys : List D} {vs : List V} {ps : List (Key × D)}, pairsK ys = some ps → RDs G H W ys vs → ∃ (as : List Addr) (kvs : List (Key × V)), vs = as.map V.ref ∧ Paired (fun p kv => SqT G.K H p [kV kv.1, kv.2]) as kvs ∧ Paired (fun p kv => p.1 = kv.1 ∧ RD G H W p.2 kv.2) ps kvs
  | [], _, _, e, r => by
    cases r
    cases e
    exact ⟨[], [], rfl, .nil, .nil⟩
  | y :: ys, _, ps, e, r => by
    cases r with
    | cons h r =>
    obtain ⟨x, k, d, ps', rfl, hk, e1, rfl⟩ := pairsK_cons e
    obtain ⟨as, kvs, rfl, q1, q2⟩ := pairsK_read e1 r
    cases h with
    | tup ht hr =>
    cases hr with
    | cons hx hr =>
    cases hr with
    | cons hd hr =>
    cases hr
    have ex := key_rd hk hx
    subst ex
    exact ⟨_ :: as, (k, _) :: kvs, rfl, .cons ht.sq q1, .cons ⟨rfl, hd⟩ q2⟩
theorem mergeK_rd : ∀ {ps : List (Key × D)} {kvs : List (Key × V)}, Paired (fun p kv => p.1 = kv.1 ∧ RD G H W p.2 kv.2) ps kvs → ∀ {ks : List Key} {ds : List D} {vs : List V}, ks.length = vs.length → RDs G H W ds vs →
    ∃ vs', RDs G H W (mergeKD ks ds ps).2 vs' ∧ (mergeKD ks ds ps).1.length = vs'.length ∧ (mergeKD ks ds ps).1.zip vs' = mergeK (ks.zip vs) kvs
  | _, _, .nil, ks, ds, vs, hl, r => ⟨vs, r, hl, rfl⟩
  | _, _, .cons (a := p) (b := kv) h t, ks, ds, vs, hl, r => by
    obtain ⟨v1, r1, l1, e1⟩ := putK_rd (k := p.1) h.2 hl r
    obtain ⟨v2, r2, l2, e2⟩ := mergeK_rd t l1 r1
    refine ⟨v2, r2, l2, e2.trans ?_⟩
    rw [e1, h.1]
    rfl
abbrev rDictPK (K : PySem.W.Frag) : List V → Hp → VK → Prop := fun xs H Q => ∃ (a : Addr) (ps : List Addr) (kvs : List (Key × V)), xs = [.ref a] ∧ SqL K H a (ps.map V.ref) ∧ Paired (fun p kv => SqT K H p [kV kv.1, kv.2]) ps kvs ∧
    ∀ p, H p = none → Q (.ref p) (upd H p (.dK (mergeK [] kvs)))
theorem v_dictPK {G : Gm} : FnV G (rDictPK G.K) bDictPK := by
  intro xs M W H vs Z t Q m r p
  unfold bDictPK at p
  split at p
  · rename_i ys
    obtain ⟨v, rfl, rv⟩ := rds1 r
    split at p
    · rename_i ps hp
      cases rv with
      | lst hl hr =>
      obtain ⟨as, kvs, rfl, q1, q2⟩ := pairsK_read hp hr
      refine ⟨_, as, kvs, rfl, hl.sq, q1, fun p0 hp0 => ?_⟩
      obtain ⟨vs', r', l', e'⟩ := mergeK_rd q2 (ks := []) (ds := []) (vs := []) rfl .nil
      have e' : (mergeKD [] [] ps).1.zip vs' = mergeK [] kvs := e'
      rw [← e']
      have np : ¬ W.av p0 := fun z => m.fresh hp0 (.inl z)
      have ma := (m.avo (o := .dK ((mergeKD [] [] ps).1.zip vs')) hp0).add_dct np (r'.mono (m.avo_new hp0)) l' upd_same
      have l2 : M.length = W.n := m.len
      have rf : RD G (upd H p0 (.dK ((mergeKD [] [] ps).1.zip vs'))) (W.add p0) (.ref M.length) (.ref ((W.add p0).e M.length)) := .ref (by show M.length < W.n + 1; omega)
      rw [show (W.add p0).e M.length = p0 by rw [l2]; exact Wd.add_n] at rf
      exact p _ _ ((m.xnew (o := .dK ((mergeKD [] [] ps).1.zip vs')) hp0).add hp0) ma _ rf
    · exact p.elim
  · exact p.elim
end
section
variable {X : Cx} {Z : WX} {pos p : Pos} {e : Expr} {fs : EA} {x : Str} {k : Nat}
theorem se_dictPK (hc : X.calm = true) (hg : Gl X x) (hm : X.mg x = none) (hb : bootBuiltins x = some (.type "dict")) (ha : SA X Z [e] fs) (hn : x ≠ "__name__" := by decide) (hdb : (x == ("__debug__" : Str)) = false := by decide)
    (he : starEach [e] X.env = (false, eval e X.env) :: starEach [] X.env := by rfl) (hpl : (backTo pos (starEach ([] : List Expr) X.env)).any (·.1) = false := by rfl) : SE X Z (.Call (.Name x p) [e] [] pos) (eFn bDictPK fs) :=
  se_callTy (call_dictP hc) v_dictPK hg hm hb ha hn hdb he hpl
end
end LW
namespace LW
open PySem PySem.Spec PyProof.Rows L2
abbrev FnO := Nat → List D → Mem → R D
def endO (r : RS) : R D := match r with
  | .rt d M => .ok d M
  | .nx _ M => .ok .non M
  | .exc c d _ M => .exc c d M
  | _ => .bad
def mkFnO (np nn : Nat) (body : SS) : FnO := fun b ds M => if ds.length = np then endO (body b (ds.map some ++ List.replicate (nn - np) none) M) else .bad
def spO (G : Gm) (φ : FnO) : Sp := fun vs H Q _ => ∃ W M ds, MR G H W M ∧ RDs G H W ds vs ∧ Post G ZF [] H W (φ W.b ds M) fun d _ W' H' => ∀ v, RD G H' W' d v → Q v H'
def spOX (G : Gm) (φ : FnO) : Sp := fun vs H Q E => ∃ W M ds, MR G H W M ∧ RDs G H W ds vs ∧ Post G (ZE E) [] H W (φ W.b ds M) fun d _ W' H' => ∀ v, RD G H' W' d v → Q v H'
section
variable {P : Program} {w : World} {K : PySem.W.Frag} {mg : Str → Option Value} {base : Heap}
theorem fn_byO {x qual : Str} {st : Stmt} {f : Addr} {fd : FuncData} {N ps : List Str} {k : Nat} (np nn : Nat) (body : SS) {φ : FnO} (hφ : φ = mkFnO np nn body) (F : Fun K x qual st f fd) (S : FnScope N ps (defScope st)) (hp : ps.length = np) (hn : N.length = nn)
    (hb : ∀ (cdv : Value) (A : Around) (outer : List Env) (s : Shared) (H : Hp) (E : XK), Room k (A.deeper (envOfC qual (defScope st) s.heap.objs.size f cdv)) → (A.deeper (envOfC qual (defScope st) s.heap.objs.size f cdv)).guards = some [] → SB (cxOf CX0 P w K mg base N qual (defScope st) f cdv A outer s H E).nox ZF (defBody st) body) :
    FnG P w K mg base CX0 (k + 1) f fd ps (spO ⟨K, mg⟩ φ) := by
  subst hp hn hφ
  have hlen : ∀ vs H Q E, spO ⟨K, mg⟩ (mkFnO ps.length N.length body) vs H Q E → vs.length = ps.length := fun vs H Q E h => by
    obtain ⟨W, M, ds, m, r, p⟩ := h
    unfold mkFnO at p
    split at p
    · rename_i e; rw [← r.length]; exact e
    · exact p.elim
  refine fng F S hlen fun cdv A outer s H vs Q E hr hgd h => ⟨_, PSs.nox (hb cdv A outer s H E hr hgd), ?_⟩
  obtain ⟨W, M, ds, m, r, p⟩ := h
  unfold mkFnO at p
  split at p
  · rename_i el
    refine ⟨W, _, M, m, sr_start (N := N) r, ?_⟩
    rw [el]
    show PostS _ _ H W (body W.b _ M) _
    cases q : body W.b (ds.map some ++ List.replicate (N.length - ps.length) none) M with
    | nx s1 M1 => rw [q] at p; exact fun W' H' t x1 m1 sr1 => p _ _ x1 m1 .non .non
    | rt d M1 => rw [q] at p; exact fun W' H' v x1 m1 rv => p _ _ x1 m1 v rv
    | bk s1 M1 => rw [q] at p; exact p.elim
    | ct s1 M1 => rw [q] at p; exact p.elim
    | exc c d s1 M1 => rw [q] at p; exact fun W' H' t C dd v x1 m1 sr1 rd hg hx hd => p W' H' C dd v x1 m1 rd hg hx hd
    | bad => rw [q] at p; exact p.elim
  · exact p.elim
def CalO (P : Program) (w : World) (K : PySem.W.Frag) (mg : Str → Option Value) (base : Heap) (k : Nat) (x : Str) (ps : List Str) (φ : FnO) : Prop :=
  ∃ (f : Addr) (fd : FuncData), FnG P w K mg base CX0 k f fd ps (spO ⟨K, mg⟩ φ) ∧ mg x = some (.ref f) ∧ PySem.W.keepIn K (.ref f) = true ∧ Binds K fd ps []
def CalOX (P : Program) (w : World) (K : PySem.W.Frag) (mg : Str → Option Value) (base : Heap) (k : Nat) (x : Str) (ps : List Str) (φ : FnO) : Prop :=
  ∃ (f : Addr) (fd : FuncData), FnG P w K mg base (L2.CX P w) k f fd ps (spOX ⟨K, mg⟩ φ) ∧ mg x = some (.ref f) ∧ PySem.W.keepIn K (.ref f) = true ∧ Binds K fd ps []
def CalMO (P : Program) (w : World) (K : PySem.W.Frag) (mg : Str → Option Value) (base : Heap) (k : Nat) (c m : Str) (ps : List Str) (φ : FnO) : Prop :=
  ∃ (C f : Addr) (fd : FuncData), mg c = some (.ref C) ∧ Cls K C ∧ Meth K C m f ∧ FnG P w K mg base CX0 k f fd ps (spO ⟨K, mg⟩ φ) ∧ Binds K fd ps []
def CalMOX (P : Program) (w : World) (K : PySem.W.Frag) (mg : Str → Option Value) (base : Heap) (k : Nat) (c m : Str) (ps : List Str) (φ : FnO) : Prop :=
  ∃ (C f : Addr) (fd : FuncData), mg c = some (.ref C) ∧ Cls K C ∧ Meth K C m f ∧ FnG P w K mg base (L2.CX P w) k f fd ps (spOX ⟨K, mg⟩ φ) ∧ Binds K fd ps []
/-- a closed method that may raise -/
def CalMX (P : Program) (w : World) (K : PySem.W.Frag) (mg : Str → Option Value) (base : Heap) (k : Nat) (c m : Str) (ps : List Str) (φ : Fn) : Prop := CalMOX P w K mg base k c m ps fun _ => φ
theorem calm_fn {k : Nat} {f : Addr} {fd : FuncData} {ps : List Str} {φ : FnO} (F : FnG P w K mg base (L2.CX P w) k f fd ps (spOX ⟨K, mg⟩ φ)) : FnG P w K mg base CX0 k f fd ps (spO ⟨K, mg⟩ φ) := by
  have sp : ∀ vs H Q E, spO ⟨K, mg⟩ φ vs H Q E → spOX ⟨K, mg⟩ φ vs H Q (fun _ _ _ => False) := fun vs H Q E ⟨W, M, ds, m, r, p⟩ => ⟨W, M, ds, m, r, p⟩
  refine ⟨fun vs H Q E q => F.many vs H Q _ (sp vs H Q E q), fun A out s H as us vs Q E r1 r2 r3 r4 r5 r6 => ?_⟩
  refine codeAny_mono (F.goes A out s H as us vs Q (fun _ _ _ => False) r1 r2 r3 r4 r5 (sp vs H Q E r6)) fun r s' z => ?_
  match r, z with
  | .error e, ⟨_, _, _, _, _, _, _, _, _, _, _, _, z⟩ => exact z.elim
  | .ok (.ret u), z => exact z
theorem CalOX.cal {k : Nat} {x : Str} {ps : List Str} {φ : FnO} (C : CalOX P w K mg base k x ps φ) : CalO P w K mg base k x ps φ := by
  obtain ⟨f, fd, F, h⟩ := C
  exact ⟨f, fd, calm_fn F, h⟩
theorem CalMOX.cal {k : Nat} {c m : Str} {ps : List Str} {φ : FnO} (C : CalMOX P w K mg base k c m ps φ) : CalMO P w K mg base k c m ps φ := by
  obtain ⟨C, f, fd, h1, h2, h3, F, h⟩ := C
  exact ⟨C, f, fd, h1, h2, h3, calm_fn F, h⟩
theorem CalMX.cal {k : Nat} {c m : Str} {ps : List Str} {φ : Fn} (C : CalMX P w K mg base k c m ps φ) : CalM P w K mg base k c m ps φ := CalMOX.cal C
end
def eCallO (φ : FnO) (fa : EA) : ES := fun b s M => (fa b s M).bind fun ds M1 => φ b ds M1
def eMthO (c m : Str) (φ : FnO) (g : ES) (fa : EA) : ES := fun b s M => (g b s M).bind fun x M1 => match x with
  | .ref h => match M1[h]? with
    | some (.ins c' fs) => if c' = c ∧ fs.lookup m = none then (fa b s M1).bind fun ds M2 => φ b (.ref h :: ds) M2 else .bad
    | _ => .bad
  | _ => .bad
def eMthO0 (c m : Str) (φ : FnO) (g : ES) : ES := fun b s M => (g b s M).bind fun x M1 => match x with
  | .ref h => match M1[h]? with
    | some (.ins c' fs) => if c' = c ∧ fs.lookup m = none then φ b [.ref h] M1 else .bad
    | _ => .bad
  | _ => .bad
section
variable {X : Cx} {Z : WX} {x : Str} {o e : Expr} {c m : Str} {p pos apos : Pos} {g : ES} {es : List Expr} {fa : EA}
theorem se_calO {k k' : Nat} {ps : List Str} {φ : FnO} (C : CalO X.prog X.w X.K X.mg X.base k x ps φ) (hr : Room k' X.A) (hgd : X.A.guards = some []) (ha : SA X ZF (e :: es) fa) (hk : k ≤ k' := by decide) (hg : Gl X x := by rfl) (hdb : (x == ("__debug__" : Str)) = false := by decide)
    (he : starEach (e :: es) X.env = (false, eval e X.env) :: starEach es X.env := by rfl) (hpl : (backTo pos (starEach es X.env)).any (·.1) = false := by rfl) :
    SE X ZF (.Call (.Name x p) (e :: es) [] pos) (eCallO φ fa) := by
  obtain ⟨f, fd, F, hm, hkp, hb⟩ := C
  refine (pg_call F (hr.mono hk) hgd hg hm hkp hb pass0 ha hdb he hpl).weak fun σ H Q ⟨W, s, M, m, sr, po⟩ => ⟨W, s, M, m, sr, (Post.bind po).imp fun ds M1 W1 H1 x1 m1 p1 vs rvs => ?_⟩
  refine ⟨W1, M1, ds, m1, rvs, ?_⟩
  rw [x1.b]
  exact p1
def gFld (c f : Str) (fo : ES) : EG := fun b d s M => match fo b s M with
  | .ok (.ref h) M1 => match M1[h]? with
    | some (.ins c' fs) => if c' = c ∧ fs.length < 1000 ∧ stOk b h d = true then some (s, M1.set h (.ins c' (putD f d fs))) else none
    | _ => none
  | _ => none
end
end LW
namespace LW
open PySem PySem.Spec PyProof.Rows L2
open Classical in
noncomputable def dcL (b : Nat) (hs : List Nat) (M0 : Mem) (t : Tg) (ek ev : ES) (s : Slots) : List D → List Key × List D → Mem → R (List Key × List D)
  | [], acc, M => .ok acc M
  | d :: r, acc, M => match bindT M t d s with
    | some s1 => (ek b s1 M).nox.bind fun x M1 => (ev b s1 M1).nox.bind fun y M2 => match keyOf x with
      | some k => if gdOk hs M0 M2 then dcL b hs M0 t ek ev s r (putKD k y acc.1 acc.2) M2 else .bad
      | none => .bad
    | none => .bad
noncomputable def eDc (it : EI) (own : List Nat) (t : Tg) (ek ev : ES) : ES := fun b s M => (it b s M).bind fun p M1 => if p.1.length ≤ 1000000 then (dcL b p.2 M1 t ek ev (wipeD s own) p.1 ([], []) M1).nox.bind fun acc M2 => .ok (.ref M2.length) (M2 ++ [.dct acc.1 acc.2]) else .bad
section
variable {t : Tg} {ek ev : ES}
end
structure DcAt (G : Gm) (H1 : Hp) (W1 : Wd) (p : Addr) (W : Wd) (H : Hp) (M : Mem) (acc : List Key × List D) : Prop where
  x : Ext H1 W1 H W
  m : MR G H (W.avo p) M
  np : ¬ W.im p
  l : ∃ ws, H p = some (.dK (acc.1.zip ws)) ∧ acc.1.length = ws.length ∧ RDs G H (W.avo p) acc.2 ws
theorem DcAt.step {G : Gm} {H1 H H' : Hp} {W1 W W' : Wd} {p : Addr} {M M' : Mem} {acc : List Key × List D} (a : DcAt G H1 W1 p W H M acc) (x : Ext H (W.avo p) H' W') (m : MR G H' W' M') : ∃ W2, W' = W2.avo p ∧ DcAt G H1 W1 p W2 H' M' acc := by
  have e : ({ W' with av := W.av } : Wd).avo p = W' := avo_eta x.av
  refine ⟨{ W' with av := W.av }, e.symm, ?_, ?_, ?_, ?_⟩
  · have k : Ext H W H' { W' with av := W.av } := by
      refine ⟨⟨x.n, x.pe, fun b o h n => ?_⟩, x.b, x.lim, rfl, fun b h => x.avk b (.inr h)⟩
      by_cases hb : b = p
      · subst hb
        refine ⟨by rw [x.avk b (.inl rfl)]; exact h, ?_⟩
        rintro (z | ⟨k, hk, ek⟩)
        · exact n (.inl z)
        · exact (m.avt b (by rw [x.av]; exact .inl rfl)).2 k hk ek
      · have q := x.keep b o h fun z => (Wd.avo_im.mp z).elim hb n
        refine ⟨q.1, fun z => q.2 ?_⟩
        rw [← e]
        exact Wd.avo_im.mpr (.inr z)
    exact a.x.trans k
  · rw [e]; exact m
  · rintro (z | ⟨k, hk, ek⟩)
    · exact a.np (.inl z)
    · exact (m.avt p (by rw [x.av]; exact .inl rfl)).2 k hk ek
  · obtain ⟨ws, h1, hl, h2⟩ := a.l
    refine ⟨ws, by rw [x.avk p (.inl rfl)]; exact h1, hl, ?_⟩
    rw [e]
    exact h2.mono x.toLe
theorem DcAt.push {G : Gm} {H1 H : Hp} {W1 W : Wd} {p : Addr} {M : Mem} {acc : List Key × List D} {k : Key} {y : D} {v : V} {ws : List V} (a : DcAt G H1 W1 p W H M acc) (h0 : H1 p = none) (hw : H p = some (.dK (acc.1.zip ws))) (hl : acc.1.length = ws.length) (rw' : RDs G H (W.avo p) acc.2 ws) (r : RD G H (W.avo p) y v) :
    DcAt G H1 W1 p W (upd H p (.dK (putK (acc.1.zip ws) k v))) M (putKD k y acc.1 acc.2) := by
  obtain ⟨x, m⟩ := poke (o := .dK (putK (acc.1.zip ws) k v)) a.m
  obtain ⟨vs', r', l', e'⟩ := putK_rd (k := k) (r.mono x) hl (rw'.mono x)
  refine ⟨⟨⟨a.x.n, a.x.pe, fun b o h n => ?_⟩, a.x.b, a.x.lim, a.x.av, fun b h => ?_⟩, m, a.np, vs', by rw [upd_same, e'], l', r'⟩
  · have q := a.x.keep b o h n
    exact ⟨by rw [upd_ne (ne_of_none h h0)]; exact q.1, q.2⟩
  · have hb : b ≠ p := fun z => a.np (by rw [← z]; exact .inl (by rw [a.x.av]; exact h))
    rw [upd_ne hb]
    exact a.x.avk b h
section
variable {X : Cx} {Z : WX} {pos : Pos} {kx vx tg iter : Expr} {scope : Scope} {own : List (Str × Nat)} {it : EI} {t : Tg} {ek ev : ES}
end
end LW
namespace DTK
open PySem PySem.Spec PyProof.Rows PySem.Calls PySem.W L2 DT
section
variable {prog : Program} {w : World} {A : Around} {E : Value → Shared → Prop} {s : Shared}
def keyTx (h : Heap) (v : Value) : Str := txOf (seqAt0 h (refOf (some v)))
def PairIn (prog : Program) (w : World) (h : Heap) (v : Value) (y : Str) (m : List L2.Key) : Prop :=
  ∃ (a b : Addr) (t : Tok), v = .ref a ∧ IsTup h a #[.str y t, .ref b] ∧ IsTupleKey (L2.mixKind prog w) h m b
theorem PairIn.tx {h : Heap} {v : Value} {y : Str} {m : List L2.Key} (x : PairIn prog w h v y m) : keyTx h v = y := by
  obtain ⟨a, b, t, rfl, h1, _⟩ := x
  show txOf (seqAt0 h a) = y
  rw [seqAt0_of h1]
  rfl
end
end DTK
namespace L2.DXK
open PySem PySem.Spec PyProof.Rows PySem.Calls PySem.W L2 DT L2.DX
section
variable {X : Cx}
end
section
variable {X : Cx} {o : Expr} {apos cpos : Pos} {td : TE}
end
end L2.DXK
namespace LW
open PySem PySem.Spec PyProof.Rows L2
def strKeys : List Key → Option (List Str)
  | [] => some []
  | .inr x :: r => (strKeys r).map (x :: ·)
  | .inl _ :: _ => none
def tupKey : D → Option (List Key)
  | .tup xs => xs.mapM keyOf
  | _ => none
def ltS (x y : Str) : Bool := decide (x.cps.toList < y.cps.toList)
def insT (x : Str × D) : List (Str × D) → List (Str × D)
  | [] => [x]
  | y :: ys => if ltS y.1 x.1 = true then y :: insT x ys else x :: y :: ys
def sortT (xs : List (Str × D)) : List (Str × D) := xs.foldr insT []
theorem ltS_trans {x y z : Str} (h1 : ltS x y = true) (h2 : ltS y z = true) : ltS x z = true := decide_eq_true (List.lt_trans (of_decide_eq_true h1) (of_decide_eq_true h2))
theorem ltS_irr (x : Str) : ltS x x = false := decide_eq_false (List.lt_irrefl _)
theorem ltS_anti {x y : Str} (h1 : ltS x y = false) (h2 : ltS y x = false) : x = y := by
  have a := List.not_lt.mp (of_decide_eq_false h1)
  have b := List.not_lt.mp (of_decide_eq_false h2)
  have e : x.cps.toList = y.cps.toList := List.le_antisymm b a
  cases x
  cases y
  congr
  exact Array.toList_inj.mp e
theorem ltS_le {x y z : Str} (h1 : ltS x y = false) (h2 : ltS z y = true) : ltS z x = true := by
  have a := List.not_lt.mp (of_decide_eq_false h1)
  exact decide_eq_true (Decidable.byContradiction fun h => (List.not_lt.mpr (List.le_trans a (List.not_lt.mp h))) (of_decide_eq_true h2))
def nSortIt (f : ES) : EN := fun b s M => (f b s M).bind fun x M1 => match dctOf M1 x with
  | some p => match strKeys p.1 with
    | some xs => if xs.length < 64 ∧ xs.length = p.2.length ∧ p.2.all (fun d => (tupKey d).isSome) = true then .ok ((sortT (xs.zip p.2)).map fun z => .tup [.str z.1, z.2]) M1 else .bad
    | none => .bad
  | none => .bad
theorem strKeys_map : ∀ {ks : List Key} {xs : List Str}, strKeys ks = some xs → ks = xs.map Sum.inr
  | [], _, h => by cases h; rfl
  | .inr x :: r, xs, h => by
    unfold strKeys at h
    rw [Option.map_eq_some_iff] at h
    obtain ⟨ys, h1, rfl⟩ := h
    rw [strKeys_map h1]
    rfl
  | .inl _ :: _, _, h => by cases h
section
variable {X : Cx} {Z : WX} {e : Expr} {f : ES} {p apos cpos pos : Pos} {k : Nat}
end
end LW
namespace LW
open PySem PySem.Spec PyProof.Rows L2
def nPairs : List (ES × ES) → Nat → Slots → Mem → R (List (Key × D))
  | [], _, _, M => .ok [] M
  | p :: r, b, s, M => (p.1 b s M).nox.bind fun x M1 => (p.2 b s M1).nox.bind fun y M2 => match keyOf x with
    | some k => (nPairs r b s M2).nox.bind fun ps M3 => .ok ((k, y) :: ps) M3
    | none => .bad
def eDctN (ps : List (ES × ES)) : ES := fun b s M => (nPairs ps b s M).nox.bind fun acc M1 => if acc.length ≤ 15 then .ok (.ref M1.length) (M1 ++ [.dct (mergeKD [] [] acc).1 (mergeKD [] [] acc).2]) else .bad
def trN (G : Gm) : List (ES × ES) → List (TE × TE)
  | [] => []
  | p :: r => (liftE G ZF p.1, liftE G ZF p.2) :: trN G r
section
variable {X : Cx} {Z : WX} {pos : Pos}
theorem sps_nil : PPs X pos [] [] (trN (gm X) []) := pps_nil
theorem sps_cons {ek ev : Expr} {fk fv : ES} {ks : List (Option Expr)} {vs : List Expr} {ps : List (ES × ES)} (h1 : SE X ZF ek fk) (h2 : SE X ZF ev fv) (hr : PPs X pos ks vs (trN (gm X) ps)) : PPs X pos (some ek :: ks) (ev :: vs) (trN (gm X) ((fk, fv) :: ps)) := pps_cons h1 h2 hr
theorem nox_ok_of {α β : Type} {r : R α} {k : α → Mem → R β} {z : β} {M : Mem} (h : r.nox.bind k = .ok z M) : ∃ a M1, r = .ok a M1 ∧ k a M1 = .ok z M := by
  cases r with
  | ok a M1 => exact ⟨a, M1, rfl, h⟩
  | exc c d M1 => cases h
  | bad => cases h
theorem pairs_run {G : Gm} {H : Hp} {W : Wd} {p0 : Addr} {s : Slots} {σ : L2.St} : ∀ (ps : List (ES × ES)) {W1 : Wd} {H1 : Hp} {M1 M2 : Mem} {acc : List (Key × D)}, AvAt G H W p0 W1 H1 M1 → SR G H1 (W1.avo p0) s σ → H1 p0 = some (.dK []) → nPairs ps W.b s M1 = .ok acc M2 →
    ∀ Q : List (V × V) → Hp → Prop, (∀ (W2 : Wd) (H2 : Hp) (kvs : List (Key × V)), AvAt G H W p0 W2 H2 M2 → Ext H1 (W1.avo p0) H2 (W2.avo p0) → H2 p0 = some (.dK []) → Paired (fun p kv => p.1 = kv.1 ∧ RD G H2 (W2.avo p0) p.2 kv.2) acc kvs → Q (kvs.map fun kv => (kV kv.1, kv.2)) H2) → tPairs (trN G ps) σ H1 Q
  | [], W1, H1, M1, M2, acc, a, sr, e0, hq, Q, hQ => by
    have hq : R.ok ([] : List (Key × D)) M1 = .ok acc M2 := hq
    cases hq
    exact hQ W1 H1 [] a (Ext.refl _ _) e0 .nil
  | (fk, fv) :: ps, W1, H1, M1, M2, acc, a, sr, e0, hq, Q, hQ => by
    have hq : ((fk W.b s M1).nox.bind fun x M1 => (fv W.b s M1).nox.bind fun y M2 => match keyOf x with
      | some k => (nPairs ps W.b s M2).nox.bind fun ps M3 => .ok ((k, y) :: ps) M3
      | none => .bad) = .ok acc M2 := hq
    obtain ⟨x, M3, q1, hq⟩ := nox_ok_of hq
    obtain ⟨y, M4, q2, hq⟩ := nox_ok_of hq
    have b1 : W1.b = W.b := a.x.b
    show liftE G ZF fk σ H1 _
    refine ⟨W1.avo p0, s, M1, a.m, sr, ?_⟩
    show Post G ZF σ _ _ (fk W1.b s M1) _
    rw [b1, q1]
    intro W3 H3 x3 m3 v rv
    obtain ⟨W3', rfl, a3⟩ := a.step x3 m3
    have b3 : W3'.b = W.b := a3.x.b
    show liftE G ZF fv σ H3 _
    refine ⟨W3'.avo p0, s, M3, a3.m, sr.mono x3.toLe, ?_⟩
    show Post G ZF σ _ _ (fv W3'.b s M3) _
    rw [b3, q2]
    intro W4 H4 x4 m4 w rw'
    obtain ⟨W4', rfl, a4⟩ := a3.step x4 m4
    have e4 : H4 p0 = some (.dK []) := by
      rw [x4.avk p0 (.inl rfl), x3.avk p0 (.inl rfl)]
      exact e0
    cases hk : keyOf x with
    | none => rw [hk] at hq; cases hq
    | some k =>
      rw [hk] at hq
      obtain ⟨acc', M5, q3, hq⟩ := nox_ok_of hq
      cases hq
      refine pairs_run ps a4 ((sr.mono x3.toLe).mono x4.toLe) e4 q3 _ fun W2 H2 kvs a2 x2 e2 pr => ?_
      have ev : v = kV k := key_rd hk rv
      subst ev
      exact hQ W2 H2 ((k, w) :: kvs) a2 ((x3.trans x4).trans x2) e2 (.cons ⟨rfl, rw'.mono x2.toLe⟩ pr)
theorem se_dctN {keys : List (Option Expr)} {values : List Expr} {ps : List (ES × ES)} (h : PPs X pos keys values (trN (gm X) ps)) (hall : keys.all (·.isSome) = true := by rfl) (hl : keys.length = values.length := by rfl) (h0 : keys ≠ [] := by simp) (h15 : keys.length ≤ 15 := by decide) :
    SE X Z (.Dict keys values pos) (eDctN ps) := by
  refine (pe_disp h hall hl h0 h15).weak fun σ H Q ⟨W, s, M, m, sr, po⟩ => ?_
  intro p0 hp0
  obtain ⟨acc, M1, q1, po⟩ := nox_some po
  have a0 : AvAt (gm X) H W p0 W (upd H p0 (.dK [])) M := .begin m hp0
  refine pairs_run ps a0 (sr.mono (m.avo_new hp0)) upd_same q1 _ fun W2 H2 kvs a2 x2 e2 pr => ?_
  split at po
  · rename_i hlen
    refine ⟨e2, kvs, rfl, by rw [← pr.length]; exact hlen, ?_⟩
    obtain ⟨vs', r', l', e'⟩ := mergeK_rd pr (ks := []) (ds := []) (vs := []) rfl .nil
    have e' : (mergeKD [] [] acc).1.zip vs' = mergeK [] kvs := e'
    rw [← e']
    obtain ⟨lp, mp⟩ := poke (o := .dK ((mergeKD [] [] acc).1.zip vs')) a2.m
    obtain ⟨x3, m3, le3⟩ := a2.fill (o := .dK ((mergeKD [] [] acc).1.zip vs')) hp0
    have np : ¬ W2.av p0 := fun z => a2.np (.inl z)
    have ma := mp.add_dct np (r'.mono lp) l' upd_same
    have l2 : M1.length = W2.n := a2.m.len
    have rf : RD (gm X) (upd H2 p0 (.dK ((mergeKD [] [] acc).1.zip vs'))) (W2.add p0) (.ref M1.length) (.ref ((W2.add p0).e M1.length)) := .ref (by show M1.length < W2.n + 1; omega)
    rw [show (W2.add p0).e M1.length = p0 by rw [l2]; exact Wd.add_n] at rf
    exact po _ _ (x3.add hp0) ma _ rf
  · exact po.elim
end
def bDictCp (xs : List D) (M : Mem) : R D := match xs with
  | [x] => match dctOf M x with
    | some p => .ok (.ref M.length) (M ++ [.dct p.1 p.2])
    | none => .bad
  | _ => .bad
section
variable {X : Cx} {Z : WX} {pos p : Pos} {e : Expr} {fs : EA} {x : Str} {k : Nat}
end
def tDUpd (td ty : TE) : TE := fun σ H Q => td σ H fun x H1 => ∃ a, x = .ref a ∧ IsD H1 a ∧ ty σ H1 fun y H2 => ∃ b kvs more, y = .ref b ∧ a ≠ b ∧ H2 a = some (.dK kvs) ∧ H2 b = some (.dK more) ∧ kvs.length + more.length ≤ sizeLine ∧ Q .non (upd H2 a (.dK (mergeK kvs more)))
theorem type_dict_update : typeOf (.builtin "dict.update") = pure (.type "method_descriptor") := by show builtinType _ = _; rw [builtinType_eq_fast]; kernel_rfl
theorem pe_dupd {X : Cx} {o e : Expr} {apos cpos : Pos} {td ty : TE} (ho : PE X o td) (he : PE X e ty) (m : M1 X o "update" apos e cpos) : PE X (.Call (.Attribute o "update" apos) [e] [] cpos) (tDUpd td ty) := by
  refine ⟨fun pins s σ H Q I h => ?_⟩
  refine wpAny_Call_method m.base m.few m.line PySem.F.plainAttrs_dict PySem.F.slot_dict_update type_dict_update (thn (ho.run pins s σ H _ I h) fun u s1 ⟨x, H1, I1, rx, a, ex, d, q1⟩ => ?_)
  subst ex
  obtain rfl : u = Value.ref a := rx
  obtain ⟨t1, t2, _⟩ := isD_at I1 d
  refine ⟨t1, t2, ?_⟩
  rw [m.trees]
  refine Calls.callWith_builtin rfl (Calls.evalArgs_plain (Calls.spliced_cons (thn (he.run pins s1 σ H1 _ I1 q1) fun iv s2 ⟨y, H2, I2, ry, b, kvs, more, ey, hab, ea, eb, hz, q2⟩ => Calls.spliced_nil ?_)))
  subst ey
  obtain rfl : iv = Value.ref b := ry
  obtain ⟨z, hd, vs, rel, dd⟩ := dk_of I2.hok ea
  obtain ⟨z2, hd2, ws, rel2, dd2⟩ := dk_of I2.hok eb
  refine call_meetsIn PySem.F.slot_dict_update dd.typeIs PySem.F.entry_dict_update (PySem.F.args_dict_update_2 _ _) (meets_dict_update (mixKind X.prog X.w) a b hab hd2)
    ⟨vs, ws, dd, dd2, by rw [← rel.length, ← rel2.length]; exact hz, fun h' dd' _ hs => ⟨.non, _, ?_, rfl, q2⟩⟩
  have hz' : (mergeK kvs more).length ≤ sizeLine := Nat.le_trans (length_mergeK more kvs) hz
  have he' : ∃ q, h'.get? a = some q := let ⟨q, _, _, hq, _⟩ := dd'; ⟨q, hq⟩
  exact d_write I2 (by rw [ea]; exact True.intro) hs he' (dk_new hz' hd (rel2.merge rel) dd')
def eDUpd (f g : ES) : ES := fun b s M => (f b s M).bind fun x M1 => match x with
  | .ref h => match M1[h]? with
    | some (.dct _ _) => (g b s M1).bind fun y M2 => match y with
      | .ref j => match M2[h]?, M2[j]? with
        | some (.dct ks ds), some (.dct ls es) => if h ≠ j ∧ b ≤ h ∧ ks.length + ls.length ≤ 1000000 then .ok .non (M2.set h (.dct (mergeKD ks ds (ls.zip es)).1 (mergeKD ks ds (ls.zip es)).2)) else .bad
        | _, _ => .bad
      | _ => .bad
    | _ => .bad
  | _ => .bad
theorem zip_paired {G : Gm} {H : Hp} {W : Wd} : ∀ {ls : List Key} {es : List D} {vs : List V}, ls.length = vs.length → RDs G H W es vs → Paired (fun p kv => p.1 = kv.1 ∧ RD G H W p.2 kv.2) (ls.zip es) (ls.zip vs)
  | [], _, [], _, _ => .nil
  | [], _, _ :: _, h, _ => by cases h
  | _ :: _, _, [], h, _ => by cases h
  | l :: ls, _, v :: vs, h, .cons r rs => .cons ⟨rfl, r⟩ (zip_paired (by simpa using h) rs)
theorem se_dupd {X : Cx} {Z : WX} {o e : Expr} {apos cpos : Pos} {f g : ES} (ho : SE X Z o f) (he : SE X Z e g) (m : M1 X o "update" apos e cpos := by exact ⟨rfl, rfl, rfl, rfl⟩) : SE X Z (.Call (.Attribute o "update" apos) [e] [] cpos) (eDUpd f g) := by
  refine (pe_dupd ho he m).weak fun σ H Q ⟨W, s, M, m0, sr, po⟩ => ?_
  refine ⟨W, s, M, m0, sr, (Post.bind po).imp fun x M1 W1 H1 x1 m1 p1 v rv => ?_⟩
  split at p1
  · rename_i h
    split at p1
    · rename_i ks0 ds0 hc0
      cases rv with
      | ref q =>
      obtain ⟨vs0, e0, _⟩ := m1.cell h _ hc0
      refine ⟨_, rfl, .inl ⟨_, .inl e0⟩, W1, s, M1, m1, sr.mono x1.toLe, ?_⟩
      have b1 : W1.b = W.b := x1.b
      rw [b1]
      refine (Post.bind p1).imp fun y M2 W2 H2 x2 m2 p2 w rw' => ?_
      split at p2
      · rename_i j
        split at p2
        · rename_i ks ds ls es hc hj
          split at p2
          · rename_i hcond
            obtain ⟨hne, hb, hlen⟩ := hcond
            cases rw' with
            | ref q2 =>
            have q1 : h < W2.n := Nat.lt_of_lt_of_le q x2.n
            obtain ⟨vs, e1, l1, r1, b1'⟩ := m2.cell h _ hc
            obtain ⟨ws, e2, l2, r2, _⟩ := m2.cell j _ hj
            rw [← x2.e h q]
            have hab : W2.e h ≠ W2.e j := fun e => hne (m2.inj h j q1 q2 e)
            refine ⟨_, _, _, rfl, hab, e1, e2, ?_, ?_⟩
            · rw [List.length_zip, List.length_zip, ← l1, ← l2, Nat.min_self, Nat.min_self]
              exact Nat.le_trans hlen (by rw [sizeLine_eq]; decide)
            · obtain ⟨vs', r', l', e'⟩ := mergeK_rd (zip_paired l2 r2) (ks := ks) (ds := ds) (vs := vs) l1 r1
              rw [← e']
              have hlt : h < M2.length := lt_of_get hc
              have hwb : W2.b = W.b := x2.b.trans b1
              have mw := m2.writeD (ls := (mergeKD ks ds (ls.zip es)).1) (es := (mergeKD ks ds (ls.zip es)).2) hc l' r' (fun hb2 => by rw [hwb] at hb2; omega)
              exact p2 W2 _ (Ext.write m2 (by rw [← m2.len]; exact hlt)) mw _ .non
          · exact p2.elim
        · exact p2.elim
      · exact p2.elim
    · exact p1.elim
  · exact p1.elim
end LW
namespace LW
open PySem PySem.Spec PyProof.Rows L2
def insS (x : Str) : List Str → List Str
  | [] => [x]
  | y :: ys => if ltS y x = true then y :: insS x ys else x :: y :: ys
def sortS (xs : List Str) : List Str := xs.foldr insS []
theorem insS_perm {x : Str} : ∀ {ys : List Str}, (insS x ys).Perm (x :: ys)
  | [] => .refl _
  | y :: ys => by
    unfold insS
    split
    · exact (insS_perm (ys := ys)).cons y |>.trans (.swap _ _ _)
    · exact .refl _
theorem sortS_perm : ∀ {xs : List Str}, (sortS xs).Perm xs
  | [] => .refl _
  | x :: xs => insS_perm.trans ((sortS_perm (xs := xs)).cons x)
theorem insS_srt {x : Str} : ∀ {ys : List Str}, ys.Pairwise (fun a b => ltS b a = false) → (insS x ys).Pairwise (fun a b => ltS b a = false)
  | [], _ => by simp [insS]
  | y :: ys, h => by
    obtain ⟨h1, h2⟩ := List.pairwise_cons.mp h
    unfold insS
    split
    · rename_i hx
      refine List.pairwise_cons.mpr ⟨fun z hz => ?_, insS_srt h2⟩
      rcases List.mem_cons.mp (insS_perm.mem_iff.mp hz) with rfl | hz
      · cases q : ltS z y with
        | false => rfl
        | true => have := ltS_trans hx q; rw [ltS_irr] at this; cases this
      · exact h1 z hz
    · rename_i hx
      have hx : ltS y x = false := by simpa using hx
      refine List.pairwise_cons.mpr ⟨fun z hz => ?_, h⟩
      rcases List.mem_cons.mp hz with rfl | hz
      · exact hx
      · cases q : ltS z x with
        | false => rfl
        | true =>
          have := ltS_le hx q
          rw [h1 z hz] at this
          cases this
theorem sortS_srt : ∀ xs : List Str, (sortS xs).Pairwise (fun a b => ltS b a = false)
  | [] => .nil
  | x :: xs => insS_srt (sortS_srt xs)
theorem srtS_uniq : ∀ {A B : List Str}, A.Pairwise (fun a b => ltS b a = false) → B.Pairwise (fun a b => ltS b a = false) → A.Perm B → A = B
  | [], B, _, _, h => List.Perm.nil_eq h
  | x :: xs, [], _, _, h => absurd h.length_eq (by simp)
  | x :: xs, y :: ys, hx, hy, h => by
    obtain ⟨x1, x2⟩ := List.pairwise_cons.mp hx
    obtain ⟨y1, y2⟩ := List.pairwise_cons.mp hy
    have e : x = y := by
      have a := h.mem_iff.mp (show x ∈ x :: xs by simp)
      have b := h.mem_iff.mpr (show y ∈ y :: ys by simp)
      rcases List.mem_cons.mp a with a | a
      · exact a
      · rcases List.mem_cons.mp b with b | b
        · exact b.symm
        · exact ltS_anti (y1 x a) (x1 y b)
    subst e
    rw [srtS_uniq x2 y2 (List.Perm.cons_inv h)]
theorem ltS_nlt {x y : Str} : ltS x y = false ↔ ¬ x.cps.toList < y.cps.toList := by unfold ltS; simp
theorem ltS_ge {x y z : Str} (h1 : ltS y x = false) (h2 : ltS z y = false) : ltS z x = false := by
  have a := List.not_lt.mp (ltS_nlt.mp h1)
  have b := List.not_lt.mp (ltS_nlt.mp h2)
  exact ltS_nlt.mpr (List.not_lt.mpr (List.le_trans a b))
theorem rising_pw : ∀ (r : List Str) (p : Str), risingS p r = true → (p :: r).Pairwise (fun a b => ltS b a = false)
  | [], p, _ => by simp
  | x :: r, p, h => by
    have h : (!ltCps x.cps.toList p.cps.toList && risingS x r) = true := h
    rw [Bool.and_eq_true, ltCps_eq] at h
    have ih := rising_pw r x h.2
    have h1 : ltS x p = false := by simpa [ltS] using h.1
    refine List.pairwise_cons.mpr ⟨fun z hz => ?_, ih⟩
    rcases List.mem_cons.mp hz with rfl | hz
    · exact h1
    · exact ltS_ge h1 ((List.pairwise_cons.mp ih).1 z hz)
theorem sorted_pw : ∀ (r : List Str), sortedS r = true → r.Pairwise (fun a b => ltS b a = false)
  | [], _ => .nil
  | x :: r, h => rising_pw r x h
theorem rds_strsT {G : Gm} {H : Hp} {W : Wd} (ns : List Str) : RDs G H W (ns.map D.str) (ns.map V.str) := by
  induction ns with
  | nil => exact .nil
  | cons n ns ih => exact .cons (.str _) ih
/-- sorted(d) of a dict with text keys -/
def nSortD (fs : EA) : EN := fun b s M => (fs b s M).bind fun xs M1 => match xs with
  | [x] => match dctOf M1 x with
    | some p => match strKeys p.1 with
      | some ks => if ks.length < 64 ∧ p.1.length = p.2.length then .ok ((sortS ks).map D.str) M1 else .bad
      | none => .bad
    | none => .bad
  | _ => .bad
section
variable {X : Cx} {Z : WX} {a : Expr} {f : ES} {fs : EA} {p p2 q pos : Pos}
theorem sn_sortD (hc : X.calm = true) (hg : Gl X "sorted") (hm : X.mg "sorted" = none) (ha : SA X Z [a] fs) (he : starEach [a] X.env = (false, eval a X.env) :: starEach [] X.env := by rfl) : SN X Z (.Call (.Name "sorted" p) [a] [] pos) (nSortD fs) := by
  refine (pe_callB (call_sortedD hc) hg hm boot_sorted ha (by decide) (by decide) he rfl).weak fun σ H Q ⟨W, s, M, m, sr, po⟩ => ?_
  refine ⟨W, s, M, m, sr, (PostN.bind m po).imp fun ds M1 W1 H1 x1 m1 p1 vs rvs => ?_⟩
  split at p1
  · rename_i x
    obtain ⟨v, rfl, rv⟩ := rds1 rvs
    split at p1
    · rename_i pr hp
      obtain ⟨ks, es⟩ := pr
      split at p1
      · rename_i xs hx
        split at p1
        · rename_i h64
          obtain ⟨a1, vs, rfl, ha1, hl, rs⟩ := dct_read m1 hp rv
          have ek := strKeys_map hx
          refine ⟨a1, _, xs, rfl, ha1, ?_, h64.1, fun ys p0 h1 h2 hp => ?_⟩
          · rw [List.map_fst_zip (by rw [← hl]; exact Nat.le_refl _)]
            exact ek
          · rw [srtS_uniq (sorted_pw ys h2) (sortS_srt xs) (h1.trans sortS_perm.symm)]
            exact new_n (.refl _ _) m1 m1 p1 (rds_strsT _) hp
        · exact p1.elim
      · exact p1.elim
    · exact p1.elim
  · exact p1.elim
end
def oIxS : D → D → Mem → R D := fun x y M => match x, y with
  | .str z, .int i => if 0 ≤ i ∧ i < z.length ∧ z.length ≤ 1000000 then (match z.cps[i.toNat]? with
    | some c => .ok (.str ⟨#[c]⟩) M
    | none => .bad) else .bad
  | _, _ => .bad
theorem bv_ixS {G : Gm} : BinV G (fun x y H Q => ∃ (z : Str) (i : Int) (c : Nat), x = .str z ∧ y = .int i ∧ 0 ≤ i ∧ i < 2 ^ 63 ∧ i < z.length ∧ z.cps[i.toNat]? = some c ∧ Q (.str ⟨#[c]⟩) H) oIxS := by
  intro x y M W H v w Z t Q m rv rw' p
  unfold oIxS at p
  split at p
  · rename_i z i
    cases rv
    cases rw'
    split at p
    · rename_i hc
      split at p
      · rename_i c hcp
        exact ⟨z, i, c, rfl, rfl, hc.1, by have := hc.2; omega, hc.2.1, hcp, p.here m _ (.str _)⟩
      · exact p.elim
    · exact p.elim
  · exact p.elim
section
variable {X : Cx} {Z : WX} {a b : Expr} {f g : ES} {pos apos cpos : Pos} {k : Nat}
theorem se_ixS (ha : SE X Z a f) (hb : SE X Z b g) (hs : PlainIxT b := by exact fun _ _ => rfl) : SE X Z (.Subscript a b pos) (eBin oIxS f g) := (pe_item_str ha hb hs).weak fun _ _ _ q => lift_bin bv_ixS q
end
def oMulT : D → D → Mem → R D := fun x y M => match x, y with
  | .str z, .int i => if i = 0 then .ok (.str Str.empty) M else if i = 1 then .ok (.str z) M else .bad
  | _, _ => .bad
def rMulT : R2 := fun x y H Q => ∃ (z : Str) (i : Int), x = .str z ∧ y = .int i ∧ ((i = 0 ∧ Q (.str Str.empty) H) ∨ (i = 1 ∧ Q (.str z) H))
theorem op_mulT {X : Cx} : OpR X (binaryOp .Mult) rMulT := by
  intro pins s σ H x y v u Q I rx ry h
  obtain ⟨z, i, rfl, rfl, h⟩ := h
  obtain ⟨t, rfl⟩ := rx
  obtain ⟨t', rfl⟩ := ry
  rcases h with ⟨rfl, q⟩ | ⟨rfl, q⟩
  · exact PySem.P.mul_str_none (by decide) (by decide) ⟨.str Str.empty, H, I.tok _, ⟨_, rfl⟩, q⟩
  · refine PySem.P.mul_str (by decide) (fun _ h => by simp at h) (fun _ h => by simp at h) ?_
    rw [if_neg (by decide), if_pos (by simp)]
    exact ⟨.str z, H, I, ⟨_, rfl⟩, q⟩
theorem bv_mulT {G : Gm} : BinV G rMulT oMulT := by
  intro x y M W H v w Z t Q m rv rw' p
  unfold oMulT at p
  split at p
  · rename_i z i
    cases rv
    cases rw'
    split at p
    · rename_i hi
      exact ⟨z, i, rfl, rfl, .inl ⟨hi, p.here m _ (.str _)⟩⟩
    · split at p
      · rename_i hi
        exact ⟨z, i, rfl, rfl, .inr ⟨hi, p.here m _ (.str _)⟩⟩
      · exact p.elim
  · exact p.elim
section
variable {X : Cx} {Z : WX} {a b e : Expr} {f g : ES} {fa : EA} {pos apos cpos : Pos} {k : Nat}
theorem se_mulT (ha : SE X Z a f) (hb : SE X Z b g) : SE X Z (.BinOp a .Mult b pos) (eBin oMulT f g) := se_bin op_mulT bv_mulT ha hb
def strsOf : List D → Option (List Str)
  | [] => some []
  | .str x :: r => (strsOf r).map (x :: ·)
  | _ :: _ => none
def oJoin : D → D → Mem → R D := fun x y M => match x with
  | .str a => match (seqOf M y).bind strsOf with
    | some ys => if (ys.map (·.length)).sum + ys.length * a.length ≤ 1000000 then .ok (.str (Txt.join a ys)) M else .bad
    | none => .bad
  | _ => .bad
def eJoin (f g : ES) : ES := fun b s M => (f b s M).bind fun x M1 => match x with
  | .str a => (g b s M1).bind fun y M2 => oJoin (.str a) y M2
  | _ => .bad
theorem strs_read {G : Gm} {H : Hp} {W : Wd} : ∀ {ds : List D} {vs : List V} {xs : List Str}, RDs G H W ds vs → strsOf ds = some xs → vs = xs.map V.str
  | _, _, xs, .nil, h => by
    have h : some [] = some xs := h
    cases h
    rfl
  | _, _, xs, .cons (d := d) r rs, h => by
    cases d with
    | str x =>
      cases r
      rename_i ds vs
      have h : (strsOf ds).map (x :: ·) = some xs := h
      rw [Option.map_eq_some_iff] at h
      obtain ⟨zs, h1, rfl⟩ := h
      rw [strs_read rs h1]
      rfl
    | _ => cases h
theorem se_join (ho : SE X Z a f) (he : SE X Z e g) (hs : starEach [e] X.env = [(false, eval e X.env)] := by rfl) (hbase : attributeBase a "join" X.env (eval a X.env) = eval a X.env := by rfl) (hline : (apos.endLine == pos.line) = true := by rfl) :
    SE X Z (.Call (.Attribute a "join" apos) [e] [] pos) (eJoin f g) := by
  refine (pe_join ho he hs hbase hline).weak fun σ H Q ⟨W, s, M, m, sr, po⟩ => ?_
  refine ⟨W, s, M, m, sr, (Post.bind po).imp fun x M1 W1 H1 x1 m1 p1 v rv => ?_⟩
  split at p1
  · rename_i a
    cases rv
    refine ⟨⟨a, rfl⟩, W1, s, M1, m1, sr.mono x1.toLe, ?_⟩
    have b1 : W1.b = W.b := x1.b
    rw [b1]
    refine (Post.bind p1).imp fun y M2 W2 H2 x2 m2 p2 w rw' => ?_
    unfold oJoin at p2
    simp only at p2
    cases hq : seqOf M2 y with
    | none => rw [hq] at p2; exact p2.elim
    | some ds =>
      rw [hq] at p2
      simp only [Option.bind_some] at p2
      cases hx : strsOf ds with
      | none => rw [hx] at p2; exact p2.elim
      | some ys =>
        rw [hx] at p2
        simp only at p2
        split at p2
        · rename_i hlen
          obtain ⟨b, vs, rfl, h1, h2⟩ := seq_read m2 hq rw'
          rw [strs_read h2 hx] at h1
          exact ⟨a, b, ys, rfl, rfl, h1, Nat.le_trans hlen (by decide), p2.here m2 _ (.str _)⟩
        · exact p2.elim
  · exact p1.elim
end
section
variable {X : Cx} {Z : WX} {a e : Expr} {f : ES} {fa : EA} {k : Nat}
end
end LW
namespace LW
open PySem PySem.Spec PyProof.Rows L2
section
variable {X : Cx} {Z : WX} {p pos : Pos} {a b : Expr} {f g : ES} {fs : EA} {k : Nat}
end
end LW
namespace LW
open PySem PySem.Spec PyProof.Rows L2
def oAddN : D → D → Mem → R D := fun x y M => match x, y with
  | .int i, .int j => .ok (.int (i + j)) M
  | .bl a, .int j => .ok (.int ((if a = true then (1 : Int) else 0) + j)) M
  | _, _ => .bad
def oSubN : D → D → Mem → R D := fun x y M => match x, y with
  | .int i, .int j => .ok (.int (i - j)) M
  | .bl a, .int j => .ok (.int ((if a = true then (1 : Int) else 0) - j)) M
  | .int i, .bl b => .ok (.int (i - (if b = true then (1 : Int) else 0))) M
  | _, _ => .bad
def bStr : List D → Mem → R D := fun xs M => match xs with
  | [.int i] => if i.natAbs.log2 < 1920 then .ok (.str (toString i)) M else .bad
  | [.bl b] => .ok (.str (if b then "True" else "False")) M
  | _ => .bad
section
variable {X : Cx} {Z : WX} {p pos : Pos} {a b : Expr} {f g : ES} {fs : EA} {k : Nat}
theorem cr_str : CallR X (.type "str") (fun xs H Q => (∃ i, xs = [.int i] ∧ i.natAbs.log2 < 1920 ∧ Q (.str (toString i)) H) ∨ ∃ b, xs = [.bl b] ∧ Q (.str (if b then "True" else "False")) H) := by
  intro pins s σ H xs us Q I r h
  rcases h with ⟨i, rfl, hz, q⟩ | ⟨b, rfl, q⟩
  · obtain ⟨u, rfl, t, rfl⟩ := vals1 r
    exact PySem.P.str_of_int hz ⟨.str _, H, I.tok _, ⟨_, rfl⟩, q⟩
  · obtain ⟨u, rfl, ru⟩ := vals1 r
    cases ru
    exact PySem.P.str_of_bool ⟨.str _, H, I.tok _, ⟨_, rfl⟩, q⟩
theorem se_str1 (hg : Gl X "str") (hm : X.mg "str" = none) (ha : SA X Z [a] fs) (he : starEach [a] X.env = (false, eval a X.env) :: starEach [] X.env := by rfl) : SE X Z (.Call (.Name "str" p) [a] [] pos) (eFn bStr fs) := se_callTy cr_str (by
  intro xs M W H vs Z t Q m rs po
  unfold bStr at po
  split at po
  · obtain ⟨v, rfl, rv⟩ := rds1 rs
    cases rv
    split at po
    · rename_i hz
      exact .inl ⟨_, rfl, hz, Post.here po m _ (.str _)⟩
    · exact po.elim
  · obtain ⟨v, rfl, rv⟩ := rds1 rs
    cases rv
    exact .inr ⟨_, rfl, Post.here po m _ (.str _)⟩
  · exact po.elim) hg hm boot_str ha (by decide) (by decide) he rfl
end
@[simp] theorem r_addN {i j : Int} {M : Mem} : oAddN (.int i) (.int j) M = .ok (.int (i + j)) M := id rfl
@[simp] theorem r_subN {i j : Int} {M : Mem} : oSubN (.int i) (.int j) M = .ok (.int (i - j)) M := id rfl
end LW
namespace LW
open PySem L2
def RS.sq (r : RS) (k : Slots → Mem → RS) : RS := match r with
  | .nx s M => k s M
  | r => r
@[simp] theorem sq_nx (s : Slots) (M : Mem) (k : Slots → Mem → RS) : (RS.nx s M).sq k = k s M := id rfl
@[simp] theorem sq_rt (d : D) (M : Mem) (k : Slots → Mem → RS) : (RS.rt d M).sq k = .rt d M := id rfl
@[simp] theorem sq_bk (s : Slots) (M : Mem) (k : Slots → Mem → RS) : (RS.bk s M).sq k = .bk s M := id rfl
@[simp] theorem sq_ct (s : Slots) (M : Mem) (k : Slots → Mem → RS) : (RS.ct s M).sq k = .ct s M := id rfl
/-- of a fit size -/
def lim {α : Type} (n : Nat) (r : R α) : R α := if n ≤ 1000000 then r else .bad
@[simp] theorem lim_ok {α : Type} {n : Nat} {r : R α} (h : n ≤ 1000000) : lim n r = r := by
  unfold lim
  rw [if_pos h]
section
variable {b : Nat} {s : Slots} {M : Mem} {f g h : ES} {fa : EA} {c u : ET} {o o' : D → D → Mem → R D} {t w : SS}
@[simp] theorem r_var (i : Nat) : eVar i b s M = (match s[i]? with | some (some d) => .ok d M | _ => .bad) := id rfl
@[simp] theorem r_c (d : D) : eC d b s M = .ok d M := id rfl
@[simp] theorem r_bin : eBin o f g b s M = (f b s M).bind fun x M1 => (g b s M1).bind fun y M2 => o x y M2 := id rfl
@[simp] theorem r_un (o : D → Mem → R D) : eUn o f b s M = (f b s M).bind fun x M1 => o x M1 := id rfl
@[simp] theorem r_anil : aNil b s M = .ok [] M := id rfl
@[simp] theorem r_acons : aCons f fa b s M = (f b s M).bind fun x M1 => (fa b s M1).bind fun xs M2 => .ok (x :: xs) M2 := id rfl
@[simp] theorem r_tup : eTup fa b s M = (fa b s M).bind fun xs M1 => lim xs.length (.ok (.tup xs) M1) := id rfl
@[simp] theorem r_nlst : nLst fa b s M = (fa b s M).bind fun xs M1 => lim xs.length (.ok xs M1) := id rfl
@[simp] theorem r_frz (f : EN) : eFrz f b s M = (f b s M).bind fun xs M1 => .ok (.lst xs) M1 := id rfl
@[simp] theorem r_thw (f : EN) : eThw f b s M = (f b s M).bind fun xs M1 => .ok (.ref M1.length) (M1 ++ [.lst xs]) := id rfl
@[simp] theorem r_call (φ : Fn) : eCall φ fa b s M = (fa b s M).bind fun ds M1 => φ ds M1 := id rfl
@[simp] theorem r_fn (φ : List D → Mem → R D) : eFn φ fa b s M = (fa b s M).bind fun ds M1 => φ ds M1 := id rfl
@[simp] theorem r_if : eIf c f g b s M = (c b s M).bind fun k M1 => if k = true then f b s M1 else g b s M1 := id rfl
@[simp] theorem r_and : eAnd f g b s M = (f b s M).bind fun x M1 => match x with | .bl k => if k = true then g b s M1 else .ok (.bl false) M1 | _ => .bad := id rfl
@[simp] theorem r_or : eOr f g b s M = (f b s M).bind fun x M1 => match x with | .bl k => if k = true then .ok (.bl true) M1 else g b s M1 | _ => .bad := id rfl
@[simp] theorem r_chain : eChain o o' f g h b s M = (f b s M).bind fun x M1 => (g b s M1).bind fun y M2 => (o x y M2).bind fun z M3 => match z with
  | .bl k => if k = true then (h b s M3).bind fun w M4 => o' y w M4 else .ok (.bl false) M3
  | _ => .bad := id rfl
@[simp] theorem r_tval : tVal f b s M = (f b s M).bind fun x M1 => match x with | .bl k => .ok k M1 | _ => .bad := id rfl
@[simp] theorem r_tand : tAnd c u b s M = (c b s M).bind fun k M1 => if k = true then u b s M1 else .ok false M1 := id rfl
@[simp] theorem r_tor : tOr c u b s M = (c b s M).bind fun k M1 => if k = true then .ok true M1 else u b s M1 := id rfl
@[simp] theorem r_tnot : tNot c b s M = (c b s M).bind fun k M1 => .ok (!k) M1 := id rfl
@[simp] theorem r_ttrue : tTrue b s M = .ok true M := id rfl
@[simp] theorem r_not (k : Bool) : oNot (.bl k) M = .ok (.bl (!k)) M := id rfl
@[simp] theorem r_addI (i j : Int) : oAdd (.int i) (.int j) M = .ok (.int (i + j)) M := id rfl
@[simp] theorem r_addI' (i j : Int) : oAddI (.int i) (.int j) M = .ok (.int (i + j)) M := id rfl
@[simp] theorem r_subI (i j : Int) : oSub (.int i) (.int j) M = .ok (.int (i - j)) M := id rfl
@[simp] theorem r_lt (i j : Int) : oLt (.int i) (.int j) M = .ok (.bl (decide (i < j))) M := id rfl
@[simp] theorem r_le (i j : Int) : oLe (.int i) (.int j) M = .ok (.bl (decide (i ≤ j))) M := id rfl
@[simp] theorem r_gt (i j : Int) : oGt (.int i) (.int j) M = .ok (.bl (decide (j < i))) M := id rfl
@[simp] theorem r_ge (i j : Int) : oGe (.int i) (.int j) M = .ok (.bl (decide (j ≤ i))) M := id rfl
@[simp] theorem r_neg (i : Int) : oNeg (.int i) M = .ok (.int (-i)) M := id rfl
@[simp] theorem r_isN (x : D) : oIsN x .non M = .ok (.bl (isNon x)) M := id rfl
@[simp] theorem r_isntN (x : D) : oIsntN x .non M = .ok (.bl (!isNon x)) M := id rfl
theorem r_mul {i j : Int} (h : mulOk i j = true) : oMul (.int i) (.int j) M = .ok (.int (i * j)) M := by
  show (if mulOk i j then _ else _) = _
  rw [if_pos h]
theorem r_mod {i j : Int} (h : 0 < j) : oMod (.int i) (.int j) M = .ok (.int (i % j)) M := by
  show (if 0 < j then _ else _) = _
  rw [if_pos h]
theorem log_small {j : Int} (h : -(2 ^ 200) < j) (h2 : j < 2 ^ 200) : j.natAbs.log2 < 8000 := by
  have h3 : j.natAbs < 2 ^ 200 := by omega
  refine Nat.lt_of_lt_of_le ?_ (by decide : 200 ≤ 8000)
  by_cases z : j.natAbs = 0
  · rw [z]; decide
  · exact (Nat.log2_lt z).mpr h3
theorem r_div {i j : Int} (h : 0 < j) (h2 : j < 2 ^ 200) : oDiv (.int i) (.int j) M = .ok (.int (i / j)) M := by
  have h4 := log_small (j := j) (by omega) h2
  show (if 0 < j ∧ j.natAbs.log2 < 8000 then _ else _) = _
  rw [if_pos ⟨h, h4⟩]
theorem r_divmod {i j : Int} (h : 0 < j) (h2 : j < 2 ^ 200) : bDivmod [.int i, .int j] M = .ok (.tup [.int (i / j), .int (i % j)]) M := by
  have h4 := log_small (j := j) (by omega) h2
  show (if 0 < j ∧ j.natAbs.log2 < 8000 then _ else _) = _
  rw [if_pos ⟨h, h4⟩]
theorem mul_l {i j : Int} (h1 : -(2 ^ 64) < i) (h2 : i < 2 ^ 64) : mulOk i j = true := by
  unfold mulOk small
  rw [decide_eq_true ⟨h1, h2⟩]
  rfl
theorem mul_r {i j : Int} (h1 : -(2 ^ 64) < j) (h2 : j < 2 ^ 64) : mulOk i j = true := by
  unfold mulOk small
  rw [decide_eq_true (p := -(2 ^ 64) < j ∧ j < 2 ^ 64) ⟨h1, h2⟩]
  simp
@[simp] theorem r_cut (lo hi : EP') : eCut f lo hi b s M = (f b s M).bind fun x M1 => (lo b s M1).bind fun l M2 => (hi b s M2).bind fun h M3 => oCut x l h M3 := id rfl
@[simp] theorem r_pno : pNo b s M = .ok none M := id rfl
@[simp] theorem r_pof : pOf f b s M = (f b s M).bind fun x M1 => match x with | .int i => .ok (some i) M1 | _ => .bad := id rfl
@[simp] theorem r_nlist : nListOf fa b s M = (fa b s M).bind fun xs M1 => match xs with
  | [x] => match seqOf M1 x with
    | some ys => .ok ys M1
    | none => .bad
  | _ => .bad := id rfl
@[simp] theorem r_nx : sNx b s M = .nx s M := id rfl
@[simp] theorem r_seq : sSeq t w b s M = (t b s M).sq (w b) := id rfl
@[simp] theorem r_expr : sExpr f b s M = (f b s M).toS s fun _ M1 => .nx s M1 := id rfl
@[simp] theorem r_ret : sRet f b s M = (f b s M).toS s fun d M1 => .rt d M1 := id rfl
@[simp] theorem r_retN : sRetN b s M = .rt .non M := id rfl
@[simp] theorem r_brk : sBrk b s M = .bk s M := id rfl
@[simp] theorem r_cnt : sCnt b s M = .ct s M := id rfl
@[simp] theorem r_set (i : Nat) : sSet i f b s M = (f b s M).toS s fun d M1 => .nx (s.set i (some d)) M1 := id rfl
@[simp] theorem r_sif : sIf c t w b s M = (c b s M).toS s fun k M1 => if k = true then t b s M1 else w b s M1 := id rfl
@[simp] theorem r_asg (gg : EG) : sAsg f gg b s M = (f b s M).toS s fun d M1 => match gg b d s M1 with | some (s2, M2) => .nx s2 M2 | none => .bad := id rfl
@[simp] theorem r_par (is : List Nat) : sPar is fa b s M = (fa b s M).toS s fun ds M1 => match setAll is ds s with | some s2 => .nx s2 M1 | none => .bad := id rfl
@[simp] theorem r_for (it : EI) (tg : Tg) : sFor it tg t b s M = (it b s M).toS s fun p M1 => forL b p.2 M1 tg t p.1 s M1 := id rfl
@[simp] theorem r_meth (op : Nat → D → List D → Mem → R D) : eMethL op f fa b s M = (f b s M).bind fun x M1 => match lstOf M1 x with | some _ => (fa b s M1).bind fun ds M2 => op b x ds M2 | none => .bad := id rfl
end
section
variable {M : Mem} {s : Slots} {n : Nat}
@[simp] theorem r_setAll0 : setAll [] [] s = some s := id rfl
@[simp] theorem r_setAll (i : Nat) (is : List Nat) (d : D) (ds : List D) : setAll (i :: is) (d :: ds) s = setAll is ds (s.set i (some d)) := id rfl
@[simp] theorem r_abs (i : Int) : bAbs [.int i] M = .ok (.int (if i < 0 then -i else i)) M := id rfl
@[simp] theorem r_intI (i : Int) : bInt [.int i] M = .ok (.int i) M := id rfl
@[simp] theorem r_intB (k : Bool) : bInt [.bl k] M = .ok (.int (if k then 1 else 0)) M := id rfl
@[simp] theorem n_non : isNon .non = true := id rfl
@[simp] theorem n_bl (k : Bool) : isNon (.bl k) = false := id rfl
@[simp] theorem n_int (k : Int) : isNon (.int k) = false := id rfl
@[simp] theorem n_str (k : Str) : isNon (.str k) = false := id rfl
@[simp] theorem n_tup (k : List D) : isNon (.tup k) = false := id rfl
@[simp] theorem n_lst (k : List D) : isNon (.lst k) = false := id rfl
@[simp] theorem n_ref (k : Nat) : isNon (.ref k) = false := id rfl
@[simp] theorem g_ref (k : Nat) : gdOf (.ref k) = [k] := id rfl
@[simp] theorem g_tup (k : List D) : gdOf (.tup k) = [] := id rfl
@[simp] theorem g_lst (k : List D) : gdOf (.lst k) = [] := id rfl
@[simp] theorem g_scr (k : List Int) : gdOf (.scr k) = [] := id rfl
@[simp] theorem t_nm (i : Nat) (d : D) : bindT M (.nm i) d s = some (s.set i (some d)) := by unfold bindT; rfl
@[simp] theorem t_tp (ts : List Tg) (d : D) : bindT M (.tp ts) d s = (match seqOf M d with | some xs => bindTs M ts xs s | none => none) := by
  (conv => lhs; unfold bindT) <;> rfl
@[simp] theorem t_nil : bindTs M [] [] s = some s := by unfold bindTs; rfl
@[simp] theorem t_cons (t : Tg) (ts : List Tg) (d : D) (ds : List D) : bindTs M (t :: ts) (d :: ds) s = (bindT M t d s).bind fun s1 => bindTs M ts ds s1 := by
  (conv => lhs; unfold bindTs) <;> rfl
@[simp] theorem w_non : below n .non = true := by simp [below]
@[simp] theorem w_bl (k : Bool) : below n (.bl k) = true := by simp [below]
@[simp] theorem w_int (k : Int) : below n (.int k) = true := by simp [below]
@[simp] theorem w_str (k : Str) : below n (.str k) = true := by simp [below]
@[simp] theorem w_scr (k : List Int) : below n (.scr k) = true := by simp [below]
@[simp] theorem w_tup (k : List D) : below n (.tup k) = belows n k := by simp [below]
@[simp] theorem w_lst (k : List D) : below n (.lst k) = belows n k := by simp [below]
@[simp] theorem w_ref (k : Nat) : below n (.ref k) = decide (k < n) := by simp [below]
@[simp] theorem w_nil : belows n [] = true := by simp [belows]
@[simp] theorem w_cons (d : D) (ds : List D) : belows n (d :: ds) = (below n d && belows n ds) := by
  (conv => lhs; unfold belows) <;> rfl
end
@[simp] theorem q_tup (M : Mem) (xs : List D) : seqOf M (.tup xs) = some xs := id rfl
@[simp] theorem q_lst (M : Mem) (xs : List D) : seqOf M (.lst xs) = some xs := id rfl
@[simp] theorem q_scr (M : Mem) (ns : List Int) : seqOf M (.scr ns) = some (ns.map .int) := id rfl
@[simp] theorem q_ref (M : Mem) (h : Nat) : seqOf M (.ref h) = (match M[h]? with | some (.lst xs) => some xs | _ => none) := id rfl
@[simp] theorem l_lst (M : Mem) (xs : List D) : lstOf M (.lst xs) = some xs := id rfl
@[simp] theorem l_ref (M : Mem) (h : Nat) : lstOf M (.ref h) = (match M[h]? with | some (.lst xs) => some xs | _ => none) := id rfl
@[simp] theorem ix0 {α : Type} (x : α) (xs : List α) : atI (x :: xs) 0 = some x := by simp [atI, ixN]
@[simp] theorem ix1 {α : Type} (x y : α) (xs : List α) : atI (x :: y :: xs) 1 = some y := by
  unfold atI ixN
  rw [if_pos (by decide), if_pos (by simp; omega)]
  rfl
@[simp] theorem ix2 {α : Type} (x y z : α) (xs : List α) : atI (x :: y :: z :: xs) 2 = some z := by
  unfold atI ixN
  rw [if_pos (by decide), if_pos (by simp; omega)]
  rfl
theorem ix_nat {α : Type} {xs : List α} {i : Int} (h0 : 0 ≤ i) (h1 : i < xs.length) : atI xs i = some (xs[i.toNat]'(by omega)) := by
  unfold atI ixN
  rw [if_pos h0, if_pos h1]
  simp
@[simp] theorem r_ix (x : D) (i : Int) (M : Mem) : oIx x (.int i) M = (match seqOf M x with | some xs => (match atI xs i with | some d => .ok d M | none => .bad) | none => .bad) := id rfl
@[simp] theorem r_pow7 (M : Mem) : oPow (.int 10) (.int 7) M = .ok (.int 10000000) M := id rfl
@[simp] theorem r_pow18 (M : Mem) : oPow (.int 10) (.int 18) M = .ok (.int 1000000000000000000) M := id rfl
@[simp] theorem r_pow6 (M : Mem) : oPow (.int 10) (.int 6) M = .ok (.int 1000000) M := id rfl
@[simp] theorem r_pow15 (M : Mem) : oPow (.int 10) (.int 15) M = .ok (.int 1000000000000000) M := id rfl
/-- o[i] = .. -/
theorem r_setIx {b h : Nat} {xs : List D} {i : Int} {v : D} {M : Mem} (hc : M[h]? = some (.lst xs)) (h0 : 0 ≤ i) (h1 : i < xs.length) (hb : b ≤ h ∨ below 0 v = true) : setIx b (.ref h) (.int i) v M = some (M.set h (.lst (xs.set i.toNat v))) := by
  unfold setIx
  simp only [hc]
  have : ixN xs.length i = some i.toNat := by
    unfold ixN
    rw [if_pos h0, if_pos h1]
  simp only [this]
  rw [if_pos hb]
/-- a def that hands back plain data -/
theorem mk_rt {np nn : Nat} {body : SS} {ds : List D} {M M' : Mem} {d : D} (hl : ds.length = np) (hb : body M.length (ds.map some ++ List.replicate (nn - np) none) M = .rt d M') (hd : below M.length d = true) : mkFn false np nn body ds M = .ok d (M'.take M.length) := by
  unfold mkFn
  rw [if_pos hl, hb]
  unfold runFn leave
  simp [hd]
/-- one that hands back a list of its own -/
theorem mk_frz {np nn : Nat} {body : SS} {ds xs : List D} {M M' : Mem} {h : Nat} (hl : ds.length = np) (hb : body M.length (ds.map some ++ List.replicate (nn - np) none) M = .rt (.ref h) M') (hh : M.length ≤ h) (hc : M'[h]? = some (.lst xs)) (hx : ∀ x ∈ xs, ∃ i, x = .int i) :
    mkFn false np nn body ds M = .ok (.lst xs) (M'.take M.length) := by
  unfold mkFn
  rw [if_pos hl, hb]
  have e : ∀ k, xs.mapM (frz M' M.length (k + 1)) = some xs := fun k => by
    have key : ∀ ys : List D, (∀ x ∈ ys, ∃ i, x = .int i) → ys.mapM (frz M' M.length (k + 1)) = some ys := by
      intro ys
      induction ys with
      | nil => intro _; rfl
      | cons y ys ih =>
        intro hy
        obtain ⟨i, rfl⟩ := hy y (by simp)
        rw [List.mapM_cons, ih fun x hx => hy x (by simp [hx])]
        rfl
    exact key xs hx
  unfold runFn leave
  have nb : below M.length (.ref h) = false := by simp [below]; omega
  simp only [nb, Bool.false_eq_true, if_false]
  unfold frz
  rw [if_neg (by omega)]
  simp only [hc, e]
  rfl
end LW
namespace LW
open PySem L2
section
variable {b : Nat} {s : Slots} {M : Mem} {f g h : ES} {fa : EA}
@[simp] theorem r_fld (c x : Str) : eFld c x g b s M = (g b s M).bind fun d M1 => match d with
  | .ref h => match M1[h]? with
    | some (.ins c' fs) => if c' = c then (match fs.lookup x with | some d => .ok d M1 | none => .bad) else .bad
    | _ => .bad
  | _ => .bad := id rfl
@[simp] theorem r_fldS (c x : Str) : sFldS c x g h b s M = (h b s M).toS s fun d M1 => (g b s M1).toS s fun y M2 => match y with
  | .ref h => match M2[h]? with
    | some (.ins c' fs) => if c' = c ∧ fs.length < 1000 ∧ stOk b h d = true then .nx s (M2.set h (.ins c' (putD x d fs))) else .bad
    | _ => .bad
  | _ => .bad := id rfl
@[simp] theorem r_mth (c m : Str) (φ : Fn) : eMth c m φ g fa b s M = (g b s M).bind fun x M1 => match x with
  | .ref h => match M1[h]? with
    | some (.ins c' fs) => if c' = c ∧ fs.lookup m = none then (fa b s M1).bind fun ds M2 => φ (.ref h :: ds) M2 else .bad
    | _ => .bad
  | _ => .bad := id rfl
@[simp] theorem r_new (c : Str) (φ : Fn) : eNew c φ fa b s M = (fa b s M).bind fun ds M1 => match φ (.ref M1.length :: ds) (M1 ++ [.ins c []]) with
  | .ok .non M2 => .ok (.ref M1.length) M2
  | _ => .bad := id rfl
@[simp] theorem r_dget : eDget f g b s M = (f b s M).bind fun x M1 => (g b s M1).bind fun y M2 => match keyOf y, dctOf M2 x with
  | some k, some p => (match valD k p.1 p.2 with | some d => .ok d M2 | none => .bad)
  | _, _ => .bad := id rfl
@[simp] theorem r_dput : sDput f g h b s M = (h b s M).toS s fun v M1 => (f b s M1).toS s fun x M2 => (g b s M2).toS s fun y M3 => match x, keyOf y with
  | .ref h, some k => match M3[h]? with
    | some (.dct ks ds) => if ks.length < 1000000 ∧ stOk b h v = true then .nx s (M3.set h (.dct (putKD k v ks ds).1 (putKD k v ks ds).2)) else .bad
    | _ => .bad
  | _, _ => .bad := id rfl
@[simp] theorem r_dct1 : eDct1 f g b s M = (f b s M).nox.bind fun x M1 => (g b s M1).nox.bind fun y M2 => match keyOf x with
  | some k => .ok (.ref M2.length) (M2 ++ [.dct [k] [y]])
  | none => .bad := id rfl
@[simp] theorem r_keyI (i : Int) : keyOf (.int i) = some (.inl i) := id rfl
@[simp] theorem r_dctD (ks : List Key) (vs : List D) : dctOf M (.dct ks vs) = some (ks, vs) := id rfl
@[simp] theorem r_dctR (h : Nat) : dctOf M (.ref h) = (match M[h]? with | some (.dct ks vs) => some (ks, vs) | _ => none) := id rfl
@[simp] theorem r_items : iDItems f b s M = (f b s M).bind fun x M1 => match x with
  | .dct ks vs => .ok (itemsD ks vs, []) M1
  | _ => .bad := id rfl
@[simp] theorem r_nrange : nRange f b s M = (f b s M).bind fun x M1 => match x with
  | .int n => if 0 ≤ n ∧ n ≤ 1000 then .ok ((List.range n.toNat).map fun (i : Nat) => D.int (i : Int)) M1 else .bad
  | _ => .bad := id rfl
end
theorem put_new {k : Key} {v : D} {ks : List Key} {ds : List D} (h : ∀ x ∈ ks, x ≠ k) : putKD k v ks ds = (ks ++ [k], ds ++ [v]) := by
  unfold putKD
  rw [if_neg]
  intro z
  obtain ⟨x, hx, e⟩ := List.any_eq_true.mp z
  exact h x hx (of_decide_eq_true e)
end LW
namespace LW
open PySem L2
noncomputable def b_law_box : SS := sSeq (sSet 2 (eIf (tVal (eBin oLt (eVar 1) (eFn bLen (aCons (eVar 0) (aNil))))) (eBin oIx (eVar 0) (eVar 1)) (eC (.int 0))))
  (sRet (eThw (nLst (aCons (eBin oMul (eFn bAbs (aCons (eVar 2) (aNil))) (eFn bInt (aCons (eBin oGe (eFn bAbs (aCons (eVar 2) (aNil))) (eBin oPow (eC (.int 10)) (eC (.int 18)))) (aNil)))) (aCons (eBin oMod (eBin oMul (eBin oAdd (eBin oAdd (eBin oMod (eVar 2) (eC (.int 2147483629))) (eBin oMul (eC (.int 15485863)) (eVar 1))) (eC (.int 43))) (eC (.int 48271))) (eC (.int 2147483647))) (aCons (eC (.int 0)) (aNil)))))))
noncomputable def f_law_box : Fn := mkFn true 2 3 b_law_box
noncomputable def b_law_take (self : Fn) : SS := sSeq (sIf (tVal (eBin oGt (eBin oIx (eVar 0) (eC (.int 0))) (eC (.int 0)))) (sSeq (sAsg (eFn bDivmod (aCons (eBin oIx (eVar 0) (eC (.int 0))) (aCons (eVar 1) (aNil)))) (gTup (gsCons (gIx (eVar 0) (eC (.int 0))) (gsCons (gT (.nm 2)) (gsNil)))))
  (sRet (eVar 2))) (sNx))
  (sSeq (sIf (tVal (eBin oGt (eVar 1) (eBin oPow (eC (.int 10)) (eC (.int 7))))) (sRet (eBin oMod (eBin oAdd (eCall self (aCons (eVar 0) (aCons (eBin oPow (eC (.int 10)) (eC (.int 7))) (aNil)))) (eBin oMul (eBin oPow (eC (.int 10)) (eC (.int 7))) (eCall self (aCons (eVar 0) (aCons (eBin oAdd (eBin oDiv (eBin oSub (eVar 1) (eC (.int 1))) (eBin oPow (eC (.int 10)) (eC (.int 7)))) (eC (.int 1))) (aNil)))))) (eVar 1))) (sNx))
  (sSeq (sAsg (eBin oAdd (eBin oIx (eVar 0) (eC (.int 2))) (eC (.int 1))) (gIx (eVar 0) (eC (.int 2))))
  (sSeq (sSet 3 (eBin oAdd (eC (.int 69621)) (eBin oMul (eBin oIx (eVar 0) (eC (.int 2))) (eBin oIx (eVar 0) (eC (.int 2))))))
  (sSeq (sSet 4 (eBin oMod (eBin oMul (eBin oAdd (eBin oIx (eVar 0) (eC (.int 1))) (eBin oMul (eC (.int 39373)) (eBin oIx (eVar 0) (eC (.int 2))))) (eVar 3)) (eC (.int 2147483587))))
  (sSeq (sSet 5 (eBin oMod (eBin oAdd (eBin oMul (eVar 4) (eBin oAdd (eBin oMod (eVar 4) (eC (.int 30011))) (eC (.int 5)))) (eBin oIx (eVar 0) (eC (.int 2)))) (eC (.int 2147483563))))
  (sRet (eBin oMod (eBin oDiv (eBin oMod (eBin oMul (eVar 5) (eBin oAdd (eBin oMod (eVar 5) (eC (.int 1013))) (eC (.int 3)))) (eC (.int 998244353))) (eC (.int 16))) (eVar 1))))))))
noncomputable def f_law_take : Nat → Fn
  | 0 => fun _ _ => .bad
  | n + 1 => mkFn false 2 6 (b_law_take (f_law_take n))
noncomputable def b_law_folded : SS := sSeq (sSet 2 (eThw (nListOf (aCons (eCut (eVar 0) (pNo) (pOf (eVar 1))) (aNil)))))
  (sSeq (sFor (iEnum (aCons (eCut (eVar 0) (pOf (eVar 1)) (pOf (eC (.int 63)))) (aNil))) (.tp [.nm 3, .nm 4]) (sAsg (eBin oAdd (eBin oIx (eVar 2) (eBin oMod (eVar 3) (eVar 1))) (eBin oMul (eVar 4) (eBin oAdd (eVar 3) (eC (.int 2))))) (gIx (eVar 2) (eBin oMod (eVar 3) (eVar 1)))))
  (sRet (eVar 2)))
noncomputable def f_law_folded : Fn := mkFn false 2 5 b_law_folded
noncomputable def b_law_same (self : Fn) : SS := sSeq (sIf (tVal (eUn (oIsi ["list", "tuple"]) (eVar 1))) (sSeq (sIf (tOr (tVal (eBin oNe (eUn (oIsi ["list"]) (eVar 0)) (eUn (oIsi ["list"]) (eVar 1)))) (tVal (eBin oNe (eUn (oIsi ["tuple"]) (eVar 0)) (eUn (oIsi ["tuple"]) (eVar 1))))) (sRet (eC (.bl false))) (sNx))
  (sRet (eAnd (eBin oEq (eFn bLen (aCons (eVar 0) (aNil))) (eFn bLen (aCons (eVar 1) (aNil)))) (eFn bAll (aCons (eFrz (nComp (iZip false (aCons (eVar 0) (aCons (eVar 1) (aNil)))) [2, 3] (.tp [.nm 2, .nm 3]) (tTrue) (eCall self (aCons (eVar 2) (aCons (eVar 3) (aNil)))))) (aNil)))))) (sNx))
  (sSeq (sIf (tOr (tVal (eBin oIsN (eVar 1) (eC .non))) (tVal (eUn (oIsi ["str"]) (eVar 1)))) (sRet (eAnd (eBin oEq (eVar 0) (eVar 1)) (eBin oEq (eUn (oIsi ["str"]) (eVar 0)) (eUn (oIsi ["str"]) (eVar 1))))) (sNx))
  (sRet (eAnd (eUn (oIsi ["int"]) (eVar 0)) (eAnd (eBin oEq (eUn (oIsi ["bool"]) (eVar 0)) (eUn (oIsi ["bool"]) (eVar 1))) (eBin oEq (eVar 0) (eVar 1))))))
noncomputable def f_law_same : Nat → Fn
  | 0 => fun _ _ => .bad
  | n + 1 => mkFn false 2 4 (b_law_same (f_law_same n))
/-- a box of some room at h -/
def Box (M : Mem) (h n : Nat) : Prop := ∃ a b c : Int, M[h]? = some (.lst [.int a, .int b, .int c]) ∧ 0 ≤ a ∧ 0 ≤ b ∧ b < 2 ^ 31 ∧ 0 ≤ c ∧ c + n ≤ 2 ^ 40
theorem Box.mono {M : Mem} {h n m : Nat} (x : Box M h n) (q : m ≤ n) : Box M h m := by
  obtain ⟨a, b, c, h1, h2, h3, h4, h5, h6⟩ := x
  exact ⟨a, b, c, h1, h2, h3, h4, h5, by omega⟩
theorem Box.lt {M : Mem} {h n : Nat} (x : Box M h n) : h < M.length := by
  obtain ⟨a, b, c, h1, _⟩ := x
  exact lt_of_get h1
theorem take_set {M : Mem} {h : Nat} {c : Cell} : (M.set h c).take M.length = M.set h c := List.take_of_length_le (by simp)
/-- the n-th power of ten to the seventh -/
def tens : Nat → Int
  | 0 => 1
  | n + 1 => 10000000 * tens n
theorem take_one {self : Fn} {M : Mem} {h n : Nat} {size : Int} (x : Box M h (n + 1)) (h0 : 0 < size) (h2 : size < 2 ^ 200) (h1 : size ≤ 10000000 ∨ ∃ a b c, M[h]? = some (.lst [.int a, .int b, .int c]) ∧ 0 < a) :
    ∃ r M', mkFn false 2 6 (b_law_take self) [.ref h, .int size] M = .ok (.int r) M' ∧ 0 ≤ r ∧ r < size ∧ Box M' h n ∧ ∃ c, M' = M.set h c := by
  obtain ⟨a, b, c, e, ha, hb, hb2, hc, hn⟩ := x
  have hl := lt_of_get e
  by_cases hp : 0 < a
  · refine ⟨a % size, M.set h (.lst [.int (a / size), .int b, .int c]), ?_, Int.emod_nonneg _ (by omega), Int.emod_lt_of_pos _ h0, ?_, _, rfl⟩
    · refine Eq.trans (mk_rt (d := .int (a % size)) (M' := M.set h (.lst [.int (a / size), .int b, .int c])) rfl ?_ rfl) (by rw [take_set])
      have k1 : (0 : Int) < 3 := by decide
      have st : setIx M.length (.ref h) (.int 0) (.int (a / size)) M = some (M.set h (.lst [.int (a / size), .int b, .int c])) := r_setIx (xs := [.int a, .int b, .int c]) e (by decide) (by simp) (.inr rfl)
      simp [b_law_take, e, hp, r_divmod h0 h2, gTup, gsCons, gIx, gT, gsNil, st]
    · refine ⟨a / size, b, c, by simp [hl], Int.ediv_nonneg ha (by omega), hb, hb2, hc, by omega⟩
  · have ha0 : a = 0 := by omega
    have c1 : 0 < c + 1 := by omega
    have kc : c + 1 < 2 ^ 64 := by omega
    have M1e : (M.set h (.lst [.int a, .int b, .int (c + 1)]))[h]? = some (.lst [.int a, .int b, .int (c + 1)]) := by simp [hl]
    have st : setIx M.length (.ref h) (.int 2) (.int (c + 1)) M = some (M.set h (.lst [.int a, .int b, .int (c + 1)])) := r_setIx (xs := [.int a, .int b, .int c]) e (by decide) (by simp) (.inr rfl)
    have nb : ¬ (10000000 < size) := by
      rcases h1 with h1 | ⟨a', b', c', e', h1⟩
      · omega
      · rw [e] at e'
        cases e'
        exact absurd h1 hp
    obtain ⟨sp, hsp⟩ : ∃ z : Int, z = 69621 + (c + 1) * (c + 1) := ⟨_, rfl⟩
    obtain ⟨on, hon⟩ : ∃ z : Int, z = (b + 39373 * (c + 1)) * sp % 2147483587 := ⟨_, rfl⟩
    have on0 : 0 ≤ on := by rw [hon]; exact Int.emod_nonneg _ (by decide)
    have on1 : on < 2147483587 := by rw [hon]; exact Int.emod_lt_of_pos _ (by decide)
    obtain ⟨tw, htw⟩ : ∃ z : Int, z = (on * (on % 30011 + 5) + (c + 1)) % 2147483563 := ⟨_, rfl⟩
    have tw0 : 0 ≤ tw := by rw [htw]; exact Int.emod_nonneg _ (by decide)
    have tw1 : tw < 2147483563 := by rw [htw]; exact Int.emod_lt_of_pos _ (by decide)
    have m1 : ∀ M : Mem, oMul (.int (c + 1)) (.int (c + 1)) M = .ok (.int ((c + 1) * (c + 1))) M := fun M => r_mul (mul_l (by omega) kc)
    have m2 : ∀ M : Mem, oMul (.int 39373) (.int (c + 1)) M = .ok (.int (39373 * (c + 1))) M := fun M => r_mul (mul_l (by decide) (by decide))
    have m3 : ∀ M : Mem, oMul (.int (b + 39373 * (c + 1))) (.int sp) M = .ok (.int ((b + 39373 * (c + 1)) * sp)) M := fun M => r_mul (mul_l (by omega) (by omega))
    have m4 : ∀ (x : Int) (M : Mem), oMul (.int on) (.int x) M = .ok (.int (on * x)) M := fun x M => r_mul (mul_l (by omega) (by omega))
    have m5 : ∀ (x : Int) (M : Mem), oMul (.int tw) (.int x) M = .ok (.int (tw * x)) M := fun x M => r_mul (mul_l (by omega) (by omega))
    have d1 : ∀ (x : Int) (M : Mem), oMod (.int x) (.int 2147483587) M = .ok (.int (x % 2147483587)) M := fun x M => r_mod (by decide)
    have d2 : ∀ (x : Int) (M : Mem), oMod (.int x) (.int 2147483563) M = .ok (.int (x % 2147483563)) M := fun x M => r_mod (by decide)
    have d3 : ∀ (x : Int) (M : Mem), oMod (.int x) (.int 30011) M = .ok (.int (x % 30011)) M := fun x M => r_mod (by decide)
    have d4 : ∀ (x : Int) (M : Mem), oMod (.int x) (.int 1013) M = .ok (.int (x % 1013)) M := fun x M => r_mod (by decide)
    have d5 : ∀ (x : Int) (M : Mem), oMod (.int x) (.int 998244353) M = .ok (.int (x % 998244353)) M := fun x M => r_mod (by decide)
    have d6 : ∀ (x : Int) (M : Mem), oMod (.int x) (.int size) M = .ok (.int (x % size)) M := fun x M => r_mod h0
    have d7 : ∀ (x : Int) (M : Mem), oDiv (.int x) (.int 16) M = .ok (.int (x / 16)) M := fun x M => r_div (by decide) (by decide)
    refine ⟨tw * (tw % 1013 + 3) % 998244353 / 16 % size, M.set h (.lst [.int a, .int b, .int (c + 1)]), Eq.trans (mk_rt (d := .int (tw * (tw % 1013 + 3) % 998244353 / 16 % size)) (M' := M.set h (.lst [.int a, .int b, .int (c + 1)])) rfl ?_ rfl) (by rw [take_set]), Int.emod_nonneg _ (by omega), Int.emod_lt_of_pos _ h0, ⟨a, b, c + 1, M1e, ha, hb, hb2, by omega, by omega⟩, _, rfl⟩
    simp [b_law_take, e, hp, nb, gIx, st, M1e, m1, m2, m3, m4, m5, d1, d2, d3, d4, d5, d6, d7, ← hsp, ← hon, ← htw]
theorem tens_pos : ∀ n, 0 < tens n
  | 0 => by decide
  | n + 1 => by
    have := tens_pos n
    unfold tens
    omega
theorem tens_8 : ∀ n, n ≤ 8 → tens n < 2 ^ 200 := by decide
theorem take_spec : ∀ (k : Nat) {M : Mem} {h n : Nat} {size : Int}, k < 8 → Box M h (n + 2 ^ k) → 0 < size → size ≤ tens (k + 1) →
    ∃ r M', f_law_take (k + 1) [.ref h, .int size] M = .ok (.int r) M' ∧ 0 ≤ r ∧ r < size ∧ Box M' h n ∧ ∃ c, M' = M.set h c
  | 0, M, h, n, size, hk, x, h0, h1 => take_one (self := f_law_take 0) x h0 (Int.lt_of_le_of_lt h1 (tens_8 1 (by decide))) (.inl (by simpa [tens] using h1))
  | k + 1, M, h, n, size, hk, x, h0, h1 => by
    have e2 : 2 ^ (k + 1) = 2 ^ k + 2 ^ k := by rw [Nat.pow_succ]; omega
    have p2 : 0 < 2 ^ k := Nat.pow_pos (by decide)
    have hs : size < 2 ^ 200 := Int.lt_of_le_of_lt h1 (tens_8 (k + 2) (by omega))
    by_cases hsm : size ≤ 10000000
    · exact take_one (self := f_law_take (k + 1)) (x.mono (by omega)) h0 hs (.inl hsm)
    obtain ⟨a, b, c, e, ha, hb, hb2, hc, hn⟩ := id x
    by_cases hp : 0 < a
    · exact take_one (self := f_law_take (k + 1)) (x.mono (by omega)) h0 hs (.inr ⟨a, b, c, e, hp⟩)
    have t1 : (10000000 : Int) ≤ tens (k + 1) := by
      have := tens_pos k
      show (10000000 : Int) ≤ 10000000 * tens k
      omega
    have t2 : tens (k + 1 + 1) = 10000000 * tens (k + 1) := rfl
    obtain ⟨r1, M1, q1, r10, r11, x1, c1, rfl⟩ := take_spec k (M := M) (h := h) (n := n + 2 ^ k) (size := 10000000) (by omega) (by rw [Nat.add_assoc, ← e2]; exact x) (by decide) t1
    obtain ⟨r2, M2, q2, r20, r21, x2, c2, rfl⟩ := take_spec k (M := M.set h c1) (h := h) (n := n) (size := (size - 1) / 10000000 + 1) (by omega) x1 (by omega) (by omega)
    refine ⟨(r1 + 10000000 * r2) % size, _, Eq.trans (mk_rt (body := b_law_take (f_law_take (k + 1))) (d := .int ((r1 + 10000000 * r2) % size)) (M' := (M.set h c1).set h c2) rfl ?_ rfl) (by rw [List.take_of_length_le (by simp)]), Int.emod_nonneg _ (by omega), Int.emod_lt_of_pos _ h0, x2, c2, by simp⟩
    have nb : 10000000 < size := by omega
    have d1 : ∀ (x : Int) (M : Mem), oMod (.int x) (.int size) M = .ok (.int (x % size)) M := fun x M => r_mod h0
    have d2 : ∀ (x : Int) (M : Mem), oDiv (.int x) (.int 10000000) M = .ok (.int (x / 10000000)) M := fun x M => r_div (by decide) (by decide)
    have m1 : ∀ (x : Int) (M : Mem), oMul (.int 10000000) (.int x) M = .ok (.int (10000000 * x)) M := fun x M => r_mul (mul_l (by decide) (by decide))
    simp [b_law_take, e, hp, nb, q1, q2, d1, d2, m1]
/-- what is taken, in short -/
theorem take_ok {M : Mem} {h n : Nat} {size : Int} (x : Box M h (n + 128)) (h0 : 0 < size) (h1 : size ≤ tens 8) :
    ∃ r M', f_law_take 8 [.ref h, .int size] M = .ok (.int r) M' ∧ 0 ≤ r ∧ r < size ∧ Box M' h n ∧ ∃ c, M' = M.set h c := take_spec 7 (by decide) x h0 h1
end LW
namespace LW
open PySem L2
section
variable {b : Nat} {hs : List Nat} {M0 M : Mem} {t : Tg} {body : SS} {c : ET} {e : ES} {s : Slots} {ds : List D}
@[simp] theorem gd_nil : gdOk [] M0 M = True := by simp [gdOk]
theorem forL_inv (I : Nat → Slots → Mem → Prop) (h0 : I 0 s M)
    (hs1 : ∀ i d s M, ds[i]? = some d → I i s M → ∃ s1 s2 M2, bindT M t d s = some s1 ∧ (body b s1 M = .nx s2 M2 ∨ body b s1 M = .ct s2 M2) ∧ gdOk hs M0 M2 ∧ I (i + 1) s2 M2) :
    ∃ s' M', forL b hs M0 t body ds s M = .nx s' M' ∧ I ds.length s' M' := by
  have key : ∀ (n i : Nat) (s : Slots) (M : Mem), i + n = ds.length → I i s M → ∃ s' M', forL b hs M0 t body (ds.drop i) s M = .nx s' M' ∧ I ds.length s' M' := by
    intro n
    induction n with
    | zero =>
      intro i s M hi h
      have : i = ds.length := by omega
      subst this
      refine ⟨s, M, ?_, h⟩
      rw [List.drop_length]
      rfl
    | succ n ih =>
      intro i s M hi h
      have hlt : i < ds.length := by omega
      obtain ⟨s1, s2, M2, b1, b2, g, h2⟩ := hs1 i ds[i] s M (List.getElem?_eq_getElem hlt) h
      rw [List.drop_eq_getElem_cons hlt]
      obtain ⟨s', M', q, h'⟩ := ih (i + 1) s2 M2 (by omega) h2
      refine ⟨s', M', ?_, h'⟩
      unfold forL
      simp only [b1]
      rcases b2 with b2 | b2
      · simp only [b2]; rw [if_pos g]; exact q
      · simp only [b2]; rw [if_pos g]; exact q
  have := key ds.length 0 s M (by omega) h0
  rwa [List.drop_zero] at this
theorem compL_inv (I : Nat → List D → Mem → Prop) (h0 : I 0 [] M)
    (hs1 : ∀ i d ys M, ds[i]? = some d → I i ys M → ∃ s1 k M1, bindT M t d s = some s1 ∧ c b s1 M = .ok k M1 ∧ ((k = true ∧ ∃ y M2, e b s1 M1 = .ok y M2 ∧ gdOk hs M0 M2 ∧ I (i + 1) (ys ++ [y]) M2) ∨ (k = false ∧ gdOk hs M0 M1 ∧ I (i + 1) ys M1))) :
    ∃ ys M', compL b hs M0 t c e s ds M = .ok ys M' ∧ I ds.length ys M' := by
  have key : ∀ (n i : Nat) (ys : List D) (M : Mem), i + n = ds.length → I i ys M → ∃ zs M', compL b hs M0 t c e s (ds.drop i) M = .ok zs M' ∧ I ds.length (ys ++ zs) M' := by
    intro n
    induction n with
    | zero =>
      intro i ys M hi h
      have : i = ds.length := by omega
      subst this
      refine ⟨[], M, ?_, by simpa using h⟩
      rw [List.drop_length]
      rfl
    | succ n ih =>
      intro i ys M hi h
      have hlt : i < ds.length := by omega
      obtain ⟨s1, k, M1, b1, b2, h2⟩ := hs1 i ds[i] ys M (List.getElem?_eq_getElem hlt) h
      rw [List.drop_eq_getElem_cons hlt]
      unfold compL
      simp only [b1, b2, nox_ok, bind_ok]
      rcases h2 with ⟨rfl, y, M2, q1, g, h3⟩ | ⟨rfl, g, h3⟩
      · obtain ⟨zs, M', q, h'⟩ := ih (i + 1) (ys ++ [y]) M2 (by omega) h3
        refine ⟨y :: zs, M', ?_, by simpa using h'⟩
        simp only [if_true, q1, nox_ok, bind_ok]
        rw [if_pos g, q]
        rfl
      · obtain ⟨zs, M', q, h'⟩ := ih (i + 1) ys M1 (by omega) h3
        refine ⟨zs, M', ?_, h'⟩
        simp only [Bool.false_eq_true, if_false]
        rw [if_pos g, q]
  have := key ds.length 0 [] M (by omega) h0
  rwa [List.drop_zero] at this
/-- without a test, the memory left as it is -/
theorem compL_map (g : D → D) (s1 : D → Slots) (hb : ∀ d ∈ ds, bindT M t d s = some (s1 d)) (he : ∀ d ∈ ds, e b (s1 d) M = .ok (g d) M) (hg : gdOk hs M0 M) : compL b hs M0 t tTrue e s ds M = .ok (ds.map g) M := by
  induction ds with
  | nil => rfl
  | cons d ds ih =>
    unfold compL
    simp only [hb d (by simp), r_ttrue, nox_ok, bind_ok, if_true, he d (by simp)]
    rw [if_pos hg, ih (fun d h => hb d (by simp [h])) (fun d h => he d (by simp [h]))]
    rfl
/-- without a test -/
theorem compL_st (I : Nat → List D → Mem → Prop) (h0 : I 0 [] M)
    (hs1 : ∀ i d ys M, ds[i]? = some d → I i ys M → ∃ s1 y M2, bindT M t d s = some s1 ∧ e b s1 M = .ok y M2 ∧ gdOk hs M0 M2 ∧ I (i + 1) (ys ++ [y]) M2) :
    ∃ ys M', compL b hs M0 t tTrue e s ds M = .ok ys M' ∧ I ds.length ys M' :=
  compL_inv I h0 fun i d ys M hd h => by
    obtain ⟨s1, y, M2, q1, q2, g, h2⟩ := hs1 i d ys M hd h
    exact ⟨s1, true, M, q1, rfl, .inl ⟨rfl, y, M2, q2, g, h2⟩⟩
end
section
variable {b : Nat} {s : Slots} {M : Mem} {f g : ES} {fa : EA} {c : ET} {it : EI} {t : Tg}
@[simp] theorem r_comp (own : List Nat) (c : ET) (e : ES) : nComp it own t c e b s M = (it b s M).bind fun p M1 => lim p.1.length (compL b p.2 M1 t c e (wipeD s own) p.1 M1) := id rfl
@[simp] theorem r_iof : iOf f b s M = (f b s M).bind fun x M1 => match seqOf M1 x with | some xs => .ok (xs, gdOf x) M1 | none => .bad := id rfl
def rngD (i : Int) (n : Nat) : List D := (List.range n).map fun (k : Nat) => .int (i + (k : Int))
theorem rngD_len (i : Int) (n : Nat) : (rngD i n).length = n := by simp [rngD]
theorem rngD_get {i : Int} {n k : Nat} {d : D} (h : (rngD i n)[k]? = some d) : k < n ∧ d = .int (i + (k : Int)) := by
  unfold rngD at h
  rw [List.getElem?_map] at h
  have hk : k < n := by
    rcases Nat.lt_or_ge k n with z | z
    · exact z
    · rw [List.getElem?_eq_none (by simpa using z)] at h; cases h
  rw [List.getElem?_range hk] at h
  exact ⟨hk, (Option.some.inj h).symm⟩
def rng1 (ds : List D) (M1 : Mem) : R (List D × List Nat) := match ds with
  | [.int j] => if rngOk j then .ok (rngD 0 j.toNat, []) M1 else .bad
  | _ => .bad
def rng2 (ds : List D) (M1 : Mem) : R (List D × List Nat) := match ds with
  | [.int i, .int j] => if rngOk i ∧ rngOk j then .ok (rngD i (j - i).toNat, []) M1 else .bad
  | _ => .bad
@[simp] theorem r_range1 : iRange1 fa b s M = (fa b s M).bind rng1 := id rfl
@[simp] theorem r_range2 : iRange2 fa b s M = (fa b s M).bind rng2 := id rfl
theorem rng1_ok {j : Int} (h : rngOk j) : rng1 [.int j] M = .ok (rngD 0 j.toNat, []) M := by
  unfold rng1
  simp only
  rw [if_pos h]
theorem rng1_nat {j : Nat} (h : j < 2 ^ 62) : rng1 [.int j] M = .ok (rngD 0 j, []) M := by
  rw [rng1_ok ⟨by omega, by omega⟩]
  simp
@[simp] theorem r_enum : iEnum fa b s M = (fa b s M).bind fun ds M1 => match ds with
  | [x] => match seqOf M1 x with
    | some xs => .ok (enumD 0 xs, gdOf x) M1
    | none => .bad
  | _ => .bad := id rfl
@[simp] theorem r_zip (st : Bool) : iZip st fa b s M = (fa b s M).bind fun ds M1 => match ds with
  | [x, y] => match seqOf M1 x, seqOf M1 y with
    | some xs, some ys => if st = true ∧ xs.length ≠ ys.length then .bad else .ok (zipD xs ys, gdOf x ++ gdOf y) M1
    | _, _ => .bad
  | _ => .bad := id rfl
theorem r_len {x : D} {ys : List D} (h : seqOf M x = some ys) : bLen [x] M = .ok (.int ys.length) M := by
  unfold bLen
  cases x <;> first | (simp only [h]; done) | (simp [seqOf, lstOf] at h; done)
theorem r_tuple {x : D} {ys : List D} (h : seqOf M x = some ys) : bTuple [x] M = .ok (.tup ys) M := by
  unfold bTuple
  simp only [h]
@[simp] theorem r_max (i j : Int) : bMax [.int i, .int j] M = .ok (.int (if j > i then j else i)) M := id rfl
@[simp] theorem r_min (i j : Int) : bMin [.int i, .int j] M = .ok (.int (if j < i then j else i)) M := id rfl
end
theorem bls_all : ∀ {ys : List D}, (∀ y ∈ ys, y = .bl true) → blsOf ys = some (List.replicate ys.length true)
  | [], _ => rfl
  | y :: ys, h => by
    have e : y = .bl true := h y (by simp)
    subst e
    show (blsOf ys).map (true :: ·) = _
    rw [bls_all fun y hy => h y (by simp [hy])]
    rfl
theorem r_all {M : Mem} {ys : List D} (h : ∀ y ∈ ys, y = .bl true) : bAll [.lst ys] M = .ok (.bl true) M := by
  show (match (some ys).bind blsOf with | some ys => _ | none => _) = _
  simp only [Option.bind_some, bls_all h]
  congr
  simp
theorem mk_keep {np nn : Nat} {body : SS} {ds xs : List D} {M M' : Mem} {h : Nat} (hl : ds.length = np) (hb : body M.length (ds.map some ++ List.replicate (nn - np) none) M = .rt (.ref h) M') (hh : M.length ≤ h) (hc : M'[h]? = some (.lst xs)) (hx : belows M.length xs = true) :
    mkFn true np nn body ds M = .ok (.ref M.length) (M'.take M.length ++ [.lst xs]) := by
  unfold mkFn
  rw [if_pos hl, hb]
  unfold runFn leaveK
  simp only [if_true, hc, hx]
  rw [if_neg (by omega)]
theorem box_ok {x : D} {zs : List Int} {k : Int} {M : Mem} (hx : seqOf M x = some (zs.map D.int)) (h0 : 0 ≤ k) (h1 : k < 100) : ∃ M', f_law_box [x, .int k] M = .ok (.ref M.length) M' ∧ Box M' M.length (2 ^ 40) ∧ ∃ c, M' = M ++ [c] := by
  have hlen : ∀ M', seqOf M' x = some (zs.map D.int) → bLen [x] M' = .ok (.int zs.length) M' := fun M' h => by rw [r_len h]; simp
  obtain ⟨cell, hcell⟩ : ∃ z : Int, z = if h : k < zs.length then zs[k.toNat]'(by omega) else 0 := ⟨_, rfl⟩
  obtain ⟨ab, hab⟩ : ∃ z : Int, z = if cell < 0 then -cell else cell := ⟨_, rfl⟩
  have ab0 : 0 ≤ ab := by
    rw [hab]
    split <;> omega
  obtain ⟨bt, hbt⟩ : ∃ z : Int, z = if 1000000000000000000 ≤ ab then 1 else 0 := ⟨_, rfl⟩
  have bt0 : 0 ≤ bt ∧ bt ≤ 1 := by
    rw [hbt]
    split <;> omega
  obtain ⟨sd, hsd⟩ : ∃ z : Int, z = (cell % 2147483629 + 15485863 * k + 43) * 48271 % 2147483647 := ⟨_, rfl⟩
  have sd0 : 0 ≤ sd := by rw [hsd]; exact Int.emod_nonneg _ (by decide)
  have sd1 : sd < 2147483647 := by rw [hsd]; exact Int.emod_lt_of_pos _ (by decide)
  have m1 : ∀ M : Mem, oMul (.int ab) (.int bt) M = .ok (.int (ab * bt)) M := fun M => r_mul (mul_r (by omega) (by omega))
  have m2 : ∀ M : Mem, oMul (.int 15485863) (.int k) M = .ok (.int (15485863 * k)) M := fun M => r_mul (mul_l (by decide) (by decide))
  have m3 : ∀ (y : Int) (M : Mem), oMul (.int y) (.int 48271) M = .ok (.int (y * 48271)) M := fun y M => r_mul (mul_r (by decide) (by decide))
  have d1 : ∀ (y : Int) (M : Mem), oMod (.int y) (.int 2147483629) M = .ok (.int (y % 2147483629)) M := fun y M => r_mod (by decide)
  have d2 : ∀ (y : Int) (M : Mem), oMod (.int y) (.int 2147483647) M = .ok (.int (y % 2147483647)) M := fun y M => r_mod (by decide)
  have run : b_law_box M.length ([x, .int k].map some ++ List.replicate (3 - 2) none) M = .rt (.ref M.length) (M ++ [.lst [.int (ab * bt), .int sd, .int 0]]) := by
    by_cases hk : k < zs.length
    · have hix : atI (zs.map D.int) k = some (.int cell) := by
        rw [ix_nat h0 (by simpa using hk), hcell, dif_pos hk]
        simp
      simp [b_law_box, hlen M hx, hk, hx, hix, m1, m2, m3, d1, d2, ← hab, ← hbt, ← hsd]
    · have hc0 : cell = 0 := by rw [hcell, dif_neg hk]
      rw [hc0] at hab hsd
      have e0 : ab = 0 := by rw [hab]; rfl
      have e1 : bt = 0 := by rw [hbt, e0]; rfl
      subst e0 e1
      simp [b_law_box, hlen M hx, hk, hx, m1, m2, m3, d1, d2]
      simpa using hsd.symm
  refine ⟨_, mk_keep (xs := [.int (ab * bt), .int sd, .int 0]) rfl run (Nat.le_refl _) (by simp) (by simp), ?_, .lst [.int (ab * bt), .int sd, .int 0], by simp⟩
  exact ⟨ab * bt, sd, 0, by simp, Int.mul_nonneg ab0 bt0.1, sd0, by omega, by decide, by decide⟩
theorem cut_take {α : Type} (xs : List α) (n : Nat) : cutL xs none (some (n : Int)) = xs.take n := by
  unfold cutL
  rw [HT.sIx_nat, HT.sIx_none, List.drop_zero, Nat.sub_zero]
  rcases Nat.le_total n xs.length with h | h
  · rw [Nat.min_eq_left h]
  · rw [Nat.min_eq_right h, List.take_of_length_le (Nat.le_refl _), List.take_of_length_le h]
theorem cut_drop {α : Type} (xs : List α) (n : Nat) : cutL xs (some (n : Int)) none = xs.drop n := by
  unfold cutL
  rw [HT.sIx_nat, HT.sIx_none]
  rcases Nat.le_total n xs.length with h | h
  · rw [Nat.min_eq_left h, List.take_of_length_le (by simp)]
  · rw [Nat.min_eq_right h, List.drop_of_length_le (Nat.le_refl _), List.drop_of_length_le h, List.take_nil]
theorem cut_mid {α : Type} (xs : List α) (n m : Nat) : cutL xs (some (n : Int)) (some (m : Int)) = (xs.drop n).take (m - n) := by
  unfold cutL
  rw [HT.sIx_nat, HT.sIx_nat]
  apply List.ext_getElem?
  intro i
  rw [List.getElem?_take, List.getElem?_take, List.getElem?_drop, List.getElem?_drop]
  by_cases h : n ≤ xs.length
  · rw [Nat.min_eq_left h]
    by_cases h1 : i < m - n
    · rw [if_pos h1]
      by_cases h2 : i < min m xs.length - n
      · rw [if_pos h2]
      · rw [if_neg h2, List.getElem?_eq_none (by omega)]
    · rw [if_neg h1, if_neg (by omega)]
  · have e : min n xs.length = xs.length := by omega
    rw [e, if_neg (by omega)]
    split
    · rw [List.getElem?_eq_none (by omega)]
    · rfl
@[simp] theorem r_oCutS (ns : List Int) (lo hi : Option Int) (M : Mem) : oCut (.scr ns) lo hi M = .ok (.lst (cutL (ns.map .int) lo hi)) M := id rfl
@[simp] theorem r_oCutT (xs : List D) (lo hi : Option Int) (M : Mem) : oCut (.tup xs) lo hi M = .ok (.tup (cutL xs lo hi)) M := id rfl
@[simp] theorem r_oCutL (xs : List D) (lo hi : Option Int) (M : Mem) : oCut (.lst xs) lo hi M = .ok (.lst (cutL xs lo hi)) M := id rfl
theorem enum_get : ∀ (xs : List D) (k i : Nat) (d : D), (enumD k xs)[i]? = some d → ∃ x, xs[i]? = some x ∧ d = .tup [.int ((k + i : Nat) : Int), x]
  | [], k, i, d, h => by simp [enumD] at h
  | x :: xs, k, 0, d, h => by
    simp [enumD] at h
    exact ⟨x, rfl, by rw [← h]; rfl⟩
  | x :: xs, k, i + 1, d, h => by
    simp [enumD] at h
    obtain ⟨y, h1, h2⟩ := enum_get xs (k + 1) i d h
    exact ⟨y, by simpa using h1, by rw [h2, show k + 1 + i = k + (i + 1) by omega]⟩
theorem set_last {M : Mem} {c c' : Cell} : (M ++ [c]).set M.length c' = M ++ [c'] := by
  rw [List.set_append_right _ _ (Nat.le_refl _), Nat.sub_self]
  rfl
theorem folded_ok {ns : List Int} {sz : Nat} {M : Mem} (h0 : 0 < sz) (h1 : sz ≤ 63) : ∃ zs : List Int, f_law_folded [.scr ns, .int sz] M = .ok (.lst (zs.map .int)) M ∧ zs.length = min ns.length sz := by
  obtain ⟨s', M', q, zs, v3, v4, rfl, rfl, hz⟩ := forL_inv (b := M.length) (hs := []) (M0 := M ++ [.lst ((ns.take sz).map .int)]) (t := .tp [.nm 3, .nm 4])
    (body := sAsg (eBin oAdd (eBin oIx (eVar 2) (eBin oMod (eVar 3) (eVar 1))) (eBin oMul (eVar 4) (eBin oAdd (eVar 3) (eC (.int 2))))) (gIx (eVar 2) (eBin oMod (eVar 3) (eVar 1))))
    (s := [some (.scr ns), some (.int sz), some (.ref M.length), none, none]) (M := M ++ [.lst ((ns.take sz).map .int)]) (ds := enumD 0 (((ns.map D.int).drop sz).take (63 - sz)))
    (fun i s M' => ∃ (zs : List Int) (v3 v4 : Option D), s = [some (.scr ns), some (.int sz), some (.ref M.length), v3, v4] ∧ M' = M ++ [.lst (zs.map .int)] ∧ zs.length = min ns.length sz)
    ⟨ns.take sz, none, none, rfl, rfl, by simp [Nat.min_comm]⟩ (fun i d s M' hd ⟨zs, v3, v4, es, eM, hz⟩ => by
      subst es eM
      obtain ⟨x, hx, rfl⟩ := enum_get _ _ _ _ hd
      rw [List.getElem?_take] at hx
      split at hx
      · rename_i hi
        rw [List.getElem?_drop, List.getElem?_map] at hx
        cases hn : ns[sz + i]? with
        | none => rw [hn] at hx; cases hx
        | some y =>
          rw [hn] at hx
          cases hx
          have hl : sz + i < ns.length := lt_of_get hn
          have hzl : zs.length = sz := by omega
          rw [Nat.zero_add]
          obtain ⟨j, hj⟩ : ∃ j : Int, j = (i : Int) % (sz : Int) := ⟨_, rfl⟩
          have j0 : 0 ≤ j := by rw [hj]; exact Int.emod_nonneg _ (by omega)
          have j1 : j < sz := by rw [hj]; exact Int.emod_lt_of_pos _ (by omega)
          have jl : j < (zs.map D.int).length := by rw [List.length_map, hzl]; exact j1
          have d1 : ∀ M : Mem, oMod (.int (i : Int)) (.int (sz : Int)) M = .ok (.int j) M := fun M => by rw [hj]; exact r_mod (by omega)
          have m1 : ∀ M : Mem, oMul (.int y) (.int ((i : Int) + 2)) M = .ok (.int (y * ((i : Int) + 2))) M := fun M => r_mul (mul_r (by omega) (by omega))
          have hix : L2.atI (zs.map D.int) j = some (.int (zs[j.toNat]'(by omega))) := by
            rw [ix_nat j0 jl]
            simp
          have st := r_setIx (b := M.length) (h := M.length) (xs := zs.map D.int) (i := j) (v := .int (zs[j.toNat]'(by omega) + y * ((i : Int) + 2))) (M := M ++ [.lst (zs.map .int)]) (by simp) j0 jl (.inl (Nat.le_refl _))
          rw [set_last] at st
          refine ⟨[some (.scr ns), some (.int sz), some (.ref M.length), some (.int i), some (.int y)], [some (.scr ns), some (.int sz), some (.ref M.length), some (.int i), some (.int y)], M ++ [.lst ((zs.set j.toNat (zs[j.toNat]'(by omega) + y * ((i : Int) + 2))).map .int)], by simp, .inl ?_, by simp, _, some (.int i), some (.int y), rfl, rfl, by simpa using hz⟩
          simp [gIx, d1, hix, m1, st, List.map_set]
      · cases hx)
  refine ⟨zs, Eq.trans (mk_frz (h := M.length) (xs := zs.map D.int) (M' := M ++ [.lst (zs.map D.int)]) rfl ?_ (Nat.le_refl _) (by simp) (fun x hx => ?_)) (by simp), hz⟩
  · have e1 : cutL (ns.map D.int) none (some (sz : Int)) = (ns.take sz).map D.int := by rw [cut_take, List.map_take]
    have e2 : cutL (ns.map D.int) (some (sz : Int)) (some 63) = ((ns.map D.int).drop sz).take (63 - sz) := cut_mid _ sz 63
    rw [List.map_take] at q
    simp [b_law_folded, e1, e2, q]
  · rw [List.mem_map] at hx
    obtain ⟨i, _, rfl⟩ := hx
    exact ⟨i, rfl⟩
section
variable {M : Mem}
@[simp] theorem r_eqI (i j : Int) : oEq (.int i) (.int j) M = .ok (.bl (i == j)) M := id rfl
@[simp] theorem r_neI (i j : Int) : oNe (.int i) (.int j) M = .ok (.bl (!(i == j))) M := id rfl
@[simp] theorem r_eqB (i j : Bool) : oEq (.bl i) (.bl j) M = .ok (.bl (i == j)) M := id rfl
@[simp] theorem r_neB (i j : Bool) : oNe (.bl i) (.bl j) M = .ok (.bl (!(i == j))) M := id rfl
@[simp] theorem r_eqS (i j : Str) : oEq (.str i) (.str j) M = .ok (.bl (i == j)) M := id rfl
@[simp] theorem r_neS (i j : Str) : oNe (.str i) (.str j) M = .ok (.bl (!(i == j))) M := id rfl
@[simp] theorem r_eqN : oEq .non .non M = .ok (.bl true) M := id rfl
@[simp] theorem ty_non : tyOf M .non = some "NoneType" := id rfl
@[simp] theorem ty_bl (k : Bool) : tyOf M (.bl k) = some "bool" := id rfl
@[simp] theorem ty_int (k : Int) : tyOf M (.int k) = some "int" := id rfl
@[simp] theorem ty_str (k : Str) : tyOf M (.str k) = some "str" := id rfl
@[simp] theorem ty_tup (k : List D) : tyOf M (.tup k) = some "tuple" := id rfl
@[simp] theorem ty_lst (k : List D) : tyOf M (.lst k) = some "list" := id rfl
end
def plainD : Nat → D → Bool
  | _, .non => true
  | _, .bl _ => true
  | _, .int _ => true
  | _, .str x => PySem.PyData.strOk x
  | k + 1, .tup xs => decide (xs.length ≤ 1000000) && xs.all (plainD k)
  | k + 1, .lst xs => decide (xs.length ≤ 1000000) && xs.all (plainD k)
  | _, _ => false
theorem eqS_refl {x : Str} {M : Mem} (h : PySem.PyData.strOk x = true) : oEq (.str x) (.str x) M = .ok (.bl true) M := by simp
theorem zip_self (xs : List D) : zipD xs xs = xs.map fun x => .tup [x, x] := by
  unfold zipD
  induction xs with
  | nil => rfl
  | cons x xs ih => simp [ih]
theorem same_ok : ∀ (k : Nat) (x : D) (M : Mem), plainD k x = true → f_law_same (k + 1) [x, x] M = .ok (.bl true) M := by
  have atom : ∀ (k : Nat) (x : D) (M : Mem), (match x with | .non => True | .bl _ => True | .int _ => True | .str y => PySem.PyData.strOk y = true | _ => False) → f_law_same (k + 1) [x, x] M = .ok (.bl true) M := by
    intro k x M h
    refine Eq.trans (mk_rt (body := b_law_same (f_law_same k)) (d := .bl true) (M' := M) rfl ?_ rfl) (by simp)
    cases x with
    | non => simp [b_law_same, oIsi, isTy]
    | bl k => simp [b_law_same, oIsi, isTy]
    | int k => simp [b_law_same, oIsi, isTy]
    | str y => simp [b_law_same, oIsi, isTy, eqS_refl h]
    | _ => exact h.elim
  have seq : ∀ (k : Nat) (x : D) (xs : List D) (M : Mem), (x = .tup xs ∨ x = .lst xs) → xs.length ≤ 1000000 → (∀ y ∈ xs, f_law_same k [y, y] M = .ok (.bl true) M) → f_law_same (k + 1) [x, x] M = .ok (.bl true) M := by
    intro k x xs M hx hl h
    have hc : ∀ g : List Nat, gdOk g M M → ∀ s : Slots, s.length = 4 → compL M.length g M (.tp [.nm 2, .nm 3]) tTrue (eCall (f_law_same k) (aCons (eVar 2) (aCons (eVar 3) aNil))) s (zipD xs xs) M = .ok (xs.map fun _ => .bl true) M := by
      intro g hg s hs
      rw [zip_self]
      have e : (xs.map fun x => D.tup [x, x]).map (fun _ => D.bl true) = xs.map fun _ => D.bl true := by simp
      rw [← e]
      match s, hs with
      | [p0, p1, p2, p3], _ =>
        refine compL_map (fun _ => .bl true) (fun d => match d with | .tup [x, y] => [p0, p1, some x, some y] | _ => []) (fun d hd => ?_) (fun d hd => ?_) hg
        · obtain ⟨y, hy, rfl⟩ := List.mem_map.mp hd
          simp
        · obtain ⟨y, hy, rfl⟩ := List.mem_map.mp hd
          simp [h y hy]
    have hall : bAll [.lst (xs.map fun _ => D.bl true)] M = .ok (.bl true) M := r_all fun y hy => by
      obtain ⟨_, _, rfl⟩ := List.mem_map.mp hy
      rfl
    have hz : (zipD xs xs).length ≤ 1000000 := by rw [zip_self, List.length_map]; exact hl
    have hg : gdOk [] M M := by simp
    refine Eq.trans (mk_rt (body := b_law_same (f_law_same k)) (d := .bl true) (M' := M) rfl ?_ rfl) (by simp)
    rcases hx with rfl | rfl
    · have q := hc [] hg [some (.tup xs), some (.tup xs), none, none] rfl
      simp [b_law_same, oIsi, isTy, r_len (q_tup M xs), hz, wipeD, q, hall]
    · have q := hc [] hg [some (.lst xs), some (.lst xs), none, none] rfl
      simp [b_law_same, oIsi, isTy, r_len (q_lst M xs), hz, wipeD, q, hall]
  intro k
  induction k with
  | zero =>
    intro x M h
    refine atom 0 x M ?_
    cases x <;> simp_all [plainD]
  | succ k ih =>
    intro x M h
    cases x with
    | tup xs => 
      obtain ⟨h1, h2⟩ : xs.length ≤ 1000000 ∧ xs.all (plainD k) = true := by simpa [plainD] using h
      exact seq (k + 1) _ xs M (.inl rfl) h1 fun y hy => ih y M (List.all_eq_true.mp h2 y hy)
    | lst xs => 
      obtain ⟨h1, h2⟩ : xs.length ≤ 1000000 ∧ xs.all (plainD k) = true := by simpa [plainD] using h
      exact seq (k + 1) _ xs M (.inr rfl) h1 fun y hy => ih y M (List.all_eq_true.mp h2 y hy)
    | _ => exact atom (k + 1) _ M (by simp_all [plainD])
end LW
namespace LW
open PySem L2
theorem toPy_plain {M : Mem} : ∀ (k : Nat) (x : D), plainD k x = true → ∃ p, toPy M x = some p ∧ p.canLay0 = true ∧ p.depth ≤ k := by
  intro k
  induction k with
  | zero =>
    intro x h
    cases x with
    | non => exact ⟨.none, rfl, rfl, Nat.le_refl _⟩
    | bl b => exact ⟨.bool b, rfl, rfl, Nat.le_refl _⟩
    | int i => exact ⟨.int i, rfl, rfl, Nat.le_refl _⟩
    | str y => exact ⟨.str y, rfl, h, Nat.le_refl _⟩
    | _ => cases h
  | succ k ih =>
    have many : ∀ xs : List D, xs.all (plainD k) = true → ∃ ps, toPys M xs = some ps ∧ PyData.canLayAll0 ps = true ∧ PyData.depthAll ps ≤ k := by
      intro xs
      induction xs with
      | nil => intro _; exact ⟨[], rfl, rfl, Nat.zero_le _⟩
      | cons x xs ihs =>
        intro h
        rw [List.all_cons, Bool.and_eq_true] at h
        obtain ⟨p, h1, h2, h3⟩ := ih x h.1
        obtain ⟨ps, g1, g2, g3⟩ := ihs h.2
        refine ⟨p :: ps, ?_, ?_, ?_⟩
        · unfold toPys; rw [h1, g1]
        · unfold PyData.canLayAll0; rw [h2, g2]; rfl
        · unfold PyData.depthAll; omega
    intro x h
    cases x with
    | non => exact ⟨.none, rfl, rfl, Nat.zero_le _⟩
    | bl b => exact ⟨.bool b, rfl, rfl, Nat.zero_le _⟩
    | int i => exact ⟨.int i, rfl, rfl, Nat.zero_le _⟩
    | str y => exact ⟨.str y, rfl, by unfold PyData.canLay0; simpa [plainD] using h, Nat.zero_le _⟩
    | tup xs =>
      obtain ⟨h1, h2⟩ : xs.length ≤ 1000000 ∧ xs.all (plainD k) = true := by simpa [plainD] using h
      obtain ⟨ps, g1, g2, g3⟩ := many xs h2
      exact ⟨.tuple ps, by unfold toPy; rw [g1]; rfl, by unfold PyData.canLay0; exact g2, by unfold PyData.depth; omega⟩
    | lst xs =>
      obtain ⟨h1, h2⟩ : xs.length ≤ 1000000 ∧ xs.all (plainD k) = true := by simpa [plainD] using h
      obtain ⟨ps, g1, g2, g3⟩ := many xs h2
      exact ⟨.list ps, by unfold toPy; rw [g1]; rfl, by unfold PyData.canLay0; exact g2, by unfold PyData.depth; omega⟩
    | _ => cases h
theorem rd_plain {M : Mem} {k : Nat} {x : D} (h : plainD k x = true) : rdOf M x = x := by
  cases x with
  | ref n => cases k <;> cases h
  | _ => rfl
theorem below_ints {n : Nat} : ∀ zs : List Int, belows n (zs.map .int) = true
  | [] => rfl
  | z :: zs => by simp [below_ints zs]
end LW
namespace LW
open PySem L2
def numD : Nat → D → Bool
  | _, .non => true
  | _, .int _ => true
  | _, .str x => PySem.PyData.strOk x
  | k + 1, .tup xs => decide (xs.length ≤ 1000000) && xs.all (numD k)
  | k + 1, .lst xs => decide (xs.length ≤ 1000000) && xs.all (numD k)
  | _, _ => false
theorem num_plain : ∀ (k : Nat) (x : D), numD k x = true → plainD k x = true := by
  intro k
  induction k with
  | zero => intro x h; cases x <;> first | rfl | exact h | cases h
  | succ k ih =>
    intro x h
    cases x with
    | non => rfl
    | int i => rfl
    | str y => exact h
    | tup xs =>
      obtain ⟨h1, h2⟩ : xs.length ≤ 1000000 ∧ ∀ x ∈ xs, numD k x = true := by simpa [numD] using h
      simp only [plainD, Bool.and_eq_true, decide_eq_true_eq, List.all_eq_true]
      exact ⟨h1, fun x hx => ih x (h2 x hx)⟩
    | lst xs =>
      obtain ⟨h1, h2⟩ : xs.length ≤ 1000000 ∧ ∀ x ∈ xs, numD k x = true := by simpa [numD] using h
      simp only [plainD, Bool.and_eq_true, decide_eq_true_eq, List.all_eq_true]
      exact ⟨h1, fun x hx => ih x (h2 x hx)⟩
    | _ => cases h
theorem toPys_cons {M : Mem} {x : D} {xs : List D} {ps : List PyData} (h : toPys M (x :: xs) = some ps) : ∃ p qs, ps = p :: qs ∧ toPy M x = some p ∧ toPys M xs = some qs := by
  unfold toPys at h
  cases h1 : toPy M x with
  | none => rw [h1] at h; cases h
  | some p =>
    cases h2 : toPys M xs with
    | none => rw [h1, h2] at h; cases h
    | some qs => rw [h1, h2] at h; cases h; exact ⟨p, qs, rfl, rfl, rfl⟩
theorem eqv_many {M N : Mem} {k : Nat} (ih : ∀ (x y : D) (p q : PyData), numD k x = true → numD k y = true → toPy M x = some p → toPy N y = some q → (PyData.eqv p q = true ↔ x = y)) :
    ∀ (xs ys : List D) (ps qs : List PyData), (∀ x ∈ xs, numD k x = true) → (∀ x ∈ ys, numD k x = true) → toPys M xs = some ps → toPys N ys = some qs → (PyData.eqvAll ps qs = true ↔ xs = ys)
  | [], [], ps, qs, _, _, e1, e2 => by cases e1; cases e2; simp [PyData.eqvAll]
  | [], y :: ys, ps, qs, _, _, e1, e2 => by
    obtain ⟨q, qs', rfl, _, _⟩ := toPys_cons e2
    cases e1
    simp [PyData.eqvAll]
  | x :: xs, [], ps, qs, _, _, e1, e2 => by
    obtain ⟨q, qs', rfl, _, _⟩ := toPys_cons e1
    cases e2
    simp [PyData.eqvAll]
  | x :: xs, y :: ys, ps, qs, h1, h2, e1, e2 => by
    obtain ⟨p, ps', rfl, f1, f2⟩ := toPys_cons e1
    obtain ⟨q, qs', rfl, g1, g2⟩ := toPys_cons e2
    have a := ih x y p q (h1 x (by simp)) (h2 y (by simp)) f1 g1
    have b := eqv_many ih xs ys ps' qs' (fun x h => h1 x (by simp [h])) (fun x h => h2 x (by simp [h])) f2 g2
    rw [PyData.eqvAll, Bool.and_eq_true, a, b]
    simp
theorem eqv_num {M N : Mem} : ∀ (k : Nat) (x y : D) (p q : PyData), numD k x = true → numD k y = true → toPy M x = some p → toPy N y = some q → (PyData.eqv p q = true ↔ x = y) := by
  have seqs : ∀ (k : Nat), (∀ (x y : D) (p q : PyData), numD k x = true → numD k y = true → toPy M x = some p → toPy N y = some q → (PyData.eqv p q = true ↔ x = y)) →
      ∀ (x y : D) (p q : PyData), numD (k + 1) x = true → numD (k + 1) y = true → toPy M x = some p → toPy N y = some q → (PyData.eqv p q = true ↔ x = y) := by
    intro k ih x y p q hx hy ep eq
    have un : ∀ xs : List D, (decide (xs.length ≤ 1000000) && xs.all (numD k)) = true → ∀ x ∈ xs, numD k x = true := fun xs h => by
      rw [Bool.and_eq_true, List.all_eq_true] at h
      exact h.2
    have tup : ∀ (M : Mem) (xs : List D) (p : PyData), toPy M (.tup xs) = some p → ∃ ps, p = .tuple ps ∧ toPys M xs = some ps := fun M xs p h => by
      unfold toPy at h
      obtain ⟨ps, h1, h2⟩ := Option.map_eq_some_iff.mp h
      exact ⟨ps, h2.symm, h1⟩
    have lst : ∀ (M : Mem) (xs : List D) (p : PyData), toPy M (.lst xs) = some p → ∃ ps, p = .list ps ∧ toPys M xs = some ps := fun M xs p h => by
      unfold toPy at h
      obtain ⟨ps, h1, h2⟩ := Option.map_eq_some_iff.mp h
      exact ⟨ps, h2.symm, h1⟩
    cases x with
    | non =>
      cases ep
      cases y with
      | non => cases eq; simp [PyData.eqv]
      | int j => cases eq; simp [PyData.eqv]
      | str j => cases eq; simp [PyData.eqv]
      | tup ys => obtain ⟨qs, rfl, _⟩ := tup N ys q eq; simp [PyData.eqv]
      | lst ys => obtain ⟨qs, rfl, _⟩ := lst N ys q eq; simp [PyData.eqv]
      | _ => cases hy
    | int i =>
      cases ep
      cases y with
      | non => cases eq; simp [PyData.eqv]
      | int j => cases eq; simp [PyData.eqv]
      | str j => cases eq; simp [PyData.eqv]
      | tup ys => obtain ⟨qs, rfl, _⟩ := tup N ys q eq; simp [PyData.eqv]
      | lst ys => obtain ⟨qs, rfl, _⟩ := lst N ys q eq; simp [PyData.eqv]
      | _ => cases hy
    | str i =>
      cases ep
      cases y with
      | non => cases eq; simp [PyData.eqv]
      | int j => cases eq; simp [PyData.eqv]
      | str j => cases eq; simp [PyData.eqv]
      | tup ys => obtain ⟨qs, rfl, _⟩ := tup N ys q eq; simp [PyData.eqv]
      | lst ys => obtain ⟨qs, rfl, _⟩ := lst N ys q eq; simp [PyData.eqv]
      | _ => cases hy
    | tup xs =>
      obtain ⟨ps, rfl, e1⟩ := tup M xs p ep
      cases y with
      | non => cases eq; simp [PyData.eqv]
      | int j => cases eq; simp [PyData.eqv]
      | str j => cases eq; simp [PyData.eqv]
      | tup ys =>
        obtain ⟨qs, rfl, e2⟩ := tup N ys q eq
        rw [PyData.eqv, eqv_many ih xs ys ps qs (un xs hx) (un ys hy) e1 e2]
        simp
      | lst ys => obtain ⟨qs, rfl, _⟩ := lst N ys q eq; simp [PyData.eqv]
      | _ => cases hy
    | lst xs =>
      obtain ⟨ps, rfl, e1⟩ := lst M xs p ep
      cases y with
      | non => cases eq; simp [PyData.eqv]
      | int j => cases eq; simp [PyData.eqv]
      | str j => cases eq; simp [PyData.eqv]
      | tup ys => obtain ⟨qs, rfl, _⟩ := tup N ys q eq; simp [PyData.eqv]
      | lst ys =>
        obtain ⟨qs, rfl, e2⟩ := lst N ys q eq
        rw [PyData.eqv, eqv_many ih xs ys ps qs (un xs hx) (un ys hy) e1 e2]
        simp
      | _ => cases hy
    | _ => cases hx
  intro k
  induction k with
  | zero =>
    intro x y p q hx hy ep eq
    have up : ∀ x : D, numD 0 x = true → numD 1 x = true := fun x h => by cases x <;> first | rfl | exact h | cases h
    refine seqs 0 (fun x y p q hx hy ep eq => ?_) x y p q (up x hx) (up y hy) ep eq
    cases x <;> first | cases hx | skip
    all_goals (cases y <;> first | cases hy | skip)
    all_goals (cases ep; cases eq; simp [PyData.eqv])
  | succ k ih => exact seqs k ih
theorem shaped_num {M : Mem} {k : Nat} {x : D} (hk : k ≤ 64) (h : numD k x = true) : ∃ p, toPy M (rdOf M x) = some p ∧ toPy M x = some p ∧ SeqAt.shaped p = true := by
  obtain ⟨p, h1, h2, h3⟩ := toPy_plain (M := M) k x (num_plain k x h)
  refine ⟨p, ?_, h1, ?_⟩
  · rw [rd_plain (num_plain k x h)]
    exact h1
  · unfold SeqAt.shaped
    rw [h2, decide_eq_true (by omega)]
    rfl
/-- x == y, x != y -/
theorem r_eq_num {x y : D} (k : Nat) (hx : numD k x = true) (hy : numD k y = true) (hk : k ≤ 64 := by decide) : ∃ r : Bool, (r = true ↔ x = y) ∧ (∀ M, oEq x y M = .ok (.bl r) M) ∧ ∀ M, oNe x y M = .ok (.bl (!r)) M := by
  by_cases hs : ∃ a c, x = .str a ∧ y = .str c
  · obtain ⟨a, c, rfl, rfl⟩ := hs
    exact ⟨a == c, by simp, fun M => by unfold oEq; rfl, fun M => by unfold oNe; rfl⟩
  · have ns : strs2 x y = none := by
      cases x <;> try rfl
      cases y <;> try rfl
      exact absurd ⟨_, _, rfl, rfl⟩ hs
    obtain ⟨p, _, e2, _⟩ := shaped_num (M := []) hk hx
    obtain ⟨q, _, f2, _⟩ := shaped_num (M := []) hk hy
    refine ⟨PyData.eqv p q, eqv_num k x y p q hx hy e2 f2, fun M => ?_, fun M => ?_⟩
    all_goals
      obtain ⟨p', g1, g2, g3⟩ := shaped_num (M := M) hk hx
      obtain ⟨q', l1, l2, l3⟩ := shaped_num (M := M) hk hy
      have ee : PyData.eqv p' q' = PyData.eqv p q := by
        have a := eqv_num k x y p q hx hy e2 f2
        have b := eqv_num k x y p' q' hx hy g2 l2
        cases h1 : PyData.eqv p q <;> cases h2 : PyData.eqv p' q' <;> simp_all
      have ed : eqD M x y = some (PyData.eqv p q) := by
        unfold eqD
        rw [g1, l1]
        simp only [g3, l3, and_self, if_true, ee]
    · unfold oEq
      rw [ns]
      simp only [ed]
    · unfold oNe
      rw [ns]
      simp only [ed]
end LW
namespace LW
open PySem L2
mutual
def shw : D → Option Nat
  | .non => some 5
  | .bl _ => some 5
  | .int i => if i.natAbs < 10 ^ 50 then some 51 else none
  | .str x => if PySem.PyData.strOk x = true then some (10 * x.length + 2) else none
  | .tup xs => (shws xs).map (· + 3)
  | .lst xs => (shws xs).map (· + 3)
  | _ => none
def shws : List D → Option Nat
  | [] => some 0
  | x :: xs => match shw x, shws xs with
    | some n, some m => some (n + m + 2)
    | _, _ => none
end
end LW
namespace LW
open PySem L2
/-- what holds at each of a statement's ends -/
structure Ps where
  n : Slots → Mem → Prop
  c : Slots → Mem → Prop
  b : Slots → Mem → Prop
  r : D → Mem → Prop
  x : Str → D → Slots → Mem → Prop
inductive Wp : RS → Ps → Prop
  | nx {s : Slots} {M : Mem} {P : Ps} : P.n s M → Wp (.nx s M) P
  | ct {s : Slots} {M : Mem} {P : Ps} : P.c s M → Wp (.ct s M) P
  | bk {s : Slots} {M : Mem} {P : Ps} : P.b s M → Wp (.bk s M) P
  | rt {d : D} {M : Mem} {P : Ps} : P.r d M → Wp (.rt d M) P
  | exc {c : Str} {d : D} {s : Slots} {M : Mem} {P : Ps} : P.x c d s M → Wp (.exc c d s M) P
inductive Wr {α : Type} : R α → (α → Mem → Prop) → Prop
  | ok {a : α} {M : Mem} {Q : α → Mem → Prop} : Q a M → Wr (.ok a M) Q
/-- nothing but handing back -/
def only (Q : D → Mem → Prop) : Ps := ⟨fun _ _ => False, fun _ _ => False, fun _ _ => False, Q, fun _ _ _ _ => False⟩
/-- nothing but going on -/
def goOn (N : Slots → Mem → Prop) : Ps := ⟨N, N, fun _ _ => False, fun _ _ => False, fun _ _ _ _ => False⟩
section
variable {α β : Type} {P : Ps} {s s' : Slots} {M : Mem} {d : D} {c : Str} {Q : α → Mem → Prop}
@[simp] theorem wp_nx : Wp (.nx s M) P = P.n s M := propext ⟨fun h => by cases h; assumption, .nx⟩
@[simp] theorem wp_ct : Wp (.ct s M) P = P.c s M := propext ⟨fun h => by cases h; assumption, .ct⟩
@[simp] theorem wp_bk : Wp (.bk s M) P = P.b s M := propext ⟨fun h => by cases h; assumption, .bk⟩
@[simp] theorem wp_rt : Wp (.rt d M) P = P.r d M := propext ⟨fun h => by cases h; assumption, .rt⟩
@[simp] theorem wp_exc : Wp (.exc c d s M) P = P.x c d s M := propext ⟨fun h => by cases h; assumption, .exc⟩
@[simp] theorem wp_bad : Wp .bad P = False := propext ⟨fun h => (by cases h), False.elim⟩
@[simp] theorem wr_ok (a : α) : Wr (.ok a M) Q = Q a M := propext ⟨fun h => by cases h; assumption, .ok⟩
@[simp] theorem wr_bad : Wr .bad Q = False := propext ⟨fun h => (by cases h), False.elim⟩
@[simp] theorem wr_exc : Wr (.exc c d M) Q = False := propext ⟨fun h => (by cases h), False.elim⟩
@[simp] theorem only_r {Q : D → Mem → Prop} : (only Q).r = Q := id rfl
@[simp] theorem only_n {Q : D → Mem → Prop} : (only Q).n = fun _ _ => False := id rfl
@[simp] theorem goOn_n {N : Slots → Mem → Prop} : (goOn N).n = N := id rfl
@[simp] theorem goOn_c {N : Slots → Mem → Prop} : (goOn N).c = N := id rfl
@[simp] theorem goOn_r {N : Slots → Mem → Prop} : (goOn N).r = fun _ _ => False := id rfl
@[simp] theorem as_bb {γ : Type} (r : R α) (f : α → Mem → R β) (g : β → Mem → R γ) : (r.bind f).bind g = r.bind fun a M => (f a M).bind g := by cases r <;> rfl
@[simp] theorem as_bs (r : R α) (f : α → Mem → R β) (k : β → Mem → RS) : (r.bind f).toS s k = r.toS s fun a M => (f a M).toS s k := by cases r <;> rfl
@[simp] theorem as_sq (r : R α) (f : α → Mem → RS) (k : Slots → Mem → RS) : (r.toS s f).sq k = r.toS s fun a M => (f a M).sq k := by cases r <;> rfl
@[simp] theorem as_qq (r : RS) (f k : Slots → Mem → RS) : (r.sq f).sq k = r.sq fun s M => (f s M).sq k := by cases r <;> rfl
@[simp] theorem as_lb (n : Nat) (r : R α) (f : α → Mem → R β) : (lim n r).bind f = lim n (r.bind f) := by unfold lim; split <;> rfl
@[simp] theorem as_nox (a : R α) (f : α → Mem → R β) : (a.nox.bind f) = (match a with | .ok x M => f x M | _ => .bad) := by cases a <;> rfl
theorem Wp.mono {r : RS} {P P' : Ps} (h : Wp r P) (hn : ∀ s M, P.n s M → P'.n s M) (hc : ∀ s M, P.c s M → P'.c s M) (hb : ∀ s M, P.b s M → P'.b s M) (hr : ∀ d M, P.r d M → P'.r d M) (hx : ∀ c d s M, P.x c d s M → P'.x c d s M) : Wp r P' := by
  cases h with
  | nx h => exact .nx (hn _ _ h)
  | ct h => exact .ct (hc _ _ h)
  | bk h => exact .bk (hb _ _ h)
  | rt h => exact .rt (hr _ _ h)
  | exc h => exact .exc (hx _ _ _ _ h)
theorem Wr.mono {r : R α} {Q Q' : α → Mem → Prop} (h : Wr r Q) (hq : ∀ a M, Q a M → Q' a M) : Wr r Q' := by
  cases h with
  | ok h => exact .ok (hq _ _ h)
theorem wp_toS {r : R α} {k : α → Mem → RS} (h : Wr r fun a M => Wp (k a M) P) : Wp (r.toS s k) P := by
  cases h with
  | ok h => exact h
theorem wr_of {r : R α} (h : Wr r Q) : ∃ a M, r = .ok a M ∧ Q a M := by
  cases h with
  | ok h => exact ⟨_, _, rfl, h⟩
theorem of_wr {r : R α} (h : ∃ a M, r = .ok a M ∧ Q a M) : Wr r Q := by
  obtain ⟨a, M, rfl, h⟩ := h
  exact .ok h
end
section
variable {b : Nat} {hs : List Nat} {M0 M : Mem} {t : Tg} {body : SS} {c : ET} {e : ES} {s s' : Slots} {ds : List D} {P : Ps} {k : Slots → Mem → RS}
theorem wp_for (I : Nat → Slots → Mem → Prop) (h0 : I 0 s M)
    (hs1 : ∀ i d s M, i < ds.length → ds[i]? = some d → I i s M → ∃ s1, bindT M t d s = some s1 ∧ ∀ P' : Ps, (∀ s2 M2, gdOk hs M0 M2 → I (i + 1) s2 M2 → P'.n s2 M2) → (∀ s2 M2, gdOk hs M0 M2 → I (i + 1) s2 M2 → P'.c s2 M2) → (∀ s2 M2, Wp (k s2 M2) P → P'.b s2 M2) → (∀ d M2, P.r d M2 → P'.r d M2) → (∀ c d s M2, P.x c d s M2 → P'.x c d s M2) → Wp (body b s1 M) P')
    (hk : ∀ s' M', I ds.length s' M' → Wp (k s' M') P) : Wp ((forL b hs M0 t body ds s M).sq k) P := by
  have key : ∀ (n i : Nat) (s : Slots) (M : Mem), i + n = ds.length → I i s M → Wp ((forL b hs M0 t body (ds.drop i) s M).sq k) P := by
    intro n
    induction n with
    | zero =>
      intro i s M hi h
      have : i = ds.length := by omega
      subst this
      rw [List.drop_length]
      exact hk s M h
    | succ n ih =>
      intro i s M hi h
      have hlt : i < ds.length := by omega
      obtain ⟨s1, b1, w⟩ := hs1 i ds[i] s M hlt (List.getElem?_eq_getElem hlt) h
      have w := w ⟨fun s2 M2 => gdOk hs M0 M2 ∧ I (i + 1) s2 M2, fun s2 M2 => gdOk hs M0 M2 ∧ I (i + 1) s2 M2, fun s2 M2 => Wp (k s2 M2) P, P.r, P.x⟩ (fun _ _ a b => ⟨a, b⟩) (fun _ _ a b => ⟨a, b⟩) (fun _ _ a => a) (fun _ _ a => a) (fun _ _ _ _ a => a)
      rw [List.drop_eq_getElem_cons hlt]
      unfold forL
      simp only [b1]
      cases hr : body b s1 M with
      | nx s2 M2 =>
        rw [hr, wp_nx] at w
        simp only
        rw [if_pos w.1]
        exact ih (i + 1) s2 M2 (by omega) w.2
      | ct s2 M2 =>
        rw [hr, wp_ct] at w
        simp only
        rw [if_pos w.1]
        exact ih (i + 1) s2 M2 (by omega) w.2
      | bk s2 M2 =>
        rw [hr, wp_bk] at w
        exact w
      | rt d M2 =>
        rw [hr, wp_rt] at w
        exact .rt w
      | exc c d s M2 =>
        rw [hr, wp_exc] at w
        exact .exc w
      | bad =>
        rw [hr, wp_bad] at w
        exact w.elim
  have := key ds.length 0 s M (by omega) h0
  rwa [List.drop_zero] at this
theorem wr_compL (I : Nat → List D → Mem → Prop) (h0 : I 0 [] M)
    (hs1 : ∀ i d ys M, i < ds.length → ds[i]? = some d → I i ys M → ∃ s1, bindT M t d s = some s1 ∧ Wr (c b s1 M) fun q M1 => if q = true then Wr (e b s1 M1) fun y M2 => gdOk hs M0 M2 ∧ I (i + 1) (ys ++ [y]) M2 else gdOk hs M0 M1 ∧ I (i + 1) ys M1) :
    Wr (compL b hs M0 t c e s ds M) fun ys M' => I ds.length ys M' := by
  refine of_wr (compL_inv I h0 fun i d ys M hd h => ?_)
  obtain ⟨s1, h1, w⟩ := hs1 i d ys M (lt_of_get hd) hd h
  obtain ⟨q, M1, e1, w⟩ := wr_of w
  refine ⟨s1, q, M1, h1, e1, ?_⟩
  cases q with
  | true =>
    rw [if_pos rfl] at w
    obtain ⟨y, M2, e2, w1, w2⟩ := wr_of w
    exact .inl ⟨rfl, y, M2, e2, w1, w2⟩
  | false =>
    rw [if_neg (by decide)] at w
    exact .inr ⟨rfl, w.1, w.2⟩
theorem wp_comp {s' : Slots} {K : List D → Mem → RS} (I : Nat → List D → Mem → Prop) (h0 : I 0 [] M)
    (hs1 : ∀ i d ys M, i < ds.length → ds[i]? = some d → I i ys M → ∃ s1, bindT M t d s = some s1 ∧ ∀ Q' : D → Mem → Prop, (∀ y M2, gdOk hs M0 M2 → I (i + 1) (ys ++ [y]) M2 → Q' y M2) → Wr (e b s1 M) Q')
    (hk : ∀ ys M', I ds.length ys M' → Wp (K ys M') P) : Wp ((compL b hs M0 t tTrue e s ds M).toS s' K) P :=
  wp_toS ((wr_compL I h0 fun i d ys M hi hd h => by
    obtain ⟨s1, h1, h2⟩ := hs1 i d ys M hi hd h
    exact ⟨s1, h1, .ok (h2 _ fun _ _ a b => ⟨a, b⟩)⟩).mono hk)
/-- each item by itself -/
theorem comp_map (g : D → D) (hb : ∀ d ∈ ds, ∃ s1, bindT M t d s = some s1 ∧ e b s1 M = .ok (g d) M) (hg : gdOk hs M0 M) : compL b hs M0 t tTrue e s ds M = .ok (ds.map g) M := by
  induction ds with
  | nil => rfl
  | cons d ds ih =>
    obtain ⟨s1, h1, h2⟩ := hb d (by simp)
    unfold compL
    simp only [h1, r_ttrue, nox_ok, bind_ok, if_true, h2]
    rw [if_pos hg, ih (fun d h => hb d (by simp [h]))]
    rfl
theorem wp_map {s' : Slots} {K : List D → Mem → RS} (g : D → D) (hb : ∀ d ∈ ds, ∃ s1, bindT M t d s = some s1 ∧ e b s1 M = .ok (g d) M) (hg : gdOk hs M0 M) (hk : Wp (K (ds.map g) M) P) : Wp ((compL b hs M0 t tTrue e s ds M).toS s' K) P := by
  rw [comp_map g hb hg]
  exact hk
end
section
variable {np nn : Nat} {body : SS} {ds xs : List D} {M : Mem} {Q : D → Mem → Prop}
theorem fn_wp (hl : ds.length = np) (h : ∀ P : Ps, (∀ d M', below M.length d = true → Q d (M'.take M.length) → P.r d M') → Wp (body M.length (ds.map some ++ List.replicate (nn - np) none) M) P) : Wr (mkFn false np nn body ds M) Q := by
  have h := h (only fun d M' => below M.length d = true ∧ Q d (M'.take M.length)) fun _ _ a b => ⟨a, b⟩
  unfold mkFn
  rw [if_pos hl]
  cases hr : body M.length (ds.map some ++ List.replicate (nn - np) none) M with
  | rt d M' =>
    rw [hr, wp_rt] at h
    obtain ⟨h1, h2⟩ : below M.length d = true ∧ Q d (M'.take M.length) := h
    unfold runFn leave
    simp only [Bool.false_eq_true, if_false, h1, if_true]
    exact .ok h2
  | _ => rw [hr] at h; cases h <;> rename_i h <;> exact h.elim
/-- what holds of what is read off -/
def Off (n : Nat) (Q : D → Mem → Prop) : D → Mem → Prop := fun d M' => (below n d = true ∧ Q d (M'.take n)) ∨ (below n d = false ∧ ∃ d', frz M' n 12 d = some d' ∧ Q d' (M'.take n))
theorem fn_off (hl : ds.length = np) (h : ∀ P : Ps, (∀ d M', Off M.length Q d M' → P.r d M') → Wp (body M.length (ds.map some ++ List.replicate (nn - np) none) M) P) : Wr (mkFn false np nn body ds M) Q := by
  have h := h (only (Off M.length Q)) fun _ _ a => a
  unfold mkFn
  rw [if_pos hl]
  cases hr : body M.length (ds.map some ++ List.replicate (nn - np) none) M with
  | rt d M' =>
    rw [hr, wp_rt] at h
    have h : Off M.length Q d M' := h
    unfold runFn leave
    simp only [Bool.false_eq_true, if_false]
    rcases h with ⟨h1, h2⟩ | ⟨h1, d', h2, h3⟩
    · simp only [h1, if_true]
      exact .ok h2
    · simp only [h1, Bool.false_eq_true, if_false, h2]
      exact .ok h3
  | _ => rw [hr] at h; cases h <;> rename_i h <;> exact h.elim
end
/-- plain data: no handles, of a depth -/
def noRef : Nat → D → Bool
  | 0, _ => false
  | _ + 1, .ref _ => false
  | _ + 1, .clo _ _ => false
  | k + 1, .tup xs => xs.all (noRef k)
  | k + 1, .lst xs => xs.all (noRef k)
  | k + 1, .dct _ xs => xs.all (noRef k)
  | k + 1, .dtt _ xs => xs.all (noRef k)
  | _ + 1, _ => true
theorem frz_noRef {M : Mem} {n : Nat} : ∀ (k : Nat) (d : D), noRef k d = true → frz M n k d = some d := by
  intro k
  induction k with
  | zero => intro d h; cases h
  | succ k ih =>
    have many : ∀ xs : List D, xs.all (noRef k) = true → xs.mapM (frz M n k) = some xs := by
      intro xs
      induction xs with
      | nil => intro _; rfl
      | cons x xs ihs =>
        intro h
        rw [List.all_cons, Bool.and_eq_true] at h
        rw [List.mapM_cons, ih x h.1, ihs h.2]
        rfl
    intro d h
    cases d with
    | ref n => cases h
    | clo _ _ => cases h
    | tup xs => unfold noRef at h; unfold frz; rw [many xs h]; rfl
    | lst xs => unfold noRef at h; unfold frz; rw [many xs h]; rfl
    | dct ks xs => unfold noRef at h; unfold frz; rw [many xs h]; rfl
    | dtt ks xs => unfold noRef at h; unfold frz; rw [many xs h]; rfl
    | _ => rfl
theorem noRef_mono : ∀ (k : Nat) (d : D), noRef k d = true → noRef (k + 1) d = true := by
  intro k
  induction k with
  | zero => intro d h; cases h
  | succ k ih =>
    have many : ∀ xs : List D, xs.all (noRef k) = true → xs.all (noRef (k + 1)) = true := fun xs h => List.all_eq_true.mpr fun x hx => ih x (List.all_eq_true.mp h x hx)
    intro d h
    cases d with
    | ref n => cases h
    | clo _ _ => cases h
    | tup xs => unfold noRef at h ⊢; exact many xs h
    | lst xs => unfold noRef at h ⊢; exact many xs h
    | dct ks xs => unfold noRef at h ⊢; exact many xs h
    | dtt ks xs => unfold noRef at h ⊢; exact many xs h
    | _ => rfl
theorem noRef_le {k j : Nat} {d : D} (h : noRef k d = true) (hj : k ≤ j) : noRef j d = true := by
  induction hj with
  | refl => exact h
  | step _ ih => exact noRef_mono _ _ ih
theorem plain_noRef : ∀ (k : Nat) (d : D), plainD k d = true → noRef (k + 1) d = true := by
  intro k
  induction k with
  | zero => intro d h; cases d <;> first | rfl | cases h
  | succ k ih =>
    have many : ∀ xs : List D, xs.all (plainD k) = true → xs.all (noRef (k + 1)) = true := fun xs h => List.all_eq_true.mpr fun x hx => ih x (List.all_eq_true.mp h x hx)
    intro d h
    cases d with
    | tup xs =>
      obtain ⟨h1, h2⟩ : xs.length ≤ 1000000 ∧ xs.all (plainD k) = true := by simpa [plainD] using h
      unfold noRef; exact many xs h2
    | lst xs =>
      obtain ⟨h1, h2⟩ : xs.length ≤ 1000000 ∧ xs.all (plainD k) = true := by simpa [plainD] using h
      unfold noRef; exact many xs h2
    | non => rfl
    | bl => rfl
    | int => rfl
    | str => rfl
    | _ => cases h
theorem belows_iff {n : Nat} : ∀ xs : List D, belows n xs = true ↔ ∀ x ∈ xs, below n x = true
  | [] => by simp
  | x :: xs => by rw [w_cons, Bool.and_eq_true, belows_iff xs]; simp
theorem noRef_below {n : Nat} : ∀ (k : Nat) (d : D), noRef k d = true → below n d = true := by
  intro k
  induction k with
  | zero => intro d h; cases h
  | succ k ih =>
    have many : ∀ xs : List D, xs.all (noRef k) = true → belows n xs = true := fun xs h => (belows_iff xs).mpr fun x hx => ih x (List.all_eq_true.mp h x hx)
    intro d h
    cases d with
    | ref n => cases h
    | clo _ _ => cases h
    | tup xs => unfold noRef at h; rw [w_tup]; exact many xs h
    | lst xs => unfold noRef at h; rw [w_lst]; exact many xs h
    | dct ks xs => unfold noRef at h; unfold below; exact many xs h
    | dtt ks xs => unfold noRef at h; unfold below; exact many xs h
    | _ => rfl
theorem plain_below {n k : Nat} {d : D} (h : plainD k d = true) : below n d = true := noRef_below _ _ (plain_noRef k d h)
/-- a list of its own handed back -/
theorem off_ref {n h : Nat} {Q : D → Mem → Prop} {M' : Mem} {xs : List D} {k : Nat} (hh : n ≤ h) (hc : M'[h]? = some (.lst xs)) (hx : ∀ x ∈ xs, noRef k x = true) (hk : k ≤ 11) (q : Q (.lst xs) (M'.take n)) : Off n Q (.ref h) M' := by
  refine .inr ⟨by rw [w_ref]; simp; omega, .lst xs, ?_, q⟩
  unfold frz
  rw [if_neg (by omega)]
  simp only [hc]
  have : xs.mapM (frz M' n 11) = some xs := by
    clear hc q
    induction xs with
    | nil => rfl
    | cons x xs ih =>
      rw [List.mapM_cons, frz_noRef 11 x (noRef_le (hx x (by simp)) hk), ih fun y hy => hx y (by simp [hy])]
      rfl
  rw [this]
  rfl
/-- all but the box's cell as it was -/
structure Fr (h : Nat) (M M' : Mem) : Prop where
  len : M.length ≤ M'.length
  at_ : ∀ j, j < M.length → j ≠ h → M'[j]? = M[j]?
theorem Fr.refl {h : Nat} {M : Mem} : Fr h M M := ⟨Nat.le_refl _, fun _ _ _ => rfl⟩
theorem Fr.trans {h : Nat} {M1 M2 M3 : Mem} (a : Fr h M1 M2) (b : Fr h M2 M3) : Fr h M1 M3 := ⟨Nat.le_trans a.len b.len, fun j hj hn => by rw [b.at_ j (Nat.lt_of_lt_of_le hj a.len) hn, a.at_ j hj hn]⟩
theorem Fr.app {h : Nat} {M M' : Mem} (a : Fr h M M') (cs : List Cell) : Fr h M (M' ++ cs) := ⟨by simp; have := a.len; omega, fun j hj hn => by rw [List.getElem?_append_left (by have := a.len; omega)]; exact a.at_ j hj hn⟩
theorem Fr.set {h r : Nat} {M M' : Mem} (a : Fr h M M') (hr : M.length ≤ r ∨ r = h) (c : Cell) : Fr h M (M'.set r c) := ⟨by simpa using a.len, fun j hj hn => by rw [List.getElem?_set_ne (by omega)]; exact a.at_ j hj hn⟩
theorem Fr.take {h : Nat} {M M' : Mem} (a : Fr h M M') : Fr h M (M'.take M.length) ∧ (M'.take M.length).length = M.length := by
  have := a.len
  refine ⟨⟨by simp; omega, fun j hj hn => ?_⟩, by simp; omega⟩
  rw [List.getElem?_take_of_lt hj]
  exact a.at_ j hj hn
theorem Box.take {M : Mem} {h n k : Nat} (x : Box M h n) (hk : h < k) : Box (M.take k) h n := by
  obtain ⟨a, b, c, h1, h2⟩ := x
  exact ⟨a, b, c, by rw [List.getElem?_take_of_lt hk]; exact h1, h2⟩
theorem Box.app {M : Mem} {h n : Nat} (x : Box M h n) (cs : List Cell) : Box (M ++ cs) h n := by
  have := x.lt
  obtain ⟨a, b, c, h1, h2⟩ := x
  exact ⟨a, b, c, by rw [List.getElem?_append_left this]; exact h1, h2⟩
theorem Box.set {M : Mem} {h n r : Nat} (x : Box M h n) (hr : r ≠ h) (c : Cell) : Box (M.set r c) h n := by
  obtain ⟨a, b, c', h1, h2⟩ := x
  exact ⟨a, b, c', by rw [List.getElem?_set_ne hr]; exact h1, h2⟩
/-- nothing changed, some added -/
def Pf (M M' : Mem) : Prop := ∃ J, M' = M ++ J
theorem Pf.refl {M : Mem} : Pf M M := ⟨[], by simp⟩
theorem Pf.app {M M' : Mem} (a : Pf M M') (cs : List Cell) : Pf M (M' ++ cs) := by
  obtain ⟨J, rfl⟩ := a
  exact ⟨J ++ cs, by simp⟩
theorem Pf.set {M M' : Mem} {r : Nat} (a : Pf M M') (hr : M.length ≤ r) (c : Cell) : Pf M (M'.set r c) := by
  obtain ⟨J, rfl⟩ := a
  exact ⟨J.set (r - M.length) c, by rw [List.set_append_right _ _ hr]⟩
theorem Pf.take {M M' : Mem} (a : Pf M M') : M'.take M.length = M := by
  obtain ⟨J, rfl⟩ := a
  simp
theorem Pf.len {M M' : Mem} (a : Pf M M') : M.length ≤ M'.length := by
  obtain ⟨J, rfl⟩ := a
  simp
theorem Pf.get {M M' : Mem} (a : Pf M M') {j : Nat} (h : j < M.length) : M'[j]? = M[j]? := by
  obtain ⟨J, rfl⟩ := a
  rw [List.getElem?_append_left h]
/-- takes, in short -/
theorem take_wr {M : Mem} {h n : Nat} {size : Int} (x : Box M h (n + 128)) (h0 : 0 < size) (h1 : size ≤ tens 8) :
    ∃ r M', f_law_take 8 [.ref h, .int size] M = .ok (.int r) M' ∧ 0 ≤ r ∧ r < size ∧ Box M' h n ∧ M'.length = M.length ∧ ∀ j, j ≠ h → M'[j]? = M[j]? := by
  obtain ⟨r, M', q, a, b, x', c, rfl⟩ := take_ok x h0 h1
  exact ⟨r, _, q, a, b, x', by simp, fun j hj => by rw [List.getElem?_set_ne (Ne.symm hj)]⟩
/-- a tuple or a list of these -/
def Sqd (d : D) (xs : List D) : Prop := d = .tup xs ∨ d = .lst xs
theorem Sqd.q {d : D} {xs : List D} (h : Sqd d xs) (M : Mem) : seqOf M d = some xs := by rcases h with rfl | rfl <;> rfl
theorem Sqd.g {d : D} {xs : List D} (h : Sqd d xs) : gdOf d = [] := by rcases h with rfl | rfl <;> rfl
theorem Sqd.t (xs : List D) : Sqd (.tup xs) xs := .inl rfl
theorem Sqd.l (xs : List D) : Sqd (.lst xs) xs := .inr rfl
end LW
namespace LW
open PySem L2
noncomputable def b_taken_by_s1 : SS := sIf (tVal (eBin oEq (eBin oIx (eVar 1) (eC (.int 0))) (eC (.str "fill")))) (sRet (eBin oIx (eBin oIx (eVar 0) (eBin oSub (eBin oIx (eVar 1) (eC (.int 1))) (eC (.int 1)))) (eC (.int 2)))) (sNx)
noncomputable def b_taken_by_s2 : SS := sRet (eIf (tVal (eBin oEq (eBin oIx (eVar 1) (eC (.int 0))) (eC (.str "lower")))) (eBin oIx (eVar 1) (eC (.int 2))) (eC (.int 0)))
noncomputable def b_taken_by : SS := sSeq (b_taken_by_s1)
  (b_taken_by_s2)
noncomputable def f_taken_by : Fn := mkFn false 2 2 b_taken_by
noncomputable def b_brought_by_s1 : SS := sIf (tVal (eBin oEq (eBin oIx (eVar 1) (eC (.int 0))) (eC (.str "empty")))) (sRet (eTup (aCons (eBin oSub (eBin oIx (eVar 1) (eC (.int 1))) (eC (.int 1))) (aCons (eBin oIx (eBin oIx (eVar 0) (eBin oSub (eBin oIx (eVar 1) (eC (.int 1))) (eC (.int 1)))) (eC (.int 2))) (aNil))))) (sNx)
noncomputable def b_brought_by_s2 : SS := sRet (eTup (aCons (eBin oIx (eVar 1) (eC (.int 1))) (aCons (eIf (tVal (eBin oEq (eBin oIx (eVar 1) (eC (.int 0))) (eC (.str "raise")))) (eBin oIx (eVar 1) (eC (.int 2))) (eC (.int 0))) (aNil))))
noncomputable def b_brought_by : SS := sSeq (b_brought_by_s1)
  (b_brought_by_s2)
noncomputable def f_brought_by : Fn := mkFn false 2 2 b_brought_by
noncomputable def b_is_number : SS := sRet (eAnd (eUn (oIsi ["int"]) (eVar 0)) (eUn oNot (eUn (oIsi ["bool"]) (eVar 0))))
noncomputable def f_is_number : Fn := mkFn false 1 1 b_is_number
noncomputable def b_law_stair_s1 : SS := sPar [5, 6, 7] (aCons (eCall (f_law_take 8) (aCons (eVar 0) (aCons (eC (.int 4)) (aNil)))) (aCons (eCall (f_law_take 8) (aCons (eVar 0) (aCons (eBin oIx (eFrz (nLst (aCons (eC (.int 2)) (aCons (eC (.int 8)) (aCons (eC (.int 30)) (aNil)))))) (eCall (f_law_take 8) (aCons (eVar 0) (aCons (eC (.int 3)) (aNil))))) (aNil)))) (aCons (eBin oAdd (eC (.int 1)) (eCall (f_law_take 8) (aCons (eVar 0) (aCons (eC (.int 4)) (aNil))))) (aNil))))
noncomputable def b_law_stair_s2 : SS := sExpr (eMethL mAppend (eVar 3) (aCons (eTup (aCons (eBin oMul (eVar 5) (eVar 2)) (aCons (eBin oMul (eBin oAdd (eVar 5) (eVar 6)) (eVar 2)) (aCons (eBin oMul (eVar 7) (eVar 2)) (aNil))))) (aNil)))
noncomputable def b_law_stair_l1 : SS := sSeq (b_law_stair_s1)
  (b_law_stair_s2)
noncomputable def b_law_stair_s3 : SS := sFor (iRange1 (aCons (eBin oAdd (eC (.int 1)) (eCall (f_law_take 8) (aCons (eVar 0) (aCons (eVar 1) (aNil))))) (aNil))) (.nm 4) (b_law_stair_l1)
noncomputable def b_law_stair : SS := sSeq (sSet 3 (eThw (nLst (aNil))))
  (sSeq (b_law_stair_s3)
  (sRet (eFn bTuple (aCons (eVar 3) (aNil)))))
noncomputable def f_law_stair : Fn := mkFn false 3 8 b_law_stair
noncomputable def b_law_great : SS := sRet (eBin oIx (eFrz (nLst (aCons (eC (.int 1)) (aCons (eC (.int 1)) (aCons (eC (.int 1)) (aCons (eBin oPow (eC (.int 10)) (eC (.int 6))) (aCons (eBin oPow (eC (.int 10)) (eC (.int 15))) (aNil)))))))) (eCall (f_law_take 8) (aCons (eVar 0) (aCons (eC (.int 5)) (aNil)))))
noncomputable def f_law_great : Fn := mkFn false 1 1 b_law_great
noncomputable def b_put_together_c1 : ES := eBin oAdd (eVar 2) (eVar 3)
noncomputable def b_put_together : SS := sRet (eFn bTuple (aCons (eFrz (nComp (iZip true (aCons (eVar 0) (aCons (eVar 1) (aNil)))) [2, 3] (.tp [.nm 2, .nm 3]) (tTrue) (b_put_together_c1))) (aNil)))
noncomputable def f_put_together : Fn := mkFn false 2 4 b_put_together
end LW
namespace LW
open PySem L2
/-- the least of f from a on, k more behind it -/
def mnI (f : Nat → Int) (a : Nat) : Nat → Int
  | 0 => f a
  | k + 1 => if f (a + k + 1) < mnI f a k then f (a + k + 1) else mnI f a k
theorem le_mnI {f : Nat → Int} {a : Nat} {x : Int} : ∀ {k : Nat}, x ≤ mnI f a k ↔ ∀ i, a ≤ i → i ≤ a + k → x ≤ f i
  | 0 => ⟨fun h i h1 h2 => by have : i = a := by omega
                              subst this; exact h, fun h => h a (Nat.le_refl _) (Nat.le_refl _)⟩
  | k + 1 => by
    have ih := le_mnI (f := f) (a := a) (x := x) (k := k)
    unfold mnI
    constructor
    · intro h i h1 h2
      by_cases hi : i = a + k + 1
      · subst hi
        split at h <;> omega
      · refine ih.mp ?_ i h1 (by omega)
        split at h <;> omega
    · intro h
      have h1 := h (a + k + 1) (by omega) (by omega)
      have h2 := ih.mpr fun i h1 h2 => h i h1 (by omega)
      split <;> assumption
theorem mnI_congr {f g : Nat → Int} {a k : Nat} (h : ∀ i, a ≤ i → i ≤ a + k → f i = g i) : mnI f a k = mnI g a k :=
  Int.le_antisymm (le_mnI.mpr fun i h1 h2 => by rw [← h i h1 h2]; exact le_mnI.mp (Int.le_refl _) i h1 h2) (le_mnI.mpr fun i h1 h2 => by rw [h i h1 h2]; exact le_mnI.mp (Int.le_refl _) i h1 h2)
theorem eq_of_le {a b : Int} (h : ∀ x : Int, x ≤ a ↔ x ≤ b) : a = b := Int.le_antisymm ((h a).mp (Int.le_refl _)) ((h b).mpr (Int.le_refl _))
abbrev Tb := Nat → Nat → Int
/-- totals led by a table of n rows; at n nothing -/
def ledF (n : Nat) (A : Tb) (t : Nat → Int) : Nat → Int := fun i => mnI (fun q => A i q + t q) i (n - i)
theorem le_ledF {n : Nat} {A : Tb} {t : Nat → Int} {i : Nat} {x : Int} (h : i ≤ n) : x ≤ ledF n A t i ↔ ∀ q, i ≤ q → q ≤ n → x ≤ A i q + t q := by
  unfold ledF
  rw [le_mnI]
  exact ⟨fun z q h1 h2 => z q h1 (by omega), fun z q h1 h2 => z q h1 (by omega)⟩
theorem ledF_end {n : Nat} {A : Tb} {t : Nat → Int} (h0 : A n n = 0) (ht : t n = 0) : ledF n A t n = 0 := by
  unfold ledF
  rw [Nat.sub_self]
  show A n n + t n = 0
  rw [h0, ht]
  rfl
theorem ledF_congr {n : Nat} {A B : Tb} {t u : Nat → Int} {i : Nat} (h : i ≤ n) (hA : ∀ p, i ≤ p → p ≤ n → A i p = B i p) (ht : ∀ p, i ≤ p → p ≤ n → t p = u p) : ledF n A t i = ledF n B u i :=
  mnI_congr fun q h1 h2 => by rw [hA q h1 (by omega), ht q h1 (by omega)]
/-- the mosts from i on to p together -/
def sumM (m : Nat → Int) (i : Nat) : Nat → Int
  | 0 => 0
  | p + 1 => if i ≤ p then sumM m i p + m p else 0
theorem sumM_self (m : Nat → Int) (i : Nat) : sumM m i i = 0 := by
  cases i with
  | zero => rfl
  | succ i => show (if i + 1 ≤ i then _ else _) = _; rw [if_neg (by omega)]
theorem sumM_succ {m : Nat → Int} {i p : Nat} (h : i ≤ p) : sumM m i (p + 1) = sumM m i p + m p := by
  show (if i ≤ p then _ else _) = _
  rw [if_pos h]
theorem sumM_add {m : Nat → Int} {i q : Nat} (h : i ≤ q) : ∀ p, q ≤ p → sumM m i q + sumM m q p = sumM m i p
  | p, hp => by
    induction p with
    | zero =>
      have : q = 0 := by omega
      subst this
      rw [sumM_self]
      omega
    | succ p ih =>
      by_cases hq : q = p + 1
      · subst hq
        rw [sumM_self]
        omega
      · rw [sumM_succ (by omega : q ≤ p), sumM_succ (by omega : i ≤ p), ← ih (by omega)]
        omega
/-- tables alike: at the places that count -/
def Tq (n : Nat) (A B : Tb) : Prop := ∀ i p, i ≤ p → p ≤ n → A i p = B i p
theorem Tq.refl {n : Nat} {A : Tb} : Tq n A A := fun _ _ _ _ => rfl
theorem Tq.symm {n : Nat} {A B : Tb} (h : Tq n A B) : Tq n B A := fun i p h1 h2 => (h i p h1 h2).symm
theorem Tq.trans {n : Nat} {A B C : Tb} (h : Tq n A B) (g : Tq n B C) : Tq n A C := fun i p h1 h2 => (h i p h1 h2).trans (g i p h1 h2)
end LW
namespace LW
open PySem L2
@[simp] theorem r_addL (xs ys : List D) (M : Mem) : oAdd (.lst xs) (.lst ys) M = lim (xs.length + ys.length) (.ok (.lst (xs ++ ys)) M) := id rfl
theorem r_append {b h : Nat} {v : D} {xs : List D} {M : Mem} (e : M[h]? = some (.lst xs)) (hb : b ≤ h) (hl : xs.length < 1000000) : mAppend b (.ref h) [v] M = .ok .non (M.set h (.lst (xs ++ [v]))) := by
  unfold mAppend
  simp only [e]
  rw [if_pos ⟨by simp [stOk, hb], hl⟩]
theorem zip_len {xs ys : List D} : (zipD xs ys).length = min xs.length ys.length := by simp [zipD]
theorem get_app {M : Mem} {c : Cell} : (M ++ [c])[M.length]? = some c := by simp
theorem set_get {M : Mem} {h : Nat} {c : Cell} (hl : h < M.length) : (M.set h c)[h]? = some c := by simp [hl]
theorem atI_k {α : Type} {xs : List α} {k : Nat} {x : α} (h : xs[k]? = some x) {i : Int} (e : i = (k : Int)) : atI xs i = some x := by
  subst e
  exact atI_nat h
def rowL (n : Nat) (A : Tb) (i : Nat) : List Int := (List.range (n + 1 - i)).map fun j => A i (i + j)
def rowD (n : Nat) (A : Tb) (i : Nat) : List D := (rowL n A i).map .int
def TabR (n : Nat) (A : Tb) (d : D) : Prop := ∃ rows, Sqd d rows ∧ rows.length = n ∧ ∀ i, i < n → ∃ r, rows[i]? = some r ∧ Sqd r (rowD n A i)
theorem rowL_eq {n i : Nat} {A B : Tb} (h : ∀ p, i ≤ p → p ≤ n → A i p = B i p) : rowL n A i = rowL n B i := by
  unfold rowL
  refine List.map_congr_left fun j hj => ?_
  have := List.mem_range.mp hj
  exact h (i + j) (by omega) (by omega)
theorem TabR.eq {n : Nat} {A B : Tb} {d : D} (h : TabR n A d) (e : Tq n A B) : TabR n B d := by
  obtain ⟨rows, h1, h2, h3⟩ := h
  refine ⟨rows, h1, h2, fun i hi => ?_⟩
  obtain ⟨r, h4, h5⟩ := h3 i hi
  refine ⟨r, h4, ?_⟩
  have : rowD n A i = rowD n B i := by unfold rowD; rw [rowL_eq fun p h1 h2 => e i p h1 h2]
  rw [← this]
  exact h5
/-- a list of ints, in short -/
def vecD (n : Nat) (t : Nat → Int) : List D := (List.range n).map fun i => .int (t i)
theorem vecD_len {n : Nat} {t : Nat → Int} : (vecD n t).length = n := by simp [vecD]
theorem vecD_get {n i : Nat} {t : Nat → Int} (h : i < n) : (vecD n t)[i]? = some (.int (t i)) := by
  unfold vecD
  rw [List.getElem?_map, List.getElem?_range h]
  rfl
theorem vecD_succ {n : Nat} {t : Nat → Int} : vecD (n + 1) t = vecD n t ++ [.int (t n)] := by
  unfold vecD
  rw [List.range_succ, List.map_append]
  rfl
theorem vecD_ints {n : Nat} {t : Nat → Int} : vecD n t = ((List.range n).map t).map .int := by
  unfold vecD
  rw [List.map_map]
  rfl
theorem vecD_eq {n : Nat} {t u : Nat → Int} (h : ∀ i, i < n → t i = u i) : vecD n t = vecD n u := by
  unfold vecD
  refine List.map_congr_left fun i hi => ?_
  rw [h i (List.mem_range.mp hi)]
theorem below_vecD {n k : Nat} {t : Nat → Int} : belows k (vecD n t) = true := by
  rw [vecD_ints]
  exact below_ints _
theorem ok_of {f : Fn} {ds : List D} {M : Mem} {d : D} (h : Wr (f ds M) fun d' M' => d' = d ∧ M' = M) : f ds M = .ok d M := by
  obtain ⟨a, M', e, rfl, rfl⟩ := wr_of h
  exact e
end LW
namespace LW
open PySem L2
section
variable {b : Nat} {s : Slots} {M : Mem} {f : ES} {c : ET} {t : SS} {o : D → D → Mem → R D}
@[simp] theorem r_aug (i : Nat) : sAug i o f b s M = (match s[i]? with | some (some x) => (f b s M).toS s fun y M1 => (o x y M1).toS s fun z M2 => .nx (s.set i (some z)) M2 | _ => .bad) := id rfl
@[simp] theorem r_while (n : Nat) : sWhile n c t b s M = whileL b c t n s M := id rfl
end
end LW
namespace LW
open PySem L2
theorem Sqd.cut {d : D} {xs : List D} (h : Sqd d xs) (lo hi : Option Int) : ∃ d', Sqd d' (cutL xs lo hi) ∧ ∀ M, oCut d lo hi M = .ok d' M := by
  rcases h with rfl | rfl
  · exact ⟨_, .t _, fun M => rfl⟩
  · exact ⟨_, .l _, fun M => rfl⟩
theorem Sqd.len {d : D} {xs : List D} (h : Sqd d xs) (M : Mem) : bLen [d] M = .ok (.int xs.length) M := r_len (h.q M)
theorem Sqd.tup {d : D} {xs : List D} (h : Sqd d xs) (M : Mem) : bTuple [d] M = .ok (.tup xs) M := r_tuple (h.q M)
structure Stair where
  lo : Nat → Int
  mo : Nat → Int
  sz : Nat → Int
def pdL (S : Stair) (i : Nat) : List D := [.int (S.lo i), .int (S.mo i), .int (S.sz i)]
def stD (n : Nat) (S : Stair) : List D := (List.range n).map fun i => .tup (pdL S i)
def StR (n : Nat) (S : Stair) (d : D) : Prop := ∃ ps, Sqd d ps ∧ ps.length = n ∧ ∀ i, i < n → ∃ p, ps[i]? = some p ∧ Sqd p (pdL S i)
theorem stD_len {n : Nat} {S : Stair} : (stD n S).length = n := by simp [stD]
theorem stD_get {n i : Nat} {S : Stair} (h : i < n) : (stD n S)[i]? = some (.tup (pdL S i)) := by
  unfold stD
  rw [List.getElem?_map, List.getElem?_range h]
  rfl
inductive Dd where
  | fill (a : Nat)
  | empty (a : Nat)
  | raise (a : Nat) (z : Int)
  | lower (a : Nat) (z : Int)
def Dd.at_ : Dd → Nat
  | .fill a => a
  | .empty a => a
  | .raise a _ => a
  | .lower a _ => a
def Dd.l : Dd → List D
  | .fill a => [.str "fill", .int ((a : Int) + 1)]
  | .empty a => [.str "empty", .int ((a : Int) + 1)]
  | .raise a z => [.str "raise", .int ((a : Int) + 1), .int z]
  | .lower a z => [.str "lower", .int ((a : Int) + 1), .int z]
def LoR (lot : List Dd) (d : D) : Prop := ∃ ds, Sqd d ds ∧ ds.length = lot.length ∧ ∀ (i : Nat) (x : Dd), lot[i]? = some x → ∃ y, ds[i]? = some y ∧ Sqd y x.l
/-- what a deed adds to totals -/
def addF (S : Stair) : Dd → Nat → Int
  | .fill a => fun p => if p ≤ a then -(S.sz a) else 0
  | .empty a => fun p => if p < a then S.sz a else 0
  | .raise a z => fun p => if p ≤ a then z else 0
  | .lower a z => fun p => if p ≤ a then -z else 0
theorem addF_end {S : Stair} {n : Nat} {x : Dd} (h : x.at_ < n) : addF S x n = 0 := by
  cases x with
  | fill a => exact if_neg (by have : a < n := h; omega)
  | empty a => exact if_neg (by have : a < n := h; omega)
  | raise a z => exact if_neg (by have : a < n := h; omega)
  | lower a z => exact if_neg (by have : a < n := h; omega)
def Dd.tk (S : Stair) : Dd → Int
  | .fill a => S.sz a
  | .lower _ z => z
  | _ => 0
def Dd.br (S : Stair) : Dd → Int
  | .empty a => S.sz a
  | .raise _ z => z
  | _ => 0
def Dd.to : Dd → Int
  | .empty a => a
  | x => (x.at_ : Int) + 1
theorem w1 : (("fill" : Str) == "lower") = false := by decide
theorem w2 : (("fill" : Str) == "raise") = false := by decide
theorem w3 : (("fill" : Str) == "empty") = false := by decide
theorem w4 : (("empty" : Str) == "fill") = false := by decide
theorem w5 : (("empty" : Str) == "lower") = false := by decide
theorem w7 : (("raise" : Str) == "fill") = false := by decide
theorem w8 : (("raise" : Str) == "lower") = false := by decide
theorem w9 : (("raise" : Str) == "empty") = false := by decide
theorem w10 : (("lower" : Str) == "fill") = false := by decide
theorem w11 : (("lower" : Str) == "raise") = false := by decide
theorem w12 : (("lower" : Str) == "empty") = false := by decide
theorem StR.sz {n : Nat} {S : Stair} {d : D} (h : StR n S d) {a : Nat} (ha : a < n) : ∃ ps p, (∀ M, seqOf M d = some ps) ∧ atI ps (a : Int) = some p ∧ ∀ M, seqOf M p = some (pdL S a) := by
  obtain ⟨ps, s1, s2, s3⟩ := h
  obtain ⟨p, p1, p2⟩ := s3 a ha
  exact ⟨ps, p, s1.q, atI_k p1 (by omega), p2.q⟩
theorem taken_ok {n : Nat} {S : Stair} {x y : D} {e : Dd} {M : Mem} (hx : StR n S x) (hy : Sqd y e.l) (he : e.at_ < n) : f_taken_by [x, y] M = .ok (.int (e.tk S)) M := by
  refine ok_of (fn_wp rfl fun P hR => ?_)
  obtain ⟨ps, p, q1, q2, q3⟩ := hx.sz he
  simp only [pdL] at q3
  cases e with
  | fill a =>
    simp [b_taken_by, b_taken_by_s1, b_taken_by_s2, hy.q, Dd.l, q1, show atI ps (a : Int) = some p from q2, q3]
    exact hR _ _ (by simp) ⟨rfl, List.take_length⟩
  | empty a =>
    simp [b_taken_by, b_taken_by_s1, b_taken_by_s2, hy.q, Dd.l, w4, w5]
    exact hR _ _ (by simp) ⟨rfl, List.take_length⟩
  | raise a z =>
    simp [b_taken_by, b_taken_by_s1, b_taken_by_s2, hy.q, Dd.l, w7, w8]
    exact hR _ _ (by simp) ⟨rfl, List.take_length⟩
  | lower a z =>
    simp [b_taken_by, b_taken_by_s1, b_taken_by_s2, hy.q, Dd.l, w10]
    exact hR _ _ (by simp) ⟨rfl, List.take_length⟩
theorem brought_ok {n : Nat} {S : Stair} {x y : D} {e : Dd} {M : Mem} (hx : StR n S x) (hy : Sqd y e.l) (he : e.at_ < n) : f_brought_by [x, y] M = .ok (.tup [.int e.to, .int (e.br S)]) M := by
  refine ok_of (fn_wp rfl fun P hR => ?_)
  obtain ⟨ps, p, q1, q2, q3⟩ := hx.sz he
  simp only [pdL] at q3
  cases e with
  | fill a =>
    simp [b_brought_by, b_brought_by_s1, b_brought_by_s2, hy.q, Dd.l, w2, w3]
    exact hR _ _ (by simp) ⟨rfl, List.take_length⟩
  | empty a =>
    simp [b_brought_by, b_brought_by_s1, b_brought_by_s2, hy.q, Dd.l, q1, show atI ps (a : Int) = some p from q2, q3]
    exact hR _ _ (by simp) ⟨rfl, List.take_length⟩
  | raise a z =>
    simp [b_brought_by, b_brought_by_s1, b_brought_by_s2, hy.q, Dd.l, w9]
    exact hR _ _ (by simp) ⟨rfl, List.take_length⟩
  | lower a z =>
    simp [b_brought_by, b_brought_by_s1, b_brought_by_s2, hy.q, Dd.l, w11, w12]
    exact hR _ _ (by simp) ⟨rfl, List.take_length⟩
end LW
namespace LW
open PySem L2
/-- drawn from the box at h: all else as it was -/
structure Dr (h n : Nat) (M M' : Mem) : Prop where
  box : Box M' h n
  len : M'.length = M.length
  at_ : ∀ j, j ≠ h → M'[j]? = M[j]?
theorem Dr.fr {h n : Nat} {M0 M M' : Mem} (d : Dr h n M M') (f : Fr h M0 M) : Fr h M0 M' := ⟨by rw [d.len]; exact f.len, fun j hj hn => by rw [d.at_ j hn]; exact f.at_ j hj hn⟩
theorem Dr.of {h n : Nat} {M M' : Mem} (f : Fr h M M') (b : Box M' h n) (hh : h < M.length) : Dr h n M (M'.take M.length) :=
  ⟨b.take hh, f.take.2, fun j hn => by
    by_cases hj : j < M.length
    · exact f.take.1.at_ j hj hn
    · rw [List.getElem?_eq_none (by rw [f.take.2]; omega), List.getElem?_eq_none (by omega)]⟩
theorem Dr.mono {h n m : Nat} {M M' : Mem} (d : Dr h n M M') (q : m ≤ n) : Dr h m M M' := ⟨d.box.mono q, d.len, d.at_⟩
theorem Dr.trans {h n m : Nat} {M M1 M2 : Mem} (a : Dr h n M M1) (b : Dr h m M1 M2) : Dr h m M M2 := ⟨b.box, b.len.trans a.len, fun j hj => (b.at_ j hj).trans (a.at_ j hj)⟩
theorem Dr.refl {h n : Nat} {M : Mem} (b : Box M h n) : Dr h n M M := ⟨b, rfl, fun _ _ => rfl⟩
theorem take_dr {M : Mem} {h n : Nat} {size : Int} (x : Box M h (n + 128)) (h0 : 0 < size) (h1 : size ≤ tens 8) :
    ∃ r M', f_law_take 8 [.ref h, .int size] M = .ok (.int r) M' ∧ 0 ≤ r ∧ r < size ∧ Dr h n M M' := by
  obtain ⟨r, M', q, a, b, x', c, d⟩ := take_wr x h0 h1
  exact ⟨r, M', q, a, b, x', c, d⟩
theorem t8 : (1000000000000000000 : Int) ≤ tens 8 := by decide
theorem great_ok {M : Mem} {h n : Nat} (x : Box M h (n + 128)) : ∃ g M', f_law_great [.ref h] M = .ok (.int g) M' ∧ (g = 1 ∨ g = 1000000 ∨ g = 1000000000000000) ∧ Dr h n M M' := by
  obtain ⟨r, M1, q, r0, r1, d⟩ := take_dr (n := n) (size := 5) x (by decide) (by decide)
  have key : ∀ g : Int, atI [D.int 1, .int 1, .int 1, .int 1000000, .int 1000000000000000] r = some (.int g) → f_law_great [.ref h] M = .ok (.int g) M1 := by
    intro g hg
    refine Eq.trans (mk_rt (body := b_law_great) (d := .int g) (M' := M1) rfl ?_ rfl) (by rw [List.take_of_length_le (by rw [d.len]; exact Nat.le_refl _)])
    simp [b_law_great, q, hg]
  rcases (by omega : r = 0 ∨ r = 1 ∨ r = 2 ∨ r = 3 ∨ r = 4) with rfl | rfl | rfl | rfl | rfl
  · exact ⟨1, M1, key 1 rfl, .inl rfl, d⟩
  · exact ⟨1, M1, key 1 rfl, .inl rfl, d⟩
  · exact ⟨1, M1, key 1 rfl, .inl rfl, d⟩
  · exact ⟨1000000, M1, key 1000000 rfl, .inr (.inl rfl), d⟩
  · exact ⟨1000000000000000, M1, key 1000000000000000 rfl, .inr (.inr rfl), d⟩
def stOf (ts : List (Int × Int × Int)) : Stair := ⟨fun i => (ts.getD i (0, 0, 0)).1, fun i => (ts.getD i (0, 0, 0)).2.1, fun i => (ts.getD i (0, 0, 0)).2.2⟩
def tsD (ts : List (Int × Int × Int)) : List D := ts.map fun t => .tup [.int t.1, .int t.2.1, .int t.2.2]
theorem stD_of (ts : List (Int × Int × Int)) : stD ts.length (stOf ts) = tsD ts := by
  unfold stD tsD
  refine List.ext_getElem? fun i => ?_
  rw [List.getElem?_map, List.getElem?_map]
  by_cases hi : i < ts.length
  · rw [List.getElem?_range hi, List.getElem?_eq_getElem hi]
    simp [pdL, stOf, List.getD, hi]
  · rw [List.getElem?_eq_none (by simpa using hi), List.getElem?_eq_none (by simpa using hi)]
    rfl
/-- a pound by draws -/
def PdOk (g : Int) (t : Int × Int × Int) : Prop := ∃ a w z : Nat, a < 4 ∧ w < 30 ∧ 1 ≤ z ∧ z ≤ 4 ∧ t = ((a : Int) * g, ((a : Int) + w) * g, (z : Int) * g)
def StOk (g : Int) (n : Nat) (S : Stair) : Prop := ∀ i, i < n → PdOk g (S.lo i, S.mo i, S.sz i)
theorem stOk_of {g : Int} {ts : List (Int × Int × Int)} (h : ∀ t ∈ ts, PdOk g t) : StOk g ts.length (stOf ts) := fun i hi => by
  have := h ts[i] (List.getElem_mem hi)
  simpa [stOf, List.getD, hi] using this
theorem below_tsD {k : Nat} (ts : List (Int × Int × Int)) : belows k (tsD ts) = true := by
  rw [belows_iff]
  intro x hx
  obtain ⟨i, _, rfl⟩ := List.mem_map.mp hx
  simp
theorem stair_ok {M : Mem} {h n : Nat} {cap : Nat} {g : Int} (hc : 0 < cap) (hc2 : cap ≤ 100) (hg : 0 < g) (hg2 : g ≤ 1000000000000000) (x : Box M h (n + 128 + 512 * cap)) :
    ∃ k S M', f_law_stair [.ref h, .int cap, .int g] M = .ok (.tup (stD k S)) M' ∧ 1 ≤ k ∧ k ≤ cap ∧ StOk g k S ∧ Dr h n M M' := by
  have hh := x.lt
  have key : Wr (f_law_stair [.ref h, .int cap, .int g] M) fun d M' => ∃ k S, d = .tup (stD k S) ∧ 1 ≤ k ∧ k ≤ cap ∧ StOk g k S ∧ Dr h n M M' := by
    refine fn_wp rfl fun P hR => ?_
    obtain ⟨r0, M0, q0, a0, b0, d0⟩ := take_dr (M := M ++ [.lst []]) (h := h) (n := n + 512 * cap) (size := cap) ((x.app _).mono (by omega)) (by omega) (Int.le_trans (by omega) t8)
    obtain ⟨k, hk⟩ : ∃ k : Nat, 1 + r0 = (k : Int) := ⟨(1 + r0).toNat, by omega⟩
    have rg : rng1 [.int (k : Int)] M0 = .ok (rngD 0 k, []) M0 := rng1_nat (by omega)
    simp [b_law_stair, b_law_stair_s3, q0, hk, rg]
    refine wp_for (fun i s M' => ∃ v4 v5 v6 v7, s = [some (.ref h), some (.int cap), some (.int g), some (.ref M.length), v4, v5, v6, v7] ∧ Fr h M M' ∧ Box M' h (n + 512 * (cap - i)) ∧ ∃ ts, ts.length = i ∧ (∀ t ∈ ts, PdOk g t) ∧ M'[M.length]? = some (.lst (tsD ts))) ?_ ?_ ?_
    · refine ⟨_, _, _, _, rfl, d0.fr (.app .refl _), d0.box.mono (by omega), [], rfl, by simp, ?_⟩
      rw [d0.at_ _ (by omega), get_app]
      rfl
    · rintro i d s M' hi hd ⟨v4, v5, v6, v7, rfl, fr, bx, ts, lt, ok, hc'⟩
      rw [rngD_len] at hi
      obtain ⟨_, rfl⟩ := rngD_get hd
      refine ⟨_, t_nm _ _, fun P1 hN _ _ _ _ => ?_⟩
      obtain ⟨m, hm⟩ : ∃ m, m = n + 512 * (cap - (i + 1)) := ⟨_, rfl⟩
      obtain ⟨r1, M1, q1, a1, b1, d1⟩ := take_dr (M := M') (h := h) (n := m + 384) (size := 4) (bx.mono (by omega)) (by decide) (by decide)
      obtain ⟨r2, M2, q2, a2, b2, d2⟩ := take_dr (M := M1) (h := h) (n := m + 256) (size := 3) (d1.box.mono (by omega)) (by decide) (by decide)
      obtain ⟨w, hw, w0, w1⟩ : ∃ w : Int, atI [D.int 2, .int 8, .int 30] r2 = some (.int w) ∧ 0 < w ∧ w ≤ 30 := by
        rcases (by omega : r2 = 0 ∨ r2 = 1 ∨ r2 = 2) with rfl | rfl | rfl
        · exact ⟨2, rfl, by decide, by decide⟩
        · exact ⟨8, rfl, by decide, by decide⟩
        · exact ⟨30, rfl, by decide, by decide⟩
      obtain ⟨r3, M3, q3, a3, b3, d3⟩ := take_dr (M := M2) (h := h) (n := m + 128) (size := w) (d2.box.mono (by omega)) w0 (Int.le_trans (by omega) t8)
      obtain ⟨r4, M4, q4, a4, b4, d4⟩ := take_dr (M := M3) (h := h) (n := m) (size := 4) (d3.box.mono (by omega)) (by decide) (by decide)
      have m1 : ∀ (y : Int) (M : Mem), oMul (.int y) (.int g) M = .ok (.int (y * g)) M := fun y M => r_mul (mul_r (by omega) (by omega))
      have hne : M.length ≠ h := by omega
      have c4 : M4[M.length]? = some (.lst (tsD ts)) := by rw [d4.at_ _ hne, d3.at_ _ hne, d2.at_ _ hne, d1.at_ _ hne]; exact hc'
      have lts : (tsD ts).length = i := by simp [tsD, lt]
      have ap := r_append (b := M.length) (v := .tup [.int (r1 * g), .int ((r1 + r3) * g), .int ((1 + r4) * g)]) c4 (Nat.le_refl _) (by omega)
      simp [b_law_stair_l1, b_law_stair_s1, b_law_stair_s2, q1, q2, hw, q3, q4, m1, c4, ap]
      refine hN _ _ (by simp) ⟨_, _, _, _, rfl, (d4.fr (d3.fr (d2.fr (d1.fr fr)))).set (.inl (Nat.le_refl _)) _, (d4.box.set hne _).mono (by omega), ts ++ [(r1 * g, (r1 + r3) * g, (1 + r4) * g)], by simp [lt], fun t ht => ?_, ?_⟩
      · rcases List.mem_append.mp ht with ht | ht
        · exact ok t ht
        · have : t = (r1 * g, (r1 + r3) * g, (1 + r4) * g) := by simpa using ht
          subst this
          exact ⟨r1.toNat, r3.toNat, (1 + r4).toNat, by omega, by omega, by omega, by omega, by rw [show ((r1.toNat : Nat) : Int) = r1 by omega, show ((r3.toNat : Nat) : Int) = r3 by omega, show (((1 + r4).toNat : Nat) : Int) = 1 + r4 by omega]⟩
      · rw [set_get (lt_of_get c4)]
        simp [tsD]
    · rintro s' M' ⟨v4, v5, v6, v7, rfl, fr, bx, ts, lt, ok, hc'⟩
      rw [rngD_len] at lt bx
      have tp := r_tuple (M := M') (x := .ref M.length) (ys := tsD ts) (by simp [hc'])
      simp [tp]
      refine hR _ _ (by simp [below_tsD]) ⟨k, stOf ts, by rw [← lt, stD_of], by omega, by omega, by rw [← lt]; exact stOk_of ok, .of fr (bx.mono (by omega)) hh⟩
  obtain ⟨d, M', e, k, S, rfl, h1, h2, h3, h4⟩ := wr_of key
  exact ⟨k, S, M', e, h1, h2, h3, h4⟩
end LW
namespace LW
open PySem L2
/-- chambers: high or not -/
def chS (b : Bool) : Str := if b then "high" else "low"
def chD (n : Nat) (c : Nat → Bool) : List D := (List.range n).map fun i => .str (chS (c i))
theorem chD_len {n : Nat} {c : Nat → Bool} : (chD n c).length = n := by simp [chD]
theorem chD_get {n i : Nat} {c : Nat → Bool} (h : i < n) : (chD n c)[i]? = some (.str (chS (c i))) := by
  unfold chD
  rw [List.getElem?_map, List.getElem?_range h]
  rfl
def turnC (c : Nat → Bool) (a : Nat) (b : Bool) : Nat → Bool := fun i => if i = a then b else c i
theorem below_chD {k n : Nat} {c : Nat → Bool} : belows k (chD n c) = true := by
  rw [belows_iff]
  intro x hx
  obtain ⟨i, _, rfl⟩ := List.mem_map.mp hx
  simp
theorem vec_set {n a : Nat} {t : Nat → Int} {v : Int} (ha : a < n) : (vecD n t).set a (.int v) = vecD n fun i => if i = a then v else t i := by
  refine List.ext_getElem? fun i => ?_
  by_cases hi : i < n
  · rw [vecD_get hi, List.getElem?_set]
    by_cases h : a = i
    · subst h
      rw [if_pos rfl, if_pos (by rw [vecD_len]; exact ha), if_pos rfl]
    · rw [if_neg h, vecD_get hi, if_neg (fun e => h e.symm)]
  · rw [List.getElem?_eq_none (by simp [vecD_len]; omega), List.getElem?_eq_none (by rw [vecD_len]; omega)]
end LW
namespace LW
open PySem L2
section
variable {b : Nat} {hs : List Nat} {M0 M : Mem} {t t1 : Tg} {c c1 : ET} {e : ES} {s : Slots} {ds : List D} {it it1 : EI} {vs1 own : List Nat}
@[simp] theorem r_comp2 : nComp2 it own t c it1 vs1 t1 c1 e b s M = (it b s M).bind fun p M1 => (comp2L b p.2 M1 t c it1 vs1 t1 c1 e (wipeD s own) p.1 M1).nox.bind fun zs M2 => lim zs.length (.ok zs M2) := id rfl
end
theorem bls_of (bs : List Bool) : blsOf (bs.map .bl) = some bs := by
  induction bs with
  | nil => rfl
  | cons z zs ih =>
    show (blsOf (zs.map .bl)).map (z :: ·) = _
    rw [ih]
    rfl
theorem r_allB {M : Mem} {α : Type} (xs : List α) (p : α → Bool) : bAll [.lst (xs.map fun x => .bl (p x))] M = .ok (.bl (xs.all p)) M := by
  have e : (xs.map fun x => D.bl (p x)) = (xs.map p).map .bl := by simp
  rw [e]
  show (match (some ((xs.map p).map D.bl)).bind blsOf with | some ys => _ | none => _) = _
  simp only [Option.bind_some, bls_of]
  congr 2
  simp
def isNum : D → Bool
  | .int _ => true
  | _ => false
def isTup : D → Bool
  | .tup _ => true
  | _ => false
theorem isi_int {k : Nat} {d : D} {M : Mem} (h : plainD k d = true) : f_is_number [d] M = .ok (.bl (isNum d)) M := by
  refine ok_of (fn_wp rfl fun P hR => ?_)
  cases d with
  | non => simp [b_is_number, oIsi, isTy]; exact hR _ _ (by simp) ⟨rfl, List.take_length⟩
  | bl b => simp [b_is_number, oIsi, isTy]; exact hR _ _ (by simp) ⟨rfl, List.take_length⟩
  | int b => simp [b_is_number, oIsi, isTy]; exact hR _ _ (by simp) ⟨rfl, List.take_length⟩
  | str b => simp [b_is_number, oIsi, isTy]; exact hR _ _ (by simp) ⟨rfl, List.take_length⟩
  | tup b => simp [b_is_number, oIsi, isTy]; exact hR _ _ (by simp) ⟨rfl, List.take_length⟩
  | lst b => simp [b_is_number, oIsi, isTy]; exact hR _ _ (by simp) ⟨rfl, List.take_length⟩
  | ref n => cases k <;> cases h
  | scr n => cases k <;> cases h
  | dct _ _ => cases k <;> cases h
  | dtt _ _ => cases k <;> cases h
  | exn _ _ => cases k <;> cases h
  | key _ => cases k <;> cases h
  | clo _ _ => cases k <;> cases h
theorem isi_tup {k : Nat} {d : D} {M : Mem} (h : plainD k d = true) : oIsi ["tuple"] d M = .ok (.bl (isTup d)) M := by
  cases d with
  | ref n => cases k <;> cases h
  | scr n => cases k <;> cases h
  | dct _ _ => cases k <;> cases h
  | dtt _ _ => cases k <;> cases h
  | exn _ _ => cases k <;> cases h
  | key _ => cases k <;> cases h
  | clo _ _ => cases k <;> cases h
  | _ => simp [oIsi, isTy, isTup]
end LW
namespace LW
open PySem L2
noncomputable def b_law_cells_s1 : SS := sSet 2 (eCall f_law_folded (aCons (eVar 0) (aCons (eVar 1) (aNil))))
noncomputable def b_law_cells_s2 : SS := sRet (eIf (tVal (eBin oNe (eVar 2) (eFrz (nLst (aNil))))) (eVar 2) (eFrz (nLst (aCons (eC (.int 0)) (aNil)))))
noncomputable def b_law_cells : SS := sSeq (b_law_cells_s1)
  (b_law_cells_s2)
noncomputable def f_law_cells : Fn := mkFn false 2 3 b_law_cells
noncomputable def b_law_of : SS := sRet (eBin oIx (eVar 1) (eCall (f_law_take 8) (aCons (eVar 0) (aCons (eFn bLen (aCons (eVar 1) (aNil))) (aNil)))))
noncomputable def f_law_of : Fn := mkFn false 2 2 b_law_of
noncomputable def b_law_levels_c1 : ES := eBin oAdd (eVar 3) (eBin oMul (eVar 2) (eCall (f_law_take 8) (aCons (eVar 0) (aCons (eBin oAdd (eBin oDiv (eBin oSub (eVar 4) (eVar 3)) (eVar 2)) (eC (.int 1))) (aNil)))))
noncomputable def b_law_levels : SS := sRet (eFn bTuple (aCons (eFrz (nComp (iOf (eVar 1)) [3, 4, 5] (.tp [.nm 3, .nm 4, .nm 5]) (tTrue) (b_law_levels_c1))) (aNil)))
noncomputable def f_law_levels : Fn := mkFn false 3 6 b_law_levels
noncomputable def b_law_chambers_c1 : ES := eBin oIx (eFrz (nLst (aCons (eC (.str "low")) (aCons (eC (.str "high")) (aNil))))) (eCall (f_law_take 8) (aCons (eVar 0) (aCons (eC (.int 2)) (aNil))))
noncomputable def b_law_chambers : SS := sRet (eFn bTuple (aCons (eFrz (nComp (iRange1 (aCons (eVar 1) (aNil))) [2] (.nm 2) (tTrue) (b_law_chambers_c1))) (aNil)))
noncomputable def f_law_chambers : Fn := mkFn false 2 3 b_law_chambers
end LW
namespace LW
open PySem L2
@[simp] theorem r_revT (xs : List D) (M : Mem) : oRev (.tup xs) M = .ok (.tup xs.reverse) M := id rfl
@[simp] theorem r_revL (xs : List D) (M : Mem) : oRev (.lst xs) M = .ok (.lst xs.reverse) M := id rfl
section
variable {b : Nat} {s : Slots} {M : Mem} {fa : EA} {f1 f2 g : ES}
def dnR (ds : List D) (M1 : Mem) : R (List D × List Nat) := match ds with
  | [.int i, .int j, .int c] => if rngOk i ∧ rngOk j ∧ c = -1 then .ok ((List.range (i - j).toNat).map fun (k : Nat) => .int (i + (k : Int) * (-1)), []) M1 else .bad
  | _ => .bad
@[simp] theorem r_down : iDown fa b s M = (fa b s M).bind dnR := id rfl
/-- n - 1, .., 0 -/
def dnD (n : Nat) : List D := (List.range n).map fun (k : Nat) => .int ((n - 1 - k : Nat) : Int)
theorem dnD_len (n : Nat) : (dnD n).length = n := by simp [dnD]
theorem dnD_get {n i : Nat} (h : i < n) : (dnD n)[i]? = some (.int ((n - 1 - i : Nat) : Int)) := by
  unfold dnD
  rw [List.getElem?_map, List.getElem?_range h]
  rfl
theorem dn_ok {n : Nat} (h : n < 2 ^ 61) : dnR [.int ((n : Int) - 1), .int (-1), .int (-1)] M = .ok (dnD n, []) M := by
  unfold dnR
  simp only
  rw [if_pos ⟨⟨by omega, by omega⟩, ⟨by decide, by decide⟩, by trivial⟩, show ((n : Int) - 1 - -1).toNat = n by omega]
  congr 2
  unfold dnD
  refine List.map_congr_left fun k hk => ?_
  have := List.mem_range.mp hk
  congr 1
  omega
@[simp] theorem r_dix (k1 k2 : Str) : eDix k1 k2 f1 f2 g b s M = (f1 b s M).nox.bind fun x M1 => (f2 b s M1).nox.bind fun y M2 => (g b s M2).bind fun z M3 => match z with
  | .str k => if k = k1 then .ok x M3 else if k = k2 then .ok y M3 else .bad
  | _ => .bad := id rfl
end
theorem u1 : (("fill" : Str) = "empty") = False := by simp; decide
theorem u2 : (("empty" : Str) = "fill") = False := by simp; decide
/-- the total of levels from i on -/
def totF (n : Nat) (l : Nat → Int) : Nat → Int := fun i => sumM l i n
theorem totF_end (n : Nat) (l : Nat → Int) : totF n l n = 0 := sumM_self l n
theorem sumM_head {m : Nat → Int} {i p : Nat} (h : i < p) : sumM m i p = m i + sumM m (i + 1) p := by
  rw [← sumM_add (m := m) (show i ≤ i + 1 by omega) p h, sumM_succ (Nat.le_refl i), sumM_self]
  omega
theorem totF_step {n : Nat} {l : Nat → Int} {i : Nat} (h : i < n) : totF n l i = l i + totF n l (i + 1) := sumM_head h
def lvF (t : Nat → Int) : Nat → Int := fun i => t i - t (i + 1)
theorem lv_tot {n : Nat} {l : Nat → Int} {i : Nat} (h : i < n) : lvF (totF n l) i = l i := by
  unfold lvF
  rw [totF_step h]
  omega
theorem tot_lv {n : Nat} {t : Nat → Int} (h0 : t n = 0) : ∀ {i : Nat}, i ≤ n → totF n (lvF t) i = t i := by
  have key : ∀ k i, i + k = n → totF n (lvF t) i = t i := by
    intro k
    induction k with
    | zero =>
      intro i hi
      have : i = n := by omega
      subst this
      rw [totF_end, h0]
    | succ k ih =>
      intro i hi
      rw [totF_step (by omega), ih (i + 1) (by omega)]
      unfold lvF
      omega
  intro i hi
  exact key (n - i) i (by omega)
theorem zip_vec {n : Nat} {t u : Nat → Int} : zipD (vecD n t) (vecD n u) = (List.range n).map fun i => .tup [.int (t i), .int (u i)] := by
  unfold zipD vecD
  rw [List.zipWith_map, List.zipWith_self]
theorem comp_zip {n b : Nat} {hs : List Nat} {M M0 : Mem} {t u : Nat → Int} {o : D → D → Mem → R D} (op : Int → Int → Int) (ho : ∀ x y, o (.int x) (.int y) M = .ok (.int (op x y)) M) {i j : Nat} {s : Slots} {e : ES} (he : e = eBin o (eVar i) (eVar j)) (hij : i ≠ j) (hi : i < s.length) (hj : j < s.length) (hg : gdOk hs M0 M) :
    compL b hs M0 (.tp [.nm i, .nm j]) tTrue e s (zipD (vecD n t) (vecD n u)) M = .ok (vecD n fun k => op (t k) (u k)) M := by
  subst he
  rw [zip_vec]
  have e : (vecD n fun k => op (t k) (u k)) = ((List.range n).map fun i => D.tup [.int (t i), .int (u i)]).map (fun d => match d with | .tup [.int x, .int y] => D.int (op x y) | _ => .non) := by
    unfold vecD
    rw [List.map_map]
    rfl
  rw [e]
  refine comp_map _ (fun d hd => ?_) hg
  obtain ⟨k, _, rfl⟩ := List.mem_map.mp hd
  refine ⟨(s.set i (some (.int (t k)))).set j (some (.int (u k))), by simp, ?_⟩
  have g1 : ((s.set i (some (D.int (t k)))).set j (some (D.int (u k))))[i]? = some (some (.int (t k))) := by
    rw [List.getElem?_set_ne (Ne.symm hij)]
    simp [hi]
  have g2 : ((s.set i (some (D.int (t k)))).set j (some (D.int (u k))))[j]? = some (some (.int (u k))) := by simp [hj]
  simp only [r_bin, r_var, g1, g2, bind_ok, ho]
theorem zip_vlen {n : Nat} {t u : Nat → Int} : (zipD (vecD n t) (vecD n u)).length = n := by rw [zip_len, vecD_len, vecD_len]; omega
theorem over_step {n : Nat} {mo t : Nat → Int} {i : Nat} (h : i < n) : ledF n (sumM mo) t i = if mo i + ledF n (sumM mo) t (i + 1) < t i then mo i + ledF n (sumM mo) t (i + 1) else t i := by
  refine eq_of_le fun x => ?_
  have key : x ≤ ledF n (sumM mo) t i ↔ x ≤ t i ∧ x ≤ mo i + ledF n (sumM mo) t (i + 1) := by
    rw [le_ledF (by omega)]
    constructor
    · intro z
      refine ⟨?_, ?_⟩
      · have := z i (Nat.le_refl _) (by omega)
        rw [sumM_self] at this
        omega
      · have : x - mo i ≤ ledF n (sumM mo) t (i + 1) := (le_ledF (by omega)).mpr fun q h1 h2 => by
          have := z q (by omega) h2
          rw [sumM_head (by omega)] at this
          omega
        omega
    · intro ⟨z1, z2⟩ q h1 h2
      by_cases hq : q = i
      · subst hq
        rw [sumM_self]
        omega
      · have : x - mo i ≤ ledF n (sumM mo) t (i + 1) := by omega
        have := (le_ledF (by omega)).mp this q (by omega) h2
        rw [sumM_head (by omega)]
        omega
  rw [key]
  split <;> omega
/-- what runs over out of each pound -/
def ranF (t t' : Nat → Int) : Nat → Int := fun i => t i - t' i
end LW
namespace LW
open PySem L2
/-- the levels behind a deed, ahead of running over -/
def lvD (S : Stair) (l : Nat → Int) : Dd → Nat → Int
  | .fill a => fun i => if i = a then l a - S.sz a else l i
  | .empty a => fun i => if i + 1 = a then l i + S.sz a else l i
  | .raise a z => fun i => if i = a then l a + z else l i
  | .lower a z => fun i => if i = a then l a - z else l i
theorem sum_one {l : Nat → Int} {a n : Nat} {z : Int} (ha : a < n) : ∀ {i : Nat}, i ≤ n → totF n (fun j => if j = a then l a + z else l j) i = totF n l i + if i ≤ a then z else 0 := by
  have key : ∀ k i, i + k = n → totF n (fun j => if j = a then l a + z else l j) i = totF n l i + if i ≤ a then z else 0 := by
    intro k
    induction k with
    | zero =>
      intro i hi
      have : i = n := by omega
      subst this
      rw [totF_end, totF_end, if_neg (by omega)]
      rfl
    | succ k ih =>
      intro i hi
      rw [totF_step (by omega), totF_step (l := l) (by omega), ih (i + 1) (by omega)]
      by_cases h : i = a
      · subst h
        rw [if_pos rfl, if_neg (by omega), if_pos (by omega)]
        omega
      · rw [if_neg h]
        by_cases h' : i + 1 ≤ a
        · rw [if_pos h', if_pos (by omega)]
          omega
        · rw [if_neg h', if_neg (by omega)]
          omega
  intro i hi
  exact key (n - i) i (by omega)
theorem totF_congr {n : Nat} {l l' : Nat → Int} {i : Nat} (h : ∀ j, j < n → l j = l' j) (hi : i ≤ n) : totF n l i = totF n l' i := by
  have key : ∀ k i, i + k = n → totF n l i = totF n l' i := by
    intro k
    induction k with
    | zero =>
      intro i hi
      have : i = n := by omega
      subst this
      rw [totF_end, totF_end]
    | succ k ih =>
      intro i hi
      rw [totF_step (by omega), totF_step (l := l') (by omega), ih (i + 1) (by omega), h i (by omega)]
  exact key (n - i) i (by omega)
theorem tot_deed {S : Stair} {l : Nat → Int} {n : Nat} {e : Dd} (he : e.at_ < n) {i : Nat} (hi : i ≤ n) : totF n (lvD S l e) i = totF n l i + addF S e i := by
  cases e with
  | fill a =>
    have := sum_one (l := l) (z := -(S.sz a)) (show a < n from he) hi
    show totF n (fun i => if i = a then l a - S.sz a else l i) i = _ + if i ≤ a then -(S.sz a) else 0
    rw [← this]
    refine totF_congr (fun j hj => ?_) hi
    by_cases h : j = a
    · rw [if_pos h, if_pos h]; omega
    · rw [if_neg h, if_neg h]
  | empty a =>
    show totF n (fun i => if i + 1 = a then l i + S.sz a else l i) i = _ + if i < a then S.sz a else 0
    by_cases ha : a = 0
    · subst ha
      rw [if_neg (by omega), Int.add_zero]
      exact totF_congr (fun j hj => by rw [if_neg (by omega)]) hi
    · have := sum_one (l := l) (z := S.sz a) (show a - 1 < n by have : a < n := he; omega) hi
      have e1 : (if i < a then S.sz a else 0) = if i ≤ a - 1 then S.sz a else 0 := by
        by_cases h : i < a
        · rw [if_pos h, if_pos (by omega)]
        · rw [if_neg h, if_neg (by omega)]
      rw [e1, ← this]
      refine totF_congr (fun j hj => ?_) hi
      by_cases h : j = a - 1
      · rw [if_pos (by omega), if_pos h, h]
      · rw [if_neg (by omega), if_neg h]
  | raise a z => exact sum_one (l := l) (z := z) (show a < n from he) hi
  | lower a z =>
    have := sum_one (l := l) (z := -z) (show a < n from he) hi
    show totF n (fun i => if i = a then l a - z else l i) i = _ + if i ≤ a then -z else 0
    rw [← this]
    refine totF_congr (fun j hj => ?_) hi
    by_cases h : j = a
    · rw [if_pos h, if_pos h]; omega
    · rw [if_neg h, if_neg h]
/-- chambers behind a deed -/
def chC (c : Nat → Bool) : Dd → Nat → Bool
  | .fill a => turnC c a true
  | .empty a => turnC c a false
  | _ => c
theorem ch_set {n a : Nat} {c : Nat → Bool} {b : Bool} (ha : a < n) : (chD n c).set a (.str (chS b)) = chD n (turnC c a b) := by
  refine List.ext_getElem? fun i => ?_
  by_cases hi : i < n
  · rw [chD_get hi, List.getElem?_set]
    unfold turnC
    by_cases h : a = i
    · subst h
      rw [if_pos rfl, if_pos (by rw [chD_len]; exact ha), if_pos rfl]
    · rw [if_neg h, chD_get hi, if_neg (fun e => h e.symm)]
  · rw [List.getElem?_eq_none (by simp [chD_len]; omega), List.getElem?_eq_none (by rw [chD_len]; omega)]
/-- why a deed is refused -/
def fltF (S : Stair) (l : Nat → Int) (c : Nat → Bool) : Dd → Option Str
  | .fill a => if c a = true then some "shut" else if l a - S.sz a < S.lo a then some "dry" else none
  | .empty a => if c a = false then some "shut" else none
  | .lower a z => if l a - z < S.lo a then some "dry" else none
  | .raise _ _ => none
/-- totals behind a deed -/
def goF (n : Nat) (S : Stair) (t : Nat → Int) (e : Dd) : Nat → Int := ledF n (sumM S.mo) fun i => t i + addF S e i
theorem goF_end {n : Nat} {S : Stair} {t : Nat → Int} {e : Dd} (he : e.at_ < n) (h0 : t n = 0) : goF n S t e n = 0 := ledF_end (sumM_self _ _) (by rw [h0, addF_end he]; rfl)
/-- a stand -/
def sdD (n : Nat) (l : Nat → Int) (c : Nat → Bool) : D := .tup [.tup (vecD n l), .tup (chD n c)]
theorem vec_set' {n a : Nat} {t : Nat → Int} {v : Int} {u : Nat → Int} (ha : a < n) (h : ∀ i, i < n → u i = if i = a then v else t i) : (vecD n t).set a (.int v) = vecD n u := by
  rw [vec_set ha]
  exact vecD_eq fun i hi => (h i hi).symm
theorem chS_hi : chS true = "high" := rfl
theorem chS_lo : chS false = "low" := rfl
theorem x1 : (("low" : Str) == "high") = false := by decide
theorem x2 : (("high" : Str) == "low") = false := by decide
section
variable {n : Nat} {S : Stair} {x y : D} {l : Nat → Int} {c : Nat → Bool} {e : Dd} {M : Mem} {lo : Bool}
end
end LW
namespace LW
open PySem L2
def goL (n : Nat) (S : Stair) : List Dd → (Nat → Int) → Nat → Int
  | [], t => t
  | e :: r, t => goL n S r (goF n S t e)
def chL : List Dd → (Nat → Bool) → Nat → Bool
  | [], c => c
  | e :: r, c => chL r (chC c e)
def sumA (S : Stair) (lot : List Dd) (i : Nat) : Int := (lot.map fun e => addF S e i).sum
theorem goL_app (n : Nat) (S : Stair) : ∀ (r q : List Dd) (t : Nat → Int), goL n S (r ++ q) t = goL n S q (goL n S r t)
  | [], _, _ => rfl
  | e :: r, q, t => goL_app n S r q (goF n S t e)
theorem chL_app : ∀ (r q : List Dd) (c : Nat → Bool), chL (r ++ q) c = chL q (chL r c)
  | [], _, _ => rfl
  | e :: r, q, c => chL_app r q (chC c e)
theorem sumA_app (S : Stair) (r q : List Dd) (i : Nat) : sumA S (r ++ q) i = sumA S r i + sumA S q i := by simp [sumA]
theorem sumA_one (S : Stair) (e : Dd) (i : Nat) : sumA S [e] i = addF S e i := by simp [sumA]
theorem goF_congr {n : Nat} {S : Stair} {t u : Nat → Int} {e : Dd} (h : ∀ i, i ≤ n → t i = u i) {i : Nat} (hi : i ≤ n) : goF n S t e i = goF n S u e i :=
  ledF_congr hi (fun _ _ _ => rfl) fun p _ h2 => by rw [h p h2]
theorem goL_end {n : Nat} {S : Stair} : ∀ {lot : List Dd} {t : Nat → Int}, (∀ e ∈ lot, e.at_ < n) → t n = 0 → goL n S lot t n = 0
  | [], t, _, h => h
  | e :: r, t, he, h => goL_end (lot := r) (fun x hx => he x (by simp [hx])) (goF_end (he e (by simp)) h)
theorem zero_row {n : Nat} {ps : List D} (h : ps.length = n) : ps.map (fun _ => D.int 0) = vecD n fun _ => 0 := by
  subst h
  unfold vecD
  refine List.ext_getElem? fun j => ?_
  rw [List.getElem?_map, List.getElem?_map]
  by_cases h : j < ps.length
  · rw [List.getElem?_eq_getElem h, List.getElem?_range h]; rfl
  · rw [List.getElem?_eq_none (by omega), List.getElem?_eq_none (by simpa using h)]; rfl
theorem loR_get {lot : List Dd} {y : D} (h : LoR lot y) : ∃ ds, Sqd y ds ∧ ds.length = lot.length ∧ ∀ i, (h : i < lot.length) → ∃ z, ds[i]? = some z ∧ Sqd z (lot[i]).l := by
  obtain ⟨ds, h1, h2, h3⟩ := h
  exact ⟨ds, h1, h2, fun i hi => h3 i lot[i] (List.getElem?_eq_getElem hi)⟩
theorem take_one' {lot : List Dd} {i : Nat} (hi : i < lot.length) : lot.take (i + 1) = lot.take i ++ [lot[i]] := by
  rw [List.take_add_one, List.getElem?_eq_getElem hi]
  rfl
theorem put_ok {n : Nat} {x y : D} {t u : Nat → Int} {M : Mem} (hn : n ≤ 1000) (hx : Sqd x (vecD n t)) (hy : Sqd y (vecD n u)) : f_put_together [x, y] M = .ok (.tup (vecD n fun i => t i + u i)) M := by
  refine ok_of (fn_wp rfl fun P hR => ?_)
  have cp : ∀ s : Slots, s.length = 4 → compL M.length [] M (.tp [.nm 2, .nm 3]) tTrue b_put_together_c1 s (zipD (vecD n t) (vecD n u)) M = .ok (vecD n fun k => t k + u k) M := fun s hs => comp_zip (fun x y => x + y) (fun x y => by simp) rfl (by decide) (by omega) (by omega) (by simp)
  have lz : (vecD n t).length = (vecD n u).length := by rw [vecD_len, vecD_len]
  have lz2 : (zipD (vecD n t) (vecD n u)).length ≤ 1000000 := by rw [zip_vlen]; omega
  have tp := r_tuple (M := M) (q_lst M (vecD n fun k => t k + u k))
  simp [b_put_together, hx.q, hx.g, hy.q, hy.g, lz, lz2, wipeD, cp, tp]
  exact hR _ _ (by simp [below_vecD]) ⟨rfl, List.take_length⟩
end LW
namespace LW
open PySem L2
section
variable {n : Nat} {S : Stair} {x y : D} {l : Nat → Int} {c : Nat → Bool} {e : Dd} {M : Mem}
end
end LW
namespace LW
open PySem L2
/-- totals at which nothing runs over -/
def Still (n : Nat) (S : Stair) (t : Nat → Int) : Prop := ∀ i, i ≤ n → ledF n (sumM S.mo) t i = t i
theorem still_lv {n : Nat} {S : Stair} {l : Nat → Int} (h : ∀ i, i < n → l i ≤ S.mo i) : Still n S (totF n l) := by
  have key : ∀ k i, i + k = n → ledF n (sumM S.mo) (totF n l) i = totF n l i := by
    intro k
    induction k with
    | zero =>
      intro i hi
      have : i = n := by omega
      subst this
      rw [ledF_end (sumM_self _ _) (totF_end _ _), totF_end]
    | succ k ih =>
      intro i hi
      rw [over_step (by omega), ih (i + 1) (by omega), totF_step (i := i) (by omega)]
      have := h i (by omega)
      rw [if_neg (by omega)]
  intro i hi
  exact key (n - i) i (by omega)
theorem still_congr {n : Nat} {S : Stair} {t u : Nat → Int} (h : Still n S t) (e : ∀ i, i ≤ n → t i = u i) : Still n S u := fun i hi => by
  rw [← e i hi, ← h i hi]
  exact (ledF_congr hi (fun _ _ _ => rfl) fun p _ h2 => (e p h2).symm)
section
variable {n : Nat} {S : Stair} {x y z : D} {l : Nat → Int} {lot : List Dd} {M : Mem}
@[simp] theorem r_zip3 {b : Nat} {s : Slots} {fa : EA} (st : Bool) : iZip3 st fa b s M = (fa b s M).bind fun ds M1 => match ds with
  | [x, y, z] => match seqOf M1 x, seqOf M1 y, seqOf M1 z with
    | some xs, some ys, some zs => if st = true ∧ (xs.length ≠ ys.length ∨ xs.length ≠ zs.length) then .bad else .ok (zip3D xs ys zs, gdOf x ++ gdOf y ++ gdOf z) M1
    | _, _, _ => .bad
  | _ => .bad := id rfl
end
end LW
namespace LW
open PySem L2
theorem same_plain {x : D} {M : Mem} (h : plainD 9 x = true) : f_law_same 10 [x, x] M = .ok (.bl true) M := same_ok 9 x M h
def ShL (d : D) (b : Nat) : Prop := ∃ n, shw d = some n ∧ n ≤ b
theorem ShL.mono {d : D} {b c : Nat} (h : ShL d b) (q : b ≤ c) : ShL d c := by
  obtain ⟨n, h1, h2⟩ := h
  exact ⟨n, h1, by omega⟩
theorem pd_small {g : Int} {t : Int × Int × Int} (h : PdOk g t) (g0 : 0 < g) (g1 : g ≤ 1000000000000000) : 0 ≤ t.1 ∧ t.1 ≤ t.2.1 ∧ t.2.1 ≤ 32 * g ∧ g ≤ t.2.2 ∧ t.2.2 ≤ 4 * g := by
  obtain ⟨a, w, z, h1, h2, h3, h4, rfl⟩ := h
  have e1 : (0 : Int) ≤ (a : Int) * g := Int.mul_nonneg (by omega) (by omega)
  have e2 : (0 : Int) ≤ (w : Int) * g := Int.mul_nonneg (by omega) (by omega)
  have e3 : ((a : Int) + w) * g = (a : Int) * g + (w : Int) * g := Int.add_mul _ _ _
  have e4 : ((a : Int) + w) * g ≤ 32 * g := Int.mul_le_mul_of_nonneg_right (by omega) (by omega)
  have e5 : (1 : Int) * g ≤ (z : Int) * g := Int.mul_le_mul_of_nonneg_right (by omega) (by omega)
  have e6 : (z : Int) * g ≤ 4 * g := Int.mul_le_mul_of_nonneg_right (by omega) (by omega)
  refine ⟨e1, ?_, e4, ?_, e6⟩
  · show (a : Int) * g ≤ ((a : Int) + w) * g
    omega
  · show g ≤ (z : Int) * g
    omega
end LW
namespace LW
open PySem L2
def Tle (n : Nat) (A B : Tb) : Prop := ∀ i p, i ≤ p → p ≤ n → A i p ≤ B i p
theorem Tle.refl {n : Nat} {A : Tb} : Tle n A A := fun _ _ _ _ => Int.le_refl _
theorem Tq.le {n : Nat} {A B : Tb} (h : Tq n A B) : Tle n A B := fun i p h1 h2 => Int.le_of_eq (h i p h1 h2)
theorem Tle.trans {n : Nat} {A B C : Tb} (h : Tle n A B) (g : Tle n B C) : Tle n A C := fun i p h1 h2 => Int.le_trans (h i p h1 h2) (g i p h1 h2)
end LW
namespace LW
open PySem L2
@[simp] theorem r_isB (i j : Bool) (M : Mem) : oIsB false (.bl i) (.bl j) M = .ok (.bl (i == j)) M := id rfl
@[simp] theorem r_isntB (i j : Bool) (M : Mem) : oIsB true (.bl i) (.bl j) M = .ok (.bl (i != j)) M := id rfl
end LW
namespace LW
open PySem L2
end LW
namespace LW
open PySem L2
@[simp] theorem r_nadd (f g : ES) (b : Nat) (s : Slots) (M : Mem) : nAdd f g b s M = (f b s M).bind fun x M1 => (g b s M1).bind fun y M2 => match lstOf M2 x, lstOf M2 y with
  | some xs, some ys => lim (xs.length + ys.length) (.ok (xs ++ ys) M2)
  | _, _ => .bad := id rfl
@[simp] theorem r_nzip (st : Bool) (f : EA) (b : Nat) (s : Slots) (M : Mem) : nZip st f b s M = (f b s M).bind fun ds M1 => match ds with
  | [x, y] => match seqOf M1 x, seqOf M1 y with
    | some xs, some ys => if st = true ∧ xs.length ≠ ys.length then .bad else .ok (zipD xs ys) M1
    | _, _ => .bad
  | _ => .bad := id rfl
end LW
namespace LW
open PySem L2
noncomputable def b_fault_of_s1 : SS := sIf (tAnd (tVal (eUn (oInG ["fill", "empty"]) (eVar 5))) (tVal (eBin oNe (eBin oIx (eVar 4) (eBin oSub (eVar 6) (eC (.int 1)))) (eBin oIx (eUn (oGetG [("fill", .tup [.str "low", .str "high"]), ("empty", .tup [.str "high", .str "low"])]) (eVar 5)) (eC (.int 0)))))) (sRet (eTup (aCons (eC (.str "shut")) (aCons (eVar 6) (aNil))))) (sNx)
noncomputable def b_fault_of_s2 : SS := sSet 8 (eCall f_taken_by (aCons (eVar 0) (aCons (eVar 2) (aNil))))
noncomputable def b_fault_of_s3 : SS := sIf (tAnd (tVal (eBin oGt (eVar 8) (eC (.int 0)))) (tVal (eBin oLt (eBin oSub (eBin oIx (eVar 3) (eBin oSub (eVar 6) (eC (.int 1)))) (eVar 8)) (eBin oIx (eBin oIx (eVar 0) (eBin oSub (eVar 6) (eC (.int 1)))) (eC (.int 0)))))) (sRet (eTup (aCons (eC (.str "dry")) (aCons (eVar 6) (aNil))))) (sNx)
noncomputable def b_fault_of : SS := sSeq (sAsg (eVar 1) (gT (.tp [.nm 3, .nm 4])))
  (sSeq (sAsg (eVar 2) (gStar 2 [.nm 5, .nm 6, .nm 7]))
  (sSeq (b_fault_of_s1)
  (sSeq (b_fault_of_s2)
  (sSeq (b_fault_of_s3)
  (sRet (eC .non))))))
noncomputable def f_fault_of : Fn := mkFn false 3 9 b_fault_of
noncomputable def b_run_over_c1 : ES := eC (.int 0)
noncomputable def b_run_over_s1 : SS := sPar [2, 3] (aCons (eThw (nListOf (aCons (eVar 1) (aNil)))) (aCons (eThw (nComp (iOf (eVar 0)) [5] (.nm 5) (tTrue) (b_run_over_c1))) (aNil)))
noncomputable def b_run_over_s2 : SS := sAsg (eFn bMax (aCons (eC (.int 0)) (aCons (eBin oSub (eBin oIx (eVar 2) (eVar 4)) (eBin oIx (eBin oIx (eVar 0) (eVar 4)) (eC (.int 1)))) (aNil)))) (gIx (eVar 3) (eVar 4))
noncomputable def b_run_over_s3 : SS := sIf (tVal (eBin oGt (eVar 4) (eC (.int 0)))) (sAugL (eVar 2) (eBin oSub (eVar 4) (eC (.int 1))) oAddI (eBin oIx (eVar 3) (eVar 4))) (sNx)
noncomputable def b_run_over_l1 : SS := sSeq (b_run_over_s2)
  (sSeq (sAugL (eVar 2) (eVar 4) oSub (eBin oIx (eVar 3) (eVar 4)))
  (b_run_over_s3))
noncomputable def b_run_over_s4 : SS := sFor (iDown (aCons (eBin oSub (eFn bLen (aCons (eVar 2) (aNil))) (eC (.int 1))) (aCons (eUn oNeg (eC (.int 1))) (aCons (eUn oNeg (eC (.int 1))) (aNil))))) (.nm 4) (b_run_over_l1)
noncomputable def b_run_over_s5 : SS := sRet (eTup (aCons (eFn bTuple (aCons (eVar 2) (aNil))) (aCons (eFn bTuple (aCons (eVar 3) (aNil))) (aNil))))
noncomputable def b_run_over : SS := sSeq (b_run_over_s1)
  (sSeq (b_run_over_s4)
  (b_run_over_s5))
noncomputable def f_run_over : Fn := mkFn false 2 6 b_run_over
noncomputable def b_done_s1 : SS := sSet 3 (eCall f_fault_of (aCons (eVar 0) (aCons (eVar 1) (aCons (eVar 2) (aNil)))))
noncomputable def b_done_s2 : SS := sIf (tVal (eBin oIsntN (eVar 3) (eC .non))) (sSeq (sAsg (eVar 3) (gT (.tp [.nm 4, .nm 5])))
  (sSeq (sIf (tVal (eBin oEq (eVar 4) (eC (.str "shut")))) (sBad) (sNx))
  (sBad))) (sNx)
noncomputable def b_done_s3 : SS := sPar [6, 7] (aCons (eThw (nListOf (aCons (eBin oIx (eVar 1) (eC (.int 0))) (aNil)))) (aCons (eThw (nListOf (aCons (eBin oIx (eVar 1) (eC (.int 1))) (aNil)))) (aNil)))
noncomputable def b_done_s4 : SS := sAugL (eVar 6) (eBin oSub (eBin oIx (eVar 2) (eC (.int 1))) (eC (.int 1))) oSub (eCall f_taken_by (aCons (eVar 0) (aCons (eVar 2) (aNil))))
noncomputable def b_done_s5 : SS := sAsg (eCall f_brought_by (aCons (eVar 0) (aCons (eVar 2) (aNil)))) (gT (.tp [.nm 8, .nm 9]))
noncomputable def b_done_s6 : SS := sIf (tVal (eBin oGt (eVar 8) (eC (.int 0)))) (sAugL (eVar 6) (eBin oSub (eVar 8) (eC (.int 1))) oAddI (eVar 9)) (sNx)
noncomputable def b_done_s7 : SS := sIf (tVal (eUn (oInG ["fill", "empty"]) (eBin oIx (eVar 2) (eC (.int 0))))) (sAsg (eBin oIx (eUn (oGetG [("fill", .tup [.str "low", .str "high"]), ("empty", .tup [.str "high", .str "low"])]) (eBin oIx (eVar 2) (eC (.int 0)))) (eC (.int 1))) (gIx (eVar 7) (eBin oSub (eBin oIx (eVar 2) (eC (.int 1))) (eC (.int 1))))) (sNx)
noncomputable def b_done_s8 : SS := sAsg (eCall f_run_over (aCons (eVar 0) (aCons (eVar 6) (aNil)))) (gT (.tp [.nm 10, .nm 11]))
noncomputable def b_done_s9 : SS := sRet (eTup (aCons (eTup (aCons (eVar 10) (aCons (eFn bTuple (aCons (eVar 7) (aNil))) (aNil)))) (aCons (eVar 11) (aNil))))
noncomputable def b_done : SS := sSeq (b_done_s1)
  (sSeq (b_done_s2)
  (sSeq (b_done_s3)
  (sSeq (b_done_s4)
  (sSeq (b_done_s5)
  (sSeq (b_done_s6)
  (sSeq (b_done_s7)
  (sSeq (b_done_s8)
  (b_done_s9))))))))
noncomputable def f_done : Fn := mkFn false 3 12 b_done
noncomputable def b_gone_c1 : ES := eC (.int 0)
noncomputable def b_gone_s1 : SS := sPar [3, 4] (aCons (eTup (aCons (eFn bTuple (aCons (eBin oIx (eVar 1) (eC (.int 0))) (aNil))) (aCons (eFn bTuple (aCons (eBin oIx (eVar 1) (eC (.int 1))) (aNil))) (aNil)))) (aCons (eFn bTuple (aCons (eFrz (nComp (iOf (eVar 0)) [7] (.nm 7) (tTrue) (b_gone_c1))) (aNil))) (aNil)))
noncomputable def b_gone_s2 : SS := sAsg (eCall f_done (aCons (eVar 0) (aCons (eVar 3) (aCons (eVar 5) (aNil))))) (gT (.tp [.nm 3, .nm 6]))
noncomputable def b_gone_s3 : SS := sSet 4 (eCall f_put_together (aCons (eVar 4) (aCons (eVar 6) (aNil))))
noncomputable def b_gone_l1 : SS := sSeq (b_gone_s2)
  (b_gone_s3)
noncomputable def b_gone : SS := sSeq (b_gone_s1)
  (sSeq (sFor (iOf (eVar 2)) (.nm 5) (b_gone_l1))
  (sRet (eTup (aCons (eVar 3) (aCons (eVar 4) (aNil))))))
noncomputable def f_gone : Fn := mkFn false 3 8 b_gone
end LW
namespace LW
open PySem L2
end LW
namespace LW
open PySem L2
end LW
namespace LW
open PySem L2
noncomputable def b_law_names_s1 : SS := sAsg (eTup (aCons (eC (.str "abcdefghijklmnopqrstuvwxyz")) (aCons (eCall (f_law_take 8) (aCons (eVar 0) (aCons (eC (.int 26)) (aNil)))) (aCons (eThw (nLst (aNil))) (aNil))))) (gT (.tp [.nm 2, .nm 3, .nm 4]))
noncomputable def b_law_names_c1 : ES := eBin oIxS (eVar 2) (eCall (f_law_take 8) (aCons (eVar 0) (aCons (eC (.int 26)) (aNil))))
noncomputable def b_law_names_s2 : SS := sSet 5 (eJoin (eC (.str "")) (eFrz (nComp (iRange1 (aCons (eCall (f_law_take 8) (aCons (eVar 0) (aCons (eC (.int 6)) (aNil)))) (aNil))) [10] (.nm 10) (tTrue) (b_law_names_c1))))
noncomputable def b_law_names_s3 : SS := sPar [6, 7] (aCons (eBin oIx (eFrz (nLst (aCons (eC (.int 1)) (aCons (eC (.int 3)) (aCons (eC (.int 25)) (aNil)))))) (eCall (f_law_take 8) (aCons (eVar 0) (aCons (eC (.int 3)) (aNil))))) (aCons (eCall (f_law_take 8) (aCons (eVar 0) (aCons (eC (.int 2)) (aNil)))) (aNil)))
noncomputable def b_law_names_s4 : SS := sSet 9 (eBin oIxS (eVar 2) (eBin oMod (eBin oAdd (eVar 3) (eBin oMul (eVar 6) (eIf (tVal (eBin oEq (eVar 7) (eC (.int 1)))) (eBin oDiv (eVar 8) (eC (.int 2))) (eVar 8)))) (eC (.int 26))))
noncomputable def b_law_names_s5 : SS := sExpr (eMethL mAppend (eVar 4) (aCons (eBin oAdd (eBin oAdd (eVar 5) (eVar 9)) (eBin oMulT (eC (.str "ab")) (eFn bInt (aCons (eAnd (eBin oEq (eVar 7) (eC (.int 1))) (eBin oEq (eBin oMod (eVar 8) (eC (.int 2))) (eC (.int 1)))) (aNil))))) (aNil)))
noncomputable def b_law_names_l1 : SS := sSeq (b_law_names_s4)
  (b_law_names_s5)
noncomputable def b_law_names_s6 : SS := sFor (iRange1 (aCons (eVar 1) (aNil))) (.nm 8) (b_law_names_l1)
noncomputable def b_law_names : SS := sSeq (b_law_names_s1)
  (sSeq (b_law_names_s2)
  (sSeq (b_law_names_s3)
  (sSeq (b_law_names_s6)
  (sRet (eVar 4)))))
noncomputable def f_law_names : Fn := mkFn false 2 11 b_law_names
noncomputable def b_law_house_s1 : SS := sSet 4 (eCall f_law_stair (aCons (eVar 0) (aCons (eVar 1) (aCons (eVar 2) (aNil)))))
noncomputable def b_law_house_s2 : SS := sAsg (eTup (aCons (eFn bLen (aCons (eVar 4) (aNil))) (aCons (eCall f_law_names (aCons (eVar 0) (aCons (eCall (f_law_take 8) (aCons (eVar 0) (aCons (eBin oAdd (eVar 3) (eC (.int 1))) (aNil)))) (aNil)))) (aNil)))) (gT (.tp [.nm 5, .nm 6]))
noncomputable def b_law_house_c1 : ES := eTup (aCons (eVar 10) (aCons (eTup (aCons (eCall (f_law_take 8) (aCons (eVar 0) (aCons (eBin oAdd (eVar 5) (eC (.int 1))) (aNil)))) (aCons (eC (.int 0)) (aNil)))) (aNil)))
noncomputable def b_law_house_s3 : SS := sSet 7 (eFn bDictPK (aCons (eFrz (nComp (iOf (eVar 6)) [10] (.nm 10) (tTrue) (b_law_house_c1))) (aNil)))
noncomputable def b_law_house_c2 : ES := eBin oMul (eVar 2) (eCall (f_law_take 8) (aCons (eVar 0) (aCons (eC (.int 12)) (aNil))))
noncomputable def b_law_house_s4 : SS := sSet 8 (eFn bTuple (aCons (eFrz (nComp (iRange1 (aCons (eBin oAdd (eVar 5) (eC (.int 1))) (aNil))) [11] (.nm 11) (tTrue) (b_law_house_c2))) (aNil)))
noncomputable def b_law_house_s5 : SS := sSet 9 (eDctN [(eC (.str "stair"), eVar 4), (eC (.str "levels"), eCall f_law_levels (aCons (eVar 0) (aCons (eVar 4) (aCons (eVar 2) (aNil))))), (eC (.str "chambers"), eCall f_law_chambers (aCons (eVar 0) (aCons (eVar 5) (aNil))))])
noncomputable def b_law_house_s6 : SS := sExpr (eDUpd (eVar 9) (eDctN [(eC (.str "heaps"), eVar 8), (eC (.str "boats"), eVar 7), (eC (.str "ran"), eBin oMul (eTup (aCons (eC (.int 0)) (aNil))) (eVar 5))]))
noncomputable def b_law_house : SS := sSeq (b_law_house_s1)
  (sSeq (b_law_house_s2)
  (sSeq (b_law_house_s3)
  (sSeq (b_law_house_s4)
  (sSeq (b_law_house_s5)
  (sSeq (b_law_house_s6)
  (sRet (eVar 9)))))))
noncomputable def f_law_house : FnO := mkFnO 4 12 b_law_house
noncomputable def b_law_sail_s1 : SS := sSet 3 (eBin oIx (eDget (eDget (eVar 1) (eC (.str "boats"))) (eVar 2)) (eC (.int 0)))
noncomputable def b_law_sail_s2 : SS := sIf (tAnd (tVal (eBin oLt (eVar 3) (eFn bLen (aCons (eDget (eVar 1) (eC (.str "stair"))) (aNil))))) (tOr (tVal (eBin oEq (eBin oIx (eDget (eVar 1) (eC (.str "chambers"))) (eVar 3)) (eC (.str "low")))) (tVal (eBin oEq (eVar 3) (eC (.int 0)))))) (sRet (eIf (tVal (eBin oEq (eBin oIx (eDget (eVar 1) (eC (.str "chambers"))) (eVar 3)) (eC (.str "low")))) (eTup (aCons (eC (.str "up")) (aCons (eVar 2) (aCons (eBin oAdd (eVar 3) (eC (.int 1))) (aNil))))) (eTup (aCons (eC (.str "turn")) (aCons (eBin oAdd (eVar 3) (eC (.int 1))) (aNil)))))) (sNx)
noncomputable def b_law_sail_s3 : SS := sRet (eIf (tVal (eBin oEq (eBin oIx (eDget (eVar 1) (eC (.str "chambers"))) (eBin oSub (eVar 3) (eC (.int 1)))) (eC (.str "high")))) (eTup (aCons (eC (.str "down")) (aCons (eVar 2) (aCons (eVar 3) (aNil))))) (eTup (aCons (eC (.str "turn")) (aCons (eVar 3) (aNil)))))
noncomputable def b_law_sail : SS := sSeq (b_law_sail_s1)
  (sSeq (b_law_sail_s2)
  (b_law_sail_s3))
noncomputable def f_law_sail : Fn := mkFn false 3 4 b_law_sail
noncomputable def b_law_trip_s1 : SS := sPar [3, 4, 5] (aCons (eFn bLen (aCons (eDget (eVar 1) (eC (.str "stair"))) (aNil))) (aCons (eCall (f_law_take 8) (aCons (eVar 0) (aCons (eC (.int 12)) (aNil)))) (aCons (eBin oMul (eVar 2) (eBin oAdd (eC (.int 1)) (eCall (f_law_take 8) (aCons (eVar 0) (aCons (eC (.int 6)) (aNil)))))) (aNil))))
noncomputable def b_law_trip_s2 : SS := sPar [6, 7] (aCons (eBin oAdd (eC (.int 1)) (eCall (f_law_take 8) (aCons (eVar 0) (aCons (eVar 3) (aNil))))) (aCons (eCall f_law_of (aCons (eVar 0) (aCons (eBin oAdd (eFrz (nSortD (aCons (eDget (eVar 1) (eC (.str "boats"))) (aNil)))) (eFrz (nLst (aCons (eC (.str "zzzzzzzq")) (aNil))))) (aNil)))) (aNil)))
noncomputable def b_law_trip_s3 : SS := sPar [8, 9] (aCons (eCall (f_law_take 8) (aCons (eVar 0) (aCons (eBin oAdd (eVar 3) (eC (.int 1))) (aNil)))) (aCons (eCall (f_law_take 8) (aCons (eVar 0) (aCons (eVar 3) (aNil)))) (aNil)))
noncomputable def b_law_trip_s4 : SS := sIf (tVal (eBin oLt (eVar 4) (eC (.int 4)))) (sRet (eIf (tVal (eBin (oDIn false) (eVar 7) (eDget (eVar 1) (eC (.str "boats"))))) (eCall f_law_sail (aCons (eVar 0) (aCons (eVar 1) (aCons (eVar 7) (aNil))))) (eTup (aCons (eC (.str "turn")) (aCons (eVar 6) (aNil)))))) (sNx)
noncomputable def b_law_trip_s5 : SS := sIf (tVal (eBin oLt (eVar 4) (eC (.int 8)))) (sRet (eTup (aCons (eBin oIx (eFrz (nLst (aCons (eC (.str "load")) (aCons (eC (.str "unload")) (aCons (eC (.str "load")) (aCons (eC (.str "unload")) (aNil))))))) (eBin oSub (eVar 4) (eC (.int 4)))) (aCons (eVar 7) (aCons (eVar 5) (aNil)))))) (sNx)
noncomputable def b_law_trip_s6 : SS := sSet 10 (eFrz (nLst (aCons (eTup (aCons (eC (.str "carry")) (aCons (eVar 8) (aCons (eBin oMod (eBin oAdd (eBin oAdd (eVar 8) (eC (.int 1))) (eVar 9)) (eBin oAdd (eVar 3) (eC (.int 1)))) (aCons (eVar 5) (aNil)))))) (aCons (eTup (aCons (eC (.str "rain")) (aCons (eVar 6) (aCons (eVar 5) (aNil))))) (aCons (eTup (aCons (eC (.str "draw")) (aCons (eVar 6) (aCons (eVar 5) (aNil))))) (aNil))))))
noncomputable def b_law_trip_s7 : SS := sRet (eBin oIx (eBin oAdd (eVar 10) (eFrz (nLst (aCons (eTup (aCons (eBin oIx (eFrz (nLst (aCons (eC (.str "up")) (aCons (eC (.str "down")) (aNil))))) (eBin oMod (eVar 9) (eC (.int 2)))) (aCons (eVar 7) (aCons (eVar 6) (aNil))))) (aNil))))) (eBin oSub (eVar 4) (eC (.int 8))))
noncomputable def b_law_trip : SS := sSeq (b_law_trip_s1)
  (sSeq (b_law_trip_s2)
  (sSeq (b_law_trip_s3)
  (sSeq (b_law_trip_s4)
  (sSeq (b_law_trip_s5)
  (sSeq (b_law_trip_s6)
  (b_law_trip_s7))))))
noncomputable def f_law_trip : Fn := mkFn false 3 11 b_law_trip
end LW
namespace LW
open PySem L2
@[simp] theorem r_augL (fo fi : ES) (o : D → D → Mem → R D) (f : ES) (b : Nat) (s : Slots) (M : Mem) : sAugL fo fi o f b s M = (fo b s M).toS s fun x M1 => (fi b s M1).toS s fun i M2 => (oIxL x i M2).toS s fun y M3 =>
  (f b s M3).toS s fun z M4 => (o y z M4).toS s fun w M5 => match setIx b x i w M5 with
    | some M6 => .nx s M6
    | none => .bad := id rfl
@[simp] theorem r_ixLs (x : D) (i : Int) (M : Mem) : oIxL x (.int i) M = (match lstOf M x with | some xs => (match atI xs i with | some d => .ok d M | none => .bad) | none => .bad) := id rfl
@[simp] theorem r_inG (ks : List Str) (z : Str) (M : Mem) : oInG ks (.str z) M = .ok (.bl (ks.contains z)) M := id rfl
@[simp] theorem r_getG (kvs : List (Str × D)) (z : Str) (M : Mem) : oGetG kvs (.str z) M = (match kvs.lookup z with | some d => .ok d M | none => .bad) := id rfl
@[simp] theorem r_star (b n : Nat) (ts : List Tg) (d : D) (s : Slots) (M : Mem) : gStar n ts b d s M = (match seqOf M d with
  | some xs => if n ≤ xs.length then (bindTs M ts (xs.take n ++ [.lst (xs.drop n)]) s).map fun s1 => (s1, M) else none
  | none => none) := id rfl
theorem run_over_ok {n : Nat} {S : Stair} {x y : D} {l : Nat → Int} {M : Mem} (hn : n ≤ 1000) (hx : StR n S x) (hy : seqOf M y = some (vecD n l)) :
    f_run_over [x, y] M = .ok (.tup [.tup (vecD n (lvF (ledF n (sumM S.mo) (totF n l)))), .tup (vecD n (ranF (totF n l) (ledF n (sumM S.mo) (totF n l))))]) M := by
  refine ok_of (fn_wp rfl fun P hR => ?_)
  obtain ⟨T, hT⟩ : ∃ T, T = totF n l := ⟨_, rfl⟩
  obtain ⟨U, hU⟩ : ∃ U, U = ledF n (sumM S.mo) T := ⟨_, rfl⟩
  rw [← hT, ← hU] at hR
  have Tn : T n = 0 := by rw [hT]; exact totF_end n l
  have Un : U n = 0 := by rw [hU]; exact ledF_end (sumM_self _ _) Tn
  have Ts : ∀ i, i < n → T i = l i + T (i + 1) := fun i hi => by rw [hT]; exact totF_step hi
  have Us : ∀ i, i < n → U i = if S.mo i + U (i + 1) < T i then S.mo i + U (i + 1) else T i := fun i hi => by rw [hU]; exact over_step hi
  obtain ⟨ps, s1, s2, s3⟩ := hx
  have ln : ∀ M, bLen [x] M = .ok (.int (n : Int)) M := fun M => by rw [s1.len, s2]
  have lp : ps.length ≤ 1000000 := by omega
  simp [b_run_over, b_run_over_s1, hy, s1.q, s1.g, lp, wipeD]
  refine wp_map (fun _ => .int 0) (fun d hd => ⟨_, t_nm _ _, rfl⟩) (by simp) ?_
  have e0 : ps.map (fun _ => D.int 0) = vecD n fun _ => 0 := by
    unfold vecD
    rw [← s2]
    refine List.ext_getElem? fun j => ?_
    rw [List.getElem?_map, List.getElem?_map]
    by_cases h : j < ps.length
    · rw [List.getElem?_eq_getElem h, List.getElem?_range h]; rfl
    · rw [List.getElem?_eq_none (by omega), List.getElem?_eq_none (by simpa using h)]; rfl
  rw [e0]
  have dn : ∀ M : Mem, dnR [.int ((n : Int) - 1), .int (-1), .int (-1)] M = .ok (dnD n, []) M := fun M => dn_ok (by omega)
  have lnn : ∀ M2 : Mem, M2[M.length]? = some (.lst (vecD n l)) → bLen [.ref M.length] M2 = .ok (.int (n : Int)) M2 := fun M2 h => by rw [r_len (by rw [q_ref, h]), vecD_len]
  simp [b_run_over_s4, lnn, dn]
  refine wp_for (fun i s M' => ∃ v4, s = [some x, some y, some (.ref M.length), some (.ref (M.length + 1)), v4, none] ∧ Pf M M' ∧ M'[M.length]? = some (.lst (vecD n fun j => if n - i ≤ j then lvF U j else if j + 1 = n - i then l j + (T (j + 1) - U (j + 1)) else l j)) ∧ M'[M.length + 1]? = some (.lst (vecD n fun j => if n - i ≤ j then T j - U j else 0))) ?_ ?_ ?_
  · refine ⟨none, rfl, .app .refl _, ?_, ?_⟩
    · rw [show M ++ [Cell.lst (vecD n l), Cell.lst (vecD n fun _ => 0)] = M ++ [Cell.lst (vecD n l)] ++ [Cell.lst (vecD n fun _ => 0)] by simp, List.getElem?_append_left (by simp), get_app]
      congr 2
      refine vecD_eq fun j hj => ?_
      rw [if_neg (by omega)]
      by_cases h : j + 1 = n - 0
      · rw [if_pos h, show j + 1 = n by omega, Tn, Un]
        omega
      · rw [if_neg h]
    · rw [show M ++ [Cell.lst (vecD n l), Cell.lst (vecD n fun _ => 0)] = M ++ [Cell.lst (vecD n l)] ++ [Cell.lst (vecD n fun _ => 0)] by simp, show M.length + 1 = (M ++ [Cell.lst (vecD n l)]).length by simp, get_app]
      congr 2
      exact vecD_eq fun j hj => by rw [if_neg (by omega)]
  · rintro i d s M' hi hd ⟨v4, rfl, pf, h1, h2⟩
    rw [dnD_len] at hi
    rw [dnD_get hi] at hd
    cases hd
    obtain ⟨a, ha⟩ : ∃ a, a = n - 1 - i := ⟨_, rfl⟩
    rw [← ha]
    have han : a < n := by omega
    have ea : n - i = a + 1 := by omega
    have ea2 : n - (i + 1) = a := by omega
    rw [ea] at h1 h2
    rw [ea2]
    refine ⟨_, t_nm _ _, fun P1 hN _ _ _ _ => ?_⟩
    obtain ⟨p, p1, p2⟩ := s3 a han
    have ip : atI ps (a : Int) = some p := atI_nat p1
    have hl := pf.len
    have lt1 := lt_of_get h1
    have lt2 := lt_of_get h2
    have Ta := Ts a han
    have Ua := Us a han
    obtain ⟨r, hr⟩ : ∃ r, r = T a - U a := ⟨_, rfl⟩
    have fa : (if a + 1 ≤ a then lvF U a else if a + 1 = a + 1 then l a + (T (a + 1) - U (a + 1)) else l a) = l a + (T (a + 1) - U (a + 1)) := by
      rw [if_neg (by omega), if_pos rfl]
    have i1 : atI (vecD n fun j => if a + 1 ≤ j then lvF U j else if j + 1 = a + 1 then l j + (T (j + 1) - U (j + 1)) else l j) (a : Int) = some (.int (l a + (T (a + 1) - U (a + 1)))) := by
      rw [← fa]
      exact atI_nat (vecD_get (t := fun j => if a + 1 ≤ j then lvF U j else if j + 1 = a + 1 then l j + (T (j + 1) - U (j + 1)) else l j) han)
    obtain ⟨V, hV⟩ : ∃ V, V = vecD n fun j => if a + 1 ≤ j then lvF U j else if j + 1 = a + 1 then l j + (T (j + 1) - U (j + 1)) else l j := ⟨_, rfl⟩
    obtain ⟨W, hW⟩ : ∃ W, W = vecD n fun j => if a + 1 ≤ j then T j - U j else 0 := ⟨_, rfl⟩
    have lV : V.length = n := by rw [hV, vecD_len]
    have lW : W.length = n := by rw [hW, vecD_len]
    rw [← hV] at i1 h1
    rw [← hW] at h2
    obtain ⟨z, hz⟩ : ∃ z, z = l a + (T (a + 1) - U (a + 1)) := ⟨_, rfl⟩
    rw [← hz] at i1
    have emax : (if 0 < z - S.mo a then z - S.mo a else 0) = r := by
      rw [hr, hz]
      by_cases hc : S.mo a + U (a + 1) < T a
      · rw [if_pos hc] at Ua
        rw [if_pos (by omega)]
        omega
      · rw [if_neg hc] at Ua
        rw [if_neg (by omega)]
        omega
    have mx : bMax [.int 0, .int (z - S.mo a)] M' = .ok (.int r) M' := by
      rw [r_max, ← emax]
    have st1 := r_setIx (b := M.length) (i := (a : Int)) (v := .int r) h2 (by omega) (by omega) (.inl (by omega))
    have eW : W.set (a : Int).toNat (.int r) = vecD n fun j => if a ≤ j then T j - U j else 0 := by
      rw [show (a : Int).toNat = a by omega, hW, vec_set han]
      refine vecD_eq fun j hj => ?_
      by_cases h : j = a
      · rw [if_pos h, if_pos (by omega), hr, h]
      · rw [if_neg h]
        by_cases h' : a + 1 ≤ j
        · rw [if_pos h', if_pos (by omega)]
        · rw [if_neg h', if_neg (by omega)]
    rw [eW] at st1
    obtain ⟨W2, hW2⟩ : ∃ W, W = vecD n fun j => if a ≤ j then T j - U j else 0 := ⟨_, rfl⟩
    have iW2 : atI W2 (a : Int) = some (.int r) := by
      rw [hW2, hr]
      have := vecD_get (n := n) (t := fun j => if a ≤ j then T j - U j else 0) han
      rw [if_pos (Nat.le_refl a)] at this
      exact atI_nat this
    rw [← hW2] at st1
    obtain ⟨MA, hMA⟩ : ∃ X, X = M'.set (M.length + 1) (.lst W2) := ⟨_, rfl⟩
    rw [← hMA] at st1
    have h1a : MA[M.length]? = some (.lst V) := by rw [hMA, List.getElem?_set_ne (by omega)]; exact h1
    have h2a : MA[M.length + 1]? = some (.lst W2) := by rw [hMA, set_get lt2]
    have st2 := r_setIx (b := M.length) (i := (a : Int)) (v := .int (z - r)) h1a (by omega) (by omega) (.inl (Nat.le_refl _))
    have eV : V.set (a : Int).toNat (.int (z - r)) = vecD n fun j => if a ≤ j then lvF U j else l j := by
      rw [show (a : Int).toNat = a by omega, hV, vec_set han]
      refine vecD_eq fun j hj => ?_
      by_cases h : j = a
      · rw [if_pos h, if_pos (by omega), h, hz, hr]
        unfold lvF
        omega
      · rw [if_neg h]
        by_cases h' : a + 1 ≤ j
        · rw [if_pos h', if_pos (by omega)]
        · rw [if_neg h', if_neg (by omega), if_neg (by omega)]
    rw [eV] at st2
    obtain ⟨V2, hV2⟩ : ∃ V, V = vecD n fun j => if a ≤ j then lvF U j else l j := ⟨_, rfl⟩
    rw [← hV2] at st2
    have lV2 : V2.length = n := by rw [hV2, vecD_len]
    obtain ⟨MB, hMB⟩ : ∃ X, X = MA.set M.length (.lst V2) := ⟨_, rfl⟩
    rw [← hMB] at st2
    have h1b : MB[M.length]? = some (.lst V2) := by rw [hMB, set_get (lt_of_get h1a)]
    have h2b : MB[M.length + 1]? = some (.lst W2) := by rw [hMB, List.getElem?_set_ne (by omega)]; exact h2a
    have pfB : Pf M MB := by rw [hMB, hMA]; exact (pf.set (by omega) _).set (Nat.le_refl _) _
    by_cases ha0 : a = 0
    · have na : ¬ 0 < a := by omega
      simp [b_run_over_l1, b_run_over_s2, b_run_over_s3, h1, i1, s1.q, ip, p2.q, pdL, mx, gIx, st1, h1a, h2a, iW2, st2, na]
      refine hN _ _ (by simp) ⟨_, rfl, pfB, ?_, ?_⟩
      · rw [h1b, hV2]
        congr 2
        exact vecD_eq fun j hj => by rw [if_pos (by omega), if_pos (by omega)]
      · rw [h2b, hW2]
    · have na : 0 < a := by omega
      have ib : atI V2 ((a : Int) - 1) = some (.int (l (a - 1))) := by
        have := vecD_get (n := n) (t := fun j => if a ≤ j then lvF U j else l j) (i := a - 1) (by omega)
        rw [if_neg (by omega)] at this
        rw [hV2]
        exact atI_k this (by omega)
      have st3 := r_setIx (b := M.length) (i := (a : Int) - 1) (v := .int (l (a - 1) + r)) h1b (by omega) (by omega) (.inl (Nat.le_refl _))
      simp [b_run_over_l1, b_run_over_s2, b_run_over_s3, h1, i1, s1.q, ip, p2.q, pdL, mx, gIx, st1, h1a, h2a, iW2, st2, na, h1b, h2b, ib, st3]
      refine hN _ _ (by simp) ⟨_, rfl, pfB.set (Nat.le_refl _) _, ?_, ?_⟩
      · rw [set_get (lt_of_get h1b), hV2, vec_set (by omega)]
        congr 2
        refine vecD_eq fun j hj => ?_
        by_cases h : j = a - 1
        · rw [if_pos h, if_neg (by omega), if_pos (by omega), h, hr, show a - 1 + 1 = a by omega]
        · rw [if_neg h]
          by_cases h' : a ≤ j
          · rw [if_pos h', if_pos h']
          · rw [if_neg h', if_neg h', if_neg (by omega)]
      · rw [List.getElem?_set_ne (by omega), h2b, hW2]
  · rintro s' M' ⟨v4, rfl, pf, h1, h2⟩
    rw [dnD_len, Nat.sub_self] at h1 h2
    have e1 : (vecD n fun j => if 0 ≤ j then lvF U j else if j + 1 = 0 then l j + (T (j + 1) - U (j + 1)) else l j) = vecD n (lvF U) := vecD_eq fun j hj => by rw [if_pos (by omega)]
    have e2 : (vecD n fun j => if 0 ≤ j then T j - U j else 0) = vecD n (ranF T U) := vecD_eq fun j hj => by rw [if_pos (by omega)]; rfl
    rw [e1] at h1
    rw [e2] at h2
    have tp1 := r_tuple (M := M') (x := .ref M.length) (ys := vecD n (lvF U)) (by simp [h1])
    have tp2 := r_tuple (M := M') (x := .ref (M.length + 1)) (ys := vecD n (ranF T U)) (by simp [h2])
    simp [b_run_over_s5, tp1, tp2]
    exact hR _ _ (by simp [below_vecD]) ⟨rfl, pf.take⟩
/-- a stand, its parts lists or tuples -/
def SdR (n : Nat) (l : Nat → Int) (c : Nat → Bool) (d : D) : Prop := ∃ x y, Sqd d [x, y] ∧ Sqd x (vecD n l) ∧ Sqd y (chD n c)
theorem sdR_tup (n : Nat) (l : Nat → Int) (c : Nat → Bool) : SdR n l c (sdD n l c) := ⟨_, _, .t _, .t _, .t _⟩
/-- what it takes is something -/
def Dd.pos (S : Stair) : Dd → Prop
  | .fill a => 0 < S.sz a
  | .lower _ z => 0 < z
  | _ => True
def fltD (e : Dd) : Option Str → D
  | none => .non
  | some w => .tup [.str w, .int ((e.at_ : Int) + 1)]
section
variable {n : Nat} {S : Stair} {x y sd : D} {l : Nat → Int} {c : Nat → Bool} {e : Dd} {M : Mem}
theorem fault_ok (hx : StR n S x) (hs : SdR n l c sd) (hy : Sqd y e.l) (he : e.at_ < n) (hp : e.pos S) : f_fault_of [x, sd, y] M = .ok (fltD e (fltF S l c e)) M := by
  refine ok_of (fn_wp rfl fun P hR => ?_)
  obtain ⟨vx, vy, hs1, hs2, hs3⟩ := hs
  obtain ⟨ps, s1, s2, s3⟩ := id hx
  obtain ⟨p, p1, p2⟩ := s3 e.at_ he
  have ip : atI ps (e.at_ : Int) = some p := atI_nat p1
  have tk := taken_ok (M := M) hx hy he
  obtain ⟨a, ha⟩ : ∃ a, a = e.at_ := ⟨_, rfl⟩
  rw [← ha] at he ip p2
  have ic : atI (chD n c) (a : Int) = some (.str (chS (c a))) := atI_nat (chD_get he)
  have iv : atI (vecD n l) (a : Int) = some (.int (l a)) := atI_nat (vecD_get he)
  obtain ⟨V, hV⟩ : ∃ V, V = vecD n l := ⟨_, rfl⟩
  obtain ⟨C, hC⟩ : ∃ C, C = chD n c := ⟨_, rfl⟩
  rw [← hV] at hs2 iv
  rw [← hC] at hs3 ic
  have e1 : ((a : Int) + 1 - 1) = (a : Int) := by omega
  unfold fltD at hR
  rw [← ha] at hR
  cases e with
  | fill b =>
    have hb : a = b := ha
    subst hb
    have hp : 0 < S.sz a := hp
    have tk : f_taken_by [x, y] M = .ok (.int (S.sz a)) M := tk
    simp only [fltF] at hR
    simp [b_fault_of, hs1.q, hy.q, Dd.l, gT]
    cases hc : c a with
    | true =>
      rw [hc, chS_hi] at ic
      rw [if_pos hc] at hR
      simp [b_fault_of_s1, hs3.q, ic, List.lookup, x2]
      exact hR _ _ (by simp) ⟨rfl, List.take_length⟩
    | false =>
      rw [hc, chS_lo] at ic
      rw [if_neg (by rw [hc]; decide)] at hR
      simp [b_fault_of_s1, hs3.q, ic, List.lookup, x1, b_fault_of_s2, tk]
      by_cases hd : l a - S.sz a < S.lo a
      · rw [if_pos hd] at hR
        simp [b_fault_of_s3, hp, hs2.q, iv, s1.q, ip, p2.q, pdL, hd]
        exact hR _ _ (by simp) ⟨rfl, List.take_length⟩
      · rw [if_neg hd] at hR
        simp [b_fault_of_s3, hp, hs2.q, iv, s1.q, ip, p2.q, pdL, hd]
        exact hR _ _ (by simp) ⟨rfl, List.take_length⟩
  | empty b =>
    have hb : a = b := ha
    subst hb
    have tk : f_taken_by [x, y] M = .ok (.int 0) M := tk
    simp only [fltF] at hR
    simp [b_fault_of, hs1.q, hy.q, Dd.l, gT]
    cases hc : c a with
    | false =>
      rw [hc, chS_lo] at ic
      rw [if_pos hc] at hR
      simp [b_fault_of_s1, hs3.q, ic, List.lookup, w4, u2, x1]
      exact hR _ _ (by simp) ⟨rfl, List.take_length⟩
    | true =>
      rw [hc, chS_hi] at ic
      rw [if_neg (by rw [hc]; decide)] at hR
      simp [b_fault_of_s1, hs3.q, ic, List.lookup, w4, u2, x2, b_fault_of_s2, tk, b_fault_of_s3]
      exact hR _ _ (by simp) ⟨rfl, List.take_length⟩
  | raise b z =>
    have hb : a = b := ha
    subst hb
    have tk : f_taken_by [x, y] M = .ok (.int 0) M := tk
    simp only [fltF] at hR
    have n1 : (("raise" : Str) = "fill") = False := by simp; decide
    have n2 : (("raise" : Str) = "empty") = False := by simp; decide
    simp [b_fault_of, hs1.q, hy.q, Dd.l, gT, b_fault_of_s1, n1, n2, b_fault_of_s2, tk, b_fault_of_s3]
    exact hR _ _ (by simp) ⟨rfl, List.take_length⟩
  | lower b z =>
    have hb : a = b := ha
    subst hb
    have hp : 0 < z := hp
    have tk : f_taken_by [x, y] M = .ok (.int z) M := tk
    simp only [fltF] at hR
    have n1 : (("lower" : Str) = "fill") = False := by simp; decide
    have n2 : (("lower" : Str) = "empty") = False := by simp; decide
    simp [b_fault_of, hs1.q, hy.q, Dd.l, gT, b_fault_of_s1, n1, n2, b_fault_of_s2, tk]
    by_cases hd : l a - z < S.lo a
    · rw [if_pos hd] at hR
      simp [b_fault_of_s3, hp, hs2.q, iv, s1.q, ip, p2.q, pdL, hd]
      exact hR _ _ (by simp) ⟨rfl, List.take_length⟩
    · rw [if_neg hd] at hR
      simp [b_fault_of_s3, hp, hs2.q, iv, s1.q, ip, p2.q, pdL, hd]
      exact hR _ _ (by simp) ⟨rfl, List.take_length⟩
/-- the levels with what it takes taken, and what it brings brought -/
theorem lvD_two (he : e.at_ < n) {i : Nat} (hi : i < n) : lvD S l e i = if (i : Int) + 1 = e.to then (if i = e.at_ then l e.at_ - e.tk S else l i) + e.br S else if i = e.at_ then l e.at_ - e.tk S else l i := by
  cases e with
  | fill a =>
    show (if i = a then l a - S.sz a else l i) = if (i : Int) + 1 = (a : Int) + 1 then (if i = a then l a - S.sz a else l i) + 0 else if i = a then l a - S.sz a else l i
    by_cases h : i = a
    · rw [if_pos h, if_pos (by omega)]
      omega
    · rw [if_neg h, if_neg (by omega)]
  | empty a =>
    show (if i + 1 = a then l i + S.sz a else l i) = if (i : Int) + 1 = (a : Int) then (if i = a then l a - 0 else l i) + S.sz a else if i = a then l a - 0 else l i
    by_cases h : i = a
    · subst h
      rw [if_neg (by omega), if_neg (by omega), if_pos rfl]
      omega
    · by_cases h' : i + 1 = a
      · rw [if_pos h', if_pos (by omega), if_neg h]
      · rw [if_neg h', if_neg (by omega), if_neg h]
  | raise a z =>
    show (if i = a then l a + z else l i) = if (i : Int) + 1 = (a : Int) + 1 then (if i = a then l a - 0 else l i) + z else if i = a then l a - 0 else l i
    by_cases h : i = a
    · rw [if_pos h, if_pos (by omega), if_pos h]
      omega
    · rw [if_neg h, if_neg (by omega), if_neg h]
  | lower a z =>
    show (if i = a then l a - z else l i) = if (i : Int) + 1 = (a : Int) + 1 then (if i = a then l a - z else l i) + 0 else if i = a then l a - z else l i
    by_cases h : i = a
    · rw [if_pos h, if_pos (by omega)]
      omega
    · rw [if_neg h, if_neg (by omega)]
theorem done_ok (hn : n ≤ 1000) (hx : StR n S x) (hs : SdR n l c sd) (hy : Sqd y e.l) (he : e.at_ < n) (hp : e.pos S) (hf : fltF S l c e = none) :
    f_done [x, sd, y] M = .ok (.tup [sdD n (lvF (goF n S (totF n l) e)) (chC c e), .tup (vecD n (ranF (fun i => totF n l i + addF S e i) (goF n S (totF n l) e)))]) M := by
  refine ok_of (fn_wp rfl fun P hR => ?_)
  have fo := fault_ok (M := M) hx hs hy he hp
  rw [hf] at fo
  have fo : f_fault_of [x, sd, y] M = .ok .non M := fo
  obtain ⟨vx, vy, hs1, hs2, hs3⟩ := hs
  have he' := he
  obtain ⟨a, ha⟩ : ∃ a, a = e.at_ := ⟨_, rfl⟩
  rw [← ha] at he
  -- the end, from the changed lists
  have fin : ∀ (M' : Mem) (v8 v9 : Option D), Pf M M' → M'[M.length]? = some (.lst (vecD n (lvD S l e))) → M'[M.length + 1]? = some (.lst (chD n (chC c e))) →
      Wp ((b_done_s8 M.length [some x, some sd, some y, some .non, none, none, some (.ref M.length), some (.ref (M.length + 1)), v8, v9, none, none] M').sq (b_done_s9 M.length)) P := by
    intro M' v8 v9 pf h1 h2
    have ov := run_over_ok (M := M') (y := .ref M.length) (l := lvD S l e) hn hx (by simp [h1])
    have k : ∀ j, j ≤ n → ledF n (sumM S.mo) (totF n (lvD S l e)) j = goF n S (totF n l) e j := fun j hj => ledF_congr hj (fun _ _ _ => rfl) fun q _ h2 => tot_deed he' h2
    have e1 : vecD n (lvF (ledF n (sumM S.mo) (totF n (lvD S l e)))) = vecD n (lvF (goF n S (totF n l) e)) := vecD_eq fun i hi => by
      unfold lvF
      rw [k i (by omega), k (i + 1) (by omega)]
    have e2 : vecD n (ranF (totF n (lvD S l e)) (ledF n (sumM S.mo) (totF n (lvD S l e)))) = vecD n (ranF (fun i => totF n l i + addF S e i) (goF n S (totF n l) e)) := vecD_eq fun i hi => by
      unfold ranF
      rw [k i (by omega), tot_deed he' (by omega)]
    rw [e1, e2] at ov
    have tp := r_tuple (M := M') (x := .ref (M.length + 1)) (ys := chD n (chC c e)) (by simp [h2])
    obtain ⟨A, hA⟩ : ∃ A, A = vecD n (lvF (goF n S (totF n l) e)) := ⟨_, rfl⟩
    obtain ⟨B, hB⟩ : ∃ A, A = vecD n (ranF (fun i => totF n l i + addF S e i) (goF n S (totF n l) e)) := ⟨_, rfl⟩
    obtain ⟨C, hC⟩ : ∃ A, A = chD n (chC c e) := ⟨_, rfl⟩
    have bA : belows M.length A = true := by rw [hA]; exact below_vecD
    have bB : belows M.length B = true := by rw [hB]; exact below_vecD
    have bC : belows M.length C = true := by rw [hC]; exact below_chD
    rw [← hA, ← hB] at ov
    rw [← hC] at tp
    unfold sdD at hR
    rw [← hA, ← hB, ← hC] at hR
    simp [b_done_s8, b_done_s9, ov, gT, tp]
    exact hR _ _ (by simp [bA, bB, bC]) ⟨rfl, pf.take⟩
  have i1 : atI e.l 1 = some (.int ((a : Int) + 1)) := by rw [ha]; cases e <;> simp [Dd.l, Dd.at_]
  obtain ⟨M1, hM1⟩ : ∃ M1, M1 = M ++ [Cell.lst (vecD n l), Cell.lst (chD n c)] := ⟨_, rfl⟩
  have g1 : M1[M.length]? = some (.lst (vecD n l)) := by rw [hM1]; simp
  have g2 : M1[M.length + 1]? = some (.lst (chD n c)) := by rw [hM1]; simp
  have pf1 : Pf M M1 := ⟨_, hM1⟩
  have lV : (vecD n l).length = n := vecD_len
  have et : ((a : Int)).toNat = a := by omega
  have e11 : ((a : Int) + 1 - 1) = (a : Int) := by omega
  have iv : atI (vecD n l) (a : Int) = some (.int (l a)) := atI_nat (vecD_get he)
  -- taken
  obtain ⟨l1, hl1⟩ : ∃ l1 : Nat → Int, l1 = fun i => if i = a then l a - e.tk S else l i := ⟨_, rfl⟩
  have st1 : setIx M.length (.ref M.length) (.int (a : Int)) (.int (l a - e.tk S)) M1 = some (M1.set M.length (.lst (vecD n l1))) := by
    rw [r_setIx g1 (by omega) (by omega) (.inl (Nat.le_refl _)), et, vec_set' he (u := l1) fun i hi => by rw [hl1]]
  obtain ⟨M2, hM2⟩ : ∃ M2, M2 = M1.set M.length (.lst (vecD n l1)) := ⟨_, rfl⟩
  rw [← hM2] at st1
  have g3 : M2[M.length]? = some (.lst (vecD n l1)) := by rw [hM2, set_get (lt_of_get g1)]
  have g4 : M2[M.length + 1]? = some (.lst (chD n c)) := by rw [hM2, List.getElem?_set_ne (by omega)]; exact g2
  have pf2 : Pf M M2 := by rw [hM2]; exact pf1.set (Nat.le_refl _) _
  have tk := taken_ok (M := M1) hx hy he'
  have br := brought_ok (M := M2) hx hy he'
  -- brought
  obtain ⟨M3, h6, g5, g6, pf3⟩ : ∃ M3, (b_done_s6 M.length [some x, some sd, some y, some .non, none, none, some (.ref M.length), some (.ref (M.length + 1)), some (.int e.to), some (.int (e.br S)), none, none] M2 = .nx [some x, some sd, some y, some .non, none, none, some (.ref M.length), some (.ref (M.length + 1)), some (.int e.to), some (.int (e.br S)), none, none] M3) ∧ M3[M.length]? = some (.lst (vecD n (lvD S l e))) ∧ M3[M.length + 1]? = some (.lst (chD n c)) ∧ Pf M M3 := by
    have to0 : 0 ≤ e.to ∧ e.to ≤ n := by cases e <;> simp [Dd.to, Dd.at_] at ha ⊢ <;> omega
    by_cases ht : 0 < e.to
    · obtain ⟨q, hq⟩ : ∃ q : Nat, e.to - 1 = (q : Int) := ⟨(e.to - 1).toNat, by omega⟩
      have hqn : q < n := by omega
      have iq : atI (vecD n l1) (e.to - 1) = some (.int (l1 q)) := by rw [hq]; exact atI_nat (vecD_get hqn)
      have st2 := r_setIx (b := M.length) (i := e.to - 1) (v := .int (l1 q + e.br S)) g3 (by omega) (by rw [vecD_len]; omega) (.inl (Nat.le_refl _))
      rw [show (e.to - 1).toNat = q by omega, vec_set' (u := lvD S l e) hqn fun i hi => by
        rw [lvD_two he' hi, ← ha, hl1]
        by_cases h : i = q
        · subst h
          rw [if_pos (by omega), if_pos rfl]
        · rw [if_neg (by omega), if_neg h]] at st2
      refine ⟨M2.set M.length (.lst (vecD n (lvD S l e))), ?_, set_get (lt_of_get g3), by rw [List.getElem?_set_ne (by omega)]; exact g4, pf2.set (Nat.le_refl _) _⟩
      obtain ⟨V, hV⟩ : ∃ V, V = vecD n l1 := ⟨_, rfl⟩
      rw [← hV] at g3 iq
      simp [b_done_s6, ht, g3, iq, st2]
    · refine ⟨M2, by simp [b_done_s6, ht], ?_, g4, pf2⟩
      rw [g3]
      congr 2
      refine vecD_eq fun i hi => ?_
      rw [lvD_two he' hi, ← ha, hl1, if_neg (by omega)]
  -- turned
  obtain ⟨M4, h7, g7, g8, pf4⟩ : ∃ M4, (b_done_s7 M.length [some x, some sd, some y, some .non, none, none, some (.ref M.length), some (.ref (M.length + 1)), some (.int e.to), some (.int (e.br S)), none, none] M3 = .nx [some x, some sd, some y, some .non, none, none, some (.ref M.length), some (.ref (M.length + 1)), some (.int e.to), some (.int (e.br S)), none, none] M4) ∧ M4[M.length]? = some (.lst (vecD n (lvD S l e))) ∧ M4[M.length + 1]? = some (.lst (chD n (chC c e))) ∧ Pf M M4 := by
    have sc : ∀ b : Bool, setIx M.length (.ref (M.length + 1)) (.int (a : Int)) (.str (chS b)) M3 = some (M3.set (M.length + 1) (.lst (chD n (turnC c a b)))) := fun b => by
      rw [r_setIx g6 (by omega) (by rw [chD_len]; omega) (.inl (by omega)), et, ch_set he]
    cases e with
    | fill b =>
      have hb : a = b := ha
      subst hb
      have sc' := sc true
      rw [chS_hi] at sc'
      exact ⟨_, by simp [b_done_s7, hy.q, Dd.l, List.lookup, gIx, sc', chC], by rw [List.getElem?_set_ne (by omega)]; exact g5, set_get (lt_of_get g6), pf3.set (by omega) _⟩
    | empty b =>
      have hb : a = b := ha
      subst hb
      have sc' := sc false
      rw [chS_lo] at sc'
      exact ⟨_, by simp [b_done_s7, hy.q, Dd.l, List.lookup, w4, u2, gIx, sc', chC], by rw [List.getElem?_set_ne (by omega)]; exact g5, set_get (lt_of_get g6), pf3.set (by omega) _⟩
    | raise b z =>
      have n1 : (("raise" : Str) = "fill") = False := by simp; decide
      have n2 : (("raise" : Str) = "empty") = False := by simp; decide
      exact ⟨M3, by simp [b_done_s7, hy.q, Dd.l, n1, n2], g5, g6, pf3⟩
    | lower b z =>
      have n1 : (("lower" : Str) = "fill") = False := by simp; decide
      have n2 : (("lower" : Str) = "empty") = False := by simp; decide
      exact ⟨M3, by simp [b_done_s7, hy.q, Dd.l, n1, n2], g5, g6, pf3⟩
  have F := fin M4 (some (.int e.to)) (some (.int (e.br S))) pf4 g7 g8
  obtain ⟨V, hV⟩ : ∃ V, V = vecD n l := ⟨_, rfl⟩
  obtain ⟨C, hC⟩ : ∃ C, C = chD n c := ⟨_, rfl⟩
  rw [← hV] at hs2 iv g1 hM1
  rw [← hC] at hs3 g2 hM1
  obtain ⟨EL, hEL⟩ : ∃ EL, EL = e.l := ⟨_, rfl⟩
  rw [← hEL] at hy i1
  simp [b_done, b_done_s1, fo, b_done_s2, b_done_s3, hs1.q, hs2.q, hs3.q, ← hM1]
  simp [b_done_s4, hy.q, i1, g1, iv, tk, st1]
  simp [b_done_s5, br, gT, h6, h7]
  exact F
/-- all deeds are let -/
def LetL (n : Nat) (S : Stair) (lot : List Dd) (T : Nat → Int) (c : Nat → Bool) : Prop := ∀ i (h : i < lot.length), fltF S (lvF (goL n S (lot.take i) T)) (chL (lot.take i) c) lot[i] = none
theorem gone_ok {z : D} {lot : List Dd} (hn : n ≤ 1000) (hx : StR n S x) (hs : SdR n l c sd) (hz : LoR lot z) (he : ∀ e ∈ lot, e.at_ < n) (hp : ∀ e ∈ lot, e.pos S) (hl : LetL n S lot (totF n l) c) :
    f_gone [x, sd, z] M = .ok (.tup [sdD n (lvF (goL n S lot (totF n l))) (chL lot c), .tup (vecD n fun i => totF n l i + sumA S lot i - goL n S lot (totF n l) i)]) M := by
  refine ok_of (fn_wp rfl fun P hR => ?_)
  obtain ⟨vx, vy, hs1, hs2, hs3⟩ := hs
  obtain ⟨ps, s1, s2, s3⟩ := id hx
  obtain ⟨ds, d1, d2, d3⟩ := loR_get hz
  obtain ⟨T, hT⟩ : ∃ T, T = totF n l := ⟨_, rfl⟩
  have Tn : T n = 0 := by rw [hT]; exact totF_end n l
  rw [← hT] at hR hl
  have lp : ps.length ≤ 1000000 := by omega
  have tp0 := r_tuple (M := M) (q_lst M (vecD n fun _ => 0))
  have tp1 := hs2.tup M
  have tp2 := hs3.tup M
  have cp : ∀ s : Slots, compL M.length [] M (.nm 7) tTrue b_gone_c1 s ps M = .ok (vecD n fun _ => 0) M := fun s => by
    rw [← zero_row s2]
    exact comp_map (fun _ => .int 0) (fun d hd => ⟨_, t_nm _ _, rfl⟩) (by simp)
  have e1 : vecD n (lvF (goL n S (lot.take 0) T)) = vecD n l := vecD_eq fun i hi => by rw [hT]; exact lv_tot hi
  have e2 : (vecD n fun j => T j + sumA S (lot.take 0) j - goL n S (lot.take 0) T j) = vecD n fun _ => 0 := vecD_eq fun i hi => by
    show T i + 0 - T i = 0
    omega
  obtain ⟨V, hV⟩ : ∃ V, V = vecD n l := ⟨_, rfl⟩
  obtain ⟨C, hC⟩ : ∃ C, C = chD n c := ⟨_, rfl⟩
  obtain ⟨O, hO⟩ : ∃ O, O = vecD n fun _ => 0 := ⟨_, rfl⟩
  rw [← hV] at tp1 e1
  rw [← hC] at tp2
  rw [← hO] at cp tp0 e2
  simp [b_gone, b_gone_s1, hs1.q, tp1, tp2, s1.q, s1.g, lp, wipeD, cp, tp0, d1.q, d1.g]
  refine wp_for (fun i s M' => M' = M ∧ ∃ v5 v6, s = [some x, some sd, some z, some (sdD n (lvF (goL n S (lot.take i) T)) (chL (lot.take i) c)), some (.tup (vecD n fun j => T j + sumA S (lot.take i) j - goL n S (lot.take i) T j)), v5, v6, none]) ?_ ?_ ?_
  · refine ⟨rfl, none, none, ?_⟩
    unfold sdD
    rw [e1, e2, hC]
    rfl
  · rintro i d s M' hi hd ⟨rfl, v5, v6, rfl⟩
    rw [d2] at hi
    obtain ⟨z', hz', sz⟩ := d3 i hi
    rw [hd] at hz'
    cases hz'
    obtain ⟨U, hU⟩ : ∃ U, U = goL n S (lot.take i) T := ⟨_, rfl⟩
    obtain ⟨c', hc'⟩ : ∃ c', c' = chL (lot.take i) c := ⟨_, rfl⟩
    have Un : U n = 0 := by rw [hU]; exact goL_end (fun e h => he e (List.mem_of_mem_take h)) Tn
    have hli := hl i hi
    rw [← hU, ← hc'] at hli
    have st := done_ok (M := M') (l := lvF U) (c := c') hn hx (sdR_tup n (lvF U) c') sz (he _ (List.getElem_mem hi)) (hp _ (List.getElem_mem hi)) hli
    have k1 : ∀ j, j ≤ n → totF n (lvF U) j = U j := fun j hj => tot_lv Un hj
    have k2 : ∀ j, j ≤ n → goF n S (totF n (lvF U)) lot[i] j = goL n S (lot.take (i + 1)) T j := fun j hj => by
      rw [take_one' hi, goL_app, ← hU]
      exact goF_congr k1 hj
    have e1 : vecD n (lvF (goF n S (totF n (lvF U)) lot[i])) = vecD n (lvF (goL n S (lot.take (i + 1)) T)) := vecD_eq fun j hj => by
      unfold lvF
      rw [← k2 j (by omega), ← k2 (j + 1) (by omega)]
      rfl
    have e2 : chC c' lot[i] = chL (lot.take (i + 1)) c := by
      rw [take_one' hi, chL_app, ← hc']
      rfl
    rw [e2] at st
    unfold sdD at st
    rw [e1] at st
    obtain ⟨ran, hran⟩ : ∃ r, r = ranF (fun j => totF n (lvF U) j + addF S lot[i] j) (goF n S (totF n (lvF U)) lot[i]) := ⟨_, rfl⟩
    rw [← hran] at st
    rw [← hU, ← hc']
    obtain ⟨old, hold⟩ : ∃ r, r = fun j => T j + sumA S (lot.take i) j - U j := ⟨_, rfl⟩
    rw [← hold]
    have pt := put_ok (M := M') (t := old) (u := ran) hn (.t (vecD n old)) (.t (vecD n ran))
    refine ⟨_, t_nm _ _, fun P1 hN _ _ _ _ => ?_⟩
    have e3 : (vecD n fun j => T j + sumA S (lot.take (i + 1)) j - goL n S (lot.take (i + 1)) T j) = vecD n fun k => old k + ran k := vecD_eq fun j hj => by
      rw [hold, hran]
      unfold ranF
      show _ = T j + sumA S (lot.take i) j - U j + (totF n (lvF U) j + addF S lot[i] j - goF n S (totF n (lvF U)) lot[i] j)
      rw [k1 j (by omega), k2 j (by omega), take_one' hi, sumA_app, sumA_one]
      omega
    obtain ⟨A, hA⟩ : ∃ A, A = vecD n (lvF (goL n S (lot.take (i + 1)) T)) := ⟨_, rfl⟩
    obtain ⟨B, hB⟩ : ∃ A, A = chD n (chL (lot.take (i + 1)) c) := ⟨_, rfl⟩
    rw [← hA, ← hB] at st
    have e4 : sdD n (lvF (goL n S (lot.take (i + 1)) T)) (chL (lot.take (i + 1)) c) = .tup [.tup A, .tup B] := by unfold sdD; rw [hA, hB]
    simp [b_gone_l1, b_gone_s2, b_gone_s3, sdD, st, gT, pt]
    exact hN _ _ (by simp) ⟨rfl, some d, some (.tup (vecD n ran)), by rw [e4, e3]⟩
  · rintro s' M' ⟨rfl, v5, v6, rfl⟩
    rw [d2, List.take_length]
    simp
    exact hR _ _ (by simp [sdD, below_vecD, below_chD]) ⟨rfl, List.take_length⟩
end
end LW
namespace LW
open PySem L2
section
variable {n : Nat} {S : Stair} {x y sd : D} {l : Nat → Int} {c : Nat → Bool} {e : Dd} {M : Mem}
end
theorem chD_eq {n : Nat} {c c' : Nat → Bool} (h : ∀ i, i < n → c i = c' i) : chD n c = chD n c' := by
  unfold chD
  exact List.map_congr_left fun i hi => by rw [h i (List.mem_range.mp hi)]
end LW
namespace LW
open PySem L2
theorem num_lst {k : Nat} {zs : List Int} (hl : zs.length ≤ 1000000) : numD (k + 1) (.lst (zs.map .int)) = true := by
  simp only [numD, Bool.and_eq_true, decide_eq_true_eq, List.all_eq_true, List.length_map]
  refine ⟨hl, fun x hx => ?_⟩
  obtain ⟨i, _, rfl⟩ := List.mem_map.mp hx
  cases k <;> rfl
theorem cells_ok {ns : List Int} {sz : Nat} {M : Mem} (h0 : 0 < sz) (h1 : sz ≤ 63) : ∃ zs : List Int, f_law_cells [.scr ns, .int sz] M = .ok (.lst (zs.map .int)) M ∧ zs.length ≤ sz := by
  obtain ⟨zs, q, lz⟩ := folded_ok (ns := ns) (sz := sz) (M := M) h0 h1
  have hl : zs.length ≤ 1000000 := by omega
  obtain ⟨r, hr, _, e2⟩ := r_eq_num 1 (num_lst (k := 0) (zs := zs) hl) (num_lst (k := 0) (zs := []) (by simp))
  have e2 : ∀ M, oNe (.lst (zs.map .int)) (.lst []) M = .ok (.bl (!r)) M := e2
  cases r with
  | true =>
    refine ⟨[0], ok_of (fn_wp rfl fun P hR => ?_), h0⟩
    obtain ⟨Z, hZ⟩ : ∃ Z, Z = zs.map D.int := ⟨_, rfl⟩
    rw [← hZ] at q e2
    simp [b_law_cells, b_law_cells_s1, b_law_cells_s2, q, e2]
    exact hR _ _ (by simp) ⟨rfl, List.take_length⟩
  | false =>
    refine ⟨zs, ok_of (fn_wp rfl fun P hR => ?_), by omega⟩
    have bz : belows M.length (zs.map D.int) = true := below_ints zs
    obtain ⟨Z, hZ⟩ : ∃ Z, Z = zs.map D.int := ⟨_, rfl⟩
    rw [← hZ] at q e2 bz hR
    simp [b_law_cells, b_law_cells_s1, b_law_cells_s2, q, e2]
    exact hR _ _ (by simp [bz]) ⟨rfl, List.take_length⟩
theorem law_runC {fr : Fn} {sz : Nat} {body : SS} (h0 : 0 < sz) (h1 : sz ≤ 63) (hr : ∀ (M : Mem) (h : Nat), Box M h (2 ^ 40) → ∃ M', fr [.ref h] M = .ok (.bl true) M')
    (hb : body = sSeq (sSet 1 (eCall f_law_cells (aCons (eVar 0) (aCons (eC (.int (sz : Int))) (aNil))))) (sRet (eFn bAll (aCons (eFrz (nComp (iRange1 (aCons (eFn bLen (aCons (eVar 1) (aNil))) (aNil))) [2] (.nm 2) (tTrue) (eCall fr (aCons (eCall f_law_box (aCons (eVar 1) (aCons (eVar 2) (aNil)))) (aNil))))) (aNil))))) :
    ∀ ns : List Int, ns.length ≤ 63 → ∃ M', mkFn false 1 3 body [.scr ns] [] = .ok (.bl true) M' := by
  intro ns hn
  subst hb
  obtain ⟨zs, q, lz⟩ := cells_ok (ns := ns) (sz := sz) (M := []) h0 h1
  obtain ⟨Z, hZ⟩ : ∃ Z, Z = zs.map D.int := ⟨_, rfl⟩
  rw [← hZ] at q
  have lZ : Z.length = zs.length := by rw [hZ, List.length_map]
  have ln := fun M => r_len (M := M) (q_lst M Z)
  have rg : rng1 [.int (Z.length : Int)] [] = .ok (rngD 0 Z.length, []) [] := rng1_nat (by omega)
  have lr : (rngD 0 Z.length).length ≤ 1000000 := by rw [rngD_len]; omega
  obtain ⟨Y, M2, q2, hY⟩ := compL_st (b := 0) (hs := []) (M0 := []) (t := .nm 2) (e := eCall fr (aCons (eCall f_law_box (aCons (eVar 1) (aCons (eVar 2) (aNil)))) (aNil))) (s := [some (.scr ns), some (.lst Z), none]) (ds := rngD 0 Z.length) (M := [])
    (fun j ys M' => ∀ y ∈ ys, y = D.bl true) (by simp) (fun j d ys M' hd hy => by
      obtain ⟨hj, rfl⟩ := rngD_get hd
      obtain ⟨M1, b1, x1, c1, e1⟩ := box_ok (x := .lst Z) (zs := zs) (k := 0 + (j : Int)) (M := M') (by rw [hZ]; rfl) (by omega) (by omega)
      obtain ⟨M3, r2⟩ := hr _ _ x1
      refine ⟨_, .bl true, M3, t_nm _ _, by simp only [Int.zero_add] at b1 ⊢; simp [b1, r2], by simp, fun y h => ?_⟩
      rw [List.mem_append] at h
      rcases h with h | h
      · exact hy y h
      · simpa using h)
  refine ⟨_, mk_rt (d := .bl true) (M' := M2) rfl ?_ rfl⟩
  simp [q, ln, rg, wipeD, lr, q2, r_all hY]
theorem levels_drawn {M : Mem} {h m n : Nat} {S : Stair} {g : Int} (g0 : 0 < g) (g1 : g ≤ 1000000000000000) (hn : n ≤ 1000) (hS : StOk g n S) (x : Box M h (m + 128 * n)) :
    ∃ l M', f_law_levels [.ref h, .tup (stD n S), .int g] M = .ok (.tup (vecD n l)) M' ∧ (∀ i, i < n → S.lo i ≤ l i ∧ l i ≤ S.mo i) ∧ Dr h m M M' := by
  have hh := x.lt
  have key : Wr (f_law_levels [.ref h, .tup (stD n S), .int g] M) fun d M' => ∃ l : Nat → Int, d = .tup (vecD n l) ∧ (∀ i, i < n → S.lo i ≤ l i ∧ l i ≤ S.mo i) ∧ Dr h m M M' := by
    refine fn_wp rfl fun P hR => ?_
    have ls : (stD n S).length ≤ 1000000 := by rw [stD_len]; omega
    simp [b_law_levels, ls, wipeD]
    refine wp_comp (fun a ys M' => (∃ l : Nat → Int, ys = vecD a l ∧ ∀ i, i < a → S.lo i ≤ l i ∧ l i ≤ S.mo i) ∧ Dr h (m + 128 * (n - a)) M M') ?_ ?_ ?_
    · exact ⟨⟨fun _ => 0, rfl, fun i hi => absurd hi (Nat.not_lt_zero _)⟩, .refl (x.mono (by omega))⟩
    · rintro a d ys M' ha hd ⟨⟨l, rfl, hl⟩, dr⟩
      rw [stD_len] at ha
      rw [stD_get ha] at hd
      cases hd
      refine ⟨[some (.ref h), some (.tup (stD n S)), some (.int g), some (.int (S.lo a)), some (.int (S.mo a)), some (.int (S.sz a))], by simp [pdL], fun Q' hQ => ?_⟩
      have ps := pd_small (hS a ha) g0 g1
      simp only at ps
      obtain ⟨w, hw⟩ : ∃ w, w = (S.mo a - S.lo a) / g := ⟨_, rfl⟩
      have w0 : 0 ≤ w := by rw [hw]; exact Int.ediv_nonneg (by omega) (by omega)
      have w1 : w * g ≤ S.mo a - S.lo a := by rw [hw]; exact Int.ediv_mul_le _ (by omega)
      have w2 : w ≤ 32 := by
        rw [hw]
        refine Int.ediv_le_of_le_mul g0 ?_
        omega
      have dv : ∀ M, oDiv (.int (S.mo a - S.lo a)) (.int g) M = .ok (.int w) M := fun M => by rw [hw]; exact r_div g0 (by omega)
      obtain ⟨r1, M1, q1, a1, b1, d1⟩ := take_dr (M := M') (h := h) (n := m + 128 * (n - (a + 1))) (size := w + 1) (dr.box.mono (by omega)) (by omega) (Int.le_trans (by omega) t8)
      have mg : ∀ (M : Mem), oMul (.int g) (.int r1) M = .ok (.int (g * r1)) M := fun M => r_mul (mul_l (by omega) (by omega))
      simp [b_law_levels_c1, dv, q1, mg]
      have gr : 0 ≤ g * r1 ∧ g * r1 ≤ w * g := ⟨Int.mul_nonneg (by omega) a1, by rw [Int.mul_comm]; exact Int.mul_le_mul_of_nonneg_right (by omega) (by omega)⟩
      refine hQ _ _ (by simp) ⟨⟨fun i => if i = a then S.lo a + g * r1 else l i, ?_, fun i hi => ?_⟩, dr.trans d1⟩
      · rw [vecD_succ]
        congr 1
        · exact vecD_eq fun j hj => by rw [if_neg (by omega)]
        · rw [if_pos rfl]
      · by_cases h : i = a
        · subst h
          simp only [if_true]
          omega
        · simp only [if_neg h]
          exact hl i (by omega)
    · rintro ys M' ⟨⟨l, rfl, hl⟩, dr⟩
      rw [stD_len] at *
      have tp := r_tuple (M := M') (q_lst M' (vecD n l))
      simp [tp]
      refine hR _ _ (by simp [below_vecD]) ⟨l, rfl, hl, ?_⟩
      rw [List.take_of_length_le (by rw [dr.len]; exact Nat.le_refl _)]
      exact dr.mono (by omega)
  obtain ⟨d, M', e, l, rfl, h1, h2⟩ := wr_of key
  exact ⟨l, M', e, h1, h2⟩
theorem chambers_drawn {M : Mem} {h m n : Nat} (hn : n ≤ 1000) (x : Box M h (m + 128 * n)) :
    ∃ c M', f_law_chambers [.ref h, .int (n : Int)] M = .ok (.tup (chD n c)) M' ∧ Dr h m M M' := by
  have hh := x.lt
  have key : Wr (f_law_chambers [.ref h, .int (n : Int)] M) fun d M' => ∃ c : Nat → Bool, d = .tup (chD n c) ∧ Dr h m M M' := by
    refine fn_wp rfl fun P hR => ?_
    have rg : ∀ M, rng1 [.int (n : Int)] M = .ok (rngD 0 n, []) M := fun M => rng1_nat (by omega)
    have lr : (rngD 0 n).length ≤ 1000000 := by rw [rngD_len]; omega
    simp [b_law_chambers, rg, lr, wipeD]
    refine wp_comp (fun a ys M' => (∃ c : Nat → Bool, ys = chD a c) ∧ Dr h (m + 128 * (n - a)) M M') ?_ ?_ ?_
    · exact ⟨⟨fun _ => false, rfl⟩, .refl (x.mono (by omega))⟩
    · rintro a d ys M' ha hd ⟨⟨c, rfl⟩, dr⟩
      rw [rngD_len] at ha
      refine ⟨_, t_nm _ _, fun Q' hQ => ?_⟩
      obtain ⟨r1, M1, q1, a1, b1, d1⟩ := take_dr (M := M') (h := h) (n := m + 128 * (n - (a + 1))) (size := 2) (dr.box.mono (by omega)) (by decide) (by decide)
      have ix : atI [D.str "low", .str "high"] r1 = some (.str (chS (decide (r1 = 1)))) := by
        rcases (by omega : r1 = 0 ∨ r1 = 1) with rfl | rfl <;> rfl
      simp [b_law_chambers_c1, q1, ix]
      refine hQ _ _ (by simp) ⟨⟨turnC c a (decide (r1 = 1)), ?_⟩, dr.trans d1⟩
      unfold chD
      rw [List.range_succ, List.map_append]
      congr 1
      · refine List.map_congr_left fun j hj => ?_
        have := List.mem_range.mp hj
        unfold turnC
        rw [if_neg (by omega)]
      · simp [turnC]
    · rintro ys M' ⟨⟨c, rfl⟩, dr⟩
      rw [rngD_len] at *
      have tp := r_tuple (M := M') (q_lst M' (chD n c))
      simp [tp]
      refine hR _ _ (by simp [below_chD]) ⟨c, rfl, ?_⟩
      rw [List.take_of_length_le (by rw [dr.len]; exact Nat.le_refl _)]
      exact dr.mono (by omega)
  obtain ⟨d, M', e, c, rfl, h2⟩ := wr_of key
  exact ⟨c, M', e, h2⟩
end LW
namespace LW
open PySem L2
section
variable {n : Nat} {S : Stair} {l : Nat → Int} {c : Nat → Bool}
end
end LW
namespace LW
open PySem L2
@[simp] theorem sq_exc' (c : Str) (d : D) (s : Slots) (M : Mem) (k : Slots → Mem → RS) : (RS.exc c d s M).sq k = .exc c d s M := id rfl
@[simp] theorem wp_exc' {c : Str} {d : D} {s : Slots} {M : Mem} {P : Ps} : Wp (.exc c d s M) P = P.x c d s M := propext ⟨fun h => by cases h; assumption, .exc⟩
/-- what a raising def's body comes to -/
theorem fn_wx {np nn : Nat} {body : SS} {ds : List D} {M : Mem} {c : Str} {d : D} (hl : ds.length = np) (hd : below 0 d = true) (h : ∀ P : Ps, (∀ s M', M'.take M.length = M → P.x c d s M') → Wp (body M.length (ds.map some ++ List.replicate (nn - np) none) M) P) : mkFn false np nn body ds M = .exc c d M := by
  have h := h ⟨fun _ _ => False, fun _ _ => False, fun _ _ => False, fun _ _ => False, fun c' d' _ M' => c' = c ∧ d' = d ∧ M'.take M.length = M⟩ fun _ _ a => ⟨rfl, rfl, a⟩
  unfold mkFn
  rw [if_pos hl]
  cases hr : body M.length (ds.map some ++ List.replicate (nn - np) none) M with
  | exc c' d' s' M' =>
    rw [hr] at h
    have h9 := wp_exc'.mp h
    obtain ⟨e1, e2, e3⟩ := h9
    unfold runFn
    simp only [e1, e2, hd, if_true, e3]
  | _ => rw [hr] at h; cases h <;> rename_i h <;> exact h.elim
/-- what a try makes of an end -/
def RS.caught (cs : List Str) (i j : Nat) (r : RS) : RS := match r with
  | .exc c d s1 M1 => if c ∈ cs ∧ flatB d = true then .nx ((s1.set j (some (.exn c d))).set i none) M1 else .bad
  | r => r
@[simp] theorem r_sTryAs (cs : List Str) (i j : Nat) (tb : SS) (b : Nat) (s : Slots) (M : Mem) : sTryAs cs i j tb b s M = (tb b s M).caught cs i j := id rfl
@[simp] theorem caught_nx (cs : List Str) (i j : Nat) (s : Slots) (M : Mem) : (RS.nx s M).caught cs i j = .nx s M := id rfl
@[simp] theorem caught_rt (cs : List Str) (i j : Nat) (d : D) (M : Mem) : (RS.rt d M).caught cs i j = .rt d M := id rfl
theorem caught_exc {cs : List Str} {i j : Nat} {c : Str} {d : D} {s : Slots} {M : Mem} (hc : c ∈ cs) (hd : flatB d = true) : (RS.exc c d s M).caught cs i j = .nx ((s.set j (some (.exn c d))).set i none) M := by
  show (if c ∈ cs ∧ flatB d = true then _ else RS.bad) = _
  rw [if_pos ⟨hc, hd⟩]
theorem r_what {cs : List Str} {c : Str} {d : D} {M : Mem} (hc : c ∈ cs) : oWhat cs (.exn c d) M = .ok d M := if_pos hc
theorem r_isE {l : List (Str × Bool)} {c : Str} {d : D} {b : Bool} {M : Mem} (h : l.lookup c = some b) : oIsE l (.exn c d) M = .ok (.bl b) M := by
  show (match l.lookup c with | some b => R.ok (D.bl b) M | none => .bad) = _
  rw [h]
def excOf (w : Str) : Str := if w = "shut" then "Shut" else "Dry"
section
variable {n : Nat} {S : Stair} {x y sd : D} {l : Nat → Int} {c : Nat → Bool} {e : Dd} {M : Mem}
end
end LW
namespace LW
open PySem L2
section
variable {b : Nat} {s : Slots} {M : Mem} {f g h ek ev : ES} {fa : EA} {it : EI} {t : Tg}
@[simp] theorem r_calO (φ : FnO) : eCallO φ fa b s M = (fa b s M).bind fun ds M1 => φ b ds M1 := id rfl
@[simp] theorem r_mthO (c m : Str) (φ : FnO) : eMthO c m φ g fa b s M = (g b s M).bind fun x M1 => match x with
  | .ref h => match M1[h]? with
    | some (.ins c' fs) => if c' = c ∧ fs.lookup m = none then (fa b s M1).bind fun ds M2 => φ b (.ref h :: ds) M2 else .bad
    | _ => .bad
  | _ => .bad := id rfl
@[simp] theorem r_mthO0 (c m : Str) (φ : FnO) : eMthO0 c m φ g b s M = (g b s M).bind fun x M1 => match x with
  | .ref h => match M1[h]? with
    | some (.ins c' fs) => if c' = c ∧ fs.lookup m = none then φ b [.ref h] M1 else .bad
    | _ => .bad
  | _ => .bad := id rfl
@[simp] theorem r_mth0H (c m : Str) (φ : Fn) : eMth0 c m φ g b s M = (g b s M).bind fun x M1 => match x with
  | .ref h => match M1[h]? with
    | some (.ins c' fs) => if c' = c ∧ fs.lookup m = none then φ [.ref h] M1 else .bad
    | _ => .bad
  | _ => .bad := id rfl
@[simp] theorem r_dc (own : List Nat) : eDc it own t ek ev b s M = (it b s M).bind fun p M1 => if p.1.length ≤ 1000000 then (dcL b p.2 M1 t ek ev (wipeD s own) p.1 ([], []) M1).nox.bind fun acc M2 => .ok (.ref M2.length) (M2 ++ [.dct acc.1 acc.2]) else .bad := id rfl
@[simp] theorem r_nsortIt : nSortIt f b s M = (f b s M).bind fun x M1 => match dctOf M1 x with
  | some p => match strKeys p.1 with
    | some xs => if xs.length < 64 ∧ xs.length = p.2.length ∧ p.2.all (fun d => (tupKey d).isSome) = true then .ok ((sortT (xs.zip p.2)).map fun z => .tup [.str z.1, z.2]) M1 else .bad
    | none => .bad
  | none => .bad := id rfl
@[simp] theorem r_dInH (neg : Bool) (y d : D) : oDIn neg y d M = (match keyOf y, dctOf M d with | some k, some p => .ok (.bl ((valD k p.1 p.2).isSome != neg)) M | _, _ => .bad) := id rfl
@[simp] theorem r_keyS (x : Str) : keyOf (.str x) = some (.inr x) := id rfl
@[simp] theorem r_raise (c : Str) : sRaise c f b s M = (f b s M).toS s fun d M1 => if flatB d = true then .exc c d s M1 else .bad := id rfl
@[simp] theorem r_gFld (c x : Str) (d : D) : gFld c x f b d s M = (match f b s M with
  | .ok (.ref h) M1 => (match M1[h]? with
    | some (.ins c' fs) => if c' = c ∧ fs.length < 1000 ∧ stOk b h d = true then some (s, M1.set h (.ins c' (putD x d fs))) else none
    | _ => none)
  | _ => none) := id rfl
end
theorem fnO_wp {np nn b : Nat} {body : SS} {ds : List D} {M : Mem} {Q : D → Mem → Prop} (hl : ds.length = np) (h : ∀ P : Ps, (∀ d M', Q d M' → P.r d M') → Wp (body b (ds.map some ++ List.replicate (nn - np) none) M) P) : Wr (mkFnO np nn body b ds M) Q := by
  have h := h (only Q) fun _ _ a => a
  unfold mkFnO
  rw [if_pos hl]
  cases hr : body b (ds.map some ++ List.replicate (nn - np) none) M with
  | rt d M' =>
    rw [hr, wp_rt] at h
    exact .ok h
  | _ => rw [hr] at h; cases h <;> rename_i h <;> exact h.elim
abbrev BL := List (Str × Int × Int)
def bKs (B : BL) : List Key := B.map fun x => .inr x.1
def bV (p : Int × Int) : D := .tup [.int p.1, .int p.2]
def bVs (B : BL) : List D := B.map fun x => bV x.2
def bT (x : Str × Int × Int) : D := .tup [.str x.1, .int x.2.1, .int x.2.2]
def setB (B : BL) (x : Str) (p : Int × Int) : BL := B.map fun y => if y.1 = x then (y.1, p) else y
def insB (x : Str × Int × Int) : BL → BL
  | [] => [x]
  | y :: ys => if ltS y.1 x.1 = true then y :: insB x ys else x :: y :: ys
def ordB (B : BL) : BL := B.foldr insB []
theorem insB_perm {x : Str × Int × Int} : ∀ {ys : BL}, (insB x ys).Perm (x :: ys)
  | [] => .refl _
  | y :: ys => by
    unfold insB
    split
    · exact (insB_perm (ys := ys)).cons y |>.trans (.swap _ _ _)
    · exact .refl _
theorem ordB_perm : ∀ {xs : BL}, (ordB xs).Perm xs
  | [] => .refl _
  | x :: xs => insB_perm.trans ((ordB_perm (xs := xs)).cons x)
theorem bKs_str : ∀ B : BL, strKeys (bKs B) = some (B.map (·.1))
  | [] => rfl
  | x :: B => by
    show (strKeys (bKs B)).map (x.1 :: ·) = _
    rw [bKs_str B]
    rfl
theorem val_boat (x : Str) : ∀ B : BL, valD (.inr x) (bKs B) (bVs B) = (B.lookup x).map bV
  | [] => rfl
  | y :: B => by
    show (if (Sum.inr y.1 : Key) = .inr x then some (bV y.2) else valD (.inr x) (bKs B) (bVs B)) = _
    rw [List.lookup_cons, val_boat x B]
    by_cases h : y.1 = x
    · subst h
      simp
    · have h2 : (x == y.1) = false := by simpa using fun e => h e.symm
      rw [if_neg (fun e => h (by injection e)), h2]
theorem put_boat {x : Str} {p q : Int × Int} {B : BL} (h : B.lookup x = some q) : putKD (.inr x) (bV p) (bKs B) (bVs B) = (bKs (setB B x p), bVs (setB B x p)) := by
  have hx : (bKs B).any (fun k => decide (k = (Sum.inr x : Key))) = true := by
    refine List.any_eq_true.mpr ⟨.inr x, ?_, by simp⟩
    clear p
    induction B with
    | nil => cases h
    | cons y B ih =>
      rw [List.lookup_cons] at h
      cases e : x == y.1 with
      | true => simp [bKs, eq_of_beq e]
      | false => rw [e] at h; exact List.mem_cons_of_mem _ (ih h)
  unfold putKD
  rw [if_pos hx]
  congr 1
  · unfold bKs setB
    rw [List.map_map]
    refine List.map_congr_left fun y _ => ?_
    show Sum.inr y.1 = Sum.inr (if y.1 = x then (y.1, p) else y).1
    split <;> rfl
  · clear h hx
    induction B with
    | nil => rfl
    | cons y B ih =>
      show (if (Sum.inr y.1 : Key) = .inr x then bV p else bV y.2) :: ((bKs B).zip (bVs B)).map _ = bV (if y.1 = x then (y.1, p) else y).2 :: bVs (setB B x p)
      rw [ih]
      congr 1
      by_cases h : y.1 = x
      · rw [if_pos (by rw [h]), if_pos h]
      · rw [if_neg (fun e => h (by injection e)), if_neg h]
theorem setB_names (B : BL) (x : Str) (p : Int × Int) : (setB B x p).map (·.1) = B.map (·.1) := by
  unfold setB
  rw [List.map_map]
  refine List.map_congr_left fun y _ => ?_
  show (if y.1 = x then (y.1, p) else y).1 = y.1
  split <;> rfl
theorem ord_names {B : BL} (nd : (B.map (·.1)).Nodup) : ((ordB B).map (·.1)).Nodup := (ordB_perm.map (·.1)).nodup_iff.mpr nd
@[simp] theorem ne_fld0 : (("own_stair" : Str) = "own_levels") = False := eq_false (by decide)
@[simp] theorem nb_fld0 : (("own_stair" : Str) == "own_levels") = false := by decide
@[simp] theorem ne_fld1 : (("own_stair" : Str) = "own_heaps") = False := eq_false (by decide)
@[simp] theorem nb_fld1 : (("own_stair" : Str) == "own_heaps") = false := by decide
@[simp] theorem ne_fld2 : (("own_stair" : Str) = "own_fleet") = False := eq_false (by decide)
@[simp] theorem nb_fld2 : (("own_stair" : Str) == "own_fleet") = false := by decide
@[simp] theorem ne_fld3 : (("own_stair" : Str) = "ran_out") = False := eq_false (by decide)
@[simp] theorem nb_fld3 : (("own_stair" : Str) == "ran_out") = false := by decide
@[simp] theorem ne_fld4 : (("own_levels" : Str) = "own_stair") = False := eq_false (by decide)
@[simp] theorem nb_fld4 : (("own_levels" : Str) == "own_stair") = false := by decide
@[simp] theorem ne_fld5 : (("own_levels" : Str) = "own_heaps") = False := eq_false (by decide)
@[simp] theorem nb_fld5 : (("own_levels" : Str) == "own_heaps") = false := by decide
@[simp] theorem ne_fld6 : (("own_levels" : Str) = "own_fleet") = False := eq_false (by decide)
@[simp] theorem nb_fld6 : (("own_levels" : Str) == "own_fleet") = false := by decide
@[simp] theorem ne_fld7 : (("own_levels" : Str) = "ran_out") = False := eq_false (by decide)
@[simp] theorem nb_fld7 : (("own_levels" : Str) == "ran_out") = false := by decide
@[simp] theorem ne_fld8 : (("own_heaps" : Str) = "own_stair") = False := eq_false (by decide)
@[simp] theorem nb_fld8 : (("own_heaps" : Str) == "own_stair") = false := by decide
@[simp] theorem ne_fld9 : (("own_heaps" : Str) = "own_levels") = False := eq_false (by decide)
@[simp] theorem nb_fld9 : (("own_heaps" : Str) == "own_levels") = false := by decide
@[simp] theorem ne_fld10 : (("own_heaps" : Str) = "own_fleet") = False := eq_false (by decide)
@[simp] theorem nb_fld10 : (("own_heaps" : Str) == "own_fleet") = false := by decide
@[simp] theorem ne_fld11 : (("own_heaps" : Str) = "ran_out") = False := eq_false (by decide)
@[simp] theorem nb_fld11 : (("own_heaps" : Str) == "ran_out") = false := by decide
@[simp] theorem ne_fld12 : (("own_fleet" : Str) = "own_stair") = False := eq_false (by decide)
@[simp] theorem nb_fld12 : (("own_fleet" : Str) == "own_stair") = false := by decide
@[simp] theorem ne_fld13 : (("own_fleet" : Str) = "own_levels") = False := eq_false (by decide)
@[simp] theorem nb_fld13 : (("own_fleet" : Str) == "own_levels") = false := by decide
@[simp] theorem ne_fld14 : (("own_fleet" : Str) = "own_heaps") = False := eq_false (by decide)
@[simp] theorem nb_fld14 : (("own_fleet" : Str) == "own_heaps") = false := by decide
@[simp] theorem ne_fld15 : (("own_fleet" : Str) = "ran_out") = False := eq_false (by decide)
@[simp] theorem nb_fld15 : (("own_fleet" : Str) == "ran_out") = false := by decide
@[simp] theorem ne_fld16 : (("ran_out" : Str) = "own_stair") = False := eq_false (by decide)
@[simp] theorem nb_fld16 : (("ran_out" : Str) == "own_stair") = false := by decide
@[simp] theorem ne_fld17 : (("ran_out" : Str) = "own_levels") = False := eq_false (by decide)
@[simp] theorem nb_fld17 : (("ran_out" : Str) == "own_levels") = false := by decide
@[simp] theorem ne_fld18 : (("ran_out" : Str) = "own_heaps") = False := eq_false (by decide)
@[simp] theorem nb_fld18 : (("ran_out" : Str) == "own_heaps") = false := by decide
@[simp] theorem ne_fld19 : (("ran_out" : Str) = "own_fleet") = False := eq_false (by decide)
@[simp] theorem nb_fld19 : (("ran_out" : Str) == "own_fleet") = false := by decide
@[simp] theorem ne_fld20 : (("turned" : Str) = "afloat") = False := eq_false (by decide)
@[simp] theorem nb_fld20 : (("turned" : Str) == "afloat") = false := by decide
@[simp] theorem ne_fld21 : (("afloat" : Str) = "turned") = False := eq_false (by decide)
@[simp] theorem nb_fld21 : (("afloat" : Str) == "turned") = false := by decide
@[simp] theorem ne_mf0 : (("twin" : Str) = "turned") = False := eq_false (by decide)
@[simp] theorem ne_mf1 : (("twin" : Str) = "afloat") = False := eq_false (by decide)
@[simp] theorem ne_mf2 : (("boats" : Str) = "turned") = False := eq_false (by decide)
@[simp] theorem ne_mf3 : (("boats" : Str) = "afloat") = False := eq_false (by decide)
@[simp] theorem ne_mf4 : (("found" : Str) = "turned") = False := eq_false (by decide)
@[simp] theorem ne_mf5 : (("found" : Str) = "afloat") = False := eq_false (by decide)
@[simp] theorem ne_mf6 : (("turn" : Str) = "turned") = False := eq_false (by decide)
@[simp] theorem ne_mf7 : (("turn" : Str) = "afloat") = False := eq_false (by decide)
@[simp] theorem ne_mf8 : (("sail" : Str) = "turned") = False := eq_false (by decide)
@[simp] theorem ne_mf9 : (("sail" : Str) = "afloat") = False := eq_false (by decide)
@[simp] theorem ne_mf10 : (("ship" : Str) = "turned") = False := eq_false (by decide)
@[simp] theorem ne_mf11 : (("ship" : Str) = "afloat") = False := eq_false (by decide)
@[simp] theorem ne_mf12 : (("take" : Str) = "turned") = False := eq_false (by decide)
@[simp] theorem ne_mf13 : (("take" : Str) = "afloat") = False := eq_false (by decide)
@[simp] theorem ne_mf14 : (("do" : Str) = "own_stair") = False := eq_false (by decide)
@[simp] theorem ne_mf15 : (("do" : Str) = "own_levels") = False := eq_false (by decide)
@[simp] theorem ne_mf16 : (("do" : Str) = "own_heaps") = False := eq_false (by decide)
@[simp] theorem ne_mf17 : (("do" : Str) = "own_fleet") = False := eq_false (by decide)
@[simp] theorem ne_mf18 : (("do" : Str) = "ran_out") = False := eq_false (by decide)
@[simp] theorem ne_mf19 : (("stands_so" : Str) = "own_stair") = False := eq_false (by decide)
@[simp] theorem ne_mf20 : (("stands_so" : Str) = "own_levels") = False := eq_false (by decide)
@[simp] theorem ne_mf21 : (("stands_so" : Str) = "own_heaps") = False := eq_false (by decide)
@[simp] theorem ne_mf22 : (("stands_so" : Str) = "own_fleet") = False := eq_false (by decide)
@[simp] theorem ne_mf23 : (("stands_so" : Str) = "ran_out") = False := eq_false (by decide)
@[simp] theorem ne_mf24 : (("stair" : Str) = "own_stair") = False := eq_false (by decide)
@[simp] theorem ne_mf25 : (("stair" : Str) = "own_levels") = False := eq_false (by decide)
@[simp] theorem ne_mf26 : (("stair" : Str) = "own_heaps") = False := eq_false (by decide)
@[simp] theorem ne_mf27 : (("stair" : Str) = "own_fleet") = False := eq_false (by decide)
@[simp] theorem ne_mf28 : (("stair" : Str) = "ran_out") = False := eq_false (by decide)
@[simp] theorem ne_mf29 : (("fleet" : Str) = "own_stair") = False := eq_false (by decide)
@[simp] theorem ne_mf30 : (("fleet" : Str) = "own_levels") = False := eq_false (by decide)
@[simp] theorem ne_mf31 : (("fleet" : Str) = "own_heaps") = False := eq_false (by decide)
@[simp] theorem ne_mf32 : (("fleet" : Str) = "own_fleet") = False := eq_false (by decide)
@[simp] theorem ne_mf33 : (("fleet" : Str) = "ran_out") = False := eq_false (by decide)
@[simp] theorem ne_mf34 : (("stand" : Str) = "own_stair") = False := eq_false (by decide)
@[simp] theorem ne_mf35 : (("stand" : Str) = "own_levels") = False := eq_false (by decide)
@[simp] theorem ne_mf36 : (("stand" : Str) = "own_heaps") = False := eq_false (by decide)
@[simp] theorem ne_mf37 : (("stand" : Str) = "own_fleet") = False := eq_false (by decide)
@[simp] theorem ne_mf38 : (("stand" : Str) = "ran_out") = False := eq_false (by decide)
@[simp] theorem ne_mf39 : (("heaps" : Str) = "own_stair") = False := eq_false (by decide)
@[simp] theorem ne_mf40 : (("heaps" : Str) = "own_levels") = False := eq_false (by decide)
@[simp] theorem ne_mf41 : (("heaps" : Str) = "own_heaps") = False := eq_false (by decide)
@[simp] theorem ne_mf42 : (("heaps" : Str) = "own_fleet") = False := eq_false (by decide)
@[simp] theorem ne_mf43 : (("heaps" : Str) = "ran_out") = False := eq_false (by decide)
@[simp] theorem ne_mf44 : (("boats" : Str) = "own_stair") = False := eq_false (by decide)
@[simp] theorem ne_mf45 : (("boats" : Str) = "own_levels") = False := eq_false (by decide)
@[simp] theorem ne_mf46 : (("boats" : Str) = "own_heaps") = False := eq_false (by decide)
@[simp] theorem ne_mf47 : (("boats" : Str) = "own_fleet") = False := eq_false (by decide)
@[simp] theorem ne_mf48 : (("boats" : Str) = "ran_out") = False := eq_false (by decide)
@[simp] theorem ne_mf49 : (("ran" : Str) = "own_stair") = False := eq_false (by decide)
@[simp] theorem ne_mf50 : (("ran" : Str) = "own_levels") = False := eq_false (by decide)
@[simp] theorem ne_mf51 : (("ran" : Str) = "own_heaps") = False := eq_false (by decide)
@[simp] theorem ne_mf52 : (("ran" : Str) = "own_fleet") = False := eq_false (by decide)
@[simp] theorem ne_mf53 : (("ran" : Str) = "ran_out") = False := eq_false (by decide)
@[simp] theorem ne_mf54 : (("like" : Str) = "own_stair") = False := eq_false (by decide)
@[simp] theorem ne_mf55 : (("like" : Str) = "own_levels") = False := eq_false (by decide)
@[simp] theorem ne_mf56 : (("like" : Str) = "own_heaps") = False := eq_false (by decide)
@[simp] theorem ne_mf57 : (("like" : Str) = "own_fleet") = False := eq_false (by decide)
@[simp] theorem ne_mf58 : (("like" : Str) = "ran_out") = False := eq_false (by decide)
@[simp] theorem ne_mf59 : (("__eq__" : Str) = "own_stair") = False := eq_false (by decide)
@[simp] theorem ne_mf60 : (("__eq__" : Str) = "own_levels") = False := eq_false (by decide)
@[simp] theorem ne_mf61 : (("__eq__" : Str) = "own_heaps") = False := eq_false (by decide)
@[simp] theorem ne_mf62 : (("__eq__" : Str) = "own_fleet") = False := eq_false (by decide)
@[simp] theorem ne_mf63 : (("__eq__" : Str) = "ran_out") = False := eq_false (by decide)
@[simp] theorem lk_turned (x y : D) : List.lookup ("turned" : Str) [(("turned" : Str), x), (("afloat" : Str), y)] = some x := by simp [List.lookup_cons]
@[simp] theorem lk_afloat (x y : D) : List.lookup ("afloat" : Str) [(("turned" : Str), x), (("afloat" : Str), y)] = some y := by simp [List.lookup_cons]
@[simp] theorem lk_own_stair (v0 v1 v2 v3 v4 : D) : List.lookup ("own_stair" : Str) [(("own_stair" : Str), v0), (("own_levels" : Str), v1), (("own_heaps" : Str), v2), (("own_fleet" : Str), v3), (("ran_out" : Str), v4)] = some v0 := by simp [List.lookup_cons]
@[simp] theorem lk_own_levels (v0 v1 v2 v3 v4 : D) : List.lookup ("own_levels" : Str) [(("own_stair" : Str), v0), (("own_levels" : Str), v1), (("own_heaps" : Str), v2), (("own_fleet" : Str), v3), (("ran_out" : Str), v4)] = some v1 := by simp [List.lookup_cons]
@[simp] theorem lk_own_heaps (v0 v1 v2 v3 v4 : D) : List.lookup ("own_heaps" : Str) [(("own_stair" : Str), v0), (("own_levels" : Str), v1), (("own_heaps" : Str), v2), (("own_fleet" : Str), v3), (("ran_out" : Str), v4)] = some v2 := by simp [List.lookup_cons]
@[simp] theorem lk_own_fleet (v0 v1 v2 v3 v4 : D) : List.lookup ("own_fleet" : Str) [(("own_stair" : Str), v0), (("own_levels" : Str), v1), (("own_heaps" : Str), v2), (("own_fleet" : Str), v3), (("ran_out" : Str), v4)] = some v3 := by simp [List.lookup_cons]
@[simp] theorem lk_ran_out (v0 v1 v2 v3 v4 : D) : List.lookup ("ran_out" : Str) [(("own_stair" : Str), v0), (("own_levels" : Str), v1), (("own_heaps" : Str), v2), (("own_fleet" : Str), v3), (("ran_out" : Str), v4)] = some v4 := by simp [List.lookup_cons]
structure FlAt (M : Mem) (f n : Nat) (c : Nat → Bool) (B : BL) : Prop where
  i : M[f]? = some (.ins "Fleet" [("turned", .ref (f + 1)), ("afloat", .ref (f + 2))])
  t : M[f + 1]? = some (.lst (chD n c))
  d : M[f + 2]? = some (.dct (bKs B) (bVs B))
theorem get_lt {M : Mem} {i : Nat} {c : Cell} (cs : List Cell) (h : M[i]? = some c) : (M ++ cs)[i]? = some c := by rw [List.getElem?_append_left (lt_of_get h)]; exact h
theorem FlAt.app {M : Mem} {f n : Nat} {c : Nat → Bool} {B : BL} (h : FlAt M f n c B) (cs : List Cell) : FlAt (M ++ cs) f n c B := ⟨get_lt cs h.i, get_lt cs h.t, get_lt cs h.d⟩
end LW
namespace LW
open PySem L2
inductive Tp where
  | sail (up : Bool) (x : Str) (k : Nat)
  | turn (k : Nat)
  | ship (on : Bool) (x : Str) (z : Int)
  | carry (q r : Nat) (z : Int)
  | rain (a : Nat) (z : Int)
  | draw (a : Nat) (z : Int)
def upS (b : Bool) : Str := if b then "up" else "down"
def onS (b : Bool) : Str := if b then "load" else "unload"
def Tp.l : Tp → List D
  | .sail up x k => [.str (upS up), .str x, .int ((k : Int) + 1)]
  | .turn k => [.str "turn", .int ((k : Int) + 1)]
  | .ship on x z => [.str (onS on), .str x, .int z]
  | .carry q r z => [.str "carry", .int (q : Int), .int (r : Int), .int z]
  | .rain a z => [.str "rain", .int ((a : Int) + 1), .int z]
  | .draw a z => [.str "draw", .int ((a : Int) + 1), .int z]
def Tp.ok (n : Nat) : Tp → Prop
  | .sail _ _ k => k < n
  | .turn k => k < n
  | .ship _ _ z => 0 < z
  | .carry q r z => q ≤ n ∧ r ≤ n ∧ 0 < z
  | .rain a z => a < n ∧ 0 < z
  | .draw a z => a < n ∧ 0 < z
/-- what a trip comes to, heaps and leasts left aside -/
inductive TR where
  | flt (c : Str) (d : D)
  | ok (e : Option Dd) (mv : List (Int × Int)) (c' : Nat → Bool) (B' : BL)
def fiE (up : Bool) (k : Nat) : Dd := if up then .fill k else .empty k
def takeR (c : Nat → Bool) (B : BL) : Tp → TR
  | .sail up x k => match B.lookup x with
    | none => .flt "NoBoat" (.str x)
    | some p => if p.1 ≠ (if up then (k : Int) else (k : Int) + 1) then .flt "Astray" (.str x) else if c k = up then .flt "Shut" (.int ((k : Int) + 1)) else .ok (some (fiE up k)) [] (turnC c k up) (setB B x ((if up then (k : Int) + 1 else (k : Int)), p.2))
  | .turn k => .ok (some (fiE (!c k) k)) [] (turnC c k (!c k)) B
  | .ship on x z => match B.lookup x with
    | none => .flt "NoBoat" (.str x)
    | some p => if p.2 + (if on then z else -z) < 0 then .flt "Light" (.str x) else .ok (if 0 < p.1 then some (if on then .raise (p.1 - 1).toNat z else .lower (p.1 - 1).toNat z) else none) [(p.1, -(if on then z else -z))] c (setB B x (p.1, p.2 + (if on then z else -z)))
  | .carry q r z => .ok none [((q : Int), -z), ((r : Int), z)] c B
  | .rain a z => .ok (some (.raise a z)) [] c B
  | .draw a z => .ok (some (.lower a z)) [] c B
section
variable {M : Mem} {f n : Nat} {c : Nat → Bool} {B : BL} {x : Str} {k : Nat}
/-- the fleet at f as it is behind; all else as it was -/
structure FlTo (M M' : Mem) (f n : Nat) (c : Nat → Bool) (B : BL) : Prop where
  at_ : FlAt M' f n c B
  len : M'.length = M.length
  fr : ∀ j, j ≠ f + 1 → j ≠ f + 2 → M'[j]? = M[j]?
theorem FlAt.turned (h : FlAt M f n c B) (c' : Nat → Bool) : FlTo M (M.set (f + 1) (.lst (chD n c'))) f n c' B := by
  have l1 := lt_of_get h.t
  refine ⟨⟨by rw [List.getElem?_set_ne (by omega)]; exact h.i, by rw [List.getElem?_set_self l1], by rw [List.getElem?_set_ne (by omega)]; exact h.d⟩, by simp, fun j h1 h2 => by rw [List.getElem?_set_ne (by omega)]⟩
theorem FlTo.trans {M M1 M2 : Mem} {c1 : Nat → Bool} {B1 : BL} (a : FlTo M M1 f n c1 B1) (b : FlTo M1 M2 f n c B) : FlTo M M2 f n c B := ⟨b.at_, b.len.trans a.len, fun j h1 h2 => (b.fr j h1 h2).trans (a.fr j h1 h2)⟩
theorem FlAt.same (h : FlAt M f n c B) : FlTo M M f n c B := ⟨h, rfl, fun _ _ _ => rfl⟩
end
end LW
namespace LW
open PySem L2
@[simp] theorem wd_up_down : (("up" : Str) == "down") = false := by decide
@[simp] theorem wd_up_turn : (("up" : Str) == "turn") = false := by decide
@[simp] theorem wd_up_carry : (("up" : Str) == "carry") = false := by decide
@[simp] theorem wd_up_rain : (("up" : Str) == "rain") = false := by decide
@[simp] theorem wd_up_draw : (("up" : Str) == "draw") = false := by decide
@[simp] theorem wd_up_load : (("up" : Str) == "load") = false := by decide
@[simp] theorem wd_up_unload : (("up" : Str) == "unload") = false := by decide
@[simp] theorem wd_down_up : (("down" : Str) == "up") = false := by decide
@[simp] theorem wd_down_turn : (("down" : Str) == "turn") = false := by decide
@[simp] theorem wd_down_carry : (("down" : Str) == "carry") = false := by decide
@[simp] theorem wd_down_rain : (("down" : Str) == "rain") = false := by decide
@[simp] theorem wd_down_draw : (("down" : Str) == "draw") = false := by decide
@[simp] theorem wd_down_load : (("down" : Str) == "load") = false := by decide
@[simp] theorem wd_down_unload : (("down" : Str) == "unload") = false := by decide
@[simp] theorem wd_turn_up : (("turn" : Str) == "up") = false := by decide
@[simp] theorem wd_turn_down : (("turn" : Str) == "down") = false := by decide
@[simp] theorem wd_turn_carry : (("turn" : Str) == "carry") = false := by decide
@[simp] theorem wd_turn_rain : (("turn" : Str) == "rain") = false := by decide
@[simp] theorem wd_turn_draw : (("turn" : Str) == "draw") = false := by decide
@[simp] theorem wd_turn_load : (("turn" : Str) == "load") = false := by decide
@[simp] theorem wd_turn_unload : (("turn" : Str) == "unload") = false := by decide
@[simp] theorem wd_carry_up : (("carry" : Str) == "up") = false := by decide
@[simp] theorem wd_carry_down : (("carry" : Str) == "down") = false := by decide
@[simp] theorem wd_carry_turn : (("carry" : Str) == "turn") = false := by decide
@[simp] theorem wd_carry_rain : (("carry" : Str) == "rain") = false := by decide
@[simp] theorem wd_carry_draw : (("carry" : Str) == "draw") = false := by decide
@[simp] theorem wd_carry_load : (("carry" : Str) == "load") = false := by decide
@[simp] theorem wd_carry_unload : (("carry" : Str) == "unload") = false := by decide
@[simp] theorem wd_rain_up : (("rain" : Str) == "up") = false := by decide
@[simp] theorem wd_rain_down : (("rain" : Str) == "down") = false := by decide
@[simp] theorem wd_rain_turn : (("rain" : Str) == "turn") = false := by decide
@[simp] theorem wd_rain_carry : (("rain" : Str) == "carry") = false := by decide
@[simp] theorem wd_rain_draw : (("rain" : Str) == "draw") = false := by decide
@[simp] theorem wd_rain_load : (("rain" : Str) == "load") = false := by decide
@[simp] theorem wd_rain_unload : (("rain" : Str) == "unload") = false := by decide
@[simp] theorem wd_draw_up : (("draw" : Str) == "up") = false := by decide
@[simp] theorem wd_draw_down : (("draw" : Str) == "down") = false := by decide
@[simp] theorem wd_draw_turn : (("draw" : Str) == "turn") = false := by decide
@[simp] theorem wd_draw_carry : (("draw" : Str) == "carry") = false := by decide
@[simp] theorem wd_draw_rain : (("draw" : Str) == "rain") = false := by decide
@[simp] theorem wd_draw_load : (("draw" : Str) == "load") = false := by decide
@[simp] theorem wd_draw_unload : (("draw" : Str) == "unload") = false := by decide
@[simp] theorem wd_load_up : (("load" : Str) == "up") = false := by decide
@[simp] theorem wd_load_down : (("load" : Str) == "down") = false := by decide
@[simp] theorem wd_load_turn : (("load" : Str) == "turn") = false := by decide
@[simp] theorem wd_load_carry : (("load" : Str) == "carry") = false := by decide
@[simp] theorem wd_load_rain : (("load" : Str) == "rain") = false := by decide
@[simp] theorem wd_load_draw : (("load" : Str) == "draw") = false := by decide
@[simp] theorem wd_load_unload : (("load" : Str) == "unload") = false := by decide
@[simp] theorem wd_unload_up : (("unload" : Str) == "up") = false := by decide
@[simp] theorem wd_unload_down : (("unload" : Str) == "down") = false := by decide
@[simp] theorem wd_unload_turn : (("unload" : Str) == "turn") = false := by decide
@[simp] theorem wd_unload_carry : (("unload" : Str) == "carry") = false := by decide
@[simp] theorem wd_unload_rain : (("unload" : Str) == "rain") = false := by decide
@[simp] theorem wd_unload_draw : (("unload" : Str) == "draw") = false := by decide
@[simp] theorem wd_unload_load : (("unload" : Str) == "load") = false := by decide
section
variable {M : Mem} {f n : Nat} {c : Nat → Bool} {B : BL} {t : Tp} {y : D}
end
end LW
namespace LW
open PySem L2
inductive HR where
  | flt (q : Nat)
  | ok (hp : Nat → Int)
def addQ (hp : Nat → Int) (q : Nat) (m : Int) : Nat → Int := fun i => if i = q then hp i + m else hp i
def heapR (hp : Nat → Int) : List (Int × Int) → HR
  | [] => .ok hp
  | (q, m) :: mv => if hp q.toNat + m < 0 then .flt q.toNat else heapR (addQ hp q.toNat m) mv
section
variable {M : Mem} {N : Nat} {hp : Nat → Int} {mv : List (Int × Int)} {x : D}
end
end LW
namespace LW
open PySem L2
structure HS where
  n : Nat
  S : Stair
  l : Nat → Int
  c : Nat → Bool
  hp : Nat → Int
  B : BL
  rn : Nat → Int
def hoF (s : HS) (f : Nat) : List (Str × D) := [("own_stair", .tup (stD s.n s.S)), ("own_levels", .tup (vecD s.n s.l)), ("own_heaps", .tup (vecD (s.n + 1) s.hp)), ("own_fleet", .ref f), ("ran_out", .tup (vecD s.n s.rn))]
def HoAt (M : Mem) (h : Nat) (s : HS) : Prop := ∃ f, h < f ∧ M[h]? = some (.ins "House" (hoF s f)) ∧ FlAt M f s.n s.c s.B
structure HS.ok (s : HS) : Prop where
  n1 : s.n ≤ 1000
  bl : s.B.length < 64
  nd : (s.B.map (·.1)).Nodup
  bp : ∀ x ∈ s.B, 0 ≤ x.2.1 ∧ x.2.1 ≤ (s.n : Int)
  sz : ∀ i, i < s.n → 0 < s.S.sz i
inductive DR where
  | flt (c : Str) (d : D)
  | ok (s : HS) (rn : Nat → Int)
def doneR (s : HS) (c' : Nat → Bool) (B' : BL) (hp' : Nat → Int) : Option Dd → DR
  | none => .ok { s with c := c', hp := hp', B := B', rn := fun i => s.rn i + 0 } fun _ => 0
  | some e => match fltF s.S s.l s.c e with
    | some w => .flt (excOf w) (.int ((e.at_ : Int) + 1))
    | none => .ok { s with l := lvF (goF s.n s.S (totF s.n s.l) e), c := c', hp := hp', B := B', rn := fun i => s.rn i + ranF (fun i => totF s.n s.l i + addF s.S e i) (goF s.n s.S (totF s.n s.l) e) i } (ranF (fun i => totF s.n s.l i + addF s.S e i) (goF s.n s.S (totF s.n s.l) e))
def doR (s : HS) (t : Tp) : DR := match takeR s.c (ordB s.B) t with
  | .flt c d => .flt c d
  | .ok e mv c' B' => match heapR s.hp mv with
    | .flt q => .flt "Lack" (.int (q : Int))
    | .ok hp' => doneR s c' B' hp' e
theorem lookup_memB {x : Str} {p : Int × Int} : ∀ {B : BL}, B.lookup x = some p → (x, p) ∈ B
  | [], h => by cases h
  | y :: B, h => by
    rw [List.lookup_cons] at h
    cases e : x == y.1 with
    | true =>
      rw [e] at h
      cases h
      rw [eq_of_beq e]
      exact List.mem_cons_self ..
    | false =>
      rw [e] at h
      exact List.mem_cons_of_mem _ (lookup_memB h)
theorem setB_len (B : BL) (x : Str) (p : Int × Int) : (setB B x p).length = B.length := List.length_map ..
/-- what a trip's answer is like -/
structure TG (n : Nat) (S : Stair) (B : BL) (e : Option Dd) (mv : List (Int × Int)) (B' : BL) : Prop where
  mr : ∀ p ∈ mv, 0 ≤ p.1 ∧ p.1.toNat < n + 1
  ml : mv.length ≤ 2
  at_ : ∀ e', e = some e' → e'.at_ < n ∧ e'.pos S
  nm : B'.map (·.1) = B.map (·.1)
  bp : ∀ x ∈ B', 0 ≤ x.2.1 ∧ x.2.1 ≤ (n : Int)
theorem HS.ok.ord {s : HS} (h : s.ok) : (ordB s.B).length < 64 ∧ ((ordB s.B).map (·.1)).Nodup ∧ ∀ x ∈ ordB s.B, 0 ≤ x.2.1 ∧ x.2.1 ≤ (s.n : Int) := ⟨by rw [ordB_perm.length_eq]; exact h.bl, ord_names h.nd, fun x hx => h.bp x (ordB_perm.mem_iff.mp hx)⟩
theorem HS.ok.next {s : HS} {e : Option Dd} {mv : List (Int × Int)} {B' : BL} (h : s.ok) (g : TG s.n s.S (ordB s.B) e mv B') (l : Nat → Int) (c' : Nat → Bool) (hp' rn' : Nat → Int) : HS.ok { s with l := l, c := c', hp := hp', B := B', rn := rn' } := by
  have nl : B'.length = (ordB s.B).length := by
    have := congrArg List.length g.nm
    simpa using this
  exact ⟨h.n1, by show B'.length < 64; rw [nl]; exact h.ord.1, by show (B'.map (·.1)).Nodup; rw [g.nm]; exact h.ord.2.1, g.bp, h.sz⟩
end LW
namespace LW
open PySem L2
@[simp] theorem r_gTup (gs : EGs) (b : Nat) (d : D) (s : Slots) (M : Mem) : gTup gs b d s M = (match seqOf M d with | some xs => gs b xs s M | none => none) := id rfl
@[simp] theorem r_gsN (b : Nat) (s : Slots) (M : Mem) : gsNil b [] s M = some (s, M) := id rfl
@[simp] theorem r_gsC (g : EG) (gs : EGs) (b : Nat) (d : D) (r : List D) (s : Slots) (M : Mem) : gsCons g gs b (d :: r) s M = (g b d s M).bind fun p => gs b r p.1 p.2 := id rfl
/-- memory only grows, but for the cell at h -/
structure Grw (h : Nat) (M M' : Mem) : Prop where
  len : M.length ≤ M'.length
  fr : ∀ j, j < M.length → j ≠ h → M'[j]? = M[j]?
end LW
namespace LW
open PySem L2
end LW
namespace LW
open PySem L2
theorem Grw.trans {h : Nat} {M M1 M2 : Mem} (a : Grw h M M1) (b : Grw h M1 M2) : Grw h M M2 := ⟨Nat.le_trans a.len b.len, fun j h1 h2 => (b.fr j (Nat.lt_of_lt_of_le h1 a.len) h2).trans (a.fr j h1 h2)⟩
section
variable {b h : Nat} {M : Mem} {s s' : HS} {t : Tp} {y : D} {rn : Nat → Int}
theorem HoAt.mono {M' : Mem} (hH : HoAt M h s) (hf : ∀ j, j < M.length → M'[j]? = M[j]?) : HoAt M' h s := by
  obtain ⟨f, h1, h2, h3⟩ := hH
  exact ⟨f, h1, by rw [hf _ (lt_of_get h2)]; exact h2, ⟨by rw [hf _ (lt_of_get h3.i)]; exact h3.i, by rw [hf _ (lt_of_get h3.t)]; exact h3.t, by rw [hf _ (lt_of_get h3.d)]; exact h3.d⟩⟩
end
end LW
namespace LW
open PySem L2
/-- alike where it counts -/
structure HSeq (s t : HS) : Prop where
  n : s.n = t.n
  S : s.S = t.S
  B : s.B = t.B
  l : ∀ i, i < s.n → s.l i = t.l i
  c : ∀ i, i < s.n → s.c i = t.c i
  hp : ∀ i, i < s.n + 1 → s.hp i = t.hp i
  rn : ∀ i, i < s.n → s.rn i = t.rn i
theorem HSeq.refl (s : HS) : HSeq s s := ⟨rfl, rfl, rfl, fun _ _ => rfl, fun _ _ => rfl, fun _ _ => rfl, fun _ _ => rfl⟩
theorem HoAt.eqv {M : Mem} {h : Nat} {s t : HS} (e : HSeq s t) (hH : HoAt M h s) : HoAt M h t := by
  obtain ⟨f, h1, h2, h3⟩ := hH
  refine ⟨f, h1, ?_, ?_⟩
  · rw [h2]
    unfold hoF
    rw [← e.n, ← e.S, vecD_eq e.l, vecD_eq e.hp, vecD_eq e.rn]
  · rw [← e.n, ← e.B]
    have := h3.t
    rw [chD_eq e.c] at this
    exact ⟨h3.i, this, h3.d⟩
theorem HS.ok.eqv {s t : HS} (e : HSeq s t) (h : s.ok) : t.ok := ⟨by rw [← e.n]; exact h.n1, by rw [← e.B]; exact h.bl, by rw [← e.B]; exact h.nd, by rw [← e.B, ← e.n]; exact h.bp, by rw [← e.n, ← e.S]; exact h.sz⟩
inductive RunH : HS → List Tp → HS → Prop where
  | nil {s : HS} : RunH s [] s
  | cons {s s1 s2 s3 : HS} {t : Tp} {ts : List Tp} {rn : Nat → Int} : t.ok s.n → doR s t = .ok s1 rn → HSeq s1 s2 → RunH s2 ts s3 → RunH s (t :: ts) s3
theorem RunH.app {s s1 s2 : HS} {a b : List Tp} (h1 : RunH s a s1) (h2 : RunH s1 b s2) : RunH s (a ++ b) s2 := by
  induction h1 with
  | nil => exact h2
  | cons h3 h4 h5 _ ih => exact .cons h3 h4 h5 (ih h2)
end LW
namespace LW
open PySem L2
section
variable {M : Mem} {h : Nat} {s : HS}
end
end LW
namespace LW
open PySem L2
def grS (F : Int) (S : Stair) : Stair := ⟨fun _ => 0, fun _ => 2 * F, S.sz⟩
theorem add_gr (F : Int) (S : Stair) (e : Dd) (i : Nat) : addF (grS F S) e i = addF S e i := by cases e <;> rfl
theorem sum_end {n : Nat} {S : Stair} {lot : List Dd} (he : ∀ e ∈ lot, e.at_ < n) : sumA S lot n = 0 := by
  induction lot with
  | nil => rfl
  | cons e lot ih =>
    have : sumA S (e :: lot) n = addF S e n + sumA S lot n := by simp [sumA]
    rw [this, addF_end (he e (by simp)), ih fun e h => he e (by simp [h])]
    rfl
theorem calm {n : Nat} {S : Stair} {F B : Int} {lot : List Dd} (he : ∀ e ∈ lot, e.at_ < n) (hB : 0 ≤ B) (hd : ∀ e ∈ lot, ∀ j, j < n → -B ≤ addF S e j - addF S e (j + 1) ∧ addF S e j - addF S e (j + 1) ≤ B) (hF : (lot.length : Int) * B ≤ F) :
    ∀ i, i ≤ lot.length → (∀ j, j ≤ n → goL n (grS F S) (lot.take i) (totF n fun _ => F) j = totF n (fun _ => F) j + sumA S (lot.take i) j) ∧
      ∀ j, j < n → -((i : Int) * B) ≤ sumA S (lot.take i) j - sumA S (lot.take i) (j + 1) ∧ sumA S (lot.take i) j - sumA S (lot.take i) (j + 1) ≤ (i : Int) * B := by
  intro i
  induction i with
  | zero =>
    intro _
    refine ⟨fun j hj => ?_, fun j hj => ?_⟩
    · show totF n (fun _ => F) j = totF n (fun _ => F) j + 0
      omega
    · show -(((0 : Nat) : Int) * B) ≤ 0 - 0 ∧ 0 - 0 ≤ ((0 : Nat) : Int) * B
      simp
  | succ i ih =>
    intro hi
    have hil : i < lot.length := by omega
    obtain ⟨ih1, ih2⟩ := ih (by omega)
    have hm : lot[i] ∈ lot := List.getElem_mem hil
    have es : ∀ j, sumA S (lot.take (i + 1)) j = sumA S (lot.take i) j + addF S lot[i] j := fun j => by rw [take_one' hil, sumA_app, sumA_one]
    have b2 : ∀ j, j < n → -(((i + 1 : Nat) : Int) * B) ≤ sumA S (lot.take (i + 1)) j - sumA S (lot.take (i + 1)) (j + 1) ∧ sumA S (lot.take (i + 1)) j - sumA S (lot.take (i + 1)) (j + 1) ≤ ((i + 1 : Nat) : Int) * B := fun j hj => by
      have h1 := ih2 j hj
      have h2 := hd _ hm j hj
      have e3 : ((i + 1 : Nat) : Int) * B = (i : Int) * B + B := by push_cast; rw [Int.add_mul, Int.one_mul]
      rw [es, es, e3]
      omega
    refine ⟨fun j hj => ?_, b2⟩
    have at1 : ∀ e ∈ lot.take (i + 1), e.at_ < n := fun e h => he e (List.mem_of_mem_take h)
    obtain ⟨U, hU⟩ : ∃ U : Nat → Int, U = fun j => totF n (fun _ => F) j + sumA S (lot.take (i + 1)) j := ⟨_, rfl⟩
    have Un : U n = 0 := by rw [hU]; show totF n _ n + sumA S _ n = 0; rw [totF_end, sum_end at1]; rfl
    have st : Still n (grS F S) (totF n (lvF U)) := still_lv fun j hj => by
      have h1 := (b2 j hj).2
      have h2 : (((i + 1 : Nat) : Int)) * B ≤ (lot.length : Int) * B := Int.mul_le_mul_of_nonneg_right (by omega) hB
      show lvF U j ≤ 2 * F
      unfold lvF
      rw [hU]
      show totF n (fun _ => F) j + sumA S (lot.take (i + 1)) j - (totF n (fun _ => F) (j + 1) + sumA S (lot.take (i + 1)) (j + 1)) ≤ 2 * F
      rw [totF_step hj]
      omega
    have st2 : Still n (grS F S) U := still_congr st fun j hj => tot_lv Un hj
    rw [take_one' hil, goL_app]
    show goF n (grS F S) (goL n (grS F S) (lot.take i) (totF n fun _ => F)) lot[i] j = _
    have e1 : goF n (grS F S) (goL n (grS F S) (lot.take i) (totF n fun _ => F)) lot[i] j = ledF n (sumM (grS F S).mo) U j := by
      unfold goF
      refine ledF_congr hj (fun _ _ _ => rfl) fun q _ hq => ?_
      rw [ih1 q hq, add_gr, hU]
      show _ = totF n (fun _ => F) q + sumA S (lot.take (i + 1)) q
      rw [es]
      omega
    rw [e1, ← take_one' hil]
    have := st2 j hj
    rw [this, hU]
theorem rep_row {n : Nat} {z : Int} {M : Mem} (h0 : 0 < n) (hn : n ≤ 1000) : oMul (.tup [.int z]) (.int (n : Int)) M = .ok (.tup (vecD n fun _ => z)) M := by
  show (if 1 ≤ (n : Int) ∧ (n : Int) ≤ 1000 ∧ 1 ≤ 1000 ∧ [D.int z] ≠ [] then _ else _) = _
  rw [if_pos ⟨by omega, by omega, by decide, by simp⟩]
  congr 2
  rw [show (n : Int).toNat = n by omega]
  unfold vecD
  clear h0 hn
  induction n with
  | zero => rfl
  | succ n ih => rw [List.replicate_succ', List.flatten_append, ih, List.range_succ, List.map_append]; rfl
end LW
namespace LW
open PySem L2
end LW
namespace LW
open PySem L2
theorem of_ok {M : Mem} {h n : Nat} {xs : List D} (h0 : 0 < xs.length) (hl : xs.length ≤ 1000000) (hb : ∀ d ∈ xs, below M.length d = true) (x : Box M h (n + 128)) :
    ∃ d M', f_law_of [.ref h, .lst xs] M = .ok d M' ∧ d ∈ xs ∧ Dr h n M M' := by
  have hh := x.lt
  have key : Wr (f_law_of [.ref h, .lst xs] M) fun d M' => d ∈ xs ∧ Dr h n M M' := by
    refine fn_wp rfl fun P hR => ?_
    obtain ⟨r, M1, q1, a1, b1, d1⟩ := take_dr (M := M) (h := h) (n := n) (size := (xs.length : Int)) x (by omega) (Int.le_trans (by omega) t8)
    obtain ⟨a, rfl⟩ : ∃ a : Nat, r = (a : Int) := ⟨r.toNat, by omega⟩
    have ha : a < xs.length := by omega
    have ix : atI xs (a : Int) = some xs[a] := atI_nat (List.getElem?_eq_getElem ha)
    have ln := r_len (M := M) (q_lst M xs)
    simp [b_law_of, ln, q1, ix]
    exact hR _ _ (hb _ (List.getElem_mem ha)) ⟨List.getElem_mem ha, .of (d1.fr .refl) d1.box hh⟩
  obtain ⟨d, M', e, h1, h2⟩ := wr_of key
  exact ⟨d, M', e, h1, h2⟩
def isI : D → Bool
  | .int _ => true
  | .bl _ => true
  | _ => false
end LW
namespace LW
open PySem L2
section
variable {b : Nat} {s : Slots} {M : Mem} {f g h : ES} {fa : EA}
theorem r_np1 (p : ES × ES) (r : List (ES × ES)) : nPairs (p :: r) b s M = (p.1 b s M).nox.bind fun x M1 => (p.2 b s M1).nox.bind fun y M2 => match keyOf x with
    | some k => (nPairs r b s M2).nox.bind fun ps M3 => .ok ((k, y) :: ps) M3
    | none => .bad := id rfl
theorem r_dctN (ps : List (ES × ES)) : eDctN ps b s M = (nPairs ps b s M).nox.bind fun acc M1 => if acc.length ≤ 15 then .ok (.ref M1.length) (M1 ++ [.dct (mergeKD [] [] acc).1 (mergeKD [] [] acc).2]) else .bad := id rfl
@[simp] theorem r_dupd : eDUpd f g b s M = (f b s M).bind fun x M1 => match x with
  | .ref h => match M1[h]? with
    | some (.dct _ _) => (g b s M1).bind fun y M2 => match y with
      | .ref j => match M2[h]?, M2[j]? with
        | some (.dct ks ds), some (.dct ls es) => if h ≠ j ∧ b ≤ h ∧ ks.length + ls.length ≤ 1000000 then .ok .non (M2.set h (.dct (mergeKD ks ds (ls.zip es)).1 (mergeKD ks ds (ls.zip es)).2)) else .bad
        | _, _ => .bad
      | _ => .bad
    | _ => .bad
  | _ => .bad := id rfl
@[simp] theorem r_nsortD : nSortD fa b s M = (fa b s M).bind fun xs M1 => match xs with
  | [x] => match dctOf M1 x with
    | some p => match strKeys p.1 with
      | some ks => if ks.length < 64 ∧ p.1.length = p.2.length then .ok ((sortS ks).map D.str) M1 else .bad
      | none => .bad
    | none => .bad
  | _ => .bad := id rfl
@[simp] theorem r_join : eJoin f g b s M = (f b s M).bind fun x M1 => match x with
  | .str a => (g b s M1).bind fun y M2 => oJoin (.str a) y M2
  | _ => .bad := id rfl
@[simp] theorem r_mulT0 (z : Str) : oMulT (.str z) (.int 0) M = .ok (.str Str.empty) M := id rfl
@[simp] theorem r_mulT1 (z : Str) : oMulT (.str z) (.int 1) M = .ok (.str z) M := id rfl
@[simp] theorem r_dcp (x : D) : bDictCp [x] M = (match dctOf M x with
    | some p => .ok (.ref M.length) (M ++ [.dct p.1 p.2])
    | none => .bad) := id rfl
end
section
variable {b : Nat} {s : Slots} {M : Mem} {f : ES}
theorem np_cons {k : Str} {r : List (ES × ES)} {d : D} {M1 M2 : Mem} {ps : List (Key × D)} (h1 : f b s M = .ok d M1) (h2 : nPairs r b s M1 = .ok ps M2) : nPairs ((eC (.str k), f) :: r) b s M = .ok ((.inr k, d) :: ps) M2 := by
  rw [r_np1]
  simp only [r_c, nox_ok, bind_ok, h1, r_keyS, h2]
theorem dctN_ok {ps : List (ES × ES)} {acc : List (Key × D)} {M1 : Mem} {ks : List Key} {vs : List D} (h : nPairs ps b s M = .ok acc M1) (hl : acc.length ≤ 15) (hm : mergeKD [] [] acc = (ks, vs)) : eDctN ps b s M = .ok (.ref M1.length) (M1 ++ [.dct ks vs]) := by
  rw [r_dctN, h]
  simp only [nox_ok, bind_ok]
  rw [if_pos hl, hm]
end
/-- one to eight letters -/
def NmS (x : Str) : Prop := 1 ≤ x.length ∧ x.length ≤ 8 ∧ ∀ c ∈ x.cps.toList, 97 ≤ c ∧ c ≤ 122
theorem NmS.ok {x : Str} (h : NmS x) : PySem.PyData.strOk x = true := by
  unfold PySem.PyData.strOk
  rw [← Array.all_toList, List.all_eq_true]
  intro c hc
  have := h.2.2 c hc
  exact decide_eq_true (by omega)
def letS : Str := "abcdefghijklmnopqrstuvwxyz"
theorem let_len : letS.length = 26 := by decide +kernel
theorem let_get : ∀ i, i < 26 → letS.cps[i]? = some (97 + i) := by decide +kernel
theorem ixS_let {i : Int} {M : Mem} (h0 : 0 ≤ i) (h1 : i < 26) : oIxS (.str "abcdefghijklmnopqrstuvwxyz") (.int i) M = .ok (.str ⟨#[97 + i.toNat]⟩) M := by
  show (if 0 ≤ i ∧ i < (letS.length : Int) ∧ letS.length ≤ 1000000 then (match letS.cps[i.toNat]? with | some c => R.ok (D.str ⟨#[c]⟩) M | none => .bad) else .bad) = _
  rw [let_len, if_pos ⟨h0, by omega, by decide⟩, let_get _ (by omega)]
/-- letters, none too -/
def LtS (n : Nat) (x : Str) : Prop := x.length ≤ n ∧ ∀ c ∈ x.cps.toList, 97 ≤ c ∧ c ≤ 122
theorem LtS.app {n m : Nat} {x y : Str} (h : LtS n x) (k : LtS m y) : LtS (n + m) (x ++ y) := by
  have e : (x ++ y).cps = x.cps ++ y.cps := rfl
  refine ⟨?_, fun c hc => ?_⟩
  · have h1 := h.1
    have k1 := k.1
    unfold Str.length at *
    rw [e, Array.size_append]
    omega
  · rw [e, Array.toList_append, List.mem_append] at hc
    rcases hc with hc | hc
    · exact h.2 c hc
    · exact k.2 c hc
theorem ltS_one {i : Nat} (h : i < 26) : LtS 1 ⟨#[97 + i]⟩ := ⟨Nat.le_refl _, fun c hc => by
  have hc : c ∈ [97 + i] := hc
  rw [List.mem_singleton] at hc
  omega⟩
theorem ltS_nil : LtS 0 Str.empty := ⟨Nat.le_refl _, fun c hc => (by cases hc)⟩
theorem ltS_ab : LtS 2 "ab" := by
  refine ⟨by decide +kernel, ?_⟩
  have : ∀ c ∈ ("ab" : Str).cps.toList, 97 ≤ c ∧ c ≤ 122 := by decide +kernel
  exact this
theorem join_lt : ∀ {ys : List Str}, (∀ y ∈ ys, LtS 1 y) → LtS ys.length (Str.join ⟨#[]⟩ ys)
  | [], _ => ltS_nil
  | x :: r, h => by
    rw [PyProof.Rows.join_nil_cons]
    have := (h x (List.mem_cons_self ..)).app (join_lt (ys := r) fun y hy => h y (List.mem_cons_of_mem _ hy))
    rw [Nat.add_comm] at this
    exact this
end LW
namespace LW
open PySem L2
theorem strs_map (xs : List Str) : strsOf (xs.map D.str) = some xs := by
  induction xs with
  | nil => rfl
  | cons x xs ih =>
    show (strsOf (xs.map D.str)).map (x :: ·) = _
    rw [ih]
    rfl
theorem names_ok {M : Mem} {h n m : Nat} (hm : m ≤ 20) (x : Box M h (n + 5000)) :
    ∃ (ns : List Str) (M' : Mem), f_law_names [.ref h, .int (m : Int)] M = .ok (.lst (ns.map D.str)) M' ∧ ns.length = m ∧ (∀ x ∈ ns, NmS x) ∧ Dr h n M M' := by
  have hh := x.lt
  have key : Wr (f_law_names [.ref h, .int (m : Int)] M) fun d M' => ∃ ns : List Str, d = .lst (ns.map D.str) ∧ ns.length = m ∧ (∀ x ∈ ns, NmS x) ∧ Dr h n M M' := by
    refine @fn_off 2 11 b_law_names _ _ _ rfl ?_
    intro P hR
    obtain ⟨r1, M1, q1, a1, b1, d1⟩ := take_dr (M := M) (h := h) (n := n + 4000) (size := 26) (x.mono (by omega)) (by decide) (by decide)
    have l1 : M1.length = M.length := d1.len
    have d1' : Box (M1 ++ [.lst []]) h (n + 4000) := d1.box.app _
    obtain ⟨r2, M2, q2, a2, b2, d2⟩ := take_dr (M := M1 ++ [.lst []]) (h := h) (n := n + 3800) (size := 6) (d1'.mono (by omega)) (by decide) (by decide)
    obtain ⟨t, rfl⟩ : ∃ t : Nat, r2 = (t : Int) := ⟨r2.toNat, by omega⟩
    have rg := rng1_nat (M := M2) (j := t) (by omega)
    have lr : (rngD 0 t).length ≤ 1000000 := by rw [rngD_len]; omega
    -- the stem
    have st : ∀ s : Slots, s[2]? = some (some (.str "abcdefghijklmnopqrstuvwxyz")) → s[0]? = some (some (.ref h)) → s.length = 11 → ∃ (ys : List Str) (M3 : Mem), compL M.length [] M2 (.nm 10) tTrue b_law_names_c1 s (rngD 0 t) M2 = .ok (ys.map D.str) M3 ∧ ys.length = t ∧ (∀ y ∈ ys, LtS 1 y) ∧ Dr h (n + 2000) M2 M3 := by
      intro s h2 h0 hs
      have w := wr_compL (b := M.length) (hs := []) (M0 := M2) (t := .nm 10) (c := tTrue) (e := b_law_names_c1) (s := s) (ds := rngD 0 t) (M := M2) (fun i ys M' => ∃ xs : List Str, ys = xs.map D.str ∧ xs.length = i ∧ (∀ y ∈ xs, LtS 1 y) ∧ Dr h (n + 2000 + 128 * (6 - i)) M2 M') ⟨[], rfl, rfl, fun y hy => (by cases hy), ⟨d2.box.mono (by omega), rfl, fun _ _ => rfl⟩⟩ (fun i d ys M' hi hd hI => by
        rw [rngD_len] at hi
        obtain ⟨xs, rfl, hl, hx, dd⟩ := hI
        obtain ⟨r, M'', q, a, b, d3⟩ := take_dr (M := M') (h := h) (n := n + 2000 + 128 * (6 - (i + 1))) (size := 26) (dd.box.mono (by omega)) (by decide) (by decide)
        refine ⟨_, t_nm _ _, ?_⟩
        rw [r_ttrue, wr_ok, if_pos rfl]
        have g2 : (s.set 10 (some d))[2]? = some (some (.str "abcdefghijklmnopqrstuvwxyz")) := by rw [List.getElem?_set_ne (by decide)]; exact h2
        have g0 : (s.set 10 (some d))[0]? = some (some (.ref h)) := by rw [List.getElem?_set_ne (by decide)]; exact h0
        have e : b_law_names_c1 M.length (s.set 10 (some d)) M' = .ok (.str ⟨#[97 + r.toNat]⟩) M'' := by
          have ix := ixS_let (M := M'') a b
          simp only [b_law_names_c1, r_bin, r_var, g2, bind_ok, r_call, r_acons, g0, r_c, r_anil, q, ix]
        rw [e, wr_ok]
        refine ⟨by simp, xs ++ [⟨#[97 + r.toNat]⟩], by simp, by simp [hl], fun y hy => ?_, dd.trans d3⟩
        rcases List.mem_append.mp hy with hy | hy
        · exact hx y hy
        · rw [List.mem_singleton] at hy
          subst hy
          exact ltS_one (by omega))
      obtain ⟨ys, M3, q, xs, rfl, h1, h3, h4⟩ := wr_of w
      rw [rngD_len] at h1 h4
      exact ⟨xs, M3, q, h1, h3, h4.mono (by omega)⟩
    obtain ⟨ys, M3, q3, ly, hy, d3⟩ := st [some (.ref h), some (.int (m : Int)), some (.str "abcdefghijklmnopqrstuvwxyz"), some (.int r1), some (.ref M.length), none, none, none, none, none, none] rfl rfl rfl
    obtain ⟨stem, hstem⟩ : ∃ z, z = Str.join ⟨#[]⟩ ys := ⟨_, rfl⟩
    have stL : LtS 5 stem := by
      have := join_lt hy
      rw [← hstem, ly] at this
      exact ⟨by have := this.1; omega, this.2⟩
    have jn : oJoin (.str "") (.lst (ys.map D.str)) M3 = .ok (.str stem) M3 := by
      have e1 : ("" : Str) = ⟨#[]⟩ := by decide +kernel
      have sm : (ys.map (·.length)).sum + ys.length * Str.length "" ≤ 1000000 := by
        have e2 : Str.length "" = 0 := by decide +kernel
        have : ∀ zs : List Str, (∀ y ∈ zs, LtS 1 y) → (zs.map (·.length)).sum ≤ zs.length := by
          intro zs
          induction zs with
          | nil => intro _; exact Nat.le_refl _
          | cons z zs ih =>
            intro hz
            have := ih fun y hy => hz y (List.mem_cons_of_mem _ hy)
            have := (hz z (List.mem_cons_self ..)).1
            simp only [List.map_cons, List.sum_cons, List.length_cons]
            omega
        have := this ys hy
        rw [e2]
        omega
      unfold oJoin
      simp only [q_lst, Option.bind_some, strs_map]
      rw [if_pos sm, TL.join_eq, hstem, e1]
    obtain ⟨r4, M4, q4, a4, b4, d4⟩ := take_dr (M := M3) (h := h) (n := n + 1800) (size := 3) (d3.box.mono (by omega)) (by decide) (by decide)
    obtain ⟨r5, M5, q5, a5, b5, d5⟩ := take_dr (M := M4) (h := h) (n := n + 1600) (size := 2) (d4.box.mono (by omega)) (by decide) (by decide)
    obtain ⟨sp, ix3, sp0⟩ : ∃ sp : Int, atI [D.int 1, .int 3, .int 25] r4 = some (.int sp) ∧ (sp = 1 ∨ sp = 3 ∨ sp = 25) := by
      rcases (by omega : r4 = 0 ∨ r4 = 1 ∨ r4 = 2) with rfl | rfl | rfl
      · exact ⟨1, by simp, .inl rfl⟩
      · exact ⟨3, by simp, .inr (.inl rfl)⟩
      · exact ⟨25, by simp, .inr (.inr rfl)⟩
    have dd := ((d2.trans d3).trans d4).trans d5
    have l5 : M5.length = M.length + 1 := by rw [dd.len]; simp [l1]
    have c5 : M5[M.length]? = some (.lst []) := by rw [dd.at_ _ (by omega), ← l1, get_app]
    have rgm := rng1_nat (M := M5) (j := m) (by omega)
    have fr5 : ∀ j, j < M.length → j ≠ h → M5[j]? = M[j]? := fun j hj hn => by
      rw [dd.at_ _ hn, List.getElem?_append_left (by omega), d1.at_ _ hn]
    simp [b_law_names, b_law_names_s1, q1, gT, l1]
    simp [b_law_names_s2, q2, rg, lr, wipeD, q3, jn]
    simp [b_law_names_s3, q4, ix3, q5]
    simp [b_law_names_s6, rgm]
    refine wp_for (fun i s M' => ∃ (xs : List Str) (v8 v9 : Option D), M' = M5.set M.length (.lst (xs.map D.str)) ∧ xs.length = i ∧ (∀ x ∈ xs, NmS x) ∧ s = [some (.ref h), some (.int (m : Int)), some (.str "abcdefghijklmnopqrstuvwxyz"), some (.int r1), some (.ref M.length), some (.str stem), some (.int sp), some (.int r5), v8, v9, none]) ?_ ?_ ?_
    · refine ⟨[], none, none, ?_, rfl, fun x hx => (by cases hx), rfl⟩
      show M5 = M5.set M.length (.lst [])
      have lM5 : M.length < M5.length := by omega
      have e : M5[M.length] = Cell.lst [] := by rw [List.getElem?_eq_getElem lM5] at c5; exact Option.some.inj c5
      rw [← e, List.set_getElem_self]
    · rintro i d s M' hi hd ⟨xs, v8, v9, rfl, lx, hx, rfl⟩
      rw [rngD_len] at hi
      obtain ⟨_, rfl⟩ := rngD_get hd
      rw [show (0 : Int) + (i : Int) = (i : Int) by omega]
      obtain ⟨M6, hM6⟩ : ∃ Z, Z = M5.set M.length (Cell.lst (xs.map D.str)) := ⟨_, rfl⟩
      have lM6 : M.length < M5.length := by omega
      have c6 : M6[M.length]? = some (.lst (xs.map D.str)) := by rw [hM6]; exact List.getElem?_set_self lM6
      rw [← hM6]
      refine ⟨[some (.ref h), some (.int (m : Int)), some (.str "abcdefghijklmnopqrstuvwxyz"), some (.int r1), some (.ref M.length), some (.str stem), some (.int sp), some (.int r5), some (.int (i : Int)), v9, none], by simp, fun P1 hN _ _ _ _ => ?_⟩
      have ms : ∀ (z : Int) (M : Mem), oMul (.int sp) (.int z) M = .ok (.int (sp * z)) M := fun z M => r_mul (mul_l (by rcases sp0 with rfl | rfl | rfl <;> decide) (by rcases sp0 with rfl | rfl | rfl <;> decide))
      have m26 : ∀ (z : Int) (M : Mem), oMod (.int z) (.int 26) M = .ok (.int (z % 26)) M := fun z M => r_mod (by decide)
      have mo2 : ∀ (M : Mem), oMod (.int (i : Int)) (.int 2) M = .ok (.int ((i : Int) % 2)) M := fun M => r_mod (by decide)
      have dv2 : ∀ (M : Mem), oDiv (.int (i : Int)) (.int 2) M = .ok (.int ((i : Int) / 2)) M := fun M => r_div (by decide) (by decide)
      have fin : ∀ (x : Str) v9, NmS x → P1.n [some (.ref h), some (.int (m : Int)), some (.str "abcdefghijklmnopqrstuvwxyz"), some (.int r1), some (.ref M.length), some (.str stem), some (.int sp), some (.int r5), some (.int (i : Int)), v9, none] (M6.set M.length (.lst (xs.map D.str ++ [.str x]))) := fun x v9 nx => hN _ _ (by simp) ⟨xs ++ [x], _, _, by rw [hM6, List.set_set]; simp, by simp [lx], fun y hy => by
        rcases List.mem_append.mp hy with hy | hy
        · exact hx y hy
        · rw [List.mem_singleton] at hy
          subst hy
          exact nx, rfl⟩
      have ap : ∀ x : Str, mAppend M.length (.ref M.length) [.str x] M6 = .ok .non (M6.set M.length (.lst (xs.map D.str ++ [.str x]))) := fun x => r_append c6 (Nat.le_refl _) (by simp; omega)
      have a1 : ∀ (y z : Str) (M : Mem), y.length + z.length ≤ 1000000 → oAdd (.str y) (.str z) M = .ok (.str (y ++ z)) M := fun y z M hl => by
        show (if _ then _ else _) = _
        rw [if_pos hl]
      -- the sign
      have sg : ∀ (z : Int), ∃ y, LtS 1 y ∧ y.length = 1 ∧ oIxS (.str "abcdefghijklmnopqrstuvwxyz") (.int ((r1 + sp * z) % 26)) M6 = .ok (.str y) M6 := fun z => by
        have h0 : 0 ≤ (r1 + sp * z) % 26 := Int.emod_nonneg _ (by decide)
        have h1 : (r1 + sp * z) % 26 < 26 := Int.emod_lt_of_pos _ (by decide)
        exact ⟨_, ltS_one (by omega), rfl, ixS_let h0 h1⟩
      have len_app : ∀ y z : Str, (y ++ z).length = y.length + z.length := fun y z => by
        show (y.cps ++ z.cps).size = _
        rw [Array.size_append]
        rfl
      have nm : ∀ (y z : Str), LtS 1 y → y.length = 1 → LtS 2 z → NmS (stem ++ y ++ z) := fun y z h1 h2 h3 => by
        have := (stL.app h1).app h3
        refine ⟨?_, this.1, this.2⟩
        rw [len_app, len_app]
        omega
      have lab : Str.length "ab" = 2 := by decide +kernel
      rcases (by omega : r5 = 1 ∨ r5 = 0) with e5 | e5
      · obtain ⟨y, y1, y2, y3⟩ := sg ((i : Int) / 2)
        by_cases hi2 : (i : Int) % 2 = 1
        · have a2 := a1 stem y M6 (by have := stL.1; omega)
          have a3 := a1 (stem ++ y) "ab" M6 (by rw [len_app]; have := stL.1; omega)
          have hk := ap (stem ++ y ++ "ab")
          have fn := fin (stem ++ y ++ "ab") (some (.str y)) (nm y "ab" y1 y2 ltS_ab)
          obtain ⟨XS, hXS⟩ : ∃ Z, Z = xs.map D.str := ⟨_, rfl⟩
          rw [← hXS] at c6 hk fn
          simp [b_law_names_l1, b_law_names_s4, e5, dv2, ms, m26, y3, b_law_names_s5, c6, a2, mo2, hi2, a3, hk]
          rw [e5] at fn
          exact fn
        · have a2 := a1 stem y M6 (by have := stL.1; omega)
          have e0 : Str.length Str.empty = 0 := rfl
          have a3 := a1 (stem ++ y) Str.empty M6 (by rw [len_app, e0]; have := stL.1; omega)
          have hk := ap (stem ++ y ++ Str.empty)
          have fn := fin (stem ++ y ++ Str.empty) (some (.str y)) (nm y Str.empty y1 y2 ⟨by decide, ltS_nil.2⟩)
          obtain ⟨XS, hXS⟩ : ∃ Z, Z = xs.map D.str := ⟨_, rfl⟩
          rw [← hXS] at c6 hk fn
          simp [b_law_names_l1, b_law_names_s4, e5, dv2, ms, m26, y3, b_law_names_s5, c6, a2, mo2, hi2, a3, hk]
          rw [e5] at fn
          exact fn
      · obtain ⟨y, y1, y2, y3⟩ := sg (i : Int)
        have a2 := a1 stem y M6 (by have := stL.1; omega)
        have e0 : Str.length Str.empty = 0 := rfl
        have a3 := a1 (stem ++ y) Str.empty M6 (by rw [len_app, e0]; have := stL.1; omega)
        have hk := ap (stem ++ y ++ Str.empty)
        have fn := fin (stem ++ y ++ Str.empty) (some (.str y)) (nm y Str.empty y1 y2 ⟨by decide, ltS_nil.2⟩)
        obtain ⟨XS, hXS⟩ : ∃ Z, Z = xs.map D.str := ⟨_, rfl⟩
        rw [← hXS] at c6 hk fn
        simp [b_law_names_l1, b_law_names_s4, e5, ms, m26, y3, b_law_names_s5, c6, a2, a3, hk]
        rw [e5] at fn
        exact fn
    · rintro s' M' ⟨xs, v8, v9, rfl, lx, hx, rfl⟩
      rw [rngD_len] at lx
      simp
      have lM6 : M.length < M5.length := by omega
      refine hR _ _ (off_ref (k := 1) (Nat.le_refl _) (List.getElem?_set_self lM6) (fun x hx => ?_) (by decide) ⟨xs, rfl, lx, hx, ?_⟩)
      · obtain ⟨y, _, rfl⟩ := List.mem_map.mp hx
        rfl
      · rw [List.take_set_of_le (Nat.le_refl _)]
        refine Dr.of ⟨by omega, fr5⟩ (d5.box.mono (by omega)) hh
  obtain ⟨d, M', q, ns, rfl, r⟩ := wr_of key
  exact ⟨ns, M', q, r⟩
end LW
namespace LW
open PySem L2
def wK : List Key := [.inr "stair", .inr "levels", .inr "chambers", .inr "heaps", .inr "boats", .inr "ran"]
def wV (ST VL CH HP : List D) (bd : Nat) (RN : List D) : List D := [.tup ST, .tup VL, .tup CH, .tup HP, .ref bd, .tup RN]
section
variable {ST VL CH HP RN : List D} {bd : Nat}
@[simp] theorem wv_stair : valD (.inr "stair") wK (wV ST VL CH HP bd RN) = some (.tup ST) := if_pos rfl
@[simp] theorem wv_levels : valD (.inr "levels") wK (wV ST VL CH HP bd RN) = some (.tup VL) := by
  unfold wK wV valD
  rw [if_neg (by decide +kernel)]
  unfold valD
  exact if_pos rfl
@[simp] theorem wv_chambers : valD (.inr "chambers") wK (wV ST VL CH HP bd RN) = some (.tup CH) := by
  unfold wK wV valD
  rw [if_neg (by decide +kernel)]
  unfold valD
  rw [if_neg (by decide +kernel)]
  unfold valD
  exact if_pos rfl
@[simp] theorem wv_heaps : valD (.inr "heaps") wK (wV ST VL CH HP bd RN) = some (.tup HP) := by
  unfold wK wV valD
  rw [if_neg (by decide +kernel)]
  unfold valD
  rw [if_neg (by decide +kernel)]
  unfold valD
  rw [if_neg (by decide +kernel)]
  unfold valD
  exact if_pos rfl
@[simp] theorem wv_boats : valD (.inr "boats") wK (wV ST VL CH HP bd RN) = some (.ref bd) := by
  unfold wK wV valD
  rw [if_neg (by decide +kernel)]
  unfold valD
  rw [if_neg (by decide +kernel)]
  unfold valD
  rw [if_neg (by decide +kernel)]
  unfold valD
  rw [if_neg (by decide +kernel)]
  unfold valD
  exact if_pos rfl
@[simp] theorem wv_ran : valD (.inr "ran") wK (wV ST VL CH HP bd RN) = some (.tup RN) := by
  unfold wK wV valD
  rw [if_neg (by decide +kernel)]
  unfold valD
  rw [if_neg (by decide +kernel)]
  unfold valD
  rw [if_neg (by decide +kernel)]
  unfold valD
  rw [if_neg (by decide +kernel)]
  unfold valD
  rw [if_neg (by decide +kernel)]
  unfold valD
  exact if_pos rfl
end
theorem mgS {k : Key} {v : D} {ks : List Key} {ds : List D} {r : List (Key × D)} (h : ks.all (fun x => !decide (x = k)) = true) : mergeKD ks ds ((k, v) :: r) = mergeKD (ks ++ [k]) (ds ++ [v]) r := by
  have e : putKD k v ks ds = (ks ++ [k], ds ++ [v]) := put_new fun x hx => by
    have := List.all_eq_true.mp h x hx
    simpa using this
  show mergeKD (putKD k v ks ds).1 (putKD k v ks ds).2 r = _
  rw [e]
theorem mk3 (a b c : D) : mergeKD [] [] [(.inr "stair", a), (.inr "levels", b), (.inr "chambers", c)] = ([.inr "stair", .inr "levels", .inr "chambers"], [a, b, c]) := (Eq.trans (mgS (ks := []) (k := .inr "stair") (by decide +kernel)) (Eq.trans (mgS (ks := [.inr "stair"]) (k := .inr "levels") (by decide +kernel)) (mgS (ks := [.inr "stair", .inr "levels"]) (k := .inr "chambers") (by decide +kernel))))
theorem mk3' (a b c : D) : mergeKD [] [] [(.inr "heaps", a), (.inr "boats", b), (.inr "ran", c)] = ([.inr "heaps", .inr "boats", .inr "ran"], [a, b, c]) := (Eq.trans (mgS (ks := []) (k := .inr "heaps") (by decide +kernel)) (Eq.trans (mgS (ks := [.inr "heaps"]) (k := .inr "boats") (by decide +kernel)) (mgS (ks := [.inr "heaps", .inr "boats"]) (k := .inr "ran") (by decide +kernel))))
theorem mk6 (ST VL CH HP RN : List D) (bd : Nat) : mergeKD [.inr "stair", .inr "levels", .inr "chambers"] [.tup ST, .tup VL, .tup CH] [(.inr "heaps", .tup HP), (.inr "boats", .ref bd), (.inr "ran", .tup RN)] = (wK, wV ST VL CH HP bd RN) := (Eq.trans (mgS (ks := [.inr "stair", .inr "levels", .inr "chambers"]) (k := .inr "heaps") (by decide +kernel)) (Eq.trans (mgS (ks := [.inr "stair", .inr "levels", .inr "chambers", .inr "heaps"]) (k := .inr "boats") (by decide +kernel)) (mgS (ks := [.inr "stair", .inr "levels", .inr "chambers", .inr "heaps", .inr "boats"]) (k := .inr "ran") (by decide +kernel))))
structure WAt (M : Mem) (a bd : Nat) (s : HS) : Prop where
  w : M[a]? = some (.dct wK (wV (stD s.n s.S) (vecD s.n s.l) (chD s.n s.c) (vecD (s.n + 1) s.hp) bd (vecD s.n s.rn)))
  b : M[bd]? = some (.dct (bKs s.B) (bVs s.B))
theorem WAt.mono {M M' : Mem} {a bd : Nat} {s : HS} (h : WAt M a bd s) (hf : ∀ j, j < M.length → M'[j]? = M[j]?) : WAt M' a bd s := ⟨by rw [hf _ (lt_of_get h.w)]; exact h.w, by rw [hf _ (lt_of_get h.b)]; exact h.b⟩
theorem WAt.of {M M' : Mem} {a bd : Nat} {s : HS} (h : WAt M a bd s) (ha : M'[a]? = M[a]?) (hb : M'[bd]? = M[bd]?) : WAt M' a bd s := ⟨by rw [ha]; exact h.w, by rw [hb]; exact h.b⟩
def addB (B : BL) (x : Str) (p : Int × Int) : BL := if (B.lookup x).isSome then setB B x p else B ++ [(x, p)]
theorem look_none {x : Str} : ∀ {B : BL}, B.lookup x = none → ∀ y ∈ B, y.1 ≠ x
  | [], _, y, hy => by cases hy
  | z :: B, h, y, hy => by
    rw [List.lookup_cons] at h
    cases e : x == z.1 with
    | true => rw [e] at h; cases h
    | false =>
      rw [e] at h
      rcases List.mem_cons.mp hy with rfl | hy
      · exact fun e2 => by rw [e2] at e; simp at e
      · exact look_none h y hy
theorem put_add (x : Str) (p : Int × Int) (B : BL) : putKD (.inr x) (bV p) (bKs B) (bVs B) = (bKs (addB B x p), bVs (addB B x p)) := by
  unfold addB
  cases e : B.lookup x with
  | some q => simp only [Option.isSome_some, if_true]; exact put_boat e
  | none =>
    simp only [Option.isSome_none, Bool.false_eq_true, if_false]
    rw [put_new fun k hk => ?_]
    · simp [bKs, bVs]
    · obtain ⟨y, hy, rfl⟩ := List.mem_map.mp hk
      exact fun e2 => look_none e y hy (by injection e2)
def allB (L : BL) (B : BL) : BL := L.foldl (fun B y => addB B y.1 y.2) B
theorem merge_add : ∀ (L B : BL), mergeKD (bKs B) (bVs B) (L.map fun y => ((.inr y.1 : Key), bV y.2)) = (bKs (allB L B), bVs (allB L B))
  | [], B => rfl
  | y :: L, B => by
    show mergeKD (putKD (.inr y.1) (bV y.2) (bKs B) (bVs B)).1 (putKD (.inr y.1) (bV y.2) (bKs B) (bVs B)).2 (L.map fun y => ((.inr y.1 : Key), bV y.2)) = _
    rw [put_add]
    exact merge_add L (addB B y.1 y.2)
theorem add_facts {Q : Str × Int × Int → Prop} {B : BL} {x : Str} {p : Int × Int} (nd : (B.map (·.1)).Nodup) (hq : ∀ y ∈ B, Q y) (h : Q (x, p)) : ((addB B x p).map (·.1)).Nodup ∧ (∀ y ∈ addB B x p, Q y) ∧ (addB B x p).length ≤ B.length + 1 := by
  unfold addB
  cases e : B.lookup x with
  | some q =>
    simp only [Option.isSome_some, if_true]
    refine ⟨by rw [setB_names]; exact nd, fun y hy => ?_, by rw [setB_len]; omega⟩
    obtain ⟨z, hz, rfl⟩ := List.mem_map.mp hy
    split
    · rename_i e2
      rw [e2]
      exact h
    · exact hq z hz
  | none =>
    simp only [Option.isSome_none, Bool.false_eq_true, if_false]
    refine ⟨?_, fun y hy => ?_, by simp⟩
    · rw [List.map_append, List.nodup_append]
      refine ⟨nd, by simp, fun a ha b hb => ?_⟩
      obtain ⟨y, hy, rfl⟩ := List.mem_map.mp ha
      rw [List.map_singleton, List.mem_singleton] at hb
      subst hb
      exact look_none e y hy
    · rcases List.mem_append.mp hy with hy | hy
      · exact hq y hy
      · rw [List.mem_singleton] at hy
        subst hy
        exact h
theorem all_facts {Q : Str × Int × Int → Prop} : ∀ (L B : BL), (B.map (·.1)).Nodup → (∀ y ∈ B, Q y) → (∀ y ∈ L, Q y) → ((allB L B).map (·.1)).Nodup ∧ (∀ y ∈ allB L B, Q y) ∧ (allB L B).length ≤ B.length + L.length
  | [], B, nd, h1, _ => ⟨nd, h1, Nat.le_refl _⟩
  | y :: L, B, nd, h1, h2 => by
    obtain ⟨a, b, c⟩ := add_facts (x := y.1) (p := y.2) nd h1 (h2 y (List.mem_cons_self ..))
    obtain ⟨d, e, f⟩ := all_facts L (addB B y.1 y.2) a b fun z hz => h2 z (List.mem_cons_of_mem _ hz)
    exact ⟨d, e, by rw [List.length_cons]; show (allB L (addB B y.1 y.2)).length ≤ _; omega⟩
/-- what is drawn -/
structure LwD (g : Int) (cap most : Nat) (s : HS) : Prop where
  n1 : 1 ≤ s.n
  n2 : s.n ≤ cap
  st : StOk g s.n s.S
  lv : ∀ i, i < s.n → s.S.lo i ≤ s.l i ∧ s.l i ≤ s.S.mo i
  bn : (s.B.map (·.1)).Nodup
  bl : s.B.length ≤ most
  bp : ∀ y ∈ s.B, NmS y.1 ∧ 0 ≤ y.2.1 ∧ y.2.1 ≤ (s.n : Int) ∧ y.2.2 = 0
  hp : ∀ i, i < s.n + 1 → ∃ m : Nat, m ≤ 11 ∧ s.hp i = g * (m : Int)
  rn : ∀ i, s.rn i = 0
theorem pairs_boats : ∀ L : BL, pairsK (L.map fun y => D.tup [.str y.1, bV y.2]) = some (L.map fun y => ((.inr y.1 : Key), bV y.2))
  | [] => rfl
  | y :: L => by
    have ih := pairs_boats L
    show (pairsK (L.map fun y => D.tup [.str y.1, bV y.2])).map (fun ps => ((.inr y.1 : Key), bV y.2) :: ps) = _
    rw [ih]
    rfl
end LW
namespace LW
open PySem L2
theorem comp_dr {b h c m n : Nat} {M0 : Mem} {t : Tg} {e : ES} {s : Slots} {ds : List D} {M : Mem} (x : Box M h (n + c * ds.length)) (Q : Nat → D → Prop)
    (he : ∀ (i : Nat) (d : D) (M' : Mem) (n' : Nat), ds[i]? = some d → M'.length = M.length → Box M' h (n' + c) → ∃ s1 y M'', bindT M' t d s = some s1 ∧ e b s1 M' = .ok y M'' ∧ Q i y ∧ Dr h n' M' M'') :
    ∃ ys M', compL b [] M0 t tTrue e s ds M = .ok ys M' ∧ ys.length = ds.length ∧ (∀ i y, ys[i]? = some y → Q i y) ∧ Dr h n M M' := by
  have w := wr_compL (b := b) (hs := []) (M0 := M0) (t := t) (c := tTrue) (e := e) (s := s) (ds := ds) (M := M) (fun i ys M' => ys.length = i ∧ (∀ j y, ys[j]? = some y → Q j y) ∧ Dr h (n + c * (ds.length - i)) M M') ⟨rfl, fun j y hy => (by simp at hy), ⟨x, rfl, fun _ _ => rfl⟩⟩ (fun i d ys M' hi hd hI => by
    obtain ⟨h1, h2, h3⟩ := hI
    have e1 : n + c * (ds.length - i) = n + c * (ds.length - (i + 1)) + c := by
      rw [show ds.length - i = (ds.length - (i + 1)) + 1 by omega, Nat.mul_add, Nat.mul_one]
      omega
    obtain ⟨s1, y, M'', b1, q, qy, d2⟩ := he i d M' (n + c * (ds.length - (i + 1))) hd h3.len (by rw [← e1]; exact h3.box)
    refine ⟨s1, b1, ?_⟩
    rw [r_ttrue, wr_ok, if_pos rfl, q, wr_ok]
    refine ⟨by simp, by simp [h1], fun j z hz => ?_, h3.trans d2⟩
    by_cases hj : j < ys.length
    · rw [List.getElem?_append_left hj] at hz
      exact h2 j z hz
    · have : j = ys.length := by
        have := lt_of_get hz
        simp at this
        omega
      subst this
      rw [List.getElem?_append_right (Nat.le_refl _), Nat.sub_self] at hz
      simp at hz
      subst hz
      rw [h1]
      exact qy)
  obtain ⟨ys, M', q, r1, r2, r3⟩ := wr_of w
  rw [Nat.sub_self, Nat.mul_zero, Nat.add_zero] at r3
  exact ⟨ys, M', q, r1, r2, r3⟩
theorem house_ok {b : Nat} {M : Mem} {h n cap most : Nat} {g : Int} (hb : b ≤ M.length) (hc : 0 < cap) (hc2 : cap ≤ 6) (hm : most ≤ 10) (g0 : 0 < g) (g1 : g ≤ 1000000000000000) (x : Box M h (n + 30000)) :
    ∃ (a bd : Nat) (s : HS) (M' : Mem), f_law_house b [.ref h, .int (cap : Int), .int g, .int (most : Int)] M = .ok (.ref a) M' ∧ WAt M' a bd s ∧ LwD g cap most s ∧ Box M' h n ∧ Fr h M M' ∧ M.length ≤ bd ∧ bd < a ∧ a < M'.length := by
  have hh := x.lt
  have key : Wr (f_law_house b [.ref h, .int (cap : Int), .int g, .int (most : Int)] M) fun d M' => ∃ (a bd : Nat) (s : HS), d = .ref a ∧ WAt M' a bd s ∧ LwD g cap most s ∧ Box M' h n ∧ Fr h M M' ∧ M.length ≤ bd ∧ bd < a ∧ a < M'.length := by
    refine fnO_wp rfl fun P hR => ?_
    obtain ⟨k, S, M1, q1, k1, k2, sS, d1⟩ := stair_ok (M := M) (h := h) (n := n + 20000) (cap := cap) hc (by omega) g0 g1 (x.mono (by omega))
    obtain ⟨r2, M2, q2, a2, b2, d2⟩ := take_dr (M := M1) (h := h) (n := n + 19000) (size := (most : Int) + 1) (d1.box.mono (by omega)) (by omega) (Int.le_trans (by omega) t8)
    obtain ⟨t, rfl⟩ : ∃ t : Nat, r2 = (t : Int) := ⟨r2.toNat, by omega⟩
    obtain ⟨ns, M3, q3, ln3, nm3, d3⟩ := names_ok (M := M2) (h := h) (n := n + 14000) (m := t) (by omega) (d2.box.mono (by omega))
    have ln : ∀ M, bLen [.tup (stD k S)] M = .ok (.int (k : Int)) M := fun M => by rw [r_len (q_tup M _), stD_len]
    -- boats
    have cb : ∀ s : Slots, s.length = 12 → s[0]? = some (some (.ref h)) → s[5]? = some (some (.int (k : Int))) → ∃ (L : BL) (M4 : Mem), compL b [] M3 (.nm 10) tTrue b_law_house_c1 s (ns.map D.str) M3 = .ok (L.map fun y : Str × Int × Int => D.tup [.str y.1, bV y.2]) M4 ∧ L.length = t ∧ (∀ y ∈ L, NmS y.1 ∧ 0 ≤ y.2.1 ∧ y.2.1 ≤ (k : Int) ∧ y.2.2 = 0) ∧ Dr h (n + 10000) M3 M4 := fun s hs h0 h5 => by
      obtain ⟨ys, M4, q, h1, h2, h3⟩ := comp_dr (b := b) (h := h) (c := 128) (m := 0) (n := n + 10000) (M0 := M3) (t := .nm 10) (e := b_law_house_c1) (s := s) (ds := ns.map D.str) (M := M3) (d3.box.mono (by rw [List.length_map]; omega)) (fun i y => ∃ z : Str × Int × Int, y = D.tup [.str z.1, bV z.2] ∧ NmS z.1 ∧ 0 ≤ z.2.1 ∧ z.2.1 ≤ (k : Int) ∧ z.2.2 = 0) (fun i d M' n' hd _ bx => by
        rw [List.getElem?_map] at hd
        cases hn : ns[i]? with
        | none => rw [hn] at hd; cases hd
        | some nmx =>
          rw [hn] at hd
          cases hd
          obtain ⟨r, M'', q, a, b', dd⟩ := take_dr (M := M') (h := h) (n := n') (size := (k : Int) + 1) bx (by omega) (Int.le_trans (by omega) t8)
          refine ⟨_, .tup [.str nmx, bV (r, 0)], M'', t_nm _ _, ?_, ⟨(nmx, r, 0), rfl, nm3 _ (List.mem_of_getElem? hn), a, (by show r ≤ (k : Int); omega), rfl⟩, dd⟩
          have g10 : (s.set 10 (some (.str nmx)))[10]? = some (some (.str nmx)) := by simp [hs]
          have g0 : (s.set 10 (some (.str nmx)))[0]? = some (some (.ref h)) := by rw [List.getElem?_set_ne (by decide)]; exact h0
          have g5 : (s.set 10 (some (.str nmx)))[5]? = some (some (.int (k : Int))) := by rw [List.getElem?_set_ne (by decide)]; exact h5
          have gt := q
          simp only [b_law_house_c1, r_tup, r_acons, r_var, g10, bind_ok, r_call, g0, r_bin, g5, r_c, r_addI, r_anil, q, List.length_cons, List.length_nil, bV]
          rfl)
      have : ∃ L : BL, ys = L.map (fun y => D.tup [.str y.1, bV y.2]) ∧ ∀ y ∈ L, NmS y.1 ∧ 0 ≤ y.2.1 ∧ y.2.1 ≤ (k : Int) ∧ y.2.2 = 0 := by
        have all : ∀ y ∈ ys, ∃ z : Str × Int × Int, y = D.tup [.str z.1, bV z.2] ∧ NmS z.1 ∧ 0 ≤ z.2.1 ∧ z.2.1 ≤ (k : Int) ∧ z.2.2 = 0 := fun y hy => by
          obtain ⟨i, hi, rfl⟩ := List.getElem_of_mem hy
          exact h2 i _ (List.getElem?_eq_getElem hi)
        clear q h1 h2
        induction ys with
        | nil => exact ⟨[], rfl, fun y hy => (by cases hy)⟩
        | cons y ys ih =>
          obtain ⟨L, e1, e2⟩ := ih fun y hy => all y (List.mem_cons_of_mem _ hy)
          obtain ⟨z, rfl, hz⟩ := all y (List.mem_cons_self ..)
          refine ⟨z :: L, by rw [e1]; rfl, fun y hy => ?_⟩
          rcases List.mem_cons.mp hy with rfl | hy
          · exact hz
          · exact e2 y hy
      obtain ⟨L, rfl, hL⟩ := this
      rw [List.length_map, List.length_map] at h1
      exact ⟨L, M4, q, by omega, hL, h3⟩
    obtain ⟨L, M4, q4, lL, hL, d4⟩ := cb [some (.ref h), some (.int (cap : Int)), some (.int g), some (.int (most : Int)), some (.tup (stD k S)), some (.int (k : Int)), some (.lst (ns.map D.str)), none, none, none, none, none] rfl rfl rfl
    obtain ⟨B, hB⟩ : ∃ B, B = allB L [] := ⟨_, rfl⟩
    obtain ⟨B1, B2, B3⟩ := all_facts (Q := fun y => NmS y.1 ∧ 0 ≤ y.2.1 ∧ y.2.1 ≤ (k : Int) ∧ y.2.2 = 0) L [] (by simp) (fun y hy => (by cases hy)) hL
    rw [← hB] at B1 B2 B3
    have pk : ∀ M, bDictPK [.lst (L.map fun y : Str × Int × Int => D.tup [.str y.1, bV y.2])] M = .ok (.ref M.length) (M ++ [.dct (bKs B) (bVs B)]) := fun M => by
      unfold bDictPK
      simp only [pairs_boats]
      have := merge_add L []
      rw [← hB] at this
      have this : mergeKD [] [] (L.map fun y => ((.inr y.1 : Key), bV y.2)) = (bKs B, bVs B) := this
      rw [this]
    have l4 : M4.length = M.length := (((d1.trans d2).trans d3).trans d4).len
    obtain ⟨M5, hM5⟩ : ∃ Z, Z = M4 ++ [Cell.dct (bKs B) (bVs B)] := ⟨_, rfl⟩
    have x5 : Box M5 h (n + 10000) := by rw [hM5]; exact d4.box.app _
    have pk4 := pk M4
    rw [l4, ← hM5] at pk4
    -- heaps
    have rgk : rng1 [.int ((k : Int) + 1)] M5 = .ok (rngD 0 (k + 1), []) M5 := by
      have := rng1_nat (M := M5) (j := k + 1) (by omega)
      exact this
    have lrk : (rngD 0 (k + 1)).length ≤ 1000000 := by rw [rngD_len]; omega
    have ch : ∀ s : Slots, s.length = 12 → s[0]? = some (some (.ref h)) → s[2]? = some (some (.int g)) → ∃ (hp : Nat → Int) (M6 : Mem), compL b [] M5 (.nm 11) tTrue b_law_house_c2 s (rngD 0 (k + 1)) M5 = .ok (vecD (k + 1) hp) M6 ∧ (∀ i, i < k + 1 → ∃ m : Nat, m ≤ 11 ∧ hp i = g * (m : Int)) ∧ Dr h (n + 8000) M5 M6 := fun s hs h0 h2' => by
      obtain ⟨ys, M6, q, h1, h2, h3⟩ := comp_dr (b := b) (h := h) (c := 128) (m := 0) (n := n + 8000) (M0 := M5) (t := .nm 11) (e := b_law_house_c2) (s := s) (ds := rngD 0 (k + 1)) (M := M5) (x5.mono (by rw [rngD_len]; omega)) (fun i y => ∃ m : Nat, m ≤ 11 ∧ y = D.int (g * (m : Int))) (fun i d M' n' hd _ bx => by
        obtain ⟨r, M'', q, a, b', dd⟩ := take_dr (M := M') (h := h) (n := n') (size := 12) bx (by decide) (by decide)
        refine ⟨_, .int (g * r), M'', t_nm _ _, ?_, ⟨r.toNat, by omega, by rw [show ((r.toNat : Nat) : Int) = r by omega]⟩, dd⟩
        have g0' : (s.set 11 (some d))[0]? = some (some (.ref h)) := by rw [List.getElem?_set_ne (by decide)]; exact h0
        have g2 : (s.set 11 (some d))[2]? = some (some (.int g)) := by rw [List.getElem?_set_ne (by decide)]; exact h2'
        have mg : oMul (.int g) (.int r) M'' = .ok (.int (g * r)) M'' := r_mul (mul_l (by omega) (by omega))
        simp only [b_law_house_c2, r_bin, r_var, g2, bind_ok, r_call, r_acons, g0', r_c, r_anil, q, mg])
      rw [rngD_len] at h1
      refine ⟨fun i => match ys[i]? with | some (.int z) => z | _ => 0, M6, ?_, fun i hi => ?_, h3⟩
      · have e : ys = vecD (k + 1) (fun i => match ys[i]? with | some (.int z) => z | _ => 0) := by
          refine List.ext_getElem? fun i => ?_
          by_cases hi : i < k + 1
          · rw [vecD_get hi]
            obtain ⟨m, _, e⟩ := h2 i ys[i] (List.getElem?_eq_getElem (by omega))
            rw [List.getElem?_eq_getElem (by omega), e]
          · rw [List.getElem?_eq_none (by omega), List.getElem?_eq_none (by rw [vecD_len]; omega)]
        rw [← e]
        exact q
      · obtain ⟨m, m1, e⟩ := h2 i ys[i] (List.getElem?_eq_getElem (by omega))
        refine ⟨m, m1, ?_⟩
        show (match ys[i]? with | some (.int z) => z | _ => 0) = _
        rw [List.getElem?_eq_getElem (by omega), e]
    obtain ⟨hp, M6, q6, hhp, d6⟩ := ch [some (.ref h), some (.int (cap : Int)), some (.int g), some (.int (most : Int)), some (.tup (stD k S)), some (.int (k : Int)), some (.lst (ns.map D.str)), some (.ref M.length), none, none, none, none] rfl rfl rfl
    obtain ⟨l, M7, q7, hl, d7⟩ := levels_drawn (M := M6) (h := h) (m := n + 6000) (n := k) (S := S) g0 g1 (by omega) sS (d6.box.mono (by omega))
    obtain ⟨c, M8, q8, d8⟩ := chambers_drawn (M := M7) (h := h) (m := n + 4000) (n := k) (by omega) (d7.box.mono (by omega))
    have l8 : M8.length = M.length + 1 := by rw [((d6.trans d7).trans d8).len, hM5, List.length_append, l4]; rfl
    have c8 : M8[M.length]? = some (.dct (bKs B) (bVs B)) := by
      rw [((d6.trans d7).trans d8).at_ _ (by omega), hM5, ← l4, get_app]
    have fr8 : ∀ j, j < M.length → j ≠ h → M8[j]? = M[j]? := fun j hj hn => by
      rw [((d6.trans d7).trans d8).at_ _ hn, hM5, List.getElem?_append_left (by omega), (((d1.trans d2).trans d3).trans d4).at_ _ hn]
    have tp1 := fun M : Mem => r_tuple (M := M) (q_lst M (vecD (k + 1) hp))
    have rz := fun M : Mem => rep_row (M := M) (z := 0) (n := k) (by omega) (by omega)
    obtain ⟨s0, hs0⟩ : ∃ s : HS, s = ⟨k, S, l, c, hp, B, fun _ => 0⟩ := ⟨_, rfl⟩
    have LD : LwD g cap most s0 := by
      rw [hs0]
      exact ⟨k1, k2, sS, hl, B1, Nat.le_trans B3 (by simp; omega), B2, hhp, fun _ => rfl⟩
    obtain ⟨M9, hM9⟩ : ∃ Z, Z = M8 ++ [Cell.dct wK (wV (stD k S) (vecD k l) (chD k c) (vecD (k + 1) hp) M.length (vecD k fun _ => 0)), .dct [.inr "heaps", .inr "boats", .inr "ran"] [.tup (vecD (k + 1) hp), .ref M.length, .tup (vecD k fun _ => 0)]] := ⟨_, rfl⟩
    have W9 : WAt M9 M8.length M.length s0 := by
      rw [hs0]
      refine ⟨?_, ?_⟩
      · rw [hM9, List.getElem?_append_right (Nat.le_refl _), Nat.sub_self]
        rfl
      · rw [hM9, List.getElem?_append_left (by omega)]
        exact c8
    have fin := hR (.ref M8.length) M9 ⟨M8.length, M.length, s0, rfl, W9, LD, by rw [hM9]; exact (d8.box.mono (by omega)).app _, ⟨by rw [hM9]; simp; omega, fun j hj hn => by rw [hM9, List.getElem?_append_left (by omega)]; exact fr8 j hj hn⟩, Nat.le_refl _, by omega, by rw [hM9]; simp⟩
    have up : (M8 ++ [Cell.dct [.inr "stair", .inr "levels", .inr "chambers"] [.tup (stD k S), .tup (vecD k l), .tup (chD k c)], .dct [.inr "heaps", .inr "boats", .inr "ran"] [.tup (vecD (k + 1) hp), .ref M.length, .tup (vecD k fun _ => 0)]]).set M8.length (.dct wK (wV (stD k S) (vecD k l) (chD k c) (vecD (k + 1) hp) M.length (vecD k fun _ => 0))) = M9 := by
      rw [hM9, List.set_append_right _ _ (Nat.le_refl _), Nat.sub_self]
      rfl
    have q5' : ∀ (v : Option D), f_law_names [.ref h, .int (t : Int)] M2 = .ok (.lst (ns.map D.str)) M3 := fun _ => q3
    have g88 : ∀ cl cl' : Cell, (M8 ++ [cl, cl'])[M8.length]? = some cl := fun cl cl' => by rw [List.getElem?_append_right (Nat.le_refl _), Nat.sub_self]; rfl
    have g89 : ∀ cl cl' : Cell, (M8 ++ [cl, cl'])[M8.length + 1]? = some cl' := fun cl cl' => by rw [List.getElem?_append_right (by omega), show M8.length + 1 - M8.length = 1 by omega]; rfl
    have g8 : ∀ cl : Cell, (M8 ++ [cl])[M8.length]? = some cl := fun cl => get_app
    have bl8 : b ≤ M8.length := by omega
    obtain ⟨SD, hSD⟩ : ∃ Z, Z = stD k S := ⟨_, rfl⟩
    obtain ⟨NS, hNS⟩ : ∃ Z, Z = ns.map D.str := ⟨_, rfl⟩
    obtain ⟨LB, hLB⟩ : ∃ Z, Z = L.map fun y : Str × Int × Int => D.tup [.str y.1, bV y.2] := ⟨_, rfl⟩
    obtain ⟨HP, hHP⟩ : ∃ Z, Z = vecD (k + 1) hp := ⟨_, rfl⟩
    obtain ⟨VL, hVL⟩ : ∃ Z, Z = vecD k l := ⟨_, rfl⟩
    obtain ⟨CV, hCV⟩ : ∃ Z, Z = chD k c := ⟨_, rfl⟩
    obtain ⟨ZV, hZV⟩ : ∃ Z, Z = vecD k (fun _ => (0 : Int)) := ⟨_, rfl⟩
    have lNS : NS.length ≤ 1000000 := by rw [hNS, List.length_map]; omega
    rw [← hSD] at q1 ln q4 q6 q7 up
    rw [← hNS] at q3 q4 q6
    rw [← hLB] at q4 pk4
    rw [← hHP] at q6 tp1 up
    rw [← hVL] at q7 up
    rw [← hCV] at q8 up
    simp only [← hZV] at rz up
    simp [b_law_house, b_law_house_s1, q1]
    simp [b_law_house_s2, ln, q2, q3, gT]
    simp [b_law_house_s3, lNS, wipeD, q4, pk4]
    simp [b_law_house_s4, rgk, lrk, wipeD, q6, tp1]
    have e5 : ∀ sl : Slots, sl[0]? = some (some (.ref h)) → sl[2]? = some (some (.int g)) → sl[4]? = some (some (.tup SD)) → sl[5]? = some (some (.int (k : Int))) → eDctN [(eC (.str "stair"), eVar 4), (eC (.str "levels"), eCall f_law_levels (aCons (eVar 0) (aCons (eVar 4) (aCons (eVar 2) (aNil))))), (eC (.str "chambers"), eCall f_law_chambers (aCons (eVar 0) (aCons (eVar 5) (aNil))))] b sl M6 = .ok (.ref M8.length) (M8 ++ [Cell.dct [.inr "stair", .inr "levels", .inr "chambers"] [.tup SD, .tup VL, .tup CV]]) := fun sl h0 h2 h4 h5 =>
      dctN_ok (np_cons (d := .tup SD) (M1 := M6) (by simp only [r_var, h4]) (np_cons (d := .tup VL) (M1 := M7) (by simp only [r_call, r_acons, r_var, h0, h4, h2, bind_ok, r_anil, q7]) (np_cons (d := .tup CV) (M1 := M8) (by simp only [r_call, r_acons, r_var, h0, h5, bind_ok, r_anil, q8]) rfl))) (by simp) (mk3 _ _ _)
    obtain ⟨MA, hMA⟩ : ∃ Z, Z = M8 ++ [Cell.dct [.inr "stair", .inr "levels", .inr "chambers"] [.tup SD, .tup VL, .tup CV]] := ⟨_, rfl⟩
    have e6 : ∀ sl : Slots, sl[8]? = some (some (.tup HP)) → sl[7]? = some (some (.ref M.length)) → sl[5]? = some (some (.int (k : Int))) → eDctN [(eC (.str "heaps"), eVar 8), (eC (.str "boats"), eVar 7), (eC (.str "ran"), eBin oMul (eTup (aCons (eC (.int 0)) (aNil))) (eVar 5))] b sl MA = .ok (.ref MA.length) (MA ++ [Cell.dct [.inr "heaps", .inr "boats", .inr "ran"] [.tup HP, .ref M.length, .tup ZV]]) := fun sl h8 h7 h5 =>
      dctN_ok (np_cons (d := .tup HP) (M1 := MA) (by simp only [r_var, h8]) (np_cons (d := .ref M.length) (M1 := MA) (by simp only [r_var, h7]) (np_cons (d := .tup ZV) (M1 := MA) (by simp [h5, rz]) rfl))) (by simp) (mk3' _ _ _)
    have lMA : MA.length = M8.length + 1 := by rw [hMA]; simp
    have gA : MA[M8.length]? = some (.dct [.inr "stair", .inr "levels", .inr "chambers"] [.tup SD, .tup VL, .tup CV]) := by rw [hMA]; exact g8 _
    have gB := g88 (Cell.dct [.inr "stair", .inr "levels", .inr "chambers"] [.tup SD, .tup VL, .tup CV]) (.dct [.inr "heaps", .inr "boats", .inr "ran"] [.tup HP, .ref M.length, .tup ZV])
    have gC := g89 (Cell.dct [.inr "stair", .inr "levels", .inr "chambers"] [.tup SD, .tup VL, .tup CV]) (.dct [.inr "heaps", .inr "boats", .inr "ran"] [.tup HP, .ref M.length, .tup ZV])
    have eMB : MA ++ [Cell.dct [.inr "heaps", .inr "boats", .inr "ran"] [.tup HP, .ref M.length, .tup ZV]] = M8 ++ [Cell.dct [.inr "stair", .inr "levels", .inr "chambers"] [.tup SD, .tup VL, .tup CV], .dct [.inr "heaps", .inr "boats", .inr "ran"] [.tup HP, .ref M.length, .tup ZV]] := by rw [hMA, List.append_assoc]; rfl
    obtain ⟨MB, hMB⟩ : ∃ Z, Z = M8 ++ [Cell.dct [.inr "stair", .inr "levels", .inr "chambers"] [.tup SD, .tup VL, .tup CV], .dct [.inr "heaps", .inr "boats", .inr "ran"] [.tup HP, .ref M.length, .tup ZV]] := ⟨_, rfl⟩
    rw [← hMB] at gB gC up eMB
    simp only [lMA, eMB] at e6
    have zp : ([.inr "heaps", .inr "boats", .inr "ran"] : List Key).zip [D.tup HP, .ref M.length, .tup ZV] = [(.inr "heaps", .tup HP), (.inr "boats", .ref M.length), (.inr "ran", .tup ZV)] := rfl
    have upd : ∀ sl : Slots, sl[9]? = some (some (.ref M8.length)) → sl[8]? = some (some (.tup HP)) → sl[7]? = some (some (.ref M.length)) → sl[5]? = some (some (.int (k : Int))) → b_law_house_s6 b sl MA = .nx sl M9 := fun sl h9 h8 h7 h5 => by
      have := e6 sl h8 h7 h5
      unfold b_law_house_s6
      simp only [r_expr, r_dupd, r_var, h9, bind_ok, gA, this, gB, gC, zp, mk6]
      rw [if_pos ⟨by omega, bl8, by decide⟩]
      simp only [toS_ok, up]
    simp only [r_seq, b_law_house_s5, r_set]
    rw [e5 _ (by simp) (by simp) (by simp) (by simp), toS_ok, sq_nx]
    rw [← hMA, r_seq, upd _ (by simp) (by simp) (by simp) (by simp), sq_nx]
    simp
    exact fin
  obtain ⟨d, M', q, a, bd, s, rfl, r⟩ := wr_of key
  exact ⟨a, bd, s, M', q, r⟩
end LW
namespace LW
open PySem L2
section
variable {M : Mem} {a bd : Nat} {s : HS}
end
end LW
namespace LW
open PySem L2
def Tp.good (g : Int) (n : Nat) : Tp → Prop
  | .sail _ x k => k < n ∧ NmS x
  | .turn k => k < n
  | .ship _ x z => NmS x ∧ ∃ j : Nat, 1 ≤ j ∧ j ≤ 6 ∧ z = g * (j : Int)
  | .carry q r z => q ≤ n ∧ r ≤ n ∧ q ≠ r ∧ ∃ j : Nat, 1 ≤ j ∧ j ≤ 6 ∧ z = g * (j : Int)
  | .rain a z => a < n ∧ ∃ j : Nat, 1 ≤ j ∧ j ≤ 6 ∧ z = g * (j : Int)
  | .draw a z => a < n ∧ ∃ j : Nat, 1 ≤ j ∧ j ≤ 6 ∧ z = g * (j : Int)
theorem pos_gj {g z : Int} (g0 : 0 < g) (h : ∃ j : Nat, 1 ≤ j ∧ j ≤ 6 ∧ z = g * (j : Int)) : 0 < z := by
  obtain ⟨j, j1, j2, rfl⟩ := h
  exact Int.mul_pos g0 (by omega)
theorem Tp.good.ok {g : Int} {n : Nat} {t : Tp} (g0 : 0 < g) (h : t.good g n) : t.ok n := by
  cases t with
  | sail up x k => exact h.1
  | turn k => exact h
  | ship on x z => exact pos_gj g0 h.2
  | carry q r z => exact ⟨h.1, h.2.1, pos_gj g0 h.2.2.2⟩
  | rain a z => exact ⟨h.1, pos_gj g0 h.2⟩
  | draw a z => exact ⟨h.1, pos_gj g0 h.2⟩
/-- a world of the law: what must be known of it -/
structure LwK (s : HS) : Prop where
  n1 : 1 ≤ s.n
  n2 : s.n ≤ 6
  bn : (s.B.map (·.1)).Nodup
  bl : s.B.length ≤ 10
  bp : ∀ y ∈ s.B, NmS y.1 ∧ 0 ≤ y.2.1 ∧ y.2.1 ≤ (s.n : Int)
  sz : ∀ i, i < s.n → 0 < s.S.sz i
  h0 : ∀ i, i < s.n + 1 → 0 ≤ s.hp i
theorem LwK.ok {s : HS} (h : LwK s) : s.ok := ⟨by have := h.n2; omega, by have := h.bl; omega, h.bn, fun y hy => (h.bp y hy).2, h.sz⟩
section
variable {M : Mem} {a bd : Nat} {s : HS} {x : Str}
theorem low_high (c : Bool) (M : Mem) : oEq (.str (chS c)) (.str "low") M = .ok (.bl (!c)) M ∧ oEq (.str (chS c)) (.str "high") M = .ok (.bl c) M := by
  cases c
  · exact ⟨by simp [chS_lo], by simp [chS_lo, x1]⟩
  · exact ⟨by simp [chS_hi, x2], by simp [chS_hi]⟩
theorem sail_ok {bx : D} {p : Int × Int} {g : Int} (hW : WAt M a bd s) (hk : LwK s) (e : s.B.lookup x = some p) : ∃ t : Tp, f_law_sail [bx, .ref a, .str x] M = .ok (.tup t.l) M ∧ t.good g s.n := by
  have key : Wr (f_law_sail [bx, .ref a, .str x] M) fun d M' => ∃ t : Tp, d = .tup t.l ∧ M' = M ∧ t.good g s.n := by
    refine fn_wp rfl fun P hR => ?_
    have hm := hk.bp _ (lookup_memB e)
    obtain ⟨nx, p0, p1⟩ := hm
    simp only at nx p0 p1
    obtain ⟨q, hq⟩ : ∃ q : Nat, p.1 = (q : Int) := ⟨p.1.toNat, by omega⟩
    have hn := hk.n2
    have v := val_boat x s.B
    rw [e] at v
    have v : valD (.inr x) (bKs s.B) (bVs s.B) = some (bV p) := v
    have hw := hW.w
    have hb := hW.b
    have lS : ∀ M, bLen [.tup (stD s.n s.S)] M = .ok (.int (s.n : Int)) M := fun M => by rw [r_len (q_tup M _), stD_len]
    have cx : ∀ i, i < s.n → atI (chD s.n s.c) (i : Int) = some (.str (chS (s.c i))) := fun i hi => atI_k (chD_get hi) rfl
    have hR : ∀ t : Tp, t.good g s.n → P.r (.tup t.l) M := fun t ht => hR _ _ (by
      rw [w_tup]
      cases t <;> simp [Tp.l]) ⟨t, rfl, List.take_length, ht⟩
    obtain ⟨ST, hST⟩ : ∃ Z, Z = stD s.n s.S := ⟨_, rfl⟩
    obtain ⟨VL, hVL⟩ : ∃ Z, Z = vecD s.n s.l := ⟨_, rfl⟩
    obtain ⟨CH, hCH⟩ : ∃ Z, Z = chD s.n s.c := ⟨_, rfl⟩
    obtain ⟨HP, hHP⟩ : ∃ Z, Z = vecD (s.n + 1) s.hp := ⟨_, rfl⟩
    obtain ⟨RN, hRN⟩ : ∃ Z, Z = vecD s.n s.rn := ⟨_, rfl⟩
    obtain ⟨KS, hKS⟩ : ∃ Z, Z = bKs s.B := ⟨_, rfl⟩
    obtain ⟨VS, hVS⟩ : ∃ Z, Z = bVs s.B := ⟨_, rfl⟩
    rw [← hST, ← hVL, ← hCH, ← hHP, ← hRN] at hw
    rw [← hKS, ← hVS] at hb v
    rw [← hST] at lS
    rw [← hCH] at cx
    simp [b_law_sail, b_law_sail_s1, hw, hb, v, bV, hq]
    by_cases h1 : q < s.n
    · have h1' : (q : Int) < (s.n : Int) := by omega
      have lh := low_high (s.c q)
      by_cases h2 : s.c q = false
      · have f := hR (.sail true x q) ⟨h1, nx⟩
        rw [h2] at lh
        simp [b_law_sail_s2, hw, lS, h1, h1', cx q h1, h2, lh]
        exact f
      · have h2 : s.c q = true := by simpa using h2
        rw [h2] at lh
        by_cases h3 : q = 0
        · subst h3
          have f := hR (.turn 0) h1
          have c0 := cx 0 h1
          rw [h2] at c0
          simp at c0 h1'
          simp [b_law_sail_s2, hw, lS, h1, h1', c0, lh]
          simpa [Tp.l] using f
        · have h3' : ¬ (q : Int) = 0 := by omega
          have h4 : ((q : Int) == 0) = false := by simpa using h3'
          have e5 : (q : Int) - 1 = ((q - 1 : Nat) : Int) := by omega
          have c1 := cx (q - 1) (by omega)
          have lh1 := low_high (s.c (q - 1))
          simp [b_law_sail_s2, hw, lS, h1, h1', cx q h1, h2, lh, h3, h4]
          cases h5 : s.c (q - 1) with
          | true =>
            have f := hR (.sail false x (q - 1)) ⟨by omega, nx⟩
            have el : (Tp.sail false x (q - 1)).l = [.str "down", .str x, .int (q : Int)] := by
              show [D.str "down", .str x, .int (((q - 1 : Nat) : Int) + 1)] = _
              rw [show ((q - 1 : Nat) : Int) + 1 = (q : Int) by omega]
            rw [el] at f
            rw [h5] at c1 lh1
            simp [b_law_sail_s3, hw, e5, c1, lh1]
            exact f
          | false =>
            have f := hR (.turn (q - 1)) (show q - 1 < s.n by omega)
            have el : (Tp.turn (q - 1)).l = [.str "turn", .int (q : Int)] := by
              show [D.str "turn", .int (((q - 1 : Nat) : Int) + 1)] = _
              rw [show ((q - 1 : Nat) : Int) + 1 = (q : Int) by omega]
            rw [el] at f
            rw [h5] at c1 lh1
            simp [b_law_sail_s3, hw, e5, c1, lh1]
            exact f
    · have h1' : ¬ (q : Int) < (s.n : Int) := by omega
      have e5 : (q : Int) - 1 = ((q - 1 : Nat) : Int) := by have := hk.n1; omega
      have c1 := cx (q - 1) (by have := hk.n1; omega)
      have lh1 := low_high (s.c (q - 1))
      have hn1 := hk.n1
      simp [b_law_sail_s2, hw, lS, h1, h1']
      cases h5 : s.c (q - 1) with
      | true =>
        have f := hR (.sail false x (q - 1)) ⟨by omega, nx⟩
        have el : (Tp.sail false x (q - 1)).l = [.str "down", .str x, .int (q : Int)] := by
          show [D.str "down", .str x, .int (((q - 1 : Nat) : Int) + 1)] = _
          rw [show ((q - 1 : Nat) : Int) + 1 = (q : Int) by omega]
        rw [el] at f
        rw [h5] at c1 lh1
        simp [b_law_sail_s3, hw, e5, c1, lh1]
        exact f
      | false =>
        have f := hR (.turn (q - 1)) (show q - 1 < s.n by omega)
        have el : (Tp.turn (q - 1)).l = [.str "turn", .int (q : Int)] := by
          show [D.str "turn", .int (((q - 1 : Nat) : Int) + 1)] = _
          rw [show ((q - 1 : Nat) : Int) + 1 = (q : Int) by omega]
        rw [el] at f
        rw [h5] at c1 lh1
        simp [b_law_sail_s3, hw, e5, c1, lh1]
        exact f
  obtain ⟨d, M', q, t, rfl, rfl, r⟩ := wr_of key
  exact ⟨t, q, r⟩
end
end LW
namespace LW
open PySem L2
theorem nm_z : NmS "zzzzzzzq" := by
  have h1 : Str.length "zzzzzzzq" = 8 := by decide +kernel
  refine ⟨by rw [h1]; decide, by rw [h1]; decide, ?_⟩
  have : ∀ c ∈ ("zzzzzzzq" : Str).cps.toList, 97 ≤ c ∧ c ≤ 122 := by decide +kernel
  exact this
theorem sorted_keys {B : BL} {M : Mem} {bd : Nat} (hb : M[bd]? = some (.dct (bKs B) (bVs B))) (hB : B.length < 64) {b : Nat} {sl : Slots} {f : ES} (hf : f b sl M = .ok (.ref bd) M) : nSortD (aCons f aNil) b sl M = .ok ((sortS (B.map (·.1))).map D.str) M := by
  have l1 : (B.map (·.1)).length < 64 := by simpa using hB
  have l2 : (bKs B).length = (bVs B).length := by simp [bKs, bVs]
  rw [r_nsortD]
  simp only [r_acons, hf, bind_ok, r_anil, r_dctR, hb, bKs_str]
  rw [if_pos ⟨l1, l2⟩]
section
variable {M : Mem} {a bd : Nat} {s : HS}
theorem trip_ok {h n : Nat} {g : Int} (g0 : 0 < g) (g1 : g ≤ 1000000000000000) (hW : WAt M a bd s) (hk : LwK s) (ha : h ≠ a) (hbd : h ≠ bd) (x : Box M h (n + 1000)) :
    ∃ (t : Tp) (M' : Mem), f_law_trip [.ref h, .ref a, .int g] M = .ok (.tup t.l) M' ∧ t.good g s.n ∧ Dr h n M M' := by
  have hh := x.lt
  have key : Wr (f_law_trip [.ref h, .ref a, .int g] M) fun d M' => ∃ t : Tp, d = .tup t.l ∧ t.good g s.n ∧ Dr h n M M' := by
    refine fn_wp rfl fun P hR => ?_
    have hn1 := hk.n1
    have hn := hk.n2
    obtain ⟨r1, M1, q1, a1, b1, d1⟩ := take_dr (M := M) (h := h) (n := n + 800) (size := 12) (x.mono (by omega)) (by decide) (by decide)
    obtain ⟨r2, M2, q2, a2, b2, d2⟩ := take_dr (M := M1) (h := h) (n := n + 650) (size := 6) (d1.box.mono (by omega)) (by decide) (by decide)
    obtain ⟨r3, M3, q3, a3, b3, d3⟩ := take_dr (M := M2) (h := h) (n := n + 520) (size := (s.n : Int)) (d2.box.mono (by omega)) (by omega) (Int.le_trans (by omega) t8)
    obtain ⟨lk, rfl⟩ : ∃ t : Nat, r3 = (t : Int) := ⟨r3.toNat, by omega⟩
    have d13 := (d1.trans d2).trans d3
    have W3 : WAt M3 a bd s := hW.of (d13.at_ _ (Ne.symm ha)) (d13.at_ _ (Ne.symm hbd))
    have l3 : M3.length = M.length := d13.len
    obtain ⟨NS, hNS⟩ : ∃ Z, Z = (sortS (s.B.map (·.1))).map D.str := ⟨_, rfl⟩
    have lNS : NS.length ≤ 10 := by rw [hNS, List.length_map, sortS_perm.length_eq, List.length_map]; exact hk.bl
    have sk := fun (sl : Slots) (f : ES) (hf : f M.length sl M3 = .ok (.ref bd) M3) => sorted_keys (b := M.length) W3.b (by have := hk.bl; omega) hf
    simp only [← hNS] at sk
    have nmNS : ∀ d ∈ NS ++ [D.str "zzzzzzzq"], ∃ x, d = .str x ∧ NmS x := fun d hd => by
      rcases List.mem_append.mp hd with hd | hd
      · rw [hNS] at hd
        obtain ⟨x, hx, rfl⟩ := List.mem_map.mp hd
        obtain ⟨y, hy, rfl⟩ := List.mem_map.mp (sortS_perm.mem_iff.mp hx)
        exact ⟨_, rfl, (hk.bp y hy).1⟩
      · rw [List.mem_singleton] at hd
        subst hd
        exact ⟨_, rfl, nm_z⟩
    obtain ⟨dx, M4, q4, m4, d4⟩ := of_ok (M := M3) (h := h) (n := n + 390) (xs := NS ++ [D.str "zzzzzzzq"]) (by simp) (by simp; omega) (fun d hd => by
      obtain ⟨x, rfl, _⟩ := nmNS d hd
      rfl) (d3.box.mono (by omega))
    obtain ⟨xb, rfl, nx⟩ := nmNS dx m4
    obtain ⟨r5, M5, q5, a5, b5, d5⟩ := take_dr (M := M4) (h := h) (n := n + 260) (size := (s.n : Int) + 1) (d4.box.mono (by omega)) (by omega) (Int.le_trans (by omega) t8)
    obtain ⟨r6, M6, q6, a6, b6, d6⟩ := take_dr (M := M5) (h := h) (n := n + 130) (size := (s.n : Int)) (d5.box.mono (by omega)) (by omega) (Int.le_trans (by omega) t8)
    obtain ⟨qy, rfl⟩ : ∃ t : Nat, r5 = (t : Int) := ⟨r5.toNat, by omega⟩
    obtain ⟨sp, rfl⟩ : ∃ t : Nat, r6 = (t : Int) := ⟨r6.toNat, by omega⟩
    have d16 := ((d13.trans d4).trans d5).trans d6
    have W6 : WAt M6 a bd s := hW.of (d16.at_ _ (Ne.symm ha)) (d16.at_ _ (Ne.symm hbd))
    have l6 : M6.length = M.length := d16.len
    have mg : ∀ M, oMul (.int g) (.int (1 + r2)) M = .ok (.int (g * (1 + r2))) M := fun M => r_mul (mul_l (by omega) (by omega))
    have gz : ∃ j : Nat, 1 ≤ j ∧ j ≤ 6 ∧ g * (1 + r2) = g * (j : Int) := ⟨(1 + r2).toNat, by omega, by omega, by rw [show (((1 + r2).toNat : Nat) : Int) = 1 + r2 by omega]⟩
    obtain ⟨Z, hZ⟩ : ∃ Z, Z = g * (1 + r2) := ⟨_, rfl⟩
    rw [← hZ] at mg gz
    have hR : ∀ t : Tp, t.good g s.n → P.r (.tup t.l) M6 := fun t ht => hR _ _ (by
      rw [w_tup]
      cases t <;> simp [Tp.l]) ⟨t, rfl, ht, by rw [← l6, List.take_length]; exact d16.mono (by omega)⟩
    have lS : ∀ M, bLen [.tup (stD s.n s.S)] M = .ok (.int (s.n : Int)) M := fun M => by rw [r_len (q_tup M _), stD_len]
    have hw := hW.w
    have hw3 := W3.w
    have hw6 := W6.w
    have hb6 := W6.b
    have hin : oDIn false (.str xb) (.ref bd) M6 = .ok (.bl (s.B.lookup xb).isSome) M6 := by
      show (match keyOf (.str xb), dctOf M6 (.ref bd) with | some k, some p => R.ok (D.bl ((valD k p.1 p.2).isSome != false)) M6 | _, _ => R.bad) = _
      simp only [r_keyS, r_dctR, hb6, val_boat]
      cases s.B.lookup xb <;> rfl
    have sl := fun (p : Int × Int) (e : s.B.lookup xb = some p) => sail_ok (M := M6) (bx := .ref h) (g := g) W6 hk e
    have lN1 : NS.length + 1 ≤ 1000000 := by omega
    have e1k : (1 : Int) + (lk : Int) = (lk : Int) + 1 := by omega
    obtain ⟨ST, hST⟩ : ∃ Z, Z = stD s.n s.S := ⟨_, rfl⟩
    obtain ⟨VL, hVL⟩ : ∃ Z, Z = vecD s.n s.l := ⟨_, rfl⟩
    obtain ⟨CH, hCH⟩ : ∃ Z, Z = chD s.n s.c := ⟨_, rfl⟩
    obtain ⟨HP, hHP⟩ : ∃ Z, Z = vecD (s.n + 1) s.hp := ⟨_, rfl⟩
    obtain ⟨RN, hRN⟩ : ∃ Z, Z = vecD s.n s.rn := ⟨_, rfl⟩
    rw [← hST, ← hVL, ← hCH, ← hHP, ← hRN] at hw hw3 hw6
    rw [← hST] at lS
    have ed : eDget (eVar 1) (eC (.str "boats")) M.length [some (.ref h), some (.ref a), some (.int g), some (.int (s.n : Int)), some (.int r1), some (.int Z), none, none, none, none, none] M3 = .ok (.ref bd) M3 := by simp [hw3]
    have ek := sk _ _ ed
    simp [b_law_trip, b_law_trip_s1, hw, lS, q1, q2, mg]
    simp [-r_nsortD, b_law_trip_s2, q3, e1k, ek, lN1, q4]
    simp [b_law_trip_s3, q5, q6]
    by_cases w4 : r1 < 4
    · cases el : s.B.lookup xb with
      | none =>
        have f := hR (.turn lk) (by show lk < s.n; omega)
        rw [el] at hin
        simp [-r_dInH, b_law_trip_s4, w4, hw6, hin]
        simpa [Tp.l] using f
      | some p =>
        obtain ⟨t, qs, gt⟩ := sl p el
        have f := hR t gt
        rw [el] at hin
        obtain ⟨TL, hTL⟩ : ∃ Z, Z = t.l := ⟨_, rfl⟩
        rw [← hTL] at qs f
        simp [-r_dInH, b_law_trip_s4, w4, hw6, hin, qs]
        exact f
    · simp [b_law_trip_s4, w4]
      by_cases w8 : r1 < 8
      · have ix : ∃ on : Bool, atI [D.str "load", .str "unload", .str "load", .str "unload"] (r1 - 4) = some (.str (onS on)) := by
          rcases (by omega : r1 = 4 ∨ r1 = 5 ∨ r1 = 6 ∨ r1 = 7) with rfl | rfl | rfl | rfl
          · exact ⟨true, by simp [onS]⟩
          · exact ⟨false, by simp [onS]⟩
          · exact ⟨true, by simp [onS]⟩
          · exact ⟨false, atI_k (k := 3) rfl rfl⟩
        obtain ⟨on, ix⟩ := ix
        have f := hR (.ship on xb Z) ⟨nx, gz⟩
        simp [b_law_trip_s5, w8, ix]
        exact f
      · simp [b_law_trip_s5, w8]
        have m1 : oMod (.int ((qy : Int) + 1 + (sp : Int))) (.int ((s.n : Int) + 1)) M6 = .ok (.int (((qy : Int) + 1 + (sp : Int)) % ((s.n : Int) + 1))) M6 := r_mod (by omega)
        have m2 : oMod (.int (sp : Int)) (.int 2) M6 = .ok (.int ((sp : Int) % 2)) M6 := r_mod (by decide)
        obtain ⟨ot, hot, o1, o2⟩ : ∃ ot : Nat, ((qy : Int) + 1 + (sp : Int)) % ((s.n : Int) + 1) = (ot : Int) ∧ ot ≤ s.n ∧ qy ≠ ot := by
          have h0 : 0 ≤ ((qy : Int) + 1 + (sp : Int)) % ((s.n : Int) + 1) := Int.emod_nonneg _ (by omega)
          have h1 : ((qy : Int) + 1 + (sp : Int)) % ((s.n : Int) + 1) < (s.n : Int) + 1 := Int.emod_lt_of_pos _ (by omega)
          refine ⟨(((qy : Int) + 1 + (sp : Int)) % ((s.n : Int) + 1)).toNat, by omega, by omega, fun e => ?_⟩
          have e2 : ((qy : Int) + 1 + (sp : Int)) % ((s.n : Int) + 1) = (qy : Int) := by omega
          by_cases hlt : (qy : Int) + 1 + (sp : Int) < (s.n : Int) + 1
          · rw [Int.emod_eq_of_lt (by omega) hlt] at e2
            omega
          · have e3 : (qy : Int) + 1 + (sp : Int) = ((qy : Int) + 1 + (sp : Int) - ((s.n : Int) + 1)) + ((s.n : Int) + 1) := by omega
            rw [e3, Int.add_emod_right, Int.emod_eq_of_lt (by omega) (by omega)] at e2
            omega
        rw [hot] at m1
        have ix2 : ∃ up : Bool, atI [D.str "up", .str "down"] ((sp : Int) % 2) = some (.str (upS up)) := by
          rcases (by omega : (sp : Int) % 2 = 0 ∨ (sp : Int) % 2 = 1) with e | e <;> rw [e]
          · exact ⟨true, by simp [upS]⟩
          · exact ⟨false, by simp [upS]⟩
        obtain ⟨up, ix2⟩ := ix2
        have fc := hR (.carry qy ot Z) ⟨by omega, o1, o2, gz⟩
        have fr := hR (.rain lk Z) ⟨by omega, gz⟩
        have fd := hR (.draw lk Z) ⟨by omega, gz⟩
        have fu := hR (.sail up xb lk) ⟨by omega, nx⟩
        unfold Tp.l at fc fr fd fu
        simp [b_law_trip_s6, m1]
        rcases (by omega : r1 = 8 ∨ r1 = 9 ∨ r1 = 10 ∨ r1 = 11) with e | e | e | e <;> subst e
        · simp [b_law_trip_s7, m2, ix2]
          exact fc
        · simp [b_law_trip_s7, m2, ix2]
          exact fr
        · simp [b_law_trip_s7, m2, ix2]
          exact fd
        · have i3 : ∀ (a b c d : D), atI [a, b, c, d] 3 = some d := fun a b c d => atI_k (k := 3) rfl rfl
          simp [b_law_trip_s7, m2, ix2, i3]
          exact fu
  obtain ⟨d, M', q, t, rfl, r⟩ := wr_of key
  exact ⟨t, M', q, r⟩
end
end LW
namespace LW
open PySem L2
structure BR where
  f : Option (Str × D)
  e : Option Dd
  B : BL
  hp : Nat → Int
theorem hl1 : (("high" : Str) = "low") = False := eq_false (by decide +kernel)
theorem hl2 : (("draw" : Str) = "rain") = False := eq_false (by decide +kernel)
section
variable {M : Mem} {a bd : Nat} {s : HS} {b : Nat} {t : Tp} {y : D} {lo : Bool}
end
end LW
namespace LW
open PySem L2
end LW
namespace LW
open PySem L2
section
variable {M : Mem} {a bd : Nat} {s : HS} {b : Nat} {t : Tp} {y : D}
theorem pf2 (c c' : Cell) : Pf M (M ++ [c, c']) := ⟨_, rfl⟩
end
end LW
namespace LW
open PySem L2
section
variable {M : Mem} {a bd : Nat} {s : HS} {b : Nat} {t : Tp} {y : D} {g : Int}
end
end LW
namespace LW
open PySem L2
theorem LwD.toK {g : Int} {cap most : Nat} {s : HS} (h : LwD g cap most s) (g0 : 0 < g) (g1 : g ≤ 1000000000000000) (hc : cap ≤ 6) (hm : most ≤ 10) : LwK s := by
  refine ⟨h.n1, Nat.le_trans h.n2 hc, h.bn, Nat.le_trans h.bl hm, fun y hy => ⟨(h.bp y hy).1, (h.bp y hy).2.1, (h.bp y hy).2.2.1⟩, fun i hi => ?_, fun i hi => ?_⟩
  · have := pd_small (h.st i hi) g0 g1
    simp only at this
    omega
  · obtain ⟨m, _, e⟩ := h.hp i hi
    rw [e]
    exact Int.mul_nonneg (by omega) (by omega)
/-- house and world alike, the boats in any order -/
structure HW (M : Mem) (hh a bd : Nat) (s : HS) (Bh : BL) : Prop where
  h : HoAt M hh { s with B := Bh }
  w : WAt M a bd s
  o : ordB Bh = ordB s.B
  k : LwK s
theorem HW.mono {M M' : Mem} {hh a bd : Nat} {s : HS} {Bh : BL} (x : HW M hh a bd s Bh) (hf : ∀ j, j < M.length → M'[j]? = M[j]?) : HW M' hh a bd s Bh := ⟨x.h.mono hf, x.w.mono hf, x.o, x.k⟩
section
variable {M : Mem} {a bd hh : Nat} {s : HS} {Bh : BL}
end
end LW
namespace LW
open PySem PySem.Spec PyProof.Rows L2
abbrev IsZf (h : Heap) (z TI TO : Addr) (f0 : Value) (f1 : Bool) : Prop :=
  h.get? z = some { cls := .type "zip", dict := none, data := .fields #[f0, .bool f1, .bool true, .ref TI, .ref TO], slots := #[] }
section
variable {prog : Program} {w : World} {A : Around} {E : Value → Shared → Prop} {s : Shared} {k : Nat} {z TI TO i1 i2 a1 a2 T : Addr} {t1 t2 f1 : Bool} {xs1 xs2 : Array Value} {u1 u2 p1 p2 f0 : Value}
end
end LW
namespace LW
open PySem PySem.Spec PyProof.Rows L2
/-- a strict zip as it stands, k turns on -/
structure ZSt (h : Heap) (z TI TO i1 i2 a1 a2 : Addr) (t1 t2 : Bool) (k : Nat) : Prop where
  zf : ∃ f0 f1, IsZf h z TI TO f0 f1 ∧ (f0 = .none ∨ ∃ T : Addr, f0 = rawInt T)
  ti : IsTupV h TI [.ref i1, .ref i2]
  to_ : ∃ p1 p2, IsTupV h TO [p1, p2]
  it1 : SIt t1 h i1 a1 k
  it2 : SIt t2 h i2 a2 k
theorem ZSt.at {h h' : Heap} {z TI TO i1 i2 a1 a2 : Addr} {t1 t2 : Bool} {k : Nat} (s : ZSt h z TI TO i1 i2 a1 a2 t1 t2 k) (e : ∀ b, b = z ∨ b = TI ∨ b = TO ∨ b = i1 ∨ b = i2 → ∀ o, h.get? b = some o → h'.get? b = some o) : ZSt h' z TI TO i1 i2 a1 a2 t1 t2 k := by
  obtain ⟨⟨f0, f1, z1, z2⟩, ti, ⟨p1, p2, to_⟩, it1, it2⟩ := s
  exact ⟨⟨f0, f1, e z (by simp) _ z1, z2⟩, e TI (by simp) _ ti, ⟨p1, p2, e TO (by simp) _ to_⟩, it1.at fun o => e i1 (by simp) o, it2.at fun o => e i2 (by simp) o⟩
section
variable {prog : Program} {w : World} {A : Around} {E : Value → Shared → Prop} {s : Shared} {k : Nat} {z TI TO i1 i2 a1 a2 : Addr} {t1 t2 : Bool} {xs1 xs2 : Array Value} {u1 u2 : Value}
end
end LW
namespace LW
open PySem PySem.Spec PyProof.Rows L2
section
variable {prog : Program} {w : World} {A : Around} {E : Value → Shared → Prop} {s : Shared}
end
end LW
namespace LW
open PySem PySem.Spec PyProof.Rows L2
end LW
namespace LW
open PySem PySem.Spec PyProof.Rows L2
section
variable {X : Cx} {Z : WX} {fs : EA} {k : Nat}
end
end LW
namespace LW
open PySem PySem.Spec PyProof.Rows L2
structure ApS (z TI TO i1 i2 a2 : Addr) : Prop where
  S : ZipSep2 z TI TO i1 i2 [i1] [i2, a2]
  n2 : a2 ≠ i2
def chrs (x : Str) : List D := x.cps.toList.map fun c => .str ⟨#[c]⟩
theorem chrs_len (x : Str) : (chrs x).length = x.cps.size := by simp [chrs]
theorem chrs_get {x : Str} {i c : Nat} (h : x.cps[i]? = some c) : (chrs x)[i]? = some (.str ⟨#[c]⟩) := by
  unfold chrs
  rw [List.getElem?_map, Array.getElem?_toList, h]
  rfl
/-- for c in x, x a text -/
def iTxt (f : ES) : EI := fun b s M => (f b s M).bind fun x M1 => match x with
  | .str x => .ok (chrs x, []) M1
  | _ => .bad
section
variable {X : Cx} {Z : WX} {fs : EA} {f : ES} {e tg : Expr}
theorem si_txt (ha : SE X Z e f) : SI X Z tg e (iTxt f) := by
  refine (pi_str ha).weak fun σ H R ⟨W, s, M, m, sr, po⟩ => ?_
  refine ⟨W, s, M, m, sr, (Post.bind po).imp fun x M1 W1 H1 x1 m1 p1 v rv => ?_⟩
  split at p1
  · rename_i x
    cases rv
    refine ⟨x, rfl, Post.here (a := (chrs x, [])) p1 m1 _ ⟨fun i W H M hi x0 mm g => ?_, fun W H M x0 mm g => ?_, fun i W H M z H' hi x0 mm g yl => ?_⟩⟩
    · have hi : i < (chrs x).length := hi
      rw [chrs_len] at hi
      exact hi
    · show x.cps.size ≤ (chrs x).length
      rw [chrs_len]
      exact Nat.le_refl _
    · obtain ⟨rfl, c, hc, rfl⟩ := yl
      exact ⟨_, chrs_get hc, .str _, .refl _ _, mm⟩
  · exact p1.elim
end
end LW
namespace LW
open PySem PySem.Spec PyProof.Rows L2
def rLeS : R2 := fun x y H Q => ∃ i j, x = .str i ∧ y = .str j ∧ Q (.bl (!decide (j.cps.toList < i.cps.toList))) H
def oLeS : D → D → Mem → R D := fun x y M => match x, y with
  | .str i, .str j => .ok (.bl (!ltS j i)) M
  | _, _ => .bad
theorem bv_leS {G : Gm} : BinV G rLeS oLeS := by
  intro x y M W H v w Z t Q m rv rw' p
  unfold oLeS at p
  split at p
  · cases rv; cases rw'
    exact ⟨_, _, rfl, rfl, p.here m _ (.bl _)⟩
  · exact p.elim
section
variable {X : Cx} {Z : WX} {a b c : Expr} {f g h : ES} {pos : Pos}
theorem se_leleS (ha : SE X Z a f) (hb : SE X Z b g) (hc : SE X Z c h) (hm : lastMarks [.LtE, .LtE] [b, c] = false := by with_unfolding_all rfl) : SE X Z (.Compare a [.LtE, .LtE] [b, c] pos) (eChain oLeS oLeS f g h) :=
  (pe_chain op_le_str op_le_str ha hb hc hm).weak fun _ _ _ z => lift_chain bv_leS bv_leS z
end
end LW
namespace LW
open PySem PySem.Spec PyProof.Rows L2
theorem se_pick {X : Cx} {Z : WX} {e : Expr} {F G : ES} (c : Nat → Slots → Mem → Bool) (h1 : SE X Z e F) (h2 : SE X Z e G) : SE X Z e (fun b s M => if c b s M = true then F b s M else G b s M) := by
  refine ⟨fun pins s σ H Q I h => ?_⟩
  obtain ⟨W, sl, M, m, sr, po⟩ := h
  by_cases hc : c W.b sl M = true
  · simp only [hc, if_true] at po
    exact h1.run pins s σ H Q I ⟨W, sl, M, m, sr, po⟩
  · simp only [hc, if_false] at po
    exact h2.run pins s σ H Q I ⟨W, sl, M, m, sr, po⟩
theorem rds_strsT' {G : Gm} {H : Hp} {W : Wd} (ns : List Str) : RDs G H W (ns.map D.str) (ns.map V.str) := by
  induction ns with
  | nil => exact .nil
  | cons n ns ih => exact .cons (.str _) ih
def nSplit (f g : ES) : EN := fun b s M => (f b s M).bind fun x M1 => match x with
  | .str a => (g b s M1).bind fun y M2 => match y with
    | .str c => if (c.length == 0) = false ∧ a.length ≤ 100000 then .ok ((Txt.split a c).map D.str) M2 else .bad
    | _ => .bad
  | _ => .bad
section
variable {X : Cx} {Z : WX} {a b e : Expr} {f g : ES} {fs : EA} {pos apos cpos p : Pos}
theorem sn_split (ho : SE X Z a f) (he : SE X Z e g) (hs : starEach [e] X.env = [(false, eval e X.env)] := by rfl) (hbase : attributeBase a "split" X.env (eval a X.env) = eval a X.env := by rfl) (hline : (apos.endLine == pos.line) = true := by rfl) :
    SN X Z (.Call (.Attribute a "split" apos) [e] [] pos) (nSplit f g) := by
  refine (pe_split ho he hs hbase hline).weak fun σ H Q ⟨W, s, M, m, sr, po⟩ => ?_
  refine ⟨W, s, M, m, sr, (PostN.bind m po).imp fun x M1 W1 H1 x1 m1 p1 v rv => ?_⟩
  split at p1
  · rename_i a
    cases rv
    refine ⟨⟨a, rfl⟩, W1, s, M1, m1, sr.mono x1.toLe, ?_⟩
    have b1 : W1.b = W.b := x1.b
    rw [b1]
    refine (PostN.bind m1 p1).imp fun y M2 W2 H2 x2 m2 p2 w rw' => ?_
    split at p2
    · rename_i c
      cases rw'
      split at p2
      · rename_i hc
        refine ⟨a, c, rfl, rfl, hc.1, by have := hc.2; show a.length + 2 ≤ 16777216; omega, fun p hp => ?_⟩
        exact new_n (.refl _ _) m2 m2 p2 (rds_strsT' _) hp
      · exact p2.elim
    · exact p2.elim
  · exact p1.elim
def rInS : R2 := fun x y H Q => ∃ (c : Nat) (z : Str), x = .str ⟨#[c]⟩ ∧ y = .str z ∧ Q (.bl (decide (c ∈ z.cps.toList))) H
def oInS : D → D → Mem → R D := fun x y M => match x, y with
  | .str ⟨⟨[c]⟩⟩, .str z => .ok (.bl (decide (c ∈ z.cps.toList))) M
  | _, _ => .bad
theorem bv_inS {G : Gm} : BinV G rInS oInS := by
  intro x y M W H v w Z t Q m rv rw' p
  unfold oInS at p
  split at p
  · cases rv
    cases rw'
    exact ⟨_, _, rfl, rfl, p.here m _ (.bl _)⟩
  · exact p.elim
theorem se_inS (ha : SE X Z a f) (hb : SE X Z b g) (hm : behindInMarks .In b = false := by rfl) : SE X Z (.Compare a [.In] [b] pos) (eBin oInS f g) := se_cmp op_in_sign bv_inS ha hb hm
def bIntT (xs : List D) (M : Mem) : R D := match xs with
  | [.str a] => match PySem.intText? a with
    | some n => if a.length ≤ 640 then .ok (.int n) M else .bad
    | none => .bad
  | _ => .bad
theorem se_bintT (hg : Gl X "int") (hm : X.mg "int" = none) (ha : SA X Z [a] fs) (he : starEach [a] X.env = (false, eval a X.env) :: starEach [] X.env := by rfl) : SE X Z (.Call (.Name "int" p) [a] [] pos) (eFn bIntT fs) := se_callTy call_int_str (by
  intro xs M W H vs Z t Q m rs po
  unfold bIntT at po
  split at po
  · obtain ⟨v, rfl, rv⟩ := rds1 rs
    cases rv
    split at po
    · rename_i n hn
      split at po
      · rename_i hl
        exact ⟨_, n, rfl, hn, hl, po.here m _ (.int _)⟩
      · exact po.elim
    · exact po.elim
  · exact po.elim) hg hm boot_int ha (by decide) (by decide) he rfl
def bStrS (xs : List D) (M : Mem) : R D := match xs with
  | [.str a] => .ok (.str a) M
  | _ => .bad
theorem se_strS (hg : Gl X "str") (hm : X.mg "str" = none) (ha : SA X Z [a] fs) (he : starEach [a] X.env = (false, eval a X.env) :: starEach [] X.env := by rfl) : SE X Z (.Call (.Name "str" p) [a] [] pos) (eFn bStrS fs) := se_callTy SkE.call_str_str (by
  intro xs M W H vs Z t Q m rs po
  unfold bStrS at po
  split at po
  · obtain ⟨v, rfl, rv⟩ := rds1 rs
    cases rv
    exact ⟨_, rfl, po.here m _ (.str _)⟩
  · exact po.elim) hg hm boot_str ha (by decide) (by decide) he rfl
/-- str(x) of a text or a number -/
def eStrB (fs : EA) : ES := fun b s M => if (match fs b s M with | .ok [.str _] _ => true | _ => false) = true then eFn bStrS fs b s M else eFn bStr fs b s M
theorem se_strB (hg : Gl X "str") (hm : X.mg "str" = none) (ha : SA X Z [a] fs) (he : starEach [a] X.env = (false, eval a X.env) :: starEach [] X.env := by rfl) : SE X Z (.Call (.Name "str" p) [a] [] pos) (eStrB fs) :=
  se_pick (fun b s M => match fs b s M with | .ok [.str _] _ => true | _ => false) (se_strS hg hm ha he) (se_str1 hg hm ha he)
def eCutS (f : ES) (l u : EP') : ES := fun b s M => (f b s M).bind fun x M1 => (l b s M1).bind fun lo M2 => (u b s M2).bind fun hi M3 => match x with
  | .str z => if z.length ≤ 1000000 then .ok (.str (cutS z lo hi)) M3 else .bad
  | _ => .bad
theorem se_cutS {l u : EP'} {lo hi : Option Expr} {p2 : Pos} (ha : SE X Z a f) (hl : SP' X Z lo l) (hu : SP' X Z hi u) : SE X Z (.Subscript a (.Slice lo hi none p2) pos) (eCutS f l u) := by
  refine (pe_slice sl_str ha hl hu).weak fun σ H Q ⟨W, s, M, m, sr, p⟩ => ?_
  refine ⟨W, s, M, m, sr, (Post.bind p).imp fun x M1 W1 H1 x1 m1 p1 v rv => ?_⟩
  refine ⟨W1, s, M1, m1, sr.mono x1.toLe, ?_⟩
  rw [x1.b]
  refine (Post.bind p1).imp fun li M2 W2 H2 x2 m2 p2 => ?_
  refine ⟨W2, s, M2, m2, sr.mono (x1.trans x2).toLe, ?_⟩
  rw [(x1.trans x2).b]
  refine (Post.bind p2).imp fun hi' M3 W3 H3 x3 m3 p3 => ?_
  have rv' := (rv.mono x2.toLe).mono x3.toLe
  split at p3
  · rename_i z
    cases rv'
    split at p3
    · rename_i hz
      exact ⟨z, rfl, by show z.length ≤ 16777216; omega, p3.here m3 _ (.str _)⟩
    · exact p3.elim
  · exact p3.elim
def oMulK : D → D → Mem → R D := fun x y M => match x, y with
  | .str z, .int i => if z.length ≤ 16 ∧ 0 ≤ i ∧ i ≤ 1000 then .ok (.str (Txt.mul z i)) M else .bad
  | _, _ => .bad
def rMulK : R2 := fun x y H Q => ∃ (z : Str) (i : Int), x = .str z ∧ y = .int i ∧ z.length ≤ 16 ∧ 0 ≤ i ∧ i ≤ 1000 ∧ Q (.str (Txt.mul z i)) H
theorem op_mulK {X : Cx} : OpR X (binaryOp .Mult) rMulK := by
  intro pins s σ H x y v u Q I rx ry h
  obtain ⟨z, i, rfl, rfl, hz, h0, h1, q⟩ := h
  obtain ⟨t, rfl⟩ := rx
  obtain ⟨t', rfl⟩ := ry
  exact PySem.W.KXi.mul rfl hz (by omega) (by omega) fun t' k _ _ => ⟨.str _, H, I.tok _, ⟨_, rfl⟩, q⟩
theorem bv_mulK {G : Gm} : BinV G rMulK oMulK := by
  intro x y M W H v w Z t Q m rv rw' p
  unfold oMulK at p
  split at p
  · rename_i z i
    cases rv
    cases rw'
    split at p
    · rename_i hc
      exact ⟨z, i, rfl, rfl, hc.1, hc.2.1, hc.2.2, p.here m _ (.str _)⟩
    · exact p.elim
  · exact p.elim
theorem se_mulK (ha : SE X Z a f) (hb : SE X Z b g) : SE X Z (.BinOp a .Mult b pos) (eBin oMulK f g) := se_bin op_mulK bv_mulK ha hb
def revS (z : Str) : Str := ⟨z.cps.reverse⟩
def tRevS (te : TE) : TE := fun σ H Q => te σ H fun x H1 => ∃ z, x = .str z ∧ z.length ≤ 1000000 ∧ Q (.str (revS z)) H1
theorem fm_map {α β : Type} {f : α → Option β} {g : α → β} : ∀ {l : List α}, (∀ k ∈ l, f k = some (g k)) → l.filterMap f = l.map g
  | [], _ => rfl
  | k :: l, h => by
    rw [List.filterMap_cons, h k (List.mem_cons_self ..), fm_map fun j hj => h j (List.mem_cons_of_mem _ hj)]
    rfl
theorem pickS_rev (z : Str) : (Builtin.Str.strSliceIndices none none (-1) z.length).filterMap (z.cps[·]?) = z.cps.toList.reverse := by
  show (sliceRange ((z.cps.size : Int) - 1) (-1) (-1)).filterMap (z.cps[·]?) = _
  rw [PySem.W.krv_sliceRange, List.filterMap_map]
  rw [fm_map (g := fun k => z.cps.getD (z.cps.size - 1 - k) 0) fun k hk => by
    have := List.mem_range.mp hk
    show z.cps[z.cps.size - 1 - k]? = some (z.cps.getD (z.cps.size - 1 - k) 0)
    rw [Array.getElem?_eq_getElem (by omega), Array.getD, dif_pos (by omega)]
    rfl]
  refine List.ext_getElem (by simp) fun i h1 h2 => ?_
  have hi : i < z.cps.size := by simpa using h1
  simp [Array.getD, (by omega : z.cps.size - 1 - i < z.cps.size)]
theorem pe_revS {e : Expr} {te : TE} {k : Nat} {p1 p2 p3 pos : Pos} (he : PE X e te) : PE X (.Subscript e (.Slice none none (some (.UnaryOp .USub (.Constant (.int 1) k p1) p2)) p3) pos) (tRevS te) := by
  refine ⟨fun pins s σ H Q I h => ?_⟩
  refine Subscript_ (thn (he.run pins s σ H _ I h) fun v s1 ⟨x, H1, I1, r1, q1⟩ => ?_)
  obtain ⟨z, ex, hz, q⟩ := q1
  subst ex
  obtain ⟨t, rfl⟩ := r1
  have hst : PO X (some (.UnaryOp .USub (.Constant (.int 1) k p1) p2)) (tPart (tUn (rU fun i => .int (-i)) (tC (.int 1)))) := po_some (pe_un un_neg pe_int)
  refine wpAny_Slice (thn (po_none.run pins s1 σ H1 (fun o H2 => o = none ∧ H2 = H1) I1 ⟨rfl, rfl⟩) fun vl s2 ⟨l, H2, I2, pl, el, e2⟩ => ?_)
  subst el e2
  refine thn (po_none.run pins s2 σ H2 (fun o H3 => o = none ∧ H3 = H2) I2 ⟨rfl, rfl⟩) fun vu s3 ⟨u, H3, I3, pu, eu, e3⟩ => ?_
  subst eu e3
  refine thn (hst.run pins s3 σ H3 (fun o H4 => o = some (-1) ∧ H4 = H3) I3 ⟨1, rfl, -1, rfl, rfl, rfl⟩) fun vs s4 ⟨o, H4, I4, ps, eo, e4⟩ => ?_
  subst eo e4
  have I5 : Inv X pins σ H4 { s4 with heap := s4.heap.push { cls := .type "slice", data := .fields #[vl, vu, vs] } } := I4.kept (t' := s4.toks) fun b ob q => Heap.get?_push_of_some _ q
  obtain ⟨l, rfl, el⟩ := IsPart.raw pl
  obtain ⟨u, rfl, eu⟩ := IsPart.raw pu
  obtain ⟨st, rfl, es⟩ := IsPart.raw ps
  show wpAny (model X.prog X.w) X.A (subscriptTail e (.Slice none none (some (.UnaryOp .USub (.Constant (.int 1) k p1) p2)) p3) (.str z t) (.ref s4.heap.objs.size)) (EP X pins σ Q) X.xe { s4 with heap := s4.heap.push { cls := .type "slice", data := .fields #[partValue l, partValue u, partValue st] } }
  refine tail_any (ops := [.str z t, .ref s4.heap.objs.size]) (typeIs_str _ _ _) F.slot_str_getitem.lookup ?_ (by with_unfolding_all rfl)
  refine wpAny_getItem_str_slice (l := l) (u := u) (st := st) (Heap.IsSliceOf.new _ _ _ _) (by rw [es]; rfl) ?_
  have e : sliceMade z t l u st = Made.str (revS z) := by
    unfold sliceMade slicePicked
    rw [el, eu, es]
    show (if ((-1 : Int) == 1 && _) = true then _ else _) = _
    rw [if_neg (by simp)]
    show Made.str ⟨((Builtin.Str.strSliceIndices none none (-1) z.length).filterMap (z.cps[·]?)).toArray⟩ = _
    rw [pickS_rev]
    unfold revS
    congr 2
    exact Array.ext' (by simp)
  rw [e]
  exact ⟨by show (revS z).length ≤ 16777216; unfold revS; show z.cps.reverse.size ≤ _; rw [Array.size_reverse]; exact Nat.le_trans hz (by decide), .str _, H4, I5.tok _, ⟨_, rfl⟩, q⟩
def oRevS : D → Mem → R D := fun x M => match x with
  | .str z => if z.length ≤ 1000000 then .ok (.str (revS z)) M else .bad
  | _ => .bad
theorem se_revS {k : Nat} {p1 p2 p3 : Pos} (ha : SE X Z a f) : SE X Z (.Subscript a (.Slice none none (some (.UnaryOp .USub (.Constant (.int 1) k p1) p2)) p3) pos) (eUn oRevS f) := by
  refine (pe_revS ha).weak fun σ H Q ⟨W, s, M, m, sr, p⟩ => ?_
  refine ⟨W, s, M, m, sr, (Post.bind p).imp fun x M1 W1 H1 x1 m1 p1 v rv => ?_⟩
  unfold oRevS at p1
  split at p1
  · rename_i z
    cases rv
    split at p1
    · rename_i hz
      exact ⟨z, rfl, hz, p1.here m1 _ (.str _)⟩
    · exact p1.elim
  · exact p1.elim
end
end LW
namespace LW
open PySem L2
theorem len_cps (x : Str) : x.cps.toList.length = x.length := Array.length_toList
theorem spl_mem {S : List Nat} : ∀ (l : List Nat) (k : Nat) (acc : List Nat) (p : List Nat), p ∈ TL.spl S k acc l → p.length ≤ acc.length + l.length
  | [], k, acc, p, h => by
    rw [TL.spl_nil] at h
    have : p = acc := by simpa using h
    subst this
    simp
  | c :: r, 0, acc, p, h => by
    cases hp : TL.pre S (c :: r) with
    | true =>
      rw [TL.spl_hit hp] at h
      rcases List.mem_cons.mp h with rfl | h
      · simp
      · have := spl_mem r _ _ p h
        simp only [List.length_nil, List.length_cons] at *
        omega
    | false =>
      rw [TL.spl_miss hp] at h
      have := spl_mem r _ _ p h
      simp only [List.length_append, List.length_cons, List.length_nil] at *
      omega
  | c :: r, k + 1, acc, p, h => by
    have := spl_mem r k acc p h
    simp only [List.length_cons]
    omega
theorem spl_ne {S : List Nat} : ∀ (l : List Nat) (k : Nat) (acc : List Nat), TL.spl S k acc l ≠ []
  | [], k, acc => by rw [TL.spl_nil]; simp
  | c :: r, 0, acc => by
    cases hp : TL.pre S (c :: r) with
    | true => rw [TL.spl_hit hp]; simp
    | false => rw [TL.spl_miss hp]; exact spl_ne r _ _
  | c :: r, k + 1, acc => spl_ne r k acc
section
variable {x y : Str}
theorem split_mem (hy : TL.tl y ≠ []) (hk : y.cps.all (· < 256) = true) {w : Str} (h : w ∈ Txt.split x y) : w.length ≤ x.length := by
  have e := TL.split_spl x y hy (TL.kind_ok hk)
  have : TL.tl w ∈ TL.spl (TL.tl y) 0 [] (TL.tl x) := by
    rw [← e]
    exact List.mem_map_of_mem h
  have := spl_mem _ _ _ _ this
  rw [TL.len_tl, TL.len_tl]
  simpa using this
theorem split_ne (hy : TL.tl y ≠ []) (hk : y.cps.all (· < 256) = true) : Txt.split x y ≠ [] := fun h => by
  have e := TL.split_spl x y hy (TL.kind_ok hk)
  rw [h] at e
  exact spl_ne _ _ _ e.symm
end
theorem split_many (x y : Str) : (Txt.split x y).length ≤ x.length + 2 := PyProof.Rows.split_le x y
theorem join_len (y : Str) (ps : List Str) {n : Nat} (h : ∀ p ∈ ps, p.length ≤ n) : (Txt.join y ps).length ≤ ps.length * (n + y.length) := by
  rw [TL.join_eq]
  refine Nat.le_trans (StrLaws.join_length_le y ps) ?_
  have : (ps.map (·.length)).sum ≤ ps.length * n := by
    clear y
    induction ps with
    | nil => simp
    | cons p ps ih =>
      have h1 := h p (by simp)
      have h2 := ih fun q hq => h q (by simp [hq])
      simp only [List.map_cons, List.sum_cons, List.length_cons, Nat.succ_mul]
      omega
  rw [Nat.mul_add]
  omega
theorem sum_len (ps : List Str) {n : Nat} (h : ∀ p ∈ ps, p.length ≤ n) : (ps.map (·.length)).sum ≤ ps.length * n := by
  induction ps with
  | nil => simp
  | cons p ps ih =>
    have h1 := h p (by simp)
    have h2 := ih fun q hq => h q (by simp [hq])
    simp only [List.map_cons, List.sum_cons, List.length_cons, Nat.succ_mul]
    omega
theorem strsOf_map : ∀ ps : List Str, strsOf (ps.map D.str) = some ps
  | [] => rfl
  | p :: ps => by
    show (strsOf (ps.map D.str)).map (p :: ·) = _
    rw [strsOf_map ps]
    rfl
theorem r_joinT {y : Str} {ps : List Str} {M : Mem} (h : (ps.map (·.length)).sum + ps.length * y.length ≤ 1000000) : oJoin (.str y) (.lst (ps.map .str)) M = .ok (.str (Txt.join y ps)) M := by
  show (match (seqOf M (.lst (ps.map .str))).bind strsOf with | some (ys : List Str) => if (ys.map fun (z : Str) => z.length).sum + ys.length * y.length ≤ 1000000 then R.ok (D.str (Txt.join y ys)) M else .bad | none => .bad) = _
  have e : (seqOf M (.lst (ps.map .str))).bind strsOf = some ps := strsOf_map ps
  rw [e]
  exact if_pos h
theorem rev_len (z : Str) : (revS z).length = z.length := by show z.cps.reverse.size = z.cps.size; simp
def isDg (c : Nat) : Bool := decide (c ∈ ("0123456789" : Str).cps.toList)
theorem isDg_iff {c : Nat} : isDg c = true ↔ 48 ≤ c ∧ c ≤ 57 := by
  have e : ("0123456789" : Str).cps.toList = [48, 49, 50, 51, 52, 53, 54, 55, 56, 57] := by decide +kernel
  unfold isDg
  rw [e, decide_eq_true_iff]
  simp only [List.mem_cons, List.not_mem_nil, or_false]
  omega
def hd0 (w : Str) : Nat := w.cps.getD 0 0
def lead0 (w : Str) : Bool := w == "0" || !((⟨#[hd0 w]⟩ : Str) == "0")
def numW (w : Str) : Option Nat := if (decide (1 ≤ w.length) && decide (w.length ≤ 19) && w.cps.toList.all isDg && lead0 w) = true then some (NumText.digitsVal w.cps.toList) else none
def dW (w : Str) : D := match numW w with
  | some n => .int (n : Int)
  | none => .non
theorem int_dg {w : Str} {M : Mem} (h1 : 1 ≤ w.length) (h2 : w.length ≤ 19) (h : w.cps.toList.all isDg = true) : bIntT [.str w] M = .ok (.int ((NumText.digitsVal w.cps.toList : Nat) : Int)) M := by
  have e : intText? w = some ((NumText.digitsVal w.cps.toList : Nat) : Int) := intText_digits (fun c hc => isDg_iff.mp (List.all_eq_true.mp h c hc)) (fun h0 => by
    have := len_cps w
    rw [h0] at this
    simp at this
    omega) (by omega)
  show (match intText? w with | some n => if w.length ≤ 640 then R.ok (D.int n) M else .bad | none => .bad) = _
  rw [e]
  exact if_pos (by omega)
theorem r_ixS {z : Str} {i c : Nat} {M : Mem} (h : z.cps[i]? = some c) (hl : z.length ≤ 1000000) : oIxS (.str z) (.int (i : Int)) M = .ok (.str ⟨#[c]⟩) M := by
  have hi : i < z.length := by
    show i < z.cps.size
    exact (Array.getElem?_eq_some_iff.mp h).1
  show (if 0 ≤ (i : Int) ∧ (i : Int) < z.length ∧ z.length ≤ 1000000 then (match z.cps[((i : Int)).toNat]? with | some c => R.ok (D.str ⟨#[c]⟩) M | none => .bad) else .bad) = _
  rw [if_pos ⟨by omega, by omega, hl⟩, Int.toNat_natCast, h]
theorem ix_0 {w : Str} {M : Mem} (h1 : 1 ≤ w.length) (h2 : w.length ≤ 19) : oIxS (.str w) (.int 0) M = .ok (.str ⟨#[hd0 w]⟩) M := by
  have h0 : 0 < w.cps.size := h1
  have : w.cps[0]? = some (hd0 w) := by
    show _ = some (w.cps.getD 0 0)
    rw [Array.getElem?_eq_getElem h0, Array.getD, dif_pos h0]
    rfl
  exact r_ixS (i := 0) this (by omega)
theorem r_inS {c : Nat} {M : Mem} : oInS (.str ⟨#[c]⟩) (.str "0123456789") M = .ok (.bl (isDg c)) M := rfl
theorem r_txt' {f : ES} {b : Nat} {s : Slots} {M : Mem} : iTxt f b s M = (f b s M).bind fun x M1 => match x with
  | .str z => .ok (chrs z, []) M1
  | _ => .bad := rfl
theorem dig_comp {b : Nat} {M : Mem} {s : Slots} {e : ES} (he : e = eBin oInS (eVar 1) (eC (.str "0123456789"))) (x : Str) (hs : s.length = 2) : compL b [] M (.nm 1) tTrue e s (chrs x) M = .ok ((x.cps.toList.map isDg).map .bl) M := by
  unfold chrs
  rw [List.map_map]
  subst he
  have := comp_map (b := b) (hs := []) (M := M) (M0 := M) (t := .nm 1) (e := eBin oInS (eVar 1) (eC (.str "0123456789"))) (s := s) (ds := x.cps.toList.map fun c => D.str ⟨#[c]⟩) (fun d => match d with | .str ⟨⟨[c]⟩⟩ => .bl (isDg c) | _ => .non) (fun d hd => by
    obtain ⟨c, hc, rfl⟩ := List.mem_map.mp hd
    refine ⟨_, t_nm _ _, ?_⟩
    simp [hs, r_inS]) (fun _ h => by cases h)
  rw [List.map_map] at this
  exact this
end LW
namespace LW
open PySem L2
theorem comp_fn {α : Type} {b : Nat} {hs : List Nat} {M0 M : Mem} {t : Tg} {e : ES} {s : Slots} (f g : α → D) (hg : gdOk hs M0 M) : ∀ {as : List α}, (∀ a ∈ as, ∃ s1, bindT M t (f a) s = some s1 ∧ e b s1 M = .ok (g a) M) → compL b hs M0 t tTrue e s (as.map f) M = .ok (as.map g) M
  | [], _ => rfl
  | a :: as, h => by
    obtain ⟨s1, h1, h2⟩ := h a (by simp)
    have ih := comp_fn (b := b) (t := t) (e := e) (s := s) f g hg (as := as) fun a ha => h a (by simp [ha])
    show compL b hs M0 t tTrue e s (f a :: as.map f) M = _
    unfold compL
    simp only [h1, r_ttrue, nox_ok, bind_ok, if_true, h2]
    rw [if_pos hg, ih]
    rfl
theorem r_splitV {i : Nat} {x y : Str} {b : Nat} {s : Slots} {M : Mem} (h : s[i]? = some (some (.str x))) (hy : (y.length == 0) = false) (hl : x.length ≤ 100000) : nSplit (eVar i) (eC (.str y)) b s M = .ok ((Txt.split x y).map D.str) M := by
  unfold nSplit
  rw [r_var, h]
  simp only [bind_ok]
  show (if (y.length == 0) = false ∧ x.length ≤ 100000 then R.ok ((Txt.split x y).map D.str) M else .bad) = _
  rw [if_pos ⟨hy, hl⟩]
theorem dW_cases (w : Str) : (∃ n : Nat, dW w = .int (n : Int)) ∨ dW w = .non := by
  unfold dW
  cases numW w with
  | none => exact .inr rfl
  | some n => exact .inl ⟨n, rfl⟩
theorem dW_plain (w : Str) (k : Nat) : plainD k (dW w) = true := by
  rcases dW_cases w with ⟨n, e⟩ | e <;> rw [e] <;> cases k <;> rfl
end LW
namespace LW
open PySem PySem.Spec PyProof.Rows L2
def ItZL (K : PySem.W.Frag) (x : Str) (a2 : Addr) : It :=
  ⟨fun i H => i < x.cps.size ∧ ∃ (w2 : List V) (y : V), SqL K H a2 w2 ∧ w2[i]? = some y,
    fun i H v H' => ∃ T c y, v = .ref T ∧ H T = none ∧ H' = upd H T (.tup [.str ⟨#[c]⟩, y]) ∧ x.cps[i]? = some c ∧ (∀ w, SqL K H a2 w → w[i]? = some y),
    fun i H => i = x.cps.size ∧ ∃ w2 : List V, SqL K H a2 w2 ∧ w2.length = i⟩
theorem turn_zipL {P : Program} {w : World} {K : PySem.W.Frag} {elts : List Expr} {kk : Nat} {tpos : Pos} {z TI TO i1 i2 a2 : Addr} {x : Str} {t : Tok} (D : ApS z TI TO i1 i2 a2) :
    Turn P w K (.Tuple elts kk tpos) (ItZL K x a2) [z, TI, TO, i1, i2] z (fun i h => IsZip h z TI TO .none ∧ IsTupOf2 h TI (.ref i1) (.ref i2) ∧ (∃ a1 a2, IsTupOf2 h TO a1 a2) ∧ h.IsStrIter i1 (strIterType x) x t i ∧ h.IsListIter i2 a2 i) where
  mem := by simp
  obj := fun i h st c hc => by
    obtain ⟨hz, hTI, ⟨x, y, hTO⟩, ⟨o1, e1, _, d1⟩, ⟨o2, e2, _, d2⟩⟩ := st
    have e' : c = z ∨ c = TI ∨ c = TO ∨ c = i1 ∨ c = i2 := by simpa using hc
    rcases e' with q | q | q | q | q
    · rw [q]; exact ⟨_, hz, fun v q => nomatch q⟩
    · rw [q]; exact ⟨_, hTI, fun v q => nomatch q⟩
    · rw [q]; exact ⟨_, hTO, fun v q => nomatch q⟩
    · rw [q]; exact ⟨o1, e1, fun v q => by rw [d1] at q; cases q⟩
    · rw [q]; exact ⟨o2, e2, fun v q => by rw [d2] at q; cases q⟩
  keep := fun i h h' st k => by
    obtain ⟨hz, hTI, ⟨x, y, hTO⟩, h1, h2⟩ := st
    exact ⟨k z (by simp) _ hz, k TI (by simp) _ hTI, ⟨x, y, k TO (by simp) _ hTO⟩, (let ⟨o, e, r⟩ := h1; ⟨o, k i1 (by simp) _ e, r⟩), h2.at fun o q => k i2 (by simp) o q⟩
  item := by
    intro X hP hw hK hc i pins s σ H E I hf st hg
    subst hP hw hK
    obtain ⟨hz, hTI, hTO, h1, h2⟩ := st
    obtain ⟨hi, w2, y, hq, hy⟩ := hg
    obtain ⟨its, rv, p, _⟩ := I.list hq
    obtain ⟨u, hu, ru⟩ := rv.get hy
    have hd : X.A.in1.handled = none := I.ok.hd hc
    have D1 := Draws.text (prog := X.prog) (w := X.w) hd i1 x t
    have D2 := Draws.list (prog := X.prog) (w := X.w) hd i2 a2 D.n2 its.toArray
    have G := GoesN.zip2 (A := X.A) (elts := elts) (x1 := kk) (pos := tpos) D.S D1 D2
    have hlt : i < min x.cps.size its.toArray.size := by
      have := lt_of_get hu
      simp
      omega
    have lo : ∀ c, c ∈ [z, TI, TO, i1, i2] → c < s.heap.objs.size := fun c hcm => by
      obtain ⟨_, _, hTO⟩ := hTO
      have e' : c = z ∨ c = TI ∨ c = TO ∨ c = i1 ∨ c = i2 := by simpa using hcm
      rcases e' with q | q | q | q | q
      · rw [q]; exact Heap.lt_size hz
      · rw [q]; exact Heap.lt_size hTI
      · rw [q]; exact Heap.lt_size hTO
      · rw [q]; obtain ⟨_, e1, _⟩ := h1; exact Heap.lt_size e1
      · rw [q]; obtain ⟨_, e2, _⟩ := h2; exact Heap.lt_size e2
    refine G.goes i s (fun u s2 => ∃ x0 H', Inv X pins σ H' s2 ∧ RelV x0 u ∧ (ItZL X.K x a2).yld i H x0 H' ∧ _ ∧ ∀ b ∈ [z, TI, TO, i1, i2], H' b = none) E hlt ⟨hz, hTI, hTO, h1, h2, p.isList⟩ fun v h' tk hY st' hk htk => ?_
    obtain ⟨T, xv, yv, rfl, hTs, ⟨c, tc, hcx, rfl⟩, hyv, hT⟩ := hY
    have eyv : yv = u := by
      have : its.toArray[i]? = some u := by simpa using hu
      rw [this] at hyv
      exact (Option.some.inj hyv).symm
    subst eyv
    obtain ⟨hz', hTI', hTO', h1', h2', _⟩ := st'
    have new : ObjOk X.prog X.w (upd H T (.tup [.str ⟨#[c]⟩, y])) h' T (.tup [.str ⟨#[c]⟩, y]) := by
      obtain ⟨oT, eT, cT, nT, dT⟩ := hT
      exact ⟨by show 2 ≤ sizeLine; decide, [.str ⟨#[c]⟩ tc, yv], .cons (show L2.RelV (.str ⟨#[c]⟩) (Value.str ⟨#[c]⟩ tc) from ⟨tc, rfl⟩) (.cons ru .nil), ⟨oT, eT, cT, nT, dT⟩⟩
    have I1 : Inv X pins σ (upd H T (.tup [.str ⟨#[c]⟩, y])) { s with heap := h', toks := tk } :=
      I.turnedNew (t' := tk) (ch := [z, TI, TO, i1, i2]) (fun b o hb q => hk b o (fun z' => hb (by
        rcases (by simpa using z' : b = z ∨ b = TO ∨ b = i1 ∨ b = i2) with rfl | rfl | rfl | rfl <;> simp)) q) hf hTs new
    refine ⟨.ref T, _, I1, rfl, ⟨T, c, y, rfl, I.hok.fresh hTs, rfl, hcx, fun l hl => by rw [I.list_inj hl hq]; exact hy⟩, ⟨hz', hTI', hTO', h1', h2'⟩, fun b hb => ?_⟩
    have := lo b hb
    rw [upd_ne (Nat.ne_of_lt (Nat.lt_of_lt_of_le this hTs))]
    exact (hf b hb).1
  done := by
    intro X hP hw hK hc i pins s σ H E I hf st hg
    subst hP hw hK
    obtain ⟨hz, hTI, hTO, h1, h2⟩ := st
    obtain ⟨rfl, w2, hq, hl⟩ := hg
    obtain ⟨its, rv, p, _⟩ := I.list hq
    have lv := rv.length
    have hd : X.A.in1.handled = none := I.ok.hd hc
    have D1 := Draws.text (prog := X.prog) (w := X.w) hd i1 x t
    have D2 := Draws.list (prog := X.prog) (w := X.w) hd i2 a2 D.n2 its.toArray
    have G := GoesN.zip2 (A := X.A) (elts := elts) (x1 := kk) (pos := tpos) D.S D1 D2
    have e : min x.cps.size its.toArray.size = x.cps.size := by simp; omega
    refine G.stops s _ E (by rw [e]; exact ⟨hz, hTI, hTO, h1, h2, p.isList⟩) fun h' tk hk htk => I.turnedL (t' := tk) (ch := [z, TI, TO, i1, i2]) (fun b o hb q => hk b o (fun z' => hb (by
      rcases (by simpa using z' : b = z ∨ b = TO ∨ b = i1 ∨ b = i2) with rfl | rfl | rfl | rfl <;> simp)) q) hf
  self := fun A i s Q E st h => wpAny_pyIter_zip st.1 h
def tiZipL (K : PySem.W.Frag) (ta : TA) : TI := fun σ H R => ta σ H fun vs H1 => ∃ (x : Str) (a2 : Addr) (w2 : List V), vs = [.str x, .ref a2] ∧ SqL K H1 a2 w2 ∧ R (ItZL K x a2) H1
theorem pi_zipL {X : Cx} {e1 e2 : Expr} {ta : TA} {p pos tpos : Pos} {elts : List Expr} {kk : Nat} (hg : Gl X "zip") (hm : X.mg "zip" = none) (ha : PA X [e1, e2] ta)
    (hs : starEach [e1, e2] X.env = (false, eval e1 X.env) :: starEach [e2] X.env := by rfl) (hpl : (backTo pos (starEach [e2] X.env)).any (·.1) = false := by rfl) :
    PI X (.Tuple elts kk tpos) (.Call (.Name "zip" p) [e1, e2] [] pos) (tiZipL X.K ta) := by
  refine ⟨fun pins s σ H R I h => ?_⟩
  refine Call_ (ld_blt I hg hm PyProof.Rows.boot_zip (PyProof.Rows.callWith_type1 (thn (ha.run pos pins s σ H _ I h) fun us s1 ⟨vs, H1, I1, r1, q1⟩ => ?_) hs hpl))
  obtain ⟨x, a2, w2, ex, hq, q⟩ := q1
  subst ex
  cases r1 with
  | cons r rr =>
    cases rr with
    | cons r' rr =>
      cases rr
      cases r'
      obtain ⟨t, rfl⟩ := r
      obtain ⟨its, rv, p', _⟩ := I1.list hq
      have la : a2 < s1.heap.objs.size := by
        obtain ⟨o, n, e, _⟩ := p'
        exact Heap.lt_size e
      refine zip_begins2 (begins_text x t) (begins_list a2 its.toArray) trivial p'.isList fun h' hz hTI hTO e1 e2 hsz hk => wpAny_pyIter_zip hz ?_
      have I2 : Inv X pins σ H1 { s1 with heap := h' } := I1.kept (t' := s1.toks) hk
      obtain ⟨N, hN⟩ : ∃ N, N = s1.heap.objs.size := ⟨_, rfl⟩
      rw [← hN] at hz hTI hTO e1 e2 la
      have D : ApS (N + 4) (N + 2) (N + 3) N (N + 1) a2 := ⟨zip_sep2 (fp1 := []) (fp2 := [a2]) (by simp) (by simpa using la), Nat.ne_of_lt (Nat.lt_succ_of_lt la)⟩
      have fr : ∀ c, c ∈ [N + 4, N + 2, N + 3, N, N + 1] → FpOk X pins H1 c := fun c hcm => by
        have hle : s1.heap.objs.size ≤ c := by
          rw [← hN]
          simp only [List.mem_cons, List.not_mem_nil, or_false] at hcm
          rcases hcm with z | z | z | z | z <;> (rw [z]; first | exact Nat.le_refl _ | exact Nat.le_add_right _ _)
        exact I1.fpOk hle (I1.hok.fresh hle)
      rw [← hN]
      exact ⟨N + 4, [N + 4, N + 2, N + 3, N, N + 1], _, _, H1, rfl, I2, turn_zipL (t := t) D, ⟨hz, hTI, ⟨.none, .none, hTO⟩, ⟨_, e1, rfl, rfl⟩, ⟨_, e2, rfl, rfl⟩⟩, fr, q⟩
def iZipL (f : EA) : EI := fun b s M => (f b s M).bind fun ds M1 => match ds with
  | [.str x, .lst ys] => if x.cps.size = ys.length then .ok (zipD (chrs x) ys, []) M1 else .bad
  | _ => .bad
section
variable {X : Cx} {Z : WX} {fs : EA} {f : ES} {e tg : Expr}
theorem si_zipL' {e1 e2 : Expr} {p pos tpos : Pos} {elts : List Expr} {kk : Nat} (hg : Gl X "zip") (hm : X.mg "zip" = none) (ha : SA X Z [e1, e2] fs)
    (hs : starEach [e1, e2] X.env = (false, eval e1 X.env) :: starEach [e2] X.env := by rfl) (hpl : (backTo pos (starEach [e2] X.env)).any (·.1) = false := by rfl) :
    SI X Z (.Tuple elts kk tpos) (.Call (.Name "zip" p) [e1, e2] [] pos) (iZipL fs) := by
  refine (pi_zipL hg hm ha hs hpl).weak fun σ H R ⟨W, s, M, m, sr, po⟩ => ?_
  refine ⟨W, s, M, m, sr, (Post.bind po).imp fun ds M1 W1 H1 x1 m1 p1 vs rvs => ?_⟩
  split at p1
  · rename_i x ys
    split at p1
    · rename_i hl
      obtain ⟨v, v', rfl, rv, rv'⟩ := rds2 rvs
      cases rv
      cases rv' with
      | lst ht hr =>
        rename_i a vs
        have lv := hr.length
        refine ⟨x, a, vs, rfl, ht.sq, Post.here (a := (zipD (chrs x) ys, [])) p1 m1 _ ⟨fun i W H M hi x0 mm g => ?_, fun W H M x0 mm g => ?_, fun i W H M z H' hi x0 mm g yl => ?_⟩⟩
        · have r2 := (RD.lst ht hr).mono x0
          cases r2 with
          | lst ht2 hr2 =>
            rename_i vs2
            have l2 := hr2.length
            have hi : i < (zipD (chrs x) ys).length := hi
            rw [zipD_len, chrs_len] at hi
            have h2 : i < vs2.length := by omega
            exact ⟨by omega, vs2, vs2[i], ht2.sq, by simp [h2]⟩
        · have r2 := (RD.lst ht hr).mono x0
          cases r2 with
          | lst ht2 hr2 =>
            rename_i vs2
            have l2 := hr2.length
            refine ⟨?_, vs2, ht2.sq, ?_⟩
            · show (zipD (chrs x) ys).length = x.cps.size
              rw [zipD_len, chrs_len]
              omega
            · show vs2.length = (zipD (chrs x) ys).length
              rw [zipD_len, chrs_len]
              omega
        · have r2 := (RD.lst ht hr).mono x0
          cases r2 with
          | lst ht2 hr2 =>
            rename_i vs2
            obtain ⟨T, c, y, rfl, hT, eH, hc, hy⟩ := yl
            obtain ⟨d2, hd2, rd2⟩ := hr2.getV (hy _ ht2.sq)
            have hp := wd_pair (ds := [.str ⟨#[c]⟩, d2]) mm hT eH (.cons (.str _) (.cons rd2 .nil))
            exact ⟨_, zipD_get (chrs_get hc) hd2, hp.1, hp.2⟩
    · exact p1.elim
  · exact p1.elim
end
end LW
namespace LW
open PySem PySem.Spec PyProof.Rows L2
def eGet2GN (kvs : List (Str × GV)) (f g : ES) : ES := fun b s M => (f b s M).bind fun x M1 => match x with
  | .str z => (g b s M1).bind fun y M2 => (match kvs.lookup z with
    | some v => .ok (gvD v) M2
    | none => .ok y M2)
  | _ => .bad
def tKGet2 (K : PySem.W.Frag) (d : Addr) (ty tx : TE) : TE := fun σ H Q => ty σ H fun y H2 => tx σ H2 fun z H3 => ∃ (k : Str) (r : Option Value) (o : Option V), y = .str k ∧ PySem.W.nsIn K d k = some r ∧ (match o, r with | some v, some u => RelV v u | none, none => True | _, _ => False) ∧ Q (o.getD z) H3
theorem pe_kget2 {X : Cx} {e f : Expr} {apos cpos p : Pos} {x : Str} {d : Addr} {es : Array DictEntry} {n : Nat} {ty tx : TE} (hg : Gl X x) (hm : X.mg x = some (.ref d)) (KD : KDict X.K X.w d es n) (hx : (x == ("__debug__" : Str)) = false) (he : PE X e ty) (hf : PE X f tx) (m : M2 X (.Name x p) "get" apos e f cpos) :
    PE X (.Call (.Attribute (.Name x p) "get" apos) [e, f] [] cpos) (tKGet2 X.K d ty tx) := by
  refine ⟨fun pins s σ H Q I h => ?_⟩
  refine wpAny_Call_method m.base m.few m.line PySem.F.plainAttrs_dict PySem.F.slot_dict_get PySem.F.type_dict_get (thn ((pe_glob (X := X) (v := .ref d) hg hm rfl hx).run pins s σ H (fun v H' => v = .ref d ∧ H' = H) I ⟨rfl, rfl⟩) fun u s1 ⟨xv, H1, I1, rx, ex, eH⟩ => ?_)
  subst ex eH
  obtain rfl : u = Value.ref d := rx
  have hmap := PySem.W.mapOf_K (prog := X.prog) (w := X.w) I1.kIn KD.at_ KD.lit
  refine ⟨hmap.typeIs, fun b q => ?_, ?_⟩
  · cases q
    exact ⟨_, I1.kIn _ _ KD.at_, rfl⟩
  · rw [m.trees]
    refine Calls.callWith_builtin rfl (Calls.evalArgs_plain (Calls.spliced_cons (thn (he.run pins s1 σ H1 _ I1 h) fun iv s2 ⟨y, H2, I2, ry, q2⟩ =>
      Calls.spliced_cons (thn (hf.run pins s2 σ H2 _ I2 q2) fun fv s3 ⟨z, H3, I3, rz, k, r, o, ey, hn, ho, q3⟩ => Calls.spliced_nil ?_))))
    subst ey
    obtain ⟨t, rfl⟩ := ry
    have hmap3 := PySem.W.mapOf_K (prog := X.prog) (w := X.w) I3.kIn KD.at_ KD.lit
    refine call_meetsIn PySem.F.slot_dict_get hmap3.typeIs PySem.F.entry_dict_get (PySem.F.args_dict_get_3 _ _ _) (meets_dict_get_default (strKind X.prog X.w) d (strKind_is X.prog X.w k t) KD.low fv) ⟨_, hmap3, ?_⟩
    rw [PySem.W.find_K KD.at_ hn]
    refine ⟨o.getD z, H3, I3.tok _, ?_, q3⟩
    cases o with
    | none =>
      cases r with
      | none => exact rz
      | some u => exact ho.elim
    | some v =>
      cases r with
      | none => exact ho.elim
      | some u => exact ho
section
variable {X : Cx} {Z : WX} {pos apos p : Pos} {a b o i j : Expr} {f g h : ES} {x : Str} {kvs : List (Str × GV)} {k : Nat}
theorem se_get2GN (hg : Gl X x) (T : GdN X.w X.K X.mg x kvs) (ha : SE X Z a f) (hb : SE X Z b g) (hd : (x == ("__debug__" : Str)) = false := by decide) (mm : M2 X (.Name x p) "get" apos a b pos := by constructor <;> rfl) :
    SE X Z (.Call (.Attribute (.Name x p) "get" apos) [a, b] [] pos) (eGet2GN kvs f g) := by
  obtain ⟨d, es, n, hm, KD, ns⟩ := T.ex
  refine (pe_kget2 hg hm KD hd ha hb mm).weak fun σ H Q ⟨W, s, M, m, sr, po⟩ => ?_
  refine ⟨W, s, M, m, sr, (Post.bind po).imp fun y M1 W1 H1 x1 m1 p1 v rv => ?_⟩
  cases rv with
  | str z =>
    have p1 : Post (gm X) Z σ H1 W1 ((g W.b s M1).bind fun y M2 => (match kvs.lookup z with | some v => R.ok (gvD v) M2 | none => .ok y M2)) _ := p1
    refine ⟨W1, s, M1, m1, sr.mono x1.toLe, ?_⟩
    rw [x1.b]
    refine (Post.bind p1).imp fun y2 M2 W2 H2 x2 m2 p2 u ru => ?_
    obtain ⟨r, n1, n2⟩ := ns z
    cases hz : kvs.lookup z with
    | none =>
      rw [hz] at n2 p2
      have n2 : r = none := n2
      subst n2
      exact ⟨z, none, none, rfl, n1, trivial, Post.here p2 m2 u ru⟩
    | some gv =>
      rw [hz] at n2 p2
      cases gv with
      | inl i =>
        obtain ⟨t, rfl⟩ := n2
        exact ⟨z, _, some (.int i), rfl, n1, ⟨t, rfl⟩, Post.here p2 m2 _ (.int i)⟩
      | inr ss =>
        obtain ⟨t, rfl, kt⟩ := n2
        exact ⟨z, _, some (.ref t), rfl, n1, rfl, Post.here p2 m2 _ (.tup (.inr kt) (rds_strs ss))⟩
  | _ => exact (show False from p1).elim
def eDget2 (f g h : ES) : ES := fun b s M => (f b s M).bind fun x M1 => match dctOf M1 x with
  | some _ => (g b s M1).bind fun y M2 => (h b s M2).bind fun z M3 => (match keyOf y, dctOf M3 x with
    | some k, some p => .ok ((valD k p.1 p.2).getD z) M3
    | _, _ => .bad)
  | none => .bad
theorem se_dget2 (hr : Room k X.A) (ho : SE X Z o f) (hi : SE X Z i g) (hj : SE X Z j h) (mm : M2 X o "get" apos i j pos := by constructor <;> rfl) : SE X Z (.Call (.Attribute o "get" apos) [i, j] [] pos) (eDget2 f g h) := by
  have hu : X.A.units + 1 < cLine := by have := hr.un; omega
  refine (pe_dget2 hu ho hi hj mm).weak fun σ H Q ⟨W, s, M, m, sr, po⟩ => ?_
  refine ⟨W, s, M, m, sr, (Post.bind po).imp fun x M1 W1 H1 x1 m1 p1 v rv => ?_⟩
  split at p1
  · rename_i p0 hp0
    obtain ⟨a, vs0, rfl, r0, _, _⟩ := dct_read (ks := p0.1) (ds := p0.2) m1 hp0 rv
    refine ⟨a, rfl, .inl ⟨_, r0⟩, ?_⟩
    refine ⟨W1, s, M1, m1, sr.mono x1.toLe, ?_⟩
    rw [x1.b]
    refine (Post.bind p1).imp fun y M2 W2 H2 x2 m2 p2 w rw' => ?_
    refine ⟨W2, s, M2, m2, (sr.mono x1.toLe).mono x2.toLe, ?_⟩
    have b2 : W2.b = W.b := x2.b.trans x1.b
    rw [b2]
    refine (Post.bind p2).imp fun z M3 W3 H3 x3 m3 p3 u ru => ?_
    split at p3
    · rename_i kk pp hk hp
      obtain ⟨a', vs, ea, h1, h2, h3⟩ := dct_read (ks := pp.1) (ds := pp.2) m3 hp ((rv.mono x2.toLe).mono x3.toLe)
      cases ea
      refine ⟨valV (pp.1.zip vs) kk, .inl ⟨_, kk, h1, key_rd hk (rw'.mono x3.toLe), rfl⟩, ?_⟩
      cases hv : valD kk pp.1 pp.2 with
      | some d =>
        obtain ⟨w, hw, rw'⟩ := val_rd h3 hv
        rw [hw]
        rw [hv] at p3
        exact Post.here p3 m3 w rw'
      | none =>
        rw [(valD_rd h2 h3).2 hv]
        rw [hv] at p3
        exact Post.here p3 m3 u ru
    · exact p3.elim
  · exact p1.elim
end
end LW
namespace LW
open PySem L2
def SO (x : Str) : Prop := PySem.PyData.strOk x = true
theorem so_iff {x : Str} : SO x ↔ ∀ c ∈ x.cps.toList, c < 0x110000 := by
  unfold SO PySem.PyData.strOk
  rw [← Array.all_toList, List.all_eq_true]
  constructor
  · intro h c hc
    exact of_decide_eq_true (h c hc)
  · intro h c hc
    exact decide_eq_true (h c hc)
theorem spl_chars {S : List Nat} : ∀ (l : List Nat) (k : Nat) (acc p : List Nat), p ∈ TL.spl S k acc l → ∀ c ∈ p, c ∈ acc ∨ c ∈ l
  | [], k, acc, p, h, c, hc => by
    rw [TL.spl_nil] at h
    have : p = acc := by simpa using h
    subst this
    exact .inl hc
  | d :: r, 0, acc, p, h, c, hc => by
    cases hp : TL.pre S (d :: r) with
    | true =>
      rw [TL.spl_hit hp] at h
      rcases List.mem_cons.mp h with rfl | h
      · exact .inl hc
      · rcases spl_chars r _ _ p h c hc with h | h
        · cases h
        · exact .inr (List.mem_cons_of_mem _ h)
    | false =>
      rw [TL.spl_miss hp] at h
      rcases spl_chars r _ _ p h c hc with h | h
      · rcases List.mem_append.mp h with h | h
        · exact .inl h
        · exact .inr (by have : c = d := by simpa using h
                         subst this
                         exact List.mem_cons_self ..)
      · exact .inr (List.mem_cons_of_mem _ h)
  | d :: r, k + 1, acc, p, h, c, hc => by
    rcases spl_chars r k acc p h c hc with h | h
    · exact .inl h
    · exact .inr (List.mem_cons_of_mem _ h)
theorem split_so {x y : Str} (hy : TL.tl y ≠ []) (hk : y.cps.all (· < 256) = true) (hx : SO x) {w : Str} (h : w ∈ Txt.split x y) : SO w := by
  have e := TL.split_spl x y hy (TL.kind_ok hk)
  have : TL.tl w ∈ TL.spl (TL.tl y) 0 [] (TL.tl x) := by
    rw [← e]
    exact List.mem_map_of_mem h
  rw [so_iff] at hx ⊢
  intro c hc
  rcases spl_chars _ _ _ _ this c hc with h | h
  · cases h
  · exact hx c h
theorem app_so {x y : Str} (hx : SO x) (hy : SO y) : SO (x ++ y) := by
  rw [so_iff] at *
  intro c hc
  have : c ∈ x.cps.toList ++ y.cps.toList := by
    have e : (x ++ y).cps.toList = x.cps.toList ++ y.cps.toList := TL.tl_append x y
    rw [e] at hc
    exact hc
  rcases List.mem_append.mp this with h | h
  · exact hx c h
  · exact hy c h
theorem cut_so {x : Str} {lo hi : Option Int} (hx : SO x) : SO (cutS x lo hi) := by
  rw [so_iff] at *
  intro c hc
  refine hx c ?_
  have : c ∈ ((x.cps.toList.drop (HT.sIx x.length 0 lo)).take (HT.sIx x.length x.length hi - HT.sIx x.length 0 lo)) := by
    unfold cutS at hc
    rw [List.toList_toArray] at hc
    exact hc
  exact List.mem_of_mem_drop (List.mem_of_mem_take this)
theorem rev_so {x : Str} (hx : SO x) : SO (revS x) := by
  rw [so_iff] at *
  intro c hc
  refine hx c ?_
  unfold revS at hc
  simpa using hc
theorem join_so {y : Str} {ps : List Str} (hy : SO y) (h : ∀ p ∈ ps, SO p) : SO (Txt.join y ps) := by
  rw [TL.join_eq]
  induction ps with
  | nil => show PySem.PyData.strOk Str.empty = true; decide +kernel
  | cons p ps ih =>
    cases ps with
    | nil => exact h p (by simp)
    | cons q qs => exact app_so (app_so (h p (by simp)) hy) (ih fun z hz => h z (by simp [hz]))
theorem sign_so {z : Str} (hz : SO z) {i c : Nat} (h : z.cps[i]? = some c) : SO ⟨#[c]⟩ := by
  rw [so_iff] at *
  intro d hd
  have : d = c := by simpa using hd
  subst this
  refine hz d ?_
  rw [Array.mem_toList_iff]
  exact Array.mem_of_getElem? h
theorem sadd {y z : Str} {M : Mem} (hl : y.length + z.length ≤ 1000000) : oAdd (.str y) (.str z) M = .ok (.str (y ++ z)) M := by
  show (if _ then _ else _) = _
  rw [if_pos hl]
theorem app_len (y z : Str) : (y ++ z).length = y.length + z.length := by
  show (y.cps ++ z.cps).size = _
  rw [Array.size_append]
  rfl
theorem r_cutS {f : ES} {l u : EP'} {b : Nat} {s : Slots} {M M1 M2 M3 : Mem} {x : Str} {lo hi : Option Int} (h : f b s M = .ok (.str x) M1) (hl : l b s M1 = .ok lo M2) (hu : u b s M2 = .ok hi M3) (h0 : x.length ≤ 1000000) : eCutS f l u b s M = .ok (.str (cutS x lo hi)) M3 := by
  unfold eCutS
  rw [h]
  simp only [bind_ok, hl, hu]
  rw [if_pos h0]
theorem r_revS {z : Str} {M : Mem} (h : z.length ≤ 1000000) : oRevS (.str z) M = .ok (.str (revS z)) M := if_pos h
end LW
namespace LW
open PySem PySem.Spec PyProof.Rows L2
def topS (i : Nat) : Stmt := PySem.Challenge.pw_liftwater_k50_texts_of_trips.main.body.getD i (.Pass ⟨0, 0, 0, 0⟩)
def clsS (i j : Nat) : Stmt := match topS i with
  | .ClassDef _ _ _ body _ _ _ _ _ _ _ => body.getD j (.Pass ⟨0, 0, 0, 0⟩)
  | s => s
abbrev s_BadText_ini : Stmt := clsS 1 0
theorem sc_BadText_ini : FnScope ["self", "what"] ["self", "what"] (defScope s_BadText_ini) := ⟨rfl, rfl, rfl, by decide +kernel, rfl, by decide +kernel, by decide +kernel⟩
section
variable {P : Program} {w : World} {K : PySem.W.Frag} {mg : Str → Option Value} {base : Heap}
theorem ok_BadText_ini {CC fa : Addr} {fd : FuncData} (F : Fun K "__init__" "BadText.__init__" s_BadText_ini fa fd) (hm : mg "BadText" = some (.ref CC)) (T : OexB K "ValueError" "ValueError.__new__" CC) (hw : PySem.W.findIn K (.ref CC) "what" = some none) (iC : PySem.W.findIn K (.ref CC) "__init__" = some (some (.ref fa))) (tI : PySem.W.typeIn K (.ref fa) = some (.type "function"))
   (z : mg "ValueError" = none) (vV : PySem.W.findCls K (.type "ValueError") (.type "type") "__init__" = some (.val (.builtin "ValueError.__init__"))) : CalE P w K mg base "BadText" "ValueError" "ValueError.__new__" "ValueError.__init__" := by
  refine ⟨CC, fa, fd, hm, exB_V, T, hw, iC, tI, fng (k := 0) F sc_BadText_ini (fun vs H Q E ⟨a, C, v, e, _⟩ => by rw [e]; rfl) fun cdv A outer s H vs Q E hr hgd h => ?_, F.binds (ps := ["self", "what"]) fun _ _ _ _ _ _ us hl => match us, hl with | [_, _], _ => rfl⟩
  obtain ⟨a, C, v, rfl, T, hw, ha, q⟩ := h
  exact ⟨_, pss_cons (ps_expr (pe_binit exB_V rfl z (by rfl) vV (pa_cons (pv 0) (pa_cons pe_str pa_nil)) (hn1 := by decide) (hn2 := by decide))) (pss_one (ps_osB exB_V (pv 0) (pv 1))), .ref a, rfl, a, C, [.str _], rfl, by simp, T, ha, v, rfl, .ref a, rfl, a, C, rfl, T, hw, ha, q⟩
end
abbrev s_law_folded : Stmt := topS 23
theorem sc_law_folded : FnScope ["_law_script", "_law_size", "_law_cells_here", "_law_k", "_law_cell"] ["_law_script", "_law_size"] (defScope s_law_folded) := ⟨rfl, rfl, rfl, by decide +kernel, rfl, by decide +kernel, by decide +kernel⟩
section
variable {P : Program} {w : World} {K : PySem.W.Frag} {mg : Str → Option Value} {base : Heap}
theorem ok_law_folded {fa : Addr} {fd : FuncData} (F : Fun K "_law_folded" "_law_folded" s_law_folded fa fd) (hm : mg "_law_folded" = some (.ref fa)) (z_list : mg "list" = none) (z_enumerate : mg "enumerate" = none) : Cal P w K mg base 1 "_law_folded" ["_law_script", "_law_size"] f_law_folded := by
  refine ⟨fa, fd, fn_by (k := 0) false 2 5 b_law_folded rfl F sc_law_folded rfl rfl fun cdv A outer s H E hr hgd => ?_, hm, F.kp, F.binds (ps := ["_law_script", "_law_size"]) fun _ _ _ _ _ _ us hl => match us, hl with | [_, _], _ => rfl⟩
  have S := sc_law_folded
  unfold b_law_folded
  exact sb_cons (sx_set 2 S.nd (se_thw (sn_list (by rfl) z_list (sa_cons (se_cut (sv 0) (sp_no) (sp_of (sv 1))) (sa_nil)))))
        (sb_cons (sx_for PassesOwn.never rfl (si_enum (by rfl) z_enumerate (sa_cons (se_cut (sv 0) (sp_of (sv 1)) (sp_of (se_int))) (sa_nil))) (sg_tup rfl (sgs_cons (sg_nm 3 S.nd) (sgs_cons (sg_nm 4 S.nd) (sgs_nil)))) (sb_one (sx_asg (se_add (se_ix (sv 2) (se_mod (sv 3) (sv 1))) (se_mul (sv 4) (se_add (sv 3) (se_int)))) (tg_ix (sv 2) (se_mod (sv 3) (sv 1))))))
        (sb_one (sx_ret (sv 2))))
end
abbrev s_law_cells : Stmt := topS 24
theorem sc_law_cells : FnScope ["_law_script", "_law_size", "_law_cells_here"] ["_law_script", "_law_size"] (defScope s_law_cells) := ⟨rfl, rfl, rfl, by decide +kernel, rfl, by decide +kernel, by decide +kernel⟩
section
variable {P : Program} {w : World} {K : PySem.W.Frag} {mg : Str → Option Value} {base : Heap}
theorem ok_law_cells {fa : Addr} {fd : FuncData} (F : Fun K "_law_cells" "_law_cells" s_law_cells fa fd) (hm : mg "_law_cells" = some (.ref fa)) (c_law_folded : Cal P w K mg base 1 "_law_folded" ["_law_script", "_law_size"] f_law_folded) : Cal P w K mg base 2 "_law_cells" ["_law_script", "_law_size"] f_law_cells := by
  refine ⟨fa, fd, fn_by (k := 1) false 2 3 b_law_cells rfl F sc_law_cells rfl rfl fun cdv A outer s H E hr hgd => ?_, hm, F.kp, F.binds (ps := ["_law_script", "_law_size"]) fun _ _ _ _ _ _ us hl => match us, hl with | [_, _], _ => rfl⟩
  have S := sc_law_cells
  unfold b_law_cells b_law_cells_s2 b_law_cells_s1
  exact sb_cons (sx_set 2 S.nd (se_cal c_law_folded hr hgd (sa_cons (sv 0) (sa_cons (sv 1) (sa_nil))) (by omega)))
        (sb_one (sx_ret (se_if (st_ne hr (sv 2) (se_frz (sn_lst (sa_nil)))) (sv 2) (se_frz (sn_lst (sa_cons (se_int) (sa_nil)))))))
end
abbrev s_law_take : Stmt := topS 22
theorem sc_law_take : FnScope ["_law_box_here", "_law_size", "_law_found", "_law_step", "_law_once", "_law_twice"] ["_law_box_here", "_law_size"] (defScope s_law_take) := ⟨rfl, rfl, rfl, by decide +kernel, rfl, by decide +kernel, by decide +kernel⟩
section
variable {P : Program} {w : World} {K : PySem.W.Frag} {mg : Str → Option Value} {base : Heap}
theorem ok_law_take {fa : Addr} {fd : FuncData} (F : Fun K "_law_take" "_law_take" s_law_take fa fd) (hm : mg "_law_take" = some (.ref fa)) (z_divmod : mg "divmod" = none) : ∀ n : Nat, Cal P w K mg base (0 + n) "_law_take" ["_law_box_here", "_law_size"] (f_law_take n)
  | 0 => ⟨fa, fd, fn_no fun _ _ => rfl, hm, F.kp, F.binds (ps := ["_law_box_here", "_law_size"]) fun _ _ _ _ _ _ us hl => match us, hl with | [_, _], _ => rfl⟩
  | n + 1 => by
    have self := ok_law_take F hm z_divmod n
    refine ⟨fa, fd, fn_by (k := 0 + n) false 2 6 (b_law_take (f_law_take n)) rfl F sc_law_take rfl rfl fun cdv A outer s H E hr hgd => ?_, hm, F.kp, F.binds (ps := ["_law_box_here", "_law_size"]) fun _ _ _ _ _ _ us hl => match us, hl with | [_, _], _ => rfl⟩
    have S := sc_law_take
    unfold b_law_take
    exact sb_cons (sx_if (st_gt (se_ix (sv 0) (se_int)) (se_int)) (sb_cons (sx_asg (se_divmod (by rfl) z_divmod (sa_cons (se_ix (sv 0) (se_int)) (sa_cons (sv 1) (sa_nil)))) (tg_tup rfl (tgs_cons (tg_ix (sv 0) (se_int)) (tgs_cons (tg_of (sg_nm 2 S.nd)) (tgs_nil))) (gl_cons (gl_cons (gl_nil)))))
        (sb_one (sx_ret (sv 2)))) (sb_nil))
        (sb_cons (sx_if (st_gt (sv 1) (se_pow (se_int) (se_int))) (sb_one (sx_ret (se_mod (se_add (se_cal self hr hgd (sa_cons (sv 0) (sa_cons (se_pow (se_int) (se_int)) (sa_nil))) (by omega)) (se_mul (se_pow (se_int) (se_int)) (se_cal self hr hgd (sa_cons (sv 0) (sa_cons (se_add (se_div (se_sub (sv 1) (se_int)) (se_pow (se_int) (se_int))) (se_int)) (sa_nil))) (by omega)))) (sv 1)))) (sb_nil))
        (sb_cons (sx_asg (se_add (se_ix (sv 0) (se_int)) (se_int)) (tg_ix (sv 0) (se_int)))
        (sb_cons (sx_set 3 S.nd (se_add (se_int) (se_mul (se_ix (sv 0) (se_int)) (se_ix (sv 0) (se_int)))))
        (sb_cons (sx_set 4 S.nd (se_mod (se_mul (se_add (se_ix (sv 0) (se_int)) (se_mul (se_int) (se_ix (sv 0) (se_int)))) (sv 3)) (se_int)))
        (sb_cons (sx_set 5 S.nd (se_mod (se_add (se_mul (sv 4) (se_add (se_mod (sv 4) (se_int)) (se_int))) (se_ix (sv 0) (se_int))) (se_int)))
        (sb_one (sx_ret (se_mod (se_div (se_mod (se_mul (sv 5) (se_add (se_mod (sv 5) (se_int)) (se_int))) (se_int)) (se_int)) (sv 1)))))))))
end
abbrev s_law_great : Stmt := topS 28
theorem sc_law_great : FnScope ["_law_box_here"] ["_law_box_here"] (defScope s_law_great) := ⟨rfl, rfl, rfl, by decide +kernel, rfl, by decide +kernel, by decide +kernel⟩
section
variable {P : Program} {w : World} {K : PySem.W.Frag} {mg : Str → Option Value} {base : Heap}
theorem ok_law_great {fa : Addr} {fd : FuncData} (F : Fun K "_law_great" "_law_great" s_law_great fa fd) (hm : mg "_law_great" = some (.ref fa)) (c_law_take : Cal P w K mg base 8 "_law_take" ["_law_box_here", "_law_size"] (f_law_take 8)) : Cal P w K mg base 9 "_law_great" ["_law_box_here"] f_law_great := by
  refine ⟨fa, fd, fn_by (k := 8) false 1 1 b_law_great rfl F sc_law_great rfl rfl fun cdv A outer s H E hr hgd => ?_, hm, F.kp, F.binds (ps := ["_law_box_here"]) fun _ _ _ _ _ _ us hl => match us, hl with | [_], _ => rfl⟩
  have S := sc_law_great
  unfold b_law_great
  exact sb_one (sx_ret (se_ix (se_frz (sn_lst (sa_cons (se_int) (sa_cons (se_int) (sa_cons (se_int) (sa_cons (se_pow (se_int) (se_int)) (sa_cons (se_pow (se_int) (se_int)) (sa_nil)))))))) (se_cal c_law_take hr hgd (sa_cons (sv 0) (sa_cons (se_int) (sa_nil))) (by omega))))
end
abbrev s_law_stair : Stmt := topS 29
theorem sc_law_stair : FnScope ["_law_box_here", "_law_cap", "_law_by", "_law_found", "_law_pound", "_law_least", "_law_wide", "_law_size"] ["_law_box_here", "_law_cap", "_law_by"] (defScope s_law_stair) := ⟨rfl, rfl, rfl, by decide +kernel, rfl, by decide +kernel, by decide +kernel⟩
section
variable {P : Program} {w : World} {K : PySem.W.Frag} {mg : Str → Option Value} {base : Heap}
theorem ok_law_stair {fa : Addr} {fd : FuncData} (F : Fun K "_law_stair" "_law_stair" s_law_stair fa fd) (hm : mg "_law_stair" = some (.ref fa)) (z_range : mg "range" = none) (z_tuple : mg "tuple" = none) (c_law_take : Cal P w K mg base 8 "_law_take" ["_law_box_here", "_law_size"] (f_law_take 8)) : Cal P w K mg base 9 "_law_stair" ["_law_box_here", "_law_cap", "_law_by"] f_law_stair := by
  refine ⟨fa, fd, fn_by (k := 8) false 3 8 b_law_stair rfl F sc_law_stair rfl rfl fun cdv A outer s H E hr hgd => ?_, hm, F.kp, F.binds (ps := ["_law_box_here", "_law_cap", "_law_by"]) fun _ _ _ _ _ _ us hl => match us, hl with | [_, _, _], _ => rfl⟩
  have S := sc_law_stair
  unfold b_law_stair b_law_stair_s3 b_law_stair_l1 b_law_stair_s2 b_law_stair_s1
  exact sb_cons (sx_set 3 S.nd (se_thw (sn_lst (sa_nil))))
        (sb_cons (sx_for PassesOwn.never rfl (si_range1 (by rfl) z_range (sa_cons (se_add (se_int) (se_cal c_law_take hr hgd (sa_cons (sv 0) (sa_cons (sv 1) (sa_nil))) (by omega))) (sa_nil))) (sg_nm 4 S.nd) (sb_cons (sx_par3 5 6 7 rfl S.nd (sa_cons (se_cal c_law_take hr hgd (sa_cons (sv 0) (sa_cons (se_int) (sa_nil))) (by omega)) (sa_cons (se_cal c_law_take hr hgd (sa_cons (sv 0) (sa_cons (se_ix (se_frz (sn_lst (sa_cons (se_int) (sa_cons (se_int) (sa_cons (se_int) (sa_nil)))))) (se_cal c_law_take hr hgd (sa_cons (sv 0) (sa_cons (se_int) (sa_nil))) (by omega))) (sa_nil))) (by omega)) (sa_cons (se_add (se_int) (se_cal c_law_take hr hgd (sa_cons (sv 0) (sa_cons (se_int) (sa_nil))) (by omega))) (sa_nil)))))
        (sb_one (sx_expr (se_append (sv 3) (sa_cons (se_tup (sa_cons (se_mul (sv 5) (sv 2)) (sa_cons (se_mul (se_add (sv 5) (sv 6)) (sv 2)) (sa_cons (se_mul (sv 7) (sv 2)) (sa_nil))))) (sa_nil)))))))
        (sb_one (sx_ret (se_tuple (by rfl) z_tuple (sa_cons (sv 3) (sa_nil))))))
end
abbrev s_law_names : Stmt := topS 27
theorem sc_law_names : FnScope ["_law_box_here", "_law_many", "_law_letters", "_law_first", "_law_found", "_law_stem", "_law_step", "_law_longer", "_law_k", "_law_sign", "_law_turn"] ["_law_box_here", "_law_many"] (defScope s_law_names) := ⟨rfl, rfl, rfl, by decide +kernel, rfl, by decide +kernel, by decide +kernel⟩
section
variable {P : Program} {w : World} {K : PySem.W.Frag} {mg : Str → Option Value} {base : Heap}
theorem ok_law_names {fa : Addr} {fd : FuncData} (F : Fun K "_law_names" "_law_names" s_law_names fa fd) (hm : mg "_law_names" = some (.ref fa)) (z_range : mg "range" = none) (z_int : mg "int" = none) (c_law_take : Cal P w K mg base 8 "_law_take" ["_law_box_here", "_law_size"] (f_law_take 8)) : Cal P w K mg base 9 "_law_names" ["_law_box_here", "_law_many"] f_law_names := by
  refine ⟨fa, fd, fn_by (k := 8) false 2 11 b_law_names rfl F sc_law_names rfl rfl fun cdv A outer s H E hr hgd => ?_, hm, F.kp, F.binds (ps := ["_law_box_here", "_law_many"]) fun _ _ _ _ _ _ us hl => match us, hl with | [_, _], _ => rfl⟩
  have S := sc_law_names
  unfold b_law_names b_law_names_s6 b_law_names_l1 b_law_names_s5 b_law_names_s4 b_law_names_s3 b_law_names_s2 b_law_names_c1 b_law_names_s1
  exact sb_cons (sx_asg (se_tup (sa_cons (se_str) (sa_cons (se_cal c_law_take hr hgd (sa_cons (sv 0) (sa_cons (se_int) (sa_nil))) (by omega)) (sa_cons (se_thw (sn_lst (sa_nil))) (sa_nil))))) (tg_of (sg_tup rfl (sgs_cons (sg_nm 2 S.nd) (sgs_cons (sg_nm 3 S.nd) (sgs_cons (sg_nm 4 S.nd) (sgs_nil)))))))
        (sb_cons (sx_set 5 S.nd (se_join (se_str) (se_frz (sn_comp rfl S.nd (si_range1 (by rfl) z_range (sa_cons (se_cal c_law_take hr hgd (sa_cons (sv 0) (sa_cons (se_int) (sa_nil))) (by omega)) (sa_nil))) (bk_by (own := [("_law_turn", 10)]) (by rfl)) (fun _ _ _ _ _ => sg_nm 10 S.nd) (fun _ _ _ _ _ => sts_nil) (fun _ _ _ _ _ => se_ixS (sv 2) (se_cal c_law_take hr hgd (sa_cons (sv 0) (sa_cons (se_int) (sa_nil))) (by omega))) (by decide)))))
        (sb_cons (sx_par 6 7 rfl S.nd (sa_cons (se_ix (se_frz (sn_lst (sa_cons (se_int) (sa_cons (se_int) (sa_cons (se_int) (sa_nil)))))) (se_cal c_law_take hr hgd (sa_cons (sv 0) (sa_cons (se_int) (sa_nil))) (by omega))) (sa_cons (se_cal c_law_take hr hgd (sa_cons (sv 0) (sa_cons (se_int) (sa_nil))) (by omega)) (sa_nil))))
        (sb_cons (sx_for PassesOwn.never rfl (si_range1 (by rfl) z_range (sa_cons (sv 1) (sa_nil))) (sg_nm 8 S.nd) (sb_cons (sx_set 9 S.nd (se_ixS (sv 2) (se_mod (se_add (sv 3) (se_mul (sv 6) (se_if (st_eq hr (sv 7) (se_int)) (se_div (sv 8) (se_int)) (sv 8)))) (se_int))))
        (sb_one (sx_expr (se_append (sv 4) (sa_cons (se_add (se_add (sv 5) (sv 9)) (se_mulT (se_str) (se_bint (by rfl) z_int (sa_cons (se_and (se_eq hr (sv 7) (se_int)) (se_one (se_eq hr (se_mod (sv 8) (se_int)) (se_int)))) (sa_nil))))) (sa_nil)))))))
        (sb_one (sx_ret (sv 4))))))
end
abbrev s_law_levels : Stmt := topS 30
theorem sc_law_levels : FnScope ["_law_box_here", "_law_stair_here", "_law_by", "_law_least", "_law_most", "_law_size"] ["_law_box_here", "_law_stair_here", "_law_by"] (defScope s_law_levels) := ⟨rfl, rfl, rfl, by decide +kernel, rfl, by decide +kernel, by decide +kernel⟩
section
variable {P : Program} {w : World} {K : PySem.W.Frag} {mg : Str → Option Value} {base : Heap}
theorem ok_law_levels {fa : Addr} {fd : FuncData} (F : Fun K "_law_levels" "_law_levels" s_law_levels fa fd) (hm : mg "_law_levels" = some (.ref fa)) (z_tuple : mg "tuple" = none) (c_law_take : Cal P w K mg base 8 "_law_take" ["_law_box_here", "_law_size"] (f_law_take 8)) : Cal P w K mg base 9 "_law_levels" ["_law_box_here", "_law_stair_here", "_law_by"] f_law_levels := by
  refine ⟨fa, fd, fn_by (k := 8) false 3 6 b_law_levels rfl F sc_law_levels rfl rfl fun cdv A outer s H E hr hgd => ?_, hm, F.kp, F.binds (ps := ["_law_box_here", "_law_stair_here", "_law_by"]) fun _ _ _ _ _ _ us hl => match us, hl with | [_, _, _], _ => rfl⟩
  have S := sc_law_levels
  unfold b_law_levels b_law_levels_c1
  exact sb_one (sx_ret (se_tuple (by rfl) z_tuple (sa_cons (se_frz (sn_comp rfl S.nd (si_seq (sv 1)) (bk_by (own := [("_law_least", 3), ("_law_most", 4), ("_law_size", 5)]) (by rfl)) (fun _ _ _ _ _ => sg_tup rfl (sgs_cons (sg_nm 3 S.nd) (sgs_cons (sg_nm 4 S.nd) (sgs_cons (sg_nm 5 S.nd) (sgs_nil))))) (fun _ _ _ _ _ => sts_nil) (fun _ _ _ _ _ => se_add (sv 3) (se_mul (sv 2) (se_cal c_law_take hr hgd (sa_cons (sv 0) (sa_cons (se_add (se_div (se_sub (sv 4) (sv 3)) (sv 2)) (se_int)) (sa_nil))) (by omega)))) (by decide))) (sa_nil))))
end
abbrev s_law_chambers : Stmt := topS 31
theorem sc_law_chambers : FnScope ["_law_box_here", "_law_many", "_law_lock"] ["_law_box_here", "_law_many"] (defScope s_law_chambers) := ⟨rfl, rfl, rfl, by decide +kernel, rfl, by decide +kernel, by decide +kernel⟩
section
variable {P : Program} {w : World} {K : PySem.W.Frag} {mg : Str → Option Value} {base : Heap}
theorem ok_law_chambers {fa : Addr} {fd : FuncData} (F : Fun K "_law_chambers" "_law_chambers" s_law_chambers fa fd) (hm : mg "_law_chambers" = some (.ref fa)) (z_range : mg "range" = none) (z_tuple : mg "tuple" = none) (c_law_take : Cal P w K mg base 8 "_law_take" ["_law_box_here", "_law_size"] (f_law_take 8)) : Cal P w K mg base 9 "_law_chambers" ["_law_box_here", "_law_many"] f_law_chambers := by
  refine ⟨fa, fd, fn_by (k := 8) false 2 3 b_law_chambers rfl F sc_law_chambers rfl rfl fun cdv A outer s H E hr hgd => ?_, hm, F.kp, F.binds (ps := ["_law_box_here", "_law_many"]) fun _ _ _ _ _ _ us hl => match us, hl with | [_, _], _ => rfl⟩
  have S := sc_law_chambers
  unfold b_law_chambers b_law_chambers_c1
  exact sb_one (sx_ret (se_tuple (by rfl) z_tuple (sa_cons (se_frz (sn_comp rfl S.nd (si_range1 (by rfl) z_range (sa_cons (sv 1) (sa_nil))) (bk_by (own := [("_law_lock", 2)]) (by rfl)) (fun _ _ _ _ _ => sg_nm 2 S.nd) (fun _ _ _ _ _ => sts_nil) (fun _ _ _ _ _ => se_ix (se_frz (sn_lst (sa_cons (se_str) (sa_cons (se_str) (sa_nil))))) (se_cal c_law_take hr hgd (sa_cons (sv 0) (sa_cons (se_int) (sa_nil))) (by omega))) (by decide))) (sa_nil))))
end
abbrev s_law_house : Stmt := topS 32
theorem sc_law_house : FnScope ["_law_box_here", "_law_cap", "_law_by", "_law_most", "_law_stair_here", "_law_many", "_law_names_here", "_law_boats", "_law_heaps", "_law_w", "_law_name", "_law_quay"] ["_law_box_here", "_law_cap", "_law_by", "_law_most"] (defScope s_law_house) := ⟨rfl, rfl, rfl, by decide +kernel, rfl, by decide +kernel, by decide +kernel⟩
section
variable {P : Program} {w : World} {K : PySem.W.Frag} {mg : Str → Option Value} {base : Heap}
theorem ok_law_house {fa : Addr} {fd : FuncData} (F : Fun K "_law_house" "_law_house" s_law_house fa fd) (hm : mg "_law_house" = some (.ref fa)) (z_len : mg "len" = none) (z_dict : mg "dict" = none) (z_range : mg "range" = none) (z_tuple : mg "tuple" = none) (c_law_stair : Cal P w K mg base 9 "_law_stair" ["_law_box_here", "_law_cap", "_law_by"] f_law_stair) (c_law_take : Cal P w K mg base 8 "_law_take" ["_law_box_here", "_law_size"] (f_law_take 8)) (c_law_names : Cal P w K mg base 9 "_law_names" ["_law_box_here", "_law_many"] f_law_names) (c_law_levels : Cal P w K mg base 9 "_law_levels" ["_law_box_here", "_law_stair_here", "_law_by"] f_law_levels) (c_law_chambers : Cal P w K mg base 9 "_law_chambers" ["_law_box_here", "_law_many"] f_law_chambers) : CalO P w K mg base 10 "_law_house" ["_law_box_here", "_law_cap", "_law_by", "_law_most"] f_law_house := by
  refine ⟨fa, fd, fn_byO (k := 9) 4 12 b_law_house rfl F sc_law_house rfl rfl fun cdv A outer s H E hr hgd => ?_, hm, F.kp, F.binds (ps := ["_law_box_here", "_law_cap", "_law_by", "_law_most"]) fun _ _ _ _ _ _ us hl => match us, hl with | [_, _, _, _], _ => rfl⟩
  have S := sc_law_house
  unfold b_law_house b_law_house_s6 b_law_house_s5 b_law_house_s4 b_law_house_c2 b_law_house_s3 b_law_house_c1 b_law_house_s2 b_law_house_s1
  exact sb_cons (sx_set 4 S.nd (se_cal c_law_stair hr hgd (sa_cons (sv 0) (sa_cons (sv 1) (sa_cons (sv 2) (sa_nil)))) (by omega)))
        (sb_cons (sx_asg (se_tup (sa_cons (se_len (by rfl) z_len (sa_cons (sv 4) (sa_nil))) (sa_cons (se_cal c_law_names hr hgd (sa_cons (sv 0) (sa_cons (se_cal c_law_take hr hgd (sa_cons (sv 0) (sa_cons (se_add (sv 3) (se_int)) (sa_nil))) (by omega)) (sa_nil))) (by omega)) (sa_nil)))) (tg_of (sg_tup rfl (sgs_cons (sg_nm 5 S.nd) (sgs_cons (sg_nm 6 S.nd) (sgs_nil))))))
        (sb_cons (sx_set 7 S.nd (se_dictPK rfl (by rfl) z_dict (by rfl) (sa_cons (se_frz (sn_comp rfl S.nd (si_seq (sv 6)) (bk_by (own := [("_law_name", 10)]) (by rfl)) (fun _ _ _ _ _ => sg_nm 10 S.nd) (fun _ _ _ _ _ => sts_nil) (fun _ _ _ _ _ => se_tup (sa_cons (sv 10) (sa_cons (se_tup (sa_cons (se_cal c_law_take hr hgd (sa_cons (sv 0) (sa_cons (se_add (sv 5) (se_int)) (sa_nil))) (by omega)) (sa_cons (se_int) (sa_nil)))) (sa_nil)))) (by decide))) (sa_nil))))
        (sb_cons (sx_set 8 S.nd (se_tuple (by rfl) z_tuple (sa_cons (se_frz (sn_comp rfl S.nd (si_range1 (by rfl) z_range (sa_cons (se_add (sv 5) (se_int)) (sa_nil))) (bk_by (own := [("_law_quay", 11)]) (by rfl)) (fun _ _ _ _ _ => sg_nm 11 S.nd) (fun _ _ _ _ _ => sts_nil) (fun _ _ _ _ _ => se_mul (sv 2) (se_cal c_law_take hr hgd (sa_cons (sv 0) (sa_cons (se_int) (sa_nil))) (by omega))) (by decide))) (sa_nil))))
        (sb_cons (sx_set 9 S.nd (se_dctN (sps_cons (se_str) (sv 4) (sps_cons (se_str) (se_cal c_law_levels hr hgd (sa_cons (sv 0) (sa_cons (sv 4) (sa_cons (sv 2) (sa_nil)))) (by omega)) (sps_cons (se_str) (se_cal c_law_chambers hr hgd (sa_cons (sv 0) (sa_cons (sv 5) (sa_nil))) (by omega)) (sps_nil))))))
        (sb_cons (sx_expr (se_dupd (sv 9) (se_dctN (sps_cons (se_str) (sv 8) (sps_cons (se_str) (sv 7) (sps_cons (se_str) (se_mul (se_tup (sa_cons (se_int) (sa_nil))) (sv 5)) (sps_nil)))))))
        (sb_one (sx_ret (sv 9))))))))
end
abbrev s_law_of : Stmt := topS 25
theorem sc_law_of : FnScope ["_law_box_here", "_law_some"] ["_law_box_here", "_law_some"] (defScope s_law_of) := ⟨rfl, rfl, rfl, by decide +kernel, rfl, by decide +kernel, by decide +kernel⟩
section
variable {P : Program} {w : World} {K : PySem.W.Frag} {mg : Str → Option Value} {base : Heap}
theorem ok_law_of {fa : Addr} {fd : FuncData} (F : Fun K "_law_of" "_law_of" s_law_of fa fd) (hm : mg "_law_of" = some (.ref fa)) (z_len : mg "len" = none) (c_law_take : Cal P w K mg base 8 "_law_take" ["_law_box_here", "_law_size"] (f_law_take 8)) : Cal P w K mg base 9 "_law_of" ["_law_box_here", "_law_some"] f_law_of := by
  refine ⟨fa, fd, fn_by (k := 8) false 2 2 b_law_of rfl F sc_law_of rfl rfl fun cdv A outer s H E hr hgd => ?_, hm, F.kp, F.binds (ps := ["_law_box_here", "_law_some"]) fun _ _ _ _ _ _ us hl => match us, hl with | [_, _], _ => rfl⟩
  have S := sc_law_of
  unfold b_law_of
  exact sb_one (sx_ret (se_ix (sv 1) (se_cal c_law_take hr hgd (sa_cons (sv 0) (sa_cons (se_len (by rfl) z_len (sa_cons (sv 1) (sa_nil))) (sa_nil))) (by omega))))
end
noncomputable def b_law_ofT : SS := sRet (eBin oIxS (eVar 1) (eCall (f_law_take 8) (aCons (eVar 0) (aCons (eFn bLen (aCons (eVar 1) (aNil))) (aNil)))))
noncomputable def f_law_ofT : Fn := mkFn false 2 2 b_law_ofT
section
variable {P : Program} {w : World} {K : PySem.W.Frag} {mg : Str → Option Value} {base : Heap}
theorem ok_law_ofT {fa : Addr} {fd : FuncData} (F : Fun K "_law_of" "_law_of" s_law_of fa fd) (hm : mg "_law_of" = some (.ref fa)) (z_len : mg "len" = none) (c_law_take : Cal P w K mg base 8 "_law_take" ["_law_box_here", "_law_size"] (f_law_take 8)) : Cal P w K mg base 9 "_law_of" ["_law_box_here", "_law_some"] f_law_ofT := by
  refine ⟨fa, fd, fn_by (k := 8) false 2 2 b_law_ofT rfl F sc_law_of rfl rfl fun cdv A outer s H E hr hgd => ?_, hm, F.kp, F.binds (ps := ["_law_box_here", "_law_some"]) fun _ _ _ _ _ _ us hl => match us, hl with | [_, _], _ => rfl⟩
  have S := sc_law_of
  unfold b_law_ofT
  exact sb_one (sx_ret (se_ixS (sv 1) (se_cal c_law_take hr hgd (sa_cons (sv 0) (sa_cons (se_len (by rfl) z_len (sa_cons (sv 1) (sa_nil))) (sa_nil))) (by omega))))
end
abbrev s_law_sail : Stmt := topS 33
theorem sc_law_sail : FnScope ["_law_box_here", "_law_w", "_law_boat", "_law_place"] ["_law_box_here", "_law_w", "_law_boat"] (defScope s_law_sail) := ⟨rfl, rfl, rfl, by decide +kernel, rfl, by decide +kernel, by decide +kernel⟩
section
variable {P : Program} {w : World} {K : PySem.W.Frag} {mg : Str → Option Value} {base : Heap}
theorem ok_law_sail {fa : Addr} {fd : FuncData} (F : Fun K "_law_sail" "_law_sail" s_law_sail fa fd) (hm : mg "_law_sail" = some (.ref fa)) (z_len : mg "len" = none) : Cal P w K mg base 1 "_law_sail" ["_law_box_here", "_law_w", "_law_boat"] f_law_sail := by
  refine ⟨fa, fd, fn_by (k := 0) false 3 4 b_law_sail rfl F sc_law_sail rfl rfl fun cdv A outer s H E hr hgd => ?_, hm, F.kp, F.binds (ps := ["_law_box_here", "_law_w", "_law_boat"]) fun _ _ _ _ _ _ us hl => match us, hl with | [_, _, _], _ => rfl⟩
  have S := sc_law_sail
  unfold b_law_sail b_law_sail_s3 b_law_sail_s2 b_law_sail_s1
  exact sb_cons (sx_set 3 S.nd (se_ix (se_dget hr (se_dget hr (sv 1) (se_str)) (sv 2)) (se_int)))
        (sb_cons (sx_if (SW.st (sw_and (st_lt (sv 3) (se_len (by rfl) z_len (sa_cons (se_dget hr (sv 1) (se_str)) (sa_nil)))) (sw_and1 (SW.st (sw_or (st_eq hr (se_ix (se_dget hr (sv 1) (se_str)) (sv 3)) (se_str)) (sw_or1 (st_eq hr (sv 3) (se_int)))))))) (sb_one (sx_ret (se_if (st_eq hr (se_ix (se_dget hr (sv 1) (se_str)) (sv 3)) (se_str)) (se_tup (sa_cons (se_str) (sa_cons (sv 2) (sa_cons (se_add (sv 3) (se_int)) (sa_nil))))) (se_tup (sa_cons (se_str) (sa_cons (se_add (sv 3) (se_int)) (sa_nil))))))) (sb_nil))
        (sb_one (sx_ret (se_if (st_eq hr (se_ix (se_dget hr (sv 1) (se_str)) (se_sub (sv 3) (se_int))) (se_str)) (se_tup (sa_cons (se_str) (sa_cons (sv 2) (sa_cons (sv 3) (sa_nil))))) (se_tup (sa_cons (se_str) (sa_cons (sv 3) (sa_nil))))))))
end
abbrev s_law_trip : Stmt := topS 34
theorem sc_law_trip : FnScope ["_law_box_here", "_law_w", "_law_by", "_law_many", "_law_way", "_law_much", "_law_lock", "_law_boat", "_law_quay", "_law_step", "_law_some"] ["_law_box_here", "_law_w", "_law_by"] (defScope s_law_trip) := ⟨rfl, rfl, rfl, by decide +kernel, rfl, by decide +kernel, by decide +kernel⟩
section
variable {P : Program} {w : World} {K : PySem.W.Frag} {mg : Str → Option Value} {base : Heap}
theorem ok_law_trip {fa : Addr} {fd : FuncData} (F : Fun K "_law_trip" "_law_trip" s_law_trip fa fd) (hm : mg "_law_trip" = some (.ref fa)) (z_len : mg "len" = none) (z_sorted : mg "sorted" = none) (c_law_take : Cal P w K mg base 8 "_law_take" ["_law_box_here", "_law_size"] (f_law_take 8)) (c_law_of : Cal P w K mg base 9 "_law_of" ["_law_box_here", "_law_some"] f_law_of) (c_law_sail : Cal P w K mg base 1 "_law_sail" ["_law_box_here", "_law_w", "_law_boat"] f_law_sail) : Cal P w K mg base 10 "_law_trip" ["_law_box_here", "_law_w", "_law_by"] f_law_trip := by
  refine ⟨fa, fd, fn_by (k := 9) false 3 11 b_law_trip rfl F sc_law_trip rfl rfl fun cdv A outer s H E hr hgd => ?_, hm, F.kp, F.binds (ps := ["_law_box_here", "_law_w", "_law_by"]) fun _ _ _ _ _ _ us hl => match us, hl with | [_, _, _], _ => rfl⟩
  have S := sc_law_trip
  unfold b_law_trip b_law_trip_s7 b_law_trip_s6 b_law_trip_s5 b_law_trip_s4 b_law_trip_s3 b_law_trip_s2 b_law_trip_s1
  exact sb_cons (sx_par3 3 4 5 rfl S.nd (sa_cons (se_len (by rfl) z_len (sa_cons (se_dget hr (sv 1) (se_str)) (sa_nil))) (sa_cons (se_cal c_law_take hr hgd (sa_cons (sv 0) (sa_cons (se_int) (sa_nil))) (by omega)) (sa_cons (se_mul (sv 2) (se_add (se_int) (se_cal c_law_take hr hgd (sa_cons (sv 0) (sa_cons (se_int) (sa_nil))) (by omega)))) (sa_nil)))))
        (sb_cons (sx_par 6 7 rfl S.nd (sa_cons (se_add (se_int) (se_cal c_law_take hr hgd (sa_cons (sv 0) (sa_cons (sv 3) (sa_nil))) (by omega))) (sa_cons (se_cal c_law_of hr hgd (sa_cons (sv 0) (sa_cons (se_add (se_frz (sn_sortD rfl (by rfl) z_sorted (sa_cons (se_dget hr (sv 1) (se_str)) (sa_nil)))) (se_frz (sn_lst (sa_cons (se_str) (sa_nil))))) (sa_nil))) (by omega)) (sa_nil))))
        (sb_cons (sx_par 8 9 rfl S.nd (sa_cons (se_cal c_law_take hr hgd (sa_cons (sv 0) (sa_cons (se_add (sv 3) (se_int)) (sa_nil))) (by omega)) (sa_cons (se_cal c_law_take hr hgd (sa_cons (sv 0) (sa_cons (sv 3) (sa_nil))) (by omega)) (sa_nil))))
        (sb_cons (sx_if (st_lt (sv 4) (se_int)) (sb_one (sx_ret (se_if (st_dIn hr (sv 7) (se_dget hr (sv 1) (se_str))) (se_cal c_law_sail hr hgd (sa_cons (sv 0) (sa_cons (sv 1) (sa_cons (sv 7) (sa_nil)))) (by omega)) (se_tup (sa_cons (se_str) (sa_cons (sv 6) (sa_nil))))))) (sb_nil))
        (sb_cons (sx_if (st_lt (sv 4) (se_int)) (sb_one (sx_ret (se_tup (sa_cons (se_ix (se_frz (sn_lst (sa_cons (se_str) (sa_cons (se_str) (sa_cons (se_str) (sa_cons (se_str) (sa_nil))))))) (se_sub (sv 4) (se_int))) (sa_cons (sv 7) (sa_cons (sv 5) (sa_nil))))))) (sb_nil))
        (sb_cons (sx_set 10 S.nd (se_frz (sn_lst (sa_cons (se_tup (sa_cons (se_str) (sa_cons (sv 8) (sa_cons (se_mod (se_add (se_add (sv 8) (se_int)) (sv 9)) (se_add (sv 3) (se_int))) (sa_cons (sv 5) (sa_nil)))))) (sa_cons (se_tup (sa_cons (se_str) (sa_cons (sv 6) (sa_cons (sv 5) (sa_nil))))) (sa_cons (se_tup (sa_cons (se_str) (sa_cons (sv 6) (sa_cons (sv 5) (sa_nil))))) (sa_nil)))))))
        (sb_one (sx_ret (se_ix (se_add (sv 10) (se_frz (sn_lst (sa_cons (se_tup (sa_cons (se_ix (se_frz (sn_lst (sa_cons (se_str) (sa_cons (se_str) (sa_nil))))) (se_mod (sv 9) (se_int))) (sa_cons (sv 7) (sa_cons (sv 6) (sa_nil))))) (sa_nil))))) (se_sub (sv 4) (se_int))))))))))
end
abbrev s_law_same : Stmt := topS 26
theorem sc_law_same : FnScope ["_law_found", "_law_due_here", "_law_one", "_law_other"] ["_law_found", "_law_due_here"] (defScope s_law_same) := ⟨rfl, rfl, rfl, by decide +kernel, rfl, by decide +kernel, by decide +kernel⟩
section
variable {P : Program} {w : World} {K : PySem.W.Frag} {mg : Str → Option Value} {base : Heap}
theorem ok_law_same {fa : Addr} {fd : FuncData} (F : Fun K "_law_same" "_law_same" s_law_same fa fd) (hm : mg "_law_same" = some (.ref fa)) (z_isinstance : mg "isinstance" = none) (z_list : mg "list" = none) (z_tuple : mg "tuple" = none) (z_len : mg "len" = none) (z_zip : mg "zip" = none) (z_all : mg "all" = none) (z_str : mg "str" = none) (z_int : mg "int" = none) (z_bool : mg "bool" = none) : ∀ n : Nat, Cal P w K mg base (0 + n) "_law_same" ["_law_found", "_law_due_here"] (f_law_same n)
  | 0 => ⟨fa, fd, fn_no fun _ _ => rfl, hm, F.kp, F.binds (ps := ["_law_found", "_law_due_here"]) fun _ _ _ _ _ _ us hl => match us, hl with | [_, _], _ => rfl⟩
  | n + 1 => by
    have self := ok_law_same F hm z_isinstance z_list z_tuple z_len z_zip z_all z_str z_int z_bool n
    refine ⟨fa, fd, fn_by (k := 0 + n) false 2 4 (b_law_same (f_law_same n)) rfl F sc_law_same rfl rfl fun cdv A outer s H E hr hgd => ?_, hm, F.kp, F.binds (ps := ["_law_found", "_law_due_here"]) fun _ _ _ _ _ _ us hl => match us, hl with | [_, _], _ => rfl⟩
    have S := sc_law_same
    unfold b_law_same
    exact sb_cons (sx_if (st_val (se_isi2 (by rfl) z_isinstance (by rfl) z_list (by rfl) (by decide) (by rfl) z_tuple (by rfl) (by decide) (sv 1))) (sb_cons (sx_if (SW.st (sw_or (st_ne hr (se_isi (by rfl) z_isinstance (by rfl) z_list (by rfl) (by decide) (sv 0)) (se_isi (by rfl) z_isinstance (by rfl) z_list (by rfl) (by decide) (sv 1))) (sw_or1 (st_ne hr (se_isi (by rfl) z_isinstance (by rfl) z_tuple (by rfl) (by decide) (sv 0)) (se_isi (by rfl) z_isinstance (by rfl) z_tuple (by rfl) (by decide) (sv 1)))))) (sb_one (sx_ret (se_bl))) (sb_nil))
        (sb_one (sx_ret (se_and (se_eq hr (se_len (by rfl) z_len (sa_cons (sv 0) (sa_nil))) (se_len (by rfl) z_len (sa_cons (sv 1) (sa_nil)))) (se_one (se_all rfl (by rfl) z_all (sa_cons (se_frz (sn_comp rfl S.nd (si_zip (by rfl) z_zip (sa_cons (sv 0) (sa_cons (sv 1) (sa_nil)))) (bk_by (own := [("_law_one", 2), ("_law_other", 3)]) (by rfl)) (fun _ _ _ _ _ => sg_tup rfl (sgs_cons (sg_nm 2 S.nd) (sgs_cons (sg_nm 3 S.nd) (sgs_nil)))) (fun _ _ _ _ _ => sts_nil) (fun _ _ _ _ _ => se_cal self hr hgd (sa_cons (sv 2) (sa_cons (sv 3) (sa_nil))) (by omega)) (by decide))) (sa_nil)))))))) (sb_nil))
        (sb_cons (sx_if (SW.st (sw_or (st_isN (sv 1) (se_non)) (sw_or1 (st_val (se_isi (by rfl) z_isinstance (by rfl) z_str (by rfl) (by decide) (sv 1)))))) (sb_one (sx_ret (se_and (se_eq hr (sv 0) (sv 1)) (se_one (se_eq hr (se_isi (by rfl) z_isinstance (by rfl) z_str (by rfl) (by decide) (sv 0)) (se_isi (by rfl) z_isinstance (by rfl) z_str (by rfl) (by decide) (sv 1))))))) (sb_nil))
        (sb_one (sx_ret (se_and (se_isi (by rfl) z_isinstance (by rfl) z_int (by rfl) (by decide) (sv 0)) (se_and (se_eq hr (se_isi (by rfl) z_isinstance (by rfl) z_bool (by rfl) (by decide) (sv 0)) (se_isi (by rfl) z_isinstance (by rfl) z_bool (by rfl) (by decide) (sv 1))) (se_one (se_eq hr (sv 0) (sv 1))))))))
end
abbrev s_law_bent_text : Stmt := topS 39
theorem sc_law_bent_text : FnScope ["_law_box_here", "_law_text", "_law_at", "_law_way"] ["_law_box_here", "_law_text"] (defScope s_law_bent_text) := ⟨rfl, rfl, rfl, by decide +kernel, rfl, by decide +kernel, by decide +kernel⟩
noncomputable def b_law_bent_text_s1 : SS := sPar [2, 3] (aCons (eCall (f_law_take 8) (aCons (eVar 0) (aCons (eBin oAdd (eFn bLen (aCons (eVar 1) (aNil))) (eC (.int 1))) (aNil)))) (aCons (eCall (f_law_take 8) (aCons (eVar 0) (aCons (eC (.int 4)) (aNil)))) (aNil)))
noncomputable def b_law_bent_text_s2 : SS := sIf (tVal (eBin oEq (eVar 3) (eC (.int 0)))) (sRet (eBin oAdd (eCutS (eVar 1) (pNo) (pOf (eVar 2))) (eCutS (eVar 1) (pOf (eBin oAdd (eVar 2) (eC (.int 1)))) (pNo)))) (sNx)
noncomputable def b_law_bent_text_s3 : SS := sIf (tVal (eBin oEq (eVar 3) (eC (.int 1)))) (sRet (eBin oAdd (eBin oAdd (eCutS (eVar 1) (pNo) (pOf (eVar 2))) (eCutS (eVar 1) (pOf (eVar 2)) (pOf (eBin oAdd (eVar 2) (eC (.int 1)))))) (eCutS (eVar 1) (pOf (eVar 2)) (pNo)))) (sNx)
noncomputable def b_law_bent_text_s4 : SS := sIf (tVal (eBin oEq (eVar 3) (eC (.int 2)))) (sRet (eBin oAdd (eBin oAdd (eCutS (eVar 1) (pNo) (pOf (eVar 2))) (eCall f_law_ofT (aCons (eVar 0) (aCons (eC (.str "0123456789 -aAz\n")) (aNil))))) (eCutS (eVar 1) (pOf (eBin oAdd (eVar 2) (eCall (f_law_take 8) (aCons (eVar 0) (aCons (eC (.int 2)) (aNil)))))) (pNo)))) (sNx)
noncomputable def b_law_bent_text_s5 : SS := sRet (eBin oAdd (eBin oAdd (eCutS (eVar 1) (pNo) (pOf (eVar 2))) (eUn oRevS (eCutS (eVar 1) (pOf (eVar 2)) (pOf (eBin oAdd (eVar 2) (eC (.int 2))))))) (eCutS (eVar 1) (pOf (eBin oAdd (eVar 2) (eC (.int 2)))) (pNo)))
noncomputable def b_law_bent_text : SS := sSeq (b_law_bent_text_s1)
  (sSeq (b_law_bent_text_s2)
  (sSeq (b_law_bent_text_s3)
  (sSeq (b_law_bent_text_s4)
  (b_law_bent_text_s5))))
noncomputable def f_law_bent_text : Fn := mkFn false 2 4 b_law_bent_text
section
variable {P : Program} {w : World} {K : PySem.W.Frag} {mg : Str → Option Value} {base : Heap}
theorem ok_law_bent_text {fa : Addr} {fd : FuncData} (F : Fun K "_law_bent_text" "_law_bent_text" s_law_bent_text fa fd) (hm : mg "_law_bent_text" = some (.ref fa)) (z_len : mg "len" = none) (c_law_take : Cal P w K mg base 8 "_law_take" ["_law_box_here", "_law_size"] (f_law_take 8)) (c_law_ofT : Cal P w K mg base 9 "_law_of" ["_law_box_here", "_law_some"] f_law_ofT) : Cal P w K mg base 10 "_law_bent_text" ["_law_box_here", "_law_text"] f_law_bent_text := by
  refine ⟨fa, fd, fn_by (k := 9) false 2 4 b_law_bent_text rfl F sc_law_bent_text rfl rfl fun cdv A outer s H E hr hgd => ?_, hm, F.kp, F.binds (ps := ["_law_box_here", "_law_text"]) fun _ _ _ _ _ _ us hl => match us, hl with | [_, _], _ => rfl⟩
  have S := sc_law_bent_text
  unfold b_law_bent_text b_law_bent_text_s5 b_law_bent_text_s4 b_law_bent_text_s3 b_law_bent_text_s2 b_law_bent_text_s1
  exact sb_cons (sx_par 2 3 rfl S.nd (sa_cons (se_cal c_law_take hr hgd (sa_cons (sv 0) (sa_cons (se_add (se_len (by rfl) z_len (sa_cons (sv 1) (sa_nil))) (se_int)) (sa_nil))) (by omega)) (sa_cons (se_cal c_law_take hr hgd (sa_cons (sv 0) (sa_cons (se_int) (sa_nil))) (by omega)) (sa_nil))))
        (sb_cons (sx_if (st_eq hr (sv 3) (se_int)) (sb_one (sx_ret (se_add (se_cutS (sv 1) (sp_no) (sp_of (sv 2))) (se_cutS (sv 1) (sp_of (se_add (sv 2) (se_int))) (sp_no))))) (sb_nil))
        (sb_cons (sx_if (st_eq hr (sv 3) (se_int)) (sb_one (sx_ret (se_add (se_add (se_cutS (sv 1) (sp_no) (sp_of (sv 2))) (se_cutS (sv 1) (sp_of (sv 2)) (sp_of (se_add (sv 2) (se_int))))) (se_cutS (sv 1) (sp_of (sv 2)) (sp_no))))) (sb_nil))
        (sb_cons (sx_if (st_eq hr (sv 3) (se_int)) (sb_one (sx_ret (se_add (se_add (se_cutS (sv 1) (sp_no) (sp_of (sv 2))) (se_cal c_law_ofT hr hgd (sa_cons (sv 0) (sa_cons (se_str) (sa_nil))) (by omega))) (se_cutS (sv 1) (sp_of (se_add (sv 2) (se_cal c_law_take hr hgd (sa_cons (sv 0) (sa_cons (se_int) (sa_nil))) (by omega)))) (sp_no))))) (sb_nil))
        (sb_one (sx_ret (se_add (se_add (se_cutS (sv 1) (sp_no) (sp_of (sv 2))) (se_revS (se_cutS (sv 1) (sp_of (sv 2)) (sp_of (se_add (sv 2) (se_int)))))) (se_cutS (sv 1) (sp_of (se_add (sv 2) (se_int))) (sp_no))))))))
end
abbrev s_is_name : Stmt := topS 7
theorem sc_is_name : FnScope ["thing", "sign"] ["thing"] (defScope s_is_name) := ⟨rfl, rfl, rfl, by decide +kernel, rfl, by decide +kernel, by decide +kernel⟩
noncomputable def b_is_name_c1 : ES := eChain oLeS oLeS (eC (.str "a")) (eVar 1) (eC (.str "z"))
noncomputable def b_is_name : SS := sRet (eAnd (eUn (oIsi ["str"]) (eVar 0)) (eAnd (eChain oLe oLe (eC (.int 1)) (eFn bLen (aCons (eVar 0) (aNil))) (eC (.int 8))) (eFn bAll (aCons (eFrz (nComp (iTxt (eVar 0)) [1] (.nm 1) (tTrue) (b_is_name_c1))) (aNil)))))
noncomputable def f_is_name : Fn := mkFn false 1 2 b_is_name
section
variable {P : Program} {w : World} {K : PySem.W.Frag} {mg : Str → Option Value} {base : Heap}
theorem ok_is_name {fa : Addr} {fd : FuncData} (F : Fun K "is_name" "is_name" s_is_name fa fd) (hm : mg "is_name" = some (.ref fa)) (z_isinstance : mg "isinstance" = none) (z_str : mg "str" = none) (z_len : mg "len" = none) (z_all : mg "all" = none) (g_MOST_LETTERS : ∃ t, mg "MOST_LETTERS" = some (.int 8 t)) : Cal P w K mg base 1 "is_name" ["thing"] f_is_name := by
  refine ⟨fa, fd, fn_by (k := 0) false 1 2 b_is_name rfl F sc_is_name rfl rfl fun cdv A outer s H E hr hgd => ?_, hm, F.kp, F.binds (ps := ["thing"]) fun _ _ _ _ _ _ us hl => match us, hl with | [_], _ => rfl⟩
  have S := sc_is_name
  unfold b_is_name b_is_name_c1
  exact sb_one (sx_ret (se_and (se_isi (by rfl) z_isinstance (by rfl) z_str (by rfl) (by decide) (sv 0)) (se_and (se_lele (se_int) (se_len (by rfl) z_len (sa_cons (sv 0) (sa_nil))) (se_gint g_MOST_LETTERS)) (se_one (se_all rfl (by rfl) z_all (sa_cons (se_frz (sn_comp rfl S.nd (si_txt (sv 0)) (bk_by (own := [("sign", 1)]) (by rfl)) (fun _ _ _ _ _ => sg_nm 1 S.nd) (fun _ _ _ _ _ => sts_nil) (fun _ _ _ _ _ => se_leleS (se_str) (sv 1) (se_str)) (by decide))) (sa_nil)))))))
end
abbrev s_is_number : Stmt := topS 6
theorem sc_is_number : FnScope ["thing"] ["thing"] (defScope s_is_number) := ⟨rfl, rfl, rfl, by decide +kernel, rfl, by decide +kernel, by decide +kernel⟩
section
variable {P : Program} {w : World} {K : PySem.W.Frag} {mg : Str → Option Value} {base : Heap}
theorem ok_is_number {fa : Addr} {fd : FuncData} (F : Fun K "is_number" "is_number" s_is_number fa fd) (hm : mg "is_number" = some (.ref fa)) (z_isinstance : mg "isinstance" = none) (z_int : mg "int" = none) (z_bool : mg "bool" = none) : Cal P w K mg base 1 "is_number" ["thing"] f_is_number := by
  refine ⟨fa, fd, fn_by (k := 0) false 1 1 b_is_number rfl F sc_is_number rfl rfl fun cdv A outer s H E hr hgd => ?_, hm, F.kp, F.binds (ps := ["thing"]) fun _ _ _ _ _ _ us hl => match us, hl with | [_], _ => rfl⟩
  have S := sc_is_number
  unfold b_is_number
  exact sb_one (sx_ret (se_and (se_isi (by rfl) z_isinstance (by rfl) z_int (by rfl) (by decide) (sv 0)) (se_one (se_not (se_isi (by rfl) z_isinstance (by rfl) z_bool (by rfl) (by decide) (sv 0))))))
end
abbrev s_is_part : Stmt := topS 12
theorem sc_is_part : FnScope ["sort", "thing"] ["sort", "thing"] (defScope s_is_part) := ⟨rfl, rfl, rfl, by decide +kernel, rfl, by decide +kernel, by decide +kernel⟩
noncomputable def b_is_part_s1 : SS := sIf (tVal (eBin oEq (eVar 0) (eC (.str "boat")))) (sRet (eCall f_is_name (aCons (eVar 1) (aNil)))) (sNx)
noncomputable def b_is_part_s2 : SS := sRet (eAnd (eCall f_is_number (aCons (eVar 1) (aNil))) (eAnd (eBin oGe (eVar 1) (eUn (oGetGN [("lock", .inl 1), ("pound", .inl 1), ("quay", .inl 0), ("many", .inl 1)]) (eVar 0))) (eOr (eBin oEq (eVar 0) (eC (.str "many"))) (eBin oLe (eVar 1) (eC (.int 20))))))
noncomputable def b_is_part : SS := sSeq (b_is_part_s1)
  (b_is_part_s2)
noncomputable def f_is_part : Fn := mkFn false 2 2 b_is_part
section
variable {P : Program} {w : World} {K : PySem.W.Frag} {mg : Str → Option Value} {base : Heap}
theorem ok_is_part {fa : Addr} {fd : FuncData} (F : Fun K "is_part" "is_part" s_is_part fa fd) (hm : mg "is_part" = some (.ref fa)) (g_MOST_PLACE : ∃ t, mg "MOST_PLACE" = some (.int 20 t)) (r_LEASTS : GdN w K mg "LEASTS" [("lock", .inl 1), ("pound", .inl 1), ("quay", .inl 0), ("many", .inl 1)]) (c_is_name : Cal P w K mg base 1 "is_name" ["thing"] f_is_name) (c_is_number : Cal P w K mg base 1 "is_number" ["thing"] f_is_number) : Cal P w K mg base 2 "is_part" ["sort", "thing"] f_is_part := by
  refine ⟨fa, fd, fn_by (k := 1) false 2 2 b_is_part rfl F sc_is_part rfl rfl fun cdv A outer s H E hr hgd => ?_, hm, F.kp, F.binds (ps := ["sort", "thing"]) fun _ _ _ _ _ _ us hl => match us, hl with | [_, _], _ => rfl⟩
  have S := sc_is_part
  unfold b_is_part b_is_part_s2 b_is_part_s1
  exact sb_cons (sx_if (st_eq hr (sv 0) (se_str)) (sb_one (sx_ret (se_cal c_is_name hr hgd (sa_cons (sv 1) (sa_nil)) (by omega)))) (sb_nil))
        (sb_one (sx_ret (se_and (se_cal c_is_number hr hgd (sa_cons (sv 1) (sa_nil)) (by omega)) (se_and (se_ge (sv 1) (se_getGN (by rfl) r_LEASTS (sv 0))) (se_one (se_or (se_eq hr (sv 0) (se_str)) (se_one (se_le (sv 1) (se_gint g_MOST_PLACE)))))))))
end
abbrev s_is_trip : Stmt := topS 13
theorem sc_is_trip : FnScope ["thing", "word", "parts", "sorts", "sort", "part"] ["thing"] (defScope s_is_trip) := ⟨rfl, rfl, rfl, by decide +kernel, rfl, by decide +kernel, by decide +kernel⟩
noncomputable def b_is_trip_s1 : SS := sIf (tOr (tNot (tVal (eUn (oIsi ["tuple"]) (eVar 0)))) (tOr (tVal (eBin oEq (eFn bLen (aCons (eVar 0) (aNil))) (eC (.int 0)))) (tOr (tNot (tVal (eUn (oIsi ["str"]) (eBin oIx (eVar 0) (eC (.int 0)))))) (tVal (eUn (oInGN true [("up", .inr ["boat", "lock"]), ("down", .inr ["boat", "lock"]), ("turn", .inr ["lock"]), ("load", .inr ["boat", "many"]), ("unload", .inr ["boat", "many"]), ("carry", .inr ["quay", "quay", "many"]), ("rain", .inr ["pound", "many"]), ("draw", .inr ["pound", "many"])]) (eBin oIx (eVar 0) (eC (.int 0)))))))) (sRet (eC (.bl false))) (sNx)
noncomputable def b_is_trip_s2 : SS := sSet 3 (eUn (oGetGN [("up", .inr ["boat", "lock"]), ("down", .inr ["boat", "lock"]), ("turn", .inr ["lock"]), ("load", .inr ["boat", "many"]), ("unload", .inr ["boat", "many"]), ("carry", .inr ["quay", "quay", "many"]), ("rain", .inr ["pound", "many"]), ("draw", .inr ["pound", "many"])]) (eVar 1))
noncomputable def b_is_trip_c1 : ES := eCall f_is_part (aCons (eVar 4) (aCons (eVar 5) (aNil)))
noncomputable def b_is_trip_s3 : SS := sIf (tOr (tVal (eBin oNe (eFn bLen (aCons (eVar 2) (aNil))) (eFn bLen (aCons (eVar 3) (aNil))))) (tNot (tVal (eFn bAll (aCons (eFrz (nComp (iZip true (aCons (eVar 3) (aCons (eVar 2) (aNil)))) [4, 5] (.tp [.nm 4, .nm 5]) (tTrue) (b_is_trip_c1))) (aNil)))))) (sRet (eC (.bl false))) (sNx)
noncomputable def b_is_trip_s4 : SS := sRet (eOr (eBin oNe (eVar 1) (eC (.str "carry"))) (eBin oNe (eBin oIx (eVar 2) (eC (.int 0))) (eBin oIx (eVar 2) (eC (.int 1)))))
noncomputable def b_is_trip : SS := sSeq (b_is_trip_s1)
  (sSeq (sAsg (eVar 0) (gStar 1 [.nm 1, .nm 2]))
  (sSeq (b_is_trip_s2)
  (sSeq (b_is_trip_s3)
  (b_is_trip_s4))))
noncomputable def f_is_trip : Fn := mkFn false 1 6 b_is_trip
section
variable {P : Program} {w : World} {K : PySem.W.Frag} {mg : Str → Option Value} {base : Heap}
theorem ok_is_trip {fa : Addr} {fd : FuncData} (F : Fun K "is_trip" "is_trip" s_is_trip fa fd) (hm : mg "is_trip" = some (.ref fa)) (z_isinstance : mg "isinstance" = none) (z_tuple : mg "tuple" = none) (z_len : mg "len" = none) (z_str : mg "str" = none) (z_zip : mg "zip" = none) (z_all : mg "all" = none) (r_TRIPS : GdN w K mg "TRIPS" [("up", .inr ["boat", "lock"]), ("down", .inr ["boat", "lock"]), ("turn", .inr ["lock"]), ("load", .inr ["boat", "many"]), ("unload", .inr ["boat", "many"]), ("carry", .inr ["quay", "quay", "many"]), ("rain", .inr ["pound", "many"]), ("draw", .inr ["pound", "many"])]) (c_is_part : Cal P w K mg base 2 "is_part" ["sort", "thing"] f_is_part) : Cal P w K mg base 3 "is_trip" ["thing"] f_is_trip := by
  refine ⟨fa, fd, fn_by (k := 2) false 1 6 b_is_trip rfl F sc_is_trip rfl rfl fun cdv A outer s H E hr hgd => ?_, hm, F.kp, F.binds (ps := ["thing"]) fun _ _ _ _ _ _ us hl => match us, hl with | [_], _ => rfl⟩
  have S := sc_is_trip
  unfold b_is_trip b_is_trip_s4 b_is_trip_s3 b_is_trip_c1 b_is_trip_s2 b_is_trip_s1
  exact sb_cons (sx_if (SW.st (sw_or (st_not (st_val (se_isi (by rfl) z_isinstance (by rfl) z_tuple (by rfl) (by decide) (sv 0)))) (sw_or (st_eq hr (se_len (by rfl) z_len (sa_cons (sv 0) (sa_nil))) (se_int)) (sw_or (st_not (st_val (se_isi (by rfl) z_isinstance (by rfl) z_str (by rfl) (by decide) (se_ix (sv 0) (se_int))))) (sw_or1 (st_notInGN (by rfl) r_TRIPS (se_ix (sv 0) (se_int)))))))) (sb_one (sx_ret (se_bl))) (sb_nil))
        (sb_cons (sx_asg (sv 0) (tg_star (n := 1) rfl (sgs_cons (sg_nm 1 S.nd) (sgs_cons (sg_nm 2 S.nd) (sgs_nil)))))
        (sb_cons (sx_set 3 S.nd (se_getGN (by rfl) r_TRIPS (sv 1)))
        (sb_cons (sx_if (SW.st (sw_or (st_ne hr (se_len (by rfl) z_len (sa_cons (sv 2) (sa_nil))) (se_len (by rfl) z_len (sa_cons (sv 3) (sa_nil)))) (sw_or1 (st_not (st_val (se_all rfl (by rfl) z_all (sa_cons (se_frz (sn_comp rfl S.nd (si_zipS (by rfl) z_zip (sa_cons (sv 3) (sa_cons (sv 2) (sa_nil)))) (bk_by (own := [("sort", 4), ("part", 5)]) (by rfl)) (fun _ _ _ _ _ => sg_tup rfl (sgs_cons (sg_nm 4 S.nd) (sgs_cons (sg_nm 5 S.nd) (sgs_nil)))) (fun _ _ _ _ _ => sts_nil) (fun _ _ _ _ _ => se_cal c_is_part hr hgd (sa_cons (sv 4) (sa_cons (sv 5) (sa_nil))) (by omega)) (by decide))) (sa_nil)))))))) (sb_one (sx_ret (se_bl))) (sb_nil))
        (sb_one (sx_ret (se_or (se_ne hr (sv 1) (se_str)) (se_one (se_ne hr (se_ix (sv 2) (se_int)) (se_ix (sv 2) (se_int))))))))))
end
abbrev s_number_in : Stmt := topS 17
theorem sc_number_in : FnScope ["word", "sign"] ["word"] (defScope s_number_in) := ⟨rfl, rfl, rfl, by decide +kernel, rfl, by decide +kernel, by decide +kernel⟩
noncomputable def b_number_in_c1 : ES := eBin oInS (eVar 1) (eC (.str "0123456789"))
noncomputable def b_number_in_s1 : SS := sIf (tOr (tNot (tVal (eChain oLe oLe (eC (.int 1)) (eFn bLen (aCons (eVar 0) (aNil))) (eC (.int 19))))) (tNot (tVal (eFn bAll (aCons (eFrz (nComp (iTxt (eVar 0)) [1] (.nm 1) (tTrue) (b_number_in_c1))) (aNil)))))) (sRet (eC .non)) (sNx)
noncomputable def b_number_in_s2 : SS := sRet (eIf (tOr (tVal (eBin oEq (eVar 0) (eC (.str "0")))) (tVal (eBin oNe (eBin oIxS (eVar 0) (eC (.int 0))) (eC (.str "0"))))) (eFn bIntT (aCons (eVar 0) (aNil))) (eC .non))
noncomputable def b_number_in : SS := sSeq (b_number_in_s1)
  (b_number_in_s2)
noncomputable def f_number_in : Fn := mkFn false 1 2 b_number_in
section
variable {P : Program} {w : World} {K : PySem.W.Frag} {mg : Str → Option Value} {base : Heap}
theorem ok_number_in {fa : Addr} {fd : FuncData} (F : Fun K "number_in" "number_in" s_number_in fa fd) (hm : mg "number_in" = some (.ref fa)) (z_len : mg "len" = none) (z_all : mg "all" = none) (z_int : mg "int" = none) (g_MOST_FIGURES : ∃ t, mg "MOST_FIGURES" = some (.int 19 t)) (g_FIGURES : ∃ t, mg "FIGURES" = some (.str "0123456789" t)) : Cal P w K mg base 1 "number_in" ["word"] f_number_in := by
  refine ⟨fa, fd, fn_by (k := 0) false 1 2 b_number_in rfl F sc_number_in rfl rfl fun cdv A outer s H E hr hgd => ?_, hm, F.kp, F.binds (ps := ["word"]) fun _ _ _ _ _ _ us hl => match us, hl with | [_], _ => rfl⟩
  have S := sc_number_in
  unfold b_number_in b_number_in_s2 b_number_in_s1 b_number_in_c1
  exact sb_cons (sx_if (SW.st (sw_or (st_not (st_lele (se_int) (se_len (by rfl) z_len (sa_cons (sv 0) (sa_nil))) (se_gint g_MOST_FIGURES))) (sw_or1 (st_not (st_val (se_all rfl (by rfl) z_all (sa_cons (se_frz (sn_comp rfl S.nd (si_txt (sv 0)) (bk_by (own := [("sign", 1)]) (by rfl)) (fun _ _ _ _ _ => sg_nm 1 S.nd) (fun _ _ _ _ _ => sts_nil) (fun _ _ _ _ _ => se_inS (sv 1) (se_gstr g_FIGURES)) (by decide))) (sa_nil)))))))) (sb_one (sx_ret (se_non))) (sb_nil))
        (sb_one (sx_ret (se_if (SW.st (sw_or (st_eq hr (sv 0) (se_str)) (sw_or1 (st_ne hr (se_ixS (sv 0) (se_int)) (se_str))))) (se_bintT (by rfl) z_int (sa_cons (sv 0) (sa_nil))) (se_non))))
end
abbrev s_trip_inX : Stmt := topS 19
theorem sc_trip_inX : FnScope ["text", "word", "parts", "sorts", "trip", "sort", "part"] ["text"] (defScope s_trip_inX) := ⟨rfl, rfl, rfl, by decide +kernel, rfl, by decide +kernel, by decide +kernel⟩
noncomputable def b_trip_inX_s1 : SS := sAsg (eFrz (nSplit (eVar 0) (eC (.str " ")))) (gStar 1 [.nm 1, .nm 2])
noncomputable def b_trip_inX_s2 : SS := sSet 3 (eGet2GN [("up", .inr ["boat", "lock"]), ("down", .inr ["boat", "lock"]), ("turn", .inr ["lock"]), ("load", .inr ["boat", "many"]), ("unload", .inr ["boat", "many"]), ("carry", .inr ["quay", "quay", "many"]), ("rain", .inr ["pound", "many"]), ("draw", .inr ["pound", "many"])] (eVar 1) (eTup (aNil)))
noncomputable def b_trip_inX_c1 : ES := eIf (tVal (eBin oEq (eVar 5) (eC (.str "boat")))) (eVar 6) (eCall f_number_in (aCons (eVar 6) (aNil)))
noncomputable def b_trip_inX_s3 : SS := sNox (sIf (tVal (eBin oEq (eFn bLen (aCons (eVar 2) (aNil))) (eFn bLen (aCons (eVar 3) (aNil))))) (sSet 2 (eFrz (nComp (iZip true (aCons (eVar 3) (aCons (eVar 2) (aNil)))) [5, 6] (.tp [.nm 5, .nm 6]) (tTrue) (b_trip_inX_c1)))) (sNx))
noncomputable def b_trip_inX_s4 : SS := sSet 4 (eFn bTuple (aCons (eBin oAdd (eFrz (nLst (aCons (eVar 1) (aNil)))) (eVar 2)) (aNil)))
noncomputable def b_trip_inX_s5 : SS := sIf (tNox (tNot (tVal (eCall f_is_trip (aCons (eVar 4) (aNil)))))) (sRaise "BadText" (eVar 0)) (sNx)
noncomputable def b_trip_inX : SS := sSeq (b_trip_inX_s1)
  (sSeq (b_trip_inX_s2)
  (sSeq (b_trip_inX_s3)
  (sSeq (b_trip_inX_s4)
  (sSeq (b_trip_inX_s5)
  (sRet (eVar 4))))))
noncomputable def f_trip_inX : Fn := mkFn false 1 7 b_trip_inX
section
variable {P : Program} {w : World} {K : PySem.W.Frag} {mg : Str → Option Value} {base : Heap}
theorem ok_trip_inX {fa : Addr} {fd : FuncData} (F : Fun K "trip_in" "trip_in" s_trip_inX fa fd) (hm : mg "trip_in" = some (.ref fa)) (z_len : mg "len" = none) (z_zip : mg "zip" = none) (z_tuple : mg "tuple" = none) (r_TRIPS : GdN w K mg "TRIPS" [("up", .inr ["boat", "lock"]), ("down", .inr ["boat", "lock"]), ("turn", .inr ["lock"]), ("load", .inr ["boat", "many"]), ("unload", .inr ["boat", "many"]), ("carry", .inr ["quay", "quay", "many"]), ("rain", .inr ["pound", "many"]), ("draw", .inr ["pound", "many"])]) (c_number_in : Cal P w K mg base 1 "number_in" ["word"] f_number_in) (c_is_trip : Cal P w K mg base 3 "is_trip" ["thing"] f_is_trip) (n_BadText : CalE P w K mg base "BadText" "ValueError" "ValueError.__new__" "ValueError.__init__") : CalX P w K mg base 4 "trip_in" ["text"] f_trip_inX := by
  refine ⟨fa, fd, fn_byX (k := 3) false 1 7 b_trip_inX rfl F sc_trip_inX rfl rfl fun cdv A outer s H E hr hgd tk po => ?_, hm, F.kp, F.binds (ps := ["text"]) fun _ _ _ _ _ _ us hl => match us, hl with | [_], _ => rfl⟩
  have S := sc_trip_inX
  unfold b_trip_inX b_trip_inX_s5 b_trip_inX_s4 b_trip_inX_s3 b_trip_inX_c1 b_trip_inX_s2 b_trip_inX_s1
  exact sb_cons (sx_asg (se_frz (sn_split (sv 0) (se_str))) (tg_star (n := 1) rfl (sgs_cons (sg_nm 1 S.nd) (sgs_cons (sg_nm 2 S.nd) (sgs_nil)))))
        (sb_cons (sx_set 3 S.nd (se_get2GN (by rfl) r_TRIPS (sv 1) (se_tup (sa_nil))))
        (sb_cons (sx_nox (sx_if (st_eq hr (se_len (by rfl) z_len (sa_cons (sv 2) (sa_nil))) (se_len (by rfl) z_len (sa_cons (sv 3) (sa_nil)))) (sb_one (sx_setC 2 (.inl rfl) rfl S.nd (si_zipS (by rfl) z_zip (sa_cons (sv 3) (sa_cons (sv 2) (sa_nil)))) (bk_by (own := [("sort", 5), ("part", 6)]) (by rfl)) (fun _ _ _ _ _ => sg_tup rfl (sgs_cons (sg_nm 5 S.nd) (sgs_cons (sg_nm 6 S.nd) (sgs_nil)))) (fun _ _ _ _ _ => sts_nil) (fun _ _ _ _ _ => se_if (st_eq hr (sv 5) (se_str)) (sv 6) (se_cal c_number_in hr hgd (sa_cons (sv 6) (sa_nil)) (by omega))) (by decide) rfl)) (sb_nil)))
        (sb_cons (sx_set 4 S.nd (se_tuple (by rfl) z_tuple (sa_cons (se_add (se_frz (sn_lst (sa_cons (sv 1) (sa_nil)))) (sv 2)) (sa_nil))))
        (sb_cons (sx_if (st_nox (st_not (st_val (se_cal c_is_trip hr hgd (sa_cons (sv 4) (sa_nil)) (by omega))))) (sb_one (sx_raise n_BadText hr hgd rfl tk (sv 0))) (sb_nil))
        (sb_one (sx_ret (sv 4)))))))
end
abbrev s_law_asked : Stmt := topS 38
theorem sc_law_asked : FnScope ["_law_text", "_law_found", "_law_caught", "error", "_law_alone"] ["_law_text"] (defScope s_law_asked) := ⟨rfl, rfl, rfl, by decide +kernel, rfl, by decide +kernel, by decide +kernel⟩
noncomputable def b_law_asked_s1 : SS := sAsg (eTup (aCons (eC .non) (aCons (eC .non) (aNil)))) (gT (.tp [.nm 1, .nm 2]))
noncomputable def b_law_asked_s2 : SS := sTryAs ["BadText"] 3 2 (sSet 1 (eCall f_trip_inX (aCons (eVar 0) (aNil))))
noncomputable def b_law_asked_s3 : SS := sIf (tVal (eBin oIsN (eVar 2) (eC .non))) (sRet (eVar 1)) (sNx)
noncomputable def b_law_asked_s4 : SS := sSet 4 (eAnd (eUn (oIsE [("BadText", true)]) (eVar 2)) (eAnd (eUn (oIsE [("BadText", true)]) (eVar 2)) (eUn oNot (eUn (oIsE [("BadText", false)]) (eVar 2)))))
noncomputable def b_law_asked_s5 : SS := sRet (eIf (tAnd (tVal (eVar 4)) (tVal (eBin oEq (eUn (oWhat ["BadText"]) (eVar 2)) (eVar 0)))) (eC .non) (eC (.str "other")))
noncomputable def b_law_asked : SS := sSeq (b_law_asked_s1)
  (sSeq (b_law_asked_s2)
  (sSeq (b_law_asked_s3)
  (sSeq (b_law_asked_s4)
  (b_law_asked_s5))))
noncomputable def f_law_asked : Fn := mkFn false 1 5 b_law_asked
section
variable {P : Program} {w : World} {K : PySem.W.Frag} {mg : Str → Option Value} {base : Heap}
theorem ok_law_asked {fa : Addr} {fd : FuncData} (F : Fun K "_law_asked" "_law_asked" s_law_asked fa fd) (hm : mg "_law_asked" = some (.ref fa)) (z_isinstance : mg "isinstance" = none) (z_ValueError : mg "ValueError" = none) (x_trip_inX : CalX P w K mg base 4 "trip_in" ["text"] f_trip_inX) (k_BadRow_BadText_NoTour : ∃ u0 u1 u2 : Value, mg "BadRow" = some u0 ∧ mg "BadText" = some u1 ∧ mg "NoTour" = some u2 ∧ ∀ c ∈ (["BadText"] : List Str), ∀ C, mg c = some (.ref C) → PySem.W.exmAny K (.ref C) [u0, u1, u2] = some true) (v_what : ∀ c ∈ (["BadText"] : List Str), ∀ C, mg c = some (.ref C) → XnC K C) (j_BadText : ∃ D0 : Addr, mg "BadText" = some (.ref D0) ∧ ∀ c b, List.lookup c ([("BadText", true)] : List (Str × Bool)) = some b → ∀ C, mg c = some (.ref C) → XnC K C ∧ PySem.W.kitOne K (.ref C) (.ref D0) = some b) (j_ValueError : ∀ c b, List.lookup c ([("BadText", true)] : List (Str × Bool)) = some b → ∀ C, mg c = some (.ref C) → XnC K C ∧ PySem.W.kitOne K (.ref C) (.type "ValueError") = some b) (j_BadRow_NoTour : ∃ D0 D1 : Addr, mg "BadRow" = some (.ref D0) ∧ mg "NoTour" = some (.ref D1) ∧ ∀ c b, List.lookup c ([("BadText", false)] : List (Str × Bool)) = some b → ∀ C, mg c = some (.ref C) → XnC K C ∧ PySem.W.kitAny K (.ref C) [(.ref D0), (.ref D1)] = some b) : Cal P w K mg base 5 "_law_asked" ["_law_text"] f_law_asked := by
  obtain ⟨_, _, _, k_BadRow_BadText_NoTour_BadRow, k_BadRow_BadText_NoTour_BadText, k_BadRow_BadText_NoTour_NoTour, k_BadRow_BadText_NoTour_x⟩ := k_BadRow_BadText_NoTour
  obtain ⟨_, j_BadText_BadText, j_BadText_x⟩ := j_BadText
  have j_ValueError_x := j_ValueError
  obtain ⟨_, _, j_BadRow_NoTour_BadRow, j_BadRow_NoTour_NoTour, j_BadRow_NoTour_x⟩ := j_BadRow_NoTour
  refine ⟨fa, fd, fn_by (k := 4) false 1 5 b_law_asked rfl F sc_law_asked rfl rfl fun cdv A outer s H E hr hgd => ?_, hm, F.kp, F.binds (ps := ["_law_text"]) fun _ _ _ _ _ _ us hl => match us, hl with | [_], _ => rfl⟩
  have S := sc_law_asked
  unfold b_law_asked b_law_asked_s5 b_law_asked_s4 b_law_asked_s3 b_law_asked_s2 b_law_asked_s1
  exact sb_cons (sx_asg (se_tup (sa_cons (se_non) (sa_cons (se_non) (sa_nil)))) (tg_of (sg_tup rfl (sgs_cons (sg_nm 1 S.nd) (sgs_cons (sg_nm 2 S.nd) (sgs_nil))))))
        (sb_cons (sx_try ["BadText"] 3 2 S.nd (.tup (by decide) (.cons ⟨_, _, rfl, rfl, by decide, .inl k_BadRow_BadText_NoTour_BadRow⟩ (.cons ⟨_, _, rfl, rfl, by decide, .inl k_BadRow_BadText_NoTour_BadText⟩ (.cons ⟨_, _, rfl, rfl, by decide, .inl k_BadRow_BadText_NoTour_NoTour⟩ (.nil))))) k_BadRow_BadText_NoTour_x (fun Z tp txe tk po => sb_one (sx_set 1 S.nd (se_calX x_trip_inX hr hgd tk (sa_cons (sv 0) (sa_nil)) (by omega)))))
        (sb_cons (sx_if (st_isN (sv 2) (se_non)) (sb_one (sx_ret (sv 1))) (sb_nil))
        (sb_cons (sx_set 4 S.nd (se_and (se_isE [("BadText", true)] rfl z_isinstance (.own rfl j_BadText_BadText (by decide) (.nil)) j_BadText_x (sv 2)) (se_and (se_isE [("BadText", true)] rfl z_isinstance (.blt rfl z_ValueError (by rfl) (by decide) (by decide) (.nil)) j_ValueError_x (sv 2)) (se_one (se_not (se_isET [("BadText", false)] rfl z_isinstance (.own rfl j_BadRow_NoTour_BadRow (by decide) (.own rfl j_BadRow_NoTour_NoTour (by decide) (.nil))) (by decide) j_BadRow_NoTour_x (sv 2)))))))
        (sb_one (sx_ret (se_if (SW.st (sw_and (st_val (sv 4)) (sw_and1 (st_eq hr (se_what ["BadText"] v_what (sv 2)) (sv 0))))) (se_non) (se_str)))))))
end
abbrev s_law_number : Stmt := topS 35
theorem sc_law_number : FnScope ["_law_word", "_law_least", "_law_most", "_law_sign"] ["_law_word", "_law_least", "_law_most"] (defScope s_law_number) := ⟨rfl, rfl, rfl, by decide +kernel, rfl, by decide +kernel, by decide +kernel⟩
noncomputable def b_law_number_c1 : ES := eBin oInS (eVar 3) (eC (.str "0123456789"))
noncomputable def b_law_number_s1 : SS := sIf (tOr (tNot (tVal (eChain oLt oLt (eC (.int 0)) (eFn bLen (aCons (eVar 0) (aNil))) (eC (.int 20))))) (tNot (tVal (eFn bAll (aCons (eFrz (nComp (iTxt (eVar 0)) [3] (.nm 3) (tTrue) (b_law_number_c1))) (aNil)))))) (sRet (eC .non)) (sNx)
noncomputable def b_law_number_s2 : SS := sIf (tAnd (tVal (eBin oNe (eVar 0) (eC (.str "0")))) (tVal (eBin oEq (eBin oIxS (eVar 0) (eC (.int 0))) (eC (.str "0"))))) (sRet (eC .non)) (sNx)
noncomputable def b_law_number_s3 : SS := sRet (eIf (tAnd (tVal (eBin oLe (eVar 1) (eFn bIntT (aCons (eVar 0) (aNil))))) (tOr (tVal (eBin oIsN (eVar 2) (eC .non))) (tVal (eBin oLe (eFn bIntT (aCons (eVar 0) (aNil))) (eVar 2))))) (eFn bIntT (aCons (eVar 0) (aNil))) (eC .non))
noncomputable def b_law_number : SS := sSeq (b_law_number_s1)
  (sSeq (b_law_number_s2)
  (b_law_number_s3))
noncomputable def f_law_number : Fn := mkFn false 3 4 b_law_number
section
variable {P : Program} {w : World} {K : PySem.W.Frag} {mg : Str → Option Value} {base : Heap}
theorem ok_law_number {fa : Addr} {fd : FuncData} (F : Fun K "_law_number" "_law_number" s_law_number fa fd) (hm : mg "_law_number" = some (.ref fa)) (z_len : mg "len" = none) (z_all : mg "all" = none) (z_int : mg "int" = none) : Cal P w K mg base 1 "_law_number" ["_law_word", "_law_least", "_law_most"] f_law_number := by
  refine ⟨fa, fd, fn_by (k := 0) false 3 4 b_law_number rfl F sc_law_number rfl rfl fun cdv A outer s H E hr hgd => ?_, hm, F.kp, F.binds (ps := ["_law_word", "_law_least", "_law_most"]) fun _ _ _ _ _ _ us hl => match us, hl with | [_, _, _], _ => rfl⟩
  have S := sc_law_number
  unfold b_law_number b_law_number_s3 b_law_number_s2 b_law_number_s1 b_law_number_c1
  exact sb_cons (sx_if (SW.st (sw_or (st_not (st_ltlt (se_int) (se_len (by rfl) z_len (sa_cons (sv 0) (sa_nil))) (se_int))) (sw_or1 (st_not (st_val (se_all rfl (by rfl) z_all (sa_cons (se_frz (sn_comp rfl S.nd (si_txt (sv 0)) (bk_by (own := [("_law_sign", 3)]) (by rfl)) (fun _ _ _ _ _ => sg_nm 3 S.nd) (fun _ _ _ _ _ => sts_nil) (fun _ _ _ _ _ => se_inS (sv 3) (se_str)) (by decide))) (sa_nil)))))))) (sb_one (sx_ret (se_non))) (sb_nil))
        (sb_cons (sx_if (SW.st (sw_and (st_ne hr (sv 0) (se_str)) (sw_and1 (st_eq hr (se_ixS (sv 0) (se_int)) (se_str))))) (sb_one (sx_ret (se_non))) (sb_nil))
        (sb_one (sx_ret (se_if (SW.st (sw_and (st_le (sv 1) (se_bintT (by rfl) z_int (sa_cons (sv 0) (sa_nil)))) (sw_and1 (SW.st (sw_or (st_isN (sv 2) (se_non)) (sw_or1 (st_le (se_bintT (by rfl) z_int (sa_cons (sv 0) (sa_nil))) (sv 2)))))))) (se_bintT (by rfl) z_int (sa_cons (sv 0) (sa_nil))) (se_non)))))
end
abbrev s_law_part : Stmt := topS 36
theorem sc_law_part : FnScope ["_law_sort", "_law_word", "_law_fine", "_law_least", "_law_most", "_law_sign"] ["_law_sort", "_law_word"] (defScope s_law_part) := ⟨rfl, rfl, rfl, by decide +kernel, rfl, by decide +kernel, by decide +kernel⟩
noncomputable def b_law_part_c1 : ES := eChain oLeS oLeS (eC (.str "a")) (eVar 5) (eC (.str "z"))
noncomputable def b_law_part_s1 : SS := sIf (tVal (eBin oEq (eVar 0) (eC (.str "b")))) (sSeq (sSet 2 (eAnd (eChain oLt oLt (eC (.int 0)) (eFn bLen (aCons (eVar 1) (aNil))) (eC (.int 9))) (eFn bAll (aCons (eFrz (nComp (iTxt (eVar 1)) [5] (.nm 5) (tTrue) (b_law_part_c1))) (aNil)))))
  (sRet (eIf (tVal (eVar 2)) (eVar 1) (eC .non)))) (sNx)
noncomputable def b_law_part_s2 : SS := sAsg (eDget (eDctN [(eC (.str "l"), eTup (aCons (eC (.int 1)) (aCons (eC (.int 20)) (aNil)))), (eC (.str "q"), eTup (aCons (eC (.int 0)) (aCons (eC (.int 20)) (aNil)))), (eC (.str "m"), eTup (aCons (eC (.int 1)) (aCons (eC .non) (aNil))))]) (eVar 0)) (gT (.tp [.nm 3, .nm 4]))
noncomputable def b_law_part_s3 : SS := sRet (eCall f_law_number (aCons (eVar 1) (aCons (eVar 3) (aCons (eVar 4) (aNil)))))
noncomputable def b_law_part : SS := sSeq (b_law_part_s1)
  (sSeq (b_law_part_s2)
  (b_law_part_s3))
noncomputable def f_law_part : Fn := mkFn false 2 6 b_law_part
section
variable {P : Program} {w : World} {K : PySem.W.Frag} {mg : Str → Option Value} {base : Heap}
theorem ok_law_part {fa : Addr} {fd : FuncData} (F : Fun K "_law_part" "_law_part" s_law_part fa fd) (hm : mg "_law_part" = some (.ref fa)) (z_len : mg "len" = none) (z_all : mg "all" = none) (c_law_number : Cal P w K mg base 1 "_law_number" ["_law_word", "_law_least", "_law_most"] f_law_number) : Cal P w K mg base 2 "_law_part" ["_law_sort", "_law_word"] f_law_part := by
  refine ⟨fa, fd, fn_by (k := 1) false 2 6 b_law_part rfl F sc_law_part rfl rfl fun cdv A outer s H E hr hgd => ?_, hm, F.kp, F.binds (ps := ["_law_sort", "_law_word"]) fun _ _ _ _ _ _ us hl => match us, hl with | [_, _], _ => rfl⟩
  have S := sc_law_part
  unfold b_law_part b_law_part_s3 b_law_part_s2 b_law_part_s1 b_law_part_c1
  exact sb_cons (sx_if (st_eq hr (sv 0) (se_str)) (sb_cons (sx_set 2 S.nd (se_and (se_ltlt (se_int) (se_len (by rfl) z_len (sa_cons (sv 1) (sa_nil))) (se_int)) (se_one (se_all rfl (by rfl) z_all (sa_cons (se_frz (sn_comp rfl S.nd (si_txt (sv 1)) (bk_by (own := [("_law_sign", 5)]) (by rfl)) (fun _ _ _ _ _ => sg_nm 5 S.nd) (fun _ _ _ _ _ => sts_nil) (fun _ _ _ _ _ => se_leleS (se_str) (sv 5) (se_str)) (by decide))) (sa_nil))))))
        (sb_one (sx_ret (se_if (st_val (sv 2)) (sv 1) (se_non))))) (sb_nil))
        (sb_cons (sx_asg (se_dget hr (se_dctN (sps_cons (se_str) (se_tup (sa_cons (se_int) (sa_cons (se_int) (sa_nil)))) (sps_cons (se_str) (se_tup (sa_cons (se_int) (sa_cons (se_int) (sa_nil)))) (sps_cons (se_str) (se_tup (sa_cons (se_int) (sa_cons (se_non) (sa_nil)))) (sps_nil))))) (sv 0)) (tg_of (sg_tup rfl (sgs_cons (sg_nm 3 S.nd) (sgs_cons (sg_nm 4 S.nd) (sgs_nil))))))
        (sb_one (sx_ret (se_cal c_law_number hr hgd (sa_cons (sv 1) (sa_cons (sv 3) (sa_cons (sv 4) (sa_nil)))) (by omega)))))
end
abbrev s_law_due : Stmt := topS 37
theorem sc_law_due : FnScope ["_law_text", "_law_words", "_law_shapes", "_law_shape", "_law_parts", "_law_sort", "_law_word"] ["_law_text"] (defScope s_law_due) := ⟨rfl, rfl, rfl, by decide +kernel, rfl, by decide +kernel, by decide +kernel⟩
noncomputable def b_law_due_s1 : SS := sSet 2 (eDctN [(eC (.str "up"), eC (.str "bl")), (eC (.str "down"), eC (.str "bl")), (eC (.str "turn"), eC (.str "l")), (eC (.str "load"), eC (.str "bm")), (eC (.str "unload"), eC (.str "bm")), (eC (.str "carry"), eC (.str "qqm")), (eC (.str "rain"), eC (.str "lm"))])
noncomputable def b_law_due_s2 : SS := sSet 3 (eDget2 (eDctN [(eC (.str "draw"), eC (.str "lm"))]) (eBin oIx (eVar 1) (eC (.int 0))) (eDget2 (eVar 2) (eBin oIx (eVar 1) (eC (.int 0))) (eC (.str "none"))))
noncomputable def b_law_due_s3 : SS := sIf (tOr (tVal (eBin oEq (eVar 3) (eC (.str "none")))) (tVal (eBin oNe (eFn bLen (aCons (eVar 1) (aNil))) (eBin oAdd (eFn bLen (aCons (eVar 3) (aNil))) (eC (.int 1)))))) (sRet (eC .non)) (sNx)
noncomputable def b_law_due_c1 : ES := eCall f_law_part (aCons (eVar 5) (aCons (eVar 6) (aNil)))
noncomputable def b_law_due_s4 : SS := sSet 4 (eFrz (nComp (iZipL (aCons (eVar 3) (aCons (eCut (eVar 1) (pOf (eC (.int 1))) (pNo)) (aNil)))) [5, 6] (.tp [.nm 5, .nm 6]) (tTrue) (b_law_due_c1)))
noncomputable def b_law_due_s5 : SS := sIf (tOr (tVal (eBin (oInB false) (eC .non) (eVar 4))) (tAnd (tVal (eBin oEq (eBin oIx (eVar 1) (eC (.int 0))) (eC (.str "carry")))) (tVal (eBin oEq (eBin oIx (eVar 4) (eC (.int 0))) (eBin oIx (eVar 4) (eC (.int 1))))))) (sRet (eC .non)) (sNx)
noncomputable def b_law_due_s6 : SS := sRet (eFn bTuple (aCons (eBin oAdd (eCut (eVar 1) (pNo) (pOf (eC (.int 1)))) (eVar 4)) (aNil)))
noncomputable def b_law_due : SS := sSeq (sSet 1 (eFrz (nSplit (eVar 0) (eC (.str " ")))))
  (sSeq (b_law_due_s1)
  (sSeq (b_law_due_s2)
  (sSeq (b_law_due_s3)
  (sSeq (b_law_due_s4)
  (sSeq (b_law_due_s5)
  (b_law_due_s6))))))
noncomputable def f_law_due : Fn := mkFn false 1 7 b_law_due
section
variable {P : Program} {w : World} {K : PySem.W.Frag} {mg : Str → Option Value} {base : Heap}
theorem ok_law_due {fa : Addr} {fd : FuncData} (F : Fun K "_law_due" "_law_due" s_law_due fa fd) (hm : mg "_law_due" = some (.ref fa)) (z_len : mg "len" = none) (z_zip : mg "zip" = none) (z_tuple : mg "tuple" = none) (c_law_part : Cal P w K mg base 2 "_law_part" ["_law_sort", "_law_word"] f_law_part) : Cal P w K mg base 3 "_law_due" ["_law_text"] f_law_due := by
  refine ⟨fa, fd, fn_by (k := 2) false 1 7 b_law_due rfl F sc_law_due rfl rfl fun cdv A outer s H E hr hgd => ?_, hm, F.kp, F.binds (ps := ["_law_text"]) fun _ _ _ _ _ _ us hl => match us, hl with | [_], _ => rfl⟩
  have S := sc_law_due
  unfold b_law_due b_law_due_s6 b_law_due_s5 b_law_due_s4 b_law_due_c1 b_law_due_s3 b_law_due_s2 b_law_due_s1
  exact sb_cons (sx_set 1 S.nd (se_frz (sn_split (sv 0) (se_str))))
        (sb_cons (sx_set 2 S.nd (se_dctN (sps_cons (se_str) (se_str) (sps_cons (se_str) (se_str) (sps_cons (se_str) (se_str) (sps_cons (se_str) (se_str) (sps_cons (se_str) (se_str) (sps_cons (se_str) (se_str) (sps_cons (se_str) (se_str) (sps_nil))))))))))
        (sb_cons (sx_set 3 S.nd (se_dget2 hr (se_dctN (sps_cons (se_str) (se_str) (sps_nil))) (se_ix (sv 1) (se_int)) (se_dget2 hr (sv 2) (se_ix (sv 1) (se_int)) (se_str))))
        (sb_cons (sx_if (SW.st (sw_or (st_eq hr (sv 3) (se_str)) (sw_or1 (st_ne hr (se_len (by rfl) z_len (sa_cons (sv 1) (sa_nil))) (se_add (se_len (by rfl) z_len (sa_cons (sv 3) (sa_nil))) (se_int)))))) (sb_one (sx_ret (se_non))) (sb_nil))
        (sb_cons (sx_setC 4 (.inl rfl) rfl S.nd (si_zipL' (by rfl) z_zip (sa_cons (sv 3) (sa_cons (se_cut (sv 1) (sp_of (se_int)) (sp_no)) (sa_nil)))) (bk_by (own := [("_law_sort", 5), ("_law_word", 6)]) (by rfl)) (fun _ _ _ _ _ => sg_tup rfl (sgs_cons (sg_nm 5 S.nd) (sgs_cons (sg_nm 6 S.nd) (sgs_nil)))) (fun _ _ _ _ _ => sts_nil) (fun _ _ _ _ _ => se_cal c_law_part hr hgd (sa_cons (sv 5) (sa_cons (sv 6) (sa_nil))) (by omega)) (by decide) rfl)
        (sb_cons (sx_if (SW.st (sw_or (st_in (se_non) (sv 4)) (sw_or1 (SW.st (sw_and (st_eq hr (se_ix (sv 1) (se_int)) (se_str)) (sw_and1 (st_eq hr (se_ix (sv 4) (se_int)) (se_ix (sv 4) (se_int))))))))) (sb_one (sx_ret (se_non))) (sb_nil))
        (sb_one (sx_ret (se_tuple (by rfl) z_tuple (sa_cons (se_add (se_cut (sv 1) (sp_no) (sp_of (se_int))) (sv 4)) (sa_nil))))))))))
end
abbrev s_trip_text : Stmt := topS 18
theorem sc_trip_text : FnScope ["trip", "part"] ["trip"] (defScope s_trip_text) := ⟨rfl, rfl, rfl, by decide +kernel, rfl, by decide +kernel, by decide +kernel⟩
noncomputable def b_trip_text_c1 : ES := eStrB (aCons (eVar 1) (aNil))
noncomputable def b_trip_text : SS := sRet (eJoin (eC (.str " ")) (eFrz (nComp (iOf (eVar 0)) [1] (.nm 1) (tTrue) (b_trip_text_c1))))
noncomputable def f_trip_text : Fn := mkFn false 1 2 b_trip_text
section
variable {P : Program} {w : World} {K : PySem.W.Frag} {mg : Str → Option Value} {base : Heap}
theorem ok_trip_text {fa : Addr} {fd : FuncData} (F : Fun K "trip_text" "trip_text" s_trip_text fa fd) (hm : mg "trip_text" = some (.ref fa)) (z_str : mg "str" = none) : Cal P w K mg base 1 "trip_text" ["trip"] f_trip_text := by
  refine ⟨fa, fd, fn_by (k := 0) false 1 2 b_trip_text rfl F sc_trip_text rfl rfl fun cdv A outer s H E hr hgd => ?_, hm, F.kp, F.binds (ps := ["trip"]) fun _ _ _ _ _ _ us hl => match us, hl with | [_], _ => rfl⟩
  have S := sc_trip_text
  unfold b_trip_text b_trip_text_c1
  exact sb_one (sx_ret (se_join (se_str) (se_frz (sn_comp rfl S.nd (si_seq (sv 0)) (bk_by (own := [("part", 1)]) (by rfl)) (fun _ _ _ _ _ => sg_nm 1 S.nd) (fun _ _ _ _ _ => sts_nil) (fun _ _ _ _ _ => se_strB (by rfl) z_str (sa_cons (sv 1) (sa_nil))) (by decide)))))
end
abbrev s_law_right : Stmt := topS 40
theorem sc_law_right : FnScope ["_law_box_here", "_law_by", "_law_w", "_law_texts", "_law_turn", "_law_trip_here", "_law_text", "_law_one", "_law_part_here", "_law_again"] ["_law_box_here"] (defScope s_law_right) := ⟨rfl, rfl, rfl, by decide +kernel, rfl, by decide +kernel, by decide +kernel⟩
noncomputable def b_law_right_s1 : SS := sSet 2 (eCallO f_law_house (aCons (eVar 0) (aCons (eC (.int 6)) (aCons (eVar 1) (aCons (eC (.int 4)) (aNil))))))
noncomputable def b_law_right_s2 : SS := sSet 3 (eFrz (nLst (aCons (eC (.str "")) (aCons (eC (.str " ")) (aCons (eC (.str "up")) (aCons (eC (.str "up a")) (aCons (eC (.str "up a 1")) (aCons (eC (.str "up a 01")) (aCons (eC (.str "up a 0")) (aCons (eC (.str "up a 20")) (aCons (eC (.str "up a 21")) (aCons (eC (.str "up abcdefghi 1")) (aCons (eC (.str "up A 1")) (aNil))))))))))))))
noncomputable def b_law_right_s3 : SS := sSet 3 (eBin oAdd (eVar 3) (eFrz (nLst (aCons (eC (.str "turn 1")) (aCons (eC (.str "turn")) (aCons (eC (.str "turn 1 ")) (aCons (eC (.str "turn  1")) (aCons (eC (.str "turns 1")) (aCons (eC (.str "carry 0 0 1")) (aCons (eC (.str "carry 0 20 1")) (aCons (eC (.str "carry 1 0 0")) (aNil))))))))))))
noncomputable def b_law_right_s4 : SS := sSet 3 (eBin oAdd (eVar 3) (eFrz (nLst (aCons (eC (.str "rain 0 1")) (aCons (eBin oAdd (eC (.str "draw 1 ")) (eBin oMulK (eC (.str "9")) (eC (.int 19)))) (aCons (eBin oAdd (eC (.str "draw 1 ")) (eBin oMulK (eC (.str "1")) (eC (.int 20)))) (aCons (eC (.str "load 1 a")) (aCons (eC (.str "fill 1")) (aCons (eC (.str "unload a -1")) (aNil))))))))))
noncomputable def b_law_right_s5 : SS := sSet 3 (eBin oAdd (eVar 3) (eFrz (nLst (aCons (eC (.str "up a 1\n")) (aCons (eC (.str "draw 1 0")) (aCons (eC (.str "up  1")) (aCons (eC (.str "draw 1 +5")) (aCons (eC (.str "draw 1 1_0")) (aCons (eC (.str "up a +1")) (aCons (eC (.str "draw 1 5.0")) (aCons (eC (.str "turn turn")) (aNil))))))))))))
noncomputable def b_law_right_s6 : SS := sSet 3 (eBin oAdd (eVar 3) (eFrz (nLst (aCons (eC (.str "up turn 1")) (aCons (eC (.str "load draw 3")) (aCons (eC (.str "carry a 1 1")) (aCons (eC (.str "load a1 1")) (aCons (eC (.str "load a- 1")) (aNil)))))))))
noncomputable def b_law_right_s7 : SS := sSet 5 (eCall f_law_trip (aCons (eVar 0) (aCons (eVar 2) (aCons (eVar 1) (aNil)))))
noncomputable def b_law_right_c1 : ES := eStrB (aCons (eVar 8) (aNil))
noncomputable def b_law_right_s8 : SS := sSet 6 (eJoin (eC (.str " ")) (eFrz (nComp (iOf (eVar 5)) [8] (.nm 8) (tTrue) (b_law_right_c1))))
noncomputable def b_law_right_s9 : SS := sIf (tNot (tVal (eCall (f_law_same 10) (aCons (eFrz (nLst (aCons (eCall f_trip_text (aCons (eVar 5) (aNil))) (aCons (eCall f_trip_text (aCons (eFrz (nListOf (aCons (eVar 5) (aNil)))) (aNil))) (aCons (eCall f_trip_inX (aCons (eVar 6) (aNil))) (aNil)))))) (aCons (eFrz (nLst (aCons (eVar 6) (aCons (eVar 6) (aCons (eVar 5) (aNil)))))) (aNil)))))) (sRet (eC (.bl false))) (sNx)
noncomputable def b_law_right_c2 : ES := eCall f_law_bent_text (aCons (eVar 0) (aCons (eVar 6) (aNil)))
noncomputable def b_law_right_s10 : SS := sSet 3 (eBin oAdd (eBin oAdd (eVar 3) (eFrz (nLst (aCons (eVar 6) (aNil))))) (eFrz (nComp (iRange1 (aCons (eC (.int 3)) (aNil))) [9] (.nm 9) (tTrue) (b_law_right_c2))))
noncomputable def b_law_right_l1 : SS := sSeq (b_law_right_s7)
  (sSeq (b_law_right_s8)
  (sSeq (b_law_right_s9)
  (b_law_right_s10)))
noncomputable def b_law_right_s11 : SS := sFor (iRange1 (aCons (eC (.int 10)) (aNil))) (.nm 4) (b_law_right_l1)
noncomputable def b_law_right_c3 : ES := eCall (f_law_same 10) (aCons (eCall f_law_asked (aCons (eVar 7) (aNil))) (aCons (eCall f_law_due (aCons (eVar 7) (aNil))) (aNil)))
noncomputable def b_law_right_s12 : SS := sRet (eFn bAll (aCons (eFrz (nComp (iOf (eVar 3)) [7] (.nm 7) (tTrue) (b_law_right_c3))) (aNil)))
noncomputable def b_law_right : SS := sSeq (sSet 1 (eCall f_law_great (aCons (eVar 0) (aNil))))
  (sSeq (b_law_right_s1)
  (sSeq (b_law_right_s2)
  (sSeq (b_law_right_s3)
  (sSeq (b_law_right_s4)
  (sSeq (b_law_right_s5)
  (sSeq (b_law_right_s6)
  (sSeq (b_law_right_s11)
  (b_law_right_s12))))))))
noncomputable def f_law_right : Fn := mkFn false 1 10 b_law_right
section
variable {P : Program} {w : World} {K : PySem.W.Frag} {mg : Str → Option Value} {base : Heap}
theorem ok_law_right {fa : Addr} {fd : FuncData} (F : Fun K "_law_right" "_law_right" s_law_right fa fd) (hm : mg "_law_right" = some (.ref fa)) (z_range : mg "range" = none) (z_str : mg "str" = none) (z_list : mg "list" = none) (z_all : mg "all" = none) (c_law_great : Cal P w K mg base 9 "_law_great" ["_law_box_here"] f_law_great) (c_law_house : CalO P w K mg base 10 "_law_house" ["_law_box_here", "_law_cap", "_law_by", "_law_most"] f_law_house) (c_law_trip : Cal P w K mg base 10 "_law_trip" ["_law_box_here", "_law_w", "_law_by"] f_law_trip) (c_trip_inX : Cal P w K mg base 4 "trip_in" ["text"] f_trip_inX) (c_trip_text : Cal P w K mg base 1 "trip_text" ["trip"] f_trip_text) (c_law_same : Cal P w K mg base 10 "_law_same" ["_law_found", "_law_due_here"] (f_law_same 10)) (c_law_bent_text : Cal P w K mg base 10 "_law_bent_text" ["_law_box_here", "_law_text"] f_law_bent_text) (c_law_due : Cal P w K mg base 3 "_law_due" ["_law_text"] f_law_due) (c_law_asked : Cal P w K mg base 5 "_law_asked" ["_law_text"] f_law_asked) : Cal P w K mg base 11 "_law_right" ["_law_box_here"] f_law_right := by
  refine ⟨fa, fd, fn_by (k := 10) false 1 10 b_law_right rfl F sc_law_right rfl rfl fun cdv A outer s H E hr hgd => ?_, hm, F.kp, F.binds (ps := ["_law_box_here"]) fun _ _ _ _ _ _ us hl => match us, hl with | [_], _ => rfl⟩
  have S := sc_law_right
  unfold b_law_right b_law_right_s12 b_law_right_c3 b_law_right_s11 b_law_right_l1 b_law_right_s10 b_law_right_c2 b_law_right_s9 b_law_right_s8 b_law_right_c1 b_law_right_s7 b_law_right_s6 b_law_right_s5 b_law_right_s4 b_law_right_s3 b_law_right_s2 b_law_right_s1
  exact sb_cons (sx_set 1 S.nd (se_cal c_law_great hr hgd (sa_cons (sv 0) (sa_nil)) (by omega)))
        (sb_cons (sx_set 2 S.nd (se_calO c_law_house hr hgd (sa_cons (sv 0) (sa_cons (se_int) (sa_cons (sv 1) (sa_cons (se_int) (sa_nil))))) (by omega)))
        (sb_cons (sx_set 3 S.nd (se_frz (sn_lst (sa_cons (se_str) (sa_cons (se_str) (sa_cons (se_str) (sa_cons (se_str) (sa_cons (se_str) (sa_cons (se_str) (sa_cons (se_str) (sa_cons (se_str) (sa_cons (se_str) (sa_cons (se_str) (sa_cons (se_str) (sa_nil)))))))))))))))
        (sb_cons (sx_set 3 S.nd (se_add (sv 3) (se_frz (sn_lst (sa_cons (se_str) (sa_cons (se_str) (sa_cons (se_str) (sa_cons (se_str) (sa_cons (se_str) (sa_cons (se_str) (sa_cons (se_str) (sa_cons (se_str) (sa_nil)))))))))))))
        (sb_cons (sx_set 3 S.nd (se_add (sv 3) (se_frz (sn_lst (sa_cons (se_str) (sa_cons (se_add (se_str) (se_mulK (se_str) (se_int))) (sa_cons (se_add (se_str) (se_mulK (se_str) (se_int))) (sa_cons (se_str) (sa_cons (se_str) (sa_cons (se_str) (sa_nil)))))))))))
        (sb_cons (sx_set 3 S.nd (se_add (sv 3) (se_frz (sn_lst (sa_cons (se_str) (sa_cons (se_str) (sa_cons (se_str) (sa_cons (se_str) (sa_cons (se_str) (sa_cons (se_str) (sa_cons (se_str) (sa_cons (se_str) (sa_nil)))))))))))))
        (sb_cons (sx_set 3 S.nd (se_add (sv 3) (se_frz (sn_lst (sa_cons (se_str) (sa_cons (se_str) (sa_cons (se_str) (sa_cons (se_str) (sa_cons (se_str) (sa_nil))))))))))
        (sb_cons (sx_for PassesOwn.never rfl (si_range1 (by rfl) z_range (sa_cons (se_int) (sa_nil))) (sg_nm 4 S.nd) (sb_cons (sx_set 5 S.nd (se_cal c_law_trip hr hgd (sa_cons (sv 0) (sa_cons (sv 2) (sa_cons (sv 1) (sa_nil)))) (by omega)))
        (sb_cons (sx_set 6 S.nd (se_join (se_str) (se_frz (sn_comp rfl S.nd (si_seq (sv 5)) (bk_by (own := [("_law_part_here", 8)]) (by rfl)) (fun _ _ _ _ _ => sg_nm 8 S.nd) (fun _ _ _ _ _ => sts_nil) (fun _ _ _ _ _ => se_strB (by rfl) z_str (sa_cons (sv 8) (sa_nil))) (by decide)))))
        (sb_cons (sx_if (st_not (st_val (se_cal c_law_same hr hgd (sa_cons (se_frz (sn_lst (sa_cons (se_cal c_trip_text hr hgd (sa_cons (sv 5) (sa_nil)) (by omega)) (sa_cons (se_cal c_trip_text hr hgd (sa_cons (se_frz (sn_list (by rfl) z_list (sa_cons (sv 5) (sa_nil)))) (sa_nil)) (by omega)) (sa_cons (se_cal c_trip_inX hr hgd (sa_cons (sv 6) (sa_nil)) (by omega)) (sa_nil)))))) (sa_cons (se_frz (sn_lst (sa_cons (sv 6) (sa_cons (sv 6) (sa_cons (sv 5) (sa_nil)))))) (sa_nil))) (by omega)))) (sb_one (sx_ret (se_bl))) (sb_nil))
        (sb_one (sx_set 3 S.nd (se_add (se_add (sv 3) (se_frz (sn_lst (sa_cons (sv 6) (sa_nil))))) (se_frz (sn_comp rfl S.nd (si_range1 (by rfl) z_range (sa_cons (se_int) (sa_nil))) (bk_by (own := [("_law_again", 9)]) (by rfl)) (fun _ _ _ _ _ => sg_nm 9 S.nd) (fun _ _ _ _ _ => sts_nil) (fun _ _ _ _ _ => se_cal c_law_bent_text hr hgd (sa_cons (sv 0) (sa_cons (sv 6) (sa_nil))) (by omega)) (by decide))))))))))
        (sb_one (sx_ret (se_all rfl (by rfl) z_all (sa_cons (se_frz (sn_comp rfl S.nd (si_seq (sv 3)) (bk_by (own := [("_law_one", 7)]) (by rfl)) (fun _ _ _ _ _ => sg_nm 7 S.nd) (fun _ _ _ _ _ => sts_nil) (fun _ _ _ _ _ => se_cal c_law_same hr hgd (sa_cons (se_cal c_law_asked hr hgd (sa_cons (sv 7) (sa_nil)) (by omega)) (sa_cons (se_cal c_law_due hr hgd (sa_cons (sv 7) (sa_nil)) (by omega)) (sa_nil))) (by omega)) (by decide))) (sa_nil))))))))))))
end
abbrev s_law_box : Stmt := topS 21
theorem sc_law_box : FnScope ["_law_script", "_law_k", "_law_cell"] ["_law_script", "_law_k"] (defScope s_law_box) := ⟨rfl, rfl, rfl, by decide +kernel, rfl, by decide +kernel, by decide +kernel⟩
section
variable {P : Program} {w : World} {K : PySem.W.Frag} {mg : Str → Option Value} {base : Heap}
theorem ok_law_box {fa : Addr} {fd : FuncData} (F : Fun K "_law_box" "_law_box" s_law_box fa fd) (hm : mg "_law_box" = some (.ref fa)) (z_len : mg "len" = none) (z_abs : mg "abs" = none) (z_int : mg "int" = none) : Cal P w K mg base 1 "_law_box" ["_law_script", "_law_k"] f_law_box := by
  refine ⟨fa, fd, fn_by (k := 0) true 2 3 b_law_box rfl F sc_law_box rfl rfl fun cdv A outer s H E hr hgd => ?_, hm, F.kp, F.binds (ps := ["_law_script", "_law_k"]) fun _ _ _ _ _ _ us hl => match us, hl with | [_, _], _ => rfl⟩
  have S := sc_law_box
  unfold b_law_box
  exact sb_cons (sx_set 2 S.nd (se_if (st_lt (sv 1) (se_len (by rfl) z_len (sa_cons (sv 0) (sa_nil)))) (se_ix (sv 0) (sv 1)) (se_int)))
        (sb_one (sx_ret (se_thw (sn_lst (sa_cons (se_mul (se_abs (by rfl) z_abs (sa_cons (sv 2) (sa_nil))) (se_bint (by rfl) z_int (sa_cons (se_ge (se_abs (by rfl) z_abs (sa_cons (sv 2) (sa_nil))) (se_pow (se_int) (se_int))) (sa_nil)))) (sa_cons (se_mod (se_mul (se_add (se_add (se_mod (sv 2) (se_int)) (se_mul (se_int) (sv 1))) (se_int)) (se_int)) (se_int)) (sa_cons (se_int) (sa_nil))))))))
end
abbrev s_law : Stmt := topS 41
theorem sc_law : FnScope ["_law_script", "_law_cells_here", "_law_k"] ["_law_script"] (defScope s_law) := ⟨rfl, rfl, rfl, by decide +kernel, rfl, by decide +kernel, by decide +kernel⟩
noncomputable def b_law_s1 : SS := sSet 1 (eCall f_law_cells (aCons (eVar 0) (aCons (eC (.int 3)) (aNil))))
noncomputable def b_law_c1 : ES := eCall f_law_right (aCons (eCall f_law_box (aCons (eVar 1) (aCons (eVar 2) (aNil)))) (aNil))
noncomputable def b_law_s2 : SS := sRet (eFn bAll (aCons (eFrz (nComp (iRange1 (aCons (eFn bLen (aCons (eVar 1) (aNil))) (aNil))) [2] (.nm 2) (tTrue) (b_law_c1))) (aNil)))
noncomputable def b_law : SS := sSeq (b_law_s1)
  (b_law_s2)
noncomputable def f_law : Fn := mkFn false 1 3 b_law
section
variable {P : Program} {w : World} {K : PySem.W.Frag} {mg : Str → Option Value} {base : Heap}
theorem ok_law {fa : Addr} {fd : FuncData} (F : Fun K "law" "law" s_law fa fd) (hm : mg "law" = some (.ref fa)) (z_len : mg "len" = none) (z_range : mg "range" = none) (z_all : mg "all" = none) (c_law_cells : Cal P w K mg base 2 "_law_cells" ["_law_script", "_law_size"] f_law_cells) (c_law_box : Cal P w K mg base 1 "_law_box" ["_law_script", "_law_k"] f_law_box) (c_law_right : Cal P w K mg base 11 "_law_right" ["_law_box_here"] f_law_right) : FnG P w K mg base CX0 12 fa fd ["_law_script"] (spF ⟨K, mg⟩ f_law) := by
  refine fn_by (k := 11) false 1 3 b_law rfl F sc_law rfl rfl fun cdv A outer s H E hr hgd => ?_
  have S := sc_law
  unfold b_law b_law_s2 b_law_c1 b_law_s1
  exact sb_cons (sx_set 1 S.nd (se_cal c_law_cells hr hgd (sa_cons (sv 0) (sa_cons (se_int) (sa_nil))) (by omega)))
        (sb_one (sx_ret (se_all rfl (by rfl) z_all (sa_cons (se_frz (sn_comp rfl S.nd (si_range1 (by rfl) z_range (sa_cons (se_len (by rfl) z_len (sa_cons (sv 1) (sa_nil))) (sa_nil))) (bk_by (own := [("_law_k", 2)]) (by rfl)) (fun _ _ _ _ _ => sg_nm 2 S.nd) (fun _ _ _ _ _ => sts_nil) (fun _ _ _ _ _ => se_cal c_law_right hr hgd (sa_cons (se_cal c_law_box hr hgd (sa_cons (sv 1) (sa_cons (sv 2) (sa_nil))) (by omega)) (sa_nil)) (by omega)) (by decide))) (sa_nil)))))
end
theorem all_mk (hlaw : ∀ ns : List Int, ns.length ≤ 63 → ∃ M', f_law [.scr ns] [] = .ok (.bl true) M') {l : PySem.W.OpenLaw} {w : World} {K : PySem.W.Frag} {h : Heap} {mg : Str → Option Value} {fa f0 f1 f2 f3 f4 f5 f6 f7 f8 f9 f10 f11 f12 f13 f14 f15 f16 f17 f18 f19 f20 f21 f22 f23 f24 f25 f26 f27 : Addr} (X : K.In h) (G : h.Ns mainGlobals mg) (hfa : mg "law" = some (.ref fa))
    {od0 an0 od1 an1 od2 an2 od3 an3 od4 an4 od5 an5 od6 an6 od7 an7 od8 an8 od9 an9 od10 an10 od11 an11 od12 an12 od13 an13 od14 an14 od15 an15 od16 an16 od17 an17 od18 an18 od19 an19 od20 an20 od21 an21 od22 an22 od23 an23 od24 an24 od25 an25 od26 an26 od27 an27 : Option Addr} {sl0 sl1 sl2 sl3 sl4 sl5 sl6 sl7 sl8 sl9 sl10 sl11 sl12 sl13 sl14 sl15 sl16 sl17 sl18 sl19 sl20 sl21 sl22 sl23 sl24 sl25 sl26 sl27 : Array (Option Value)} {oc0 kV0 dc0 pm0 ct0 cd0 oc1 kV1 dc1 pm1 ct1 cd1 oc2 kV2 dc2 pm2 ct2 cd2 oc3 kV3 dc3 pm3 ct3 cd3 oc4 kV4 dc4 pm4 ct4 cd4 oc5 kV5 dc5 pm5 ct5 cd5 oc6 kV6 dc6 pm6 ct6 cd6 oc7 kV7 dc7 pm7 ct7 cd7 oc8 kV8 dc8 pm8 ct8 cd8 oc9 kV9 dc9 pm9 ct9 cd9 oc10 kV10 dc10 pm10 ct10 cd10 oc11 kV11 dc11 pm11 ct11 cd11 oc12 kV12 dc12 pm12 ct12 cd12 oc13 kV13 dc13 pm13 ct13 cd13 oc14 kV14 dc14 pm14 ct14 cd14 oc15 kV15 dc15 pm15 ct15 cd15 oc16 kV16 dc16 pm16 ct16 cd16 oc17 kV17 dc17 pm17 ct17 cd17 oc18 kV18 dc18 pm18 ct18 cd18 oc19 kV19 dc19 pm19 ct19 cd19 oc20 kV20 dc20 pm20 ct20 cd20 oc21 kV21 dc21 pm21 ct21 cd21 oc22 kV22 dc22 pm22 ct22 cd22 oc23 kV23 dc23 pm23 ct23 cd23 oc24 kV24 dc24 pm24 ct24 cd24 oc25 kV25 dc25 pm25 ct25 cd25 oc26 kV26 dc26 pm26 ct26 cd26 oc27 kV27 dc27 pm27 ct27 cd27 : Value}
    {CC_BadText : Addr}
    (ac_BadText : PySem.W.nsIn K mainGlobals "BadText" = some (some (.ref CC_BadText)))
    (exs_BadText : PySem.W.subIn K (.ref CC_BadText) (.type "BaseException") = some true)
    (exd_BadText : PySem.W.hasDictIn K CC_BadText = true)
    (ext_BadText : PySem.W.typeIn K (.ref CC_BadText) = some (.type "type"))
    {CC_BadRow : Addr}
    (ac_BadRow : PySem.W.nsIn K mainGlobals "BadRow" = some (some (.ref CC_BadRow)))
    (exs_BadRow : PySem.W.subIn K (.ref CC_BadRow) (.type "BaseException") = some true)
    (exd_BadRow : PySem.W.hasDictIn K CC_BadRow = true)
    (ext_BadRow : PySem.W.typeIn K (.ref CC_BadRow) = some (.type "type"))
    {CC_NoTour : Addr}
    (ac_NoTour : PySem.W.nsIn K mainGlobals "NoTour" = some (some (.ref CC_NoTour)))
    (exs_NoTour : PySem.W.subIn K (.ref CC_NoTour) (.type "BaseException") = some true)
    (exd_NoTour : PySem.W.hasDictIn K CC_NoTour = true)
    (ext_NoTour : PySem.W.typeIn K (.ref CC_NoTour) = some (.type "type"))
    {xnm_BadText xq_BadText : Str} {xN_BadText : Addr} {xbs_BadText : List Value} {xsn_BadText : List Str} {xsu_BadText : List Value} {xab_BadText : Bool} {xco_BadText : Option Bool} {xdd_BadText : Option Addr} {xk0_BadText xk1_BadText xk2_BadText xk3_BadText xk5_BadText : Option Value}
    (xl_BadText : K.lookup CC_BadText = some (excClassObj xnm_BadText xq_BadText CC_BadText xN_BadText xbs_BadText (tailB "ValueError") true xsn_BadText xsu_BadText xab_BadText xco_BadText xdd_BadText xk0_BadText xk1_BadText xk2_BadText xk3_BadText xk5_BadText "ValueError.__new__"))
    (xsa_BadText : PySem.W.findIn K (.ref CC_BadText) "__setattr__" = some (some (.builtin "object.__setattr__")))
    (xk_BadText : PySem.W.keepIn K (.ref CC_BadText) = true)
    (xw_BadText : PySem.W.findIn K (.ref CC_BadText) "what" = some none)
    {xf_BadText : Addr} {xoc_BadText xkV_BadText xdc_BadText xpm_BadText xcd_BadText xct_BadText : Value} {xod_BadText xan_BadText : Option Addr} {xsl_BadText : Array (Option Value)}
    (xi_BadText : PySem.W.findIn K (.ref CC_BadText) "__init__" = some (some (.ref xf_BadText)))
    (xlf_BadText : K.lookup xf_BadText = some ⟨xoc_BadText, xod_BadText, .func (PySem.W.fnOf "__init__" "BadText.__init__" (defArgs s_BadText_ini) (defBody s_BadText_ini) (defScope s_BadText_ini) .none xkV_BadText xdc_BadText xpm_BadText xan_BadText xcd_BadText xct_BadText), xsl_BadText⟩)
    (xcf_BadText : PySem.W.codeIn K xcd_BadText "BadText.__init__" = true)
    (xkf_BadText : PySem.W.keepIn K (.ref xf_BadText) = true)
    (xtf_BadText : PySem.W.typeIn K (.ref xf_BadText) = some (.type "function"))
    (xv_BadText : PySem.W.findCls K (.type "ValueError") (.type "type") "__init__" = some (.val (.builtin "ValueError.__init__")))
    (xga_BadText : PySem.W.findIn K (.ref CC_BadText) "__getattribute__" = some (some (.builtin "BaseException.__getattribute__")))
    (xgg_BadText : PySem.W.findIn K (.ref CC_BadText) "__getattr__" = some none)
    (xca_BadText : PySem.W.findIn K (.ref CC_BadText) "__class__" = some (some (.builtin "object.__class__")))
    (xmr_BadText : PySem.W.mroIn K CC_BadText (.type "object") = some true)
    (xhn : PySem.W.specialIn K (.builtin "object.__class__") "__get__" = some (some (.builtin "getset_descriptor.__get__")))
    (xht : PySem.W.takesIn K (.builtin "object.__class__") = some true)
    (xs_BadText_BadRow : PySem.W.subIn K (.ref CC_BadText) (.ref CC_BadRow) = some false)
    (xe_BadText_BadRow : (CC_BadText == CC_BadRow) = true → false = true)
    (xs_BadText_BadText : PySem.W.subIn K (.ref CC_BadText) (.ref CC_BadText) = some true)
    (xs_BadText_NoTour : PySem.W.subIn K (.ref CC_BadText) (.ref CC_NoTour) = some false)
    (xe_BadText_NoTour : (CC_BadText == CC_NoTour) = true → false = true)
    (xb_BadText_ValueError : PySem.W.subIn K (.ref CC_BadText) (.type "ValueError") = some true)
    (a0 : PySem.W.nsIn K mainGlobals "_law_folded" = some (some (.ref f0))) (l0 : K.lookup f0 = some ⟨oc0, od0, .func (PySem.W.fnOf "_law_folded" "_law_folded" (defArgs s_law_folded) (defBody s_law_folded) (defScope s_law_folded) .none kV0 dc0 pm0 an0 cd0 ct0), sl0⟩) (c0 : PySem.W.codeIn K cd0 "_law_folded" = true) (k0 : PySem.W.keepIn K (.ref f0) = true)
    (a1 : PySem.W.nsIn K mainGlobals "_law_cells" = some (some (.ref f1))) (l1 : K.lookup f1 = some ⟨oc1, od1, .func (PySem.W.fnOf "_law_cells" "_law_cells" (defArgs s_law_cells) (defBody s_law_cells) (defScope s_law_cells) .none kV1 dc1 pm1 an1 cd1 ct1), sl1⟩) (c1 : PySem.W.codeIn K cd1 "_law_cells" = true) (k1 : PySem.W.keepIn K (.ref f1) = true)
    (a2 : PySem.W.nsIn K mainGlobals "_law_take" = some (some (.ref f2))) (l2 : K.lookup f2 = some ⟨oc2, od2, .func (PySem.W.fnOf "_law_take" "_law_take" (defArgs s_law_take) (defBody s_law_take) (defScope s_law_take) .none kV2 dc2 pm2 an2 cd2 ct2), sl2⟩) (c2 : PySem.W.codeIn K cd2 "_law_take" = true) (k2 : PySem.W.keepIn K (.ref f2) = true)
    (a3 : PySem.W.nsIn K mainGlobals "_law_great" = some (some (.ref f3))) (l3 : K.lookup f3 = some ⟨oc3, od3, .func (PySem.W.fnOf "_law_great" "_law_great" (defArgs s_law_great) (defBody s_law_great) (defScope s_law_great) .none kV3 dc3 pm3 an3 cd3 ct3), sl3⟩) (c3 : PySem.W.codeIn K cd3 "_law_great" = true) (k3 : PySem.W.keepIn K (.ref f3) = true)
    (a4 : PySem.W.nsIn K mainGlobals "_law_stair" = some (some (.ref f4))) (l4 : K.lookup f4 = some ⟨oc4, od4, .func (PySem.W.fnOf "_law_stair" "_law_stair" (defArgs s_law_stair) (defBody s_law_stair) (defScope s_law_stair) .none kV4 dc4 pm4 an4 cd4 ct4), sl4⟩) (c4 : PySem.W.codeIn K cd4 "_law_stair" = true) (k4 : PySem.W.keepIn K (.ref f4) = true)
    (a5 : PySem.W.nsIn K mainGlobals "_law_names" = some (some (.ref f5))) (l5 : K.lookup f5 = some ⟨oc5, od5, .func (PySem.W.fnOf "_law_names" "_law_names" (defArgs s_law_names) (defBody s_law_names) (defScope s_law_names) .none kV5 dc5 pm5 an5 cd5 ct5), sl5⟩) (c5 : PySem.W.codeIn K cd5 "_law_names" = true) (k5 : PySem.W.keepIn K (.ref f5) = true)
    (a6 : PySem.W.nsIn K mainGlobals "_law_levels" = some (some (.ref f6))) (l6 : K.lookup f6 = some ⟨oc6, od6, .func (PySem.W.fnOf "_law_levels" "_law_levels" (defArgs s_law_levels) (defBody s_law_levels) (defScope s_law_levels) .none kV6 dc6 pm6 an6 cd6 ct6), sl6⟩) (c6 : PySem.W.codeIn K cd6 "_law_levels" = true) (k6 : PySem.W.keepIn K (.ref f6) = true)
    (a7 : PySem.W.nsIn K mainGlobals "_law_chambers" = some (some (.ref f7))) (l7 : K.lookup f7 = some ⟨oc7, od7, .func (PySem.W.fnOf "_law_chambers" "_law_chambers" (defArgs s_law_chambers) (defBody s_law_chambers) (defScope s_law_chambers) .none kV7 dc7 pm7 an7 cd7 ct7), sl7⟩) (c7 : PySem.W.codeIn K cd7 "_law_chambers" = true) (k7 : PySem.W.keepIn K (.ref f7) = true)
    (a8 : PySem.W.nsIn K mainGlobals "_law_house" = some (some (.ref f8))) (l8 : K.lookup f8 = some ⟨oc8, od8, .func (PySem.W.fnOf "_law_house" "_law_house" (defArgs s_law_house) (defBody s_law_house) (defScope s_law_house) .none kV8 dc8 pm8 an8 cd8 ct8), sl8⟩) (c8 : PySem.W.codeIn K cd8 "_law_house" = true) (k8 : PySem.W.keepIn K (.ref f8) = true)
    (a9 : PySem.W.nsIn K mainGlobals "_law_of" = some (some (.ref f9))) (l9 : K.lookup f9 = some ⟨oc9, od9, .func (PySem.W.fnOf "_law_of" "_law_of" (defArgs s_law_of) (defBody s_law_of) (defScope s_law_of) .none kV9 dc9 pm9 an9 cd9 ct9), sl9⟩) (c9 : PySem.W.codeIn K cd9 "_law_of" = true) (k9 : PySem.W.keepIn K (.ref f9) = true)
    (a10 : PySem.W.nsIn K mainGlobals "_law_sail" = some (some (.ref f10))) (l10 : K.lookup f10 = some ⟨oc10, od10, .func (PySem.W.fnOf "_law_sail" "_law_sail" (defArgs s_law_sail) (defBody s_law_sail) (defScope s_law_sail) .none kV10 dc10 pm10 an10 cd10 ct10), sl10⟩) (c10 : PySem.W.codeIn K cd10 "_law_sail" = true) (k10 : PySem.W.keepIn K (.ref f10) = true)
    (a11 : PySem.W.nsIn K mainGlobals "_law_trip" = some (some (.ref f11))) (l11 : K.lookup f11 = some ⟨oc11, od11, .func (PySem.W.fnOf "_law_trip" "_law_trip" (defArgs s_law_trip) (defBody s_law_trip) (defScope s_law_trip) .none kV11 dc11 pm11 an11 cd11 ct11), sl11⟩) (c11 : PySem.W.codeIn K cd11 "_law_trip" = true) (k11 : PySem.W.keepIn K (.ref f11) = true)
    (a12 : PySem.W.nsIn K mainGlobals "_law_same" = some (some (.ref f12))) (l12 : K.lookup f12 = some ⟨oc12, od12, .func (PySem.W.fnOf "_law_same" "_law_same" (defArgs s_law_same) (defBody s_law_same) (defScope s_law_same) .none kV12 dc12 pm12 an12 cd12 ct12), sl12⟩) (c12 : PySem.W.codeIn K cd12 "_law_same" = true) (k12 : PySem.W.keepIn K (.ref f12) = true)
    (a13 : PySem.W.nsIn K mainGlobals "_law_bent_text" = some (some (.ref f13))) (l13 : K.lookup f13 = some ⟨oc13, od13, .func (PySem.W.fnOf "_law_bent_text" "_law_bent_text" (defArgs s_law_bent_text) (defBody s_law_bent_text) (defScope s_law_bent_text) .none kV13 dc13 pm13 an13 cd13 ct13), sl13⟩) (c13 : PySem.W.codeIn K cd13 "_law_bent_text" = true) (k13 : PySem.W.keepIn K (.ref f13) = true)
    (a14 : PySem.W.nsIn K mainGlobals "is_name" = some (some (.ref f14))) (l14 : K.lookup f14 = some ⟨oc14, od14, .func (PySem.W.fnOf "is_name" "is_name" (defArgs s_is_name) (defBody s_is_name) (defScope s_is_name) .none kV14 dc14 pm14 an14 cd14 ct14), sl14⟩) (c14 : PySem.W.codeIn K cd14 "is_name" = true) (k14 : PySem.W.keepIn K (.ref f14) = true)
    (a15 : PySem.W.nsIn K mainGlobals "is_number" = some (some (.ref f15))) (l15 : K.lookup f15 = some ⟨oc15, od15, .func (PySem.W.fnOf "is_number" "is_number" (defArgs s_is_number) (defBody s_is_number) (defScope s_is_number) .none kV15 dc15 pm15 an15 cd15 ct15), sl15⟩) (c15 : PySem.W.codeIn K cd15 "is_number" = true) (k15 : PySem.W.keepIn K (.ref f15) = true)
    (a16 : PySem.W.nsIn K mainGlobals "is_part" = some (some (.ref f16))) (l16 : K.lookup f16 = some ⟨oc16, od16, .func (PySem.W.fnOf "is_part" "is_part" (defArgs s_is_part) (defBody s_is_part) (defScope s_is_part) .none kV16 dc16 pm16 an16 cd16 ct16), sl16⟩) (c16 : PySem.W.codeIn K cd16 "is_part" = true) (k16 : PySem.W.keepIn K (.ref f16) = true)
    (a17 : PySem.W.nsIn K mainGlobals "is_trip" = some (some (.ref f17))) (l17 : K.lookup f17 = some ⟨oc17, od17, .func (PySem.W.fnOf "is_trip" "is_trip" (defArgs s_is_trip) (defBody s_is_trip) (defScope s_is_trip) .none kV17 dc17 pm17 an17 cd17 ct17), sl17⟩) (c17 : PySem.W.codeIn K cd17 "is_trip" = true) (k17 : PySem.W.keepIn K (.ref f17) = true)
    (a18 : PySem.W.nsIn K mainGlobals "number_in" = some (some (.ref f18))) (l18 : K.lookup f18 = some ⟨oc18, od18, .func (PySem.W.fnOf "number_in" "number_in" (defArgs s_number_in) (defBody s_number_in) (defScope s_number_in) .none kV18 dc18 pm18 an18 cd18 ct18), sl18⟩) (c18 : PySem.W.codeIn K cd18 "number_in" = true) (k18 : PySem.W.keepIn K (.ref f18) = true)
    (a19 : PySem.W.nsIn K mainGlobals "trip_in" = some (some (.ref f19))) (l19 : K.lookup f19 = some ⟨oc19, od19, .func (PySem.W.fnOf "trip_in" "trip_in" (defArgs s_trip_inX) (defBody s_trip_inX) (defScope s_trip_inX) .none kV19 dc19 pm19 an19 cd19 ct19), sl19⟩) (c19 : PySem.W.codeIn K cd19 "trip_in" = true) (k19 : PySem.W.keepIn K (.ref f19) = true)
    (a20 : PySem.W.nsIn K mainGlobals "_law_asked" = some (some (.ref f20))) (l20 : K.lookup f20 = some ⟨oc20, od20, .func (PySem.W.fnOf "_law_asked" "_law_asked" (defArgs s_law_asked) (defBody s_law_asked) (defScope s_law_asked) .none kV20 dc20 pm20 an20 cd20 ct20), sl20⟩) (c20 : PySem.W.codeIn K cd20 "_law_asked" = true) (k20 : PySem.W.keepIn K (.ref f20) = true)
    (a21 : PySem.W.nsIn K mainGlobals "_law_number" = some (some (.ref f21))) (l21 : K.lookup f21 = some ⟨oc21, od21, .func (PySem.W.fnOf "_law_number" "_law_number" (defArgs s_law_number) (defBody s_law_number) (defScope s_law_number) .none kV21 dc21 pm21 an21 cd21 ct21), sl21⟩) (c21 : PySem.W.codeIn K cd21 "_law_number" = true) (k21 : PySem.W.keepIn K (.ref f21) = true)
    (a22 : PySem.W.nsIn K mainGlobals "_law_part" = some (some (.ref f22))) (l22 : K.lookup f22 = some ⟨oc22, od22, .func (PySem.W.fnOf "_law_part" "_law_part" (defArgs s_law_part) (defBody s_law_part) (defScope s_law_part) .none kV22 dc22 pm22 an22 cd22 ct22), sl22⟩) (c22 : PySem.W.codeIn K cd22 "_law_part" = true) (k22 : PySem.W.keepIn K (.ref f22) = true)
    (a23 : PySem.W.nsIn K mainGlobals "_law_due" = some (some (.ref f23))) (l23 : K.lookup f23 = some ⟨oc23, od23, .func (PySem.W.fnOf "_law_due" "_law_due" (defArgs s_law_due) (defBody s_law_due) (defScope s_law_due) .none kV23 dc23 pm23 an23 cd23 ct23), sl23⟩) (c23 : PySem.W.codeIn K cd23 "_law_due" = true) (k23 : PySem.W.keepIn K (.ref f23) = true)
    (a24 : PySem.W.nsIn K mainGlobals "trip_text" = some (some (.ref f24))) (l24 : K.lookup f24 = some ⟨oc24, od24, .func (PySem.W.fnOf "trip_text" "trip_text" (defArgs s_trip_text) (defBody s_trip_text) (defScope s_trip_text) .none kV24 dc24 pm24 an24 cd24 ct24), sl24⟩) (c24 : PySem.W.codeIn K cd24 "trip_text" = true) (k24 : PySem.W.keepIn K (.ref f24) = true)
    (a25 : PySem.W.nsIn K mainGlobals "_law_right" = some (some (.ref f25))) (l25 : K.lookup f25 = some ⟨oc25, od25, .func (PySem.W.fnOf "_law_right" "_law_right" (defArgs s_law_right) (defBody s_law_right) (defScope s_law_right) .none kV25 dc25 pm25 an25 cd25 ct25), sl25⟩) (c25 : PySem.W.codeIn K cd25 "_law_right" = true) (k25 : PySem.W.keepIn K (.ref f25) = true)
    (a26 : PySem.W.nsIn K mainGlobals "_law_box" = some (some (.ref f26))) (l26 : K.lookup f26 = some ⟨oc26, od26, .func (PySem.W.fnOf "_law_box" "_law_box" (defArgs s_law_box) (defBody s_law_box) (defScope s_law_box) .none kV26 dc26 pm26 an26 cd26 ct26), sl26⟩) (c26 : PySem.W.codeIn K cd26 "_law_box" = true) (k26 : PySem.W.keepIn K (.ref f26) = true)
    (a27 : PySem.W.nsIn K mainGlobals "law" = some (some (.ref f27))) (l27 : K.lookup f27 = some ⟨oc27, od27, .func (PySem.W.fnOf "law" "law" (defArgs s_law) (defBody s_law) (defScope s_law) .none kV27 dc27 pm27 an27 cd27 ct27), sl27⟩) (c27 : PySem.W.codeIn K cd27 "law" = true) (k27 : PySem.W.keepIn K (.ref f27) = true)
    {dnLEASTS : Addr} {nnLEASTS : Nat} {hn0LEASTS : Int} {en0LEASTS : Tok} {tn0LEASTS : Tok} {hn1LEASTS : Int} {en1LEASTS : Tok} {tn1LEASTS : Tok} {hn2LEASTS : Int} {en2LEASTS : Tok} {tn2LEASTS : Tok} {hn3LEASTS : Int} {en3LEASTS : Tok} {tn3LEASTS : Tok}
    (gnLEASTS : PySem.W.nsIn K mainGlobals "LEASTS" = some (some (.ref dnLEASTS))) (lnLEASTS : K.lookup dnLEASTS = some ⟨.type "dict", none, .dict #[⟨hn0LEASTS, .str "lock" en0LEASTS, .int 1 tn0LEASTS⟩, ⟨hn1LEASTS, .str "pound" en1LEASTS, .int 1 tn1LEASTS⟩, ⟨hn2LEASTS, .str "quay" en2LEASTS, .int 0 tn2LEASTS⟩, ⟨hn3LEASTS, .str "many" en3LEASTS, .int 1 tn3LEASTS⟩] nnLEASTS, #[]⟩) (knLEASTS : PySem.W.KeysLit w.params [⟨hn0LEASTS, .str "lock" en0LEASTS, .int 1 tn0LEASTS⟩, ⟨hn1LEASTS, .str "pound" en1LEASTS, .int 1 tn1LEASTS⟩, ⟨hn2LEASTS, .str "quay" en2LEASTS, .int 0 tn2LEASTS⟩, ⟨hn3LEASTS, .str "many" en3LEASTS, .int 1 tn3LEASTS⟩]) (wnLEASTS : (dnLEASTS == sysModules) = false)
    {dnTRIPS : Addr} {nnTRIPS : Nat} {hn0TRIPS : Int} {en0TRIPS : Tok} {pn0TRIPS : Addr} {mn0TRIPS : Nat} {on0TRIPS : Option Addr} {sn0TRIPS : Array (Option Value)} {un0_0TRIPS un0_1TRIPS : Tok} {hn1TRIPS : Int} {en1TRIPS : Tok} {pn1TRIPS : Addr} {mn1TRIPS : Nat} {on1TRIPS : Option Addr} {sn1TRIPS : Array (Option Value)} {un1_0TRIPS un1_1TRIPS : Tok} {hn2TRIPS : Int} {en2TRIPS : Tok} {pn2TRIPS : Addr} {mn2TRIPS : Nat} {on2TRIPS : Option Addr} {sn2TRIPS : Array (Option Value)} {un2_0TRIPS : Tok} {hn3TRIPS : Int} {en3TRIPS : Tok} {pn3TRIPS : Addr} {mn3TRIPS : Nat} {on3TRIPS : Option Addr} {sn3TRIPS : Array (Option Value)} {un3_0TRIPS un3_1TRIPS : Tok} {hn4TRIPS : Int} {en4TRIPS : Tok} {pn4TRIPS : Addr} {mn4TRIPS : Nat} {on4TRIPS : Option Addr} {sn4TRIPS : Array (Option Value)} {un4_0TRIPS un4_1TRIPS : Tok} {hn5TRIPS : Int} {en5TRIPS : Tok} {pn5TRIPS : Addr} {mn5TRIPS : Nat} {on5TRIPS : Option Addr} {sn5TRIPS : Array (Option Value)} {un5_0TRIPS un5_1TRIPS un5_2TRIPS : Tok} {hn6TRIPS : Int} {en6TRIPS : Tok} {pn6TRIPS : Addr} {mn6TRIPS : Nat} {on6TRIPS : Option Addr} {sn6TRIPS : Array (Option Value)} {un6_0TRIPS un6_1TRIPS : Tok} {hn7TRIPS : Int} {en7TRIPS : Tok} {pn7TRIPS : Addr} {mn7TRIPS : Nat} {on7TRIPS : Option Addr} {sn7TRIPS : Array (Option Value)} {un7_0TRIPS un7_1TRIPS : Tok}
    (gnTRIPS : PySem.W.nsIn K mainGlobals "TRIPS" = some (some (.ref dnTRIPS))) (lnTRIPS : K.lookup dnTRIPS = some ⟨.type "dict", none, .dict #[⟨hn0TRIPS, .str "up" en0TRIPS, .ref pn0TRIPS⟩, ⟨hn1TRIPS, .str "down" en1TRIPS, .ref pn1TRIPS⟩, ⟨hn2TRIPS, .str "turn" en2TRIPS, .ref pn2TRIPS⟩, ⟨hn3TRIPS, .str "load" en3TRIPS, .ref pn3TRIPS⟩, ⟨hn4TRIPS, .str "unload" en4TRIPS, .ref pn4TRIPS⟩, ⟨hn5TRIPS, .str "carry" en5TRIPS, .ref pn5TRIPS⟩, ⟨hn6TRIPS, .str "rain" en6TRIPS, .ref pn6TRIPS⟩, ⟨hn7TRIPS, .str "draw" en7TRIPS, .ref pn7TRIPS⟩] nnTRIPS, #[]⟩) (knTRIPS : PySem.W.KeysLit w.params [⟨hn0TRIPS, .str "up" en0TRIPS, .ref pn0TRIPS⟩, ⟨hn1TRIPS, .str "down" en1TRIPS, .ref pn1TRIPS⟩, ⟨hn2TRIPS, .str "turn" en2TRIPS, .ref pn2TRIPS⟩, ⟨hn3TRIPS, .str "load" en3TRIPS, .ref pn3TRIPS⟩, ⟨hn4TRIPS, .str "unload" en4TRIPS, .ref pn4TRIPS⟩, ⟨hn5TRIPS, .str "carry" en5TRIPS, .ref pn5TRIPS⟩, ⟨hn6TRIPS, .str "rain" en6TRIPS, .ref pn6TRIPS⟩, ⟨hn7TRIPS, .str "draw" en7TRIPS, .ref pn7TRIPS⟩]) (wnTRIPS : (dnTRIPS == sysModules) = false)
    (qn0TRIPS : K.lookup pn0TRIPS = some ⟨.type "tuple", on0TRIPS, .seq #[.str "boat" un0_0TRIPS, .str "lock" un0_1TRIPS] mn0TRIPS, sn0TRIPS⟩)
    (qn1TRIPS : K.lookup pn1TRIPS = some ⟨.type "tuple", on1TRIPS, .seq #[.str "boat" un1_0TRIPS, .str "lock" un1_1TRIPS] mn1TRIPS, sn1TRIPS⟩)
    (qn2TRIPS : K.lookup pn2TRIPS = some ⟨.type "tuple", on2TRIPS, .seq #[.str "lock" un2_0TRIPS] mn2TRIPS, sn2TRIPS⟩)
    (qn3TRIPS : K.lookup pn3TRIPS = some ⟨.type "tuple", on3TRIPS, .seq #[.str "boat" un3_0TRIPS, .str "many" un3_1TRIPS] mn3TRIPS, sn3TRIPS⟩)
    (qn4TRIPS : K.lookup pn4TRIPS = some ⟨.type "tuple", on4TRIPS, .seq #[.str "boat" un4_0TRIPS, .str "many" un4_1TRIPS] mn4TRIPS, sn4TRIPS⟩)
    (qn5TRIPS : K.lookup pn5TRIPS = some ⟨.type "tuple", on5TRIPS, .seq #[.str "quay" un5_0TRIPS, .str "quay" un5_1TRIPS, .str "many" un5_2TRIPS] mn5TRIPS, sn5TRIPS⟩)
    (qn6TRIPS : K.lookup pn6TRIPS = some ⟨.type "tuple", on6TRIPS, .seq #[.str "pound" un6_0TRIPS, .str "many" un6_1TRIPS] mn6TRIPS, sn6TRIPS⟩)
    (qn7TRIPS : K.lookup pn7TRIPS = some ⟨.type "tuple", on7TRIPS, .seq #[.str "pound" un7_0TRIPS, .str "many" un7_1TRIPS] mn7TRIPS, sn7TRIPS⟩)
    {t_MOST_LETTERS t_MOST_PLACE t_MOST_FIGURES t_FIGURES : Tok} (g_MOST_LETTERS : PySem.W.nsIn K mainGlobals "MOST_LETTERS" = some (some (.int 8 t_MOST_LETTERS))) (g_MOST_PLACE : PySem.W.nsIn K mainGlobals "MOST_PLACE" = some (some (.int 20 t_MOST_PLACE))) (g_MOST_FIGURES : PySem.W.nsIn K mainGlobals "MOST_FIGURES" = some (some (.int 19 t_MOST_FIGURES))) (g_FIGURES : PySem.W.nsIn K mainGlobals "FIGURES" = some (some (.str "0123456789" t_FIGURES)))
    (z_list : PySem.W.nsIn K mainGlobals "list" = some none) (z_enumerate : PySem.W.nsIn K mainGlobals "enumerate" = some none) (z_divmod : PySem.W.nsIn K mainGlobals "divmod" = some none) (z_range : PySem.W.nsIn K mainGlobals "range" = some none) (z_tuple : PySem.W.nsIn K mainGlobals "tuple" = some none) (z_int : PySem.W.nsIn K mainGlobals "int" = some none) (z_len : PySem.W.nsIn K mainGlobals "len" = some none) (z_dict : PySem.W.nsIn K mainGlobals "dict" = some none) (z_sorted : PySem.W.nsIn K mainGlobals "sorted" = some none) (z_isinstance : PySem.W.nsIn K mainGlobals "isinstance" = some none) (z_zip : PySem.W.nsIn K mainGlobals "zip" = some none) (z_all : PySem.W.nsIn K mainGlobals "all" = some none) (z_str : PySem.W.nsIn K mainGlobals "str" = some none) (z_bool : PySem.W.nsIn K mainGlobals "bool" = some none) (z_ValueError : PySem.W.nsIn K mainGlobals "ValueError" = some none) (z_abs : PySem.W.nsIn K mainGlobals "abs" = some none) :
    ∃ fd : FuncData, (∀ (s : Shared) (v : Value), BindsTo s fd ⟨[v], []⟩ [("_law_script", v)]) ∧ ∀ base : Heap, K.In base → base.Ns mainGlobals mg → FnG l.prog w K mg base CX0 12 fa fd ["_law_script"] (spLaw K) := by
  have e := hfa.symm.trans (PySem.W.mg_of X G a27)
  cases e
  have F0 := fun_mk (st := s_law_folded) l0 c0 k0
  have F1 := fun_mk (st := s_law_cells) l1 c1 k1
  have F2 := fun_mk (st := s_law_take) l2 c2 k2
  have F3 := fun_mk (st := s_law_great) l3 c3 k3
  have F4 := fun_mk (st := s_law_stair) l4 c4 k4
  have F5 := fun_mk (st := s_law_names) l5 c5 k5
  have F6 := fun_mk (st := s_law_levels) l6 c6 k6
  have F7 := fun_mk (st := s_law_chambers) l7 c7 k7
  have F8 := fun_mk (st := s_law_house) l8 c8 k8
  have F9 := fun_mk (st := s_law_of) l9 c9 k9
  have F10 := fun_mk (st := s_law_sail) l10 c10 k10
  have F11 := fun_mk (st := s_law_trip) l11 c11 k11
  have F12 := fun_mk (st := s_law_same) l12 c12 k12
  have F13 := fun_mk (st := s_law_bent_text) l13 c13 k13
  have F14 := fun_mk (st := s_is_name) l14 c14 k14
  have F15 := fun_mk (st := s_is_number) l15 c15 k15
  have F16 := fun_mk (st := s_is_part) l16 c16 k16
  have F17 := fun_mk (st := s_is_trip) l17 c17 k17
  have F18 := fun_mk (st := s_number_in) l18 c18 k18
  have F19 := fun_mk (st := s_trip_inX) l19 c19 k19
  have F20 := fun_mk (st := s_law_asked) l20 c20 k20
  have F21 := fun_mk (st := s_law_number) l21 c21 k21
  have F22 := fun_mk (st := s_law_part) l22 c22 k22
  have F23 := fun_mk (st := s_law_due) l23 c23 k23
  have F24 := fun_mk (st := s_trip_text) l24 c24 k24
  have F25 := fun_mk (st := s_law_right) l25 c25 k25
  have F26 := fun_mk (st := s_law_box) l26 c26 k26
  have F27 := fun_mk (st := s_law) l27 c27 k27
  have y_list := PySem.W.mg_none_of X G z_list
  have y_enumerate := PySem.W.mg_none_of X G z_enumerate
  have y_divmod := PySem.W.mg_none_of X G z_divmod
  have y_range := PySem.W.mg_none_of X G z_range
  have y_tuple := PySem.W.mg_none_of X G z_tuple
  have y_int := PySem.W.mg_none_of X G z_int
  have y_len := PySem.W.mg_none_of X G z_len
  have y_dict := PySem.W.mg_none_of X G z_dict
  have y_sorted := PySem.W.mg_none_of X G z_sorted
  have y_isinstance := PySem.W.mg_none_of X G z_isinstance
  have y_zip := PySem.W.mg_none_of X G z_zip
  have y_all := PySem.W.mg_none_of X G z_all
  have y_str := PySem.W.mg_none_of X G z_str
  have y_bool := PySem.W.mg_none_of X G z_bool
  have y_ValueError := PySem.W.mg_none_of X G z_ValueError
  have y_abs := PySem.W.mg_none_of X G z_abs
  have h_MOST_LETTERS : ∃ t, mg "MOST_LETTERS" = some (.int 8 t) := ⟨_, PySem.W.mg_of X G g_MOST_LETTERS⟩
  have h_MOST_PLACE : ∃ t, mg "MOST_PLACE" = some (.int 20 t) := ⟨_, PySem.W.mg_of X G g_MOST_PLACE⟩
  have h_MOST_FIGURES : ∃ t, mg "MOST_FIGURES" = some (.int 19 t) := ⟨_, PySem.W.mg_of X G g_MOST_FIGURES⟩
  have h_FIGURES : ∃ t, mg "FIGURES" = some (.str "0123456789" t) := ⟨_, PySem.W.mg_of X G g_FIGURES⟩
  have rr_LEASTS : GdN w K mg "LEASTS" [("lock", .inl 1), ("pound", .inl 1), ("quay", .inl 0), ("many", .inl 1)] := gdN_mk (PySem.W.mg_of X G gnLEASTS) lnLEASTS knLEASTS wnLEASTS (.int (.int (.int (.int (.nil)))))
  have rr_TRIPS : GdN w K mg "TRIPS" [("up", .inr ["boat", "lock"]), ("down", .inr ["boat", "lock"]), ("turn", .inr ["lock"]), ("load", .inr ["boat", "many"]), ("unload", .inr ["boat", "many"]), ("carry", .inr ["quay", "quay", "many"]), ("rain", .inr ["pound", "many"]), ("draw", .inr ["pound", "many"])] := gdN_mk (PySem.W.mg_of X G gnTRIPS) lnTRIPS knTRIPS wnTRIPS (.tup (kt_strs qn0TRIPS (.cons ⟨_, rfl⟩ (.cons ⟨_, rfl⟩ (.nil))) (by show 2 ≤ sizeLine; decide)) (.tup (kt_strs qn1TRIPS (.cons ⟨_, rfl⟩ (.cons ⟨_, rfl⟩ (.nil))) (by show 2 ≤ sizeLine; decide)) (.tup (kt_strs qn2TRIPS (.cons ⟨_, rfl⟩ (.nil)) (by show 1 ≤ sizeLine; decide)) (.tup (kt_strs qn3TRIPS (.cons ⟨_, rfl⟩ (.cons ⟨_, rfl⟩ (.nil))) (by show 2 ≤ sizeLine; decide)) (.tup (kt_strs qn4TRIPS (.cons ⟨_, rfl⟩ (.cons ⟨_, rfl⟩ (.nil))) (by show 2 ≤ sizeLine; decide)) (.tup (kt_strs qn5TRIPS (.cons ⟨_, rfl⟩ (.cons ⟨_, rfl⟩ (.cons ⟨_, rfl⟩ (.nil)))) (by show 3 ≤ sizeLine; decide)) (.tup (kt_strs qn6TRIPS (.cons ⟨_, rfl⟩ (.cons ⟨_, rfl⟩ (.nil))) (by show 2 ≤ sizeLine; decide)) (.tup (kt_strs qn7TRIPS (.cons ⟨_, rfl⟩ (.cons ⟨_, rfl⟩ (.nil))) (by show 2 ≤ sizeLine; decide)) (.nil)))))))))
  have gc_BadText := PySem.W.mg_of X G ac_BadText
  have gc_BadRow := PySem.W.mg_of X G ac_BadRow
  have gc_NoTour := PySem.W.mg_of X G ac_NoTour
  have xn_BadText : XnC K CC_BadText := ⟨xga_BadText, xgg_BadText, exs_BadText, exd_BadText, xca_BadText, xmr_BadText, xw_BadText, xhn, xht⟩
  have v_what : ∀ c ∈ (["BadText"] : List Str), ∀ C, mg c = some (.ref C) → XnC K C := by
    intro c hc C hC
    simp only [List.mem_cons, List.not_mem_nil, or_false] at hc
    rcases hc with rfl
    · cases gc_BadText.symm.trans hC; exact xn_BadText
  have k_BadRow_BadText_NoTour : ∃ u0 u1 u2 : Value, mg "BadRow" = some u0 ∧ mg "BadText" = some u1 ∧ mg "NoTour" = some u2 ∧ ∀ c ∈ (["BadText"] : List Str), ∀ C, mg c = some (.ref C) → PySem.W.exmAny K (.ref C) [u0, u1, u2] = some true := by
    refine ⟨_, _, _, gc_BadRow, gc_BadText, gc_NoTour, fun c hc C hC => ?_⟩
    simp only [List.mem_cons, List.not_mem_nil, or_false] at hc
    rcases hc with rfl
    · cases gc_BadText.symm.trans hC; exact exm_more (exm_own exs_BadRow exd_BadRow ext_BadRow xs_BadText_BadRow) (exm_more (exm_own exs_BadText exd_BadText ext_BadText xs_BadText_BadText) (exm_more (exm_own exs_NoTour exd_NoTour ext_NoTour xs_BadText_NoTour) (exm_nil)))
  have j_BadText : ∃ D0 : Addr, mg "BadText" = some (.ref D0) ∧ ∀ c b, List.lookup c ([("BadText", true)] : List (Str × Bool)) = some b → ∀ C, mg c = some (.ref C) → XnC K C ∧ PySem.W.kitOne K (.ref C) (.ref D0) = some b := by
    refine ⟨_, gc_BadText, fun c b hb C hC => ?_⟩
    rcases lookup_head hb with ⟨rfl, rfl⟩ | ⟨_, hb⟩
    · cases gc_BadText.symm.trans hC; exact ⟨xn_BadText, kit_own exd_BadText ext_BadText xs_BadText_BadText (fun _ => rfl)⟩
    cases hb
  have j_ValueError : ∀ c b, List.lookup c ([("BadText", true)] : List (Str × Bool)) = some b → ∀ C, mg c = some (.ref C) → XnC K C ∧ PySem.W.kitOne K (.ref C) (.type "ValueError") = some b := by
    intro c b hb C hC
    rcases lookup_head hb with ⟨rfl, rfl⟩ | ⟨_, hb⟩
    · cases gc_BadText.symm.trans hC; exact ⟨xn_BadText, kit_blt (by decide +kernel) xb_BadText_ValueError⟩
    cases hb
  have j_BadRow_NoTour : ∃ D0 D1 : Addr, mg "BadRow" = some (.ref D0) ∧ mg "NoTour" = some (.ref D1) ∧ ∀ c b, List.lookup c ([("BadText", false)] : List (Str × Bool)) = some b → ∀ C, mg c = some (.ref C) → XnC K C ∧ PySem.W.kitAny K (.ref C) [(.ref D0), (.ref D1)] = some b := by
    refine ⟨_, _, gc_BadRow, gc_NoTour, fun c b hb C hC => ?_⟩
    rcases lookup_head hb with ⟨rfl, rfl⟩ | ⟨_, hb⟩
    · cases gc_BadText.symm.trans hC; exact ⟨xn_BadText, kit_more (kit_own exd_BadRow ext_BadRow xs_BadText_BadRow xe_BadText_BadRow) (kit_more (kit_own exd_NoTour ext_NoTour xs_BadText_NoTour xe_BadText_NoTour) (kit_nil))⟩
    cases hb
  refine ⟨PySem.W.fnOf "law" "law" (defArgs s_law) (defBody s_law) (defScope s_law) .none kV27 dc27 pm27 an27 cd27 ct27, fun s v => .of_eq rfl, fun base _ _ => ?_⟩
  have n_BadText := ok_BadText_ini (P := l.prog) (w := w) (base := base) (fun_mk (st := s_BadText_ini) xlf_BadText xcf_BadText xkf_BadText) gc_BadText ⟨⟨_, _, _, _, _, _, _, _, _, _, _, _, _, _, xl_BadText⟩, xsa_BadText, exs_BadText, ext_BadText, xk_BadText⟩ xw_BadText xi_BadText xtf_BadText y_ValueError xv_BadText
  have d_law_folded := ok_law_folded (P := l.prog) (w := w) (base := base) F0 (PySem.W.mg_of X G a0) y_list y_enumerate
  have d_law_cells := ok_law_cells (P := l.prog) (w := w) (base := base) F1 (PySem.W.mg_of X G a1) d_law_folded
  have d_law_take := ok_law_take (P := l.prog) (w := w) (base := base) F2 (PySem.W.mg_of X G a2) y_divmod 8
  have d_law_great := ok_law_great (P := l.prog) (w := w) (base := base) F3 (PySem.W.mg_of X G a3) d_law_take
  have d_law_stair := ok_law_stair (P := l.prog) (w := w) (base := base) F4 (PySem.W.mg_of X G a4) y_range y_tuple d_law_take
  have d_law_names := ok_law_names (P := l.prog) (w := w) (base := base) F5 (PySem.W.mg_of X G a5) y_range y_int d_law_take
  have d_law_levels := ok_law_levels (P := l.prog) (w := w) (base := base) F6 (PySem.W.mg_of X G a6) y_tuple d_law_take
  have d_law_chambers := ok_law_chambers (P := l.prog) (w := w) (base := base) F7 (PySem.W.mg_of X G a7) y_range y_tuple d_law_take
  have d_law_house := ok_law_house (P := l.prog) (w := w) (base := base) F8 (PySem.W.mg_of X G a8) y_len y_dict y_range y_tuple d_law_stair d_law_take d_law_names d_law_levels d_law_chambers
  have d_law_of := ok_law_of (P := l.prog) (w := w) (base := base) F9 (PySem.W.mg_of X G a9) y_len d_law_take
  have d_law_ofT := ok_law_ofT (P := l.prog) (w := w) (base := base) F9 (PySem.W.mg_of X G a9) y_len d_law_take
  have d_law_sail := ok_law_sail (P := l.prog) (w := w) (base := base) F10 (PySem.W.mg_of X G a10) y_len
  have d_law_trip := ok_law_trip (P := l.prog) (w := w) (base := base) F11 (PySem.W.mg_of X G a11) y_len y_sorted d_law_take d_law_of d_law_sail
  have d_law_same := ok_law_same (P := l.prog) (w := w) (base := base) F12 (PySem.W.mg_of X G a12) y_isinstance y_list y_tuple y_len y_zip y_all y_str y_int y_bool 10
  have d_law_bent_text := ok_law_bent_text (P := l.prog) (w := w) (base := base) F13 (PySem.W.mg_of X G a13) y_len d_law_take d_law_ofT
  have d_is_name := ok_is_name (P := l.prog) (w := w) (base := base) F14 (PySem.W.mg_of X G a14) y_isinstance y_str y_len y_all h_MOST_LETTERS
  have d_is_number := ok_is_number (P := l.prog) (w := w) (base := base) F15 (PySem.W.mg_of X G a15) y_isinstance y_int y_bool
  have d_is_part := ok_is_part (P := l.prog) (w := w) (base := base) F16 (PySem.W.mg_of X G a16) h_MOST_PLACE rr_LEASTS d_is_name d_is_number
  have d_is_trip := ok_is_trip (P := l.prog) (w := w) (base := base) F17 (PySem.W.mg_of X G a17) y_isinstance y_tuple y_len y_str y_zip y_all rr_TRIPS d_is_part
  have d_number_in := ok_number_in (P := l.prog) (w := w) (base := base) F18 (PySem.W.mg_of X G a18) y_len y_all y_int h_MOST_FIGURES h_FIGURES
  have x_trip_inX := ok_trip_inX (P := l.prog) (w := w) (base := base) F19 (PySem.W.mg_of X G a19) y_len y_zip y_tuple rr_TRIPS d_number_in d_is_trip n_BadText
  have d_trip_inX := x_trip_inX.cal
  have d_law_asked := ok_law_asked (P := l.prog) (w := w) (base := base) F20 (PySem.W.mg_of X G a20) y_isinstance y_ValueError x_trip_inX k_BadRow_BadText_NoTour v_what j_BadText j_ValueError j_BadRow_NoTour
  have d_law_number := ok_law_number (P := l.prog) (w := w) (base := base) F21 (PySem.W.mg_of X G a21) y_len y_all y_int
  have d_law_part := ok_law_part (P := l.prog) (w := w) (base := base) F22 (PySem.W.mg_of X G a22) y_len y_all d_law_number
  have d_law_due := ok_law_due (P := l.prog) (w := w) (base := base) F23 (PySem.W.mg_of X G a23) y_len y_zip y_tuple d_law_part
  have d_trip_text := ok_trip_text (P := l.prog) (w := w) (base := base) F24 (PySem.W.mg_of X G a24) y_str
  have d_law_right := ok_law_right (P := l.prog) (w := w) (base := base) F25 (PySem.W.mg_of X G a25) y_range y_str y_list y_all d_law_great d_law_house d_law_trip d_trip_inX d_trip_text d_law_same d_law_bent_text d_law_due d_law_asked
  have d_law_box := ok_law_box (P := l.prog) (w := w) (base := base) F26 (PySem.W.mg_of X G a26) y_len y_abs y_int
  have d_law := ok_law (P := l.prog) (w := w) (base := base) F27 (PySem.W.mg_of X G a27) y_len y_range y_all d_law_cells d_law_box d_law_right
  exact law_end d_law hlaw
end LW
namespace LW
open PySem L2
def isStr : D → Bool
  | .str _ => true
  | _ => false
theorem isi_str {k : Nat} {d : D} {M : Mem} (h : plainD k d = true) : oIsi ["str"] d M = .ok (.bl (isStr d)) M := by
  cases d with
  | ref n => cases k <;> cases h
  | scr n => cases k <;> cases h
  | dct _ _ => cases k <;> cases h
  | dtt _ _ => cases k <;> cases h
  | exn _ _ => cases k <;> cases h
  | key _ => cases k <;> cases h
  | clo _ _ => cases k <;> cases h
  | _ => rfl
def letB (c : Nat) : Bool := !ltS ⟨#[c]⟩ "a" && !ltS "z" ⟨#[c]⟩
def nameB : D → Bool
  | .str x => (decide (1 ≤ x.length) && decide (x.length ≤ 8)) && x.cps.toList.all letB
  | _ => false
theorem r_txt {f : ES} {b : Nat} {s : Slots} {M : Mem} : iTxt f b s M = (f b s M).bind fun x M1 => match x with
  | .str x => .ok (chrs x, []) M1
  | _ => .bad := rfl
theorem let_comp {b : Nat} {M : Mem} {s : Slots} {e : ES} (he : e = eChain oLeS oLeS (eC (.str "a")) (eVar 1) (eC (.str "z"))) (x : Str) (hs : s.length = 2) : compL b [] M (.nm 1) tTrue e s (chrs x) M = .ok ((x.cps.toList.map letB).map .bl) M := by
  have e1 : (x.cps.toList.map letB).map D.bl = (chrs x).map fun d => match d with | .str ⟨⟨[c]⟩⟩ => .bl (letB c) | _ => .non := by
    unfold chrs
    rw [List.map_map, List.map_map]
    rfl
  rw [e1]
  refine comp_map _ (fun d hd => ?_) (by simp)
  unfold chrs at hd
  obtain ⟨c, _, rfl⟩ := List.mem_map.mp hd
  refine ⟨s.set 1 (some (.str ⟨#[c]⟩)), t_nm _ _, ?_⟩
  have g1 : (s.set 1 (some (.str ⟨#[c]⟩)))[1]? = some (some (.str ⟨#[c]⟩)) := by simp [hs]
  subst he
  show eChain oLeS oLeS _ _ _ b _ M = .ok (.bl (letB c)) M
  cases h1 : ltS ⟨#[c]⟩ "a" with
  | true => simp [g1, oLeS, h1, letB]
  | false => simp [g1, oLeS, h1, letB]
section
variable {k : Nat} {d : D} {M : Mem}
theorem is_name_ok (h : plainD k d = true) (hl : ∀ x, d = .str x → x.length ≤ 1000) : f_is_name [d] M = .ok (.bl (nameB d)) M := by
  refine ok_of (fn_wp rfl fun P hR => ?_)
  have is := isi_str (M := M) h
  cases d with
  | str x =>
    have lx := hl x rfl
    have ln : ∀ M, bLen [.str x] M = .ok (.int (x.length : Int)) M := fun M => if_pos (by omega)
    have cp := let_comp (b := M.length) (M := M) (s := [some (.str x), none]) rfl x rfl
    have al := r_allB (M := M) (x.cps.toList) letB
    have al : bAll [.lst ((x.cps.toList.map letB).map .bl)] M = .ok (.bl (x.cps.toList.all letB)) M := by rw [List.map_map]; exact al
    have lc : (chrs x).length ≤ 1000000 := by rw [chrs_len]; have : x.length = x.cps.size := rfl; omega
    obtain ⟨BB, hBB⟩ : ∃ Z, Z = (x.cps.toList.map letB).map D.bl := ⟨_, rfl⟩
    rw [← hBB] at cp al
    have nb : nameB (.str x) = ((decide (1 ≤ x.length) && decide (x.length ≤ 8)) && x.cps.toList.all letB) := rfl
    by_cases c1 : 1 ≤ x.length
    · have d1 : (1 : Int) ≤ (x.length : Int) := by omega
      by_cases c2 : x.length ≤ 8
      · have d2 : (x.length : Int) ≤ 8 := by omega
        simp [b_is_name, is, isStr, ln, d1, d2, oLe, oCmp, r_txt, wipeD, lc, b_is_name_c1, cp, al]
        exact hR _ _ (by simp) ⟨by rw [nb]; simp [c1, c2], List.take_length⟩
      · have d2 : ¬ (x.length : Int) ≤ 8 := by omega
        simp [b_is_name, is, isStr, ln, d1, d2, oLe, oCmp]
        exact hR _ _ (by simp) ⟨by rw [nb]; simp [c2], List.take_length⟩
    · have d1 : ¬ (1 : Int) ≤ (x.length : Int) := by omega
      simp [b_is_name, is, isStr, ln, d1, oLe, oCmp]
      exact hR _ _ (by simp) ⟨by rw [nb]; simp [c1], List.take_length⟩
  | _ =>
    simp [b_is_name, is, isStr]
    exact hR _ _ (by simp) ⟨rfl, List.take_length⟩
def numB (lo : Int) (hi : Option Int) : D → Bool
  | .int p => decide (lo ≤ p) && (match hi with | some h => decide (p ≤ h) | none => true)
  | _ => false
def hiD : Option Int → D
  | some h => .int h
  | none => .non
inductive Srt | boat | lock | pound | quay | many
  deriving DecidableEq
def Srt.w : Srt → Str
  | .boat => "boat"
  | .lock => "lock"
  | .pound => "pound"
  | .quay => "quay"
  | .many => "many"
def partB : Srt → D → Bool
  | .boat, d => nameB d
  | .lock, d => numB 1 (some 20) d
  | .pound, d => numB 1 (some 20) d
  | .quay, d => numB 0 (some 20) d
  | .many, d => numB 1 none d
theorem is_part_ok {s : Srt} (h : plainD k d = true) (hl : ∀ x, d = .str x → x.length ≤ 1000) : f_is_part [.str s.w, d] M = .ok (.bl (partB s d)) M := by
  refine ok_of (fn_wp rfl fun P hR => ?_)
  have nm := is_name_ok (M := M) h hl
  have iN := isi_int (M := M) h
  have e1 : ("lock" : Str) ≠ "boat" := by decide
  have e2 : ("pound" : Str) ≠ "boat" := by decide
  have e3 : ("quay" : Str) ≠ "boat" := by decide
  have e4 : ("many" : Str) ≠ "boat" := by decide
  have m1 : ("lock" : Str) ≠ "many" := by decide
  have m2 : ("pound" : Str) ≠ "many" := by decide
  have m3 : ("quay" : Str) ≠ "many" := by decide
  have lk : ∀ s : Str, oGetGN [("lock", .inl 1), ("pound", .inl 1), ("quay", .inl 0), ("many", .inl 1)] (.str s) M = (match List.lookup s [(("lock" : Str), (Sum.inl 1 : GV)), ("pound", .inl 1), ("quay", .inl 0), ("many", .inl 1)] with | some v => .ok (gvD v) M | none => .bad) := fun _ => rfl
  have k1 : oGetGN [("lock", .inl 1), ("pound", .inl 1), ("quay", .inl 0), ("many", .inl 1)] (.str "lock") M = .ok (.int 1) M := rfl
  have k2 : oGetGN [("lock", .inl 1), ("pound", .inl 1), ("quay", .inl 0), ("many", .inl 1)] (.str "pound") M = .ok (.int 1) M := rfl
  have k3 : oGetGN [("lock", .inl 1), ("pound", .inl 1), ("quay", .inl 0), ("many", .inl 1)] (.str "quay") M = .ok (.int 0) M := rfl
  have k4 : oGetGN [("lock", .inl 1), ("pound", .inl 1), ("quay", .inl 0), ("many", .inl 1)] (.str "many") M = .ok (.int 1) M := rfl
  cases s with
  | boat =>
    simp [b_is_part, b_is_part_s1, Srt.w, nm]
    exact hR _ _ (by simp) ⟨rfl, List.take_length⟩
  | lock =>
    cases d with
    | int p =>
      by_cases c1 : 1 ≤ p <;> by_cases c2 : p ≤ 20 <;> simp [b_is_part, b_is_part_s1, b_is_part_s2, Srt.w, e1, m1, iN, isNum, k1, c1, c2] <;> exact hR _ _ (by simp) ⟨by simp [partB, numB, c1, c2], List.take_length⟩
    | _ =>
      simp [b_is_part, b_is_part_s1, b_is_part_s2, Srt.w, e1, iN, isNum]
      exact hR _ _ (by simp) ⟨rfl, List.take_length⟩
  | pound =>
    cases d with
    | int p =>
      by_cases c1 : 1 ≤ p <;> by_cases c2 : p ≤ 20 <;> simp [b_is_part, b_is_part_s1, b_is_part_s2, Srt.w, e2, m2, iN, isNum, k2, c1, c2] <;> exact hR _ _ (by simp) ⟨by simp [partB, numB, c1, c2], List.take_length⟩
    | _ =>
      simp [b_is_part, b_is_part_s1, b_is_part_s2, Srt.w, e2, iN, isNum]
      exact hR _ _ (by simp) ⟨rfl, List.take_length⟩
  | quay =>
    cases d with
    | int p =>
      by_cases c1 : 0 ≤ p <;> by_cases c2 : p ≤ 20 <;> simp [b_is_part, b_is_part_s1, b_is_part_s2, Srt.w, e3, m3, iN, isNum, k3, c1, c2] <;> exact hR _ _ (by simp) ⟨by simp [partB, numB, c1, c2], List.take_length⟩
    | _ =>
      simp [b_is_part, b_is_part_s1, b_is_part_s2, Srt.w, e3, iN, isNum]
      exact hR _ _ (by simp) ⟨rfl, List.take_length⟩
  | many =>
    cases d with
    | int p =>
      by_cases c1 : 1 ≤ p <;> simp [b_is_part, b_is_part_s1, b_is_part_s2, Srt.w, e4, iN, isNum, k4, c1] <;> exact hR _ _ (by simp) ⟨by simp [partB, numB, c1], List.take_length⟩
    | _ =>
      simp [b_is_part, b_is_part_s1, b_is_part_s2, Srt.w, e4, iN, isNum]
      exact hR _ _ (by simp) ⟨rfl, List.take_length⟩
end
end LW
namespace LW
open PySem L2
theorem comp_zip2 {α β : Type} {b : Nat} {hs : List Nat} {M0 M : Mem} {t : Tg} {e : ES} {s : Slots} (f g : α → β → D) (hg : gdOk hs M0 M) : ∀ {as : List α} {bs : List β}, (∀ a ∈ as, ∀ c ∈ bs, ∃ s1, bindT M t (f a c) s = some s1 ∧ e b s1 M = .ok (g a c) M) → compL b hs M0 t tTrue e s (List.zipWith f as bs) M = .ok (List.zipWith g as bs) M
  | [], _, _ => rfl
  | _ :: _, [], _ => rfl
  | a :: as, c :: bs, h => by
    obtain ⟨s1, h1, h2⟩ := h a (by simp) c (by simp)
    have ih := comp_zip2 (b := b) (t := t) (e := e) (s := s) f g hg (as := as) (bs := bs) fun a ha c hc => h a (by simp [ha]) c (by simp [hc])
    show compL b hs M0 t tTrue e s (f a c :: List.zipWith f as bs) M = _
    unfold compL
    simp only [h1, r_ttrue, nox_ok, bind_ok, if_true, h2]
    rw [if_pos hg, ih]
    rfl
inductive TW | up | down | turn | load | unload | carry | rain | draw
  deriving DecidableEq
def TW.w : TW → Str
  | .up => "up"
  | .down => "down"
  | .turn => "turn"
  | .load => "load"
  | .unload => "unload"
  | .carry => "carry"
  | .rain => "rain"
  | .draw => "draw"
def TW.ss : TW → List Srt
  | .up => [.boat, .lock]
  | .down => [.boat, .lock]
  | .turn => [.lock]
  | .load => [.boat, .many]
  | .unload => [.boat, .many]
  | .carry => [.quay, .quay, .many]
  | .rain => [.pound, .many]
  | .draw => [.pound, .many]
def TW.sh : TW → Str
  | .up => "bl"
  | .down => "bl"
  | .turn => "l"
  | .load => "bm"
  | .unload => "bm"
  | .carry => "qqm"
  | .rain => "lm"
  | .draw => "lm"
def Srt.c : Srt → Nat
  | .boat => 98
  | .lock => 108
  | .pound => 108
  | .quay => 113
  | .many => 109
theorem TW.chrs (t : TW) : t.sh.cps.toList = t.ss.map Srt.c := by cases t <;> decide +kernel
theorem TW.size (t : TW) : t.sh.cps.size = t.ss.length := by cases t <;> rfl
def twOf (w : Str) : Option TW := if ("up" : Str) = w then some .up else if ("down" : Str) = w then some .down else if ("turn" : Str) = w then some .turn else if ("load" : Str) = w then some .load else if ("unload" : Str) = w then some .unload else if ("carry" : Str) = w then some .carry else if ("rain" : Str) = w then some .rain else if ("draw" : Str) = w then some .draw else none
theorem twOf_w {w : Str} {t : TW} (h : twOf w = some t) : w = t.w := by
  unfold twOf at h
  repeat' split at h
  all_goals first | cases h; done | (cases h; rename_i e; exact e.symm)
def TRK : List (Str × GV) := [("up", .inr ["boat", "lock"]), ("down", .inr ["boat", "lock"]), ("turn", .inr ["lock"]), ("load", .inr ["boat", "many"]), ("unload", .inr ["boat", "many"]), ("carry", .inr ["quay", "quay", "many"]), ("rain", .inr ["pound", "many"]), ("draw", .inr ["pound", "many"])]
theorem tr_look (w : Str) : TRK.lookup w = (twOf w).map fun t => (.inr (t.ss.map Srt.w) : GV) := by
  have bq : ∀ k : Str, (w == k) = decide (k = w) := fun k => by
    by_cases c : k = w
    · subst c; simp
    · have : ¬ w = k := fun e => c e.symm
      simp [c, this]
  unfold TRK twOf
  simp only [List.lookup_cons, bq, List.lookup_nil]
  repeat' split
  all_goals first | rfl | (simp_all; done) | skip
  all_goals simp_all
def carB : List D → Bool
  | .int a :: .int b :: _ => a != b
  | _ => true
def restB (t : TW) (ps : List D) : Bool := (decide (ps.length = t.ss.length) && (List.zipWith partB t.ss ps).all id) && (decide (t ≠ .carry) || carB ps)
def tripB : D → Bool
  | .tup (.str w :: ps) => match twOf w with
    | some t => restB t ps
    | none => false
  | _ => false
theorem all_zip {α β : Type} {f : α → β → Bool} : ∀ {as : List α} {bs : List β}, (List.zipWith f as bs).all id = true → ∀ (i : Nat) a b, as[i]? = some a → bs[i]? = some b → f a b = true
  | [], _, _, i, a, b, h, _ => by simp at h
  | _ :: _, [], _, i, a, b, _, h => by simp at h
  | x :: as, y :: bs, h, i, a, b, h1, h2 => by
    have h : (f x y && (List.zipWith f as bs).all id) = true := h
    rw [Bool.and_eq_true] at h
    cases i with
    | zero => simp at h1 h2; subst h1 h2; exact h.1
    | succ i => exact all_zip h.2 i a b (by simpa using h1) (by simpa using h2)
theorem carry_parts {ps : List D} (hl : ps.length = 3) (ha : (List.zipWith partB TW.carry.ss ps).all id = true) : ∃ a b z, ps = [.int a, .int b, z] := by
  match ps, hl with
  | [x, y, z], _ =>
    have h0 := all_zip ha 0 .quay x rfl rfl
    have h1 := all_zip ha 1 .quay y rfl rfl
    have g : ∀ d : D, partB .quay d = true → ∃ i, d = .int i := fun d h => by
      cases d with
      | int i => exact ⟨i, rfl⟩
      | _ => cases h
    obtain ⟨a, rfl⟩ := g x h0
    obtain ⟨b, rfl⟩ := g y h1
    exact ⟨a, b, z, rfl⟩
section
variable {d : D} {M : Mem}
def StrsLe (d : D) : Prop := (∀ x, d = .str x → x.length ≤ 1000) ∧ ∀ xs, d = .tup xs → ∀ y ∈ xs, ∀ x, y = .str x → x.length ≤ 1000
theorem is_trip_ok (h : plainD 6 d = true) (hl : StrsLe d) (hz : ∀ xs, d = .tup xs → xs.length ≤ 1000) : f_is_trip [d] M = .ok (.bl (tripB d)) M := by
  refine ok_of (fn_wp rfl fun P hR => ?_)
  have it := fun M : Mem => isi_tup (M := M) h
  cases d with
  | tup xs =>
    have lx := hz xs rfl
    have hp : ∀ y ∈ xs, plainD 5 y = true := fun y hy => by
      have h' : (decide (xs.length ≤ 1000000) && xs.all (plainD 5)) = true := h
      rw [Bool.and_eq_true, List.all_eq_true] at h'
      exact h'.2 y hy
    cases xs with
    | nil =>
      have ln : ∀ M, bLen [.tup ([] : List D)] M = .ok (.int 0) M := fun M => rfl
      simp [b_is_trip, b_is_trip_s1, it, isTup, ln]
      exact hR _ _ (by simp) ⟨rfl, List.take_length⟩
    | cons x ps =>
      have ln : ∀ M, bLen [.tup (x :: ps)] M = .ok (.int ((ps.length : Int) + 1)) M := fun M => by rw [r_len (q_tup M _)]; simp
      have n0 : ¬ (ps.length : Int) + 1 = 0 := by omega
      have is := fun M : Mem => isi_str (M := M) (hp x (by simp))
      cases x with
      | str w =>
        have tl := tr_look w
        cases hw : twOf w with
        | none =>
          rw [hw] at tl
          have ig : ∀ M, oInGN true TRK (.str w) M = .ok (.bl true) M := fun M => by
            show R.ok (D.bl (!(TRK.lookup w).isSome)) M = _
            rw [tl]
            rfl
          unfold TRK at ig
          simp [b_is_trip, b_is_trip_s1, it, isTup, ln, n0, is, isStr, ig]
          exact hR _ _ (by simp) ⟨by simp [tripB, hw], List.take_length⟩
        | some t =>
          rw [hw] at tl
          have ig : ∀ M, oInGN true TRK (.str w) M = .ok (.bl false) M := fun M => by
            show R.ok (D.bl (!(TRK.lookup w).isSome)) M = _
            rw [tl]
            rfl
          have gg : ∀ M, oGetGN TRK (.str w) M = .ok (.tup (t.ss.map fun s => .str s.w)) M := fun M => by
            show (match TRK.lookup w with | some v => R.ok (gvD v) M | none => .bad) = _
            rw [tl]
            show R.ok (D.tup ((t.ss.map Srt.w).map .str)) M = _
            rw [List.map_map]
            rfl
          unfold TRK at ig gg
          have lp : ∀ M, bLen [.lst ps] M = .ok (.int (ps.length : Int)) M := fun M => r_len (q_lst M _)
          have ls : ∀ M, bLen [.tup (t.ss.map fun s => D.str s.w)] M = .ok (.int (t.ss.length : Int)) M := fun M => by rw [r_len (q_tup M _), List.length_map]
          have tb : tripB (.tup (.str w :: ps)) = restB t ps := by simp [tripB, hw]
          rw [tb] at hR
          obtain ⟨SS, hSS⟩ : ∃ Z, Z = t.ss.map fun s => D.str s.w := ⟨_, rfl⟩
          have lSS : SS.length = t.ss.length := by rw [hSS, List.length_map]
          have zz : zipD SS ps = List.zipWith (fun s d => D.tup [.str s.w, d]) t.ss ps := by
            rw [hSS]
            unfold zipD
            rw [List.zipWith_map_left]
          rw [← hSS] at gg ls
          by_cases hlen : ps.length = t.ss.length
          · have cp : ∀ s : Slots, s.length = 6 → compL M.length [] M (.tp [.nm 4, .nm 5]) tTrue b_is_trip_c1 s (zipD SS ps) M = .ok ((List.zipWith partB t.ss ps).map .bl) M := fun s hs => by
              rw [zz, List.map_zipWith]
              refine comp_zip2 _ _ (by simp) fun a _ y hy => ?_
              have ip := is_part_ok (s := a) (d := y) (k := 5) (M := M) (hp y (by simp [hy])) (hl.2 _ rfl y (by simp [hy]))
              refine ⟨(s.set 4 (some (.str a.w))).set 5 (some y), by simp, ?_⟩
              have g4 : ((s.set 4 (some (.str a.w))).set 5 (some y))[4]? = some (some (.str a.w)) := by simp [hs]
              have g5 : ((s.set 4 (some (.str a.w))).set 5 (some y))[5]? = some (some y) := by simp [hs]
              simp [b_is_trip_c1, g4, g5, ip]
            have al : bAll [.lst ((List.zipWith partB t.ss ps).map .bl)] M = .ok (.bl ((List.zipWith partB t.ss ps).all id)) M := r_allB (M := M) (List.zipWith partB t.ss ps) id
            have lz : (zipD SS ps).length ≤ 1000000 := by rw [zipD_len]; simp at lx; omega
            have le : SS.length = ps.length := by omega
            have n1 : ¬ (t.ss.length : Int) + 1 = 0 := by omega
            obtain ⟨BB, hBB⟩ : ∃ Z, Z = (List.zipWith partB t.ss ps).map D.bl := ⟨_, rfl⟩
            simp only [← hBB] at cp al
            cases ha : (List.zipWith partB t.ss ps).all id with
            | false =>
              rw [ha] at al
              simp [b_is_trip, b_is_trip_s1, it, isTup, ln, n0, is, isStr, ig, b_is_trip_s2, gg, b_is_trip_s3, lp, ls, hlen, n1, iZip, le, wipeD, lz, cp, al]
              exact hR _ _ (by simp) ⟨by simp [restB, ha], List.take_length⟩
            | true =>
              rw [ha] at al
              by_cases hc : t = .carry
              · subst hc
                obtain ⟨a, b, z, rfl⟩ := carry_parts hlen ha
                have ew : w = "carry" := twOf_w hw
                subst ew
                have i1 : ∀ (p q r : D), atI [p, q, r] 1 = some q := fun _ _ _ => rfl
                simp [b_is_trip, b_is_trip_s1, it, isTup, ln, is, isStr, ig, b_is_trip_s2, gg, b_is_trip_s3, lp, ls, iZip, le, wipeD, lz, cp, al, b_is_trip_s4, TW.w, i1, TW.ss]
                exact hR _ _ (by simp) ⟨by rw [show restB .carry [.int a, .int b, z] = (!(a == b)) by unfold restB; rw [ha]; rfl], List.take_length⟩
              · have nw : ¬ w = "carry" := fun e => hc (by
                  subst e
                  have : twOf "carry" = some .carry := by decide +kernel
                  rw [this] at hw
                  exact (Option.some.inj hw).symm)
                simp [b_is_trip, b_is_trip_s1, it, isTup, ln, n0, is, isStr, ig, b_is_trip_s2, gg, b_is_trip_s3, lp, ls, hlen, n1, iZip, le, wipeD, lz, cp, al, b_is_trip_s4, nw]
                exact hR _ _ (by simp) ⟨by simp [restB, ha, hlen, hc], List.take_length⟩
          · have ne : ¬ (ps.length : Int) = (t.ss.length : Int) := by omega
            simp [b_is_trip, b_is_trip_s1, it, isTup, ln, n0, is, isStr, ig, b_is_trip_s2, gg, b_is_trip_s3, lp, ls, hlen, ne]
            exact hR _ _ (by simp) ⟨by simp [restB, hlen], List.take_length⟩
      | _ =>
        simp [b_is_trip, b_is_trip_s1, it, isTup, ln, n0, is, isStr]
        exact hR _ _ (by simp) ⟨rfl, List.take_length⟩
  | _ =>
    simp [b_is_trip, b_is_trip_s1, it, isTup]
    exact hR _ _ (by simp) ⟨rfl, List.take_length⟩
end
end LW
namespace LW
open PySem L2
section
variable {M : Mem}
theorem number_in_ok {w : Str} (hl : w.length ≤ 100000) : f_number_in [.str w] M = .ok (dW w) M := by
  refine ok_of (fn_wp rfl fun P hR => ?_)
  have ln : ∀ M, bLen [.str w] M = .ok (.int (w.length : Int)) M := fun M => if_pos (by omega)
  have cp := dig_comp (b := M.length) (M := M) (s := [some (.str w), none]) (e := b_number_in_c1) rfl w rfl
  have al := r_allB (M := M) (w.cps.toList) isDg
  have al : bAll [.lst ((w.cps.toList.map isDg).map .bl)] M = .ok (.bl (w.cps.toList.all isDg)) M := by rw [List.map_map]; exact al
  have lc : (chrs w).length ≤ 1000000 := by rw [chrs_len]; have : w.length = w.cps.size := rfl; omega
  obtain ⟨BB, hBB⟩ : ∃ Z, Z = (w.cps.toList.map isDg).map D.bl := ⟨_, rfl⟩
  rw [← hBB] at cp al
  by_cases c1 : 1 ≤ w.length
  · have d1 : (1 : Int) ≤ (w.length : Int) := by omega
    by_cases c2 : w.length ≤ 19
    · have d2 : (w.length : Int) ≤ 19 := by omega
      cases ha : w.cps.toList.all isDg with
      | true =>
        rw [ha] at al
        have i0 := fun M : Mem => ix_0 (M := M) c1 c2
        have ig := fun M : Mem => int_dg (M := M) c1 c2 ha
        obtain ⟨n, hn⟩ : ∃ n : Int, n = ((NumText.digitsVal w.cps.toList : Nat) : Int) := ⟨_, rfl⟩
        rw [← hn] at ig
        cases h1 : (w == ("0" : Str)) with
        | true =>
          simp [b_number_in, b_number_in_s1, ln, d1, d2, oLe, oCmp, r_txt', wipeD, lc, cp, al, b_number_in_s2, h1, ig]
          exact hR _ _ (by simp) ⟨by simp [dW, numW, lead0, c1, c2, ha, h1, hn], List.take_length⟩
        | false =>
          cases h2 : ((⟨#[hd0 w]⟩ : Str) == ("0" : Str)) with
          | false =>
            simp [b_number_in, b_number_in_s1, ln, d1, d2, oLe, oCmp, r_txt', wipeD, lc, cp, al, b_number_in_s2, h1, h2, i0, ig]
            exact hR _ _ (by simp) ⟨by simp [dW, numW, lead0, c1, c2, ha, h1, h2, hn], List.take_length⟩
          | true =>
            simp [b_number_in, b_number_in_s1, ln, d1, d2, oLe, oCmp, r_txt', wipeD, lc, cp, al, b_number_in_s2, h1, h2, i0, ig]
            exact hR _ _ (by simp) ⟨by simp [dW, numW, lead0, c1, c2, ha, h1, h2], List.take_length⟩
      | false =>
        rw [ha] at al
        simp [b_number_in, b_number_in_s1, ln, d1, d2, oLe, oCmp, r_txt', wipeD, lc, cp, al]
        exact hR _ _ (by simp) ⟨by simp [dW, numW, ha], List.take_length⟩
    · have d2 : ¬ (w.length : Int) ≤ 19 := by omega
      simp [b_number_in, b_number_in_s1, ln, d1, d2, oLe, oCmp]
      exact hR _ _ (by simp) ⟨by simp [dW, numW, c2], List.take_length⟩
  · have d1 : ¬ (1 : Int) ≤ (w.length : Int) := by omega
    simp [b_number_in, b_number_in_s1, ln, d1, oLe, oCmp]
    exact hR _ _ (by simp) ⟨by simp [dW, numW, c1], List.take_length⟩
theorem wd_len {x w : Str} (h : w ∈ Txt.split x " ") : w.length ≤ x.length := split_mem (by decide +kernel) (by decide +kernel) h
theorem wd_so {x w : Str} (hx : SO x) (h : w ∈ Txt.split x " ") : SO w := split_so (by decide +kernel) (by decide +kernel) hx h
theorem wd_ne {x : Str} : ∃ w ws, Txt.split x " " = w :: ws := by
  have : Txt.split x " " ≠ [] := split_ne (by decide +kernel) (by decide +kernel)
  cases h : Txt.split x " " with
  | nil => exact absurd h this
  | cons w ws => exact ⟨w, ws, rfl⟩
def partW (s : Srt) (v : Str) : D := if s = .boat then .str v else dW v
def psW (w : Str) (ws : List Str) : List D := match twOf w with
  | some t => if ws.length = t.ss.length then List.zipWith partW t.ss ws else ws.map .str
  | none => ws.map .str
theorem psW_its {w : Str} {ws : List Str} {d : D} (h : d ∈ psW w ws) : (∃ v ∈ ws, d = .str v) ∨ ∃ v ∈ ws, d = dW v := by
  have str : d ∈ ws.map D.str → ∃ v ∈ ws, d = .str v := fun h => by
    obtain ⟨v, hv, rfl⟩ := List.mem_map.mp h
    exact ⟨v, hv, rfl⟩
  unfold psW at h
  split at h
  · rename_i t _
    split at h
    · obtain ⟨i, hi, e⟩ := List.mem_iff_getElem.mp h
      rw [List.getElem_zipWith] at e
      rw [List.length_zipWith] at hi
      have hv : ws[i]'(by omega) ∈ ws := List.getElem_mem _
      unfold partW at e
      split at e
      · exact .inl ⟨_, hv, e.symm⟩
      · exact .inr ⟨_, hv, e.symm⟩
    · exact .inl (str h)
  · exact .inl (str h)
theorem psW_len {w : Str} {ws : List Str} : (psW w ws).length = ws.length := by
  unfold psW
  split
  · split
    · rw [List.length_zipWith]; omega
    · rw [List.length_map]
  · rw [List.length_map]
def tripW (w : Str) (ws : List Str) : D := .tup (.str w :: psW w ws)
theorem tripW_plain {w : Str} {ws : List Str} (hw : SO w) (hs : ∀ v ∈ ws, SO v) (hl : ws.length ≤ 10000) (k : Nat) : plainD (k + 1) (tripW w ws) = true := by
  show (decide ((D.str w :: psW w ws).length ≤ 1000000) && (D.str w :: psW w ws).all (plainD k)) = true
  rw [decide_eq_true (by rw [List.length_cons, psW_len]; omega), Bool.true_and, List.all_eq_true]
  have ps : ∀ v, SO v → plainD k (.str v) = true := fun v hv => by cases k <;> exact hv
  intro d hd
  rcases List.mem_cons.mp hd with rfl | hd
  · exact ps w hw
  · rcases psW_its hd with ⟨v, hv, rfl⟩ | ⟨v, hv, rfl⟩
    · exact ps v (hs v hv)
    · exact dW_plain v k
theorem tripW_strs {w : Str} {ws : List Str} (hw : w.length ≤ 1000) (hs : ∀ v ∈ ws, v.length ≤ 1000) : StrsLe (tripW w ws) := by
  constructor
  · intro x e
    cases e
  · intro xs e y hy x ey
    cases e
    rcases List.mem_cons.mp hy with rfl | hd
    · cases ey
      exact hw
    · rcases psW_its hd with ⟨v, hv, rfl⟩ | ⟨v, hv, rfl⟩
      · cases ey
        exact hs _ hv
      · rcases dW_cases v with ⟨n, e⟩ | e <;> rw [e] at ey <;> cases ey
theorem eq_boat (s : Srt) (M : Mem) : oEq (.str s.w) (.str "boat") M = .ok (.bl (decide (s = .boat))) M := by cases s <;> rfl
theorem parts_ok {x w : Str} {ws : List Str} {v4 v5 v6 : Option D} (hl : ∀ v ∈ ws, v.length ≤ 1000) (hn : ws.length ≤ 10000) (hb : 0 ≤ M.length) :
    ∃ v3, b_trip_inX_s2 M.length [some (.str x), some (.str w), some (.lst (ws.map D.str)), none, none, none, none] M = .nx [some (.str x), some (.str w), some (.lst (ws.map D.str)), some v3, none, none, none] M ∧
      b_trip_inX_s3 M.length [some (.str x), some (.str w), some (.lst (ws.map D.str)), some v3, none, none, none] M = .nx [some (.str x), some (.str w), some (.lst (psW w ws)), some v3, none, none, none] M := by
  have tl := tr_look w
  have lp : ∀ M, bLen [.lst (ws.map D.str)] M = .ok (.int (ws.length : Int)) M := fun M => by rw [r_len (q_lst M _), List.length_map]
  cases hw : twOf w with
  | none =>
    rw [hw] at tl
    have g2 : b_trip_inX_s2 M.length [some (.str x), some (.str w), some (.lst (ws.map D.str)), none, none, none, none] M = .nx [some (.str x), some (.str w), some (.lst (ws.map D.str)), some (.tup []), none, none, none] M := by
      have e : eGet2GN TRK (eVar 1) (eTup aNil) M.length [some (.str x), some (.str w), some (.lst (ws.map D.str)), none, none, none, none] M = .ok (.tup []) M := by
        show (match TRK.lookup w with | some v => R.ok (gvD v) M | none => .ok (.tup []) M) = _
        rw [tl]
        rfl
      unfold TRK at e
      simp [b_trip_inX_s2, e]
    refine ⟨_, g2, ?_⟩
    have pe : psW w ws = ws.map D.str := by unfold psW; rw [hw]
    rw [pe]
    cases ws with
    | nil => rfl
    | cons v vs =>
      obtain ⟨L, hL⟩ : ∃ L, L = ((v :: vs).map D.str) := ⟨_, rfl⟩
      have n0 : ¬ ((v :: vs).length : Int) = 0 := by rw [List.length_cons]; omega
      obtain ⟨q, hq⟩ : ∃ q : Int, q = ((v :: vs).length : Int) := ⟨_, rfl⟩
      rw [← hq] at lp n0
      rw [← hL] at lp ⊢
      have l0 : ∀ M, bLen [.tup ([] : List D)] M = .ok (.int 0) M := fun M => rfl
      simp [b_trip_inX_s3, lp, l0, n0]
  | some t =>
    rw [hw] at tl
    have ls : ∀ M, bLen [.tup (t.ss.map fun s => D.str s.w)] M = .ok (.int (t.ss.length : Int)) M := fun M => by rw [r_len (q_tup M _), List.length_map]
    have g2 : b_trip_inX_s2 M.length [some (.str x), some (.str w), some (.lst (ws.map D.str)), none, none, none, none] M = .nx [some (.str x), some (.str w), some (.lst (ws.map D.str)), some (.tup (t.ss.map fun s => D.str s.w)), none, none, none] M := by
      have e : eGet2GN TRK (eVar 1) (eTup aNil) M.length [some (.str x), some (.str w), some (.lst (ws.map D.str)), none, none, none, none] M = .ok (.tup (t.ss.map fun s => D.str s.w)) M := by
        show (match TRK.lookup w with | some v => R.ok (gvD v) M | none => .ok (.tup []) M) = _
        rw [tl]
        show R.ok (D.tup ((t.ss.map Srt.w).map .str)) M = _
        rw [List.map_map]
        rfl
      unfold TRK at e
      simp [b_trip_inX_s2, e]
    refine ⟨_, g2, ?_⟩
    have zz : zipD (t.ss.map fun s => D.str s.w) (ws.map D.str) = List.zipWith (fun s v => D.tup [.str s.w, .str v]) t.ss ws := by
      unfold zipD
      rw [List.zipWith_map_left, List.zipWith_map_right]
    by_cases hlen : ws.length = t.ss.length
    · have pe : psW w ws = List.zipWith partW t.ss ws := by unfold psW; rw [hw]; simp only; rw [if_pos hlen]
      rw [pe]
      have cp : ∀ s : Slots, s.length = 7 → compL M.length [] M (.tp [.nm 5, .nm 6]) tTrue b_trip_inX_c1 s (zipD (t.ss.map fun s => D.str s.w) (ws.map D.str)) M = .ok (List.zipWith partW t.ss ws) M := fun s hs => by
        rw [zz]
        refine comp_zip2 _ _ (by simp) fun a _ v hv => ?_
        refine ⟨(s.set 5 (some (.str a.w))).set 6 (some (.str v)), by simp, ?_⟩
        have g5 : ((s.set 5 (some (.str a.w))).set 6 (some (.str v)))[5]? = some (some (.str a.w)) := by simp [hs]
        have g6 : ((s.set 5 (some (.str a.w))).set 6 (some (.str v)))[6]? = some (some (.str v)) := by simp [hs]
        have eb := eq_boat a M
        have ni := number_in_ok (M := M) (w := v) (by have := hl v hv; omega)
        unfold partW
        by_cases hb : a = .boat
        · rw [if_pos hb]
          rw [decide_eq_true hb] at eb
          simp [-r_eqS, b_trip_inX_c1, g5, g6, eb]
        · rw [if_neg hb]
          rw [decide_eq_false hb] at eb
          simp [-r_eqS, b_trip_inX_c1, g5, g6, eb, ni]
      obtain ⟨SS, hSS⟩ : ∃ Z, Z = t.ss.map fun s => D.str s.w := ⟨_, rfl⟩
      obtain ⟨WS, hWS⟩ : ∃ Z, Z = ws.map D.str := ⟨_, rfl⟩
      have lSS : SS.length = t.ss.length := by rw [hSS, List.length_map]
      have lWS : WS.length = ws.length := by rw [hWS, List.length_map]
      rw [← hSS] at ls
      rw [← hWS] at lp
      rw [← hSS, ← hWS] at cp
      rw [← hSS, ← hWS]
      have lz : (zipD SS WS).length ≤ 1000000 := by rw [zipD_len]; omega
      have le : SS.length = WS.length := by omega
      obtain ⟨PS, hPS⟩ : ∃ Z, Z = List.zipWith partW t.ss ws := ⟨_, rfl⟩
      rw [← hPS] at cp ⊢
      simp [b_trip_inX_s3, lp, ls, hlen, iZip, le, wipeD, lz, cp]
    · have pe : psW w ws = ws.map D.str := by unfold psW; rw [hw]; simp only; rw [if_neg hlen]
      rw [pe]
      have n0 : ¬ (ws.length : Int) = (t.ss.length : Int) := by omega
      obtain ⟨SS, hSS⟩ : ∃ Z, Z = t.ss.map fun s => D.str s.w := ⟨_, rfl⟩
      obtain ⟨WS, hWS⟩ : ∃ Z, Z = ws.map D.str := ⟨_, rfl⟩
      rw [← hSS] at ls ⊢
      rw [← hWS] at lp ⊢
      simp [b_trip_inX_s3, lp, ls, n0]
def ansT (x : Str) : D := match Txt.split x " " with
  | w :: ws => if tripB (tripW w ws) = true then tripW w ws else .non
  | [] => .non
theorem trip_in_ok {x : Str} (hx : SO x) (hl : x.length ≤ 900) {w : Str} {ws : List Str} (e : Txt.split x " " = w :: ws) :
    f_trip_inX [.str x] M = if tripB (tripW w ws) = true then .ok (tripW w ws) M else .exc "BadText" (.str x) M := by
  have sp : nSplit (eVar 0) (eC (.str " ")) M.length [some (.str x), none, none, none, none, none, none] M = .ok ((Txt.split x " ").map D.str) M := r_splitV rfl (by decide +kernel) (by omega)
  rw [e] at sp
  have mem : ∀ v ∈ w :: ws, v.length ≤ 1000 ∧ SO v := fun v hv => by
    rw [← e] at hv
    exact ⟨by have := wd_len hv; omega, wd_so hx hv⟩
  have lws : ws.length ≤ 901 := by
    have := split_many x " "
    rw [e, List.length_cons] at this
    omega
  obtain ⟨v3, s2, s3⟩ := parts_ok (M := M) (x := x) (w := w) (ws := ws) (v4 := none) (v5 := none) (v6 := none) (fun v hv => (mem v (by simp [hv])).1) (by omega) (Nat.zero_le _)
  have tp := tripW_plain (w := w) (ws := ws) (mem w (by simp)).2 (fun v hv => (mem v (by simp [hv])).2) (by omega) 5
  have ts := tripW_strs (w := w) (ws := ws) (mem w (by simp)).1 (fun v hv => (mem v (by simp [hv])).1)
  have lps : (psW w ws).length ≤ 901 := by rw [psW_len]; omega
  have it := fun M' : Mem => is_trip_ok (M := M') (d := tripW w ws) tp ts (fun xs e => by
    cases e
    rw [List.length_cons, psW_len]
    omega)
  have ad : ∀ M, oAdd (.lst [.str w]) (.lst (psW w ws)) M = .ok (.lst (.str w :: psW w ws)) M := fun M => if_pos (by have : [D.str w].length = 1 := rfl; omega)
  have tb : ∀ M, bTuple [.lst (.str w :: psW w ws)] M = .ok (tripW w ws) M := fun M => r_tuple (q_lst M _)
  have bl : below M.length (tripW w ws) = true := plain_below tp
  obtain ⟨PS, hPS⟩ : ∃ Z, Z = psW w ws := ⟨_, rfl⟩
  obtain ⟨TR, hTR⟩ : ∃ Z, Z = tripW w ws := ⟨_, rfl⟩
  obtain ⟨WS, hWS⟩ : ∃ Z, Z = ws.map D.str := ⟨_, rfl⟩
  rw [← hPS] at s3 ad tb
  rw [← hWS] at s2 s3
  rw [List.map_cons, ← hWS] at sp
  rw [← hTR] at it tb bl ⊢
  have s1 : b_trip_inX_s1 M.length [some (.str x), none, none, none, none, none, none] M = .nx [some (.str x), some (.str w), some (.lst WS), none, none, none, none] M := by
    simp [b_trip_inX_s1, sp]
  have s4 : b_trip_inX_s4 M.length [some (.str x), some (.str w), some (.lst PS), some v3, none, none, none] M = .nx [some (.str x), some (.str w), some (.lst PS), some v3, some TR, none, none] M := by
    simp [b_trip_inX_s4, -r_addL, ad, tb]
  cases h : tripB TR with
  | true =>
    rw [h] at it
    refine ok_of (fn_wp rfl fun P hR => ?_)
    have fin := hR TR M bl ⟨rfl, List.take_length⟩
    simp [b_trip_inX]
    rw [s1, sq_nx, r_seq, s2, sq_nx, r_seq, s3, sq_nx, r_seq, s4, sq_nx]
    simp [b_trip_inX_s5, it]
    exact fin
  | false =>
    rw [h] at it
    refine fn_wx rfl rfl fun P hP => ?_
    simp [b_trip_inX]
    rw [s1, sq_nx, r_seq, s2, sq_nx, r_seq, s3, sq_nx, r_seq, s4, sq_nx]
    simp [b_trip_inX_s5, it, sRaise, flatB]
    exact hP _ _ List.take_length
theorem asked_ok {x : Str} (hx : SO x) (hl : x.length ≤ 900) : f_law_asked [.str x] M = .ok (ansT x) M := by
  obtain ⟨w, ws, e⟩ := wd_ne (x := x)
  refine ok_of (fn_wp rfl fun P hR => ?_)
  have an : ansT x = if tripB (tripW w ws) = true then tripW w ws else .non := by unfold ansT; rw [e]
  have st := trip_in_ok (M := M) hx hl e
  have mem : ∀ v ∈ w :: ws, v.length ≤ 1000 ∧ SO v := fun v hv => by
    rw [← e] at hv
    exact ⟨by have := wd_len hv; omega, wd_so hx hv⟩
  have lws : ws.length ≤ 901 := by
    have := split_many x " "
    rw [e, List.length_cons] at this
    omega
  have tp := tripW_plain (w := w) (ws := ws) (mem w (by simp)).2 (fun v hv => (mem v (by simp [hv])).2) (by omega) 5
  have bl : below M.length (tripW w ws) = true := plain_below tp
  cases h : tripB (tripW w ws) with
  | true =>
    rw [h] at st an
    rw [if_pos rfl] at st an
    have fin := hR (tripW w ws) M bl ⟨an.symm, List.take_length⟩
    obtain ⟨A, hA⟩ : ∃ A, A = tripW w ws := ⟨_, rfl⟩
    rw [← hA] at st fin
    simp [b_law_asked, b_law_asked_s1, gT, b_law_asked_s2, st, b_law_asked_s3, isNon]
    exact fin
  | false =>
    rw [h] at st an
    have st : f_trip_inX [.str x] M = .exc "BadText" (.str x) M := st
    have i1 : ∀ M, oIsE [("BadText", true)] (.exn "BadText" (.str x)) M = .ok (.bl true) M := fun M => r_isE rfl
    have i3 : ∀ M, oIsE [("BadText", false)] (.exn "BadText" (.str x)) M = .ok (.bl false) M := fun M => r_isE rfl
    have wh : ∀ M, oWhat ["BadText"] (.exn "BadText" (.str x)) M = .ok (.str x) M := fun M => r_what (by decide)
    have ct : ∀ s M, (RS.exc "BadText" (.str x) s M).caught ["BadText"] 3 2 = .nx ((s.set 2 (some (.exn "BadText" (.str x)))).set 3 none) M := fun s M => caught_exc (by decide) rfl
    simp [b_law_asked, b_law_asked_s1, gT, b_law_asked_s2, st, ct, b_law_asked_s3, isNon]
    simp [b_law_asked_s4, i1, i3, b_law_asked_s5, wh]
    exact hR _ _ (by simp) ⟨by rw [an]; rfl, List.take_length⟩
end
end LW
namespace LW
open PySem L2
def K7 : List Key := [.inr "up", .inr "down", .inr "turn", .inr "load", .inr "unload", .inr "carry", .inr "rain"]
def V7 : List D := [.str "bl", .str "bl", .str "l", .str "bm", .str "bm", .str "qqm", .str "lm"]
theorem mk7s : mergeKD [] [] [(.inr "up", D.str "bl"), (.inr "down", .str "bl"), (.inr "turn", .str "l"), (.inr "load", .str "bm"), (.inr "unload", .str "bm"), (.inr "carry", .str "qqm"), (.inr "rain", .str "lm")] = (K7, V7) := by rfl
theorem mk1s : mergeKD [] [] [((.inr "draw" : Key), D.str "lm")] = ([.inr "draw"], [.str "lm"]) := by rfl
def K3 : List Key := [.inr "l", .inr "q", .inr "m"]
def V3 : List D := [.tup [.int 1, .int 20], .tup [.int 0, .int 20], .tup [.int 1, .non]]
theorem mk3s : mergeKD [] [] [((.inr "l" : Key), D.tup [.int 1, .int 20]), (.inr "q", .tup [.int 0, .int 20]), (.inr "m", .tup [.int 1, .non])] = (K3, V3) := by rfl
def Srt.lo : Srt → Int
  | .quay => 0
  | _ => 1
def Srt.hi : Srt → Option Int
  | .many => none
  | _ => some 20
theorem lim3_ok {b : Nat} {s : Slots} {M : Mem} {a : Srt} (ha : a ≠ .boat) (g2 : s[0]? = some (some (.str ⟨#[a.c]⟩))) : (eDget (eDctN [(eC (.str "l"), eTup (aCons (eC (.int 1)) (aCons (eC (.int 20)) (aNil)))), (eC (.str "q"), eTup (aCons (eC (.int 0)) (aCons (eC (.int 20)) (aNil)))), (eC (.str "m"), eTup (aCons (eC (.int 1)) (aCons (eC .non) (aNil))))]) (eVar 0)) b s M = .ok (.tup [.int a.lo, hiD a.hi]) (M ++ [.dct K3 V3]) := by
  have n0 : ∀ M : Mem, nPairs [] b s M = .ok [] M := fun M => rfl
  have e1 := dctN_ok (b := b) (s := s) (M := M) (np_cons (k := "l") (f := eTup (aCons (eC (.int 1)) (aCons (eC (.int 20)) (aNil)))) rfl (np_cons (k := "q") (f := eTup (aCons (eC (.int 0)) (aCons (eC (.int 20)) (aNil)))) rfl (np_cons (k := "m") (f := eTup (aCons (eC (.int 1)) (aCons (eC .non) (aNil)))) rfl (n0 M)))) (by decide) mk3s
  obtain ⟨M1, hM1⟩ : ∃ M1, M1 = M ++ [Cell.dct K3 V3] := ⟨_, rfl⟩
  have g1 : M1[M.length]? = some (.dct K3 V3) := by rw [hM1]; exact get_app
  rw [← hM1] at e1 ⊢
  have hd : dctOf M1 (.ref M.length) = some (K3, V3) := by simp only [dctOf, g1]
  rw [r_dget, e1]
  simp only [bind_ok, r_var, g2, hd]
  cases a with
  | boat => exact absurd rfl ha
  | lock => rfl
  | pound => rfl
  | quay => rfl
  | many => rfl
theorem part_lim {a : Srt} (ha : a ≠ .boat) (d : D) : partB a d = numB a.lo a.hi d := by
  cases a with
  | boat => exact absurd rfl ha
  | _ => rfl
theorem c_b {a : Srt} (M : Mem) : oEq (.str ⟨#[a.c]⟩) (.str "b") M = .ok (.bl (decide (a = .boat))) M ∧ oNe (.str ⟨#[a.c]⟩) (.str "b") M = .ok (.bl (!decide (a = .boat))) M := by
  cases a <;> exact ⟨rfl, rfl⟩
theorem let_compI {i : Nat} {b : Nat} {M : Mem} {s : Slots} {e : ES} (he : e = eChain oLeS oLeS (eC (.str "a")) (eVar i) (eC (.str "z"))) (x : Str) (hs : i < s.length) : compL b [] M (.nm i) tTrue e s (chrs x) M = .ok ((x.cps.toList.map letB).map .bl) M := by
  unfold chrs
  rw [List.map_map]
  refine comp_fn (fun c => D.str ⟨#[c]⟩) (fun c => .bl (letB c)) (by simp) fun c _ => ⟨_, t_nm _ _, ?_⟩
  have g1 : (s.set i (some (.str ⟨#[c]⟩)))[i]? = some (some (.str ⟨#[c]⟩)) := by simp [hs]
  subst he
  cases h1 : ltS ⟨#[c]⟩ "a" with
  | true => simp [g1, oLeS, h1, letB]
  | false => simp [g1, oLeS, h1, letB]
theorem dig_compI {i : Nat} {b : Nat} {M : Mem} {s : Slots} {e : ES} (he : e = eBin oInS (eVar i) (eC (.str "0123456789"))) (x : Str) (hs : i < s.length) : compL b [] M (.nm i) tTrue e s (chrs x) M = .ok ((x.cps.toList.map isDg).map .bl) M := by
  unfold chrs
  rw [List.map_map]
  refine comp_fn (fun c => D.str ⟨#[c]⟩) (fun c => .bl (isDg c)) (by simp) fun c _ => ⟨_, t_nm _ _, ?_⟩
  subst he
  simp [hs, r_inS]
section
variable {M : Mem}
def numR (lo : Int) (hi : Option Int) (w : Str) : D := if numB lo hi (dW w) = true then dW w else .non
theorem law_number_ok {lo : Int} {hi : Option Int} {w : Str} (hl : w.length ≤ 100000) : f_law_number [.str w, .int lo, hiD hi] M = .ok (numR lo hi w) M := by
  refine ok_of (fn_wp rfl fun P hR => ?_)
  have ln : ∀ M, bLen [.str w] M = .ok (.int (w.length : Int)) M := fun M => if_pos (by omega)
  have cp := dig_compI (i := 3) (b := M.length) (M := M) (s := [some (.str w), some (.int lo), some (hiD hi), none]) (e := b_law_number_c1) rfl w (by simp)
  have al := r_allB (M := M) (w.cps.toList) isDg
  have al : bAll [.lst ((w.cps.toList.map isDg).map .bl)] M = .ok (.bl (w.cps.toList.all isDg)) M := by rw [List.map_map]; exact al
  have lc : (chrs w).length ≤ 1000000 := by rw [chrs_len]; have : w.length = w.cps.size := rfl; omega
  obtain ⟨BB, hBB⟩ : ∃ Z, Z = (w.cps.toList.map isDg).map D.bl := ⟨_, rfl⟩
  rw [← hBB] at cp al
  have no : numW w = none → P.r .non M := fun h => hR _ _ (by simp) ⟨by simp [numR, dW, h, numB], List.take_length⟩
  obtain ⟨HI, hHI⟩ : ∃ Z, Z = hiD hi := ⟨_, rfl⟩
  rw [← hHI] at cp ⊢
  by_cases c1 : 1 ≤ w.length
  · have d1 : 0 < w.length := by omega
    by_cases c2 : w.length ≤ 19
    · have d2 : (w.length : Int) < 20 := by omega
      cases ha : w.cps.toList.all isDg with
      | true =>
        rw [ha] at al
        have i0 := fun M : Mem => ix_0 (M := M) c1 c2
        have ig := fun M : Mem => int_dg (M := M) c1 c2 ha
        have yes : lead0 w = true → dW w = .int ((NumText.digitsVal w.cps.toList : Nat) : Int) := fun h => by simp [dW, numW, c1, c2, ha, h]
        obtain ⟨n, hn⟩ : ∃ n : Int, n = ((NumText.digitsVal w.cps.toList : Nat) : Int) := ⟨_, rfl⟩
        rw [← hn] at ig yes
        have fin : lead0 w = true → ∀ r : Bool, r = numB lo hi (.int n) → P.r (if r = true then .int n else .non) M := fun h r e => hR _ _ (by split <;> rfl) ⟨by unfold numR; rw [yes h, e], List.take_length⟩
        have s3 : lead0 w = true → Wp (b_law_number_s3 M.length [some (.str w), some (.int lo), some HI, none] M) P := fun h => by
          by_cases k1 : lo ≤ n
          · cases hi with
            | none =>
              have e : HI = .non := hHI
              subst e
              simp [b_law_number_s3, ig, oLe, oCmp, k1, isNon]
              exact fin h true (by simp [numB, k1])
            | some m =>
              have e : HI = .int m := hHI
              subst e
              by_cases k2 : n ≤ m
              · simp [b_law_number_s3, ig, oLe, oCmp, k1, k2, isNon]
                exact fin h true (by simp [numB, k1, k2])
              · simp [b_law_number_s3, ig, oLe, oCmp, k1, k2, isNon]
                exact fin h false (by simp [numB, k1, k2])
          · simp [b_law_number_s3, ig, oLe, oCmp, k1]
            exact fin h false (by simp [numB, k1])
        have s1 : b_law_number_s1 M.length [some (.str w), some (.int lo), some HI, none] M = .nx [some (.str w), some (.int lo), some HI, none] M := by
          simp [b_law_number_s1, ln, d1, d2, oLt, oCmp, r_txt', wipeD, lc, cp, al]
        cases h1 : (w == ("0" : Str)) with
        | true =>
          have s2 : b_law_number_s2 M.length [some (.str w), some (.int lo), some HI, none] M = .nx [some (.str w), some (.int lo), some HI, none] M := by
            simp [b_law_number_s2, h1]
          simp [b_law_number]
          rw [s1, sq_nx, r_seq, s2, sq_nx]
          exact s3 (by simp [lead0, h1])
        | false =>
          cases h2 : ((⟨#[hd0 w]⟩ : Str) == ("0" : Str)) with
          | false =>
            have s2 : b_law_number_s2 M.length [some (.str w), some (.int lo), some HI, none] M = .nx [some (.str w), some (.int lo), some HI, none] M := by
              simp [b_law_number_s2, h1, h2, i0]
            simp [b_law_number]
            rw [s1, sq_nx, r_seq, s2, sq_nx]
            exact s3 (by simp [lead0, h1, h2])
          | true =>
            simp [b_law_number]
            rw [s1, sq_nx, r_seq]
            simp [b_law_number_s2, h1, h2, i0]
            exact no (by simp [numW, lead0, h1, h2])
      | false =>
        rw [ha] at al
        simp [b_law_number, b_law_number_s1, ln, d1, d2, oLt, oCmp, r_txt', wipeD, lc, cp, al]
        exact no (by simp [numW, ha])
    · have d2 : ¬ (w.length : Int) < 20 := by omega
      simp [b_law_number, b_law_number_s1, ln, d1, d2, oLt, oCmp]
      exact no (by simp [numW, c2])
  · have d1 : ¬ 0 < w.length := by omega
    simp [b_law_number, b_law_number_s1, ln, d1, oLt, oCmp]
    exact no (by simp [numW, c1])
def pR (a : Srt) (v : Str) : D := if partB a (partW a v) = true then partW a v else .non
theorem pR_plain {a : Srt} {v : Str} (hv : SO v) (k : Nat) : plainD k (pR a v) = true := by
  have h : plainD k (partW a v) = true := by
    unfold partW
    split
    · cases k <;> exact hv
    · exact dW_plain v k
  unfold pR
  split
  · exact h
  · cases k <;> rfl
theorem law_part_ok {a : Srt} {v : Str} (hl : v.length ≤ 1000) (hv : SO v) : f_law_part [.str ⟨#[a.c]⟩, .str v] M = .ok (pR a v) M := by
  refine ok_of (fn_wp rfl fun P hR => ?_)
  obtain ⟨q1, q2⟩ := c_b (a := a) M
  have fin : ∀ M', Pf M M' → P.r (pR a v) M' := fun M' pf => hR _ _ (plain_below (pR_plain hv 0)) ⟨rfl, pf.take⟩
  by_cases hb : a = .boat
  · subst hb
    have ln : ∀ M, bLen [.str v] M = .ok (.int (v.length : Int)) M := fun M => if_pos (by omega)
    have cp := let_compI (i := 5) (b := M.length) (M := M) (s := [some (.str ⟨#[Srt.boat.c]⟩), some (.str v), none, none, none, none]) (e := b_law_part_c1) rfl v (by simp)
    have al := r_allB (M := M) (v.cps.toList) letB
    have al : bAll [.lst ((v.cps.toList.map letB).map .bl)] M = .ok (.bl (v.cps.toList.all letB)) M := by rw [List.map_map]; exact al
    have lc : (chrs v).length ≤ 1000000 := by rw [chrs_len]; have : v.length = v.cps.size := rfl; omega
    obtain ⟨BB, hBB⟩ : ∃ Z, Z = (v.cps.toList.map letB).map D.bl := ⟨_, rfl⟩
    rw [← hBB] at cp al
    have fin := fin M .refl
    have pe : pR .boat v = if ((decide (1 ≤ v.length) && decide (v.length ≤ 8)) && v.cps.toList.all letB) = true then .str v else .non := rfl
    rw [pe] at fin
    rw [decide_eq_true rfl] at q1
    by_cases c1 : 1 ≤ v.length
    · have d1 : 0 < v.length := by omega
      by_cases c2 : v.length ≤ 8
      · have d2 : (v.length : Int) < 9 := by omega
        cases ha : v.cps.toList.all letB with
        | true =>
          rw [ha] at al
          simp [-r_eqS, b_law_part, b_law_part_s1, q1, ln, d1, d2, oLt, oCmp, r_txt', wipeD, lc, cp, al]
          simpa [c1, c2, ha] using fin
        | false =>
          rw [ha] at al
          simp [-r_eqS, b_law_part, b_law_part_s1, q1, ln, d1, d2, oLt, oCmp, r_txt', wipeD, lc, cp, al]
          simpa [c1, c2, ha] using fin
      · have d2 : ¬ (v.length : Int) < 9 := by omega
        simp [-r_eqS, b_law_part, b_law_part_s1, q1, ln, d1, d2, oLt, oCmp]
        simpa [c1, c2] using fin
    · have d1 : ¬ 0 < v.length := by omega
      simp [-r_eqS, b_law_part, b_law_part_s1, q1, ln, d1, oLt, oCmp]
      simpa [c1] using fin
  · have lm := lim3_ok (b := M.length) (s := [some (.str ⟨#[a.c]⟩), some (.str v), none, none, none, none]) (M := M) hb rfl
    obtain ⟨M1, hM1⟩ : ∃ M1, M1 = M ++ [Cell.dct K3 V3] := ⟨_, rfl⟩
    rw [← hM1] at lm
    have pf : Pf M M1 := by rw [hM1]; exact Pf.refl.app _
    have lnb := law_number_ok (M := M1) (lo := a.lo) (hi := a.hi) (w := v) (by omega)
    have pe : pR a v = numR a.lo a.hi v := by
      unfold pR numR partW
      rw [if_neg hb, part_lim hb]
    rw [decide_eq_false hb] at q1
    have fin := fin M1 pf
    rw [pe] at fin
    simp [-r_eqS, -r_dget, b_law_part, b_law_part_s1, q1, b_law_part_s2, lm, gT, b_law_part_s3, lnb]
    exact fin
def FlN (d : D) : Prop := d = .non ∨ (∃ i, d = .int i) ∨ ∃ x, d = .str x
theorem in_non : ∀ {Q : List D}, (∀ d ∈ Q, FlN d) → ∃ vs, vsOf Q = some vs ∧ inV .non vs = Q.any isNon
  | [], _ => ⟨[], rfl, rfl⟩
  | d :: Q, h => by
    obtain ⟨vs, h1, h2⟩ := in_non (Q := Q) fun x hx => h x (by simp [hx])
    rcases h d (by simp) with rfl | ⟨i, rfl⟩ | ⟨x, rfl⟩
    · refine ⟨.non :: vs, ?_, ?_⟩
      · show (match vOf .non, vsOf Q with | some v, some vs => some (v :: vs) | _, _ => none) = _
        rw [h1]; rfl
      · show (true || inV .non vs) = (true || Q.any isNon)
        rfl
    · refine ⟨.int i :: vs, ?_, ?_⟩
      · show (match vOf (.int i), vsOf Q with | some v, some vs => some (v :: vs) | _, _ => none) = _
        rw [h1]; rfl
      · show (false || inV .non vs) = (false || Q.any isNon)
        rw [h2]
    · refine ⟨.str x :: vs, ?_, ?_⟩
      · show (match vOf (.str x), vsOf Q with | some v, some vs => some (v :: vs) | _, _ => none) = _
        rw [h1]; rfl
      · show (false || inV .non vs) = (false || Q.any isNon)
        rw [h2]
theorem r_inN {Q : List D} (h : ∀ d ∈ Q, FlN d) : oInB false .non (.lst Q) M = .ok (.bl (Q.any isNon)) M := by
  obtain ⟨vs, h1, h2⟩ := in_non h
  unfold oInB
  have e : (seqOf M (.lst Q)).bind vsOf = some vs := h1
  rw [e]
  simp only [vOf]
  rw [h2]
  rfl
theorem part_non (a : Srt) : partB a .non = false := by cases a <;> rfl
theorem partW_fl (a : Srt) (v : Str) : FlN (partW a v) := by
  unfold partW
  split
  · exact .inr (.inr ⟨_, rfl⟩)
  · rcases dW_cases v with ⟨n, e⟩ | e <;> rw [e]
    · exact .inr (.inl ⟨_, rfl⟩)
    · exact .inl rfl
theorem pR_fl (a : Srt) (v : Str) : FlN (pR a v) := by
  unfold pR
  split
  · exact partW_fl a v
  · exact .inl rfl
theorem all_parts : ∀ (ss : List Srt) (ws : List Str), (List.zipWith pR ss ws).any isNon = !(List.zipWith partB ss (List.zipWith partW ss ws)).all id
  | [], _ => rfl
  | _ :: _, [] => rfl
  | a :: ss, v :: ws => by
    have ih := all_parts ss ws
    show (isNon (pR a v) || (List.zipWith pR ss ws).any isNon) = !(partB a (partW a v) && (List.zipWith partB ss (List.zipWith partW ss ws)).all id)
    rw [ih]
    have : isNon (pR a v) = !partB a (partW a v) := by
      unfold pR
      cases h : partB a (partW a v) with
      | false => rfl
      | true =>
        simp only [if_true]
        rcases partW_fl a v with e | ⟨i, e⟩ | ⟨x, e⟩
        · rw [e, part_non] at h
          cases h
        · rw [e]; rfl
        · rw [e]; rfl
    rw [this]
    cases partB a (partW a v) <;> rfl
theorem same_parts : ∀ (ss : List Srt) (ws : List Str), (List.zipWith partB ss (List.zipWith partW ss ws)).all id = true → List.zipWith pR ss ws = List.zipWith partW ss ws
  | [], _, _ => rfl
  | _ :: _, [], _ => rfl
  | a :: ss, v :: ws, h => by
    have h : (partB a (partW a v) && (List.zipWith partB ss (List.zipWith partW ss ws)).all id) = true := h
    rw [Bool.and_eq_true] at h
    show pR a v :: List.zipWith pR ss ws = partW a v :: List.zipWith partW ss ws
    rw [same_parts ss ws h.2]
    unfold pR
    rw [if_pos h.1]
def K1 : List Key := [.inr "draw"]
def V1 : List D := [.str "lm"]
theorem val71 (w : Str) : (valD (.inr w) K1 V1).getD ((valD (.inr w) K7 V7).getD (.str "none")) = match twOf w with | some t => .str t.sh | none => .str "none" := by
  cases h : twOf w with
  | some t =>
    have e := twOf_w h
    subst e
    cases t <;> rfl
  | none =>
    unfold twOf at h
    split at h
    · cases h
    · split at h
      · cases h
      · split at h
        · cases h
        · split at h
          · cases h
          · split at h
            · cases h
            · split at h
              · cases h
              · split at h
                · cases h
                · split at h
                  · cases h
                  · unfold K1 V1 K7 V7
                    simp only [valD, Sum.inr.injEq, *, if_false]
                    rfl
end
end LW
namespace LW
open PySem L2
def shW (w : Str) : Str := match twOf w with
  | some t => t.sh
  | none => "none"
section
variable {M : Mem}
theorem r_zipL {f : EA} {b : Nat} {s : Slots} {M : Mem} : iZipL f b s M = (f b s M).bind fun ds M1 => match ds with
  | [.str x, .lst ys] => if x.cps.size = ys.length then .ok (zipD (chrs x) ys, []) M1 else .bad
  | _ => .bad := rfl
theorem due_shapes {b : Nat} {s : Slots} {w : Str} {ws : List Str} (h1 : s.length = 7) (g1 : s[1]? = some (some (.lst (D.str w :: ws.map D.str)))) (g2 : s[2]? = some (some (.ref M.length))) {M1 : Mem} (hM1 : M1 = M ++ [Cell.dct K7 V7]) :
    b_law_due_s2 b s M1 = .nx (s.set 3 (some (.str (shW w)))) (M1 ++ [.dct [.inr "draw"] [.str "lm"]]) := by
  have n0 : ∀ M : Mem, nPairs [] b s M = .ok [] M := fun M => rfl
  have e2 := dctN_ok (b := b) (s := s) (M := M1) (np_cons (k := "draw") (f := eC (.str "lm")) rfl (n0 M1)) (by decide) mk1s
  obtain ⟨M2, hM2⟩ : ∃ M2, M2 = M1 ++ [Cell.dct [.inr "draw"] [.str "lm"]] := ⟨_, rfl⟩
  have l1 : M1.length = M.length + 1 := by rw [hM1, List.length_append]; rfl
  have c1 : M2[M.length]? = some (.dct K7 V7) := by rw [hM2, List.getElem?_append_left (by omega), hM1]; exact get_app
  have c2 : M2[M1.length]? = some (.dct [.inr "draw"] [.str "lm"]) := by rw [hM2]; exact get_app
  rw [← hM2] at e2 ⊢
  have d1 : dctOf M2 (.ref M.length) = some (K7, V7) := by simp only [dctOf, c1]
  have d2 : dctOf M2 (.ref M1.length) = some (K1, V1) := by simp only [dctOf, c2]; rfl
  have ix : eBin oIx (eVar 1) (eC (.int 0)) b s M2 = .ok (.str w) M2 := by
    obtain ⟨WS, hWS⟩ : ∃ Z, Z = ws.map D.str := ⟨_, rfl⟩
    rw [← hWS] at g1
    simp [g1]
  have v := val71 w
  have in1 : eDget2 (eVar 2) (eBin oIx (eVar 1) (eC (.int 0))) (eC (.str "none")) b s M2 = .ok ((valD (.inr w) K7 V7).getD (.str "none")) M2 := by
    unfold eDget2
    rw [r_var, g2]
    simp only [bind_ok]
    rw [d1]
    simp only
    rw [ix]
    simp only [bind_ok, r_c]
    rw [d1]
    rfl
  have in2 : eDget2 (eDctN [(eC (.str "draw"), eC (.str "lm"))]) (eBin oIx (eVar 1) (eC (.int 0))) (eDget2 (eVar 2) (eBin oIx (eVar 1) (eC (.int 0))) (eC (.str "none"))) b s M1 = .ok (.str (shW w)) M2 := by
    rw [show eDget2 (eDctN [(eC (.str "draw"), eC (.str "lm"))]) (eBin oIx (eVar 1) (eC (.int 0))) (eDget2 (eVar 2) (eBin oIx (eVar 1) (eC (.int 0))) (eC (.str "none"))) b s M1 = (eDctN [(eC (.str "draw"), eC (.str "lm"))] b s M1).bind fun x M1 => match dctOf M1 x with
      | some _ => (eBin oIx (eVar 1) (eC (.int 0)) b s M1).bind fun y M2 => (eDget2 (eVar 2) (eBin oIx (eVar 1) (eC (.int 0))) (eC (.str "none")) b s M2).bind fun z M3 => (match keyOf y, dctOf M3 x with
        | some k, some p => .ok ((valD k p.1 p.2).getD z) M3
        | _, _ => .bad)
      | none => .bad from rfl]
    rw [e2]
    simp only [bind_ok]
    rw [d2]
    simp only
    rw [ix]
    simp only [bind_ok]
    rw [in1]
    simp only [bind_ok]
    rw [d2]
    show R.ok ((valD (.inr w) K1 V1).getD ((valD (.inr w) K7 V7).getD (.str "none"))) M2 = _
    rw [v]
    unfold shW
    cases twOf w <;> rfl
  unfold b_law_due_s2
  rw [r_set, in2]
  rfl
theorem due_s1 {b : Nat} {s : Slots} : b_law_due_s1 b s M = .nx (s.set 2 (some (.ref M.length))) (M ++ [.dct K7 V7]) := by
  have n0 : ∀ M : Mem, nPairs [] b s M = .ok [] M := fun M => rfl
  have e1 := dctN_ok (b := b) (s := s) (M := M) (np_cons (k := "up") (f := eC (.str "bl")) rfl (np_cons (k := "down") (f := eC (.str "bl")) rfl (np_cons (k := "turn") (f := eC (.str "l")) rfl (np_cons (k := "load") (f := eC (.str "bm")) rfl (np_cons (k := "unload") (f := eC (.str "bm")) rfl (np_cons (k := "carry") (f := eC (.str "qqm")) rfl (np_cons (k := "rain") (f := eC (.str "lm")) rfl (n0 M)))))))) (by decide) mk7s
  unfold b_law_due_s1
  rw [r_set, e1]
  rfl
theorem due_ok {x : Str} (hx : SO x) (hl : x.length ≤ 900) : f_law_due [.str x] M = .ok (ansT x) M := by
  obtain ⟨w, ws, e⟩ := wd_ne (x := x)
  refine ok_of (fn_wp rfl fun P hR => ?_)
  have an : ansT x = if tripB (tripW w ws) = true then tripW w ws else .non := by unfold ansT; rw [e]
  have sp : ∀ M' : Mem, nSplit (eVar 0) (eC (.str " ")) M.length [some (.str x), none, none, none, none, none, none] M' = .ok (D.str w :: ws.map D.str) M' := fun M' => by
    have := r_splitV (i := 0) (x := x) (y := " ") (b := M.length) (s := [some (.str x), none, none, none, none, none, none]) (M := M') rfl (by decide +kernel) (by omega)
    rw [e] at this
    exact this
  have mem : ∀ v ∈ w :: ws, v.length ≤ 1000 ∧ SO v := fun v hv => by
    rw [← e] at hv
    exact ⟨by have := wd_len hv; omega, wd_so hx hv⟩
  have lws : ws.length ≤ 901 := by
    have := split_many x " "
    rw [e, List.length_cons] at this
    omega
  have tp := tripW_plain (w := w) (ws := ws) (mem w (by simp)).2 (fun v hv => (mem v (by simp [hv])).2) (by omega) 5
  obtain ⟨M1, hM1⟩ : ∃ M1, M1 = M ++ [Cell.dct K7 V7] := ⟨_, rfl⟩
  obtain ⟨M2, hM2⟩ : ∃ M2, M2 = M1 ++ [Cell.dct [.inr "draw"] [.str "lm"]] := ⟨_, rfl⟩
  have pf2 : Pf M M2 := by rw [hM2, hM1]; exact (Pf.refl.app _).app _
  have s1 := due_s1 (M := M) (b := M.length) (s := [some (.str x), some (.lst (D.str w :: ws.map D.str)), none, none, none, none, none])
  have s2 := due_shapes (M := M) (b := M.length) (s := [some (.str x), some (.lst (D.str w :: ws.map D.str)), some (.ref M.length), none, none, none, none]) rfl rfl rfl hM1
  rw [← hM1] at s1
  rw [← hM2] at s2
  have tw : tripW w ws = .tup (.str w :: psW w ws) := rfl
  have no : tripB (tripW w ws) = false → P.r .non M2 := fun h => hR _ _ rfl ⟨by rw [an, h]; rfl, pf2.take⟩
  have yes : tripB (tripW w ws) = true → P.r (.tup (.str w :: psW w ws)) M2 := fun h => hR _ _ (plain_below tp) ⟨by rw [an, h]; rfl, pf2.take⟩
  have ln : ∀ M, bLen [.lst (D.str w :: ws.map D.str)] M = .ok (.int ((ws.length : Int) + 1)) M := fun M => by rw [r_len (q_lst M _), List.length_cons, List.length_map]; simp
  obtain ⟨WS, hWS⟩ : ∃ Z, Z = ws.map D.str := ⟨_, rfl⟩
  have lWS : WS.length = ws.length := by rw [hWS, List.length_map]
  rw [← hWS] at s1 s2 ln
  simp only [← hWS] at sp
  have s0 : b_law_due M.length [some (.str x), none, none, none, none, none, none] M = sSeq b_law_due_s3 (sSeq b_law_due_s4 (sSeq b_law_due_s5 b_law_due_s6)) M.length [some (.str x), some (.lst (D.str w :: WS)), some (.ref M.length), some (.str (shW w)), none, none, none] M2 := by
    have a1 : sSet 1 (eFrz (nSplit (eVar 0) (eC (.str " ")))) M.length [some (.str x), none, none, none, none, none, none] M = .nx [some (.str x), some (.lst (D.str w :: WS)), none, none, none, none, none] M := by
      simp [sp]
    unfold b_law_due
    rw [r_seq, a1, sq_nx, r_seq, s1, sq_nx, r_seq]
    show ((b_law_due_s2 M.length [some (.str x), some (.lst (D.str w :: WS)), some (.ref M.length), none, none, none, none] M1).sq _) = _
    rw [s2, sq_nx]
    rfl
  show Wp (b_law_due M.length [some (.str x), none, none, none, none, none, none] M) P
  rw [s0]
  cases hw : twOf w with
  | none =>
    have sh : shW w = "none" := by unfold shW; rw [hw]
    rw [sh]
    simp [b_law_due_s3]
    exact no (by rw [tw]; simp [tripB, hw])
  | some t =>
    have sh : shW w = t.sh := by unfold shW; rw [hw]
    rw [sh]
    have tb : tripB (tripW w ws) = restB t (psW w ws) := by rw [tw]; simp [tripB, hw]
    rw [tb] at no yes
    have nn : (t.sh == ("none" : Str)) = false := by cases t <;> decide +kernel
    have lsh : ∀ M, bLen [.str t.sh] M = .ok (.int (t.ss.length : Int)) M := fun M => by
      have e : t.sh.length = t.ss.length := t.size
      show (if t.sh.length ≤ 1000000 then R.ok (D.int t.sh.length) M else .bad) = _
      rw [e, if_pos (by cases t <;> decide)]
    by_cases hlen : ws.length = t.ss.length
    · have pe : psW w ws = List.zipWith partW t.ss ws := by unfold psW; rw [hw]; simp only; rw [if_pos hlen]
      rw [pe] at no yes
      have rb : restB t (List.zipWith partW t.ss ws) = ((List.zipWith partB t.ss (List.zipWith partW t.ss ws)).all id && (decide (t ≠ .carry) || carB (List.zipWith partW t.ss ws))) := by
        unfold restB
        rw [decide_eq_true (by rw [List.length_zipWith]; omega), Bool.true_and]
      rw [rb] at no yes
      have ct : ∀ M, oCut (.lst (D.str w :: WS)) (some 1) none M = .ok (.lst WS) M := fun M => by
        rw [r_oCutL]
        have := cut_drop (D.str w :: WS) 1
        rw [show ((1 : Nat) : Int) = 1 from rfl] at this
        rw [this]
        rfl
      have ct1 : ∀ M, oCut (.lst (D.str w :: WS)) none (some 1) M = .ok (.lst [D.str w]) M := fun M => by
        rw [r_oCutL]
        have := cut_take (D.str w :: WS) 1
        rw [show ((1 : Nat) : Int) = 1 from rfl] at this
        rw [this]
        rfl
      have zz : zipD (chrs t.sh) WS = List.zipWith (fun a v => D.tup [.str ⟨#[a.c]⟩, .str v]) t.ss ws := by
        rw [hWS]
        unfold zipD chrs
        rw [t.chrs, List.map_map, List.zipWith_map_left, List.zipWith_map_right]
        rfl
      have cp : ∀ s : Slots, s.length = 7 → compL M.length [] M2 (.tp [.nm 5, .nm 6]) tTrue b_law_due_c1 s (zipD (chrs t.sh) WS) M2 = .ok (List.zipWith pR t.ss ws) M2 := fun s hs => by
        rw [zz]
        refine comp_zip2 _ _ (by simp) fun a _ v hv => ?_
        refine ⟨(s.set 5 (some (.str ⟨#[a.c]⟩))).set 6 (some (.str v)), by simp, ?_⟩
        have g5 : ((s.set 5 (some (.str ⟨#[a.c]⟩))).set 6 (some (.str v)))[5]? = some (some (.str ⟨#[a.c]⟩)) := by simp [hs]
        have g6 : ((s.set 5 (some (.str ⟨#[a.c]⟩))).set 6 (some (.str v)))[6]? = some (some (.str v)) := by simp [hs]
        have lp := law_part_ok (M := M2) (a := a) (v := v) (mem v (by simp [hv])).1 (mem v (by simp [hv])).2
        simp [b_law_due_c1, g5, g6, lp]
      have lz : (zipD (chrs t.sh) WS).length ≤ 1000000 := by rw [zipD_len]; omega
      have sz : t.sh.cps.size = WS.length := by rw [t.size, lWS, hlen]
      have inn := fun M : Mem => r_inN (M := M) (Q := List.zipWith pR t.ss ws) fun d hd => by
        obtain ⟨i, hi, e⟩ := List.mem_iff_getElem.mp hd
        rw [List.getElem_zipWith] at e
        rw [← e]
        exact pR_fl _ _
      rw [all_parts] at inn
      have n1 : ¬ (ws.length : Int) + 1 ≠ (t.ss.length : Int) + 1 := by omega
      have lQ : (List.zipWith pR t.ss ws).length ≤ 901 := by rw [List.length_zipWith]; omega
      have sp := same_parts t.ss ws
      have s3 : b_law_due_s3 M.length [some (.str x), some (.lst (D.str w :: WS)), some (.ref M.length), some (.str t.sh), none, none, none] M2 = .nx [some (.str x), some (.lst (D.str w :: WS)), some (.ref M.length), some (.str t.sh), none, none, none] M2 := by
        simp [b_law_due_s3, nn, ln, lsh, hlen]
      have s4 : b_law_due_s4 M.length [some (.str x), some (.lst (D.str w :: WS)), some (.ref M.length), some (.str t.sh), none, none, none] M2 = .nx [some (.str x), some (.lst (D.str w :: WS)), some (.ref M.length), some (.str t.sh), some (.lst (List.zipWith pR t.ss ws)), none, none] M2 := by
        obtain ⟨Q, hQ⟩ : ∃ Q, Q = List.zipWith pR t.ss ws := ⟨_, rfl⟩
        rw [← hQ] at cp ⊢
        simp [b_law_due_s4, r_zipL, ct, sz, wipeD, lz, cp]
      rw [r_seq, s3, sq_nx, r_seq, s4, sq_nx]
      cases ha : (List.zipWith partB t.ss (List.zipWith partW t.ss ws)).all id with
      | false =>
        rw [ha] at inn no
        obtain ⟨Q, hQ⟩ : ∃ Q, Q = List.zipWith pR t.ss ws := ⟨_, rfl⟩
        rw [← hQ] at inn ⊢
        simp [b_law_due_s5, inn]
        exact no (by simp)
      | true =>
        rw [ha] at inn no yes
        rw [sp ha] at inn lQ ⊢
        have ad : ∀ M, oAdd (.lst [D.str w]) (.lst (List.zipWith partW t.ss ws)) M = .ok (.lst (D.str w :: List.zipWith partW t.ss ws)) M := fun M => if_pos (by have : [D.str w].length = 1 := rfl; omega)
        have tb : ∀ M, bTuple [.lst (D.str w :: List.zipWith partW t.ss ws)] M = .ok (.tup (D.str w :: List.zipWith partW t.ss ws)) M := fun M => r_tuple (q_lst M _)
        by_cases hc : t = .carry
        · subst hc
          obtain ⟨a, b, z, hp⟩ := carry_parts (by rw [List.length_zipWith]; have : TW.carry.ss.length = 3 := rfl; omega) ha
          rw [hp] at inn no yes ad tb ⊢
          have ew : w = "carry" := twOf_w hw
          subst ew
          have i1 : ∀ (p q r : D), atI [p, q, r] 1 = some q := fun _ _ _ => rfl
          by_cases hab : a = b
          · subst hab
            simp [b_law_due_s5, inn, i1]
            exact no (by simp [carB])
          · simp [b_law_due_s5, inn, i1, hab, b_law_due_s6, -r_addL, ct1, ad, tb]
            exact yes (by simp [carB, hab])
        · have nw : ¬ w = "carry" := fun e => hc (by
            subst e
            have : twOf "carry" = some .carry := by decide +kernel
            rw [this] at hw
            exact (Option.some.inj hw).symm)
          obtain ⟨Q, hQ⟩ : ∃ Q, Q = List.zipWith partW t.ss ws := ⟨_, rfl⟩
          rw [← hQ] at inn ad tb yes ⊢
          simp [b_law_due_s5, inn, nw, b_law_due_s6, -r_addL, ct1, ad, tb]
          exact yes (by simp [hc])
    · have n1 : ¬ (ws.length : Int) = (t.ss.length : Int) := by omega
      simp [b_law_due_s3, nn, ln, lsh, n1, hlen]
      refine no ?_
      unfold restB
      rw [decide_eq_false (by rw [psW_len]; exact hlen)]
      rfl
end
end LW
namespace LW
open PySem L2
/-- a sign drawn from a text -/
theorem ofT_ok {M : Mem} {h n : Nat} {z : Str} (hz : SO z) (h0 : 0 < z.length) (hl : z.length ≤ 1000) (x : Box M h (n + 128)) :
    ∃ (c : Nat) (M' : Mem), f_law_ofT [.ref h, .str z] M = .ok (.str ⟨#[c]⟩) M' ∧ SO ⟨#[c]⟩ ∧ Dr h n M M' := by
  have hh := x.lt
  have key : Wr (f_law_ofT [.ref h, .str z] M) fun d M' => ∃ c : Nat, d = .str ⟨#[c]⟩ ∧ SO ⟨#[c]⟩ ∧ Dr h n M M' := by
    refine fn_wp rfl fun P hR => ?_
    obtain ⟨r, M1, q1, a1, b1, d1⟩ := take_dr (M := M) (h := h) (n := n) (size := (z.length : Int)) x (by omega) (Int.le_trans (by omega) t8)
    obtain ⟨a, rfl⟩ : ∃ a : Nat, r = (a : Int) := ⟨r.toNat, by omega⟩
    have ha : a < z.cps.size := by have : z.length = z.cps.size := rfl; omega
    have ix : oIxS (.str z) (.int (a : Int)) M1 = .ok (.str ⟨#[z.cps[a]]⟩) M1 := r_ixS (Array.getElem?_eq_getElem ha) (by omega)
    have ln : ∀ M, bLen [.str z] M = .ok (.int (z.length : Int)) M := fun M => if_pos (by omega)
    simp [b_law_ofT, ln, q1, ix]
    exact hR _ _ rfl ⟨_, rfl, sign_so hz (Array.getElem?_eq_getElem ha), .of (d1.fr .refl) d1.box hh⟩
  obtain ⟨d, M', e, c, rfl, h2, h3⟩ := wr_of key
  exact ⟨c, M', e, h2, h3⟩
/-- a text bent -/
theorem bentT_ok {M : Mem} {h n : Nat} {x : Str} (sx : SO x) (hx : x.length ≤ 20000) (bx : Box M h (n + 600)) :
    ∃ (y : Str) (M' : Mem), f_law_bent_text [.ref h, .str x] M = .ok (.str y) M' ∧ y.length ≤ 3 * x.length + 1 ∧ SO y ∧ Dr h n M M' := by
  have hh := bx.lt
  have key : Wr (f_law_bent_text [.ref h, .str x] M) fun d M' => ∃ y : Str, d = .str y ∧ y.length ≤ 3 * x.length + 1 ∧ SO y ∧ Dr h n M M' := by
    refine fn_wp rfl fun P hR => ?_
    have ln : ∀ M, bLen [.str x] M = .ok (.int (x.length : Int)) M := fun M => if_pos (by omega)
    obtain ⟨at_, M1, q1, a1, b1, d1⟩ := take_dr (M := M) (h := h) (n := n + 450) (size := (x.length : Int) + 1) (bx.mono (by omega)) (by omega) (Int.le_trans (by omega) t8)
    obtain ⟨w, M2, q2, a2, b2, d2⟩ := take_dr (M := M1) (h := h) (n := n + 300) (size := 4) (d1.box.mono (by omega)) (by decide) (by decide)
    have fr2 := d2.fr (d1.fr (.refl))
    have fin : ∀ (y : Str) M', y.length ≤ 3 * x.length + 1 → SO y → Dr h n M2 M' → P.r (.str y) M' := fun y M' hy sy d => hR _ _ rfl ⟨y, rfl, hy, sy, .of (d.fr fr2) d.box hh⟩
    have d0 : Dr h n M2 M2 := ⟨d2.box.mono (by omega), rfl, fun _ _ => rfl⟩
    have cl := fun lo hi => cutS_length x lo hi
    have cu : ∀ (l u : EP') (lo hi : Option Int) (Ma Mb Mc : Mem), l M.length [some (.ref h), some (.str x), some (.int at_), some (.int w)] Ma = .ok lo Mb → u M.length [some (.ref h), some (.str x), some (.int at_), some (.int w)] Mb = .ok hi Mc → eCutS (eVar 1) l u M.length [some (.ref h), some (.str x), some (.int at_), some (.int w)] Ma = .ok (.str (cutS x lo hi)) Mc := fun l u lo hi Ma Mb Mc h1 h2 => r_cutS rfl h1 h2 (by omega)
    simp [b_law_bent_text, b_law_bent_text_s1, ln, q1, q2]
    have l1 := cl none (some at_)
    rcases (by omega : w = 0 ∨ w = 1 ∨ w = 2 ∨ w = 3) with rfl | rfl | rfl | rfl
    · have c1 := cu pNo (pOf (eVar 2)) none (some at_) M2 M2 M2 rfl rfl
      have c2 := cu (pOf (eBin oAdd (eVar 2) (eC (.int 1)))) pNo (some (at_ + 1)) none M2 M2 M2 rfl rfl
      have l2 := cl (some (at_ + 1)) none
      have s1 : ∀ M, oAdd (.str (cutS x none (some at_))) (.str (cutS x (some (at_ + 1)) none)) M = .ok (.str (cutS x none (some at_) ++ cutS x (some (at_ + 1)) none)) M := fun M => sadd (by omega)
      simp [b_law_bent_text_s2, c1, c2, s1]
      exact fin _ _ (by rw [app_len]; omega) (app_so (cut_so sx) (cut_so sx)) d0
    · have c1 := cu pNo (pOf (eVar 2)) none (some at_) M2 M2 M2 rfl rfl
      have c2 := cu (pOf (eVar 2)) (pOf (eBin oAdd (eVar 2) (eC (.int 1)))) (some at_) (some (at_ + 1)) M2 M2 M2 rfl rfl
      have c3 := cu (pOf (eVar 2)) pNo (some at_) none M2 M2 M2 rfl rfl
      have l2 := cl (some at_) (some (at_ + 1))
      have l3 := cl (some at_) none
      have s1 : ∀ M, oAdd (.str (cutS x none (some at_))) (.str (cutS x (some at_) (some (at_ + 1)))) M = .ok (.str (cutS x none (some at_) ++ cutS x (some at_) (some (at_ + 1)))) M := fun M => sadd (by omega)
      have s2 : ∀ M, oAdd (.str (cutS x none (some at_) ++ cutS x (some at_) (some (at_ + 1)))) (.str (cutS x (some at_) none)) M = .ok (.str (cutS x none (some at_) ++ cutS x (some at_) (some (at_ + 1)) ++ cutS x (some at_) none)) M := fun M => sadd (by rw [app_len]; omega)
      simp [b_law_bent_text_s2, b_law_bent_text_s3, c1, c2, c3, s1, s2]
      exact fin _ _ (by rw [app_len, app_len]; omega) (app_so (app_so (cut_so sx) (cut_so sx)) (cut_so sx)) d0
    · obtain ⟨c, M3, q3, sc, d3⟩ := ofT_ok (M := M2) (h := h) (n := n + 150) (z := "0123456789 -aAz\n") (by unfold SO; decide +kernel) (by decide +kernel) (by decide +kernel) (d2.box.mono (by omega))
      obtain ⟨e, M4, q4, a4, b4, d4⟩ := take_dr (M := M3) (h := h) (n := n) (size := 2) (d3.box.mono (by omega)) (by decide) (by decide)
      have c1 := cu pNo (pOf (eVar 2)) none (some at_) M2 M2 M2 rfl rfl
      have c2 := cu (pOf (eBin oAdd (eVar 2) (eCall (f_law_take 8) (aCons (eVar 0) (aCons (eC (.int 2)) (aNil)))))) pNo (some (at_ + e)) none M3 M4 M4 (by simp [q4]) rfl
      have l2 := cl (some (at_ + e)) none
      have lc : (⟨#[c]⟩ : Str).length = 1 := rfl
      obtain ⟨C, hC⟩ : ∃ C : Str, C = ⟨#[c]⟩ := ⟨_, rfl⟩
      rw [← hC] at q3 lc sc
      have s1 : ∀ M, oAdd (.str (cutS x none (some at_))) (.str C) M = .ok (.str (cutS x none (some at_) ++ C)) M := fun M => sadd (by omega)
      have s2 : ∀ M, oAdd (.str (cutS x none (some at_) ++ C)) (.str (cutS x (some (at_ + e)) none)) M = .ok (.str (cutS x none (some at_) ++ C ++ cutS x (some (at_ + e)) none)) M := fun M => sadd (by rw [app_len]; omega)
      simp [b_law_bent_text_s2, b_law_bent_text_s3, b_law_bent_text_s4, c1, c2, q3, s1, s2]
      exact fin _ _ (by rw [app_len, app_len]; omega) (app_so (app_so (cut_so sx) sc) (cut_so sx)) (d3.trans d4)
    · have c1 := cu pNo (pOf (eVar 2)) none (some at_) M2 M2 M2 rfl rfl
      have c2 := cu (pOf (eVar 2)) (pOf (eBin oAdd (eVar 2) (eC (.int 2)))) (some at_) (some (at_ + 2)) M2 M2 M2 rfl rfl
      have c3 := cu (pOf (eBin oAdd (eVar 2) (eC (.int 2)))) pNo (some (at_ + 2)) none M2 M2 M2 rfl rfl
      have l2 := cl (some at_) (some (at_ + 2))
      have l3 := cl (some (at_ + 2)) none
      have rv : ∀ M, oRevS (.str (cutS x (some at_) (some (at_ + 2)))) M = .ok (.str (revS (cutS x (some at_) (some (at_ + 2))))) M := fun M => r_revS (by omega)
      have lr := rev_len (cutS x (some at_) (some (at_ + 2)))
      obtain ⟨R, hRv⟩ : ∃ R, R = revS (cutS x (some at_) (some (at_ + 2))) := ⟨_, rfl⟩
      have sr : SO (revS (cutS x (some at_) (some (at_ + 2)))) := rev_so (cut_so sx)
      rw [← hRv] at rv lr sr
      have s1 : ∀ M, oAdd (.str (cutS x none (some at_))) (.str R) M = .ok (.str (cutS x none (some at_) ++ R)) M := fun M => sadd (by omega)
      have s2 : ∀ M, oAdd (.str (cutS x none (some at_) ++ R)) (.str (cutS x (some (at_ + 2)) none)) M = .ok (.str (cutS x none (some at_) ++ R ++ cutS x (some (at_ + 2)) none)) M := fun M => sadd (by rw [app_len]; omega)
      simp [b_law_bent_text_s2, b_law_bent_text_s3, b_law_bent_text_s4, b_law_bent_text_s5, c1, c2, c3, rv, s1, s2]
      exact fin _ _ (by rw [app_len, app_len]; omega) (app_so (app_so (cut_so sx) sr) (cut_so sx)) d0
  obtain ⟨d, M', e, y, rfl, h1, h2, h3⟩ := wr_of key
  exact ⟨y, M', e, h1, h2, h3⟩
def nS (i : Int) : Str := toString i
theorem nS_len {i : Int} (h0 : 0 ≤ i) (h1 : i < 10 ^ 19) : (nS i).length ≤ 19 := by
  obtain ⟨n, rfl⟩ : ∃ n : Nat, i = (n : Int) := ⟨i.toNat, by omega⟩
  have e : TL.tl (nS (n : Int)) = TL.numL n := TL.tl_num n
  rw [TL.len_tl, e]
  exact TL.numL_len (by decide) (by omega)
theorem r_strN {i : Int} {M : Mem} (h0 : 0 ≤ i) (h1 : i < 10 ^ 19) : bStr [.int i] M = .ok (.str (nS i)) M := by
  show (if i.natAbs.log2 < 1920 then R.ok (D.str (nS i)) M else .bad) = _
  rw [if_pos]
  by_cases z : i.natAbs = 0
  · rw [z]; decide
  · have : i.natAbs < 2 ^ 64 := by omega
    exact Nat.lt_trans ((Nat.log2_lt z).mpr this) (by decide)
def OkN (i : Int) : Prop := 0 ≤ i ∧ i < 10 ^ 19
theorem nS_cps (n : Nat) : (nS (n : Int)).cps.toList = TL.numL n := TL.tl_num n
theorem numL_head {n : Nat} (h : 0 < n) : ∃ c r, TL.numL n = c :: r ∧ c ≠ 48 := by
  induction n using Nat.strongRecOn with
  | _ n ih =>
    by_cases h9 : n < 10
    · exact ⟨48 + n, [], TL.numL_lt h9, by omega⟩
    · obtain ⟨c, r, e, hc⟩ := ih (n / 10) (by omega) (by omega)
      exact ⟨c, r ++ [48 + n % 10], by rw [TL.numL_step (by omega), e]; rfl, hc⟩
theorem dW_nS {i : Int} (h : OkN i) : dW (nS i) = .int i := by
  obtain ⟨n, rfl⟩ : ∃ n : Nat, i = (n : Int) := ⟨i.toNat, by have := h.1; omega⟩
  have e := nS_cps n
  have l1 := nS_len h.1 h.2
  have l0 : 1 ≤ (nS (n : Int)).length := by
    rw [← len_cps, e]
    exact List.length_pos_iff.mpr (TL.numL_ne n)
  have dg : (nS (n : Int)).cps.toList.all isDg = true := by
    rw [e, List.all_eq_true]
    exact fun c hc => isDg_iff.mpr (TL.numL_digits n c hc)
  have ld : lead0 (nS (n : Int)) = true := by
    unfold lead0
    by_cases z : n = 0
    · subst z
      rfl
    · obtain ⟨c, r, ec, hc⟩ := numL_head (n := n) (by omega)
      have hd : hd0 (nS (n : Int)) = c := by
        have e2 : (nS (n : Int)).cps = (c :: r).toArray := by
          rw [← ec, ← e]
        unfold hd0
        rw [e2]
        rfl
      rw [hd]
      have : ((⟨#[c]⟩ : Str) == "0") = false := by
        rw [beq_eq_false_iff_ne]
        intro h
        have h2 := congrArg (fun z : Str => z.cps.toList) h
        have h3 : [c] = [48] := h2
        injection h3 with h4 _
        exact hc h4
      rw [this]
      simp
  unfold dW numW
  rw [decide_eq_true l0, decide_eq_true l1, dg, ld]
  simp only [Bool.and_self, if_true]
  rw [e, TL.numL_val]
def txD : D → Str
  | .str s => s
  | .int i => nS i
  | _ => ""
def ItOk (d : D) : Prop := (∃ s, d = .str s ∧ NmS s) ∨ ∃ i, d = .int i ∧ OkN i
theorem nm_words : ∀ t : TW, NmS t.w := by
  intro t
  refine ⟨?_, ?_, ?_⟩ <;> cases t <;> decide +kernel
theorem let_of {c : Nat} (h : 97 ≤ c ∧ c ≤ 122) : letB c = true := by
  have key : ∀ c, c < 123 → 97 ≤ c → letB c = true := by decide +kernel
  exact key c (by omega) h.1
theorem name_of {x : Str} (h : NmS x) : nameB (.str x) = true := by
  show ((decide (1 ≤ x.length) && decide (x.length ≤ 8)) && x.cps.toList.all letB) = true
  rw [decide_eq_true h.1, decide_eq_true h.2.1, List.all_eq_true.mpr fun c hc => let_of (h.2.2 c hc)]
  rfl
theorem gj_ok {g z : Int} (g0 : 0 < g) (g1 : g ≤ 1000000000000000) (h : ∃ j : Nat, 1 ≤ j ∧ j ≤ 6 ∧ z = g * (j : Int)) : OkN z ∧ 1 ≤ z := by
  obtain ⟨j, j1, j2, rfl⟩ := h
  have h1 : g * (j : Int) ≤ 1000000000000000 * 6 := Int.mul_le_mul g1 (by omega) (by omega) (by decide)
  have h2 : 0 < g * (j : Int) := Int.mul_pos g0 (by omega)
  exact ⟨⟨by omega, by omega⟩, by omega⟩
theorem trip_facts {g : Int} {n : Nat} {t : Tp} (g0 : 0 < g) (g1 : g ≤ 1000000000000000) (hn : n ≤ 6) (ht : t.good g n) :
    ∃ (tw : TW) (ps : List D), t.l = .str tw.w :: ps ∧ twOf tw.w = some tw ∧ restB tw ps = true ∧ psW tw.w (ps.map txD) = ps ∧ ∀ d ∈ t.l, ItOk d := by
  have ok : ∀ k : Int, 0 ≤ k → k ≤ 20 → OkN k := fun k h1 h2 => ⟨h1, by omega⟩
  have nu : ∀ (lo : Int) (k : Int), lo ≤ k → k ≤ 20 → numB lo (some 20) (.int k) = true := fun lo k h1 h2 => by
    show (decide (lo ≤ k) && decide (k ≤ 20)) = true
    rw [decide_eq_true h1, decide_eq_true h2]; rfl
  have nm : ∀ (k : Int), 1 ≤ k → numB 1 none (.int k) = true := fun k h1 => by
    show (decide (1 ≤ k) && true) = true
    rw [decide_eq_true h1]; rfl
  have tws : ∀ tw : TW, twOf tw.w = some tw := by intro tw; cases tw <;> decide +kernel
  have ps_eq : ∀ (tw : TW) (ps : List D), ps.length = tw.ss.length → List.zipWith partW tw.ss (ps.map txD) = ps → psW tw.w (ps.map txD) = ps := fun tw ps h1 h2 => by
    unfold psW
    rw [tws tw]
    simp only
    rw [if_pos (by rw [List.length_map]; exact h1), h2]
  cases t with
  | sail up x k =>
    obtain ⟨hk, hx⟩ := ht
    have hk : k < n := hk
    have okk := ok ((k : Int) + 1) (by omega) (by omega)
    have key : ∀ tw : TW, tw.ss = [.boat, .lock] → tw ≠ .carry → ∃ (tw' : TW) (ps : List D), (D.str tw.w :: [.str x, .int ((k : Int) + 1)]) = .str tw'.w :: ps ∧ twOf tw'.w = some tw' ∧ restB tw' ps = true ∧ psW tw'.w (ps.map txD) = ps ∧ ∀ d ∈ (D.str tw.w :: [.str x, .int ((k : Int) + 1)]), ItOk d := fun tw hs hc =>
      ⟨tw, [.str x, .int ((k : Int) + 1)], rfl, tws tw, by
        unfold restB
        rw [hs]
        show ((true && (nameB (.str x) && (numB 1 (some 20) (.int ((k : Int) + 1)) && true))) && (decide (tw ≠ .carry) || carB _)) = true
        rw [name_of hx, nu 1 _ (by omega) (by omega), decide_eq_true hc]; rfl, ps_eq tw _ (by rw [hs]; rfl) (by
        rw [hs]
        show [D.str x, dW (nS ((k : Int) + 1))] = _
        rw [dW_nS okk]), by
        intro d hd
        rcases (by simpa using hd : d = .str tw.w ∨ d = .str x ∨ d = .int ((k : Int) + 1)) with rfl | rfl | rfl
        · exact .inl ⟨_, rfl, nm_words tw⟩
        · exact .inl ⟨_, rfl, hx⟩
        · exact .inr ⟨_, rfl, okk⟩⟩
    cases up with
    | true => exact key .up rfl (by decide)
    | false => exact key .down rfl (by decide)
  | turn k =>
    have hk : k < n := ht
    have okk := ok ((k : Int) + 1) (by omega) (by omega)
    refine ⟨.turn, [.int ((k : Int) + 1)], rfl, tws .turn, ?_, ps_eq .turn _ rfl ?_, ?_⟩
    · show ((true && (numB 1 (some 20) (.int ((k : Int) + 1)) && true)) && true) = true
      rw [nu 1 _ (by omega) (by omega)]; rfl
    · show [dW (nS ((k : Int) + 1))] = _
      rw [dW_nS okk]
    · intro d hd
      rcases (by simpa [Tp.l] using hd : d = .str "turn" ∨ d = .int ((k : Int) + 1)) with rfl | rfl
      · exact .inl ⟨_, rfl, nm_words .turn⟩
      · exact .inr ⟨_, rfl, okk⟩
  | ship on x z =>
    obtain ⟨hx, hz⟩ := ht
    obtain ⟨okz, z1⟩ := gj_ok g0 g1 hz
    have key : ∀ tw : TW, tw.ss = [.boat, .many] → tw ≠ .carry → ∃ (tw' : TW) (ps : List D), (D.str tw.w :: [.str x, .int z]) = .str tw'.w :: ps ∧ twOf tw'.w = some tw' ∧ restB tw' ps = true ∧ psW tw'.w (ps.map txD) = ps ∧ ∀ d ∈ (D.str tw.w :: [.str x, .int z]), ItOk d := fun tw hs hc =>
      ⟨tw, [.str x, .int z], rfl, tws tw, by
        unfold restB
        rw [hs]
        show ((true && (nameB (.str x) && (numB 1 none (.int z) && true))) && (decide (tw ≠ .carry) || carB _)) = true
        rw [name_of hx, nm _ z1, decide_eq_true hc]; rfl, ps_eq tw _ (by rw [hs]; rfl) (by
        rw [hs]
        show [D.str x, dW (nS z)] = _
        rw [dW_nS okz]), by
        intro d hd
        rcases (by simpa using hd : d = .str tw.w ∨ d = .str x ∨ d = .int z) with rfl | rfl | rfl
        · exact .inl ⟨_, rfl, nm_words tw⟩
        · exact .inl ⟨_, rfl, hx⟩
        · exact .inr ⟨_, rfl, okz⟩⟩
    cases on with
    | true => exact key .load rfl (by decide)
    | false => exact key .unload rfl (by decide)
  | carry q r z =>
    obtain ⟨hq, hr, hqr, hz⟩ := ht
    obtain ⟨okz, z1⟩ := gj_ok g0 g1 hz
    have okq := ok (q : Int) (by omega) (by omega)
    have okr := ok (r : Int) (by omega) (by omega)
    refine ⟨.carry, [.int (q : Int), .int (r : Int), .int z], rfl, tws .carry, ?_, ps_eq .carry _ rfl ?_, ?_⟩
    · show ((true && (numB 0 (some 20) (.int (q : Int)) && (numB 0 (some 20) (.int (r : Int)) && (numB 1 none (.int z) && true)))) && (false || ((q : Int) != (r : Int)))) = true
      rw [nu 0 _ (by omega) (by omega), nu 0 _ (by omega) (by omega), nm _ z1]
      have : ((q : Int) != (r : Int)) = true := by
        rw [bne_iff_ne]
        omega
      rw [this]; rfl
    · show [dW (nS (q : Int)), dW (nS (r : Int)), dW (nS z)] = _
      rw [dW_nS okq, dW_nS okr, dW_nS okz]
    · intro d hd
      rcases (by simpa [Tp.l] using hd : d = .str "carry" ∨ d = .int (q : Int) ∨ d = .int (r : Int) ∨ d = .int z) with rfl | rfl | rfl | rfl
      · exact .inl ⟨_, rfl, nm_words .carry⟩
      · exact .inr ⟨_, rfl, okq⟩
      · exact .inr ⟨_, rfl, okr⟩
      · exact .inr ⟨_, rfl, okz⟩
  | rain a z =>
    obtain ⟨ha, hz⟩ := ht
    have ha : a < n := ha
    obtain ⟨okz, z1⟩ := gj_ok g0 g1 hz
    have okk := ok ((a : Int) + 1) (by omega) (by omega)
    refine ⟨.rain, [.int ((a : Int) + 1), .int z], rfl, tws .rain, ?_, ps_eq .rain _ rfl ?_, ?_⟩
    · show ((true && (numB 1 (some 20) (.int ((a : Int) + 1)) && (numB 1 none (.int z) && true))) && true) = true
      rw [nu 1 _ (by omega) (by omega), nm _ z1]; rfl
    · show [dW (nS ((a : Int) + 1)), dW (nS z)] = _
      rw [dW_nS okk, dW_nS okz]
    · intro d hd
      rcases (by simpa [Tp.l] using hd : d = .str "rain" ∨ d = .int ((a : Int) + 1) ∨ d = .int z) with rfl | rfl | rfl
      · exact .inl ⟨_, rfl, nm_words .rain⟩
      · exact .inr ⟨_, rfl, okk⟩
      · exact .inr ⟨_, rfl, okz⟩
  | draw a z =>
    obtain ⟨ha, hz⟩ := ht
    have ha : a < n := ha
    obtain ⟨okz, z1⟩ := gj_ok g0 g1 hz
    have okk := ok ((a : Int) + 1) (by omega) (by omega)
    refine ⟨.draw, [.int ((a : Int) + 1), .int z], rfl, tws .draw, ?_, ps_eq .draw _ rfl ?_, ?_⟩
    · show ((true && (numB 1 (some 20) (.int ((a : Int) + 1)) && (numB 1 none (.int z) && true))) && true) = true
      rw [nu 1 _ (by omega) (by omega), nm _ z1]; rfl
    · show [dW (nS ((a : Int) + 1)), dW (nS z)] = _
      rw [dW_nS okk, dW_nS okz]
    · intro d hd
      rcases (by simpa [Tp.l] using hd : d = .str "draw" ∨ d = .int ((a : Int) + 1) ∨ d = .int z) with rfl | rfl | rfl
      · exact .inl ⟨_, rfl, nm_words .draw⟩
      · exact .inr ⟨_, rfl, okk⟩
      · exact .inr ⟨_, rfl, okz⟩
end LW
namespace LW
open PySem L2
def tS (ds : List D) : Str := Txt.join " " (ds.map txD)
theorem tx_len {d : D} (h : ItOk d) : (txD d).length ≤ 19 := by
  rcases h with ⟨s, rfl, hs⟩ | ⟨i, rfl, hi⟩
  · have := hs.2.1
    show s.length ≤ 19
    omega
  · exact nS_len hi.1 hi.2
theorem tx_so {d : D} (h : ItOk d) : SO (txD d) := by
  rcases h with ⟨s, rfl, hs⟩ | ⟨i, rfl, hi⟩
  · exact hs.ok
  · obtain ⟨n, rfl⟩ : ∃ n : Nat, i = (n : Int) := ⟨i.toNat, by have := hi.1; omega⟩
    show SO (nS (n : Int))
    rw [so_iff, nS_cps]
    intro c hc
    have := TL.numL_digits n c hc
    omega
theorem tx_free {d : D} (h : ItOk d) : 32 ∉ TL.tl (txD d) := by
  rcases h with ⟨s, rfl, hs⟩ | ⟨i, rfl, hi⟩
  · intro hm
    have := hs.2.2 32 hm
    omega
  · obtain ⟨n, rfl⟩ : ∃ n : Nat, i = (n : Int) := ⟨i.toNat, by have := hi.1; omega⟩
    have e : TL.tl (txD (.int (n : Int))) = TL.numL n := TL.tl_num n
    rw [e]
    exact TL.numL_free (by omega)
section
variable {ds : List D}
theorem tS_split (hn : ds ≠ []) (h : ∀ d ∈ ds, ItOk d) : Txt.split (tS ds) " " = ds.map txD := by
  refine TL.split_join (y := " ") (s := 32) (S := []) (by decide +kernel) (by decide +kernel) (fun e => hn (List.map_eq_nil_iff.mp e)) fun p hp => ?_
  obtain ⟨d, hd, rfl⟩ := List.mem_map.mp hp
  exact tx_free (h d hd)
theorem tS_so (h : ∀ d ∈ ds, ItOk d) : SO (tS ds) := join_so (by unfold SO; decide +kernel) fun p hp => by
  obtain ⟨d, hd, rfl⟩ := List.mem_map.mp hp
  exact tx_so (h d hd)
theorem tS_len (hl : ds.length ≤ 4) (h : ∀ d ∈ ds, ItOk d) : (tS ds).length ≤ 80 := by
  have := join_len " " (ds.map txD) (n := 19) (fun p hp => by
    obtain ⟨d, hd, rfl⟩ := List.mem_map.mp hp
    exact tx_len (h d hd))
  have l1 : (" " : Str).length = 1 := by decide +kernel
  rw [l1, List.length_map] at this
  have h2 : ds.length * (19 + 1) ≤ 4 * (19 + 1) := Nat.mul_le_mul_right _ hl
  exact Nat.le_trans this h2
theorem str_it {d : D} (h : ItOk d) {i b : Nat} {s : Slots} {M : Mem} (hs : s[i]? = some (some d)) : eStrB (aCons (eVar i) (aNil)) b s M = .ok (.str (txD d)) M := by
  unfold eStrB
  rcases h with ⟨x, rfl, hx⟩ | ⟨z, rfl, hz⟩
  · simp [hs]
    rfl
  · simp [hs]
    exact r_strN hz.1 hz.2
theorem joinT {M : Mem} (hl : ds.length ≤ 4) (h : ∀ d ∈ ds, ItOk d) : oJoin (.str " ") (.lst ((ds.map txD).map .str)) M = .ok (.str (tS ds)) M := r_joinT (by
  have l1 : (" " : Str).length = 1 := by decide +kernel
  have := sum_len (ds.map txD) (n := 19) (fun p hp => by
    obtain ⟨d, hd, rfl⟩ := List.mem_map.mp hp
    exact tx_len (h d hd))
  rw [l1]
  rw [List.length_map] at this ⊢
  have h2 : ds.length * 19 ≤ 4 * 19 := Nat.mul_le_mul_right _ hl
  omega)
theorem trip_text_ok {M : Mem} {d : D} (hd : Sqd d ds) (hl : ds.length ≤ 4) (h : ∀ d ∈ ds, ItOk d) : f_trip_text [d] M = .ok (.str (tS ds)) M := by
  refine ok_of (fn_wp rfl fun P hR => ?_)
  have cp : ∀ M' : Mem, compL M.length [] M' (.nm 1) tTrue b_trip_text_c1 [some d, none] ds M' = .ok (ds.map fun d => D.str (txD d)) M' := fun M' =>
    comp_map (fun d => .str (txD d)) (fun q hq => ⟨_, t_nm _ _, by unfold b_trip_text_c1; exact str_it (h q hq) rfl⟩) (by simp)
  have jn := fun M' : Mem => joinT (M := M') hl h
  rw [List.map_map] at jn
  have jn : ∀ M' : Mem, oJoin (.str " ") (.lst (ds.map fun d => D.str (txD d))) M' = .ok (.str (tS ds)) M' := jn
  obtain ⟨J, hJ⟩ : ∃ J, J = ds.map fun d => D.str (txD d) := ⟨_, rfl⟩
  rw [← hJ] at cp jn
  have lp : ds.length ≤ 1000000 := by omega
  have fin := hR (.str (tS ds)) M rfl ⟨rfl, List.take_length⟩
  obtain ⟨T, hT⟩ : ∃ T, T = tS ds := ⟨_, rfl⟩
  rw [← hT] at jn fin
  unfold b_trip_text eJoin
  rcases hd with rfl | rfl
  · simp [wipeD, lp, cp, jn]
    exact fin
  · simp [wipeD, lp, cp, jn]
    exact fin
end
theorem same_str {k : Nat} {x : Str} {M : Mem} : f_law_same (k + 1) [.str x, .str x] M = .ok (.bl true) M := by
  refine Eq.trans (mk_rt (body := b_law_same (f_law_same k)) (d := .bl true) (M' := M) rfl ?_ rfl) (by simp)
  simp [b_law_same, oIsi, isTy]
theorem same_lst {k : Nat} {xs : List D} {M : Mem} (hl : xs.length ≤ 1000000) (hx : ∀ y ∈ xs, f_law_same k [y, y] M = .ok (.bl true) M) : f_law_same (k + 1) [.lst xs, .lst xs] M = .ok (.bl true) M := by
  have hc : ∀ s : Slots, s.length = 4 → compL M.length [] M (.tp [.nm 2, .nm 3]) tTrue (eCall (f_law_same k) (aCons (eVar 2) (aCons (eVar 3) aNil))) s (zipD xs xs) M = .ok ((zipD xs xs).map fun _ => .bl true) M := by
    intro s hs
    refine comp_map _ (fun d hd => ?_) (by simp)
    rw [zip_self] at hd
    obtain ⟨y, hy, rfl⟩ := List.mem_map.mp hd
    exact ⟨(s.set 2 (some y)).set 3 (some y), by simp, by simp [hs, hx y hy]⟩
  have hall : bAll [.lst ((zipD xs xs).map fun _ => D.bl true)] M = .ok (.bl true) M := r_all fun y hy => by
    obtain ⟨_, _, rfl⟩ := List.mem_map.mp hy
    rfl
  have hz : (zipD xs xs).length ≤ 1000000 := by rw [zip_self, List.length_map]; exact hl
  have q := hc [some (.lst xs), some (.lst xs), none, none] rfl
  have ln : bLen [.lst xs] M = .ok (.int xs.length) M := r_len (q_lst M xs)
  obtain ⟨ZZ, hZZ⟩ : ∃ Z, Z = zipD xs xs := ⟨_, rfl⟩
  rw [← hZZ] at q hall hz
  refine Eq.trans (mk_rt (body := b_law_same (f_law_same k)) (d := .bl true) (M' := M) rfl ?_ rfl) (by simp)
  simp [b_law_same, oIsi, isTy, ln, ← hZZ, hz, wipeD, q, hall]
theorem ans_plain {x : Str} (hx : SO x) (hl : x.length ≤ 900) (k : Nat) : plainD (k + 1) (ansT x) = true := by
  obtain ⟨w, ws, e⟩ := wd_ne (x := x)
  unfold ansT
  rw [e]
  have mem : ∀ v ∈ w :: ws, SO v := fun v hv => by
    rw [← e] at hv
    exact wd_so hx hv
  have lws : ws.length ≤ 901 := by
    have := split_many x " "
    rw [e, List.length_cons] at this
    omega
  show plainD (k + 1) (if tripB (tripW w ws) = true then tripW w ws else .non) = true
  split
  · exact tripW_plain (mem w (by simp)) (fun v hv => mem v (by simp [hv])) (by omega) k
  · rfl
def A1 : List Str := ["", " ", "up", "up a", "up a 1", "up a 01", "up a 0", "up a 20", "up a 21", "up abcdefghi 1", "up A 1"]
def A2 : List Str := ["turn 1", "turn", "turn 1 ", "turn  1", "turns 1", "carry 0 0 1", "carry 0 20 1", "carry 1 0 0"]
def A3 : List Str := ["rain 0 1", "draw 1 " ++ Txt.mul "9" 19, "draw 1 " ++ Txt.mul "1" 20, "load 1 a", "fill 1", "unload a -1"]
def A4 : List Str := ["up a 1\n", "draw 1 0", "up  1", "draw 1 +5", "draw 1 1_0", "up a +1", "draw 1 5.0", "turn turn"]
def A5 : List Str := ["up turn 1", "load draw 3", "carry a 1 1", "load a1 1", "load a- 1"]
def Txq (x : Str) : Prop := SO x ∧ x.length ≤ 300
theorem tq_of {A : List Str} (h : (A.all fun x => PySem.PyData.strOk x && decide (x.length ≤ 300)) = true) : ∀ x ∈ A, Txq x := fun x hx => by
  have := List.all_eq_true.mp h x hx
  rw [Bool.and_eq_true] at this
  exact ⟨this.1, of_decide_eq_true this.2⟩
theorem step_add {L A : List Str} {G : ES} {b : Nat} {s : Slots} {M : Mem} (hG : G b s M = .ok (.lst (A.map D.str)) M) (h3 : s[3]? = some (some (.lst (L.map D.str)))) (hl : L.length + A.length ≤ 1000) : sSet 3 (eBin oAdd (eVar 3) G) b s M = .nx (s.set 3 (some (.lst ((L ++ A).map D.str)))) M := by
  have ad : oAdd (.lst (L.map D.str)) (.lst (A.map D.str)) M = .ok (.lst ((L ++ A).map D.str)) M := by
    rw [List.map_append]
    exact if_pos (by rw [List.length_map, List.length_map]; omega)
  obtain ⟨X, hX⟩ : ∃ X, X = L.map D.str := ⟨_, rfl⟩
  obtain ⟨Y, hY⟩ : ∃ X, X = A.map D.str := ⟨_, rfl⟩
  obtain ⟨W, hW⟩ : ∃ X, X = (L ++ A).map D.str := ⟨_, rfl⟩
  rw [← hX] at ad h3
  rw [← hY] at ad hG
  rw [← hW] at ad ⊢
  rw [r_set]
  show ((eBin oAdd (eVar 3) G b s M).toS s _) = _
  have e : eBin oAdd (eVar 3) G b s M = .ok (.lst W) M := by
    simp [-r_addL, h3, hG, ad]
  rw [e]
  rfl
theorem right_ok {M : Mem} {h : Nat} (x : Box M h (2 ^ 40)) : ∃ M', f_law_right [.ref h] M = .ok (.bl true) M' := by
  have hh := x.lt
  have key : Wr (f_law_right [.ref h] M) fun d M' => d = .bl true := by
    refine fn_wp rfl fun P hR => ?_
    obtain ⟨g, M1, q1, gc, d1⟩ := great_ok (M := M) (h := h) (n := 200000) (x.mono (by decide))
    have g0 : 0 < g := by rcases gc with rfl | rfl | rfl <;> decide
    have g1 : g ≤ 1000000000000000 := by rcases gc with rfl | rfl | rfl <;> decide
    obtain ⟨a, bd, s, M2, q2, W2, wd, bx2, f2, o1, o2, o3⟩ := house_ok (b := M.length) (M := M1) (h := h) (n := 150000) (cap := 6) (most := 4) (g := g) (by rw [d1.len]; exact Nat.le_refl _) (by decide) (by decide) (by decide) g0 g1 (d1.box.mono (by omega))
    have q2 : f_law_house M.length [.ref h, .int 6, .int g, .int 4] M1 = .ok (.ref a) M2 := q2
    have hk := wd.toK g0 g1 (by decide) (by decide)
    have hn := hk.n2
    have l1 : M1.length = M.length := d1.len
    have ha : h ≠ a := by omega
    have hbd : h ≠ bd := by omega
    have rg10 : ∀ M, rng1 [.int 10] M = .ok (rngD 0 10, []) M := fun M => rng1_nat (j := 10) (by decide)
    have rg3 : ∀ M, rng1 [.int 3] M = .ok (rngD 0 3, []) M := fun M => rng1_nat (j := 3) (by decide)
    have lr3 : (rngD 0 3).length ≤ 1000000 := by rw [rngD_len]; decide
    have t1 : ∀ x ∈ A1, Txq x := tq_of (by decide +kernel)
    have t2 : ∀ x ∈ A2, Txq x := tq_of (by decide +kernel)
    have t3 : ∀ x ∈ A3, Txq x := tq_of (by decide +kernel)
    have t4 : ∀ x ∈ A4, Txq x := tq_of (by decide +kernel)
    have t5 : ∀ x ∈ A5, Txq x := tq_of (by decide +kernel)
    have lM2 : M.length ≤ M2.length := by omega
    simp [b_law_right, q1]
    simp [b_law_right_s1, q2]
    have e2 : b_law_right_s2 M.length [some (.ref h), some (.int g), some (.ref a), none, none, none, none, none, none, none] M2 = .nx [some (.ref h), some (.int g), some (.ref a), some (.lst (A1.map D.str)), none, none, none, none, none, none] M2 := by
      simp [b_law_right_s2]
      rfl
    have e3 : b_law_right_s3 M.length [some (.ref h), some (.int g), some (.ref a), some (.lst (A1.map D.str)), none, none, none, none, none, none] M2 = .nx [some (.ref h), some (.int g), some (.ref a), some (.lst ((A1 ++ A2).map D.str)), none, none, none, none, none, none] M2 := by
      obtain ⟨G, hG, hg⟩ : ∃ G, b_law_right_s3 = sSet 3 (eBin oAdd (eVar 3) G) ∧ G M.length [some (.ref h), some (.int g), some (.ref a), some (.lst (A1.map D.str)), none, none, none, none, none, none] M2 = .ok (.lst (A2.map D.str)) M2 := ⟨_, rfl, by simp; rfl⟩
      rw [hG, step_add hg rfl (by decide)]
      rfl
    have e4 : b_law_right_s4 M.length [some (.ref h), some (.int g), some (.ref a), some (.lst ((A1 ++ A2).map D.str)), none, none, none, none, none, none] M2 = .nx [some (.ref h), some (.int g), some (.ref a), some (.lst ((A1 ++ A2 ++ A3).map D.str)), none, none, none, none, none, none] M2 := by
      have m1 : ∀ M, oMulK (.str "9") (.int 19) M = .ok (.str (Txt.mul "9" 19)) M := fun _ => rfl
      have m2 : ∀ M, oMulK (.str "1") (.int 20) M = .ok (.str (Txt.mul "1" 20)) M := fun _ => rfl
      have a1 : ∀ M, oAdd (.str "draw 1 ") (.str (Txt.mul "9" 19)) M = .ok (.str ("draw 1 " ++ Txt.mul "9" 19)) M := fun _ => sadd (by decide +kernel)
      have a2 : ∀ M, oAdd (.str "draw 1 ") (.str (Txt.mul "1" 20)) M = .ok (.str ("draw 1 " ++ Txt.mul "1" 20)) M := fun _ => sadd (by decide +kernel)
      obtain ⟨G, hG, hg⟩ : ∃ G, b_law_right_s4 = sSet 3 (eBin oAdd (eVar 3) G) ∧ G M.length [some (.ref h), some (.int g), some (.ref a), some (.lst ((A1 ++ A2).map D.str)), none, none, none, none, none, none] M2 = .ok (.lst (A3.map D.str)) M2 := ⟨_, rfl, by
        simp [m1, m2, a1, a2]
        rfl⟩
      rw [hG, step_add hg rfl (by decide)]
      rfl
    have e5 : b_law_right_s5 M.length [some (.ref h), some (.int g), some (.ref a), some (.lst ((A1 ++ A2 ++ A3).map D.str)), none, none, none, none, none, none] M2 = .nx [some (.ref h), some (.int g), some (.ref a), some (.lst ((A1 ++ A2 ++ A3 ++ A4).map D.str)), none, none, none, none, none, none] M2 := by
      obtain ⟨G, hG, hg⟩ : ∃ G, b_law_right_s5 = sSet 3 (eBin oAdd (eVar 3) G) ∧ G M.length [some (.ref h), some (.int g), some (.ref a), some (.lst ((A1 ++ A2 ++ A3).map D.str)), none, none, none, none, none, none] M2 = .ok (.lst (A4.map D.str)) M2 := ⟨_, rfl, by simp; rfl⟩
      rw [hG, step_add hg rfl (by decide)]
      rfl
    have e6 : b_law_right_s6 M.length [some (.ref h), some (.int g), some (.ref a), some (.lst ((A1 ++ A2 ++ A3 ++ A4).map D.str)), none, none, none, none, none, none] M2 = .nx [some (.ref h), some (.int g), some (.ref a), some (.lst ((A1 ++ A2 ++ A3 ++ A4 ++ A5).map D.str)), none, none, none, none, none, none] M2 := by
      obtain ⟨G, hG, hg⟩ : ∃ G, b_law_right_s6 = sSet 3 (eBin oAdd (eVar 3) G) ∧ G M.length [some (.ref h), some (.int g), some (.ref a), some (.lst ((A1 ++ A2 ++ A3 ++ A4).map D.str)), none, none, none, none, none, none] M2 = .ok (.lst (A5.map D.str)) M2 := ⟨_, rfl, by simp; rfl⟩
      rw [hG, step_add hg rfl (by decide)]
      rfl
    rw [e2, sq_nx, r_seq, e3, sq_nx, r_seq, e4, sq_nx, r_seq, e5, sq_nx, r_seq, e6, sq_nx]
    obtain ⟨L0, hL0⟩ : ∃ L, L = A1 ++ A2 ++ A3 ++ A4 ++ A5 := ⟨_, rfl⟩
    have lL0 : L0.length = 38 := by rw [hL0]; decide
    have tq0 : ∀ x ∈ L0, Txq x := by
      rw [hL0]
      intro t ht
      simp only [List.mem_append] at ht
      rcases ht with (((ht | ht) | ht) | ht) | ht
      · exact t1 t ht
      · exact t2 t ht
      · exact t3 t ht
      · exact t4 t ht
      · exact t5 t ht
    rw [← hL0]
    simp [b_law_right_s11, rg10]
    refine wp_for (fun i sl M' => Box M' h (10000 * (10 - i) + 1000) ∧ WAt M' a bd s ∧ M.length ≤ M'.length ∧ ∃ (L : List Str) (v4 v5 v6 : Option D), L.length ≤ 38 + 4 * i ∧ (∀ t ∈ L, Txq t) ∧ sl = [some (.ref h), some (.int g), some (.ref a), some (.lst (L.map D.str)), v4, v5, v6, none, none, none]) ?_ ?_ ?_
    · exact ⟨bx2.mono (by omega), W2, lM2, L0, none, none, none, by omega, tq0, rfl⟩
    · rintro i d sl M3 hi hd ⟨bx3, W3, lm3, L, v4, v5, v6, lT, hT, rfl⟩
      rw [rngD_len] at hi
      refine ⟨_, t_nm _ _, fun P1 hN _ _ hr1 _ => ?_⟩
      obtain ⟨t, M4, q4, tg, d4⟩ := trip_ok (M := M3) (h := h) (n := 10000 * (10 - (i + 1)) + 8000) g0 g1 W3 hk ha hbd (bx3.mono (by omega))
      have W4 : WAt M4 a bd s := W3.of (d4.at_ _ (Ne.symm ha)) (d4.at_ _ (Ne.symm hbd))
      have lm4 : M.length ≤ M4.length := by rw [d4.len]; exact lm3
      obtain ⟨tw, ps, tl, two, rb, pse, its⟩ := trip_facts g0 g1 hn tg
      have l4 : t.l.length ≤ 4 := by cases t <;> simp [Tp.l]
      have ne : t.l ≠ [] := by rw [tl]; simp
      have so := tS_so its
      have ln := tS_len l4 its
      have x1 := trip_text_ok (M := M4) (.inl rfl : Sqd (.tup t.l) t.l) l4 its
      have x2 := trip_text_ok (M := M4) (.inr rfl : Sqd (.lst t.l) t.l) l4 its
      have sp := tS_split ne its
      rw [tl, List.map_cons] at sp
      have x3 := trip_in_ok (M := M4) so (by omega) (by rw [tl]; exact sp)
      have tw1 : tripW tw.w (ps.map txD) = .tup t.l := by
        unfold tripW
        rw [pse, tl]
      have x3 : f_trip_inX [.str (tS t.l)] M4 = .ok (.tup t.l) M4 := by
        have e : txD (.str tw.w) = tw.w := rfl
        rw [e, tw1] at x3
        rw [x3, if_pos]
        rw [tl]
        simp [tripB, two, rb]
      have pl : plainD 8 (.tup t.l) = true := by
        rw [← tw1]
        refine tripW_plain (nm_words tw).ok (fun v hv => ?_) ?_ 7
        · obtain ⟨d, hd, rfl⟩ := List.mem_map.mp hv
          exact tx_so (its d (by rw [tl]; simp [hd]))
        · rw [List.length_map]
          rw [tl, List.length_cons] at l4
          omega
      have cp : ∀ (s : Slots), s.length = 10 → compL M.length [] M4 (.nm 8) tTrue b_law_right_c1 s t.l M4 = .ok (t.l.map fun d => D.str (txD d)) M4 := fun s hs =>
        comp_map (fun d => .str (txD d)) (fun q hq => ⟨_, t_nm _ _, by unfold b_law_right_c1; exact str_it (its q hq) (by simp [hs])⟩) (by simp)
      have jn := joinT (M := M4) l4 its
      rw [List.map_map] at jn
      have jn : oJoin (.str " ") (.lst (t.l.map fun d => D.str (txD d))) M4 = .ok (.str (tS t.l)) M4 := jn
      obtain ⟨J, hJ⟩ : ∃ J, J = t.l.map fun d => D.str (txD d) := ⟨_, rfl⟩
      rw [← hJ] at jn
      simp only [← hJ] at cp
      have ltl : t.l.length ≤ 1000000 := by omega
      have sm : f_law_same 10 [.lst [.str (tS t.l), .str (tS t.l), .tup t.l], .lst [.str (tS t.l), .str (tS t.l), .tup t.l]] M4 = .ok (.bl true) M4 := same_lst (by simp) fun y hy => by
        rcases (by simpa using hy : y = .str (tS t.l) ∨ y = .tup t.l) with rfl | rfl
        · exact same_str
        · exact same_ok 8 _ M4 pl
      obtain ⟨T, hTt⟩ : ∃ T, T = tS t.l := ⟨_, rfl⟩
      rw [← hTt] at x1 x2 x3 jn sm so ln
      obtain ⟨TL, hTL⟩ : ∃ T, T = t.l := ⟨_, rfl⟩
      rw [← hTL] at q4 x1 x2 x3 sm ltl
      simp only [← hTL] at cp
      obtain ⟨LD, hLD⟩ : ∃ Z, Z = L.map D.str := ⟨_, rfl⟩
      have lLD : LD.length = L.length := by rw [hLD, List.length_map]
      rw [← hLD]
      have s8 : ∀ v4, b_law_right_s8 M.length [some (.ref h), some (.int g), some (.ref a), some (.lst LD), v4, some (.tup TL), v6, none, none, none] M4 = .nx [some (.ref h), some (.int g), some (.ref a), some (.lst LD), v4, some (.tup TL), some (.str T), none, none, none] M4 := fun v4 => by
        unfold b_law_right_s8 eJoin
        simp [wipeD, ltl, cp, jn]
      have s9 : ∀ v4, b_law_right_s9 M.length [some (.ref h), some (.int g), some (.ref a), some (.lst LD), v4, some (.tup TL), some (.str T), none, none, none] M4 = .nx [some (.ref h), some (.int g), some (.ref a), some (.lst LD), v4, some (.tup TL), some (.str T), none, none, none] M4 := fun v4 => by
        simp [b_law_right_s9, x1, x2, x3, sm]
      have adt : ∀ M, oAdd (.lst LD) (.lst [.str T]) M = .ok (.lst (LD ++ [.str T])) M := fun M => if_pos (by have : [D.str T].length = 1 := rfl; omega)
      simp [b_law_right_l1, b_law_right_s7, q4]
      rw [s8, sq_nx, r_seq, s9, sq_nx]
      simp [b_law_right_s10, rg3, lr3, wipeD, -r_addL, adt]
      refine wp_comp (fun j ys M' => Box M' h (10000 * (10 - (i + 1)) + 1000 + 1200 * (3 - j)) ∧ WAt M' a bd s ∧ M.length ≤ M'.length ∧ ∃ Y : List Str, ys = Y.map D.str ∧ Y.length = j ∧ ∀ x ∈ Y, Txq x) ⟨d4.box.mono (by omega), W4, lm4, [], rfl, rfl, fun _ h => (List.not_mem_nil h).elim⟩ ?_ ?_
      · rintro j d ys M7 hj hd ⟨bx7, W7, lm7, Y, rfl, ly, hy⟩
        rw [rngD_len] at hj
        refine ⟨_, t_nm _ _, fun Q' hQ => ?_⟩
        obtain ⟨y, M8, q8, l8, s8, d8⟩ := bentT_ok (M := M7) (h := h) (n := 10000 * (10 - (i + 1)) + 1000 + 1200 * (3 - (j + 1))) (x := T) so (by omega) (bx7.mono (by omega))
        simp [b_law_right_c2, q8]
        refine hQ _ _ (by simp) ⟨d8.box, W7.of (d8.at_ _ (Ne.symm ha)) (d8.at_ _ (Ne.symm hbd)), by rw [d8.len]; exact lm7, Y ++ [y], by simp, by simp [ly], fun x hx => ?_⟩
        rcases List.mem_append.mp hx with hx | hx
        · exact hy x hx
        · have : x = y := by simpa using hx
          subst this
          exact ⟨s8, by omega⟩
      · rintro ys M7 ⟨bx7, W7, lm7, Y, rfl, ly, hy⟩
        rw [rngD_len] at ly bx7
        have ad3 : ∀ M, oAdd (.lst (LD ++ [.str T])) (.lst (Y.map D.str)) M = .ok (.lst ((L ++ [T] ++ Y).map D.str)) M := fun M => by
          rw [List.map_append, List.map_append, ← hLD]
          exact if_pos (by rw [List.length_append, List.length_map]; have : [D.str T].length = 1 := rfl; omega)
        rw [ad3]
        obtain ⟨LN, hLN⟩ : ∃ Z, Z = L ++ [T] ++ Y := ⟨_, rfl⟩
        rw [← hLN]
        simp
        refine hN _ _ (by intro _ h; cases h) ⟨bx7.mono (by omega), W7, lm7, LN, _, _, _, by rw [hLN, List.length_append, List.length_append]; have : [T].length = 1 := rfl; omega, fun x hx => ?_, rfl⟩
        rw [hLN] at hx
        rcases List.mem_append.mp hx with hx | hx
        · rcases List.mem_append.mp hx with hx | hx
          · exact hT x hx
          · have : x = T := by simpa using hx
            subst this
            exact ⟨so, by omega⟩
        · exact hy x hx
    · rintro sl M3 ⟨bx3, W3, lm3, L, v4, v5, v6, lT, hT, rfl⟩
      rw [rngD_len] at lT
      have cq : compL M.length [] M3 (.nm 7) tTrue b_law_right_c3 [some (.ref h), some (.int g), some (.ref a), some (.lst (L.map D.str)), v4, v5, v6, none, none, none] (L.map D.str) M3 = .ok (L.map fun _ => D.bl true) M3 :=
        comp_fn D.str (fun _ => D.bl true) (by simp) fun y hy => ⟨_, t_nm _ _, by
          obtain ⟨sy, ly⟩ := hT y hy
          have e1 := asked_ok (M := M3) (x := y) sy (by omega)
          have e2 := due_ok (M := M3) (x := y) sy (by omega)
          have e3 := same_plain (M := M3) (x := ansT y) (ans_plain sy (by omega) 8)
          simp [b_law_right_c3, e1, e2, e3]⟩
      have al : bAll [.lst (L.map fun _ => D.bl true)] M3 = .ok (.bl true) M3 := r_all fun y hy => by
        obtain ⟨_, _, rfl⟩ := List.mem_map.mp hy
        rfl
      obtain ⟨LD, hLD⟩ : ∃ LD, LD = L.map D.str := ⟨_, rfl⟩
      obtain ⟨LB, hLB⟩ : ∃ LD, LD = L.map fun _ => D.bl true := ⟨_, rfl⟩
      have lld : LD.length ≤ 1000000 := by rw [hLD, List.length_map]; omega
      rw [← hLD] at cq ⊢
      rw [← hLB] at cq al
      simp [b_law_right_s12, wipeD, lld, cq, al]
      exact hR _ _ (by simp) rfl
  obtain ⟨d, M', e, rfl⟩ := wr_of key
  exact ⟨M', e⟩
theorem law_true : ∀ ns : List Int, ns.length ≤ 63 → ∃ M', f_law [.scr ns] [] = .ok (.bl true) M' :=
  law_runC (sz := 3) (by decide) (by decide) (fun M h x => right_ok x) (by unfold b_law b_law_s1 b_law_s2 b_law_c1; rfl)
end LW

open PySem PySem.W PyProof.Rows
set_option maxHeartbeats 0 in
theorem PySem.Challenge.cw_liftwater_k50_texts_of_trips_holds : PySem.Challenge.rw_liftwater_k50_texts_of_trips.Holds := by
  w_on; o_law; k_head; (case hw => w_witness2)
  k_fill
  refine LW.walk_g (l := PySem.Challenge.rw_liftwater_k50_texts_of_trips) (n := 63) (k := 12) (x := "_law_script") (CX := fun _ => L2.CX0) (sp := fun w => LW.spLaw _) rfl (by decide) rfl ⟨rfl, by decide, by decide⟩ (fun w h Y => PySem.W.kIn_of Y) ?F (fun _ _ a ns hl hS => ⟨a, ns, rfl, hS, hl, fun _ => rfl⟩) (fun _ _ _ _ _ h => h)
  case F =>
    intro w mg fa h KX G hmg
    refine' LW.all_mk LW.law_true KX G hmg ?ac_BadText ?exs_BadText ?exd_BadText ?ext_BadText ?ac_BadRow ?exs_BadRow ?exd_BadRow ?ext_BadRow ?ac_NoTour ?exs_NoTour ?exd_NoTour ?ext_NoTour ?xl_BadText ?xsa_BadText ?xk_BadText ?xw_BadText ?xi_BadText ?xlf_BadText ?xcf_BadText ?xkf_BadText ?xtf_BadText ?xv_BadText ?xga_BadText ?xgg_BadText ?xca_BadText ?xmr_BadText ?xhn ?xht ?xs_BadText_BadRow ?xe_BadText_BadRow ?xs_BadText_BadText ?xs_BadText_NoTour ?xe_BadText_NoTour ?xb_BadText_ValueError ?a0 ?l0 ?c0 ?k0 ?a1 ?l1 ?c1 ?k1 ?a2 ?l2 ?c2 ?k2 ?a3 ?l3 ?c3 ?k3 ?a4 ?l4 ?c4 ?k4 ?a5 ?l5 ?c5 ?k5 ?a6 ?l6 ?c6 ?k6 ?a7 ?l7 ?c7 ?k7 ?a8 ?l8 ?c8 ?k8 ?a9 ?l9 ?c9 ?k9 ?a10 ?l10 ?c10 ?k10 ?a11 ?l11 ?c11 ?k11 ?a12 ?l12 ?c12 ?k12 ?a13 ?l13 ?c13 ?k13 ?a14 ?l14 ?c14 ?k14 ?a15 ?l15 ?c15 ?k15 ?a16 ?l16 ?c16 ?k16 ?a17 ?l17 ?c17 ?k17 ?a18 ?l18 ?c18 ?k18 ?a19 ?l19 ?c19 ?k19 ?a20 ?l20 ?c20 ?k20 ?a21 ?l21 ?c21 ?k21 ?a22 ?l22 ?c22 ?k22 ?a23 ?l23 ?c23 ?k23 ?a24 ?l24 ?c24 ?k24 ?a25 ?l25 ?c25 ?k25 ?a26 ?l26 ?c26 ?k26 ?a27 ?l27 ?c27 ?k27 ?gnLEASTS ?lnLEASTS ?knLEASTS ?wnLEASTS ?gnTRIPS ?lnTRIPS ?knTRIPS ?wnTRIPS ?qn0TRIPS ?qn1TRIPS ?qn2TRIPS ?qn3TRIPS ?qn4TRIPS ?qn5TRIPS ?qn6TRIPS ?qn7TRIPS ?g_MOST_LETTERS ?g_MOST_PLACE ?g_MOST_FIGURES ?g_FIGURES ?z_list ?z_enumerate ?z_divmod ?z_range ?z_tuple ?z_int ?z_len ?z_dict ?z_sorted ?z_isinstance ?z_zip ?z_all ?z_str ?z_bool ?z_ValueError ?z_abs
    (case ac_BadText => k_is); (case exs_BadText => k_is); (case exd_BadText => k_is); (case ext_BadText => k_is); (case ac_BadRow => k_is); (case exs_BadRow => k_is); (case exd_BadRow => k_is); (case ext_BadRow => k_is); (case ac_NoTour => k_is); (case exs_NoTour => k_is); (case exd_NoTour => k_is); (case ext_NoTour => k_is); (case xl_BadText => k_is); (case xsa_BadText => k_is); (case xk_BadText => k_is); (case xw_BadText => k_is); (case xi_BadText => k_is); (case xlf_BadText => k_is); (case xcf_BadText => k_is); (case xkf_BadText => k_is); (case xtf_BadText => k_is); (case xv_BadText => k_is); (case xga_BadText => k_is); (case xgg_BadText => k_is); (case xca_BadText => k_is); (case xmr_BadText => k_is); (case xhn => k_is); (case xht => k_is); (case xs_BadText_BadRow => k_is); (case xe_BadText_BadRow => decide); (case xs_BadText_BadText => k_is); (case xs_BadText_NoTour => k_is); (case xe_BadText_NoTour => decide); (case xb_BadText_ValueError => k_is); (case a0 => k_is); (case l0 => k_is); (case c0 => k_is); (case k0 => k_is); (case a1 => k_is); (case l1 => k_is); (case c1 => k_is); (case k1 => k_is); (case a2 => k_is); (case l2 => k_is); (case c2 => k_is); (case k2 => k_is); (case a3 => k_is); (case l3 => k_is); (case c3 => k_is); (case k3 => k_is); (case a4 => k_is); (case l4 => k_is); (case c4 => k_is); (case k4 => k_is); (case a5 => k_is); (case l5 => k_is); (case c5 => k_is); (case k5 => k_is); (case a6 => k_is); (case l6 => k_is); (case c6 => k_is); (case k6 => k_is); (case a7 => k_is); (case l7 => k_is); (case c7 => k_is); (case k7 => k_is); (case a8 => k_is); (case l8 => k_is); (case c8 => k_is); (case k8 => k_is); (case a9 => k_is); (case l9 => k_is); (case c9 => k_is); (case k9 => k_is); (case a10 => k_is); (case l10 => k_is); (case c10 => k_is); (case k10 => k_is); (case a11 => k_is); (case l11 => k_is); (case c11 => k_is); (case k11 => k_is); (case a12 => k_is); (case l12 => k_is); (case c12 => k_is); (case k12 => k_is); (case a13 => k_is); (case l13 => k_is); (case c13 => k_is); (case k13 => k_is); (case a14 => k_is); (case l14 => k_is); (case c14 => k_is); (case k14 => k_is); (case a15 => k_is); (case l15 => k_is); (case c15 => k_is); (case k15 => k_is); (case a16 => k_is); (case l16 => k_is); (case c16 => k_is); (case k16 => k_is); (case a17 => k_is); (case l17 => k_is); (case c17 => k_is); (case k17 => k_is); (case a18 => k_is); (case l18 => k_is); (case c18 => k_is); (case k18 => k_is); (case a19 => k_is); (case l19 => k_is); (case c19 => k_is); (case k19 => k_is); (case a20 => k_is); (case l20 => k_is); (case c20 => k_is); (case k20 => k_is); (case a21 => k_is); (case l21 => k_is); (case c21 => k_is); (case k21 => k_is); (case a22 => k_is); (case l22 => k_is); (case c22 => k_is); (case k22 => k_is); (case a23 => k_is); (case l23 => k_is); (case c23 => k_is); (case k23 => k_is); (case a24 => k_is); (case l24 => k_is); (case c24 => k_is); (case k24 => k_is); (case a25 => k_is); (case l25 => k_is); (case c25 => k_is); (case k25 => k_is); (case a26 => k_is); (case l26 => k_is); (case c26 => k_is); (case k26 => k_is); (case a27 => k_is); (case l27 => k_is); (case c27 => k_is); (case k27 => k_is); (case gnLEASTS => k_is); (case lnLEASTS => k_is); (case knLEASTS => k_keys); (case wnLEASTS => decide); (case gnTRIPS => k_is); (case lnTRIPS => k_is); (case knTRIPS => k_keys); (case wnTRIPS => decide); (case qn0TRIPS => k_is); (case qn1TRIPS => k_is); (case qn2TRIPS => k_is); (case qn3TRIPS => k_is); (case qn4TRIPS => k_is); (case qn5TRIPS => k_is); (case qn6TRIPS => k_is); (case qn7TRIPS => k_is); (case g_MOST_LETTERS => k_is); (case g_MOST_PLACE => k_is); (case g_MOST_FIGURES => k_is); (case g_FIGURES => k_is); (case z_list => k_is); (case z_enumerate => k_is); (case z_divmod => k_is); (case z_range => k_is); (case z_tuple => k_is); (case z_int => k_is); (case z_len => k_is); (case z_dict => k_is); (case z_sorted => k_is); (case z_isinstance => k_is); (case z_zip => k_is); (case z_all => k_is); (case z_str => k_is); (case z_bool => k_is); (case z_ValueError => k_is); (case z_abs => k_is)
