import PyProof.Rows.All
import Wide.All
import OpenK.AllK
import Wide.FinOn
import HandS.ForMost
import HandS.Nested
import HandS.TupAny
import HandS.TupMul
import HandS.Wide
import HandS.Exc
import HandS.Style
import HandS.WideBits
import KE.KTupSum
import HandS.IsInst
import HandS.Zip
import HandS.NoneIn
import KE.KDictZip
import KE.KDictList
import PyProof.CollectIter
import HandS.WideMore
import HandS.More
import HandS.EndBits
import HandS.Iter
import PyProof.ReprRoads
import HandS.Dict
import KE.DataMinMax
import HandS.RaiseMore
import PyProof.ReprLen
import PySem.Challenge.RW_liftwater_k15_levels_behind_far_rounds
set_option Elab.async false
set_option linter.all false
set_option maxRecDepth 100000
set_option maxHeartbeats 4000000
namespace LW
open PySem L2
/-- a function made on the way: where it stands, its code, what it is, its name, what it caught -/
structure CI where
  f : Nat
  c : Nat
  φ : Heap → Prop
  q : Str
  ws : List V
/-- a value: immutable data as trees; what is changed in place is a handle into the memory -/
inductive D where
  | non
  | bl (b : Bool)
  | int (i : Int)
  | str (x : Str)
  | tup (xs : List D)
  | lst (xs : List D)
  | scr (xs : List Int)
  | dct (ks : List Key) (vs : List D)
  | dtt (ks : List (List Key)) (vs : List D)
  | exn (c : Str) (d : D)
  | key (k : List Key)
  | clo (i : CI) (cs : List D)
  | ref (h : Nat)
inductive Cell where
  | lst (xs : List D)
  | dct (ks : List Key) (vs : List D)
  | dtt (ks : List (List Key)) (vs : List D)
  | dcf (ks : List Key) (vs : List D)
  | dtf (ks : List (List Key)) (vs : List D)
  | tab (x q : Str)
  | ins (c : Str) (fs : List (Str × D))
abbrev Mem := List Cell
abbrev Slots := List (Option D)
inductive R (α : Type) where
  | ok (a : α) (M : Mem)
  | exc (c : Str) (d : D) (M : Mem)
  | bad
def R.bind {α β : Type} (r : R α) (k : α → Mem → R β) : R β := match r with
  | .ok a M => k a M
  | .exc c d M => .exc c d M
  | .bad => .bad
@[simp] theorem bind_ok {α β : Type} (a : α) (M : Mem) (k : α → Mem → R β) : (R.ok a M).bind k = k a M := id rfl
@[simp] theorem bind_exc {α β : Type} (c : Str) (d : D) (M : Mem) (k : α → Mem → R β) : (R.exc c d M : R α).bind k = .exc c d M := id rfl
@[simp] theorem bind_bad {α β : Type} (k : α → Mem → R β) : (R.bad : R α).bind k = .bad := id rfl
/-- no exception: in a comprehension none may leave -/
def R.nox {α : Type} (r : R α) : R α := match r with
  | .exc _ _ _ => .bad
  | r => r
@[simp] theorem nox_ok {α : Type} (a : α) (M : Mem) : (R.ok a M).nox = .ok a M := id rfl
@[simp] theorem nox_bad {α : Type} : (R.bad : R α).nox = .bad := id rfl
@[simp] theorem nox_exc {α : Type} (c : Str) (d : D) (M : Mem) : (R.exc c d M : R α).nox = .bad := id rfl
/-- a statement's end -/
inductive RS where
  | nx (s : Slots) (M : Mem)
  | rt (d : D) (M : Mem)
  | bk (s : Slots) (M : Mem)
  | ct (s : Slots) (M : Mem)
  | exc (c : Str) (d : D) (s : Slots) (M : Mem)
  | bad
abbrev ES := Nat → Slots → Mem → R D
abbrev ET := Nat → Slots → Mem → R Bool
abbrev EA := Nat → Slots → Mem → R (List D)
abbrev EN := Nat → Slots → Mem → R (List D)
abbrev SS := Nat → Slots → Mem → RS
abbrev Fn := List D → Mem → R D
def R.toS (s : Slots) {α : Type} (r : R α) (k : α → Mem → RS) : RS := match r with
  | .ok a M => k a M
  | .exc c d M => .exc c d s M
  | .bad => .bad
@[simp] theorem toS_ok {α : Type} (s : Slots) (a : α) (M : Mem) (k : α → Mem → RS) : (R.ok a M).toS s k = k a M := id rfl
@[simp] theorem toS_exc {α : Type} (s : Slots) (c : Str) (d : D) (M : Mem) (k : α → Mem → RS) : (R.exc c d M : R α).toS s k = .exc c d s M := id rfl
@[simp] theorem toS_bad {α : Type} (s : Slots) (k : α → Mem → RS) : (R.bad : R α).toS s k = .bad := id rfl
mutual
def below (n : Nat) : D → Bool
  | .tup xs => belows n xs
  | .lst xs => belows n xs
  | .dct _ vs => belows n vs
  | .dtt _ vs => belows n vs
  | .clo _ cs => belows n cs
  | .ref h => decide (h < n)
  | _ => true
def belows (n : Nat) : List D → Bool
  | [] => true
  | x :: xs => below n x && belows n xs
end
/-- the items of a list -/
def lstOf (M : Mem) : D → Option (List D)
  | .lst xs => some xs
  | .ref h => match M[h]? with
    | some (.lst xs) => some xs
    | _ => none
  | _ => none
/-- the items of a list or a tuple -/
def seqOf (M : Mem) : D → Option (List D)
  | .tup xs => some xs
  | .scr ns => some (ns.map .int)
  | d => lstOf M d
def eVar (i : Nat) : ES := fun _ s M => match s[i]? with
  | some (some d) => .ok d M
  | _ => .bad
def eC (d : D) : ES := fun _ _ M => .ok d M
def eBin (o : D → D → Mem → R D) (f g : ES) : ES := fun b s M => (f b s M).bind fun x M1 => (g b s M1).bind fun y M2 => o x y M2
def eUn (o : D → Mem → R D) (f : ES) : ES := fun b s M => (f b s M).bind fun x M1 => o x M1
/-- several, from the left -/
def aNil : EA := fun _ _ M => .ok [] M
def aCons (f : ES) (g : EA) : EA := fun b s M => (f b s M).bind fun x M1 => (g b s M1).bind fun xs M2 => .ok (x :: xs) M2
def eTup (f : EA) : ES := fun b s M => (f b s M).bind fun xs M1 => if xs.length ≤ 1000000 then .ok (.tup xs) M1 else .bad
def nLst (f : EA) : EN := fun b s M => (f b s M).bind fun xs M1 => if xs.length ≤ 1000000 then .ok xs M1 else .bad
/-- a fresh list: never changed in place; or a handle -/
def eFrz (f : EN) : ES := fun b s M => (f b s M).bind fun xs M1 => .ok (.lst xs) M1
def eThw (f : EN) : ES := fun b s M => (f b s M).bind fun xs M1 => .ok (.ref M1.length) (M1 ++ [.lst xs])
def eCall (φ : Fn) (f : EA) : ES := fun b s M => (f b s M).bind fun ds M1 => φ ds M1
/-- a built-in function of values -/
def eFn (g : List D → Mem → R D) (f : EA) : ES := fun b s M => (f b s M).bind fun ds M1 => g ds M1
def eIf (c : ET) (f g : ES) : ES := fun b s M => (c b s M).bind fun k M1 => if k = true then f b s M1 else g b s M1
/-- and, or, not by values that are bools -/
def eAnd (f g : ES) : ES := fun b s M => (f b s M).bind fun x M1 => match x with
  | .bl k => if k = true then g b s M1 else .ok (.bl false) M1
  | _ => .bad
def eOr (f g : ES) : ES := fun b s M => (f b s M).bind fun x M1 => match x with
  | .bl k => if k = true then .ok (.bl true) M1 else g b s M1
  | _ => .bad
def oNot : D → Mem → R D
  | .bl k, M => .ok (.bl (!k)) M
  | _, _ => .bad
/-- a op b op' c -/
def eChain (o o' : D → D → Mem → R D) (f g h : ES) : ES := fun b s M => (f b s M).bind fun x M1 => (g b s M1).bind fun y M2 => (o x y M2).bind fun z M3 => match z with
  | .bl k => if k = true then (h b s M3).bind fun w M4 => o' y w M4 else .ok (.bl false) M3
  | _ => .bad
def tVal (f : ES) : ET := fun b s M => (f b s M).bind fun x M1 => match x with
  | .bl k => .ok k M1
  | _ => .bad
def tAnd (f g : ET) : ET := fun b s M => (f b s M).bind fun k M1 => if k = true then g b s M1 else .ok false M1
def tOr (f g : ET) : ET := fun b s M => (f b s M).bind fun k M1 => if k = true then .ok true M1 else g b s M1
def tNot (f : ET) : ET := fun b s M => (f b s M).bind fun k M1 => .ok (!k) M1
def tTrue : ET := fun _ _ M => .ok true M
def small (i : Int) : Bool := decide (-(2 ^ 64) < i ∧ i < 2 ^ 64)
def oAdd : D → D → Mem → R D := fun x y M => match x, y with
  | .int i, .int j => .ok (.int (i + j)) M
  | .str a, .str c => if a.length + c.length ≤ 1000000 then .ok (.str (a ++ c)) M else .bad
  | .tup xs, .tup ys => if xs.length + ys.length ≤ 1000000 then .ok (.tup (xs ++ ys)) M else .bad
  | _, _ => match lstOf M x, lstOf M y with
    | some xs, some ys => if xs.length + ys.length ≤ 1000000 then .ok (.lst (xs ++ ys)) M else .bad
    | _, _ => .bad
def oSub : D → D → Mem → R D := fun x y M => match x, y with
  | .int i, .int j => .ok (.int (i - j)) M
  | _, _ => .bad
/-- the one factor within 64 bits, or both not great -/
def mulOk (i j : Int) : Bool := small i || small j || decide (i.natAbs.log2 + j.natAbs.log2 < 1000000)
def oMul : D → D → Mem → R D := fun x y M => match x, y with
  | .int i, .int j => if mulOk i j then .ok (.int (i * j)) M else .bad
  | .tup xs, .int k => if 1 ≤ k ∧ k ≤ 1000 ∧ xs.length ≤ 1000 ∧ xs ≠ [] then .ok (.tup (List.replicate k.toNat xs).flatten) M else .bad
  | _, .int k => match lstOf M x with
    | some xs => if 0 ≤ k ∧ k ≤ 1000 ∧ xs.length ≤ 1000 then .ok (.lst (List.replicate k.toNat xs).flatten) M else .bad
    | none => .bad
  | _, _ => .bad
def oMod : D → D → Mem → R D := fun x y M => match x, y with
  | .int i, .int j => if 0 < j then .ok (.int (i % j)) M else .bad
  | _, _ => .bad
def oDiv : D → D → Mem → R D := fun x y M => match x, y with
  | .int i, .int j => if 0 < j ∧ j.natAbs.log2 < 8000 then .ok (.int (i / j)) M else .bad
  | _, _ => .bad
def oPow : D → D → Mem → R D := fun x y M => match x, y with
  | .int i, .int j => if 0 ≤ j ∧ j ≤ 100 ∧ small i = true then .ok (.int (i ^ j.toNat)) M else .bad
  | _, _ => .bad
def oCmp (p : Int → Int → Bool) : D → D → Mem → R D := fun x y M => match x, y with
  | .int i, .int j => .ok (.bl (p i j)) M
  | _, _ => .bad
def oLt := oCmp fun i j => decide (i < j)
def oLe := oCmp fun i j => decide (i ≤ j)
def oGt := oCmp fun i j => decide (j < i)
def oGe := oCmp fun i j => decide (j ≤ i)
def isNon : D → Bool
  | .non => true
  | _ => false
def oIsN : D → D → Mem → R D := fun x y M => match y with
  | .non => .ok (.bl (isNon x)) M
  | _ => .bad
def oIsntN : D → D → Mem → R D := fun x y M => match y with
  | .non => .ok (.bl (!isNon x)) M
  | _ => .bad
def oNeg : D → Mem → R D
  | .int i, M => .ok (.int (-i)) M
  | _, _ => .bad
mutual
def toPy (M : Mem) : D → Option PyData
  | .non => some .none
  | .bl b => some (.bool b)
  | .int i => some (.int i)
  | .str x => some (.str x)
  | .tup xs => (toPys M xs).map .tuple
  | .lst xs => (toPys M xs).map .list
  | _ => none
def toPys (M : Mem) : List D → Option (List PyData)
  | [] => some []
  | x :: xs => match toPy M x, toPys M xs with
    | some d, some ds => some (d :: ds)
    | _, _ => none
end
/-- a handle of a list read off -/
def rdOf (M : Mem) : D → D
  | .ref h => match M[h]? with
    | some (.lst xs) => .lst xs
    | _ => .ref h
  | d => d
def eqD (M : Mem) (x y : D) : Option Bool := match toPy M (rdOf M x), toPy M (rdOf M y) with
  | some d, some e => if SeqAt.shaped d = true ∧ SeqAt.shaped e = true then some (PyData.eqv d e) else none
  | _, _ => none
/-- two texts -/
def strs2 : D → D → Option Bool
  | .str a, .str c => some (a == c)
  | _, _ => none
def oEq : D → D → Mem → R D := fun x y M => match strs2 x y with
  | some k => .ok (.bl k) M
  | none => match eqD M x y with
    | some k => .ok (.bl k) M
    | none => .bad
def oNe : D → D → Mem → R D := fun x y M => match strs2 x y with
  | some k => .ok (.bl (!k)) M
  | none => match eqD M x y with
    | some k => .ok (.bl (!k)) M
    | none => .bad
def oIx : D → D → Mem → R D := fun x y M => match y with
  | .int i => match seqOf M x with
    | some xs => match atI xs i with
      | some d => .ok d M
      | none => .bad
    | none => .bad
  | _ => .bad
/-- xs[i] = v -/
def setIx (b : Nat) (x i v : D) (M : Mem) : Option Mem := match x, i with
  | .ref h, .int i => match M[h]? with
    | some (.lst xs) => match ixN xs.length i with
      | some k => if b ≤ h ∨ below 0 v = true then some (M.set h (.lst (xs.set k v))) else none
      | none => none
    | _ => none
  | _, _ => none
def cutL {α : Type} (xs : List α) (lo hi : Option Int) : List α := (xs.drop (HT.sIx xs.length 0 lo)).take (HT.sIx xs.length xs.length hi - HT.sIx xs.length 0 lo)
/-- a slice's part -/
abbrev EP' := Nat → Slots → Mem → R (Option Int)
def pNo : EP' := fun _ _ M => .ok none M
def pOf (f : ES) : EP' := fun b s M => (f b s M).bind fun x M1 => match x with
  | .int i => .ok (some i) M1
  | _ => .bad
/-- x[lo:hi]: of a tuple a tuple, of a list a new list -/
def oCut (x : D) (lo hi : Option Int) (M : Mem) : R D := match x with
  | .tup xs => .ok (.tup (cutL xs lo hi)) M
  | _ => match seqOf M x with
    | some xs => .ok (.lst (cutL xs lo hi)) M
    | none => .bad
def eCut (f : ES) (lo hi : EP') : ES := fun b s M => (f b s M).bind fun x M1 => (lo b s M1).bind fun l M2 => (hi b s M2).bind fun h M3 => oCut x l h M3
/-- x[::-1] -/
def oRev (x : D) (M : Mem) : R D := match x with
  | .tup xs => .ok (.tup xs.reverse) M
  | _ => match seqOf M x with
    | some xs => .ok (.lst xs.reverse) M
    | none => .bad
def bLen : List D → Mem → R D := fun xs M => match xs with
  | [.str z] => if z.length ≤ 1000000 then .ok (.int z.length) M else .bad
  | [x] => match seqOf M x with
    | some ys => .ok (.int ys.length) M
    | none => .bad
  | _ => .bad
def bTuple : List D → Mem → R D := fun xs M => match xs with
  | [x] => match seqOf M x with
    | some ys => .ok (.tup ys) M
    | none => .bad
  | _ => .bad
def nListOf (f : EA) : EN := fun b s M => (f b s M).bind fun xs M1 => match xs with
  | [x] => match seqOf M1 x with
    | some ys => .ok ys M1
    | none => .bad
  | _ => .bad
def intsOf : List D → Option (List Int)
  | [] => some []
  | .int i :: r => (intsOf r).map (i :: ·)
  | _ :: _ => none
def blsOf : List D → Option (List Bool)
  | [] => some []
  | .bl i :: r => (blsOf r).map (i :: ·)
  | _ :: _ => none
def bAll : List D → Mem → R D := fun xs M => match xs with
  | [x] => match (lstOf M x).bind blsOf with
    | some ys => .ok (.bl (ys.all id)) M
    | none => .bad
  | _ => .bad
def bAny : List D → Mem → R D := fun xs M => match xs with
  | [x] => match (lstOf M x).bind blsOf with
    | some ys => .ok (.bl (ys.any id)) M
    | none => .bad
  | _ => .bad
/-- the least, the greatest of some ints, one at least -/
def minL : Int → List Int → Int
  | x, [] => x
  | x, y :: r => minL (if y < x then y else x) r
def maxL : Int → List Int → Int
  | x, [] => x
  | x, y :: r => maxL (if x < y then y else x) r
def bMin : List D → Mem → R D := fun xs M => match xs with
  | [.int i, .int j] => .ok (.int (if j < i then j else i)) M
  | [x] => match (lstOf M x).bind intsOf with
    | some (y :: ys) => .ok (.int (minL y ys)) M
    | _ => .bad
  | _ => .bad
def bMax : List D → Mem → R D := fun xs M => match xs with
  | [.int i, .int j] => .ok (.int (if j > i then j else i)) M
  | [x] => match (lstOf M x).bind intsOf with
    | some (y :: ys) => .ok (.int (maxL y ys)) M
    | _ => .bad
  | _ => .bad
def bAbs : List D → Mem → R D := fun xs M => match xs with
  | [.int i] => .ok (.int (if i < 0 then -i else i)) M
  | _ => .bad
def bInt : List D → Mem → R D := fun xs M => match xs with
  | [.int i] => .ok (.int i) M
  | [.bl k] => .ok (.int (if k then 1 else 0)) M
  | _ => .bad
def bDivmod : List D → Mem → R D := fun xs M => match xs with
  | [.int i, .int j] => if 0 < j ∧ j.natAbs.log2 < 8000 then .ok (.tup [.int (i / j), .int (i % j)]) M else .bad
  | _ => .bad
/-- a value's type -/
def tyOf (M : Mem) : D → Option String
  | .non => some "NoneType"
  | .bl _ => some "bool"
  | .int _ => some "int"
  | .str _ => some "str"
  | .tup _ => some "tuple"
  | .lst _ => some "list"
  | .scr _ => some "list"
  | .dct _ _ => some "dict"
  | .dtt _ _ => none
  | .exn _ _ => none
  | .key _ => none
  | .clo _ _ => none
  | .ref h => match M[h]? with
    | some (.lst _) => some "list"
    | some (.dct _ _) => some "dict"
    | _ => none
def isTy (t c : String) : Bool := t == c || (t == "bool" && c == "int")
/-- isinstance(x, T), isinstance(x, (T, U)) -/
def oIsi (cs : List String) : D → Mem → R D := fun x M => match tyOf M x with
  | some t => .ok (.bl (cs.any (isTy t))) M
  | none => .bad
abbrev EI := Nat → Slots → Mem → R (List D × List Nat)
/-- the handles that must stay as they are while they are walked -/
def gdOf : D → List Nat
  | .ref h => [h]
  | _ => []
def iOf (f : ES) : EI := fun b s M => (f b s M).bind fun x M1 => match seqOf M1 x with
  | some xs => .ok (xs, gdOf x) M1
  | none => .bad
def rngOk (i : Int) : Prop := -(2 ^ 62) ≤ i ∧ i < 2 ^ 62
instance (i : Int) : Decidable (rngOk i) := inferInstanceAs (Decidable (_ ∧ _))
def iRange1 (f : EA) : EI := fun b s M => (f b s M).bind fun ds M1 => match ds with
  | [.int j] => if rngOk j then .ok ((List.range j.toNat).map fun (k : Nat) => .int (0 + (k : Int)), []) M1 else .bad
  | _ => .bad
def iRange2 (f : EA) : EI := fun b s M => (f b s M).bind fun ds M1 => match ds with
  | [.int i, .int j] => if rngOk i ∧ rngOk j then .ok ((List.range (j - i).toNat).map fun (k : Nat) => .int (i + (k : Int)), []) M1 else .bad
  | _ => .bad
/-- range(i, j, -1) -/
def iDown (f : EA) : EI := fun b s M => (f b s M).bind fun ds M1 => match ds with
  | [.int i, .int j, .int c] => if rngOk i ∧ rngOk j ∧ c = -1 then .ok ((List.range (i - j).toNat).map fun (k : Nat) => .int (i + (k : Int) * (-1)), []) M1 else .bad
  | _ => .bad
def enumD : Nat → List D → List D
  | _, [] => []
  | k, x :: r => .tup [.int (k : Int), x] :: enumD (k + 1) r
def iEnum (f : EA) : EI := fun b s M => (f b s M).bind fun ds M1 => match ds with
  | [x] => match seqOf M1 x with
    | some xs => .ok (enumD 0 xs, gdOf x) M1
    | none => .bad
  | _ => .bad
def zipD (xs ys : List D) : List D := List.zipWith (fun x y => .tup [x, y]) xs ys
def iZip (st : Bool) (f : EA) : EI := fun b s M => (f b s M).bind fun ds M1 => match ds with
  | [x, y] => match seqOf M1 x, seqOf M1 y with
    | some xs, some ys => if st = true ∧ xs.length ≠ ys.length then .bad else .ok (zipD xs ys, gdOf x ++ gdOf y) M1
    | _, _ => .bad
  | _ => .bad
def zip3D : List D → List D → List D → List D
  | x :: xs, y :: ys, z :: zs => .tup [x, y, z] :: zip3D xs ys zs
  | _, _, _ => []
def iZip3 (st : Bool) (f : EA) : EI := fun b s M => (f b s M).bind fun ds M1 => match ds with
  | [x, y, z] => match seqOf M1 x, seqOf M1 y, seqOf M1 z with
    | some xs, some ys, some zs => if st = true ∧ (xs.length ≠ ys.length ∨ xs.length ≠ zs.length) then .bad else .ok (zip3D xs ys zs, gdOf x ++ gdOf y ++ gdOf z) M1
    | _, _, _ => .bad
  | _ => .bad
inductive Tg where
  | nm (i : Nat)
  | tp (ts : List Tg)
mutual
def bindT (M : Mem) : Tg → D → Slots → Option Slots
  | .nm i, d, s => some (s.set i (some d))
  | .tp ts, d, s => match seqOf M d with
    | some xs => bindTs M ts xs s
    | none => none
def bindTs (M : Mem) : List Tg → List D → Slots → Option Slots
  | [], [], s => some s
  | t :: ts, d :: ds, s => (bindT M t d s).bind fun s1 => bindTs M ts ds s1
  | _, _, _ => none
end
mutual
def Tg.slots : Tg → List Nat
  | .nm i => [i]
  | .tp ts => slotss ts
def slotss : List Tg → List Nat
  | [] => []
  | t :: ts => t.slots ++ slotss ts
end
/-- a general target: what is assigned, the slots -/
abbrev EG := Nat → D → Slots → Mem → Option (Slots × Mem)
def gT (t : Tg) : EG := fun _ d s M => (bindT M t d s).map fun s1 => (s1, M)
/-- o[i] = .. -/
def gIx (f g : ES) : EG := fun b d s M => match f b s M with
  | .ok x M1 => match g b s M1 with
    | .ok y M2 => (setIx b x y d M2).map fun M3 => (s, M3)
    | _ => none
  | _ => none
abbrev EGs := Nat → List D → Slots → Mem → Option (Slots × Mem)
def gsNil : EGs := fun _ ds s M => match ds with
  | [] => some (s, M)
  | _ => none
def gsCons (g : EG) (gs : EGs) : EGs := fun b ds s M => match ds with
  | d :: r => (g b d s M).bind fun p => gs b r p.1 p.2
  | [] => none
def gTup (gs : EGs) : EG := fun b d s M => match seqOf M d with
  | some xs => gs b xs s M
  | none => none
def sNx : SS := fun _ s M => .nx s M
def sSeq (t u : SS) : SS := fun b s M => match t b s M with
  | .nx s1 M1 => u b s1 M1
  | r => r
def sExpr (f : ES) : SS := fun b s M => (f b s M).toS s fun _ M1 => .nx s M1
def sRet (f : ES) : SS := fun b s M => (f b s M).toS s fun d M1 => .rt d M1
def sRetN : SS := fun _ _ M => .rt .non M
def sBrk : SS := fun _ s M => .bk s M
def sCnt : SS := fun _ s M => .ct s M
def sAsg (f : ES) (g : EG) : SS := fun b s M => (f b s M).toS s fun d M1 => match g b d s M1 with
  | some (s2, M2) => .nx s2 M2
  | none => .bad
def sSet (i : Nat) (f : ES) : SS := fun b s M => (f b s M).toS s fun d M1 => .nx (s.set i (some d)) M1
/-- a, b, .. = x, y, .. of plain names: no tuple -/
def setAll : List Nat → List D → Slots → Option Slots
  | [], [], s => some s
  | i :: is, d :: ds, s => setAll is ds (s.set i (some d))
  | _, _, _ => none
def sPar (is : List Nat) (f : EA) : SS := fun b s M => (f b s M).toS s fun ds M1 => match setAll is ds s with
  | some s2 => .nx s2 M1
  | none => .bad
def sIf (c : ET) (t u : SS) : SS := fun b s M => (c b s M).toS s fun k M1 => if k = true then t b s M1 else u b s M1
def sAug (i : Nat) (o : D → D → Mem → R D) (f : ES) : SS := fun b s M => match s[i]? with
  | some (some x) => (f b s M).toS s fun y M1 => (o x y M1).toS s fun z M2 => .nx (s.set i (some z)) M2
  | _ => .bad
/-- what is walked stands as it stood -/
def gdOk (hs : List Nat) (M0 M : Mem) : Prop := ∀ h ∈ hs, M[h]? = M0[h]?
open Classical in
noncomputable def forL (b : Nat) (hs : List Nat) (M0 : Mem) (t : Tg) (body : SS) : List D → Slots → Mem → RS
  | [], s, M => .nx s M
  | d :: r, s, M => match bindT M t d s with
    | some s1 => match body b s1 M with
      | .nx s2 M2 => if gdOk hs M0 M2 then forL b hs M0 t body r s2 M2 else .bad
      | .ct s2 M2 => if gdOk hs M0 M2 then forL b hs M0 t body r s2 M2 else .bad
      | .bk s2 M2 => .nx s2 M2
      | e => e
    | none => .bad
noncomputable def sFor (it : EI) (t : Tg) (body : SS) : SS := fun b s M => (it b s M).toS s fun p M1 => forL b p.2 M1 t body p.1 s M1
def whileL (b : Nat) (c : ET) (body : SS) : Nat → Slots → Mem → RS
  | 0, _, _ => .bad
  | n + 1, s, M => (c b s M).toS s fun k M1 => if k = true then (match body b s M1 with
      | .nx s2 M2 => whileL b c body n s2 M2
      | .ct s2 M2 => whileL b c body n s2 M2
      | .bk s2 M2 => .nx s2 M2
      | e => e) else .nx s M1
/-- at most n turns -/
def sWhile (n : Nat) (c : ET) (body : SS) : SS := fun b s M => whileL b c body n s M
def wipeD (s : Slots) : List Nat → Slots
  | [] => s
  | v :: vs => (wipeD s vs).set v none
open Classical in
noncomputable def compL (b : Nat) (hs : List Nat) (M0 : Mem) (t : Tg) (c : ET) (e : ES) (s : Slots) : List D → Mem → R (List D)
  | [], M => .ok [] M
  | d :: r, M => match bindT M t d s with
    | some s1 => (c b s1 M).nox.bind fun k M1 => if k = true then (e b s1 M1).nox.bind fun y M2 => if gdOk hs M0 M2 then (compL b hs M0 t c e s r M2).bind fun ys M3 => .ok (y :: ys) M3 else .bad
      else if gdOk hs M0 M1 then compL b hs M0 t c e s r M1 else .bad
    | none => .bad
noncomputable def nComp (it : EI) (own : List Nat) (t : Tg) (c : ET) (e : ES) : EN := fun b s M => (it b s M).bind fun p M1 => if p.1.length ≤ 1000000 then compL b p.2 M1 t c e (wipeD s own) p.1 M1 else .bad
def stOk (b h : Nat) (v : D) : Bool := decide (b ≤ h) || below 0 v
def mAppend (b : Nat) : D → List D → Mem → R D := fun x vs M => match x, vs with
  | .ref h, [v] => match M[h]? with
    | some (.lst xs) => if stOk b h v = true ∧ xs.length < 1000000 then .ok .non (M.set h (.lst (xs ++ [v]))) else .bad
    | _ => .bad
  | _, _ => .bad
/-- handles from n on read off as frozen data -/
def frz (M : Mem) (n : Nat) : Nat → D → Option D
  | 0, _ => none
  | k + 1, .ref h => if h < n then some (.ref h) else match M[h]? with
    | some (.lst xs) => (xs.mapM (frz M n k)).map .lst
    | some (.dtt ks vs) => (vs.mapM (frz M n k)).map (.dtt ks)
    | _ => none
  | k + 1, .tup xs => (xs.mapM (frz M n k)).map .tup
  | k + 1, .lst xs => (xs.mapM (frz M n k)).map .lst
  | k + 1, .dct ks vs => (vs.mapM (frz M n k)).map (.dct ks)
  | k + 1, .dtt ks vs => (vs.mapM (frz M n k)).map (.dtt ks)
  | _ + 1, .clo _ _ => none
  | _ + 1, d => some d
/-- what a def hands back: plain data as it is; a handle of its own read off -/
def leave (n : Nat) (d : D) (M : Mem) : R D := if below n d = true then .ok d (M.take n) else match frz M n 12 d with
  | some d' => .ok d' (M.take n)
  | none => .bad
/-- a def that hands back a list of its own to be changed on -/
def leaveK (n : Nat) (d : D) (M : Mem) : R D := match d with
  | .ref h => if h < n then .bad else match M[h]? with
    | some (.lst xs) => if belows n xs = true then .ok (.ref n) (M.take n ++ [.lst xs]) else .bad
    | _ => .bad
  | _ => .bad
def runFn (keep : Bool) (n : Nat) (r : RS) : R D := match r with
  | .rt d M => if keep = true then leaveK n d M else leave n d M
  | .nx _ M => .ok .non (M.take n)
  | .exc c d _ M => if below 0 d = true then .exc c d (M.take n) else .bad
  | _ => .bad
def mkFn (keep : Bool) (nps nsl : Nat) (body : SS) : Fn := fun ds M => if ds.length = nps then runFn keep M.length (body M.length (ds.map some ++ List.replicate (nsl - nps) none) M) else .bad
end LW
namespace LW
open PySem PySem.Spec PyProof.Rows L2
/-- the handles: their addresses, how many, the frame's base, what old cells may hold -/
abbrev NoTup (o : HO) : Prop := ∀ xs, o ≠ HO.tup xs
structure Wd where
  p : Nat → Addr × HO
  n : Nat
  b : Nat
  lim : Nat → Nat
  av : Addr → Prop
abbrev Wd.e (W : Wd) (h : Nat) : Addr := (W.p h).1
/-- what a locked thing is -/
abbrev Wd.od (W : Wd) (h : Nat) : HO := (W.p h).2
def Wd.im (W : Wd) (a : Addr) : Prop := W.av a ∨ ∃ h, h < W.n ∧ W.e h = a
/-- what is written: the fragment, the module's names -/
structure Gm where
  K : PySem.W.Frag
  mg : Str → Option Value
def KL (K : PySem.W.Frag) (a : Addr) (xs : List V) : Prop :=
  ∃ (o : Obj) (its : Array Value) (n : Nat), K.lookup a = some o ∧ o.cls = .type "list" ∧ o.dict = none ∧ o.data = .seq its n ∧ its.size ≤ sizeLine ∧ Vals xs its.toList
def KT (K : PySem.W.Frag) (a : Addr) (xs : List V) : Prop :=
  ∃ (o : Obj) (its : Array Value) (n : Nat), K.lookup a = some o ∧ o.cls = .type "tuple" ∧ o.data = .seq its n ∧ its.size ≤ sizeLine ∧ Vals xs its.toList
def LAt (G : Gm) (H : Hp) (W : Wd) (a : Addr) (vs : List V) : Prop := H a = some (.lst vs) ∧ ¬ W.im a
def SAt (G : Gm) (H : Hp) (W : Wd) (a : Addr) (vs : List V) : Prop := (Rd H a (.lst vs) ∧ ¬ W.im a) ∨ KL G.K a vs
def TAt (G : Gm) (H : Hp) (W : Wd) (a : Addr) (vs : List V) : Prop := (Rd H a (.tup vs) ∧ ¬ W.im a) ∨ KT G.K a vs
theorem LAt.sq {G : Gm} {H : Hp} {W : Wd} {a : Addr} {vs : List V} (h : LAt G H W a vs) : SqL G.K H a vs := SqL.of h.1
theorem TAt.sq {G : Gm} {H : Hp} {W : Wd} {a : Addr} {vs : List V} (h : TAt G H W a vs) : SqT G.K H a vs := h.elim (fun z => .inl z.1) fun z => .inr z
/-- a caught exception's object: its class, its dict -/
def xcO (a C dd : Addr) : HO := .ext fun h => ∃ (oe : Obj) (vs : Array Value), h.get? a = some oe ∧ oe.cls = .ref C ∧ oe.dict = some dd ∧ oe.data = .fields vs
/-- flat data -/
inductive Flt : D → V → Prop
  | int (i : Int) : Flt (.int i) (.int i)
  | str (x : Str) : Flt (.str x) (.str x)
mutual
inductive RD (G : Gm) (H : Hp) (W : Wd) : D → V → Prop
  | non : RD G H W .non .non
  | bl (b : Bool) : RD G H W (.bl b) (.bl b)
  | int (i : Int) : RD G H W (.int i) (.int i)
  | str (x : Str) : RD G H W (.str x) (.str x)
  | tup {a : Addr} {vs : List V} {ds : List D} : TAt G H W a vs → RDs G H W ds vs → RD G H W (.tup ds) (.ref a)
  | lst {a : Addr} {vs : List V} {ds : List D} : LAt G H W a vs → RDs G H W ds vs → RD G H W (.lst ds) (.ref a)
  | scr {a : Addr} {ns : List Int} : SAt G H W a (ns.map V.int) → RD G H W (.scr ns) (.ref a)
  | dct {a : Addr} {o : Obj} {ks : List Key} {ds : List D} {vs : List V} : H a = some (.frz o (.dK (ks.zip vs))) → ¬ W.im a → ks.length = vs.length → RDs G H W ds vs → RD G H W (.dct ks ds) (.ref a)
  | dtt {a : Addr} {ks : List (List Key)} {ds : List D} {vs : List V} : Rd H a (.dT (ks.zip vs)) → ¬ W.im a → ks.length = vs.length → RDs G H W ds vs → RD G H W (.dtt ks ds) (.ref a)
  | exn {a C dd : Addr} {c : Str} {d : D} {v : V} : G.mg c = some (.ref C) → H a = some (xcO a C dd) → ¬ W.im a → H dd = some (.xd [("what", v)]) → ¬ W.im dd → Flt d v → RD G H W (.exn c d) (.ref a)
  | key {a : Addr} {k : List Key} : H a = some (.tup (k.map kV)) → ¬ W.im a → RD G H W (.key k) (.ref a)
  | clo {i : CI} {cs : List D} : H i.f = some (.ext i.φ) → ¬ W.im i.f → H i.c = some (LamX.CodeO i.c i.q) → ¬ W.im i.c → RDs G H W cs i.ws → RD G H W (.clo i cs) (.ref i.f)
  | ref {h : Nat} : h < W.n → RD G H W (.ref h) (.ref (W.e h))
inductive RDs (G : Gm) (H : Hp) (W : Wd) : List D → List V → Prop
  | nil : RDs G H W [] []
  | cons {d : D} {ds : List D} {v : V} {vs : List V} : RD G H W d v → RDs G H W ds vs → RDs G H W (d :: ds) (v :: vs)
end
/-- what is tracked and no handle's stays; handles stay -/
structure Le (H : Hp) (W : Wd) (H' : Hp) (W' : Wd) : Prop where
  n : W.n ≤ W'.n
  pe : ∀ h, h < W.n → W'.p h = W.p h
  keep : ∀ a o, H a = some o → ¬ W.im a → H' a = some o ∧ ¬ W'.im a
theorem Le.e {H : Hp} {W : Wd} {H' : Hp} {W' : Wd} (x : Le H W H' W') (h : Nat) (q : h < W.n) : W'.e h = W.e h := congrArg Prod.fst (x.pe h q)
theorem Le.od {H : Hp} {W : Wd} {H' : Hp} {W' : Wd} (x : Le H W H' W') (h : Nat) (q : h < W.n) : W'.od h = W.od h := congrArg Prod.snd (x.pe h q)
structure Ext (H : Hp) (W : Wd) (H' : Hp) (W' : Wd) : Prop extends Le H W H' W' where
  b : W'.b = W.b
  lim : W'.lim = W.lim
  av : W'.av = W.av
  avk : ∀ a, W.av a → H' a = H a
theorem Le.refl (H : Hp) (W : Wd) : Le H W H W := ⟨Nat.le_refl _, fun _ _ => rfl, fun _ _ h n => ⟨h, n⟩⟩
theorem Le.trans {H H1 H2 : Hp} {W W1 W2 : Wd} (x : Le H W H1 W1) (y : Le H1 W1 H2 W2) : Le H W H2 W2 :=
  ⟨Nat.le_trans x.n y.n, fun h q => (y.pe h (Nat.lt_of_lt_of_le q x.n)).trans (x.pe h q), fun a o h n => y.keep a o (x.keep a o h n).1 (x.keep a o h n).2⟩
theorem Ext.refl (H : Hp) (W : Wd) : Ext H W H W := ⟨.refl H W, rfl, rfl, rfl, fun _ _ => rfl⟩
theorem Ext.trans {H H1 H2 : Hp} {W W1 W2 : Wd} (x : Ext H W H1 W1) (y : Ext H1 W1 H2 W2) : Ext H W H2 W2 :=
  ⟨x.toLe.trans y.toLe, y.b.trans x.b, y.lim.trans x.lim, y.av.trans x.av, fun a h => (y.avk a (by rw [x.av]; exact h)).trans (x.avk a h)⟩
theorem Le.rd {H H' : Hp} {W W' : Wd} {a : Addr} {o : HO} (x : Le H W H' W') (r : Rd H a o) (n : ¬ W.im a) : Rd H' a o ∧ ¬ W'.im a := by
  rcases r with r | ⟨ob, r⟩
  · exact ⟨.inl (x.keep _ _ r n).1, (x.keep _ _ r n).2⟩
  · exact ⟨.inr ⟨ob, (x.keep _ _ r n).1⟩, (x.keep _ _ r n).2⟩
theorem LAt.mono {G : Gm} {H H' : Hp} {W W' : Wd} {a : Addr} {vs : List V} (x : Le H W H' W') (h : LAt G H W a vs) : LAt G H' W' a vs :=
  x.keep _ _ h.1 h.2
theorem SAt.mono {G : Gm} {H H' : Hp} {W W' : Wd} {a : Addr} {vs : List V} (x : Le H W H' W') (h : SAt G H W a vs) : SAt G H' W' a vs :=
  h.elim (fun z => .inl (x.rd z.1 z.2)) .inr
theorem SAt.sq {G : Gm} {H : Hp} {W : Wd} {a : Addr} {vs : List V} (h : SAt G H W a vs) : SqL G.K H a vs := h.elim (fun z => .inl z.1) fun z => .inr z
theorem TAt.mono {G : Gm} {H H' : Hp} {W W' : Wd} {a : Addr} {vs : List V} (x : Le H W H' W') (h : TAt G H W a vs) : TAt G H' W' a vs :=
  h.elim (fun z => .inl (x.rd z.1 z.2)) .inr
mutual
theorem RD.mono {G : Gm} {H H' : Hp} {W W' : Wd} (x : Le H W H' W') : ∀ {d : D} {v : V}, RD G H W d v → RD G H' W' d v
  | _, _, .non => .non
  | _, _, .bl b => .bl b
  | _, _, .int i => .int i
  | _, _, .str y => .str y
  | _, _, .tup h r => .tup (h.mono x) (RDs.mono x r)
  | _, _, .lst h r => .lst (h.mono x) (RDs.mono x r)
  | _, _, .scr h => .scr (h.mono x)
  | _, _, .dct h n l r => .dct (x.keep _ _ h n).1 (x.keep _ _ h n).2 l (RDs.mono x r)
  | _, _, .dtt h n l r => .dtt (x.rd h n).1 (x.rd h n).2 l (RDs.mono x r)
  | _, _, .exn g h n k n' f => .exn g (x.keep _ _ h n).1 (x.keep _ _ h n).2 (x.keep _ _ k n').1 (x.keep _ _ k n').2 f
  | _, _, .key h n => .key (x.keep _ _ h n).1 (x.keep _ _ h n).2
  | _, _, .clo h n k n' r => .clo (x.keep _ _ h n).1 (x.keep _ _ h n).2 (x.keep _ _ k n').1 (x.keep _ _ k n').2 (RDs.mono x r)
  | _, _, .ref (h := h) q => by
    rw [← x.e h q]
    exact .ref (Nat.lt_of_lt_of_le q x.n)
theorem RDs.mono {G : Gm} {H H' : Hp} {W W' : Wd} (x : Le H W H' W') : ∀ {ds : List D} {vs : List V}, RDs G H W ds vs → RDs G H' W' ds vs
  | _, _, .nil => .nil
  | _, _, .cons h r => .cons (RD.mono x h) (RDs.mono x r)
end
section
variable {G : Gm} {H : Hp} {W : Wd}
theorem RDs.length : ∀ {ds : List D} {vs : List V}, RDs G H W ds vs → ds.length = vs.length
  | _, _, .nil => rfl
  | _, _, .cons _ r => by rw [List.length_cons, List.length_cons, r.length]
theorem RDs.get : ∀ {ds : List D} {vs : List V} {i : Nat} {d : D}, RDs G H W ds vs → ds[i]? = some d → ∃ v, vs[i]? = some v ∧ RD G H W d v
  | _, _, _, _, .nil, h => by simp at h
  | _, _, 0, _, .cons h _, e => by
    simp at e
    subst e
    exact ⟨_, rfl, h⟩
  | _, _, i + 1, d, .cons _ r, e => by
    obtain ⟨v, h1, h2⟩ := RDs.get (i := i) (d := d) r (by simpa using e)
    exact ⟨v, by simpa using h1, h2⟩
theorem RDs.getV : ∀ {ds : List D} {vs : List V} {i : Nat} {v : V}, RDs G H W ds vs → vs[i]? = some v → ∃ d, ds[i]? = some d ∧ RD G H W d v
  | _, _, _, _, .nil, h => by simp at h
  | _, _, 0, _, .cons h _, e => by
    simp at e
    subst e
    exact ⟨_, rfl, h⟩
  | _, _, i + 1, d, .cons _ r, e => by
    obtain ⟨v, h1, h2⟩ := RDs.getV (i := i) (v := d) r (by simpa using e)
    exact ⟨v, by simpa using h1, h2⟩
theorem RDs.append : ∀ {ds es : List D} {vs ws : List V}, RDs G H W ds vs → RDs G H W es ws → RDs G H W (ds ++ es) (vs ++ ws)
  | _, _, _, _, .nil, s => s
  | _, _, _, _, .cons h r, s => .cons h (RDs.append r s)
theorem RDs.take : ∀ {ds : List D} {vs : List V} (n : Nat), RDs G H W ds vs → RDs G H W (ds.take n) (vs.take n)
  | _, _, 0, _ => .nil
  | _, _, _ + 1, .nil => .nil
  | _, _, n + 1, .cons h r => .cons h (RDs.take n r)
theorem RDs.drop : ∀ {ds : List D} {vs : List V} (n : Nat), RDs G H W ds vs → RDs G H W (ds.drop n) (vs.drop n)
  | _, _, 0, r => r
  | _, _, _ + 1, .nil => .nil
  | _, _, n + 1, .cons _ r => RDs.drop n r
theorem RDs.set {d : D} {v : V} (q : RD G H W d v) : ∀ {ds : List D} {vs : List V} (n : Nat), RDs G H W ds vs → RDs G H W (ds.set n d) (vs.set n v)
  | _, _, _, .nil => .nil
  | _, _, 0, .cons _ r => .cons q r
  | _, _, n + 1, .cons h r => .cons h (RDs.set q n r)
theorem RDs.one {d : D} {v : V} (q : RD G H W d v) : RDs G H W [d] [v] := .cons q .nil
theorem RDs.reverse {ds : List D} {vs : List V} (r : RDs G H W ds vs) : RDs G H W ds.reverse vs.reverse := by
  induction ds generalizing vs with
  | nil => cases r; exact .nil
  | cons d ds ih => cases r with
    | cons h r => rw [List.reverse_cons, List.reverse_cons]; exact (ih r).append (.one h)
theorem RDs.flat : ∀ (n : Nat) {ds : List D} {vs : List V}, RDs G H W ds vs → RDs G H W (List.replicate n ds).flatten (List.replicate n vs).flatten
  | 0, _, _, _ => .nil
  | n + 1, _, _, r => by
    rw [List.replicate_succ, List.replicate_succ, List.flatten_cons, List.flatten_cons]
    exact r.append (RDs.flat n r)
end
/-- a cell at its handle -/
def CAt (G : Gm) (H : Hp) (W : Wd) (h : Nat) : Cell → Prop
  | .lst ds => ∃ vs, H (W.e h) = some (.lst vs) ∧ RDs G H W ds vs ∧ (h < W.b → belows (W.lim h) ds = true)
  | .dct ks ds => ∃ vs, H (W.e h) = some (.dK (ks.zip vs)) ∧ ks.length = vs.length ∧ RDs G H W ds vs ∧ (h < W.b → belows (W.lim h) ds = true)
  | .dtt ks ds => ∃ vs, H (W.e h) = some (.dT (ks.zip vs)) ∧ ks.length = vs.length ∧ RDs G H W ds vs ∧ (h < W.b → belows (W.lim h) ds = true)
  | .dcf ks ds => ∃ vs, (H (W.e h) = some (W.od h) ∧ ∃ o, W.od h = .frz o (.dK (ks.zip vs))) ∧ ks.length = vs.length ∧ RDs G H W ds vs ∧ (h < W.b → belows (W.lim h) ds = true)
  | .dtf ks ds => ∃ vs, (H (W.e h) = some (W.od h) ∧ ∃ o, W.od h = .frz o (.dT (ks.zip vs))) ∧ ks.length = vs.length ∧ RDs G H W ds vs ∧ (h < W.b → belows (W.lim h) ds = true)
  | .tab x q => (∃ c, PySem.W.tabIn G.K x = some (c, W.e h)) ∧ ∃ ps : Array Value, H (W.e h) = some (.tbl ps) ∧ TriplesOk ps.toList ∧ ∀ (pos : Pos) (cv : Value), codeAmong pos ps.toList = some cv → ∃ c, cv = .ref c ∧ H c = some (LamX.CodeO c q) ∧ ¬ W.im c
  | .ins c fs => ∃ (C dx : Addr) (vs : List V), G.mg c = some (.ref C) ∧ H (W.e h) = some (.ins C dx ((fs.map (·.1)).zip vs)) ∧ H dx = some (.own (W.e h)) ∧ ¬ W.im dx ∧ fs.length = vs.length ∧ RDs G H W (fs.map (·.2)) vs ∧ (h < W.b → belows (W.lim h) (fs.map (·.2)) = true)
structure MR (G : Gm) (H : Hp) (W : Wd) (M : Mem) : Prop where
  len : M.length = W.n
  inj : ∀ h h', h < W.n → h' < W.n → W.e h = W.e h' → h = h'
  bn : W.b ≤ W.n
  lm : ∀ h, h < W.b → W.lim h ≤ W.b
  avt : ∀ a, W.av a → (∃ o, H a = some o ∧ NoTup o) ∧ ∀ h, h < W.n → W.e h ≠ a
  cell : ∀ (h : Nat) (c : Cell), M[h]? = some c → CAt G H W h c
/-- the slots -/
structure SR (G : Gm) (H : Hp) (W : Wd) (s : Slots) (t : L2.St) : Prop where
  len : s.length = t.length
  at_ : ∀ (i : Nat) (d : D), s[i]? = some (some d) → ∃ v, t[i]? = some (some v) ∧ RD G H W d v
section
variable {G : Gm} {H H' : Hp} {W W' : Wd} {M M' : Mem} {s : Slots} {t : L2.St}
theorem SR.mono (x : Le H W H' W') (r : SR G H W s t) : SR G H' W' s t := ⟨r.len, fun i d e => let ⟨v, h1, h2⟩ := r.at_ i d e; ⟨v, h1, h2.mono x⟩⟩
theorem SR.set {d : D} {v : V} (r : SR G H W s t) (q : RD G H W d v) (i : Nat) : SR G H W (s.set i (some d)) (t.set i (some v)) := by
  refine ⟨by simp [r.len], fun j d' e => ?_⟩
  by_cases hj : i = j
  · subst hj
    by_cases hl : i < s.length
    · rw [List.getElem?_set_self hl] at e
      cases e
      exact ⟨v, List.getElem?_set_self (by rw [← r.len]; exact hl), q⟩
    · rw [List.getElem?_eq_none (by simpa using hl)] at e
      cases e
  · rw [List.getElem?_set_ne hj] at e
    rw [List.getElem?_set_ne hj]
    exact r.at_ j d' e
theorem CAt.tracked {h : Nat} {c : Cell} (q : CAt G H W h c) : ∃ o, H (W.e h) = some o := by
  cases c with
  | lst ds => obtain ⟨vs, e, _⟩ := q; exact ⟨_, e⟩
  | dct ks ds => obtain ⟨vs, e, _⟩ := q; exact ⟨_, e⟩
  | dtt ks ds => obtain ⟨vs, e, _⟩ := q; exact ⟨_, e⟩
  | dcf ks ds => obtain ⟨vs, e, _⟩ := q; exact ⟨_, e.1⟩
  | dtf ks ds => obtain ⟨vs, e, _⟩ := q; exact ⟨_, e.1⟩
  | tab P y => obtain ⟨_, ps, e, _⟩ := q; exact ⟨_, e⟩
  | ins c fs => obtain ⟨C, dx, vs, _, e, _⟩ := q; exact ⟨_, e⟩
theorem MR.tracked (m : MR G H W M) {h : Nat} (q : h < W.n) : ∃ o, H (W.e h) = some o := by
  have : h < M.length := by rw [m.len]; exact q
  exact (m.cell h M[h] (by simp [this])).tracked
theorem MR.fresh (m : MR G H W M) {p : Addr} (hp : H p = none) : ¬ W.im p := fun h => by
  rcases h with h | ⟨h, q, e⟩
  · obtain ⟨⟨o, ho, _⟩, _⟩ := m.avt p h
    rw [hp] at ho
    cases ho
  · obtain ⟨o, ho⟩ := m.tracked q
    rw [e, hp] at ho
    cases ho
/-- a new object -/
theorem MR.xnew (m : MR G H W M) {p : Addr} {o : HO} (hp : H p = none) : Ext H W (upd H p o) W :=
  ⟨⟨Nat.le_refl _, fun _ _ => rfl, fun a u h n => ⟨by rw [upd_ne (ne_of_none h hp)]; exact h, n⟩⟩, rfl, rfl, rfl, fun a h => upd_ne fun e => by
    subst e
    exact m.fresh hp (.inl h)⟩
theorem CAt.mono (x : Le H W H' W') (xb : W'.b = W.b) (xl : W'.lim = W.lim) {h : Nat} {c : Cell} (hn : h < W.n) (he : H' (W.e h) = H (W.e h)) (q : CAt G H W h c) : CAt G H' W' h c := by
  have e1 : W'.e h = W.e h := x.e h hn
  have e2 : W'.od h = W.od h := x.od h hn
  cases c with
  | lst ds => obtain ⟨vs, e, r, l⟩ := q; exact ⟨vs, by rw [e1, he]; exact e, r.mono x, by rw [xb, xl]; exact l⟩
  | dct ks ds => obtain ⟨vs, e, z, r, l⟩ := q; exact ⟨vs, by rw [e1, he]; exact e, z, r.mono x, by rw [xb, xl]; exact l⟩
  | dtt ks ds => obtain ⟨vs, e, z, r, l⟩ := q; exact ⟨vs, by rw [e1, he]; exact e, z, r.mono x, by rw [xb, xl]; exact l⟩
  | dcf ks ds => obtain ⟨vs, e, z, r, l⟩ := q; exact ⟨vs, by rw [e1, he, e2]; exact e, z, r.mono x, by rw [xb, xl]; exact l⟩
  | dtf ks ds => obtain ⟨vs, e, z, r, l⟩ := q; exact ⟨vs, by rw [e1, he, e2]; exact e, z, r.mono x, by rw [xb, xl]; exact l⟩
  | tab P y =>
    obtain ⟨u, ps, e, t, r⟩ := q
    exact ⟨by rw [e1]; exact u, ps, by rw [e1, he]; exact e, t, fun pos cv hc => let ⟨c, h1, h2, h3⟩ := r pos cv hc; ⟨c, h1, (x.keep _ _ h2 h3).1, (x.keep _ _ h2 h3).2⟩⟩
  | ins c fs => obtain ⟨C, dx, vs, g, e, d, dn, z, r, l⟩ := q; exact ⟨C, dx, vs, g, by rw [e1, he]; exact e, by rw [e1]; exact (x.keep _ _ d dn).1, (x.keep _ _ d dn).2, z, r.mono x, by rw [xb, xl]; exact l⟩
theorem lt_of_get {α : Type} {l : List α} {i : Nat} {a : α} (h : l[i]? = some a) : i < l.length := (List.getElem?_eq_some_iff.mp h).1
theorem MR.same (m : MR G H W M) (x : Ext H W H' W) (k : ∀ h, h < W.n → H' (W.e h) = H (W.e h)) : MR G H' W M :=
  ⟨m.len, m.inj, m.bn, m.lm, fun a h => ⟨by rw [x.avk a h]; exact (m.avt a h).1, (m.avt a h).2⟩, fun h c e => (m.cell h c e).mono x.toLe rfl rfl (by rw [← m.len]; exact lt_of_get e) (k h (by rw [← m.len]; exact lt_of_get e))⟩
theorem MR.new (m : MR G H W M) {p : Addr} {o : HO} (hp : H p = none) : MR G (upd H p o) W M :=
  m.same (m.xnew hp) fun h q => upd_ne fun e => m.fresh hp (.inr ⟨h, q, e⟩)
/-- a new handle: at p, a thing that nothing tells of yet -/
def Wd.add (W : Wd) (p : Addr) : Wd := { W with p := fun h => if h = W.n then (p, .own p) else W.p h, n := W.n + 1 }
theorem Wd.add_e {p : Addr} {h : Nat} (q : h < W.n) : (W.add p).e h = W.e h := by
  show (if h = W.n then (p, .own p) else W.p h).1 = _
  rw [if_neg (Nat.ne_of_lt q)]
theorem Wd.add_p {p : Addr} {h : Nat} (q : h < W.n) : (W.add p).p h = W.p h := by
  show (if h = W.n then (p, .own p) else W.p h) = _
  rw [if_neg (Nat.ne_of_lt q)]
theorem Wd.add_n {p : Addr} : (W.add p).e W.n = p := by
  show (if W.n = W.n then (p, .own p) else W.p W.n).1 = _
  rw [if_pos rfl]
theorem Wd.add_im {p a : Addr} (h : ¬ W.im a) (hp : a ≠ p) : ¬ (W.add p).im a := by
  rintro (z | ⟨k, q, e⟩)
  · exact h (.inl z)
  · by_cases hk : k = W.n
    · rw [hk, Wd.add_n] at e
      exact hp e.symm
    · have q' : k < W.n := by
        have : k < W.n + 1 := q
        omega
      rw [Wd.add_e q'] at e
      exact h (.inr ⟨k, q', e⟩)
/-- p is no claim's -/
def Wd.avo (W : Wd) (p : Addr) : Wd := { W with av := fun a => a = p ∨ W.av a }
theorem Wd.avo_im {p a : Addr} : (W.avo p).im a ↔ a = p ∨ W.im a := by
  constructor
  · rintro ((h | h) | h)
    · exact .inl h
    · exact .inr (.inl h)
    · exact .inr (.inr h)
  · rintro (h | h | h)
    · exact .inl (.inl h)
    · exact .inl (.inr h)
    · exact .inr h
/-- a new object that is to be avoided -/
theorem MR.avo_new (m : MR G H W M) {p : Addr} {o : HO} (hp : H p = none) : Le H W (upd H p o) (W.avo p) :=
  ⟨Nat.le_refl _, fun _ _ => rfl, fun a u h n => ⟨by rw [upd_ne (ne_of_none h hp)]; exact h, fun z => (Wd.avo_im.mp z).elim (fun e => ne_of_none h hp e) n⟩⟩
theorem MR.avo (m : MR G H W M) {p : Addr} {o : HO} (hp : H p = none) (nt : NoTup o := by intro _ h; cases h) : MR G (upd H p o) (W.avo p) M :=
  ⟨m.len, m.inj, m.bn, m.lm, fun a h => by
    rcases h with rfl | h
    · exact ⟨⟨o, upd_same, nt⟩, fun h q e => m.fresh hp (.inr ⟨h, q, e⟩)⟩
    · have : a ≠ p := fun e => m.fresh hp (.inl (e ▸ h))
      exact ⟨by rw [upd_ne this]; exact (m.avt a h).1, (m.avt a h).2⟩,
   fun h c e => (m.cell h c e).mono (m.avo_new hp) rfl rfl (by rw [← m.len]; exact lt_of_get e) (upd_ne fun z => m.fresh hp (.inr ⟨h, by rw [← m.len]; exact lt_of_get e, z⟩))⟩
/-- the avoided one is let in again -/
theorem Le.unavo {p : Addr} : Le H (W.avo p) H W := ⟨Nat.le_refl _, fun _ _ => rfl, fun a o h n => ⟨h, fun z => n (Wd.avo_im.mpr (.inr z))⟩⟩
theorem MR.unavo {p : Addr} (m : MR G H (W.avo p) M) : MR G H W M :=
  ⟨m.len, m.inj, m.bn, m.lm, fun a h => m.avt a (.inr h), fun h c e => (m.cell h c e).mono .unavo rfl rfl (by rw [← m.len]; exact lt_of_get e) rfl⟩
/-- .. as a handle -/
theorem Le.avo_add {p : Addr} : Le H (W.avo p) H (W.add p) := ⟨Nat.le_succ _, fun h q => Wd.add_p q, fun a o h n => ⟨h, Wd.add_im (fun z => n (Wd.avo_im.mpr (.inr z))) fun e => n (Wd.avo_im.mpr (.inl e))⟩⟩
theorem Ext.add {p : Addr} (x : Ext H W H' W') (hp : H p = none) : Ext H W H' (W'.add p) :=
  ⟨⟨Nat.le_succ_of_le x.n, fun h q => by rw [Wd.add_p (Nat.lt_of_lt_of_le q x.n)]; exact x.pe h q, fun a o h n => ⟨(x.keep a o h n).1, Wd.add_im (x.keep a o h n).2 (ne_of_none h hp)⟩⟩, x.b, x.lim, x.av, x.avk⟩
/-- the list at p becomes the newest handle -/
theorem MR.add_lst {p : Addr} {xs : List D} {vs : List V} (m : MR G H (W.avo p) M) (hp : ¬ W.av p) (r : RDs G H (W.avo p) xs vs) (hl : H p = some (.lst vs)) : MR G H (W.add p) (M ++ [.lst xs]) := by
  have hn : ∀ h, h < W.n → W.e h ≠ p := (m.avt p (.inl rfl)).2
  have ml : M.length = W.n := m.len
  have bn : W.b ≤ W.n := m.bn
  refine ⟨by rw [List.length_append, ml]; rfl, fun h h' q q' e => ?_, Nat.le_succ_of_le m.bn, m.lm, fun a h => ⟨(m.avt a (.inr h)).1, fun k q e => ?_⟩, fun h c e => ?_⟩
  · have q1 : h < W.n + 1 := q
    have q2 : h' < W.n + 1 := q'
    by_cases h1 : h = W.n
    · by_cases h2 : h' = W.n
      · omega
      · rw [h1, Wd.add_n, Wd.add_e (by omega)] at e
        exact absurd e.symm (hn h' (by omega))
    · by_cases h2 : h' = W.n
      · rw [h2, Wd.add_n, Wd.add_e (by omega)] at e
        exact absurd e (hn h (by omega))
      · rw [Wd.add_e (by omega), Wd.add_e (by omega)] at e
        exact m.inj h h' (by show h < W.n; omega) (by show h' < W.n; omega) e
  · have q1 : k < W.n + 1 := q
    by_cases h1 : k = W.n
    · rw [h1, Wd.add_n] at e
      exact hp (e ▸ h)
    · rw [Wd.add_e (by omega)] at e
      exact (m.avt a (.inr h)).2 k (by show k < W.n; omega) e
  · by_cases hh : h < M.length
    · rw [List.getElem?_append_left hh] at e
      exact (m.cell h c e).mono .avo_add rfl rfl (by show h < W.n; omega) rfl
    · have h2 : h = M.length := by
        have := lt_of_get e
        rw [List.length_append] at this
        simp at this
        omega
      rw [h2, List.getElem?_append_right (Nat.le_refl _), Nat.sub_self] at e
      simp at e
      subst e
      refine ⟨vs, ?_, r.mono .avo_add, fun z => ?_⟩
      · rw [h2, ml, Wd.add_n]
        exact hl
      · have z' : h < W.b := z
        omega
end
end LW
namespace LW
open PySem PySem.Spec PyProof.Rows L2
abbrev gm (X : Cx) : Gm := ⟨X.K, X.mg⟩
/-- what is wanted behind a result -/
def Post (G : Gm) (Z : WX) (t : L2.St) (H : Hp) (W : Wd) {α : Type} (r : R α) (Q : α → Mem → Wd → Hp → Prop) : Prop := match r with
  | .ok a M' => ∀ W' H', Ext H W H' W' → MR G H' W' M' → Q a M' W' H'
  | .exc c d M' => ∀ (W' : Wd) (H' : Hp) (C dd : Addr) (v : V), Ext H W H' W' → MR G H' W' M' → RD G H' W' d v → G.mg c = some (.ref C) → H' dd = some (.xd [("what", v)]) → ¬ W'.im dd → Z (.ref C) (some dd) t H'
  | .bad => False
section
variable {G : Gm} {Z : WX} {t : L2.St} {H H1 : Hp} {W W1 : Wd} {α β : Type} {r : R α} {Q Q' : α → Mem → Wd → Hp → Prop}
theorem Post.imp (p : Post G Z t H W r Q) (h : ∀ a M' W' H', Ext H W H' W' → MR G H' W' M' → Q a M' W' H' → Q' a M' W' H') : Post G Z t H W r Q' := by
  cases r with
  | ok a M => exact fun W' H' x m => h a M W' H' x m (p W' H' x m)
  | exc c d M => exact p
  | bad => exact p
theorem Post.ext (p : Post G Z t H W r Q) (x : Ext H W H1 W1) : Post G Z t H1 W1 r Q := by
  cases r with
  | ok a M => exact fun W' H' y m => p W' H' (x.trans y) m
  | exc c d M => exact fun W' H' C dd v y m => p W' H' C dd v (x.trans y) m
  | bad => exact p
theorem Post.bind {k : α → Mem → R β} {Q : β → Mem → Wd → Hp → Prop} (p : Post G Z t H W (r.bind k) Q) : Post G Z t H W r fun a M1 W1 H1 => Post G Z t H1 W1 (k a M1) Q := by
  cases r with
  | ok a M => exact fun W' H' x m => Post.ext (r := k a M) p x
  | exc c d M => exact p
  | bad => exact p
/-- the memory and the heap as they are -/
theorem Post.here {a : α} {M : Mem} (p : Post G Z t H W (.ok a M) Q) (m : MR G H W M) : Q a M W H := p W H (.refl _ _) m
end
def liftE (G : Gm) (Z : WX) (f : ES) : TE := fun t H Q => ∃ W s M, MR G H W M ∧ SR G H W s t ∧ Post G Z t H W (f W.b s M) fun d _ W' H' => ∀ v, RD G H' W' d v → Q v H'
def liftT (G : Gm) (Z : WX) (f : ET) : TT := fun t H Q => ∃ W s M, MR G H W M ∧ SR G H W s t ∧ Post G Z t H W (f W.b s M) fun k _ _ H' => Q k H'
def liftA (G : Gm) (Z : WX) (f : EA) : TA := fun t H Q => ∃ W s M, MR G H W M ∧ SR G H W s t ∧ Post G Z t H W (f W.b s M) fun ds _ W' H' => ∀ vs, RDs G H' W' ds vs → Q vs H'
/-- a fresh list: nothing tells of it yet -/
def PostN (G : Gm) (Z : WX) (t : L2.St) (H : Hp) (W : Wd) (r : R (List D)) (Q : VK) : Prop := match r with
  | .ok ds M' => ∀ (W' : Wd) (H' : Hp) (p : Addr) (vs : List V), Ext H W H' W' → MR G H' (W'.avo p) M' → RDs G H' (W'.avo p) ds vs → H p = none → ¬ W'.im p → H' p = some (.lst vs) → Q (.ref p) H'
  | .exc c d M' => ∀ (W' : Wd) (H' : Hp) (C dd : Addr) (v : V), Ext H W H' W' → MR G H' W' M' → RD G H' W' d v → G.mg c = some (.ref C) → H' dd = some (.xd [("what", v)]) → ¬ W'.im dd → Z (.ref C) (some dd) t H'
  | .bad => False
theorem PostN.ext {G : Gm} {Z : WX} {t : L2.St} {H H1 : Hp} {W W1 : Wd} {M M1 : Mem} {r : R (List D)} {Q : VK} (p : PostN G Z t H W r Q) (x : Ext H W H1 W1) (hf : ∀ a, H1 a = none → H a = none) : PostN G Z t H1 W1 r Q := by
  cases r with
  | ok a M => exact fun W' H' q vs y m rd hq => p W' H' q vs (x.trans y) m rd (hf q hq)
  | exc c d M => exact fun W' H' C dd v y m => p W' H' C dd v (x.trans y) m
  | bad => exact p
def liftN (G : Gm) (Z : WX) (f : EN) : TE := fun t H Q => ∃ W s M, MR G H W M ∧ SR G H W s t ∧ PostN G Z t H W (f W.b s M) Q
abbrev SE (X : Cx) (Z : WX) (e : Expr) (f : ES) : Prop := PE X e (liftE (gm X) Z f)
abbrev ST (X : Cx) (Z : WX) (e : Expr) (f : ET) : Prop := PT X e (liftT (gm X) Z f)
abbrev SA (X : Cx) (Z : WX) (es : List Expr) (f : EA) : Prop := PA X es (liftA (gm X) Z f)
abbrev SN (X : Cx) (Z : WX) (e : Expr) (f : EN) : Prop := PE X e (liftN (gm X) Z f)
theorem _root_.L2.PE.weak {X : Cx} {e : Expr} {t t' : TE} (h : PE X e t) (w : ∀ σ H Q, t' σ H Q → t σ H Q) : PE X e t' := ⟨fun pins s σ H Q I q => h.run pins s σ H Q I (w σ H Q q)⟩
theorem _root_.L2.PT.weak {X : Cx} {e : Expr} {t t' : TT} (h : PT X e t) (w : ∀ σ H Q, t' σ H Q → t σ H Q) : PT X e t' := ⟨fun pins s σ H Q I q => h.run pins s σ H Q I (w σ H Q q)⟩
theorem _root_.L2.PW.weak {X : Cx} {e : Expr} {t t' : TT} (h : PW X e t) (w : ∀ σ H Q, t' σ H Q → t σ H Q) : PW X e t' := ⟨fun wh pins s σ H Q I q => h.run wh pins s σ H Q I (w σ H Q q)⟩
theorem _root_.L2.PA.weak {X : Cx} {e : List Expr} {t t' : TA} (h : PA X e t) (w : ∀ σ H Q, t' σ H Q → t σ H Q) : PA X e t' := ⟨fun pos pins s σ H Q I q => h.run pos pins s σ H Q I (w σ H Q q)⟩
section
variable {X : Cx} {Z : WX} {pos : Pos}
theorem se_var (i : Nat) {x : Str} (h : PE X (.Name x pos) (tVar i)) : SE X Z (.Name x pos) (eVar i) := h.weak fun σ H Q ⟨W, s, M, m, sr, p⟩ => by
  show ∃ v, σ[i]? = some (some v) ∧ Q v H
  have e : eVar i W.b s M = match s[i]? with | some (some d) => .ok d M | _ => .bad := rfl
  rw [e] at p
  cases q : s[i]? with
  | none => rw [q] at p; exact p.elim
  | some o =>
    cases o with
    | none => rw [q] at p; exact p.elim
    | some d =>
      rw [q] at p
      obtain ⟨v, hv, rd⟩ := sr.at_ i d q
      exact ⟨v, hv, p.here m v rd⟩
theorem sv (i : Nat) {x : Str} (hN : X.N[i]? = some x := by rfl) (hv : Vis X.env.scope x := by first | exact Or.inl rfl | exact Or.inr (Or.inl rfl) | exact Or.inr (Or.inr rfl)) (hd : (x == ("__debug__" : Str)) = false := by decide)
    (hcd : (x == ("__classdict__" : Str)) = false := by decide) : SE X Z (.Name x pos) (eVar i) := se_var i (pe_var hN hv hd hcd)
theorem se_const {e : Expr} {d : D} {v : V} (h : PE X e (tC v)) (r : ∀ H W, RD (gm X) H W d v) : SE X Z e (eC d) := h.weak fun σ H Q ⟨W, s, M, m, sr, p⟩ => p.here m v (r H W)
theorem se_int {i : Int} {j : Nat} : SE X Z (.Constant (.int i) j pos) (eC (.int i)) := se_const pe_int fun _ _ => .int i
theorem se_bl {i : Bool} {j : Nat} : SE X Z (.Constant (.bool i) j pos) (eC (.bl i)) := se_const pe_bl fun _ _ => .bl i
theorem se_non {j : Nat} : SE X Z (.Constant .none j pos) (eC .non) := se_const pe_non fun _ _ => .non
theorem se_str {x : Str} {j : Nat} : SE X Z (.Constant (.str x) j pos) (eC (.str x)) := se_const pe_str fun _ _ => .str x
def BinV (G : Gm) (r : R2) (o : D → D → Mem → R D) : Prop := ∀ (x y : D) (M : Mem) (W : Wd) (H : Hp) (v w : V) (Z : WX) (t : L2.St) (Q : VK), MR G H W M → RD G H W x v → RD G H W y w →
  Post G Z t H W (o x y M) (fun d _ W' H' => ∀ u, RD G H' W' d u → Q u H') → r v w H Q
def UnV (G : Gm) (r : V → Hp → VK → Prop) (o : D → Mem → R D) : Prop := ∀ (x : D) (M : Mem) (W : Wd) (H : Hp) (v : V) (Z : WX) (t : L2.St) (Q : VK), MR G H W M → RD G H W x v →
  Post G Z t H W (o x M) (fun d _ W' H' => ∀ u, RD G H' W' d u → Q u H') → r v H Q
def FnV (G : Gm) (r : List V → Hp → VK → Prop) (o : List D → Mem → R D) : Prop := ∀ (xs : List D) (M : Mem) (W : Wd) (H : Hp) (vs : List V) (Z : WX) (t : L2.St) (Q : VK), MR G H W M → RDs G H W xs vs →
  Post G Z t H W (o xs M) (fun d _ W' H' => ∀ u, RD G H' W' d u → Q u H') → r vs H Q
variable {a b c : Expr} {f g h : ES} {o o' : D → D → Mem → R D} {r r' : R2}
theorem lift_bin {σ : L2.St} {H : Hp} {Q : VK} {r : R2} (hv : BinV (gm X) r o) (q : liftE (gm X) Z (eBin o f g) σ H Q) : tOp r (liftE (gm X) Z f) (liftE (gm X) Z g) σ H Q := by
  obtain ⟨W, s, M, m, sr, p⟩ := q
  refine ⟨W, s, M, m, sr, (Post.bind p).imp fun x M1 W1 H1 x1 m1 p1 v rv => ?_⟩
  refine ⟨W1, s, M1, m1, sr.mono x1.toLe, ?_⟩
  rw [x1.b]
  exact (Post.bind p1).imp fun y M2 W2 H2 x2 m2 p2 w rw' => hv x y M2 W2 H2 v w Z σ Q m2 (rv.mono x2.toLe) rw' p2
theorem se_bin {op : Operator} (ho : OpR X (binaryOp op) r) (hv : BinV (gm X) r o) (ha : SE X Z a f) (hb : SE X Z b g) : SE X Z (.BinOp a op b pos) (eBin o f g) :=
  (pe_op ho ha hb).weak fun _ _ _ q => lift_bin hv q
theorem se_cmp {op : CmpOp} (ho : OpR X (compareOp op) r) (hv : BinV (gm X) r o) (ha : SE X Z a f) (hb : SE X Z b g) (hm : behindInMarks op b = false := by first | exact nomark _ | rfl) : SE X Z (.Compare a [op] [b] pos) (eBin o f g) :=
  (pe_cmpR ho ha hb hm).weak fun _ _ _ q => lift_bin hv q
theorem lift_tval {σ : L2.St} {H : Hp} {Q : Bool → Hp → Prop} (q : liftT (gm X) Z (tVal f) σ H Q) : liftE (gm X) Z f σ H fun x H1 => ∃ k, x = .bl k ∧ Q k H1 := by
  obtain ⟨W, s, M, m, sr, p⟩ := q
  refine ⟨W, s, M, m, sr, (Post.bind p).imp fun x M1 W1 H1 x1 m1 p1 v rv => ?_⟩
  cases rv with
  | bl k => exact ⟨k, rfl, Post.here (a := k) p1 m1⟩
  | _ => exact (show False from p1).elim
theorem st_cmp {op : CmpOp} (ho : OpR X (compareOp op) r) (hv : BinV (gm X) r o) (ha : SE X Z a f) (hb : SE X Z b g) (hm : behindInMarks op b = false := by first | exact nomark _ | rfl) : ST X Z (.Compare a [op] [b] pos) (tVal (eBin o f g)) := by
  refine (pt_cmpR ho ha hb hm).weak fun σ H Q q => ?_
  have q1 := lift_tval q
  exact lift_bin (Q := fun x H1 => ∃ k, x = .bl k ∧ Q k H1) hv q1
theorem st_val {e : Expr} (h : SE X Z e f) (he : ∀ whole, isTrue e X.env whole = (do let v ← whole; standAt e.pos; holding [v] (truthy v)) := by intro _; rfl) : ST X Z e (tVal f) :=
  (pt_val h he).weak fun _ _ _ q => lift_tval q
theorem se_un {op : UnaryOp} {r : V → Hp → VK → Prop} {o : D → Mem → R D} (ho : UnR X (unaryOp op) r) (hv : UnV (gm X) r o) (ha : SE X Z a f) : SE X Z (.UnaryOp op a pos) (eUn o f) := by
  refine (pe_un ho ha).weak fun σ H Q ⟨W, s, M, m, sr, p⟩ => ?_
  exact ⟨W, s, M, m, sr, (Post.bind p).imp fun x M1 W1 H1 x1 m1 p1 v rv => hv x M1 W1 H1 v Z σ Q m1 rv p1⟩
theorem se_neg (ha : SE X Z a f) : SE X Z (.UnaryOp .USub a pos) (eUn oNeg f) := se_un un_neg (fun x M W H v Z t Q m rv p => by
  cases rv with
  | int i => exact ⟨i, rfl, Post.here (a := D.int (-i)) p m _ (.int _)⟩
  | _ => exact (show False from p).elim) ha
theorem se_and {rest : List Expr} (ha : SE X Z a f) (hb : SE X Z (.BoolOp .And (b :: rest) pos) g) : SE X Z (.BoolOp .And (a :: b :: rest) pos) (eAnd f g) := by
  refine (pe_and ha hb).weak fun σ H Q ⟨W, s, M, m, sr, p⟩ => ?_
  refine ⟨W, s, M, m, sr, (Post.bind p).imp fun x M1 W1 H1 x1 m1 p1 v rv => ?_⟩
  cases rv with
  | bl k =>
    refine ⟨k, rfl, ?_⟩
    cases k with
    | true =>
      refine ⟨W1, s, M1, m1, sr.mono x1.toLe, ?_⟩
      rw [x1.b]
      exact p1
    | false => exact Post.here (a := D.bl false) p1 m1 _ (.bl _)
  | _ => exact (show False from p1).elim
theorem se_one {op} (ha : SE X Z a f) : SE X Z (.BoolOp op [a] pos) f := pe_one ha
variable {u w : ET}
theorem se_if (hc : ST X Z c u) (ha : SE X Z a f) (hb : SE X Z b g) : SE X Z (.IfExp c a b pos) (eIf u f g) := by
  refine (pe_ifExp hc ha hb).weak fun σ H Q ⟨W, s, M, m, sr, p⟩ => ?_
  refine ⟨W, s, M, m, sr, (Post.bind p).imp fun k M1 W1 H1 x1 m1 p1 => ?_⟩
  have bb : W.b = W1.b := x1.b.symm
  cases k with
  | true => exact ⟨W1, s, M1, m1, sr.mono x1.toLe, by rw [x1.b]; exact p1⟩
  | false => exact ⟨W1, s, M1, m1, sr.mono x1.toLe, by rw [x1.b]; exact p1⟩
theorem st_not (ha : ST X Z a u) : ST X Z (.UnaryOp .Not a pos) (tNot u) := by
  refine (pt_not ha).weak fun σ H Q ⟨W, s, M, m, sr, p⟩ => ?_
  exact ⟨W, s, M, m, sr, (Post.bind p).imp fun k M1 W1 H1 x1 m1 p1 => Post.here (a := !k) p1 m1⟩
/-- a test whatever its whole is -/
abbrev SW (X : Cx) (Z : WX) (e : Expr) (f : ET) : Prop := PW X e (liftT (gm X) Z f)
theorem SW.st {e : Expr} (h : SW X Z e u) : ST X Z e u := PW.pt h
theorem sw_or1 (ha : ST X Z a u) : SW X Z (.BoolOp .Or [a] pos) u := pw_or1 ha
theorem sw_or {rest : List Expr} (ha : ST X Z a u) (hb : SW X Z (.BoolOp .Or (b :: rest) pos) w) : SW X Z (.BoolOp .Or (a :: b :: rest) pos) (tOr u w) := by
  refine (pw_or ha hb).weak fun σ H Q ⟨W, s, M, m, sr, p⟩ => ?_
  refine ⟨W, s, M, m, sr, (Post.bind p).imp fun k M1 W1 H1 x1 m1 p1 => ?_⟩
  cases k with
  | false => exact ⟨W1, s, M1, m1, sr.mono x1.toLe, by rw [x1.b]; exact p1⟩
  | true => exact Post.here (a := true) p1 m1
end
end LW
namespace LW
open PySem PySem.Spec PyProof.Rows L2
section
variable {G : Gm} {H : Hp} {W : Wd} {M : Mem} {x : D} {v : V} {xs : List D}
theorem lst_read (m : MR G H W M) (e : lstOf M x = some xs) (rv : RD G H W x v) : ∃ a vs, v = .ref a ∧ H a = some (.lst vs) ∧ RDs G H W xs vs := by
  cases rv with
  | lst h r =>
    have e' : some _ = some xs := e
    cases e'
    exact ⟨_, _, rfl, h.1, r⟩
  | ref q =>
    rename_i h
    have e' : (match M[h]? with | some (.lst xs) => some xs | _ => none) = some xs := e
    cases c : M[h]? with
    | none => rw [c] at e'; cases e'
    | some k =>
      rw [c] at e'
      cases k with
      | lst ds =>
        cases e'
        obtain ⟨vs, h1, h2, _⟩ := m.cell h _ c
        exact ⟨_, vs, rfl, h1, h2⟩
      | _ => cases e'
  | _ => cases e
theorem seq_read (m : MR G H W M) (e : seqOf M x = some xs) (rv : RD G H W x v) : ∃ a vs, v = .ref a ∧ (SqL G.K H a vs ∨ SqT G.K H a vs) ∧ RDs G H W xs vs := by
  have rints : ∀ ns : List Int, RDs G H W (ns.map D.int) (ns.map V.int) := fun ns => by
    induction ns with
    | nil => exact .nil
    | cons n ns ih => exact .cons (.int n) ih
  cases rv with
  | tup h r =>
    have e' : some _ = some xs := e
    cases e'
    exact ⟨_, _, rfl, .inr h.sq, r⟩
  | scr h =>
    have e' : some _ = some xs := e
    cases e'
    exact ⟨_, _, rfl, .inl h.sq, rints _⟩
  | lst h r =>
    have e' : some _ = some xs := e
    cases e'
    exact ⟨_, _, rfl, .inl h.sq, r⟩
  | ref q =>
    obtain ⟨a, vs, h1, h2, h3⟩ := lst_read (xs := xs) m (show lstOf M (D.ref _) = some xs from e) (.ref q)
    exact ⟨a, vs, h1, .inl (.of h2), h3⟩
  | _ => cases e
/-- a list (or the script), no tuple -/
theorem seq_readL (m : MR G H W M) (e : seqOf M x = some xs) (nt : ∀ ys, x ≠ .tup ys) (rv : RD G H W x v) : ∃ a vs, v = .ref a ∧ SqL G.K H a vs ∧ RDs G H W xs vs := by
  have rints : ∀ ns : List Int, RDs G H W (ns.map D.int) (ns.map V.int) := fun ns => by
    induction ns with
    | nil => exact .nil
    | cons n ns ih => exact .cons (.int n) ih
  cases rv with
  | tup h r => exact absurd rfl (nt _)
  | scr h =>
    have e' : some _ = some xs := e
    cases e'
    exact ⟨_, _, rfl, h.sq, rints _⟩
  | lst h r =>
    have e' : some _ = some xs := e
    cases e'
    exact ⟨_, _, rfl, h.sq, r⟩
  | ref q =>
    obtain ⟨a, vs, h1, h2, h3⟩ := lst_read (xs := xs) m (show lstOf M (D.ref _) = some xs from e) (.ref q)
    exact ⟨a, vs, h1, .of h2, h3⟩
  | _ => cases e
end
theorem line_le {n : Nat} (h : n ≤ 1000000) : n ≤ sizeLine := Nat.le_trans h (by rw [sizeLine_eq]; decide)
section
variable {X : Cx} {Z : WX} {pos : Pos} {a b c : Expr} {f g h : ES}
/-- a new tuple, a new list, as results -/
theorem new_tup {G : Gm} {H : Hp} {W : Wd} {M : Mem} {t : L2.St} {xs : List D} {vs : List V} {Q : VK} {p : Addr} (m : MR G H W M) (po : Post G Z t H W (.ok (D.tup xs) M) (fun d _ W' H' => ∀ u, RD G H' W' d u → Q u H')) (r : RDs G H W xs vs) (hp : H p = none) :
    Q (.ref p) (upd H p (.tup vs)) := po W _ (m.xnew hp) (m.new hp) _ (.tup (.inl ⟨.inl upd_same, m.fresh hp⟩) (r.mono (m.xnew hp).toLe))
theorem new_lst {G : Gm} {H : Hp} {W : Wd} {M : Mem} {t : L2.St} {xs : List D} {vs : List V} {Q : VK} {p : Addr} (m : MR G H W M) (po : Post G Z t H W (.ok (D.lst xs) M) (fun d _ W' H' => ∀ u, RD G H' W' d u → Q u H')) (r : RDs G H W xs vs) (hp : H p = none) :
    Q (.ref p) (upd H p (.lst vs)) := po W _ (m.xnew hp) (m.new hp) _ (.lst ⟨upd_same, m.fresh hp⟩ (r.mono (m.xnew hp).toLe))
def rAddU (K : PySem.W.Frag) : R2 := fun x y H Q => ((∃ i j, x = .int i ∧ y = .int j ∧ Q (.int (i + j)) H) ∨ (∃ i j, x = .str i ∧ y = .str j ∧ i.length + j.length ≤ sizeLine ∧ Q (.str (i ++ j)) H)) ∨ (rCatA K x y H Q ∨ rCat x y H Q)
theorem op_addU : OpR X (binaryOp .Add) (rAddU X.K) := (op_add.or op_add_str).or (op_catA.or op_cat)
theorem bv_add {G : Gm} : BinV G (rAddU G.K) oAdd := by
  intro x y M W H v w Z t Q m rv rw' p
  have lists : ∀ xs ys, lstOf M x = some xs → lstOf M y = some ys → Post G Z t H W (if xs.length + ys.length ≤ 1000000 then R.ok (D.lst (xs ++ ys)) M else .bad) (fun d _ W' H' => ∀ u, RD G H' W' d u → Q u H') → rAddU G.K v w H Q := by
    intro xs ys ex ey p
    obtain ⟨a1, vs, rfl, h1, r1⟩ := lst_read m ex rv
    obtain ⟨a2, ws, rfl, h2, r2⟩ := lst_read m ey rw'
    split at p
    · rename_i hz
      exact .inr (.inr ⟨a1, a2, vs, ws, rfl, rfl, h1, h2, line_le (by rw [← r1.length, ← r2.length]; exact hz), fun q hq => new_lst m p (r1.append r2) hq⟩)
    · exact p.elim
  unfold oAdd at p
  split at p
  · cases rv; cases rw'
    exact .inl (.inl ⟨_, _, rfl, rfl, p.here m _ (.int _)⟩)
  · cases rv; cases rw'
    split at p
    · rename_i hz
      exact .inl (.inr ⟨_, _, rfl, rfl, line_le hz, p.here m _ (.str _)⟩)
    · exact p.elim
  · rename_i xs ys
    cases rv with
    | tup h1 r1 =>
      cases rw' with
      | tup h2 r2 =>
        split at p
        · rename_i hz
          refine .inr (.inl ⟨_, _, _, _, rfl, rfl, h1.sq, h2.sq, line_le (by rw [← r1.length, ← r2.length]; exact hz), fun e => ?_, fun e1 e2 => ?_, fun e1 e2 q hq => new_tup m p (r1.append r2) hq⟩)
          · subst e
            cases r1
            exact p.here m _ (.tup h2 r2)
          · subst e2
            cases r2
            rw [List.append_nil] at p
            exact p.here m _ (.tup h1 r1)
        · exact p.elim
  · split at p
    · rename_i xs ys ex ey
      exact lists xs ys ex ey p
    · exact p.elim
theorem se_add (ha : SE X Z a f) (hb : SE X Z b g) : SE X Z (.BinOp a .Add b pos) (eBin oAdd f g) := se_bin op_addU bv_add ha hb
theorem bv_int {G : Gm} {C : Int → Int → Prop} {g : Int → Int → Int} {o : D → D → Mem → R D} (h : ∀ x y M, (∃ i j, x = .int i ∧ y = .int j ∧ C i j ∧ o x y M = .ok (.int (g i j)) M) ∨ o x y M = .bad) : BinV G (rI C fun i j => .int (g i j)) o := by
  intro x y M W H v w Z t Q m rv rw' p
  rcases h x y M with ⟨i, j, rfl, rfl, hc, e⟩ | e
  · rw [e] at p
    cases rv; cases rw'
    exact ⟨i, j, rfl, rfl, hc, p.here m _ (.int _)⟩
  · rw [e] at p
    exact p.elim
theorem bv_int0 {G : Gm} {g : Int → Int → Int} {o : D → D → Mem → R D} (h : ∀ x y M, (∃ i j, x = .int i ∧ y = .int j ∧ o x y M = .ok (.int (g i j)) M) ∨ o x y M = .bad) : BinV G (rI0 fun i j => .int (g i j)) o := by
  intro x y M W H v w Z t Q m rv rw' p
  rcases h x y M with ⟨i, j, rfl, rfl, e⟩ | e
  · rw [e] at p
    cases rv; cases rw'
    exact ⟨i, j, rfl, rfl, p.here m _ (.int _)⟩
  · rw [e] at p
    exact p.elim
theorem bv_cmp {G : Gm} {g : Int → Int → Bool} : BinV G (rI0 fun i j => .bl (g i j)) (oCmp g) := by
  intro x y M W H v w Z t Q m rv rw' p
  unfold oCmp at p
  split at p
  · cases rv; cases rw'
    exact ⟨_, _, rfl, rfl, p.here m _ (.bl _)⟩
  · exact p.elim
theorem se_sub (ha : SE X Z a f) (hb : SE X Z b g) : SE X Z (.BinOp a .Sub b pos) (eBin oSub f g) := se_bin op_sub (bv_int0 fun x y M => by
  unfold oSub
  split
  · exact .inl ⟨_, _, rfl, rfl, rfl⟩
  · exact .inr rfl) ha hb
theorem se_mod (ha : SE X Z a f) (hb : SE X Z b g) : SE X Z (.BinOp a .Mod b pos) (eBin oMod f g) := se_bin op_mod (bv_int fun x y M => by
  unfold oMod
  split
  · split
    · exact .inl ⟨_, _, rfl, rfl, by assumption, rfl⟩
    · exact .inr rfl
  · exact .inr rfl) ha hb
theorem se_div (ha : SE X Z a f) (hb : SE X Z b g) : SE X Z (.BinOp a .FloorDiv b pos) (eBin oDiv f g) := se_bin op_fdivW (bv_int fun x y M => by
  unfold oDiv
  split
  · split
    · rename_i hc
      exact .inl ⟨_, _, rfl, rfl, ⟨hc.1, by have := hc.2; omega⟩, rfl⟩
    · exact .inr rfl
  · exact .inr rfl) ha hb
theorem small_iff {i : Int} : small i = true ↔ -(2 ^ 64) < i ∧ i < 2 ^ 64 := by unfold small; simp
theorem se_pow (ha : SE X Z a f) (hb : SE X Z b g) : SE X Z (.BinOp a .Pow b pos) (eBin oPow f g) := se_bin op_pow (bv_int fun x y M => by
  unfold oPow
  split
  · split
    · rename_i hc
      have h := small_iff.mp hc.2.2
      exact .inl ⟨_, _, rfl, rfl, ⟨hc.1, by have := hc.2.1; omega, by omega⟩, rfl⟩
    · exact .inr rfl
  · exact .inr rfl) ha hb
theorem mulOk_ok {i j : Int} (h : mulOk i j = true) : CMul i j ∨ CMulW i j := by
  unfold mulOk at h
  rw [Bool.or_eq_true, Bool.or_eq_true] at h
  rcases h with (h | h) | h
  · exact .inl (.inl (small_iff.mp h))
  · exact .inl (.inr (small_iff.mp h))
  · refine .inr ?_
    unfold CMulW
    exact of_decide_eq_true h
theorem tuple_mul1 (l : Addr) (items : Array Value) (n : Nat) (dd : Option Addr) (sl : Array (Option Value)) (u : Tok) :
    Meets (Builtin.«tuple.__mul__» ⟨[.ref l, .int 1 u], []⟩) (fun _ R s => s.heap.get? l = some { cls := .type "tuple", dict := dd, data := .seq items n, slots := sl } ∧ R (.ok (.ret (Value.ref l))) s) :=
  .of_wp fun prog w A R s h => by
    obtain ⟨hp, g, d, tk, os⟩ := s
    obtain ⟨hl, h⟩ := h
    have f1 := AutoSeq1.idx_int
    wp_walk using wpAny_loadPart' hl
    repeat (first
      | (refine wpAny_ite_false (decide_eq_false (by simp)) ?_; wp_walk using wpAny_loadPart' hl)
      | (refine wpAny_ite_true (decide_eq_true (by simp)) ?_; wp_walk using wpAny_loadPart' hl))
    exact ⟨_, rfl, h⟩
def rRepT1 (K : PySem.W.Frag) : R2 := fun x y H Q => ∃ l xs, x = .ref l ∧ y = .int 1 ∧ SqT K H l xs ∧ Q (.ref l) H
theorem op_repT1 : OpR X (binaryOp .Mult) (rRepT1 X.K) := by
  intro pins s σ H x y v u Q I rx ry h
  obtain ⟨l, xs, rfl, rfl, hT, q⟩ := h
  cases rx
  obtain ⟨t, rfl⟩ := ry
  obtain ⟨its, r, ⟨⟨cls, dd, data, sl⟩, ho, hc, n, hd⟩, hs⟩ := I.tuple hT
  simp only at hc hd
  subst hc hd
  exact wpAny_binaryOp_repeat_ref (T := "tuple") (U := "int") (by decide) ⟨_, ho, rfl⟩ (fun s' => typeIs_int s' 1 t) noFill_tuple_mul F.fills_int_mul F.slot_int_rmul repeat_tuple F.slot_int_index.lookup
    (call_meets F.slot_int_rmul (typeIs_int s 1 t) F.entry_int_rmul (F.args_int_rmul_2 _ _) (int_rmul_tuple 1 t l its.toArray n dd sl)
      ⟨ho, rfl, ⟨_, ho, rfl⟩, call_meets F.slot_tuple_mul ⟨_, ho, rfl⟩ F.entry_tuple_mul (F.args_tuple_mul_2 _ _) (tuple_mul1 l its.toArray n dd sl t) ⟨ho, ⟨.ref l, H, I, rfl, q⟩⟩⟩)
def rMulU (K : PySem.W.Frag) : R2 := fun x y H Q => (rI CMul (fun i j => .int (i * j)) x y H Q ∨ rI CMulW (fun i j => .int (i * j)) x y H Q) ∨ (rRep x y H Q ∨ (rRepT K x y H Q ∨ rRepT1 K x y H Q))
theorem op_mulU : OpR X (binaryOp .Mult) (rMulU X.K) := (op_mul.or op_mulW).or (op_rep.or (op_repT.or op_repT1))
theorem bv_mul {G : Gm} : BinV G (rMulU G.K) oMul := by
  intro x y M W H v w Z t Q m rv rw' p
  unfold oMul at p
  split at p
  · cases rv; cases rw'
    split at p
    · rename_i hc
      rcases mulOk_ok hc with hc | hc
      · exact .inl (.inl ⟨_, _, rfl, rfl, hc, p.here m _ (.int _)⟩)
      · exact .inl (.inr ⟨_, _, rfl, rfl, hc, p.here m _ (.int _)⟩)
    · exact p.elim
  · rename_i xs k
    cases rw'
    cases rv with
    | tup h1 r1 =>
      split at p
      · rename_i hc
        obtain ⟨h2, h3, h4, h5⟩ := hc
        rename_i a vs
        by_cases hk : k = 1
        · subst hk
          have e : (List.replicate (1 : Int).toNat xs).flatten = xs := by
            show (List.replicate 1 xs).flatten = xs
            simp
          rw [e] at p
          exact .inr (.inr (.inr ⟨a, vs, rfl, rfl, h1.sq, p.here m _ (.tup h1 r1)⟩))
        · refine .inr (.inr (.inl ⟨a, k, vs, rfl, rfl, h1.sq, fun e => h5 ?_, by omega, h3, by rw [← r1.length]; exact h4, fun q hq => new_tup m p (r1.flat k.toNat) hq⟩))
          subst e
          cases r1
          rfl
      · exact p.elim
  · rename_i k h1 h2
    cases rw'
    split at p
    · rename_i xs ex
      obtain ⟨a1, vs, rfl, h1, r1⟩ := lst_read m ex rv
      split at p
      · rename_i hc
        refine .inr (.inl ⟨a1, k, vs, rfl, rfl, h1, by omega, by omega, ?_, fun q hq => new_lst m p (r1.flat k.toNat) hq⟩)
        rw [← r1.length]
        refine line_le (Nat.le_trans (Nat.mul_le_mul hc.2.2 (show k.toNat ≤ 1000 by omega)) (by decide))
      · exact p.elim
    · exact p.elim
  · exact p.elim
theorem se_mul (ha : SE X Z a f) (hb : SE X Z b g) : SE X Z (.BinOp a .Mult b pos) (eBin oMul f g) := se_bin op_mulU bv_mul ha hb
theorem se_lt (ha : SE X Z a f) (hb : SE X Z b g) : SE X Z (.Compare a [.Lt] [b] pos) (eBin oLt f g) := se_cmp op_lt bv_cmp ha hb
theorem se_le (ha : SE X Z a f) (hb : SE X Z b g) : SE X Z (.Compare a [.LtE] [b] pos) (eBin oLe f g) := se_cmp op_le bv_cmp ha hb
theorem se_ge (ha : SE X Z a f) (hb : SE X Z b g) : SE X Z (.Compare a [.GtE] [b] pos) (eBin oGe f g) := se_cmp op_ge bv_cmp ha hb
theorem st_lt (ha : SE X Z a f) (hb : SE X Z b g) : ST X Z (.Compare a [.Lt] [b] pos) (tVal (eBin oLt f g)) := st_cmp op_lt bv_cmp ha hb
theorem st_gt (ha : SE X Z a f) (hb : SE X Z b g) : ST X Z (.Compare a [.Gt] [b] pos) (tVal (eBin oGt f g)) := st_cmp op_gt bv_cmp ha hb
theorem isNon_iff {G : Gm} {H : Hp} {W : Wd} {x : D} {v : V} (r : RD G H W x v) : isNon x = decide (v = .non) := by cases r <;> simp [isNon]
theorem bv_isN {G : Gm} : BinV G (fun x y H Q => y = .non ∧ Q (.bl (decide (x = .non))) H) oIsN := by
  intro x y M W H v w Z t Q m rv rw' p
  unfold oIsN at p
  split at p
  · cases rw'
    rw [isNon_iff rv] at p
    exact ⟨rfl, p.here m _ (.bl _)⟩
  · exact p.elim
theorem st_isN (ha : SE X Z a f) (hb : SE X Z b g) : ST X Z (.Compare a [.Is] [b] pos) (tVal (eBin oIsN f g)) := st_cmp op_isN bv_isN ha hb
mutual
theorem toPy_dp {G : Gm} {H : Hp} {W : Wd} {M : Mem} : ∀ (d : D) (v : V) (y : PyData), RD G H W d v → toPy M d = some y → Dp G.K H v y
  | .non, _, _, r, e => by cases r; simp only [toPy, Option.some.injEq] at e; subst e; exact .non
  | .bl b, _, _, r, e => by cases r; simp only [toPy, Option.some.injEq] at e; subst e; exact .bl b
  | .int b, _, _, r, e => by cases r; simp only [toPy, Option.some.injEq] at e; subst e; exact .int b
  | .str b, _, _, r, e => by cases r; simp only [toPy, Option.some.injEq] at e; subst e; exact .str b
  | .tup xs, _, y, r, e => by
    cases r with
    | tup h1 h2 =>
      simp only [toPy, Option.map_eq_some_iff] at e
      obtain ⟨ys, e1, rfl⟩ := e
      exact .tup h1.sq (toPys_dp xs _ ys h2 e1)
  | .lst xs, _, y, r, e => by
    cases r with
    | lst h1 h2 =>
      simp only [toPy, Option.map_eq_some_iff] at e
      obtain ⟨ys, e1, rfl⟩ := e
      exact .lst h1.sq (toPys_dp xs _ ys h2 e1)
  | .scr _, _, _, _, e => by simp [toPy] at e
  | .dct _ _, _, _, _, e => by simp [toPy] at e
  | .dtt _ _, _, _, _, e => by simp [toPy] at e
  | .exn _ _, _, _, _, e => by simp [toPy] at e
  | .key _, _, _, _, e => by simp [toPy] at e
  | .clo _ _, _, _, _, e => by simp [toPy] at e
  | .ref _, _, _, _, e => by simp [toPy] at e
theorem toPys_dp {G : Gm} {H : Hp} {W : Wd} {M : Mem} : ∀ (ds : List D) (vs : List V) (ys : List PyData), RDs G H W ds vs → toPys M ds = some ys → DpAll G.K H vs ys
  | [], _, _, r, e => by cases r; simp only [toPys, Option.some.injEq] at e; subst e; exact .nil
  | d :: ds, _, ys, r, e => by
    cases r with
    | cons h1 h2 =>
      simp only [toPys] at e
      cases e1 : toPy M d with
      | none => rw [e1] at e; simp at e
      | some y =>
        rw [e1] at e
        cases e2 : toPys M ds with
        | none => rw [e2] at e; simp at e
        | some zs =>
          rw [e2] at e
          simp only [Option.some.injEq] at e
          subst e
          exact .cons (toPy_dp d _ y h1 e1) (toPys_dp ds _ zs h2 e2)
end
theorem rdOf_dp {G : Gm} {H : Hp} {W : Wd} {M : Mem} {d : D} {v : V} {y : PyData} (m : MR G H W M) (r : RD G H W d v) (e : toPy M (rdOf M d) = some y) : Dp G.K H v y := by
  cases r with
  | ref q =>
    rename_i h
    cases c : M[h]? with
    | none =>
      have : rdOf M (.ref h) = .ref h := by simp only [rdOf, c]
      rw [this] at e
      simp [toPy] at e
    | some k =>
      cases k with
      | lst xs =>
        have e' : rdOf M (.ref h) = .lst xs := by simp only [rdOf, c]
        rw [e'] at e
        simp only [toPy, Option.map_eq_some_iff] at e
        obtain ⟨ys, e1, rfl⟩ := e
        obtain ⟨vs, h1, h2, _⟩ := m.cell h _ c
        exact .lst (.of h1) (toPys_dp xs _ ys h2 e1)
      | _ =>
        have : rdOf M (.ref h) = .ref h := by simp only [rdOf, c]
        rw [this] at e
        simp [toPy] at e
  | non => exact toPy_dp (W := W) _ _ y .non e
  | bl b => exact toPy_dp (W := W) _ _ y (.bl b) e
  | int b => exact toPy_dp (W := W) _ _ y (.int b) e
  | str b => exact toPy_dp (W := W) _ _ y (.str b) e
  | tup h1 h2 => exact toPy_dp (W := W) _ _ y (.tup h1 h2) e
  | lst h1 h2 => exact toPy_dp (W := W) _ _ y (.lst h1 h2) e
  | scr h => simp [rdOf, toPy] at e
  | dct h1 h2 h3 h4 => simp [rdOf, toPy] at e
  | dtt h1 h2 h3 h4 => simp [rdOf, toPy] at e
  | exn h1 h2 h3 h4 h5 h6 => simp [rdOf, toPy] at e
  | key h1 h2 => simp [rdOf, toPy] at e
  | clo h1 h2 h3 h4 h5 => simp [rdOf, toPy] at e
theorem eqD_dp {G : Gm} {H : Hp} {W : Wd} {M : Mem} {x y : D} {v w : V} {k : Bool} (m : MR G H W M) (rv : RD G H W x v) (rw' : RD G H W y w) (e : eqD M x y = some k) : ∃ d e', Dp G.K H v d ∧ Dp G.K H w e' ∧ SeqAt.shaped d = true ∧ SeqAt.shaped e' = true ∧ PyData.eqv d e' = k := by
  unfold eqD at e
  split at e
  · rename_i d e' h1 h2
    split at e
    · rename_i hs
      cases e
      exact ⟨d, e', rdOf_dp m rv h1, rdOf_dp m rw' h2, hs.1, hs.2, rfl⟩
    · cases e
  · cases e
def rEqU (K : PySem.W.Frag) : R2 := fun x y H Q => rEqD K x y H Q ∨ rEq x y H Q
def rNeU (K : PySem.W.Frag) : R2 := fun x y H Q => rNeD K x y H Q ∨ rNe x y H Q
theorem strs2_read {G : Gm} {H : Hp} {W : Wd} {x y : D} {v w : V} {k : Bool} (rv : RD G H W x v) (rw' : RD G H W y w) (e : strs2 x y = some k) : scal v w = true ∧ decide (v = w) = k := by
  unfold strs2 at e
  split at e
  · rename_i a c
    cases e
    cases rv
    cases rw'
    exact ⟨rfl, dec_str⟩
  · cases e
theorem bv_eq {G : Gm} : BinV G (rEqU G.K) oEq := by
  intro x y M W H v w Z t Q m rv rw' p
  unfold oEq at p
  split at p
  · rename_i k e
    obtain ⟨h1, h2⟩ := strs2_read rv rw' e
    exact .inr ⟨h1, by rw [h2]; exact p.here m _ (.bl _)⟩
  · split at p
    · rename_i k e
      obtain ⟨d, e', h1, h2, h3, h4, h5⟩ := eqD_dp m rv rw' e
      refine .inl ⟨d, e', h1, h2, h3, h4, ?_⟩
      rw [h5]
      exact p.here m _ (.bl _)
    · exact p.elim
theorem bv_ne {G : Gm} : BinV G (rNeU G.K) oNe := by
  intro x y M W H v w Z t Q m rv rw' p
  unfold oNe at p
  split at p
  · rename_i k e
    obtain ⟨h1, h2⟩ := strs2_read rv rw' e
    exact .inr ⟨h1, by rw [h2]; exact p.here m _ (.bl _)⟩
  · split at p
    · rename_i k e
      obtain ⟨d, e', h1, h2, h3, h4, h5⟩ := eqD_dp m rv rw' e
      refine .inl ⟨d, e', h1, h2, h3, h4, ?_⟩
      rw [h5]
      exact p.here m _ (.bl _)
    · exact p.elim
variable {k : Nat}
theorem op_eqU (hr : Room k X.A) : OpR X (compareOp .Eq) (rEqU X.K) := (op_eqD hr.units).or op_eq
theorem op_neU (hr : Room k X.A) : OpR X (compareOp .NotEq) (rNeU X.K) := (op_neD hr.units).or op_ne
theorem se_eq (hr : Room k X.A) (ha : SE X Z a f) (hb : SE X Z b g) : SE X Z (.Compare a [.Eq] [b] pos) (eBin oEq f g) := se_cmp (op_eqU hr) bv_eq ha hb
theorem st_eq (hr : Room k X.A) (ha : SE X Z a f) (hb : SE X Z b g) : ST X Z (.Compare a [.Eq] [b] pos) (tVal (eBin oEq f g)) := st_cmp (op_eqU hr) bv_eq ha hb
theorem st_ne (hr : Room k X.A) (ha : SE X Z a f) (hb : SE X Z b g) : ST X Z (.Compare a [.NotEq] [b] pos) (tVal (eBin oNe f g)) := st_cmp (op_neU hr) bv_ne ha hb
variable {es : List Expr} {e : Expr} {fs : EA}
theorem sa_nil : SA X Z [] aNil := pa_nil.weak fun σ H Q ⟨W, s, M, m, sr, p⟩ => Post.here (a := ([] : List D)) p m [] .nil
theorem sa_cons (ha : SE X Z e f) (hr : SA X Z es fs) (hs : starEach (e :: es) X.env = (false, eval e X.env) :: starEach es X.env := by rfl) : SA X Z (e :: es) (aCons f fs) := by
  refine (pa_cons ha hr hs).weak fun σ H Q ⟨W, s, M, m, sr, p⟩ => ?_
  refine ⟨W, s, M, m, sr, (Post.bind p).imp fun x M1 W1 H1 x1 m1 p1 v rv => ?_⟩
  refine ⟨W1, s, M1, m1, sr.mono x1.toLe, ?_⟩
  rw [x1.b]
  exact (Post.bind p1).imp fun xs M2 W2 H2 x2 m2 p2 vs rvs => Post.here (a := x :: xs) p2 m2 _ (.cons (rv.mono x2.toLe) rvs)
theorem se_tup {x1} (h : SA X Z es fs) : SE X Z (.Tuple es x1 pos) (eTup fs) := by
  refine (pe_tup h).weak fun σ H Q ⟨W, s, M, m, sr, p⟩ => ?_
  refine ⟨W, s, M, m, sr, (Post.bind p).imp fun xs M1 W1 H1 x1 m1 p1 vs rvs => ?_⟩
  split at p1
  · rename_i hz
    exact ⟨line_le (by rw [← rvs.length]; exact hz), fun q hq => new_tup m1 p1 rvs hq⟩
  · exact p1.elim
/-- what is new to H1 is new to H -/
theorem Ext.fresh {G : Gm} {H H' : Hp} {W W' : Wd} {M M' : Mem} {p : Addr} (x : Ext H W H' W') (m : MR G H W M) (m' : MR G H' W' M') (hp : H' p = none) : H p = none := by
  cases q : H p with
  | none => rfl
  | some o =>
    by_cases hi : W.im p
    · rcases hi with hi | ⟨h, hl, e⟩
      · rw [x.avk p hi, q] at hp
        cases hp
      obtain ⟨o', ho⟩ := m'.tracked (h := h) (Nat.lt_of_lt_of_le hl x.n)
      rw [x.e h hl, e, hp] at ho
      cases ho
    · rw [(x.keep p o q hi).1] at hp
      cases hp
/-- a fresh list as HandS's rules leave it -/
theorem new_n {G : Gm} {H H1 : Hp} {W W1 : Wd} {M M1 : Mem} {t : L2.St} {xs : List D} {vs : List V} {Q : VK} {p : Addr} (x : Ext H W H1 W1) (m : MR G H W M) (m1 : MR G H1 W1 M1) (po : PostN G Z t H W (.ok xs M1) Q) (r : RDs G H1 W1 xs vs) (hp : H1 p = none) :
    Q (.ref p) (upd H1 p (.lst vs)) := po W1 _ p vs (x.trans (m1.xnew hp)) (m1.avo hp) (r.mono (m1.avo_new hp)) (x.fresh m m1 hp) (m1.fresh hp) upd_same
theorem PostN.bind {α : Type} {G : Gm} {H : Hp} {W : Wd} {M : Mem} {t : L2.St} {r : R α} {k : α → Mem → R (List D)} {Q : VK} (m : MR G H W M) (p : PostN G Z t H W (r.bind k) Q) : Post G Z t H W r fun a M1 W1 H1 => PostN G Z t H1 W1 (k a M1) Q := by
  cases r with
  | ok a M => exact fun W' H' x m' => PostN.ext (M := M) (M1 := M) (r := k a M) p x fun a ha => x.fresh m m' ha
  | exc c d M => exact p
  | bad => exact p
theorem sn_lst (h : SA X Z es fs) : SN X Z (.List es pos) (nLst fs) := by
  refine (pe_lst h).weak fun σ H Q ⟨W, s, M, m, sr, p⟩ => ?_
  refine ⟨W, s, M, m, sr, (PostN.bind m p).imp fun xs M1 W1 H1 x1 m1 p1 vs rvs => ?_⟩
  split at p1
  · rename_i hz
    exact ⟨line_le (by rw [← rvs.length]; exact hz), fun q hq => new_n (.refl _ _) m1 m1 p1 rvs hq⟩
  · exact p1.elim
variable {fn : EN}
theorem lift_frz {G : Gm} {σ : L2.St} {H : Hp} {Q : VK} (q : liftE G Z (eFrz fn) σ H Q) : liftN G Z fn σ H Q := by
  obtain ⟨W, s, M, m, sr, p⟩ := q
  refine ⟨W, s, M, m, sr, ?_⟩
  have e : eFrz fn W.b s M = (fn W.b s M).bind fun xs M1 => .ok (.lst xs) M1 := rfl
  rw [e] at p
  cases q : fn W.b s M with
  | ok xs M1 =>
    rw [q] at p
    exact fun W' H' a vs x m' r ha hi hl => p W' H' x m'.unavo _ (.lst ⟨hl, hi⟩ (r.mono .unavo))
  | exc c d M1 => rw [q] at p; exact p
  | bad => rw [q] at p; exact p
theorem lift_thw {G : Gm} {σ : L2.St} {H : Hp} {Q : VK} (q : liftE G Z (eThw fn) σ H Q) : liftN G Z fn σ H Q := by
  obtain ⟨W, s, M, m, sr, p⟩ := q
  refine ⟨W, s, M, m, sr, ?_⟩
  have e : eThw fn W.b s M = (fn W.b s M).bind fun xs M1 => .ok (.ref M1.length) (M1 ++ [.lst xs]) := rfl
  rw [e] at p
  cases q : fn W.b s M with
  | ok xs M1 =>
    rw [q] at p
    intro W' H' a vs x m' r ha hi hl
    have hn : M1.length = W'.n := m'.len
    have p' := p (W'.add a) H' (x.add ha) (m'.add_lst (fun z => hi (.inl z)) r hl) (.ref a) ?_
    · exact p'
    · have := RD.ref (G := G) (H := H') (W := W'.add a) (h := M1.length) (by rw [hn]; exact Nat.lt_succ_self _)
      rw [hn, Wd.add_n] at this
      rw [hn]
      exact this
  | exc c d M1 => rw [q] at p; exact p
  | bad => rw [q] at p; exact p
theorem se_frz (h : SN X Z e fn) : SE X Z e (eFrz fn) := PE.weak h fun _ _ _ q => lift_frz q
theorem se_thw (h : SN X Z e fn) : SE X Z e (eThw fn) := PE.weak h fun _ _ _ q => lift_thw q
end
end LW
namespace LW
open PySem PySem.Spec PyProof.Rows L2
section
variable {prog : Program} {w : World} {A : Around} {E : Value → Shared → Prop} {s : Shared}
theorem pick_rev (xs : Array Value) : ((List.range xs.size).filterMap fun (m : Nat) => xs[(((xs.size : Int) - 1) + (m : Int) * (-1)).toNat]?).toArray = xs.toList.reverse.toArray := by
  have h := PySem.W.krv_pick xs
  rw [← h]
  unfold slicePick
  rw [PySem.W.krv_bounds]
  show _ = ((sliceRange ((xs.size : Int) - 1) (-1) (-1)).filterMap (xs[·]?)).toArray
  rw [PySem.W.krv_sliceRange, List.filterMap_map]
  congr 1
  have e : (fun (m : Nat) => xs[(((xs.size : Int) - 1) + (m : Int) * (-1)).toNat]?) = (fun (m : Nat) => xs[m]?) ∘ fun k => xs.size - 1 - k := by
    funext m
    show xs[(((xs.size : Int) - 1) + (m : Int) * (-1)).toNat]? = xs[xs.size - 1 - m]?
    have e : (((xs.size : Int) - 1) + (m : Int) * (-1)).toNat = xs.size - 1 - m := by omega
    rw [e]
  rw [e]
theorem sliceApplied_rev {sl : Addr} {vl vu vs : Value} {n : Nat} {Q : Int × Int × Nat → Shared → Prop} (hs : s.heap.IsSliceOf sl vl vu vs) (pl : IsPart vl none) (pu : IsPart vu none) (ps : IsPart vs (some (-1)))
    (h : Q ((n : Int) - 1, -1, n) s) : wpAny (model prog w) A (Builtin.Slice.sliceApplied (.ref sl) (pure (n : Int))) Q E s := by
  obtain ⟨os, hos, hcs, hds⟩ := id hs
  unfold Builtin.Slice.sliceApplied Builtin.Slice.sliceFields
  refine wpAny_bind (wpAny_bind (wpAny_field hos hds (x := vl) rfl (wpAny_bind (wpAny_field hos hds (x := vu) rfl (wpAny_bind (wpAny_field hos hds (x := vs) rfl (wpAny_pure ?_)))))))
  refine wpAny_bind (HT.slicePart_ ps ?_)
  show wpAny _ _ (if ((-1 : Int) == 0) = true then _ else _) _ _ s
  rw [if_neg (by decide)]
  refine wpAny_bind (HT.slicePart_ pl (wpAny_bind (HT.slicePart_ pu (wpAny_bind (wpAny_pure ?_)))))
  have e1 : Builtin.Slice.sliceAdjust none none (-1) (n : Int) = ((n : Int) - 1, -1) := by
    unfold Builtin.Slice.sliceAdjust
    rfl
  have e2 : Builtin.Slice.slicePlaces ((n : Int) - 1) (-1) (-1) = n := by
    unfold Builtin.Slice.slicePlaces
    simp
    try omega
  show wpAny _ _ (match Builtin.Slice.sliceAdjust none none (-1) (n : Int) with | (lo, hi) => pure (lo, (-1 : Int), Builtin.Slice.slicePlaces lo hi (-1))) _ _ s
  rw [e1]
  show wpAny _ _ (pure (((n : Int) - 1), (-1 : Int), Builtin.Slice.slicePlaces ((n : Int) - 1) (-1) (-1))) _ _ s
  rw [e2]
  exact wpAny_pure h
theorem getItem_tuple_rev {t sl : Addr} {items : Array Value} {vl vu vs : Value} {Q : Value → Shared → Prop} (ht : IsTup s.heap t items) (hs : s.heap.IsSliceOf sl vl vu vs) (pl : IsPart vl none) (pu : IsPart vu none) (ps : IsPart vs (some (-1)))
    (h : Q (.ref s.heap.objs.size) { s with heap := s.heap.push { cls := .type "tuple", data := .seq items.toList.reverse.toArray } })
    (hsz : items.size ≤ sizeLine) : wpAny (model prog w) A (getItem (.ref t) (.ref sl)) Q E s := by
  have htake : sizeOk (.seq items.toList.reverse.toArray) := by
    show items.toList.reverse.toArray.size ≤ sizeLine
    rw [List.size_toArray, List.length_reverse, Array.length_toList]
    exact hsz
  obtain ⟨os, hos, hcs, hds⟩ := id hs
  have hTs : s.TypeIs (.ref sl) "slice" := ⟨os, hos, hcs⟩
  unfold getItem
  try with_reducible refine wpAny_holding ?_
  first | refine wpAny_bind (wpAny_pure ?_) | skip
  refine wpAny_bind (wpAny_sequenceKey ht.typeIs (by decide) ?_)
  refine wpAny_bind (wpAny_callSpecial?_slot (name := Str.ofString "__getitem__") ht.typeIs PyProof.Rows.slot_tuple_getitem
    (wpAny_call_entry PyProof.Rows.slot_tuple_getitem ht.typeIs entry_tuple_getitem ?_ (args_tuple_getitem _ _)))
  show wpAny _ _ (Builtin.Tuple.tupleItemsOf (.ref t) >>= _) _ _ s
  refine wpAny_bind (tupleItemsOf_ ht ?_)
  refine wpAny_bind (wpAny_typeOf hTs ?_)
  rw [if_pos (by decide)]
  refine wpAny_bind (sliceApplied_rev hs pl pu ps ?_)
  have hno : ¬ (((((items.size : Int) - 1)) == 0 && (-1 : Int) == 1 && items.size == items.size) = true) := by simp
  show wpAny _ _ (if ((((items.size : Int) - 1)) == 0 && (-1 : Int) == 1 && items.size == items.size) = true then _ else _) _ _ s
  rw [if_neg hno, pick_rev]
  first
    | exact wpAny_bind (m := Builtin.Tuple.tupleExact _) (wpAny_newObj_type (wpAny_pure ⟨_, rfl, wpAny_pure h⟩) htake)
    | exact wpAny_bind (m := Builtin.Tuple.tupleExact _) (wpAny_newObj_type (wpAny_bind (wpAny_pure (wpAny_pure ⟨_, rfl, wpAny_pure h⟩))) htake)
    | exact wpAny_bind (wpAny_bind (m := Builtin.Tuple.tupleExact _) (wpAny_newObj_type (wpAny_pure (wpAny_pure ⟨_, rfl, wpAny_pure h⟩)) htake))
    | exact wpAny_bind (wpAny_bind (m := Builtin.Tuple.tupleExact _) (wpAny_newObj_type (wpAny_pure ⟨_, rfl, wpAny_pure h⟩) htake))
end
section
variable {X : Cx} {Z : WX} {pos : Pos} {a b c : Expr} {f g h : ES}
/-- x[::-1] of a list or a tuple -/
def tRevU (K : PySem.W.Frag) (te : TE) : TE := fun σ H Q => te σ H fun x H1 => ∃ a xs, x = .ref a ∧ ((SqL K H1 a xs ∧ ∀ p, H1 p = none → Q (.ref p) (upd H1 p (.lst xs.reverse))) ∨ (SqT K H1 a xs ∧ ∀ p, H1 p = none → Q (.ref p) (upd H1 p (.tup xs.reverse))))
theorem pe_revU {e : Expr} {te : TE} {k : Nat} {p1 p2 p3 pos : Pos} (he : PE X e te) : PE X (.Subscript e (.Slice none none (some (.UnaryOp .USub (.Constant (.int 1) k p1) p2)) p3) pos) (tRevU X.K te) := by
  refine ⟨fun pins s σ H Q I h => ?_⟩
  refine Subscript_ (thn (he.run pins s σ H _ I h) fun v s1 ⟨x, H1, I1, r1, q1⟩ => ?_)
  obtain ⟨a, xs, ex, q⟩ := q1
  subst ex
  cases r1
  have hst : PO X (some (.UnaryOp .USub (.Constant (.int 1) k p1) p2)) (tPart (tUn (rU fun i => .int (-i)) (tC (.int 1)))) := po_some (pe_un un_neg pe_int)
  refine wpAny_Slice (thn (po_none.run pins s1 σ H1 (fun o H2 => o = none ∧ H2 = H1) I1 ⟨rfl, rfl⟩) fun vl s2 ⟨l, H2, I2, pl, el, e2⟩ => ?_)
  subst el e2
  refine thn (po_none.run pins s2 σ H2 (fun o H3 => o = none ∧ H3 = H2) I2 ⟨rfl, rfl⟩) fun vu s3 ⟨u, H3, I3, pu, eu, e3⟩ => ?_
  subst eu e3
  refine thn (hst.run pins s3 σ H3 (fun o H4 => o = some (-1) ∧ H4 = H3) I3 ⟨1, rfl, -1, rfl, rfl, rfl⟩) fun vs s4 ⟨o, H4, I4, ps, eo, e4⟩ => ?_
  subst eo e4
  have I5 : Inv X pins σ H4 { s4 with heap := s4.heap.push { cls := .type "slice", data := .fields #[vl, vu, vs] } } := I4.kept (t' := s4.toks) fun b ob q => Heap.get?_push_of_some _ q
  show wpAny (model X.prog X.w) X.A (subscriptTail e (.Slice none none (some (.UnaryOp .USub (.Constant (.int 1) k p1) p2)) p3) (.ref a) (.ref s4.heap.objs.size)) (EP X pins σ Q) X.xe { s4 with heap := s4.heap.push { cls := .type "slice", data := .fields #[vl, vu, vs] } }
  rcases q with ⟨hx, q⟩ | ⟨hx, q⟩
  · obtain ⟨its, r, ht, hz⟩ := I5.list hx
    have hlen := r.length
    refine tail_any (ops := [.ref a, .ref s4.heap.objs.size]) ht.isList.typeIs (PySem.slot_list_getitem.lookup) ?_ (by with_unfolding_all rfl)
    refine wpAny_getItem_list_slice ht.isList (Heap.IsSliceOf.new _ vl vu vs) pl pu ps (by decide) ?_ (by rw [List.size_toArray]; omega)
    rw [PySem.W.krv_pick]
    refine ⟨.ref _, _, I5.laid (t' := s4.toks) (o := .lst xs.reverse) (fun b ob q => Heap.get?_push_of_some _ q) (Nat.le_refl _) ?_, rfl, q _ (I5.hok.fresh (Nat.le_refl _))⟩
    exact ⟨by rw [List.length_reverse]; exact hz, _, 0, r.reverse, Heap.get?_push_size _ rfl⟩
  · obtain ⟨its, r, ht, hz⟩ := I5.tuple hx
    have hlen := r.length
    refine tail_any (ops := [.ref a, .ref s4.heap.objs.size]) ht.typeIs (PyProof.Rows.slot_tuple_getitem.lookup) ?_ (by with_unfolding_all rfl)
    refine getItem_tuple_rev ht (Heap.IsSliceOf.new _ vl vu vs) pl pu ps ?_ (by rw [List.size_toArray]; omega)
    refine ⟨.ref _, _, I5.laid (t' := s4.toks) (o := .tup xs.reverse) (fun b ob q => Heap.get?_push_of_some _ q) (Nat.le_refl _) ?_, rfl, q _ (I5.hok.fresh (Nat.le_refl _))⟩
    exact ⟨by rw [List.length_reverse]; exact hz, _, r.reverse, IsTup.new _ _⟩
theorem bv_ix {G : Gm} : BinV G (rIx G.K) oIx := by
  intro x y M W H v w Z t Q m rv rw' p
  unfold oIx at p
  split at p
  · rename_i i
    cases rw'
    split at p
    · rename_i xs ex
      obtain ⟨a, vs, rfl, hq, r⟩ := seq_read m ex rv
      split at p
      · rename_i d hd
        have hl : xs.length = vs.length := r.length
        have key : ∃ u, atI vs i = some u ∧ RD G H W d u := by
          unfold atI at hd ⊢
          rw [hl] at hd
          cases e : ixN vs.length i with
          | none => rw [e] at hd; cases hd
          | some k =>
            rw [e] at hd
            exact r.get hd
        obtain ⟨u, hu, ru⟩ := key
        rcases hq with hq | hq
        · exact .inl ⟨a, vs, i, u, rfl, rfl, hq, hu, p.here m _ ru⟩
        · exact .inr (.inl ⟨a, vs, i, u, rfl, rfl, hq, hu, p.here m _ ru⟩)
      · exact p.elim
    · exact p.elim
  · exact p.elim
theorem se_ix (ha : SE X Z a f) (hb : SE X Z b g) (hs : PlainIx b := by exact fun _ _ => rfl) : SE X Z (.Subscript a b pos) (eBin oIx f g) := (pe_ix ix_seq ha hb hs).weak fun _ _ _ q => lift_bin bv_ix q
/-- a slice's part -/
def liftP (G : Gm) (Z : WX) (f : EP') : TO := fun t H Q => ∃ W s M, MR G H W M ∧ SR G H W s t ∧ Post G Z t H W (f W.b s M) fun k _ _ H' => Q k H'
abbrev SP' (X : Cx) (Z : WX) (e : Option Expr) (f : EP') : Prop := PO X e (liftP (gm X) Z f)
theorem _root_.L2.PO.weak {X : Cx} {e : Option Expr} {t t' : TO} (h : PO X e t) (w : ∀ σ H Q, t' σ H Q → t σ H Q) : PO X e t' := ⟨fun pins s σ H Q I q => h.run pins s σ H Q I (w σ H Q q)⟩
theorem sp_no : SP' X Z none pNo := po_none.weak fun σ H Q ⟨W, s, M, m, sr, p⟩ => Post.here (a := (none : Option Int)) p m
theorem sp_of (ha : SE X Z a f) : SP' X Z (some a) (pOf f) := by
  refine (po_some ha).weak fun σ H Q ⟨W, s, M, m, sr, p⟩ => ?_
  refine ⟨W, s, M, m, sr, (Post.bind p).imp fun x M1 W1 H1 x1 m1 p1 v rv => ?_⟩
  cases rv with
  | int i => exact ⟨i, rfl, Post.here (a := some i) p1 m1⟩
  | _ => exact (show False from p1).elim
def rCutU (K : PySem.W.Frag) : V → Option Int → Option Int → Hp → VK → Prop := fun x lo hi H Q => rSlL K x lo hi H Q ∨ rSlA K x lo hi H Q
theorem sl_cutU : SlR X (rCutU X.K) := sl_list.or sl_tupA
theorem RDs.cut {G : Gm} {H : Hp} {W : Wd} {xs : List D} {vs : List V} (r : RDs G H W xs vs) (lo hi : Option Int) : RDs G H W (cutL xs lo hi) (cutV vs lo hi) := by
  unfold cutL cutV
  rw [r.length]
  exact (r.drop _).take _
theorem cut_whole {α : Type} {xs : List α} {lo hi : Option Int} (h : HT.sIx xs.length 0 lo = 0 ∧ HT.sIx xs.length xs.length hi = xs.length) : cutL xs lo hi = xs := by
  unfold cutL
  rw [h.1, h.2]
  simp
variable {l u : EP'} {lo hi : Option Expr}
theorem se_cut {p2 : Pos} (ha : SE X Z a f) (hl : SP' X Z lo l) (hu : SP' X Z hi u) : SE X Z (.Subscript a (.Slice lo hi none p2) pos) (eCut f l u) := by
  refine (pe_slice sl_cutU ha hl hu).weak fun σ H Q ⟨W, s, M, m, sr, p⟩ => ?_
  refine ⟨W, s, M, m, sr, (Post.bind p).imp fun x M1 W1 H1 x1 m1 p1 v rv => ?_⟩
  refine ⟨W1, s, M1, m1, sr.mono x1.toLe, ?_⟩
  rw [x1.b]
  refine (Post.bind p1).imp fun li M2 W2 H2 x2 m2 p2 => ?_
  refine ⟨W2, s, M2, m2, sr.mono (x1.trans x2).toLe, ?_⟩
  rw [(x1.trans x2).b]
  refine (Post.bind p2).imp fun hi' M3 W3 H3 x3 m3 p3 => ?_
  have rv' := (rv.mono x2.toLe).mono x3.toLe
  unfold oCut at p3
  split at p3
  · rename_i xs
    cases rv' with
    | tup h1 r1 =>
      refine .inr ⟨_, _, rfl, h1.sq, fun hw => ?_, fun hw q hq => new_tup m3 p3 (r1.cut li hi') hq⟩
      have e := cut_whole (xs := xs) (lo := li) (hi := hi') (by rw [r1.length]; exact hw)
      rw [e] at p3
      exact p3.here m3 _ (.tup h1 r1)
  · rename_i nt
    split at p3
    · rename_i xs ex
      obtain ⟨a1, vs, rfl, hq, r⟩ := seq_readL m3 ex (fun ys e => nt ys e) rv'
      exact .inl ⟨a1, vs, rfl, hq, fun q hq' => new_lst m3 p3 (r.cut li hi') hq'⟩
    · exact p3.elim
theorem se_rev {k : Nat} {p1 p2 p3 : Pos} (ha : SE X Z a f) : SE X Z (.Subscript a (.Slice none none (some (.UnaryOp .USub (.Constant (.int 1) k p1) p2)) p3) pos) (eUn oRev f) := by
  refine (pe_revU ha).weak fun σ H Q ⟨W, s, M, m, sr, p⟩ => ?_
  refine ⟨W, s, M, m, sr, (Post.bind p).imp fun x M1 W1 H1 x1 m1 p1 v rv => ?_⟩
  unfold oRev at p1
  split at p1
  · cases rv with
    | tup h1 r1 => exact ⟨_, _, rfl, .inr ⟨h1.sq, fun q hq => new_tup m1 p1 r1.reverse hq⟩⟩
  · rename_i nt
    split at p1
    · rename_i xs ex
      obtain ⟨a1, vs, rfl, hq, r⟩ := seq_readL m1 ex (fun ys e => nt ys e) rv
      exact ⟨a1, vs, rfl, .inl ⟨hq, fun q hq' => new_lst m1 p1 r.reverse hq'⟩⟩
    · exact p1.elim
end
end LW
namespace LW
open PySem PySem.Spec PyProof.Rows L2
section
variable {X : Cx} {Z : WX} {pos p : Pos} {a b c e : Expr} {es : List Expr} {f g h : ES} {fs : EA} {id T : String} {x : Str} {r : List V → Hp → VK → Prop} {o : List D → Mem → R D}
theorem lift_fn {σ : L2.St} {H : Hp} {Q : VK} (hv : FnV (gm X) r o) (q : liftE (gm X) Z (eFn o fs) σ H Q) : tCB r (liftA (gm X) Z fs) σ H Q := by
  obtain ⟨W, s, M, m, sr, po⟩ := q
  exact ⟨W, s, M, m, sr, (Post.bind po).imp fun ds M1 W1 H1 x1 m1 p1 vs rvs => hv ds M1 W1 H1 vs Z σ Q m1 rvs p1⟩
theorem se_callB (hc : CallR X (.builtin id) r) (hv : FnV (gm X) r o) (hg : Gl X x) (hm : X.mg x = none) (hb : bootBuiltins x = some (.builtin id)) (ha : SA X Z (e :: es) fs) (hn : x ≠ "__name__" := by decide) (hdb : (x == ("__debug__" : Str)) = false := by decide)
    (he : starEach (e :: es) X.env = (false, eval e X.env) :: starEach es X.env := by rfl) (hpl : (backTo pos (starEach es X.env)).any (·.1) = false := by rfl) : SE X Z (.Call (.Name x p) (e :: es) [] pos) (eFn o fs) :=
  (pe_callB hc hg hm hb ha hn hdb he hpl).weak fun _ _ _ q => lift_fn hv q
theorem se_callTy (hc : CallR X (.type T) r) (hv : FnV (gm X) r o) (hg : Gl X x) (hm : X.mg x = none) (hb : bootBuiltins x = some (.type T)) (ha : SA X Z (e :: es) fs) (hn : x ≠ "__name__" := by decide) (hdb : (x == ("__debug__" : Str)) = false := by decide)
    (he : starEach (e :: es) X.env = (false, eval e X.env) :: starEach es X.env := by rfl) (hpl : (backTo pos (starEach es X.env)).any (·.1) = false := by rfl) : SE X Z (.Call (.Name x p) (e :: es) [] pos) (eFn o fs) :=
  (pe_callTy hc hg hm hb ha hn hdb he hpl).weak fun _ _ _ q => lift_fn hv q
theorem rds1 {G : Gm} {H : Hp} {W : Wd} {d : D} {vs : List V} (r : RDs G H W [d] vs) : ∃ v, vs = [v] ∧ RD G H W d v := by
  cases r with
  | cons h t => cases t; exact ⟨_, rfl, h⟩
theorem rds2 {G : Gm} {H : Hp} {W : Wd} {d d' : D} {vs : List V} (r : RDs G H W [d, d'] vs) : ∃ v v', vs = [v, v'] ∧ RD G H W d v ∧ RD G H W d' v' := by
  cases r with
  | cons h t =>
    obtain ⟨v', rfl, h'⟩ := rds1 t
    exact ⟨_, _, rfl, h, h'⟩
theorem ints_read {G : Gm} {H : Hp} {W : Wd} : ∀ {xs : List D} {vs : List V} {ns : List Int}, RDs G H W xs vs → intsOf xs = some ns → vs = ns.map V.int
  | _, _, _, .nil, e => by
    simp only [intsOf, Option.some.injEq] at e
    subst e
    rfl
  | _, _, _, .cons h r, e => by
    cases h with
    | int i =>
      simp only [intsOf, Option.map_eq_some_iff] at e
      obtain ⟨ns, e1, rfl⟩ := e
      rw [ints_read r e1]
      rfl
    | _ => simp [intsOf] at e
theorem bls_read {G : Gm} {H : Hp} {W : Wd} : ∀ {xs : List D} {vs : List V} {ns : List Bool}, RDs G H W xs vs → blsOf xs = some ns → vs = ns.map V.bl
  | _, _, _, .nil, e => by
    simp only [blsOf, Option.some.injEq] at e
    subst e
    rfl
  | _, _, _, .cons h r, e => by
    cases h with
    | bl i =>
      simp only [blsOf, Option.map_eq_some_iff] at e
      obtain ⟨ns, e1, rfl⟩ := e
      rw [bls_read r e1]
      rfl
    | _ => simp [blsOf] at e
def rLenU (K : PySem.W.Frag) : List V → Hp → VK → Prop := fun xs H Q => (∃ p ys, xs = [.ref p] ∧ (SqL K H p ys ∨ SqT K H p ys) ∧ Q (.int ys.length) H) ∨ (∃ z, xs = [.str z] ∧ z.length ≤ sizeLine ∧ Q (.int z.length) H)
theorem cr_lenU : CallR X (.builtin "len") (rLenU X.K) := call_len_seq.or call_len_str
theorem fv_len {G : Gm} : FnV G (rLenU G.K) bLen := by
  intro xs M W H vs Z t Q m rvs po
  unfold bLen at po
  split at po
  · obtain ⟨v, rfl, rv⟩ := rds1 rvs
    cases rv
    split at po
    · rename_i hz
      exact .inr ⟨_, rfl, line_le hz, po.here m _ (.int _)⟩
    · exact po.elim
  · obtain ⟨v, rfl, rv⟩ := rds1 rvs
    split at po
    · rename_i ys ey
      obtain ⟨a, ws, rfl, hq, r⟩ := seq_read m ey rv
      rw [r.length] at po
      exact .inl ⟨a, ws, rfl, hq, po.here m _ (.int _)⟩
    · exact po.elim
  · exact po.elim
theorem fv_tuple {G : Gm} : FnV G (fun xs H Q => ∃ p ys, xs = [.ref p] ∧ ((SqL G.K H p ys ∧ ∀ l, H l = none → Q (.ref l) (upd H l (.tup ys))) ∨ (SqT G.K H p ys ∧ Q (.ref p) H))) bTuple := by
  intro xs M W H vs Z t Q m rvs po
  unfold bTuple at po
  split at po
  · rename_i x
    obtain ⟨v, rfl, rv⟩ := rds1 rvs
    split at po
    · rename_i ys ey
      by_cases ht : ∃ zs, x = .tup zs
      · obtain ⟨zs, rfl⟩ := ht
        cases rv with
        | tup h1 r1 =>
          have ey' : some zs = some ys := ey
          cases ey'
          exact ⟨_, _, rfl, .inr ⟨h1.sq, po.here m _ (.tup h1 r1)⟩⟩
      · obtain ⟨a, ws, rfl, hq, r⟩ := seq_readL m ey (fun zs e => ht ⟨zs, e⟩) rv
        exact ⟨a, ws, rfl, .inl ⟨hq, fun q hq => new_tup m po r hq⟩⟩
    · exact po.elim
  · exact po.elim
theorem fv_all {G : Gm} : FnV G (rAll G.K) bAll := by
  intro xs M W H vs Z t Q m rvs po
  unfold bAll at po
  split at po
  · rename_i x
    obtain ⟨v, rfl, rv⟩ := rds1 rvs
    cases e : lstOf M x with
    | none => rw [e] at po; exact po.elim
    | some ds =>
      rw [e] at po
      obtain ⟨a, ws, rfl, hq, r⟩ := lst_read m e rv
      split at po
      · rename_i bs hb
        rw [bls_read r hb] at hq
        exact ⟨a, bs, rfl, .of hq, po.here m _ (.bl _)⟩
      · exact po.elim
  · exact po.elim
theorem fv_any {G : Gm} : FnV G (rAny G.K) bAny := by
  intro xs M W H vs Z t Q m rvs po
  unfold bAny at po
  split at po
  · rename_i x
    obtain ⟨v, rfl, rv⟩ := rds1 rvs
    cases e : lstOf M x with
    | none => rw [e] at po; exact po.elim
    | some ds =>
      rw [e] at po
      obtain ⟨a, ws, rfl, hq, r⟩ := lst_read m e rv
      split at po
      · rename_i bs hb
        rw [bls_read r hb] at hq
        exact ⟨a, bs, rfl, .of hq, po.here m _ (.bl _)⟩
      · exact po.elim
  · exact po.elim
theorem minL_spec : ∀ (r : List Int) (x : Int), minL x r ∈ x :: r ∧ ∀ y ∈ x :: r, minL x r ≤ y
  | [], x => ⟨List.mem_cons_self, fun y hy => by simp at hy; subst hy; exact Int.le_refl _⟩
  | z :: r, x => by
    obtain ⟨h1, h2⟩ := minL_spec r (if z < x then z else x)
    show minL (if z < x then z else x) r ∈ x :: z :: r ∧ ∀ y ∈ x :: z :: r, minL (if z < x then z else x) r ≤ y
    have h3 := h2 _ List.mem_cons_self
    constructor
    · rcases List.mem_cons.mp h1 with e | e
      · rw [e]
        split
        · exact List.mem_cons_of_mem _ List.mem_cons_self
        · exact List.mem_cons_self
      · exact List.mem_cons_of_mem _ (List.mem_cons_of_mem _ e)
    · intro y hy
      rcases List.mem_cons.mp hy with e | hy
      · subst e
        refine Int.le_trans h3 ?_; split <;> omega
      · rcases List.mem_cons.mp hy with e | hy
        · subst e
          refine Int.le_trans h3 ?_; split <;> omega
        · exact h2 y (List.mem_cons_of_mem _ hy)
theorem maxL_spec : ∀ (r : List Int) (x : Int), maxL x r ∈ x :: r ∧ ∀ y ∈ x :: r, y ≤ maxL x r
  | [], x => ⟨List.mem_cons_self, fun y hy => by simp at hy; subst hy; exact Int.le_refl _⟩
  | z :: r, x => by
    obtain ⟨h1, h2⟩ := maxL_spec r (if x < z then z else x)
    show maxL (if x < z then z else x) r ∈ x :: z :: r ∧ ∀ y ∈ x :: z :: r, y ≤ maxL (if x < z then z else x) r
    have h3 := h2 _ List.mem_cons_self
    constructor
    · rcases List.mem_cons.mp h1 with e | e
      · rw [e]
        split
        · exact List.mem_cons_of_mem _ List.mem_cons_self
        · exact List.mem_cons_self
      · exact List.mem_cons_of_mem _ (List.mem_cons_of_mem _ e)
    · intro y hy
      rcases List.mem_cons.mp hy with e | hy
      · subst e
        refine Int.le_trans ?_ h3; split <;> omega
      · rcases List.mem_cons.mp hy with e | hy
        · subst e
          refine Int.le_trans ?_ h3; split <;> omega
        · exact h2 y (List.mem_cons_of_mem _ hy)
theorem fv_min {G : Gm} : FnV G (fun xs H Q => (∃ i j, xs = [.int i, .int j] ∧ Q (.int (if j < i then j else i)) H) ∨ rMin G.K xs H Q) bMin := by
  intro xs M W H vs Z t Q m rvs po
  unfold bMin at po
  split at po
  · obtain ⟨v, v', rfl, rv, rv'⟩ := rds2 rvs
    cases rv; cases rv'
    exact .inl ⟨_, _, rfl, po.here m _ (.int _)⟩
  · rename_i x
    obtain ⟨v, rfl, rv⟩ := rds1 rvs
    cases e : lstOf M x with
    | none => rw [e] at po; exact po.elim
    | some ds =>
      rw [e] at po
      obtain ⟨a, ws, rfl, hq, r⟩ := lst_read m e rv
      split at po
      · rename_i y ys hb
        rw [ints_read r hb] at hq
        refine .inr ⟨a, y :: ys, rfl, .of hq, Nat.succ_pos _, fun k hk hl => ?_⟩
        obtain ⟨h1, h2⟩ := minL_spec ys y
        have e : k = minL y ys := Int.le_antisymm (hl _ h1) (h2 k hk)
        rw [e]
        exact po.here m _ (.int _)
      · exact po.elim
  · exact po.elim
theorem fv_max {G : Gm} : FnV G (fun xs H Q => (∃ i j, xs = [.int i, .int j] ∧ Q (.int (if j > i then j else i)) H) ∨ rMax G.K xs H Q) bMax := by
  intro xs M W H vs Z t Q m rvs po
  unfold bMax at po
  split at po
  · obtain ⟨v, v', rfl, rv, rv'⟩ := rds2 rvs
    cases rv; cases rv'
    exact .inl ⟨_, _, rfl, po.here m _ (.int _)⟩
  · rename_i x
    obtain ⟨v, rfl, rv⟩ := rds1 rvs
    cases e : lstOf M x with
    | none => rw [e] at po; exact po.elim
    | some ds =>
      rw [e] at po
      obtain ⟨a, ws, rfl, hq, r⟩ := lst_read m e rv
      split at po
      · rename_i y ys hb
        rw [ints_read r hb] at hq
        refine .inr ⟨a, y :: ys, rfl, .of hq, Nat.succ_pos _, fun k hk hl => ?_⟩
        obtain ⟨h1, h2⟩ := maxL_spec ys y
        have e : k = maxL y ys := Int.le_antisymm (h2 k hk) (hl _ h1)
        rw [e]
        exact po.here m _ (.int _)
      · exact po.elim
  · exact po.elim
theorem fv_abs {G : Gm} : FnV G (fun xs H Q => ∃ i, xs = [.int i] ∧ Q (.int (if i < 0 then -i else i)) H) bAbs := by
  intro xs M W H vs Z t Q m rvs po
  unfold bAbs at po
  split at po
  · obtain ⟨v, rfl, rv⟩ := rds1 rvs
    cases rv
    exact ⟨_, rfl, po.here m _ (.int _)⟩
  · exact po.elim
theorem fv_int {G : Gm} : FnV G (fun xs H Q => (∃ i, xs = [.int i] ∧ Q (.int i) H) ∨ ∃ k, xs = [.bl k] ∧ Q (.int (if k then 1 else 0)) H) bInt := by
  intro xs M W H vs Z t Q m rvs po
  unfold bInt at po
  split at po
  · obtain ⟨v, rfl, rv⟩ := rds1 rvs
    cases rv
    exact .inl ⟨_, rfl, po.here m _ (.int _)⟩
  · obtain ⟨v, rfl, rv⟩ := rds1 rvs
    cases rv
    exact .inr ⟨_, rfl, po.here m _ (.int _)⟩
  · exact po.elim
theorem fv_divmod {G : Gm} : FnV G (fun xs H Q => ∃ i j, xs = [.int i, .int j] ∧ CDivP i j ∧ ∀ p, H p = none → Q (.ref p) (upd H p (.tup [.int (i / j), .int (i % j)]))) bDivmod := by
  intro xs M W H vs Z t Q m rvs po
  unfold bDivmod at po
  split at po
  · obtain ⟨v, v', rfl, rv, rv'⟩ := rds2 rvs
    cases rv; cases rv'
    split at po
    · rename_i i j hc
      refine ⟨_, _, rfl, ⟨hc.1, ?_⟩, fun q hq => new_tup m po (.cons (.int _) (.cons (.int _) .nil)) hq⟩
      show (decide ((if j == 0 then 0 else j.natAbs.log2 / 30 + 1) > 300) && decide ((if i == 0 then 0 else i.natAbs.log2 / 30 + 1) > (if j == 0 then 0 else j.natAbs.log2 / 30 + 1) + 150)) = false
      have h2 := hc.2
      have h1 : ¬ ((if j == 0 then 0 else j.natAbs.log2 / 30 + 1) > 300) := by
        split
        · omega
        · omega
      rw [decide_eq_false h1, Bool.false_and]
    · exact po.elim
  · exact po.elim
theorem se_len (hg : Gl X "len") (hm : X.mg "len" = none) (ha : SA X Z [a] fs) (he : starEach [a] X.env = (false, eval a X.env) :: starEach [] X.env := by rfl) : SE X Z (.Call (.Name "len" p) [a] [] pos) (eFn bLen fs) := se_callB cr_lenU fv_len hg hm PySem.boot_len ha (by decide) (by decide) he rfl
theorem se_tuple (hg : Gl X "tuple") (hm : X.mg "tuple" = none) (ha : SA X Z [a] fs) (he : starEach [a] X.env = (false, eval a X.env) :: starEach [] X.env := by rfl) : SE X Z (.Call (.Name "tuple" p) [a] [] pos) (eFn bTuple fs) := se_callTy call_tuple_of fv_tuple hg hm boot_tuple ha (by decide) (by decide) he rfl
theorem se_all (hc : X.calm = true) (hg : Gl X "all") (hm : X.mg "all" = none) (ha : SA X Z [a] fs) (he : starEach [a] X.env = (false, eval a X.env) :: starEach [] X.env := by rfl) : SE X Z (.Call (.Name "all" p) [a] [] pos) (eFn bAll fs) := se_callB (cr_all hc) fv_all hg hm boot_all ha (by decide) (by decide) he rfl
theorem se_any (hc : X.calm = true) (hg : Gl X "any") (hm : X.mg "any" = none) (ha : SA X Z [a] fs) (he : starEach [a] X.env = (false, eval a X.env) :: starEach [] X.env := by rfl) : SE X Z (.Call (.Name "any" p) [a] [] pos) (eFn bAny fs) := se_callB (cr_any hc) fv_any hg hm boot_any ha (by decide) (by decide) he rfl
theorem se_min (hc : X.calm = true) (hg : Gl X "min") (hm : X.mg "min" = none) (ha : SA X Z (e :: es) fs) (he : starEach (e :: es) X.env = (false, eval e X.env) :: starEach es X.env := by rfl) (hpl : (backTo pos (starEach es X.env)).any (·.1) = false := by rfl) : SE X Z (.Call (.Name "min" p) (e :: es) [] pos) (eFn bMin fs) := se_callB ((call_min2 hc).or (cr_min hc)) fv_min hg hm boot_min ha (by decide) (by decide) he hpl
theorem se_max (hc : X.calm = true) (hg : Gl X "max") (hm : X.mg "max" = none) (ha : SA X Z (e :: es) fs) (he : starEach (e :: es) X.env = (false, eval e X.env) :: starEach es X.env := by rfl) (hpl : (backTo pos (starEach es X.env)).any (·.1) = false := by rfl) : SE X Z (.Call (.Name "max" p) (e :: es) [] pos) (eFn bMax fs) := se_callB ((call_max2 hc).or (cr_max hc)) fv_max hg hm boot_max ha (by decide) (by decide) he hpl
theorem se_abs (hg : Gl X "abs") (hm : X.mg "abs" = none) (ha : SA X Z [a] fs) (he : starEach [a] X.env = (false, eval a X.env) :: starEach [] X.env := by rfl) : SE X Z (.Call (.Name "abs" p) [a] [] pos) (eFn bAbs fs) := se_callB call_abs fv_abs hg hm boot_abs ha (by decide) (by decide) he rfl
theorem se_bint (hg : Gl X "int") (hm : X.mg "int" = none) (ha : SA X Z [a] fs) (he : starEach [a] X.env = (false, eval a X.env) :: starEach [] X.env := by rfl) : SE X Z (.Call (.Name "int" p) [a] [] pos) (eFn bInt fs) := se_callTy call_int1 fv_int hg hm boot_int ha (by decide) (by decide) he rfl
theorem se_divmod (hg : Gl X "divmod") (hm : X.mg "divmod" = none) (ha : SA X Z [a, b] fs) (he : starEach [a, b] X.env = (false, eval a X.env) :: starEach [b] X.env := by rfl) (hpl : (backTo pos (starEach [b] X.env)).any (·.1) = false := by rfl) : SE X Z (.Call (.Name "divmod" p) [a, b] [] pos) (eFn bDivmod fs) := se_callB call_divmodW fv_divmod hg hm boot_divmod ha (by decide) (by decide) he hpl
theorem sn_list (hg : Gl X "list") (hm : X.mg "list" = none) (ha : SA X Z [a] fs) (he : starEach [a] X.env = (false, eval a X.env) :: starEach [] X.env := by rfl) : SN X Z (.Call (.Name "list" p) [a] [] pos) (nListOf fs) := by
  refine (pe_callTy call_list_of hg hm boot_list ha (by decide) (by decide) he rfl).weak fun σ H Q ⟨W, s, M, m, sr, po⟩ => ?_
  refine ⟨W, s, M, m, sr, (PostN.bind m po).imp fun ds M1 W1 H1 x1 m1 p1 vs rvs => ?_⟩
  split at p1
  · obtain ⟨v, rfl, rv⟩ := rds1 rvs
    split at p1
    · rename_i ys ey
      obtain ⟨a1, ws, rfl, hq, r⟩ := seq_read m1 ey rv
      exact ⟨a1, ws, rfl, hq, fun q hq' => new_n (.refl _ _) m1 m1 p1 r hq'⟩
    · exact p1.elim
  · exact p1.elim
def tyNames : List String := ["NoneType", "bool", "int", "str", "tuple", "list", "dict"]
def clNames : List String := ["bool", "int", "str", "tuple", "list", "dict"]
theorem kit_all : ∀ t ∈ tyNames, ∀ c ∈ clNames, kitB t c = some (isTy t c) := by decide +kernel
theorem ty_read {G : Gm} {H : Hp} {W : Wd} {M : Mem} {x : D} {v : V} {t : String} (m : MR G H W M) (e : tyOf M x = some t) (rv : RD G H W x v) : TyX G.K H v (.type t) ∧ t ∈ tyNames := by
  cases rv with
  | non => cases e; exact ⟨.base .non, by decide⟩
  | bl b => cases e; exact ⟨.base (.bl b), by decide⟩
  | int b => cases e; exact ⟨.base (.int b), by decide⟩
  | str b => cases e; exact ⟨.base (.str b), by decide⟩
  | tup h r =>
    cases e
    refine ⟨?_, by decide⟩
    rcases h with ⟨h | ⟨o, h⟩, _⟩ | ⟨o, _, _, h, hc, _⟩
    · exact .base (.tup h)
    · exact .fTuple h
    · exact .kTuple h hc
  | lst h r => cases e; exact ⟨.base (.lst h.1), by decide⟩
  | scr h =>
    cases e
    refine ⟨?_, by decide⟩
    rcases h with ⟨h | ⟨o, h⟩, _⟩ | ⟨o, _, _, h, hc, _⟩
    · exact .base (.lst h)
    · exact .base (.frz h)
    · exact .kList h hc
  | dct h _ _ _ =>
    cases e
    exact ⟨.fDict h, by decide⟩
  | dtt h _ _ _ => cases e
  | exn _ _ _ _ _ _ => cases e
  | key _ _ => cases e
  | clo _ _ _ _ _ => cases e
  | ref q =>
    rename_i h
    have e' : (match M[h]? with | some (.lst _) => some "list" | some (.dct _ _) => some "dict" | _ => none) = some t := e
    cases c : M[h]? with
    | none => rw [c] at e'; cases e'
    | some k =>
      rw [c] at e'
      cases k with
      | lst ds =>
        cases e'
        obtain ⟨vs, h1, h2, _⟩ := m.cell h _ c
        exact ⟨.base (.lst h1), by decide⟩
      | dct ks ds =>
        cases e'
        obtain ⟨vs, h1, h2, _⟩ := m.cell h _ c
        exact ⟨.base (.dK h1), by decide⟩
      | _ => cases e'
theorem kitAny_of {K : PySem.W.Frag} {t : String} (ht : t ∈ tyNames) : ∀ cs : List String, (∀ c ∈ cs, c ∈ clNames) → PySem.W.kitAny K (.type t) (cs.map Value.type) = some (cs.any (isTy t))
  | [], _ => rfl
  | c :: cs, h => by
    have hk := kit_ty (K := K) (kit_all t ht c (h c List.mem_cons_self))
    have ih := kitAny_of (K := K) ht cs fun d hd => h d (List.mem_cons_of_mem _ hd)
    rw [List.map_cons, List.any_cons]
    refine kitAny_cons hk (fun e => ?_) (fun e => ?_)
    · rw [e, Bool.false_or]; exact ih
    · rw [e, Bool.true_or]
theorem se_isi {T : Str} {cl : String} {p2 : Pos} (hg : Gl X "isinstance") (hm : X.mg "isinstance" = none) (gT : Gl X T) (mT : X.mg T = none) (bT : bootBuiltins T = some (.type cl)) (hcl : cl ∈ clNames) (ha : SE X Z a f) (hnT : T ≠ "__name__" := by decide) (hdT : (T == ("__debug__" : Str)) = false := by decide)
    (he : starEach [a, .Name T p2] X.env = (false, eval a X.env) :: starEach [.Name T p2] X.env := by rfl) (hpl : (backTo pos (starEach [.Name T p2] X.env)).any (·.1) = false := by rfl) (he2 : starEach [.Name T p2] X.env = (false, eval (.Name T p2) X.env) :: starEach [] X.env := by rfl) :
    SE X Z (.Call (.Name "isinstance" p) [a, .Name T p2] [] pos) (eUn (oIsi [cl]) f) := by
  have q := pe_callB (p := p) (pos := pos) (call_isi (X := X)) hg hm boot_isinstance (pa_cons (es := [.Name T p2]) ha (pa_cons (pe_bltn (v := .ty cl) gT mT bT rfl hnT hdT) pa_nil he2) he) (by decide) (by decide) he hpl
  refine q.weak fun σ H Q ⟨W, s, M, m, sr, po⟩ => ?_
  refine ⟨W, s, M, m, sr, (Post.bind po).imp fun x M1 W1 H1 x1 m1 p1 v rv => ?_⟩
  unfold oIsi at p1
  split at p1
  · rename_i t et
    obtain ⟨ty, ht⟩ := ty_read m1 et rv
    refine ⟨v, .ty cl, .type t, .type cl, isTy t cl, rfl, .ty cl, ty, kit_ty (kit_all t ht cl hcl), ?_⟩
    have e : ([cl].any (isTy t)) = isTy t cl := by simp
    rw [e] at p1
    exact p1.here m1 _ (.bl _)
  · exact p1.elim
theorem se_isi2 {T U : Str} {cl cu : String} {p2 p3 p4 : Pos} {k : Nat} (hg : Gl X "isinstance") (hm : X.mg "isinstance" = none) (gT : Gl X T) (mT : X.mg T = none) (bT : bootBuiltins T = some (.type cl)) (hcl : cl ∈ clNames) (gU : Gl X U) (mU : X.mg U = none) (bU : bootBuiltins U = some (.type cu)) (hcu : cu ∈ clNames) (ha : SE X Z a f)
    (hnT : T ≠ "__name__" := by decide) (hdT : (T == ("__debug__" : Str)) = false := by decide) (hnU : U ≠ "__name__" := by decide) (hdU : (U == ("__debug__" : Str)) = false := by decide)
    (he : starEach [a, .Tuple [.Name T p2, .Name U p3] k p4] X.env = (false, eval a X.env) :: starEach [.Tuple [.Name T p2, .Name U p3] k p4] X.env := by rfl) (hpl : (backTo pos (starEach [.Tuple [.Name T p2, .Name U p3] k p4] X.env)).any (·.1) = false := by rfl) (he2 : starEach [.Tuple [.Name T p2, .Name U p3] k p4] X.env = (false, eval (.Tuple [.Name T p2, .Name U p3] k p4) X.env) :: starEach [] X.env := by rfl)
    (he3 : starEach [.Name T p2, .Name U p3] X.env = (false, eval (.Name T p2) X.env) :: starEach [.Name U p3] X.env := by rfl) (he4 : starEach [.Name U p3] X.env = (false, eval (.Name U p3) X.env) :: starEach [] X.env := by rfl) :
    SE X Z (.Call (.Name "isinstance" p) [a, .Tuple [.Name T p2, .Name U p3] k p4] [] pos) (eUn (oIsi [cl, cu]) f) := by
  have q := pe_callB (p := p) (pos := pos) (call_isiT (X := X)) hg hm boot_isinstance (pa_cons (es := [.Tuple [.Name T p2, .Name U p3] k p4]) ha (pa_cons (pe_tup (pa_cons (pe_bltn (v := .ty cl) gT mT bT rfl hnT hdT) (pa_cons (pe_bltn (v := .ty cu) gU mU bU rfl hnU hdU) pa_nil he4) he3)) pa_nil he2) he) (by decide) (by decide) he hpl
  refine q.weak fun σ H Q ⟨W, s, M, m, sr, po⟩ => ?_
  refine ⟨W, s, M, m, sr, (Post.bind po).imp fun x M1 W1 H1 x1 m1 p1 v rv => ?_⟩
  unfold oIsi at p1
  split at p1
  · rename_i t et
    refine ⟨by show 2 ≤ sizeLine; decide, fun q hq => ?_⟩
    obtain ⟨ty, ht⟩ := ty_read (m1.new (o := .tup [.ty cl, .ty cu]) hq) et (rv.mono (m1.xnew hq).toLe)
    refine ⟨v, q, [.ty cl, .ty cu], .type t, [.type cl, .type cu], _, rfl, upd_same, .cons (.ty cl) (.cons (.ty cu) .nil), ty, kitAny_of ht [cl, cu] (fun c hc => ?_), ?_⟩
    · rcases List.mem_cons.mp hc with rfl | hc
      · exact hcl
      · rw [List.mem_singleton.mp hc]; exact hcu
    · exact p1 W1 _ (m1.xnew hq) (m1.new hq) _ (.bl _)
  · exact p1.elim
end
end LW
namespace LW
open PySem PySem.Spec PyProof.Rows L2
/-- an iterator over a list or a tuple -/
def SIt (tp : Bool) (h : Heap) (it a : Addr) (k : Nat) : Prop := if tp = true then h.IsTupleIter it a k else h.IsListIter it a k
def SOb (tp : Bool) (h : Heap) (a : Addr) (xs : Array Value) : Prop := if tp = true then h.IsTuple a xs else h.IsList a xs
section
variable {tp : Bool} {h h' : Heap} {it a : Addr} {k : Nat} {xs : Array Value}
theorem SIt.at (st : SIt tp h it a k) (e : ∀ o, h.get? it = some o → h'.get? it = some o) : SIt tp h' it a k := by
  cases tp with
  | true => exact Heap.IsTupleIter.at (show h.IsTupleIter it a k from st) e
  | false => exact Heap.IsListIter.at (show h.IsListIter it a k from st) e
theorem SOb.at (st : SOb tp h a xs) (e : ∀ o, h.get? a = some o → h'.get? a = some o) : SOb tp h' a xs := by
  cases tp with
  | true => exact Heap.IsTuple.at (show h.IsTuple a xs from st) e
  | false => exact Heap.IsList.at (show h.IsList a xs from st) e
theorem SIt.obj (st : SIt tp h it a k) : ∃ o, h.get? it = some o ∧ ∀ v, o.data ≠ .cell v := by
  cases tp with
  | true => obtain ⟨o, e, c, d⟩ := (show h.IsTupleIter it a k from st); exact ⟨o, e, fun v z => by rw [d] at z; cases z⟩
  | false => obtain ⟨o, e, c, d⟩ := (show h.IsListIter it a k from st); exact ⟨o, e, fun v z => by rw [d] at z; cases z⟩
theorem SIt.lt (st : SIt tp h it a k) : it < h.objs.size := let ⟨_, e, _⟩ := st.obj; Heap.lt_size e
theorem SOb.lt (st : SOb tp h a xs) : a < h.objs.size := by
  cases tp with
  | true => obtain ⟨o, e, _⟩ := (show h.IsTuple a xs from st); exact Heap.lt_size e
  | false => obtain ⟨o, e, _⟩ := (show h.IsList a xs from st); exact Heap.lt_size e
end
section
variable {prog : Program} {w : World} {A : Around} {E : Value → Shared → Prop} {s : Shared} {tp : Bool} {it a : Addr} {k : Nat} {xs : Array Value} {x : Value}
theorem nextOf_item {Q : Value → Shared → Prop} (hit : SIt tp s.heap it a k) (hl : SOb tp s.heap a xs) (hx : xs[k]? = some x)
    (hQ : ∀ h', SIt tp h' it a (k + 1) → Heap.SameBut it s.heap h' → Q x { s with heap := h' }) : wpAny (model prog w) A (Builtin.SmallTypes.nextOf (.ref it)) Q E s := by
  cases tp with
  | true => exact RZ.nextOf_tuple_item (show s.heap.IsTupleIter it a k from hit) (show s.heap.IsTuple a xs from hl) hx hQ
  | false => exact wpAny_nextOf_list_item (show s.heap.IsListIter it a k from hit) (show s.heap.IsList a xs from hl) hx hQ
theorem nextOf_end {Q : Value → Shared → Prop} (hh : A.handled = none) (hit : SIt tp s.heap it a k) (hl : SOb tp s.heap a xs) (hx : xs[k]? = none)
    (hE : ∀ h' e, Heap.ExtBut it s.heap h' → (∃ o, h'.get? e = some o ∧ o.cls = .type "StopIteration") → E (.ref e) { s with heap := h' }) : wpAny (model prog w) A (Builtin.SmallTypes.nextOf (.ref it)) Q E s := by
  cases tp with
  | true => exact RZ.nextOf_tuple_end hh (show s.heap.IsTupleIter it a k from hit) (show s.heap.IsTuple a xs from hl) hx hE
  | false => exact wpAny_nextOf_list_end hh (show s.heap.IsListIter it a k from hit) (show s.heap.IsList a xs from hl) hx hE
theorem nextOrEnd_item {Q : Option Value → Shared → Prop} (hit : SIt tp s.heap it a k) (hl : SOb tp s.heap a xs) (hx : xs[k]? = some x)
    (hQ : ∀ h', SIt tp h' it a (k + 1) → Heap.SameBut it s.heap h' → Q (some x) { s with heap := h' }) : wpAny (model prog w) A (Builtin.SmallTypes.nextOrEnd (.ref it)) Q E s := by
  unfold Builtin.SmallTypes.nextOrEnd
  exact wpAny_bind (wpAny_attempt (nextOf_item hit hl hx fun h' a1 a2 => wpAny_pure (hQ h' a1 a2)))
theorem nextOrEnd_end {Q : Option Value → Shared → Prop} (hh : A.handled = none) (hit : SIt tp s.heap it a k) (hl : SOb tp s.heap a xs) (hx : xs[k]? = none)
    (hQ : ∀ h', Heap.ExtBut it s.heap h' → Q none { s with heap := h' }) : wpAny (model prog w) A (Builtin.SmallTypes.nextOrEnd (.ref it)) Q E s := by
  unfold Builtin.SmallTypes.nextOrEnd
  refine wpAny_bind (wpAny_attempt (nextOf_end hh hit hl hx fun h' e eb he => ?_))
  obtain ⟨o, ho, hc⟩ := he
  refine wpAny_bind (wpAny_isInstance (T := "StopIteration") (b := true) ⟨o, ho, hc⟩ isSubtype_stop ?_)
  exact wpAny_pure (hQ _ eb)
/-- a zip, strict or not -/
abbrev IsZ (h : Heap) (z TI TO : Addr) (st : Bool) (f0 : Value) : Prop :=
  h.get? z = some { cls := .type "zip", dict := none, data := .fields #[f0, .bool false, .bool st, .ref TI, .ref TO], slots := #[] }
abbrev IsTupV (h : Heap) (T : Addr) (vs : List Value) : Prop := h.get? T = some { cls := .type "tuple", data := .seq vs.toArray }
variable {z TI TO i1 i2 a1 a2 : Addr} {t1 t2 st : Bool} {xs1 xs2 : Array Value} {u v p q : Value}
theorem zdraw_item {Q : Option Value → Shared → Prop} (hit : SIt tp s.heap it a k) (hl : SOb tp s.heap a xs) (hx : xs[k]? = some x)
    (hQ : ∀ h', SIt tp h' it a (k + 1) → Heap.SameBut it s.heap h' → Q (some x) { s with heap := h' }) : wpAny (model prog w) A (if st = true then Builtin.SmallTypes.nextOrEnd (.ref it) else do return some (← Builtin.SmallTypes.nextOf (.ref it))) Q E s := by
  cases st with
  | true => exact nextOrEnd_item hit hl hx hQ
  | false => exact wpAny_bind (nextOf_item hit hl hx fun h' b1 b2 => wpAny_pure (hQ h' b1 b2))
theorem upd_tupv {T : Addr} {vs : List Value} {x : Value} {k : Nat} {Q : Unit → Shared → Prop} (hT : IsTupV s.heap T vs) (hv : vs.length ≤ 100)
    (h : ∀ h', IsTupV h' T (vs.set k x) → Heap.SameBut T s.heap h' → Q () { s with heap := h' }) : wpAny (model prog w) A (updateSeq T (·.setIfInBounds k x)) Q E s := by
  refine wpAny_updateSeq hT rfl (h _ ?_ (Heap.SameBut.update ..)) (line_le (by rw [List.size_toArray]; omega)) (Nat.le_succ_of_le (line_le (by simp; omega)))
  show Heap.get? _ T = _
  rw [Heap.get?_update_self _ hT rfl]
  simp [Obj.mapSeq]
/-- StopIteration is raised -/
theorem stop_raise {α : Type} {Q : α → Shared → Prop} (hh : A.handled = none) (hE : ∀ h' e, (∀ b o, s.heap.get? b = some o → h'.get? b = some o) → (∃ o, h'.get? e = some o ∧ o.cls = .type "StopIteration") → E (.ref e) { s with heap := h' }) :
    wpAny (model prog w) A (Builtin.SmallTypes.stopIteration (α := α)) Q E s := by
  unfold Builtin.SmallTypes.stopIteration
  show wpAny _ _ (newExc (.type "StopIteration") [] >>= _) _ _ _
  refine wpAny_bind ?_
  simp only [newExc, newTuple]
  refine wpAny_bind (wpAny_newObj_type ?_ (by size_fits))
  refine wpAny_bind (m := firstArgMember _ _) (wpAny_of_eq (a := Value.none) (by first | rfl | (simp only [firstArgMember]; rfl)) ?_)
  refine wpAny_newObj_type ?_ (by size_fits)
  simp only [raiseNew]
  refine wpAny_bind (wpAny_handled ?_)
  first | rw [show A.in1.handled = none from hh] | rw [hh]
  refine wpAny_bind (wpAny_pure (wpAny_throw ?_))
  exact hE _ _ (fun b o e => Heap.get?_push_of_some _ (Heap.get?_push_of_some _ e)) ⟨_, Heap.get?_push_size _ rfl, rfl⟩
end
structure Apart2 (z TI TO i1 i2 a1 a2 : Addr) : Prop where
  TI_z : TI ≠ z
  TO_z : TO ≠ z
  TI_TO : TI ≠ TO
  i1_z : i1 ≠ z
  TI_i1 : TI ≠ i1
  TO_i1 : TO ≠ i1
  i2_z : i2 ≠ z
  TI_i2 : TI ≠ i2
  TO_i2 : TO ≠ i2
  i1_i2 : i1 ≠ i2
  a1_z : a1 ≠ z
  a1_TO : a1 ≠ TO
  a1_i1 : a1 ≠ i1
  a1_i2 : a1 ≠ i2
  a2_z : a2 ≠ z
  a2_TO : a2 ≠ TO
  a2_i1 : a2 ≠ i1
  a2_i2 : a2 ≠ i2
section
variable {prog : Program} {w : World} {A : Around} {E : Value → Shared → Prop} {s : Shared} {k : Nat} {st : Bool} {z TI TO i1 i2 a1 a2 : Addr} {t1 t2 : Bool} {xs1 xs2 : Array Value} {u1 u2 p1 p2 : Value}
theorem zip2_item {Q : Value → Shared → Prop} (D : Apart2 z TI TO i1 i2 a1 a2) (hz : IsZ s.heap z TI TO st .none) (hTI : IsTupV s.heap TI [.ref i1, .ref i2]) (hTO : IsTupV s.heap TO [p1, p2]) (h1 : SIt t1 s.heap i1 a1 k) (h2 : SIt t2 s.heap i2 a2 k) (l1 : SOb t1 s.heap a1 xs1) (l2 : SOb t2 s.heap a2 xs2) (x1 : xs1[k]? = some u1) (x2 : xs2[k]? = some u2)
    (hQ : ∀ h', IsZ h' z TI TO st (rawInt s.heap.objs.size) → IsTupV h' TO [u1, u2] → SIt t1 h' i1 a1 (k + 1) → SIt t2 h' i2 a2 (k + 1) → IsTupV h' s.heap.objs.size [u1, u2] → h'.objs.size = s.heap.objs.size + 1 →
      (∀ c o, c ≠ z → c ≠ TO → c ≠ i1 → c ≠ i2 → s.heap.get? c = some o → h'.get? c = some o) → Q (.ref s.heap.objs.size) { s with heap := h' }) :
    wpAny (model prog w) A (Builtin.«zip.__next__» ⟨[.ref z], []⟩) (fun fin s' => ∃ v, fin = .done (.ret v) ∧ Q v s') E s := by
  show wpAny _ _ (field (.ref z) 2 >>= _) _ _ _
  refine wpAny_bind (wpAny_field hz rfl (x := .bool st) rfl ?_)
  show wpAny _ _ (field (.ref z) 3 >>= _) _ _ _
  refine wpAny_bind (wpAny_field hz rfl (x := .ref TI) rfl ?_)
  refine wpAny_bind (wpAny_seqItems hTI rfl ?_)
  show wpAny _ _ (Builtin.SmallTypes.ownedTupleIsFree (.ref z) >>= _) _ _ _
  refine wpAny_bind ?_
  unfold Builtin.SmallTypes.ownedTupleIsFree
  refine wpAny_bind (wpAny_field hz rfl (x := .none) rfl (wpAny_pure ?_))
  simp only [if_true]
  refine wpAny_bind (wpAny_rule ?_)
  refine wpAny_bind (wpAny_field hz rfl (x := .ref TO) rfl ?_)
  refine wpAny_bind (wpAny_setField_rec hz (by simp) fun h_0 hz_0 hs_0 => ?_)
  replace hz_0 : IsZ h_0 z TI TO st .ellipsis := hz_0
  have e_0 : ∀ c o, c ≠ z → s.heap.get? c = some o → h_0.get? c = some o := fun c o c1 e => hs_0.extBut _ _ c1 e
  have sz_0 : h_0.objs.size = s.heap.objs.size := hs_0.1
  have TO_0 : IsTupV h_0 TO [p1, p2] := e_0 _ _ D.TO_z hTO
  refine wpAny_bind ?_
  simp only [List.zipIdx_cons, List.zipIdx_nil, List.forIn_cons, List.forIn_nil]
  refine wpAny_bind (wpAny_bind (wpAny_onRaise ?_))
  refine zdraw_item (st := (Value.bool st == Value.bool true)) (h1.at fun o e => e_0 _ o D.i1_z e) (l1.at fun o e => e_0 _ o D.a1_z e) x1 fun g_1 it_1 gs_1 => ?_
  have gT_1 : IsTupV g_1 TO [p1, p2] := gs_1.extBut _ _ D.TO_i1 TO_0
  refine wpAny_bind (wpAny_seqItems gT_1 rfl ?_)
  refine wpAny_bind (upd_tupv gT_1 (by simp) fun h_1 TO_1 hs_1 => ?_)
  replace TO_1 : IsTupV h_1 TO [u1, p2] := TO_1
  have e_1 : ∀ c o, c ≠ z → c ≠ TO → c ≠ i1 → s.heap.get? c = some o → h_1.get? c = some o := fun c o c1 c2 d1 e => hs_1.extBut _ _ c2 (gs_1.extBut _ _ d1 (e_0 c o c1  e))
  have sz_1 : h_1.objs.size = s.heap.objs.size := by rw [hs_1.1, gs_1.1, sz_0]
  have hz_1 : IsZ h_1 z TI TO st .ellipsis := hs_1.extBut _ _ D.TO_z.symm (gs_1.extBut _ _ D.i1_z.symm hz_0)
  have it_1_1 : SIt t1 h_1 i1 a1 (k + 1) := it_1.at fun o e => hs_1.extBut _ _ D.TO_i1.symm e
  refine wpAny_bind (wpAny_letGo (wpAny_pure ?_))
  refine wpAny_bind (wpAny_bind (wpAny_onRaise ?_))
  refine zdraw_item (st := (Value.bool st == Value.bool true)) (h2.at fun o e => e_1 _ o D.i2_z D.TO_i2.symm D.i1_i2.symm e) (l2.at fun o e => e_1 _ o D.a2_z D.a2_TO D.a2_i1 e) x2 fun g_2 it_2 gs_2 => ?_
  have gT_2 : IsTupV g_2 TO [u1, p2] := gs_2.extBut _ _ D.TO_i2 TO_1
  refine wpAny_bind (wpAny_seqItems gT_2 rfl ?_)
  refine wpAny_bind (upd_tupv gT_2 (by simp) fun h_2 TO_2 hs_2 => ?_)
  replace TO_2 : IsTupV h_2 TO [u1, u2] := TO_2
  have e_2 : ∀ c o, c ≠ z → c ≠ TO → c ≠ i1 → c ≠ i2 → s.heap.get? c = some o → h_2.get? c = some o := fun c o c1 c2 d1 d2 e => hs_2.extBut _ _ c2 (gs_2.extBut _ _ d2 (e_1 c o c1 c2 d1 e))
  have sz_2 : h_2.objs.size = s.heap.objs.size := by rw [hs_2.1, gs_2.1, sz_1]
  have hz_2 : IsZ h_2 z TI TO st .ellipsis := hs_2.extBut _ _ D.TO_z.symm (gs_2.extBut _ _ D.i2_z.symm hz_1)
  have it_1_2 : SIt t1 h_2 i1 a1 (k + 1) := it_1_1.at fun o e => hs_2.extBut _ _ D.TO_i1.symm (gs_2.extBut _ _ D.i1_i2 e)
  have it_2_2 : SIt t2 h_2 i2 a2 (k + 1) := it_2.at fun o e => hs_2.extBut _ _ D.TO_i2.symm e
  refine wpAny_bind (wpAny_letGo (wpAny_pure (wpAny_pure ?_)))
  refine wpAny_bind (wpAny_seqItems TO_2 rfl ?_)
  refine wpAny_bind (wpAny_newTuple ?_)
  have zlt : z < h_2.objs.size := Heap.lt_size hz_2
  show wpAny _ _ (Builtin.SmallTypes.ownedTupleHandOut (.ref z) (.ref h_2.objs.size) >>= _) _ _ _
  refine wpAny_bind ?_
  unfold Builtin.SmallTypes.ownedTupleHandOut
  have hz6 : IsZ (h_2.push { cls := .type "tuple", data := .seq #[u1, u2] }) z TI TO st .ellipsis := Heap.get?_push_of_some _ hz_2
  refine wpAny_bind (wpAny_setField_rec hz6 (by simp) fun h7 hz7 hs7 => ?_)
  replace hz7 : IsZ h7 z TI TO st (rawInt h_2.objs.size) := hz7
  refine wpAny_setField_rec hz7 (by simp) fun h8 hz8 hs8 => ?_
  replace hz8 : IsZ h8 z TI TO st (rawInt h_2.objs.size) := hz8
  have up : ∀ c o, c ≠ z → h_2.get? c = some o → h8.get? c = some o := fun c o c1 e => hs8.extBut _ _ c1 (hs7.extBut _ _ c1 (Heap.get?_push_of_some _ e))
  have hT8 : IsTupV h8 h_2.objs.size [u1, u2] := hs8.extBut _ _ (Nat.ne_of_gt zlt) (hs7.extBut _ _ (Nat.ne_of_gt zlt) (Heap.get?_push_size _ rfl))
  have sz8 : h8.objs.size = h_2.objs.size + 1 := by rw [hs8.1, hs7.1, Heap.size_push]
  rw [sz_2] at hz8 hT8 sz8
  refine wpAny_pure ⟨_, rfl, ?_⟩
  show Q (.ref h_2.objs.size) _
  rw [sz_2]
  exact hQ h8 hz8 (up _ _ D.TO_z TO_2) (it_1_2.at fun o e => up _ o D.i1_z e) (it_2_2.at fun o e => up _ o D.i2_z e) hT8 sz8 fun c o c1 c2 d1 d2 e => up c o c1 (e_2 c o c1 c2 d1 d2 e)
theorem zip2_end {Q : Fin → Shared → Prop} (hh : A.handled = none) (D : Apart2 z TI TO i1 i2 a1 a2) (hz : IsZ s.heap z TI TO st .none) (hTI : IsTupV s.heap TI [.ref i1, .ref i2]) (hTO : IsTupV s.heap TO [p1, p2]) (h1 : SIt t1 s.heap i1 a1 k) (h2 : SIt t2 s.heap i2 a2 k) (l1 : SOb t1 s.heap a1 xs1) (l2 : SOb t2 s.heap a2 xs2) (hend : (xs1[k]? = none ∧ xs2[k]? = none) ∨ (st = false ∧ (xs1[k]? = none ∨ xs2[k]? = none)))
    (hE : ∀ h' e, (∀ c o, c ≠ z → c ≠ TO → c ≠ i1 → c ≠ i2 → s.heap.get? c = some o → h'.get? c = some o) → (∃ o, h'.get? e = some o ∧ o.cls = .type "StopIteration") → E (.ref e) { s with heap := h' }) :
    wpAny (model prog w) A (Builtin.«zip.__next__» ⟨[.ref z], []⟩) Q E s := by
  show wpAny _ _ (field (.ref z) 2 >>= _) _ _ _
  refine wpAny_bind (wpAny_field hz rfl (x := .bool st) rfl ?_)
  show wpAny _ _ (field (.ref z) 3 >>= _) _ _ _
  refine wpAny_bind (wpAny_field hz rfl (x := .ref TI) rfl ?_)
  refine wpAny_bind (wpAny_seqItems hTI rfl ?_)
  show wpAny _ _ (Builtin.SmallTypes.ownedTupleIsFree (.ref z) >>= _) _ _ _
  refine wpAny_bind ?_
  unfold Builtin.SmallTypes.ownedTupleIsFree
  refine wpAny_bind (wpAny_field hz rfl (x := .none) rfl (wpAny_pure ?_))
  simp only [if_true]
  refine wpAny_bind (wpAny_rule ?_)
  refine wpAny_bind (wpAny_field hz rfl (x := .ref TO) rfl ?_)
  refine wpAny_bind (wpAny_setField_rec hz (by simp) fun h_0 hz_0 hs_0 => ?_)
  replace hz_0 : IsZ h_0 z TI TO st .ellipsis := hz_0
  have e_0 : ∀ c o, c ≠ z → s.heap.get? c = some o → h_0.get? c = some o := fun c o c1 e => hs_0.extBut _ _ c1 e
  have sz_0 : h_0.objs.size = s.heap.objs.size := hs_0.1
  have TO_0 : IsTupV h_0 TO [p1, p2] := e_0 _ _ D.TO_z hTO
  refine wpAny_bind ?_
  simp only [List.zipIdx_cons, List.zipIdx_nil, List.forIn_cons, List.forIn_nil]
  cases st with
  | true =>
    have hall : xs1[k]? = none ∧ xs2[k]? = none := hend.elim id fun z => Bool.noConfusion z.1
    obtain ⟨n1, n2⟩ := hall
    refine wpAny_bind (wpAny_bind (wpAny_onRaise ?_))
    refine nextOrEnd_end hh (h1.at fun o e => e_0 _ o D.i1_z e) (l1.at fun o e => e_0 _ o D.a1_z e) n1 fun g_1 gs_1 => ?_
    have gz_1 : IsZ g_1 z TI TO true .ellipsis := gs_1 _ _ D.i1_z.symm hz_0
    refine wpAny_bind (wpAny_setField_rec gz_1 (by simp) fun q_1 qz_1 qs_1 => ?_)
    refine wpAny_bind ?_
    show wpAny _ _ (forIn [(Value.ref i2, 1)] _ _ >>= _) _ _ _
    simp only [List.forIn_cons, List.forIn_nil]
    have f_1 : ∀ c o, c ≠ z → c ≠ i1 → s.heap.get? c = some o → q_1.get? c = some o := fun c o c1 d1 e => qs_1.extBut _ _ c1 (gs_1 _ _ d1 (e_0 c o c1 e))
    refine wpAny_bind (wpAny_bind (wpAny_bind ?_))
    refine nextOrEnd_end hh (h2.at fun o e => f_1 _ o D.i2_z D.i1_i2.symm e) (l2.at fun o e => f_1 _ o D.a2_z D.a2_i1 e) n2 fun q_2 qs_2 => ?_
    simp only [Option.isSome_none, Bool.false_eq_true, if_false]
    refine wpAny_pure ?_
    have f_2 : ∀ c o, c ≠ z → c ≠ i1 → c ≠ i2 → s.heap.get? c = some o → q_2.get? c = some o := fun c o c1 d1 d2 e => qs_2 _ _ d2 (f_1 c o c1 d1 e)
    refine wpAny_pure ?_
    refine wpAny_bind (wpAny_rule ?_)
    exact stop_raise hh fun h' e hk he => hE h' e (fun c o c1 c2 d1 d2 x => hk c o (f_2 c o c1 d1 d2 x)) he
  | false =>
    have hsome : xs1[k]? = none ∨ xs2[k]? = none := hend.elim (fun z => .inl z.1) fun z => z.2
    refine wpAny_bind (wpAny_bind (wpAny_onRaise ?_))
    show wpAny _ _ (Builtin.SmallTypes.nextOf (.ref i1) >>= _) _ _ _
    cases x1 : xs1[k]? with
    | none =>
      refine wpAny_bind (nextOf_end hh (h1.at fun o e => e_0 _ o D.i1_z e) (l1.at fun o e => e_0 _ o D.a1_z e) x1 fun g_1 e gs_1 he => ?_)
      obtain ⟨oe, hoe, hce⟩ := he
      have hzg : IsZ g_1 z TI TO false .ellipsis := gs_1 _ _ D.i1_z.symm hz_0
      have hez : e ≠ z := fun x => by subst x; rw [hzg] at hoe; cases hoe; simp at hce
      exact wpAny_setField_rec hzg (by simp) fun h3 _ hs3 => hE h3 e (fun c o c1 c2 d1 d2 x => hs3.extBut _ _ c1 (gs_1 _ _ d1 (e_0 c o c1  x))) ⟨oe, hs3.extBut _ _ hez hoe, hce⟩
    | some u1 =>
      refine wpAny_bind (nextOf_item (h1.at fun o e => e_0 _ o D.i1_z e) (l1.at fun o e => e_0 _ o D.a1_z e) x1 fun g_1 it_1 gs_1 => wpAny_pure ?_)
      have gT_1 : IsTupV g_1 TO [p1, p2] := gs_1.extBut _ _ D.TO_i1 TO_0
      refine wpAny_bind (wpAny_seqItems gT_1 rfl ?_)
      refine wpAny_bind (upd_tupv gT_1 (by simp) fun h_1 TO_1 hs_1 => ?_)
      replace TO_1 : IsTupV h_1 TO [u1, p2] := TO_1
      have e_1 : ∀ c o, c ≠ z → c ≠ TO → c ≠ i1 → s.heap.get? c = some o → h_1.get? c = some o := fun c o c1 c2 d1 e => hs_1.extBut _ _ c2 (gs_1.extBut _ _ d1 (e_0 c o c1  e))
      have sz_1 : h_1.objs.size = s.heap.objs.size := by rw [hs_1.1, gs_1.1, sz_0]
      have hz_1 : IsZ h_1 z TI TO false .ellipsis := hs_1.extBut _ _ D.TO_z.symm (gs_1.extBut _ _ D.i1_z.symm hz_0)
      have it_1_1 : SIt t1 h_1 i1 a1 (k + 1) := it_1.at fun o e => hs_1.extBut _ _ D.TO_i1.symm e
      refine wpAny_bind (wpAny_letGo (wpAny_pure ?_))
      refine wpAny_bind (wpAny_bind (wpAny_onRaise ?_))
      show wpAny _ _ (Builtin.SmallTypes.nextOf (.ref i2) >>= _) _ _ _
      cases x2 : xs2[k]? with
      | none =>
        refine wpAny_bind (nextOf_end hh (h2.at fun o e => e_1 _ o D.i2_z D.TO_i2.symm D.i1_i2.symm e) (l2.at fun o e => e_1 _ o D.a2_z D.a2_TO D.a2_i1 e) x2 fun g_2 e gs_2 he => ?_)
        obtain ⟨oe, hoe, hce⟩ := he
        have hzg : IsZ g_2 z TI TO false .ellipsis := gs_2 _ _ D.i2_z.symm hz_1
        have hez : e ≠ z := fun x => by subst x; rw [hzg] at hoe; cases hoe; simp at hce
        exact wpAny_setField_rec hzg (by simp) fun h3 _ hs3 => hE h3 e (fun c o c1 c2 d1 d2 x => hs3.extBut _ _ c1 (gs_2 _ _ d2 (e_1 c o c1 c2 d1 x))) ⟨oe, hs3.extBut _ _ hez hoe, hce⟩
      | some u2 =>
        simp only [x1, x2, reduceCtorEq, or_self] at hsome
theorem zip2_next {Q : Option Value → Shared → Prop} (D : Apart2 z TI TO i1 i2 a1 a2) (hz : IsZ s.heap z TI TO st .none) (hTI : IsTupV s.heap TI [.ref i1, .ref i2]) (hTO : IsTupV s.heap TO [p1, p2]) (h1 : SIt t1 s.heap i1 a1 k) (h2 : SIt t2 s.heap i2 a2 k) (l1 : SOb t1 s.heap a1 xs1) (l2 : SOb t2 s.heap a2 xs2) (x1 : xs1[k]? = some u1) (x2 : xs2[k]? = some u2)
    (hQ : ∀ h', IsZ h' z TI TO st (rawInt s.heap.objs.size) → IsTupV h' TO [u1, u2] → SIt t1 h' i1 a1 (k + 1) → SIt t2 h' i2 a2 (k + 1) → IsTupV h' s.heap.objs.size [u1, u2] → h'.objs.size = s.heap.objs.size + 1 →
      (∀ c o, c ≠ z → c ≠ TO → c ≠ i1 → c ≠ i2 → s.heap.get? c = some o → h'.get? c = some o) → Q (some (.ref s.heap.objs.size)) { s with heap := h' }) : wpAny (model prog w) A (pyNext (.ref z)) Q E s := by
  have hT : s.TypeIs (.ref z) "zip" := ⟨_, hz, rfl⟩
  unfold pyNext
  exact wpAny_bind (wpAny_attempt (wpAny_callSpecial?_slot (name := Str.ofString "__next__") hT F.slot_zip_next
    (wpAny_call_entry F.slot_zip_next hT F.entry_zip_next
      (zip2_item D hz hTI hTO h1 h2 l1 l2 x1 x2 fun h' b1 b2 c1 c2 b3 b4 b5 => wpAny_pure (hQ h' b1 b2 c1 c2 b3 b4 b5)) (F.args_zip_next_1 _))))
theorem zip2_stop {Q : Option Value → Shared → Prop} (hh : A.handled = none) (D : Apart2 z TI TO i1 i2 a1 a2) (hz : IsZ s.heap z TI TO st .none) (hTI : IsTupV s.heap TI [.ref i1, .ref i2]) (hTO : IsTupV s.heap TO [p1, p2]) (h1 : SIt t1 s.heap i1 a1 k) (h2 : SIt t2 s.heap i2 a2 k) (l1 : SOb t1 s.heap a1 xs1) (l2 : SOb t2 s.heap a2 xs2) (hend : (xs1[k]? = none ∧ xs2[k]? = none) ∨ (st = false ∧ (xs1[k]? = none ∨ xs2[k]? = none)))
    (hQ : ∀ h', (∀ c o, c ≠ z → c ≠ TO → c ≠ i1 → c ≠ i2 → s.heap.get? c = some o → h'.get? c = some o) → Q none { s with heap := h' }) : wpAny (model prog w) A (pyNext (.ref z)) Q E s := by
  have hT : s.TypeIs (.ref z) "zip" := ⟨_, hz, rfl⟩
  unfold pyNext
  refine wpAny_bind (wpAny_attempt (wpAny_callSpecial?_slot (name := Str.ofString "__next__") hT F.slot_zip_next
    (wpAny_call_entry F.slot_zip_next hT F.entry_zip_next (zip2_end hh D hz hTI hTO h1 h2 l1 l2 hend fun h' e hk he => ?_) (F.args_zip_next_1 _))))
  obtain ⟨o, ho, hc⟩ := he
  refine wpAny_bind (wpAny_isInstance (T := "StopIteration") (b := true) ⟨o, ho, hc⟩ isSubtype_stop ?_)
  exact wpAny_pure (hQ _ hk)
end
structure Apart3 (z TI TO i1 i2 i3 a1 a2 a3 : Addr) : Prop where
  TI_z : TI ≠ z
  TO_z : TO ≠ z
  TI_TO : TI ≠ TO
  i1_z : i1 ≠ z
  TI_i1 : TI ≠ i1
  TO_i1 : TO ≠ i1
  i2_z : i2 ≠ z
  TI_i2 : TI ≠ i2
  TO_i2 : TO ≠ i2
  i3_z : i3 ≠ z
  TI_i3 : TI ≠ i3
  TO_i3 : TO ≠ i3
  i1_i2 : i1 ≠ i2
  i1_i3 : i1 ≠ i3
  i2_i3 : i2 ≠ i3
  a1_z : a1 ≠ z
  a1_TO : a1 ≠ TO
  a1_i1 : a1 ≠ i1
  a1_i2 : a1 ≠ i2
  a1_i3 : a1 ≠ i3
  a2_z : a2 ≠ z
  a2_TO : a2 ≠ TO
  a2_i1 : a2 ≠ i1
  a2_i2 : a2 ≠ i2
  a2_i3 : a2 ≠ i3
  a3_z : a3 ≠ z
  a3_TO : a3 ≠ TO
  a3_i1 : a3 ≠ i1
  a3_i2 : a3 ≠ i2
  a3_i3 : a3 ≠ i3
section
variable {prog : Program} {w : World} {A : Around} {E : Value → Shared → Prop} {s : Shared} {k : Nat} {st : Bool} {z TI TO i1 i2 i3 a1 a2 a3 : Addr} {t1 t2 t3 : Bool} {xs1 xs2 xs3 : Array Value} {u1 u2 u3 p1 p2 p3 : Value}
theorem zip3_item {Q : Value → Shared → Prop} (D : Apart3 z TI TO i1 i2 i3 a1 a2 a3) (hz : IsZ s.heap z TI TO st .none) (hTI : IsTupV s.heap TI [.ref i1, .ref i2, .ref i3]) (hTO : IsTupV s.heap TO [p1, p2, p3]) (h1 : SIt t1 s.heap i1 a1 k) (h2 : SIt t2 s.heap i2 a2 k) (h3 : SIt t3 s.heap i3 a3 k) (l1 : SOb t1 s.heap a1 xs1) (l2 : SOb t2 s.heap a2 xs2) (l3 : SOb t3 s.heap a3 xs3) (x1 : xs1[k]? = some u1) (x2 : xs2[k]? = some u2) (x3 : xs3[k]? = some u3)
    (hQ : ∀ h', IsZ h' z TI TO st (rawInt s.heap.objs.size) → IsTupV h' TO [u1, u2, u3] → SIt t1 h' i1 a1 (k + 1) → SIt t2 h' i2 a2 (k + 1) → SIt t3 h' i3 a3 (k + 1) → IsTupV h' s.heap.objs.size [u1, u2, u3] → h'.objs.size = s.heap.objs.size + 1 →
      (∀ c o, c ≠ z → c ≠ TO → c ≠ i1 → c ≠ i2 → c ≠ i3 → s.heap.get? c = some o → h'.get? c = some o) → Q (.ref s.heap.objs.size) { s with heap := h' }) :
    wpAny (model prog w) A (Builtin.«zip.__next__» ⟨[.ref z], []⟩) (fun fin s' => ∃ v, fin = .done (.ret v) ∧ Q v s') E s := by
  show wpAny _ _ (field (.ref z) 2 >>= _) _ _ _
  refine wpAny_bind (wpAny_field hz rfl (x := .bool st) rfl ?_)
  show wpAny _ _ (field (.ref z) 3 >>= _) _ _ _
  refine wpAny_bind (wpAny_field hz rfl (x := .ref TI) rfl ?_)
  refine wpAny_bind (wpAny_seqItems hTI rfl ?_)
  show wpAny _ _ (Builtin.SmallTypes.ownedTupleIsFree (.ref z) >>= _) _ _ _
  refine wpAny_bind ?_
  unfold Builtin.SmallTypes.ownedTupleIsFree
  refine wpAny_bind (wpAny_field hz rfl (x := .none) rfl (wpAny_pure ?_))
  simp only [if_true]
  refine wpAny_bind (wpAny_rule ?_)
  refine wpAny_bind (wpAny_field hz rfl (x := .ref TO) rfl ?_)
  refine wpAny_bind (wpAny_setField_rec hz (by simp) fun h_0 hz_0 hs_0 => ?_)
  replace hz_0 : IsZ h_0 z TI TO st .ellipsis := hz_0
  have e_0 : ∀ c o, c ≠ z → s.heap.get? c = some o → h_0.get? c = some o := fun c o c1 e => hs_0.extBut _ _ c1 e
  have sz_0 : h_0.objs.size = s.heap.objs.size := hs_0.1
  have TO_0 : IsTupV h_0 TO [p1, p2, p3] := e_0 _ _ D.TO_z hTO
  refine wpAny_bind ?_
  simp only [List.zipIdx_cons, List.zipIdx_nil, List.forIn_cons, List.forIn_nil]
  refine wpAny_bind (wpAny_bind (wpAny_onRaise ?_))
  refine zdraw_item (st := (Value.bool st == Value.bool true)) (h1.at fun o e => e_0 _ o D.i1_z e) (l1.at fun o e => e_0 _ o D.a1_z e) x1 fun g_1 it_1 gs_1 => ?_
  have gT_1 : IsTupV g_1 TO [p1, p2, p3] := gs_1.extBut _ _ D.TO_i1 TO_0
  refine wpAny_bind (wpAny_seqItems gT_1 rfl ?_)
  refine wpAny_bind (upd_tupv gT_1 (by simp) fun h_1 TO_1 hs_1 => ?_)
  replace TO_1 : IsTupV h_1 TO [u1, p2, p3] := TO_1
  have e_1 : ∀ c o, c ≠ z → c ≠ TO → c ≠ i1 → s.heap.get? c = some o → h_1.get? c = some o := fun c o c1 c2 d1 e => hs_1.extBut _ _ c2 (gs_1.extBut _ _ d1 (e_0 c o c1  e))
  have sz_1 : h_1.objs.size = s.heap.objs.size := by rw [hs_1.1, gs_1.1, sz_0]
  have hz_1 : IsZ h_1 z TI TO st .ellipsis := hs_1.extBut _ _ D.TO_z.symm (gs_1.extBut _ _ D.i1_z.symm hz_0)
  have it_1_1 : SIt t1 h_1 i1 a1 (k + 1) := it_1.at fun o e => hs_1.extBut _ _ D.TO_i1.symm e
  refine wpAny_bind (wpAny_letGo (wpAny_pure ?_))
  refine wpAny_bind (wpAny_bind (wpAny_onRaise ?_))
  refine zdraw_item (st := (Value.bool st == Value.bool true)) (h2.at fun o e => e_1 _ o D.i2_z D.TO_i2.symm D.i1_i2.symm e) (l2.at fun o e => e_1 _ o D.a2_z D.a2_TO D.a2_i1 e) x2 fun g_2 it_2 gs_2 => ?_
  have gT_2 : IsTupV g_2 TO [u1, p2, p3] := gs_2.extBut _ _ D.TO_i2 TO_1
  refine wpAny_bind (wpAny_seqItems gT_2 rfl ?_)
  refine wpAny_bind (upd_tupv gT_2 (by simp) fun h_2 TO_2 hs_2 => ?_)
  replace TO_2 : IsTupV h_2 TO [u1, u2, p3] := TO_2
  have e_2 : ∀ c o, c ≠ z → c ≠ TO → c ≠ i1 → c ≠ i2 → s.heap.get? c = some o → h_2.get? c = some o := fun c o c1 c2 d1 d2 e => hs_2.extBut _ _ c2 (gs_2.extBut _ _ d2 (e_1 c o c1 c2 d1 e))
  have sz_2 : h_2.objs.size = s.heap.objs.size := by rw [hs_2.1, gs_2.1, sz_1]
  have hz_2 : IsZ h_2 z TI TO st .ellipsis := hs_2.extBut _ _ D.TO_z.symm (gs_2.extBut _ _ D.i2_z.symm hz_1)
  have it_1_2 : SIt t1 h_2 i1 a1 (k + 1) := it_1_1.at fun o e => hs_2.extBut _ _ D.TO_i1.symm (gs_2.extBut _ _ D.i1_i2 e)
  have it_2_2 : SIt t2 h_2 i2 a2 (k + 1) := it_2.at fun o e => hs_2.extBut _ _ D.TO_i2.symm e
  refine wpAny_bind (wpAny_letGo (wpAny_pure ?_))
  refine wpAny_bind (wpAny_bind (wpAny_onRaise ?_))
  refine zdraw_item (st := (Value.bool st == Value.bool true)) (h3.at fun o e => e_2 _ o D.i3_z D.TO_i3.symm D.i1_i3.symm D.i2_i3.symm e) (l3.at fun o e => e_2 _ o D.a3_z D.a3_TO D.a3_i1 D.a3_i2 e) x3 fun g_3 it_3 gs_3 => ?_
  have gT_3 : IsTupV g_3 TO [u1, u2, p3] := gs_3.extBut _ _ D.TO_i3 TO_2
  refine wpAny_bind (wpAny_seqItems gT_3 rfl ?_)
  refine wpAny_bind (upd_tupv gT_3 (by simp) fun h_3 TO_3 hs_3 => ?_)
  replace TO_3 : IsTupV h_3 TO [u1, u2, u3] := TO_3
  have e_3 : ∀ c o, c ≠ z → c ≠ TO → c ≠ i1 → c ≠ i2 → c ≠ i3 → s.heap.get? c = some o → h_3.get? c = some o := fun c o c1 c2 d1 d2 d3 e => hs_3.extBut _ _ c2 (gs_3.extBut _ _ d3 (e_2 c o c1 c2 d1 d2 e))
  have sz_3 : h_3.objs.size = s.heap.objs.size := by rw [hs_3.1, gs_3.1, sz_2]
  have hz_3 : IsZ h_3 z TI TO st .ellipsis := hs_3.extBut _ _ D.TO_z.symm (gs_3.extBut _ _ D.i3_z.symm hz_2)
  have it_1_3 : SIt t1 h_3 i1 a1 (k + 1) := it_1_2.at fun o e => hs_3.extBut _ _ D.TO_i1.symm (gs_3.extBut _ _ D.i1_i3 e)
  have it_2_3 : SIt t2 h_3 i2 a2 (k + 1) := it_2_2.at fun o e => hs_3.extBut _ _ D.TO_i2.symm (gs_3.extBut _ _ D.i2_i3 e)
  have it_3_3 : SIt t3 h_3 i3 a3 (k + 1) := it_3.at fun o e => hs_3.extBut _ _ D.TO_i3.symm e
  refine wpAny_bind (wpAny_letGo (wpAny_pure (wpAny_pure ?_)))
  refine wpAny_bind (wpAny_seqItems TO_3 rfl ?_)
  refine wpAny_bind (wpAny_newTuple ?_)
  have zlt : z < h_3.objs.size := Heap.lt_size hz_3
  show wpAny _ _ (Builtin.SmallTypes.ownedTupleHandOut (.ref z) (.ref h_3.objs.size) >>= _) _ _ _
  refine wpAny_bind ?_
  unfold Builtin.SmallTypes.ownedTupleHandOut
  have hz6 : IsZ (h_3.push { cls := .type "tuple", data := .seq #[u1, u2, u3] }) z TI TO st .ellipsis := Heap.get?_push_of_some _ hz_3
  refine wpAny_bind (wpAny_setField_rec hz6 (by simp) fun h7 hz7 hs7 => ?_)
  replace hz7 : IsZ h7 z TI TO st (rawInt h_3.objs.size) := hz7
  refine wpAny_setField_rec hz7 (by simp) fun h8 hz8 hs8 => ?_
  replace hz8 : IsZ h8 z TI TO st (rawInt h_3.objs.size) := hz8
  have up : ∀ c o, c ≠ z → h_3.get? c = some o → h8.get? c = some o := fun c o c1 e => hs8.extBut _ _ c1 (hs7.extBut _ _ c1 (Heap.get?_push_of_some _ e))
  have hT8 : IsTupV h8 h_3.objs.size [u1, u2, u3] := hs8.extBut _ _ (Nat.ne_of_gt zlt) (hs7.extBut _ _ (Nat.ne_of_gt zlt) (Heap.get?_push_size _ rfl))
  have sz8 : h8.objs.size = h_3.objs.size + 1 := by rw [hs8.1, hs7.1, Heap.size_push]
  rw [sz_3] at hz8 hT8 sz8
  refine wpAny_pure ⟨_, rfl, ?_⟩
  show Q (.ref h_3.objs.size) _
  rw [sz_3]
  exact hQ h8 hz8 (up _ _ D.TO_z TO_3) (it_1_3.at fun o e => up _ o D.i1_z e) (it_2_3.at fun o e => up _ o D.i2_z e) (it_3_3.at fun o e => up _ o D.i3_z e) hT8 sz8 fun c o c1 c2 d1 d2 d3 e => up c o c1 (e_3 c o c1 c2 d1 d2 d3 e)
theorem zip3_end {Q : Fin → Shared → Prop} (hh : A.handled = none) (D : Apart3 z TI TO i1 i2 i3 a1 a2 a3) (hz : IsZ s.heap z TI TO st .none) (hTI : IsTupV s.heap TI [.ref i1, .ref i2, .ref i3]) (hTO : IsTupV s.heap TO [p1, p2, p3]) (h1 : SIt t1 s.heap i1 a1 k) (h2 : SIt t2 s.heap i2 a2 k) (h3 : SIt t3 s.heap i3 a3 k) (l1 : SOb t1 s.heap a1 xs1) (l2 : SOb t2 s.heap a2 xs2) (l3 : SOb t3 s.heap a3 xs3) (hend : (xs1[k]? = none ∧ xs2[k]? = none ∧ xs3[k]? = none) ∨ (st = false ∧ (xs1[k]? = none ∨ xs2[k]? = none ∨ xs3[k]? = none)))
    (hE : ∀ h' e, (∀ c o, c ≠ z → c ≠ TO → c ≠ i1 → c ≠ i2 → c ≠ i3 → s.heap.get? c = some o → h'.get? c = some o) → (∃ o, h'.get? e = some o ∧ o.cls = .type "StopIteration") → E (.ref e) { s with heap := h' }) :
    wpAny (model prog w) A (Builtin.«zip.__next__» ⟨[.ref z], []⟩) Q E s := by
  show wpAny _ _ (field (.ref z) 2 >>= _) _ _ _
  refine wpAny_bind (wpAny_field hz rfl (x := .bool st) rfl ?_)
  show wpAny _ _ (field (.ref z) 3 >>= _) _ _ _
  refine wpAny_bind (wpAny_field hz rfl (x := .ref TI) rfl ?_)
  refine wpAny_bind (wpAny_seqItems hTI rfl ?_)
  show wpAny _ _ (Builtin.SmallTypes.ownedTupleIsFree (.ref z) >>= _) _ _ _
  refine wpAny_bind ?_
  unfold Builtin.SmallTypes.ownedTupleIsFree
  refine wpAny_bind (wpAny_field hz rfl (x := .none) rfl (wpAny_pure ?_))
  simp only [if_true]
  refine wpAny_bind (wpAny_rule ?_)
  refine wpAny_bind (wpAny_field hz rfl (x := .ref TO) rfl ?_)
  refine wpAny_bind (wpAny_setField_rec hz (by simp) fun h_0 hz_0 hs_0 => ?_)
  replace hz_0 : IsZ h_0 z TI TO st .ellipsis := hz_0
  have e_0 : ∀ c o, c ≠ z → s.heap.get? c = some o → h_0.get? c = some o := fun c o c1 e => hs_0.extBut _ _ c1 e
  have sz_0 : h_0.objs.size = s.heap.objs.size := hs_0.1
  have TO_0 : IsTupV h_0 TO [p1, p2, p3] := e_0 _ _ D.TO_z hTO
  refine wpAny_bind ?_
  simp only [List.zipIdx_cons, List.zipIdx_nil, List.forIn_cons, List.forIn_nil]
  cases st with
  | true =>
    have hall : xs1[k]? = none ∧ xs2[k]? = none ∧ xs3[k]? = none := hend.elim id fun z => Bool.noConfusion z.1
    obtain ⟨n1, n2, n3⟩ := hall
    refine wpAny_bind (wpAny_bind (wpAny_onRaise ?_))
    refine nextOrEnd_end hh (h1.at fun o e => e_0 _ o D.i1_z e) (l1.at fun o e => e_0 _ o D.a1_z e) n1 fun g_1 gs_1 => ?_
    have gz_1 : IsZ g_1 z TI TO true .ellipsis := gs_1 _ _ D.i1_z.symm hz_0
    refine wpAny_bind (wpAny_setField_rec gz_1 (by simp) fun q_1 qz_1 qs_1 => ?_)
    refine wpAny_bind ?_
    show wpAny _ _ (forIn [(Value.ref i2, 1), (Value.ref i3, 2)] _ _ >>= _) _ _ _
    simp only [List.forIn_cons, List.forIn_nil]
    have f_1 : ∀ c o, c ≠ z → c ≠ i1 → s.heap.get? c = some o → q_1.get? c = some o := fun c o c1 d1 e => qs_1.extBut _ _ c1 (gs_1 _ _ d1 (e_0 c o c1 e))
    refine wpAny_bind (wpAny_bind (wpAny_bind ?_))
    refine nextOrEnd_end hh (h2.at fun o e => f_1 _ o D.i2_z D.i1_i2.symm e) (l2.at fun o e => f_1 _ o D.a2_z D.a2_i1 e) n2 fun q_2 qs_2 => ?_
    simp only [Option.isSome_none, Bool.false_eq_true, if_false]
    refine wpAny_pure ?_
    have f_2 : ∀ c o, c ≠ z → c ≠ i1 → c ≠ i2 → s.heap.get? c = some o → q_2.get? c = some o := fun c o c1 d1 d2 e => qs_2 _ _ d2 (f_1 c o c1 d1 e)
    refine wpAny_bind (wpAny_bind ?_)
    refine nextOrEnd_end hh (h3.at fun o e => f_2 _ o D.i3_z D.i1_i3.symm D.i2_i3.symm e) (l3.at fun o e => f_2 _ o D.a3_z D.a3_i1 D.a3_i2 e) n3 fun q_3 qs_3 => ?_
    simp only [Option.isSome_none, Bool.false_eq_true, if_false]
    refine wpAny_pure ?_
    have f_3 : ∀ c o, c ≠ z → c ≠ i1 → c ≠ i2 → c ≠ i3 → s.heap.get? c = some o → q_3.get? c = some o := fun c o c1 d1 d2 d3 e => qs_3 _ _ d3 (f_2 c o c1 d1 d2 e)
    refine wpAny_pure ?_
    refine wpAny_bind (wpAny_rule ?_)
    exact stop_raise hh fun h' e hk he => hE h' e (fun c o c1 c2 d1 d2 d3 x => hk c o (f_3 c o c1 d1 d2 d3 x)) he
  | false =>
    have hsome : xs1[k]? = none ∨ xs2[k]? = none ∨ xs3[k]? = none := hend.elim (fun z => .inl z.1) fun z => z.2
    refine wpAny_bind (wpAny_bind (wpAny_onRaise ?_))
    show wpAny _ _ (Builtin.SmallTypes.nextOf (.ref i1) >>= _) _ _ _
    cases x1 : xs1[k]? with
    | none =>
      refine wpAny_bind (nextOf_end hh (h1.at fun o e => e_0 _ o D.i1_z e) (l1.at fun o e => e_0 _ o D.a1_z e) x1 fun g_1 e gs_1 he => ?_)
      obtain ⟨oe, hoe, hce⟩ := he
      have hzg : IsZ g_1 z TI TO false .ellipsis := gs_1 _ _ D.i1_z.symm hz_0
      have hez : e ≠ z := fun x => by subst x; rw [hzg] at hoe; cases hoe; simp at hce
      exact wpAny_setField_rec hzg (by simp) fun h3 _ hs3 => hE h3 e (fun c o c1 c2 d1 d2 d3 x => hs3.extBut _ _ c1 (gs_1 _ _ d1 (e_0 c o c1  x))) ⟨oe, hs3.extBut _ _ hez hoe, hce⟩
    | some u1 =>
      refine wpAny_bind (nextOf_item (h1.at fun o e => e_0 _ o D.i1_z e) (l1.at fun o e => e_0 _ o D.a1_z e) x1 fun g_1 it_1 gs_1 => wpAny_pure ?_)
      have gT_1 : IsTupV g_1 TO [p1, p2, p3] := gs_1.extBut _ _ D.TO_i1 TO_0
      refine wpAny_bind (wpAny_seqItems gT_1 rfl ?_)
      refine wpAny_bind (upd_tupv gT_1 (by simp) fun h_1 TO_1 hs_1 => ?_)
      replace TO_1 : IsTupV h_1 TO [u1, p2, p3] := TO_1
      have e_1 : ∀ c o, c ≠ z → c ≠ TO → c ≠ i1 → s.heap.get? c = some o → h_1.get? c = some o := fun c o c1 c2 d1 e => hs_1.extBut _ _ c2 (gs_1.extBut _ _ d1 (e_0 c o c1  e))
      have sz_1 : h_1.objs.size = s.heap.objs.size := by rw [hs_1.1, gs_1.1, sz_0]
      have hz_1 : IsZ h_1 z TI TO false .ellipsis := hs_1.extBut _ _ D.TO_z.symm (gs_1.extBut _ _ D.i1_z.symm hz_0)
      have it_1_1 : SIt t1 h_1 i1 a1 (k + 1) := it_1.at fun o e => hs_1.extBut _ _ D.TO_i1.symm e
      refine wpAny_bind (wpAny_letGo (wpAny_pure ?_))
      refine wpAny_bind (wpAny_bind (wpAny_onRaise ?_))
      show wpAny _ _ (Builtin.SmallTypes.nextOf (.ref i2) >>= _) _ _ _
      cases x2 : xs2[k]? with
      | none =>
        refine wpAny_bind (nextOf_end hh (h2.at fun o e => e_1 _ o D.i2_z D.TO_i2.symm D.i1_i2.symm e) (l2.at fun o e => e_1 _ o D.a2_z D.a2_TO D.a2_i1 e) x2 fun g_2 e gs_2 he => ?_)
        obtain ⟨oe, hoe, hce⟩ := he
        have hzg : IsZ g_2 z TI TO false .ellipsis := gs_2 _ _ D.i2_z.symm hz_1
        have hez : e ≠ z := fun x => by subst x; rw [hzg] at hoe; cases hoe; simp at hce
        exact wpAny_setField_rec hzg (by simp) fun h3 _ hs3 => hE h3 e (fun c o c1 c2 d1 d2 d3 x => hs3.extBut _ _ c1 (gs_2 _ _ d2 (e_1 c o c1 c2 d1 x))) ⟨oe, hs3.extBut _ _ hez hoe, hce⟩
      | some u2 =>
        refine wpAny_bind (nextOf_item (h2.at fun o e => e_1 _ o D.i2_z D.TO_i2.symm D.i1_i2.symm e) (l2.at fun o e => e_1 _ o D.a2_z D.a2_TO D.a2_i1 e) x2 fun g_2 it_2 gs_2 => wpAny_pure ?_)
        have gT_2 : IsTupV g_2 TO [u1, p2, p3] := gs_2.extBut _ _ D.TO_i2 TO_1
        refine wpAny_bind (wpAny_seqItems gT_2 rfl ?_)
        refine wpAny_bind (upd_tupv gT_2 (by simp) fun h_2 TO_2 hs_2 => ?_)
        replace TO_2 : IsTupV h_2 TO [u1, u2, p3] := TO_2
        have e_2 : ∀ c o, c ≠ z → c ≠ TO → c ≠ i1 → c ≠ i2 → s.heap.get? c = some o → h_2.get? c = some o := fun c o c1 c2 d1 d2 e => hs_2.extBut _ _ c2 (gs_2.extBut _ _ d2 (e_1 c o c1 c2 d1 e))
        have sz_2 : h_2.objs.size = s.heap.objs.size := by rw [hs_2.1, gs_2.1, sz_1]
        have hz_2 : IsZ h_2 z TI TO false .ellipsis := hs_2.extBut _ _ D.TO_z.symm (gs_2.extBut _ _ D.i2_z.symm hz_1)
        have it_1_2 : SIt t1 h_2 i1 a1 (k + 1) := it_1_1.at fun o e => hs_2.extBut _ _ D.TO_i1.symm (gs_2.extBut _ _ D.i1_i2 e)
        have it_2_2 : SIt t2 h_2 i2 a2 (k + 1) := it_2.at fun o e => hs_2.extBut _ _ D.TO_i2.symm e
        refine wpAny_bind (wpAny_letGo (wpAny_pure ?_))
        refine wpAny_bind (wpAny_bind (wpAny_onRaise ?_))
        show wpAny _ _ (Builtin.SmallTypes.nextOf (.ref i3) >>= _) _ _ _
        cases x3 : xs3[k]? with
        | none =>
          refine wpAny_bind (nextOf_end hh (h3.at fun o e => e_2 _ o D.i3_z D.TO_i3.symm D.i1_i3.symm D.i2_i3.symm e) (l3.at fun o e => e_2 _ o D.a3_z D.a3_TO D.a3_i1 D.a3_i2 e) x3 fun g_3 e gs_3 he => ?_)
          obtain ⟨oe, hoe, hce⟩ := he
          have hzg : IsZ g_3 z TI TO false .ellipsis := gs_3 _ _ D.i3_z.symm hz_2
          have hez : e ≠ z := fun x => by subst x; rw [hzg] at hoe; cases hoe; simp at hce
          exact wpAny_setField_rec hzg (by simp) fun h3 _ hs3 => hE h3 e (fun c o c1 c2 d1 d2 d3 x => hs3.extBut _ _ c1 (gs_3 _ _ d3 (e_2 c o c1 c2 d1 d2 x))) ⟨oe, hs3.extBut _ _ hez hoe, hce⟩
        | some u3 =>
          simp only [x1, x2, x3, reduceCtorEq, or_self] at hsome
theorem zip3_next {Q : Option Value → Shared → Prop} (D : Apart3 z TI TO i1 i2 i3 a1 a2 a3) (hz : IsZ s.heap z TI TO st .none) (hTI : IsTupV s.heap TI [.ref i1, .ref i2, .ref i3]) (hTO : IsTupV s.heap TO [p1, p2, p3]) (h1 : SIt t1 s.heap i1 a1 k) (h2 : SIt t2 s.heap i2 a2 k) (h3 : SIt t3 s.heap i3 a3 k) (l1 : SOb t1 s.heap a1 xs1) (l2 : SOb t2 s.heap a2 xs2) (l3 : SOb t3 s.heap a3 xs3) (x1 : xs1[k]? = some u1) (x2 : xs2[k]? = some u2) (x3 : xs3[k]? = some u3)
    (hQ : ∀ h', IsZ h' z TI TO st (rawInt s.heap.objs.size) → IsTupV h' TO [u1, u2, u3] → SIt t1 h' i1 a1 (k + 1) → SIt t2 h' i2 a2 (k + 1) → SIt t3 h' i3 a3 (k + 1) → IsTupV h' s.heap.objs.size [u1, u2, u3] → h'.objs.size = s.heap.objs.size + 1 →
      (∀ c o, c ≠ z → c ≠ TO → c ≠ i1 → c ≠ i2 → c ≠ i3 → s.heap.get? c = some o → h'.get? c = some o) → Q (some (.ref s.heap.objs.size)) { s with heap := h' }) : wpAny (model prog w) A (pyNext (.ref z)) Q E s := by
  have hT : s.TypeIs (.ref z) "zip" := ⟨_, hz, rfl⟩
  unfold pyNext
  exact wpAny_bind (wpAny_attempt (wpAny_callSpecial?_slot (name := Str.ofString "__next__") hT F.slot_zip_next
    (wpAny_call_entry F.slot_zip_next hT F.entry_zip_next
      (zip3_item D hz hTI hTO h1 h2 h3 l1 l2 l3 x1 x2 x3 fun h' b1 b2 c1 c2 c3 b3 b4 b5 => wpAny_pure (hQ h' b1 b2 c1 c2 c3 b3 b4 b5)) (F.args_zip_next_1 _))))
theorem zip3_stop {Q : Option Value → Shared → Prop} (hh : A.handled = none) (D : Apart3 z TI TO i1 i2 i3 a1 a2 a3) (hz : IsZ s.heap z TI TO st .none) (hTI : IsTupV s.heap TI [.ref i1, .ref i2, .ref i3]) (hTO : IsTupV s.heap TO [p1, p2, p3]) (h1 : SIt t1 s.heap i1 a1 k) (h2 : SIt t2 s.heap i2 a2 k) (h3 : SIt t3 s.heap i3 a3 k) (l1 : SOb t1 s.heap a1 xs1) (l2 : SOb t2 s.heap a2 xs2) (l3 : SOb t3 s.heap a3 xs3) (hend : (xs1[k]? = none ∧ xs2[k]? = none ∧ xs3[k]? = none) ∨ (st = false ∧ (xs1[k]? = none ∨ xs2[k]? = none ∨ xs3[k]? = none)))
    (hQ : ∀ h', (∀ c o, c ≠ z → c ≠ TO → c ≠ i1 → c ≠ i2 → c ≠ i3 → s.heap.get? c = some o → h'.get? c = some o) → Q none { s with heap := h' }) : wpAny (model prog w) A (pyNext (.ref z)) Q E s := by
  have hT : s.TypeIs (.ref z) "zip" := ⟨_, hz, rfl⟩
  unfold pyNext
  refine wpAny_bind (wpAny_attempt (wpAny_callSpecial?_slot (name := Str.ofString "__next__") hT F.slot_zip_next
    (wpAny_call_entry F.slot_zip_next hT F.entry_zip_next (zip3_end hh D hz hTI hTO h1 h2 h3 l1 l2 l3 hend fun h' e hk he => ?_) (F.args_zip_next_1 _))))
  obtain ⟨o, ho, hc⟩ := he
  refine wpAny_bind (wpAny_isInstance (T := "StopIteration") (b := true) ⟨o, ho, hc⟩ isSubtype_stop ?_)
  exact wpAny_pure (hQ _ hk)
end
end LW
namespace LW
open PySem PySem.Spec PyProof.Rows L2
section
variable {prog : Program} {w : World} {A : Around} {E : Value → Shared → Prop} {s : Shared}
theorem callType_meetsK {T newId initId : String} {Bn Bi : Builtin} {args : List Value} {kw : List (Str × Value)} {S : PySem.Spec} {Q Q₁ : Value → Shared → Prop} (ft : TypeCalled T newId initId)
    (hct : checkTypeCall T ⟨args, kw⟩ = pure ()) (hcn : checkBuiltinCall newId ⟨.type T :: args, kw⟩ = pure ())
    (entryN : entryFor table newId = some Bn) (entryI : entryFor table initId = some Bi) (g : Meets (Bn ⟨.type T :: args, kw⟩) S)
    (h : S A.in1 (wants Q₁ E) s)
    (hnext : ∀ obj s₁, Q₁ obj s₁ → s₁.TypeIs obj T ∧ argsOk initId ⟨obj :: args, kw⟩ ∧ ∃ Si, Meets (Bi ⟨obj :: args, kw⟩) Si ∧ Si A.in1 (wants (fun r s₂ => r = .none ∧ Q obj s₂) E) s₁) :
    wpAny (model prog w) A (call (.type T) args kw) Q E s := by
  obtain ⟨c, tl, hmro⟩ := ft.mro
  have hmade := ft.made
  have hsub := ft.sub
  refine wpAny_call (codeAny_of_tree ?_)
  show wpAny _ _ (callAny (.type T) _) _ _ _
  refine wpAny_pure ⟨Code.quiet_builtin _ (by decide +kernel), codeAny_builtin F.entry_type_call ?_⟩
  rw [Around.under_plain (weight_type_call_type T args kw) (units_type_call_type T args kw)]
  have h1 := ft.notType
  have h2 := ft.canCreate
  repeat (any_goals (first | assumption | wp_step))
  refine codeAny_mono (codeAny_call_builtin ft.plain entryN (wpAny_of_eq hcn (g prog w A.in1 _ s h))) fun r s₁ hr => ?_
  cases r with
  | error e => exact hr
  | ok fl =>
    cases fl with
    | ret obj =>
      obtain ⟨hT, hok, Si, gi, hsi⟩ := hnext _ _ hr
      have hli := ft.init.lookup
      have hbi := ft.init.bind obj
      repeat (any_goals (first | assumption | wp_step))
      refine codeAny_mono (codeAny_call_builtin ft.init.plain entryI (ft.init.check _ _ _ _ _ _ _ _ hT hok (gi prog w A.in1 _ s₁ hsi))) fun r₂ s₂ hr₂ => ?_
      cases r₂ with
      | error e => exact hr₂
      | ok fl₂ =>
        cases fl₂ with
        | ret r =>
          obtain ⟨rfl, hq⟩ := hr₂
          repeat (any_goals (first | assumption | wp_step))
        | _ => exact hr₂.elim
    | _ => exact hr.elim
theorem object_init_meetsK {T newId : String} {self : Value} {rest : List Value} {kw : List (Str × Value)} (hl : typeLookup (.type T) "__init__" = pure (some (.builtin "object.__init__")))
    (hm : Bind.madeBy (.type T) = pure (some newId)) (hne : (some newId != some "object.__new__") = true) :
    Meets (Builtin.«object.__init__» ⟨self :: rest, kw⟩) (fun _ R s => s.TypeIs self T ∧ R (.ok (.ret .none)) s) := by
  refine Meets.of_wp fun prog w A R s hs => ?_
  obtain ⟨hT, hq⟩ := hs
  cases rest with
  | nil =>
    cases kw with
    | nil => exact wpAny_pure ⟨_, rfl, hq⟩
    | cons a kw =>
      repeat (any_goals (first | assumption | wp_step))
      exact ⟨_, rfl, hq⟩
  | cons a rest =>
    repeat (any_goals (first | assumption | wp_step))
    exact ⟨_, rfl, hq⟩
theorem callType_newK {T newId : String} {Bn : Builtin} {args : List Value} {kw : List (Str × Value)} {S : PySem.Spec} {Q : Value → Shared → Prop} (ft : TypeCalled T newId "object.__init__")
    (hne : (some newId != some "object.__new__") = true) (hct : checkTypeCall T ⟨args, kw⟩ = pure ()) (hcn : checkBuiltinCall newId ⟨.type T :: args, kw⟩ = pure ())
    (hok : ∀ obj, argsOk "object.__init__" ⟨obj :: args, kw⟩) (entryN : entryFor table newId = some Bn) (g : Meets (Bn ⟨.type T :: args, kw⟩) S)
    (h : S A.in1 (wants (fun obj s₁ => s₁.TypeIs obj T ∧ Q obj s₁) E) s) : wpAny (model prog w) A (call (.type T) args kw) Q E s :=
  callType_meetsK ft hct hcn entryN F.entry_object_init g h fun obj _ hq =>
    ⟨hq.1, hok obj, _, object_init_meetsK ft.init.lookup ft.made hne, hq.1, rfl, hq.2⟩
theorem callWith_typeK0 {pos : Pos} {T : String} {first : List Value} {args : List (Bool × Sem Value)} {keywords : List (Option Str × Sem Value)} {Q : Value → Shared → Prop} {M : Model}
    (hplain : args.any (·.1) = false) (hkw : keywords.any (·.1.isNone) = false)
    (h : wpAny M A (evalArgs (.type T) true args keywords) (fun a s₁ => wpAny M A (call (.type T) (first ++ a.pos) a.kw) Q E s₁) E s) :
    wpAny M A (callWith pos (.type T) first args keywords) Q E s := by
  unfold callWith
  refine wpAny_bind (wpAny_holding (wpAny_mono h (fun a s₁ h₁ => wpAny_bind (wpAny_standAt ?_)) fun _ _ x => x))
  simp only [hplain, hkw, Bool.or_false]
  refine wpAny_bind (wpAny_pure ?_)
  exact wpAny_bind (wpAny_mono h₁ (fun r s₂ hr => wpAny_bind (wpAny_holding (wpAny_point (wpAny_pure hr)))) fun _ _ x => x)
theorem callWith_typeK {pos : Pos} {T : String} {e : Expr} {rest : List Expr} {kws : List Keyword} {env : Env} {Q : Value → Shared → Prop} {M : Model}
    (h : wpAny M A (spliced (backTo pos (starEach (e :: rest) env))) (fun vs s₁ => wpAny M A (evalAll ((backToKw pos (keywordEach kws env)).map (·.2)))
      (fun kvs s₂ => wpAny M A (call (.type T) vs (((backToKw pos (keywordEach kws env)).filterMap (·.1)).zip kvs)) Q E s₂) E s₁) E s)
    (he : backTo pos (starEach (e :: rest) env) = (false, eval e env) :: backTo pos (starEach rest env) := by rfl)
    (hplain : (backTo pos (starEach (e :: rest) env)).any (·.1) = false := by rfl)
    (hall : (backToKw pos (keywordEach kws env)).all (·.1.isSome) = true := by rfl)
    (hkw : (backToKw pos (keywordEach kws env)).any (·.1.isNone) = false := by rfl) :
    wpAny M A (callWith pos (.type T) [] (backTo pos (starEach (e :: rest) env)) (backToKw pos (keywordEach kws env))) Q E s := by
  refine callWith_typeK0 hplain hkw ?_
  rw [he] at h ⊢
  exact evalArgs_kwB hall h
/-- zip(..., strict=st) or zip(..) -/
def zkw (st : Bool) : List (Str × Value) := if st = true then [("strict", .bool true)] else []
theorem pyIter_seq {tp : Bool} {a : Addr} {xs : Array Value} {Q : Value → Shared → Prop} (ho : SOb tp s.heap a xs)
    (h : Q (.ref s.heap.objs.size) { s with heap := s.heap.push { cls := .type (if tp = true then "tuple_iterator" else "list_iterator"), data := .fields #[.ref a, .int 0 0] } }) : wpAny (model prog w) A (pyIter (.ref a)) Q E s := by
  cases tp with
  | true => exact wpAny_pyIter_tuple (show s.heap.IsTuple a xs from ho) h
  | false => exact wpAny_pyIter_list (show s.heap.IsList a xs from ho) h
end
abbrev itO (tp : Bool) (a : Addr) : Obj := { cls := .type (if tp = true then "tuple_iterator" else "list_iterator"), data := .fields #[.ref a, .int 0 0] }
theorem sit_new {tp : Bool} {h : Heap} {it a : Addr} (g : h.get? it = some (itO tp a)) : SIt tp h it a 0 := by
  cases tp with
  | true => exact ⟨_, g, rfl, rfl⟩
  | false => exact ⟨_, g, rfl, rfl⟩
def zTail (iterables : List Value) (strict : Bool) : Sem PySem.Fin := do
  let its ← Builtin.SmallTypes.iterAll iterables
  let a ← newTuple its
  let b ← newTuple (its.map fun _ => .none)
  let c ← Builtin.SmallTypes.newRecord (.type "zip") (Builtin.SmallTypes.ownedTupleFields ++ [.bool strict, a, b])
  ret c
/-- a list or a tuple to be read -/
def Sq (tp : Bool) (K : PySem.W.Frag) (H : Hp) (a : Addr) (xs : List V) : Prop := if tp = true then SqT K H a xs else SqL K H a xs
section
variable {X : Cx} {pins : List (Addr × Obj)} {σ : L2.St} {H : Hp} {s : Shared}
theorem _root_.L2.Inv.sq {tp : Bool} {a : Addr} {xs : List V} (I : Inv X pins σ H s) (h : Sq tp X.K H a xs) : ∃ its : List Value, Vals xs its ∧ SOb tp s.heap a its.toArray := by
  cases tp with
  | true => obtain ⟨its, r, p, _⟩ := I.tuple (show SqT X.K H a xs from h); exact ⟨its, r, p⟩
  | false => obtain ⟨its, r, p, _⟩ := I.list (show SqL X.K H a xs from h); exact ⟨its, r, p.isList⟩
theorem _root_.L2.Inv.sq_inj {tp : Bool} {a : Addr} {xs ys : List V} (I : Inv X pins σ H s) (h : Sq tp X.K H a xs) (h' : Sq tp X.K H a ys) : xs = ys := by
  cases tp with
  | true => exact I.tuple_inj (show SqT X.K H a xs from h) h'
  | false => exact I.list_inj (show SqL X.K H a xs from h) h'
theorem vals_refs : ∀ (as : List Addr) {us : List Value}, Vals (as.map V.ref) us → us = as.map Value.ref
  | [], _, .nil => rfl
  | a :: as, _, .cons r t => by
    cases r
    rw [vals_refs as t]
    rfl
end
section
variable {prog : Program} {w : World} {A : Around} {E : Value → Shared → Prop} {s : Shared} {z TI TO : Addr} {st : Bool} {f0 : Value}
theorem go_zip {elts : List Expr} {x1} {pos : Pos} {T : Addr} {Q : Unit → Shared → Prop} (hz : IsZ s.heap z TI TO st (rawInt T))
    (hQ : ∀ h', IsZ h' z TI TO st .none → Heap.SameBut z s.heap h' → Q () { s with heap := h' }) :
    wpAny (model prog w) A (letOwnedTupleGo (.Tuple elts x1 pos) (.ref z) (.ref T)) Q E s := by
  unfold letOwnedTupleGo
  refine wpAny_bind (wpAny_load hz ?_)
  show wpAny _ _ (if (["enumerate", "zip", "dict_itemiterator", "dict_reverseitemiterator", "odict_iterator", "itertools.zip_longest", "itertools.pairwise"].contains "zip" &&
      (#[rawInt T, .bool false, .bool st, .ref TI, .ref TO] : Array Value)[0]? == some (rawInt T)) = true then _ else _) Q E s
  rw [if_pos (by simp)]
  refine wpAny_bind (wpAny_rule ?_)
  show wpAny _ _ (setField (.ref z) 0 .none) Q E s
  exact wpAny_setField_rec hz (by simp) fun h' hz' hs' => hQ h' hz' hs'
theorem iter_zip {Q : Value → Shared → Prop} (hz : IsZ s.heap z TI TO st f0) (h : Q (.ref z) s) : wpAny (model prog w) A (pyIter (.ref z)) Q E s := by
  have hT : s.TypeIs (.ref z) "zip" := ⟨_, hz, rfl⟩
  refine wpAny_pyIter_slot hT F.slot_zip_iter (wpAny_call_entry F.slot_zip_iter hT F.entry_zip_iter ?_ (F.args_zip_iter_1 _))
  show wpAny _ _ (ret (.ref z)) _ _ s
  exact wpAny_pure ⟨_, rfl, "zip", _, hT, F.slot_zip_next.lookup, h⟩
end
theorem typeCall_zip_2s (st : Bool) (a b : Value) : checkTypeCall "zip" ⟨[a, b], zkw st⟩ = pure () := by cases st <;> kernel_rfl
theorem newCall_zip_2s (st : Bool) (a b : Value) : checkBuiltinCall "zip.__new__" ⟨[.type "zip", a, b], zkw st⟩ = pure () := by cases st <;> kernel_rfl
theorem init_zip_2s (st : Bool) (a b c : Value) : argsOk "object.__init__" ⟨[a, b, c], zkw st⟩ := by
  cases st <;> (unfold argsOk; rw [signature?_of (id := "object.__init__") (n := ['_', '_', 't', 'i', 'n', 'i', '_', '_']) (o := ['t', 'c', 'e', 'j', 'b', 'o']) (by kernel_rfl) F.owner_object]; kernel_rfl)
section
variable (a1 a2 : Addr) (t1 t2 st : Bool) (xs1 xs2 : Array Value)
abbrev z2H1 (h : Heap) : Heap := h.push (itO t1 a1)
abbrev z2H2 (h : Heap) : Heap := (z2H1 a1 t1 h).push (itO t2 a2)
abbrev z2HI (h : Heap) : Heap := (z2H2 a1 a2 t1 t2 h).push { cls := .type "tuple", data := .seq #[.ref h.objs.size, .ref (z2H1 a1 t1 h).objs.size] }
abbrev z2HO (h : Heap) : Heap := (z2HI a1 a2 t1 t2 h).push { cls := .type "tuple", data := .seq #[.none, .none] }
abbrev z2HZ (h : Heap) : Heap := (z2HO a1 a2 t1 t2 h).push { cls := .type "zip", data := .fields #[.none, .bool false, .bool st, .ref (z2H2 a1 a2 t1 t2 h).objs.size, .ref (z2HI a1 a2 t1 t2 h).objs.size] }
theorem zTail2 {prog : Program} {w : World} {A : Around} {E : Value → Shared → Prop} {s : Shared} {Q : PySem.Fin → Shared → Prop} (hl1 : SOb t1 s.heap a1 xs1) (hl2 : SOb t2 s.heap a2 xs2)
    (h : Q (.done (.ret (.ref (z2HO a1 a2 t1 t2 s.heap).objs.size))) { s with heap := z2HZ a1 a2 t1 t2 st s.heap }) : wpAny (model prog w) A (zTail [.ref a1, .ref a2] st) Q E s := by
  obtain ⟨hp, g, d, tk, os⟩ := s
  have hL1 : SOb t1 (Shared.heap ⟨hp, g, d, tk, os⟩) a1 xs1 := hl1.at fun o e => e
  have hL2 : SOb t2 (Shared.heap ⟨(hp).push (itO t1 a1), g, d, tk, os⟩) a2 xs2 := hl2.at fun o e => Heap.get?_push_of_some _ e
  unfold zTail
  wp_walk using pyIter_seq hL1, pyIter_seq hL2
  exact h
theorem meets_zip2 : Meets (Builtin.«zip.__new__» ⟨[.type "zip", .ref a1, .ref a2], zkw st⟩) (fun _ R s => SOb t1 s.heap a1 xs1 ∧ SOb t2 s.heap a2 xs2 ∧
      R (.ok (.ret (.ref (z2HO a1 a2 t1 t2 s.heap).objs.size))) { s with heap := z2HZ a1 a2 t1 t2 st s.heap }) :=
  .of_wp fun prog w A R s h => by
    obtain ⟨hl1, hl2, h⟩ := h
    have hsub := sub_zip
    unfold Builtin.«zip.__new__»
    refine wpAny_bind (wpAny_mono (Q := fun r s' => r = (Value.type "zip", [Value.ref a1, Value.ref a2]) ∧ s' = s) ?_ (fun r s' hr => ?_) fun _ _ z => z)
    · unfold Builtin.SmallTypes.newClass
      wp_walk
      exact ⟨rfl, rfl⟩
    · obtain ⟨rfl, rfl⟩ := hr
      cases st
      · show wpAny _ _ (zTail [.ref a1, .ref a2] false) _ _ _
        exact zTail2 a1 a2 t1 t2 false xs1 xs2 hl1 hl2 ⟨_, rfl, h⟩
      · have c1 : ¬ ([(("strict" : Str), Value.bool true)].length > 1) := by simp
        have c2 : ¬ ((("strict" : Str) != Str.ofString "strict") = true) := by decide
        show wpAny _ _ (if ([(("strict" : Str), Value.bool true)].length > 1) then _ else _) _ _ _
        rw [if_neg c1]
        show wpAny _ _ (if ((("strict" : Str) != Str.ofString "strict") = true) then _ else _) _ _ _
        rw [if_neg c2]
        refine wpAny_bind (wpAny_truthy_bool ?_)
        show wpAny _ _ (zTail [.ref a1, .ref a2] true) _ _ _
        exact zTail2 a1 a2 t1 t2 true xs1 xs2 hl1 hl2 ⟨_, rfl, h⟩
end
section
variable {prog : Program} {w : World} {A : Around} {E : Value → Shared → Prop} {s : Shared} {a1 a2 : Addr} {t1 t2 st : Bool} {xs1 xs2 : Array Value}
theorem call_zip2 {Q : Value → Shared → Prop} (hl1 : SOb t1 s.heap a1 xs1) (hl2 : SOb t2 s.heap a2 xs2)
    (h : ∀ h', IsZ h' (s.heap.objs.size + 4) (s.heap.objs.size + 2) (s.heap.objs.size + 3) st .none → IsTupV h' (s.heap.objs.size + 2) [.ref s.heap.objs.size, .ref (s.heap.objs.size + 1)] → IsTupV h' (s.heap.objs.size + 3) [.none, .none] → SIt t1 h' s.heap.objs.size a1 0 → SIt t2 h' (s.heap.objs.size + 1) a2 0 → h'.objs.size = s.heap.objs.size + 5 →
      (∀ c o, s.heap.get? c = some o → h'.get? c = some o) → Q (.ref (s.heap.objs.size + 4)) { s with heap := h' }) :
    wpAny (model prog w) A (call (.type "zip") [.ref a1, .ref a2] (zkw st)) Q E s := by
  refine callType_newK F.called_zip (by decide) (typeCall_zip_2s _ _ _) (newCall_zip_2s _ _ _) (fun obj => init_zip_2s _ obj _ _) F.entry_zip_new
    (meets_zip2 a1 a2 t1 t2 st xs1 xs2) ⟨hl1, hl2, ?_⟩
  have s1 : (z2H1 a1 t1 s.heap).objs.size = s.heap.objs.size + 1 := by exact Heap.size_push ..
  have s2 : (z2H2 a1 a2 t1 t2 s.heap).objs.size = s.heap.objs.size + 2 := by rw [Heap.size_push, s1]
  have sI : (z2HI a1 a2 t1 t2 s.heap).objs.size = s.heap.objs.size + 3 := by rw [Heap.size_push, s2]
  have sO : (z2HO a1 a2 t1 t2 s.heap).objs.size = s.heap.objs.size + 4 := by rw [Heap.size_push, sI]
  have sZ : (z2HZ a1 a2 t1 t2 st s.heap).objs.size = s.heap.objs.size + 5 := by rw [Heap.size_push, sO]
  have gZ : (z2HZ a1 a2 t1 t2 st s.heap).get? (z2HO a1 a2 t1 t2 s.heap).objs.size = some _ := Heap.get?_push_size _ rfl
  have gO : (z2HZ a1 a2 t1 t2 st s.heap).get? (z2HI a1 a2 t1 t2 s.heap).objs.size = some _ := Heap.get?_push_of_some _ (Heap.get?_push_size _ rfl)
  have gI : (z2HZ a1 a2 t1 t2 st s.heap).get? (z2H2 a1 a2 t1 t2 s.heap).objs.size = some _ := Heap.get?_push_of_some _ (Heap.get?_push_of_some _ (Heap.get?_push_size _ rfl))
  have g1 : (z2HZ a1 a2 t1 t2 st s.heap).get? s.heap.objs.size = some _ := Heap.get?_push_of_some _ (Heap.get?_push_of_some _ (Heap.get?_push_of_some _ (Heap.get?_push_of_some _ (Heap.get?_push_size _ rfl))))
  have g2 : (z2HZ a1 a2 t1 t2 st s.heap).get? (z2H1 a1 t1 s.heap).objs.size = some _ := Heap.get?_push_of_some _ (Heap.get?_push_of_some _ (Heap.get?_push_of_some _ (Heap.get?_push_size _ rfl)))
  show _ ∧ _
  rw [s2, sI, sO] at gZ
  rw [s1, s2] at gI
  rw [sI] at gO
  rw [s1] at g2
  rw [sO]
  exact ⟨⟨_, gZ, rfl⟩, h _ gZ gI gO (sit_new g1) (sit_new g2) sZ fun c o x => Heap.get?_push_of_some _ (Heap.get?_push_of_some _ (Heap.get?_push_of_some _ (Heap.get?_push_of_some _ (Heap.get?_push_of_some _ (x)))))⟩
end
theorem apart2 (n : Nat) (a1 a2 : Addr) (q1 : a1 < n) (q2 : a2 < n) : Apart2 (n + 4) (n + 2) (n + 3) n (n + 1) a1 a2 := by
  constructor <;> (intro e; first | omega | (simp only [Addr] at *; omega))
/-- the sources as they stand at each turn, the items in new tuples -/
def Itz2 (K : PySem.W.Frag) (st t1 t2 : Bool) (a1 a2 : Addr) : It :=
  ⟨fun i H => ∃ (w1 w2 : List V) (x1 x2 : V), Sq t1 K H a1 w1 ∧ Sq t2 K H a2 w2 ∧ w1[i]? = some x1 ∧ w2[i]? = some x2,
    fun i H v H' => ∃ T x1 x2, v = .ref T ∧ H T = none ∧ H' = upd H T (.tup [x1, x2]) ∧ (∀ w, Sq t1 K H a1 w → w[i]? = some x1) ∧ (∀ w, Sq t2 K H a2 w → w[i]? = some x2),
    fun i H => ∃ w1 w2 : List V, Sq t1 K H a1 w1 ∧ Sq t2 K H a2 w2 ∧ ((w1.length ≤ i ∧ w2.length ≤ i) ∨ (st = false ∧ (w1.length ≤ i ∨ w2.length ≤ i)))⟩
theorem turn_zip2s {P : Program} {w : World} {K : PySem.W.Frag} {elts : List Expr} {kk : Nat} {tpos : Pos} {z TI TO i1 i2 a1 a2 : Addr} {st t1 t2 : Bool} (D : Apart2 z TI TO i1 i2 a1 a2) :
    Turn P w K (.Tuple elts kk tpos) (Itz2 K st t1 t2 a1 a2) [z, TI, TO, i1, i2] z (fun i h => IsZ h z TI TO st .none ∧ IsTupV h TI [.ref i1, .ref i2] ∧ (∃ p1 p2, IsTupV h TO [p1, p2]) ∧ SIt t1 h i1 a1 i ∧ SIt t2 h i2 a2 i) where
  mem := by simp
  obj := fun i h s' c hc => by
    obtain ⟨hz, hTI, ⟨p1, p2, hTO⟩, h1, h2⟩ := s'
    have e' : c = z ∨ c = TI ∨ c = TO ∨ c = i1 ∨ c = i2 := by simpa using hc
    rcases e' with q | q | q | q | q
    · rw [q]; exact ⟨_, hz, fun v q => nomatch q⟩
    · rw [q]; exact ⟨_, hTI, fun v q => nomatch q⟩
    · rw [q]; exact ⟨_, hTO, fun v q => nomatch q⟩
    · rw [q]; exact h1.obj
    · rw [q]; exact h2.obj
  keep := fun i h h' s' k => by
    obtain ⟨hz, hTI, ⟨p1, p2, hTO⟩, h1, h2⟩ := s'
    exact ⟨k z (by simp) _ hz, k TI (by simp) _ hTI, ⟨p1, p2, k TO (by simp) _ hTO⟩, h1.at fun o q => k i1 (by simp) o q, h2.at fun o q => k i2 (by simp) o q⟩
  item := by
    intro X hP hw hK hc i pins s σ H E I hf s' hg
    subst hP hw hK
    obtain ⟨hz, hTI, ⟨p1, p2, hTO⟩, h1, h2⟩ := s'
    obtain ⟨w1, w2, x1, x2, q1, q2, y1, y2⟩ := hg
    obtain ⟨b1, rv1, ob1⟩ := I.sq q1
    obtain ⟨u1, hu1, ru1⟩ := rv1.get y1
    obtain ⟨b2, rv2, ob2⟩ := I.sq q2
    obtain ⟨u2, hu2, ru2⟩ := rv2.get y2
    have zl : z < s.heap.objs.size := Heap.lt_size hz
    refine zip2_next D hz hTI hTO h1 h2 ob1 ob2 (by simpa using hu1) (by simpa using hu2) fun h' z' TO' h1' h2' hT hsz hk => ?_
    refine ⟨_, rfl, go_zip (s := { s with heap := h' }) z' fun h'' z'' sb => ?_⟩
    have hT2 : IsTupV h'' s.heap.objs.size [u1, u2] := (sb.2 _ (Nat.ne_of_gt zl)).trans hT
    have new : ObjOk X.prog X.w (upd H s.heap.objs.size (.tup [x1, x2])) h'' s.heap.objs.size (.tup [x1, x2]) :=
      ⟨by show 2 ≤ sizeLine; decide, [u1, u2], .cons ru1 (.cons ru2 .nil), ⟨_, hT2, rfl, _, rfl⟩⟩
    have I1 : Inv X pins σ (upd H s.heap.objs.size (.tup [x1, x2])) { s with heap := h'' } :=
      I.turnedNew (t' := s.toks) (ch := [z, TI, TO, i1, i2]) (fun c o hb q => (sb.2 c (fun q' => hb (by simp [q']))).trans (hk c o (fun q' => hb (by simp [q'])) (fun q' => hb (by simp [q'])) (fun q' => hb (by simp [q'])) (fun q' => hb (by simp [q'])) q)) hf (Nat.le_refl _) new
    refine ⟨.ref s.heap.objs.size, _, I1, rfl, ⟨_, x1, x2, rfl, I.hok.fresh (Nat.le_refl _), rfl, fun l hl => by rw [I.sq_inj hl q1]; exact y1, fun l hl => by rw [I.sq_inj hl q2]; exact y2⟩, ⟨z'', ?_, ⟨u1, u2, ?_⟩, ?_, ?_⟩, fun c hcm => ?_⟩
    · exact (sb.2 _ D.TI_z).trans (hk _ _ D.TI_z D.TI_TO D.TI_i1 D.TI_i2 hTI)
    · exact (sb.2 _ D.TO_z).trans TO'
    · exact h1'.at fun o q => (sb.2 _ D.i1_z).trans q
    · exact h2'.at fun o q => (sb.2 _ D.i2_z).trans q
    · have hlt : c < s.heap.objs.size := by
        have e' : c = z ∨ c = TI ∨ c = TO ∨ c = i1 ∨ c = i2 := by simpa using hcm
        rcases e' with q | q | q | q | q
        · rw [q]; exact zl
        · rw [q]; exact Heap.lt_size hTI
        · rw [q]; exact Heap.lt_size hTO
        · rw [q]; exact h1.lt
        · rw [q]; exact h2.lt
      rw [upd_ne (Nat.ne_of_lt hlt)]
      exact (hf c hcm).1
  done := by
    intro X hP hw hK hc i pins s σ H E I hf s' hg
    subst hP hw hK
    obtain ⟨hz, hTI, ⟨p1, p2, hTO⟩, h1, h2⟩ := s'
    obtain ⟨w1, w2, q1, q2, hend⟩ := hg
    obtain ⟨b1, rv1, ob1⟩ := I.sq q1
    have l1 := rv1.length
    obtain ⟨b2, rv2, ob2⟩ := I.sq q2
    have l2 := rv2.length
    have he : (b1.toArray[i]? = none ∧ b2.toArray[i]? = none) ∨ (st = false ∧ (b1.toArray[i]? = none ∨ b2.toArray[i]? = none)) := by
      rcases hend with q | ⟨q0, q⟩
      · refine .inl ⟨?_, ?_⟩ <;> (simp; omega)
      · refine .inr ⟨q0, ?_⟩
        rcases q with q | q
        · exact .inl (by simp; omega)
        · exact .inr (by simp; omega)
    exact zip2_stop (I.ok.hd hc) D hz hTI hTO h1 h2 ob1 ob2 he fun h' hk => ⟨rfl, I.turnedL (t' := s.toks) (ch := [z, TI, TO, i1, i2]) (fun c o hb q =>
      hk c o (fun q' => hb (by simp [q'])) (fun q' => hb (by simp [q'])) (fun q' => hb (by simp [q'])) (fun q' => hb (by simp [q'])) q) hf⟩
  self := fun A i s Q E s' h => iter_zip s'.1 h
def tiZip2 (K : PySem.W.Frag) (st : Bool) (ta : TA) : TI := fun σ H R => ta σ H fun vs H1 => ∃ (a1 a2 : Addr) (w1 w2 : List V) (t1 t2 : Bool), vs = [.ref a1, .ref a2] ∧ Sq t1 K H1 a1 w1 ∧ Sq t2 K H1 a2 w2 ∧ R (Itz2 K st t1 t2 a1 a2) H1
theorem pi_zip2 {X : Cx} {e1 e2 : Expr} {ta : TA} {p pos tpos : Pos} {elts : List Expr} {kk : Nat} (hg : Gl X "zip") (hm : X.mg "zip" = none) (ha : PA X [e1, e2] ta)
    (hs : starEach [e1, e2] X.env = (false, eval e1 X.env) :: starEach [e2] X.env := by rfl) (hpl : (backTo pos (starEach [e2] X.env)).any (·.1) = false := by rfl) :
    PI X (.Tuple elts kk tpos) (.Call (.Name "zip" p) [e1, e2] [] pos) (tiZip2 X.K false ta) := by
  refine ⟨fun pins s σ H R I h => ?_⟩
  refine Call_ (ld_blt I hg hm PyProof.Rows.boot_zip (PyProof.Rows.callWith_type1 (thn (ha.run pos pins s σ H _ I h) fun us s1 ⟨vs, H1, I1, r1, q1⟩ => ?_) hs hpl))
  obtain ⟨a1, a2, w1, w2, t1, t2, ex, q1, q2, q⟩ := q1
  subst ex
  obtain rfl : us = [.ref a1, .ref a2] := vals_refs [a1, a2] r1
  obtain ⟨b1, rv1, ob1⟩ := I1.sq q1
  obtain ⟨b2, rv2, ob2⟩ := I1.sq q2
  have fr : ∀ c, c ∈ [s1.heap.objs.size + 4, s1.heap.objs.size + 2, s1.heap.objs.size + 3, s1.heap.objs.size, s1.heap.objs.size + 1] → FpOk X pins H1 c := fun c hcm => by
    have hle : s1.heap.objs.size ≤ c := by
      simp only [List.mem_cons, List.not_mem_nil, or_false] at hcm
      rcases hcm with z | z | z | z | z <;> (rw [z]; first | exact Nat.le_refl _ | exact Nat.le_add_right _ _)
    exact I1.fpOk hle (I1.hok.fresh hle)
  refine call_zip2 (st := false) ob1 ob2 fun h' hz hTI hTO h1 h2 hsz hk => iter_zip hz ?_
  have I2 : Inv X pins σ H1 { s1 with heap := h' } := I1.kept (t' := s1.toks) hk
  exact ⟨_, [s1.heap.objs.size + 4, s1.heap.objs.size + 2, s1.heap.objs.size + 3, s1.heap.objs.size, s1.heap.objs.size + 1], _, _, H1, rfl, I2, turn_zip2s (apart2 s1.heap.objs.size a1 a2 ob1.lt ob2.lt), ⟨hz, hTI, ⟨_, _, hTO⟩, h1, h2⟩, fr, q⟩
theorem pi_zip2S {X : Cx} {e1 e2 : Expr} {ta : TA} {p pos tpos kp kq : Pos} {elts : List Expr} {kk kc : Nat} (hg : Gl X "zip") (hm : X.mg "zip" = none) (ha : PA X [e1, e2] ta)
    (he : backTo pos (starEach [e1, e2] X.env) = (false, eval e1 X.env) :: backTo pos (starEach [e2] X.env) := by rfl) (hpl : (backTo pos (starEach [e1, e2] X.env)).any (·.1) = false := by rfl) :
    PI X (.Tuple elts kk tpos) (.Call (.Name "zip" p) [e1, e2] [⟨some "strict", .Constant (.bool true) kc kp, kq⟩] pos) (tiZip2 X.K true ta) := by
  refine ⟨fun pins s σ H R I h => ?_⟩
  refine wpAny_Call_Name_kw (ld_blt I hg hm PyProof.Rows.boot_zip (callWith_typeK (thn (ha.run pos pins s σ H _ I h) fun us s1 ⟨vs, H1, I1, r1, q1⟩ => PyProof.Rows.kws_cons (Constant_bool (PyProof.Rows.kws_nil ?_))) he hpl))
  obtain ⟨a1, a2, w1, w2, t1, t2, ex, q1, q2, q⟩ := q1
  subst ex
  obtain rfl : us = [.ref a1, .ref a2] := vals_refs [a1, a2] r1
  obtain ⟨b1, rv1, ob1⟩ := I1.sq q1
  obtain ⟨b2, rv2, ob2⟩ := I1.sq q2
  have fr : ∀ c, c ∈ [s1.heap.objs.size + 4, s1.heap.objs.size + 2, s1.heap.objs.size + 3, s1.heap.objs.size, s1.heap.objs.size + 1] → FpOk X pins H1 c := fun c hcm => by
    have hle : s1.heap.objs.size ≤ c := by
      simp only [List.mem_cons, List.not_mem_nil, or_false] at hcm
      rcases hcm with z | z | z | z | z <;> (rw [z]; first | exact Nat.le_refl _ | exact Nat.le_add_right _ _)
    exact I1.fpOk hle (I1.hok.fresh hle)
  refine call_zip2 (st := true) ob1 ob2 fun h' hz hTI hTO h1 h2 hsz hk => iter_zip hz ?_
  have I2 : Inv X pins σ H1 { s1 with heap := h' } := I1.kept (t' := s1.toks) hk
  exact ⟨_, [s1.heap.objs.size + 4, s1.heap.objs.size + 2, s1.heap.objs.size + 3, s1.heap.objs.size, s1.heap.objs.size + 1], _, _, H1, rfl, I2, turn_zip2s (apart2 s1.heap.objs.size a1 a2 ob1.lt ob2.lt), ⟨hz, hTI, ⟨_, _, hTO⟩, h1, h2⟩, fr, q⟩
theorem typeCall_zip_3s (st : Bool) (a b c : Value) : checkTypeCall "zip" ⟨[a, b, c], zkw st⟩ = pure () := by cases st <;> kernel_rfl
theorem newCall_zip_3s (st : Bool) (a b c : Value) : checkBuiltinCall "zip.__new__" ⟨[.type "zip", a, b, c], zkw st⟩ = pure () := by cases st <;> kernel_rfl
theorem init_zip_3s (st : Bool) (a b c d : Value) : argsOk "object.__init__" ⟨[a, b, c, d], zkw st⟩ := by
  cases st <;> (unfold argsOk; rw [signature?_of (id := "object.__init__") (n := ['_', '_', 't', 'i', 'n', 'i', '_', '_']) (o := ['t', 'c', 'e', 'j', 'b', 'o']) (by kernel_rfl) F.owner_object]; kernel_rfl)
section
variable (a1 a2 a3 : Addr) (t1 t2 t3 st : Bool) (xs1 xs2 xs3 : Array Value)
abbrev z3H1 (h : Heap) : Heap := h.push (itO t1 a1)
abbrev z3H2 (h : Heap) : Heap := (z3H1 a1 t1 h).push (itO t2 a2)
abbrev z3H3 (h : Heap) : Heap := (z3H2 a1 a2 t1 t2 h).push (itO t3 a3)
abbrev z3HI (h : Heap) : Heap := (z3H3 a1 a2 a3 t1 t2 t3 h).push { cls := .type "tuple", data := .seq #[.ref h.objs.size, .ref (z3H1 a1 t1 h).objs.size, .ref (z3H2 a1 a2 t1 t2 h).objs.size] }
abbrev z3HO (h : Heap) : Heap := (z3HI a1 a2 a3 t1 t2 t3 h).push { cls := .type "tuple", data := .seq #[.none, .none, .none] }
abbrev z3HZ (h : Heap) : Heap := (z3HO a1 a2 a3 t1 t2 t3 h).push { cls := .type "zip", data := .fields #[.none, .bool false, .bool st, .ref (z3H3 a1 a2 a3 t1 t2 t3 h).objs.size, .ref (z3HI a1 a2 a3 t1 t2 t3 h).objs.size] }
theorem zTail3 {prog : Program} {w : World} {A : Around} {E : Value → Shared → Prop} {s : Shared} {Q : PySem.Fin → Shared → Prop} (hl1 : SOb t1 s.heap a1 xs1) (hl2 : SOb t2 s.heap a2 xs2) (hl3 : SOb t3 s.heap a3 xs3)
    (h : Q (.done (.ret (.ref (z3HO a1 a2 a3 t1 t2 t3 s.heap).objs.size))) { s with heap := z3HZ a1 a2 a3 t1 t2 t3 st s.heap }) : wpAny (model prog w) A (zTail [.ref a1, .ref a2, .ref a3] st) Q E s := by
  obtain ⟨hp, g, d, tk, os⟩ := s
  have hL1 : SOb t1 (Shared.heap ⟨hp, g, d, tk, os⟩) a1 xs1 := hl1.at fun o e => e
  have hL2 : SOb t2 (Shared.heap ⟨(hp).push (itO t1 a1), g, d, tk, os⟩) a2 xs2 := hl2.at fun o e => Heap.get?_push_of_some _ e
  have hL3 : SOb t3 (Shared.heap ⟨((hp).push (itO t1 a1)).push (itO t2 a2), g, d, tk, os⟩) a3 xs3 := hl3.at fun o e => Heap.get?_push_of_some _ (Heap.get?_push_of_some _ e)
  unfold zTail
  wp_walk using pyIter_seq hL1, pyIter_seq hL2, pyIter_seq hL3
  exact h
theorem meets_zip3 : Meets (Builtin.«zip.__new__» ⟨[.type "zip", .ref a1, .ref a2, .ref a3], zkw st⟩) (fun _ R s => SOb t1 s.heap a1 xs1 ∧ SOb t2 s.heap a2 xs2 ∧ SOb t3 s.heap a3 xs3 ∧
      R (.ok (.ret (.ref (z3HO a1 a2 a3 t1 t2 t3 s.heap).objs.size))) { s with heap := z3HZ a1 a2 a3 t1 t2 t3 st s.heap }) :=
  .of_wp fun prog w A R s h => by
    obtain ⟨hl1, hl2, hl3, h⟩ := h
    have hsub := sub_zip
    unfold Builtin.«zip.__new__»
    refine wpAny_bind (wpAny_mono (Q := fun r s' => r = (Value.type "zip", [Value.ref a1, Value.ref a2, Value.ref a3]) ∧ s' = s) ?_ (fun r s' hr => ?_) fun _ _ z => z)
    · unfold Builtin.SmallTypes.newClass
      wp_walk
      exact ⟨rfl, rfl⟩
    · obtain ⟨rfl, rfl⟩ := hr
      cases st
      · show wpAny _ _ (zTail [.ref a1, .ref a2, .ref a3] false) _ _ _
        exact zTail3 a1 a2 a3 t1 t2 t3 false xs1 xs2 xs3 hl1 hl2 hl3 ⟨_, rfl, h⟩
      · have c1 : ¬ ([(("strict" : Str), Value.bool true)].length > 1) := by simp
        have c2 : ¬ ((("strict" : Str) != Str.ofString "strict") = true) := by decide
        show wpAny _ _ (if ([(("strict" : Str), Value.bool true)].length > 1) then _ else _) _ _ _
        rw [if_neg c1]
        show wpAny _ _ (if ((("strict" : Str) != Str.ofString "strict") = true) then _ else _) _ _ _
        rw [if_neg c2]
        refine wpAny_bind (wpAny_truthy_bool ?_)
        show wpAny _ _ (zTail [.ref a1, .ref a2, .ref a3] true) _ _ _
        exact zTail3 a1 a2 a3 t1 t2 t3 true xs1 xs2 xs3 hl1 hl2 hl3 ⟨_, rfl, h⟩
end
section
variable {prog : Program} {w : World} {A : Around} {E : Value → Shared → Prop} {s : Shared} {a1 a2 a3 : Addr} {t1 t2 t3 st : Bool} {xs1 xs2 xs3 : Array Value}
theorem call_zip3 {Q : Value → Shared → Prop} (hl1 : SOb t1 s.heap a1 xs1) (hl2 : SOb t2 s.heap a2 xs2) (hl3 : SOb t3 s.heap a3 xs3)
    (h : ∀ h', IsZ h' (s.heap.objs.size + 5) (s.heap.objs.size + 3) (s.heap.objs.size + 4) st .none → IsTupV h' (s.heap.objs.size + 3) [.ref s.heap.objs.size, .ref (s.heap.objs.size + 1), .ref (s.heap.objs.size + 2)] → IsTupV h' (s.heap.objs.size + 4) [.none, .none, .none] → SIt t1 h' s.heap.objs.size a1 0 → SIt t2 h' (s.heap.objs.size + 1) a2 0 → SIt t3 h' (s.heap.objs.size + 2) a3 0 → h'.objs.size = s.heap.objs.size + 6 →
      (∀ c o, s.heap.get? c = some o → h'.get? c = some o) → Q (.ref (s.heap.objs.size + 5)) { s with heap := h' }) :
    wpAny (model prog w) A (call (.type "zip") [.ref a1, .ref a2, .ref a3] (zkw st)) Q E s := by
  refine callType_newK F.called_zip (by decide) (typeCall_zip_3s _ _ _ _) (newCall_zip_3s _ _ _ _) (fun obj => init_zip_3s _ obj _ _ _) F.entry_zip_new
    (meets_zip3 a1 a2 a3 t1 t2 t3 st xs1 xs2 xs3) ⟨hl1, hl2, hl3, ?_⟩
  have s1 : (z3H1 a1 t1 s.heap).objs.size = s.heap.objs.size + 1 := by exact Heap.size_push ..
  have s2 : (z3H2 a1 a2 t1 t2 s.heap).objs.size = s.heap.objs.size + 2 := by rw [Heap.size_push, s1]
  have s3 : (z3H3 a1 a2 a3 t1 t2 t3 s.heap).objs.size = s.heap.objs.size + 3 := by rw [Heap.size_push, s2]
  have sI : (z3HI a1 a2 a3 t1 t2 t3 s.heap).objs.size = s.heap.objs.size + 4 := by rw [Heap.size_push, s3]
  have sO : (z3HO a1 a2 a3 t1 t2 t3 s.heap).objs.size = s.heap.objs.size + 5 := by rw [Heap.size_push, sI]
  have sZ : (z3HZ a1 a2 a3 t1 t2 t3 st s.heap).objs.size = s.heap.objs.size + 6 := by rw [Heap.size_push, sO]
  have gZ : (z3HZ a1 a2 a3 t1 t2 t3 st s.heap).get? (z3HO a1 a2 a3 t1 t2 t3 s.heap).objs.size = some _ := Heap.get?_push_size _ rfl
  have gO : (z3HZ a1 a2 a3 t1 t2 t3 st s.heap).get? (z3HI a1 a2 a3 t1 t2 t3 s.heap).objs.size = some _ := Heap.get?_push_of_some _ (Heap.get?_push_size _ rfl)
  have gI : (z3HZ a1 a2 a3 t1 t2 t3 st s.heap).get? (z3H3 a1 a2 a3 t1 t2 t3 s.heap).objs.size = some _ := Heap.get?_push_of_some _ (Heap.get?_push_of_some _ (Heap.get?_push_size _ rfl))
  have g1 : (z3HZ a1 a2 a3 t1 t2 t3 st s.heap).get? s.heap.objs.size = some _ := Heap.get?_push_of_some _ (Heap.get?_push_of_some _ (Heap.get?_push_of_some _ (Heap.get?_push_of_some _ (Heap.get?_push_of_some _ (Heap.get?_push_size _ rfl)))))
  have g2 : (z3HZ a1 a2 a3 t1 t2 t3 st s.heap).get? (z3H1 a1 t1 s.heap).objs.size = some _ := Heap.get?_push_of_some _ (Heap.get?_push_of_some _ (Heap.get?_push_of_some _ (Heap.get?_push_of_some _ (Heap.get?_push_size _ rfl))))
  have g3 : (z3HZ a1 a2 a3 t1 t2 t3 st s.heap).get? (z3H2 a1 a2 t1 t2 s.heap).objs.size = some _ := Heap.get?_push_of_some _ (Heap.get?_push_of_some _ (Heap.get?_push_of_some _ (Heap.get?_push_size _ rfl)))
  show _ ∧ _
  rw [s3, sI, sO] at gZ
  rw [s1, s2, s3] at gI
  rw [sI] at gO
  rw [s1] at g2
  rw [s2] at g3
  rw [sO]
  exact ⟨⟨_, gZ, rfl⟩, h _ gZ gI gO (sit_new g1) (sit_new g2) (sit_new g3) sZ fun c o x => Heap.get?_push_of_some _ (Heap.get?_push_of_some _ (Heap.get?_push_of_some _ (Heap.get?_push_of_some _ (Heap.get?_push_of_some _ (Heap.get?_push_of_some _ (x))))))⟩
end
theorem apart3 (n : Nat) (a1 a2 a3 : Addr) (q1 : a1 < n) (q2 : a2 < n) (q3 : a3 < n) : Apart3 (n + 5) (n + 3) (n + 4) n (n + 1) (n + 2) a1 a2 a3 := by
  constructor <;> (intro e; first | omega | (simp only [Addr] at *; omega))
/-- the sources as they stand at each turn, the items in new tuples -/
def Itz3 (K : PySem.W.Frag) (st t1 t2 t3 : Bool) (a1 a2 a3 : Addr) : It :=
  ⟨fun i H => ∃ (w1 w2 w3 : List V) (x1 x2 x3 : V), Sq t1 K H a1 w1 ∧ Sq t2 K H a2 w2 ∧ Sq t3 K H a3 w3 ∧ w1[i]? = some x1 ∧ w2[i]? = some x2 ∧ w3[i]? = some x3,
    fun i H v H' => ∃ T x1 x2 x3, v = .ref T ∧ H T = none ∧ H' = upd H T (.tup [x1, x2, x3]) ∧ (∀ w, Sq t1 K H a1 w → w[i]? = some x1) ∧ (∀ w, Sq t2 K H a2 w → w[i]? = some x2) ∧ (∀ w, Sq t3 K H a3 w → w[i]? = some x3),
    fun i H => ∃ w1 w2 w3 : List V, Sq t1 K H a1 w1 ∧ Sq t2 K H a2 w2 ∧ Sq t3 K H a3 w3 ∧ ((w1.length ≤ i ∧ w2.length ≤ i ∧ w3.length ≤ i) ∨ (st = false ∧ (w1.length ≤ i ∨ w2.length ≤ i ∨ w3.length ≤ i)))⟩
theorem turn_zip3s {P : Program} {w : World} {K : PySem.W.Frag} {elts : List Expr} {kk : Nat} {tpos : Pos} {z TI TO i1 i2 i3 a1 a2 a3 : Addr} {st t1 t2 t3 : Bool} (D : Apart3 z TI TO i1 i2 i3 a1 a2 a3) :
    Turn P w K (.Tuple elts kk tpos) (Itz3 K st t1 t2 t3 a1 a2 a3) [z, TI, TO, i1, i2, i3] z (fun i h => IsZ h z TI TO st .none ∧ IsTupV h TI [.ref i1, .ref i2, .ref i3] ∧ (∃ p1 p2 p3, IsTupV h TO [p1, p2, p3]) ∧ SIt t1 h i1 a1 i ∧ SIt t2 h i2 a2 i ∧ SIt t3 h i3 a3 i) where
  mem := by simp
  obj := fun i h s' c hc => by
    obtain ⟨hz, hTI, ⟨p1, p2, p3, hTO⟩, h1, h2, h3⟩ := s'
    have e' : c = z ∨ c = TI ∨ c = TO ∨ c = i1 ∨ c = i2 ∨ c = i3 := by simpa using hc
    rcases e' with q | q | q | q | q | q
    · rw [q]; exact ⟨_, hz, fun v q => nomatch q⟩
    · rw [q]; exact ⟨_, hTI, fun v q => nomatch q⟩
    · rw [q]; exact ⟨_, hTO, fun v q => nomatch q⟩
    · rw [q]; exact h1.obj
    · rw [q]; exact h2.obj
    · rw [q]; exact h3.obj
  keep := fun i h h' s' k => by
    obtain ⟨hz, hTI, ⟨p1, p2, p3, hTO⟩, h1, h2, h3⟩ := s'
    exact ⟨k z (by simp) _ hz, k TI (by simp) _ hTI, ⟨p1, p2, p3, k TO (by simp) _ hTO⟩, h1.at fun o q => k i1 (by simp) o q, h2.at fun o q => k i2 (by simp) o q, h3.at fun o q => k i3 (by simp) o q⟩
  item := by
    intro X hP hw hK hc i pins s σ H E I hf s' hg
    subst hP hw hK
    obtain ⟨hz, hTI, ⟨p1, p2, p3, hTO⟩, h1, h2, h3⟩ := s'
    obtain ⟨w1, w2, w3, x1, x2, x3, q1, q2, q3, y1, y2, y3⟩ := hg
    obtain ⟨b1, rv1, ob1⟩ := I.sq q1
    obtain ⟨u1, hu1, ru1⟩ := rv1.get y1
    obtain ⟨b2, rv2, ob2⟩ := I.sq q2
    obtain ⟨u2, hu2, ru2⟩ := rv2.get y2
    obtain ⟨b3, rv3, ob3⟩ := I.sq q3
    obtain ⟨u3, hu3, ru3⟩ := rv3.get y3
    have zl : z < s.heap.objs.size := Heap.lt_size hz
    refine zip3_next D hz hTI hTO h1 h2 h3 ob1 ob2 ob3 (by simpa using hu1) (by simpa using hu2) (by simpa using hu3) fun h' z' TO' h1' h2' h3' hT hsz hk => ?_
    refine ⟨_, rfl, go_zip (s := { s with heap := h' }) z' fun h'' z'' sb => ?_⟩
    have hT2 : IsTupV h'' s.heap.objs.size [u1, u2, u3] := (sb.2 _ (Nat.ne_of_gt zl)).trans hT
    have new : ObjOk X.prog X.w (upd H s.heap.objs.size (.tup [x1, x2, x3])) h'' s.heap.objs.size (.tup [x1, x2, x3]) :=
      ⟨by show 3 ≤ sizeLine; decide, [u1, u2, u3], .cons ru1 (.cons ru2 (.cons ru3 .nil)), ⟨_, hT2, rfl, _, rfl⟩⟩
    have I1 : Inv X pins σ (upd H s.heap.objs.size (.tup [x1, x2, x3])) { s with heap := h'' } :=
      I.turnedNew (t' := s.toks) (ch := [z, TI, TO, i1, i2, i3]) (fun c o hb q => (sb.2 c (fun q' => hb (by simp [q']))).trans (hk c o (fun q' => hb (by simp [q'])) (fun q' => hb (by simp [q'])) (fun q' => hb (by simp [q'])) (fun q' => hb (by simp [q'])) (fun q' => hb (by simp [q'])) q)) hf (Nat.le_refl _) new
    refine ⟨.ref s.heap.objs.size, _, I1, rfl, ⟨_, x1, x2, x3, rfl, I.hok.fresh (Nat.le_refl _), rfl, fun l hl => by rw [I.sq_inj hl q1]; exact y1, fun l hl => by rw [I.sq_inj hl q2]; exact y2, fun l hl => by rw [I.sq_inj hl q3]; exact y3⟩, ⟨z'', ?_, ⟨u1, u2, u3, ?_⟩, ?_, ?_, ?_⟩, fun c hcm => ?_⟩
    · exact (sb.2 _ D.TI_z).trans (hk _ _ D.TI_z D.TI_TO D.TI_i1 D.TI_i2 D.TI_i3 hTI)
    · exact (sb.2 _ D.TO_z).trans TO'
    · exact h1'.at fun o q => (sb.2 _ D.i1_z).trans q
    · exact h2'.at fun o q => (sb.2 _ D.i2_z).trans q
    · exact h3'.at fun o q => (sb.2 _ D.i3_z).trans q
    · have hlt : c < s.heap.objs.size := by
        have e' : c = z ∨ c = TI ∨ c = TO ∨ c = i1 ∨ c = i2 ∨ c = i3 := by simpa using hcm
        rcases e' with q | q | q | q | q | q
        · rw [q]; exact zl
        · rw [q]; exact Heap.lt_size hTI
        · rw [q]; exact Heap.lt_size hTO
        · rw [q]; exact h1.lt
        · rw [q]; exact h2.lt
        · rw [q]; exact h3.lt
      rw [upd_ne (Nat.ne_of_lt hlt)]
      exact (hf c hcm).1
  done := by
    intro X hP hw hK hc i pins s σ H E I hf s' hg
    subst hP hw hK
    obtain ⟨hz, hTI, ⟨p1, p2, p3, hTO⟩, h1, h2, h3⟩ := s'
    obtain ⟨w1, w2, w3, q1, q2, q3, hend⟩ := hg
    obtain ⟨b1, rv1, ob1⟩ := I.sq q1
    have l1 := rv1.length
    obtain ⟨b2, rv2, ob2⟩ := I.sq q2
    have l2 := rv2.length
    obtain ⟨b3, rv3, ob3⟩ := I.sq q3
    have l3 := rv3.length
    have he : (b1.toArray[i]? = none ∧ b2.toArray[i]? = none ∧ b3.toArray[i]? = none) ∨ (st = false ∧ (b1.toArray[i]? = none ∨ b2.toArray[i]? = none ∨ b3.toArray[i]? = none)) := by
      rcases hend with q | ⟨q0, q⟩
      · refine .inl ⟨?_, ?_, ?_⟩ <;> (simp; omega)
      · refine .inr ⟨q0, ?_⟩
        rcases q with q | q | q
        · exact .inl (by simp; omega)
        · exact .inr (.inl (by simp; omega))
        · exact .inr (.inr (by simp; omega))
    exact zip3_stop (I.ok.hd hc) D hz hTI hTO h1 h2 h3 ob1 ob2 ob3 he fun h' hk => ⟨rfl, I.turnedL (t' := s.toks) (ch := [z, TI, TO, i1, i2, i3]) (fun c o hb q =>
      hk c o (fun q' => hb (by simp [q'])) (fun q' => hb (by simp [q'])) (fun q' => hb (by simp [q'])) (fun q' => hb (by simp [q'])) (fun q' => hb (by simp [q'])) q) hf⟩
  self := fun A i s Q E s' h => iter_zip s'.1 h
def tiZip3 (K : PySem.W.Frag) (st : Bool) (ta : TA) : TI := fun σ H R => ta σ H fun vs H1 => ∃ (a1 a2 a3 : Addr) (w1 w2 w3 : List V) (t1 t2 t3 : Bool), vs = [.ref a1, .ref a2, .ref a3] ∧ Sq t1 K H1 a1 w1 ∧ Sq t2 K H1 a2 w2 ∧ Sq t3 K H1 a3 w3 ∧ R (Itz3 K st t1 t2 t3 a1 a2 a3) H1
theorem pi_zip3S {X : Cx} {e1 e2 e3 : Expr} {ta : TA} {p pos tpos kp kq : Pos} {elts : List Expr} {kk kc : Nat} (hg : Gl X "zip") (hm : X.mg "zip" = none) (ha : PA X [e1, e2, e3] ta)
    (he : backTo pos (starEach [e1, e2, e3] X.env) = (false, eval e1 X.env) :: backTo pos (starEach [e2, e3] X.env) := by rfl) (hpl : (backTo pos (starEach [e1, e2, e3] X.env)).any (·.1) = false := by rfl) :
    PI X (.Tuple elts kk tpos) (.Call (.Name "zip" p) [e1, e2, e3] [⟨some "strict", .Constant (.bool true) kc kp, kq⟩] pos) (tiZip3 X.K true ta) := by
  refine ⟨fun pins s σ H R I h => ?_⟩
  refine wpAny_Call_Name_kw (ld_blt I hg hm PyProof.Rows.boot_zip (callWith_typeK (thn (ha.run pos pins s σ H _ I h) fun us s1 ⟨vs, H1, I1, r1, q1⟩ => PyProof.Rows.kws_cons (Constant_bool (PyProof.Rows.kws_nil ?_))) he hpl))
  obtain ⟨a1, a2, a3, w1, w2, w3, t1, t2, t3, ex, q1, q2, q3, q⟩ := q1
  subst ex
  obtain rfl : us = [.ref a1, .ref a2, .ref a3] := vals_refs [a1, a2, a3] r1
  obtain ⟨b1, rv1, ob1⟩ := I1.sq q1
  obtain ⟨b2, rv2, ob2⟩ := I1.sq q2
  obtain ⟨b3, rv3, ob3⟩ := I1.sq q3
  have fr : ∀ c, c ∈ [s1.heap.objs.size + 5, s1.heap.objs.size + 3, s1.heap.objs.size + 4, s1.heap.objs.size, s1.heap.objs.size + 1, s1.heap.objs.size + 2] → FpOk X pins H1 c := fun c hcm => by
    have hle : s1.heap.objs.size ≤ c := by
      simp only [List.mem_cons, List.not_mem_nil, or_false] at hcm
      rcases hcm with z | z | z | z | z | z <;> (rw [z]; first | exact Nat.le_refl _ | exact Nat.le_add_right _ _)
    exact I1.fpOk hle (I1.hok.fresh hle)
  refine call_zip3 (st := true) ob1 ob2 ob3 fun h' hz hTI hTO h1 h2 h3 hsz hk => iter_zip hz ?_
  have I2 : Inv X pins σ H1 { s1 with heap := h' } := I1.kept (t' := s1.toks) hk
  exact ⟨_, [s1.heap.objs.size + 5, s1.heap.objs.size + 3, s1.heap.objs.size + 4, s1.heap.objs.size, s1.heap.objs.size + 1, s1.heap.objs.size + 2], _, _, H1, rfl, I2, turn_zip3s (apart3 s1.heap.objs.size a1 a2 a3 ob1.lt ob2.lt ob3.lt), ⟨hz, hTI, ⟨_, _, _, hTO⟩, h1, h2, h3⟩, fr, q⟩
end LW
namespace LW
open PySem PySem.Spec PyProof.Rows L2
section
variable {prog : Program} {w : World} {A : Around} {E : Value → Shared → Prop} {s : Shared} {tp : Bool}
theorem enum_item {e it l : Addr} {k : Nat} {i : Int} {items : Array Value} {x old : Value} {Q : Value → Shared → Prop}
    (he : IsEnum s.heap e it i old) (hit : SIt tp s.heap it l k) (hl : SOb tp s.heap l items) (hx : items[k]? = some x) (hne : e ≠ it)
    (hQ : ∀ h', IsEnumOut h' e it (i + 1) x s.heap.objs.size → SIt tp h' it l (k + 1) →
      h'.get? s.heap.objs.size = some { cls := .type "tuple", data := .seq #[.int i s.toks, x] } → h'.objs.size = s.heap.objs.size + 1 →
      (∀ b o, b ≠ e → b ≠ it → s.heap.get? b = some o → h'.get? b = some o) → Q (.ref s.heap.objs.size) { s with heap := h', toks := s.toks + 1 }) :
    wpAny (model prog w) A (Builtin.«enumerate.__next__» ⟨[.ref e], []⟩) (fun fin s' => ∃ v, fin = .done (.ret v) ∧ Q v s') E s := by
  obtain ⟨hp, g, d, tk, os⟩ := s
  show wpAny _ _ (field (.ref e) 2 >>= _) _ _ _
  refine wpAny_bind (wpAny_field he rfl (x := .ref it) rfl ?_)
  refine wpAny_bind (nextOf_item hit hl hx fun h₁ hit₁ hs₁ => ?_)
  replace hs₁ : Heap.SameBut it hp h₁ := hs₁
  have he₁ : IsEnum h₁ e it i old := (hs₁.2 e hne).trans he
  show wpAny _ _ (field (.ref e) 3 >>= _) _ _ ⟨h₁, g, d, tk, os⟩
  refine wpAny_bind (wpAny_field he₁ rfl (x := rawInt i) rfl ?_)
  show wpAny _ _ (field (.ref e) 4 >>= _) _ _ ⟨h₁, g, d, tk, os⟩
  refine wpAny_bind (wpAny_field he₁ rfl (x := .none) rfl ?_)
  show wpAny _ _ (mkInt i >>= _) _ _ ⟨h₁, g, d, tk, os⟩
  refine wpAny_bind (wpAny_mkInt ?_)
  show wpAny _ _ (setField (.ref e) 3 (rawInt (i + 1)) >>= _) _ _ ⟨h₁, g, d, tk + 1, os⟩
  refine wpAny_bind (wpAny_setField_rec he₁ (by simp) fun h₂ he₂ hs₂ => ?_)
  replace hs₂ : Heap.SameBut e h₁ h₂ := hs₂
  replace he₂ : IsEnum h₂ e it (i + 1) old := he₂
  show wpAny _ _ (setField (.ref e) 4 .none >>= _) _ _ ⟨h₂, g, d, tk + 1, os⟩
  refine wpAny_bind (wpAny_setField_rec he₂ (by simp) fun h₃ he₃ hs₃ => ?_)
  replace hs₃ : Heap.SameBut e h₂ h₃ := hs₃
  replace he₃ : IsEnum h₃ e it (i + 1) old := he₃
  show wpAny _ _ (newTuple [.int i tk, x] >>= _) _ _ ⟨h₃, g, d, tk + 1, os⟩
  refine wpAny_bind (wpAny_newTuple ?_)
  have he₄ : IsEnum (h₃.push { cls := .type "tuple", data := .seq #[.int i tk, x] }) e it (i + 1) old := Heap.get?_push_of_some _ he₃
  generalize hh₄ : h₃.push { cls := .type "tuple", data := .seq #[.int i tk, x] } = h₄ at he₄
  have hsz : h₃.objs.size = hp.objs.size := by rw [hs₃.1, hs₂.1, hs₁.1]
  have hel : e < hp.objs.size := Heap.lt_size he
  have ht₄ : h₄.get? hp.objs.size = some { cls := .type "tuple", data := .seq #[.int i tk, x] } := by rw [← hh₄, ← hsz]; exact Heap.get?_push_size _ rfl
  have hz₄ : h₄.objs.size = hp.objs.size + 1 := by rw [← hh₄, Heap.size_push, hsz]
  have hk₄ : ∀ b o, b ≠ e → b ≠ it → hp.get? b = some o → h₄.get? b = some o := fun b o hbe hbi hb => by
    rw [← hh₄]; exact Heap.get?_push_of_some _ (hs₃.extBut b o hbe (hs₂.extBut b o hbe (hs₁.extBut b o hbi hb)))
  have hit₄ : SIt tp h₄ it l (k + 1) := by
    rw [← hh₄]; exact hit₁.at fun o ho => Heap.get?_push_of_some _ (hs₃.extBut _ _ (Ne.symm hne) (hs₂.extBut _ _ (Ne.symm hne) ho))
  show wpAny _ _ (Builtin.SmallTypes.ownedTupleIsFree (.ref e) >>= _) _ _ ⟨h₄, g, d, tk + 1, os⟩
  rw [hsz]
  clear hh₄ he₃ hs₃ he₂ hs₂ he₁ hs₁ hit₁ hsz h₃ h₂ h₁
  refine wpAny_bind ?_
  · unfold Builtin.SmallTypes.ownedTupleIsFree
    refine wpAny_bind (wpAny_field he₄ rfl (x := .none) rfl (wpAny_pure ?_))
    simp only [if_true]
    refine wpAny_bind (wpAny_rule ?_)
    refine wpAny_bind (wpAny_field he₄ rfl (x := old) rfl ?_)
    refine wpAny_bind (wpAny_setField_rec he₄ (by simp) fun h₅ he₅ hs₅ => ?_)
    replace hs₅ : Heap.SameBut e h₄ h₅ := hs₅
    replace he₅ : IsEnum h₅ e it (i + 1) x := he₅
    show wpAny _ _ (Builtin.SmallTypes.ownedTupleHandOut (.ref e) (.ref hp.objs.size) >>= _) _ _ ⟨h₅, g, d, tk + 1, os⟩
    refine wpAny_bind ?_
    · unfold Builtin.SmallTypes.ownedTupleHandOut
      refine wpAny_bind (wpAny_setField_rec he₅ (by simp) fun h₆ he₆ hs₆ => ?_)
      replace hs₆ : Heap.SameBut e h₅ h₆ := hs₆
      replace he₆ : IsEnumOut h₆ e it (i + 1) x hp.objs.size := he₆
      refine wpAny_setField_rec he₆ (by simp) fun h₇ he₇ hs₇ => ?_
      replace hs₇ : Heap.SameBut e h₆ h₇ := hs₇
      replace he₇ : IsEnumOut h₇ e it (i + 1) x hp.objs.size := he₇
      refine wpAny_bind (wpAny_letGo (wpAny_pure ⟨_, rfl, hQ h₇ he₇ ?_ ?_ ?_ ?_⟩))
      · exact hit₄.at fun o ho => hs₇.extBut _ _ (Ne.symm hne) (hs₆.extBut _ _ (Ne.symm hne) (hs₅.extBut _ _ (Ne.symm hne) ho))
      · exact hs₇.extBut _ _ (Nat.ne_of_gt hel) (hs₆.extBut _ _ (Nat.ne_of_gt hel) (hs₅.extBut _ _ (Nat.ne_of_gt hel) ht₄))
      · rw [hs₇.1, hs₆.1, hs₅.1, hz₄]
      · exact fun b o hbe hbi hb => hs₇.extBut b o hbe (hs₆.extBut b o hbe (hs₅.extBut b o hbe (hk₄ b o hbe hbi hb)))
theorem enum_next {e it l : Addr} {k : Nat} {i : Int} {items : Array Value} {x old : Value} {Q : Option Value → Shared → Prop}
    (he : IsEnum s.heap e it i old) (hit : SIt tp s.heap it l k) (hl : SOb tp s.heap l items) (hx : items[k]? = some x) (hne : e ≠ it)
    (hQ : ∀ h', IsEnumOut h' e it (i + 1) x s.heap.objs.size → SIt tp h' it l (k + 1) →
      h'.get? s.heap.objs.size = some { cls := .type "tuple", data := .seq #[.int i s.toks, x] } → h'.objs.size = s.heap.objs.size + 1 →
      (∀ b o, b ≠ e → b ≠ it → s.heap.get? b = some o → h'.get? b = some o) → Q (some (.ref s.heap.objs.size)) { s with heap := h', toks := s.toks + 1 }) :
    wpAny (model prog w) A (pyNext (.ref e)) Q E s := by
  have hT : s.TypeIs (.ref e) "enumerate" := ⟨_, he, rfl⟩
  unfold pyNext
  exact wpAny_bind (wpAny_attempt (wpAny_callSpecial?_slot (name := Str.ofString "__next__") hT F.slot_enumerate_next
    (wpAny_call_entry F.slot_enumerate_next hT F.entry_enumerate_next
      (enum_item he hit hl hx hne fun h' a b c d k => wpAny_pure (hQ h' a b c d k)) (F.args_enumerate_next_1 _))))
theorem enum_stop {e it l : Addr} {k : Nat} {i : Int} {items : Array Value} {old : Value} {Q : Option Value → Shared → Prop} (hh : A.handled = none)
    (he : IsEnum s.heap e it i old) (hit : SIt tp s.heap it l k) (hl : SOb tp s.heap l items) (hx : items[k]? = none)
    (hQ : ∀ h', Heap.ExtBut it s.heap h' → Q none { s with heap := h' }) : wpAny (model prog w) A (pyNext (.ref e)) Q E s := by
  have hT : s.TypeIs (.ref e) "enumerate" := ⟨_, he, rfl⟩
  unfold pyNext
  refine wpAny_bind (wpAny_attempt (wpAny_callSpecial?_slot (name := Str.ofString "__next__") hT F.slot_enumerate_next
    (wpAny_call_entry F.slot_enumerate_next hT F.entry_enumerate_next ?_ (F.args_enumerate_next_1 _))))
  show wpAny _ _ (field (.ref e) 2 >>= _) _ _ _
  refine wpAny_bind (wpAny_field he rfl (x := .ref it) rfl ?_)
  refine wpAny_bind (nextOf_end hh hit hl hx fun h' x he' hx' => ?_)
  obtain ⟨o, ho, hc⟩ := hx'
  refine wpAny_bind (wpAny_isInstance (T := "StopIteration") (b := true) ⟨o, ho, hc⟩ isSubtype_stop ?_)
  exact wpAny_pure (hQ _ he')
end
theorem meets_enum (l : Addr) (tp : Bool) (items : Array Value) :
    Meets (Builtin.«enumerate.__new__» ⟨[.type "enumerate", .ref l], []⟩) (fun _ R s => SOb tp s.heap l items ∧
      R (.ok (.ret (.ref (s.heap.push (itO tp l)).objs.size)))
        { s with heap := (s.heap.push (itO tp l)).push { cls := .type "enumerate", data := .fields #[.none, .bool false, .ref s.heap.objs.size, rawInt 0, .none, .none] } }) :=
  .of_wp fun prog w A R s h => by
    obtain ⟨hp, g, d, tk, os⟩ := s; obtain ⟨hl, h⟩ := h
    have hsub := sub_enumerate
    have hL : SOb tp (Shared.heap ⟨hp, g, d, tk, os⟩) l items := hl
    wp_walk
    refine wpAny_stack_any fun st => wpAny_pure ?_
    split
    · rename_i c _ _ _ _ _
      cases (c == Value.type "enumerate")
      · wp_walk using pyIter_seq hL
        exact ⟨_, rfl, h⟩
      · wp_walk using pyIter_seq hL
        exact ⟨_, rfl, h⟩
    · wp_walk using pyIter_seq hL
      exact ⟨_, rfl, h⟩
section
variable {prog : Program} {w : World} {A : Around} {E : Value → Shared → Prop} {s : Shared} {tp : Bool}
theorem call_enum {l : Addr} {items : Array Value} {Q : Value → Shared → Prop} (hL : SOb tp s.heap l items)
    (h : ∀ h', IsEnum h' (s.heap.objs.size + 1) s.heap.objs.size 0 .none → SIt tp h' s.heap.objs.size l 0 → h'.objs.size = s.heap.objs.size + 2 →
      (∀ b o, s.heap.get? b = some o → h'.get? b = some o) → Q (.ref (s.heap.objs.size + 1)) { s with heap := h' }) :
    wpAny (model prog w) A (call (.type "enumerate") [.ref l]) Q E s := by
  refine callType_new F.called_enumerate (by decide) (F.typeCall_enumerate_1 _) (F.newCall_enumerate_1 _) (fun obj => F.args_object_init_2 obj _) F.entry_enumerate_new
    (meets_enum l tp items) ⟨hL, ?_⟩
  have hz : (s.heap.push (itO tp l)).objs.size = s.heap.objs.size + 1 := Heap.size_push ..
  show _ ∧ _
  rw [hz]
  have he : IsEnum ((s.heap.push (itO tp l)).push
      { cls := .type "enumerate", data := .fields #[.none, .bool false, .ref s.heap.objs.size, rawInt 0, .none, .none] }) (s.heap.objs.size + 1) s.heap.objs.size 0 .none := by
    have := Heap.get?_push_size (s.heap.push (itO tp l))
      (o := { cls := .type "enumerate", data := .fields #[.none, .bool false, .ref s.heap.objs.size, rawInt 0, .none, .none] }) rfl
    rw [hz] at this; exact this
  refine ⟨⟨_, he, rfl⟩, h _ he (sit_new (Heap.get?_push_of_some _ (Heap.get?_push_size _ rfl))) (by rw [Heap.size_push, hz]) fun b o x => Heap.get?_push_of_some _ (Heap.get?_push_of_some _ x)⟩
end
/-- the list or tuple at a as it stands at each turn, each item in a new pair -/
def Ite2 (K : PySem.W.Frag) (tp : Bool) (a : Addr) : It :=
  ⟨fun i H => ∃ (xs : List V) (x : V), Sq tp K H a xs ∧ xs[i]? = some x, fun i H v H' => ∃ T x, v = .ref T ∧ H T = none ∧ H' = upd H T (.tup [.int (i : Nat), x]) ∧ ∀ xs, Sq tp K H a xs → xs[i]? = some x, fun i H => ∃ xs : List V, Sq tp K H a xs ∧ xs.length ≤ i⟩
theorem turn_enum2 {P : Program} {w : World} {K : PySem.W.Frag} {elts : List Expr} {kk : Nat} {tpos : Pos} {tp : Bool} (a e it : Addr) :
    Turn P w K (.Tuple elts kk tpos) (Ite2 K tp a) [e, it] e (fun i h => (∃ old, IsEnum h e it ((i : Nat) : Int) old) ∧ SIt tp h it a i ∧ e ≠ it) where
  mem := by simp
  obj := fun i h st b hb => by
    obtain ⟨⟨old, he⟩, hi, _⟩ := st
    have e' : b = e ∨ b = it := by simpa using hb
    rcases e' with z | z
    · rw [z]; exact ⟨_, he, fun v q => nomatch q⟩
    · rw [z]; exact hi.obj
  keep := fun i h h' st k => let ⟨⟨old, he⟩, hi, hne⟩ := st; ⟨⟨old, k e (by simp) _ he⟩, hi.at fun o q => k it (by simp) o q, hne⟩
  item := by
    intro X hP hw hK hc i pins s σ H E I hf st hg
    subst hP hw hK
    obtain ⟨⟨old, he⟩, hit, hne⟩ := st
    obtain ⟨xs, x, hq, hx⟩ := hg
    obtain ⟨its, rv, p⟩ := I.sq hq
    obtain ⟨u, hu, ru⟩ := rv.get hx
    have hel : e < s.heap.objs.size := Heap.lt_size he
    have hil : it < s.heap.objs.size := hit.lt
    refine enum_next he hit p (x := u) (by simpa using hu) hne fun h' ho hit' hT hsz hk => ?_
    refine ⟨_, rfl, wpAny_letOwnedTupleGo_enum (s := { s with heap := h', toks := s.toks + 1 }) ho fun h'' he' sb => ?_⟩
    have hT2 : h''.get? s.heap.objs.size = some { cls := .type "tuple", data := .seq #[.int i s.toks, u] } := (sb.2 _ (Nat.ne_of_gt hel)).trans hT
    have new : ObjOk X.prog X.w (upd H s.heap.objs.size (.tup [.int (i : Nat), x])) h'' s.heap.objs.size (.tup [.int (i : Nat), x]) :=
      ⟨by show 2 ≤ sizeLine; decide, [.int i s.toks, u], .cons ⟨_, rfl⟩ (.cons ru .nil), ⟨_, hT2, rfl, _, rfl⟩⟩
    have I1 : Inv X pins σ (upd H s.heap.objs.size (.tup [.int (i : Nat), x])) { s with heap := h'', toks := s.toks + 1 } :=
      I.turnedNew (ch := [e, it]) (fun b ob hb q => (sb.2 b (fun z => hb (by simp [z]))).trans (hk b ob (fun z => hb (by simp [z])) (fun z => hb (by simp [z])) q)) hf (Nat.le_refl _) new
    refine ⟨.ref s.heap.objs.size, _, I1, rfl, ⟨_, x, rfl, I.hok.fresh (Nat.le_refl _), rfl, fun ys hy => by rw [I.sq_inj hy hq]; exact hx⟩, ⟨⟨u, ?_⟩, hit'.at fun o q => (sb.2 it (Ne.symm hne)).trans q, hne⟩, fun b hb => ?_⟩
    · have e1 : ((i + 1 : Nat) : Int) = (i : Int) + 1 := by omega
      rw [e1]; exact he'
    · have hb' : b < s.heap.objs.size := by
        have e' : b = e ∨ b = it := by simpa using hb
        rcases e' with z | z
        · rw [z]; exact hel
        · rw [z]; exact hil
      rw [upd_ne (Nat.ne_of_lt hb')]
      exact (hf b hb).1
  done := by
    intro X hP hw hK hc i pins s σ H E I hf st hg
    subst hP hw hK
    obtain ⟨⟨old, he⟩, hit, hne⟩ := st
    obtain ⟨xs, hq, hx⟩ := hg
    obtain ⟨its, rv, p⟩ := I.sq hq
    obtain ⟨f0, f1, f2, f3, f4, f5⟩ := hf it (by simp)
    have hl := rv.length
    exact enum_stop (I.ok.hd hc) he hit p (by simp; omega) fun h' eb => ⟨rfl, I.turned (t' := s.toks) (fun b o hb q => eb b o hb q) f0 f1 f3 f4 f5⟩
  self := fun A i s Q E st h => let ⟨⟨_, he⟩, _⟩ := st; wpAny_pyIter_enum he h
def iEnum2 (K : PySem.W.Frag) (ta : TA) : TI := fun σ H R => ta σ H fun vs H1 => ∃ (a : Addr) (xs : List V) (tp : Bool), vs = [.ref a] ∧ Sq tp K H1 a xs ∧ R (Ite2 K tp a) H1
theorem pi_enum2 {X : Cx} {e : Expr} {ta : TA} {p pos tpos : Pos} {elts : List Expr} {kk : Nat} (hg : Gl X "enumerate") (hm : X.mg "enumerate" = none) (ha : PA X [e] ta) (hs : starEach [e] X.env = [(false, eval e X.env)] := by rfl) :
    PI X (.Tuple elts kk tpos) (.Call (.Name "enumerate" p) [e] [] pos) (iEnum2 X.K ta) := by
  refine ⟨fun pins s σ H R I h => ?_⟩
  refine Call_ (ld_blt I hg hm boot_enumerate (PyProof.Rows.callWith_type1 (thn (ha.run pos pins s σ H _ I h) fun us s1 ⟨vs, H1, I1, r1, q1⟩ => ?_) hs rfl))
  obtain ⟨a, xs, tp, ex, hq, q⟩ := q1
  subst ex
  cases r1 with
  | cons r rr =>
    cases rr
    cases r
    obtain ⟨its, rv, p'⟩ := I1.sq hq
    refine call_enum p' fun h' he hit hsz hk => wpAny_pyIter_enum he ?_
    have I2 : Inv X pins σ H1 { s1 with heap := h' } := I1.kept (t' := s1.toks) hk
    refine ⟨s1.heap.objs.size + 1, [s1.heap.objs.size + 1, s1.heap.objs.size], _, _, H1, rfl, I2, turn_enum2 a (s1.heap.objs.size + 1) s1.heap.objs.size, ⟨⟨.none, he⟩, hit, Nat.succ_ne_self _⟩, fun b hb => ?_, q⟩
    have e' : b = s1.heap.objs.size + 1 ∨ b = s1.heap.objs.size := by simpa using hb
    have hle : s1.heap.objs.size ≤ b := by
      rcases e' with z | z
      · rw [z]; exact Nat.le_add_right _ _
      · rw [z]; exact Nat.le_refl _
    exact I1.fpOk hle (I1.hok.fresh hle)
/-- a list or a tuple, walked -/
def iSeq (K : PySem.W.Frag) (tl : TE) : TI := fun σ H R => tl σ H fun x H1 => ∃ a, x = .ref a ∧ (((∃ xs, SqL K H1 a xs) ∧ R (Itl K a) H1) ∨ ((∃ xs, SqT K H1 a xs) ∧ R (Itt K a) H1))
theorem pi_seq {X : Cx} {tg l : Expr} {tl : TE} (hl : PE X l tl) : PI X tg l (iSeq X.K tl) := by
  refine ⟨fun pins s σ H R I h => ?_⟩
  refine thn (hl.run pins s σ H _ I h) fun v s1 ⟨x, H1, I1, r1, q1⟩ => ?_
  obtain ⟨a, e, q1⟩ := q1
  subst e
  cases r1
  rcases q1 with ⟨⟨xs, hq⟩, q⟩ | ⟨⟨xs, hq⟩, q⟩
  · obtain ⟨its, rv, p, hz⟩ := I1.list hq
    refine wpAny_pyIter_list p.isList ?_
    refine ⟨s1.heap.objs.size, [s1.heap.objs.size], _, _, H1, rfl, I1.kept (t' := s1.toks) fun b o e => Heap.get?_push_of_some _ e, turn_list a _, ⟨_, Heap.get?_push_size _ rfl, rfl, rfl⟩, fun b hb => ?_, q⟩
    have e : b = s1.heap.objs.size := by simpa using hb
    subst e
    exact I1.fpOk (Nat.le_refl _) (I1.hok.fresh (Nat.le_refl _))
  · obtain ⟨its, rv, p, hz⟩ := I1.tuple hq
    refine wpAny_pyIter_tuple (show s1.heap.IsTuple a its.toArray from p) ?_
    refine ⟨s1.heap.objs.size, [s1.heap.objs.size], _, _, H1, rfl, I1.kept (t' := s1.toks) fun b o e => Heap.get?_push_of_some _ e, turn_tuple a _, ⟨_, Heap.get?_push_size _ rfl, rfl, rfl⟩, fun b hb => ?_, q⟩
    have e : b = s1.heap.objs.size := by simpa using hb
    subst e
    exact I1.fpOk (Nat.le_refl _) (I1.hok.fresh (Nat.le_refl _))
end LW
namespace LW
open PySem PySem.Spec PyProof.Rows L2
section
variable {G : Gm} {H H' : Hp} {W W' : Wd} {M M' : Mem}
mutual
theorem below_mono {n m : Nat} (h : n ≤ m) : ∀ d : D, below n d = true → below m d = true
  | .non, _ => rfl
  | .bl _, _ => rfl
  | .int _, _ => rfl
  | .str _, _ => rfl
  | .scr _, _ => rfl
  | .tup xs, q => belows_mono h xs q
  | .lst xs, q => belows_mono h xs q
  | .dct _ xs, q => belows_mono h xs q
  | .dtt _ xs, q => belows_mono h xs q
  | .exn _ _, _ => rfl
  | .key _, _ => rfl
  | .clo _ xs, q => belows_mono h xs q
  | .ref k, q => by
    have q' : decide (k < n) = true := q
    show decide (k < m) = true
    have := of_decide_eq_true q'
    exact decide_eq_true (by omega)
theorem belows_mono {n m : Nat} (h : n ≤ m) : ∀ ds : List D, belows n ds = true → belows m ds = true
  | [], _ => rfl
  | d :: ds, q => by
    have q' : (below n d && belows n ds) = true := q
    rw [Bool.and_eq_true] at q'
    show (below m d && belows m ds) = true
    rw [below_mono h d q'.1, belows_mono h ds q'.2]
    rfl
end
theorem belows_append {n : Nat} : ∀ {xs ys : List D}, belows n xs = true → belows n ys = true → belows n (xs ++ ys) = true
  | [], _, _, h => h
  | x :: xs, ys, h, h' => by
    have q : (below n x && belows n xs) = true := h
    rw [Bool.and_eq_true] at q
    show (below n x && belows n (xs ++ ys)) = true
    rw [q.1, belows_append q.2 h']
    rfl
theorem belows_set {n : Nat} {d : D} (hd : below n d = true) : ∀ {xs : List D} (k : Nat), belows n xs = true → belows n (xs.set k d) = true
  | [], _, h => h
  | x :: xs, 0, h => by
    have q : (below n x && belows n xs) = true := h
    rw [Bool.and_eq_true] at q
    show (below n d && belows n xs) = true
    rw [hd, q.2]
    rfl
  | x :: xs, k + 1, h => by
    have q : (below n x && belows n xs) = true := h
    rw [Bool.and_eq_true] at q
    show (below n x && belows n (xs.set k d)) = true
    rw [q.1, belows_set hd k q.2]
    rfl
theorem Ext.write {h : Nat} {o : HO} (m : MR G H W M) (hn : h < W.n) : Ext H W (upd H (W.e h) o) W :=
  ⟨⟨Nat.le_refl _, fun _ _ => rfl, fun a u q n => ⟨by rw [upd_ne fun e => n (.inr ⟨h, hn, e.symm⟩)]; exact q, n⟩⟩, rfl, rfl, rfl, fun a ha => upd_ne fun e => (m.avt a ha).2 h hn e.symm⟩
/-- the list of a handle is changed -/
theorem MR.write {h : Nat} {xs ys : List D} {ws : List V} (m : MR G H W M) (hc : M[h]? = some (.lst xs)) (r : RDs G H W ys ws) (hb : h < W.b → belows (W.lim h) ys = true) :
    MR G (upd H (W.e h) (.lst ws)) W (M.set h (.lst ys)) := by
  have hn : h < W.n := by rw [← m.len]; exact lt_of_get hc
  have x : Ext H W (upd H (W.e h) (.lst ws)) W := Ext.write m hn
  refine ⟨by rw [List.length_set]; exact m.len, m.inj, m.bn, m.lm, fun a ha => ⟨by rw [x.avk a ha]; exact (m.avt a ha).1, (m.avt a ha).2⟩, fun k c e => ?_⟩
  by_cases hk : h = k
  · subst hk
    rw [List.getElem?_set_self (by rw [m.len]; exact hn)] at e
    cases e
    exact ⟨ws, upd_same, r.mono x.toLe, hb⟩
  · rw [List.getElem?_set_ne hk] at e
    have kn : k < W.n := by rw [← m.len]; exact lt_of_get e
    exact (m.cell k c e).mono x.toLe rfl rfl kn (upd_ne fun z => hk (m.inj _ _ hn kn z.symm))
theorem stOk_lim {b h : Nat} {v : D} {W : Wd} (e : W.b = b) (s : stOk b h v = true) (hb : h < W.b) : below (W.lim h) v = true := by
  unfold stOk at s
  rw [Bool.or_eq_true] at s
  rcases s with s | s
  · have := of_decide_eq_true s
    omega
  · exact below_mono (Nat.zero_le _) v s
end
section
variable {X : Cx} {Z : WX} {pos : Pos} {a b c e : Expr} {es : List Expr} {f g h : ES} {fs : EA}
def tgOf (G : Gm) (t : Tg) : TG := fun v σ H Q => ∃ W s M d s1, MR G H W M ∧ SR G H W s σ ∧ RD G H W d v ∧ bindT M t d s = some s1 ∧ ∀ σ2, SR G H W s1 σ2 → (∀ i : Nat, i ∉ t.slots → σ2[i]? = σ[i]?) → σ2.length = σ.length → Q σ2 H
def tgsOf (G : Gm) (ts : List Tg) : TGs := fun vs σ H Q => ∃ W s M ds s1, MR G H W M ∧ SR G H W s σ ∧ RDs G H W ds vs ∧ bindTs M ts ds s = some s1 ∧ ∀ σ2, SR G H W s1 σ2 → (∀ i : Nat, i ∉ slotss ts → σ2[i]? = σ[i]?) → σ2.length = σ.length → Q σ2 H
theorem _root_.L2.PG.weak {X : Cx} {e : Expr} {t t' : TG} (h : PG X e t) (w : ∀ v σ H Q, t' v σ H Q → t v σ H Q) : PG X e t' := ⟨fun pins s σ H v u Q I r q => h.run pins s σ H v u Q I r (w v σ H Q q)⟩
theorem _root_.L2.PGs.weak {X : Cx} {e : List Expr} {t t' : TGs} (h : PGs X e t) (w : ∀ v σ H Q, t' v σ H Q → t v σ H Q) : PGs X e t' := ⟨fun pins s σ H v u Q I r q => h.run pins s σ H v u Q I r (w v σ H Q q)⟩
abbrev SG (X : Cx) (e : Expr) (t : Tg) : Prop := PG X e (tgOf (gm X) t)
abbrev SGs (X : Cx) (es : List Expr) (ts : List Tg) : Prop := PGs X es (tgsOf (gm X) ts)
theorem sg_name {i : Nat} {x : Str} (h : PG X (.Name x pos) (L2.gName i)) : SG X (.Name x pos) (.nm i) := h.weak fun v σ H Q ⟨W, s, M, d, s1, m, sr, r, e, q⟩ => by
  have e' : some (s.set i (some d)) = some s1 := e
  cases e'
  refine q _ (sr.set r i) (fun j hj => ?_) (by simp)
  have : i ≠ j := fun z => hj (by rw [z]; exact List.mem_singleton.mpr rfl)
  exact List.getElem?_set_ne this
theorem sgs_nil : SGs X [] [] := pgs_nil.weak fun v σ H Q ⟨W, s, M, d, s1, m, sr, r, e, q⟩ => by
  cases d with
  | nil =>
    cases r
    have e' : some s = some s1 := e
    cases e'
    exact ⟨rfl, q σ sr (fun _ _ => rfl) rfl⟩
  | cons d ds => cases (show none = some s1 from e)
theorem sgs_cons {t : Tg} {ts : List Tg} (h1 : SG X e t) (h2 : SGs X es ts) (hs : (assignEach (e :: es) X.env).map (·.2) = assign e X.env :: (assignEach es X.env).map (·.2) := by rfl) : SGs X (e :: es) (t :: ts) := by
  refine (pgs_cons h1 h2 hs).weak fun v σ H Q ⟨W, s, M, d, s1, m, sr, r, e, q⟩ => ?_
  cases r with
  | nil => cases (show none = some s1 from e)
  | cons r1 r2 =>
    have e' : (bindT M t _ s).bind (fun s1 => bindTs M ts _ s1) = some s1 := e
    rw [Option.bind_eq_some_iff] at e'
    obtain ⟨s2, e1, e2⟩ := e'
    refine ⟨_, _, rfl, W, s, M, _, s2, m, sr, r1, e1, fun σ2 sr2 k2 l2 => ?_⟩
    refine ⟨W, s2, M, _, s1, m, sr2, r2, e2, fun σ3 sr3 k3 l3 => q σ3 sr3 (fun i hi => ?_) (l3.trans l2)⟩
    have hi' : i ∉ t.slots ∧ i ∉ slotss ts := by
      have : i ∉ t.slots ++ slotss ts := hi
      rw [List.mem_append] at this
      exact ⟨fun z => this (.inl z), fun z => this (.inr z)⟩
    exact (k3 i hi'.2).trans (k2 i hi'.1)
theorem bindTs_len {M : Mem} : ∀ {ts : List Tg} {ds : List D} {s s1 : Slots}, bindTs M ts ds s = some s1 → ds.length = ts.length
  | [], [], _, _, _ => rfl
  | [], _ :: _, _, _, e => by simp [bindTs] at e
  | _ :: _, [], _, _, e => by simp [bindTs] at e
  | t :: ts, d :: ds, s, s1, e => by
    have e' : (bindT M t d s).bind (fun s1 => bindTs M ts ds s1) = some s1 := by
      rw [← e]
      simp [bindTs]
    rw [Option.bind_eq_some_iff] at e'
    obtain ⟨s2, _, e2⟩ := e'
    rw [List.length_cons, List.length_cons, bindTs_len e2]
/-- (a, b, ..) = a list or a tuple of that length -/
def gSeq (K : PySem.W.Frag) (n : Nat) (t : TGs) : TG := fun v σ H Q => L2.gTup K n t v σ H Q ∨ gUnl K n t v σ H Q
theorem pg_seq {k : Nat} {t : TGs} {n : Nat} (hc : X.calm = true) (h : PGs X es t)
    (hn : (assignEach es X.env).length = n := by rfl) (hst : (assignEach es X.env).findIdx? (·.1) = none := by rfl) : PG X (.Tuple es k pos) (gSeq X.K n t) :=
  ⟨fun pins s σ H v u Q I r q => q.elim (fun z => (pg_tup hc h hn hst).run pins s σ H v u Q I r z) fun z => (pg_unl hc h hn hst).run pins s σ H v u Q I r z⟩
theorem sg_tup {k : Nat} {ts : List Tg} (hc : X.calm = true) (h : SGs X es ts) (hn : (assignEach es X.env).length = ts.length := by rfl) (hst : (assignEach es X.env).findIdx? (·.1) = none := by rfl) : SG X (.Tuple es k pos) (.tp ts) := by
  refine (pg_seq hc h hn hst).weak fun v σ H Q ⟨W, s, M, d, s1, m, sr, r, e, q⟩ => ?_
  have e' := e
  simp only [bindT] at e'
  cases es : seqOf M d with
  | none => simp only [es] at e'; cases e'
  | some xs =>
    simp only [es] at e'
    obtain ⟨a, vs, rfl, hq, rs⟩ := seq_read m es r
    have hl : vs.length = ts.length := rs.length.symm.trans (bindTs_len e')
    have go : tgsOf (gm X) ts vs σ H Q := ⟨W, s, M, xs, s1, m, sr, rs, e', q⟩
    rcases hq with hq | hq
    · exact .inr ⟨a, vs, rfl, hq, hl, go⟩
    · exact .inl ⟨a, vs, rfl, hq, hl, go⟩
/-- a general target -/
def liftG (G : Gm) (g : EG) : TG := fun v σ H Q => ∃ W s M d s1 M1, MR G H W M ∧ SR G H W s σ ∧ RD G H W d v ∧ g W.b d s M = some (s1, M1) ∧ ∀ W' H' σ2, Ext H W H' W' → MR G H' W' M1 → SR G H' W' s1 σ2 → Q σ2 H'
def liftGs (G : Gm) (g : EGs) : TGs := fun vs σ H Q => ∃ W s M ds s1 M1, MR G H W M ∧ SR G H W s σ ∧ RDs G H W ds vs ∧ g W.b ds s M = some (s1, M1) ∧ ∀ W' H' σ2, Ext H W H' W' → MR G H' W' M1 → SR G H' W' s1 σ2 → Q σ2 H'
abbrev TGT (X : Cx) (e : Expr) (g : EG) : Prop := PG X e (liftG (gm X) g)
abbrev TGTs (X : Cx) (es : List Expr) (g : EGs) : Prop := PGs X es (liftGs (gm X) g)
theorem tg_of {t : Tg} (h : SG X e t) : TGT X e (gT t) := PG.weak h fun v σ H Q ⟨W, s, M, d, s1, M1, m, sr, r, e, q⟩ => by
  have e' : (bindT M t d s).map (fun s1 => (s1, M)) = some (s1, M1) := e
  rw [Option.map_eq_some_iff] at e'
  obtain ⟨s2, e1, e2⟩ := e'
  cases e2
  exact ⟨W, s, M, d, s1, m, sr, r, e1, fun σ2 sr2 _ _ => q W H σ2 (.refl _ _) m sr2⟩
theorem tgs_nil : TGTs X [] gsNil := pgs_nil.weak fun v σ H Q ⟨W, s, M, d, s1, M1, m, sr, r, e, q⟩ => by
  cases d with
  | nil =>
    cases r
    have e' : some (s, M) = some (s1, M1) := e
    cases e'
    exact ⟨rfl, q W H σ (.refl _ _) m sr⟩
  | cons d ds => cases (show none = some (s1, M1) from e)
theorem tgs_cons {g : EG} {gs : EGs} (h1 : TGT X e g) (h2 : TGTs X es gs) (hs : (assignEach (e :: es) X.env).map (·.2) = assign e X.env :: (assignEach es X.env).map (·.2) := by rfl) : TGTs X (e :: es) (gsCons g gs) := by
  refine (pgs_cons h1 h2 hs).weak fun v σ H Q ⟨W, s, M, d, s1, M1, m, sr, r, e, q⟩ => ?_
  cases r with
  | nil => cases (show none = some (s1, M1) from e)
  | cons r1 r2 =>
    have e' : (g W.b _ s M).bind (fun p => gs W.b _ p.1 p.2) = some (s1, M1) := e
    rw [Option.bind_eq_some_iff] at e'
    obtain ⟨⟨s2, M2⟩, e1, e2⟩ := e'
    refine ⟨_, _, rfl, W, s, M, _, s2, M2, m, sr, r1, e1, fun W2 H2 σ2 x2 m2 sr2 => ?_⟩
    exact ⟨W2, s2, M2, _, s1, M1, m2, sr2, r2.mono x2.toLe, by rw [x2.b]; exact e2, fun W3 H3 σ3 x3 m3 sr3 => q W3 H3 σ3 (x2.trans x3) m3 sr3⟩
theorem tg_tup {k n : Nat} {gs : EGs} (hc : X.calm = true) (h : TGTs X es gs) (hl : ∀ b ds s M r, gs b ds s M = some r → ds.length = n) (hn : (assignEach es X.env).length = n := by rfl) (hst : (assignEach es X.env).findIdx? (·.1) = none := by rfl) : TGT X (.Tuple es k pos) (gTup gs) := by
  refine (pg_seq hc h hn hst).weak fun v σ H Q ⟨W, s, M, d, s1, M1, m, sr, r, e, q⟩ => ?_
  have e' : (match seqOf M d with | some xs => gs W.b xs s M | none => none) = some (s1, M1) := e
  cases es : seqOf M d with
  | none => rw [es] at e'; cases e'
  | some xs =>
    rw [es] at e'
    obtain ⟨a, vs, rfl, hq, rs⟩ := seq_read m es r
    have hl : vs.length = n := rs.length.symm.trans (hl _ _ _ _ _ e')
    have go : liftGs (gm X) gs vs σ H Q := ⟨W, s, M, xs, s1, M1, m, sr, rs, e', q⟩
    rcases hq with hq | hq
    · exact .inr ⟨a, vs, rfl, hq, hl, go⟩
    · exact .inl ⟨a, vs, rfl, hq, hl, go⟩
theorem setIx_read {G : Gm} {H : Hp} {W : Wd} {M M3 : Mem} {x y d : D} {o i v : V} {Q : Hp → Prop} (m : MR G H W M) (rx : RD G H W x o) (ry : RD G H W y i) (rd : RD G H W d v) (e : setIx W.b x y d M = some M3)
    (q : ∀ W' H', Ext H W H' W' → MR G H' W' M3 → Q H') : rSetL o i v H Q := by
  unfold setIx at e
  split at e
  · rename_i h k
    cases ry
    split at e
    · rename_i xs hc
      split at e
      · rename_i j hj
        split at e
        · rename_i hs
          cases e
          cases rx with
          | ref hn =>
            obtain ⟨vs, h1, h2, h3⟩ := m.cell h _ hc
            refine ⟨W.e h, vs, k, j, rfl, rfl, h1, by rw [← h2.length]; exact hj, ?_⟩
            refine q W _ (Ext.write m hn) (m.write hc (h2.set rd j) fun hb => belows_set ?_ j (h3 hb))
            rcases hs with hs | hs
            · omega
            · exact below_mono (Nat.zero_le _) d hs
        · cases e
      · cases e
    · cases e
  · cases e
theorem tg_ix {fo fi : ES} (ho : SE X (fun _ _ _ _ => False) a fo) (hi : SE X (fun _ _ _ _ => False) b fi)
    (ha : ∀ v, assign (.Subscript a b pos) X.env v = (do
      let ov ← holding [v] (eval a X.env)
      let iv ← holding [v, ov] (eval b X.env)
      standAt pos
      holding [v, ov, iv] (setItem ov iv v)
      release [v, ov, iv] []) := by intro _; rfl) : TGT X (.Subscript a b pos) (gIx fo fi) := by
  refine (pg_sub ho hi set_list ha).weak fun v σ H Q ⟨W, s, M, d, s1, M1, m, sr, r, e, q⟩ => ?_
  refine ⟨W, s, M, m, sr, ?_⟩
  unfold gIx at e
  cases h1 : fo W.b s M with
  | bad => simp only [h1] at e; cases e
  | exc c d M2 => simp only [h1] at e; cases e
  | ok x M2 =>
    simp only [h1] at e
    intro W2 H2 x2 m2 o ro
    refine ⟨W2, s, M2, m2, sr.mono x2.toLe, ?_⟩
    rw [x2.b]
    cases h2 : fi W.b s M2 with
    | bad => simp only [h2] at e; cases e
    | exc c d M3 => simp only [h2] at e; cases e
    | ok y M3 =>
      simp only [h2] at e
      intro W3 H3 x3 m3 i ri
      rw [Option.map_eq_some_iff] at e
      obtain ⟨M4, e3, e4⟩ := e
      cases e4
      have xx := x2.trans x3
      refine setIx_read (Q := fun H3 => Q σ H3) m3 (ro.mono x3.toLe) ri (r.mono xx.toLe) (by rw [xx.b]; exact e3) fun W' H' x' m' => ?_
      exact q W' H' σ (xx.trans x') m' (sr.mono (xx.trans x').toLe)
end
end LW
namespace LW
open PySem PySem.Spec PyProof.Rows L2
/-- a walk whose items are known -/
structure WalkD (G : Gm) (J : It) (ds : List D) (hs : List Nat) (M0 : Mem) (W0 : Wd) (H0 : Hp) : Prop where
  goes : ∀ i W H M, i < ds.length → Le H0 W0 H W → MR G H W M → gdOk hs M0 M → J.go i H
  stops : ∀ W H M, Le H0 W0 H W → MR G H W M → gdOk hs M0 M → J.stop ds.length H
  yields : ∀ i W H M x H', i < ds.length → Le H0 W0 H W → MR G H W M → gdOk hs M0 M → J.yld i H x H' → ∃ d, ds[i]? = some d ∧ RD G H' W d x ∧ Ext H W H' W ∧ MR G H' W M
def liftI (G : Gm) (Z : WX) (f : EI) : TI := fun t H R => ∃ W s M, MR G H W M ∧ SR G H W s t ∧ Post G Z t H W (f W.b s M) fun p M' W' H' => ∀ J, WalkD G J p.1 p.2 M' W' H' → R J H'
abbrev SI (X : Cx) (Z : WX) (tg e : Expr) (f : EI) : Prop := PI X tg e (liftI (gm X) Z f)
theorem _root_.L2.PI.weak {X : Cx} {tg e : Expr} {t t' : TI} (h : PI X tg e t) (w : ∀ σ H R, t' σ H R → t σ H R) : PI X tg e t' := ⟨fun pins s σ H R I q => h.run pins s σ H R I (w σ H R q)⟩
def tpOf : D → Bool
  | .tup _ => true
  | _ => false
section
variable {G : Gm} {H H0 : Hp} {W W0 : Wd} {M M0 : Mem} {x : D} {v : V} {xs : List D}
theorem sq_read (m : MR G H W M) (e : seqOf M x = some xs) (rv : RD G H W x v) : ∃ a vs, v = .ref a ∧ Sq (tpOf x) G.K H a vs ∧ RDs G H W xs vs := by
  by_cases ht : ∃ zs, x = .tup zs
  · obtain ⟨zs, rfl⟩ := ht
    cases rv with
    | tup h1 r1 =>
      cases (show some zs = some xs from e)
      exact ⟨_, _, rfl, h1.sq, r1⟩
  · obtain ⟨a, ws, rfl, hq, r⟩ := seq_readL m e (fun zs e => ht ⟨zs, e⟩) rv
    have et : tpOf x = false := by
      cases x with
      | tup zs => exact absurd ⟨zs, rfl⟩ ht
      | _ => rfl
    rw [et]
    exact ⟨a, ws, rfl, hq, r⟩
theorem seq_same (e : seqOf M0 x = some xs) (g : gdOk (gdOf x) M0 M) : seqOf M x = some xs := by
  cases x with
  | ref h =>
    have : M[h]? = M0[h]? := g h (by simp [gdOf])
    have e' : (match M0[h]? with | some (.lst xs) => some xs | _ => none) = some xs := e
    show (match M[h]? with | some (.lst xs) => some xs | _ => none) = some xs
    rw [this]
    exact e'
  | _ => exact e
theorem sq_later {a : Addr} (e : seqOf M0 x = some xs) (rv : RD G H0 W0 x (.ref a)) (x0 : Le H0 W0 H W) (m : MR G H W M) (g : gdOk (gdOf x) M0 M) : ∃ vs, Sq (tpOf x) G.K H a vs ∧ RDs G H W xs vs := by
  obtain ⟨a', vs, ea, hq, r⟩ := sq_read m (seq_same e g) (rv.mono x0)
  cases ea
  exact ⟨vs, hq, r⟩
theorem gdOk_app {hs ks : List Nat} (g : gdOk (hs ++ ks) M0 M) : gdOk hs M0 M ∧ gdOk ks M0 M := ⟨fun h q => g h (List.mem_append_left _ q), fun h q => g h (List.mem_append_right _ q)⟩
end
section
variable {X : Cx} {Z : WX} {pos p tpos : Pos} {tg a b c e : Expr} {es elts : List Expr} {kk : Nat} {f g h : ES} {fs : EA}
theorem si_seq (ha : SE X Z a f) : SI X Z tg a (iOf f) := by
  refine (pi_seq ha).weak fun σ H R ⟨W, s, M, m, sr, po⟩ => ?_
  refine ⟨W, s, M, m, sr, (Post.bind po).imp fun x M1 W1 H1 x1 m1 p1 v rv => ?_⟩
  split at p1
  · rename_i xs ex
    obtain ⟨a, vs, rfl, hq, r⟩ := sq_read m1 ex rv
    refine ⟨a, rfl, ?_⟩
    have hl := r.length
    cases ht : tpOf x with
    | true =>
      rw [ht] at hq
      have hq' : SqT X.K H1 a vs := hq
      refine .inr ⟨⟨vs, hq'⟩, Post.here (a := (xs, gdOf x)) p1 m1 _ ⟨fun i W H M hi x0 mm g => ?_, fun W H M x0 mm g => ?_, fun i W H M y H' hi x0 mm g yl => ?_⟩⟩
      · obtain ⟨ws, q, r'⟩ := sq_later ex rv x0 mm g
        rw [ht] at q
        exact ⟨ws, ws[i]'(by rw [← r'.length]; exact hi), q, by simp⟩
      · obtain ⟨ws, q, r'⟩ := sq_later ex rv x0 mm g
        rw [ht] at q
        exact ⟨ws, q, Nat.le_of_eq r'.length.symm⟩
      · obtain ⟨ws, q, r'⟩ := sq_later ex rv x0 mm g
        rw [ht] at q
        obtain ⟨rfl, yl⟩ := yl
        obtain ⟨d, hd, rd⟩ := r'.getV (yl ws q)
        exact ⟨d, hd, rd, .refl _ _, mm⟩
    | false =>
      rw [ht] at hq
      have hq' : SqL X.K H1 a vs := hq
      refine .inl ⟨⟨vs, hq'⟩, Post.here (a := (xs, gdOf x)) p1 m1 _ ⟨fun i W H M hi x0 mm g => ?_, fun W H M x0 mm g => ?_, fun i W H M y H' hi x0 mm g yl => ?_⟩⟩
      · obtain ⟨ws, q, r'⟩ := sq_later ex rv x0 mm g
        rw [ht] at q
        exact ⟨ws, ws[i]'(by rw [← r'.length]; exact hi), q, by simp⟩
      · obtain ⟨ws, q, r'⟩ := sq_later ex rv x0 mm g
        rw [ht] at q
        exact ⟨ws, q, Nat.le_of_eq r'.length.symm⟩
      · obtain ⟨ws, q, r'⟩ := sq_later ex rv x0 mm g
        rw [ht] at q
        obtain ⟨rfl, yl⟩ := yl
        obtain ⟨d, hd, rd⟩ := r'.getV (yl ws q)
        exact ⟨d, hd, rd, .refl _ _, mm⟩
  · exact p1.elim
theorem wd_range {G : Gm} {M0 : Mem} {W0 : Wd} {H0 : Hp} (lo : Int) (n : Nat) : WalkD G (Itr lo n) ((List.range n).map fun (k : Nat) => D.int (lo + (k : Int))) [] M0 W0 H0 := by
  have hl : ((List.range n).map fun (k : Nat) => D.int (lo + (k : Int))).length = n := by simp
  refine ⟨fun i W H M hi _ _ _ => ?_, fun W H M _ _ _ => ?_, fun i W H M y H' hi _ mm _ yl => ?_⟩
  · rw [hl] at hi; exact hi
  · rw [hl]; exact Nat.le_refl _
  · rw [hl] at hi
    obtain ⟨rfl, rfl⟩ := yl
    exact ⟨.int (lo + i), by rw [List.getElem?_map, List.getElem?_range hi]; rfl, .int _, .refl _ _, mm⟩
theorem si_range1 (hg : Gl X "range") (hm : X.mg "range" = none) (ha : SA X Z [a] fs) (hs : starEach [a] X.env = [(false, eval a X.env)] := by rfl) : SI X Z tg (.Call (.Name "range" p) [a] [] pos) (iRange1 fs) := by
  refine (pi_range1 hg hm ha hs).weak fun σ H R ⟨W, s, M, m, sr, po⟩ => ?_
  refine ⟨W, s, M, m, sr, (Post.bind po).imp fun ds M1 W1 H1 x1 m1 p1 vs rvs => ?_⟩
  split at p1
  · obtain ⟨v, rfl, rv⟩ := rds1 rvs
    cases rv
    split at p1
    · rename_i j hj
      exact ⟨j, rfl, hj.1, hj.2, Post.here (a := ((List.range j.toNat).map fun (k : Nat) => D.int (0 + (k : Int)), ([] : List Nat))) p1 m1 _ (wd_range 0 j.toNat)⟩
    · exact p1.elim
  · exact p1.elim
theorem si_range2 (hg : Gl X "range") (hm : X.mg "range" = none) (ha : SA X Z [a, b] fs) (hs : starEach [a, b] X.env = [(false, eval a X.env), (false, eval b X.env)] := by rfl) (hs2 : starEach [b] X.env = [(false, eval b X.env)] := by rfl) : SI X Z tg (.Call (.Name "range" p) [a, b] [] pos) (iRange2 fs) := by
  refine (pi_range2 hg hm ha hs hs2).weak fun σ H R ⟨W, s, M, m, sr, po⟩ => ?_
  refine ⟨W, s, M, m, sr, (Post.bind po).imp fun ds M1 W1 H1 x1 m1 p1 vs rvs => ?_⟩
  split at p1
  · obtain ⟨v, v', rfl, rv, rv'⟩ := rds2 rvs
    cases rv; cases rv'
    split at p1
    · rename_i i j hj
      exact ⟨i, j, rfl, ⟨hj.1.1, hj.1.2, hj.2.1, hj.2.2⟩, Post.here (a := ((List.range (j - i).toNat).map fun (k : Nat) => D.int (i + (k : Int)), ([] : List Nat))) p1 m1 _ (wd_range i (j - i).toNat)⟩
    · exact p1.elim
  · exact p1.elim
theorem rds3 {G : Gm} {H : Hp} {W : Wd} {d d' d'' : D} {vs : List V} (r : RDs G H W [d, d', d''] vs) : ∃ v v' v'', vs = [v, v', v''] ∧ RD G H W d v ∧ RD G H W d' v' ∧ RD G H W d'' v'' := by
  cases r with
  | cons h t =>
    obtain ⟨v, v', rfl, h', h''⟩ := rds2 t
    exact ⟨_, _, _, rfl, h, h', h''⟩
theorem enumD_len : ∀ (k : Nat) (xs : List D), (enumD k xs).length = xs.length
  | _, [] => rfl
  | k, x :: r => by
    show (enumD (k + 1) r).length + 1 = r.length + 1
    rw [enumD_len]
theorem enumD_get : ∀ (k : Nat) (xs : List D) (i : Nat) (d : D), xs[i]? = some d → (enumD k xs)[i]? = some (.tup [.int ((k + i : Nat) : Int), d])
  | _, [], _, _, h => by simp at h
  | k, x :: r, 0, d, h => by
    simp at h
    subst h
    rfl
  | k, x :: r, i + 1, d, h => by
    have := enumD_get (k + 1) r i d (by simpa using h)
    show (enumD (k + 1) r)[i]? = _
    rw [this, show k + 1 + i = k + (i + 1) by omega]
/-- a new pair -/
theorem wd_pair {G : Gm} {H H' : Hp} {W : Wd} {M : Mem} {T : Addr} {xs : List V} {ds : List D} (m : MR G H W M) (hT : H T = none) (e : H' = upd H T (.tup xs)) (r : RDs G H W ds xs) : RD G H' W (.tup ds) (.ref T) ∧ Ext H W H' W ∧ MR G H' W M := by
  subst e
  exact ⟨.tup (.inl ⟨.inl upd_same, m.fresh hT⟩) (r.mono (m.xnew hT).toLe), m.xnew hT, m.new hT⟩
theorem si_enum (hg : Gl X "enumerate") (hm : X.mg "enumerate" = none) (ha : SA X Z [a] fs) (hs : starEach [a] X.env = [(false, eval a X.env)] := by rfl) : SI X Z (.Tuple elts kk tpos) (.Call (.Name "enumerate" p) [a] [] pos) (iEnum fs) := by
  refine (pi_enum2 hg hm ha hs).weak fun σ H R ⟨W, s, M, m, sr, po⟩ => ?_
  refine ⟨W, s, M, m, sr, (Post.bind po).imp fun ds M1 W1 H1 x1 m1 p1 vs rvs => ?_⟩
  split at p1
  · rename_i x
    obtain ⟨v, rfl, rv⟩ := rds1 rvs
    split at p1
    · rename_i xs ex
      obtain ⟨a, vs, rfl, hq, r⟩ := sq_read m1 ex rv
      refine ⟨a, vs, tpOf x, rfl, hq, Post.here (a := (enumD 0 xs, gdOf x)) p1 m1 _ ⟨fun i W H M hi x0 mm g => ?_, fun W H M x0 mm g => ?_, fun i W H M y H' hi x0 mm g yl => ?_⟩⟩
      · obtain ⟨ws, q, r'⟩ := sq_later ex rv x0 mm g
        have hi' : i < ws.length := by rw [← r'.length, ← enumD_len 0 xs]; exact hi
        exact ⟨ws, ws[i], q, by simp [hi']⟩
      · obtain ⟨ws, q, r'⟩ := sq_later ex rv x0 mm g
        exact ⟨ws, q, by rw [← r'.length, enumD_len]; exact Nat.le_refl _⟩
      · obtain ⟨ws, q, r'⟩ := sq_later ex rv x0 mm g
        obtain ⟨T, z, rfl, hT, eH, yl⟩ := yl
        obtain ⟨d, hd, rd⟩ := r'.getV (yl ws q)
        have hp := wd_pair (ds := [.int (i : Nat), d]) mm hT eH (.cons (.int _) (.cons rd .nil))
        refine ⟨_, enumD_get 0 xs i d hd, ?_, hp.2⟩
        rw [Nat.zero_add]
        exact hp.1
    · exact p1.elim
  · exact p1.elim
theorem zipD_get {xs ys : List D} {i : Nat} {x y : D} (hx : xs[i]? = some x) (hy : ys[i]? = some y) : (zipD xs ys)[i]? = some (.tup [x, y]) := by
  unfold zipD
  rw [List.getElem?_zipWith, hx, hy]
theorem zipD_len (xs ys : List D) : (zipD xs ys).length = min xs.length ys.length := by unfold zipD; simp
theorem zip_core {st : Bool} {σ : L2.St} {H : Hp} {R : It → Hp → Prop} (q : liftI (gm X) Z (iZip st fs) σ H R) : tiZip2 X.K st (liftA (gm X) Z fs) σ H R := by
  obtain ⟨W, s, M, m, sr, po⟩ := q
  refine ⟨W, s, M, m, sr, (Post.bind po).imp fun ds M1 W1 H1 x1 m1 p1 vs rvs => ?_⟩
  split at p1
  · rename_i x y
    obtain ⟨v, v', rfl, rv, rv'⟩ := rds2 rvs
    split at p1
    · rename_i xs ys ex ey
      obtain ⟨a1, vs1, rfl, q1, r1⟩ := sq_read m1 ex rv
      obtain ⟨a2, vs2, rfl, q2, r2⟩ := sq_read m1 ey rv'
      split at p1
      · exact p1.elim
      · rename_i hst
        refine ⟨a1, a2, vs1, vs2, tpOf x, tpOf y, rfl, q1, q2, Post.here (a := (zipD xs ys, gdOf x ++ gdOf y)) p1 m1 _ ⟨fun i W H M hi x0 mm g => ?_, fun W H M x0 mm g => ?_, fun i W H M z H' hi x0 mm g yl => ?_⟩⟩
        · obtain ⟨g1, g2⟩ := gdOk_app g
          obtain ⟨w1, k1, l1⟩ := sq_later ex rv x0 mm g1
          obtain ⟨w2, k2, l2⟩ := sq_later ey rv' x0 mm g2
          rw [zipD_len] at hi
          have h1 : i < w1.length := by rw [← l1.length]; omega
          have h2 : i < w2.length := by rw [← l2.length]; omega
          exact ⟨w1, w2, w1[i], w2[i], k1, k2, by simp [h1], by simp [h2]⟩
        · obtain ⟨g1, g2⟩ := gdOk_app g
          obtain ⟨w1, k1, l1⟩ := sq_later ex rv x0 mm g1
          obtain ⟨w2, k2, l2⟩ := sq_later ey rv' x0 mm g2
          have e1 := l1.length
          have e2 := l2.length
          refine ⟨w1, w2, k1, k2, ?_⟩
          rw [zipD_len]
          cases st with
          | true =>
            have : xs.length = ys.length := Classical.byContradiction fun z => hst ⟨rfl, z⟩
            exact .inl ⟨by omega, by omega⟩
          | false => exact .inr ⟨rfl, by omega⟩
        · obtain ⟨g1, g2⟩ := gdOk_app g
          obtain ⟨w1, k1, l1⟩ := sq_later ex rv x0 mm g1
          obtain ⟨w2, k2, l2⟩ := sq_later ey rv' x0 mm g2
          obtain ⟨T, z1, z2, rfl, hT, eH, y1, y2⟩ := yl
          obtain ⟨d1, hd1, rd1⟩ := l1.getV (y1 w1 k1)
          obtain ⟨d2, hd2, rd2⟩ := l2.getV (y2 w2 k2)
          have hp := wd_pair (ds := [d1, d2]) mm hT eH (.cons rd1 (.cons rd2 .nil))
          exact ⟨_, zipD_get hd1 hd2, hp.1, hp.2⟩
    · exact p1.elim
  · exact p1.elim
theorem si_zip (hg : Gl X "zip") (hm : X.mg "zip" = none) (ha : SA X Z [a, b] fs) (hs : starEach [a, b] X.env = (false, eval a X.env) :: starEach [b] X.env := by rfl) (hpl : (backTo pos (starEach [b] X.env)).any (·.1) = false := by rfl) :
    SI X Z (.Tuple elts kk tpos) (.Call (.Name "zip" p) [a, b] [] pos) (iZip false fs) := (pi_zip2 hg hm ha hs hpl).weak fun _ _ _ q => zip_core q
theorem si_zipS {kp kq : Pos} {kc : Nat} (hg : Gl X "zip") (hm : X.mg "zip" = none) (ha : SA X Z [a, b] fs) (he : backTo pos (starEach [a, b] X.env) = (false, eval a X.env) :: backTo pos (starEach [b] X.env) := by rfl) (hpl : (backTo pos (starEach [a, b] X.env)).any (·.1) = false := by rfl) :
    SI X Z (.Tuple elts kk tpos) (.Call (.Name "zip" p) [a, b] [⟨some "strict", .Constant (.bool true) kc kp, kq⟩] pos) (iZip true fs) := (pi_zip2S hg hm ha he hpl).weak fun _ _ _ q => zip_core q
theorem zip3D_get : ∀ {xs ys zs : List D} {i : Nat} {x y z : D}, xs[i]? = some x → ys[i]? = some y → zs[i]? = some z → (zip3D xs ys zs)[i]? = some (.tup [x, y, z])
  | [], _, _, _, _, _, _, h, _, _ => by simp at h
  | _ :: _, [], _, _, _, _, _, _, h, _ => by simp at h
  | _ :: _, _ :: _, [], _, _, _, _, _, _, h => by simp at h
  | a :: xs, b :: ys, c :: zs, 0, x, y, z, h1, h2, h3 => by
    simp at h1 h2 h3
    subst h1 h2 h3
    rfl
  | a :: xs, b :: ys, c :: zs, i + 1, x, y, z, h1, h2, h3 => by
    show (zip3D xs ys zs)[i]? = _
    exact zip3D_get (by simpa using h1) (by simpa using h2) (by simpa using h3)
theorem zip3D_len : ∀ xs ys zs : List D, (zip3D xs ys zs).length = min xs.length (min ys.length zs.length)
  | [], _, _ => by simp [zip3D]
  | _ :: _, [], _ => by simp [zip3D]
  | _ :: _, _ :: _, [] => by simp [zip3D]
  | a :: xs, b :: ys, c :: zs => by
    show (zip3D xs ys zs).length + 1 = _
    rw [zip3D_len, List.length_cons, List.length_cons, List.length_cons]
    omega
theorem zip3_core {st : Bool} {σ : L2.St} {H : Hp} {R : It → Hp → Prop} (q : liftI (gm X) Z (iZip3 st fs) σ H R) : tiZip3 X.K st (liftA (gm X) Z fs) σ H R := by
  obtain ⟨W, s, M, m, sr, po⟩ := q
  refine ⟨W, s, M, m, sr, (Post.bind po).imp fun ds M1 W1 H1 x1 m1 p1 vs rvs => ?_⟩
  split at p1
  · rename_i x y z
    obtain ⟨v, v', v'', rfl, rv, rv', rv''⟩ := rds3 rvs
    split at p1
    · rename_i xs ys zs ex ey ez
      obtain ⟨a1, vs1, rfl, q1, r1⟩ := sq_read m1 ex rv
      obtain ⟨a2, vs2, rfl, q2, r2⟩ := sq_read m1 ey rv'
      obtain ⟨a3, vs3, rfl, q3, r3⟩ := sq_read m1 ez rv''
      split at p1
      · exact p1.elim
      · rename_i hst
        refine ⟨a1, a2, a3, vs1, vs2, vs3, tpOf x, tpOf y, tpOf z, rfl, q1, q2, q3, Post.here (a := (zip3D xs ys zs, gdOf x ++ gdOf y ++ gdOf z)) p1 m1 _ ⟨fun i W H M hi x0 mm g => ?_, fun W H M x0 mm g => ?_, fun i W H M z H' hi x0 mm g yl => ?_⟩⟩
        · obtain ⟨g12, g3⟩ := gdOk_app g
          obtain ⟨g1, g2⟩ := gdOk_app g12
          obtain ⟨w1, k1, l1⟩ := sq_later ex rv x0 mm g1
          obtain ⟨w2, k2, l2⟩ := sq_later ey rv' x0 mm g2
          obtain ⟨w3, k3, l3⟩ := sq_later ez rv'' x0 mm g3
          rw [zip3D_len] at hi
          have h1 : i < w1.length := by rw [← l1.length]; omega
          have h2 : i < w2.length := by rw [← l2.length]; omega
          have h3 : i < w3.length := by rw [← l3.length]; omega
          exact ⟨w1, w2, w3, w1[i], w2[i], w3[i], k1, k2, k3, by simp [h1], by simp [h2], by simp [h3]⟩
        · obtain ⟨g12, g3⟩ := gdOk_app g
          obtain ⟨g1, g2⟩ := gdOk_app g12
          obtain ⟨w1, k1, l1⟩ := sq_later ex rv x0 mm g1
          obtain ⟨w2, k2, l2⟩ := sq_later ey rv' x0 mm g2
          obtain ⟨w3, k3, l3⟩ := sq_later ez rv'' x0 mm g3
          have e1 := l1.length
          have e2 := l2.length
          have e3 := l3.length
          refine ⟨w1, w2, w3, k1, k2, k3, ?_⟩
          rw [zip3D_len]
          cases st with
          | true =>
            have h12 : xs.length = ys.length := Classical.byContradiction fun z => hst ⟨rfl, .inl z⟩
            have h13 : xs.length = zs.length := Classical.byContradiction fun z => hst ⟨rfl, .inr z⟩
            exact .inl ⟨by omega, by omega, by omega⟩
          | false => exact .inr ⟨rfl, by omega⟩
        · obtain ⟨g12, g3⟩ := gdOk_app g
          obtain ⟨g1, g2⟩ := gdOk_app g12
          obtain ⟨w1, k1, l1⟩ := sq_later ex rv x0 mm g1
          obtain ⟨w2, k2, l2⟩ := sq_later ey rv' x0 mm g2
          obtain ⟨w3, k3, l3⟩ := sq_later ez rv'' x0 mm g3
          obtain ⟨T, z1, z2, z3, rfl, hT, eH, y1, y2, y3⟩ := yl
          obtain ⟨d1, hd1, rd1⟩ := l1.getV (y1 w1 k1)
          obtain ⟨d2, hd2, rd2⟩ := l2.getV (y2 w2 k2)
          obtain ⟨d3, hd3, rd3⟩ := l3.getV (y3 w3 k3)
          have hp := wd_pair (ds := [d1, d2, d3]) mm hT eH (.cons rd1 (.cons rd2 (.cons rd3 .nil)))
          exact ⟨_, zip3D_get hd1 hd2 hd3, hp.1, hp.2⟩
    · exact p1.elim
  · exact p1.elim
theorem si_zip3S {kp kq : Pos} {kc : Nat} (hg : Gl X "zip") (hm : X.mg "zip" = none) (ha : SA X Z [a, b, c] fs) (he : backTo pos (starEach [a, b, c] X.env) = (false, eval a X.env) :: backTo pos (starEach [b, c] X.env) := by rfl) (hpl : (backTo pos (starEach [a, b, c] X.env)).any (·.1) = false := by rfl) :
    SI X Z (.Tuple elts kk tpos) (.Call (.Name "zip" p) [a, b, c] [⟨some "strict", .Constant (.bool true) kc kp, kq⟩] pos) (iZip3 true fs) := (pi_zip3S hg hm ha he hpl).weak fun _ _ _ q => zip3_core q
end
end LW
namespace LW
open PySem PySem.Spec PyProof.Rows L2
theorem add_ne {n j a : Nat} (h : a < n) : n + j ≠ a := by omega
abbrev IsZH (h : Heap) (z TI TO T : Addr) (st f : Bool) : Prop :=
  h.get? z = some { cls := .type "zip", dict := none, data := .fields #[rawInt T, .bool f, .bool st, .ref TI, .ref TO], slots := #[] }
section
variable {prog : Program} {w : World} {A : Around} {E : Value → Shared → Prop} {s : Shared} {k : Nat} {st f : Bool} {z TI TO T i1 i2 a1 a2 : Addr} {t1 t2 : Bool} {xs1 xs2 : Array Value} {u1 u2 : Value} {oT : Obj}
theorem held_zip {Q : Bool → Shared → Prop} (hz : IsZH s.heap z TI TO T st f) (hT : s.heap.get? T = some oT)
    (h : ∀ h', IsZH h' z TI TO T st true → Heap.SameBut z s.heap h' → Q false { s with heap := h' }) : wpAny (model prog w) A (Builtin.SmallTypes.ownedTupleIsFree (.ref z)) Q E s := by
  unfold Builtin.SmallTypes.ownedTupleIsFree
  refine wpAny_bind (wpAny_field hz rfl (x := rawInt T) rfl ?_)
  show wpAny _ _ (loadIfAlive ((T : Int).toNat) >>= _) _ _ _
  rw [Int.toNat_natCast]
  refine wpAny_bind (PySem.W.kdx_alive hT ?_)
  simp only [Option.isNone_some, Bool.false_eq_true, if_false]
  refine wpAny_bind (wpAny_field hz rfl (x := .bool f) rfl ?_)
  cases f with
  | true =>
    rw [if_neg (show ¬ ((Value.bool true != Value.bool true) = true) from Bool.false_ne_true)]
    exact wpAny_pure (h s.heap hz (Heap.SameBut.refl _ _))
  | false =>
    rw [if_pos (show (Value.bool false != Value.bool true) = true from rfl)]
    exact wpAny_bind (wpAny_setField_rec hz (by simp) fun h₁ hz₁ hs₁ => wpAny_pure (h h₁ hz₁ hs₁))
theorem zip2_itemH {Q : Value → Shared → Prop} (D : Apart2 z TI TO i1 i2 a1 a2) (hz : IsZH s.heap z TI TO T st f) (hT : s.heap.get? T = some oT) (hTI : IsTupV s.heap TI [.ref i1, .ref i2]) (h1 : SIt t1 s.heap i1 a1 k) (h2 : SIt t2 s.heap i2 a2 k) (l1 : SOb t1 s.heap a1 xs1) (l2 : SOb t2 s.heap a2 xs2) (x1 : xs1[k]? = some u1) (x2 : xs2[k]? = some u2)
    (hQ : ∀ h', IsZH h' z TI TO T st true → SIt t1 h' i1 a1 (k + 1) → SIt t2 h' i2 a2 (k + 1) → IsTupV h' s.heap.objs.size [u1, u2] → h'.objs.size = s.heap.objs.size + 1 →
      (∀ c o, c ≠ z → c ≠ i1 → c ≠ i2 → s.heap.get? c = some o → h'.get? c = some o) → Q (.ref s.heap.objs.size) { s with heap := h' }) :
    wpAny (model prog w) A (Builtin.«zip.__next__» ⟨[.ref z], []⟩) (fun fin s' => ∃ v, fin = .done (.ret v) ∧ Q v s') E s := by
  show wpAny _ _ (field (.ref z) 2 >>= _) _ _ _
  refine wpAny_bind (wpAny_field hz rfl (x := .bool st) rfl ?_)
  show wpAny _ _ (field (.ref z) 3 >>= _) _ _ _
  refine wpAny_bind (wpAny_field hz rfl (x := .ref TI) rfl ?_)
  refine wpAny_bind (wpAny_seqItems hTI rfl ?_)
  show wpAny _ _ (Builtin.SmallTypes.ownedTupleIsFree (.ref z) >>= _) _ _ _
  refine wpAny_bind (held_zip hz hT fun h₁ hz₁ hs₁ => ?_)
  simp only [Bool.false_eq_true, if_false]
  refine wpAny_bind ?_
  rw [← Array.forIn_toList]
  simp only [List.forIn_cons, List.forIn_nil]
  refine wpAny_bind (wpAny_bind (wpAny_holding ?_))
  refine zdraw_item (s := { s with heap := h₁ }) (st := (Value.bool st == Value.bool true)) (h1.at fun o e => hs₁.extBut _ _ D.i1_z e) (l1.at fun o e => hs₁.extBut _ _ D.a1_z e) x1 fun h₂ it₂ hs₂ => ?_
  refine wpAny_pure ?_
  refine wpAny_bind (wpAny_bind (wpAny_holding ?_))
  refine zdraw_item (s := { s with heap := h₂ }) (st := (Value.bool st == Value.bool true)) (h2.at fun o e => hs₂.extBut _ _ D.i1_i2.symm (hs₁.extBut _ _ D.i2_z e)) (l2.at fun o e => hs₂.extBut _ _ D.a2_i1 (hs₁.extBut _ _ D.a2_z e)) x2 fun h₃ it₃ hs₃ => ?_
  refine wpAny_pure (wpAny_pure ?_)
  show wpAny _ _ (newTuple [u1, u2] >>= _) _ _ _
  refine wpAny_bind (wpAny_newTuple ?_)
  have hsz : h₃.objs.size = s.heap.objs.size := by rw [hs₃.1, hs₂.1, hs₁.1]
  have hz₃ : IsZH h₃ z TI TO T st true := hs₃.extBut _ _ D.i2_z.symm (hs₂.extBut _ _ D.i1_z.symm hz₁)
  have hk : ∀ c o, c ≠ z → c ≠ i1 → c ≠ i2 → s.heap.get? c = some o → h₃.get? c = some o := fun c o c1 c2 c3 e => hs₃.extBut _ _ c3 (hs₂.extBut _ _ c2 (hs₁.extBut _ _ c1 e))
  have h1₃ : SIt t1 h₃ i1 a1 (k + 1) := it₂.at fun o e => hs₃.extBut _ _ D.i1_i2 e
  refine wpAny_pure ⟨_, rfl, ?_⟩
  show Q (.ref h₃.objs.size) _
  have hp : IsTupV (h₃.push { cls := .type "tuple", data := .seq #[u1, u2] }) h₃.objs.size [u1, u2] := Heap.get?_push_size _ rfl
  have hz4 : (h₃.push { cls := .type "tuple", data := .seq #[u1, u2] }).objs.size = h₃.objs.size + 1 := Heap.size_push ..
  rw [hsz] at hp hz4 ⊢
  exact hQ _ (Heap.get?_push_of_some _ hz₃) (h1₃.at fun o e => Heap.get?_push_of_some _ e) (it₃.at fun o e => Heap.get?_push_of_some _ e) hp hz4 fun c o c1 c2 c3 e => Heap.get?_push_of_some _ (hk c o c1 c2 c3 e)
theorem zip2_endH {Q : Fin → Shared → Prop} (hh : A.handled = none) (D : Apart2 z TI TO i1 i2 a1 a2) (hz : IsZH s.heap z TI TO T st f) (hT : s.heap.get? T = some oT) (hTI : IsTupV s.heap TI [.ref i1, .ref i2]) (h1 : SIt t1 s.heap i1 a1 k) (h2 : SIt t2 s.heap i2 a2 k) (l1 : SOb t1 s.heap a1 xs1) (l2 : SOb t2 s.heap a2 xs2) (hend : (xs1[k]? = none ∧ xs2[k]? = none) ∨ (st = false ∧ (xs1[k]? = none ∨ xs2[k]? = none)))
    (hE : ∀ h' e, (∀ c o, c ≠ z → c ≠ i1 → c ≠ i2 → s.heap.get? c = some o → h'.get? c = some o) → (∃ o, h'.get? e = some o ∧ o.cls = .type "StopIteration") → E (.ref e) { s with heap := h' }) :
    wpAny (model prog w) A (Builtin.«zip.__next__» ⟨[.ref z], []⟩) Q E s := by
  show wpAny _ _ (field (.ref z) 2 >>= _) _ _ _
  refine wpAny_bind (wpAny_field hz rfl (x := .bool st) rfl ?_)
  show wpAny _ _ (field (.ref z) 3 >>= _) _ _ _
  refine wpAny_bind (wpAny_field hz rfl (x := .ref TI) rfl ?_)
  refine wpAny_bind (wpAny_seqItems hTI rfl ?_)
  show wpAny _ _ (Builtin.SmallTypes.ownedTupleIsFree (.ref z) >>= _) _ _ _
  refine wpAny_bind (held_zip hz hT fun h₁ hz₁ hs₁ => ?_)
  simp only [Bool.false_eq_true, if_false]
  refine wpAny_bind ?_
  rw [← Array.forIn_toList]
  simp only [List.forIn_cons, List.forIn_nil]
  cases st with
  | true =>
    have hall : xs1[k]? = none ∧ xs2[k]? = none := hend.elim id fun z => Bool.noConfusion z.1
    obtain ⟨n1, n2⟩ := hall
    refine wpAny_bind (wpAny_bind (wpAny_holding ?_))
    refine nextOrEnd_end (s := { s with heap := h₁ }) hh (h1.at fun o e => hs₁.extBut _ _ D.i1_z e) (l1.at fun o e => hs₁.extBut _ _ D.a1_z e) n1 fun g_1 gs_1 => ?_
    refine wpAny_bind ?_
    show wpAny _ _ (forIn [(Value.ref i2, 1)] _ _ >>= _) _ _ _
    simp only [List.forIn_cons, List.forIn_nil]
    refine wpAny_bind (wpAny_bind (wpAny_bind ?_))
    refine nextOrEnd_end (s := { s with heap := g_1 }) hh (h2.at fun o e => gs_1 _ _ D.i1_i2.symm (hs₁.extBut _ _ D.i2_z e)) (l2.at fun o e => gs_1 _ _ D.a2_i1 (hs₁.extBut _ _ D.a2_z e)) n2 fun q_2 qs_2 => ?_
    simp only [Option.isSome_none, Bool.false_eq_true, if_false]
    refine wpAny_pure ?_
    refine wpAny_pure ?_
    refine wpAny_bind (wpAny_rule ?_)
    exact stop_raise hh fun h' e hk he => hE h' e (fun c o c1 d1 d2 x => hk c o (qs_2 _ _ d2 (gs_1 _ _ d1 (hs₁.extBut _ _ c1 x)))) he
  | false =>
    have hsome : xs1[k]? = none ∨ xs2[k]? = none := hend.elim (fun z => .inl z.1) fun z => z.2
    refine wpAny_bind (wpAny_bind (wpAny_holding ?_))
    show wpAny _ _ (Builtin.SmallTypes.nextOf (.ref i1) >>= _) _ _ _
    cases x1 : xs1[k]? with
    | none =>
      refine wpAny_bind (nextOf_end (s := { s with heap := h₁ }) hh (h1.at fun o e => hs₁.extBut _ _ D.i1_z e) (l1.at fun o e => hs₁.extBut _ _ D.a1_z e) x1 fun g_1 e gs_1 he => ?_)
      exact hE g_1 e (fun c o c1 d1 d2 x => gs_1 _ _ d1 (hs₁.extBut _ _ c1 x)) he
    | some u1 =>
      refine wpAny_bind (nextOf_item (s := { s with heap := h₁ }) (h1.at fun o e => hs₁.extBut _ _ D.i1_z e) (l1.at fun o e => hs₁.extBut _ _ D.a1_z e) x1 fun g_1 it_1 gs_1 => wpAny_pure ?_)
      refine wpAny_pure ?_
      refine wpAny_bind (wpAny_bind (wpAny_holding ?_))
      show wpAny _ _ (Builtin.SmallTypes.nextOf (.ref i2) >>= _) _ _ _
      cases x2 : xs2[k]? with
      | none =>
        refine wpAny_bind (nextOf_end (s := { s with heap := g_1 }) hh (h2.at fun o e => gs_1.extBut _ _ D.i1_i2.symm (hs₁.extBut _ _ D.i2_z e)) (l2.at fun o e => gs_1.extBut _ _ D.a2_i1 (hs₁.extBut _ _ D.a2_z e)) x2 fun g_2 e gs_2 he => ?_)
        exact hE g_2 e (fun c o c1 d1 d2 x => gs_2 _ _ d2 (gs_1.extBut _ _ d1 (hs₁.extBut _ _ c1 x))) he
      | some u2 =>
        simp only [x1, x2, reduceCtorEq, or_self] at hsome
theorem zip2_nextH {Q : Option Value → Shared → Prop} (D : Apart2 z TI TO i1 i2 a1 a2) (hz : IsZH s.heap z TI TO T st f) (hT : s.heap.get? T = some oT) (hTI : IsTupV s.heap TI [.ref i1, .ref i2]) (h1 : SIt t1 s.heap i1 a1 k) (h2 : SIt t2 s.heap i2 a2 k) (l1 : SOb t1 s.heap a1 xs1) (l2 : SOb t2 s.heap a2 xs2) (x1 : xs1[k]? = some u1) (x2 : xs2[k]? = some u2)
    (hQ : ∀ h', IsZH h' z TI TO T st true → SIt t1 h' i1 a1 (k + 1) → SIt t2 h' i2 a2 (k + 1) → IsTupV h' s.heap.objs.size [u1, u2] → h'.objs.size = s.heap.objs.size + 1 →
      (∀ c o, c ≠ z → c ≠ i1 → c ≠ i2 → s.heap.get? c = some o → h'.get? c = some o) → Q (some (.ref s.heap.objs.size)) { s with heap := h' }) : wpAny (model prog w) A (pyNext (.ref z)) Q E s := by
  have hTy : s.TypeIs (.ref z) "zip" := ⟨_, hz, rfl⟩
  unfold pyNext
  exact wpAny_bind (wpAny_attempt (wpAny_callSpecial?_slot (name := Str.ofString "__next__") hTy F.slot_zip_next
    (wpAny_call_entry F.slot_zip_next hTy F.entry_zip_next
      (zip2_itemH D hz hT hTI h1 h2 l1 l2 x1 x2 fun h' b1 c1 c2 b3 b4 b5 => wpAny_pure (hQ h' b1 c1 c2 b3 b4 b5)) (F.args_zip_next_1 _))))
theorem zip2_stopH {Q : Option Value → Shared → Prop} (hh : A.handled = none) (D : Apart2 z TI TO i1 i2 a1 a2) (hz : IsZH s.heap z TI TO T st f) (hT : s.heap.get? T = some oT) (hTI : IsTupV s.heap TI [.ref i1, .ref i2]) (h1 : SIt t1 s.heap i1 a1 k) (h2 : SIt t2 s.heap i2 a2 k) (l1 : SOb t1 s.heap a1 xs1) (l2 : SOb t2 s.heap a2 xs2) (hend : (xs1[k]? = none ∧ xs2[k]? = none) ∨ (st = false ∧ (xs1[k]? = none ∨ xs2[k]? = none)))
    (hQ : ∀ h', (∀ c o, c ≠ z → c ≠ i1 → c ≠ i2 → s.heap.get? c = some o → h'.get? c = some o) → Q none { s with heap := h' }) : wpAny (model prog w) A (pyNext (.ref z)) Q E s := by
  have hTy : s.TypeIs (.ref z) "zip" := ⟨_, hz, rfl⟩
  unfold pyNext
  refine wpAny_bind (wpAny_attempt (wpAny_callSpecial?_slot (name := Str.ofString "__next__") hTy F.slot_zip_next
    (wpAny_call_entry F.slot_zip_next hTy F.entry_zip_next (zip2_endH hh D hz hT hTI h1 h2 l1 l2 hend fun h' e hk he => ?_) (F.args_zip_next_1 _))))
  obtain ⟨o, ho, hc⟩ := he
  refine wpAny_bind (wpAny_isInstance (T := "StopIteration") (b := true) ⟨o, ho, hc⟩ isSubtype_stop ?_)
  exact wpAny_pure (hQ _ hk)
end
/-- the zip and its tuples behind i items, the first tuple at n0 -/
structure ZS (z TI TO i1 i2 a1 a2 n0 : Addr) (st t1 t2 : Bool) (xs1 xs2 : Array Value) (i : Nat) (h : Heap) : Prop where
  zp : (i = 0 ∧ IsZ h z TI TO st .none) ∨ (0 < i ∧ ∃ f, IsZH h z TI TO n0 st f)
  ti : IsTupV h TI [.ref i1, .ref i2]
  to : ∃ p1 p2, IsTupV h TO [p1, p2]
  s1 : SIt t1 h i1 a1 i
  s2 : SIt t2 h i2 a2 i
  l1 : SOb t1 h a1 xs1
  l2 : SOb t2 h a2 xs2
  sz : h.objs.size = n0 + i
  tp : ∀ j, j < i → ∃ u1 u2, xs1[j]? = some u1 ∧ xs2[j]? = some u2 ∧ IsTupV h (n0 + j) [u1, u2]
section
variable {prog : Program} {w : World} {A : Around} {E : Value → Shared → Prop} {s : Shared} {k : Nat} {st f : Bool} {z TI TO i1 i2 a1 a2 n0 : Addr} {t1 t2 : Bool} {xs1 xs2 : Array Value} {u1 u2 : Value}
theorem ZS.keep {i : Nat} {h h' : Heap} {S : Addr} (x : ZS z TI TO i1 i2 a1 a2 n0 st t1 t2 xs1 xs2 i h) (D : Apart2 z TI TO i1 i2 a1 a2) (hS : S ≠ z ∧ S ≠ TI ∧ S ≠ TO ∧ S ≠ i1 ∧ S ≠ i2 ∧ S ≠ a1 ∧ S ≠ a2 ∧ S < n0) (hz : h'.objs.size = h.objs.size)
    (hk : ∀ c o, c ≠ S → h.get? c = some o → h'.get? c = some o) : ZS z TI TO i1 i2 a1 a2 n0 st t1 t2 xs1 xs2 i h' := by
  obtain ⟨q1, q2, q3, q4, q5, q6, q7, q8⟩ := hS
  refine ⟨?_, hk _ _ q2.symm x.ti, ?_, x.s1.at fun o e => hk _ o q4.symm e, x.s2.at fun o e => hk _ o q5.symm e, x.l1.at fun o e => hk _ o q6.symm e, x.l2.at fun o e => hk _ o q7.symm e, by rw [hz]; exact x.sz, fun j hj => ?_⟩
  · rcases x.zp with ⟨e, y⟩ | ⟨e, f, y⟩
    · exact .inl ⟨e, hk _ _ q1.symm y⟩
    · exact .inr ⟨e, f, hk _ _ q1.symm y⟩
  · obtain ⟨p1, p2, y⟩ := x.to
    exact ⟨p1, p2, hk _ _ q3.symm y⟩
  · obtain ⟨u1, u2, y1, y2, y3⟩ := x.tp j hj
    exact ⟨u1, u2, y1, y2, hk _ _ (add_ne q8) y3⟩
theorem ZS.next {i : Nat} {Q : Option Value → Shared → Prop} (D : Apart2 z TI TO i1 i2 a1 a2) (lo : z < n0 ∧ TO < n0 ∧ i1 < n0 ∧ i2 < n0 ∧ a1 < n0 ∧ a2 < n0) (x : ZS z TI TO i1 i2 a1 a2 n0 st t1 t2 xs1 xs2 i s.heap) (e1 : xs1[i]? = some u1) (e2 : xs2[i]? = some u2)
    (hQ : ∀ h', ZS z TI TO i1 i2 a1 a2 n0 st t1 t2 xs1 xs2 (i + 1) h' → (∀ c o, c ≠ z → c ≠ TO → c ≠ i1 → c ≠ i2 → s.heap.get? c = some o → h'.get? c = some o) → Q (some (.ref (n0 + i))) { s with heap := h' }) :
    wpAny (model prog w) A (pyNext (.ref z)) Q E s := by
  obtain ⟨p1, p2, hTO⟩ := x.to
  obtain ⟨lz, lTO, li1, li2, la1, la2⟩ := lo
  have fin : ∀ h', (∃ f, IsZH h' z TI TO n0 st f) → (∃ p1 p2, IsTupV h' TO [p1, p2]) → SIt t1 h' i1 a1 (i + 1) → SIt t2 h' i2 a2 (i + 1) → IsTupV h' s.heap.objs.size [u1, u2] → h'.objs.size = s.heap.objs.size + 1 →
      (∀ c o, c ≠ z → c ≠ TO → c ≠ i1 → c ≠ i2 → s.heap.get? c = some o → h'.get? c = some o) → ZS z TI TO i1 i2 a1 a2 n0 st t1 t2 xs1 xs2 (i + 1) h' := fun h' b1 b2 c1 c2 b3 b4 b5 => by
    refine ⟨.inr ⟨Nat.succ_pos _, b1⟩, b5 _ _ D.TI_z D.TI_TO D.TI_i1 D.TI_i2 x.ti, b2, c1, c2, x.l1.at fun o e => b5 _ o D.a1_z D.a1_TO D.a1_i1 D.a1_i2 e, x.l2.at fun o e => b5 _ o D.a2_z D.a2_TO D.a2_i1 D.a2_i2 e, by rw [b4, x.sz]; rfl, fun j hj => ?_⟩
    by_cases hji : j = i
    · subst hji
      rw [x.sz] at b3
      exact ⟨u1, u2, e1, e2, b3⟩
    · obtain ⟨v1, v2, y1, y2, y3⟩ := x.tp j (by omega)
      have ne : ∀ a : Addr, a < n0 → (n0 + j : Nat) ≠ a := fun a ha => add_ne ha
      exact ⟨v1, v2, y1, y2, b5 _ _ (ne _ lz) (ne _ lTO) (ne _ li1) (ne _ li2) y3⟩
  have fz : (n0 + i : Nat) = s.heap.objs.size := x.sz.symm
  rcases x.zp with ⟨e0, hz⟩ | ⟨e0, f, hz⟩
  · subst e0
    have f0 : s.heap.objs.size = n0 := x.sz
    refine zip2_next D hz x.ti hTO x.s1 x.s2 x.l1 x.l2 e1 e2 fun h' b1 b2 c1 c2 b3 b4 b5 => ?_
    have r := hQ h' (fin h' ⟨false, by rw [← f0]; exact b1⟩ ⟨_, _, b2⟩ c1 c2 b3 b4 b5) b5
    rw [fz] at r
    exact r
  · obtain ⟨v1, v2, _, _, y3⟩ := x.tp 0 e0
    refine zip2_nextH D hz y3 x.ti x.s1 x.s2 x.l1 x.l2 e1 e2 fun h' b1 c1 c2 b3 b4 b5 => ?_
    have b5' : ∀ c o, c ≠ z → c ≠ TO → c ≠ i1 → c ≠ i2 → s.heap.get? c = some o → h'.get? c = some o := fun c o q1 _ q2 q3 => b5 c o q1 q2 q3
    have r := hQ h' (fin h' ⟨_, b1⟩ ⟨p1, p2, b5 _ _ D.TO_z D.TO_i1 D.TO_i2 hTO⟩ c1 c2 b3 b4 b5') b5'
    rw [fz] at r
    exact r
theorem ZS.stop {i : Nat} {Q : Option Value → Shared → Prop} (hh : A.handled = none) (D : Apart2 z TI TO i1 i2 a1 a2) (x : ZS z TI TO i1 i2 a1 a2 n0 st t1 t2 xs1 xs2 i s.heap) (hend : (xs1[i]? = none ∧ xs2[i]? = none) ∨ (st = false ∧ (xs1[i]? = none ∨ xs2[i]? = none)))
    (hQ : ∀ h', (∀ c o, c ≠ z → c ≠ TO → c ≠ i1 → c ≠ i2 → s.heap.get? c = some o → h'.get? c = some o) → Q none { s with heap := h' }) :
    wpAny (model prog w) A (pyNext (.ref z)) Q E s := by
  obtain ⟨p1, p2, hTO⟩ := x.to
  rcases x.zp with ⟨e0, hz⟩ | ⟨e0, f, hz⟩
  · subst e0
    exact zip2_stop hh D hz x.ti hTO x.s1 x.s2 x.l1 x.l2 hend hQ
  · obtain ⟨v1, v2, _, _, y3⟩ := x.tp 0 e0
    exact zip2_stopH hh D hz y3 x.ti x.s1 x.s2 x.l1 x.l2 hend fun h' hk => hQ h' fun c o q1 _ q2 q3 => hk c o q1 q2 q3
end
section
variable {prog : Program} {w : World} {A : Around} {E : Value → Shared → Prop} {s : Shared} {st : Bool} {z TI TO i1 i2 a1 a2 : Addr} {t1 t2 : Bool} {xs1 xs2 : Array Value}
end
section
variable {X : Cx} {pins : List (Addr × Obj)} {σ : L2.St} {H : Hp} {s : Shared}
variable {e1 e2 : Expr} {ta : TA} {p zp pos zpos : Pos}
end
section
variable {X : Cx} {Z : WX} {e1 e2 : Expr} {fs : EA} {p zp pos zpos : Pos} {st : Bool}
end
end LW
namespace LW
open PySem PySem.Spec PyProof.Rows L2
section
variable {prog : Program} {w : World} {A : Around} {E : Value → Shared → Prop} {I : Addr} {fp wr : List Addr} {N : Nat} {P : Nat → Value → Prop} {St : Nat → Heap → Prop}
end
section
variable {prog : Program} {w : World} {A : Around} {E : Value → Shared → Prop} {s : Shared}
end
section
variable {X : Cx} {pos : Pos} {es es' : List Expr} {k n : Nat}
end
end LW
namespace LW
open PySem PySem.Spec PyProof.Rows L2
abbrev ZF : WX := fun _ _ _ _ => False
section
variable {G : Gm} {H H' : Hp} {W W' : Wd} {M : Mem} {D' : Addr}
theorem wipeD_len (s : Slots) : ∀ vs : List Nat, (wipeD s vs).length = s.length
  | [] => rfl
  | v :: vs => by unfold wipeD; rw [List.length_set, wipeD_len s vs]
theorem wipeD_some {s : Slots} {i : Nat} {x : D} : ∀ {vs : List Nat}, (wipeD s vs)[i]? = some (some x) → s[i]? = some (some x) ∧ i ∉ vs
  | [], h => ⟨h, by simp⟩
  | v :: vs, h => by
    unfold wipeD at h
    by_cases hi : v = i
    · subst hi
      by_cases hv : v < (wipeD s vs).length
      · rw [List.getElem?_set_self hv] at h; cases h
      · rw [List.getElem?_eq_none (by simpa using hv)] at h; cases h
    · rw [List.getElem?_set_ne hi] at h
      obtain ⟨h1, h2⟩ := wipeD_some h
      exact ⟨h1, by simp only [List.mem_cons, not_or]; exact ⟨fun e => hi e.symm, h2⟩⟩
theorem SR.wipe {s : Slots} {t : L2.St} (r : SR G H W s t) (vs : List Nat) : SR G H W (wipeD s vs) (wipe t vs) := by
  refine ⟨by rw [wipeD_len, wipe_length]; exact r.len, fun i d e => ?_⟩
  obtain ⟨h1, h2⟩ := wipeD_some e
  obtain ⟨v, hv, rd⟩ := r.at_ i d h1
  exact ⟨v, by rw [wipe_out h2]; exact hv, rd⟩
theorem wipe_eq {t t2 : L2.St} (hl : t2.length = t.length) : ∀ {vs : List Nat}, (∀ i : Nat, i ∉ vs → t2[i]? = t[i]?) → wipe t2 vs = wipe t vs := by
  intro vs h
  apply List.ext_getElem?
  intro i
  by_cases hi : i ∈ vs
  · have key : ∀ (t : L2.St) (vs : List Nat), i ∈ vs → (wipe t vs)[i]? = if i < t.length then some none else none := by
      intro t vs
      induction vs with
      | nil => intro h; simp at h
      | cons v vs ih =>
        intro h
        unfold wipe
        by_cases hv : v = i
        · subst hv
          by_cases hl : v < t.length
          · rw [List.getElem?_set_self (by rw [wipe_length]; exact hl), if_pos hl]
          · rw [List.getElem?_eq_none (by rw [List.length_set, wipe_length]; omega), if_neg hl]
        · rw [List.getElem?_set_ne hv]
          exact ih ((List.mem_cons.mp h).resolve_left fun e => hv e.symm)
    rw [key t2 vs hi, key t vs hi, hl]
  · rw [wipe_out hi, wipe_out hi]
    exact h i hi
theorem avo_eta (h : W'.av = (W.avo D').av) : ({ W' with av := W.av } : Wd).avo D' = W' := by
  unfold Wd.avo
  cases W'
  simp only at h ⊢
  congr
  exact h.symm
end
section
variable {X : Cx} {Z : WX} {pos : Pos} {elt tg iter : Expr} {ifs : List Expr} {scope : Scope} {own : List (Str × Nat)} {it : EI} {t : Tg} {c : ET} {e : ES}
theorem sts_nil : PTs X [] (liftT (gm X) Z tTrue) := ⟨fun pins s σ H Q I q => pts_nil.run pins s σ H Q I (by
  obtain ⟨W, sl, M, m, sr, p⟩ := q
  exact Post.here (a := true) p m)⟩
theorem compL_cons {b : Nat} {hs : List Nat} {M0 M MT : Mem} {s : Slots} {d : D} {r zs : List D} (h : compL b hs M0 t c e s (d :: r) M = .ok zs MT) :
    ∃ s1 k M1, bindT M t d s = some s1 ∧ c b s1 M = .ok k M1 ∧ ((k = true ∧ ∃ y M2 zs', e b s1 M1 = .ok y M2 ∧ gdOk hs M0 M2 ∧ compL b hs M0 t c e s r M2 = .ok zs' MT ∧ zs = y :: zs') ∨ (k = false ∧ gdOk hs M0 M1 ∧ compL b hs M0 t c e s r M1 = .ok zs MT)) := by
  unfold compL at h
  cases h1 : bindT M t d s with
  | none => simp only [h1] at h; cases h
  | some s1 =>
    simp only [h1] at h
    cases h2 : c b s1 M with
    | bad => simp only [h2, nox_bad, bind_bad] at h; cases h
    | exc q1 q2 q3 => simp only [h2, nox_exc, bind_bad] at h; cases h
    | ok k M1 =>
      simp only [h2, nox_ok, bind_ok] at h
      refine ⟨s1, k, M1, rfl, h2, ?_⟩
      cases k with
      | false =>
        simp only [Bool.false_eq_true, if_false] at h
        split at h
        · rename_i hg
          exact .inr ⟨rfl, hg, h⟩
        · cases h
      | true =>
        simp only [if_true] at h
        cases h3 : e b s1 M1 with
        | bad => simp only [h3, nox_bad, bind_bad] at h; cases h
        | exc q1 q2 q3 => simp only [h3, nox_exc, bind_bad] at h; cases h
        | ok y M2 =>
          simp only [h3, nox_ok, bind_ok] at h
          split at h
          · rename_i hg
            cases h4 : compL b hs M0 t c e s r M2 with
            | bad => simp only [h4, bind_bad] at h; cases h
            | exc q1 q2 q3 => simp only [h4, bind_exc] at h; cases h
            | ok zs' M3 =>
              simp only [h4, bind_ok] at h
              cases h
              exact .inl ⟨rfl, y, M2, zs', by first | exact h3 | rfl, hg, h4, rfl⟩
          · cases h
theorem compL_noexc {b : Nat} {hs : List Nat} {M0 : Mem} {s : Slots} : ∀ (ds : List D) (M : Mem) (q1 : Str) (q2 : D) (q3 : Mem), compL b hs M0 t c e s ds M ≠ .exc q1 q2 q3
  | [], M, q1, q2, q3, h => by simp [compL] at h
  | d :: r, M, q1, q2, q3, h => by
    unfold compL at h
    cases h1 : bindT M t d s with
    | none => simp only [h1] at h; cases h
    | some s1 =>
      simp only [h1] at h
      cases h2 : c b s1 M with
      | bad => simp only [h2, nox_bad, bind_bad] at h; cases h
      | exc q1 q2 q3 => simp only [h2, nox_exc, bind_bad] at h; cases h
      | ok k M1 =>
        simp only [h2, nox_ok, bind_ok] at h
        cases k with
        | false =>
          simp only [Bool.false_eq_true, if_false] at h
          split at h
          · exact compL_noexc r M1 q1 q2 q3 h
          · cases h
        | true =>
          simp only [if_true] at h
          cases h3 : e b s1 M1 with
          | bad => simp only [h3, nox_bad, bind_bad] at h; cases h
          | exc q1 q2 q3 => simp only [h3, nox_exc, bind_bad] at h; cases h
          | ok y M2 =>
            simp only [h3, nox_ok, bind_ok] at h
            split at h
            · cases h4 : compL b hs M0 t c e s r M2 with
              | bad => simp only [h4, bind_bad] at h; cases h
              | exc q1 q2 q3 => exact compL_noexc r M2 q1 q2 q3 h4
              | ok zs' M3 => simp only [h4, bind_ok] at h; cases h
            · cases h
/-- the avoided list grows -/
theorem poke {G : Gm} {H : Hp} {W : Wd} {M : Mem} {p : Addr} {o : HO} (m : MR G H (W.avo p) M) (nt : NoTup o := by intro _ h; cases h) : Le H (W.avo p) (upd H p o) (W.avo p) ∧ MR G (upd H p o) (W.avo p) M := by
  have x : Le H (W.avo p) (upd H p o) (W.avo p) := ⟨Nat.le_refl _, fun _ _ => rfl, fun a u h n => ⟨by rw [upd_ne fun e => n (Wd.avo_im.mpr (.inl e))]; exact h, n⟩⟩
  refine ⟨x, m.len, m.inj, m.bn, m.lm, fun a h => ⟨?_, (m.avt a h).2⟩, fun h c e => (m.cell h c e).mono x rfl rfl (by rw [← m.len]; exact lt_of_get e) (upd_ne fun z => (m.avt p (.inl rfl)).2 h (by rw [← m.len]; exact lt_of_get e) z)⟩
  by_cases ha : a = p
  · subst ha; exact ⟨o, upd_same, nt⟩
  · rw [upd_ne ha]; exact (m.avt a h).1
structure CompAt (G : Gm) (H1 : Hp) (W1 : Wd) (p : Addr) (W : Wd) (H : Hp) (M : Mem) (ys : List D) : Prop where
  x : Ext H1 W1 H W
  m : MR G H (W.avo p) M
  np : ¬ W.im p
  l : ∃ ws, H p = some (.lst ws) ∧ RDs G H (W.avo p) ys ws
/-- a step within the avoiding world -/
theorem CompAt.step {G : Gm} {H1 H H' : Hp} {W1 W W' : Wd} {p : Addr} {M M' : Mem} {ys : List D} (a : CompAt G H1 W1 p W H M ys) (x : Ext H (W.avo p) H' W') (m : MR G H' W' M') : ∃ W2, W' = W2.avo p ∧ CompAt G H1 W1 p W2 H' M' ys := by
  have e : ({ W' with av := W.av } : Wd).avo p = W' := avo_eta x.av
  refine ⟨{ W' with av := W.av }, e.symm, ?_, ?_, ?_, ?_⟩
  · have k : Ext H W H' { W' with av := W.av } := by
      refine ⟨⟨x.n, x.pe, fun b o h n => ?_⟩, x.b, x.lim, rfl, fun b h => x.avk b (.inr h)⟩
      by_cases hb : b = p
      · subst hb
        refine ⟨by rw [x.avk b (.inl rfl)]; exact h, ?_⟩
        rintro (z | ⟨k, hk, ek⟩)
        · exact n (.inl z)
        · exact (m.avt b (by rw [x.av]; exact .inl rfl)).2 k hk ek
      · have q := x.keep b o h fun z => (Wd.avo_im.mp z).elim hb n
        refine ⟨q.1, fun z => q.2 ?_⟩
        rw [← e]
        exact Wd.avo_im.mpr (.inr z)
    exact a.x.trans k
  · rw [e]; exact m
  · rintro (z | ⟨k, hk, ek⟩)
    · exact a.np (.inl z)
    · exact (m.avt p (by rw [x.av]; exact .inl rfl)).2 k hk ek
  · obtain ⟨ws, h1, h2⟩ := a.l
    refine ⟨ws, by rw [x.avk p (.inl rfl)]; exact h1, ?_⟩
    rw [e]
    exact h2.mono x.toLe
theorem CompAt.push {G : Gm} {H1 H : Hp} {W1 W : Wd} {p : Addr} {M : Mem} {ys : List D} {y : D} {v : V} {ws : List V} (a : CompAt G H1 W1 p W H M ys) (h0 : H1 p = none) (hw : H p = some (.lst ws)) (r : RD G H (W.avo p) y v) : CompAt G H1 W1 p W (upd H p (.lst (ws ++ [v]))) M (ys ++ [y]) := by
  obtain ⟨ws', h1, h2⟩ := a.l
  rw [hw] at h1
  cases h1
  obtain ⟨x, m⟩ := poke (o := .lst (ws ++ [v])) a.m
  refine ⟨⟨⟨a.x.n, a.x.pe, fun b o h n => ?_⟩, a.x.b, a.x.lim, a.x.av, fun b h => ?_⟩, m, a.np, ws ++ [v], upd_same, (h2.mono x).append (.one (r.mono x))⟩
  · have q := a.x.keep b o h n
    exact ⟨by rw [upd_ne (ne_of_none h h0)]; exact q.1, q.2⟩
  · have hb : b ≠ p := fun z => a.np (by rw [← z]; exact .inl (by rw [a.x.av]; exact h))
    rw [upd_ne hb]
    exact a.x.avk b h
/-- what tLc wants -/
theorem lift_comp {G : Gm} {wi : TI} {vs : List Nat} {σ : L2.St} {H : Hp} {Q : VK} (hwi : wi = liftI G Z it) (hsub : ∀ i ∈ t.slots, i ∈ vs) (q : liftN G Z (nComp it vs t c e) σ H Q) :
    tLc wi (tgOf G t) (liftT G ZF c) (liftE G ZF e) vs σ H Q := by
  subst hwi
  obtain ⟨W0, sl, M, m0, sr, po⟩ := q
  refine ⟨W0, sl, M, m0, sr, (PostN.bind m0 po).imp fun p M1 W1 H1 x1 m1 p1 J wd p0 hp0 => ?_⟩
  obtain ⟨ds, hs'⟩ := p
  simp only at p1 wd
  split at p1
  · rename_i hlen
    -- the whole result
    obtain ⟨zT, MT, eT⟩ : ∃ zT MT, compL W0.b hs' M1 t c e (wipeD sl (vs)) ds M1 = .ok zT MT := by
      cases q : compL W0.b hs' M1 t c e (wipeD sl (vs)) ds M1 with
      | ok zT MT => exact ⟨zT, MT, rfl⟩
      | exc q1 q2 q3 => exact absurd q (compL_noexc ds M1 q1 q2 q3)
      | bad => rw [q] at p1; exact p1.elim
    rw [eT] at p1
    have bb : W1.b = W0.b := x1.b
    refine ⟨fun i k H' => k = ds.length - i ∧ i ≤ ds.length ∧ ∃ W M ys zs, CompAt G H1 W1 p0 W H' M ys ∧ ys.length ≤ i ∧ gdOk hs' M1 M ∧ compL W0.b hs' M1 t c e (wipeD sl (vs)) (ds.drop i) M = .ok zs MT ∧ zT = ys ++ zs, ⟨ds.length, by simp, Nat.zero_le _, ?_⟩, ?_⟩
    · refine ⟨W1, M1, [], zT, ⟨m1.xnew hp0, m1.avo hp0, m1.fresh hp0, [], upd_same, .nil⟩, Nat.zero_le _, fun _ _ => rfl, eT, rfl⟩
    · rintro i k H' ⟨rfl, hi', W, M, ys, zs, ca, hy, gd, eC, eZ⟩
      have le1 : Le H1 W1 H' (W.avo p0) := by
        refine ⟨ca.x.n, ca.x.pe, fun b o h n => ?_⟩
        have q := ca.x.keep b o h n
        exact ⟨q.1, fun z => (Wd.avo_im.mp z).elim (fun e => ne_of_none h hp0 e) q.2⟩
      by_cases hlt : i < ds.length
      · refine .inr ⟨wd.goes i _ H' M hlt le1 ca.m gd, _, fun H2 q => ⟨ds.length - (i + 1), by omega, rfl, hlt, q⟩, fun x H2 yl => ?_⟩
        obtain ⟨d, hd, rd, x2, m2⟩ := wd.yields i _ H' M x H2 hlt le1 ca.m gd yl
        obtain ⟨W2, e2, ca2⟩ := ca.step x2 m2
        have edrop : ds.drop i = d :: ds.drop (i + 1) := by
          obtain ⟨h1, h2⟩ := List.getElem?_eq_some_iff.mp hd
          rw [List.drop_eq_getElem_cons h1, h2]
        rw [edrop] at eC
        obtain ⟨s1, kk, M3, hb, hcc, rest⟩ := compL_cons eC
        have sr2 : SR G H2 (W.avo p0) (wipeD sl (vs)) (wipe σ (vs)) := ((sr.mono x1.toLe).mono (le1.trans x2.toLe)).wipe _
        refine ⟨W.avo p0, _, M, d, s1, m2, sr2, rd, hb, fun σ2 sr3 k3 l3 => ⟨?_, ?_⟩⟩
        · refine (wipe_eq l3 fun j hj => k3 j fun z => hj (hsub j z)).trans ?_
          exact wipe_eq (wipe_length _ _) fun j hj => wipe_out hj
        · have bW : (W.avo p0).b = W0.b := ca.x.b.trans bb
          refine ⟨W.avo p0, s1, M, m2, sr3, ?_⟩
          rw [bW, hcc]
          intro W4 H4 x4 m4
          have ca3 : CompAt G H1 W1 p0 W2 H2 M ys := ca2
          have e3 : W.avo p0 = W2.avo p0 := e2
          rw [e3] at x4 sr3
          obtain ⟨W5, e5, ca5⟩ := ca3.step x4 m4
          rcases rest with ⟨rfl, y, M5, zs', hee, hg5, eC5, rfl⟩ | ⟨rfl, hg5, eC5⟩
          · show liftE G ZF e σ2 H4 _
            refine ⟨W4, s1, M3, m4, sr3.mono x4.toLe, ?_⟩
            have b4 : W4.b = W0.b := x4.b.trans (by rw [← e3]; exact bW)
            rw [b4, hee]
            intro W6 H6 x6 m6 v rv
            rw [e5] at x6
            obtain ⟨W7, e7, ca7⟩ := ca5.step x6 m6
            obtain ⟨ws, hw, rw'⟩ := ca7.l
            refine ⟨ws, hw, ?_, W7, M5, ys ++ [y], zs', ca7.push hp0 hw (by rw [← e7]; exact rv), by simp; omega, hg5, eC5, by rw [eZ, List.append_assoc]; rfl⟩
            rw [← rw'.length]
            exact Nat.lt_of_le_of_lt (Nat.le_trans hy (Nat.le_of_lt hlt)) (Nat.lt_of_le_of_lt hlen (by rw [sizeLine_eq]; decide))
          · refine iteF ?_
            exact ⟨W5, M3, ys, zs, ca5, by omega, hg5, eC5, eZ⟩
      · have ei : i = ds.length := by omega
        subst ei
        refine .inl ⟨wd.stops _ H' M le1 ca.m gd, ?_⟩
        rw [List.drop_length] at eC
        have eC' : R.ok [] M = R.ok zs MT := by
          rw [← eC]
          simp [compL]
        cases eC'
        rw [List.append_nil] at eZ
        subst eZ
        obtain ⟨ws, hw, rw'⟩ := ca.l
        exact p1 W H' p0 ws ca.x ca.m rw' hp0 ca.np hw
  · exact p1.elim
theorem sn_comp (hc : X.calm = true) (hN : X.N.Nodup) (hi : SI X Z tg iter it) (ok : BlkOk X.N X.env.scope scope own)
    (hg : ∀ (s : Shared) (H : Hp) (C : Addr) (cl : List (Str × Addr)) (fp : List Addr), SG (X.blk s H scope (compEnvC scope cl C X.env) fp) tg t)
    (ht : ∀ (s : Shared) (H : Hp) (C : Addr) (cl : List (Str × Addr)) (fp : List Addr), PTs (X.blk s H scope (compEnvC scope cl C X.env) fp) ifs (liftT (gm X) ZF c))
    (he : ∀ (s : Shared) (H : Hp) (C : Addr) (cl : List (Str × Addr)) (fp : List Addr), SE (X.blk s H scope (compEnvC scope cl C X.env) fp) ZF elt e)
    (hsub : ∀ i ∈ t.slots, i ∈ own.map (·.2)) (hs : ∀ x, foldedSetIterable iter X.env x = pure x := by intro _; rfl) :
    SN X Z (.ListComp elt [⟨tg, iter, ifs, 0⟩] scope pos) (nComp it (own.map (·.2)) t c e) :=
  (pe_lc (g := tgOf (gm X) t) (tt := liftT (gm X) ZF c) (te := liftE (gm X) ZF e) hc hN hi ok (fun s H C cl fp => hg s H C cl fp) (fun s H C cl fp => ht s H C cl fp) (fun s H C cl fp => he s H C cl fp) hs).weak fun σ H Q q => lift_comp rfl hsub q
end
end LW
namespace LW
open PySem PySem.Spec PyProof.Rows L2
open Classical in
noncomputable def comp2L (b : Nat) (hs : List Nat) (M0 : Mem) (t : Tg) (c : ET) (it1 : EI) (vs1 : List Nat) (t1 : Tg) (c1 : ET) (e : ES) (s : Slots) : List D → Mem → R (List D)
  | [], M => .ok [] M
  | d :: r, M => match bindT M t d s with
    | some s1 => (c b s1 M).nox.bind fun k M1 => if k = true then (it1 b s1 M1).nox.bind fun p M2 => (compL b p.2 M2 t1 c1 e (wipeD s1 vs1) p.1 M2).nox.bind fun ys M3 =>
        if gdOk hs M0 M3 then (comp2L b hs M0 t c it1 vs1 t1 c1 e s r M3).nox.bind fun zs M4 => .ok (ys ++ zs) M4 else .bad
      else if gdOk hs M0 M1 then (comp2L b hs M0 t c it1 vs1 t1 c1 e s r M1).nox else .bad
    | none => .bad
noncomputable def nComp2 (it : EI) (own : List Nat) (t : Tg) (c : ET) (it1 : EI) (vs1 : List Nat) (t1 : Tg) (c1 : ET) (e : ES) : EN := fun b s M => (it b s M).bind fun p M1 => (comp2L b p.2 M1 t c it1 vs1 t1 c1 e (wipeD s own) p.1 M1).nox.bind fun zs M2 => if zs.length ≤ 1000000 then .ok zs M2 else .bad
section
variable {X : Cx} {Z : WX} {pos : Pos} {elt tg iter tg1 iter1 : Expr} {ifs ifs1 : List Expr} {scope : Scope} {own : List (Str × Nat)} {it it1 : EI} {t t1 : Tg} {c c1 : ET} {e : ES} {vs1 : List Nat}
end
end LW
namespace LW
open PySem PySem.Spec PyProof.Rows L2
/-- what is wanted behind a statement's end -/
def PostS (G : Gm) (Z : WX) (H : Hp) (W : Wd) (r : RS) (E : Ends) : Prop := match r with
  | .nx s M => ∀ W' H' t, Ext H W H' W' → MR G H' W' M → SR G H' W' s t → E.nx t H'
  | .rt d M => ∀ W' H' v, Ext H W H' W' → MR G H' W' M → RD G H' W' d v → E.rt v H'
  | .bk s M => ∀ W' H' t, Ext H W H' W' → MR G H' W' M → SR G H' W' s t → E.bk t H'
  | .ct s M => ∀ W' H' t, Ext H W H' W' → MR G H' W' M → SR G H' W' s t → E.ct t H'
  | .exc c d s M => ∀ (W' : Wd) (H' : Hp) (t : L2.St) (C dd : Addr) (v : V), Ext H W H' W' → MR G H' W' M → SR G H' W' s t → RD G H' W' d v → G.mg c = some (.ref C) → H' dd = some (.xd [("what", v)]) → ¬ W'.im dd → Z (.ref C) (some dd) t H'
  | .bad => False
theorem PostS.ext {G : Gm} {Z : WX} {H H1 : Hp} {W W1 : Wd} {r : RS} {E : Ends} (p : PostS G Z H W r E) (x : Ext H W H1 W1) : PostS G Z H1 W1 r E := by
  cases r with
  | nx s M => exact fun W' H' t y m => p W' H' t (x.trans y) m
  | rt d M => exact fun W' H' t y m => p W' H' t (x.trans y) m
  | bk s M => exact fun W' H' t y m => p W' H' t (x.trans y) m
  | ct s M => exact fun W' H' t y m => p W' H' t (x.trans y) m
  | exc c d s M => exact fun W' H' t C dd v y m => p W' H' t C dd v (x.trans y) m
  | bad => exact p
/-- an expression within a statement -/
theorem PostS.toS {G : Gm} {Z : WX} {H : Hp} {W : Wd} {t : L2.St} {s : Slots} {α : Type} {r : R α} {k : α → Mem → RS} {E : Ends} (sr : SR G H W s t) (p : PostS G Z H W (r.toS s k) E) :
    Post G Z t H W r fun a M1 W1 H1 => PostS G Z H1 W1 (k a M1) E := by
  cases r with
  | ok a M => exact fun W' H' x m => PostS.ext (r := k a M) p x
  | exc c d M => exact fun W' H' C dd v x m rd => p W' H' t C dd v x m (sr.mono x.toLe) rd
  | bad => exact p
theorem PostS.nx {G : Gm} {Z : WX} {H : Hp} {W : Wd} {s : Slots} {M : Mem} {t : L2.St} {E : Ends} (p : PostS G Z H W (.nx s M) E) (m : MR G H W M) (sr : SR G H W s t) : E.nx t H := p W H t (.refl _ _) m sr
def liftS (G : Gm) (Z : WX) (f : SS) : TS := fun E t H => ∃ W s M, MR G H W M ∧ SR G H W s t ∧ PostS G Z H W (f W.b s M) E
abbrev SX (X : Cx) (Z : WX) (st : Stmt) (f : SS) : Prop := PS X st (liftS (gm X) Z f)
abbrev SB (X : Cx) (Z : WX) (st : List Stmt) (f : SS) : Prop := PSs X st (liftS (gm X) Z f)
theorem _root_.L2.PS.weak {X : Cx} {st : Stmt} {t t' : TS} (h : PS X st t) (w : ∀ E σ H, t' E σ H → t E σ H) : PS X st t' := ⟨fun pins s σ H E I q => h.run pins s σ H E I (w E σ H q)⟩
theorem _root_.L2.PSs.weak {X : Cx} {st : List Stmt} {t t' : TS} (h : PSs X st t) (w : ∀ E σ H, t' E σ H → t E σ H) : PSs X st t' := ⟨fun pins s σ H E I q => h.run pins s σ H E I (w E σ H q)⟩
section
variable {X : Cx} {Z : WX} {pos : Pos} {st : Stmt} {rest : List Stmt} {u w : SS} {e a b : Expr} {f g : ES} {fa : EA} {c : ET} {o : D → D → Mem → R D}
theorem sb_nil : SB X Z [] sNx := pss_nil.weak fun E σ H ⟨W, s, M, m, sr, p⟩ => PostS.nx p m sr
theorem sb_cons (h1 : SX X Z st u) (h2 : SB X Z rest w) : SB X Z (st :: rest) (sSeq u w) := by
  refine (pss_cons h1 h2).weak fun E σ H ⟨W, s, M, m, sr, p⟩ => ⟨W, s, M, m, sr, ?_⟩
  have e : sSeq u w W.b s M = match u W.b s M with | .nx s1 M1 => w W.b s1 M1 | r => r := rfl
  rw [e] at p
  cases q : u W.b s M with
  | nx s1 M1 =>
    rw [q] at p
    intro W' H' t x m' sr'
    refine ⟨W', s1, M1, m', sr', ?_⟩
    rw [x.b]
    exact PostS.ext p x
  | rt d M1 => rw [q] at p; exact p
  | bk s1 M1 => rw [q] at p; exact p
  | ct s1 M1 => rw [q] at p; exact p
  | exc c d s1 M1 => rw [q] at p; exact p
  | bad => rw [q] at p; exact p
theorem sb_one (h1 : SX X Z st u) : SB X Z [st] u := pss_one h1
theorem sx_expr (he : SE X Z e f) (hs : swapsWith e none pos.line X.env = pure false := by rfl) : SX X Z (.Expr e pos) (sExpr f) :=
  (ps_expr he hs).weak fun E σ H ⟨W, s, M, m, sr, p⟩ => ⟨W, s, M, m, sr, (PostS.toS sr p).imp fun d M1 W1 H1 x1 m1 p1 v rv => PostS.nx p1 m1 (sr.mono x1.toLe)⟩
theorem sx_ret (he : SE X Z e f) : SX X Z (.Return (some e) pos) (sRet f) :=
  (ps_ret he).weak fun E σ H ⟨W, s, M, m, sr, p⟩ => ⟨W, s, M, m, sr, (PostS.toS sr p).imp fun d M1 W1 H1 x1 m1 p1 v rv => p1 W1 H1 v (.refl _ _) m1 rv⟩
theorem sx_if {ta tb : List Stmt} (hc : ST X Z e c) (ha : SB X Z ta u) (hb : SB X Z tb w) : SX X Z (.If e ta tb pos) (sIf c u w) := by
  refine (ps_if hc ha hb).weak fun E σ H ⟨W, s, M, m, sr, p⟩ => ⟨W, s, M, m, sr, (PostS.toS sr p).imp fun k M1 W1 H1 x1 m1 p1 => ?_⟩
  cases k with
  | true =>
    refine iteT ⟨W1, s, M1, m1, sr.mono x1.toLe, ?_⟩
    rw [x1.b]
    exact p1
  | false =>
    refine iteF ⟨W1, s, M1, m1, sr.mono x1.toLe, ?_⟩
    rw [x1.b]
    exact p1
theorem lift_set {G : Gm} {te : TE} {i : Nat} {E : Ends} {σ : L2.St} {H : Hp} (h : ∀ Q, liftE G Z f σ H Q → te σ H Q) (q : liftS G Z (sSet i f) E σ H) : tAsg te (gName i) E σ H := by
  obtain ⟨W, s, M, m, sr, p⟩ := q
  exact h _ ⟨W, s, M, m, sr, (PostS.toS sr p).imp fun d M1 W1 H1 x1 m1 p1 v rv => PostS.nx p1 m1 ((sr.mono x1.toLe).set rv i)⟩
theorem sx_set (i : Nat) {x : Str} {pos' : Pos} (hN : X.N.Nodup) (he : SE X Z e f) (hi : X.N[i]? = some x := by rfl) (hx : Loc X.env.scope x := by first | exact Or.inl rfl | exact Or.inr rfl) (hs : swapsWith e (some (.Name x pos')) pos.line X.env = pure false := by rfl)
    (hf : X.fn x = true ∨ X.env.scope.names.lookup x = some .local := by first | exact .inl rfl | exact .inr rfl) : SX X Z (.Assign [.Name x pos'] e pos) (sSet i f) :=
  (ps_set hN hi hx he hs hf).weak fun E σ H q => lift_set (fun Q z => z) q
/-- name = [..] on one line -/
theorem sx_setC (i : Nat) {x : Str} {pos' spos : Pos} {elt tg iter : Expr} {ifs : List Expr} {scope : Scope} {own : List (Str × Nat)} {it : EI} {t : Tg} {ee : ES} {fz : EN → ES} (hfz : fz = eFrz ∨ fz = eThw) (hc : X.calm = true) (hN : X.N.Nodup)
    (hi : SI X Z tg iter it) (ok : BlkOk X.N X.env.scope scope own)
    (hg : ∀ (s : Shared) (H : Hp) (C : Addr) (cl : List (Str × Addr)) (fp : List Addr), SG (X.blk s H scope (compEnvC scope cl C X.env) fp) tg t)
    (ht : ∀ (s : Shared) (H : Hp) (C : Addr) (cl : List (Str × Addr)) (fp : List Addr), PTs (X.blk s H scope (compEnvC scope cl C X.env) fp) ifs (liftT (gm X) ZF c))
    (he : ∀ (s : Shared) (H : Hp) (C : Addr) (cl : List (Str × Addr)) (fp : List Addr), SE (X.blk s H scope (compEnvC scope cl C X.env) fp) ZF elt ee)
    (hsub : ∀ i ∈ t.slots, i ∈ own.map (·.2)) (hk : X.env.scope.kind = .function) (hy : X.N[i]? = some x := by rfl) (hyl : X.env.scope.names.lookup x = some .local := by rfl) (hl : (pos'.line == pos.line) = true := by rfl)
    (hal : (scope.names.any fun (n, k) => n == x && (k == .local || k == .cell)) = false := by rfl) (hs : ∀ x, foldedSetIterable iter X.env x = pure x := by intro _; rfl) :
    SX X Z (.Assign [.Name x pos'] (.ListComp elt [⟨tg, iter, ifs, 0⟩] scope pos) spos) (sSet i (fz (nComp it (own.map (·.2)) t c ee))) := by
  refine (ps_setLc (g := tgOf (gm X) t) (tt := liftT (gm X) ZF c) (te := liftE (gm X) ZF ee) hc hN hy hyl (sw_true hk hyl hl hal) hi ok (fun s H C cl fp => hg s H C cl fp) (fun s H C cl fp => ht s H C cl fp) (fun s H C cl fp => he s H C cl fp) hs).weak fun E σ H q => ?_
  rcases hfz with rfl | rfl
  · exact lift_set (fun Q z => lift_comp rfl hsub (lift_frz z)) q
  · exact lift_set (fun Q z => lift_comp rfl hsub (lift_thw z)) q
theorem sx_asg {tg : Expr} {gt : EG} (he : SE X Z e f) (hg : TGT X tg gt) (hs : swapsWithSole [tg] e pos.line X.env = pure false := by rfl) (hw : swappedStores [tg] e X.env = pure none := by rfl)
    (h1 : (assignEach [tg] X.env).map (·.2) = [assign tg X.env] := by rfl) : SX X Z (.Assign [tg] e pos) (sAsg f gt) := by
  refine (ps_asg he hg hs hw h1).weak fun E σ H ⟨W, s, M, m, sr, p⟩ => ⟨W, s, M, m, sr, (PostS.toS sr p).imp fun d M1 W1 H1 x1 m1 p1 v rv => ?_⟩
  split at p1
  · rename_i s2 M2 eg
    exact ⟨W1, s, M1, d, s2, M2, m1, sr.mono x1.toLe, rv, by rw [x1.b]; exact eg, fun W' H' σ2 x2 m2 sr2 => p1 W' H' σ2 x2 m2 sr2⟩
  · exact p1.elim
theorem setAll_two {i j : Nat} {ds : List D} {s s2 : Slots} (h : setAll [i, j] ds s = some s2) : ∃ x y, ds = [x, y] ∧ s2 = (s.set i (some x)).set j (some y) := by
  match ds, h with
  | [x, y], h => exact ⟨x, y, rfl, (Option.some.inj h).symm⟩
theorem setAll_three {i j l : Nat} {ds : List D} {s s2 : Slots} (h : setAll [i, j, l] ds s = some s2) : ∃ x y z, ds = [x, y, z] ∧ s2 = ((s.set i (some x)).set j (some y)).set l (some z) := by
  match ds, h with
  | [x, y, z], h => exact ⟨x, y, z, rfl, (Option.some.inj h).symm⟩
theorem sx_par (i j : Nat) {x y : Str} {px py pt : Pos} {kt k2 pt2} (hc : X.calm = true) (hN : X.N.Nodup) (ha : SA X Z [a, b] fa) (hij : i ≠ j := by decide) (hi : X.N[i]? = some x := by rfl) (hj : X.N[j]? = some y := by rfl)
    (hx : X.env.scope.names.lookup x = some .local := by rfl) (hy : X.env.scope.names.lookup y = some .local := by rfl)
    (hw : swappedStores [.Tuple [.Name x px, .Name y py] kt pt] (.Tuple [a, b] k2 pt2) X.env = pure (some [x, y]) := by rfl)
    (hs : swapsWithSole [.Tuple [.Name x px, .Name y py] kt pt] (.Tuple [a, b] k2 pt2) pos.line X.env = pure false := by rfl) :
    SX X Z (.Assign [.Tuple [.Name x px, .Name y py] kt pt] (.Tuple [a, b] k2 pt2) pos) (sPar [i, j] fa) := by
  refine (ps_par hc hN hi hj hij hx hy ha hw hs).weak fun E σ H ⟨W, s, M, m, sr, p⟩ => ⟨W, s, M, m, sr, (PostS.toS sr p).imp fun ds M1 W1 H1 x1 m1 p1 vs rvs => ?_⟩
  split at p1
  · rename_i s2 es
    obtain ⟨d1, d2, rfl, rfl⟩ := setAll_two es
    cases rvs with
    | cons r1 rr =>
      cases rr with
      | cons r2 rr =>
        cases rr
        exact ⟨_, _, rfl, PostS.nx p1 m1 (((sr.mono x1.toLe).set r1 i).set r2 j)⟩
  · exact p1.elim
theorem sx_par3 (i j l : Nat) {x y z : Str} {d : Expr} {px py pz pt : Pos} {kt k2 pt2} (hc : X.calm = true) (hN : X.N.Nodup) (ha : SA X Z [a, b, d] fa) (hij : i ≠ j := by decide) (hil : i ≠ l := by decide) (hjl : j ≠ l := by decide) (hi : X.N[i]? = some x := by rfl) (hj : X.N[j]? = some y := by rfl) (hl : X.N[l]? = some z := by rfl)
    (hx : X.env.scope.names.lookup x = some .local := by rfl) (hy : X.env.scope.names.lookup y = some .local := by rfl) (hz : X.env.scope.names.lookup z = some .local := by rfl)
    (hw : swappedStores [.Tuple [.Name x px, .Name y py, .Name z pz] kt pt] (.Tuple [a, b, d] k2 pt2) X.env = pure (some [x, y, z]) := by rfl)
    (hs : swapsWithSole [.Tuple [.Name x px, .Name y py, .Name z pz] kt pt] (.Tuple [a, b, d] k2 pt2) pos.line X.env = pure false := by rfl) :
    SX X Z (.Assign [.Tuple [.Name x px, .Name y py, .Name z pz] kt pt] (.Tuple [a, b, d] k2 pt2) pos) (sPar [i, j, l] fa) := by
  refine (ps_par3 hc hN hi hj hl hij hil hjl hx hy hz ha hw hs).weak fun E σ H ⟨W, s, M, m, sr, p⟩ => ⟨W, s, M, m, sr, (PostS.toS sr p).imp fun ds M1 W1 H1 x1 m1 p1 vs rvs => ?_⟩
  split at p1
  · rename_i s2 es
    obtain ⟨d1, d2, d3, rfl, rfl⟩ := setAll_three es
    cases rvs with
    | cons r1 rr =>
      cases rr with
      | cons r2 rr =>
        cases rr with
        | cons r3 rr =>
          cases rr
          exact ⟨_, _, _, rfl, PostS.nx p1 m1 ((((sr.mono x1.toLe).set r1 i).set r2 j).set r3 l)⟩
  · exact p1.elim
theorem bv_div {G : Gm} : BinV G (rI CDivW fun i j => .int (i / j)) oDiv := bv_int fun x y M => by
  unfold oDiv
  split
  · split
    · rename_i hc
      exact .inl ⟨_, _, rfl, rfl, ⟨hc.1, by have := hc.2; omega⟩, rfl⟩
    · exact .inr rfl
  · exact .inr rfl
def oAddI : D → D → Mem → R D := fun x y M => match x, y with
  | .int i, .int j => .ok (.int (i + j)) M
  | _, _ => .bad
theorem bv_addI {G : Gm} : BinV G (ipI fun i j => i + j) oAddI := by
  intro x y M W H v w Z t Q m rx ry p
  unfold oAddI at p
  split at p
  · rename_i i j
    cases rx
    cases ry
    exact ⟨i, j, rfl, rfl, Post.here p m _ (.int _)⟩
  · exact p.elim
theorem sx_augO (i : Nat) {x : Str} {op : Operator} {ti : TIp} {pos' : Pos} (hp : PIp X op ti) (hv : BinV (gm X) ti o) (hN : X.N.Nodup) (he : SE X Z e f) (hi : X.N[i]? = some x := by rfl) (hx : Loc X.env.scope x := by first | exact Or.inl rfl | exact Or.inr rfl)
    (hf : X.fn x = true ∨ X.env.scope.names.lookup x = some .local := by first | exact .inl rfl | exact .inr rfl) : SX X Z (.AugAssign (.Name x pos') op e pos) (sAug i o f) := by
  refine (ps_aug hN hi hx he hp hf).weak fun E σ H ⟨W, s, M, m, sr, p⟩ => ?_
  unfold sAug at p
  cases q : s[i]? with
  | none => simp only [q] at p; exact p.elim
  | some dd =>
    cases dd with
    | none => simp only [q] at p; exact p.elim
    | some d =>
      simp only [q] at p
      obtain ⟨v, hv', rd⟩ := sr.at_ i d q
      refine ⟨v, hv', W, s, M, m, sr, (PostS.toS sr p).imp fun y M1 W1 H1 x1 m1 p1 w rw' => ?_⟩
      exact hv d y M1 W1 H1 v w Z σ _ m1 (rd.mono x1.toLe) rw' ((PostS.toS (sr.mono x1.toLe) p1).imp fun z M2 W2 H2 x2 m2 p2 u ru => PostS.nx p2 m2 (((sr.mono x1.toLe).mono x2.toLe).set ru i))
theorem RDs.atI {G : Gm} {H : Hp} {W : Wd} {xs : List D} {vs : List V} {i : Int} {d : D} (r : RDs G H W xs vs) (h : L2.atI xs i = some d) : ∃ v, L2.atI vs i = some v ∧ RD G H W d v := by
  unfold L2.atI at h ⊢
  rw [← r.length]
  cases q : ixN xs.length i with
  | none => rw [q] at h; cases h
  | some k =>
    rw [q] at h
    exact r.get h
theorem sx_augAdd (i : Nat) {x : Str} {pos' : Pos} (hN : X.N.Nodup) (he : SE X Z e f) (hi : X.N[i]? = some x := by rfl) (hx : Loc X.env.scope x := by first | exact Or.inl rfl | exact Or.inr rfl)
    (hf : X.fn x = true ∨ X.env.scope.names.lookup x = some .local := by first | exact .inl rfl | exact .inr rfl) : SX X Z (.AugAssign (.Name x pos') .Add e pos) (sAug i oAddI f) := sx_augO i ip_add bv_addI hN he hi hx hf
theorem sx_augDiv (i : Nat) {x : Str} {pos' : Pos} (hN : X.N.Nodup) (he : SE X Z e f) (hi : X.N[i]? = some x := by rfl) (hx : Loc X.env.scope x := by first | exact Or.inl rfl | exact Or.inr rfl)
    (hf : X.fn x = true ∨ X.env.scope.names.lookup x = some .local := by first | exact .inl rfl | exact .inr rfl) : SX X Z (.AugAssign (.Name x pos') .FloorDiv e pos) (sAug i oDiv f) := sx_augO i iop_fdivW bv_div hN he hi hx hf
variable {tg iter : Expr} {body : List Stmt} {it : EI} {t : Tg} {sb : SS}
theorem sx_for (hp : PassesOwn (model X.prog X.w) X.A X.env X.xe) (hc : X.calm = true) (hi : SI X Z tg iter it) (hg : SG X tg t) (hb : SB X Z body sb) (hs : ∀ x, foldedSetIterable iter X.env x = pure x := by intro _; rfl) :
    SX X Z (.For tg iter body [] pos) (sFor it t sb) := by
  refine (ps_for hp hc hi hg hb hs).weak fun E σ H ⟨W0, sl, M, m0, sr0, po⟩ => ?_
  refine ⟨W0, sl, M, m0, sr0, (PostS.toS sr0 po).imp fun p M1 W1 H1 x1 m1 p1 J wd => ?_⟩
  obtain ⟨ds, hs'⟩ := p
  simp only at p1 wd
  have bb : W1.b = W0.b := x1.b
  refine ⟨fun i k σ' H' => k = ds.length - i ∧ i ≤ ds.length ∧ ∃ W s M, Ext H1 W1 H' W ∧ MR (gm X) H' W M ∧ SR (gm X) H' W s σ' ∧ gdOk hs' M1 M ∧ PostS (gm X) Z H' W (forL W0.b hs' M1 t sb (ds.drop i) s M) E, ⟨ds.length, by simp, Nat.zero_le _, W1, sl, M1, .refl _ _, m1, sr0.mono x1.toLe, fun _ _ => rfl, p1⟩, ?_⟩
  rintro i k σ' H' ⟨rfl, hi', W, s, M, xx, m, sr, gd, pp⟩
  by_cases hlt : i < ds.length
  · refine .inr ⟨wd.goes i W H' M hlt xx.toLe m gd, _, fun σ2 H2 q => ⟨ds.length - (i + 1), by omega, rfl, hlt, q⟩, fun x H2 yl => ?_⟩
    obtain ⟨d, hd, rd, x2, m2⟩ := wd.yields i W H' M x H2 hlt xx.toLe m gd yl
    have edrop : ds.drop i = d :: ds.drop (i + 1) := by
      obtain ⟨h1, h2⟩ := List.getElem?_eq_some_iff.mp hd
      rw [List.drop_eq_getElem_cons h1, h2]
    rw [edrop] at pp
    unfold forL at pp
    cases hbt : bindT M t d s with
    | none => simp only [hbt] at pp; exact pp.elim
    | some s1 =>
      simp only [hbt] at pp
      refine ⟨W, s, M, d, s1, m2, sr.mono x2.toLe, rd, hbt, fun σ2 sr2 _ _ => ?_⟩
      have bW : W.b = W0.b := xx.b.trans bb
      refine ⟨W, s1, M, m2, sr2, ?_⟩
      rw [bW]
      have pp' := PostS.ext pp x2
      cases q : sb W0.b s1 M with
      | nx s3 M3 =>
        simp only [q] at pp'
        intro W4 H4 t4 x4 m4 sr4
        split at pp'
        · rename_i g4
          exact ⟨W4, s3, M3, (xx.trans x2).trans x4, m4, sr4, g4, PostS.ext pp' x4⟩
        · exact pp'.elim
      | ct s3 M3 =>
        simp only [q] at pp'
        intro W4 H4 t4 x4 m4 sr4
        split at pp'
        · rename_i g4
          exact ⟨W4, s3, M3, (xx.trans x2).trans x4, m4, sr4, g4, PostS.ext pp' x4⟩
        · exact pp'.elim
      | bk s3 M3 => simp only [q] at pp'; exact pp'
      | rt d3 M3 => simp only [q] at pp'; exact pp'
      | exc c3 d3 s3 M3 => simp only [q] at pp'; exact pp'
      | bad => simp only [q] at pp'; exact pp'
  · have ei : i = ds.length := by omega
    subst ei
    refine .inl ⟨wd.stops W H' M xx.toLe m gd, ?_⟩
    rw [List.drop_length] at pp
    unfold forL at pp
    exact PostS.nx pp m sr
theorem sx_while (n : Nat) (hp : PassesOwn (model X.prog X.w) X.A X.env X.xe) (hc : ST X Z e c) (hb : SB X Z body sb) : SX X Z (.While e body [] pos) (sWhile n c sb) := by
  refine (ps_while hp hc hb).weak fun E σ H ⟨W0, sl, M, m0, sr0, po⟩ => ?_
  refine ⟨fun k σ' H' => ∃ W s M, Ext H W0 H' W ∧ MR (gm X) H' W M ∧ SR (gm X) H' W s σ' ∧ PostS (gm X) Z H' W (whileL W0.b c sb k s M) E, ⟨n, W0, sl, M, .refl _ _, m0, sr0, po⟩, ?_⟩
  rintro k σ' H' ⟨W, s, M, xx, m, sr, pp⟩
  cases k with
  | zero => exact (show False from pp).elim
  | succ k =>
    unfold whileL at pp
    refine ⟨W, s, M, m, sr, ?_⟩
    rw [xx.b]
    refine (PostS.toS sr pp).imp fun b M1 W1 H1 x1 m1 p1 => ?_
    cases b with
    | true =>
      refine iteT ?_
      refine ⟨fun σ2 H2 => ∃ W s M, Ext H W0 H2 W ∧ MR (gm X) H2 W M ∧ SR (gm X) H2 W s σ2 ∧ PostS (gm X) Z H2 W (whileL W0.b c sb k s M) E, fun σ2 H2 q => ⟨k, Nat.lt_succ_self _, q⟩, ?_⟩
      refine ⟨W1, s, M1, m1, sr.mono x1.toLe, ?_⟩
      rw [(xx.trans x1).b]
      simp only [if_true] at p1
      cases q : sb W0.b s M1 with
      | nx s3 M3 => simp only [q] at p1; exact fun W4 H4 t4 x4 m4 sr4 => ⟨W4, s3, M3, (xx.trans x1).trans x4, m4, sr4, PostS.ext p1 x4⟩
      | ct s3 M3 => simp only [q] at p1; exact fun W4 H4 t4 x4 m4 sr4 => ⟨W4, s3, M3, (xx.trans x1).trans x4, m4, sr4, PostS.ext p1 x4⟩
      | bk s3 M3 => simp only [q] at p1; exact p1
      | rt d3 M3 => simp only [q] at p1; exact p1
      | exc c3 d3 s3 M3 => simp only [q] at p1; exact p1
      | bad => simp only [q] at p1; exact p1
    | false =>
      refine iteF ?_
      simp only [Bool.false_eq_true, if_false] at p1
      exact PostS.nx p1 m1 (sr.mono x1.toLe)
def OpM (G : Gm) (r : V → List V → Hp → VK → Prop) (op : Nat → D → List D → Mem → R D) : Prop := ∀ (x : D) (xs : List D) (M : Mem) (W : Wd) (H : Hp) (v : V) (vs : List V) (Z : WX) (t : L2.St) (Q : VK), MR G H W M → RD G H W x v → RDs G H W xs vs →
  Post G Z t H W (op W.b x xs M) (fun d _ W' H' => ∀ u, RD G H' W' d u → Q u H') → r v vs H Q
/-- o.m(e, ..) of a list -/
def eMethL (op : Nat → D → List D → Mem → R D) (f : ES) (fs : EA) : ES := fun b s M => (f b s M).bind fun x M1 => match lstOf M1 x with
  | some _ => (fs b s M1).bind fun ds M2 => op b x ds M2
  | none => .bad
theorem se_meth {name : Str} {apos cpos : Pos} {id : String} {r : V → List V → Hp → VK → Prop} {op : Nat → D → List D → Mem → R D} {es : List Expr} (slot : Slot "list" name id) (hty : typeOf (.builtin id) = pure (.type "method_descriptor")) (hm : MtR X id r) (hv : OpM (gm X) r op) (ho : SE X Z a f) (ha : SA X Z (e :: es) fa)
    (hbase : attributeBase a name X.env (eval a X.env) = eval a X.env := by rfl)
    (hfew : ((backTo cpos (starEach (e :: es) X.env)).all (fun x => !x.1) && (backToKw cpos (keywordEach [] X.env)).all (fun x => x.1.isSome)
      && decide ((e :: es).length + ([] : List Keyword).length + (if ([] : List Keyword).isEmpty then 0 else 1) < 30)) = true := by rfl)
    (hline : (apos.endLine == cpos.line) = true := by rfl) (hs : starEach (e :: es) X.env = (false, eval e X.env) :: starEach es X.env := by rfl) (hplain : (backTo cpos (starEach es X.env)).any (·.1) = false := by rfl) :
    SE X Z (.Call (.Attribute a name apos) (e :: es) [] cpos) (eMethL op f fa) := by
  refine (pe_bm PySem.F.plainAttrs_list slot hty hm ho ha hbase hfew hline hs hplain).weak fun σ H Q ⟨W, s, M, m, sr, p⟩ => ⟨W, s, M, m, sr, (Post.bind p).imp fun x M1 W1 H1 x1 m1 p1 v rv => ?_⟩
  split at p1
  · rename_i xs ex
    obtain ⟨q, vs, rfl, hl, r'⟩ := lst_read m1 ex rv
    refine ⟨.inl ⟨rfl, vs, .of hl⟩, W1, s, M1, m1, sr.mono x1.toLe, ?_⟩
    rw [x1.b]
    refine (Post.bind p1).imp fun ds M2 W2 H2 x2 m2 p2 ws rws => ?_
    exact hv x ds M2 W2 H2 (.ref q) ws Z σ Q m2 (rv.mono x2.toLe) rws (by rw [(x1.trans x2).b]; exact p2)
  · exact p1.elim
theorem om_append {G : Gm} : OpM G rAppend mAppend := by
  intro x xs M W H v vs Z t Q m rx rs p
  unfold mAppend at p
  split at p
  · rename_i h d
    split at p
    · rename_i ys hc
      split at p
      · rename_i hs
        cases rx with
        | ref hn =>
          cases rs with
          | cons rd rr =>
            cases rr
            obtain ⟨ws, h1, h2, h3⟩ := m.cell h _ hc
            refine ⟨W.e h, ws, _, rfl, rfl, h1, ?_, ?_⟩
            · rw [← h2.length]
              exact Nat.lt_of_lt_of_le hs.2 (line_le (Nat.le_refl _))
            · refine p W _ (Ext.write m hn) (m.write hc (h2.append (.one rd)) fun hb => belows_append (h3 hb) ?_) .non .non
              simp [belows, stOk_lim rfl hs.1 hb]
      · exact p.elim
    · exact p.elim
  · exact p.elim
theorem se_append {apos cpos : Pos} (ho : SE X Z a f) (ha : SA X Z [e] fa)
    (hbase : attributeBase a "append" X.env (eval a X.env) = eval a X.env := by rfl)
    (hfew : ((backTo cpos (starEach [e] X.env)).all (fun x => !x.1) && (backToKw cpos (keywordEach [] X.env)).all (fun x => x.1.isSome)
      && decide ([e].length + ([] : List Keyword).length + (if ([] : List Keyword).isEmpty then 0 else 1) < 30)) = true := by rfl)
    (hline : (apos.endLine == cpos.line) = true := by rfl) (hs : starEach [e] X.env = (false, eval e X.env) :: starEach [] X.env := by rfl) (hplain : (backTo cpos (starEach [] X.env)).any (·.1) = false := by rfl) :
    SE X Z (.Call (.Attribute a "append" apos) [e] [] cpos) (eMethL mAppend f fa) := se_meth PySem.F.slot_list_append PySem.F.type_list_append mt_append om_append ho ha hbase hfew hline hs hplain
end
end LW
namespace LW
open PySem PySem.Spec PyProof.Rows L2
structure FnG (P : Program) (w : World) (K : PySem.W.Frag) (mg : Str → Option Value) (base : Heap) (CX : CXT) (k : Nat) (f : Addr) (fd : FuncData) (ps : List Str) (sp : Sp) : Prop where
  many : ∀ vs H Q E, sp vs H Q E → vs.length = ps.length
  goes : ∀ (A : Around) (out : List Env) (s : Shared) (H : Hp) (as : Args) (us : List Value) (vs : List V) (Q : VK) (E : XK), Room k A → A.guards = some [] → Env0 P w K mg base A out s H → BindsTo s fd as (ps.zip us) → Vals vs us → sp vs H Q E →
    codeAny (model P w) A (.call (.ref f) as) (CR CX out P w H s Q E) s
section
variable {P : Program} {w : World} {K : PySem.W.Frag} {mg : Str → Option Value} {base : Heap} {CX : CXT} {f : Addr} {fd : FuncData} {ps : List Str} {sp sp' : Sp}
theorem FnG.mono {j k : Nat} (F : FnG P w K mg base CX j f fd ps sp) (h : j ≤ k) : FnG P w K mg base CX k f fd ps sp := ⟨F.many, fun A out s H as us vs Q E hr => F.goes A out s H as us vs Q E (hr.mono h)⟩
theorem FnG.imp {k : Nat} (F : FnG P w K mg base CX k f fd ps sp) (h : ∀ vs H Q E, sp' vs H Q E → sp vs H Q E) : FnG P w K mg base CX k f fd ps sp' :=
  ⟨fun vs H Q E q => F.many vs H Q E (h _ _ _ _ q), fun A out s H as us vs Q E r1 r2 r3 r4 r5 r6 => F.goes A out s H as us vs Q E r1 r2 r3 r4 r5 (h _ _ _ _ r6)⟩
/-- a def by its body -/
theorem fng {x qual : Str} {st : Stmt} {N : List Str} {k : Nat} (F : Fun K x qual st f fd) (S : FnScope N ps (defScope st)) (many : ∀ vs H Q E, sp vs H Q E → vs.length = ps.length)
    (body : ∀ (cdv : Value) (A : Around) (out : List Env) (s : Shared) (H : Hp) (vs : List V) (Q : VK) (E : XK), Room k (A.deeper (envOfC qual (defScope st) s.heap.objs.size f cdv)) → (A.deeper (envOfC qual (defScope st) s.heap.objs.size f cdv)).guards = some [] → sp vs H Q E →
      ∃ t, PSs (cxOf CX P w K mg base N qual (defScope st) f cdv A out s H E) (defBody st) t ∧ t { nx := fun _ H' => Q .non H', rt := Q } (L2.start N vs) H) : FnG P w K mg base CX (k + 1) f fd ps sp := by
  obtain ⟨oc, od, kV, doc, pm, an, cdv, ct, osl, rfl, lk, hcd⟩ := F.ex
  refine ⟨many, fun A out s H as us vs Q E hr hgd e0 hb r hsp => ?_⟩
  have kin : K.In s.heap := e0.mod.kin.keeps fun a o z => (e0.bs a o z).1
  have nol : s.heap.NoLimit := e0.mod.nolimit.keeps fun a o z => (e0.bs a o z).1
  refine codeAny_call_function hr.depth (kin _ _ lk) rfl S.co S.gen rfl (PySem.W.codeRec_of kin hcd) (hb _ _ _ _ (wpAny_newFunctionEnv_cells S.kind (fun ⟨y, u⟩ hy => (S.par y (List.of_mem_zip hy).1).imp id fun c => ⟨c, PySem.W.cellsFrom_some _ _ _ (.inl c)⟩) fun env he s1 ic => ?_))
  subst he
  obtain ⟨t, run, goal⟩ := body cdv A out s H vs Q E (hr.deeper _) hgd hsp
  refine ⟨nol.keeps ic.toInCall.keep, codeAny_func (wpAny_mono (run.run [] s1 (L2.start N vs) H _ (inv_start S hr.hd e0 (many _ _ _ _ hsp) r ic) goal) (fun fl s' z => ?_) fun _ _ z => z)⟩
  cases fl with
  | brk => obtain ⟨_, _, _, z⟩ := z; exact z.elim
  | cont => obtain ⟨_, _, _, z⟩ := z; exact z.elim
  | ret u => obtain ⟨v, σ', H', J, rv, z⟩ := z; exact ⟨v, H', J.os, J.bare, J.base, J.hok, rv, z⟩
  | next => obtain ⟨σ', H', J, z⟩ := z; exact ⟨.non, H', J.os, J.bare, J.base, J.hok, rfl, z⟩
end
section
variable {X : Cx} {CX : CXT} {k : Nat} {f : Addr} {fd : FuncData} {ps : List Str} {sp : Sp} {E : XK} {x : Str} {p pos : Pos} {e : Expr} {es : List Expr} {t : TA}
theorem go_fn {pins : List (Addr × Obj)} {σ : L2.St} {H : Hp} {s : Shared} {Q : VK} {us : List Value} {vs : List V} (F : FnG X.prog X.w X.K X.mg X.base CX k f fd ps sp) (hr : Room k X.A) (hgd : X.A.guards = some []) (hb : Binds X.K fd ps []) (hx : Passes CX X E)
    (I : Inv X pins σ H s) (r : Vals vs us) (h : sp vs H Q E) : wpAny (model X.prog X.w) X.A (call (.ref f) us) (EP X pins σ Q) X.xe s := by
  have hl : (us ++ []).length = ps.length := by rw [List.append_nil, ← r.length]; exact F.many _ _ _ _ h
  have bd := hb s us I.kIn hl
  rw [List.append_nil] at bd
  refine wpAny_call (codeAny_mono (F.goes X.A X.stack s H ⟨us, []⟩ us vs Q E hr hgd I.env0 bd r h) fun r s' z => ?_)
  match r, z with
  | .error e, z => exact hx pins σ H s e s' I z
  | .ok (.ret u), z => exact I.after z
/-- f(..) -/
theorem pg_call (F : FnG X.prog X.w X.K X.mg X.base CX k f fd ps sp) (hr : Room k X.A) (hgd : X.A.guards = some []) (hg : Gl X x) (hm : X.mg x = some (.ref f)) (hk : PySem.W.keepIn X.K (.ref f) = true) (hb : Binds X.K fd ps []) (hx : Passes CX X E)
    (ha : PA X (e :: es) t) (hdb : (x == ("__debug__" : Str)) = false) (he : starEach (e :: es) X.env = (false, eval e X.env) :: starEach es X.env) (hpl : (backTo pos (starEach es X.env)).any (·.1) = false) :
    PE X (.Call (.Name x p) (e :: es) [] pos) (fun σ H Q => t σ H fun vs H1 => sp vs H1 Q E) :=
  ⟨fun pins s σ H Q I h => wpAny_Call_Name_kw (ld_glob I hg hm (PySem.W.callWith_K (h₀ := X.base) I.ok.mod.kin hk (thn (ha.run pos pins s σ H _ I h) fun us s1 ⟨vs, H1, I1, r, q⟩ => ⟨I1.kIn, go_fn F hr hgd hb hx I1 r q⟩) he hpl) hdb)⟩
end
theorem law_go {P : Program} {w : World} {K : PySem.W.Frag} {mg mb : Str → Option Value} {CX : CXT} {k : Nat} {fa a : Addr} {fd : FuncData} {x : Str} {sp : Sp} {s1 : Shared} {vs : List Value} {ns : List Int}
    (kin : K.In s1.heap) (gl : s1.heap.Ns mainGlobals mg) (bl : s1.heap.Ns builtinsNs mb) (bb : ∀ x : Str, x ≠ "__name__" → mb x = bootBuiltins x) (nol : s1.heap.NoLimit) (nog : s1.gens = #[])
    (obj : s1.heap.get? a = some { cls := .type "list", data := .seq vs.toArray }) (isI : IntsAre vs ns) (fit : ns.length ≤ sizeLine) (hr : Room k callerA)
    (F : ∀ base : Heap, K.In base → base.Ns mainGlobals mg → FnG P w K mg base CX k fa fd [x] sp) (bind : ∀ (s : Shared) (u : Value), BindsTo s fd ⟨[u], []⟩ [(x, u)])
    (hsp : ∀ H : Hp, SqL K H a (ns.map V.int) → sp [.ref a] H (fun v _ => v = .bl true) fun _ _ _ => False)
    (hCX : ∀ H e s', CX [] H s1 (fun _ _ _ => False) e s' → False) :
    codeAny (model P w) callerA (.call (.ref fa) ⟨[.ref a], []⟩) (fun r s' => r = .ok (.ret (.bool true)) ∧ OldK s1.heap s'.heap ∧ s'.os = s1.os ∧ AllBare s'.gens) s1 := by
  have rel := vals_ints isI
  have len := isI.length
  have go : ∀ H : Hp, Only H → SqL K H a (ns.map V.int) → HOk P w H s1.heap → (∀ c, H c ≠ none → c = a) → (H a ≠ none → K.lookup a = none) →
      codeAny (model P w) callerA (.call (.ref fa) ⟨[.ref a], []⟩) (fun r s' => r = .ok (.ret (.bool true)) ∧ OldK s1.heap s'.heap ∧ s'.os = s1.os ∧ AllBare s'.gens) s1 := by
    intro H only hS hok alone notK
    have undict : ∀ {c : Addr} {o : Obj} {es : Array DictEntry} {ep : Nat}, s1.heap.get? c = some o → o.data = .dict es ep → H c = none := by
      intro c o es ep z d
      cases q : H c with
      | none => rfl
      | some u =>
        obtain rfl : c = a := alone c (by rw [q]; exact Option.some_ne_none _)
        rw [obj] at z
        cases z
        cases (show Data.seq vs.toArray _ = Data.dict es ep from d)
    have names : ∀ {c : Addr} {m : Str → Option Value}, s1.heap.Ns c m → (hidT s1.heap H).Ns c m := fun ⟨o, es, ep, z, d, r⟩ => ⟨o, es, ep, hidT_get z (undict z d), d, r⟩
    have kin2 : K.In (hidT s1.heap H) := by
      intro c o z
      refine hidT_get (kin c o z) ?_
      cases q : H c with
      | none => rfl
      | some u =>
        obtain rfl : c = a := alone c (by rw [q]; exact Option.some_ne_none _)
        rw [notK (by rw [q]; exact Option.some_ne_none _)] at z
        cases z
    have md : Mod K mg (hidT s1.heap H) := ⟨kin2, names gl, ⟨mb, names bl, bb⟩, nol.elim fun mc ⟨h1, h2⟩ => ⟨mc, names h1, h2⟩⟩
    have env : Env0 P w K mg (hidT s1.heap H) callerA [] s1 H := by
      refine ⟨rfl, md, fun c o z => of_hidT z, Nat.le_of_eq (hidT_size _ _), trivial, fun c hc => ?_, hok, .of_eq nog⟩
      cases (show c ∈ ([] : List Addr) from hc)
    refine codeAny_mono ((F _ kin2 (names gl)).goes callerA [] s1 H ⟨[.ref a], []⟩ [.ref a] [.ref a] (fun v _ => v = .bl true) (fun _ _ _ => False) hr rfl env (bind s1 (.ref a)) (.cons rfl .nil) (hsp H hS)) fun r s' z => ?_
    match r, z with
    | .error e, z => exact (hCX H e s' z).elim
    | .ok (.ret u), ⟨v, H', os, bare, un, hok', rv, (ev : v = .bl true)⟩ =>
      subst ev
      obtain rfl : u = Value.bool true := rv
      refine ⟨rfl, OldK.of_keep fun c o z => ?_, os, bare⟩
      cases q : H c with
      | none => exact un.keep c o z q (fun y => by cases (show c ∈ ([] : List Addr) from y)) (by simp)
      | some u =>
        rcases only c with y | ⟨ob, xs, y⟩
        · rw [q] at y
          cases y
        · have e1 := (hok c _ y).1
          rw [z] at e1
          cases e1
          exact (hok' c _ (un.frzs c _ _ y)).1
  cases hk : K.lookup a with
  | some o =>
    have z := kin a o hk
    rw [obj] at z
    cases z
    exact go (fun _ => none) (fun _ => .inl rfl) (.inr ⟨_, vs.toArray, _, hk, rfl, rfl, rfl, by rw [List.size_toArray, len]; exact fit, by simpa using rel⟩) (fun c u y => by cases (show (none : Option HO) = some u from y)) (fun c y => (y rfl).elim) fun y => (y rfl).elim
  | none =>
    have yes : ∀ c, c = a → (fun c => if c = a then some (HO.frz { cls := .type "list", data := .seq vs.toArray } (.lst (ns.map V.int))) else none) c = some (HO.frz { cls := .type "list", data := .seq vs.toArray } (.lst (ns.map V.int))) := fun c e => if_pos e
    have no : ∀ c, c ≠ a → (fun c => if c = a then some (HO.frz { cls := .type "list", data := .seq vs.toArray } (.lst (ns.map V.int))) else none) c = none := fun c e => if_neg e
    refine go (fun c => if c = a then some (HO.frz { cls := .type "list", data := .seq vs.toArray } (.lst (ns.map V.int))) else none) (fun c => ?_) (.inl (.inr ⟨_, yes a rfl⟩)) (fun c u y => ?_) (fun c y => ?_) fun _ => hk
    · by_cases e : c = a
      · exact .inr ⟨_, _, yes c e⟩
      · exact .inl (no c e)
    · by_cases e : c = a
      · rw [yes c e] at y
        cases y
        subst e
        exact ⟨obj, by rw [List.length_map]; exact fit, vs, _, rel, obj⟩
      · rw [no c e] at y
        cases y
    · by_cases e : c = a
      · exact e
      · exact absurd (no c e) y
theorem walk_g {l : PySem.W.OpenLaw} {n k : Nat} {q : Program} {loose : List Str} {XP : (Str → Option Value) → Heap → Prop} {YP : World → Heap → Prop} {d : DefRec} {K : Params → PySem.W.Frag} {CX : World → CXT} {sp : World → Sp} {x : Str}
    (hn : l.most = some n) (hn2 : n ≤ sizeLine) (hdf : d.params.defaults = []) (hr : Room k callerA) (hY : ∀ (w : World) (h : Heap), YP w h → (K w.params).In h)
    (F : ∀ (w : World) (mg : Str → Option Value) (fa : Addr) (h : Heap), (K w.params).In h → h.Ns mainGlobals mg → mg d.name = some (.ref fa) →
      ∃ fd : FuncData, (∀ (s : Shared) (u : Value), BindsTo s fd ⟨[u], []⟩ [(x, u)]) ∧ ∀ base : Heap, (K w.params).In base → base.Ns mainGlobals mg → FnG l.prog w (K w.params) mg base (CX w) k fa fd [x] (sp w))
    (hsp : ∀ (w : World) (H : Hp) (a : Addr) (ns : List Int), ns.length ≤ n → SqL (K w.params) H a (ns.map V.int) → sp w [.ref a] H (fun v _ => v = .bl true) fun _ _ _ => False)
    (hCX : ∀ (w : World) (H : Hp) (s : Shared) (e : Value) (s' : Shared), CX w [] H s (fun _ _ _ => False) e s' → False) :
    PySem.W.WalkO q loose XP YP l.row.toRowW d [] (fun f vs => PySem.call f vs) :=
  Att.attach_call hn hdf fun w s0 s1 mg mb fa o pm cd doc a vs ns G Y ho hd hcd hmg hobj hints hlen hg =>
    let ⟨_, hb, hF⟩ := F w mg fa _ (hY w _ Y) G.T.g hmg
    law_go (hY w _ Y) G.T.g G.T.b G.T.builtins G.T.nolimit hg hobj hints (Nat.le_trans hlen hn2) hr hF hb (fun H hS => hsp w H a ns hlen hS) fun H e s' => hCX w H s1 e s'
end LW
namespace LW
open PySem PySem.Spec PyProof.Rows L2
section
variable {G : Gm} {H H2 : Hp} {W W2 : Wd} {M M2 : Mem}
mutual
theorem RD.bel {d : D} {v : V} : RD G H W d v → LW.below W.n d = true
  | .non => rfl
  | .bl _ => rfl
  | .int _ => rfl
  | .str _ => rfl
  | .tup _ r => by unfold LW.below; exact RDs.bel r
  | .lst _ r => by unfold LW.below; exact RDs.bel r
  | .scr _ => rfl
  | .dct _ _ _ r => by unfold LW.below; exact RDs.bel r
  | .dtt _ _ _ r => by unfold LW.below; exact RDs.bel r
  | .exn _ _ _ _ _ _ => rfl
  | .key _ _ => rfl
  | .clo _ _ _ _ r => by unfold LW.below; exact RDs.bel r
  | .ref q => by unfold LW.below; exact decide_eq_true q
theorem RDs.bel {ds : List D} {vs : List V} : RDs G H W ds vs → LW.belows W.n ds = true
  | .nil => rfl
  | .cons h r => by unfold LW.belows; rw [RD.bel h, RDs.bel r]; rfl
end
/-- the callee's world -/
def Wd.enter (W : Wd) : Wd := { W with b := W.n, lim := fun h => if h < W.b then W.lim h else W.n }
theorem enter_le : Le H W H W.enter := ⟨Nat.le_refl _, fun _ _ => rfl, fun _ _ h n => ⟨h, n⟩⟩
theorem enter_lim {h : Nat} {xs : List D} {vs : List V} (r : RDs G H W xs vs) (l : h < W.b → LW.belows (W.lim h) xs = true) (q : h < W.enter.b) : LW.belows (W.enter.lim h) xs = true := by
  show LW.belows (if h < W.b then W.lim h else W.n) xs = true
  by_cases hb : h < W.b
  · rw [if_pos hb]; exact l hb
  · rw [if_neg hb]; exact r.bel
theorem CAt.enter {h : Nat} {c : Cell} (q : CAt G H W h c) : CAt G H W.enter h c := by
  cases c with
  | lst ds => obtain ⟨vs, e, r, l⟩ := q; exact ⟨vs, e, r.mono enter_le, fun z => enter_lim r l z⟩
  | dct ks ds => obtain ⟨vs, e, z, r, l⟩ := q; exact ⟨vs, e, z, r.mono enter_le, fun z => enter_lim r l z⟩
  | dtt ks ds => obtain ⟨vs, e, z, r, l⟩ := q; exact ⟨vs, e, z, r.mono enter_le, fun z => enter_lim r l z⟩
  | dcf ks ds => obtain ⟨vs, e, z, r, l⟩ := q; exact ⟨vs, e, z, r.mono enter_le, fun z => enter_lim r l z⟩
  | dtf ks ds => obtain ⟨vs, e, z, r, l⟩ := q; exact ⟨vs, e, z, r.mono enter_le, fun z => enter_lim r l z⟩
  | tab P y => exact q
  | ins c fs => obtain ⟨C, dx, vs, g, e, d, dn, z, r, l⟩ := q; exact ⟨C, dx, vs, g, e, d, dn, z, r.mono enter_le, fun z => enter_lim r l z⟩
theorem MR.enter (m : MR G H W M) : MR G H W.enter M :=
  ⟨m.len, m.inj, Nat.le_refl _, fun h q => by
    show (if h < W.b then W.lim h else W.n) ≤ W.n
    split
    · rename_i hb; exact Nat.le_trans (m.lm h hb) m.bn
    · exact Nat.le_refl _, m.avt, fun h c e => (m.cell h c e).enter⟩
/-- the caller's world behind the call -/
def Wd.back (W W2 : Wd) : Wd := { W with p := W2.p }
theorem back_im {a : Addr} (x : Ext H W.enter H2 W2) (n : ¬ W2.im a) : ¬ (W.back W2).im a := by
  rintro (z | ⟨k, hk, ek⟩)
  · exact n (.inl (by rw [x.av]; exact z))
  · exact n (.inr ⟨k, Nat.lt_of_lt_of_le hk x.n, ek⟩)
theorem back_ext (x : Ext H W.enter H2 W2) : Ext H W H2 (W.back W2) :=
  ⟨⟨Nat.le_refl _, fun h q => x.pe h q, fun a o h n => ⟨(x.keep a o h n).1, back_im x (x.keep a o h n).2⟩⟩, rfl, rfl, rfl, fun a h => x.avk a h⟩
/-- into a world of less -/
structure Dn (n : Nat) (W2 W' : Wd) : Prop where
  im : ∀ a, ¬ W2.im a → ¬ W'.im a
  e : ∀ h, h < n → W'.p h = W2.p h ∧ h < W'.n
theorem Dn.back (x : Ext H W.enter H2 W2) : Dn W.n W2 (W.back W2) := ⟨fun _ => back_im x, fun h q => ⟨rfl, q⟩⟩
theorem Dn.add {h : Nat} (x : Ext H W.enter H2 W2) (hh : h < W2.n) : Dn W.n W2 ((W.back W2).add (W2.e h)) := ⟨fun a n => Wd.add_im (back_im x n) fun e => n (.inr ⟨h, hh, e.symm⟩), fun k q => ⟨Wd.add_p q, Nat.lt_succ_of_lt q⟩⟩
mutual
theorem RD.down {n : Nat} {W' : Wd} {d : D} {v : V} (x : Dn n W2 W') : RD G H2 W2 d v → LW.below n d = true → RD G H2 W' d v
  | .non, _ => .non
  | .bl b, _ => .bl b
  | .int i, _ => .int i
  | .str y, _ => .str y
  | .tup h r, q => .tup (h.elim (fun z => .inl ⟨z.1, x.im _ z.2⟩) .inr) (RDs.down x r (by unfold LW.below at q; exact q))
  | .lst h r, q => .lst ⟨h.1, x.im _ h.2⟩ (RDs.down x r (by unfold LW.below at q; exact q))
  | .scr h, _ => .scr (h.elim (fun z => .inl ⟨z.1, x.im _ z.2⟩) .inr)
  | .dct h n l r, q => .dct h (x.im _ n) l (RDs.down x r (by unfold LW.below at q; exact q))
  | .dtt h n l r, q => .dtt h (x.im _ n) l (RDs.down x r (by unfold LW.below at q; exact q))
  | .exn g h n k n' f, _ => .exn g h (x.im _ n) k (x.im _ n') f
  | .key h n, _ => .key h (x.im _ n)
  | .clo h n k n' r, q => .clo h (x.im _ n) k (x.im _ n') (RDs.down x r (by unfold LW.below at q; exact q))
  | .ref (h := h) _, q => by
    unfold LW.below at q
    have k := x.e h (of_decide_eq_true q)
    rw [show W2.e h = W'.e h from congrArg Prod.fst k.1.symm]
    exact RD.ref k.2
theorem RDs.down {n : Nat} {W' : Wd} {ds : List D} {vs : List V} (x : Dn n W2 W') : RDs G H2 W2 ds vs → LW.belows n ds = true → RDs G H2 W' ds vs
  | .nil, _ => .nil
  | .cons h r, q => by
    unfold LW.belows at q
    rw [Bool.and_eq_true] at q
    exact .cons (RD.down x h q.1) (RDs.down x r q.2)
end
theorem lim_le (m : MR G H W M) {h : Nat} (hn : h < W.n) : W.enter.lim h ≤ W.n := m.enter.lm h hn
theorem CAt.back {W' : Wd} {h : Nat} {c : Cell} (m : MR G H W M) (x : Ext H W.enter H2 W2) (dn : Dn W.n W2 W') (wb : W'.b = W.b) (wl : W'.lim = W.lim) (hn : h < W.n) (q : CAt G H2 W2 h c) : CAt G H2 W' h c := by
  have en : W'.e h = W2.e h := congrArg Prod.fst (dn.e h hn).1
  have eo : W'.od h = W2.od h := congrArg Prod.snd (dn.e h hn).1
  have key : ∀ {ds : List D} {vs : List V}, RDs G H2 W2 ds vs → (h < W2.b → LW.belows (W2.lim h) ds = true) → RDs G H2 W' ds vs ∧ (h < W'.b → LW.belows (W'.lim h) ds = true) := fun {ds vs} r l => by
    have hb : h < W2.b := by rw [x.b]; exact hn
    have l1 := l hb
    rw [x.lim] at l1
    refine ⟨r.down dn (belows_mono (lim_le m hn) _ l1), fun z => ?_⟩
    rw [wb] at z
    rw [wl]
    have e : W.enter.lim h = W.lim h := if_pos z
    rw [e] at l1
    exact l1
  cases c with
  | lst ds => obtain ⟨vs, e, r, l⟩ := q; exact ⟨vs, by rw [en]; exact e, (key r l).1, (key r l).2⟩
  | dct ks ds => obtain ⟨vs, e, z, r, l⟩ := q; exact ⟨vs, by rw [en]; exact e, z, (key r l).1, (key r l).2⟩
  | dtt ks ds => obtain ⟨vs, e, z, r, l⟩ := q; exact ⟨vs, by rw [en]; exact e, z, (key r l).1, (key r l).2⟩
  | dcf ks ds => obtain ⟨vs, e, z, r, l⟩ := q; exact ⟨vs, by rw [en, eo]; exact e, z, (key r l).1, (key r l).2⟩
  | dtf ks ds => obtain ⟨vs, e, z, r, l⟩ := q; exact ⟨vs, by rw [en, eo]; exact e, z, (key r l).1, (key r l).2⟩
  | tab P y =>
    obtain ⟨e, ps, k, t, r⟩ := q
    exact ⟨by rw [en]; exact e, ps, by rw [en]; exact k, t, fun pos cv hc => let ⟨c, h1, h2, h3⟩ := r pos cv hc; ⟨c, h1, h2, dn.im _ h3⟩⟩
  | ins c fs => obtain ⟨C, dx, vs, g, e, d, dn', z, r, l⟩ := q; exact ⟨C, dx, vs, g, by rw [en]; exact e, by rw [en]; exact d, dn.im _ dn', z, (key r l).1, (key r l).2⟩
theorem back_mr (m : MR G H W M) (x : Ext H W.enter H2 W2) (m2 : MR G H2 W2 M2) : MR G H2 (W.back W2) (M2.take W.n) := by
  have nn : W.n ≤ W2.n := x.n
  refine ⟨?_, fun h h' q q' e => m2.inj h h' (Nat.lt_of_lt_of_le q nn) (Nat.lt_of_lt_of_le q' nn) e, m.bn, m.lm, fun a h => ?_, fun h c e => ?_⟩
  · rw [List.length_take, m2.len]; exact Nat.min_eq_left nn
  · have := m2.avt a (by rw [x.av]; exact h)
    exact ⟨this.1, fun k hk => this.2 k (Nat.lt_of_lt_of_le hk nn)⟩
  · have hn : h < W.n := by
      have := lt_of_get e
      rw [List.length_take] at this
      omega
    rw [List.getElem?_take_of_lt hn] at e
    exact (m2.cell h c e).back m x (.back x) rfl rfl hn
theorem frz_ok (m : MR G H W M) (x : Ext H W.enter H2 W2) (m2 : MR G H2 W2 M2) : ∀ (k : Nat) (d d' : D) (v : V), frz M2 W.n k d = some d' → RD G H2 W2 d v → RD G H2 (W.back W2) d' v := by
  intro k
  induction k with
  | zero => intro d d' v e r; unfold frz at e; cases e
  | succ k ih =>
    have many : ∀ (ds ds' : List D) (vs : List V), ds.mapM (frz M2 W.n k) = some ds' → RDs G H2 W2 ds vs → RDs G H2 (W.back W2) ds' vs := by
      intro ds
      induction ds with
      | nil =>
        intro ds' vs e r
        rw [List.mapM_nil] at e
        cases e
        cases r
        exact .nil
      | cons d ds ihs =>
        intro ds' vs e r
        rw [List.mapM_cons] at e
        cases r with
        | cons h r =>
          cases q : frz M2 W.n k d with
          | none => rw [q] at e; cases e
          | some d1 =>
            rw [q] at e
            cases q2 : ds.mapM (frz M2 W.n k) with
            | none => rw [q2] at e; cases e
            | some ds1 =>
              rw [q2] at e
              cases e
              exact .cons (ih d d1 _ q h) (ihs ds1 _ q2 r)
    intro d d' v e r
    cases r with
    | non => unfold frz at e; cases e; exact .non
    | bl b => unfold frz at e; cases e; exact .bl b
    | int i => unfold frz at e; cases e; exact .int i
    | str y => unfold frz at e; cases e; exact .str y
    | scr h => unfold frz at e; cases e; exact .scr (h.elim (fun z => .inl ⟨z.1, back_im x z.2⟩) .inr)
    | tup h r =>
      unfold frz at e
      rw [Option.map_eq_some_iff] at e
      obtain ⟨ys, e1, rfl⟩ := e
      exact .tup (h.elim (fun z => .inl ⟨z.1, back_im x z.2⟩) .inr) (many _ _ _ e1 r)
    | lst h r =>
      unfold frz at e
      rw [Option.map_eq_some_iff] at e
      obtain ⟨ys, e1, rfl⟩ := e
      exact .lst ⟨h.1, back_im x h.2⟩ (many _ _ _ e1 r)
    | dct h n l r =>
      unfold frz at e
      rw [Option.map_eq_some_iff] at e
      obtain ⟨ys, e1, rfl⟩ := e
      exact .dct h (back_im x n) l (many _ _ _ e1 r)
    | dtt h n l r =>
      unfold frz at e
      rw [Option.map_eq_some_iff] at e
      obtain ⟨ys, e1, rfl⟩ := e
      exact .dtt h (back_im x n) l (many _ _ _ e1 r)
    | exn g h n k n' f => unfold frz at e; cases e; exact .exn g h (back_im x n) k (back_im x n') f
    | key h n => unfold frz at e; cases e; exact .key h (back_im x n)
    | clo h n k n' r => unfold frz at e; cases e
    | ref q =>
      rename_i h
      unfold frz at e
      split at e
      · rename_i hn
        cases e
        exact RD.ref (W := W.back W2) hn
      · rename_i hn
        have nim : ¬ (W.back W2).im (W2.e h) := by
          rintro (z | ⟨k', hk, ek⟩)
          · exact (m2.avt _ (by rw [x.av]; exact z)).2 h q rfl
          · have := m2.inj k' h (Nat.lt_of_lt_of_le hk x.n) q ek
            exact hn (this ▸ hk)
        split at e
        · rename_i xs hc
          rw [Option.map_eq_some_iff] at e
          obtain ⟨ys, e1, rfl⟩ := e
          obtain ⟨vs, h1, h2, _⟩ := m2.cell h _ hc
          exact .lst ⟨h1, nim⟩ (many _ _ _ e1 h2)
        · rename_i ks xs hc
          rw [Option.map_eq_some_iff] at e
          obtain ⟨ys, e1, rfl⟩ := e
          obtain ⟨vs, h1, hl, h2, _⟩ := m2.cell h _ hc
          exact .dtt (.inl h1) nim hl (many _ _ _ e1 h2)
        · cases e
/-- a list of the callee's own becomes a handle of the caller's -/
theorem back_keep {h : Nat} {xs : List D} (m : MR G H W M) (x : Ext H W.enter H2 W2) (m2 : MR G H2 W2 M2) (hn : ¬ h < W.n) (h2 : h < W2.n) (hc : M2[h]? = some (.lst xs)) (hb : LW.belows W.n xs = true) :
    Ext H W H2 ((W.back W2).add (W2.e h)) ∧ MR G H2 ((W.back W2).add (W2.e h)) (M2.take W.n ++ [.lst xs]) := by
  obtain ⟨vs, h1, r, _⟩ := m2.cell h _ hc
  have nim : ¬ (W.back W2).im (W2.e h) := by
    rintro (z | ⟨k', hk, ek⟩)
    · exact (m2.avt _ (by rw [x.av]; exact z)).2 h h2 rfl
    · have := m2.inj k' h (Nat.lt_of_lt_of_le hk x.n) h2 ek
      exact hn (this ▸ hk)
  have hp : H (W2.e h) = none := by
    cases q : H (W2.e h) with
    | none => rfl
    | some o =>
      refine absurd (.inr ⟨h, h2, rfl⟩) (x.keep _ o q fun z => ?_).2
      rcases z with z | ⟨k', hk, ek⟩
      · exact nim (.inl z)
      · exact nim (.inr ⟨k', hk, by rw [← ek]; exact x.e k' hk⟩)
  have mb := back_mr m x m2
  refine ⟨(back_ext x).add hp, ?_⟩
  have ml := mb.len
  have nn : W.n ≤ W2.n := x.n
  have dn := Dn.add x h2
  have en : ∀ k, k < W.n → ((W.back W2).add (W2.e h)).e k = W2.e k := fun k q => congrArg Prod.fst (dn.e k q).1
  have el : ((W.back W2).add (W2.e h)).e W.n = W2.e h := Wd.add_n (W := W.back W2)
  have len : (M2.take W.n).length = W.n := ml
  refine ⟨by rw [List.length_append, len]; rfl, fun k k' q q' ek => ?_, Nat.le_succ_of_le m.bn, m.lm, fun a z => ⟨(mb.avt a z).1, fun k q ek => ?_⟩, fun k c ec => ?_⟩
  · have q1 : k < W.n + 1 := q
    have q2 : k' < W.n + 1 := q'
    by_cases k1 : k = W.n
    · by_cases k2 : k' = W.n
      · omega
      · rw [k1, el, en k' (by omega)] at ek
        have := m2.inj h k' h2 (by omega) ek
        omega
    · by_cases k2 : k' = W.n
      · rw [k2, el, en k (by omega)] at ek
        have := m2.inj k h (by omega) h2 ek
        omega
      · rw [en k (by omega), en k' (by omega)] at ek
        exact m2.inj k k' (by omega) (by omega) ek
  · have q1 : k < W.n + 1 := q
    by_cases k1 : k = W.n
    · rw [k1, el] at ek
      exact nim (.inl (ek ▸ z))
    · rw [en k (by omega)] at ek
      exact (mb.avt a z).2 k (by show k < W.n; omega) ek
  · by_cases hk : k < W.n
    · rw [List.getElem?_append_left (by rw [len]; exact hk), List.getElem?_take_of_lt hk] at ec
      exact (m2.cell k c ec).back m x dn rfl rfl hk
    · have hk2 : k = W.n := by
        have := lt_of_get ec
        rw [List.length_append, len] at this
        simp at this
        omega
      rw [hk2, List.getElem?_append_right (by rw [len]; exact Nat.le_refl _), len, Nat.sub_self] at ec
      simp at ec
      subst ec
      refine ⟨vs, ?_, r.down dn hb, fun z => ?_⟩
      · rw [hk2, el]; exact h1
      · have z' : k < W.b := z
        have := m.bn
        omega
/-- what a def promises: it computes φ; no exception -/
def spF (G : Gm) (φ : Fn) : Sp := fun vs H Q _ => ∃ W M ds, MR G H W M ∧ RDs G H W ds vs ∧ Post G ZF [] H W (φ ds M) fun d _ W' H' => ∀ v, RD G H' W' d v → Q v H'
theorem leave_ok {keep : Bool} {d : D} {v : V} {Q : VK} (m : MR G H W M) (x : Ext H W.enter H2 W2) (m2 : MR G H2 W2 M2) (rd : RD G H2 W2 d v)
    (p : Post G ZF [] H W (if keep = true then leaveK W.n d M2 else leave W.n d M2) fun d _ W' H' => ∀ v, RD G H' W' d v → Q v H') : Q v H2 := by
  cases keep with
  | false =>
    simp only [Bool.false_eq_true, if_false] at p
    unfold leave at p
    split at p
    · rename_i hb
      exact p _ _ (back_ext x) (back_mr m x m2) v (rd.down (.back x) hb)
    · split at p
      · rename_i d' e
        exact p _ _ (back_ext x) (back_mr m x m2) v (frz_ok m x m2 12 d d' v e rd)
      · exact p.elim
  | true =>
    simp only [if_true] at p
    unfold leaveK at p
    split at p
    · rename_i h
      cases rd with
      | ref q =>
        split at p
        · exact p.elim
        · rename_i hn
          split at p
          · rename_i xs hc
            split at p
            · rename_i hb
              obtain ⟨k1, k2⟩ := back_keep m x m2 hn q hc hb
              refine p _ _ k1 k2 _ ?_
              have := RD.ref (G := G) (H := H2) (W := (W.back W2).add (W2.e h)) (h := W.n) (Nat.lt_succ_self _)
              rw [show ((W.back W2).add (W2.e h)).e W.n = W2.e h from Wd.add_n (W := W.back W2)] at this
              exact this
            · exact p.elim
          · exact p.elim
    · exact p.elim
end
theorem sr_start {G : Gm} {H : Hp} {W : Wd} {ds : List D} {vs : List V} {N : List Str} (r : RDs G H W ds vs) : SR G H W (ds.map some ++ List.replicate (N.length - ds.length) none) (L2.start N vs) := by
  have hl := r.length
  refine ⟨by unfold L2.start; simp [hl], fun i d e => ?_⟩
  by_cases hi : i < ds.length
  · rw [List.getElem?_append_left (by simpa using hi)] at e
    rw [List.getElem?_map] at e
    cases q : ds[i]? with
    | none => rw [q] at e; cases e
    | some d' =>
      rw [q] at e
      cases e
      obtain ⟨v, hv, rv⟩ := r.get q
      refine ⟨v, ?_, rv⟩
      unfold L2.start
      rw [List.getElem?_append_left (by simp; omega), List.getElem?_map, hv]
      rfl
  · rw [List.getElem?_append_right (by simpa using hi)] at e
    rw [List.getElem?_replicate] at e
    split at e <;> cases e
section
variable {P : Program} {w : World} {K : PySem.W.Frag} {mg : Str → Option Value} {base : Heap}
/-- a def by its body -/
theorem fn_ok {x qual : Str} {st : Stmt} {f : Addr} {fd : FuncData} {N ps : List Str} {k : Nat} (keep : Bool) {body : SS} (F : Fun K x qual st f fd) (S : FnScope N ps (defScope st))
    (hb : ∀ (cdv : Value) (A : Around) (outer : List Env) (s : Shared) (H : Hp) (E : XK), Room k (A.deeper (envOfC qual (defScope st) s.heap.objs.size f cdv)) → (A.deeper (envOfC qual (defScope st) s.heap.objs.size f cdv)).guards = some [] → SB (cxOf CX0 P w K mg base N qual (defScope st) f cdv A outer s H E).nox ZF (defBody st) body) :
    FnG P w K mg base CX0 (k + 1) f fd ps (spF ⟨K, mg⟩ (mkFn keep ps.length N.length body)) := by
  have hlen : ∀ vs H Q E, spF ⟨K, mg⟩ (mkFn keep ps.length N.length body) vs H Q E → vs.length = ps.length := fun vs H Q E h => by
    obtain ⟨W, M, ds, m, r, p⟩ := h
    unfold mkFn at p
    split at p
    · rename_i e; rw [← r.length]; exact e
    · exact p.elim
  refine fng F S hlen fun cdv A outer s H vs Q E hr hgd h => ⟨_, PSs.nox (hb cdv A outer s H E hr hgd), ?_⟩
  obtain ⟨W, M, ds, m, r, p⟩ := h
  unfold mkFn at p
  split at p
  · rename_i el
    have ml : M.length = W.n := m.len
    refine ⟨W.enter, _, M, m.enter, sr_start (N := N) (r.mono enter_le), ?_⟩
    rw [el]
    rw [ml] at p
    show PostS _ _ H W.enter (body W.n _ M) _
    cases q : body W.n (ds.map some ++ List.replicate (N.length - ps.length) none) M with
    | nx s1 M1 =>
      rw [q] at p
      intro W' H' t x1 m1 sr1
      exact p _ _ (back_ext x1) (back_mr m x1 m1) .non .non
    | rt d M1 =>
      rw [q] at p
      intro W' H' v x1 m1 rv
      exact leave_ok m x1 m1 rv p
    | bk s1 M1 => rw [q] at p; exact p.elim
    | ct s1 M1 => rw [q] at p; exact p.elim
    | exc c d s1 M1 =>
      rw [q] at p
      intro W' H' t C dd v x1 m1 sr1 rd hg hx hd
      have p' : Post ⟨K, mg⟩ ZF [] H W (if below 0 d = true then R.exc c d (M1.take W.n) else .bad) fun d _ W' H' => ∀ v, RD ⟨K, mg⟩ H' W' d v → Q v H' := p
      split at p'
      · rename_i h0
        exact p' _ _ C dd v (back_ext x1) (back_mr m x1 m1) (rd.down (.back x1) (below_mono (Nat.zero_le _) _ h0)) hg hx (back_im x1 hd)
      · exact p'.elim
    | bad => rw [q] at p; exact p.elim
  · exact p.elim
theorem fn_no {f : Addr} {fd : FuncData} {ps : List Str} {k : Nat} {φ : Fn} (h : ∀ ds M, φ ds M = .bad) : FnG P w K mg base CX0 k f fd ps (spF ⟨K, mg⟩ φ) :=
  ⟨fun vs H Q E ⟨W, M, ds, m, r, p⟩ => by rw [h] at p; exact p.elim, fun A outer s H args us vs Q E hr hgd he hb hv ⟨W, M, ds, m, r, p⟩ => by rw [h] at p; exact p.elim⟩
end
section
variable {X : Cx} {Z : WX} {pos p : Pos} {e : Expr} {es : List Expr} {fa : EA}
/-- a call of an own def -/
theorem se_call {k : Nat} {f : Addr} {fd : FuncData} {ps : List Str} {x : Str} {φ : Fn} (F : FnG X.prog X.w X.K X.mg X.base CX0 k f fd ps (spF (gm X) φ)) (hr : Room k X.A) (hgd : X.A.guards = some []) (hm : X.mg x = some (.ref f)) (hk : PySem.W.keepIn X.K (.ref f) = true) (hb : Binds X.K fd ps [])
    (ha : SA X ZF (e :: es) fa) (hg : Gl X x := by rfl) (hdb : (x == ("__debug__" : Str)) = false := by decide) (he : starEach (e :: es) X.env = (false, eval e X.env) :: starEach es X.env := by rfl) (hpl : (backTo pos (starEach es X.env)).any (·.1) = false := by rfl) :
    SE X ZF (.Call (.Name x p) (e :: es) [] pos) (eCall φ fa) := by
  refine (pg_call F hr hgd hg hm hk hb pass0 ha hdb he hpl).weak fun σ H Q ⟨W, s, M, m, sr, po⟩ => ⟨W, s, M, m, sr, (Post.bind po).imp fun ds M1 W1 H1 x1 m1 p1 vs rvs => ?_⟩
  exact ⟨W1, M1, ds, m1, rvs, p1⟩
end
end LW
namespace LW
open PySem PySem.Spec PyProof.Rows L2
/-- a look at a comprehension's names -/
def bkC (N : List Str) (sc scope : Scope) (own : List (Str × Nat)) : Bool :=
  decide (scope.kind = .function) && scope.names.all (fun y => decide (scope.names.lookup y.1 = some y.2)) && own.all (fun p => decide (N[p.2]? = some p.1)) &&
  scope.names.all (fun y => !decide (y.2 = .free) || (decide (sc.names.lookup y.1 = some .cell) || decide (sc.names.lookup y.1 = some .free))) &&
  scope.names.all (fun y => !(decide (y.2 = .local) || decide (y.2 = .cell)) || (decide (y.1 ∈ own.map (·.1)) || decide (y.1 ∉ N)))
theorem bk_by {N : List Str} {sc scope : Scope} {own : List (Str × Nat)} (h : bkC N sc scope own = true) : BlkOk N sc scope own := by
  unfold bkC at h
  simp only [Bool.and_eq_true, decide_eq_true_eq, List.all_eq_true, Bool.or_eq_true, Bool.not_eq_true', decide_eq_false_iff_not, Bool.or_eq_false_iff] at h
  obtain ⟨⟨⟨⟨h1, h2⟩, h3⟩, h4⟩, h5⟩ := h
  refine ⟨h1, h2, h3, fun y hy e => ?_, fun y hy e => ?_⟩
  · rcases h4 y hy with z | z
    · exact absurd e z
    · exact z
  · rcases h5 y hy with z | z
    · exact absurd e (fun q => q.elim z.1 z.2)
    · exact z
theorem gl_nil : ∀ b ds s M r, gsNil b ds s M = some r → ds.length = 0 := fun b ds s M r h => by
  cases ds with
  | nil => rfl
  | cons d ds => cases h
theorem gl_cons {g : EG} {gs : EGs} {n : Nat} (q : ∀ b ds s M r, gs b ds s M = some r → ds.length = n) : ∀ b ds s M r, gsCons g gs b ds s M = some r → ds.length = n + 1 := fun b ds s M r h => by
  cases ds with
  | nil => cases h
  | cons d ds =>
    have h' : (g b d s M).bind (fun p => gs b ds p.1 p.2) = some r := h
    cases e : g b d s M with
    | none => rw [e] at h'; cases h'
    | some p =>
      rw [e] at h'
      rw [List.length_cons, q b ds p.1 p.2 r h']
theorem fn_by {P : Program} {w : World} {K : PySem.W.Frag} {mg : Str → Option Value} {base : Heap} {x qual : Str} {st : Stmt} {f : Addr} {fd : FuncData} {N ps : List Str} {k : Nat} (keep : Bool) (np nn : Nat) (body : SS) {φ : Fn} (hφ : φ = mkFn keep np nn body) (F : Fun K x qual st f fd) (S : FnScope N ps (defScope st)) (hp : ps.length = np) (hn : N.length = nn)
    (hb : ∀ (cdv : Value) (A : Around) (outer : List Env) (s : Shared) (H : Hp) (E : XK), Room k (A.deeper (envOfC qual (defScope st) s.heap.objs.size f cdv)) → (A.deeper (envOfC qual (defScope st) s.heap.objs.size f cdv)).guards = some [] → SB (cxOf CX0 P w K mg base N qual (defScope st) f cdv A outer s H E).nox ZF (defBody st) body) :
    FnG P w K mg base CX0 (k + 1) f fd ps (spF ⟨K, mg⟩ φ) := by
  subst hp hn hφ
  exact fn_ok keep F S hb
/-- an own def, ready to be called -/
def Cal (P : Program) (w : World) (K : PySem.W.Frag) (mg : Str → Option Value) (base : Heap) (k : Nat) (x : Str) (ps : List Str) (φ : Fn) : Prop :=
  ∃ (f : Addr) (fd : FuncData), FnG P w K mg base CX0 k f fd ps (spF ⟨K, mg⟩ φ) ∧ mg x = some (.ref f) ∧ PySem.W.keepIn K (.ref f) = true ∧ Binds K fd ps []
theorem Cal.mono {P : Program} {w : World} {K : PySem.W.Frag} {mg : Str → Option Value} {base : Heap} {j k : Nat} {x : Str} {ps : List Str} {φ : Fn} (c : Cal P w K mg base j x ps φ) (h : j ≤ k) : Cal P w K mg base k x ps φ := by
  obtain ⟨f, fd, a, b⟩ := c
  exact ⟨f, fd, a.mono h, b⟩
section
variable {X : Cx} {pos p : Pos} {e : Expr} {es : List Expr} {fa : EA}
theorem se_cal {k k' : Nat} {ps : List Str} {x : Str} {φ : Fn} (C : Cal X.prog X.w X.K X.mg X.base k x ps φ) (hr : Room k' X.A) (hgd : X.A.guards = some []) (ha : SA X ZF (e :: es) fa) (hk : k ≤ k' := by decide) (hg : Gl X x := by rfl) (hdb : (x == ("__debug__" : Str)) = false := by decide)
    (he : starEach (e :: es) X.env = (false, eval e X.env) :: starEach es X.env := by rfl) (hpl : (backTo pos (starEach es X.env)).any (·.1) = false := by rfl) :
    SE X ZF (.Call (.Name x p) (e :: es) [] pos) (eCall φ fa) := by
  obtain ⟨f, fd, F, hm, hkp, hb⟩ := C
  exact se_call F (hr.mono hk) hgd hm hkp hb ha hg hdb he hpl
theorem sg_nm (i : Nat) {x : Str} (hN : X.N.Nodup) (hi : X.N[i]? = some x := by rfl) (hx : Loc X.env.scope x := by first | exact Or.inl rfl | exact Or.inr rfl) (hf : X.fn x = true ∨ X.env.scope.names.lookup x = some .local := by first | exact .inl rfl | exact .inr rfl) :
    SG X (.Name x pos) (.nm i) := sg_name (pg_name hN hi hx hf)
end
section
variable {X : Cx} {Z : WX} {pos p : Pos} {tg a b c : Expr} {fs : EA}
end
def spLaw (K : PySem.W.Frag) : Sp := fun vs H Q _ => ∃ (a : Addr) (ns : List Int), vs = [.ref a] ∧ SqL K H a (ns.map V.int) ∧ ns.length ≤ 63 ∧ ∀ H', Q (.bl true) H'
theorem law_end {P : Program} {w : World} {K : PySem.W.Frag} {mg : Str → Option Value} {base : Heap} {k : Nat} {f : Addr} {fd : FuncData} {ps : List Str} {φ : Fn} (F : FnG P w K mg base CX0 k f fd ps (spF ⟨K, mg⟩ φ))
    (h : ∀ ns : List Int, ns.length ≤ 63 → ∃ M', φ [.scr ns] [] = .ok (.bl true) M') : FnG P w K mg base CX0 k f fd ps (spLaw K) := by
  refine F.imp fun vs H Q E ⟨a, ns, e, hS, hl, q⟩ => ?_
  subst e
  obtain ⟨M', e⟩ := h ns hl
  refine ⟨⟨fun _ => (0, .own 0), 0, 0, fun _ => 0, fun _ => False⟩, [], [.scr ns], ⟨rfl, fun h _ q => absurd q (Nat.not_lt_zero _), Nat.le_refl _, fun h q => absurd q (Nat.not_lt_zero _), fun a z => z.elim, fun h c e => by simp at e⟩, .cons (.scr ?_) .nil, ?_⟩
  · rcases hS with z | z
    · exact .inl ⟨z, fun y => y.elim id fun ⟨k, hk, _⟩ => absurd hk (Nat.not_lt_zero _)⟩
    · exact .inr z
  · rw [e]
    intro W' H' x m v rv
    cases rv
    exact q H'
end LW
namespace LW
open PySem PySem.Spec PyProof.Rows L2
section
variable {X : Cx} {Z : WX} {pos p : Pos} {a b c : Expr} {f g h : ES} {fs : EA} {k : Nat}
theorem se_gstr {x v : Str} (hm : ∃ t, X.mg x = some (.str v t)) (hg : Gl X x := by rfl) (hd : (x == ("__debug__" : Str)) = false := by decide) : SE X Z (.Name x pos) (eC (.str v)) := by
  obtain ⟨t, hm⟩ := hm
  exact se_const (pe_glob (v := .str v) hg hm ⟨t, rfl⟩ hd) fun _ _ => .str v
def vOf : D → Option V
  | .non => some .non
  | .bl k => some (.bl k)
  | .int i => some (.int i)
  | .str x => some (.str x)
  | _ => none
def vsOf : List D → Option (List V)
  | [] => some []
  | d :: ds => match vOf d, vsOf ds with
    | some v, some vs => some (v :: vs)
    | _, _ => none
theorem vOf_read {G : Gm} {H : Hp} {W : Wd} {d : D} {v w : V} (r : RD G H W d v) (e : vOf d = some w) : v = w ∧ flatV w = true := by
  cases r <;> first | (cases e; exact ⟨rfl, rfl⟩) | (cases e)
theorem vsOf_read {G : Gm} {H : Hp} {W : Wd} : ∀ {ds : List D} {vs ws : List V}, RDs G H W ds vs → vsOf ds = some ws → vs = ws ∧ ws.all flatV = true
  | _, _, ws, .nil, e => by cases e; exact ⟨rfl, rfl⟩
  | d :: ds, _, ws, .cons r rr, e => by
    unfold vsOf at e
    split at e
    · rename_i v vs h1 h2
      cases e
      obtain ⟨rfl, f1⟩ := vOf_read r h1
      obtain ⟨rfl, f2⟩ := vsOf_read rr h2
      exact ⟨rfl, by rw [List.all_cons, f1, f2]; rfl⟩
    · cases e
def oInB (neg : Bool) : D → D → Mem → R D := fun x y M => match vOf x, (seqOf M y).bind vsOf with
  | some v, some vs => .ok (.bl (if neg then !inV v vs else inV v vs)) M
  | _, _ => .bad
theorem bv_in {G : Gm} {neg : Bool} : BinV G (rIn G.K neg) (oInB neg) := by
  intro x y M W H v w Z t Q m rx ry po
  unfold oInB at po
  split at po
  · rename_i u us h1 h2
    obtain ⟨rfl, f1⟩ := vOf_read rx h1
    cases q : seqOf M y with
    | none => rw [q] at h2; cases h2
    | some ys =>
      rw [q] at h2
      obtain ⟨a, vs, rfl, hq, r⟩ := seq_read m q ry
      obtain ⟨rfl, f2⟩ := vsOf_read r h2
      exact ⟨a, vs, rfl, hq, f1, f2, Post.here po m _ (.bl _)⟩
  · exact po.elim
theorem st_in (ha : SE X Z a f) (hb : SE X Z b g) (hm : behindInMarks .In b = false := by first | exact nomark _ | rfl) : ST X Z (.Compare a [.In] [b] pos) (tVal (eBin (oInB false) f g)) := st_cmp op_in_seq bv_in ha hb hm
end
end LW
namespace LW
open PySem PySem.Spec PyProof.Rows L2
structure Gtp (K : PySem.W.Frag) (mg : Str → Option Value) (x : Str) (ss : List Str) : Prop where
  ex : ∃ a : Addr, mg x = some (.ref a) ∧ KT K a (ss.map V.str)
section
variable {X : Cx} {Z : WX} {pos : Pos} {x : Str} {ss : List Str}
end
end LW
namespace LW
open PySem PySem.Spec PyProof.Rows L2
section
variable {X : Cx} {Z : WX} {pos : Pos} {a b : Expr} {f g : ES} {k : Nat}
end
end LW
namespace LW
open PySem PySem.Spec PyProof.Rows L2
structure Gd2 (w : World) (K : PySem.W.Frag) (mg : Str → Option Value) (x k1 a1 b1 k2 a2 b2 : Str) : Prop where
  ex : ∃ (d : Addr) (es : Array DictEntry) (n : Nat) (t1 t2 : Addr), mg x = some (.ref d) ∧ KDict K w d es n ∧ (∀ z, PySem.W.nsIn K d z = some (if z = k1 then some (.ref t1) else if z = k2 then some (.ref t2) else none)) ∧ KT K t1 [.str a1, .str b1] ∧ KT K t2 [.str a2, .str b2]
section
variable {X : Cx} {Z : WX} {pos p : Pos} {a : Expr} {f : ES} {x k1 a1 b1 k2 a2 b2 : Str}
end
end LW
namespace LW
open PySem PySem.Spec PyProof.Rows L2
def eDix (k1 k2 : Str) (f1 f2 g : ES) : ES := fun b s M => (f1 b s M).nox.bind fun x M1 => (f2 b s M1).nox.bind fun y M2 => (g b s M2).bind fun z M3 => match z with
  | .str k => if k = k1 then .ok x M3 else if k = k2 then .ok y M3 else .bad
  | _ => .bad
/-- what holds while p is avoided -/
structure AvAt (G : Gm) (H1 : Hp) (W1 : Wd) (p : Addr) (W : Wd) (H : Hp) (M : Mem) : Prop where
  x : Ext H1 W1 H W
  m : MR G H (W.avo p) M
  np : ¬ W.im p
theorem AvAt.begin {G : Gm} {H : Hp} {W : Wd} {M : Mem} {p : Addr} {o : HO} (m : MR G H W M) (hp : H p = none) (nt : NoTup o := by intro _ h; cases h) : AvAt G H W p W (upd H p o) M :=
  ⟨m.xnew hp, m.avo hp nt, m.fresh hp⟩
theorem AvAt.step {G : Gm} {H1 H H' : Hp} {W1 W W' : Wd} {p : Addr} {M M' : Mem} (a : AvAt G H1 W1 p W H M) (x : Ext H (W.avo p) H' W') (m : MR G H' W' M') : ∃ W2, W' = W2.avo p ∧ AvAt G H1 W1 p W2 H' M' := by
  have e : ({ W' with av := W.av } : Wd).avo p = W' := avo_eta x.av
  refine ⟨{ W' with av := W.av }, e.symm, ?_, ?_, ?_⟩
  · have k : Ext H W H' { W' with av := W.av } := by
      refine ⟨⟨x.n, x.pe, fun b o h n => ?_⟩, x.b, x.lim, rfl, fun b h => x.avk b (.inr h)⟩
      by_cases hb : b = p
      · subst hb
        refine ⟨by rw [x.avk b (.inl rfl)]; exact h, ?_⟩
        rintro (z | ⟨k, hk, ek⟩)
        · exact n (.inl z)
        · exact (m.avt b (by rw [x.av]; exact .inl rfl)).2 k hk ek
      · have q := x.keep b o h fun z => (Wd.avo_im.mp z).elim hb n
        refine ⟨q.1, fun z => q.2 ?_⟩
        rw [← e]
        exact Wd.avo_im.mpr (.inr z)
    exact a.x.trans k
  · rw [e]; exact m
  · rintro (z | ⟨k, hk, ek⟩)
    · exact a.np (.inl z)
    · exact (m.avt p (by rw [x.av]; exact .inl rfl)).2 k hk ek
/-- the avoided one gets its contents -/
theorem AvAt.fill {G : Gm} {H1 H : Hp} {W1 W : Wd} {p : Addr} {M : Mem} {o : HO} (a : AvAt G H1 W1 p W H M) (h0 : H1 p = none) (nt : NoTup o := by intro _ h; cases h) : Ext H1 W1 (upd H p o) W ∧ MR G (upd H p o) W M ∧ Le H (W.avo p) (upd H p o) W := by
  obtain ⟨x, m⟩ := poke (o := o) a.m nt
  refine ⟨⟨⟨a.x.n, a.x.pe, fun b o h n => ?_⟩, a.x.b, a.x.lim, a.x.av, fun b h => ?_⟩, m.unavo, x.trans .unavo⟩
  · have q := a.x.keep b o h n
    exact ⟨by rw [upd_ne (ne_of_none h h0)]; exact q.1, q.2⟩
  · have hb : b ≠ p := fun z => a.np (by rw [← z]; exact .inl (by rw [a.x.av]; exact h))
    rw [upd_ne hb]
    exact a.x.avk b h
theorem nox_some {α β : Type} {r : R α} {k : α → Mem → R β} {G : Gm} {Z : WX} {t : L2.St} {H : Hp} {W : Wd} {Q : β → Mem → Wd → Hp → Prop} (p : Post G Z t H W (r.nox.bind k) Q) : ∃ a M, r = .ok a M ∧ Post G Z t H W (k a M) Q := by
  cases r with
  | ok a M => exact ⟨a, M, rfl, p⟩
  | exc c d M => exact p.elim
  | bad => exact p.elim
section
variable {X : Cx} {Z : WX} {pos pd p1 p2 : Pos} {e1 e2 i : Expr} {f1 f2 g : ES} {k : Nat} {j1 j2 : Nat} {k1 k2 : Str}
theorem se_dix (hr : Room k X.A) (h1 : SE X ZF e1 f1) (h2 : SE X ZF e2 f2) (hi : SE X Z i g) (hk : (k1 == k2) = false := by decide) (hs : NoSl i := by intro _ _; rfl) :
    SE X Z (.Subscript (.Dict [some (.Constant (.str k1) j1 p1), some (.Constant (.str k2) j2 p2)] [e1, e2] pd) i pos) (eDix k1 k2 f1 f2 g) := by
  have hu : X.A.units + 1 < cLine := by have := hr.un; omega
  have hne : k1 ≠ k2 := by simpa using hk
  refine (pe_dget hu (pe_disp (pps_cons pe_str h1 (pps_cons pe_str h2 pps_nil)) rfl rfl (by simp) (by simp)) hi hs).weak fun σ H Q ⟨W, s, M, m, sr, po⟩ => ?_
  intro p0 hp0
  obtain ⟨x, M1, q1, po⟩ := nox_some po
  obtain ⟨y, M2, q2, po⟩ := nox_some po
  have a0 : AvAt (gm X) H W p0 W (upd H p0 (.dK [])) M := .begin m hp0
  show liftE (gm X) ZF f1 σ (upd H p0 (.dK [])) _
  refine ⟨W.avo p0, s, M, a0.m, sr.mono (m.avo_new hp0), ?_⟩
  show Post (gm X) ZF σ _ _ (f1 W.b s M) _
  rw [q1]
  intro W1 H1 x1 m1 v rv
  obtain ⟨W1', rfl, a1⟩ := a0.step x1 m1
  have b1 : W1'.b = W.b := a1.x.b
  show liftE (gm X) ZF f2 σ H1 _
  refine ⟨W1'.avo p0, s, M1, a1.m, (sr.mono (m.avo_new hp0)).mono x1.toLe, ?_⟩
  show Post (gm X) ZF σ _ _ (f2 W1'.b s M1) _
  rw [b1, q2]
  intro W2 H2 x2 m2 w rw'
  obtain ⟨W2', rfl, a2⟩ := a1.step x2 m2
  have e0 : H2 p0 = some (.dK []) := by
    rw [x2.avk p0 (.inl rfl), x1.avk p0 (.inl rfl)]
    exact upd_same
  refine ⟨e0, [(.inr k1, v), (.inr k2, w)], rfl, by simp, ?_⟩
  obtain ⟨x3, m3, le3⟩ := a2.fill (o := .dK (mergeK [] [((.inr k1 : Key), v), (.inr k2, w)])) hp0
  refine ⟨W2', s, M2, m3, sr.mono x3.toLe, ?_⟩
  rw [a2.x.b]
  refine (Post.bind (po.ext x3)).imp fun z M3 W4 H4 x4 m4 p4 u ru => ?_
  have np := a2.np
  have k4 := x4.keep p0 _ upd_same np
  split at p4
  · rename_i kz
    cases ru
    split at p4
    · rename_i ek
      subst ek
      refine ⟨p0, v, rfl, ?_, ?_⟩
      · have := DGet.k (k := .inr kz) k4.1
        have e : valV (mergeK [] [((.inr kz : Key), v), (.inr k2, w)]) (.inr kz) = some v := by
          show valV (putK (putK [] (Sum.inr kz : Key) v) (Sum.inr k2) w) _ = _
          have n : ¬ ((.inr kz : Key) = .inr k2) := fun h => hne (Sum.inr.inj h)
          rw [valV_put, if_neg n, valV_put, if_pos rfl]
        rw [e] at this
        exact this
      · exact Post.here p4 m4 v ((((rv.mono x2.toLe).mono le3).mono x4.toLe))
    · rename_i nk
      split at p4
      · rename_i ek
        subst ek
        refine ⟨p0, w, rfl, ?_, ?_⟩
        · have := DGet.k (k := .inr kz) k4.1
          have e : valV (mergeK [] [((.inr k1 : Key), v), (.inr kz, w)]) (.inr kz) = some w := by
            show valV (putK (putK [] (Sum.inr k1 : Key) v) (Sum.inr kz) w) _ = _
            rw [valV_put, if_pos rfl]
          rw [e] at this
          exact this
        · exact Post.here p4 m4 w ((rw'.mono le3).mono x4.toLe)
      · exact p4.elim
  · exact p4.elim
end
section
variable {X : Cx} {Z : WX} {pos : Pos} {a b : Expr} {f g : ES}
end
section
variable {X : Cx} {Z : WX} {p pos tpos : Pos} {a b c : Expr} {fs : EA} {elts : List Expr} {kk : Nat}
end
section
variable {X : Cx} {Z : WX} {p pos : Pos} {a : Expr} {fs : EA} {k : Nat}
end
end LW
namespace LW
open PySem PySem.Spec PyProof.Rows L2
section
variable {X : Cx} {Z : WX} {p pos : Pos} {a : Expr} {fs : EA} {k : Nat}
end
end LW
namespace LW
open PySem PySem.Spec PyProof.Rows L2
section
variable {X : Cx} {Z : WX} {p pos : Pos} {a b : Expr} {f g : ES} {fs : EA} {k : Nat}
end
end LW
namespace LW
open PySem L2
def RS.sq (r : RS) (k : Slots → Mem → RS) : RS := match r with
  | .nx s M => k s M
  | r => r
@[simp] theorem sq_nx (s : Slots) (M : Mem) (k : Slots → Mem → RS) : (RS.nx s M).sq k = k s M := id rfl
@[simp] theorem sq_rt (d : D) (M : Mem) (k : Slots → Mem → RS) : (RS.rt d M).sq k = .rt d M := id rfl
@[simp] theorem sq_bk (s : Slots) (M : Mem) (k : Slots → Mem → RS) : (RS.bk s M).sq k = .bk s M := id rfl
@[simp] theorem sq_ct (s : Slots) (M : Mem) (k : Slots → Mem → RS) : (RS.ct s M).sq k = .ct s M := id rfl
/-- of a fit size -/
def lim {α : Type} (n : Nat) (r : R α) : R α := if n ≤ 1000000 then r else .bad
@[simp] theorem lim_ok {α : Type} {n : Nat} {r : R α} (h : n ≤ 1000000) : lim n r = r := by
  unfold lim
  rw [if_pos h]
section
variable {b : Nat} {s : Slots} {M : Mem} {f g h : ES} {fa : EA} {c u : ET} {o o' : D → D → Mem → R D} {t w : SS}
@[simp] theorem r_var (i : Nat) : eVar i b s M = (match s[i]? with | some (some d) => .ok d M | _ => .bad) := id rfl
@[simp] theorem r_c (d : D) : eC d b s M = .ok d M := id rfl
@[simp] theorem r_bin : eBin o f g b s M = (f b s M).bind fun x M1 => (g b s M1).bind fun y M2 => o x y M2 := id rfl
@[simp] theorem r_un (o : D → Mem → R D) : eUn o f b s M = (f b s M).bind fun x M1 => o x M1 := id rfl
@[simp] theorem r_anil : aNil b s M = .ok [] M := id rfl
@[simp] theorem r_acons : aCons f fa b s M = (f b s M).bind fun x M1 => (fa b s M1).bind fun xs M2 => .ok (x :: xs) M2 := id rfl
@[simp] theorem r_tup : eTup fa b s M = (fa b s M).bind fun xs M1 => lim xs.length (.ok (.tup xs) M1) := id rfl
@[simp] theorem r_nlst : nLst fa b s M = (fa b s M).bind fun xs M1 => lim xs.length (.ok xs M1) := id rfl
@[simp] theorem r_frz (f : EN) : eFrz f b s M = (f b s M).bind fun xs M1 => .ok (.lst xs) M1 := id rfl
@[simp] theorem r_thw (f : EN) : eThw f b s M = (f b s M).bind fun xs M1 => .ok (.ref M1.length) (M1 ++ [.lst xs]) := id rfl
@[simp] theorem r_call (φ : Fn) : eCall φ fa b s M = (fa b s M).bind fun ds M1 => φ ds M1 := id rfl
@[simp] theorem r_fn (φ : List D → Mem → R D) : eFn φ fa b s M = (fa b s M).bind fun ds M1 => φ ds M1 := id rfl
@[simp] theorem r_if : eIf c f g b s M = (c b s M).bind fun k M1 => if k = true then f b s M1 else g b s M1 := id rfl
@[simp] theorem r_and : eAnd f g b s M = (f b s M).bind fun x M1 => match x with | .bl k => if k = true then g b s M1 else .ok (.bl false) M1 | _ => .bad := id rfl
@[simp] theorem r_or : eOr f g b s M = (f b s M).bind fun x M1 => match x with | .bl k => if k = true then .ok (.bl true) M1 else g b s M1 | _ => .bad := id rfl
@[simp] theorem r_chain : eChain o o' f g h b s M = (f b s M).bind fun x M1 => (g b s M1).bind fun y M2 => (o x y M2).bind fun z M3 => match z with
  | .bl k => if k = true then (h b s M3).bind fun w M4 => o' y w M4 else .ok (.bl false) M3
  | _ => .bad := id rfl
@[simp] theorem r_tval : tVal f b s M = (f b s M).bind fun x M1 => match x with | .bl k => .ok k M1 | _ => .bad := id rfl
@[simp] theorem r_tand : tAnd c u b s M = (c b s M).bind fun k M1 => if k = true then u b s M1 else .ok false M1 := id rfl
@[simp] theorem r_tor : tOr c u b s M = (c b s M).bind fun k M1 => if k = true then .ok true M1 else u b s M1 := id rfl
@[simp] theorem r_tnot : tNot c b s M = (c b s M).bind fun k M1 => .ok (!k) M1 := id rfl
@[simp] theorem r_ttrue : tTrue b s M = .ok true M := id rfl
@[simp] theorem r_not (k : Bool) : oNot (.bl k) M = .ok (.bl (!k)) M := id rfl
@[simp] theorem r_addI (i j : Int) : oAdd (.int i) (.int j) M = .ok (.int (i + j)) M := id rfl
@[simp] theorem r_addI' (i j : Int) : oAddI (.int i) (.int j) M = .ok (.int (i + j)) M := id rfl
@[simp] theorem r_subI (i j : Int) : oSub (.int i) (.int j) M = .ok (.int (i - j)) M := id rfl
@[simp] theorem r_lt (i j : Int) : oLt (.int i) (.int j) M = .ok (.bl (decide (i < j))) M := id rfl
@[simp] theorem r_le (i j : Int) : oLe (.int i) (.int j) M = .ok (.bl (decide (i ≤ j))) M := id rfl
@[simp] theorem r_gt (i j : Int) : oGt (.int i) (.int j) M = .ok (.bl (decide (j < i))) M := id rfl
@[simp] theorem r_ge (i j : Int) : oGe (.int i) (.int j) M = .ok (.bl (decide (j ≤ i))) M := id rfl
@[simp] theorem r_neg (i : Int) : oNeg (.int i) M = .ok (.int (-i)) M := id rfl
@[simp] theorem r_isN (x : D) : oIsN x .non M = .ok (.bl (isNon x)) M := id rfl
@[simp] theorem r_isntN (x : D) : oIsntN x .non M = .ok (.bl (!isNon x)) M := id rfl
theorem r_mul {i j : Int} (h : mulOk i j = true) : oMul (.int i) (.int j) M = .ok (.int (i * j)) M := by
  show (if mulOk i j then _ else _) = _
  rw [if_pos h]
theorem r_mod {i j : Int} (h : 0 < j) : oMod (.int i) (.int j) M = .ok (.int (i % j)) M := by
  show (if 0 < j then _ else _) = _
  rw [if_pos h]
theorem log_small {j : Int} (h : -(2 ^ 200) < j) (h2 : j < 2 ^ 200) : j.natAbs.log2 < 8000 := by
  have h3 : j.natAbs < 2 ^ 200 := by omega
  refine Nat.lt_of_lt_of_le ?_ (by decide : 200 ≤ 8000)
  by_cases z : j.natAbs = 0
  · rw [z]; decide
  · exact (Nat.log2_lt z).mpr h3
theorem r_div {i j : Int} (h : 0 < j) (h2 : j < 2 ^ 200) : oDiv (.int i) (.int j) M = .ok (.int (i / j)) M := by
  have h4 := log_small (j := j) (by omega) h2
  show (if 0 < j ∧ j.natAbs.log2 < 8000 then _ else _) = _
  rw [if_pos ⟨h, h4⟩]
theorem r_divmod {i j : Int} (h : 0 < j) (h2 : j < 2 ^ 200) : bDivmod [.int i, .int j] M = .ok (.tup [.int (i / j), .int (i % j)]) M := by
  have h4 := log_small (j := j) (by omega) h2
  show (if 0 < j ∧ j.natAbs.log2 < 8000 then _ else _) = _
  rw [if_pos ⟨h, h4⟩]
theorem mul_l {i j : Int} (h1 : -(2 ^ 64) < i) (h2 : i < 2 ^ 64) : mulOk i j = true := by
  unfold mulOk small
  rw [decide_eq_true ⟨h1, h2⟩]
  rfl
theorem mul_r {i j : Int} (h1 : -(2 ^ 64) < j) (h2 : j < 2 ^ 64) : mulOk i j = true := by
  unfold mulOk small
  rw [decide_eq_true (p := -(2 ^ 64) < j ∧ j < 2 ^ 64) ⟨h1, h2⟩]
  simp
@[simp] theorem r_cut (lo hi : EP') : eCut f lo hi b s M = (f b s M).bind fun x M1 => (lo b s M1).bind fun l M2 => (hi b s M2).bind fun h M3 => oCut x l h M3 := id rfl
@[simp] theorem r_pno : pNo b s M = .ok none M := id rfl
@[simp] theorem r_pof : pOf f b s M = (f b s M).bind fun x M1 => match x with | .int i => .ok (some i) M1 | _ => .bad := id rfl
@[simp] theorem r_nlist : nListOf fa b s M = (fa b s M).bind fun xs M1 => match xs with
  | [x] => match seqOf M1 x with
    | some ys => .ok ys M1
    | none => .bad
  | _ => .bad := id rfl
@[simp] theorem r_nx : sNx b s M = .nx s M := id rfl
@[simp] theorem r_seq : sSeq t w b s M = (t b s M).sq (w b) := id rfl
@[simp] theorem r_expr : sExpr f b s M = (f b s M).toS s fun _ M1 => .nx s M1 := id rfl
@[simp] theorem r_ret : sRet f b s M = (f b s M).toS s fun d M1 => .rt d M1 := id rfl
@[simp] theorem r_retN : sRetN b s M = .rt .non M := id rfl
@[simp] theorem r_brk : sBrk b s M = .bk s M := id rfl
@[simp] theorem r_cnt : sCnt b s M = .ct s M := id rfl
@[simp] theorem r_set (i : Nat) : sSet i f b s M = (f b s M).toS s fun d M1 => .nx (s.set i (some d)) M1 := id rfl
@[simp] theorem r_sif : sIf c t w b s M = (c b s M).toS s fun k M1 => if k = true then t b s M1 else w b s M1 := id rfl
@[simp] theorem r_asg (gg : EG) : sAsg f gg b s M = (f b s M).toS s fun d M1 => match gg b d s M1 with | some (s2, M2) => .nx s2 M2 | none => .bad := id rfl
@[simp] theorem r_par (is : List Nat) : sPar is fa b s M = (fa b s M).toS s fun ds M1 => match setAll is ds s with | some s2 => .nx s2 M1 | none => .bad := id rfl
@[simp] theorem r_for (it : EI) (tg : Tg) : sFor it tg t b s M = (it b s M).toS s fun p M1 => forL b p.2 M1 tg t p.1 s M1 := id rfl
@[simp] theorem r_meth (op : Nat → D → List D → Mem → R D) : eMethL op f fa b s M = (f b s M).bind fun x M1 => match lstOf M1 x with | some _ => (fa b s M1).bind fun ds M2 => op b x ds M2 | none => .bad := id rfl
end
section
variable {M : Mem} {s : Slots} {n : Nat}
@[simp] theorem r_setAll0 : setAll [] [] s = some s := id rfl
@[simp] theorem r_setAll (i : Nat) (is : List Nat) (d : D) (ds : List D) : setAll (i :: is) (d :: ds) s = setAll is ds (s.set i (some d)) := id rfl
@[simp] theorem r_abs (i : Int) : bAbs [.int i] M = .ok (.int (if i < 0 then -i else i)) M := id rfl
@[simp] theorem r_intI (i : Int) : bInt [.int i] M = .ok (.int i) M := id rfl
@[simp] theorem r_intB (k : Bool) : bInt [.bl k] M = .ok (.int (if k then 1 else 0)) M := id rfl
@[simp] theorem n_non : isNon .non = true := id rfl
@[simp] theorem n_bl (k : Bool) : isNon (.bl k) = false := id rfl
@[simp] theorem n_int (k : Int) : isNon (.int k) = false := id rfl
@[simp] theorem n_str (k : Str) : isNon (.str k) = false := id rfl
@[simp] theorem n_tup (k : List D) : isNon (.tup k) = false := id rfl
@[simp] theorem n_lst (k : List D) : isNon (.lst k) = false := id rfl
@[simp] theorem n_ref (k : Nat) : isNon (.ref k) = false := id rfl
@[simp] theorem g_ref (k : Nat) : gdOf (.ref k) = [k] := id rfl
@[simp] theorem g_tup (k : List D) : gdOf (.tup k) = [] := id rfl
@[simp] theorem g_lst (k : List D) : gdOf (.lst k) = [] := id rfl
@[simp] theorem g_scr (k : List Int) : gdOf (.scr k) = [] := id rfl
@[simp] theorem t_nm (i : Nat) (d : D) : bindT M (.nm i) d s = some (s.set i (some d)) := by unfold bindT; rfl
@[simp] theorem t_tp (ts : List Tg) (d : D) : bindT M (.tp ts) d s = (match seqOf M d with | some xs => bindTs M ts xs s | none => none) := by
  (conv => lhs; unfold bindT) <;> rfl
@[simp] theorem t_nil : bindTs M [] [] s = some s := by unfold bindTs; rfl
@[simp] theorem t_cons (t : Tg) (ts : List Tg) (d : D) (ds : List D) : bindTs M (t :: ts) (d :: ds) s = (bindT M t d s).bind fun s1 => bindTs M ts ds s1 := by
  (conv => lhs; unfold bindTs) <;> rfl
@[simp] theorem w_non : below n .non = true := by simp [below]
@[simp] theorem w_bl (k : Bool) : below n (.bl k) = true := by simp [below]
@[simp] theorem w_int (k : Int) : below n (.int k) = true := by simp [below]
@[simp] theorem w_str (k : Str) : below n (.str k) = true := by simp [below]
@[simp] theorem w_scr (k : List Int) : below n (.scr k) = true := by simp [below]
@[simp] theorem w_tup (k : List D) : below n (.tup k) = belows n k := by simp [below]
@[simp] theorem w_lst (k : List D) : below n (.lst k) = belows n k := by simp [below]
@[simp] theorem w_ref (k : Nat) : below n (.ref k) = decide (k < n) := by simp [below]
@[simp] theorem w_nil : belows n [] = true := by simp [belows]
@[simp] theorem w_cons (d : D) (ds : List D) : belows n (d :: ds) = (below n d && belows n ds) := by
  (conv => lhs; unfold belows) <;> rfl
end
@[simp] theorem q_tup (M : Mem) (xs : List D) : seqOf M (.tup xs) = some xs := id rfl
@[simp] theorem q_lst (M : Mem) (xs : List D) : seqOf M (.lst xs) = some xs := id rfl
@[simp] theorem q_scr (M : Mem) (ns : List Int) : seqOf M (.scr ns) = some (ns.map .int) := id rfl
@[simp] theorem q_ref (M : Mem) (h : Nat) : seqOf M (.ref h) = (match M[h]? with | some (.lst xs) => some xs | _ => none) := id rfl
@[simp] theorem l_lst (M : Mem) (xs : List D) : lstOf M (.lst xs) = some xs := id rfl
@[simp] theorem l_ref (M : Mem) (h : Nat) : lstOf M (.ref h) = (match M[h]? with | some (.lst xs) => some xs | _ => none) := id rfl
@[simp] theorem ix0 {α : Type} (x : α) (xs : List α) : atI (x :: xs) 0 = some x := by simp [atI, ixN]
@[simp] theorem ix1 {α : Type} (x y : α) (xs : List α) : atI (x :: y :: xs) 1 = some y := by
  unfold atI ixN
  rw [if_pos (by decide), if_pos (by simp; omega)]
  rfl
@[simp] theorem ix2 {α : Type} (x y z : α) (xs : List α) : atI (x :: y :: z :: xs) 2 = some z := by
  unfold atI ixN
  rw [if_pos (by decide), if_pos (by simp; omega)]
  rfl
theorem ix_nat {α : Type} {xs : List α} {i : Int} (h0 : 0 ≤ i) (h1 : i < xs.length) : atI xs i = some (xs[i.toNat]'(by omega)) := by
  unfold atI ixN
  rw [if_pos h0, if_pos h1]
  simp
@[simp] theorem r_ix (x : D) (i : Int) (M : Mem) : oIx x (.int i) M = (match seqOf M x with | some xs => (match atI xs i with | some d => .ok d M | none => .bad) | none => .bad) := id rfl
@[simp] theorem r_pow7 (M : Mem) : oPow (.int 10) (.int 7) M = .ok (.int 10000000) M := id rfl
@[simp] theorem r_pow18 (M : Mem) : oPow (.int 10) (.int 18) M = .ok (.int 1000000000000000000) M := id rfl
@[simp] theorem r_pow6 (M : Mem) : oPow (.int 10) (.int 6) M = .ok (.int 1000000) M := id rfl
@[simp] theorem r_pow15 (M : Mem) : oPow (.int 10) (.int 15) M = .ok (.int 1000000000000000) M := id rfl
/-- o[i] = .. -/
theorem r_setIx {b h : Nat} {xs : List D} {i : Int} {v : D} {M : Mem} (hc : M[h]? = some (.lst xs)) (h0 : 0 ≤ i) (h1 : i < xs.length) (hb : b ≤ h ∨ below 0 v = true) : setIx b (.ref h) (.int i) v M = some (M.set h (.lst (xs.set i.toNat v))) := by
  unfold setIx
  simp only [hc]
  have : ixN xs.length i = some i.toNat := by
    unfold ixN
    rw [if_pos h0, if_pos h1]
  simp only [this]
  rw [if_pos hb]
/-- a def that hands back plain data -/
theorem mk_rt {np nn : Nat} {body : SS} {ds : List D} {M M' : Mem} {d : D} (hl : ds.length = np) (hb : body M.length (ds.map some ++ List.replicate (nn - np) none) M = .rt d M') (hd : below M.length d = true) : mkFn false np nn body ds M = .ok d (M'.take M.length) := by
  unfold mkFn
  rw [if_pos hl, hb]
  unfold runFn leave
  simp [hd]
/-- one that hands back a list of its own -/
theorem mk_frz {np nn : Nat} {body : SS} {ds xs : List D} {M M' : Mem} {h : Nat} (hl : ds.length = np) (hb : body M.length (ds.map some ++ List.replicate (nn - np) none) M = .rt (.ref h) M') (hh : M.length ≤ h) (hc : M'[h]? = some (.lst xs)) (hx : ∀ x ∈ xs, ∃ i, x = .int i) :
    mkFn false np nn body ds M = .ok (.lst xs) (M'.take M.length) := by
  unfold mkFn
  rw [if_pos hl, hb]
  have e : ∀ k, xs.mapM (frz M' M.length (k + 1)) = some xs := fun k => by
    have key : ∀ ys : List D, (∀ x ∈ ys, ∃ i, x = .int i) → ys.mapM (frz M' M.length (k + 1)) = some ys := by
      intro ys
      induction ys with
      | nil => intro _; rfl
      | cons y ys ih =>
        intro hy
        obtain ⟨i, rfl⟩ := hy y (by simp)
        rw [List.mapM_cons, ih fun x hx => hy x (by simp [hx])]
        rfl
    exact key xs hx
  unfold runFn leave
  have nb : below M.length (.ref h) = false := by simp [below]; omega
  simp only [nb, Bool.false_eq_true, if_false]
  unfold frz
  rw [if_neg (by omega)]
  simp only [hc, e]
  rfl
end LW
namespace LW
open PySem L2
noncomputable def b_law_box : SS := sSeq (sSet 2 (eIf (tVal (eBin oLt (eVar 1) (eFn bLen (aCons (eVar 0) (aNil))))) (eBin oIx (eVar 0) (eVar 1)) (eC (.int 0))))
  (sRet (eThw (nLst (aCons (eBin oMul (eFn bAbs (aCons (eVar 2) (aNil))) (eFn bInt (aCons (eBin oGe (eFn bAbs (aCons (eVar 2) (aNil))) (eBin oPow (eC (.int 10)) (eC (.int 18)))) (aNil)))) (aCons (eBin oMod (eBin oMul (eBin oAdd (eBin oAdd (eBin oMod (eVar 2) (eC (.int 2147483629))) (eBin oMul (eC (.int 15485863)) (eVar 1))) (eC (.int 43))) (eC (.int 48271))) (eC (.int 2147483647))) (aCons (eC (.int 0)) (aNil)))))))
noncomputable def f_law_box : Fn := mkFn true 2 3 b_law_box
noncomputable def b_law_take (self : Fn) : SS := sSeq (sIf (tVal (eBin oGt (eBin oIx (eVar 0) (eC (.int 0))) (eC (.int 0)))) (sSeq (sAsg (eFn bDivmod (aCons (eBin oIx (eVar 0) (eC (.int 0))) (aCons (eVar 1) (aNil)))) (gTup (gsCons (gIx (eVar 0) (eC (.int 0))) (gsCons (gT (.nm 2)) (gsNil)))))
  (sRet (eVar 2))) (sNx))
  (sSeq (sIf (tVal (eBin oGt (eVar 1) (eBin oPow (eC (.int 10)) (eC (.int 7))))) (sRet (eBin oMod (eBin oAdd (eCall self (aCons (eVar 0) (aCons (eBin oPow (eC (.int 10)) (eC (.int 7))) (aNil)))) (eBin oMul (eBin oPow (eC (.int 10)) (eC (.int 7))) (eCall self (aCons (eVar 0) (aCons (eBin oAdd (eBin oDiv (eBin oSub (eVar 1) (eC (.int 1))) (eBin oPow (eC (.int 10)) (eC (.int 7)))) (eC (.int 1))) (aNil)))))) (eVar 1))) (sNx))
  (sSeq (sAsg (eBin oAdd (eBin oIx (eVar 0) (eC (.int 2))) (eC (.int 1))) (gIx (eVar 0) (eC (.int 2))))
  (sSeq (sSet 3 (eBin oAdd (eC (.int 69621)) (eBin oMul (eBin oIx (eVar 0) (eC (.int 2))) (eBin oIx (eVar 0) (eC (.int 2))))))
  (sSeq (sSet 4 (eBin oMod (eBin oMul (eBin oAdd (eBin oIx (eVar 0) (eC (.int 1))) (eBin oMul (eC (.int 39373)) (eBin oIx (eVar 0) (eC (.int 2))))) (eVar 3)) (eC (.int 2147483587))))
  (sSeq (sSet 5 (eBin oMod (eBin oAdd (eBin oMul (eVar 4) (eBin oAdd (eBin oMod (eVar 4) (eC (.int 30011))) (eC (.int 5)))) (eBin oIx (eVar 0) (eC (.int 2)))) (eC (.int 2147483563))))
  (sRet (eBin oMod (eBin oDiv (eBin oMod (eBin oMul (eVar 5) (eBin oAdd (eBin oMod (eVar 5) (eC (.int 1013))) (eC (.int 3)))) (eC (.int 998244353))) (eC (.int 16))) (eVar 1))))))))
noncomputable def f_law_take : Nat → Fn
  | 0 => fun _ _ => .bad
  | n + 1 => mkFn false 2 6 (b_law_take (f_law_take n))
noncomputable def b_law_folded : SS := sSeq (sSet 2 (eThw (nListOf (aCons (eCut (eVar 0) (pNo) (pOf (eVar 1))) (aNil)))))
  (sSeq (sFor (iEnum (aCons (eCut (eVar 0) (pOf (eVar 1)) (pOf (eC (.int 63)))) (aNil))) (.tp [.nm 3, .nm 4]) (sAsg (eBin oAdd (eBin oIx (eVar 2) (eBin oMod (eVar 3) (eVar 1))) (eBin oMul (eVar 4) (eBin oAdd (eVar 3) (eC (.int 2))))) (gIx (eVar 2) (eBin oMod (eVar 3) (eVar 1)))))
  (sRet (eVar 2)))
noncomputable def f_law_folded : Fn := mkFn false 2 5 b_law_folded
noncomputable def b_law_same (self : Fn) : SS := sSeq (sIf (tVal (eUn (oIsi ["list", "tuple"]) (eVar 1))) (sSeq (sIf (tOr (tVal (eBin oNe (eUn (oIsi ["list"]) (eVar 0)) (eUn (oIsi ["list"]) (eVar 1)))) (tVal (eBin oNe (eUn (oIsi ["tuple"]) (eVar 0)) (eUn (oIsi ["tuple"]) (eVar 1))))) (sRet (eC (.bl false))) (sNx))
  (sRet (eAnd (eBin oEq (eFn bLen (aCons (eVar 0) (aNil))) (eFn bLen (aCons (eVar 1) (aNil)))) (eFn bAll (aCons (eFrz (nComp (iZip false (aCons (eVar 0) (aCons (eVar 1) (aNil)))) [2, 3] (.tp [.nm 2, .nm 3]) (tTrue) (eCall self (aCons (eVar 2) (aCons (eVar 3) (aNil)))))) (aNil)))))) (sNx))
  (sSeq (sIf (tOr (tVal (eBin oIsN (eVar 1) (eC .non))) (tVal (eUn (oIsi ["str"]) (eVar 1)))) (sRet (eAnd (eBin oEq (eVar 0) (eVar 1)) (eBin oEq (eUn (oIsi ["str"]) (eVar 0)) (eUn (oIsi ["str"]) (eVar 1))))) (sNx))
  (sRet (eAnd (eUn (oIsi ["int"]) (eVar 0)) (eAnd (eBin oEq (eUn (oIsi ["bool"]) (eVar 0)) (eUn (oIsi ["bool"]) (eVar 1))) (eBin oEq (eVar 0) (eVar 1))))))
noncomputable def f_law_same : Nat → Fn
  | 0 => fun _ _ => .bad
  | n + 1 => mkFn false 2 4 (b_law_same (f_law_same n))
/-- a box of some room at h -/
def Box (M : Mem) (h n : Nat) : Prop := ∃ a b c : Int, M[h]? = some (.lst [.int a, .int b, .int c]) ∧ 0 ≤ a ∧ 0 ≤ b ∧ b < 2 ^ 31 ∧ 0 ≤ c ∧ c + n ≤ 2 ^ 40
theorem Box.mono {M : Mem} {h n m : Nat} (x : Box M h n) (q : m ≤ n) : Box M h m := by
  obtain ⟨a, b, c, h1, h2, h3, h4, h5, h6⟩ := x
  exact ⟨a, b, c, h1, h2, h3, h4, h5, by omega⟩
theorem Box.lt {M : Mem} {h n : Nat} (x : Box M h n) : h < M.length := by
  obtain ⟨a, b, c, h1, _⟩ := x
  exact lt_of_get h1
theorem take_set {M : Mem} {h : Nat} {c : Cell} : (M.set h c).take M.length = M.set h c := List.take_of_length_le (by simp)
/-- the n-th power of ten to the seventh -/
def tens : Nat → Int
  | 0 => 1
  | n + 1 => 10000000 * tens n
theorem take_one {self : Fn} {M : Mem} {h n : Nat} {size : Int} (x : Box M h (n + 1)) (h0 : 0 < size) (h2 : size < 2 ^ 200) (h1 : size ≤ 10000000 ∨ ∃ a b c, M[h]? = some (.lst [.int a, .int b, .int c]) ∧ 0 < a) :
    ∃ r M', mkFn false 2 6 (b_law_take self) [.ref h, .int size] M = .ok (.int r) M' ∧ 0 ≤ r ∧ r < size ∧ Box M' h n ∧ ∃ c, M' = M.set h c := by
  obtain ⟨a, b, c, e, ha, hb, hb2, hc, hn⟩ := x
  have hl := lt_of_get e
  by_cases hp : 0 < a
  · refine ⟨a % size, M.set h (.lst [.int (a / size), .int b, .int c]), ?_, Int.emod_nonneg _ (by omega), Int.emod_lt_of_pos _ h0, ?_, _, rfl⟩
    · refine Eq.trans (mk_rt (d := .int (a % size)) (M' := M.set h (.lst [.int (a / size), .int b, .int c])) rfl ?_ rfl) (by rw [take_set])
      have k1 : (0 : Int) < 3 := by decide
      have st : setIx M.length (.ref h) (.int 0) (.int (a / size)) M = some (M.set h (.lst [.int (a / size), .int b, .int c])) := r_setIx (xs := [.int a, .int b, .int c]) e (by decide) (by simp) (.inr rfl)
      simp [b_law_take, e, hp, r_divmod h0 h2, gTup, gsCons, gIx, gT, gsNil, st]
    · refine ⟨a / size, b, c, by simp [hl], Int.ediv_nonneg ha (by omega), hb, hb2, hc, by omega⟩
  · have ha0 : a = 0 := by omega
    have c1 : 0 < c + 1 := by omega
    have kc : c + 1 < 2 ^ 64 := by omega
    have M1e : (M.set h (.lst [.int a, .int b, .int (c + 1)]))[h]? = some (.lst [.int a, .int b, .int (c + 1)]) := by simp [hl]
    have st : setIx M.length (.ref h) (.int 2) (.int (c + 1)) M = some (M.set h (.lst [.int a, .int b, .int (c + 1)])) := r_setIx (xs := [.int a, .int b, .int c]) e (by decide) (by simp) (.inr rfl)
    have nb : ¬ (10000000 < size) := by
      rcases h1 with h1 | ⟨a', b', c', e', h1⟩
      · omega
      · rw [e] at e'
        cases e'
        exact absurd h1 hp
    obtain ⟨sp, hsp⟩ : ∃ z : Int, z = 69621 + (c + 1) * (c + 1) := ⟨_, rfl⟩
    obtain ⟨on, hon⟩ : ∃ z : Int, z = (b + 39373 * (c + 1)) * sp % 2147483587 := ⟨_, rfl⟩
    have on0 : 0 ≤ on := by rw [hon]; exact Int.emod_nonneg _ (by decide)
    have on1 : on < 2147483587 := by rw [hon]; exact Int.emod_lt_of_pos _ (by decide)
    obtain ⟨tw, htw⟩ : ∃ z : Int, z = (on * (on % 30011 + 5) + (c + 1)) % 2147483563 := ⟨_, rfl⟩
    have tw0 : 0 ≤ tw := by rw [htw]; exact Int.emod_nonneg _ (by decide)
    have tw1 : tw < 2147483563 := by rw [htw]; exact Int.emod_lt_of_pos _ (by decide)
    have m1 : ∀ M : Mem, oMul (.int (c + 1)) (.int (c + 1)) M = .ok (.int ((c + 1) * (c + 1))) M := fun M => r_mul (mul_l (by omega) kc)
    have m2 : ∀ M : Mem, oMul (.int 39373) (.int (c + 1)) M = .ok (.int (39373 * (c + 1))) M := fun M => r_mul (mul_l (by decide) (by decide))
    have m3 : ∀ M : Mem, oMul (.int (b + 39373 * (c + 1))) (.int sp) M = .ok (.int ((b + 39373 * (c + 1)) * sp)) M := fun M => r_mul (mul_l (by omega) (by omega))
    have m4 : ∀ (x : Int) (M : Mem), oMul (.int on) (.int x) M = .ok (.int (on * x)) M := fun x M => r_mul (mul_l (by omega) (by omega))
    have m5 : ∀ (x : Int) (M : Mem), oMul (.int tw) (.int x) M = .ok (.int (tw * x)) M := fun x M => r_mul (mul_l (by omega) (by omega))
    have d1 : ∀ (x : Int) (M : Mem), oMod (.int x) (.int 2147483587) M = .ok (.int (x % 2147483587)) M := fun x M => r_mod (by decide)
    have d2 : ∀ (x : Int) (M : Mem), oMod (.int x) (.int 2147483563) M = .ok (.int (x % 2147483563)) M := fun x M => r_mod (by decide)
    have d3 : ∀ (x : Int) (M : Mem), oMod (.int x) (.int 30011) M = .ok (.int (x % 30011)) M := fun x M => r_mod (by decide)
    have d4 : ∀ (x : Int) (M : Mem), oMod (.int x) (.int 1013) M = .ok (.int (x % 1013)) M := fun x M => r_mod (by decide)
    have d5 : ∀ (x : Int) (M : Mem), oMod (.int x) (.int 998244353) M = .ok (.int (x % 998244353)) M := fun x M => r_mod (by decide)
    have d6 : ∀ (x : Int) (M : Mem), oMod (.int x) (.int size) M = .ok (.int (x % size)) M := fun x M => r_mod h0
    have d7 : ∀ (x : Int) (M : Mem), oDiv (.int x) (.int 16) M = .ok (.int (x / 16)) M := fun x M => r_div (by decide) (by decide)
    refine ⟨tw * (tw % 1013 + 3) % 998244353 / 16 % size, M.set h (.lst [.int a, .int b, .int (c + 1)]), Eq.trans (mk_rt (d := .int (tw * (tw % 1013 + 3) % 998244353 / 16 % size)) (M' := M.set h (.lst [.int a, .int b, .int (c + 1)])) rfl ?_ rfl) (by rw [take_set]), Int.emod_nonneg _ (by omega), Int.emod_lt_of_pos _ h0, ⟨a, b, c + 1, M1e, ha, hb, hb2, by omega, by omega⟩, _, rfl⟩
    simp [b_law_take, e, hp, nb, gIx, st, M1e, m1, m2, m3, m4, m5, d1, d2, d3, d4, d5, d6, d7, ← hsp, ← hon, ← htw]
theorem tens_pos : ∀ n, 0 < tens n
  | 0 => by decide
  | n + 1 => by
    have := tens_pos n
    unfold tens
    omega
theorem tens_8 : ∀ n, n ≤ 8 → tens n < 2 ^ 200 := by decide
theorem take_spec : ∀ (k : Nat) {M : Mem} {h n : Nat} {size : Int}, k < 8 → Box M h (n + 2 ^ k) → 0 < size → size ≤ tens (k + 1) →
    ∃ r M', f_law_take (k + 1) [.ref h, .int size] M = .ok (.int r) M' ∧ 0 ≤ r ∧ r < size ∧ Box M' h n ∧ ∃ c, M' = M.set h c
  | 0, M, h, n, size, hk, x, h0, h1 => take_one (self := f_law_take 0) x h0 (Int.lt_of_le_of_lt h1 (tens_8 1 (by decide))) (.inl (by simpa [tens] using h1))
  | k + 1, M, h, n, size, hk, x, h0, h1 => by
    have e2 : 2 ^ (k + 1) = 2 ^ k + 2 ^ k := by rw [Nat.pow_succ]; omega
    have p2 : 0 < 2 ^ k := Nat.pow_pos (by decide)
    have hs : size < 2 ^ 200 := Int.lt_of_le_of_lt h1 (tens_8 (k + 2) (by omega))
    by_cases hsm : size ≤ 10000000
    · exact take_one (self := f_law_take (k + 1)) (x.mono (by omega)) h0 hs (.inl hsm)
    obtain ⟨a, b, c, e, ha, hb, hb2, hc, hn⟩ := id x
    by_cases hp : 0 < a
    · exact take_one (self := f_law_take (k + 1)) (x.mono (by omega)) h0 hs (.inr ⟨a, b, c, e, hp⟩)
    have t1 : (10000000 : Int) ≤ tens (k + 1) := by
      have := tens_pos k
      show (10000000 : Int) ≤ 10000000 * tens k
      omega
    have t2 : tens (k + 1 + 1) = 10000000 * tens (k + 1) := rfl
    obtain ⟨r1, M1, q1, r10, r11, x1, c1, rfl⟩ := take_spec k (M := M) (h := h) (n := n + 2 ^ k) (size := 10000000) (by omega) (by rw [Nat.add_assoc, ← e2]; exact x) (by decide) t1
    obtain ⟨r2, M2, q2, r20, r21, x2, c2, rfl⟩ := take_spec k (M := M.set h c1) (h := h) (n := n) (size := (size - 1) / 10000000 + 1) (by omega) x1 (by omega) (by omega)
    refine ⟨(r1 + 10000000 * r2) % size, _, Eq.trans (mk_rt (body := b_law_take (f_law_take (k + 1))) (d := .int ((r1 + 10000000 * r2) % size)) (M' := (M.set h c1).set h c2) rfl ?_ rfl) (by rw [List.take_of_length_le (by simp)]), Int.emod_nonneg _ (by omega), Int.emod_lt_of_pos _ h0, x2, c2, by simp⟩
    have nb : 10000000 < size := by omega
    have d1 : ∀ (x : Int) (M : Mem), oMod (.int x) (.int size) M = .ok (.int (x % size)) M := fun x M => r_mod h0
    have d2 : ∀ (x : Int) (M : Mem), oDiv (.int x) (.int 10000000) M = .ok (.int (x / 10000000)) M := fun x M => r_div (by decide) (by decide)
    have m1 : ∀ (x : Int) (M : Mem), oMul (.int 10000000) (.int x) M = .ok (.int (10000000 * x)) M := fun x M => r_mul (mul_l (by decide) (by decide))
    simp [b_law_take, e, hp, nb, q1, q2, d1, d2, m1]
/-- what is taken, in short -/
theorem take_ok {M : Mem} {h n : Nat} {size : Int} (x : Box M h (n + 128)) (h0 : 0 < size) (h1 : size ≤ tens 8) :
    ∃ r M', f_law_take 8 [.ref h, .int size] M = .ok (.int r) M' ∧ 0 ≤ r ∧ r < size ∧ Box M' h n ∧ ∃ c, M' = M.set h c := take_spec 7 (by decide) x h0 h1
end LW
namespace LW
open PySem L2
section
variable {b : Nat} {hs : List Nat} {M0 M : Mem} {t : Tg} {body : SS} {c : ET} {e : ES} {s : Slots} {ds : List D}
@[simp] theorem gd_nil : gdOk [] M0 M = True := by simp [gdOk]
theorem forL_inv (I : Nat → Slots → Mem → Prop) (h0 : I 0 s M)
    (hs1 : ∀ i d s M, ds[i]? = some d → I i s M → ∃ s1 s2 M2, bindT M t d s = some s1 ∧ (body b s1 M = .nx s2 M2 ∨ body b s1 M = .ct s2 M2) ∧ gdOk hs M0 M2 ∧ I (i + 1) s2 M2) :
    ∃ s' M', forL b hs M0 t body ds s M = .nx s' M' ∧ I ds.length s' M' := by
  have key : ∀ (n i : Nat) (s : Slots) (M : Mem), i + n = ds.length → I i s M → ∃ s' M', forL b hs M0 t body (ds.drop i) s M = .nx s' M' ∧ I ds.length s' M' := by
    intro n
    induction n with
    | zero =>
      intro i s M hi h
      have : i = ds.length := by omega
      subst this
      refine ⟨s, M, ?_, h⟩
      rw [List.drop_length]
      rfl
    | succ n ih =>
      intro i s M hi h
      have hlt : i < ds.length := by omega
      obtain ⟨s1, s2, M2, b1, b2, g, h2⟩ := hs1 i ds[i] s M (List.getElem?_eq_getElem hlt) h
      rw [List.drop_eq_getElem_cons hlt]
      obtain ⟨s', M', q, h'⟩ := ih (i + 1) s2 M2 (by omega) h2
      refine ⟨s', M', ?_, h'⟩
      unfold forL
      simp only [b1]
      rcases b2 with b2 | b2
      · simp only [b2]; rw [if_pos g]; exact q
      · simp only [b2]; rw [if_pos g]; exact q
  have := key ds.length 0 s M (by omega) h0
  rwa [List.drop_zero] at this
theorem compL_inv (I : Nat → List D → Mem → Prop) (h0 : I 0 [] M)
    (hs1 : ∀ i d ys M, ds[i]? = some d → I i ys M → ∃ s1 k M1, bindT M t d s = some s1 ∧ c b s1 M = .ok k M1 ∧ ((k = true ∧ ∃ y M2, e b s1 M1 = .ok y M2 ∧ gdOk hs M0 M2 ∧ I (i + 1) (ys ++ [y]) M2) ∨ (k = false ∧ gdOk hs M0 M1 ∧ I (i + 1) ys M1))) :
    ∃ ys M', compL b hs M0 t c e s ds M = .ok ys M' ∧ I ds.length ys M' := by
  have key : ∀ (n i : Nat) (ys : List D) (M : Mem), i + n = ds.length → I i ys M → ∃ zs M', compL b hs M0 t c e s (ds.drop i) M = .ok zs M' ∧ I ds.length (ys ++ zs) M' := by
    intro n
    induction n with
    | zero =>
      intro i ys M hi h
      have : i = ds.length := by omega
      subst this
      refine ⟨[], M, ?_, by simpa using h⟩
      rw [List.drop_length]
      rfl
    | succ n ih =>
      intro i ys M hi h
      have hlt : i < ds.length := by omega
      obtain ⟨s1, k, M1, b1, b2, h2⟩ := hs1 i ds[i] ys M (List.getElem?_eq_getElem hlt) h
      rw [List.drop_eq_getElem_cons hlt]
      unfold compL
      simp only [b1, b2, nox_ok, bind_ok]
      rcases h2 with ⟨rfl, y, M2, q1, g, h3⟩ | ⟨rfl, g, h3⟩
      · obtain ⟨zs, M', q, h'⟩ := ih (i + 1) (ys ++ [y]) M2 (by omega) h3
        refine ⟨y :: zs, M', ?_, by simpa using h'⟩
        simp only [if_true, q1, nox_ok, bind_ok]
        rw [if_pos g, q]
        rfl
      · obtain ⟨zs, M', q, h'⟩ := ih (i + 1) ys M1 (by omega) h3
        refine ⟨zs, M', ?_, h'⟩
        simp only [Bool.false_eq_true, if_false]
        rw [if_pos g, q]
  have := key ds.length 0 [] M (by omega) h0
  rwa [List.drop_zero] at this
/-- without a test, the memory left as it is -/
theorem compL_map (g : D → D) (s1 : D → Slots) (hb : ∀ d ∈ ds, bindT M t d s = some (s1 d)) (he : ∀ d ∈ ds, e b (s1 d) M = .ok (g d) M) (hg : gdOk hs M0 M) : compL b hs M0 t tTrue e s ds M = .ok (ds.map g) M := by
  induction ds with
  | nil => rfl
  | cons d ds ih =>
    unfold compL
    simp only [hb d (by simp), r_ttrue, nox_ok, bind_ok, if_true, he d (by simp)]
    rw [if_pos hg, ih (fun d h => hb d (by simp [h])) (fun d h => he d (by simp [h]))]
    rfl
/-- without a test -/
theorem compL_st (I : Nat → List D → Mem → Prop) (h0 : I 0 [] M)
    (hs1 : ∀ i d ys M, ds[i]? = some d → I i ys M → ∃ s1 y M2, bindT M t d s = some s1 ∧ e b s1 M = .ok y M2 ∧ gdOk hs M0 M2 ∧ I (i + 1) (ys ++ [y]) M2) :
    ∃ ys M', compL b hs M0 t tTrue e s ds M = .ok ys M' ∧ I ds.length ys M' :=
  compL_inv I h0 fun i d ys M hd h => by
    obtain ⟨s1, y, M2, q1, q2, g, h2⟩ := hs1 i d ys M hd h
    exact ⟨s1, true, M, q1, rfl, .inl ⟨rfl, y, M2, q2, g, h2⟩⟩
end
section
variable {b : Nat} {s : Slots} {M : Mem} {f g : ES} {fa : EA} {c : ET} {it : EI} {t : Tg}
@[simp] theorem r_comp (own : List Nat) (c : ET) (e : ES) : nComp it own t c e b s M = (it b s M).bind fun p M1 => lim p.1.length (compL b p.2 M1 t c e (wipeD s own) p.1 M1) := id rfl
@[simp] theorem r_iof : iOf f b s M = (f b s M).bind fun x M1 => match seqOf M1 x with | some xs => .ok (xs, gdOf x) M1 | none => .bad := id rfl
def rngD (i : Int) (n : Nat) : List D := (List.range n).map fun (k : Nat) => .int (i + (k : Int))
theorem rngD_len (i : Int) (n : Nat) : (rngD i n).length = n := by simp [rngD]
theorem rngD_get {i : Int} {n k : Nat} {d : D} (h : (rngD i n)[k]? = some d) : k < n ∧ d = .int (i + (k : Int)) := by
  unfold rngD at h
  rw [List.getElem?_map] at h
  have hk : k < n := by
    rcases Nat.lt_or_ge k n with z | z
    · exact z
    · rw [List.getElem?_eq_none (by simpa using z)] at h; cases h
  rw [List.getElem?_range hk] at h
  exact ⟨hk, (Option.some.inj h).symm⟩
theorem rngD_mem {i : Int} {n : Nat} {d : D} (h : d ∈ rngD i n) : ∃ k : Nat, k < n ∧ d = .int (i + (k : Int)) := by
  obtain ⟨k, hk, rfl⟩ := List.mem_map.mp h
  exact ⟨k, List.mem_range.mp hk, rfl⟩
def rng1 (ds : List D) (M1 : Mem) : R (List D × List Nat) := match ds with
  | [.int j] => if rngOk j then .ok (rngD 0 j.toNat, []) M1 else .bad
  | _ => .bad
def rng2 (ds : List D) (M1 : Mem) : R (List D × List Nat) := match ds with
  | [.int i, .int j] => if rngOk i ∧ rngOk j then .ok (rngD i (j - i).toNat, []) M1 else .bad
  | _ => .bad
@[simp] theorem r_range1 : iRange1 fa b s M = (fa b s M).bind rng1 := id rfl
@[simp] theorem r_range2 : iRange2 fa b s M = (fa b s M).bind rng2 := id rfl
theorem rng1_ok {j : Int} (h : rngOk j) : rng1 [.int j] M = .ok (rngD 0 j.toNat, []) M := by
  unfold rng1
  simp only
  rw [if_pos h]
theorem rng1_nat {j : Nat} (h : j < 2 ^ 62) : rng1 [.int j] M = .ok (rngD 0 j, []) M := by
  rw [rng1_ok ⟨by omega, by omega⟩]
  simp
theorem rng2_ok {i j : Int} (h : rngOk i) (h2 : rngOk j) : rng2 [.int i, .int j] M = .ok (rngD i (j - i).toNat, []) M := by
  unfold rng2
  simp only
  rw [if_pos ⟨h, h2⟩]
@[simp] theorem r_enum : iEnum fa b s M = (fa b s M).bind fun ds M1 => match ds with
  | [x] => match seqOf M1 x with
    | some xs => .ok (enumD 0 xs, gdOf x) M1
    | none => .bad
  | _ => .bad := id rfl
@[simp] theorem r_zip (st : Bool) : iZip st fa b s M = (fa b s M).bind fun ds M1 => match ds with
  | [x, y] => match seqOf M1 x, seqOf M1 y with
    | some xs, some ys => if st = true ∧ xs.length ≠ ys.length then .bad else .ok (zipD xs ys, gdOf x ++ gdOf y) M1
    | _, _ => .bad
  | _ => .bad := id rfl
theorem r_len {x : D} {ys : List D} (h : seqOf M x = some ys) : bLen [x] M = .ok (.int ys.length) M := by
  unfold bLen
  cases x <;> first | (simp only [h]; done) | (simp [seqOf, lstOf] at h; done)
theorem r_tuple {x : D} {ys : List D} (h : seqOf M x = some ys) : bTuple [x] M = .ok (.tup ys) M := by
  unfold bTuple
  simp only [h]
@[simp] theorem r_max (i j : Int) : bMax [.int i, .int j] M = .ok (.int (if j > i then j else i)) M := id rfl
@[simp] theorem r_min (i j : Int) : bMin [.int i, .int j] M = .ok (.int (if j < i then j else i)) M := id rfl
end
theorem bls_all : ∀ {ys : List D}, (∀ y ∈ ys, y = .bl true) → blsOf ys = some (List.replicate ys.length true)
  | [], _ => rfl
  | y :: ys, h => by
    have e : y = .bl true := h y (by simp)
    subst e
    show (blsOf ys).map (true :: ·) = _
    rw [bls_all fun y hy => h y (by simp [hy])]
    rfl
theorem r_all {M : Mem} {ys : List D} (h : ∀ y ∈ ys, y = .bl true) : bAll [.lst ys] M = .ok (.bl true) M := by
  show (match (some ys).bind blsOf with | some ys => _ | none => _) = _
  simp only [Option.bind_some, bls_all h]
  congr
  simp
theorem mk_keep {np nn : Nat} {body : SS} {ds xs : List D} {M M' : Mem} {h : Nat} (hl : ds.length = np) (hb : body M.length (ds.map some ++ List.replicate (nn - np) none) M = .rt (.ref h) M') (hh : M.length ≤ h) (hc : M'[h]? = some (.lst xs)) (hx : belows M.length xs = true) :
    mkFn true np nn body ds M = .ok (.ref M.length) (M'.take M.length ++ [.lst xs]) := by
  unfold mkFn
  rw [if_pos hl, hb]
  unfold runFn leaveK
  simp only [if_true, hc, hx]
  rw [if_neg (by omega)]
theorem box_ok {x : D} {zs : List Int} {k : Int} {M : Mem} (hx : seqOf M x = some (zs.map D.int)) (h0 : 0 ≤ k) (h1 : k < 100) : ∃ M', f_law_box [x, .int k] M = .ok (.ref M.length) M' ∧ Box M' M.length (2 ^ 40) ∧ ∃ c, M' = M ++ [c] := by
  have hlen : ∀ M', seqOf M' x = some (zs.map D.int) → bLen [x] M' = .ok (.int zs.length) M' := fun M' h => by rw [r_len h]; simp
  obtain ⟨cell, hcell⟩ : ∃ z : Int, z = if h : k < zs.length then zs[k.toNat]'(by omega) else 0 := ⟨_, rfl⟩
  obtain ⟨ab, hab⟩ : ∃ z : Int, z = if cell < 0 then -cell else cell := ⟨_, rfl⟩
  have ab0 : 0 ≤ ab := by
    rw [hab]
    split <;> omega
  obtain ⟨bt, hbt⟩ : ∃ z : Int, z = if 1000000000000000000 ≤ ab then 1 else 0 := ⟨_, rfl⟩
  have bt0 : 0 ≤ bt ∧ bt ≤ 1 := by
    rw [hbt]
    split <;> omega
  obtain ⟨sd, hsd⟩ : ∃ z : Int, z = (cell % 2147483629 + 15485863 * k + 43) * 48271 % 2147483647 := ⟨_, rfl⟩
  have sd0 : 0 ≤ sd := by rw [hsd]; exact Int.emod_nonneg _ (by decide)
  have sd1 : sd < 2147483647 := by rw [hsd]; exact Int.emod_lt_of_pos _ (by decide)
  have m1 : ∀ M : Mem, oMul (.int ab) (.int bt) M = .ok (.int (ab * bt)) M := fun M => r_mul (mul_r (by omega) (by omega))
  have m2 : ∀ M : Mem, oMul (.int 15485863) (.int k) M = .ok (.int (15485863 * k)) M := fun M => r_mul (mul_l (by decide) (by decide))
  have m3 : ∀ (y : Int) (M : Mem), oMul (.int y) (.int 48271) M = .ok (.int (y * 48271)) M := fun y M => r_mul (mul_r (by decide) (by decide))
  have d1 : ∀ (y : Int) (M : Mem), oMod (.int y) (.int 2147483629) M = .ok (.int (y % 2147483629)) M := fun y M => r_mod (by decide)
  have d2 : ∀ (y : Int) (M : Mem), oMod (.int y) (.int 2147483647) M = .ok (.int (y % 2147483647)) M := fun y M => r_mod (by decide)
  have run : b_law_box M.length ([x, .int k].map some ++ List.replicate (3 - 2) none) M = .rt (.ref M.length) (M ++ [.lst [.int (ab * bt), .int sd, .int 0]]) := by
    by_cases hk : k < zs.length
    · have hix : atI (zs.map D.int) k = some (.int cell) := by
        rw [ix_nat h0 (by simpa using hk), hcell, dif_pos hk]
        simp
      simp [b_law_box, hlen M hx, hk, hx, hix, m1, m2, m3, d1, d2, ← hab, ← hbt, ← hsd]
    · have hc0 : cell = 0 := by rw [hcell, dif_neg hk]
      rw [hc0] at hab hsd
      have e0 : ab = 0 := by rw [hab]; rfl
      have e1 : bt = 0 := by rw [hbt, e0]; rfl
      subst e0 e1
      simp [b_law_box, hlen M hx, hk, hx, m1, m2, m3, d1, d2]
      simpa using hsd.symm
  refine ⟨_, mk_keep (xs := [.int (ab * bt), .int sd, .int 0]) rfl run (Nat.le_refl _) (by simp) (by simp), ?_, .lst [.int (ab * bt), .int sd, .int 0], by simp⟩
  exact ⟨ab * bt, sd, 0, by simp, Int.mul_nonneg ab0 bt0.1, sd0, by omega, by decide, by decide⟩
theorem cut_take {α : Type} (xs : List α) (n : Nat) : cutL xs none (some (n : Int)) = xs.take n := by
  unfold cutL
  rw [HT.sIx_nat, HT.sIx_none, List.drop_zero, Nat.sub_zero]
  rcases Nat.le_total n xs.length with h | h
  · rw [Nat.min_eq_left h]
  · rw [Nat.min_eq_right h, List.take_of_length_le (Nat.le_refl _), List.take_of_length_le h]
theorem cut_drop {α : Type} (xs : List α) (n : Nat) : cutL xs (some (n : Int)) none = xs.drop n := by
  unfold cutL
  rw [HT.sIx_nat, HT.sIx_none]
  rcases Nat.le_total n xs.length with h | h
  · rw [Nat.min_eq_left h, List.take_of_length_le (by simp)]
  · rw [Nat.min_eq_right h, List.drop_of_length_le (Nat.le_refl _), List.drop_of_length_le h, List.take_nil]
theorem cut_mid {α : Type} (xs : List α) (n m : Nat) : cutL xs (some (n : Int)) (some (m : Int)) = (xs.drop n).take (m - n) := by
  unfold cutL
  rw [HT.sIx_nat, HT.sIx_nat]
  apply List.ext_getElem?
  intro i
  rw [List.getElem?_take, List.getElem?_take, List.getElem?_drop, List.getElem?_drop]
  by_cases h : n ≤ xs.length
  · rw [Nat.min_eq_left h]
    by_cases h1 : i < m - n
    · rw [if_pos h1]
      by_cases h2 : i < min m xs.length - n
      · rw [if_pos h2]
      · rw [if_neg h2, List.getElem?_eq_none (by omega)]
    · rw [if_neg h1, if_neg (by omega)]
  · have e : min n xs.length = xs.length := by omega
    rw [e, if_neg (by omega)]
    split
    · rw [List.getElem?_eq_none (by omega)]
    · rfl
@[simp] theorem r_oCutS (ns : List Int) (lo hi : Option Int) (M : Mem) : oCut (.scr ns) lo hi M = .ok (.lst (cutL (ns.map .int) lo hi)) M := id rfl
@[simp] theorem r_oCutT (xs : List D) (lo hi : Option Int) (M : Mem) : oCut (.tup xs) lo hi M = .ok (.tup (cutL xs lo hi)) M := id rfl
@[simp] theorem r_oCutL (xs : List D) (lo hi : Option Int) (M : Mem) : oCut (.lst xs) lo hi M = .ok (.lst (cutL xs lo hi)) M := id rfl
theorem enum_get : ∀ (xs : List D) (k i : Nat) (d : D), (enumD k xs)[i]? = some d → ∃ x, xs[i]? = some x ∧ d = .tup [.int ((k + i : Nat) : Int), x]
  | [], k, i, d, h => by simp [enumD] at h
  | x :: xs, k, 0, d, h => by
    simp [enumD] at h
    exact ⟨x, rfl, by rw [← h]; rfl⟩
  | x :: xs, k, i + 1, d, h => by
    simp [enumD] at h
    obtain ⟨y, h1, h2⟩ := enum_get xs (k + 1) i d h
    exact ⟨y, by simpa using h1, by rw [h2, show k + 1 + i = k + (i + 1) by omega]⟩
theorem set_last {M : Mem} {c c' : Cell} : (M ++ [c]).set M.length c' = M ++ [c'] := by
  rw [List.set_append_right _ _ (Nat.le_refl _), Nat.sub_self]
  rfl
theorem folded_ok {ns : List Int} {sz : Nat} {M : Mem} (h0 : 0 < sz) (h1 : sz ≤ 63) : ∃ zs : List Int, f_law_folded [.scr ns, .int sz] M = .ok (.lst (zs.map .int)) M ∧ zs.length = min ns.length sz := by
  obtain ⟨s', M', q, zs, v3, v4, rfl, rfl, hz⟩ := forL_inv (b := M.length) (hs := []) (M0 := M ++ [.lst ((ns.take sz).map .int)]) (t := .tp [.nm 3, .nm 4])
    (body := sAsg (eBin oAdd (eBin oIx (eVar 2) (eBin oMod (eVar 3) (eVar 1))) (eBin oMul (eVar 4) (eBin oAdd (eVar 3) (eC (.int 2))))) (gIx (eVar 2) (eBin oMod (eVar 3) (eVar 1))))
    (s := [some (.scr ns), some (.int sz), some (.ref M.length), none, none]) (M := M ++ [.lst ((ns.take sz).map .int)]) (ds := enumD 0 (((ns.map D.int).drop sz).take (63 - sz)))
    (fun i s M' => ∃ (zs : List Int) (v3 v4 : Option D), s = [some (.scr ns), some (.int sz), some (.ref M.length), v3, v4] ∧ M' = M ++ [.lst (zs.map .int)] ∧ zs.length = min ns.length sz)
    ⟨ns.take sz, none, none, rfl, rfl, by simp [Nat.min_comm]⟩ (fun i d s M' hd ⟨zs, v3, v4, es, eM, hz⟩ => by
      subst es eM
      obtain ⟨x, hx, rfl⟩ := enum_get _ _ _ _ hd
      rw [List.getElem?_take] at hx
      split at hx
      · rename_i hi
        rw [List.getElem?_drop, List.getElem?_map] at hx
        cases hn : ns[sz + i]? with
        | none => rw [hn] at hx; cases hx
        | some y =>
          rw [hn] at hx
          cases hx
          have hl : sz + i < ns.length := lt_of_get hn
          have hzl : zs.length = sz := by omega
          rw [Nat.zero_add]
          obtain ⟨j, hj⟩ : ∃ j : Int, j = (i : Int) % (sz : Int) := ⟨_, rfl⟩
          have j0 : 0 ≤ j := by rw [hj]; exact Int.emod_nonneg _ (by omega)
          have j1 : j < sz := by rw [hj]; exact Int.emod_lt_of_pos _ (by omega)
          have jl : j < (zs.map D.int).length := by rw [List.length_map, hzl]; exact j1
          have d1 : ∀ M : Mem, oMod (.int (i : Int)) (.int (sz : Int)) M = .ok (.int j) M := fun M => by rw [hj]; exact r_mod (by omega)
          have m1 : ∀ M : Mem, oMul (.int y) (.int ((i : Int) + 2)) M = .ok (.int (y * ((i : Int) + 2))) M := fun M => r_mul (mul_r (by omega) (by omega))
          have hix : L2.atI (zs.map D.int) j = some (.int (zs[j.toNat]'(by omega))) := by
            rw [ix_nat j0 jl]
            simp
          have st := r_setIx (b := M.length) (h := M.length) (xs := zs.map D.int) (i := j) (v := .int (zs[j.toNat]'(by omega) + y * ((i : Int) + 2))) (M := M ++ [.lst (zs.map .int)]) (by simp) j0 jl (.inl (Nat.le_refl _))
          rw [set_last] at st
          refine ⟨[some (.scr ns), some (.int sz), some (.ref M.length), some (.int i), some (.int y)], [some (.scr ns), some (.int sz), some (.ref M.length), some (.int i), some (.int y)], M ++ [.lst ((zs.set j.toNat (zs[j.toNat]'(by omega) + y * ((i : Int) + 2))).map .int)], by simp, .inl ?_, by simp, _, some (.int i), some (.int y), rfl, rfl, by simpa using hz⟩
          simp [gIx, d1, hix, m1, st, List.map_set]
      · cases hx)
  refine ⟨zs, Eq.trans (mk_frz (h := M.length) (xs := zs.map D.int) (M' := M ++ [.lst (zs.map D.int)]) rfl ?_ (Nat.le_refl _) (by simp) (fun x hx => ?_)) (by simp), hz⟩
  · have e1 : cutL (ns.map D.int) none (some (sz : Int)) = (ns.take sz).map D.int := by rw [cut_take, List.map_take]
    have e2 : cutL (ns.map D.int) (some (sz : Int)) (some 63) = ((ns.map D.int).drop sz).take (63 - sz) := cut_mid _ sz 63
    rw [List.map_take] at q
    simp [b_law_folded, e1, e2, q]
  · rw [List.mem_map] at hx
    obtain ⟨i, _, rfl⟩ := hx
    exact ⟨i, rfl⟩
section
variable {M : Mem}
@[simp] theorem r_eqI (i j : Int) : oEq (.int i) (.int j) M = .ok (.bl (i == j)) M := id rfl
@[simp] theorem r_neI (i j : Int) : oNe (.int i) (.int j) M = .ok (.bl (!(i == j))) M := id rfl
@[simp] theorem r_eqB (i j : Bool) : oEq (.bl i) (.bl j) M = .ok (.bl (i == j)) M := id rfl
@[simp] theorem r_neB (i j : Bool) : oNe (.bl i) (.bl j) M = .ok (.bl (!(i == j))) M := id rfl
@[simp] theorem r_eqS (i j : Str) : oEq (.str i) (.str j) M = .ok (.bl (i == j)) M := id rfl
@[simp] theorem r_neS (i j : Str) : oNe (.str i) (.str j) M = .ok (.bl (!(i == j))) M := id rfl
@[simp] theorem r_eqN : oEq .non .non M = .ok (.bl true) M := id rfl
@[simp] theorem ty_non : tyOf M .non = some "NoneType" := id rfl
@[simp] theorem ty_bl (k : Bool) : tyOf M (.bl k) = some "bool" := id rfl
@[simp] theorem ty_int (k : Int) : tyOf M (.int k) = some "int" := id rfl
@[simp] theorem ty_str (k : Str) : tyOf M (.str k) = some "str" := id rfl
@[simp] theorem ty_tup (k : List D) : tyOf M (.tup k) = some "tuple" := id rfl
@[simp] theorem ty_lst (k : List D) : tyOf M (.lst k) = some "list" := id rfl
end
def plainD : Nat → D → Bool
  | _, .non => true
  | _, .bl _ => true
  | _, .int _ => true
  | _, .str x => PySem.PyData.strOk x
  | k + 1, .tup xs => decide (xs.length ≤ 1000000) && xs.all (plainD k)
  | k + 1, .lst xs => decide (xs.length ≤ 1000000) && xs.all (plainD k)
  | _, _ => false
theorem eqS_refl {x : Str} {M : Mem} (h : PySem.PyData.strOk x = true) : oEq (.str x) (.str x) M = .ok (.bl true) M := by simp
theorem zip_self (xs : List D) : zipD xs xs = xs.map fun x => .tup [x, x] := by
  unfold zipD
  induction xs with
  | nil => rfl
  | cons x xs ih => simp [ih]
theorem same_ok : ∀ (k : Nat) (x : D) (M : Mem), plainD k x = true → f_law_same (k + 1) [x, x] M = .ok (.bl true) M := by
  have atom : ∀ (k : Nat) (x : D) (M : Mem), (match x with | .non => True | .bl _ => True | .int _ => True | .str y => PySem.PyData.strOk y = true | _ => False) → f_law_same (k + 1) [x, x] M = .ok (.bl true) M := by
    intro k x M h
    refine Eq.trans (mk_rt (body := b_law_same (f_law_same k)) (d := .bl true) (M' := M) rfl ?_ rfl) (by simp)
    cases x with
    | non => simp [b_law_same, oIsi, isTy]
    | bl k => simp [b_law_same, oIsi, isTy]
    | int k => simp [b_law_same, oIsi, isTy]
    | str y => simp [b_law_same, oIsi, isTy, eqS_refl h]
    | _ => exact h.elim
  have seq : ∀ (k : Nat) (x : D) (xs : List D) (M : Mem), (x = .tup xs ∨ x = .lst xs) → xs.length ≤ 1000000 → (∀ y ∈ xs, f_law_same k [y, y] M = .ok (.bl true) M) → f_law_same (k + 1) [x, x] M = .ok (.bl true) M := by
    intro k x xs M hx hl h
    have hc : ∀ g : List Nat, gdOk g M M → ∀ s : Slots, s.length = 4 → compL M.length g M (.tp [.nm 2, .nm 3]) tTrue (eCall (f_law_same k) (aCons (eVar 2) (aCons (eVar 3) aNil))) s (zipD xs xs) M = .ok (xs.map fun _ => .bl true) M := by
      intro g hg s hs
      rw [zip_self]
      have e : (xs.map fun x => D.tup [x, x]).map (fun _ => D.bl true) = xs.map fun _ => D.bl true := by simp
      rw [← e]
      match s, hs with
      | [p0, p1, p2, p3], _ =>
        refine compL_map (fun _ => .bl true) (fun d => match d with | .tup [x, y] => [p0, p1, some x, some y] | _ => []) (fun d hd => ?_) (fun d hd => ?_) hg
        · obtain ⟨y, hy, rfl⟩ := List.mem_map.mp hd
          simp
        · obtain ⟨y, hy, rfl⟩ := List.mem_map.mp hd
          simp [h y hy]
    have hall : bAll [.lst (xs.map fun _ => D.bl true)] M = .ok (.bl true) M := r_all fun y hy => by
      obtain ⟨_, _, rfl⟩ := List.mem_map.mp hy
      rfl
    have hz : (zipD xs xs).length ≤ 1000000 := by rw [zip_self, List.length_map]; exact hl
    have hg : gdOk [] M M := by simp
    refine Eq.trans (mk_rt (body := b_law_same (f_law_same k)) (d := .bl true) (M' := M) rfl ?_ rfl) (by simp)
    rcases hx with rfl | rfl
    · have q := hc [] hg [some (.tup xs), some (.tup xs), none, none] rfl
      simp [b_law_same, oIsi, isTy, r_len (q_tup M xs), hz, wipeD, q, hall]
    · have q := hc [] hg [some (.lst xs), some (.lst xs), none, none] rfl
      simp [b_law_same, oIsi, isTy, r_len (q_lst M xs), hz, wipeD, q, hall]
  intro k
  induction k with
  | zero =>
    intro x M h
    refine atom 0 x M ?_
    cases x <;> simp_all [plainD]
  | succ k ih =>
    intro x M h
    cases x with
    | tup xs => 
      obtain ⟨h1, h2⟩ : xs.length ≤ 1000000 ∧ xs.all (plainD k) = true := by simpa [plainD] using h
      exact seq (k + 1) _ xs M (.inl rfl) h1 fun y hy => ih y M (List.all_eq_true.mp h2 y hy)
    | lst xs => 
      obtain ⟨h1, h2⟩ : xs.length ≤ 1000000 ∧ xs.all (plainD k) = true := by simpa [plainD] using h
      exact seq (k + 1) _ xs M (.inr rfl) h1 fun y hy => ih y M (List.all_eq_true.mp h2 y hy)
    | _ => exact atom (k + 1) _ M (by simp_all [plainD])
end LW
namespace LW
open PySem L2
theorem plain_ints {k : Nat} {zs : List Int} (hl : zs.length ≤ 1000000) : plainD (k + 1) (.tup (zs.map .int)) = true ∧ plainD (k + 1) (.lst (zs.map .int)) = true := by
  have : (zs.map D.int).all (plainD k) = true := by
    rw [List.all_eq_true]
    intro x hx
    obtain ⟨i, _, rfl⟩ := List.mem_map.mp hx
    cases k <;> rfl
  constructor <;> simp [plainD, hl] <;> (intro i hi; cases k <;> rfl)
theorem below_ints {n : Nat} : ∀ zs : List Int, belows n (zs.map .int) = true
  | [] => rfl
  | z :: zs => by simp [below_ints zs]
end LW
namespace LW
open PySem L2
mutual
def shw : D → Option Nat
  | .non => some 5
  | .bl _ => some 5
  | .int i => if i.natAbs < 10 ^ 50 then some 51 else none
  | .str x => if PySem.PyData.strOk x = true then some (10 * x.length + 2) else none
  | .tup xs => (shws xs).map (· + 3)
  | .lst xs => (shws xs).map (· + 3)
  | _ => none
def shws : List D → Option Nat
  | [] => some 0
  | x :: xs => match shw x, shws xs with
    | some n, some m => some (n + m + 2)
    | _, _ => none
end
end LW
namespace LW
open PySem L2
/-- what holds at each of a statement's ends -/
structure Ps where
  n : Slots → Mem → Prop
  c : Slots → Mem → Prop
  b : Slots → Mem → Prop
  r : D → Mem → Prop
  x : Str → D → Slots → Mem → Prop
inductive Wp : RS → Ps → Prop
  | nx {s : Slots} {M : Mem} {P : Ps} : P.n s M → Wp (.nx s M) P
  | ct {s : Slots} {M : Mem} {P : Ps} : P.c s M → Wp (.ct s M) P
  | bk {s : Slots} {M : Mem} {P : Ps} : P.b s M → Wp (.bk s M) P
  | rt {d : D} {M : Mem} {P : Ps} : P.r d M → Wp (.rt d M) P
  | exc {c : Str} {d : D} {s : Slots} {M : Mem} {P : Ps} : P.x c d s M → Wp (.exc c d s M) P
inductive Wr {α : Type} : R α → (α → Mem → Prop) → Prop
  | ok {a : α} {M : Mem} {Q : α → Mem → Prop} : Q a M → Wr (.ok a M) Q
/-- nothing but handing back -/
def only (Q : D → Mem → Prop) : Ps := ⟨fun _ _ => False, fun _ _ => False, fun _ _ => False, Q, fun _ _ _ _ => False⟩
/-- nothing but going on -/
def goOn (N : Slots → Mem → Prop) : Ps := ⟨N, N, fun _ _ => False, fun _ _ => False, fun _ _ _ _ => False⟩
section
variable {α β : Type} {P : Ps} {s s' : Slots} {M : Mem} {d : D} {c : Str} {Q : α → Mem → Prop}
@[simp] theorem wp_nx : Wp (.nx s M) P = P.n s M := propext ⟨fun h => by cases h; assumption, .nx⟩
@[simp] theorem wp_ct : Wp (.ct s M) P = P.c s M := propext ⟨fun h => by cases h; assumption, .ct⟩
@[simp] theorem wp_bk : Wp (.bk s M) P = P.b s M := propext ⟨fun h => by cases h; assumption, .bk⟩
@[simp] theorem wp_rt : Wp (.rt d M) P = P.r d M := propext ⟨fun h => by cases h; assumption, .rt⟩
@[simp] theorem wp_exc : Wp (.exc c d s M) P = P.x c d s M := propext ⟨fun h => by cases h; assumption, .exc⟩
@[simp] theorem wp_bad : Wp .bad P = False := propext ⟨fun h => (by cases h), False.elim⟩
@[simp] theorem wr_ok (a : α) : Wr (.ok a M) Q = Q a M := propext ⟨fun h => by cases h; assumption, .ok⟩
@[simp] theorem wr_bad : Wr .bad Q = False := propext ⟨fun h => (by cases h), False.elim⟩
@[simp] theorem wr_exc : Wr (.exc c d M) Q = False := propext ⟨fun h => (by cases h), False.elim⟩
@[simp] theorem only_r {Q : D → Mem → Prop} : (only Q).r = Q := id rfl
@[simp] theorem only_n {Q : D → Mem → Prop} : (only Q).n = fun _ _ => False := id rfl
@[simp] theorem goOn_n {N : Slots → Mem → Prop} : (goOn N).n = N := id rfl
@[simp] theorem goOn_c {N : Slots → Mem → Prop} : (goOn N).c = N := id rfl
@[simp] theorem goOn_r {N : Slots → Mem → Prop} : (goOn N).r = fun _ _ => False := id rfl
@[simp] theorem as_bb {γ : Type} (r : R α) (f : α → Mem → R β) (g : β → Mem → R γ) : (r.bind f).bind g = r.bind fun a M => (f a M).bind g := by cases r <;> rfl
@[simp] theorem as_bs (r : R α) (f : α → Mem → R β) (k : β → Mem → RS) : (r.bind f).toS s k = r.toS s fun a M => (f a M).toS s k := by cases r <;> rfl
@[simp] theorem as_sq (r : R α) (f : α → Mem → RS) (k : Slots → Mem → RS) : (r.toS s f).sq k = r.toS s fun a M => (f a M).sq k := by cases r <;> rfl
@[simp] theorem as_qq (r : RS) (f k : Slots → Mem → RS) : (r.sq f).sq k = r.sq fun s M => (f s M).sq k := by cases r <;> rfl
@[simp] theorem as_lb (n : Nat) (r : R α) (f : α → Mem → R β) : (lim n r).bind f = lim n (r.bind f) := by unfold lim; split <;> rfl
@[simp] theorem as_nox (a : R α) (f : α → Mem → R β) : (a.nox.bind f) = (match a with | .ok x M => f x M | _ => .bad) := by cases a <;> rfl
theorem Wp.mono {r : RS} {P P' : Ps} (h : Wp r P) (hn : ∀ s M, P.n s M → P'.n s M) (hc : ∀ s M, P.c s M → P'.c s M) (hb : ∀ s M, P.b s M → P'.b s M) (hr : ∀ d M, P.r d M → P'.r d M) (hx : ∀ c d s M, P.x c d s M → P'.x c d s M) : Wp r P' := by
  cases h with
  | nx h => exact .nx (hn _ _ h)
  | ct h => exact .ct (hc _ _ h)
  | bk h => exact .bk (hb _ _ h)
  | rt h => exact .rt (hr _ _ h)
  | exc h => exact .exc (hx _ _ _ _ h)
theorem Wr.mono {r : R α} {Q Q' : α → Mem → Prop} (h : Wr r Q) (hq : ∀ a M, Q a M → Q' a M) : Wr r Q' := by
  cases h with
  | ok h => exact .ok (hq _ _ h)
theorem wp_toS {r : R α} {k : α → Mem → RS} (h : Wr r fun a M => Wp (k a M) P) : Wp (r.toS s k) P := by
  cases h with
  | ok h => exact h
theorem wr_of {r : R α} (h : Wr r Q) : ∃ a M, r = .ok a M ∧ Q a M := by
  cases h with
  | ok h => exact ⟨_, _, rfl, h⟩
theorem of_wr {r : R α} (h : ∃ a M, r = .ok a M ∧ Q a M) : Wr r Q := by
  obtain ⟨a, M, rfl, h⟩ := h
  exact .ok h
end
section
variable {b : Nat} {hs : List Nat} {M0 M : Mem} {t : Tg} {body : SS} {c : ET} {e : ES} {s s' : Slots} {ds : List D} {P : Ps} {k : Slots → Mem → RS}
theorem wp_for (I : Nat → Slots → Mem → Prop) (h0 : I 0 s M)
    (hs1 : ∀ i d s M, i < ds.length → ds[i]? = some d → I i s M → ∃ s1, bindT M t d s = some s1 ∧ ∀ P' : Ps, (∀ s2 M2, gdOk hs M0 M2 → I (i + 1) s2 M2 → P'.n s2 M2) → (∀ s2 M2, gdOk hs M0 M2 → I (i + 1) s2 M2 → P'.c s2 M2) → (∀ s2 M2, Wp (k s2 M2) P → P'.b s2 M2) → (∀ d M2, P.r d M2 → P'.r d M2) → (∀ c d s M2, P.x c d s M2 → P'.x c d s M2) → Wp (body b s1 M) P')
    (hk : ∀ s' M', I ds.length s' M' → Wp (k s' M') P) : Wp ((forL b hs M0 t body ds s M).sq k) P := by
  have key : ∀ (n i : Nat) (s : Slots) (M : Mem), i + n = ds.length → I i s M → Wp ((forL b hs M0 t body (ds.drop i) s M).sq k) P := by
    intro n
    induction n with
    | zero =>
      intro i s M hi h
      have : i = ds.length := by omega
      subst this
      rw [List.drop_length]
      exact hk s M h
    | succ n ih =>
      intro i s M hi h
      have hlt : i < ds.length := by omega
      obtain ⟨s1, b1, w⟩ := hs1 i ds[i] s M hlt (List.getElem?_eq_getElem hlt) h
      have w := w ⟨fun s2 M2 => gdOk hs M0 M2 ∧ I (i + 1) s2 M2, fun s2 M2 => gdOk hs M0 M2 ∧ I (i + 1) s2 M2, fun s2 M2 => Wp (k s2 M2) P, P.r, P.x⟩ (fun _ _ a b => ⟨a, b⟩) (fun _ _ a b => ⟨a, b⟩) (fun _ _ a => a) (fun _ _ a => a) (fun _ _ _ _ a => a)
      rw [List.drop_eq_getElem_cons hlt]
      unfold forL
      simp only [b1]
      cases hr : body b s1 M with
      | nx s2 M2 =>
        rw [hr, wp_nx] at w
        simp only
        rw [if_pos w.1]
        exact ih (i + 1) s2 M2 (by omega) w.2
      | ct s2 M2 =>
        rw [hr, wp_ct] at w
        simp only
        rw [if_pos w.1]
        exact ih (i + 1) s2 M2 (by omega) w.2
      | bk s2 M2 =>
        rw [hr, wp_bk] at w
        exact w
      | rt d M2 =>
        rw [hr, wp_rt] at w
        exact .rt w
      | exc c d s M2 =>
        rw [hr, wp_exc] at w
        exact .exc w
      | bad =>
        rw [hr, wp_bad] at w
        exact w.elim
  have := key ds.length 0 s M (by omega) h0
  rwa [List.drop_zero] at this
/-- the last statement of a block -/
theorem wp_for' (I : Nat → Slots → Mem → Prop) (h0 : I 0 s M)
    (hs1 : ∀ i d s M, i < ds.length → ds[i]? = some d → I i s M → ∃ s1, bindT M t d s = some s1 ∧ ∀ P' : Ps, (∀ s2 M2, gdOk hs M0 M2 → I (i + 1) s2 M2 → P'.n s2 M2) → (∀ s2 M2, gdOk hs M0 M2 → I (i + 1) s2 M2 → P'.c s2 M2) → (∀ s2 M2, P.n s2 M2 → P'.b s2 M2) → (∀ d M2, P.r d M2 → P'.r d M2) → (∀ c d s M2, P.x c d s M2 → P'.x c d s M2) → Wp (body b s1 M) P')
    (hk : ∀ s' M', I ds.length s' M' → P.n s' M') : Wp (forL b hs M0 t body ds s M) P := by
  have e : forL b hs M0 t body ds s M = (forL b hs M0 t body ds s M).sq .nx := by cases forL b hs M0 t body ds s M <;> rfl
  rw [e]
  exact wp_for I h0 (fun i d s M hi hd h => by
    obtain ⟨s1, h1, h2⟩ := hs1 i d s M hi hd h
    exact ⟨s1, h1, fun P' a b c d e => h2 P' a b (fun s M h => c s M (.nx h)) d e⟩) fun s' M' h => .nx (hk s' M' h)
/-- turns are counted by a number that falls -/
theorem wp_while {n : Nat} (I : Nat → Slots → Mem → Prop) (h0 : I n s M)
    (hs1 : ∀ i s M, I i s M → ∃ q M1, c b s M = .ok q M1 ∧ (q = true → ∃ j, i = j + 1 ∧ ∀ P' : Ps, (∀ s2 M2, I j s2 M2 → P'.n s2 M2) → (∀ s2 M2, I j s2 M2 → P'.c s2 M2) → (∀ s2 M2, Wp (k s2 M2) P → P'.b s2 M2) → (∀ d M2, P.r d M2 → P'.r d M2) → (∀ c d s M2, P.x c d s M2 → P'.x c d s M2) → Wp (body b s M1) P') ∧ (q = false → 0 < i ∧ Wp (k s M1) P)) : Wp ((whileL b c body n s M).sq k) P := by
  induction n generalizing s M with
  | zero =>
    obtain ⟨q, M1, e, h1, h2⟩ := hs1 0 s M h0
    cases q with
    | true =>
      obtain ⟨j, hj, _⟩ := h1 rfl
      omega
    | false =>
      have := (h2 rfl).1
      omega
  | succ n ih =>
    obtain ⟨q, M1, e, h1, h2⟩ := hs1 (n + 1) s M h0
    unfold whileL
    rw [e, toS_ok]
    cases q with
    | true =>
      rw [if_pos rfl]
      obtain ⟨j, hj, w⟩ := h1 rfl
      have hj : n = j := by omega
      subst hj
      have w := w ⟨I n, I n, fun s2 M2 => Wp (k s2 M2) P, P.r, P.x⟩ (fun _ _ a => a) (fun _ _ a => a) (fun _ _ a => a) (fun _ _ a => a) (fun _ _ _ _ a => a)
      cases hr : body b s M1 with
      | nx s2 M2 => rw [hr, wp_nx] at w; exact ih w
      | ct s2 M2 => rw [hr, wp_ct] at w; exact ih w
      | bk s2 M2 => rw [hr, wp_bk] at w; exact w
      | rt d M2 => rw [hr, wp_rt] at w; exact .rt w
      | exc c d s M2 => rw [hr, wp_exc] at w; exact .exc w
      | bad => rw [hr, wp_bad] at w; exact w.elim
    | false =>
      rw [if_neg (by decide)]
      exact (h2 rfl).2
theorem wr_compL (I : Nat → List D → Mem → Prop) (h0 : I 0 [] M)
    (hs1 : ∀ i d ys M, i < ds.length → ds[i]? = some d → I i ys M → ∃ s1, bindT M t d s = some s1 ∧ Wr (c b s1 M) fun q M1 => if q = true then Wr (e b s1 M1) fun y M2 => gdOk hs M0 M2 ∧ I (i + 1) (ys ++ [y]) M2 else gdOk hs M0 M1 ∧ I (i + 1) ys M1) :
    Wr (compL b hs M0 t c e s ds M) fun ys M' => I ds.length ys M' := by
  refine of_wr (compL_inv I h0 fun i d ys M hd h => ?_)
  obtain ⟨s1, h1, w⟩ := hs1 i d ys M (lt_of_get hd) hd h
  obtain ⟨q, M1, e1, w⟩ := wr_of w
  refine ⟨s1, q, M1, h1, e1, ?_⟩
  cases q with
  | true =>
    rw [if_pos rfl] at w
    obtain ⟨y, M2, e2, w1, w2⟩ := wr_of w
    exact .inl ⟨rfl, y, M2, e2, w1, w2⟩
  | false =>
    rw [if_neg (by decide)] at w
    exact .inr ⟨rfl, w.1, w.2⟩
theorem wp_comp {s' : Slots} {K : List D → Mem → RS} (I : Nat → List D → Mem → Prop) (h0 : I 0 [] M)
    (hs1 : ∀ i d ys M, i < ds.length → ds[i]? = some d → I i ys M → ∃ s1, bindT M t d s = some s1 ∧ ∀ Q' : D → Mem → Prop, (∀ y M2, gdOk hs M0 M2 → I (i + 1) (ys ++ [y]) M2 → Q' y M2) → Wr (e b s1 M) Q')
    (hk : ∀ ys M', I ds.length ys M' → Wp (K ys M') P) : Wp ((compL b hs M0 t tTrue e s ds M).toS s' K) P :=
  wp_toS ((wr_compL I h0 fun i d ys M hi hd h => by
    obtain ⟨s1, h1, h2⟩ := hs1 i d ys M hi hd h
    exact ⟨s1, h1, .ok (h2 _ fun _ _ a b => ⟨a, b⟩)⟩).mono hk)
/-- each item by itself -/
theorem comp_map (g : D → D) (hb : ∀ d ∈ ds, ∃ s1, bindT M t d s = some s1 ∧ e b s1 M = .ok (g d) M) (hg : gdOk hs M0 M) : compL b hs M0 t tTrue e s ds M = .ok (ds.map g) M := by
  induction ds with
  | nil => rfl
  | cons d ds ih =>
    obtain ⟨s1, h1, h2⟩ := hb d (by simp)
    unfold compL
    simp only [h1, r_ttrue, nox_ok, bind_ok, if_true, h2]
    rw [if_pos hg, ih (fun d h => hb d (by simp [h]))]
    rfl
theorem wp_map {s' : Slots} {K : List D → Mem → RS} (g : D → D) (hb : ∀ d ∈ ds, ∃ s1, bindT M t d s = some s1 ∧ e b s1 M = .ok (g d) M) (hg : gdOk hs M0 M) (hk : Wp (K (ds.map g) M) P) : Wp ((compL b hs M0 t tTrue e s ds M).toS s' K) P := by
  rw [comp_map g hb hg]
  exact hk
end
section
variable {np nn : Nat} {body : SS} {ds xs : List D} {M : Mem} {Q : D → Mem → Prop}
theorem fn_wp (hl : ds.length = np) (h : ∀ P : Ps, (∀ d M', below M.length d = true → Q d (M'.take M.length) → P.r d M') → Wp (body M.length (ds.map some ++ List.replicate (nn - np) none) M) P) : Wr (mkFn false np nn body ds M) Q := by
  have h := h (only fun d M' => below M.length d = true ∧ Q d (M'.take M.length)) fun _ _ a b => ⟨a, b⟩
  unfold mkFn
  rw [if_pos hl]
  cases hr : body M.length (ds.map some ++ List.replicate (nn - np) none) M with
  | rt d M' =>
    rw [hr, wp_rt] at h
    obtain ⟨h1, h2⟩ : below M.length d = true ∧ Q d (M'.take M.length) := h
    unfold runFn leave
    simp only [Bool.false_eq_true, if_false, h1, if_true]
    exact .ok h2
  | _ => rw [hr] at h; cases h <;> rename_i h <;> exact h.elim
/-- what holds of what is read off -/
def Off (n : Nat) (Q : D → Mem → Prop) : D → Mem → Prop := fun d M' => (below n d = true ∧ Q d (M'.take n)) ∨ (below n d = false ∧ ∃ d', frz M' n 12 d = some d' ∧ Q d' (M'.take n))
theorem fn_off (hl : ds.length = np) (h : ∀ P : Ps, (∀ d M', Off M.length Q d M' → P.r d M') → Wp (body M.length (ds.map some ++ List.replicate (nn - np) none) M) P) : Wr (mkFn false np nn body ds M) Q := by
  have h := h (only (Off M.length Q)) fun _ _ a => a
  unfold mkFn
  rw [if_pos hl]
  cases hr : body M.length (ds.map some ++ List.replicate (nn - np) none) M with
  | rt d M' =>
    rw [hr, wp_rt] at h
    have h : Off M.length Q d M' := h
    unfold runFn leave
    simp only [Bool.false_eq_true, if_false]
    rcases h with ⟨h1, h2⟩ | ⟨h1, d', h2, h3⟩
    · simp only [h1, if_true]
      exact .ok h2
    · simp only [h1, Bool.false_eq_true, if_false, h2]
      exact .ok h3
  | _ => rw [hr] at h; cases h <;> rename_i h <;> exact h.elim
end
/-- plain data: no handles, of a depth -/
def noRef : Nat → D → Bool
  | 0, _ => false
  | _ + 1, .ref _ => false
  | _ + 1, .clo _ _ => false
  | k + 1, .tup xs => xs.all (noRef k)
  | k + 1, .lst xs => xs.all (noRef k)
  | k + 1, .dct _ xs => xs.all (noRef k)
  | k + 1, .dtt _ xs => xs.all (noRef k)
  | _ + 1, _ => true
theorem frz_noRef {M : Mem} {n : Nat} : ∀ (k : Nat) (d : D), noRef k d = true → frz M n k d = some d := by
  intro k
  induction k with
  | zero => intro d h; cases h
  | succ k ih =>
    have many : ∀ xs : List D, xs.all (noRef k) = true → xs.mapM (frz M n k) = some xs := by
      intro xs
      induction xs with
      | nil => intro _; rfl
      | cons x xs ihs =>
        intro h
        rw [List.all_cons, Bool.and_eq_true] at h
        rw [List.mapM_cons, ih x h.1, ihs h.2]
        rfl
    intro d h
    cases d with
    | ref n => cases h
    | clo _ _ => cases h
    | tup xs => unfold noRef at h; unfold frz; rw [many xs h]; rfl
    | lst xs => unfold noRef at h; unfold frz; rw [many xs h]; rfl
    | dct ks xs => unfold noRef at h; unfold frz; rw [many xs h]; rfl
    | dtt ks xs => unfold noRef at h; unfold frz; rw [many xs h]; rfl
    | _ => rfl
theorem noRef_mono : ∀ (k : Nat) (d : D), noRef k d = true → noRef (k + 1) d = true := by
  intro k
  induction k with
  | zero => intro d h; cases h
  | succ k ih =>
    have many : ∀ xs : List D, xs.all (noRef k) = true → xs.all (noRef (k + 1)) = true := fun xs h => List.all_eq_true.mpr fun x hx => ih x (List.all_eq_true.mp h x hx)
    intro d h
    cases d with
    | ref n => cases h
    | clo _ _ => cases h
    | tup xs => unfold noRef at h ⊢; exact many xs h
    | lst xs => unfold noRef at h ⊢; exact many xs h
    | dct ks xs => unfold noRef at h ⊢; exact many xs h
    | dtt ks xs => unfold noRef at h ⊢; exact many xs h
    | _ => rfl
theorem noRef_le {k j : Nat} {d : D} (h : noRef k d = true) (hj : k ≤ j) : noRef j d = true := by
  induction hj with
  | refl => exact h
  | step _ ih => exact noRef_mono _ _ ih
theorem belows_iff {n : Nat} : ∀ xs : List D, belows n xs = true ↔ ∀ x ∈ xs, below n x = true
  | [] => by simp
  | x :: xs => by rw [w_cons, Bool.and_eq_true, belows_iff xs]; simp
/-- all but the box's cell as it was -/
structure Fr (h : Nat) (M M' : Mem) : Prop where
  len : M.length ≤ M'.length
  at_ : ∀ j, j < M.length → j ≠ h → M'[j]? = M[j]?
theorem Fr.refl {h : Nat} {M : Mem} : Fr h M M := ⟨Nat.le_refl _, fun _ _ _ => rfl⟩
theorem Fr.trans {h : Nat} {M1 M2 M3 : Mem} (a : Fr h M1 M2) (b : Fr h M2 M3) : Fr h M1 M3 := ⟨Nat.le_trans a.len b.len, fun j hj hn => by rw [b.at_ j (Nat.lt_of_lt_of_le hj a.len) hn, a.at_ j hj hn]⟩
theorem Fr.app {h : Nat} {M M' : Mem} (a : Fr h M M') (cs : List Cell) : Fr h M (M' ++ cs) := ⟨by simp; have := a.len; omega, fun j hj hn => by rw [List.getElem?_append_left (by have := a.len; omega)]; exact a.at_ j hj hn⟩
theorem Fr.set {h r : Nat} {M M' : Mem} (a : Fr h M M') (hr : M.length ≤ r ∨ r = h) (c : Cell) : Fr h M (M'.set r c) := ⟨by simpa using a.len, fun j hj hn => by rw [List.getElem?_set_ne (by omega)]; exact a.at_ j hj hn⟩
theorem Fr.take {h : Nat} {M M' : Mem} (a : Fr h M M') : Fr h M (M'.take M.length) ∧ (M'.take M.length).length = M.length := by
  have := a.len
  refine ⟨⟨by simp; omega, fun j hj hn => ?_⟩, by simp; omega⟩
  rw [List.getElem?_take_of_lt hj]
  exact a.at_ j hj hn
theorem Box.take {M : Mem} {h n k : Nat} (x : Box M h n) (hk : h < k) : Box (M.take k) h n := by
  obtain ⟨a, b, c, h1, h2⟩ := x
  exact ⟨a, b, c, by rw [List.getElem?_take_of_lt hk]; exact h1, h2⟩
theorem Box.app {M : Mem} {h n : Nat} (x : Box M h n) (cs : List Cell) : Box (M ++ cs) h n := by
  have := x.lt
  obtain ⟨a, b, c, h1, h2⟩ := x
  exact ⟨a, b, c, by rw [List.getElem?_append_left this]; exact h1, h2⟩
theorem Box.set {M : Mem} {h n r : Nat} (x : Box M h n) (hr : r ≠ h) (c : Cell) : Box (M.set r c) h n := by
  obtain ⟨a, b, c', h1, h2⟩ := x
  exact ⟨a, b, c', by rw [List.getElem?_set_ne hr]; exact h1, h2⟩
/-- nothing changed, some added -/
def Pf (M M' : Mem) : Prop := ∃ J, M' = M ++ J
theorem Pf.refl {M : Mem} : Pf M M := ⟨[], by simp⟩
theorem Pf.app {M M' : Mem} (a : Pf M M') (cs : List Cell) : Pf M (M' ++ cs) := by
  obtain ⟨J, rfl⟩ := a
  exact ⟨J ++ cs, by simp⟩
theorem Pf.set {M M' : Mem} {r : Nat} (a : Pf M M') (hr : M.length ≤ r) (c : Cell) : Pf M (M'.set r c) := by
  obtain ⟨J, rfl⟩ := a
  exact ⟨J.set (r - M.length) c, by rw [List.set_append_right _ _ hr]⟩
theorem Pf.take {M M' : Mem} (a : Pf M M') : M'.take M.length = M := by
  obtain ⟨J, rfl⟩ := a
  simp
theorem Pf.len {M M' : Mem} (a : Pf M M') : M.length ≤ M'.length := by
  obtain ⟨J, rfl⟩ := a
  simp
theorem Pf.get {M M' : Mem} (a : Pf M M') {j : Nat} (h : j < M.length) : M'[j]? = M[j]? := by
  obtain ⟨J, rfl⟩ := a
  rw [List.getElem?_append_left h]
/-- takes, in short -/
theorem take_wr {M : Mem} {h n : Nat} {size : Int} (x : Box M h (n + 128)) (h0 : 0 < size) (h1 : size ≤ tens 8) :
    ∃ r M', f_law_take 8 [.ref h, .int size] M = .ok (.int r) M' ∧ 0 ≤ r ∧ r < size ∧ Box M' h n ∧ M'.length = M.length ∧ ∀ j, j ≠ h → M'[j]? = M[j]? := by
  obtain ⟨r, M', q, a, b, x', c, rfl⟩ := take_ok x h0 h1
  exact ⟨r, _, q, a, b, x', by simp, fun j hj => by rw [List.getElem?_set_ne (Ne.symm hj)]⟩
/-- a tuple or a list of these -/
def Sqd (d : D) (xs : List D) : Prop := d = .tup xs ∨ d = .lst xs
theorem Sqd.q {d : D} {xs : List D} (h : Sqd d xs) (M : Mem) : seqOf M d = some xs := by rcases h with rfl | rfl <;> rfl
theorem Sqd.g {d : D} {xs : List D} (h : Sqd d xs) : gdOf d = [] := by rcases h with rfl | rfl <;> rfl
theorem Sqd.t (xs : List D) : Sqd (.tup xs) xs := .inl rfl
theorem Sqd.l (xs : List D) : Sqd (.lst xs) xs := .inr rfl
end LW
namespace LW
open PySem L2
noncomputable def b_taken_by_s1 : SS := sIf (tVal (eBin oEq (eBin oIx (eVar 1) (eC (.int 0))) (eC (.str "fill")))) (sRet (eBin oIx (eBin oIx (eVar 0) (eBin oSub (eBin oIx (eVar 1) (eC (.int 1))) (eC (.int 1)))) (eC (.int 2)))) (sNx)
noncomputable def b_taken_by_s2 : SS := sRet (eIf (tVal (eBin oEq (eBin oIx (eVar 1) (eC (.int 0))) (eC (.str "lower")))) (eBin oIx (eVar 1) (eC (.int 2))) (eC (.int 0)))
noncomputable def b_taken_by : SS := sSeq (b_taken_by_s1)
  (b_taken_by_s2)
noncomputable def f_taken_by : Fn := mkFn false 2 2 b_taken_by
noncomputable def b_brought_by_s1 : SS := sIf (tVal (eBin oEq (eBin oIx (eVar 1) (eC (.int 0))) (eC (.str "empty")))) (sRet (eTup (aCons (eBin oSub (eBin oIx (eVar 1) (eC (.int 1))) (eC (.int 1))) (aCons (eBin oIx (eBin oIx (eVar 0) (eBin oSub (eBin oIx (eVar 1) (eC (.int 1))) (eC (.int 1)))) (eC (.int 2))) (aNil))))) (sNx)
noncomputable def b_brought_by_s2 : SS := sRet (eTup (aCons (eBin oIx (eVar 1) (eC (.int 1))) (aCons (eIf (tVal (eBin oEq (eBin oIx (eVar 1) (eC (.int 0))) (eC (.str "raise")))) (eBin oIx (eVar 1) (eC (.int 2))) (eC (.int 0))) (aNil))))
noncomputable def b_brought_by : SS := sSeq (b_brought_by_s1)
  (b_brought_by_s2)
noncomputable def f_brought_by : Fn := mkFn false 2 2 b_brought_by
noncomputable def b_added_s1 : SS := sAsg (eCall f_brought_by (aCons (eVar 0) (aCons (eVar 1) (aNil)))) (gT (.tp [.nm 2, .nm 3]))
noncomputable def b_added_s2 : SS := sAsg (eTup (aCons (eCall f_taken_by (aCons (eVar 0) (aCons (eVar 1) (aNil)))) (aCons (eBin oIx (eVar 1) (eC (.int 1))) (aNil)))) (gT (.tp [.nm 4, .nm 5]))
noncomputable def b_added_c1 : ES := eBin oSub (eBin oMul (eVar 3) (eFn bInt (aCons (eBin oLe (eVar 6) (eVar 2)) (aNil)))) (eBin oMul (eVar 4) (eFn bInt (aCons (eBin oLe (eVar 6) (eVar 5)) (aNil))))
noncomputable def b_added_s3 : SS := sRet (eFn bTuple (aCons (eFrz (nComp (iRange2 (aCons (eC (.int 1)) (aCons (eBin oAdd (eFn bLen (aCons (eVar 0) (aNil))) (eC (.int 1))) (aNil)))) [6] (.nm 6) (tTrue) (b_added_c1))) (aNil)))
noncomputable def b_added : SS := sSeq (b_added_s1)
  (sSeq (b_added_s2)
  (b_added_s3))
noncomputable def f_added : Fn := mkFn false 2 7 b_added
noncomputable def b_led_s1 : SS := sSet 2 (eBin oAdd (eFrz (nListOf (aCons (eVar 1) (aNil)))) (eFrz (nLst (aCons (eC (.int 0)) (aNil)))))
noncomputable def b_led_c1 : ES := eBin oAdd (eVar 6) (eVar 7)
noncomputable def b_led_l1 : SS := sExpr (eMethL mAppend (eVar 3) (aCons (eFn bMin (aCons (eFrz (nComp (iZip true (aCons (eVar 5) (aCons (eCut (eVar 2) (pOf (eVar 4)) (pNo)) (aNil)))) [6, 7] (.tp [.nm 6, .nm 7]) (tTrue) (b_led_c1))) (aNil))) (aNil)))
noncomputable def b_led_s2 : SS := sFor (iEnum (aCons (eVar 0) (aNil))) (.tp [.nm 4, .nm 5]) (b_led_l1)
noncomputable def b_led : SS := sSeq (b_led_s1)
  (sSeq (sSet 3 (eThw (nLst (aNil))))
  (sSeq (b_led_s2)
  (sRet (eFn bTuple (aCons (eVar 3) (aNil))))))
noncomputable def f_led : Fn := mkFn false 2 8 b_led
noncomputable def b_behind_s1 : SS := sSet 2 (eBin oAdd (eFrz (nListOf (aCons (eVar 0) (aNil)))) (eFrz (nLst (aCons (eTup (aCons (eC (.int 0)) (aNil))) (aNil)))))
noncomputable def b_behind_c1 : ES := eBin oAdd (eBin oIx (eVar 5) (eBin oSub (eVar 8) (eVar 4))) (eBin oIx (eBin oIx (eVar 2) (eVar 8)) (eBin oSub (eVar 7) (eVar 8)))
noncomputable def b_behind_l1 : SS := sExpr (eMethL mAppend (eVar 6) (aCons (eFn bMin (aCons (eFrz (nComp (iRange2 (aCons (eVar 4) (aCons (eBin oAdd (eVar 7) (eC (.int 1))) (aNil)))) [8] (.nm 8) (tTrue) (b_behind_c1))) (aNil))) (aNil)))
noncomputable def b_behind_s2 : SS := sFor (iRange2 (aCons (eVar 4) (aCons (eFn bLen (aCons (eVar 2) (aNil))) (aNil)))) (.nm 7) (b_behind_l1)
noncomputable def b_behind_s3 : SS := sExpr (eMethL mAppend (eVar 3) (aCons (eFn bTuple (aCons (eVar 6) (aNil))) (aNil)))
noncomputable def b_behind_l2 : SS := sSeq (sSet 6 (eThw (nLst (aNil))))
  (sSeq (b_behind_s2)
  (b_behind_s3))
noncomputable def b_behind_s4 : SS := sFor (iEnum (aCons (eVar 1) (aNil))) (.tp [.nm 4, .nm 5]) (b_behind_l2)
noncomputable def b_behind : SS := sSeq (b_behind_s1)
  (sSeq (sSet 3 (eThw (nLst (aNil))))
  (sSeq (b_behind_s4)
  (sRet (eFn bTuple (aCons (eVar 3) (aNil))))))
noncomputable def f_behind : Fn := mkFn false 2 9 b_behind
noncomputable def b_power_c1 : ES := eFn bTuple (aCons (eVar 5) (aNil))
noncomputable def b_power_s1 : SS := sPar [2, 3, 4] (aCons (eC .non) (aCons (eFn bTuple (aCons (eFrz (nComp (iOf (eVar 0)) [5] (.nm 5) (tTrue) (b_power_c1))) (aNil))) (aCons (eVar 1) (aNil))))
noncomputable def b_power_s2 : SS := sIf (tVal (eBin oEq (eBin oMod (eVar 4) (eC (.int 2))) (eC (.int 1)))) (sSet 2 (eIf (tVal (eBin oIsN (eVar 2) (eC .non))) (eVar 3) (eCall f_behind (aCons (eVar 2) (aCons (eVar 3) (aNil)))))) (sNx)
noncomputable def b_power_s3 : SS := sSet 3 (eIf (tVal (eBin oGt (eVar 4) (eC (.int 0)))) (eCall f_behind (aCons (eVar 3) (aCons (eVar 3) (aNil)))) (eVar 3))
noncomputable def b_power_l1 : SS := sSeq (b_power_s2)
  (sSeq (sAug 4 oDiv (eC (.int 2)))
  (b_power_s3))
noncomputable def b_power_s4 : SS := sWhile 100 (tVal (eBin oGt (eVar 4) (eC (.int 0)))) (b_power_l1)
noncomputable def b_power : SS := sSeq (b_power_s1)
  (sSeq (b_power_s4)
  (sRet (eVar 2)))
noncomputable def f_power : Fn := mkFn false 2 6 b_power
noncomputable def b_over_table_l1 : SS := sExpr (eMethL mAppend (eVar 3) (aCons (eBin oAdd (eBin oIx (eVar 3) (eUn oNeg (eC (.int 1)))) (eVar 5)) (aNil)))
noncomputable def b_over_table_s1 : SS := sFor (iOf (eCut (eVar 0) (pOf (eVar 2)) (pNo))) (.tp [.nm 4, .nm 5, .nm 6]) (b_over_table_l1)
noncomputable def b_over_table_s2 : SS := sExpr (eMethL mAppend (eVar 1) (aCons (eFn bTuple (aCons (eVar 3) (aNil))) (aNil)))
noncomputable def b_over_table_l2 : SS := sSeq (sSet 3 (eThw (nLst (aCons (eC (.int 0)) (aNil)))))
  (sSeq (b_over_table_s1)
  (b_over_table_s2))
noncomputable def b_over_table_s3 : SS := sFor (iRange1 (aCons (eFn bLen (aCons (eVar 0) (aNil))) (aNil))) (.nm 2) (b_over_table_l2)
noncomputable def b_over_table : SS := sSeq (sSet 1 (eThw (nLst (aNil))))
  (sSeq (b_over_table_s3)
  (sRet (eFn bTuple (aCons (eVar 1) (aNil)))))
noncomputable def f_over_table : Fn := mkFn false 1 7 b_over_table
noncomputable def b_deed_table_s1 : SS := sSet 2 (eBin oAdd (eFrz (nListOf (aCons (eCall f_added (aCons (eVar 0) (aCons (eVar 1) (aNil)))) (aNil)))) (eFrz (nLst (aCons (eC (.int 0)) (aNil)))))
noncomputable def b_deed_table_c1 : ES := eBin oAdd (eVar 6) (eVar 7)
noncomputable def b_deed_table_l1 : SS := sExpr (eMethL mAppend (eVar 3) (aCons (eFn bTuple (aCons (eFrz (nComp (iZip true (aCons (eVar 5) (aCons (eCut (eVar 2) (pOf (eVar 4)) (pNo)) (aNil)))) [6, 7] (.tp [.nm 6, .nm 7]) (tTrue) (b_deed_table_c1))) (aNil))) (aNil)))
noncomputable def b_deed_table_s2 : SS := sFor (iEnum (aCons (eCall f_over_table (aCons (eVar 0) (aNil))) (aNil))) (.tp [.nm 4, .nm 5]) (b_deed_table_l1)
noncomputable def b_deed_table : SS := sSeq (b_deed_table_s1)
  (sSeq (sSet 3 (eThw (nLst (aNil))))
  (sSeq (b_deed_table_s2)
  (sRet (eFn bTuple (aCons (eVar 3) (aNil))))))
noncomputable def f_deed_table : Fn := mkFn false 2 8 b_deed_table
noncomputable def b_table_of_l1 : SS := sSet 2 (eCall f_behind (aCons (eVar 2) (aCons (eCall f_deed_table (aCons (eVar 0) (aCons (eVar 3) (aNil)))) (aNil))))
noncomputable def b_table_of : SS := sSeq (sSet 2 (eCall f_over_table (aCons (eVar 0) (aNil))))
  (sSeq (sFor (iOf (eVar 1)) (.nm 3) (b_table_of_l1))
  (sRet (eVar 2)))
noncomputable def f_table_of : Fn := mkFn false 2 4 b_table_of
noncomputable def b_law_stair_s1 : SS := sPar [5, 6, 7] (aCons (eCall (f_law_take 8) (aCons (eVar 0) (aCons (eC (.int 4)) (aNil)))) (aCons (eCall (f_law_take 8) (aCons (eVar 0) (aCons (eBin oIx (eFrz (nLst (aCons (eC (.int 2)) (aCons (eC (.int 8)) (aCons (eC (.int 30)) (aNil)))))) (eCall (f_law_take 8) (aCons (eVar 0) (aCons (eC (.int 3)) (aNil))))) (aNil)))) (aCons (eBin oAdd (eC (.int 1)) (eCall (f_law_take 8) (aCons (eVar 0) (aCons (eC (.int 4)) (aNil))))) (aNil))))
noncomputable def b_law_stair_s2 : SS := sExpr (eMethL mAppend (eVar 3) (aCons (eTup (aCons (eBin oMul (eVar 5) (eVar 2)) (aCons (eBin oMul (eBin oAdd (eVar 5) (eVar 6)) (eVar 2)) (aCons (eBin oMul (eVar 7) (eVar 2)) (aNil))))) (aNil)))
noncomputable def b_law_stair_l1 : SS := sSeq (b_law_stair_s1)
  (b_law_stair_s2)
noncomputable def b_law_stair_s3 : SS := sFor (iRange1 (aCons (eBin oAdd (eC (.int 1)) (eCall (f_law_take 8) (aCons (eVar 0) (aCons (eVar 1) (aNil))))) (aNil))) (.nm 4) (b_law_stair_l1)
noncomputable def b_law_stair : SS := sSeq (sSet 3 (eThw (nLst (aNil))))
  (sSeq (b_law_stair_s3)
  (sRet (eFn bTuple (aCons (eVar 3) (aNil)))))
noncomputable def f_law_stair : Fn := mkFn false 3 8 b_law_stair
noncomputable def b_law_great : SS := sRet (eBin oIx (eFrz (nLst (aCons (eC (.int 1)) (aCons (eC (.int 1)) (aCons (eC (.int 1)) (aCons (eBin oPow (eC (.int 10)) (eC (.int 6))) (aCons (eBin oPow (eC (.int 10)) (eC (.int 15))) (aNil)))))))) (eCall (f_law_take 8) (aCons (eVar 0) (aCons (eC (.int 5)) (aNil)))))
noncomputable def f_law_great : Fn := mkFn false 1 1 b_law_great
noncomputable def b_law_lap_c1 : ES := eCall (f_law_take 8) (aCons (eVar 0) (aCons (eC (.int 2)) (aNil)))
noncomputable def b_law_lap_s1 : SS := sSet 4 (eFrz (nComp (iRange1 (aCons (eVar 1) (aNil))) [10] (.nm 10) (tTrue) (b_law_lap_c1)))
noncomputable def b_law_lap_s2 : SS := sPar [5, 6] (aCons (eThw (nListOf (aCons (eVar 4) (aNil)))) (aCons (eThw (nLst (aNil))) (aNil)))
noncomputable def b_law_lap_s3 : SS := sPar [8, 9] (aCons (eCall (f_law_take 8) (aCons (eVar 0) (aCons (eC (.int 5)) (aNil)))) (aCons (eCall (f_law_take 8) (aCons (eVar 0) (aCons (eVar 1) (aNil)))) (aNil)))
noncomputable def b_law_lap_s4 : SS := sIf (tVal (eBin oLt (eVar 8) (eC (.int 2)))) (sSeq (sExpr (eMethL mAppend (eVar 6) (aCons (eTup (aCons (eBin oIx (eFrz (nLst (aCons (eC (.str "fill")) (aCons (eC (.str "empty")) (aNil))))) (eBin oIx (eVar 5) (eVar 9))) (aCons (eBin oAdd (eVar 9) (eC (.int 1))) (aNil)))) (aNil))))
  (sAsg (eBin oSub (eC (.int 1)) (eBin oIx (eVar 5) (eVar 9))) (gIx (eVar 5) (eVar 9)))) (sExpr (eMethL mAppend (eVar 6) (aCons (eTup (aCons (eBin oIx (eFrz (nLst (aCons (eC (.str "lower")) (aCons (eC (.str "raise")) (aCons (eC (.str "raise")) (aNil)))))) (eBin oSub (eVar 8) (eC (.int 2)))) (aCons (eBin oAdd (eVar 9) (eC (.int 1))) (aCons (eBin oMul (eVar 3) (eBin oAdd (eC (.int 1)) (eCall (f_law_take 8) (aCons (eVar 0) (aCons (eC (.int 6)) (aNil)))))) (aNil))))) (aNil))))
noncomputable def b_law_lap_l1 : SS := sSeq (b_law_lap_s3)
  (b_law_lap_s4)
noncomputable def b_law_lap_s5 : SS := sFor (iRange1 (aCons (eCall (f_law_take 8) (aCons (eVar 0) (aCons (eBin oAdd (eVar 2) (eC (.int 1))) (aNil)))) (aNil))) (.nm 7) (b_law_lap_l1)
noncomputable def b_law_lap_l2 : SS := sIf (tVal (eBin oNe (eBin oIx (eVar 5) (eVar 9)) (eBin oIx (eVar 4) (eVar 9)))) (sExpr (eMethL mAppend (eVar 6) (aCons (eTup (aCons (eBin oIx (eFrz (nLst (aCons (eC (.str "fill")) (aCons (eC (.str "empty")) (aNil))))) (eBin oIx (eVar 5) (eVar 9))) (aCons (eBin oAdd (eVar 9) (eC (.int 1))) (aNil)))) (aNil)))) (sNx)
noncomputable def b_law_lap_s6 : SS := sFor (iRange1 (aCons (eVar 1) (aNil))) (.nm 9) (b_law_lap_l2)
noncomputable def b_law_lap_c2 : ES := eBin oIx (eFrz (nLst (aCons (eC (.str "low")) (aCons (eC (.str "high")) (aNil))))) (eVar 8)
noncomputable def b_law_lap_s7 : SS := sRet (eTup (aCons (eVar 6) (aCons (eFn bTuple (aCons (eFrz (nComp (iOf (eVar 4)) [8] (.nm 8) (tTrue) (b_law_lap_c2))) (aNil))) (aNil))))
noncomputable def b_law_lap : SS := sSeq (b_law_lap_s1)
  (sSeq (b_law_lap_s2)
  (sSeq (b_law_lap_s5)
  (sSeq (b_law_lap_s6)
  (b_law_lap_s7))))
noncomputable def f_law_lap : Fn := mkFn false 4 11 b_law_lap
noncomputable def b_put_together_c1 : ES := eBin oAdd (eVar 2) (eVar 3)
noncomputable def b_put_together : SS := sRet (eFn bTuple (aCons (eFrz (nComp (iZip true (aCons (eVar 0) (aCons (eVar 1) (aNil)))) [2, 3] (.tp [.nm 2, .nm 3]) (tTrue) (b_put_together_c1))) (aNil)))
noncomputable def f_put_together : Fn := mkFn false 2 4 b_put_together
noncomputable def b_sums_of_c1 : ES := eC (.int 0)
noncomputable def b_sums_of_s1 : SS := sSet 2 (eFn bTuple (aCons (eFrz (nComp (iOf (eVar 0)) [4] (.nm 4) (tTrue) (b_sums_of_c1))) (aNil)))
noncomputable def b_sums_of_l1 : SS := sSet 2 (eCall f_put_together (aCons (eVar 2) (aCons (eCall f_added (aCons (eVar 0) (aCons (eVar 3) (aNil)))) (aNil))))
noncomputable def b_sums_of : SS := sSeq (b_sums_of_s1)
  (sSeq (sFor (iOf (eVar 1)) (.nm 3) (b_sums_of_l1))
  (sRet (eVar 2)))
noncomputable def f_sums_of : Fn := mkFn false 2 5 b_sums_of
noncomputable def b_totals_of_s1 : SS := sPar [1, 2] (aCons (eThw (nLst (aNil))) (aCons (eC (.int 0)) (aNil)))
noncomputable def b_totals_of_l1 : SS := sSeq (sAug 2 oAddI (eVar 3))
  (sExpr (eMethL mAppend (eVar 1) (aCons (eVar 2) (aNil))))
noncomputable def b_totals_of : SS := sSeq (b_totals_of_s1)
  (sSeq (sFor (iOf (eUn oRev (eVar 0))) (.nm 3) (b_totals_of_l1))
  (sRet (eFn bTuple (aCons (eUn oRev (eVar 1)) (aNil)))))
noncomputable def f_totals_of : Fn := mkFn false 1 4 b_totals_of
noncomputable def b_levels_of_s1 : SS := sSet 1 (eBin oAdd (eFrz (nListOf (aCons (eCut (eVar 0) (pOf (eC (.int 1))) (pNo)) (aNil)))) (eFrz (nLst (aCons (eC (.int 0)) (aNil)))))
noncomputable def b_levels_of_c1 : ES := eBin oSub (eVar 2) (eVar 3)
noncomputable def b_levels_of_s2 : SS := sRet (eFn bTuple (aCons (eFrz (nComp (iZip true (aCons (eVar 0) (aCons (eVar 1) (aNil)))) [2, 3] (.tp [.nm 2, .nm 3]) (tTrue) (b_levels_of_c1))) (aNil)))
noncomputable def b_levels_of : SS := sSeq (b_levels_of_s1)
  (b_levels_of_s2)
noncomputable def f_levels_of : Fn := mkFn false 1 4 b_levels_of
noncomputable def b_far_totals_s1 : SS := sRet (eIf (tVal (eBin oEq (eVar 3) (eC (.int 0)))) (eVar 4) (eCall f_led (aCons (eCall f_power (aCons (eCall f_table_of (aCons (eVar 0) (aCons (eVar 2) (aNil)))) (aCons (eVar 3) (aNil)))) (aCons (eVar 4) (aNil)))))
noncomputable def b_far_totals : SS := sSeq (sSet 4 (eCall f_totals_of (aCons (eVar 1) (aNil))))
  (b_far_totals_s1)
noncomputable def f_far_totals : Fn := mkFn false 4 5 b_far_totals
noncomputable def b_far_levels : SS := sRet (eCall f_levels_of (aCons (eCall f_far_totals (aCons (eVar 0) (aCons (eVar 1) (aCons (eVar 2) (aCons (eVar 3) (aNil)))))) (aNil)))
noncomputable def f_far_levels : Fn := mkFn false 4 4 b_far_levels
noncomputable def b_ran_over_s1 : SS := sPar [4, 5] (aCons (eCall f_totals_of (aCons (eVar 1) (aNil))) (aCons (eCall f_far_totals (aCons (eVar 0) (aCons (eVar 1) (aCons (eVar 2) (aCons (eVar 3) (aNil)))))) (aNil)))
noncomputable def b_ran_over_s2 : SS := sSet 6 (eCall f_sums_of (aCons (eVar 0) (aCons (eVar 2) (aNil))))
noncomputable def b_ran_over_c1 : ES := eBin oSub (eBin oAdd (eVar 7) (eBin oMul (eVar 3) (eVar 8))) (eVar 9)
noncomputable def b_ran_over_s3 : SS := sRet (eFn bTuple (aCons (eFrz (nComp (iZip3 true (aCons (eVar 4) (aCons (eVar 6) (aCons (eVar 5) (aNil))))) [7, 8, 9] (.tp [.nm 7, .nm 8, .nm 9]) (tTrue) (b_ran_over_c1))) (aNil)))
noncomputable def b_ran_over : SS := sSeq (b_ran_over_s1)
  (sSeq (b_ran_over_s2)
  (b_ran_over_s3))
noncomputable def f_ran_over : Fn := mkFn false 4 10 b_ran_over
end LW
namespace LW
open PySem L2
theorem minL_le : ∀ (x : Int) (r : List Int), minL x r ≤ x ∧ ∀ y ∈ r, minL x r ≤ y
  | x, [] => ⟨Int.le_refl _, fun y h => by cases h⟩
  | x, y :: r => by
    have ih := minL_le (if y < x then y else x) r
    have e : minL x (y :: r) = minL (if y < x then y else x) r := rfl
    rw [e]
    refine ⟨?_, fun z hz => ?_⟩
    · have := ih.1
      split at this <;> omega
    · rcases List.mem_cons.mp hz with rfl | hz
      · have := ih.1
        split at this <;> omega
      · exact ih.2 z hz
theorem minL_mem : ∀ (x : Int) (r : List Int), minL x r ∈ x :: r
  | x, [] => by simp [minL]
  | x, y :: r => by
    have ih := minL_mem (if y < x then y else x) r
    have e : minL x (y :: r) = minL (if y < x then y else x) r := rfl
    rw [e]
    rcases List.mem_cons.mp ih with h | h
    · rw [h]
      split <;> simp
    · exact List.mem_cons_of_mem _ (List.mem_cons_of_mem _ h)
def mn : List Int → Int
  | [] => 0
  | x :: r => minL x r
theorem mn_le {l : List Int} {y : Int} (h : y ∈ l) : mn l ≤ y := by
  cases l with
  | nil => cases h
  | cons x r =>
    rcases List.mem_cons.mp h with rfl | h
    · exact (minL_le _ r).1
    · exact (minL_le x r).2 y h
theorem mn_mem {l : List Int} (h : l ≠ []) : mn l ∈ l := by
  cases l with
  | nil => exact absurd rfl h
  | cons x r => exact minL_mem x r
theorem ints_of (zs : List Int) : intsOf (zs.map .int) = some zs := by
  induction zs with
  | nil => rfl
  | cons z zs ih =>
    show (intsOf (zs.map .int)).map (z :: ·) = _
    rw [ih]
    rfl
theorem r_minL {M : Mem} {zs : List Int} (h : zs ≠ []) : bMin [.lst (zs.map .int)] M = .ok (.int (mn zs)) M := by
  cases zs with
  | nil => exact absurd rfl h
  | cons z zs =>
    have e : (lstOf M (.lst ((z :: zs).map D.int))).bind intsOf = some (z :: zs) := by rw [l_lst, Option.bind_some]; exact ints_of _
    unfold bMin
    simp only [e]
    rfl
/-- the least of f from a on, k more behind it -/
def mnI (f : Nat → Int) (a : Nat) : Nat → Int
  | 0 => f a
  | k + 1 => if f (a + k + 1) < mnI f a k then f (a + k + 1) else mnI f a k
theorem le_mnI {f : Nat → Int} {a : Nat} {x : Int} : ∀ {k : Nat}, x ≤ mnI f a k ↔ ∀ i, a ≤ i → i ≤ a + k → x ≤ f i
  | 0 => ⟨fun h i h1 h2 => by have : i = a := by omega
                              subst this; exact h, fun h => h a (Nat.le_refl _) (Nat.le_refl _)⟩
  | k + 1 => by
    have ih := le_mnI (f := f) (a := a) (x := x) (k := k)
    unfold mnI
    constructor
    · intro h i h1 h2
      by_cases hi : i = a + k + 1
      · subst hi
        split at h <;> omega
      · refine ih.mp ?_ i h1 (by omega)
        split at h <;> omega
    · intro h
      have h1 := h (a + k + 1) (by omega) (by omega)
      have h2 := ih.mpr fun i h1 h2 => h i h1 (by omega)
      split <;> assumption
theorem mn_map {f : Nat → Int} {a k : Nat} : mn ((List.range (k + 1)).map fun j => f (a + j)) = mnI f a k := by
  refine Int.le_antisymm (le_mnI.mpr fun i h1 h2 => mn_le (List.mem_map.mpr ⟨i - a, List.mem_range.mpr (by omega), by congr 1; omega⟩)) ?_
  have := mn_mem (l := (List.range (k + 1)).map fun j => f (a + j)) (by simp)
  obtain ⟨j, hj, e⟩ := List.mem_map.mp this
  rw [← e]
  exact le_mnI.mp (Int.le_refl _) _ (by omega) (by have := List.mem_range.mp hj; omega)
theorem mnI_congr {f g : Nat → Int} {a k : Nat} (h : ∀ i, a ≤ i → i ≤ a + k → f i = g i) : mnI f a k = mnI g a k :=
  Int.le_antisymm (le_mnI.mpr fun i h1 h2 => by rw [← h i h1 h2]; exact le_mnI.mp (Int.le_refl _) i h1 h2) (le_mnI.mpr fun i h1 h2 => by rw [h i h1 h2]; exact le_mnI.mp (Int.le_refl _) i h1 h2)
theorem eq_of_le {a b : Int} (h : ∀ x : Int, x ≤ a ↔ x ≤ b) : a = b := Int.le_antisymm ((h a).mp (Int.le_refl _)) ((h b).mpr (Int.le_refl _))
abbrev Tb := Nat → Nat → Int
/-- A first, then B -/
def beh (A B : Tb) : Tb := fun i p => if i ≤ p then mnI (fun q => B i q + A q p) i (p - i) else 0
theorem le_beh {A B : Tb} {i p : Nat} {x : Int} (h : i ≤ p) : x ≤ beh A B i p ↔ ∀ q, i ≤ q → q ≤ p → x ≤ B i q + A q p := by
  unfold beh
  rw [if_pos h, le_mnI]
  exact ⟨fun z q h1 h2 => z q h1 (by omega), fun z q h1 h2 => z q h1 (by omega)⟩
theorem beh_assoc (A B C : Tb) : beh (beh A B) C = beh A (beh B C) := by
  funext i p
  by_cases h : i ≤ p
  · refine eq_of_le fun x => ?_
    rw [le_beh h, le_beh h]
    constructor
    · intro z r h1 h2
      have : x - A r p ≤ beh B C i r := (le_beh h1).mpr fun q h3 h4 => by
        have z1 := z q h3 (by omega)
        have : x - C i q ≤ beh A B q p := by omega
        have := (le_beh (by omega)).mp this r h4 h2
        omega
      omega
    · intro z q h1 h2
      have : x - C i q ≤ beh A B q p := (le_beh h2).mpr fun r h3 h4 => by
        have z1 := z r (by omega) h4
        have : x - A r p ≤ beh B C i r := by omega
        have := (le_beh (by omega)).mp this q h1 h3
        omega
      omega
  · unfold beh
    rw [if_neg h, if_neg h]
theorem beh_diag (A B : Tb) (n : Nat) : beh A B n n = B n n + A n n := by
  unfold beh
  rw [if_pos (Nat.le_refl _), Nat.sub_self]
  rfl
/-- k + 1 of a table behind one another -/
def pw (A : Tb) : Nat → Tb
  | 0 => A
  | k + 1 => beh (pw A k) A
theorem pw_add (A : Tb) (a : Nat) : ∀ b : Nat, beh (pw A a) (pw A b) = pw A (a + b + 1)
  | 0 => rfl
  | b + 1 => by
    show beh (pw A a) (beh (pw A b) A) = beh (pw A (a + (b + 1))) A
    rw [← beh_assoc, pw_add A a b]
    rfl
theorem pw_diag {A : Tb} {n : Nat} (h : A n n = 0) : ∀ k, pw A k n n = 0
  | 0 => h
  | k + 1 => by
    show beh (pw A k) A n n = 0
    rw [beh_diag, h, pw_diag h k]
    rfl
/-- totals led by a table of n rows; at n nothing -/
def ledF (n : Nat) (A : Tb) (t : Nat → Int) : Nat → Int := fun i => mnI (fun q => A i q + t q) i (n - i)
theorem le_ledF {n : Nat} {A : Tb} {t : Nat → Int} {i : Nat} {x : Int} (h : i ≤ n) : x ≤ ledF n A t i ↔ ∀ q, i ≤ q → q ≤ n → x ≤ A i q + t q := by
  unfold ledF
  rw [le_mnI]
  exact ⟨fun z q h1 h2 => z q h1 (by omega), fun z q h1 h2 => z q h1 (by omega)⟩
theorem ledF_beh {n : Nat} {A B : Tb} {t : Nat → Int} {i : Nat} (h : i ≤ n) : ledF n (beh A B) t i = ledF n B (ledF n A t) i := by
  refine eq_of_le fun x => ?_
  rw [le_ledF h, le_ledF h]
  constructor
  · intro z q h1 h2
    have : x - B i q ≤ ledF n A t q := (le_ledF h2).mpr fun p h3 h4 => by
      have z1 := z p (by omega) h4
      have : x - t p ≤ beh A B i p := by omega
      have := (le_beh (by omega)).mp this q h1 h3
      omega
    omega
  · intro z p h1 h2
    have : x - t p ≤ beh A B i p := (le_beh h1).mpr fun q h3 h4 => by
      have z1 := z q h3 (by omega)
      have : x - B i q ≤ ledF n A t q := by omega
      have := (le_ledF (by omega)).mp this p h4 h2
      omega
    omega
theorem ledF_end {n : Nat} {A : Tb} {t : Nat → Int} (h0 : A n n = 0) (ht : t n = 0) : ledF n A t n = 0 := by
  unfold ledF
  rw [Nat.sub_self]
  show A n n + t n = 0
  rw [h0, ht]
  rfl
theorem ledF_congr {n : Nat} {A B : Tb} {t u : Nat → Int} {i : Nat} (h : i ≤ n) (hA : ∀ p, i ≤ p → p ≤ n → A i p = B i p) (ht : ∀ p, i ≤ p → p ≤ n → t p = u p) : ledF n A t i = ledF n B u i :=
  mnI_congr fun q h1 h2 => by rw [hA q h1 (by omega), ht q h1 (by omega)]
/-- the mosts from i on to p together -/
def sumM (m : Nat → Int) (i : Nat) : Nat → Int
  | 0 => 0
  | p + 1 => if i ≤ p then sumM m i p + m p else 0
theorem sumM_self (m : Nat → Int) (i : Nat) : sumM m i i = 0 := by
  cases i with
  | zero => rfl
  | succ i => show (if i + 1 ≤ i then _ else _) = _; rw [if_neg (by omega)]
theorem sumM_succ {m : Nat → Int} {i p : Nat} (h : i ≤ p) : sumM m i (p + 1) = sumM m i p + m p := by
  show (if i ≤ p then _ else _) = _
  rw [if_pos h]
theorem sumM_add {m : Nat → Int} {i q : Nat} (h : i ≤ q) : ∀ p, q ≤ p → sumM m i q + sumM m q p = sumM m i p
  | p, hp => by
    induction p with
    | zero =>
      have : q = 0 := by omega
      subst this
      rw [sumM_self]
      omega
    | succ p ih =>
      by_cases hq : q = p + 1
      · subst hq
        rw [sumM_self]
        omega
      · rw [sumM_succ (by omega : q ≤ p), sumM_succ (by omega : i ≤ p), ← ih (by omega)]
        omega
/-- a deed that adds, and running over behind it -/
def addT (m : Nat → Int) (a : Nat → Int) : Tb := fun i p => sumM m i p + a p
/-- tables alike: at the places that count -/
def Tq (n : Nat) (A B : Tb) : Prop := ∀ i p, i ≤ p → p ≤ n → A i p = B i p
theorem Tq.refl {n : Nat} {A : Tb} : Tq n A A := fun _ _ _ _ => rfl
theorem Tq.symm {n : Nat} {A B : Tb} (h : Tq n A B) : Tq n B A := fun i p h1 h2 => (h i p h1 h2).symm
theorem Tq.trans {n : Nat} {A B C : Tb} (h : Tq n A B) (g : Tq n B C) : Tq n A C := fun i p h1 h2 => (h i p h1 h2).trans (g i p h1 h2)
theorem Tq.beh {n : Nat} {A A' B B' : Tb} (h : Tq n A A') (g : Tq n B B') : Tq n (beh A B) (beh A' B') := fun i p h1 h2 => by
  unfold LW.beh
  rw [if_pos h1, if_pos h1]
  exact mnI_congr fun q h3 h4 => by rw [h q p (by omega) h2, g i q h3 (by omega)]
theorem Tq.pw {n : Nat} {A B : Tb} (h : Tq n A B) : ∀ k, Tq n (pw A k) (pw B k)
  | 0 => h
  | k + 1 => (Tq.pw h k).beh h
/-- running over, then deeds that add -/
def runT (m : Nat → Int) : List (Nat → Int) → Tb → Tb
  | [], A => A
  | a :: r, A => runT m r (beh A (addT m a))
theorem runT_app (m : Nat → Int) : ∀ (r q : List (Nat → Int)) (A : Tb), runT m (r ++ q) A = runT m q (runT m r A)
  | [], _, _ => rfl
  | a :: r, q, A => runT_app m r q (beh A (addT m a))
/-- the table of deeds -/
def tabOf (m : Nat → Int) (r : List (Nat → Int)) : Tb := runT m r (sumM m)
theorem over_idem {n : Nat} (m : Nat → Int) : Tq n (beh (sumM m) (sumM m)) (sumM m) := fun i p h1 h2 => by
  refine eq_of_le fun x => ?_
  rw [le_beh h1]
  constructor
  · intro z
    have := z i (Nat.le_refl _) h1
    rw [sumM_self] at this
    omega
  · intro z q h3 h4
    have := sumM_add (m := m) h3 p h4
    omega
theorem tab_diag {m : Nat → Int} {n : Nat} (r : List (Nat → Int)) (h : ∀ a ∈ r, a n = 0) : tabOf m r n n = 0 := by
  unfold tabOf
  have key : ∀ (r : List (Nat → Int)) (A : Tb), (∀ a ∈ r, a n = 0) → A n n = 0 → runT m r A n n = 0 := by
    intro r
    induction r with
    | nil => intro A _ h; exact h
    | cons a r ih =>
      intro A hr h
      refine ih _ (fun b hb => hr b (by simp [hb])) ?_
      rw [beh_diag, h]
      show sumM m n n + a n + 0 = 0
      rw [sumM_self, hr a (by simp)]
      rfl
  exact key r _ h (sumM_self m n)
end LW
namespace LW
open PySem L2
@[simp] theorem r_addL (xs ys : List D) (M : Mem) : oAdd (.lst xs) (.lst ys) M = lim (xs.length + ys.length) (.ok (.lst (xs ++ ys)) M) := id rfl
theorem r_append {b h : Nat} {v : D} {xs : List D} {M : Mem} (e : M[h]? = some (.lst xs)) (hb : b ≤ h) (hl : xs.length < 1000000) : mAppend b (.ref h) [v] M = .ok .non (M.set h (.lst (xs ++ [v]))) := by
  unfold mAppend
  simp only [e]
  rw [if_pos ⟨by simp [stOk, hb], hl⟩]
theorem enum_len : ∀ (xs : List D) (k : Nat), (enumD k xs).length = xs.length
  | [], k => rfl
  | x :: xs, k => by simp [enumD, enum_len xs]
theorem zip_len {xs ys : List D} : (zipD xs ys).length = min xs.length ys.length := by simp [zipD]
theorem get_app {M : Mem} {c : Cell} : (M ++ [c])[M.length]? = some c := by simp
theorem set_get {M : Mem} {h : Nat} {c : Cell} (hl : h < M.length) : (M.set h c)[h]? = some c := by simp [hl]
theorem atI_k {α : Type} {xs : List α} {k : Nat} {x : α} (h : xs[k]? = some x) {i : Int} (e : i = (k : Int)) : atI xs i = some x := by
  subst e
  exact atI_nat h
def rowL (n : Nat) (A : Tb) (i : Nat) : List Int := (List.range (n + 1 - i)).map fun j => A i (i + j)
def rowD (n : Nat) (A : Tb) (i : Nat) : List D := (rowL n A i).map .int
def tabD (n : Nat) (A : Tb) : List D := (List.range n).map fun i => .tup (rowD n A i)
def TabR (n : Nat) (A : Tb) (d : D) : Prop := ∃ rows, Sqd d rows ∧ rows.length = n ∧ ∀ i, i < n → ∃ r, rows[i]? = some r ∧ Sqd r (rowD n A i)
theorem rowL_len {n i : Nat} {A : Tb} : (rowL n A i).length = n + 1 - i := by simp [rowL]
theorem rowD_len {n i : Nat} {A : Tb} : (rowD n A i).length = n + 1 - i := by simp [rowD, rowL_len]
theorem rowL_get {n i j : Nat} {A : Tb} (h : i + j ≤ n) : (rowL n A i)[j]? = some (A i (i + j)) := by
  unfold rowL
  rw [List.getElem?_map, List.getElem?_range (by omega)]
  rfl
theorem rowD_get {n i j : Nat} {A : Tb} (h : i + j ≤ n) : (rowD n A i)[j]? = some (.int (A i (i + j))) := by
  unfold rowD
  rw [List.getElem?_map, rowL_get h]
  rfl
theorem tabD_len {n : Nat} {A : Tb} : (tabD n A).length = n := by simp [tabD]
theorem tabD_get {n i : Nat} {A : Tb} (h : i < n) : (tabD n A)[i]? = some (.tup (rowD n A i)) := by
  unfold tabD
  rw [List.getElem?_map, List.getElem?_range h]
  rfl
theorem tabR_tup (n : Nat) (A : Tb) : TabR n A (.tup (tabD n A)) := ⟨tabD n A, .t _, tabD_len, fun i h => ⟨_, tabD_get h, .t _⟩⟩
theorem below_rowD {n i k : Nat} {A : Tb} : belows k (rowD n A i) = true := below_ints _
theorem below_tabD {n k : Nat} {A : Tb} : belows k (tabD n A) = true := by
  rw [belows_iff]
  intro x hx
  obtain ⟨i, _, rfl⟩ := List.mem_map.mp hx
  rw [w_tup]
  exact below_rowD
/-- a list of ints, in short -/
def vecD (n : Nat) (t : Nat → Int) : List D := (List.range n).map fun i => .int (t i)
theorem vecD_len {n : Nat} {t : Nat → Int} : (vecD n t).length = n := by simp [vecD]
theorem vecD_get {n i : Nat} {t : Nat → Int} (h : i < n) : (vecD n t)[i]? = some (.int (t i)) := by
  unfold vecD
  rw [List.getElem?_map, List.getElem?_range h]
  rfl
theorem vecD_succ {n : Nat} {t : Nat → Int} : vecD (n + 1) t = vecD n t ++ [.int (t n)] := by
  unfold vecD
  rw [List.range_succ, List.map_append]
  rfl
theorem vecD_ints {n : Nat} {t : Nat → Int} : vecD n t = ((List.range n).map t).map .int := by
  unfold vecD
  rw [List.map_map]
  rfl
theorem vecD_eq {n : Nat} {t u : Nat → Int} (h : ∀ i, i < n → t i = u i) : vecD n t = vecD n u := by
  unfold vecD
  refine List.map_congr_left fun i hi => ?_
  rw [h i (List.mem_range.mp hi)]
theorem below_vecD {n k : Nat} {t : Nat → Int} : belows k (vecD n t) = true := by
  rw [vecD_ints]
  exact below_ints _
theorem ok_of {f : Fn} {ds : List D} {M : Mem} {d : D} (h : Wr (f ds M) fun d' M' => d' = d ∧ M' = M) : f ds M = .ok d M := by
  obtain ⟨a, M', e, rfl, rfl⟩ := wr_of h
  exact e
theorem behind_ok {x y : D} {n : Nat} {A B : Tb} {M : Mem} (hn : n ≤ 1000) (hx : TabR n A x) (hy : TabR n B y) (h0 : A n n = 0) : f_behind [x, y] M = .ok (.tup (tabD n (beh A B))) M := by
  obtain ⟨rx, sx, lx, gx⟩ := hx
  obtain ⟨ry, sy, ly, gy⟩ := hy
  refine ok_of (fn_wp rfl fun P hR => ?_)
  obtain ⟨RX, hRX⟩ : ∃ RX, RX = rx ++ [D.tup [.int 0]] := ⟨_, rfl⟩
  have lRX : RX.length = n + 1 := by rw [hRX, List.length_append, lx]; rfl
  have gRX : ∀ q, q ≤ n → ∃ r, RX[q]? = some r ∧ Sqd r (rowD n A q) := fun q hq => by
    by_cases h : q < n
    · obtain ⟨r, h1, h2⟩ := gx q h
      exact ⟨r, by rw [hRX, List.getElem?_append_left (by omega)]; exact h1, h2⟩
    · have : q = n := by omega
      subst this
      refine ⟨.tup [.int 0], by rw [hRX, List.getElem?_append_right (by omega), lx, Nat.sub_self]; rfl, ?_⟩
      have : rowD q A q = [.int 0] := by
        unfold rowD rowL
        rw [show q + 1 - q = 1 by omega]
        show [D.int (A q (q + 0))] = _
        rw [Nat.add_zero, h0]
      rw [this]
      exact .t _
  have e1 : rx.length + 1 ≤ 1000000 := by omega
  simp [b_behind, b_behind_s1, b_behind_s4, sx.q, e1, ← hRX, sy.q, sy.g]
  refine wp_for (fun i s M' => ∃ v4 v5 v6 v7 v8, s = [some x, some y, some (.lst RX), some (.ref M.length), v4, v5, v6, v7, v8] ∧ Pf M M' ∧ M'[M.length]? = some (.lst ((tabD n (beh A B)).take i))) ?_ ?_ ?_
  · exact ⟨_, _, _, _, _, rfl, .app .refl _, by simp⟩
  · rintro i d s M' hi hd ⟨v4, v5, v6, v7, v8, rfl, pf, hc⟩
    rw [enum_len, ly] at hi
    obtain ⟨row, hrow, rfl⟩ := enum_get _ _ _ _ hd
    obtain ⟨r, hr, sr⟩ := gy i hi
    rw [hrow] at hr
    cases hr
    rw [Nat.zero_add]
    refine ⟨[some x, some y, some (.lst RX), some (.ref M.length), some (.int i), some row, v6, v7, v8], by simp, fun P1 hN _ _ _ _ => ?_⟩
    have hl := pf.len
    have hlt := lt_of_get hc
    have lenR : ∀ M, bLen [D.lst RX] M = .ok (.int ((n : Int) + 1)) M := fun M => by rw [r_len (q_lst M RX), lRX]; rfl
    have rg : ∀ M, rng2 [.int (i : Int), .int ((n : Int) + 1)] M = .ok (rngD i (n + 1 - i), []) M := fun M => by
      rw [rng2_ok ⟨by omega, by omega⟩ ⟨by omega, by omega⟩]
      congr 3
      omega
    have e0 : (0 : Nat) ≤ 1000000 := by omega
    simp only [b_behind_l2, b_behind_s2, r_seq, r_set, r_thw, r_nlst, r_anil, bind_ok, List.length_nil, lim_ok e0, toS_ok, sq_nx]
    simp [lenR, rg]
    refine wp_for (fun j s M2 => ∃ v7 v8, s = [some x, some y, some (.lst RX), some (.ref M.length), some (.int i), some row, some (.ref M'.length), v7, v8] ∧ Pf M M2 ∧ M2[M.length]? = some (.lst ((tabD n (beh A B)).take i)) ∧ M2[M'.length]? = some (.lst ((rowD n (beh A B) i).take j))) ?_ ?_ ?_
    · exact ⟨_, _, by simp; exact ⟨rfl, rfl⟩, pf.app _, by rw [List.getElem?_append_left (by omega)]; exact hc, by simp⟩
    · rintro j d s M2 hj hd ⟨v7, v8, rfl, pf2, hc2, hp2⟩
      rw [rngD_len] at hj
      obtain ⟨_, rfl⟩ := rngD_get hd
      refine ⟨_, t_nm _ _, fun P2 hN2 _ _ _ _ => ?_⟩
      have hlt2 := lt_of_get hp2
      have rg2 : rng2 [.int (i : Int), .int ((i : Int) + (j : Int) + 1)] M2 = .ok (rngD i (j + 1), []) M2 := by
        rw [rng2_ok ⟨by omega, by omega⟩ ⟨by omega, by omega⟩]
        congr 3
        omega
      have lr : (rngD (i : Int) (j + 1)).length ≤ 1000000 := by rw [rngD_len]; omega
      simp [b_behind_l1, rg2, lr, hp2, wipeD]
      refine wp_map (fun d => match d with | .int z => .int (B i z.toNat + A z.toNat (i + j)) | _ => .non) ?_ (by simp) ?_
      · intro d hd
        obtain ⟨k, hk, rfl⟩ := rngD_mem hd
        refine ⟨_, t_nm _ _, ?_⟩
        obtain ⟨r, g1, g2⟩ := gRX (i + k) (by omega)
        have a1 : atI (rowD n B i) ((i : Int) + (k : Int) - (i : Int)) = some (.int (B i (i + k))) := atI_k (rowD_get (by omega)) (by omega)
        have a2 : atI RX ((i : Int) + (k : Int)) = some r := atI_k g1 (by omega)
        have a3 : atI (rowD n A (i + k)) ((i : Int) + (j : Int) - ((i : Int) + (k : Int))) = some (.int (A (i + k) (i + j))) := by
          have := rowD_get (n := n) (A := A) (i := i + k) (j := j - k) (by omega)
          rw [show i + k + (j - k) = i + j by omega] at this
          exact atI_k this (by omega)
        have ez : ((i : Int) + (k : Int)).toNat = i + k := by omega
        simp [b_behind_c1, sr.q, a1, a2, g2.q, a3, ez]
      · have eY : (rngD (i : Int) (j + 1)).map (fun d => match d with | .int z => D.int (B i z.toNat + A z.toNat (i + j)) | _ => .non) = ((List.range (j + 1)).map fun k => B i (i + k) + A (i + k) (i + j)).map .int := by
          unfold rngD
          rw [List.map_map, List.map_map]
          refine List.map_congr_left fun k hk => ?_
          show D.int _ = D.int _
          congr 2
        rw [eY]
        have mm := r_minL (M := M2) (zs := (List.range (j + 1)).map fun k => B i (i + k) + A (i + k) (i + j)) (by simp)
        have em : mn ((List.range (j + 1)).map fun k => B i (i + k) + A (i + k) (i + j)) = beh A B i (i + j) := by
          rw [mn_map (f := fun q => B i q + A q (i + j))]
          unfold beh
          rw [if_pos (by omega)]
          rw [show i + j - i = j by omega]
        rw [em] at mm
        have ap := r_append (b := M.length) (v := .int (beh A B i (i + j))) hp2 (by omega) (by rw [List.length_take]; have := rowD_len (n := n) (A := beh A B) (i := i); omega)
        simp only [mm, ap, toS_ok, bind_ok, wp_nx]
        refine hN2 _ _ (by simp) ⟨_, _, rfl, pf2.set hl _, ?_, ?_⟩
        · rw [List.getElem?_set_ne (by omega)]
          exact hc2
        · rw [set_get hlt2, List.take_add_one, rowD_get (by omega)]
          rfl
    · rintro s2 M2 ⟨v7, v8, rfl, pf2, hc2, hp2⟩
      rw [rngD_len, List.take_of_length_le (by rw [rowD_len]; omega)] at hp2
      have tp := r_tuple (M := M2) (x := .ref M'.length) (ys := rowD n (beh A B) i) (by simp [hp2])
      have ap := r_append (b := M.length) (v := .tup (rowD n (beh A B) i)) hc2 (by omega) (by rw [List.length_take]; have := tabD_len (n := n) (A := beh A B); omega)
      have hlt2 := lt_of_get hc2
      simp [b_behind_s3, hc2, tp, ap]
      refine hN _ _ (by simp) ⟨_, _, _, _, _, rfl, pf2.set (Nat.le_refl _) _, ?_⟩
      rw [set_get hlt2, List.take_add_one, tabD_get hi]
      rfl
  · rintro s' M' ⟨v4, v5, v6, v7, v8, rfl, pf, hc⟩
    rw [enum_len, ly, List.take_of_length_le (by rw [tabD_len]; omega)] at hc
    have tp := r_tuple (M := M') (x := .ref M.length) (ys := tabD n (beh A B)) (by simp [hc])
    simp [tp]
    exact hR _ _ (by simp [below_tabD]) ⟨rfl, pf.take⟩
end LW
namespace LW
open PySem L2
section
variable {b : Nat} {s : Slots} {M : Mem} {f : ES} {c : ET} {t : SS} {o : D → D → Mem → R D}
@[simp] theorem r_aug (i : Nat) : sAug i o f b s M = (match s[i]? with | some (some x) => (f b s M).toS s fun y M1 => (o x y M1).toS s fun z M2 => .nx (s.set i (some z)) M2 | _ => .bad) := id rfl
@[simp] theorem r_while (n : Nat) : sWhile n c t b s M = whileL b c t n s M := id rfl
end
theorem zip_add {xs ys : List Int} {b : Nat} {hs : List Nat} {M M0 : Mem} {i j : Nat} {s : Slots} {e : ES} (he : e = eBin oAdd (eVar i) (eVar j)) (hij : i ≠ j) (hi : i < s.length) (hj : j < s.length) (hg : gdOk hs M0 M) :
    compL b hs M0 (.tp [.nm i, .nm j]) tTrue e s (zipD (xs.map .int) (ys.map .int)) M = .ok ((List.zipWith (· + ·) xs ys).map .int) M := by
  subst he
  have e : (List.zipWith (· + ·) xs ys).map D.int = (zipD (xs.map .int) (ys.map .int)).map (fun d => match d with | .tup [.int x, .int y] => D.int (x + y) | _ => .non) := by
    unfold zipD
    rw [List.zipWith_map, List.map_zipWith, List.map_zipWith]
  rw [e]
  refine comp_map _ (fun d hd => ?_) hg
  have : ∃ x y, d = .tup [.int x, .int y] := by
    unfold zipD at hd
    rw [List.zipWith_map, List.mem_iff_getElem?] at hd
    obtain ⟨k, hk⟩ := hd
    rw [List.getElem?_zipWith] at hk
    split at hk
    · cases hk
      exact ⟨_, _, rfl⟩
    · cases hk
  obtain ⟨x, y, rfl⟩ := this
  refine ⟨(s.set i (some (.int x))).set j (some (.int y)), by simp, ?_⟩
  have g1 : ((s.set i (some (D.int x))).set j (some (D.int y)))[i]? = some (some (.int x)) := by
    rw [List.getElem?_set_ne (Ne.symm hij)]
    simp [hi]
  have g2 : ((s.set i (some (D.int x))).set j (some (D.int y)))[j]? = some (some (.int y)) := by simp [hj]
  simp only [r_bin, r_var, g1, g2, bind_ok, r_addI]
/-- ends: a vector with nought behind it -/
theorem vec_ends {n : Nat} {t : Nat → Int} (h : t n = 0) : vecD n t ++ [.int 0] = vecD (n + 1) t := by rw [vecD_succ, h]
def segL (t : Nat → Int) (i k : Nat) : List Int := (List.range k).map fun j => t (i + j)
theorem drop_vec {n i : Nat} {t : Nat → Int} : (vecD n t).drop i = (segL t i (n - i)).map .int := by
  refine List.ext_getElem? fun j => ?_
  rw [List.getElem?_drop, List.getElem?_map]
  unfold segL
  by_cases h : i + j < n
  · rw [vecD_get h, List.getElem?_map, List.getElem?_range (by omega)]
    rfl
  · rw [List.getElem?_eq_none (by rw [vecD_len]; omega), List.getElem?_eq_none (by simp; omega)]
    rfl
theorem zip_seg {n i : Nat} {A : Tb} {t : Nat → Int} (h : i ≤ n) : List.zipWith (· + ·) (rowL n A i) (segL t i (n + 1 - i)) = rowL n (fun i p => A i p + t p) i := by
  refine List.ext_getElem? fun j => ?_
  rw [List.getElem?_zipWith]
  by_cases hj : i + j ≤ n
  · rw [rowL_get hj, rowL_get hj]
    unfold segL
    rw [List.getElem?_map, List.getElem?_range (by omega)]
    rfl
  · rw [List.getElem?_eq_none (l := rowL n A i) (by rw [rowL_len]; omega), List.getElem?_eq_none (l := rowL n (fun i p => A i p + t p) i) (by rw [rowL_len]; omega)]
theorem led_ok {x y : D} {n : Nat} {A : Tb} {t : Nat → Int} {M : Mem} (hn : n ≤ 1000) (hx : TabR n A x) (hy : Sqd y (vecD n t)) (h0 : t n = 0) : f_led [x, y] M = .ok (.tup (vecD n (ledF n A t))) M := by
  obtain ⟨rx, sx, lx, gx⟩ := hx
  refine ok_of (fn_wp rfl fun P hR => ?_)
  obtain ⟨E, hE⟩ : ∃ E, E = vecD (n + 1) t := ⟨_, rfl⟩
  obtain ⟨V, hV⟩ : ∃ V, V = vecD n t := ⟨_, rfl⟩
  have e1 : V.length + 1 ≤ 1000000 := by rw [hV, vecD_len]; omega
  have e2 : V ++ [.int 0] = E := by rw [hV, hE, vec_ends h0]
  rw [← hV] at hy
  simp [b_led, b_led_s1, b_led_s2, sx.q, sx.g, hy.q, e1, e2]
  refine wp_for (fun i s M' => ∃ v4 v5 v6 v7, s = [some x, some y, some (.lst E), some (.ref M.length), v4, v5, v6, v7] ∧ Pf M M' ∧ M'[M.length]? = some (.lst ((vecD n (ledF n A t)).take i))) ?_ ?_ ?_
  · exact ⟨_, _, _, _, rfl, .app .refl _, by simp⟩
  · rintro i d s M' hi hd ⟨v4, v5, v6, v7, rfl, pf, hc⟩
    rw [enum_len, lx] at hi
    obtain ⟨row, hrow, rfl⟩ := enum_get _ _ _ _ hd
    obtain ⟨r, hr, sr⟩ := gx i hi
    rw [hrow] at hr
    cases hr
    rw [Nat.zero_add]
    refine ⟨[some x, some y, some (.lst E), some (.ref M.length), some (.int i), some row, v6, v7], by simp, fun P1 hN _ _ _ _ => ?_⟩
    have hlt := lt_of_get hc
    obtain ⟨C, hC⟩ : ∃ C, C = (segL t i (n + 1 - i)).map D.int := ⟨_, rfl⟩
    have cc : cutL E (some (i : Int)) none = C := by rw [cut_drop, hE, drop_vec, hC]
    have lC : C.length = n + 1 - i := by rw [hC]; simp [segL]
    have lz : (rowD n A i).length = C.length := by rw [rowD_len, lC]
    have lz2 : (zipD (rowD n A i) C).length ≤ 1000000 := by rw [zip_len, rowD_len]; omega
    have cp : ∀ s : Slots, s.length = 8 → compL M.length [] M' (.tp [.nm 6, .nm 7]) tTrue b_led_c1 s (zipD (rowD n A i) C) M' = .ok ((rowL n (fun i p => A i p + t p) i).map .int) M' := fun s hs => by
      rw [hC, ← zip_seg (by omega)]
      exact zip_add rfl (by decide) (by omega) (by omega) (by simp)
    have mm := r_minL (M := M') (zs := rowL n (fun i p => A i p + t p) i) (by intro h; have := congrArg List.length h; rw [rowL_len] at this; simp at this; omega)
    have em : mn (rowL n (fun i p => A i p + t p) i) = ledF n A t i := by
      unfold rowL ledF
      rw [show n + 1 - i = n - i + 1 by omega]
      exact mn_map (f := fun q => A i q + t q)
    rw [em] at mm
    have ap := r_append (b := M.length) (v := .int (ledF n A t i)) hc (Nat.le_refl _) (by rw [List.length_take, vecD_len]; omega)
    obtain ⟨Y, hY⟩ : ∃ Y, Y = (rowL n (fun i p => A i p + t p) i).map D.int := ⟨_, rfl⟩
    rw [← hY] at cp mm
    simp [b_led_l1, hc, cc, sr.q, sr.g, lz, lz2, wipeD, cp, mm, ap]
    refine hN _ _ (by simp) ⟨_, _, _, _, rfl, pf.set (Nat.le_refl _) _, ?_⟩
    rw [set_get hlt, List.take_add_one, vecD_get hi]
    rfl
  · rintro s' M' ⟨v4, v5, v6, v7, rfl, pf, hc⟩
    rw [enum_len, lx, List.take_of_length_le (by rw [vecD_len]; omega)] at hc
    have tp := r_tuple (M := M') (x := .ref M.length) (ys := vecD n (ledF n A t)) (by simp [hc])
    simp [tp]
    exact hR _ _ (by simp [below_vecD]) ⟨rfl, pf.take⟩
theorem power_ok {x : D} {n : Nat} {A : Tb} {k : Nat} {M : Mem} (hn : n ≤ 1000) (hx : TabR n A x) (h0 : A n n = 0) (hk : k + 1 < 2 ^ 99) : f_power [x, .int ((k : Int) + 1)] M = .ok (.tup (tabD n (pw A k))) M := by
  obtain ⟨rx, sx, lx, gx⟩ := hx
  refine ok_of (fn_wp rfl fun P hR => ?_)
  have l1 : rx.length ≤ 1000000 := by omega
  simp [b_power, b_power_s1, b_power_s4, sx.q, sx.g, l1, wipeD]
  refine wp_map (fun d => match d with | .tup xs => .tup xs | .lst xs => .tup xs | _ => .non) ?_ (by simp) ?_
  · intro d hd
    refine ⟨_, t_nm _ _, ?_⟩
    obtain ⟨i, hi⟩ := List.mem_iff_getElem?.mp hd
    obtain ⟨r, h1, h2⟩ := gx i (by rw [← lx]; exact lt_of_get hi)
    rw [hi] at h1
    cases h1
    have tp := r_tuple (h2.q M)
    rcases h2 with rfl | rfl <;> simp [b_power_c1, tp]
  · have er : rx.map (fun d => match d with | .tup xs => D.tup xs | .lst xs => .tup xs | _ => .non) = tabD n A := by
      refine List.ext_getElem? fun i => ?_
      rw [List.getElem?_map]
      by_cases hi : i < n
      · obtain ⟨r, h1, h2⟩ := gx i hi
        rw [h1, tabD_get hi]
        rcases h2 with rfl | rfl <;> rfl
      · rw [List.getElem?_eq_none (by omega), List.getElem?_eq_none (by rw [tabD_len]; omega)]
        rfl
    rw [er]
    have tp := r_tuple (M := M) (q_lst M (tabD n A))
    obtain ⟨T, hT⟩ : ∃ T, T = tabD n A := ⟨_, rfl⟩
    rw [← hT] at tp ⊢
    simp [tp]
    refine wp_while (fun i s M' => M' = M ∧ ∃ (fo : D) (a l : Nat) (v5 : Option D), s = [some x, some (.int ((k : Int) + 1)), some fo, some (.tup (tabD n (pw A a))), some (.int (l : Int)), v5] ∧ 0 < i ∧ l < 2 ^ (i - 1) ∧ ((fo = .non ∧ l * (a + 1) = k + 1) ∨ ∃ c, fo = .tup (tabD n (pw A c)) ∧ c + 1 + l * (a + 1) = k + 1)) ?_ ?_
    · exact ⟨rfl, .non, 0, k + 1, none, by rw [hT]; rfl, by decide, hk, .inl ⟨rfl, by omega⟩⟩
    · rintro i s M' ⟨rfl, fo, a, l, v5, rfl, hi, hl, hf⟩
      refine ⟨decide (0 < (l : Int)), M', by simp, fun q => ?_, fun q => ?_⟩
      rotate_left
      · have hl0 : l = 0 := by simpa using q
        subst hl0
        refine ⟨hi, ?_⟩
        rw [show sRet (eVar 2) M'.length _ M' = .rt fo M' by simp, wp_rt]
        rcases hf with ⟨_, h⟩ | ⟨c, rfl, h⟩
        · omega
        · have : c = k := by omega
          subst this
          exact hR _ _ (by simp [below_tabD]) ⟨rfl, by simp⟩
      · have hl0 : l ≠ 0 := by
          have := of_decide_eq_true q
          omega
        obtain ⟨j, rfl⟩ : ∃ j, i = j + 1 := ⟨i - 1, by omega⟩
        refine ⟨j, rfl, fun P1 hN _ _ _ _ => ?_⟩
        rw [Nat.add_sub_cancel] at hl
        have hj : 0 < j := by
          cases j with
          | zero => simp at hl; omega
          | succ j => omega
        have hl2 : l / 2 < 2 ^ (j - 1) := by
          have : 2 ^ j = 2 * 2 ^ (j - 1) := by
            rw [← Nat.pow_succ']
            congr 1
            omega
          omega
        have md : ∀ M : Mem, oMod (.int (l : Int)) (.int 2) M = .ok (.int ((l : Int) % 2)) M := fun M => r_mod (by decide)
        have dv : ∀ M : Mem, oDiv (.int (l : Int)) (.int 2) M = .ok (.int ((l : Int) / 2)) M := fun M => r_div (by decide) (by decide)
        have md1 : ∀ M : Mem, oMod (.int 1) (.int 2) M = .ok (.int 1) M := fun M => r_mod (by decide)
        have dv1 : ∀ M : Mem, oDiv (.int 1) (.int 2) M = .ok (.int 0) M := fun M => r_div (by decide) (by decide)
        have bs := behind_ok (M := M') hn (tabR_tup n (pw A a)) (tabR_tup n (pw A a)) (pw_diag h0 a)
        rw [pw_add] at bs
        have el : ((l : Int) / 2) = ((l / 2 : Nat) : Int) := by omega
        have a2 : (l / 2) * (a + a + 1 + 1) = 2 * (l / 2) * (a + 1) := by
          rw [show a + a + 1 + 1 = 2 * (a + 1) by omega, ← Nat.mul_assoc, Nat.mul_comm (l / 2) 2]
        by_cases hodd : l % 2 = 1
        · have o1 : ((l : Int) % 2) = 1 := by omega
          have o2 : (l / 2) * (a + a + 1 + 1) + (a + 1) = l * (a + 1) := by
            rw [a2, ← Nat.succ_mul]
            congr 1
            omega
          rcases hf with ⟨rfl, h⟩ | ⟨c, rfl, h⟩
          · by_cases hg : l / 2 = 0
            · have hl1 : l = 1 := by omega
              subst hl1
              simp [b_power_l1, b_power_s2, b_power_s3, md1, dv1]
              exact hN _ _ ⟨rfl, _, a, 0, v5, rfl, hj, by omega, .inr ⟨a, rfl, by omega⟩⟩
            · have g1 : (0 : Int) < (l : Int) / 2 := by omega
              simp [b_power_l1, b_power_s2, b_power_s3, md, dv, o1, g1, bs]
              exact hN _ _ ⟨rfl, _, a + a + 1, l / 2, v5, by rw [el], hj, hl2, .inr ⟨a, rfl, by omega⟩⟩
          · have bf := behind_ok (M := M') hn (tabR_tup n (pw A c)) (tabR_tup n (pw A a)) (pw_diag h0 c)
            rw [pw_add] at bf
            by_cases hg : l / 2 = 0
            · have hl1 : l = 1 := by omega
              subst hl1
              simp [b_power_l1, b_power_s2, b_power_s3, md1, dv1, bf]
              exact hN _ _ ⟨rfl, _, a, 0, v5, rfl, hj, by omega, .inr ⟨c + a + 1, rfl, by omega⟩⟩
            · have g1 : (0 : Int) < (l : Int) / 2 := by omega
              simp [b_power_l1, b_power_s2, b_power_s3, md, dv, o1, g1, bs, bf]
              exact hN _ _ ⟨rfl, _, a + a + 1, l / 2, v5, by rw [el], hj, hl2, .inr ⟨c + a + 1, rfl, by omega⟩⟩
        · have o1 : ((l : Int) % 2) = 0 := by omega
          have g1 : (0 : Int) < (l : Int) / 2 := by omega
          have o2 : (l / 2) * (a + a + 1 + 1) = l * (a + 1) := by
            rw [a2]
            congr 1
            omega
          simp [b_power_l1, b_power_s2, b_power_s3, md, dv, o1, g1, bs]
          refine hN _ _ ⟨rfl, fo, a + a + 1, l / 2, v5, by rw [el], hj, hl2, ?_⟩
          rcases hf with ⟨rfl, h⟩ | ⟨c, rfl, h⟩
          · exact .inl ⟨rfl, by omega⟩
          · exact .inr ⟨c, rfl, by omega⟩
end LW
namespace LW
open PySem L2
theorem Sqd.cut {d : D} {xs : List D} (h : Sqd d xs) (lo hi : Option Int) : ∃ d', Sqd d' (cutL xs lo hi) ∧ ∀ M, oCut d lo hi M = .ok d' M := by
  rcases h with rfl | rfl
  · exact ⟨_, .t _, fun M => rfl⟩
  · exact ⟨_, .l _, fun M => rfl⟩
theorem Sqd.len {d : D} {xs : List D} (h : Sqd d xs) (M : Mem) : bLen [d] M = .ok (.int xs.length) M := r_len (h.q M)
theorem Sqd.tup {d : D} {xs : List D} (h : Sqd d xs) (M : Mem) : bTuple [d] M = .ok (.tup xs) M := r_tuple (h.q M)
structure Stair where
  lo : Nat → Int
  mo : Nat → Int
  sz : Nat → Int
def pdL (S : Stair) (i : Nat) : List D := [.int (S.lo i), .int (S.mo i), .int (S.sz i)]
def stD (n : Nat) (S : Stair) : List D := (List.range n).map fun i => .tup (pdL S i)
def StR (n : Nat) (S : Stair) (d : D) : Prop := ∃ ps, Sqd d ps ∧ ps.length = n ∧ ∀ i, i < n → ∃ p, ps[i]? = some p ∧ Sqd p (pdL S i)
theorem stD_len {n : Nat} {S : Stair} : (stD n S).length = n := by simp [stD]
theorem stD_get {n i : Nat} {S : Stair} (h : i < n) : (stD n S)[i]? = some (.tup (pdL S i)) := by
  unfold stD
  rw [List.getElem?_map, List.getElem?_range h]
  rfl
theorem stR_tup (n : Nat) (S : Stair) : StR n S (.tup (stD n S)) := ⟨_, .t _, stD_len, fun i h => ⟨_, stD_get h, .t _⟩⟩
inductive Dd where
  | fill (a : Nat)
  | empty (a : Nat)
  | raise (a : Nat) (z : Int)
  | lower (a : Nat) (z : Int)
def Dd.at_ : Dd → Nat
  | .fill a => a
  | .empty a => a
  | .raise a _ => a
  | .lower a _ => a
def Dd.l : Dd → List D
  | .fill a => [.str "fill", .int ((a : Int) + 1)]
  | .empty a => [.str "empty", .int ((a : Int) + 1)]
  | .raise a z => [.str "raise", .int ((a : Int) + 1), .int z]
  | .lower a z => [.str "lower", .int ((a : Int) + 1), .int z]
def LoR (lot : List Dd) (d : D) : Prop := ∃ ds, Sqd d ds ∧ ds.length = lot.length ∧ ∀ (i : Nat) (x : Dd), lot[i]? = some x → ∃ y, ds[i]? = some y ∧ Sqd y x.l
def lotD (lot : List Dd) : List D := lot.map fun x => .tup x.l
theorem loR_of {d : D} {lot : List Dd} (h : Sqd d (lotD lot)) : LoR lot d := ⟨_, h, by simp [lotD], fun i x hx => ⟨.tup x.l, by unfold lotD; rw [List.getElem?_map, hx]; rfl, .t _⟩⟩
/-- what a deed adds to totals -/
def addF (S : Stair) : Dd → Nat → Int
  | .fill a => fun p => if p ≤ a then -(S.sz a) else 0
  | .empty a => fun p => if p < a then S.sz a else 0
  | .raise a z => fun p => if p ≤ a then z else 0
  | .lower a z => fun p => if p ≤ a then -z else 0
theorem addF_end {S : Stair} {n : Nat} {x : Dd} (h : x.at_ < n) : addF S x n = 0 := by
  cases x with
  | fill a => exact if_neg (by have : a < n := h; omega)
  | empty a => exact if_neg (by have : a < n := h; omega)
  | raise a z => exact if_neg (by have : a < n := h; omega)
  | lower a z => exact if_neg (by have : a < n := h; omega)
def Dd.tk (S : Stair) : Dd → Int
  | .fill a => S.sz a
  | .lower _ z => z
  | _ => 0
def Dd.br (S : Stair) : Dd → Int
  | .empty a => S.sz a
  | .raise _ z => z
  | _ => 0
def Dd.to : Dd → Int
  | .empty a => a
  | x => (x.at_ : Int) + 1
theorem w1 : (("fill" : Str) == "lower") = false := by decide
theorem w2 : (("fill" : Str) == "raise") = false := by decide
theorem w3 : (("fill" : Str) == "empty") = false := by decide
theorem w4 : (("empty" : Str) == "fill") = false := by decide
theorem w5 : (("empty" : Str) == "lower") = false := by decide
theorem w6 : (("empty" : Str) == "raise") = false := by decide
theorem w7 : (("raise" : Str) == "fill") = false := by decide
theorem w8 : (("raise" : Str) == "lower") = false := by decide
theorem w9 : (("raise" : Str) == "empty") = false := by decide
theorem w10 : (("lower" : Str) == "fill") = false := by decide
theorem w11 : (("lower" : Str) == "raise") = false := by decide
theorem w12 : (("lower" : Str) == "empty") = false := by decide
theorem StR.sz {n : Nat} {S : Stair} {d : D} (h : StR n S d) {a : Nat} (ha : a < n) : ∃ ps p, (∀ M, seqOf M d = some ps) ∧ atI ps (a : Int) = some p ∧ ∀ M, seqOf M p = some (pdL S a) := by
  obtain ⟨ps, s1, s2, s3⟩ := h
  obtain ⟨p, p1, p2⟩ := s3 a ha
  exact ⟨ps, p, s1.q, atI_k p1 (by omega), p2.q⟩
theorem taken_ok {n : Nat} {S : Stair} {x y : D} {e : Dd} {M : Mem} (hx : StR n S x) (hy : Sqd y e.l) (he : e.at_ < n) : f_taken_by [x, y] M = .ok (.int (e.tk S)) M := by
  refine ok_of (fn_wp rfl fun P hR => ?_)
  obtain ⟨ps, p, q1, q2, q3⟩ := hx.sz he
  simp only [pdL] at q3
  cases e with
  | fill a =>
    simp [b_taken_by, b_taken_by_s1, b_taken_by_s2, hy.q, Dd.l, q1, show atI ps (a : Int) = some p from q2, q3]
    exact hR _ _ (by simp) ⟨rfl, List.take_length⟩
  | empty a =>
    simp [b_taken_by, b_taken_by_s1, b_taken_by_s2, hy.q, Dd.l, w4, w5]
    exact hR _ _ (by simp) ⟨rfl, List.take_length⟩
  | raise a z =>
    simp [b_taken_by, b_taken_by_s1, b_taken_by_s2, hy.q, Dd.l, w7, w8]
    exact hR _ _ (by simp) ⟨rfl, List.take_length⟩
  | lower a z =>
    simp [b_taken_by, b_taken_by_s1, b_taken_by_s2, hy.q, Dd.l, w10]
    exact hR _ _ (by simp) ⟨rfl, List.take_length⟩
theorem brought_ok {n : Nat} {S : Stair} {x y : D} {e : Dd} {M : Mem} (hx : StR n S x) (hy : Sqd y e.l) (he : e.at_ < n) : f_brought_by [x, y] M = .ok (.tup [.int e.to, .int (e.br S)]) M := by
  refine ok_of (fn_wp rfl fun P hR => ?_)
  obtain ⟨ps, p, q1, q2, q3⟩ := hx.sz he
  simp only [pdL] at q3
  cases e with
  | fill a =>
    simp [b_brought_by, b_brought_by_s1, b_brought_by_s2, hy.q, Dd.l, w2, w3]
    exact hR _ _ (by simp) ⟨rfl, List.take_length⟩
  | empty a =>
    simp [b_brought_by, b_brought_by_s1, b_brought_by_s2, hy.q, Dd.l, q1, show atI ps (a : Int) = some p from q2, q3]
    exact hR _ _ (by simp) ⟨rfl, List.take_length⟩
  | raise a z =>
    simp [b_brought_by, b_brought_by_s1, b_brought_by_s2, hy.q, Dd.l, w9]
    exact hR _ _ (by simp) ⟨rfl, List.take_length⟩
  | lower a z =>
    simp [b_brought_by, b_brought_by_s1, b_brought_by_s2, hy.q, Dd.l, w11, w12]
    exact hR _ _ (by simp) ⟨rfl, List.take_length⟩
theorem added_eq (S : Stair) (e : Dd) (k : Nat) : (e.br S * (if decide (1 + (k : Int) ≤ e.to) = true then 1 else 0)) - e.tk S * (if decide (1 + (k : Int) ≤ (e.at_ : Int) + 1) = true then 1 else 0) = addF S e k := by
  simp only [decide_eq_true_eq]
  cases e with
  | fill a =>
    show 0 * (if 1 + (k : Int) ≤ (a : Int) + 1 then 1 else 0) - S.sz a * (if 1 + (k : Int) ≤ (a : Int) + 1 then 1 else 0) = if k ≤ a then -(S.sz a) else 0
    by_cases h : k ≤ a
    · rw [if_pos h, if_pos (by omega)]; omega
    · rw [if_neg h, if_neg (by omega)]; omega
  | empty a =>
    show S.sz a * (if 1 + (k : Int) ≤ (a : Int) then 1 else 0) - 0 * (if 1 + (k : Int) ≤ (a : Int) + 1 then 1 else 0) = if k < a then S.sz a else 0
    by_cases h : k < a
    · rw [if_pos h, if_pos (by omega)]; omega
    · rw [if_neg h, if_neg (by omega)]; omega
  | raise a z =>
    show z * (if 1 + (k : Int) ≤ (a : Int) + 1 then 1 else 0) - 0 * (if 1 + (k : Int) ≤ (a : Int) + 1 then 1 else 0) = if k ≤ a then z else 0
    by_cases h : k ≤ a
    · rw [if_pos h, if_pos (by omega)]; omega
    · rw [if_neg h, if_neg (by omega)]; omega
  | lower a z =>
    show 0 * (if 1 + (k : Int) ≤ (a : Int) + 1 then 1 else 0) - z * (if 1 + (k : Int) ≤ (a : Int) + 1 then 1 else 0) = if k ≤ a then -z else 0
    by_cases h : k ≤ a
    · rw [if_pos h, if_pos (by omega)]; omega
    · rw [if_neg h, if_neg (by omega)]; omega
theorem added_ok {n : Nat} {S : Stair} {x y : D} {e : Dd} {M : Mem} (hn : n ≤ 1000) (hx : StR n S x) (hy : Sqd y e.l) (he : e.at_ < n) : f_added [x, y] M = .ok (.tup (vecD n (addF S e))) M := by
  refine ok_of (fn_wp rfl fun P hR => ?_)
  have b := brought_ok (M := M) hx hy he
  have t := taken_ok (M := M) hx hy he
  obtain ⟨ps, s1, s2, s3⟩ := hx
  have ln : ∀ M, bLen [x] M = .ok (.int (n : Int)) M := fun M => by rw [s1.len, s2]
  have rg : ∀ M, rng2 [.int 1, .int ((n : Int) + 1)] M = .ok (rngD 1 n, []) M := fun M => by
    rw [rng2_ok ⟨by omega, by omega⟩ ⟨by omega, by omega⟩]
    congr 3
    omega
  have lr : (rngD 1 n).length ≤ 1000000 := by rw [rngD_len]; omega
  have at1 : atI e.l 1 = some (.int ((e.at_ : Int) + 1)) := by cases e <;> simp [Dd.l, Dd.at_]
  simp [b_added, b_added_s1, b_added_s2, b_added_s3, b, t, gT, hy.q, at1, ln, rg, lr, wipeD]
  refine wp_map (fun d => match d with | .int z => .int (addF S e (z.toNat - 1)) | _ => .non) ?_ (by simp) ?_
  · intro d hd
    obtain ⟨k, hk, rfl⟩ := rngD_mem hd
    refine ⟨_, t_nm _ _, ?_⟩
    have m : ∀ (z : Int) (q : Bool) (M : Mem), oMul (.int z) (.int (if q then 1 else 0)) M = .ok (.int (z * if q then 1 else 0)) M := fun z q M => r_mul (mul_r (by split <;> decide) (by split <;> decide))
    have ez : (1 + (k : Int)).toNat - 1 = k := by omega
    have key := added_eq S e k
    obtain ⟨to, hto⟩ : ∃ z, z = e.to := ⟨_, rfl⟩
    obtain ⟨br, hbr⟩ : ∃ z, z = e.br S := ⟨_, rfl⟩
    obtain ⟨tk, htk⟩ : ∃ z, z = e.tk S := ⟨_, rfl⟩
    rw [← hto, ← hbr, ← htk] at key ⊢
    simp only [b_added_c1, r_bin, r_fn, r_acons, r_anil, r_var, bind_ok, r_le, r_intB, m, r_subI, List.getElem?_cons_zero, List.getElem?_cons_succ, List.set_cons_zero, List.set_cons_succ, ez, key]
  · have eY : (rngD 1 n).map (fun d => match d with | .int z => D.int (addF S e (z.toNat - 1)) | _ => .non) = vecD n (addF S e) := by
      unfold rngD vecD
      rw [List.map_map]
      refine List.map_congr_left fun k hk => ?_
      show D.int _ = D.int _
      congr 2
      omega
    rw [eY]
    have tp := r_tuple (M := M) (q_lst M (vecD n (addF S e)))
    simp [tp]
    exact hR _ _ (by simp [below_vecD]) ⟨rfl, by simp⟩
theorem over_ok {n : Nat} {S : Stair} {x : D} {M : Mem} (hn : n ≤ 1000) (hx : StR n S x) : f_over_table [x] M = .ok (.tup (tabD n (sumM S.mo))) M := by
  refine ok_of (fn_wp rfl fun P hR => ?_)
  obtain ⟨ps, s1, s2, s3⟩ := hx
  have ln : ∀ M, bLen [x] M = .ok (.int (n : Int)) M := fun M => by rw [s1.len, s2]
  have rg : ∀ M, rng1 [.int (n : Int)] M = .ok (rngD 0 n, []) M := fun M => rng1_nat (by omega)
  simp [b_over_table, b_over_table_s3, ln, rg]
  refine wp_for (fun i s M' => ∃ v2 v3 v4 v5 v6, s = [some x, some (.ref M.length), v2, v3, v4, v5, v6] ∧ Pf M M' ∧ M'[M.length]? = some (.lst ((tabD n (sumM S.mo)).take i))) ?_ ?_ ?_
  · exact ⟨_, _, _, _, _, rfl, .app .refl _, by simp⟩
  · rintro i d s M' hi hd ⟨v2, v3, v4, v5, v6, rfl, pf, hc⟩
    rw [rngD_len] at hi
    obtain ⟨_, rfl⟩ := rngD_get hd
    refine ⟨_, t_nm _ _, fun P1 hN _ _ _ _ => ?_⟩
    have hl := pf.len
    have hlt := lt_of_get hc
    obtain ⟨y, y1, y2⟩ := s1.cut (some (i : Int)) none
    rw [cut_drop] at y1
    have ez : (0 : Int) + (i : Int) = (i : Int) := by omega
    simp [b_over_table_l2, b_over_table_s1, ez, y2, y1.q, y1.g]
    refine wp_for (fun j s M2 => ∃ v4 v5 v6, s = [some x, some (.ref M.length), some (.int (i : Int)), some (.ref M'.length), v4, v5, v6] ∧ Pf M M2 ∧ M2[M.length]? = some (.lst ((tabD n (sumM S.mo)).take i)) ∧ M2[M'.length]? = some (.lst ((rowD n (sumM S.mo) i).take (j + 1)))) ?_ ?_ ?_
    · refine ⟨_, _, _, rfl, pf.app _, by rw [List.getElem?_append_left (by omega)]; exact hc, ?_⟩
      rw [get_app, List.take_add_one, rowD_get (by omega), Nat.add_zero, sumM_self]
      rfl
    · rintro j d s M2 hj hd ⟨v4, v5, v6, rfl, pf2, hc2, hp2⟩
      rw [List.length_drop, s2] at hj
      rw [List.getElem?_drop] at hd
      obtain ⟨p, p1, p2⟩ := s3 (i + j) (by omega)
      rw [hd] at p1
      cases p1
      refine ⟨[some x, some (.ref M.length), some (.int (i : Int)), some (.ref M'.length), some (.int (S.lo (i + j))), some (.int (S.mo (i + j))), some (.int (S.sz (i + j)))], by simp [p2.q, pdL], fun P2 hN2 _ _ _ _ => ?_⟩
      have hlt2 := lt_of_get hp2
      have last : atI ((rowD n (sumM S.mo) i).take (j + 1)) (-1) = some (.int (sumM S.mo i (i + j))) := by
        rw [List.take_add_one, rowD_get (by omega)]
        exact atI_last _ _
      have ap := r_append (b := M.length) (v := .int (sumM S.mo i (i + j) + S.mo (i + j))) hp2 (by omega) (by rw [List.length_take, rowD_len]; omega)
      obtain ⟨TT, hTT⟩ : ∃ TT, TT = (rowD n (sumM S.mo) i).take (j + 1) := ⟨_, rfl⟩
      rw [← hTT] at last hp2 ap
      simp [b_over_table_l1, hp2, last, ap]
      refine hN2 _ _ (by simp) ⟨_, _, _, rfl, pf2.set (by omega) _, by rw [List.getElem?_set_ne (by omega)]; exact hc2, ?_⟩
      rw [set_get hlt2, List.take_add_one, ← hTT, rowD_get (by omega), show i + (j + 1) = i + j + 1 by omega, sumM_succ (by omega)]
      rfl
    · rintro s2' M2 ⟨v4, v5, v6, rfl, pf2, hc2, hp2⟩
      rw [List.length_drop, s2, List.take_of_length_le (by rw [rowD_len]; omega)] at hp2
      have tp := r_tuple (M := M2) (x := .ref M'.length) (ys := rowD n (sumM S.mo) i) (by simp [hp2])
      have ap := r_append (b := M.length) (v := .tup (rowD n (sumM S.mo) i)) hc2 (by omega) (by rw [List.length_take, tabD_len]; omega)
      have hlt2 := lt_of_get hc2
      simp [b_over_table_s2, hc2, tp, ap]
      refine hN _ _ (by simp) ⟨_, _, _, _, _, rfl, pf2.set (Nat.le_refl _) _, ?_⟩
      rw [set_get hlt2, List.take_add_one, tabD_get hi]
      rfl
  · rintro s' M' ⟨v2, v3, v4, v5, v6, rfl, pf, hc⟩
    rw [rngD_len, List.take_of_length_le (by rw [tabD_len]; omega)] at hc
    have tp := r_tuple (M := M') (x := .ref M.length) (ys := tabD n (sumM S.mo)) (by simp [hc])
    simp [tp]
    exact hR _ _ (by simp [below_tabD]) ⟨rfl, pf.take⟩
theorem deed_ok {n : Nat} {S : Stair} {x y : D} {e : Dd} {M : Mem} (hn : n ≤ 1000) (hx : StR n S x) (hy : Sqd y e.l) (he : e.at_ < n) : f_deed_table [x, y] M = .ok (.tup (tabD n (addT S.mo (addF S e)))) M := by
  refine ok_of (fn_wp rfl fun P hR => ?_)
  have a := fun M => added_ok (M := M) hn hx hy he
  have o := fun M => over_ok (M := M) hn hx
  obtain ⟨t, ht⟩ : ∃ t, t = addF S e := ⟨_, rfl⟩
  have h0 : t n = 0 := by rw [ht]; exact addF_end he
  rw [← ht] at a hR
  obtain ⟨E, hE⟩ : ∃ E, E = vecD (n + 1) t := ⟨_, rfl⟩
  obtain ⟨V, hV⟩ : ∃ V, V = vecD n t := ⟨_, rfl⟩
  have e1 : V.length + 1 ≤ 1000000 := by rw [hV, vecD_len]; omega
  have e2 : V ++ [.int 0] = E := by rw [hV, hE, vec_ends h0]
  rw [← hV] at a
  obtain ⟨O, hO⟩ : ∃ O, O = tabD n (sumM S.mo) := ⟨_, rfl⟩
  have lO : O.length = n := by rw [hO, tabD_len]
  rw [← hO] at o
  simp [b_deed_table, b_deed_table_s1, b_deed_table_s2, a, o, e1, e2]
  refine wp_for (fun i s M' => ∃ v4 v5 v6 v7, s = [some x, some y, some (.lst E), some (.ref M.length), v4, v5, v6, v7] ∧ Pf M M' ∧ M'[M.length]? = some (.lst ((tabD n (addT S.mo t)).take i))) ?_ ?_ ?_
  · exact ⟨_, _, _, _, rfl, .app .refl _, by simp⟩
  · rintro i d s M' hi hd ⟨v4, v5, v6, v7, rfl, pf, hc⟩
    rw [enum_len, lO] at hi
    obtain ⟨row, hrow, rfl⟩ := enum_get _ _ _ _ hd
    rw [hO, tabD_get hi] at hrow
    cases hrow
    rw [Nat.zero_add]
    obtain ⟨RW, hRW⟩ : ∃ RW, RW = rowD n (sumM S.mo) i := ⟨_, rfl⟩
    rw [← hRW]
    refine ⟨[some x, some y, some (.lst E), some (.ref M.length), some (.int i), some (.tup RW), v6, v7], by simp, fun P1 hN _ _ _ _ => ?_⟩
    have hlt := lt_of_get hc
    obtain ⟨C, hC⟩ : ∃ C, C = (segL t i (n + 1 - i)).map D.int := ⟨_, rfl⟩
    have cc : cutL E (some (i : Int)) none = C := by rw [cut_drop, hE, drop_vec, hC]
    have lC : C.length = n + 1 - i := by rw [hC]; simp [segL]
    have lz : RW.length = C.length := by rw [hRW, rowD_len, lC]
    have lz2 : (zipD RW C).length ≤ 1000000 := by rw [zip_len, hRW, rowD_len]; omega
    have cp : ∀ s : Slots, s.length = 8 → compL M.length [] M' (.tp [.nm 6, .nm 7]) tTrue b_deed_table_c1 s (zipD RW C) M' = .ok (rowD n (addT S.mo t) i) M' := fun s hs => by
      have : rowD n (addT S.mo t) i = (List.zipWith (· + ·) (rowL n (sumM S.mo) i) (segL t i (n + 1 - i))).map .int := by rw [zip_seg (by omega)]; rfl
      rw [hC, hRW, this]
      exact zip_add rfl (by decide) (by omega) (by omega) (by simp)
    have tp := r_tuple (M := M') (q_lst M' (rowD n (addT S.mo t) i))
    have ap := r_append (b := M.length) (v := .tup (rowD n (addT S.mo t) i)) hc (Nat.le_refl _) (by rw [List.length_take, tabD_len]; omega)
    simp [b_deed_table_l1, hc, cc, lz, lz2, wipeD, cp, tp, ap]
    refine hN _ _ (by simp) ⟨_, _, _, _, rfl, pf.set (Nat.le_refl _) _, ?_⟩
    rw [set_get hlt, List.take_add_one, tabD_get hi]
    rfl
  · rintro s' M' ⟨v4, v5, v6, v7, rfl, pf, hc⟩
    rw [enum_len, lO, List.take_of_length_le (by rw [tabD_len]; omega)] at hc
    have tp := r_tuple (M := M') (x := .ref M.length) (ys := tabD n (addT S.mo t)) (by simp [hc])
    simp [tp]
    exact hR _ _ (by simp [below_tabD]) ⟨rfl, pf.take⟩
theorem table_of_ok {n : Nat} {S : Stair} {x y : D} {lot : List Dd} {M : Mem} (hn : n ≤ 1000) (hx : StR n S x) (hy : LoR lot y) (he : ∀ e ∈ lot, e.at_ < n) : f_table_of [x, y] M = .ok (.tup (tabD n (tabOf S.mo (lot.map (addF S))))) M := by
  refine ok_of (fn_wp rfl fun P hR => ?_)
  have o := over_ok (M := M) hn hx
  obtain ⟨ds, d1, d2, d3⟩ := hy
  simp [b_table_of, o, d1.q, d1.g]
  refine wp_for (fun i s M' => M' = M ∧ ∃ v3, s = [some x, some y, some (.tup (tabD n (tabOf S.mo ((lot.take i).map (addF S))))), v3]) ?_ ?_ ?_
  · exact ⟨rfl, none, rfl⟩
  · rintro i d s M' hi hd ⟨rfl, v3, rfl⟩
    rw [d2] at hi
    obtain ⟨dd, g1, g2⟩ := d3 i lot[i] (List.getElem?_eq_getElem hi)
    rw [hd] at g1
    cases g1
    refine ⟨_, t_nm _ _, fun P1 hN _ _ _ _ => ?_⟩
    have de := deed_ok (M := M') hn hx g2 (he _ (List.getElem_mem hi))
    have b := behind_ok (M := M') hn (tabR_tup n (tabOf S.mo ((lot.take i).map (addF S)))) (tabR_tup n (addT S.mo (addF S lot[i]))) (tab_diag _ fun a ha => by
      obtain ⟨e, he', rfl⟩ := List.mem_map.mp ha
      exact addF_end (he e (List.mem_of_mem_take he')))
    have eT : beh (tabOf S.mo ((lot.take i).map (addF S))) (addT S.mo (addF S lot[i])) = tabOf S.mo ((lot.take (i + 1)).map (addF S)) := by
      unfold tabOf
      rw [List.take_add_one, List.getElem?_eq_getElem hi, Option.toList_some, List.map_append, runT_app]
      rfl
    rw [eT] at b
    obtain ⟨T1, hT1⟩ : ∃ T, T = tabD n (tabOf S.mo ((lot.take i).map (addF S))) := ⟨_, rfl⟩
    obtain ⟨T2, hT2⟩ : ∃ T, T = tabD n (tabOf S.mo ((lot.take (i + 1)).map (addF S))) := ⟨_, rfl⟩
    obtain ⟨T3, hT3⟩ : ∃ T, T = tabD n (addT S.mo (addF S lot[i])) := ⟨_, rfl⟩
    rw [← hT1, ← hT2, ← hT3] at b
    rw [← hT3] at de
    rw [← hT1]
    simp [b_table_of_l1, de, b]
    exact hN _ _ (by simp) ⟨rfl, _, by rw [hT2]⟩
  · rintro s' M' ⟨rfl, v3, rfl⟩
    rw [d2, List.take_length]
    simp
    exact hR _ _ (by simp [below_tabD]) ⟨rfl, by simp⟩
end LW
namespace LW
open PySem L2
/-- drawn from the box at h: all else as it was -/
structure Dr (h n : Nat) (M M' : Mem) : Prop where
  box : Box M' h n
  len : M'.length = M.length
  at_ : ∀ j, j ≠ h → M'[j]? = M[j]?
theorem Dr.fr {h n : Nat} {M0 M M' : Mem} (d : Dr h n M M') (f : Fr h M0 M) : Fr h M0 M' := ⟨by rw [d.len]; exact f.len, fun j hj hn => by rw [d.at_ j hn]; exact f.at_ j hj hn⟩
theorem Dr.of {h n : Nat} {M M' : Mem} (f : Fr h M M') (b : Box M' h n) (hh : h < M.length) : Dr h n M (M'.take M.length) :=
  ⟨b.take hh, f.take.2, fun j hn => by
    by_cases hj : j < M.length
    · exact f.take.1.at_ j hj hn
    · rw [List.getElem?_eq_none (by rw [f.take.2]; omega), List.getElem?_eq_none (by omega)]⟩
theorem Dr.mono {h n m : Nat} {M M' : Mem} (d : Dr h n M M') (q : m ≤ n) : Dr h m M M' := ⟨d.box.mono q, d.len, d.at_⟩
theorem Dr.trans {h n m : Nat} {M M1 M2 : Mem} (a : Dr h n M M1) (b : Dr h m M1 M2) : Dr h m M M2 := ⟨b.box, b.len.trans a.len, fun j hj => (b.at_ j hj).trans (a.at_ j hj)⟩
theorem Dr.refl {h n : Nat} {M : Mem} (b : Box M h n) : Dr h n M M := ⟨b, rfl, fun _ _ => rfl⟩
theorem take_dr {M : Mem} {h n : Nat} {size : Int} (x : Box M h (n + 128)) (h0 : 0 < size) (h1 : size ≤ tens 8) :
    ∃ r M', f_law_take 8 [.ref h, .int size] M = .ok (.int r) M' ∧ 0 ≤ r ∧ r < size ∧ Dr h n M M' := by
  obtain ⟨r, M', q, a, b, x', c, d⟩ := take_wr x h0 h1
  exact ⟨r, M', q, a, b, x', c, d⟩
theorem t8 : (1000000000000000000 : Int) ≤ tens 8 := by decide
theorem law_run {fr : Fn} {sz : Nat} {body : SS} (h0 : 0 < sz) (h1 : sz ≤ 63) (hr : ∀ (M : Mem) (h : Nat), Box M h (2 ^ 40) → ∃ M', fr [.ref h] M = .ok (.bl true) M')
    (hb : body = sSeq (sSet 1 (eCall f_law_folded (aCons (eVar 0) (aCons (eC (.int (sz : Int))) (aNil))))) (sRet (eFn bAll (aCons (eFrz (nComp (iRange1 (aCons (eFn bMax (aCons (eC (.int 2)) (aCons (eFn bLen (aCons (eVar 1) (aNil))) (aNil)))) (aNil))) [2] (.nm 2) (tTrue) (eCall fr (aCons (eCall f_law_box (aCons (eVar 1) (aCons (eVar 2) (aNil)))) (aNil))))) (aNil))))) :
    ∀ ns : List Int, ns.length ≤ 63 → ∃ M', mkFn false 1 3 body [.scr ns] [] = .ok (.bl true) M' := by
  intro ns hn
  subst hb
  obtain ⟨zs, q, lz⟩ := folded_ok (ns := ns) (sz := sz) (M := []) h0 h1
  obtain ⟨Z, hZ⟩ : ∃ Z, Z = zs.map D.int := ⟨_, rfl⟩
  rw [← hZ] at q
  have lZ : Z.length = zs.length := by rw [hZ, List.length_map]
  obtain ⟨mx, hmx⟩ : ∃ mx : Int, mx = if 2 < (Z.length : Int) then (Z.length : Int) else 2 := ⟨_, rfl⟩
  have mx0 : 0 ≤ mx ∧ mx ≤ 63 := by
    rw [hmx]
    split <;> omega
  have ln := fun M => r_len (M := M) (q_lst M Z)
  have rg : rng1 [.int mx] [] = .ok (rngD 0 mx.toNat, []) [] := rng1_ok ⟨by omega, by omega⟩
  have lr : (rngD 0 mx.toNat).length ≤ 1000000 := by rw [rngD_len]; omega
  obtain ⟨Y, M2, q2, hY⟩ := compL_st (b := 0) (hs := []) (M0 := []) (t := .nm 2) (e := eCall fr (aCons (eCall f_law_box (aCons (eVar 1) (aCons (eVar 2) (aNil)))) (aNil))) (s := [some (.scr ns), some (.lst Z), none]) (ds := rngD 0 mx.toNat) (M := [])
    (fun j ys M' => ∀ y ∈ ys, y = D.bl true) (by simp) (fun j d ys M' hd hy => by
      obtain ⟨hj, rfl⟩ := rngD_get hd
      obtain ⟨M1, b1, x1, c1, e1⟩ := box_ok (x := .lst Z) (zs := zs) (k := 0 + (j : Int)) (M := M') (by rw [hZ]; rfl) (by omega) (by omega)
      obtain ⟨M3, r2⟩ := hr _ _ x1
      refine ⟨_, .bl true, M3, t_nm _ _, by simp only [Int.zero_add] at b1 ⊢; simp [b1, r2], by simp, fun y h => ?_⟩
      rw [List.mem_append] at h
      rcases h with h | h
      · exact hy y h
      · simpa using h)
  refine ⟨_, mk_rt (d := .bl true) (M' := M2) rfl ?_ rfl⟩
  simp [q, ln, ← hmx, rg, wipeD, lr, q2, r_all hY]
theorem great_ok {M : Mem} {h n : Nat} (x : Box M h (n + 128)) : ∃ g M', f_law_great [.ref h] M = .ok (.int g) M' ∧ (g = 1 ∨ g = 1000000 ∨ g = 1000000000000000) ∧ Dr h n M M' := by
  obtain ⟨r, M1, q, r0, r1, d⟩ := take_dr (n := n) (size := 5) x (by decide) (by decide)
  have key : ∀ g : Int, atI [D.int 1, .int 1, .int 1, .int 1000000, .int 1000000000000000] r = some (.int g) → f_law_great [.ref h] M = .ok (.int g) M1 := by
    intro g hg
    refine Eq.trans (mk_rt (body := b_law_great) (d := .int g) (M' := M1) rfl ?_ rfl) (by rw [List.take_of_length_le (by rw [d.len]; exact Nat.le_refl _)])
    simp [b_law_great, q, hg]
  rcases (by omega : r = 0 ∨ r = 1 ∨ r = 2 ∨ r = 3 ∨ r = 4) with rfl | rfl | rfl | rfl | rfl
  · exact ⟨1, M1, key 1 rfl, .inl rfl, d⟩
  · exact ⟨1, M1, key 1 rfl, .inl rfl, d⟩
  · exact ⟨1, M1, key 1 rfl, .inl rfl, d⟩
  · exact ⟨1000000, M1, key 1000000 rfl, .inr (.inl rfl), d⟩
  · exact ⟨1000000000000000, M1, key 1000000000000000 rfl, .inr (.inr rfl), d⟩
def stOf (ts : List (Int × Int × Int)) : Stair := ⟨fun i => (ts.getD i (0, 0, 0)).1, fun i => (ts.getD i (0, 0, 0)).2.1, fun i => (ts.getD i (0, 0, 0)).2.2⟩
def tsD (ts : List (Int × Int × Int)) : List D := ts.map fun t => .tup [.int t.1, .int t.2.1, .int t.2.2]
theorem stD_of (ts : List (Int × Int × Int)) : stD ts.length (stOf ts) = tsD ts := by
  unfold stD tsD
  refine List.ext_getElem? fun i => ?_
  rw [List.getElem?_map, List.getElem?_map]
  by_cases hi : i < ts.length
  · rw [List.getElem?_range hi, List.getElem?_eq_getElem hi]
    simp [pdL, stOf, List.getD, hi]
  · rw [List.getElem?_eq_none (by simpa using hi), List.getElem?_eq_none (by simpa using hi)]
    rfl
/-- a pound by draws -/
def PdOk (g : Int) (t : Int × Int × Int) : Prop := ∃ a w z : Nat, a < 4 ∧ w < 30 ∧ 1 ≤ z ∧ z ≤ 4 ∧ t = ((a : Int) * g, ((a : Int) + w) * g, (z : Int) * g)
def StOk (g : Int) (n : Nat) (S : Stair) : Prop := ∀ i, i < n → PdOk g (S.lo i, S.mo i, S.sz i)
theorem stOk_of {g : Int} {ts : List (Int × Int × Int)} (h : ∀ t ∈ ts, PdOk g t) : StOk g ts.length (stOf ts) := fun i hi => by
  have := h ts[i] (List.getElem_mem hi)
  simpa [stOf, List.getD, hi] using this
theorem below_tsD {k : Nat} (ts : List (Int × Int × Int)) : belows k (tsD ts) = true := by
  rw [belows_iff]
  intro x hx
  obtain ⟨i, _, rfl⟩ := List.mem_map.mp hx
  simp
theorem stair_ok {M : Mem} {h n : Nat} {cap : Nat} {g : Int} (hc : 0 < cap) (hc2 : cap ≤ 100) (hg : 0 < g) (hg2 : g ≤ 1000000000000000) (x : Box M h (n + 128 + 512 * cap)) :
    ∃ k S M', f_law_stair [.ref h, .int cap, .int g] M = .ok (.tup (stD k S)) M' ∧ 1 ≤ k ∧ k ≤ cap ∧ StOk g k S ∧ Dr h n M M' := by
  have hh := x.lt
  have key : Wr (f_law_stair [.ref h, .int cap, .int g] M) fun d M' => ∃ k S, d = .tup (stD k S) ∧ 1 ≤ k ∧ k ≤ cap ∧ StOk g k S ∧ Dr h n M M' := by
    refine fn_wp rfl fun P hR => ?_
    obtain ⟨r0, M0, q0, a0, b0, d0⟩ := take_dr (M := M ++ [.lst []]) (h := h) (n := n + 512 * cap) (size := cap) ((x.app _).mono (by omega)) (by omega) (Int.le_trans (by omega) t8)
    obtain ⟨k, hk⟩ : ∃ k : Nat, 1 + r0 = (k : Int) := ⟨(1 + r0).toNat, by omega⟩
    have rg : rng1 [.int (k : Int)] M0 = .ok (rngD 0 k, []) M0 := rng1_nat (by omega)
    simp [b_law_stair, b_law_stair_s3, q0, hk, rg]
    refine wp_for (fun i s M' => ∃ v4 v5 v6 v7, s = [some (.ref h), some (.int cap), some (.int g), some (.ref M.length), v4, v5, v6, v7] ∧ Fr h M M' ∧ Box M' h (n + 512 * (cap - i)) ∧ ∃ ts, ts.length = i ∧ (∀ t ∈ ts, PdOk g t) ∧ M'[M.length]? = some (.lst (tsD ts))) ?_ ?_ ?_
    · refine ⟨_, _, _, _, rfl, d0.fr (.app .refl _), d0.box.mono (by omega), [], rfl, by simp, ?_⟩
      rw [d0.at_ _ (by omega), get_app]
      rfl
    · rintro i d s M' hi hd ⟨v4, v5, v6, v7, rfl, fr, bx, ts, lt, ok, hc'⟩
      rw [rngD_len] at hi
      obtain ⟨_, rfl⟩ := rngD_get hd
      refine ⟨_, t_nm _ _, fun P1 hN _ _ _ _ => ?_⟩
      obtain ⟨m, hm⟩ : ∃ m, m = n + 512 * (cap - (i + 1)) := ⟨_, rfl⟩
      obtain ⟨r1, M1, q1, a1, b1, d1⟩ := take_dr (M := M') (h := h) (n := m + 384) (size := 4) (bx.mono (by omega)) (by decide) (by decide)
      obtain ⟨r2, M2, q2, a2, b2, d2⟩ := take_dr (M := M1) (h := h) (n := m + 256) (size := 3) (d1.box.mono (by omega)) (by decide) (by decide)
      obtain ⟨w, hw, w0, w1⟩ : ∃ w : Int, atI [D.int 2, .int 8, .int 30] r2 = some (.int w) ∧ 0 < w ∧ w ≤ 30 := by
        rcases (by omega : r2 = 0 ∨ r2 = 1 ∨ r2 = 2) with rfl | rfl | rfl
        · exact ⟨2, rfl, by decide, by decide⟩
        · exact ⟨8, rfl, by decide, by decide⟩
        · exact ⟨30, rfl, by decide, by decide⟩
      obtain ⟨r3, M3, q3, a3, b3, d3⟩ := take_dr (M := M2) (h := h) (n := m + 128) (size := w) (d2.box.mono (by omega)) w0 (Int.le_trans (by omega) t8)
      obtain ⟨r4, M4, q4, a4, b4, d4⟩ := take_dr (M := M3) (h := h) (n := m) (size := 4) (d3.box.mono (by omega)) (by decide) (by decide)
      have m1 : ∀ (y : Int) (M : Mem), oMul (.int y) (.int g) M = .ok (.int (y * g)) M := fun y M => r_mul (mul_r (by omega) (by omega))
      have hne : M.length ≠ h := by omega
      have c4 : M4[M.length]? = some (.lst (tsD ts)) := by rw [d4.at_ _ hne, d3.at_ _ hne, d2.at_ _ hne, d1.at_ _ hne]; exact hc'
      have lts : (tsD ts).length = i := by simp [tsD, lt]
      have ap := r_append (b := M.length) (v := .tup [.int (r1 * g), .int ((r1 + r3) * g), .int ((1 + r4) * g)]) c4 (Nat.le_refl _) (by omega)
      simp [b_law_stair_l1, b_law_stair_s1, b_law_stair_s2, q1, q2, hw, q3, q4, m1, c4, ap]
      refine hN _ _ (by simp) ⟨_, _, _, _, rfl, (d4.fr (d3.fr (d2.fr (d1.fr fr)))).set (.inl (Nat.le_refl _)) _, (d4.box.set hne _).mono (by omega), ts ++ [(r1 * g, (r1 + r3) * g, (1 + r4) * g)], by simp [lt], fun t ht => ?_, ?_⟩
      · rcases List.mem_append.mp ht with ht | ht
        · exact ok t ht
        · have : t = (r1 * g, (r1 + r3) * g, (1 + r4) * g) := by simpa using ht
          subst this
          exact ⟨r1.toNat, r3.toNat, (1 + r4).toNat, by omega, by omega, by omega, by omega, by rw [show ((r1.toNat : Nat) : Int) = r1 by omega, show ((r3.toNat : Nat) : Int) = r3 by omega, show (((1 + r4).toNat : Nat) : Int) = 1 + r4 by omega]⟩
      · rw [set_get (lt_of_get c4)]
        simp [tsD]
    · rintro s' M' ⟨v4, v5, v6, v7, rfl, fr, bx, ts, lt, ok, hc'⟩
      rw [rngD_len] at lt bx
      have tp := r_tuple (M := M') (x := .ref M.length) (ys := tsD ts) (by simp [hc'])
      simp [tp]
      refine hR _ _ (by simp [below_tsD]) ⟨k, stOf ts, by rw [← lt, stD_of], by omega, by omega, by rw [← lt]; exact stOk_of ok, .of fr (bx.mono (by omega)) hh⟩
  obtain ⟨d, M', e, k, S, rfl, h1, h2, h3, h4⟩ := wr_of key
  exact ⟨k, S, M', e, h1, h2, h3, h4⟩
end LW
namespace LW
open PySem L2
/-- chambers: high or not -/
def chS (b : Bool) : Str := if b then "high" else "low"
def chD (n : Nat) (c : Nat → Bool) : List D := (List.range n).map fun i => .str (chS (c i))
def turnC (c : Nat → Bool) (a : Nat) (b : Bool) : Nat → Bool := fun i => if i = a then b else c i
def stepC (c : Nat → Bool) : Dd → Option (Nat → Bool)
  | .fill a => if c a = false then some (turnC c a true) else none
  | .empty a => if c a = true then some (turnC c a false) else none
  | _ => some c
def runC (c : Nat → Bool) : List Dd → Option (Nat → Bool)
  | [] => some c
  | e :: r => (stepC c e).bind fun c' => runC c' r
theorem runC_app : ∀ (r q : List Dd) (c : Nat → Bool), runC c (r ++ q) = (runC c r).bind fun c' => runC c' q
  | [], q, c => rfl
  | e :: r, q, c => by
    show (stepC c e).bind (fun c' => runC c' (r ++ q)) = ((stepC c e).bind fun c' => runC c' r).bind _
    cases stepC c e with
    | none => rfl
    | some c' => exact runC_app r q c'
/-- a deed by draws on n pounds -/
def DdOk (g : Int) (n : Nat) (e : Dd) : Prop := e.at_ < n ∧ match e with
  | .raise _ z => ∃ k : Nat, 1 ≤ k ∧ k ≤ 6 ∧ z = g * k
  | .lower _ z => ∃ k : Nat, 1 ≤ k ∧ k ≤ 6 ∧ z = g * k
  | _ => True
def bI (b : Bool) : Int := if b then 1 else 0
theorem tog (b : Bool) : 1 - bI b = bI (!b) := by cases b <;> rfl
theorem noRef_lot (lot : List Dd) : ∀ x ∈ lotD lot, noRef 3 x = true := by
  intro x hx
  obtain ⟨e, _, rfl⟩ := List.mem_map.mp hx
  cases e <;> rfl
/-- a list of its own and plain data, handed back side by side -/
theorem off_pair {n h : Nat} {Q : D → Mem → Prop} {M' : Mem} {xs : List D} {y : D} (hh : n ≤ h) (hc : M'[h]? = some (.lst xs)) (hx : ∀ x ∈ xs, noRef 10 x = true) (hy : noRef 11 y = true) (q : Q (.tup [.lst xs, y]) (M'.take n)) : Off n Q (.tup [.ref h, y]) M' := by
  refine .inr ⟨by rw [w_tup, w_cons, w_ref, decide_eq_false (by omega)]; rfl, .tup [.lst xs, y], ?_, q⟩
  have e1 : frz M' n 11 (.ref h) = some (.lst xs) := by
    unfold frz
    rw [if_neg (by omega)]
    simp only [hc]
    have : xs.mapM (frz M' n 10) = some xs := by
      clear hc q
      induction xs with
      | nil => rfl
      | cons x xs ih => rw [List.mapM_cons, frz_noRef 10 x (hx x (by simp)), ih fun y hy => hx y (by simp [hy])]; rfl
    rw [this]
    rfl
  have e2 : frz M' n 11 y = some y := frz_noRef 11 y hy
  unfold frz
  rw [List.mapM_cons, List.mapM_cons, e1, e2]
  rfl
theorem vec_set {n a : Nat} {t : Nat → Int} {v : Int} (ha : a < n) : (vecD n t).set a (.int v) = vecD n fun i => if i = a then v else t i := by
  refine List.ext_getElem? fun i => ?_
  by_cases hi : i < n
  · rw [vecD_get hi, List.getElem?_set]
    by_cases h : a = i
    · subst h
      rw [if_pos rfl, if_pos (by rw [vecD_len]; exact ha), if_pos rfl]
    · rw [if_neg h, vecD_get hi, if_neg (fun e => h e.symm)]
  · rw [List.getElem?_eq_none (by simp [vecD_len]; omega), List.getElem?_eq_none (by rw [vecD_len]; omega)]
theorem ix_words {b : Bool} {x y : D} : atI [x, y] (bI b) = some (if b then y else x) := by cases b <;> rfl
theorem lot_app {lot : List Dd} {e : Dd} : lotD lot ++ [.tup e.l] = lotD (lot ++ [e]) := by simp [lotD]
theorem lap_ok {M : Mem} {h n k cap : Nat} {g : Int} (hk : 0 < k) (hk2 : k ≤ 100) (hc : cap ≤ 100) (hg : 0 < g) (hg2 : g ≤ 1000000000000000) (x : Box M h (n + 128 + 128 * k + 384 * cap)) :
    ∃ lot c M', f_law_lap [.ref h, .int k, .int cap, .int g] M = .ok (.tup [.lst (lotD lot), .tup (chD k c)]) M' ∧ (∀ e ∈ lot, DdOk g k e) ∧ lot.length ≤ cap + k ∧ (∃ c', runC c lot = some c' ∧ ∀ i, i < k → c' i = c i) ∧ Dr h n M M' := by
  have hh := x.lt
  have key : Wr (f_law_lap [.ref h, .int k, .int cap, .int g] M) fun d M' => ∃ lot c, d = .tup [.lst (lotD lot), .tup (chD k c)] ∧ (∀ e ∈ lot, DdOk g k e) ∧ lot.length ≤ cap + k ∧ (∃ c', runC c lot = some c' ∧ ∀ i, i < k → c' i = c i) ∧ Dr h n M M' := by
    refine @fn_off 4 11 b_law_lap _ _ _ rfl ?_
    intro P hR
    have rgk : ∀ M, rng1 [.int (k : Int)] M = .ok (rngD 0 k, []) M := fun M => rng1_nat (by omega)
    have lrk : (rngD 0 k).length ≤ 1000000 := by rw [rngD_len]; omega
    simp [b_law_lap, b_law_lap_s1, rgk, lrk, wipeD]
    refine wp_comp (fun i ys M' => (∃ c : Nat → Bool, ys = vecD i fun j => bI (c j)) ∧ Fr h M M' ∧ M'.length = M.length ∧ Box M' h (n + 128 + 128 * (k - i) + 384 * cap)) ?_ ?_ ?_
    · exact ⟨⟨fun _ => false, rfl⟩, .refl, rfl, x.mono (by omega)⟩
    · rintro i d ys M' hi hd ⟨⟨c, rfl⟩, fr, ln, bx⟩
      rw [rngD_len] at hi
      refine ⟨_, t_nm _ _, fun Q' hQ => ?_⟩
      obtain ⟨r1, M1, q1, a1, b1, d1⟩ := take_dr (M := M') (h := h) (n := n + 128 + 128 * (k - (i + 1)) + 384 * cap) (size := 2) (bx.mono (by omega)) (by decide) (by decide)
      simp [b_law_lap_c1, q1]
      refine hQ _ _ (by simp) ⟨⟨turnC c i (decide (r1 = 1)), ?_⟩, d1.fr fr, d1.len.trans ln, d1.box⟩
      rw [vecD_succ]
      congr 1
      · exact vecD_eq fun j hj => by show _ = bI (if j = i then _ else c j); rw [if_neg (by omega)]
      · show [D.int r1] = [D.int (bI (if i = i then _ else _))]
        rw [if_pos rfl]
        rcases (by omega : r1 = 0 ∨ r1 = 1) with rfl | rfl <;> rfl
    · rintro ys M1 ⟨⟨c, rfl⟩, fr1, ln1, bx1⟩
      rw [rngD_len] at *
      obtain ⟨F, hF⟩ : ∃ F, F = vecD k fun j => bI (c j) := ⟨_, rfl⟩
      rw [← hF]
      obtain ⟨r0, M0, q0, a0, b0, d0⟩ := take_dr (M := M1 ++ [.lst F] ++ [.lst []]) (h := h) (n := n + 384 * cap) (size := (cap : Int) + 1) (((bx1.app _).app _).mono (by omega)) (by omega) (Int.le_trans (by omega) t8)
      obtain ⟨t, ht⟩ : ∃ t : Nat, r0 = (t : Int) := ⟨r0.toNat, by omega⟩
      have rg : ∀ M, rng1 [.int (t : Int)] M = .ok (rngD 0 t, []) M := fun M => rng1_nat (by omega)
      rw [ht] at q0
      have q0' : f_law_take 8 [.ref h, .int ((cap : Int) + 1)] (M1 ++ [.lst F, .lst []]) = .ok (.int (t : Int)) M0 := by simpa using q0
      simp [b_law_lap_s2, b_law_lap_s5, q0', rg, ln1]
      refine wp_for (fun i s M' => ∃ v7 v8 v9 v10, s = [some (.ref h), some (.int k), some (.int cap), some (.int g), some (.lst F), some (.ref M.length), some (.ref (M.length + 1)), v7, v8, v9, v10] ∧ Fr h M M' ∧ Box M' h (n + 384 * (cap - i)) ∧ ∃ (lot : List Dd) (c' : Nat → Bool), lot.length = i ∧ (∀ e ∈ lot, DdOk g k e) ∧ runC c lot = some c' ∧ M'[M.length]? = some (.lst (vecD k fun j => bI (c' j))) ∧ M'[M.length + 1]? = some (.lst (lotD lot))) ?_ ?_ ?_
      · refine ⟨_, _, _, _, rfl, d0.fr ((fr1.app _).app _), d0.box.mono (by omega), [], c, rfl, by simp, rfl, ?_, ?_⟩
        · rw [d0.at_ _ (by omega), List.getElem?_append_left (by simp [ln1]), ← ln1, get_app, hF]
        · rw [d0.at_ _ (by omega), show M.length + 1 = (M1 ++ [Cell.lst F]).length by simp [ln1], get_app]
          rfl
      · rintro i d s M' hi hd ⟨v7, v8, v9, v10, rfl, fr, bx, lot, c', ll, ok, rc, hnow, hlot⟩
        rw [rngD_len] at hi
        obtain ⟨_, rfl⟩ := rngD_get hd
        refine ⟨_, t_nm _ _, fun P1 hN _ _ _ _ => ?_⟩
        obtain ⟨m, hm⟩ : ∃ m, m = n + 384 * (cap - (i + 1)) := ⟨_, rfl⟩
        obtain ⟨r1, M1, q1, a1, b1, d1⟩ := take_dr (M := M') (h := h) (n := m + 256) (size := 5) (bx.mono (by omega)) (by decide) (by decide)
        obtain ⟨r2, M2, q2, a2, b2, d2⟩ := take_dr (M := M1) (h := h) (n := m + 128) (size := (k : Int)) (d1.box.mono (by omega)) (by omega) (Int.le_trans (by omega) t8)
        obtain ⟨a, ha⟩ : ∃ a : Nat, r2 = (a : Int) := ⟨r2.toNat, by omega⟩
        subst ha
        have ak : a < k := by omega
        have h1 : M.length ≠ h := by omega
        have h2 : M.length + 1 ≠ h := by omega
        have hnow2 : M2[M.length]? = some (.lst (vecD k fun j => bI (c' j))) := by rw [d2.at_ _ h1, d1.at_ _ h1]; exact hnow
        have hlot2 : M2[M.length + 1]? = some (.lst (lotD lot)) := by rw [d2.at_ _ h2, d1.at_ _ h2]; exact hlot
        have llot : (lotD lot).length = i := by simp [lotD, ll]
        have fr2 := d2.fr (d1.fr fr)
        have ixn : atI (vecD k fun j => bI (c' j)) (a : Int) = some (.int (bI (c' a))) := atI_nat (vecD_get ak)
        obtain ⟨V, hV⟩ : ∃ V, V = vecD k fun j => bI (c' j) := ⟨_, rfl⟩
        have lV : V.length = k := by rw [hV, vecD_len]
        rw [← hV] at hnow2 ixn
        by_cases hw : r1 < 2
        · obtain ⟨e, he, hel, hs⟩ : ∃ e : Dd, e.at_ = a ∧ e.l = [if c' a then .str "empty" else .str "fill", .int ((a : Int) + 1)] ∧ stepC c' e = some (turnC c' a (!(c' a))) ∧ DdOk g k e := by
            cases hca : c' a with
            | true => exact ⟨.empty a, rfl, rfl, by show (if c' a = true then _ else _) = _; rw [if_pos hca]; rfl, ak, trivial⟩
            | false => exact ⟨.fill a, rfl, rfl, by show (if c' a = false then _ else _) = _; rw [if_pos hca]; rfl, ak, trivial⟩
          have ap := r_append (b := M.length) (v := .tup [if c' a then .str "empty" else .str "fill", .int ((a : Int) + 1)]) hlot2 (by omega) (by omega)
          rw [← hel, lot_app] at ap
          have ap' : mAppend M.length (.ref (M.length + 1)) [.tup [if c' a = true then .str "empty" else .str "fill", .int ((a : Int) + 1)]] M2 = .ok .non (M2.set (M.length + 1) (.lst (lotD (lot ++ [e])))) := by rw [← hel]; exact ap
          have hnow3 : (M2.set (M.length + 1) (.lst (lotD (lot ++ [e]))))[M.length]? = some (.lst V) := by rw [List.getElem?_set_ne (by omega)]; exact hnow2
          have st := r_setIx (b := M.length) (i := (a : Int)) (v := .int (1 - bI (c' a))) hnow3 (by omega) (by omega) (.inl (Nat.le_refl _))
          have ixw : ∀ b : Bool, atI [D.str "fill", D.str "empty"] (bI b) = some (if b = true then .str "empty" else .str "fill") := fun b => ix_words
          simp [b_law_lap_l1, b_law_lap_s3, b_law_lap_s4, q1, q2, hw, hlot2, hnow2, ixn, ixw, ap', hnow3, gIx, st]
          refine hN _ _ (by simp) ⟨_, _, _, _, rfl, (fr2.set (.inl (by omega)) _).set (.inl (Nat.le_refl _)) _, ((d2.box.set h2 _).set h1 _).mono (by omega), lot ++ [e], turnC c' a (!(c' a)), by simp [ll], ?_, ?_, ?_, ?_⟩
          · intro e' he'
            rcases List.mem_append.mp he' with h | h
            · exact ok _ h
            · have : e' = e := by simpa using h
              subst this
              exact hs.2
          · rw [runC_app, rc]
            show (stepC c' e).bind _ = _
            rw [hs.1]
            rfl
          · rw [set_get (by rw [List.length_set]; exact lt_of_get hnow2), hV, vec_set ak]
            congr 2
            exact vecD_eq fun j hj => by
              show _ = bI (if j = a then _ else _)
              by_cases h : j = a
              · rw [if_pos h, if_pos h, tog]
              · rw [if_neg h, if_neg h]
          · rw [List.getElem?_set_ne (by omega), set_get (lt_of_get hlot2)]
        · obtain ⟨r3, M3, q3, a3, b3, d3⟩ := take_dr (M := M2) (h := h) (n := m) (size := 6) (d2.box.mono (by omega)) (by decide) (by decide)
          have hnow3 : M3[M.length]? = some (.lst V) := by rw [d3.at_ _ h1]; exact hnow2
          have hlot3 : M3[M.length + 1]? = some (.lst (lotD lot)) := by rw [d3.at_ _ h2]; exact hlot2
          obtain ⟨z, hz⟩ : ∃ z, z = g * (1 + r3) := ⟨_, rfl⟩
          have mg : ∀ M, oMul (.int g) (.int (1 + r3)) M = .ok (.int z) M := fun M => by rw [hz]; exact r_mul (mul_l (by omega) (by omega))
          obtain ⟨e, wd, hwd, hel, hs, hok⟩ : ∃ (e : Dd) (wd : Str), atI [D.str "lower", D.str "raise", D.str "raise"] (r1 - 2) = some (.str wd) ∧ e.l = [.str wd, .int ((a : Int) + 1), .int z] ∧ stepC c' e = some c' ∧ DdOk g k e := by
            have kk : ∃ j : Nat, 1 ≤ j ∧ j ≤ 6 ∧ z = g * j := ⟨(1 + r3).toNat, by omega, by omega, by rw [hz]; congr 1; omega⟩
            rcases (by omega : r1 = 2 ∨ r1 = 3 ∨ r1 = 4) with rfl | rfl | rfl
            · exact ⟨.lower a z, "lower", rfl, rfl, rfl, ak, kk⟩
            · exact ⟨.raise a z, "raise", rfl, rfl, rfl, ak, kk⟩
            · exact ⟨.raise a z, "raise", rfl, rfl, rfl, ak, kk⟩
          have ap := r_append (b := M.length) (v := .tup [.str wd, .int ((a : Int) + 1), .int z]) hlot3 (by omega) (by omega)
          rw [← hel, lot_app, hel] at ap
          simp [b_law_lap_l1, b_law_lap_s3, b_law_lap_s4, q1, q2, hw, hlot2, q3, hwd, mg, ap]
          refine hN _ _ (by simp) ⟨_, _, _, _, rfl, (d3.fr fr2).set (.inl (by omega)) _, (d3.box.set h2 _).mono (by omega), lot ++ [e], c', by simp [ll], ?_, ?_, ?_, ?_⟩
          · intro e' he'
            rcases List.mem_append.mp he' with h | h
            · exact ok _ h
            · have : e' = e := by simpa using h
              subst this
              exact hok
          · rw [runC_app, rc]
            show (stepC c' e).bind _ = _
            rw [hs]
            rfl
          · rw [List.getElem?_set_ne (by omega), hnow3, hV]
          · rw [set_get (lt_of_get hlot3)]
      · rintro s' M' ⟨v7, v8, v9, v10, rfl, fr, bx, lot, c', ll, ok, rc, hnow, hlot⟩
        rw [rngD_len] at *
        simp [b_law_lap_s6, rgk]
        refine wp_for (fun i s M2 => ∃ v9, s = [some (.ref h), some (.int k), some (.int cap), some (.int g), some (.lst F), some (.ref M.length), some (.ref (M.length + 1)), v7, v8, v9, v10] ∧ Fr h M M2 ∧ Box M2 h n ∧ ∃ (lot : List Dd) (cc : Nat → Bool), lot.length ≤ t + i ∧ (∀ e ∈ lot, DdOk g k e) ∧ runC c lot = some cc ∧ (∀ j, cc j = if j < i then c j else c' j) ∧ M2[M.length]? = some (.lst (vecD k fun j => bI (c' j))) ∧ M2[M.length + 1]? = some (.lst (lotD lot))) ?_ ?_ ?_
        · exact ⟨_, rfl, fr, bx.mono (by omega), lot, c', by omega, ok, rc, fun j => by rw [if_neg (by omega)], hnow, hlot⟩
        · rintro i d s M2 hi hd ⟨v9, rfl, fr, bx, lot, cc, ll, ok, rc, hcc, hnow, hlot⟩
          rw [rngD_len] at hi
          obtain ⟨_, rfl⟩ := rngD_get hd
          refine ⟨_, t_nm _ _, fun P1 hN _ _ _ _ => ?_⟩
          have ez : (0 : Int) + (i : Int) = (i : Int) := by omega
          rw [ez]
          have ixn : atI (vecD k fun j => bI (c' j)) (i : Int) = some (.int (bI (c' i))) := atI_nat (vecD_get hi)
          have ixf : atI F (i : Int) = some (.int (bI (c i))) := by rw [hF]; exact atI_nat (vecD_get hi)
          obtain ⟨V, hV⟩ : ∃ V, V = vecD k fun j => bI (c' j) := ⟨_, rfl⟩
          rw [← hV] at hnow ixn
          have cci : cc i = c' i := by rw [hcc, if_neg (by omega)]
          by_cases hne : c' i = c i
          · have e1 : bI (c' i) = bI (c i) := by rw [hne]
            simp [b_law_lap_l2, hnow, ixn, ixf, e1]
            refine hN _ _ (by simp) ⟨_, rfl, fr, bx, lot, cc, by omega, ok, rc, fun j => ?_, by rw [← hV]; exact hnow, hlot⟩
            rw [hcc]
            by_cases h1 : j < i
            · rw [if_pos h1, if_pos (by omega)]
            · by_cases h2 : j = i
              · subst h2
                rw [if_neg h1, if_pos (by omega)]
                exact hne
              · rw [if_neg h1, if_neg (by omega)]
          · have e1 : ¬ bI (c' i) = bI (c i) := by cases h1 : c' i <;> cases h2 : c i <;> simp_all [bI]
            obtain ⟨e, he, hel, hs⟩ : ∃ e : Dd, e.at_ = i ∧ e.l = [if c' i then .str "empty" else .str "fill", .int ((i : Int) + 1)] ∧ stepC cc e = some (turnC cc i (!(c' i))) ∧ DdOk g k e := by
              cases hca : c' i with
              | true => exact ⟨.empty i, rfl, rfl, by show (if cc i = true then _ else _) = _; rw [if_pos (by rw [cci, hca])]; rfl, hi, trivial⟩
              | false => exact ⟨.fill i, rfl, rfl, by show (if cc i = false then _ else _) = _; rw [if_pos (by rw [cci, hca])]; rfl, hi, trivial⟩
            have ap := r_append (b := M.length) (v := .tup [if c' i then .str "empty" else .str "fill", .int ((i : Int) + 1)]) hlot (by omega) (by simp [lotD]; omega)
            rw [← hel, lot_app, hel] at ap
            have ixw : ∀ b : Bool, atI [D.str "fill", D.str "empty"] (bI b) = some (if b = true then .str "empty" else .str "fill") := fun b => ix_words
            simp [b_law_lap_l2, hnow, ixn, ixf, e1, hlot, ixw, ap]
            refine hN _ _ (by simp) ⟨_, rfl, fr.set (.inl (by omega)) _, bx.set (by omega) _, lot ++ [e], turnC cc i (!(c' i)), by simp; omega, ?_, ?_, fun j => ?_, ?_, ?_⟩
            · intro e' he'
              rcases List.mem_append.mp he' with h | h
              · exact ok _ h
              · have : e' = e := by simpa using h
                subst this
                exact hs.2
            · rw [runC_app, rc]
              show (stepC cc e).bind _ = _
              rw [hs.1]
              rfl
            · show (if j = i then _ else cc j) = _
              by_cases h2 : j = i
              · subst h2
                rw [if_pos rfl, if_pos (by omega)]
                cases h3 : c' j <;> cases h4 : c j <;> simp_all
              · rw [if_neg h2, hcc]
                by_cases h1 : j < i
                · rw [if_pos h1, if_pos (by omega)]
                · rw [if_neg h1, if_neg (by omega)]
            · rw [List.getElem?_set_ne (by omega), hnow, hV]
            · rw [set_get (lt_of_get hlot)]
        · rintro s' M2 ⟨v9, rfl, fr, bx, lot, cc, ll, ok, rc, hcc, hnow, hlot⟩
          rw [rngD_len] at *
          have lF : F.length ≤ 1000000 := by rw [hF, vecD_len]; omega
          simp [b_law_lap_s7, lF, wipeD]
          refine wp_map (fun d => match d with | .int z => .str (chS (decide (z = 1))) | _ => .non) ?_ (by simp) ?_
          · intro d hd
            rw [hF] at hd
            obtain ⟨i, _, rfl⟩ := List.mem_map.mp hd
            refine ⟨_, t_nm _ _, ?_⟩
            have ixw : ∀ b : Bool, atI [D.str "low", D.str "high"] (bI b) = some (.str (chS b)) := fun b => by cases b <;> rfl
            have e1 : decide (bI (c i) = 1) = c i := by cases c i <;> rfl
            simp only [e1]
            simp [b_law_lap_c2, ixw]
          · have eY : F.map (fun d => match d with | .int z => D.str (chS (decide (z = 1))) | _ => .non) = chD k c := by
              rw [hF]
              unfold vecD chD
              rw [List.map_map]
              refine List.map_congr_left fun i _ => ?_
              show D.str (chS (decide (bI (c i) = 1))) = _
              have e1 : decide (bI (c i) = 1) = c i := by cases c i <;> rfl
              rw [e1]
            rw [eY]
            have tp := r_tuple (M := M2) (q_lst M2 (chD k c))
            simp [tp]
            refine hR _ _ (off_pair (by omega) hlot (fun x hx => noRef_le (noRef_lot lot x hx) (by decide)) ?_ ⟨lot, c, rfl, ok, by omega, ⟨cc, rc, fun i hi => by rw [hcc, if_pos hi]⟩, .of fr bx hh⟩)
            refine noRef_le (k := 2) ?_ (by decide)
            unfold noRef
            refine List.all_eq_true.mpr fun x hx => ?_
            obtain ⟨i, _, rfl⟩ := List.mem_map.mp hx
            rfl
  obtain ⟨d, M', e, lot, c, rfl, h1, h2, h3, h4⟩ := wr_of key
  exact ⟨lot, c, M', e, h1, h2, h3, h4⟩
end LW
namespace LW
open PySem L2
section
variable {b : Nat} {hs : List Nat} {M0 M : Mem} {t t1 : Tg} {c c1 : ET} {e : ES} {s : Slots} {ds : List D} {it it1 : EI} {vs1 own : List Nat}
@[simp] theorem r_comp2 : nComp2 it own t c it1 vs1 t1 c1 e b s M = (it b s M).bind fun p M1 => (comp2L b p.2 M1 t c it1 vs1 t1 c1 e (wipeD s own) p.1 M1).nox.bind fun zs M2 => lim zs.length (.ok zs M2) := id rfl
end
theorem bls_of (bs : List Bool) : blsOf (bs.map .bl) = some bs := by
  induction bs with
  | nil => rfl
  | cons z zs ih =>
    show (blsOf (zs.map .bl)).map (z :: ·) = _
    rw [ih]
    rfl
theorem r_anyB {M : Mem} {α : Type} (xs : List α) (p : α → Bool) : bAny [.lst (xs.map fun x => .bl (p x))] M = .ok (.bl (xs.any p)) M := by
  have e : (xs.map fun x => D.bl (p x)) = (xs.map p).map .bl := by simp
  rw [e]
  show (match (some ((xs.map p).map D.bl)).bind blsOf with | some ys => _ | none => _) = _
  simp only [Option.bind_some, bls_of]
  congr 2
  simp
end LW
namespace LW
open PySem L2
noncomputable def b_law_sums_c1 : ES := eC (.int 0)
noncomputable def b_law_sums_s1 : SS := sSet 2 (eThw (nComp (iOf (eVar 0)) [7] (.nm 7) (tTrue) (b_law_sums_c1)))
noncomputable def b_law_sums_s2 : SS := sSet 4 (eBin oIx (eBin oIx (eVar 0) (eBin oSub (eBin oIx (eVar 3) (eC (.int 1))) (eC (.int 1)))) (eC (.int 2)))
noncomputable def b_law_sums_s3 : SS := sSet 5 (eIf (tVal (eBin (oInB false) (eBin oIx (eVar 3) (eC (.int 0))) (eTup (aCons (eC (.str "fill")) (aCons (eC (.str "empty")) (aNil)))))) (eDix "fill" "empty" (eBin oSub (eC (.int 0)) (eVar 4)) (eVar 4) (eBin oIx (eVar 3) (eC (.int 0)))) (eBin oIx (eVar 3) (eC (.int 2))))
noncomputable def b_law_sums_s4 : SS := sSet 5 (eIf (tVal (eBin oEq (eBin oIx (eVar 3) (eC (.int 0))) (eC (.str "lower")))) (eBin oSub (eC (.int 0)) (eVar 5)) (eVar 5))
noncomputable def b_law_sums_l1 : SS := sAsg (eBin oAdd (eBin oIx (eVar 2) (eVar 6)) (eVar 5)) (gIx (eVar 2) (eVar 6))
noncomputable def b_law_sums_s5 : SS := sFor (iRange1 (aCons (eBin oSub (eBin oIx (eVar 3) (eC (.int 1))) (eFn bInt (aCons (eBin oEq (eBin oIx (eVar 3) (eC (.int 0))) (eC (.str "empty"))) (aNil)))) (aNil))) (.nm 6) (b_law_sums_l1)
noncomputable def b_law_sums_l2 : SS := sSeq (b_law_sums_s2)
  (sSeq (b_law_sums_s3)
  (sSeq (b_law_sums_s4)
  (b_law_sums_s5)))
noncomputable def b_law_sums : SS := sSeq (b_law_sums_s1)
  (sSeq (sFor (iOf (eVar 1)) (.nm 3) (b_law_sums_l2))
  (sRet (eFn bTuple (aCons (eVar 2) (aNil)))))
noncomputable def f_law_sums : Fn := mkFn false 2 8 b_law_sums
end LW
namespace LW
open PySem L2
@[simp] theorem r_revT (xs : List D) (M : Mem) : oRev (.tup xs) M = .ok (.tup xs.reverse) M := id rfl
@[simp] theorem r_revL (xs : List D) (M : Mem) : oRev (.lst xs) M = .ok (.lst xs.reverse) M := id rfl
theorem r_revR {M : Mem} {h : Nat} {xs : List D} (e : M[h]? = some (.lst xs)) : oRev (.ref h) M = .ok (.lst xs.reverse) M := by
  unfold oRev
  simp only [q_ref, e]
theorem Sqd.rev {d : D} {xs : List D} (h : Sqd d xs) : ∃ d', Sqd d' xs.reverse ∧ ∀ M, oRev d M = .ok d' M := by
  rcases h with rfl | rfl
  · exact ⟨_, .t _, fun M => rfl⟩
  · exact ⟨_, .l _, fun M => rfl⟩
section
variable {b : Nat} {s : Slots} {M : Mem} {fa : EA} {f1 f2 g : ES}
def dnR (ds : List D) (M1 : Mem) : R (List D × List Nat) := match ds with
  | [.int i, .int j, .int c] => if rngOk i ∧ rngOk j ∧ c = -1 then .ok ((List.range (i - j).toNat).map fun (k : Nat) => .int (i + (k : Int) * (-1)), []) M1 else .bad
  | _ => .bad
@[simp] theorem r_down : iDown fa b s M = (fa b s M).bind dnR := id rfl
@[simp] theorem r_dix (k1 k2 : Str) : eDix k1 k2 f1 f2 g b s M = (f1 b s M).nox.bind fun x M1 => (f2 b s M1).nox.bind fun y M2 => (g b s M2).bind fun z M3 => match z with
  | .str k => if k = k1 then .ok x M3 else if k = k2 then .ok y M3 else .bad
  | _ => .bad := id rfl
theorem r_in2 {w a c : Str} : oInB false (.str w) (.tup [.str a, .str c]) M = .ok (.bl (a == w || c == w)) M := by
  have e : inV (.str w) [.str a, .str c] = (a == w || c == w) := by
    show ((a == w) || ((c == w) || false)) = _
    rw [Bool.or_false]
  show R.ok (D.bl (if false = true then _ else inV (.str w) [.str a, .str c])) M = _
  rw [e]
  rfl
end
theorem u1 : (("fill" : Str) = "empty") = False := by simp; decide
theorem u2 : (("empty" : Str) = "fill") = False := by simp; decide
/-- the total of levels from i on -/
def totF (n : Nat) (l : Nat → Int) : Nat → Int := fun i => sumM l i n
theorem totF_end (n : Nat) (l : Nat → Int) : totF n l n = 0 := sumM_self l n
theorem sumM_head {m : Nat → Int} {i p : Nat} (h : i < p) : sumM m i p = m i + sumM m (i + 1) p := by
  rw [← sumM_add (m := m) (show i ≤ i + 1 by omega) p h, sumM_succ (Nat.le_refl i), sumM_self]
  omega
theorem totF_step {n : Nat} {l : Nat → Int} {i : Nat} (h : i < n) : totF n l i = l i + totF n l (i + 1) := sumM_head h
theorem rev_get {n i : Nat} {t : Nat → Int} (h : i < n) : (vecD n t).reverse[i]? = some (.int (t (n - 1 - i))) := by
  rw [List.getElem?_reverse (by rw [vecD_len]; exact h), vecD_len, vecD_get (by omega)]
theorem totals_ok {y : D} {n : Nat} {l : Nat → Int} {M : Mem} (hn : n ≤ 1000) (hy : Sqd y (vecD n l)) : f_totals_of [y] M = .ok (.tup (vecD n (totF n l))) M := by
  refine ok_of (fn_wp rfl fun P hR => ?_)
  obtain ⟨z, hz, rz⟩ := hy.rev
  obtain ⟨V, hV⟩ : ∃ V, V = (vecD n l).reverse := ⟨_, rfl⟩
  have lV : V.length = n := by rw [hV, List.length_reverse, vecD_len]
  rw [← hV] at hz
  simp [b_totals_of, b_totals_of_s1, rz, hz.q, hz.g]
  refine wp_for (fun i s M' => ∃ v3, s = [some y, some (.ref M.length), some (.int (totF n l (n - i))), v3] ∧ Pf M M' ∧ M'[M.length]? = some (.lst ((vecD n (totF n l)).reverse.take i))) ?_ ?_ ?_
  · exact ⟨none, by rw [Nat.sub_zero, totF_end], .app .refl _, by simp⟩
  · rintro i d s M' hi hd ⟨v3, rfl, pf, hc⟩
    rw [lV] at hi
    rw [hV, rev_get hi] at hd
    cases hd
    refine ⟨_, t_nm _ _, fun P1 hN _ _ _ _ => ?_⟩
    have e1 : totF n l (n - i) + l (n - 1 - i) = totF n l (n - (i + 1)) := by
      rw [totF_step (i := n - (i + 1)) (by omega), show n - (i + 1) + 1 = n - i by omega, show n - 1 - i = n - (i + 1) by omega]
      omega
    have ap := r_append (b := M.length) (v := .int (totF n l (n - (i + 1)))) hc (Nat.le_refl _) (by rw [List.length_take, List.length_reverse, vecD_len]; omega)
    simp [b_totals_of_l1, e1, hc, ap]
    refine hN _ _ (by simp) ⟨_, rfl, pf.set (Nat.le_refl _) _, ?_⟩
    rw [set_get (lt_of_get hc), List.take_add_one, rev_get hi, show n - 1 - i = n - (i + 1) by omega]
    rfl
  · rintro s' M' ⟨v3, rfl, pf, hc⟩
    rw [lV, List.take_of_length_le (by rw [List.length_reverse, vecD_len]; omega)] at hc
    have rr := r_revR hc
    rw [List.reverse_reverse] at rr
    have tp := r_tuple (M := M') (q_lst M' (vecD n (totF n l)))
    simp [rr, tp]
    exact hR _ _ (by simp [below_vecD]) ⟨rfl, pf.take⟩
def lvF (t : Nat → Int) : Nat → Int := fun i => t i - t (i + 1)
theorem tot_lv {n : Nat} {t : Nat → Int} (h0 : t n = 0) : ∀ {i : Nat}, i ≤ n → totF n (lvF t) i = t i := by
  have key : ∀ k i, i + k = n → totF n (lvF t) i = t i := by
    intro k
    induction k with
    | zero =>
      intro i hi
      have : i = n := by omega
      subst this
      rw [totF_end, h0]
    | succ k ih =>
      intro i hi
      rw [totF_step (by omega), ih (i + 1) (by omega)]
      unfold lvF
      omega
  intro i hi
  exact key (n - i) i (by omega)
theorem zip_vec {n : Nat} {t u : Nat → Int} : zipD (vecD n t) (vecD n u) = (List.range n).map fun i => .tup [.int (t i), .int (u i)] := by
  unfold zipD vecD
  rw [List.zipWith_map, List.zipWith_self]
theorem comp_zip {n b : Nat} {hs : List Nat} {M M0 : Mem} {t u : Nat → Int} {o : D → D → Mem → R D} (op : Int → Int → Int) (ho : ∀ x y, o (.int x) (.int y) M = .ok (.int (op x y)) M) {i j : Nat} {s : Slots} {e : ES} (he : e = eBin o (eVar i) (eVar j)) (hij : i ≠ j) (hi : i < s.length) (hj : j < s.length) (hg : gdOk hs M0 M) :
    compL b hs M0 (.tp [.nm i, .nm j]) tTrue e s (zipD (vecD n t) (vecD n u)) M = .ok (vecD n fun k => op (t k) (u k)) M := by
  subst he
  rw [zip_vec]
  have e : (vecD n fun k => op (t k) (u k)) = ((List.range n).map fun i => D.tup [.int (t i), .int (u i)]).map (fun d => match d with | .tup [.int x, .int y] => D.int (op x y) | _ => .non) := by
    unfold vecD
    rw [List.map_map]
    rfl
  rw [e]
  refine comp_map _ (fun d hd => ?_) hg
  obtain ⟨k, _, rfl⟩ := List.mem_map.mp hd
  refine ⟨(s.set i (some (.int (t k)))).set j (some (.int (u k))), by simp, ?_⟩
  have g1 : ((s.set i (some (D.int (t k)))).set j (some (D.int (u k))))[i]? = some (some (.int (t k))) := by
    rw [List.getElem?_set_ne (Ne.symm hij)]
    simp [hi]
  have g2 : ((s.set i (some (D.int (t k)))).set j (some (D.int (u k))))[j]? = some (some (.int (u k))) := by simp [hj]
  simp only [r_bin, r_var, g1, g2, bind_ok, ho]
theorem zip_vlen {n : Nat} {t u : Nat → Int} : (zipD (vecD n t) (vecD n u)).length = n := by rw [zip_len, vecD_len, vecD_len]; omega
theorem drop1 {n : Nat} {t : Nat → Int} (h0 : t n = 0) (hn : 0 < n) : (vecD n t).drop 1 ++ [.int 0] = vecD n fun i => t (i + 1) := by
  refine List.ext_getElem? fun j => ?_
  by_cases h : j < n
  · rw [vecD_get h]
    by_cases h1 : j + 1 < n
    · rw [List.getElem?_append_left (by rw [List.length_drop, vecD_len]; omega), List.getElem?_drop, Nat.add_comm, vecD_get h1]
    · have : j + 1 = n := by omega
      rw [List.getElem?_append_right (by rw [List.length_drop, vecD_len]; omega), List.length_drop, vecD_len, show j - (n - 1) = 0 by omega, this, h0]
      rfl
  · rw [List.getElem?_eq_none (by rw [List.length_append, List.length_drop, vecD_len]; simp; omega), List.getElem?_eq_none (by rw [vecD_len]; omega)]
theorem levels_ok {y : D} {n : Nat} {t : Nat → Int} {M : Mem} (h1 : 0 < n) (hn : n ≤ 1000) (hy : Sqd y (vecD n t)) (h0 : t n = 0) : f_levels_of [y] M = .ok (.tup (vecD n (lvF t))) M := by
  refine ok_of (fn_wp rfl fun P hR => ?_)
  obtain ⟨z, hz, cz⟩ := hy.cut (some 1) none
  have ec : cutL (vecD n t) (some 1) none = (vecD n t).drop 1 := cut_drop _ 1
  rw [ec] at hz
  obtain ⟨V, hV⟩ : ∃ V, V = (vecD n t).drop 1 := ⟨_, rfl⟩
  have lV : V.length + 1 ≤ 1000000 := by rw [hV, List.length_drop, vecD_len]; omega
  have eV : V ++ [.int 0] = vecD n fun i => t (i + 1) := by rw [hV, drop1 h0 h1]
  rw [← hV] at hz
  have lz : (vecD n t).length = (vecD n fun i => t (i + 1)).length := by rw [vecD_len, vecD_len]
  have lz2 : (zipD (vecD n t) (vecD n fun i => t (i + 1))).length ≤ 1000000 := by rw [zip_vlen]; omega
  have cp : ∀ s : Slots, s.length = 4 → compL M.length [] M (.tp [.nm 2, .nm 3]) tTrue b_levels_of_c1 s (zipD (vecD n t) (vecD n fun i => t (i + 1))) M = .ok (vecD n (lvF t)) M := fun s hs => comp_zip (fun x y => x - y) (fun x y => by simp) rfl (by decide) (by omega) (by omega) (by simp)
  have tp := r_tuple (M := M) (q_lst M (vecD n (lvF t)))
  simp [b_levels_of, b_levels_of_s1, b_levels_of_s2, cz, hz.q, lV, eV, hy.q, hy.g, lz, lz2, wipeD, cp, tp]
  exact hR _ _ (by simp [below_vecD]) ⟨rfl, List.take_length⟩
theorem over_step {n : Nat} {mo t : Nat → Int} {i : Nat} (h : i < n) : ledF n (sumM mo) t i = if mo i + ledF n (sumM mo) t (i + 1) < t i then mo i + ledF n (sumM mo) t (i + 1) else t i := by
  refine eq_of_le fun x => ?_
  have key : x ≤ ledF n (sumM mo) t i ↔ x ≤ t i ∧ x ≤ mo i + ledF n (sumM mo) t (i + 1) := by
    rw [le_ledF (by omega)]
    constructor
    · intro z
      refine ⟨?_, ?_⟩
      · have := z i (Nat.le_refl _) (by omega)
        rw [sumM_self] at this
        omega
      · have : x - mo i ≤ ledF n (sumM mo) t (i + 1) := (le_ledF (by omega)).mpr fun q h1 h2 => by
          have := z q (by omega) h2
          rw [sumM_head (by omega)] at this
          omega
        omega
    · intro ⟨z1, z2⟩ q h1 h2
      by_cases hq : q = i
      · subst hq
        rw [sumM_self]
        omega
      · have : x - mo i ≤ ledF n (sumM mo) t (i + 1) := by omega
        have := (le_ledF (by omega)).mp this q (by omega) h2
        rw [sumM_head (by omega)]
        omega
  rw [key]
  split <;> omega
end LW
namespace LW
open PySem L2
/-- totals behind a deed -/
def goF (n : Nat) (S : Stair) (t : Nat → Int) (e : Dd) : Nat → Int := ledF n (sumM S.mo) fun i => t i + addF S e i
theorem vec_set' {n a : Nat} {t : Nat → Int} {v : Int} {u : Nat → Int} (ha : a < n) (h : ∀ i, i < n → u i = if i = a then v else t i) : (vecD n t).set a (.int v) = vecD n u := by
  rw [vec_set ha]
  exact vecD_eq fun i hi => (h i hi).symm
theorem x1 : (("low" : Str) == "high") = false := by decide
theorem x2 : (("high" : Str) == "low") = false := by decide
section
variable {n : Nat} {S : Stair} {x y : D} {l : Nat → Int} {c : Nat → Bool} {e : Dd} {M : Mem} {lo : Bool}
end
end LW
namespace LW
open PySem L2
def goL (n : Nat) (S : Stair) : List Dd → (Nat → Int) → Nat → Int
  | [], t => t
  | e :: r, t => goL n S r (goF n S t e)
def sumA (S : Stair) (lot : List Dd) (i : Nat) : Int := (lot.map fun e => addF S e i).sum
theorem goL_app (n : Nat) (S : Stair) : ∀ (r q : List Dd) (t : Nat → Int), goL n S (r ++ q) t = goL n S q (goL n S r t)
  | [], _, _ => rfl
  | e :: r, q, t => goL_app n S r q (goF n S t e)
theorem sumA_app (S : Stair) (r q : List Dd) (i : Nat) : sumA S (r ++ q) i = sumA S r i + sumA S q i := by simp [sumA]
theorem sumA_one (S : Stair) (e : Dd) (i : Nat) : sumA S [e] i = addF S e i := by simp [sumA]
theorem goF_congr {n : Nat} {S : Stair} {t u : Nat → Int} {e : Dd} (h : ∀ i, i ≤ n → t i = u i) {i : Nat} (hi : i ≤ n) : goF n S t e i = goF n S u e i :=
  ledF_congr hi (fun _ _ _ => rfl) fun p _ h2 => by rw [h p h2]
theorem goL_congr {n : Nat} {S : Stair} : ∀ {lot : List Dd} {t u : Nat → Int}, (∀ i, i ≤ n → t i = u i) → ∀ {i : Nat}, i ≤ n → goL n S lot t i = goL n S lot u i
  | [], t, u, h, i, hi => h i hi
  | e :: r, t, u, h, i, hi => goL_congr (lot := r) (fun j hj => goF_congr h hj) hi
/-- a table of deeds leads as they go, running over first -/
theorem led_add {n : Nat} {mo a t : Nat → Int} {i : Nat} (hi : i ≤ n) : ledF n (addT mo a) t i = ledF n (sumM mo) (fun j => t j + a j) i :=
  mnI_congr fun q _ _ => by
    show sumM mo i q + a q + t q = sumM mo i q + (t q + a q)
    omega
theorem led_tab {n : Nat} {S : Stair} : ∀ (lot : List Dd) (A : Tb) (t : Nat → Int) {i : Nat}, i ≤ n → ledF n (runT S.mo (lot.map (addF S)) A) t i = goL n S lot (ledF n A t) i
  | [], A, t, i, hi => rfl
  | e :: r, A, t, i, hi => by
    show ledF n (runT S.mo (r.map (addF S)) (beh A (addT S.mo (addF S e)))) t i = goL n S r (goF n S (ledF n A t) e) i
    rw [led_tab r _ t hi]
    refine goL_congr (fun j hj => ?_) hi
    rw [ledF_beh hj, led_add hj]
    rfl
theorem led_tabOf {n : Nat} {S : Stair} (lot : List Dd) (t : Nat → Int) {i : Nat} (hi : i ≤ n) : ledF n (tabOf S.mo (lot.map (addF S))) t i = goL n S lot (ledF n (sumM S.mo) t) i := led_tab lot _ t hi
theorem zero_row {n : Nat} {ps : List D} (h : ps.length = n) : ps.map (fun _ => D.int 0) = vecD n fun _ => 0 := by
  subst h
  unfold vecD
  refine List.ext_getElem? fun j => ?_
  rw [List.getElem?_map, List.getElem?_map]
  by_cases h : j < ps.length
  · rw [List.getElem?_eq_getElem h, List.getElem?_range h]; rfl
  · rw [List.getElem?_eq_none (by omega), List.getElem?_eq_none (by simpa using h)]; rfl
theorem loR_get {lot : List Dd} {y : D} (h : LoR lot y) : ∃ ds, Sqd y ds ∧ ds.length = lot.length ∧ ∀ i, (h : i < lot.length) → ∃ z, ds[i]? = some z ∧ Sqd z (lot[i]).l := by
  obtain ⟨ds, h1, h2, h3⟩ := h
  exact ⟨ds, h1, h2, fun i hi => h3 i lot[i] (List.getElem?_eq_getElem hi)⟩
theorem take_one' {lot : List Dd} {i : Nat} (hi : i < lot.length) : lot.take (i + 1) = lot.take i ++ [lot[i]] := by
  rw [List.take_add_one, List.getElem?_eq_getElem hi]
  rfl
theorem put_ok {n : Nat} {x y : D} {t u : Nat → Int} {M : Mem} (hn : n ≤ 1000) (hx : Sqd x (vecD n t)) (hy : Sqd y (vecD n u)) : f_put_together [x, y] M = .ok (.tup (vecD n fun i => t i + u i)) M := by
  refine ok_of (fn_wp rfl fun P hR => ?_)
  have cp : ∀ s : Slots, s.length = 4 → compL M.length [] M (.tp [.nm 2, .nm 3]) tTrue b_put_together_c1 s (zipD (vecD n t) (vecD n u)) M = .ok (vecD n fun k => t k + u k) M := fun s hs => comp_zip (fun x y => x + y) (fun x y => by simp) rfl (by decide) (by omega) (by omega) (by simp)
  have lz : (vecD n t).length = (vecD n u).length := by rw [vecD_len, vecD_len]
  have lz2 : (zipD (vecD n t) (vecD n u)).length ≤ 1000000 := by rw [zip_vlen]; omega
  have tp := r_tuple (M := M) (q_lst M (vecD n fun k => t k + u k))
  simp [b_put_together, hx.q, hx.g, hy.q, hy.g, lz, lz2, wipeD, cp, tp]
  exact hR _ _ (by simp [below_vecD]) ⟨rfl, List.take_length⟩
theorem sums_ok {n : Nat} {S : Stair} {x y : D} {lot : List Dd} {M : Mem} (hn : n ≤ 1000) (hx : StR n S x) (hy : LoR lot y) (he : ∀ e ∈ lot, e.at_ < n) : f_sums_of [x, y] M = .ok (.tup (vecD n (sumA S lot))) M := by
  refine ok_of (fn_wp rfl fun P hR => ?_)
  obtain ⟨ps, s1, s2, s3⟩ := id hx
  obtain ⟨ds, d1, d2, d3⟩ := loR_get hy
  have lp : ps.length ≤ 1000000 := by omega
  have tp0 := r_tuple (M := M) (q_lst M (vecD n fun _ => 0))
  simp [b_sums_of, b_sums_of_s1, s1.q, s1.g, lp, wipeD]
  refine wp_map (fun _ => .int 0) (fun d hd => ⟨_, t_nm _ _, rfl⟩) (by simp) ?_
  rw [zero_row s2]
  simp [tp0, d1.q, d1.g]
  refine wp_for (fun i s M' => M' = M ∧ ∃ v3, s = [some x, some y, some (.tup (vecD n (sumA S (lot.take i)))), v3, none]) ?_ ?_ ?_
  · exact ⟨rfl, none, rfl⟩
  · rintro i d s M' hi hd ⟨rfl, v3, rfl⟩
    rw [d2] at hi
    obtain ⟨z, hz, sz⟩ := d3 i hi
    rw [hd] at hz
    cases hz
    refine ⟨_, t_nm _ _, fun P1 hN _ _ _ _ => ?_⟩
    have ad := added_ok (M := M') hn hx sz (he _ (List.getElem_mem hi))
    have pt := put_ok (M := M') (n := n) (t := sumA S (lot.take i)) (u := addF S lot[i]) hn (.t _) (.t _)
    have e1 : (vecD n fun j => sumA S (lot.take i) j + addF S lot[i] j) = vecD n (sumA S (lot.take (i + 1))) := vecD_eq fun j hj => by rw [take_one' hi, sumA_app, sumA_one]
    rw [e1] at pt
    simp [b_sums_of_l1, ad, pt]
    exact hN _ _ (by simp) ⟨rfl, _, rfl⟩
  · rintro s' M' ⟨rfl, v3, rfl⟩
    rw [d2, List.take_length]
    simp
    exact hR _ _ (by simp [below_vecD]) ⟨rfl, List.take_length⟩
/-- what a deed adds, from the first pound on -/
def muD (S : Stair) : Dd → Int
  | .fill a => -(S.sz a)
  | .empty a => S.sz a
  | .raise _ z => z
  | .lower _ z => -z
def toD : Dd → Nat
  | .empty a => a
  | e => e.at_ + 1
theorem mu_add (S : Stair) (e : Dd) (i : Nat) : (if i < toD e then muD S e else 0) = addF S e i := by
  cases e with
  | fill a =>
    show (if i < a + 1 then -(S.sz a) else 0) = if i ≤ a then -(S.sz a) else 0
    by_cases h : i ≤ a
    · rw [if_pos h, if_pos (by omega)]
    · rw [if_neg h, if_neg (by omega)]
  | empty a => rfl
  | raise a z =>
    show (if i < a + 1 then z else 0) = if i ≤ a then z else 0
    by_cases h : i ≤ a
    · rw [if_pos h, if_pos (by omega)]
    · rw [if_neg h, if_neg (by omega)]
  | lower a z =>
    show (if i < a + 1 then -z else 0) = if i ≤ a then -z else 0
    by_cases h : i ≤ a
    · rw [if_pos h, if_pos (by omega)]
    · rw [if_neg h, if_neg (by omega)]
theorem law_sums_ok {n : Nat} {S : Stair} {x y : D} {lot : List Dd} {M : Mem} (hn : n ≤ 1000) (hx : StR n S x) (hy : LoR lot y) (he : ∀ e ∈ lot, e.at_ < n) : f_law_sums [x, y] M = .ok (.tup (vecD n (sumA S lot))) M := by
  refine ok_of (fn_wp rfl fun P hR => ?_)
  obtain ⟨ps, s1, s2, s3⟩ := id hx
  obtain ⟨ds, d1, d2, d3⟩ := loR_get hy
  have lp : ps.length ≤ 1000000 := by omega
  simp [b_law_sums, b_law_sums_s1, s1.q, s1.g, lp, wipeD]
  refine wp_map (fun _ => .int 0) (fun d hd => ⟨_, t_nm _ _, rfl⟩) (by simp) ?_
  rw [zero_row s2]
  simp [d1.q, d1.g]
  refine wp_for (fun i s M' => ∃ v3 v4 v5 v6, s = [some x, some y, some (.ref M.length), v3, v4, v5, v6, none] ∧ Pf M M' ∧ M'[M.length]? = some (.lst (vecD n (sumA S (lot.take i))))) ?_ ?_ ?_
  · exact ⟨_, _, _, _, rfl, .app .refl _, by simp; rfl⟩
  · rintro i d s M' hi hd ⟨v3, v4, v5, v6, rfl, pf, hc⟩
    rw [d2] at hi
    obtain ⟨z, hz, sz⟩ := d3 i hi
    rw [hd] at hz
    cases hz
    refine ⟨_, t_nm _ _, fun P1 hN _ _ _ _ => ?_⟩
    obtain ⟨e, hee⟩ : ∃ e, e = lot[i] := ⟨_, rfl⟩
    have hea : e.at_ < n := by rw [hee]; exact he _ (List.getElem_mem hi)
    rw [← hee] at sz
    obtain ⟨ps', p, q1, q2, q3⟩ := hx.sz hea
    simp only [pdL] at q3
    -- the inner loop
    have inner : ∀ (v4 v6 : Option D), Wp (b_law_sums_s5 M.length [some x, some y, some (.ref M.length), some d, v4, some (.int (muD S e)), v6, none] M') P1 := by
      intro v4 v6
      have rg : ∀ M, rng1 [.int (toD e : Int)] M = .ok (rngD 0 (toD e), []) M := fun M => rng1_nat (by
        have : toD e ≤ n := by cases e <;> simp_all [toD, Dd.at_] <;> omega
        omega)
      have tn : toD e ≤ n := by cases e <;> simp_all [toD, Dd.at_] <;> omega
      have ee : (b_law_sums_s5 M.length [some x, some y, some (.ref M.length), some d, v4, some (.int (muD S e)), v6, none] M') = forL M.length [] M' (.nm 6) b_law_sums_l1 (rngD 0 (toD e)) [some x, some y, some (.ref M.length), some d, v4, some (.int (muD S e)), v6, none] M' := by
        cases e with
        | fill a => 
          have rg : ∀ M, rng1 [.int ((a : Int) + 1)] M = .ok (rngD 0 (a + 1), []) M := rg
          simp [b_law_sums_s5, sz.q, Dd.l, w3, rg, toD, Dd.at_]
        | empty a =>
          have rg : ∀ M, rng1 [.int (a : Int)] M = .ok (rngD 0 a, []) M := rg
          simp [b_law_sums_s5, sz.q, Dd.l, rg, toD, Dd.at_]
        | raise a z =>
          have rg : ∀ M, rng1 [.int ((a : Int) + 1)] M = .ok (rngD 0 (a + 1), []) M := rg
          simp [b_law_sums_s5, sz.q, Dd.l, w9, rg, toD, Dd.at_]
        | lower a z =>
          have rg : ∀ M, rng1 [.int ((a : Int) + 1)] M = .ok (rngD 0 (a + 1), []) M := rg
          simp [b_law_sums_s5, sz.q, Dd.l, w12, rg, toD, Dd.at_]
      rw [ee]
      refine wp_for' (fun j s M2 => ∃ v6, s = [some x, some y, some (.ref M.length), some d, v4, some (.int (muD S e)), v6, none] ∧ Pf M M2 ∧ M2[M.length]? = some (.lst (vecD n fun k => sumA S (lot.take i) k + if k < j then muD S e else 0))) ?_ ?_ ?_
      · refine ⟨_, rfl, pf, ?_⟩
        rw [hc]
        congr 2
        exact vecD_eq fun k hk => by rw [if_neg (by omega)]; omega
      · rintro j d2 s M2 hj hd2 ⟨v6, rfl, pf2, hc2⟩
        rw [rngD_len] at hj
        obtain ⟨_, rfl⟩ := rngD_get hd2
        refine ⟨_, t_nm _ _, fun P2 hN2 _ _ _ _ => ?_⟩
        have ez : (0 : Int) + (j : Int) = (j : Int) := by omega
        rw [ez]
        have ix : atI (vecD n fun k => sumA S (lot.take i) k + if k < j then muD S e else 0) (j : Int) = some (.int (sumA S (lot.take i) j)) := by
          have := vecD_get (n := n) (t := fun k => sumA S (lot.take i) k + if k < j then muD S e else 0) (i := j) (by omega)
          rw [if_neg (by omega), Int.add_zero] at this
          exact atI_nat this
        have st := r_setIx (b := M.length) (i := (j : Int)) (v := .int (sumA S (lot.take i) j + muD S e)) hc2 (by omega) (by rw [vecD_len]; omega) (.inl (Nat.le_refl _))
        rw [show (j : Int).toNat = j by omega, vec_set' (u := fun k => sumA S (lot.take i) k + if k < j + 1 then muD S e else 0) (by omega) fun k hk => by
          by_cases h : k = j
          · rw [if_pos h, if_pos (by omega), h]
          · rw [if_neg h]
            by_cases h' : k < j
            · rw [if_pos h', if_pos (by omega)]
            · rw [if_neg h', if_neg (by omega)]] at st
        obtain ⟨V, hV⟩ : ∃ V, V = vecD n fun k => sumA S (lot.take i) k + if k < j then muD S e else 0 := ⟨_, rfl⟩
        rw [← hV] at ix hc2
        simp [b_law_sums_l1, hc2, ix, gIx, st]
        exact hN2 _ _ (by simp) ⟨_, rfl, pf2.set (Nat.le_refl _) _, by rw [set_get (lt_of_get hc2)]⟩
      · rintro s' M2 ⟨v6, rfl, pf2, hc2⟩
        rw [rngD_len] at hc2
        refine hN _ _ (by simp) ⟨_, _, _, _, rfl, pf2, ?_⟩
        rw [hc2]
        congr 2
        exact vecD_eq fun k hk => by rw [mu_add, take_one' hi, sumA_app, sumA_one, ← hee]
    cases e with
    | fill a =>
      have q2 : atI ps' (a : Int) = some p := q2
      simp [b_law_sums_l2, b_law_sums_s2, b_law_sums_s3, b_law_sums_s4, sz.q, Dd.l, q1, q2, q3, r_in2, Dd.at_, w1]
      exact inner _ _
    | empty a =>
      have q2 : atI ps' (a : Int) = some p := q2
      simp [b_law_sums_l2, b_law_sums_s2, b_law_sums_s3, b_law_sums_s4, sz.q, Dd.l, q1, q2, q3, r_in2, Dd.at_, w3, u2, w5]
      exact inner _ _
    | raise a z =>
      have q2 : atI ps' (a : Int) = some p := q2
      simp [b_law_sums_l2, b_law_sums_s2, b_law_sums_s3, b_law_sums_s4, sz.q, Dd.l, q1, q2, q3, r_in2, Dd.at_, w2, w6, w8]
      exact inner _ _
    | lower a z =>
      have q2 : atI ps' (a : Int) = some p := q2
      simp [b_law_sums_l2, b_law_sums_s2, b_law_sums_s3, b_law_sums_s4, sz.q, Dd.l, q1, q2, q3, r_in2, Dd.at_, w1, w5]
      exact inner _ _
  · rintro s' M' ⟨v3, v4, v5, v6, rfl, pf, hc⟩
    rw [d2, List.take_length] at hc
    have tp := r_tuple (M := M') (x := .ref M.length) (ys := vecD n (sumA S lot)) (by simp [hc])
    simp [tp]
    exact hR _ _ (by simp [below_vecD]) ⟨rfl, pf.take⟩
end LW
namespace LW
open PySem L2
/-- totals behind k rounds -/
def farT (n : Nat) (S : Stair) (lot : List Dd) (t : Nat → Int) : Nat → Nat → Int
  | 0 => t
  | k + 1 => ledF n (pw (tabOf S.mo (lot.map (addF S))) k) t
theorem tabOf_end {n : Nat} {S : Stair} {lot : List Dd} (he : ∀ e ∈ lot, e.at_ < n) : tabOf S.mo (lot.map (addF S)) n n = 0 := tab_diag _ fun a ha => by
  obtain ⟨e, h, rfl⟩ := List.mem_map.mp ha
  exact addF_end (he e h)
theorem farT_end {n : Nat} {S : Stair} {lot : List Dd} {t : Nat → Int} (he : ∀ e ∈ lot, e.at_ < n) (h0 : t n = 0) (k : Nat) : farT n S lot t k n = 0 := by
  cases k with
  | zero => exact h0
  | succ k => exact ledF_end (pw_diag (tabOf_end he) k) h0
theorem farT_congr {n : Nat} {S : Stair} {lot : List Dd} {t u : Nat → Int} (h : ∀ i, i ≤ n → t i = u i) (k : Nat) {i : Nat} (hi : i ≤ n) : farT n S lot t k i = farT n S lot u k i := by
  cases k with
  | zero => exact h i hi
  | succ k => exact ledF_congr hi (fun _ _ _ => rfl) fun p _ h2 => h p h2
/-- one round more -/
theorem farT_succ {n : Nat} {S : Stair} {lot : List Dd} {t : Nat → Int} (k : Nat) {i : Nat} (hi : i ≤ n) : farT n S lot t (k + 1) i = ledF n (tabOf S.mo (lot.map (addF S))) (farT n S lot t k) i := by
  cases k with
  | zero => rfl
  | succ k =>
    show ledF n (beh (pw _ k) _) t i = _
    rw [ledF_beh hi]
    rfl
theorem farT_add {n : Nat} {S : Stair} {lot : List Dd} {t : Nat → Int} (j : Nat) : ∀ (k : Nat) {i : Nat}, i ≤ n → farT n S lot t (j + k) i = farT n S lot (farT n S lot t j) k i
  | 0, i, hi => rfl
  | k + 1, i, hi => by
    rw [show j + (k + 1) = (j + k) + 1 by omega, farT_succ _ hi, farT_succ _ hi]
    exact ledF_congr hi (fun _ _ _ => rfl) fun p _ h2 => farT_add j k h2
/-- totals at which nothing runs over -/
def Still (n : Nat) (S : Stair) (t : Nat → Int) : Prop := ∀ i, i ≤ n → ledF n (sumM S.mo) t i = t i
theorem still_lv {n : Nat} {S : Stair} {l : Nat → Int} (h : ∀ i, i < n → l i ≤ S.mo i) : Still n S (totF n l) := by
  have key : ∀ k i, i + k = n → ledF n (sumM S.mo) (totF n l) i = totF n l i := by
    intro k
    induction k with
    | zero =>
      intro i hi
      have : i = n := by omega
      subst this
      rw [ledF_end (sumM_self _ _) (totF_end _ _), totF_end]
    | succ k ih =>
      intro i hi
      rw [over_step (by omega), ih (i + 1) (by omega), totF_step (i := i) (by omega)]
      have := h i (by omega)
      rw [if_neg (by omega)]
  intro i hi
  exact key (n - i) i (by omega)
theorem still_over {n : Nat} {S : Stair} {t : Nat → Int} : Still n S (ledF n (sumM S.mo) t) := fun i hi => by
  rw [← ledF_beh hi]
  exact ledF_congr hi (fun p h1 h2 => over_idem (n := n) S.mo i p h1 h2) fun _ _ _ => rfl
theorem still_go {n : Nat} {S : Stair} {t : Nat → Int} {e : Dd} : Still n S (goF n S t e) := still_over
theorem still_goL {n : Nat} {S : Stair} : ∀ {lot : List Dd} {t : Nat → Int}, Still n S t → Still n S (goL n S lot t)
  | [], t, h => h
  | e :: r, t, h => still_goL (lot := r) still_go
/-- from totals at which nothing runs over, a table of deeds leads as they go -/
theorem led_still {n : Nat} {S : Stair} {lot : List Dd} {t : Nat → Int} (h : Still n S t) {i : Nat} (hi : i ≤ n) : ledF n (tabOf S.mo (lot.map (addF S))) t i = goL n S lot t i := by
  rw [led_tabOf lot t hi]
  exact goL_congr h hi
theorem still_congr {n : Nat} {S : Stair} {t u : Nat → Int} (h : Still n S t) (e : ∀ i, i ≤ n → t i = u i) : Still n S u := fun i hi => by
  rw [← e i hi, ← h i hi]
  exact (ledF_congr hi (fun _ _ _ => rfl) fun p _ h2 => (e p h2).symm)
theorem far_still {n : Nat} {S : Stair} {lot : List Dd} {t : Nat → Int} (h : Still n S t) : ∀ k, Still n S (farT n S lot t k)
  | 0 => h
  | k + 1 => by
    have ih := far_still (lot := lot) h k
    exact still_congr (still_goL (lot := lot) ih) fun i hi => by rw [farT_succ k hi, led_still ih hi]
/-- one round more, by going -/
theorem far_go {n : Nat} {S : Stair} {lot : List Dd} {t : Nat → Int} (h : Still n S t) (k : Nat) {i : Nat} (hi : i ≤ n) : farT n S lot t (k + 1) i = goL n S lot (farT n S lot t k) i := by
  rw [farT_succ k hi, led_still (far_still h k) hi]
section
variable {n : Nat} {S : Stair} {x y z : D} {l : Nat → Int} {lot : List Dd} {M : Mem}
theorem far_totals_ok {k : Nat} (hn : n ≤ 1000) (hx : StR n S x) (hy : Sqd y (vecD n l)) (hz : LoR lot z) (he : ∀ e ∈ lot, e.at_ < n) (hk : k < 2 ^ 99) : f_far_totals [x, y, z, .int (k : Int)] M = .ok (.tup (vecD n (farT n S lot (totF n l) k))) M := by
  refine ok_of (fn_wp rfl fun P hR => ?_)
  have tt := totals_ok (M := M) hn hy
  cases k with
  | zero =>
    simp [b_far_totals, b_far_totals_s1, tt]
    exact hR _ _ (by simp [below_vecD]) ⟨rfl, List.take_length⟩
  | succ k =>
    have t1 := table_of_ok (M := M) hn hx hz he
    have p1 := power_ok (M := M) (k := k) hn (tabR_tup n (tabOf S.mo (lot.map (addF S)))) (tabOf_end he) hk
    have l1 := led_ok (M := M) (t := totF n l) hn (tabR_tup n (pw (tabOf S.mo (lot.map (addF S))) k)) (.t _) (totF_end n l)
    have nk : ¬ ((k : Int) + 1 = 0) := by omega
    simp [b_far_totals, b_far_totals_s1, tt, nk, t1, p1, l1]
    exact hR _ _ (by simp [below_vecD]) ⟨rfl, List.take_length⟩
theorem far_levels_ok {k : Nat} (h1 : 0 < n) (hn : n ≤ 1000) (hx : StR n S x) (hy : Sqd y (vecD n l)) (hz : LoR lot z) (he : ∀ e ∈ lot, e.at_ < n) (hk : k < 2 ^ 99) : f_far_levels [x, y, z, .int (k : Int)] M = .ok (.tup (vecD n (lvF (farT n S lot (totF n l) k)))) M := by
  refine ok_of (fn_wp rfl fun P hR => ?_)
  have f1 := far_totals_ok (M := M) (k := k) hn hx hy hz he hk
  have l1 := levels_ok (M := M) (t := farT n S lot (totF n l) k) h1 hn (.t _) (farT_end he (totF_end n l) k)
  simp [b_far_levels, f1, l1]
  exact hR _ _ (by simp [below_vecD]) ⟨rfl, List.take_length⟩
theorem zip3_vec {n : Nat} {t u v : Nat → Int} : zip3D (vecD n t) (vecD n u) (vecD n v) = (List.range n).map fun i => .tup [.int (t i), .int (u i), .int (v i)] := by
  have key : ∀ l : List Nat, zip3D (l.map fun i => .int (t i)) (l.map fun i => .int (u i)) (l.map fun i => .int (v i)) = l.map fun i => .tup [.int (t i), .int (u i), .int (v i)] := by
    intro l
    induction l with
    | nil => rfl
    | cons a l ih =>
      show D.tup [.int (t a), .int (u a), .int (v a)] :: zip3D _ _ _ = _
      rw [ih]
      rfl
  exact key _
@[simp] theorem r_zip3 {b : Nat} {s : Slots} {fa : EA} (st : Bool) : iZip3 st fa b s M = (fa b s M).bind fun ds M1 => match ds with
  | [x, y, z] => match seqOf M1 x, seqOf M1 y, seqOf M1 z with
    | some xs, some ys, some zs => if st = true ∧ (xs.length ≠ ys.length ∨ xs.length ≠ zs.length) then .bad else .ok (zip3D xs ys zs, gdOf x ++ gdOf y ++ gdOf z) M1
    | _, _, _ => .bad
  | _ => .bad := id rfl
theorem ran_over_ok {k : Nat} (hn : n ≤ 1000) (hx : StR n S x) (hy : Sqd y (vecD n l)) (hz : LoR lot z) (he : ∀ e ∈ lot, e.at_ < n) (hk : k < 2 ^ 64) : f_ran_over [x, y, z, .int (k : Int)] M = .ok (.tup (vecD n fun i => totF n l i + (k : Int) * sumA S lot i - farT n S lot (totF n l) k i)) M := by
  refine ok_of (fn_wp rfl fun P hR => ?_)
  have tt := totals_ok (M := M) hn hy
  have f1 := far_totals_ok (M := M) (k := k) hn hx hy hz he (Nat.lt_trans hk (by decide))
  have sm := sums_ok (M := M) hn hx hz he
  have mk : ∀ (j : Int) (M : Mem), oMul (.int (k : Int)) (.int j) M = .ok (.int ((k : Int) * j)) M := fun j M => r_mul (mul_l (by omega) (by omega))
  obtain ⟨T, hT⟩ : ∃ T, T = totF n l := ⟨_, rfl⟩
  obtain ⟨A, hA⟩ : ∃ A, A = sumA S lot := ⟨_, rfl⟩
  obtain ⟨U, hU⟩ : ∃ A, A = farT n S lot (totF n l) k := ⟨_, rfl⟩
  rw [← hT] at tt
  rw [← hU] at f1
  rw [← hA] at sm
  rw [← hU, ← hT, ← hA] at hR
  have lz : (zip3D (vecD n T) (vecD n A) (vecD n U)).length ≤ 1000000 := by rw [zip3_vec]; simp; omega
  have cp : compL M.length [] M (.tp [.nm 7, .nm 8, .nm 9]) tTrue b_ran_over_c1 [some x, some y, some z, some (.int (k : Int)), some (.tup (vecD n T)), some (.tup (vecD n U)), some (.tup (vecD n A)), none, none, none] (zip3D (vecD n T) (vecD n A) (vecD n U)) M = .ok (vecD n fun i => T i + (k : Int) * A i - U i) M := by
    rw [zip3_vec]
    have e : (vecD n fun i => T i + (k : Int) * A i - U i) = ((List.range n).map fun i => D.tup [.int (T i), .int (A i), .int (U i)]).map (fun d => match d with | .tup [.int p, .int q, .int r] => D.int (p + (k : Int) * q - r) | _ => .non) := by
      unfold vecD
      rw [List.map_map]
      rfl
    rw [e]
    refine comp_map _ (fun d hd => ?_) (by simp)
    obtain ⟨i, _, rfl⟩ := List.mem_map.mp hd
    refine ⟨[some x, some y, some z, some (.int (k : Int)), some (.tup (vecD n T)), some (.tup (vecD n U)), some (.tup (vecD n A)), some (.int (T i)), some (.int (A i)), some (.int (U i))], by simp, ?_⟩
    simp [b_ran_over_c1, mk]
  have tp := r_tuple (M := M) (q_lst M (vecD n fun i => T i + (k : Int) * A i - U i))
  have ll : (vecD n T).length = n := vecD_len
  have ll2 : (vecD n A).length = n := vecD_len
  have ll3 : (vecD n U).length = n := vecD_len
  simp [b_ran_over, b_ran_over_s1, b_ran_over_s2, b_ran_over_s3, tt, f1, sm, ll, ll2, ll3, lz, wipeD, cp, tp]
  exact hR _ _ (by simp [below_vecD]) ⟨rfl, List.take_length⟩
end
end LW
namespace LW
open PySem L2
theorem same_plain {x : D} {M : Mem} (h : plainD 9 x = true) : f_law_same 10 [x, x] M = .ok (.bl true) M := same_ok 9 x M h
theorem plain_vec {n k : Nat} {t : Nat → Int} (hn : n ≤ 1000) : plainD (k + 1) (.tup (vecD n t)) = true := by
  rw [vecD_ints]
  exact (plain_ints (by simp; omega)).1
theorem plain_lst {k : Nat} {xs : List D} (hl : xs.length ≤ 1000000) (h : ∀ x ∈ xs, plainD k x = true) : plainD (k + 1) (.lst xs) = true := by
  unfold plainD
  rw [decide_eq_true hl, List.all_eq_true.mpr h]
  rfl
def ShL (d : D) (b : Nat) : Prop := ∃ n, shw d = some n ∧ n ≤ b
theorem ShL.mono {d : D} {b c : Nat} (h : ShL d b) (q : b ≤ c) : ShL d c := by
  obtain ⟨n, h1, h2⟩ := h
  exact ⟨n, h1, by omega⟩
theorem wp_flat {b n h m i j k : Nat} {g : Int} {S : Stair} {ps : List D} {s s' : Slots} {M M0 : Mem} {e : ES} {P : Ps} {K : List D → Mem → RS} (g0 : 0 < g) (g1 : g ≤ 1000000000000000) (hn : n ≤ 1000) (hS : StOk g n S)
    (hp : ps.length = n ∧ ∀ i, i < n → ∃ p, ps[i]? = some p ∧ Sqd p (pdL S i))
    (he : e = eBin oSub (eVar j) (eBin oMul (eVar 1) (eCall (f_law_take 8) (aCons (eVar 0) (aCons (eBin oIx (eFrz (nLst (aCons (eC (.int 3)) (aCons (eC (.int 40)) (aNil))))) (eCall (f_law_take 8) (aCons (eVar 0) (aCons (eC (.int 2)) (aNil))))) (aNil))))))
    (h0 : s[0]? = some (some (.ref h))) (h1 : s[1]? = some (some (.int g))) (hi : 1 < i) (hj : 1 < j) (hk : 1 < k) (hij : i ≠ j) (hjk : j ≠ k) (hjl : j < s.length) (x : Box M h (m + 256 * n))
    (hK : ∀ (l : Nat → Int) (M' : Mem), (∀ i, i < n → l i ≤ S.mo i ∧ S.mo i - 40 * g ≤ l i) → Dr h m M M' → Wp (K (vecD n l) M') P) : Wp ((compL b [] M0 (.tp [.nm i, .nm j, .nm k]) tTrue e s ps M).toS s' K) P := by
  subst he
  refine wp_comp (fun a ys M' => (∃ l : Nat → Int, ys = vecD a l ∧ ∀ i, i < a → l i ≤ S.mo i ∧ S.mo i - 40 * g ≤ l i) ∧ Dr h (m + 256 * (n - a)) M M') ?_ ?_ ?_
  · exact ⟨⟨fun _ => 0, rfl, by omega⟩, .refl (x.mono (by omega))⟩
  · rintro a d ys M' ha hd ⟨⟨l, rfl, hl⟩, dr⟩
    rw [hp.1] at ha
    obtain ⟨p, p1, p2⟩ := hp.2 a ha
    rw [hd] at p1
    cases p1
    refine ⟨((s.set i (some (.int (S.lo a)))).set j (some (.int (S.mo a)))).set k (some (.int (S.sz a))), by simp [p2.q, pdL], fun Q' hQ => ?_⟩
    obtain ⟨s1, hs1⟩ : ∃ s1, s1 = ((s.set i (some (D.int (S.lo a)))).set j (some (.int (S.mo a)))).set k (some (.int (S.sz a))) := ⟨_, rfl⟩
    have e0 : s1[0]? = some (some (.ref h)) := by
      rw [hs1, List.getElem?_set_ne (by omega), List.getElem?_set_ne (by omega), List.getElem?_set_ne (by omega)]; exact h0
    have e1 : s1[1]? = some (some (.int g)) := by
      rw [hs1, List.getElem?_set_ne (by omega), List.getElem?_set_ne (by omega), List.getElem?_set_ne (by omega)]; exact h1
    have e2 : s1[j]? = some (some (.int (S.mo a))) := by
      rw [hs1, List.getElem?_set_ne (fun e => hjk e.symm), List.getElem?_set_self (by simpa using hjl)]
    rw [← hs1]
    obtain ⟨r1, M1, q1, a1, b1, d1⟩ := take_dr (M := M') (h := h) (n := m + 256 * (n - (a + 1)) + 128) (size := 2) (dr.box.mono (by omega)) (by decide) (by decide)
    obtain ⟨w, hw, w0, w1⟩ : ∃ w : Int, atI [D.int 3, .int 40] r1 = some (.int w) ∧ 0 < w ∧ w ≤ 40 := by
      rcases (by omega : r1 = 0 ∨ r1 = 1) with rfl | rfl
      · exact ⟨3, rfl, by decide, by decide⟩
      · exact ⟨40, rfl, by decide, by decide⟩
    obtain ⟨r2, M2, q2, a2, b2, d2⟩ := take_dr (M := M1) (h := h) (n := m + 256 * (n - (a + 1))) (size := w) (d1.box.mono (by omega)) w0 (Int.le_trans (by omega) t8)
    have mg : ∀ M, oMul (.int g) (.int r2) M = .ok (.int (g * r2)) M := fun M => r_mul (mul_l (by omega) (by omega))
    have m1 : 0 ≤ g * r2 := Int.mul_nonneg (by omega) a2
    have m2 : g * r2 ≤ g * 40 := Int.mul_le_mul_of_nonneg_left (by omega) (by omega)
    simp [e0, e1, e2, q1, hw, q2, mg]
    refine hQ _ _ (by simp) ⟨⟨fun i => if i = a then S.mo a - g * r2 else l i, ?_, fun i hi => ?_⟩, (dr.trans d1).trans d2⟩
    · rw [vecD_succ]
      congr 1
      · exact vecD_eq fun j hj => by rw [if_neg (by omega)]
      · rw [if_pos rfl]
    · by_cases h : i = a
      · simp only [h, if_true]
        omega
      · simp only [h, if_false]
        exact hl i (by omega)
  · rintro ys M' ⟨⟨l, rfl, hl⟩, dr⟩
    rw [hp.1] at *
    exact hK l M' hl (dr.mono (by omega))
end LW
namespace LW
open PySem PySem.Spec PyProof.Rows L2
def topS (i : Nat) : Stmt := PySem.Challenge.pw_liftwater_k15_levels_behind_far_rounds.main.body.getD i (.Pass ⟨0, 0, 0, 0⟩)
abbrev s_law_folded : Stmt := topS 26
theorem sc_law_folded : FnScope ["_law_script", "_law_size", "_law_cells", "_law_k", "_law_cell"] ["_law_script", "_law_size"] (defScope s_law_folded) := ⟨rfl, rfl, rfl, by decide +kernel, rfl, by decide +kernel, by decide +kernel⟩
section
variable {P : Program} {w : World} {K : PySem.W.Frag} {mg : Str → Option Value} {base : Heap}
theorem ok_law_folded {fa : Addr} {fd : FuncData} (F : Fun K "_law_folded" "_law_folded" s_law_folded fa fd) (hm : mg "_law_folded" = some (.ref fa)) (z_list : mg "list" = none) (z_enumerate : mg "enumerate" = none) : Cal P w K mg base 1 "_law_folded" ["_law_script", "_law_size"] f_law_folded := by
  refine ⟨fa, fd, fn_by (k := 0) false 2 5 b_law_folded rfl F sc_law_folded rfl rfl fun cdv A outer s H E hr hgd => ?_, hm, F.kp, F.binds (ps := ["_law_script", "_law_size"]) fun _ _ _ _ _ _ us hl => match us, hl with | [_, _], _ => rfl⟩
  have S := sc_law_folded
  unfold b_law_folded
  exact sb_cons (sx_set 2 S.nd (se_thw (sn_list (by rfl) z_list (sa_cons (se_cut (sv 0) (sp_no) (sp_of (sv 1))) (sa_nil)))))
        (sb_cons (sx_for PassesOwn.never rfl (si_enum (by rfl) z_enumerate (sa_cons (se_cut (sv 0) (sp_of (sv 1)) (sp_of (se_int))) (sa_nil))) (sg_tup rfl (sgs_cons (sg_nm 3 S.nd) (sgs_cons (sg_nm 4 S.nd) (sgs_nil)))) (sb_one (sx_asg (se_add (se_ix (sv 2) (se_mod (sv 3) (sv 1))) (se_mul (sv 4) (se_add (sv 3) (se_int)))) (tg_ix (sv 2) (se_mod (sv 3) (sv 1))))))
        (sb_one (sx_ret (sv 2))))
end
abbrev s_law_take : Stmt := topS 25
theorem sc_law_take : FnScope ["_law_box_here", "_law_size", "_law_found", "_law_step", "_law_once", "_law_twice"] ["_law_box_here", "_law_size"] (defScope s_law_take) := ⟨rfl, rfl, rfl, by decide +kernel, rfl, by decide +kernel, by decide +kernel⟩
section
variable {P : Program} {w : World} {K : PySem.W.Frag} {mg : Str → Option Value} {base : Heap}
theorem ok_law_take {fa : Addr} {fd : FuncData} (F : Fun K "_law_take" "_law_take" s_law_take fa fd) (hm : mg "_law_take" = some (.ref fa)) (z_divmod : mg "divmod" = none) : ∀ n : Nat, Cal P w K mg base (0 + n) "_law_take" ["_law_box_here", "_law_size"] (f_law_take n)
  | 0 => ⟨fa, fd, fn_no fun _ _ => rfl, hm, F.kp, F.binds (ps := ["_law_box_here", "_law_size"]) fun _ _ _ _ _ _ us hl => match us, hl with | [_, _], _ => rfl⟩
  | n + 1 => by
    have self := ok_law_take F hm z_divmod n
    refine ⟨fa, fd, fn_by (k := 0 + n) false 2 6 (b_law_take (f_law_take n)) rfl F sc_law_take rfl rfl fun cdv A outer s H E hr hgd => ?_, hm, F.kp, F.binds (ps := ["_law_box_here", "_law_size"]) fun _ _ _ _ _ _ us hl => match us, hl with | [_, _], _ => rfl⟩
    have S := sc_law_take
    unfold b_law_take
    exact sb_cons (sx_if (st_gt (se_ix (sv 0) (se_int)) (se_int)) (sb_cons (sx_asg (se_divmod (by rfl) z_divmod (sa_cons (se_ix (sv 0) (se_int)) (sa_cons (sv 1) (sa_nil)))) (tg_tup rfl (tgs_cons (tg_ix (sv 0) (se_int)) (tgs_cons (tg_of (sg_nm 2 S.nd)) (tgs_nil))) (gl_cons (gl_cons (gl_nil)))))
        (sb_one (sx_ret (sv 2)))) (sb_nil))
        (sb_cons (sx_if (st_gt (sv 1) (se_pow (se_int) (se_int))) (sb_one (sx_ret (se_mod (se_add (se_cal self hr hgd (sa_cons (sv 0) (sa_cons (se_pow (se_int) (se_int)) (sa_nil))) (by omega)) (se_mul (se_pow (se_int) (se_int)) (se_cal self hr hgd (sa_cons (sv 0) (sa_cons (se_add (se_div (se_sub (sv 1) (se_int)) (se_pow (se_int) (se_int))) (se_int)) (sa_nil))) (by omega)))) (sv 1)))) (sb_nil))
        (sb_cons (sx_asg (se_add (se_ix (sv 0) (se_int)) (se_int)) (tg_ix (sv 0) (se_int)))
        (sb_cons (sx_set 3 S.nd (se_add (se_int) (se_mul (se_ix (sv 0) (se_int)) (se_ix (sv 0) (se_int)))))
        (sb_cons (sx_set 4 S.nd (se_mod (se_mul (se_add (se_ix (sv 0) (se_int)) (se_mul (se_int) (se_ix (sv 0) (se_int)))) (sv 3)) (se_int)))
        (sb_cons (sx_set 5 S.nd (se_mod (se_add (se_mul (sv 4) (se_add (se_mod (sv 4) (se_int)) (se_int))) (se_ix (sv 0) (se_int))) (se_int)))
        (sb_one (sx_ret (se_mod (se_div (se_mod (se_mul (sv 5) (se_add (se_mod (sv 5) (se_int)) (se_int))) (se_int)) (se_int)) (sv 1)))))))))
end
abbrev s_law_great : Stmt := topS 29
theorem sc_law_great : FnScope ["_law_box_here"] ["_law_box_here"] (defScope s_law_great) := ⟨rfl, rfl, rfl, by decide +kernel, rfl, by decide +kernel, by decide +kernel⟩
section
variable {P : Program} {w : World} {K : PySem.W.Frag} {mg : Str → Option Value} {base : Heap}
theorem ok_law_great {fa : Addr} {fd : FuncData} (F : Fun K "_law_great" "_law_great" s_law_great fa fd) (hm : mg "_law_great" = some (.ref fa)) (c_law_take : Cal P w K mg base 8 "_law_take" ["_law_box_here", "_law_size"] (f_law_take 8)) : Cal P w K mg base 9 "_law_great" ["_law_box_here"] f_law_great := by
  refine ⟨fa, fd, fn_by (k := 8) false 1 1 b_law_great rfl F sc_law_great rfl rfl fun cdv A outer s H E hr hgd => ?_, hm, F.kp, F.binds (ps := ["_law_box_here"]) fun _ _ _ _ _ _ us hl => match us, hl with | [_], _ => rfl⟩
  have S := sc_law_great
  unfold b_law_great
  exact sb_one (sx_ret (se_ix (se_frz (sn_lst (sa_cons (se_int) (sa_cons (se_int) (sa_cons (se_int) (sa_cons (se_pow (se_int) (se_int)) (sa_cons (se_pow (se_int) (se_int)) (sa_nil)))))))) (se_cal c_law_take hr hgd (sa_cons (sv 0) (sa_cons (se_int) (sa_nil))) (by omega))))
end
abbrev s_law_stair : Stmt := topS 28
theorem sc_law_stair : FnScope ["_law_box_here", "_law_cap", "_law_by", "_law_found", "_law_pound", "_law_least", "_law_wide", "_law_size"] ["_law_box_here", "_law_cap", "_law_by"] (defScope s_law_stair) := ⟨rfl, rfl, rfl, by decide +kernel, rfl, by decide +kernel, by decide +kernel⟩
section
variable {P : Program} {w : World} {K : PySem.W.Frag} {mg : Str → Option Value} {base : Heap}
theorem ok_law_stair {fa : Addr} {fd : FuncData} (F : Fun K "_law_stair" "_law_stair" s_law_stair fa fd) (hm : mg "_law_stair" = some (.ref fa)) (z_range : mg "range" = none) (z_tuple : mg "tuple" = none) (c_law_take : Cal P w K mg base 8 "_law_take" ["_law_box_here", "_law_size"] (f_law_take 8)) : Cal P w K mg base 9 "_law_stair" ["_law_box_here", "_law_cap", "_law_by"] f_law_stair := by
  refine ⟨fa, fd, fn_by (k := 8) false 3 8 b_law_stair rfl F sc_law_stair rfl rfl fun cdv A outer s H E hr hgd => ?_, hm, F.kp, F.binds (ps := ["_law_box_here", "_law_cap", "_law_by"]) fun _ _ _ _ _ _ us hl => match us, hl with | [_, _, _], _ => rfl⟩
  have S := sc_law_stair
  unfold b_law_stair b_law_stair_s3 b_law_stair_l1 b_law_stair_s2 b_law_stair_s1
  exact sb_cons (sx_set 3 S.nd (se_thw (sn_lst (sa_nil))))
        (sb_cons (sx_for PassesOwn.never rfl (si_range1 (by rfl) z_range (sa_cons (se_add (se_int) (se_cal c_law_take hr hgd (sa_cons (sv 0) (sa_cons (sv 1) (sa_nil))) (by omega))) (sa_nil))) (sg_nm 4 S.nd) (sb_cons (sx_par3 5 6 7 rfl S.nd (sa_cons (se_cal c_law_take hr hgd (sa_cons (sv 0) (sa_cons (se_int) (sa_nil))) (by omega)) (sa_cons (se_cal c_law_take hr hgd (sa_cons (sv 0) (sa_cons (se_ix (se_frz (sn_lst (sa_cons (se_int) (sa_cons (se_int) (sa_cons (se_int) (sa_nil)))))) (se_cal c_law_take hr hgd (sa_cons (sv 0) (sa_cons (se_int) (sa_nil))) (by omega))) (sa_nil))) (by omega)) (sa_cons (se_add (se_int) (se_cal c_law_take hr hgd (sa_cons (sv 0) (sa_cons (se_int) (sa_nil))) (by omega))) (sa_nil)))))
        (sb_one (sx_expr (se_append (sv 3) (sa_cons (se_tup (sa_cons (se_mul (sv 5) (sv 2)) (sa_cons (se_mul (se_add (sv 5) (sv 6)) (sv 2)) (sa_cons (se_mul (sv 7) (sv 2)) (sa_nil))))) (sa_nil)))))))
        (sb_one (sx_ret (se_tuple (by rfl) z_tuple (sa_cons (sv 3) (sa_nil))))))
end
abbrev s_law_lap : Stmt := topS 30
theorem sc_law_lap : FnScope ["_law_box_here", "_law_many", "_law_cap", "_law_by", "_law_first", "_law_now", "_law_lot", "_law_turn", "_law_way", "_law_at", "_law_lock"] ["_law_box_here", "_law_many", "_law_cap", "_law_by"] (defScope s_law_lap) := ⟨rfl, rfl, rfl, by decide +kernel, rfl, by decide +kernel, by decide +kernel⟩
section
variable {P : Program} {w : World} {K : PySem.W.Frag} {mg : Str → Option Value} {base : Heap}
theorem ok_law_lap {fa : Addr} {fd : FuncData} (F : Fun K "_law_lap" "_law_lap" s_law_lap fa fd) (hm : mg "_law_lap" = some (.ref fa)) (z_range : mg "range" = none) (z_list : mg "list" = none) (z_tuple : mg "tuple" = none) (c_law_take : Cal P w K mg base 8 "_law_take" ["_law_box_here", "_law_size"] (f_law_take 8)) : Cal P w K mg base 9 "_law_lap" ["_law_box_here", "_law_many", "_law_cap", "_law_by"] f_law_lap := by
  refine ⟨fa, fd, fn_by (k := 8) false 4 11 b_law_lap rfl F sc_law_lap rfl rfl fun cdv A outer s H E hr hgd => ?_, hm, F.kp, F.binds (ps := ["_law_box_here", "_law_many", "_law_cap", "_law_by"]) fun _ _ _ _ _ _ us hl => match us, hl with | [_, _, _, _], _ => rfl⟩
  have S := sc_law_lap
  unfold b_law_lap b_law_lap_s7 b_law_lap_c2 b_law_lap_s6 b_law_lap_l2 b_law_lap_s5 b_law_lap_l1 b_law_lap_s4 b_law_lap_s3 b_law_lap_s2 b_law_lap_s1 b_law_lap_c1
  exact sb_cons (sx_setC 4 (.inl rfl) rfl S.nd (si_range1 (by rfl) z_range (sa_cons (sv 1) (sa_nil))) (bk_by (own := [("_law_lock", 10)]) (by rfl)) (fun _ _ _ _ _ => sg_nm 10 S.nd) (fun _ _ _ _ _ => sts_nil) (fun _ _ _ _ _ => se_cal c_law_take hr hgd (sa_cons (sv 0) (sa_cons (se_int) (sa_nil))) (by omega)) (by decide) rfl)
        (sb_cons (sx_par 5 6 rfl S.nd (sa_cons (se_thw (sn_list (by rfl) z_list (sa_cons (sv 4) (sa_nil)))) (sa_cons (se_thw (sn_lst (sa_nil))) (sa_nil))))
        (sb_cons (sx_for PassesOwn.never rfl (si_range1 (by rfl) z_range (sa_cons (se_cal c_law_take hr hgd (sa_cons (sv 0) (sa_cons (se_add (sv 2) (se_int)) (sa_nil))) (by omega)) (sa_nil))) (sg_nm 7 S.nd) (sb_cons (sx_par 8 9 rfl S.nd (sa_cons (se_cal c_law_take hr hgd (sa_cons (sv 0) (sa_cons (se_int) (sa_nil))) (by omega)) (sa_cons (se_cal c_law_take hr hgd (sa_cons (sv 0) (sa_cons (sv 1) (sa_nil))) (by omega)) (sa_nil))))
        (sb_one (sx_if (st_lt (sv 8) (se_int)) (sb_cons (sx_expr (se_append (sv 6) (sa_cons (se_tup (sa_cons (se_ix (se_frz (sn_lst (sa_cons (se_str) (sa_cons (se_str) (sa_nil))))) (se_ix (sv 5) (sv 9))) (sa_cons (se_add (sv 9) (se_int)) (sa_nil)))) (sa_nil))))
        (sb_one (sx_asg (se_sub (se_int) (se_ix (sv 5) (sv 9))) (tg_ix (sv 5) (sv 9))))) (sb_one (sx_expr (se_append (sv 6) (sa_cons (se_tup (sa_cons (se_ix (se_frz (sn_lst (sa_cons (se_str) (sa_cons (se_str) (sa_cons (se_str) (sa_nil)))))) (se_sub (sv 8) (se_int))) (sa_cons (se_add (sv 9) (se_int)) (sa_cons (se_mul (sv 3) (se_add (se_int) (se_cal c_law_take hr hgd (sa_cons (sv 0) (sa_cons (se_int) (sa_nil))) (by omega)))) (sa_nil))))) (sa_nil)))))))))
        (sb_cons (sx_for PassesOwn.never rfl (si_range1 (by rfl) z_range (sa_cons (sv 1) (sa_nil))) (sg_nm 9 S.nd) (sb_one (sx_if (st_ne hr (se_ix (sv 5) (sv 9)) (se_ix (sv 4) (sv 9))) (sb_one (sx_expr (se_append (sv 6) (sa_cons (se_tup (sa_cons (se_ix (se_frz (sn_lst (sa_cons (se_str) (sa_cons (se_str) (sa_nil))))) (se_ix (sv 5) (sv 9))) (sa_cons (se_add (sv 9) (se_int)) (sa_nil)))) (sa_nil))))) (sb_nil))))
        (sb_one (sx_ret (se_tup (sa_cons (sv 6) (sa_cons (se_tuple (by rfl) z_tuple (sa_cons (se_frz (sn_comp rfl S.nd (si_seq (sv 4)) (bk_by (own := [("_law_way", 8)]) (by rfl)) (fun _ _ _ _ _ => sg_nm 8 S.nd) (fun _ _ _ _ _ => sts_nil) (fun _ _ _ _ _ => se_ix (se_frz (sn_lst (sa_cons (se_str) (sa_cons (se_str) (sa_nil))))) (sv 8)) (by decide))) (sa_nil))) (sa_nil)))))))))
end
abbrev s_law_sums : Stmt := topS 31
theorem sc_law_sums : FnScope ["_law_stair_here", "_law_lot", "_law_found", "_law_deed", "_law_size", "_law_much", "_law_at", "_law_pound"] ["_law_stair_here", "_law_lot"] (defScope s_law_sums) := ⟨rfl, rfl, rfl, by decide +kernel, rfl, by decide +kernel, by decide +kernel⟩
section
variable {P : Program} {w : World} {K : PySem.W.Frag} {mg : Str → Option Value} {base : Heap}
theorem ok_law_sums {fa : Addr} {fd : FuncData} (F : Fun K "_law_sums" "_law_sums" s_law_sums fa fd) (hm : mg "_law_sums" = some (.ref fa)) (z_int : mg "int" = none) (z_range : mg "range" = none) (z_tuple : mg "tuple" = none) : Cal P w K mg base 1 "_law_sums" ["_law_stair_here", "_law_lot"] f_law_sums := by
  refine ⟨fa, fd, fn_by (k := 0) false 2 8 b_law_sums rfl F sc_law_sums rfl rfl fun cdv A outer s H E hr hgd => ?_, hm, F.kp, F.binds (ps := ["_law_stair_here", "_law_lot"]) fun _ _ _ _ _ _ us hl => match us, hl with | [_, _], _ => rfl⟩
  have S := sc_law_sums
  unfold b_law_sums b_law_sums_l2 b_law_sums_s5 b_law_sums_l1 b_law_sums_s4 b_law_sums_s3 b_law_sums_s2 b_law_sums_s1 b_law_sums_c1
  exact sb_cons (sx_setC 2 (.inr rfl) rfl S.nd (si_seq (sv 0)) (bk_by (own := [("_law_pound", 7)]) (by rfl)) (fun _ _ _ _ _ => sg_nm 7 S.nd) (fun _ _ _ _ _ => sts_nil) (fun _ _ _ _ _ => se_int) (by decide) rfl)
        (sb_cons (sx_for PassesOwn.never rfl (si_seq (sv 1)) (sg_nm 3 S.nd) (sb_cons (sx_set 4 S.nd (se_ix (se_ix (sv 0) (se_sub (se_ix (sv 3) (se_int)) (se_int))) (se_int)))
        (sb_cons (sx_set 5 S.nd (se_if (st_in (se_ix (sv 3) (se_int)) (se_tup (sa_cons (se_str) (sa_cons (se_str) (sa_nil))))) (se_dix hr (se_sub (se_int) (sv 4)) (sv 4) (se_ix (sv 3) (se_int))) (se_ix (sv 3) (se_int))))
        (sb_cons (sx_set 5 S.nd (se_if (st_eq hr (se_ix (sv 3) (se_int)) (se_str)) (se_sub (se_int) (sv 5)) (sv 5)))
        (sb_one (sx_for PassesOwn.never rfl (si_range1 (by rfl) z_range (sa_cons (se_sub (se_ix (sv 3) (se_int)) (se_bint (by rfl) z_int (sa_cons (se_eq hr (se_ix (sv 3) (se_int)) (se_str)) (sa_nil)))) (sa_nil))) (sg_nm 6 S.nd) (sb_one (sx_asg (se_add (se_ix (sv 2) (sv 6)) (sv 5)) (tg_ix (sv 2) (sv 6))))))))))
        (sb_one (sx_ret (se_tuple (by rfl) z_tuple (sa_cons (sv 2) (sa_nil))))))
end
abbrev s_law_own_sums : Stmt := topS 32
theorem sc_law_own_sums : FnScope ["_law_stair_here", "_law_lap_here", "_law_sums_here", "_law_at"] ["_law_stair_here", "_law_lap_here"] (defScope s_law_own_sums) := ⟨rfl, rfl, rfl, by decide +kernel, rfl, by decide +kernel, by decide +kernel⟩
noncomputable def b_law_own_sums_s1 : SS := sSet 2 (eBin oAdd (eFrz (nListOf (aCons (eCall f_law_sums (aCons (eVar 0) (aCons (eVar 1) (aNil)))) (aNil)))) (eFrz (nLst (aCons (eC (.int 0)) (aNil)))))
noncomputable def b_law_own_sums_c1 : ES := eBin oSub (eBin oIx (eVar 2) (eVar 3)) (eBin oIx (eVar 2) (eBin oAdd (eVar 3) (eC (.int 1))))
noncomputable def b_law_own_sums_s2 : SS := sRet (eFrz (nComp (iRange1 (aCons (eFn bLen (aCons (eVar 0) (aNil))) (aNil))) [3] (.nm 3) (tTrue) (b_law_own_sums_c1)))
noncomputable def b_law_own_sums : SS := sSeq (b_law_own_sums_s1)
  (b_law_own_sums_s2)
noncomputable def f_law_own_sums : Fn := mkFn false 2 4 b_law_own_sums
section
variable {P : Program} {w : World} {K : PySem.W.Frag} {mg : Str → Option Value} {base : Heap}
theorem ok_law_own_sums {fa : Addr} {fd : FuncData} (F : Fun K "_law_own_sums" "_law_own_sums" s_law_own_sums fa fd) (hm : mg "_law_own_sums" = some (.ref fa)) (z_list : mg "list" = none) (z_len : mg "len" = none) (z_range : mg "range" = none) (c_law_sums : Cal P w K mg base 1 "_law_sums" ["_law_stair_here", "_law_lot"] f_law_sums) : Cal P w K mg base 2 "_law_own_sums" ["_law_stair_here", "_law_lap_here"] f_law_own_sums := by
  refine ⟨fa, fd, fn_by (k := 1) false 2 4 b_law_own_sums rfl F sc_law_own_sums rfl rfl fun cdv A outer s H E hr hgd => ?_, hm, F.kp, F.binds (ps := ["_law_stair_here", "_law_lap_here"]) fun _ _ _ _ _ _ us hl => match us, hl with | [_, _], _ => rfl⟩
  have S := sc_law_own_sums
  unfold b_law_own_sums b_law_own_sums_s2 b_law_own_sums_c1 b_law_own_sums_s1
  exact sb_cons (sx_set 2 S.nd (se_add (se_frz (sn_list (by rfl) z_list (sa_cons (se_cal c_law_sums hr hgd (sa_cons (sv 0) (sa_cons (sv 1) (sa_nil))) (by omega)) (sa_nil)))) (se_frz (sn_lst (sa_cons (se_int) (sa_nil))))))
        (sb_one (sx_ret (se_frz (sn_comp rfl S.nd (si_range1 (by rfl) z_range (sa_cons (se_len (by rfl) z_len (sa_cons (sv 0) (sa_nil))) (sa_nil))) (bk_by (own := [("_law_at", 3)]) (by rfl)) (fun _ _ _ _ _ => sg_nm 3 S.nd) (fun _ _ _ _ _ => sts_nil) (fun _ _ _ _ _ => se_sub (se_ix (sv 2) (sv 3)) (se_ix (sv 2) (se_add (sv 3) (se_int)))) (by decide)))))
end
abbrev s_levels_of : Stmt := topS 18
theorem sc_levels_of : FnScope ["totals", "above", "total", "other"] ["totals"] (defScope s_levels_of) := ⟨rfl, rfl, rfl, by decide +kernel, rfl, by decide +kernel, by decide +kernel⟩
section
variable {P : Program} {w : World} {K : PySem.W.Frag} {mg : Str → Option Value} {base : Heap}
theorem ok_levels_of {fa : Addr} {fd : FuncData} (F : Fun K "levels_of" "levels_of" s_levels_of fa fd) (hm : mg "levels_of" = some (.ref fa)) (z_list : mg "list" = none) (z_zip : mg "zip" = none) (z_tuple : mg "tuple" = none) : Cal P w K mg base 1 "levels_of" ["totals"] f_levels_of := by
  refine ⟨fa, fd, fn_by (k := 0) false 1 4 b_levels_of rfl F sc_levels_of rfl rfl fun cdv A outer s H E hr hgd => ?_, hm, F.kp, F.binds (ps := ["totals"]) fun _ _ _ _ _ _ us hl => match us, hl with | [_], _ => rfl⟩
  have S := sc_levels_of
  unfold b_levels_of b_levels_of_s2 b_levels_of_c1 b_levels_of_s1
  exact sb_cons (sx_set 1 S.nd (se_add (se_frz (sn_list (by rfl) z_list (sa_cons (se_cut (sv 0) (sp_of (se_int)) (sp_no)) (sa_nil)))) (se_frz (sn_lst (sa_cons (se_int) (sa_nil))))))
        (sb_one (sx_ret (se_tuple (by rfl) z_tuple (sa_cons (se_frz (sn_comp rfl S.nd (si_zipS (by rfl) z_zip (sa_cons (sv 0) (sa_cons (sv 1) (sa_nil)))) (bk_by (own := [("total", 2), ("other", 3)]) (by rfl)) (fun _ _ _ _ _ => sg_tup rfl (sgs_cons (sg_nm 2 S.nd) (sgs_cons (sg_nm 3 S.nd) (sgs_nil)))) (fun _ _ _ _ _ => sts_nil) (fun _ _ _ _ _ => se_sub (sv 2) (sv 3)) (by decide))) (sa_nil)))))
end
abbrev s_totals_of : Stmt := topS 17
theorem sc_totals_of : FnScope ["levels", "found", "total", "level"] ["levels"] (defScope s_totals_of) := ⟨rfl, rfl, rfl, by decide +kernel, rfl, by decide +kernel, by decide +kernel⟩
section
variable {P : Program} {w : World} {K : PySem.W.Frag} {mg : Str → Option Value} {base : Heap}
theorem ok_totals_of {fa : Addr} {fd : FuncData} (F : Fun K "totals_of" "totals_of" s_totals_of fa fd) (hm : mg "totals_of" = some (.ref fa)) (z_tuple : mg "tuple" = none) : Cal P w K mg base 1 "totals_of" ["levels"] f_totals_of := by
  refine ⟨fa, fd, fn_by (k := 0) false 1 4 b_totals_of rfl F sc_totals_of rfl rfl fun cdv A outer s H E hr hgd => ?_, hm, F.kp, F.binds (ps := ["levels"]) fun _ _ _ _ _ _ us hl => match us, hl with | [_], _ => rfl⟩
  have S := sc_totals_of
  unfold b_totals_of b_totals_of_l1 b_totals_of_s1
  exact sb_cons (sx_par 1 2 rfl S.nd (sa_cons (se_thw (sn_lst (sa_nil))) (sa_cons (se_int) (sa_nil))))
        (sb_cons (sx_for PassesOwn.never rfl (si_seq (se_rev (sv 0))) (sg_nm 3 S.nd) (sb_cons (sx_augAdd 2 S.nd (sv 3))
        (sb_one (sx_expr (se_append (sv 1) (sa_cons (sv 2) (sa_nil)))))))
        (sb_one (sx_ret (se_tuple (by rfl) z_tuple (sa_cons (se_rev (sv 1)) (sa_nil))))))
end
abbrev s_led : Stmt := topS 10
theorem sc_led : FnScope ["table", "totals", "ends", "found", "at", "row", "number", "end"] ["table", "totals"] (defScope s_led) := ⟨rfl, rfl, rfl, by decide +kernel, rfl, by decide +kernel, by decide +kernel⟩
section
variable {P : Program} {w : World} {K : PySem.W.Frag} {mg : Str → Option Value} {base : Heap}
theorem ok_led {fa : Addr} {fd : FuncData} (F : Fun K "led" "led" s_led fa fd) (hm : mg "led" = some (.ref fa)) (z_list : mg "list" = none) (z_enumerate : mg "enumerate" = none) (z_zip : mg "zip" = none) (z_min : mg "min" = none) (z_tuple : mg "tuple" = none) : Cal P w K mg base 1 "led" ["table", "totals"] f_led := by
  refine ⟨fa, fd, fn_by (k := 0) false 2 8 b_led rfl F sc_led rfl rfl fun cdv A outer s H E hr hgd => ?_, hm, F.kp, F.binds (ps := ["table", "totals"]) fun _ _ _ _ _ _ us hl => match us, hl with | [_, _], _ => rfl⟩
  have S := sc_led
  unfold b_led b_led_s2 b_led_l1 b_led_c1 b_led_s1
  exact sb_cons (sx_set 2 S.nd (se_add (se_frz (sn_list (by rfl) z_list (sa_cons (sv 1) (sa_nil)))) (se_frz (sn_lst (sa_cons (se_int) (sa_nil))))))
        (sb_cons (sx_set 3 S.nd (se_thw (sn_lst (sa_nil))))
        (sb_cons (sx_for PassesOwn.never rfl (si_enum (by rfl) z_enumerate (sa_cons (sv 0) (sa_nil))) (sg_tup rfl (sgs_cons (sg_nm 4 S.nd) (sgs_cons (sg_nm 5 S.nd) (sgs_nil)))) (sb_one (sx_expr (se_append (sv 3) (sa_cons (se_min rfl (by rfl) z_min (sa_cons (se_frz (sn_comp rfl S.nd (si_zipS (by rfl) z_zip (sa_cons (sv 5) (sa_cons (se_cut (sv 2) (sp_of (sv 4)) (sp_no)) (sa_nil)))) (bk_by (own := [("number", 6), ("end", 7)]) (by rfl)) (fun _ _ _ _ _ => sg_tup rfl (sgs_cons (sg_nm 6 S.nd) (sgs_cons (sg_nm 7 S.nd) (sgs_nil)))) (fun _ _ _ _ _ => sts_nil) (fun _ _ _ _ _ => se_add (sv 6) (sv 7)) (by decide))) (sa_nil))) (sa_nil))))))
        (sb_one (sx_ret (se_tuple (by rfl) z_tuple (sa_cons (sv 3) (sa_nil)))))))
end
abbrev s_behind : Stmt := topS 11
theorem sc_behind : FnScope ["one", "other", "rows", "found", "at", "row", "places", "place", "by"] ["one", "other"] (defScope s_behind) := ⟨rfl, rfl, rfl, by decide +kernel, rfl, by decide +kernel, by decide +kernel⟩
section
variable {P : Program} {w : World} {K : PySem.W.Frag} {mg : Str → Option Value} {base : Heap}
theorem ok_behind {fa : Addr} {fd : FuncData} (F : Fun K "behind" "behind" s_behind fa fd) (hm : mg "behind" = some (.ref fa)) (z_list : mg "list" = none) (z_enumerate : mg "enumerate" = none) (z_len : mg "len" = none) (z_range : mg "range" = none) (z_min : mg "min" = none) (z_tuple : mg "tuple" = none) : Cal P w K mg base 1 "behind" ["one", "other"] f_behind := by
  refine ⟨fa, fd, fn_by (k := 0) false 2 9 b_behind rfl F sc_behind rfl rfl fun cdv A outer s H E hr hgd => ?_, hm, F.kp, F.binds (ps := ["one", "other"]) fun _ _ _ _ _ _ us hl => match us, hl with | [_, _], _ => rfl⟩
  have S := sc_behind
  unfold b_behind b_behind_s4 b_behind_l2 b_behind_s3 b_behind_s2 b_behind_l1 b_behind_c1 b_behind_s1
  exact sb_cons (sx_set 2 S.nd (se_add (se_frz (sn_list (by rfl) z_list (sa_cons (sv 0) (sa_nil)))) (se_frz (sn_lst (sa_cons (se_tup (sa_cons (se_int) (sa_nil))) (sa_nil))))))
        (sb_cons (sx_set 3 S.nd (se_thw (sn_lst (sa_nil))))
        (sb_cons (sx_for PassesOwn.never rfl (si_enum (by rfl) z_enumerate (sa_cons (sv 1) (sa_nil))) (sg_tup rfl (sgs_cons (sg_nm 4 S.nd) (sgs_cons (sg_nm 5 S.nd) (sgs_nil)))) (sb_cons (sx_set 6 S.nd (se_thw (sn_lst (sa_nil))))
        (sb_cons (sx_for PassesOwn.never rfl (si_range2 (by rfl) z_range (sa_cons (sv 4) (sa_cons (se_len (by rfl) z_len (sa_cons (sv 2) (sa_nil))) (sa_nil)))) (sg_nm 7 S.nd) (sb_one (sx_expr (se_append (sv 6) (sa_cons (se_min rfl (by rfl) z_min (sa_cons (se_frz (sn_comp rfl S.nd (si_range2 (by rfl) z_range (sa_cons (sv 4) (sa_cons (se_add (sv 7) (se_int)) (sa_nil)))) (bk_by (own := [("by", 8)]) (by rfl)) (fun _ _ _ _ _ => sg_nm 8 S.nd) (fun _ _ _ _ _ => sts_nil) (fun _ _ _ _ _ => se_add (se_ix (sv 5) (se_sub (sv 8) (sv 4))) (se_ix (se_ix (sv 2) (sv 8)) (se_sub (sv 7) (sv 8)))) (by decide))) (sa_nil))) (sa_nil))))))
        (sb_one (sx_expr (se_append (sv 3) (sa_cons (se_tuple (by rfl) z_tuple (sa_cons (sv 6) (sa_nil))) (sa_nil))))))))
        (sb_one (sx_ret (se_tuple (by rfl) z_tuple (sa_cons (sv 3) (sa_nil)))))))
end
abbrev s_power : Stmt := topS 12
theorem sc_power : FnScope ["table", "many", "found", "square", "left", "row"] ["table", "many"] (defScope s_power) := ⟨rfl, rfl, rfl, by decide +kernel, rfl, by decide +kernel, by decide +kernel⟩
section
variable {P : Program} {w : World} {K : PySem.W.Frag} {mg : Str → Option Value} {base : Heap}
theorem ok_power {fa : Addr} {fd : FuncData} (F : Fun K "power" "power" s_power fa fd) (hm : mg "power" = some (.ref fa)) (z_tuple : mg "tuple" = none) (c_behind : Cal P w K mg base 1 "behind" ["one", "other"] f_behind) : Cal P w K mg base 2 "power" ["table", "many"] f_power := by
  refine ⟨fa, fd, fn_by (k := 1) false 2 6 b_power rfl F sc_power rfl rfl fun cdv A outer s H E hr hgd => ?_, hm, F.kp, F.binds (ps := ["table", "many"]) fun _ _ _ _ _ _ us hl => match us, hl with | [_, _], _ => rfl⟩
  have S := sc_power
  unfold b_power b_power_s4 b_power_l1 b_power_s3 b_power_s2 b_power_s1 b_power_c1
  exact sb_cons (sx_par3 2 3 4 rfl S.nd (sa_cons (se_non) (sa_cons (se_tuple (by rfl) z_tuple (sa_cons (se_frz (sn_comp rfl S.nd (si_seq (sv 0)) (bk_by (own := [("row", 5)]) (by rfl)) (fun _ _ _ _ _ => sg_nm 5 S.nd) (fun _ _ _ _ _ => sts_nil) (fun _ _ _ _ _ => se_tuple (by rfl) z_tuple (sa_cons (sv 5) (sa_nil))) (by decide))) (sa_nil))) (sa_cons (sv 1) (sa_nil)))))
        (sb_cons (sx_while 100 PassesOwn.never (st_gt (sv 4) (se_int)) (sb_cons (sx_if (st_eq hr (se_mod (sv 4) (se_int)) (se_int)) (sb_one (sx_set 2 S.nd (se_if (st_isN (sv 2) (se_non)) (sv 3) (se_cal c_behind hr hgd (sa_cons (sv 2) (sa_cons (sv 3) (sa_nil))) (by omega))))) (sb_nil))
        (sb_cons (sx_augDiv 4 S.nd (se_int))
        (sb_one (sx_set 3 S.nd (se_if (st_gt (sv 4) (se_int)) (se_cal c_behind hr hgd (sa_cons (sv 3) (sa_cons (sv 3) (sa_nil))) (by omega)) (sv 3)))))))
        (sb_one (sx_ret (sv 2))))
end
abbrev s_over_table : Stmt := topS 13
theorem sc_over_table : FnScope ["stair", "found", "at", "row", "least", "most", "size"] ["stair"] (defScope s_over_table) := ⟨rfl, rfl, rfl, by decide +kernel, rfl, by decide +kernel, by decide +kernel⟩
section
variable {P : Program} {w : World} {K : PySem.W.Frag} {mg : Str → Option Value} {base : Heap}
theorem ok_over_table {fa : Addr} {fd : FuncData} (F : Fun K "over_table" "over_table" s_over_table fa fd) (hm : mg "over_table" = some (.ref fa)) (z_len : mg "len" = none) (z_range : mg "range" = none) (z_tuple : mg "tuple" = none) : Cal P w K mg base 1 "over_table" ["stair"] f_over_table := by
  refine ⟨fa, fd, fn_by (k := 0) false 1 7 b_over_table rfl F sc_over_table rfl rfl fun cdv A outer s H E hr hgd => ?_, hm, F.kp, F.binds (ps := ["stair"]) fun _ _ _ _ _ _ us hl => match us, hl with | [_], _ => rfl⟩
  have S := sc_over_table
  unfold b_over_table b_over_table_s3 b_over_table_l2 b_over_table_s2 b_over_table_s1 b_over_table_l1
  exact sb_cons (sx_set 1 S.nd (se_thw (sn_lst (sa_nil))))
        (sb_cons (sx_for PassesOwn.never rfl (si_range1 (by rfl) z_range (sa_cons (se_len (by rfl) z_len (sa_cons (sv 0) (sa_nil))) (sa_nil))) (sg_nm 2 S.nd) (sb_cons (sx_set 3 S.nd (se_thw (sn_lst (sa_cons (se_int) (sa_nil)))))
        (sb_cons (sx_for PassesOwn.never rfl (si_seq (se_cut (sv 0) (sp_of (sv 2)) (sp_no))) (sg_tup rfl (sgs_cons (sg_nm 4 S.nd) (sgs_cons (sg_nm 5 S.nd) (sgs_cons (sg_nm 6 S.nd) (sgs_nil))))) (sb_one (sx_expr (se_append (sv 3) (sa_cons (se_add (se_ix (sv 3) (se_neg (se_int))) (sv 5)) (sa_nil))))))
        (sb_one (sx_expr (se_append (sv 1) (sa_cons (se_tuple (by rfl) z_tuple (sa_cons (sv 3) (sa_nil))) (sa_nil))))))))
        (sb_one (sx_ret (se_tuple (by rfl) z_tuple (sa_cons (sv 1) (sa_nil))))))
end
abbrev s_brought_by : Stmt := topS 4
theorem sc_brought_by : FnScope ["stair", "deed"] ["stair", "deed"] (defScope s_brought_by) := ⟨rfl, rfl, rfl, by decide +kernel, rfl, by decide +kernel, by decide +kernel⟩
section
variable {P : Program} {w : World} {K : PySem.W.Frag} {mg : Str → Option Value} {base : Heap}
theorem ok_brought_by {fa : Addr} {fd : FuncData} (F : Fun K "brought_by" "brought_by" s_brought_by fa fd) (hm : mg "brought_by" = some (.ref fa)) (g_EMPTY : ∃ t, mg "EMPTY" = some (.str "empty" t)) : Cal P w K mg base 1 "brought_by" ["stair", "deed"] f_brought_by := by
  refine ⟨fa, fd, fn_by (k := 0) false 2 2 b_brought_by rfl F sc_brought_by rfl rfl fun cdv A outer s H E hr hgd => ?_, hm, F.kp, F.binds (ps := ["stair", "deed"]) fun _ _ _ _ _ _ us hl => match us, hl with | [_, _], _ => rfl⟩
  have S := sc_brought_by
  unfold b_brought_by b_brought_by_s2 b_brought_by_s1
  exact sb_cons (sx_if (st_eq hr (se_ix (sv 1) (se_int)) (se_gstr g_EMPTY)) (sb_one (sx_ret (se_tup (sa_cons (se_sub (se_ix (sv 1) (se_int)) (se_int)) (sa_cons (se_ix (se_ix (sv 0) (se_sub (se_ix (sv 1) (se_int)) (se_int))) (se_int)) (sa_nil)))))) (sb_nil))
        (sb_one (sx_ret (se_tup (sa_cons (se_ix (sv 1) (se_int)) (sa_cons (se_if (st_eq hr (se_ix (sv 1) (se_int)) (se_str)) (se_ix (sv 1) (se_int)) (se_int)) (sa_nil))))))
end
abbrev s_taken_by : Stmt := topS 3
theorem sc_taken_by : FnScope ["stair", "deed"] ["stair", "deed"] (defScope s_taken_by) := ⟨rfl, rfl, rfl, by decide +kernel, rfl, by decide +kernel, by decide +kernel⟩
section
variable {P : Program} {w : World} {K : PySem.W.Frag} {mg : Str → Option Value} {base : Heap}
theorem ok_taken_by {fa : Addr} {fd : FuncData} (F : Fun K "taken_by" "taken_by" s_taken_by fa fd) (hm : mg "taken_by" = some (.ref fa)) (g_FILL : ∃ t, mg "FILL" = some (.str "fill" t)) : Cal P w K mg base 1 "taken_by" ["stair", "deed"] f_taken_by := by
  refine ⟨fa, fd, fn_by (k := 0) false 2 2 b_taken_by rfl F sc_taken_by rfl rfl fun cdv A outer s H E hr hgd => ?_, hm, F.kp, F.binds (ps := ["stair", "deed"]) fun _ _ _ _ _ _ us hl => match us, hl with | [_, _], _ => rfl⟩
  have S := sc_taken_by
  unfold b_taken_by b_taken_by_s2 b_taken_by_s1
  exact sb_cons (sx_if (st_eq hr (se_ix (sv 1) (se_int)) (se_gstr g_FILL)) (sb_one (sx_ret (se_ix (se_ix (sv 0) (se_sub (se_ix (sv 1) (se_int)) (se_int))) (se_int)))) (sb_nil))
        (sb_one (sx_ret (se_if (st_eq hr (se_ix (sv 1) (se_int)) (se_str)) (se_ix (sv 1) (se_int)) (se_int))))
end
abbrev s_added : Stmt := topS 7
theorem sc_added : FnScope ["stair", "deed", "pound", "many", "taken", "place", "at"] ["stair", "deed"] (defScope s_added) := ⟨rfl, rfl, rfl, by decide +kernel, rfl, by decide +kernel, by decide +kernel⟩
section
variable {P : Program} {w : World} {K : PySem.W.Frag} {mg : Str → Option Value} {base : Heap}
theorem ok_added {fa : Addr} {fd : FuncData} (F : Fun K "added" "added" s_added fa fd) (hm : mg "added" = some (.ref fa)) (z_len : mg "len" = none) (z_range : mg "range" = none) (z_int : mg "int" = none) (z_tuple : mg "tuple" = none) (c_brought_by : Cal P w K mg base 1 "brought_by" ["stair", "deed"] f_brought_by) (c_taken_by : Cal P w K mg base 1 "taken_by" ["stair", "deed"] f_taken_by) : Cal P w K mg base 2 "added" ["stair", "deed"] f_added := by
  refine ⟨fa, fd, fn_by (k := 1) false 2 7 b_added rfl F sc_added rfl rfl fun cdv A outer s H E hr hgd => ?_, hm, F.kp, F.binds (ps := ["stair", "deed"]) fun _ _ _ _ _ _ us hl => match us, hl with | [_, _], _ => rfl⟩
  have S := sc_added
  unfold b_added b_added_s3 b_added_c1 b_added_s2 b_added_s1
  exact sb_cons (sx_asg (se_cal c_brought_by hr hgd (sa_cons (sv 0) (sa_cons (sv 1) (sa_nil))) (by omega)) (tg_of (sg_tup rfl (sgs_cons (sg_nm 2 S.nd) (sgs_cons (sg_nm 3 S.nd) (sgs_nil))))))
        (sb_cons (sx_asg (se_tup (sa_cons (se_cal c_taken_by hr hgd (sa_cons (sv 0) (sa_cons (sv 1) (sa_nil))) (by omega)) (sa_cons (se_ix (sv 1) (se_int)) (sa_nil)))) (tg_of (sg_tup rfl (sgs_cons (sg_nm 4 S.nd) (sgs_cons (sg_nm 5 S.nd) (sgs_nil))))))
        (sb_one (sx_ret (se_tuple (by rfl) z_tuple (sa_cons (se_frz (sn_comp rfl S.nd (si_range2 (by rfl) z_range (sa_cons (se_int) (sa_cons (se_add (se_len (by rfl) z_len (sa_cons (sv 0) (sa_nil))) (se_int)) (sa_nil)))) (bk_by (own := [("at", 6)]) (by rfl)) (fun _ _ _ _ _ => sg_nm 6 S.nd) (fun _ _ _ _ _ => sts_nil) (fun _ _ _ _ _ => se_sub (se_mul (sv 3) (se_bint (by rfl) z_int (sa_cons (se_le (sv 6) (sv 2)) (sa_nil)))) (se_mul (sv 4) (se_bint (by rfl) z_int (sa_cons (se_le (sv 6) (sv 5)) (sa_nil))))) (by decide))) (sa_nil))))))
end
abbrev s_deed_table : Stmt := topS 14
theorem sc_deed_table : FnScope ["stair", "deed", "more", "found", "at", "row", "number", "one"] ["stair", "deed"] (defScope s_deed_table) := ⟨rfl, rfl, rfl, by decide +kernel, rfl, by decide +kernel, by decide +kernel⟩
section
variable {P : Program} {w : World} {K : PySem.W.Frag} {mg : Str → Option Value} {base : Heap}
theorem ok_deed_table {fa : Addr} {fd : FuncData} (F : Fun K "deed_table" "deed_table" s_deed_table fa fd) (hm : mg "deed_table" = some (.ref fa)) (z_list : mg "list" = none) (z_enumerate : mg "enumerate" = none) (z_zip : mg "zip" = none) (z_tuple : mg "tuple" = none) (c_added : Cal P w K mg base 2 "added" ["stair", "deed"] f_added) (c_over_table : Cal P w K mg base 1 "over_table" ["stair"] f_over_table) : Cal P w K mg base 3 "deed_table" ["stair", "deed"] f_deed_table := by
  refine ⟨fa, fd, fn_by (k := 2) false 2 8 b_deed_table rfl F sc_deed_table rfl rfl fun cdv A outer s H E hr hgd => ?_, hm, F.kp, F.binds (ps := ["stair", "deed"]) fun _ _ _ _ _ _ us hl => match us, hl with | [_, _], _ => rfl⟩
  have S := sc_deed_table
  unfold b_deed_table b_deed_table_s2 b_deed_table_l1 b_deed_table_c1 b_deed_table_s1
  exact sb_cons (sx_set 2 S.nd (se_add (se_frz (sn_list (by rfl) z_list (sa_cons (se_cal c_added hr hgd (sa_cons (sv 0) (sa_cons (sv 1) (sa_nil))) (by omega)) (sa_nil)))) (se_frz (sn_lst (sa_cons (se_int) (sa_nil))))))
        (sb_cons (sx_set 3 S.nd (se_thw (sn_lst (sa_nil))))
        (sb_cons (sx_for PassesOwn.never rfl (si_enum (by rfl) z_enumerate (sa_cons (se_cal c_over_table hr hgd (sa_cons (sv 0) (sa_nil)) (by omega)) (sa_nil))) (sg_tup rfl (sgs_cons (sg_nm 4 S.nd) (sgs_cons (sg_nm 5 S.nd) (sgs_nil)))) (sb_one (sx_expr (se_append (sv 3) (sa_cons (se_tuple (by rfl) z_tuple (sa_cons (se_frz (sn_comp rfl S.nd (si_zipS (by rfl) z_zip (sa_cons (sv 5) (sa_cons (se_cut (sv 2) (sp_of (sv 4)) (sp_no)) (sa_nil)))) (bk_by (own := [("number", 6), ("one", 7)]) (by rfl)) (fun _ _ _ _ _ => sg_tup rfl (sgs_cons (sg_nm 6 S.nd) (sgs_cons (sg_nm 7 S.nd) (sgs_nil)))) (fun _ _ _ _ _ => sts_nil) (fun _ _ _ _ _ => se_add (sv 6) (sv 7)) (by decide))) (sa_nil))) (sa_nil))))))
        (sb_one (sx_ret (se_tuple (by rfl) z_tuple (sa_cons (sv 3) (sa_nil)))))))
end
abbrev s_table_of : Stmt := topS 15
theorem sc_table_of : FnScope ["stair", "deeds", "found", "deed"] ["stair", "deeds"] (defScope s_table_of) := ⟨rfl, rfl, rfl, by decide +kernel, rfl, by decide +kernel, by decide +kernel⟩
section
variable {P : Program} {w : World} {K : PySem.W.Frag} {mg : Str → Option Value} {base : Heap}
theorem ok_table_of {fa : Addr} {fd : FuncData} (F : Fun K "table_of" "table_of" s_table_of fa fd) (hm : mg "table_of" = some (.ref fa)) (c_over_table : Cal P w K mg base 1 "over_table" ["stair"] f_over_table) (c_deed_table : Cal P w K mg base 3 "deed_table" ["stair", "deed"] f_deed_table) (c_behind : Cal P w K mg base 1 "behind" ["one", "other"] f_behind) : Cal P w K mg base 4 "table_of" ["stair", "deeds"] f_table_of := by
  refine ⟨fa, fd, fn_by (k := 3) false 2 4 b_table_of rfl F sc_table_of rfl rfl fun cdv A outer s H E hr hgd => ?_, hm, F.kp, F.binds (ps := ["stair", "deeds"]) fun _ _ _ _ _ _ us hl => match us, hl with | [_, _], _ => rfl⟩
  have S := sc_table_of
  unfold b_table_of b_table_of_l1
  exact sb_cons (sx_set 2 S.nd (se_cal c_over_table hr hgd (sa_cons (sv 0) (sa_nil)) (by omega)))
        (sb_cons (sx_for PassesOwn.never rfl (si_seq (sv 1)) (sg_nm 3 S.nd) (sb_one (sx_set 2 S.nd (se_cal c_behind hr hgd (sa_cons (sv 2) (sa_cons (se_cal c_deed_table hr hgd (sa_cons (sv 0) (sa_cons (sv 3) (sa_nil))) (by omega)) (sa_nil))) (by omega)))))
        (sb_one (sx_ret (sv 2))))
end
abbrev s_far_totals : Stmt := topS 20
theorem sc_far_totals : FnScope ["stair", "levels", "round_deeds", "many", "totals"] ["stair", "levels", "round_deeds", "many"] (defScope s_far_totals) := ⟨rfl, rfl, rfl, by decide +kernel, rfl, by decide +kernel, by decide +kernel⟩
section
variable {P : Program} {w : World} {K : PySem.W.Frag} {mg : Str → Option Value} {base : Heap}
theorem ok_far_totals {fa : Addr} {fd : FuncData} (F : Fun K "far_totals" "far_totals" s_far_totals fa fd) (hm : mg "far_totals" = some (.ref fa)) (c_totals_of : Cal P w K mg base 1 "totals_of" ["levels"] f_totals_of) (c_table_of : Cal P w K mg base 4 "table_of" ["stair", "deeds"] f_table_of) (c_power : Cal P w K mg base 2 "power" ["table", "many"] f_power) (c_led : Cal P w K mg base 1 "led" ["table", "totals"] f_led) : Cal P w K mg base 5 "far_totals" ["stair", "levels", "round_deeds", "many"] f_far_totals := by
  refine ⟨fa, fd, fn_by (k := 4) false 4 5 b_far_totals rfl F sc_far_totals rfl rfl fun cdv A outer s H E hr hgd => ?_, hm, F.kp, F.binds (ps := ["stair", "levels", "round_deeds", "many"]) fun _ _ _ _ _ _ us hl => match us, hl with | [_, _, _, _], _ => rfl⟩
  have S := sc_far_totals
  unfold b_far_totals b_far_totals_s1
  exact sb_cons (sx_set 4 S.nd (se_cal c_totals_of hr hgd (sa_cons (sv 1) (sa_nil)) (by omega)))
        (sb_one (sx_ret (se_if (st_eq hr (sv 3) (se_int)) (sv 4) (se_cal c_led hr hgd (sa_cons (se_cal c_power hr hgd (sa_cons (se_cal c_table_of hr hgd (sa_cons (sv 0) (sa_cons (sv 2) (sa_nil))) (by omega)) (sa_cons (sv 3) (sa_nil))) (by omega)) (sa_cons (sv 4) (sa_nil))) (by omega)))))
end
abbrev s_far_levels : Stmt := topS 21
theorem sc_far_levels : FnScope ["stair", "levels", "round_deeds", "many"] ["stair", "levels", "round_deeds", "many"] (defScope s_far_levels) := ⟨rfl, rfl, rfl, by decide +kernel, rfl, by decide +kernel, by decide +kernel⟩
section
variable {P : Program} {w : World} {K : PySem.W.Frag} {mg : Str → Option Value} {base : Heap}
theorem ok_far_levels {fa : Addr} {fd : FuncData} (F : Fun K "far_levels" "far_levels" s_far_levels fa fd) (hm : mg "far_levels" = some (.ref fa)) (c_far_totals : Cal P w K mg base 5 "far_totals" ["stair", "levels", "round_deeds", "many"] f_far_totals) (c_levels_of : Cal P w K mg base 1 "levels_of" ["totals"] f_levels_of) : Cal P w K mg base 6 "far_levels" ["stair", "levels", "round_deeds", "many"] f_far_levels := by
  refine ⟨fa, fd, fn_by (k := 5) false 4 4 b_far_levels rfl F sc_far_levels rfl rfl fun cdv A outer s H E hr hgd => ?_, hm, F.kp, F.binds (ps := ["stair", "levels", "round_deeds", "many"]) fun _ _ _ _ _ _ us hl => match us, hl with | [_, _, _, _], _ => rfl⟩
  have S := sc_far_levels
  unfold b_far_levels
  exact sb_one (sx_ret (se_cal c_levels_of hr hgd (sa_cons (se_cal c_far_totals hr hgd (sa_cons (sv 0) (sa_cons (sv 1) (sa_cons (sv 2) (sa_cons (sv 3) (sa_nil))))) (by omega)) (sa_nil)) (by omega)))
end
abbrev s_put_together : Stmt := topS 5
theorem sc_put_together : FnScope ["one", "other", "number", "more"] ["one", "other"] (defScope s_put_together) := ⟨rfl, rfl, rfl, by decide +kernel, rfl, by decide +kernel, by decide +kernel⟩
section
variable {P : Program} {w : World} {K : PySem.W.Frag} {mg : Str → Option Value} {base : Heap}
theorem ok_put_together {fa : Addr} {fd : FuncData} (F : Fun K "put_together" "put_together" s_put_together fa fd) (hm : mg "put_together" = some (.ref fa)) (z_zip : mg "zip" = none) (z_tuple : mg "tuple" = none) : Cal P w K mg base 1 "put_together" ["one", "other"] f_put_together := by
  refine ⟨fa, fd, fn_by (k := 0) false 2 4 b_put_together rfl F sc_put_together rfl rfl fun cdv A outer s H E hr hgd => ?_, hm, F.kp, F.binds (ps := ["one", "other"]) fun _ _ _ _ _ _ us hl => match us, hl with | [_, _], _ => rfl⟩
  have S := sc_put_together
  unfold b_put_together b_put_together_c1
  exact sb_one (sx_ret (se_tuple (by rfl) z_tuple (sa_cons (se_frz (sn_comp rfl S.nd (si_zipS (by rfl) z_zip (sa_cons (sv 0) (sa_cons (sv 1) (sa_nil)))) (bk_by (own := [("number", 2), ("more", 3)]) (by rfl)) (fun _ _ _ _ _ => sg_tup rfl (sgs_cons (sg_nm 2 S.nd) (sgs_cons (sg_nm 3 S.nd) (sgs_nil)))) (fun _ _ _ _ _ => sts_nil) (fun _ _ _ _ _ => se_add (sv 2) (sv 3)) (by decide))) (sa_nil))))
end
abbrev s_sums_of : Stmt := topS 8
theorem sc_sums_of : FnScope ["stair", "deeds", "found", "deed", "pound"] ["stair", "deeds"] (defScope s_sums_of) := ⟨rfl, rfl, rfl, by decide +kernel, rfl, by decide +kernel, by decide +kernel⟩
section
variable {P : Program} {w : World} {K : PySem.W.Frag} {mg : Str → Option Value} {base : Heap}
theorem ok_sums_of {fa : Addr} {fd : FuncData} (F : Fun K "sums_of" "sums_of" s_sums_of fa fd) (hm : mg "sums_of" = some (.ref fa)) (z_tuple : mg "tuple" = none) (c_added : Cal P w K mg base 2 "added" ["stair", "deed"] f_added) (c_put_together : Cal P w K mg base 1 "put_together" ["one", "other"] f_put_together) : Cal P w K mg base 3 "sums_of" ["stair", "deeds"] f_sums_of := by
  refine ⟨fa, fd, fn_by (k := 2) false 2 5 b_sums_of rfl F sc_sums_of rfl rfl fun cdv A outer s H E hr hgd => ?_, hm, F.kp, F.binds (ps := ["stair", "deeds"]) fun _ _ _ _ _ _ us hl => match us, hl with | [_, _], _ => rfl⟩
  have S := sc_sums_of
  unfold b_sums_of b_sums_of_l1 b_sums_of_s1 b_sums_of_c1
  exact sb_cons (sx_set 2 S.nd (se_tuple (by rfl) z_tuple (sa_cons (se_frz (sn_comp rfl S.nd (si_seq (sv 0)) (bk_by (own := [("pound", 4)]) (by rfl)) (fun _ _ _ _ _ => sg_nm 4 S.nd) (fun _ _ _ _ _ => sts_nil) (fun _ _ _ _ _ => se_int) (by decide))) (sa_nil))))
        (sb_cons (sx_for PassesOwn.never rfl (si_seq (sv 1)) (sg_nm 3 S.nd) (sb_one (sx_set 2 S.nd (se_cal c_put_together hr hgd (sa_cons (sv 2) (sa_cons (se_cal c_added hr hgd (sa_cons (sv 0) (sa_cons (sv 3) (sa_nil))) (by omega)) (sa_nil))) (by omega)))))
        (sb_one (sx_ret (sv 2))))
end
abbrev s_ran_over : Stmt := topS 22
theorem sc_ran_over : FnScope ["stair", "levels", "round_deeds", "many", "ahead", "later", "sums", "one", "more", "other"] ["stair", "levels", "round_deeds", "many"] (defScope s_ran_over) := ⟨rfl, rfl, rfl, by decide +kernel, rfl, by decide +kernel, by decide +kernel⟩
section
variable {P : Program} {w : World} {K : PySem.W.Frag} {mg : Str → Option Value} {base : Heap}
theorem ok_ran_over {fa : Addr} {fd : FuncData} (F : Fun K "ran_over" "ran_over" s_ran_over fa fd) (hm : mg "ran_over" = some (.ref fa)) (z_zip : mg "zip" = none) (z_tuple : mg "tuple" = none) (c_far_totals : Cal P w K mg base 5 "far_totals" ["stair", "levels", "round_deeds", "many"] f_far_totals) (c_totals_of : Cal P w K mg base 1 "totals_of" ["levels"] f_totals_of) (c_sums_of : Cal P w K mg base 3 "sums_of" ["stair", "deeds"] f_sums_of) : Cal P w K mg base 6 "ran_over" ["stair", "levels", "round_deeds", "many"] f_ran_over := by
  refine ⟨fa, fd, fn_by (k := 5) false 4 10 b_ran_over rfl F sc_ran_over rfl rfl fun cdv A outer s H E hr hgd => ?_, hm, F.kp, F.binds (ps := ["stair", "levels", "round_deeds", "many"]) fun _ _ _ _ _ _ us hl => match us, hl with | [_, _, _, _], _ => rfl⟩
  have S := sc_ran_over
  unfold b_ran_over b_ran_over_s3 b_ran_over_c1 b_ran_over_s2 b_ran_over_s1
  exact sb_cons (sx_par 4 5 rfl S.nd (sa_cons (se_cal c_totals_of hr hgd (sa_cons (sv 1) (sa_nil)) (by omega)) (sa_cons (se_cal c_far_totals hr hgd (sa_cons (sv 0) (sa_cons (sv 1) (sa_cons (sv 2) (sa_cons (sv 3) (sa_nil))))) (by omega)) (sa_nil))))
        (sb_cons (sx_set 6 S.nd (se_cal c_sums_of hr hgd (sa_cons (sv 0) (sa_cons (sv 2) (sa_nil))) (by omega)))
        (sb_one (sx_ret (se_tuple (by rfl) z_tuple (sa_cons (se_frz (sn_comp rfl S.nd (si_zip3S (by rfl) z_zip (sa_cons (sv 4) (sa_cons (sv 6) (sa_cons (sv 5) (sa_nil))))) (bk_by (own := [("one", 7), ("more", 8), ("other", 9)]) (by rfl)) (fun _ _ _ _ _ => sg_tup rfl (sgs_cons (sg_nm 7 S.nd) (sgs_cons (sg_nm 8 S.nd) (sgs_cons (sg_nm 9 S.nd) (sgs_nil))))) (fun _ _ _ _ _ => sts_nil) (fun _ _ _ _ _ => se_sub (se_add (sv 7) (se_mul (sv 3) (sv 8))) (sv 9)) (by decide))) (sa_nil))))))
end
abbrev s_law_same : Stmt := topS 27
theorem sc_law_same : FnScope ["_law_found", "_law_due", "_law_one", "_law_other"] ["_law_found", "_law_due"] (defScope s_law_same) := ⟨rfl, rfl, rfl, by decide +kernel, rfl, by decide +kernel, by decide +kernel⟩
section
variable {P : Program} {w : World} {K : PySem.W.Frag} {mg : Str → Option Value} {base : Heap}
theorem ok_law_same {fa : Addr} {fd : FuncData} (F : Fun K "_law_same" "_law_same" s_law_same fa fd) (hm : mg "_law_same" = some (.ref fa)) (z_isinstance : mg "isinstance" = none) (z_list : mg "list" = none) (z_tuple : mg "tuple" = none) (z_len : mg "len" = none) (z_zip : mg "zip" = none) (z_all : mg "all" = none) (z_str : mg "str" = none) (z_int : mg "int" = none) (z_bool : mg "bool" = none) : ∀ n : Nat, Cal P w K mg base (0 + n) "_law_same" ["_law_found", "_law_due"] (f_law_same n)
  | 0 => ⟨fa, fd, fn_no fun _ _ => rfl, hm, F.kp, F.binds (ps := ["_law_found", "_law_due"]) fun _ _ _ _ _ _ us hl => match us, hl with | [_, _], _ => rfl⟩
  | n + 1 => by
    have self := ok_law_same F hm z_isinstance z_list z_tuple z_len z_zip z_all z_str z_int z_bool n
    refine ⟨fa, fd, fn_by (k := 0 + n) false 2 4 (b_law_same (f_law_same n)) rfl F sc_law_same rfl rfl fun cdv A outer s H E hr hgd => ?_, hm, F.kp, F.binds (ps := ["_law_found", "_law_due"]) fun _ _ _ _ _ _ us hl => match us, hl with | [_, _], _ => rfl⟩
    have S := sc_law_same
    unfold b_law_same
    exact sb_cons (sx_if (st_val (se_isi2 (by rfl) z_isinstance (by rfl) z_list (by rfl) (by decide) (by rfl) z_tuple (by rfl) (by decide) (sv 1))) (sb_cons (sx_if (SW.st (sw_or (st_ne hr (se_isi (by rfl) z_isinstance (by rfl) z_list (by rfl) (by decide) (sv 0)) (se_isi (by rfl) z_isinstance (by rfl) z_list (by rfl) (by decide) (sv 1))) (sw_or1 (st_ne hr (se_isi (by rfl) z_isinstance (by rfl) z_tuple (by rfl) (by decide) (sv 0)) (se_isi (by rfl) z_isinstance (by rfl) z_tuple (by rfl) (by decide) (sv 1)))))) (sb_one (sx_ret (se_bl))) (sb_nil))
        (sb_one (sx_ret (se_and (se_eq hr (se_len (by rfl) z_len (sa_cons (sv 0) (sa_nil))) (se_len (by rfl) z_len (sa_cons (sv 1) (sa_nil)))) (se_one (se_all rfl (by rfl) z_all (sa_cons (se_frz (sn_comp rfl S.nd (si_zip (by rfl) z_zip (sa_cons (sv 0) (sa_cons (sv 1) (sa_nil)))) (bk_by (own := [("_law_one", 2), ("_law_other", 3)]) (by rfl)) (fun _ _ _ _ _ => sg_tup rfl (sgs_cons (sg_nm 2 S.nd) (sgs_cons (sg_nm 3 S.nd) (sgs_nil)))) (fun _ _ _ _ _ => sts_nil) (fun _ _ _ _ _ => se_cal self hr hgd (sa_cons (sv 2) (sa_cons (sv 3) (sa_nil))) (by omega)) (by decide))) (sa_nil)))))))) (sb_nil))
        (sb_cons (sx_if (SW.st (sw_or (st_isN (sv 1) (se_non)) (sw_or1 (st_val (se_isi (by rfl) z_isinstance (by rfl) z_str (by rfl) (by decide) (sv 1)))))) (sb_one (sx_ret (se_and (se_eq hr (sv 0) (sv 1)) (se_one (se_eq hr (se_isi (by rfl) z_isinstance (by rfl) z_str (by rfl) (by decide) (sv 0)) (se_isi (by rfl) z_isinstance (by rfl) z_str (by rfl) (by decide) (sv 1))))))) (sb_nil))
        (sb_one (sx_ret (se_and (se_isi (by rfl) z_isinstance (by rfl) z_int (by rfl) (by decide) (sv 0)) (se_and (se_eq hr (se_isi (by rfl) z_isinstance (by rfl) z_bool (by rfl) (by decide) (sv 0)) (se_isi (by rfl) z_isinstance (by rfl) z_bool (by rfl) (by decide) (sv 1))) (se_one (se_eq hr (sv 0) (sv 1))))))))
end
abbrev s_law_right : Stmt := topS 33
theorem sc_law_right : FnScope ["_law_box_here", "_law_by", "_law_stair_here", "_law_lap_here", "_law_flat", "_law_turn", "_law_much", "_law_more", "_law_near", "_law_ran", "_law_last", "_law_all_ran", "_law_both", "_law_own", "_law_at", "_law_given", "_law_least", "_law_most", "_law_size", "_law_half", "_law_one", "_law_other"] ["_law_box_here"] (defScope s_law_right) := ⟨rfl, rfl, rfl, by decide +kernel, rfl, by decide +kernel, by decide +kernel⟩
noncomputable def b_law_right_s1 : SS := sSet 2 (eCall f_law_stair (aCons (eVar 0) (aCons (eC (.int 6)) (aCons (eVar 1) (aNil)))))
noncomputable def b_law_right_s2 : SS := sSet 3 (eBin oIx (eCall f_law_lap (aCons (eVar 0) (aCons (eFn bLen (aCons (eVar 2) (aNil))) (aCons (eC (.int 10)) (aCons (eVar 1) (aNil)))))) (eC (.int 0)))
noncomputable def b_law_right_c1 : ES := eBin oSub (eVar 17) (eBin oMul (eVar 1) (eCall (f_law_take 8) (aCons (eVar 0) (aCons (eBin oIx (eFrz (nLst (aCons (eC (.int 3)) (aCons (eC (.int 40)) (aNil))))) (eCall (f_law_take 8) (aCons (eVar 0) (aCons (eC (.int 2)) (aNil))))) (aNil)))))
noncomputable def b_law_right_s3 : SS := sSet 4 (eFn bTuple (aCons (eFrz (nComp (iOf (eVar 2)) [16, 17, 18] (.tp [.nm 16, .nm 17, .nm 18]) (tTrue) (b_law_right_c1))) (aNil)))
noncomputable def b_law_right_c2 : ES := eCall (f_law_take 8) (aCons (eVar 0) (aCons (eBin oIx (eFrz (nLst (aCons (eC (.int 9)) (aCons (eBin oPow (eC (.int 10)) (eC (.int 6))) (aCons (eBin oMul (eC (.int 5)) (eBin oPow (eC (.int 10)) (eC (.int 17)))) (aNil)))))) (eCall (f_law_take 8) (aCons (eVar 0) (aCons (eC (.int 3)) (aNil))))) (aNil)))
noncomputable def b_law_right_s4 : SS := sAsg (eFrz (nComp (iRange1 (aCons (eC (.int 2)) (aNil))) [19] (.nm 19) (tTrue) (b_law_right_c2))) (gT (.tp [.nm 6, .nm 7]))
noncomputable def b_law_right_s5 : SS := sPar [8, 9] (aCons (eCall f_far_levels (aCons (eVar 2) (aCons (eVar 4) (aCons (eVar 3) (aCons (eVar 6) (aNil)))))) (aCons (eCall f_ran_over (aCons (eVar 2) (aCons (eVar 4) (aCons (eVar 3) (aCons (eVar 6) (aNil)))))) (aNil)))
noncomputable def b_law_right_s6 : SS := sPar [10, 11] (aCons (eCall f_far_levels (aCons (eVar 2) (aCons (eVar 4) (aCons (eVar 3) (aCons (eBin oAdd (eVar 6) (eVar 7)) (aNil)))))) (aCons (eCall f_ran_over (aCons (eVar 2) (aCons (eVar 4) (aCons (eVar 3) (aCons (eBin oAdd (eVar 6) (eVar 7)) (aNil)))))) (aNil)))
noncomputable def b_law_right_c3 : ES := eBin oLt (eVar 20) (eC (.int 0))
noncomputable def b_law_right_s7 : SS := sIf (tOr (tNot (tVal (eCall (f_law_same 10) (aCons (eFrz (nLst (aCons (eCall f_far_levels (aCons (eVar 2) (aCons (eVar 8) (aCons (eVar 3) (aCons (eVar 7) (aNil)))))) (aNil)))) (aCons (eFrz (nLst (aCons (eVar 10) (aNil)))) (aNil)))))) (tVal (eFn bAny (aCons (eFrz (nComp (iOf (eVar 11)) [20] (.nm 20) (tTrue) (b_law_right_c3))) (aNil))))) (sRet (eC (.bl false))) (sNx)
noncomputable def b_law_right_c4 : ES := eBin oAdd (eVar 20) (eVar 21)
noncomputable def b_law_right_s8 : SS := sSet 12 (eFn bTuple (aCons (eFrz (nComp (iZip false (aCons (eVar 9) (aCons (eCall f_ran_over (aCons (eVar 2) (aCons (eVar 8) (aCons (eVar 3) (aCons (eVar 7) (aNil)))))) (aNil)))) [20, 21] (.tp [.nm 20, .nm 21]) (tTrue) (b_law_right_c4))) (aNil)))
noncomputable def b_law_right_s9 : SS := sIf (tNot (tVal (eCall (f_law_same 10) (aCons (eVar 11) (aCons (eVar 12) (aNil)))))) (sRet (eC (.bl false))) (sNx)
noncomputable def b_law_right_s10 : SS := sSet 13 (eCall f_law_own_sums (aCons (eVar 2) (aCons (eVar 3) (aNil))))
noncomputable def b_law_right_s11 : SS := sSet 15 (eBin oSub (eBin oIx (eBin oAdd (eFrz (nListOf (aCons (eVar 11) (aNil)))) (eFrz (nLst (aCons (eC (.int 0)) (aNil))))) (eBin oAdd (eVar 14) (eC (.int 1)))) (eBin oIx (eVar 11) (eVar 14)))
noncomputable def b_law_right_s12 : SS := sIf (tOr (tVal (eBin oNe (eBin oIx (eVar 10) (eVar 14)) (eBin oAdd (eBin oAdd (eBin oIx (eVar 4) (eVar 14)) (eBin oMul (eBin oAdd (eVar 6) (eVar 7)) (eBin oIx (eVar 13) (eVar 14)))) (eVar 15)))) (tVal (eBin oGt (eBin oIx (eVar 10) (eVar 14)) (eBin oIx (eBin oIx (eVar 2) (eVar 14)) (eC (.int 1)))))) (sRet (eC (.bl false))) (sNx)
noncomputable def b_law_right_l1 : SS := sSeq (b_law_right_s11)
  (b_law_right_s12)
noncomputable def b_law_right_s13 : SS := sFor (iRange1 (aCons (eFn bLen (aCons (eVar 2) (aNil))) (aNil))) (.nm 14) (b_law_right_l1)
noncomputable def b_law_right_s14 : SS := sIf (tNot (tVal (eCall (f_law_same 10) (aCons (eCall f_far_levels (aCons (eVar 2) (aCons (eVar 4) (aCons (eBin oAdd (eVar 3) (eVar 3)) (aCons (eVar 6) (aNil)))))) (aCons (eCall f_far_levels (aCons (eVar 2) (aCons (eVar 4) (aCons (eVar 3) (aCons (eBin oMul (eC (.int 2)) (eVar 6)) (aNil)))))) (aNil)))))) (sRet (eC (.bl false))) (sNx)
noncomputable def b_law_right_l2 : SS := sSeq (b_law_right_s4)
  (sSeq (b_law_right_s5)
  (sSeq (b_law_right_s6)
  (sSeq (b_law_right_s7)
  (sSeq (b_law_right_s8)
  (sSeq (b_law_right_s9)
  (sSeq (b_law_right_s10)
  (sSeq (b_law_right_s13)
  (b_law_right_s14))))))))
noncomputable def b_law_right_s15 : SS := sFor (iRange1 (aCons (eC (.int 3)) (aNil))) (.nm 5) (b_law_right_l2)
noncomputable def b_law_right : SS := sSeq (sSet 1 (eCall f_law_great (aCons (eVar 0) (aNil))))
  (sSeq (b_law_right_s1)
  (sSeq (b_law_right_s2)
  (sSeq (b_law_right_s3)
  (sSeq (b_law_right_s15)
  (sRet (eC (.bl true)))))))
noncomputable def f_law_right : Fn := mkFn false 1 22 b_law_right
section
variable {P : Program} {w : World} {K : PySem.W.Frag} {mg : Str → Option Value} {base : Heap}
theorem ok_law_right {fa : Addr} {fd : FuncData} (F : Fun K "_law_right" "_law_right" s_law_right fa fd) (hm : mg "_law_right" = some (.ref fa)) (z_len : mg "len" = none) (z_tuple : mg "tuple" = none) (z_range : mg "range" = none) (z_any : mg "any" = none) (z_zip : mg "zip" = none) (z_list : mg "list" = none) (c_law_great : Cal P w K mg base 9 "_law_great" ["_law_box_here"] f_law_great) (c_law_stair : Cal P w K mg base 9 "_law_stair" ["_law_box_here", "_law_cap", "_law_by"] f_law_stair) (c_law_lap : Cal P w K mg base 9 "_law_lap" ["_law_box_here", "_law_many", "_law_cap", "_law_by"] f_law_lap) (c_law_take : Cal P w K mg base 8 "_law_take" ["_law_box_here", "_law_size"] (f_law_take 8)) (c_ran_over : Cal P w K mg base 6 "ran_over" ["stair", "levels", "round_deeds", "many"] f_ran_over) (c_far_levels : Cal P w K mg base 6 "far_levels" ["stair", "levels", "round_deeds", "many"] f_far_levels) (c_law_same : Cal P w K mg base 10 "_law_same" ["_law_found", "_law_due"] (f_law_same 10)) (c_law_own_sums : Cal P w K mg base 2 "_law_own_sums" ["_law_stair_here", "_law_lap_here"] f_law_own_sums) : Cal P w K mg base 11 "_law_right" ["_law_box_here"] f_law_right := by
  refine ⟨fa, fd, fn_by (k := 10) false 1 22 b_law_right rfl F sc_law_right rfl rfl fun cdv A outer s H E hr hgd => ?_, hm, F.kp, F.binds (ps := ["_law_box_here"]) fun _ _ _ _ _ _ us hl => match us, hl with | [_], _ => rfl⟩
  have S := sc_law_right
  unfold b_law_right b_law_right_s15 b_law_right_l2 b_law_right_s14 b_law_right_s13 b_law_right_l1 b_law_right_s12 b_law_right_s11 b_law_right_s10 b_law_right_s9 b_law_right_s8 b_law_right_c4 b_law_right_s7 b_law_right_c3 b_law_right_s6 b_law_right_s5 b_law_right_s4 b_law_right_c2 b_law_right_s3 b_law_right_c1 b_law_right_s2 b_law_right_s1
  exact sb_cons (sx_set 1 S.nd (se_cal c_law_great hr hgd (sa_cons (sv 0) (sa_nil)) (by omega)))
        (sb_cons (sx_set 2 S.nd (se_cal c_law_stair hr hgd (sa_cons (sv 0) (sa_cons (se_int) (sa_cons (sv 1) (sa_nil)))) (by omega)))
        (sb_cons (sx_set 3 S.nd (se_ix (se_cal c_law_lap hr hgd (sa_cons (sv 0) (sa_cons (se_len (by rfl) z_len (sa_cons (sv 2) (sa_nil))) (sa_cons (se_int) (sa_cons (sv 1) (sa_nil))))) (by omega)) (se_int)))
        (sb_cons (sx_set 4 S.nd (se_tuple (by rfl) z_tuple (sa_cons (se_frz (sn_comp rfl S.nd (si_seq (sv 2)) (bk_by (own := [("_law_least", 16), ("_law_most", 17), ("_law_size", 18)]) (by rfl)) (fun _ _ _ _ _ => sg_tup rfl (sgs_cons (sg_nm 16 S.nd) (sgs_cons (sg_nm 17 S.nd) (sgs_cons (sg_nm 18 S.nd) (sgs_nil))))) (fun _ _ _ _ _ => sts_nil) (fun _ _ _ _ _ => se_sub (sv 17) (se_mul (sv 1) (se_cal c_law_take hr hgd (sa_cons (sv 0) (sa_cons (se_ix (se_frz (sn_lst (sa_cons (se_int) (sa_cons (se_int) (sa_nil))))) (se_cal c_law_take hr hgd (sa_cons (sv 0) (sa_cons (se_int) (sa_nil))) (by omega))) (sa_nil))) (by omega)))) (by decide))) (sa_nil))))
        (sb_cons (sx_for PassesOwn.never rfl (si_range1 (by rfl) z_range (sa_cons (se_int) (sa_nil))) (sg_nm 5 S.nd) (sb_cons (sx_asg (se_frz (sn_comp rfl S.nd (si_range1 (by rfl) z_range (sa_cons (se_int) (sa_nil))) (bk_by (own := [("_law_half", 19)]) (by rfl)) (fun _ _ _ _ _ => sg_nm 19 S.nd) (fun _ _ _ _ _ => sts_nil) (fun _ _ _ _ _ => se_cal c_law_take hr hgd (sa_cons (sv 0) (sa_cons (se_ix (se_frz (sn_lst (sa_cons (se_int) (sa_cons (se_pow (se_int) (se_int)) (sa_cons (se_mul (se_int) (se_pow (se_int) (se_int))) (sa_nil)))))) (se_cal c_law_take hr hgd (sa_cons (sv 0) (sa_cons (se_int) (sa_nil))) (by omega))) (sa_nil))) (by omega)) (by decide))) (tg_of (sg_tup rfl (sgs_cons (sg_nm 6 S.nd) (sgs_cons (sg_nm 7 S.nd) (sgs_nil))))))
        (sb_cons (sx_par 8 9 rfl S.nd (sa_cons (se_cal c_far_levels hr hgd (sa_cons (sv 2) (sa_cons (sv 4) (sa_cons (sv 3) (sa_cons (sv 6) (sa_nil))))) (by omega)) (sa_cons (se_cal c_ran_over hr hgd (sa_cons (sv 2) (sa_cons (sv 4) (sa_cons (sv 3) (sa_cons (sv 6) (sa_nil))))) (by omega)) (sa_nil))))
        (sb_cons (sx_par 10 11 rfl S.nd (sa_cons (se_cal c_far_levels hr hgd (sa_cons (sv 2) (sa_cons (sv 4) (sa_cons (sv 3) (sa_cons (se_add (sv 6) (sv 7)) (sa_nil))))) (by omega)) (sa_cons (se_cal c_ran_over hr hgd (sa_cons (sv 2) (sa_cons (sv 4) (sa_cons (sv 3) (sa_cons (se_add (sv 6) (sv 7)) (sa_nil))))) (by omega)) (sa_nil))))
        (sb_cons (sx_if (SW.st (sw_or (st_not (st_val (se_cal c_law_same hr hgd (sa_cons (se_frz (sn_lst (sa_cons (se_cal c_far_levels hr hgd (sa_cons (sv 2) (sa_cons (sv 8) (sa_cons (sv 3) (sa_cons (sv 7) (sa_nil))))) (by omega)) (sa_nil)))) (sa_cons (se_frz (sn_lst (sa_cons (sv 10) (sa_nil)))) (sa_nil))) (by omega)))) (sw_or1 (st_val (se_any rfl (by rfl) z_any (sa_cons (se_frz (sn_comp rfl S.nd (si_seq (sv 11)) (bk_by (own := [("_law_one", 20)]) (by rfl)) (fun _ _ _ _ _ => sg_nm 20 S.nd) (fun _ _ _ _ _ => sts_nil) (fun _ _ _ _ _ => se_lt (sv 20) (se_int)) (by decide))) (sa_nil))))))) (sb_one (sx_ret (se_bl))) (sb_nil))
        (sb_cons (sx_set 12 S.nd (se_tuple (by rfl) z_tuple (sa_cons (se_frz (sn_comp rfl S.nd (si_zip (by rfl) z_zip (sa_cons (sv 9) (sa_cons (se_cal c_ran_over hr hgd (sa_cons (sv 2) (sa_cons (sv 8) (sa_cons (sv 3) (sa_cons (sv 7) (sa_nil))))) (by omega)) (sa_nil)))) (bk_by (own := [("_law_one", 20), ("_law_other", 21)]) (by rfl)) (fun _ _ _ _ _ => sg_tup rfl (sgs_cons (sg_nm 20 S.nd) (sgs_cons (sg_nm 21 S.nd) (sgs_nil)))) (fun _ _ _ _ _ => sts_nil) (fun _ _ _ _ _ => se_add (sv 20) (sv 21)) (by decide))) (sa_nil))))
        (sb_cons (sx_if (st_not (st_val (se_cal c_law_same hr hgd (sa_cons (sv 11) (sa_cons (sv 12) (sa_nil))) (by omega)))) (sb_one (sx_ret (se_bl))) (sb_nil))
        (sb_cons (sx_set 13 S.nd (se_cal c_law_own_sums hr hgd (sa_cons (sv 2) (sa_cons (sv 3) (sa_nil))) (by omega)))
        (sb_cons (sx_for PassesOwn.never rfl (si_range1 (by rfl) z_range (sa_cons (se_len (by rfl) z_len (sa_cons (sv 2) (sa_nil))) (sa_nil))) (sg_nm 14 S.nd) (sb_cons (sx_set 15 S.nd (se_sub (se_ix (se_add (se_frz (sn_list (by rfl) z_list (sa_cons (sv 11) (sa_nil)))) (se_frz (sn_lst (sa_cons (se_int) (sa_nil))))) (se_add (sv 14) (se_int))) (se_ix (sv 11) (sv 14))))
        (sb_one (sx_if (SW.st (sw_or (st_ne hr (se_ix (sv 10) (sv 14)) (se_add (se_add (se_ix (sv 4) (sv 14)) (se_mul (se_add (sv 6) (sv 7)) (se_ix (sv 13) (sv 14)))) (sv 15))) (sw_or1 (st_gt (se_ix (sv 10) (sv 14)) (se_ix (se_ix (sv 2) (sv 14)) (se_int)))))) (sb_one (sx_ret (se_bl))) (sb_nil)))))
        (sb_one (sx_if (st_not (st_val (se_cal c_law_same hr hgd (sa_cons (se_cal c_far_levels hr hgd (sa_cons (sv 2) (sa_cons (sv 4) (sa_cons (se_add (sv 3) (sv 3)) (sa_cons (sv 6) (sa_nil))))) (by omega)) (sa_cons (se_cal c_far_levels hr hgd (sa_cons (sv 2) (sa_cons (sv 4) (sa_cons (sv 3) (sa_cons (se_mul (se_int) (sv 6)) (sa_nil))))) (by omega)) (sa_nil))) (by omega)))) (sb_one (sx_ret (se_bl))) (sb_nil))))))))))))
        (sb_one (sx_ret (se_bl)))))))
end
abbrev s_law_box : Stmt := topS 24
theorem sc_law_box : FnScope ["_law_script", "_law_k", "_law_cell"] ["_law_script", "_law_k"] (defScope s_law_box) := ⟨rfl, rfl, rfl, by decide +kernel, rfl, by decide +kernel, by decide +kernel⟩
section
variable {P : Program} {w : World} {K : PySem.W.Frag} {mg : Str → Option Value} {base : Heap}
theorem ok_law_box {fa : Addr} {fd : FuncData} (F : Fun K "_law_box" "_law_box" s_law_box fa fd) (hm : mg "_law_box" = some (.ref fa)) (z_len : mg "len" = none) (z_abs : mg "abs" = none) (z_int : mg "int" = none) : Cal P w K mg base 1 "_law_box" ["_law_script", "_law_k"] f_law_box := by
  refine ⟨fa, fd, fn_by (k := 0) true 2 3 b_law_box rfl F sc_law_box rfl rfl fun cdv A outer s H E hr hgd => ?_, hm, F.kp, F.binds (ps := ["_law_script", "_law_k"]) fun _ _ _ _ _ _ us hl => match us, hl with | [_, _], _ => rfl⟩
  have S := sc_law_box
  unfold b_law_box
  exact sb_cons (sx_set 2 S.nd (se_if (st_lt (sv 1) (se_len (by rfl) z_len (sa_cons (sv 0) (sa_nil)))) (se_ix (sv 0) (sv 1)) (se_int)))
        (sb_one (sx_ret (se_thw (sn_lst (sa_cons (se_mul (se_abs (by rfl) z_abs (sa_cons (sv 2) (sa_nil))) (se_bint (by rfl) z_int (sa_cons (se_ge (se_abs (by rfl) z_abs (sa_cons (sv 2) (sa_nil))) (se_pow (se_int) (se_int))) (sa_nil)))) (sa_cons (se_mod (se_mul (se_add (se_add (se_mod (sv 2) (se_int)) (se_mul (se_int) (sv 1))) (se_int)) (se_int)) (se_int)) (sa_cons (se_int) (sa_nil))))))))
end
abbrev s_law : Stmt := topS 34
theorem sc_law : FnScope ["_law_script", "_law_cells", "_law_k"] ["_law_script"] (defScope s_law) := ⟨rfl, rfl, rfl, by decide +kernel, rfl, by decide +kernel, by decide +kernel⟩
noncomputable def b_law_s1 : SS := sSet 1 (eCall f_law_folded (aCons (eVar 0) (aCons (eC (.int 3)) (aNil))))
noncomputable def b_law_c1 : ES := eCall f_law_right (aCons (eCall f_law_box (aCons (eVar 1) (aCons (eVar 2) (aNil)))) (aNil))
noncomputable def b_law_s2 : SS := sRet (eFn bAll (aCons (eFrz (nComp (iRange1 (aCons (eFn bMax (aCons (eC (.int 2)) (aCons (eFn bLen (aCons (eVar 1) (aNil))) (aNil)))) (aNil))) [2] (.nm 2) (tTrue) (b_law_c1))) (aNil)))
noncomputable def b_law : SS := sSeq (b_law_s1)
  (b_law_s2)
noncomputable def f_law : Fn := mkFn false 1 3 b_law
section
variable {P : Program} {w : World} {K : PySem.W.Frag} {mg : Str → Option Value} {base : Heap}
theorem ok_law {fa : Addr} {fd : FuncData} (F : Fun K "law" "law" s_law fa fd) (hm : mg "law" = some (.ref fa)) (z_len : mg "len" = none) (z_max : mg "max" = none) (z_range : mg "range" = none) (z_all : mg "all" = none) (c_law_folded : Cal P w K mg base 1 "_law_folded" ["_law_script", "_law_size"] f_law_folded) (c_law_box : Cal P w K mg base 1 "_law_box" ["_law_script", "_law_k"] f_law_box) (c_law_right : Cal P w K mg base 11 "_law_right" ["_law_box_here"] f_law_right) : FnG P w K mg base CX0 12 fa fd ["_law_script"] (spF ⟨K, mg⟩ f_law) := by
  refine fn_by (k := 11) false 1 3 b_law rfl F sc_law rfl rfl fun cdv A outer s H E hr hgd => ?_
  have S := sc_law
  unfold b_law b_law_s2 b_law_c1 b_law_s1
  exact sb_cons (sx_set 1 S.nd (se_cal c_law_folded hr hgd (sa_cons (sv 0) (sa_cons (se_int) (sa_nil))) (by omega)))
        (sb_one (sx_ret (se_all rfl (by rfl) z_all (sa_cons (se_frz (sn_comp rfl S.nd (si_range1 (by rfl) z_range (sa_cons (se_max rfl (by rfl) z_max (sa_cons (se_int) (sa_cons (se_len (by rfl) z_len (sa_cons (sv 1) (sa_nil))) (sa_nil)))) (sa_nil))) (bk_by (own := [("_law_k", 2)]) (by rfl)) (fun _ _ _ _ _ => sg_nm 2 S.nd) (fun _ _ _ _ _ => sts_nil) (fun _ _ _ _ _ => se_cal c_law_right hr hgd (sa_cons (se_cal c_law_box hr hgd (sa_cons (sv 1) (sa_cons (sv 2) (sa_nil))) (by omega)) (sa_nil)) (by omega)) (by decide))) (sa_nil)))))
end
theorem all_mk (hlaw : ∀ ns : List Int, ns.length ≤ 63 → ∃ M', f_law [.scr ns] [] = .ok (.bl true) M') {l : PySem.W.OpenLaw} {w : World} {K : PySem.W.Frag} {h : Heap} {mg : Str → Option Value} {fa f0 f1 f2 f3 f4 f5 f6 f7 f8 f9 f10 f11 f12 f13 f14 f15 f16 f17 f18 f19 f20 f21 f22 f23 f24 f25 f26 : Addr} (X : K.In h) (G : h.Ns mainGlobals mg) (hfa : mg "law" = some (.ref fa))
    {od0 an0 od1 an1 od2 an2 od3 an3 od4 an4 od5 an5 od6 an6 od7 an7 od8 an8 od9 an9 od10 an10 od11 an11 od12 an12 od13 an13 od14 an14 od15 an15 od16 an16 od17 an17 od18 an18 od19 an19 od20 an20 od21 an21 od22 an22 od23 an23 od24 an24 od25 an25 od26 an26 : Option Addr} {sl0 sl1 sl2 sl3 sl4 sl5 sl6 sl7 sl8 sl9 sl10 sl11 sl12 sl13 sl14 sl15 sl16 sl17 sl18 sl19 sl20 sl21 sl22 sl23 sl24 sl25 sl26 : Array (Option Value)} {oc0 kV0 dc0 pm0 ct0 cd0 oc1 kV1 dc1 pm1 ct1 cd1 oc2 kV2 dc2 pm2 ct2 cd2 oc3 kV3 dc3 pm3 ct3 cd3 oc4 kV4 dc4 pm4 ct4 cd4 oc5 kV5 dc5 pm5 ct5 cd5 oc6 kV6 dc6 pm6 ct6 cd6 oc7 kV7 dc7 pm7 ct7 cd7 oc8 kV8 dc8 pm8 ct8 cd8 oc9 kV9 dc9 pm9 ct9 cd9 oc10 kV10 dc10 pm10 ct10 cd10 oc11 kV11 dc11 pm11 ct11 cd11 oc12 kV12 dc12 pm12 ct12 cd12 oc13 kV13 dc13 pm13 ct13 cd13 oc14 kV14 dc14 pm14 ct14 cd14 oc15 kV15 dc15 pm15 ct15 cd15 oc16 kV16 dc16 pm16 ct16 cd16 oc17 kV17 dc17 pm17 ct17 cd17 oc18 kV18 dc18 pm18 ct18 cd18 oc19 kV19 dc19 pm19 ct19 cd19 oc20 kV20 dc20 pm20 ct20 cd20 oc21 kV21 dc21 pm21 ct21 cd21 oc22 kV22 dc22 pm22 ct22 cd22 oc23 kV23 dc23 pm23 ct23 cd23 oc24 kV24 dc24 pm24 ct24 cd24 oc25 kV25 dc25 pm25 ct25 cd25 oc26 kV26 dc26 pm26 ct26 cd26 : Value}
    (a0 : PySem.W.nsIn K mainGlobals "_law_folded" = some (some (.ref f0))) (l0 : K.lookup f0 = some ⟨oc0, od0, .func (PySem.W.fnOf "_law_folded" "_law_folded" (defArgs s_law_folded) (defBody s_law_folded) (defScope s_law_folded) .none kV0 dc0 pm0 an0 cd0 ct0), sl0⟩) (c0 : PySem.W.codeIn K cd0 "_law_folded" = true) (k0 : PySem.W.keepIn K (.ref f0) = true)
    (a1 : PySem.W.nsIn K mainGlobals "_law_take" = some (some (.ref f1))) (l1 : K.lookup f1 = some ⟨oc1, od1, .func (PySem.W.fnOf "_law_take" "_law_take" (defArgs s_law_take) (defBody s_law_take) (defScope s_law_take) .none kV1 dc1 pm1 an1 cd1 ct1), sl1⟩) (c1 : PySem.W.codeIn K cd1 "_law_take" = true) (k1 : PySem.W.keepIn K (.ref f1) = true)
    (a2 : PySem.W.nsIn K mainGlobals "_law_great" = some (some (.ref f2))) (l2 : K.lookup f2 = some ⟨oc2, od2, .func (PySem.W.fnOf "_law_great" "_law_great" (defArgs s_law_great) (defBody s_law_great) (defScope s_law_great) .none kV2 dc2 pm2 an2 cd2 ct2), sl2⟩) (c2 : PySem.W.codeIn K cd2 "_law_great" = true) (k2 : PySem.W.keepIn K (.ref f2) = true)
    (a3 : PySem.W.nsIn K mainGlobals "_law_stair" = some (some (.ref f3))) (l3 : K.lookup f3 = some ⟨oc3, od3, .func (PySem.W.fnOf "_law_stair" "_law_stair" (defArgs s_law_stair) (defBody s_law_stair) (defScope s_law_stair) .none kV3 dc3 pm3 an3 cd3 ct3), sl3⟩) (c3 : PySem.W.codeIn K cd3 "_law_stair" = true) (k3 : PySem.W.keepIn K (.ref f3) = true)
    (a4 : PySem.W.nsIn K mainGlobals "_law_lap" = some (some (.ref f4))) (l4 : K.lookup f4 = some ⟨oc4, od4, .func (PySem.W.fnOf "_law_lap" "_law_lap" (defArgs s_law_lap) (defBody s_law_lap) (defScope s_law_lap) .none kV4 dc4 pm4 an4 cd4 ct4), sl4⟩) (c4 : PySem.W.codeIn K cd4 "_law_lap" = true) (k4 : PySem.W.keepIn K (.ref f4) = true)
    (a5 : PySem.W.nsIn K mainGlobals "_law_sums" = some (some (.ref f5))) (l5 : K.lookup f5 = some ⟨oc5, od5, .func (PySem.W.fnOf "_law_sums" "_law_sums" (defArgs s_law_sums) (defBody s_law_sums) (defScope s_law_sums) .none kV5 dc5 pm5 an5 cd5 ct5), sl5⟩) (c5 : PySem.W.codeIn K cd5 "_law_sums" = true) (k5 : PySem.W.keepIn K (.ref f5) = true)
    (a6 : PySem.W.nsIn K mainGlobals "_law_own_sums" = some (some (.ref f6))) (l6 : K.lookup f6 = some ⟨oc6, od6, .func (PySem.W.fnOf "_law_own_sums" "_law_own_sums" (defArgs s_law_own_sums) (defBody s_law_own_sums) (defScope s_law_own_sums) .none kV6 dc6 pm6 an6 cd6 ct6), sl6⟩) (c6 : PySem.W.codeIn K cd6 "_law_own_sums" = true) (k6 : PySem.W.keepIn K (.ref f6) = true)
    (a7 : PySem.W.nsIn K mainGlobals "levels_of" = some (some (.ref f7))) (l7 : K.lookup f7 = some ⟨oc7, od7, .func (PySem.W.fnOf "levels_of" "levels_of" (defArgs s_levels_of) (defBody s_levels_of) (defScope s_levels_of) .none kV7 dc7 pm7 an7 cd7 ct7), sl7⟩) (c7 : PySem.W.codeIn K cd7 "levels_of" = true) (k7 : PySem.W.keepIn K (.ref f7) = true)
    (a8 : PySem.W.nsIn K mainGlobals "totals_of" = some (some (.ref f8))) (l8 : K.lookup f8 = some ⟨oc8, od8, .func (PySem.W.fnOf "totals_of" "totals_of" (defArgs s_totals_of) (defBody s_totals_of) (defScope s_totals_of) .none kV8 dc8 pm8 an8 cd8 ct8), sl8⟩) (c8 : PySem.W.codeIn K cd8 "totals_of" = true) (k8 : PySem.W.keepIn K (.ref f8) = true)
    (a9 : PySem.W.nsIn K mainGlobals "led" = some (some (.ref f9))) (l9 : K.lookup f9 = some ⟨oc9, od9, .func (PySem.W.fnOf "led" "led" (defArgs s_led) (defBody s_led) (defScope s_led) .none kV9 dc9 pm9 an9 cd9 ct9), sl9⟩) (c9 : PySem.W.codeIn K cd9 "led" = true) (k9 : PySem.W.keepIn K (.ref f9) = true)
    (a10 : PySem.W.nsIn K mainGlobals "behind" = some (some (.ref f10))) (l10 : K.lookup f10 = some ⟨oc10, od10, .func (PySem.W.fnOf "behind" "behind" (defArgs s_behind) (defBody s_behind) (defScope s_behind) .none kV10 dc10 pm10 an10 cd10 ct10), sl10⟩) (c10 : PySem.W.codeIn K cd10 "behind" = true) (k10 : PySem.W.keepIn K (.ref f10) = true)
    (a11 : PySem.W.nsIn K mainGlobals "power" = some (some (.ref f11))) (l11 : K.lookup f11 = some ⟨oc11, od11, .func (PySem.W.fnOf "power" "power" (defArgs s_power) (defBody s_power) (defScope s_power) .none kV11 dc11 pm11 an11 cd11 ct11), sl11⟩) (c11 : PySem.W.codeIn K cd11 "power" = true) (k11 : PySem.W.keepIn K (.ref f11) = true)
    (a12 : PySem.W.nsIn K mainGlobals "over_table" = some (some (.ref f12))) (l12 : K.lookup f12 = some ⟨oc12, od12, .func (PySem.W.fnOf "over_table" "over_table" (defArgs s_over_table) (defBody s_over_table) (defScope s_over_table) .none kV12 dc12 pm12 an12 cd12 ct12), sl12⟩) (c12 : PySem.W.codeIn K cd12 "over_table" = true) (k12 : PySem.W.keepIn K (.ref f12) = true)
    (a13 : PySem.W.nsIn K mainGlobals "brought_by" = some (some (.ref f13))) (l13 : K.lookup f13 = some ⟨oc13, od13, .func (PySem.W.fnOf "brought_by" "brought_by" (defArgs s_brought_by) (defBody s_brought_by) (defScope s_brought_by) .none kV13 dc13 pm13 an13 cd13 ct13), sl13⟩) (c13 : PySem.W.codeIn K cd13 "brought_by" = true) (k13 : PySem.W.keepIn K (.ref f13) = true)
    (a14 : PySem.W.nsIn K mainGlobals "taken_by" = some (some (.ref f14))) (l14 : K.lookup f14 = some ⟨oc14, od14, .func (PySem.W.fnOf "taken_by" "taken_by" (defArgs s_taken_by) (defBody s_taken_by) (defScope s_taken_by) .none kV14 dc14 pm14 an14 cd14 ct14), sl14⟩) (c14 : PySem.W.codeIn K cd14 "taken_by" = true) (k14 : PySem.W.keepIn K (.ref f14) = true)
    (a15 : PySem.W.nsIn K mainGlobals "added" = some (some (.ref f15))) (l15 : K.lookup f15 = some ⟨oc15, od15, .func (PySem.W.fnOf "added" "added" (defArgs s_added) (defBody s_added) (defScope s_added) .none kV15 dc15 pm15 an15 cd15 ct15), sl15⟩) (c15 : PySem.W.codeIn K cd15 "added" = true) (k15 : PySem.W.keepIn K (.ref f15) = true)
    (a16 : PySem.W.nsIn K mainGlobals "deed_table" = some (some (.ref f16))) (l16 : K.lookup f16 = some ⟨oc16, od16, .func (PySem.W.fnOf "deed_table" "deed_table" (defArgs s_deed_table) (defBody s_deed_table) (defScope s_deed_table) .none kV16 dc16 pm16 an16 cd16 ct16), sl16⟩) (c16 : PySem.W.codeIn K cd16 "deed_table" = true) (k16 : PySem.W.keepIn K (.ref f16) = true)
    (a17 : PySem.W.nsIn K mainGlobals "table_of" = some (some (.ref f17))) (l17 : K.lookup f17 = some ⟨oc17, od17, .func (PySem.W.fnOf "table_of" "table_of" (defArgs s_table_of) (defBody s_table_of) (defScope s_table_of) .none kV17 dc17 pm17 an17 cd17 ct17), sl17⟩) (c17 : PySem.W.codeIn K cd17 "table_of" = true) (k17 : PySem.W.keepIn K (.ref f17) = true)
    (a18 : PySem.W.nsIn K mainGlobals "far_totals" = some (some (.ref f18))) (l18 : K.lookup f18 = some ⟨oc18, od18, .func (PySem.W.fnOf "far_totals" "far_totals" (defArgs s_far_totals) (defBody s_far_totals) (defScope s_far_totals) .none kV18 dc18 pm18 an18 cd18 ct18), sl18⟩) (c18 : PySem.W.codeIn K cd18 "far_totals" = true) (k18 : PySem.W.keepIn K (.ref f18) = true)
    (a19 : PySem.W.nsIn K mainGlobals "far_levels" = some (some (.ref f19))) (l19 : K.lookup f19 = some ⟨oc19, od19, .func (PySem.W.fnOf "far_levels" "far_levels" (defArgs s_far_levels) (defBody s_far_levels) (defScope s_far_levels) .none kV19 dc19 pm19 an19 cd19 ct19), sl19⟩) (c19 : PySem.W.codeIn K cd19 "far_levels" = true) (k19 : PySem.W.keepIn K (.ref f19) = true)
    (a20 : PySem.W.nsIn K mainGlobals "put_together" = some (some (.ref f20))) (l20 : K.lookup f20 = some ⟨oc20, od20, .func (PySem.W.fnOf "put_together" "put_together" (defArgs s_put_together) (defBody s_put_together) (defScope s_put_together) .none kV20 dc20 pm20 an20 cd20 ct20), sl20⟩) (c20 : PySem.W.codeIn K cd20 "put_together" = true) (k20 : PySem.W.keepIn K (.ref f20) = true)
    (a21 : PySem.W.nsIn K mainGlobals "sums_of" = some (some (.ref f21))) (l21 : K.lookup f21 = some ⟨oc21, od21, .func (PySem.W.fnOf "sums_of" "sums_of" (defArgs s_sums_of) (defBody s_sums_of) (defScope s_sums_of) .none kV21 dc21 pm21 an21 cd21 ct21), sl21⟩) (c21 : PySem.W.codeIn K cd21 "sums_of" = true) (k21 : PySem.W.keepIn K (.ref f21) = true)
    (a22 : PySem.W.nsIn K mainGlobals "ran_over" = some (some (.ref f22))) (l22 : K.lookup f22 = some ⟨oc22, od22, .func (PySem.W.fnOf "ran_over" "ran_over" (defArgs s_ran_over) (defBody s_ran_over) (defScope s_ran_over) .none kV22 dc22 pm22 an22 cd22 ct22), sl22⟩) (c22 : PySem.W.codeIn K cd22 "ran_over" = true) (k22 : PySem.W.keepIn K (.ref f22) = true)
    (a23 : PySem.W.nsIn K mainGlobals "_law_same" = some (some (.ref f23))) (l23 : K.lookup f23 = some ⟨oc23, od23, .func (PySem.W.fnOf "_law_same" "_law_same" (defArgs s_law_same) (defBody s_law_same) (defScope s_law_same) .none kV23 dc23 pm23 an23 cd23 ct23), sl23⟩) (c23 : PySem.W.codeIn K cd23 "_law_same" = true) (k23 : PySem.W.keepIn K (.ref f23) = true)
    (a24 : PySem.W.nsIn K mainGlobals "_law_right" = some (some (.ref f24))) (l24 : K.lookup f24 = some ⟨oc24, od24, .func (PySem.W.fnOf "_law_right" "_law_right" (defArgs s_law_right) (defBody s_law_right) (defScope s_law_right) .none kV24 dc24 pm24 an24 cd24 ct24), sl24⟩) (c24 : PySem.W.codeIn K cd24 "_law_right" = true) (k24 : PySem.W.keepIn K (.ref f24) = true)
    (a25 : PySem.W.nsIn K mainGlobals "_law_box" = some (some (.ref f25))) (l25 : K.lookup f25 = some ⟨oc25, od25, .func (PySem.W.fnOf "_law_box" "_law_box" (defArgs s_law_box) (defBody s_law_box) (defScope s_law_box) .none kV25 dc25 pm25 an25 cd25 ct25), sl25⟩) (c25 : PySem.W.codeIn K cd25 "_law_box" = true) (k25 : PySem.W.keepIn K (.ref f25) = true)
    (a26 : PySem.W.nsIn K mainGlobals "law" = some (some (.ref f26))) (l26 : K.lookup f26 = some ⟨oc26, od26, .func (PySem.W.fnOf "law" "law" (defArgs s_law) (defBody s_law) (defScope s_law) .none kV26 dc26 pm26 an26 cd26 ct26), sl26⟩) (c26 : PySem.W.codeIn K cd26 "law" = true) (k26 : PySem.W.keepIn K (.ref f26) = true)
    {t_EMPTY t_FILL : Tok} (g_EMPTY : PySem.W.nsIn K mainGlobals "EMPTY" = some (some (.str "empty" t_EMPTY))) (g_FILL : PySem.W.nsIn K mainGlobals "FILL" = some (some (.str "fill" t_FILL)))
    (z_list : PySem.W.nsIn K mainGlobals "list" = some none) (z_enumerate : PySem.W.nsIn K mainGlobals "enumerate" = some none) (z_divmod : PySem.W.nsIn K mainGlobals "divmod" = some none) (z_range : PySem.W.nsIn K mainGlobals "range" = some none) (z_tuple : PySem.W.nsIn K mainGlobals "tuple" = some none) (z_int : PySem.W.nsIn K mainGlobals "int" = some none) (z_len : PySem.W.nsIn K mainGlobals "len" = some none) (z_zip : PySem.W.nsIn K mainGlobals "zip" = some none) (z_min : PySem.W.nsIn K mainGlobals "min" = some none) (z_isinstance : PySem.W.nsIn K mainGlobals "isinstance" = some none) (z_all : PySem.W.nsIn K mainGlobals "all" = some none) (z_str : PySem.W.nsIn K mainGlobals "str" = some none) (z_bool : PySem.W.nsIn K mainGlobals "bool" = some none) (z_any : PySem.W.nsIn K mainGlobals "any" = some none) (z_abs : PySem.W.nsIn K mainGlobals "abs" = some none) (z_max : PySem.W.nsIn K mainGlobals "max" = some none) :
    ∃ fd : FuncData, (∀ (s : Shared) (v : Value), BindsTo s fd ⟨[v], []⟩ [("_law_script", v)]) ∧ ∀ base : Heap, K.In base → base.Ns mainGlobals mg → FnG l.prog w K mg base CX0 12 fa fd ["_law_script"] (spLaw K) := by
  have e := hfa.symm.trans (PySem.W.mg_of X G a26)
  cases e
  have F0 := fun_mk (st := s_law_folded) l0 c0 k0
  have F1 := fun_mk (st := s_law_take) l1 c1 k1
  have F2 := fun_mk (st := s_law_great) l2 c2 k2
  have F3 := fun_mk (st := s_law_stair) l3 c3 k3
  have F4 := fun_mk (st := s_law_lap) l4 c4 k4
  have F5 := fun_mk (st := s_law_sums) l5 c5 k5
  have F6 := fun_mk (st := s_law_own_sums) l6 c6 k6
  have F7 := fun_mk (st := s_levels_of) l7 c7 k7
  have F8 := fun_mk (st := s_totals_of) l8 c8 k8
  have F9 := fun_mk (st := s_led) l9 c9 k9
  have F10 := fun_mk (st := s_behind) l10 c10 k10
  have F11 := fun_mk (st := s_power) l11 c11 k11
  have F12 := fun_mk (st := s_over_table) l12 c12 k12
  have F13 := fun_mk (st := s_brought_by) l13 c13 k13
  have F14 := fun_mk (st := s_taken_by) l14 c14 k14
  have F15 := fun_mk (st := s_added) l15 c15 k15
  have F16 := fun_mk (st := s_deed_table) l16 c16 k16
  have F17 := fun_mk (st := s_table_of) l17 c17 k17
  have F18 := fun_mk (st := s_far_totals) l18 c18 k18
  have F19 := fun_mk (st := s_far_levels) l19 c19 k19
  have F20 := fun_mk (st := s_put_together) l20 c20 k20
  have F21 := fun_mk (st := s_sums_of) l21 c21 k21
  have F22 := fun_mk (st := s_ran_over) l22 c22 k22
  have F23 := fun_mk (st := s_law_same) l23 c23 k23
  have F24 := fun_mk (st := s_law_right) l24 c24 k24
  have F25 := fun_mk (st := s_law_box) l25 c25 k25
  have F26 := fun_mk (st := s_law) l26 c26 k26
  have y_list := PySem.W.mg_none_of X G z_list
  have y_enumerate := PySem.W.mg_none_of X G z_enumerate
  have y_divmod := PySem.W.mg_none_of X G z_divmod
  have y_range := PySem.W.mg_none_of X G z_range
  have y_tuple := PySem.W.mg_none_of X G z_tuple
  have y_int := PySem.W.mg_none_of X G z_int
  have y_len := PySem.W.mg_none_of X G z_len
  have y_zip := PySem.W.mg_none_of X G z_zip
  have y_min := PySem.W.mg_none_of X G z_min
  have y_isinstance := PySem.W.mg_none_of X G z_isinstance
  have y_all := PySem.W.mg_none_of X G z_all
  have y_str := PySem.W.mg_none_of X G z_str
  have y_bool := PySem.W.mg_none_of X G z_bool
  have y_any := PySem.W.mg_none_of X G z_any
  have y_abs := PySem.W.mg_none_of X G z_abs
  have y_max := PySem.W.mg_none_of X G z_max
  have h_EMPTY : ∃ t, mg "EMPTY" = some (.str "empty" t) := ⟨_, PySem.W.mg_of X G g_EMPTY⟩
  have h_FILL : ∃ t, mg "FILL" = some (.str "fill" t) := ⟨_, PySem.W.mg_of X G g_FILL⟩
  refine ⟨PySem.W.fnOf "law" "law" (defArgs s_law) (defBody s_law) (defScope s_law) .none kV26 dc26 pm26 an26 cd26 ct26, fun s v => .of_eq rfl, fun base _ _ => ?_⟩
  have d_law_folded := ok_law_folded (P := l.prog) (w := w) (base := base) F0 (PySem.W.mg_of X G a0) y_list y_enumerate
  have d_law_take := ok_law_take (P := l.prog) (w := w) (base := base) F1 (PySem.W.mg_of X G a1) y_divmod 8
  have d_law_great := ok_law_great (P := l.prog) (w := w) (base := base) F2 (PySem.W.mg_of X G a2) d_law_take
  have d_law_stair := ok_law_stair (P := l.prog) (w := w) (base := base) F3 (PySem.W.mg_of X G a3) y_range y_tuple d_law_take
  have d_law_lap := ok_law_lap (P := l.prog) (w := w) (base := base) F4 (PySem.W.mg_of X G a4) y_range y_list y_tuple d_law_take
  have d_law_sums := ok_law_sums (P := l.prog) (w := w) (base := base) F5 (PySem.W.mg_of X G a5) y_int y_range y_tuple
  have d_law_own_sums := ok_law_own_sums (P := l.prog) (w := w) (base := base) F6 (PySem.W.mg_of X G a6) y_list y_len y_range d_law_sums
  have d_levels_of := ok_levels_of (P := l.prog) (w := w) (base := base) F7 (PySem.W.mg_of X G a7) y_list y_zip y_tuple
  have d_totals_of := ok_totals_of (P := l.prog) (w := w) (base := base) F8 (PySem.W.mg_of X G a8) y_tuple
  have d_led := ok_led (P := l.prog) (w := w) (base := base) F9 (PySem.W.mg_of X G a9) y_list y_enumerate y_zip y_min y_tuple
  have d_behind := ok_behind (P := l.prog) (w := w) (base := base) F10 (PySem.W.mg_of X G a10) y_list y_enumerate y_len y_range y_min y_tuple
  have d_power := ok_power (P := l.prog) (w := w) (base := base) F11 (PySem.W.mg_of X G a11) y_tuple d_behind
  have d_over_table := ok_over_table (P := l.prog) (w := w) (base := base) F12 (PySem.W.mg_of X G a12) y_len y_range y_tuple
  have d_brought_by := ok_brought_by (P := l.prog) (w := w) (base := base) F13 (PySem.W.mg_of X G a13) h_EMPTY
  have d_taken_by := ok_taken_by (P := l.prog) (w := w) (base := base) F14 (PySem.W.mg_of X G a14) h_FILL
  have d_added := ok_added (P := l.prog) (w := w) (base := base) F15 (PySem.W.mg_of X G a15) y_len y_range y_int y_tuple d_brought_by d_taken_by
  have d_deed_table := ok_deed_table (P := l.prog) (w := w) (base := base) F16 (PySem.W.mg_of X G a16) y_list y_enumerate y_zip y_tuple d_added d_over_table
  have d_table_of := ok_table_of (P := l.prog) (w := w) (base := base) F17 (PySem.W.mg_of X G a17) d_over_table d_deed_table d_behind
  have d_far_totals := ok_far_totals (P := l.prog) (w := w) (base := base) F18 (PySem.W.mg_of X G a18) d_totals_of d_table_of d_power d_led
  have d_far_levels := ok_far_levels (P := l.prog) (w := w) (base := base) F19 (PySem.W.mg_of X G a19) d_far_totals d_levels_of
  have d_put_together := ok_put_together (P := l.prog) (w := w) (base := base) F20 (PySem.W.mg_of X G a20) y_zip y_tuple
  have d_sums_of := ok_sums_of (P := l.prog) (w := w) (base := base) F21 (PySem.W.mg_of X G a21) y_tuple d_added d_put_together
  have d_ran_over := ok_ran_over (P := l.prog) (w := w) (base := base) F22 (PySem.W.mg_of X G a22) y_zip y_tuple d_far_totals d_totals_of d_sums_of
  have d_law_same := ok_law_same (P := l.prog) (w := w) (base := base) F23 (PySem.W.mg_of X G a23) y_isinstance y_list y_tuple y_len y_zip y_all y_str y_int y_bool 10
  have d_law_right := ok_law_right (P := l.prog) (w := w) (base := base) F24 (PySem.W.mg_of X G a24) y_len y_tuple y_range y_any y_zip y_list d_law_great d_law_stair d_law_lap d_law_take d_ran_over d_far_levels d_law_same d_law_own_sums
  have d_law_box := ok_law_box (P := l.prog) (w := w) (base := base) F25 (PySem.W.mg_of X G a25) y_len y_abs y_int
  have d_law := ok_law (P := l.prog) (w := w) (base := base) F26 (PySem.W.mg_of X G a26) y_len y_max y_range y_all d_law_folded d_law_box d_law_right
  exact law_end d_law hlaw
end LW
namespace LW
open PySem L2
theorem sumA_end {n : Nat} {S : Stair} : ∀ {lot : List Dd}, (∀ e ∈ lot, e.at_ < n) → sumA S lot n = 0
  | [], _ => rfl
  | e :: r, he => by
    have h1 := sumA_end (S := S) (lot := r) fun x hx => he x (by simp [hx])
    have h2 : sumA S (e :: r) n = addF S e n + sumA S r n := by simp [sumA]
    rw [h2, h1, addF_end (he e (by simp))]
    rfl
theorem own_ok {n : Nat} {S : Stair} {x y : D} {lot : List Dd} {M : Mem} (hn : n ≤ 1000) (hx : StR n S x) (hy : LoR lot y) (he : ∀ e ∈ lot, e.at_ < n) : f_law_own_sums [x, y] M = .ok (.lst (vecD n (lvF (sumA S lot)))) M := by
  refine ok_of (fn_wp rfl fun P hR => ?_)
  have sm := law_sums_ok (M := M) hn hx hy he
  have A0 : sumA S lot n = 0 := sumA_end he
  obtain ⟨ps, s1, s2, s3⟩ := hx
  have ln : ∀ M, bLen [x] M = .ok (.int (n : Int)) M := fun M => by rw [s1.len, s2]
  have rg : ∀ M, rng1 [.int (n : Int)] M = .ok (rngD 0 n, []) M := fun M => rng1_nat (by omega)
  have lr : (rngD 0 n).length ≤ 1000000 := by rw [rngD_len]; omega
  obtain ⟨E, hE⟩ : ∃ E, E = vecD (n + 1) (sumA S lot) := ⟨_, rfl⟩
  obtain ⟨V, hV⟩ : ∃ V, V = vecD n (sumA S lot) := ⟨_, rfl⟩
  have e1 : V.length + 1 ≤ 1000000 := by rw [hV, vecD_len]; omega
  have e2 : V ++ [.int 0] = E := by rw [hV, hE, vec_ends A0]
  rw [← hV] at sm
  simp [b_law_own_sums, b_law_own_sums_s1, b_law_own_sums_s2, sm, e1, e2, ln, rg, lr, wipeD]
  refine wp_map (fun d => match d with | .int z => .int (lvF (sumA S lot) z.toNat) | _ => .non) ?_ (by simp) ?_
  · intro d hd
    obtain ⟨k, hk, rfl⟩ := rngD_mem hd
    refine ⟨_, t_nm _ _, ?_⟩
    have ez : (0 : Int) + (k : Int) = (k : Int) := by omega
    have i1 : atI E (k : Int) = some (.int (sumA S lot k)) := by rw [hE]; exact atI_nat (vecD_get (by omega))
    have i2 : atI E ((k : Int) + 1) = some (.int (sumA S lot (k + 1))) := by rw [hE]; exact atI_k (vecD_get (i := k + 1) (by omega)) (by omega)
    simp [b_law_own_sums_c1, ez, i1, i2]
    rfl
  · have eY : (rngD 0 n).map (fun d => match d with | .int z => D.int (lvF (sumA S lot) z.toNat) | _ => .non) = vecD n (lvF (sumA S lot)) := by
      unfold rngD vecD
      rw [List.map_map]
      refine List.map_congr_left fun k hk => ?_
      show D.int (lvF (sumA S lot) ((0 : Int) + (k : Int)).toNat) = D.int (lvF (sumA S lot) k)
      rw [show ((0 : Int) + (k : Int)).toNat = k by omega]
    rw [eY]
    simp
    exact hR _ _ (by simp [below_vecD]) ⟨rfl, List.take_length⟩
theorem over_le {n : Nat} {mo t : Nat → Int} {i : Nat} (hi : i ≤ n) : ledF n (sumM mo) t i ≤ t i := by
  have := (le_ledF (n := n) (A := sumM mo) (t := t) hi).mp (Int.le_refl _) i (Nat.le_refl _) hi
  rw [sumM_self] at this
  omega
theorem goL_le {n : Nat} {S : Stair} : ∀ (lot : List Dd) (t : Nat → Int) {i : Nat}, i ≤ n → goL n S lot t i ≤ t i + sumA S lot i
  | [], t, i, hi => by show t i ≤ t i + 0; omega
  | e :: r, t, i, hi => by
    have h1 := goL_le (S := S) r (goF n S t e) hi
    have h2 : goF n S t e i ≤ t i + addF S e i := over_le hi
    have h3 : sumA S (e :: r) i = addF S e i + sumA S r i := by simp [sumA]
    show goL n S r (goF n S t e) i ≤ _
    omega
theorem far_le {n : Nat} {S : Stair} {lot : List Dd} {t : Nat → Int} (h : Still n S t) : ∀ (k : Nat) {i : Nat}, i ≤ n → farT n S lot t k i ≤ t i + (k : Int) * sumA S lot i
  | 0, i, hi => by show t i ≤ t i + (0 : Int) * _; omega
  | k + 1, i, hi => by
    rw [far_go h k hi]
    have h1 := goL_le (S := S) lot (farT n S lot t k) hi
    have h2 := far_le (lot := lot) h k hi
    have : ((k + 1 : Nat) : Int) * sumA S lot i = (k : Int) * sumA S lot i + sumA S lot i := by
      rw [Int.natCast_add, Int.add_mul]
      simp
    omega
theorem still_le {n : Nat} {S : Stair} {t : Nat → Int} (h : Still n S t) {i : Nat} (hi : i < n) : t i - t (i + 1) ≤ S.mo i := by
  have h1 := h i (by omega)
  rw [over_step hi, h (i + 1) (by omega)] at h1
  split at h1 <;> omega
theorem go_two {n : Nat} {S : Stair} {lot : List Dd} {t : Nat → Int} (h : Still n S t) : ∀ (k : Nat) {i : Nat}, i ≤ n → farT n S (lot ++ lot) t k i = farT n S lot t (2 * k) i
  | 0, i, hi => rfl
  | k + 1, i, hi => by
    rw [far_go h k hi, show 2 * (k + 1) = 2 * k + 1 + 1 by omega, far_go h (2 * k + 1) hi, goL_app]
    refine goL_congr (fun j hj => ?_) hi
    rw [far_go h (2 * k) hj]
    exact goL_congr (fun a ha => go_two h k ha) hj
theorem right_ok {M : Mem} {h : Nat} (x : Box M h (2 ^ 40)) : ∃ M', f_law_right [.ref h] M = .ok (.bl true) M' := by
  have hh := x.lt
  have key : Wr (f_law_right [.ref h] M) fun d M' => d = .bl true := by
    refine fn_wp rfl fun P hR => ?_
    obtain ⟨g, M1, q1, hg, d1⟩ := great_ok (M := M) (h := h) (n := 100000) (x.mono (by decide))
    have g0 : 0 < g := by omega
    have g1 : g ≤ 1000000000000000 := by omega
    obtain ⟨k, S, M2, q2, k1, k2, sk, d2⟩ := stair_ok (M := M1) (h := h) (n := 80000) (cap := 6) (g := g) (by decide) (by decide) g0 g1 (d1.box.mono (by omega))
    obtain ⟨lot, c, M3, q3, o1, l1, r1, d3⟩ := lap_ok (M := M2) (h := h) (n := 60000) (k := k) (cap := 10) (g := g) (by omega) (by omega) (by decide) g0 g1 (d2.box.mono (by omega))
    have q2 : f_law_stair [.ref h, .int 6, .int g] M1 = .ok (.tup (stD k S)) M2 := q2
    have q3 : f_law_lap [.ref h, .int (k : Int), .int 10, .int g] M2 = .ok (.tup [.lst (lotD lot), .tup (chD k c)]) M3 := q3
    have kn : k ≤ 1000 := by omega
    have ln : ∀ M, bLen [.tup (stD k S)] M = .ok (.int (k : Int)) M := fun M => by rw [r_len (q_tup M _), stD_len]
    have ls : (stD k S).length ≤ 1000000 := by rw [stD_len]; omega
    have at1 : ∀ e ∈ lot, e.at_ < k := fun e he => (o1 e he).1
    simp [b_law_right, q1]
    simp [b_law_right_s1, q2]
    simp [b_law_right_s2, ln, q3]
    simp [b_law_right_s3, ls, wipeD]
    refine wp_flat (n := k) (h := h) (m := 50000) (g := g) (S := S) g0 g1 kn sk ⟨stD_len, fun i hi => ⟨_, stD_get hi, .t _⟩⟩ rfl rfl rfl (by decide) (by decide) (by decide) (by decide) (by decide) (by simp) (d3.box.mono (by omega)) ?_
    intro l M4 hl d4
    have tp := r_tuple (M := M4) (q_lst M4 (vecD k l))
    simp [tp]
    obtain ⟨T, hT⟩ : ∃ T, T = totF k l := ⟨_, rfl⟩
    have Tn : T k = 0 := by rw [hT]; exact totF_end k l
    have stl : Still k S T := by rw [hT]; exact still_lv fun i hi => (hl i hi).1
    have rg3 : ∀ M, rng1 [.int 3] M = .ok (rngD 0 3, []) M := fun M => rng1_nat (j := 3) (by decide)
    have rg2 : ∀ M, rng1 [.int 2] M = .ok (rngD 0 2, []) M := fun M => rng1_nat (j := 2) (by decide)
    have l2 : (rngD 0 2).length ≤ 1000000 := by rw [rngD_len]; omega
    have rgk : ∀ M, rng1 [.int (k : Int)] M = .ok (rngD 0 k, []) M := fun M => rng1_nat (by omega)
    have p17 : ∀ M : Mem, oPow (.int 10) (.int 17) M = .ok (.int 100000000000000000) M := fun M => id rfl
    have m5 : ∀ M : Mem, oMul (.int 5) (.int 100000000000000000) M = .ok (.int 500000000000000000) M := fun M => by rw [r_mul (mul_l (by decide) (by decide))]; rfl
    simp [b_law_right_s15, rg3]
    refine wp_for (fun i s M' => Box M' h (10000 * (3 - i)) ∧ ∃ (v5 v6 v7 v8 v9 v10 v11 v12 v13 v14 v15 : Option D), s = [some (.ref h), some (.int g), some (.tup (stD k S)), some (.lst (lotD lot)), some (.tup (vecD k l)), v5, v6, v7, v8, v9, v10, v11, v12, v13, v14, v15, none, none, none, none, none, none]) ?_ ?_ ?_
    · exact ⟨d4.box.mono (by omega), none, none, none, none, none, none, none, none, none, none, none, rfl⟩
    · rintro i d s M' hi hd ⟨bx, v5, v6, v7, v8, v9, v10, v11, v12, v13, v14, v15, rfl⟩
      rw [rngD_len] at hi
      refine ⟨_, t_nm _ _, fun P1 hN _ _ _ _ => ?_⟩
      simp [b_law_right_l2, b_law_right_s4, rg2, l2, wipeD]
      refine wp_comp (fun j ys M' => (∃ zs : List Nat, ys = zs.map (fun (z : Nat) => .int (z : Int)) ∧ zs.length = j ∧ ∀ z ∈ zs, z < 500000000000000000) ∧ Box M' h (10000 * (3 - (i + 1)) + 1000 * (2 - j))) ?_ ?_ ?_
      · exact ⟨⟨[], rfl, rfl, by simp⟩, bx.mono (by omega)⟩
      · rintro j d ys M' hj hd ⟨⟨zs, rfl, lz, hz⟩, bx⟩
        rw [rngD_len] at hj
        refine ⟨_, t_nm _ _, fun Q' hQ => ?_⟩
        obtain ⟨m, hm⟩ : ∃ m, m = 10000 * (3 - (i + 1)) + 1000 * (2 - (j + 1)) := ⟨_, rfl⟩
        obtain ⟨r1, Ma, qa, a1, b1, da⟩ := take_dr (M := M') (h := h) (n := m + 128) (size := 3) (bx.mono (by omega)) (by decide) (by decide)
        obtain ⟨w, hw, w0, w1⟩ : ∃ w : Int, atI [D.int 9, .int 1000000, .int 500000000000000000] r1 = some (.int w) ∧ 0 < w ∧ w ≤ 500000000000000000 := by
          rcases (by omega : r1 = 0 ∨ r1 = 1 ∨ r1 = 2) with rfl | rfl | rfl
          · exact ⟨9, rfl, by decide, by decide⟩
          · exact ⟨1000000, rfl, by decide, by decide⟩
          · exact ⟨500000000000000000, rfl, by decide, by decide⟩
        obtain ⟨r2, Mb, qb, a2, b2, db⟩ := take_dr (M := Ma) (h := h) (n := m) (size := w) (da.box.mono (by omega)) w0 (Int.le_trans (by omega) t8)
        simp [b_law_right_c2, p17, m5, qa, hw, qb]
        refine hQ _ _ (by simp) ⟨⟨zs ++ [r2.toNat], ?_, by simp [lz], fun z hz' => ?_⟩, db.box.mono (by omega)⟩
        · simp
          omega
        · rcases List.mem_append.mp hz' with h' | h'
          · exact hz z h'
          · have : z = r2.toNat := by simpa using h'
            omega
      · rintro ys Ma ⟨⟨zs, rfl, lz, hz⟩, bxa⟩
        rw [rngD_len] at lz bxa
        obtain ⟨mu, mo, rfl⟩ : ∃ a b, zs = [a, b] := by
          match zs, lz with
          | [a, b], _ => exact ⟨a, b, rfl⟩
        have hmu := hz mu (by simp)
        have hmo := hz mo (by simp)
        have f1 := far_levels_ok (M := Ma) (k := mu) (l := l) (by omega) kn (stR_tup k S) (.t _) (loR_of (.l (lotD lot))) at1 (by omega)
        have f2 := ran_over_ok (M := Ma) (k := mu) (l := l) kn (stR_tup k S) (.t _) (loR_of (.l (lotD lot))) at1 (by omega)
        have f3 := far_levels_ok (M := Ma) (k := mu + mo) (l := l) (by omega) kn (stR_tup k S) (.t _) (loR_of (.l (lotD lot))) at1 (by omega)
        have f4 := ran_over_ok (M := Ma) (k := mu + mo) (l := l) kn (stR_tup k S) (.t _) (loR_of (.l (lotD lot))) at1 (by omega)
        rw [← hT] at f1 f2 f3 f4
        rw [Int.natCast_add] at f3 f4
        obtain ⟨U, hU⟩ : ∃ U, U = farT k S lot T mu := ⟨_, rfl⟩
        obtain ⟨W, hW⟩ : ∃ U, U = farT k S lot T (mu + mo) := ⟨_, rfl⟩
        have Un : U k = 0 := by rw [hU]; exact farT_end at1 Tn mu
        have f5 := far_levels_ok (M := Ma) (k := mo) (l := lvF U) (by omega) kn (stR_tup k S) (.t _) (loR_of (.l (lotD lot))) at1 (by omega)
        have f6 := ran_over_ok (M := Ma) (k := mo) (l := lvF U) kn (stR_tup k S) (.t _) (loR_of (.l (lotD lot))) at1 (by omega)
        have kU : ∀ j, j ≤ k → totF k (lvF U) j = U j := fun j hj => tot_lv Un hj
        have kW : ∀ j, j ≤ k → farT k S lot (totF k (lvF U)) mo j = W j := fun j hj => by
          rw [hW, farT_add mu mo hj, ← hU]
          exact farT_congr kU mo hj
        have e5 : vecD k (lvF (farT k S lot (totF k (lvF U)) mo)) = vecD k (lvF W) := vecD_eq fun j hj => by
          unfold lvF
          rw [← kW j (by omega), ← kW (j + 1) (by omega)]
          rfl
        rw [e5] at f5
        rw [← hU] at f1 f2
        rw [← hW] at f3 f4
        obtain ⟨ra, hra⟩ : ∃ r, r = fun i => T i + (mu : Int) * sumA S lot i - U i := ⟨_, rfl⟩
        obtain ⟨rb, hrb⟩ : ∃ r, r = fun i => T i + ((mu : Int) + (mo : Int)) * sumA S lot i - W i := ⟨_, rfl⟩
        obtain ⟨rc, hrc⟩ : ∃ r, r = fun i => totF k (lvF U) i + (mo : Int) * sumA S lot i - farT k S lot (totF k (lvF U)) mo i := ⟨_, rfl⟩
        rw [← hra] at f2
        rw [← hrb] at f4
        rw [← hrc] at f6
        have rab : ∀ j, j < k → ra j + rc j = rb j := fun j hj => by
          rw [hra, hrb, hrc]
          show T j + (mu : Int) * sumA S lot j - U j + (totF k (lvF U) j + (mo : Int) * sumA S lot j - farT k S lot (totF k (lvF U)) mo j) = T j + ((mu : Int) + (mo : Int)) * sumA S lot j - W j
          rw [kU j (by omega), kW j (by omega), Int.add_mul]
          omega
        have rb0 : ∀ j, j < k → 0 ≤ rb j := fun j hj => by
          rw [hrb, hW]
          have := far_le (lot := lot) stl (mu + mo) (i := j) (by omega)
          rw [Int.natCast_add] at this
          show 0 ≤ T j + ((mu : Int) + (mo : Int)) * sumA S lot j - farT k S lot T (mu + mo) j
          omega
        have lz : (vecD k rb).length ≤ 1000000 := by rw [vecD_len]; omega
        have ss1 := same_plain (M := Ma) (x := .lst [.tup (vecD k (lvF W))]) (plain_lst (k := 8) (by simp) fun x hx => by
          have : x = .tup (vecD k (lvF W)) := by simpa using hx
          subst this
          exact plain_vec kn)
        have cneg : ∀ s : Slots, s.length = 22 → compL M.length [] Ma (.nm 20) tTrue b_law_right_c3 s (vecD k rb) Ma = .ok ((vecD k rb).map fun _ => .bl false) Ma := fun s hs => by
          refine comp_map _ (fun d hd => ⟨_, t_nm _ _, ?_⟩) (by simp)
          obtain ⟨j, hj, rfl⟩ := List.mem_map.mp hd
          have := rb0 j (List.mem_range.mp hj)
          simp [b_law_right_c3, hs]
          omega
        have an := r_anyB (M := Ma) (vecD k rb) fun _ => false
        have an' : (vecD k rb).any (fun _ => false) = false := by simp
        rw [an'] at an
        have cadd : ∀ s : Slots, s.length = 22 → compL M.length [] Ma (.tp [.nm 20, .nm 21]) tTrue b_law_right_c4 s (zipD (vecD k ra) (vecD k rc)) Ma = .ok (vecD k fun j => ra j + rc j) Ma := fun s hs => comp_zip (fun x y => x + y) (fun x y => by simp) rfl (by decide) (by omega) (by omega) (by simp)
        have eab : (vecD k fun j => ra j + rc j) = vecD k rb := vecD_eq rab
        rw [eab] at cadd
        have lz2 : (zipD (vecD k ra) (vecD k rc)).length ≤ 1000000 := by rw [zip_vlen]; omega
        have tp2 := r_tuple (M := Ma) (q_lst Ma (vecD k rb))
        have ss2 := same_plain (M := Ma) (x := .tup (vecD k rb)) (plain_vec kn)
        have ow := own_ok (M := Ma) kn (stR_tup k S) (loR_of (.l (lotD lot))) at1
        obtain ⟨VN, hVN⟩ : ∃ V, V = (vecD k rb).map fun _ => D.bl false := ⟨_, rfl⟩
        rw [← hVN] at cneg an
        simp [gT, b_law_right_s5, f1, f2]
        simp [b_law_right_s6, f3, f4]
        simp [b_law_right_s7, f5, ss1, lz, wipeD, cneg, an]
        simp [b_law_right_s8, f6, lz2, wipeD, cadd, tp2]
        simp [b_law_right_s9, ss2]
        simp [b_law_right_s10, ow]
        simp [b_law_right_s13, ln, rgk]
        refine wp_for (fun i s M' => M' = Ma ∧ ∃ (v14 v15 : Option D), s = [some (.ref h), some (.int g), some (.tup (stD k S)), some (.lst (lotD lot)), some (.tup (vecD k l)), some d, some (.int (mu : Int)), some (.int (mo : Int)), some (.tup (vecD k (lvF U))), some (.tup (vecD k ra)), some (.tup (vecD k (lvF W))), some (.tup (vecD k rb)), some (.tup (vecD k rb)), some (.lst (vecD k (lvF (sumA S lot)))), v14, v15, none, none, none, none, none, none]) ?_ ?_ ?_
        · exact ⟨rfl, _, _, rfl⟩
        · rintro a d2 s Mb ha hd2 ⟨rfl, v14, v15, rfl⟩
          rw [rngD_len] at ha
          obtain ⟨_, rfl⟩ := rngD_get hd2
          refine ⟨_, t_nm _ _, fun P2 hN2 _ _ _ _ => ?_⟩
          have ez : (0 : Int) + (a : Int) = (a : Int) := by omega
          rw [ez]
          obtain ⟨rb', hrb', hrbk⟩ : ∃ r : Nat → Int, vecD k rb = vecD k r ∧ r k = 0 := ⟨fun i => if i = k then 0 else rb i, vecD_eq fun i hi => by rw [if_neg (by omega)], if_pos rfl⟩
          have rbe : ∀ j, j < k → rb' j = rb j := fun j hj => by
            have h1 := vecD_get (t := rb) hj
            rw [hrb', vecD_get (t := rb') hj] at h1
            exact D.int.inj (Option.some.inj h1)
          have lv1 : (vecD k rb).length + 1 ≤ 1000000 := by rw [vecD_len]; omega
          have eE : vecD k rb ++ [.int 0] = vecD (k + 1) rb' := by rw [hrb', vec_ends hrbk]
          have i1 : atI (vecD (k + 1) rb') ((a : Int) + 1) = some (.int (rb' (a + 1))) := atI_k (vecD_get (by omega)) (by omega)
          have i2 : atI (vecD k rb) (a : Int) = some (.int (rb a)) := atI_nat (vecD_get ha)
          have i3 : atI (vecD k (lvF W)) (a : Int) = some (.int (lvF W a)) := atI_nat (vecD_get ha)
          have i4 : atI (vecD k l) (a : Int) = some (.int (l a)) := atI_nat (vecD_get ha)
          have i5 : atI (vecD k (lvF (sumA S lot))) (a : Int) = some (.int (lvF (sumA S lot) a)) := atI_nat (vecD_get ha)
          have i6 : atI (stD k S) (a : Int) = some (.tup (pdL S a)) := atI_nat (stD_get ha)
          have mm : ∀ (z : Int) (M : Mem), oMul (.int ((mu : Int) + (mo : Int))) (.int z) M = .ok (.int (((mu : Int) + (mo : Int)) * z)) M := fun z M => r_mul (mul_l (by omega) (by omega))
          have Wn : W k = 0 := by rw [hW]; exact farT_end at1 Tn _
          have A0 : sumA S lot k = 0 := sumA_end at1
          have rb1 : rb' (a + 1) = T (a + 1) + ((mu : Int) + (mo : Int)) * sumA S lot (a + 1) - W (a + 1) := by
            by_cases h : a + 1 < k
            · rw [rbe _ h, hrb]
            · have : a + 1 = k := by omega
              rw [this, hrbk, Tn, Wn, A0]
              omega
          have lva : l a = T a - T (a + 1) := by rw [hT, totF_step ha]; omega
          have eq1 : lvF W a = l a + ((mu : Int) + (mo : Int)) * lvF (sumA S lot) a + (rb' (a + 1) - rb a) := by
            rw [rb1, hrb, lva]
            unfold lvF
            rw [Int.mul_sub]
            show W a - W (a + 1) = T a - T (a + 1) + (((mu : Int) + (mo : Int)) * sumA S lot a - ((mu : Int) + (mo : Int)) * sumA S lot (a + 1)) + (T (a + 1) + ((mu : Int) + (mo : Int)) * sumA S lot (a + 1) - W (a + 1) - (T a + ((mu : Int) + (mo : Int)) * sumA S lot a - W a))
            omega
          have le1 : ¬ S.mo a < lvF W a := by
            have := still_le (far_still (lot := lot) stl (mu + mo)) ha
            rw [← hW] at this
            unfold lvF
            omega
          have eq2 : ¬ ¬ (lvF W a = l a + ((mu : Int) + (mo : Int)) * lvF (sumA S lot) a + (rb' (a + 1) - rb a)) := fun h => h eq1
          obtain ⟨E, hE⟩ : ∃ E, E = vecD (k + 1) rb' := ⟨_, rfl⟩
          rw [← hE] at eE i1
          simp [b_law_right_l1, b_law_right_s11, b_law_right_s12, lv1, eE, i1, i2, i3, i4, i5, i6, mm, pdL, ← eq1, le1]
          exact hN2 _ _ (by simp) ⟨rfl, _, _, rfl⟩
        · rintro s' Mb ⟨rfl, v14, v15, rfl⟩
          have ll : (lotD lot).length + (lotD lot).length ≤ 1000000 := by simp [lotD]; omega
          have ea : lotD lot ++ lotD lot = lotD (lot ++ lot) := by simp [lotD]
          have f7 := far_levels_ok (M := Mb) (k := mu) (l := l) (by omega) kn (stR_tup k S) (.t _) (loR_of (.l (lotD (lot ++ lot)))) (fun e he => by
            rcases List.mem_append.mp he with he | he <;> exact at1 e he) (by omega)
          have f8 := far_levels_ok (M := Mb) (k := 2 * mu) (l := l) (by omega) kn (stR_tup k S) (.t _) (loR_of (.l (lotD lot))) at1 (by omega)
          rw [← hT] at f7 f8
          have e7 : vecD k (lvF (farT k S (lot ++ lot) T mu)) = vecD k (lvF (farT k S lot T (2 * mu))) := vecD_eq fun j hj => by
            unfold lvF
            rw [go_two stl mu (by omega), go_two stl mu (by omega)]
          rw [e7] at f7
          have m2 : ∀ M : Mem, oMul (.int 2) (.int (mu : Int)) M = .ok (.int ((2 * mu : Nat) : Int)) M := fun M => by rw [r_mul (mul_l (by decide) (by decide))]; congr 2
          have ss3 := same_plain (M := Mb) (x := .tup (vecD k (lvF (farT k S lot T (2 * mu))))) (plain_vec kn)
          obtain ⟨A, hA⟩ : ∃ A, A = vecD k (lvF (farT k S lot T (2 * mu))) := ⟨_, rfl⟩
          rw [← hA] at f7 f8 ss3
          obtain ⟨z2, hz2⟩ : ∃ z : Int, z = ((2 * mu : Nat) : Int) := ⟨_, rfl⟩
          rw [← hz2] at m2 f8
          obtain ⟨LL, hLL⟩ : ∃ L, L = lotD (lot ++ lot) := ⟨_, rfl⟩
          rw [← hLL] at ea f7
          simp [b_law_right_s14, ll, ea, f7, m2, f8, ss3]
          exact hN _ _ (by simp) ⟨bxa.mono (by omega), _, _, _, _, _, _, _, _, _, _, _, rfl⟩
    · rintro s' M' ⟨bx, v5, v6, v7, v8, v9, v10, v11, v12, v13, v14, v15, rfl⟩
      simp
      exact hR _ _ (by simp) rfl
  obtain ⟨d, M', e, rfl⟩ := wr_of key
  exact ⟨M', e⟩
theorem law_true : ∀ ns : List Int, ns.length ≤ 63 → ∃ M', f_law [.scr ns] [] = .ok (.bl true) M' :=
  law_run (sz := 3) (by decide) (by decide) (fun M h x => right_ok x) (by unfold b_law b_law_s1 b_law_s2 b_law_c1; rfl)
end LW

open PySem PySem.W PyProof.Rows
set_option maxHeartbeats 0 in
theorem PySem.Challenge.cw_liftwater_k15_levels_behind_far_rounds_holds : PySem.Challenge.rw_liftwater_k15_levels_behind_far_rounds.Holds := by
  w_on; o_law; k_head; (case hw => w_witness2)
  k_fill
  refine LW.walk_g (l := PySem.Challenge.rw_liftwater_k15_levels_behind_far_rounds) (n := 63) (k := 12) (x := "_law_script") (CX := fun _ => L2.CX0) (sp := fun w => LW.spLaw _) rfl (by decide) rfl ⟨rfl, by decide, by decide⟩ (fun w h Y => PySem.W.kIn_of Y) ?F (fun _ _ a ns hl hS => ⟨a, ns, rfl, hS, hl, fun _ => rfl⟩) (fun _ _ _ _ _ h => h)
  case F =>
    intro w mg fa h KX G hmg
    refine' LW.all_mk LW.law_true KX G hmg ?a0 ?l0 ?c0 ?k0 ?a1 ?l1 ?c1 ?k1 ?a2 ?l2 ?c2 ?k2 ?a3 ?l3 ?c3 ?k3 ?a4 ?l4 ?c4 ?k4 ?a5 ?l5 ?c5 ?k5 ?a6 ?l6 ?c6 ?k6 ?a7 ?l7 ?c7 ?k7 ?a8 ?l8 ?c8 ?k8 ?a9 ?l9 ?c9 ?k9 ?a10 ?l10 ?c10 ?k10 ?a11 ?l11 ?c11 ?k11 ?a12 ?l12 ?c12 ?k12 ?a13 ?l13 ?c13 ?k13 ?a14 ?l14 ?c14 ?k14 ?a15 ?l15 ?c15 ?k15 ?a16 ?l16 ?c16 ?k16 ?a17 ?l17 ?c17 ?k17 ?a18 ?l18 ?c18 ?k18 ?a19 ?l19 ?c19 ?k19 ?a20 ?l20 ?c20 ?k20 ?a21 ?l21 ?c21 ?k21 ?a22 ?l22 ?c22 ?k22 ?a23 ?l23 ?c23 ?k23 ?a24 ?l24 ?c24 ?k24 ?a25 ?l25 ?c25 ?k25 ?a26 ?l26 ?c26 ?k26 ?g_EMPTY ?g_FILL ?z_list ?z_enumerate ?z_divmod ?z_range ?z_tuple ?z_int ?z_len ?z_zip ?z_min ?z_isinstance ?z_all ?z_str ?z_bool ?z_any ?z_abs ?z_max
    (case a0 => k_is); (case l0 => k_is); (case c0 => k_is); (case k0 => k_is); (case a1 => k_is); (case l1 => k_is); (case c1 => k_is); (case k1 => k_is); (case a2 => k_is); (case l2 => k_is); (case c2 => k_is); (case k2 => k_is); (case a3 => k_is); (case l3 => k_is); (case c3 => k_is); (case k3 => k_is); (case a4 => k_is); (case l4 => k_is); (case c4 => k_is); (case k4 => k_is); (case a5 => k_is); (case l5 => k_is); (case c5 => k_is); (case k5 => k_is); (case a6 => k_is); (case l6 => k_is); (case c6 => k_is); (case k6 => k_is); (case a7 => k_is); (case l7 => k_is); (case c7 => k_is); (case k7 => k_is); (case a8 => k_is); (case l8 => k_is); (case c8 => k_is); (case k8 => k_is); (case a9 => k_is); (case l9 => k_is); (case c9 => k_is); (case k9 => k_is); (case a10 => k_is); (case l10 => k_is); (case c10 => k_is); (case k10 => k_is); (case a11 => k_is); (case l11 => k_is); (case c11 => k_is); (case k11 => k_is); (case a12 => k_is); (case l12 => k_is); (case c12 => k_is); (case k12 => k_is); (case a13 => k_is); (case l13 => k_is); (case c13 => k_is); (case k13 => k_is); (case a14 => k_is); (case l14 => k_is); (case c14 => k_is); (case k14 => k_is); (case a15 => k_is); (case l15 => k_is); (case c15 => k_is); (case k15 => k_is); (case a16 => k_is); (case l16 => k_is); (case c16 => k_is); (case k16 => k_is); (case a17 => k_is); (case l17 => k_is); (case c17 => k_is); (case k17 => k_is); (case a18 => k_is); (case l18 => k_is); (case c18 => k_is); (case k18 => k_is); (case a19 => k_is); (case l19 => k_is); (case c19 => k_is); (case k19 => k_is); (case a20 => k_is); (case l20 => k_is); (case c20 => k_is); (case k20 => k_is); (case a21 => k_is); (case l21 => k_is); (case c21 => k_is); (case k21 => k_is); (case a22 => k_is); (case l22 => k_is); (case c22 => k_is); (case k22 => k_is); (case a23 => k_is); (case l23 => k_is); (case c23 => k_is); (case k23 => k_is); (case a24 => k_is); (case l24 => k_is); (case c24 => k_is); (case k24 => k_is); (case a25 => k_is); (case l25 => k_is); (case c25 => k_is); (case k25 => k_is); (case a26 => k_is); (case l26 => k_is); (case c26 => k_is); (case k26 => k_is); (case g_EMPTY => k_is); (case g_FILL => k_is); (case z_list => k_is); (case z_enumerate => k_is); (case z_divmod => k_is); (case z_range => k_is); (case z_tuple => k_is); (case z_int => k_is); (case z_len => k_is); (case z_zip => k_is); (case z_min => k_is); (case z_isinstance => k_is); (case z_all => k_is); (case z_str => k_is); (case z_bool => k_is); (case z_any => k_is); (case z_abs => k_is); (case z_max => k_is)
