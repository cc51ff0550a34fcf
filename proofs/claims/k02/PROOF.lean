import PyProof.Rows.All
import Wide.All
import OpenK.AllK
import Wide.FinOn
import KE.KStateDown
import HandS.ForMost
import HandS.Exc
import HandS.WordsExc
import HandS.IsInst
import HandS.FStr
import HandS.TupAny
import HandS.Defaults
import HandS.Style
import HandS.Deep
import HandS.RaiseMore
import HandS.SetFor
import KE.IntTextLaws
import KE.KSuper
import HandS.Nested
import HandS.ClsMeth
import HandS.Ends
import HandS.HeadEnd
import KE.KCallOwn
import HandS.Head0
import HandS.Head1
import HandS.Head2
import HandS.HeadHook1
import HandS.HeadHook2
import HandS.Words
import PySem.Challenge.RW_forkpolls_k02_rows_made
set_option Elab.async false
set_option linter.all false
/-! Mir: a small pure language of values, a store of changing things, and combinators: what Python code of the subset computes. -/
namespace Mir

/-- values: what never changes is a tree; what changes stands in the store and is named by a number -/
inductive W where
  | non | bl (b : Bool) | int (i : Int) | str (x : List Nat) | tup (xs : List W) | lst (xs : List W)
  | obj (c : Nat) (fs : List (Nat × W)) | ref (n : Nat) | cls (c : Nat)
  /-- a list that is only read (the script) -/
  | lsr (xs : List W)

/-- changing things -/
inductive SO where
  | lst (xs : List W) | dct (kvs : List (W × W)) | ins (c : Nat) (fs : List (Nat × W))

structure Store where
  next : Nat
  objs : List (Nat × SO)

inductive Out (α : Type) where
  | ok (a : α) (S : Store) | err (c : Nat) (fs : List (Nat × W)) (S : Store) | bad

def Out.bind {α β : Type} (x : Out α) (f : α → Store → Out β) : Out β := match x with
  | .ok a S => f a S
  | .err c fs S => .err c fs S
  | .bad => .bad

def look : List (Nat × SO) → Nat → Option SO
  | [], _ => none
  | (m, o) :: r, n => if Nat.beq m n then some o else look r n
def putO : List (Nat × SO) → Nat → SO → List (Nat × SO)
  | [], _, _ => []
  | (m, o) :: r, n, u => if Nat.beq m n then (m, u) :: r else (m, o) :: putO r n u
def dropO : List (Nat × SO) → Nat → List (Nat × SO)
  | [], _ => []
  | (m, o) :: r, n => if Nat.beq m n then r else (m, o) :: dropO r n
def Store.get (S : Store) (n : Nat) : Option SO := look S.objs n
def Store.put (S : Store) (n : Nat) (o : SO) : Store := ⟨S.next, putO S.objs n o⟩
def Store.new (S : Store) (o : SO) : Store := ⟨Nat.succ S.next, (S.next, o) :: S.objs⟩
def Store.drop (S : Store) (n : Nat) : Store := ⟨S.next, dropO S.objs n⟩

abbrev DEnv := List (Option W)
def getS : DEnv → Nat → Option W
  | [], _ => none
  | x :: _, 0 => x
  | _ :: r, n + 1 => getS r n
def setS : DEnv → Nat → Option W → DEnv
  | [], _, _ => []
  | _ :: r, 0, w => w :: r
  | x :: r, n + 1, w => x :: setS r n w

abbrev ME := DEnv → Store → Out W
abbrev MT := DEnv → Store → Out Bool
abbrev MA := DEnv → Store → Out (List W)
/-- behind a statement: go on, return, break, continue -/
inductive Fl where
  | nx (d : DEnv) | rt (w : W) | br (d : DEnv) | ct (d : DEnv)
abbrev MS := DEnv → Store → Out Fl
abbrev MF := List W → Store → Out W

/-! ### small things -/
def LIM : Nat := 100000
def beqL : List Nat → List Nat → Bool
  | [], [] => true
  | a :: r, b :: s => if Nat.beq a b then beqL r s else false
  | _, _ => false
/-- a text of plain signs, not too long -/
def okS (z : List Nat) : Bool := z.all (fun c => Nat.blt c 128) && Nat.ble z.length LIM
def b2i (b : Bool) : Int := if b then 1 else 0
def sIx (n d : Nat) : Option Int → Nat
  | none => d
  | some v => if v < 0 then (v + (n : Int)).toNat else min v.toNat n
def cut {α : Type} (xs : List α) (lo hi : Option Int) : List α := (xs.drop (sIx xs.length 0 lo)).take (sIx xs.length xs.length hi - sIx xs.length 0 lo)
def ixN (n : Nat) (i : Int) : Option Nat := if 0 ≤ i then (if i < n then some i.toNat else none) else if -(n : Int) ≤ i then some (i + n).toNat else none
def atI {α : Type} (xs : List α) (i : Int) : Option α := (ixN xs.length i).bind fun j => xs[j]?
def oks {α : Type} (o : Option α) (S : Store) : Out α := match o with
  | some a => .ok a S
  | none => .bad

/-! ### == of data -/
mutual
def eqW : W → W → Option Bool
  | .non, b => match b with
    | .non => some true
    | .bl _ | .int _ | .str _ | .tup _ | .lst _ => some false
    | _ => none
  | .bl a, b => match b with
    | .bl c => some (a == c)
    | .int j => some (decide (b2i a = j))
    | .non | .str _ | .tup _ | .lst _ => some false
    | _ => none
  | .int i, b => match b with
    | .int j => some (decide (i = j))
    | .bl c => some (decide (i = b2i c))
    | .non | .str _ | .tup _ | .lst _ => some false
    | _ => none
  | .str a, b => match b with
    | .str c => some (beqL a c)
    | .non | .bl _ | .int _ | .tup _ | .lst _ => some false
    | _ => none
  | .tup a, b => match b with
    | .tup c => eqWs a c
    | .non | .bl _ | .int _ | .str _ | .lst _ => some false
    | _ => none
  | .lst a, b => match b with
    | .lst c => eqWs a c
    | .non | .bl _ | .int _ | .str _ | .tup _ => some false
    | _ => none
  | _, _ => none
def eqWs : List W → List W → Option Bool
  | [], b => match b with
    | [] => some true
    | _ :: _ => some false
  | x :: r, b => match b with
    | [] => some false
    | y :: s => match eqW x y with
      | some true => eqWs r s
      | some false => some false
      | none => none
end
/-- a list in the store is read as it stands -/
def rd (S : Store) (w : W) : W := match w with
  | .ref n => match S.get n with
    | some (.lst xs) => .lst xs
    | _ => w
  | _ => w
def seqOf (S : Store) (w : W) : Option (List W) := match w with
  | .tup xs => some xs
  | .lst xs => some xs
  | .lsr xs => some xs
  | .ref n => match S.get n with
    | some (.lst xs) => some xs
    | _ => none
  | _ => none
/-! data, at most so deep -/
mutual
def dle : Nat → W → Bool
  | _, .non => true
  | _, .bl _ => true
  | _, .int _ => true
  | _, .str _ => true
  | n, .tup xs => match n with
    | 0 => false
    | n + 1 => dles n xs
  | n, .lst xs => match n with
    | 0 => false
    | n + 1 => dles n xs
  | _, _ => false
def dles : Nat → List W → Bool
  | _, [] => true
  | n, x :: r => dle n x && dles n r
end
def flat : W → Bool
  | .non => true
  | .bl _ => true
  | .int _ => true
  | .str _ => true
  | _ => false
def inWs (x : W) : List W → Option Bool
  | [] => some false
  | y :: r => match eqW y x with
    | some true => some true
    | some false => inWs x r
    | none => none
def memN (c : Nat) : List Nat → Bool
  | [] => false
  | x :: r => if Nat.beq x c then true else memN c r

/-! ### expressions -/
def eVar (i : Nat) : ME := fun d S => match getS d i with
  | some w => .ok w S
  | none => .bad
def eC (w : W) : ME := fun _ S => .ok w S
def eUn (f : W → Store → Out W) (a : ME) : ME := fun d S => (a d S).bind fun x S1 => f x S1
def eBin (f : W → W → Store → Out W) (a b : ME) : ME := fun d S => (a d S).bind fun x S1 => (b d S1).bind fun y S2 => f x y S2
def aNil : MA := fun _ S => .ok [] S
def aCons (a : ME) (r : MA) : MA := fun d S => (a d S).bind fun x S1 => (r d S1).bind fun xs S2 => .ok (x :: xs) S2
/-- a starred part -/
def aStar (a : ME) (r : MA) : MA := fun d S => (a d S).bind fun x S1 => match seqOf S1 x with
  | some ys => (r d S1).bind fun xs S2 => .ok (ys ++ xs) S2
  | none => .bad
def eCall (f : MF) (a : MA) : ME := fun d S => (a d S).bind fun xs S1 => f xs S1
def eTup (a : MA) : ME := fun d S => (a d S).bind fun xs S1 => if Nat.ble xs.length LIM then .ok (.tup xs) S1 else .bad
/-- a list that is not changed; one that is -/
def eLst (a : MA) : ME := fun d S => (a d S).bind fun xs S1 => if Nat.ble xs.length LIM then .ok (.lst xs) S1 else .bad
def eLstM (a : MA) : ME := fun d S => (a d S).bind fun xs S1 => if Nat.ble xs.length LIM then .ok (.ref S1.next) (S1.new (.lst xs)) else .bad
def tB (a : ME) : MT := fun d S => (a d S).bind fun x S1 => match x with
  | .bl b => .ok b S1
  | _ => .bad
def tAnd (a b : MT) : MT := fun d S => (a d S).bind fun x S1 => if x then b d S1 else .ok false S1
def tOr (a b : MT) : MT := fun d S => (a d S).bind fun x S1 => if x then .ok true S1 else b d S1
def tNot (a : MT) : MT := fun d S => (a d S).bind fun x S1 => .ok (!x) S1
def eAnd (a b : ME) : ME := fun d S => (a d S).bind fun x S1 => match x with
  | .bl true => b d S1
  | .bl false => .ok (.bl false) S1
  | _ => .bad
def eOr (a b : ME) : ME := fun d S => (a d S).bind fun x S1 => match x with
  | .bl true => .ok (.bl true) S1
  | .bl false => b d S1
  | _ => .bad
def eNot (a : ME) : ME := fun d S => (a d S).bind fun x S1 => match x with
  | .bl b => .ok (.bl (!b)) S1
  | _ => .bad
def eIf (t : MT) (a b : ME) : ME := fun d S => (t d S).bind fun x S1 => if x then a d S1 else b d S1
/-- a < b < c -/
def eChain (f g : W → W → Store → Out W) (a b c : ME) : ME := fun d S => (a d S).bind fun x S1 => (b d S1).bind fun y S2 => (f x y S2).bind fun z S3 => match z with
  | .bl true => (c d S3).bind fun u S4 => g y u S4
  | .bl false => .ok (.bl false) S3
  | _ => .bad

def mapTo (ms : List (Nat × W)) (k : Nat) : Option W := match ms with
  | [] => none
  | (m, w) :: r => if Nat.beq m k then some w else mapTo r k
def mapPut (ms : List (Nat × W)) (k : Nat) (w : W) : List (Nat × W) := match ms with
  | [] => [(k, w)]
  | (m, u) :: r => if Nat.beq m k then (m, w) :: r else (m, u) :: mapPut r k w
def fld (k : Nat) (x : W) (S : Store) : Out W := match x with
  | .obj _ fs => oks (mapTo fs k) S
  | .ref n => match S.get n with
    | some (.ins _ fs) => oks (mapTo fs k) S
    | _ => .bad
  | _ => .bad

/-! ### operations on values -/
def i2 (f : Int → Int → W) : W → W → Store → Out W := fun x y S => match x, y with
  | .int i, .int j => .ok (f i j) S
  | _, _ => .bad
def opAdd : W → W → Store → Out W := fun x y S => match x with
  | .int i => match y with
    | .int j => .ok (.int (i + j)) S
    | _ => .bad
  | .str a => match y with
    | .str b => if Nat.ble (a.length + b.length) LIM then .ok (.str (a ++ b)) S else .bad
    | _ => .bad
  | .tup a => match y with
    | .tup b => if Nat.ble (a.length + b.length) LIM then .ok (.tup (a ++ b)) S else .bad
    | _ => .bad
  | _ => match rd S x with
    | .lst a => match rd S y with
      | .lst b => if Nat.ble (a.length + b.length) LIM then .ok (.lst (a ++ b)) S else .bad
      | _ => .bad
    | _ => .bad
/-- the sum of two lists, to be changed -/
def opAddM : W → W → Store → Out W := fun x y S => match rd S x with
    | .lst a => match rd S y with
      | .lst b => if Nat.ble (a.length + b.length) LIM then .ok (.ref S.next) (S.new (.lst (a ++ b))) else .bad
      | _ => .bad
    | _ => .bad
def opSub : W → W → Store → Out W := i2 fun i j => .int (i - j)
def small (i : Int) : Bool := decide (-18446744073709551616 < i) && decide (i < 18446744073709551616)
def opMul : W → W → Store → Out W := fun x y S => match x, y with
  | .int i, .int j => if small i || small j then .ok (.int (i * j)) S else .bad
  | _, _ => .bad
def repL (z : List Nat) : Nat → List Nat
  | 0 => []
  | n + 1 => z ++ repL z n
/-- a text so many times -/
def opRep : W → W → Store → Out W := fun x y S => match x, y with
  | .str z, .int j => if decide (j ≤ 1000) && Nat.ble z.length 10 then .ok (.str (repL z j.toNat)) S else .bad
  | _, _ => .bad
def opDiv : W → W → Store → Out W := fun x y S => match x, y with
  | .int i, .int j => if decide (0 < j) && decide (j < 1073741824) then .ok (.int (i / j)) S else .bad
  | _, _ => .bad
def opMod : W → W → Store → Out W := fun x y S => match x, y with
  | .int i, .int j => if decide (0 < j) then .ok (.int (i % j)) S else .bad
  | _, _ => .bad
def opPow : W → W → Store → Out W := fun x y S => match x, y with
  | .int i, .int j => if decide (0 ≤ j) && (decide (j ≤ 1000) && decide (i.natAbs < 18446744073709551616)) then .ok (.int (i ^ j.toNat)) S else .bad
  | _, _ => .bad
def opNeg : W → Store → Out W := fun x S => match x with
  | .int i => .ok (.int (-i)) S
  | _ => .bad
def bW (o : Option Bool) (S : Store) : Out W := match o with
  | some b => .ok (.bl b) S
  | none => .bad
def eqD (x y : W) : Option Bool := if dle 30 x && dle 30 y then eqW x y else none
def opEq : W → W → Store → Out W := fun x y S => bW (eqD (rd S x) (rd S y)) S
def opNe : W → W → Store → Out W := fun x y S => bW ((eqD (rd S x) (rd S y)).map (! ·)) S
def ltL : List Nat → List Nat → Bool
  | _, [] => false
  | [], _ :: _ => true
  | a :: r, b :: s => if Nat.blt a b then true else if Nat.beq a b then ltL r s else false
def opLt : W → W → Store → Out W := fun x y S => match x, y with
  | .int i, .int j => .ok (.bl (decide (i < j))) S
  | .str a, .str b => .ok (.bl (ltL a b)) S
  | _, _ => .bad
def opLe : W → W → Store → Out W := fun x y S => match x, y with
  | .int i, .int j => .ok (.bl (decide (i ≤ j))) S
  | .str a, .str b => .ok (.bl (!ltL b a)) S
  | _, _ => .bad
def opGt : W → W → Store → Out W := fun x y S => opLt y x S
def opGe : W → W → Store → Out W := fun x y S => opLe y x S
def isIn (x y : W) (S : Store) : Option Bool := match y with
  | .str z => match x with
    | .str [c] => some (memN c z)
    | _ => none
  | .tup ys => if flat x && ys.all flat then inWs x ys else none
  | _ => match rd S y with
    | .lst ys => if dle 30 (rd S x) && dles 29 ys then inWs (rd S x) ys else none
    | _ => none
def opIn : W → W → Store → Out W := fun x y S => bW (isIn x y S) S
def opNotIn : W → W → Store → Out W := fun x y S => bW ((isIn x y S).map (! ·)) S
/-- is None, is not None, is True -/
def isNon : W → Bool
  | .non => true
  | _ => false
def opIsN : W → Store → Out W := fun x S => .ok (.bl (isNon x)) S
def opNotN : W → Store → Out W := fun x S => .ok (.bl (!isNon x)) S
def opIdx : W → W → Store → Out W := fun x y S => match y with
  | .int i => match x with
    | .str z => oks ((atI z i).map fun c => .str [c]) S
    | _ => match seqOf S x with
      | some xs => oks (atI xs i) S
      | none => .bad
  | _ => .bad
abbrev MO := DEnv → Store → Out (Option Int)
def oNone : MO := fun _ S => .ok none S
def oSome (a : ME) : MO := fun d S => (a d S).bind fun x S1 => match x with
  | .int i => .ok (some i) S1
  | _ => .bad
/-- x[lo:hi] -/
def sl (x : W) (l h : Option Int) (S : Store) : Out W := match x with
  | .str z => .ok (.str (cut z l h)) S
  | .tup xs => .ok (.tup (cut xs l h)) S
  | .lsr xs => .ok (.lst (cut xs l h)) S
  | _ => match rd S x with
    | .lst xs => .ok (.lst (cut xs l h)) S
    | _ => .bad
/-- the same, to be changed -/
def slM (x : W) (l h : Option Int) (S : Store) : Out W := match rd S x with
    | .lst xs => .ok (.ref S.next) (S.new (.lst (cut xs l h)))
    | _ => .bad
def eSl (f : W → Option Int → Option Int → Store → Out W) (a : ME) (lo hi : MO) : ME := fun d S => (a d S).bind fun x S1 => (lo d S1).bind fun l S2 => (hi d S2).bind fun h S3 => f x l h S3
/-- x[::-1] -/
def opRev : W → Store → Out W := fun x S => match x with
  | .tup xs => .ok (.tup xs.reverse) S
  | _ => match rd S x with
    | .lst xs => .ok (.lst xs.reverse) S
    | _ => .bad
def opRevM : W → Store → Out W := fun x S => match rd S x with
    | .lst xs => .ok (.ref S.next) (S.new (.lst xs.reverse))
    | _ => .bad

/-! ### texts -/
def digs : Nat → Nat → List Nat → List Nat
  | 0, _, acc => acc
  | f + 1, n, acc => if Nat.blt n 10 then (48 + n) :: acc else digs f (n / 10) ((48 + n % 10) :: acc)
def numL (n : Nat) : List Nat := digs (n + 1) n []
def intL (i : Int) : List Nat := match i with
  | .ofNat n => digs 700 n []
  | .negSucc n => 45 :: digs 700 (n + 1) []
def joinL (S : List Nat) : List (List Nat) → List Nat
  | [] => []
  | [p] => p
  | p :: q :: r => p ++ (S ++ joinL S (q :: r))
/-- cut at a single sign -/
def spl1 (c : Nat) : List Nat → List Nat → List (List Nat)
  | acc, [] => [acc.reverse]
  | acc, x :: r => if Nat.beq x c then acc.reverse :: spl1 c [] r else spl1 c (x :: acc) r
def strsOf : List W → Option (List (List Nat))
  | [] => some []
  | .str z :: r => (strsOf r).map (z :: ·)
  | _ :: _ => none
def mSplit : W → W → Store → Out W := fun x y S => match x, y with
  | .str z, .str [c] => if Nat.ble z.length LIM && Nat.blt c 128 then .ok (.lst ((spl1 c [] z).map .str)) S else .bad
  | _, _ => .bad
def mJoin : W → W → Store → Out W := fun x y S => match x with
  | .str z => match seqOf S y with
    | some ys => match strsOf ys with
      | some ss => if Nat.ble ((joinL z ss).length) LIM then .ok (.str (joinL z ss)) S else .bad
      | none => .bad
    | none => .bad
  | _ => .bad
def fmt (x : W) : Option (List Nat) := match x with
  | .str z => some z
  | .int i => if decide (i.natAbs < 1000000000000) then some (intL i) else none
  | _ => none
def eFmt (a : ME) : ME := fun d S => (a d S).bind fun x S1 => oks ((fmt x).map .str) S1
/-- the parts of an f-string -/
def eJoined : List ME → List Nat → ME
  | [], acc => fun _ S => .ok (.str acc) S
  | a :: r, acc => fun d S => (a d S).bind fun x S1 => match x with
    | .str z => if Nat.ble (acc.length + z.length) LIM then eJoined r (acc ++ z) d S1 else .bad
    | _ => .bad

/-! ### built-ins -/
def fLen : MF := fun xs S => match xs with
  | [.str z] => .ok (.int z.length) S
  | [x] => match seqOf S x with
    | some ys => .ok (.int ys.length) S
    | none => .bad
  | _ => .bad
def boolsAll : List W → Option Bool
  | [] => some true
  | .bl true :: r => boolsAll r
  | .bl false :: r => (boolsAll r).map fun _ => false
  | _ :: _ => none
def boolsAny : List W → Option Bool
  | [] => some false
  | .bl false :: r => boolsAny r
  | .bl true :: r => (boolsAny r).map fun _ => true
  | _ :: _ => none
def fAll : MF := fun xs S => match xs with
  | [x] => match rd S x with
    | .lst ys => bW (boolsAll ys) S
    | _ => .bad
  | _ => .bad
def fAny : MF := fun xs S => match xs with
  | [x] => match rd S x with
    | .lst ys => bW (boolsAny ys) S
    | _ => .bad
  | _ => .bad
def fTuple : MF := fun xs S => match xs with
  | [x] => match seqOf S x with
    | some ys => .ok (.tup ys) S
    | none => .bad
  | _ => .bad
def fList : MF := fun xs S => match xs with
  | [x] => match seqOf S x with
    | some ys => .ok (.lst ys) S
    | none => .bad
  | _ => .bad
def fListM : MF := fun xs S => match xs with
  | [x] => match seqOf S x with
    | some ys => .ok (.ref S.next) (S.new (.lst ys))
    | none => .bad
  | _ => .bad
def fAbs : MF := fun xs S => match xs with
  | [.int i] => .ok (.int (if i < 0 then -i else i)) S
  | _ => .bad
def dval : List Nat → Nat → Option Nat
  | [], a => some a
  | c :: r, a => if Nat.ble 48 c && Nat.ble c 57 then dval r (a * 10 + (c - 48)) else none
def textInt (z : List Nat) : Option Int := match z with
  | [] => none
  | 45 :: r => match r with
    | [] => none
    | _ :: _ => (dval r 0).map fun n => -(n : Int)
  | _ :: _ => (dval z 0).map fun n => (n : Int)
def fInt : MF := fun xs S => match xs with
  | [.int i] => .ok (.int i) S
  | [.bl b] => .ok (.int (b2i b)) S
  | [.str z] => if Nat.ble z.length 100 then oks ((textInt z).map .int) S else .bad
  | _ => .bad
def fStr : MF := fun xs S => match xs with
  | [x] => oks ((fmt x).map .str) S
  | _ => .bad
def intsSum : List W → Option Int
  | [] => some 0
  | .int i :: r => (intsSum r).map (i + ·)
  | _ :: _ => none
def fSum : MF := fun xs S => match xs with
  | [x] => match rd S x with
    | .lst ys => oks ((intsSum ys).map .int) S
    | _ => .bad
  | _ => .bad

/-! ### isinstance: what a value is, by a table of own classes (each with those that it is) -/
inductive Ty where
  | int | bool | str | list | tuple | own (c : Nat)
def tyBool : Ty → Bool
  | .int => true
  | .bool => true
  | _ => false
def tyInt : Ty → Bool
  | .int => true
  | _ => false
def tyStr : Ty → Bool
  | .str => true
  | _ => false
def tyTup : Ty → Bool
  | .tuple => true
  | _ => false
def tyLst : Ty → Bool
  | .list => true
  | _ => false
def tyOwn (l : List Nat) : Ty → Bool
  | .own k => l.elem k
  | _ => false
def tyIs (sup : Nat → List Nat) (S : Store) (x : W) (t : Ty) : Option Bool := match x with
  | .non => some false
  | .bl _ => some (tyBool t)
  | .int _ => some (tyInt t)
  | .str _ => some (tyStr t)
  | .tup _ => some (tyTup t)
  | .lst _ => some (tyLst t)
  | .obj c _ => some (tyOwn (sup c) t)
  | .ref n => match S.get n with
    | some (.lst _) => some (tyLst t)
    | some (.ins c _) => some (tyOwn (sup c) t)
    | _ => none
  | _ => none
def anyTy (sup : Nat → List Nat) (S : Store) (x : W) : List Ty → Option Bool
  | [] => some false
  | t :: r => match tyIs sup S x t with
    | some true => some true
    | some false => anyTy sup S x r
    | none => none
def eIsi (sup : Nat → List Nat) (ts : List Ty) (a : ME) : ME := fun d S => (a d S).bind fun x S1 => bW (anyTy sup S1 x ts) S1

/-! ### targets -/
/-- names at places; nested tuples of them -/
inductive Tg where
  | nm (i : Nat) | tp (ts : List Tg)
mutual
def stTg : Tg → W → DEnv → Option DEnv
  | .nm i, w, d => some (setS d i (some w))
  | .tp ts, w, d => match w with
    | .tup ws => stTgs ts ws d
    | _ => none
def stTgs : List Tg → List W → DEnv → Option DEnv
  | [], ws, d => match ws with
    | [] => some d
    | _ :: _ => none
  | t :: ts, ws, d => match ws with
    | [] => none
    | w :: ws => match stTg t w d with
      | some d1 => stTgs ts ws d1
      | none => none
end

/-! ### what is walked: its items, and the lists of the store that must stay as they are meanwhile -/
mutual
def sameW : W → W → Bool
  | .non, b => match b with
    | .non => true
    | _ => false
  | .bl a, b => match b with
    | .bl c => a == c
    | _ => false
  | .int i, b => match b with
    | .int j => decide (i = j)
    | _ => false
  | .str x, b => match b with
    | .str y => beqL x y
    | _ => false
  | .tup xs, b => match b with
    | .tup ys => sameWs xs ys
    | _ => false
  | .lst xs, b => match b with
    | .lst ys => sameWs xs ys
    | _ => false
  | .ref n, b => match b with
    | .ref m => Nat.beq n m
    | _ => false
  | .obj c fs, b => match b with
    | .obj k gs => if Nat.beq c k then sameFs fs gs else false
    | _ => false
  | .cls c, b => match b with
    | .cls k => Nat.beq c k
    | _ => false
  | .lsr _, _ => false
def sameFs : List (Nat × W) → List (Nat × W) → Bool
  | [], b => match b with
    | [] => true
    | _ :: _ => false
  | (i, x) :: r, b => match b with
    | [] => false
    | (j, y) :: s => if Nat.beq i j then (if sameW x y then sameFs r s else false) else false
def sameWs : List W → List W → Bool
  | [], b => match b with
    | [] => true
    | _ :: _ => false
  | x :: r, b => match b with
    | [] => false
    | y :: s => if sameW x y then sameWs r s else false
end
abbrev Gd := List (Nat × List W)
def still (S : Store) : Gd → Bool
  | [] => true
  | (n, xs) :: r => match S.get n with
    | some (.lst ys) => if sameWs ys xs then still S r else false
    | _ => false
abbrev MI := DEnv → Store → Out (List W × Gd)
/-- items of a sequence -/
def itOf (S : Store) (w : W) : Option (List W × Gd) := match w with
  | .tup xs => some (xs, [])
  | .lst xs => some (xs, [])
  | .lsr xs => some (xs, [])
  | .str z => some (z.map fun c => .str [c], [])
  | .ref n => match S.get n with
    | some (.lst xs) => some (xs, [(n, xs)])
    | _ => none
  | _ => none
def iSeq (a : ME) : MI := fun d S => (a d S).bind fun x S1 => oks (itOf S1 x) S1
def rangeL (lo : Int) : Nat → List W
  | 0 => []
  | n + 1 => .int lo :: rangeL (lo + 1) n
def inMil (i : Int) : Bool := decide (-1000000 < i) && decide (i < 1000000)
def iRange1 (hi : ME) : MI := fun d S => (hi d S).bind fun y S2 => match y with
  | .int j => if inMil j then .ok (rangeL 0 j.toNat, []) S2 else .bad
  | _ => .bad
def iRange (lo hi : ME) : MI := fun d S => (lo d S).bind fun x S1 => (hi d S1).bind fun y S2 => match x with
  | .int i => match y with
    | .int j => if inMil i && inMil j then .ok (rangeL i (j - i).toNat, []) S2 else .bad
    | _ => .bad
  | _ => .bad
def enumL (i : Nat) : List W → List W
  | [] => []
  | x :: r => .tup [.int i, x] :: enumL (i + 1) r
def iEnum (a : ME) : MI := fun d S => (a d S).bind fun x S1 => match itOf S1 x with
  | some (xs, g) => .ok (enumL 0 xs, g) S1
  | none => .bad
def zipL : List W → List W → List W
  | x :: r, y :: s => .tup [x, y] :: zipL r s
  | _, _ => []
def iZip (a b : ME) : MI := fun d S => (a d S).bind fun x S1 => (b d S1).bind fun y S2 => match itOf S2 x with
  | some (xs, g) => match itOf S2 y with
    | some (ys, g') => .ok (zipL xs ys, g ++ g') S2
    | none => .bad
  | none => .bad

/-! ### comprehensions -/
def wipeS (d : DEnv) : List Nat → DEnv
  | [] => d
  | i :: r => setS (wipeS d r) i none
/-- over the items; own: the places of the comprehension's names -/
def lcGo (g : Gd) (tg : Tg) (c : MT) (e : ME) (d : DEnv) : List W → Store → Out (List W)
  | [], S => if still S g then .ok [] S else .bad
  | x :: r, S => if still S g then match stTg tg x d with
    | none => .bad
    | some d1 => (c d1 S).bind fun b S1 => if b then (e d1 S1).bind fun y S2 => (lcGo g tg c e d r S2).bind fun ys S3 => .ok (y :: ys) S3 else lcGo g tg c e d r S1
    else .bad
def tYes : MT := fun _ S => .ok true S
def lcL (own : List Nat) (it : MI) (tg : Tg) (c : MT) (e : ME) (d : DEnv) (S : Store) : Out (List W) := (it d S).bind fun p S1 => if Nat.ble p.1.length LIM then lcGo p.2 tg c e (wipeS d own) p.1 S1 else .bad
def eLc (own : List Nat) (it : MI) (tg : Tg) (c : MT) (e : ME) : ME := fun d S => (lcL own it tg c e d S).bind fun ys S1 => .ok (.lst ys) S1
def eLcM (own : List Nat) (it : MI) (tg : Tg) (c : MT) (e : ME) : ME := fun d S => (lcL own it tg c e d S).bind fun ys S1 => .ok (.ref S1.next) (S1.new (.lst ys))
/-- two walks, one within the other -/
def lcGo2 (g : Gd) (it2 : MI) (tg tg2 : Tg) (c : MT) (e : ME) (d : DEnv) : List W → Store → Out (List W)
  | [], S => if still S g then .ok [] S else .bad
  | x :: r, S => if still S g then match stTg tg x d with
    | none => .bad
    | some d1 => (it2 d1 S).bind fun p S1 => (lcGo p.2 tg2 c e d1 p.1 S1).bind fun ys S2 => (lcGo2 g it2 tg tg2 c e d r S2).bind fun zs S3 => .ok (ys ++ zs) S3
    else .bad
def lcL2 (own : List Nat) (it it2 : MI) (tg tg2 : Tg) (c : MT) (e : ME) (d : DEnv) (S : Store) : Out (List W) := (it d S).bind fun p S1 => (lcGo2 p.2 it2 tg tg2 c e (wipeS d own) p.1 S1).bind fun ys S2 => if Nat.ble ys.length LIM then .ok ys S2 else .bad
def eLc2 (own : List Nat) (it it2 : MI) (tg tg2 : Tg) (c : MT) (e : ME) : ME := fun d S => (lcL2 own it it2 tg tg2 c e d S).bind fun ys S1 => .ok (.lst ys) S1

/-! ### methods of built-in things: the receiver is looked at ahead of the arguments -/
def isL (x : W) (S : Store) : Bool := match x with
  | .lst _ => true
  | .ref n => match S.get n with
    | some (.lst _) => true
    | _ => false
  | _ => false
def isS (x : W) : Bool := match x with
  | .str _ => true
  | _ => false
def eMtL (f : W → List W → Store → Out W) (o : ME) (a : MA) : ME := fun d S => (o d S).bind fun x S1 => if isL x S1 then (a d S1).bind fun xs S2 => f x xs S2 else .bad
def eMtS (f : W → List W → Store → Out W) (o : ME) (a : MA) : ME := fun d S => (o d S).bind fun x S1 => if isS x then (a d S1).bind fun xs S2 => f x xs S2 else .bad
def m0 (f : W → Store → Out W) : W → List W → Store → Out W := fun o xs S => match xs with
  | [] => f o S
  | _ => .bad
def m1 (f : W → W → Store → Out W) : W → List W → Store → Out W := fun o xs S => match xs with
  | [v] => f o v S
  | _ => .bad

/-! ### statements -/
def sNext : MS := fun d S => .ok (.nx d) S
def sSeq (a b : MS) : MS := fun d S => (a d S).bind fun f S1 => match f with
  | .nx d1 => b d1 S1
  | f => .ok f S1
def sAsg (tg : Tg) (a : ME) : MS := fun d S => (a d S).bind fun x S1 => match stTg tg x d with
  | some d1 => .ok (.nx d1) S1
  | none => .bad
def sExpr (a : ME) : MS := fun d S => (a d S).bind fun _ S1 => .ok (.nx d) S1
def sRet (a : ME) : MS := fun d S => (a d S).bind fun x S1 => .ok (.rt x) S1
def sIf (t : MT) (a b : MS) : MS := fun d S => (t d S).bind fun x S1 => if x then a d S1 else b d S1
def sBreak : MS := fun d S => .ok (.br d) S
def sCont : MS := fun d S => .ok (.ct d) S
def forGo (g : Gd) (tg : Tg) (b : MS) : List W → MS
  | [], d, S => if still S g then .ok (.nx d) S else .bad
  | x :: r, d, S => if still S g then match stTg tg x d with
    | none => .bad
    | some d1 => (b d1 S).bind fun f S1 => match f with
      | .nx d2 => forGo g tg b r d2 S1
      | .ct d2 => forGo g tg b r d2 S1
      | .br d2 => .ok (.nx d2) S1
      | .rt w => .ok (.rt w) S1
    else .bad
def sFor (it : MI) (tg : Tg) (b : MS) : MS := fun d S => (it d S).bind fun p S1 => forGo p.2 tg b p.1 d S1
def sWhile (t : MT) (b : MS) : Nat → MS
  | 0, _, _ => .bad
  | n + 1, d, S => (t d S).bind fun x S1 => if x then (b d S1).bind fun f S2 => match f with
      | .nx d2 => sWhile t b n d2 S2
      | .ct d2 => sWhile t b n d2 S2
      | .br d2 => .ok (.nx d2) S2
      | .rt w => .ok (.rt w) S2
    else .ok (.nx d) S1
/-- o.f = e -/
def setFld (k : Nat) (o v : W) (S : Store) : Option Store := match o with
  | .ref n => match S.get n with
    | some (.ins c fs) => if Nat.blt fs.length 900 then some (S.put n (.ins c (mapPut fs k v))) else none
    | _ => none
  | _ => none
def sFld (k : Nat) (o a : ME) : MS := fun d S => (a d S).bind fun v S1 => (o d S1).bind fun x S2 => match setFld k x v S2 with
  | some S3 => .ok (.nx d) S3
  | none => .bad
/-- xs[i] = e -/
def setIdx (o i v : W) (S : Store) : Option Store := match o with
  | .ref n => match S.get n with
    | some (.lst xs) => match i with
      | .int i => match ixN xs.length i with
        | some j => some (S.put n (.lst (xs.set j v)))
        | none => none
      | _ => none
    | _ => none
  | _ => none
def sIdx (o i a : ME) : MS := fun d S => (a d S).bind fun v S1 => (o d S1).bind fun x S2 => (i d S2).bind fun y S3 => match setIdx x y v S3 with
  | some S4 => .ok (.nx d) S4
  | none => .bad
/-- methods of lists that are changed -/
def mAppend : W → W → Store → Out W := fun o v S => match o with
  | .ref n => match S.get n with
    | some (.lst xs) => if Nat.blt xs.length LIM then .ok .non (S.put n (.lst (xs ++ [v]))) else .bad
    | _ => .bad
  | _ => .bad
def mExtend : W → W → Store → Out W := fun o v S => match o with
  | .ref n => match S.get n with
    | some (.lst xs) => match rd S v with
      | .lst ys => if Nat.ble (xs.length + ys.length) LIM then .ok .non (S.put n (.lst (xs ++ ys))) else .bad
      | _ => .bad
    | _ => .bad
  | _ => .bad
def mPop : W → Store → Out W := fun o S => match o with
  | .ref n => match S.get n with
    | some (.lst xs) => match xs.getLast? with
      | some y => .ok y (S.put n (.lst xs.dropLast))
      | none => .bad
    | _ => .bad
  | _ => .bad
def mPopAt : W → W → Store → Out W := fun o i S => match o with
  | .ref n => match S.get n with
    | some (.lst xs) => match i with
      | .int i => match ixN xs.length i with
        | some j => match xs[j]? with
          | some y => .ok y (S.put n (.lst (xs.eraseIdx j)))
          | none => .bad
        | none => .bad
      | _ => .bad
    | _ => .bad
  | _ => .bad
/-- how many True -/
def countT : List W → Option Nat
  | [] => some 0
  | .bl true :: r => (countT r).map (· + 1)
  | .bl false :: r => countT r
  | _ :: _ => none
def mCount : W → W → Store → Out W := fun o v S => match v with
  | .bl true => match rd S o with
    | .lst xs => oks ((countT xs).map fun n => .int n) S
    | _ => .bad
  | _ => .bad

/-- a def: how many parameters, how many names, its body -/
def fnOf (np n : Nat) (b : MS) : MF := fun xs S => if !Nat.beq xs.length np then .bad else (b (xs.map some ++ List.replicate (n - xs.length) none) S).bind fun f S1 => match f with
  | .nx _ => .ok .non S1
  | .rt w => .ok w S1
  | _ => .bad
/-- what is returned is not changed any more: a list of the store becomes a value -/
def frz (S : Store) (w : W) : Out W := match w with
  | .ref n => match S.get n with
    | some (.lst xs) => .ok (.lst xs) (S.drop n)
    | some (.ins c fs) => .ok (.obj c fs) (S.drop n)
    | _ => .ok w S
  | _ => .ok w S
/-- C(..): made, __init__ done; kept in the store, or as a value -/
def mkM (c : Nat) (init : MF) : MF := fun xs S => (init (.ref S.next :: xs) (S.new (.ins c []))).bind fun y S1 => if isNon y then .ok (.ref S.next) S1 else .bad
def mkF (c : Nat) (init : MF) : MF := fun xs S => (init (.ref S.next :: xs) (S.new (.ins c []))).bind fun y S1 => if isNon y then match S1.get S.next with
    | some (.ins k fs) => .ok (.obj k fs) (S1.drop S.next)
    | _ => .bad
  else .bad
/-- the class of an object -/
def clsOf (S : Store) (w : W) : Option Nat := match w with
  | .obj c _ => some c
  | .ref n => match S.get n with
    | some (.ins c _) => some c
    | _ => none
  | _ => none
/-- o.m(..) by the class of o, which is looked at ahead of the arguments -/
def tabAt (tab : List (Nat × MF)) (c : Nat) : Option MF := match tab with
  | [] => none
  | (k, f) :: r => if Nat.beq k c then some f else tabAt r c
def eMeth (tab : List (Nat × MF)) (o : ME) (a : MA) : ME := fun d S => (o d S).bind fun x S1 => match clsOf S1 x with
  | some c => match tabAt tab c with
    | some f => (a d S1).bind fun xs S2 => f (x :: xs) S2
    | none => .bad
  | none => .bad
end Mir
set_option Elab.async false
set_option linter.all false
set_option maxRecDepth 100000
set_option maxHeartbeats 2000000
/-! MW: values of Mir and values of the machine; what a piece of code does, as a piece of Mir. -/
namespace MW
open PySem L2 Mir
abbrev Frag := PySem.W.Frag
abbrev V := L2.V

/-! ### the static part: the module's facts, the names of classes and attributes by number -/
structure Nm where
  cn : List Str
  an : List Str
  nd : an.Nodup
structure Tab where
  K : Frag
  mg : Str → Option Value
  nm : Nm
def Tab.cls (T : Tab) (c : Nat) : Option Addr := match T.nm.cn[c]? with
  | some x => match T.mg x with
    | some (.ref C) => some C
    | _ => none
  | none => none

/-! ### values -/
mutual
inductive RelW (T : Tab) (r : Nat → Option Addr) (G : Hp) : Mir.W → V → Prop where
  | non : RelW T r G .non .non
  | bl (b : Bool) : RelW T r G (.bl b) (.bl b)
  | int (i : Int) : RelW T r G (.int i) (.int i)
  | str {x : Str} {z : List Nat} (e : TL.tl x = z) (h : okS z = true) : RelW T r G (.str z) (.str x)
  | tup {a : Addr} {ws : List Mir.W} {vs : List V} (h : SqT T.K G a vs) (q : RelWs T r G ws vs) : RelW T r G (.tup ws) (.ref a)
  | lst {a : Addr} {ws : List Mir.W} {vs : List V} (h : G a = some (.lst vs)) (q : RelWs T r G ws vs) : RelW T r G (.lst ws) (.ref a)
  | lsr {a : Addr} {ws : List Mir.W} {vs : List V} (h : SqL T.K G a vs) (q : RelWs T r G ws vs) : RelW T r G (.lsr ws) (.ref a)
  | obj {a C dx : Addr} {c : Nat} {ws : List (Nat × Mir.W)} {fs : List (Str × V)} (h : G a = some (.ins C dx fs)) (hc : T.cls c = some C) (q : RelFs T r G ws fs) : RelW T r G (.obj c ws) (.ref a)
  | ref {n : Nat} {a : Addr} (h : r n = some a) : RelW T r G (.ref n) (.ref a)
  | cls {c : Nat} {C : Addr} (hc : T.cls c = some C) : RelW T r G (.cls c) (.ref C)
inductive RelWs (T : Tab) (r : Nat → Option Addr) (G : Hp) : List Mir.W → List V → Prop where
  | nil : RelWs T r G [] []
  | cons {w : Mir.W} {v : V} {ws : List Mir.W} {vs : List V} (h : RelW T r G w v) (q : RelWs T r G ws vs) : RelWs T r G (w :: ws) (v :: vs)
inductive RelFs (T : Tab) (r : Nat → Option Addr) (G : Hp) : List (Nat × Mir.W) → List (Str × V) → Prop where
  | nil : RelFs T r G [] []
  | cons {k : Nat} {x : Str} {w : Mir.W} {v : V} {ws : List (Nat × Mir.W)} {fs : List (Str × V)} (e : T.nm.an[k]? = some x) (h : RelW T r G w v) (q : RelFs T r G ws fs) : RelFs T r G ((k, w) :: ws) ((x, v) :: fs)
end

/-- keys of dicts, entries -/
inductive RelK : Mir.W → Key → Prop where
  | int (i : Int) : RelK (.int i) (.inl i)
  | str {x : Str} {z : List Nat} (e : TL.tl x = z) (h : okS z = true) : RelK (.str z) (.inr x)
inductive RelKs (T : Tab) (r : Nat → Option Addr) (G : Hp) : List (Mir.W × Mir.W) → List (Key × V) → Prop where
  | nil : RelKs T r G [] []
  | cons {k w : Mir.W} {x : Key} {v : V} {ws : List (Mir.W × Mir.W)} {fs : List (Key × V)} (e : RelK k x) (h : RelW T r G w v) (q : RelKs T r G ws fs) : RelKs T r G ((k, w) :: ws) ((x, v) :: fs)
abbrev Ex (H H' : Hp) : Prop := Same H H'
def LeR (r r' : Nat → Option Addr) : Prop := ∀ n a, r n = some a → r' n = some a
theorem LeR.refl (r : Nat → Option Addr) : LeR r r := fun _ _ h => h
theorem LeR.trans {r r1 r2 : Nat → Option Addr} (a : LeR r r1) (b : LeR r1 r2) : LeR r r2 := fun n x h => b n x (a n x h)
theorem rd_ex {H H' : Hp} {a : Addr} {u : HO} (e : Ex H H') (h : Rd H a u) : Rd H' a u := by
  rcases h with h | ⟨o, h⟩
  · exact .inl (e a _ h)
  · exact .inr ⟨o, e a _ h⟩
theorem sqL_ex {K : Frag} {H H' : Hp} {a : Addr} {xs : List V} (e : Ex H H') (h : SqL K H a xs) : SqL K H' a xs := by
  rcases h with h | h
  · exact .inl (rd_ex e h)
  · exact .inr h
theorem sqT_ex {K : Frag} {H H' : Hp} {a : Addr} {xs : List V} (e : Ex H H') (h : SqT K H a xs) : SqT K H' a xs := by
  rcases h with h | h
  · exact .inl (rd_ex e h)
  · exact .inr h
section
variable {T : Tab} {r r' : Nat → Option Addr} {G G' : Hp}
mutual
theorem RelW.mono (l : LeR r r') (e : Ex G G') : ∀ {w : Mir.W} {v : V}, RelW T r G w v → RelW T r' G' w v
  | _, _, .non => .non
  | _, _, .bl b => .bl b
  | _, _, .int i => .int i
  | _, _, .str e h => .str e h
  | _, _, .tup h q => .tup (sqT_ex e h) (RelWs.mono l e q)
  | _, _, .lst h q => .lst (e _ _ h) (RelWs.mono l e q)
  | _, _, .lsr h q => .lsr (sqL_ex e h) (RelWs.mono l e q)
  | _, _, .obj h hc q => .obj (e _ _ h) hc (RelFs.mono l e q)
  | _, _, .ref h => .ref (l _ _ h)
  | _, _, .cls h => .cls h
theorem RelWs.mono (l : LeR r r') (e : Ex G G') : ∀ {w : List Mir.W} {v : List V}, RelWs T r G w v → RelWs T r' G' w v
  | _, _, .nil => .nil
  | _, _, .cons h q => .cons (RelW.mono l e h) (RelWs.mono l e q)
theorem RelFs.mono (l : LeR r r') (e : Ex G G') : ∀ {w : List (Nat × Mir.W)} {v : List (Str × V)}, RelFs T r G w v → RelFs T r' G' w v
  | _, _, .nil => .nil
  | _, _, .cons k h q => .cons k (RelW.mono l e h) (RelFs.mono l e q)
end
theorem RelKs.mono (l : LeR r r') (e : Ex G G') {w : List (Mir.W × Mir.W)} {v : List (Key × V)} (h : RelKs T r G w v) : RelKs T r' G' w v := by
  induction h with
  | nil => exact .nil
  | cons k h _ ih => exact .cons k (h.mono l e) ih
theorem RelWs.length {ws : List Mir.W} {vs : List V} (h : RelWs T r G ws vs) : ws.length = vs.length := by
  induction ws generalizing vs with
  | nil => cases h; rfl
  | cons w ws ih => cases h with | cons h q => rw [List.length_cons, List.length_cons, ih q]
theorem RelWs.append {ws us : List Mir.W} {vs xs : List V} (h : RelWs T r G ws vs) (k : RelWs T r G us xs) : RelWs T r G (ws ++ us) (vs ++ xs) := by
  induction ws generalizing vs with
  | nil => cases h; exact k
  | cons w ws ih => cases h with | cons h q => exact .cons h (ih q)
theorem RelWs.drop {ws : List Mir.W} {vs : List V} (h : RelWs T r G ws vs) (n : Nat) : RelWs T r G (ws.drop n) (vs.drop n) := by
  induction n generalizing ws vs with
  | zero => exact h
  | succ n ih => cases h with
    | nil => exact .nil
    | cons h q => exact ih q
theorem RelWs.take {ws : List Mir.W} {vs : List V} (h : RelWs T r G ws vs) (n : Nat) : RelWs T r G (ws.take n) (vs.take n) := by
  induction n generalizing ws vs with
  | zero => exact .nil
  | succ n ih => cases h with
    | nil => exact .nil
    | cons h q => exact .cons h (ih q)
theorem RelWs.get {ws : List Mir.W} {vs : List V} (h : RelWs T r G ws vs) {i : Nat} {w : Mir.W} (e : ws[i]? = some w) : ∃ v, vs[i]? = some v ∧ RelW T r G w v := by
  induction i generalizing ws vs with
  | zero => cases h with
    | nil => cases e
    | cons h q => cases e; exact ⟨_, rfl, h⟩
  | succ i ih => cases h with
    | nil => cases e
    | cons h q => exact ih q e
theorem RelWs.getV {ws : List Mir.W} {vs : List V} (h : RelWs T r G ws vs) {i : Nat} {v : V} (e : vs[i]? = some v) : ∃ w, ws[i]? = some w ∧ RelW T r G w v := by
  induction i generalizing ws vs with
  | zero => cases h with
    | nil => cases e
    | cons h q => cases e; exact ⟨_, rfl, h⟩
  | succ i ih => cases h with
    | nil => cases e
    | cons h q => exact ih q e
theorem RelWs.set {ws : List Mir.W} {vs : List V} (h : RelWs T r G ws vs) (i : Nat) {w : Mir.W} {v : V} (k : RelW T r G w v) : RelWs T r G (ws.set i w) (vs.set i v) := by
  induction i generalizing ws vs with
  | zero => cases h with
    | nil => exact .nil
    | cons h q => exact .cons k q
  | succ i ih => cases h with
    | nil => exact .nil
    | cons h q => exact .cons h (ih q)
theorem RelWs.eraseIdx {ws : List Mir.W} {vs : List V} (h : RelWs T r G ws vs) (i : Nat) : RelWs T r G (ws.eraseIdx i) (vs.eraseIdx i) := by
  induction i generalizing ws vs with
  | zero => cases h with
    | nil => exact .nil
    | cons h q => exact q
  | succ i ih => cases h with
    | nil => exact .nil
    | cons h q => exact .cons h (ih q)
theorem RelWs.reverse {ws : List Mir.W} {vs : List V} (h : RelWs T r G ws vs) : RelWs T r G ws.reverse vs.reverse := by
  induction ws generalizing vs with
  | nil => cases h; exact .nil
  | cons w ws ih => cases h with
    | cons h q =>
      rw [List.reverse_cons, List.reverse_cons]
      exact (ih q).append (.cons h .nil)
theorem RelWs.dropLast {ws : List Mir.W} {vs : List V} (h : RelWs T r G ws vs) : RelWs T r G ws.dropLast vs.dropLast := by
  rw [List.dropLast_eq_take, List.dropLast_eq_take, h.length]
  exact h.take _
end

/-! ### worlds -/
structure Wd where
  r : Nat → Option Addr
  G : Hp
  S : Store
  H : Hp
def RelO (T : Tab) (r : Nat → Option Addr) (G : Hp) (o : SO) (h : Option HO) : Prop := match o with
  | .lst ws => ∃ vs, h = some (.lst vs) ∧ RelWs T r G ws vs
  | .ins c ws => ∃ C dx fs, h = some (.ins C dx fs) ∧ T.cls c = some C ∧ RelFs T r G ws fs
  | .dct ws => ∃ fs, h = some (.dK fs) ∧ RelKs T r G ws fs
theorem RelO.mono {T : Tab} {r r' : Nat → Option Addr} {G G' : Hp} (l : LeR r r') (e : Ex G G') {o : SO} {h : Option HO} (q : RelO T r G o h) : RelO T r' G' o h := by
  cases o with
  | lst ws => obtain ⟨vs, h1, h2⟩ := q; exact ⟨vs, h1, h2.mono l e⟩
  | ins c ws => obtain ⟨C, dx, fs, h1, h2, h3⟩ := q; exact ⟨C, dx, fs, h1, h2, h3.mono l e⟩
  | dct ws => obtain ⟨fs, h1, h2⟩ := q; exact ⟨fs, h1, h2.mono l e⟩
theorem RelO.some {T : Tab} {r : Nat → Option Addr} {G : Hp} {o : SO} {h : Option HO} (q : RelO T r G o h) : ∃ u, h = some u := by
  cases o with
  | lst ws => obtain ⟨vs, h1, h2⟩ := q; exact ⟨_, h1⟩
  | ins c ws => obtain ⟨C, dx, fs, h1, h2, h3⟩ := q; exact ⟨_, h1⟩
  | dct ws => obtain ⟨fs, h1, h2⟩ := q; exact ⟨_, h1⟩
/-- n stands in the store, at a -/
def At (w : Wd) (n : Nat) (a : Addr) : Prop := (∃ o, w.S.get n = some o) ∧ w.r n = some a
structure Ok (T : Tab) (w : Wd) : Prop where
  ex : Ex w.G w.H
  own : ∀ n o, w.S.get n = some o → ∃ a, w.r n = some a ∧ w.G a = none ∧ RelO T w.r w.G o (w.H a)
  inj : ∀ n m a, At w n a → At w m a → n = m
  dom : ∀ n a, w.r n = some a → n < w.S.next ∧ ∃ o, w.H a = some o
  nd : (w.S.objs.map (·.1)).Nodup
structure Ext (w w' : Wd) : Prop where
  le : LeR w.r w'.r
  ex : Ex w.G w'.G
  fr : ∀ a o, w.H a = some o → (∀ n, ¬ At w n a) → w'.H a = some o
  sub : ∀ n a, At w' n a → At w n a ∨ w.H a = none
  al : ∀ a o, w.H a = some o → ∃ o', w'.H a = some o'
  gn : ∀ a o, w.H a = some o → w.G a = none → (∀ n, ¬ At w n a) → w'.G a = none
/-- what values lean on -/
structure ExtG (w w' : Wd) : Prop where
  le : LeR w.r w'.r
  ex : Ex w.G w'.G
theorem Ext.g {w w' : Wd} (e : Ext w w') : ExtG w w' := ⟨e.le, e.ex⟩
theorem ExtG.trans {w w1 w2 : Wd} (a : ExtG w w1) (b : ExtG w1 w2) : ExtG w w2 := ⟨a.le.trans b.le, Same.trans a.ex b.ex⟩
theorem Ext.refl (w : Wd) : Ext w w := ⟨LeR.refl _, Same.refl _, fun _ _ h _ => h, fun _ _ h => .inl h, fun _ o h => ⟨o, h⟩, fun _ _ _ h _ => h⟩
theorem Ext.trans {w w1 w2 : Wd} (a : Ext w w1) (b : Ext w1 w2) : Ext w w2 where
  le := a.le.trans b.le
  ex := Same.trans a.ex b.ex
  fr := fun x o h hn => b.fr x o (a.fr x o h hn) fun n q => (a.sub n x q).elim (hn n) fun z => by rw [h] at z; cases z
  sub := fun n x h => (b.sub n x h).elim (a.sub n x) fun z => .inr (by
    cases q : w.H x with
    | none => rfl
    | some o =>
      obtain ⟨o', e⟩ := a.al x o q
      rw [e] at z
      cases z)
  al := fun x o h => by
    obtain ⟨o1, h1⟩ := a.al x o h
    exact b.al x o1 h1
  gn := fun x o h hG hn => b.gn x o (a.fr x o h hn) (a.gn x o h hG hn) fun n q => (a.sub n x q).elim (hn n) fun z => by rw [h] at z; cases z

/-! ### what is wanted behind a piece of code -/
def PostG {α : Type} (T : Tab) (w : Wd) (r : Out α) (Q : α → Wd → Prop) (E : XK) : Prop := match r with
  | .ok x S' => ∀ w', Ok T w' → Ext w w' → w'.S = S' → Q x w'
  | .err c fs S' => ∀ w', Ok T w' → Ext w w' → w'.S = S' → ∀ C d vs, T.cls c = some C → w'.H d = some (.xd vs) → RelFs T w'.r w'.G fs vs → E (.ref C) (some d) w'.H
  | .bad => False
section
variable {α β : Type} {T : Tab} {w w1 : Wd} {E : XK} {r : Out α} {Q Q' : α → Wd → Prop}
theorem PostG.mono (h : PostG T w r Q E) (e : Ext w w1) : PostG T w1 r Q E := by
  cases r with
  | ok x S' => exact fun w' o x' hs => h w' o (e.trans x') hs
  | err c fs S' => exact fun w' o x' hs => h w' o (e.trans x') hs
  | bad => exact h
theorem PostG.imp (h : PostG T w r Q E) (k : ∀ x w', Ok T w' → Ext w w' → Q x w' → Q' x w') : PostG T w r Q' E := by
  cases r with
  | ok x S' => exact fun w' o x' hs => k x w' o x' (h w' o x' hs)
  | err c fs S' => exact h
  | bad => exact h
theorem PostG.bind {k : α → Store → Out β} {R : β → Wd → Prop} (h : PostG T w (r.bind k) R E) : PostG T w r (fun x w1 => PostG T w1 (k x w1.S) R E) E := by
  cases r with
  | ok x S1 =>
    intro w1 o1 x1 hs
    subst hs
    exact PostG.mono (show PostG T w (k x w1.S) R E from h) x1
  | err c fs S1 => exact h
  | bad => exact h
/-- nothing changes -/
theorem PostG.here {x : α} {S : Store} (o : Ok T w) (hs : w.S = S) (h : PostG T w (.ok x S) Q E) : Q x w := h w o (Ext.refl w) hs
end
abbrev QW (T : Tab) (Q : VK) : Mir.W → Wd → Prop := fun x w => ∀ v, RelW T w.r w.G x v → Q v w.H
abbrev QT (Q : Bool → Hp → Prop) : Bool → Wd → Prop := fun x w => Q x w.H
abbrev QA (T : Tab) (Q : List V → Hp → Prop) : List Mir.W → Wd → Prop := fun x w => ∀ vs, RelWs T w.r w.G x vs → Q vs w.H

/-! ### slots -/
inductive RelEnv (T : Tab) (r : Nat → Option Addr) (G : Hp) : DEnv → St → Prop where
  | nil : RelEnv T r G [] []
  | none {o : Option V} {d : DEnv} {s : St} (q : RelEnv T r G d s) : RelEnv T r G (none :: d) (o :: s)
  | some {x : Mir.W} {v : V} {d : DEnv} {s : St} (h : RelW T r G x v) (q : RelEnv T r G d s) : RelEnv T r G (some x :: d) (some v :: s)
section
variable {T : Tab} {r r' : Nat → Option Addr} {G G' : Hp}
theorem RelEnv.mono (l : LeR r r') (e : Ex G G') {d : DEnv} {s : St} (h : RelEnv T r G d s) : RelEnv T r' G' d s := by
  induction h with
  | nil => exact .nil
  | none _ ih => exact .none ih
  | some h _ ih => exact .some (h.mono l e) ih
theorem RelEnv.get {d : DEnv} {s : St} (h : RelEnv T r G d s) {i : Nat} {x : Mir.W} (e : getS d i = Option.some x) : ∃ v, s[i]? = Option.some (Option.some v) ∧ RelW T r G x v := by
  induction h generalizing i with
  | nil => cases i <;> cases e
  | none _ ih => cases i with
    | zero => cases e
    | succ i => exact ih e
  | some h _ ih => cases i with
    | zero => cases e; exact ⟨_, rfl, h⟩
    | succ i => exact ih e
theorem RelEnv.set {d : DEnv} {s : St} (h : RelEnv T r G d s) (i : Nat) {x : Mir.W} {v : V} (k : RelW T r G x v) : RelEnv T r G (setS d i (Option.some x)) (s.set i (Option.some v)) := by
  induction h generalizing i with
  | nil => cases i <;> exact .nil
  | none q ih => cases i with
    | zero => exact .some k q
    | succ i => exact .none (ih i)
  | some h q ih => cases i with
    | zero => exact .some k q
    | succ i => exact .some h (ih i)
theorem RelEnv.start {ws : List Mir.W} {vs : List V} (h : RelWs T r G ws vs) (n : Nat) : RelEnv T r G (ws.map Option.some ++ List.replicate (n - ws.length) Option.none) (vs.map Option.some ++ List.replicate (n - vs.length) Option.none) := by
  rw [h.length]
  generalize n - vs.length = m
  induction ws generalizing vs with
  | nil =>
    cases h
    show RelEnv T r G (List.replicate m Option.none) (List.replicate m Option.none)
    induction m with
    | zero => exact .nil
    | succ m ih => exact .none ih
  | cons w ws ih => cases h with
    | cons h q => exact .some h (ih q)
end
abbrev Wd.env (T : Tab) (w : Wd) (d : DEnv) (σ : St) : Prop := RelEnv T w.r w.G d σ
abbrev Wd.rel (T : Tab) (w : Wd) (x : Mir.W) (v : V) : Prop := RelW T w.r w.G x v
abbrev Wd.rels (T : Tab) (w : Wd) (x : List Mir.W) (v : List V) : Prop := RelWs T w.r w.G x v

/-! ### lifted readings -/
def lE (T : Tab) (m : ME) (E : XK) : TE := fun σ H Q => ∃ w d, w.H = H ∧ Ok T w ∧ w.env T d σ ∧ PostG T w (m d w.S) (QW T Q) E
def lT (T : Tab) (m : MT) (E : XK) : TT := fun σ H Q => ∃ w d, w.H = H ∧ Ok T w ∧ w.env T d σ ∧ PostG T w (m d w.S) (QT Q) E
def lA (T : Tab) (m : MA) (E : XK) : TA := fun σ H Q => ∃ w d, w.H = H ∧ Ok T w ∧ w.env T d σ ∧ PostG T w (m d w.S) (QA T Q) E
abbrev tb (X : Cx) (nm : Nm) : Tab := ⟨X.K, X.mg, nm⟩
abbrev WE (X : Cx) (nm : Nm) (E : XK) (e : Expr) (m : ME) : Prop := PE X e (lE (tb X nm) m E)
abbrev WT (X : Cx) (nm : Nm) (E : XK) (e : Expr) (m : MT) : Prop := PT X e (lT (tb X nm) m E)
abbrev WA (X : Cx) (nm : Nm) (E : XK) (e : List Expr) (m : MA) : Prop := PA X e (lA (tb X nm) m E)
theorem pe_imp {X : Cx} {e : Expr} {t t' : TE} (h : PE X e t) (k : ∀ σ H Q, t' σ H Q → t σ H Q) : PE X e t' := ⟨fun pins s σ H Q I q => h.run pins s σ H Q I (k σ H Q q)⟩
theorem pt_imp {X : Cx} {e : Expr} {t t' : TT} (h : PT X e t) (k : ∀ σ H Q, t' σ H Q → t σ H Q) : PT X e t' := ⟨fun pins s σ H Q I q => h.run pins s σ H Q I (k σ H Q q)⟩
theorem pa_imp {X : Cx} {e : List Expr} {t t' : TA} (h : PA X e t) (k : ∀ σ H Q, t' σ H Q → t σ H Q) : PA X e t' := ⟨fun pos pins s σ H Q I q => h.run pos pins s σ H Q I (k σ H Q q)⟩

/-! ### one piece, then the rest -/
section
variable {T : Tab} {w : Wd} {E : XK} {d : DEnv} {σ : St} {β : Type} {R : β → Wd → Prop}
theorem lE_bind {a : ME} {k : Mir.W → Store → Out β} (o : Ok T w) (re : w.env T d σ) (h : PostG T w ((a d w.S).bind k) R E) :
    lE T a E σ w.H fun v H1 => ∃ w1 x, w1.H = H1 ∧ Ok T w1 ∧ Ext w w1 ∧ w1.env T d σ ∧ w1.rel T x v ∧ PostG T w1 (k x w1.S) R E :=
  ⟨w, d, rfl, o, re, h.bind.imp fun x w1 o1 x1 q v rv => ⟨w1, x, rfl, o1, x1, re.mono x1.le x1.ex, rv, q⟩⟩
theorem lT_bind {a : MT} {k : Bool → Store → Out β} (o : Ok T w) (re : w.env T d σ) (h : PostG T w ((a d w.S).bind k) R E) :
    lT T a E σ w.H fun x H1 => ∃ w1, w1.H = H1 ∧ Ok T w1 ∧ Ext w w1 ∧ w1.env T d σ ∧ PostG T w1 (k x w1.S) R E :=
  ⟨w, d, rfl, o, re, h.bind.imp fun x w1 o1 x1 q => ⟨w1, rfl, o1, x1, re.mono x1.le x1.ex, q⟩⟩
theorem lA_bind {a : MA} {k : List Mir.W → Store → Out β} (o : Ok T w) (re : w.env T d σ) (h : PostG T w ((a d w.S).bind k) R E) :
    lA T a E σ w.H fun vs H1 => ∃ w1 xs, w1.H = H1 ∧ Ok T w1 ∧ Ext w w1 ∧ w1.env T d σ ∧ w1.rels T xs vs ∧ PostG T w1 (k xs w1.S) R E :=
  ⟨w, d, rfl, o, re, h.bind.imp fun x w1 o1 x1 q vs rv => ⟨w1, x, rfl, o1, x1, re.mono x1.le x1.ex, rv, q⟩⟩
end

/-! ### what may change in a world -/
section
variable {T : Tab} {w : Wd}
/-- a new thing that is never changed -/
def Wd.layF (w : Wd) (p : Addr) (o : HO) : Wd := ⟨w.r, upd w.G p o, w.S, upd w.H p o⟩
theorem Ok.free (k : Ok T w) {p : Addr} (h : w.H p = none) : w.G p = none := Same.free k.ex h
theorem At.there (k : Ok T w) {n : Nat} {a : Addr} (h : At w n a) : ∃ o, w.H a = some o := (k.dom n a h.2).2
theorem Ok.layF (k : Ok T w) {p : Addr} {o : HO} (h : w.H p = none) : Ok T (w.layF p o) where
  ex := fun b u e => by
    show upd w.H p o b = some u
    by_cases hb : b = p
    · subst hb
      have e' : upd w.G b o b = some u := e
      rw [upd_same] at e' ⊢
      exact e'
    · have e' : upd w.G p o b = some u := e
      rw [upd_ne hb] at e' ⊢
      exact k.ex b u e'
  own := fun n u e => by
    obtain ⟨a, h1, h2, h3⟩ := k.own n u e
    have hne : a ≠ p := fun z => by
      obtain ⟨x, hx⟩ := h3.some
      rw [z, h] at hx
      cases hx
    refine ⟨a, h1, ?_, ?_⟩
    · show upd w.G p o a = none
      rw [upd_ne hne]
      exact h2
    · show RelO T w.r (upd w.G p o) u (upd w.H p o a)
      rw [upd_ne hne]
      exact h3.mono (LeR.refl _) fun b x e => by rw [upd_ne (ne_of_none e (k.free h))]; exact e
  inj := k.inj
  dom := fun n a e => by
    obtain ⟨h1, x, h2⟩ := k.dom n a e
    refine ⟨h1, x, ?_⟩
    show upd w.H p o a = some x
    rw [upd_ne (ne_of_none h2 h)]
    exact h2
  nd := k.nd
theorem Ext.layF (k : Ok T w) {p : Addr} {o : HO} (h : w.H p = none) : Ext w (w.layF p o) where
  le := LeR.refl _
  ex := fun b x e => by show upd w.G p o b = some x; rw [upd_ne (ne_of_none e (k.free h))]; exact e
  fr := fun a u e _ => by show upd w.H p o a = some u; rw [upd_ne (ne_of_none e h)]; exact e
  sub := fun n a e => .inl e
  al := fun a u e => ⟨u, by show upd w.H p o a = some u; rw [upd_ne (ne_of_none e h)]; exact e⟩
  gn := fun a u e hG _ => by show upd w.G p o a = none; rw [upd_ne (ne_of_none e h)]; exact hG
theorem look_put_same {l : List (Nat × SO)} {n : Nat} {o u : SO} (h : look l n = some u) : look (putO l n o) n = some o := by
  induction l with
  | nil => cases h
  | cons p l ih =>
    obtain ⟨m, q⟩ := p
    unfold putO
    unfold look at h
    by_cases e : Nat.beq m n = true
    · rw [if_pos e]; unfold look; rw [if_pos e]
    · rw [if_neg e] at h ⊢; unfold look; rw [if_neg e]; exact ih h
theorem look_put_ne {l : List (Nat × SO)} {n m : Nat} {o : SO} (h : m ≠ n) : look (putO l n o) m = look l m := by
  induction l with
  | nil => rfl
  | cons p l ih =>
    obtain ⟨k, q⟩ := p
    unfold putO
    by_cases e : Nat.beq k n = true
    · rw [if_pos e]
      have ek : k = n := Nat.eq_of_beq_eq_true e
      unfold look
      rw [if_neg (show ¬ Nat.beq k m = true from fun z => h (by rw [← Nat.eq_of_beq_eq_true z, ek])), if_neg (show ¬ Nat.beq k m = true from fun z => h (by rw [← Nat.eq_of_beq_eq_true z, ek]))]
    · rw [if_neg e]
      unfold look
      by_cases e2 : Nat.beq k m = true
      · rw [if_pos e2, if_pos e2]
      · rw [if_neg e2, if_neg e2]; exact ih
theorem keys_put {l : List (Nat × SO)} {n : Nat} {o : SO} : (putO l n o).map (·.1) = l.map (·.1) := by
  induction l with
  | nil => rfl
  | cons p l ih =>
    obtain ⟨k, q⟩ := p
    unfold putO
    by_cases e : Nat.beq k n = true
    · rw [if_pos e]; rfl
    · rw [if_neg e, List.map_cons, List.map_cons, ih]
theorem look_mem {l : List (Nat × SO)} {n : Nat} {o : SO} (h : look l n = some o) : n ∈ l.map (·.1) := by
  induction l with
  | nil => cases h
  | cons p l ih =>
    obtain ⟨k, q⟩ := p
    unfold look at h
    by_cases e : Nat.beq k n = true
    · rw [List.map_cons, Nat.eq_of_beq_eq_true e]; exact List.mem_cons_self
    · rw [if_neg e] at h; exact List.mem_cons_of_mem _ (ih h)
theorem look_none {l : List (Nat × SO)} {n : Nat} (h : n ∉ l.map (·.1)) : look l n = none := by
  cases e : look l n with
  | none => rfl
  | some o => exact absurd (look_mem e) h
theorem look_drop_ne {l : List (Nat × SO)} {n m : Nat} (h : m ≠ n) : look (dropO l n) m = look l m := by
  induction l with
  | nil => rfl
  | cons p l ih =>
    obtain ⟨k, q⟩ := p
    unfold dropO
    by_cases e : Nat.beq k n = true
    · rw [if_pos e]
      have ek : k = n := Nat.eq_of_beq_eq_true e
      show look l m = look ((k, q) :: l) m
      rw [look, if_neg (show ¬ Nat.beq k m = true from fun z => h (by rw [← Nat.eq_of_beq_eq_true z, ek]))]
    · rw [if_neg e]
      show look ((k, q) :: dropO l n) m = look ((k, q) :: l) m
      rw [look, look]
      by_cases e2 : Nat.beq k m = true
      · rw [if_pos e2, if_pos e2]
      · rw [if_neg e2, if_neg e2]; exact ih
theorem keys_drop {l : List (Nat × SO)} {n : Nat} (h : (l.map (·.1)).Nodup) : ((dropO l n).map (·.1)).Nodup ∧ n ∉ (dropO l n).map (·.1) ∧ ∀ k ∈ (dropO l n).map (·.1), k ∈ l.map (·.1) := by
  induction l with
  | nil => exact ⟨List.nodup_nil, List.not_mem_nil, fun _ z => z⟩
  | cons p l ih =>
    obtain ⟨k, q⟩ := p
    rw [List.map_cons, List.nodup_cons] at h
    obtain ⟨i1, i2, i3⟩ := ih h.2
    unfold dropO
    by_cases e : Nat.beq k n = true
    · rw [if_pos e]
      have ek : k = n := Nat.eq_of_beq_eq_true e
      exact ⟨h.2, ek ▸ h.1, fun z hz => List.mem_cons_of_mem _ hz⟩
    · rw [if_neg e, List.map_cons]
      refine ⟨List.nodup_cons.mpr ⟨fun z => h.1 (i3 _ z), i1⟩, fun z => ?_, fun z hz => ?_⟩
      · rcases List.mem_cons.mp z with z | z
        · have z' : n = k := z
          exact e (by rw [z']; exact Nat.beq_refl _)
        · exact i2 z
      · rcases List.mem_cons.mp hz with z | z
        · rw [z]; exact List.mem_cons_self
        · exact List.mem_cons_of_mem _ (i3 _ z)
/-- a thing of the store is changed -/
def Wd.put (w : Wd) (n : Nat) (a : Addr) (o : SO) (u : HO) : Wd := ⟨w.r, w.G, w.S.put n o, upd w.H a u⟩
theorem At.put {n m : Nat} {a b : Addr} {o : SO} {u : HO} (h : At w n a) : At (w.put n a o u) m b ↔ At w m b := by
  obtain ⟨⟨o0, h0⟩, h1⟩ := h
  constructor
  · rintro ⟨⟨x, hx⟩, hb⟩
    refine ⟨?_, hb⟩
    by_cases e : m = n
    · subst e; exact ⟨o0, h0⟩
    · exact ⟨x, (look_put_ne e).symm.trans hx⟩
  · rintro ⟨⟨x, hx⟩, hb⟩
    refine ⟨?_, hb⟩
    by_cases e : m = n
    · subst e; exact ⟨o, look_put_same h0⟩
    · exact ⟨x, (look_put_ne e).trans hx⟩
theorem Ok.put (k : Ok T w) {n : Nat} {a : Addr} {o : SO} {u : HO} (h : At w n a) (q : RelO T w.r w.G o (some u)) : Ok T (w.put n a o u) where
  ex := fun b x e => by
    show upd w.H a u b = some x
    have hb : b ≠ a := fun z => by
      obtain ⟨⟨o0, h0⟩, h1⟩ := h
      obtain ⟨a', e1, e2, e3⟩ := k.own n o0 h0
      rw [h1] at e1
      cases e1
      have e' : w.G b = some x := e
      rw [z, e2] at e'
      cases e'
    rw [upd_ne hb]
    exact k.ex b x e
  own := fun m x e => by
    by_cases hm : m = n
    · subst hm
      obtain ⟨⟨o0, h0⟩, h1⟩ := id h
      obtain ⟨a', e1, e2, e3⟩ := k.own m o0 h0
      rw [h1] at e1
      cases e1
      have e' : look (putO w.S.objs m o) m = some x := e
      rw [look_put_same h0] at e'
      cases e'
      refine ⟨a, h1, e2, ?_⟩
      show RelO T w.r w.G o (upd w.H a u a)
      rw [upd_same]
      exact q
    · have e' : look (putO w.S.objs n o) m = some x := e
      rw [look_put_ne hm] at e'
      obtain ⟨b, e1, e2, e3⟩ := k.own m x e'
      refine ⟨b, e1, e2, ?_⟩
      show RelO T w.r w.G x (upd w.H a u b)
      have hb : b ≠ a := fun z => hm (k.inj m n a ⟨⟨x, e'⟩, by rw [← z]; exact e1⟩ h)
      rw [upd_ne hb]
      exact e3
  inj := fun m m' b e1 e2 => k.inj m m' b ((At.put h).mp e1) ((At.put h).mp e2)
  dom := fun m b e => by
    obtain ⟨h1, x, h2⟩ := k.dom m b e
    refine ⟨h1, ?_⟩
    by_cases hb : b = a
    · subst hb; exact ⟨u, upd_same⟩
    · exact ⟨x, by show upd w.H a u b = some x; rw [upd_ne hb]; exact h2⟩
  nd := by show ((putO w.S.objs n o).map (·.1)).Nodup; rw [keys_put]; exact k.nd
theorem Ext.put {n : Nat} {a : Addr} {o : SO} {u : HO} (h : At w n a) : Ext w (w.put n a o u) where
  le := LeR.refl _
  ex := Same.refl _
  fr := fun b x e hn => by
    show upd w.H a u b = some x
    rw [upd_ne (fun z => hn n (by rw [z]; exact h))]
    exact e
  sub := fun m b e => .inl ((At.put h).mp e)
  al := fun b x e => by
    by_cases hb : b = a
    · subst hb; exact ⟨u, upd_same⟩
    · exact ⟨x, by show upd w.H a u b = some x; rw [upd_ne hb]; exact e⟩
  gn := fun _ _ _ hG _ => hG
/-- a new thing that may be changed -/
def Wd.lay (w : Wd) (p : Addr) (o : SO) (u : HO) : Wd := ⟨fun m => if m = w.S.next then some p else w.r m, w.G, w.S.new o, upd w.H p u⟩
theorem Ok.fresh (k : Ok T w) : w.r w.S.next = none := by
  cases e : w.r w.S.next with
  | none => rfl
  | some a => exact absurd (k.dom _ a e).1 (Nat.lt_irrefl _)
theorem Ok.notin (k : Ok T w) : w.S.next ∉ w.S.objs.map (·.1) := fun z => by
  have : ∃ o, look w.S.objs w.S.next = some o := by
    cases e : look w.S.objs w.S.next with
    | some o => exact ⟨o, rfl⟩
    | none =>
      exfalso
      have : ∀ (l : List (Nat × SO)) (n : Nat), n ∈ l.map (·.1) → look l n ≠ none := by
        intro l n
        induction l with
        | nil => intro z; cases z
        | cons p l ih =>
          obtain ⟨k, q⟩ := p
          intro z
          rw [look]
          by_cases e : Nat.beq k n = true
          · rw [if_pos e]; intro y; cases y
          · rw [if_neg e]
            rcases List.mem_cons.mp z with z | z
            · exact absurd (show Nat.beq k n = true by rw [z]; exact Nat.beq_refl _) e
            · exact ih z
      exact this _ _ z e
  obtain ⟨o, ho⟩ := this
  obtain ⟨a, h1, _⟩ := k.own _ o ho
  rw [k.fresh] at h1
  cases h1
theorem LeR.lay (k : Ok T w) {p : Addr} {o : SO} {u : HO} : LeR w.r (w.lay p o u).r := fun n a e => by
  show (if n = w.S.next then some p else w.r n) = some a
  rw [if_neg (fun z => by rw [z, k.fresh] at e; cases e)]
  exact e
theorem lay_r {p : Addr} {o : SO} {u : HO} : (w.lay p o u).r w.S.next = some p := if_pos rfl
theorem look_new {o : SO} {m : Nat} (h : m ≠ w.S.next) : (w.S.new o).get m = w.S.get m := by
  show look ((w.S.next, o) :: w.S.objs) m = look w.S.objs m
  rw [look, if_neg (show ¬ Nat.beq w.S.next m = true from fun z => h (Nat.eq_of_beq_eq_true z).symm)]
theorem look_new_same {o : SO} : (w.S.new o).get w.S.next = some o := by
  show look ((w.S.next, o) :: w.S.objs) w.S.next = some o
  rw [look, if_pos (Nat.beq_refl _)]
theorem At.lay (k : Ok T w) {p : Addr} {o : SO} {u : HO} {m : Nat} {b : Addr} : At (w.lay p o u) m b ↔ (m = w.S.next ∧ b = p) ∨ At w m b := by
  by_cases e : m = w.S.next
  · subst e
    constructor
    · rintro ⟨_, h2⟩
      rw [lay_r] at h2
      cases h2
      exact .inl ⟨rfl, rfl⟩
    · rintro (⟨_, rfl⟩ | ⟨_, h2⟩)
      · exact ⟨⟨o, look_new_same⟩, lay_r⟩
      · rw [k.fresh] at h2; cases h2
  · constructor
    · rintro ⟨⟨x, hx⟩, h2⟩
      refine .inr ⟨⟨x, (look_new e).symm.trans hx⟩, ?_⟩
      have h3 : (if m = w.S.next then some p else w.r m) = some b := h2
      rw [if_neg e] at h3
      exact h3
    · rintro (⟨z, _⟩ | ⟨⟨x, hx⟩, h2⟩)
      · exact absurd z e
      · refine ⟨⟨x, (look_new e).trans hx⟩, ?_⟩
        show (if m = w.S.next then some p else w.r m) = some b
        rw [if_neg e]
        exact h2
theorem Ok.lay (k : Ok T w) {p : Addr} {o : SO} {u : HO} (h : w.H p = none) (q : RelO T (w.lay p o u).r w.G o (some u)) : Ok T (w.lay p o u) where
  ex := fun b x e => by
    show upd w.H p u b = some x
    rw [upd_ne (ne_of_none (k.ex b x e) h)]
    exact k.ex b x e
  own := fun m x e => by
    by_cases hm : m = w.S.next
    · subst hm
      rw [show (w.lay p o u).S.get w.S.next = some o from look_new_same] at e
      cases e
      exact ⟨p, lay_r, k.free h, by show RelO T _ w.G o (upd w.H p u p); rw [upd_same]; exact q⟩
    · have e' : w.S.get m = some x := (look_new hm).symm.trans e
      obtain ⟨b, e1, e2, e3⟩ := k.own m x e'
      refine ⟨b, LeR.lay k _ _ e1, e2, ?_⟩
      obtain ⟨y, hy⟩ := e3.some
      show RelO T _ w.G x (upd w.H p u b)
      rw [upd_ne (ne_of_none hy h)]
      exact e3.mono (LeR.lay k) (Same.refl _)
  inj := fun m m' b e1 e2 => by
    rcases (At.lay k).mp e1 with ⟨rfl, rfl⟩ | e1'
    · rcases (At.lay k).mp e2 with ⟨rfl, _⟩ | e2'
      · rfl
      · obtain ⟨y, hy⟩ := At.there k e2'
        rw [h] at hy
        cases hy
    · rcases (At.lay k).mp e2 with ⟨rfl, rfl⟩ | e2'
      · obtain ⟨y, hy⟩ := At.there k e1'
        rw [h] at hy
        cases hy
      · exact k.inj m m' b e1' e2'
  dom := fun m b e => by
    by_cases hm : m = w.S.next
    · subst hm
      rw [lay_r] at e
      cases e
      exact ⟨Nat.lt_succ_self _, u, upd_same⟩
    · have e' : w.r m = some b := by
        have e2 : (if m = w.S.next then some p else w.r m) = some b := e
        rw [if_neg hm] at e2
        exact e2
      obtain ⟨h1, x, h2⟩ := k.dom m b e'
      exact ⟨Nat.lt_succ_of_lt h1, x, by show upd w.H p u b = some x; rw [upd_ne (ne_of_none h2 h)]; exact h2⟩
  nd := by
    show ((w.S.next, o) :: w.S.objs).map (·.1) |>.Nodup
    rw [List.map_cons]
    exact List.nodup_cons.mpr ⟨k.notin, k.nd⟩
theorem Ext.lay (k : Ok T w) {p : Addr} {o : SO} {u : HO} (h : w.H p = none) : Ext w (w.lay p o u) where
  le := LeR.lay k
  ex := Same.refl _
  fr := fun b x e _ => by show upd w.H p u b = some x; rw [upd_ne (ne_of_none e h)]; exact e
  sub := fun m b e => by
    rcases (At.lay k).mp e with ⟨_, rfl⟩ | e'
    · exact .inr h
    · exact .inl e'
  al := fun b x e => ⟨x, by show upd w.H p u b = some x; rw [upd_ne (ne_of_none e h)]; exact e⟩
  gn := fun _ _ _ hG _ => hG
/-- a thing of the store is changed no more -/
def Wd.frz (w : Wd) (n : Nat) (a : Addr) (u : HO) : Wd := ⟨w.r, upd w.G a u, w.S.drop n, w.H⟩
theorem At.frz (k : Ok T w) {n m : Nat} {a b : Addr} {u : HO} : At (w.frz n a u) m b ↔ (m ≠ n ∧ At w m b) := by
  constructor
  · rintro ⟨⟨x, hx⟩, hb⟩
    have hm : m ≠ n := fun z => by
      have hx' : look (dropO w.S.objs n) m = some x := hx
      rw [z, look_none (keys_drop k.nd).2.1] at hx'
      cases hx'
    exact ⟨hm, ⟨x, (look_drop_ne hm).symm.trans hx⟩, hb⟩
  · rintro ⟨hm, ⟨x, hx⟩, hb⟩
    exact ⟨⟨x, (look_drop_ne hm).trans hx⟩, hb⟩
theorem Ok.frz (k : Ok T w) {n : Nat} {a : Addr} {u : HO} (h : At w n a) (hu : w.H a = some u) : Ok T (w.frz n a u) where
  ex := fun b x e => by
    show w.H b = some x
    have e' : upd w.G a u b = some x := e
    by_cases hb : b = a
    · subst hb
      rw [upd_same] at e'
      rw [hu, e']
    · rw [upd_ne hb] at e'
      exact k.ex b x e'
  own := fun m x e => by
    have hm : m ≠ n := ((At.frz (u := u) (a := a) k).mp ⟨⟨x, e⟩, (k.own m x ((look_drop_ne (fun z => by
      have hx' : look (dropO w.S.objs n) m = some x := e
      rw [z, look_none (keys_drop k.nd).2.1] at hx'
      cases hx')).symm.trans e)).choose_spec.1⟩).1
    have e' : w.S.get m = some x := (look_drop_ne hm).symm.trans e
    obtain ⟨b, e1, e2, e3⟩ := k.own m x e'
    have hb : b ≠ a := fun z => hm (k.inj m n a ⟨⟨x, e'⟩, by rw [← z]; exact e1⟩ h)
    have hG : w.G a = none := by
      obtain ⟨⟨o0, h0⟩, h1⟩ := h
      obtain ⟨a', q1, q2, _⟩ := k.own n o0 h0
      rw [h1] at q1
      cases q1
      exact q2
    refine ⟨b, e1, ?_, ?_⟩
    · show upd w.G a u b = none
      rw [upd_ne hb]
      exact e2
    · exact e3.mono (LeR.refl _) fun c y z => by show upd w.G a u c = some y; rw [upd_ne (ne_of_none z hG)]; exact z
  inj := fun m m' b e1 e2 => k.inj m m' b ((At.frz k).mp e1).2 ((At.frz k).mp e2).2
  dom := k.dom
  nd := (keys_drop k.nd).1
theorem Ext.frz (k : Ok T w) {n : Nat} {a : Addr} {u : HO} (h : At w n a) : Ext w (w.frz n a u) where
  le := LeR.refl _
  ex := fun b x e => by
    obtain ⟨⟨o0, h0⟩, h1⟩ := h
    obtain ⟨a', q1, q2, _⟩ := k.own n o0 h0
    rw [h1] at q1
    cases q1
    show upd w.G a u b = some x
    rw [upd_ne (ne_of_none e q2)]
    exact e
  fr := fun _ _ e _ => e
  sub := fun m b e => .inl ((At.frz k).mp e).2
  al := fun _ x e => ⟨x, e⟩
  gn := fun b x _ hG hn => by show upd w.G a u b = none; rw [upd_ne (fun z => hn n (by rw [z]; exact h))]; exact hG
/-! things that neither stand in the store nor are fixed: a list while it is made -/
def Wd.setU (w : Wd) (p : Addr) (o : HO) : Wd := ⟨w.r, w.G, w.S, upd w.H p o⟩
/-- p is none of ours -/
def Out_ (w : Wd) (p : Addr) : Prop := w.G p = none ∧ ∀ n, ¬ At w n p
theorem Ok.out (k : Ok T w) {p : Addr} (h : w.H p = none) : Out_ w p := ⟨k.free h, fun n a => by
  obtain ⟨x, hx⟩ := At.there k a
  rw [h] at hx
  cases hx⟩
theorem Ok.setU (k : Ok T w) {p : Addr} {o : HO} (h : Out_ w p) : Ok T (w.setU p o) where
  ex := fun b x e => by
    show upd w.H p o b = some x
    have e' : w.G b = some x := e
    rw [upd_ne (fun z => by rw [z, h.1] at e'; cases e')]
    exact k.ex b x e
  own := fun n u e => by
    obtain ⟨a, h1, h2, h3⟩ := k.own n u e
    refine ⟨a, h1, h2, ?_⟩
    show RelO T w.r w.G u (upd w.H p o a)
    rw [upd_ne (fun z => h.2 n ⟨⟨u, e⟩, by rw [← z]; exact h1⟩)]
    exact h3
  inj := k.inj
  dom := fun n a e => by
    obtain ⟨h1, x, h2⟩ := k.dom n a e
    refine ⟨h1, ?_⟩
    by_cases hb : a = p
    · subst hb; exact ⟨o, upd_same⟩
    · exact ⟨x, by show upd w.H p o a = some x; rw [upd_ne hb]; exact h2⟩
  nd := k.nd
theorem Out_.setU {p q : Addr} {o : HO} (h : Out_ w p) : Out_ (w.setU q o) p := h
theorem Out_.ext {w1 : Wd} {p : Addr} {o : HO} (h : Out_ w p) (hp : w.H p = some o) (e : Ext w w1) : Out_ w1 p ∧ w1.H p = some o :=
  ⟨⟨e.gn p o hp h.1 h.2, fun n a => (e.sub n p a).elim (h.2 n) fun z => by rw [hp] at z; cases z⟩, e.fr p o hp h.2⟩
/-- what was new ahead may be set -/
theorem Ext.setU {w0 : Wd} {p : Addr} {o : HO} (e : Ext w0 w) (h : w0.H p = none) : Ext w0 (w.setU p o) where
  le := e.le
  ex := e.ex
  fr := fun a u q hn => by show upd w.H p o a = some u; rw [upd_ne (ne_of_none q h)]; exact e.fr a u q hn
  sub := e.sub
  al := fun a u q => by
    obtain ⟨x, hx⟩ := e.al a u q
    exact ⟨x, by show upd w.H p o a = some x; rw [upd_ne (ne_of_none q h)]; exact hx⟩
  gn := e.gn
/-- it is fixed -/
def Wd.fixU (w : Wd) (p : Addr) (o : HO) : Wd := ⟨w.r, upd w.G p o, w.S, w.H⟩
theorem Ok.fixU (k : Ok T w) {p : Addr} {o : HO} (h : Out_ w p) (hp : w.H p = some o) : Ok T (w.fixU p o) where
  ex := fun b x e => by
    have e' : upd w.G p o b = some x := e
    by_cases hb : b = p
    · subst hb
      rw [upd_same] at e'
      show w.H b = some x
      rw [hp, e']
    · rw [upd_ne hb] at e'
      exact k.ex b x e'
  own := fun n u e => by
    obtain ⟨a, h1, h2, h3⟩ := k.own n u e
    refine ⟨a, h1, ?_, h3.mono (LeR.refl _) fun b x q => ?_⟩
    · show upd w.G p o a = none
      rw [upd_ne (fun z => h.2 n ⟨⟨u, e⟩, by rw [← z]; exact h1⟩)]
      exact h2
    · show upd w.G p o b = some x
      rw [upd_ne (ne_of_none q h.1)]
      exact q
  inj := k.inj
  dom := k.dom
  nd := k.nd
theorem Ext.fixU {w0 : Wd} {p : Addr} {o : HO} (e : Ext w0 w) (h0 : w0.H p = none) (h : Out_ w p) : Ext w0 (w.fixU p o) where
  le := e.le
  ex := fun b x q => by show upd w.G p o b = some x; rw [upd_ne (ne_of_none (e.ex b x q) h.1)]; exact e.ex b x q
  fr := e.fr
  sub := e.sub
  al := e.al
  gn := fun a u q hG hn => by show upd w.G p o a = none; rw [upd_ne (ne_of_none q h0)]; exact e.gn a u q hG hn
/-- it comes into the store -/
def Wd.adopt (w : Wd) (p : Addr) (o : SO) : Wd := ⟨fun m => if m = w.S.next then some p else w.r m, w.G, w.S.new o, w.H⟩
theorem adopt_eq {p : Addr} {o : SO} {u : HO} : (w.adopt p o).r = (w.lay p o u).r := rfl
theorem At.adopt (k : Ok T w) {p : Addr} {o : SO} {m : Nat} {b : Addr} : At (w.adopt p o) m b ↔ (m = w.S.next ∧ b = p) ∨ At w m b := At.lay (u := .lst []) k
theorem Ok.adopt (k : Ok T w) {p : Addr} {o : SO} {u : HO} (h : Out_ w p) (hp : w.H p = some u) (q : RelO T (w.adopt p o).r w.G o (some u)) : Ok T (w.adopt p o) where
  ex := k.ex
  own := fun m x e => by
    by_cases hm : m = w.S.next
    · subst hm
      rw [show (w.adopt p o).S.get w.S.next = some o from look_new_same] at e
      cases e
      refine ⟨p, lay_r (p := p) (o := o) (u := .lst []), h.1, ?_⟩
      show RelO T _ w.G o (w.H p)
      rw [hp]
      exact q
    · have e' : w.S.get m = some x := (look_new hm).symm.trans e
      obtain ⟨b, e1, e2, e3⟩ := k.own m x e'
      exact ⟨b, LeR.lay (p := p) (o := o) (u := .lst []) k _ _ e1, e2, e3.mono (LeR.lay (p := p) (o := o) (u := .lst []) k) (Same.refl _)⟩
  inj := fun m m' b e1 e2 => by
    rcases (At.adopt k).mp e1 with ⟨rfl, rfl⟩ | e1'
    · rcases (At.adopt k).mp e2 with ⟨rfl, _⟩ | e2'
      · rfl
      · exact absurd e2' (h.2 m')
    · rcases (At.adopt k).mp e2 with ⟨rfl, rfl⟩ | e2'
      · exact absurd e1' (h.2 m)
      · exact k.inj m m' b e1' e2'
  dom := fun m b e => by
    by_cases hm : m = w.S.next
    · subst hm
      have e' : some p = some b := (lay_r (p := p) (o := o) (u := .lst [])).symm.trans e
      cases e'
      exact ⟨Nat.lt_succ_self _, u, hp⟩
    · have e' : w.r m = some b := by
        have e2 : (if m = w.S.next then some p else w.r m) = some b := e
        rw [if_neg hm] at e2
        exact e2
      obtain ⟨h1, x, h2⟩ := k.dom m b e'
      exact ⟨Nat.lt_succ_of_lt h1, x, h2⟩
  nd := by
    show ((w.S.next, o) :: w.S.objs).map (·.1) |>.Nodup
    rw [List.map_cons]
    exact List.nodup_cons.mpr ⟨k.notin, k.nd⟩
theorem Ext.adopt (k : Ok T w) {w0 : Wd} {p : Addr} {o : SO} (e : Ext w0 w) (h0 : w0.H p = none) : Ext w0 (w.adopt p o) where
  le := e.le.trans (LeR.lay (p := p) (o := o) (u := .lst []) k)
  ex := e.ex
  fr := e.fr
  sub := fun m b a => by
    rcases (At.adopt k).mp a with ⟨_, rfl⟩ | a'
    · exact .inr h0
    · exact e.sub m b a'
  al := e.al
  gn := e.gn
end
end MW
set_option Elab.async false
set_option linter.all false
set_option maxRecDepth 100000
set_option maxHeartbeats 2000000
/-! MR1: names, constants, operators, arguments, displays, tests. -/
namespace MW
open PySem L2 Mir
section
variable {T : Tab} {E : XK} {σ : St} {H : Hp}
theorem lE_imp {m : ME} {Q Q' : VK} (h : lE T m E σ H Q) (k : ∀ v H', Q v H' → Q' v H') : lE T m E σ H Q' := by
  obtain ⟨w, d, e, o, re, p⟩ := h
  exact ⟨w, d, e, o, re, p.imp fun x w' _ _ q v rv => k v w'.H (q v rv)⟩
theorem lT_imp {m : MT} {Q Q' : Bool → Hp → Prop} (h : lT T m E σ H Q) (k : ∀ v H', Q v H' → Q' v H') : lT T m E σ H Q' := by
  obtain ⟨w, d, e, o, re, p⟩ := h
  exact ⟨w, d, e, o, re, p.imp fun x w' _ _ q => k x w'.H q⟩
theorem lA_imp {m : MA} {Q Q' : List V → Hp → Prop} (h : lA T m E σ H Q) (k : ∀ v H', Q v H' → Q' v H') : lA T m E σ H Q' := by
  obtain ⟨w, d, e, o, re, p⟩ := h
  exact ⟨w, d, e, o, re, p.imp fun x w' _ _ q v rv => k v w'.H (q v rv)⟩
end
section
variable {T : Tab} {r : Nat → Option Addr} {G : Hp} {v : V}
theorem RelW.non_inv (h : RelW T r G .non v) : v = .non := by cases h; rfl
theorem RelW.bl_inv {b : Bool} (h : RelW T r G (.bl b) v) : v = .bl b := by cases h; rfl
theorem RelW.int_inv {i : Int} (h : RelW T r G (.int i) v) : v = .int i := by cases h; rfl
theorem RelW.str_inv {z : List Nat} (h : RelW T r G (.str z) v) : ∃ x, v = .str x ∧ TL.tl x = z ∧ okS z = true := by cases h with | str e q => exact ⟨_, rfl, e, q⟩
theorem RelW.tup_inv {ws : List Mir.W} (h : RelW T r G (.tup ws) v) : ∃ a vs, v = .ref a ∧ SqT T.K G a vs ∧ RelWs T r G ws vs := by cases h with | tup e q => exact ⟨_, _, rfl, e, q⟩
theorem RelW.lst_inv {ws : List Mir.W} (h : RelW T r G (.lst ws) v) : ∃ a vs, v = .ref a ∧ G a = some (.lst vs) ∧ RelWs T r G ws vs := by cases h with | lst e q => exact ⟨_, _, rfl, e, q⟩
theorem RelW.lsr_inv {ws : List Mir.W} (h : RelW T r G (.lsr ws) v) : ∃ a vs, v = .ref a ∧ SqL T.K G a vs ∧ RelWs T r G ws vs := by cases h with | lsr e q => exact ⟨_, _, rfl, e, q⟩
theorem RelW.obj_inv {c : Nat} {ws : List (Nat × Mir.W)} (h : RelW T r G (.obj c ws) v) : ∃ a C dx fs, v = .ref a ∧ G a = some (.ins C dx fs) ∧ T.cls c = some C ∧ RelFs T r G ws fs := by cases h with | obj e k q => exact ⟨_, _, _, _, rfl, e, k, q⟩
theorem RelW.ref_inv {n : Nat} (h : RelW T r G (.ref n) v) : ∃ a, v = .ref a ∧ r n = some a := by cases h with | ref e => exact ⟨_, rfl, e⟩
theorem RelW.cls_inv {c : Nat} (h : RelW T r G (.cls c) v) : ∃ C, v = .ref C ∧ T.cls c = some C := by cases h with | cls e => exact ⟨_, rfl, e⟩
end
section
variable {T : Tab} {w : Wd} {E : XK}
/-- a value that needs nothing new -/
theorem PostG.val {x : Mir.W} {Q : VK} (o : Ok T w) (h : PostG T w (.ok x w.S) (QW T Q) E) {v : V} (rv : w.rel T x v) : Q v w.H := h w o (Ext.refl w) rfl v rv
/-- the store's own list, instance -/
theorem Ok.lstAt (o : Ok T w) {n : Nat} {xs : List Mir.W} {v : V} (g : w.S.get n = some (.lst xs)) (rv : w.rel T (.ref n) v) : ∃ a vs, v = .ref a ∧ At w n a ∧ w.G a = none ∧ w.H a = some (.lst vs) ∧ w.rels T xs vs := by
  obtain ⟨a, rfl, e⟩ := rv.ref_inv
  obtain ⟨a', e1, e2, vs, e3, e4⟩ := o.own n _ g
  rw [e] at e1
  cases e1
  exact ⟨a, vs, rfl, ⟨⟨_, g⟩, e⟩, e2, e3, e4⟩
theorem Ok.insAt (o : Ok T w) {n c : Nat} {ws : List (Nat × Mir.W)} {v : V} (g : w.S.get n = some (.ins c ws)) (rv : w.rel T (.ref n) v) : ∃ a C dx fs, v = .ref a ∧ At w n a ∧ w.G a = none ∧ w.H a = some (.ins C dx fs) ∧ T.cls c = some C ∧ RelFs T w.r w.G ws fs := by
  obtain ⟨a, rfl, e⟩ := rv.ref_inv
  obtain ⟨a', e1, e2, C, dx, fs, e3, e4, e5⟩ := o.own n _ g
  rw [e] at e1
  cases e1
  exact ⟨a, C, dx, fs, rfl, ⟨⟨_, g⟩, e⟩, e2, e3, e4, e5⟩
/-- a sequence, as the heap has it -/
theorem Ok.seq (o : Ok T w) {x : Mir.W} {xs : List Mir.W} {v : V} (g : seqOf w.S x = some xs) (rv : w.rel T x v) : ∃ a vs, v = .ref a ∧ (SqL T.K w.H a vs ∨ SqT T.K w.H a vs) ∧ w.rels T xs vs := by
  cases x with
  | tup ys =>
    cases g
    obtain ⟨a, vs, e, h, q⟩ := rv.tup_inv
    exact ⟨a, vs, e, .inr (sqT_ex o.ex h), q⟩
  | lst ys =>
    cases g
    obtain ⟨a, vs, e, h, q⟩ := rv.lst_inv
    exact ⟨a, vs, e, .inl (SqL.of (o.ex _ _ h)), q⟩
  | lsr ys =>
    cases g
    obtain ⟨a, vs, e, h, q⟩ := rv.lsr_inv
    exact ⟨a, vs, e, .inl (sqL_ex o.ex h), q⟩
  | ref n =>
    have g2 : (match w.S.get n with | some (.lst xs) => some xs | _ => none) = some xs := g
    cases q : w.S.get n with
    | none => rw [q] at g2; cases g2
    | some so =>
      rw [q] at g2
      cases so with
      | lst ys =>
        cases g2
        obtain ⟨a, vs, e, h1, h2, h3, h4⟩ := o.lstAt q rv
        exact ⟨a, vs, e, .inl (SqL.of h3), h4⟩
      | dct _ => cases g2
      | ins _ _ => cases g2
  | _ => cases g
/-- a list, not a read-only one -/
theorem Ok.lst (o : Ok T w) {x : Mir.W} {xs : List Mir.W} {v : V} (g : rd w.S x = .lst xs) (rv : w.rel T x v) : ∃ a vs, v = .ref a ∧ w.H a = some (.lst vs) ∧ w.rels T xs vs := by
  cases x with
  | lst ys =>
    cases g
    obtain ⟨a, vs, e, h, q⟩ := rv.lst_inv
    exact ⟨a, vs, e, o.ex _ _ h, q⟩
  | ref n =>
    have g2 : (match w.S.get n with | some (.lst xs) => Mir.W.lst xs | _ => .ref n) = .lst xs := g
    cases q : w.S.get n with
    | none => rw [q] at g2; cases g2
    | some so =>
      rw [q] at g2
      cases so with
      | lst ys =>
        cases g2
        obtain ⟨a, vs, e, h1, h2, h3, h4⟩ := o.lstAt q rv
        exact ⟨a, vs, e, h3, h4⟩
      | dct _ => cases g2
      | ins _ _ => cases g2
  | _ => cases g
end

section
variable {X : Cx} {nm : Nm} {E : XK} {pos : Pos}
/-! ### names, constants -/
theorem we_var (i : Nat) {x : Str} (hN : X.N[i]? = some x := by rfl) (hv : Vis X.env.scope x := by first | exact Or.inl rfl | exact Or.inr (Or.inl rfl) | exact Or.inr (Or.inr rfl)) (hd : (x == ("__debug__" : Str)) = false := by decide)
    (hcd : (x == ("__classdict__" : Str)) = false := by decide) : WE X nm E (.Name x pos) (eVar i) := pe_imp (pe_var hN hv hd hcd) fun σ H Q ⟨w, d, e, o, re, h⟩ => by
  subst e
  unfold eVar at h
  cases g : getS d i with
  | none => rw [g] at h; exact h.elim
  | some x =>
    rw [g] at h
    obtain ⟨v, e1, rv⟩ := re.get g
    exact ⟨v, e1, h.val o rv⟩
theorem we_int {i : Int} {j : Nat} : WE X nm E (.Constant (.int i) j pos) (eC (.int i)) := pe_imp pe_int fun σ H Q ⟨w, d, e, o, re, h⟩ => by
  subst e
  exact PostG.val o h (.int i)
theorem we_bl {b : Bool} {j : Nat} : WE X nm E (.Constant (.bool b) j pos) (eC (.bl b)) := pe_imp pe_bl fun σ H Q ⟨w, d, e, o, re, h⟩ => by
  subst e
  exact PostG.val o h (.bl b)
theorem we_non {j : Nat} : WE X nm E (.Constant .none j pos) (eC .non) := pe_imp pe_non fun σ H Q ⟨w, d, e, o, re, h⟩ => by
  subst e
  exact PostG.val o h .non
theorem we_str {x : Str} {z : List Nat} {j : Nat} (e1 : TL.tl x = z) (e2 : okS z = true) : WE X nm E (.Constant (.str x) j pos) (eC (.str z)) := pe_imp pe_str fun σ H Q ⟨w, d, e, o, re, h⟩ => by
  subst e
  exact PostG.val o h (.str e1 e2)
/-- a constant of the module -/
structure GlobC (K : Frag) (mg : Str → Option Value) (nm : Nm) (x : Str) (c : Mir.W) : Prop where
  ex : ∃ v u, mg x = some u ∧ RelV v u ∧ ∀ r G, RelW ⟨K, mg, nm⟩ r G c v
theorem we_glob {x : Str} {c : Mir.W} (h : GlobC X.K X.mg nm x c) (hg : Gl X x := by rfl) (hd : (x == ("__debug__" : Str)) = false := by decide) : WE X nm E (.Name x pos) (eC c) := by
  obtain ⟨v, u, hm, hr, hw⟩ := h.ex
  refine pe_imp (pe_glob hg hm hr hd) fun σ H Q ⟨w, d, e, o, re, h⟩ => ?_
  subst e
  exact PostG.val o h (hw _ _)

/-! ### operators -/
def lR2 (T : Tab) (f : Mir.W → Mir.W → Store → Out Mir.W) (E : XK) : R2 := fun x y H Q => ∃ w a b, w.H = H ∧ Ok T w ∧ w.rel T a x ∧ w.rel T b y ∧ PostG T w (f a b w.S) (QW T Q) E
def lR1 (T : Tab) (f : Mir.W → Store → Out Mir.W) (E : XK) : V → Hp → VK → Prop := fun x H Q => ∃ w a, w.H = H ∧ Ok T w ∧ w.rel T a x ∧ PostG T w (f a w.S) (QW T Q) E
theorem bin_of {T : Tab} {f : Mir.W → Mir.W → Store → Out Mir.W} {ma mb : ME} {σ : St} {H : Hp} {Q : VK} (h : lE T (eBin f ma mb) E σ H Q) : tOp (lR2 T f E) (lE T ma E) (lE T mb E) σ H Q := by
  obtain ⟨w, d, e, o, re, h⟩ := h
  subst e
  refine lE_imp (lE_bind o re h) ?_
  rintro x H1 ⟨w1, a', rfl, o1, x1, re1, ra, h1⟩
  refine lE_imp (lE_bind o1 re1 h1) ?_
  rintro y H2 ⟨w2, b', rfl, o2, x2, re2, rb, h2⟩
  exact ⟨w2, a', b', rfl, o2, ra.mono x2.le x2.ex, rb, h2⟩
theorem we_op {op : Operator} {f : Mir.W → Mir.W → Store → Out Mir.W} {a b : Expr} {ma mb : ME} (ho : OpR X (binaryOp op) (lR2 (tb X nm) f E)) (ha : WE X nm E a ma) (hb : WE X nm E b mb) : WE X nm E (.BinOp a op b pos) (eBin f ma mb) :=
  pe_imp (pe_op ho ha hb) fun _ _ _ h => bin_of h
theorem we_un {op : UnaryOp} {f : Mir.W → Store → Out Mir.W} {a : Expr} {ma : ME} (ho : UnR X (unaryOp op) (lR1 (tb X nm) f E)) (ha : WE X nm E a ma) : WE X nm E (.UnaryOp op a pos) (eUn f ma) :=
  pe_imp (pe_un ho ha) fun σ H Q ⟨w, d, e, o, re, h⟩ => by
    subst e
    refine lE_imp (lE_bind o re h) ?_
    rintro x H1 ⟨w1, a', rfl, o1, x1, re1, ra, h1⟩
    exact ⟨w1, a', rfl, o1, ra, h1⟩
theorem we_cmp {op : CmpOp} {f : Mir.W → Mir.W → Store → Out Mir.W} {a b : Expr} {ma mb : ME} (ho : OpR X (compareOp op) (lR2 (tb X nm) f E)) (ha : WE X nm E a ma) (hb : WE X nm E b mb) (hm : behindInMarks op b = false := by first | exact nomark _ | rfl) : WE X nm E (.Compare a [op] [b] pos) (eBin f ma mb) :=
  pe_imp (pe_cmpR ho ha hb hm) fun _ _ _ h => bin_of h
theorem wt_cmp {op : CmpOp} {f : Mir.W → Mir.W → Store → Out Mir.W} {a b : Expr} {ma mb : ME} (ho : OpR X (compareOp op) (lR2 (tb X nm) f E)) (ha : WE X nm E a ma) (hb : WE X nm E b mb) (hm : behindInMarks op b = false := by first | exact nomark _ | rfl) : WT X nm E (.Compare a [op] [b] pos) (Mir.tB (eBin f ma mb)) :=
  pt_imp (pt_cmpR ho ha hb hm) fun σ H Q ⟨w, d, e, o, re, h⟩ => by
    subst e
    refine bin_of ⟨w, d, rfl, o, re, h.bind.imp fun x w1 o1 _ q v rv => ?_⟩
    cases x with
    | bl b =>
      cases rv.bl_inv
      exact ⟨b, rfl, q w1 o1 (Ext.refl _) rfl⟩
    | _ => exact False.elim q
/-- is None, is not None -/
theorem we_isN {a : Expr} {ma : ME} {j : Nat} {p' : Pos} (ha : WE X nm E a ma) : WE X nm E (.Compare a [.Is] [.Constant .none j p'] pos) (eUn opIsN ma) :=
  pe_imp (pe_cmp (pc_isN ha)) fun σ H Q ⟨w, d, e, o, re, h⟩ => by
    subst e
    refine lE_imp (lE_bind o re h) ?_
    rintro x H1 ⟨w1, a', rfl, o1, x1, re1, ra, h1⟩
    have key : (V.bl (decide (x = .non))) = .bl (isNon a') := by
      cases ra <;> rfl
    rw [key]
    exact PostG.val o1 h1 (.bl _)
theorem we_notN {a : Expr} {ma : ME} {j : Nat} {p' : Pos} (ha : WE X nm E a ma) : WE X nm E (.Compare a [.IsNot] [.Constant .none j p'] pos) (eUn opNotN ma) :=
  pe_imp (pe_cmp (pc_notN ha)) fun σ H Q ⟨w, d, e, o, re, h⟩ => by
    subst e
    refine lE_imp (lE_bind o re h) ?_
    rintro x H1 ⟨w1, a', rfl, o1, x1, re1, ra, h1⟩
    have key : (V.bl (!decide (x = .non))) = .bl (!isNon a') := by
      cases ra <;> rfl
    rw [key]
    exact PostG.val o1 h1 (.bl _)

/-! ### tests -/
theorem tB_of {T : Tab} {m : ME} {σ : St} {H : Hp} {Q : Bool → Hp → Prop} (h : lT T (Mir.tB m) E σ H Q) : L2.tB (lE T m E) σ H Q := by
  obtain ⟨w, d, e, o, re, h⟩ := h
  subst e
  refine ⟨w, d, rfl, o, re, h.bind.imp fun x w1 o1 _ q v rv => ?_⟩
  cases x with
  | bl b =>
    cases rv.bl_inv
    exact ⟨b, rfl, q w1 o1 (Ext.refl _) rfl⟩
  | _ => exact False.elim q
/-- an expression as a test -/
theorem wt_val {e : Expr} {m : ME} (h : WE X nm E e m) (he : ∀ whole, isTrue e X.env whole = (do let v ← whole; standAt e.pos; holding [v] (truthy v)) := by intro _; rfl) : WT X nm E e (Mir.tB m) := pt_imp (pt_val h he) fun _ _ _ h => tB_of h
theorem wt_isN {a : Expr} {ma : ME} {j : Nat} {p' : Pos} (ha : WE X nm E a ma) : WT X nm E (.Compare a [.Is] [.Constant .none j p'] pos) (Mir.tB (eUn opIsN ma)) :=
  pt_imp (pt_cmp (pc_isN ha)) fun σ H Q h => by
    obtain ⟨w, d, e, o, re, p⟩ := tB_of h
    subst e
    refine lE_imp (lE_bind o re p) ?_
    rintro x H1 ⟨w1, a', rfl, o1, x1, re1, ra, h1⟩
    have key : (V.bl (decide (x = .non))) = .bl (isNon a') := by
      cases ra <;> rfl
    rw [key]
    exact PostG.val o1 h1 (.bl _)
theorem wt_notN {a : Expr} {ma : ME} {j : Nat} {p' : Pos} (ha : WE X nm E a ma) : WT X nm E (.Compare a [.IsNot] [.Constant .none j p'] pos) (Mir.tB (eUn opNotN ma)) :=
  pt_imp (pt_cmp (pc_notN ha)) fun σ H Q h => by
    obtain ⟨w, d, e, o, re, p⟩ := tB_of h
    subst e
    refine lE_imp (lE_bind o re p) ?_
    rintro x H1 ⟨w1, a', rfl, o1, x1, re1, ra, h1⟩
    have key : (V.bl (!decide (x = .non))) = .bl (!isNon a') := by
      cases ra <;> rfl
    rw [key]
    exact PostG.val o1 h1 (.bl _)
abbrev WW (X : Cx) (nm : Nm) (E : XK) (e : Expr) (m : MT) : Prop := PW X e (lT (tb X nm) m E)
theorem pw_imp {X : Cx} {e : Expr} {t t' : TT} (h : PW X e t) (k : ∀ σ H Q, t' σ H Q → t σ H Q) : PW X e t' := ⟨fun wh pins s σ H Q I q => h.run wh pins s σ H Q I (k σ H Q q)⟩
theorem ww_and1 {a : Expr} {m : MT} (h : WT X nm E a m) : WW X nm E (.BoolOp .And [a] pos) m := pw_and1 h
theorem ww_or1 {a : Expr} {m : MT} (h : WT X nm E a m) : WW X nm E (.BoolOp .Or [a] pos) m := pw_or1 h
theorem ww_and {a b : Expr} {rest : List Expr} {m k : MT} (ha : WT X nm E a m) (hb : WW X nm E (.BoolOp .And (b :: rest) pos) k) : WW X nm E (.BoolOp .And (a :: b :: rest) pos) (Mir.tAnd m k) :=
  pw_imp (pw_and ha hb) fun σ H Q ⟨w, d, e, o, re, h⟩ => by
    subst e
    refine lT_imp (lT_bind o re h) ?_
    rintro x H1 ⟨w1, rfl, o1, x1, re1, h1⟩
    cases x with
    | true => exact ⟨w1, d, rfl, o1, re1, h1⟩
    | false => exact h1.here o1 rfl
theorem ww_or {a b : Expr} {rest : List Expr} {m k : MT} (ha : WT X nm E a m) (hb : WW X nm E (.BoolOp .Or (b :: rest) pos) k) : WW X nm E (.BoolOp .Or (a :: b :: rest) pos) (Mir.tOr m k) :=
  pw_imp (pw_or ha hb) fun σ H Q ⟨w, d, e, o, re, h⟩ => by
    subst e
    refine lT_imp (lT_bind o re h) ?_
    rintro x H1 ⟨w1, rfl, o1, x1, re1, h1⟩
    cases x with
    | true => exact h1.here o1 rfl
    | false => exact ⟨w1, d, rfl, o1, re1, h1⟩
theorem wt_not {a : Expr} {m : MT} (ha : WT X nm E a m) : WT X nm E (.UnaryOp .Not a pos) (Mir.tNot m) :=
  pt_imp (pt_not ha) fun σ H Q ⟨w, d, e, o, re, h⟩ => by
    subst e
    refine lT_imp (lT_bind o re h) ?_
    rintro x H1 ⟨w1, rfl, o1, x1, re1, h1⟩
    exact h1.here o1 rfl
/-- and, or, not as values -/
theorem we_one {op} {a : Expr} {m : ME} (h : WE X nm E a m) : WE X nm E (.BoolOp op [a] pos) m := pe_one h
theorem we_and {a b : Expr} {rest : List Expr} {m k : ME} (ha : WE X nm E a m) (hb : WE X nm E (.BoolOp .And (b :: rest) pos) k) : WE X nm E (.BoolOp .And (a :: b :: rest) pos) (eAnd m k) :=
  pe_imp (pe_and ha hb) fun σ H Q ⟨w, d, e, o, re, h⟩ => by
    subst e
    refine lE_imp (lE_bind o re h) ?_
    rintro x H1 ⟨w1, a', rfl, o1, x1, re1, ra, h1⟩
    cases a' with
    | bl c =>
      refine ⟨c, ra.bl_inv, ?_⟩
      cases c with
      | true => exact ⟨w1, d, rfl, o1, re1, h1⟩
      | false => exact PostG.val o1 h1 (.bl false)
    | _ => exact False.elim h1
theorem we_or {a b : Expr} {rest : List Expr} {m k : ME} (ha : WE X nm E a m) (hb : WE X nm E (.BoolOp .Or (b :: rest) pos) k) : WE X nm E (.BoolOp .Or (a :: b :: rest) pos) (eOr m k) :=
  pe_imp (pe_or ha hb) fun σ H Q ⟨w, d, e, o, re, h⟩ => by
    subst e
    refine lE_imp (lE_bind o re h) ?_
    rintro x H1 ⟨w1, a', rfl, o1, x1, re1, ra, h1⟩
    cases a' with
    | bl c =>
      refine ⟨c, ra.bl_inv, ?_⟩
      cases c with
      | true => exact PostG.val o1 h1 (.bl true)
      | false => exact ⟨w1, d, rfl, o1, re1, h1⟩
    | _ => exact False.elim h1
theorem we_not {a : Expr} {m : ME} (ha : WE X nm E a m) : WE X nm E (.UnaryOp .Not a pos) (eNot m) :=
  pe_imp (pe_not ha) fun σ H Q ⟨w, d, e, o, re, h⟩ => by
    subst e
    refine lE_imp (lE_bind o re h) ?_
    rintro x H1 ⟨w1, a', rfl, o1, x1, re1, ra, h1⟩
    cases a' with
    | bl c => exact ⟨c, ra.bl_inv, PostG.val o1 h1 (.bl _)⟩
    | _ => exact False.elim h1
theorem we_if {c a b : Expr} {mc : MT} {m k : ME} (hc : WT X nm E c mc) (ha : WE X nm E a m) (hb : WE X nm E b k) : WE X nm E (.IfExp c a b pos) (eIf mc m k) :=
  pe_imp (pe_ifExp hc ha hb) fun σ H Q ⟨w, d, e, o, re, h⟩ => by
    subst e
    refine lT_imp (lT_bind o re h) ?_
    rintro x H1 ⟨w1, rfl, o1, x1, re1, h1⟩
    cases x with
    | true => exact ⟨w1, d, rfl, o1, re1, h1⟩
    | false => exact ⟨w1, d, rfl, o1, re1, h1⟩
theorem chain_of {T : Tab} {f g : Mir.W → Mir.W → Store → Out Mir.W} {ma mb mc : ME} {σ : St} {H : Hp} {Q : VK} (h : lE T (eChain f g ma mb mc) E σ H Q) : tChain (lR2 T f E) (lR2 T g E) (lE T ma E) (lE T mb E) (lE T mc E) σ H Q := by
  obtain ⟨w, d, e, o, re, h⟩ := h
  subst e
  refine lE_imp (lE_bind o re h) ?_
  rintro x H1 ⟨w1, a', rfl, o1, x1, re1, ra, h1⟩
  refine lE_imp (lE_bind o1 re1 h1) ?_
  rintro y H2 ⟨w2, b', rfl, o2, x2, re2, rb, h2⟩
  refine ⟨w2, a', b', rfl, o2, ra.mono x2.le x2.ex, rb, h2.bind.imp fun z w3 o3 x3 h3 v rv => ?_⟩
  cases z with
  | bl k =>
    refine ⟨k, rv.bl_inv, ?_⟩
    cases k with
    | true =>
      refine lE_imp (lE_bind o3 (re2.mono x3.le x3.ex) h3) ?_
      rintro u H4 ⟨w4, c', rfl, o4, x4, re4, rc, h4⟩
      exact ⟨w4, b', c', rfl, o4, (rb.mono x3.le x3.ex).mono x4.le x4.ex, rc, h4⟩
    | false => exact PostG.val o3 h3 (.bl false)
  | _ => exact False.elim h3
theorem we_chain {op op' : CmpOp} {f g : Mir.W → Mir.W → Store → Out Mir.W} {a b c : Expr} {ma mb mc : ME} (ho : OpR X (compareOp op) (lR2 (tb X nm) f E)) (ho' : OpR X (compareOp op') (lR2 (tb X nm) g E)) (ha : WE X nm E a ma) (hb : WE X nm E b mb) (hc : WE X nm E c mc)
    (hm : lastMarks [op, op'] [b, c] = false := by with_unfolding_all rfl) : WE X nm E (.Compare a [op, op'] [b, c] pos) (eChain f g ma mb mc) := pe_imp (pe_chain ho ho' ha hb hc hm) fun _ _ _ h => chain_of h
theorem wt_chain {op op' : CmpOp} {f g : Mir.W → Mir.W → Store → Out Mir.W} {a b c : Expr} {ma mb mc : ME} (ho : OpR X (compareOp op) (lR2 (tb X nm) f E)) (ho' : OpR X (compareOp op') (lR2 (tb X nm) g E)) (ha : WE X nm E a ma) (hb : WE X nm E b mb) (hc : WE X nm E c mc)
    (hm : lastMarks [op, op'] [b, c] = false := by with_unfolding_all rfl) : WT X nm E (.Compare a [op, op'] [b, c] pos) (Mir.tB (eChain f g ma mb mc)) := pt_imp (pt_chain ho ho' ha hb hc hm) fun _ _ _ h => chain_of (tB_of h)

/-! ### arguments and displays -/
theorem wa_nil : WA X nm E [] aNil := pa_imp pa_nil fun σ H Q ⟨w, d, e, o, re, h⟩ => by
  subst e
  exact h w o (Ext.refl w) rfl [] .nil
theorem wa_cons {e : Expr} {es : List Expr} {m : ME} {k : MA} (ha : WE X nm E e m) (hr : WA X nm E es k) (hs : starEach (e :: es) X.env = (false, eval e X.env) :: starEach es X.env := by rfl) : WA X nm E (e :: es) (aCons m k) :=
  pa_imp (pa_cons ha hr hs) fun σ H Q ⟨w, d, e, o, re, h⟩ => by
    subst e
    refine lE_imp (lE_bind o re h) ?_
    rintro x H1 ⟨w1, a', rfl, o1, x1, re1, ra, h1⟩
    refine lA_imp (lA_bind o1 re1 h1) ?_
    rintro xs H2 ⟨w2, bs, rfl, o2, x2, re2, rb, h2⟩
    exact h2 w2 o2 (Ext.refl _) rfl (x :: xs) (.cons (ra.mono x2.le x2.ex) rb)
theorem lim_size {n : Nat} (h : Nat.ble n LIM = true) : n ≤ sizeLine := Nat.le_trans (Nat.le_of_ble_eq_true h) (by decide)
theorem we_tup {es : List Expr} {m : MA} {x1} (h : WA X nm E es m) : WE X nm E (.Tuple es x1 pos) (eTup m) :=
  pe_imp (pe_tup h) fun σ H Q ⟨w, d, e, o, re, h⟩ => by
    subst e
    refine lA_imp (lA_bind o re h) ?_
    rintro xs H1 ⟨w1, bs, rfl, o1, x1, re1, rb, h1⟩
    cases hl : Nat.ble bs.length LIM with
    | false => rw [hl] at h1; exact False.elim h1
    | true =>
      rw [hl] at h1
      refine ⟨by rw [← rb.length]; exact lim_size hl, fun p hp => ?_⟩
      exact h1 (w1.layF p (.tup xs)) (o1.layF hp) (Ext.layF o1 hp) rfl (.ref p) (.tup (SqT.of (by show upd w1.G p (.tup xs) p = _; exact upd_same)) (rb.mono (Ext.layF o1 hp).le (Ext.layF o1 hp).ex))
theorem we_lst {es : List Expr} {m : MA} (h : WA X nm E es m) : WE X nm E (.List es pos) (eLst m) :=
  pe_imp (pe_lst h) fun σ H Q ⟨w, d, e, o, re, h⟩ => by
    subst e
    refine lA_imp (lA_bind o re h) ?_
    rintro xs H1 ⟨w1, bs, rfl, o1, x1, re1, rb, h1⟩
    cases hl : Nat.ble bs.length LIM with
    | false => rw [hl] at h1; exact False.elim h1
    | true =>
      rw [hl] at h1
      refine ⟨by rw [← rb.length]; exact lim_size hl, fun p hp => ?_⟩
      exact h1 (w1.layF p (.lst xs)) (o1.layF hp) (Ext.layF o1 hp) rfl (.ref p) (.lst (by show upd w1.G p (.lst xs) p = _; exact upd_same) (rb.mono (Ext.layF o1 hp).le (Ext.layF o1 hp).ex))
/-- a new list that may be changed -/
theorem new_lst {T : Tab} {w : Wd} {xs : List Mir.W} {vs : List V} {Q : VK} (o : Ok T w) (rb : w.rels T xs vs) (h : PostG T w (.ok (.ref w.S.next) (w.S.new (.lst xs))) (QW T Q) E) {p : Addr} (hp : w.H p = none) : Q (.ref p) (upd w.H p (.lst vs)) :=
  h (w.lay p (.lst xs) (.lst vs)) (o.lay hp ⟨vs, rfl, rb.mono (LeR.lay o) (Same.refl _)⟩) (Ext.lay o hp) rfl (.ref p) (.ref lay_r)
theorem we_lstM {es : List Expr} {m : MA} (h : WA X nm E es m) : WE X nm E (.List es pos) (eLstM m) :=
  pe_imp (pe_lst h) fun σ H Q ⟨w, d, e, o, re, h⟩ => by
    subst e
    refine lA_imp (lA_bind o re h) ?_
    rintro xs H1 ⟨w1, bs, rfl, o1, x1, re1, rb, h1⟩
    cases hl : Nat.ble bs.length LIM with
    | false => rw [hl] at h1; exact False.elim h1
    | true =>
      rw [hl] at h1
      exact ⟨by rw [← rb.length]; exact lim_size hl, fun p hp => new_lst o1 rb h1 hp⟩
end
end MW
set_option Elab.async false
set_option linter.all false
set_option maxRecDepth 100000
set_option maxHeartbeats 2000000
/-! MR2: targets, statements, loops, comprehensions, defs and their calls. -/
namespace MW
open PySem L2 Mir
/-! ### targets -/
mutual
def tgS : Tg → List Nat
  | .nm i => [i]
  | .tp ts => tgSs ts
def tgSs : List Tg → List Nat
  | [] => []
  | t :: ts => tgS t ++ tgSs ts
end
/-- but at these places the slots are the same -/
def Ch (l : List Nat) (σ σ' : St) : Prop := σ'.length = σ.length ∧ ∀ i, i ∉ l → σ'[i]? = σ[i]?
theorem Ch.refl (l : List Nat) (σ : St) : Ch l σ σ := ⟨rfl, fun _ _ => rfl⟩
theorem Ch.trans {l m : List Nat} {σ σ1 σ2 : St} (a : Ch l σ σ1) (b : Ch m σ1 σ2) : Ch (l ++ m) σ σ2 := ⟨b.1.trans a.1, fun i hi => (b.2 i fun z => hi (List.mem_append_right _ z)).trans (a.2 i fun z => hi (List.mem_append_left _ z))⟩
theorem Ch.set {i : Nat} {σ : St} {o : Option V} : Ch [i] σ (σ.set i o) := ⟨List.length_set, fun j hj => List.getElem?_set_ne (fun z => hj (by rw [z]; exact List.mem_cons_self))⟩
def lG (T : Tab) (t : Tg) : TG := fun v σ H Q => ∃ w d x d', w.H = H ∧ Ok T w ∧ w.env T d σ ∧ w.rel T x v ∧ stTg t x d = some d' ∧ ∀ σ', w.env T d' σ' → Ch (tgS t) σ σ' → Q σ' H
def lGs (T : Tab) (ts : List Tg) : TGs := fun vs σ H Q => ∃ w d xs d', w.H = H ∧ Ok T w ∧ w.env T d σ ∧ w.rels T xs vs ∧ stTgs ts xs d = some d' ∧ ∀ σ', w.env T d' σ' → Ch (tgSs ts) σ σ' → Q σ' H
abbrev WG (X : Cx) (nm : Nm) (e : Expr) (t : Tg) : Prop := PG X e (lG (tb X nm) t)
abbrev WGs (X : Cx) (nm : Nm) (es : List Expr) (t : List Tg) : Prop := PGs X es (lGs (tb X nm) t)
theorem pg_imp {X : Cx} {e : Expr} {t t' : TG} (h : PG X e t) (k : ∀ v σ H Q, t' v σ H Q → t v σ H Q) : PG X e t' := ⟨fun pins s σ H v u Q I r q => h.run pins s σ H v u Q I r (k v σ H Q q)⟩
theorem pgs_imp {X : Cx} {e : List Expr} {t t' : TGs} (h : PGs X e t) (k : ∀ v σ H Q, t' v σ H Q → t v σ H Q) : PGs X e t' := ⟨fun pins s σ H v u Q I r q => h.run pins s σ H v u Q I r (k v σ H Q q)⟩
section
variable {X : Cx} {nm : Nm} {E : XK} {pos : Pos}
theorem wg_name {i : Nat} {x : Str} (hN : X.N.Nodup) (hi : X.N[i]? = some x := by rfl) (hx : Loc X.env.scope x := by first | exact Or.inl rfl | exact Or.inr rfl) (hf : X.fn x = true ∨ X.env.scope.names.lookup x = some .local := by first | exact .inl rfl | exact .inr rfl | assumption) : WG X nm (.Name x pos) (.nm i) :=
  pg_imp (pg_name hN hi hx hf) fun v σ H Q ⟨w, d, x, d', e, o, re, rv, hs, k⟩ => by
    subst e
    cases hs
    exact k _ (re.set i rv) Ch.set
theorem wgs_nil : WGs X nm [] [] := pgs_imp pgs_nil fun v σ H Q ⟨w, d, x, d', e, o, re, rv, hs, k⟩ => by
  subst e
  cases rv with
  | nil => cases hs; exact ⟨rfl, k _ re (Ch.refl _ _)⟩
  | cons h q => cases hs
theorem wgs_cons {e : Expr} {es : List Expr} {t : Tg} {ts : List Tg} (h1 : WG X nm e t) (h2 : WGs X nm es ts) (hs : (assignEach (e :: es) X.env).map (·.2) = assign e X.env :: (assignEach es X.env).map (·.2) := by rfl) : WGs X nm (e :: es) (t :: ts) :=
  pgs_imp (pgs_cons h1 h2 hs) fun v σ H Q ⟨w, d, xs, d', e, o, re, rv, hst, k⟩ => by
    subst e
    cases rv with
    | nil => cases hst
    | @cons x v1 xs vs h q =>
      have hst' : (match stTg t x d with | some d1 => stTgs ts xs d1 | none => none) = some d' := hst
      cases g : stTg t x d with
      | none => rw [g] at hst'; cases hst'
      | some d1 =>
        rw [g] at hst'
        exact ⟨v1, vs, rfl, w, d, x, d1, rfl, o, re, h, g, fun σ1 re1 c1 => ⟨w, d1, xs, d', rfl, o, re1, q, hst', fun σ2 re2 c2 => k σ2 re2 (c1.trans c2)⟩⟩
theorem wg_tup {es : List Expr} {k n : Nat} {ts : List Tg} (hc : X.calm = true) (h : WGs X nm es ts) (hl : ts.length = n := by rfl) (hn : (assignEach es X.env).length = n := by rfl) (hst : (assignEach es X.env).findIdx? (·.1) = none := by rfl) : WG X nm (.Tuple es k pos) (.tp ts) :=
  pg_imp (pg_tup (n := n) hc h hn hst) fun v σ H Q ⟨w, d, x, d', e, o, re, rv, hs, kk⟩ => by
    subst e
    cases x with
    | tup xs =>
      obtain ⟨a, vs, rfl, sq, q⟩ := rv.tup_inv
      have hs' : stTgs ts xs d = some d' := hs
      refine ⟨a, vs, rfl, sqT_ex o.ex sq, ?_, w, d, xs, d', rfl, o, re, q, hs', kk⟩
      rw [← q.length, ← hl]
      clear q rv kk sq
      revert hs'
      induction ts generalizing xs d n with
      | nil => intro hs'; cases xs with
        | nil => rfl
        | cons _ _ => cases hs'
      | cons t ts ih => intro hs'; cases xs with
        | nil => cases hs'
        | cons y ys =>
          have hs2 : (match stTg t y d with | some d1 => stTgs ts ys d1 | none => none) = some d' := hs'
          cases g : stTg t y d with
          | none => rw [g] at hs2; cases hs2
          | some d1 =>
            rw [g] at hs2
            have aux : ∀ (ts : List Tg) (ys : List Mir.W) (d1 : DEnv), stTgs ts ys d1 = some d' → ys.length = ts.length := by
              intro ts
              induction ts with
              | nil => intro ys d1 z; cases ys with
                | nil => rfl
                | cons _ _ => cases z
              | cons t ts ih => intro ys d1 z; cases ys with
                | nil => cases z
                | cons y ys =>
                  have z2 : (match stTg t y d1 with | some d1 => stTgs ts ys d1 | none => none) = some d' := z
                  cases g : stTg t y d1 with
                  | none => rw [g] at z2; cases z2
                  | some d2 => rw [g] at z2; rw [List.length_cons, List.length_cons, ih ys d2 z2]
            rw [List.length_cons, List.length_cons, aux ts ys d1 hs2]
    | _ => cases hs
end

/-! ### statements -/
def QS (T : Tab) (D : Ends) : Fl → Wd → Prop := fun f w => match f with
  | .nx d => ∀ σ, w.env T d σ → D.nx σ w.H
  | .rt x => ∀ v, w.rel T x v → D.rt v w.H
  | .br d => ∀ σ, w.env T d σ → D.bk σ w.H
  | .ct d => ∀ σ, w.env T d σ → D.ct σ w.H
def lS (T : Tab) (m : MS) (E : XK) : TS := fun D σ H => ∃ w d, w.H = H ∧ Ok T w ∧ w.env T d σ ∧ PostG T w (m d w.S) (QS T D) E
abbrev WS (X : Cx) (nm : Nm) (E : XK) (s : Stmt) (m : MS) : Prop := PS X s (lS (tb X nm) m E)
abbrev WSs (X : Cx) (nm : Nm) (E : XK) (s : List Stmt) (m : MS) : Prop := PSs X s (lS (tb X nm) m E)
theorem ps_imp {X : Cx} {e : Stmt} {t t' : TS} (h : PS X e t) (k : ∀ D σ H, t' D σ H → t D σ H) : PS X e t' := ⟨fun pins s σ H D I q => h.run pins s σ H D I (k D σ H q)⟩
theorem pss_imp {X : Cx} {e : List Stmt} {t t' : TS} (h : PSs X e t) (k : ∀ D σ H, t' D σ H → t D σ H) : PSs X e t' := ⟨fun pins s σ H D I q => h.run pins s σ H D I (k D σ H q)⟩
section
variable {X : Cx} {nm : Nm} {E : XK} {pos : Pos}
theorem wss_nil : WSs X nm E [] sNext := pss_imp pss_nil fun D σ H ⟨w, d, e, o, re, h⟩ => by
  subst e
  exact h.here o rfl σ re
theorem wss_one {s : Stmt} {m : MS} (h : WS X nm E s m) : WSs X nm E [s] m := pss_one h
theorem wss_cons {s : Stmt} {ss : List Stmt} {m k : MS} (h1 : WS X nm E s m) (h2 : WSs X nm E ss k) : WSs X nm E (s :: ss) (sSeq m k) := pss_imp (pss_cons h1 h2) fun D σ H ⟨w, d, e, o, re, h⟩ => by
  subst e
  refine ⟨w, d, rfl, o, re, h.bind.imp fun f w1 o1 x1 q => ?_⟩
  cases f with
  | nx d1 => exact fun σ1 re1 => ⟨w1, d1, rfl, o1, re1, q⟩
  | rt x => exact q w1 o1 (Ext.refl _) rfl
  | br d1 => exact q w1 o1 (Ext.refl _) rfl
  | ct d1 => exact q w1 o1 (Ext.refl _) rfl
theorem ws_pass : WS X nm E (.Pass pos) sNext := ps_imp ps_pass fun D σ H ⟨w, d, e, o, re, h⟩ => by
  subst e
  exact h.here o rfl σ re
theorem ws_cont : WS X nm E (.Continue pos) sCont := ps_imp ps_continue fun D σ H ⟨w, d, e, o, re, h⟩ => by
  subst e
  exact h.here o rfl σ re
/-- code that is never come to -/
def sBad : MS := fun _ _ => .bad
theorem ws_bad {s : Stmt} : WS X nm E s sBad := ps_imp ps_never fun D σ H ⟨w, d, e, o, re, h⟩ => h.elim
theorem ws_expr {e : Expr} {m : ME} (he : WE X nm E e m) (hs : swapsWith e none pos.line X.env = pure false := by rfl) : WS X nm E (.Expr e pos) (sExpr m) := ps_imp (ps_expr he hs) fun D σ H ⟨w, d, e, o, re, h⟩ => by
  subst e
  refine lE_imp (lE_bind o re h) ?_
  rintro v H1 ⟨w1, x, rfl, o1, x1, re1, rv, h1⟩
  exact h1.here o1 rfl σ re1
theorem ws_ret {e : Expr} {m : ME} (he : WE X nm E e m) : WS X nm E (.Return (some e) pos) (sRet m) := ps_imp (ps_ret he) fun D σ H ⟨w, d, e, o, re, h⟩ => by
  subst e
  refine lE_imp (lE_bind o re h) ?_
  rintro v H1 ⟨w1, x, rfl, o1, x1, re1, rv, h1⟩
  exact h1.here o1 rfl v rv
theorem ws_if {c : Expr} {a b : List Stmt} {mc : MT} {m k : MS} (hc : WT X nm E c mc) (ha : WSs X nm E a m) (hb : WSs X nm E b k) : WS X nm E (.If c a b pos) (sIf mc m k) := ps_imp (ps_if hc ha hb) fun D σ H ⟨w, d, e, o, re, h⟩ => by
  subst e
  refine lT_imp (lT_bind o re h) ?_
  rintro x H1 ⟨w1, rfl, o1, x1, re1, h1⟩
  cases x with
  | true => exact ⟨w1, d, rfl, o1, re1, h1⟩
  | false => exact ⟨w1, d, rfl, o1, re1, h1⟩
theorem ws_set {i : Nat} {x : Str} {e : Expr} {m : ME} {pos' : Pos} (hN : X.N.Nodup) (he : WE X nm E e m) (hi : X.N[i]? = some x := by rfl) (hx : Loc X.env.scope x := by first | exact Or.inl rfl | exact Or.inr rfl) (hs : swapsWith e (some (.Name x pos')) pos.line X.env = pure false := by rfl)
    (hf : X.fn x = true ∨ X.env.scope.names.lookup x = some .local := by first | exact .inl rfl | exact .inr rfl | assumption) : WS X nm E (.Assign [.Name x pos'] e pos) (sAsg (.nm i) m) := ps_imp (ps_set hN hi hx he hs hf) fun D σ H ⟨w, d, e, o, re, h⟩ => by
  subst e
  refine lE_imp (lE_bind o re h) ?_
  rintro v H1 ⟨w1, x, rfl, o1, x1, re1, rv, h1⟩
  exact h1.here o1 rfl _ (re1.set i rv)
theorem ws_asg {tg e : Expr} {m : ME} {t : Tg} (he : WE X nm E e m) (hg : WG X nm tg t) (hs : swapsWithSole [tg] e pos.line X.env = pure false := by rfl) (hw : swappedStores [tg] e X.env = pure none := by rfl)
    (h1 : (assignEach [tg] X.env).map (·.2) = [assign tg X.env] := by rfl) : WS X nm E (.Assign [tg] e pos) (sAsg t m) := ps_imp (ps_asg he hg hs hw h1) fun D σ H ⟨w, d, e, o, re, h⟩ => by
  subst e
  refine lE_imp (lE_bind o re h) ?_
  rintro v H1 ⟨w1, x, rfl, o1, x1, re1, rv, h1⟩
  cases g : stTg t x d with
  | none => rw [g] at h1; exact h1.elim
  | some d1 =>
    rw [g] at h1
    exact ⟨w1, d, x, d1, rfl, o1, re1, rv, g, fun σ1 re' _ => h1.here o1 rfl σ1 re'⟩
/-- a, b = x, y -/
theorem getS_setS_ne {d : DEnv} {i j : Nat} {x : Option Mir.W} (h : i ≠ j) : getS (setS d i x) j = getS d j := by
  induction d generalizing i j with
  | nil => cases i <;> rfl
  | cons y r ih => cases i with
    | zero => cases j with
      | zero => exact absurd rfl h
      | succ j => rfl
    | succ i => cases j with
      | zero => rfl
      | succ j => exact ih (fun z => h (by rw [z]))
theorem ws_par {i j : Nat} {x y : Str} {a b : Expr} {m : MA} {px py pt : Pos} {kt k2 pt2} (hc : X.calm = true) (hN : X.N.Nodup) (ha : WA X nm E [a, b] m) (hi : X.N[i]? = some x := by rfl) (hj : X.N[j]? = some y := by rfl) (hij : i ≠ j := by decide)
    (hx : X.env.scope.names.lookup x = some .local := by rfl) (hy : X.env.scope.names.lookup y = some .local := by rfl)
    (hw : swappedStores [.Tuple [.Name x px, .Name y py] kt pt] (.Tuple [a, b] k2 pt2) X.env = pure (some [x, y]) := by rfl)
    (hs : swapsWithSole [.Tuple [.Name x px, .Name y py] kt pt] (.Tuple [a, b] k2 pt2) pos.line X.env = pure false := by rfl) :
    WS X nm E (.Assign [.Tuple [.Name x px, .Name y py] kt pt] (.Tuple [a, b] k2 pt2) pos) (sAsg (.tp [.nm i, .nm j]) (eTup m)) := ps_imp (ps_par hc hN hi hj hij hx hy ha hw hs) fun D σ H ⟨w, d, e, o, re, h⟩ => by
  subst e
  have h' : PostG (tb X nm) w ((m d w.S).bind fun xs S1 => (if Nat.ble xs.length LIM then Out.ok (Mir.W.tup xs) S1 else .bad).bind fun x S1 => match stTg (.tp [.nm i, .nm j]) x d with | some d1 => .ok (Fl.nx d1) S1 | none => .bad) (QS (tb X nm) D) E := by
    have hh : PostG (tb X nm) w (((m d w.S).bind fun xs S1 => if Nat.ble xs.length LIM then Out.ok (Mir.W.tup xs) S1 else .bad).bind fun x S1 => match stTg (.tp [.nm i, .nm j]) x d with | some d1 => .ok (Fl.nx d1) S1 | none => .bad) (QS (tb X nm) D) E := h
    cases g : m d w.S with
    | ok xs S1 => rw [g] at hh; exact hh
    | err c fs S1 => rw [g] at hh; exact hh
    | bad => rw [g] at hh; exact hh
  refine lA_imp (lA_bind o re h') ?_
  rintro vs H1 ⟨w1, xs, rfl, o1, x1, re1, rv, h1⟩
  cases hl : Nat.ble xs.length LIM with
  | false => rw [hl] at h1; exact h1.elim
  | true =>
    rw [hl] at h1
    cases rv with
    | nil => exact h1.elim
    | @cons xa va xs vs ha' q => cases q with
      | nil => exact h1.elim
      | @cons xb vb xs vs hb' q => cases q with
        | nil => exact ⟨va, vb, rfl, h1.here o1 rfl _ ((re1.set i ha').set j hb')⟩
        | cons hc' q => exact h1.elim

/-! ### what is walked -/
def Walk (T : Tab) (w : Wd) (xs : List Mir.W) (g : Gd) (J : It) : Prop := ∀ w', Ok T w' → ExtG w w' → still w'.S g = true →
  (∀ i x, xs[i]? = some x → J.go i w'.H ∧ ∀ v H', J.yld i w'.H v H' → ∃ w2, w2.H = H' ∧ Ok T w2 ∧ Ext w' w2 ∧ w2.S = w'.S ∧ w2.rel T x v) ∧ J.stop xs.length w'.H
def lI (T : Tab) (m : MI) (E : XK) : TI := fun σ H R => ∃ w d, w.H = H ∧ Ok T w ∧ w.env T d σ ∧ PostG T w (m d w.S) (fun p w' => ∀ J, Walk T w' p.1 p.2 J → R J w'.H) E
abbrev WI (X : Cx) (nm : Nm) (E : XK) (tg e : Expr) (m : MI) : Prop := PI X tg e (lI (tb X nm) m E)
theorem pi_imp {X : Cx} {tg e : Expr} {t t' : TI} (h : PI X tg e t) (k : ∀ σ H R, t' σ H R → t σ H R) : PI X tg e t' := ⟨fun pins s σ H R I q => h.run pins s σ H R I (k σ H R q)⟩
theorem pi_or {X : Cx} {tg e : Expr} {t t' : TI} (h : PI X tg e t) (h' : PI X tg e t') : PI X tg e (fun σ H R => t σ H R ∨ t' σ H R) := ⟨fun pins s σ H R I q => q.elim (h.run pins s σ H R I) (h'.run pins s σ H R I)⟩
end
mutual
theorem sameW_eq : ∀ {a b : Mir.W}, sameW a b = true → a = b
  | .non, b, h => by cases b <;> first | rfl | cases h
  | .bl a, b, h => by
    cases b with
    | bl c => rw [eq_of_beq (show (a == c) = true from h)]
    | _ => cases h
  | .int i, b, h => by
    cases b with
    | int j => rw [of_decide_eq_true (show decide (i = j) = true from h)]
    | _ => cases h
  | .str x, b, h => by
    cases b with
    | str y =>
      have aux : ∀ x y : List Nat, beqL x y = true → x = y := by
        intro x
        induction x with
        | nil => intro y; cases y with
          | nil => intro _; rfl
          | cons _ _ => intro z; cases z
        | cons a r ih => intro y; cases y with
          | nil => intro z; cases z
          | cons b s =>
            intro z
            have z' : (if Nat.beq a b then beqL r s else false) = true := z
            cases e : Nat.beq a b with
            | false => rw [e] at z'; cases z'
            | true =>
              rw [e] at z'
              rw [Nat.eq_of_beq_eq_true e, ih s z']
      rw [aux x y h]
    | _ => cases h
  | .tup xs, b, h => by
    cases b with
    | tup ys => rw [sameWs_eq (show sameWs xs ys = true from h)]
    | _ => cases h
  | .lst xs, b, h => by
    cases b with
    | lst ys => rw [sameWs_eq (show sameWs xs ys = true from h)]
    | _ => cases h
  | .ref n, b, h => by
    cases b with
    | ref m => rw [Nat.eq_of_beq_eq_true (show Nat.beq n m = true from h)]
    | _ => cases h
  | .obj c fs, b, h => by
    cases b with
    | obj k gs =>
      have h' : (if Nat.beq c k then sameFs fs gs else false) = true := h
      cases e : Nat.beq c k with
      | false => rw [e] at h'; cases h'
      | true =>
        rw [e] at h'
        rw [Nat.eq_of_beq_eq_true e, sameFs_eq (show sameFs fs gs = true from h')]
    | _ => cases h
  | .cls c, b, h => by
    cases b with
    | cls k => rw [Nat.eq_of_beq_eq_true (show Nat.beq c k = true from h)]
    | _ => cases h
  | .lsr _, b, h => by cases b <;> cases h
theorem sameFs_eq : ∀ {a b : List (Nat × Mir.W)}, sameFs a b = true → a = b
  | [], b, h => by
    cases b with
    | nil => rfl
    | cons _ _ => cases h
  | (i, x) :: r, b, h => by
    cases b with
    | nil => cases h
    | cons q s =>
      obtain ⟨j, y⟩ := q
      have h' : (if Nat.beq i j then (if sameW x y then sameFs r s else false) else false) = true := h
      cases e : Nat.beq i j with
      | false => rw [e] at h'; cases h'
      | true =>
        rw [e] at h'
        have h2 : (if sameW x y then sameFs r s else false) = true := h'
        cases e2 : sameW x y with
        | false => rw [e2] at h2; cases h2
        | true =>
          rw [e2] at h2
          rw [Nat.eq_of_beq_eq_true e, sameW_eq e2, sameFs_eq (show sameFs r s = true from h2)]
theorem sameWs_eq : ∀ {a b : List Mir.W}, sameWs a b = true → a = b
  | [], b, h => by
    cases b with
    | nil => rfl
    | cons _ _ => cases h
  | x :: r, b, h => by
    cases b with
    | nil => cases h
    | cons y s =>
      have h' : (if sameW x y then sameWs r s else false) = true := h
      cases e : sameW x y with
      | false => rw [e] at h'; cases h'
      | true =>
        rw [e] at h'
        rw [sameW_eq e, sameWs_eq (show sameWs r s = true from h')]
end
theorem still_at {S : Store} {g : Gd} (h : still S g = true) {n : Nat} {xs : List Mir.W} (hm : (n, xs) ∈ g) : S.get n = some (.lst xs) := by
  induction g with
  | nil => cases hm
  | cons p g ih =>
    obtain ⟨m, ys⟩ := p
    have h' : (match S.get m with | some (.lst zs) => if sameWs zs ys then still S g else false | _ => false) = true := h
    cases e : S.get m with
    | none => rw [e] at h'; cases h'
    | some so =>
      rw [e] at h'
      cases so with
      | lst zs =>
        have h2 : (if sameWs zs ys then still S g else false) = true := h'
        cases e2 : sameWs zs ys with
        | false => rw [e2] at h2; cases h2
        | true =>
          rw [e2] at h2
          rcases List.mem_cons.mp hm with z | z
          · cases z
            rw [e, sameWs_eq e2]
          · exact ih h2 z
      | dct _ => cases h'
      | ins _ _ => cases h'
section
variable {T : Tab} {w : Wd}
theorem Walk.mono {w1 : Wd} {xs : List Mir.W} {g : Gd} {J : It} (h : Walk T w xs g J) (e : Ext w w1) : Walk T w1 xs g J := fun w' o x st => h w' o (e.g.trans x) st
/-- a list that is frozen, or stays as it is -/
theorem walk_l {a : Addr} {xs : List Mir.W} {g : Gd} (h : ∀ w', Ok T w' → ExtG w w' → still w'.S g = true → ∃ vs, SqL T.K w'.H a vs ∧ w'.rels T xs vs) : Walk T w xs g (Itl T.K a) := fun w' o x st => by
  obtain ⟨vs, sq, q⟩ := h w' o x st
  refine ⟨fun i y e => ?_, vs, sq, by rw [q.length]; exact Nat.le_refl _⟩
  obtain ⟨v, e1, rv⟩ := q.get e
  refine ⟨⟨vs, v, sq, e1⟩, fun v' H' hy => ?_⟩
  obtain ⟨eH, hv⟩ := hy
  have := hv vs sq
  rw [e1] at this
  cases this
  exact ⟨w', eH.symm, o, Ext.refl _, rfl, rv⟩
end
end MW
set_option Elab.async false
set_option linter.all false
set_option maxRecDepth 100000
set_option maxHeartbeats 2000000
/-! MR3: walks, loops, defs and their calls. -/
namespace MW
open PySem PySem.Spec PyProof.Rows L2 Mir
section
variable {T : Tab} {w : Wd}
theorem walk_t {a : Addr} {xs : List Mir.W} {g : Gd} (h : ∀ w', Ok T w' → ExtG w w' → still w'.S g = true → ∃ vs, SqT T.K w'.H a vs ∧ w'.rels T xs vs) : Walk T w xs g (Itt T.K a) := fun w' o x st => by
  obtain ⟨vs, sq, q⟩ := h w' o x st
  refine ⟨fun i y e => ?_, vs, sq, by rw [q.length]; exact Nat.le_refl _⟩
  obtain ⟨v, e1, rv⟩ := q.get e
  refine ⟨⟨vs, v, sq, e1⟩, fun v' H' hy => ?_⟩
  obtain ⟨eH, hv⟩ := hy
  have := hv vs sq
  rw [e1] at this
  cases this
  exact ⟨w', eH.symm, o, Ext.refl _, rfl, rv⟩
theorem walk_s {x : Str} {z : List Nat} {g : Gd} (e : TL.tl x = z) (ha : okS z = true) : Walk T w (z.map fun c => .str [c]) g (Its x) := fun w' o _ st => by
  subst e
  have hsz : x.cps.size = (TL.tl x).length := by simp [TL.tl]
  refine ⟨fun i y e => ?_, ?_⟩
  · rw [List.getElem?_map] at e
    cases q : (TL.tl x)[i]? with
    | none => rw [q] at e; cases e
    | some c =>
      rw [q] at e
      cases e
      have hi : i < x.cps.size := by rw [hsz]; exact (List.getElem?_eq_some_iff.mp q).1
      refine ⟨hi, fun v H' hy => ?_⟩
      obtain ⟨eH, c', ec, rfl⟩ := hy
      have ecc : c' = c := by
        have : x.cps[i]? = some c := by
          have q2 : x.cps.toList[i]? = some c := q
          simpa using q2
        rw [this] at ec
        exact (Option.some.inj ec).symm
      subst ecc
      refine ⟨w', eH.symm, o, Ext.refl _, rfl, .str (by rfl) ?_⟩
      have : Nat.blt c' 128 = true := List.all_eq_true.mp (Bool.and_eq_true_iff.mp ha).1 c' (List.mem_of_getElem? q)
      show ((Nat.blt c' 128 && true) && true) = true
      rw [this] <;> rfl
  · show x.cps.size ≤ _
    rw [List.length_map, hsz]
    exact Nat.le_refl _
theorem walk_r {lo : Int} {n : Nat} {g : Gd} : Walk T w (rangeL lo n) g (Itr lo n) := fun w' o _ st => by
  have key : ∀ (n : Nat) (lo : Int), (rangeL lo n).length = n ∧ ∀ i x, (rangeL lo n)[i]? = some x → i < n ∧ x = .int (lo + i) := by
    intro n
    induction n with
    | zero => intro lo; exact ⟨rfl, fun i x e => by cases e⟩
    | succ n ih =>
      intro lo
      obtain ⟨h1, h2⟩ := ih (lo + 1)
      refine ⟨by show (rangeL (lo + 1) n).length + 1 = n + 1; rw [h1], fun i x e => ?_⟩
      cases i with
      | zero =>
        have e' : some (Mir.W.int lo) = some x := e
        cases e'
        exact ⟨Nat.succ_pos _, by rw [show lo + ((0 : Nat) : Int) = lo from Int.add_zero lo]⟩
      | succ i =>
        obtain ⟨a, b⟩ := h2 i x e
        refine ⟨Nat.succ_lt_succ a, ?_⟩
        rw [b]
        congr 1
        push_cast
        omega
  obtain ⟨h1, h2⟩ := key n lo
  refine ⟨fun i x e => ?_, by show n ≤ _; rw [h1]; exact Nat.le_refl _⟩
  obtain ⟨a, b⟩ := h2 i x e
  refine ⟨a, fun v H' hy => ?_⟩
  obtain ⟨eH, rfl⟩ := hy
  subst b
  exact ⟨w', eH.symm, o, Ext.refl _, rfl, .int _⟩
/-- what itOf tells of a list or a tuple -/
theorem itOf_lst (o : Ok T w) {x : Mir.W} {v : V} {p : List Mir.W × Gd} (e : itOf w.S x = some p) (rv : w.rel T x v) (hl : (∃ xs, x = .lst xs) ∨ (∃ xs, x = .lsr xs) ∨ ∃ n, x = .ref n) : ∃ a, v = .ref a ∧ ∀ w', Ok T w' → ExtG w w' → still w'.S p.2 = true → ∃ vs, SqL T.K w'.H a vs ∧ w'.rels T p.1 vs := by
  rcases hl with ⟨xs, rfl⟩ | ⟨xs, rfl⟩ | ⟨n, rfl⟩
  · cases e
    obtain ⟨a, vs, rfl, h, q⟩ := rv.lst_inv
    exact ⟨a, rfl, fun w' o' x' _ => ⟨vs, SqL.of (o'.ex _ _ (x'.ex _ _ h)), q.mono x'.le x'.ex⟩⟩
  · cases e
    obtain ⟨a, vs, rfl, h, q⟩ := rv.lsr_inv
    exact ⟨a, rfl, fun w' o' x' _ => ⟨vs, sqL_ex (Same.trans x'.ex o'.ex) h, q.mono x'.le x'.ex⟩⟩
  · have e2 : (match w.S.get n with | some (.lst xs) => some (xs, [(n, xs)]) | _ => none) = some p := e
    cases g : w.S.get n with
    | none => rw [g] at e2; cases e2
    | some so =>
      rw [g] at e2
      cases so with
      | lst xs =>
        cases e2
        obtain ⟨a, rfl, hr⟩ := rv.ref_inv
        refine ⟨a, rfl, fun w' o' x' st => ?_⟩
        have g' := still_at st List.mem_cons_self
        obtain ⟨a', vs, e3, _, _, h3, q⟩ := o'.lstAt g' (.ref (x'.le _ _ hr))
        cases e3
        exact ⟨vs, SqL.of h3, q⟩
      | dct _ => cases e2
      | ins _ _ => cases e2
end
section
variable {X : Cx} {nm : Nm} {E : XK} {pos : Pos} {tg : Expr}
/-- a sequence or a text -/
theorem wi_seq {e : Expr} {m : ME} (h : WE X nm E e m) : WI X nm E tg e (iSeq m) := pi_imp (pi_or (pi_list h) (pi_or (pi_tup h) (pi_str h))) fun σ H R ⟨w, d, eH, o, re, h⟩ => by
  subst eH
  have h' : PostG (tb X nm) w ((m d w.S).bind fun x S1 => oks (itOf S1 x) S1) (fun p w' => ∀ J, Walk (tb X nm) w' p.1 p.2 J → R J w'.H) E := h
  cases g : m d w.S with
  | bad => rw [g] at h'; exact h'.elim
  | err c fs S1 =>
    rw [g] at h'
    exact .inl ⟨w, d, rfl, o, re, by rw [g]; exact h'⟩
  | ok x S1 =>
    rw [g] at h'
    have h2 : PostG (tb X nm) w (oks (itOf S1 x) S1) (fun p w' => ∀ J, Walk (tb X nm) w' p.1 p.2 J → R J w'.H) E := h'
    cases q : itOf S1 x with
    | none => rw [q] at h2; exact h2.elim
    | some p =>
      rw [q] at h2
      have fin : ∀ (hl : (∃ xs, x = .lst xs) ∨ (∃ xs, x = .lsr xs) ∨ ∃ n, x = .ref n), iList X.K (lE (tb X nm) m E) σ w.H R := fun hl =>
        ⟨w, d, rfl, o, re, by
          rw [g]
          intro w1 o1 x1 hs v rv
          subst hs
          obtain ⟨a, rfl, k⟩ := itOf_lst o1 q rv hl
          have k2 := k
          refine ⟨a, rfl, ?_, h2 w1 o1 x1 rfl _ (walk_l fun w' o' x' st => k w' o' x' st)⟩
          rcases hl with ⟨xs, rfl⟩ | ⟨xs, rfl⟩ | ⟨n, rfl⟩
          · obtain ⟨a', vs, e1, h3, _⟩ := rv.lst_inv
            cases e1
            exact ⟨vs, SqL.of (o1.ex _ _ h3)⟩
          · obtain ⟨a', vs, e1, h3, _⟩ := rv.lsr_inv
            cases e1
            exact ⟨vs, sqL_ex o1.ex h3⟩
          · have e2 : (match w1.S.get n with | some (.lst xs) => some (xs, [(n, xs)]) | _ => none) = some p := q
            cases g : w1.S.get n with
            | none => rw [g] at e2; cases e2
            | some so =>
              rw [g] at e2
              cases so with
              | lst xs =>
                obtain ⟨a', vs, e3, _, _, h3, _⟩ := o1.lstAt g rv
                cases e3
                exact ⟨vs, SqL.of h3⟩
              | dct _ => cases e2
              | ins _ _ => cases e2⟩
      cases x with
      | lst xs => exact .inl (fin (.inl ⟨xs, rfl⟩))
      | lsr xs => exact .inl (fin (.inr (.inl ⟨xs, rfl⟩)))
      | ref n => exact .inl (fin (.inr (.inr ⟨n, rfl⟩)))
      | tup xs =>
        cases q
        refine .inr (.inl ⟨w, d, rfl, o, re, ?_⟩)
        rw [g]
        intro w1 o1 x1 hs v rv
        subst hs
        obtain ⟨a, vs, rfl, sq, rr⟩ := rv.tup_inv
        exact ⟨a, rfl, ⟨vs, sqT_ex o1.ex sq⟩, h2 w1 o1 x1 rfl _ (walk_t fun w' o' x' st => ⟨vs, sqT_ex (Same.trans x'.ex o'.ex) sq, rr.mono x'.le x'.ex⟩)⟩
      | str z =>
        cases q
        refine .inr (.inr ⟨w, d, rfl, o, re, ?_⟩)
        rw [g]
        intro w1 o1 x1 hs v rv
        subst hs
        obtain ⟨x, rfl, e1, e2⟩ := rv.str_inv
        exact ⟨x, rfl, h2 w1 o1 x1 rfl _ (walk_s e1 e2)⟩
      | _ => cases q
theorem inMil_ok {i : Int} (h : inMil i = true) : -(2 ^ 62) ≤ i ∧ i < 2 ^ 62 := by
  obtain ⟨a, b⟩ := Bool.and_eq_true_iff.mp h
  have a' := of_decide_eq_true a
  have b' := of_decide_eq_true b
  omega
theorem wi_range1 {a : Expr} {m : ME} {p : Pos} (h : WE X nm E a m) (hm : X.mg "range" = none) (hg : Gl X "range" := by rfl) (hs : starEach [a] X.env = [(false, eval a X.env)] := by rfl) : WI X nm E tg (.Call (.Name "range" p) [a] [] pos) (iRange1 m) :=
  pi_imp (pi_range1 hg hm (wa_cons h wa_nil hs) hs) fun σ H R ⟨w, d, eH, o, re, h⟩ => by
    subst eH
    refine ⟨w, d, rfl, o, re, ?_⟩
    show PostG _ w ((m d w.S).bind fun x S1 => (aNil d S1).bind fun xs S2 => .ok (x :: xs) S2) _ _
    have h' : PostG (tb X nm) w ((m d w.S).bind fun y S2 => match y with | .int j => if inMil j then .ok (rangeL 0 j.toNat, []) S2 else .bad | _ => .bad) (fun p w' => ∀ J, Walk (tb X nm) w' p.1 p.2 J → R J w'.H) E := h
    cases g : m d w.S with
    | bad => rw [g] at h'; exact h'.elim
    | err c fs S1 => rw [g] at h'; exact h'
    | ok x S1 =>
      rw [g] at h'
      cases x with
      | int j =>
        intro w1 o1 x1 hs vs rv
        cases rv with
        | cons rj q => cases q with
          | nil =>
            cases rj.int_inv
            have h2 : PostG (tb X nm) w (if inMil j then .ok (rangeL 0 j.toNat, []) S1 else .bad) (fun p w' => ∀ J, Walk (tb X nm) w' p.1 p.2 J → R J w'.H) E := h'
            cases e : inMil j with
            | false => rw [e] at h2; exact h2.elim
            | true =>
              rw [e] at h2
              obtain ⟨b1, b2⟩ := inMil_ok e
              exact ⟨j, rfl, b1, b2, h2 w1 o1 x1 hs _ walk_r⟩
      | _ => exact h'.elim
theorem wi_range {a b : Expr} {m k : ME} {p : Pos} (h : WE X nm E a m) (hb : WE X nm E b k) (hm : X.mg "range" = none) (hg : Gl X "range" := by rfl) (hs : starEach [a, b] X.env = [(false, eval a X.env), (false, eval b X.env)] := by rfl) (hs2 : starEach [b] X.env = [(false, eval b X.env)] := by rfl) : WI X nm E tg (.Call (.Name "range" p) [a, b] [] pos) (iRange m k) :=
  pi_imp (pi_range2 hg hm (wa_cons h (wa_cons hb wa_nil hs2) (by rw [hs, hs2])) hs hs2) fun σ H R ⟨w, d, eH, o, re, h⟩ => by
    subst eH
    refine ⟨w, d, rfl, o, re, ?_⟩
    have h' : PostG (tb X nm) w ((m d w.S).bind fun x S1 => (k d S1).bind fun y S2 => match x with | .int i => (match y with | .int j => if inMil i && inMil j then .ok (rangeL i (j - i).toNat, []) S2 else .bad | _ => .bad) | _ => .bad) (fun p w' => ∀ J, Walk (tb X nm) w' p.1 p.2 J → R J w'.H) E := h
    show PostG _ w ((m d w.S).bind fun x S1 => ((k d S1).bind fun x S1 => (aNil d S1).bind fun xs S2 => .ok (x :: xs) S2).bind fun xs S2 => .ok (x :: xs) S2) _ _
    cases g : m d w.S with
    | bad => rw [g] at h'; exact h'.elim
    | err c fs S1 => rw [g] at h'; exact h'
    | ok x S1 =>
      rw [g] at h'
      have h2 : PostG (tb X nm) w ((k d S1).bind fun y S2 => match x with | .int i => (match y with | .int j => if inMil i && inMil j then .ok (rangeL i (j - i).toNat, []) S2 else .bad | _ => .bad) | _ => .bad) (fun p w' => ∀ J, Walk (tb X nm) w' p.1 p.2 J → R J w'.H) E := h'
      show PostG _ w (((k d S1).bind fun x S1 => (aNil d S1).bind fun xs S2 => .ok (x :: xs) S2).bind fun xs S2 => .ok (x :: xs) S2) _ _
      cases g2 : k d S1 with
      | bad => rw [g2] at h2; exact h2.elim
      | err c fs S1 => rw [g2] at h2; exact h2
      | ok y S2 =>
        rw [g2] at h2
        intro w1 o1 x1 hs' vs rv
        cases rv with
        | cons ri q => cases q with
          | cons rj q => cases q with
            | nil =>
              cases x with
              | int i =>
                cases y with
                | int j =>
                  cases ri.int_inv
                  cases rj.int_inv
                  have h3 : PostG (tb X nm) w (if inMil i && inMil j then .ok (rangeL i (j - i).toNat, []) S2 else .bad) (fun p w' => ∀ J, Walk (tb X nm) w' p.1 p.2 J → R J w'.H) E := h2
                  cases e : (inMil i && inMil j) with
                  | false => rw [e] at h3; exact h3.elim
                  | true =>
                    rw [e] at h3
                    obtain ⟨e1, e2⟩ := Bool.and_eq_true_iff.mp e
                    obtain ⟨b1, b2⟩ := inMil_ok e1
                    obtain ⟨b3, b4⟩ := inMil_ok e2
                    exact ⟨i, j, rfl, ⟨b1, b2, b3, b4⟩, h3 w1 o1 x1 hs' _ walk_r⟩
                | _ => exact h2.elim
              | _ => exact h2.elim

/-! ### for, while -/
theorem ws_for {iter : Expr} {body : List Stmt} {mi : MI} {t : Tg} {b : MS} (hp : PassesOwn (model X.prog X.w) X.A X.env X.xe) (hc : X.calm = true) (hi : WI X nm E tg iter mi) (hg : WG X nm tg t) (hb : WSs X nm E body b)
    (hs : ∀ x, foldedSetIterable iter X.env x = pure x := by intro _; rfl) : WS X nm E (.For tg iter body [] pos) (sFor mi t b) := ps_imp (ps_for hp hc hi hg hb hs) fun D σ H ⟨w, d, eH, o, re, h⟩ => by
  subst eH
  refine ⟨w, d, rfl, o, re, PostG.bind h |>.imp fun p w1 o1 x1 q J hw => ?_⟩
  obtain ⟨xs, g⟩ := p
  have re1 : w1.env (tb X nm) d σ := re.mono x1.le x1.ex
  refine ⟨fun i m σ H => ∃ w' d', w'.H = H ∧ Ok (tb X nm) w' ∧ Ext w1 w' ∧ w'.env (tb X nm) d' σ ∧ m = xs.length - i ∧ i ≤ xs.length ∧ PostG (tb X nm) w' (forGo g t b (xs.drop i) d' w'.S) (QS (tb X nm) D) E,
    ⟨xs.length, w1, d, rfl, o1, Ext.refl _, re1, rfl, Nat.zero_le _, q⟩, ?_⟩
  rintro i m σ' H' ⟨w', d', rfl, o', x', re', rfl, hi', h'⟩
  cases hst : still w'.S g with
  | false =>
    exfalso
    cases e : xs.drop i with
    | nil =>
      rw [e] at h'
      have h2 : PostG (tb X nm) w' (if still w'.S g then .ok (.nx d') w'.S else .bad) (QS (tb X nm) D) E := h'
      rw [hst] at h2
      exact h2
    | cons y r =>
      rw [e] at h'
      have h2 : PostG (tb X nm) w' (if still w'.S g then (match stTg t y d' with | none => .bad | some d1 => (b d1 w'.S).bind fun f S1 => match f with | .nx d2 => forGo g t b r d2 S1 | .ct d2 => forGo g t b r d2 S1 | .br d2 => .ok (.nx d2) S1 | .rt w => .ok (.rt w) S1) else .bad) (QS (tb X nm) D) E := h'
      rw [hst] at h2
      exact h2
  | true =>
    obtain ⟨hgo, hstop⟩ := hw w' o' x'.g hst
    cases e : xs.drop i with
    | nil =>
      have hl : i = xs.length := Nat.le_antisymm hi' (List.drop_eq_nil_iff.mp e)
      subst hl
      rw [e] at h'
      have h2 : PostG (tb X nm) w' (if still w'.S g then .ok (.nx d') w'.S else .bad) (QS (tb X nm) D) E := h'
      rw [hst] at h2
      exact .inl ⟨hstop, PostG.here (Q := QS (tb X nm) D) o' rfl h2 σ' re'⟩
    | cons y r =>
      rw [e] at h'
      have h2 : PostG (tb X nm) w' (if still w'.S g then (match stTg t y d' with | none => .bad | some d1 => (b d1 w'.S).bind fun f S1 => match f with | .nx d2 => forGo g t b r d2 S1 | .ct d2 => forGo g t b r d2 S1 | .br d2 => .ok (.nx d2) S1 | .rt w => .ok (.rt w) S1) else .bad) (QS (tb X nm) D) E := h'
      rw [hst] at h2
      have hiy : xs[i]? = some y := by
        have := List.getElem?_drop (xs := xs) (i := i) (j := 0)
        rw [e] at this
        simpa using this.symm
      have hr : r = xs.drop (i + 1) := by
        have := List.drop_drop (i := 1) (j := i) (l := xs)
        rw [e] at this
        simpa using this
      have hlt : i < xs.length := (List.getElem?_eq_some_iff.mp hiy).1
      obtain ⟨go, yl⟩ := hgo i y hiy
      cases gt : stTg t y d' with
      | none =>
        rw [gt] at h2
        exact h2.elim
      | some d1 =>
        rw [gt] at h2
        refine .inr ⟨go, fun σ' H' => ∃ w' d', w'.H = H' ∧ Ok (tb X nm) w' ∧ Ext w1 w' ∧ w'.env (tb X nm) d' σ' ∧ PostG (tb X nm) w' (forGo g t b r d' w'.S) (QS (tb X nm) D) E, ?_, fun v H2 hy => ?_⟩
        · rintro σ2 H2 ⟨w2, d2, rfl, o2, x2, re2, h3⟩
          rw [hr] at h3
          exact ⟨xs.length - (i + 1), by omega, w2, d2, rfl, o2, x2, re2, rfl, hlt, h3⟩
        · obtain ⟨w2, rfl, o2, x2, hS, rv⟩ := yl v H2 hy
          refine ⟨w2, d', y, d1, rfl, o2, re'.mono x2.le x2.ex, rv, gt, fun σ2 re2 _ => ⟨w2, d1, rfl, o2, re2, ?_⟩⟩
          rw [hS]
          refine ((PostG.bind h2).mono x2).imp fun f w3 o3 x3 h3 => ?_
          have x13 : Ext w1 w3 := (x'.trans x2).trans x3
          cases f with
          | nx d2 => exact fun σ3 re3 => ⟨w3, d2, rfl, o3, x13, re3, h3⟩
          | ct d2 => exact fun σ3 re3 => ⟨w3, d2, rfl, o3, x13, re3, h3⟩
          | br d2 => exact h3 w3 o3 (Ext.refl _) rfl
          | rt x => exact h3 w3 o3 (Ext.refl _) rfl
theorem ws_while {c : Expr} {body : List Stmt} {mc : MT} {b : MS} {n : Nat} (hp : PassesOwn (model X.prog X.w) X.A X.env X.xe) (hc : WT X nm E c mc) (hb : WSs X nm E body b) : WS X nm E (.While c body [] pos) (sWhile mc b n) := ps_imp (ps_while hp hc hb) fun D σ H ⟨w, d, eH, o, re, h⟩ => by
  subst eH
  refine ⟨fun m σ H => ∃ w d, w.H = H ∧ Ok (tb X nm) w ∧ w.env (tb X nm) d σ ∧ PostG (tb X nm) w (sWhile mc b m d w.S) (QS (tb X nm) D) E, ⟨n, w, d, rfl, o, re, h⟩, ?_⟩
  rintro m σ' H' ⟨w', d', rfl, o', re', h'⟩
  cases m with
  | zero => exact h'.elim
  | succ m =>
    have h2 : PostG (tb X nm) w' ((mc d' w'.S).bind fun x S1 => if x then (b d' S1).bind fun f S2 => match f with | .nx d2 => sWhile mc b m d2 S2 | .ct d2 => sWhile mc b m d2 S2 | .br d2 => .ok (.nx d2) S2 | .rt w => .ok (.rt w) S2 else .ok (.nx d') S1) (QS (tb X nm) D) E := h'
    refine lT_imp (lT_bind o' re' h2) ?_
    rintro x H1 ⟨w1, rfl, o1, x1, re1, h1⟩
    cases x with
    | false => exact PostG.here (Q := QS (tb X nm) D) o1 rfl h1 σ' re1
    | true =>
      refine ⟨fun σ' H' => ∃ w d, w.H = H' ∧ Ok (tb X nm) w ∧ w.env (tb X nm) d σ' ∧ PostG (tb X nm) w (sWhile mc b m d w.S) (QS (tb X nm) D) E, fun σ2 H2 k => ⟨m, Nat.lt_succ_self _, k⟩, w1, d', rfl, o1, re1, ?_⟩
      refine (PostG.bind h1).imp fun f w3 o3 x3 h3 => ?_
      cases f with
      | nx d2 => exact fun σ3 re3 => ⟨w3, d2, rfl, o3, re3, h3⟩
      | ct d2 => exact fun σ3 re3 => ⟨w3, d2, rfl, o3, re3, h3⟩
      | br d2 => exact h3 w3 o3 (Ext.refl _) rfl
      | rt x => exact h3 w3 o3 (Ext.refl _) rfl
end

/-! ### defs -/
def spM (T : Tab) (m : MF) : Sp := fun vs H Q E => ∃ w ws, w.H = H ∧ Ok T w ∧ w.rels T ws vs ∧ PostG T w (m ws w.S) (QW T Q) E
section
variable {P : Program} {w : World} {K : Frag} {mg : Str → Option Value} {base : Heap} {nm : Nm}
/-- a def keeps what its piece of Mir tells -/
theorem fn_ok {x qual : Str} {st : Stmt} {f : Addr} {fd : FuncData} {N ps : List Str} {k np n : Nat} {b : MS} (F : Fun K x qual st f fd) (S : FnScope N ps (defScope st)) (hp : ps.length = np) (hn : N.length = n)
    (hb : ∀ (cdv : Value) (A : Around) (outer : List PySem.Env) (s : Shared) (H : Hp) (E : XK), Room k (A.deeper (envOfC qual (defScope st) s.heap.objs.size f cdv)) → WSs (cxOf CX0 P w K mg base N qual (defScope st) f cdv A outer s H E).nox nm E (defBody st) b) :
    FnOk P w K mg base CX0 (k + 1) f fd ps (spM ⟨K, mg, nm⟩ (fnOf np n b)) := by
  have len : ∀ vs H Q E, spM ⟨K, mg, nm⟩ (fnOf np n b) vs H Q E → vs.length = ps.length := by
    rintro vs H Q E ⟨w, ws, e, o, r, h⟩
    have h' : PostG ⟨K, mg, nm⟩ w (if !Nat.beq ws.length np then .bad else _) _ E := h
    cases g : Nat.beq ws.length np with
    | false => rw [g] at h'; exact h'.elim
    | true => rw [← r.length, hp]; exact Nat.eq_of_beq_eq_true g
  refine F.ok S len (fun cdv A outer s H vs Q E hr hsp => ⟨_, hb cdv A outer s H E hr, ?_⟩)
  obtain ⟨w, ws, e, o, r, h⟩ := hsp
  have h' : PostG ⟨K, mg, nm⟩ w (if !Nat.beq ws.length np then .bad else (b (ws.map some ++ List.replicate (n - ws.length) none) w.S).bind fun f S1 => match f with | .nx _ => .ok .non S1 | .rt w => .ok w S1 | _ => .bad) (QW ⟨K, mg, nm⟩ Q) E := h
  cases g : Nat.beq ws.length np with
  | false => rw [g] at h'; exact h'.elim
  | true =>
    rw [g] at h'
    refine ⟨w, ws.map some ++ List.replicate (n - ws.length) none, e, o, ?_, (PostG.bind h').imp fun f w1 o1 x1 q => ?_⟩
    · have := RelEnv.start r n
      unfold L2.start
      rw [hn]
      exact this
    · cases f with
      | nx d => exact fun σ _ => PostG.val (T := ⟨K, mg, nm⟩) o1 q .non
      | rt x => exact q w1 o1 (Ext.refl _) rfl
      | br d => exact q.elim
      | ct d => exact q.elim
end
section
variable {X : Cx} {nm : Nm} {E : XK} {pos p : Pos} {k : Nat} {f : Addr} {fd : FuncData} {ps : List Str} {m : MF} {x : Str} {e : Expr} {es : List Expr} {a : MA} {CX : CXT}
theorem we_call (F : FnOk X.prog X.w X.K X.mg X.base CX k f fd ps (spM (tb X nm) m)) (hr : Room k X.A) (hm : X.mg x = some (.ref f)) (hk : PySem.W.keepIn X.K (.ref f) = true) (hb : Binds X.K fd ps []) (hx : Passes CX X E) (ha : WA X nm E (e :: es) a) (hg : Gl X x := by rfl)
    (hdb : (x == ("__debug__" : Str)) = false := by decide) (he : starEach (e :: es) X.env = (false, eval e X.env) :: starEach es X.env := by rfl) (hpl : (backTo pos (starEach es X.env)).any (·.1) = false := by rfl) : WE X nm E (.Call (.Name x p) (e :: es) [] pos) (eCall m a) :=
  pe_imp (pe_call F hr hg hm hk hb .nil hx ha hdb he hpl) fun σ H Q ⟨w, d, eH, o, re, h⟩ => by
    subst eH
    refine lA_imp (lA_bind o re h) ?_
    rintro vs H1 ⟨w1, xs, rfl, o1, x1, re1, rv, h1⟩
    rw [List.append_nil]
    exact ⟨w1, xs, rfl, o1, rv, h1⟩
theorem we_call0 (F : FnOk X.prog X.w X.K X.mg X.base CX k f fd ps (spM (tb X nm) m)) (hr : Room k X.A) (hm : X.mg x = some (.ref f)) (hk : PySem.W.keepIn X.K (.ref f) = true) (hb : Binds X.K fd ps []) (hx : Passes CX X E) (hg : Gl X x := by rfl)
    (hdb : (x == ("__debug__" : Str)) = false := by decide) : WE X nm E (.Call (.Name x p) [] [] pos) (eCall m aNil) :=
  pe_imp (pe_call0 F hr hg hm hk hb .nil hx hdb) fun σ H Q ⟨w, d, eH, o, re, h⟩ => by
    subst eH
    exact ⟨w, [], rfl, o, .nil, h⟩
end
end MW
set_option Elab.async false
set_option linter.all false
set_option maxRecDepth 100000
set_option maxHeartbeats 2000000
/-! MR4: the operators on values. -/
namespace MW
open PySem PySem.Spec PyProof.Rows L2 Mir
/-! ### texts -/
theorem okS_len {z : List Nat} (h : okS z = true) : z.length ≤ LIM := Nat.le_of_ble_eq_true (Bool.and_eq_true_iff.mp h).2
theorem okS_asc {z : List Nat} (h : okS z = true) : ∀ c ∈ z, c < 128 := fun c hc => by
  have := List.all_eq_true.mp (Bool.and_eq_true_iff.mp h).1 c hc
  exact Nat.lt_of_succ_le (Nat.le_of_ble_eq_true this)
theorem okS_mk {z : List Nat} (h1 : ∀ c ∈ z, c < 128) (h2 : z.length ≤ LIM) : okS z = true :=
  Bool.and_eq_true_iff.mpr ⟨List.all_eq_true.mpr fun c hc => Nat.ble_eq_true_of_le (h1 c hc), Nat.ble_eq_true_of_le h2⟩
theorem okS_sub {y z : List Nat} (h : okS z = true) (hs : ∀ c ∈ y, c ∈ z) (hl : y.length ≤ z.length) : okS y = true := okS_mk (fun c hc => okS_asc h c (hs c hc)) (Nat.le_trans hl (okS_len h))
theorem lim_sz {n : Nat} (h : n ≤ LIM) : n ≤ sizeLine := Nat.le_trans h (by decide)
theorem str_len {x : Str} {z : List Nat} (e : TL.tl x = z) : x.length = z.length := by rw [TL.len_tl, e]
theorem beqL_eq : ∀ x y : List Nat, beqL x y = decide (x = y)
  | [], [] => rfl
  | [], _ :: _ => rfl
  | _ :: _, [] => rfl
  | a :: r, b :: s => by
    have e : beqL (a :: r) (b :: s) = if Nat.beq a b then beqL r s else false := rfl
    rw [e, beqL_eq r s]
    cases h : Nat.beq a b with
    | true =>
      have := Nat.eq_of_beq_eq_true h
      subst this
      by_cases q : r = s
      · subst q; simp
      · simp [q]
    | false =>
      have : a ≠ b := Nat.ne_of_beq_eq_false h
      simp [this]
theorem tl_eq_iff {x y : Str} : (x = y) ↔ TL.tl x = TL.tl y := ⟨fun h => by rw [h], TL.ext_tl⟩

/-! ### data -/
mutual
def toD : Mir.W → PyData
  | .non => .none
  | .bl b => .bool b
  | .int i => .int i
  | .str z => .str ⟨z.toArray⟩
  | .tup xs => .tuple (toDs xs)
  | .lst xs => .list (toDs xs)
  | _ => .none
def toDs : List Mir.W → List PyData
  | [] => []
  | x :: r => toD x :: toDs r
end
theorem str_of_tl {x : Str} {z : List Nat} (e : TL.tl x = z) : (⟨z.toArray⟩ : Str) = x := by subst e; exact TL.mk_tl x
section
variable {T : Tab} {w : Wd}
mutual
theorem dp_of (o : Ok T w) : ∀ (n : Nat) (x : Mir.W) (v : V), dle n x = true → w.rel T x v → Dp T.K w.H v (toD x) ∧ (toD x).canLay0 = true ∧ (toD x).depth ≤ n
  | n, .non, v, _, h => by cases h.non_inv; exact ⟨.non, rfl, Nat.zero_le _⟩
  | n, .bl b, v, _, h => by cases h.bl_inv; exact ⟨.bl b, rfl, Nat.zero_le _⟩
  | n, .int i, v, _, h => by cases h.int_inv; exact ⟨.int i, rfl, Nat.zero_le _⟩
  | n, .str z, v, _, h => by
    obtain ⟨x, rfl, e, ok⟩ := h.str_inv
    have e2 : toD (.str z) = .str x := congrArg PyData.str (str_of_tl e)
    rw [e2]
    refine ⟨.str x, ?_, Nat.zero_le _⟩
    show x.cps.all (· < 0x110000) = true
    rw [Array.all_eq_true']
    intro c hc
    have : c ∈ z := by rw [← e]; simpa [TL.tl] using hc
    exact decide_eq_true (Nat.lt_trans (okS_asc ok c this) (by decide))
  | n, .tup xs, v, hd, h => by
    obtain ⟨a, vs, rfl, sq, q⟩ := h.tup_inv
    cases n with
    | zero => cases hd
    | succ n =>
      obtain ⟨h1, h2, h3⟩ := dps_of o n xs vs hd q
      exact ⟨.tup (sqT_ex o.ex sq) h1, by show PyData.canLayAll0 (toDs xs) = true; exact h2, by show PyData.depthAll (toDs xs) + 1 ≤ n + 1; omega⟩
  | n, .lst xs, v, hd, h => by
    obtain ⟨a, vs, rfl, sq, q⟩ := h.lst_inv
    cases n with
    | zero => cases hd
    | succ n =>
      obtain ⟨h1, h2, h3⟩ := dps_of o n xs vs hd q
      exact ⟨.lst (SqL.of (o.ex _ _ sq)) h1, by show PyData.canLayAll0 (toDs xs) = true; exact h2, by show PyData.depthAll (toDs xs) + 1 ≤ n + 1; omega⟩
  | n, .obj _ _, v, hd, h => by cases n <;> cases hd
  | n, .ref _, v, hd, h => by cases n <;> cases hd
  | n, .cls _, v, hd, h => by cases n <;> cases hd
  | n, .lsr _, v, hd, h => by cases n <;> cases hd
theorem dps_of (o : Ok T w) : ∀ (n : Nat) (xs : List Mir.W) (vs : List V), dles n xs = true → w.rels T xs vs → DpAll T.K w.H vs (toDs xs) ∧ PyData.canLayAll0 (toDs xs) = true ∧ PyData.depthAll (toDs xs) ≤ n
  | n, [], vs, _, h => by cases h; exact ⟨.nil, rfl, Nat.zero_le _⟩
  | n, x :: r, vs, hd, h => by
    cases h with
    | cons h q =>
      have hd' : (dle n x && dles n r) = true := hd
      obtain ⟨a, b⟩ := Bool.and_eq_true_iff.mp hd'
      obtain ⟨h1, h2, h3⟩ := dp_of o n x _ a h
      obtain ⟨k1, k2, k3⟩ := dps_of o n r _ b q
      refine ⟨.cons h1 k1, ?_, ?_⟩
      · show ((toD x).canLay0 && PyData.canLayAll0 (toDs r)) = true
        rw [h2, k2] <;> rfl
      · show max (toD x).depth (PyData.depthAll (toDs r)) ≤ n
        omega
end
/-- a list of the store is data, too -/
theorem dp_rd (o : Ok T w) {n : Nat} {x : Mir.W} {v : V} (hd : dle n (rd w.S x) = true) (h : w.rel T x v) : Dp T.K w.H v (toD (rd w.S x)) ∧ (toD (rd w.S x)).canLay0 = true ∧ (toD (rd w.S x)).depth ≤ n := by
  cases x with
  | ref m =>
    cases g : w.S.get m with
    | none =>
      have e : rd w.S (.ref m) = .ref m := by show (match w.S.get m with | some (.lst xs) => Mir.W.lst xs | _ => .ref m) = _; rw [g]
      rw [e] at hd
      cases n <;> cases hd
    | some so =>
      cases so with
      | lst xs =>
        have e : rd w.S (.ref m) = .lst xs := by show (match w.S.get m with | some (.lst xs) => Mir.W.lst xs | _ => .ref m) = _; rw [g]
        rw [e] at hd ⊢
        obtain ⟨a, vs, rfl, _, _, h3, q⟩ := o.lstAt g h
        cases n with
        | zero => cases hd
        | succ n =>
          obtain ⟨h1, h2, h4⟩ := dps_of o n xs vs hd q
          exact ⟨.lst (SqL.of h3) h1, by show PyData.canLayAll0 (toDs xs) = true; exact h2, by show PyData.depthAll (toDs xs) + 1 ≤ n + 1; omega⟩
      | dct _ =>
        have e : rd w.S (.ref m) = .ref m := by show (match w.S.get m with | some (.lst xs) => Mir.W.lst xs | _ => .ref m) = _; rw [g]
        rw [e] at hd
        cases n <;> cases hd
      | ins _ _ =>
        have e : rd w.S (.ref m) = .ref m := by show (match w.S.get m with | some (.lst xs) => Mir.W.lst xs | _ => .ref m) = _; rw [g]
        rw [e] at hd
        cases n <;> cases hd
  | _ => exact dp_of o n _ v hd h
end
mutual
theorem eqW_D : ∀ (a b : Mir.W) (c : Bool), eqW a b = some c → PyData.eqv (toD a) (toD b) = c
  | .non, b, c, h => by cases b <;> first | (cases h; rfl) | cases h
  | .bl a, b, c, h => by
    cases b with
    | int j =>
      cases h
      show ((if a then (1 : Int) else 0) == j) = decide (Mir.b2i a = j)
      rw [Bool.beq_eq_decide_eq] <;> rfl
    | _ => first | (cases h; rfl) | cases h
  | .int i, b, c, h => by
    cases b with
    | int j =>
      cases h
      show (i == j) = decide (i = j)
      rw [Bool.beq_eq_decide_eq]
    | bl d =>
      cases h
      show (i == (if d then (1 : Int) else 0)) = decide (i = Mir.b2i d)
      rw [Bool.beq_eq_decide_eq] <;> rfl
    | _ => first | (cases h; rfl) | cases h
  | .str x, b, c, h => by
    cases b with
    | str y =>
      cases h
      show ((⟨x.toArray⟩ : Str) == ⟨y.toArray⟩) = beqL x y
      rw [beqL_eq, Bool.beq_eq_decide_eq]
      by_cases e : x = y
      · subst e; simp
      · simp [e]
    | _ => first | (cases h; rfl) | cases h
  | .tup xs, b, c, h => by
    cases b with
    | tup ys => exact eqWs_D xs ys c h
    | _ => first | (cases h; rfl) | cases h
  | .lst xs, b, c, h => by
    cases b with
    | lst ys => exact eqWs_D xs ys c h
    | _ => first | (cases h; rfl) | cases h
  | .obj _ _, b, c, h => by cases b <;> cases h
  | .ref _, b, c, h => by cases b <;> cases h
  | .cls _, b, c, h => by cases b <;> cases h
  | .lsr _, b, c, h => by cases b <;> cases h
theorem eqWs_D : ∀ (a b : List Mir.W) (c : Bool), eqWs a b = some c → PyData.eqvAll (toDs a) (toDs b) = c
  | [], b, c, h => by cases b <;> (cases h; rfl)
  | x :: r, b, c, h => by
    cases b with
    | nil => cases h; rfl
    | cons y s =>
      have h' : (match eqW x y with | some true => eqWs r s | some false => some false | none => none) = some c := h
      show (PyData.eqv (toD x) (toD y) && PyData.eqvAll (toDs r) (toDs s)) = c
      cases e : eqW x y with
      | none => rw [e] at h'; cases h'
      | some d =>
        rw [e] at h'
        rw [eqW_D x y d e]
        cases d with
        | true => rw [eqWs_D r s c h'] <;> rfl
        | false => cases h'; rfl
end
theorem shaped_of {d : PyData} (h1 : d.canLay0 = true) (h2 : d.depth ≤ 30) : SeqAt.shaped d = true := Bool.and_eq_true_iff.mpr ⟨h1, decide_eq_true (by omega)⟩
section
variable {X : Cx} {nm : Nm} {E : XK}
theorem opw_eq (hu : X.A.units + 64 < cLine) : OpR X (compareOp .Eq) (lR2 (tb X nm) opEq E) := by
  rintro pins s σ H x y v u Q I r1 r2 ⟨w, a, b, rfl, o, ra, rb, h⟩
  have h' : PostG (tb X nm) w (bW (if dle 30 (rd w.S a) && dle 30 (rd w.S b) then eqW (rd w.S a) (rd w.S b) else none) w.S) (QW (tb X nm) Q) E := h
  cases e : (dle 30 (rd w.S a) && dle 30 (rd w.S b)) with
  | false => rw [e] at h'; exact h'.elim
  | true =>
    rw [e] at h'
    obtain ⟨e1, e2⟩ := Bool.and_eq_true_iff.mp e
    obtain ⟨d1, c1, p1⟩ := dp_rd o e1 ra
    obtain ⟨d2, c2, p2⟩ := dp_rd o e2 rb
    refine op_eqD hu pins s σ _ x y v u Q I r1 r2 ⟨_, _, d1, d2, shaped_of c1 p1, shaped_of c2 p2, ?_⟩
    have h2 : PostG (tb X nm) w (bW (eqW (rd w.S a) (rd w.S b)) w.S) (QW (tb X nm) Q) E := h'
    cases g : eqW (rd w.S a) (rd w.S b) with
    | none => rw [g] at h2; exact h2.elim
    | some c =>
      rw [g] at h2
      rw [eqW_D _ _ c g]
      exact PostG.val o h2 (.bl c)
theorem opw_ne (hu : X.A.units + 64 < cLine) : OpR X (compareOp .NotEq) (lR2 (tb X nm) opNe E) := by
  rintro pins s σ H x y v u Q I r1 r2 ⟨w, a, b, rfl, o, ra, rb, h⟩
  have h' : PostG (tb X nm) w (bW ((if dle 30 (rd w.S a) && dle 30 (rd w.S b) then eqW (rd w.S a) (rd w.S b) else none).map (! ·)) w.S) (QW (tb X nm) Q) E := h
  cases e : (dle 30 (rd w.S a) && dle 30 (rd w.S b)) with
  | false => rw [e] at h'; exact h'.elim
  | true =>
    rw [e] at h'
    obtain ⟨e1, e2⟩ := Bool.and_eq_true_iff.mp e
    obtain ⟨d1, c1, p1⟩ := dp_rd o e1 ra
    obtain ⟨d2, c2, p2⟩ := dp_rd o e2 rb
    refine op_neD hu pins s σ _ x y v u Q I r1 r2 ⟨_, _, d1, d2, shaped_of c1 p1, shaped_of c2 p2, ?_⟩
    have h2 : PostG (tb X nm) w (bW ((eqW (rd w.S a) (rd w.S b)).map (! ·)) w.S) (QW (tb X nm) Q) E := h'
    cases g : eqW (rd w.S a) (rd w.S b) with
    | none => rw [g] at h2; exact h2.elim
    | some c =>
      rw [g] at h2
      rw [eqW_D _ _ c g]
      exact PostG.val o h2 (.bl (!c))

/-! ### + - * // % ** -/
theorem str_app {T : Tab} {r : Nat → Option Addr} {G : Hp} {x y : Str} {a b : List Nat} (e1 : TL.tl x = a) (e2 : TL.tl y = b) (h1 : okS a = true) (h2 : okS b = true) (hl : a.length + b.length ≤ LIM) : RelW T r G (.str (a ++ b)) (.str (x ++ y)) :=
  .str (by rw [TL.tl_append, e1, e2]) (okS_mk (fun c hc => (List.mem_append.mp hc).elim (okS_asc h1 c) (okS_asc h2 c)) (by rw [List.length_append]; exact hl))
theorem opw_add : OpR X (binaryOp .Add) (lR2 (tb X nm) opAdd E) := by
  rintro pins s σ H x y v u Q I r1 r2 ⟨w, a, b, rfl, o, ra, rb, h⟩
  have lists : ∀ xs, rd w.S a = .lst xs → PostG (tb X nm) w (match rd w.S b with | .lst b => if Nat.ble (xs.length + b.length) LIM then .ok (.lst (xs ++ b)) w.S else .bad | _ => .bad) (QW (tb X nm) Q) E → wpAny (model X.prog X.w) X.A (binaryOp .Add v u) (EP X pins σ Q) X.xe s := by
    intro xs ea h'
    cases eb : rd w.S b with
    | lst ys =>
      rw [eb] at h'
      obtain ⟨p1, vs, rfl, g1, q1⟩ := o.lst ea ra
      obtain ⟨p2, us, rfl, g2, q2⟩ := o.lst eb rb
      have h2 : PostG (tb X nm) w (if Nat.ble (xs.length + ys.length) LIM then .ok (.lst (xs ++ ys)) w.S else .bad) (QW (tb X nm) Q) E := h'
      cases el : Nat.ble (xs.length + ys.length) LIM with
      | false => rw [el] at h2; exact h2.elim
      | true =>
        rw [el] at h2
        refine op_cat pins s σ _ _ _ v u Q I r1 r2 ⟨p1, p2, vs, us, rfl, rfl, g1, g2, by rw [← q1.length, ← q2.length]; exact lim_size el, fun p hp => ?_⟩
        exact h2 (w.layF p (.lst (vs ++ us))) (o.layF hp) (Ext.layF o hp) rfl (.ref p) (.lst (by show upd w.G p _ p = _; exact upd_same) ((q1.append q2).mono (Ext.layF o hp).le (Ext.layF o hp).ex))
    | _ => rw [eb] at h'; exact h'.elim
  cases a with
  | int i =>
    cases b with
    | int j =>
      cases ra.int_inv
      cases rb.int_inv
      exact op_add pins s σ _ _ _ v u Q I r1 r2 ⟨i, j, rfl, rfl, PostG.val o h (.int _)⟩
    | _ => exact h.elim
  | str xa =>
    cases b with
    | str yb =>
      obtain ⟨x1, rfl, e1, k1⟩ := ra.str_inv
      obtain ⟨x2, rfl, e2, k2⟩ := rb.str_inv
      have h2 : PostG (tb X nm) w (if Nat.ble (xa.length + yb.length) LIM then .ok (.str (xa ++ yb)) w.S else .bad) (QW (tb X nm) Q) E := h
      cases el : Nat.ble (xa.length + yb.length) LIM with
      | false => rw [el] at h2; exact h2.elim
      | true =>
        rw [el] at h2
        exact op_add_str pins s σ _ _ _ v u Q I r1 r2 ⟨x1, x2, rfl, rfl, by rw [str_len e1, str_len e2]; exact lim_size el, PostG.val o h2 (str_app e1 e2 k1 k2 (Nat.le_of_ble_eq_true el))⟩
    | _ => exact h.elim
  | tup xs =>
    cases b with
    | tup ys =>
      obtain ⟨p1, vs, rfl, g1, q1⟩ := ra.tup_inv
      obtain ⟨p2, us, rfl, g2, q2⟩ := rb.tup_inv
      have h2 : PostG (tb X nm) w (if Nat.ble (xs.length + ys.length) LIM then .ok (.tup (xs ++ ys)) w.S else .bad) (QW (tb X nm) Q) E := h
      cases el : Nat.ble (xs.length + ys.length) LIM with
      | false => rw [el] at h2; exact h2.elim
      | true =>
        rw [el] at h2
        refine op_catA pins s σ _ _ _ v u Q I r1 r2 ⟨p1, p2, vs, us, rfl, rfl, sqT_ex o.ex g1, sqT_ex o.ex g2, by rw [← q1.length, ← q2.length]; exact lim_size el, fun z => ?_, fun _ z => ?_, fun _ _ p hp => ?_⟩
        · subst z
          cases q1
          exact PostG.val o h2 rb
        · subst z
          cases q2
          rw [List.append_nil] at h2
          exact PostG.val o h2 ra
        · exact h2 (w.layF p (.tup (vs ++ us))) (o.layF hp) (Ext.layF o hp) rfl (.ref p) (.tup (SqT.of (by show upd w.G p _ p = _; exact upd_same)) ((q1.append q2).mono (Ext.layF o hp).le (Ext.layF o hp).ex))
    | _ => exact h.elim
  | lst xs => exact lists xs rfl h
  | ref n =>
    have h2 : PostG (tb X nm) w (match rd w.S (.ref n) with | .lst a => (match rd w.S b with | .lst b => if Nat.ble (a.length + b.length) LIM then .ok (.lst (a ++ b)) w.S else .bad | _ => .bad) | _ => .bad) (QW (tb X nm) Q) E := h
    cases ea : rd w.S (.ref n) with
    | lst xs => rw [ea] at h2; exact lists xs ea h2
    | _ => rw [ea] at h2; exact h2.elim
  | _ => exact h.elim
/-- the sum of two lists, which may be changed -/
theorem opw_addM : OpR X (binaryOp .Add) (lR2 (tb X nm) opAddM E) := by
  rintro pins s σ H x y v u Q I r1 r2 ⟨w, a, b, rfl, o, ra, rb, h⟩
  have h0 : PostG (tb X nm) w (match rd w.S a with | .lst a => (match rd w.S b with | .lst b => if Nat.ble (a.length + b.length) LIM then .ok (.ref w.S.next) (w.S.new (.lst (a ++ b))) else .bad | _ => .bad) | _ => .bad) (QW (tb X nm) Q) E := h
  cases ea : rd w.S a with
  | lst xs =>
    rw [ea] at h0
    have h1 : PostG (tb X nm) w (match rd w.S b with | .lst b => if Nat.ble (xs.length + b.length) LIM then .ok (.ref w.S.next) (w.S.new (.lst (xs ++ b))) else .bad | _ => .bad) (QW (tb X nm) Q) E := h0
    cases eb : rd w.S b with
    | lst ys =>
      rw [eb] at h1
      obtain ⟨p1, vs, rfl, g1, q1⟩ := o.lst ea ra
      obtain ⟨p2, us, rfl, g2, q2⟩ := o.lst eb rb
      have h2 : PostG (tb X nm) w (if Nat.ble (xs.length + ys.length) LIM then .ok (.ref w.S.next) (w.S.new (.lst (xs ++ ys))) else .bad) (QW (tb X nm) Q) E := h1
      cases el : Nat.ble (xs.length + ys.length) LIM with
      | false => rw [el] at h2; exact h2.elim
      | true =>
        rw [el] at h2
        exact op_cat pins s σ _ _ _ v u Q I r1 r2 ⟨p1, p2, vs, us, rfl, rfl, g1, g2, by rw [← q1.length, ← q2.length]; exact lim_size el, fun p hp => new_lst o (q1.append q2) h2 hp⟩
    | _ => rw [eb] at h1; exact h1.elim
  | _ => rw [ea] at h0; exact h0.elim
theorem opw_sub : OpR X (binaryOp .Sub) (lR2 (tb X nm) opSub E) := by
  rintro pins s σ H x y v u Q I r1 r2 ⟨w, a, b, rfl, o, ra, rb, h⟩
  cases a with
  | int i =>
    cases b with
    | int j =>
      cases ra.int_inv
      cases rb.int_inv
      exact op_sub pins s σ _ _ _ v u Q I r1 r2 ⟨i, j, rfl, rfl, PostG.val o h (.int _)⟩
    | _ => exact h.elim
  | _ => exact h.elim
theorem small_ok {i : Int} (h : small i = true) : -(2 ^ 64) < i ∧ i < 2 ^ 64 := by
  obtain ⟨a, b⟩ := Bool.and_eq_true_iff.mp h
  have a' := of_decide_eq_true a
  have b' := of_decide_eq_true b
  omega
theorem opw_mul : OpR X (binaryOp .Mult) (lR2 (tb X nm) opMul E) := by
  rintro pins s σ H x y v u Q I r1 r2 ⟨w, a, b, rfl, o, ra, rb, h⟩
  cases a with
  | int i =>
    cases b with
    | int j =>
      cases ra.int_inv
      cases rb.int_inv
      have h2 : PostG (tb X nm) w (if small i || small j then .ok (.int (i * j)) w.S else .bad) (QW (tb X nm) Q) E := h
      cases e : (small i || small j) with
      | false => rw [e] at h2; exact h2.elim
      | true =>
        rw [e] at h2
        refine op_mul pins s σ _ _ _ v u Q I r1 r2 ⟨i, j, rfl, rfl, ?_, PostG.val o h2 (.int _)⟩
        rcases Bool.or_eq_true_iff.mp e with z | z
        · exact .inl (small_ok z)
        · exact .inr (small_ok z)
    | _ => exact h.elim
  | _ => exact h.elim
theorem opw_div : OpR X (binaryOp .FloorDiv) (lR2 (tb X nm) opDiv E) := by
  rintro pins s σ H x y v u Q I r1 r2 ⟨w, a, b, rfl, o, ra, rb, h⟩
  cases a with
  | int i =>
    cases b with
    | int j =>
      cases ra.int_inv
      cases rb.int_inv
      have h2 : PostG (tb X nm) w (if decide (0 < j) && decide (j < 1073741824) then .ok (.int (i / j)) w.S else .bad) (QW (tb X nm) Q) E := h
      cases e : (decide (0 < j) && decide (j < 1073741824)) with
      | false => rw [e] at h2; exact h2.elim
      | true =>
        rw [e] at h2
        obtain ⟨e1, e2⟩ := Bool.and_eq_true_iff.mp e
        exact op_fdiv pins s σ _ _ _ v u Q I r1 r2 ⟨i, j, rfl, rfl, ⟨of_decide_eq_true e1, of_decide_eq_true e2⟩, PostG.val o h2 (.int _)⟩
    | _ => exact h.elim
  | _ => exact h.elim
theorem opw_mod : OpR X (binaryOp .Mod) (lR2 (tb X nm) opMod E) := by
  rintro pins s σ H x y v u Q I r1 r2 ⟨w, a, b, rfl, o, ra, rb, h⟩
  cases a with
  | int i =>
    cases b with
    | int j =>
      cases ra.int_inv
      cases rb.int_inv
      have h2 : PostG (tb X nm) w (if decide (0 < j) then .ok (.int (i % j)) w.S else .bad) (QW (tb X nm) Q) E := h
      cases e : decide (0 < j) with
      | false => rw [e] at h2; exact h2.elim
      | true =>
        rw [e] at h2
        exact op_mod pins s σ _ _ _ v u Q I r1 r2 ⟨i, j, rfl, rfl, of_decide_eq_true e, PostG.val o h2 (.int _)⟩
    | _ => exact h.elim
  | _ => exact h.elim
theorem opw_pow : OpR X (binaryOp .Pow) (lR2 (tb X nm) opPow E) := by
  rintro pins s σ H x y v u Q I r1 r2 ⟨w, a, b, rfl, o, ra, rb, h⟩
  cases a with
  | int i =>
    cases b with
    | int j =>
      cases ra.int_inv
      cases rb.int_inv
      have h2 : PostG (tb X nm) w (if decide (0 ≤ j) && (decide (j ≤ 1000) && decide (i.natAbs < 18446744073709551616)) then .ok (.int (i ^ j.toNat)) w.S else .bad) (QW (tb X nm) Q) E := h
      cases e : (decide (0 ≤ j) && (decide (j ≤ 1000) && decide (i.natAbs < 18446744073709551616))) with
      | false => rw [e] at h2; exact h2.elim
      | true =>
        rw [e] at h2
        obtain ⟨e1, e2⟩ := Bool.and_eq_true_iff.mp e
        obtain ⟨e3, e4⟩ := Bool.and_eq_true_iff.mp e2
        have k1 := of_decide_eq_true e1
        have k2 := of_decide_eq_true e3
        have k3 := of_decide_eq_true e4
        exact op_pow pins s σ _ _ _ v u Q I r1 r2 ⟨i, j, rfl, rfl, ⟨k1, by omega, by omega⟩, PostG.val o h2 (.int _)⟩
    | _ => exact h.elim
  | _ => exact h.elim
theorem opw_neg : UnR X (unaryOp .USub) (lR1 (tb X nm) opNeg E) := by
  rintro pins s σ H x v Q I r1 ⟨w, a, rfl, o, ra, h⟩
  cases a with
  | int i =>
    cases ra.int_inv
    exact un_neg pins s σ _ _ v Q I r1 ⟨i, rfl, PostG.val o h (.int _)⟩
  | _ => exact h.elim

/-! ### < <= > >= -/
theorem ltL_eq : ∀ a b : List Nat, ltL a b = decide (a < b)
  | [], [] => rfl
  | _ :: _, [] => by simp [ltL]
  | [], _ :: _ => by simp [ltL]
  | a :: r, b :: s => by
    have e : ltL (a :: r) (b :: s) = if Nat.blt a b then true else if Nat.beq a b then ltL r s else false := rfl
    rw [e, ltL_eq r s]
    rw [Bool.eq_iff_iff]
    rw [decide_eq_true_iff, List.cons_lt_cons_iff]
    cases h1 : Nat.blt a b with
    | true =>
      have : a < b := Nat.le_of_ble_eq_true h1
      simp [this]
    | false =>
      have h1' : ¬ a < b := fun z => by rw [show Nat.blt a b = true from Nat.ble_eq_true_of_le z] at h1; cases h1
      cases h2 : Nat.beq a b with
      | true =>
        have := Nat.eq_of_beq_eq_true h2
        subst this
        simp
      | false =>
        have : a ≠ b := Nat.ne_of_beq_eq_false h2
        simp [this, h1']
theorem opw_lt : OpR X (compareOp .Lt) (lR2 (tb X nm) opLt E) := by
  rintro pins s σ H x y v u Q I r1 r2 ⟨w, a, b, rfl, o, ra, rb, h⟩
  cases a with
  | int i =>
    cases b with
    | int j =>
      cases ra.int_inv
      cases rb.int_inv
      exact op_lt pins s σ _ _ _ v u Q I r1 r2 ⟨i, j, rfl, rfl, PostG.val o h (.bl _)⟩
    | _ => exact h.elim
  | str xa =>
    cases b with
    | str yb =>
      obtain ⟨x1, rfl, e1, k1⟩ := ra.str_inv
      obtain ⟨x2, rfl, e2, k2⟩ := rb.str_inv
      refine op_lt_str pins s σ _ _ _ v u Q I r1 r2 ⟨x1, x2, rfl, rfl, ?_⟩
      have e : decide (x1.cps.toList < x2.cps.toList) = ltL xa yb := by rw [ltL_eq, ← e1, ← e2]
      rw [e]
      exact PostG.val o h (.bl _)
    | _ => exact h.elim
  | _ => exact h.elim
theorem opw_gt : OpR X (compareOp .Gt) (lR2 (tb X nm) opGt E) := by
  rintro pins s σ H x y v u Q I r1 r2 ⟨w, a, b, rfl, o, ra, rb, h⟩
  have h : PostG (tb X nm) w (opLt b a w.S) (QW (tb X nm) Q) E := h
  cases b with
  | int j =>
    cases a with
    | int i =>
      cases ra.int_inv
      cases rb.int_inv
      exact op_gt pins s σ _ _ _ v u Q I r1 r2 ⟨i, j, rfl, rfl, PostG.val o h (.bl _)⟩
    | _ => exact h.elim
  | str yb =>
    cases a with
    | str xa =>
      obtain ⟨x1, rfl, e1, k1⟩ := ra.str_inv
      obtain ⟨x2, rfl, e2, k2⟩ := rb.str_inv
      refine op_gt_str pins s σ _ _ _ v u Q I r1 r2 ⟨x1, x2, rfl, rfl, ?_⟩
      have e : decide (x2.cps.toList < x1.cps.toList) = ltL yb xa := by rw [ltL_eq, ← e1, ← e2]
      rw [e]
      exact PostG.val o h (.bl _)
    | _ => exact h.elim
  | _ => exact h.elim
theorem opw_le : OpR X (compareOp .LtE) (lR2 (tb X nm) opLe E) := by
  rintro pins s σ H x y v u Q I r1 r2 ⟨w, a, b, rfl, o, ra, rb, h⟩
  cases a with
  | int i =>
    cases b with
    | int j =>
      cases ra.int_inv
      cases rb.int_inv
      exact op_le pins s σ _ _ _ v u Q I r1 r2 ⟨i, j, rfl, rfl, PostG.val o h (.bl _)⟩
    | _ => exact h.elim
  | str xa =>
    cases b with
    | str yb =>
      obtain ⟨x1, rfl, e1, k1⟩ := ra.str_inv
      obtain ⟨x2, rfl, e2, k2⟩ := rb.str_inv
      refine op_le_str pins s σ _ _ _ v u Q I r1 r2 ⟨x1, x2, rfl, rfl, ?_⟩
      have e : (!decide (x2.cps.toList < x1.cps.toList)) = !ltL yb xa := by rw [ltL_eq, ← e1, ← e2]
      rw [e]
      exact PostG.val o h (.bl _)
    | _ => exact h.elim
  | _ => exact h.elim
theorem opw_ge : OpR X (compareOp .GtE) (lR2 (tb X nm) opGe E) := by
  rintro pins s σ H x y v u Q I r1 r2 ⟨w, a, b, rfl, o, ra, rb, h⟩
  have h : PostG (tb X nm) w (opLe b a w.S) (QW (tb X nm) Q) E := h
  cases b with
  | int j =>
    cases a with
    | int i =>
      cases ra.int_inv
      cases rb.int_inv
      exact op_ge pins s σ _ _ _ v u Q I r1 r2 ⟨i, j, rfl, rfl, PostG.val o h (.bl _)⟩
    | _ => exact h.elim
  | str yb =>
    cases a with
    | str xa =>
      obtain ⟨x1, rfl, e1, k1⟩ := ra.str_inv
      obtain ⟨x2, rfl, e2, k2⟩ := rb.str_inv
      refine op_ge_str pins s σ _ _ _ v u Q I r1 r2 ⟨x1, x2, rfl, rfl, ?_⟩
      have e : (!decide (x1.cps.toList < x2.cps.toList)) = !ltL xa yb := by rw [ltL_eq, ← e1, ← e2]
      rw [e]
      exact PostG.val o h (.bl _)
    | _ => exact h.elim
  | _ => exact h.elim
end
end MW
set_option Elab.async false
set_option linter.all false
set_option maxRecDepth 100000
set_option maxHeartbeats 2000000
/-! MR5: in, subscripts, slices, built-in functions and methods, f-strings. -/
namespace MW
open PySem PySem.Spec PyProof.Rows L2 Mir
/-! ### in -/
theorem relW_flat {T : Tab} {w : Wd} {x : Mir.W} {v : V} (hf : flat x = true) (h : w.rel T x v) : flatV v = true := by
  cases x with
  | non => cases h.non_inv; rfl
  | bl b => cases h.bl_inv; rfl
  | int i => cases h.int_inv; rfl
  | str z => obtain ⟨x, rfl, _⟩ := h.str_inv; rfl
  | _ => cases hf
theorem relW_eqV {T : Tab} {w : Wd} {x y : Mir.W} {v u : V} {c : Bool} (hx : flat x = true) (hy : flat y = true) (h : w.rel T x v) (k : w.rel T y u) (e : eqW x y = some c) : eqV v u = c := by
  cases x with
  | non => cases h.non_inv; cases y with
    | non => cases k.non_inv; cases e; rfl
    | bl b => cases k.bl_inv; cases e; rfl
    | int i => cases k.int_inv; cases e; rfl
    | str z => obtain ⟨x, rfl, _⟩ := k.str_inv; cases e; rfl
    | _ => cases hy
  | bl a => cases h.bl_inv; cases y with
    | non => cases k.non_inv; cases e; rfl
    | bl b => cases k.bl_inv; cases e; rfl
    | int j => cases k.int_inv; cases e; show ((if a then (1 : Int) else 0) == j) = decide (Mir.b2i a = j); rw [Bool.beq_eq_decide_eq] <;> rfl
    | str z => obtain ⟨x, rfl, _⟩ := k.str_inv; cases e; rfl
    | _ => cases hy
  | int i => cases h.int_inv; cases y with
    | non => cases k.non_inv; cases e; rfl
    | bl b => cases k.bl_inv; cases e; show (i == (if b then (1 : Int) else 0)) = decide (i = Mir.b2i b); rw [Bool.beq_eq_decide_eq] <;> rfl
    | int j => cases k.int_inv; cases e; show (i == j) = decide (i = j); rw [Bool.beq_eq_decide_eq]
    | str z => obtain ⟨x, rfl, _⟩ := k.str_inv; cases e; rfl
    | _ => cases hy
  | str z => obtain ⟨x, rfl, e1, _⟩ := h.str_inv; cases y with
    | non => cases k.non_inv; cases e; rfl
    | bl b => cases k.bl_inv; cases e; rfl
    | int i => cases k.int_inv; cases e; rfl
    | str z2 =>
      obtain ⟨x2, rfl, e2, _⟩ := k.str_inv
      cases e
      show (x == x2) = beqL z z2
      rw [beqL_eq, ← e1, ← e2, Bool.beq_eq_decide_eq]
      exact decide_eq_decide.mpr tl_eq_iff
    | _ => cases hy
  | _ => cases hx
theorem inWs_flat {T : Tab} {w : Wd} {x : Mir.W} {v : V} (hx : flat x = true) (h : w.rel T x v) : ∀ {ys : List Mir.W} {us : List V} {c : Bool}, ys.all flat = true → w.rels T ys us → inWs x ys = some c → us.all flatV = true ∧ inV v us = c
  | [], us, c, _, k, e => by cases k; cases e; exact ⟨rfl, rfl⟩
  | y :: ys, us, c, hf, k, e => by
    cases k with
    | @cons _ u _ us k q =>
      obtain ⟨f1, f2⟩ := Bool.and_eq_true_iff.mp (show (flat y && ys.all flat) = true from hf)
      have e' : (match eqW y x with | some true => some true | some false => inWs x ys | none => none) = some c := e
      have fl : ∀ (ys : List Mir.W) (us : List V), ys.all flat = true → w.rels T ys us → us.all flatV = true := by
        intro ys
        induction ys with
        | nil => intro us _ k; cases k; rfl
        | cons y ys ih =>
          intro us hf k
          cases k with
          | cons k q =>
            obtain ⟨f1, f2⟩ := Bool.and_eq_true_iff.mp (show (flat y && ys.all flat) = true from hf)
            exact Bool.and_eq_true_iff.mpr ⟨relW_flat f1 k, ih _ f2 q⟩
      cases g : eqW y x with
      | none => rw [g] at e'; cases e'
      | some b =>
        rw [g] at e'
        have hb := relW_eqV f1 hx k h g
        cases b with
        | true =>
          cases e'
          refine ⟨Bool.and_eq_true_iff.mpr ⟨relW_flat f1 k, fl ys us f2 q⟩, ?_⟩
          show (eqV u v || _) = true
          rw [hb] <;> rfl
        | false =>
          obtain ⟨h1, h2⟩ := inWs_flat hx h f2 q e'
          refine ⟨Bool.and_eq_true_iff.mpr ⟨relW_flat f1 k, h1⟩, ?_⟩
          show (eqV u v || inV v us) = c
          rw [hb, h2] <;> rfl
theorem inWs_D {x : Mir.W} : ∀ {ys : List Mir.W} {c : Bool}, inWs x ys = some c → ((toDs ys).any fun z => PyData.eqv z (toD x)) = c
  | [], c, e => by cases e; rfl
  | y :: ys, c, e => by
    have e' : (match eqW y x with | some true => some true | some false => inWs x ys | none => none) = some c := e
    show (PyData.eqv (toD y) (toD x) || (toDs ys).any _) = c
    cases g : eqW y x with
    | none => rw [g] at e'; cases e'
    | some b =>
      rw [g] at e'
      rw [eqW_D y x b g]
      cases b with
      | true => cases e'; rfl
      | false => rw [inWs_D e'] <;> rfl
theorem memN_eq (c : Nat) : ∀ z : List Nat, memN c z = decide (c ∈ z)
  | [] => rfl
  | x :: r => by
    have e : memN c (x :: r) = if Nat.beq x c then true else memN c r := rfl
    rw [e, memN_eq c r]
    cases h : Nat.beq x c with
    | true => have := Nat.eq_of_beq_eq_true h; subst this; simp
    | false => have : x ≠ c := Nat.ne_of_beq_eq_false h; simp [Ne.symm this]
section
variable {X : Cx} {nm : Nm} {E : XK}
/-- how a comparison that is answered ends -/
theorem isIn_run {T : Tab} {w : Wd} (o : Ok T w) {a b : Mir.W} {x y : V} {c : Bool} (ra : w.rel T a x) (rb : w.rel T b y) (e : isIn a b w.S = some c) :
    (∃ (k : Nat) (z : Str), x = .str ⟨#[k]⟩ ∧ y = .str z ∧ decide (k ∈ z.cps.toList) = c) ∨
    (∃ p us, y = .ref p ∧ SqT T.K w.H p us ∧ flatV x = true ∧ us.all flatV = true ∧ inV x us = c) ∨
    ∃ d ds, Dp T.K w.H x d ∧ Dp T.K w.H y (.list ds) ∧ SeqAt.shaped d = true ∧ SeqAt.shaped (.list ds) = true ∧ (ds.any fun z => PyData.eqv z d) = c := by
  have lists : ∀ ys, rd w.S b = .lst ys → (if dle 30 (rd w.S a) && dles 29 ys then inWs (rd w.S a) ys else none) = some c →
      ∃ d ds, Dp T.K w.H x d ∧ Dp T.K w.H y (.list ds) ∧ SeqAt.shaped d = true ∧ SeqAt.shaped (.list ds) = true ∧ (ds.any fun z => PyData.eqv z d) = c := by
    intro ys eb e
    cases g : (dle 30 (rd w.S a) && dles 29 ys) with
    | false => rw [g] at e; cases e
    | true =>
      rw [g] at e
      obtain ⟨g1, g2⟩ := Bool.and_eq_true_iff.mp g
      obtain ⟨d1, c1, p1⟩ := dp_rd o g1 ra
      have g3 : dle 30 (rd w.S b) = true := by rw [eb]; exact g2
      obtain ⟨d2, c2, p2⟩ := dp_rd o g3 rb
      rw [eb] at d2 c2 p2
      exact ⟨_, toDs ys, d1, d2, shaped_of c1 p1, shaped_of c2 p2, inWs_D e⟩
  cases b with
  | str z =>
    cases a with
    | str q =>
      cases q with
      | nil => cases e
      | cons k r => cases r with
        | cons _ _ => cases e
        | nil =>
          obtain ⟨x1, rfl, e1, _⟩ := ra.str_inv
          obtain ⟨x2, rfl, e2, _⟩ := rb.str_inv
          refine .inl ⟨k, x2, ?_, rfl, ?_⟩
          · rw [← str_of_tl e1]
          · have e' : some (memN k z) = some c := e
            cases e'
            rw [memN_eq, ← e2]
    | _ => cases e
  | tup ys =>
    have e' : (if flat a && ys.all flat then inWs a ys else none) = some c := e
    cases g : (flat a && ys.all flat) with
    | false => rw [g] at e'; cases e'
    | true =>
      rw [g] at e'
      obtain ⟨g1, g2⟩ := Bool.and_eq_true_iff.mp g
      obtain ⟨p, us, rfl, sq, q⟩ := rb.tup_inv
      obtain ⟨h1, h2⟩ := inWs_flat g1 ra g2 q e'
      exact .inr (.inl ⟨p, us, rfl, sqT_ex o.ex sq, relW_flat g1 ra, h1, h2⟩)
  | lst ys => exact .inr (.inr (lists ys rfl e))
  | ref n =>
    have e' : (match rd w.S (.ref n) with | .lst ys => if dle 30 (rd w.S a) && dles 29 ys then inWs (rd w.S a) ys else none | _ => none) = some c := e
    cases eb : rd w.S (.ref n) with
    | lst ys => rw [eb] at e'; exact .inr (.inr (lists ys eb e'))
    | _ => rw [eb] at e'; cases e'
  | _ => cases e
theorem opw_in (hu : X.A.units + 65 < cLine) : OpR X (compareOp .In) (lR2 (tb X nm) opIn E) := by
  rintro pins s σ H x y v u Q I r1 r2 ⟨w, a, b, rfl, o, ra, rb, h⟩
  have h' : PostG (tb X nm) w (bW (isIn a b w.S) w.S) (QW (tb X nm) Q) E := h
  cases e : isIn a b w.S with
  | none => rw [e] at h'; exact h'.elim
  | some c =>
    rw [e] at h'
    have q : Q (.bl c) w.H := PostG.val o h' (.bl c)
    rcases isIn_run o ra rb e with ⟨k, z, rfl, rfl, e1⟩ | ⟨p, us, rfl, h1, h2, h3, h4⟩ | ⟨d, ds, h1, h2, h3, h4, h5⟩
    · exact op_in_sign pins s σ _ _ _ v u Q I r1 r2 ⟨k, z, rfl, rfl, by rw [e1]; exact q⟩
    · exact op_in_seq pins s σ _ _ _ v u Q I r1 r2 ⟨p, us, rfl, .inr h1, h2, h3, by rw [h4]; exact q⟩
    · exact op_inD hu pins s σ _ _ _ v u Q I r1 r2 ⟨d, ds, h1, h2, h3, h4, by rw [h5]; exact q⟩
theorem opw_notIn (hu : X.A.units + 65 < cLine) : OpR X (compareOp .NotIn) (lR2 (tb X nm) opNotIn E) := by
  rintro pins s σ H x y v u Q I r1 r2 ⟨w, a, b, rfl, o, ra, rb, h⟩
  have h' : PostG (tb X nm) w (bW ((isIn a b w.S).map (! ·)) w.S) (QW (tb X nm) Q) E := h
  cases e : isIn a b w.S with
  | none => rw [e] at h'; exact h'.elim
  | some c =>
    rw [e] at h'
    have q : Q (.bl (!c)) w.H := PostG.val o h' (.bl (!c))
    rcases isIn_run o ra rb e with ⟨k, z, rfl, rfl, e1⟩ | ⟨p, us, rfl, h1, h2, h3, h4⟩ | ⟨d, ds, h1, h2, h3, h4, h5⟩
    · exact op_notIn_sign pins s σ _ _ _ v u Q I r1 r2 ⟨k, z, rfl, rfl, by rw [e1]; exact q⟩
    · exact op_notIn_seq pins s σ _ _ _ v u Q I r1 r2 ⟨p, us, rfl, .inr h1, h2, h3, by rw [h4]; exact q⟩
    · exact op_notInD hu pins s σ _ _ _ v u Q I r1 r2 ⟨d, ds, h1, h2, h3, h4, by rw [h5]; exact q⟩

/-! ### subscripts -/
theorem ixN_eq (n : Nat) (i : Int) : Mir.ixN n i = L2.ixN n i := rfl
theorem sIx_eq (n d : Nat) (o : Option Int) : Mir.sIx n d o = HT.sIx n d o := by cases o <;> rfl
theorem rels_atI {T : Tab} {w : Wd} {xs : List Mir.W} {vs : List V} {i : Int} {x : Mir.W} (q : w.rels T xs vs) (e : Mir.atI xs i = some x) : ∃ v, L2.atI vs i = some v ∧ w.rel T x v := by
  unfold Mir.atI at e
  unfold L2.atI
  rw [← q.length]
  rw [ixN_eq] at e
  cases g : L2.ixN xs.length i with
  | none => rw [g] at e; cases e
  | some j =>
    rw [g] at e
    exact q.get e
theorem ixw : IxR X (lR2 (tb X nm) opIdx E) := by
  rintro value slice pins s σ H x y v u Q I r1 r2 ⟨w, a, b, rfl, o, ra, rb, h⟩ hs
  cases b with
  | int i =>
    cases rb.int_inv
    have seqs : PostG (tb X nm) w (match seqOf w.S a with | some xs => oks (Mir.atI xs i) w.S | none => .bad) (QW (tb X nm) Q) E → rIx X.K x (.int i) w.H Q := by
      intro h'
      cases g : seqOf w.S a with
      | none => rw [g] at h'; exact h'.elim
      | some xs =>
        rw [g] at h'
        obtain ⟨p, vs, rfl, sq, q⟩ := o.seq g ra
        have h2 : PostG (tb X nm) w (oks (Mir.atI xs i) w.S) (QW (tb X nm) Q) E := h'
        cases g2 : Mir.atI xs i with
        | none => rw [g2] at h2; exact h2.elim
        | some x =>
          rw [g2] at h2
          obtain ⟨v', e', rv⟩ := rels_atI q g2
          rcases sq with sq | sq
          · exact .inl ⟨p, vs, i, v', rfl, rfl, sq, e', PostG.val o h2 rv⟩
          · exact .inr (.inl ⟨p, vs, i, v', rfl, rfl, sq, e', PostG.val o h2 rv⟩)
    have fin : rIx X.K x (.int i) w.H Q → wpAny (model X.prog X.w) X.A (subscriptTail value slice v u) (EP X pins σ Q) X.xe s := fun q => ix_seq value slice pins s σ _ _ _ v u Q I r1 r2 q hs
    cases a with
    | str z =>
      obtain ⟨x1, rfl, e1, k1⟩ := ra.str_inv
      have h2 : PostG (tb X nm) w (oks ((Mir.atI z i).map fun c => .str [c]) w.S) (QW (tb X nm) Q) E := h
      cases g : Mir.atI z i with
      | none => rw [g] at h2; exact h2.elim
      | some c =>
        rw [g] at h2
        refine fin (.inr (.inr ⟨x1, i, c, rfl, rfl, by rw [str_len e1]; exact lim_sz (okS_len k1), ?_, PostG.val o h2 (.str (by rfl) ?_)⟩))
        · have : x1.cps.toList = z := e1
          rw [this]
          exact g
        · refine okS_mk (fun d hd => ?_) (show 1 ≤ LIM by decide)
          have hd' : d = c := by simpa using hd
          subst hd'
          unfold Mir.atI at g
          cases g2 : Mir.ixN z.length i with
          | none => rw [g2] at g; cases g
          | some j =>
            rw [g2] at g
            exact okS_asc k1 d (List.mem_of_getElem? g)
    | tup xs => exact fin (seqs h)
    | lst xs => exact fin (seqs h)
    | lsr xs => exact fin (seqs h)
    | ref n => exact fin (seqs h)
    | _ => exact h.elim
  | _ => exact h.elim
theorem we_idx {a b : Expr} {ma mb : ME} {pos : Pos} (ha : WE X nm E a ma) (hb : WE X nm E b mb) (hs : PlainIx b := by intro _ _; rfl) : WE X nm E (.Subscript a b pos) (eBin opIdx ma mb) := pe_imp (pe_ix ixw ha hb hs) fun _ _ _ h => bin_of h

/-! ### slices -/
theorem cut_rels {T : Tab} {w : Wd} {xs : List Mir.W} {vs : List V} {lo hi : Option Int} (q : w.rels T xs vs) : w.rels T (Mir.cut xs lo hi) (cutV vs lo hi) := by
  unfold Mir.cut cutV
  rw [sIx_eq, sIx_eq, q.length]
  exact (q.drop _).take _
def lSl (T : Tab) (f : Mir.W → Option Int → Option Int → Store → Out Mir.W) (E : XK) : V → Option Int → Option Int → Hp → VK → Prop := fun x lo hi H Q => ∃ w a, w.H = H ∧ Ok T w ∧ w.rel T a x ∧ PostG T w (f a lo hi w.S) (QW T Q) E
theorem slw : SlR X (lSl (tb X nm) sl E) := by
  rintro pins s σ H x v vl vu lo hi sla Q I rx hs pl pu ⟨w, a, rfl, o, ra, h⟩
  have lst : ∀ p vs xs, x = .ref p → SqL X.K w.H p vs → w.rels (tb X nm) xs vs → PostG (tb X nm) w (.ok (.lst (Mir.cut xs lo hi)) w.S) (QW (tb X nm) Q) E → rSlL X.K x lo hi w.H Q := by
    intro p vs xs ex sq q h'
    refine ⟨p, vs, ex, sq, fun p' hp => ?_⟩
    exact h' (w.layF p' (.lst (cutV vs lo hi))) (o.layF hp) (Ext.layF o hp) rfl (.ref p') (.lst (by show upd w.G p' _ p' = _; exact upd_same) ((cut_rels q).mono (Ext.layF o hp).le (Ext.layF o hp).ex))
  have refs : ∀ xs, rd w.S a = .lst xs → PostG (tb X nm) w (.ok (.lst (Mir.cut xs lo hi)) w.S) (QW (tb X nm) Q) E → rSlL X.K x lo hi w.H Q := by
    intro xs ea h'
    obtain ⟨p, vs, e, g, q⟩ := o.lst ea ra
    exact lst p vs xs e (SqL.of g) q h'
  cases a with
  | str z =>
    obtain ⟨x1, rfl, e1, k1⟩ := ra.str_inv
    refine sl_str pins s σ _ _ v vl vu lo hi sla Q I rx hs pl pu ⟨x1, rfl, by rw [str_len e1]; exact lim_sz (okS_len k1), PostG.val o h (.str ?_ (okS_sub k1 (fun c hc => List.mem_of_mem_drop (List.mem_of_mem_take hc)) ?_))⟩
    · show (((x1.cps.toList.drop _).take _).toArray).toList = _
      rw [List.toList_toArray, str_len e1]
      show List.take _ (List.drop _ (TL.tl x1)) = _
      rw [e1]
      unfold Mir.cut
      rw [sIx_eq, sIx_eq]
    · unfold Mir.cut
      rw [List.length_take, List.length_drop]
      omega
  | tup xs =>
    obtain ⟨p, vs, rfl, sq, q⟩ := ra.tup_inv
    refine sl_tupA pins s σ _ _ v vl vu lo hi sla Q I rx hs pl pu ⟨p, vs, rfl, sqT_ex o.ex sq, fun z => ?_, fun _ p' hp => ?_⟩
    · have e : Mir.cut xs lo hi = xs := by
        unfold Mir.cut
        rw [sIx_eq, sIx_eq, q.length, z.1, z.2, List.drop_zero, Nat.sub_zero, ← q.length, List.take_length]
      have h' : PostG (tb X nm) w (.ok (.tup (Mir.cut xs lo hi)) w.S) (QW (tb X nm) Q) E := h
      rw [e] at h'
      exact PostG.val o h' ra
    · exact h (w.layF p' (.tup (cutV vs lo hi))) (o.layF hp) (Ext.layF o hp) rfl (.ref p') (.tup (SqT.of (by show upd w.G p' _ p' = _; exact upd_same)) ((cut_rels q).mono (Ext.layF o hp).le (Ext.layF o hp).ex))
  | lsr xs =>
    obtain ⟨p, vs, rfl, sq, q⟩ := ra.lsr_inv
    exact sl_list pins s σ _ _ v vl vu lo hi sla Q I rx hs pl pu (lst p vs xs rfl (sqL_ex o.ex sq) q h)
  | lst xs => exact sl_list pins s σ _ _ v vl vu lo hi sla Q I rx hs pl pu (refs xs rfl h)
  | ref n =>
    have h' : PostG (tb X nm) w (match rd w.S (.ref n) with | .lst xs => .ok (.lst (Mir.cut xs lo hi)) w.S | _ => .bad) (QW (tb X nm) Q) E := h
    cases ea : rd w.S (.ref n) with
    | lst xs => rw [ea] at h'; exact sl_list pins s σ _ _ v vl vu lo hi sla Q I rx hs pl pu (refs xs ea h')
    | _ => rw [ea] at h'; exact h'.elim
  | _ => exact h.elim
theorem slwM : SlR X (lSl (tb X nm) slM E) := by
  rintro pins s σ H x v vl vu lo hi sla Q I rx hs pl pu ⟨w, a, rfl, o, ra, h⟩
  have h' : PostG (tb X nm) w (match rd w.S a with | .lst xs => .ok (.ref w.S.next) (w.S.new (.lst (Mir.cut xs lo hi))) | _ => .bad) (QW (tb X nm) Q) E := h
  cases ea : rd w.S a with
  | lst xs =>
    rw [ea] at h'
    obtain ⟨p, vs, e, g, q⟩ := o.lst ea ra
    exact sl_list pins s σ _ _ v vl vu lo hi sla Q I rx hs pl pu ⟨p, vs, e, SqL.of g, fun p' hp => new_lst o (cut_rels q) h' hp⟩
  | _ => rw [ea] at h'; exact h'.elim
/-- a bound of a slice -/
def lO (T : Tab) (m : MO) (E : XK) : TO := fun σ H Q => ∃ w d, w.H = H ∧ Ok T w ∧ w.env T d σ ∧ PostG T w (m d w.S) (fun x w' => Q x w'.H) E
theorem po_imp {X : Cx} {e : Option Expr} {t t' : TO} (h : PO X e t) (k : ∀ σ H Q, t' σ H Q → t σ H Q) : PO X e t' := ⟨fun pins s σ H Q I q => h.run pins s σ H Q I (k σ H Q q)⟩
abbrev WO (X : Cx) (nm : Nm) (E : XK) (e : Option Expr) (m : MO) : Prop := PO X e (lO (tb X nm) m E)
theorem lO_bind {T : Tab} {w : Wd} {d : DEnv} {σ : L2.St} {β : Type} {R : β → Wd → Prop} {a : MO} {k : Option Int → Store → Out β} (o : Ok T w) (re : w.env T d σ) (h : PostG T w ((a d w.S).bind k) R E) {Q : Option Int → Hp → Prop}
    (q : ∀ x w1, Ok T w1 → Ext w w1 → w1.env T d σ → PostG T w1 (k x w1.S) R E → Q x w1.H) : lO T a E σ w.H Q :=
  ⟨w, d, rfl, o, re, h.bind.imp fun x w1 o1 x1 h1 => q x w1 o1 x1 (re.mono x1.le x1.ex) h1⟩
theorem wo_none : WO X nm E none oNone := po_imp po_none fun σ H Q ⟨w, d, eH, o, re, h⟩ => by
  subst eH
  exact h w o (Ext.refl w) rfl
theorem wo_some {e : Expr} {m : ME} (h : WE X nm E e m) : WO X nm E (some e) (oSome m) := po_imp (po_some h) fun σ H Q ⟨w, d, eH, o, re, h⟩ => by
  subst eH
  refine lE_imp (lE_bind o re h) ?_
  rintro x H1 ⟨w1, a', rfl, o1, x1, re1, ra, h1⟩
  cases a' with
  | int i =>
    cases ra.int_inv
    exact ⟨i, rfl, h1 w1 o1 (Ext.refl _) rfl⟩
  | _ => exact h1.elim
theorem sl_of {f : Mir.W → Option Int → Option Int → Store → Out Mir.W} {e : Expr} {lo hi : Option Expr} {m : ME} {ml mh : MO} {p2 pos : Pos} (hf : SlR X (lSl (tb X nm) f E)) (he : WE X nm E e m) (hl : WO X nm E lo ml) (hh : WO X nm E hi mh) : WE X nm E (.Subscript e (.Slice lo hi none p2) pos) (eSl f m ml mh) :=
  pe_imp (pe_slice hf he hl hh) fun σ H Q ⟨w, d, eH, o, re, h⟩ => by
    subst eH
    refine lE_imp (lE_bind o re h) ?_
    rintro x H1 ⟨w1, a', rfl, o1, x1, re1, ra, h1⟩
    refine lO_bind o1 re1 h1 fun l w2 o2 x2 re2 h2 => lO_bind o2 re2 h2 fun u w3 o3 x3 re3 h3 => ?_
    exact ⟨w3, a', rfl, o3, (ra.mono x2.le x2.ex).mono x3.le x3.ex, h3⟩
theorem we_sl {e : Expr} {lo hi : Option Expr} {m : ME} {ml mh : MO} {p2 pos : Pos} (he : WE X nm E e m) (hl : WO X nm E lo ml) (hh : WO X nm E hi mh) : WE X nm E (.Subscript e (.Slice lo hi none p2) pos) (eSl sl m ml mh) := sl_of slw he hl hh
theorem we_slM {e : Expr} {lo hi : Option Expr} {m : ME} {ml mh : MO} {p2 pos : Pos} (he : WE X nm E e m) (hl : WO X nm E lo ml) (hh : WO X nm E hi mh) : WE X nm E (.Subscript e (.Slice lo hi none p2) pos) (eSl slM m ml mh) := sl_of slwM he hl hh
/-- xs[::-1] -/
theorem rev_of {T : Tab} {w : Wd} {a : Mir.W} {x : V} {Q : VK} (o : Ok T w) (ra : w.rel T a x) (h : PostG T w (match rd w.S a with | .lst xs => .ok (.lst xs.reverse) w.S | _ => .bad) (QW T Q) E) : ∃ p vs, x = .ref p ∧ SqL T.K w.H p vs ∧ ∀ p', w.H p' = none → Q (.ref p') (upd w.H p' (.lst vs.reverse)) := by
  cases ea : rd w.S a with
  | lst xs =>
    rw [ea] at h
    obtain ⟨p, vs, e, g, q⟩ := o.lst ea ra
    exact ⟨p, vs, e, SqL.of g, fun p' hp => h (w.layF p' (.lst vs.reverse)) (o.layF hp) (Ext.layF o hp) rfl (.ref p') (.lst (by show upd w.G p' _ p' = _; exact upd_same) (q.reverse.mono (Ext.layF o hp).le (Ext.layF o hp).ex))⟩
  | _ => rw [ea] at h; exact h.elim
theorem we_revM {e : Expr} {m : ME} {k : Nat} {p1 p2 p3 pos : Pos} (he : WE X nm E e m) : WE X nm E (.Subscript e (.Slice none none (some (.UnaryOp .USub (.Constant (.int 1) k p1) p2)) p3) pos) (eUn opRevM m) :=
  pe_imp (pe_revL he) fun σ H Q ⟨w, d, eH, o, re, h⟩ => by
    subst eH
    refine lE_imp (lE_bind o re h) ?_
    rintro x H1 ⟨w1, a', rfl, o1, x1, re1, ra, h1⟩
    have h2 : PostG (tb X nm) w1 (match rd w1.S a' with | .lst xs => .ok (.ref w1.S.next) (w1.S.new (.lst xs.reverse)) | _ => .bad) (QW (tb X nm) Q) E := h1
    cases ea : rd w1.S a' with
    | lst xs =>
      rw [ea] at h2
      obtain ⟨p, vs, e, g, q⟩ := o1.lst ea ra
      exact ⟨p, vs, e, SqL.of g, fun p' hp => new_lst o1 q.reverse h2 hp⟩
    | _ => rw [ea] at h2; exact h2.elim
end
end MW
set_option Elab.async false
set_option linter.all false
set_option maxRecDepth 100000
set_option maxHeartbeats 2000000
/-! MR6: built-in functions and methods, f-strings, isinstance. -/
namespace MW
open PySem PySem.Spec PyProof.Rows L2 Mir
def lC (T : Tab) (f : MF) (E : XK) : List V → Hp → VK → Prop := fun xs H Q => ∃ w a, w.H = H ∧ Ok T w ∧ w.rels T a xs ∧ PostG T w (f a w.S) (QW T Q) E
section
variable {X : Cx} {nm : Nm} {E : XK} {pos p : Pos}
theorem cb_of {T : Tab} {f : MF} {a : MA} {σ : L2.St} {H : Hp} {Q : VK} (h : lE T (eCall f a) E σ H Q) : tCB (lC T f E) (lA T a E) σ H Q := by
  obtain ⟨w, d, eH, o, re, h⟩ := h
  subst eH
  refine lA_imp (lA_bind o re h) ?_
  rintro vs H1 ⟨w1, xs, rfl, o1, x1, re1, rv, h1⟩
  exact ⟨w1, xs, rfl, o1, rv, h1⟩
theorem we_callB {x : Str} {id : String} {f : MF} {e : Expr} {es : List Expr} {a : MA} (hc : CallR X (.builtin id) (lC (tb X nm) f E)) (hm : X.mg x = none) (hv : bootBuiltins x = some (.builtin id)) (ha : WA X nm E (e :: es) a) (hg : Gl X x := by rfl) (hn : x ≠ "__name__" := by decide) (hdb : (x == ("__debug__" : Str)) = false := by decide)
    (he : starEach (e :: es) X.env = (false, eval e X.env) :: starEach es X.env := by rfl) (hpl : (backTo pos (starEach es X.env)).any (·.1) = false := by rfl) : WE X nm E (.Call (.Name x p) (e :: es) [] pos) (eCall f a) :=
  pe_imp (pe_callB hc hg hm hv ha hn hdb he hpl) fun _ _ _ h => cb_of h
theorem we_callTy {x : Str} {id : String} {f : MF} {e : Expr} {es : List Expr} {a : MA} (hc : CallR X (.type id) (lC (tb X nm) f E)) (hm : X.mg x = none) (hv : bootBuiltins x = some (.type id)) (ha : WA X nm E (e :: es) a) (hg : Gl X x := by rfl) (hn : x ≠ "__name__" := by decide) (hdb : (x == ("__debug__" : Str)) = false := by decide)
    (he : starEach (e :: es) X.env = (false, eval e X.env) :: starEach es X.env := by rfl) (hpl : (backTo pos (starEach es X.env)).any (·.1) = false := by rfl) : WE X nm E (.Call (.Name x p) (e :: es) [] pos) (eCall f a) :=
  pe_imp (pe_callTy hc hg hm hv ha hn hdb he hpl) fun _ _ _ h => cb_of h
/-- one argument -/
theorem rels1 {T : Tab} {w : Wd} {a : Mir.W} {vs : List V} (h : w.rels T [a] vs) : ∃ v, vs = [v] ∧ w.rel T a v := by
  cases h with | cons h q => cases q with | nil => exact ⟨_, rfl, h⟩
theorem cw_len : CallR X (.builtin "len") (lC (tb X nm) fLen E) := by
  rintro pins s σ H xs us Q I r ⟨w, a, rfl, o, rv, h⟩
  have seqs : ∀ y, a = [y] → PostG (tb X nm) w (match seqOf w.S y with | some ys => .ok (.int ys.length) w.S | none => .bad) (QW (tb X nm) Q) E → wpAny (model X.prog X.w) X.A (call (.builtin "len") us) (EP X pins σ Q) X.xe s := by
    intro y ea h'
    subst ea
    obtain ⟨v, rfl, ry⟩ := rels1 rv
    cases g : seqOf w.S y with
    | none => rw [g] at h'; exact h'.elim
    | some ys =>
      rw [g] at h'
      obtain ⟨p, vs, rfl, sq, q⟩ := o.seq g ry
      refine call_len_seq pins s σ _ _ us Q I r ⟨p, vs, rfl, sq, ?_⟩
      rw [← q.length]
      exact PostG.val o h' (.int _)
  cases a with
  | nil => exact h.elim
  | cons y t => cases t with
    | cons _ _ => cases y <;> exact h.elim
    | nil => cases y with
      | str z =>
        obtain ⟨v, rfl, ry⟩ := rels1 rv
        obtain ⟨x1, rfl, e1, k1⟩ := ry.str_inv
        refine call_len_str pins s σ _ _ us Q I r ⟨x1, rfl, by rw [str_len e1]; exact lim_sz (okS_len k1), ?_⟩
        rw [str_len e1]
        exact PostG.val o h (.int _)
      | non => exact seqs _ rfl h
      | bl _ => exact seqs _ rfl h
      | int _ => exact seqs _ rfl h
      | tup _ => exact seqs _ rfl h
      | lst _ => exact seqs _ rfl h
      | obj _ _ => exact seqs _ rfl h
      | ref _ => exact seqs _ rfl h
      | cls _ => exact seqs _ rfl h
      | lsr _ => exact seqs _ rfl h
/-- a list of True and False -/
theorem boolsAll_of {T : Tab} {w : Wd} : ∀ {ys : List Mir.W} {vs : List V} {c : Bool}, boolsAll ys = some c → w.rels T ys vs → ∃ bs : List Bool, vs = bs.map V.bl ∧ bs.all id = c
  | [], vs, c, e, q => by cases q; cases e; exact ⟨[], rfl, rfl⟩
  | y :: ys, vs, c, e, q => by
    cases q with
    | cons h q =>
      cases y with
      | bl b =>
        cases h.bl_inv
        cases b with
        | true =>
          obtain ⟨bs, e1, e2⟩ := boolsAll_of (show boolsAll ys = some c from e) q
          exact ⟨true :: bs, by rw [e1] <;> rfl, by show (true && bs.all id) = c; rw [e2] <;> rfl⟩
        | false =>
          have e' : (boolsAll ys).map (fun _ => false) = some c := e
          cases g : boolsAll ys with
          | none => rw [g] at e'; cases e'
          | some d =>
            rw [g] at e'
            cases e'
            obtain ⟨bs, e1, e2⟩ := boolsAll_of g q
            exact ⟨false :: bs, by rw [e1] <;> rfl, rfl⟩
      | _ => cases e
theorem boolsAny_of {T : Tab} {w : Wd} : ∀ {ys : List Mir.W} {vs : List V} {c : Bool}, boolsAny ys = some c → w.rels T ys vs → ∃ bs : List Bool, vs = bs.map V.bl ∧ bs.any id = c
  | [], vs, c, e, q => by cases q; cases e; exact ⟨[], rfl, rfl⟩
  | y :: ys, vs, c, e, q => by
    cases q with
    | cons h q =>
      cases y with
      | bl b =>
        cases h.bl_inv
        cases b with
        | false =>
          obtain ⟨bs, e1, e2⟩ := boolsAny_of (show boolsAny ys = some c from e) q
          exact ⟨false :: bs, by rw [e1] <;> rfl, by show (false || bs.any id) = c; rw [e2] <;> rfl⟩
        | true =>
          have e' : (boolsAny ys).map (fun _ => true) = some c := e
          cases g : boolsAny ys with
          | none => rw [g] at e'; cases e'
          | some d =>
            rw [g] at e'
            cases e'
            obtain ⟨bs, e1, e2⟩ := boolsAny_of g q
            exact ⟨true :: bs, by rw [e1] <;> rfl, rfl⟩
      | _ => cases e
/-- a list (not a tuple) -/
def lstOf (S : Store) (w : Mir.W) : Option (List Mir.W) := match rd S w with
  | .lst xs => some xs
  | _ => none
theorem cw_all (hc : X.calm = true) : CallR X (.builtin "all") (lC (tb X nm) fAll E) := by
  rintro pins s σ H xs us Q I r ⟨w, a, rfl, o, rv, h⟩
  cases a with
  | nil => exact h.elim
  | cons y t => cases t with
    | cons _ _ => exact h.elim
    | nil =>
      obtain ⟨v, rfl, ry⟩ := rels1 rv
      have h' : PostG (tb X nm) w (match rd w.S y with | .lst ys => bW (boolsAll ys) w.S | _ => .bad) (QW (tb X nm) Q) E := h
      cases g : rd w.S y with
      | lst ys =>
        rw [g] at h'
        obtain ⟨p, vs, rfl, g1, q⟩ := o.lst g ry
        have h2 : PostG (tb X nm) w (bW (boolsAll ys) w.S) (QW (tb X nm) Q) E := h'
        cases g2 : boolsAll ys with
        | none => rw [g2] at h2; exact h2.elim
        | some c =>
          rw [g2] at h2
          obtain ⟨bs, e1, e2⟩ := boolsAll_of g2 q
          subst e1
          exact cr_all hc pins s σ _ _ us Q I r ⟨p, bs, rfl, SqL.of g1, by rw [e2]; exact PostG.val o h2 (.bl c)⟩
      | _ => rw [g] at h'; exact h'.elim
theorem cw_any (hc : X.calm = true) : CallR X (.builtin "any") (lC (tb X nm) fAny E) := by
  rintro pins s σ H xs us Q I r ⟨w, a, rfl, o, rv, h⟩
  cases a with
  | nil => exact h.elim
  | cons y t => cases t with
    | cons _ _ => exact h.elim
    | nil =>
      obtain ⟨v, rfl, ry⟩ := rels1 rv
      have h' : PostG (tb X nm) w (match rd w.S y with | .lst ys => bW (boolsAny ys) w.S | _ => .bad) (QW (tb X nm) Q) E := h
      cases g : rd w.S y with
      | lst ys =>
        rw [g] at h'
        obtain ⟨p, vs, rfl, g1, q⟩ := o.lst g ry
        have h2 : PostG (tb X nm) w (bW (boolsAny ys) w.S) (QW (tb X nm) Q) E := h'
        cases g2 : boolsAny ys with
        | none => rw [g2] at h2; exact h2.elim
        | some c =>
          rw [g2] at h2
          obtain ⟨bs, e1, e2⟩ := boolsAny_of g2 q
          subst e1
          exact cr_any hc pins s σ _ _ us Q I r ⟨p, bs, rfl, SqL.of g1, by rw [e2]; exact PostG.val o h2 (.bl c)⟩
      | _ => rw [g] at h'; exact h'.elim
theorem Ok.seqL {T : Tab} {w : Wd} (o : Ok T w) {x : Mir.W} {xs : List Mir.W} {v : V} (g : seqOf w.S x = some xs) (rv : w.rel T x v) (hn : ∀ ys, x ≠ .tup ys) : ∃ a vs, v = .ref a ∧ SqL T.K w.H a vs ∧ w.rels T xs vs := by
  cases x with
  | tup ys => exact absurd rfl (hn ys)
  | lst ys =>
    cases g
    obtain ⟨a, vs, e, h, q⟩ := rv.lst_inv
    exact ⟨a, vs, e, SqL.of (o.ex _ _ h), q⟩
  | lsr ys =>
    cases g
    obtain ⟨a, vs, e, h, q⟩ := rv.lsr_inv
    exact ⟨a, vs, e, sqL_ex o.ex h, q⟩
  | ref n =>
    have g2 : (match w.S.get n with | some (.lst xs) => some xs | _ => none) = some xs := g
    cases q : w.S.get n with
    | none => rw [q] at g2; cases g2
    | some so =>
      rw [q] at g2
      cases so with
      | lst ys =>
        cases g2
        obtain ⟨a, vs, e, h1, h2, h3, h4⟩ := o.lstAt q rv
        exact ⟨a, vs, e, SqL.of h3, h4⟩
      | dct _ => cases g2
      | ins _ _ => cases g2
  | _ => cases g
theorem cw_tuple : CallR X (.type "tuple") (lC (tb X nm) fTuple E) := by
  rintro pins s σ H xs us Q I r ⟨w, a, rfl, o, rv, h⟩
  cases a with
  | nil => exact h.elim
  | cons y t => cases t with
    | cons _ _ => exact h.elim
    | nil =>
      obtain ⟨v, rfl, ry⟩ := rels1 rv
      have h' : PostG (tb X nm) w (match seqOf w.S y with | some ys => .ok (.tup ys) w.S | none => .bad) (QW (tb X nm) Q) E := h
      cases g : seqOf w.S y with
      | none => rw [g] at h'; exact h'.elim
      | some ys =>
        rw [g] at h'
        have lst : (∀ zs, y ≠ .tup zs) → wpAny (model X.prog X.w) X.A (call (.type "tuple") us) (EP X pins σ Q) X.xe s := fun hn => by
          obtain ⟨p, vs, rfl, sq, q⟩ := o.seqL g ry hn
          exact call_tuple_of pins s σ _ _ us Q I r ⟨p, vs, rfl, .inl ⟨sq, fun l hl => h' (w.layF l (.tup vs)) (o.layF hl) (Ext.layF o hl) rfl (.ref l) (.tup (SqT.of (by show upd w.G l _ l = _; exact upd_same)) (q.mono (Ext.layF o hl).le (Ext.layF o hl).ex))⟩⟩
        cases y with
        | tup zs =>
          cases g
          obtain ⟨p, vs, rfl, sq, q⟩ := ry.tup_inv
          exact call_tuple_of pins s σ _ _ us Q I r ⟨p, vs, rfl, .inr ⟨sqT_ex o.ex sq, PostG.val o h' ry⟩⟩
        | _ => exact lst fun zs z => nomatch z
theorem cw_list : CallR X (.type "list") (lC (tb X nm) fList E) := by
  rintro pins s σ H xs us Q I r ⟨w, a, rfl, o, rv, h⟩
  cases a with
  | nil => exact h.elim
  | cons y t => cases t with
    | cons _ _ => exact h.elim
    | nil =>
      obtain ⟨v, rfl, ry⟩ := rels1 rv
      have h' : PostG (tb X nm) w (match seqOf w.S y with | some ys => .ok (.lst ys) w.S | none => .bad) (QW (tb X nm) Q) E := h
      cases g : seqOf w.S y with
      | none => rw [g] at h'; exact h'.elim
      | some ys =>
        rw [g] at h'
        obtain ⟨p, vs, rfl, sq, q⟩ := o.seq g ry
        exact call_list_of pins s σ _ _ us Q I r ⟨p, vs, rfl, sq, fun l hl => h' (w.layF l (.lst vs)) (o.layF hl) (Ext.layF o hl) rfl (.ref l) (.lst (by show upd w.G l _ l = _; exact upd_same) (q.mono (Ext.layF o hl).le (Ext.layF o hl).ex))⟩
theorem cw_listM : CallR X (.type "list") (lC (tb X nm) fListM E) := by
  rintro pins s σ H xs us Q I r ⟨w, a, rfl, o, rv, h⟩
  cases a with
  | nil => exact h.elim
  | cons y t => cases t with
    | cons _ _ => exact h.elim
    | nil =>
      obtain ⟨v, rfl, ry⟩ := rels1 rv
      have h' : PostG (tb X nm) w (match seqOf w.S y with | some ys => .ok (.ref w.S.next) (w.S.new (.lst ys)) | none => .bad) (QW (tb X nm) Q) E := h
      cases g : seqOf w.S y with
      | none => rw [g] at h'; exact h'.elim
      | some ys =>
        rw [g] at h'
        obtain ⟨p, vs, rfl, sq, q⟩ := o.seq g ry
        exact call_list_of pins s σ _ _ us Q I r ⟨p, vs, rfl, sq, fun l hl => new_lst o q h' hl⟩
theorem cw_abs : CallR X (.builtin "abs") (lC (tb X nm) fAbs E) := by
  rintro pins s σ H xs us Q I r ⟨w, a, rfl, o, rv, h⟩
  cases a with
  | nil => exact h.elim
  | cons y t => cases t with
    | cons _ _ => cases y <;> exact h.elim
    | nil =>
      obtain ⟨v, rfl, ry⟩ := rels1 rv
      cases y with
      | int i =>
        cases ry.int_inv
        exact call_abs pins s σ _ _ us Q I r ⟨i, rfl, PostG.val o h (.int _)⟩
      | _ => exact h.elim

/-! ### numbers as texts -/
theorem digs_spec : ∀ (f n : Nat) (acc : List Nat), n < 10 ^ f → digs f n acc = (if n = 0 ∧ f = 0 then acc else TL.numL n ++ acc)
  | 0, n, acc, h => by
    have : n = 0 := by simpa using h
    subst this
    rfl
  | f + 1, n, acc, h => by
    rw [if_neg (by omega)]
    have e : digs (f + 1) n acc = if Nat.blt n 10 then (48 + n) :: acc else digs f (n / 10) ((48 + n % 10) :: acc) := rfl
    rw [e]
    cases h1 : Nat.blt n 10 with
    | true =>
      have hn : n < 10 := Nat.le_of_ble_eq_true h1
      rw [if_pos rfl, TL.numL_lt hn] <;> rfl
    | false =>
      have hn : 10 ≤ n := by
        rcases Nat.lt_or_ge n 10 with z | z
        · rw [show Nat.blt n 10 = true from Nat.ble_eq_true_of_le z] at h1; cases h1
        · exact z
      rw [if_neg (by decide), digs_spec f (n / 10) _ (by rw [Nat.pow_succ] at h; omega), if_neg (by intro z; omega), TL.numL_step hn, List.append_assoc]
      rfl
theorem toString_neg (n : Nat) : toString (Int.negSucc n) = "-" ++ toString ((n + 1 : Nat) : Int) := by rfl
theorem tl_ofApp (a b : String) : TL.tl (Str.ofString (a ++ b)) = TL.tl (Str.ofString a) ++ TL.tl (Str.ofString b) := by
  rw [TL.tl_ofString, TL.tl_ofString, TL.tl_ofString, String.toList_append, List.map_append]
theorem intL_eq {i : Int} (h : i.natAbs < 1000000000000) : intL i = TL.tl (Str.ofString (toString i)) := by
  have big : (1000000000000 : Nat) < 10 ^ 700 := by decide +kernel
  cases i with
  | ofNat n =>
    have hn : n < 10 ^ 700 := Nat.lt_trans h big
    show digs 700 n [] = _
    rw [digs_spec 700 n [] hn, if_neg (by intro z; exact absurd z.2 (by decide)), List.append_nil]
    exact (TL.tl_num n).symm
  | negSucc n =>
    have hn : n + 1 < 10 ^ 700 := Nat.lt_trans h big
    show 45 :: digs 700 (n + 1) [] = _
    rw [digs_spec 700 (n + 1) [] hn, if_neg (by intro z; exact absurd z.2 (by decide)), List.append_nil, toString_neg, tl_ofApp, TL.tl_num]
    rfl
theorem log2_small {i : Int} (h : i.natAbs < 1000000000000) : i.natAbs.log2 < 1920 := by
  by_cases z : i.natAbs = 0
  · rw [z]; decide
  · have : i.natAbs < 2 ^ 1920 := Nat.lt_trans h (by decide +kernel)
    exact (Nat.log2_lt z).mpr this
theorem digs_ok : ∀ (f n : Nat) (acc : List Nat), (∀ c ∈ acc, c < 128) → (∀ c ∈ digs f n acc, c < 128) ∧ (digs f n acc).length ≤ acc.length + f
  | 0, _, acc, h => ⟨h, Nat.le_refl _⟩
  | f + 1, n, acc, h => by
    have e : digs (f + 1) n acc = if Nat.blt n 10 then (48 + n) :: acc else digs f (n / 10) ((48 + n % 10) :: acc) := rfl
    rw [e]
    cases h1 : Nat.blt n 10 with
    | true =>
      have hn : n < 10 := Nat.le_of_ble_eq_true h1
      rw [if_pos rfl]
      exact ⟨fun c hc => (List.mem_cons.mp hc).elim (fun z => by omega) (h c), by rw [List.length_cons]; omega⟩
    | false =>
      rw [if_neg (by decide)]
      obtain ⟨a, b⟩ := digs_ok f (n / 10) ((48 + n % 10) :: acc) fun c hc => (List.mem_cons.mp hc).elim (fun z => by omega) (h c)
      exact ⟨a, by rw [List.length_cons] at b; omega⟩
theorem intL_ok (i : Int) : okS (intL i) = true := by
  cases i with
  | ofNat n =>
    obtain ⟨a, b⟩ := digs_ok 700 n [] (fun c hc => absurd hc List.not_mem_nil)
    exact okS_mk a (Nat.le_trans b (by decide))
  | negSucc n =>
    obtain ⟨a, b⟩ := digs_ok 700 (n + 1) [] (fun c hc => absurd hc List.not_mem_nil)
    exact okS_mk (fun c hc => (List.mem_cons.mp hc).elim (fun z => by omega) (a c)) (by show (digs 700 (n + 1) []).length + 1 ≤ LIM; exact Nat.le_trans (Nat.succ_le_succ b) (by decide))
/-- what a value is written as -/
theorem fmt_of {T : Tab} {w : Wd} {x : Mir.W} {v : V} {z : List Nat} (e : fmt x = some z) (rv : w.rel T x v) : (∃ y : Str, v = .str y ∧ y.length ≤ sizeLine ∧ w.rel T (.str z) (.str y)) ∨ ∃ i : Int, v = .int i ∧ i.natAbs.log2 < 1920 ∧ w.rel T (.str z) (.str (Str.ofString (toString i))) := by
  cases x with
  | str y =>
    cases e
    obtain ⟨x1, rfl, e1, k1⟩ := rv.str_inv
    exact .inl ⟨x1, rfl, by rw [str_len e1]; exact lim_sz (okS_len k1), .str e1 k1⟩
  | int i =>
    cases rv.int_inv
    have e' : (if decide (i.natAbs < 1000000000000) then some (intL i) else none) = some z := e
    cases g : decide (i.natAbs < 1000000000000) with
    | false => rw [g] at e'; cases e'
    | true =>
      rw [g] at e'
      cases e'
      have hi := of_decide_eq_true g
      exact .inr ⟨i, rfl, log2_small hi, .str (intL_eq hi).symm (intL_ok i)⟩
  | _ => cases e
theorem cw_str : CallR X (.type "str") (lC (tb X nm) fStr E) := by
  rintro pins s σ H xs us Q I r ⟨w, a, rfl, o, rv, h⟩
  cases a with
  | nil => exact h.elim
  | cons y t => cases t with
    | cons _ _ => exact h.elim
    | nil =>
      obtain ⟨v, rfl, ry⟩ := rels1 rv
      have h' : PostG (tb X nm) w (oks ((fmt y).map .str) w.S) (QW (tb X nm) Q) E := h
      cases g : fmt y with
      | none => rw [g] at h'; exact h'.elim
      | some z =>
        rw [g] at h'
        rcases fmt_of g ry with ⟨y, rfl, hl, rz⟩ | ⟨i, rfl, hl, rz⟩
        · exact SkE.call_str_str pins s σ _ _ us Q I r ⟨y, rfl, PostG.val o h' rz⟩
        · exact call_str_int pins s σ _ _ us Q I r ⟨i, rfl, hl, PostG.val o h' rz⟩
theorem we_fmt {e : Expr} {m : ME} (he : WE X nm E e m) : WE X nm E (.FormattedValue e (-1) none pos) (eFmt m) := pe_imp (pe_fmt he) fun σ H Q ⟨w, d, eH, o, re, h⟩ => by
  subst eH
  refine lE_imp (lE_bind o re h) ?_
  rintro x H1 ⟨w1, a', rfl, o1, x1, re1, ra, h1⟩
  cases g : fmt a' with
  | none => rw [g] at h1; exact h1.elim
  | some z =>
    rw [g] at h1
    rcases fmt_of g ra with ⟨y, rfl, hl, rz⟩ | ⟨i, rfl, hl, rz⟩
    · exact .inl ⟨y, rfl, hl, PostG.val o1 h1 rz⟩
    · exact .inr ⟨i, rfl, hl, PostG.val o1 h1 rz⟩
inductive WJ (X : Cx) (nm : Nm) (E : XK) : List Expr → List ME → Prop where
  | nil : WJ X nm E [] []
  | cons {e : Expr} {m : ME} {es : List Expr} {ms : List ME} (h : WE X nm E e m) (r : WJ X nm E es ms) : WJ X nm E (e :: es) (m :: ms)
theorem WJ.pj {es : List Expr} {ms : List ME} (h : WJ X nm E es ms) : PJ X es (ms.map fun m => lE (tb X nm) m E) := by
  induction h with
  | nil => exact .nil
  | cons h _ ih => exact .cons h ih
theorem joined_of {T : Tab} : ∀ (ms : List ME) (acc : List Nat) (x : Str) (w : Wd) (d : DEnv) (σ : L2.St) (Q : VK), Ok T w → w.env T d σ → TL.tl x = acc → okS acc = true → PostG T w (eJoined ms acc d w.S) (QW T Q) E → tJs (ms.map fun m => lE T m E) x σ w.H fun out H1 => Q (.str out) H1
  | [], acc, x, w, d, σ, Q, o, re, e1, k1, h => PostG.val o h (.str e1 k1)
  | m :: ms, acc, x, w, d, σ, Q, o, re, e1, k1, h => by
    refine lE_imp (lE_bind o re h) ?_
    rintro v H1 ⟨w1, a', rfl, o1, x1, re1, ra, h1⟩
    cases a' with
    | str z =>
      obtain ⟨y, rfl, e2, k2⟩ := ra.str_inv
      have h2 : PostG T w1 (if Nat.ble (acc.length + z.length) LIM then eJoined ms (acc ++ z) d w1.S else .bad) (QW T Q) E := h1
      cases g : Nat.ble (acc.length + z.length) LIM with
      | false => rw [g] at h2; exact h2.elim
      | true =>
        rw [g] at h2
        have hl : acc.length + z.length ≤ LIM := Nat.le_of_ble_eq_true g
        have e3 : TL.tl (x ++ y) = acc ++ z := by rw [TL.tl_append, e1, e2]
        have k3 : okS (acc ++ z) = true := okS_mk (fun c hc => (List.mem_append.mp hc).elim (okS_asc k1 c) (okS_asc k2 c)) (by rw [List.length_append]; exact hl)
        exact ⟨y, rfl, by rw [str_len e3]; exact lim_sz (okS_len k3), joined_of ms (acc ++ z) (x ++ y) w1 d σ Q o1 re1 e3 k3 h2⟩
    | _ => exact h1.elim
theorem we_joined {v1 v2 : Expr} {rest : List Expr} {ms : List ME} (h : WJ X nm E (v1 :: v2 :: rest) ms) : WE X nm E (.JoinedStr (v1 :: v2 :: rest) pos) (eJoined ms []) := pe_imp (pe_joined h.pj) fun σ H Q ⟨w, d, eH, o, re, h⟩ => by
  subst eH
  exact joined_of ms [] Str.empty w d σ Q o re rfl rfl h
theorem we_joined1 {e : Expr} {m : ME} (h : WE X nm E e m) : WE X nm E (.JoinedStr [e] pos) m := pe_joined1 h

/-! ### int -/
theorem digitsVal_of : ∀ (z : List Nat) (a b : Nat), dval z a = some b → NumText.AllDigits z ∧ z.foldl (fun acc c => acc * 10 + (c - 48)) a = b
  | [], a, b, h => by cases h; exact ⟨fun c hc => absurd hc List.not_mem_nil, rfl⟩
  | c :: r, a, b, h => by
    have h' : (if Nat.ble 48 c && Nat.ble c 57 then dval r (a * 10 + (c - 48)) else none) = some b := h
    cases g : (Nat.ble 48 c && Nat.ble c 57) with
    | false => rw [g] at h'; cases h'
    | true =>
      rw [g] at h'
      obtain ⟨g1, g2⟩ := Bool.and_eq_true_iff.mp g
      obtain ⟨h1, h2⟩ := digitsVal_of r (a * 10 + (c - 48)) b h'
      refine ⟨fun x hx => ?_, h2⟩
      rcases List.mem_cons.mp hx with z | z
      · subst z
        exact ⟨Nat.le_of_ble_eq_true g1, Nat.le_of_ble_eq_true g2⟩
      · exact h1 x z
end
end MW
set_option Elab.async false
set_option linter.all false
set_option maxRecDepth 100000
set_option maxHeartbeats 2000000
/-! MR7: int of texts, methods of built-in things, attributes, own methods, making of objects, comprehensions. -/
namespace MW
open PySem PySem.Spec PyProof.Rows L2 Mir
section
variable {X : Cx} {nm : Nm} {E : XK} {pos p : Pos}
theorem cw_int : CallR X (.type "int") (lC (tb X nm) fInt E) := by
  rintro pins s σ H xs us Q I r ⟨w, a, rfl, o, rv, h⟩
  cases a with
  | nil => exact h.elim
  | cons y t => cases t with
    | cons _ _ => cases y <;> exact h.elim
    | nil =>
      obtain ⟨v, rfl, ry⟩ := rels1 rv
      cases y with
      | int i =>
        cases ry.int_inv
        exact call_int1 pins s σ _ _ us Q I r (.inl ⟨i, rfl, PostG.val o h (.int _)⟩)
      | bl b =>
        cases ry.bl_inv
        exact call_int1 pins s σ _ _ us Q I r (.inr ⟨b, rfl, PostG.val o h (.int _)⟩)
      | str z =>
        obtain ⟨x1, rfl, e1, k1⟩ := ry.str_inv
        have h' : PostG (tb X nm) w (if Nat.ble z.length 100 then oks ((textInt z).map .int) w.S else .bad) (QW (tb X nm) Q) E := h
        cases g : Nat.ble z.length 100 with
        | false => rw [g] at h'; exact h'.elim
        | true =>
          rw [g] at h'
          have hl : x1.length ≤ 640 := by rw [str_len e1]; exact Nat.le_trans (Nat.le_of_ble_eq_true g) (by decide)
          have h2 : PostG (tb X nm) w (oks ((textInt z).map .int) w.S) (QW (tb X nm) Q) E := h'
          cases g2 : textInt z with
          | none => rw [g2] at h2; exact h2.elim
          | some n =>
            rw [g2] at h2
            refine call_int_str pins s σ _ _ us Q I r ⟨x1, n, rfl, ?_, hl, PostG.val o h2 (.int _)⟩
            have e1' : x1.cps.toList = z := e1
            have pl : ∀ z : List Nat, x1.cps.toList = z → z ≠ [] → (dval z 0).map (fun n => (n : Int)) = some n → intText? x1 = some n := by
              intro z ez hne hd
              cases g3 : dval z 0 with
              | none => rw [g3] at hd; cases hd
              | some m =>
                rw [g3] at hd
                cases hd
                obtain ⟨a1, a2⟩ := digitsVal_of z 0 m g3
                rw [PySem.intText_digits (by rw [ez]; exact a1) (by rw [ez]; exact hne) (by omega), ez]
                show some ((z.foldl _ 0 : Nat) : Int) = _
                rw [a2]
            cases z with
            | nil => cases g2
            | cons c z' =>
              by_cases hc : c = 45
              · subst hc
                cases z' with
                | nil => cases g2
                | cons c2 z2 =>
                  have g4 : (dval (c2 :: z2) 0).map (fun n => -(n : Int)) = some n := g2
                  cases g3 : dval (c2 :: z2) 0 with
                  | none => rw [g3] at g4; cases g4
                  | some m =>
                    rw [g3] at g4
                    cases g4
                    obtain ⟨a1, a2⟩ := digitsVal_of (c2 :: z2) 0 m g3
                    rw [PySem.intText_neg e1' a1 (by simp) (by omega)]
                    show some (-(((c2 :: z2).foldl _ 0 : Nat) : Int)) = _
                    rw [a2]
              · refine pl (c :: z') e1' (by simp) ?_
                have e5 : textInt (c :: z') = (dval (c :: z') 0).map fun n => (n : Int) := by
                  unfold textInt
                  split
                  · rename_i h; cases h
                  · rename_i r' h; cases h; exact absurd rfl hc
                  · rfl
                rw [← e5]
                exact g2
      | _ => exact h.elim

/-! ### methods of built-in things -/
def lM (T : Tab) (f : Mir.W → List Mir.W → Store → Out Mir.W) (E : XK) : V → List V → Hp → VK → Prop := fun x xs H Q => ∃ w a as, w.H = H ∧ Ok T w ∧ w.rel T a x ∧ w.rels T as xs ∧ PostG T w (f a as w.S) (QW T Q) E
theorem isL_ty {T : Tab} {w : Wd} (o : Ok T w) {x : Mir.W} {v : V} (h : isL x w.S = true) (rv : w.rel T x v) : tyV T.K "list" v w.H := by
  cases x with
  | lst xs =>
    obtain ⟨a, vs, rfl, g, _⟩ := rv.lst_inv
    exact .inl ⟨rfl, vs, SqL.of (o.ex _ _ g)⟩
  | ref n =>
    have h' : (match w.S.get n with | some (.lst _) => true | _ => false) = true := h
    cases q : w.S.get n with
    | none => rw [q] at h'; cases h'
    | some so =>
      rw [q] at h'
      cases so with
      | lst ys =>
        obtain ⟨a, vs, rfl, _, _, h3, _⟩ := o.lstAt q rv
        exact .inl ⟨rfl, vs, SqL.of h3⟩
      | dct _ => cases h'
      | ins _ _ => cases h'
  | _ => cases h
theorem we_mtL {name : Str} {id : String} {f : Mir.W → List Mir.W → Store → Out Mir.W} {o e : Expr} {es : List Expr} {mo : ME} {ma : MA} {apos cpos : Pos} (slot : Slot "list" name id) (hty : typeOf (.builtin id) = pure (.type "method_descriptor")) (hm : MtR X id (lM (tb X nm) f E)) (ho : WE X nm E o mo) (ha : WA X nm E (e :: es) ma)
    (hbase : attributeBase o name X.env (eval o X.env) = eval o X.env := by rfl)
    (hfew : ((backTo cpos (starEach (e :: es) X.env)).all (fun x => !x.1) && (backToKw cpos (keywordEach [] X.env)).all (fun x => x.1.isSome)
      && decide ((e :: es).length + ([] : List Keyword).length + (if ([] : List Keyword).isEmpty then 0 else 1) < 30)) = true := by rfl)
    (hline : (apos.endLine == cpos.line) = true := by rfl) (hs : starEach (e :: es) X.env = (false, eval e X.env) :: starEach es X.env := by rfl) (hplain : (backTo cpos (starEach es X.env)).any (·.1) = false := by rfl) :
    WE X nm E (.Call (.Attribute o name apos) (e :: es) [] cpos) (eMtL f mo ma) :=
  pe_imp (pe_bm PySem.F.plainAttrs_list slot hty hm ho ha hbase hfew hline hs hplain) fun σ H Q ⟨w, d, eH, o, re, h⟩ => by
    subst eH
    refine lE_imp (lE_bind o re h) ?_
    rintro x H1 ⟨w1, a', rfl, o1, x1, re1, ra, h1⟩
    cases g : isL a' w1.S with
    | false => rw [g] at h1; exact h1.elim
    | true =>
      rw [g] at h1
      refine ⟨isL_ty o1 g ra, lA_imp (lA_bind o1 re1 h1) ?_⟩
      rintro vs H2 ⟨w2, xs, rfl, o2, x2, re2, rv, h2⟩
      exact ⟨w2, a', xs, rfl, o2, ra.mono x2.le x2.ex, rv, h2⟩
theorem we_mtL0 {name : Str} {id : String} {f : Mir.W → List Mir.W → Store → Out Mir.W} {o : Expr} {mo : ME} {apos cpos : Pos} (slot : Slot "list" name id) (hty : typeOf (.builtin id) = pure (.type "method_descriptor")) (hm : MtR X id (lM (tb X nm) f E)) (ho : WE X nm E o mo)
    (hbase : attributeBase o name X.env (eval o X.env) = eval o X.env := by rfl) (hline : (apos.endLine == cpos.line) = true := by rfl) :
    WE X nm E (.Call (.Attribute o name apos) [] [] cpos) (eMtL f mo aNil) :=
  pe_imp (pe_bm0 PySem.F.plainAttrs_list slot hty hm ho hbase hline) fun σ H Q ⟨w, d, eH, o, re, h⟩ => by
    subst eH
    refine lE_imp (lE_bind o re h) ?_
    rintro x H1 ⟨w1, a', rfl, o1, x1, re1, ra, h1⟩
    cases g : isL a' w1.S with
    | false => rw [g] at h1; exact h1.elim
    | true =>
      rw [g] at h1
      exact ⟨isL_ty o1 g ra, w1, a', [], rfl, o1, ra, .nil, h1⟩
theorem we_mtS {name : Str} {id : String} {f : Mir.W → List Mir.W → Store → Out Mir.W} {o e : Expr} {es : List Expr} {mo : ME} {ma : MA} {apos cpos : Pos} (slot : Slot "str" name id) (hty : typeOf (.builtin id) = pure (.type "method_descriptor")) (hm : MtR X id (lM (tb X nm) f E)) (ho : WE X nm E o mo) (ha : WA X nm E (e :: es) ma)
    (hbase : attributeBase o name X.env (eval o X.env) = eval o X.env := by rfl)
    (hfew : ((backTo cpos (starEach (e :: es) X.env)).all (fun x => !x.1) && (backToKw cpos (keywordEach [] X.env)).all (fun x => x.1.isSome)
      && decide ((e :: es).length + ([] : List Keyword).length + (if ([] : List Keyword).isEmpty then 0 else 1) < 30)) = true := by rfl)
    (hline : (apos.endLine == cpos.line) = true := by rfl) (hs : starEach (e :: es) X.env = (false, eval e X.env) :: starEach es X.env := by rfl) (hplain : (backTo cpos (starEach es X.env)).any (·.1) = false := by rfl) :
    WE X nm E (.Call (.Attribute o name apos) (e :: es) [] cpos) (eMtS f mo ma) :=
  pe_imp (pe_bm PySem.F.plainAttrs_str slot hty hm ho ha hbase hfew hline hs hplain) fun σ H Q ⟨w, d, eH, o, re, h⟩ => by
    subst eH
    refine lE_imp (lE_bind o re h) ?_
    rintro x H1 ⟨w1, a', rfl, o1, x1, re1, ra, h1⟩
    cases g : isS a' with
    | false => rw [g] at h1; exact h1.elim
    | true =>
      rw [g] at h1
      have ht : tyV X.K "str" x w1.H := by
        cases a' with
        | str z => obtain ⟨x1, rfl, _⟩ := ra.str_inv; exact rfl
        | _ => cases g
      refine ⟨ht, lA_imp (lA_bind o1 re1 h1) ?_⟩
      rintro vs H2 ⟨w2, xs, rfl, o2, x2, re2, rv, h2⟩
      exact ⟨w2, a', xs, rfl, o2, ra.mono x2.le x2.ex, rv, h2⟩
/-- a list of the store is changed -/
theorem put_lst {T : Tab} {w : Wd} {n : Nat} {a : Addr} {ys : List Mir.W} {us : List V} {x : Mir.W} {v : V} {Q : VK} (o : Ok T w) (ha : At w n a) (q : w.rels T ys us) (rx : w.rel T x v) (h : PostG T w (.ok x (w.S.put n (.lst ys))) (QW T Q) E) : Q v (upd w.H a (.lst us)) :=
  h (w.put n a (.lst ys) (.lst us)) (o.put ha ⟨us, rfl, q⟩) (Ext.put ha) rfl v rx
theorem mw_append : MtR X "list.append" (lM (tb X nm) (m1 mAppend) E) := by
  rintro pins s σ H x xs v us Q I rx rs ⟨w, a, as, rfl, o, ra, rv, h⟩
  cases as with
  | nil => exact h.elim
  | cons y t => cases t with
    | cons _ _ => exact h.elim
    | nil =>
      obtain ⟨vy, rfl, ry⟩ := rels1 rv
      cases a with
      | ref n =>
        have h' : PostG (tb X nm) w (match w.S.get n with | some (.lst xs) => if Nat.blt xs.length LIM then .ok .non (w.S.put n (.lst (xs ++ [y]))) else .bad | _ => .bad) (QW (tb X nm) Q) E := h
        cases g : w.S.get n with
        | none => rw [g] at h'; exact h'.elim
        | some so =>
          rw [g] at h'
          cases so with
          | lst ys =>
            obtain ⟨p, vs, rfl, at_, _, h3, q⟩ := o.lstAt g ra
            have h2 : PostG (tb X nm) w (if Nat.blt ys.length LIM then .ok .non (w.S.put n (.lst (ys ++ [y]))) else .bad) (QW (tb X nm) Q) E := h'
            cases g2 : Nat.blt ys.length LIM with
            | false => rw [g2] at h2; exact h2.elim
            | true =>
              rw [g2] at h2
              refine mt_append pins s σ _ _ _ v us Q I rx rs ⟨p, vs, vy, rfl, rfl, h3, ?_, put_lst o at_ (q.append (.cons ry .nil)) .non h2⟩
              rw [← q.length]
              exact Nat.lt_of_lt_of_le (Nat.le_of_ble_eq_true g2) (by decide)
          | dct _ => exact h'.elim
          | ins _ _ => exact h'.elim
      | _ => exact h.elim
theorem mw_pop : MtR X "list.pop" (lM (tb X nm) (m0 mPop) E) := by
  rintro pins s σ H x xs v us Q I rx rs ⟨w, a, as, rfl, o, ra, rv, h⟩
  cases as with
  | cons _ _ => exact h.elim
  | nil =>
    cases rv
    cases a with
    | ref n =>
      have h' : PostG (tb X nm) w (match w.S.get n with | some (.lst xs) => (match xs.getLast? with | some y => .ok y (w.S.put n (.lst xs.dropLast)) | none => .bad) | _ => .bad) (QW (tb X nm) Q) E := h
      cases g : w.S.get n with
      | none => rw [g] at h'; exact h'.elim
      | some so =>
        rw [g] at h'
        cases so with
        | lst ys =>
          obtain ⟨p, vs, rfl, at_, _, h3, q⟩ := o.lstAt g ra
          have h2 : PostG (tb X nm) w (match ys.getLast? with | some y => .ok y (w.S.put n (.lst ys.dropLast)) | none => .bad) (QW (tb X nm) Q) E := h'
          cases g2 : ys.getLast? with
          | none => rw [g2] at h2; exact h2.elim
          | some y =>
            rw [g2] at h2
            rw [List.getLast?_eq_getElem?] at g2
            obtain ⟨vy, e1, ry⟩ := q.get g2
            refine mt_pop pins s σ _ _ _ v us Q I rx rs ⟨p, vs, vy, rfl, rfl, h3, ?_, put_lst o at_ q.dropLast ry h2⟩
            rw [← q.length]
            exact e1
        | dct _ => exact h'.elim
        | ins _ _ => exact h'.elim
    | _ => exact h.elim
theorem mw_popAt : MtR X "list.pop" (lM (tb X nm) (m1 mPopAt) E) := by
  rintro pins s σ H x xs v us Q I rx rs ⟨w, a, as, rfl, o, ra, rv, h⟩
  cases as with
  | nil => exact h.elim
  | cons y t => cases t with
    | cons _ _ => exact h.elim
    | nil =>
      obtain ⟨vy, rfl, ry⟩ := rels1 rv
      cases a with
      | ref n =>
        have h' : PostG (tb X nm) w (match w.S.get n with | some (.lst xs) => (match y with | .int i => (match Mir.ixN xs.length i with | some j => (match xs[j]? with | some y => .ok y (w.S.put n (.lst (xs.eraseIdx j))) | none => .bad) | none => .bad) | _ => .bad) | _ => .bad) (QW (tb X nm) Q) E := h
        cases g : w.S.get n with
        | none => rw [g] at h'; exact h'.elim
        | some so =>
          rw [g] at h'
          cases so with
          | lst ys =>
            obtain ⟨p, vs, rfl, at_, _, h3, q⟩ := o.lstAt g ra
            cases y with
            | int i =>
              cases ry.int_inv
              have h2 : PostG (tb X nm) w (match Mir.ixN ys.length i with | some j => (match ys[j]? with | some y => .ok y (w.S.put n (.lst (ys.eraseIdx j))) | none => .bad) | none => .bad) (QW (tb X nm) Q) E := h'
              cases g2 : Mir.ixN ys.length i with
              | none => rw [g2] at h2; exact h2.elim
              | some j =>
                rw [g2] at h2
                have h4 : PostG (tb X nm) w (match ys[j]? with | some y => .ok y (w.S.put n (.lst (ys.eraseIdx j))) | none => .bad) (QW (tb X nm) Q) E := h2
                cases g3 : ys[j]? with
                | none => rw [g3] at h4; exact h4.elim
                | some y =>
                  rw [g3] at h4
                  obtain ⟨vy, e1, ry⟩ := q.get g3
                  rw [ixN_eq] at g2
                  obtain ⟨k1, k2, k3, k4⟩ := ixN_seq g2
                  have hz : ys.length ≤ sizeLine := by
                    rw [q.length]
                    exact (I.lstM h3).1
                  have hz' : (sizeLine : Int) < 2 ^ 63 := by rw [sizeLine_eq]; decide
                  refine mt_popAt pins s σ _ _ _ v us Q I rx rs ⟨p, vs, i, j, vy, rfl, rfl, h3, by omega, by omega, by rw [← q.length]; exact k1, e1, put_lst o at_ (q.eraseIdx j) ry h4⟩
            | _ => exact h'.elim
          | dct _ => exact h'.elim
          | ins _ _ => exact h'.elim
      | _ => exact h.elim
end
end MW
set_option Elab.async false
set_option linter.all false
set_option maxRecDepth 100000
set_option maxHeartbeats 2000000
/-! MR8: split, join, extend, stores by index, attributes, own methods, making of objects, isinstance, comprehensions. -/
namespace MW
open PySem PySem.Spec PyProof.Rows L2 Mir
section
variable {X : Cx} {nm : Nm} {E : XK} {pos p : Pos}
/-! ### texts -/
theorem spl1_eq (c : Nat) : ∀ (z acc : List Nat), spl1 c acc z = TL.spl [c] 0 acc.reverse z
  | [], acc => by rw [TL.spl_nil] <;> rfl
  | x :: r, acc => by
    have e : spl1 c acc (x :: r) = if Nat.beq x c then acc.reverse :: spl1 c [] r else spl1 c (x :: acc) r := rfl
    rw [e]
    cases h : Nat.beq x c with
    | true =>
      have := Nat.eq_of_beq_eq_true h
      subst this
      rw [if_pos rfl, TL.spl_hit (by simp [TL.pre]), spl1_eq x r []]
      rfl
    | false =>
      have hne : x ≠ c := Nat.ne_of_beq_eq_false h
      rw [if_neg (by decide), TL.spl_miss (TL.pre_of_head [] r hne), spl1_eq c r (x :: acc), List.reverse_cons]
theorem spl1_sub (c : Nat) : ∀ (z acc : List Nat), (∀ p ∈ spl1 c acc z, (∀ x ∈ p, x ∈ z ∨ x ∈ acc) ∧ p.length ≤ z.length + acc.length) ∧ (spl1 c acc z).length ≤ z.length + 1
  | [], acc => ⟨fun p hp => by
      have hp' : p = acc.reverse := by simpa [spl1] using hp
      subst hp'
      exact ⟨fun x hx => .inr (List.mem_reverse.mp hx), by rw [List.length_reverse]; omega⟩, by simp [spl1]⟩
  | y :: r, acc => by
    have e : spl1 c acc (y :: r) = if Nat.beq y c then acc.reverse :: spl1 c [] r else spl1 c (y :: acc) r := rfl
    rw [e]
    cases h : Nat.beq y c with
    | true =>
      rw [if_pos rfl]
      obtain ⟨h1, h2⟩ := spl1_sub c r []
      refine ⟨fun p hp => ?_, by rw [List.length_cons, List.length_cons]; omega⟩
      rcases List.mem_cons.mp hp with z | z
      · subst z
        exact ⟨fun x hx => .inr (List.mem_reverse.mp hx), by rw [List.length_reverse, List.length_cons]; omega⟩
      · obtain ⟨a, b⟩ := h1 p z
        refine ⟨fun x hx => ?_, by rw [List.length_cons]; simp at b; omega⟩
        rcases a x hx with q | q
        · exact .inl (List.mem_cons_of_mem _ q)
        · exact absurd q List.not_mem_nil
    | false =>
      rw [if_neg (by decide)]
      obtain ⟨h1, h2⟩ := spl1_sub c r (y :: acc)
      refine ⟨fun p hp => ?_, by rw [List.length_cons]; omega⟩
      obtain ⟨a, b⟩ := h1 p hp
      refine ⟨fun x hx => ?_, by rw [List.length_cons] at b ⊢; omega⟩
      rcases a x hx with q | q
      · exact .inl (List.mem_cons_of_mem _ q)
      · rcases List.mem_cons.mp q with q | q
        · exact .inl (by rw [q]; exact List.mem_cons_self)
        · exact .inr q
theorem strs_rel {T : Tab} {w : Wd} : ∀ (ps : List (List Nat)) (ys : List Str), ys.map TL.tl = ps → (∀ p ∈ ps, okS p = true) → w.rels T (ps.map .str) (ys.map V.str)
  | ps, [], e, _ => by cases e; exact .nil
  | ps, y :: ys, e, h => by
    cases e
    exact .cons (.str rfl (h _ List.mem_cons_self)) (strs_rel _ ys rfl fun p hp => h p (List.mem_cons_of_mem _ hp))
theorem mw_split : MtR X "str.split" (lM (tb X nm) (m1 mSplit) E) := by
  rintro pins s σ H x xs v us Q I rx rs ⟨w, a, as, rfl, o, ra, rv, h⟩
  cases as with
  | nil => exact h.elim
  | cons y t => cases t with
    | cons _ _ => exact h.elim
    | nil =>
      obtain ⟨vy, rfl, ry⟩ := rels1 rv
      cases a with
      | str z =>
        cases y with
        | str q =>
          cases q with
          | nil => exact h.elim
          | cons c q => cases q with
            | cons _ _ => exact h.elim
            | nil =>
              obtain ⟨x1, rfl, e1, k1⟩ := ra.str_inv
              obtain ⟨x2, rfl, e2, k2⟩ := ry.str_inv
              have h2 : PostG (tb X nm) w (if Nat.ble z.length LIM && Nat.blt c 128 then .ok (.lst ((spl1 c [] z).map .str)) w.S else .bad) (QW (tb X nm) Q) E := h
              cases g : (Nat.ble z.length LIM && Nat.blt c 128) with
              | false => rw [g] at h2; exact h2.elim
              | true =>
                rw [g] at h2
                have hx2 : x2.length = 1 := by rw [str_len e2] <;> rfl
                have ek : ¬ Builtin.Str.strKind x1 < Builtin.Str.strKind x2 := TL.kind_ok (by
                  rw [Array.all_eq_true']
                  intro d hd
                  have : d ∈ [c] := by rw [← e2]; simpa [TL.tl] using hd
                  exact decide_eq_true (Nat.lt_trans (okS_asc k2 d this) (by decide)))
                have es : (Txt.split x1 x2).map TL.tl = spl1 c [] z := by
                  rw [TL.split_spl x1 x2 (by rw [e2]; simp) ek, e1, e2, spl1_eq]
                  rfl
                refine mt_split pins s σ _ _ _ v us Q I rx rs ⟨x1, x2, rfl, rfl, by rw [hx2] <;> rfl, ?_, fun p hp => ?_⟩
                · rw [str_len e1]
                  exact Nat.le_trans (Nat.add_le_add_right (okS_len k1) 2) (by decide)
                · have hr : w.rels (tb X nm) ((spl1 c [] z).map .str) ((Txt.split x1 x2).map V.str) := strs_rel _ _ es fun q hq => by
                    obtain ⟨b1, b2⟩ := (spl1_sub c z []).1 q hq
                    exact okS_sub k1 (fun d hd => (b1 d hd).elim id fun z => absurd z List.not_mem_nil) (by simpa using b2)
                  exact h2 (w.layF p (.lst ((Txt.split x1 x2).map V.str))) (o.layF hp) (Ext.layF o hp) rfl (.ref p) (.lst (by show upd w.G p _ p = _; exact upd_same) (hr.mono (Ext.layF o hp).le (Ext.layF o hp).ex))
        | _ => exact h.elim
      | _ => exact h.elim
theorem joinL_eq (S : List Nat) : ∀ ps : List (List Nat), Mir.joinL S ps = TL.joinL S ps
  | [] => rfl
  | [_] => rfl
  | p :: q :: r => by
    show p ++ (S ++ Mir.joinL S (q :: r)) = p ++ (S ++ TL.joinL S (q :: r))
    rw [joinL_eq S (q :: r)]
theorem strsOf_rel {T : Tab} {w : Wd} : ∀ {ys : List Mir.W} {vs : List V} {ss : List (List Nat)}, strsOf ys = some ss → w.rels T ys vs → ∃ zs : List Str, vs = zs.map V.str ∧ zs.map TL.tl = ss ∧ ∀ p ∈ ss, okS p = true
  | [], vs, ss, e, q => by cases q; cases e; exact ⟨[], rfl, rfl, fun p hp => absurd hp List.not_mem_nil⟩
  | y :: ys, vs, ss, e, q => by
    cases q with
    | cons h q =>
      cases y with
      | str z =>
        have e' : (strsOf ys).map (z :: ·) = some ss := e
        cases g : strsOf ys with
        | none => rw [g] at e'; cases e'
        | some r =>
          rw [g] at e'
          cases e'
          obtain ⟨zs, h1, h2, h3⟩ := strsOf_rel g q
          obtain ⟨x, rfl, e1, k1⟩ := h.str_inv
          exact ⟨x :: zs, by rw [h1] <;> rfl, by rw [List.map_cons, h2, e1], fun p hp => (List.mem_cons.mp hp).elim (fun z => by rw [z]; exact k1) (h3 p)⟩
      | _ => cases e
theorem joinL_mem (S : List Nat) : ∀ (ps : List (List Nat)) (c : Nat), c ∈ Mir.joinL S ps → c ∈ S ∨ ∃ p ∈ ps, c ∈ p
  | [], c, h => absurd h List.not_mem_nil
  | [p], c, h => .inr ⟨p, List.mem_cons_self, h⟩
  | p :: q :: r, c, h => by
    have h' : c ∈ p ++ (S ++ Mir.joinL S (q :: r)) := h
    rcases List.mem_append.mp h' with z | z
    · exact .inr ⟨p, List.mem_cons_self, z⟩
    · rcases List.mem_append.mp z with z | z
      · exact .inl z
      · rcases joinL_mem S (q :: r) c z with y | ⟨y, hy, hc⟩
        · exact .inl y
        · exact .inr ⟨y, List.mem_cons_of_mem _ hy, hc⟩
theorem joinL_len (S : List Nat) : ∀ (ps : List (List Nat)), (ps.map List.length).sum + ps.length * S.length ≤ (Mir.joinL S ps).length + S.length
  | [] => by simp [Mir.joinL]
  | [p] => by simp [Mir.joinL]
  | p :: q :: r => by
    have ih := joinL_len S (q :: r)
    show _ ≤ (p ++ (S ++ Mir.joinL S (q :: r))).length + S.length
    simp only [List.length_append, List.map_cons, List.sum_cons, List.length_cons] at ih ⊢
    rw [Nat.add_mul, Nat.one_mul] at ih ⊢
    rw [Nat.add_mul, Nat.one_mul]
    generalize r.length * S.length = t at ih ⊢
    omega
theorem mw_join : MtR X "str.join" (lM (tb X nm) (m1 mJoin) E) := by
  rintro pins s σ H x xs v us Q I rx rs ⟨w, a, as, rfl, o, ra, rv, h⟩
  cases as with
  | nil => exact h.elim
  | cons y t => cases t with
    | cons _ _ => exact h.elim
    | nil =>
      obtain ⟨vy, rfl, ry⟩ := rels1 rv
      cases a with
      | str z =>
        obtain ⟨x1, rfl, e1, k1⟩ := ra.str_inv
        have h2 : PostG (tb X nm) w (match seqOf w.S y with | some ys => (match strsOf ys with | some ss => if Nat.ble ((Mir.joinL z ss).length) LIM then .ok (.str (Mir.joinL z ss)) w.S else .bad | none => .bad) | none => .bad) (QW (tb X nm) Q) E := h
        cases g : seqOf w.S y with
        | none => rw [g] at h2; exact h2.elim
        | some ys =>
          rw [g] at h2
          have h3 : PostG (tb X nm) w (match strsOf ys with | some ss => if Nat.ble ((Mir.joinL z ss).length) LIM then .ok (.str (Mir.joinL z ss)) w.S else .bad | none => .bad) (QW (tb X nm) Q) E := h2
          cases g2 : strsOf ys with
          | none => rw [g2] at h3; exact h3.elim
          | some ss =>
            rw [g2] at h3
            have h4 : PostG (tb X nm) w (if Nat.ble ((Mir.joinL z ss).length) LIM then .ok (.str (Mir.joinL z ss)) w.S else .bad) (QW (tb X nm) Q) E := h3
            cases g3 : Nat.ble ((Mir.joinL z ss).length) LIM with
            | false => rw [g3] at h4; exact h4.elim
            | true =>
              rw [g3] at h4
              obtain ⟨p, vs, rfl, sq, q⟩ := o.seq g ry
              obtain ⟨zs, rfl, b1, b2⟩ := strsOf_rel g2 q
              have hl : (Mir.joinL z ss).length ≤ LIM := Nat.le_of_ble_eq_true g3
              refine mt_join pins s σ _ _ _ v us Q I rx rs ⟨x1, p, zs, rfl, rfl, sq, ?_, PostG.val o h4 (.str ?_ ?_)⟩
              · have hj := joinL_len z ss
                have e5 : (zs.map (·.length)) = ss.map List.length := by
                  rw [← b1, List.map_map]
                  exact List.map_congr_left fun y _ => TL.len_tl y
                have e6 : zs.length = ss.length := by rw [← b1, List.length_map]
                rw [e5, e6, str_len e1]
                have := okS_len k1
                have : LIM + LIM ≤ 16777216 := by decide
                omega
              · rw [TL.join_eq, TL.tl_join, e1, b1, joinL_eq]
              · refine okS_mk (fun c hc => ?_) hl
                rcases joinL_mem z ss c hc with y | ⟨y, hy, hc'⟩
                · exact okS_asc k1 c y
                · exact okS_asc (b2 y hy) c hc'
      | _ => exact h.elim
theorem mw_extend : MtR X "list.extend" (lM (tb X nm) (m1 mExtend) E) := by
  rintro pins s σ H x xs v us Q I rx rs ⟨w, a, as, rfl, o, ra, rv, h⟩
  cases as with
  | nil => exact h.elim
  | cons y t => cases t with
    | cons _ _ => exact h.elim
    | nil =>
      obtain ⟨vy, rfl, ry⟩ := rels1 rv
      cases a with
      | ref n =>
        have h' : PostG (tb X nm) w (match w.S.get n with | some (.lst xs) => (match rd w.S y with | .lst ys => if Nat.ble (xs.length + ys.length) LIM then .ok .non (w.S.put n (.lst (xs ++ ys))) else .bad | _ => .bad) | _ => .bad) (QW (tb X nm) Q) E := h
        cases g : w.S.get n with
        | none => rw [g] at h'; exact h'.elim
        | some so =>
          rw [g] at h'
          cases so with
          | lst zs =>
            obtain ⟨p, vs, rfl, at_, _, h3, q⟩ := o.lstAt g ra
            have h2 : PostG (tb X nm) w (match rd w.S y with | .lst ys => if Nat.ble (zs.length + ys.length) LIM then .ok .non (w.S.put n (.lst (zs ++ ys))) else .bad | _ => .bad) (QW (tb X nm) Q) E := h'
            cases g2 : rd w.S y with
            | lst ys =>
              rw [g2] at h2
              obtain ⟨p2, us2, rfl, g4, q2⟩ := o.lst g2 ry
              have h4 : PostG (tb X nm) w (if Nat.ble (zs.length + ys.length) LIM then .ok .non (w.S.put n (.lst (zs ++ ys))) else .bad) (QW (tb X nm) Q) E := h2
              cases g3 : Nat.ble (zs.length + ys.length) LIM with
              | false => rw [g3] at h4; exact h4.elim
              | true =>
                rw [g3] at h4
                exact mt_extend pins s σ _ _ _ v us Q I rx rs ⟨p, p2, vs, us2, rfl, rfl, h3, g4, by rw [← q.length, ← q2.length]; exact lim_size g3, put_lst o at_ (q.append q2) .non h4⟩
            | _ => rw [g2] at h2; exact h2.elim
          | dct _ => exact h'.elim
          | ins _ _ => exact h'.elim
      | _ => exact h.elim

/-! ### xs[i] = e -/
theorem ws_idx {o i e : Expr} {mo mi me : ME} {pos' : Pos} (ho : WE X nm E o mo) (hi : WE X nm E i mi) (he : WE X nm E e me)
    (ha : ∀ v, assign (.Subscript o i pos') X.env v = (do
      let ov ← holding [v] (eval o X.env)
      let iv ← holding [v, ov] (eval i X.env)
      standAt pos'
      holding [v, ov, iv] (setItem ov iv v)
      release [v, ov, iv] []) := by intro _; rfl)
    (hs : swapsWithSole [.Subscript o i pos'] e pos.line X.env = pure false := by rfl) (hw : swappedStores [.Subscript o i pos'] e X.env = pure none := by rfl)
    (h1 : (assignEach [.Subscript o i pos'] X.env).map (·.2) = [assign (.Subscript o i pos') X.env] := by rfl) : WS X nm E (.Assign [.Subscript o i pos'] e pos) (sIdx mo mi me) :=
  ps_imp (ps_asg he (pg_sub ho hi set_list ha) hs hw h1) fun D σ H ⟨w, d, eH, ok, re, h⟩ => by
    subst eH
    refine lE_imp (lE_bind ok re h) ?_
    rintro v H1 ⟨w1, x, rfl, o1, x1, re1, rv, h1⟩
    refine lE_imp (lE_bind o1 re1 h1) ?_
    rintro vo H2 ⟨w2, xo, rfl, o2, x2, re2, ro, h2⟩
    refine lE_imp (lE_bind o2 re2 h2) ?_
    rintro vi H3 ⟨w3, xi, rfl, o3, x3, re3, ri, h3⟩
    have rv3 : w3.rel (tb X nm) x v := (rv.mono x2.le x2.ex).mono x3.le x3.ex
    have ro3 : w3.rel (tb X nm) xo vo := ro.mono x3.le x3.ex
    cases xo with
    | ref n =>
      cases g : w3.S.get n with
      | none =>
        have z : setIdx (.ref n) xi x w3.S = none := by show (match w3.S.get n with | some (.lst xs) => _ | _ => none) = none; rw [g]
        rw [z] at h3
        exact h3.elim
      | some so =>
        cases so with
        | lst ys =>
          cases xi with
          | int k =>
            cases g2 : Mir.ixN ys.length k with
            | none =>
              have z : setIdx (.ref n) (.int k) x w3.S = none := by
                show (match w3.S.get n with | some (.lst xs) => (match Mir.ixN xs.length k with | some j => some (w3.S.put n (.lst (xs.set j x))) | none => none) | _ => none) = none
                rw [g]
                show (match Mir.ixN ys.length k with | some j => some (w3.S.put n (.lst (ys.set j x))) | none => none) = none
                rw [g2]
              rw [z] at h3
              exact h3.elim
            | some j =>
              have z : setIdx (.ref n) (.int k) x w3.S = some (w3.S.put n (.lst (ys.set j x))) := by
                show (match w3.S.get n with | some (.lst xs) => (match Mir.ixN xs.length k with | some j => some (w3.S.put n (.lst (xs.set j x))) | none => none) | _ => none) = _
                rw [g]
                show (match Mir.ixN ys.length k with | some j => some (w3.S.put n (.lst (ys.set j x))) | none => none) = _
                rw [g2]
              rw [z] at h3
              obtain ⟨p, vs, rfl, at_, _, h5, q⟩ := o3.lstAt g ro3
              cases ri.int_inv
              exact ⟨p, vs, k, j, rfl, rfl, h5, by rw [← q.length]; exact g2, h3 (w3.put n p (.lst (ys.set j x)) (.lst (vs.set j v))) (o3.put at_ ⟨_, rfl, q.set j rv3⟩) (Ext.put at_) rfl σ re3⟩
          | _ =>
            exfalso
            have z : ∀ y, (∀ k, y ≠ Mir.W.int k) → setIdx (.ref n) y x w3.S = none := by
              intro y hy
              show (match w3.S.get n with | some (.lst xs) => (match y with | .int i => (match Mir.ixN xs.length i with | some j => some (w3.S.put n (.lst (xs.set j x))) | none => none) | _ => none) | _ => none) = none
              rw [g]
              cases y <;> first | rfl | exact absurd rfl (hy _)
            rw [z _ (by intro k e; cases e)] at h3
            exact h3
        | dct _ =>
          have z : setIdx (.ref n) xi x w3.S = none := by show (match w3.S.get n with | some (.lst xs) => _ | _ => none) = none; rw [g]
          rw [z] at h3
          exact h3.elim
        | ins _ _ =>
          have z : setIdx (.ref n) xi x w3.S = none := by show (match w3.S.get n with | some (.lst xs) => _ | _ => none) = none; rw [g]
          rw [z] at h3
          exact h3.elim
    | _ => exact h3.elim
end
end MW
set_option Elab.async false
set_option linter.all false
set_option maxRecDepth 100000
set_option maxHeartbeats 2000000
/-! MR9: attributes, own methods, making of objects, isinstance, comprehensions. -/
namespace MW
open PySem PySem.Spec PyProof.Rows L2 Mir
/-! ### fields by numbers and by names -/
section
variable {T : Tab} {r : Nat → Option Addr} {G : Hp}
theorem an_inj (T : Tab) {k j : Nat} {x : Str} (a : T.nm.an[k]? = some x) (b : T.nm.an[j]? = some x) : k = j := nodup_ix T.nm.nd a b
theorem RelFs.look {ws : List (Nat × Mir.W)} {fs : List (Str × V)} (h : RelFs T r G ws fs) {k : Nat} {f : Str} (hf : T.nm.an[k]? = some f) {x : Mir.W} (e : mapTo ws k = some x) : ∃ v, fs.lookup f = some v ∧ RelW T r G x v := by
  induction ws generalizing fs with
  | nil => cases e
  | cons p ws ih =>
    obtain ⟨j, y⟩ := p
    cases h with
    | @cons _ g _ v _ fs e1 h q =>
      have e' : (if Nat.beq j k then some y else mapTo ws k) = some x := e
      cases hb : Nat.beq j k with
      | true =>
        rw [hb] at e'
        cases e'
        have hj := Nat.eq_of_beq_eq_true hb
        subst hj
        rw [e1] at hf
        cases hf
        exact ⟨v, by rw [List.lookup_cons, beq_self_eq_true], h⟩
      | false =>
        rw [hb] at e'
        obtain ⟨v', e2, rv⟩ := ih q e'
        refine ⟨v', ?_, rv⟩
        have hne : (f == g) = false := by
          rw [beq_eq_false_iff_ne]
          intro z
          subst z
          rw [an_inj T e1 hf, Nat.beq_refl] at hb
          cases hb
        rw [List.lookup_cons, hne]
        exact e2
theorem RelFs.put {ws : List (Nat × Mir.W)} {fs : List (Str × V)} (h : RelFs T r G ws fs) {k : Nat} {f : Str} (hf : T.nm.an[k]? = some f) {x : Mir.W} {v : V} (rv : RelW T r G x v) : RelFs T r G (mapPut ws k x) (putF f v fs) := by
  induction ws generalizing fs with
  | nil => cases h; exact .cons hf rv .nil
  | cons p ws ih =>
    obtain ⟨j, y⟩ := p
    cases h with
    | @cons _ g _ u _ fs e1 h q =>
      show RelFs T r G (if Nat.beq j k then (j, x) :: ws else (j, y) :: mapPut ws k x) (if g = f then (g, v) :: fs else (g, u) :: putF f v fs)
      cases hb : Nat.beq j k with
      | true =>
        have hj := Nat.eq_of_beq_eq_true hb
        subst hj
        have : g = f := by rw [e1] at hf; exact Option.some.inj hf
        rw [if_pos rfl, if_pos this]
        exact .cons e1 rv q
      | false =>
        have hne : g ≠ f := fun z => by
          rw [z] at e1
          rw [an_inj T e1 hf, Nat.beq_refl] at hb
          cases hb
        rw [if_neg (by decide), if_neg hne]
        exact .cons e1 h (ih q)
theorem RelFs.length {ws : List (Nat × Mir.W)} {fs : List (Str × V)} (h : RelFs T r G ws fs) : ws.length = fs.length := by
  induction ws generalizing fs with
  | nil => cases h; rfl
  | cons p ws ih => cases h with | cons e1 h q => rw [List.length_cons, List.length_cons, ih q]
theorem RelFs.none {ws : List (Nat × Mir.W)} {fs : List (Str × V)} (h : RelFs T r G ws fs) {m : Str} (hm : m ∉ T.nm.an) : fs.lookup m = none := by
  induction ws generalizing fs with
  | nil => cases h; rfl
  | cons p ws ih =>
    cases h with
    | @cons _ g _ u _ fs e1 h q =>
      have hne : (m == g) = false := by
        rw [beq_eq_false_iff_ne]
        intro z
        exact hm (by rw [z]; exact List.mem_of_getElem? e1)
      rw [List.lookup_cons, hne]
      exact ih q
end
/-! ### what is known of the classes -/
structure SF (T : Tab) (sup : Nat → List Nat) : Prop where
  cls : ∀ c C, T.cls c = some C → Cls T.K C
  noat : ∀ (c : Nat) (C : Addr) (k : Nat) (f : Str), T.cls c = some C → T.nm.an[k]? = some f → NoAttr T.K C f
  isc : ∀ c C, T.cls c = some C → PySem.W.findIn T.K (.ref C) "__class__" = some (some (.builtin "object.__class__")) ∧ PySem.W.mroIn T.K C (.type "object") = some true
  hn : PySem.W.specialIn T.K (.builtin "object.__class__") "__get__" = some (some (.builtin "getset_descriptor.__get__"))
  htk : PySem.W.takesIn T.K (.builtin "object.__class__") = some true
  kit : ∀ c C d D, T.cls c = some C → T.cls d = some D → PySem.W.kitOne T.K (.ref C) (.ref D) = some ((sup c).elem d)
  kitB : ∀ c C, T.cls c = some C → ∀ n ∈ ["int", "bool", "str", "list", "tuple"], PySem.W.kitOne T.K (.ref C) (.type n) = some false
  kitT : ∀ d D, T.cls d = some D → ∀ n ∈ ["NoneType", "int", "bool", "str", "list", "tuple"], PySem.W.kitOne T.K (.type n) (.ref D) = some false
section
variable {X : Cx} {nm : Nm} {E : XK} {pos p : Pos} {sup : Nat → List Nat}
/-- an object, as the heap has it -/
theorem Ok.ins {T : Tab} {w : Wd} (o : Ok T w) {x : Mir.W} {c : Nat} {v : V} (g : clsOf w.S x = some c) (rv : w.rel T x v) : ∃ a C dx ws fs, v = .ref a ∧ w.H a = some (.ins C dx fs) ∧ T.cls c = some C ∧ RelFs T w.r w.G ws fs ∧ ∀ k, fld k x w.S = oks (mapTo ws k) w.S := by
  cases x with
  | obj k ws =>
    cases g
    obtain ⟨a, C, dx, fs, rfl, h, hc, q⟩ := rv.obj_inv
    exact ⟨a, C, dx, ws, fs, rfl, o.ex _ _ h, hc, q, fun _ => rfl⟩
  | ref n =>
    have g' : (match w.S.get n with | some (.ins c _) => some c | _ => none) = some c := g
    cases q : w.S.get n with
    | none => rw [q] at g'; cases g'
    | some so =>
      rw [q] at g'
      cases so with
      | lst _ => cases g'
      | dct _ => cases g'
      | ins k ws =>
        cases g'
        obtain ⟨a, C, dx, fs, rfl, _, _, h3, h4, h5⟩ := o.insAt q rv
        refine ⟨a, C, dx, ws, fs, rfl, h3, h4, h5, fun j => ?_⟩
        show (match w.S.get n with | some (.ins _ fs) => oks (mapTo fs j) w.S | _ => .bad) = _
        rw [q]
  | _ => cases g
theorem fld_cls {S : Store} {k : Nat} {x y : Mir.W} {S' : Store} (h : fld k x S = .ok y S') : ∃ c, clsOf S x = some c := by
  cases x with
  | obj c ws => exact ⟨c, rfl⟩
  | ref n =>
    have h' : (match S.get n with | some (.ins _ fs) => oks (mapTo fs k) S | _ => .bad) = .ok y S' := h
    cases q : S.get n with
    | none => rw [q] at h'; cases h'
    | some so =>
      rw [q] at h'
      cases so with
      | lst _ => cases h'
      | dct _ => cases h'
      | ins c ws => exact ⟨c, by show (match S.get n with | some (.ins c _) => some c | _ => none) = _; rw [q]⟩
  | _ => cases h
theorem we_fld {e : Expr} {m : ME} {f : Str} {k : Nat} (F : SF (tb X nm) sup) (hf : nm.an[k]? = some f) (he : WE X nm E e m) (hb : attributeBase e f X.env (eval e X.env) = eval e X.env := by rfl) : WE X nm E (.Attribute e f pos) (eUn (fld k) m) :=
  pe_imp (pe_fld he hb) fun σ H Q ⟨w, d, eH, o, re, h⟩ => by
    subst eH
    refine lE_imp (lE_bind o re h) ?_
    rintro x H1 ⟨w1, a', rfl, o1, x1, re1, ra, h1⟩
    cases g : fld k a' w1.S with
    | bad => rw [g] at h1; exact h1.elim
    | err c0 fs S1 =>
      exfalso
      cases a' with
      | obj c ws =>
        have g' : oks (mapTo ws k) w1.S = .err c0 fs S1 := g
        cases q : mapTo ws k <;> (rw [q] at g'; cases g')
      | ref n =>
        have g' : (match w1.S.get n with | some (.ins _ fs) => oks (mapTo fs k) w1.S | _ => .bad) = .err c0 fs S1 := g
        cases q : w1.S.get n with
        | none => rw [q] at g'; cases g'
        | some so =>
          rw [q] at g'
          cases so with
          | lst _ => cases g'
          | dct _ => cases g'
          | ins c ws =>
            have g2 : oks (mapTo ws k) w1.S = .err _ fs S1 := g'
            cases q2 : mapTo ws k <;> (rw [q2] at g2; cases g2)
      | _ => cases g
    | ok y S1 =>
      obtain ⟨c, gc⟩ := fld_cls g
      obtain ⟨a, C, dx, ws, fs, rfl, hH, hC, q, hfl⟩ := o1.ins gc ra
      rw [hfl k] at g
      cases g2 : mapTo ws k with
      | none => rw [g2] at g; cases g
      | some z =>
        obtain ⟨v, e1, rz⟩ := q.look hf g2
        refine ⟨a, C, dx, fs, v, rfl, hH, F.cls c C hC, F.noat c C k f hC hf, e1, ?_⟩
        rw [hfl k, g2] at h1
        exact PostG.val o1 h1 rz
theorem ws_fld {o e : Expr} {mo me : ME} {f : Str} {k : Nat} {pos' : Pos} (F : SF (tb X nm) sup) (hf : nm.an[k]? = some f) (ho : WE X nm E o mo) (he : WE X nm E e me) (hs : swapsWith e (some (.Attribute o f pos')) pos.line X.env = pure false := by rfl) : WS X nm E (.Assign [.Attribute o f pos'] e pos) (Mir.sFld k mo me) :=
  ps_imp (ps_fld ho he hs) fun D σ H ⟨w, d, eH, ok, re, h⟩ => by
    subst eH
    refine lE_imp (lE_bind ok re h) ?_
    rintro v H1 ⟨w1, x, rfl, o1, x1, re1, rv, h1⟩
    refine lE_imp (lE_bind o1 re1 h1) ?_
    rintro vo H2 ⟨w2, xo, rfl, o2, x2, re2, ro, h2⟩
    have rv2 : w2.rel (tb X nm) x v := rv.mono x2.le x2.ex
    cases xo with
    | ref n =>
      cases g : w2.S.get n with
      | none =>
        have z : setFld k (.ref n) x w2.S = none := by show (match w2.S.get n with | some (.ins c fs) => _ | _ => none) = none; rw [g]
        rw [z] at h2
        exact h2.elim
      | some so =>
        cases so with
        | ins c ws =>
          cases gl : Nat.blt ws.length 900 with
          | false =>
            have z : setFld k (.ref n) x w2.S = none := by
              show (match w2.S.get n with | some (.ins c fs) => if Nat.blt fs.length 900 then some (w2.S.put n (.ins c (mapPut fs k x))) else none | _ => none) = none
              rw [g]
              show (if Nat.blt ws.length 900 then some (w2.S.put n (.ins c (mapPut ws k x))) else none) = none
              rw [gl] <;> rfl
            rw [z] at h2
            exact h2.elim
          | true =>
            have z : setFld k (.ref n) x w2.S = some (w2.S.put n (.ins c (mapPut ws k x))) := by
              show (match w2.S.get n with | some (.ins c fs) => if Nat.blt fs.length 900 then some (w2.S.put n (.ins c (mapPut fs k x))) else none | _ => none) = _
              rw [g]
              show (if Nat.blt ws.length 900 then some (w2.S.put n (.ins c (mapPut ws k x))) else none) = _
              rw [gl] <;> rfl
            rw [z] at h2
            obtain ⟨a, C, dx, fs, rfl, at_, _, h3, h4, h5⟩ := o2.insAt g ro
            refine ⟨a, C, dx, fs, rfl, h3, F.cls c C h4, F.noat c C k f h4 hf, ?_, ?_⟩
            · rw [← h5.length]
              have : ws.length < 900 := Nat.le_of_ble_eq_true gl
              omega
            · exact h2 (w2.put n a (.ins c (mapPut ws k x)) (.ins C dx (putF f v fs))) (o2.put at_ ⟨C, dx, _, rfl, h4, h5.put hf rv2⟩) (Ext.put at_) rfl σ re2
        | lst _ =>
          have z : setFld k (.ref n) x w2.S = none := by show (match w2.S.get n with | some (.ins c fs) => _ | _ => none) = none; rw [g]
          rw [z] at h2
          exact h2.elim
        | dct _ =>
          have z : setFld k (.ref n) x w2.S = none := by show (match w2.S.get n with | some (.ins c fs) => _ | _ => none) = none; rw [g]
          rw [z] at h2
          exact h2.elim
    | _ => exact h2.elim

/-! ### own methods -/
/-- by a table of classes: each with its function -/
structure MtOk (X : Cx) (nm : Nm) (CX : CXT) (k : Nat) (mn : Str) (c : Nat) (m : MF) (C f : Addr) (fd : FuncData) (ps : List Str) : Prop where
  hc : (tb X nm).cls c = some C
  me : Meth X.K C mn f
  fn : FnOk X.prog X.w X.K X.mg X.base CX k f fd ps (spM (tb X nm) m)
  bi : Binds X.K fd ps []
theorem pe_or {X : Cx} {e : Expr} {t t' : TE} (h : PE X e t) (h' : PE X e t') : PE X e (fun σ H Q => t σ H Q ∨ t' σ H Q) := ⟨fun pins s σ H Q I q => q.elim (h.run pins s σ H Q I) (h'.run pins s σ H Q I)⟩
theorem pe_no {X : Cx} {e : Expr} : PE X e (fun _ _ _ => False) := ⟨fun pins s σ H Q I q => q.elim⟩
/-- the class of the receiver is the first of the table, or another one -/
theorem meth_cons {T : Tab} {tab : List (Nat × MF)} {c : Nat} {m : MF} {mo : ME} {ma : MA} {C : Addr} {mn : Str} {σ : L2.St} {H : Hp} {Q : VK} (hcl : T.cls c = some C) (hmn : mn ∉ T.nm.an) (h : lE T (eMeth ((c, m) :: tab) mo ma) E σ H Q) :
    tMeth C mn (spM T m) [] E (lE T mo E) (lA T ma E) σ H Q ∨ lE T (eMeth tab mo ma) E σ H Q := by
  obtain ⟨w, d, eH, o, re, h⟩ := h
  subst eH
  cases g : mo d w.S with
  | bad =>
    have h' : PostG T w ((mo d w.S).bind _) (QW T Q) E := h
    rw [g] at h'
    exact h'.elim
  | err c fs S1 =>
    refine .inl ⟨w, d, rfl, o, re, ?_⟩
    have h' : PostG T w ((mo d w.S).bind _) (QW T Q) E := h
    rw [g] at h' ⊢
    exact h'
  | ok x S1 =>
    have h' : PostG T w ((mo d w.S).bind fun x S1 => match clsOf S1 x with | some k => (match tabAt ((c, m) :: tab) k with | some f => (ma d S1).bind fun xs S2 => f (x :: xs) S2 | none => .bad) | none => .bad) (QW T Q) E := h
    rw [g] at h'
    have h2 : PostG T w (match clsOf S1 x with | some k => (match tabAt ((c, m) :: tab) k with | some f => (ma d S1).bind fun xs S2 => f (x :: xs) S2 | none => .bad) | none => .bad) (QW T Q) E := h'
    cases gc : clsOf S1 x with
    | none => rw [gc] at h2; exact h2.elim
    | some k =>
      rw [gc] at h2
      have h3 : PostG T w (match (if Nat.beq c k then some m else tabAt tab k) with | some f => (ma d S1).bind fun xs S2 => f (x :: xs) S2 | none => .bad) (QW T Q) E := h2
      cases gb : Nat.beq c k with
      | true =>
        rw [gb] at h3
        have hk := Nat.eq_of_beq_eq_true gb
        subst hk
        refine .inl ⟨w, d, rfl, o, re, ?_⟩
        rw [g]
        intro w1 o1 x1 hs v rv
        subst hs
        obtain ⟨a, C', dx, ws, fs, rfl, hH, hC, q, _⟩ := o1.ins gc rv
        rw [hcl] at hC
        cases hC
        refine ⟨a, dx, fs, rfl, hH, q.none hmn, ?_⟩
        have h4 : PostG T w ((ma d w1.S).bind fun xs S2 => m (x :: xs) S2) (QW T Q) E := h3
        refine lA_imp (lA_bind o1 (re.mono x1.le x1.ex) (h4.mono x1)) ?_
        rintro vs H2 ⟨w2, xs, rfl, o2, x2, re2, rvs, h5⟩
        rw [List.append_nil]
        exact ⟨w2, x :: xs, rfl, o2, .cons (rv.mono x2.le x2.ex) rvs, h5⟩
      | false =>
        rw [gb] at h3
        refine .inr ⟨w, d, rfl, o, re, ?_⟩
        show PostG T w ((mo d w.S).bind fun x S1 => match clsOf S1 x with | some k => (match tabAt tab k with | some f => (ma d S1).bind fun xs S2 => f (x :: xs) S2 | none => .bad) | none => .bad) (QW T Q) E
        rw [g]
        show PostG T w (match clsOf S1 x with | some k => (match tabAt tab k with | some f => (ma d S1).bind fun xs S2 => f (x :: xs) S2 | none => .bad) | none => .bad) (QW T Q) E
        rw [gc]
        exact h3
theorem meth_nil {T : Tab} {mo : ME} {ma : MA} {σ : L2.St} {H : Hp} {Q : VK} (h : lE T (eMeth [] mo ma) E σ H Q) : lE T mo E σ H (fun _ _ => False) := by
  obtain ⟨w, d, eH, o, re, h⟩ := h
  subst eH
  refine lE_imp (lE_bind o re h) ?_
  rintro v H1 ⟨w1, x, rfl, o1, x1, re1, rv, h1⟩
  cases g : clsOf w1.S x with
  | none => rw [g] at h1; exact h1
  | some c => rw [g] at h1; exact h1
section
variable {CX : CXT} {k : Nat} {mn : Str} {c c2 : Nat} {m m2 : MF} {C C2 f f2 : Addr} {fd fd2 : FuncData} {ps ps2 : List Str} {o e : Expr} {es : List Expr} {mo : ME} {ma : MA} {apos : Pos}
theorem we_meth {pl : Sem Bool} (F : SF (tb X nm) sup) (M : MtOk X nm CX k mn c m C f fd ps) (hmn : mn ∉ nm.an) (hr : Room k X.A) (hx : Passes CX X E) (ho : WE X nm E o mo) (ha : WA X nm E (e :: es) ma)
    (hst : starEach (e :: es) X.env = (false, eval e X.env) :: starEach es X.env := by rfl) (hpl : (backTo pos (starEach es X.env)).any (·.1) = false := by rfl)
    (ht : eval (.Call (.Attribute o mn apos) (e :: es) [] pos) X.env = (do
      let ov ← eval o X.env
      standAt apos.atName
      let (f, first) ← holding [ov] (getMethod ov mn pl)
      callWith pos f first (backTo pos (starEach (e :: es) X.env)) (backToKw pos (keywordEach [] X.env))) := by rfl) :
    WE X nm E (.Call (.Attribute o mn apos) (e :: es) [] pos) (eMeth [(c, m)] mo ma) :=
  pe_imp (pe_or (pe_meth (pl := pl) ho (F.cls c C M.hc) M.me M.fn hr M.bi .nil hx ha hst hpl ht) (pe_meth (pl := pl) (C := C) (sp := fun _ _ _ _ => False) ho (F.cls c C M.hc) M.me ⟨fun _ _ _ _ h => h.elim, fun _ _ _ _ _ _ _ _ _ _ _ _ _ h => h.elim⟩ hr M.bi .nil hx ha hst hpl ht)) fun σ H Q h => by
    rcases meth_cons M.hc hmn h with q | q
    · exact .inl q
    · exact .inr (lE_imp (meth_nil q) fun _ _ z => z.elim)
theorem we_meth0 {pl : Sem Bool} (F : SF (tb X nm) sup) (M : MtOk X nm CX k mn c m C f fd ps) (hmn : mn ∉ nm.an) (hr : Room k X.A) (hx : Passes CX X E) (ho : WE X nm E o mo)
    (ht : eval (.Call (.Attribute o mn apos) [] [] pos) X.env = (do
      let ov ← eval o X.env
      standAt apos.atName
      let (f, first) ← holding [ov] (getMethod ov mn pl)
      callWith pos f first (backTo pos (starEach [] X.env)) (backToKw pos (keywordEach [] X.env))) := by rfl) :
    WE X nm E (.Call (.Attribute o mn apos) [] [] pos) (eMeth [(c, m)] mo aNil) :=
  pe_imp (pe_or (pe_meth0 (pl := pl) ho (F.cls c C M.hc) M.me M.fn hr M.bi .nil hx ht) (pe_meth0 (pl := pl) (C := C) (sp := fun _ _ _ _ => False) ho (F.cls c C M.hc) M.me ⟨fun _ _ _ _ h => h.elim, fun _ _ _ _ _ _ _ _ _ _ _ _ _ h => h.elim⟩ hr M.bi .nil hx ht)) fun σ H Q h => by
    rcases meth_cons M.hc hmn h with q | q
    · left
      refine lE_imp q ?_
      rintro v H1 ⟨a, dx, fs, rfl, h1, h2, w, d, rfl, o1, re1, h3⟩
      exact ⟨a, dx, fs, rfl, h1, h2, h3 w o1 (Ext.refl _) rfl [] .nil⟩
    · exact .inr (lE_imp (meth_nil q) fun _ _ z => z.elim)
end

/-! ### making of objects -/
structure MkOk (X : Cx) (nm : Nm) (CX : CXT) (k : Nat) (c : Nat) (m : MF) (C f : Addr) (fd : FuncData) (ps : List Str) : Prop where
  hc : (tb X nm).cls c = some C
  mak : Mk X.K C f
  fn : FnOk X.prog X.w X.K X.mg X.base CX k f fd ps (spM (tb X nm) m)
  bi : Binds X.K fd ps []
section
variable {CX : CXT} {k : Nat} {x : Str} {c : Nat} {m : MF} {C f : Addr} {fd : FuncData} {ps : List Str} {e : Expr} {es : List Expr} {ma : MA}
/-- a new instance -/
def Wd.inst (w : Wd) (x dx C : Addr) (c : Nat) : Wd := (w.layF dx (.own x)).lay x (.ins c []) (.ins C dx [])
theorem Ok.inst {T : Tab} {w : Wd} (o : Ok T w) {x dx C : Addr} {c : Nat} (hC : T.cls c = some C) (h1 : w.H x = none) (h2 : w.H dx = none) (h3 : dx ≠ x) : Ok T (w.inst x dx C c) ∧ Ext w (w.inst x dx C c) := by
  have o1 := o.layF (o := .own x) h2
  have hx : (w.layF dx (.own x)).H x = none := by show upd w.H dx _ x = none; rw [upd_ne (Ne.symm h3)]; exact h1
  exact ⟨o1.lay hx ⟨C, dx, [], rfl, hC, .nil⟩, (Ext.layF o h2).trans (Ext.lay o1 hx)⟩
theorem make_M {T : Tab} {σ : L2.St} {H : Hp} {Q : VK} (hC : T.cls c = some C) (h : lE T (eCall (mkM c m) ma) E σ H Q) : tMake C (spM T m) [] E (lA T ma E) σ H Q := by
  obtain ⟨w, d, eH, o, re, h⟩ := h
  subst eH
  refine lA_imp (lA_bind o re h) ?_
  rintro vs H1 ⟨w1, xs, rfl, o1, x1, re1, rv, h1⟩ x dx hx hdx hne
  obtain ⟨o2, x2⟩ := o1.inst hC hx hdx hne
  rw [List.append_nil]
  have h2 : PostG T w1 ((m (.ref w1.S.next :: xs) (w1.S.new (.ins c []))).bind fun y S1 => if isNon y then .ok (.ref w1.S.next) S1 else .bad) (QW T Q) E := h1
  have l : (w1.inst x dx C c).r w1.S.next = some x := lay_r (w := w1.layF dx (.own x))
  refine ⟨w1.inst x dx C c, .ref w1.S.next :: xs, rfl, o2, .cons (.ref l) (rv.mono x2.le x2.ex), ?_⟩
  refine (PostG.bind h2 |>.mono x2).imp fun y w3 o3 x3 h3 v ry => ?_
  cases y with
  | non => exact ⟨ry.non_inv, PostG.val o3 h3 (.ref (x3.le _ _ l))⟩
  | _ => exact h3.elim
theorem make_F {T : Tab} {σ : L2.St} {H : Hp} {Q : VK} (hC : T.cls c = some C) (h : lE T (eCall (mkF c m) ma) E σ H Q) : tMake C (spM T m) [] E (lA T ma E) σ H Q := by
  obtain ⟨w, d, eH, o, re, h⟩ := h
  subst eH
  refine lA_imp (lA_bind o re h) ?_
  rintro vs H1 ⟨w1, xs, rfl, o1, x1, re1, rv, h1⟩ x dx hx hdx hne
  obtain ⟨o2, x2⟩ := o1.inst hC hx hdx hne
  rw [List.append_nil]
  have h2 : PostG T w1 ((m (.ref w1.S.next :: xs) (w1.S.new (.ins c []))).bind fun y S1 => if isNon y then (match S1.get w1.S.next with | some (.ins k fs) => .ok (.obj k fs) (S1.drop w1.S.next) | _ => .bad) else .bad) (QW T Q) E := h1
  have l : (w1.inst x dx C c).r w1.S.next = some x := lay_r (w := w1.layF dx (.own x))
  refine ⟨w1.inst x dx C c, .ref w1.S.next :: xs, rfl, o2, .cons (.ref l) (rv.mono x2.le x2.ex), ?_⟩
  refine (PostG.bind h2 |>.mono x2).imp fun y w3 o3 x3 h3 v ry => ?_
  cases y with
  | non =>
    refine ⟨ry.non_inv, ?_⟩
    have h4 : PostG T w3 (match w3.S.get w1.S.next with | some (.ins k fs) => .ok (.obj k fs) (w3.S.drop w1.S.next) | _ => .bad) (QW T Q) E := h3
    have l3 : w3.r w1.S.next = some x := x3.le _ _ l
    cases g : w3.S.get w1.S.next with
    | none => rw [g] at h4; exact h4.elim
    | some so =>
      rw [g] at h4
      cases so with
      | ins k fs =>
        obtain ⟨a, C', dx', vs', e, at_, hG, hH, hC', q⟩ := o3.insAt g (.ref l3)
        cases e
        refine h4 (w3.frz w1.S.next x (.ins C' dx' vs')) (o3.frz at_ hH) (Ext.frz o3 at_) rfl (.ref x) (.obj (by show upd w3.G x _ x = _; exact upd_same) hC' (q.mono (Ext.frz (u := .ins C' dx' vs') o3 at_).le (Ext.frz (u := .ins C' dx' vs') o3 at_).ex))
      | lst _ => exact h4.elim
      | dct _ => exact h4.elim
  | _ => exact h3.elim
theorem we_makeM (M : MkOk X nm CX k c m C f fd ps) (hm : X.mg x = some (.ref C)) (hr : Room (k + 1) X.A) (hx : Passes CX X E) (ha : WA X nm E (e :: es) ma) (hg : Gl X x := by rfl) (hdb : (x == ("__debug__" : Str)) = false := by decide)
    (he : starEach (e :: es) X.env = (false, eval e X.env) :: starEach es X.env := by rfl) (hpl : (backTo pos (starEach es X.env)).any (·.1) = false := by rfl) : WE X nm E (.Call (.Name x p) (e :: es) [] pos) (eCall (mkM c m) ma) :=
  pe_imp (pe_make M.mak M.fn hr hg hm M.bi .nil hx ha hdb he hpl) fun _ _ _ h => make_M M.hc h
theorem we_makeF (M : MkOk X nm CX k c m C f fd ps) (hm : X.mg x = some (.ref C)) (hr : Room (k + 1) X.A) (hx : Passes CX X E) (ha : WA X nm E (e :: es) ma) (hg : Gl X x := by rfl) (hdb : (x == ("__debug__" : Str)) = false := by decide)
    (he : starEach (e :: es) X.env = (false, eval e X.env) :: starEach es X.env := by rfl) (hpl : (backTo pos (starEach es X.env)).any (·.1) = false := by rfl) : WE X nm E (.Call (.Name x p) (e :: es) [] pos) (eCall (mkF c m) ma) :=
  pe_imp (pe_make M.mak M.fn hr hg hm M.bi .nil hx ha hdb he hpl) fun _ _ _ h => make_F M.hc h
end

/-! ### comprehensions -/
theorem wipe_ext {σ σ' : L2.St} (hl : σ'.length = σ.length) : ∀ {vs : List Nat}, (∀ i, i ∉ vs → σ'[i]? = σ[i]?) → wipe σ' vs = wipe σ vs := by
  intro vs h
  refine List.ext_getElem? fun i => ?_
  by_cases hi : i ∈ vs
  · have key : ∀ (σ : L2.St) (vs : List Nat), i ∈ vs → (wipe σ vs)[i]? = if i < σ.length then some none else none := by
      intro σ vs
      induction vs with
      | nil => intro z; cases z
      | cons v vs ih =>
        intro z
        show ((wipe σ vs).set v none)[i]? = _
        by_cases hv : v = i
        · subst hv
          rw [List.getElem?_set_self']
          by_cases hl : v < σ.length
          · rw [if_pos hl, List.getElem?_eq_getElem (by rw [wipe_length]; exact hl)] <;> rfl
          · rw [if_neg hl, List.getElem?_eq_none (by rw [wipe_length]; omega)] <;> rfl
        · rw [List.getElem?_set_ne hv]
          exact ih ((List.mem_cons.mp z).elim (fun q => absurd q.symm hv) id)
    rw [key σ' vs hi, key σ vs hi, hl]
  · rw [wipe_out hi, wipe_out hi]
    exact h i hi
theorem wipe_idem (σ : L2.St) (vs : List Nat) : wipe (wipe σ vs) vs = wipe σ vs := wipe_ext (wipe_length σ vs) fun _ hi => wipe_out hi
theorem RelEnv.setN {T : Tab} {r : Nat → Option Addr} {G : Hp} {d : DEnv} {s : L2.St} (h : RelEnv T r G d s) (i : Nat) {o : Option V} : RelEnv T r G (setS d i Option.none) (s.set i o) := by
  induction h generalizing i with
  | nil => cases i <;> exact .nil
  | none q ih => cases i with
    | zero => exact .none q
    | succ i => exact .none (ih i)
  | some h q ih => cases i with
    | zero => exact .none q
    | succ i => exact .some h (ih i)
theorem RelEnv.wipe {T : Tab} {r : Nat → Option Addr} {G : Hp} {d : DEnv} {s : L2.St} (h : RelEnv T r G d s) : ∀ vs : List Nat, RelEnv T r G (wipeS d vs) (L2.wipe s vs)
  | [] => h
  | v :: vs => (RelEnv.wipe h vs).setN v
theorem PostG.bind0 {α β : Type} {T : Tab} {w : Wd} {r : Out α} {k : α → Store → Out β} {R : β → Wd → Prop} (h : PostG T w (r.bind k) R E) : PostG T w r (fun x w1 => PostG T w (k x w1.S) R E) E := by
  cases r with
  | ok x S1 =>
    intro w1 o1 x1 hs
    subst hs
    exact h
  | err c fs S1 => exact h
  | bad => exact h
section
variable {T : Tab} {w0 w : Wd} {d : DEnv} {σ : L2.St} {β : Type} {R : β → Wd → Prop}
theorem lE_bind0 {a : ME} {k : Mir.W → Store → Out β} (o : Ok T w) (e : Ext w0 w) (re : w.env T d σ) (h : PostG T w0 ((a d w.S).bind k) R E) :
    lE T a E σ w.H fun v H1 => ∃ w1 x, w1.H = H1 ∧ Ok T w1 ∧ Ext w w1 ∧ w1.env T d σ ∧ w1.rel T x v ∧ PostG T w0 (k x w1.S) R E :=
  ⟨w, d, rfl, o, re, (h.bind0.mono e).imp fun x w1 o1 x1 q v rv => ⟨w1, x, rfl, o1, x1, re.mono x1.le x1.ex, rv, q⟩⟩
theorem lT_bind0 {a : MT} {k : Bool → Store → Out β} (o : Ok T w) (e : Ext w0 w) (re : w.env T d σ) (h : PostG T w0 ((a d w.S).bind k) R E) :
    lT T a E σ w.H fun x H1 => ∃ w1, w1.H = H1 ∧ Ok T w1 ∧ Ext w w1 ∧ w1.env T d σ ∧ PostG T w0 (k x w1.S) R E :=
  ⟨w, d, rfl, o, re, (h.bind0.mono e).imp fun x w1 o1 x1 q => ⟨w1, rfl, o1, x1, re.mono x1.le x1.ex, q⟩⟩
end
/-- the comprehension's loop: D is the list that is made, ys its items so far, fin what is wanted at the end -/
theorem lc_run {T : Tab} {w1 : Wd} {D : Addr} {g : Gd} {t : Tg} {mt : MT} {me : ME} {d : DEnv} {σ : L2.St} {own : List Nat} {xs : List Mir.W} {J : It} {R : List Mir.W → Wd → Prop} {Q : Hp → Prop} (ht : ∀ i ∈ tgS t, i ∈ own) (o1 : Ok T w1) (re1 : w1.env T d σ) (hw : Walk T w1 xs g J) (hD : w1.H D = none)
    (hz : xs.length ≤ LIM) (h : PostG T w1 (lcGo g t mt me (wipeS d own) xs w1.S) R E)
    (fin : ∀ w' ys acc, Ok T w' → Ext w1 w' → Out_ w' D → w'.H D = some (.lst acc) → w'.rels T ys acc → R ys w' → Q w'.H) :
    ∃ W : Nat → Nat → Hp → Prop, (∃ m, W 0 m (upd w1.H D (.lst []))) ∧ ∀ i m H, W i m H →
      (J.stop i H ∧ Q H) ∨ (J.go i H ∧ ∃ Nx : Hp → Prop, (∀ H', Nx H' → ∃ m', m' < m ∧ W (i + 1) m' H') ∧ ∀ x H', J.yld i H x H' → lG T t x (L2.wipe σ own) H' fun σ2 H2 => L2.wipe σ2 own = L2.wipe σ own ∧ lT T mt E σ2 H2 fun b H3 =>
        if b = true then lE T me E σ2 H3 fun y H4 => ∃ acc, H4 D = some (.lst acc) ∧ acc.length < sizeLine ∧ Nx (upd H4 D (.lst (acc ++ [y]))) else Nx H3) := by
  let St : Nat → List Mir.W → Hp → Prop := fun i rest H => ∃ w' ys acc, w'.H = H ∧ Ok T w' ∧ Ext w1 w' ∧ Out_ w' D ∧ w'.H D = some (.lst acc) ∧ w'.rels T ys acc ∧ acc.length ≤ i ∧ PostG T w1 (lcGo g t mt me (wipeS d own) rest w'.S) (fun zs w2 => R (ys ++ zs) w2) E
  refine ⟨fun i m H => m = xs.length - i ∧ i ≤ xs.length ∧ St i (xs.drop i) H, ⟨xs.length, rfl, Nat.zero_le _, w1.setU D (.lst []), [], [], rfl, o1.setU (o1.out hD), Ext.setU (Ext.refl _) hD, o1.out hD, upd_same, .nil, Nat.le_refl _, h⟩, ?_⟩
  rintro i m H ⟨rfl, hi, w', ys, acc, rfl, o', x', out, hacc, q, hl, h'⟩
  cases hst : still w'.S g with
  | false =>
    exfalso
    cases e : xs.drop i with
    | nil =>
      rw [e] at h'
      have h2 : PostG T w1 (if still w'.S g then .ok [] w'.S else .bad) (fun zs w2 => R (ys ++ zs) w2) E := h'
      rw [hst] at h2
      exact h2
    | cons y r =>
      rw [e] at h'
      have h2 : PostG T w1 (if still w'.S g then (match stTg t y (wipeS d own) with | none => .bad | some d1 => (mt d1 w'.S).bind fun b S1 => if b then (me d1 S1).bind fun y S2 => (lcGo g t mt me (wipeS d own) r S2).bind fun ys S3 => .ok (y :: ys) S3 else lcGo g t mt me (wipeS d own) r S1) else .bad) (fun zs w2 => R (ys ++ zs) w2) E := h'
      rw [hst] at h2
      exact h2
  | true =>
    obtain ⟨hgo, hstop⟩ := hw w' o' x'.g hst
    cases e : xs.drop i with
    | nil =>
      have hl : i = xs.length := Nat.le_antisymm hi (List.drop_eq_nil_iff.mp e)
      subst hl
      rw [e] at h'
      have h2 : PostG T w1 (if still w'.S g then .ok [] w'.S else .bad) (fun zs w2 => R (ys ++ zs) w2) E := h'
      rw [hst] at h2
      have h3 : R (ys ++ []) w' := h2 w' o' x' rfl
      rw [List.append_nil] at h3
      exact .inl ⟨hstop, fin w' ys acc o' x' out hacc q h3⟩
    | cons y r =>
      rw [e] at h'
      have h2 : PostG T w1 (if still w'.S g then (match stTg t y (wipeS d own) with | none => .bad | some d1 => (mt d1 w'.S).bind fun b S1 => if b then (me d1 S1).bind fun y S2 => (lcGo g t mt me (wipeS d own) r S2).bind fun ys S3 => .ok (y :: ys) S3 else lcGo g t mt me (wipeS d own) r S1) else .bad) (fun zs w2 => R (ys ++ zs) w2) E := h'
      rw [hst] at h2
      have hiy : xs[i]? = some y := by
        have := List.getElem?_drop (xs := xs) (i := i) (j := 0)
        rw [e] at this
        simpa using this.symm
      have hr : r = xs.drop (i + 1) := by
        have := List.drop_drop (i := 1) (j := i) (l := xs)
        rw [e] at this
        simpa using this
      have hlt : i < xs.length := (List.getElem?_eq_some_iff.mp hiy).1
      obtain ⟨go, yl⟩ := hgo i y hiy
      cases gt : stTg t y (wipeS d own) with
      | none =>
        rw [gt] at h2
        exact h2.elim
      | some d1 =>
        rw [gt] at h2
        refine .inr ⟨go, St (i + 1) r, ?_, fun v H2 hy => ?_⟩
        · intro H' hs
          rw [hr] at hs
          exact ⟨xs.length - (i + 1), by omega, rfl, hlt, hs⟩
        · obtain ⟨w2, rfl, o2, x2, hS, rv⟩ := yl v H2 hy
          have re2 : w2.env T (wipeS d own) (L2.wipe σ own) := (re1.mono (x'.trans x2).le (x'.trans x2).ex).wipe own
          refine ⟨w2, wipeS d own, y, d1, rfl, o2, re2, rv, gt, fun σ2 re2' ch => ⟨?_, ?_⟩⟩
          · rw [wipe_ext (vs := own) ch.1 (fun j hj => ch.2 j fun z => hj (ht j z)), wipe_idem]
          · obtain ⟨out2, hacc2⟩ := out.ext hacc x2
            have q2 := q.mono x2.le x2.ex
            have h3 := h2
            rw [← hS] at h3
            refine lT_imp (lT_bind0 o2 (x'.trans x2) re2' h3) ?_
            rintro b H3 ⟨w3, rfl, o3, x3, re3, h4⟩
            obtain ⟨out3, hacc3⟩ := out2.ext hacc2 x3
            have q3 := q2.mono x3.le x3.ex
            have e13 := (x'.trans x2).trans x3
            cases b with
            | false => exact ⟨w3, ys, acc, rfl, o3, e13, out3, hacc3, q3, Nat.le_succ_of_le hl, h4⟩
            | true =>
              refine lE_imp (lE_bind0 o3 e13 re3 h4) ?_
              rintro u H4 ⟨w4, z, rfl, o4, x4, re4, rz, h5⟩
              obtain ⟨out4, hacc4⟩ := out3.ext hacc3 x4
              have q4 := q3.mono x4.le x4.ex
              have hlen : acc.length < sizeLine := Nat.lt_of_le_of_lt hl (Nat.lt_of_lt_of_le hlt (lim_sz hz))
              refine ⟨acc, hacc4, hlen, w4.setU D (.lst (acc ++ [u])), ys ++ [z], acc ++ [u], rfl, o4.setU out4, Ext.setU (e13.trans x4) hD, out4, upd_same, q4.append (.cons rz .nil), by rw [List.length_append]; exact Nat.succ_le_succ hl, ?_⟩
              refine (PostG.bind0 h5).imp fun zs w5 o5 x5 h7 => ?_
              have h8 : R (ys ++ z :: zs) w5 := h7 w5 o5 x5 rfl
              rw [List.append_assoc]
              exact h8
section
variable {tg iter elt : Expr} {ifs : List Expr} {scope : Scope} {own : List (Str × Nat)} {mi : MI} {t : Tg} {mt : MT} {me : ME}
abbrev WTs (X : Cx) (nm : Nm) (E : XK) (e : List Expr) (m : MT) : Prop := PTs X e (lT (tb X nm) m E)
theorem pts_imp {X : Cx} {e : List Expr} {t t' : TT} (h : PTs X e t) (k : ∀ σ H Q, t' σ H Q → t σ H Q) : PTs X e t' := ⟨fun pins s σ H Q I q => h.run pins s σ H Q I (k σ H Q q)⟩
theorem wts_nil : WTs X nm E [] Mir.tYes := pts_imp pts_nil fun σ H Q ⟨w, d, eH, o, re, h⟩ => by
  subst eH
  exact h.here o rfl
theorem wts_one {c : Expr} {m : MT} (h : WT X nm E c m) : WTs X nm E [c] m := pts_one h
theorem lcF_of {T : Tab} {σ : L2.St} {H : Hp} {Q : VK} {vs : List Nat} (ht : ∀ i ∈ tgS t, i ∈ vs) (h : lE T (eLc vs mi t mt me) E σ H Q) : tLc (lI T mi E) (lG T t) (lT T mt E) (lE T me E) vs σ H Q := by
  obtain ⟨w, d, eH, o, re, h⟩ := h
  subst eH
  have h0 : PostG T w (((mi d w.S).bind fun p S1 => if Nat.ble p.1.length LIM then lcGo p.2 t mt me (wipeS d vs) p.1 S1 else .bad).bind fun ys S1 => .ok (.lst ys) S1) (QW T Q) E := h
  have h1 : PostG T w ((mi d w.S).bind fun p S1 => (if Nat.ble p.1.length LIM then lcGo p.2 t mt me (wipeS d vs) p.1 S1 else .bad).bind fun ys S1 => .ok (.lst ys) S1) (QW T Q) E := by
    cases g : mi d w.S with
    | ok x S1 => rw [g] at h0; exact h0
    | err c fs S1 => rw [g] at h0; exact h0
    | bad => rw [g] at h0; exact h0
  refine ⟨w, d, rfl, o, re, (PostG.bind h1).imp fun p w1 o1 x1 h2 J hw D hD => ?_⟩
  obtain ⟨xs, g⟩ := p
  cases gl : Nat.ble xs.length LIM with
  | false =>
    have h3 : PostG T w1 ((if Nat.ble xs.length LIM then lcGo g t mt me (wipeS d vs) xs w1.S else .bad).bind fun ys S1 => .ok (.lst ys) S1) (QW T Q) E := h2
    rw [gl] at h3
    exact h3.elim
  | true =>
    have h3 : PostG T w1 ((if Nat.ble xs.length LIM then lcGo g t mt me (wipeS d vs) xs w1.S else .bad).bind fun ys S1 => .ok (.lst ys) S1) (QW T Q) E := h2
    rw [gl] at h3
    refine lc_run ht o1 (re.mono x1.le x1.ex) hw hD (Nat.le_of_ble_eq_true gl) (PostG.bind0 h3) fun w' ys acc o' x' out hacc q r => ?_
    exact r (w'.fixU D (.lst acc)) (o'.fixU out hacc) (Ext.fixU x' hD out) rfl (.ref D) (.lst (by show upd w'.G D _ D = _; exact upd_same) (q.mono (LeR.refl _) fun b x e => by show upd w'.G D _ b = some x; rw [upd_ne (ne_of_none e out.1)]; exact e))
theorem lcM_of {T : Tab} {σ : L2.St} {H : Hp} {Q : VK} {vs : List Nat} (ht : ∀ i ∈ tgS t, i ∈ vs) (h : lE T (eLcM vs mi t mt me) E σ H Q) : tLc (lI T mi E) (lG T t) (lT T mt E) (lE T me E) vs σ H Q := by
  obtain ⟨w, d, eH, o, re, h⟩ := h
  subst eH
  have h0 : PostG T w (((mi d w.S).bind fun p S1 => if Nat.ble p.1.length LIM then lcGo p.2 t mt me (wipeS d vs) p.1 S1 else .bad).bind fun ys S1 => .ok (.ref S1.next) (S1.new (.lst ys))) (QW T Q) E := h
  have h1 : PostG T w ((mi d w.S).bind fun p S1 => (if Nat.ble p.1.length LIM then lcGo p.2 t mt me (wipeS d vs) p.1 S1 else .bad).bind fun ys S1 => .ok (.ref S1.next) (S1.new (.lst ys))) (QW T Q) E := by
    cases g : mi d w.S with
    | ok x S1 => rw [g] at h0; exact h0
    | err c fs S1 => rw [g] at h0; exact h0
    | bad => rw [g] at h0; exact h0
  refine ⟨w, d, rfl, o, re, (PostG.bind h1).imp fun p w1 o1 x1 h2 J hw D hD => ?_⟩
  obtain ⟨xs, g⟩ := p
  cases gl : Nat.ble xs.length LIM with
  | false =>
    have h3 : PostG T w1 ((if Nat.ble xs.length LIM then lcGo g t mt me (wipeS d vs) xs w1.S else .bad).bind fun ys S1 => .ok (.ref S1.next) (S1.new (.lst ys))) (QW T Q) E := h2
    rw [gl] at h3
    exact h3.elim
  | true =>
    have h3 : PostG T w1 ((if Nat.ble xs.length LIM then lcGo g t mt me (wipeS d vs) xs w1.S else .bad).bind fun ys S1 => .ok (.ref S1.next) (S1.new (.lst ys))) (QW T Q) E := h2
    rw [gl] at h3
    refine lc_run ht o1 (re.mono x1.le x1.ex) hw hD (Nat.le_of_ble_eq_true gl) (PostG.bind0 h3) fun w' ys acc o' x' out hacc q r => ?_
    exact r (w'.adopt D (.lst ys)) (o'.adopt out hacc ⟨acc, rfl, q.mono (LeR.lay (p := D) (o := .lst ys) (u := .lst []) o') (Same.refl _)⟩) (Ext.adopt o' x' hD) rfl (.ref D) (.ref (lay_r (p := D) (o := .lst ys) (u := .lst [])))
end
end
end MW
set_option Elab.async false
set_option linter.all false
set_option maxRecDepth 100000
set_option maxHeartbeats 2000000
/-! MR10: comprehensions as expressions and statements, isinstance, enumerate, zip. -/
namespace MW
open PySem PySem.Spec PyProof.Rows L2 Mir
section
variable {X : Cx} {nm : Nm} {E : XK} {pos p : Pos} {sup : Nat → List Nat}
section
variable {tg iter elt : Expr} {ifs : List Expr} {scope : Scope} {own : List (Str × Nat)} {mi : MI} {t : Tg} {mt : MT} {me : ME} {vs : List Nat}
theorem we_lc (hc : X.calm = true) (hN : X.N.Nodup) (hv : own.map (·.2) = vs) (ht0 : ∀ i ∈ tgS t, i ∈ vs) (ok : BlkOk X.N X.env.scope scope own) (hi : WI X nm E tg iter mi)
    (hg : ∀ (s : Shared) (H : Hp) (C : Addr) (cl : List (Str × Addr)) (fp : List Addr), WG (X.blk s H scope (compEnvC scope cl C X.env) fp) nm tg t)
    (ht : ∀ (s : Shared) (H : Hp) (C : Addr) (cl : List (Str × Addr)) (fp : List Addr), WTs (X.blk s H scope (compEnvC scope cl C X.env) fp) nm E ifs mt)
    (he : ∀ (s : Shared) (H : Hp) (C : Addr) (cl : List (Str × Addr)) (fp : List Addr), WE (X.blk s H scope (compEnvC scope cl C X.env) fp) nm E elt me)
    (hs : ∀ x, foldedSetIterable iter X.env x = pure x := by intro _; rfl) : WE X nm E (.ListComp elt [⟨tg, iter, ifs, 0⟩] scope pos) (eLc vs mi t mt me) := by
  subst hv
  exact pe_imp (pe_lc hc hN hi ok hg ht he hs) fun _ _ _ h => lcF_of ht0 h
theorem we_lcM (hc : X.calm = true) (hN : X.N.Nodup) (hv : own.map (·.2) = vs) (ht0 : ∀ i ∈ tgS t, i ∈ vs) (ok : BlkOk X.N X.env.scope scope own) (hi : WI X nm E tg iter mi)
    (hg : ∀ (s : Shared) (H : Hp) (C : Addr) (cl : List (Str × Addr)) (fp : List Addr), WG (X.blk s H scope (compEnvC scope cl C X.env) fp) nm tg t)
    (ht : ∀ (s : Shared) (H : Hp) (C : Addr) (cl : List (Str × Addr)) (fp : List Addr), WTs (X.blk s H scope (compEnvC scope cl C X.env) fp) nm E ifs mt)
    (he : ∀ (s : Shared) (H : Hp) (C : Addr) (cl : List (Str × Addr)) (fp : List Addr), WE (X.blk s H scope (compEnvC scope cl C X.env) fp) nm E elt me)
    (hs : ∀ x, foldedSetIterable iter X.env x = pure x := by intro _; rfl) : WE X nm E (.ListComp elt [⟨tg, iter, ifs, 0⟩] scope pos) (eLcM vs mi t mt me) := by
  subst hv
  exact pe_imp (pe_lc hc hN hi ok hg ht he hs) fun _ _ _ h => lcM_of ht0 h
theorem asg_of {T : Tab} {m : ME} {i : Nat} {D : Ends} {σ : L2.St} {H : Hp} (h : lS T (sAsg (.nm i) m) E D σ H) : lE T m E σ H (fun x H1 => gName i x σ H1 D.nx) := by
  obtain ⟨w, d, eH, o, re, h⟩ := h
  subst eH
  refine lE_imp (lE_bind o re h) ?_
  rintro v H1 ⟨w1, x, rfl, o1, x1, re1, rv, h1⟩
  exact h1.here o1 rfl _ (re1.set i rv)
theorem ws_lc {i : Nat} {y : Str} {py spos : Pos} (hc : X.calm = true) (hN : X.N.Nodup) (hy : X.N[i]? = some y) (hyl : X.env.scope.names.lookup y = some .local)
    (hsw : swapsWith (.ListComp elt [⟨tg, iter, ifs, 0⟩] scope pos) (some (.Name y py)) spos.line X.env = pure true) (hv : own.map (·.2) = vs) (ht0 : ∀ i ∈ tgS t, i ∈ vs) (ok : BlkOk X.N X.env.scope scope own) (hi : WI X nm E tg iter mi)
    (hg : ∀ (s : Shared) (H : Hp) (C : Addr) (cl : List (Str × Addr)) (fp : List Addr), WG (X.blk s H scope (compEnvC scope cl C X.env) fp) nm tg t)
    (ht : ∀ (s : Shared) (H : Hp) (C : Addr) (cl : List (Str × Addr)) (fp : List Addr), WTs (X.blk s H scope (compEnvC scope cl C X.env) fp) nm E ifs mt)
    (he : ∀ (s : Shared) (H : Hp) (C : Addr) (cl : List (Str × Addr)) (fp : List Addr), WE (X.blk s H scope (compEnvC scope cl C X.env) fp) nm E elt me)
    (hs : ∀ x, foldedSetIterable iter X.env x = pure x := by intro _; rfl) : WS X nm E (.Assign [.Name y py] (.ListComp elt [⟨tg, iter, ifs, 0⟩] scope pos) spos) (sAsg (.nm i) (eLc vs mi t mt me)) := by
  subst hv
  exact ps_imp (ps_setLc hc hN hy hyl hsw hi ok hg ht he hs) fun _ _ _ h => lcF_of ht0 (asg_of h)
theorem ws_lcM {i : Nat} {y : Str} {py spos : Pos} (hc : X.calm = true) (hN : X.N.Nodup) (hy : X.N[i]? = some y) (hyl : X.env.scope.names.lookup y = some .local)
    (hsw : swapsWith (.ListComp elt [⟨tg, iter, ifs, 0⟩] scope pos) (some (.Name y py)) spos.line X.env = pure true) (hv : own.map (·.2) = vs) (ht0 : ∀ i ∈ tgS t, i ∈ vs) (ok : BlkOk X.N X.env.scope scope own) (hi : WI X nm E tg iter mi)
    (hg : ∀ (s : Shared) (H : Hp) (C : Addr) (cl : List (Str × Addr)) (fp : List Addr), WG (X.blk s H scope (compEnvC scope cl C X.env) fp) nm tg t)
    (ht : ∀ (s : Shared) (H : Hp) (C : Addr) (cl : List (Str × Addr)) (fp : List Addr), WTs (X.blk s H scope (compEnvC scope cl C X.env) fp) nm E ifs mt)
    (he : ∀ (s : Shared) (H : Hp) (C : Addr) (cl : List (Str × Addr)) (fp : List Addr), WE (X.blk s H scope (compEnvC scope cl C X.env) fp) nm E elt me)
    (hs : ∀ x, foldedSetIterable iter X.env x = pure x := by intro _; rfl) : WS X nm E (.Assign [.Name y py] (.ListComp elt [⟨tg, iter, ifs, 0⟩] scope pos) spos) (sAsg (.nm i) (eLcM vs mi t mt me)) := by
  subst hv
  exact ps_imp (ps_setLc hc hN hy hyl hsw hi ok hg ht he hs) fun _ _ _ h => lcM_of ht0 (asg_of h)
end

/-! ### isinstance -/
def tyV_ (T : Tab) : Ty → Option Value
  | .int => some (.type "int")
  | .bool => some (.type "bool")
  | .str => some (.type "str")
  | .list => some (.type "list")
  | .tuple => some (.type "tuple")
  | .own c => (T.cls c).map Value.ref
theorem kit_bi {K : Frag} {a b : String} {r : Bool} (h : kitB a b = some r) : PySem.W.kitOne K (.type a) (.type b) = some r := kit_ty h
/-- what a value is -/
theorem tyx_of {T : Tab} {w : Wd} (F : SF T sup) (o : Ok T w) {x : Mir.W} {v : V} (rv : w.rel T x v) (hx : ∃ t b, tyIs sup w.S x t = some b) :
    ∃ tv, TyX T.K w.H v tv ∧ ∀ t b u, tyIs sup w.S x t = some b → tyV_ T t = some u → PySem.W.kitOne T.K tv u = some b := by
  have bi : ∀ (n : String), n ∈ ["NoneType", "int", "bool", "str", "list", "tuple"] → ∀ c u, tyV_ T (.own c) = some u → PySem.W.kitOne T.K (.type n) u = some false := by
    intro n hn c u hu
    have hu' : (T.cls c).map Value.ref = some u := hu
    cases g : T.cls c with
    | none => rw [g] at hu'; cases hu'
    | some C => rw [g] at hu'; cases hu'; exact F.kitT c C g n hn
  have ow : ∀ c C, T.cls c = some C → ∀ t b u, some (tyOwn (sup c) t) = some b → tyV_ T t = some u → PySem.W.kitOne T.K (.ref C) u = some b := by
    intro c C hC t b u h1 h2
    cases t with
    | own k =>
      cases h1
      have hu' : (T.cls k).map Value.ref = some u := h2
      cases g : T.cls k with
      | none => rw [g] at hu'; cases hu'
      | some D => rw [g] at hu'; cases hu'; exact F.kit c C k D hC g
    | int => cases h1; cases h2; exact F.kitB c C hC "int" (by simp)
    | bool => cases h1; cases h2; exact F.kitB c C hC "bool" (by simp)
    | str => cases h1; cases h2; exact F.kitB c C hC "str" (by simp)
    | list => cases h1; cases h2; exact F.kitB c C hC "list" (by simp)
    | tuple => cases h1; cases h2; exact F.kitB c C hC "tuple" (by simp)
  have lst : ∀ a vs, v = .ref a → w.H a = some (.lst vs) → (∀ t b, tyIs sup w.S x t = some b → some (tyLst t) = some b) → ∃ tv, TyX T.K w.H v tv ∧ ∀ t b u, tyIs sup w.S x t = some b → tyV_ T t = some u → PySem.W.kitOne T.K tv u = some b := by
    intro a vs ea ha hh
    subst ea
    refine ⟨_, .base (.lst ha), fun t b u h1 h2 => ?_⟩
    have h1 := hh t b h1
    cases t with
    | own k => cases h1; exact bi "list" (by simp) k u h2
    | _ => cases h1; cases h2; exact kit_bi (by decide +kernel)
  cases x with
  | non =>
    cases rv.non_inv
    refine ⟨_, .base .non, fun t b u h1 h2 => ?_⟩
    cases t with
    | own k => cases h1; exact bi "NoneType" (by simp) k u h2
    | _ => cases h1; cases h2; exact kit_bi (by decide +kernel)
  | bl c =>
    cases rv.bl_inv
    refine ⟨_, .base (.bl c), fun t b u h1 h2 => ?_⟩
    cases t with
    | own k => cases h1; exact bi "bool" (by simp) k u h2
    | _ => cases h1; cases h2; exact kit_bi (by decide +kernel)
  | int i =>
    cases rv.int_inv
    refine ⟨_, .base (.int i), fun t b u h1 h2 => ?_⟩
    cases t with
    | own k => cases h1; exact bi "int" (by simp) k u h2
    | _ => cases h1; cases h2; exact kit_bi (by decide +kernel)
  | str z =>
    obtain ⟨x1, rfl, e1, _⟩ := rv.str_inv
    refine ⟨_, .base (.str x1), fun t b u h1 h2 => ?_⟩
    cases t with
    | own k => cases h1; exact bi "str" (by simp) k u h2
    | _ => cases h1; cases h2; exact kit_bi (by decide +kernel)
  | tup xs =>
    obtain ⟨a, vs, rfl, sq, q⟩ := rv.tup_inv
    have hty : TyX T.K w.H (.ref a) (.type "tuple") := by
      rcases sqT_ex o.ex sq with (h | ⟨ob, h⟩) | ⟨ob, its, n, h, hc, _⟩
      · exact .base (.tup h)
      · exact .fTuple h
      · exact .kTuple h hc
    refine ⟨_, hty, fun t b u h1 h2 => ?_⟩
    cases t with
    | own k => cases h1; exact bi "tuple" (by simp) k u h2
    | _ => cases h1; cases h2; exact kit_bi (by decide +kernel)
  | lst xs =>
    obtain ⟨a, vs, rfl, h, q⟩ := rv.lst_inv
    exact lst a vs rfl (o.ex _ _ h) fun t b h => h
  | obj c ws =>
    obtain ⟨a, C, dx, fs, rfl, h, hC, q⟩ := rv.obj_inv
    obtain ⟨k1, k2⟩ := F.isc c C hC
    exact ⟨_, .base (.ins (o.ex _ _ h) (F.cls c C hC) k1 F.hn F.htk k2), fun t b u h1 h2 => ow c C hC t b u h1 h2⟩
  | ref n =>
    cases g : w.S.get n with
    | none =>
      obtain ⟨t, b, ht⟩ := hx
      have : tyIs sup w.S (.ref n) t = none := by
        show (match w.S.get n with | some (.lst _) => some (tyLst t) | some (.ins c _) => some (tyOwn (sup c) t) | _ => none) = none
        rw [g]
      rw [this] at ht
      cases ht
    | some so =>
      cases so with
      | lst ys =>
        obtain ⟨a, vs, rfl, _, _, h3, _⟩ := o.lstAt g rv
        refine lst a vs rfl h3 fun t b h => ?_
        have h' : (match w.S.get n with | some (.lst _) => some (tyLst t) | some (.ins c _) => some (tyOwn (sup c) t) | _ => none) = some b := h
        rw [g] at h'
        exact h'
      | ins c ws =>
        obtain ⟨a, C, dx, fs, rfl, _, _, h3, hC, _⟩ := o.insAt g rv
        obtain ⟨k1, k2⟩ := F.isc c C hC
        refine ⟨_, .base (.ins h3 (F.cls c C hC) k1 F.hn F.htk k2), fun t b u h1 h2 => ow c C hC t b u ?_ h2⟩
        have h' : (match w.S.get n with | some (.lst _) => some (tyLst t) | some (.ins c _) => some (tyOwn (sup c) t) | _ => none) = some b := h1
        rw [g] at h'
        exact h'
      | dct _ =>
        obtain ⟨t, b, ht⟩ := hx
        have : tyIs sup w.S (.ref n) t = none := by
          show (match w.S.get n with | some (.lst _) => some (tyLst t) | some (.ins c _) => some (tyOwn (sup c) t) | _ => none) = none
          rw [g]
        rw [this] at ht
        cases ht
  | cls c => obtain ⟨t, b, ht⟩ := hx; cases ht
  | lsr xs => obtain ⟨t, b, ht⟩ := hx; cases ht
/-- a class as it stands in a text -/
structure ClsE (X : Cx) (nm : Nm) (e : Expr) (t : Ty) : Prop where
  ex : ∃ c u, PE X e (tC c) ∧ ClsV c u ∧ tyV_ (tb X nm) t = some u
theorem cls_bi {x : Str} {n : String} {t : Ty} (hm : X.mg x = none) (hv : bootBuiltins x = some (.type n)) (ht : tyV_ (tb X nm) t = some (.type n)) (hg : Gl X x := by rfl) (hn : x ≠ "__name__" := by decide) (hd : (x == ("__debug__" : Str)) = false := by decide) : ClsE X nm (.Name x p) t :=
  ⟨.ty n, .type n, pe_bltn hg hm hv rfl hn hd, .ty n, ht⟩
theorem cls_own {x : Str} {c : Nat} {C : Addr} (hC : (tb X nm).cls c = some C) (hm : X.mg x = some (.ref C)) (hg : Gl X x := by rfl) (hd : (x == ("__debug__" : Str)) = false := by decide) : ClsE X nm (.Name x p) (.own c) :=
  ⟨.ref C, .ref C, pe_glob hg hm rfl hd, .own C, by show ((tb X nm).cls c).map Value.ref = _; rw [hC] <;> rfl⟩
theorem anyTy_is {S : Store} {x : Mir.W} {t : Ty} {ts : List Ty} {b : Bool} (h : anyTy sup S x (t :: ts) = some b) : ∃ c, tyIs sup S x t = some c := by
  have h' : (match tyIs sup S x t with | some true => some true | some false => anyTy sup S x ts | none => none) = some b := h
  cases g : tyIs sup S x t with
  | none => rw [g] at h'; cases h'
  | some c => exact ⟨c, rfl⟩
theorem we_isi {e c : Expr} {m : ME} {t : Ty} (F : SF (tb X nm) sup) (hm : X.mg "isinstance" = none) (he : WE X nm E e m) (hc : ClsE X nm c t) (hg : Gl X "isinstance" := by rfl)
    (hs1 : starEach [e, c] X.env = (false, eval e X.env) :: starEach [c] X.env := by rfl) (hs2 : starEach [c] X.env = (false, eval c X.env) :: starEach [] X.env := by rfl) (hpl : (backTo pos (starEach [c] X.env)).any (·.1) = false := by rfl) :
    WE X nm E (.Call (.Name "isinstance" p) [e, c] [] pos) (eIsi sup [t] m) := by
  obtain ⟨cv, u, h1, h2, h3⟩ := hc.ex
  refine pe_imp (pe_callB call_isi hg hm (by decide +kernel) (pa_cons he (pa_cons h1 pa_nil hs2) hs1) (by decide) (by decide) hs1 hpl) fun σ H Q ⟨w, d, eH, o, re, h⟩ => ?_
  subst eH
  refine lE_imp (lE_bind o re h) ?_
  rintro x H1 ⟨w1, a', rfl, o1, x1, re1, ra, h4⟩
  have h5 : PostG (tb X nm) w1 (bW (anyTy sup w1.S a' [t]) w1.S) (QW (tb X nm) Q) E := h4
  cases g : anyTy sup w1.S a' [t] with
  | none => rw [g] at h5; exact h5.elim
  | some b =>
    rw [g] at h5
    obtain ⟨b', gb⟩ := anyTy_is g
    obtain ⟨tv, ty, k⟩ := tyx_of F o1 ra ⟨t, b', gb⟩
    have eb : b = b' := by
      have g' : (match tyIs sup w1.S a' t with | some true => some true | some false => some false | none => none) = some b := g
      rw [gb] at g'
      cases b' <;> (cases g'; rfl)
    subst eb
    exact ⟨x, cv, tv, u, b, rfl, h2, ty, k t b u gb h3, PostG.val o1 h5 (.bl b)⟩
/-- isinstance(x, (A, B)) -/
theorem we_isi2 {e c1 c2 : Expr} {m : ME} {t1 t2 : Ty} {x1} {p3 : Pos} (F : SF (tb X nm) sup) (hm : X.mg "isinstance" = none) (he : WE X nm E e m) (hc1 : ClsE X nm c1 t1) (hc2 : ClsE X nm c2 t2) (hg : Gl X "isinstance" := by rfl)
    (hs1 : starEach [e, .Tuple [c1, c2] x1 p3] X.env = (false, eval e X.env) :: starEach [.Tuple [c1, c2] x1 p3] X.env := by rfl) (hs2 : starEach [.Tuple [c1, c2] x1 p3] X.env = (false, eval (.Tuple [c1, c2] x1 p3) X.env) :: starEach [] X.env := by rfl) (hpl : (backTo pos (starEach [.Tuple [c1, c2] x1 p3] X.env)).any (·.1) = false := by rfl)
    (hs3 : starEach [c1, c2] X.env = (false, eval c1 X.env) :: starEach [c2] X.env := by rfl) (hs4 : starEach [c2] X.env = (false, eval c2 X.env) :: starEach [] X.env := by rfl) :
    WE X nm E (.Call (.Name "isinstance" p) [e, .Tuple [c1, c2] x1 p3] [] pos) (eIsi sup [t1, t2] m) := by
  obtain ⟨cv1, u1, h1, h2, h3⟩ := hc1.ex
  obtain ⟨cv2, u2, k1, k2, k3⟩ := hc2.ex
  refine pe_imp (pe_callB call_isiT hg hm (by decide +kernel) (pa_cons he (pa_cons (pe_tup (pa_cons h1 (pa_cons k1 pa_nil hs4) hs3)) pa_nil hs2) hs1) (by decide) (by decide) hs1 hpl) fun σ H Q ⟨w, d, eH, o, re, h⟩ => ?_
  subst eH
  refine lE_imp (lE_bind o re h) ?_
  rintro x H1 ⟨w1, a', rfl, o1, x1, re1, ra, h4⟩
  refine ⟨by show 2 ≤ sizeLine; decide, fun tp hp => ?_⟩
  have h5 : PostG (tb X nm) w1 (bW (anyTy sup w1.S a' [t1, t2]) w1.S) (QW (tb X nm) Q) E := h4
  have o2 := o1.layF (o := .tup [cv1, cv2]) hp
  have e2 := Ext.layF (o := .tup [cv1, cv2]) o1 hp
  cases g : anyTy sup w1.S a' [t1, t2] with
  | none => rw [g] at h5; exact h5.elim
  | some b =>
    rw [g] at h5
    obtain ⟨b1, gb⟩ := anyTy_is g
    obtain ⟨tv, ty, k⟩ := tyx_of F o2 (ra.mono e2.le e2.ex) ⟨t1, b1, gb⟩
    refine ⟨x, tp, [cv1, cv2], tv, [u1, u2], b, rfl, upd_same, .cons h2 (.cons k2 .nil), ty, ?_, PostG.val o2 (h5.mono e2) (.bl b)⟩
    have g' : (match tyIs sup w1.S a' t1 with | some true => some true | some false => anyTy sup w1.S a' [t2] | none => none) = some b := g
    rw [gb] at g'
    refine kitAny_cons (k t1 b1 u1 gb h3) (fun z => ?_) fun z => ?_
    · subst z
      obtain ⟨b2, gb2⟩ := anyTy_is (show anyTy sup w1.S a' [t2] = some b from g')
      have g2 : (match tyIs sup w1.S a' t2 with | some true => some true | some false => some false | none => none) = some b := g'
      rw [gb2] at g2
      have eb : b = b2 := by cases b2 <;> (cases g2; rfl)
      subst eb
      exact kitAny_cons (k t2 b u2 gb2 k3) (fun z => by rw [kitAny_nil, z]) fun z => z
    · subst z
      cases g'
      rfl
end
end MW
set_option Elab.async false
set_option linter.all false
set_option maxRecDepth 100000
set_option maxHeartbeats 2000000
/-! MG: what a text's defs keep, by their names; a list that is changed no more. -/
namespace MW
open PySem PySem.Spec PyProof.Rows L2 Mir
theorem passE {X : Cx} {E : XK} : Passes CX0 X E := fun _ _ _ _ _ _ _ h => h.elim
theorem room64 {k : Nat} {A : Around} (h : Room k A) : A.units + 64 < cLine := h.units
theorem room65 {k : Nat} {A : Around} (h : Room k A) : A.units + 65 < cLine := by have := h.un; omega
def eBad : ME := fun _ _ => .bad
def eFrz (a : ME) : ME := fun d S => (a d S).bind fun x S1 => frz S1 x
section
variable (P : Program) (w : World) (K : Frag) (mg : Str → Option Value) (base : Heap) (nm : Nm)
/-- a def of the module -/
structure FnG (k : Nat) (x : Str) (m : MF) : Prop where
  ex : ∃ f fd ps, mg x = some (.ref f) ∧ PySem.W.keepIn K (.ref f) = true ∧ Binds K fd ps [] ∧ FnOk P w K mg base CX0 k f fd ps (spM ⟨K, mg, nm⟩ m)
/-- a method of the class c -/
structure MtG (k : Nat) (mn : Str) (c : Nat) (m : MF) : Prop where
  ex : ∃ C f fd ps, (⟨K, mg, nm⟩ : Tab).cls c = some C ∧ Meth K C mn f ∧ Binds K fd ps [] ∧ FnOk P w K mg base CX0 k f fd ps (spM ⟨K, mg, nm⟩ m)
/-- a class whose objects are made by an __init__ -/
structure MkG (k : Nat) (x : Str) (c : Nat) (m : MF) : Prop where
  ex : ∃ C f fd ps, (⟨K, mg, nm⟩ : Tab).cls c = some C ∧ mg x = some (.ref C) ∧ Mk K C f ∧ Binds K fd ps [] ∧ FnOk P w K mg base CX0 k f fd ps (spM ⟨K, mg, nm⟩ m)
end
section
variable {X : Cx} {nm : Nm} {E : XK} {pos p apos : Pos} {sup : Nat → List Nat} {k : Nat} {x mn : Str} {m : MF} {c : Nat} {e o : Expr} {es : List Expr} {a : MA} {mo : ME}
theorem we_bad : WE X nm E e eBad := pe_imp pe_no fun _ _ _ ⟨_, _, _, _, _, h⟩ => h
theorem wt_bad : WT X nm E e (Mir.tB eBad) := ⟨fun _ _ _ _ _ _ ⟨_, _, _, _, _, h⟩ => h.elim⟩
theorem we_frz {m : ME} (h : WE X nm E e m) : WE X nm E e (eFrz m) := pe_imp h fun σ H Q ⟨w, d, eH, o, re, h⟩ => by
  subst eH
  refine lE_imp (lE_bind o re h) ?_
  rintro v H1 ⟨w1, x, rfl, o1, x1, re1, rv, h1⟩
  cases x with
  | ref n =>
    have h2 : PostG (tb X nm) w1 (match w1.S.get n with | some (.lst xs) => .ok (.lst xs) (w1.S.drop n) | some (.ins c fs) => .ok (.obj c fs) (w1.S.drop n) | _ => .ok (.ref n) w1.S) (QW (tb X nm) Q) E := h1
    cases g : w1.S.get n with
    | none => rw [g] at h2; exact PostG.val o1 h2 rv
    | some so =>
      rw [g] at h2
      cases so with
      | lst xs =>
        obtain ⟨a, vs, rfl, at_, hG, hH, q⟩ := o1.lstAt g rv
        exact h2 (w1.frz n a (.lst vs)) (o1.frz at_ hH) (Ext.frz o1 at_) rfl (.ref a) (.lst (by show upd w1.G a _ a = _; exact upd_same) (q.mono (Ext.frz (u := .lst vs) o1 at_).le (Ext.frz (u := .lst vs) o1 at_).ex))
      | ins c fs =>
        obtain ⟨a, C, dx, vs, rfl, at_, hG, hH, hC, q⟩ := o1.insAt g rv
        exact h2 (w1.frz n a (.ins C dx vs)) (o1.frz at_ hH) (Ext.frz o1 at_) rfl (.ref a) (.obj (by show upd w1.G a _ a = _; exact upd_same) hC (q.mono (Ext.frz (u := .ins C dx vs) o1 at_).le (Ext.frz (u := .ins C dx vs) o1 at_).ex))
      | dct _ => exact PostG.val o1 h2 rv
  | _ => exact PostG.val o1 h1 rv
theorem wg_call (G : FnG X.prog X.w X.K X.mg X.base nm k x m) (hr : Room k X.A) (ha : WA X nm E (e :: es) a) (hg : Gl X x := by rfl)
    (hdb : (x == ("__debug__" : Str)) = false := by decide) (he : starEach (e :: es) X.env = (false, eval e X.env) :: starEach es X.env := by rfl) (hpl : (backTo pos (starEach es X.env)).any (·.1) = false := by rfl) : WE X nm E (.Call (.Name x p) (e :: es) [] pos) (eCall m a) := by
  obtain ⟨f, fd, ps, h1, h2, h3, h4⟩ := G.ex
  exact we_call h4 hr h1 h2 h3 passE ha hg hdb he hpl
theorem wg_call0 (G : FnG X.prog X.w X.K X.mg X.base nm k x m) (hr : Room k X.A) (hg : Gl X x := by rfl) (hdb : (x == ("__debug__" : Str)) = false := by decide) : WE X nm E (.Call (.Name x p) [] [] pos) (eCall m aNil) := by
  obtain ⟨f, fd, ps, h1, h2, h3, h4⟩ := G.ex
  exact we_call0 h4 hr h1 h2 h3 passE hg hdb
theorem wg_makeM (G : MkG X.prog X.w X.K X.mg X.base nm k x c m) (hr : Room (k + 1) X.A) (ha : WA X nm E (e :: es) a) (hg : Gl X x := by rfl)
    (hdb : (x == ("__debug__" : Str)) = false := by decide) (he : starEach (e :: es) X.env = (false, eval e X.env) :: starEach es X.env := by rfl) (hpl : (backTo pos (starEach es X.env)).any (·.1) = false := by rfl) : WE X nm E (.Call (.Name x p) (e :: es) [] pos) (eCall (mkM c m) a) := by
  obtain ⟨C, f, fd, ps, h1, h2, h3, h4, h5⟩ := G.ex
  exact we_makeM ⟨h1, h3, h5, h4⟩ h2 hr passE ha hg hdb he hpl
theorem wg_makeF (G : MkG X.prog X.w X.K X.mg X.base nm k x c m) (hr : Room (k + 1) X.A) (ha : WA X nm E (e :: es) a) (hg : Gl X x := by rfl)
    (hdb : (x == ("__debug__" : Str)) = false := by decide) (he : starEach (e :: es) X.env = (false, eval e X.env) :: starEach es X.env := by rfl) (hpl : (backTo pos (starEach es X.env)).any (·.1) = false := by rfl) : WE X nm E (.Call (.Name x p) (e :: es) [] pos) (eCall (mkF c m) a) := by
  obtain ⟨C, f, fd, ps, h1, h2, h3, h4, h5⟩ := G.ex
  exact we_makeF ⟨h1, h3, h5, h4⟩ h2 hr passE ha hg hdb he hpl
theorem wg_meth {pl : Sem Bool} (F : SF (tb X nm) sup) (G : MtG X.prog X.w X.K X.mg X.base nm k mn c m) (hmn : mn ∉ nm.an) (hr : Room k X.A) (ho : WE X nm E o mo) (ha : WA X nm E (e :: es) a)
    (hst : starEach (e :: es) X.env = (false, eval e X.env) :: starEach es X.env := by rfl) (hpl : (backTo pos (starEach es X.env)).any (·.1) = false := by rfl)
    (ht : eval (.Call (.Attribute o mn apos) (e :: es) [] pos) X.env = (do
      let ov ← eval o X.env
      standAt apos.atName
      let (f, first) ← holding [ov] (getMethod ov mn pl)
      callWith pos f first (backTo pos (starEach (e :: es) X.env)) (backToKw pos (keywordEach [] X.env))) := by rfl) :
    WE X nm E (.Call (.Attribute o mn apos) (e :: es) [] pos) (eMeth [(c, m)] mo a) := by
  obtain ⟨C, f, fd, ps, h1, h2, h3, h4⟩ := G.ex
  exact we_meth F ⟨h1, h2, h4, h3⟩ hmn hr passE ho ha hst hpl ht
theorem wg_meth0 {pl : Sem Bool} (F : SF (tb X nm) sup) (G : MtG X.prog X.w X.K X.mg X.base nm k mn c m) (hmn : mn ∉ nm.an) (hr : Room k X.A) (ho : WE X nm E o mo)
    (ht : eval (.Call (.Attribute o mn apos) [] [] pos) X.env = (do
      let ov ← eval o X.env
      standAt apos.atName
      let (f, first) ← holding [ov] (getMethod ov mn pl)
      callWith pos f first (backTo pos (starEach [] X.env)) (backToKw pos (keywordEach [] X.env))) := by rfl) :
    WE X nm E (.Call (.Attribute o mn apos) [] [] pos) (eMeth [(c, m)] mo aNil) := by
  obtain ⟨C, f, fd, ps, h1, h2, h3, h4⟩ := G.ex
  exact we_meth0 F ⟨h1, h2, h4, h3⟩ hmn hr passE ho ht
end
section
variable {P : Program} {w : World} {K : Frag} {mg : Str → Option Value} {base : Heap} {nm : Nm}
theorem fnG_mk {x : Str} {st : Stmt} {f : Addr} {fd : FuncData} {ps : List Str} {k : Nat} {m : MF} (F : Fun K x x st f fd) (hm : mg x = some (.ref f)) (hb : Binds K fd ps []) (h : FnOk P w K mg base CX0 k f fd ps (spM ⟨K, mg, nm⟩ m)) : FnG P w K mg base nm k x m := ⟨f, fd, ps, hm, F.kp, hb, h⟩
end
end MW
set_option Elab.async false
set_option linter.all false
set_option maxRecDepth 100000
set_option maxHeartbeats 2000000
/-! MR11: super().m(..) as the last statement of a method. -/
namespace MW
open PySem PySem.Spec PyProof.Rows L2 Mir
section
variable {X : Cx} {nm : Nm} {E : XK} {pos p0 p1 apos spos : Pos} {bd : List Stmt}
/-- statements whose frame is known -/
structure PAt (X : Cx) (bd ss : List Stmt) (t : TS) : Prop where
  run : ∀ (pins : List (Addr × Obj)) (s : Shared) (σ : L2.St) (H : Hp) (D : Ends), Inv X pins σ H s → t D σ H → PySem.wpAt (model X.prog X.w) X.A (.func bd X.env) (execs ss X.env) (SP X pins D) X.xe s
theorem pat_cons {st : Stmt} {rest : List Stmt} {t u : TS} (h1 : PS X st t) (h2 : PAt X bd rest u) : PAt X bd (st :: rest) (tSeq t u) := by
  refine ⟨fun pins s σ H D I h => PySem.ks_wpAt_execs_cons (wpAt_of_wpAny (thn (h1.run pins s σ H { D with nx := u D } I h) fun f s1 q => ?_))⟩
  cases f with
  | next =>
    obtain ⟨σ', H', I', q⟩ := q
    exact h2.run pins s1 σ' H' D I' q
  | ret v => exact q
  | brk => exact q
  | cont => exact q
def tSup (i : Nat) (C : Addr) (sp : Sp) (E : XK) (t : TA) : TE := fun σ H Q => ∃ a dx fs, σ[i]? = some (some (.ref a)) ∧ H a = some (.ins C dx fs) ∧ t σ H fun vs H1 => sp (.ref a :: vs) H1 Q E
/-- what stands of a def that says super() -/
structure SupE (X : Cx) (sv : Str) (D : Addr) : Prop where
  ex : ∃ (f cc c : Addr) (oc : Value) (od : Option Addr) (osl : Array (Option Value)) (fd : FuncData) (ar : Arg) (ccl : Value) (cdd : Option Addr) (vs : Array Value) (ccs : Array (Option Value)) (file : Str) (tf : Tok) (cl : Value) (cld : Option Addr) (csl : Array (Option Value)) (cdD : ClassData),
    X.env.func = some f ∧ X.K.lookup f = some ⟨oc, od, .func fd, osl⟩ ∧ (fd.params.posonlyargs ++ fd.params.args).head? = some ar ∧ ar.arg = sv ∧
    X.env.code = .ref c ∧ X.K.lookup c = some ⟨ccl, cdd, .fields vs, ccs⟩ ∧ vs[2]? = some (.str file tf) ∧ ((X.prog.main.file : Str) == file) = true ∧
    X.env.cells.lookup ("__class__" : Str) = some cc ∧ X.K.lookup cc = some ⟨cl, cld, .cell (some (.ref D)), csl⟩ ∧ PySem.W.clsIn X.K D = some cdD
theorem sup_last {sv mn : Str} {i : Nat} {C D f2 : Addr} {sp : Sp} {CX : CXT} {k : Nat} {e : Expr} {es : List Expr} {t : TA} {fd2 : FuncData} {ps2 : List Str}
    (S : SupE X sv D) (hN : X.N[i]? = some sv) (hka : X.env.scope.names.lookup sv = some .local) (hks : X.env.scope.names.lookup ("super" : Str) = some .globalImplicit) (hkc : X.env.scope.names.lookup ("__class__" : Str) = some .free)
    (hsub : PySem.W.mroIn X.K C (.ref D) = some true) (hsu : X.mg "super" = none) (htop : (X.prog.main.scope.names.lookup ("super" : Str)).isSome = false) (hop : PySem.W.nsIn X.K cStatics "thirdparty.any" = some none)
    (hm : PySem.W.ks_superIn X.K C D mn = some (some (.ref f2))) (ht : PySem.W.typeIn X.K (.ref f2) = some (.type "function")) (hfi : PySem.W.fnIn X.K f2 = true) (hat : (mn == ("__class__" : Str)) = false)
    (F : FnOk X.prog X.w X.K X.mg X.base CX k f2 fd2 ps2 sp) (hb : Binds X.K fd2 ps2 []) (hr : Room k X.A) (hx : Passes CX X E) (ha : PA X (e :: es) t)
    (hst : starEach (e :: es) X.env = (false, eval e X.env) :: starEach es X.env := by rfl) (hpl : (backTo pos (starEach es X.env)).any (·.1) = false := by rfl)
    (hcl : (sv == ("__class__" : Str)) = false := by decide)
    (hi : interactive X.env = false := by rfl) (hs : swapsWith (.Call (.Attribute (.Call (.Name "super" p0) [] [] p1) mn apos) (e :: es) [] pos) none spos.line X.env = pure false := by rfl) {pl : Sem Bool}
    (he : eval (.Call (.Attribute (.Call (.Name "super" p0) [] [] p1) mn apos) (e :: es) [] pos) X.env = (do
      let ov ← attributeBase (.Call (.Name "super" p0) [] [] p1) mn X.env (eval (.Call (.Name "super" p0) [] [] p1) X.env)
      standAt apos.atName
      let (f, first) ← holding [ov] (getMethod ov mn pl)
      callWith pos f first (backTo pos (starEach (e :: es) X.env)) []) := by rfl) :
    PAt X bd [.Expr (.Call (.Attribute (.Call (.Name "super" p0) [] [] p1) mn apos) (e :: es) [] pos) spos] (fun D' σ H => tSup i C sp E t σ H fun _ H1 => D'.nx σ H1) := by
  refine ⟨fun pins s σ H D' I ⟨a, dx, fs, e1, e2, h⟩ => ?_⟩
  obtain ⟨f, cc, c, oc, od, osl, fd, ar, ccl, cdd, vs, ccs, file, tf, cl, cld, csl, cdD, s1, s2, s3, s4, s5, s6, s7, s8, s9, s10, s11⟩ := S.ex
  subst s4
  obtain ⟨mA, O, rr, _, _, _⟩ := ins_get I.hok e2
  obtain ⟨oD, J, hl⟩ := O.look
  obtain ⟨m, hn, hl2⟩ := I.loc
  obtain ⟨u, r, l⟩ := hl2 i ar.arg (.ref a) hN e1 (.inl hka)
  obtain rfl : u = Value.ref a := r
  have hma : m ar.arg = some (.ref a) := by
    rcases l with ⟨_, hm⟩ | ⟨hk, _⟩
    · exact hm
    · rcases hk with hk | hk <;> (have hk' : X.env.scope.names.lookup ar.arg = _ := hk; rw [hka] at hk'; cases hk')
  have KX := I.kIn
  obtain ⟨oDc, hD1, hD2⟩ : ∃ oD, s.heap.get? D = some oD ∧ oD.data = .cls cdD := by
    unfold PySem.W.clsIn at s11
    split at s11
    · rename_i c d cd' sl ho
      cases s11
      exact ⟨_, KX _ _ ho, rfl⟩
    · cases s11
  refine PySem.ks_wpAt_execs_cons (PySem.ks_wpAt_Expr_any (PySem.ks_wpAt_MethodCall ?_ he) hi hs)
  obtain ⟨mb, hb1, hb2⟩ := I.mod.blt
  obtain ⟨hh, g, d, tk, os⟩ := s
  refine PySem.ks_wpAt_super_base (env := X.env) hks hkc hat s1 (KX _ _ s2) rfl s3 s5 (KX _ _ s6) rfl s7 s8 htop ?_
  refine PySem.W.ks_loadName_global I.ok.kind hks (Calls.loadGlobal_builtin (by rw [I.ok.glob]; exact I.mod.glob.keeps I.bk) hsu (by rw [I.ok.blt]; exact hb1.keeps I.bk) ((hb2 "super" (by decide)).trans (by first | rfl | kernel_rfl)) ⟨rfl, ?_⟩)
  refine wpAny_loadName_free I.ok.kind hkc s9 ⟨_, KX _ _ s10, rfl⟩ ?_
  refine wpAny_loadName_local I.ok.kind hka hn hma ?_
  refine PySem.ks_wpAny_isType_cls hD1 hD2 ⟨rfl, ?_⟩
  refine PySem.ks_wpAny_call_super hD1 hD2 J.at_ J.cls (fun c e => ?_) (PySem.W.looks_mroIn KX hsub) (fun h' e' k' => ?_)
  · have := J.no
    unfold PySem.W.notCls at this
    rw [e] at this
    exact Bool.noConfusion this
  have I1 : Inv X ((hh.objs.size, PySem.W.ks_superObj D a C) :: pins) σ H ⟨h', g, d, tk, os⟩ := ClX.pin_new (s := ⟨hh, g, d, tk, os⟩) (t' := tk) I k' (Nat.le_refl _) e' (fun v z => nomatch z)
  have KX1 := I1.kIn
  obtain ⟨mA1, O1, rr1, _, _, _⟩ := ins_get I1.hok e2
  obtain ⟨oD1, J1, hl1⟩ := O1.look
  cases hc : PySem.W.clsIn X.K C with
  | none => unfold PySem.W.ks_superIn at hm; rw [hc] at hm; cases hm
  | some cd =>
    unfold PySem.W.ks_superIn at hm
    rw [hc] at hm
    obtain ⟨of, hof, hofc⟩ : ∃ of, h'.get? f2 = some of ∧ of.cls = .type "function" := by
      have ht' : (X.K.lookup f2).map (·.cls) = some (.type "function") := ht
      cases z : X.K.lookup f2 with
      | none => rw [z] at ht'; cases ht'
      | some of => rw [z] at ht'; exact ⟨of, KX1 _ _ z, Option.some.inj ht'⟩
    refine PySem.ks_wpAny_getMethod_super (ClX.pin_at I1) (PySem.W.looks_opaque KX1 hop) (l₀ := cd.mro) ?_ rfl KX1 hm hof hofc (PySem.W.ks_ne KX1 J1 hc) hat ?_
    · exact fun A Q E s k q => wpAny_bind ((PySem.W.looks_clsIn KX1 hc) A _ E s k (wpAny_pure q))
    · have I2 : Inv X ((h'.objs.size, PySem.W.methodObj (.ref f2) (.ref a)) :: (hh.objs.size, PySem.W.ks_superObj D a C) :: pins) σ H ⟨h'.push (PySem.W.methodObj (.ref f2) (.ref a)), g, d, tk + 1, os⟩ :=
        ClX.pin_new (s := ⟨h', g, d, tk, os⟩) (t' := tk + 1) I1 (fun _ _ z => Heap.get?_push_of_some _ z) (Nat.le_refl _) (Heap.get?_push_size h' rfl) (fun v z => nomatch z)
      show wpAny _ _ (callWith pos (.ref h'.objs.size) [] (backTo pos (starEach (e :: es) X.env)) []) _ _ _
      have hq := ClX.pin_at I2
      have hL : h'.objs.size ≠ X.env.locals := (I2.pin (h'.objs.size, PySem.W.methodObj (.ref f2) (.ref a)) (List.mem_append_right _ List.mem_cons_self)).2.2.1
      refine PySem.W.callWith_M (K := X.K) (h₀ := X.base) (first := []) I2.ok.mod.kin (news_at hL (ClX.base_none I1 (Nat.le_refl _)) hq) List.mem_cons_self hfi (thn (ha.run pos _ _ σ H _ I2 h) fun us s3 ⟨vs, H2, I3, rv, q2⟩ => ⟨⟨ClX.pin_at I3, I3.kIn⟩, ?_⟩) hst hpl
      have z : wpAny (model X.prog X.w) X.A (call (.ref h'.objs.size) us) (EP X ((h'.objs.size, PySem.W.methodObj (.ref f2) (.ref a)) :: (hh.objs.size, PySem.W.ks_superObj D a C) :: pins) σ (fun _ H1 => D'.nx σ H1)) X.xe s3 := by
        refine wpAny_call (PySem.W.method_call (ClX.pin_at I3) ?_)
        have r2 : Vals (.ref a :: vs) (.ref a :: us) := .cons rfl rv
        have hl : (Value.ref a :: us).length = ps2.length := by rw [← r2.length]; exact F.len _ _ _ _ q2
        have hb2 := hb s3 (.ref a :: us) I3.kIn (by rw [List.append_nil]; exact hl)
        rw [List.append_nil] at hb2
        refine codeAny_mono (F.run X.A X.stack s3 H2 ⟨.ref a :: us, []⟩ (.ref a :: us) (.ref a :: vs) _ E hr I3.env0 hb2 r2 q2) fun r s' hq => ?_
        cases r with
        | error e => exact hx _ σ H2 s3 e s' I3 hq
        | ok fl =>
          cases fl with
          | ret u => exact I3.after hq
          | next => exact False.elim hq
          | brk => exact False.elim hq
          | cont => exact False.elim hq
      refine thn z fun v s' y => ?_
      obtain ⟨v', H', I4, r4, q4⟩ := ClX.unpinE (ClX.unpinE y)
      exact wpAt_of_wpAny (wpAny_execs_nil ⟨σ, H', I4, q4⟩)

/-! ### in the words of Mir -/
abbrev WSA (X : Cx) (nm : Nm) (E : XK) (bd ss : List Stmt) (m : MS) : Prop := PAt X bd ss (lS (tb X nm) m E)
theorem pat_imp {ss : List Stmt} {t t' : TS} (h : PAt X bd ss t) (hq : ∀ D σ H, t' D σ H → t D σ H) : PAt X bd ss t' := ⟨fun pins s σ H D I q => h.run pins s σ H D I (hq D σ H q)⟩
theorem wsa_cons {s : Stmt} {ss : List Stmt} {m k : MS} (h1 : WS X nm E s m) (h2 : WSA X nm E bd ss k) : WSA X nm E bd (s :: ss) (sSeq m k) := pat_imp (pat_cons h1 h2) fun D σ H ⟨w, d, e, o, re, h⟩ => by
  subst e
  refine ⟨w, d, rfl, o, re, h.bind.imp fun f w1 o1 x1 q => ?_⟩
  cases f with
  | nx d1 => exact fun σ1 re1 => ⟨w1, d1, rfl, o1, re1, q⟩
  | rt x => exact q w1 o1 (Ext.refl _) rfl
  | br d1 => exact q w1 o1 (Ext.refl _) rfl
  | ct d1 => exact q w1 o1 (Ext.refl _) rfl
/-- super().m(..) of an object of the class c, which is the first slot's -/
def eSup (c : Nat) (m : MF) (a : MA) : ME := fun d S => match getS d 0 with
  | some x => match clsOf S x with
    | some c' => if Nat.beq c' c then (a d S).bind fun xs S1 => m (x :: xs) S1 else .bad
    | none => .bad
  | none => .bad
/-- what is known of the class and of the method above it -/
structure SupG (P : Program) (w : World) (K : Frag) (mg : Str → Option Value) (base : Heap) (nm : Nm) (k : Nat) (c d : Nat) (mn : Str) (m : MF) : Prop where
  ex : ∃ (C D f2 : Addr) (fd2 : FuncData) (ps2 : List Str), (⟨K, mg, nm⟩ : Tab).cls c = some C ∧ (⟨K, mg, nm⟩ : Tab).cls d = some D ∧ PySem.W.mroIn K C (.ref D) = some true ∧ mg "super" = none ∧ (P.main.scope.names.lookup ("super" : Str)).isSome = false ∧
    PySem.W.nsIn K cStatics "thirdparty.any" = some none ∧ PySem.W.ks_superIn K C D mn = some (some (.ref f2)) ∧ PySem.W.typeIn K (.ref f2) = some (.type "function") ∧ PySem.W.fnIn K f2 = true ∧
    FnOk P w K mg base CX0 k f2 fd2 ps2 (spM ⟨K, mg, nm⟩ m) ∧ Binds K fd2 ps2 []
theorem ws_sup {sv mn : Str} {c dc : Nat} {D : Addr} {k : Nat} {m : MF} {e : Expr} {es : List Expr} {a : MA} (G : SupG X.prog X.w X.K X.mg X.base nm k c dc mn m) (hD : (tb X nm).cls dc = some D)
    (S : SupE X sv D) (hr : Room k X.A) (ha : WA X nm E (e :: es) a)
    (hN : X.N[0]? = some sv := by rfl) (hka : X.env.scope.names.lookup sv = some .local := by rfl) (hks : X.env.scope.names.lookup ("super" : Str) = some .globalImplicit := by rfl) (hkc : X.env.scope.names.lookup ("__class__" : Str) = some .free := by rfl)
    (hat : (mn == ("__class__" : Str)) = false := by decide)
    (hst : starEach (e :: es) X.env = (false, eval e X.env) :: starEach es X.env := by rfl) (hpl : (backTo pos (starEach es X.env)).any (·.1) = false := by rfl)
    (hcl : (sv == ("__class__" : Str)) = false := by decide)
    (hi : interactive X.env = false := by rfl) (hs : swapsWith (.Call (.Attribute (.Call (.Name "super" p0) [] [] p1) mn apos) (e :: es) [] pos) none spos.line X.env = pure false := by rfl) {pl : Sem Bool}
    (he : eval (.Call (.Attribute (.Call (.Name "super" p0) [] [] p1) mn apos) (e :: es) [] pos) X.env = (do
      let ov ← attributeBase (.Call (.Name "super" p0) [] [] p1) mn X.env (eval (.Call (.Name "super" p0) [] [] p1) X.env)
      standAt apos.atName
      let (f, first) ← holding [ov] (getMethod ov mn pl)
      callWith pos f first (backTo pos (starEach (e :: es) X.env)) []) := by rfl) :
    WSA X nm E bd [.Expr (.Call (.Attribute (.Call (.Name "super" p0) [] [] p1) mn apos) (e :: es) [] pos) spos] (sExpr (eSup c m a)) := by
  obtain ⟨C, D', f2, fd2, ps2, g1, g2, g3, g4, g5, g6, g7, g8, g9, g10, g11⟩ := G.ex
  obtain rfl : D' = D := Option.some.inj (g2.symm.trans hD)
  refine pat_imp (sup_last S hN hka hks hkc g3 g4 g5 g6 g7 g8 g9 hat g10 g11 hr (passE (E := E)) ha hst hpl hcl hi hs he) fun D σ H ⟨w, d, eH, o, re, h⟩ => ?_
  subst eH
  have h' : PostG (tb X nm) w ((eSup c m a d w.S).bind fun _ S1 => .ok (.nx d) S1) (QS (tb X nm) D) E := h
  unfold eSup at h'
  cases g : getS d 0 with
  | none => rw [g] at h'; exact h'.elim
  | some x =>
    rw [g] at h'
    dsimp only at h'
    cases gc : clsOf w.S x with
    | none => rw [gc] at h'; exact h'.elim
    | some c' =>
      rw [gc] at h'
      dsimp only at h'
      cases gb : Nat.beq c' c with
      | false => rw [gb] at h'; exact h'.elim
      | true =>
        rw [gb] at h'
        obtain rfl : c' = c := Nat.eq_of_beq_eq_true gb
        obtain ⟨v, hv, rv⟩ := re.get g
        obtain ⟨a', C', dx, ws, fs, rfl, hH, hC, _, _⟩ := o.ins gc rv
        obtain rfl : C' = C := Option.some.inj (hC.symm.trans g1)
        refine ⟨a', dx, fs, hv, hH, ?_⟩
        have h2 : PostG (tb X nm) w ((a d w.S).bind fun xs S1 => (m (x :: xs) S1).bind fun _ S1 => .ok (.nx d) S1) (QS (tb X nm) D) E := by
          have q := h'
          simp only [if_true] at q
          cases ga : a d w.S with
          | ok xs S1 => rw [ga] at q; exact q
          | err _ _ => rw [ga] at q; exact q
          | bad => rw [ga] at q; exact q
        refine lA_imp (lA_bind o re h2) ?_
        rintro vs H1 ⟨w1, xs, rfl, o1, x1, re1, rvs, h3⟩
        refine ⟨w1, x :: xs, rfl, o1, .cons (rv.mono x1.le x1.ex) rvs, (PostG.bind h3).imp fun y w2 o2 x2 q v rv2 => ?_⟩
        exact PostG.here (Q := QS (tb X nm) D) o2 rfl q σ (re1.mono x2.le x2.ex)
end

/-! ### the def -/
/-- a def of a class that says super() as it stands behind the top -/
structure FunS (P : Program) (K : Frag) (x qual sv : Str) (st : Stmt) (f : Addr) (fd : FuncData) (D : Addr) : Prop where
  ex : ∃ (oc : Value) (od : Option Addr) (kV doc pm : Value) (an : Option Addr) (c cc : Addr) (ct : Value) (osl : Array (Option Value)) (ar : Arg) (ccl : Value) (cdd : Option Addr) (vs : Array Value) (ccs : Array (Option Value)) (file : Str) (tf : Tok) (cl : Value) (cld : Option Addr) (csl : Array (Option Value)) (cdD : ClassData),
    fd = PySem.W.fnX x qual (defArgs st) (defBody st) (defScope st) [("__class__", cc)] .none kV doc pm an (.ref c) ct ∧ K.lookup f = some ⟨oc, od, .func fd, osl⟩ ∧ PySem.W.codeIn K (.ref c) qual = true ∧
    (fd.params.posonlyargs ++ fd.params.args).head? = some ar ∧ ar.arg = sv ∧ K.lookup c = some ⟨ccl, cdd, .fields vs, ccs⟩ ∧ vs[2]? = some (.str file tf) ∧ ((P.main.file : Str) == file) = true ∧
    K.lookup cc = some ⟨cl, cld, .cell (some (.ref D)), csl⟩ ∧ PySem.W.clsIn K D = some cdD
theorem FunS.binds {P : Program} {K : Frag} {x qual sv : Str} {st : Stmt} {f D : Addr} {fd : FuncData} {ps : List Str} (F : FunS P K x qual sv st f fd D)
    (h : ∀ (kV doc pm : Value) (an : Option Addr) (c cc : Addr) (ct : Value) (us : List Value), us.length = ps.length → bindArgs (PySem.W.fnX x qual (defArgs st) (defBody st) (defScope st) [("__class__", cc)] .none kV doc pm an (.ref c) ct) ⟨us, []⟩ = pure (ps.zip us)) : Binds K fd ps [] := by
  obtain ⟨oc, od, kV, doc, pm, an, c, cc, ct, osl, ar, ccl, cdd, cvs, ccs, file, tf, cl, cld, csl, cdD, rfl, _⟩ := F.ex
  exact .all (h kV doc pm an c cc ct)
section
variable {P : Program} {w : World} {K : Frag} {mg : Str → Option Value} {base : Heap} {nm : Nm}
abbrev supNF (x qual : Str) (st : Stmt) (c cc : Addr) : NdefX.NF := ⟨x, qual, defArgs st, defBody st, defScope st, [("__class__", cc)], c⟩
theorem fn_sup {x qual sv : Str} {st : Stmt} {f D : Addr} {fd : FuncData} {N ps : List Str} {k np n : Nat} {b : MS} (F : FunS P K x qual sv st f fd D) (S : NdefX.NScope N ps ["__class__"] (defScope st)) (hp : ps.length = np) (hn : N.length = n)
    (hb : ∀ (c cc : Addr) (A : Around) (outer : List PySem.Env) (s : Shared) (H : Hp) (E : XK), Room k (A.deeper (NdefX.envF (supNF x qual st c cc) f s.heap.objs.size)) → SupE (NdefX.ncx CX0 P w K mg base N (supNF x qual st c cc) f A outer s H E).nox sv D →
      WSA (NdefX.ncx CX0 P w K mg base N (supNF x qual st c cc) f A outer s H E).nox nm E (defBody st) (defBody st) b) :
    FnOk P w K mg base CX0 (k + 1) f fd ps (spM ⟨K, mg, nm⟩ (fnOf np n b)) := by
  have len : ∀ vs H Q E, spM ⟨K, mg, nm⟩ (fnOf np n b) vs H Q E → vs.length = ps.length := by
    rintro vs H Q E ⟨w, ws, e, o, r, h⟩
    have h' : PostG ⟨K, mg, nm⟩ w (if !Nat.beq ws.length np then .bad else _) _ E := h
    cases g : Nat.beq ws.length np with
    | false => rw [g] at h'; exact h'.elim
    | true => rw [← r.length, hp]; exact Nat.eq_of_beq_eq_true g
  obtain ⟨oc, od, kV, doc, pm, an, c, cc, ct, osl, ar, ccl, cdd, cvs, ccs, file, tf, cl, cld, csl, cdD, rfl, s2, hcd, s3, s4, s6, s7, s8, s10, s11⟩ := F.ex
  refine ⟨len, fun A outer s H args us vs Q E hr e0 hbd r hsp => ?_⟩
  have hl := len _ _ _ _ hsp
  have KX : K.In s.heap := e0.mod.kin.keeps fun b o e => (e0.bs b o e).1
  have lim : s.heap.NoLimit := e0.mod.nolimit.keeps fun b o e => (e0.bs b o e).1
  refine PySem.ks_codeAny_call_defAt (body := defBody st) (binds := ps.zip us) hr.depth (KX _ _ s2) rfl lim (PySem.W.codeRec_of KX hcd) rfl hbd S.nocell (fun ⟨y, _⟩ hy => S.par y (List.of_mem_zip hy).1) (fun h₁ hns kp => ?_) S.co S.gen S.kind
  have C : NdefX.CellsAt [(("__class__" : Str), cc)] ["__class__"] [none] s.heap H := by
    have one : ∀ (y : Str) (c : Addr), List.lookup y [(("__class__" : Str), cc)] = some c → y = "__class__" ∧ c = cc := fun y c e => by
      have := PySem.mem_of_lookup e
      simp only [List.mem_singleton, Prod.mk.injEq] at this
      exact this
    have hcb : base.get? cc = some _ := e0.mod.kin _ _ s10
    refine ⟨rfl, fun y c e => ?_, fun x y c e1 e2 => (one x c e1).1.trans (one y c e2).1.symm, fun i y e => ?_⟩
    · obtain ⟨_, rfl⟩ := one y c e
      exact ⟨(e0.bs _ _ hcb).2, _, _, (e0.bs _ _ hcb).1, rfl⟩
    · cases i with
      | zero =>
        cases e
        exact ⟨cc, rfl, fun v hv => by cases hv⟩
      | succ i => simp at e
  have I0 : Inv (NdefX.ncx CX0 P w K mg base N (supNF x qual st c cc) f A outer s H E) [] (NdefX.startF N vs [none]) H { s with heap := h₁, toks := s.toks + (ps.zip us).length } := NdefX.inv_startN S hr.hd e0 hl r C hns kp
  have I := I0.wish (fun _ _ => False)
  have SE : SupE (NdefX.ncx CX0 P w K mg base N (supNF x qual st c cc) f A outer s H E).nox sv D :=
    ⟨f, cc, c, oc, od, osl, _, ar, ccl, cdd, cvs, ccs, file, tf, cl, cld, csl, cdD, rfl, s2, s3, s4, rfl, s6, s7, s8, rfl, s10, s11⟩
  have hbody := hb c cc A outer s H E (hr.deeper _) SE
  have fin : ∀ {σ' : L2.St} {H' : Hp} {v : V} {u : Value} {s' : Shared}, Inv (NdefX.ncx CX0 P w K mg base N (supNF x qual st c cc) f A outer s H E).nox [] σ' H' s' → L2.RelV v u → Q v H' → CE outer P w H s Q u s' :=
    fun {σ' H' v u s'} J rv q => ⟨v, H', J.os, J.bare, J.base, J.hok, rv, q⟩
  obtain ⟨w1, ws, e, o, rw, h⟩ := hsp
  have h' : PostG ⟨K, mg, nm⟩ w1 (if !Nat.beq ws.length np then .bad else (b (ws.map some ++ List.replicate (n - ws.length) none) w1.S).bind fun f S1 => match f with | .nx _ => .ok .non S1 | .rt w => .ok w S1 | _ => .bad) (QW ⟨K, mg, nm⟩ Q) E := h
  cases g : Nat.beq ws.length np with
  | false => rw [g] at h'; exact h'.elim
  | true =>
    rw [g] at h'
    have hpl : ps.length + 1 ≤ N.length := by
      have q := congrArg List.length S.pre
      rw [List.length_take, List.length_append] at q
      simp at q
      omega
    have es : NdefX.startF N vs [none] = vs.map some ++ List.replicate (N.length - vs.length) none := by
      unfold NdefX.startF
      have : N.length - vs.length = (N.length - vs.length - 1) + 1 := by omega
      rw [this, List.replicate_succ] <;> rfl
    rw [es] at I
    refine PySem.ks_wpAt_mono (hbody.run [] _ _ H { nx := fun _ H' => Q .non H', rt := Q } I ⟨w1, ws.map some ++ List.replicate (n - ws.length) none, e, o, ?_, (PostG.bind h').imp fun f w2 o2 x2 q => ?_⟩) (fun fl s' hs => ?_) fun _ _ z => z.elim
    · have := RelEnv.start rw n
      rw [hn]
      exact this
    · cases f with
      | nx d => exact fun σ _ => PostG.val (T := ⟨K, mg, nm⟩) o2 q .non
      | rt x => exact q w2 o2 (Ext.refl _) rfl
      | br d => exact q.elim
      | ct d => exact q.elim
    · cases fl with
      | ret u =>
        obtain ⟨v, σ', H', J, rv, q⟩ := hs
        exact fin J rv q
      | next =>
        obtain ⟨σ', H', J, q⟩ := hs
        exact fin (v := V.non) (u := Value.none) J rfl q
      | brk =>
        obtain ⟨_, _, _, q⟩ := hs
        exact False.elim q
      | cont =>
        obtain ⟨_, _, _, q⟩ := hs
        exact False.elim q
end
end MW
set_option Elab.async false
set_option linter.all false
set_option maxRecDepth 100000
set_option maxHeartbeats 2000000
/-! MR12: == and != of objects whose class has its own __eq__. -/
namespace MW
open PySem PySem.Spec PyProof.Rows L2 Mir
/-! ### x != y by the own __eq__ -/
section
open PySem.W
variable {prog : Program} {w : World} {A : Around} {E : Value → Shared → Prop} {s : Shared} {K : Frag} {x C L f : Addr} {h₀ : Heap} {m : Str → Option Value} {ox : Obj} {od : Option Obj} {b tb : Value}
theorem ne_entry {Q : Fin → Shared → Prop} (hu : A.units < cLine) (X : K.In s.heap) (I : InstAt s.heap x ox C od) (hs : findIn K (.ref C) "__eq__" = some (some (.ref f))) (hf : isFn K (.ref f) = true)
    (hcall : wpAny (model prog w) A (call (.ref f) [.ref x, b]) (fun v s' => ∃ c, v = .bool c ∧ Q (.done (.ret (.bool (!c)))) s') E s) :
    wpAny (model prog w) A (Builtin.«object.__ne__» ⟨[.ref x, b], []⟩) Q E s := by
  unfold Builtin.«object.__ne__»
  repeat (first
    | with_reducible refine wpAny_cRoomFor hu ?_
    | (refine wpAny_bind (m := callSpecialIfBound? (.ref x) (Str.ofString "__eq__") [b])
        (ifBound_K X I hs hf (wpAny_mono hcall (fun r s' hr => by
          obtain ⟨b, rfl, hq⟩ := hr
          repeat (first | exact hq | exact wpAny_pure hq | exact wpAny_truthy_bool hq | (refine wpAny_bind (m := truthy (.bool _)) (wpAny_truthy_bool ?_)) | wp_step)) fun _ _ e => e)))
    | wp_step)
theorem ne_K {Q : Value → Shared → Prop} (hu : A.units + 1 < cLine) (F : Fr h₀ L s.heap m) (X₀ : K.In h₀) (I : InstAt s.heap x ox C od) (hb : Looks (model prog w) s.heap (typeOf b) tb) (hn : notFirst K C tb = true)
    (hne : findIn K (.ref C) "__ne__" = some (some (.builtin "object.__ne__"))) (hob : mroIn K C (.type "object") = some true) (hs : findIn K (.ref C) "__eq__" = some (some (.ref f))) (hf : isFn K (.ref f) = true)
    (h : wpAny (model prog w) A.in1 (call (.ref f) [.ref x, b]) (fun v s' => ∃ c, v = .bool c ∧ Q (.bool (!c)) s') E s) : wpAny (model prog w) A (richCompare .NotEq (.ref x) b) Q E s := by
  have X := X₀.keeps F.keep
  have isI : Looks (model prog w) s.heap (isInstance (.ref x) (.type "object")) true := I.type.andThen (looks_mroIn X hob)
  have S := PySem.F.cmp_object.ne
  have one : wpAny (model prog w) A (tryCompare (.ref x) "__ne__" b) (fun r s' => ∃ v, r = some v ∧ Q v s') E s := by
    unfold tryCompare
    refine wpAny_bind ?_
    simp only [callSpecialIfBound?, bindSpecialIfBound?]
    refine wpAny_holding (wpAny_bind (wpAny_bind (wpAny_bind (I.type.here ((looks_findIn X hne).here ?_)))))
    simp only [S.bind]
    refine wpAny_bind (wpAny_askSetting (wpAny_ite ?_))
    have fin : wpAny (model prog w) A (call (.builtin "object.__ne__") ([.ref x] ++ [b]) >>= fun v => pure (some v)) (fun r s' => wpAny (model prog w) A (match r with | some .notImplemented | none => pure none | some v => pure (some v)) (fun r s' => ∃ v, r = some v ∧ Q v s') E s') E s := by
      refine wpAny_bind (wpAny_call (codeAny_call_builtin S.plain PySem.F.cmpEntry_ne (check_slot PySem.F.cmpKind_ne PySem.F.cmpSplit_ne isI (PySem.F.cmpArgs_ne _ _) (ne_entry (A := A.in1) hu X I hs hf (wpAny_mono h (fun v s' hv => ?_) fun _ _ e => e)))))
      obtain ⟨c, rfl, hq⟩ := hv
      exact ⟨c, rfl, wpAny_pure (wpAny_pure ⟨_, rfl, hq⟩)⟩
    split
    · exact wpAny_bind (wpAny_pure (wpAny_pure fin))
    · exact wpAny_tryCatch (wpAny_bind (wpAny_pure (wpAny_pure fin)))
  unfold richCompare
  simp only [oneThing_ref]
  refine wpAny_holding (wpAny_bind (wpAny_cRoomFor (by omega) ?_))
  refine wpAny_bind (I.type.here (wpAny_bind (hb.here ?_)))
  split
  · rename_i q
    have e : subIn K tb (.ref C) = some false := by
      rcases Bool.or_eq_true_iff.mp hn with e | e
      · rw [beq_iff_eq.mp e] at q; simp at q
      · exact beq_iff_eq.mp e
    refine wpAny_bind ((looks_subIn X e).here ?_)
    simp only [Bool.false_eq_true, if_false]
    refine wpAny_bind (wpAny_mono one (fun r s' z => ?_) fun _ _ e => e)
    obtain ⟨v, rfl, hq⟩ := z
    exact wpAny_pure hq
  · refine wpAny_bind (wpAny_pure ?_)
    simp only [Bool.false_eq_true, if_false]
    refine wpAny_bind (wpAny_mono one (fun r s' z => ?_) fun _ _ e => e)
    obtain ⟨v, rfl, hq⟩ := z
    exact wpAny_pure hq
end

/-! ### in the words of Mir -/
/-- may the right side not come first? -/
def rightOk (sup : Nat → List Nat) (S : Store) (c : Nat) (y : Mir.W) : Bool := match clsOf S y with
  | some c' => Nat.beq c' c || (tyIs sup S y (.own c) == some false)
  | none => tyIs sup S y (.own c) == some false
def ownGo (sup : Nat → List Nat) (tab : List (Nat × MF)) (k : Bool → Bool) (c : Nat) (x y : Mir.W) (S : Store) : Out Mir.W := match tabAt tab c with
  | some f => if rightOk sup S c y then (f [x, y] S).bind fun r S1 => match r with | .bl b => .ok (.bl (k b)) S1 | _ => .bad else .bad
  | none => .bad
def opEqO (sup : Nat → List Nat) (tab : List (Nat × MF)) : Mir.W → Mir.W → Store → Out Mir.W := fun x y S => match clsOf S x with
  | some c => ownGo sup tab id c x y S
  | none => opEq x y S
def opNeO (sup : Nat → List Nat) (tab : List (Nat × MF)) : Mir.W → Mir.W → Store → Out Mir.W := fun x y S => match clsOf S x with
  | some c => ownGo sup tab not c x y S
  | none => opNe x y S
/-- the classes with their own == -/
structure EqC (P : Program) (w : World) (K : Frag) (mg : Str → Option Value) (base : Heap) (nm : Nm) (k c : Nat) (m : MF) : Prop where
  ex : ∃ (C f : Addr) (fd : FuncData) (ps : List Str), (⟨K, mg, nm⟩ : Tab).cls c = some C ∧ PySem.W.findIn K (.ref C) "__eq__" = some (some (.ref f)) ∧ PySem.W.isFn K (.ref f) = true ∧
    PySem.W.findIn K (.ref C) "__ne__" = some (some (.builtin "object.__ne__")) ∧ PySem.W.mroIn K C (.type "object") = some true ∧ Binds K fd ps [] ∧ FnOk P w K mg base CX0 k f fd ps (spM ⟨K, mg, nm⟩ m)
def EqT (P : Program) (w : World) (K : Frag) (mg : Str → Option Value) (base : Heap) (nm : Nm) (k : Nat) (tab : List (Nat × MF)) : Prop := ∀ c m, tabAt tab c = some m → EqC P w K mg base nm k c m
theorem eqT_nil {P : Program} {w : World} {K : Frag} {mg : Str → Option Value} {base : Heap} {nm : Nm} {k : Nat} : EqT P w K mg base nm k [] := fun c m h => by cases h
theorem eqT_cons {P : Program} {w : World} {K : Frag} {mg : Str → Option Value} {base : Heap} {nm : Nm} {k c : Nat} {m : MF} {tab : List (Nat × MF)} (h : EqC P w K mg base nm k c m) (t : EqT P w K mg base nm k tab) : EqT P w K mg base nm k ((c, m) :: tab) := fun c' m' e => by
  have e' : (if Nat.beq c c' then some m else tabAt tab c') = some m' := e
  cases g : Nat.beq c c' with
  | true =>
    rw [g] at e'
    obtain rfl : c = c' := Nat.eq_of_beq_eq_true g
    cases e'
    exact h
  | false =>
    rw [g] at e'
    exact t c' m' e'
section
variable {X : Cx} {nm : Nm} {E : XK} {sup : Nat → List Nat} {tab : List (Nat × MF)} {k : Nat}
theorem kit_sub {K : Frag} {t : Value} {C : Addr} (h : PySem.W.kitOne K t (.ref C) = some false) : PySem.W.subIn K t (.ref C) = some false := by
  unfold PySem.W.kitOne at h
  split at h
  · cases h
  · have h' : (if ((PySem.W.clsIn K C).isSome && PySem.W.typeIn K (.ref C) == some (.type "type")) = true then PySem.W.subIn K t (.ref C) else none) = some false := h
    split at h'
    · exact h'
    · cases h'
/-- the type of the right side -/
theorem right_ty {pins : List (Addr × Obj)} {σ : L2.St} {w : Wd} {s : Shared} {y : Mir.W} {v : V} {u : Value} {c : Nat} {C : Addr} (F : SF (tb X nm) sup) (o : Ok (tb X nm) w) (I : Inv X pins σ w.H s) (rv : w.rel (tb X nm) y v) (ru : RelV v u) (hC : (tb X nm).cls c = some C) (h : rightOk sup w.S c y = true) :
    ∃ tv, PySem.W.Looks (model X.prog X.w) s.heap (typeOf u) tv ∧ PySem.W.notFirst X.K C tv = true := by
  have gen : tyIs sup w.S y (.own c) = some false → ∃ tv, PySem.W.Looks (model X.prog X.w) s.heap (typeOf u) tv ∧ PySem.W.notFirst X.K C tv = true := fun e => by
    obtain ⟨tv, ty, q⟩ := tyx_of F o rv ⟨_, _, e⟩
    obtain ⟨Pr, kx, hp, _⟩ := kit_of I ru ty
    refine ⟨tv, kx.ty _ _ I.kIn hp, ?_⟩
    have z := kit_sub (q (.own c) false (.ref C) e (by show ((tb X nm).cls c).map Value.ref = _; rw [hC]; rfl))
    unfold PySem.W.notFirst
    rw [show PySem.W.subIn X.K tv (.ref C) = some false from z]
    simp
  unfold rightOk at h
  cases g : clsOf w.S y with
  | none =>
    rw [g] at h
    exact gen (by simpa using h)
  | some c' =>
    rw [g] at h
    rcases Bool.or_eq_true_iff.mp h with e | e
    · obtain rfl : c' = c := Nat.eq_of_beq_eq_true e
      obtain ⟨a, C', dx, ws, fs, rfl, hH, hC', _, _⟩ := o.ins g rv
      obtain rfl : C' = C := Option.some.inj (hC'.symm.trans hC)
      obtain rfl : u = Value.ref a := ru
      obtain ⟨mA, O, _, _, _, _⟩ := ins_get I.hok hH
      obtain ⟨oD, J, hl⟩ := O.look
      exact ⟨.ref C', J.type, by simp [PySem.W.notFirst]⟩
    · exact gen (by simpa using e)
/-- the own == is called -/
theorem own_call {P0 : XK} {pins : List (Addr × Obj)} {σ : L2.St} {w : Wd} {s : Shared} {A : Around} {a b : Mir.W} {x y : V} {v u : Value} {f : Addr} {fd : FuncData} {ps : List Str} {m : MF} {Q : Bool → Hp → Prop} (hr : Room k A) (hA : A.frames = X.A.frames) (hb : Binds X.K fd ps []) (Fn : FnOk X.prog X.w X.K X.mg X.base CX0 k f fd ps (spM (tb X nm) m))
    (o : Ok (tb X nm) w) (I : Inv X pins σ w.H s) (ra : w.rel (tb X nm) a x) (rb : w.rel (tb X nm) b y) (r1 : RelV x v) (r2 : RelV y u)
    (h : PostG (tb X nm) w (m [a, b] w.S) (fun r w1 => ∃ c, r = .bl c ∧ Q c w1.H) E) :
    wpAny (model X.prog X.w) A (call (.ref f) [v, u]) (fun r s' => ∃ c H', r = .bool c ∧ Inv X pins σ H' s' ∧ Q c H') X.xe s := by
  have e0 : Env0 X.prog X.w X.K X.mg X.base A X.stack s w.H := by
    have e := I.env0
    exact ⟨by rw [hA]; exact e.frames, e.mod, e.bs, e.bsz, e.funs, e.frf, e.hok, e.bare⟩
  have r3 : Vals [x, y] [v, u] := .cons r1 (.cons r2 .nil)
  have hsp : spM (tb X nm) m [x, y] w.H (fun r H' => ∃ c, r = .bl c ∧ Q c H') E := ⟨w, [a, b], rfl, o, .cons ra (.cons rb .nil), h.imp fun r w1 o1 x1 ⟨c, e, q⟩ v rv => by subst e; cases rv.bl_inv; exact ⟨c, rfl, q⟩⟩
  have hl := Fn.len _ _ _ _ hsp
  refine wpAny_call (codeAny_mono (Fn.run A X.stack s w.H ⟨[v, u], []⟩ [v, u] [x, y] _ E hr e0 (by
    have := hb s [v, u] I.kIn (by simpa using hl)
    simpa using this) r3 hsp) fun r s' hq => ?_)
  cases r with
  | error e => exact hq.elim
  | ok fl =>
    cases fl with
    | ret w =>
      obtain ⟨z, H', I', rz, c, ez, q⟩ := I.after hq
      subst ez
      cases rz
      exact ⟨c, H', rfl, I', q⟩
    | next => exact False.elim hq
    | brk => exact False.elim hq
    | cont => exact False.elim hq
theorem own_post {T : Tab} {w : Wd} {Q : VK} {c : Nat} {x y : Mir.W} {kk : Bool → Bool} (h : PostG T w (ownGo sup tab kk c x y w.S) (QW T Q) E) :
    ∃ f, tabAt tab c = some f ∧ rightOk sup w.S c y = true ∧ PostG T w (f [x, y] w.S) (fun r w1 => ∃ b, r = .bl b ∧ Q (.bl (kk b)) w1.H) E := by
  unfold ownGo at h
  cases g : tabAt tab c with
  | none => rw [g] at h; exact h.elim
  | some f =>
    rw [g] at h
    dsimp only at h
    cases e : rightOk sup w.S c y with
    | false => rw [e] at h; exact h.elim
    | true =>
      rw [e] at h
      simp only [if_true] at h
      refine ⟨f, rfl, rfl, (PostG.bind h).imp fun r w1 o1 x1 q => ?_⟩
      cases r with
      | bl b => exact ⟨b, rfl, q w1 o1 (Ext.refl _) rfl _ (.bl _)⟩
      | _ => exact q.elim
theorem opw_eqO (F : SF (tb X nm) sup) (G : EqT X.prog X.w X.K X.mg X.base nm k tab) (hr : Room (k + 1) X.A) : OpR X (compareOp .Eq) (lR2 (tb X nm) (opEqO sup tab) E) := by
  rintro pins s σ H x y v u Q I r1 r2 ⟨w, a, b, rfl, o, ra, rb, h⟩
  unfold opEqO at h
  cases g : clsOf w.S a with
  | none =>
    rw [g] at h
    exact opw_eq (room64 hr) pins s σ _ x y v u Q I r1 r2 ⟨w, a, b, rfl, o, ra, rb, h⟩
  | some c =>
    rw [g] at h
    obtain ⟨f, h1, h2, h3⟩ := own_post h
    obtain ⟨C, f, fd, ps, g1, g2, g3, g4, g5, g6, g7⟩ := (G c f h1).ex
    obtain ⟨a', C', dx, ws, fs, rfl, hH, hC', _, _⟩ := o.ins g ra
    obtain rfl : C' = C := Option.some.inj (hC'.symm.trans g1)
    obtain rfl : v = Value.ref a' := r1
    obtain ⟨mA, O, _, _, _, _⟩ := ins_get I.hok hH
    obtain ⟨oD, J, hl⟩ := O.look
    obtain ⟨tv, ty, nf⟩ := right_ty F o I rb r2 g1 h2
    obtain ⟨mF, hF⟩ := I.fr
    show wpAny (model X.prog X.w) X.A (richCompare .Eq (.ref a') u) (EP X pins σ Q) X.xe s
    refine PySem.W.cmp_K (op := .Eq) (tb := tv) (by have := hr.un; omega) hF I.ok.mod.kin J ty nf g2 g3 (thn (own_call (P0 := E) (hr.mono (Nat.le_succ _)) rfl g6 g7 o I ra rb rfl r2 h3) fun r s' ⟨c, H', e, I', q⟩ => ?_)
    subst e
    exact ⟨.bl c, H', I', rfl, q⟩
theorem opw_neO (F : SF (tb X nm) sup) (G : EqT X.prog X.w X.K X.mg X.base nm k tab) (hr : Room (k + 1) X.A) : OpR X (compareOp .NotEq) (lR2 (tb X nm) (opNeO sup tab) E) := by
  rintro pins s σ H x y v u Q I r1 r2 ⟨w, a, b, rfl, o, ra, rb, h⟩
  unfold opNeO at h
  cases g : clsOf w.S a with
  | none =>
    rw [g] at h
    exact opw_ne (room64 hr) pins s σ _ x y v u Q I r1 r2 ⟨w, a, b, rfl, o, ra, rb, h⟩
  | some c =>
    rw [g] at h
    obtain ⟨f, h1, h2, h3⟩ := own_post h
    obtain ⟨C, f, fd, ps, g1, g2, g3, g4, g5, g6, g7⟩ := (G c f h1).ex
    obtain ⟨a', C', dx, ws, fs, rfl, hH, hC', _, _⟩ := o.ins g ra
    obtain rfl : C' = C := Option.some.inj (hC'.symm.trans g1)
    obtain rfl : v = Value.ref a' := r1
    obtain ⟨mA, O, _, _, _, _⟩ := ins_get I.hok hH
    obtain ⟨oD, J, hl⟩ := O.look
    obtain ⟨tv, ty, nf⟩ := right_ty F o I rb r2 g1 h2
    obtain ⟨mF, hF⟩ := I.fr
    show wpAny (model X.prog X.w) X.A (richCompare .NotEq (.ref a') u) (EP X pins σ Q) X.xe s
    refine ne_K (tb := tv) (by have := hr.un; omega) hF I.ok.mod.kin J ty nf g4 g5 g2 g3 (thn (own_call (P0 := E) hr.in1 rfl g6 g7 o I ra rb rfl r2 h3) fun r s' ⟨c, H', e, I', q⟩ => ?_)
    subst e
    exact ⟨c, rfl, .bl (!c), H', I', rfl, q⟩
end
end MW
set_option Elab.async false
set_option linter.all false
set_option maxRecDepth 100000
set_option maxHeartbeats 2000000
/-! MR13: zip and enumerate over lists. -/
namespace MW
open PySem PySem.Spec PyProof.Rows L2 Mir
def isL : Mir.W → Bool
  | .lst _ => true
  | .lsr _ => true
  | .ref _ => true
  | _ => false
theorem isL_or {x : Mir.W} (h : isL x = true) : (∃ xs, x = .lst xs) ∨ (∃ xs, x = .lsr xs) ∨ ∃ n, x = .ref n := by
  cases x with
  | lst xs => exact .inl ⟨xs, rfl⟩
  | lsr xs => exact .inr (.inl ⟨xs, rfl⟩)
  | ref n => exact .inr (.inr ⟨n, rfl⟩)
  | _ => cases h
def iZipL (a b : ME) : MI := fun d S => (a d S).bind fun x S1 => (b d S1).bind fun y S2 => if isL x && isL y then (match itOf S2 x with
  | some (xs, g) => match itOf S2 y with
    | some (ys, g') => .ok (zipL xs ys, g ++ g') S2
    | none => .bad
  | none => .bad) else .bad
def iEnumL (a : ME) : MI := fun d S => (a d S).bind fun x S1 => if isL x then (match itOf S1 x with
  | some (xs, g) => .ok (enumL 0 xs, g) S1
  | none => .bad) else .bad
theorem still_app {S : Store} : ∀ {g g' : Gd}, still S (g ++ g') = true → still S g = true ∧ still S g' = true
  | [], g', h => ⟨rfl, h⟩
  | (n, xs) :: g, g', h => by
    have h' : (match S.get n with | some (.lst ys) => if sameWs ys xs then still S (g ++ g') else false | _ => false) = true := h
    show (match S.get n with | some (.lst ys) => if sameWs ys xs then still S g else false | _ => false) = true ∧ _
    cases e : S.get n with
    | none => rw [e] at h'; cases h'
    | some so =>
      rw [e] at h'
      cases so with
      | lst ys =>
        dsimp only at h' ⊢
        cases q : sameWs ys xs with
        | false => rw [q] at h'; cases h'
        | true =>
          rw [q] at h'
          exact still_app h'
      | dct _ => cases h'
      | ins _ _ => cases h'
theorem zipL_at : ∀ {xs ys : List Mir.W} {i : Nat} {p : Mir.W}, (zipL xs ys)[i]? = some p → ∃ x y, p = .tup [x, y] ∧ xs[i]? = some x ∧ ys[i]? = some y
  | [], _, _, _, h => by cases h
  | _ :: _, [], _, _, h => by cases h
  | x :: r, y :: s, 0, p, h => by
    have h' : some (Mir.W.tup [x, y]) = some p := h
    cases h'
    exact ⟨x, y, rfl, rfl, rfl⟩
  | x :: r, y :: s, i + 1, p, h => zipL_at (xs := r) (ys := s) (i := i) h
theorem zipL_len : ∀ {xs ys : List Mir.W}, xs.length ≤ (zipL xs ys).length ∨ ys.length ≤ (zipL xs ys).length
  | [], _ => .inl (Nat.le_refl _)
  | _ :: _, [] => .inr (Nat.le_refl _)
  | x :: r, y :: s => by
    have e : (zipL (x :: r) (y :: s)).length = (zipL r s).length + 1 := rfl
    rw [e]
    rcases zipL_len (xs := r) (ys := s) with h | h
    · exact .inl (Nat.succ_le_succ h)
    · exact .inr (Nat.succ_le_succ h)
theorem enumL_at : ∀ {xs : List Mir.W} {k i : Nat} {p : Mir.W}, (enumL k xs)[i]? = some p → ∃ x, p = .tup [.int ((k + i : Nat) : Int), x] ∧ xs[i]? = some x
  | [], _, _, _, h => by cases h
  | x :: r, k, 0, p, h => by
    have h' : some (Mir.W.tup [.int k, x]) = some p := h
    cases h'
    exact ⟨x, rfl, rfl⟩
  | x :: r, k, i + 1, p, h => by
    obtain ⟨y, e, q⟩ := enumL_at (xs := r) (k := k + 1) (i := i) h
    exact ⟨y, by rw [e, show k + 1 + i = k + (i + 1) by omega], q⟩
theorem enumL_len : ∀ {xs : List Mir.W} {k : Nat}, (enumL k xs).length = xs.length
  | [], _ => rfl
  | x :: r, k => congrArg (· + 1) (enumL_len (xs := r) (k := k + 1))
section
variable {T : Tab} {w : Wd}
theorem walk_z {a b : Addr} {xs ys : List Mir.W} {g : Gd} (h : ∀ w', Ok T w' → ExtG w w' → still w'.S g = true → (∃ vs, SqL T.K w'.H a vs ∧ w'.rels T xs vs) ∧ ∃ vs, SqL T.K w'.H b vs ∧ w'.rels T ys vs) : Walk T w (zipL xs ys) g (Itz T.K a b) := fun w' o x st => by
  obtain ⟨⟨vs, sq, q⟩, vs', sq', q'⟩ := h w' o x st
  refine ⟨fun i y e => ?_, vs, vs', sq, sq', ?_⟩
  · obtain ⟨x1, y1, rfl, e1, e2⟩ := zipL_at e
    obtain ⟨v, f1, r1⟩ := q.get e1
    obtain ⟨v', f2, r2⟩ := q'.get e2
    refine ⟨⟨vs, vs', v, v', sq, sq', f1, f2⟩, fun u H' hy => ?_⟩
    obtain ⟨Tp, x2, y2, rfl, hT, rfl, k1, k2⟩ := hy
    have z1 := k1 vs sq
    have z2 := k2 vs' sq'
    rw [f1] at z1
    rw [f2] at z2
    cases z1
    cases z2
    have x3 := Ext.layF (o := .tup [v, v']) o hT
    exact ⟨w'.layF Tp (.tup [v, v']), rfl, o.layF hT, x3, rfl, .tup (SqT.of (by show upd w'.G Tp _ Tp = _; exact upd_same)) (.cons (r1.mono x3.le x3.ex) (.cons (r2.mono x3.le x3.ex) .nil))⟩
  · rw [← q.length, ← q'.length]
    exact zipL_len
theorem walk_e {a : Addr} {xs : List Mir.W} {g : Gd} (h : ∀ w', Ok T w' → ExtG w w' → still w'.S g = true → ∃ vs, SqL T.K w'.H a vs ∧ w'.rels T xs vs) : Walk T w (enumL 0 xs) g (Ite T.K a) := fun w' o x st => by
  obtain ⟨vs, sq, q⟩ := h w' o x st
  refine ⟨fun i y e => ?_, vs, sq, ?_⟩
  · obtain ⟨x1, rfl, e1⟩ := enumL_at e
    obtain ⟨v, f1, r1⟩ := q.get e1
    refine ⟨⟨vs, v, sq, f1⟩, fun u H' hy => ?_⟩
    obtain ⟨Tp, x2, rfl, hT, rfl, k1⟩ := hy
    have z1 := k1 vs sq
    rw [f1] at z1
    cases z1
    have x3 := Ext.layF (o := .tup [.int (i : Nat), v]) o hT
    refine ⟨w'.layF Tp (.tup [.int (i : Nat), v]), rfl, o.layF hT, x3, rfl, .tup (SqT.of (by show upd w'.G Tp _ Tp = _; exact upd_same)) ?_⟩
    rw [show (0 + i : Nat) = i by omega]
    exact .cons (.int _) (.cons (r1.mono x3.le x3.ex) .nil)
  · rw [enumL_len, q.length]
    exact Nat.le_refl _
theorem itOf_now (o : Ok T w) {x : Mir.W} {v : V} {p : List Mir.W × Gd} (e : itOf w.S x = some p) (rv : w.rel T x v) (hl : isL x = true) : ∃ a, v = .ref a ∧ (∃ vs, SqL T.K w.H a vs) ∧ ∀ w', Ok T w' → ExtG w w' → still w'.S p.2 = true → ∃ vs, SqL T.K w'.H a vs ∧ w'.rels T p.1 vs := by
  obtain ⟨a, rfl, k⟩ := itOf_lst o e rv (isL_or hl)
  refine ⟨a, rfl, ?_, k⟩
  rcases isL_or hl with ⟨xs, rfl⟩ | ⟨xs, rfl⟩ | ⟨n, rfl⟩
  · obtain ⟨a', vs, e1, h3, _⟩ := rv.lst_inv
    cases e1
    exact ⟨vs, SqL.of (o.ex _ _ h3)⟩
  · obtain ⟨a', vs, e1, h3, _⟩ := rv.lsr_inv
    cases e1
    exact ⟨vs, sqL_ex o.ex h3⟩
  · have e2 : (match w.S.get n with | some (.lst xs) => some (xs, [(n, xs)]) | _ => none) = some p := e
    cases g : w.S.get n with
    | none => rw [g] at e2; cases e2
    | some so =>
      rw [g] at e2
      cases so with
      | lst xs =>
        obtain ⟨a', vs, e3, _, _, h3, q⟩ := o.lstAt g rv
        cases e3
        exact ⟨vs, SqL.of h3⟩
      | dct _ => cases e2
      | ins _ _ => cases e2
end
section
variable {X : Cx} {nm : Nm} {E : XK} {pos tpos p : Pos} {elts : List Expr} {kk : Nat}
theorem wi_zip {a b : Expr} {m k : ME} (h1 : WE X nm E a m) (h2 : WE X nm E b k) (hm : X.mg "zip" = none) (hg : Gl X "zip" := by rfl)
    (hs : starEach [a, b] X.env = (false, eval a X.env) :: starEach [b] X.env := by rfl) (hs2 : starEach [b] X.env = (false, eval b X.env) :: starEach [] X.env := by rfl) (hpl : (backTo pos (starEach [b] X.env)).any (·.1) = false := by rfl) :
    WI X nm E (.Tuple elts kk tpos) (.Call (.Name "zip" p) [a, b] [] pos) (iZipL m k) :=
  pi_imp (pi_zip hg hm (pa_cons h1 (pa_cons h2 pa_nil hs2) hs) hs hpl) fun σ H R ⟨w, d, eH, o, re, h⟩ => by
    subst eH
    refine lE_imp (lE_bind o re h) ?_
    rintro x H1 ⟨w1, a', rfl, o1, x1, re1, ra, h1⟩
    refine lE_imp (lE_bind o1 re1 h1) ?_
    rintro y H2 ⟨w2, b', rfl, o2, x2, re2, rb, h2⟩
    have ra := ra.mono x2.le x2.ex
    cases e : isL a' && isL b' with
    | false => rw [e] at h2; exact h2.elim
    | true =>
      rw [e] at h2
      obtain ⟨l1, l2⟩ := Bool.and_eq_true_iff.mp e
      simp only [if_true] at h2
      cases g : itOf w2.S a' with
      | none => rw [g] at h2; exact h2.elim
      | some p1 =>
        rw [g] at h2
        cases g' : itOf w2.S b' with
        | none => rw [g'] at h2; exact h2.elim
        | some p2 =>
          rw [g'] at h2
          obtain ⟨a1, rfl, ⟨vs1, s1⟩, k1⟩ := itOf_now o2 g ra l1
          obtain ⟨a2, rfl, ⟨vs2, s2⟩, k2⟩ := itOf_now o2 g' rb l2
          exact ⟨a1, a2, vs1, vs2, rfl, s1, s2, h2 w2 o2 (Ext.refl _) rfl _ (walk_z fun w' o' x' st => ⟨k1 w' o' x' (still_app st).1, k2 w' o' x' (still_app st).2⟩)⟩
theorem wi_enum {a : Expr} {m : ME} (h1 : WE X nm E a m) (hm : X.mg "enumerate" = none) (hg : Gl X "enumerate" := by rfl)
    (hs : starEach [a] X.env = [(false, eval a X.env)] := by rfl) (hs2 : starEach [a] X.env = (false, eval a X.env) :: starEach [] X.env := by rfl) :
    WI X nm E (.Tuple elts kk tpos) (.Call (.Name "enumerate" p) [a] [] pos) (iEnumL m) :=
  pi_imp (pi_enum hg hm (pa_cons h1 pa_nil hs2) hs) fun σ H R ⟨w, d, eH, o, re, h⟩ => by
    subst eH
    refine lE_imp (lE_bind o re h) ?_
    rintro x H1 ⟨w1, a', rfl, o1, x1, re1, ra, h2⟩
    cases e : isL a' with
    | false => rw [e] at h2; exact h2.elim
    | true =>
      rw [e] at h2
      simp only [if_true] at h2
      cases g : itOf w1.S a' with
      | none => rw [g] at h2; exact h2.elim
      | some p1 =>
        rw [g] at h2
        obtain ⟨a1, rfl, ⟨vs1, s1⟩, k1⟩ := itOf_now o1 g ra e
        exact ⟨a1, vs1, rfl, s1, h2 w1 o1 (Ext.refl _) rfl _ (walk_e k1)⟩
end
end MW
set_option Elab.async false
set_option linter.all false
set_option maxRecDepth 100000
set_option maxHeartbeats 2000000
/-! MR14: repr of data, compared; defs that are called where nothing is being written. -/
namespace MW
open PySem PySem.Spec PyProof.Rows L2 Mir
/-! ### how long a text of data is -/
mutual
def szW : Mir.W → Nat
  | .non => 4
  | .bl _ => 5
  | .int _ => 14
  | .str z => 10 * z.length + 2
  | .tup xs => szWs xs + 3
  | .lst xs => szWs xs + 3
  | _ => 4
def szWs : List Mir.W → Nat
  | [] => 0
  | x :: r => szW x + 2 + szWs r
end
mutual
def shW : Mir.W → Bool
  | .int i => decide (i.natAbs < 1000000000000)
  | .tup xs => shWs xs
  | .lst xs => shWs xs
  | .str z => okS z
  | _ => true
def shWs : List Mir.W → Bool
  | [] => true
  | x :: r => shW x && shWs r
end
theorem textFrom_le : ∀ (ts : List Str) (k : Nat) (acc : Str), (textFrom k acc ts).length ≤ acc.length + piled ts
  | [], k, acc => Nat.le_refl _
  | t :: r, k, acc => by
    refine Nat.le_trans (textFrom_le r (k + 1) _) ?_
    rw [strLen_append, strLen_append, piled_cons]
    split
    · have : (Str.ofString ", ").length = 2 := by decide
      omega
    · have : (Str.ofString "").length = 0 := by decide
      omega
mutual
theorem sz_of : ∀ x : Mir.W, shW x = true → (toD x).shown.length ≤ szW x ∧ (toD x).showable = true ∧ (toD x).hasDict = false
  | .non, _ => ⟨by decide, rfl, rfl⟩
  | .bl b, _ => ⟨by cases b <;> decide, rfl, rfl⟩
  | .int i, h => by
    have h' := of_decide_eq_true (show decide (i.natAbs < 1000000000000) = true from h)
    refine ⟨?_, decide_eq_true (log2_small h'), rfl⟩
    have e : (toD (.int i)).shown = Str.ofString (toString i) := by simp only [toD, PyData.shown]; try rfl
    rw [e, PySem.ofString_length]
    exact Nat.le_trans (int_text_length_le10 (k := 12) (by decide) (by omega)) (by show 13 ≤ 14; decide)
  | .str z, h => by
    refine ⟨?_, rfl, rfl⟩
    have e : (toD (.str z)).shown = reprText ⟨z.toArray⟩ := by simp only [toD, PyData.shown]
    rw [e]
    refine Nat.le_trans (StrLaws.reprText_len _ fun c hc => Nat.lt_trans (okS_asc h c (by simpa using hc)) (by decide)) ?_
    show 10 * z.toArray.size + 2 ≤ 10 * z.length + 2
    simp
  | .tup xs, h => by
    obtain ⟨h1, h2, h3⟩ := szs_of xs h
    refine ⟨?_, by simp only [toD, PyData.showable]; exact h2, by simp only [toD, PyData.hasDict]; exact h3⟩
    have e : (toD (.tup xs)).shown = tupleText (PyData.shownAll (toDs xs)) := by simp only [toD, PyData.shown]
    rw [e]
    unfold tupleText
    rw [strLen_append, strLen_append]
    have e1 : (Str.ofString "(").length = 1 := by decide
    have e2 : (Str.ofString (if (PyData.shownAll (toDs xs)).length == 1 then ",)" else ")")).length ≤ 2 := by split <;> decide
    have e3 : (Str.join ", " (PyData.shownAll (toDs xs))).length ≤ piled (PyData.shownAll (toDs xs)) := by
      cases q : PyData.shownAll (toDs xs) with
      | nil => decide
      | cons a r => have := join_length_add (a :: r) (by simp); omega
    show _ ≤ szWs xs + 3
    omega
  | .lst xs, h => by
    obtain ⟨h1, h2, h3⟩ := szs_of xs h
    refine ⟨?_, by simp only [toD, PyData.showable]; exact h2, by simp only [toD, PyData.hasDict]; exact h3⟩
    have e : (toD (.lst xs)).shown = listText (PyData.shownAll (toDs xs)) := by simp only [toD, PyData.shown]
    rw [e]
    unfold listText
    rw [strLen_append]
    have e1 : (Str.ofString "[").length = 1 := by decide
    have e2 : (Str.ofString "]").length = 1 := by decide
    have e3 := textFrom_le (PyData.shownAll (toDs xs)) 0 "["
    show _ ≤ szWs xs + 3
    omega
  | .obj _ _, _ => ⟨by show (PyData.shown .none).length ≤ 4; decide, rfl, rfl⟩
  | .ref _, _ => ⟨by show (PyData.shown .none).length ≤ 4; decide, rfl, rfl⟩
  | .cls _, _ => ⟨by show (PyData.shown .none).length ≤ 4; decide, rfl, rfl⟩
  | .lsr _, _ => ⟨by show (PyData.shown .none).length ≤ 4; decide, rfl, rfl⟩
theorem szs_of : ∀ xs : List Mir.W, shWs xs = true → piled (PyData.shownAll (toDs xs)) ≤ szWs xs ∧ PyData.showableAll (toDs xs) = true ∧ PyData.hasDictAll (toDs xs) = false
  | [], _ => ⟨Nat.le_refl _, rfl, rfl⟩
  | x :: r, h => by
    obtain ⟨a, b⟩ := Bool.and_eq_true_iff.mp (show (shW x && shWs r) = true from h)
    obtain ⟨h1, h2, h3⟩ := sz_of x a
    obtain ⟨k1, k2, k3⟩ := szs_of r b
    refine ⟨?_, ?_, ?_⟩
    · show piled ((toD x).shown :: PyData.shownAll (toDs r)) ≤ szW x + 2 + szWs r
      rw [piled_cons]
      omega
    · show ((toD x).showable && PyData.showableAll (toDs r)) = true
      rw [h2, k2] <;> rfl
    · show ((toD x).hasDict || PyData.hasDictAll (toDs r)) = false
      rw [h3, k3] <;> rfl
end

/-! ### repr -/
def rRp (K : Frag) : List V → Hp → VK → Prop := fun xs H Q => ∃ x d, xs = [x] ∧ Dp K H x d ∧ d.showable = true ∧ d.hasDict = false ∧ d.depth ≤ 60 ∧ d.shown.length ≤ sizeLine ∧ Q (.str d.shown) H
section
variable {X : Cx} {nm : Nm} {E : XK} {pos p p1 p2 pos1 pos2 : Pos}
theorem call_repr (hg : X.A.guards = some []) (hu : X.A.units + 64 < cLine) : CallR X (.builtin "repr") (rRp X.K) := by
  rintro pins s σ H xs us Q I r ⟨x, d, rfl, hd, hs, hn, hdp, hl, q⟩
  obtain ⟨u, rfl, ru⟩ := vals1 r
  obtain ⟨as, rd⟩ := Dp.reads I d x u hd ru
  have fin : ∀ (h' : Heap) (tk' : Tok) (tk : Nat), (∀ b o, s.heap.get? b = some o → h'.get? b = some o) → EP X pins σ Q (.str d.shown tk') { s with heap := h', toks := tk } := fun h' tk' tk k => ⟨.str d.shown, H, I.kept k, ⟨_, rfl⟩, q⟩
  have big : ∀ a, u = Value.ref a → wpAny (model X.prog X.w) X.A (call (.builtin "repr") [u]) (EP X pins σ Q) X.xe s := fun a e => by
    subst e
    exact repr_of_reads' rd hs (fun z => by rw [hn] at z; cases z) hg (by omega) (fun _ _ e => e) (fun h' u tk k => fin h' u tk k) hl
  cases hd with
  | non =>
    cases ru
    exact P.repr_of_none (fin s.heap _ _ fun _ _ e => e)
  | bl b =>
    cases ru
    have e : (PyData.shown (.bool b) : Str) = (if b then Str.ofString "True" else Str.ofString "False") := by cases b <;> rfl
    rw [e] at fin
    exact P.repr_of_bool (fin s.heap _ _ fun _ _ e => e)
  | int i =>
    obtain ⟨t, rfl⟩ := ru
    exact P.repr_of_int (of_decide_eq_true hs) (fin s.heap _ _ fun _ _ e => e)
  | str y =>
    obtain ⟨t, rfl⟩ := ru
    exact P.repr_of_str (fin s.heap _ _ fun _ _ e => e) hl
  | lst _ _ => exact big _ ru
  | tup _ _ => exact big _ ru
def rpOk (x : Mir.W) : Bool := dle 30 x && shW x && Nat.ble (szW x) LIM
/-- repr(a) == repr(b), both told to be alike -/
def eRp (r : Bool) (a b : ME) : ME := fun d S => (a d S).bind fun x S1 => if rpOk (rd S1 x) then ((b d S1).bind fun y S2 => if sameW (rd S1 x) (rd S2 y) then .ok (.bl r) S2 else .bad) else .bad
theorem dle_data {T : Tab} {w : Wd} (o : Ok T w) {x : Mir.W} {v : V} (h : rpOk (rd w.S x) = true) (rv : w.rel T x v) : Dp T.K w.H v (toD (rd w.S x)) ∧ (toD (rd w.S x)).showable = true ∧ (toD (rd w.S x)).hasDict = false ∧ (toD (rd w.S x)).depth ≤ 60 ∧ (toD (rd w.S x)).shown.length ≤ sizeLine := by
  obtain ⟨h1, h2⟩ := Bool.and_eq_true_iff.mp h
  obtain ⟨h3, h4⟩ := Bool.and_eq_true_iff.mp h1
  obtain ⟨d1, _, d3⟩ := dp_rd o h3 rv
  obtain ⟨k1, k2, k3⟩ := sz_of _ h4
  exact ⟨d1, k2, k3, by omega, Nat.le_trans k1 (lim_size h2)⟩
theorem rp_of {rr : R2} {b0 : Bool} {ma mb : ME} (hr : ∀ z H Q, Q (V.bl b0) H → rr (.str z) (.str z) H Q)
    {σ : L2.St} {H : Hp} {Q : VK} (h : lE (tb X nm) (eRp b0 ma mb) E σ H Q) :
    lE (tb X nm) ma E σ H fun x H1 => rRp X.K [x] H1 fun v1 H2 => lE (tb X nm) mb E σ H2 fun y H3 => rRp X.K [y] H3 fun v2 H4 => rr v1 v2 H4 Q := by
  obtain ⟨w, d, eH, o, re, h⟩ := h
  subst eH
  refine lE_imp (lE_bind o re h) ?_
  rintro x H1 ⟨w1, a', rfl, o1, x1, re1, ra, h1⟩
  cases g : rpOk (rd w1.S a') with
  | false => rw [g] at h1; exact h1.elim
  | true =>
    rw [g] at h1
    simp only [if_true] at h1
    obtain ⟨k1, k2, k3, k4, k5⟩ := dle_data o1 g ra
    refine ⟨x, _, rfl, k1, k2, k3, k4, k5, ?_⟩
    refine lE_imp (lE_bind o1 re1 h1) ?_
    rintro y H2 ⟨w2, b', rfl, o2, x2, re2, rb, h2⟩
    cases e : sameW (rd w1.S a') (rd w2.S b') with
    | false => rw [e] at h2; exact h2.elim
    | true =>
      rw [e] at h2
      simp only [if_true] at h2
      have e' := sameW_eq e
      rw [e'] at g
      obtain ⟨q1, q2, q3, q4, q5⟩ := dle_data o2 g rb
      refine ⟨y, _, rfl, q1, q2, q3, q4, q5, ?_⟩
      rw [e']
      exact hr _ _ _ (PostG.val o2 h2 (.bl b0))
theorem we_rpEq {a b : Expr} {ma mb : ME} (hg : X.A.guards = some []) (hu : X.A.units + 64 < cLine) (hm : X.mg "repr" = none) (ha : WE X nm E a ma) (hb : WE X nm E b mb) (hgl : Gl X "repr" := by rfl)
    (h1 : starEach [a] X.env = (false, eval a X.env) :: starEach [] X.env := by rfl) (h2 : starEach [b] X.env = (false, eval b X.env) :: starEach [] X.env := by rfl) :
    WE X nm E (.Compare (.Call (.Name "repr" p1) [a] [] pos1) [.Eq] [.Call (.Name "repr" p2) [b] [] pos2] pos) (eRp true ma mb) :=
  pe_imp (pe_cmpR op_eq (pe_callB (call_repr hg hu) hgl hm (by decide +kernel) (pa_cons ha pa_nil h1) (by decide) (by decide) h1) (pe_callB (call_repr hg hu) hgl hm (by decide +kernel) (pa_cons hb pa_nil h2) (by decide) (by decide) h2) (by first | exact nomark _ | rfl)) fun σ H Q h =>
    rp_of (rr := rEq) (fun z H Q q => ⟨rfl, by rw [decide_eq_true rfl]; exact q⟩) h
theorem we_rpNe {a b : Expr} {ma mb : ME} (hg : X.A.guards = some []) (hu : X.A.units + 64 < cLine) (hm : X.mg "repr" = none) (ha : WE X nm E a ma) (hb : WE X nm E b mb) (hgl : Gl X "repr" := by rfl)
    (h1 : starEach [a] X.env = (false, eval a X.env) :: starEach [] X.env := by rfl) (h2 : starEach [b] X.env = (false, eval b X.env) :: starEach [] X.env := by rfl) :
    WE X nm E (.Compare (.Call (.Name "repr" p1) [a] [] pos1) [.NotEq] [.Call (.Name "repr" p2) [b] [] pos2] pos) (eRp false ma mb) :=
  pe_imp (pe_cmpR op_ne (pe_callB (call_repr hg hu) hgl hm (by decide +kernel) (pa_cons ha pa_nil h1) (by decide) (by decide) h1) (pe_callB (call_repr hg hu) hgl hm (by decide +kernel) (pa_cons hb pa_nil h2) (by decide) (by decide) h2) (by first | exact nomark _ | rfl)) fun σ H Q h =>
    rp_of (rr := rNe) (fun z H Q q => ⟨rfl, by rw [decide_eq_true rfl]; exact q⟩) h
theorem wt_rpEq {a b : Expr} {ma mb : ME} (hg : X.A.guards = some []) (hu : X.A.units + 64 < cLine) (hm : X.mg "repr" = none) (ha : WE X nm E a ma) (hb : WE X nm E b mb) (hgl : Gl X "repr" := by rfl)
    (h1 : starEach [a] X.env = (false, eval a X.env) :: starEach [] X.env := by rfl) (h2 : starEach [b] X.env = (false, eval b X.env) :: starEach [] X.env := by rfl) :
    WT X nm E (.Compare (.Call (.Name "repr" p1) [a] [] pos1) [.Eq] [.Call (.Name "repr" p2) [b] [] pos2] pos) (Mir.tB (eRp true ma mb)) :=
  pt_imp (pt_cmpR op_eq (pe_callB (call_repr hg hu) hgl hm (by decide +kernel) (pa_cons ha pa_nil h1) (by decide) (by decide) h1) (pe_callB (call_repr hg hu) hgl hm (by decide +kernel) (pa_cons hb pa_nil h2) (by decide) (by decide) h2) (by first | exact nomark _ | rfl)) fun σ H Q ⟨w, d, e, o, re, h⟩ => by
    subst e
    refine rp_of (rr := rEq) (E := E) (fun z H Q q => ⟨rfl, by rw [decide_eq_true rfl]; exact q⟩) ⟨w, d, rfl, o, re, h.bind.imp fun x w1 o1 _ q v rv => ?_⟩
    cases x with
    | bl b =>
      cases rv.bl_inv
      exact ⟨b, rfl, q w1 o1 (Ext.refl _) rfl⟩
    | _ => exact q.elim
theorem wt_rpNe {a b : Expr} {ma mb : ME} (hg : X.A.guards = some []) (hu : X.A.units + 64 < cLine) (hm : X.mg "repr" = none) (ha : WE X nm E a ma) (hb : WE X nm E b mb) (hgl : Gl X "repr" := by rfl)
    (h1 : starEach [a] X.env = (false, eval a X.env) :: starEach [] X.env := by rfl) (h2 : starEach [b] X.env = (false, eval b X.env) :: starEach [] X.env := by rfl) :
    WT X nm E (.Compare (.Call (.Name "repr" p1) [a] [] pos1) [.NotEq] [.Call (.Name "repr" p2) [b] [] pos2] pos) (Mir.tB (eRp false ma mb)) :=
  pt_imp (pt_cmpR op_ne (pe_callB (call_repr hg hu) hgl hm (by decide +kernel) (pa_cons ha pa_nil h1) (by decide) (by decide) h1) (pe_callB (call_repr hg hu) hgl hm (by decide +kernel) (pa_cons hb pa_nil h2) (by decide) (by decide) h2) (by first | exact nomark _ | rfl)) fun σ H Q ⟨w, d, e, o, re, h⟩ => by
    subst e
    refine rp_of (rr := rNe) (E := E) (fun z H Q q => ⟨rfl, by rw [decide_eq_true rfl]; exact q⟩) ⟨w, d, rfl, o, re, h.bind.imp fun x w1 o1 _ q v rv => ?_⟩
    cases x with
    | bl b =>
      cases rv.bl_inv
      exact ⟨b, rfl, q w1 o1 (Ext.refl _) rfl⟩
    | _ => exact q.elim
end
end MW
set_option Elab.async false
set_option linter.all false
set_option maxRecDepth 100000
set_option maxHeartbeats 2000000
/-! MR15: defs that are called where no repr is under way. -/
namespace MW
open PySem PySem.Spec PyProof.Rows L2 Mir
/-- as FnOk, where nothing is being written -/
structure FnK (P : Program) (w : World) (K : Frag) (mg : Str → Option Value) (base : Heap) (k : Nat) (f : Addr) (fd : FuncData) (ps : List Str) (sp : Sp) : Prop where
  len : ∀ vs H Q E, sp vs H Q E → vs.length = ps.length
  run : ∀ (A : Around) (outer : List PySem.Env) (s : Shared) (H : Hp) (args : Args) (us : List Value) (vs : List V) (Q : VK) (E : XK), A.guards = some [] → Room k A → Env0 P w K mg base A outer s H →
    BindsTo s fd args (ps.zip us) → Vals vs us → sp vs H Q E → codeAny (model P w) A (.call (.ref f) args) (CR CX0 outer P w H s Q E) s
section
variable {P : Program} {w : World} {K : Frag} {mg : Str → Option Value} {base : Heap} {nm : Nm}
theorem fnK_of {k : Nat} {f : Addr} {fd : FuncData} {ps : List Str} {sp : Sp} (F : FnOk P w K mg base CX0 k f fd ps sp) : FnK P w K mg base k f fd ps sp :=
  ⟨F.len, fun A outer s H args us vs Q E _ => F.run A outer s H args us vs Q E⟩
/-- a def by its body -/
theorem fn_okK {x qual : Str} {st : Stmt} {f : Addr} {fd : FuncData} {N ps : List Str} {k np n : Nat} {b : MS} (F : Fun K x qual st f fd) (S : FnScope N ps (defScope st)) (hp : ps.length = np) (hn : N.length = n)
    (hb : ∀ (cdv : Value) (A : Around) (outer : List PySem.Env) (s : Shared) (H : Hp) (E : XK), A.guards = some [] → Room k (A.deeper (envOfC qual (defScope st) s.heap.objs.size f cdv)) → WSs (cxOf CX0 P w K mg base N qual (defScope st) f cdv A outer s H E).nox nm E (defBody st) b) :
    FnK P w K mg base (k + 1) f fd ps (spM ⟨K, mg, nm⟩ (fnOf np n b)) := by
  have len : ∀ vs H Q E, spM ⟨K, mg, nm⟩ (fnOf np n b) vs H Q E → vs.length = ps.length := by
    rintro vs H Q E ⟨w, ws, e, o, r, h⟩
    have h' : PostG ⟨K, mg, nm⟩ w (if !Nat.beq ws.length np then .bad else _) _ E := h
    cases g : Nat.beq ws.length np with
    | false => rw [g] at h'; exact h'.elim
    | true => rw [← r.length, hp]; exact Nat.eq_of_beq_eq_true g
  obtain ⟨oc, od, kV, doc, pm, an, cdv, ct, osl, rfl, lk, hcd⟩ := F.ex
  refine ⟨len, fun A outer s H args us vs Q E hg hr e0 hbd r hsp => ?_⟩
  have KX : K.In s.heap := e0.mod.kin.keeps fun b o e => (e0.bs b o e).1
  have lim : s.heap.NoLimit := e0.mod.nolimit.keeps fun b o e => (e0.bs b o e).1
  have hkd : ∀ y ∈ ps.zip us, (defScope st).names.lookup y.1 = some .local ∨ ((defScope st).names.lookup y.1 = some .cell ∧ ((cellsFrom (s.heap.objs.size + 1) (defScope st).names []).lookup y.1).isSome = true) := fun y hy =>
    (S.par y.1 (List.of_mem_zip hy).1).imp id fun q => ⟨q, PySem.W.cellsFrom_some _ _ _ (.inl q)⟩
  refine codeAny_call_function hr.depth (KX _ _ lk) rfl S.co S.gen rfl (PySem.W.codeRec_of KX hcd) (hbd _ _ _ _ (wpAny_newFunctionEnv_cells S.kind hkd fun env he s1 x => ?_))
  subst he
  have I : Inv (cxOf CX0 P w K mg base N qual (defScope st) f cdv A outer s H E) [] (start N vs) H s1 := inv_start S hr.hd e0 (len _ _ _ _ hsp) r x
  have run := (hb cdv A outer s H E hg (hr.deeper _)).nox.run [] s1 (start N vs) H { nx := fun _ H' => Q .non H', rt := Q } I
  obtain ⟨w1, ws, e, o, rw, h⟩ := hsp
  have h' : PostG ⟨K, mg, nm⟩ w1 (if !Nat.beq ws.length np then .bad else (b (ws.map some ++ List.replicate (n - ws.length) none) w1.S).bind fun f S1 => match f with | .nx _ => .ok .non S1 | .rt w => .ok w S1 | _ => .bad) (QW ⟨K, mg, nm⟩ Q) E := h
  cases g : Nat.beq ws.length np with
  | false => rw [g] at h'; exact h'.elim
  | true =>
    rw [g] at h'
    refine ⟨lim.keeps x.toInCall.keep, codeAny_func (wpAny_mono (run ⟨w1, ws.map some ++ List.replicate (n - ws.length) none, e, o, ?_, (PostG.bind h').imp fun f w2 o2 x2 q => ?_⟩) (fun fl s' hs => ?_) fun _ _ z => z)⟩
    · have := RelEnv.start rw n
      unfold L2.start
      rw [hn]
      exact this
    · cases f with
      | nx d => exact fun σ _ => PostG.val (T := ⟨K, mg, nm⟩) o2 q .non
      | rt x => exact q w2 o2 (Ext.refl _) rfl
      | br d => exact q.elim
      | ct d => exact q.elim
    · cases fl with
      | ret u =>
        obtain ⟨v, σ', H', J, rv, q⟩ := hs
        exact ⟨v, H', J.os, J.bare, J.base, J.hok, rv, q⟩
      | next =>
        obtain ⟨σ', H', J, q⟩ := hs
        exact ⟨.non, H', J.os, J.bare, J.base, J.hok, rfl, q⟩
      | brk => exact hs.elim fun _ z => z.elim fun _ z => z.2.elim
      | cont => exact hs.elim fun _ z => z.elim fun _ z => z.2.elim
end
/-- a def of the module that is called where nothing is being written -/
structure FnGK (P : Program) (w : World) (K : Frag) (mg : Str → Option Value) (base : Heap) (nm : Nm) (k : Nat) (x : Str) (m : MF) : Prop where
  ex : ∃ f fd ps, mg x = some (.ref f) ∧ PySem.W.keepIn K (.ref f) = true ∧ Binds K fd ps [] ∧ FnK P w K mg base k f fd ps (spM ⟨K, mg, nm⟩ m)
section
variable {X : Cx} {nm : Nm} {E : XK} {pos p : Pos} {k : Nat} {x : Str} {m : MF} {e : Expr} {es : List Expr} {a : MA}
theorem run_K {pins : List (Addr × Obj)} {σ : L2.St} {w1 : Wd} {s : Shared} {Q : VK} {us : List Value} {vs : List V} {ws : List Mir.W} {f : Addr} {fd : FuncData} {ps : List Str} (hg : X.A.guards = some []) (F : FnK X.prog X.w X.K X.mg X.base k f fd ps (spM (tb X nm) m)) (hr : Room k X.A) (hb : Binds X.K fd ps [])
    (I : Inv X pins σ w1.H s) (o : Ok (tb X nm) w1) (r : Vals vs us) (rw : w1.rels (tb X nm) ws vs) (h : PostG (tb X nm) w1 (m ws w1.S) (QW (tb X nm) Q) E) : wpAny (model X.prog X.w) X.A (call (.ref f) us) (EP X pins σ Q) X.xe s := by
  have sp : spM (tb X nm) m vs w1.H Q E := ⟨w1, ws, rfl, o, rw, h⟩
  have bt := hb s us I.kIn (by rw [List.append_nil, ← r.length]; exact F.len _ _ _ _ sp)
  rw [List.append_nil] at bt
  refine wpAny_call (codeAny_mono (F.run X.A X.stack s w1.H ⟨us, []⟩ us vs Q E hg hr I.env0 bt r sp) fun r s' hq => ?_)
  cases r with
  | error e => exact hq.elim
  | ok fl =>
    cases fl with
    | ret u => exact I.after hq
    | next => exact hq.elim
    | brk => exact hq.elim
    | cont => exact hq.elim
theorem wg_callK (hG : X.A.guards = some []) (G : FnGK X.prog X.w X.K X.mg X.base nm k x m) (hr : Room k X.A) (ha : WA X nm E (e :: es) a) (hg : Gl X x := by rfl)
    (hdb : (x == ("__debug__" : Str)) = false := by decide) (he : starEach (e :: es) X.env = (false, eval e X.env) :: starEach es X.env := by rfl) (hpl : (backTo pos (starEach es X.env)).any (·.1) = false := by rfl) : WE X nm E (.Call (.Name x p) (e :: es) [] pos) (eCall m a) := by
  obtain ⟨f, fd, ps, h1, h2, h3, h4⟩ := G.ex
  refine ⟨fun pins s σ H Q I ⟨w, d, eH, o, re, h⟩ => wpAny_Call_Name_kw (ld_glob I hg h1 ?_ hdb)⟩
  subst eH
  refine PySem.W.callWith_K (h₀ := X.base) I.ok.mod.kin h2 (thn (ha.run pos pins s σ w.H _ I (lA_bind o re h)) fun us s1 ⟨vs, H1, I1, r, w1, xs, eH, o1, x1, re1, rv, h1⟩ => ⟨I1.kIn, ?_⟩) he hpl
  subst eH
  exact run_K hG h4 hr h3 I1 o1 r rv h1
theorem wg_callK0 (hG : X.A.guards = some []) (G : FnGK X.prog X.w X.K X.mg X.base nm k x m) (hr : Room k X.A) (hg : Gl X x := by rfl)
    (hdb : (x == ("__debug__" : Str)) = false := by decide) : WE X nm E (.Call (.Name x p) [] [] pos) (eCall m aNil) := by
  obtain ⟨f, fd, ps, h1, h2, h3, h4⟩ := G.ex
  refine ⟨fun pins s σ H Q I ⟨w, d, eH, o, re, h⟩ => wpAny_Call_Name_kw (ld_glob I hg h1 ?_ hdb)⟩
  subst eH
  exact PySem.W.callWith_K0 I.kIn h2 (run_K (us := []) (ws := []) hG h4 hr h3 I o .nil .nil h)
end
/-! ### the law's end -/
theorem law_callK {P : Program} {w : World} {K : Frag} {mg mb : Str → Option Value} {k : Nat} {fa a : Addr} {fd : FuncData} {x : Str} {sp : Sp} {s₁ : Shared} {vs : List Value} {ns : List Int}
    (KX : K.In s₁.heap) (hns : s₁.heap.Ns mainGlobals mg) (hb : s₁.heap.Ns builtinsNs mb) (hbb : ∀ x : Str, x ≠ "__name__" → mb x = bootBuiltins x) (hlim : s₁.heap.NoLimit) (hg : s₁.gens = #[])
    (ha : s₁.heap.get? a = some { cls := .type "list", data := .seq vs.toArray }) (hi : IntsAre vs ns) (hl : ns.length ≤ sizeLine) (hr : Room k callerA)
    (F : ∀ base : Heap, K.In base → base.Ns mainGlobals mg → FnK P w K mg base k fa fd [x] sp) (hbind : ∀ (s : Shared) (u : Value), BindsTo s fd ⟨[u], []⟩ [(x, u)])
    (hsp : ∀ H : Hp, Only H → SqL K H a (ns.map V.int) → sp [.ref a] H (fun v _ => v = .bl true) fun _ _ _ => False) :
    codeAny (model P w) callerA (.call (.ref fa) ⟨[.ref a], []⟩) (fun r s' => r = .ok (.ret (.bool true)) ∧ OldK s₁.heap s'.heap ∧ s'.os = s₁.os ∧ AllBare s'.gens) s₁ := by
  have rv := vals_ints hi
  have main : ∀ H : Hp, Only H → SqL K H a (ns.map V.int) → HOk P w H s₁.heap → (∀ b, H b = none ∨ (b = a ∧ K.lookup a = none)) →
      codeAny (model P w) callerA (.call (.ref fa) ⟨[.ref a], []⟩) (fun r s' => r = .ok (.ret (.bool true)) ∧ OldK s₁.heap s'.heap ∧ s'.os = s₁.os ∧ AllBare s'.gens) s₁ := fun H hO hS hok hA => by
    have nsK : ∀ {b : Addr} {m : Str → Option Value}, s₁.heap.Ns b m → (hidT s₁.heap H).Ns b m := fun {b m} ⟨o, es, ep, e, d, r⟩ => by
      refine ⟨o, es, ep, hidT_get e ?_, d, r⟩
      rcases hA b with z | ⟨rfl, _⟩
      · exact z
      · rw [ha] at e
        cases e
        cases d
    have hKb : K.In (hidT s₁.heap H) := fun b o e => hidT_get (KX b o e) (by
      rcases hA b with z | ⟨rfl, z⟩
      · exact z
      · rw [z] at e; cases e)
    have hM : Mod K mg (hidT s₁.heap H) := ⟨hKb, nsK hns, ⟨mb, nsK hb, hbb⟩, hlim.elim fun mc z => ⟨mc, nsK z.1, z.2⟩⟩
    have e0 : Env0 P w K mg (hidT s₁.heap H) callerA [] s₁ H := ⟨rfl, hM, fun b o e => of_hidT e, Nat.le_of_eq (hidT_size _ _), trivial, fun b hb => absurd (show b ∈ ([] : List Addr) from hb) (by simp), hok, .of_eq hg⟩
    refine codeAny_mono ((F _ hKb (nsK hns)).run callerA [] s₁ H ⟨[.ref a], []⟩ [.ref a] [.ref a] _ _ rfl hr e0 (hbind s₁ (.ref a)) (.cons rfl .nil) (hsp H hO hS)) fun r s' h => ?_
    cases r with
    | error e => exact h.elim
    | ok fl =>
      cases fl with
      | next => exact h.elim
      | brk => exact h.elim
      | cont => exact h.elim
      | ret u =>
        obtain ⟨v, H', os, bare, un, hok', r', q⟩ := h
        obtain rfl : v = .bl true := q
        obtain rfl : u = Value.bool true := r'
        refine ⟨rfl, OldK.of_keep fun b o e => ?_, os, bare⟩
        rcases hO b with z | ⟨ob, xs, z⟩
        · exact un.keep b o e z (fun y => absurd (show b ∈ ([] : List Addr) from y) (by simp)) (by simp)
        · have z2 := un.frzs b ob _ z
          rw [(hok b _ z).1] at e
          cases e
          exact (hok' b _ z2).1
  cases hk : K.lookup a with
  | some o =>
    have e := KX a o hk
    rw [ha] at e
    cases e
    exact main (fun _ => none) (fun _ => .inl rfl) (.inr ⟨_, vs.toArray, _, hk, rfl, rfl, rfl, by rw [List.size_toArray, hi.length]; exact hl, by simpa using rv⟩) (fun b u z => nomatch z) (fun _ => .inl rfl)
  | none =>
    have at_ : ∀ b, (if b = a then some (HO.frz { cls := .type "list", data := .seq vs.toArray } (.lst (ns.map V.int))) else none) = none ∨ b = a := fun b => by
      by_cases h : b = a
      · exact .inr h
      · exact .inl (if_neg h)
    refine main (fun b => if b = a then some (.frz { cls := .type "list", data := .seq vs.toArray } (.lst (ns.map V.int))) else none) (fun b => ?_) (.inl (.inr ⟨{ cls := .type "list", data := .seq vs.toArray }, if_pos rfl⟩)) (fun b u z => ?_) fun b => (at_ b).imp id fun e => ⟨e, hk⟩
    · exact (at_ b).imp id fun e => ⟨_, _, if_pos e⟩
    · rcases at_ b with y | rfl
      · exact absurd (y.symm.trans z) (by simp)
      · have z' := (if_pos rfl).symm.trans z
        cases z'
        exact ⟨ha, by rw [List.length_map]; exact hl, vs, _, rv, ha⟩
theorem walk_ofEK {l : PySem.W.OpenLaw} {n k : Nat} {q : Program} {loose : List Str} {XP : (Str → Option Value) → Heap → Prop} {YP : World → Heap → Prop} {d : DefRec} {x : Str}
    (hn : l.most = some n) (hn2 : n ≤ sizeLine) (hdf : d.params.defaults = []) (hr : Room k callerA)
    (F : ∀ (w : World) (mg : Str → Option Value) (fa : Addr) (h : Heap), YP w h → h.Ns mainGlobals mg → mg d.name = some (.ref fa) →
      ∃ (K : Frag) (fd : FuncData) (sp : Sp), K.In h ∧ (∀ (s : Shared) (u : Value), BindsTo s fd ⟨[u], []⟩ [(x, u)]) ∧
        (∀ (H : Hp) (a : Addr) (ns : List Int), ns.length ≤ n → Only H → SqL K H a (ns.map V.int) → sp [.ref a] H (fun v _ => v = .bl true) fun _ _ _ => False) ∧
        ∀ base : Heap, K.In base → base.Ns mainGlobals mg → FnK l.prog w K mg base k fa fd [x] sp) :
    PySem.W.WalkO q loose XP YP l.row.toRowW d [] (fun f vs => PySem.call f vs) :=
  Att.attach_call hn hdf fun w s₀ s₁ mg mb fa o pm cd doc a vs ns G Y ho hd hcd hmg hobj hints hlen hg => by
    obtain ⟨K, fd, sp, KX, hb, hsp, hF⟩ := F w mg fa _ Y G.T.g hmg
    exact law_callK KX G.T.g G.T.b G.T.builtins G.T.nolimit hg hobj hints (Nat.le_trans hlen hn2) hr hF hb fun H hO hS => hsp H a ns hlen hO hS
end MW
set_option Elab.async false
set_option linter.all false
set_option maxRecDepth 100000
set_option maxHeartbeats 2000000
/-! MR16: list.count of data, str of an object with its own __str__. -/
namespace MW
open PySem PySem.Spec PyProof.Rows L2 Mir
/-! ### count -/
def cntW (y : Mir.W) : List Mir.W → Option Nat
  | [] => some 0
  | x :: r => match eqW x y with
    | some b => (cntW y r).map fun n => if b then n + 1 else n
    | none => none
def mCountD : Mir.W → Mir.W → Store → Out Mir.W := fun o y S => match rd S o with
  | .lst xs => if dles 29 xs && dle 30 y then (match cntW y xs with | some n => .ok (.int n) S | none => .bad) else .bad
  | _ => .bad
theorem cnt_D {y : Mir.W} : ∀ {xs : List Mir.W} {n : Nat}, cntW y xs = some n → (toDs xs).countP (fun d => PyData.eqv d (toD y)) = n
  | [], n, h => by cases h; rfl
  | x :: r, n, h => by
    have h' : (match eqW x y with | some b => (cntW y r).map fun n => if b then n + 1 else n | none => none) = some n := h
    cases e : eqW x y with
    | none => rw [e] at h'; cases h'
    | some b =>
      rw [e] at h'
      cases g : cntW y r with
      | none => rw [g] at h'; cases h'
      | some k =>
        rw [g] at h'
        have ih := cnt_D g
        show (toD x :: toDs r).countP _ = n
        rw [List.countP_cons, ih, eqW_D x y b e]
        have h2 : (if b = true then k + 1 else k) = n := Option.some.inj h'
        rw [← h2]
        cases b <;> rfl
section
variable {X : Cx} {nm : Nm} {E : XK}
theorem mt_countD (hu : X.A.units + 65 < cLine) : MtR X "list.count" (fun x xs H Q => ∃ (a : Addr) (y : V) (d : PyData) (ds : List PyData), x = .ref a ∧ xs = [y] ∧ Dp X.K H (.ref a) (.list ds) ∧ Dp X.K H y d ∧
    SeqAt.shaped (.list ds) = true ∧ SeqAt.shaped d = true ∧ Q (.int ((ds.countP fun z => PyData.eqv z d : Nat) : Int)) H) := by
  rintro pins s σ H x xs v us Q I rx rxs ⟨a, y, d, ds, rfl, rfl, hl, hy, sl, sd, q⟩
  obtain rfl : v = Value.ref a := rx
  obtain ⟨uy, rfl, ry⟩ := rxs.one
  obtain ⟨bs, r1⟩ := Dp.reads I d y uy hy ry
  have hxs : PyData.canLayAll0 ds = true := SeqAt.canLay_of_shaped sl
  have room : X.A.units + 1 + min (PyData.depthAll ds) d.depth < cLine := room_in_shaped sd hu
  cases hl with
  | lst hs ha =>
    obtain ⟨its, rv, ⟨⟨cls, dd, data, sls⟩, n, ho, hc, hdn, hdt⟩, hlen⟩ := I.list hs
    simp only at hc hdt
    subst hc hdt
    obtain ⟨as, h4⟩ := Dp.readsAll I ds _ its ha rv
    have hmap : its.map (SeqAt.readOf s.heap) = ds := SeqAt.readsAll_map ds its as hxs h4
    refine call_meets PySem.F.slot_list_count ⟨_, ho, rfl⟩ PySem.F.entry_list_count (PySem.F.args_list_count_2 _ _)
      (SeqAt.list_countAt a its.toArray n dd sls uy fun u => PyData.eqv (SeqAt.readOf s.heap u) d) ⟨ho, SeqAt.items_eqAt (vs := its.toArray) (show ReadsAll s.heap its.toArray.toList ds as from h4) r1 hxs (SeqAt.canLay_of_shaped sd) room, ?_⟩
    have ec : its.toArray.toList.countP (fun u => PyData.eqv (SeqAt.readOf s.heap u) d) = ds.countP fun z => PyData.eqv z d := by
      rw [← hmap, List.countP_map]
      rfl
    refine ⟨.int ((ds.countP fun z => PyData.eqv z d : Nat) : Int), H, I.tok _, ⟨s.toks, ?_⟩, q⟩
    show Value.int ((its.toArray.toList.countP _ : Nat) : Int) s.toks = _
    rw [ec]
theorem mw_count (hu : X.A.units + 65 < cLine) : MtR X "list.count" (lM (tb X nm) (m1 mCountD) E) := by
  rintro pins s σ H x xs v us Q I rx rs ⟨w, a, as, rfl, o, ra, rv, h⟩
  cases as with
  | nil => exact h.elim
  | cons y t => cases t with
    | cons _ _ => exact h.elim
    | nil =>
      obtain ⟨vy, rfl, ry⟩ := rels1 rv
      have h' : PostG (tb X nm) w (mCountD a y w.S) (QW (tb X nm) Q) E := h
      unfold mCountD at h'
      cases g : rd w.S a with
      | lst ys =>
        rw [g] at h'
        dsimp only at h'
        cases e : dles 29 ys && dle 30 y with
        | false => rw [e] at h'; exact h'.elim
        | true =>
          rw [e] at h'
          simp only [if_true] at h'
          obtain ⟨e1, e2⟩ := Bool.and_eq_true_iff.mp e
          obtain ⟨d1, c1, p1⟩ := dp_rd (n := 30) o (x := a) (by rw [g]; exact e1) ra
          obtain ⟨d2, c2, p2⟩ := dp_of o 30 y _ e2 ry
          rw [g] at d1 c1 p1
          cases g2 : cntW y ys with
          | none => rw [g2] at h'; exact h'.elim
          | some n =>
            rw [g2] at h'
            have hx : ∃ p, x = V.ref p := by
              have d1' : Dp X.K w.H x (.list (toDs ys)) := d1
              cases d1' with
              | lst _ _ => exact ⟨_, rfl⟩
            obtain ⟨p, rfl⟩ := hx
            refine mt_countD hu pins s σ _ _ _ v us Q I rx rs ⟨p, vy, toD y, toDs ys, rfl, rfl, d1, d2, shaped_of c1 p1, shaped_of c2 p2, ?_⟩
            rw [cnt_D g2]
            exact PostG.val o h' (.int _)
      | _ => rw [g] at h'; exact h'.elim
/-! ### str(o) -/
/-- str(x), x an object whose class has its own __str__, or a text or an int -/
def fStrO (tab : List (Nat × MF)) : MF := fun xs S => match xs with
  | [x] => match clsOf S x with
    | some c => match tabAt tab c with
      | some f => (f [x] S).bind fun r S1 => match r with | .str z => .ok (.str z) S1 | _ => .bad
      | none => .bad
    | none => fStr [x] S
  | _ => .bad
structure StrC (P : Program) (w : World) (K : Frag) (mg : Str → Option Value) (base : Heap) (nm : Nm) (k c : Nat) (m : MF) : Prop where
  ex : ∃ (C f : Addr) (fd : FuncData) (ps : List Str), (⟨K, mg, nm⟩ : Tab).cls c = some C ∧ PySem.W.findIn K (.ref C) "__str__" = some (some (.ref f)) ∧ PySem.W.isFn K (.ref f) = true ∧ Binds K fd ps [] ∧ FnOk P w K mg base CX0 k f fd ps (spM ⟨K, mg, nm⟩ m)
def StrT (P : Program) (w : World) (K : Frag) (mg : Str → Option Value) (base : Heap) (nm : Nm) (k : Nat) (tab : List (Nat × MF)) : Prop := ∀ c m, tabAt tab c = some m → StrC P w K mg base nm k c m
theorem strT_nil {P : Program} {w : World} {K : Frag} {mg : Str → Option Value} {base : Heap} {nm : Nm} {k : Nat} : StrT P w K mg base nm k [] := fun c m h => by cases h
theorem strT_cons {P : Program} {w : World} {K : Frag} {mg : Str → Option Value} {base : Heap} {nm : Nm} {k c : Nat} {m : MF} {tab : List (Nat × MF)} (h : StrC P w K mg base nm k c m) (t : StrT P w K mg base nm k tab) : StrT P w K mg base nm k ((c, m) :: tab) := fun c' m' e => by
  have e' : (if Nat.beq c c' then some m else tabAt tab c') = some m' := e
  cases g : Nat.beq c c' with
  | true =>
    rw [g] at e'
    obtain rfl : c = c' := Nat.eq_of_beq_eq_true g
    cases e'
    exact h
  | false =>
    rw [g] at e'
    exact t c' m' e'
theorem cw_strO {k : Nat} {tab : List (Nat × MF)} (G : StrT X.prog X.w X.K X.mg X.base nm k tab) (hr : Room (k + 2) X.A) : CallR X (.type "str") (lC (tb X nm) (fStrO tab) E) := by
  rintro pins s σ H xs us Q I r ⟨w, a, rfl, o, rv, h⟩
  cases a with
  | nil => exact h.elim
  | cons y t => cases t with
    | cons _ _ => exact h.elim
    | nil =>
      have h' : PostG (tb X nm) w (fStrO tab [y] w.S) (QW (tb X nm) Q) E := h
      unfold fStrO at h'
      dsimp only at h'
      cases g : clsOf w.S y with
      | none =>
        rw [g] at h'
        exact cw_str pins s σ _ xs us Q I r ⟨w, [y], rfl, o, rv, h'⟩
      | some c =>
        rw [g] at h'
        dsimp only at h'
        cases g1 : tabAt tab c with
        | none => rw [g1] at h'; exact h'.elim
        | some m =>
          rw [g1] at h'
          obtain ⟨C, f, fd, ps, k1, k2, k3, k4, k5⟩ := (G c m g1).ex
          obtain ⟨v, rfl, ry⟩ := rels1 rv
          obtain ⟨a', C', dx, ws, fs, rfl, hH, hC', _, _⟩ := o.ins g ry
          obtain rfl : C' = C := Option.some.inj (hC'.symm.trans k1)
          obtain ⟨u, rfl, ru⟩ := vals1 r
          obtain rfl : u = Value.ref a' := ru
          obtain ⟨mA, O, _, _, _, _⟩ := ins_get I.hok hH
          obtain ⟨oD, J, hl⟩ := O.look
          refine PySem.W.kso_call (by have := hr.un; show X.A.units + 1 + 1 < cLine; omega) I.kIn J k2 k3 ?_
          have e0 : Env0 X.prog X.w X.K X.mg X.base X.A.in1.in1 X.stack s w.H := I.env0.in1.in1
          have sp : spM (tb X nm) m [.ref a'] w.H (fun r H' => ∃ z, r = .str z ∧ Q (.str z) H') E := ⟨w, [y], rfl, o, rv, (PostG.bind h').imp fun r w1 o1 x1 q v rv => by
            cases r with
            | str z =>
              obtain ⟨z', rfl, ez, kz⟩ := rv.str_inv
              exact ⟨z', rfl, q w1 o1 (Ext.refl _) rfl _ (.str ez kz)⟩
            | _ => exact q.elim⟩
          have bt := k4 s [.ref a'] I.kIn (by rw [List.append_nil]; exact k5.len _ _ _ _ sp)
          rw [List.append_nil] at bt
          refine wpAny_call (codeAny_mono (k5.run X.A.in1.in1 X.stack s w.H ⟨[.ref a'], []⟩ [.ref a'] [.ref a'] _ E hr.in1.in1 e0 bt (.cons rfl .nil) sp) fun r s' hq => ?_)
          cases r with
          | error e => exact hq.elim
          | ok fl =>
            cases fl with
            | ret u =>
              obtain ⟨z, H', I', rz, c, ez, q⟩ := I.after hq
              subst ez
              obtain ⟨t, rfl⟩ := rz
              exact ⟨.str c, H', I', ⟨t, rfl⟩, q⟩
            | next => exact hq.elim
            | brk => exact hq.elim
            | cont => exact hq.elim
end
end MW
set_option Elab.async false
set_option linter.all false
set_option maxRecDepth 100000
set_option maxHeartbeats 2000000
/-! MH: what the top has left, read by one look. -/
namespace MW
open PySem PySem.Spec PyProof.Rows L2 Mir
/-! ### defs -/
structure DefM where
  at_ : Str × Option Str
  name : Str
  qual : Str
  st : Stmt
  sup : Bool := false
  /-- under @classmethod -/
  cm : Bool := false
def cmAd (K : Frag) (p : Addr) : Addr := match PySem.W.recIn K p "classmethod" with
  | some (.ref g :: _) => g
  | _ => 0
def DefM.ad (K : Frag) (d : DefM) : Addr := match d.cm with
  | true => cmAd K (He.fAd K d.at_)
  | false => He.fAd K d.at_
abbrev FnY : Type := Option (Str × Str × Arguments × FuncBody × Scope × Addr × List Str × Addr)
def fnY (K : Frag) (a : Addr) : FnY := match K.lookup a with
  | some ⟨_, _, .func fd, _⟩ => some (fd.name, fd.qualname, fd.params, fd.body, fd.scope, fd.globals, fd.closure.map (·.1), fd.builtins)
  | _ => none
def cloN (b : Bool) : List Str := match b with
  | true => [("__class__" : Str)]
  | false => []
def DefM.val (d : DefM) : FnY := some (d.name, d.qual, defArgs d.st, .stmts (defBody d.st), defScope d.st, mainGlobals, cloN d.sup, builtinsNs)
def isNoneV : Value → Bool
  | .none => true
  | _ => false
def cellB (K : Frag) (C : Addr) : List (Str × Addr) → Bool
  | [(_, cc)] => (match K.lookup cc with
    | some ⟨_, _, .cell (some (.ref D)), _⟩ => decide (D = C)
    | _ => false)
  | _ => false
def isFile (file : Str) : Option Value → Bool
  | some (.str f _) => file == f
  | _ => false
def fileB (K : Frag) (file : Str) : Value → Bool
  | .ref c => (match K.lookup c with
    | some ⟨_, _, .fields vs, _⟩ => isFile file vs[2]?
    | _ => false)
  | _ => false
def selfB (fd : FuncData) : Bool := match (fd.params.posonlyargs ++ fd.params.args).head? with
  | some ar => decide (ar.arg = "self")
  | none => false
def supB (file : Str) (K : Frag) (C : Addr) (fd : FuncData) : Bool := cellB K C fd.closure && (fileB K file fd.code && (selfB fd && (PySem.W.clsIn K C).isSome))
def DefM.ok (file : Str) (K : Frag) (d : DefM) : Bool := PySem.W.keepIn K (.ref (d.ad K)) && (match K.lookup (d.ad K) with
  | some ⟨_, _, .func fd, _⟩ => PySem.W.codeIn K fd.code d.qual && (isNoneV fd.defaults && (!d.sup || supB file K (He.ga K d.at_.1) fd))
  | _ => false)
theorem fn_at {file : Str} {K : Frag} {d : DefM} (e : fnY K (d.ad K) = d.val) (c : d.ok file K = true) :
    PySem.W.keepIn K (.ref (d.ad K)) = true ∧ ∃ (oc : Value) (od : Option Addr) (osl : Array (Option Value)) (kV doc pm : Value) (an : Option Addr) (cdv ct : Value) (cl : List (Str × Addr)) (fd : FuncData),
      fd = PySem.W.fnX d.name d.qual (defArgs d.st) (defBody d.st) (defScope d.st) cl .none kV doc pm an cdv ct ∧
      K.lookup (d.ad K) = some ⟨oc, od, .func fd, osl⟩ ∧ PySem.W.codeIn K cdv d.qual = true ∧
      cl.map (·.1) = cloN d.sup ∧ (d.sup = true → supB file K (He.ga K d.at_.1) fd = true) := by
  obtain ⟨kp, c2⟩ := He.ba c
  refine ⟨kp, ?_⟩
  unfold fnY at e
  cases q : K.lookup (d.ad K) with
  | none => rw [q] at c2; cases c2
  | some o =>
    obtain ⟨oc, od, dt, osl⟩ := o
    rw [q] at c2 e
    cases dt with
    | func fd =>
      obtain ⟨n1, n2, n3, n4, n5, n6, n7, n8, n9, n10, n11, n12, n13, n14, n15⟩ := fd
      have e2 : (some (n1, n2, n3, n4, n5, n6, n7.map (·.1), n15) : FnY) = some (d.name, d.qual, defArgs d.st, .stmts (defBody d.st), defScope d.st, mainGlobals, cloN d.sup, builtinsNs) := e
      simp only [Option.some.injEq, Prod.mk.injEq] at e2
      obtain ⟨h1, h2, h3, h4, h5, h6, h7, h8⟩ := e2
      subst h1 h2 h3 h4 h5 h6 h8
      obtain ⟨k1, k2⟩ := He.ba (show (PySem.W.codeIn K n13 d.qual && (isNoneV n8 && (!d.sup || supB file K (He.ga K d.at_.1) _))) = true from c2)
      obtain ⟨k3, k4⟩ := He.ba k2
      have e8 : n8 = .none := by cases n8 <;> first | rfl | cases k3
      subst e8
      refine ⟨oc, od, osl, n9, n10, n11, n12, n13, n14, n7, _, rfl, rfl, k1, h7, fun hs => ?_⟩
      rw [hs] at k4
      exact k4
    | _ => cases c2
theorem fun_at {file : Str} {K : Frag} {d : DefM} (e : fnY K (d.ad K) = d.val) (c : d.ok file K = true) (hs : d.sup = false) : ∃ fd, Fun K d.name d.qual d.st (d.ad K) fd := by
  obtain ⟨kp, oc, od, osl, kV, doc, pm, an, cdv, ct, cl, fd, efd, lk, cd, hcl, _⟩ := fn_at e c
  rw [hs] at hcl
  have ecl : cl = [] := List.map_eq_nil_iff.mp hcl
  subst ecl
  subst efd
  exact ⟨_, ⟨oc, od, kV, doc, pm, an, cdv, ct, osl, rfl, lk, cd⟩, kp⟩
theorem funS_at {P : Program} {file : Str} {K : Frag} {d : DefM} (hf : (P.main.file : Str) = file) (e : fnY K (d.ad K) = d.val) (c : d.ok file K = true) (hs : d.sup = true) : ∃ fd, FunS P K d.name d.qual "self" d.st (d.ad K) fd (He.ga K d.at_.1) := by
  obtain ⟨kp, oc, od, osl, kV, doc, pm, an, cdv, ct, cl, fd, efd, lk, cd, hcl, hsup⟩ := fn_at e c
  rw [hs] at hcl
  have hsup := hsup hs
  unfold supB at hsup
  obtain ⟨s1, s2⟩ := He.ba hsup
  obtain ⟨s3, s4⟩ := He.ba s2
  obtain ⟨s5, s6⟩ := He.ba s4
  have hcl' : cl.map (·.1) = [("__class__" : Str)] := hcl
  match cl, hcl' with
  | [(x, cc)], hx =>
    have ex : x = "__class__" := by simpa using hx
    subst ex
    subst efd
    have s1' : (match K.lookup cc with | some ⟨_, _, .cell (some (.ref D)), _⟩ => decide (D = He.ga K d.at_.1) | _ => false) = true := s1
    cases q : K.lookup cc with
    | none => rw [q] at s1'; cases s1'
    | some o =>
      obtain ⟨oc2, od2, dt2, osl2⟩ := o
      rw [q] at s1'
      cases dt2 with
      | cell v =>
        cases v with
        | none => cases s1'
        | some u =>
          cases u with
          | ref D =>
            have eD : D = He.ga K d.at_.1 := of_decide_eq_true s1'
            subst eD
            have s3' : fileB K file cdv = true := s3
            cases cdv with
            | ref cd' =>
              have s3'' : (match K.lookup cd' with | some ⟨_, _, .fields vs, _⟩ => isFile file vs[2]? | _ => false) = true := s3'
              cases q2 : K.lookup cd' with
              | none => rw [q2] at s3''; cases s3''
              | some o3 =>
                obtain ⟨oc3, od3, dt3, osl3⟩ := o3
                rw [q2] at s3''
                cases dt3 with
                | fields vs =>
                  have s7 : isFile file vs[2]? = true := s3''
                  cases q3 : vs[2]? with
                  | none => rw [q3] at s7; cases s7
                  | some w2 =>
                    rw [q3] at s7
                    cases w2 with
                    | str fl tf =>
                      obtain ⟨cdD, hD⟩ := Option.isSome_iff_exists.mp s6
                      have s5' : (match ((defArgs d.st).posonlyargs ++ (defArgs d.st).args).head? with | some ar => decide (ar.arg = "self") | none => false) = true := s5
                      cases q4 : ((defArgs d.st).posonlyargs ++ (defArgs d.st).args).head? with
                      | none => rw [q4] at s5'; cases s5'
                      | some ar =>
                        rw [q4] at s5'
                        exact ⟨_, oc, od, kV, doc, pm, an, cd', cc, ct, osl, ar, oc3, od3, vs, osl3, fl, tf, oc2, od2, osl2, cdD, rfl, lk, cd, q4, of_decide_eq_true s5', q2, q3, by rw [hf]; exact s7, q, hD⟩
                    | _ => cases s7
                | _ => cases s3''
            | _ => cases s3'
          | _ => cases s1'
      | _ => cases s1'

/-! ### constants -/
mutual
def globB (K : Frag) : Mir.W → Value → Bool
  | .non, .none => true
  | .bl b, .bool c => b == c
  | .int i, .int j _ => decide (i = j)
  | .str z, .str x _ => beqL (TL.tl x) z && okS z
  | .tup ws, .ref a => (match K.lookup a with
    | some ⟨.type c, _, .seq its _, _⟩ => decide (c = "tuple") && (decide (its.size ≤ sizeLine) && globBs K ws its.toList)
    | _ => false)
  | _, _ => false
def globBs (K : Frag) : List Mir.W → List Value → Bool
  | [], [] => true
  | w :: ws, u :: us => globB K w u && globBs K ws us
  | _, _ => false
end
mutual
theorem globB_ok {K : Frag} {mg : Str → Option Value} {nm : Nm} : ∀ (c : Mir.W) (u : Value), globB K c u = true → ∃ v, RelV v u ∧ ∀ r G, RelW ⟨K, mg, nm⟩ r G c v
  | .non, u, h => by
    cases u with
    | none => exact ⟨.non, rfl, fun _ _ => .non⟩
    | _ => simp [globB] at h
  | .bl b, u, h => by
    cases u with
    | bool c =>
      have e : b = c := eq_of_beq (by simpa [globB] using h)
      subst e
      exact ⟨.bl b, rfl, fun _ _ => .bl b⟩
    | _ => simp [globB] at h
  | .int i, u, h => by
    cases u with
    | int j t =>
      have e : i = j := by simpa [globB] using h
      subst e
      exact ⟨.int i, ⟨t, rfl⟩, fun _ _ => .int i⟩
    | _ => simp [globB] at h
  | .str z, u, h => by
    cases u with
    | str x t =>
      have h' : (beqL (TL.tl x) z && okS z) = true := by simpa only [globB] using h
      obtain ⟨h1, h2⟩ := He.ba h'
      rw [beqL_eq] at h1
      exact ⟨.str x, ⟨t, rfl⟩, fun _ _ => .str (of_decide_eq_true h1) h2⟩
    | _ => simp [globB] at h
  | .tup ws, u, h => by
    cases u with
    | ref a =>
      have h' : (match K.lookup a with | some ⟨.type c, _, .seq its _, _⟩ => decide (c = "tuple") && (decide (its.size ≤ sizeLine) && globBs K ws its.toList) | _ => false) = true := by simpa only [globB] using h
      cases q : K.lookup a with
      | none => rw [q] at h'; cases h'
      | some o =>
        obtain ⟨oc, od, dt, osl⟩ := o
        rw [q] at h'
        cases oc with
        | type c =>
          cases dt with
          | seq its n =>
            obtain ⟨h1, h2⟩ := He.ba (show (decide (c = "tuple") && (decide (its.size ≤ sizeLine) && globBs K ws its.toList)) = true from h')
            obtain ⟨h3, h4⟩ := He.ba h2
            obtain ⟨vs, r1, r2⟩ := globBs_ok ws its.toList h4
            exact ⟨.ref a, rfl, fun r G => .tup (.inr ⟨_, its, n, q, congrArg Value.type (of_decide_eq_true h1), rfl, of_decide_eq_true h3, r1⟩) (r2 r G)⟩
          | _ => cases h'
        | _ => cases dt <;> cases h'
    | _ => simp [globB] at h
  | .lst _, u, h => by simp [globB] at h
  | .obj _ _, u, h => by simp [globB] at h
  | .ref _, u, h => by simp [globB] at h
  | .cls _, u, h => by simp [globB] at h
  | .lsr _, u, h => by simp [globB] at h
theorem globBs_ok {K : Frag} {mg : Str → Option Value} {nm : Nm} : ∀ (ws : List Mir.W) (us : List Value), globBs K ws us = true → ∃ vs, Vals vs us ∧ ∀ r G, RelWs ⟨K, mg, nm⟩ r G ws vs
  | [], [], _ => ⟨[], .nil, fun _ _ => .nil⟩
  | [], _ :: _, h => by simp [globBs] at h
  | _ :: _, [], h => by simp [globBs] at h
  | w :: ws, u :: us, h => by
    have h' : (globB K w u && globBs K ws us) = true := by simpa only [globBs] using h
    obtain ⟨h1, h2⟩ := He.ba h'
    obtain ⟨v, a1, a2⟩ := globB_ok w u h1
    obtain ⟨vs, b1, b2⟩ := globBs_ok ws us h2
    exact ⟨v :: vs, .cons a1 b1, fun r G => .cons (a2 r G) (b2 r G)⟩
end
/-! ### facts -/
inductive Fm where
  | fa (f : He.Fa)
  /-- the class x's m is the function y.m -/
  | inh (x m y : Str)
  | ne (x : Str)
  /-- super().m of x is the function y.m -/
  | sup (x y m : Str)
  | glob (x : Str) (c : Mir.W)
  /-- x.m is a classmethod -/
  | cm (x m : Str)
def isGet (p C : Addr) : Option PySem.W.CFound → Bool
  | some (.get g a o t) => decide (g = .builtin "classmethod.__get__") && (decide (a = .ref p) && (decide (o = .none) && decide (t = .ref C)))
  | _ => false
def isRec : Option (List Value) → Bool
  | some (.ref _ :: _) => true
  | _ => false
def cmB (K : Frag) (C p : Addr) (m : Str) : Bool := PySem.W.readsIn K C (.type "type") && (decide (PySem.W.specialIn K (.ref C) "__getattribute__" = some (some (.builtin "type.__getattribute__"))) &&
  (isGet p C (PySem.W.findCls K (.ref C) (.type "type") m) && (isRec (PySem.W.recIn K p "classmethod") && PySem.W.fnIn K (cmAd K p))))
def Fm.ok (K : Frag) : Fm → Bool
  | .fa f => f.ok K
  | .inh x m y => decide (PySem.W.findIn K (.ref (He.ga K x)) m = some (some (.ref (He.ma K (He.ga K y) m)))) && PySem.W.isFn K (.ref (He.ma K (He.ga K y) m))
  | .ne x => decide (PySem.W.findIn K (.ref (He.ga K x)) "__ne__" = some (some (.builtin "object.__ne__"))) && decide (PySem.W.mroIn K (He.ga K x) (.type "object") = some true)
  | .sup x y m => decide (PySem.W.mroIn K (He.ga K x) (.ref (He.ga K x)) = some true) && (decide (PySem.W.nsIn K cStatics "thirdparty.any" = some none) && (decide (PySem.W.ks_superIn K (He.ga K x) (He.ga K x) m = some (some (.ref (He.ma K (He.ga K y) m)))) &&
      (decide (PySem.W.typeIn K (.ref (He.ma K (He.ga K y) m)) = some (.type "function")) && PySem.W.fnIn K (He.ma K (He.ga K y) m))))
  | .glob x c => (match PySem.W.nsIn K mainGlobals x with
    | some (some u) => globB K c u
    | _ => false)
  | .cm x m => cmB K (He.ga K x) (He.ma K (He.ga K x) m) m
theorem cmB_ok {K : Frag} {C p : Addr} {m : Str} (c : cmB K C p m = true) : ClX.CRead K C (.type "type") ∧ ClX.CMet K C (.type "type") m p (cmAd K p) := by
  obtain ⟨c1, c⟩ := He.ba c
  obtain ⟨c2, c⟩ := He.ba c
  obtain ⟨c3, c⟩ := He.ba c
  obtain ⟨c4, c5⟩ := He.ba c
  refine ⟨⟨c1, of_decide_eq_true c2⟩, ?_, ?_, c5⟩
  · cases q : PySem.W.findCls K (.ref C) (.type "type") m with
    | none => rw [q] at c3; cases c3
    | some r =>
      rw [q] at c3
      cases r with
      | val _ => cases c3
      | get g a o t =>
        obtain ⟨d1, c3⟩ := He.ba c3
        obtain ⟨d2, c3⟩ := He.ba c3
        obtain ⟨d3, d4⟩ := He.ba c3
        rw [of_decide_eq_true d1, of_decide_eq_true d2, of_decide_eq_true d3, of_decide_eq_true d4]
  · unfold cmAd
    cases q : PySem.W.recIn K p "classmethod" with
    | none => rw [q] at c4; cases c4
    | some l =>
      rw [q] at c4
      cases l with
      | nil => cases c4
      | cons v r =>
        cases v with
        | ref g => exact ⟨r, rfl⟩
        | _ => cases c4
theorem glob_ok {K : Frag} {h : Heap} {mg : Str → Option Value} {nm : Nm} (X : K.In h) (G : h.Ns mainGlobals mg) {x : Str} {c : Mir.W} (q : (Fm.glob x c).ok K = true) : GlobC K mg nm x c := by
  have q' : (match PySem.W.nsIn K mainGlobals x with | some (some u) => globB K c u | _ => false) = true := q
  cases e : PySem.W.nsIn K mainGlobals x with
  | none => rw [e] at q'; cases q'
  | some o =>
    rw [e] at q'
    cases o with
    | none => cases q'
    | some u =>
      obtain ⟨v, r1, r2⟩ := globB_ok (mg := mg) (nm := nm) c u q'
      exact ⟨v, u, PySem.W.mg_of X G e, r1, r2⟩
/-! ### the classes -/
def biL : List String := ["int", "bool", "str", "list", "tuple"]
def biN : List String := ["NoneType", "int", "bool", "str", "list", "tuple"]
def clsB (an : List Str) (K : Frag) (x : Str) : Bool :=
  (He.Fa.glo x).ok K && ((He.Fa.cls x).ok K && (an.all (fun f => (He.Fa.noat x f).ok K) &&
  (decide (PySem.W.findIn K (.ref (He.ga K x)) "__class__" = some (some (.builtin "object.__class__"))) && (decide (PySem.W.mroIn K (He.ga K x) (.type "object") = some true) &&
  (biL.all (fun n => decide (PySem.W.kitOne K (.ref (He.ga K x)) (.type n) = some false)) && biN.all (fun n => decide (PySem.W.kitOne K (.type n) (.ref (He.ga K x)) = some false)))))))
def sfB (cn an : List Str) (sup : Nat → List Nat) (K : Frag) : Bool :=
  cn.all (clsB an K) && (cn.zipIdx.all (fun p => cn.zipIdx.all fun q => decide (PySem.W.kitOne K (.ref (He.ga K p.1)) (.ref (He.ga K q.1)) = some ((sup p.2).elem q.2))) &&
  (decide (PySem.W.specialIn K (.builtin "object.__class__") "__get__" = some (some (.builtin "getset_descriptor.__get__"))) && decide (PySem.W.takesIn K (.builtin "object.__class__") = some true)))
section
variable {K : Frag} {h : Heap} {mg : Str → Option Value} {cn an : List Str} {nd : an.Nodup} {sup : Nat → List Nat}
theorem cls_at (X : K.In h) (G : h.Ns mainGlobals mg) (c : sfB cn an sup K = true) {i : Nat} {x : Str} (e : cn[i]? = some x) : mg x = some (.ref (He.ga K x)) ∧ (⟨K, mg, ⟨cn, an, nd⟩⟩ : Tab).cls i = some (He.ga K x) := by
  have c1 := List.all_eq_true.mp (He.ba c).1 x (List.mem_of_getElem? e)
  have m := He.glo_ok X G (He.ba c1).1
  refine ⟨m, ?_⟩
  show (match cn[i]? with | some x => (match mg x with | some (.ref C) => some C | _ => none) | none => none) = _
  rw [e]
  show (match mg x with | some (.ref C) => some C | _ => none) = _
  rw [m]
theorem cls_inv (X : K.In h) (G : h.Ns mainGlobals mg) (c : sfB cn an sup K = true) {i : Nat} {C : Addr} (e : (⟨K, mg, ⟨cn, an, nd⟩⟩ : Tab).cls i = some C) : ∃ x, cn[i]? = some x ∧ C = He.ga K x := by
  cases q : cn[i]? with
  | none =>
    have e' : (match cn[i]? with | some x => (match mg x with | some (.ref C) => some C | _ => none) | none => none) = some C := e
    rw [q] at e'
    cases e'
  | some x => exact ⟨x, rfl, Option.some.inj (e.symm.trans (cls_at X G c q).2)⟩
theorem sf_ok (X : K.In h) (G : h.Ns mainGlobals mg) (c : sfB cn an sup K = true) : SF ⟨K, mg, ⟨cn, an, nd⟩⟩ sup := by
  obtain ⟨c1, c2⟩ := He.ba c
  obtain ⟨c3, c4⟩ := He.ba c2
  obtain ⟨c5, c6⟩ := He.ba c4
  have at_ : ∀ i C, (⟨K, mg, ⟨cn, an, nd⟩⟩ : Tab).cls i = some C → ∃ x, cn[i]? = some x ∧ C = He.ga K x ∧ clsB an K x = true := fun i C e => by
    obtain ⟨x, e1, e2⟩ := cls_inv X G c e
    exact ⟨x, e1, e2, List.all_eq_true.mp c1 x (List.mem_of_getElem? e1)⟩
  refine ⟨fun i C e => ?_, fun i C k f e ef => ?_, fun i C e => ?_, of_decide_eq_true c5, of_decide_eq_true c6, fun i C j D e e' => ?_, fun i C e n hn => ?_, fun i C e n hn => ?_⟩
  · obtain ⟨x, _, rfl, q⟩ := at_ i C e
    exact He.cls_ok (He.ba (He.ba q).2).1
  · obtain ⟨x, _, rfl, q⟩ := at_ i C e
    exact He.noat_ok (List.all_eq_true.mp (He.ba (He.ba (He.ba q).2).2).1 f (List.mem_of_getElem? ef))
  · obtain ⟨x, _, rfl, q⟩ := at_ i C e
    have q3 := (He.ba (He.ba (He.ba q).2).2).2
    exact ⟨of_decide_eq_true (He.ba q3).1, of_decide_eq_true (He.ba (He.ba q3).2).1⟩
  · obtain ⟨x, ex, rfl, _⟩ := at_ i C e
    obtain ⟨y, ey, rfl, _⟩ := at_ j D e'
    have m1 : (x, i) ∈ cn.zipIdx := List.mem_zipIdx_iff_getElem?.mpr ex
    have m2 : (y, j) ∈ cn.zipIdx := List.mem_zipIdx_iff_getElem?.mpr ey
    exact of_decide_eq_true (List.all_eq_true.mp (List.all_eq_true.mp c3 _ m1) _ m2)
  · obtain ⟨x, _, rfl, q⟩ := at_ i C e
    have q3 := (He.ba (He.ba (He.ba (He.ba (He.ba q).2).2).2).2).2
    exact of_decide_eq_true (List.all_eq_true.mp (He.ba q3).1 n hn)
  · obtain ⟨x, _, rfl, q⟩ := at_ i C e
    have q3 := (He.ba (He.ba (He.ba (He.ba (He.ba q).2).2).2).2).2
    exact of_decide_eq_true (List.all_eq_true.mp (He.ba q3).2 n hn)
end
/-! ### the look -/
structure Head where
  cn : List Str
  an : List Str
  sup : Nat → List Nat
  file : Str
  fm : List Fm
  fn : List DefM
abbrev AlM : Type := Bool × List FnY
def obsM (D : Head) (K : Frag) : AlM := (sfB D.cn D.an D.sup K && (D.fm.all (fun f => f.ok K) && D.fn.all fun d => d.ok D.file K), D.fn.map fun d => fnY K (d.ad K))
def valM (D : Head) : AlM := (true, D.fn.map DefM.val)
def SaysM (D : Head) (K : Frag) : Prop := obsM D K = valM D
def asM (g : Addr → Option Obj) : Nat → List Addr
  | 0 => [mainGlobals, cStatics]
  | n + 1 => He.growD g (asM g n)
def obsMG (n : Nat) (D : Head) (g : Addr → Option Obj) : AlM := obsM D (He.frG g (asM g n))
def hookM (n : Nat) (D : Head) : PySem.W.Hook where
  α := AlM
  obs := fun s => obsMG n D s.heap.get?
  val := fun _ => valM D
  says := fun _ h => ∃ K : Frag, K.In h ∧ SaysM D K
  of := fun _ _ e => ⟨_, He.frG_in, e⟩
  keeps := fun _ _ _ ⟨K, hK, c⟩ k => ⟨K, PySem.W.Frag.In.keeps hK k, c⟩
theorem obsMG_eq {n : Nat} {D : Head} {g : Addr → Option Obj} {s : Shared} (h : ∀ a, g a = s.heap.get? a) : obsMG n D g = (hookM n D).obs s := by
  have e : g = s.heap.get? := funext h
  rw [e] <;> rfl
section
variable {D : Head} {K : Frag}
theorem SaysM.sf (c : SaysM D K) : sfB D.cn D.an D.sup K = true := (He.ba (show (sfB D.cn D.an D.sup K && _) = true from congrArg (fun z : AlM => z.1) c)).1
theorem SaysM.fact (c : SaysM D K) (i : Nat) {f : Fm} (h : D.fm[i]? = some f := by rfl) : f.ok K = true :=
  List.all_eq_true.mp (He.ba (He.ba (show (sfB D.cn D.an D.sup K && (D.fm.all (fun f => f.ok K) && D.fn.all fun d => d.ok D.file K)) = true from congrArg (fun z : AlM => z.1) c)).2).1 f (List.mem_of_getElem? h)
theorem SaysM.def0 (c : SaysM D K) (i : Nat) {d : DefM} (h : D.fn[i]? = some d) : fnY K (d.ad K) = d.val ∧ d.ok D.file K = true := by
  have c2 := (He.ba (He.ba (show (sfB D.cn D.an D.sup K && (D.fm.all (fun f => f.ok K) && D.fn.all fun d => d.ok D.file K)) = true from congrArg (fun z : AlM => z.1) c)).2).2
  have e : D.fn.map (fun d => fnY K (d.ad K)) = D.fn.map DefM.val := congrArg (fun z : AlM => z.2) c
  have e2 : (D.fn.map fun d => fnY K (d.ad K))[i]? = (D.fn.map DefM.val)[i]? := by rw [e]
  rw [List.getElem?_map, List.getElem?_map, h] at e2
  exact ⟨Option.some.inj e2, List.all_eq_true.mp c2 d (List.mem_of_getElem? h)⟩
theorem SaysM.fn (c : SaysM D K) (i : Nat) {d : DefM} (h : D.fn[i]? = some d := by rfl) (hs : d.sup = false := by rfl) : ∃ fd, Fun K d.name d.qual d.st (d.ad K) fd := fun_at (c.def0 i h).1 (c.def0 i h).2 hs
theorem SaysM.fnS {P : Program} (c : SaysM D K) (hf : (P.main.file : Str) = D.file) (i : Nat) {d : DefM} (h : D.fn[i]? = some d := by rfl) (hs : d.sup = true := by rfl) : ∃ fd, FunS P K d.name d.qual "self" d.st (d.ad K) fd (He.ga K d.at_.1) := funS_at hf (c.def0 i h).1 (c.def0 i h).2 hs
end
end MW
set_option Elab.async false
set_option linter.all false
set_option maxRecDepth 100000
set_option maxHeartbeats 2000000
/-! MF: from the look at the top to the bundles; the law's end. -/
namespace MW
open PySem PySem.Spec PyProof.Rows L2 Mir
def S0 : Store := ⟨0, []⟩
theorem fin_sp {T : Tab} {m : MF} {n : Nat} (hm : ∀ ns : List Int, ns.length ≤ n → ∃ S', m [.lsr (ns.map Mir.W.int)] S0 = .ok (.bl true) S') (H : Hp) (a : Addr) (ns : List Int) (hl : ns.length ≤ n) (hS : SqL T.K H a (ns.map V.int)) :
    spM T m [.ref a] H (fun v _ => v = .bl true) fun _ _ _ => False := by
  obtain ⟨S', e⟩ := hm ns hl
  have hints : ∀ ns : List Int, RelWs T (fun _ => none) H (ns.map Mir.W.int) (ns.map V.int) := fun ns => by
    induction ns with
    | nil => exact .nil
    | cons i r ih => exact .cons (.int i) ih
  refine ⟨⟨fun _ => none, H, S0, H⟩, [.lsr (ns.map Mir.W.int)], rfl, ⟨Same.refl _, (fun n o z => nomatch z), (fun n m a z => z.1.elim fun o y => nomatch y), (fun n a z => nomatch z), .nil⟩, .cons (.lsr hS (hints ns)) .nil, ?_⟩
  show PostG T _ (m [.lsr (ns.map Mir.W.int)] S0) _ _
  rw [e]
  intro w' o x hs v rv
  cases rv.bl_inv
  rfl
structure ClG (K : Frag) (mg : Str → Option Value) (nm : Nm) (x : Str) (c : Nat) : Prop where
  ex : ∃ C, (⟨K, mg, nm⟩ : Tab).cls c = some C ∧ mg x = some (.ref C)
section
variable {X : Cx} {nm : Nm} {p : Pos}
theorem cls_g {x : Str} {c : Nat} (G : ClG X.K X.mg nm x c) (hg : Gl X x := by rfl) (hd : (x == ("__debug__" : Str)) = false := by decide) : ClsE X nm (.Name x p) (.own c) := by
  obtain ⟨C, h1, h2⟩ := G.ex
  exact cls_own h1 h2 hg hd
end
section
variable {P : Program} {w : World} {K : Frag} {mg : Str → Option Value} {base : Heap} {D : Head} {h : Heap} {k : Nat} {m : MF} {ps : List Str} {fd : FuncData}
theorem cl_of (nd : D.an.Nodup) (X : K.In h) (G : h.Ns mainGlobals mg) (c : SaysM D K) {i : Nat} {x : Str} (e : D.cn[i]? = some x := by rfl) : ClG K mg ⟨D.cn, D.an, nd⟩ x i := ⟨_, (cls_at X G c.sf e).2, (cls_at (nd := nd) X G c.sf e).1⟩
theorem fnG_of {nm : Nm} (X : K.In h) (G : h.Ns mainGlobals mg) (c : SaysM D K) {x q : Str} {st : Stmt} (j : Nat) (hj : D.fm[j]? = some (.fa (.glo x)) := by rfl) (F : Fun K x q st (He.fAd K (x, none)) fd) (b : Binds K fd ps []) (ho : FnOk P w K mg base CX0 k (He.fAd K (x, none)) fd ps (spM ⟨K, mg, nm⟩ m)) : FnG P w K mg base nm k x m :=
  ⟨_, fd, ps, He.glo_ok X G (c.fact j hj), F.kp, b, ho⟩
theorem fnGK_of {nm : Nm} (X : K.In h) (G : h.Ns mainGlobals mg) (c : SaysM D K) {x q : Str} {st : Stmt} (j : Nat) (hj : D.fm[j]? = some (.fa (.glo x)) := by rfl) (F : Fun K x q st (He.fAd K (x, none)) fd) (b : Binds K fd ps []) (ho : FnK P w K mg base k (He.fAd K (x, none)) fd ps (spM ⟨K, mg, nm⟩ m)) : FnGK P w K mg base nm k x m :=
  ⟨_, fd, ps, He.glo_ok X G (c.fact j hj), F.kp, b, ho⟩
theorem mtG_of (nd : D.an.Nodup) (X : K.In h) (G : h.Ns mainGlobals mg) (c : SaysM D K) {x mn : Str} {i : Nat} (e : D.cn[i]? = some x := by rfl) (j : Nat) (hj : D.fm[j]? = some (.fa (.meth x mn)) := by rfl) (b : Binds K fd ps []) (ho : FnOk P w K mg base CX0 k (He.fAd K (x, some mn)) fd ps (spM ⟨K, mg, ⟨D.cn, D.an, nd⟩⟩ m)) : MtG P w K mg base ⟨D.cn, D.an, nd⟩ k mn i m :=
  ⟨_, _, fd, ps, (cls_at X G c.sf e).2, He.meth_ok (c.fact j hj), b, ho⟩
theorem mkG_of (nd : D.an.Nodup) (X : K.In h) (G : h.Ns mainGlobals mg) (c : SaysM D K) {x : Str} {i : Nat} (e : D.cn[i]? = some x := by rfl) (j : Nat) (hj : D.fm[j]? = some (.fa (.mkr x)) := by rfl) (b : Binds K fd ps []) (ho : FnOk P w K mg base CX0 k (He.fAd K (x, some "__init__")) fd ps (spM ⟨K, mg, ⟨D.cn, D.an, nd⟩⟩ m)) : MkG P w K mg base ⟨D.cn, D.an, nd⟩ k x i m :=
  ⟨_, _, fd, ps, (cls_at X G c.sf e).2, (cls_at (nd := nd) X G c.sf e).1, He.mkr_ok (c.fact j hj), b, ho⟩
theorem supG_of (nd : D.an.Nodup) (X : K.In h) (G : h.Ns mainGlobals mg) (c : SaysM D K) {x y mn : Str} {i : Nat} (e : D.cn[i]? = some x := by rfl) (j : Nat) (hj : D.fm[j]? = some (.sup x y mn) := by rfl) (j2 : Nat) (hj2 : D.fm[j2]? = some (.fa (.free "super")) := by rfl) (htop : (P.main.scope.names.lookup ("super" : Str)).isSome = false)
    (b : Binds K fd ps []) (ho : FnOk P w K mg base CX0 k (He.fAd K (y, some mn)) fd ps (spM ⟨K, mg, ⟨D.cn, D.an, nd⟩⟩ m)) : SupG P w K mg base ⟨D.cn, D.an, nd⟩ k i i mn m := by
  obtain ⟨q1, q⟩ := He.ba (c.fact j hj)
  obtain ⟨q2, q⟩ := He.ba q
  obtain ⟨q3, q⟩ := He.ba q
  obtain ⟨q4, q5⟩ := He.ba q
  exact ⟨_, _, _, fd, ps, (cls_at X G c.sf e).2, (cls_at X G c.sf e).2, of_decide_eq_true q1, He.free_ok X G (c.fact j2 hj2), htop, of_decide_eq_true q2, of_decide_eq_true q3, of_decide_eq_true q4, q5, ho, b⟩
theorem eqC_of (nd : D.an.Nodup) (X : K.In h) (G : h.Ns mainGlobals mg) (c : SaysM D K) {x y : Str} {i : Nat} (e : D.cn[i]? = some x := by rfl) (j : Nat) (hj : D.fm[j]? = some (.inh x "__eq__" y) := by rfl) (j2 : Nat) (hj2 : D.fm[j2]? = some (.ne x) := by rfl)
    (b : Binds K fd ps []) (ho : FnOk P w K mg base CX0 k (He.fAd K (y, some "__eq__")) fd ps (spM ⟨K, mg, ⟨D.cn, D.an, nd⟩⟩ m)) : EqC P w K mg base ⟨D.cn, D.an, nd⟩ k i m := by
  obtain ⟨q1, q2⟩ := He.ba (c.fact j hj)
  obtain ⟨q3, q4⟩ := He.ba (c.fact j2 hj2)
  exact ⟨_, _, fd, ps, (cls_at X G c.sf e).2, of_decide_eq_true q1, q2, of_decide_eq_true q3, of_decide_eq_true q4, b, ho⟩
theorem strC_of (nd : D.an.Nodup) (X : K.In h) (G : h.Ns mainGlobals mg) (c : SaysM D K) {x y : Str} {i : Nat} (e : D.cn[i]? = some x := by rfl) (j : Nat) (hj : D.fm[j]? = some (.inh x "__str__" y) := by rfl)
    (b : Binds K fd ps []) (ho : FnOk P w K mg base CX0 k (He.fAd K (y, some "__str__")) fd ps (spM ⟨K, mg, ⟨D.cn, D.an, nd⟩⟩ m)) : StrC P w K mg base ⟨D.cn, D.an, nd⟩ k i m := by
  obtain ⟨q1, q2⟩ := He.ba (c.fact j hj)
  exact ⟨_, _, fd, ps, (cls_at X G c.sf e).2, of_decide_eq_true q1, q2, b, ho⟩
end
/-! a promise may be told of more room -/
section
variable {P : Program} {w : World} {K : Frag} {mg : Str → Option Value} {base : Heap} {nm : Nm} {j k c : Nat} {m : MF}
theorem EqC.mono (h : EqC P w K mg base nm j c m) (hk : j ≤ k) : EqC P w K mg base nm k c m := by
  obtain ⟨C, f, fd, ps, h1, h2, h3, h4, h5, h6, h7⟩ := h.ex
  exact ⟨C, f, fd, ps, h1, h2, h3, h4, h5, h6, h7.mono hk⟩
theorem StrC.mono (h : StrC P w K mg base nm j c m) (hk : j ≤ k) : StrC P w K mg base nm k c m := by
  obtain ⟨C, f, fd, ps, h1, h2, h3, h4, h5⟩ := h.ex
  exact ⟨C, f, fd, ps, h1, h2, h3, h4, h5.mono hk⟩
end
end MW
set_option Elab.async false
set_option linter.all false
set_option maxRecDepth 100000
set_option maxHeartbeats 4000000
namespace G
open PySem PySem.Spec PyProof.Rows L2 Mir MW
abbrev V := L2.V
def top (i : Nat) : Stmt := PySem.Challenge.pw_forkpolls_k02_rows_made.main.body.getD i (.Pass ⟨0, 0, 0, 0⟩)
/-! names of classes and attributes -/
def cnl : List Str := (["Row", "Step", "Join", "Part"] : List String).map Str.ofString
def anl : List Str := (["word", "at", "row_text", "row_names", "kind", "old", "then", "add", "here", "there", "left", "right", "more"] : List String).map Str.ofString
theorem an_nd : anl.Nodup := by decide +kernel
def nm : Nm := ⟨cnl, anl, an_nd⟩
def sup : Nat → List Nat
  | 0 => [0]
  | 1 => [1, 0]
  | 2 => [2, 0]
  | 3 => [3, 0]
  | _ => []
def g_LETTERS : Mir.W := .str [97, 98, 99, 100, 101, 102, 103, 104, 105, 106, 107, 108, 109, 110, 111, 112, 113, 114, 115, 116, 117, 118, 119, 120, 121, 122]
def g_DIGITS : Mir.W := .str [48, 49, 50, 51, 52, 53, 54, 55, 56, 57]
def g_MOST_LETTERS : Mir.W := .int (4)
def g_MOST_ADD : Mir.W := .int (3)
def g_BARRED : Mir.W := .tup [.str [97, 110, 121], .str [98, 121], .str [111, 110, 101], .str [115, 97, 109, 101], .str [116, 111]]
def g_KINDS : Mir.W := .tup [.str [121, 101, 115], .str [110, 111], .str [108, 97, 116, 101, 32, 121, 101, 115], .str [108, 97, 116, 101, 32, 110, 111], .str [119, 111, 114, 100], .str [115, 116, 114, 105, 107, 101], .str [98, 97, 99, 107], .str [99, 117, 116]]
abbrev s_0_ : List Nat := [110, 111, 110, 101]
theorem s_0 : TL.tl ("none" : Str) = s_0_ := by decide +kernel
abbrev s_1_ : List Nat := [105, 110]
theorem s_1 : TL.tl ("in" : Str) = s_1_ := by decide +kernel
abbrev s_2_ : List Nat := [111, 117, 116]
theorem s_2 : TL.tl ("out" : Str) = s_2_ := by decide +kernel
abbrev s_3_ : List Nat := [97]
theorem s_3 : TL.tl ("a" : Str) = s_3_ := by decide +kernel
abbrev s_4_ : List Nat := [97, 98]
theorem s_4 : TL.tl ("ab" : Str) = s_4_ := by decide +kernel
abbrev s_5_ : List Nat := [122, 122, 122, 122]
theorem s_5 : TL.tl ("zzzz" : Str) = s_5_ := by decide +kernel
abbrev s_6_ : List Nat := [121, 101, 115]
theorem s_6 : TL.tl ("yes" : Str) = s_6_ := by decide +kernel
abbrev s_7_ : List Nat := [108, 97, 116, 101]
theorem s_7 : TL.tl ("late" : Str) = s_7_ := by decide +kernel
abbrev s_8_ : List Nat := [106, 111, 105, 110]
theorem s_8 : TL.tl ("join" : Str) = s_8_ := by decide +kernel
abbrev s_9_ : List Nat := [98]
theorem s_9 : TL.tl ("b" : Str) = s_9_ := by decide +kernel
abbrev s_10_ : List Nat := [119, 111, 114, 100]
theorem s_10 : TL.tl ("word" : Str) = s_10_ := by decide +kernel
abbrev s_11_ : List Nat := [110, 111]
theorem s_11 : TL.tl ("no" : Str) = s_11_ := by decide +kernel
abbrev s_12_ : List Nat := [99, 117, 116]
theorem s_12 : TL.tl ("cut" : Str) = s_12_ := by decide +kernel
abbrev s_13_ : List Nat := [97, 110, 121]
theorem s_13 : TL.tl ("any" : Str) = s_13_ := by decide +kernel
abbrev s_14_ : List Nat := [111, 110, 101]
theorem s_14 : TL.tl ("one" : Str) = s_14_ := by decide +kernel
abbrev s_15_ : List Nat := [111, 116, 104, 101, 114]
theorem s_15 : TL.tl ("other" : Str) = s_15_ := by decide +kernel
abbrev s_16_ : List Nat := [115, 97, 109, 101]
theorem s_16 : TL.tl ("same" : Str) = s_16_ := by decide +kernel
abbrev s_17_ : List Nat := [112, 97, 114, 116]
theorem s_17 : TL.tl ("part" : Str) = s_17_ := by decide +kernel
abbrev s_18_ : List Nat := [115, 116, 101, 112]
theorem s_18 : TL.tl ("step" : Str) = s_18_ := by decide +kernel
abbrev s_19_ : List Nat := [108, 97, 116, 101, 32, 121, 101, 115]
theorem s_19 : TL.tl ("late yes" : Str) = s_19_ := by decide +kernel
abbrev s_20_ : List Nat := [108, 97, 116, 101, 32, 110, 111]
theorem s_20 : TL.tl ("late no" : Str) = s_20_ := by decide +kernel
abbrev s_21_ : List Nat := [115, 116, 114, 105, 107, 101]
theorem s_21 : TL.tl ("strike" : Str) = s_21_ := by decide +kernel
abbrev s_22_ : List Nat := [98, 97, 99, 107]
theorem s_22 : TL.tl ("back" : Str) = s_22_ := by decide +kernel
abbrev s_23_ : List Nat := [32]
theorem s_23 : TL.tl (" " : Str) = s_23_ := by decide +kernel
abbrev s_24_ : List Nat := [32, 116, 111, 32]
theorem s_24 : TL.tl (" to " : Str) = s_24_ := by decide +kernel
abbrev s_25_ : List Nat := [32, 98, 121, 32]
theorem s_25 : TL.tl (" by " : Str) = s_25_ := by decide +kernel
abbrev s_26_ : List Nat := [106, 111, 105, 110, 32]
theorem s_26 : TL.tl ("join " : Str) = s_26_ := by decide +kernel
abbrev s_27_ : List Nat := [116, 111]
theorem s_27 : TL.tl ("to" : Str) = s_27_ := by decide +kernel
abbrev s_28_ : List Nat := [98, 121]
theorem s_28 : TL.tl ("by" : Str) = s_28_ := by decide +kernel
abbrev s_29_ : List Nat := [107, 105, 110, 100]
theorem s_29 : TL.tl ("kind" : Str) = s_29_ := by decide +kernel
abbrev s_30_ : List Nat := [111, 108, 100]
theorem s_30 : TL.tl ("old" : Str) = s_30_ := by decide +kernel
abbrev s_31_ : List Nat := [116, 104, 101, 110]
theorem s_31 : TL.tl ("then" : Str) = s_31_ := by decide +kernel
abbrev s_32_ : List Nat := [97, 100, 100]
theorem s_32 : TL.tl ("add" : Str) = s_32_ := by decide +kernel
abbrev s_33_ : List Nat := [104, 101, 114, 101]
theorem s_33 : TL.tl ("here" : Str) = s_33_ := by decide +kernel
abbrev s_34_ : List Nat := [116, 104, 101, 114, 101]
theorem s_34 : TL.tl ("there" : Str) = s_34_ := by decide +kernel
abbrev s_35_ : List Nat := [108, 101, 102, 116]
theorem s_35 : TL.tl ("left" : Str) = s_35_ := by decide +kernel
abbrev s_36_ : List Nat := [114, 105, 103, 104, 116]
theorem s_36 : TL.tl ("right" : Str) = s_36_ := by decide +kernel
abbrev s_37_ : List Nat := [109, 111, 114, 101]
theorem s_37 : TL.tl ("more" : Str) = s_37_ := by decide +kernel
abbrev s_38_ : List Nat := [112, 97, 114, 116, 32]
theorem s_38 : TL.tl ("part " : Str) = s_38_ := by decide +kernel
/-- what the top has left -/
structure Zf (K : Frag) (mg : Str → Option Value) : Prop where
  sf : SF ⟨K, mg, nm⟩ sup
  b_abs : mg "abs" = none
  b_all : mg "all" = none
  b_any : mg "any" = none
  b_bool : mg "bool" = none
  b_enumerate : mg "enumerate" = none
  b_int : mg "int" = none
  b_isinstance : mg "isinstance" = none
  b_len : mg "len" = none
  b_list : mg "list" = none
  b_range : mg "range" = none
  b_repr : mg "repr" = none
  b_str : mg "str" = none
  b_sum : mg "sum" = none
  b_super : mg "super" = none
  b_tuple : mg "tuple" = none
  b_zip : mg "zip" = none
  g_LETTERS : GlobC K mg nm "LETTERS" g_LETTERS
  g_DIGITS : GlobC K mg nm "DIGITS" g_DIGITS
  g_MOST_LETTERS : GlobC K mg nm "MOST_LETTERS" g_MOST_LETTERS
  g_MOST_ADD : GlobC K mg nm "MOST_ADD" g_MOST_ADD
  g_BARRED : GlobC K mg nm "BARRED" g_BARRED
  g_KINDS : GlobC K mg nm "KINDS" g_KINDS
  c_Row : ClG K mg nm "Row" 0
  c_Step : ClG K mg nm "Step" 1
  c_Join : ClG K mg nm "Join" 2
  c_Part : ClG K mg nm "Part" 3
variable {P : Program} {w : World} {K : Frag} {mg : Str → Option Value} {base : Heap}
/-! ### _law_deal -/
abbrev st_law_deal : Stmt := (top 27)
def m_law_deal : MF := fnOf 2 5 (sSeq (sAsg (.nm 2) (eLc [3] (iSeq (eSl sl (eVar 0) (oSome (eVar 1)) (oSome (eC (.int 61))))) (.nm 3) Mir.tYes (eCall fAbs (aCons (eCall fInt (aCons (eVar 3) aNil)) aNil)))) (sSeq (sAsg (.nm 4) (eBin opAdd (eC (.int 32452867)) (eBin opMul (eC (.int 43)) (eVar 1)))) (sSeq (sFor (iSeq (eVar 2)) (.nm 3) (sAsg (.nm 4) (eBin opMod (eCall fInt (aCons (eBin opAdd (eBin opAdd (eBin opMul (eVar 4) (eC (.int 48271))) (eBin opMod (eCall fInt (aCons (eVar 3) aNil)) (eC (.int 2147483629)))) (eC (.int 23))) aNil)) (eC (.int 2147483647))))) (sRet (eLstM (aCons (eUn opRevM (eLc [3] (iSeq (eVar 2)) (.nm 3) (Mir.tB (eBin opGe (eVar 3) (eBin opPow (eC (.int 10)) (eC (.int 18))))) (eVar 3))) (aCons (eVar 4) aNil)))))))
theorem sc_law_deal : FnScope ["_law_script", "_law_base", "_law_cells", "_law_cell", "_law_mixed_here"] ["_law_script", "_law_base"] (defScope st_law_deal) := ⟨rfl, rfl, rfl, by decide +kernel, rfl, by decide +kernel, by decide +kernel⟩
theorem ok_law_deal (Z : Zf K mg) {f : Addr} {fd : FuncData} (F : Fun K "_law_deal" "_law_deal" st_law_deal f fd) : FnOk P w K mg base CX0 1 f fd ["_law_script", "_law_base"] (spM ⟨K, mg, nm⟩ m_law_deal) := by
  have law_deal_nd := (sc_law_deal).nd
  refine fn_ok F sc_law_deal rfl rfl fun cdv A outer s H E hr => ?_
  have hu := room64 hr
  have hv := room65 hr
  exact (wss_cons (ws_lc (i := 2) rfl law_deal_nd rfl rfl (sw_true rfl rfl rfl (by decide +kernel)) (own := [("_law_cell", 3)]) (vs := [3]) rfl (by decide) (blkOk_by (N := ["_law_script", "_law_base", "_law_cells", "_law_cell", "_law_mixed_here"]) (sc := defScope st_law_deal) (by decide +kernel)) (wi_seq (we_sl (we_var 0) (wo_some (we_var 1)) (wo_some we_int))) (fun _ _ _ _ _ => (wg_name law_deal_nd)) (fun _ _ _ _ _ => wts_nil) (fun _ _ _ _ _ => (we_callB cw_abs Z.b_abs (by decide +kernel) (wa_cons (we_callTy cw_int Z.b_int (by decide +kernel) (wa_cons (we_var 3) wa_nil)) wa_nil)))) (wss_cons (ws_set (i := 4) law_deal_nd (we_op opw_add we_int (we_op opw_mul we_int (we_var 1)))) (wss_cons (ws_for PassesOwn.never rfl (wi_seq (we_var 2)) (wg_name law_deal_nd) (wss_one (ws_set (i := 4) law_deal_nd (we_op opw_mod (we_callTy cw_int Z.b_int (by decide +kernel) (wa_cons (we_op opw_add (we_op opw_add (we_op opw_mul (we_var 4) we_int) (we_op opw_mod (we_callTy cw_int Z.b_int (by decide +kernel) (wa_cons (we_var 3) wa_nil)) we_int)) we_int) wa_nil)) we_int)))) (wss_one (ws_ret (we_lstM (wa_cons (we_revM (we_lc rfl law_deal_nd (own := [("_law_cell", 3)]) (vs := [3]) rfl (by decide) (blkOk_by (N := ["_law_script", "_law_base", "_law_cells", "_law_cell", "_law_mixed_here"]) (sc := defScope st_law_deal) (by decide +kernel)) (wi_seq (we_var 2)) (fun _ _ _ _ _ => (wg_name law_deal_nd)) (fun _ _ _ _ _ => (wts_one (wt_cmp opw_ge (we_var 3) (we_op opw_pow we_int we_int)))) (fun _ _ _ _ _ => (we_var 3)))) (wa_cons (we_var 4) wa_nil))))))))
/-! ### _law_draw -/
abbrev st_law_draw : Stmt := (top 28)
def m_law_draw : MF := fnOf 2 3 (sSeq (sWhile (Mir.tAnd (Mir.tB (eBin opNe (eBin opIdx (eVar 0) (eC (.int 0))) (eLst aNil))) (Mir.tB (eBin opEq (eBin opIdx (eBin opIdx (eVar 0) (eC (.int 0))) (eUn opNeg (eC (.int 1)))) (eC (.int 0))))) (sExpr (eMtL (m0 mPop) (eBin opIdx (eVar 0) (eC (.int 0))) aNil)) 1000) (sSeq (sIf (Mir.tB (eBin opNe (eBin opIdx (eVar 0) (eC (.int 0))) (eLst aNil))) (sSeq (sAsg (.nm 2) (eMtL (m0 mPop) (eBin opIdx (eVar 0) (eC (.int 0))) aNil)) (sSeq (sExpr (eMtL (m1 mAppend) (eBin opIdx (eVar 0) (eC (.int 0))) (aCons (eBin opDiv (eVar 2) (eVar 1)) aNil))) (sRet (eBin opMod (eCall fInt (aCons (eVar 2) aNil)) (eVar 1))))) sNext) (sSeq (sIdx (eVar 0) (eC (.int 1)) (eBin opMod (eCall fInt (aCons (eBin opAdd (eBin opMul (eBin opIdx (eVar 0) (eC (.int 1))) (eC (.int 48271))) (eC (.int 29))) aNil)) (eC (.int 2147483647)))) (sRet (eBin opMod (eCall fInt (aCons (eBin opDiv (eBin opIdx (eVar 0) (eC (.int 1))) (eC (.int 16))) aNil)) (eVar 1))))))
theorem sc_law_draw : FnScope ["_law_deal_here", "_law_many", "_law_left"] ["_law_deal_here", "_law_many"] (defScope st_law_draw) := ⟨rfl, rfl, rfl, by decide +kernel, rfl, by decide +kernel, by decide +kernel⟩
theorem ok_law_draw (Z : Zf K mg) {f : Addr} {fd : FuncData} (F : Fun K "_law_draw" "_law_draw" st_law_draw f fd) : FnOk P w K mg base CX0 1 f fd ["_law_deal_here", "_law_many"] (spM ⟨K, mg, nm⟩ m_law_draw) := by
  have law_draw_nd := (sc_law_draw).nd
  refine fn_ok F sc_law_draw rfl rfl fun cdv A outer s H E hr => ?_
  have hu := room64 hr
  have hv := room65 hr
  exact (wss_cons (ws_while PassesOwn.never (PW.pt (ww_and (wt_cmp (opw_ne hu) (we_idx (we_var 0) we_int) (we_lst wa_nil)) (ww_and1 (wt_cmp (opw_eq hu) (we_idx (we_idx (we_var 0) we_int) (we_un opw_neg we_int)) we_int)))) (wss_one (ws_expr (we_mtL0 PySem.F.slot_list_pop PySem.F.type_list_pop mw_pop (we_idx (we_var 0) we_int))))) (wss_cons (ws_if (wt_cmp (opw_ne hu) (we_idx (we_var 0) we_int) (we_lst wa_nil)) (wss_cons (ws_set (i := 2) law_draw_nd (we_mtL0 PySem.F.slot_list_pop PySem.F.type_list_pop mw_pop (we_idx (we_var 0) we_int))) (wss_cons (ws_expr (we_mtL PySem.F.slot_list_append PySem.F.type_list_append mw_append (we_idx (we_var 0) we_int) (wa_cons (we_op opw_div (we_var 2) (we_var 1)) wa_nil))) (wss_one (ws_ret (we_op opw_mod (we_callTy cw_int Z.b_int (by decide +kernel) (wa_cons (we_var 2) wa_nil)) (we_var 1)))))) wss_nil) (wss_cons (ws_idx (we_var 0) we_int (we_op opw_mod (we_callTy cw_int Z.b_int (by decide +kernel) (wa_cons (we_op opw_add (we_op opw_mul (we_idx (we_var 0) we_int) we_int) we_int) wa_nil)) we_int)) (wss_one (ws_ret (we_op opw_mod (we_callTy cw_int Z.b_int (by decide +kernel) (wa_cons (we_op opw_div (we_idx (we_var 0) we_int) we_int) wa_nil)) (we_var 1)))))))
/-! ### _law_mixed -/
abbrev st_law_mixed : Stmt := (top 30)
def m_law_mixed : MF := fnOf 2 4 (sSeq (sAsg (.tp [.nm 2, .nm 3]) (eTup (aCons (eCall fListM (aCons (eVar 1) aNil)) (aCons (eLstM aNil) aNil)))) (sSeq (sWhile (Mir.tB (eBin opNe (eVar 2) (eLst aNil))) (sExpr (eMtL (m1 mAppend) (eVar 3) (aCons (eMtL (m1 mPopAt) (eVar 2) (aCons (eCall m_law_draw (aCons (eVar 0) (aCons (eCall fLen (aCons (eVar 2) aNil)) aNil))) aNil)) aNil))) 1000) (sRet (eFrz (eVar 3)))))
theorem sc_law_mixed : FnScope ["_law_deal_here", "_law_some", "_law_left", "_law_found"] ["_law_deal_here", "_law_some"] (defScope st_law_mixed) := ⟨rfl, rfl, rfl, by decide +kernel, rfl, by decide +kernel, by decide +kernel⟩
theorem ok_law_mixed (Z : Zf K mg) (G_law_draw : FnG P w K mg base nm 1 "_law_draw" m_law_draw) {f : Addr} {fd : FuncData} (F : Fun K "_law_mixed" "_law_mixed" st_law_mixed f fd) : FnOk P w K mg base CX0 2 f fd ["_law_deal_here", "_law_some"] (spM ⟨K, mg, nm⟩ m_law_mixed) := by
  have law_mixed_nd := (sc_law_mixed).nd
  refine fn_ok F sc_law_mixed rfl rfl fun cdv A outer s H E hr => ?_
  have hu := room64 hr
  have hv := room65 hr
  exact (wss_cons (ws_par (i := 2) (j := 3) rfl law_mixed_nd (wa_cons (we_callTy cw_listM Z.b_list (by decide +kernel) (wa_cons (we_var 1) wa_nil)) (wa_cons (we_lstM wa_nil) wa_nil))) (wss_cons (ws_while PassesOwn.never (wt_cmp (opw_ne hu) (we_var 2) (we_lst wa_nil)) (wss_one (ws_expr (we_mtL PySem.F.slot_list_append PySem.F.type_list_append mw_append (we_var 3) (wa_cons (we_mtL PySem.F.slot_list_pop PySem.F.type_list_pop mw_popAt (we_var 2) (wa_cons (wg_call G_law_draw (hr.mono (by decide)) (wa_cons (we_var 0) (wa_cons (we_callB cw_len Z.b_len (by decide +kernel) (wa_cons (we_var 2) wa_nil)) wa_nil))) wa_nil)) wa_nil))))) (wss_one (ws_ret (we_frz (we_var 3))))))
/-! ### _law_names -/
abbrev st_law_names : Stmt := (top 31)
def m_law_names : MF := fnOf 2 3 (sSeq (sAsg (.nm 2) (eLst (aCons (eC (.str s_0_)) (aCons (eC (.str s_1_)) (aCons (eC (.str s_2_)) (aCons (eC (.str s_3_)) (aCons (eC (.str s_4_)) (aCons (eC (.str s_5_)) (aCons (eC (.str s_6_)) (aCons (eC (.str s_7_)) (aCons (eC (.str s_8_)) (aCons (eC (.str s_9_)) (aCons (eC (.str s_10_)) (aCons (eC (.str s_11_)) (aCons (eC (.str s_12_)) aNil))))))))))))))) (sRet (eSl sl (eCall m_law_mixed (aCons (eVar 0) (aCons (eVar 2) aNil))) oNone (oSome (eVar 1)))))
theorem sc_law_names : FnScope ["_law_deal_here", "_law_many", "_law_some"] ["_law_deal_here", "_law_many"] (defScope st_law_names) := ⟨rfl, rfl, rfl, by decide +kernel, rfl, by decide +kernel, by decide +kernel⟩
theorem ok_law_names (Z : Zf K mg) (G_law_mixed : FnG P w K mg base nm 2 "_law_mixed" m_law_mixed) {f : Addr} {fd : FuncData} (F : Fun K "_law_names" "_law_names" st_law_names f fd) : FnOk P w K mg base CX0 3 f fd ["_law_deal_here", "_law_many"] (spM ⟨K, mg, nm⟩ m_law_names) := by
  have law_names_nd := (sc_law_names).nd
  refine fn_ok F sc_law_names rfl rfl fun cdv A outer s H E hr => ?_
  have hu := room64 hr
  have hv := room65 hr
  exact (wss_cons (ws_set (i := 2) law_names_nd (we_lst (wa_cons (we_str s_0 (by rfl)) (wa_cons (we_str s_1 (by rfl)) (wa_cons (we_str s_2 (by rfl)) (wa_cons (we_str s_3 (by rfl)) (wa_cons (we_str s_4 (by rfl)) (wa_cons (we_str s_5 (by rfl)) (wa_cons (we_str s_6 (by rfl)) (wa_cons (we_str s_7 (by rfl)) (wa_cons (we_str s_8 (by rfl)) (wa_cons (we_str s_9 (by rfl)) (wa_cons (we_str s_10 (by rfl)) (wa_cons (we_str s_11 (by rfl)) (wa_cons (we_str s_12 (by rfl)) wa_nil))))))))))))))) (wss_one (ws_ret (we_sl (wg_call G_law_mixed (hr.mono (by decide)) (wa_cons (we_var 0) (wa_cons (we_var 2) wa_nil))) wo_none (wo_some (we_var 1))))))
/-! ### _law_pick -/
abbrev st_law_pick : Stmt := (top 29)
def m_law_pick : MF := fnOf 2 2 (sRet (eBin opIdx (eVar 1) (eCall m_law_draw (aCons (eVar 0) (aCons (eCall fLen (aCons (eVar 1) aNil)) aNil)))))
theorem sc_law_pick : FnScope ["_law_deal_here", "_law_some"] ["_law_deal_here", "_law_some"] (defScope st_law_pick) := ⟨rfl, rfl, rfl, by decide +kernel, rfl, by decide +kernel, by decide +kernel⟩
theorem ok_law_pick (Z : Zf K mg) (G_law_draw : FnG P w K mg base nm 1 "_law_draw" m_law_draw) {f : Addr} {fd : FuncData} (F : Fun K "_law_pick" "_law_pick" st_law_pick f fd) : FnOk P w K mg base CX0 2 f fd ["_law_deal_here", "_law_some"] (spM ⟨K, mg, nm⟩ m_law_pick) := by
  have law_pick_nd := (sc_law_pick).nd
  refine fn_ok F sc_law_pick rfl rfl fun cdv A outer s H E hr => ?_
  have hu := room64 hr
  have hv := room65 hr
  exact (wss_one (ws_ret (we_idx (we_var 1) (wg_call G_law_draw (hr.mono (by decide)) (wa_cons (we_var 0) (wa_cons (we_callB cw_len Z.b_len (by decide +kernel) (wa_cons (we_var 1) wa_nil)) wa_nil))))))
/-! ### _law_kinds -/
abbrev st_law_kinds : Stmt := (top 32)
def m_law_kinds : MF := fnOf 0 0 (sRet (eLst (aCons (eC (.str s_6_)) (aCons (eC (.str s_11_)) (aCons (eC (.str s_19_)) (aCons (eC (.str s_20_)) (aCons (eC (.str s_10_)) (aCons (eC (.str s_21_)) (aCons (eC (.str s_22_)) (aCons (eC (.str s_12_)) aNil))))))))))
theorem sc_law_kinds : FnScope [] [] (defScope st_law_kinds) := ⟨rfl, rfl, rfl, by decide +kernel, rfl, by decide +kernel, by decide +kernel⟩
theorem ok_law_kinds (Z : Zf K mg) {f : Addr} {fd : FuncData} (F : Fun K "_law_kinds" "_law_kinds" st_law_kinds f fd) : FnOk P w K mg base CX0 1 f fd [] (spM ⟨K, mg, nm⟩ m_law_kinds) := by
  have law_kinds_nd := (sc_law_kinds).nd
  refine fn_ok F sc_law_kinds rfl rfl fun cdv A outer s H E hr => ?_
  have hu := room64 hr
  have hv := room65 hr
  exact (wss_one (ws_ret (we_lst (wa_cons (we_str s_6 (by rfl)) (wa_cons (we_str s_11 (by rfl)) (wa_cons (we_str s_19 (by rfl)) (wa_cons (we_str s_20 (by rfl)) (wa_cons (we_str s_10 (by rfl)) (wa_cons (we_str s_21 (by rfl)) (wa_cons (we_str s_22 (by rfl)) (wa_cons (we_str s_12 (by rfl)) wa_nil)))))))))))
/-! ### _law_any_row -/
abbrev st_law_any_row : Stmt := (top 33)
def m_law_any_row : MF := fnOf 2 7 (sSeq (sAsg (.tp [.nm 2, .nm 3]) (eTup (aCons (eCall m_law_draw (aCons (eVar 0) (aCons (eC (.int 4)) aNil))) (aCons (eBin opSub (eCall m_law_draw (aCons (eVar 0) (aCons (eC (.int 7)) aNil))) (eC (.int 3))) aNil)))) (sSeq (sAsg (.nm 4) (eBin opAdd (eVar 1) (eLst (aCons (eC (.str s_13_)) aNil)))) (sSeq (sIf (Mir.tB (eBin opEq (eVar 2) (eC (.int 0)))) (sRet (eTup (aCons (eC (.str s_8_)) (aCons (eCall m_law_pick (aCons (eVar 0) (aCons (eVar 4) aNil))) (aCons (eCall m_law_pick (aCons (eVar 0) (aCons (eVar 4) aNil))) (aCons (eCall m_law_pick (aCons (eVar 0) (aCons (eBin opAdd (eVar 1) (eLst (aCons (eC (.str s_14_)) (aCons (eC (.str s_15_)) aNil)))) aNil))) (aCons (eVar 3) aNil))))))) sNext) (sSeq (sIf (Mir.tB (eBin opEq (eVar 2) (eC (.int 1)))) (sSeq (sAsg (.tp [.nm 5, .nm 6]) (eTup (aCons (eCall m_law_pick (aCons (eVar 0) (aCons (eBin opAdd (eVar 1) (eLst (aCons (eC (.str s_16_)) aNil))) aNil))) (aCons (eCall m_law_pick (aCons (eVar 0) (aCons (eBin opAdd (eVar 1) (eLst (aCons (eC (.str s_16_)) aNil))) aNil))) aNil)))) (sRet (eTup (aCons (eC (.str s_17_)) (aCons (eCall m_law_pick (aCons (eVar 0) (aCons (eVar 4) aNil))) (aCons (eVar 5) (aCons (eVar 6) (aCons (eVar 3) (aCons (eBin opSub (eCall m_law_draw (aCons (eVar 0) (aCons (eC (.int 7)) aNil))) (eC (.int 3))) aNil))))))))) sNext) (sRet (eTup (aCons (eC (.str s_18_)) (aCons (eCall m_law_pick (aCons (eVar 0) (aCons (eCall m_law_kinds aNil) aNil))) (aCons (eCall m_law_pick (aCons (eVar 0) (aCons (eVar 4) aNil))) (aCons (eCall m_law_pick (aCons (eVar 0) (aCons (eBin opAdd (eVar 1) (eLst (aCons (eC (.str s_16_)) aNil))) aNil))) (aCons (eVar 3) aNil)))))))))))
theorem sc_law_any_row : FnScope ["_law_deal_here", "_law_marks", "_law_form", "_law_add", "_law_some", "_law_left", "_law_right"] ["_law_deal_here", "_law_marks"] (defScope st_law_any_row) := ⟨rfl, rfl, rfl, by decide +kernel, rfl, by decide +kernel, by decide +kernel⟩
theorem ok_law_any_row (Z : Zf K mg) (G_law_draw : FnG P w K mg base nm 1 "_law_draw" m_law_draw) (G_law_pick : FnG P w K mg base nm 2 "_law_pick" m_law_pick) (G_law_kinds : FnG P w K mg base nm 1 "_law_kinds" m_law_kinds) {f : Addr} {fd : FuncData} (F : Fun K "_law_any_row" "_law_any_row" st_law_any_row f fd) : FnOk P w K mg base CX0 3 f fd ["_law_deal_here", "_law_marks"] (spM ⟨K, mg, nm⟩ m_law_any_row) := by
  have law_any_row_nd := (sc_law_any_row).nd
  refine fn_ok F sc_law_any_row rfl rfl fun cdv A outer s H E hr => ?_
  have hu := room64 hr
  have hv := room65 hr
  exact (wss_cons (ws_par (i := 2) (j := 3) rfl law_any_row_nd (wa_cons (wg_call G_law_draw (hr.mono (by decide)) (wa_cons (we_var 0) (wa_cons we_int wa_nil))) (wa_cons (we_op opw_sub (wg_call G_law_draw (hr.mono (by decide)) (wa_cons (we_var 0) (wa_cons we_int wa_nil))) we_int) wa_nil))) (wss_cons (ws_set (i := 4) law_any_row_nd (we_op opw_add (we_var 1) (we_lst (wa_cons (we_str s_13 (by rfl)) wa_nil)))) (wss_cons (ws_if (wt_cmp (opw_eq hu) (we_var 2) we_int) (wss_one (ws_ret (we_tup (wa_cons (we_str s_8 (by rfl)) (wa_cons (wg_call G_law_pick (hr.mono (by decide)) (wa_cons (we_var 0) (wa_cons (we_var 4) wa_nil))) (wa_cons (wg_call G_law_pick (hr.mono (by decide)) (wa_cons (we_var 0) (wa_cons (we_var 4) wa_nil))) (wa_cons (wg_call G_law_pick (hr.mono (by decide)) (wa_cons (we_var 0) (wa_cons (we_op opw_add (we_var 1) (we_lst (wa_cons (we_str s_14 (by rfl)) (wa_cons (we_str s_15 (by rfl)) wa_nil)))) wa_nil))) (wa_cons (we_var 3) wa_nil)))))))) wss_nil) (wss_cons (ws_if (wt_cmp (opw_eq hu) (we_var 2) we_int) (wss_cons (ws_par (i := 5) (j := 6) rfl law_any_row_nd (wa_cons (wg_call G_law_pick (hr.mono (by decide)) (wa_cons (we_var 0) (wa_cons (we_op opw_add (we_var 1) (we_lst (wa_cons (we_str s_16 (by rfl)) wa_nil))) wa_nil))) (wa_cons (wg_call G_law_pick (hr.mono (by decide)) (wa_cons (we_var 0) (wa_cons (we_op opw_add (we_var 1) (we_lst (wa_cons (we_str s_16 (by rfl)) wa_nil))) wa_nil))) wa_nil))) (wss_one (ws_ret (we_tup (wa_cons (we_str s_17 (by rfl)) (wa_cons (wg_call G_law_pick (hr.mono (by decide)) (wa_cons (we_var 0) (wa_cons (we_var 4) wa_nil))) (wa_cons (we_var 5) (wa_cons (we_var 6) (wa_cons (we_var 3) (wa_cons (we_op opw_sub (wg_call G_law_draw (hr.mono (by decide)) (wa_cons (we_var 0) (wa_cons we_int wa_nil))) we_int) wa_nil)))))))))) wss_nil) (wss_one (ws_ret (we_tup (wa_cons (we_str s_18 (by rfl)) (wa_cons (wg_call G_law_pick (hr.mono (by decide)) (wa_cons (we_var 0) (wa_cons (wg_call0 G_law_kinds (hr.mono (by decide))) wa_nil))) (wa_cons (wg_call G_law_pick (hr.mono (by decide)) (wa_cons (we_var 0) (wa_cons (we_var 4) wa_nil))) (wa_cons (wg_call G_law_pick (hr.mono (by decide)) (wa_cons (we_var 0) (wa_cons (we_op opw_add (we_var 1) (we_lst (wa_cons (we_str s_16 (by rfl)) wa_nil))) wa_nil))) (wa_cons (we_var 3) wa_nil))))))))))))
/-! ### _law_bent -/
abbrev st_law_bent : Stmt := (top 34)
def m_law_bent : MF := fnOf 3 4 (sSeq (sAsg (.nm 3) (eBin opAdd (eC (.int 1)) (eCall m_law_draw (aCons (eVar 0) (aCons (eBin opSub (eCall fLen (aCons (eVar 1) aNil)) (eC (.int 1))) aNil))))) (sSeq (sIf (Mir.tB (eIsi sup [.int] (eBin opIdx (eVar 1) (eVar 3)))) (sRet (eBin opAdd (eBin opAdd (eSl sl (eVar 1) oNone (oSome (eVar 3))) (eTup (aCons (eBin opSub (eCall m_law_draw (aCons (eVar 0) (aCons (eC (.int 3)) aNil))) (eC (.int 1))) aNil))) (eSl sl (eVar 1) (oSome (eBin opAdd (eVar 3) (eC (.int 1)))) oNone))) sNext) (sSeq (sIf (Mir.tAnd (Mir.tB (eBin opEq (eBin opIdx (eVar 1) (eC (.int 0))) (eC (.str s_18_)))) (Mir.tB (eBin opEq (eVar 3) (eC (.int 1))))) (sRet (eBin opAdd (eBin opAdd (eSl sl (eVar 1) oNone (oSome (eC (.int 1)))) (eTup (aCons (eCall m_law_pick (aCons (eVar 0) (aCons (eCall m_law_kinds aNil) aNil))) aNil))) (eSl sl (eVar 1) (oSome (eC (.int 2))) oNone))) sNext) (sRet (eBin opAdd (eBin opAdd (eSl sl (eVar 1) oNone (oSome (eVar 3))) (eTup (aCons (eCall m_law_pick (aCons (eVar 0) (aCons (eVar 2) aNil))) aNil))) (eSl sl (eVar 1) (oSome (eBin opAdd (eVar 3) (eC (.int 1)))) oNone))))))
theorem sc_law_bent : FnScope ["_law_deal_here", "_law_row", "_law_marks", "_law_at"] ["_law_deal_here", "_law_row", "_law_marks"] (defScope st_law_bent) := ⟨rfl, rfl, rfl, by decide +kernel, rfl, by decide +kernel, by decide +kernel⟩
theorem ok_law_bent (Z : Zf K mg) (G_law_draw : FnG P w K mg base nm 1 "_law_draw" m_law_draw) (G_law_kinds : FnG P w K mg base nm 1 "_law_kinds" m_law_kinds) (G_law_pick : FnG P w K mg base nm 2 "_law_pick" m_law_pick) {f : Addr} {fd : FuncData} (F : Fun K "_law_bent" "_law_bent" st_law_bent f fd) : FnOk P w K mg base CX0 3 f fd ["_law_deal_here", "_law_row", "_law_marks"] (spM ⟨K, mg, nm⟩ m_law_bent) := by
  have law_bent_nd := (sc_law_bent).nd
  refine fn_ok F sc_law_bent rfl rfl fun cdv A outer s H E hr => ?_
  have hu := room64 hr
  have hv := room65 hr
  exact (wss_cons (ws_set (i := 3) law_bent_nd (we_op opw_add we_int (wg_call G_law_draw (hr.mono (by decide)) (wa_cons (we_var 0) (wa_cons (we_op opw_sub (we_callB cw_len Z.b_len (by decide +kernel) (wa_cons (we_var 1) wa_nil)) we_int) wa_nil))))) (wss_cons (ws_if (wt_val (we_isi Z.sf Z.b_isinstance (we_idx (we_var 1) (we_var 3)) (cls_bi Z.b_int (by decide +kernel) rfl))) (wss_one (ws_ret (we_op opw_add (we_op opw_add (we_sl (we_var 1) wo_none (wo_some (we_var 3))) (we_tup (wa_cons (we_op opw_sub (wg_call G_law_draw (hr.mono (by decide)) (wa_cons (we_var 0) (wa_cons we_int wa_nil))) we_int) wa_nil))) (we_sl (we_var 1) (wo_some (we_op opw_add (we_var 3) we_int)) wo_none)))) wss_nil) (wss_cons (ws_if (PW.pt (ww_and (wt_cmp (opw_eq hu) (we_idx (we_var 1) we_int) (we_str s_18 (by rfl))) (ww_and1 (wt_cmp (opw_eq hu) (we_var 3) we_int)))) (wss_one (ws_ret (we_op opw_add (we_op opw_add (we_sl (we_var 1) wo_none (wo_some we_int)) (we_tup (wa_cons (wg_call G_law_pick (hr.mono (by decide)) (wa_cons (we_var 0) (wa_cons (wg_call0 G_law_kinds (hr.mono (by decide))) wa_nil))) wa_nil))) (we_sl (we_var 1) (wo_some we_int) wo_none)))) wss_nil) (wss_one (ws_ret (we_op opw_add (we_op opw_add (we_sl (we_var 1) wo_none (wo_some (we_var 3))) (we_tup (wa_cons (wg_call G_law_pick (hr.mono (by decide)) (wa_cons (we_var 0) (wa_cons (we_var 2) wa_nil))) wa_nil))) (we_sl (we_var 1) (wo_some (we_op opw_add (we_var 3) we_int)) wo_none)))))))
/-! ### is_word_of -/
abbrev st_is_word_of : Stmt := (top 12)
def m_is_word_of : MF := fnOf 2 2 (sRet (eAnd (eIsi sup [.str] (eVar 0)) (eBin opIn (eVar 0) (eVar 1))))
theorem sc_is_word_of : FnScope ["value", "words"] ["value", "words"] (defScope st_is_word_of) := ⟨rfl, rfl, rfl, by decide +kernel, rfl, by decide +kernel, by decide +kernel⟩
theorem ok_is_word_of (Z : Zf K mg) {f : Addr} {fd : FuncData} (F : Fun K "is_word_of" "is_word_of" st_is_word_of f fd) : FnOk P w K mg base CX0 1 f fd ["value", "words"] (spM ⟨K, mg, nm⟩ m_is_word_of) := by
  have is_word_of_nd := (sc_is_word_of).nd
  refine fn_ok F sc_is_word_of rfl rfl fun cdv A outer s H E hr => ?_
  have hu := room64 hr
  have hv := room65 hr
  exact (wss_one (ws_ret (we_and (we_isi Z.sf Z.b_isinstance (we_var 0) (cls_bi Z.b_str (by decide +kernel) rfl)) (we_one (we_cmp (opw_in hv) (we_var 0) (we_var 1))))))
/-! ### need -/
abbrev st_need : Stmt := (top 19)
def m_need : MF := fnOf 2 2 (sIf (Mir.tNot (Mir.tB (eVar 0))) sBad sNext)
theorem sc_need : FnScope ["is_right", "word"] ["is_right", "word"] (defScope st_need) := ⟨rfl, rfl, rfl, by decide +kernel, rfl, by decide +kernel, by decide +kernel⟩
theorem ok_need (Z : Zf K mg) {f : Addr} {fd : FuncData} (F : Fun K "need" "need" st_need f fd) : FnOk P w K mg base CX0 1 f fd ["is_right", "word"] (spM ⟨K, mg, nm⟩ m_need) := by
  have need_nd := (sc_need).nd
  refine fn_ok F sc_need rfl rfl fun cdv A outer s H E hr => ?_
  have hu := room64 hr
  have hv := room65 hr
  exact (wss_one (ws_if (wt_not (wt_val (we_var 0))) (wss_one ws_bad) wss_nil))
/-! ### is_name -/
abbrev st_is_name : Stmt := (top 13)
def m_is_name : MF := fnOf 1 2 (sSeq (sIf (Mir.tOr (Mir.tNot (Mir.tB (eIsi sup [.str] (eVar 0)))) (Mir.tOr (Mir.tNot (Mir.tB (eChain opLe opLe (eC (.int 1)) (eCall fLen (aCons (eVar 0) aNil)) (eC g_MOST_LETTERS)))) (Mir.tB (eBin opIn (eVar 0) (eC g_BARRED))))) (sRet (eC (.bl false))) sNext) (sRet (eCall fAll (aCons (eLc [1] (iSeq (eVar 0)) (.nm 1) Mir.tYes (eBin opIn (eVar 1) (eC g_LETTERS))) aNil))))
theorem sc_is_name : FnScope ["value", "letter"] ["value"] (defScope st_is_name) := ⟨rfl, rfl, rfl, by decide +kernel, rfl, by decide +kernel, by decide +kernel⟩
theorem ok_is_name (Z : Zf K mg) {f : Addr} {fd : FuncData} (F : Fun K "is_name" "is_name" st_is_name f fd) : FnOk P w K mg base CX0 1 f fd ["value"] (spM ⟨K, mg, nm⟩ m_is_name) := by
  have is_name_nd := (sc_is_name).nd
  refine fn_ok F sc_is_name rfl rfl fun cdv A outer s H E hr => ?_
  have hu := room64 hr
  have hv := room65 hr
  exact (wss_cons (ws_if (PW.pt (ww_or (wt_not (wt_val (we_isi Z.sf Z.b_isinstance (we_var 0) (cls_bi Z.b_str (by decide +kernel) rfl)))) (ww_or (wt_not (wt_chain opw_le opw_le we_int (we_callB cw_len Z.b_len (by decide +kernel) (wa_cons (we_var 0) wa_nil)) (we_glob Z.g_MOST_LETTERS))) (ww_or1 (wt_cmp (opw_in hv) (we_var 0) (we_glob Z.g_BARRED)))))) (wss_one (ws_ret we_bl)) wss_nil) (wss_one (ws_ret (we_callB (cw_all rfl) Z.b_all (by decide +kernel) (wa_cons (we_lc rfl is_name_nd (own := [("letter", 1)]) (vs := [1]) rfl (by decide) (blkOk_by (N := ["value", "letter"]) (sc := defScope st_is_name) (by decide +kernel)) (wi_seq (we_var 0)) (fun _ _ _ _ _ => (wg_name is_name_nd)) (fun _ _ _ _ _ => wts_nil) (fun _ _ _ _ _ => (we_cmp (opw_in hv) (we_var 1) (we_glob Z.g_LETTERS)))) wa_nil)))))
/-! ### is_old -/
abbrev st_is_old : Stmt := (top 17)
def m_is_old : MF := fnOf 1 1 (sRet (eOr (eCall m_is_name (aCons (eVar 0) aNil)) (eCall m_is_word_of (aCons (eVar 0) (aCons (eTup (aCons (eC (.str s_13_)) aNil)) aNil)))))
theorem sc_is_old : FnScope ["value"] ["value"] (defScope st_is_old) := ⟨rfl, rfl, rfl, by decide +kernel, rfl, by decide +kernel, by decide +kernel⟩
theorem ok_is_old (Z : Zf K mg) (G_is_name : FnG P w K mg base nm 1 "is_name" m_is_name) (G_is_word_of : FnG P w K mg base nm 1 "is_word_of" m_is_word_of) {f : Addr} {fd : FuncData} (F : Fun K "is_old" "is_old" st_is_old f fd) : FnOk P w K mg base CX0 2 f fd ["value"] (spM ⟨K, mg, nm⟩ m_is_old) := by
  have is_old_nd := (sc_is_old).nd
  refine fn_ok F sc_is_old rfl rfl fun cdv A outer s H E hr => ?_
  have hu := room64 hr
  have hv := room65 hr
  exact (wss_one (ws_ret (we_or (wg_call G_is_name (hr.mono (by decide)) (wa_cons (we_var 0) wa_nil)) (we_one (wg_call G_is_word_of (hr.mono (by decide)) (wa_cons (we_var 0) (wa_cons (we_tup (wa_cons (we_str s_13 (by rfl)) wa_nil)) wa_nil)))))))
/-! ### is_new -/
abbrev st_is_new : Stmt := (top 18)
def m_is_new : MF := fnOf 2 2 (sRet (eOr (eCall m_is_name (aCons (eVar 0) aNil)) (eCall m_is_word_of (aCons (eVar 0) (aCons (eVar 1) aNil)))))
theorem sc_is_new : FnScope ["value", "words"] ["value", "words"] (defScope st_is_new) := ⟨rfl, rfl, rfl, by decide +kernel, rfl, by decide +kernel, by decide +kernel⟩
theorem ok_is_new (Z : Zf K mg) (G_is_name : FnG P w K mg base nm 1 "is_name" m_is_name) (G_is_word_of : FnG P w K mg base nm 1 "is_word_of" m_is_word_of) {f : Addr} {fd : FuncData} (F : Fun K "is_new" "is_new" st_is_new f fd) : FnOk P w K mg base CX0 2 f fd ["value", "words"] (spM ⟨K, mg, nm⟩ m_is_new) := by
  have is_new_nd := (sc_is_new).nd
  refine fn_ok F sc_is_new rfl rfl fun cdv A outer s H E hr => ?_
  have hu := room64 hr
  have hv := room65 hr
  exact (wss_one (ws_ret (we_or (wg_call G_is_name (hr.mono (by decide)) (wa_cons (we_var 0) wa_nil)) (we_one (wg_call G_is_word_of (hr.mono (by decide)) (wa_cons (we_var 0) (wa_cons (we_var 1) wa_nil)))))))
/-! ### is_integer -/
abbrev st_is_integer : Stmt := (top 11)
def m_is_integer : MF := fnOf 1 1 (sRet (eAnd (eIsi sup [.int] (eVar 0)) (eNot (eIsi sup [.bool] (eVar 0)))))
theorem sc_is_integer : FnScope ["value"] ["value"] (defScope st_is_integer) := ⟨rfl, rfl, rfl, by decide +kernel, rfl, by decide +kernel, by decide +kernel⟩
theorem ok_is_integer (Z : Zf K mg) {f : Addr} {fd : FuncData} (F : Fun K "is_integer" "is_integer" st_is_integer f fd) : FnOk P w K mg base CX0 1 f fd ["value"] (spM ⟨K, mg, nm⟩ m_is_integer) := by
  have is_integer_nd := (sc_is_integer).nd
  refine fn_ok F sc_is_integer rfl rfl fun cdv A outer s H E hr => ?_
  have hu := room64 hr
  have hv := room65 hr
  exact (wss_one (ws_ret (we_and (we_isi Z.sf Z.b_isinstance (we_var 0) (cls_bi Z.b_int (by decide +kernel) rfl)) (we_one (we_not (we_isi Z.sf Z.b_isinstance (we_var 0) (cls_bi Z.b_bool (by decide +kernel) rfl)))))))
/-! ### is_add -/
abbrev st_is_add : Stmt := (top 14)
def m_is_add : MF := fnOf 1 1 (sRet (eAnd (eCall m_is_integer (aCons (eVar 0) aNil)) (eChain opLe opLe (eUn opNeg (eC g_MOST_ADD)) (eVar 0) (eC g_MOST_ADD))))
theorem sc_is_add : FnScope ["value"] ["value"] (defScope st_is_add) := ⟨rfl, rfl, rfl, by decide +kernel, rfl, by decide +kernel, by decide +kernel⟩
theorem ok_is_add (Z : Zf K mg) (G_is_integer : FnG P w K mg base nm 1 "is_integer" m_is_integer) {f : Addr} {fd : FuncData} (F : Fun K "is_add" "is_add" st_is_add f fd) : FnOk P w K mg base CX0 2 f fd ["value"] (spM ⟨K, mg, nm⟩ m_is_add) := by
  have is_add_nd := (sc_is_add).nd
  refine fn_ok F sc_is_add rfl rfl fun cdv A outer s H E hr => ?_
  have hu := room64 hr
  have hv := room65 hr
  exact (wss_one (ws_ret (we_and (wg_call G_is_integer (hr.mono (by decide)) (wa_cons (we_var 0) wa_nil)) (we_one (we_chain opw_le opw_le (we_un opw_neg (we_glob Z.g_MOST_ADD)) (we_var 0) (we_glob Z.g_MOST_ADD))))))
/-! ### Row.__init__ -/
abbrev st_Row_init : Stmt := (inClass (top 20) 0)
def m_Row_init : MF := fnOf 3 4 (sSeq (Mir.sFld 2 (eVar 0) (eVar 1)) (Mir.sFld 3 (eVar 0) (eCall fTuple (aCons (eLc [3] (iSeq (eVar 2)) (.nm 3) (Mir.tB (eCall m_is_name (aCons (eVar 3) aNil))) (eVar 3)) aNil))))
theorem sc_Row_init : FnScope ["self", "text", "names", "name"] ["self", "text", "names"] (defScope st_Row_init) := ⟨rfl, rfl, rfl, by decide +kernel, rfl, by decide +kernel, by decide +kernel⟩
theorem ok_Row_init (Z : Zf K mg) (G_is_name : FnG P w K mg base nm 1 "is_name" m_is_name) {f : Addr} {fd : FuncData} (F : Fun K "__init__" "Row.__init__" st_Row_init f fd) : FnOk P w K mg base CX0 2 f fd ["self", "text", "names"] (spM ⟨K, mg, nm⟩ m_Row_init) := by
  have Row_init_nd := (sc_Row_init).nd
  refine fn_ok F sc_Row_init rfl rfl fun cdv A outer s H E hr => ?_
  have hu := room64 hr
  have hv := room65 hr
  exact (wss_cons (ws_fld Z.sf (k := 2) rfl (we_var 0) (we_var 1)) (wss_one (ws_fld Z.sf (k := 3) rfl (we_var 0) (we_callTy cw_tuple Z.b_tuple (by decide +kernel) (wa_cons (we_lc rfl Row_init_nd (own := [("name", 3)]) (vs := [3]) rfl (by decide) (blkOk_by (N := ["self", "text", "names", "name"]) (sc := defScope st_Row_init) (by decide +kernel)) (wi_seq (we_var 2)) (fun _ _ _ _ _ => (wg_name Row_init_nd)) (fun _ _ _ _ _ => (wts_one (wt_val (wg_call G_is_name (hr.mono (by decide)) (wa_cons (we_var 3) wa_nil))))) (fun _ _ _ _ _ => (we_var 3))) wa_nil)))))
/-! ### Step.__init__ -/
abbrev st_Step_init : Stmt := (inClass (top 21) 0)
def m_Step_init : MF := fnOf 5 6 (sSeq (sExpr (eCall m_need (aCons (eCall m_is_word_of (aCons (eVar 1) (aCons (eC g_KINDS) aNil))) (aCons (eC (.str s_29_)) aNil)))) (sSeq (sExpr (eCall m_need (aCons (eCall m_is_old (aCons (eVar 2) aNil)) (aCons (eC (.str s_30_)) aNil)))) (sSeq (sExpr (eCall m_need (aCons (eCall m_is_new (aCons (eVar 3) (aCons (eTup (aCons (eC (.str s_16_)) aNil)) aNil))) (aCons (eC (.str s_31_)) aNil)))) (sSeq (sExpr (eCall m_need (aCons (eCall m_is_add (aCons (eVar 4) aNil)) (aCons (eC (.str s_32_)) aNil)))) (sSeq (Mir.sFld 4 (eVar 0) (eVar 1)) (sSeq (Mir.sFld 5 (eVar 0) (eVar 2)) (sSeq (Mir.sFld 6 (eVar 0) (eVar 3)) (sSeq (Mir.sFld 7 (eVar 0) (eVar 4)) (sExpr (eSup 1 m_Row_init (aCons (eJoined [(eFmt (eVar 1)), (eC (.str s_23_)), (eFmt (eVar 2)), (eC (.str s_24_)), (eFmt (eVar 3)), (eC (.str s_25_)), (eFmt (eVar 4))] []) (aCons (eLst (aCons (eVar 2) (aCons (eVar 3) aNil))) aNil))))))))))))
theorem sc_Step_init : NdefX.NScope ["self", "kind", "old", "then", "add", "__class__"] ["self", "kind", "old", "then", "add"] ["__class__"] (defScope st_Step_init) := NdefX.nscope_by (by decide +kernel)
theorem ok_Step_init (Z : Zf K mg) (G_is_word_of : FnG P w K mg base nm 1 "is_word_of" m_is_word_of) (G_need : FnG P w K mg base nm 1 "need" m_need) (G_is_old : FnG P w K mg base nm 2 "is_old" m_is_old) (G_is_new : FnG P w K mg base nm 2 "is_new" m_is_new) (G_is_add : FnG P w K mg base nm 2 "is_add" m_is_add) (G_su_Step_Row___init__ : SupG P w K mg base nm 2 1 1 "__init__" m_Row_init) {f D : Addr} {fd : FuncData} (hD : (⟨K, mg, nm⟩ : Tab).cls 1 = some D) (F : FunS P K "__init__" "Step.__init__" "self" st_Step_init f fd D) : FnOk P w K mg base CX0 3 f fd ["self", "kind", "old", "then", "add"] (spM ⟨K, mg, nm⟩ m_Step_init) := by
  have Step_init_nd := (sc_Step_init).nd
  refine fn_sup F sc_Step_init rfl rfl fun ca cb A outer s H E hr SE => ?_
  have hu := room64 hr
  have hv := room65 hr
  exact (wsa_cons (ws_expr (wg_call G_need (hr.mono (by decide)) (wa_cons (wg_call G_is_word_of (hr.mono (by decide)) (wa_cons (we_var 1) (wa_cons (we_glob Z.g_KINDS) wa_nil))) (wa_cons (we_str s_29 (by rfl)) wa_nil)))) (wsa_cons (ws_expr (wg_call G_need (hr.mono (by decide)) (wa_cons (wg_call G_is_old (hr.mono (by decide)) (wa_cons (we_var 2) wa_nil)) (wa_cons (we_str s_30 (by rfl)) wa_nil)))) (wsa_cons (ws_expr (wg_call G_need (hr.mono (by decide)) (wa_cons (wg_call G_is_new (hr.mono (by decide)) (wa_cons (we_var 3) (wa_cons (we_tup (wa_cons (we_str s_16 (by rfl)) wa_nil)) wa_nil))) (wa_cons (we_str s_31 (by rfl)) wa_nil)))) (wsa_cons (ws_expr (wg_call G_need (hr.mono (by decide)) (wa_cons (wg_call G_is_add (hr.mono (by decide)) (wa_cons (we_var 4) wa_nil)) (wa_cons (we_str s_32 (by rfl)) wa_nil)))) (wsa_cons (ws_fld Z.sf (k := 4) rfl (we_var 0) (we_var 1)) (wsa_cons (ws_fld Z.sf (k := 5) rfl (we_var 0) (we_var 2)) (wsa_cons (ws_fld Z.sf (k := 6) rfl (we_var 0) (we_var 3)) (wsa_cons (ws_fld Z.sf (k := 7) rfl (we_var 0) (we_var 4)) (ws_sup G_su_Step_Row___init__ hD SE (hr.mono (by decide)) (wa_cons (we_joined (.cons (we_fmt (we_var 1)) (.cons (we_str s_23 (by rfl)) (.cons (we_fmt (we_var 2)) (.cons (we_str s_24 (by rfl)) (.cons (we_fmt (we_var 3)) (.cons (we_str s_25 (by rfl)) (.cons (we_fmt (we_var 4)) .nil)))))))) (wa_cons (we_lst (wa_cons (we_var 2) (wa_cons (we_var 3) wa_nil))) wa_nil)))))))))))
/-! ### Join.__init__ -/
abbrev st_Join_init : Stmt := (inClass (top 22) 0)
def m_Join_init : MF := fnOf 5 6 (sSeq (sExpr (eCall m_need (aCons (eCall m_is_old (aCons (eVar 1) aNil)) (aCons (eC (.str s_33_)) aNil)))) (sSeq (sExpr (eCall m_need (aCons (eCall m_is_old (aCons (eVar 2) aNil)) (aCons (eC (.str s_34_)) aNil)))) (sSeq (sExpr (eCall m_need (aCons (eCall m_is_new (aCons (eVar 3) (aCons (eTup (aCons (eC (.str s_14_)) (aCons (eC (.str s_15_)) aNil))) aNil))) (aCons (eC (.str s_31_)) aNil)))) (sSeq (sExpr (eCall m_need (aCons (eCall m_is_add (aCons (eVar 4) aNil)) (aCons (eC (.str s_32_)) aNil)))) (sSeq (Mir.sFld 8 (eVar 0) (eVar 1)) (sSeq (Mir.sFld 9 (eVar 0) (eVar 2)) (sSeq (Mir.sFld 6 (eVar 0) (eVar 3)) (sSeq (Mir.sFld 7 (eVar 0) (eVar 4)) (sExpr (eSup 2 m_Row_init (aCons (eJoined [(eC (.str s_26_)), (eFmt (eVar 1)), (eC (.str s_23_)), (eFmt (eVar 2)), (eC (.str s_24_)), (eFmt (eVar 3)), (eC (.str s_25_)), (eFmt (eVar 4))] []) (aCons (eLst (aCons (eVar 1) (aCons (eVar 2) (aCons (eVar 3) aNil)))) aNil))))))))))))
theorem sc_Join_init : NdefX.NScope ["self", "here", "there", "then", "add", "__class__"] ["self", "here", "there", "then", "add"] ["__class__"] (defScope st_Join_init) := NdefX.nscope_by (by decide +kernel)
theorem ok_Join_init (Z : Zf K mg) (G_is_old : FnG P w K mg base nm 2 "is_old" m_is_old) (G_need : FnG P w K mg base nm 1 "need" m_need) (G_is_new : FnG P w K mg base nm 2 "is_new" m_is_new) (G_is_add : FnG P w K mg base nm 2 "is_add" m_is_add) (G_su_Join_Row___init__ : SupG P w K mg base nm 2 2 2 "__init__" m_Row_init) {f D : Addr} {fd : FuncData} (hD : (⟨K, mg, nm⟩ : Tab).cls 2 = some D) (F : FunS P K "__init__" "Join.__init__" "self" st_Join_init f fd D) : FnOk P w K mg base CX0 3 f fd ["self", "here", "there", "then", "add"] (spM ⟨K, mg, nm⟩ m_Join_init) := by
  have Join_init_nd := (sc_Join_init).nd
  refine fn_sup F sc_Join_init rfl rfl fun ca cb A outer s H E hr SE => ?_
  have hu := room64 hr
  have hv := room65 hr
  exact (wsa_cons (ws_expr (wg_call G_need (hr.mono (by decide)) (wa_cons (wg_call G_is_old (hr.mono (by decide)) (wa_cons (we_var 1) wa_nil)) (wa_cons (we_str s_33 (by rfl)) wa_nil)))) (wsa_cons (ws_expr (wg_call G_need (hr.mono (by decide)) (wa_cons (wg_call G_is_old (hr.mono (by decide)) (wa_cons (we_var 2) wa_nil)) (wa_cons (we_str s_34 (by rfl)) wa_nil)))) (wsa_cons (ws_expr (wg_call G_need (hr.mono (by decide)) (wa_cons (wg_call G_is_new (hr.mono (by decide)) (wa_cons (we_var 3) (wa_cons (we_tup (wa_cons (we_str s_14 (by rfl)) (wa_cons (we_str s_15 (by rfl)) wa_nil))) wa_nil))) (wa_cons (we_str s_31 (by rfl)) wa_nil)))) (wsa_cons (ws_expr (wg_call G_need (hr.mono (by decide)) (wa_cons (wg_call G_is_add (hr.mono (by decide)) (wa_cons (we_var 4) wa_nil)) (wa_cons (we_str s_32 (by rfl)) wa_nil)))) (wsa_cons (ws_fld Z.sf (k := 8) rfl (we_var 0) (we_var 1)) (wsa_cons (ws_fld Z.sf (k := 9) rfl (we_var 0) (we_var 2)) (wsa_cons (ws_fld Z.sf (k := 6) rfl (we_var 0) (we_var 3)) (wsa_cons (ws_fld Z.sf (k := 7) rfl (we_var 0) (we_var 4)) (ws_sup G_su_Join_Row___init__ hD SE (hr.mono (by decide)) (wa_cons (we_joined (.cons (we_str s_26 (by rfl)) (.cons (we_fmt (we_var 1)) (.cons (we_str s_23 (by rfl)) (.cons (we_fmt (we_var 2)) (.cons (we_str s_24 (by rfl)) (.cons (we_fmt (we_var 3)) (.cons (we_str s_25 (by rfl)) (.cons (we_fmt (we_var 4)) .nil))))))))) (wa_cons (we_lst (wa_cons (we_var 1) (wa_cons (we_var 2) (wa_cons (we_var 3) wa_nil)))) wa_nil)))))))))))
/-! ### Part.__init__ -/
abbrev st_Part_init : Stmt := (inClass (top 23) 0)
def m_Part_init : MF := fnOf 6 7 (sSeq (sExpr (eCall m_need (aCons (eCall m_is_old (aCons (eVar 1) aNil)) (aCons (eC (.str s_30_)) aNil)))) (sSeq (sExpr (eCall m_need (aCons (eCall m_is_new (aCons (eVar 2) (aCons (eTup (aCons (eC (.str s_16_)) aNil)) aNil))) (aCons (eC (.str s_35_)) aNil)))) (sSeq (sExpr (eCall m_need (aCons (eCall m_is_new (aCons (eVar 3) (aCons (eTup (aCons (eC (.str s_16_)) aNil)) aNil))) (aCons (eC (.str s_36_)) aNil)))) (sSeq (sExpr (eCall m_need (aCons (eCall m_is_add (aCons (eVar 4) aNil)) (aCons (eC (.str s_32_)) aNil)))) (sSeq (sExpr (eCall m_need (aCons (eCall m_is_add (aCons (eVar 5) aNil)) (aCons (eC (.str s_37_)) aNil)))) (sSeq (Mir.sFld 5 (eVar 0) (eVar 1)) (sSeq (Mir.sFld 10 (eVar 0) (eVar 2)) (sSeq (Mir.sFld 11 (eVar 0) (eVar 3)) (sSeq (Mir.sFld 7 (eVar 0) (eVar 4)) (sSeq (Mir.sFld 12 (eVar 0) (eVar 5)) (sExpr (eSup 3 m_Row_init (aCons (eJoined [(eC (.str s_38_)), (eFmt (eVar 1)), (eC (.str s_24_)), (eFmt (eVar 2)), (eC (.str s_23_)), (eFmt (eVar 3)), (eC (.str s_25_)), (eFmt (eVar 4)), (eC (.str s_23_)), (eFmt (eVar 5))] []) (aCons (eLst (aCons (eVar 1) (aCons (eVar 2) (aCons (eVar 3) aNil)))) aNil))))))))))))))
theorem sc_Part_init : NdefX.NScope ["self", "old", "left", "right", "add", "more", "__class__"] ["self", "old", "left", "right", "add", "more"] ["__class__"] (defScope st_Part_init) := NdefX.nscope_by (by decide +kernel)
theorem ok_Part_init (Z : Zf K mg) (G_is_old : FnG P w K mg base nm 2 "is_old" m_is_old) (G_need : FnG P w K mg base nm 1 "need" m_need) (G_is_new : FnG P w K mg base nm 2 "is_new" m_is_new) (G_is_add : FnG P w K mg base nm 2 "is_add" m_is_add) (G_su_Part_Row___init__ : SupG P w K mg base nm 2 3 3 "__init__" m_Row_init) {f D : Addr} {fd : FuncData} (hD : (⟨K, mg, nm⟩ : Tab).cls 3 = some D) (F : FunS P K "__init__" "Part.__init__" "self" st_Part_init f fd D) : FnOk P w K mg base CX0 3 f fd ["self", "old", "left", "right", "add", "more"] (spM ⟨K, mg, nm⟩ m_Part_init) := by
  have Part_init_nd := (sc_Part_init).nd
  refine fn_sup F sc_Part_init rfl rfl fun ca cb A outer s H E hr SE => ?_
  have hu := room64 hr
  have hv := room65 hr
  exact (wsa_cons (ws_expr (wg_call G_need (hr.mono (by decide)) (wa_cons (wg_call G_is_old (hr.mono (by decide)) (wa_cons (we_var 1) wa_nil)) (wa_cons (we_str s_30 (by rfl)) wa_nil)))) (wsa_cons (ws_expr (wg_call G_need (hr.mono (by decide)) (wa_cons (wg_call G_is_new (hr.mono (by decide)) (wa_cons (we_var 2) (wa_cons (we_tup (wa_cons (we_str s_16 (by rfl)) wa_nil)) wa_nil))) (wa_cons (we_str s_35 (by rfl)) wa_nil)))) (wsa_cons (ws_expr (wg_call G_need (hr.mono (by decide)) (wa_cons (wg_call G_is_new (hr.mono (by decide)) (wa_cons (we_var 3) (wa_cons (we_tup (wa_cons (we_str s_16 (by rfl)) wa_nil)) wa_nil))) (wa_cons (we_str s_36 (by rfl)) wa_nil)))) (wsa_cons (ws_expr (wg_call G_need (hr.mono (by decide)) (wa_cons (wg_call G_is_add (hr.mono (by decide)) (wa_cons (we_var 4) wa_nil)) (wa_cons (we_str s_32 (by rfl)) wa_nil)))) (wsa_cons (ws_expr (wg_call G_need (hr.mono (by decide)) (wa_cons (wg_call G_is_add (hr.mono (by decide)) (wa_cons (we_var 5) wa_nil)) (wa_cons (we_str s_37 (by rfl)) wa_nil)))) (wsa_cons (ws_fld Z.sf (k := 5) rfl (we_var 0) (we_var 1)) (wsa_cons (ws_fld Z.sf (k := 10) rfl (we_var 0) (we_var 2)) (wsa_cons (ws_fld Z.sf (k := 11) rfl (we_var 0) (we_var 3)) (wsa_cons (ws_fld Z.sf (k := 7) rfl (we_var 0) (we_var 4)) (wsa_cons (ws_fld Z.sf (k := 12) rfl (we_var 0) (we_var 5)) (ws_sup G_su_Part_Row___init__ hD SE (hr.mono (by decide)) (wa_cons (we_joined (.cons (we_str s_38 (by rfl)) (.cons (we_fmt (we_var 1)) (.cons (we_str s_24 (by rfl)) (.cons (we_fmt (we_var 2)) (.cons (we_str s_23 (by rfl)) (.cons (we_fmt (we_var 3)) (.cons (we_str s_25 (by rfl)) (.cons (we_fmt (we_var 4)) (.cons (we_str s_23 (by rfl)) (.cons (we_fmt (we_var 5)) .nil))))))))))) (wa_cons (we_lst (wa_cons (we_var 1) (wa_cons (we_var 2) (wa_cons (we_var 3) wa_nil)))) wa_nil)))))))))))))
/-! ### _law_row_of -/
abbrev st_law_row_of : Stmt := (top 36)
def m_law_row_of : MF := fnOf 1 1 (sSeq (sIf (Mir.tB (eBin opEq (eBin opIdx (eVar 0) (eC (.int 0))) (eC (.str s_18_)))) (sRet (eCall (mkF 1 m_Step_init) (aCons (eBin opIdx (eVar 0) (eC (.int 1))) (aCons (eBin opIdx (eVar 0) (eC (.int 2))) (aCons (eBin opIdx (eVar 0) (eC (.int 3))) (aCons (eBin opIdx (eVar 0) (eC (.int 4))) aNil)))))) sNext) (sSeq (sIf (Mir.tB (eBin opEq (eBin opIdx (eVar 0) (eC (.int 0))) (eC (.str s_8_)))) (sRet (eCall (mkF 2 m_Join_init) (aCons (eBin opIdx (eVar 0) (eC (.int 1))) (aCons (eBin opIdx (eVar 0) (eC (.int 2))) (aCons (eBin opIdx (eVar 0) (eC (.int 3))) (aCons (eBin opIdx (eVar 0) (eC (.int 4))) aNil)))))) sNext) (sRet (eCall (mkF 3 m_Part_init) (aCons (eBin opIdx (eVar 0) (eC (.int 1))) (aCons (eBin opIdx (eVar 0) (eC (.int 2))) (aCons (eBin opIdx (eVar 0) (eC (.int 3))) (aCons (eBin opIdx (eVar 0) (eC (.int 4))) (aCons (eBin opIdx (eVar 0) (eC (.int 5))) aNil)))))))))
theorem sc_law_row_of : FnScope ["_law_row"] ["_law_row"] (defScope st_law_row_of) := ⟨rfl, rfl, rfl, by decide +kernel, rfl, by decide +kernel, by decide +kernel⟩
theorem ok_law_row_of (Z : Zf K mg) (G_mk_Step : MkG P w K mg base nm 3 "Step" 1 m_Step_init) (G_mk_Join : MkG P w K mg base nm 3 "Join" 2 m_Join_init) (G_mk_Part : MkG P w K mg base nm 3 "Part" 3 m_Part_init) {f : Addr} {fd : FuncData} (F : Fun K "_law_row_of" "_law_row_of" st_law_row_of f fd) : FnOk P w K mg base CX0 5 f fd ["_law_row"] (spM ⟨K, mg, nm⟩ m_law_row_of) := by
  have law_row_of_nd := (sc_law_row_of).nd
  refine fn_ok F sc_law_row_of rfl rfl fun cdv A outer s H E hr => ?_
  have hu := room64 hr
  have hv := room65 hr
  exact (wss_cons (ws_if (wt_cmp (opw_eq hu) (we_idx (we_var 0) we_int) (we_str s_18 (by rfl))) (wss_one (ws_ret (wg_makeF G_mk_Step (hr.mono (by decide)) (wa_cons (we_idx (we_var 0) we_int) (wa_cons (we_idx (we_var 0) we_int) (wa_cons (we_idx (we_var 0) we_int) (wa_cons (we_idx (we_var 0) we_int) wa_nil))))))) wss_nil) (wss_cons (ws_if (wt_cmp (opw_eq hu) (we_idx (we_var 0) we_int) (we_str s_8 (by rfl))) (wss_one (ws_ret (wg_makeF G_mk_Join (hr.mono (by decide)) (wa_cons (we_idx (we_var 0) we_int) (wa_cons (we_idx (we_var 0) we_int) (wa_cons (we_idx (we_var 0) we_int) (wa_cons (we_idx (we_var 0) we_int) wa_nil))))))) wss_nil) (wss_one (ws_ret (wg_makeF G_mk_Part (hr.mono (by decide)) (wa_cons (we_idx (we_var 0) we_int) (wa_cons (we_idx (we_var 0) we_int) (wa_cons (we_idx (we_var 0) we_int) (wa_cons (we_idx (we_var 0) we_int) (wa_cons (we_idx (we_var 0) we_int) wa_nil))))))))))
/-! ### _law_attributes -/
abbrev st_law_attributes : Stmt := (top 37)
def m_law_attributes : MF := fnOf 1 1 (sSeq (sIf (Mir.tB (eIsi sup [(.own 1)] (eVar 0))) (sRet (eTup (aCons (eC (.str s_18_)) (aCons (eUn (fld 4) (eVar 0)) (aCons (eUn (fld 5) (eVar 0)) (aCons (eUn (fld 6) (eVar 0)) (aCons (eUn (fld 7) (eVar 0)) aNil))))))) sNext) (sSeq (sIf (Mir.tB (eIsi sup [(.own 2)] (eVar 0))) (sRet (eTup (aCons (eC (.str s_8_)) (aCons (eUn (fld 8) (eVar 0)) (aCons (eUn (fld 9) (eVar 0)) (aCons (eUn (fld 6) (eVar 0)) (aCons (eUn (fld 7) (eVar 0)) aNil))))))) sNext) (sRet (eTup (aCons (eC (.str s_17_)) (aCons (eUn (fld 5) (eVar 0)) (aCons (eUn (fld 10) (eVar 0)) (aCons (eUn (fld 11) (eVar 0)) (aCons (eUn (fld 7) (eVar 0)) (aCons (eUn (fld 12) (eVar 0)) aNil))))))))))
theorem sc_law_attributes : FnScope ["_law_row"] ["_law_row"] (defScope st_law_attributes) := ⟨rfl, rfl, rfl, by decide +kernel, rfl, by decide +kernel, by decide +kernel⟩
theorem ok_law_attributes (Z : Zf K mg) {f : Addr} {fd : FuncData} (F : Fun K "_law_attributes" "_law_attributes" st_law_attributes f fd) : FnOk P w K mg base CX0 1 f fd ["_law_row"] (spM ⟨K, mg, nm⟩ m_law_attributes) := by
  have law_attributes_nd := (sc_law_attributes).nd
  refine fn_ok F sc_law_attributes rfl rfl fun cdv A outer s H E hr => ?_
  have hu := room64 hr
  have hv := room65 hr
  exact (wss_cons (ws_if (wt_val (we_isi Z.sf Z.b_isinstance (we_var 0) (cls_g Z.c_Step))) (wss_one (ws_ret (we_tup (wa_cons (we_str s_18 (by rfl)) (wa_cons (we_fld Z.sf (k := 4) rfl (we_var 0)) (wa_cons (we_fld Z.sf (k := 5) rfl (we_var 0)) (wa_cons (we_fld Z.sf (k := 6) rfl (we_var 0)) (wa_cons (we_fld Z.sf (k := 7) rfl (we_var 0)) wa_nil)))))))) wss_nil) (wss_cons (ws_if (wt_val (we_isi Z.sf Z.b_isinstance (we_var 0) (cls_g Z.c_Join))) (wss_one (ws_ret (we_tup (wa_cons (we_str s_8 (by rfl)) (wa_cons (we_fld Z.sf (k := 8) rfl (we_var 0)) (wa_cons (we_fld Z.sf (k := 9) rfl (we_var 0)) (wa_cons (we_fld Z.sf (k := 6) rfl (we_var 0)) (wa_cons (we_fld Z.sf (k := 7) rfl (we_var 0)) wa_nil)))))))) wss_nil) (wss_one (ws_ret (we_tup (wa_cons (we_str s_17 (by rfl)) (wa_cons (we_fld Z.sf (k := 5) rfl (we_var 0)) (wa_cons (we_fld Z.sf (k := 10) rfl (we_var 0)) (wa_cons (we_fld Z.sf (k := 11) rfl (we_var 0)) (wa_cons (we_fld Z.sf (k := 7) rfl (we_var 0)) (wa_cons (we_fld Z.sf (k := 12) rfl (we_var 0)) wa_nil)))))))))))
/-! ### Row.__eq__ -/
abbrev st_Row_eq : Stmt := (inClass (top 20) 3)
def m_Row_eq : MF := fnOf 2 2 (sRet (eAnd (eIsi sup [(.own 0)] (eVar 1)) (eBin opEq (eUn (fld 2) (eVar 0)) (eUn (fld 2) (eVar 1)))))
theorem sc_Row_eq : FnScope ["self", "other"] ["self", "other"] (defScope st_Row_eq) := ⟨rfl, rfl, rfl, by decide +kernel, rfl, by decide +kernel, by decide +kernel⟩
theorem ok_Row_eq (Z : Zf K mg) {f : Addr} {fd : FuncData} (F : Fun K "__eq__" "Row.__eq__" st_Row_eq f fd) : FnOk P w K mg base CX0 1 f fd ["self", "other"] (spM ⟨K, mg, nm⟩ m_Row_eq) := by
  have Row_eq_nd := (sc_Row_eq).nd
  refine fn_ok F sc_Row_eq rfl rfl fun cdv A outer s H E hr => ?_
  have hu := room64 hr
  have hv := room65 hr
  exact (wss_one (ws_ret (we_and (we_isi Z.sf Z.b_isinstance (we_var 1) (cls_g Z.c_Row)) (we_one (we_cmp (opw_eq hu) (we_fld Z.sf (k := 2) rfl (we_var 0)) (we_fld Z.sf (k := 2) rfl (we_var 1)))))))
/-! ### Row.__str__ -/
abbrev st_Row_str : Stmt := (inClass (top 20) 4)
def m_Row_str : MF := fnOf 1 1 (sRet (eFmt (eUn (fld 2) (eVar 0))))
theorem sc_Row_str : FnScope ["self"] ["self"] (defScope st_Row_str) := ⟨rfl, rfl, rfl, by decide +kernel, rfl, by decide +kernel, by decide +kernel⟩
theorem ok_Row_str (Z : Zf K mg) {f : Addr} {fd : FuncData} (F : Fun K "__str__" "Row.__str__" st_Row_str f fd) : FnOk P w K mg base CX0 1 f fd ["self"] (spM ⟨K, mg, nm⟩ m_Row_str) := by
  have Row_str_nd := (sc_Row_str).nd
  refine fn_ok F sc_Row_str rfl rfl fun cdv A outer s H E hr => ?_
  have hu := room64 hr
  have hv := room65 hr
  exact (wss_one (ws_ret (we_joined1 (we_fmt (we_fld Z.sf (k := 2) rfl (we_var 0))))))
/-! ### _law_row_text -/
abbrev st_law_row_text : Stmt := (top 35)
def m_law_row_text : MF := fnOf 1 3 (sSeq (sAsg (.nm 1) (eLc [2] (iSeq (eSl sl (eVar 0) (oSome (eC (.int 1))) oNone)) (.nm 2) Mir.tYes (eCall fStr (aCons (eVar 2) aNil)))) (sSeq (sIf (Mir.tB (eBin opEq (eBin opIdx (eVar 0) (eC (.int 0))) (eC (.str s_18_)))) (sRet (eBin opAdd (eBin opAdd (eBin opAdd (eBin opAdd (eBin opAdd (eBin opAdd (eBin opIdx (eVar 1) (eC (.int 0))) (eC (.str s_23_))) (eBin opIdx (eVar 1) (eC (.int 1)))) (eC (.str s_24_))) (eBin opIdx (eVar 1) (eC (.int 2)))) (eC (.str s_25_))) (eBin opIdx (eVar 1) (eC (.int 3))))) sNext) (sSeq (sIf (Mir.tB (eBin opEq (eBin opIdx (eVar 0) (eC (.int 0))) (eC (.str s_8_)))) (sRet (eBin opAdd (eBin opAdd (eBin opAdd (eBin opAdd (eBin opAdd (eBin opAdd (eBin opAdd (eC (.str s_26_)) (eBin opIdx (eVar 1) (eC (.int 0)))) (eC (.str s_23_))) (eBin opIdx (eVar 1) (eC (.int 1)))) (eC (.str s_24_))) (eBin opIdx (eVar 1) (eC (.int 2)))) (eC (.str s_25_))) (eBin opIdx (eVar 1) (eC (.int 3))))) sNext) (sRet (eMtS (m1 mJoin) (eC (.str s_23_)) (aCons (eLst (aCons (eC (.str s_17_)) (aCons (eBin opIdx (eVar 1) (eC (.int 0))) (aCons (eC (.str s_27_)) (aCons (eBin opIdx (eVar 1) (eC (.int 1))) (aCons (eBin opIdx (eVar 1) (eC (.int 2))) (aCons (eC (.str s_28_)) (aCons (eBin opIdx (eVar 1) (eC (.int 3))) (aCons (eBin opIdx (eVar 1) (eC (.int 4))) aNil))))))))) aNil))))))
theorem sc_law_row_text : FnScope ["_law_row", "_law_some", "_law_part"] ["_law_row"] (defScope st_law_row_text) := ⟨rfl, rfl, rfl, by decide +kernel, rfl, by decide +kernel, by decide +kernel⟩
theorem ok_law_row_text (Z : Zf K mg) {f : Addr} {fd : FuncData} (F : Fun K "_law_row_text" "_law_row_text" st_law_row_text f fd) : FnOk P w K mg base CX0 1 f fd ["_law_row"] (spM ⟨K, mg, nm⟩ m_law_row_text) := by
  have law_row_text_nd := (sc_law_row_text).nd
  refine fn_ok F sc_law_row_text rfl rfl fun cdv A outer s H E hr => ?_
  have hu := room64 hr
  have hv := room65 hr
  exact (wss_cons (ws_lc (i := 1) rfl law_row_text_nd rfl rfl (sw_true rfl rfl rfl (by decide +kernel)) (own := [("_law_part", 2)]) (vs := [2]) rfl (by decide) (blkOk_by (N := ["_law_row", "_law_some", "_law_part"]) (sc := defScope st_law_row_text) (by decide +kernel)) (wi_seq (we_sl (we_var 0) (wo_some we_int) wo_none)) (fun _ _ _ _ _ => (wg_name law_row_text_nd)) (fun _ _ _ _ _ => wts_nil) (fun _ _ _ _ _ => (we_callTy cw_str Z.b_str (by decide +kernel) (wa_cons (we_var 2) wa_nil)))) (wss_cons (ws_if (wt_cmp (opw_eq hu) (we_idx (we_var 0) we_int) (we_str s_18 (by rfl))) (wss_one (ws_ret (we_op opw_add (we_op opw_add (we_op opw_add (we_op opw_add (we_op opw_add (we_op opw_add (we_idx (we_var 1) we_int) (we_str s_23 (by rfl))) (we_idx (we_var 1) we_int)) (we_str s_24 (by rfl))) (we_idx (we_var 1) we_int)) (we_str s_25 (by rfl))) (we_idx (we_var 1) we_int)))) wss_nil) (wss_cons (ws_if (wt_cmp (opw_eq hu) (we_idx (we_var 0) we_int) (we_str s_8 (by rfl))) (wss_one (ws_ret (we_op opw_add (we_op opw_add (we_op opw_add (we_op opw_add (we_op opw_add (we_op opw_add (we_op opw_add (we_str s_26 (by rfl)) (we_idx (we_var 1) we_int)) (we_str s_23 (by rfl))) (we_idx (we_var 1) we_int)) (we_str s_24 (by rfl))) (we_idx (we_var 1) we_int)) (we_str s_25 (by rfl))) (we_idx (we_var 1) we_int)))) wss_nil) (wss_one (ws_ret (we_mtS PySem.F.slot_str_join PySem.F.type_str_join mw_join (we_str s_23 (by rfl)) (wa_cons (we_lst (wa_cons (we_str s_17 (by rfl)) (wa_cons (we_idx (we_var 1) we_int) (wa_cons (we_str s_27 (by rfl)) (wa_cons (we_idx (we_var 1) we_int) (wa_cons (we_idx (we_var 1) we_int) (wa_cons (we_str s_28 (by rfl)) (wa_cons (we_idx (we_var 1) we_int) (wa_cons (we_idx (we_var 1) we_int) wa_nil))))))))) wa_nil)))))))
def eqtab : List (Nat × MF) := [(0, m_Row_eq), (1, m_Row_eq), (2, m_Row_eq), (3, m_Row_eq)]
def strtab : List (Nat × MF) := [(0, m_Row_str), (1, m_Row_str), (2, m_Row_str), (3, m_Row_str)]
/-! ### law -/
abbrev st_law : Stmt := (top 38)
def m_law : MF := fnOf 1 12 (sSeq (sAsg (.nm 1) (eCall m_law_deal (aCons (eVar 0) (aCons (eC (.int 0)) aNil)))) (sSeq (sFor (iRange1 (eC (.int 8))) (.nm 2) (sSeq (sAsg (.nm 3) (eCall m_law_names (aCons (eVar 1) (aCons (eC (.int 3)) aNil)))) (sSeq (sAsg (.nm 4) (eLcM [5] (iRange1 (eC (.int 4))) (.nm 5) Mir.tYes (eCall m_law_any_row (aCons (eVar 1) (aCons (eVar 3) aNil))))) (sSeq (sExpr (eMtL (m1 mAppend) (eVar 4) (aCons (eCall m_law_bent (aCons (eVar 1) (aCons (eBin opIdx (eVar 4) (eC (.int 0))) (aCons (eVar 3) aNil)))) aNil))) (sSeq (sAsg (.nm 6) (eLc [7] (iSeq (eVar 4)) (.nm 7) Mir.tYes (eCall m_law_row_of (aCons (eVar 7) aNil)))) (sSeq (sFor (iZipL (eVar 4) (eVar 6)) (.tp [(.nm 7), (.nm 8)]) (sSeq (sIf (Mir.tOr (Mir.tNot (Mir.tB (eIsi sup [(.own 0)] (eVar 8)))) (Mir.tOr (Mir.tB (eRp false (eCall m_law_attributes (aCons (eVar 8) aNil)) (eVar 7))) (Mir.tB (eBin (opNeO sup eqtab) (eCall (fStrO strtab) (aCons (eVar 8) aNil)) (eCall m_law_row_text (aCons (eVar 7) aNil)))))) (sRet (eC (.bl false))) sNext) (sSeq (sIf (Mir.tB (eBin (opNeO sup eqtab) (eMtL (m1 mCountD) (eLst (aCons (eIsi sup [(.own 1)] (eVar 8)) (aCons (eIsi sup [(.own 2)] (eVar 8)) (aCons (eIsi sup [(.own 3)] (eVar 8)) aNil)))) (aCons (eC (.bl true)) aNil)) (eC (.int 1)))) (sRet (eC (.bl false))) sNext) (sIf (Mir.tOr (Mir.tB (eBin (opEqO sup eqtab) (eVar 8) (eCall (fStrO strtab) (aCons (eVar 8) aNil)))) (Mir.tOr (Mir.tB (eBin (opEqO sup eqtab) (eVar 8) (eVar 7))) (Mir.tB (eBin (opNeO sup eqtab) (eVar 8) (eCall m_law_row_of (aCons (eVar 7) aNil)))))) (sRet (eC (.bl false))) sNext)))) (sFor (iRange1 (eCall fLen (aCons (eVar 4) aNil))) (.nm 9) (sFor (iRange1 (eCall fLen (aCons (eVar 4) aNil))) (.nm 10) (sSeq (sAsg (.nm 11) (eBin (opEqO sup eqtab) (eBin opIdx (eVar 4) (eVar 9)) (eBin opIdx (eVar 4) (eVar 10)))) (sIf (Mir.tOr (Mir.tB (eBin (opNeO sup eqtab) (eBin (opEqO sup eqtab) (eBin opIdx (eVar 6) (eVar 9)) (eBin opIdx (eVar 6) (eVar 10))) (eVar 11))) (Mir.tB (eBin (opEqO sup eqtab) (eBin (opNeO sup eqtab) (eBin opIdx (eVar 6) (eVar 9)) (eBin opIdx (eVar 6) (eVar 10))) (eVar 11)))) (sRet (eC (.bl false))) sNext)))))))))) (sRet (eBin (opNeO sup eqtab) (eCall (mkF 3 m_Part_init) (aCons (eC (.str s_13_)) (aCons (eC (.str s_16_)) (aCons (eC (.str s_16_)) (aCons (eC (.int 0)) (aCons (eC (.int 0)) aNil)))))) (eCall (mkF 2 m_Join_init) (aCons (eC (.str s_13_)) (aCons (eC (.str s_13_)) (aCons (eC (.str s_14_)) (aCons (eC (.int 0)) aNil)))))))))
theorem sc_law : FnScope ["_law_script", "_law_deal_here", "_law_turn", "_law_marks", "_law_some", "_law_more", "_law_made", "_law_row", "_law_one", "_law_at", "_law_other", "_law_is_same"] ["_law_script"] (defScope st_law) := ⟨rfl, rfl, rfl, by decide +kernel, rfl, by decide +kernel, by decide +kernel⟩
theorem ok_law (Z : Zf K mg) (G_law_deal : FnG P w K mg base nm 1 "_law_deal" m_law_deal) (G_law_names : FnG P w K mg base nm 3 "_law_names" m_law_names) (G_law_any_row : FnG P w K mg base nm 3 "_law_any_row" m_law_any_row) (G_law_bent : FnG P w K mg base nm 3 "_law_bent" m_law_bent) (G_law_row_of : FnG P w K mg base nm 5 "_law_row_of" m_law_row_of) (G_law_attributes : FnG P w K mg base nm 1 "_law_attributes" m_law_attributes) (G_eqtab : EqT P w K mg base nm 1 eqtab) (G_strtab : StrT P w K mg base nm 1 strtab) (G_law_row_text : FnG P w K mg base nm 1 "_law_row_text" m_law_row_text) (G_mk_Part : MkG P w K mg base nm 3 "Part" 3 m_Part_init) (G_mk_Join : MkG P w K mg base nm 3 "Join" 2 m_Join_init) {f : Addr} {fd : FuncData} (F : Fun K "law" "law" st_law f fd) : FnK P w K mg base 6 f fd ["_law_script"] (spM ⟨K, mg, nm⟩ m_law) := by
  have law_nd := (sc_law).nd
  refine fn_okK F sc_law rfl rfl fun cdv A outer s H E hG hr => ?_
  have hu := room64 hr
  have hv := room65 hr
  exact (wss_cons (ws_set (i := 1) law_nd (wg_call G_law_deal (hr.mono (by decide)) (wa_cons (we_var 0) (wa_cons we_int wa_nil)))) (wss_cons (ws_for PassesOwn.never rfl (wi_range1 we_int Z.b_range) (wg_name law_nd) (wss_cons (ws_set (i := 3) law_nd (wg_call G_law_names (hr.mono (by decide)) (wa_cons (we_var 1) (wa_cons we_int wa_nil)))) (wss_cons (ws_lcM (i := 4) rfl law_nd rfl rfl (sw_true rfl rfl rfl (by decide +kernel)) (own := [("_law_more", 5)]) (vs := [5]) rfl (by decide) (blkOk_by (N := ["_law_script", "_law_deal_here", "_law_turn", "_law_marks", "_law_some", "_law_more", "_law_made", "_law_row", "_law_one", "_law_at", "_law_other", "_law_is_same"]) (sc := defScope st_law) (by decide +kernel)) (wi_range1 we_int Z.b_range) (fun _ _ _ _ _ => (wg_name law_nd)) (fun _ _ _ _ _ => wts_nil) (fun _ _ _ _ _ => (wg_call G_law_any_row (hr.mono (by decide)) (wa_cons (we_var 1) (wa_cons (we_var 3) wa_nil))))) (wss_cons (ws_expr (we_mtL PySem.F.slot_list_append PySem.F.type_list_append mw_append (we_var 4) (wa_cons (wg_call G_law_bent (hr.mono (by decide)) (wa_cons (we_var 1) (wa_cons (we_idx (we_var 4) we_int) (wa_cons (we_var 3) wa_nil)))) wa_nil))) (wss_cons (ws_lc (i := 6) rfl law_nd rfl rfl (sw_true rfl rfl rfl (by decide +kernel)) (own := [("_law_row", 7)]) (vs := [7]) rfl (by decide) (blkOk_by (N := ["_law_script", "_law_deal_here", "_law_turn", "_law_marks", "_law_some", "_law_more", "_law_made", "_law_row", "_law_one", "_law_at", "_law_other", "_law_is_same"]) (sc := defScope st_law) (by decide +kernel)) (wi_seq (we_var 4)) (fun _ _ _ _ _ => (wg_name law_nd)) (fun _ _ _ _ _ => wts_nil) (fun _ _ _ _ _ => (wg_call G_law_row_of (hr.mono (by decide)) (wa_cons (we_var 7) wa_nil)))) (wss_cons (ws_for PassesOwn.never rfl (wi_zip (we_var 4) (we_var 6) Z.b_zip) (wg_tup rfl (wgs_cons (wg_name law_nd) (wgs_cons (wg_name law_nd) wgs_nil))) (wss_cons (ws_if (PW.pt (ww_or (wt_not (wt_val (we_isi Z.sf Z.b_isinstance (we_var 8) (cls_g Z.c_Row)))) (ww_or (wt_rpNe hG hu Z.b_repr (wg_call G_law_attributes (hr.mono (by decide)) (wa_cons (we_var 8) wa_nil)) (we_var 7)) (ww_or1 (wt_cmp (opw_neO Z.sf G_eqtab (hr.mono (by decide))) (we_callTy (cw_strO G_strtab (hr.mono (by decide))) Z.b_str (by decide +kernel) (wa_cons (we_var 8) wa_nil)) (wg_call G_law_row_text (hr.mono (by decide)) (wa_cons (we_var 7) wa_nil))))))) (wss_one (ws_ret we_bl)) wss_nil) (wss_cons (ws_if (wt_cmp (opw_neO Z.sf G_eqtab (hr.mono (by decide))) (we_mtL PySem.F.slot_list_count PySem.F.type_list_count (mw_count hv) (we_lst (wa_cons (we_isi Z.sf Z.b_isinstance (we_var 8) (cls_g Z.c_Step)) (wa_cons (we_isi Z.sf Z.b_isinstance (we_var 8) (cls_g Z.c_Join)) (wa_cons (we_isi Z.sf Z.b_isinstance (we_var 8) (cls_g Z.c_Part)) wa_nil)))) (wa_cons we_bl wa_nil)) we_int) (wss_one (ws_ret we_bl)) wss_nil) (wss_one (ws_if (PW.pt (ww_or (wt_cmp (opw_eqO Z.sf G_eqtab (hr.mono (by decide))) (we_var 8) (we_callTy (cw_strO G_strtab (hr.mono (by decide))) Z.b_str (by decide +kernel) (wa_cons (we_var 8) wa_nil))) (ww_or (wt_cmp (opw_eqO Z.sf G_eqtab (hr.mono (by decide))) (we_var 8) (we_var 7)) (ww_or1 (wt_cmp (opw_neO Z.sf G_eqtab (hr.mono (by decide))) (we_var 8) (wg_call G_law_row_of (hr.mono (by decide)) (wa_cons (we_var 7) wa_nil))))))) (wss_one (ws_ret we_bl)) wss_nil))))) (wss_one (ws_for PassesOwn.never rfl (wi_range1 (we_callB cw_len Z.b_len (by decide +kernel) (wa_cons (we_var 4) wa_nil)) Z.b_range) (wg_name law_nd) (wss_one (ws_for PassesOwn.never rfl (wi_range1 (we_callB cw_len Z.b_len (by decide +kernel) (wa_cons (we_var 4) wa_nil)) Z.b_range) (wg_name law_nd) (wss_cons (ws_set (i := 11) law_nd (we_cmp (opw_eqO Z.sf G_eqtab (hr.mono (by decide))) (we_idx (we_var 4) (we_var 9)) (we_idx (we_var 4) (we_var 10)))) (wss_one (ws_if (PW.pt (ww_or (wt_cmp (opw_neO Z.sf G_eqtab (hr.mono (by decide))) (we_cmp (opw_eqO Z.sf G_eqtab (hr.mono (by decide))) (we_idx (we_var 6) (we_var 9)) (we_idx (we_var 6) (we_var 10))) (we_var 11)) (ww_or1 (wt_cmp (opw_eqO Z.sf G_eqtab (hr.mono (by decide))) (we_cmp (opw_neO Z.sf G_eqtab (hr.mono (by decide))) (we_idx (we_var 6) (we_var 9)) (we_idx (we_var 6) (we_var 10))) (we_var 11))))) (wss_one (ws_ret we_bl)) wss_nil))))))))))))) (wss_one (ws_ret (we_cmp (opw_neO Z.sf G_eqtab (hr.mono (by decide))) (wg_makeF G_mk_Part (hr.mono (by decide)) (wa_cons (we_str s_13 (by rfl)) (wa_cons (we_str s_16 (by rfl)) (wa_cons (we_str s_16 (by rfl)) (wa_cons we_int (wa_cons we_int wa_nil)))))) (wg_makeF G_mk_Join (hr.mono (by decide)) (wa_cons (we_str s_13 (by rfl)) (wa_cons (we_str s_13 (by rfl)) (wa_cons (we_str s_14 (by rfl)) (wa_cons we_int wa_nil))))))))))
/-! ### the join -/
def fm : List Fm := [.fa (.free "abs"),
  .fa (.free "all"),
  .fa (.free "any"),
  .fa (.free "bool"),
  .fa (.free "enumerate"),
  .fa (.free "int"),
  .fa (.free "isinstance"),
  .fa (.free "len"),
  .fa (.free "list"),
  .fa (.free "range"),
  .fa (.free "repr"),
  .fa (.free "str"),
  .fa (.free "sum"),
  .fa (.free "super"),
  .fa (.free "tuple"),
  .fa (.free "zip"),
  .glob "LETTERS" g_LETTERS,
  .glob "DIGITS" g_DIGITS,
  .glob "MOST_LETTERS" g_MOST_LETTERS,
  .glob "MOST_ADD" g_MOST_ADD,
  .glob "BARRED" g_BARRED,
  .glob "KINDS" g_KINDS,
  .fa (.glo "law"),
  .fa (.glo "_law_draw"),
  .fa (.glo "_law_mixed"),
  .fa (.glo "_law_pick"),
  .fa (.glo "_law_kinds"),
  .fa (.glo "is_name"),
  .fa (.glo "is_word_of"),
  .fa (.glo "is_integer"),
  .fa (.glo "need"),
  .fa (.glo "is_old"),
  .fa (.glo "is_new"),
  .fa (.glo "is_add"),
  .sup "Step" "Row" "__init__",
  .sup "Join" "Row" "__init__",
  .sup "Part" "Row" "__init__",
  .fa (.mkr "Step"),
  .fa (.mkr "Join"),
  .fa (.mkr "Part"),
  .fa (.glo "_law_deal"),
  .fa (.glo "_law_names"),
  .fa (.glo "_law_any_row"),
  .fa (.glo "_law_bent"),
  .fa (.glo "_law_row_of"),
  .fa (.glo "_law_attributes"),
  .inh "Part" "__eq__" "Row",
  .ne "Part",
  .inh "Join" "__eq__" "Row",
  .ne "Join",
  .inh "Step" "__eq__" "Row",
  .ne "Step",
  .inh "Row" "__eq__" "Row",
  .ne "Row",
  .inh "Part" "__str__" "Row",
  .inh "Join" "__str__" "Row",
  .inh "Step" "__str__" "Row",
  .inh "Row" "__str__" "Row",
  .fa (.glo "_law_row_text")]
def fn : List DefM := [⟨("_law_deal", none), "_law_deal", "_law_deal", st_law_deal, false, false⟩,
  ⟨("_law_draw", none), "_law_draw", "_law_draw", st_law_draw, false, false⟩,
  ⟨("_law_mixed", none), "_law_mixed", "_law_mixed", st_law_mixed, false, false⟩,
  ⟨("_law_names", none), "_law_names", "_law_names", st_law_names, false, false⟩,
  ⟨("_law_pick", none), "_law_pick", "_law_pick", st_law_pick, false, false⟩,
  ⟨("_law_kinds", none), "_law_kinds", "_law_kinds", st_law_kinds, false, false⟩,
  ⟨("_law_any_row", none), "_law_any_row", "_law_any_row", st_law_any_row, false, false⟩,
  ⟨("_law_bent", none), "_law_bent", "_law_bent", st_law_bent, false, false⟩,
  ⟨("is_word_of", none), "is_word_of", "is_word_of", st_is_word_of, false, false⟩,
  ⟨("need", none), "need", "need", st_need, false, false⟩,
  ⟨("is_name", none), "is_name", "is_name", st_is_name, false, false⟩,
  ⟨("is_old", none), "is_old", "is_old", st_is_old, false, false⟩,
  ⟨("is_new", none), "is_new", "is_new", st_is_new, false, false⟩,
  ⟨("is_integer", none), "is_integer", "is_integer", st_is_integer, false, false⟩,
  ⟨("is_add", none), "is_add", "is_add", st_is_add, false, false⟩,
  ⟨("Row", some "__init__"), "__init__", "Row.__init__", st_Row_init, false, false⟩,
  ⟨("Step", some "__init__"), "__init__", "Step.__init__", st_Step_init, true, false⟩,
  ⟨("Join", some "__init__"), "__init__", "Join.__init__", st_Join_init, true, false⟩,
  ⟨("Part", some "__init__"), "__init__", "Part.__init__", st_Part_init, true, false⟩,
  ⟨("_law_row_of", none), "_law_row_of", "_law_row_of", st_law_row_of, false, false⟩,
  ⟨("_law_attributes", none), "_law_attributes", "_law_attributes", st_law_attributes, false, false⟩,
  ⟨("Row", some "__eq__"), "__eq__", "Row.__eq__", st_Row_eq, false, false⟩,
  ⟨("Row", some "__str__"), "__str__", "Row.__str__", st_Row_str, false, false⟩,
  ⟨("_law_row_text", none), "_law_row_text", "_law_row_text", st_law_row_text, false, false⟩,
  ⟨("law", none), "law", "law", st_law, false, false⟩]
def hd : Head := ⟨cnl, anl, sup, PySem.Challenge.pw_forkpolls_k02_rows_made.main.file, fm, fn⟩
theorem facts {h : Heap} (hf : (P.main.file : Str) = hd.file) (htop : (P.main.scope.names.lookup ("super" : Str)).isSome = false) (X : K.In h) (G : h.Ns mainGlobals mg) (c : SaysM hd K) :
    ∃ fd : FuncData, (∀ (s : Shared) (v : Value), BindsTo s fd ⟨[v], []⟩ [("_law_script", v)]) ∧ ∀ base : Heap, FnK P w K mg base 6 (He.fAd K ("law", none)) fd ["_law_script"] (spM ⟨K, mg, nm⟩ m_law) := by
  have Z : Zf K mg := ⟨sf_ok X G c.sf, He.free_ok X G (c.fact 0 (f := .fa (.free "abs")) rfl), He.free_ok X G (c.fact 1 (f := .fa (.free "all")) rfl), He.free_ok X G (c.fact 2 (f := .fa (.free "any")) rfl), He.free_ok X G (c.fact 3 (f := .fa (.free "bool")) rfl), He.free_ok X G (c.fact 4 (f := .fa (.free "enumerate")) rfl), He.free_ok X G (c.fact 5 (f := .fa (.free "int")) rfl), He.free_ok X G (c.fact 6 (f := .fa (.free "isinstance")) rfl), He.free_ok X G (c.fact 7 (f := .fa (.free "len")) rfl), He.free_ok X G (c.fact 8 (f := .fa (.free "list")) rfl), He.free_ok X G (c.fact 9 (f := .fa (.free "range")) rfl), He.free_ok X G (c.fact 10 (f := .fa (.free "repr")) rfl), He.free_ok X G (c.fact 11 (f := .fa (.free "str")) rfl), He.free_ok X G (c.fact 12 (f := .fa (.free "sum")) rfl), He.free_ok X G (c.fact 13 (f := .fa (.free "super")) rfl), He.free_ok X G (c.fact 14 (f := .fa (.free "tuple")) rfl), He.free_ok X G (c.fact 15 (f := .fa (.free "zip")) rfl), glob_ok X G (c.fact 16 (f := .glob "LETTERS" g_LETTERS) rfl), glob_ok X G (c.fact 17 (f := .glob "DIGITS" g_DIGITS) rfl), glob_ok X G (c.fact 18 (f := .glob "MOST_LETTERS" g_MOST_LETTERS) rfl), glob_ok X G (c.fact 19 (f := .glob "MOST_ADD" g_MOST_ADD) rfl), glob_ok X G (c.fact 20 (f := .glob "BARRED" g_BARRED) rfl), glob_ok X G (c.fact 21 (f := .glob "KINDS" g_KINDS) rfl), cl_of an_nd X G c (i := 0), cl_of an_nd X G c (i := 1), cl_of an_nd X G c (i := 2), cl_of an_nd X G c (i := 3)⟩
  obtain ⟨fd_law_deal, F_law_deal⟩ := c.fn 0
  have b_law_deal := Fun.binds (ps := ["_law_script", "_law_base"]) F_law_deal fun _ _ _ _ _ _ us hl => match us, hl with | [_, _], _ => rfl
  obtain ⟨fd_law_draw, F_law_draw⟩ := c.fn 1
  have b_law_draw := Fun.binds (ps := ["_law_deal_here", "_law_many"]) F_law_draw fun _ _ _ _ _ _ us hl => match us, hl with | [_, _], _ => rfl
  obtain ⟨fd_law_mixed, F_law_mixed⟩ := c.fn 2
  have b_law_mixed := Fun.binds (ps := ["_law_deal_here", "_law_some"]) F_law_mixed fun _ _ _ _ _ _ us hl => match us, hl with | [_, _], _ => rfl
  obtain ⟨fd_law_names, F_law_names⟩ := c.fn 3
  have b_law_names := Fun.binds (ps := ["_law_deal_here", "_law_many"]) F_law_names fun _ _ _ _ _ _ us hl => match us, hl with | [_, _], _ => rfl
  obtain ⟨fd_law_pick, F_law_pick⟩ := c.fn 4
  have b_law_pick := Fun.binds (ps := ["_law_deal_here", "_law_some"]) F_law_pick fun _ _ _ _ _ _ us hl => match us, hl with | [_, _], _ => rfl
  obtain ⟨fd_law_kinds, F_law_kinds⟩ := c.fn 5
  have b_law_kinds := Fun.binds (ps := []) F_law_kinds fun _ _ _ _ _ _ us hl => match us, hl with | [], _ => rfl
  obtain ⟨fd_law_any_row, F_law_any_row⟩ := c.fn 6
  have b_law_any_row := Fun.binds (ps := ["_law_deal_here", "_law_marks"]) F_law_any_row fun _ _ _ _ _ _ us hl => match us, hl with | [_, _], _ => rfl
  obtain ⟨fd_law_bent, F_law_bent⟩ := c.fn 7
  have b_law_bent := Fun.binds (ps := ["_law_deal_here", "_law_row", "_law_marks"]) F_law_bent fun _ _ _ _ _ _ us hl => match us, hl with | [_, _, _], _ => rfl
  obtain ⟨fd_is_word_of, F_is_word_of⟩ := c.fn 8
  have b_is_word_of := Fun.binds (ps := ["value", "words"]) F_is_word_of fun _ _ _ _ _ _ us hl => match us, hl with | [_, _], _ => rfl
  obtain ⟨fd_need, F_need⟩ := c.fn 9
  have b_need := Fun.binds (ps := ["is_right", "word"]) F_need fun _ _ _ _ _ _ us hl => match us, hl with | [_, _], _ => rfl
  obtain ⟨fd_is_name, F_is_name⟩ := c.fn 10
  have b_is_name := Fun.binds (ps := ["value"]) F_is_name fun _ _ _ _ _ _ us hl => match us, hl with | [_], _ => rfl
  obtain ⟨fd_is_old, F_is_old⟩ := c.fn 11
  have b_is_old := Fun.binds (ps := ["value"]) F_is_old fun _ _ _ _ _ _ us hl => match us, hl with | [_], _ => rfl
  obtain ⟨fd_is_new, F_is_new⟩ := c.fn 12
  have b_is_new := Fun.binds (ps := ["value", "words"]) F_is_new fun _ _ _ _ _ _ us hl => match us, hl with | [_, _], _ => rfl
  obtain ⟨fd_is_integer, F_is_integer⟩ := c.fn 13
  have b_is_integer := Fun.binds (ps := ["value"]) F_is_integer fun _ _ _ _ _ _ us hl => match us, hl with | [_], _ => rfl
  obtain ⟨fd_is_add, F_is_add⟩ := c.fn 14
  have b_is_add := Fun.binds (ps := ["value"]) F_is_add fun _ _ _ _ _ _ us hl => match us, hl with | [_], _ => rfl
  obtain ⟨fd_Row_init, F_Row_init⟩ := c.fn 15
  have b_Row_init := Fun.binds (ps := ["self", "text", "names"]) F_Row_init fun _ _ _ _ _ _ us hl => match us, hl with | [_, _, _], _ => rfl
  obtain ⟨fd_Step_init, F_Step_init⟩ := c.fnS hf 16
  have b_Step_init := FunS.binds (ps := ["self", "kind", "old", "then", "add"]) F_Step_init fun _ _ _ _ _ _ _ us hl => match us, hl with | [_, _, _, _, _], _ => rfl
  obtain ⟨fd_Join_init, F_Join_init⟩ := c.fnS hf 17
  have b_Join_init := FunS.binds (ps := ["self", "here", "there", "then", "add"]) F_Join_init fun _ _ _ _ _ _ _ us hl => match us, hl with | [_, _, _, _, _], _ => rfl
  obtain ⟨fd_Part_init, F_Part_init⟩ := c.fnS hf 18
  have b_Part_init := FunS.binds (ps := ["self", "old", "left", "right", "add", "more"]) F_Part_init fun _ _ _ _ _ _ _ us hl => match us, hl with | [_, _, _, _, _, _], _ => rfl
  obtain ⟨fd_law_row_of, F_law_row_of⟩ := c.fn 19
  have b_law_row_of := Fun.binds (ps := ["_law_row"]) F_law_row_of fun _ _ _ _ _ _ us hl => match us, hl with | [_], _ => rfl
  obtain ⟨fd_law_attributes, F_law_attributes⟩ := c.fn 20
  have b_law_attributes := Fun.binds (ps := ["_law_row"]) F_law_attributes fun _ _ _ _ _ _ us hl => match us, hl with | [_], _ => rfl
  obtain ⟨fd_Row_eq, F_Row_eq⟩ := c.fn 21
  have b_Row_eq := Fun.binds (ps := ["self", "other"]) F_Row_eq fun _ _ _ _ _ _ us hl => match us, hl with | [_, _], _ => rfl
  obtain ⟨fd_Row_str, F_Row_str⟩ := c.fn 22
  have b_Row_str := Fun.binds (ps := ["self"]) F_Row_str fun _ _ _ _ _ _ us hl => match us, hl with | [_], _ => rfl
  obtain ⟨fd_law_row_text, F_law_row_text⟩ := c.fn 23
  have b_law_row_text := Fun.binds (ps := ["_law_row"]) F_law_row_text fun _ _ _ _ _ _ us hl => match us, hl with | [_], _ => rfl
  obtain ⟨fd_law, F_law⟩ := c.fn 24
  have b_law := Fun.binds (ps := ["_law_script"]) F_law fun _ _ _ _ _ _ us hl => match us, hl with | [_], _ => rfl
  refine ⟨fd_law, fun s v => ?_, fun base => ?_⟩
  · obtain ⟨oc, od, kV, doc, pm, an, cdv, ct, osl, rfl, lk, hcd⟩ := F_law.ex
    exact .of_eq rfl
  ·
    have O_law_deal := ok_law_deal (P := P) (w := w) (base := base) Z F_law_deal
    have O_law_draw := ok_law_draw (P := P) (w := w) (base := base) Z F_law_draw
    have G_law_draw : FnG P w K mg base nm 1 "_law_draw" m_law_draw := fnG_of X G c (j := 23) (F := F_law_draw) (b := b_law_draw) (ho := O_law_draw)
    have O_law_mixed := ok_law_mixed (P := P) (w := w) (base := base) Z G_law_draw F_law_mixed
    have G_law_mixed : FnG P w K mg base nm 2 "_law_mixed" m_law_mixed := fnG_of X G c (j := 24) (F := F_law_mixed) (b := b_law_mixed) (ho := O_law_mixed)
    have O_law_names := ok_law_names (P := P) (w := w) (base := base) Z G_law_mixed F_law_names
    have O_law_pick := ok_law_pick (P := P) (w := w) (base := base) Z G_law_draw F_law_pick
    have O_law_kinds := ok_law_kinds (P := P) (w := w) (base := base) Z F_law_kinds
    have G_law_pick : FnG P w K mg base nm 2 "_law_pick" m_law_pick := fnG_of X G c (j := 25) (F := F_law_pick) (b := b_law_pick) (ho := O_law_pick)
    have G_law_kinds : FnG P w K mg base nm 1 "_law_kinds" m_law_kinds := fnG_of X G c (j := 26) (F := F_law_kinds) (b := b_law_kinds) (ho := O_law_kinds)
    have O_law_any_row := ok_law_any_row (P := P) (w := w) (base := base) Z G_law_draw G_law_pick G_law_kinds F_law_any_row
    have O_law_bent := ok_law_bent (P := P) (w := w) (base := base) Z G_law_draw G_law_kinds G_law_pick F_law_bent
    have O_is_word_of := ok_is_word_of (P := P) (w := w) (base := base) Z F_is_word_of
    have O_need := ok_need (P := P) (w := w) (base := base) Z F_need
    have O_is_name := ok_is_name (P := P) (w := w) (base := base) Z F_is_name
    have G_is_name : FnG P w K mg base nm 1 "is_name" m_is_name := fnG_of X G c (j := 27) (F := F_is_name) (b := b_is_name) (ho := O_is_name)
    have G_is_word_of : FnG P w K mg base nm 1 "is_word_of" m_is_word_of := fnG_of X G c (j := 28) (F := F_is_word_of) (b := b_is_word_of) (ho := O_is_word_of)
    have O_is_old := ok_is_old (P := P) (w := w) (base := base) Z G_is_name G_is_word_of F_is_old
    have O_is_new := ok_is_new (P := P) (w := w) (base := base) Z G_is_name G_is_word_of F_is_new
    have O_is_integer := ok_is_integer (P := P) (w := w) (base := base) Z F_is_integer
    have G_is_integer : FnG P w K mg base nm 1 "is_integer" m_is_integer := fnG_of X G c (j := 29) (F := F_is_integer) (b := b_is_integer) (ho := O_is_integer)
    have O_is_add := ok_is_add (P := P) (w := w) (base := base) Z G_is_integer F_is_add
    have O_Row_init := ok_Row_init (P := P) (w := w) (base := base) Z G_is_name F_Row_init
    have G_need : FnG P w K mg base nm 1 "need" m_need := fnG_of X G c (j := 30) (F := F_need) (b := b_need) (ho := O_need)
    have G_is_old : FnG P w K mg base nm 2 "is_old" m_is_old := fnG_of X G c (j := 31) (F := F_is_old) (b := b_is_old) (ho := O_is_old)
    have G_is_new : FnG P w K mg base nm 2 "is_new" m_is_new := fnG_of X G c (j := 32) (F := F_is_new) (b := b_is_new) (ho := O_is_new)
    have G_is_add : FnG P w K mg base nm 2 "is_add" m_is_add := fnG_of X G c (j := 33) (F := F_is_add) (b := b_is_add) (ho := O_is_add)
    have G_su_Step_Row___init__ : SupG P w K mg base nm 2 1 1 "__init__" m_Row_init := supG_of an_nd X G c (i := 1) (j := 34) (j2 := 13) (htop := htop) (b := b_Row_init) (ho := O_Row_init)
    have O_Step_init := ok_Step_init (P := P) (w := w) (base := base) Z G_is_word_of G_need G_is_old G_is_new G_is_add G_su_Step_Row___init__ (cls_at (nd := an_nd) X G c.sf (i := 1) rfl).2 F_Step_init
    have G_su_Join_Row___init__ : SupG P w K mg base nm 2 2 2 "__init__" m_Row_init := supG_of an_nd X G c (i := 2) (j := 35) (j2 := 13) (htop := htop) (b := b_Row_init) (ho := O_Row_init)
    have O_Join_init := ok_Join_init (P := P) (w := w) (base := base) Z G_is_old G_need G_is_new G_is_add G_su_Join_Row___init__ (cls_at (nd := an_nd) X G c.sf (i := 2) rfl).2 F_Join_init
    have G_su_Part_Row___init__ : SupG P w K mg base nm 2 3 3 "__init__" m_Row_init := supG_of an_nd X G c (i := 3) (j := 36) (j2 := 13) (htop := htop) (b := b_Row_init) (ho := O_Row_init)
    have O_Part_init := ok_Part_init (P := P) (w := w) (base := base) Z G_is_old G_need G_is_new G_is_add G_su_Part_Row___init__ (cls_at (nd := an_nd) X G c.sf (i := 3) rfl).2 F_Part_init
    have G_mk_Step : MkG P w K mg base nm 3 "Step" 1 m_Step_init := mkG_of an_nd X G c (i := 1) (j := 37) (b := b_Step_init) (ho := O_Step_init)
    have G_mk_Join : MkG P w K mg base nm 3 "Join" 2 m_Join_init := mkG_of an_nd X G c (i := 2) (j := 38) (b := b_Join_init) (ho := O_Join_init)
    have G_mk_Part : MkG P w K mg base nm 3 "Part" 3 m_Part_init := mkG_of an_nd X G c (i := 3) (j := 39) (b := b_Part_init) (ho := O_Part_init)
    have O_law_row_of := ok_law_row_of (P := P) (w := w) (base := base) Z G_mk_Step G_mk_Join G_mk_Part F_law_row_of
    have O_law_attributes := ok_law_attributes (P := P) (w := w) (base := base) Z F_law_attributes
    have O_Row_eq := ok_Row_eq (P := P) (w := w) (base := base) Z F_Row_eq
    have O_Row_str := ok_Row_str (P := P) (w := w) (base := base) Z F_Row_str
    have O_law_row_text := ok_law_row_text (P := P) (w := w) (base := base) Z F_law_row_text
    have G_law_deal : FnG P w K mg base nm 1 "_law_deal" m_law_deal := fnG_of X G c (j := 40) (F := F_law_deal) (b := b_law_deal) (ho := O_law_deal)
    have G_law_names : FnG P w K mg base nm 3 "_law_names" m_law_names := fnG_of X G c (j := 41) (F := F_law_names) (b := b_law_names) (ho := O_law_names)
    have G_law_any_row : FnG P w K mg base nm 3 "_law_any_row" m_law_any_row := fnG_of X G c (j := 42) (F := F_law_any_row) (b := b_law_any_row) (ho := O_law_any_row)
    have G_law_bent : FnG P w K mg base nm 3 "_law_bent" m_law_bent := fnG_of X G c (j := 43) (F := F_law_bent) (b := b_law_bent) (ho := O_law_bent)
    have G_law_row_of : FnG P w K mg base nm 5 "_law_row_of" m_law_row_of := fnG_of X G c (j := 44) (F := F_law_row_of) (b := b_law_row_of) (ho := O_law_row_of)
    have G_law_attributes : FnG P w K mg base nm 1 "_law_attributes" m_law_attributes := fnG_of X G c (j := 45) (F := F_law_attributes) (b := b_law_attributes) (ho := O_law_attributes)
    have G_eqtab : EqT P w K mg base nm 1 eqtab := (eqT_cons ((eqC_of an_nd X G c (i := 0) (j := 52) (j2 := 53) (b := b_Row_eq) (ho := O_Row_eq)).mono (by decide)) (eqT_cons ((eqC_of an_nd X G c (i := 1) (j := 50) (j2 := 51) (b := b_Row_eq) (ho := O_Row_eq)).mono (by decide)) (eqT_cons ((eqC_of an_nd X G c (i := 2) (j := 48) (j2 := 49) (b := b_Row_eq) (ho := O_Row_eq)).mono (by decide)) (eqT_cons ((eqC_of an_nd X G c (i := 3) (j := 46) (j2 := 47) (b := b_Row_eq) (ho := O_Row_eq)).mono (by decide)) eqT_nil))))
    have G_strtab : StrT P w K mg base nm 1 strtab := (strT_cons ((strC_of an_nd X G c (i := 0) (j := 57) (b := b_Row_str) (ho := O_Row_str)).mono (by decide)) (strT_cons ((strC_of an_nd X G c (i := 1) (j := 56) (b := b_Row_str) (ho := O_Row_str)).mono (by decide)) (strT_cons ((strC_of an_nd X G c (i := 2) (j := 55) (b := b_Row_str) (ho := O_Row_str)).mono (by decide)) (strT_cons ((strC_of an_nd X G c (i := 3) (j := 54) (b := b_Row_str) (ho := O_Row_str)).mono (by decide)) strT_nil))))
    have G_law_row_text : FnG P w K mg base nm 1 "_law_row_text" m_law_row_text := fnG_of X G c (j := 58) (F := F_law_row_text) (b := b_law_row_text) (ho := O_law_row_text)
    have O_law := ok_law (P := P) (w := w) (base := base) Z G_law_deal G_law_names G_law_any_row G_law_bent G_law_row_of G_law_attributes G_eqtab G_strtab G_law_row_text G_mk_Part G_mk_Join F_law
    exact O_law
def nms : List Str := (["PollError", "InvalidRow", "InvalidText", "LETTERS", "DIGITS", "MOST_LETTERS", "MOST_ADD", "BARRED", "KINDS", "is_integer", "is_word_of", "is_name", "is_add", "add_in", "is_old", "is_new", "need", "Row", "Step", "Join", "Part", "row_of", "row_in", "_law_deal", "_law_draw", "_law_pick", "_law_mixed", "_law_names", "_law_kinds", "_law_any_row", "_law_bent", "_law_row_text", "_law_row_of", "_law_attributes"] : List String).map Str.ofString
abbrev R : PySem.W.OpenRow := PySem.W.OpenLaw.row PySem.Challenge.rw_forkpolls_k02_rows_made
abbrev hk : PySem.W.Hook := hookM 5 hd
def ob (s : PySem.W.SharedT) : AlM := obsMG 5 hd (HandSHeadRun.getT s)
theorem ob_eq (s : PySem.W.SharedT) : ob s = hk.obs s.abs := obsMG_eq (HandSHeadRun.getT_eq s)
end G
set_option Elab.async false
set_option linter.all false
set_option maxRecDepth 100000
set_option maxHeartbeats 4000000
namespace G
open PySem PySem.Spec PyProof.Rows L2 Mir MW
theorem run (w : World) : HandSHeadRun.RunEq R (PySem.W.view R.prog [38]) hk ob 4000 nms w := by
  intro os
  kernel_rfl
end G
set_option linter.all false
/-! ML: a small calculus over Mir's outcomes; the laws' draws. -/
namespace ML
open Mir
def Tr {α : Type} (r : Out α) (Q : α → Store → Prop) : Prop := match r with
  | .ok a S => Q a S
  | _ => False
section
variable {α β : Type} {r : Out α} {Q Q' : α → Store → Prop} {a : α} {S : Store}
theorem Tr.bind {k : α → Store → Out β} {R : β → Store → Prop} (h : Tr r fun a S => Tr (k a S) R) : Tr (r.bind k) R := by
  cases r with
  | ok a S => exact h
  | err c fs S => exact h
  | bad => exact h
theorem Tr.imp (h : Tr r Q) (k : ∀ a S, Q a S → Q' a S) : Tr r Q' := by
  cases r with
  | ok a S => exact k a S h
  | err c fs S => exact h
  | bad => exact h
theorem Tr.out (h : Tr r Q) : ∃ a S, r = .ok a S ∧ Q a S := by
  cases r with
  | ok a S => exact ⟨a, S, rfl, h⟩
  | err c fs S => exact h.elim
  | bad => exact h.elim
end
/-! ### the store -/
theorem look_putO_same : ∀ {l : List (Nat × SO)} {n : Nat} {o u : SO}, look l n = some o → look (putO l n u) n = some u
  | [], n, o, u, h => by cases h
  | (m, x) :: r, n, o, u, h => by
    unfold putO
    unfold look at h
    cases e : Nat.beq m n with
    | true => simp [look, e]
    | false =>
      rw [e] at h
      simp only [Bool.false_eq_true, if_false, look, e]
      exact look_putO_same (l := r) (by simpa using h)
theorem look_putO_ne : ∀ {l : List (Nat × SO)} {n m : Nat} {u : SO}, m ≠ n → look (putO l n u) m = look l m
  | [], n, m, u, h => rfl
  | (j, x) :: r, n, m, u, h => by
    unfold putO
    cases e : Nat.beq j n with
    | true =>
      have ej : j = n := Nat.eq_of_beq_eq_true e
      have e2 : Nat.beq j m = false := by
        cases q : Nat.beq j m with
        | false => rfl
        | true => exact absurd ((Nat.eq_of_beq_eq_true q).symm.trans ej) h
      simp [look, e2]
    | false =>
      simp only [Bool.false_eq_true, if_false, look]
      cases Nat.beq j m with
      | true => rfl
      | false => simpa using look_putO_ne (l := r) h
theorem get_put {S : Store} {n : Nat} {o u : SO} (h : S.get n = some o) : (S.put n u).get n = some u := look_putO_same h
theorem get_put_ne {S : Store} {n m : Nat} {u : SO} (h : m ≠ n) : (S.put n u).get m = S.get m := look_putO_ne h
theorem get_new {S : Store} {o : SO} : (S.new o).get S.next = some o := by
  show look ((S.next, o) :: S.objs) S.next = some o
  simp [look]
theorem get_new_ne {S : Store} {o : SO} {m : Nat} (h : m ≠ S.next) : (S.new o).get m = S.get m := by
  show look ((S.next, o) :: S.objs) m = look S.objs m
  have : Nat.beq S.next m = false := by
    cases q : Nat.beq S.next m with
    | false => rfl
    | true => exact absurd (Nat.eq_of_beq_eq_true q).symm h
  simp [look, this]
@[simp] theorem next_put {S : Store} {n : Nat} {u : SO} : (S.put n u).next = S.next := rfl
@[simp] theorem next_new {S : Store} {o : SO} : (S.new o).next = S.next + 1 := rfl
def Wf (S : Store) : Prop := ∀ m o, S.get m = some o → m < S.next
theorem wf_put {S : Store} {n : Nat} {o u : SO} (h : S.get n = some o) (w : Wf S) : Wf (S.put n u) := fun m x e => by
  by_cases q : m = n
  · rw [q]; exact w n o h
  · rw [get_put_ne q] at e; exact w m x e
theorem wf_new {S : Store} {o : SO} (w : Wf S) : Wf (S.new o) := fun m x e => by
  by_cases q : m = S.next
  · rw [q]; exact Nat.lt_succ_self _
  · rw [get_new_ne q] at e; exact Nat.lt_succ_of_lt (w m x e)
theorem wf_ne {S : Store} {n : Nat} {o : SO} (w : Wf S) (h : S.get n = some o) : n ≠ S.next := Nat.ne_of_lt (w n o h)
/-- all but n and k is as it was -/
structure Keep (n k : Nat) (S S' : Store) : Prop where
  nx : S.next ≤ S'.next
  kp : ∀ m, m < S.next → m ≠ n → m ≠ k → S'.get m = S.get m
theorem Keep.refl {n k : Nat} {S : Store} : Keep n k S S := ⟨Nat.le_refl _, fun _ _ _ _ => rfl⟩
theorem Keep.trans {n k : Nat} {S S1 S2 : Store} (a : Keep n k S S1) (b : Keep n k S1 S2) : Keep n k S S2 := ⟨Nat.le_trans a.nx b.nx, fun m h h1 h2 => (b.kp m (Nat.lt_of_lt_of_le h a.nx) h1 h2).trans (a.kp m h h1 h2)⟩
/-- the deal: a list of a list of numbers and a number -/
structure Deal (n k : Nat) (S : Store) : Prop where
  ne : n ≠ k
  wf : Wf S
  ex : ∃ (xs : List Int) (c : Int), S.get n = some (.lst [.ref k, .int c]) ∧ S.get k = some (.lst (xs.map W.int)) ∧ (∀ x ∈ xs, 0 ≤ x) ∧ xs.length ≤ 100 ∧ 0 ≤ c
theorem dles_ints : ∀ (m : Nat) (xs : List Int), dles m (xs.map W.int) = true
  | _, [] => by simp [dles]
  | m, x :: r => by simp [dles, dle, dles_ints m r]
theorem dle_ints (m : Nat) (xs : List Int) : dle (m + 1) (.lst (xs.map W.int)) = true := by simp [dle, dles_ints]
def drawM (a b dv : Int) : MF := fnOf 2 3 (sSeq (sWhile (Mir.tAnd (Mir.tB (eBin opNe (eBin opIdx (eVar 0) (eC (.int 0))) (eLst aNil))) (Mir.tB (eBin opEq (eBin opIdx (eBin opIdx (eVar 0) (eC (.int 0))) (eUn opNeg (eC (.int 1)))) (eC (.int 0))))) (sExpr (eMtL (m0 mPop) (eBin opIdx (eVar 0) (eC (.int 0))) aNil)) 1000) (sSeq (sIf (Mir.tB (eBin opNe (eBin opIdx (eVar 0) (eC (.int 0))) (eLst aNil))) (sSeq (sAsg (.nm 2) (eMtL (m0 mPop) (eBin opIdx (eVar 0) (eC (.int 0))) aNil)) (sSeq (sExpr (eMtL (m1 mAppend) (eBin opIdx (eVar 0) (eC (.int 0))) (aCons (eBin opDiv (eVar 2) (eVar 1)) aNil))) (sRet (eBin opMod (eCall fInt (aCons (eVar 2) aNil)) (eVar 1))))) sNext) (sSeq (sIdx (eVar 0) (eC (.int 1)) (eBin opMod (eCall fInt (aCons (eBin opAdd (eBin opMul (eBin opIdx (eVar 0) (eC (.int 1))) (eC (.int a))) (eC (.int b))) aNil)) (eC (.int 2147483647)))) (sRet (eBin opMod (eCall fInt (aCons (eBin opDiv (eBin opIdx (eVar 0) (eC (.int 1))) (eC (.int dv))) aNil)) (eVar 1))))))
section
variable {S : Store} {n k : Nat} {c : Int} {d : DEnv} {xs : List Int}
theorem idx0 (hd : getS d 0 = some (.ref n)) (hn : S.get n = some (.lst [.ref k, .int c])) : eBin opIdx (eVar 0) (eC (.int 0)) d S = .ok (.ref k) S := by
  simp [eBin, eVar, hd, Out.bind, eC, opIdx, seqOf, hn, atI, ixN, oks]
theorem idx1 (hd : getS d 0 = some (.ref n)) (hn : S.get n = some (.lst [.ref k, .int c])) : eBin opIdx (eVar 0) (eC (.int 1)) d S = .ok (.int c) S := by
  simp [eBin, eVar, hd, Out.bind, eC, opIdx, seqOf, hn, atI, ixN, oks]
theorem ne_nil (hd : getS d 0 = some (.ref n)) (hn : S.get n = some (.lst [.ref k, .int c])) (hk : S.get k = some (.lst (xs.map W.int))) :
    eBin opNe (eBin opIdx (eVar 0) (eC (.int 0))) (eLst aNil) d S = .ok (.bl (!xs.isEmpty)) S := by
  have e := idx0 hd hn
  unfold eBin at e ⊢
  rw [e]
  cases xs with
  | nil => simp [Out.bind, eLst, aNil, opNe, rd, hk, eqD, dle, dles, eqW, eqWs, bW]
  | cons x r =>
    have := dle_ints 29 (x :: r)
    simp only [List.map_cons] at this hk
    simp [Out.bind, eLst, aNil, opNe, rd, hk, eqD, this, eqW, eqWs, bW, dle, dles]
theorem at_last (hd : getS d 0 = some (.ref n)) (hn : S.get n = some (.lst [.ref k, .int c])) {y : Int} (hk : S.get k = some (.lst ((xs ++ [y]).map W.int))) :
    eBin opEq (eBin opIdx (eBin opIdx (eVar 0) (eC (.int 0))) (eUn opNeg (eC (.int 1)))) (eC (.int 0)) d S = .ok (.bl (decide (y = 0))) S := by
  have e := idx0 hd hn
  have e2 : eBin opIdx (eBin opIdx (eVar 0) (eC (.int 0))) (eUn opNeg (eC (.int 1))) d S = .ok (.int y) S := by
    show ((eBin opIdx (eVar 0) (eC (.int 0)) d S).bind fun x S1 => ((eUn opNeg (eC (.int 1))) d S1).bind fun y S2 => opIdx x y S2) = _
    rw [e]
    have hl : ixN ((xs ++ [y]).map W.int).length (-1) = some xs.length := by
      unfold ixN
      rw [if_neg (by decide), if_pos (by simp; omega)]
      simp
      omega
    simp only [Out.bind, eUn, eC, opNeg, opIdx, seqOf, hk, atI, hl]
    simp [oks]
  show ((eBin opIdx (eBin opIdx (eVar 0) (eC (.int 0))) (eUn opNeg (eC (.int 1))) d S).bind fun x S1 => ((eC (.int 0)) d S1).bind fun y S2 => opEq x y S2) = _
  rw [e2]
  simp [Out.bind, eC, opEq, rd, eqD, dle, eqW, bW]
theorem pop_at {d : DEnv} (hd : getS d 0 = some (.ref n)) (hn : S.get n = some (.lst [.ref k, .int c])) {y : Int} (hk : S.get k = some (.lst ((xs ++ [y]).map W.int))) :
    eMtL (m0 mPop) (eBin opIdx (eVar 0) (eC (.int 0))) aNil d S = .ok (.int y) (S.put k (.lst (xs.map W.int))) := by
  unfold eMtL
  rw [idx0 hd hn]
  simp [Out.bind, Mir.isL, hk, aNil, m0, mPop]
/-- the zeros at the end are dropped -/
theorem while_tr (hd : getS d 0 = some (.ref n)) (hne : n ≠ k) : ∀ (fuel : Nat) (xs : List Int) (S : Store), xs.length < fuel → Wf S → S.get n = some (.lst [.ref k, .int c]) → S.get k = some (.lst (xs.map W.int)) →
    Tr (sWhile (Mir.tAnd (Mir.tB (eBin opNe (eBin opIdx (eVar 0) (eC (.int 0))) (eLst aNil))) (Mir.tB (eBin opEq (eBin opIdx (eBin opIdx (eVar 0) (eC (.int 0))) (eUn opNeg (eC (.int 1)))) (eC (.int 0))))) (sExpr (eMtL (m0 mPop) (eBin opIdx (eVar 0) (eC (.int 0))) aNil)) fuel d S)
      fun f S' => f = .nx d ∧ ∃ ys : List Int, ys.length ≤ xs.length ∧ (∀ y ∈ ys, y ∈ xs) ∧ S'.next = S.next ∧ Wf S' ∧ S'.get n = some (.lst [.ref k, .int c]) ∧ S'.get k = some (.lst (ys.map W.int)) ∧ ∀ m, m ≠ k → S'.get m = S.get m
  | 0, xs, S, h, _, _, _ => absurd h (Nat.not_lt_zero _)
  | fuel + 1, xs, S, h, w, hn, hk => by
    unfold sWhile
    refine Tr.bind ?_
    unfold Mir.tAnd
    refine Tr.bind ?_
    unfold Mir.tB
    refine Tr.bind ?_
    rw [ne_nil hd hn hk]
    rcases List.eq_nil_or_concat xs with rfl | ⟨ys, y, rfl⟩
    · exact ⟨rfl, [], Nat.le_refl _, fun y hy => hy, rfl, w, hn, hk, fun _ _ => rfl⟩
    · simp only [List.concat_eq_append] at hk h ⊢
      have e1 : (!(ys ++ [y]).isEmpty) = true := by simp
      rw [e1]
      show Tr (Out.bind _ _) _
      refine Tr.bind ?_
      rw [at_last hd hn hk]
      by_cases hy : y = 0
      · rw [decide_eq_true hy]
        show Tr (Out.bind _ _) _
        refine Tr.bind ?_
        unfold sExpr
        refine Tr.bind ?_
        rw [pop_at hd hn hk]
        show Tr (sWhile _ _ fuel d _) _
        have hl : ys.length < fuel := by simp at h; omega
        refine (while_tr hd hne fuel ys (S.put k (.lst (ys.map W.int))) hl (wf_put hk w) ((get_put_ne hne).trans hn) (get_put hk)).imp ?_
        rintro f S' ⟨rfl, zs, h1, h2, h3, h4, h5, h6, h7⟩
        exact ⟨rfl, zs, by simp; omega, fun z hz => List.mem_append_left _ (h2 z hz), h3, h4, h5, h6, fun m hm => (h7 m hm).trans (get_put_ne hm)⟩
      · rw [decide_eq_false hy]
        exact ⟨rfl, ys ++ [y], Nat.le_refl _, fun z hz => hz, rfl, w, hn, hk, fun _ _ => rfl⟩
theorem draw_tr {a b dv many : Int} (ha : 0 ≤ a) (ha2 : a < 18446744073709551616) (hb : 0 ≤ b) (hv : 0 < dv) (hv2 : dv < 1073741824) (h : Deal n k S) (h0 : 0 < many) (h1 : many < 1073741824) :
    Tr (drawM a b dv [.ref n, .int many] S) fun v S' => (∃ i : Nat, v = .int i ∧ (i : Int) < many) ∧ Deal n k S' ∧ S'.next = S.next ∧ ∀ m, m ≠ n → m ≠ k → S'.get m = S.get m := by
  obtain ⟨xs, c, hn, hk, hx, hl, hc⟩ := h.ex
  have mm : ∀ z : Int, ∃ i : Nat, (z % many) = i ∧ (i : Int) < many := fun z => ⟨(z % many).toNat, (Int.toNat_of_nonneg (Int.emod_nonneg _ (by omega))).symm, by rw [Int.toNat_of_nonneg (Int.emod_nonneg _ (by omega))]; exact Int.emod_lt_of_pos _ h0⟩
  unfold drawM fnOf
  show Tr (Out.bind _ _) _
  refine Tr.bind ?_
  unfold sSeq
  refine Tr.bind ?_
  refine (while_tr (d := [some (.ref n), some (.int many), none]) (c := c) rfl h.ne 1000 xs S (by omega) h.wf hn hk).imp ?_
  rintro f S1 ⟨rfl, ys, l1, l2, l3, w1, n1, k1, o1⟩
  show Tr (Out.bind _ _) _
  refine Tr.bind ?_
  unfold sIf
  refine Tr.bind ?_
  unfold Mir.tB
  refine Tr.bind ?_
  rw [ne_nil (d := [some (.ref n), some (.int many), none]) rfl n1 k1]
  rcases List.eq_nil_or_concat ys with rfl | ⟨zs, z, rfl⟩
  · -- by mixing
    show Tr (Out.bind _ _) _
    refine Tr.bind ?_
    unfold sIdx
    refine Tr.bind ?_
    have e1 : eBin opMod (eCall fInt (aCons (eBin opAdd (eBin opMul (eBin opIdx (eVar 0) (eC (.int 1))) (eC (.int a))) (eC (.int b))) aNil)) (eC (.int 2147483647)) [some (.ref n), some (.int many), none] S1 = .ok (.int ((c * a + b) % 2147483647)) S1 := by
      have e := idx1 (d := [some (.ref n), some (.int many), none]) rfl n1
      have sm : small a = true := by simp [small]; omega
      have em : eBin opMul (eBin opIdx (eVar 0) (eC (.int 1))) (eC (.int a)) [some (.ref n), some (.int many), none] S1 = .ok (.int (c * a)) S1 := by
        show ((eBin opIdx (eVar 0) (eC (.int 1)) _ S1).bind _) = _
        rw [e]
        simp [Out.bind, eC, opMul, sm]
      have ea : eBin opAdd (eBin opMul (eBin opIdx (eVar 0) (eC (.int 1))) (eC (.int a))) (eC (.int b)) [some (.ref n), some (.int many), none] S1 = .ok (.int (c * a + b)) S1 := by
        show ((eBin opMul _ _ _ S1).bind _) = _
        rw [em]
        simp [Out.bind, eC, opAdd]
      show (((aCons _ _ _ S1).bind _).bind _) = _
      unfold aCons
      rw [ea]
      simp [Out.bind, aNil, fInt, eC, opMod]
    rw [e1]
    show Tr (Out.bind _ _) _
    refine Tr.bind ?_
    show Tr (Out.bind _ _) _
    refine Tr.bind ?_
    have es : setIdx (.ref n) (.int 1) (.int ((c * a + b) % 2147483647)) S1 = some (S1.put n (.lst [.ref k, .int ((c * a + b) % 2147483647)])) := by
      simp [setIdx, n1, ixN]
    show Tr (match setIdx (.ref n) (.int 1) (.int ((c * a + b) % 2147483647)) S1 with | some S4 => Out.ok (Fl.nx [some (.ref n), some (.int many), none]) S4 | none => Out.bad) _
    rw [es]
    show Tr (Out.bind _ _) _
    refine Tr.bind ?_
    have hc2 : 0 ≤ (c * a + b) % 2147483647 := Int.emod_nonneg _ (by decide)
    generalize hcc : (c * a + b) % 2147483647 = c2 at hc2
    have n2 : (S1.put n (.lst [.ref k, .int c2])).get n = some (.lst [.ref k, .int c2]) := get_put n1
    have e2 : eBin opMod (eCall fInt (aCons (eBin opDiv (eBin opIdx (eVar 0) (eC (.int 1))) (eC (.int dv))) aNil)) (eVar 1) [some (.ref n), some (.int many), none] (S1.put n (.lst [.ref k, .int c2])) = .ok (.int ((c2 / dv) % many)) (S1.put n (.lst [.ref k, .int c2])) := by
      have e := idx1 (d := [some (.ref n), some (.int many), none]) rfl n2
      have ed : eBin opDiv (eBin opIdx (eVar 0) (eC (.int 1))) (eC (.int dv)) [some (.ref n), some (.int many), none] (S1.put n (.lst [.ref k, .int c2])) = .ok (.int (c2 / dv)) (S1.put n (.lst [.ref k, .int c2])) := by
        show ((eBin opIdx (eVar 0) (eC (.int 1)) _ _).bind _) = _
        rw [e]
        simp [Out.bind, eC, opDiv, hv, hv2]
      show (((aCons _ _ _ _).bind _).bind _) = _
      unfold aCons
      rw [ed]
      simp [Out.bind, aNil, fInt, eVar, getS, opMod, h0]
    rw [e2]
    obtain ⟨i, ei, hi⟩ := mm (c2 / dv)
    refine ⟨⟨i, by rw [ei], hi⟩, ⟨h.ne, wf_put n1 w1, [], c2, n2, (get_put_ne (Ne.symm h.ne)).trans k1, by simp, by simp, hc2⟩, l3, fun m h1 h2 => (get_put_ne h1).trans (o1 m h2)⟩
  · simp only [List.concat_eq_append] at k1 l1 l2 ⊢
    have hz : 0 ≤ z := hx z (l2 z (by simp))
    have e1 : (!(zs ++ [z]).isEmpty) = true := by simp
    rw [e1]
    show Tr (Out.bind _ _) _
    refine Tr.bind ?_
    unfold sAsg
    refine Tr.bind ?_
    rw [pop_at (d := [some (.ref n), some (.int many), none]) rfl n1 k1]
    show Tr (Out.bind _ _) _
    refine Tr.bind ?_
    unfold sExpr
    refine Tr.bind ?_
    have n2 : (S1.put k (.lst (zs.map W.int))).get n = some (.lst [.ref k, .int c]) := (get_put_ne h.ne).trans n1
    have k2 : (S1.put k (.lst (zs.map W.int))).get k = some (.lst (zs.map W.int)) := get_put k1
    have lz : zs.length < 100 := by simp at l1; omega
    have e2 : eMtL (m1 mAppend) (eBin opIdx (eVar 0) (eC (.int 0))) (aCons (eBin opDiv (eVar 2) (eVar 1)) aNil) [some (.ref n), some (.int many), some (.int z)] (S1.put k (.lst (zs.map W.int))) =
        .ok .non ((S1.put k (.lst (zs.map W.int))).put k (.lst ((zs ++ [z / many]).map W.int))) := by
      unfold eMtL
      rw [idx0 (d := [some (.ref n), some (.int many), some (.int z)]) rfl n2]
      have : Nat.blt zs.length LIM = true := by
        show Nat.ble (zs.length + 1) LIM = true
        exact Nat.ble_eq_true_of_le (Nat.le_trans lz (by decide))
      simp [Out.bind, Mir.isL, k2, aCons, aNil, eBin, eVar, getS, opDiv, h0, h1, m1, mAppend, this]
    show Tr (eMtL (m1 mAppend) (eBin opIdx (eVar 0) (eC (.int 0))) (aCons (eBin opDiv (eVar 2) (eVar 1)) aNil) [some (.ref n), some (.int many), some (.int z)] (S1.put k (.lst (zs.map W.int)))) _
    rw [e2]
    show Tr (Out.bind _ _) _
    refine Tr.bind ?_
    obtain ⟨i, ei, hi⟩ := mm z
    have e3 : eBin opMod (eCall fInt (aCons (eVar 2) aNil)) (eVar 1) [some (.ref n), some (.int many), some (.int z)] ((S1.put k (.lst (zs.map W.int))).put k (.lst ((zs ++ [z / many]).map W.int))) = .ok (.int i) ((S1.put k (.lst (zs.map W.int))).put k (.lst ((zs ++ [z / many]).map W.int))) := by
      simp [eBin, eCall, aCons, aNil, eVar, getS, Out.bind, fInt, opMod, h0, ei]
    show Tr (eBin opMod (eCall fInt (aCons (eVar 2) aNil)) (eVar 1) [some (.ref n), some (.int many), some (.int z)] _) _
    rw [e3]
    refine ⟨⟨i, rfl, hi⟩, ⟨h.ne, wf_put k2 (wf_put k1 w1), zs ++ [z / many], c, (get_put_ne h.ne).trans n2, get_put k2, fun x hx' => ?_, by simp; omega, hc⟩, l3, fun m h1 h2 => (get_put_ne h2).trans ((get_put_ne h2).trans (o1 m h2))⟩
    rcases List.mem_append.mp hx' with q | q
    · exact hx x (l2 x (List.mem_append_left _ q))
    · rw [List.mem_singleton.mp q]
      exact Int.ediv_nonneg hz (by omega)
end
end ML
set_option linter.all false
/-! ML2: walks, the deal, picks, mixed lists. -/
namespace ML
open Mir MW
theorem look_dropO_ne : ∀ {l : List (Nat × SO)} {n m : Nat}, m ≠ n → look (dropO l n) m = look l m
  | [], n, m, h => rfl
  | (j, x) :: r, n, m, h => by
    unfold dropO
    cases e : Nat.beq j n with
    | true =>
      have ej : j = n := Nat.eq_of_beq_eq_true e
      have e2 : Nat.beq j m = false := by
        cases q : Nat.beq j m with
        | false => rfl
        | true => exact absurd ((Nat.eq_of_beq_eq_true q).symm.trans ej) h
      simp [look, e2]
    | false =>
      simp only [Bool.false_eq_true, if_false, look]
      cases Nat.beq j m with
      | true => rfl
      | false => simpa using look_dropO_ne (l := r) h
theorem get_drop_ne {S : Store} {n m : Nat} (h : m ≠ n) : (S.drop n).get m = S.get m := look_dropO_ne h
@[simp] theorem next_drop {S : Store} {n : Nat} : (S.drop n).next = S.next := rfl
theorem wf_drop {S : Store} {n : Nat} {o : SO} (h : S.get n = some o) (w : Wf S) : Wf (S.drop n) := fun m x e => by
  by_cases q : m = n
  · rw [q]; exact w n o h
  · rw [get_drop_ne q] at e; exact w m x e
/-! ### walks -/
theorem for_tr {g : Gd} {tg : Tg} {b : MS} {Q : Fl → Store → Prop} (I : List W → DEnv → Store → Prop)
    (hs : ∀ x r d S, I (x :: r) d S → still S g = true ∧ ∃ d1, stTg tg x d = some d1 ∧ Tr (b d1 S) fun f S1 => match f with
      | .nx d2 => I r d2 S1
      | .ct d2 => I r d2 S1
      | .br d2 => Q (.nx d2) S1
      | .rt w => Q (.rt w) S1)
    (h0 : ∀ d S, I [] d S → still S g = true ∧ Q (.nx d) S) : ∀ (xs : List W) (d : DEnv) (S : Store), I xs d S → Tr (forGo g tg b xs d S) Q
  | [], d, S, h => by
    obtain ⟨a, b⟩ := h0 d S h
    unfold forGo
    rw [if_pos a]
    exact b
  | x :: r, d, S, h => by
    obtain ⟨a, d1, e, q⟩ := hs x r d S h
    unfold forGo
    rw [if_pos a, e]
    refine Tr.bind (q.imp fun f S1 z => ?_)
    cases f with
    | nx d2 => exact for_tr I hs h0 r d2 S1 z
    | ct d2 => exact for_tr I hs h0 r d2 S1 z
    | br d2 => exact z
    | rt w => exact z
/-- a comprehension of plain things -/
theorem lc_pure {i : Nat} {c : MT} {e : ME} {d : DEnv} {S : Store} {p : W → Bool} {f : W → W} : ∀ (xs : List W), (∀ x ∈ xs, c (setS d i (some x)) S = .ok (p x) S) → (∀ x ∈ xs, p x = true → e (setS d i (some x)) S = .ok (f x) S) →
    lcGo [] (.nm i) c e d xs S = .ok ((xs.filter p).map f) S
  | [], _, _ => rfl
  | x :: r, hc, he => by
    have ih := lc_pure (i := i) (c := c) (e := e) (d := d) (S := S) (p := p) (f := f) r (fun y hy => hc y (List.mem_cons_of_mem _ hy)) (fun y hy => he y (List.mem_cons_of_mem _ hy))
    unfold lcGo
    have h1 := hc x (List.mem_cons_self ..)
    simp only [still, if_true, stTg, h1, Out.bind]
    cases q : p x with
    | false => simp [q, ih]
    | true =>
      have h2 := he x (List.mem_cons_self ..) q
      simp [h2, ih, q, Out.bind]
theorem lcL_pure {own : List Nat} {it : MI} {i : Nat} {c : MT} {e : ME} {d : DEnv} {S : Store} {p : W → Bool} {f : W → W} {xs : List W} (hi : it d S = .ok (xs, []) S) (hl : xs.length ≤ LIM) (hc : ∀ x ∈ xs, c (setS (wipeS d own) i (some x)) S = .ok (p x) S)
    (he : ∀ x ∈ xs, p x = true → e (setS (wipeS d own) i (some x)) S = .ok (f x) S) : lcL own it (.nm i) c e d S = .ok ((xs.filter p).map f) S := by
  unfold lcL
  rw [hi]
  simp only [Out.bind, Nat.ble_eq_true_of_le hl, if_true]
  exact lc_pure xs hc he
/-- a comprehension with an invariant: P by what is gathered -/
theorem lc_tr {tg : Tg} {c : MT} {e : ME} {d : DEnv} {g : Gd} {Q : List W → Store → Prop} (I : List W → List W → Store → Prop)
    (hs : ∀ x r acc S, I (x :: r) acc S → still S g = true ∧ ∃ d1, stTg tg x d = some d1 ∧ Tr (c d1 S) fun b S1 => if b then Tr (e d1 S1) fun y S2 => I r (acc ++ [y]) S2 else I r acc S1)
    (h0 : ∀ acc S, I [] acc S → still S g = true ∧ Q acc S) : ∀ (xs acc : List W) (S : Store), I xs acc S → Tr (lcGo g tg c e d xs S) fun ys S' => Q (acc ++ ys) S'
  | [], acc, S, h => by
    obtain ⟨a, b⟩ := h0 acc S h
    unfold lcGo
    rw [if_pos a]
    show Q (acc ++ []) S
    rw [List.append_nil]
    exact b
  | x :: r, acc, S, h => by
    obtain ⟨a, d1, e1, q⟩ := hs x r acc S h
    unfold lcGo
    rw [if_pos a, e1]
    refine Tr.bind (q.imp fun b S1 z => ?_)
    cases b with
    | false => exact lc_tr I hs h0 r acc S1 z
    | true =>
      refine Tr.bind (Tr.imp z fun y S2 z2 => ?_)
      refine Tr.bind ((lc_tr I hs h0 r (acc ++ [y]) S2 z2).imp fun ys S3 z3 => ?_)
      show Q (acc ++ (y :: ys)) S3
      rw [List.append_assoc] at z3
      exact z3
end ML
set_option linter.all false
/-! ML3: the deal of the laws. -/
namespace ML
open Mir MW
theorem cut_map {α β : Type} (f : α → β) (xs : List α) (l h : Option Int) : cut (xs.map f) l h = (cut xs l h).map f := by
  unfold cut
  rw [List.length_map, List.map_take, List.map_drop]
theorem cut_len {α : Type} (xs : List α) (l h : Option Int) : (cut xs l h).length ≤ xs.length := by
  unfold cut
  rw [List.length_take, List.length_drop]
  omega
def absI (i : Int) : Int := if i < 0 then -i else i
theorem absI_nn (i : Int) : 0 ≤ absI i := by unfold absI; split <;> omega
def absW : W → W
  | .int i => .int (absI i)
  | w => w
def dealA (c0 c1 mul md add hi : Int) : MF := fnOf 2 5 (sSeq (sAsg (.nm 2) (eLc [3] (iSeq (eSl sl (eVar 0) (oSome (eVar 1)) (oSome (eC (.int hi))))) (.nm 3) Mir.tYes (eCall fAbs (aCons (eCall fInt (aCons (eVar 3) aNil)) aNil)))) (sSeq (sAsg (.nm 4) (eBin opAdd (eC (.int c0)) (eBin opMul (eC (.int c1)) (eVar 1)))) (sSeq (sFor (iSeq (eVar 2)) (.nm 3) (sAsg (.nm 4) (eBin opMod (eCall fInt (aCons (eBin opAdd (eBin opAdd (eBin opMul (eVar 4) (eC (.int mul))) (eBin opMod (eCall fInt (aCons (eVar 3) aNil)) (eC (.int md)))) (eC (.int add))) aNil)) (eC (.int 2147483647))))) (sRet (eLstM (aCons (eUn opRevM (eLc [3] (iSeq (eVar 2)) (.nm 3) (Mir.tB (eBin opGe (eVar 3) (eBin opPow (eC (.int 10)) (eC (.int 18))))) (eVar 3))) (aCons (eVar 4) aNil)))))))
theorem small_of {a : Int} (h : 0 ≤ a) (h2 : a < 18446744073709551616) : small a = true := by
  unfold small
  rw [decide_eq_true (by omega), decide_eq_true h2] <;> rfl
theorem deal_tr {c0 c1 mul md add hi base : Int} (h0 : 0 ≤ c0) (h1 : 0 ≤ c1) (h1' : c1 < 18446744073709551616) (hm : 0 ≤ mul) (hm' : mul < 18446744073709551616) (hd : 0 < md) (hb : 0 ≤ base) {S : Store} (w : Wf S) (ns : List Int) (hl : ns.length ≤ 63) :
    Tr (dealA c0 c1 mul md add hi [.lsr (ns.map W.int), .int base] S) fun v S' => v = .ref (S.next + 1) ∧ Deal (S.next + 1) S.next S' ∧ S'.next = S.next + 2 ∧ ∀ m, m < S.next → S'.get m = S.get m := by
  unfold dealA fnOf
  show Tr (Out.bind _ _) _
  refine Tr.bind ?_
  show Tr (Out.bind _ _) _
  refine Tr.bind ?_
  show Tr (Out.bind _ _) _
  refine Tr.bind ?_
  show Tr (Out.bind _ _) _
  refine Tr.bind ?_
  have lc := cut_len ns (some base) (some hi)
  generalize hz : cut ns (some base) (some hi) = zs at lc
  have e1 : lcL [3] (iSeq (eSl sl (eVar 0) (oSome (eVar 1)) (oSome (eC (.int hi))))) (.nm 3) Mir.tYes (eCall fAbs (aCons (eCall fInt (aCons (eVar 3) aNil)) aNil)) [some (.lsr (ns.map W.int)), some (.int base), none, none, none] S = .ok ((((zs.map W.int)).filter fun _ => true).map absW) S := by
    refine lcL_pure (xs := zs.map W.int) ?_ ?_ (fun x hx => rfl) (fun x hx _ => ?_)
    · simp [iSeq, eSl, eVar, getS, oSome, eC, Out.bind, sl, itOf, oks, cut_map, hz]
    · rw [List.length_map]
      exact Nat.le_trans lc (Nat.le_trans hl (by decide))
    · obtain ⟨i, _, rfl⟩ := List.mem_map.mp hx
      simp [eCall, aCons, aNil, eVar, getS, setS, wipeS, Out.bind, fInt, fAbs, absW, absI]
  show Tr (lcL _ _ _ _ _ [some (.lsr (ns.map W.int)), some (.int base), none, none, none] S) _
  rw [e1]
  have e2 : (((zs.map W.int)).filter fun _ => true).map absW = (zs.map absI).map W.int := by
    rw [List.filter_eq_self.mpr (by simp), List.map_map, List.map_map]
    rfl
  rw [e2]
  have nn : ∀ z ∈ zs.map absI, 0 ≤ z := fun z hz => by
    obtain ⟨i, _, rfl⟩ := List.mem_map.mp hz
    exact absI_nn i
  have ll : (zs.map absI).length ≤ 63 := by rw [List.length_map]; omega
  generalize hq : zs.map absI = ws at nn ll
  -- the first number
  show Tr (Out.bind _ _) _
  refine Tr.bind ?_
  have e3 : sAsg (.nm 4) (eBin opAdd (eC (.int c0)) (eBin opMul (eC (.int c1)) (eVar 1))) [some (.lsr (ns.map W.int)), some (.int base), some (.lst (ws.map W.int)), none, none] S = .ok (.nx [some (.lsr (ns.map W.int)), some (.int base), some (.lst (ws.map W.int)), none, some (.int (c0 + c1 * base))]) S := by
    simp [sAsg, eBin, eC, eVar, getS, setS, Out.bind, opAdd, opMul, small_of h1 h1', stTg]
  show Tr (sAsg (.nm 4) (eBin opAdd (eC (.int c0)) (eBin opMul (eC (.int c1)) (eVar 1))) [some (.lsr (ns.map W.int)), some (.int base), some (.lst (ws.map W.int)), none, none] S) _
  rw [e3]
  show Tr (Out.bind _ _) _
  refine Tr.bind ?_
  -- the loop
  have e4 : iSeq (eVar 2) [some (.lsr (ns.map W.int)), some (.int base), some (.lst (ws.map W.int)), none, some (.int (c0 + c1 * base))] S = .ok (ws.map W.int, []) S := by simp [iSeq, eVar, getS, Out.bind, itOf, oks]
  unfold sFor
  rw [e4]
  refine (for_tr (Q := fun f S' => S' = S ∧ ∃ x3 m, f = .nx [some (.lsr (ns.map W.int)), some (.int base), some (.lst (ws.map W.int)), x3, some (.int m)] ∧ 0 ≤ m)
    (fun r d S' => S' = S ∧ (∀ x ∈ r, ∃ i, x = W.int i) ∧ ∃ x3 m, d = [some (.lsr (ns.map W.int)), some (.int base), some (.lst (ws.map W.int)), x3, some (.int m)] ∧ 0 ≤ m) ?_ ?_ (ws.map W.int) _ S
    ⟨rfl, fun x hx => by obtain ⟨i, _, rfl⟩ := List.mem_map.mp hx; exact ⟨i, rfl⟩, none, _, rfl, Int.add_nonneg h0 (Int.mul_nonneg h1 hb)⟩).imp ?_
  · rintro x r d S' ⟨rfl, hx, x3, m, rfl, hm0⟩
    obtain ⟨i, rfl⟩ := hx x (List.mem_cons_self ..)
    refine ⟨rfl, _, rfl, ?_⟩
    have e5 : sAsg (.nm 4) (eBin opMod (eCall fInt (aCons (eBin opAdd (eBin opAdd (eBin opMul (eVar 4) (eC (.int mul))) (eBin opMod (eCall fInt (aCons (eVar 3) aNil)) (eC (.int md)))) (eC (.int add))) aNil)) (eC (.int 2147483647)))
        [some (.lsr (ns.map W.int)), some (.int base), some (.lst (ws.map W.int)), some (.int i), some (.int m)] S' = .ok (.nx [some (.lsr (ns.map W.int)), some (.int base), some (.lst (ws.map W.int)), some (.int i), some (.int ((m * mul + i % md + add) % 2147483647))]) S' := by
      simp [sAsg, eBin, eCall, aCons, aNil, eC, eVar, getS, setS, Out.bind, opAdd, opMul, opMod, small_of hm hm', hd, fInt, stTg]
    show Tr (sAsg (.nm 4) _ [some (.lsr (ns.map W.int)), some (.int base), some (.lst (ws.map W.int)), some (.int i), some (.int m)] S') _
    rw [e5]
    exact ⟨rfl, fun y hy => hx y (List.mem_cons_of_mem _ hy), _, _, rfl, Int.emod_nonneg _ (by decide)⟩
  · rintro d S' ⟨rfl, _, x3, m, rfl, hm0⟩
    exact ⟨rfl, rfl, x3, m, rfl, hm0⟩
  · rintro f S' ⟨rfl, x3, m, rfl, hm0⟩
    show Tr (Out.bind _ _) _
    refine Tr.bind ?_
    show Tr (Out.bind _ _) _
    refine Tr.bind ?_
    show Tr (Out.bind _ _) _
    refine Tr.bind ?_
    show Tr (Out.bind _ _) _
    refine Tr.bind ?_
    show Tr (Out.bind _ _) _
    refine Tr.bind ?_
    have e6 : lcL [3] (iSeq (eVar 2)) (.nm 3) (Mir.tB (eBin opGe (eVar 3) (eBin opPow (eC (.int 10)) (eC (.int 18))))) (eVar 3) [some (.lsr (ns.map W.int)), some (.int base), some (.lst (ws.map W.int)), x3, some (.int m)] S' =
        .ok (((ws.map W.int).filter fun x => match x with | .int i => decide ((10 : Int) ^ 18 ≤ i) | _ => false).map id) S' := by
      refine lcL_pure (xs := ws.map W.int) ?_ ?_ (fun x hx => ?_) (fun x hx _ => ?_)
      · simp [iSeq, eVar, getS, Out.bind, itOf, oks]
      · rw [List.length_map]
        exact Nat.le_trans ll (by decide)
      · obtain ⟨i, _, rfl⟩ := List.mem_map.mp hx
        simp [Mir.tB, eBin, eVar, getS, setS, wipeS, Out.bind, eC, opPow, opGe, opLe]
      · simp [eVar, getS, setS, wipeS]
    show Tr (lcL _ _ _ _ _ [some (.lsr (ns.map W.int)), some (.int base), some (.lst (ws.map W.int)), x3, some (.int m)] S') _
    rw [e6]
    have e7 : ((ws.map W.int).filter fun x => match x with | .int i => decide ((10 : Int) ^ 18 ≤ i) | _ => false).map id = (ws.filter fun i => decide ((10 : Int) ^ 18 ≤ i)).map W.int := by
      rw [List.map_id, List.filter_map]
      rfl
    rw [e7]
    generalize hv : (ws.filter fun i => decide ((10 : Int) ^ 18 ≤ i)) = vs
    have hvs : ∀ v ∈ vs, 0 ≤ v := fun v hv' => nn v (by rw [← hv] at hv'; exact (List.mem_filter.mp hv').1)
    have hvl : vs.length ≤ 63 := by rw [← hv]; exact Nat.le_trans (List.length_filter_le _ _) ll
    have g1 : (S'.new (.lst (vs.map W.int).reverse)).get S'.next = some (.lst (vs.map W.int).reverse) := get_new
    refine ⟨rfl, ⟨Nat.succ_ne_self _, wf_new (wf_new w), vs.reverse, m, get_new, ?_, fun x hx => hvs x (List.mem_reverse.mp hx), by rw [List.length_reverse]; omega, hm0⟩, rfl, fun j hj => ?_⟩
    · rw [get_new_ne (Nat.ne_of_lt (Nat.lt_succ_self _)), g1, List.map_reverse]
    · rw [get_new_ne (Nat.ne_of_lt (Nat.lt_succ_of_lt hj)), get_new_ne (Nat.ne_of_lt hj)]
end ML
set_option linter.all false
/-! MLr: rules for Tr, one for each combinator. -/
namespace ML
open Mir MW
section
variable {α : Type} {d : DEnv} {S : Store} {Q : W → Store → Prop} {QB : Bool → Store → Prop} {QL : List W → Store → Prop} {QF : Fl → Store → Prop}
theorem tr_eq {r : Out α} {a : α} {S' : Store} {Q : α → Store → Prop} (e : r = .ok a S') (h : Q a S') : Tr r Q := by rw [e]; exact h
theorem tr_ok {a : α} {Q : α → Store → Prop} (h : Q a S) : Tr (.ok a S) Q := h
theorem tr_oks {o : Option α} {a : α} {Q : α → Store → Prop} (e : o = some a) (h : Q a S) : Tr (oks o S) Q := by rw [e]; exact h
theorem tr_var {i : Nat} {w : W} (e : getS d i = some w) (h : Q w S) : Tr (eVar i d S) Q := by
  unfold eVar
  rw [e]
  exact h
theorem tr_c {w : W} (h : Q w S) : Tr (eC w d S) Q := h
theorem tr_un {f : W → Store → Out W} {a : ME} (h : Tr (a d S) fun x S1 => Tr (f x S1) Q) : Tr (eUn f a d S) Q := Tr.bind h
theorem tr_bin {f : W → W → Store → Out W} {a b : ME} (h : Tr (a d S) fun x S1 => Tr (b d S1) fun y S2 => Tr (f x y S2) Q) : Tr (eBin f a b d S) Q := Tr.bind (h.imp fun _ _ k => Tr.bind k)
theorem tr_nil (h : QL [] S) : Tr (aNil d S) QL := h
theorem tr_cons {a : ME} {r : MA} (h : Tr (a d S) fun x S1 => Tr (r d S1) fun xs S2 => QL (x :: xs) S2) : Tr (aCons a r d S) QL := Tr.bind (h.imp fun _ _ k => Tr.bind k)
theorem tr_call {f : MF} {a : MA} (h : Tr (a d S) fun xs S1 => Tr (f xs S1) Q) : Tr (eCall f a d S) Q := Tr.bind h
theorem tr_tup {a : MA} (h : Tr (a d S) fun xs S1 => xs.length ≤ LIM ∧ Q (.tup xs) S1) : Tr (eTup a d S) Q := Tr.bind (h.imp fun xs S1 k => by show Tr (if Nat.ble xs.length LIM then .ok (.tup xs) S1 else .bad) Q; rw [if_pos (Nat.ble_eq_true_of_le k.1)]; exact k.2)
theorem tr_lst {a : MA} (h : Tr (a d S) fun xs S1 => xs.length ≤ LIM ∧ Q (.lst xs) S1) : Tr (eLst a d S) Q := Tr.bind (h.imp fun xs S1 k => by show Tr (if Nat.ble xs.length LIM then .ok (.lst xs) S1 else .bad) Q; rw [if_pos (Nat.ble_eq_true_of_le k.1)]; exact k.2)
theorem tr_lstM {a : MA} (h : Tr (a d S) fun xs S1 => xs.length ≤ LIM ∧ Q (.ref S1.next) (S1.new (.lst xs))) : Tr (eLstM a d S) Q := Tr.bind (h.imp fun xs S1 k => by show Tr (if Nat.ble xs.length LIM then .ok (.ref S1.next) (S1.new (.lst xs)) else .bad) Q; rw [if_pos (Nat.ble_eq_true_of_le k.1)]; exact k.2)
theorem tr_mtL {f : W → List W → Store → Out W} {o : ME} {a : MA} (h : Tr (o d S) fun x S1 => Mir.isL x S1 = true ∧ Tr (a d S1) fun xs S2 => Tr (f x xs S2) Q) : Tr (eMtL f o a d S) Q := Tr.bind (h.imp fun x S1 k => by rw [if_pos k.1]; exact Tr.bind k.2)
theorem tr_mtS {f : W → List W → Store → Out W} {o : ME} {a : MA} (h : Tr (o d S) fun x S1 => Mir.isS x = true ∧ Tr (a d S1) fun xs S2 => Tr (f x xs S2) Q) : Tr (eMtS f o a d S) Q := Tr.bind (h.imp fun x S1 k => by rw [if_pos k.1]; exact Tr.bind k.2)
theorem tr_frz {a : ME} (h : Tr (a d S) fun x S1 => Tr (frz S1 x) Q) : Tr (eFrz a d S) Q := Tr.bind h
theorem tr_isi {sup : Nat → List Nat} {ts : List Ty} {a : ME} (h : Tr (a d S) fun x S1 => ∃ b, anyTy sup S1 x ts = some b ∧ Q (.bl b) S1) : Tr (eIsi sup ts a d S) Q := Tr.bind (h.imp fun x S1 ⟨b, e, k⟩ => by rw [e]; exact k)
theorem tr_fmt {a : ME} (h : Tr (a d S) fun x S1 => ∃ z, fmt x = some z ∧ Q (.str z) S1) : Tr (eFmt a d S) Q := Tr.bind (h.imp fun x S1 ⟨z, e, k⟩ => by rw [e]; exact k)
theorem tr_and {a b : ME} (h : Tr (a d S) fun x S1 => (x = .bl true ∧ Tr (b d S1) Q) ∨ (x = .bl false ∧ Q (.bl false) S1)) : Tr (eAnd a b d S) Q := Tr.bind (h.imp fun x S1 k => by
  rcases k with ⟨rfl, k⟩ | ⟨rfl, k⟩ <;> exact k)
theorem tr_or {a b : ME} (h : Tr (a d S) fun x S1 => (x = .bl true ∧ Q (.bl true) S1) ∨ (x = .bl false ∧ Tr (b d S1) Q)) : Tr (eOr a b d S) Q := Tr.bind (h.imp fun x S1 k => by
  rcases k with ⟨rfl, k⟩ | ⟨rfl, k⟩ <;> exact k)
theorem tr_not {a : ME} (h : Tr (a d S) fun x S1 => ∃ b, x = .bl b ∧ Q (.bl (!b)) S1) : Tr (eNot a d S) Q := Tr.bind (h.imp fun x S1 ⟨b, e, k⟩ => by subst e; exact k)
/-! tests -/
theorem tr_tB {a : ME} (h : Tr (a d S) fun x S1 => ∃ b, x = .bl b ∧ QB b S1) : Tr (Mir.tB a d S) QB := Tr.bind (h.imp fun x S1 ⟨b, e, k⟩ => by subst e; exact k)
theorem tr_tAnd {a b : MT} (h : Tr (a d S) fun x S1 => if x then Tr (b d S1) QB else QB false S1) : Tr (Mir.tAnd a b d S) QB := Tr.bind (h.imp fun x S1 k => by cases x <;> exact k)
theorem tr_tOr {a b : MT} (h : Tr (a d S) fun x S1 => if x then QB true S1 else Tr (b d S1) QB) : Tr (Mir.tOr a b d S) QB := Tr.bind (h.imp fun x S1 k => by cases x <;> exact k)
theorem tr_tNot {a : MT} (h : Tr (a d S) fun x S1 => QB (!x) S1) : Tr (Mir.tNot a d S) QB := Tr.bind h
theorem tr_tYes (h : QB true S) : Tr (Mir.tYes d S) QB := h
/-! statements -/
theorem tr_next (h : QF (.nx d) S) : Tr (sNext d S) QF := h
theorem tr_seq {a b : MS} (h : Tr (a d S) fun f S1 => match f with | .nx d1 => Tr (b d1 S1) QF | f => QF f S1) : Tr (sSeq a b d S) QF := Tr.bind (h.imp fun f S1 k => by cases f <;> exact k)
theorem tr_asg {i : Nat} {a : ME} (h : Tr (a d S) fun x S1 => QF (.nx (setS d i (some x))) S1) : Tr (sAsg (.nm i) a d S) QF := Tr.bind h
theorem tr_asg2 {i j : Nat} {a : ME} (h : Tr (a d S) fun x S1 => ∃ y z, x = .tup [y, z] ∧ QF (.nx (setS (setS d i (some y)) j (some z))) S1) : Tr (sAsg (.tp [.nm i, .nm j]) a d S) QF := Tr.bind (h.imp fun x S1 ⟨y, z, e, k⟩ => by subst e; exact k)
theorem tr_expr {a : ME} (h : Tr (a d S) fun _ S1 => QF (.nx d) S1) : Tr (sExpr a d S) QF := Tr.bind h
theorem tr_ret {a : ME} (h : Tr (a d S) fun x S1 => QF (.rt x) S1) : Tr (sRet a d S) QF := Tr.bind h
theorem tr_if {t : MT} {a b : MS} (h : Tr (t d S) fun x S1 => if x then Tr (a d S1) QF else Tr (b d S1) QF) : Tr (sIf t a b d S) QF := Tr.bind (h.imp fun x S1 k => by cases x <;> exact k)
theorem tr_fld {k : Nat} {o a : ME} (h : Tr (a d S) fun v S1 => Tr (o d S1) fun x S2 => ∃ S3, setFld k x v S2 = some S3 ∧ QF (.nx d) S3) : Tr (Mir.sFld k o a d S) QF := Tr.bind (h.imp fun v S1 k1 => Tr.bind (k1.imp fun x S2 ⟨S3, e, k2⟩ => by rw [e]; exact k2))
theorem tr_fn {np n : Nat} {b : MS} {xs : List W} (d : DEnv) (hl : xs.length = np) (hd : xs.map some ++ List.replicate (n - xs.length) none = d) (h : Tr (b d S) fun f S1 => match f with | .nx _ => Q .non S1 | .rt w => Q w S1 | _ => False) : Tr (fnOf np n b xs S) Q := by
  subst hd
  unfold fnOf
  have e : Nat.beq xs.length np = true := by rw [hl]; exact Nat.beq_refl _
  rw [e]
  refine Tr.bind (h.imp fun f S1 k => ?_)
  cases f with
  | nx d => exact k
  | rt w => exact k
  | br d => exact k.elim
  | ct d => exact k.elim
theorem tr_while {t : MT} {b : MS} {n : Nat} (h : Tr (t d S) fun x S1 => if x then (Tr (b d S1) fun f S2 => match f with | .nx d2 => Tr (sWhile t b n d2 S2) QF | .ct d2 => Tr (sWhile t b n d2 S2) QF | .br d2 => QF (.nx d2) S2 | .rt w => QF (.rt w) S2) else QF (.nx d) S1) : Tr (sWhile t b (n + 1) d S) QF := Tr.bind (h.imp fun x S1 k => by
  cases x with
  | false => exact k
  | true =>
    refine Tr.bind (Tr.imp k fun f S2 k2 => ?_)
    cases f <;> exact k2)
theorem tr_for {it : MI} {tg : Tg} {b : MS} (h : Tr (it d S) fun p S1 => Tr (forGo p.2 tg b p.1 d S1) QF) : Tr (sFor it tg b d S) QF := Tr.bind h
theorem tr_iSeq {a : ME} {QP : List W × Gd → Store → Prop} (h : Tr (a d S) fun x S1 => ∃ p, itOf S1 x = some p ∧ QP p S1) : Tr (iSeq a d S) QP := Tr.bind (h.imp fun x S1 ⟨p, e, k⟩ => by rw [e]; exact k)
theorem tr_lc {own : List Nat} {it : MI} {tg : Tg} {c : MT} {e : ME} (h : Tr (lcL own it tg c e d S) fun ys S1 => Q (.lst ys) S1) : Tr (eLc own it tg c e d S) Q := Tr.bind h
theorem tr_lcM {own : List Nat} {it : MI} {tg : Tg} {c : MT} {e : ME} (h : Tr (lcL own it tg c e d S) fun ys S1 => Q (.ref S1.next) (S1.new (.lst ys))) : Tr (eLcM own it tg c e d S) Q := Tr.bind h
theorem tr_lcL {own : List Nat} {it : MI} {tg : Tg} {c : MT} {e : ME} (h : Tr (it d S) fun p S1 => p.1.length ≤ LIM ∧ Tr (lcGo p.2 tg c e (wipeS d own) p.1 S1) QL) : Tr (lcL own it tg c e d S) QL := Tr.bind (h.imp fun p S1 k => by rw [if_pos (Nat.ble_eq_true_of_le k.1)]; exact k.2)
theorem tr_sl {f : W → Option Int → Option Int → Store → Out W} {a : ME} {lo hi : MO} (h : Tr (a d S) fun x S1 => Tr (lo d S1) fun l S2 => Tr (hi d S2) fun h S3 => Tr (f x l h S3) Q) : Tr (eSl f a lo hi d S) Q := Tr.bind (h.imp fun _ _ k => Tr.bind (k.imp fun _ _ k2 => Tr.bind k2))
theorem tr_oN {QO : Option Int → Store → Prop} (h : QO none S) : Tr (oNone d S) QO := h
theorem tr_oS {a : ME} {QO : Option Int → Store → Prop} (h : Tr (a d S) fun x S1 => ∃ i, x = .int i ∧ QO (some i) S1) : Tr (oSome a d S) QO := Tr.bind (h.imp fun x S1 ⟨i, e, k⟩ => by subst e; exact k)
theorem tr_itc {c : Bool} {p q : Prop} (e : c = true) (h : p) : (if c = true then p else q) := by rw [if_pos e]; exact h
theorem tr_iec {c : Bool} {p q : Prop} (e : c = false) (h : q) : (if c = true then p else q) := by rw [e]; exact h
theorem tr_it {p q : Prop} (h : p) : (if true = true then p else q) := h
theorem tr_ie {p q : Prop} (h : q) : (if false = true then p else q) := h
end
end ML
set_option linter.all false
/-! ML4: picks and mixed lists. -/
namespace ML
open Mir MW
/-- what a draw leaves -/
structure Left (n k : Nat) (S S' : Store) : Prop where
  deal : Deal n k S'
  nx : S'.next = S.next
  kp : ∀ m, m ≠ n → m ≠ k → S'.get m = S.get m
theorem Left.trans {n k : Nat} {S S1 S2 : Store} (a : Left n k S S1) (b : Left n k S1 S2) : Left n k S S2 := ⟨b.deal, b.nx.trans a.nx, fun m h1 h2 => (b.kp m h1 h2).trans (a.kp m h1 h2)⟩
theorem Left.keep {n k : Nat} {S S' : Store} (a : Left n k S S') : Keep n k S S' := ⟨Nat.le_of_eq a.nx.symm, fun m _ h1 h2 => a.kp m h1 h2⟩
def DrawOk (dr : MF) : Prop := ∀ (n k : Nat) (S : Store) (many : Int), Deal n k S → 0 < many → many < 1073741824 → Tr (dr [.ref n, .int many] S) fun v S' => (∃ i : Nat, v = .int i ∧ (i : Int) < many) ∧ Left n k S S'
theorem drawM_ok {a b dv : Int} (ha : 0 ≤ a) (ha2 : a < 18446744073709551616) (hb : 0 ≤ b) (hv : 0 < dv) (hv2 : dv < 1073741824) : DrawOk (drawM a b dv) := fun n k S many h h0 h1 =>
  (draw_tr ha ha2 hb hv hv2 h h0 h1).imp fun v S' ⟨q1, q2, q3, q4⟩ => ⟨q1, q2, q3, q4⟩
def pickM (dr : MF) : MF := fnOf 2 2 (sRet (eBin opIdx (eVar 1) (eCall dr (aCons (eVar 0) (aCons (eCall fLen (aCons (eVar 1) aNil)) aNil)))))
def mixedM (dr : MF) : MF := fnOf 2 4 (sSeq (sAsg (.tp [.nm 2, .nm 3]) (eTup (aCons (eCall fListM (aCons (eVar 1) aNil)) (aCons (eLstM aNil) aNil)))) (sSeq (sWhile (Mir.tB (eBin opNe (eVar 2) (eLst aNil))) (sExpr (eMtL (m1 mAppend) (eVar 3) (aCons (eMtL (m1 mPopAt) (eVar 2) (aCons (eCall dr (aCons (eVar 0) (aCons (eCall fLen (aCons (eVar 2) aNil)) aNil))) aNil)) aNil))) 1000) (sRet (eFrz (eVar 3)))))
theorem atI_nat {α : Type} {xs : List α} {i : Nat} (h : i < xs.length) : atI xs (i : Int) = xs[i]? := by
  unfold atI ixN
  rw [if_pos (by omega), if_pos (by omega)]
  simp
theorem ixN_nat {n i : Nat} (h : i < n) : ixN n (i : Int) = some i := by
  unfold ixN
  rw [if_pos (by omega), if_pos (by omega)]
  simp
theorem erase_perm {α : Type} : ∀ {xs : List α} {i : Nat} (h : i < xs.length), (xs[i] :: xs.eraseIdx i).Perm xs
  | [], i, h => absurd h (Nat.not_lt_zero _)
  | x :: r, 0, h => by simp
  | x :: r, i + 1, h => by
    have h' : i < r.length := Nat.lt_of_succ_lt_succ h
    simp only [List.getElem_cons_succ, List.eraseIdx_cons_succ]
    exact (List.Perm.swap _ _ _).trans ((erase_perm h').cons x)
section
variable {dr : MF} {n k : Nat} {S : Store}
theorem pick_tr (hdr : DrawOk dr) (h : Deal n k S) {xs : List W} (h0 : xs ≠ []) (h1 : xs.length < 1073741824) : Tr (pickM dr [.ref n, .lst xs] S) fun v S' => v ∈ xs ∧ Left n k S S' := by
  have hp : 0 < xs.length := by
    cases xs with
    | nil => exact absurd rfl h0
    | cons _ _ => exact Nat.succ_pos _
  refine tr_fn [some (.ref n), some (.lst xs)] rfl rfl ?_
  repeat (first | with_reducible refine tr_seq ?_ | with_reducible refine tr_asg ?_ | with_reducible refine tr_asg2 ?_ | with_reducible refine tr_expr ?_ | with_reducible refine tr_ret ?_ | with_reducible refine tr_if ?_ | with_reducible refine tr_next ?_ | with_reducible refine tr_c ?_ | with_reducible refine tr_bin ?_ | with_reducible refine tr_un ?_ | with_reducible refine tr_cons ?_ | with_reducible refine tr_nil ?_ | with_reducible refine tr_call ?_ | with_reducible refine tr_tB ?_ | with_reducible refine tr_tAnd ?_ | with_reducible refine tr_tOr ?_ | with_reducible refine tr_tNot ?_ | with_reducible refine tr_tYes ?_ | with_reducible refine tr_mtL ?_ | with_reducible refine tr_mtS ?_ | with_reducible refine tr_sl ?_ | with_reducible refine tr_oN ?_ | with_reducible refine tr_oS ?_ | with_reducible refine tr_lc ?_ | with_reducible refine tr_lcM ?_ | with_reducible refine tr_for ?_ | with_reducible refine tr_frz ?_ | with_reducible refine tr_tup ?_ | with_reducible refine tr_lst ?_ | with_reducible refine tr_lstM ?_ | with_reducible refine tr_isi ?_ | with_reducible refine tr_fmt ?_ | with_reducible refine tr_and ?_ | with_reducible refine tr_or ?_ | with_reducible refine tr_not ?_ | with_reducible refine tr_iSeq ?_ | with_reducible refine tr_lcL ?_ | with_reducible refine tr_fld ?_ | with_reducible refine tr_it ?_ | with_reducible refine tr_ie ?_ | refine tr_var rfl ?_ | dsimp only [Bool.false_eq_true, if_true, if_false])
  have el : fLen [.lst xs] S = .ok (.int xs.length) S := by simp [fLen, seqOf]
  refine tr_eq el ?_
  repeat (first | with_reducible refine tr_seq ?_ | with_reducible refine tr_asg ?_ | with_reducible refine tr_asg2 ?_ | with_reducible refine tr_expr ?_ | with_reducible refine tr_ret ?_ | with_reducible refine tr_if ?_ | with_reducible refine tr_next ?_ | with_reducible refine tr_c ?_ | with_reducible refine tr_bin ?_ | with_reducible refine tr_un ?_ | with_reducible refine tr_cons ?_ | with_reducible refine tr_nil ?_ | with_reducible refine tr_call ?_ | with_reducible refine tr_tB ?_ | with_reducible refine tr_tAnd ?_ | with_reducible refine tr_tOr ?_ | with_reducible refine tr_tNot ?_ | with_reducible refine tr_tYes ?_ | with_reducible refine tr_mtL ?_ | with_reducible refine tr_mtS ?_ | with_reducible refine tr_sl ?_ | with_reducible refine tr_oN ?_ | with_reducible refine tr_oS ?_ | with_reducible refine tr_lc ?_ | with_reducible refine tr_lcM ?_ | with_reducible refine tr_for ?_ | with_reducible refine tr_frz ?_ | with_reducible refine tr_tup ?_ | with_reducible refine tr_lst ?_ | with_reducible refine tr_lstM ?_ | with_reducible refine tr_isi ?_ | with_reducible refine tr_fmt ?_ | with_reducible refine tr_and ?_ | with_reducible refine tr_or ?_ | with_reducible refine tr_not ?_ | with_reducible refine tr_iSeq ?_ | with_reducible refine tr_lcL ?_ | with_reducible refine tr_fld ?_ | with_reducible refine tr_it ?_ | with_reducible refine tr_ie ?_ | refine tr_var rfl ?_ | dsimp only [Bool.false_eq_true, if_true, if_false])
  refine (hdr n k S xs.length h (by omega) (by omega)).imp ?_
  rintro v S' ⟨⟨i, rfl, hi⟩, hl⟩
  have hi' : i < xs.length := by omega
  have e : opIdx (.lst xs) (.int i) S' = .ok xs[i] S' := by
    simp [opIdx, seqOf, atI_nat hi', oks, hi']
  exact tr_eq e ⟨List.getElem_mem hi', hl⟩
theorem mixed_while (hdr : DrawOk dr) {a b : Nat} (hab : a ≠ b) {x1 : Option W} : ∀ (fuel : Nat) (l f : List W) (S : Store), l.length < fuel → l.length + f.length ≤ 1000 → dles 29 l = true → Deal n k S → a ≠ n → a ≠ k → b ≠ n → b ≠ k → S.get a = some (.lst l) → S.get b = some (.lst f) →
    Tr (sWhile (Mir.tB (eBin opNe (eVar 2) (eLst aNil))) (sExpr (eMtL (m1 mAppend) (eVar 3) (aCons (eMtL (m1 mPopAt) (eVar 2) (aCons (eCall dr (aCons (eVar 0) (aCons (eCall fLen (aCons (eVar 2) aNil)) aNil))) aNil)) aNil))) fuel [some (.ref n), x1, some (.ref a), some (.ref b)] S)
      fun fl S' => fl = .nx [some (.ref n), x1, some (.ref a), some (.ref b)] ∧ ∃ f', (l ++ f).Perm f' ∧ S'.get b = some (.lst f') ∧ Deal n k S' ∧ S'.next = S.next ∧ ∀ m, m ≠ n → m ≠ k → m ≠ a → m ≠ b → S'.get m = S.get m
  | 0, l, f, S, h, _, _, _, _, _, _, _, _, _ => absurd h (Nat.not_lt_zero _)
  | fuel + 1, l, f, S, h, hlf, hd, D, an, ak, bn, bk, ga, gb => by
    refine tr_while ?_
    repeat (first | with_reducible refine tr_seq ?_ | with_reducible refine tr_asg ?_ | with_reducible refine tr_asg2 ?_ | with_reducible refine tr_expr ?_ | with_reducible refine tr_ret ?_ | with_reducible refine tr_if ?_ | with_reducible refine tr_next ?_ | with_reducible refine tr_c ?_ | with_reducible refine tr_bin ?_ | with_reducible refine tr_un ?_ | with_reducible refine tr_cons ?_ | with_reducible refine tr_nil ?_ | with_reducible refine tr_call ?_ | with_reducible refine tr_tB ?_ | with_reducible refine tr_tAnd ?_ | with_reducible refine tr_tOr ?_ | with_reducible refine tr_tNot ?_ | with_reducible refine tr_tYes ?_ | with_reducible refine tr_mtL ?_ | with_reducible refine tr_mtS ?_ | with_reducible refine tr_sl ?_ | with_reducible refine tr_oN ?_ | with_reducible refine tr_oS ?_ | with_reducible refine tr_lc ?_ | with_reducible refine tr_lcM ?_ | with_reducible refine tr_for ?_ | with_reducible refine tr_frz ?_ | with_reducible refine tr_tup ?_ | with_reducible refine tr_lst ?_ | with_reducible refine tr_lstM ?_ | with_reducible refine tr_isi ?_ | with_reducible refine tr_fmt ?_ | with_reducible refine tr_and ?_ | with_reducible refine tr_or ?_ | with_reducible refine tr_not ?_ | with_reducible refine tr_iSeq ?_ | with_reducible refine tr_lcL ?_ | with_reducible refine tr_fld ?_ | with_reducible refine tr_it ?_ | with_reducible refine tr_ie ?_ | refine tr_var rfl ?_ | dsimp only [Bool.false_eq_true, if_true, if_false])
    refine ⟨Nat.zero_le _, ?_⟩
    have ec : opNe (.ref a) (.lst []) S = .ok (.bl (!l.isEmpty)) S := by
      have dd : dle 30 (.lst l) = true := by simp [dle, hd]
      cases l with
      | nil => simp [opNe, rd, ga, eqD, dle, dles, eqW, eqWs, bW]
      | cons x r => simp [opNe, rd, ga, eqD, dd, dle, dles, eqW, eqWs, bW]
    refine tr_eq ec ⟨_, rfl, ?_⟩
    cases l with
    | nil => exact ⟨rfl, f, by simp, gb, D, rfl, fun _ _ _ _ _ => rfl⟩
    | cons x r =>
      have ib : Mir.isL (.ref b) S = true := by simp [Mir.isL, gb]
      have ia : Mir.isL (.ref a) S = true := by simp [Mir.isL, ga]
      have el : fLen [.ref a] S = .ok (.int ((x :: r).length : Nat)) S := by simp [fLen, seqOf, ga]
      show Tr (sExpr _ _ S) _
      repeat (first | with_reducible refine tr_seq ?_ | with_reducible refine tr_asg ?_ | with_reducible refine tr_asg2 ?_ | with_reducible refine tr_expr ?_ | with_reducible refine tr_ret ?_ | with_reducible refine tr_if ?_ | with_reducible refine tr_next ?_ | with_reducible refine tr_c ?_ | with_reducible refine tr_bin ?_ | with_reducible refine tr_un ?_ | with_reducible refine tr_cons ?_ | with_reducible refine tr_nil ?_ | with_reducible refine tr_call ?_ | with_reducible refine tr_tB ?_ | with_reducible refine tr_tAnd ?_ | with_reducible refine tr_tOr ?_ | with_reducible refine tr_tNot ?_ | with_reducible refine tr_tYes ?_ | with_reducible refine tr_mtL ?_ | with_reducible refine tr_mtS ?_ | with_reducible refine tr_sl ?_ | with_reducible refine tr_oN ?_ | with_reducible refine tr_oS ?_ | with_reducible refine tr_lc ?_ | with_reducible refine tr_lcM ?_ | with_reducible refine tr_for ?_ | with_reducible refine tr_frz ?_ | with_reducible refine tr_tup ?_ | with_reducible refine tr_lst ?_ | with_reducible refine tr_lstM ?_ | with_reducible refine tr_isi ?_ | with_reducible refine tr_fmt ?_ | with_reducible refine tr_and ?_ | with_reducible refine tr_or ?_ | with_reducible refine tr_not ?_ | with_reducible refine tr_iSeq ?_ | with_reducible refine tr_lcL ?_ | with_reducible refine tr_fld ?_ | with_reducible refine tr_it ?_ | with_reducible refine tr_ie ?_ | refine tr_var rfl ?_ | dsimp only [Bool.false_eq_true, if_true, if_false])
      refine ⟨ib, ?_⟩
      repeat (first | with_reducible refine tr_seq ?_ | with_reducible refine tr_asg ?_ | with_reducible refine tr_asg2 ?_ | with_reducible refine tr_expr ?_ | with_reducible refine tr_ret ?_ | with_reducible refine tr_if ?_ | with_reducible refine tr_next ?_ | with_reducible refine tr_c ?_ | with_reducible refine tr_bin ?_ | with_reducible refine tr_un ?_ | with_reducible refine tr_cons ?_ | with_reducible refine tr_nil ?_ | with_reducible refine tr_call ?_ | with_reducible refine tr_tB ?_ | with_reducible refine tr_tAnd ?_ | with_reducible refine tr_tOr ?_ | with_reducible refine tr_tNot ?_ | with_reducible refine tr_tYes ?_ | with_reducible refine tr_mtL ?_ | with_reducible refine tr_mtS ?_ | with_reducible refine tr_sl ?_ | with_reducible refine tr_oN ?_ | with_reducible refine tr_oS ?_ | with_reducible refine tr_lc ?_ | with_reducible refine tr_lcM ?_ | with_reducible refine tr_for ?_ | with_reducible refine tr_frz ?_ | with_reducible refine tr_tup ?_ | with_reducible refine tr_lst ?_ | with_reducible refine tr_lstM ?_ | with_reducible refine tr_isi ?_ | with_reducible refine tr_fmt ?_ | with_reducible refine tr_and ?_ | with_reducible refine tr_or ?_ | with_reducible refine tr_not ?_ | with_reducible refine tr_iSeq ?_ | with_reducible refine tr_lcL ?_ | with_reducible refine tr_fld ?_ | with_reducible refine tr_it ?_ | with_reducible refine tr_ie ?_ | refine tr_var rfl ?_ | dsimp only [Bool.false_eq_true, if_true, if_false])
      refine ⟨ia, ?_⟩
      repeat (first | with_reducible refine tr_seq ?_ | with_reducible refine tr_asg ?_ | with_reducible refine tr_asg2 ?_ | with_reducible refine tr_expr ?_ | with_reducible refine tr_ret ?_ | with_reducible refine tr_if ?_ | with_reducible refine tr_next ?_ | with_reducible refine tr_c ?_ | with_reducible refine tr_bin ?_ | with_reducible refine tr_un ?_ | with_reducible refine tr_cons ?_ | with_reducible refine tr_nil ?_ | with_reducible refine tr_call ?_ | with_reducible refine tr_tB ?_ | with_reducible refine tr_tAnd ?_ | with_reducible refine tr_tOr ?_ | with_reducible refine tr_tNot ?_ | with_reducible refine tr_tYes ?_ | with_reducible refine tr_mtL ?_ | with_reducible refine tr_mtS ?_ | with_reducible refine tr_sl ?_ | with_reducible refine tr_oN ?_ | with_reducible refine tr_oS ?_ | with_reducible refine tr_lc ?_ | with_reducible refine tr_lcM ?_ | with_reducible refine tr_for ?_ | with_reducible refine tr_frz ?_ | with_reducible refine tr_tup ?_ | with_reducible refine tr_lst ?_ | with_reducible refine tr_lstM ?_ | with_reducible refine tr_isi ?_ | with_reducible refine tr_fmt ?_ | with_reducible refine tr_and ?_ | with_reducible refine tr_or ?_ | with_reducible refine tr_not ?_ | with_reducible refine tr_iSeq ?_ | with_reducible refine tr_lcL ?_ | with_reducible refine tr_fld ?_ | with_reducible refine tr_it ?_ | with_reducible refine tr_ie ?_ | refine tr_var rfl ?_ | dsimp only [Bool.false_eq_true, if_true, if_false])
      refine tr_eq el ?_
      repeat (first | with_reducible refine tr_seq ?_ | with_reducible refine tr_asg ?_ | with_reducible refine tr_asg2 ?_ | with_reducible refine tr_expr ?_ | with_reducible refine tr_ret ?_ | with_reducible refine tr_if ?_ | with_reducible refine tr_next ?_ | with_reducible refine tr_c ?_ | with_reducible refine tr_bin ?_ | with_reducible refine tr_un ?_ | with_reducible refine tr_cons ?_ | with_reducible refine tr_nil ?_ | with_reducible refine tr_call ?_ | with_reducible refine tr_tB ?_ | with_reducible refine tr_tAnd ?_ | with_reducible refine tr_tOr ?_ | with_reducible refine tr_tNot ?_ | with_reducible refine tr_tYes ?_ | with_reducible refine tr_mtL ?_ | with_reducible refine tr_mtS ?_ | with_reducible refine tr_sl ?_ | with_reducible refine tr_oN ?_ | with_reducible refine tr_oS ?_ | with_reducible refine tr_lc ?_ | with_reducible refine tr_lcM ?_ | with_reducible refine tr_for ?_ | with_reducible refine tr_frz ?_ | with_reducible refine tr_tup ?_ | with_reducible refine tr_lst ?_ | with_reducible refine tr_lstM ?_ | with_reducible refine tr_isi ?_ | with_reducible refine tr_fmt ?_ | with_reducible refine tr_and ?_ | with_reducible refine tr_or ?_ | with_reducible refine tr_not ?_ | with_reducible refine tr_iSeq ?_ | with_reducible refine tr_lcL ?_ | with_reducible refine tr_fld ?_ | with_reducible refine tr_it ?_ | with_reducible refine tr_ie ?_ | refine tr_var rfl ?_ | dsimp only [Bool.false_eq_true, if_true, if_false])
      refine (hdr n k S ((x :: r).length : Nat) D (by simp only [List.length_cons]; omega) (by simp at hlf ⊢; omega)).imp ?_
      rintro v S1 ⟨⟨i, rfl, hi⟩, L⟩
      have hi' : i < (x :: r).length := by omega
      repeat (first | with_reducible refine tr_seq ?_ | with_reducible refine tr_asg ?_ | with_reducible refine tr_asg2 ?_ | with_reducible refine tr_expr ?_ | with_reducible refine tr_ret ?_ | with_reducible refine tr_if ?_ | with_reducible refine tr_next ?_ | with_reducible refine tr_c ?_ | with_reducible refine tr_bin ?_ | with_reducible refine tr_un ?_ | with_reducible refine tr_cons ?_ | with_reducible refine tr_nil ?_ | with_reducible refine tr_call ?_ | with_reducible refine tr_tB ?_ | with_reducible refine tr_tAnd ?_ | with_reducible refine tr_tOr ?_ | with_reducible refine tr_tNot ?_ | with_reducible refine tr_tYes ?_ | with_reducible refine tr_mtL ?_ | with_reducible refine tr_mtS ?_ | with_reducible refine tr_sl ?_ | with_reducible refine tr_oN ?_ | with_reducible refine tr_oS ?_ | with_reducible refine tr_lc ?_ | with_reducible refine tr_lcM ?_ | with_reducible refine tr_for ?_ | with_reducible refine tr_frz ?_ | with_reducible refine tr_tup ?_ | with_reducible refine tr_lst ?_ | with_reducible refine tr_lstM ?_ | with_reducible refine tr_isi ?_ | with_reducible refine tr_fmt ?_ | with_reducible refine tr_and ?_ | with_reducible refine tr_or ?_ | with_reducible refine tr_not ?_ | with_reducible refine tr_iSeq ?_ | with_reducible refine tr_lcL ?_ | with_reducible refine tr_fld ?_ | with_reducible refine tr_it ?_ | with_reducible refine tr_ie ?_ | refine tr_var rfl ?_ | dsimp only [Bool.false_eq_true, if_true, if_false])
      have ga1 : S1.get a = some (.lst (x :: r)) := (L.kp a an ak).trans ga
      have gb1 : S1.get b = some (.lst f) := (L.kp b bn bk).trans gb
      have ep : m1 mPopAt (.ref a) [.int i] S1 = .ok (x :: r)[i] (S1.put a (.lst ((x :: r).eraseIdx i))) := by
        simp only [m1, mPopAt, ga1, ixN_nat hi', List.getElem?_eq_getElem hi']
      refine tr_eq ep ?_
      repeat (first | with_reducible refine tr_seq ?_ | with_reducible refine tr_asg ?_ | with_reducible refine tr_asg2 ?_ | with_reducible refine tr_expr ?_ | with_reducible refine tr_ret ?_ | with_reducible refine tr_if ?_ | with_reducible refine tr_next ?_ | with_reducible refine tr_c ?_ | with_reducible refine tr_bin ?_ | with_reducible refine tr_un ?_ | with_reducible refine tr_cons ?_ | with_reducible refine tr_nil ?_ | with_reducible refine tr_call ?_ | with_reducible refine tr_tB ?_ | with_reducible refine tr_tAnd ?_ | with_reducible refine tr_tOr ?_ | with_reducible refine tr_tNot ?_ | with_reducible refine tr_tYes ?_ | with_reducible refine tr_mtL ?_ | with_reducible refine tr_mtS ?_ | with_reducible refine tr_sl ?_ | with_reducible refine tr_oN ?_ | with_reducible refine tr_oS ?_ | with_reducible refine tr_lc ?_ | with_reducible refine tr_lcM ?_ | with_reducible refine tr_for ?_ | with_reducible refine tr_frz ?_ | with_reducible refine tr_tup ?_ | with_reducible refine tr_lst ?_ | with_reducible refine tr_lstM ?_ | with_reducible refine tr_isi ?_ | with_reducible refine tr_fmt ?_ | with_reducible refine tr_and ?_ | with_reducible refine tr_or ?_ | with_reducible refine tr_not ?_ | with_reducible refine tr_iSeq ?_ | with_reducible refine tr_lcL ?_ | with_reducible refine tr_fld ?_ | with_reducible refine tr_it ?_ | with_reducible refine tr_ie ?_ | refine tr_var rfl ?_ | dsimp only [Bool.false_eq_true, if_true, if_false])
      have gb2 : (S1.put a (.lst ((x :: r).eraseIdx i))).get b = some (.lst f) := (get_put_ne (Ne.symm hab)).trans gb1
      have ea : m1 mAppend (.ref b) [(x :: r)[i]] (S1.put a (.lst ((x :: r).eraseIdx i))) = .ok .non ((S1.put a (.lst ((x :: r).eraseIdx i))).put b (.lst (f ++ [(x :: r)[i]]))) := by
        have : Nat.blt f.length LIM = true := by
          show Nat.ble (f.length + 1) LIM = true
          exact Nat.ble_eq_true_of_le (Nat.le_trans (show f.length + 1 ≤ 1001 by simp at hlf; omega) (by decide))
        simp only [m1, mAppend, gb2, this, if_true]
      refine tr_eq ea ?_
      repeat (first | with_reducible refine tr_seq ?_ | with_reducible refine tr_asg ?_ | with_reducible refine tr_asg2 ?_ | with_reducible refine tr_expr ?_ | with_reducible refine tr_ret ?_ | with_reducible refine tr_if ?_ | with_reducible refine tr_next ?_ | with_reducible refine tr_c ?_ | with_reducible refine tr_bin ?_ | with_reducible refine tr_un ?_ | with_reducible refine tr_cons ?_ | with_reducible refine tr_nil ?_ | with_reducible refine tr_call ?_ | with_reducible refine tr_tB ?_ | with_reducible refine tr_tAnd ?_ | with_reducible refine tr_tOr ?_ | with_reducible refine tr_tNot ?_ | with_reducible refine tr_tYes ?_ | with_reducible refine tr_mtL ?_ | with_reducible refine tr_mtS ?_ | with_reducible refine tr_sl ?_ | with_reducible refine tr_oN ?_ | with_reducible refine tr_oS ?_ | with_reducible refine tr_lc ?_ | with_reducible refine tr_lcM ?_ | with_reducible refine tr_for ?_ | with_reducible refine tr_frz ?_ | with_reducible refine tr_tup ?_ | with_reducible refine tr_lst ?_ | with_reducible refine tr_lstM ?_ | with_reducible refine tr_isi ?_ | with_reducible refine tr_fmt ?_ | with_reducible refine tr_and ?_ | with_reducible refine tr_or ?_ | with_reducible refine tr_not ?_ | with_reducible refine tr_iSeq ?_ | with_reducible refine tr_lcL ?_ | with_reducible refine tr_fld ?_ | with_reducible refine tr_it ?_ | with_reducible refine tr_ie ?_ | refine tr_var rfl ?_ | dsimp only [Bool.false_eq_true, if_true, if_false])
      have el2 : ((x :: r).eraseIdx i).length + 1 = (x :: r).length := by rw [List.length_eraseIdx_of_lt hi']; simp
      have pm : (x :: r).Perm ((x :: r)[i] :: (x :: r).eraseIdx i) := (erase_perm hi').symm
      have hd2 : dles 29 ((x :: r).eraseIdx i) = true := by
        have aux : ∀ (l : List W), dles 29 l = true ↔ ∀ y ∈ l, dle 29 y = true := fun l => by
          induction l with
          | nil => simp [dles]
          | cons y t ih => simp [dles, ih]
        rw [aux] at hd ⊢
        exact fun y hy => hd y (List.mem_of_mem_eraseIdx hy)
      have D2 : Deal n k ((S1.put a (.lst ((x :: r).eraseIdx i))).put b (.lst (f ++ [(x :: r)[i]]))) := by
        obtain ⟨xs, c, q1, q2, q3, q4, q5⟩ := L.deal.ex
        exact ⟨D.ne, wf_put gb2 (wf_put ga1 L.deal.wf), xs, c, (get_put_ne (Ne.symm bn)).trans ((get_put_ne (Ne.symm an)).trans q1), (get_put_ne (Ne.symm bk)).trans ((get_put_ne (Ne.symm ak)).trans q2), q3, q4, q5⟩
      refine (mixed_while hdr hab fuel ((x :: r).eraseIdx i) (f ++ [(x :: r)[i]]) _ (by omega) (by rw [List.length_append]; simp only [List.length_cons, List.length_nil] at hlf el2 ⊢; omega) hd2 D2 an ak bn bk ((get_put_ne hab).trans (get_put ga1)) (get_put gb2)).imp ?_
      rintro fl S' ⟨rfl, f', p1, g1, D3, n3, k3⟩
      refine ⟨rfl, f', ?_, g1, D3, n3.trans L.nx, fun m h1 h2 h3 h4 => (k3 m h1 h2 h3 h4).trans ((get_put_ne h4).trans ((get_put_ne h3).trans (L.kp m h1 h2)))⟩
      refine List.Perm.trans ?_ p1
      refine (pm.append_right f).trans ?_
      rw [← List.append_assoc]
      simp only [List.cons_append]
      exact (List.perm_append_singleton _ _).symm
/-- the list, mixed -/
theorem mixed_tr (hdr : DrawOk dr) (h : Deal n k S) {xs : List W} (hl : xs.length ≤ 900) (hd : dles 29 xs = true) : Tr (mixedM dr [.ref n, .lst xs] S) fun v S' => ∃ ys, v = .lst ys ∧ xs.Perm ys ∧ Deal n k S' ∧ Keep n k S S' ∧ S'.next = S.next + 2 := by
  obtain ⟨zs, c, q1, q2, q3, q4, q5⟩ := h.ex
  have hn := h.wf _ _ q1
  have hk := h.wf _ _ q2
  refine tr_fn [some (.ref n), some (.lst xs), none, none] rfl rfl ?_
  repeat (first | with_reducible refine tr_seq ?_ | with_reducible refine tr_asg ?_ | with_reducible refine tr_asg2 ?_ | with_reducible refine tr_expr ?_ | with_reducible refine tr_ret ?_ | with_reducible refine tr_if ?_ | with_reducible refine tr_next ?_ | with_reducible refine tr_c ?_ | with_reducible refine tr_bin ?_ | with_reducible refine tr_un ?_ | with_reducible refine tr_cons ?_ | with_reducible refine tr_nil ?_ | with_reducible refine tr_call ?_ | with_reducible refine tr_tB ?_ | with_reducible refine tr_tAnd ?_ | with_reducible refine tr_tOr ?_ | with_reducible refine tr_tNot ?_ | with_reducible refine tr_tYes ?_ | with_reducible refine tr_mtL ?_ | with_reducible refine tr_mtS ?_ | with_reducible refine tr_sl ?_ | with_reducible refine tr_oN ?_ | with_reducible refine tr_oS ?_ | with_reducible refine tr_lc ?_ | with_reducible refine tr_lcM ?_ | with_reducible refine tr_for ?_ | with_reducible refine tr_frz ?_ | with_reducible refine tr_tup ?_ | with_reducible refine tr_lst ?_ | with_reducible refine tr_lstM ?_ | with_reducible refine tr_isi ?_ | with_reducible refine tr_fmt ?_ | with_reducible refine tr_and ?_ | with_reducible refine tr_or ?_ | with_reducible refine tr_not ?_ | with_reducible refine tr_iSeq ?_ | with_reducible refine tr_lcL ?_ | with_reducible refine tr_fld ?_ | with_reducible refine tr_it ?_ | with_reducible refine tr_ie ?_ | refine tr_var rfl ?_ | dsimp only [Bool.false_eq_true, if_true, if_false])
  have e1 : fListM [.lst xs] S = .ok (.ref S.next) (S.new (.lst xs)) := by simp [fListM, seqOf]
  refine tr_eq e1 ?_
  repeat (first | with_reducible refine tr_seq ?_ | with_reducible refine tr_asg ?_ | with_reducible refine tr_asg2 ?_ | with_reducible refine tr_expr ?_ | with_reducible refine tr_ret ?_ | with_reducible refine tr_if ?_ | with_reducible refine tr_next ?_ | with_reducible refine tr_c ?_ | with_reducible refine tr_bin ?_ | with_reducible refine tr_un ?_ | with_reducible refine tr_cons ?_ | with_reducible refine tr_nil ?_ | with_reducible refine tr_call ?_ | with_reducible refine tr_tB ?_ | with_reducible refine tr_tAnd ?_ | with_reducible refine tr_tOr ?_ | with_reducible refine tr_tNot ?_ | with_reducible refine tr_tYes ?_ | with_reducible refine tr_mtL ?_ | with_reducible refine tr_mtS ?_ | with_reducible refine tr_sl ?_ | with_reducible refine tr_oN ?_ | with_reducible refine tr_oS ?_ | with_reducible refine tr_lc ?_ | with_reducible refine tr_lcM ?_ | with_reducible refine tr_for ?_ | with_reducible refine tr_frz ?_ | with_reducible refine tr_tup ?_ | with_reducible refine tr_lst ?_ | with_reducible refine tr_lstM ?_ | with_reducible refine tr_isi ?_ | with_reducible refine tr_fmt ?_ | with_reducible refine tr_and ?_ | with_reducible refine tr_or ?_ | with_reducible refine tr_not ?_ | with_reducible refine tr_iSeq ?_ | with_reducible refine tr_lcL ?_ | with_reducible refine tr_fld ?_ | with_reducible refine tr_it ?_ | with_reducible refine tr_ie ?_ | refine tr_var rfl ?_ | dsimp only [Bool.false_eq_true, if_true, if_false])
  refine ⟨by decide, ?_⟩
  repeat (first | with_reducible refine tr_seq ?_ | with_reducible refine tr_asg ?_ | with_reducible refine tr_asg2 ?_ | with_reducible refine tr_expr ?_ | with_reducible refine tr_ret ?_ | with_reducible refine tr_if ?_ | with_reducible refine tr_next ?_ | with_reducible refine tr_c ?_ | with_reducible refine tr_bin ?_ | with_reducible refine tr_un ?_ | with_reducible refine tr_cons ?_ | with_reducible refine tr_nil ?_ | with_reducible refine tr_call ?_ | with_reducible refine tr_tB ?_ | with_reducible refine tr_tAnd ?_ | with_reducible refine tr_tOr ?_ | with_reducible refine tr_tNot ?_ | with_reducible refine tr_tYes ?_ | with_reducible refine tr_mtL ?_ | with_reducible refine tr_mtS ?_ | with_reducible refine tr_sl ?_ | with_reducible refine tr_oN ?_ | with_reducible refine tr_oS ?_ | with_reducible refine tr_lc ?_ | with_reducible refine tr_lcM ?_ | with_reducible refine tr_for ?_ | with_reducible refine tr_frz ?_ | with_reducible refine tr_tup ?_ | with_reducible refine tr_lst ?_ | with_reducible refine tr_lstM ?_ | with_reducible refine tr_isi ?_ | with_reducible refine tr_fmt ?_ | with_reducible refine tr_and ?_ | with_reducible refine tr_or ?_ | with_reducible refine tr_not ?_ | with_reducible refine tr_iSeq ?_ | with_reducible refine tr_lcL ?_ | with_reducible refine tr_fld ?_ | with_reducible refine tr_it ?_ | with_reducible refine tr_ie ?_ | refine tr_var rfl ?_ | dsimp only [Bool.false_eq_true, if_true, if_false])
  refine ⟨by show 2 ≤ LIM; decide, _, _, rfl, ?_⟩
  repeat (first | with_reducible refine tr_seq ?_ | with_reducible refine tr_asg ?_ | with_reducible refine tr_asg2 ?_ | with_reducible refine tr_expr ?_ | with_reducible refine tr_ret ?_ | with_reducible refine tr_if ?_ | with_reducible refine tr_next ?_ | with_reducible refine tr_c ?_ | with_reducible refine tr_bin ?_ | with_reducible refine tr_un ?_ | with_reducible refine tr_cons ?_ | with_reducible refine tr_nil ?_ | with_reducible refine tr_call ?_ | with_reducible refine tr_tB ?_ | with_reducible refine tr_tAnd ?_ | with_reducible refine tr_tOr ?_ | with_reducible refine tr_tNot ?_ | with_reducible refine tr_tYes ?_ | with_reducible refine tr_mtL ?_ | with_reducible refine tr_mtS ?_ | with_reducible refine tr_sl ?_ | with_reducible refine tr_oN ?_ | with_reducible refine tr_oS ?_ | with_reducible refine tr_lc ?_ | with_reducible refine tr_lcM ?_ | with_reducible refine tr_for ?_ | with_reducible refine tr_frz ?_ | with_reducible refine tr_tup ?_ | with_reducible refine tr_lst ?_ | with_reducible refine tr_lstM ?_ | with_reducible refine tr_isi ?_ | with_reducible refine tr_fmt ?_ | with_reducible refine tr_and ?_ | with_reducible refine tr_or ?_ | with_reducible refine tr_not ?_ | with_reducible refine tr_iSeq ?_ | with_reducible refine tr_lcL ?_ | with_reducible refine tr_fld ?_ | with_reducible refine tr_it ?_ | with_reducible refine tr_ie ?_ | refine tr_var rfl ?_ | dsimp only [Bool.false_eq_true, if_true, if_false])
  have D2 : Deal n k ((S.new (.lst xs)).new (.lst [])) := ⟨h.ne, wf_new (wf_new h.wf), zs, c, (get_new_ne (by simp; omega)).trans ((get_new_ne (by omega)).trans q1), (get_new_ne (by simp; omega)).trans ((get_new_ne (by omega)).trans q2), q3, q4, q5⟩
  refine (mixed_while (x1 := some (.lst xs)) hdr (a := S.next) (b := S.next + 1) (by omega) 1000 xs [] _ (by omega) (by simp; omega) hd D2 (by omega) (by omega) (by omega) (by omega) ((get_new_ne (by simp)).trans get_new) get_new).imp ?_
  rintro fl S' ⟨rfl, f', p1, g1, D3, n3, k3⟩
  repeat (first | with_reducible refine tr_seq ?_ | with_reducible refine tr_asg ?_ | with_reducible refine tr_asg2 ?_ | with_reducible refine tr_expr ?_ | with_reducible refine tr_ret ?_ | with_reducible refine tr_if ?_ | with_reducible refine tr_next ?_ | with_reducible refine tr_c ?_ | with_reducible refine tr_bin ?_ | with_reducible refine tr_un ?_ | with_reducible refine tr_cons ?_ | with_reducible refine tr_nil ?_ | with_reducible refine tr_call ?_ | with_reducible refine tr_tB ?_ | with_reducible refine tr_tAnd ?_ | with_reducible refine tr_tOr ?_ | with_reducible refine tr_tNot ?_ | with_reducible refine tr_tYes ?_ | with_reducible refine tr_mtL ?_ | with_reducible refine tr_mtS ?_ | with_reducible refine tr_sl ?_ | with_reducible refine tr_oN ?_ | with_reducible refine tr_oS ?_ | with_reducible refine tr_lc ?_ | with_reducible refine tr_lcM ?_ | with_reducible refine tr_for ?_ | with_reducible refine tr_frz ?_ | with_reducible refine tr_tup ?_ | with_reducible refine tr_lst ?_ | with_reducible refine tr_lstM ?_ | with_reducible refine tr_isi ?_ | with_reducible refine tr_fmt ?_ | with_reducible refine tr_and ?_ | with_reducible refine tr_or ?_ | with_reducible refine tr_not ?_ | with_reducible refine tr_iSeq ?_ | with_reducible refine tr_lcL ?_ | with_reducible refine tr_fld ?_ | with_reducible refine tr_it ?_ | with_reducible refine tr_ie ?_ | refine tr_var rfl ?_ | dsimp only [Bool.false_eq_true, if_true, if_false])
  have e2 : frz S' (.ref (S.next + 1)) = .ok (.lst f') (S'.drop (S.next + 1)) := by simp [frz, g1]
  refine tr_eq e2 ?_
  obtain ⟨zs2, c2, r1, r2, r3, r4, r5⟩ := D3.ex
  refine ⟨f', rfl, by simpa using p1, ⟨h.ne, wf_drop g1 D3.wf, zs2, c2, (get_drop_ne (by omega)).trans r1, (get_drop_ne (by omega)).trans r2, r3, r4, r5⟩, ⟨?_, fun m hm h1 h2 => ?_⟩, ?_⟩
  · simp [n3]
    omega
  · rw [get_drop_ne (by omega), k3 m h1 h2 (by omega) (by omega), get_new_ne (by simp; omega), get_new_ne (by omega)]
  · simp [n3]
end
end ML
set_option linter.all false
set_option maxRecDepth 100000
set_option maxHeartbeats 4000000
/-! P_k02: the plain law of k02. -/
namespace G
open Mir MW ML
theorem hdr : DrawOk m_law_draw := drawM_ok (a := 48271) (b := 29) (dv := 16) (by decide) (by decide) (by decide) (by decide) (by decide)
theorem stopd {xs : List W} {S : Store} {Q : W → Store → Prop} (h : Tr (m_law_draw xs S) Q) : Tr (m_law_draw xs S) Q := h
theorem stopp {xs : List W} {S : Store} {Q : W → Store → Prop} (h : Tr (m_law_pick xs S) Q) : Tr (m_law_pick xs S) Q := h
theorem pick_eq : m_law_pick = pickM m_law_draw := rfl
theorem mixed_eq : m_law_mixed = mixedM m_law_draw := rfl
theorem deal_eq : m_law_deal = dealA 32452867 43 48271 2147483629 23 61 := rfl
/-! ### words -/
def names : List W := [.str s_0_, .str s_1_, .str s_2_, .str s_3_, .str s_4_, .str s_5_, .str s_6_, .str s_7_, .str s_8_, .str s_9_, .str s_10_, .str s_11_, .str s_12_]
def kinds : List W := [.str s_6_, .str s_11_, .str s_19_, .str s_20_, .str s_10_, .str s_21_, .str s_22_, .str s_12_]
def olds : List W := names ++ [.str s_13_]
def thens : List W := names ++ [.str s_16_]
def thenJ : List W := names ++ [.str s_14_, .str s_15_]
inductive RowOk : W → Prop where
  | step {k o t : W} {a : Int} (hk : k ∈ kinds) (ho : o ∈ olds) (ht : t ∈ thens) (h1 : -3 ≤ a) (h2 : a ≤ 3) : RowOk (.tup [.str s_18_, k, o, t, .int a])
  | join {x y t : W} {a : Int} (hx : x ∈ olds) (hy : y ∈ olds) (ht : t ∈ thenJ) (h1 : -3 ≤ a) (h2 : a ≤ 3) : RowOk (.tup [.str s_8_, x, y, t, .int a])
  | part {o l r : W} {a b : Int} (ho : o ∈ olds) (hl : l ∈ thens) (hr : r ∈ thens) (h1 : -3 ≤ a) (h2 : a ≤ 3) (h3 : -3 ≤ b) (h4 : b ≤ 3) : RowOk (.tup [.str s_17_, o, l, r, .int a, .int b])
structure Marks (ms : List W) : Prop where
  ne : ms ≠ []
  sub : ∀ m ∈ ms, m ∈ names
  len : ms.length ≤ 13
section
variable {n k : Nat} {S : Store} {ms : List W}
theorem pk (h : Deal n k S) {xs : List W} {Q : W → Store → Prop} (h0 : xs ≠ []) (h1 : xs.length ≤ 1000) (q : ∀ v S', v ∈ xs → Left n k S S' → Q v S') : Tr (m_law_pick [.ref n, .lst xs] S) Q := by
  rw [pick_eq]
  exact (pick_tr hdr h h0 (by omega)).imp fun v S' ⟨a, b⟩ => q v S' a b
theorem dw (h : Deal n k S) {many : Int} {Q : W → Store → Prop} (h0 : 0 < many) (h1 : many < 1073741824) (q : ∀ (i : Nat) S', (i : Int) < many → Left n k S S' → Q (.int i) S') : Tr (m_law_draw [.ref n, .int many] S) Q :=
  (hdr n k S many h h0 h1).imp fun v S' ⟨⟨i, e, hi⟩, L⟩ => by subst e; exact q i S' hi L
theorem add_lst {a b : List W} {S : Store} (h : a.length + b.length ≤ LIM) : opAdd (.lst a) (.lst b) S = .ok (.lst (a ++ b)) S := by
  simp only [opAdd, rd, Nat.ble_eq_true_of_le h, if_true]
theorem eq_int {i j : Int} {S : Store} : opEq (.int i) (.int j) S = .ok (.bl (decide (i = j))) S := by simp [opEq, rd, eqD, dle, eqW, bW]
theorem kinds_eq {S : Store} : m_law_kinds [] S = .ok (.lst kinds) S := rfl
theorem any_row_tr (h : Deal n k S) (hm : Marks ms) : Tr (m_law_any_row [.ref n, .lst ms] S) fun v S' => RowOk v ∧ Left n k S S' := by
  have lm := hm.len
  have L13 : ∀ j, j ≤ 20 → ms.length + j ≤ LIM := fun j hj => Nat.le_trans (show ms.length + j ≤ 33 by omega) (by decide)
  refine tr_fn [some (.ref n), some (.lst ms), none, none, none, none, none] rfl rfl ?_
  repeat (first | with_reducible refine tr_seq ?_ | with_reducible refine tr_asg ?_ | with_reducible refine tr_asg2 ?_ | with_reducible refine tr_expr ?_ | with_reducible refine tr_ret ?_ | with_reducible refine tr_if ?_ | with_reducible refine tr_next ?_ | with_reducible refine tr_c ?_ | with_reducible refine tr_bin ?_ | with_reducible refine tr_un ?_ | with_reducible refine tr_cons ?_ | with_reducible refine tr_nil ?_ | with_reducible refine tr_call ?_ | with_reducible refine tr_tB ?_ | with_reducible refine tr_tAnd ?_ | with_reducible refine tr_tOr ?_ | with_reducible refine tr_tNot ?_ | with_reducible refine tr_tYes ?_ | with_reducible refine tr_mtL ?_ | with_reducible refine tr_mtS ?_ | with_reducible refine tr_sl ?_ | with_reducible refine tr_oN ?_ | with_reducible refine tr_oS ?_ | with_reducible refine tr_lc ?_ | with_reducible refine tr_lcM ?_ | with_reducible refine tr_for ?_ | with_reducible refine tr_frz ?_ | with_reducible refine tr_tup ?_ | with_reducible refine tr_lst ?_ | with_reducible refine tr_lstM ?_ | with_reducible refine tr_isi ?_ | with_reducible refine tr_fmt ?_ | with_reducible refine tr_and ?_ | with_reducible refine tr_or ?_ | with_reducible refine tr_not ?_ | with_reducible refine tr_iSeq ?_ | with_reducible refine tr_lcL ?_ | with_reducible refine tr_fld ?_ | with_reducible refine tr_it ?_ | with_reducible refine tr_ie ?_ | refine tr_var rfl ?_ | dsimp only [Bool.false_eq_true, if_true, if_false])
  refine dw h (by decide) (by decide) fun i S1 hi L1 => ?_
  repeat (first | with_reducible refine tr_seq ?_ | with_reducible refine tr_asg ?_ | with_reducible refine tr_asg2 ?_ | with_reducible refine tr_expr ?_ | with_reducible refine tr_ret ?_ | with_reducible refine tr_if ?_ | with_reducible refine tr_next ?_ | with_reducible refine tr_c ?_ | with_reducible refine tr_bin ?_ | with_reducible refine tr_un ?_ | with_reducible refine tr_cons ?_ | with_reducible refine tr_nil ?_ | with_reducible refine tr_call ?_ | with_reducible refine tr_tB ?_ | with_reducible refine tr_tAnd ?_ | with_reducible refine tr_tOr ?_ | with_reducible refine tr_tNot ?_ | with_reducible refine tr_tYes ?_ | with_reducible refine tr_mtL ?_ | with_reducible refine tr_mtS ?_ | with_reducible refine tr_sl ?_ | with_reducible refine tr_oN ?_ | with_reducible refine tr_oS ?_ | with_reducible refine tr_lc ?_ | with_reducible refine tr_lcM ?_ | with_reducible refine tr_for ?_ | with_reducible refine tr_frz ?_ | with_reducible refine tr_tup ?_ | with_reducible refine tr_lst ?_ | with_reducible refine tr_lstM ?_ | with_reducible refine tr_isi ?_ | with_reducible refine tr_fmt ?_ | with_reducible refine tr_and ?_ | with_reducible refine tr_or ?_ | with_reducible refine tr_not ?_ | with_reducible refine tr_iSeq ?_ | with_reducible refine tr_lcL ?_ | with_reducible refine tr_fld ?_ | with_reducible refine tr_it ?_ | with_reducible refine tr_ie ?_ | refine tr_var rfl ?_ | dsimp only [Bool.false_eq_true, if_true, if_false])
  refine dw L1.deal (by decide) (by decide) fun j S2 hj L2 => ?_
  have L2 := L1.trans L2
  repeat (first | with_reducible refine tr_seq ?_ | with_reducible refine tr_asg ?_ | with_reducible refine tr_asg2 ?_ | with_reducible refine tr_expr ?_ | with_reducible refine tr_ret ?_ | with_reducible refine tr_if ?_ | with_reducible refine tr_next ?_ | with_reducible refine tr_c ?_ | with_reducible refine tr_bin ?_ | with_reducible refine tr_un ?_ | with_reducible refine tr_cons ?_ | with_reducible refine tr_nil ?_ | with_reducible refine tr_call ?_ | with_reducible refine tr_tB ?_ | with_reducible refine tr_tAnd ?_ | with_reducible refine tr_tOr ?_ | with_reducible refine tr_tNot ?_ | with_reducible refine tr_tYes ?_ | with_reducible refine tr_mtL ?_ | with_reducible refine tr_mtS ?_ | with_reducible refine tr_sl ?_ | with_reducible refine tr_oN ?_ | with_reducible refine tr_oS ?_ | with_reducible refine tr_lc ?_ | with_reducible refine tr_lcM ?_ | with_reducible refine tr_for ?_ | with_reducible refine tr_frz ?_ | with_reducible refine tr_tup ?_ | with_reducible refine tr_lst ?_ | with_reducible refine tr_lstM ?_ | with_reducible refine tr_isi ?_ | with_reducible refine tr_fmt ?_ | with_reducible refine tr_and ?_ | with_reducible refine tr_or ?_ | with_reducible refine tr_not ?_ | with_reducible refine tr_iSeq ?_ | with_reducible refine tr_lcL ?_ | with_reducible refine tr_fld ?_ | with_reducible refine tr_it ?_ | with_reducible refine tr_ie ?_ | refine tr_var rfl ?_ | dsimp only [Bool.false_eq_true, if_true, if_false])
  refine ⟨by show 2 ≤ LIM; decide, _, _, rfl, ?_⟩
  repeat (first | with_reducible refine tr_seq ?_ | with_reducible refine tr_asg ?_ | with_reducible refine tr_asg2 ?_ | with_reducible refine tr_expr ?_ | with_reducible refine tr_ret ?_ | with_reducible refine tr_if ?_ | with_reducible refine tr_next ?_ | with_reducible refine tr_c ?_ | with_reducible refine tr_bin ?_ | with_reducible refine tr_un ?_ | with_reducible refine tr_cons ?_ | with_reducible refine tr_nil ?_ | with_reducible refine tr_call ?_ | with_reducible refine tr_tB ?_ | with_reducible refine tr_tAnd ?_ | with_reducible refine tr_tOr ?_ | with_reducible refine tr_tNot ?_ | with_reducible refine tr_tYes ?_ | with_reducible refine tr_mtL ?_ | with_reducible refine tr_mtS ?_ | with_reducible refine tr_sl ?_ | with_reducible refine tr_oN ?_ | with_reducible refine tr_oS ?_ | with_reducible refine tr_lc ?_ | with_reducible refine tr_lcM ?_ | with_reducible refine tr_for ?_ | with_reducible refine tr_frz ?_ | with_reducible refine tr_tup ?_ | with_reducible refine tr_lst ?_ | with_reducible refine tr_lstM ?_ | with_reducible refine tr_isi ?_ | with_reducible refine tr_fmt ?_ | with_reducible refine tr_and ?_ | with_reducible refine tr_or ?_ | with_reducible refine tr_not ?_ | with_reducible refine tr_iSeq ?_ | with_reducible refine tr_lcL ?_ | with_reducible refine tr_fld ?_ | with_reducible refine tr_it ?_ | with_reducible refine tr_ie ?_ | refine tr_var rfl ?_ | dsimp only [Bool.false_eq_true, if_true, if_false])
  refine ⟨by show 1 ≤ LIM; decide, ?_⟩
  refine tr_eq (add_lst (L13 1 (by omega))) ?_
  repeat (first | with_reducible refine tr_seq ?_ | with_reducible refine tr_asg ?_ | with_reducible refine tr_asg2 ?_ | with_reducible refine tr_expr ?_ | with_reducible refine tr_ret ?_ | with_reducible refine tr_if ?_ | with_reducible refine tr_next ?_ | with_reducible refine tr_c ?_ | with_reducible refine tr_bin ?_ | with_reducible refine tr_un ?_ | with_reducible refine tr_cons ?_ | with_reducible refine tr_nil ?_ | with_reducible refine tr_call ?_ | with_reducible refine tr_tB ?_ | with_reducible refine tr_tAnd ?_ | with_reducible refine tr_tOr ?_ | with_reducible refine tr_tNot ?_ | with_reducible refine tr_tYes ?_ | with_reducible refine tr_mtL ?_ | with_reducible refine tr_mtS ?_ | with_reducible refine tr_sl ?_ | with_reducible refine tr_oN ?_ | with_reducible refine tr_oS ?_ | with_reducible refine tr_lc ?_ | with_reducible refine tr_lcM ?_ | with_reducible refine tr_for ?_ | with_reducible refine tr_frz ?_ | with_reducible refine tr_tup ?_ | with_reducible refine tr_lst ?_ | with_reducible refine tr_lstM ?_ | with_reducible refine tr_isi ?_ | with_reducible refine tr_fmt ?_ | with_reducible refine tr_and ?_ | with_reducible refine tr_or ?_ | with_reducible refine tr_not ?_ | with_reducible refine tr_iSeq ?_ | with_reducible refine tr_lcL ?_ | with_reducible refine tr_fld ?_ | with_reducible refine tr_it ?_ | with_reducible refine tr_ie ?_ | refine tr_var rfl ?_ | dsimp only [Bool.false_eq_true, if_true, if_false])
  have mem1 : ∀ v ∈ ms ++ [.str s_13_], v ∈ olds := fun v hv => (List.mem_append.mp hv).elim (fun q => List.mem_append_left _ (hm.sub v q)) fun q => List.mem_append_right _ q
  have mem2 : ∀ v ∈ ms ++ [.str s_14_, .str s_15_], v ∈ thenJ := fun v hv => (List.mem_append.mp hv).elim (fun q => List.mem_append_left _ (hm.sub v q)) fun q => List.mem_append_right _ q
  have mem3 : ∀ v ∈ ms ++ [.str s_16_], v ∈ thens := fun v hv => (List.mem_append.mp hv).elim (fun q => List.mem_append_left _ (hm.sub v q)) fun q => List.mem_append_right _ q
  have l1 : (ms ++ [W.str s_13_]).length ≤ 1000 := by simp; omega
  have l2 : (ms ++ [W.str s_14_, W.str s_15_]).length ≤ 1000 := by simp; omega
  have l3 : (ms ++ [W.str s_16_]).length ≤ 1000 := by simp; omega
  refine tr_eq eq_int ⟨_, rfl, ?_⟩
  by_cases hi0 : (i : Int) = 0
  · rw [decide_eq_true hi0]
    repeat (first | with_reducible refine tr_seq ?_ | with_reducible refine tr_asg ?_ | with_reducible refine tr_asg2 ?_ | with_reducible refine tr_expr ?_ | with_reducible refine tr_ret ?_ | with_reducible refine tr_if ?_ | with_reducible refine tr_next ?_ | with_reducible refine tr_c ?_ | with_reducible refine tr_bin ?_ | with_reducible refine tr_un ?_ | with_reducible refine tr_cons ?_ | with_reducible refine tr_nil ?_ | with_reducible refine tr_call ?_ | with_reducible refine tr_tB ?_ | with_reducible refine tr_tAnd ?_ | with_reducible refine tr_tOr ?_ | with_reducible refine tr_tNot ?_ | with_reducible refine tr_tYes ?_ | with_reducible refine tr_mtL ?_ | with_reducible refine tr_mtS ?_ | with_reducible refine tr_sl ?_ | with_reducible refine tr_oN ?_ | with_reducible refine tr_oS ?_ | with_reducible refine tr_lc ?_ | with_reducible refine tr_lcM ?_ | with_reducible refine tr_for ?_ | with_reducible refine tr_frz ?_ | with_reducible refine tr_tup ?_ | with_reducible refine tr_lst ?_ | with_reducible refine tr_lstM ?_ | with_reducible refine tr_isi ?_ | with_reducible refine tr_fmt ?_ | with_reducible refine tr_and ?_ | with_reducible refine tr_or ?_ | with_reducible refine tr_not ?_ | with_reducible refine tr_iSeq ?_ | with_reducible refine tr_lcL ?_ | with_reducible refine tr_fld ?_ | with_reducible refine tr_it ?_ | with_reducible refine tr_ie ?_ | refine tr_var rfl ?_ | dsimp only [Bool.false_eq_true, if_true, if_false])
    refine pk L2.deal (by simp) l1 fun x S3 hx L3 => ?_
    have L3 := L2.trans L3
    repeat (first | with_reducible refine tr_seq ?_ | with_reducible refine tr_asg ?_ | with_reducible refine tr_asg2 ?_ | with_reducible refine tr_expr ?_ | with_reducible refine tr_ret ?_ | with_reducible refine tr_if ?_ | with_reducible refine tr_next ?_ | with_reducible refine tr_c ?_ | with_reducible refine tr_bin ?_ | with_reducible refine tr_un ?_ | with_reducible refine tr_cons ?_ | with_reducible refine tr_nil ?_ | with_reducible refine tr_call ?_ | with_reducible refine tr_tB ?_ | with_reducible refine tr_tAnd ?_ | with_reducible refine tr_tOr ?_ | with_reducible refine tr_tNot ?_ | with_reducible refine tr_tYes ?_ | with_reducible refine tr_mtL ?_ | with_reducible refine tr_mtS ?_ | with_reducible refine tr_sl ?_ | with_reducible refine tr_oN ?_ | with_reducible refine tr_oS ?_ | with_reducible refine tr_lc ?_ | with_reducible refine tr_lcM ?_ | with_reducible refine tr_for ?_ | with_reducible refine tr_frz ?_ | with_reducible refine tr_tup ?_ | with_reducible refine tr_lst ?_ | with_reducible refine tr_lstM ?_ | with_reducible refine tr_isi ?_ | with_reducible refine tr_fmt ?_ | with_reducible refine tr_and ?_ | with_reducible refine tr_or ?_ | with_reducible refine tr_not ?_ | with_reducible refine tr_iSeq ?_ | with_reducible refine tr_lcL ?_ | with_reducible refine tr_fld ?_ | with_reducible refine tr_it ?_ | with_reducible refine tr_ie ?_ | refine tr_var rfl ?_ | dsimp only [Bool.false_eq_true, if_true, if_false])
    refine pk L3.deal (by simp) l1 fun y S4 hy L4 => ?_
    have L4 := L3.trans L4
    repeat (first | with_reducible refine tr_seq ?_ | with_reducible refine tr_asg ?_ | with_reducible refine tr_asg2 ?_ | with_reducible refine tr_expr ?_ | with_reducible refine tr_ret ?_ | with_reducible refine tr_if ?_ | with_reducible refine tr_next ?_ | with_reducible refine tr_c ?_ | with_reducible refine tr_bin ?_ | with_reducible refine tr_un ?_ | with_reducible refine tr_cons ?_ | with_reducible refine tr_nil ?_ | with_reducible refine tr_call ?_ | with_reducible refine tr_tB ?_ | with_reducible refine tr_tAnd ?_ | with_reducible refine tr_tOr ?_ | with_reducible refine tr_tNot ?_ | with_reducible refine tr_tYes ?_ | with_reducible refine tr_mtL ?_ | with_reducible refine tr_mtS ?_ | with_reducible refine tr_sl ?_ | with_reducible refine tr_oN ?_ | with_reducible refine tr_oS ?_ | with_reducible refine tr_lc ?_ | with_reducible refine tr_lcM ?_ | with_reducible refine tr_for ?_ | with_reducible refine tr_frz ?_ | with_reducible refine tr_tup ?_ | with_reducible refine tr_lst ?_ | with_reducible refine tr_lstM ?_ | with_reducible refine tr_isi ?_ | with_reducible refine tr_fmt ?_ | with_reducible refine tr_and ?_ | with_reducible refine tr_or ?_ | with_reducible refine tr_not ?_ | with_reducible refine tr_iSeq ?_ | with_reducible refine tr_lcL ?_ | with_reducible refine tr_fld ?_ | with_reducible refine tr_it ?_ | with_reducible refine tr_ie ?_ | refine tr_var rfl ?_ | dsimp only [Bool.false_eq_true, if_true, if_false])
    refine ⟨by show 2 ≤ LIM; decide, ?_⟩
    refine tr_eq (add_lst (L13 2 (by omega))) ?_
    repeat (first | with_reducible refine tr_seq ?_ | with_reducible refine tr_asg ?_ | with_reducible refine tr_asg2 ?_ | with_reducible refine tr_expr ?_ | with_reducible refine tr_ret ?_ | with_reducible refine tr_if ?_ | with_reducible refine tr_next ?_ | with_reducible refine tr_c ?_ | with_reducible refine tr_bin ?_ | with_reducible refine tr_un ?_ | with_reducible refine tr_cons ?_ | with_reducible refine tr_nil ?_ | with_reducible refine tr_call ?_ | with_reducible refine tr_tB ?_ | with_reducible refine tr_tAnd ?_ | with_reducible refine tr_tOr ?_ | with_reducible refine tr_tNot ?_ | with_reducible refine tr_tYes ?_ | with_reducible refine tr_mtL ?_ | with_reducible refine tr_mtS ?_ | with_reducible refine tr_sl ?_ | with_reducible refine tr_oN ?_ | with_reducible refine tr_oS ?_ | with_reducible refine tr_lc ?_ | with_reducible refine tr_lcM ?_ | with_reducible refine tr_for ?_ | with_reducible refine tr_frz ?_ | with_reducible refine tr_tup ?_ | with_reducible refine tr_lst ?_ | with_reducible refine tr_lstM ?_ | with_reducible refine tr_isi ?_ | with_reducible refine tr_fmt ?_ | with_reducible refine tr_and ?_ | with_reducible refine tr_or ?_ | with_reducible refine tr_not ?_ | with_reducible refine tr_iSeq ?_ | with_reducible refine tr_lcL ?_ | with_reducible refine tr_fld ?_ | with_reducible refine tr_it ?_ | with_reducible refine tr_ie ?_ | refine tr_var rfl ?_ | dsimp only [Bool.false_eq_true, if_true, if_false])
    refine pk L4.deal (by simp) l2 fun t S5 ht L5 => ?_
    have L5 := L4.trans L5
    repeat (first | with_reducible refine tr_seq ?_ | with_reducible refine tr_asg ?_ | with_reducible refine tr_asg2 ?_ | with_reducible refine tr_expr ?_ | with_reducible refine tr_ret ?_ | with_reducible refine tr_if ?_ | with_reducible refine tr_next ?_ | with_reducible refine tr_c ?_ | with_reducible refine tr_bin ?_ | with_reducible refine tr_un ?_ | with_reducible refine tr_cons ?_ | with_reducible refine tr_nil ?_ | with_reducible refine tr_call ?_ | with_reducible refine tr_tB ?_ | with_reducible refine tr_tAnd ?_ | with_reducible refine tr_tOr ?_ | with_reducible refine tr_tNot ?_ | with_reducible refine tr_tYes ?_ | with_reducible refine tr_mtL ?_ | with_reducible refine tr_mtS ?_ | with_reducible refine tr_sl ?_ | with_reducible refine tr_oN ?_ | with_reducible refine tr_oS ?_ | with_reducible refine tr_lc ?_ | with_reducible refine tr_lcM ?_ | with_reducible refine tr_for ?_ | with_reducible refine tr_frz ?_ | with_reducible refine tr_tup ?_ | with_reducible refine tr_lst ?_ | with_reducible refine tr_lstM ?_ | with_reducible refine tr_isi ?_ | with_reducible refine tr_fmt ?_ | with_reducible refine tr_and ?_ | with_reducible refine tr_or ?_ | with_reducible refine tr_not ?_ | with_reducible refine tr_iSeq ?_ | with_reducible refine tr_lcL ?_ | with_reducible refine tr_fld ?_ | with_reducible refine tr_it ?_ | with_reducible refine tr_ie ?_ | refine tr_var rfl ?_ | dsimp only [Bool.false_eq_true, if_true, if_false])
    refine ⟨by show 5 ≤ LIM; decide, ?_⟩
    repeat (first | with_reducible refine tr_seq ?_ | with_reducible refine tr_asg ?_ | with_reducible refine tr_asg2 ?_ | with_reducible refine tr_expr ?_ | with_reducible refine tr_ret ?_ | with_reducible refine tr_if ?_ | with_reducible refine tr_next ?_ | with_reducible refine tr_c ?_ | with_reducible refine tr_bin ?_ | with_reducible refine tr_un ?_ | with_reducible refine tr_cons ?_ | with_reducible refine tr_nil ?_ | with_reducible refine tr_call ?_ | with_reducible refine tr_tB ?_ | with_reducible refine tr_tAnd ?_ | with_reducible refine tr_tOr ?_ | with_reducible refine tr_tNot ?_ | with_reducible refine tr_tYes ?_ | with_reducible refine tr_mtL ?_ | with_reducible refine tr_mtS ?_ | with_reducible refine tr_sl ?_ | with_reducible refine tr_oN ?_ | with_reducible refine tr_oS ?_ | with_reducible refine tr_lc ?_ | with_reducible refine tr_lcM ?_ | with_reducible refine tr_for ?_ | with_reducible refine tr_frz ?_ | with_reducible refine tr_tup ?_ | with_reducible refine tr_lst ?_ | with_reducible refine tr_lstM ?_ | with_reducible refine tr_isi ?_ | with_reducible refine tr_fmt ?_ | with_reducible refine tr_and ?_ | with_reducible refine tr_or ?_ | with_reducible refine tr_not ?_ | with_reducible refine tr_iSeq ?_ | with_reducible refine tr_lcL ?_ | with_reducible refine tr_fld ?_ | with_reducible refine tr_it ?_ | with_reducible refine tr_ie ?_ | refine tr_var rfl ?_ | dsimp only [Bool.false_eq_true, if_true, if_false])
    exact ⟨.join (mem1 x hx) (mem1 y hy) (mem2 t ht) (by omega) (by omega), L5⟩
  · rw [decide_eq_false hi0]
    repeat (first | with_reducible refine tr_seq ?_ | with_reducible refine tr_asg ?_ | with_reducible refine tr_asg2 ?_ | with_reducible refine tr_expr ?_ | with_reducible refine tr_ret ?_ | with_reducible refine tr_if ?_ | with_reducible refine tr_next ?_ | with_reducible refine tr_c ?_ | with_reducible refine tr_bin ?_ | with_reducible refine tr_un ?_ | with_reducible refine tr_cons ?_ | with_reducible refine tr_nil ?_ | with_reducible refine tr_call ?_ | with_reducible refine tr_tB ?_ | with_reducible refine tr_tAnd ?_ | with_reducible refine tr_tOr ?_ | with_reducible refine tr_tNot ?_ | with_reducible refine tr_tYes ?_ | with_reducible refine tr_mtL ?_ | with_reducible refine tr_mtS ?_ | with_reducible refine tr_sl ?_ | with_reducible refine tr_oN ?_ | with_reducible refine tr_oS ?_ | with_reducible refine tr_lc ?_ | with_reducible refine tr_lcM ?_ | with_reducible refine tr_for ?_ | with_reducible refine tr_frz ?_ | with_reducible refine tr_tup ?_ | with_reducible refine tr_lst ?_ | with_reducible refine tr_lstM ?_ | with_reducible refine tr_isi ?_ | with_reducible refine tr_fmt ?_ | with_reducible refine tr_and ?_ | with_reducible refine tr_or ?_ | with_reducible refine tr_not ?_ | with_reducible refine tr_iSeq ?_ | with_reducible refine tr_lcL ?_ | with_reducible refine tr_fld ?_ | with_reducible refine tr_it ?_ | with_reducible refine tr_ie ?_ | refine tr_var rfl ?_ | dsimp only [Bool.false_eq_true, if_true, if_false])
    refine tr_eq eq_int ⟨_, rfl, ?_⟩
    by_cases hi1 : (i : Int) = 1
    · rw [decide_eq_true hi1]
      repeat (first | with_reducible refine tr_seq ?_ | with_reducible refine tr_asg ?_ | with_reducible refine tr_asg2 ?_ | with_reducible refine tr_expr ?_ | with_reducible refine tr_ret ?_ | with_reducible refine tr_if ?_ | with_reducible refine tr_next ?_ | with_reducible refine tr_c ?_ | with_reducible refine tr_bin ?_ | with_reducible refine tr_un ?_ | with_reducible refine tr_cons ?_ | with_reducible refine tr_nil ?_ | with_reducible refine tr_call ?_ | with_reducible refine tr_tB ?_ | with_reducible refine tr_tAnd ?_ | with_reducible refine tr_tOr ?_ | with_reducible refine tr_tNot ?_ | with_reducible refine tr_tYes ?_ | with_reducible refine tr_mtL ?_ | with_reducible refine tr_mtS ?_ | with_reducible refine tr_sl ?_ | with_reducible refine tr_oN ?_ | with_reducible refine tr_oS ?_ | with_reducible refine tr_lc ?_ | with_reducible refine tr_lcM ?_ | with_reducible refine tr_for ?_ | with_reducible refine tr_frz ?_ | with_reducible refine tr_tup ?_ | with_reducible refine tr_lst ?_ | with_reducible refine tr_lstM ?_ | with_reducible refine tr_isi ?_ | with_reducible refine tr_fmt ?_ | with_reducible refine tr_and ?_ | with_reducible refine tr_or ?_ | with_reducible refine tr_not ?_ | with_reducible refine tr_iSeq ?_ | with_reducible refine tr_lcL ?_ | with_reducible refine tr_fld ?_ | with_reducible refine tr_it ?_ | with_reducible refine tr_ie ?_ | refine tr_var rfl ?_ | dsimp only [Bool.false_eq_true, if_true, if_false])
      refine ⟨by show 1 ≤ LIM; decide, ?_⟩
      refine tr_eq (add_lst (L13 1 (by omega))) ?_
      repeat (first | with_reducible refine tr_seq ?_ | with_reducible refine tr_asg ?_ | with_reducible refine tr_asg2 ?_ | with_reducible refine tr_expr ?_ | with_reducible refine tr_ret ?_ | with_reducible refine tr_if ?_ | with_reducible refine tr_next ?_ | with_reducible refine tr_c ?_ | with_reducible refine tr_bin ?_ | with_reducible refine tr_un ?_ | with_reducible refine tr_cons ?_ | with_reducible refine tr_nil ?_ | with_reducible refine tr_call ?_ | with_reducible refine tr_tB ?_ | with_reducible refine tr_tAnd ?_ | with_reducible refine tr_tOr ?_ | with_reducible refine tr_tNot ?_ | with_reducible refine tr_tYes ?_ | with_reducible refine tr_mtL ?_ | with_reducible refine tr_mtS ?_ | with_reducible refine tr_sl ?_ | with_reducible refine tr_oN ?_ | with_reducible refine tr_oS ?_ | with_reducible refine tr_lc ?_ | with_reducible refine tr_lcM ?_ | with_reducible refine tr_for ?_ | with_reducible refine tr_frz ?_ | with_reducible refine tr_tup ?_ | with_reducible refine tr_lst ?_ | with_reducible refine tr_lstM ?_ | with_reducible refine tr_isi ?_ | with_reducible refine tr_fmt ?_ | with_reducible refine tr_and ?_ | with_reducible refine tr_or ?_ | with_reducible refine tr_not ?_ | with_reducible refine tr_iSeq ?_ | with_reducible refine tr_lcL ?_ | with_reducible refine tr_fld ?_ | with_reducible refine tr_it ?_ | with_reducible refine tr_ie ?_ | refine tr_var rfl ?_ | dsimp only [Bool.false_eq_true, if_true, if_false])
      refine pk L2.deal (by simp) l3 fun x S3 hx L3 => ?_
      have L3 := L2.trans L3
      repeat (first | with_reducible refine tr_seq ?_ | with_reducible refine tr_asg ?_ | with_reducible refine tr_asg2 ?_ | with_reducible refine tr_expr ?_ | with_reducible refine tr_ret ?_ | with_reducible refine tr_if ?_ | with_reducible refine tr_next ?_ | with_reducible refine tr_c ?_ | with_reducible refine tr_bin ?_ | with_reducible refine tr_un ?_ | with_reducible refine tr_cons ?_ | with_reducible refine tr_nil ?_ | with_reducible refine tr_call ?_ | with_reducible refine tr_tB ?_ | with_reducible refine tr_tAnd ?_ | with_reducible refine tr_tOr ?_ | with_reducible refine tr_tNot ?_ | with_reducible refine tr_tYes ?_ | with_reducible refine tr_mtL ?_ | with_reducible refine tr_mtS ?_ | with_reducible refine tr_sl ?_ | with_reducible refine tr_oN ?_ | with_reducible refine tr_oS ?_ | with_reducible refine tr_lc ?_ | with_reducible refine tr_lcM ?_ | with_reducible refine tr_for ?_ | with_reducible refine tr_frz ?_ | with_reducible refine tr_tup ?_ | with_reducible refine tr_lst ?_ | with_reducible refine tr_lstM ?_ | with_reducible refine tr_isi ?_ | with_reducible refine tr_fmt ?_ | with_reducible refine tr_and ?_ | with_reducible refine tr_or ?_ | with_reducible refine tr_not ?_ | with_reducible refine tr_iSeq ?_ | with_reducible refine tr_lcL ?_ | with_reducible refine tr_fld ?_ | with_reducible refine tr_it ?_ | with_reducible refine tr_ie ?_ | refine tr_var rfl ?_ | dsimp only [Bool.false_eq_true, if_true, if_false])
      refine ⟨by show 1 ≤ LIM; decide, ?_⟩
      refine tr_eq (add_lst (L13 1 (by omega))) ?_
      repeat (first | with_reducible refine tr_seq ?_ | with_reducible refine tr_asg ?_ | with_reducible refine tr_asg2 ?_ | with_reducible refine tr_expr ?_ | with_reducible refine tr_ret ?_ | with_reducible refine tr_if ?_ | with_reducible refine tr_next ?_ | with_reducible refine tr_c ?_ | with_reducible refine tr_bin ?_ | with_reducible refine tr_un ?_ | with_reducible refine tr_cons ?_ | with_reducible refine tr_nil ?_ | with_reducible refine tr_call ?_ | with_reducible refine tr_tB ?_ | with_reducible refine tr_tAnd ?_ | with_reducible refine tr_tOr ?_ | with_reducible refine tr_tNot ?_ | with_reducible refine tr_tYes ?_ | with_reducible refine tr_mtL ?_ | with_reducible refine tr_mtS ?_ | with_reducible refine tr_sl ?_ | with_reducible refine tr_oN ?_ | with_reducible refine tr_oS ?_ | with_reducible refine tr_lc ?_ | with_reducible refine tr_lcM ?_ | with_reducible refine tr_for ?_ | with_reducible refine tr_frz ?_ | with_reducible refine tr_tup ?_ | with_reducible refine tr_lst ?_ | with_reducible refine tr_lstM ?_ | with_reducible refine tr_isi ?_ | with_reducible refine tr_fmt ?_ | with_reducible refine tr_and ?_ | with_reducible refine tr_or ?_ | with_reducible refine tr_not ?_ | with_reducible refine tr_iSeq ?_ | with_reducible refine tr_lcL ?_ | with_reducible refine tr_fld ?_ | with_reducible refine tr_it ?_ | with_reducible refine tr_ie ?_ | refine tr_var rfl ?_ | dsimp only [Bool.false_eq_true, if_true, if_false])
      refine pk L3.deal (by simp) l3 fun y S4 hy L4 => ?_
      have L4 := L3.trans L4
      repeat (first | with_reducible refine tr_seq ?_ | with_reducible refine tr_asg ?_ | with_reducible refine tr_asg2 ?_ | with_reducible refine tr_expr ?_ | with_reducible refine tr_ret ?_ | with_reducible refine tr_if ?_ | with_reducible refine tr_next ?_ | with_reducible refine tr_c ?_ | with_reducible refine tr_bin ?_ | with_reducible refine tr_un ?_ | with_reducible refine tr_cons ?_ | with_reducible refine tr_nil ?_ | with_reducible refine tr_call ?_ | with_reducible refine tr_tB ?_ | with_reducible refine tr_tAnd ?_ | with_reducible refine tr_tOr ?_ | with_reducible refine tr_tNot ?_ | with_reducible refine tr_tYes ?_ | with_reducible refine tr_mtL ?_ | with_reducible refine tr_mtS ?_ | with_reducible refine tr_sl ?_ | with_reducible refine tr_oN ?_ | with_reducible refine tr_oS ?_ | with_reducible refine tr_lc ?_ | with_reducible refine tr_lcM ?_ | with_reducible refine tr_for ?_ | with_reducible refine tr_frz ?_ | with_reducible refine tr_tup ?_ | with_reducible refine tr_lst ?_ | with_reducible refine tr_lstM ?_ | with_reducible refine tr_isi ?_ | with_reducible refine tr_fmt ?_ | with_reducible refine tr_and ?_ | with_reducible refine tr_or ?_ | with_reducible refine tr_not ?_ | with_reducible refine tr_iSeq ?_ | with_reducible refine tr_lcL ?_ | with_reducible refine tr_fld ?_ | with_reducible refine tr_it ?_ | with_reducible refine tr_ie ?_ | refine tr_var rfl ?_ | dsimp only [Bool.false_eq_true, if_true, if_false])
      refine ⟨by show 2 ≤ LIM; decide, _, _, rfl, ?_⟩
      repeat (first | with_reducible refine tr_seq ?_ | with_reducible refine tr_asg ?_ | with_reducible refine tr_asg2 ?_ | with_reducible refine tr_expr ?_ | with_reducible refine tr_ret ?_ | with_reducible refine tr_if ?_ | with_reducible refine tr_next ?_ | with_reducible refine tr_c ?_ | with_reducible refine tr_bin ?_ | with_reducible refine tr_un ?_ | with_reducible refine tr_cons ?_ | with_reducible refine tr_nil ?_ | with_reducible refine tr_call ?_ | with_reducible refine tr_tB ?_ | with_reducible refine tr_tAnd ?_ | with_reducible refine tr_tOr ?_ | with_reducible refine tr_tNot ?_ | with_reducible refine tr_tYes ?_ | with_reducible refine tr_mtL ?_ | with_reducible refine tr_mtS ?_ | with_reducible refine tr_sl ?_ | with_reducible refine tr_oN ?_ | with_reducible refine tr_oS ?_ | with_reducible refine tr_lc ?_ | with_reducible refine tr_lcM ?_ | with_reducible refine tr_for ?_ | with_reducible refine tr_frz ?_ | with_reducible refine tr_tup ?_ | with_reducible refine tr_lst ?_ | with_reducible refine tr_lstM ?_ | with_reducible refine tr_isi ?_ | with_reducible refine tr_fmt ?_ | with_reducible refine tr_and ?_ | with_reducible refine tr_or ?_ | with_reducible refine tr_not ?_ | with_reducible refine tr_iSeq ?_ | with_reducible refine tr_lcL ?_ | with_reducible refine tr_fld ?_ | with_reducible refine tr_it ?_ | with_reducible refine tr_ie ?_ | refine tr_var rfl ?_ | dsimp only [Bool.false_eq_true, if_true, if_false])
      refine pk L4.deal (by simp) l1 fun o S5 ho L5 => ?_
      have L5 := L4.trans L5
      repeat (first | with_reducible refine tr_seq ?_ | with_reducible refine tr_asg ?_ | with_reducible refine tr_asg2 ?_ | with_reducible refine tr_expr ?_ | with_reducible refine tr_ret ?_ | with_reducible refine tr_if ?_ | with_reducible refine tr_next ?_ | with_reducible refine tr_c ?_ | with_reducible refine tr_bin ?_ | with_reducible refine tr_un ?_ | with_reducible refine tr_cons ?_ | with_reducible refine tr_nil ?_ | with_reducible refine tr_call ?_ | with_reducible refine tr_tB ?_ | with_reducible refine tr_tAnd ?_ | with_reducible refine tr_tOr ?_ | with_reducible refine tr_tNot ?_ | with_reducible refine tr_tYes ?_ | with_reducible refine tr_mtL ?_ | with_reducible refine tr_mtS ?_ | with_reducible refine tr_sl ?_ | with_reducible refine tr_oN ?_ | with_reducible refine tr_oS ?_ | with_reducible refine tr_lc ?_ | with_reducible refine tr_lcM ?_ | with_reducible refine tr_for ?_ | with_reducible refine tr_frz ?_ | with_reducible refine tr_tup ?_ | with_reducible refine tr_lst ?_ | with_reducible refine tr_lstM ?_ | with_reducible refine tr_isi ?_ | with_reducible refine tr_fmt ?_ | with_reducible refine tr_and ?_ | with_reducible refine tr_or ?_ | with_reducible refine tr_not ?_ | with_reducible refine tr_iSeq ?_ | with_reducible refine tr_lcL ?_ | with_reducible refine tr_fld ?_ | with_reducible refine tr_it ?_ | with_reducible refine tr_ie ?_ | refine tr_var rfl ?_ | dsimp only [Bool.false_eq_true, if_true, if_false])
      refine dw L5.deal (by decide) (by decide) fun j2 S6 hj2 L6 => ?_
      have L6 := L5.trans L6
      repeat (first | with_reducible refine tr_seq ?_ | with_reducible refine tr_asg ?_ | with_reducible refine tr_asg2 ?_ | with_reducible refine tr_expr ?_ | with_reducible refine tr_ret ?_ | with_reducible refine tr_if ?_ | with_reducible refine tr_next ?_ | with_reducible refine tr_c ?_ | with_reducible refine tr_bin ?_ | with_reducible refine tr_un ?_ | with_reducible refine tr_cons ?_ | with_reducible refine tr_nil ?_ | with_reducible refine tr_call ?_ | with_reducible refine tr_tB ?_ | with_reducible refine tr_tAnd ?_ | with_reducible refine tr_tOr ?_ | with_reducible refine tr_tNot ?_ | with_reducible refine tr_tYes ?_ | with_reducible refine tr_mtL ?_ | with_reducible refine tr_mtS ?_ | with_reducible refine tr_sl ?_ | with_reducible refine tr_oN ?_ | with_reducible refine tr_oS ?_ | with_reducible refine tr_lc ?_ | with_reducible refine tr_lcM ?_ | with_reducible refine tr_for ?_ | with_reducible refine tr_frz ?_ | with_reducible refine tr_tup ?_ | with_reducible refine tr_lst ?_ | with_reducible refine tr_lstM ?_ | with_reducible refine tr_isi ?_ | with_reducible refine tr_fmt ?_ | with_reducible refine tr_and ?_ | with_reducible refine tr_or ?_ | with_reducible refine tr_not ?_ | with_reducible refine tr_iSeq ?_ | with_reducible refine tr_lcL ?_ | with_reducible refine tr_fld ?_ | with_reducible refine tr_it ?_ | with_reducible refine tr_ie ?_ | refine tr_var rfl ?_ | dsimp only [Bool.false_eq_true, if_true, if_false])
      refine ⟨by show 6 ≤ LIM; decide, ?_⟩
      repeat (first | with_reducible refine tr_seq ?_ | with_reducible refine tr_asg ?_ | with_reducible refine tr_asg2 ?_ | with_reducible refine tr_expr ?_ | with_reducible refine tr_ret ?_ | with_reducible refine tr_if ?_ | with_reducible refine tr_next ?_ | with_reducible refine tr_c ?_ | with_reducible refine tr_bin ?_ | with_reducible refine tr_un ?_ | with_reducible refine tr_cons ?_ | with_reducible refine tr_nil ?_ | with_reducible refine tr_call ?_ | with_reducible refine tr_tB ?_ | with_reducible refine tr_tAnd ?_ | with_reducible refine tr_tOr ?_ | with_reducible refine tr_tNot ?_ | with_reducible refine tr_tYes ?_ | with_reducible refine tr_mtL ?_ | with_reducible refine tr_mtS ?_ | with_reducible refine tr_sl ?_ | with_reducible refine tr_oN ?_ | with_reducible refine tr_oS ?_ | with_reducible refine tr_lc ?_ | with_reducible refine tr_lcM ?_ | with_reducible refine tr_for ?_ | with_reducible refine tr_frz ?_ | with_reducible refine tr_tup ?_ | with_reducible refine tr_lst ?_ | with_reducible refine tr_lstM ?_ | with_reducible refine tr_isi ?_ | with_reducible refine tr_fmt ?_ | with_reducible refine tr_and ?_ | with_reducible refine tr_or ?_ | with_reducible refine tr_not ?_ | with_reducible refine tr_iSeq ?_ | with_reducible refine tr_lcL ?_ | with_reducible refine tr_fld ?_ | with_reducible refine tr_it ?_ | with_reducible refine tr_ie ?_ | refine tr_var rfl ?_ | dsimp only [Bool.false_eq_true, if_true, if_false])
      exact ⟨.part (mem1 o ho) (mem3 x hx) (mem3 y hy) (by omega) (by omega) (by omega) (by omega), L6⟩
    · rw [decide_eq_false hi1]
      repeat (first | with_reducible refine tr_seq ?_ | with_reducible refine tr_asg ?_ | with_reducible refine tr_asg2 ?_ | with_reducible refine tr_expr ?_ | with_reducible refine tr_ret ?_ | with_reducible refine tr_if ?_ | with_reducible refine tr_next ?_ | with_reducible refine tr_c ?_ | with_reducible refine tr_bin ?_ | with_reducible refine tr_un ?_ | with_reducible refine tr_cons ?_ | with_reducible refine tr_nil ?_ | with_reducible refine tr_call ?_ | with_reducible refine tr_tB ?_ | with_reducible refine tr_tAnd ?_ | with_reducible refine tr_tOr ?_ | with_reducible refine tr_tNot ?_ | with_reducible refine tr_tYes ?_ | with_reducible refine tr_mtL ?_ | with_reducible refine tr_mtS ?_ | with_reducible refine tr_sl ?_ | with_reducible refine tr_oN ?_ | with_reducible refine tr_oS ?_ | with_reducible refine tr_lc ?_ | with_reducible refine tr_lcM ?_ | with_reducible refine tr_for ?_ | with_reducible refine tr_frz ?_ | with_reducible refine tr_tup ?_ | with_reducible refine tr_lst ?_ | with_reducible refine tr_lstM ?_ | with_reducible refine tr_isi ?_ | with_reducible refine tr_fmt ?_ | with_reducible refine tr_and ?_ | with_reducible refine tr_or ?_ | with_reducible refine tr_not ?_ | with_reducible refine tr_iSeq ?_ | with_reducible refine tr_lcL ?_ | with_reducible refine tr_fld ?_ | with_reducible refine tr_it ?_ | with_reducible refine tr_ie ?_ | refine tr_var rfl ?_ | dsimp only [Bool.false_eq_true, if_true, if_false])
      refine tr_eq kinds_eq ?_
      repeat (first | with_reducible refine tr_seq ?_ | with_reducible refine tr_asg ?_ | with_reducible refine tr_asg2 ?_ | with_reducible refine tr_expr ?_ | with_reducible refine tr_ret ?_ | with_reducible refine tr_if ?_ | with_reducible refine tr_next ?_ | with_reducible refine tr_c ?_ | with_reducible refine tr_bin ?_ | with_reducible refine tr_un ?_ | with_reducible refine tr_cons ?_ | with_reducible refine tr_nil ?_ | with_reducible refine tr_call ?_ | with_reducible refine tr_tB ?_ | with_reducible refine tr_tAnd ?_ | with_reducible refine tr_tOr ?_ | with_reducible refine tr_tNot ?_ | with_reducible refine tr_tYes ?_ | with_reducible refine tr_mtL ?_ | with_reducible refine tr_mtS ?_ | with_reducible refine tr_sl ?_ | with_reducible refine tr_oN ?_ | with_reducible refine tr_oS ?_ | with_reducible refine tr_lc ?_ | with_reducible refine tr_lcM ?_ | with_reducible refine tr_for ?_ | with_reducible refine tr_frz ?_ | with_reducible refine tr_tup ?_ | with_reducible refine tr_lst ?_ | with_reducible refine tr_lstM ?_ | with_reducible refine tr_isi ?_ | with_reducible refine tr_fmt ?_ | with_reducible refine tr_and ?_ | with_reducible refine tr_or ?_ | with_reducible refine tr_not ?_ | with_reducible refine tr_iSeq ?_ | with_reducible refine tr_lcL ?_ | with_reducible refine tr_fld ?_ | with_reducible refine tr_it ?_ | with_reducible refine tr_ie ?_ | refine tr_var rfl ?_ | dsimp only [Bool.false_eq_true, if_true, if_false])
      refine pk L2.deal (by decide) (by decide) fun x S3 hx L3 => ?_
      have L3 := L2.trans L3
      repeat (first | with_reducible refine tr_seq ?_ | with_reducible refine tr_asg ?_ | with_reducible refine tr_asg2 ?_ | with_reducible refine tr_expr ?_ | with_reducible refine tr_ret ?_ | with_reducible refine tr_if ?_ | with_reducible refine tr_next ?_ | with_reducible refine tr_c ?_ | with_reducible refine tr_bin ?_ | with_reducible refine tr_un ?_ | with_reducible refine tr_cons ?_ | with_reducible refine tr_nil ?_ | with_reducible refine tr_call ?_ | with_reducible refine tr_tB ?_ | with_reducible refine tr_tAnd ?_ | with_reducible refine tr_tOr ?_ | with_reducible refine tr_tNot ?_ | with_reducible refine tr_tYes ?_ | with_reducible refine tr_mtL ?_ | with_reducible refine tr_mtS ?_ | with_reducible refine tr_sl ?_ | with_reducible refine tr_oN ?_ | with_reducible refine tr_oS ?_ | with_reducible refine tr_lc ?_ | with_reducible refine tr_lcM ?_ | with_reducible refine tr_for ?_ | with_reducible refine tr_frz ?_ | with_reducible refine tr_tup ?_ | with_reducible refine tr_lst ?_ | with_reducible refine tr_lstM ?_ | with_reducible refine tr_isi ?_ | with_reducible refine tr_fmt ?_ | with_reducible refine tr_and ?_ | with_reducible refine tr_or ?_ | with_reducible refine tr_not ?_ | with_reducible refine tr_iSeq ?_ | with_reducible refine tr_lcL ?_ | with_reducible refine tr_fld ?_ | with_reducible refine tr_it ?_ | with_reducible refine tr_ie ?_ | refine tr_var rfl ?_ | dsimp only [Bool.false_eq_true, if_true, if_false])
      refine pk L3.deal (by simp) l1 fun o S4 ho L4 => ?_
      have L4 := L3.trans L4
      repeat (first | with_reducible refine tr_seq ?_ | with_reducible refine tr_asg ?_ | with_reducible refine tr_asg2 ?_ | with_reducible refine tr_expr ?_ | with_reducible refine tr_ret ?_ | with_reducible refine tr_if ?_ | with_reducible refine tr_next ?_ | with_reducible refine tr_c ?_ | with_reducible refine tr_bin ?_ | with_reducible refine tr_un ?_ | with_reducible refine tr_cons ?_ | with_reducible refine tr_nil ?_ | with_reducible refine tr_call ?_ | with_reducible refine tr_tB ?_ | with_reducible refine tr_tAnd ?_ | with_reducible refine tr_tOr ?_ | with_reducible refine tr_tNot ?_ | with_reducible refine tr_tYes ?_ | with_reducible refine tr_mtL ?_ | with_reducible refine tr_mtS ?_ | with_reducible refine tr_sl ?_ | with_reducible refine tr_oN ?_ | with_reducible refine tr_oS ?_ | with_reducible refine tr_lc ?_ | with_reducible refine tr_lcM ?_ | with_reducible refine tr_for ?_ | with_reducible refine tr_frz ?_ | with_reducible refine tr_tup ?_ | with_reducible refine tr_lst ?_ | with_reducible refine tr_lstM ?_ | with_reducible refine tr_isi ?_ | with_reducible refine tr_fmt ?_ | with_reducible refine tr_and ?_ | with_reducible refine tr_or ?_ | with_reducible refine tr_not ?_ | with_reducible refine tr_iSeq ?_ | with_reducible refine tr_lcL ?_ | with_reducible refine tr_fld ?_ | with_reducible refine tr_it ?_ | with_reducible refine tr_ie ?_ | refine tr_var rfl ?_ | dsimp only [Bool.false_eq_true, if_true, if_false])
      refine ⟨by show 1 ≤ LIM; decide, ?_⟩
      refine tr_eq (add_lst (L13 1 (by omega))) ?_
      repeat (first | with_reducible refine tr_seq ?_ | with_reducible refine tr_asg ?_ | with_reducible refine tr_asg2 ?_ | with_reducible refine tr_expr ?_ | with_reducible refine tr_ret ?_ | with_reducible refine tr_if ?_ | with_reducible refine tr_next ?_ | with_reducible refine tr_c ?_ | with_reducible refine tr_bin ?_ | with_reducible refine tr_un ?_ | with_reducible refine tr_cons ?_ | with_reducible refine tr_nil ?_ | with_reducible refine tr_call ?_ | with_reducible refine tr_tB ?_ | with_reducible refine tr_tAnd ?_ | with_reducible refine tr_tOr ?_ | with_reducible refine tr_tNot ?_ | with_reducible refine tr_tYes ?_ | with_reducible refine tr_mtL ?_ | with_reducible refine tr_mtS ?_ | with_reducible refine tr_sl ?_ | with_reducible refine tr_oN ?_ | with_reducible refine tr_oS ?_ | with_reducible refine tr_lc ?_ | with_reducible refine tr_lcM ?_ | with_reducible refine tr_for ?_ | with_reducible refine tr_frz ?_ | with_reducible refine tr_tup ?_ | with_reducible refine tr_lst ?_ | with_reducible refine tr_lstM ?_ | with_reducible refine tr_isi ?_ | with_reducible refine tr_fmt ?_ | with_reducible refine tr_and ?_ | with_reducible refine tr_or ?_ | with_reducible refine tr_not ?_ | with_reducible refine tr_iSeq ?_ | with_reducible refine tr_lcL ?_ | with_reducible refine tr_fld ?_ | with_reducible refine tr_it ?_ | with_reducible refine tr_ie ?_ | refine tr_var rfl ?_ | dsimp only [Bool.false_eq_true, if_true, if_false])
      refine pk L4.deal (by simp) l3 fun t S5 ht L5 => ?_
      have L5 := L4.trans L5
      repeat (first | with_reducible refine tr_seq ?_ | with_reducible refine tr_asg ?_ | with_reducible refine tr_asg2 ?_ | with_reducible refine tr_expr ?_ | with_reducible refine tr_ret ?_ | with_reducible refine tr_if ?_ | with_reducible refine tr_next ?_ | with_reducible refine tr_c ?_ | with_reducible refine tr_bin ?_ | with_reducible refine tr_un ?_ | with_reducible refine tr_cons ?_ | with_reducible refine tr_nil ?_ | with_reducible refine tr_call ?_ | with_reducible refine tr_tB ?_ | with_reducible refine tr_tAnd ?_ | with_reducible refine tr_tOr ?_ | with_reducible refine tr_tNot ?_ | with_reducible refine tr_tYes ?_ | with_reducible refine tr_mtL ?_ | with_reducible refine tr_mtS ?_ | with_reducible refine tr_sl ?_ | with_reducible refine tr_oN ?_ | with_reducible refine tr_oS ?_ | with_reducible refine tr_lc ?_ | with_reducible refine tr_lcM ?_ | with_reducible refine tr_for ?_ | with_reducible refine tr_frz ?_ | with_reducible refine tr_tup ?_ | with_reducible refine tr_lst ?_ | with_reducible refine tr_lstM ?_ | with_reducible refine tr_isi ?_ | with_reducible refine tr_fmt ?_ | with_reducible refine tr_and ?_ | with_reducible refine tr_or ?_ | with_reducible refine tr_not ?_ | with_reducible refine tr_iSeq ?_ | with_reducible refine tr_lcL ?_ | with_reducible refine tr_fld ?_ | with_reducible refine tr_it ?_ | with_reducible refine tr_ie ?_ | refine tr_var rfl ?_ | dsimp only [Bool.false_eq_true, if_true, if_false])
      refine ⟨by show 5 ≤ LIM; decide, ?_⟩
      repeat (first | with_reducible refine tr_seq ?_ | with_reducible refine tr_asg ?_ | with_reducible refine tr_asg2 ?_ | with_reducible refine tr_expr ?_ | with_reducible refine tr_ret ?_ | with_reducible refine tr_if ?_ | with_reducible refine tr_next ?_ | with_reducible refine tr_c ?_ | with_reducible refine tr_bin ?_ | with_reducible refine tr_un ?_ | with_reducible refine tr_cons ?_ | with_reducible refine tr_nil ?_ | with_reducible refine tr_call ?_ | with_reducible refine tr_tB ?_ | with_reducible refine tr_tAnd ?_ | with_reducible refine tr_tOr ?_ | with_reducible refine tr_tNot ?_ | with_reducible refine tr_tYes ?_ | with_reducible refine tr_mtL ?_ | with_reducible refine tr_mtS ?_ | with_reducible refine tr_sl ?_ | with_reducible refine tr_oN ?_ | with_reducible refine tr_oS ?_ | with_reducible refine tr_lc ?_ | with_reducible refine tr_lcM ?_ | with_reducible refine tr_for ?_ | with_reducible refine tr_frz ?_ | with_reducible refine tr_tup ?_ | with_reducible refine tr_lst ?_ | with_reducible refine tr_lstM ?_ | with_reducible refine tr_isi ?_ | with_reducible refine tr_fmt ?_ | with_reducible refine tr_and ?_ | with_reducible refine tr_or ?_ | with_reducible refine tr_not ?_ | with_reducible refine tr_iSeq ?_ | with_reducible refine tr_lcL ?_ | with_reducible refine tr_fld ?_ | with_reducible refine tr_it ?_ | with_reducible refine tr_ie ?_ | refine tr_var rfl ?_ | dsimp only [Bool.false_eq_true, if_true, if_false])
      exact ⟨.step hx (mem1 o ho) (mem3 t ht) (by omega) (by omega), L5⟩
theorem names_tr (h : Deal n k S) : Tr (m_law_names [.ref n, .int 3] S) fun v S' => ∃ ms, v = .lst ms ∧ Marks ms ∧ Deal n k S' ∧ Keep n k S S' := by
  refine tr_fn [some (.ref n), some (.int 3), none] rfl rfl ?_
  repeat (first | with_reducible refine tr_seq ?_ | with_reducible refine tr_asg ?_ | with_reducible refine tr_asg2 ?_ | with_reducible refine tr_expr ?_ | with_reducible refine tr_ret ?_ | with_reducible refine tr_if ?_ | with_reducible refine tr_next ?_ | with_reducible refine tr_c ?_ | with_reducible refine tr_bin ?_ | with_reducible refine tr_un ?_ | with_reducible refine tr_cons ?_ | with_reducible refine tr_nil ?_ | with_reducible refine tr_call ?_ | with_reducible refine tr_tB ?_ | with_reducible refine tr_tAnd ?_ | with_reducible refine tr_tOr ?_ | with_reducible refine tr_tNot ?_ | with_reducible refine tr_tYes ?_ | with_reducible refine tr_mtL ?_ | with_reducible refine tr_mtS ?_ | with_reducible refine tr_sl ?_ | with_reducible refine tr_oN ?_ | with_reducible refine tr_oS ?_ | with_reducible refine tr_lc ?_ | with_reducible refine tr_lcM ?_ | with_reducible refine tr_for ?_ | with_reducible refine tr_frz ?_ | with_reducible refine tr_tup ?_ | with_reducible refine tr_lst ?_ | with_reducible refine tr_lstM ?_ | with_reducible refine tr_isi ?_ | with_reducible refine tr_fmt ?_ | with_reducible refine tr_and ?_ | with_reducible refine tr_or ?_ | with_reducible refine tr_not ?_ | with_reducible refine tr_iSeq ?_ | with_reducible refine tr_lcL ?_ | with_reducible refine tr_fld ?_ | with_reducible refine tr_it ?_ | with_reducible refine tr_ie ?_ | refine tr_var rfl ?_ | dsimp only [Bool.false_eq_true, if_true, if_false])
  refine ⟨by show 13 ≤ LIM; decide, ?_⟩
  repeat (first | with_reducible refine tr_seq ?_ | with_reducible refine tr_asg ?_ | with_reducible refine tr_asg2 ?_ | with_reducible refine tr_expr ?_ | with_reducible refine tr_ret ?_ | with_reducible refine tr_if ?_ | with_reducible refine tr_next ?_ | with_reducible refine tr_c ?_ | with_reducible refine tr_bin ?_ | with_reducible refine tr_un ?_ | with_reducible refine tr_cons ?_ | with_reducible refine tr_nil ?_ | with_reducible refine tr_call ?_ | with_reducible refine tr_tB ?_ | with_reducible refine tr_tAnd ?_ | with_reducible refine tr_tOr ?_ | with_reducible refine tr_tNot ?_ | with_reducible refine tr_tYes ?_ | with_reducible refine tr_mtL ?_ | with_reducible refine tr_mtS ?_ | with_reducible refine tr_sl ?_ | with_reducible refine tr_oN ?_ | with_reducible refine tr_oS ?_ | with_reducible refine tr_lc ?_ | with_reducible refine tr_lcM ?_ | with_reducible refine tr_for ?_ | with_reducible refine tr_frz ?_ | with_reducible refine tr_tup ?_ | with_reducible refine tr_lst ?_ | with_reducible refine tr_lstM ?_ | with_reducible refine tr_isi ?_ | with_reducible refine tr_fmt ?_ | with_reducible refine tr_and ?_ | with_reducible refine tr_or ?_ | with_reducible refine tr_not ?_ | with_reducible refine tr_iSeq ?_ | with_reducible refine tr_lcL ?_ | with_reducible refine tr_fld ?_ | with_reducible refine tr_it ?_ | with_reducible refine tr_ie ?_ | refine tr_var rfl ?_ | dsimp only [Bool.false_eq_true, if_true, if_false])
  rw [mixed_eq]
  refine (mixed_tr (xs := names) hdr h (by decide) (by decide)).imp ?_
  rintro v S' ⟨ys, rfl, p, D, K, _⟩
  repeat (first | with_reducible refine tr_seq ?_ | with_reducible refine tr_asg ?_ | with_reducible refine tr_asg2 ?_ | with_reducible refine tr_expr ?_ | with_reducible refine tr_ret ?_ | with_reducible refine tr_if ?_ | with_reducible refine tr_next ?_ | with_reducible refine tr_c ?_ | with_reducible refine tr_bin ?_ | with_reducible refine tr_un ?_ | with_reducible refine tr_cons ?_ | with_reducible refine tr_nil ?_ | with_reducible refine tr_call ?_ | with_reducible refine tr_tB ?_ | with_reducible refine tr_tAnd ?_ | with_reducible refine tr_tOr ?_ | with_reducible refine tr_tNot ?_ | with_reducible refine tr_tYes ?_ | with_reducible refine tr_mtL ?_ | with_reducible refine tr_mtS ?_ | with_reducible refine tr_sl ?_ | with_reducible refine tr_oN ?_ | with_reducible refine tr_oS ?_ | with_reducible refine tr_lc ?_ | with_reducible refine tr_lcM ?_ | with_reducible refine tr_for ?_ | with_reducible refine tr_frz ?_ | with_reducible refine tr_tup ?_ | with_reducible refine tr_lst ?_ | with_reducible refine tr_lstM ?_ | with_reducible refine tr_isi ?_ | with_reducible refine tr_fmt ?_ | with_reducible refine tr_and ?_ | with_reducible refine tr_or ?_ | with_reducible refine tr_not ?_ | with_reducible refine tr_iSeq ?_ | with_reducible refine tr_lcL ?_ | with_reducible refine tr_fld ?_ | with_reducible refine tr_it ?_ | with_reducible refine tr_ie ?_ | refine tr_var rfl ?_ | dsimp only [Bool.false_eq_true, if_true, if_false])
  have lp : ys.length = 13 := p.length_eq.symm
  refine ⟨_, rfl, ?_⟩
  refine tr_eq (show sl (.lst ys) none (some 3) S' = .ok (.lst (cut ys none (some 3))) S' from rfl) ?_
  have ec : cut ys none (some 3) = ys.take 3 := by
    unfold cut sIx
    simp [lp]
  rw [ec]
  refine ⟨ys.take 3, rfl, ⟨?_, fun m hm => p.mem_iff.mpr (List.mem_of_mem_take hm), by rw [List.length_take]; omega⟩, D, K⟩
  intro e
  have := congrArg List.length e
  rw [List.length_take, lp] at this
  cases this
theorem str_old {o : W} (h : o ∈ olds) : ∃ z, o = .str z := by
  have : ∀ o ∈ olds, (match o with | .str _ => true | _ => false) = true := by decide
  have q := this o h
  cases o with
  | str z => exact ⟨z, rfl⟩
  | _ => cases q
theorem str_then {o : W} (h : o ∈ thens) : ∃ z, o = .str z := by
  have : ∀ o ∈ thens, (match o with | .str _ => true | _ => false) = true := by decide
  have q := this o h
  cases o with
  | str z => exact ⟨z, rfl⟩
  | _ => cases q
theorem str_thenJ {o : W} (h : o ∈ thenJ) : ∃ z, o = .str z := by
  have : ∀ o ∈ thenJ, (match o with | .str _ => true | _ => false) = true := by decide
  have q := this o h
  cases o with
  | str z => exact ⟨z, rfl⟩
  | _ => cases q
theorem str_kind {o : W} (h : o ∈ kinds) : ∃ z, o = .str z := by
  have : ∀ o ∈ kinds, (match o with | .str _ => true | _ => false) = true := by decide
  have q := this o h
  cases o with
  | str z => exact ⟨z, rfl⟩
  | _ => cases q
theorem n_old {o : W} (h : o ∈ names) : o ∈ olds := List.mem_append_left _ h
theorem n_then {o : W} (h : o ∈ names) : o ∈ thens := List.mem_append_left _ h
theorem n_thenJ {o : W} (h : o ∈ names) : o ∈ thenJ := List.mem_append_left _ h
theorem bent_tr (h : Deal n k S) (hm : Marks ms) {row : W} (hr : RowOk row) : Tr (m_law_bent [.ref n, row, .lst ms] S) fun v S' => RowOk v ∧ Left n k S S' := by
  have lm := hm.len
  refine tr_fn [some (.ref n), some row, some (.lst ms), none] rfl rfl ?_
  cases hr with
  | @step kd o t a hk ho ht h1 h2 =>
    obtain ⟨zk, rfl⟩ := str_kind hk
    obtain ⟨zo, rfl⟩ := str_old ho
    obtain ⟨zt, rfl⟩ := str_then ht
    repeat (first | with_reducible refine tr_seq ?_ | with_reducible refine tr_asg ?_ | with_reducible refine tr_asg2 ?_ | with_reducible refine tr_expr ?_ | with_reducible refine tr_ret ?_ | with_reducible refine tr_if ?_ | with_reducible refine tr_next ?_ | with_reducible refine tr_c ?_ | with_reducible refine tr_bin ?_ | with_reducible refine tr_un ?_ | with_reducible refine tr_cons ?_ | with_reducible refine tr_nil ?_ | with_reducible refine tr_call ?_ | with_reducible refine tr_tB ?_ | with_reducible refine tr_tAnd ?_ | with_reducible refine tr_tOr ?_ | with_reducible refine tr_tNot ?_ | with_reducible refine tr_tYes ?_ | with_reducible refine tr_mtL ?_ | with_reducible refine tr_mtS ?_ | with_reducible refine tr_sl ?_ | with_reducible refine tr_oN ?_ | with_reducible refine tr_oS ?_ | with_reducible refine tr_lc ?_ | with_reducible refine tr_lcM ?_ | with_reducible refine tr_for ?_ | with_reducible refine tr_frz ?_ | with_reducible refine tr_tup ?_ | with_reducible refine tr_lst ?_ | with_reducible refine tr_lstM ?_ | with_reducible refine tr_isi ?_ | with_reducible refine tr_fmt ?_ | with_reducible refine tr_and ?_ | with_reducible refine tr_or ?_ | with_reducible refine tr_not ?_ | with_reducible refine tr_iSeq ?_ | with_reducible refine tr_lcL ?_ | with_reducible refine tr_fld ?_ | with_reducible refine tr_it ?_ | with_reducible refine tr_ie ?_ | refine tr_var rfl ?_ | dsimp only [Bool.false_eq_true, if_true, if_false])
    refine tr_eq (show fLen [.tup [.str s_18_, .str zk, .str zo, .str zt, .int a]] S = .ok (.int 5) S from rfl) ?_
    repeat (first | (first | with_reducible refine tr_seq ?_ | with_reducible refine tr_asg ?_ | with_reducible refine tr_asg2 ?_ | with_reducible refine tr_expr ?_ | with_reducible refine tr_ret ?_ | with_reducible refine tr_if ?_ | with_reducible refine tr_next ?_ | with_reducible refine tr_c ?_ | with_reducible refine tr_bin ?_ | with_reducible refine tr_un ?_ | with_reducible refine tr_cons ?_ | with_reducible refine tr_nil ?_ | with_reducible refine tr_call ?_ | with_reducible refine tr_tB ?_ | with_reducible refine tr_tAnd ?_ | with_reducible refine tr_tOr ?_ | with_reducible refine tr_tNot ?_ | with_reducible refine tr_tYes ?_ | with_reducible refine tr_mtL ?_ | with_reducible refine tr_mtS ?_ | with_reducible refine tr_sl ?_ | with_reducible refine tr_oN ?_ | with_reducible refine tr_oS ?_ | with_reducible refine tr_lc ?_ | with_reducible refine tr_lcM ?_ | with_reducible refine tr_for ?_ | with_reducible refine tr_frz ?_ | with_reducible refine tr_tup ?_ | with_reducible refine tr_lst ?_ | with_reducible refine tr_lstM ?_ | with_reducible refine tr_isi ?_ | with_reducible refine tr_fmt ?_ | with_reducible refine tr_and ?_ | with_reducible refine tr_or ?_ | with_reducible refine tr_not ?_ | with_reducible refine tr_iSeq ?_ | with_reducible refine tr_lcL ?_ | with_reducible refine tr_fld ?_ | with_reducible refine tr_it ?_ | with_reducible refine tr_ie ?_ | refine tr_var rfl ?_ | dsimp only [Bool.false_eq_true, if_true, if_false]) | refine tr_itc rfl ?_ | refine tr_iec rfl ?_ | refine ⟨Nat.le_of_ble_eq_true rfl, ?_⟩ | refine ⟨_, rfl, ?_⟩ | refine ⟨_, _, rfl, ?_⟩ | ((fail_if_success (with_reducible refine stopd ?_)); (fail_if_success (with_reducible refine stopp ?_)); refine tr_eq rfl ?_))
    refine dw h (by decide) (by decide) fun i S1 hi L1 => ?_
    have hi4 : i = 0 ∨ i = 1 ∨ i = 2 ∨ i = 3 := by omega
    rcases hi4 with rfl | rfl | rfl | rfl
    · repeat (first | (first | with_reducible refine tr_seq ?_ | with_reducible refine tr_asg ?_ | with_reducible refine tr_asg2 ?_ | with_reducible refine tr_expr ?_ | with_reducible refine tr_ret ?_ | with_reducible refine tr_if ?_ | with_reducible refine tr_next ?_ | with_reducible refine tr_c ?_ | with_reducible refine tr_bin ?_ | with_reducible refine tr_un ?_ | with_reducible refine tr_cons ?_ | with_reducible refine tr_nil ?_ | with_reducible refine tr_call ?_ | with_reducible refine tr_tB ?_ | with_reducible refine tr_tAnd ?_ | with_reducible refine tr_tOr ?_ | with_reducible refine tr_tNot ?_ | with_reducible refine tr_tYes ?_ | with_reducible refine tr_mtL ?_ | with_reducible refine tr_mtS ?_ | with_reducible refine tr_sl ?_ | with_reducible refine tr_oN ?_ | with_reducible refine tr_oS ?_ | with_reducible refine tr_lc ?_ | with_reducible refine tr_lcM ?_ | with_reducible refine tr_for ?_ | with_reducible refine tr_frz ?_ | with_reducible refine tr_tup ?_ | with_reducible refine tr_lst ?_ | with_reducible refine tr_lstM ?_ | with_reducible refine tr_isi ?_ | with_reducible refine tr_fmt ?_ | with_reducible refine tr_and ?_ | with_reducible refine tr_or ?_ | with_reducible refine tr_not ?_ | with_reducible refine tr_iSeq ?_ | with_reducible refine tr_lcL ?_ | with_reducible refine tr_fld ?_ | with_reducible refine tr_it ?_ | with_reducible refine tr_ie ?_ | refine tr_var rfl ?_ | dsimp only [Bool.false_eq_true, if_true, if_false]) | refine tr_itc rfl ?_ | refine tr_iec rfl ?_ | refine ⟨Nat.le_of_ble_eq_true rfl, ?_⟩ | refine ⟨_, rfl, ?_⟩ | refine ⟨_, _, rfl, ?_⟩ | ((fail_if_success (with_reducible refine stopd ?_)); (fail_if_success (with_reducible refine stopp ?_)); refine tr_eq rfl ?_))
      refine pk (xs := kinds) L1.deal (by decide) (by decide) fun v S2 hv L2 => ?_
      obtain ⟨zv, rfl⟩ := str_kind hv
      repeat (first | (first | with_reducible refine tr_seq ?_ | with_reducible refine tr_asg ?_ | with_reducible refine tr_asg2 ?_ | with_reducible refine tr_expr ?_ | with_reducible refine tr_ret ?_ | with_reducible refine tr_if ?_ | with_reducible refine tr_next ?_ | with_reducible refine tr_c ?_ | with_reducible refine tr_bin ?_ | with_reducible refine tr_un ?_ | with_reducible refine tr_cons ?_ | with_reducible refine tr_nil ?_ | with_reducible refine tr_call ?_ | with_reducible refine tr_tB ?_ | with_reducible refine tr_tAnd ?_ | with_reducible refine tr_tOr ?_ | with_reducible refine tr_tNot ?_ | with_reducible refine tr_tYes ?_ | with_reducible refine tr_mtL ?_ | with_reducible refine tr_mtS ?_ | with_reducible refine tr_sl ?_ | with_reducible refine tr_oN ?_ | with_reducible refine tr_oS ?_ | with_reducible refine tr_lc ?_ | with_reducible refine tr_lcM ?_ | with_reducible refine tr_for ?_ | with_reducible refine tr_frz ?_ | with_reducible refine tr_tup ?_ | with_reducible refine tr_lst ?_ | with_reducible refine tr_lstM ?_ | with_reducible refine tr_isi ?_ | with_reducible refine tr_fmt ?_ | with_reducible refine tr_and ?_ | with_reducible refine tr_or ?_ | with_reducible refine tr_not ?_ | with_reducible refine tr_iSeq ?_ | with_reducible refine tr_lcL ?_ | with_reducible refine tr_fld ?_ | with_reducible refine tr_it ?_ | with_reducible refine tr_ie ?_ | refine tr_var rfl ?_ | dsimp only [Bool.false_eq_true, if_true, if_false]) | refine tr_itc rfl ?_ | refine tr_iec rfl ?_ | refine ⟨Nat.le_of_ble_eq_true rfl, ?_⟩ | refine ⟨_, rfl, ?_⟩ | refine ⟨_, _, rfl, ?_⟩ | ((fail_if_success (with_reducible refine stopd ?_)); (fail_if_success (with_reducible refine stopp ?_)); refine tr_eq rfl ?_))
      exact (show RowOk (.tup [.str s_18_, .str zv, .str zo, .str zt, .int a]) ∧ _ from ⟨.step hv ho ht h1 h2, L1.trans L2⟩)
    · repeat (first | (first | with_reducible refine tr_seq ?_ | with_reducible refine tr_asg ?_ | with_reducible refine tr_asg2 ?_ | with_reducible refine tr_expr ?_ | with_reducible refine tr_ret ?_ | with_reducible refine tr_if ?_ | with_reducible refine tr_next ?_ | with_reducible refine tr_c ?_ | with_reducible refine tr_bin ?_ | with_reducible refine tr_un ?_ | with_reducible refine tr_cons ?_ | with_reducible refine tr_nil ?_ | with_reducible refine tr_call ?_ | with_reducible refine tr_tB ?_ | with_reducible refine tr_tAnd ?_ | with_reducible refine tr_tOr ?_ | with_reducible refine tr_tNot ?_ | with_reducible refine tr_tYes ?_ | with_reducible refine tr_mtL ?_ | with_reducible refine tr_mtS ?_ | with_reducible refine tr_sl ?_ | with_reducible refine tr_oN ?_ | with_reducible refine tr_oS ?_ | with_reducible refine tr_lc ?_ | with_reducible refine tr_lcM ?_ | with_reducible refine tr_for ?_ | with_reducible refine tr_frz ?_ | with_reducible refine tr_tup ?_ | with_reducible refine tr_lst ?_ | with_reducible refine tr_lstM ?_ | with_reducible refine tr_isi ?_ | with_reducible refine tr_fmt ?_ | with_reducible refine tr_and ?_ | with_reducible refine tr_or ?_ | with_reducible refine tr_not ?_ | with_reducible refine tr_iSeq ?_ | with_reducible refine tr_lcL ?_ | with_reducible refine tr_fld ?_ | with_reducible refine tr_it ?_ | with_reducible refine tr_ie ?_ | refine tr_var rfl ?_ | dsimp only [Bool.false_eq_true, if_true, if_false]) | refine tr_itc rfl ?_ | refine tr_iec rfl ?_ | refine ⟨Nat.le_of_ble_eq_true rfl, ?_⟩ | refine ⟨_, rfl, ?_⟩ | refine ⟨_, _, rfl, ?_⟩ | ((fail_if_success (with_reducible refine stopd ?_)); (fail_if_success (with_reducible refine stopp ?_)); refine tr_eq rfl ?_))
      refine pk L1.deal hm.ne (by omega) fun v S2 hv L2 => ?_
      obtain ⟨zv, rfl⟩ := str_old (n_old (hm.sub _ hv))
      repeat (first | (first | with_reducible refine tr_seq ?_ | with_reducible refine tr_asg ?_ | with_reducible refine tr_asg2 ?_ | with_reducible refine tr_expr ?_ | with_reducible refine tr_ret ?_ | with_reducible refine tr_if ?_ | with_reducible refine tr_next ?_ | with_reducible refine tr_c ?_ | with_reducible refine tr_bin ?_ | with_reducible refine tr_un ?_ | with_reducible refine tr_cons ?_ | with_reducible refine tr_nil ?_ | with_reducible refine tr_call ?_ | with_reducible refine tr_tB ?_ | with_reducible refine tr_tAnd ?_ | with_reducible refine tr_tOr ?_ | with_reducible refine tr_tNot ?_ | with_reducible refine tr_tYes ?_ | with_reducible refine tr_mtL ?_ | with_reducible refine tr_mtS ?_ | with_reducible refine tr_sl ?_ | with_reducible refine tr_oN ?_ | with_reducible refine tr_oS ?_ | with_reducible refine tr_lc ?_ | with_reducible refine tr_lcM ?_ | with_reducible refine tr_for ?_ | with_reducible refine tr_frz ?_ | with_reducible refine tr_tup ?_ | with_reducible refine tr_lst ?_ | with_reducible refine tr_lstM ?_ | with_reducible refine tr_isi ?_ | with_reducible refine tr_fmt ?_ | with_reducible refine tr_and ?_ | with_reducible refine tr_or ?_ | with_reducible refine tr_not ?_ | with_reducible refine tr_iSeq ?_ | with_reducible refine tr_lcL ?_ | with_reducible refine tr_fld ?_ | with_reducible refine tr_it ?_ | with_reducible refine tr_ie ?_ | refine tr_var rfl ?_ | dsimp only [Bool.false_eq_true, if_true, if_false]) | refine tr_itc rfl ?_ | refine tr_iec rfl ?_ | refine ⟨Nat.le_of_ble_eq_true rfl, ?_⟩ | refine ⟨_, rfl, ?_⟩ | refine ⟨_, _, rfl, ?_⟩ | ((fail_if_success (with_reducible refine stopd ?_)); (fail_if_success (with_reducible refine stopp ?_)); refine tr_eq rfl ?_))
      exact (show RowOk (.tup [.str s_18_, .str zk, .str zv, .str zt, .int a]) ∧ _ from ⟨.step hk (n_old (hm.sub _ hv)) ht h1 h2, L1.trans L2⟩)
    · repeat (first | (first | with_reducible refine tr_seq ?_ | with_reducible refine tr_asg ?_ | with_reducible refine tr_asg2 ?_ | with_reducible refine tr_expr ?_ | with_reducible refine tr_ret ?_ | with_reducible refine tr_if ?_ | with_reducible refine tr_next ?_ | with_reducible refine tr_c ?_ | with_reducible refine tr_bin ?_ | with_reducible refine tr_un ?_ | with_reducible refine tr_cons ?_ | with_reducible refine tr_nil ?_ | with_reducible refine tr_call ?_ | with_reducible refine tr_tB ?_ | with_reducible refine tr_tAnd ?_ | with_reducible refine tr_tOr ?_ | with_reducible refine tr_tNot ?_ | with_reducible refine tr_tYes ?_ | with_reducible refine tr_mtL ?_ | with_reducible refine tr_mtS ?_ | with_reducible refine tr_sl ?_ | with_reducible refine tr_oN ?_ | with_reducible refine tr_oS ?_ | with_reducible refine tr_lc ?_ | with_reducible refine tr_lcM ?_ | with_reducible refine tr_for ?_ | with_reducible refine tr_frz ?_ | with_reducible refine tr_tup ?_ | with_reducible refine tr_lst ?_ | with_reducible refine tr_lstM ?_ | with_reducible refine tr_isi ?_ | with_reducible refine tr_fmt ?_ | with_reducible refine tr_and ?_ | with_reducible refine tr_or ?_ | with_reducible refine tr_not ?_ | with_reducible refine tr_iSeq ?_ | with_reducible refine tr_lcL ?_ | with_reducible refine tr_fld ?_ | with_reducible refine tr_it ?_ | with_reducible refine tr_ie ?_ | refine tr_var rfl ?_ | dsimp only [Bool.false_eq_true, if_true, if_false]) | refine tr_itc rfl ?_ | refine tr_iec rfl ?_ | refine ⟨Nat.le_of_ble_eq_true rfl, ?_⟩ | refine ⟨_, rfl, ?_⟩ | refine ⟨_, _, rfl, ?_⟩ | ((fail_if_success (with_reducible refine stopd ?_)); (fail_if_success (with_reducible refine stopp ?_)); refine tr_eq rfl ?_))
      refine pk L1.deal hm.ne (by omega) fun v S2 hv L2 => ?_
      obtain ⟨zv, rfl⟩ := str_old (n_old (hm.sub _ hv))
      repeat (first | (first | with_reducible refine tr_seq ?_ | with_reducible refine tr_asg ?_ | with_reducible refine tr_asg2 ?_ | with_reducible refine tr_expr ?_ | with_reducible refine tr_ret ?_ | with_reducible refine tr_if ?_ | with_reducible refine tr_next ?_ | with_reducible refine tr_c ?_ | with_reducible refine tr_bin ?_ | with_reducible refine tr_un ?_ | with_reducible refine tr_cons ?_ | with_reducible refine tr_nil ?_ | with_reducible refine tr_call ?_ | with_reducible refine tr_tB ?_ | with_reducible refine tr_tAnd ?_ | with_reducible refine tr_tOr ?_ | with_reducible refine tr_tNot ?_ | with_reducible refine tr_tYes ?_ | with_reducible refine tr_mtL ?_ | with_reducible refine tr_mtS ?_ | with_reducible refine tr_sl ?_ | with_reducible refine tr_oN ?_ | with_reducible refine tr_oS ?_ | with_reducible refine tr_lc ?_ | with_reducible refine tr_lcM ?_ | with_reducible refine tr_for ?_ | with_reducible refine tr_frz ?_ | with_reducible refine tr_tup ?_ | with_reducible refine tr_lst ?_ | with_reducible refine tr_lstM ?_ | with_reducible refine tr_isi ?_ | with_reducible refine tr_fmt ?_ | with_reducible refine tr_and ?_ | with_reducible refine tr_or ?_ | with_reducible refine tr_not ?_ | with_reducible refine tr_iSeq ?_ | with_reducible refine tr_lcL ?_ | with_reducible refine tr_fld ?_ | with_reducible refine tr_it ?_ | with_reducible refine tr_ie ?_ | refine tr_var rfl ?_ | dsimp only [Bool.false_eq_true, if_true, if_false]) | refine tr_itc rfl ?_ | refine tr_iec rfl ?_ | refine ⟨Nat.le_of_ble_eq_true rfl, ?_⟩ | refine ⟨_, rfl, ?_⟩ | refine ⟨_, _, rfl, ?_⟩ | ((fail_if_success (with_reducible refine stopd ?_)); (fail_if_success (with_reducible refine stopp ?_)); refine tr_eq rfl ?_))
      exact (show RowOk (.tup [.str s_18_, .str zk, .str zo, .str zv, .int a]) ∧ _ from ⟨.step hk ho (n_then (hm.sub _ hv)) h1 h2, L1.trans L2⟩)
    · repeat (first | (first | with_reducible refine tr_seq ?_ | with_reducible refine tr_asg ?_ | with_reducible refine tr_asg2 ?_ | with_reducible refine tr_expr ?_ | with_reducible refine tr_ret ?_ | with_reducible refine tr_if ?_ | with_reducible refine tr_next ?_ | with_reducible refine tr_c ?_ | with_reducible refine tr_bin ?_ | with_reducible refine tr_un ?_ | with_reducible refine tr_cons ?_ | with_reducible refine tr_nil ?_ | with_reducible refine tr_call ?_ | with_reducible refine tr_tB ?_ | with_reducible refine tr_tAnd ?_ | with_reducible refine tr_tOr ?_ | with_reducible refine tr_tNot ?_ | with_reducible refine tr_tYes ?_ | with_reducible refine tr_mtL ?_ | with_reducible refine tr_mtS ?_ | with_reducible refine tr_sl ?_ | with_reducible refine tr_oN ?_ | with_reducible refine tr_oS ?_ | with_reducible refine tr_lc ?_ | with_reducible refine tr_lcM ?_ | with_reducible refine tr_for ?_ | with_reducible refine tr_frz ?_ | with_reducible refine tr_tup ?_ | with_reducible refine tr_lst ?_ | with_reducible refine tr_lstM ?_ | with_reducible refine tr_isi ?_ | with_reducible refine tr_fmt ?_ | with_reducible refine tr_and ?_ | with_reducible refine tr_or ?_ | with_reducible refine tr_not ?_ | with_reducible refine tr_iSeq ?_ | with_reducible refine tr_lcL ?_ | with_reducible refine tr_fld ?_ | with_reducible refine tr_it ?_ | with_reducible refine tr_ie ?_ | refine tr_var rfl ?_ | dsimp only [Bool.false_eq_true, if_true, if_false]) | refine tr_itc rfl ?_ | refine tr_iec rfl ?_ | refine ⟨Nat.le_of_ble_eq_true rfl, ?_⟩ | refine ⟨_, rfl, ?_⟩ | refine ⟨_, _, rfl, ?_⟩ | ((fail_if_success (with_reducible refine stopd ?_)); (fail_if_success (with_reducible refine stopp ?_)); refine tr_eq rfl ?_))
      refine dw L1.deal (by decide) (by decide) fun j S2 hj L2 => ?_
      repeat (first | (first | with_reducible refine tr_seq ?_ | with_reducible refine tr_asg ?_ | with_reducible refine tr_asg2 ?_ | with_reducible refine tr_expr ?_ | with_reducible refine tr_ret ?_ | with_reducible refine tr_if ?_ | with_reducible refine tr_next ?_ | with_reducible refine tr_c ?_ | with_reducible refine tr_bin ?_ | with_reducible refine tr_un ?_ | with_reducible refine tr_cons ?_ | with_reducible refine tr_nil ?_ | with_reducible refine tr_call ?_ | with_reducible refine tr_tB ?_ | with_reducible refine tr_tAnd ?_ | with_reducible refine tr_tOr ?_ | with_reducible refine tr_tNot ?_ | with_reducible refine tr_tYes ?_ | with_reducible refine tr_mtL ?_ | with_reducible refine tr_mtS ?_ | with_reducible refine tr_sl ?_ | with_reducible refine tr_oN ?_ | with_reducible refine tr_oS ?_ | with_reducible refine tr_lc ?_ | with_reducible refine tr_lcM ?_ | with_reducible refine tr_for ?_ | with_reducible refine tr_frz ?_ | with_reducible refine tr_tup ?_ | with_reducible refine tr_lst ?_ | with_reducible refine tr_lstM ?_ | with_reducible refine tr_isi ?_ | with_reducible refine tr_fmt ?_ | with_reducible refine tr_and ?_ | with_reducible refine tr_or ?_ | with_reducible refine tr_not ?_ | with_reducible refine tr_iSeq ?_ | with_reducible refine tr_lcL ?_ | with_reducible refine tr_fld ?_ | with_reducible refine tr_it ?_ | with_reducible refine tr_ie ?_ | refine tr_var rfl ?_ | dsimp only [Bool.false_eq_true, if_true, if_false]) | refine tr_itc rfl ?_ | refine tr_iec rfl ?_ | refine ⟨Nat.le_of_ble_eq_true rfl, ?_⟩ | refine ⟨_, rfl, ?_⟩ | refine ⟨_, _, rfl, ?_⟩ | ((fail_if_success (with_reducible refine stopd ?_)); (fail_if_success (with_reducible refine stopp ?_)); refine tr_eq rfl ?_))
      exact (show RowOk (.tup [.str s_18_, .str zk, .str zo, .str zt, .int (j - 1)]) ∧ _ from ⟨.step hk ho ht (by omega) (by omega), L1.trans L2⟩)
  | @join x y t a hx hy ht h1 h2 =>
    obtain ⟨zx, rfl⟩ := str_old hx
    obtain ⟨zy, rfl⟩ := str_old hy
    obtain ⟨zt, rfl⟩ := str_thenJ ht
    repeat (first | with_reducible refine tr_seq ?_ | with_reducible refine tr_asg ?_ | with_reducible refine tr_asg2 ?_ | with_reducible refine tr_expr ?_ | with_reducible refine tr_ret ?_ | with_reducible refine tr_if ?_ | with_reducible refine tr_next ?_ | with_reducible refine tr_c ?_ | with_reducible refine tr_bin ?_ | with_reducible refine tr_un ?_ | with_reducible refine tr_cons ?_ | with_reducible refine tr_nil ?_ | with_reducible refine tr_call ?_ | with_reducible refine tr_tB ?_ | with_reducible refine tr_tAnd ?_ | with_reducible refine tr_tOr ?_ | with_reducible refine tr_tNot ?_ | with_reducible refine tr_tYes ?_ | with_reducible refine tr_mtL ?_ | with_reducible refine tr_mtS ?_ | with_reducible refine tr_sl ?_ | with_reducible refine tr_oN ?_ | with_reducible refine tr_oS ?_ | with_reducible refine tr_lc ?_ | with_reducible refine tr_lcM ?_ | with_reducible refine tr_for ?_ | with_reducible refine tr_frz ?_ | with_reducible refine tr_tup ?_ | with_reducible refine tr_lst ?_ | with_reducible refine tr_lstM ?_ | with_reducible refine tr_isi ?_ | with_reducible refine tr_fmt ?_ | with_reducible refine tr_and ?_ | with_reducible refine tr_or ?_ | with_reducible refine tr_not ?_ | with_reducible refine tr_iSeq ?_ | with_reducible refine tr_lcL ?_ | with_reducible refine tr_fld ?_ | with_reducible refine tr_it ?_ | with_reducible refine tr_ie ?_ | refine tr_var rfl ?_ | dsimp only [Bool.false_eq_true, if_true, if_false])
    refine tr_eq (show fLen [.tup [.str s_8_, .str zx, .str zy, .str zt, .int a]] S = .ok (.int 5) S from rfl) ?_
    repeat (first | (first | with_reducible refine tr_seq ?_ | with_reducible refine tr_asg ?_ | with_reducible refine tr_asg2 ?_ | with_reducible refine tr_expr ?_ | with_reducible refine tr_ret ?_ | with_reducible refine tr_if ?_ | with_reducible refine tr_next ?_ | with_reducible refine tr_c ?_ | with_reducible refine tr_bin ?_ | with_reducible refine tr_un ?_ | with_reducible refine tr_cons ?_ | with_reducible refine tr_nil ?_ | with_reducible refine tr_call ?_ | with_reducible refine tr_tB ?_ | with_reducible refine tr_tAnd ?_ | with_reducible refine tr_tOr ?_ | with_reducible refine tr_tNot ?_ | with_reducible refine tr_tYes ?_ | with_reducible refine tr_mtL ?_ | with_reducible refine tr_mtS ?_ | with_reducible refine tr_sl ?_ | with_reducible refine tr_oN ?_ | with_reducible refine tr_oS ?_ | with_reducible refine tr_lc ?_ | with_reducible refine tr_lcM ?_ | with_reducible refine tr_for ?_ | with_reducible refine tr_frz ?_ | with_reducible refine tr_tup ?_ | with_reducible refine tr_lst ?_ | with_reducible refine tr_lstM ?_ | with_reducible refine tr_isi ?_ | with_reducible refine tr_fmt ?_ | with_reducible refine tr_and ?_ | with_reducible refine tr_or ?_ | with_reducible refine tr_not ?_ | with_reducible refine tr_iSeq ?_ | with_reducible refine tr_lcL ?_ | with_reducible refine tr_fld ?_ | with_reducible refine tr_it ?_ | with_reducible refine tr_ie ?_ | refine tr_var rfl ?_ | dsimp only [Bool.false_eq_true, if_true, if_false]) | refine tr_itc rfl ?_ | refine tr_iec rfl ?_ | refine ⟨Nat.le_of_ble_eq_true rfl, ?_⟩ | refine ⟨_, rfl, ?_⟩ | refine ⟨_, _, rfl, ?_⟩ | ((fail_if_success (with_reducible refine stopd ?_)); (fail_if_success (with_reducible refine stopp ?_)); refine tr_eq rfl ?_))
    refine dw h (by decide) (by decide) fun i S1 hi L1 => ?_
    have hi4 : i = 0 ∨ i = 1 ∨ i = 2 ∨ i = 3 := by omega
    rcases hi4 with rfl | rfl | rfl | rfl
    · repeat (first | (first | with_reducible refine tr_seq ?_ | with_reducible refine tr_asg ?_ | with_reducible refine tr_asg2 ?_ | with_reducible refine tr_expr ?_ | with_reducible refine tr_ret ?_ | with_reducible refine tr_if ?_ | with_reducible refine tr_next ?_ | with_reducible refine tr_c ?_ | with_reducible refine tr_bin ?_ | with_reducible refine tr_un ?_ | with_reducible refine tr_cons ?_ | with_reducible refine tr_nil ?_ | with_reducible refine tr_call ?_ | with_reducible refine tr_tB ?_ | with_reducible refine tr_tAnd ?_ | with_reducible refine tr_tOr ?_ | with_reducible refine tr_tNot ?_ | with_reducible refine tr_tYes ?_ | with_reducible refine tr_mtL ?_ | with_reducible refine tr_mtS ?_ | with_reducible refine tr_sl ?_ | with_reducible refine tr_oN ?_ | with_reducible refine tr_oS ?_ | with_reducible refine tr_lc ?_ | with_reducible refine tr_lcM ?_ | with_reducible refine tr_for ?_ | with_reducible refine tr_frz ?_ | with_reducible refine tr_tup ?_ | with_reducible refine tr_lst ?_ | with_reducible refine tr_lstM ?_ | with_reducible refine tr_isi ?_ | with_reducible refine tr_fmt ?_ | with_reducible refine tr_and ?_ | with_reducible refine tr_or ?_ | with_reducible refine tr_not ?_ | with_reducible refine tr_iSeq ?_ | with_reducible refine tr_lcL ?_ | with_reducible refine tr_fld ?_ | with_reducible refine tr_it ?_ | with_reducible refine tr_ie ?_ | refine tr_var rfl ?_ | dsimp only [Bool.false_eq_true, if_true, if_false]) | refine tr_itc rfl ?_ | refine tr_iec rfl ?_ | refine ⟨Nat.le_of_ble_eq_true rfl, ?_⟩ | refine ⟨_, rfl, ?_⟩ | refine ⟨_, _, rfl, ?_⟩ | ((fail_if_success (with_reducible refine stopd ?_)); (fail_if_success (with_reducible refine stopp ?_)); refine tr_eq rfl ?_))
      refine pk L1.deal hm.ne (by omega) fun v S2 hv L2 => ?_
      obtain ⟨zv, rfl⟩ := str_old (n_old (hm.sub _ hv))
      repeat (first | (first | with_reducible refine tr_seq ?_ | with_reducible refine tr_asg ?_ | with_reducible refine tr_asg2 ?_ | with_reducible refine tr_expr ?_ | with_reducible refine tr_ret ?_ | with_reducible refine tr_if ?_ | with_reducible refine tr_next ?_ | with_reducible refine tr_c ?_ | with_reducible refine tr_bin ?_ | with_reducible refine tr_un ?_ | with_reducible refine tr_cons ?_ | with_reducible refine tr_nil ?_ | with_reducible refine tr_call ?_ | with_reducible refine tr_tB ?_ | with_reducible refine tr_tAnd ?_ | with_reducible refine tr_tOr ?_ | with_reducible refine tr_tNot ?_ | with_reducible refine tr_tYes ?_ | with_reducible refine tr_mtL ?_ | with_reducible refine tr_mtS ?_ | with_reducible refine tr_sl ?_ | with_reducible refine tr_oN ?_ | with_reducible refine tr_oS ?_ | with_reducible refine tr_lc ?_ | with_reducible refine tr_lcM ?_ | with_reducible refine tr_for ?_ | with_reducible refine tr_frz ?_ | with_reducible refine tr_tup ?_ | with_reducible refine tr_lst ?_ | with_reducible refine tr_lstM ?_ | with_reducible refine tr_isi ?_ | with_reducible refine tr_fmt ?_ | with_reducible refine tr_and ?_ | with_reducible refine tr_or ?_ | with_reducible refine tr_not ?_ | with_reducible refine tr_iSeq ?_ | with_reducible refine tr_lcL ?_ | with_reducible refine tr_fld ?_ | with_reducible refine tr_it ?_ | with_reducible refine tr_ie ?_ | refine tr_var rfl ?_ | dsimp only [Bool.false_eq_true, if_true, if_false]) | refine tr_itc rfl ?_ | refine tr_iec rfl ?_ | refine ⟨Nat.le_of_ble_eq_true rfl, ?_⟩ | refine ⟨_, rfl, ?_⟩ | refine ⟨_, _, rfl, ?_⟩ | ((fail_if_success (with_reducible refine stopd ?_)); (fail_if_success (with_reducible refine stopp ?_)); refine tr_eq rfl ?_))
      exact (show RowOk (.tup [.str s_8_, .str zv, .str zy, .str zt, .int a]) ∧ _ from ⟨.join (n_old (hm.sub _ hv)) hy ht h1 h2, L1.trans L2⟩)
    · repeat (first | (first | with_reducible refine tr_seq ?_ | with_reducible refine tr_asg ?_ | with_reducible refine tr_asg2 ?_ | with_reducible refine tr_expr ?_ | with_reducible refine tr_ret ?_ | with_reducible refine tr_if ?_ | with_reducible refine tr_next ?_ | with_reducible refine tr_c ?_ | with_reducible refine tr_bin ?_ | with_reducible refine tr_un ?_ | with_reducible refine tr_cons ?_ | with_reducible refine tr_nil ?_ | with_reducible refine tr_call ?_ | with_reducible refine tr_tB ?_ | with_reducible refine tr_tAnd ?_ | with_reducible refine tr_tOr ?_ | with_reducible refine tr_tNot ?_ | with_reducible refine tr_tYes ?_ | with_reducible refine tr_mtL ?_ | with_reducible refine tr_mtS ?_ | with_reducible refine tr_sl ?_ | with_reducible refine tr_oN ?_ | with_reducible refine tr_oS ?_ | with_reducible refine tr_lc ?_ | with_reducible refine tr_lcM ?_ | with_reducible refine tr_for ?_ | with_reducible refine tr_frz ?_ | with_reducible refine tr_tup ?_ | with_reducible refine tr_lst ?_ | with_reducible refine tr_lstM ?_ | with_reducible refine tr_isi ?_ | with_reducible refine tr_fmt ?_ | with_reducible refine tr_and ?_ | with_reducible refine tr_or ?_ | with_reducible refine tr_not ?_ | with_reducible refine tr_iSeq ?_ | with_reducible refine tr_lcL ?_ | with_reducible refine tr_fld ?_ | with_reducible refine tr_it ?_ | with_reducible refine tr_ie ?_ | refine tr_var rfl ?_ | dsimp only [Bool.false_eq_true, if_true, if_false]) | refine tr_itc rfl ?_ | refine tr_iec rfl ?_ | refine ⟨Nat.le_of_ble_eq_true rfl, ?_⟩ | refine ⟨_, rfl, ?_⟩ | refine ⟨_, _, rfl, ?_⟩ | ((fail_if_success (with_reducible refine stopd ?_)); (fail_if_success (with_reducible refine stopp ?_)); refine tr_eq rfl ?_))
      refine pk L1.deal hm.ne (by omega) fun v S2 hv L2 => ?_
      obtain ⟨zv, rfl⟩ := str_old (n_old (hm.sub _ hv))
      repeat (first | (first | with_reducible refine tr_seq ?_ | with_reducible refine tr_asg ?_ | with_reducible refine tr_asg2 ?_ | with_reducible refine tr_expr ?_ | with_reducible refine tr_ret ?_ | with_reducible refine tr_if ?_ | with_reducible refine tr_next ?_ | with_reducible refine tr_c ?_ | with_reducible refine tr_bin ?_ | with_reducible refine tr_un ?_ | with_reducible refine tr_cons ?_ | with_reducible refine tr_nil ?_ | with_reducible refine tr_call ?_ | with_reducible refine tr_tB ?_ | with_reducible refine tr_tAnd ?_ | with_reducible refine tr_tOr ?_ | with_reducible refine tr_tNot ?_ | with_reducible refine tr_tYes ?_ | with_reducible refine tr_mtL ?_ | with_reducible refine tr_mtS ?_ | with_reducible refine tr_sl ?_ | with_reducible refine tr_oN ?_ | with_reducible refine tr_oS ?_ | with_reducible refine tr_lc ?_ | with_reducible refine tr_lcM ?_ | with_reducible refine tr_for ?_ | with_reducible refine tr_frz ?_ | with_reducible refine tr_tup ?_ | with_reducible refine tr_lst ?_ | with_reducible refine tr_lstM ?_ | with_reducible refine tr_isi ?_ | with_reducible refine tr_fmt ?_ | with_reducible refine tr_and ?_ | with_reducible refine tr_or ?_ | with_reducible refine tr_not ?_ | with_reducible refine tr_iSeq ?_ | with_reducible refine tr_lcL ?_ | with_reducible refine tr_fld ?_ | with_reducible refine tr_it ?_ | with_reducible refine tr_ie ?_ | refine tr_var rfl ?_ | dsimp only [Bool.false_eq_true, if_true, if_false]) | refine tr_itc rfl ?_ | refine tr_iec rfl ?_ | refine ⟨Nat.le_of_ble_eq_true rfl, ?_⟩ | refine ⟨_, rfl, ?_⟩ | refine ⟨_, _, rfl, ?_⟩ | ((fail_if_success (with_reducible refine stopd ?_)); (fail_if_success (with_reducible refine stopp ?_)); refine tr_eq rfl ?_))
      exact (show RowOk (.tup [.str s_8_, .str zx, .str zv, .str zt, .int a]) ∧ _ from ⟨.join hx (n_old (hm.sub _ hv)) ht h1 h2, L1.trans L2⟩)
    · repeat (first | (first | with_reducible refine tr_seq ?_ | with_reducible refine tr_asg ?_ | with_reducible refine tr_asg2 ?_ | with_reducible refine tr_expr ?_ | with_reducible refine tr_ret ?_ | with_reducible refine tr_if ?_ | with_reducible refine tr_next ?_ | with_reducible refine tr_c ?_ | with_reducible refine tr_bin ?_ | with_reducible refine tr_un ?_ | with_reducible refine tr_cons ?_ | with_reducible refine tr_nil ?_ | with_reducible refine tr_call ?_ | with_reducible refine tr_tB ?_ | with_reducible refine tr_tAnd ?_ | with_reducible refine tr_tOr ?_ | with_reducible refine tr_tNot ?_ | with_reducible refine tr_tYes ?_ | with_reducible refine tr_mtL ?_ | with_reducible refine tr_mtS ?_ | with_reducible refine tr_sl ?_ | with_reducible refine tr_oN ?_ | with_reducible refine tr_oS ?_ | with_reducible refine tr_lc ?_ | with_reducible refine tr_lcM ?_ | with_reducible refine tr_for ?_ | with_reducible refine tr_frz ?_ | with_reducible refine tr_tup ?_ | with_reducible refine tr_lst ?_ | with_reducible refine tr_lstM ?_ | with_reducible refine tr_isi ?_ | with_reducible refine tr_fmt ?_ | with_reducible refine tr_and ?_ | with_reducible refine tr_or ?_ | with_reducible refine tr_not ?_ | with_reducible refine tr_iSeq ?_ | with_reducible refine tr_lcL ?_ | with_reducible refine tr_fld ?_ | with_reducible refine tr_it ?_ | with_reducible refine tr_ie ?_ | refine tr_var rfl ?_ | dsimp only [Bool.false_eq_true, if_true, if_false]) | refine tr_itc rfl ?_ | refine tr_iec rfl ?_ | refine ⟨Nat.le_of_ble_eq_true rfl, ?_⟩ | refine ⟨_, rfl, ?_⟩ | refine ⟨_, _, rfl, ?_⟩ | ((fail_if_success (with_reducible refine stopd ?_)); (fail_if_success (with_reducible refine stopp ?_)); refine tr_eq rfl ?_))
      refine pk L1.deal hm.ne (by omega) fun v S2 hv L2 => ?_
      obtain ⟨zv, rfl⟩ := str_old (n_old (hm.sub _ hv))
      repeat (first | (first | with_reducible refine tr_seq ?_ | with_reducible refine tr_asg ?_ | with_reducible refine tr_asg2 ?_ | with_reducible refine tr_expr ?_ | with_reducible refine tr_ret ?_ | with_reducible refine tr_if ?_ | with_reducible refine tr_next ?_ | with_reducible refine tr_c ?_ | with_reducible refine tr_bin ?_ | with_reducible refine tr_un ?_ | with_reducible refine tr_cons ?_ | with_reducible refine tr_nil ?_ | with_reducible refine tr_call ?_ | with_reducible refine tr_tB ?_ | with_reducible refine tr_tAnd ?_ | with_reducible refine tr_tOr ?_ | with_reducible refine tr_tNot ?_ | with_reducible refine tr_tYes ?_ | with_reducible refine tr_mtL ?_ | with_reducible refine tr_mtS ?_ | with_reducible refine tr_sl ?_ | with_reducible refine tr_oN ?_ | with_reducible refine tr_oS ?_ | with_reducible refine tr_lc ?_ | with_reducible refine tr_lcM ?_ | with_reducible refine tr_for ?_ | with_reducible refine tr_frz ?_ | with_reducible refine tr_tup ?_ | with_reducible refine tr_lst ?_ | with_reducible refine tr_lstM ?_ | with_reducible refine tr_isi ?_ | with_reducible refine tr_fmt ?_ | with_reducible refine tr_and ?_ | with_reducible refine tr_or ?_ | with_reducible refine tr_not ?_ | with_reducible refine tr_iSeq ?_ | with_reducible refine tr_lcL ?_ | with_reducible refine tr_fld ?_ | with_reducible refine tr_it ?_ | with_reducible refine tr_ie ?_ | refine tr_var rfl ?_ | dsimp only [Bool.false_eq_true, if_true, if_false]) | refine tr_itc rfl ?_ | refine tr_iec rfl ?_ | refine ⟨Nat.le_of_ble_eq_true rfl, ?_⟩ | refine ⟨_, rfl, ?_⟩ | refine ⟨_, _, rfl, ?_⟩ | ((fail_if_success (with_reducible refine stopd ?_)); (fail_if_success (with_reducible refine stopp ?_)); refine tr_eq rfl ?_))
      exact (show RowOk (.tup [.str s_8_, .str zx, .str zy, .str zv, .int a]) ∧ _ from ⟨.join hx hy (n_thenJ (hm.sub _ hv)) h1 h2, L1.trans L2⟩)
    · repeat (first | (first | with_reducible refine tr_seq ?_ | with_reducible refine tr_asg ?_ | with_reducible refine tr_asg2 ?_ | with_reducible refine tr_expr ?_ | with_reducible refine tr_ret ?_ | with_reducible refine tr_if ?_ | with_reducible refine tr_next ?_ | with_reducible refine tr_c ?_ | with_reducible refine tr_bin ?_ | with_reducible refine tr_un ?_ | with_reducible refine tr_cons ?_ | with_reducible refine tr_nil ?_ | with_reducible refine tr_call ?_ | with_reducible refine tr_tB ?_ | with_reducible refine tr_tAnd ?_ | with_reducible refine tr_tOr ?_ | with_reducible refine tr_tNot ?_ | with_reducible refine tr_tYes ?_ | with_reducible refine tr_mtL ?_ | with_reducible refine tr_mtS ?_ | with_reducible refine tr_sl ?_ | with_reducible refine tr_oN ?_ | with_reducible refine tr_oS ?_ | with_reducible refine tr_lc ?_ | with_reducible refine tr_lcM ?_ | with_reducible refine tr_for ?_ | with_reducible refine tr_frz ?_ | with_reducible refine tr_tup ?_ | with_reducible refine tr_lst ?_ | with_reducible refine tr_lstM ?_ | with_reducible refine tr_isi ?_ | with_reducible refine tr_fmt ?_ | with_reducible refine tr_and ?_ | with_reducible refine tr_or ?_ | with_reducible refine tr_not ?_ | with_reducible refine tr_iSeq ?_ | with_reducible refine tr_lcL ?_ | with_reducible refine tr_fld ?_ | with_reducible refine tr_it ?_ | with_reducible refine tr_ie ?_ | refine tr_var rfl ?_ | dsimp only [Bool.false_eq_true, if_true, if_false]) | refine tr_itc rfl ?_ | refine tr_iec rfl ?_ | refine ⟨Nat.le_of_ble_eq_true rfl, ?_⟩ | refine ⟨_, rfl, ?_⟩ | refine ⟨_, _, rfl, ?_⟩ | ((fail_if_success (with_reducible refine stopd ?_)); (fail_if_success (with_reducible refine stopp ?_)); refine tr_eq rfl ?_))
      refine dw L1.deal (by decide) (by decide) fun j S2 hj L2 => ?_
      repeat (first | (first | with_reducible refine tr_seq ?_ | with_reducible refine tr_asg ?_ | with_reducible refine tr_asg2 ?_ | with_reducible refine tr_expr ?_ | with_reducible refine tr_ret ?_ | with_reducible refine tr_if ?_ | with_reducible refine tr_next ?_ | with_reducible refine tr_c ?_ | with_reducible refine tr_bin ?_ | with_reducible refine tr_un ?_ | with_reducible refine tr_cons ?_ | with_reducible refine tr_nil ?_ | with_reducible refine tr_call ?_ | with_reducible refine tr_tB ?_ | with_reducible refine tr_tAnd ?_ | with_reducible refine tr_tOr ?_ | with_reducible refine tr_tNot ?_ | with_reducible refine tr_tYes ?_ | with_reducible refine tr_mtL ?_ | with_reducible refine tr_mtS ?_ | with_reducible refine tr_sl ?_ | with_reducible refine tr_oN ?_ | with_reducible refine tr_oS ?_ | with_reducible refine tr_lc ?_ | with_reducible refine tr_lcM ?_ | with_reducible refine tr_for ?_ | with_reducible refine tr_frz ?_ | with_reducible refine tr_tup ?_ | with_reducible refine tr_lst ?_ | with_reducible refine tr_lstM ?_ | with_reducible refine tr_isi ?_ | with_reducible refine tr_fmt ?_ | with_reducible refine tr_and ?_ | with_reducible refine tr_or ?_ | with_reducible refine tr_not ?_ | with_reducible refine tr_iSeq ?_ | with_reducible refine tr_lcL ?_ | with_reducible refine tr_fld ?_ | with_reducible refine tr_it ?_ | with_reducible refine tr_ie ?_ | refine tr_var rfl ?_ | dsimp only [Bool.false_eq_true, if_true, if_false]) | refine tr_itc rfl ?_ | refine tr_iec rfl ?_ | refine ⟨Nat.le_of_ble_eq_true rfl, ?_⟩ | refine ⟨_, rfl, ?_⟩ | refine ⟨_, _, rfl, ?_⟩ | ((fail_if_success (with_reducible refine stopd ?_)); (fail_if_success (with_reducible refine stopp ?_)); refine tr_eq rfl ?_))
      exact (show RowOk (.tup [.str s_8_, .str zx, .str zy, .str zt, .int (j - 1)]) ∧ _ from ⟨.join hx hy ht (by omega) (by omega), L1.trans L2⟩)
  | @part o l r a b ho hl hr h1 h2 h3 h4 =>
    obtain ⟨zo, rfl⟩ := str_old ho
    obtain ⟨zl, rfl⟩ := str_then hl
    obtain ⟨zr, rfl⟩ := str_then hr
    repeat (first | with_reducible refine tr_seq ?_ | with_reducible refine tr_asg ?_ | with_reducible refine tr_asg2 ?_ | with_reducible refine tr_expr ?_ | with_reducible refine tr_ret ?_ | with_reducible refine tr_if ?_ | with_reducible refine tr_next ?_ | with_reducible refine tr_c ?_ | with_reducible refine tr_bin ?_ | with_reducible refine tr_un ?_ | with_reducible refine tr_cons ?_ | with_reducible refine tr_nil ?_ | with_reducible refine tr_call ?_ | with_reducible refine tr_tB ?_ | with_reducible refine tr_tAnd ?_ | with_reducible refine tr_tOr ?_ | with_reducible refine tr_tNot ?_ | with_reducible refine tr_tYes ?_ | with_reducible refine tr_mtL ?_ | with_reducible refine tr_mtS ?_ | with_reducible refine tr_sl ?_ | with_reducible refine tr_oN ?_ | with_reducible refine tr_oS ?_ | with_reducible refine tr_lc ?_ | with_reducible refine tr_lcM ?_ | with_reducible refine tr_for ?_ | with_reducible refine tr_frz ?_ | with_reducible refine tr_tup ?_ | with_reducible refine tr_lst ?_ | with_reducible refine tr_lstM ?_ | with_reducible refine tr_isi ?_ | with_reducible refine tr_fmt ?_ | with_reducible refine tr_and ?_ | with_reducible refine tr_or ?_ | with_reducible refine tr_not ?_ | with_reducible refine tr_iSeq ?_ | with_reducible refine tr_lcL ?_ | with_reducible refine tr_fld ?_ | with_reducible refine tr_it ?_ | with_reducible refine tr_ie ?_ | refine tr_var rfl ?_ | dsimp only [Bool.false_eq_true, if_true, if_false])
    refine tr_eq (show fLen [.tup [.str s_17_, .str zo, .str zl, .str zr, .int a, .int b]] S = .ok (.int 6) S from rfl) ?_
    repeat (first | (first | with_reducible refine tr_seq ?_ | with_reducible refine tr_asg ?_ | with_reducible refine tr_asg2 ?_ | with_reducible refine tr_expr ?_ | with_reducible refine tr_ret ?_ | with_reducible refine tr_if ?_ | with_reducible refine tr_next ?_ | with_reducible refine tr_c ?_ | with_reducible refine tr_bin ?_ | with_reducible refine tr_un ?_ | with_reducible refine tr_cons ?_ | with_reducible refine tr_nil ?_ | with_reducible refine tr_call ?_ | with_reducible refine tr_tB ?_ | with_reducible refine tr_tAnd ?_ | with_reducible refine tr_tOr ?_ | with_reducible refine tr_tNot ?_ | with_reducible refine tr_tYes ?_ | with_reducible refine tr_mtL ?_ | with_reducible refine tr_mtS ?_ | with_reducible refine tr_sl ?_ | with_reducible refine tr_oN ?_ | with_reducible refine tr_oS ?_ | with_reducible refine tr_lc ?_ | with_reducible refine tr_lcM ?_ | with_reducible refine tr_for ?_ | with_reducible refine tr_frz ?_ | with_reducible refine tr_tup ?_ | with_reducible refine tr_lst ?_ | with_reducible refine tr_lstM ?_ | with_reducible refine tr_isi ?_ | with_reducible refine tr_fmt ?_ | with_reducible refine tr_and ?_ | with_reducible refine tr_or ?_ | with_reducible refine tr_not ?_ | with_reducible refine tr_iSeq ?_ | with_reducible refine tr_lcL ?_ | with_reducible refine tr_fld ?_ | with_reducible refine tr_it ?_ | with_reducible refine tr_ie ?_ | refine tr_var rfl ?_ | dsimp only [Bool.false_eq_true, if_true, if_false]) | refine tr_itc rfl ?_ | refine tr_iec rfl ?_ | refine ⟨Nat.le_of_ble_eq_true rfl, ?_⟩ | refine ⟨_, rfl, ?_⟩ | refine ⟨_, _, rfl, ?_⟩ | ((fail_if_success (with_reducible refine stopd ?_)); (fail_if_success (with_reducible refine stopp ?_)); refine tr_eq rfl ?_))
    refine dw h (by decide) (by decide) fun i S1 hi L1 => ?_
    have hi4 : i = 0 ∨ i = 1 ∨ i = 2 ∨ i = 3 ∨ i = 4 := by omega
    rcases hi4 with rfl | rfl | rfl | rfl | rfl
    · repeat (first | (first | with_reducible refine tr_seq ?_ | with_reducible refine tr_asg ?_ | with_reducible refine tr_asg2 ?_ | with_reducible refine tr_expr ?_ | with_reducible refine tr_ret ?_ | with_reducible refine tr_if ?_ | with_reducible refine tr_next ?_ | with_reducible refine tr_c ?_ | with_reducible refine tr_bin ?_ | with_reducible refine tr_un ?_ | with_reducible refine tr_cons ?_ | with_reducible refine tr_nil ?_ | with_reducible refine tr_call ?_ | with_reducible refine tr_tB ?_ | with_reducible refine tr_tAnd ?_ | with_reducible refine tr_tOr ?_ | with_reducible refine tr_tNot ?_ | with_reducible refine tr_tYes ?_ | with_reducible refine tr_mtL ?_ | with_reducible refine tr_mtS ?_ | with_reducible refine tr_sl ?_ | with_reducible refine tr_oN ?_ | with_reducible refine tr_oS ?_ | with_reducible refine tr_lc ?_ | with_reducible refine tr_lcM ?_ | with_reducible refine tr_for ?_ | with_reducible refine tr_frz ?_ | with_reducible refine tr_tup ?_ | with_reducible refine tr_lst ?_ | with_reducible refine tr_lstM ?_ | with_reducible refine tr_isi ?_ | with_reducible refine tr_fmt ?_ | with_reducible refine tr_and ?_ | with_reducible refine tr_or ?_ | with_reducible refine tr_not ?_ | with_reducible refine tr_iSeq ?_ | with_reducible refine tr_lcL ?_ | with_reducible refine tr_fld ?_ | with_reducible refine tr_it ?_ | with_reducible refine tr_ie ?_ | refine tr_var rfl ?_ | dsimp only [Bool.false_eq_true, if_true, if_false]) | refine tr_itc rfl ?_ | refine tr_iec rfl ?_ | refine ⟨Nat.le_of_ble_eq_true rfl, ?_⟩ | refine ⟨_, rfl, ?_⟩ | refine ⟨_, _, rfl, ?_⟩ | ((fail_if_success (with_reducible refine stopd ?_)); (fail_if_success (with_reducible refine stopp ?_)); refine tr_eq rfl ?_))
      refine pk L1.deal hm.ne (by omega) fun v S2 hv L2 => ?_
      obtain ⟨zv, rfl⟩ := str_old (n_old (hm.sub _ hv))
      repeat (first | (first | with_reducible refine tr_seq ?_ | with_reducible refine tr_asg ?_ | with_reducible refine tr_asg2 ?_ | with_reducible refine tr_expr ?_ | with_reducible refine tr_ret ?_ | with_reducible refine tr_if ?_ | with_reducible refine tr_next ?_ | with_reducible refine tr_c ?_ | with_reducible refine tr_bin ?_ | with_reducible refine tr_un ?_ | with_reducible refine tr_cons ?_ | with_reducible refine tr_nil ?_ | with_reducible refine tr_call ?_ | with_reducible refine tr_tB ?_ | with_reducible refine tr_tAnd ?_ | with_reducible refine tr_tOr ?_ | with_reducible refine tr_tNot ?_ | with_reducible refine tr_tYes ?_ | with_reducible refine tr_mtL ?_ | with_reducible refine tr_mtS ?_ | with_reducible refine tr_sl ?_ | with_reducible refine tr_oN ?_ | with_reducible refine tr_oS ?_ | with_reducible refine tr_lc ?_ | with_reducible refine tr_lcM ?_ | with_reducible refine tr_for ?_ | with_reducible refine tr_frz ?_ | with_reducible refine tr_tup ?_ | with_reducible refine tr_lst ?_ | with_reducible refine tr_lstM ?_ | with_reducible refine tr_isi ?_ | with_reducible refine tr_fmt ?_ | with_reducible refine tr_and ?_ | with_reducible refine tr_or ?_ | with_reducible refine tr_not ?_ | with_reducible refine tr_iSeq ?_ | with_reducible refine tr_lcL ?_ | with_reducible refine tr_fld ?_ | with_reducible refine tr_it ?_ | with_reducible refine tr_ie ?_ | refine tr_var rfl ?_ | dsimp only [Bool.false_eq_true, if_true, if_false]) | refine tr_itc rfl ?_ | refine tr_iec rfl ?_ | refine ⟨Nat.le_of_ble_eq_true rfl, ?_⟩ | refine ⟨_, rfl, ?_⟩ | refine ⟨_, _, rfl, ?_⟩ | ((fail_if_success (with_reducible refine stopd ?_)); (fail_if_success (with_reducible refine stopp ?_)); refine tr_eq rfl ?_))
      exact (show RowOk (.tup [.str s_17_, .str zv, .str zl, .str zr, .int a, .int b]) ∧ _ from ⟨.part (n_old (hm.sub _ hv)) hl hr h1 h2 h3 h4, L1.trans L2⟩)
    · repeat (first | (first | with_reducible refine tr_seq ?_ | with_reducible refine tr_asg ?_ | with_reducible refine tr_asg2 ?_ | with_reducible refine tr_expr ?_ | with_reducible refine tr_ret ?_ | with_reducible refine tr_if ?_ | with_reducible refine tr_next ?_ | with_reducible refine tr_c ?_ | with_reducible refine tr_bin ?_ | with_reducible refine tr_un ?_ | with_reducible refine tr_cons ?_ | with_reducible refine tr_nil ?_ | with_reducible refine tr_call ?_ | with_reducible refine tr_tB ?_ | with_reducible refine tr_tAnd ?_ | with_reducible refine tr_tOr ?_ | with_reducible refine tr_tNot ?_ | with_reducible refine tr_tYes ?_ | with_reducible refine tr_mtL ?_ | with_reducible refine tr_mtS ?_ | with_reducible refine tr_sl ?_ | with_reducible refine tr_oN ?_ | with_reducible refine tr_oS ?_ | with_reducible refine tr_lc ?_ | with_reducible refine tr_lcM ?_ | with_reducible refine tr_for ?_ | with_reducible refine tr_frz ?_ | with_reducible refine tr_tup ?_ | with_reducible refine tr_lst ?_ | with_reducible refine tr_lstM ?_ | with_reducible refine tr_isi ?_ | with_reducible refine tr_fmt ?_ | with_reducible refine tr_and ?_ | with_reducible refine tr_or ?_ | with_reducible refine tr_not ?_ | with_reducible refine tr_iSeq ?_ | with_reducible refine tr_lcL ?_ | with_reducible refine tr_fld ?_ | with_reducible refine tr_it ?_ | with_reducible refine tr_ie ?_ | refine tr_var rfl ?_ | dsimp only [Bool.false_eq_true, if_true, if_false]) | refine tr_itc rfl ?_ | refine tr_iec rfl ?_ | refine ⟨Nat.le_of_ble_eq_true rfl, ?_⟩ | refine ⟨_, rfl, ?_⟩ | refine ⟨_, _, rfl, ?_⟩ | ((fail_if_success (with_reducible refine stopd ?_)); (fail_if_success (with_reducible refine stopp ?_)); refine tr_eq rfl ?_))
      refine pk L1.deal hm.ne (by omega) fun v S2 hv L2 => ?_
      obtain ⟨zv, rfl⟩ := str_old (n_old (hm.sub _ hv))
      repeat (first | (first | with_reducible refine tr_seq ?_ | with_reducible refine tr_asg ?_ | with_reducible refine tr_asg2 ?_ | with_reducible refine tr_expr ?_ | with_reducible refine tr_ret ?_ | with_reducible refine tr_if ?_ | with_reducible refine tr_next ?_ | with_reducible refine tr_c ?_ | with_reducible refine tr_bin ?_ | with_reducible refine tr_un ?_ | with_reducible refine tr_cons ?_ | with_reducible refine tr_nil ?_ | with_reducible refine tr_call ?_ | with_reducible refine tr_tB ?_ | with_reducible refine tr_tAnd ?_ | with_reducible refine tr_tOr ?_ | with_reducible refine tr_tNot ?_ | with_reducible refine tr_tYes ?_ | with_reducible refine tr_mtL ?_ | with_reducible refine tr_mtS ?_ | with_reducible refine tr_sl ?_ | with_reducible refine tr_oN ?_ | with_reducible refine tr_oS ?_ | with_reducible refine tr_lc ?_ | with_reducible refine tr_lcM ?_ | with_reducible refine tr_for ?_ | with_reducible refine tr_frz ?_ | with_reducible refine tr_tup ?_ | with_reducible refine tr_lst ?_ | with_reducible refine tr_lstM ?_ | with_reducible refine tr_isi ?_ | with_reducible refine tr_fmt ?_ | with_reducible refine tr_and ?_ | with_reducible refine tr_or ?_ | with_reducible refine tr_not ?_ | with_reducible refine tr_iSeq ?_ | with_reducible refine tr_lcL ?_ | with_reducible refine tr_fld ?_ | with_reducible refine tr_it ?_ | with_reducible refine tr_ie ?_ | refine tr_var rfl ?_ | dsimp only [Bool.false_eq_true, if_true, if_false]) | refine tr_itc rfl ?_ | refine tr_iec rfl ?_ | refine ⟨Nat.le_of_ble_eq_true rfl, ?_⟩ | refine ⟨_, rfl, ?_⟩ | refine ⟨_, _, rfl, ?_⟩ | ((fail_if_success (with_reducible refine stopd ?_)); (fail_if_success (with_reducible refine stopp ?_)); refine tr_eq rfl ?_))
      exact (show RowOk (.tup [.str s_17_, .str zo, .str zv, .str zr, .int a, .int b]) ∧ _ from ⟨.part ho (n_then (hm.sub _ hv)) hr h1 h2 h3 h4, L1.trans L2⟩)
    · repeat (first | (first | with_reducible refine tr_seq ?_ | with_reducible refine tr_asg ?_ | with_reducible refine tr_asg2 ?_ | with_reducible refine tr_expr ?_ | with_reducible refine tr_ret ?_ | with_reducible refine tr_if ?_ | with_reducible refine tr_next ?_ | with_reducible refine tr_c ?_ | with_reducible refine tr_bin ?_ | with_reducible refine tr_un ?_ | with_reducible refine tr_cons ?_ | with_reducible refine tr_nil ?_ | with_reducible refine tr_call ?_ | with_reducible refine tr_tB ?_ | with_reducible refine tr_tAnd ?_ | with_reducible refine tr_tOr ?_ | with_reducible refine tr_tNot ?_ | with_reducible refine tr_tYes ?_ | with_reducible refine tr_mtL ?_ | with_reducible refine tr_mtS ?_ | with_reducible refine tr_sl ?_ | with_reducible refine tr_oN ?_ | with_reducible refine tr_oS ?_ | with_reducible refine tr_lc ?_ | with_reducible refine tr_lcM ?_ | with_reducible refine tr_for ?_ | with_reducible refine tr_frz ?_ | with_reducible refine tr_tup ?_ | with_reducible refine tr_lst ?_ | with_reducible refine tr_lstM ?_ | with_reducible refine tr_isi ?_ | with_reducible refine tr_fmt ?_ | with_reducible refine tr_and ?_ | with_reducible refine tr_or ?_ | with_reducible refine tr_not ?_ | with_reducible refine tr_iSeq ?_ | with_reducible refine tr_lcL ?_ | with_reducible refine tr_fld ?_ | with_reducible refine tr_it ?_ | with_reducible refine tr_ie ?_ | refine tr_var rfl ?_ | dsimp only [Bool.false_eq_true, if_true, if_false]) | refine tr_itc rfl ?_ | refine tr_iec rfl ?_ | refine ⟨Nat.le_of_ble_eq_true rfl, ?_⟩ | refine ⟨_, rfl, ?_⟩ | refine ⟨_, _, rfl, ?_⟩ | ((fail_if_success (with_reducible refine stopd ?_)); (fail_if_success (with_reducible refine stopp ?_)); refine tr_eq rfl ?_))
      refine pk L1.deal hm.ne (by omega) fun v S2 hv L2 => ?_
      obtain ⟨zv, rfl⟩ := str_old (n_old (hm.sub _ hv))
      repeat (first | (first | with_reducible refine tr_seq ?_ | with_reducible refine tr_asg ?_ | with_reducible refine tr_asg2 ?_ | with_reducible refine tr_expr ?_ | with_reducible refine tr_ret ?_ | with_reducible refine tr_if ?_ | with_reducible refine tr_next ?_ | with_reducible refine tr_c ?_ | with_reducible refine tr_bin ?_ | with_reducible refine tr_un ?_ | with_reducible refine tr_cons ?_ | with_reducible refine tr_nil ?_ | with_reducible refine tr_call ?_ | with_reducible refine tr_tB ?_ | with_reducible refine tr_tAnd ?_ | with_reducible refine tr_tOr ?_ | with_reducible refine tr_tNot ?_ | with_reducible refine tr_tYes ?_ | with_reducible refine tr_mtL ?_ | with_reducible refine tr_mtS ?_ | with_reducible refine tr_sl ?_ | with_reducible refine tr_oN ?_ | with_reducible refine tr_oS ?_ | with_reducible refine tr_lc ?_ | with_reducible refine tr_lcM ?_ | with_reducible refine tr_for ?_ | with_reducible refine tr_frz ?_ | with_reducible refine tr_tup ?_ | with_reducible refine tr_lst ?_ | with_reducible refine tr_lstM ?_ | with_reducible refine tr_isi ?_ | with_reducible refine tr_fmt ?_ | with_reducible refine tr_and ?_ | with_reducible refine tr_or ?_ | with_reducible refine tr_not ?_ | with_reducible refine tr_iSeq ?_ | with_reducible refine tr_lcL ?_ | with_reducible refine tr_fld ?_ | with_reducible refine tr_it ?_ | with_reducible refine tr_ie ?_ | refine tr_var rfl ?_ | dsimp only [Bool.false_eq_true, if_true, if_false]) | refine tr_itc rfl ?_ | refine tr_iec rfl ?_ | refine ⟨Nat.le_of_ble_eq_true rfl, ?_⟩ | refine ⟨_, rfl, ?_⟩ | refine ⟨_, _, rfl, ?_⟩ | ((fail_if_success (with_reducible refine stopd ?_)); (fail_if_success (with_reducible refine stopp ?_)); refine tr_eq rfl ?_))
      exact (show RowOk (.tup [.str s_17_, .str zo, .str zl, .str zv, .int a, .int b]) ∧ _ from ⟨.part ho hl (n_then (hm.sub _ hv)) h1 h2 h3 h4, L1.trans L2⟩)
    · repeat (first | (first | with_reducible refine tr_seq ?_ | with_reducible refine tr_asg ?_ | with_reducible refine tr_asg2 ?_ | with_reducible refine tr_expr ?_ | with_reducible refine tr_ret ?_ | with_reducible refine tr_if ?_ | with_reducible refine tr_next ?_ | with_reducible refine tr_c ?_ | with_reducible refine tr_bin ?_ | with_reducible refine tr_un ?_ | with_reducible refine tr_cons ?_ | with_reducible refine tr_nil ?_ | with_reducible refine tr_call ?_ | with_reducible refine tr_tB ?_ | with_reducible refine tr_tAnd ?_ | with_reducible refine tr_tOr ?_ | with_reducible refine tr_tNot ?_ | with_reducible refine tr_tYes ?_ | with_reducible refine tr_mtL ?_ | with_reducible refine tr_mtS ?_ | with_reducible refine tr_sl ?_ | with_reducible refine tr_oN ?_ | with_reducible refine tr_oS ?_ | with_reducible refine tr_lc ?_ | with_reducible refine tr_lcM ?_ | with_reducible refine tr_for ?_ | with_reducible refine tr_frz ?_ | with_reducible refine tr_tup ?_ | with_reducible refine tr_lst ?_ | with_reducible refine tr_lstM ?_ | with_reducible refine tr_isi ?_ | with_reducible refine tr_fmt ?_ | with_reducible refine tr_and ?_ | with_reducible refine tr_or ?_ | with_reducible refine tr_not ?_ | with_reducible refine tr_iSeq ?_ | with_reducible refine tr_lcL ?_ | with_reducible refine tr_fld ?_ | with_reducible refine tr_it ?_ | with_reducible refine tr_ie ?_ | refine tr_var rfl ?_ | dsimp only [Bool.false_eq_true, if_true, if_false]) | refine tr_itc rfl ?_ | refine tr_iec rfl ?_ | refine ⟨Nat.le_of_ble_eq_true rfl, ?_⟩ | refine ⟨_, rfl, ?_⟩ | refine ⟨_, _, rfl, ?_⟩ | ((fail_if_success (with_reducible refine stopd ?_)); (fail_if_success (with_reducible refine stopp ?_)); refine tr_eq rfl ?_))
      refine dw L1.deal (by decide) (by decide) fun j S2 hj L2 => ?_
      repeat (first | (first | with_reducible refine tr_seq ?_ | with_reducible refine tr_asg ?_ | with_reducible refine tr_asg2 ?_ | with_reducible refine tr_expr ?_ | with_reducible refine tr_ret ?_ | with_reducible refine tr_if ?_ | with_reducible refine tr_next ?_ | with_reducible refine tr_c ?_ | with_reducible refine tr_bin ?_ | with_reducible refine tr_un ?_ | with_reducible refine tr_cons ?_ | with_reducible refine tr_nil ?_ | with_reducible refine tr_call ?_ | with_reducible refine tr_tB ?_ | with_reducible refine tr_tAnd ?_ | with_reducible refine tr_tOr ?_ | with_reducible refine tr_tNot ?_ | with_reducible refine tr_tYes ?_ | with_reducible refine tr_mtL ?_ | with_reducible refine tr_mtS ?_ | with_reducible refine tr_sl ?_ | with_reducible refine tr_oN ?_ | with_reducible refine tr_oS ?_ | with_reducible refine tr_lc ?_ | with_reducible refine tr_lcM ?_ | with_reducible refine tr_for ?_ | with_reducible refine tr_frz ?_ | with_reducible refine tr_tup ?_ | with_reducible refine tr_lst ?_ | with_reducible refine tr_lstM ?_ | with_reducible refine tr_isi ?_ | with_reducible refine tr_fmt ?_ | with_reducible refine tr_and ?_ | with_reducible refine tr_or ?_ | with_reducible refine tr_not ?_ | with_reducible refine tr_iSeq ?_ | with_reducible refine tr_lcL ?_ | with_reducible refine tr_fld ?_ | with_reducible refine tr_it ?_ | with_reducible refine tr_ie ?_ | refine tr_var rfl ?_ | dsimp only [Bool.false_eq_true, if_true, if_false]) | refine tr_itc rfl ?_ | refine tr_iec rfl ?_ | refine ⟨Nat.le_of_ble_eq_true rfl, ?_⟩ | refine ⟨_, rfl, ?_⟩ | refine ⟨_, _, rfl, ?_⟩ | ((fail_if_success (with_reducible refine stopd ?_)); (fail_if_success (with_reducible refine stopp ?_)); refine tr_eq rfl ?_))
      exact (show RowOk (.tup [.str s_17_, .str zo, .str zl, .str zr, .int (j - 1), .int b]) ∧ _ from ⟨.part ho hl hr (by omega) (by omega) h3 h4, L1.trans L2⟩)
    · repeat (first | (first | with_reducible refine tr_seq ?_ | with_reducible refine tr_asg ?_ | with_reducible refine tr_asg2 ?_ | with_reducible refine tr_expr ?_ | with_reducible refine tr_ret ?_ | with_reducible refine tr_if ?_ | with_reducible refine tr_next ?_ | with_reducible refine tr_c ?_ | with_reducible refine tr_bin ?_ | with_reducible refine tr_un ?_ | with_reducible refine tr_cons ?_ | with_reducible refine tr_nil ?_ | with_reducible refine tr_call ?_ | with_reducible refine tr_tB ?_ | with_reducible refine tr_tAnd ?_ | with_reducible refine tr_tOr ?_ | with_reducible refine tr_tNot ?_ | with_reducible refine tr_tYes ?_ | with_reducible refine tr_mtL ?_ | with_reducible refine tr_mtS ?_ | with_reducible refine tr_sl ?_ | with_reducible refine tr_oN ?_ | with_reducible refine tr_oS ?_ | with_reducible refine tr_lc ?_ | with_reducible refine tr_lcM ?_ | with_reducible refine tr_for ?_ | with_reducible refine tr_frz ?_ | with_reducible refine tr_tup ?_ | with_reducible refine tr_lst ?_ | with_reducible refine tr_lstM ?_ | with_reducible refine tr_isi ?_ | with_reducible refine tr_fmt ?_ | with_reducible refine tr_and ?_ | with_reducible refine tr_or ?_ | with_reducible refine tr_not ?_ | with_reducible refine tr_iSeq ?_ | with_reducible refine tr_lcL ?_ | with_reducible refine tr_fld ?_ | with_reducible refine tr_it ?_ | with_reducible refine tr_ie ?_ | refine tr_var rfl ?_ | dsimp only [Bool.false_eq_true, if_true, if_false]) | refine tr_itc rfl ?_ | refine tr_iec rfl ?_ | refine ⟨Nat.le_of_ble_eq_true rfl, ?_⟩ | refine ⟨_, rfl, ?_⟩ | refine ⟨_, _, rfl, ?_⟩ | ((fail_if_success (with_reducible refine stopd ?_)); (fail_if_success (with_reducible refine stopp ?_)); refine tr_eq rfl ?_))
      refine dw L1.deal (by decide) (by decide) fun j S2 hj L2 => ?_
      repeat (first | (first | with_reducible refine tr_seq ?_ | with_reducible refine tr_asg ?_ | with_reducible refine tr_asg2 ?_ | with_reducible refine tr_expr ?_ | with_reducible refine tr_ret ?_ | with_reducible refine tr_if ?_ | with_reducible refine tr_next ?_ | with_reducible refine tr_c ?_ | with_reducible refine tr_bin ?_ | with_reducible refine tr_un ?_ | with_reducible refine tr_cons ?_ | with_reducible refine tr_nil ?_ | with_reducible refine tr_call ?_ | with_reducible refine tr_tB ?_ | with_reducible refine tr_tAnd ?_ | with_reducible refine tr_tOr ?_ | with_reducible refine tr_tNot ?_ | with_reducible refine tr_tYes ?_ | with_reducible refine tr_mtL ?_ | with_reducible refine tr_mtS ?_ | with_reducible refine tr_sl ?_ | with_reducible refine tr_oN ?_ | with_reducible refine tr_oS ?_ | with_reducible refine tr_lc ?_ | with_reducible refine tr_lcM ?_ | with_reducible refine tr_for ?_ | with_reducible refine tr_frz ?_ | with_reducible refine tr_tup ?_ | with_reducible refine tr_lst ?_ | with_reducible refine tr_lstM ?_ | with_reducible refine tr_isi ?_ | with_reducible refine tr_fmt ?_ | with_reducible refine tr_and ?_ | with_reducible refine tr_or ?_ | with_reducible refine tr_not ?_ | with_reducible refine tr_iSeq ?_ | with_reducible refine tr_lcL ?_ | with_reducible refine tr_fld ?_ | with_reducible refine tr_it ?_ | with_reducible refine tr_ie ?_ | refine tr_var rfl ?_ | dsimp only [Bool.false_eq_true, if_true, if_false]) | refine tr_itc rfl ?_ | refine tr_iec rfl ?_ | refine ⟨Nat.le_of_ble_eq_true rfl, ?_⟩ | refine ⟨_, rfl, ?_⟩ | refine ⟨_, _, rfl, ?_⟩ | ((fail_if_success (with_reducible refine stopd ?_)); (fail_if_success (with_reducible refine stopp ?_)); refine tr_eq rfl ?_))
      exact (show RowOk (.tup [.str s_17_, .str zo, .str zl, .str zr, .int a, .int (j - 1)]) ∧ _ from ⟨.part ho hl hr h1 h2 (by omega) (by omega), L1.trans L2⟩)
end
end G
set_option linter.all false
set_option maxRecDepth 100000
set_option maxHeartbeats 4000000
/-! Q_k02: rows made. -/
namespace G
open Mir MW ML
section
variable {S : Store}
def AllP (p : W → Prop) : List W → Prop
  | [] => True
  | x :: r => p x ∧ AllP p r
theorem all_of {p : W → Prop} : ∀ {l : List W}, AllP p l → ∀ w ∈ l, p w
  | [], _, w, h => by cases h
  | x :: r, hp, w, h => by
    cases h with
    | head => exact hp.1
    | tail _ h => exact all_of (l := r) hp.2 w h
theorem is_name_n : ∀ w ∈ names, m_is_name [w] S = .ok (.bl true) S := all_of ⟨rfl, rfl, rfl, rfl, rfl, rfl, rfl, rfl, rfl, rfl, rfl, rfl, rfl, trivial⟩
theorem is_name_any : m_is_name [.str s_13_] S = .ok (.bl false) S := rfl
theorem is_name_same : m_is_name [.str s_16_] S = .ok (.bl false) S := rfl
theorem is_name_one : m_is_name [.str s_14_] S = .ok (.bl false) S := rfl
theorem is_name_other : m_is_name [.str s_15_] S = .ok (.bl false) S := rfl
theorem is_old_t : ∀ w ∈ olds, m_is_old [w] S = .ok (.bl true) S := all_of ⟨rfl, rfl, rfl, rfl, rfl, rfl, rfl, rfl, rfl, rfl, rfl, rfl, rfl, rfl, trivial⟩
theorem is_new_t : ∀ w ∈ thens, m_is_new [w, .tup [.str s_16_]] S = .ok (.bl true) S := all_of ⟨rfl, rfl, rfl, rfl, rfl, rfl, rfl, rfl, rfl, rfl, rfl, rfl, rfl, rfl, trivial⟩
theorem is_new_j : ∀ w ∈ thenJ, m_is_new [w, .tup [.str s_14_, .str s_15_]] S = .ok (.bl true) S := all_of ⟨rfl, rfl, rfl, rfl, rfl, rfl, rfl, rfl, rfl, rfl, rfl, rfl, rfl, rfl, rfl, trivial⟩
theorem is_kind : ∀ w ∈ kinds, m_is_word_of [w, g_KINDS] S = .ok (.bl true) S := all_of ⟨rfl, rfl, rfl, rfl, rfl, rfl, rfl, rfl, trivial⟩
theorem is_add_t {a : Int} (h1 : -3 ≤ a) (h2 : a ≤ 3) : m_is_add [.int a] S = .ok (.bl true) S := by
  have : a = -3 ∨ a = -2 ∨ a = -1 ∨ a = 0 ∨ a = 1 ∨ a = 2 ∨ a = 3 := by omega
  rcases this with rfl | rfl | rfl | rfl | rfl | rfl | rfl <;> rfl
theorem is_name_ex {w : W} (h : w ∈ olds ∨ w ∈ thens ∨ w ∈ thenJ) : ∃ b, ∀ S, m_is_name [w] S = .ok (.bl b) S := by
  have one : ∀ w ∈ names, ∃ b, ∀ S, m_is_name [w] S = .ok (.bl b) S := fun w h => ⟨true, fun S => is_name_n w h⟩
  rcases h with h | h | h
  · rcases List.mem_append.mp h with q | q
    · exact one w q
    · rw [List.mem_singleton.mp q]; exact ⟨false, fun S => is_name_any⟩
  · rcases List.mem_append.mp h with q | q
    · exact one w q
    · rw [List.mem_singleton.mp q]; exact ⟨false, fun S => is_name_same⟩
  · rcases List.mem_append.mp h with q | q
    · exact one w q
    · rcases List.mem_cons.mp q with q | q
      · rw [q]; exact ⟨false, fun S => is_name_one⟩
      · rw [List.mem_singleton.mp q]; exact ⟨false, fun S => is_name_other⟩
/-- all but r is as it was -/
structure But (r : Nat) (S S' : Store) : Prop where
  wf : Wf S'
  nx : S'.next = S.next
  kp : ∀ m, m ≠ r → S'.get m = S.get m
theorem But.trans {r : Nat} {S S1 S2 : Store} (a : But r S S1) (b : But r S1 S2) : But r S S2 := ⟨b.wf, b.nx.trans a.nx, fun m h => (b.kp m h).trans (a.kp m h)⟩
theorem fld_put {r c k : Nat} {fs : List (Nat × W)} {v : W} {S : Store} (w : Wf S) (h : S.get r = some (.ins c fs)) (hl : fs.length ≤ 100) : ∃ S', setFld k (.ref r) v S = some S' ∧ S'.get r = some (.ins c (mapPut fs k v)) ∧ But r S S' := by
  refine ⟨S.put r (.ins c (mapPut fs k v)), ?_, get_put h, wf_put h w, rfl, fun m hm => get_put_ne hm⟩
  have e : Nat.blt fs.length 900 = true := by
    show Nat.ble (fs.length + 1) 900 = true
    exact Nat.ble_eq_true_of_le (by omega)
  simp only [setFld, h, e, if_true]
theorem mapPut_len {fs : List (Nat × W)} {k : Nat} {v : W} : (mapPut fs k v).length ≤ fs.length + 1 := by
  induction fs with
  | nil => simp [mapPut]
  | cons p r ih =>
    obtain ⟨m, u⟩ := p
    unfold mapPut
    split
    · simp
    · simp only [List.length_cons]; omega
theorem row_init_tr {r c : Nat} {fs : List (Nat × W)} {z : List Nat} {xs : List W} (w : Wf S) (h : S.get r = some (.ins c fs)) (hl : fs.length ≤ 90) (hx : ∀ x ∈ xs, x ∈ olds ∨ x ∈ thens ∨ x ∈ thenJ) (hxl : xs.length ≤ 100) :
    Tr (m_Row_init [.ref r, .str z, .lst xs] S) fun v S' => v = .non ∧ ∃ ys, S'.get r = some (.ins c (mapPut (mapPut fs 2 (.str z)) 3 (.tup ys))) ∧ But r S S' := by
  refine tr_fn [some (.ref r), some (.str z), some (.lst xs), none] rfl rfl ?_
  repeat (first | with_reducible refine tr_seq ?_ | with_reducible refine tr_asg ?_ | with_reducible refine tr_asg2 ?_ | with_reducible refine tr_expr ?_ | with_reducible refine tr_ret ?_ | with_reducible refine tr_if ?_ | with_reducible refine tr_next ?_ | with_reducible refine tr_c ?_ | with_reducible refine tr_bin ?_ | with_reducible refine tr_un ?_ | with_reducible refine tr_cons ?_ | with_reducible refine tr_nil ?_ | with_reducible refine tr_call ?_ | with_reducible refine tr_tB ?_ | with_reducible refine tr_tAnd ?_ | with_reducible refine tr_tOr ?_ | with_reducible refine tr_tNot ?_ | with_reducible refine tr_tYes ?_ | with_reducible refine tr_mtL ?_ | with_reducible refine tr_mtS ?_ | with_reducible refine tr_sl ?_ | with_reducible refine tr_oN ?_ | with_reducible refine tr_oS ?_ | with_reducible refine tr_lc ?_ | with_reducible refine tr_lcM ?_ | with_reducible refine tr_for ?_ | with_reducible refine tr_frz ?_ | with_reducible refine tr_tup ?_ | with_reducible refine tr_lst ?_ | with_reducible refine tr_lstM ?_ | with_reducible refine tr_isi ?_ | with_reducible refine tr_fmt ?_ | with_reducible refine tr_and ?_ | with_reducible refine tr_or ?_ | with_reducible refine tr_not ?_ | with_reducible refine tr_iSeq ?_ | with_reducible refine tr_lcL ?_ | with_reducible refine tr_fld ?_ | with_reducible refine tr_it ?_ | with_reducible refine tr_ie ?_ | refine tr_var rfl ?_ | dsimp only [Bool.false_eq_true, if_true, if_false])
  obtain ⟨S1, e1, g1, b1⟩ := fld_put (k := 2) (v := .str z) w h (by omega)
  refine ⟨S1, e1, ?_⟩
  repeat (first | with_reducible refine tr_seq ?_ | with_reducible refine tr_asg ?_ | with_reducible refine tr_asg2 ?_ | with_reducible refine tr_expr ?_ | with_reducible refine tr_ret ?_ | with_reducible refine tr_if ?_ | with_reducible refine tr_next ?_ | with_reducible refine tr_c ?_ | with_reducible refine tr_bin ?_ | with_reducible refine tr_un ?_ | with_reducible refine tr_cons ?_ | with_reducible refine tr_nil ?_ | with_reducible refine tr_call ?_ | with_reducible refine tr_tB ?_ | with_reducible refine tr_tAnd ?_ | with_reducible refine tr_tOr ?_ | with_reducible refine tr_tNot ?_ | with_reducible refine tr_tYes ?_ | with_reducible refine tr_mtL ?_ | with_reducible refine tr_mtS ?_ | with_reducible refine tr_sl ?_ | with_reducible refine tr_oN ?_ | with_reducible refine tr_oS ?_ | with_reducible refine tr_lc ?_ | with_reducible refine tr_lcM ?_ | with_reducible refine tr_for ?_ | with_reducible refine tr_frz ?_ | with_reducible refine tr_tup ?_ | with_reducible refine tr_lst ?_ | with_reducible refine tr_lstM ?_ | with_reducible refine tr_isi ?_ | with_reducible refine tr_fmt ?_ | with_reducible refine tr_and ?_ | with_reducible refine tr_or ?_ | with_reducible refine tr_not ?_ | with_reducible refine tr_iSeq ?_ | with_reducible refine tr_lcL ?_ | with_reducible refine tr_fld ?_ | with_reducible refine tr_it ?_ | with_reducible refine tr_ie ?_ | refine tr_var rfl ?_ | dsimp only [Bool.false_eq_true, if_true, if_false])
  refine ⟨(xs, []), rfl, Nat.le_trans hxl (by decide), ?_⟩
  refine (lc_tr (Q := fun _ S' => S' = S1) (fun rest _ S' => S' = S1 ∧ ∀ x ∈ rest, x ∈ olds ∨ x ∈ thens ∨ x ∈ thenJ) ?_ (fun _ S' q => ⟨rfl, q.1⟩) xs [] S1 ⟨rfl, hx⟩).imp ?_
  · rintro x rest acc S' ⟨rfl, hq⟩
    refine ⟨rfl, _, rfl, ?_⟩
    obtain ⟨b, hb⟩ := is_name_ex (hq x (List.mem_cons_self ..))
    repeat (first | with_reducible refine tr_seq ?_ | with_reducible refine tr_asg ?_ | with_reducible refine tr_asg2 ?_ | with_reducible refine tr_expr ?_ | with_reducible refine tr_ret ?_ | with_reducible refine tr_if ?_ | with_reducible refine tr_next ?_ | with_reducible refine tr_c ?_ | with_reducible refine tr_bin ?_ | with_reducible refine tr_un ?_ | with_reducible refine tr_cons ?_ | with_reducible refine tr_nil ?_ | with_reducible refine tr_call ?_ | with_reducible refine tr_tB ?_ | with_reducible refine tr_tAnd ?_ | with_reducible refine tr_tOr ?_ | with_reducible refine tr_tNot ?_ | with_reducible refine tr_tYes ?_ | with_reducible refine tr_mtL ?_ | with_reducible refine tr_mtS ?_ | with_reducible refine tr_sl ?_ | with_reducible refine tr_oN ?_ | with_reducible refine tr_oS ?_ | with_reducible refine tr_lc ?_ | with_reducible refine tr_lcM ?_ | with_reducible refine tr_for ?_ | with_reducible refine tr_frz ?_ | with_reducible refine tr_tup ?_ | with_reducible refine tr_lst ?_ | with_reducible refine tr_lstM ?_ | with_reducible refine tr_isi ?_ | with_reducible refine tr_fmt ?_ | with_reducible refine tr_and ?_ | with_reducible refine tr_or ?_ | with_reducible refine tr_not ?_ | with_reducible refine tr_iSeq ?_ | with_reducible refine tr_lcL ?_ | with_reducible refine tr_fld ?_ | with_reducible refine tr_it ?_ | with_reducible refine tr_ie ?_ | refine tr_var rfl ?_ | dsimp only [Bool.false_eq_true, if_true, if_false])
    refine tr_eq (hb S') ⟨_, rfl, ?_⟩
    have rest' : ∀ x ∈ rest, x ∈ olds ∨ x ∈ thens ∨ x ∈ thenJ := fun y hy => hq y (List.mem_cons_of_mem _ hy)
    cases b with
    | true =>
      refine tr_it ?_
      refine tr_var (w := x) rfl ?_
      exact ⟨rfl, rest'⟩
    | false => exact tr_ie ⟨rfl, rest'⟩
  · rintro ys S' rfl
    repeat (first | with_reducible refine tr_seq ?_ | with_reducible refine tr_asg ?_ | with_reducible refine tr_asg2 ?_ | with_reducible refine tr_expr ?_ | with_reducible refine tr_ret ?_ | with_reducible refine tr_if ?_ | with_reducible refine tr_next ?_ | with_reducible refine tr_c ?_ | with_reducible refine tr_bin ?_ | with_reducible refine tr_un ?_ | with_reducible refine tr_cons ?_ | with_reducible refine tr_nil ?_ | with_reducible refine tr_call ?_ | with_reducible refine tr_tB ?_ | with_reducible refine tr_tAnd ?_ | with_reducible refine tr_tOr ?_ | with_reducible refine tr_tNot ?_ | with_reducible refine tr_tYes ?_ | with_reducible refine tr_mtL ?_ | with_reducible refine tr_mtS ?_ | with_reducible refine tr_sl ?_ | with_reducible refine tr_oN ?_ | with_reducible refine tr_oS ?_ | with_reducible refine tr_lc ?_ | with_reducible refine tr_lcM ?_ | with_reducible refine tr_for ?_ | with_reducible refine tr_frz ?_ | with_reducible refine tr_tup ?_ | with_reducible refine tr_lst ?_ | with_reducible refine tr_lstM ?_ | with_reducible refine tr_isi ?_ | with_reducible refine tr_fmt ?_ | with_reducible refine tr_and ?_ | with_reducible refine tr_or ?_ | with_reducible refine tr_not ?_ | with_reducible refine tr_iSeq ?_ | with_reducible refine tr_lcL ?_ | with_reducible refine tr_fld ?_ | with_reducible refine tr_it ?_ | with_reducible refine tr_ie ?_ | refine tr_var rfl ?_ | dsimp only [Bool.false_eq_true, if_true, if_false])
    refine tr_eq (show fTuple [.lst ys] S' = .ok (.tup ys) S' from rfl) ?_
    repeat (first | with_reducible refine tr_seq ?_ | with_reducible refine tr_asg ?_ | with_reducible refine tr_asg2 ?_ | with_reducible refine tr_expr ?_ | with_reducible refine tr_ret ?_ | with_reducible refine tr_if ?_ | with_reducible refine tr_next ?_ | with_reducible refine tr_c ?_ | with_reducible refine tr_bin ?_ | with_reducible refine tr_un ?_ | with_reducible refine tr_cons ?_ | with_reducible refine tr_nil ?_ | with_reducible refine tr_call ?_ | with_reducible refine tr_tB ?_ | with_reducible refine tr_tAnd ?_ | with_reducible refine tr_tOr ?_ | with_reducible refine tr_tNot ?_ | with_reducible refine tr_tYes ?_ | with_reducible refine tr_mtL ?_ | with_reducible refine tr_mtS ?_ | with_reducible refine tr_sl ?_ | with_reducible refine tr_oN ?_ | with_reducible refine tr_oS ?_ | with_reducible refine tr_lc ?_ | with_reducible refine tr_lcM ?_ | with_reducible refine tr_for ?_ | with_reducible refine tr_frz ?_ | with_reducible refine tr_tup ?_ | with_reducible refine tr_lst ?_ | with_reducible refine tr_lstM ?_ | with_reducible refine tr_isi ?_ | with_reducible refine tr_fmt ?_ | with_reducible refine tr_and ?_ | with_reducible refine tr_or ?_ | with_reducible refine tr_not ?_ | with_reducible refine tr_iSeq ?_ | with_reducible refine tr_lcL ?_ | with_reducible refine tr_fld ?_ | with_reducible refine tr_it ?_ | with_reducible refine tr_ie ?_ | refine tr_var rfl ?_ | dsimp only [Bool.false_eq_true, if_true, if_false])
    obtain ⟨S2, e2, g2, b2⟩ := fld_put (k := 3) (v := .tup ys) b1.wf g1 (Nat.le_trans mapPut_len (by omega))
    refine ⟨S2, e2, rfl, ys, g2, b1.trans b2⟩
end
end G
set_option linter.all false
set_option maxRecDepth 100000
set_option maxHeartbeats 4000000
/-! Q2_k02: Step, Join, Part made. -/
namespace G
open Mir MW ML
section
variable {S : Store} {d : DEnv} {Q : W → Store → Prop}
theorem tr_jn {acc : List Nat} (h : Q (.str acc) S) : Tr (eJoined [] acc d S) Q := h
theorem tr_jc {a : ME} {r : List ME} {acc : List Nat} (h : Tr (a d S) fun x S1 => ∃ z, x = .str z ∧ acc.length + z.length ≤ LIM ∧ Tr (eJoined r (acc ++ z) d S1) Q) : Tr (eJoined (a :: r) acc d S) Q := Tr.bind (h.imp fun x S1 ⟨z, e, l, k⟩ => by
  subst e
  show Tr (if Nat.ble (acc.length + z.length) LIM then eJoined r (acc ++ z) d S1 else .bad) Q
  rw [if_pos (Nat.ble_eq_true_of_le l)]
  exact k)
theorem tr_sup {c : Nat} {m : MF} {a : MA} {x : W} (e : getS d 0 = some x) (hc : clsOf S x = some c) (h : Tr (a d S) fun xs S1 => Tr (m (x :: xs) S1) Q) : Tr (eSup c m a d S) Q := by
  unfold eSup
  rw [e]
  dsimp only
  rw [hc]
  dsimp only
  rw [if_pos (Nat.beq_refl c)]
  exact Tr.bind h
def wl (w : W) : Bool := match w with
  | .str z => Nat.ble z.length 8
  | _ => false
theorem wl_of {z : List Nat} (h : W.str z ∈ olds ∨ W.str z ∈ thens ∨ W.str z ∈ thenJ ∨ W.str z ∈ kinds) : z.length ≤ 8 := by
  have a1 : ∀ w ∈ olds, wl w = true := by decide
  have a2 : ∀ w ∈ thens, wl w = true := by decide
  have a3 : ∀ w ∈ thenJ, wl w = true := by decide
  have a4 : ∀ w ∈ kinds, wl w = true := by decide
  rcases h with h | h | h | h
  · exact Nat.le_of_ble_eq_true (a1 _ h)
  · exact Nat.le_of_ble_eq_true (a2 _ h)
  · exact Nat.le_of_ble_eq_true (a3 _ h)
  · exact Nat.le_of_ble_eq_true (a4 _ h)
theorem fmt_add {a : Int} (h1 : -3 ≤ a) (h2 : a ≤ 3) : fmt (.int a) = some (intL a) ∧ (intL a).length ≤ 2 := by
  have : a = -3 ∨ a = -2 ∨ a = -1 ∨ a = 0 ∨ a = 1 ∨ a = 2 ∨ a = 3 := by omega
  rcases this with rfl | rfl | rfl | rfl | rfl | rfl | rfl <;> exact ⟨rfl, by decide⟩
theorem lim50 {n : Nat} (h : n ≤ 80) : n ≤ LIM := Nat.le_trans h (by decide)
def txS (k o t : List Nat) (a : Int) : List Nat := (((((k ++ s_23_) ++ o) ++ s_24_) ++ t) ++ s_25_) ++ intL a
theorem need_t {w : W} : m_need [.bl true, w] S = .ok .non S := rfl
theorem step_init_tr {r : Nat} {k o t : List Nat} {a : Int} (w : Wf S) (h : S.get r = some (.ins 1 [])) (hk : .str k ∈ kinds) (ho : .str o ∈ olds) (ht : .str t ∈ thens) (h1 : -3 ≤ a) (h2 : a ≤ 3) :
    Tr (m_Step_init [.ref r, .str k, .str o, .str t, .int a] S) fun v S' => v = .non ∧ ∃ ys, S'.get r = some (.ins 1 [(4, .str k), (5, .str o), (6, .str t), (7, .int a), (2, .str (txS k o t a)), (3, .tup ys)]) ∧ But r S S' := by
  have lk := wl_of (.inr (.inr (.inr hk)))
  have lo := wl_of (.inl ho)
  have lt := wl_of (.inr (.inl ht))
  obtain ⟨fa, la⟩ := fmt_add h1 h2
  refine tr_fn [some (.ref r), some (.str k), some (.str o), some (.str t), some (.int a), none] rfl rfl ?_
  repeat (first | with_reducible refine tr_seq ?_ | with_reducible refine tr_asg ?_ | with_reducible refine tr_asg2 ?_ | with_reducible refine tr_expr ?_ | with_reducible refine tr_ret ?_ | with_reducible refine tr_if ?_ | with_reducible refine tr_next ?_ | with_reducible refine tr_c ?_ | with_reducible refine tr_bin ?_ | with_reducible refine tr_un ?_ | with_reducible refine tr_cons ?_ | with_reducible refine tr_nil ?_ | with_reducible refine tr_call ?_ | with_reducible refine tr_tB ?_ | with_reducible refine tr_tAnd ?_ | with_reducible refine tr_tOr ?_ | with_reducible refine tr_tNot ?_ | with_reducible refine tr_tYes ?_ | with_reducible refine tr_mtL ?_ | with_reducible refine tr_mtS ?_ | with_reducible refine tr_sl ?_ | with_reducible refine tr_oN ?_ | with_reducible refine tr_oS ?_ | with_reducible refine tr_lc ?_ | with_reducible refine tr_lcM ?_ | with_reducible refine tr_for ?_ | with_reducible refine tr_frz ?_ | with_reducible refine tr_tup ?_ | with_reducible refine tr_lst ?_ | with_reducible refine tr_lstM ?_ | with_reducible refine tr_isi ?_ | with_reducible refine tr_fmt ?_ | with_reducible refine tr_and ?_ | with_reducible refine tr_or ?_ | with_reducible refine tr_not ?_ | with_reducible refine tr_iSeq ?_ | with_reducible refine tr_lcL ?_ | with_reducible refine tr_fld ?_ | with_reducible refine tr_it ?_ | with_reducible refine tr_ie ?_ | refine tr_var rfl ?_ | dsimp only [Bool.false_eq_true, if_true, if_false])
  refine tr_eq (is_kind _ hk) ?_
  repeat (first | with_reducible refine tr_seq ?_ | with_reducible refine tr_asg ?_ | with_reducible refine tr_asg2 ?_ | with_reducible refine tr_expr ?_ | with_reducible refine tr_ret ?_ | with_reducible refine tr_if ?_ | with_reducible refine tr_next ?_ | with_reducible refine tr_c ?_ | with_reducible refine tr_bin ?_ | with_reducible refine tr_un ?_ | with_reducible refine tr_cons ?_ | with_reducible refine tr_nil ?_ | with_reducible refine tr_call ?_ | with_reducible refine tr_tB ?_ | with_reducible refine tr_tAnd ?_ | with_reducible refine tr_tOr ?_ | with_reducible refine tr_tNot ?_ | with_reducible refine tr_tYes ?_ | with_reducible refine tr_mtL ?_ | with_reducible refine tr_mtS ?_ | with_reducible refine tr_sl ?_ | with_reducible refine tr_oN ?_ | with_reducible refine tr_oS ?_ | with_reducible refine tr_lc ?_ | with_reducible refine tr_lcM ?_ | with_reducible refine tr_for ?_ | with_reducible refine tr_frz ?_ | with_reducible refine tr_tup ?_ | with_reducible refine tr_lst ?_ | with_reducible refine tr_lstM ?_ | with_reducible refine tr_isi ?_ | with_reducible refine tr_fmt ?_ | with_reducible refine tr_and ?_ | with_reducible refine tr_or ?_ | with_reducible refine tr_not ?_ | with_reducible refine tr_iSeq ?_ | with_reducible refine tr_lcL ?_ | with_reducible refine tr_fld ?_ | with_reducible refine tr_it ?_ | with_reducible refine tr_ie ?_ | refine tr_var rfl ?_ | dsimp only [Bool.false_eq_true, if_true, if_false])
  refine tr_eq need_t ?_
  repeat (first | with_reducible refine tr_seq ?_ | with_reducible refine tr_asg ?_ | with_reducible refine tr_asg2 ?_ | with_reducible refine tr_expr ?_ | with_reducible refine tr_ret ?_ | with_reducible refine tr_if ?_ | with_reducible refine tr_next ?_ | with_reducible refine tr_c ?_ | with_reducible refine tr_bin ?_ | with_reducible refine tr_un ?_ | with_reducible refine tr_cons ?_ | with_reducible refine tr_nil ?_ | with_reducible refine tr_call ?_ | with_reducible refine tr_tB ?_ | with_reducible refine tr_tAnd ?_ | with_reducible refine tr_tOr ?_ | with_reducible refine tr_tNot ?_ | with_reducible refine tr_tYes ?_ | with_reducible refine tr_mtL ?_ | with_reducible refine tr_mtS ?_ | with_reducible refine tr_sl ?_ | with_reducible refine tr_oN ?_ | with_reducible refine tr_oS ?_ | with_reducible refine tr_lc ?_ | with_reducible refine tr_lcM ?_ | with_reducible refine tr_for ?_ | with_reducible refine tr_frz ?_ | with_reducible refine tr_tup ?_ | with_reducible refine tr_lst ?_ | with_reducible refine tr_lstM ?_ | with_reducible refine tr_isi ?_ | with_reducible refine tr_fmt ?_ | with_reducible refine tr_and ?_ | with_reducible refine tr_or ?_ | with_reducible refine tr_not ?_ | with_reducible refine tr_iSeq ?_ | with_reducible refine tr_lcL ?_ | with_reducible refine tr_fld ?_ | with_reducible refine tr_it ?_ | with_reducible refine tr_ie ?_ | refine tr_var rfl ?_ | dsimp only [Bool.false_eq_true, if_true, if_false])
  refine tr_eq (is_old_t _ ho) ?_
  repeat (first | with_reducible refine tr_seq ?_ | with_reducible refine tr_asg ?_ | with_reducible refine tr_asg2 ?_ | with_reducible refine tr_expr ?_ | with_reducible refine tr_ret ?_ | with_reducible refine tr_if ?_ | with_reducible refine tr_next ?_ | with_reducible refine tr_c ?_ | with_reducible refine tr_bin ?_ | with_reducible refine tr_un ?_ | with_reducible refine tr_cons ?_ | with_reducible refine tr_nil ?_ | with_reducible refine tr_call ?_ | with_reducible refine tr_tB ?_ | with_reducible refine tr_tAnd ?_ | with_reducible refine tr_tOr ?_ | with_reducible refine tr_tNot ?_ | with_reducible refine tr_tYes ?_ | with_reducible refine tr_mtL ?_ | with_reducible refine tr_mtS ?_ | with_reducible refine tr_sl ?_ | with_reducible refine tr_oN ?_ | with_reducible refine tr_oS ?_ | with_reducible refine tr_lc ?_ | with_reducible refine tr_lcM ?_ | with_reducible refine tr_for ?_ | with_reducible refine tr_frz ?_ | with_reducible refine tr_tup ?_ | with_reducible refine tr_lst ?_ | with_reducible refine tr_lstM ?_ | with_reducible refine tr_isi ?_ | with_reducible refine tr_fmt ?_ | with_reducible refine tr_and ?_ | with_reducible refine tr_or ?_ | with_reducible refine tr_not ?_ | with_reducible refine tr_iSeq ?_ | with_reducible refine tr_lcL ?_ | with_reducible refine tr_fld ?_ | with_reducible refine tr_it ?_ | with_reducible refine tr_ie ?_ | refine tr_var rfl ?_ | dsimp only [Bool.false_eq_true, if_true, if_false])
  refine tr_eq need_t ?_
  repeat (first | with_reducible refine tr_seq ?_ | with_reducible refine tr_asg ?_ | with_reducible refine tr_asg2 ?_ | with_reducible refine tr_expr ?_ | with_reducible refine tr_ret ?_ | with_reducible refine tr_if ?_ | with_reducible refine tr_next ?_ | with_reducible refine tr_c ?_ | with_reducible refine tr_bin ?_ | with_reducible refine tr_un ?_ | with_reducible refine tr_cons ?_ | with_reducible refine tr_nil ?_ | with_reducible refine tr_call ?_ | with_reducible refine tr_tB ?_ | with_reducible refine tr_tAnd ?_ | with_reducible refine tr_tOr ?_ | with_reducible refine tr_tNot ?_ | with_reducible refine tr_tYes ?_ | with_reducible refine tr_mtL ?_ | with_reducible refine tr_mtS ?_ | with_reducible refine tr_sl ?_ | with_reducible refine tr_oN ?_ | with_reducible refine tr_oS ?_ | with_reducible refine tr_lc ?_ | with_reducible refine tr_lcM ?_ | with_reducible refine tr_for ?_ | with_reducible refine tr_frz ?_ | with_reducible refine tr_tup ?_ | with_reducible refine tr_lst ?_ | with_reducible refine tr_lstM ?_ | with_reducible refine tr_isi ?_ | with_reducible refine tr_fmt ?_ | with_reducible refine tr_and ?_ | with_reducible refine tr_or ?_ | with_reducible refine tr_not ?_ | with_reducible refine tr_iSeq ?_ | with_reducible refine tr_lcL ?_ | with_reducible refine tr_fld ?_ | with_reducible refine tr_it ?_ | with_reducible refine tr_ie ?_ | refine tr_var rfl ?_ | dsimp only [Bool.false_eq_true, if_true, if_false])
  refine ⟨Nat.le_of_ble_eq_true rfl, ?_⟩
  repeat (first | with_reducible refine tr_seq ?_ | with_reducible refine tr_asg ?_ | with_reducible refine tr_asg2 ?_ | with_reducible refine tr_expr ?_ | with_reducible refine tr_ret ?_ | with_reducible refine tr_if ?_ | with_reducible refine tr_next ?_ | with_reducible refine tr_c ?_ | with_reducible refine tr_bin ?_ | with_reducible refine tr_un ?_ | with_reducible refine tr_cons ?_ | with_reducible refine tr_nil ?_ | with_reducible refine tr_call ?_ | with_reducible refine tr_tB ?_ | with_reducible refine tr_tAnd ?_ | with_reducible refine tr_tOr ?_ | with_reducible refine tr_tNot ?_ | with_reducible refine tr_tYes ?_ | with_reducible refine tr_mtL ?_ | with_reducible refine tr_mtS ?_ | with_reducible refine tr_sl ?_ | with_reducible refine tr_oN ?_ | with_reducible refine tr_oS ?_ | with_reducible refine tr_lc ?_ | with_reducible refine tr_lcM ?_ | with_reducible refine tr_for ?_ | with_reducible refine tr_frz ?_ | with_reducible refine tr_tup ?_ | with_reducible refine tr_lst ?_ | with_reducible refine tr_lstM ?_ | with_reducible refine tr_isi ?_ | with_reducible refine tr_fmt ?_ | with_reducible refine tr_and ?_ | with_reducible refine tr_or ?_ | with_reducible refine tr_not ?_ | with_reducible refine tr_iSeq ?_ | with_reducible refine tr_lcL ?_ | with_reducible refine tr_fld ?_ | with_reducible refine tr_it ?_ | with_reducible refine tr_ie ?_ | refine tr_var rfl ?_ | dsimp only [Bool.false_eq_true, if_true, if_false])
  refine tr_eq (is_new_t _ ht) ?_
  repeat (first | with_reducible refine tr_seq ?_ | with_reducible refine tr_asg ?_ | with_reducible refine tr_asg2 ?_ | with_reducible refine tr_expr ?_ | with_reducible refine tr_ret ?_ | with_reducible refine tr_if ?_ | with_reducible refine tr_next ?_ | with_reducible refine tr_c ?_ | with_reducible refine tr_bin ?_ | with_reducible refine tr_un ?_ | with_reducible refine tr_cons ?_ | with_reducible refine tr_nil ?_ | with_reducible refine tr_call ?_ | with_reducible refine tr_tB ?_ | with_reducible refine tr_tAnd ?_ | with_reducible refine tr_tOr ?_ | with_reducible refine tr_tNot ?_ | with_reducible refine tr_tYes ?_ | with_reducible refine tr_mtL ?_ | with_reducible refine tr_mtS ?_ | with_reducible refine tr_sl ?_ | with_reducible refine tr_oN ?_ | with_reducible refine tr_oS ?_ | with_reducible refine tr_lc ?_ | with_reducible refine tr_lcM ?_ | with_reducible refine tr_for ?_ | with_reducible refine tr_frz ?_ | with_reducible refine tr_tup ?_ | with_reducible refine tr_lst ?_ | with_reducible refine tr_lstM ?_ | with_reducible refine tr_isi ?_ | with_reducible refine tr_fmt ?_ | with_reducible refine tr_and ?_ | with_reducible refine tr_or ?_ | with_reducible refine tr_not ?_ | with_reducible refine tr_iSeq ?_ | with_reducible refine tr_lcL ?_ | with_reducible refine tr_fld ?_ | with_reducible refine tr_it ?_ | with_reducible refine tr_ie ?_ | refine tr_var rfl ?_ | dsimp only [Bool.false_eq_true, if_true, if_false])
  refine tr_eq need_t ?_
  repeat (first | with_reducible refine tr_seq ?_ | with_reducible refine tr_asg ?_ | with_reducible refine tr_asg2 ?_ | with_reducible refine tr_expr ?_ | with_reducible refine tr_ret ?_ | with_reducible refine tr_if ?_ | with_reducible refine tr_next ?_ | with_reducible refine tr_c ?_ | with_reducible refine tr_bin ?_ | with_reducible refine tr_un ?_ | with_reducible refine tr_cons ?_ | with_reducible refine tr_nil ?_ | with_reducible refine tr_call ?_ | with_reducible refine tr_tB ?_ | with_reducible refine tr_tAnd ?_ | with_reducible refine tr_tOr ?_ | with_reducible refine tr_tNot ?_ | with_reducible refine tr_tYes ?_ | with_reducible refine tr_mtL ?_ | with_reducible refine tr_mtS ?_ | with_reducible refine tr_sl ?_ | with_reducible refine tr_oN ?_ | with_reducible refine tr_oS ?_ | with_reducible refine tr_lc ?_ | with_reducible refine tr_lcM ?_ | with_reducible refine tr_for ?_ | with_reducible refine tr_frz ?_ | with_reducible refine tr_tup ?_ | with_reducible refine tr_lst ?_ | with_reducible refine tr_lstM ?_ | with_reducible refine tr_isi ?_ | with_reducible refine tr_fmt ?_ | with_reducible refine tr_and ?_ | with_reducible refine tr_or ?_ | with_reducible refine tr_not ?_ | with_reducible refine tr_iSeq ?_ | with_reducible refine tr_lcL ?_ | with_reducible refine tr_fld ?_ | with_reducible refine tr_it ?_ | with_reducible refine tr_ie ?_ | refine tr_var rfl ?_ | dsimp only [Bool.false_eq_true, if_true, if_false])
  refine tr_eq (is_add_t h1 h2) ?_
  repeat (first | with_reducible refine tr_seq ?_ | with_reducible refine tr_asg ?_ | with_reducible refine tr_asg2 ?_ | with_reducible refine tr_expr ?_ | with_reducible refine tr_ret ?_ | with_reducible refine tr_if ?_ | with_reducible refine tr_next ?_ | with_reducible refine tr_c ?_ | with_reducible refine tr_bin ?_ | with_reducible refine tr_un ?_ | with_reducible refine tr_cons ?_ | with_reducible refine tr_nil ?_ | with_reducible refine tr_call ?_ | with_reducible refine tr_tB ?_ | with_reducible refine tr_tAnd ?_ | with_reducible refine tr_tOr ?_ | with_reducible refine tr_tNot ?_ | with_reducible refine tr_tYes ?_ | with_reducible refine tr_mtL ?_ | with_reducible refine tr_mtS ?_ | with_reducible refine tr_sl ?_ | with_reducible refine tr_oN ?_ | with_reducible refine tr_oS ?_ | with_reducible refine tr_lc ?_ | with_reducible refine tr_lcM ?_ | with_reducible refine tr_for ?_ | with_reducible refine tr_frz ?_ | with_reducible refine tr_tup ?_ | with_reducible refine tr_lst ?_ | with_reducible refine tr_lstM ?_ | with_reducible refine tr_isi ?_ | with_reducible refine tr_fmt ?_ | with_reducible refine tr_and ?_ | with_reducible refine tr_or ?_ | with_reducible refine tr_not ?_ | with_reducible refine tr_iSeq ?_ | with_reducible refine tr_lcL ?_ | with_reducible refine tr_fld ?_ | with_reducible refine tr_it ?_ | with_reducible refine tr_ie ?_ | refine tr_var rfl ?_ | dsimp only [Bool.false_eq_true, if_true, if_false])
  refine tr_eq need_t ?_
  repeat (first | with_reducible refine tr_seq ?_ | with_reducible refine tr_asg ?_ | with_reducible refine tr_asg2 ?_ | with_reducible refine tr_expr ?_ | with_reducible refine tr_ret ?_ | with_reducible refine tr_if ?_ | with_reducible refine tr_next ?_ | with_reducible refine tr_c ?_ | with_reducible refine tr_bin ?_ | with_reducible refine tr_un ?_ | with_reducible refine tr_cons ?_ | with_reducible refine tr_nil ?_ | with_reducible refine tr_call ?_ | with_reducible refine tr_tB ?_ | with_reducible refine tr_tAnd ?_ | with_reducible refine tr_tOr ?_ | with_reducible refine tr_tNot ?_ | with_reducible refine tr_tYes ?_ | with_reducible refine tr_mtL ?_ | with_reducible refine tr_mtS ?_ | with_reducible refine tr_sl ?_ | with_reducible refine tr_oN ?_ | with_reducible refine tr_oS ?_ | with_reducible refine tr_lc ?_ | with_reducible refine tr_lcM ?_ | with_reducible refine tr_for ?_ | with_reducible refine tr_frz ?_ | with_reducible refine tr_tup ?_ | with_reducible refine tr_lst ?_ | with_reducible refine tr_lstM ?_ | with_reducible refine tr_isi ?_ | with_reducible refine tr_fmt ?_ | with_reducible refine tr_and ?_ | with_reducible refine tr_or ?_ | with_reducible refine tr_not ?_ | with_reducible refine tr_iSeq ?_ | with_reducible refine tr_lcL ?_ | with_reducible refine tr_fld ?_ | with_reducible refine tr_it ?_ | with_reducible refine tr_ie ?_ | refine tr_var rfl ?_ | dsimp only [Bool.false_eq_true, if_true, if_false])
  obtain ⟨S1, e1, g1, b1⟩ := fld_put (k := 4) (v := .str k) w h (Nat.le_of_ble_eq_true rfl)
  refine ⟨S1, e1, ?_⟩
  repeat (first | with_reducible refine tr_seq ?_ | with_reducible refine tr_asg ?_ | with_reducible refine tr_asg2 ?_ | with_reducible refine tr_expr ?_ | with_reducible refine tr_ret ?_ | with_reducible refine tr_if ?_ | with_reducible refine tr_next ?_ | with_reducible refine tr_c ?_ | with_reducible refine tr_bin ?_ | with_reducible refine tr_un ?_ | with_reducible refine tr_cons ?_ | with_reducible refine tr_nil ?_ | with_reducible refine tr_call ?_ | with_reducible refine tr_tB ?_ | with_reducible refine tr_tAnd ?_ | with_reducible refine tr_tOr ?_ | with_reducible refine tr_tNot ?_ | with_reducible refine tr_tYes ?_ | with_reducible refine tr_mtL ?_ | with_reducible refine tr_mtS ?_ | with_reducible refine tr_sl ?_ | with_reducible refine tr_oN ?_ | with_reducible refine tr_oS ?_ | with_reducible refine tr_lc ?_ | with_reducible refine tr_lcM ?_ | with_reducible refine tr_for ?_ | with_reducible refine tr_frz ?_ | with_reducible refine tr_tup ?_ | with_reducible refine tr_lst ?_ | with_reducible refine tr_lstM ?_ | with_reducible refine tr_isi ?_ | with_reducible refine tr_fmt ?_ | with_reducible refine tr_and ?_ | with_reducible refine tr_or ?_ | with_reducible refine tr_not ?_ | with_reducible refine tr_iSeq ?_ | with_reducible refine tr_lcL ?_ | with_reducible refine tr_fld ?_ | with_reducible refine tr_it ?_ | with_reducible refine tr_ie ?_ | refine tr_var rfl ?_ | dsimp only [Bool.false_eq_true, if_true, if_false])
  obtain ⟨S2, e2, g2, b2⟩ := fld_put (k := 5) (v := .str o) b1.wf g1 (Nat.le_of_ble_eq_true rfl)
  refine ⟨S2, e2, ?_⟩
  repeat (first | with_reducible refine tr_seq ?_ | with_reducible refine tr_asg ?_ | with_reducible refine tr_asg2 ?_ | with_reducible refine tr_expr ?_ | with_reducible refine tr_ret ?_ | with_reducible refine tr_if ?_ | with_reducible refine tr_next ?_ | with_reducible refine tr_c ?_ | with_reducible refine tr_bin ?_ | with_reducible refine tr_un ?_ | with_reducible refine tr_cons ?_ | with_reducible refine tr_nil ?_ | with_reducible refine tr_call ?_ | with_reducible refine tr_tB ?_ | with_reducible refine tr_tAnd ?_ | with_reducible refine tr_tOr ?_ | with_reducible refine tr_tNot ?_ | with_reducible refine tr_tYes ?_ | with_reducible refine tr_mtL ?_ | with_reducible refine tr_mtS ?_ | with_reducible refine tr_sl ?_ | with_reducible refine tr_oN ?_ | with_reducible refine tr_oS ?_ | with_reducible refine tr_lc ?_ | with_reducible refine tr_lcM ?_ | with_reducible refine tr_for ?_ | with_reducible refine tr_frz ?_ | with_reducible refine tr_tup ?_ | with_reducible refine tr_lst ?_ | with_reducible refine tr_lstM ?_ | with_reducible refine tr_isi ?_ | with_reducible refine tr_fmt ?_ | with_reducible refine tr_and ?_ | with_reducible refine tr_or ?_ | with_reducible refine tr_not ?_ | with_reducible refine tr_iSeq ?_ | with_reducible refine tr_lcL ?_ | with_reducible refine tr_fld ?_ | with_reducible refine tr_it ?_ | with_reducible refine tr_ie ?_ | refine tr_var rfl ?_ | dsimp only [Bool.false_eq_true, if_true, if_false])
  obtain ⟨S3, e3, g3, b3⟩ := fld_put (k := 6) (v := .str t) b2.wf g2 (Nat.le_of_ble_eq_true rfl)
  refine ⟨S3, e3, ?_⟩
  repeat (first | with_reducible refine tr_seq ?_ | with_reducible refine tr_asg ?_ | with_reducible refine tr_asg2 ?_ | with_reducible refine tr_expr ?_ | with_reducible refine tr_ret ?_ | with_reducible refine tr_if ?_ | with_reducible refine tr_next ?_ | with_reducible refine tr_c ?_ | with_reducible refine tr_bin ?_ | with_reducible refine tr_un ?_ | with_reducible refine tr_cons ?_ | with_reducible refine tr_nil ?_ | with_reducible refine tr_call ?_ | with_reducible refine tr_tB ?_ | with_reducible refine tr_tAnd ?_ | with_reducible refine tr_tOr ?_ | with_reducible refine tr_tNot ?_ | with_reducible refine tr_tYes ?_ | with_reducible refine tr_mtL ?_ | with_reducible refine tr_mtS ?_ | with_reducible refine tr_sl ?_ | with_reducible refine tr_oN ?_ | with_reducible refine tr_oS ?_ | with_reducible refine tr_lc ?_ | with_reducible refine tr_lcM ?_ | with_reducible refine tr_for ?_ | with_reducible refine tr_frz ?_ | with_reducible refine tr_tup ?_ | with_reducible refine tr_lst ?_ | with_reducible refine tr_lstM ?_ | with_reducible refine tr_isi ?_ | with_reducible refine tr_fmt ?_ | with_reducible refine tr_and ?_ | with_reducible refine tr_or ?_ | with_reducible refine tr_not ?_ | with_reducible refine tr_iSeq ?_ | with_reducible refine tr_lcL ?_ | with_reducible refine tr_fld ?_ | with_reducible refine tr_it ?_ | with_reducible refine tr_ie ?_ | refine tr_var rfl ?_ | dsimp only [Bool.false_eq_true, if_true, if_false])
  obtain ⟨S4, e4, g4, b4⟩ := fld_put (k := 7) (v := .int a) b3.wf g3 (Nat.le_of_ble_eq_true rfl)
  refine ⟨S4, e4, ?_⟩
  repeat (first | with_reducible refine tr_seq ?_ | with_reducible refine tr_asg ?_ | with_reducible refine tr_asg2 ?_ | with_reducible refine tr_expr ?_ | with_reducible refine tr_ret ?_ | with_reducible refine tr_if ?_ | with_reducible refine tr_next ?_ | with_reducible refine tr_c ?_ | with_reducible refine tr_bin ?_ | with_reducible refine tr_un ?_ | with_reducible refine tr_cons ?_ | with_reducible refine tr_nil ?_ | with_reducible refine tr_call ?_ | with_reducible refine tr_tB ?_ | with_reducible refine tr_tAnd ?_ | with_reducible refine tr_tOr ?_ | with_reducible refine tr_tNot ?_ | with_reducible refine tr_tYes ?_ | with_reducible refine tr_mtL ?_ | with_reducible refine tr_mtS ?_ | with_reducible refine tr_sl ?_ | with_reducible refine tr_oN ?_ | with_reducible refine tr_oS ?_ | with_reducible refine tr_lc ?_ | with_reducible refine tr_lcM ?_ | with_reducible refine tr_for ?_ | with_reducible refine tr_frz ?_ | with_reducible refine tr_tup ?_ | with_reducible refine tr_lst ?_ | with_reducible refine tr_lstM ?_ | with_reducible refine tr_isi ?_ | with_reducible refine tr_fmt ?_ | with_reducible refine tr_and ?_ | with_reducible refine tr_or ?_ | with_reducible refine tr_not ?_ | with_reducible refine tr_iSeq ?_ | with_reducible refine tr_lcL ?_ | with_reducible refine tr_fld ?_ | with_reducible refine tr_it ?_ | with_reducible refine tr_ie ?_ | refine tr_var rfl ?_ | dsimp only [Bool.false_eq_true, if_true, if_false])
  refine tr_sup (x := .ref r) rfl (by simp [clsOf, g4]) ?_
  repeat (first | with_reducible refine tr_seq ?_ | with_reducible refine tr_asg ?_ | with_reducible refine tr_asg2 ?_ | with_reducible refine tr_expr ?_ | with_reducible refine tr_ret ?_ | with_reducible refine tr_if ?_ | with_reducible refine tr_next ?_ | with_reducible refine tr_c ?_ | with_reducible refine tr_bin ?_ | with_reducible refine tr_un ?_ | with_reducible refine tr_cons ?_ | with_reducible refine tr_nil ?_ | with_reducible refine tr_call ?_ | with_reducible refine tr_tB ?_ | with_reducible refine tr_tAnd ?_ | with_reducible refine tr_tOr ?_ | with_reducible refine tr_tNot ?_ | with_reducible refine tr_tYes ?_ | with_reducible refine tr_mtL ?_ | with_reducible refine tr_mtS ?_ | with_reducible refine tr_sl ?_ | with_reducible refine tr_oN ?_ | with_reducible refine tr_oS ?_ | with_reducible refine tr_lc ?_ | with_reducible refine tr_lcM ?_ | with_reducible refine tr_for ?_ | with_reducible refine tr_frz ?_ | with_reducible refine tr_tup ?_ | with_reducible refine tr_lst ?_ | with_reducible refine tr_lstM ?_ | with_reducible refine tr_isi ?_ | with_reducible refine tr_fmt ?_ | with_reducible refine tr_and ?_ | with_reducible refine tr_or ?_ | with_reducible refine tr_not ?_ | with_reducible refine tr_iSeq ?_ | with_reducible refine tr_lcL ?_ | with_reducible refine tr_fld ?_ | with_reducible refine tr_it ?_ | with_reducible refine tr_ie ?_ | refine tr_var rfl ?_ | dsimp only [Bool.false_eq_true, if_true, if_false])
  refine tr_jc ?_
  repeat (first | with_reducible refine tr_seq ?_ | with_reducible refine tr_asg ?_ | with_reducible refine tr_asg2 ?_ | with_reducible refine tr_expr ?_ | with_reducible refine tr_ret ?_ | with_reducible refine tr_if ?_ | with_reducible refine tr_next ?_ | with_reducible refine tr_c ?_ | with_reducible refine tr_bin ?_ | with_reducible refine tr_un ?_ | with_reducible refine tr_cons ?_ | with_reducible refine tr_nil ?_ | with_reducible refine tr_call ?_ | with_reducible refine tr_tB ?_ | with_reducible refine tr_tAnd ?_ | with_reducible refine tr_tOr ?_ | with_reducible refine tr_tNot ?_ | with_reducible refine tr_tYes ?_ | with_reducible refine tr_mtL ?_ | with_reducible refine tr_mtS ?_ | with_reducible refine tr_sl ?_ | with_reducible refine tr_oN ?_ | with_reducible refine tr_oS ?_ | with_reducible refine tr_lc ?_ | with_reducible refine tr_lcM ?_ | with_reducible refine tr_for ?_ | with_reducible refine tr_frz ?_ | with_reducible refine tr_tup ?_ | with_reducible refine tr_lst ?_ | with_reducible refine tr_lstM ?_ | with_reducible refine tr_isi ?_ | with_reducible refine tr_fmt ?_ | with_reducible refine tr_and ?_ | with_reducible refine tr_or ?_ | with_reducible refine tr_not ?_ | with_reducible refine tr_iSeq ?_ | with_reducible refine tr_lcL ?_ | with_reducible refine tr_fld ?_ | with_reducible refine tr_it ?_ | with_reducible refine tr_ie ?_ | refine tr_var rfl ?_ | dsimp only [Bool.false_eq_true, if_true, if_false])
  refine ⟨k, rfl, k, rfl, lim50 (by simp <;> omega), tr_jc ?_⟩
  repeat (first | with_reducible refine tr_seq ?_ | with_reducible refine tr_asg ?_ | with_reducible refine tr_asg2 ?_ | with_reducible refine tr_expr ?_ | with_reducible refine tr_ret ?_ | with_reducible refine tr_if ?_ | with_reducible refine tr_next ?_ | with_reducible refine tr_c ?_ | with_reducible refine tr_bin ?_ | with_reducible refine tr_un ?_ | with_reducible refine tr_cons ?_ | with_reducible refine tr_nil ?_ | with_reducible refine tr_call ?_ | with_reducible refine tr_tB ?_ | with_reducible refine tr_tAnd ?_ | with_reducible refine tr_tOr ?_ | with_reducible refine tr_tNot ?_ | with_reducible refine tr_tYes ?_ | with_reducible refine tr_mtL ?_ | with_reducible refine tr_mtS ?_ | with_reducible refine tr_sl ?_ | with_reducible refine tr_oN ?_ | with_reducible refine tr_oS ?_ | with_reducible refine tr_lc ?_ | with_reducible refine tr_lcM ?_ | with_reducible refine tr_for ?_ | with_reducible refine tr_frz ?_ | with_reducible refine tr_tup ?_ | with_reducible refine tr_lst ?_ | with_reducible refine tr_lstM ?_ | with_reducible refine tr_isi ?_ | with_reducible refine tr_fmt ?_ | with_reducible refine tr_and ?_ | with_reducible refine tr_or ?_ | with_reducible refine tr_not ?_ | with_reducible refine tr_iSeq ?_ | with_reducible refine tr_lcL ?_ | with_reducible refine tr_fld ?_ | with_reducible refine tr_it ?_ | with_reducible refine tr_ie ?_ | refine tr_var rfl ?_ | dsimp only [Bool.false_eq_true, if_true, if_false])
  refine ⟨s_23_, rfl, lim50 (by simp <;> omega), tr_jc ?_⟩
  repeat (first | with_reducible refine tr_seq ?_ | with_reducible refine tr_asg ?_ | with_reducible refine tr_asg2 ?_ | with_reducible refine tr_expr ?_ | with_reducible refine tr_ret ?_ | with_reducible refine tr_if ?_ | with_reducible refine tr_next ?_ | with_reducible refine tr_c ?_ | with_reducible refine tr_bin ?_ | with_reducible refine tr_un ?_ | with_reducible refine tr_cons ?_ | with_reducible refine tr_nil ?_ | with_reducible refine tr_call ?_ | with_reducible refine tr_tB ?_ | with_reducible refine tr_tAnd ?_ | with_reducible refine tr_tOr ?_ | with_reducible refine tr_tNot ?_ | with_reducible refine tr_tYes ?_ | with_reducible refine tr_mtL ?_ | with_reducible refine tr_mtS ?_ | with_reducible refine tr_sl ?_ | with_reducible refine tr_oN ?_ | with_reducible refine tr_oS ?_ | with_reducible refine tr_lc ?_ | with_reducible refine tr_lcM ?_ | with_reducible refine tr_for ?_ | with_reducible refine tr_frz ?_ | with_reducible refine tr_tup ?_ | with_reducible refine tr_lst ?_ | with_reducible refine tr_lstM ?_ | with_reducible refine tr_isi ?_ | with_reducible refine tr_fmt ?_ | with_reducible refine tr_and ?_ | with_reducible refine tr_or ?_ | with_reducible refine tr_not ?_ | with_reducible refine tr_iSeq ?_ | with_reducible refine tr_lcL ?_ | with_reducible refine tr_fld ?_ | with_reducible refine tr_it ?_ | with_reducible refine tr_ie ?_ | refine tr_var rfl ?_ | dsimp only [Bool.false_eq_true, if_true, if_false])
  refine ⟨o, rfl, o, rfl, lim50 (by simp <;> omega), tr_jc ?_⟩
  repeat (first | with_reducible refine tr_seq ?_ | with_reducible refine tr_asg ?_ | with_reducible refine tr_asg2 ?_ | with_reducible refine tr_expr ?_ | with_reducible refine tr_ret ?_ | with_reducible refine tr_if ?_ | with_reducible refine tr_next ?_ | with_reducible refine tr_c ?_ | with_reducible refine tr_bin ?_ | with_reducible refine tr_un ?_ | with_reducible refine tr_cons ?_ | with_reducible refine tr_nil ?_ | with_reducible refine tr_call ?_ | with_reducible refine tr_tB ?_ | with_reducible refine tr_tAnd ?_ | with_reducible refine tr_tOr ?_ | with_reducible refine tr_tNot ?_ | with_reducible refine tr_tYes ?_ | with_reducible refine tr_mtL ?_ | with_reducible refine tr_mtS ?_ | with_reducible refine tr_sl ?_ | with_reducible refine tr_oN ?_ | with_reducible refine tr_oS ?_ | with_reducible refine tr_lc ?_ | with_reducible refine tr_lcM ?_ | with_reducible refine tr_for ?_ | with_reducible refine tr_frz ?_ | with_reducible refine tr_tup ?_ | with_reducible refine tr_lst ?_ | with_reducible refine tr_lstM ?_ | with_reducible refine tr_isi ?_ | with_reducible refine tr_fmt ?_ | with_reducible refine tr_and ?_ | with_reducible refine tr_or ?_ | with_reducible refine tr_not ?_ | with_reducible refine tr_iSeq ?_ | with_reducible refine tr_lcL ?_ | with_reducible refine tr_fld ?_ | with_reducible refine tr_it ?_ | with_reducible refine tr_ie ?_ | refine tr_var rfl ?_ | dsimp only [Bool.false_eq_true, if_true, if_false])
  refine ⟨s_24_, rfl, lim50 (by simp <;> omega), tr_jc ?_⟩
  repeat (first | with_reducible refine tr_seq ?_ | with_reducible refine tr_asg ?_ | with_reducible refine tr_asg2 ?_ | with_reducible refine tr_expr ?_ | with_reducible refine tr_ret ?_ | with_reducible refine tr_if ?_ | with_reducible refine tr_next ?_ | with_reducible refine tr_c ?_ | with_reducible refine tr_bin ?_ | with_reducible refine tr_un ?_ | with_reducible refine tr_cons ?_ | with_reducible refine tr_nil ?_ | with_reducible refine tr_call ?_ | with_reducible refine tr_tB ?_ | with_reducible refine tr_tAnd ?_ | with_reducible refine tr_tOr ?_ | with_reducible refine tr_tNot ?_ | with_reducible refine tr_tYes ?_ | with_reducible refine tr_mtL ?_ | with_reducible refine tr_mtS ?_ | with_reducible refine tr_sl ?_ | with_reducible refine tr_oN ?_ | with_reducible refine tr_oS ?_ | with_reducible refine tr_lc ?_ | with_reducible refine tr_lcM ?_ | with_reducible refine tr_for ?_ | with_reducible refine tr_frz ?_ | with_reducible refine tr_tup ?_ | with_reducible refine tr_lst ?_ | with_reducible refine tr_lstM ?_ | with_reducible refine tr_isi ?_ | with_reducible refine tr_fmt ?_ | with_reducible refine tr_and ?_ | with_reducible refine tr_or ?_ | with_reducible refine tr_not ?_ | with_reducible refine tr_iSeq ?_ | with_reducible refine tr_lcL ?_ | with_reducible refine tr_fld ?_ | with_reducible refine tr_it ?_ | with_reducible refine tr_ie ?_ | refine tr_var rfl ?_ | dsimp only [Bool.false_eq_true, if_true, if_false])
  refine ⟨t, rfl, t, rfl, lim50 (by simp <;> omega), tr_jc ?_⟩
  repeat (first | with_reducible refine tr_seq ?_ | with_reducible refine tr_asg ?_ | with_reducible refine tr_asg2 ?_ | with_reducible refine tr_expr ?_ | with_reducible refine tr_ret ?_ | with_reducible refine tr_if ?_ | with_reducible refine tr_next ?_ | with_reducible refine tr_c ?_ | with_reducible refine tr_bin ?_ | with_reducible refine tr_un ?_ | with_reducible refine tr_cons ?_ | with_reducible refine tr_nil ?_ | with_reducible refine tr_call ?_ | with_reducible refine tr_tB ?_ | with_reducible refine tr_tAnd ?_ | with_reducible refine tr_tOr ?_ | with_reducible refine tr_tNot ?_ | with_reducible refine tr_tYes ?_ | with_reducible refine tr_mtL ?_ | with_reducible refine tr_mtS ?_ | with_reducible refine tr_sl ?_ | with_reducible refine tr_oN ?_ | with_reducible refine tr_oS ?_ | with_reducible refine tr_lc ?_ | with_reducible refine tr_lcM ?_ | with_reducible refine tr_for ?_ | with_reducible refine tr_frz ?_ | with_reducible refine tr_tup ?_ | with_reducible refine tr_lst ?_ | with_reducible refine tr_lstM ?_ | with_reducible refine tr_isi ?_ | with_reducible refine tr_fmt ?_ | with_reducible refine tr_and ?_ | with_reducible refine tr_or ?_ | with_reducible refine tr_not ?_ | with_reducible refine tr_iSeq ?_ | with_reducible refine tr_lcL ?_ | with_reducible refine tr_fld ?_ | with_reducible refine tr_it ?_ | with_reducible refine tr_ie ?_ | refine tr_var rfl ?_ | dsimp only [Bool.false_eq_true, if_true, if_false])
  refine ⟨s_25_, rfl, lim50 (by simp <;> omega), tr_jc ?_⟩
  repeat (first | with_reducible refine tr_seq ?_ | with_reducible refine tr_asg ?_ | with_reducible refine tr_asg2 ?_ | with_reducible refine tr_expr ?_ | with_reducible refine tr_ret ?_ | with_reducible refine tr_if ?_ | with_reducible refine tr_next ?_ | with_reducible refine tr_c ?_ | with_reducible refine tr_bin ?_ | with_reducible refine tr_un ?_ | with_reducible refine tr_cons ?_ | with_reducible refine tr_nil ?_ | with_reducible refine tr_call ?_ | with_reducible refine tr_tB ?_ | with_reducible refine tr_tAnd ?_ | with_reducible refine tr_tOr ?_ | with_reducible refine tr_tNot ?_ | with_reducible refine tr_tYes ?_ | with_reducible refine tr_mtL ?_ | with_reducible refine tr_mtS ?_ | with_reducible refine tr_sl ?_ | with_reducible refine tr_oN ?_ | with_reducible refine tr_oS ?_ | with_reducible refine tr_lc ?_ | with_reducible refine tr_lcM ?_ | with_reducible refine tr_for ?_ | with_reducible refine tr_frz ?_ | with_reducible refine tr_tup ?_ | with_reducible refine tr_lst ?_ | with_reducible refine tr_lstM ?_ | with_reducible refine tr_isi ?_ | with_reducible refine tr_fmt ?_ | with_reducible refine tr_and ?_ | with_reducible refine tr_or ?_ | with_reducible refine tr_not ?_ | with_reducible refine tr_iSeq ?_ | with_reducible refine tr_lcL ?_ | with_reducible refine tr_fld ?_ | with_reducible refine tr_it ?_ | with_reducible refine tr_ie ?_ | refine tr_var rfl ?_ | dsimp only [Bool.false_eq_true, if_true, if_false])
  refine ⟨intL a, fa, intL a, rfl, lim50 (by simp <;> omega), tr_jn ?_⟩
  repeat (first | with_reducible refine tr_seq ?_ | with_reducible refine tr_asg ?_ | with_reducible refine tr_asg2 ?_ | with_reducible refine tr_expr ?_ | with_reducible refine tr_ret ?_ | with_reducible refine tr_if ?_ | with_reducible refine tr_next ?_ | with_reducible refine tr_c ?_ | with_reducible refine tr_bin ?_ | with_reducible refine tr_un ?_ | with_reducible refine tr_cons ?_ | with_reducible refine tr_nil ?_ | with_reducible refine tr_call ?_ | with_reducible refine tr_tB ?_ | with_reducible refine tr_tAnd ?_ | with_reducible refine tr_tOr ?_ | with_reducible refine tr_tNot ?_ | with_reducible refine tr_tYes ?_ | with_reducible refine tr_mtL ?_ | with_reducible refine tr_mtS ?_ | with_reducible refine tr_sl ?_ | with_reducible refine tr_oN ?_ | with_reducible refine tr_oS ?_ | with_reducible refine tr_lc ?_ | with_reducible refine tr_lcM ?_ | with_reducible refine tr_for ?_ | with_reducible refine tr_frz ?_ | with_reducible refine tr_tup ?_ | with_reducible refine tr_lst ?_ | with_reducible refine tr_lstM ?_ | with_reducible refine tr_isi ?_ | with_reducible refine tr_fmt ?_ | with_reducible refine tr_and ?_ | with_reducible refine tr_or ?_ | with_reducible refine tr_not ?_ | with_reducible refine tr_iSeq ?_ | with_reducible refine tr_lcL ?_ | with_reducible refine tr_fld ?_ | with_reducible refine tr_it ?_ | with_reducible refine tr_ie ?_ | refine tr_var rfl ?_ | dsimp only [Bool.false_eq_true, if_true, if_false])
  refine ⟨Nat.le_of_ble_eq_true rfl, ?_⟩
  repeat (first | with_reducible refine tr_seq ?_ | with_reducible refine tr_asg ?_ | with_reducible refine tr_asg2 ?_ | with_reducible refine tr_expr ?_ | with_reducible refine tr_ret ?_ | with_reducible refine tr_if ?_ | with_reducible refine tr_next ?_ | with_reducible refine tr_c ?_ | with_reducible refine tr_bin ?_ | with_reducible refine tr_un ?_ | with_reducible refine tr_cons ?_ | with_reducible refine tr_nil ?_ | with_reducible refine tr_call ?_ | with_reducible refine tr_tB ?_ | with_reducible refine tr_tAnd ?_ | with_reducible refine tr_tOr ?_ | with_reducible refine tr_tNot ?_ | with_reducible refine tr_tYes ?_ | with_reducible refine tr_mtL ?_ | with_reducible refine tr_mtS ?_ | with_reducible refine tr_sl ?_ | with_reducible refine tr_oN ?_ | with_reducible refine tr_oS ?_ | with_reducible refine tr_lc ?_ | with_reducible refine tr_lcM ?_ | with_reducible refine tr_for ?_ | with_reducible refine tr_frz ?_ | with_reducible refine tr_tup ?_ | with_reducible refine tr_lst ?_ | with_reducible refine tr_lstM ?_ | with_reducible refine tr_isi ?_ | with_reducible refine tr_fmt ?_ | with_reducible refine tr_and ?_ | with_reducible refine tr_or ?_ | with_reducible refine tr_not ?_ | with_reducible refine tr_iSeq ?_ | with_reducible refine tr_lcL ?_ | with_reducible refine tr_fld ?_ | with_reducible refine tr_it ?_ | with_reducible refine tr_ie ?_ | refine tr_var rfl ?_ | dsimp only [Bool.false_eq_true, if_true, if_false])
  refine (row_init_tr (c := 1) b4.wf g4 (Nat.le_of_ble_eq_true rfl) (fun q hq => ?_) (Nat.le_of_ble_eq_true rfl)).imp ?_
  · rcases List.mem_cons.mp hq with rfl | hq
    · exact .inl ho
    · rw [List.mem_singleton.mp hq]; exact .inr (.inl ht)
  · rintro v S5 ⟨rfl, ys, g5, b5⟩
    exact ⟨rfl, ys, g5, b1.trans (b2.trans (b3.trans (b4.trans b5)))⟩
def txJ (x y t : List Nat) (a : Int) : List Nat := ((((((s_26_ ++ x) ++ s_23_) ++ y) ++ s_24_) ++ t) ++ s_25_) ++ intL a
theorem join_init_tr {r : Nat} {x y t : List Nat} {a : Int} (w : Wf S) (h : S.get r = some (.ins 2 [])) (hx : .str x ∈ olds) (hy : .str y ∈ olds) (ht : .str t ∈ thenJ) (h1 : -3 ≤ a) (h2 : a ≤ 3) :
    Tr (m_Join_init [.ref r, .str x, .str y, .str t, .int a] S) fun v S' => v = .non ∧ ∃ ys, S'.get r = some (.ins 2 [(8, .str x), (9, .str y), (6, .str t), (7, .int a), (2, .str (txJ x y t a)), (3, .tup ys)]) ∧ But r S S' := by
  have lx := wl_of (.inl hx)
  have ly := wl_of (.inl hy)
  have lt := wl_of (.inr (.inr (.inl ht)))
  obtain ⟨fa, la⟩ := fmt_add h1 h2
  refine tr_fn [some (.ref r), some (.str x), some (.str y), some (.str t), some (.int a), none] rfl rfl ?_
  repeat (first | with_reducible refine tr_seq ?_ | with_reducible refine tr_asg ?_ | with_reducible refine tr_asg2 ?_ | with_reducible refine tr_expr ?_ | with_reducible refine tr_ret ?_ | with_reducible refine tr_if ?_ | with_reducible refine tr_next ?_ | with_reducible refine tr_c ?_ | with_reducible refine tr_bin ?_ | with_reducible refine tr_un ?_ | with_reducible refine tr_cons ?_ | with_reducible refine tr_nil ?_ | with_reducible refine tr_call ?_ | with_reducible refine tr_tB ?_ | with_reducible refine tr_tAnd ?_ | with_reducible refine tr_tOr ?_ | with_reducible refine tr_tNot ?_ | with_reducible refine tr_tYes ?_ | with_reducible refine tr_mtL ?_ | with_reducible refine tr_mtS ?_ | with_reducible refine tr_sl ?_ | with_reducible refine tr_oN ?_ | with_reducible refine tr_oS ?_ | with_reducible refine tr_lc ?_ | with_reducible refine tr_lcM ?_ | with_reducible refine tr_for ?_ | with_reducible refine tr_frz ?_ | with_reducible refine tr_tup ?_ | with_reducible refine tr_lst ?_ | with_reducible refine tr_lstM ?_ | with_reducible refine tr_isi ?_ | with_reducible refine tr_fmt ?_ | with_reducible refine tr_and ?_ | with_reducible refine tr_or ?_ | with_reducible refine tr_not ?_ | with_reducible refine tr_iSeq ?_ | with_reducible refine tr_lcL ?_ | with_reducible refine tr_fld ?_ | with_reducible refine tr_it ?_ | with_reducible refine tr_ie ?_ | refine tr_var rfl ?_ | dsimp only [Bool.false_eq_true, if_true, if_false])
  refine tr_eq (is_old_t _ hx) ?_
  repeat (first | with_reducible refine tr_seq ?_ | with_reducible refine tr_asg ?_ | with_reducible refine tr_asg2 ?_ | with_reducible refine tr_expr ?_ | with_reducible refine tr_ret ?_ | with_reducible refine tr_if ?_ | with_reducible refine tr_next ?_ | with_reducible refine tr_c ?_ | with_reducible refine tr_bin ?_ | with_reducible refine tr_un ?_ | with_reducible refine tr_cons ?_ | with_reducible refine tr_nil ?_ | with_reducible refine tr_call ?_ | with_reducible refine tr_tB ?_ | with_reducible refine tr_tAnd ?_ | with_reducible refine tr_tOr ?_ | with_reducible refine tr_tNot ?_ | with_reducible refine tr_tYes ?_ | with_reducible refine tr_mtL ?_ | with_reducible refine tr_mtS ?_ | with_reducible refine tr_sl ?_ | with_reducible refine tr_oN ?_ | with_reducible refine tr_oS ?_ | with_reducible refine tr_lc ?_ | with_reducible refine tr_lcM ?_ | with_reducible refine tr_for ?_ | with_reducible refine tr_frz ?_ | with_reducible refine tr_tup ?_ | with_reducible refine tr_lst ?_ | with_reducible refine tr_lstM ?_ | with_reducible refine tr_isi ?_ | with_reducible refine tr_fmt ?_ | with_reducible refine tr_and ?_ | with_reducible refine tr_or ?_ | with_reducible refine tr_not ?_ | with_reducible refine tr_iSeq ?_ | with_reducible refine tr_lcL ?_ | with_reducible refine tr_fld ?_ | with_reducible refine tr_it ?_ | with_reducible refine tr_ie ?_ | refine tr_var rfl ?_ | dsimp only [Bool.false_eq_true, if_true, if_false])
  refine tr_eq need_t ?_
  repeat (first | with_reducible refine tr_seq ?_ | with_reducible refine tr_asg ?_ | with_reducible refine tr_asg2 ?_ | with_reducible refine tr_expr ?_ | with_reducible refine tr_ret ?_ | with_reducible refine tr_if ?_ | with_reducible refine tr_next ?_ | with_reducible refine tr_c ?_ | with_reducible refine tr_bin ?_ | with_reducible refine tr_un ?_ | with_reducible refine tr_cons ?_ | with_reducible refine tr_nil ?_ | with_reducible refine tr_call ?_ | with_reducible refine tr_tB ?_ | with_reducible refine tr_tAnd ?_ | with_reducible refine tr_tOr ?_ | with_reducible refine tr_tNot ?_ | with_reducible refine tr_tYes ?_ | with_reducible refine tr_mtL ?_ | with_reducible refine tr_mtS ?_ | with_reducible refine tr_sl ?_ | with_reducible refine tr_oN ?_ | with_reducible refine tr_oS ?_ | with_reducible refine tr_lc ?_ | with_reducible refine tr_lcM ?_ | with_reducible refine tr_for ?_ | with_reducible refine tr_frz ?_ | with_reducible refine tr_tup ?_ | with_reducible refine tr_lst ?_ | with_reducible refine tr_lstM ?_ | with_reducible refine tr_isi ?_ | with_reducible refine tr_fmt ?_ | with_reducible refine tr_and ?_ | with_reducible refine tr_or ?_ | with_reducible refine tr_not ?_ | with_reducible refine tr_iSeq ?_ | with_reducible refine tr_lcL ?_ | with_reducible refine tr_fld ?_ | with_reducible refine tr_it ?_ | with_reducible refine tr_ie ?_ | refine tr_var rfl ?_ | dsimp only [Bool.false_eq_true, if_true, if_false])
  refine tr_eq (is_old_t _ hy) ?_
  repeat (first | with_reducible refine tr_seq ?_ | with_reducible refine tr_asg ?_ | with_reducible refine tr_asg2 ?_ | with_reducible refine tr_expr ?_ | with_reducible refine tr_ret ?_ | with_reducible refine tr_if ?_ | with_reducible refine tr_next ?_ | with_reducible refine tr_c ?_ | with_reducible refine tr_bin ?_ | with_reducible refine tr_un ?_ | with_reducible refine tr_cons ?_ | with_reducible refine tr_nil ?_ | with_reducible refine tr_call ?_ | with_reducible refine tr_tB ?_ | with_reducible refine tr_tAnd ?_ | with_reducible refine tr_tOr ?_ | with_reducible refine tr_tNot ?_ | with_reducible refine tr_tYes ?_ | with_reducible refine tr_mtL ?_ | with_reducible refine tr_mtS ?_ | with_reducible refine tr_sl ?_ | with_reducible refine tr_oN ?_ | with_reducible refine tr_oS ?_ | with_reducible refine tr_lc ?_ | with_reducible refine tr_lcM ?_ | with_reducible refine tr_for ?_ | with_reducible refine tr_frz ?_ | with_reducible refine tr_tup ?_ | with_reducible refine tr_lst ?_ | with_reducible refine tr_lstM ?_ | with_reducible refine tr_isi ?_ | with_reducible refine tr_fmt ?_ | with_reducible refine tr_and ?_ | with_reducible refine tr_or ?_ | with_reducible refine tr_not ?_ | with_reducible refine tr_iSeq ?_ | with_reducible refine tr_lcL ?_ | with_reducible refine tr_fld ?_ | with_reducible refine tr_it ?_ | with_reducible refine tr_ie ?_ | refine tr_var rfl ?_ | dsimp only [Bool.false_eq_true, if_true, if_false])
  refine tr_eq need_t ?_
  repeat (first | with_reducible refine tr_seq ?_ | with_reducible refine tr_asg ?_ | with_reducible refine tr_asg2 ?_ | with_reducible refine tr_expr ?_ | with_reducible refine tr_ret ?_ | with_reducible refine tr_if ?_ | with_reducible refine tr_next ?_ | with_reducible refine tr_c ?_ | with_reducible refine tr_bin ?_ | with_reducible refine tr_un ?_ | with_reducible refine tr_cons ?_ | with_reducible refine tr_nil ?_ | with_reducible refine tr_call ?_ | with_reducible refine tr_tB ?_ | with_reducible refine tr_tAnd ?_ | with_reducible refine tr_tOr ?_ | with_reducible refine tr_tNot ?_ | with_reducible refine tr_tYes ?_ | with_reducible refine tr_mtL ?_ | with_reducible refine tr_mtS ?_ | with_reducible refine tr_sl ?_ | with_reducible refine tr_oN ?_ | with_reducible refine tr_oS ?_ | with_reducible refine tr_lc ?_ | with_reducible refine tr_lcM ?_ | with_reducible refine tr_for ?_ | with_reducible refine tr_frz ?_ | with_reducible refine tr_tup ?_ | with_reducible refine tr_lst ?_ | with_reducible refine tr_lstM ?_ | with_reducible refine tr_isi ?_ | with_reducible refine tr_fmt ?_ | with_reducible refine tr_and ?_ | with_reducible refine tr_or ?_ | with_reducible refine tr_not ?_ | with_reducible refine tr_iSeq ?_ | with_reducible refine tr_lcL ?_ | with_reducible refine tr_fld ?_ | with_reducible refine tr_it ?_ | with_reducible refine tr_ie ?_ | refine tr_var rfl ?_ | dsimp only [Bool.false_eq_true, if_true, if_false])
  refine ⟨Nat.le_of_ble_eq_true rfl, ?_⟩
  repeat (first | with_reducible refine tr_seq ?_ | with_reducible refine tr_asg ?_ | with_reducible refine tr_asg2 ?_ | with_reducible refine tr_expr ?_ | with_reducible refine tr_ret ?_ | with_reducible refine tr_if ?_ | with_reducible refine tr_next ?_ | with_reducible refine tr_c ?_ | with_reducible refine tr_bin ?_ | with_reducible refine tr_un ?_ | with_reducible refine tr_cons ?_ | with_reducible refine tr_nil ?_ | with_reducible refine tr_call ?_ | with_reducible refine tr_tB ?_ | with_reducible refine tr_tAnd ?_ | with_reducible refine tr_tOr ?_ | with_reducible refine tr_tNot ?_ | with_reducible refine tr_tYes ?_ | with_reducible refine tr_mtL ?_ | with_reducible refine tr_mtS ?_ | with_reducible refine tr_sl ?_ | with_reducible refine tr_oN ?_ | with_reducible refine tr_oS ?_ | with_reducible refine tr_lc ?_ | with_reducible refine tr_lcM ?_ | with_reducible refine tr_for ?_ | with_reducible refine tr_frz ?_ | with_reducible refine tr_tup ?_ | with_reducible refine tr_lst ?_ | with_reducible refine tr_lstM ?_ | with_reducible refine tr_isi ?_ | with_reducible refine tr_fmt ?_ | with_reducible refine tr_and ?_ | with_reducible refine tr_or ?_ | with_reducible refine tr_not ?_ | with_reducible refine tr_iSeq ?_ | with_reducible refine tr_lcL ?_ | with_reducible refine tr_fld ?_ | with_reducible refine tr_it ?_ | with_reducible refine tr_ie ?_ | refine tr_var rfl ?_ | dsimp only [Bool.false_eq_true, if_true, if_false])
  refine tr_eq (is_new_j _ ht) ?_
  repeat (first | with_reducible refine tr_seq ?_ | with_reducible refine tr_asg ?_ | with_reducible refine tr_asg2 ?_ | with_reducible refine tr_expr ?_ | with_reducible refine tr_ret ?_ | with_reducible refine tr_if ?_ | with_reducible refine tr_next ?_ | with_reducible refine tr_c ?_ | with_reducible refine tr_bin ?_ | with_reducible refine tr_un ?_ | with_reducible refine tr_cons ?_ | with_reducible refine tr_nil ?_ | with_reducible refine tr_call ?_ | with_reducible refine tr_tB ?_ | with_reducible refine tr_tAnd ?_ | with_reducible refine tr_tOr ?_ | with_reducible refine tr_tNot ?_ | with_reducible refine tr_tYes ?_ | with_reducible refine tr_mtL ?_ | with_reducible refine tr_mtS ?_ | with_reducible refine tr_sl ?_ | with_reducible refine tr_oN ?_ | with_reducible refine tr_oS ?_ | with_reducible refine tr_lc ?_ | with_reducible refine tr_lcM ?_ | with_reducible refine tr_for ?_ | with_reducible refine tr_frz ?_ | with_reducible refine tr_tup ?_ | with_reducible refine tr_lst ?_ | with_reducible refine tr_lstM ?_ | with_reducible refine tr_isi ?_ | with_reducible refine tr_fmt ?_ | with_reducible refine tr_and ?_ | with_reducible refine tr_or ?_ | with_reducible refine tr_not ?_ | with_reducible refine tr_iSeq ?_ | with_reducible refine tr_lcL ?_ | with_reducible refine tr_fld ?_ | with_reducible refine tr_it ?_ | with_reducible refine tr_ie ?_ | refine tr_var rfl ?_ | dsimp only [Bool.false_eq_true, if_true, if_false])
  refine tr_eq need_t ?_
  repeat (first | with_reducible refine tr_seq ?_ | with_reducible refine tr_asg ?_ | with_reducible refine tr_asg2 ?_ | with_reducible refine tr_expr ?_ | with_reducible refine tr_ret ?_ | with_reducible refine tr_if ?_ | with_reducible refine tr_next ?_ | with_reducible refine tr_c ?_ | with_reducible refine tr_bin ?_ | with_reducible refine tr_un ?_ | with_reducible refine tr_cons ?_ | with_reducible refine tr_nil ?_ | with_reducible refine tr_call ?_ | with_reducible refine tr_tB ?_ | with_reducible refine tr_tAnd ?_ | with_reducible refine tr_tOr ?_ | with_reducible refine tr_tNot ?_ | with_reducible refine tr_tYes ?_ | with_reducible refine tr_mtL ?_ | with_reducible refine tr_mtS ?_ | with_reducible refine tr_sl ?_ | with_reducible refine tr_oN ?_ | with_reducible refine tr_oS ?_ | with_reducible refine tr_lc ?_ | with_reducible refine tr_lcM ?_ | with_reducible refine tr_for ?_ | with_reducible refine tr_frz ?_ | with_reducible refine tr_tup ?_ | with_reducible refine tr_lst ?_ | with_reducible refine tr_lstM ?_ | with_reducible refine tr_isi ?_ | with_reducible refine tr_fmt ?_ | with_reducible refine tr_and ?_ | with_reducible refine tr_or ?_ | with_reducible refine tr_not ?_ | with_reducible refine tr_iSeq ?_ | with_reducible refine tr_lcL ?_ | with_reducible refine tr_fld ?_ | with_reducible refine tr_it ?_ | with_reducible refine tr_ie ?_ | refine tr_var rfl ?_ | dsimp only [Bool.false_eq_true, if_true, if_false])
  refine tr_eq (is_add_t h1 h2) ?_
  repeat (first | with_reducible refine tr_seq ?_ | with_reducible refine tr_asg ?_ | with_reducible refine tr_asg2 ?_ | with_reducible refine tr_expr ?_ | with_reducible refine tr_ret ?_ | with_reducible refine tr_if ?_ | with_reducible refine tr_next ?_ | with_reducible refine tr_c ?_ | with_reducible refine tr_bin ?_ | with_reducible refine tr_un ?_ | with_reducible refine tr_cons ?_ | with_reducible refine tr_nil ?_ | with_reducible refine tr_call ?_ | with_reducible refine tr_tB ?_ | with_reducible refine tr_tAnd ?_ | with_reducible refine tr_tOr ?_ | with_reducible refine tr_tNot ?_ | with_reducible refine tr_tYes ?_ | with_reducible refine tr_mtL ?_ | with_reducible refine tr_mtS ?_ | with_reducible refine tr_sl ?_ | with_reducible refine tr_oN ?_ | with_reducible refine tr_oS ?_ | with_reducible refine tr_lc ?_ | with_reducible refine tr_lcM ?_ | with_reducible refine tr_for ?_ | with_reducible refine tr_frz ?_ | with_reducible refine tr_tup ?_ | with_reducible refine tr_lst ?_ | with_reducible refine tr_lstM ?_ | with_reducible refine tr_isi ?_ | with_reducible refine tr_fmt ?_ | with_reducible refine tr_and ?_ | with_reducible refine tr_or ?_ | with_reducible refine tr_not ?_ | with_reducible refine tr_iSeq ?_ | with_reducible refine tr_lcL ?_ | with_reducible refine tr_fld ?_ | with_reducible refine tr_it ?_ | with_reducible refine tr_ie ?_ | refine tr_var rfl ?_ | dsimp only [Bool.false_eq_true, if_true, if_false])
  refine tr_eq need_t ?_
  repeat (first | with_reducible refine tr_seq ?_ | with_reducible refine tr_asg ?_ | with_reducible refine tr_asg2 ?_ | with_reducible refine tr_expr ?_ | with_reducible refine tr_ret ?_ | with_reducible refine tr_if ?_ | with_reducible refine tr_next ?_ | with_reducible refine tr_c ?_ | with_reducible refine tr_bin ?_ | with_reducible refine tr_un ?_ | with_reducible refine tr_cons ?_ | with_reducible refine tr_nil ?_ | with_reducible refine tr_call ?_ | with_reducible refine tr_tB ?_ | with_reducible refine tr_tAnd ?_ | with_reducible refine tr_tOr ?_ | with_reducible refine tr_tNot ?_ | with_reducible refine tr_tYes ?_ | with_reducible refine tr_mtL ?_ | with_reducible refine tr_mtS ?_ | with_reducible refine tr_sl ?_ | with_reducible refine tr_oN ?_ | with_reducible refine tr_oS ?_ | with_reducible refine tr_lc ?_ | with_reducible refine tr_lcM ?_ | with_reducible refine tr_for ?_ | with_reducible refine tr_frz ?_ | with_reducible refine tr_tup ?_ | with_reducible refine tr_lst ?_ | with_reducible refine tr_lstM ?_ | with_reducible refine tr_isi ?_ | with_reducible refine tr_fmt ?_ | with_reducible refine tr_and ?_ | with_reducible refine tr_or ?_ | with_reducible refine tr_not ?_ | with_reducible refine tr_iSeq ?_ | with_reducible refine tr_lcL ?_ | with_reducible refine tr_fld ?_ | with_reducible refine tr_it ?_ | with_reducible refine tr_ie ?_ | refine tr_var rfl ?_ | dsimp only [Bool.false_eq_true, if_true, if_false])
  obtain ⟨S1, e1, g1, b1⟩ := fld_put (k := 8) (v := .str x) w h (Nat.le_of_ble_eq_true rfl)
  refine ⟨S1, e1, ?_⟩
  repeat (first | with_reducible refine tr_seq ?_ | with_reducible refine tr_asg ?_ | with_reducible refine tr_asg2 ?_ | with_reducible refine tr_expr ?_ | with_reducible refine tr_ret ?_ | with_reducible refine tr_if ?_ | with_reducible refine tr_next ?_ | with_reducible refine tr_c ?_ | with_reducible refine tr_bin ?_ | with_reducible refine tr_un ?_ | with_reducible refine tr_cons ?_ | with_reducible refine tr_nil ?_ | with_reducible refine tr_call ?_ | with_reducible refine tr_tB ?_ | with_reducible refine tr_tAnd ?_ | with_reducible refine tr_tOr ?_ | with_reducible refine tr_tNot ?_ | with_reducible refine tr_tYes ?_ | with_reducible refine tr_mtL ?_ | with_reducible refine tr_mtS ?_ | with_reducible refine tr_sl ?_ | with_reducible refine tr_oN ?_ | with_reducible refine tr_oS ?_ | with_reducible refine tr_lc ?_ | with_reducible refine tr_lcM ?_ | with_reducible refine tr_for ?_ | with_reducible refine tr_frz ?_ | with_reducible refine tr_tup ?_ | with_reducible refine tr_lst ?_ | with_reducible refine tr_lstM ?_ | with_reducible refine tr_isi ?_ | with_reducible refine tr_fmt ?_ | with_reducible refine tr_and ?_ | with_reducible refine tr_or ?_ | with_reducible refine tr_not ?_ | with_reducible refine tr_iSeq ?_ | with_reducible refine tr_lcL ?_ | with_reducible refine tr_fld ?_ | with_reducible refine tr_it ?_ | with_reducible refine tr_ie ?_ | refine tr_var rfl ?_ | dsimp only [Bool.false_eq_true, if_true, if_false])
  obtain ⟨S2, e2, g2, b2⟩ := fld_put (k := 9) (v := .str y) b1.wf g1 (Nat.le_of_ble_eq_true rfl)
  refine ⟨S2, e2, ?_⟩
  repeat (first | with_reducible refine tr_seq ?_ | with_reducible refine tr_asg ?_ | with_reducible refine tr_asg2 ?_ | with_reducible refine tr_expr ?_ | with_reducible refine tr_ret ?_ | with_reducible refine tr_if ?_ | with_reducible refine tr_next ?_ | with_reducible refine tr_c ?_ | with_reducible refine tr_bin ?_ | with_reducible refine tr_un ?_ | with_reducible refine tr_cons ?_ | with_reducible refine tr_nil ?_ | with_reducible refine tr_call ?_ | with_reducible refine tr_tB ?_ | with_reducible refine tr_tAnd ?_ | with_reducible refine tr_tOr ?_ | with_reducible refine tr_tNot ?_ | with_reducible refine tr_tYes ?_ | with_reducible refine tr_mtL ?_ | with_reducible refine tr_mtS ?_ | with_reducible refine tr_sl ?_ | with_reducible refine tr_oN ?_ | with_reducible refine tr_oS ?_ | with_reducible refine tr_lc ?_ | with_reducible refine tr_lcM ?_ | with_reducible refine tr_for ?_ | with_reducible refine tr_frz ?_ | with_reducible refine tr_tup ?_ | with_reducible refine tr_lst ?_ | with_reducible refine tr_lstM ?_ | with_reducible refine tr_isi ?_ | with_reducible refine tr_fmt ?_ | with_reducible refine tr_and ?_ | with_reducible refine tr_or ?_ | with_reducible refine tr_not ?_ | with_reducible refine tr_iSeq ?_ | with_reducible refine tr_lcL ?_ | with_reducible refine tr_fld ?_ | with_reducible refine tr_it ?_ | with_reducible refine tr_ie ?_ | refine tr_var rfl ?_ | dsimp only [Bool.false_eq_true, if_true, if_false])
  obtain ⟨S3, e3, g3, b3⟩ := fld_put (k := 6) (v := .str t) b2.wf g2 (Nat.le_of_ble_eq_true rfl)
  refine ⟨S3, e3, ?_⟩
  repeat (first | with_reducible refine tr_seq ?_ | with_reducible refine tr_asg ?_ | with_reducible refine tr_asg2 ?_ | with_reducible refine tr_expr ?_ | with_reducible refine tr_ret ?_ | with_reducible refine tr_if ?_ | with_reducible refine tr_next ?_ | with_reducible refine tr_c ?_ | with_reducible refine tr_bin ?_ | with_reducible refine tr_un ?_ | with_reducible refine tr_cons ?_ | with_reducible refine tr_nil ?_ | with_reducible refine tr_call ?_ | with_reducible refine tr_tB ?_ | with_reducible refine tr_tAnd ?_ | with_reducible refine tr_tOr ?_ | with_reducible refine tr_tNot ?_ | with_reducible refine tr_tYes ?_ | with_reducible refine tr_mtL ?_ | with_reducible refine tr_mtS ?_ | with_reducible refine tr_sl ?_ | with_reducible refine tr_oN ?_ | with_reducible refine tr_oS ?_ | with_reducible refine tr_lc ?_ | with_reducible refine tr_lcM ?_ | with_reducible refine tr_for ?_ | with_reducible refine tr_frz ?_ | with_reducible refine tr_tup ?_ | with_reducible refine tr_lst ?_ | with_reducible refine tr_lstM ?_ | with_reducible refine tr_isi ?_ | with_reducible refine tr_fmt ?_ | with_reducible refine tr_and ?_ | with_reducible refine tr_or ?_ | with_reducible refine tr_not ?_ | with_reducible refine tr_iSeq ?_ | with_reducible refine tr_lcL ?_ | with_reducible refine tr_fld ?_ | with_reducible refine tr_it ?_ | with_reducible refine tr_ie ?_ | refine tr_var rfl ?_ | dsimp only [Bool.false_eq_true, if_true, if_false])
  obtain ⟨S4, e4, g4, b4⟩ := fld_put (k := 7) (v := .int a) b3.wf g3 (Nat.le_of_ble_eq_true rfl)
  refine ⟨S4, e4, ?_⟩
  repeat (first | with_reducible refine tr_seq ?_ | with_reducible refine tr_asg ?_ | with_reducible refine tr_asg2 ?_ | with_reducible refine tr_expr ?_ | with_reducible refine tr_ret ?_ | with_reducible refine tr_if ?_ | with_reducible refine tr_next ?_ | with_reducible refine tr_c ?_ | with_reducible refine tr_bin ?_ | with_reducible refine tr_un ?_ | with_reducible refine tr_cons ?_ | with_reducible refine tr_nil ?_ | with_reducible refine tr_call ?_ | with_reducible refine tr_tB ?_ | with_reducible refine tr_tAnd ?_ | with_reducible refine tr_tOr ?_ | with_reducible refine tr_tNot ?_ | with_reducible refine tr_tYes ?_ | with_reducible refine tr_mtL ?_ | with_reducible refine tr_mtS ?_ | with_reducible refine tr_sl ?_ | with_reducible refine tr_oN ?_ | with_reducible refine tr_oS ?_ | with_reducible refine tr_lc ?_ | with_reducible refine tr_lcM ?_ | with_reducible refine tr_for ?_ | with_reducible refine tr_frz ?_ | with_reducible refine tr_tup ?_ | with_reducible refine tr_lst ?_ | with_reducible refine tr_lstM ?_ | with_reducible refine tr_isi ?_ | with_reducible refine tr_fmt ?_ | with_reducible refine tr_and ?_ | with_reducible refine tr_or ?_ | with_reducible refine tr_not ?_ | with_reducible refine tr_iSeq ?_ | with_reducible refine tr_lcL ?_ | with_reducible refine tr_fld ?_ | with_reducible refine tr_it ?_ | with_reducible refine tr_ie ?_ | refine tr_var rfl ?_ | dsimp only [Bool.false_eq_true, if_true, if_false])
  refine tr_sup (x := .ref r) rfl (by simp [clsOf, g4]) ?_
  repeat (first | with_reducible refine tr_seq ?_ | with_reducible refine tr_asg ?_ | with_reducible refine tr_asg2 ?_ | with_reducible refine tr_expr ?_ | with_reducible refine tr_ret ?_ | with_reducible refine tr_if ?_ | with_reducible refine tr_next ?_ | with_reducible refine tr_c ?_ | with_reducible refine tr_bin ?_ | with_reducible refine tr_un ?_ | with_reducible refine tr_cons ?_ | with_reducible refine tr_nil ?_ | with_reducible refine tr_call ?_ | with_reducible refine tr_tB ?_ | with_reducible refine tr_tAnd ?_ | with_reducible refine tr_tOr ?_ | with_reducible refine tr_tNot ?_ | with_reducible refine tr_tYes ?_ | with_reducible refine tr_mtL ?_ | with_reducible refine tr_mtS ?_ | with_reducible refine tr_sl ?_ | with_reducible refine tr_oN ?_ | with_reducible refine tr_oS ?_ | with_reducible refine tr_lc ?_ | with_reducible refine tr_lcM ?_ | with_reducible refine tr_for ?_ | with_reducible refine tr_frz ?_ | with_reducible refine tr_tup ?_ | with_reducible refine tr_lst ?_ | with_reducible refine tr_lstM ?_ | with_reducible refine tr_isi ?_ | with_reducible refine tr_fmt ?_ | with_reducible refine tr_and ?_ | with_reducible refine tr_or ?_ | with_reducible refine tr_not ?_ | with_reducible refine tr_iSeq ?_ | with_reducible refine tr_lcL ?_ | with_reducible refine tr_fld ?_ | with_reducible refine tr_it ?_ | with_reducible refine tr_ie ?_ | refine tr_var rfl ?_ | dsimp only [Bool.false_eq_true, if_true, if_false])
  refine tr_jc ?_
  repeat (first | with_reducible refine tr_seq ?_ | with_reducible refine tr_asg ?_ | with_reducible refine tr_asg2 ?_ | with_reducible refine tr_expr ?_ | with_reducible refine tr_ret ?_ | with_reducible refine tr_if ?_ | with_reducible refine tr_next ?_ | with_reducible refine tr_c ?_ | with_reducible refine tr_bin ?_ | with_reducible refine tr_un ?_ | with_reducible refine tr_cons ?_ | with_reducible refine tr_nil ?_ | with_reducible refine tr_call ?_ | with_reducible refine tr_tB ?_ | with_reducible refine tr_tAnd ?_ | with_reducible refine tr_tOr ?_ | with_reducible refine tr_tNot ?_ | with_reducible refine tr_tYes ?_ | with_reducible refine tr_mtL ?_ | with_reducible refine tr_mtS ?_ | with_reducible refine tr_sl ?_ | with_reducible refine tr_oN ?_ | with_reducible refine tr_oS ?_ | with_reducible refine tr_lc ?_ | with_reducible refine tr_lcM ?_ | with_reducible refine tr_for ?_ | with_reducible refine tr_frz ?_ | with_reducible refine tr_tup ?_ | with_reducible refine tr_lst ?_ | with_reducible refine tr_lstM ?_ | with_reducible refine tr_isi ?_ | with_reducible refine tr_fmt ?_ | with_reducible refine tr_and ?_ | with_reducible refine tr_or ?_ | with_reducible refine tr_not ?_ | with_reducible refine tr_iSeq ?_ | with_reducible refine tr_lcL ?_ | with_reducible refine tr_fld ?_ | with_reducible refine tr_it ?_ | with_reducible refine tr_ie ?_ | refine tr_var rfl ?_ | dsimp only [Bool.false_eq_true, if_true, if_false])
  refine ⟨s_26_, rfl, lim50 (by simp <;> omega), tr_jc ?_⟩
  repeat (first | with_reducible refine tr_seq ?_ | with_reducible refine tr_asg ?_ | with_reducible refine tr_asg2 ?_ | with_reducible refine tr_expr ?_ | with_reducible refine tr_ret ?_ | with_reducible refine tr_if ?_ | with_reducible refine tr_next ?_ | with_reducible refine tr_c ?_ | with_reducible refine tr_bin ?_ | with_reducible refine tr_un ?_ | with_reducible refine tr_cons ?_ | with_reducible refine tr_nil ?_ | with_reducible refine tr_call ?_ | with_reducible refine tr_tB ?_ | with_reducible refine tr_tAnd ?_ | with_reducible refine tr_tOr ?_ | with_reducible refine tr_tNot ?_ | with_reducible refine tr_tYes ?_ | with_reducible refine tr_mtL ?_ | with_reducible refine tr_mtS ?_ | with_reducible refine tr_sl ?_ | with_reducible refine tr_oN ?_ | with_reducible refine tr_oS ?_ | with_reducible refine tr_lc ?_ | with_reducible refine tr_lcM ?_ | with_reducible refine tr_for ?_ | with_reducible refine tr_frz ?_ | with_reducible refine tr_tup ?_ | with_reducible refine tr_lst ?_ | with_reducible refine tr_lstM ?_ | with_reducible refine tr_isi ?_ | with_reducible refine tr_fmt ?_ | with_reducible refine tr_and ?_ | with_reducible refine tr_or ?_ | with_reducible refine tr_not ?_ | with_reducible refine tr_iSeq ?_ | with_reducible refine tr_lcL ?_ | with_reducible refine tr_fld ?_ | with_reducible refine tr_it ?_ | with_reducible refine tr_ie ?_ | refine tr_var rfl ?_ | dsimp only [Bool.false_eq_true, if_true, if_false])
  refine ⟨x, rfl, x, rfl, lim50 (by simp <;> omega), tr_jc ?_⟩
  repeat (first | with_reducible refine tr_seq ?_ | with_reducible refine tr_asg ?_ | with_reducible refine tr_asg2 ?_ | with_reducible refine tr_expr ?_ | with_reducible refine tr_ret ?_ | with_reducible refine tr_if ?_ | with_reducible refine tr_next ?_ | with_reducible refine tr_c ?_ | with_reducible refine tr_bin ?_ | with_reducible refine tr_un ?_ | with_reducible refine tr_cons ?_ | with_reducible refine tr_nil ?_ | with_reducible refine tr_call ?_ | with_reducible refine tr_tB ?_ | with_reducible refine tr_tAnd ?_ | with_reducible refine tr_tOr ?_ | with_reducible refine tr_tNot ?_ | with_reducible refine tr_tYes ?_ | with_reducible refine tr_mtL ?_ | with_reducible refine tr_mtS ?_ | with_reducible refine tr_sl ?_ | with_reducible refine tr_oN ?_ | with_reducible refine tr_oS ?_ | with_reducible refine tr_lc ?_ | with_reducible refine tr_lcM ?_ | with_reducible refine tr_for ?_ | with_reducible refine tr_frz ?_ | with_reducible refine tr_tup ?_ | with_reducible refine tr_lst ?_ | with_reducible refine tr_lstM ?_ | with_reducible refine tr_isi ?_ | with_reducible refine tr_fmt ?_ | with_reducible refine tr_and ?_ | with_reducible refine tr_or ?_ | with_reducible refine tr_not ?_ | with_reducible refine tr_iSeq ?_ | with_reducible refine tr_lcL ?_ | with_reducible refine tr_fld ?_ | with_reducible refine tr_it ?_ | with_reducible refine tr_ie ?_ | refine tr_var rfl ?_ | dsimp only [Bool.false_eq_true, if_true, if_false])
  refine ⟨s_23_, rfl, lim50 (by simp <;> omega), tr_jc ?_⟩
  repeat (first | with_reducible refine tr_seq ?_ | with_reducible refine tr_asg ?_ | with_reducible refine tr_asg2 ?_ | with_reducible refine tr_expr ?_ | with_reducible refine tr_ret ?_ | with_reducible refine tr_if ?_ | with_reducible refine tr_next ?_ | with_reducible refine tr_c ?_ | with_reducible refine tr_bin ?_ | with_reducible refine tr_un ?_ | with_reducible refine tr_cons ?_ | with_reducible refine tr_nil ?_ | with_reducible refine tr_call ?_ | with_reducible refine tr_tB ?_ | with_reducible refine tr_tAnd ?_ | with_reducible refine tr_tOr ?_ | with_reducible refine tr_tNot ?_ | with_reducible refine tr_tYes ?_ | with_reducible refine tr_mtL ?_ | with_reducible refine tr_mtS ?_ | with_reducible refine tr_sl ?_ | with_reducible refine tr_oN ?_ | with_reducible refine tr_oS ?_ | with_reducible refine tr_lc ?_ | with_reducible refine tr_lcM ?_ | with_reducible refine tr_for ?_ | with_reducible refine tr_frz ?_ | with_reducible refine tr_tup ?_ | with_reducible refine tr_lst ?_ | with_reducible refine tr_lstM ?_ | with_reducible refine tr_isi ?_ | with_reducible refine tr_fmt ?_ | with_reducible refine tr_and ?_ | with_reducible refine tr_or ?_ | with_reducible refine tr_not ?_ | with_reducible refine tr_iSeq ?_ | with_reducible refine tr_lcL ?_ | with_reducible refine tr_fld ?_ | with_reducible refine tr_it ?_ | with_reducible refine tr_ie ?_ | refine tr_var rfl ?_ | dsimp only [Bool.false_eq_true, if_true, if_false])
  refine ⟨y, rfl, y, rfl, lim50 (by simp <;> omega), tr_jc ?_⟩
  repeat (first | with_reducible refine tr_seq ?_ | with_reducible refine tr_asg ?_ | with_reducible refine tr_asg2 ?_ | with_reducible refine tr_expr ?_ | with_reducible refine tr_ret ?_ | with_reducible refine tr_if ?_ | with_reducible refine tr_next ?_ | with_reducible refine tr_c ?_ | with_reducible refine tr_bin ?_ | with_reducible refine tr_un ?_ | with_reducible refine tr_cons ?_ | with_reducible refine tr_nil ?_ | with_reducible refine tr_call ?_ | with_reducible refine tr_tB ?_ | with_reducible refine tr_tAnd ?_ | with_reducible refine tr_tOr ?_ | with_reducible refine tr_tNot ?_ | with_reducible refine tr_tYes ?_ | with_reducible refine tr_mtL ?_ | with_reducible refine tr_mtS ?_ | with_reducible refine tr_sl ?_ | with_reducible refine tr_oN ?_ | with_reducible refine tr_oS ?_ | with_reducible refine tr_lc ?_ | with_reducible refine tr_lcM ?_ | with_reducible refine tr_for ?_ | with_reducible refine tr_frz ?_ | with_reducible refine tr_tup ?_ | with_reducible refine tr_lst ?_ | with_reducible refine tr_lstM ?_ | with_reducible refine tr_isi ?_ | with_reducible refine tr_fmt ?_ | with_reducible refine tr_and ?_ | with_reducible refine tr_or ?_ | with_reducible refine tr_not ?_ | with_reducible refine tr_iSeq ?_ | with_reducible refine tr_lcL ?_ | with_reducible refine tr_fld ?_ | with_reducible refine tr_it ?_ | with_reducible refine tr_ie ?_ | refine tr_var rfl ?_ | dsimp only [Bool.false_eq_true, if_true, if_false])
  refine ⟨s_24_, rfl, lim50 (by simp <;> omega), tr_jc ?_⟩
  repeat (first | with_reducible refine tr_seq ?_ | with_reducible refine tr_asg ?_ | with_reducible refine tr_asg2 ?_ | with_reducible refine tr_expr ?_ | with_reducible refine tr_ret ?_ | with_reducible refine tr_if ?_ | with_reducible refine tr_next ?_ | with_reducible refine tr_c ?_ | with_reducible refine tr_bin ?_ | with_reducible refine tr_un ?_ | with_reducible refine tr_cons ?_ | with_reducible refine tr_nil ?_ | with_reducible refine tr_call ?_ | with_reducible refine tr_tB ?_ | with_reducible refine tr_tAnd ?_ | with_reducible refine tr_tOr ?_ | with_reducible refine tr_tNot ?_ | with_reducible refine tr_tYes ?_ | with_reducible refine tr_mtL ?_ | with_reducible refine tr_mtS ?_ | with_reducible refine tr_sl ?_ | with_reducible refine tr_oN ?_ | with_reducible refine tr_oS ?_ | with_reducible refine tr_lc ?_ | with_reducible refine tr_lcM ?_ | with_reducible refine tr_for ?_ | with_reducible refine tr_frz ?_ | with_reducible refine tr_tup ?_ | with_reducible refine tr_lst ?_ | with_reducible refine tr_lstM ?_ | with_reducible refine tr_isi ?_ | with_reducible refine tr_fmt ?_ | with_reducible refine tr_and ?_ | with_reducible refine tr_or ?_ | with_reducible refine tr_not ?_ | with_reducible refine tr_iSeq ?_ | with_reducible refine tr_lcL ?_ | with_reducible refine tr_fld ?_ | with_reducible refine tr_it ?_ | with_reducible refine tr_ie ?_ | refine tr_var rfl ?_ | dsimp only [Bool.false_eq_true, if_true, if_false])
  refine ⟨t, rfl, t, rfl, lim50 (by simp <;> omega), tr_jc ?_⟩
  repeat (first | with_reducible refine tr_seq ?_ | with_reducible refine tr_asg ?_ | with_reducible refine tr_asg2 ?_ | with_reducible refine tr_expr ?_ | with_reducible refine tr_ret ?_ | with_reducible refine tr_if ?_ | with_reducible refine tr_next ?_ | with_reducible refine tr_c ?_ | with_reducible refine tr_bin ?_ | with_reducible refine tr_un ?_ | with_reducible refine tr_cons ?_ | with_reducible refine tr_nil ?_ | with_reducible refine tr_call ?_ | with_reducible refine tr_tB ?_ | with_reducible refine tr_tAnd ?_ | with_reducible refine tr_tOr ?_ | with_reducible refine tr_tNot ?_ | with_reducible refine tr_tYes ?_ | with_reducible refine tr_mtL ?_ | with_reducible refine tr_mtS ?_ | with_reducible refine tr_sl ?_ | with_reducible refine tr_oN ?_ | with_reducible refine tr_oS ?_ | with_reducible refine tr_lc ?_ | with_reducible refine tr_lcM ?_ | with_reducible refine tr_for ?_ | with_reducible refine tr_frz ?_ | with_reducible refine tr_tup ?_ | with_reducible refine tr_lst ?_ | with_reducible refine tr_lstM ?_ | with_reducible refine tr_isi ?_ | with_reducible refine tr_fmt ?_ | with_reducible refine tr_and ?_ | with_reducible refine tr_or ?_ | with_reducible refine tr_not ?_ | with_reducible refine tr_iSeq ?_ | with_reducible refine tr_lcL ?_ | with_reducible refine tr_fld ?_ | with_reducible refine tr_it ?_ | with_reducible refine tr_ie ?_ | refine tr_var rfl ?_ | dsimp only [Bool.false_eq_true, if_true, if_false])
  refine ⟨s_25_, rfl, lim50 (by simp <;> omega), tr_jc ?_⟩
  repeat (first | with_reducible refine tr_seq ?_ | with_reducible refine tr_asg ?_ | with_reducible refine tr_asg2 ?_ | with_reducible refine tr_expr ?_ | with_reducible refine tr_ret ?_ | with_reducible refine tr_if ?_ | with_reducible refine tr_next ?_ | with_reducible refine tr_c ?_ | with_reducible refine tr_bin ?_ | with_reducible refine tr_un ?_ | with_reducible refine tr_cons ?_ | with_reducible refine tr_nil ?_ | with_reducible refine tr_call ?_ | with_reducible refine tr_tB ?_ | with_reducible refine tr_tAnd ?_ | with_reducible refine tr_tOr ?_ | with_reducible refine tr_tNot ?_ | with_reducible refine tr_tYes ?_ | with_reducible refine tr_mtL ?_ | with_reducible refine tr_mtS ?_ | with_reducible refine tr_sl ?_ | with_reducible refine tr_oN ?_ | with_reducible refine tr_oS ?_ | with_reducible refine tr_lc ?_ | with_reducible refine tr_lcM ?_ | with_reducible refine tr_for ?_ | with_reducible refine tr_frz ?_ | with_reducible refine tr_tup ?_ | with_reducible refine tr_lst ?_ | with_reducible refine tr_lstM ?_ | with_reducible refine tr_isi ?_ | with_reducible refine tr_fmt ?_ | with_reducible refine tr_and ?_ | with_reducible refine tr_or ?_ | with_reducible refine tr_not ?_ | with_reducible refine tr_iSeq ?_ | with_reducible refine tr_lcL ?_ | with_reducible refine tr_fld ?_ | with_reducible refine tr_it ?_ | with_reducible refine tr_ie ?_ | refine tr_var rfl ?_ | dsimp only [Bool.false_eq_true, if_true, if_false])
  refine ⟨intL a, fa, intL a, rfl, lim50 (by simp <;> omega), tr_jn ?_⟩
  repeat (first | with_reducible refine tr_seq ?_ | with_reducible refine tr_asg ?_ | with_reducible refine tr_asg2 ?_ | with_reducible refine tr_expr ?_ | with_reducible refine tr_ret ?_ | with_reducible refine tr_if ?_ | with_reducible refine tr_next ?_ | with_reducible refine tr_c ?_ | with_reducible refine tr_bin ?_ | with_reducible refine tr_un ?_ | with_reducible refine tr_cons ?_ | with_reducible refine tr_nil ?_ | with_reducible refine tr_call ?_ | with_reducible refine tr_tB ?_ | with_reducible refine tr_tAnd ?_ | with_reducible refine tr_tOr ?_ | with_reducible refine tr_tNot ?_ | with_reducible refine tr_tYes ?_ | with_reducible refine tr_mtL ?_ | with_reducible refine tr_mtS ?_ | with_reducible refine tr_sl ?_ | with_reducible refine tr_oN ?_ | with_reducible refine tr_oS ?_ | with_reducible refine tr_lc ?_ | with_reducible refine tr_lcM ?_ | with_reducible refine tr_for ?_ | with_reducible refine tr_frz ?_ | with_reducible refine tr_tup ?_ | with_reducible refine tr_lst ?_ | with_reducible refine tr_lstM ?_ | with_reducible refine tr_isi ?_ | with_reducible refine tr_fmt ?_ | with_reducible refine tr_and ?_ | with_reducible refine tr_or ?_ | with_reducible refine tr_not ?_ | with_reducible refine tr_iSeq ?_ | with_reducible refine tr_lcL ?_ | with_reducible refine tr_fld ?_ | with_reducible refine tr_it ?_ | with_reducible refine tr_ie ?_ | refine tr_var rfl ?_ | dsimp only [Bool.false_eq_true, if_true, if_false])
  refine ⟨Nat.le_of_ble_eq_true rfl, ?_⟩
  repeat (first | with_reducible refine tr_seq ?_ | with_reducible refine tr_asg ?_ | with_reducible refine tr_asg2 ?_ | with_reducible refine tr_expr ?_ | with_reducible refine tr_ret ?_ | with_reducible refine tr_if ?_ | with_reducible refine tr_next ?_ | with_reducible refine tr_c ?_ | with_reducible refine tr_bin ?_ | with_reducible refine tr_un ?_ | with_reducible refine tr_cons ?_ | with_reducible refine tr_nil ?_ | with_reducible refine tr_call ?_ | with_reducible refine tr_tB ?_ | with_reducible refine tr_tAnd ?_ | with_reducible refine tr_tOr ?_ | with_reducible refine tr_tNot ?_ | with_reducible refine tr_tYes ?_ | with_reducible refine tr_mtL ?_ | with_reducible refine tr_mtS ?_ | with_reducible refine tr_sl ?_ | with_reducible refine tr_oN ?_ | with_reducible refine tr_oS ?_ | with_reducible refine tr_lc ?_ | with_reducible refine tr_lcM ?_ | with_reducible refine tr_for ?_ | with_reducible refine tr_frz ?_ | with_reducible refine tr_tup ?_ | with_reducible refine tr_lst ?_ | with_reducible refine tr_lstM ?_ | with_reducible refine tr_isi ?_ | with_reducible refine tr_fmt ?_ | with_reducible refine tr_and ?_ | with_reducible refine tr_or ?_ | with_reducible refine tr_not ?_ | with_reducible refine tr_iSeq ?_ | with_reducible refine tr_lcL ?_ | with_reducible refine tr_fld ?_ | with_reducible refine tr_it ?_ | with_reducible refine tr_ie ?_ | refine tr_var rfl ?_ | dsimp only [Bool.false_eq_true, if_true, if_false])
  refine (row_init_tr (c := 2) b4.wf g4 (Nat.le_of_ble_eq_true rfl) (fun q hq => ?_) (Nat.le_of_ble_eq_true rfl)).imp ?_
  · rcases List.mem_cons.mp hq with rfl | hq
    · exact .inl hx
    · rcases List.mem_cons.mp hq with rfl | hq
      · exact .inl hy
      · rw [List.mem_singleton.mp hq]; exact .inr (.inr ht)
  · rintro v S5 ⟨rfl, ys, g5, b5⟩
    exact ⟨rfl, ys, g5, b1.trans (b2.trans (b3.trans (b4.trans (b5))))⟩
def txP (o l r0 : List Nat) (a b : Int) : List Nat := ((((((((s_38_ ++ o) ++ s_24_) ++ l) ++ s_23_) ++ r0) ++ s_25_) ++ intL a) ++ s_23_) ++ intL b
theorem part_init_tr {r : Nat} {o l r0 : List Nat} {a b : Int} (w : Wf S) (h : S.get r = some (.ins 3 [])) (ho : .str o ∈ olds) (hl : .str l ∈ thens) (hr : .str r0 ∈ thens) (h1 : -3 ≤ a) (h2 : a ≤ 3) (h3 : -3 ≤ b) (h4 : b ≤ 3) :
    Tr (m_Part_init [.ref r, .str o, .str l, .str r0, .int a, .int b] S) fun v S' => v = .non ∧ ∃ ys, S'.get r = some (.ins 3 [(5, .str o), (10, .str l), (11, .str r0), (7, .int a), (12, .int b), (2, .str (txP o l r0 a b)), (3, .tup ys)]) ∧ But r S S' := by
  have lo := wl_of (.inl ho)
  have ll := wl_of (.inr (.inl hl))
  have lr := wl_of (.inr (.inl hr))
  obtain ⟨fa, la⟩ := fmt_add h1 h2
  obtain ⟨fb, lb⟩ := fmt_add h3 h4
  refine tr_fn [some (.ref r), some (.str o), some (.str l), some (.str r0), some (.int a), some (.int b), none] rfl rfl ?_
  repeat (first | with_reducible refine tr_seq ?_ | with_reducible refine tr_asg ?_ | with_reducible refine tr_asg2 ?_ | with_reducible refine tr_expr ?_ | with_reducible refine tr_ret ?_ | with_reducible refine tr_if ?_ | with_reducible refine tr_next ?_ | with_reducible refine tr_c ?_ | with_reducible refine tr_bin ?_ | with_reducible refine tr_un ?_ | with_reducible refine tr_cons ?_ | with_reducible refine tr_nil ?_ | with_reducible refine tr_call ?_ | with_reducible refine tr_tB ?_ | with_reducible refine tr_tAnd ?_ | with_reducible refine tr_tOr ?_ | with_reducible refine tr_tNot ?_ | with_reducible refine tr_tYes ?_ | with_reducible refine tr_mtL ?_ | with_reducible refine tr_mtS ?_ | with_reducible refine tr_sl ?_ | with_reducible refine tr_oN ?_ | with_reducible refine tr_oS ?_ | with_reducible refine tr_lc ?_ | with_reducible refine tr_lcM ?_ | with_reducible refine tr_for ?_ | with_reducible refine tr_frz ?_ | with_reducible refine tr_tup ?_ | with_reducible refine tr_lst ?_ | with_reducible refine tr_lstM ?_ | with_reducible refine tr_isi ?_ | with_reducible refine tr_fmt ?_ | with_reducible refine tr_and ?_ | with_reducible refine tr_or ?_ | with_reducible refine tr_not ?_ | with_reducible refine tr_iSeq ?_ | with_reducible refine tr_lcL ?_ | with_reducible refine tr_fld ?_ | with_reducible refine tr_it ?_ | with_reducible refine tr_ie ?_ | refine tr_var rfl ?_ | dsimp only [Bool.false_eq_true, if_true, if_false])
  refine tr_eq (is_old_t _ ho) ?_
  repeat (first | with_reducible refine tr_seq ?_ | with_reducible refine tr_asg ?_ | with_reducible refine tr_asg2 ?_ | with_reducible refine tr_expr ?_ | with_reducible refine tr_ret ?_ | with_reducible refine tr_if ?_ | with_reducible refine tr_next ?_ | with_reducible refine tr_c ?_ | with_reducible refine tr_bin ?_ | with_reducible refine tr_un ?_ | with_reducible refine tr_cons ?_ | with_reducible refine tr_nil ?_ | with_reducible refine tr_call ?_ | with_reducible refine tr_tB ?_ | with_reducible refine tr_tAnd ?_ | with_reducible refine tr_tOr ?_ | with_reducible refine tr_tNot ?_ | with_reducible refine tr_tYes ?_ | with_reducible refine tr_mtL ?_ | with_reducible refine tr_mtS ?_ | with_reducible refine tr_sl ?_ | with_reducible refine tr_oN ?_ | with_reducible refine tr_oS ?_ | with_reducible refine tr_lc ?_ | with_reducible refine tr_lcM ?_ | with_reducible refine tr_for ?_ | with_reducible refine tr_frz ?_ | with_reducible refine tr_tup ?_ | with_reducible refine tr_lst ?_ | with_reducible refine tr_lstM ?_ | with_reducible refine tr_isi ?_ | with_reducible refine tr_fmt ?_ | with_reducible refine tr_and ?_ | with_reducible refine tr_or ?_ | with_reducible refine tr_not ?_ | with_reducible refine tr_iSeq ?_ | with_reducible refine tr_lcL ?_ | with_reducible refine tr_fld ?_ | with_reducible refine tr_it ?_ | with_reducible refine tr_ie ?_ | refine tr_var rfl ?_ | dsimp only [Bool.false_eq_true, if_true, if_false])
  refine tr_eq need_t ?_
  repeat (first | with_reducible refine tr_seq ?_ | with_reducible refine tr_asg ?_ | with_reducible refine tr_asg2 ?_ | with_reducible refine tr_expr ?_ | with_reducible refine tr_ret ?_ | with_reducible refine tr_if ?_ | with_reducible refine tr_next ?_ | with_reducible refine tr_c ?_ | with_reducible refine tr_bin ?_ | with_reducible refine tr_un ?_ | with_reducible refine tr_cons ?_ | with_reducible refine tr_nil ?_ | with_reducible refine tr_call ?_ | with_reducible refine tr_tB ?_ | with_reducible refine tr_tAnd ?_ | with_reducible refine tr_tOr ?_ | with_reducible refine tr_tNot ?_ | with_reducible refine tr_tYes ?_ | with_reducible refine tr_mtL ?_ | with_reducible refine tr_mtS ?_ | with_reducible refine tr_sl ?_ | with_reducible refine tr_oN ?_ | with_reducible refine tr_oS ?_ | with_reducible refine tr_lc ?_ | with_reducible refine tr_lcM ?_ | with_reducible refine tr_for ?_ | with_reducible refine tr_frz ?_ | with_reducible refine tr_tup ?_ | with_reducible refine tr_lst ?_ | with_reducible refine tr_lstM ?_ | with_reducible refine tr_isi ?_ | with_reducible refine tr_fmt ?_ | with_reducible refine tr_and ?_ | with_reducible refine tr_or ?_ | with_reducible refine tr_not ?_ | with_reducible refine tr_iSeq ?_ | with_reducible refine tr_lcL ?_ | with_reducible refine tr_fld ?_ | with_reducible refine tr_it ?_ | with_reducible refine tr_ie ?_ | refine tr_var rfl ?_ | dsimp only [Bool.false_eq_true, if_true, if_false])
  refine ⟨Nat.le_of_ble_eq_true rfl, ?_⟩
  repeat (first | with_reducible refine tr_seq ?_ | with_reducible refine tr_asg ?_ | with_reducible refine tr_asg2 ?_ | with_reducible refine tr_expr ?_ | with_reducible refine tr_ret ?_ | with_reducible refine tr_if ?_ | with_reducible refine tr_next ?_ | with_reducible refine tr_c ?_ | with_reducible refine tr_bin ?_ | with_reducible refine tr_un ?_ | with_reducible refine tr_cons ?_ | with_reducible refine tr_nil ?_ | with_reducible refine tr_call ?_ | with_reducible refine tr_tB ?_ | with_reducible refine tr_tAnd ?_ | with_reducible refine tr_tOr ?_ | with_reducible refine tr_tNot ?_ | with_reducible refine tr_tYes ?_ | with_reducible refine tr_mtL ?_ | with_reducible refine tr_mtS ?_ | with_reducible refine tr_sl ?_ | with_reducible refine tr_oN ?_ | with_reducible refine tr_oS ?_ | with_reducible refine tr_lc ?_ | with_reducible refine tr_lcM ?_ | with_reducible refine tr_for ?_ | with_reducible refine tr_frz ?_ | with_reducible refine tr_tup ?_ | with_reducible refine tr_lst ?_ | with_reducible refine tr_lstM ?_ | with_reducible refine tr_isi ?_ | with_reducible refine tr_fmt ?_ | with_reducible refine tr_and ?_ | with_reducible refine tr_or ?_ | with_reducible refine tr_not ?_ | with_reducible refine tr_iSeq ?_ | with_reducible refine tr_lcL ?_ | with_reducible refine tr_fld ?_ | with_reducible refine tr_it ?_ | with_reducible refine tr_ie ?_ | refine tr_var rfl ?_ | dsimp only [Bool.false_eq_true, if_true, if_false])
  refine tr_eq (is_new_t _ hl) ?_
  repeat (first | with_reducible refine tr_seq ?_ | with_reducible refine tr_asg ?_ | with_reducible refine tr_asg2 ?_ | with_reducible refine tr_expr ?_ | with_reducible refine tr_ret ?_ | with_reducible refine tr_if ?_ | with_reducible refine tr_next ?_ | with_reducible refine tr_c ?_ | with_reducible refine tr_bin ?_ | with_reducible refine tr_un ?_ | with_reducible refine tr_cons ?_ | with_reducible refine tr_nil ?_ | with_reducible refine tr_call ?_ | with_reducible refine tr_tB ?_ | with_reducible refine tr_tAnd ?_ | with_reducible refine tr_tOr ?_ | with_reducible refine tr_tNot ?_ | with_reducible refine tr_tYes ?_ | with_reducible refine tr_mtL ?_ | with_reducible refine tr_mtS ?_ | with_reducible refine tr_sl ?_ | with_reducible refine tr_oN ?_ | with_reducible refine tr_oS ?_ | with_reducible refine tr_lc ?_ | with_reducible refine tr_lcM ?_ | with_reducible refine tr_for ?_ | with_reducible refine tr_frz ?_ | with_reducible refine tr_tup ?_ | with_reducible refine tr_lst ?_ | with_reducible refine tr_lstM ?_ | with_reducible refine tr_isi ?_ | with_reducible refine tr_fmt ?_ | with_reducible refine tr_and ?_ | with_reducible refine tr_or ?_ | with_reducible refine tr_not ?_ | with_reducible refine tr_iSeq ?_ | with_reducible refine tr_lcL ?_ | with_reducible refine tr_fld ?_ | with_reducible refine tr_it ?_ | with_reducible refine tr_ie ?_ | refine tr_var rfl ?_ | dsimp only [Bool.false_eq_true, if_true, if_false])
  refine tr_eq need_t ?_
  repeat (first | with_reducible refine tr_seq ?_ | with_reducible refine tr_asg ?_ | with_reducible refine tr_asg2 ?_ | with_reducible refine tr_expr ?_ | with_reducible refine tr_ret ?_ | with_reducible refine tr_if ?_ | with_reducible refine tr_next ?_ | with_reducible refine tr_c ?_ | with_reducible refine tr_bin ?_ | with_reducible refine tr_un ?_ | with_reducible refine tr_cons ?_ | with_reducible refine tr_nil ?_ | with_reducible refine tr_call ?_ | with_reducible refine tr_tB ?_ | with_reducible refine tr_tAnd ?_ | with_reducible refine tr_tOr ?_ | with_reducible refine tr_tNot ?_ | with_reducible refine tr_tYes ?_ | with_reducible refine tr_mtL ?_ | with_reducible refine tr_mtS ?_ | with_reducible refine tr_sl ?_ | with_reducible refine tr_oN ?_ | with_reducible refine tr_oS ?_ | with_reducible refine tr_lc ?_ | with_reducible refine tr_lcM ?_ | with_reducible refine tr_for ?_ | with_reducible refine tr_frz ?_ | with_reducible refine tr_tup ?_ | with_reducible refine tr_lst ?_ | with_reducible refine tr_lstM ?_ | with_reducible refine tr_isi ?_ | with_reducible refine tr_fmt ?_ | with_reducible refine tr_and ?_ | with_reducible refine tr_or ?_ | with_reducible refine tr_not ?_ | with_reducible refine tr_iSeq ?_ | with_reducible refine tr_lcL ?_ | with_reducible refine tr_fld ?_ | with_reducible refine tr_it ?_ | with_reducible refine tr_ie ?_ | refine tr_var rfl ?_ | dsimp only [Bool.false_eq_true, if_true, if_false])
  refine ⟨Nat.le_of_ble_eq_true rfl, ?_⟩
  repeat (first | with_reducible refine tr_seq ?_ | with_reducible refine tr_asg ?_ | with_reducible refine tr_asg2 ?_ | with_reducible refine tr_expr ?_ | with_reducible refine tr_ret ?_ | with_reducible refine tr_if ?_ | with_reducible refine tr_next ?_ | with_reducible refine tr_c ?_ | with_reducible refine tr_bin ?_ | with_reducible refine tr_un ?_ | with_reducible refine tr_cons ?_ | with_reducible refine tr_nil ?_ | with_reducible refine tr_call ?_ | with_reducible refine tr_tB ?_ | with_reducible refine tr_tAnd ?_ | with_reducible refine tr_tOr ?_ | with_reducible refine tr_tNot ?_ | with_reducible refine tr_tYes ?_ | with_reducible refine tr_mtL ?_ | with_reducible refine tr_mtS ?_ | with_reducible refine tr_sl ?_ | with_reducible refine tr_oN ?_ | with_reducible refine tr_oS ?_ | with_reducible refine tr_lc ?_ | with_reducible refine tr_lcM ?_ | with_reducible refine tr_for ?_ | with_reducible refine tr_frz ?_ | with_reducible refine tr_tup ?_ | with_reducible refine tr_lst ?_ | with_reducible refine tr_lstM ?_ | with_reducible refine tr_isi ?_ | with_reducible refine tr_fmt ?_ | with_reducible refine tr_and ?_ | with_reducible refine tr_or ?_ | with_reducible refine tr_not ?_ | with_reducible refine tr_iSeq ?_ | with_reducible refine tr_lcL ?_ | with_reducible refine tr_fld ?_ | with_reducible refine tr_it ?_ | with_reducible refine tr_ie ?_ | refine tr_var rfl ?_ | dsimp only [Bool.false_eq_true, if_true, if_false])
  refine tr_eq (is_new_t _ hr) ?_
  repeat (first | with_reducible refine tr_seq ?_ | with_reducible refine tr_asg ?_ | with_reducible refine tr_asg2 ?_ | with_reducible refine tr_expr ?_ | with_reducible refine tr_ret ?_ | with_reducible refine tr_if ?_ | with_reducible refine tr_next ?_ | with_reducible refine tr_c ?_ | with_reducible refine tr_bin ?_ | with_reducible refine tr_un ?_ | with_reducible refine tr_cons ?_ | with_reducible refine tr_nil ?_ | with_reducible refine tr_call ?_ | with_reducible refine tr_tB ?_ | with_reducible refine tr_tAnd ?_ | with_reducible refine tr_tOr ?_ | with_reducible refine tr_tNot ?_ | with_reducible refine tr_tYes ?_ | with_reducible refine tr_mtL ?_ | with_reducible refine tr_mtS ?_ | with_reducible refine tr_sl ?_ | with_reducible refine tr_oN ?_ | with_reducible refine tr_oS ?_ | with_reducible refine tr_lc ?_ | with_reducible refine tr_lcM ?_ | with_reducible refine tr_for ?_ | with_reducible refine tr_frz ?_ | with_reducible refine tr_tup ?_ | with_reducible refine tr_lst ?_ | with_reducible refine tr_lstM ?_ | with_reducible refine tr_isi ?_ | with_reducible refine tr_fmt ?_ | with_reducible refine tr_and ?_ | with_reducible refine tr_or ?_ | with_reducible refine tr_not ?_ | with_reducible refine tr_iSeq ?_ | with_reducible refine tr_lcL ?_ | with_reducible refine tr_fld ?_ | with_reducible refine tr_it ?_ | with_reducible refine tr_ie ?_ | refine tr_var rfl ?_ | dsimp only [Bool.false_eq_true, if_true, if_false])
  refine tr_eq need_t ?_
  repeat (first | with_reducible refine tr_seq ?_ | with_reducible refine tr_asg ?_ | with_reducible refine tr_asg2 ?_ | with_reducible refine tr_expr ?_ | with_reducible refine tr_ret ?_ | with_reducible refine tr_if ?_ | with_reducible refine tr_next ?_ | with_reducible refine tr_c ?_ | with_reducible refine tr_bin ?_ | with_reducible refine tr_un ?_ | with_reducible refine tr_cons ?_ | with_reducible refine tr_nil ?_ | with_reducible refine tr_call ?_ | with_reducible refine tr_tB ?_ | with_reducible refine tr_tAnd ?_ | with_reducible refine tr_tOr ?_ | with_reducible refine tr_tNot ?_ | with_reducible refine tr_tYes ?_ | with_reducible refine tr_mtL ?_ | with_reducible refine tr_mtS ?_ | with_reducible refine tr_sl ?_ | with_reducible refine tr_oN ?_ | with_reducible refine tr_oS ?_ | with_reducible refine tr_lc ?_ | with_reducible refine tr_lcM ?_ | with_reducible refine tr_for ?_ | with_reducible refine tr_frz ?_ | with_reducible refine tr_tup ?_ | with_reducible refine tr_lst ?_ | with_reducible refine tr_lstM ?_ | with_reducible refine tr_isi ?_ | with_reducible refine tr_fmt ?_ | with_reducible refine tr_and ?_ | with_reducible refine tr_or ?_ | with_reducible refine tr_not ?_ | with_reducible refine tr_iSeq ?_ | with_reducible refine tr_lcL ?_ | with_reducible refine tr_fld ?_ | with_reducible refine tr_it ?_ | with_reducible refine tr_ie ?_ | refine tr_var rfl ?_ | dsimp only [Bool.false_eq_true, if_true, if_false])
  refine tr_eq (is_add_t h1 h2) ?_
  repeat (first | with_reducible refine tr_seq ?_ | with_reducible refine tr_asg ?_ | with_reducible refine tr_asg2 ?_ | with_reducible refine tr_expr ?_ | with_reducible refine tr_ret ?_ | with_reducible refine tr_if ?_ | with_reducible refine tr_next ?_ | with_reducible refine tr_c ?_ | with_reducible refine tr_bin ?_ | with_reducible refine tr_un ?_ | with_reducible refine tr_cons ?_ | with_reducible refine tr_nil ?_ | with_reducible refine tr_call ?_ | with_reducible refine tr_tB ?_ | with_reducible refine tr_tAnd ?_ | with_reducible refine tr_tOr ?_ | with_reducible refine tr_tNot ?_ | with_reducible refine tr_tYes ?_ | with_reducible refine tr_mtL ?_ | with_reducible refine tr_mtS ?_ | with_reducible refine tr_sl ?_ | with_reducible refine tr_oN ?_ | with_reducible refine tr_oS ?_ | with_reducible refine tr_lc ?_ | with_reducible refine tr_lcM ?_ | with_reducible refine tr_for ?_ | with_reducible refine tr_frz ?_ | with_reducible refine tr_tup ?_ | with_reducible refine tr_lst ?_ | with_reducible refine tr_lstM ?_ | with_reducible refine tr_isi ?_ | with_reducible refine tr_fmt ?_ | with_reducible refine tr_and ?_ | with_reducible refine tr_or ?_ | with_reducible refine tr_not ?_ | with_reducible refine tr_iSeq ?_ | with_reducible refine tr_lcL ?_ | with_reducible refine tr_fld ?_ | with_reducible refine tr_it ?_ | with_reducible refine tr_ie ?_ | refine tr_var rfl ?_ | dsimp only [Bool.false_eq_true, if_true, if_false])
  refine tr_eq need_t ?_
  repeat (first | with_reducible refine tr_seq ?_ | with_reducible refine tr_asg ?_ | with_reducible refine tr_asg2 ?_ | with_reducible refine tr_expr ?_ | with_reducible refine tr_ret ?_ | with_reducible refine tr_if ?_ | with_reducible refine tr_next ?_ | with_reducible refine tr_c ?_ | with_reducible refine tr_bin ?_ | with_reducible refine tr_un ?_ | with_reducible refine tr_cons ?_ | with_reducible refine tr_nil ?_ | with_reducible refine tr_call ?_ | with_reducible refine tr_tB ?_ | with_reducible refine tr_tAnd ?_ | with_reducible refine tr_tOr ?_ | with_reducible refine tr_tNot ?_ | with_reducible refine tr_tYes ?_ | with_reducible refine tr_mtL ?_ | with_reducible refine tr_mtS ?_ | with_reducible refine tr_sl ?_ | with_reducible refine tr_oN ?_ | with_reducible refine tr_oS ?_ | with_reducible refine tr_lc ?_ | with_reducible refine tr_lcM ?_ | with_reducible refine tr_for ?_ | with_reducible refine tr_frz ?_ | with_reducible refine tr_tup ?_ | with_reducible refine tr_lst ?_ | with_reducible refine tr_lstM ?_ | with_reducible refine tr_isi ?_ | with_reducible refine tr_fmt ?_ | with_reducible refine tr_and ?_ | with_reducible refine tr_or ?_ | with_reducible refine tr_not ?_ | with_reducible refine tr_iSeq ?_ | with_reducible refine tr_lcL ?_ | with_reducible refine tr_fld ?_ | with_reducible refine tr_it ?_ | with_reducible refine tr_ie ?_ | refine tr_var rfl ?_ | dsimp only [Bool.false_eq_true, if_true, if_false])
  refine tr_eq (is_add_t h3 h4) ?_
  repeat (first | with_reducible refine tr_seq ?_ | with_reducible refine tr_asg ?_ | with_reducible refine tr_asg2 ?_ | with_reducible refine tr_expr ?_ | with_reducible refine tr_ret ?_ | with_reducible refine tr_if ?_ | with_reducible refine tr_next ?_ | with_reducible refine tr_c ?_ | with_reducible refine tr_bin ?_ | with_reducible refine tr_un ?_ | with_reducible refine tr_cons ?_ | with_reducible refine tr_nil ?_ | with_reducible refine tr_call ?_ | with_reducible refine tr_tB ?_ | with_reducible refine tr_tAnd ?_ | with_reducible refine tr_tOr ?_ | with_reducible refine tr_tNot ?_ | with_reducible refine tr_tYes ?_ | with_reducible refine tr_mtL ?_ | with_reducible refine tr_mtS ?_ | with_reducible refine tr_sl ?_ | with_reducible refine tr_oN ?_ | with_reducible refine tr_oS ?_ | with_reducible refine tr_lc ?_ | with_reducible refine tr_lcM ?_ | with_reducible refine tr_for ?_ | with_reducible refine tr_frz ?_ | with_reducible refine tr_tup ?_ | with_reducible refine tr_lst ?_ | with_reducible refine tr_lstM ?_ | with_reducible refine tr_isi ?_ | with_reducible refine tr_fmt ?_ | with_reducible refine tr_and ?_ | with_reducible refine tr_or ?_ | with_reducible refine tr_not ?_ | with_reducible refine tr_iSeq ?_ | with_reducible refine tr_lcL ?_ | with_reducible refine tr_fld ?_ | with_reducible refine tr_it ?_ | with_reducible refine tr_ie ?_ | refine tr_var rfl ?_ | dsimp only [Bool.false_eq_true, if_true, if_false])
  refine tr_eq need_t ?_
  repeat (first | with_reducible refine tr_seq ?_ | with_reducible refine tr_asg ?_ | with_reducible refine tr_asg2 ?_ | with_reducible refine tr_expr ?_ | with_reducible refine tr_ret ?_ | with_reducible refine tr_if ?_ | with_reducible refine tr_next ?_ | with_reducible refine tr_c ?_ | with_reducible refine tr_bin ?_ | with_reducible refine tr_un ?_ | with_reducible refine tr_cons ?_ | with_reducible refine tr_nil ?_ | with_reducible refine tr_call ?_ | with_reducible refine tr_tB ?_ | with_reducible refine tr_tAnd ?_ | with_reducible refine tr_tOr ?_ | with_reducible refine tr_tNot ?_ | with_reducible refine tr_tYes ?_ | with_reducible refine tr_mtL ?_ | with_reducible refine tr_mtS ?_ | with_reducible refine tr_sl ?_ | with_reducible refine tr_oN ?_ | with_reducible refine tr_oS ?_ | with_reducible refine tr_lc ?_ | with_reducible refine tr_lcM ?_ | with_reducible refine tr_for ?_ | with_reducible refine tr_frz ?_ | with_reducible refine tr_tup ?_ | with_reducible refine tr_lst ?_ | with_reducible refine tr_lstM ?_ | with_reducible refine tr_isi ?_ | with_reducible refine tr_fmt ?_ | with_reducible refine tr_and ?_ | with_reducible refine tr_or ?_ | with_reducible refine tr_not ?_ | with_reducible refine tr_iSeq ?_ | with_reducible refine tr_lcL ?_ | with_reducible refine tr_fld ?_ | with_reducible refine tr_it ?_ | with_reducible refine tr_ie ?_ | refine tr_var rfl ?_ | dsimp only [Bool.false_eq_true, if_true, if_false])
  obtain ⟨S1, e1, g1, b1⟩ := fld_put (k := 5) (v := .str o) w h (Nat.le_of_ble_eq_true rfl)
  refine ⟨S1, e1, ?_⟩
  repeat (first | with_reducible refine tr_seq ?_ | with_reducible refine tr_asg ?_ | with_reducible refine tr_asg2 ?_ | with_reducible refine tr_expr ?_ | with_reducible refine tr_ret ?_ | with_reducible refine tr_if ?_ | with_reducible refine tr_next ?_ | with_reducible refine tr_c ?_ | with_reducible refine tr_bin ?_ | with_reducible refine tr_un ?_ | with_reducible refine tr_cons ?_ | with_reducible refine tr_nil ?_ | with_reducible refine tr_call ?_ | with_reducible refine tr_tB ?_ | with_reducible refine tr_tAnd ?_ | with_reducible refine tr_tOr ?_ | with_reducible refine tr_tNot ?_ | with_reducible refine tr_tYes ?_ | with_reducible refine tr_mtL ?_ | with_reducible refine tr_mtS ?_ | with_reducible refine tr_sl ?_ | with_reducible refine tr_oN ?_ | with_reducible refine tr_oS ?_ | with_reducible refine tr_lc ?_ | with_reducible refine tr_lcM ?_ | with_reducible refine tr_for ?_ | with_reducible refine tr_frz ?_ | with_reducible refine tr_tup ?_ | with_reducible refine tr_lst ?_ | with_reducible refine tr_lstM ?_ | with_reducible refine tr_isi ?_ | with_reducible refine tr_fmt ?_ | with_reducible refine tr_and ?_ | with_reducible refine tr_or ?_ | with_reducible refine tr_not ?_ | with_reducible refine tr_iSeq ?_ | with_reducible refine tr_lcL ?_ | with_reducible refine tr_fld ?_ | with_reducible refine tr_it ?_ | with_reducible refine tr_ie ?_ | refine tr_var rfl ?_ | dsimp only [Bool.false_eq_true, if_true, if_false])
  obtain ⟨S2, e2, g2, b2⟩ := fld_put (k := 10) (v := .str l) b1.wf g1 (Nat.le_of_ble_eq_true rfl)
  refine ⟨S2, e2, ?_⟩
  repeat (first | with_reducible refine tr_seq ?_ | with_reducible refine tr_asg ?_ | with_reducible refine tr_asg2 ?_ | with_reducible refine tr_expr ?_ | with_reducible refine tr_ret ?_ | with_reducible refine tr_if ?_ | with_reducible refine tr_next ?_ | with_reducible refine tr_c ?_ | with_reducible refine tr_bin ?_ | with_reducible refine tr_un ?_ | with_reducible refine tr_cons ?_ | with_reducible refine tr_nil ?_ | with_reducible refine tr_call ?_ | with_reducible refine tr_tB ?_ | with_reducible refine tr_tAnd ?_ | with_reducible refine tr_tOr ?_ | with_reducible refine tr_tNot ?_ | with_reducible refine tr_tYes ?_ | with_reducible refine tr_mtL ?_ | with_reducible refine tr_mtS ?_ | with_reducible refine tr_sl ?_ | with_reducible refine tr_oN ?_ | with_reducible refine tr_oS ?_ | with_reducible refine tr_lc ?_ | with_reducible refine tr_lcM ?_ | with_reducible refine tr_for ?_ | with_reducible refine tr_frz ?_ | with_reducible refine tr_tup ?_ | with_reducible refine tr_lst ?_ | with_reducible refine tr_lstM ?_ | with_reducible refine tr_isi ?_ | with_reducible refine tr_fmt ?_ | with_reducible refine tr_and ?_ | with_reducible refine tr_or ?_ | with_reducible refine tr_not ?_ | with_reducible refine tr_iSeq ?_ | with_reducible refine tr_lcL ?_ | with_reducible refine tr_fld ?_ | with_reducible refine tr_it ?_ | with_reducible refine tr_ie ?_ | refine tr_var rfl ?_ | dsimp only [Bool.false_eq_true, if_true, if_false])
  obtain ⟨S3, e3, g3, b3⟩ := fld_put (k := 11) (v := .str r0) b2.wf g2 (Nat.le_of_ble_eq_true rfl)
  refine ⟨S3, e3, ?_⟩
  repeat (first | with_reducible refine tr_seq ?_ | with_reducible refine tr_asg ?_ | with_reducible refine tr_asg2 ?_ | with_reducible refine tr_expr ?_ | with_reducible refine tr_ret ?_ | with_reducible refine tr_if ?_ | with_reducible refine tr_next ?_ | with_reducible refine tr_c ?_ | with_reducible refine tr_bin ?_ | with_reducible refine tr_un ?_ | with_reducible refine tr_cons ?_ | with_reducible refine tr_nil ?_ | with_reducible refine tr_call ?_ | with_reducible refine tr_tB ?_ | with_reducible refine tr_tAnd ?_ | with_reducible refine tr_tOr ?_ | with_reducible refine tr_tNot ?_ | with_reducible refine tr_tYes ?_ | with_reducible refine tr_mtL ?_ | with_reducible refine tr_mtS ?_ | with_reducible refine tr_sl ?_ | with_reducible refine tr_oN ?_ | with_reducible refine tr_oS ?_ | with_reducible refine tr_lc ?_ | with_reducible refine tr_lcM ?_ | with_reducible refine tr_for ?_ | with_reducible refine tr_frz ?_ | with_reducible refine tr_tup ?_ | with_reducible refine tr_lst ?_ | with_reducible refine tr_lstM ?_ | with_reducible refine tr_isi ?_ | with_reducible refine tr_fmt ?_ | with_reducible refine tr_and ?_ | with_reducible refine tr_or ?_ | with_reducible refine tr_not ?_ | with_reducible refine tr_iSeq ?_ | with_reducible refine tr_lcL ?_ | with_reducible refine tr_fld ?_ | with_reducible refine tr_it ?_ | with_reducible refine tr_ie ?_ | refine tr_var rfl ?_ | dsimp only [Bool.false_eq_true, if_true, if_false])
  obtain ⟨S4, e4, g4, b4⟩ := fld_put (k := 7) (v := .int a) b3.wf g3 (Nat.le_of_ble_eq_true rfl)
  refine ⟨S4, e4, ?_⟩
  repeat (first | with_reducible refine tr_seq ?_ | with_reducible refine tr_asg ?_ | with_reducible refine tr_asg2 ?_ | with_reducible refine tr_expr ?_ | with_reducible refine tr_ret ?_ | with_reducible refine tr_if ?_ | with_reducible refine tr_next ?_ | with_reducible refine tr_c ?_ | with_reducible refine tr_bin ?_ | with_reducible refine tr_un ?_ | with_reducible refine tr_cons ?_ | with_reducible refine tr_nil ?_ | with_reducible refine tr_call ?_ | with_reducible refine tr_tB ?_ | with_reducible refine tr_tAnd ?_ | with_reducible refine tr_tOr ?_ | with_reducible refine tr_tNot ?_ | with_reducible refine tr_tYes ?_ | with_reducible refine tr_mtL ?_ | with_reducible refine tr_mtS ?_ | with_reducible refine tr_sl ?_ | with_reducible refine tr_oN ?_ | with_reducible refine tr_oS ?_ | with_reducible refine tr_lc ?_ | with_reducible refine tr_lcM ?_ | with_reducible refine tr_for ?_ | with_reducible refine tr_frz ?_ | with_reducible refine tr_tup ?_ | with_reducible refine tr_lst ?_ | with_reducible refine tr_lstM ?_ | with_reducible refine tr_isi ?_ | with_reducible refine tr_fmt ?_ | with_reducible refine tr_and ?_ | with_reducible refine tr_or ?_ | with_reducible refine tr_not ?_ | with_reducible refine tr_iSeq ?_ | with_reducible refine tr_lcL ?_ | with_reducible refine tr_fld ?_ | with_reducible refine tr_it ?_ | with_reducible refine tr_ie ?_ | refine tr_var rfl ?_ | dsimp only [Bool.false_eq_true, if_true, if_false])
  obtain ⟨S5, e5, g5, b5⟩ := fld_put (k := 12) (v := .int b) b4.wf g4 (Nat.le_of_ble_eq_true rfl)
  refine ⟨S5, e5, ?_⟩
  repeat (first | with_reducible refine tr_seq ?_ | with_reducible refine tr_asg ?_ | with_reducible refine tr_asg2 ?_ | with_reducible refine tr_expr ?_ | with_reducible refine tr_ret ?_ | with_reducible refine tr_if ?_ | with_reducible refine tr_next ?_ | with_reducible refine tr_c ?_ | with_reducible refine tr_bin ?_ | with_reducible refine tr_un ?_ | with_reducible refine tr_cons ?_ | with_reducible refine tr_nil ?_ | with_reducible refine tr_call ?_ | with_reducible refine tr_tB ?_ | with_reducible refine tr_tAnd ?_ | with_reducible refine tr_tOr ?_ | with_reducible refine tr_tNot ?_ | with_reducible refine tr_tYes ?_ | with_reducible refine tr_mtL ?_ | with_reducible refine tr_mtS ?_ | with_reducible refine tr_sl ?_ | with_reducible refine tr_oN ?_ | with_reducible refine tr_oS ?_ | with_reducible refine tr_lc ?_ | with_reducible refine tr_lcM ?_ | with_reducible refine tr_for ?_ | with_reducible refine tr_frz ?_ | with_reducible refine tr_tup ?_ | with_reducible refine tr_lst ?_ | with_reducible refine tr_lstM ?_ | with_reducible refine tr_isi ?_ | with_reducible refine tr_fmt ?_ | with_reducible refine tr_and ?_ | with_reducible refine tr_or ?_ | with_reducible refine tr_not ?_ | with_reducible refine tr_iSeq ?_ | with_reducible refine tr_lcL ?_ | with_reducible refine tr_fld ?_ | with_reducible refine tr_it ?_ | with_reducible refine tr_ie ?_ | refine tr_var rfl ?_ | dsimp only [Bool.false_eq_true, if_true, if_false])
  refine tr_sup (x := .ref r) rfl (by simp [clsOf, g5]) ?_
  repeat (first | with_reducible refine tr_seq ?_ | with_reducible refine tr_asg ?_ | with_reducible refine tr_asg2 ?_ | with_reducible refine tr_expr ?_ | with_reducible refine tr_ret ?_ | with_reducible refine tr_if ?_ | with_reducible refine tr_next ?_ | with_reducible refine tr_c ?_ | with_reducible refine tr_bin ?_ | with_reducible refine tr_un ?_ | with_reducible refine tr_cons ?_ | with_reducible refine tr_nil ?_ | with_reducible refine tr_call ?_ | with_reducible refine tr_tB ?_ | with_reducible refine tr_tAnd ?_ | with_reducible refine tr_tOr ?_ | with_reducible refine tr_tNot ?_ | with_reducible refine tr_tYes ?_ | with_reducible refine tr_mtL ?_ | with_reducible refine tr_mtS ?_ | with_reducible refine tr_sl ?_ | with_reducible refine tr_oN ?_ | with_reducible refine tr_oS ?_ | with_reducible refine tr_lc ?_ | with_reducible refine tr_lcM ?_ | with_reducible refine tr_for ?_ | with_reducible refine tr_frz ?_ | with_reducible refine tr_tup ?_ | with_reducible refine tr_lst ?_ | with_reducible refine tr_lstM ?_ | with_reducible refine tr_isi ?_ | with_reducible refine tr_fmt ?_ | with_reducible refine tr_and ?_ | with_reducible refine tr_or ?_ | with_reducible refine tr_not ?_ | with_reducible refine tr_iSeq ?_ | with_reducible refine tr_lcL ?_ | with_reducible refine tr_fld ?_ | with_reducible refine tr_it ?_ | with_reducible refine tr_ie ?_ | refine tr_var rfl ?_ | dsimp only [Bool.false_eq_true, if_true, if_false])
  refine tr_jc ?_
  repeat (first | with_reducible refine tr_seq ?_ | with_reducible refine tr_asg ?_ | with_reducible refine tr_asg2 ?_ | with_reducible refine tr_expr ?_ | with_reducible refine tr_ret ?_ | with_reducible refine tr_if ?_ | with_reducible refine tr_next ?_ | with_reducible refine tr_c ?_ | with_reducible refine tr_bin ?_ | with_reducible refine tr_un ?_ | with_reducible refine tr_cons ?_ | with_reducible refine tr_nil ?_ | with_reducible refine tr_call ?_ | with_reducible refine tr_tB ?_ | with_reducible refine tr_tAnd ?_ | with_reducible refine tr_tOr ?_ | with_reducible refine tr_tNot ?_ | with_reducible refine tr_tYes ?_ | with_reducible refine tr_mtL ?_ | with_reducible refine tr_mtS ?_ | with_reducible refine tr_sl ?_ | with_reducible refine tr_oN ?_ | with_reducible refine tr_oS ?_ | with_reducible refine tr_lc ?_ | with_reducible refine tr_lcM ?_ | with_reducible refine tr_for ?_ | with_reducible refine tr_frz ?_ | with_reducible refine tr_tup ?_ | with_reducible refine tr_lst ?_ | with_reducible refine tr_lstM ?_ | with_reducible refine tr_isi ?_ | with_reducible refine tr_fmt ?_ | with_reducible refine tr_and ?_ | with_reducible refine tr_or ?_ | with_reducible refine tr_not ?_ | with_reducible refine tr_iSeq ?_ | with_reducible refine tr_lcL ?_ | with_reducible refine tr_fld ?_ | with_reducible refine tr_it ?_ | with_reducible refine tr_ie ?_ | refine tr_var rfl ?_ | dsimp only [Bool.false_eq_true, if_true, if_false])
  refine ⟨s_38_, rfl, lim50 (by simp <;> omega), tr_jc ?_⟩
  repeat (first | with_reducible refine tr_seq ?_ | with_reducible refine tr_asg ?_ | with_reducible refine tr_asg2 ?_ | with_reducible refine tr_expr ?_ | with_reducible refine tr_ret ?_ | with_reducible refine tr_if ?_ | with_reducible refine tr_next ?_ | with_reducible refine tr_c ?_ | with_reducible refine tr_bin ?_ | with_reducible refine tr_un ?_ | with_reducible refine tr_cons ?_ | with_reducible refine tr_nil ?_ | with_reducible refine tr_call ?_ | with_reducible refine tr_tB ?_ | with_reducible refine tr_tAnd ?_ | with_reducible refine tr_tOr ?_ | with_reducible refine tr_tNot ?_ | with_reducible refine tr_tYes ?_ | with_reducible refine tr_mtL ?_ | with_reducible refine tr_mtS ?_ | with_reducible refine tr_sl ?_ | with_reducible refine tr_oN ?_ | with_reducible refine tr_oS ?_ | with_reducible refine tr_lc ?_ | with_reducible refine tr_lcM ?_ | with_reducible refine tr_for ?_ | with_reducible refine tr_frz ?_ | with_reducible refine tr_tup ?_ | with_reducible refine tr_lst ?_ | with_reducible refine tr_lstM ?_ | with_reducible refine tr_isi ?_ | with_reducible refine tr_fmt ?_ | with_reducible refine tr_and ?_ | with_reducible refine tr_or ?_ | with_reducible refine tr_not ?_ | with_reducible refine tr_iSeq ?_ | with_reducible refine tr_lcL ?_ | with_reducible refine tr_fld ?_ | with_reducible refine tr_it ?_ | with_reducible refine tr_ie ?_ | refine tr_var rfl ?_ | dsimp only [Bool.false_eq_true, if_true, if_false])
  refine ⟨o, rfl, o, rfl, lim50 (by simp <;> omega), tr_jc ?_⟩
  repeat (first | with_reducible refine tr_seq ?_ | with_reducible refine tr_asg ?_ | with_reducible refine tr_asg2 ?_ | with_reducible refine tr_expr ?_ | with_reducible refine tr_ret ?_ | with_reducible refine tr_if ?_ | with_reducible refine tr_next ?_ | with_reducible refine tr_c ?_ | with_reducible refine tr_bin ?_ | with_reducible refine tr_un ?_ | with_reducible refine tr_cons ?_ | with_reducible refine tr_nil ?_ | with_reducible refine tr_call ?_ | with_reducible refine tr_tB ?_ | with_reducible refine tr_tAnd ?_ | with_reducible refine tr_tOr ?_ | with_reducible refine tr_tNot ?_ | with_reducible refine tr_tYes ?_ | with_reducible refine tr_mtL ?_ | with_reducible refine tr_mtS ?_ | with_reducible refine tr_sl ?_ | with_reducible refine tr_oN ?_ | with_reducible refine tr_oS ?_ | with_reducible refine tr_lc ?_ | with_reducible refine tr_lcM ?_ | with_reducible refine tr_for ?_ | with_reducible refine tr_frz ?_ | with_reducible refine tr_tup ?_ | with_reducible refine tr_lst ?_ | with_reducible refine tr_lstM ?_ | with_reducible refine tr_isi ?_ | with_reducible refine tr_fmt ?_ | with_reducible refine tr_and ?_ | with_reducible refine tr_or ?_ | with_reducible refine tr_not ?_ | with_reducible refine tr_iSeq ?_ | with_reducible refine tr_lcL ?_ | with_reducible refine tr_fld ?_ | with_reducible refine tr_it ?_ | with_reducible refine tr_ie ?_ | refine tr_var rfl ?_ | dsimp only [Bool.false_eq_true, if_true, if_false])
  refine ⟨s_24_, rfl, lim50 (by simp <;> omega), tr_jc ?_⟩
  repeat (first | with_reducible refine tr_seq ?_ | with_reducible refine tr_asg ?_ | with_reducible refine tr_asg2 ?_ | with_reducible refine tr_expr ?_ | with_reducible refine tr_ret ?_ | with_reducible refine tr_if ?_ | with_reducible refine tr_next ?_ | with_reducible refine tr_c ?_ | with_reducible refine tr_bin ?_ | with_reducible refine tr_un ?_ | with_reducible refine tr_cons ?_ | with_reducible refine tr_nil ?_ | with_reducible refine tr_call ?_ | with_reducible refine tr_tB ?_ | with_reducible refine tr_tAnd ?_ | with_reducible refine tr_tOr ?_ | with_reducible refine tr_tNot ?_ | with_reducible refine tr_tYes ?_ | with_reducible refine tr_mtL ?_ | with_reducible refine tr_mtS ?_ | with_reducible refine tr_sl ?_ | with_reducible refine tr_oN ?_ | with_reducible refine tr_oS ?_ | with_reducible refine tr_lc ?_ | with_reducible refine tr_lcM ?_ | with_reducible refine tr_for ?_ | with_reducible refine tr_frz ?_ | with_reducible refine tr_tup ?_ | with_reducible refine tr_lst ?_ | with_reducible refine tr_lstM ?_ | with_reducible refine tr_isi ?_ | with_reducible refine tr_fmt ?_ | with_reducible refine tr_and ?_ | with_reducible refine tr_or ?_ | with_reducible refine tr_not ?_ | with_reducible refine tr_iSeq ?_ | with_reducible refine tr_lcL ?_ | with_reducible refine tr_fld ?_ | with_reducible refine tr_it ?_ | with_reducible refine tr_ie ?_ | refine tr_var rfl ?_ | dsimp only [Bool.false_eq_true, if_true, if_false])
  refine ⟨l, rfl, l, rfl, lim50 (by simp <;> omega), tr_jc ?_⟩
  repeat (first | with_reducible refine tr_seq ?_ | with_reducible refine tr_asg ?_ | with_reducible refine tr_asg2 ?_ | with_reducible refine tr_expr ?_ | with_reducible refine tr_ret ?_ | with_reducible refine tr_if ?_ | with_reducible refine tr_next ?_ | with_reducible refine tr_c ?_ | with_reducible refine tr_bin ?_ | with_reducible refine tr_un ?_ | with_reducible refine tr_cons ?_ | with_reducible refine tr_nil ?_ | with_reducible refine tr_call ?_ | with_reducible refine tr_tB ?_ | with_reducible refine tr_tAnd ?_ | with_reducible refine tr_tOr ?_ | with_reducible refine tr_tNot ?_ | with_reducible refine tr_tYes ?_ | with_reducible refine tr_mtL ?_ | with_reducible refine tr_mtS ?_ | with_reducible refine tr_sl ?_ | with_reducible refine tr_oN ?_ | with_reducible refine tr_oS ?_ | with_reducible refine tr_lc ?_ | with_reducible refine tr_lcM ?_ | with_reducible refine tr_for ?_ | with_reducible refine tr_frz ?_ | with_reducible refine tr_tup ?_ | with_reducible refine tr_lst ?_ | with_reducible refine tr_lstM ?_ | with_reducible refine tr_isi ?_ | with_reducible refine tr_fmt ?_ | with_reducible refine tr_and ?_ | with_reducible refine tr_or ?_ | with_reducible refine tr_not ?_ | with_reducible refine tr_iSeq ?_ | with_reducible refine tr_lcL ?_ | with_reducible refine tr_fld ?_ | with_reducible refine tr_it ?_ | with_reducible refine tr_ie ?_ | refine tr_var rfl ?_ | dsimp only [Bool.false_eq_true, if_true, if_false])
  refine ⟨s_23_, rfl, lim50 (by simp <;> omega), tr_jc ?_⟩
  repeat (first | with_reducible refine tr_seq ?_ | with_reducible refine tr_asg ?_ | with_reducible refine tr_asg2 ?_ | with_reducible refine tr_expr ?_ | with_reducible refine tr_ret ?_ | with_reducible refine tr_if ?_ | with_reducible refine tr_next ?_ | with_reducible refine tr_c ?_ | with_reducible refine tr_bin ?_ | with_reducible refine tr_un ?_ | with_reducible refine tr_cons ?_ | with_reducible refine tr_nil ?_ | with_reducible refine tr_call ?_ | with_reducible refine tr_tB ?_ | with_reducible refine tr_tAnd ?_ | with_reducible refine tr_tOr ?_ | with_reducible refine tr_tNot ?_ | with_reducible refine tr_tYes ?_ | with_reducible refine tr_mtL ?_ | with_reducible refine tr_mtS ?_ | with_reducible refine tr_sl ?_ | with_reducible refine tr_oN ?_ | with_reducible refine tr_oS ?_ | with_reducible refine tr_lc ?_ | with_reducible refine tr_lcM ?_ | with_reducible refine tr_for ?_ | with_reducible refine tr_frz ?_ | with_reducible refine tr_tup ?_ | with_reducible refine tr_lst ?_ | with_reducible refine tr_lstM ?_ | with_reducible refine tr_isi ?_ | with_reducible refine tr_fmt ?_ | with_reducible refine tr_and ?_ | with_reducible refine tr_or ?_ | with_reducible refine tr_not ?_ | with_reducible refine tr_iSeq ?_ | with_reducible refine tr_lcL ?_ | with_reducible refine tr_fld ?_ | with_reducible refine tr_it ?_ | with_reducible refine tr_ie ?_ | refine tr_var rfl ?_ | dsimp only [Bool.false_eq_true, if_true, if_false])
  refine ⟨r0, rfl, r0, rfl, lim50 (by simp <;> omega), tr_jc ?_⟩
  repeat (first | with_reducible refine tr_seq ?_ | with_reducible refine tr_asg ?_ | with_reducible refine tr_asg2 ?_ | with_reducible refine tr_expr ?_ | with_reducible refine tr_ret ?_ | with_reducible refine tr_if ?_ | with_reducible refine tr_next ?_ | with_reducible refine tr_c ?_ | with_reducible refine tr_bin ?_ | with_reducible refine tr_un ?_ | with_reducible refine tr_cons ?_ | with_reducible refine tr_nil ?_ | with_reducible refine tr_call ?_ | with_reducible refine tr_tB ?_ | with_reducible refine tr_tAnd ?_ | with_reducible refine tr_tOr ?_ | with_reducible refine tr_tNot ?_ | with_reducible refine tr_tYes ?_ | with_reducible refine tr_mtL ?_ | with_reducible refine tr_mtS ?_ | with_reducible refine tr_sl ?_ | with_reducible refine tr_oN ?_ | with_reducible refine tr_oS ?_ | with_reducible refine tr_lc ?_ | with_reducible refine tr_lcM ?_ | with_reducible refine tr_for ?_ | with_reducible refine tr_frz ?_ | with_reducible refine tr_tup ?_ | with_reducible refine tr_lst ?_ | with_reducible refine tr_lstM ?_ | with_reducible refine tr_isi ?_ | with_reducible refine tr_fmt ?_ | with_reducible refine tr_and ?_ | with_reducible refine tr_or ?_ | with_reducible refine tr_not ?_ | with_reducible refine tr_iSeq ?_ | with_reducible refine tr_lcL ?_ | with_reducible refine tr_fld ?_ | with_reducible refine tr_it ?_ | with_reducible refine tr_ie ?_ | refine tr_var rfl ?_ | dsimp only [Bool.false_eq_true, if_true, if_false])
  refine ⟨s_25_, rfl, lim50 (by simp <;> omega), tr_jc ?_⟩
  repeat (first | with_reducible refine tr_seq ?_ | with_reducible refine tr_asg ?_ | with_reducible refine tr_asg2 ?_ | with_reducible refine tr_expr ?_ | with_reducible refine tr_ret ?_ | with_reducible refine tr_if ?_ | with_reducible refine tr_next ?_ | with_reducible refine tr_c ?_ | with_reducible refine tr_bin ?_ | with_reducible refine tr_un ?_ | with_reducible refine tr_cons ?_ | with_reducible refine tr_nil ?_ | with_reducible refine tr_call ?_ | with_reducible refine tr_tB ?_ | with_reducible refine tr_tAnd ?_ | with_reducible refine tr_tOr ?_ | with_reducible refine tr_tNot ?_ | with_reducible refine tr_tYes ?_ | with_reducible refine tr_mtL ?_ | with_reducible refine tr_mtS ?_ | with_reducible refine tr_sl ?_ | with_reducible refine tr_oN ?_ | with_reducible refine tr_oS ?_ | with_reducible refine tr_lc ?_ | with_reducible refine tr_lcM ?_ | with_reducible refine tr_for ?_ | with_reducible refine tr_frz ?_ | with_reducible refine tr_tup ?_ | with_reducible refine tr_lst ?_ | with_reducible refine tr_lstM ?_ | with_reducible refine tr_isi ?_ | with_reducible refine tr_fmt ?_ | with_reducible refine tr_and ?_ | with_reducible refine tr_or ?_ | with_reducible refine tr_not ?_ | with_reducible refine tr_iSeq ?_ | with_reducible refine tr_lcL ?_ | with_reducible refine tr_fld ?_ | with_reducible refine tr_it ?_ | with_reducible refine tr_ie ?_ | refine tr_var rfl ?_ | dsimp only [Bool.false_eq_true, if_true, if_false])
  refine ⟨intL a, fa, intL a, rfl, lim50 (by simp <;> omega), tr_jc ?_⟩
  repeat (first | with_reducible refine tr_seq ?_ | with_reducible refine tr_asg ?_ | with_reducible refine tr_asg2 ?_ | with_reducible refine tr_expr ?_ | with_reducible refine tr_ret ?_ | with_reducible refine tr_if ?_ | with_reducible refine tr_next ?_ | with_reducible refine tr_c ?_ | with_reducible refine tr_bin ?_ | with_reducible refine tr_un ?_ | with_reducible refine tr_cons ?_ | with_reducible refine tr_nil ?_ | with_reducible refine tr_call ?_ | with_reducible refine tr_tB ?_ | with_reducible refine tr_tAnd ?_ | with_reducible refine tr_tOr ?_ | with_reducible refine tr_tNot ?_ | with_reducible refine tr_tYes ?_ | with_reducible refine tr_mtL ?_ | with_reducible refine tr_mtS ?_ | with_reducible refine tr_sl ?_ | with_reducible refine tr_oN ?_ | with_reducible refine tr_oS ?_ | with_reducible refine tr_lc ?_ | with_reducible refine tr_lcM ?_ | with_reducible refine tr_for ?_ | with_reducible refine tr_frz ?_ | with_reducible refine tr_tup ?_ | with_reducible refine tr_lst ?_ | with_reducible refine tr_lstM ?_ | with_reducible refine tr_isi ?_ | with_reducible refine tr_fmt ?_ | with_reducible refine tr_and ?_ | with_reducible refine tr_or ?_ | with_reducible refine tr_not ?_ | with_reducible refine tr_iSeq ?_ | with_reducible refine tr_lcL ?_ | with_reducible refine tr_fld ?_ | with_reducible refine tr_it ?_ | with_reducible refine tr_ie ?_ | refine tr_var rfl ?_ | dsimp only [Bool.false_eq_true, if_true, if_false])
  refine ⟨s_23_, rfl, lim50 (by simp <;> omega), tr_jc ?_⟩
  repeat (first | with_reducible refine tr_seq ?_ | with_reducible refine tr_asg ?_ | with_reducible refine tr_asg2 ?_ | with_reducible refine tr_expr ?_ | with_reducible refine tr_ret ?_ | with_reducible refine tr_if ?_ | with_reducible refine tr_next ?_ | with_reducible refine tr_c ?_ | with_reducible refine tr_bin ?_ | with_reducible refine tr_un ?_ | with_reducible refine tr_cons ?_ | with_reducible refine tr_nil ?_ | with_reducible refine tr_call ?_ | with_reducible refine tr_tB ?_ | with_reducible refine tr_tAnd ?_ | with_reducible refine tr_tOr ?_ | with_reducible refine tr_tNot ?_ | with_reducible refine tr_tYes ?_ | with_reducible refine tr_mtL ?_ | with_reducible refine tr_mtS ?_ | with_reducible refine tr_sl ?_ | with_reducible refine tr_oN ?_ | with_reducible refine tr_oS ?_ | with_reducible refine tr_lc ?_ | with_reducible refine tr_lcM ?_ | with_reducible refine tr_for ?_ | with_reducible refine tr_frz ?_ | with_reducible refine tr_tup ?_ | with_reducible refine tr_lst ?_ | with_reducible refine tr_lstM ?_ | with_reducible refine tr_isi ?_ | with_reducible refine tr_fmt ?_ | with_reducible refine tr_and ?_ | with_reducible refine tr_or ?_ | with_reducible refine tr_not ?_ | with_reducible refine tr_iSeq ?_ | with_reducible refine tr_lcL ?_ | with_reducible refine tr_fld ?_ | with_reducible refine tr_it ?_ | with_reducible refine tr_ie ?_ | refine tr_var rfl ?_ | dsimp only [Bool.false_eq_true, if_true, if_false])
  refine ⟨intL b, fb, intL b, rfl, lim50 (by simp <;> omega), tr_jn ?_⟩
  repeat (first | with_reducible refine tr_seq ?_ | with_reducible refine tr_asg ?_ | with_reducible refine tr_asg2 ?_ | with_reducible refine tr_expr ?_ | with_reducible refine tr_ret ?_ | with_reducible refine tr_if ?_ | with_reducible refine tr_next ?_ | with_reducible refine tr_c ?_ | with_reducible refine tr_bin ?_ | with_reducible refine tr_un ?_ | with_reducible refine tr_cons ?_ | with_reducible refine tr_nil ?_ | with_reducible refine tr_call ?_ | with_reducible refine tr_tB ?_ | with_reducible refine tr_tAnd ?_ | with_reducible refine tr_tOr ?_ | with_reducible refine tr_tNot ?_ | with_reducible refine tr_tYes ?_ | with_reducible refine tr_mtL ?_ | with_reducible refine tr_mtS ?_ | with_reducible refine tr_sl ?_ | with_reducible refine tr_oN ?_ | with_reducible refine tr_oS ?_ | with_reducible refine tr_lc ?_ | with_reducible refine tr_lcM ?_ | with_reducible refine tr_for ?_ | with_reducible refine tr_frz ?_ | with_reducible refine tr_tup ?_ | with_reducible refine tr_lst ?_ | with_reducible refine tr_lstM ?_ | with_reducible refine tr_isi ?_ | with_reducible refine tr_fmt ?_ | with_reducible refine tr_and ?_ | with_reducible refine tr_or ?_ | with_reducible refine tr_not ?_ | with_reducible refine tr_iSeq ?_ | with_reducible refine tr_lcL ?_ | with_reducible refine tr_fld ?_ | with_reducible refine tr_it ?_ | with_reducible refine tr_ie ?_ | refine tr_var rfl ?_ | dsimp only [Bool.false_eq_true, if_true, if_false])
  refine ⟨Nat.le_of_ble_eq_true rfl, ?_⟩
  repeat (first | with_reducible refine tr_seq ?_ | with_reducible refine tr_asg ?_ | with_reducible refine tr_asg2 ?_ | with_reducible refine tr_expr ?_ | with_reducible refine tr_ret ?_ | with_reducible refine tr_if ?_ | with_reducible refine tr_next ?_ | with_reducible refine tr_c ?_ | with_reducible refine tr_bin ?_ | with_reducible refine tr_un ?_ | with_reducible refine tr_cons ?_ | with_reducible refine tr_nil ?_ | with_reducible refine tr_call ?_ | with_reducible refine tr_tB ?_ | with_reducible refine tr_tAnd ?_ | with_reducible refine tr_tOr ?_ | with_reducible refine tr_tNot ?_ | with_reducible refine tr_tYes ?_ | with_reducible refine tr_mtL ?_ | with_reducible refine tr_mtS ?_ | with_reducible refine tr_sl ?_ | with_reducible refine tr_oN ?_ | with_reducible refine tr_oS ?_ | with_reducible refine tr_lc ?_ | with_reducible refine tr_lcM ?_ | with_reducible refine tr_for ?_ | with_reducible refine tr_frz ?_ | with_reducible refine tr_tup ?_ | with_reducible refine tr_lst ?_ | with_reducible refine tr_lstM ?_ | with_reducible refine tr_isi ?_ | with_reducible refine tr_fmt ?_ | with_reducible refine tr_and ?_ | with_reducible refine tr_or ?_ | with_reducible refine tr_not ?_ | with_reducible refine tr_iSeq ?_ | with_reducible refine tr_lcL ?_ | with_reducible refine tr_fld ?_ | with_reducible refine tr_it ?_ | with_reducible refine tr_ie ?_ | refine tr_var rfl ?_ | dsimp only [Bool.false_eq_true, if_true, if_false])
  refine (row_init_tr (c := 3) b5.wf g5 (Nat.le_of_ble_eq_true rfl) (fun q hq => ?_) (Nat.le_of_ble_eq_true rfl)).imp ?_
  · rcases List.mem_cons.mp hq with rfl | hq
    · exact .inl ho
    · rcases List.mem_cons.mp hq with rfl | hq
      · exact .inr (.inl hl)
      · rw [List.mem_singleton.mp hq]; exact .inr (.inl hr)
  · rintro v S6 ⟨rfl, ys, g6, b6⟩
    exact ⟨rfl, ys, g6, b1.trans (b2.trans (b3.trans (b4.trans (b5.trans (b6)))))⟩
end
end G
set_option linter.all false
set_option maxRecDepth 100000
set_option maxHeartbeats 4000000
/-! Q3_k02: rows and their objects. -/
namespace G
open Mir MW ML
/-- a row and the object made of it -/
inductive RowObj : W → W → Prop where
  | step {k o t : List Nat} {a : Int} {ys : List W} (hk : .str k ∈ kinds) (ho : .str o ∈ olds) (ht : .str t ∈ thens) (h1 : -3 ≤ a) (h2 : a ≤ 3) :
      RowObj (.tup [.str s_18_, .str k, .str o, .str t, .int a]) (.obj 1 [(4, .str k), (5, .str o), (6, .str t), (7, .int a), (2, .str (txS k o t a)), (3, .tup ys)])
  | join {x y t : List Nat} {a : Int} {ys : List W} (hx : .str x ∈ olds) (hy : .str y ∈ olds) (ht : .str t ∈ thenJ) (h1 : -3 ≤ a) (h2 : a ≤ 3) :
      RowObj (.tup [.str s_8_, .str x, .str y, .str t, .int a]) (.obj 2 [(8, .str x), (9, .str y), (6, .str t), (7, .int a), (2, .str (txJ x y t a)), (3, .tup ys)])
  | part {o l r : List Nat} {a b : Int} {ys : List W} (ho : .str o ∈ olds) (hl : .str l ∈ thens) (hr : .str r ∈ thens) (h1 : -3 ≤ a) (h2 : a ≤ 3) (h3 : -3 ≤ b) (h4 : b ≤ 3) :
      RowObj (.tup [.str s_17_, .str o, .str l, .str r, .int a, .int b]) (.obj 3 [(5, .str o), (10, .str l), (11, .str r), (7, .int a), (12, .int b), (2, .str (txP o l r a b)), (3, .tup ys)])
/-- the store has grown by what is let go -/
structure More (S S' : Store) : Prop where
  wf : Wf S'
  nx : S.next ≤ S'.next
  kp : ∀ m, m < S.next → S'.get m = S.get m
theorem More.refl {S : Store} (w : Wf S) : More S S := ⟨w, Nat.le_refl _, fun _ _ => rfl⟩
theorem More.trans {S S1 S2 : Store} (a : More S S1) (b : More S1 S2) : More S S2 := ⟨b.wf, Nat.le_trans a.nx b.nx, fun m h => (b.kp m (Nat.lt_of_lt_of_le h a.nx)).trans (a.kp m h)⟩
section
variable {S : Store} {Q : W → Store → Prop}
theorem tr_mkF {c : Nat} {init : MF} {xs : List W} (w : Wf S) (h : Tr (init (.ref S.next :: xs) (S.new (.ins c []))) fun v S1 => v = .non ∧ ∃ fs, S1.get S.next = some (.ins c fs) ∧ But S.next (S.new (.ins c [])) S1 ∧ ∀ S', More S S' → Q (.obj c fs) S') : Tr (mkF c init xs S) Q := by
  refine Tr.bind (h.imp ?_)
  rintro v S1 ⟨rfl, fs, g, b, q⟩
  show Tr (match S1.get S.next with | some (.ins k fs) => .ok (.obj k fs) (S1.drop S.next) | _ => .bad) Q
  rw [g]
  refine q _ ⟨wf_drop g b.wf, ?_, fun m hm => ?_⟩
  · rw [next_drop, b.nx, next_new]; omega
  · rw [get_drop_ne (Nat.ne_of_lt hm), b.kp m (Nat.ne_of_lt hm), get_new_ne (Nat.ne_of_lt hm)]
theorem row_of_tr {row : W} (w : Wf S) (hr : RowOk row) : Tr (m_law_row_of [row] S) fun v S' => RowObj row v ∧ More S S' := by
  refine tr_fn [some row] rfl rfl ?_
  cases hr with
  | @step kd o t a hk ho ht h1 h2 =>
    obtain ⟨zk, rfl⟩ := str_kind hk
    obtain ⟨zo, rfl⟩ := str_old ho
    obtain ⟨zt, rfl⟩ := str_then ht
    repeat (first | (first | with_reducible refine tr_seq ?_ | with_reducible refine tr_asg ?_ | with_reducible refine tr_asg2 ?_ | with_reducible refine tr_expr ?_ | with_reducible refine tr_ret ?_ | with_reducible refine tr_if ?_ | with_reducible refine tr_next ?_ | with_reducible refine tr_c ?_ | with_reducible refine tr_bin ?_ | with_reducible refine tr_un ?_ | with_reducible refine tr_cons ?_ | with_reducible refine tr_nil ?_ | with_reducible refine tr_call ?_ | with_reducible refine tr_tB ?_ | with_reducible refine tr_tAnd ?_ | with_reducible refine tr_tOr ?_ | with_reducible refine tr_tNot ?_ | with_reducible refine tr_tYes ?_ | with_reducible refine tr_mtL ?_ | with_reducible refine tr_mtS ?_ | with_reducible refine tr_sl ?_ | with_reducible refine tr_oN ?_ | with_reducible refine tr_oS ?_ | with_reducible refine tr_lc ?_ | with_reducible refine tr_lcM ?_ | with_reducible refine tr_for ?_ | with_reducible refine tr_frz ?_ | with_reducible refine tr_tup ?_ | with_reducible refine tr_lst ?_ | with_reducible refine tr_lstM ?_ | with_reducible refine tr_isi ?_ | with_reducible refine tr_fmt ?_ | with_reducible refine tr_and ?_ | with_reducible refine tr_or ?_ | with_reducible refine tr_not ?_ | with_reducible refine tr_iSeq ?_ | with_reducible refine tr_lcL ?_ | with_reducible refine tr_fld ?_ | with_reducible refine tr_it ?_ | with_reducible refine tr_ie ?_ | refine tr_var rfl ?_ | dsimp only [Bool.false_eq_true, if_true, if_false]) | refine tr_itc rfl ?_ | refine tr_iec rfl ?_ | refine ⟨Nat.le_of_ble_eq_true rfl, ?_⟩ | refine ⟨_, rfl, ?_⟩ | refine ⟨_, _, rfl, ?_⟩ | ((fail_if_success (with_reducible refine stopd ?_)); (fail_if_success (with_reducible refine stopp ?_)); refine tr_eq rfl ?_))
    refine tr_mkF w ((step_init_tr (wf_new w) get_new hk ho ht h1 h2).imp ?_)
    rintro v S1 ⟨rfl, ys, g, b⟩
    exact ⟨rfl, _, g, b, fun S' m => ⟨.step hk ho ht h1 h2, m⟩⟩
  | @join x y t a hx hy ht h1 h2 =>
    obtain ⟨zx, rfl⟩ := str_old hx
    obtain ⟨zy, rfl⟩ := str_old hy
    obtain ⟨zt, rfl⟩ := str_thenJ ht
    repeat (first | (first | with_reducible refine tr_seq ?_ | with_reducible refine tr_asg ?_ | with_reducible refine tr_asg2 ?_ | with_reducible refine tr_expr ?_ | with_reducible refine tr_ret ?_ | with_reducible refine tr_if ?_ | with_reducible refine tr_next ?_ | with_reducible refine tr_c ?_ | with_reducible refine tr_bin ?_ | with_reducible refine tr_un ?_ | with_reducible refine tr_cons ?_ | with_reducible refine tr_nil ?_ | with_reducible refine tr_call ?_ | with_reducible refine tr_tB ?_ | with_reducible refine tr_tAnd ?_ | with_reducible refine tr_tOr ?_ | with_reducible refine tr_tNot ?_ | with_reducible refine tr_tYes ?_ | with_reducible refine tr_mtL ?_ | with_reducible refine tr_mtS ?_ | with_reducible refine tr_sl ?_ | with_reducible refine tr_oN ?_ | with_reducible refine tr_oS ?_ | with_reducible refine tr_lc ?_ | with_reducible refine tr_lcM ?_ | with_reducible refine tr_for ?_ | with_reducible refine tr_frz ?_ | with_reducible refine tr_tup ?_ | with_reducible refine tr_lst ?_ | with_reducible refine tr_lstM ?_ | with_reducible refine tr_isi ?_ | with_reducible refine tr_fmt ?_ | with_reducible refine tr_and ?_ | with_reducible refine tr_or ?_ | with_reducible refine tr_not ?_ | with_reducible refine tr_iSeq ?_ | with_reducible refine tr_lcL ?_ | with_reducible refine tr_fld ?_ | with_reducible refine tr_it ?_ | with_reducible refine tr_ie ?_ | refine tr_var rfl ?_ | dsimp only [Bool.false_eq_true, if_true, if_false]) | refine tr_itc rfl ?_ | refine tr_iec rfl ?_ | refine ⟨Nat.le_of_ble_eq_true rfl, ?_⟩ | refine ⟨_, rfl, ?_⟩ | refine ⟨_, _, rfl, ?_⟩ | ((fail_if_success (with_reducible refine stopd ?_)); (fail_if_success (with_reducible refine stopp ?_)); refine tr_eq rfl ?_))
    refine tr_mkF w ((join_init_tr (wf_new w) get_new hx hy ht h1 h2).imp ?_)
    rintro v S1 ⟨rfl, ys, g, b⟩
    exact ⟨rfl, _, g, b, fun S' m => ⟨.join hx hy ht h1 h2, m⟩⟩
  | @part o l r a b ho hl hr h1 h2 h3 h4 =>
    obtain ⟨zo, rfl⟩ := str_old ho
    obtain ⟨zl, rfl⟩ := str_then hl
    obtain ⟨zr, rfl⟩ := str_then hr
    repeat (first | (first | with_reducible refine tr_seq ?_ | with_reducible refine tr_asg ?_ | with_reducible refine tr_asg2 ?_ | with_reducible refine tr_expr ?_ | with_reducible refine tr_ret ?_ | with_reducible refine tr_if ?_ | with_reducible refine tr_next ?_ | with_reducible refine tr_c ?_ | with_reducible refine tr_bin ?_ | with_reducible refine tr_un ?_ | with_reducible refine tr_cons ?_ | with_reducible refine tr_nil ?_ | with_reducible refine tr_call ?_ | with_reducible refine tr_tB ?_ | with_reducible refine tr_tAnd ?_ | with_reducible refine tr_tOr ?_ | with_reducible refine tr_tNot ?_ | with_reducible refine tr_tYes ?_ | with_reducible refine tr_mtL ?_ | with_reducible refine tr_mtS ?_ | with_reducible refine tr_sl ?_ | with_reducible refine tr_oN ?_ | with_reducible refine tr_oS ?_ | with_reducible refine tr_lc ?_ | with_reducible refine tr_lcM ?_ | with_reducible refine tr_for ?_ | with_reducible refine tr_frz ?_ | with_reducible refine tr_tup ?_ | with_reducible refine tr_lst ?_ | with_reducible refine tr_lstM ?_ | with_reducible refine tr_isi ?_ | with_reducible refine tr_fmt ?_ | with_reducible refine tr_and ?_ | with_reducible refine tr_or ?_ | with_reducible refine tr_not ?_ | with_reducible refine tr_iSeq ?_ | with_reducible refine tr_lcL ?_ | with_reducible refine tr_fld ?_ | with_reducible refine tr_it ?_ | with_reducible refine tr_ie ?_ | refine tr_var rfl ?_ | dsimp only [Bool.false_eq_true, if_true, if_false]) | refine tr_itc rfl ?_ | refine tr_iec rfl ?_ | refine ⟨Nat.le_of_ble_eq_true rfl, ?_⟩ | refine ⟨_, rfl, ?_⟩ | refine ⟨_, _, rfl, ?_⟩ | ((fail_if_success (with_reducible refine stopd ?_)); (fail_if_success (with_reducible refine stopp ?_)); refine tr_eq rfl ?_))
    refine tr_mkF w ((part_init_tr (wf_new w) get_new ho hl hr h1 h2 h3 h4).imp ?_)
    rintro v S1 ⟨rfl, ys, g, b⟩
    exact ⟨rfl, _, g, b, fun S' m => ⟨.part ho hl hr h1 h2 h3 h4, m⟩⟩
end
end G
set_option linter.all false
set_option maxRecDepth 100000
set_option maxHeartbeats 4000000
/-! Q4_k02: what a row tells. -/
namespace G
open Mir MW ML
inductive IsText : W → List Nat → Prop where
  | step {k o t : List Nat} {a : Int} : IsText (.tup [.str s_18_, .str k, .str o, .str t, .int a]) (txS k o t a)
  | join {x y t : List Nat} {a : Int} : IsText (.tup [.str s_8_, .str x, .str y, .str t, .int a]) (txJ x y t a)
  | part {o l r : List Nat} {a b : Int} : IsText (.tup [.str s_17_, .str o, .str l, .str r, .int a, .int b]) (txP o l r a b)
theorem attr_tr {row obj : W} (h : RowObj row obj) (S : Store) : m_law_attributes [obj] S = .ok row S := by
  cases h <;> rfl
theorem str_tr {row obj : W} (h : RowObj row obj) : ∃ z, IsText row z ∧ ∀ S, fStrO strtab [obj] S = .ok (.str z) S := by
  cases h with
  | step => exact ⟨_, .step, fun S => rfl⟩
  | join => exact ⟨_, .join, fun S => rfl⟩
  | part => exact ⟨_, .part, fun S => rfl⟩
section
variable {S : Store}
theorem add_str {a b : List Nat} (h : a.length + b.length ≤ LIM) : opAdd (.str a) (.str b) S = .ok (.str (a ++ b)) S := by
  simp only [opAdd, Nat.ble_eq_true_of_le h, if_true]
theorem part_step {k o t : List Nat} {a : Int} (fa : fmt (.int a) = some (intL a)) {w : List Nat} {x1 x2 : Option W} :
    eLc [2] (iSeq (eSl sl (eVar 0) (oSome (eC (.int 1))) oNone)) (.nm 2) Mir.tYes (eCall fStr (aCons (eVar 2) aNil)) [some (.tup [.str w, .str k, .str o, .str t, .int a]), x1, x2] S = .ok (.lst [.str k, .str o, .str t, .str (intL a)]) S := by
  have f2 : fStr [.int a] S = .ok (.str (intL a)) S := by simp only [fStr, fa, Option.map, oks]
  have f1 : ∀ z, fStr [.str z] S = .ok (.str z) S := fun z => rfl
  simp [eLc, lcL, iSeq, eSl, eVar, getS, oSome, oNone, eC, Out.bind, sl, cut, sIx, itOf, oks, lcGo, still, stTg, Mir.tYes, eCall, aCons, aNil, setS, wipeS, f1, f2]
  rw [if_pos (by decide : 4 ≤ LIM)]
theorem part_part {o l r : List Nat} {a b : Int} (fa : fmt (.int a) = some (intL a)) (fb : fmt (.int b) = some (intL b)) {w : List Nat} {x1 x2 : Option W} :
    eLc [2] (iSeq (eSl sl (eVar 0) (oSome (eC (.int 1))) oNone)) (.nm 2) Mir.tYes (eCall fStr (aCons (eVar 2) aNil)) [some (.tup [.str w, .str o, .str l, .str r, .int a, .int b]), x1, x2] S = .ok (.lst [.str o, .str l, .str r, .str (intL a), .str (intL b)]) S := by
  have f2 : fStr [.int a] S = .ok (.str (intL a)) S := by simp only [fStr, fa, Option.map, oks]
  have f3 : fStr [.int b] S = .ok (.str (intL b)) S := by simp only [fStr, fb, Option.map, oks]
  have f1 : ∀ z, fStr [.str z] S = .ok (.str z) S := fun z => rfl
  simp [eLc, lcL, iSeq, eSl, eVar, getS, oSome, oNone, eC, Out.bind, sl, cut, sIx, itOf, oks, lcGo, still, stTg, Mir.tYes, eCall, aCons, aNil, setS, wipeS, f1, f2, f3]
  rw [if_pos (by decide : 5 ≤ LIM)]
theorem row_text_tr {row : W} (h : RowOk row) : Tr (m_law_row_text [row] S) fun v S' => S' = S ∧ ∃ z, IsText row z ∧ v = .str z := by
  refine tr_fn [some row, none, none] rfl rfl ?_
  cases h with
  | @step kd o t a hk ho ht h1 h2 =>
    obtain ⟨zk, rfl⟩ := str_kind hk
    obtain ⟨zo, rfl⟩ := str_old ho
    obtain ⟨zt, rfl⟩ := str_then ht
    have lk := wl_of (.inr (.inr (.inr hk)))
    have lo := wl_of (.inl ho)
    have lt := wl_of (.inr (.inl ht))
    obtain ⟨fa, la⟩ := fmt_add h1 h2
    refine tr_seq (tr_asg (tr_eq (part_step fa) ?_))
    repeat (first | (first | with_reducible refine tr_seq ?_ | with_reducible refine tr_asg ?_ | with_reducible refine tr_asg2 ?_ | with_reducible refine tr_expr ?_ | with_reducible refine tr_ret ?_ | with_reducible refine tr_if ?_ | with_reducible refine tr_next ?_ | with_reducible refine tr_c ?_ | with_reducible refine tr_bin ?_ | with_reducible refine tr_un ?_ | with_reducible refine tr_cons ?_ | with_reducible refine tr_nil ?_ | with_reducible refine tr_call ?_ | with_reducible refine tr_tB ?_ | with_reducible refine tr_tAnd ?_ | with_reducible refine tr_tOr ?_ | with_reducible refine tr_tNot ?_ | with_reducible refine tr_tYes ?_ | with_reducible refine tr_mtL ?_ | with_reducible refine tr_mtS ?_ | with_reducible refine tr_sl ?_ | with_reducible refine tr_oN ?_ | with_reducible refine tr_oS ?_ | with_reducible refine tr_lc ?_ | with_reducible refine tr_lcM ?_ | with_reducible refine tr_for ?_ | with_reducible refine tr_frz ?_ | with_reducible refine tr_tup ?_ | with_reducible refine tr_lst ?_ | with_reducible refine tr_lstM ?_ | with_reducible refine tr_isi ?_ | with_reducible refine tr_fmt ?_ | with_reducible refine tr_and ?_ | with_reducible refine tr_or ?_ | with_reducible refine tr_not ?_ | with_reducible refine tr_iSeq ?_ | with_reducible refine tr_lcL ?_ | with_reducible refine tr_fld ?_ | with_reducible refine tr_it ?_ | with_reducible refine tr_ie ?_ | refine tr_var rfl ?_ | dsimp only [Bool.false_eq_true, if_true, if_false]) | refine tr_itc rfl ?_ | refine tr_iec rfl ?_ | refine ⟨Nat.le_of_ble_eq_true rfl, ?_⟩ | refine ⟨_, rfl, ?_⟩ | refine ⟨_, _, rfl, ?_⟩ | ((fail_if_success (with_reducible refine stopd ?_)); (fail_if_success (with_reducible refine stopp ?_)); refine tr_eq rfl ?_))
    refine tr_eq (add_str (lim50 (by simp <;> omega))) ?_
    repeat (first | (first | with_reducible refine tr_seq ?_ | with_reducible refine tr_asg ?_ | with_reducible refine tr_asg2 ?_ | with_reducible refine tr_expr ?_ | with_reducible refine tr_ret ?_ | with_reducible refine tr_if ?_ | with_reducible refine tr_next ?_ | with_reducible refine tr_c ?_ | with_reducible refine tr_bin ?_ | with_reducible refine tr_un ?_ | with_reducible refine tr_cons ?_ | with_reducible refine tr_nil ?_ | with_reducible refine tr_call ?_ | with_reducible refine tr_tB ?_ | with_reducible refine tr_tAnd ?_ | with_reducible refine tr_tOr ?_ | with_reducible refine tr_tNot ?_ | with_reducible refine tr_tYes ?_ | with_reducible refine tr_mtL ?_ | with_reducible refine tr_mtS ?_ | with_reducible refine tr_sl ?_ | with_reducible refine tr_oN ?_ | with_reducible refine tr_oS ?_ | with_reducible refine tr_lc ?_ | with_reducible refine tr_lcM ?_ | with_reducible refine tr_for ?_ | with_reducible refine tr_frz ?_ | with_reducible refine tr_tup ?_ | with_reducible refine tr_lst ?_ | with_reducible refine tr_lstM ?_ | with_reducible refine tr_isi ?_ | with_reducible refine tr_fmt ?_ | with_reducible refine tr_and ?_ | with_reducible refine tr_or ?_ | with_reducible refine tr_not ?_ | with_reducible refine tr_iSeq ?_ | with_reducible refine tr_lcL ?_ | with_reducible refine tr_fld ?_ | with_reducible refine tr_it ?_ | with_reducible refine tr_ie ?_ | refine tr_var rfl ?_ | dsimp only [Bool.false_eq_true, if_true, if_false]) | refine tr_itc rfl ?_ | refine tr_iec rfl ?_ | refine ⟨Nat.le_of_ble_eq_true rfl, ?_⟩ | refine ⟨_, rfl, ?_⟩ | refine ⟨_, _, rfl, ?_⟩ | ((fail_if_success (with_reducible refine stopd ?_)); (fail_if_success (with_reducible refine stopp ?_)); refine tr_eq rfl ?_))
    refine tr_eq (add_str (lim50 (by simp <;> omega))) ?_
    repeat (first | (first | with_reducible refine tr_seq ?_ | with_reducible refine tr_asg ?_ | with_reducible refine tr_asg2 ?_ | with_reducible refine tr_expr ?_ | with_reducible refine tr_ret ?_ | with_reducible refine tr_if ?_ | with_reducible refine tr_next ?_ | with_reducible refine tr_c ?_ | with_reducible refine tr_bin ?_ | with_reducible refine tr_un ?_ | with_reducible refine tr_cons ?_ | with_reducible refine tr_nil ?_ | with_reducible refine tr_call ?_ | with_reducible refine tr_tB ?_ | with_reducible refine tr_tAnd ?_ | with_reducible refine tr_tOr ?_ | with_reducible refine tr_tNot ?_ | with_reducible refine tr_tYes ?_ | with_reducible refine tr_mtL ?_ | with_reducible refine tr_mtS ?_ | with_reducible refine tr_sl ?_ | with_reducible refine tr_oN ?_ | with_reducible refine tr_oS ?_ | with_reducible refine tr_lc ?_ | with_reducible refine tr_lcM ?_ | with_reducible refine tr_for ?_ | with_reducible refine tr_frz ?_ | with_reducible refine tr_tup ?_ | with_reducible refine tr_lst ?_ | with_reducible refine tr_lstM ?_ | with_reducible refine tr_isi ?_ | with_reducible refine tr_fmt ?_ | with_reducible refine tr_and ?_ | with_reducible refine tr_or ?_ | with_reducible refine tr_not ?_ | with_reducible refine tr_iSeq ?_ | with_reducible refine tr_lcL ?_ | with_reducible refine tr_fld ?_ | with_reducible refine tr_it ?_ | with_reducible refine tr_ie ?_ | refine tr_var rfl ?_ | dsimp only [Bool.false_eq_true, if_true, if_false]) | refine tr_itc rfl ?_ | refine tr_iec rfl ?_ | refine ⟨Nat.le_of_ble_eq_true rfl, ?_⟩ | refine ⟨_, rfl, ?_⟩ | refine ⟨_, _, rfl, ?_⟩ | ((fail_if_success (with_reducible refine stopd ?_)); (fail_if_success (with_reducible refine stopp ?_)); refine tr_eq rfl ?_))
    refine tr_eq (add_str (lim50 (by simp <;> omega))) ?_
    repeat (first | (first | with_reducible refine tr_seq ?_ | with_reducible refine tr_asg ?_ | with_reducible refine tr_asg2 ?_ | with_reducible refine tr_expr ?_ | with_reducible refine tr_ret ?_ | with_reducible refine tr_if ?_ | with_reducible refine tr_next ?_ | with_reducible refine tr_c ?_ | with_reducible refine tr_bin ?_ | with_reducible refine tr_un ?_ | with_reducible refine tr_cons ?_ | with_reducible refine tr_nil ?_ | with_reducible refine tr_call ?_ | with_reducible refine tr_tB ?_ | with_reducible refine tr_tAnd ?_ | with_reducible refine tr_tOr ?_ | with_reducible refine tr_tNot ?_ | with_reducible refine tr_tYes ?_ | with_reducible refine tr_mtL ?_ | with_reducible refine tr_mtS ?_ | with_reducible refine tr_sl ?_ | with_reducible refine tr_oN ?_ | with_reducible refine tr_oS ?_ | with_reducible refine tr_lc ?_ | with_reducible refine tr_lcM ?_ | with_reducible refine tr_for ?_ | with_reducible refine tr_frz ?_ | with_reducible refine tr_tup ?_ | with_reducible refine tr_lst ?_ | with_reducible refine tr_lstM ?_ | with_reducible refine tr_isi ?_ | with_reducible refine tr_fmt ?_ | with_reducible refine tr_and ?_ | with_reducible refine tr_or ?_ | with_reducible refine tr_not ?_ | with_reducible refine tr_iSeq ?_ | with_reducible refine tr_lcL ?_ | with_reducible refine tr_fld ?_ | with_reducible refine tr_it ?_ | with_reducible refine tr_ie ?_ | refine tr_var rfl ?_ | dsimp only [Bool.false_eq_true, if_true, if_false]) | refine tr_itc rfl ?_ | refine tr_iec rfl ?_ | refine ⟨Nat.le_of_ble_eq_true rfl, ?_⟩ | refine ⟨_, rfl, ?_⟩ | refine ⟨_, _, rfl, ?_⟩ | ((fail_if_success (with_reducible refine stopd ?_)); (fail_if_success (with_reducible refine stopp ?_)); refine tr_eq rfl ?_))
    refine tr_eq (add_str (lim50 (by simp <;> omega))) ?_
    repeat (first | (first | with_reducible refine tr_seq ?_ | with_reducible refine tr_asg ?_ | with_reducible refine tr_asg2 ?_ | with_reducible refine tr_expr ?_ | with_reducible refine tr_ret ?_ | with_reducible refine tr_if ?_ | with_reducible refine tr_next ?_ | with_reducible refine tr_c ?_ | with_reducible refine tr_bin ?_ | with_reducible refine tr_un ?_ | with_reducible refine tr_cons ?_ | with_reducible refine tr_nil ?_ | with_reducible refine tr_call ?_ | with_reducible refine tr_tB ?_ | with_reducible refine tr_tAnd ?_ | with_reducible refine tr_tOr ?_ | with_reducible refine tr_tNot ?_ | with_reducible refine tr_tYes ?_ | with_reducible refine tr_mtL ?_ | with_reducible refine tr_mtS ?_ | with_reducible refine tr_sl ?_ | with_reducible refine tr_oN ?_ | with_reducible refine tr_oS ?_ | with_reducible refine tr_lc ?_ | with_reducible refine tr_lcM ?_ | with_reducible refine tr_for ?_ | with_reducible refine tr_frz ?_ | with_reducible refine tr_tup ?_ | with_reducible refine tr_lst ?_ | with_reducible refine tr_lstM ?_ | with_reducible refine tr_isi ?_ | with_reducible refine tr_fmt ?_ | with_reducible refine tr_and ?_ | with_reducible refine tr_or ?_ | with_reducible refine tr_not ?_ | with_reducible refine tr_iSeq ?_ | with_reducible refine tr_lcL ?_ | with_reducible refine tr_fld ?_ | with_reducible refine tr_it ?_ | with_reducible refine tr_ie ?_ | refine tr_var rfl ?_ | dsimp only [Bool.false_eq_true, if_true, if_false]) | refine tr_itc rfl ?_ | refine tr_iec rfl ?_ | refine ⟨Nat.le_of_ble_eq_true rfl, ?_⟩ | refine ⟨_, rfl, ?_⟩ | refine ⟨_, _, rfl, ?_⟩ | ((fail_if_success (with_reducible refine stopd ?_)); (fail_if_success (with_reducible refine stopp ?_)); refine tr_eq rfl ?_))
    refine tr_eq (add_str (lim50 (by simp <;> omega))) ?_
    repeat (first | (first | with_reducible refine tr_seq ?_ | with_reducible refine tr_asg ?_ | with_reducible refine tr_asg2 ?_ | with_reducible refine tr_expr ?_ | with_reducible refine tr_ret ?_ | with_reducible refine tr_if ?_ | with_reducible refine tr_next ?_ | with_reducible refine tr_c ?_ | with_reducible refine tr_bin ?_ | with_reducible refine tr_un ?_ | with_reducible refine tr_cons ?_ | with_reducible refine tr_nil ?_ | with_reducible refine tr_call ?_ | with_reducible refine tr_tB ?_ | with_reducible refine tr_tAnd ?_ | with_reducible refine tr_tOr ?_ | with_reducible refine tr_tNot ?_ | with_reducible refine tr_tYes ?_ | with_reducible refine tr_mtL ?_ | with_reducible refine tr_mtS ?_ | with_reducible refine tr_sl ?_ | with_reducible refine tr_oN ?_ | with_reducible refine tr_oS ?_ | with_reducible refine tr_lc ?_ | with_reducible refine tr_lcM ?_ | with_reducible refine tr_for ?_ | with_reducible refine tr_frz ?_ | with_reducible refine tr_tup ?_ | with_reducible refine tr_lst ?_ | with_reducible refine tr_lstM ?_ | with_reducible refine tr_isi ?_ | with_reducible refine tr_fmt ?_ | with_reducible refine tr_and ?_ | with_reducible refine tr_or ?_ | with_reducible refine tr_not ?_ | with_reducible refine tr_iSeq ?_ | with_reducible refine tr_lcL ?_ | with_reducible refine tr_fld ?_ | with_reducible refine tr_it ?_ | with_reducible refine tr_ie ?_ | refine tr_var rfl ?_ | dsimp only [Bool.false_eq_true, if_true, if_false]) | refine tr_itc rfl ?_ | refine tr_iec rfl ?_ | refine ⟨Nat.le_of_ble_eq_true rfl, ?_⟩ | refine ⟨_, rfl, ?_⟩ | refine ⟨_, _, rfl, ?_⟩ | ((fail_if_success (with_reducible refine stopd ?_)); (fail_if_success (with_reducible refine stopp ?_)); refine tr_eq rfl ?_))
    refine tr_eq (add_str (lim50 (by simp <;> omega))) ?_
    repeat (first | (first | with_reducible refine tr_seq ?_ | with_reducible refine tr_asg ?_ | with_reducible refine tr_asg2 ?_ | with_reducible refine tr_expr ?_ | with_reducible refine tr_ret ?_ | with_reducible refine tr_if ?_ | with_reducible refine tr_next ?_ | with_reducible refine tr_c ?_ | with_reducible refine tr_bin ?_ | with_reducible refine tr_un ?_ | with_reducible refine tr_cons ?_ | with_reducible refine tr_nil ?_ | with_reducible refine tr_call ?_ | with_reducible refine tr_tB ?_ | with_reducible refine tr_tAnd ?_ | with_reducible refine tr_tOr ?_ | with_reducible refine tr_tNot ?_ | with_reducible refine tr_tYes ?_ | with_reducible refine tr_mtL ?_ | with_reducible refine tr_mtS ?_ | with_reducible refine tr_sl ?_ | with_reducible refine tr_oN ?_ | with_reducible refine tr_oS ?_ | with_reducible refine tr_lc ?_ | with_reducible refine tr_lcM ?_ | with_reducible refine tr_for ?_ | with_reducible refine tr_frz ?_ | with_reducible refine tr_tup ?_ | with_reducible refine tr_lst ?_ | with_reducible refine tr_lstM ?_ | with_reducible refine tr_isi ?_ | with_reducible refine tr_fmt ?_ | with_reducible refine tr_and ?_ | with_reducible refine tr_or ?_ | with_reducible refine tr_not ?_ | with_reducible refine tr_iSeq ?_ | with_reducible refine tr_lcL ?_ | with_reducible refine tr_fld ?_ | with_reducible refine tr_it ?_ | with_reducible refine tr_ie ?_ | refine tr_var rfl ?_ | dsimp only [Bool.false_eq_true, if_true, if_false]) | refine tr_itc rfl ?_ | refine tr_iec rfl ?_ | refine ⟨Nat.le_of_ble_eq_true rfl, ?_⟩ | refine ⟨_, rfl, ?_⟩ | refine ⟨_, _, rfl, ?_⟩ | ((fail_if_success (with_reducible refine stopd ?_)); (fail_if_success (with_reducible refine stopp ?_)); refine tr_eq rfl ?_))
    exact ⟨rfl, _, .step, rfl⟩
  | @join x y t a hx hy ht h1 h2 =>
    obtain ⟨zx, rfl⟩ := str_old hx
    obtain ⟨zy, rfl⟩ := str_old hy
    obtain ⟨zt, rfl⟩ := str_thenJ ht
    have lx := wl_of (.inl hx)
    have ly := wl_of (.inl hy)
    have lt := wl_of (.inr (.inr (.inl ht)))
    obtain ⟨fa, la⟩ := fmt_add h1 h2
    refine tr_seq (tr_asg (tr_eq (part_step fa) ?_))
    repeat (first | (first | with_reducible refine tr_seq ?_ | with_reducible refine tr_asg ?_ | with_reducible refine tr_asg2 ?_ | with_reducible refine tr_expr ?_ | with_reducible refine tr_ret ?_ | with_reducible refine tr_if ?_ | with_reducible refine tr_next ?_ | with_reducible refine tr_c ?_ | with_reducible refine tr_bin ?_ | with_reducible refine tr_un ?_ | with_reducible refine tr_cons ?_ | with_reducible refine tr_nil ?_ | with_reducible refine tr_call ?_ | with_reducible refine tr_tB ?_ | with_reducible refine tr_tAnd ?_ | with_reducible refine tr_tOr ?_ | with_reducible refine tr_tNot ?_ | with_reducible refine tr_tYes ?_ | with_reducible refine tr_mtL ?_ | with_reducible refine tr_mtS ?_ | with_reducible refine tr_sl ?_ | with_reducible refine tr_oN ?_ | with_reducible refine tr_oS ?_ | with_reducible refine tr_lc ?_ | with_reducible refine tr_lcM ?_ | with_reducible refine tr_for ?_ | with_reducible refine tr_frz ?_ | with_reducible refine tr_tup ?_ | with_reducible refine tr_lst ?_ | with_reducible refine tr_lstM ?_ | with_reducible refine tr_isi ?_ | with_reducible refine tr_fmt ?_ | with_reducible refine tr_and ?_ | with_reducible refine tr_or ?_ | with_reducible refine tr_not ?_ | with_reducible refine tr_iSeq ?_ | with_reducible refine tr_lcL ?_ | with_reducible refine tr_fld ?_ | with_reducible refine tr_it ?_ | with_reducible refine tr_ie ?_ | refine tr_var rfl ?_ | dsimp only [Bool.false_eq_true, if_true, if_false]) | refine tr_itc rfl ?_ | refine tr_iec rfl ?_ | refine ⟨Nat.le_of_ble_eq_true rfl, ?_⟩ | refine ⟨_, rfl, ?_⟩ | refine ⟨_, _, rfl, ?_⟩ | ((fail_if_success (with_reducible refine stopd ?_)); (fail_if_success (with_reducible refine stopp ?_)); refine tr_eq rfl ?_))
    refine tr_eq (add_str (lim50 (by simp <;> omega))) ?_
    repeat (first | (first | with_reducible refine tr_seq ?_ | with_reducible refine tr_asg ?_ | with_reducible refine tr_asg2 ?_ | with_reducible refine tr_expr ?_ | with_reducible refine tr_ret ?_ | with_reducible refine tr_if ?_ | with_reducible refine tr_next ?_ | with_reducible refine tr_c ?_ | with_reducible refine tr_bin ?_ | with_reducible refine tr_un ?_ | with_reducible refine tr_cons ?_ | with_reducible refine tr_nil ?_ | with_reducible refine tr_call ?_ | with_reducible refine tr_tB ?_ | with_reducible refine tr_tAnd ?_ | with_reducible refine tr_tOr ?_ | with_reducible refine tr_tNot ?_ | with_reducible refine tr_tYes ?_ | with_reducible refine tr_mtL ?_ | with_reducible refine tr_mtS ?_ | with_reducible refine tr_sl ?_ | with_reducible refine tr_oN ?_ | with_reducible refine tr_oS ?_ | with_reducible refine tr_lc ?_ | with_reducible refine tr_lcM ?_ | with_reducible refine tr_for ?_ | with_reducible refine tr_frz ?_ | with_reducible refine tr_tup ?_ | with_reducible refine tr_lst ?_ | with_reducible refine tr_lstM ?_ | with_reducible refine tr_isi ?_ | with_reducible refine tr_fmt ?_ | with_reducible refine tr_and ?_ | with_reducible refine tr_or ?_ | with_reducible refine tr_not ?_ | with_reducible refine tr_iSeq ?_ | with_reducible refine tr_lcL ?_ | with_reducible refine tr_fld ?_ | with_reducible refine tr_it ?_ | with_reducible refine tr_ie ?_ | refine tr_var rfl ?_ | dsimp only [Bool.false_eq_true, if_true, if_false]) | refine tr_itc rfl ?_ | refine tr_iec rfl ?_ | refine ⟨Nat.le_of_ble_eq_true rfl, ?_⟩ | refine ⟨_, rfl, ?_⟩ | refine ⟨_, _, rfl, ?_⟩ | ((fail_if_success (with_reducible refine stopd ?_)); (fail_if_success (with_reducible refine stopp ?_)); refine tr_eq rfl ?_))
    refine tr_eq (add_str (lim50 (by simp <;> omega))) ?_
    repeat (first | (first | with_reducible refine tr_seq ?_ | with_reducible refine tr_asg ?_ | with_reducible refine tr_asg2 ?_ | with_reducible refine tr_expr ?_ | with_reducible refine tr_ret ?_ | with_reducible refine tr_if ?_ | with_reducible refine tr_next ?_ | with_reducible refine tr_c ?_ | with_reducible refine tr_bin ?_ | with_reducible refine tr_un ?_ | with_reducible refine tr_cons ?_ | with_reducible refine tr_nil ?_ | with_reducible refine tr_call ?_ | with_reducible refine tr_tB ?_ | with_reducible refine tr_tAnd ?_ | with_reducible refine tr_tOr ?_ | with_reducible refine tr_tNot ?_ | with_reducible refine tr_tYes ?_ | with_reducible refine tr_mtL ?_ | with_reducible refine tr_mtS ?_ | with_reducible refine tr_sl ?_ | with_reducible refine tr_oN ?_ | with_reducible refine tr_oS ?_ | with_reducible refine tr_lc ?_ | with_reducible refine tr_lcM ?_ | with_reducible refine tr_for ?_ | with_reducible refine tr_frz ?_ | with_reducible refine tr_tup ?_ | with_reducible refine tr_lst ?_ | with_reducible refine tr_lstM ?_ | with_reducible refine tr_isi ?_ | with_reducible refine tr_fmt ?_ | with_reducible refine tr_and ?_ | with_reducible refine tr_or ?_ | with_reducible refine tr_not ?_ | with_reducible refine tr_iSeq ?_ | with_reducible refine tr_lcL ?_ | with_reducible refine tr_fld ?_ | with_reducible refine tr_it ?_ | with_reducible refine tr_ie ?_ | refine tr_var rfl ?_ | dsimp only [Bool.false_eq_true, if_true, if_false]) | refine tr_itc rfl ?_ | refine tr_iec rfl ?_ | refine ⟨Nat.le_of_ble_eq_true rfl, ?_⟩ | refine ⟨_, rfl, ?_⟩ | refine ⟨_, _, rfl, ?_⟩ | ((fail_if_success (with_reducible refine stopd ?_)); (fail_if_success (with_reducible refine stopp ?_)); refine tr_eq rfl ?_))
    refine tr_eq (add_str (lim50 (by simp <;> omega))) ?_
    repeat (first | (first | with_reducible refine tr_seq ?_ | with_reducible refine tr_asg ?_ | with_reducible refine tr_asg2 ?_ | with_reducible refine tr_expr ?_ | with_reducible refine tr_ret ?_ | with_reducible refine tr_if ?_ | with_reducible refine tr_next ?_ | with_reducible refine tr_c ?_ | with_reducible refine tr_bin ?_ | with_reducible refine tr_un ?_ | with_reducible refine tr_cons ?_ | with_reducible refine tr_nil ?_ | with_reducible refine tr_call ?_ | with_reducible refine tr_tB ?_ | with_reducible refine tr_tAnd ?_ | with_reducible refine tr_tOr ?_ | with_reducible refine tr_tNot ?_ | with_reducible refine tr_tYes ?_ | with_reducible refine tr_mtL ?_ | with_reducible refine tr_mtS ?_ | with_reducible refine tr_sl ?_ | with_reducible refine tr_oN ?_ | with_reducible refine tr_oS ?_ | with_reducible refine tr_lc ?_ | with_reducible refine tr_lcM ?_ | with_reducible refine tr_for ?_ | with_reducible refine tr_frz ?_ | with_reducible refine tr_tup ?_ | with_reducible refine tr_lst ?_ | with_reducible refine tr_lstM ?_ | with_reducible refine tr_isi ?_ | with_reducible refine tr_fmt ?_ | with_reducible refine tr_and ?_ | with_reducible refine tr_or ?_ | with_reducible refine tr_not ?_ | with_reducible refine tr_iSeq ?_ | with_reducible refine tr_lcL ?_ | with_reducible refine tr_fld ?_ | with_reducible refine tr_it ?_ | with_reducible refine tr_ie ?_ | refine tr_var rfl ?_ | dsimp only [Bool.false_eq_true, if_true, if_false]) | refine tr_itc rfl ?_ | refine tr_iec rfl ?_ | refine ⟨Nat.le_of_ble_eq_true rfl, ?_⟩ | refine ⟨_, rfl, ?_⟩ | refine ⟨_, _, rfl, ?_⟩ | ((fail_if_success (with_reducible refine stopd ?_)); (fail_if_success (with_reducible refine stopp ?_)); refine tr_eq rfl ?_))
    refine tr_eq (add_str (lim50 (by simp <;> omega))) ?_
    repeat (first | (first | with_reducible refine tr_seq ?_ | with_reducible refine tr_asg ?_ | with_reducible refine tr_asg2 ?_ | with_reducible refine tr_expr ?_ | with_reducible refine tr_ret ?_ | with_reducible refine tr_if ?_ | with_reducible refine tr_next ?_ | with_reducible refine tr_c ?_ | with_reducible refine tr_bin ?_ | with_reducible refine tr_un ?_ | with_reducible refine tr_cons ?_ | with_reducible refine tr_nil ?_ | with_reducible refine tr_call ?_ | with_reducible refine tr_tB ?_ | with_reducible refine tr_tAnd ?_ | with_reducible refine tr_tOr ?_ | with_reducible refine tr_tNot ?_ | with_reducible refine tr_tYes ?_ | with_reducible refine tr_mtL ?_ | with_reducible refine tr_mtS ?_ | with_reducible refine tr_sl ?_ | with_reducible refine tr_oN ?_ | with_reducible refine tr_oS ?_ | with_reducible refine tr_lc ?_ | with_reducible refine tr_lcM ?_ | with_reducible refine tr_for ?_ | with_reducible refine tr_frz ?_ | with_reducible refine tr_tup ?_ | with_reducible refine tr_lst ?_ | with_reducible refine tr_lstM ?_ | with_reducible refine tr_isi ?_ | with_reducible refine tr_fmt ?_ | with_reducible refine tr_and ?_ | with_reducible refine tr_or ?_ | with_reducible refine tr_not ?_ | with_reducible refine tr_iSeq ?_ | with_reducible refine tr_lcL ?_ | with_reducible refine tr_fld ?_ | with_reducible refine tr_it ?_ | with_reducible refine tr_ie ?_ | refine tr_var rfl ?_ | dsimp only [Bool.false_eq_true, if_true, if_false]) | refine tr_itc rfl ?_ | refine tr_iec rfl ?_ | refine ⟨Nat.le_of_ble_eq_true rfl, ?_⟩ | refine ⟨_, rfl, ?_⟩ | refine ⟨_, _, rfl, ?_⟩ | ((fail_if_success (with_reducible refine stopd ?_)); (fail_if_success (with_reducible refine stopp ?_)); refine tr_eq rfl ?_))
    refine tr_eq (add_str (lim50 (by simp <;> omega))) ?_
    repeat (first | (first | with_reducible refine tr_seq ?_ | with_reducible refine tr_asg ?_ | with_reducible refine tr_asg2 ?_ | with_reducible refine tr_expr ?_ | with_reducible refine tr_ret ?_ | with_reducible refine tr_if ?_ | with_reducible refine tr_next ?_ | with_reducible refine tr_c ?_ | with_reducible refine tr_bin ?_ | with_reducible refine tr_un ?_ | with_reducible refine tr_cons ?_ | with_reducible refine tr_nil ?_ | with_reducible refine tr_call ?_ | with_reducible refine tr_tB ?_ | with_reducible refine tr_tAnd ?_ | with_reducible refine tr_tOr ?_ | with_reducible refine tr_tNot ?_ | with_reducible refine tr_tYes ?_ | with_reducible refine tr_mtL ?_ | with_reducible refine tr_mtS ?_ | with_reducible refine tr_sl ?_ | with_reducible refine tr_oN ?_ | with_reducible refine tr_oS ?_ | with_reducible refine tr_lc ?_ | with_reducible refine tr_lcM ?_ | with_reducible refine tr_for ?_ | with_reducible refine tr_frz ?_ | with_reducible refine tr_tup ?_ | with_reducible refine tr_lst ?_ | with_reducible refine tr_lstM ?_ | with_reducible refine tr_isi ?_ | with_reducible refine tr_fmt ?_ | with_reducible refine tr_and ?_ | with_reducible refine tr_or ?_ | with_reducible refine tr_not ?_ | with_reducible refine tr_iSeq ?_ | with_reducible refine tr_lcL ?_ | with_reducible refine tr_fld ?_ | with_reducible refine tr_it ?_ | with_reducible refine tr_ie ?_ | refine tr_var rfl ?_ | dsimp only [Bool.false_eq_true, if_true, if_false]) | refine tr_itc rfl ?_ | refine tr_iec rfl ?_ | refine ⟨Nat.le_of_ble_eq_true rfl, ?_⟩ | refine ⟨_, rfl, ?_⟩ | refine ⟨_, _, rfl, ?_⟩ | ((fail_if_success (with_reducible refine stopd ?_)); (fail_if_success (with_reducible refine stopp ?_)); refine tr_eq rfl ?_))
    refine tr_eq (add_str (lim50 (by simp <;> omega))) ?_
    repeat (first | (first | with_reducible refine tr_seq ?_ | with_reducible refine tr_asg ?_ | with_reducible refine tr_asg2 ?_ | with_reducible refine tr_expr ?_ | with_reducible refine tr_ret ?_ | with_reducible refine tr_if ?_ | with_reducible refine tr_next ?_ | with_reducible refine tr_c ?_ | with_reducible refine tr_bin ?_ | with_reducible refine tr_un ?_ | with_reducible refine tr_cons ?_ | with_reducible refine tr_nil ?_ | with_reducible refine tr_call ?_ | with_reducible refine tr_tB ?_ | with_reducible refine tr_tAnd ?_ | with_reducible refine tr_tOr ?_ | with_reducible refine tr_tNot ?_ | with_reducible refine tr_tYes ?_ | with_reducible refine tr_mtL ?_ | with_reducible refine tr_mtS ?_ | with_reducible refine tr_sl ?_ | with_reducible refine tr_oN ?_ | with_reducible refine tr_oS ?_ | with_reducible refine tr_lc ?_ | with_reducible refine tr_lcM ?_ | with_reducible refine tr_for ?_ | with_reducible refine tr_frz ?_ | with_reducible refine tr_tup ?_ | with_reducible refine tr_lst ?_ | with_reducible refine tr_lstM ?_ | with_reducible refine tr_isi ?_ | with_reducible refine tr_fmt ?_ | with_reducible refine tr_and ?_ | with_reducible refine tr_or ?_ | with_reducible refine tr_not ?_ | with_reducible refine tr_iSeq ?_ | with_reducible refine tr_lcL ?_ | with_reducible refine tr_fld ?_ | with_reducible refine tr_it ?_ | with_reducible refine tr_ie ?_ | refine tr_var rfl ?_ | dsimp only [Bool.false_eq_true, if_true, if_false]) | refine tr_itc rfl ?_ | refine tr_iec rfl ?_ | refine ⟨Nat.le_of_ble_eq_true rfl, ?_⟩ | refine ⟨_, rfl, ?_⟩ | refine ⟨_, _, rfl, ?_⟩ | ((fail_if_success (with_reducible refine stopd ?_)); (fail_if_success (with_reducible refine stopp ?_)); refine tr_eq rfl ?_))
    refine tr_eq (add_str (lim50 (by simp <;> omega))) ?_
    repeat (first | (first | with_reducible refine tr_seq ?_ | with_reducible refine tr_asg ?_ | with_reducible refine tr_asg2 ?_ | with_reducible refine tr_expr ?_ | with_reducible refine tr_ret ?_ | with_reducible refine tr_if ?_ | with_reducible refine tr_next ?_ | with_reducible refine tr_c ?_ | with_reducible refine tr_bin ?_ | with_reducible refine tr_un ?_ | with_reducible refine tr_cons ?_ | with_reducible refine tr_nil ?_ | with_reducible refine tr_call ?_ | with_reducible refine tr_tB ?_ | with_reducible refine tr_tAnd ?_ | with_reducible refine tr_tOr ?_ | with_reducible refine tr_tNot ?_ | with_reducible refine tr_tYes ?_ | with_reducible refine tr_mtL ?_ | with_reducible refine tr_mtS ?_ | with_reducible refine tr_sl ?_ | with_reducible refine tr_oN ?_ | with_reducible refine tr_oS ?_ | with_reducible refine tr_lc ?_ | with_reducible refine tr_lcM ?_ | with_reducible refine tr_for ?_ | with_reducible refine tr_frz ?_ | with_reducible refine tr_tup ?_ | with_reducible refine tr_lst ?_ | with_reducible refine tr_lstM ?_ | with_reducible refine tr_isi ?_ | with_reducible refine tr_fmt ?_ | with_reducible refine tr_and ?_ | with_reducible refine tr_or ?_ | with_reducible refine tr_not ?_ | with_reducible refine tr_iSeq ?_ | with_reducible refine tr_lcL ?_ | with_reducible refine tr_fld ?_ | with_reducible refine tr_it ?_ | with_reducible refine tr_ie ?_ | refine tr_var rfl ?_ | dsimp only [Bool.false_eq_true, if_true, if_false]) | refine tr_itc rfl ?_ | refine tr_iec rfl ?_ | refine ⟨Nat.le_of_ble_eq_true rfl, ?_⟩ | refine ⟨_, rfl, ?_⟩ | refine ⟨_, _, rfl, ?_⟩ | ((fail_if_success (with_reducible refine stopd ?_)); (fail_if_success (with_reducible refine stopp ?_)); refine tr_eq rfl ?_))
    exact ⟨rfl, _, .join, rfl⟩
  | @part o l r a b ho hl hr h1 h2 h3 h4 =>
    obtain ⟨zo, rfl⟩ := str_old ho
    obtain ⟨zl, rfl⟩ := str_then hl
    obtain ⟨zr, rfl⟩ := str_then hr
    have lo := wl_of (.inl ho)
    have ll := wl_of (.inr (.inl hl))
    have lr := wl_of (.inr (.inl hr))
    obtain ⟨fa, la⟩ := fmt_add h1 h2
    obtain ⟨fb, lb⟩ := fmt_add h3 h4
    refine tr_seq (tr_asg (tr_eq (part_part fa fb) ?_))
    repeat (first | (first | with_reducible refine tr_seq ?_ | with_reducible refine tr_asg ?_ | with_reducible refine tr_asg2 ?_ | with_reducible refine tr_expr ?_ | with_reducible refine tr_ret ?_ | with_reducible refine tr_if ?_ | with_reducible refine tr_next ?_ | with_reducible refine tr_c ?_ | with_reducible refine tr_bin ?_ | with_reducible refine tr_un ?_ | with_reducible refine tr_cons ?_ | with_reducible refine tr_nil ?_ | with_reducible refine tr_call ?_ | with_reducible refine tr_tB ?_ | with_reducible refine tr_tAnd ?_ | with_reducible refine tr_tOr ?_ | with_reducible refine tr_tNot ?_ | with_reducible refine tr_tYes ?_ | with_reducible refine tr_mtL ?_ | with_reducible refine tr_mtS ?_ | with_reducible refine tr_sl ?_ | with_reducible refine tr_oN ?_ | with_reducible refine tr_oS ?_ | with_reducible refine tr_lc ?_ | with_reducible refine tr_lcM ?_ | with_reducible refine tr_for ?_ | with_reducible refine tr_frz ?_ | with_reducible refine tr_tup ?_ | with_reducible refine tr_lst ?_ | with_reducible refine tr_lstM ?_ | with_reducible refine tr_isi ?_ | with_reducible refine tr_fmt ?_ | with_reducible refine tr_and ?_ | with_reducible refine tr_or ?_ | with_reducible refine tr_not ?_ | with_reducible refine tr_iSeq ?_ | with_reducible refine tr_lcL ?_ | with_reducible refine tr_fld ?_ | with_reducible refine tr_it ?_ | with_reducible refine tr_ie ?_ | refine tr_var rfl ?_ | dsimp only [Bool.false_eq_true, if_true, if_false]) | refine tr_itc rfl ?_ | refine tr_iec rfl ?_ | refine ⟨Nat.le_of_ble_eq_true rfl, ?_⟩ | refine ⟨_, rfl, ?_⟩ | refine ⟨_, _, rfl, ?_⟩ | ((fail_if_success (with_reducible refine stopd ?_)); (fail_if_success (with_reducible refine stopp ?_)); refine tr_eq rfl ?_))
    have ej : joinL s_23_ [s_17_, zo, s_27_, zl, zr, s_28_, intL a, intL b] = txP zo zl zr a b := by
      simp [joinL, txP, List.append_assoc]
    have lj : (txP zo zl zr a b).length ≤ LIM := lim50 (by simp [txP] <;> omega)
    have e : m1 mJoin (.str s_23_) [.lst [.str s_17_, .str zo, .str s_27_, .str zl, .str zr, .str s_28_, .str (intL a), .str (intL b)]] S = .ok (.str (txP zo zl zr a b)) S := by
      show (if Nat.ble (joinL s_23_ [s_17_, zo, s_27_, zl, zr, s_28_, intL a, intL b]).length LIM then Out.ok (W.str (joinL s_23_ [s_17_, zo, s_27_, zl, zr, s_28_, intL a, intL b])) S else .bad) = _
      rw [ej, if_pos (Nat.ble_eq_true_of_le lj)]
    refine ⟨rfl, ?_⟩
    repeat (first | (first | with_reducible refine tr_seq ?_ | with_reducible refine tr_asg ?_ | with_reducible refine tr_asg2 ?_ | with_reducible refine tr_expr ?_ | with_reducible refine tr_ret ?_ | with_reducible refine tr_if ?_ | with_reducible refine tr_next ?_ | with_reducible refine tr_c ?_ | with_reducible refine tr_bin ?_ | with_reducible refine tr_un ?_ | with_reducible refine tr_cons ?_ | with_reducible refine tr_nil ?_ | with_reducible refine tr_call ?_ | with_reducible refine tr_tB ?_ | with_reducible refine tr_tAnd ?_ | with_reducible refine tr_tOr ?_ | with_reducible refine tr_tNot ?_ | with_reducible refine tr_tYes ?_ | with_reducible refine tr_mtL ?_ | with_reducible refine tr_mtS ?_ | with_reducible refine tr_sl ?_ | with_reducible refine tr_oN ?_ | with_reducible refine tr_oS ?_ | with_reducible refine tr_lc ?_ | with_reducible refine tr_lcM ?_ | with_reducible refine tr_for ?_ | with_reducible refine tr_frz ?_ | with_reducible refine tr_tup ?_ | with_reducible refine tr_lst ?_ | with_reducible refine tr_lstM ?_ | with_reducible refine tr_isi ?_ | with_reducible refine tr_fmt ?_ | with_reducible refine tr_and ?_ | with_reducible refine tr_or ?_ | with_reducible refine tr_not ?_ | with_reducible refine tr_iSeq ?_ | with_reducible refine tr_lcL ?_ | with_reducible refine tr_fld ?_ | with_reducible refine tr_it ?_ | with_reducible refine tr_ie ?_ | refine tr_var rfl ?_ | dsimp only [Bool.false_eq_true, if_true, if_false]) | refine tr_itc rfl ?_ | refine tr_iec rfl ?_ | refine ⟨Nat.le_of_ble_eq_true rfl, ?_⟩ | refine ⟨_, rfl, ?_⟩ | refine ⟨_, _, rfl, ?_⟩ | ((fail_if_success (with_reducible refine stopd ?_)); (fail_if_success (with_reducible refine stopp ?_)); refine tr_eq rfl ?_))
    refine tr_eq e ?_
    repeat (first | (first | with_reducible refine tr_seq ?_ | with_reducible refine tr_asg ?_ | with_reducible refine tr_asg2 ?_ | with_reducible refine tr_expr ?_ | with_reducible refine tr_ret ?_ | with_reducible refine tr_if ?_ | with_reducible refine tr_next ?_ | with_reducible refine tr_c ?_ | with_reducible refine tr_bin ?_ | with_reducible refine tr_un ?_ | with_reducible refine tr_cons ?_ | with_reducible refine tr_nil ?_ | with_reducible refine tr_call ?_ | with_reducible refine tr_tB ?_ | with_reducible refine tr_tAnd ?_ | with_reducible refine tr_tOr ?_ | with_reducible refine tr_tNot ?_ | with_reducible refine tr_tYes ?_ | with_reducible refine tr_mtL ?_ | with_reducible refine tr_mtS ?_ | with_reducible refine tr_sl ?_ | with_reducible refine tr_oN ?_ | with_reducible refine tr_oS ?_ | with_reducible refine tr_lc ?_ | with_reducible refine tr_lcM ?_ | with_reducible refine tr_for ?_ | with_reducible refine tr_frz ?_ | with_reducible refine tr_tup ?_ | with_reducible refine tr_lst ?_ | with_reducible refine tr_lstM ?_ | with_reducible refine tr_isi ?_ | with_reducible refine tr_fmt ?_ | with_reducible refine tr_and ?_ | with_reducible refine tr_or ?_ | with_reducible refine tr_not ?_ | with_reducible refine tr_iSeq ?_ | with_reducible refine tr_lcL ?_ | with_reducible refine tr_fld ?_ | with_reducible refine tr_it ?_ | with_reducible refine tr_ie ?_ | refine tr_var rfl ?_ | dsimp only [Bool.false_eq_true, if_true, if_false]) | refine tr_itc rfl ?_ | refine tr_iec rfl ?_ | refine ⟨Nat.le_of_ble_eq_true rfl, ?_⟩ | refine ⟨_, rfl, ?_⟩ | refine ⟨_, _, rfl, ?_⟩ | ((fail_if_success (with_reducible refine stopd ?_)); (fail_if_success (with_reducible refine stopp ?_)); refine tr_eq rfl ?_))
    exact ⟨rfl, _, .part, rfl⟩
end
end G
set_option linter.all false
set_option maxRecDepth 100000
set_option maxHeartbeats 4000000
/-! Q5_k02: texts are alike just where rows are. -/
namespace G
open Mir MW ML
theorem spl_app (c : Nat) : ∀ (a acc b : List Nat), spl1 c acc (a ++ c :: b) = spl1 c acc a ++ spl1 c [] b
  | [], acc, b => by
    show (if Nat.beq c c then acc.reverse :: spl1 c [] b else _) = _
    rw [Nat.beq_refl]
    rfl
  | x :: r, acc, b => by
    show (if Nat.beq x c then acc.reverse :: spl1 c [] (r ++ c :: b) else spl1 c (x :: acc) (r ++ c :: b)) = (if Nat.beq x c then acc.reverse :: spl1 c [] r else spl1 c (x :: acc) r) ++ _
    cases Nat.beq x c with
    | true => simp only [if_true]; rw [spl_app c r [] b]; rfl
    | false => simp only [Bool.false_eq_true, if_false]; rw [spl_app c r (x :: acc) b]
def sp1 (w : W) : Bool := match w with
  | .str z => decide (spl1 32 [] z = [z])
  | _ => false
theorem sp_of {z : List Nat} (h : W.str z ∈ olds ∨ W.str z ∈ thens ∨ W.str z ∈ thenJ) : spl1 32 [] z = [z] := by
  have a1 : ∀ w ∈ olds, sp1 w = true := by decide
  have a2 : ∀ w ∈ thens, sp1 w = true := by decide
  have a3 : ∀ w ∈ thenJ, sp1 w = true := by decide
  rcases h with h | h | h
  · exact of_decide_eq_true (a1 _ h)
  · exact of_decide_eq_true (a2 _ h)
  · exact of_decide_eq_true (a3 _ h)
def adds : List Int := [-3, -2, -1, 0, 1, 2, 3]
theorem add_mem {a : Int} (h1 : -3 ≤ a) (h2 : a ≤ 3) : a ∈ adds := by
  have : a = -3 ∨ a = -2 ∨ a = -1 ∨ a = 0 ∨ a = 1 ∨ a = 2 ∨ a = 3 := by omega
  rcases this with rfl | rfl | rfl | rfl | rfl | rfl | rfl <;> decide
theorem sp_int {a : Int} (h1 : -3 ≤ a) (h2 : a ≤ 3) : spl1 32 [] (intL a) = [intL a] := (by decide : ∀ a ∈ adds, spl1 32 [] (intL a) = [intL a]) a (add_mem h1 h2)
theorem int_inj {a b : Int} (h1 : -3 ≤ a) (h2 : a ≤ 3) (h3 : -3 ≤ b) (h4 : b ≤ 3) (e : intL a = intL b) : a = b := (by decide : ∀ a ∈ adds, ∀ b ∈ adds, intL a = intL b → a = b) a (add_mem h1 h2) b (add_mem h3 h4) e
def kk : List (List Nat) := [s_6_, s_11_, s_19_, s_20_, s_10_, s_21_, s_22_, s_12_]
theorem kk_of {z : List Nat} (h : W.str z ∈ kinds) : z ∈ kk := by
  have e : kinds = kk.map W.str := rfl
  rw [e] at h
  obtain ⟨y, hy, q⟩ := List.mem_map.mp h
  cases q
  exact hy
theorem kk_inj : ∀ k ∈ kk, ∀ k' ∈ kk, spl1 32 [] k = spl1 32 [] k' → k = k' := by decide
theorem kk_hd : ∀ k ∈ kk, (spl1 32 [] k).head? ≠ some s_8_ ∧ (spl1 32 [] k).head? ≠ some s_17_ ∧ spl1 32 [] k ≠ [] := by decide
/-- a row and its text -/
inductive RT : W → List Nat → Prop where
  | step {k o t : List Nat} {a : Int} (hk : .str k ∈ kinds) (ho : .str o ∈ olds) (ht : .str t ∈ thens) (h1 : -3 ≤ a) (h2 : a ≤ 3) : RT (.tup [.str s_18_, .str k, .str o, .str t, .int a]) (txS k o t a)
  | join {x y t : List Nat} {a : Int} (hx : .str x ∈ olds) (hy : .str y ∈ olds) (ht : .str t ∈ thenJ) (h1 : -3 ≤ a) (h2 : a ≤ 3) : RT (.tup [.str s_8_, .str x, .str y, .str t, .int a]) (txJ x y t a)
  | part {o l r : List Nat} {a b : Int} (ho : .str o ∈ olds) (hl : .str l ∈ thens) (hr : .str r ∈ thens) (h1 : -3 ≤ a) (h2 : a ≤ 3) (h3 : -3 ≤ b) (h4 : b ≤ 3) : RT (.tup [.str s_17_, .str o, .str l, .str r, .int a, .int b]) (txP o l r a b)
theorem wS {k o t : List Nat} {a : Int} (ho : .str o ∈ olds) (ht : .str t ∈ thens) (h1 : -3 ≤ a) (h2 : a ≤ 3) : spl1 32 [] (txS k o t a) = spl1 32 [] k ++ [o, s_27_, t, s_28_, intL a] := by
  have e : txS k o t a = k ++ 32 :: (o ++ 32 :: (s_27_ ++ 32 :: (t ++ 32 :: (s_28_ ++ 32 :: intL a)))) := by simp [txS]
  rw [e, spl_app, spl_app, spl_app, spl_app, spl_app, sp_of (.inl ho), sp_of (.inr (.inl ht)), sp_int h1 h2]
  rfl
theorem wJ {x y t : List Nat} {a : Int} (hx : .str x ∈ olds) (hy : .str y ∈ olds) (ht : .str t ∈ thenJ) (h1 : -3 ≤ a) (h2 : a ≤ 3) : spl1 32 [] (txJ x y t a) = [s_8_, x, y, s_27_, t, s_28_, intL a] := by
  have e : txJ x y t a = s_8_ ++ 32 :: (x ++ 32 :: (y ++ 32 :: (s_27_ ++ 32 :: (t ++ 32 :: (s_28_ ++ 32 :: intL a))))) := by simp [txJ]
  rw [e, spl_app, spl_app, spl_app, spl_app, spl_app, spl_app, sp_of (.inl hx), sp_of (.inl hy), sp_of (.inr (.inr ht)), sp_int h1 h2]
  rfl
theorem wP {o l r : List Nat} {a b : Int} (ho : .str o ∈ olds) (hl : .str l ∈ thens) (hr : .str r ∈ thens) (h1 : -3 ≤ a) (h2 : a ≤ 3) (h3 : -3 ≤ b) (h4 : b ≤ 3) : spl1 32 [] (txP o l r a b) = [s_17_, o, s_27_, l, r, s_28_, intL a, intL b] := by
  have e : txP o l r a b = s_17_ ++ 32 :: (o ++ 32 :: (s_27_ ++ 32 :: (l ++ 32 :: (r ++ 32 :: (s_28_ ++ 32 :: (intL a ++ 32 :: intL b)))))) := by simp [txP]
  rw [e, spl_app, spl_app, spl_app, spl_app, spl_app, spl_app, spl_app, sp_of (.inl ho), sp_of (.inr (.inl hl)), sp_of (.inr (.inl hr)), sp_int h1 h2, sp_int h3 h4]
  rfl
theorem hd_app {a b : List (List Nat)} (h : a ≠ []) : (a ++ b).head? = a.head? := by
  cases a with
  | nil => exact absurd rfl h
  | cons x r => rfl
theorem rt_inj {r r' : W} {z z' : List Nat} (h : RT r z) (h' : RT r' z') (e : z = z') : r = r' := by
  have w := congrArg (spl1 32 []) e
  cases h with
  | step hk ho ht h1 h2 =>
    rw [wS ho ht h1 h2] at w
    have kh := kk_hd _ (kk_of hk)
    cases h' with
    | step hk' ho' ht' h1' h2' =>
      rw [wS ho' ht' h1' h2'] at w
      obtain ⟨e1, e2⟩ := List.append_inj' w rfl
      have ek := kk_inj _ (kk_of hk) _ (kk_of hk') e1
      simp only [List.cons.injEq, and_true, true_and] at e2
      obtain ⟨e3, e4, e5⟩ := e2
      rw [ek, e3, e4, int_inj h1 h2 h1' h2' e5]
    | join hx hy ht' h1' h2' =>
      rw [wJ hx hy ht' h1' h2'] at w
      have q := congrArg List.head? w
      rw [hd_app kh.2.2] at q
      exact absurd q kh.1
    | part ho' hl hr h1' h2' h3 h4 =>
      rw [wP ho' hl hr h1' h2' h3 h4] at w
      have q := congrArg List.head? w
      rw [hd_app kh.2.2] at q
      exact absurd q kh.2.1
  | join hx hy ht h1 h2 =>
    rw [wJ hx hy ht h1 h2] at w
    cases h' with
    | step hk' ho' ht' h1' h2' =>
      rw [wS ho' ht' h1' h2'] at w
      have kh := kk_hd _ (kk_of hk')
      have q := congrArg List.head? w
      rw [hd_app kh.2.2] at q
      exact absurd q.symm kh.1
    | join hx' hy' ht' h1' h2' =>
      rw [wJ hx' hy' ht' h1' h2'] at w
      simp only [List.cons.injEq, and_true, true_and] at w
      obtain ⟨e1, e2, e3, e4⟩ := w
      rw [e1, e2, e3, int_inj h1 h2 h1' h2' e4]
    | part ho' hl hr h1' h2' h3 h4 =>
      rw [wP ho' hl hr h1' h2' h3 h4] at w
      simp at w
  | part ho hl hr h1 h2 h3 h4 =>
    rw [wP ho hl hr h1 h2 h3 h4] at w
    cases h' with
    | step hk' ho' ht' h1' h2' =>
      rw [wS ho' ht' h1' h2'] at w
      have kh := kk_hd _ (kk_of hk')
      have q := congrArg List.head? w
      rw [hd_app kh.2.2] at q
      exact absurd q.symm kh.2.1
    | join hx' hy' ht' h1' h2' =>
      rw [wJ hx' hy' ht' h1' h2'] at w
      simp at w
    | part ho' hl' hr' h1' h2' h3' h4' =>
      rw [wP ho' hl' hr' h1' h2' h3' h4'] at w
      simp only [List.cons.injEq, and_true, true_and] at w
      obtain ⟨e1, e2, e3, e4, e5⟩ := w
      rw [e1, e2, e3, int_inj h1 h2 h1' h2' e4, int_inj h3 h4 h3' h4' e5]
theorem rt_fun {r : W} {z z' : List Nat} (h : RT r z) (h' : RT r z') : z = z' := by
  cases h <;> cases h' <;> rfl
theorem beq_iff {a b : List Nat} : beqL a b = true ↔ a = b := by rw [MW.beqL_eq]; exact decide_eq_true_iff
/-- == and != of two rows' objects -/
theorem eq_obj {row obj row' obj' : W} (h : RowObj row obj) (h' : RowObj row' obj') : ∃ b : Bool, (b = true ↔ row = row') ∧ (∀ S, opEqO sup eqtab obj obj' S = .ok (.bl b) S) ∧ ∀ S, opNeO sup eqtab obj obj' S = .ok (.bl (!b)) S := by
  have key : ∃ z z', RT row z ∧ RT row' z' ∧ (∀ S, opEqO sup eqtab obj obj' S = .ok (.bl (beqL z z')) S) ∧ ∀ S, opNeO sup eqtab obj obj' S = .ok (.bl (!beqL z z')) S := by
    cases h with
    | step a1 a2 a3 a4 a5 => cases h' with
      | step b1 b2 b3 b4 b5 => exact ⟨_, _, .step a1 a2 a3 a4 a5, .step b1 b2 b3 b4 b5, fun S => rfl, fun S => rfl⟩
      | join b1 b2 b3 b4 b5 => exact ⟨_, _, .step a1 a2 a3 a4 a5, .join b1 b2 b3 b4 b5, fun S => rfl, fun S => rfl⟩
      | part b1 b2 b3 b4 b5 b6 b7 => exact ⟨_, _, .step a1 a2 a3 a4 a5, .part b1 b2 b3 b4 b5 b6 b7, fun S => rfl, fun S => rfl⟩
    | join a1 a2 a3 a4 a5 => cases h' with
      | step b1 b2 b3 b4 b5 => exact ⟨_, _, .join a1 a2 a3 a4 a5, .step b1 b2 b3 b4 b5, fun S => rfl, fun S => rfl⟩
      | join b1 b2 b3 b4 b5 => exact ⟨_, _, .join a1 a2 a3 a4 a5, .join b1 b2 b3 b4 b5, fun S => rfl, fun S => rfl⟩
      | part b1 b2 b3 b4 b5 b6 b7 => exact ⟨_, _, .join a1 a2 a3 a4 a5, .part b1 b2 b3 b4 b5 b6 b7, fun S => rfl, fun S => rfl⟩
    | part a1 a2 a3 a4 a5 a6 a7 => cases h' with
      | step b1 b2 b3 b4 b5 => exact ⟨_, _, .part a1 a2 a3 a4 a5 a6 a7, .step b1 b2 b3 b4 b5, fun S => rfl, fun S => rfl⟩
      | join b1 b2 b3 b4 b5 => exact ⟨_, _, .part a1 a2 a3 a4 a5 a6 a7, .join b1 b2 b3 b4 b5, fun S => rfl, fun S => rfl⟩
      | part b1 b2 b3 b4 b5 b6 b7 => exact ⟨_, _, .part a1 a2 a3 a4 a5 a6 a7, .part b1 b2 b3 b4 b5 b6 b7, fun S => rfl, fun S => rfl⟩
  obtain ⟨z, z', r, r', k1, k2⟩ := key
  refine ⟨beqL z z', ?_, k1, k2⟩
  rw [beq_iff]
  refine ⟨rt_inj r r', fun e => ?_⟩
  subst e
  exact rt_fun r r'
/-! == of rows as drawn -/
def pl : W → Bool
  | .str _ => true
  | .int _ => true
  | _ => false
theorem eqW_pl {a b : W} (ha : pl a = true) (hb : pl b = true) : ∃ c : Bool, eqW a b = some c ∧ (c = true ↔ a = b) := by
  cases a with
  | str x => cases b with
    | str y => exact ⟨beqL x y, by simp [eqW], by rw [beq_iff]; simp⟩
    | int j => exact ⟨false, by simp [eqW], by simp⟩
    | _ => cases hb
  | int i => cases b with
    | str y => exact ⟨false, by simp [eqW], by simp⟩
    | int j => exact ⟨decide (i = j), by simp [eqW], by simp⟩
    | _ => cases hb
  | _ => cases ha
theorem eqWs_pl : ∀ {a b : List W}, (∀ x ∈ a, pl x = true) → (∀ x ∈ b, pl x = true) → ∃ c : Bool, eqWs a b = some c ∧ (c = true ↔ a = b)
  | [], [], _, _ => ⟨true, by simp [eqWs], by simp⟩
  | [], _ :: _, _, _ => ⟨false, by simp [eqWs], by simp⟩
  | _ :: _, [], _, _ => ⟨false, by simp [eqWs], by simp⟩
  | x :: r, y :: s, ha, hb => by
    obtain ⟨c, h1, h2⟩ := eqW_pl (ha x (List.mem_cons_self ..)) (hb y (List.mem_cons_self ..))
    obtain ⟨c', h3, h4⟩ := eqWs_pl (fun z hz => ha z (List.mem_cons_of_mem _ hz)) (fun z hz => hb z (List.mem_cons_of_mem _ hz))
    cases c with
    | true => exact ⟨c', by simp [eqWs, h1, h3], by rw [h4, List.cons.injEq, ← h2]; simp⟩
    | false => exact ⟨false, by simp [eqWs, h1], by rw [List.cons.injEq, ← h2]; simp⟩
theorem row_pl {r : W} (h : RowOk r) : ∃ xs, r = .tup xs ∧ ∀ x ∈ xs, pl x = true := by
  cases h with
  | step hk ho ht h1 h2 =>
    obtain ⟨zk, rfl⟩ := str_kind hk
    obtain ⟨zo, rfl⟩ := str_old ho
    obtain ⟨zt, rfl⟩ := str_then ht
    exact ⟨_, rfl, by simp [pl]⟩
  | join hx hy ht h1 h2 =>
    obtain ⟨zx, rfl⟩ := str_old hx
    obtain ⟨zy, rfl⟩ := str_old hy
    obtain ⟨zt, rfl⟩ := str_thenJ ht
    exact ⟨_, rfl, by simp [pl]⟩
  | part ho hl hr h1 h2 h3 h4 =>
    obtain ⟨zo, rfl⟩ := str_old ho
    obtain ⟨zl, rfl⟩ := str_then hl
    obtain ⟨zr, rfl⟩ := str_then hr
    exact ⟨_, rfl, by simp [pl]⟩
theorem dles_pl {n : Nat} : ∀ {xs : List W}, (∀ x ∈ xs, pl x = true) → dles n xs = true
  | [], _ => by simp [dles]
  | x :: r, h => by
    have h1 := h x (List.mem_cons_self ..)
    have h2 := dles_pl (n := n) (xs := r) fun z hz => h z (List.mem_cons_of_mem _ hz)
    cases x <;> first | (simp [dles, dle, h2]; done) | cases h1
theorem eq_row {r r' : W} (h : RowOk r) (h' : RowOk r') : ∃ b : Bool, (b = true ↔ r = r') ∧ ∀ S, opEqO sup eqtab r r' S = .ok (.bl b) S := by
  obtain ⟨xs, rfl, hx⟩ := row_pl h
  obtain ⟨ys, rfl, hy⟩ := row_pl h'
  obtain ⟨c, h1, h2⟩ := eqWs_pl hx hy
  refine ⟨c, by rw [h2]; simp, fun S => ?_⟩
  show opEq (.tup xs) (.tup ys) S = _
  have d1 : dle 30 (.tup xs) = true := by simp [dle, dles_pl hx]
  have d2 : dle 30 (.tup ys) = true := by simp [dle, dles_pl hy]
  have e : eqW (.tup xs) (.tup ys) = some c := by simp [eqW, h1]
  simp [opEq, rd, eqD, d1, d2, e, bW]
theorem sameWs_pl : ∀ {xs : List W}, (∀ x ∈ xs, pl x = true) → sameWs xs xs = true
  | [], _ => by simp [sameWs]
  | x :: r, h => by
    have h1 := h x (List.mem_cons_self ..)
    have h2 := sameWs_pl (xs := r) fun z hz => h z (List.mem_cons_of_mem _ hz)
    have h3 : sameW x x = true := by
      cases x with
      | str z => simp [sameW]; exact beq_iff.mpr rfl
      | int i => simp [sameW]
      | _ => cases h1
    simp [sameWs, h3, h2]
theorem same_row {r : W} (h : RowOk r) : sameW r r = true := by
  obtain ⟨xs, rfl, hx⟩ := row_pl h
  simp [sameW, sameWs_pl hx]
theorem same_rows : ∀ {rs : List W}, (∀ r ∈ rs, RowOk r) → sameWs rs rs = true
  | [], _ => by simp [sameWs]
  | r :: rs, h => by simp [sameWs, same_row (h r (List.mem_cons_self ..)), same_rows fun z hz => h z (List.mem_cons_of_mem _ hz)]
end G
set_option linter.all false
set_option maxRecDepth 100000
set_option maxHeartbeats 4000000
/-! Q6_k02: what is asked of a row, of two rows. -/
namespace G
open Mir MW ML
def C1 : MT := (Mir.tOr (Mir.tNot (Mir.tB (eIsi sup [(.own 0)] (eVar 8)))) (Mir.tOr (Mir.tB (eRp false (eCall m_law_attributes (aCons (eVar 8) aNil)) (eVar 7))) (Mir.tB (eBin (opNeO sup eqtab) (eCall (fStrO strtab) (aCons (eVar 8) aNil)) (eCall m_law_row_text (aCons (eVar 7) aNil))))))
def C2 : MT := (Mir.tB (eBin (opNeO sup eqtab) (eMtL (m1 mCountD) (eLst (aCons (eIsi sup [(.own 1)] (eVar 8)) (aCons (eIsi sup [(.own 2)] (eVar 8)) (aCons (eIsi sup [(.own 3)] (eVar 8)) aNil)))) (aCons (eC (.bl true)) aNil)) (eC (.int 1))))
def C3 : MT := (Mir.tOr (Mir.tB (eBin (opEqO sup eqtab) (eVar 8) (eCall (fStrO strtab) (aCons (eVar 8) aNil)))) (Mir.tOr (Mir.tB (eBin (opEqO sup eqtab) (eVar 8) (eVar 7))) (Mir.tB (eBin (opNeO sup eqtab) (eVar 8) (eCall m_law_row_of (aCons (eVar 7) aNil))))))
def L1 : MS := sSeq (sIf C1 (sRet (eC (.bl false))) sNext) (sSeq (sIf C2 (sRet (eC (.bl false))) sNext) (sIf C3 (sRet (eC (.bl false))) sNext))
def L2 : MS := (sSeq (sAsg (.nm 11) (eBin (opEqO sup eqtab) (eBin opIdx (eVar 4) (eVar 9)) (eBin opIdx (eVar 4) (eVar 10)))) (sIf (Mir.tOr (Mir.tB (eBin (opNeO sup eqtab) (eBin (opEqO sup eqtab) (eBin opIdx (eVar 6) (eVar 9)) (eBin opIdx (eVar 6) (eVar 10))) (eVar 11))) (Mir.tB (eBin (opEqO sup eqtab) (eBin (opNeO sup eqtab) (eBin opIdx (eVar 6) (eVar 9)) (eBin opIdx (eVar 6) (eVar 10))) (eVar 11)))) (sRet (eC (.bl false))) sNext))
theorem it_fun {r : W} {z z' : List Nat} (h : IsText r z) (h' : IsText r z') : z = z' := by cases h <;> cases h' <;> rfl
def okw (w : W) : Bool := match w with
  | .str z => okS z
  | _ => false
theorem okS_of {z : List Nat} (h : W.str z ∈ olds ∨ W.str z ∈ thens ∨ W.str z ∈ thenJ ∨ W.str z ∈ kinds) : okS z = true := by
  have a1 : ∀ w ∈ olds, okw w = true := by decide
  have a2 : ∀ w ∈ thens, okw w = true := by decide
  have a3 : ∀ w ∈ thenJ, okw w = true := by decide
  have a4 : ∀ w ∈ kinds, okw w = true := by decide
  rcases h with h | h | h | h
  · exact a1 _ h
  · exact a2 _ h
  · exact a3 _ h
  · exact a4 _ h
theorem okS8 : okS s_8_ = true := by decide
theorem okS17 : okS s_17_ = true := by decide
theorem okS18 : okS s_18_ = true := by decide
theorem rp_row {r : W} (h : RowOk r) : rpOk r = true := by
  obtain ⟨xs, rfl, hpl⟩ := row_pl h
  have d1 : dle 30 (.tup xs) = true := by simp [dle, dles_pl hpl]
  have key : shWs xs = true ∧ szWs xs + 3 ≤ LIM := by
    generalize e : W.tup xs = r at h
    cases h with
    | step hk ho ht h1 h2 =>
      cases e
      obtain ⟨zk, rfl⟩ := str_kind hk
      obtain ⟨zo, rfl⟩ := str_old ho
      obtain ⟨zt, rfl⟩ := str_then ht
      have lk := wl_of (.inr (.inr (.inr hk)))
      have lo := wl_of (.inl ho)
      have lt := wl_of (.inr (.inl ht))
      refine ⟨?_, ?_⟩
      · simp [shWs, shW, okS18, okS_of (.inr (.inr (.inr hk))), okS_of (.inl ho), okS_of (.inr (.inl ht))]; omega
      · simp [szWs, szW, LIM]; omega
    | join hx hy ht h1 h2 =>
      cases e
      obtain ⟨zx, rfl⟩ := str_old hx
      obtain ⟨zy, rfl⟩ := str_old hy
      obtain ⟨zt, rfl⟩ := str_thenJ ht
      have lx := wl_of (.inl hx)
      have ly := wl_of (.inl hy)
      have lt := wl_of (.inr (.inr (.inl ht)))
      refine ⟨?_, ?_⟩
      · simp [shWs, shW, okS8, okS_of (.inl hx), okS_of (.inl hy), okS_of (.inr (.inr (.inl ht)))]; omega
      · simp [szWs, szW, LIM]; omega
    | part ho hl hr h1 h2 h3 h4 =>
      cases e
      obtain ⟨zo, rfl⟩ := str_old ho
      obtain ⟨zl, rfl⟩ := str_then hl
      obtain ⟨zr, rfl⟩ := str_then hr
      have lo := wl_of (.inl ho)
      have ll := wl_of (.inr (.inl hl))
      have lr := wl_of (.inr (.inl hr))
      refine ⟨?_, ?_⟩
      · simp [shWs, shW, okS17, okS_of (.inl ho), okS_of (.inr (.inl hl)), okS_of (.inr (.inl hr))]; omega
      · simp [szWs, szW, LIM]; omega
  have s1 : shW (.tup xs) = true := by simp [shW, key.1]
  have s2 : Nat.ble (szW (.tup xs)) LIM = true := Nat.ble_eq_true_of_le (by simp [szW]; exact key.2)
  simp [rpOk, d1, s1, s2]
theorem ne_str {z : List Nat} {S : Store} : opNeO sup eqtab (.str z) (.str z) S = .ok (.bl false) S := by
  show opNe (.str z) (.str z) S = _
  have e : beqL z z = true := beq_iff.mpr rfl
  simp [opNe, rd, eqD, dle, eqW, e, bW]
theorem rows_rd {r : W} (h : RowOk r) (S : Store) : rd S r = r := by
  obtain ⟨xs, rfl, _⟩ := row_pl h
  rfl
section
variable {d : DEnv} {row obj : W}
theorem c1_run (h7 : getS d 7 = some row) (h8 : getS d 8 = some obj) (hr : RowOk row) (ho : RowObj row obj) (S : Store) : C1 d S = .ok false S := by
  obtain ⟨z, hz, hstr⟩ := str_tr ho
  have e7 : ∀ S, eVar 7 d S = .ok row S := fun S => by unfold eVar; rw [h7]
  have e8 : ∀ S, eVar 8 d S = .ok obj S := fun S => by unfold eVar; rw [h8]
  have i0 : ∀ S, anyTy sup S obj [.own 0] = some true := fun S => by cases ho <;> rfl
  have tx : m_law_row_text [row] S = .ok (.str z) S := by
    obtain ⟨v, S', e, rfl, z', hz', rfl⟩ := (row_text_tr (S := S) hr).out
    rw [e, it_fun hz hz']
  simp [C1, Mir.tOr, Mir.tNot, Mir.tB, eBin, eIsi, eRp, eCall, aCons, aNil, e7, e8, i0, bW, Out.bind, attr_tr ho, rows_rd hr, rp_row hr, same_row hr, hstr, tx, ne_str]
theorem c2_run (h8 : getS d 8 = some obj) (ho : RowObj row obj) (S : Store) : C2 d S = .ok false S := by
  have e8 : ∀ S, eVar 8 d S = .ok obj S := fun S => by unfold eVar; rw [h8]
  cases ho <;> simp [C2, Mir.tB, eBin, eMtL, eIsi, eLst, eC, aCons, aNil, e8, anyTy, tyIs, tyOwn, sup, bW, Out.bind, Mir.isL, m1, mCountD, rd, dles, dle, cntW, eqW, opNeO, clsOf, opNe, eqD, LIM]
theorem c3_run (w : Wf S) (h7 : getS d 7 = some row) (h8 : getS d 8 = some obj) (hr : RowOk row) (ho : RowObj row obj) : ∃ S', C3 d S = .ok false S' ∧ More S S' := by
  obtain ⟨z, hz, hstr⟩ := str_tr ho
  have e7 : ∀ S, eVar 7 d S = .ok row S := fun S => by unfold eVar; rw [h7]
  have e8 : ∀ S, eVar 8 d S = .ok obj S := fun S => by unfold eVar; rw [h8]
  have q1 : ∀ S, opEqO sup eqtab obj (.str z) S = .ok (.bl false) S := fun S => by cases ho <;> rfl
  have q2 : ∀ S, opEqO sup eqtab obj row S = .ok (.bl false) S := fun S => by
    obtain ⟨xs, rfl, _⟩ := row_pl hr
    cases ho <;> rfl
  obtain ⟨o2, S2, e2, ho2, m2⟩ := (row_of_tr w hr).out
  obtain ⟨b, hb, _, q3⟩ := eq_obj ho ho2
  have hb' : b = true := hb.mpr rfl
  refine ⟨S2, ?_, m2⟩
  simp [C3, Mir.tOr, Mir.tB, eBin, eCall, aCons, aNil, e7, e8, Out.bind, hstr, q1, q2, e2, q3, hb']
theorem l1_run (w : Wf S) (h7 : getS d 7 = some row) (h8 : getS d 8 = some obj) (hr : RowOk row) (ho : RowObj row obj) : ∃ S', L1 d S = .ok (.nx d) S' ∧ More S S' := by
  obtain ⟨S2, e, m⟩ := c3_run w h7 h8 hr ho
  exact ⟨S2, by simp [L1, sSeq, sIf, sNext, c1_run h7 h8 hr ho, c2_run h8 ho, e, Out.bind], m⟩
end
theorem at_get {xs : List W} {i : Nat} {x : W} (h : xs[i]? = some x) : atI xs (i : Int) = some x := by
  have hl : i < xs.length := (List.getElem?_eq_some_iff.mp h).1
  unfold atI ixN
  rw [if_pos (by omega), if_pos (by omega)]
  simp [h]
theorem l2_run {d : DEnv} {q i j : Nat} {rs os : List W} {r r' o o' : W} {S : Store} (h4 : getS d 4 = some (.ref q)) (h6 : getS d 6 = some (.lst os)) (h9 : getS d 9 = some (.int i)) (h10 : getS d 10 = some (.int j)) (hl : d.length = 12)
    (hq : S.get q = some (.lst rs)) (e1 : rs[i]? = some r) (e2 : rs[j]? = some r') (e3 : os[i]? = some o) (e4 : os[j]? = some o') (k1 : RowOk r) (k2 : RowOk r') (k3 : RowObj r o) (k4 : RowObj r' o') : ∃ b, L2 d S = .ok (.nx (setS d 11 (some (.bl b)))) S := by
  obtain ⟨b, hb, q1⟩ := eq_row k1 k2
  obtain ⟨b', hb', q2, q3⟩ := eq_obj k3 k4
  have eb : b' = b := by
    cases b <;> cases b' <;> simp_all
  subst eb
  refine ⟨b', ?_⟩
  have v4 : ∀ S, eVar 4 d S = .ok (.ref q) S := fun S => by unfold eVar; rw [h4]
  have v6 : ∀ S, eVar 6 d S = .ok (.lst os) S := fun S => by unfold eVar; rw [h6]
  have v9 : ∀ S, eVar 9 d S = .ok (.int i) S := fun S => by unfold eVar; rw [h9]
  have v10 : ∀ S, eVar 10 d S = .ok (.int j) S := fun S => by unfold eVar; rw [h10]
  have u4 : ∀ b S, eVar 4 (setS d 11 (some (.bl b))) S = .ok (.ref q) S := fun b S => by unfold eVar; rw [getS_setS_ne (by decide), h4]
  have u6 : ∀ b S, eVar 6 (setS d 11 (some (.bl b))) S = .ok (.lst os) S := fun b S => by unfold eVar; rw [getS_setS_ne (by decide), h6]
  have u9 : ∀ b S, eVar 9 (setS d 11 (some (.bl b))) S = .ok (.int i) S := fun b S => by unfold eVar; rw [getS_setS_ne (by decide), h9]
  have u10 : ∀ b S, eVar 10 (setS d 11 (some (.bl b))) S = .ok (.int j) S := fun b S => by unfold eVar; rw [getS_setS_ne (by decide), h10]
  have u11 : ∀ b S, eVar 11 (setS d 11 (some (.bl b))) S = .ok (.bl b) S := fun b S => by
    match d, hl with
    | [_, _, _, _, _, _, _, _, _, _, _, _], _ => rfl
  have x1 : opIdx (.ref q) (.int i) S = .ok r S := by simp [opIdx, seqOf, hq, at_get e1, oks]
  have x2 : opIdx (.ref q) (.int j) S = .ok r' S := by simp [opIdx, seqOf, hq, at_get e2, oks]
  have x3 : opIdx (.lst os) (.int i) S = .ok o S := by simp [opIdx, seqOf, at_get e3, oks]
  have x4 : opIdx (.lst os) (.int j) S = .ok o' S := by simp [opIdx, seqOf, at_get e4, oks]
  have y1 : opNeO sup eqtab (.bl b') (.bl b') S = .ok (.bl false) S := by
    show opNe (.bl b') (.bl b') S = _
    simp [opNe, rd, eqD, dle, eqW, bW]
  have y2 : opEqO sup eqtab (.bl (!b')) (.bl b') S = .ok (.bl false) S := by
    show opEq (.bl (!b')) (.bl b') S = _
    cases b' <;> simp [opEq, rd, eqD, dle, eqW, bW]
  simp [L2, sSeq, sAsg, stTg, sIf, sNext, Mir.tOr, Mir.tB, eBin, v4, v6, v9, v10, u4, u6, u9, u10, u11, x1, x2, x3, x4, q1, q2, q3, y1, y2, Out.bind]
end G
set_option linter.all false
set_option maxRecDepth 100000
set_option maxHeartbeats 4000000
/-! Q7_k02: a turn, the law. -/
namespace G
open Mir MW ML
def P0 : MS := (sAsg (.nm 3) (eCall m_law_names (aCons (eVar 1) (aCons (eC (.int 3)) aNil))))
def P1 : MS := (sAsg (.nm 4) (eLcM [5] (iRange1 (eC (.int 4))) (.nm 5) Mir.tYes (eCall m_law_any_row (aCons (eVar 1) (aCons (eVar 3) aNil)))))
def P2 : MS := (sExpr (eMtL (m1 mAppend) (eVar 4) (aCons (eCall m_law_bent (aCons (eVar 1) (aCons (eBin opIdx (eVar 4) (eC (.int 0))) (aCons (eVar 3) aNil)))) aNil)))
def P3 : MS := (sAsg (.nm 6) (eLc [7] (iSeq (eVar 4)) (.nm 7) Mir.tYes (eCall m_law_row_of (aCons (eVar 7) aNil))))
def P4 : MS := sFor (iZipL (eVar 4) (eVar 6)) (.tp [(.nm 7), (.nm 8)]) L1
def P5 : MS := sFor (iRange1 (eCall fLen (aCons (eVar 4) aNil))) (.nm 9) (sFor (iRange1 (eCall fLen (aCons (eVar 4) aNil))) (.nm 10) L2)
def TB : MS := sSeq P0 (sSeq P1 (sSeq P2 (sSeq P3 (sSeq P4 P5))))
def FN : MS := (sRet (eBin (opNeO sup eqtab) (eCall (mkF 3 m_Part_init) (aCons (eC (.str s_13_)) (aCons (eC (.str s_16_)) (aCons (eC (.str s_16_)) (aCons (eC (.int 0)) (aCons (eC (.int 0)) aNil)))))) (eCall (mkF 2 m_Join_init) (aCons (eC (.str s_13_)) (aCons (eC (.str s_13_)) (aCons (eC (.str s_14_)) (aCons (eC (.int 0)) aNil)))))))
theorem law_eq : m_law = fnOf 1 12 (sSeq (sAsg (.nm 1) (eCall m_law_deal (aCons (eVar 0) (aCons (eC (.int 0)) aNil)))) (sSeq (sFor (iRange1 (eC (.int 8))) (.nm 2) TB) FN)) := rfl
section
variable {n k : Nat} {S : Store}
theorem Deal.more {S' : Store} (h : Deal n k S) (m : More S S') : Deal n k S' := by
  obtain ⟨xs, c, h1, h2, h3⟩ := h.ex
  exact ⟨h.ne, m.wf, xs, c, (m.kp n (h.wf _ _ h1)).trans h1, (m.kp k (h.wf _ _ h2)).trans h2, h3⟩
theorem more_new (w : Wf S) (o : SO) : More S (S.new o) := ⟨wf_new w, Nat.le_succ _, fun m hm => get_new_ne (Nat.ne_of_lt hm)⟩
theorem Deal.put {q : Nat} {o u : SO} (h : Deal n k S) (hq : S.get q = some o) (h1 : q ≠ n) (h2 : q ≠ k) : Deal n k (S.put q u) := by
  obtain ⟨xs, c, e1, e2, e3⟩ := h.ex
  exact ⟨h.ne, wf_put hq h.wf, xs, c, (get_put_ne (Ne.symm h1)).trans e1, (get_put_ne (Ne.symm h2)).trans e2, e3⟩
theorem Deal.ltn (h : Deal n k S) : n < S.next ∧ k < S.next := by
  obtain ⟨xs, c, e1, e2, e3⟩ := h.ex
  exact ⟨h.wf _ _ e1, h.wf _ _ e2⟩
/-- rows and their objects, one by one -/
inductive Both : List W → List W → Prop where
  | nil : Both [] []
  | cons {r o : W} {rs os : List W} (h1 : RowOk r) (h2 : RowObj r o) (q : Both rs os) : Both (r :: rs) (o :: os)
theorem Both.get {rs os : List W} (h : Both rs os) : ∀ {i : Nat}, i < rs.length → ∃ r o, rs[i]? = some r ∧ os[i]? = some o ∧ RowOk r ∧ RowObj r o := by
  induction h with
  | nil => intro i hi; exact absurd hi (Nat.not_lt_zero _)
  | cons h1 h2 _ ih =>
    intro i hi
    cases i with
    | zero => exact ⟨_, _, rfl, rfl, h1, h2⟩
    | succ i => exact ih (Nat.lt_of_succ_lt_succ hi)
theorem Both.app {rs os : List W} (h : Both rs os) {r o : W} (h1 : RowOk r) (h2 : RowObj r o) : Both (rs ++ [r]) (os ++ [o]) := by
  induction h with
  | nil => exact .cons h1 h2 .nil
  | cons a b _ ih => exact .cons a b ih
theorem Both.ok {rs os : List W} (h : Both rs os) : ∀ r ∈ rs, RowOk r := by
  induction h with
  | nil => intro r hr; cases hr
  | cons h1 h2 _ ih =>
    intro r hr
    rcases List.mem_cons.mp hr with rfl | hr
    · exact h1
    · exact ih r hr
theorem still_q {q : Nat} {rs : List W} (hq : S.get q = some (.lst rs)) (hr : ∀ r ∈ rs, RowOk r) : still S [(q, rs)] = true := by
  simp [still, hq, same_rows hr]
/-- the zip's loop -/
theorem zip_run {q : Nat} {rs0 : List W} {a0 a1 a2 a3 a4 a5 a6 a9 a10 a11 : Option W} (hr0 : ∀ r ∈ rs0, RowOk r) : ∀ {rs os : List W}, Both rs os → ∀ {S : Store} {a7 a8 : Option W}, Wf S → S.get q = some (.lst rs0) →
    ∃ b7 b8 S', forGo [(q, rs0)] (.tp [(.nm 7), (.nm 8)]) L1 (zipL rs os) [a0, a1, a2, a3, a4, a5, a6, a7, a8, a9, a10, a11] S = .ok (.nx [a0, a1, a2, a3, a4, a5, a6, b7, b8, a9, a10, a11]) S' ∧ More S S' := by
  intro rs os h
  induction h with
  | nil =>
    intro S a7 a8 w hq
    refine ⟨a7, a8, S, ?_, More.refl w⟩
    show (if still S [(q, rs0)] then _ else _) = _
    rw [still_q hq hr0]
    rfl
  | @cons r o rs os h1 h2 _ ih =>
    intro S a7 a8 w hq
    obtain ⟨S1, e1, m1⟩ := l1_run (d := [a0, a1, a2, a3, a4, a5, a6, some r, some o, a9, a10, a11]) w rfl rfl h1 h2
    obtain ⟨b7, b8, S2, e2, m2⟩ := ih (a7 := some r) (a8 := some o) m1.wf ((m1.kp q (w _ _ hq)).trans hq)
    refine ⟨b7, b8, S2, ?_, m1.trans m2⟩
    show (if still S [(q, rs0)] then ((L1 [a0, a1, a2, a3, a4, a5, a6, some r, some o, a9, a10, a11] S).bind _) else _) = _
    rw [still_q hq hr0, e1]
    exact e2
/-- two rows -/
theorem in_run {q i : Nat} {rs os : List W} (hb : Both rs os) (hi : i < rs.length) {a0 a1 a2 a3 a5 a7 a8 : Option W} (hq : S.get q = some (.lst rs)) : ∀ (js : List Nat), (∀ j ∈ js, j < rs.length) → ∀ {a10 a11 : Option W},
    ∃ b10 b11, forGo [] (.nm 10) L2 (js.map fun j : Nat => W.int (j : Int)) [a0, a1, a2, a3, some (.ref q), a5, some (.lst os), a7, a8, some (.int i), a10, a11] S = .ok (.nx [a0, a1, a2, a3, some (.ref q), a5, some (.lst os), a7, a8, some (.int i), b10, b11]) S
  | [], _, a10, a11 => ⟨a10, a11, rfl⟩
  | j :: js, hj, a10, a11 => by
    obtain ⟨r, o, e1, e3, k1, k3⟩ := hb.get hi
    obtain ⟨r', o', e2, e4, k2, k4⟩ := hb.get (hj j (List.mem_cons_self ..))
    obtain ⟨b, e⟩ := l2_run (d := [a0, a1, a2, a3, some (.ref q), a5, some (.lst os), a7, a8, some (.int i), some (.int j), a11]) rfl rfl rfl rfl rfl hq e1 e2 e3 e4 k1 k2 k3 k4
    obtain ⟨b10, b11, e'⟩ := in_run hb hi hq js (fun x hx => hj x (List.mem_cons_of_mem _ hx)) (a10 := some (.int j)) (a11 := some (.bl b))
    refine ⟨b10, b11, ?_⟩
    show ((L2 [a0, a1, a2, a3, some (.ref q), a5, some (.lst os), a7, a8, some (.int i), some (.int j), a11] S).bind _) = _
    rw [e]
    exact e'
theorem range5 : rangeL 0 5 = ([0, 1, 2, 3, 4] : List Nat).map fun j : Nat => W.int (j : Int) := rfl
theorem out_run {q : Nat} {rs os : List W} (hb : Both rs os) (h5 : rs.length = 5) {a0 a1 a2 a3 a5 a7 a8 : Option W} (hq : S.get q = some (.lst rs)) : ∀ (is : List Nat), (∀ j ∈ is, j < rs.length) → ∀ {a9 a10 a11 : Option W},
    ∃ b9 b10 b11, forGo [] (.nm 9) (sFor (iRange1 (eCall fLen (aCons (eVar 4) aNil))) (.nm 10) L2) (is.map fun j : Nat => W.int (j : Int)) [a0, a1, a2, a3, some (.ref q), a5, some (.lst os), a7, a8, a9, a10, a11] S = .ok (.nx [a0, a1, a2, a3, some (.ref q), a5, some (.lst os), a7, a8, b9, b10, b11]) S
  | [], _, a9, a10, a11 => ⟨a9, a10, a11, rfl⟩
  | i :: is, hi, a9, a10, a11 => by
    obtain ⟨b10, b11, e⟩ := in_run (S := S) hb (hi i (List.mem_cons_self ..)) hq [0, 1, 2, 3, 4] (by simp [h5]) (a0 := a0) (a1 := a1) (a2 := a2) (a3 := a3) (a5 := a5) (a7 := a7) (a8 := a8) (a10 := a10) (a11 := a11)
    obtain ⟨c9, c10, c11, e'⟩ := out_run hb h5 hq is (fun x hx => hi x (List.mem_cons_of_mem _ hx)) (a0 := a0) (a1 := a1) (a2 := a2) (a3 := a3) (a5 := a5) (a7 := a7) (a8 := a8) (a9 := some (.int i)) (a10 := b10) (a11 := b11)
    refine ⟨c9, c10, c11, ?_⟩
    have hn : iRange1 (eCall fLen (aCons (eVar 4) aNil)) [a0, a1, a2, a3, some (.ref q), a5, some (.lst os), a7, a8, some (.int i), a10, a11] S = .ok (rangeL 0 5, []) S := by
      simp [iRange1, eCall, aCons, aNil, eVar, getS, fLen, seqOf, hq, Out.bind, h5, inMil]
    show (((iRange1 (eCall fLen (aCons (eVar 4) aNil)) [a0, a1, a2, a3, some (.ref q), a5, some (.lst os), a7, a8, some (.int i), a10, a11] S).bind fun p S1 => forGo p.2 (.nm 10) L2 p.1 [a0, a1, a2, a3, some (.ref q), a5, some (.lst os), a7, a8, some (.int i), a10, a11] S1).bind _) = _
    rw [hn]
    show ((forGo [] (.nm 10) L2 (rangeL 0 5) [a0, a1, a2, a3, some (.ref q), a5, some (.lst os), a7, a8, some (.int i), a10, a11] S).bind _) = _
    rw [range5, e]
    exact e'
theorem p4_run {q : Nat} {rs os : List W} (hb : Both rs os) (w : Wf S) (hq : S.get q = some (.lst rs)) {a0 a1 a2 a3 a5 a7 a8 a9 a10 a11 : Option W} :
    ∃ b7 b8 S', P4 [a0, a1, a2, a3, some (.ref q), a5, some (.lst os), a7, a8, a9, a10, a11] S = .ok (.nx [a0, a1, a2, a3, some (.ref q), a5, some (.lst os), b7, b8, a9, a10, a11]) S' ∧ More S S' := by
  obtain ⟨b7, b8, S', e, m⟩ := zip_run (a0 := a0) (a1 := a1) (a2 := a2) (a3 := a3) (a4 := some (.ref q)) (a5 := a5) (a6 := some (.lst os)) (a9 := a9) (a10 := a10) (a11 := a11) hb.ok hb (a7 := a7) (a8 := a8) w hq
  refine ⟨b7, b8, S', ?_, m⟩
  have hz : iZipL (eVar 4) (eVar 6) [a0, a1, a2, a3, some (.ref q), a5, some (.lst os), a7, a8, a9, a10, a11] S = .ok (zipL rs os, [(q, rs)]) S := by
    simp [iZipL, eVar, getS, Out.bind, MW.isL, itOf, hq]
  show ((iZipL (eVar 4) (eVar 6) [a0, a1, a2, a3, some (.ref q), a5, some (.lst os), a7, a8, a9, a10, a11] S).bind _) = _
  rw [hz]
  exact e
theorem p5_run {q : Nat} {rs os : List W} (hb : Both rs os) (h5 : rs.length = 5) (hq : S.get q = some (.lst rs)) {a0 a1 a2 a3 a5 a7 a8 a9 a10 a11 : Option W} :
    ∃ b9 b10 b11, P5 [a0, a1, a2, a3, some (.ref q), a5, some (.lst os), a7, a8, a9, a10, a11] S = .ok (.nx [a0, a1, a2, a3, some (.ref q), a5, some (.lst os), a7, a8, b9, b10, b11]) S := by
  obtain ⟨b9, b10, b11, e⟩ := out_run (S := S) hb h5 hq [0, 1, 2, 3, 4] (by simp [h5]) (a0 := a0) (a1 := a1) (a2 := a2) (a3 := a3) (a5 := a5) (a7 := a7) (a8 := a8) (a9 := a9) (a10 := a10) (a11 := a11)
  refine ⟨b9, b10, b11, ?_⟩
  have hn : iRange1 (eCall fLen (aCons (eVar 4) aNil)) [a0, a1, a2, a3, some (.ref q), a5, some (.lst os), a7, a8, a9, a10, a11] S = .ok (rangeL 0 5, []) S := by
    simp [iRange1, eCall, aCons, aNil, eVar, getS, fLen, seqOf, hq, Out.bind, h5, inMil]
  show ((iRange1 (eCall fLen (aCons (eVar 4) aNil)) [a0, a1, a2, a3, some (.ref q), a5, some (.lst os), a7, a8, a9, a10, a11] S).bind _) = _
  rw [hn]
  show forGo [] (.nm 9) _ (rangeL 0 5) _ S = _
  rw [range5]
  exact e
end
end G
set_option linter.all false
set_option maxRecDepth 100000
set_option maxHeartbeats 4000000
/-! Q8_k02: a turn, the law. -/
namespace G
open Mir MW ML
section
variable {n k : Nat} {S : Store}
theorem tb_tr (h : Deal n k S) (a0 a2 a3 a4 a5 a6 a7 a8 a9 a10 a11 : Option W) : Tr (TB [a0, some (.ref n), a2, a3, a4, a5, a6, a7, a8, a9, a10, a11] S) fun f S' =>
    (∃ b2 b3 b4 b5 b6 b7 b8 b9 b10 b11, f = .nx [a0, some (.ref n), b2, b3, b4, b5, b6, b7, b8, b9, b10, b11]) ∧ Deal n k S' := by
  unfold TB
  refine tr_seq ?_
  refine tr_asg (tr_call (tr_cons (tr_var rfl (tr_cons (tr_c (tr_nil ?_))))))
  refine (names_tr h).imp ?_
  rintro _ S1 ⟨ms, rfl, hm, h1, kp1⟩
  show Tr (sSeq P1 _ [a0, some (.ref n), a2, some (.lst ms), a4, a5, a6, a7, a8, a9, a10, a11] S1) _
  refine tr_seq ?_
  refine tr_asg (tr_lcM (tr_lcL (tr_eq (a := ([.int 0, .int (0 + 1), .int (0 + 1 + 1), .int (0 + 1 + 1 + 1)], [])) rfl ⟨by decide, ?_⟩)))
  refine Tr.imp (lc_tr (Q := fun acc S => acc.length = 4 ∧ (∀ r ∈ acc, RowOk r) ∧ Left n k S1 S) (fun rest acc S => acc.length + rest.length = 4 ∧ (∀ r ∈ acc, RowOk r) ∧ Left n k S1 S) ?_ ?_ _ [] S1 ⟨rfl, ⟨fun r hr => absurd hr (by simp), ⟨h1, rfl, fun _ _ _ => rfl⟩⟩⟩) ?_
  · rintro x r acc S2 ⟨e1, e2, e3⟩
    refine ⟨rfl, _, rfl, tr_tYes (tr_it ?_)⟩
    refine tr_call (tr_cons (tr_var rfl (tr_cons (tr_var rfl (tr_nil ?_)))))
    refine (any_row_tr e3.deal hm).imp ?_
    rintro v S3 ⟨hv, L⟩
    refine ⟨by rw [List.length_append, List.length_cons] at *; simp at *; omega, fun r hr => ?_, e3.trans L⟩
    rcases List.mem_append.mp hr with hr | hr
    · exact e2 r hr
    · rw [List.mem_singleton.mp hr]; exact hv
  · rintro acc S2 ⟨e1, e2, e3⟩
    exact ⟨rfl, by simpa using e1, e2, e3⟩
  rintro ys S2 ⟨hl, hys, L2⟩
  rw [List.nil_append] at hl hys
  have hD2 := L2.deal
  show Tr (sSeq P2 _ [a0, some (.ref n), a2, some (.lst ms), some (.ref S2.next), a5, a6, a7, a8, a9, a10, a11] (S2.new (.lst ys))) _
  generalize hq : S2.next = q
  have hD3 : Deal n k (S2.new (.lst ys)) := Deal.more hD2 (more_new hD2.wf _)
  have hqn : q ≠ n ∧ q ≠ k := by
    have := Deal.ltn hD2
    omega
  have hq3 : (S2.new (.lst ys)).get q = some (.lst ys) := by rw [← hq]; exact get_new
  generalize S2.new (.lst ys) = S3 at hD3 hq3
  match ys, hl, hys with
  | [r0, r1, r2, r3], _, hys =>
    refine tr_seq ?_
    refine tr_expr (tr_mtL (tr_var rfl ⟨by simp [Mir.isL, hq3], ?_⟩))
    refine tr_cons (tr_call (tr_cons (tr_var rfl (tr_cons (tr_bin (tr_var rfl (tr_c (tr_eq (a := r0) (S' := S3) (by simp [opIdx, seqOf, hq3, atI, ixN, oks]) (tr_cons (tr_var rfl (tr_nil ?_)))))))))))
    refine (bent_tr hD3 hm (hys r0 (by simp))).imp ?_
    rintro b S4 ⟨hb, L4⟩
    refine tr_nil ?_
    have hq4 : S4.get q = some (.lst [r0, r1, r2, r3]) := (L4.kp q hqn.1 hqn.2).trans hq3
    refine tr_eq (a := .non) (S' := S4.put q (.lst [r0, r1, r2, r3, b])) (by simp [m1, mAppend, hq4, LIM]) ?_
    show Tr (sSeq P3 _ [a0, some (.ref n), a2, some (.lst ms), some (.ref q), a5, a6, a7, a8, a9, a10, a11] (S4.put q (.lst [r0, r1, r2, r3, b]))) _
    have hD5 : Deal n k (S4.put q (.lst [r0, r1, r2, r3, b])) := Deal.put L4.deal hq4 hqn.1 hqn.2
    have hq5 : (S4.put q (.lst [r0, r1, r2, r3, b])).get q = some (.lst [r0, r1, r2, r3, b]) := get_put hq4
    generalize S4.put q (.lst [r0, r1, r2, r3, b]) = S5 at hD5 hq5
    have hrs : ∀ r ∈ [r0, r1, r2, r3, b], RowOk r := fun r hr => by
      rcases List.mem_cons.mp hr with rfl | hr
      · exact hys _ (by simp)
      rcases List.mem_cons.mp hr with rfl | hr
      · exact hys _ (by simp)
      rcases List.mem_cons.mp hr with rfl | hr
      · exact hys _ (by simp)
      rcases List.mem_cons.mp hr with rfl | hr
      · exact hys _ (by simp)
      rw [List.mem_singleton.mp hr]; exact hb
    generalize hrl : [r0, r1, r2, r3, b] = rs at hq5 hrs
    have hlen : rs.length = 5 := by rw [← hrl]; rfl
    refine tr_seq ?_
    refine tr_asg (tr_lc (tr_lcL (tr_eq (a := (rs, [(q, rs)])) (S' := S5) (by simp [iSeq, eVar, getS, Out.bind, itOf, hq5, oks]) ⟨by rw [hlen]; decide, ?_⟩)))
    refine Tr.imp (lc_tr (Q := fun acc S => Both rs acc ∧ More S5 S) (fun rest acc S => (∃ dn, rs = dn ++ rest ∧ Both dn acc) ∧ More S5 S) ?_ ?_ rs [] S5 ⟨⟨[], rfl, .nil⟩, More.refl hD5.wf⟩) ?_
    · rintro x r acc S6 ⟨⟨dn, e1, e2⟩, m⟩
      have hx : RowOk x := hrs x (by rw [e1]; simp)
      refine ⟨still_q ((m.kp q (hD5.wf _ _ hq5)).trans hq5) hrs, _, rfl, tr_tYes (tr_it ?_)⟩
      refine tr_call (tr_cons (tr_var rfl (tr_nil ?_)))
      refine (row_of_tr m.wf hx).imp ?_
      rintro v S7 ⟨hv, m7⟩
      exact ⟨⟨dn ++ [x], by rw [e1]; simp, e2.app hx hv⟩, m.trans m7⟩
    · rintro acc S6 ⟨⟨dn, e1, e2⟩, m⟩
      rw [List.append_nil] at e1
      subst e1
      exact ⟨still_q ((m.kp q (hD5.wf _ _ hq5)).trans hq5) hrs, e2, m⟩
    rintro os S6 ⟨hb6, m6⟩
    rw [List.nil_append] at hb6
    have hD6 := Deal.more hD5 m6
    have hq6 : S6.get q = some (.lst rs) := (m6.kp q (hD5.wf _ _ hq5)).trans hq5
    show Tr (sSeq P4 P5 [a0, some (.ref n), a2, some (.lst ms), some (.ref q), a5, some (.lst os), a7, a8, a9, a10, a11] S6) _
    obtain ⟨b7, b8, S7, e7, m7⟩ := p4_run (S := S6) hb6 hD6.wf hq6 (a0 := a0) (a1 := some (.ref n)) (a2 := a2) (a3 := some (.lst ms)) (a5 := a5) (a7 := a7) (a8 := a8) (a9 := a9) (a10 := a10) (a11 := a11)
    refine tr_seq (tr_eq e7 ?_)
    have hq7 : S7.get q = some (.lst rs) := (m7.kp q (hD6.wf _ _ hq6)).trans hq6
    obtain ⟨b9, b10, b11, e8⟩ := p5_run (S := S7) hb6 hlen hq7 (a0 := a0) (a1 := some (.ref n)) (a2 := a2) (a3 := some (.lst ms)) (a5 := a5) (a7 := b7) (a8 := b8) (a9 := a9) (a10 := a10) (a11 := a11)
    exact tr_eq e8 ⟨⟨_, _, _, _, _, _, _, _, _, _, rfl⟩, Deal.more hD6 m7⟩
theorem fn_run (w : Wf S) (d : DEnv) : ∃ S', FN d S = .ok (.rt (.bl true)) S' := by
  have mo : ∀ {z : List Nat}, W.str z ∈ names ++ [W.str z] := fun {z} => List.mem_append_right _ (List.mem_cons_self ..)
  have hP : Tr (mkF 3 m_Part_init [.str s_13_, .str s_16_, .str s_16_, .int 0, .int 0] S) fun v S' => RowObj (.tup [.str s_17_, .str s_13_, .str s_16_, .str s_16_, .int 0, .int 0]) v ∧ More S S' := by
    have ho : W.str s_13_ ∈ olds := mo
    have hl : W.str s_16_ ∈ thens := mo
    refine tr_mkF w ((part_init_tr (wf_new w) get_new ho hl hl (by decide) (by decide) (by decide) (by decide)).imp ?_)
    rintro v S1 ⟨rfl, ys, g, b⟩
    exact ⟨rfl, _, g, b, fun S' m => ⟨.part ho hl hl (by decide) (by decide) (by decide) (by decide), m⟩⟩
  obtain ⟨v1, S1, e1, r1, m1⟩ := hP.out
  have w1 := m1.wf
  have hJ : Tr (mkF 2 m_Join_init [.str s_13_, .str s_13_, .str s_14_, .int 0] S1) fun v S' => RowObj (.tup [.str s_8_, .str s_13_, .str s_13_, .str s_14_, .int 0]) v ∧ More S1 S' := by
    have ho : W.str s_13_ ∈ olds := mo
    have ht : W.str s_14_ ∈ thenJ := List.mem_append_right _ (List.mem_cons_self ..)
    refine tr_mkF w1 ((join_init_tr (wf_new w1) get_new ho ho ht (by decide) (by decide)).imp ?_)
    rintro v S1 ⟨rfl, ys, g, b⟩
    exact ⟨rfl, _, g, b, fun S' m => ⟨.join ho ho ht (by decide) (by decide), m⟩⟩
  obtain ⟨v2, S2, e2, r2, m2⟩ := hJ.out
  obtain ⟨b, hb, _, q⟩ := eq_obj r1 r2
  have hb' : b = false := by
    cases b with
    | false => rfl
    | true => exact absurd (hb.mp rfl) (by simp)
  refine ⟨S2, ?_⟩
  simp [FN, sRet, eBin, eCall, aCons, aNil, eC, Out.bind, e1, e2, q, hb']
theorem loop_tr : ∀ (ts : List W) (a0 a2 a3 a4 a5 a6 a7 a8 a9 a10 a11 : Option W) (S : Store), Deal n k S → Tr (forGo [] (.nm 2) TB ts [a0, some (.ref n), a2, a3, a4, a5, a6, a7, a8, a9, a10, a11] S) fun f S' => (∃ d', f = .nx d') ∧ Deal n k S'
  | [], a0, a2, a3, a4, a5, a6, a7, a8, a9, a10, a11, S, h => ⟨⟨_, rfl⟩, h⟩
  | t :: ts, a0, a2, a3, a4, a5, a6, a7, a8, a9, a10, a11, S, h => by
    show Tr ((TB [a0, some (.ref n), some t, a3, a4, a5, a6, a7, a8, a9, a10, a11] S).bind _) _
    refine Tr.bind ((tb_tr h a0 (some t) a3 a4 a5 a6 a7 a8 a9 a10 a11).imp ?_)
    rintro f S1 ⟨⟨b2, b3, b4, b5, b6, b7, b8, b9, b10, b11, rfl⟩, h1⟩
    exact loop_tr ts a0 b2 b3 b4 b5 b6 b7 b8 b9 b10 b11 S1 h1
end
theorem law_true : ∀ ns : List Int, ns.length ≤ 63 → ∃ S', m_law [.lsr (ns.map W.int)] S0 = .ok (.bl true) S' := fun ns hl => by
  have w0 : Wf S0 := fun m o e => by cases e
  have key : Tr (m_law [.lsr (ns.map W.int)] S0) fun v _ => v = .bl true := by
    rw [law_eq]
    refine tr_fn [some (.lsr (ns.map W.int)), none, none, none, none, none, none, none, none, none, none, none] rfl rfl ?_
    refine tr_seq (tr_asg (tr_call (tr_cons (tr_var rfl (tr_cons (tr_c (tr_nil ?_)))))))
    rw [deal_eq]
    refine (deal_tr (by decide) (by decide) (by decide) (by decide) (by decide) (by decide) (by decide) w0 ns hl).imp ?_
    rintro _ S1 ⟨rfl, hD, _⟩
    show Tr (sSeq (sFor (iRange1 (eC (.int 8))) (.nm 2) TB) FN [some (.lsr (ns.map W.int)), some (.ref (S0.next + 1)), none, none, none, none, none, none, none, none, none, none] S1) _
    refine tr_seq (tr_for (tr_eq (a := (rangeL 0 8, [])) rfl ?_))
    refine (loop_tr (rangeL 0 8) (some (.lsr (ns.map W.int))) none none none none none none none none none none S1 hD).imp ?_
    rintro f S2 ⟨⟨d', rfl⟩, hD2⟩
    obtain ⟨S3, e⟩ := fn_run hD2.wf d'
    exact tr_eq e rfl
  obtain ⟨v, S', e, rfl⟩ := key.out
  exact ⟨S', e⟩
end G
set_option Elab.async false
set_option linter.all false
set_option maxRecDepth 100000
set_option maxHeartbeats 4000000
open PySem PySem.W PySem.Calls PyProof.Rows
theorem PySem.Challenge.cw_forkpolls_k02_rows_made_holds : PySem.Challenge.rw_forkpolls_k02_rows_made.Holds := by
  w_on; o_law
  refine HandSHeadRun.head_any (r := OpenLaw.row PySem.Challenge.rw_forkpolls_k02_rows_made) (q := view (OpenLaw.row PySem.Challenge.rw_forkpolls_k02_rows_made).prog [38]) (H := G.hk) (ob := G.ob) (M := 4000) (loose := G.nms) (d := HandSHeadRun.topDef (OpenLaw.row PySem.Challenge.rw_forkpolls_k02_rows_made).prog 38) (kwd := []) G.ob_eq
    (by kernel_rfl) (fun s => by kernel_rfl) G.run (by kernel_rfl) (by kernel_rfl) (by kernel_rfl) (by rfl) (by first | assumption | decide +kernel) (by decide +kernel) ⟨rfl, rfl, rfl, rfl, rfl, by decide +kernel⟩ ?hw ?hc
  case hw => w_witness2
  case hc =>
    refine MW.walk_ofEK (l := PySem.Challenge.rw_forkpolls_k02_rows_made) (n := 63) (k := 6) (x := "_law_script") rfl (by decide) (by kernel_rfl) ⟨rfl, by decide, by decide⟩ ?F
    intro w mg fa h Y G0 hmg0
    obtain ⟨K, KX, c⟩ := Y
    have hmg : mg ("law" : PySem.Str) = some (.ref fa) := by
      have e : (HandSHeadRun.topDef (OpenLaw.row PySem.Challenge.rw_forkpolls_k02_rows_made).prog 38).name = ("law" : PySem.Str) := by kernel_rfl
      rw [← e]
      exact hmg0
    obtain ⟨fd, hb, hF⟩ := G.facts (P := PySem.Challenge.rw_forkpolls_k02_rows_made.prog) (w := w) rfl (by decide +kernel) KX G0 c
    have e := hmg.symm.trans (He.glo_ok KX G0 (c.fact 22 (f := .fa (.glo "law")) rfl))
    cases e
    exact ⟨K, fd, _, KX, hb, fun H a ns hl _ hS => MW.fin_sp G.law_true H a ns hl hS, fun base _ _ => hF base⟩
