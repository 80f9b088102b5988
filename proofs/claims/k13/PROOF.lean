import PyProof.Rows.All
import Wide.All
import OpenK.AllK
import Wide.FinOn
import HandS.ForMost
import HandS.ForExc
import HandS.Wide
import HandS.IsInst
import HandS.Zip
import HandS.Walk
import HandS.Defaults
import HandS.Style
import KE.GoesMore
import KE.GoesEnum
import HandS.Head0
import HandS.Head1
import HandS.Head2
import HandS.HeadEnd
import HandS.HeadHook1
import HandS.HeadHook2
import PySem.Challenge.RW_evenduties_k13_whole_other_days_and_shar
set_option Elab.async false
set_option linter.all false
set_option maxRecDepth 100000
set_option maxHeartbeats 4000000
namespace Q
open PySem L2
inductive D where
  | non | bl (b : Bool) | int (i : Int) | str (x : Str)
  | tup (xs : List D) | lst (xs : List D)
  | ins (C : Nat) (fs : List (Str × D))
  | ptr (k : Nat) | obj (k : Nat) | src (ns : List Int) | fn (id : Nat)
structure Store where
  L : List (Option (List D))
  O : List (Nat × List (Str × D))
def Store.get (S : Store) (k : Nat) : Option (List D) := match S.L[k]? with
  | some (some xs) => some xs
  | _ => none
def Store.put (S : Store) (k : Nat) (xs : List D) : Store := ⟨S.L.set k (some xs), S.O⟩
def Store.del (S : Store) (k : Nat) : Store := ⟨S.L.set k none, S.O⟩
def Store.new (S : Store) (xs : List D) : Store := ⟨S.L ++ [some xs], S.O⟩
def Store.cut (S : Store) (n : Nat) : Store := ⟨S.L.take n, S.O⟩
abbrev Sl := List (Option D)
structure Ex where
  cls : Nat
  args : List D
inductive Res (α : Type) where
  | ok (a : α) (S : Store) | ex (e : Ex) (S : Store) | err
@[inline] def Res.bind {α β : Type} (r : Res α) (k : α → Store → Res β) : Res β := match r with
  | .ok a S => k a S
  | .ex e S => .ex e S
  | .err => .err
inductive Fl where
  | nx (s : Sl) | ret (d : D) | bk (s : Sl) | ct (s : Sl) | ex (e : Ex) (s : Sl)
abbrev RS := Option (Fl × Store)
abbrev TE := Sl → Store → Res D
abbrev TA := Sl → Store → Res (List D)
abbrev TSt := Sl → Store → RS
abbrev CallT := Nat → List D → Store → Res D
mutual
def D.flat : D → Bool
  | .ptr _ => false
  | .tup xs => flats xs
  | .lst xs => flats xs
  | .ins _ fs => flatf fs
  | _ => true
def flats : List D → Bool
  | [] => true
  | d :: ds => d.flat && flats ds
def flatf : List (Str × D) → Bool
  | [] => true
  | (_, d) :: ds => d.flat && flatf ds
end
mutual
def D.pd : D → Option PyData
  | .non => some .none
  | .bl b => some (.bool b)
  | .int i => some (.int i)
  | .str x => some (.str x)
  | .tup xs => (pds xs).map .tuple
  | .lst xs => (pds xs).map .list
  | _ => none
def pds : List D → Option (List PyData)
  | [] => some []
  | d :: ds => match d.pd, pds ds with
    | some e, some es => some (e :: es)
    | _, _ => none
end
def itemsL (S : Store) : D → Option (List D)
  | .lst xs => some xs
  | .ptr k => S.get k
  | _ => none
def itemsLT (S : Store) : D → Option (List D)
  | .tup xs => some xs
  | d => itemsL S d
def pdT (S : Store) : D → Option PyData
  | .ptr k => match S.get k with
    | some xs => (pds xs).map .list
    | none => none
  | d => d.pd
abbrev Op1 := D → Store → Option (D × Store)
abbrev Op2 := D → D → Store → Option (D × Store)
abbrev OpN := List D → Store → Option (D × Store)
def ofO : Option (D × Store) → Res D
  | some (d, S) => .ok d S
  | none => .err
def eV (i : Nat) : TE := fun s S => match s[i]? with
  | some (some d) => .ok d S
  | _ => .err
def eC (d : D) : TE := fun _ S => .ok d S
def e1 (f : Op1) (a : TE) : TE := fun s S => (a s S).bind fun x S1 => ofO (f x S1)
def e2 (f : Op2) (a b : TE) : TE := fun s S => (a s S).bind fun x S1 => (b s S1).bind fun y S2 => ofO (f x y S2)
def eArgs : List TE → TA
  | [] => fun _ S => .ok [] S
  | a :: as => fun s S => (a s S).bind fun x S1 => (eArgs as s S1).bind fun xs S2 => .ok (x :: xs) S2
def eN (f : OpN) (as : List TE) : TE := fun s S => (eArgs as s S).bind fun xs S1 => ofO (f xs S1)
def eM (chk : D → Store → Bool) (f : OpN) (a : TE) (as : List TE) : TE := fun s S => (a s S).bind fun x S1 => if chk x S1 then (eArgs as s S1).bind fun xs S2 => ofO (f (x :: xs) S2) else .err
def isStrD : D → Store → Bool
  | .str _, _ => true
  | _, _ => false
def isLstD (d : D) (S : Store) : Bool := (itemsL S d).isSome
def eCall (c : CallT) (id : Nat) (as : List TE) : TE := fun s S => (eArgs as s S).bind fun xs S1 => c id xs S1
def asB (d : D) (S : Store) (k : Bool → Store → Res D) : Res D := match d with
  | .bl b => k b S
  | _ => .err
def eAnd (a b : TE) : TE := fun s S => (a s S).bind fun x S1 => asB x S1 fun c S2 => if c then b s S2 else .ok (.bl false) S2
def eOr (a b : TE) : TE := fun s S => (a s S).bind fun x S1 => asB x S1 fun c S2 => if c then .ok (.bl true) S2 else b s S2
def eNot (a : TE) : TE := fun s S => (a s S).bind fun x S1 => asB x S1 fun c S2 => .ok (.bl (!c)) S2
def eIf (t a b : TE) : TE := fun s S => (t s S).bind fun x S1 => asB x S1 fun c S2 => if c then a s S2 else b s S2
def eChain (f g : Op2) (a b c : TE) : TE := fun s S => (a s S).bind fun x S1 => (b s S1).bind fun y S2 => (ofO (f x y S2)).bind fun r S3 => asB r S3 fun k S4 =>
  if k then (c s S4).bind fun z S5 => ofO (g y z S5) else .ok (.bl false) S4
def eTup (as : List TE) : TE := fun s S => (eArgs as s S).bind fun xs S1 => .ok (.tup xs) S1
def eLst (as : List TE) : TE := fun s S => (eArgs as s S).bind fun xs S1 => .ok (.lst xs) S1
def eLstM (as : List TE) : TE := fun s S => (eArgs as s S).bind fun xs S1 => if flats xs then .ok (.ptr S1.L.length) (S1.new xs) else .err
inductive Pat where
  | nm (i : Nat) | tp (ps : List Pat)
mutual
def Pat.slots : Pat → List Nat
  | .nm i => [i]
  | .tp ps => Pat.slotss ps
def Pat.slotss : List Pat → List Nat
  | [] => []
  | p :: ps => p.slots ++ Pat.slotss ps
end
def wipeS (s : Sl) : List Nat → Sl
  | [] => s
  | v :: vs => (wipeS s vs).set v none
mutual
def Pat.put : Pat → D → Sl → Option Sl
  | .nm i, d, s => some (s.set i (some d))
  | .tp ps, .tup ds, s => Pat.puts ps ds s
  | .tp _, _, _ => none
def Pat.puts : List Pat → List D → Sl → Option Sl
  | [], [], s => some s
  | p :: ps, d :: ds, s => match p.put d s with
    | some s1 => Pat.puts ps ds s1
    | none => none
  | _, _, _ => none
end
abbrev Src := Sl → Store → Res (List D)
def sSeq (a : TE) : Src := fun s S => (a s S).bind fun x S1 => match x with
  | .lst xs => .ok xs S1
  | .tup xs => .ok xs S1
  | .str z => .ok (z.cps.toList.map fun c => .str ⟨#[c]⟩) S1
  | _ => .err
def rngOk (i : Int) : Bool := decide (-(2 ^ 62) ≤ i) && decide (i < 2 ^ 62)
def rngL (lo : Int) (n : Nat) : List D := (List.range n).map fun (i : Nat) => .int (lo + i)
def sN (f : List D → Option (List D)) (as : List TE) : Src := fun s S => (eArgs as s S).bind fun xs S1 => match f xs with
  | some ds => .ok ds S1
  | none => .err
def iRng1 : List D → Option (List D)
  | [.int j] => if rngOk j then some (rngL 0 j.toNat) else none
  | _ => none
def iRng2 : List D → Option (List D)
  | [.int i, .int j] => if rngOk i && rngOk j then some (rngL i (j - i).toNat) else none
  | _ => none
def iEnum : List D → Option (List D)
  | [.lst xs] => some ((List.range xs.length).zipWith (fun i d => .tup [.int (i : Nat), d]) xs)
  | _ => none
def iZipA : List D → Option (List D)
  | [.lst xs, .lst ys] => some (List.zipWith (fun d e => .tup [d, e]) xs ys)
  | [.tup xs, .tup ys] => some (List.zipWith (fun d e => .tup [d, e]) xs ys)
  | _ => none
def chs (z : Str) : List D := z.cps.toList.map fun c => .str ⟨#[c]⟩
def iZipS : List D → Option (List D)
  | [.str x, .str y] => some (List.zipWith (fun d e => .tup [d, e]) (chs x) (chs y))
  | _ => none
def iOr (f g : List D → Option (List D)) : List D → Option (List D) := fun xs => match f xs with
  | some ds => some ds
  | none => g xs
def iZip : List D → Option (List D) := iOr iZipA iZipS
def lineOk (n : Nat) : Bool := decide (n < sizeLine)
def lcL (p : Pat) (t e : TE) (s : Sl) : List D → List D → Store → Res D
  | [], acc, S => .ok (.lst acc) S
  | d :: ds, acc, S => match p.put d s with
    | none => .err
    | some s1 => match t s1 S with
      | .ok (.bl true) S1 => match e s1 S1 with
        | .ok r S2 => if lineOk acc.length then lcL p t e s ds (acc ++ [r]) S2 else .err
        | _ => .err
      | .ok (.bl false) S1 => lcL p t e s ds acc S1
      | _ => .err
def eLc (vs : List Nat) (p : Pat) (src : Src) (t e : TE) : TE := fun s S => (src s S).bind fun ds S1 => lcL p t e (wipeS s vs) ds [] S1
def onE (r : Res D) (s : Sl) (k : D → Store → RS) : RS := match r with
  | .ok d S => k d S
  | .ex e S => some (.ex e s, S)
  | .err => none
def tNo : TSt := fun _ _ => none
def tPass : TSt := fun s S => some (.nx s, S)
def tBrk : TSt := fun s S => some (.bk s, S)
def tCnt : TSt := fun s S => some (.ct s, S)
def tSeq (a b : TSt) : TSt := fun s S => match a s S with
  | some (.nx s1, S1) => b s1 S1
  | r => r
def tExpr (a : TE) : TSt := fun s S => onE (a s S) s fun _ S1 => some (.nx s, S1)
def tRet (a : TE) : TSt := fun s S => onE (a s S) s fun d S1 => some (.ret d, S1)
def tSet (p : Pat) (a : TE) : TSt := fun s S => onE (a s S) s fun d S1 => match p.put d s with
  | some s1 => some (.nx s1, S1)
  | none => none
def asBS (d : D) (S : Store) (k : Bool → Store → RS) : RS := match d with
  | .bl b => k b S
  | _ => none
def tIf (t : TE) (a b : TSt) : TSt := fun s S => onE (t s S) s fun x S1 => asBS x S1 fun c S2 => if c then a s S2 else b s S2
def setL (o i v : D) (S : Store) : Option Store := match o, i with
  | .ptr k, .int j => match S.get k with
    | some xs => match ixN xs.length j with
      | some n => if v.flat then some (S.put k (xs.set n v)) else none
      | none => none
    | none => none
  | _, _ => none
def tSetIx (o i v : TE) : TSt := fun s S => onE (v s S) s fun x S1 => onE (o s S1) s fun y S2 => onE (i s S2) s fun z S3 => match setL y z x S3 with
  | some S4 => some (.nx s, S4)
  | none => none
def forL (p : Pat) (b : TSt) : List D → TSt
  | [], s, S => some (.nx s, S)
  | d :: ds, s, S => match p.put d s with
    | none => none
    | some s1 => match b s1 S with
      | some (.nx s2, S2) => forL p b ds s2 S2
      | some (.ct s2, S2) => forL p b ds s2 S2
      | some (.bk s2, S2) => some (.nx s2, S2)
      | some (.ret d, S2) => some (.ret d, S2)
      | some (.ex e s2, S2) => some (.ex e s2, S2)
      | none => none
def tFor (p : Pat) (src : Src) (b : TSt) : TSt := fun s S => match src s S with
  | .ok ds S1 => forL p b ds s S1
  | .ex e S1 => some (.ex e s, S1)
  | .err => none
def whL (t : TE) (b : TSt) : Nat → TSt
  | 0, _, _ => none
  | n + 1, s, S => onE (t s S) s fun x S1 => asBS x S1 fun c S2 => if c then match b s S2 with
      | some (.nx s3, S3) => whL t b n s3 S3
      | some (.ct s3, S3) => whL t b n s3 S3
      | some (.bk s3, S3) => some (.nx s3, S3)
      | some (.ret d, S3) => some (.ret d, S3)
      | some (.ex e s3, S3) => some (.ex e s3, S3)
      | none => none
    else some (.nx s, S2)
def whMost : Nat := 2 ^ 60
def tWhile (t : TE) (b : TSt) : TSt := whL t b whMost
def frzS (i : Nat) (s : Sl) (S : Store) : Option (Sl × Store) := match s[i]? with
  | some (some (.ptr k)) => match S.get k with
    | some xs => some (s.set i (some (.lst xs)), S.del k)
    | none => none
  | _ => none
def tFrz (i : Nat) (t : TSt) : TSt := fun s S => match frzS i s S with
  | some (s1, S1) => t s1 S1
  | none => none
structure FnD where
  np : Nat
  ns : Nat
  keep : Bool
  body : CallT → TSt
def leave (keep : Bool) (S : Store) (v : D) (S' : Store) : Res D := if keep then .ok v S' else if v.flat then .ok v (S'.cut S.L.length) else .err
def runFn (d : FnD) (c : CallT) (vs : List D) (S : Store) : Res D :=
  if vs.length = d.np then match d.body c (vs.map some ++ List.replicate (d.ns - d.np) none) S with
    | some (.ret v, S') => leave d.keep S v S'
    | some (.nx _, S') => leave d.keep S .non S'
    | some (.ex e _, S') => if d.keep then .ex e S' else if flats e.args then .ex e (S'.cut S.L.length) else .err
    | _ => .err
  else .err
abbrev Prog := Nat → Option FnD
def callN (P : Prog) : Nat → CallT
  | 0 => fun _ _ _ => .err
  | n + 1 => fun f vs S => match P f with
    | none => .err
    | some d => runFn d (callN P n) vs S
def oRet (d : D) (S : Store) : Option (D × Store) := some (d, S)
def oAdd : Op2 := fun x y S => match x, y with
  | .int i, .int j => some (.int (i + j), S)
  | .str a, .str b => if a.length + b.length ≤ sizeLine then some (.str (a ++ b), S) else none
  | .lst a, .lst b => if a.length + b.length ≤ sizeLine then some (.lst (a ++ b), S) else none
  | .ptr k, .lst b => match S.get k with
    | some a => if a.length + b.length ≤ sizeLine then some (.lst (a ++ b), S) else none
    | _ => none
  | _, _ => none
def oSub : Op2 := fun x y S => match x, y with
  | .int i, .int j => some (.int (i - j), S)
  | _, _ => none
def smallI (i : Int) : Bool := decide (-(2 ^ 64) < i) && decide (i < 2 ^ 64)
def midI (i : Int) : Bool := decide (i.natAbs.log2 < 400000)
def oMulL : Op2 := fun x y S => match x, y with
  | .int i, .int j => if smallI i || smallI j || (midI i && midI j) then some (.int (i * j), S) else none
  | .lst a, .int j => if decide (-(2 ^ 63) ≤ j) && decide (j < 2 ^ 63) && decide (a.length * j.toNat ≤ sizeLine) then some (.lst ((List.replicate j.toNat a).flatten), S) else none
  | _, _ => none
def divOk (j : Int) : Bool := decide (j ≠ 0) && decide (j.natAbs < 1073741824) || decide (0 < j) && decide (j.natAbs.log2 < 9000)
def oDiv : Op2 := fun x y S => match x, y with
  | .int i, .int j => if divOk j then some (.int (i.fdiv j), S) else none
  | _, _ => none
def oMod : Op2 := fun x y S => match x, y with
  | .int i, .int j => if j = 0 then none else some (.int (i.fmod j), S)
  | _, _ => none
def oPow : Op2 := fun x y S => match x, y with
  | .int i, .int j => if decide (0 ≤ j) && decide (j ≤ 1000000) && decide (i.natAbs < 2 ^ 64) then some (.int (i ^ j.toNat), S) else none
  | _, _ => none
def oNeg : Op1 := fun x S => match x with
  | .int i => some (.int (-i), S)
  | _ => none
def oCmp (f : Int → Int → Bool) : Op2 := fun x y S => match x, y with
  | .int i, .int j => some (.bl (f i j), S)
  | _, _ => none
def oLt : Op2 := oCmp fun i j => decide (i < j)
def oLe : Op2 := oCmp fun i j => decide (i ≤ j)
def oGt : Op2 := oCmp fun i j => decide (j < i)
def oGe : Op2 := oCmp fun i j => decide (j ≤ i)
def eqD (x y : D) (S : Store) : Option Bool := match x, y with
  | .int i, .int j => some (decide (i = j))
  | .str a, .str b => some (decide (a = b))
  | .bl a, .bl b => some (decide (a = b))
  | x, y => match pdT S x, pdT S y with
    | some d, some e => if SeqAt.shaped d && SeqAt.shaped e then some (PyData.eqv d e) else none
    | _, _ => none
def oEq : Op2 := fun x y S => match eqD x y S with
  | some b => some (.bl b, S)
  | none => none
def oNe : Op2 := fun x y S => match eqD x y S with
  | some b => some (.bl (!b), S)
  | none => none
def isN : D → Bool
  | .non => true
  | _ => false
def oIsN : Op1 := fun x S => some (.bl (isN x), S)
def oNotN : Op1 := fun x S => some (.bl (!isN x), S)
def oIx : Op2 := fun x y S => match x, y with
  | .str z, .int i => if z.length ≤ sizeLine then match atI z.cps.toList i with
      | some c => some (.str ⟨#[c]⟩, S)
      | none => none
    else none
  | x, .int i => match itemsLT S x with
    | some xs => match atI xs i with
      | some d => some (d, S)
      | none => none
    | none => none
  | _, _ => none
def oAbs : OpN := fun xs S => match xs with
  | [.int i] => some (.int (if i < 0 then -i else i), S)
  | _ => none
def oInt : OpN := fun xs S => match xs with
  | [.int i] => some (.int i, S)
  | [.bl b] => some (.int (if b then 1 else 0), S)
  | _ => none
def oLen : OpN := fun xs S => match xs with
  | [.str z] => if z.length ≤ sizeLine then some (.int z.length, S) else none
  | [d] => match itemsLT S d with
    | some ds => some (.int ds.length, S)
    | none => none
  | _ => none
def oMax2 : OpN := fun xs S => match xs with
  | [.int i, .int j] => some (.int (if j > i then j else i), S)
  | _ => none
def oMin2 : OpN := fun xs S => match xs with
  | [.int i, .int j] => some (.int (if j < i then j else i), S)
  | _ => none
def intsOf : List D → Option (List Int)
  | [] => some []
  | .int i :: ds => (intsOf ds).map (i :: ·)
  | _ :: _ => none
def blsOf : List D → Option (List Bool)
  | [] => some []
  | .bl b :: ds => (blsOf ds).map (b :: ·)
  | _ :: _ => none
def strsOf : List D → Option (List Str)
  | [] => some []
  | .str z :: ds => (strsOf ds).map (z :: ·)
  | _ :: _ => none
def oAll : OpN := fun xs S => match xs with
  | [.lst ds] => match blsOf ds with
    | some bs => some (.bl (bs.all id), S)
    | none => none
  | _ => none
def oTupleOf : OpN := fun xs S => match xs with
  | [d] => match itemsLT S d with
    | some ds => some (.tup ds, S)
    | none => none
  | _ => none
def oListOf : OpN := fun xs S => match xs with
  | [d] => match itemsLT S d with
    | some ds => some (.lst ds, S)
    | none => none
  | _ => none
def oJoin : OpN := fun xs S => match xs with
  | [.str sep, .lst ds] => match strsOf ds with
    | some ss => if (ss.map (·.length)).sum + ss.length * sep.length ≤ 16777216 then some (.str (Txt.join sep ss), S) else none
    | none => none
  | _ => none
def oAppend : OpN := fun xs S => match xs with
  | [.ptr k, d] => match S.get k with
    | some ds => if lineOk ds.length && d.flat then some (.non, S.put k (ds ++ [d])) else none
    | none => none
  | _ => none
def oPop : OpN := fun xs S => match xs with
  | [.ptr k] => match S.get k with
    | some ds => match ds[ds.length - 1]? with
      | some d => some (d, S.put k ds.dropLast)
      | none => none
    | none => none
  | _ => none
inductive Ty where
  | int | bool | str | tuple | list
def Ty.of (S : Store) : D → Option (List Ty)
  | .non => some []
  | .bl _ => some [.bool, .int]
  | .int _ => some [.int]
  | .str _ => some [.str]
  | .tup _ => some [.tuple]
  | .lst _ => some [.list]
  | .src _ => some [.list]
  | .ptr k => match S.get k with
    | some _ => some [.list]
    | none => none
  | _ => none
def Ty.eqb : Ty → Ty → Bool
  | .int, .int => true
  | .bool, .bool => true
  | .str, .str => true
  | .tuple, .tuple => true
  | .list, .list => true
  | _, _ => false
def oIsi (ts : List Ty) : Op1 := fun x S => match Ty.of S x with
  | some us => some (.bl (ts.any fun t => us.any (Ty.eqb t)), S)
  | none => none
def cutD {α : Type} (xs : List α) (lo hi : Option Int) : List α := (xs.drop (HT.sIx xs.length 0 lo)).take (HT.sIx xs.length xs.length hi - HT.sIx xs.length 0 lo)
def oCut (x : D) (lo hi : Option Int) (S : Store) : Option (D × Store) := match x with
  | .lst xs => some (.lst (cutD xs lo hi), S)
  | .src ns => some (.lst ((cutD ns lo hi).map .int), S)
  | .str z => if z.length ≤ sizeLine then some (.str ⟨(cutD z.cps.toList lo hi).toArray⟩, S) else none
  | _ => none
def partK (k : Option Int → Store → Res D) (x : D) (S : Store) : Res D := match x with
  | .int i => k (some i) S
  | _ => .err
def ePart (a : TE) (s : Sl) (S : Store) (k : Option Int → Store → Res D) : Res D := (a s S).bind (partK k)
def eCutL (a lo : TE) : TE := fun s S => (a s S).bind fun x S1 => ePart lo s S1 fun l S2 => ofO (oCut x l none S2)
def eCutU (a hi : TE) : TE := fun s S => (a s S).bind fun x S1 => ePart hi s S1 fun h S2 => ofO (oCut x none h S2)
def eCutLU (a lo hi : TE) : TE := fun s S => (a s S).bind fun x S1 => ePart lo s S1 fun l S2 => ePart hi s S2 fun h S3 => ofO (oCut x l h S3)
end Q
set_option maxHeartbeats 1000000
namespace Q
open PySem L2
structure Tb where
  cl : Nat → Addr
  fa : Nat → Addr
structure Wd where
  F : Hp
  al : Nat → Addr
  n : Nat
  ao : Nat → Addr
  m : Nat
mutual
def Rp (K : PySem.W.Frag) (T : Tb) (ω : Wd) : D → V → Prop
  | .non, v => v = .non
  | .bl b, v => v = .bl b
  | .int i, v => v = .int i
  | .str x, v => v = .str x
  | .tup ds, v => ∃ a vs, v = .ref a ∧ SqT K ω.F a vs ∧ Rps K T ω ds vs
  | .lst ds, v => ∃ a vs, v = .ref a ∧ ω.F a = some (.lst vs) ∧ Rps K T ω ds vs
  | .ins C fs, v => ∃ a dx gs, v = .ref a ∧ ω.F a = some (.ins (T.cl C) dx gs) ∧ Rpf K T ω fs gs
  | .ptr k, v => k < ω.n ∧ v = .ref (ω.al k)
  | .obj k, v => k < ω.m ∧ v = .ref (ω.ao k)
  | .src ns, v => ∃ a, v = .ref a ∧ SqL K ω.F a (ns.map V.int)
  | .fn id, v => v = .ref (T.fa id)
def Rps (K : PySem.W.Frag) (T : Tb) (ω : Wd) : List D → List V → Prop
  | [], vs => vs = []
  | d :: ds, vs => ∃ v ws, vs = v :: ws ∧ Rp K T ω d v ∧ Rps K T ω ds ws
def Rpf (K : PySem.W.Frag) (T : Tb) (ω : Wd) : List (Str × D) → List (Str × V) → Prop
  | [], gs => gs = []
  | (f, d) :: fs, gs => ∃ v hs, gs = (f, v) :: hs ∧ Rp K T ω d v ∧ Rpf K T ω fs hs
end
structure Rl (K : PySem.W.Frag) (T : Tb) (ω : Wd) (S : Store) (H : Hp) : Prop where
  sub : Same ω.F H
  len : S.L.length = ω.n
  obj : ∀ k ds, S.get k = some ds → ω.F (ω.al k) = none ∧ flats ds = true ∧ ∃ vs, H (ω.al k) = some (.lst vs) ∧ Rps K T ω ds vs
  inj : ∀ j k ds es, S.get j = some ds → S.get k = some es → ω.al j = ω.al k → j = k
  lenO : S.O.length = ω.m
  objO : ∀ (k : Nat) (C : Nat) (fs : List (Str × D)), S.O[k]? = some (C, fs) → ω.F (ω.ao k) = none ∧ flatf fs = true ∧ ∃ dx gs, H (ω.ao k) = some (.ins (T.cl C) dx gs) ∧ Rpf K T ω fs gs
  injO : ∀ j k, j < ω.m → k < ω.m → ω.ao j = ω.ao k → j = k
def Own (ω : Wd) (S : Store) (a : Addr) : Prop := (∃ o, ω.F a = some o) ∨ (∃ k ds, S.get k = some ds ∧ ω.al k = a) ∨ ∃ k, k < ω.m ∧ ω.ao k = a
structure Ext (ω : Wd) (S : Store) (H : Hp) (ω' : Wd) (S' : Store) (H' : Hp) : Prop where
  fix : Same ω.F ω'.F
  al : ∀ k, k < ω.n → ω'.al k = ω.al k
  len : ω.n ≤ ω'.n
  ao : ∀ k, k < ω.m → ω'.ao k = ω.ao k
  lenO : ω.m ≤ ω'.m
  live : ∀ k es, k < ω.n → S'.get k = some es → ∃ ds, S.get k = some ds
  frame : ∀ a o, H a = some o → ¬ Own ω S a → H' a = some o ∧ ¬ Own ω' S' a
theorem Ext.refl {ω : Wd} {S : Store} {H : Hp} : Ext ω S H ω S H := ⟨Same.refl _, fun _ _ => rfl, Nat.le_refl _, fun _ _ => rfl, Nat.le_refl _, fun _ es _ h => ⟨es, h⟩, fun _ _ h n => ⟨h, n⟩⟩
theorem Ext.trans {ω ω1 ω2 : Wd} {S S1 S2 : Store} {H H1 H2 : Hp} (a : Ext ω S H ω1 S1 H1) (b : Ext ω1 S1 H1 ω2 S2 H2) : Ext ω S H ω2 S2 H2 :=
  ⟨a.fix.trans b.fix, fun k hk => (b.al k (Nat.lt_of_lt_of_le hk a.len)).trans (a.al k hk), Nat.le_trans a.len b.len, fun k hk => (b.ao k (Nat.lt_of_lt_of_le hk a.lenO)).trans (a.ao k hk), Nat.le_trans a.lenO b.lenO, fun k es hk h => by
    obtain ⟨ds, h1⟩ := b.live k es (Nat.lt_of_lt_of_le hk a.len) h
    exact a.live k ds hk h1, fun c o h n => by
    obtain ⟨h1, n1⟩ := a.frame c o h n
    exact b.frame c o h1 n1⟩
theorem Same.seqT {K : PySem.W.Frag} {H H' : Hp} {a : Addr} {xs : List V} (e : Same H H') (h : SqT K H a xs) : SqT K H' a xs := by
  rcases h with (h | ⟨o, h⟩) | h
  · exact .inl (.inl (e _ _ h))
  · exact .inl (.inr ⟨o, e _ _ h⟩)
  · exact .inr h
section
variable {K : PySem.W.Frag} {T : Tb} {ω ω' : Wd}
mutual
theorem Rp.mono (fx : Same ω.F ω'.F) (al : ∀ k, k < ω.n → ω'.al k = ω.al k) (ln : ω.n ≤ ω'.n) (ao : ∀ k, k < ω.m → ω'.ao k = ω.ao k) (lo : ω.m ≤ ω'.m) : ∀ (d : D) (v : V), Rp K T ω d v → Rp K T ω' d v
  | .non, v, h => h
  | .bl b, v, h => h
  | .int i, v, h => h
  | .str x, v, h => h
  | .tup ds, v, h => by
    unfold Rp at h ⊢
    obtain ⟨a, vs, e, q, r⟩ := h
    exact ⟨a, vs, e, Same.seqT fx q, Rps.mono fx al ln ao lo ds vs r⟩
  | .lst ds, v, h => by
    unfold Rp at h ⊢
    obtain ⟨a, vs, e, q, r⟩ := h
    exact ⟨a, vs, e, fx _ _ q, Rps.mono fx al ln ao lo ds vs r⟩
  | .ins C fs, v, h => by
    unfold Rp at h ⊢
    obtain ⟨a, dx, gs, e, q, r⟩ := h
    exact ⟨a, dx, gs, e, fx _ _ q, Rpf.mono fx al ln ao lo fs gs r⟩
  | .ptr k, v, h => by
    unfold Rp at h ⊢
    exact ⟨Nat.lt_of_lt_of_le h.1 ln, by rw [al k h.1]; exact h.2⟩
  | .obj k, v, h => by
    unfold Rp at h ⊢
    exact ⟨Nat.lt_of_lt_of_le h.1 lo, by rw [ao k h.1]; exact h.2⟩
  | .src ns, v, h => by
    unfold Rp at h ⊢
    obtain ⟨a, e, q⟩ := h
    exact ⟨a, e, Same.seq fx q⟩
  | .fn id, v, h => h
theorem Rps.mono (fx : Same ω.F ω'.F) (al : ∀ k, k < ω.n → ω'.al k = ω.al k) (ln : ω.n ≤ ω'.n) (ao : ∀ k, k < ω.m → ω'.ao k = ω.ao k) (lo : ω.m ≤ ω'.m) : ∀ (ds : List D) (vs : List V), Rps K T ω ds vs → Rps K T ω' ds vs
  | [], vs, h => h
  | d :: ds, vs, h => by
    unfold Rps at h ⊢
    obtain ⟨v, ws, e, q, r⟩ := h
    exact ⟨v, ws, e, Rp.mono fx al ln ao lo d v q, Rps.mono fx al ln ao lo ds ws r⟩
theorem Rpf.mono (fx : Same ω.F ω'.F) (al : ∀ k, k < ω.n → ω'.al k = ω.al k) (ln : ω.n ≤ ω'.n) (ao : ∀ k, k < ω.m → ω'.ao k = ω.ao k) (lo : ω.m ≤ ω'.m) : ∀ (fs : List (Str × D)) (gs : List (Str × V)), Rpf K T ω fs gs → Rpf K T ω' fs gs
  | [], gs, h => h
  | (f, d) :: fs, gs, h => by
    unfold Rpf at h ⊢
    obtain ⟨v, hs, e, q, r⟩ := h
    exact ⟨v, hs, e, Rp.mono fx al ln ao lo d v q, Rpf.mono fx al ln ao lo fs hs r⟩
end
mutual
theorem Rp.flat (fx : Same ω.F ω'.F) (ao : ∀ k, k < ω.m → ω'.ao k = ω.ao k) (lo : ω.m ≤ ω'.m) : ∀ (d : D) (v : V), d.flat = true → Rp K T ω d v → Rp K T ω' d v
  | .non, v, _, h => h
  | .bl b, v, _, h => h
  | .int i, v, _, h => h
  | .str x, v, _, h => h
  | .tup ds, v, f, h => by
    unfold Rp at h ⊢
    obtain ⟨a, vs, e, q, r⟩ := h
    exact ⟨a, vs, e, Same.seqT fx q, Rps.flat fx ao lo ds vs f r⟩
  | .lst ds, v, f, h => by
    unfold Rp at h ⊢
    obtain ⟨a, vs, e, q, r⟩ := h
    exact ⟨a, vs, e, fx _ _ q, Rps.flat fx ao lo ds vs f r⟩
  | .ins C fs, v, f, h => by
    unfold Rp at h ⊢
    obtain ⟨a, dx, gs, e, q, r⟩ := h
    exact ⟨a, dx, gs, e, fx _ _ q, Rpf.flat fx ao lo fs gs f r⟩
  | .ptr k, v, f, h => by cases f
  | .obj k, v, f, h => by
    unfold Rp at h ⊢
    exact ⟨Nat.lt_of_lt_of_le h.1 lo, by rw [ao k h.1]; exact h.2⟩
  | .src ns, v, f, h => by
    unfold Rp at h ⊢
    obtain ⟨a, e, q⟩ := h
    exact ⟨a, e, Same.seq fx q⟩
  | .fn id, v, _, h => h
theorem Rps.flat (fx : Same ω.F ω'.F) (ao : ∀ k, k < ω.m → ω'.ao k = ω.ao k) (lo : ω.m ≤ ω'.m) : ∀ (ds : List D) (vs : List V), flats ds = true → Rps K T ω ds vs → Rps K T ω' ds vs
  | [], vs, _, h => h
  | d :: ds, vs, f, h => by
    unfold Rps at h ⊢
    obtain ⟨v, ws, e, q, r⟩ := h
    unfold flats at f
    rw [Bool.and_eq_true] at f
    exact ⟨v, ws, e, Rp.flat fx ao lo d v f.1 q, Rps.flat fx ao lo ds ws f.2 r⟩
theorem Rpf.flat (fx : Same ω.F ω'.F) (ao : ∀ k, k < ω.m → ω'.ao k = ω.ao k) (lo : ω.m ≤ ω'.m) : ∀ (fs : List (Str × D)) (gs : List (Str × V)), flatf fs = true → Rpf K T ω fs gs → Rpf K T ω' fs gs
  | [], gs, _, h => h
  | (g, d) :: fs, gs, f, h => by
    unfold Rpf at h ⊢
    obtain ⟨v, hs, e, q, r⟩ := h
    unfold flatf at f
    rw [Bool.and_eq_true] at f
    exact ⟨v, hs, e, Rp.flat fx ao lo d v f.1 q, Rpf.flat fx ao lo fs hs f.2 r⟩
end
theorem Rps.length : ∀ {ds : List D} {vs : List V}, Rps K T ω ds vs → ds.length = vs.length
  | [], vs, h => by unfold Rps at h; rw [h]; rfl
  | d :: ds, vs, h => by
    unfold Rps at h
    obtain ⟨v, ws, rfl, _, r⟩ := h
    simp [Rps.length r]
theorem Rps.get : ∀ {ds : List D} {vs : List V} {i : Nat} {d : D}, Rps K T ω ds vs → ds[i]? = some d → ∃ v, vs[i]? = some v ∧ Rp K T ω d v
  | [], vs, _, _, _, e => by simp at e
  | d :: ds, vs, 0, x, h, e => by
    unfold Rps at h
    obtain ⟨v, ws, rfl, q, _⟩ := h
    simp at e; subst e
    exact ⟨v, rfl, q⟩
  | d :: ds, vs, i + 1, x, h, e => by
    unfold Rps at h
    obtain ⟨v, ws, rfl, _, r⟩ := h
    obtain ⟨u, e1, e2⟩ := Rps.get (i := i) r (by simpa using e)
    exact ⟨u, by simpa using e1, e2⟩
theorem Rps.get' : ∀ {ds : List D} {vs : List V} {i : Nat} {v : V}, Rps K T ω ds vs → vs[i]? = some v → ∃ d, ds[i]? = some d ∧ Rp K T ω d v
  | [], vs, _, _, h, e => by unfold Rps at h; rw [h] at e; simp at e
  | d :: ds, vs, 0, x, h, e => by
    unfold Rps at h
    obtain ⟨v, ws, rfl, q, _⟩ := h
    simp at e; subst e
    exact ⟨d, rfl, q⟩
  | d :: ds, vs, i + 1, x, h, e => by
    unfold Rps at h
    obtain ⟨v, ws, rfl, _, r⟩ := h
    obtain ⟨u, e1, e2⟩ := Rps.get' (i := i) r (by simpa using e)
    exact ⟨u, by simpa using e1, e2⟩
theorem Rps.nil : Rps K T ω [] [] := by unfold Rps; rfl
theorem Rps.cons {d : D} {v : V} {ds : List D} {vs : List V} (h : Rp K T ω d v) (r : Rps K T ω ds vs) : Rps K T ω (d :: ds) (v :: vs) := by
  unfold Rps; exact ⟨v, vs, rfl, h, r⟩
theorem Rps.of_get : ∀ {ds : List D} {vs : List V}, ds.length = vs.length → (∀ (i : Nat) d v, ds[i]? = some d → vs[i]? = some v → Rp K T ω d v) → Rps K T ω ds vs
  | [], [], _, _ => Rps.nil
  | [], _ :: _, h, _ => by simp at h
  | _ :: _, [], h, _ => by simp at h
  | d :: ds, v :: vs, h, f => Rps.cons (f 0 d v rfl rfl) (Rps.of_get (by simpa using h) fun i d' v' h1 h2 => f (i + 1) d' v' (by simpa using h1) (by simpa using h2))
theorem Rps.append : ∀ {ds es : List D} {vs ws : List V}, Rps K T ω ds vs → Rps K T ω es ws → Rps K T ω (ds ++ es) (vs ++ ws)
  | [], es, vs, ws, h, r => by unfold Rps at h; subst h; exact r
  | d :: ds, es, vs, ws, h, r => by
    unfold Rps at h
    obtain ⟨v, us, rfl, q, s⟩ := h
    exact Rps.cons q (Rps.append s r)
theorem Rps.set : ∀ {ds : List D} {vs : List V} {d : D} {v : V} (i : Nat), Rps K T ω ds vs → Rp K T ω d v → Rps K T ω (ds.set i d) (vs.set i v)
  | [], vs, _, _, _, h, _ => by unfold Rps at h; subst h; exact Rps.nil
  | e :: ds, vs, d, v, 0, h, r => by
    unfold Rps at h
    obtain ⟨u, us, rfl, q, s⟩ := h
    exact Rps.cons r s
  | e :: ds, vs, d, v, i + 1, h, r => by
    unfold Rps at h
    obtain ⟨u, us, rfl, q, s⟩ := h
    exact Rps.cons q (Rps.set i s r)
theorem Rps.drop : ∀ {ds : List D} {vs : List V} (i : Nat), Rps K T ω ds vs → Rps K T ω (ds.drop i) (vs.drop i)
  | ds, vs, 0, h => h
  | [], vs, i + 1, h => by unfold Rps at h; subst h; exact Rps.nil
  | e :: ds, vs, i + 1, h => by
    unfold Rps at h
    obtain ⟨u, us, rfl, q, s⟩ := h
    exact Rps.drop i s
theorem Rps.take : ∀ {ds : List D} {vs : List V} (i : Nat), Rps K T ω ds vs → Rps K T ω (ds.take i) (vs.take i)
  | ds, vs, 0, h => by simpa using Rps.nil
  | [], vs, i + 1, h => by unfold Rps at h; subst h; exact Rps.nil
  | e :: ds, vs, i + 1, h => by
    unfold Rps at h
    obtain ⟨u, us, rfl, q, s⟩ := h
    exact Rps.cons q (Rps.take i s)
theorem Rps.dropLast : ∀ {ds : List D} {vs : List V}, Rps K T ω ds vs → Rps K T ω ds.dropLast vs.dropLast := fun {ds vs} h => by
  rw [List.dropLast_eq_take, List.dropLast_eq_take, h.length]
  exact h.take _
theorem Rps.ints : ∀ {ds : List D} {vs : List V} {ns : List Int}, Rps K T ω ds vs → intsOf ds = some ns → vs = ns.map V.int
  | [], vs, ns, h, e => by
    unfold Rps at h; subst h
    cases e; rfl
  | d :: ds, vs, ns, h, e => by
    unfold Rps at h
    obtain ⟨u, us, rfl, q, s⟩ := h
    cases d <;> try (simp [intsOf] at e; done)
    rename_i i
    cases e1 : intsOf ds with
    | none => simp [intsOf, e1] at e
    | some ms =>
      simp [intsOf, e1] at e
      subst e
      unfold Rp at q
      rw [q, Rps.ints s e1]; rfl
theorem Rps.strs : ∀ {ds : List D} {vs : List V} {ns : List Str}, Rps K T ω ds vs → strsOf ds = some ns → vs = ns.map V.str
  | [], vs, ns, h, e => by
    unfold Rps at h; subst h
    cases e; rfl
  | d :: ds, vs, ns, h, e => by
    unfold Rps at h
    obtain ⟨u, us, rfl, q, s⟩ := h
    cases d <;> try (simp [strsOf] at e; done)
    rename_i i
    cases e1 : strsOf ds with
    | none => simp [strsOf, e1] at e
    | some ms =>
      simp [strsOf, e1] at e
      subst e
      unfold Rp at q
      rw [q, Rps.strs s e1]; rfl
theorem Rps.bls : ∀ {ds : List D} {vs : List V} {ns : List Bool}, Rps K T ω ds vs → blsOf ds = some ns → vs = ns.map V.bl
  | [], vs, ns, h, e => by
    unfold Rps at h; subst h
    cases e; rfl
  | d :: ds, vs, ns, h, e => by
    unfold Rps at h
    obtain ⟨u, us, rfl, q, s⟩ := h
    cases d <;> try (simp [blsOf] at e; done)
    rename_i i
    cases e1 : blsOf ds with
    | none => simp [blsOf, e1] at e
    | some ms =>
      simp [blsOf, e1] at e
      subst e
      unfold Rp at q
      rw [q, Rps.bls s e1]; rfl
theorem Rps.of_ints (ns : List Int) : Rps K T ω (ns.map D.int) (ns.map V.int) := by
  induction ns with
  | nil => exact Rps.nil
  | cons i ns ih => exact Rps.cons (by unfold Rp; rfl) ih
end
theorem Rp.ext {K : PySem.W.Frag} {T : Tb} {ω ω' : Wd} {S S' : Store} {H H' : Hp} {d : D} {v : V} (h : Rp K T ω d v) (e : Ext ω S H ω' S' H') : Rp K T ω' d v := Rp.mono e.fix e.al e.len e.ao e.lenO d v h
theorem Rps.ext {K : PySem.W.Frag} {T : Tb} {ω ω' : Wd} {S S' : Store} {H H' : Hp} {d : List D} {v : List V} (h : Rps K T ω d v) (e : Ext ω S H ω' S' H') : Rps K T ω' d v := Rps.mono e.fix e.al e.len e.ao e.lenO d v h
def Rs (K : PySem.W.Frag) (T : Tb) (ω : Wd) (s : Sl) (σ : St) : Prop := s.length = σ.length ∧ ∀ (i : Nat) (d : D), s[i]? = some (some d) → ∃ v, σ[i]? = some (some v) ∧ Rp K T ω d v
section
variable {K : PySem.W.Frag} {T : Tb} {ω ω' : Wd} {S S' : Store} {H H' : Hp} {s : Sl} {σ : St}
theorem Rs.ext (h : Rs K T ω s σ) (e : Ext ω S H ω' S' H') : Rs K T ω' s σ := ⟨h.1, fun i d q => by
  obtain ⟨v, e1, r⟩ := h.2 i d q
  exact ⟨v, e1, r.ext e⟩⟩
theorem Rs.set (h : Rs K T ω s σ) {d : D} {v : V} (r : Rp K T ω d v) (i : Nat) : Rs K T ω (s.set i (some d)) (σ.set i (some v)) := by
  refine ⟨by rw [List.length_set, List.length_set]; exact h.1, fun j e q => ?_⟩
  by_cases hj : i = j
  · subst hj
    by_cases hl : i < s.length
    · rw [List.getElem?_set_self hl] at q
      cases q
      exact ⟨v, List.getElem?_set_self (h.1 ▸ hl), r⟩
    · rw [List.getElem?_eq_none (by simpa using hl)] at q
      cases q
  · rw [List.getElem?_set_ne hj] at q
    obtain ⟨u, e1, e2⟩ := h.2 j e q
    exact ⟨u, by rw [List.getElem?_set_ne hj]; exact e1, e2⟩
theorem Rs.drop (h : Rs K T ω s σ) (i : Nat) : Rs K T ω (s.set i none) (σ.set i none) := by
  refine ⟨by rw [List.length_set, List.length_set]; exact h.1, fun j e q => ?_⟩
  by_cases hj : i = j
  · subst hj
    by_cases hl : i < s.length
    · rw [List.getElem?_set_self hl] at q
      cases q
    · rw [List.getElem?_eq_none (by simpa using hl)] at q
      cases q
  · rw [List.getElem?_set_ne hj] at q
    obtain ⟨u, e1, e2⟩ := h.2 j e q
    exact ⟨u, by rw [List.getElem?_set_ne hj]; exact e1, e2⟩
end
end Q
set_option maxHeartbeats 1000000
namespace Q
open PySem PySem.Spec PyProof.Rows L2
structure Tx extends Tb where
  fld : Nat → Str
def ExR (K : PySem.W.Frag) (T : Tx) (ω : Wd) (e : Ex) (cls : Value) (dd : Option Addr) : Prop :=
  cls = .ref (T.cl e.cls) ∧ match e.args with
    | [] => dd = none
    | [x] => ∃ d v, dd = some d ∧ ω.F d = some (.xd [(T.fld e.cls, v)]) ∧ Rp K T.toTb ω x v
    | _ => False
section
variable {K : PySem.W.Frag} {T : Tx} {α β γ δ : Type}
def EPg (K : PySem.W.Frag) (T : Tx) (R : Wd → α → β → Prop) (W : WX) (σ : L2.St) (ω : Wd) (S : Store) (H : Hp) (r : Res α) (Qv : β → Hp → Prop) : Prop := match r with
  | .ok d S' => ∀ ω' H' v, Ext ω S H ω' S' H' → Rl K T.toTb ω' S' H' → R ω' d v → Qv v H'
  | .ex e S' => ∀ ω' H' cls dd, Ext ω S H ω' S' H' → Rl K T.toTb ω' S' H' → ExR K T ω' e cls dd → W cls dd σ H'
  | .err => False
theorem EPg.shift {R : Wd → α → β → Prop} {W : WX} {σ : L2.St} {ω ω1 : Wd} {S S1 : Store} {H H1 : Hp} {r : Res α} {Qv : β → Hp → Prop} (e : Ext ω S H ω1 S1 H1) (h : EPg K T R W σ ω S H r Qv) : EPg K T R W σ ω1 S1 H1 r Qv := by
  cases r with
  | ok d S' => exact fun ω' H' v x => h ω' H' v (e.trans x)
  | ex q S' => exact fun ω' H' c dd x => h ω' H' c dd (e.trans x)
  | err => exact h
theorem EPg.bind {R : Wd → α → β → Prop} {R2 : Wd → γ → δ → Prop} {W : WX} {σ : L2.St} {ω : Wd} {S : Store} {H : Hp} {r : Res α} {k : α → Store → Res γ} {Qv : δ → Hp → Prop} (h : EPg K T R2 W σ ω S H (r.bind k) Qv) :
    EPg K T R W σ ω S H r (fun v H1 => ∃ ω1 S1 d, Ext ω S H ω1 S1 H1 ∧ Rl K T.toTb ω1 S1 H1 ∧ R ω1 d v ∧ EPg K T R2 W σ ω1 S1 H1 (k d S1) Qv) := by
  cases r with
  | ok d S' => exact fun ω' H' v e rl rp => ⟨ω', S', d, e, rl, rp, EPg.shift e h⟩
  | ex q S' => exact h
  | err => exact h
theorem EPg.mono {R : Wd → α → β → Prop} {W : WX} {σ : L2.St} {ω : Wd} {S : Store} {H : Hp} {r : Res α} {Qv Qw : β → Hp → Prop} (h : EPg K T R W σ ω S H r Qv) (hq : ∀ v H, Qv v H → Qw v H) : EPg K T R W σ ω S H r Qw := by
  cases r with
  | ok d S' => exact fun ω' H' v e rl rp => hq _ _ (h ω' H' v e rl rp)
  | ex q S' => exact h
  | err => exact h
theorem EPg.now {R : Wd → α → β → Prop} {W : WX} {σ : L2.St} {ω : Wd} {S : Store} {H : Hp} {d : α} {v : β} {Qv : β → Hp → Prop} (h : EPg K T R W σ ω S H (.ok d S) Qv) (rl : Rl K T.toTb ω S H) (r : R ω d v) : Qv v H := h ω H v Ext.refl rl r
def tEr (K : PySem.W.Frag) (T : Tx) (W : WX) (t : Q.TE) : L2.TE := fun σ H Qv => ∃ s S ω, Rl K T.toTb ω S H ∧ Rs K T.toTb ω s σ ∧ EPg K T (Rp K T.toTb) W σ ω S H (t s S) Qv
def tAr (K : PySem.W.Frag) (T : Tx) (W : WX) (t : Q.TA) : L2.TA := fun σ H Qv => ∃ s S ω, Rl K T.toTb ω S H ∧ Rs K T.toTb ω s σ ∧ EPg K T (Rps K T.toTb) W σ ω S H (t s S) Qv
def asBool (r : Res D) : Res D := r.bind fun d S => asB d S fun b S => .ok (.bl b) S
def Rb : Wd → D → Bool → Prop := fun _ d b => d = .bl b
def tTr (K : PySem.W.Frag) (T : Tx) (W : WX) (t : Q.TE) : L2.TT := fun σ H Qv => ∃ s S ω, Rl K T.toTb ω S H ∧ Rs K T.toTb ω s σ ∧ EPg K T Rb W σ ω S H (asBool (t s S)) Qv
end
def GE (X : Cx) (T : Tx) (W : WX) (e : Expr) (t : Q.TE) : Prop := PE X e (tEr X.K T W t)
def GA (X : Cx) (T : Tx) (W : WX) (es : List Expr) (ts : List Q.TE) : Prop := PA X es (tAr X.K T W (eArgs ts))
def GT (X : Cx) (T : Tx) (W : WX) (e : Expr) (t : Q.TE) : Prop := PT X e (tTr X.K T W t)
def GW (X : Cx) (T : Tx) (W : WX) (e : Expr) (t : Q.TE) : Prop := PW X e (tTr X.K T W t)
theorem PE.imp {X : Cx} {e : Expr} {t t' : L2.TE} (h : PE X e t) (i : ∀ σ H Qv, t' σ H Qv → t σ H Qv) : PE X e t' := ⟨fun pins s σ H Qv I q => h.run pins s σ H Qv I (i _ _ _ q)⟩
theorem PT.imp {X : Cx} {e : Expr} {t t' : L2.TT} (h : PT X e t) (i : ∀ σ H Qv, t' σ H Qv → t σ H Qv) : PT X e t' := ⟨fun pins s σ H Qv I q => h.run pins s σ H Qv I (i _ _ _ q)⟩
theorem PW.imp {X : Cx} {e : Expr} {t t' : L2.TT} (h : PW X e t) (i : ∀ σ H Qv, t' σ H Qv → t σ H Qv) : PW X e t' := ⟨fun wh pins s σ H Qv I q => h.run wh pins s σ H Qv I (i _ _ _ q)⟩
theorem PA.imp {X : Cx} {es : List Expr} {t t' : L2.TA} (h : PA X es t) (i : ∀ σ H Qv, t' σ H Qv → t σ H Qv) : PA X es t' := ⟨fun pos pins s σ H Qv I q => h.run pos pins s σ H Qv I (i _ _ _ q)⟩
section
variable {X : Cx} {T : Tx} {W : WX} {a b c e : Expr} {es : List Expr} {ta tb tc : Q.TE} {ts : List Q.TE} {pos : Pos}
theorem ge_var (i : Nat) (h : PE X e (tVar i)) : GE X T W e (eV i) := PE.imp h fun σ H Qv ⟨s, S, ω, rl, rs, q⟩ => by
  unfold eV at q
  cases e1 : s[i]? with
  | none => rw [e1] at q; exact q.elim
  | some o => cases o with
    | none => rw [e1] at q; exact q.elim
    | some d =>
      rw [e1] at q
      obtain ⟨v, h1, h2⟩ := rs.2 i d e1
      exact ⟨v, h1, q.now rl h2⟩
theorem ge_c {v : V} {d : D} (h : PE X e (tC v)) (r : ∀ ω, Rp X.K T.toTb ω d v) : GE X T W e (eC d) := PE.imp h fun σ H Qv ⟨s, S, ω, rl, rs, q⟩ => q.now rl (r ω)
theorem ge_int {i j} : GE X T W (.Constant (.int i) j pos) (eC (.int i)) := ge_c pe_int fun _ => by unfold Rp; rfl
theorem ge_bl {b j} : GE X T W (.Constant (.bool b) j pos) (eC (.bl b)) := ge_c pe_bl fun _ => by unfold Rp; rfl
theorem ge_non {j} : GE X T W (.Constant .none j pos) (eC .non) := ge_c pe_non fun _ => by unfold Rp; rfl
theorem ge_str {x j} : GE X T W (.Constant (.str x) j pos) (eC (.str x)) := ge_c pe_str fun _ => by unfold Rp; rfl
theorem ge_gint {x : Str} {i : Int} {u : Value} (hg : Gl X x) (hm : X.mg x = some u) (r : RelV (.int i) u) (hd : (x == ("__debug__" : Str)) = false := by decide) : GE X T W (.Name x pos) (eC (.int i)) := ge_c (pe_glob hg hm r hd) fun _ => by unfold Rp; rfl
theorem ge_gstr {x z : Str} {u : Value} (hg : Gl X x) (hm : X.mg x = some u) (r : RelV (.str z) u) (hd : (x == ("__debug__" : Str)) = false := by decide) : GE X T W (.Name x pos) (eC (.str z)) := ge_c (pe_glob hg hm r hd) fun _ => by unfold Rp; rfl
theorem ge_gtup {x : Str} {a : Addr} {ds : List D} {vs : List V} (hg : Gl X x) (hm : X.mg x = some (.ref a)) (q : ∀ H, SqT X.K H a vs) (r : ∀ ω, Rps X.K T.toTb ω ds vs) (hd : (x == ("__debug__" : Str)) = false := by decide) : GE X T W (.Name x pos) (eC (.tup ds)) :=
  ge_c (pe_glob hg hm (v := .ref a) rfl hd) fun ω => by unfold Rp; exact ⟨a, vs, rfl, q _, r ω⟩
theorem ga_nil : GA X T W [] [] := PA.imp pa_nil fun σ H Qv ⟨s, S, ω, rl, rs, q⟩ => q.now rl Rps.nil
theorem ga_cons (ha : GE X T W a ta) (hr : GA X T W es ts) (hs : starEach (a :: es) X.env = (false, eval a X.env) :: starEach es X.env := by rfl) : GA X T W (a :: es) (ta :: ts) :=
  PA.imp (pa_cons ha hr hs) fun σ H Qv ⟨s, S, ω, rl, rs, q⟩ => by
    refine ⟨s, S, ω, rl, rs, (EPg.bind q).mono ?_⟩
    rintro v H1 ⟨ω1, S1, d, e1, rl1, r1, q1⟩
    refine ⟨s, S1, ω1, rl1, rs.ext e1, (EPg.bind q1).mono ?_⟩
    rintro vs H2 ⟨ω2, S2, ds, e2, rl2, r2, q2⟩
    exact q2.now rl2 (Rps.cons (r1.ext e2) r2)
def PQ (K : PySem.W.Frag) (T : Tx) (ω : Wd) (S : Store) (H : Hp) (o : Option (D × Store)) (Qv : VK) : Prop := match o with
  | some (d, S') => ∀ ω' H' v, Ext ω S H ω' S' H' → Rl K T.toTb ω' S' H' → Rp K T.toTb ω' d v → Qv v H'
  | none => False
theorem PQ.of {σ : L2.St} {ω : Wd} {S : Store} {H : Hp} {o : Option (D × Store)} {Qv : VK} (h : EPg X.K T (Rp X.K T.toTb) W σ ω S H (ofO o) Qv) : PQ X.K T ω S H o Qv := by
  cases o with
  | none => exact h
  | some p => exact h
theorem PQ.now {K : PySem.W.Frag} {ω : Wd} {S : Store} {H : Hp} {d : D} {v : V} {Qv : VK} (h : PQ K T ω S H (some (d, S)) Qv) (rl : Rl K T.toTb ω S H) (r : Rp K T.toTb ω d v) : Qv v H := h ω H v Ext.refl rl r
def Ok1 (K : PySem.W.Frag) (T : Tx) (r : V → Hp → VK → Prop) (f : Op1) : Prop := ∀ ω S H x u Qv, Rl K T.toTb ω S H → Rp K T.toTb ω x u → PQ K T ω S H (f x S) Qv → r u H Qv
def Ok2 (K : PySem.W.Frag) (T : Tx) (r : R2) (f : Op2) : Prop := ∀ ω S H x y u v Qv, Rl K T.toTb ω S H → Rp K T.toTb ω x u → Rp K T.toTb ω y v → PQ K T ω S H (f x y S) Qv → r u v H Qv
def OkN (K : PySem.W.Frag) (T : Tx) (r : List V → Hp → VK → Prop) (f : OpN) : Prop := ∀ ω S H xs us Qv, Rl K T.toTb ω S H → Rps K T.toTb ω xs us → PQ K T ω S H (f xs S) Qv → r us H Qv
theorem tOp_ok {r : R2} {f : Op2} (hf : Ok2 X.K T r f) (σ : L2.St) (H : Hp) (Qv : VK) (h : tEr X.K T W (e2 f ta tb) σ H Qv) : tOp r (tEr X.K T W ta) (tEr X.K T W tb) σ H Qv := by
  obtain ⟨s, S, ω, rl, rs, q⟩ := h
  refine ⟨s, S, ω, rl, rs, (EPg.bind q).mono ?_⟩
  rintro v H1 ⟨ω1, S1, d, e1, rl1, r1, q1⟩
  refine ⟨s, S1, ω1, rl1, rs.ext e1, (EPg.bind q1).mono ?_⟩
  rintro u H2 ⟨ω2, S2, d2, e2, rl2, r2, q2⟩
  exact hf _ _ _ _ _ _ _ _ rl2 (r1.ext e2) r2 (PQ.of q2)
theorem ge_op {op : Operator} {r : R2} {f : Op2} (ho : OpR X (binaryOp op) r) (hf : Ok2 X.K T r f) (ha : GE X T W a ta) (hb : GE X T W b tb) : GE X T W (.BinOp a op b pos) (e2 f ta tb) := PE.imp (pe_op ho ha hb) (tOp_ok hf)
theorem ge_cmp {op : CmpOp} {r : R2} {f : Op2} (ho : OpR X (compareOp op) r) (hf : Ok2 X.K T r f) (ha : GE X T W a ta) (hb : GE X T W b tb) (hm : behindInMarks op b = false) : GE X T W (.Compare a [op] [b] pos) (e2 f ta tb) := PE.imp (pe_cmpR ho ha hb hm) (tOp_ok hf)
theorem ge_ix {r : R2} {f : Op2} (hr : IxR X r) (hf : Ok2 X.K T r f) (ha : GE X T W a ta) (hb : GE X T W b tb) (hs : PlainIx b) : GE X T W (.Subscript a b pos) (e2 f ta tb) := PE.imp (pe_ix hr ha hb hs) (tOp_ok hf)
theorem ge_un {op : UnaryOp} {r : V → Hp → VK → Prop} {f : Op1} (ho : UnR X (unaryOp op) r) (hf : Ok1 X.K T r f) (ha : GE X T W a ta) : GE X T W (.UnaryOp op a pos) (e1 f ta) := PE.imp (pe_un ho ha) fun σ H Qv ⟨s, S, ω, rl, rs, q⟩ => by
  refine ⟨s, S, ω, rl, rs, (EPg.bind q).mono ?_⟩
  rintro v H1 ⟨ω1, S1, d, e1, rl1, r1, q1⟩
  exact hf _ _ _ _ _ _ rl1 r1 (PQ.of q1)
theorem ge_isN {j pos'} (ha : GE X T W a ta) : GE X T W (.Compare a [.Is] [.Constant .none j pos'] pos) (e1 oIsN ta) := PE.imp (pe_cmp (pc_isN ha)) fun σ H Qv ⟨s, S, ω, rl, rs, q⟩ => by
  refine ⟨s, S, ω, rl, rs, (EPg.bind q).mono ?_⟩
  rintro v H1 ⟨ω1, S1, d, e1, rl1, r1, q1⟩
  refine (PQ.of q1).now rl1 ?_
  cases d <;> unfold Rp at r1 <;> unfold Rp <;> first | (subst r1; rfl) | (obtain ⟨_, _, rfl, _⟩ := r1; rfl) | (obtain ⟨_, rfl⟩ := r1; rfl) | (obtain ⟨_, _, _, rfl, _⟩ := r1; rfl) | (obtain ⟨_, rfl, _⟩ := r1; rfl)
theorem ge_notN {j pos'} (ha : GE X T W a ta) : GE X T W (.Compare a [.IsNot] [.Constant .none j pos'] pos) (e1 oNotN ta) := PE.imp (pe_cmp (pc_notN ha)) fun σ H Qv ⟨s, S, ω, rl, rs, q⟩ => by
  refine ⟨s, S, ω, rl, rs, (EPg.bind q).mono ?_⟩
  rintro v H1 ⟨ω1, S1, d, e1, rl1, r1, q1⟩
  refine (PQ.of q1).now rl1 ?_
  cases d <;> unfold Rp at r1 <;> unfold Rp <;> first | (subst r1; rfl) | (obtain ⟨_, _, rfl, _⟩ := r1; rfl) | (obtain ⟨_, rfl⟩ := r1; rfl) | (obtain ⟨_, _, _, rfl, _⟩ := r1; rfl) | (obtain ⟨_, rfl, _⟩ := r1; rfl)
theorem ge_chain {op op' : CmpOp} {r r' : R2} {f g : Op2} (ho : OpR X (compareOp op) r) (ho' : OpR X (compareOp op') r') (hf : Ok2 X.K T r f) (hg : Ok2 X.K T r' g) (ha : GE X T W a ta) (hb : GE X T W b tb) (hc : GE X T W c tc)
    (h : PE X (.Compare a [op, op'] [b, c] pos) (tChain r r' (tEr X.K T W ta) (tEr X.K T W tb) (tEr X.K T W tc))) : GE X T W (.Compare a [op, op'] [b, c] pos) (eChain f g ta tb tc) := PE.imp h fun σ H Qv ⟨s, S, ω, rl, rs, q⟩ => by
  refine ⟨s, S, ω, rl, rs, (EPg.bind q).mono ?_⟩
  rintro v H1 ⟨ω1, S1, d, e1, rl1, r1, q1⟩
  refine ⟨s, S1, ω1, rl1, rs.ext e1, (EPg.bind q1).mono ?_⟩
  rintro u H2 ⟨ω2, S2, d2, e2, rl2, r2, q2⟩
  refine hf ω2 S2 H2 d d2 v u _ rl2 (r1.ext e2) r2 (PQ.of (X := X) (T := T) (W := W) (σ := σ) ((EPg.bind q2).mono ?_))
  rintro z H3 ⟨ω3, S3, d3, e3, rl3, r3, q3⟩
  cases d3 <;> try exact q3.elim
  rename_i k
  unfold Rp at r3
  refine ⟨k, r3, ?_⟩
  cases k with
  | false => exact iteF (q3.now rl3 (by unfold Rp; rfl))
  | true =>
    refine iteT ?_
    have e23 := e2.trans e3
    refine ⟨s, S3, ω3, rl3, (rs.ext e1).ext e23, (EPg.bind q3).mono ?_⟩
    rintro y H4 ⟨ω4, S4, d4, e4, rl4, r4, q4⟩
    exact hg _ _ _ _ _ _ _ _ rl4 ((r2.ext e3).ext e4) r4 (PQ.of q4)
theorem asB_bl {ω : Wd} {d : D} {v : V} {S : Store} {k : Bool → Store → Res D} {σ : L2.St} {H : Hp} {Qv : VK} (r : Rp X.K T.toTb ω d v) (q : EPg X.K T (Rp X.K T.toTb) W σ ω S H (asB d S k) Qv) : ∃ b, d = .bl b ∧ v = .bl b ∧ EPg X.K T (Rp X.K T.toTb) W σ ω S H (k b S) Qv := by
  cases d <;> try exact q.elim
  rename_i b
  unfold Rp at r
  exact ⟨b, rfl, r, q⟩
theorem ge_one {op} (h : GE X T W a ta) : GE X T W (.BoolOp op [a] pos) ta := pe_one h
theorem ge_and (ha : GE X T W a ta) (hb : GE X T W (.BoolOp .And (b :: es) pos) tb) : GE X T W (.BoolOp .And (a :: b :: es) pos) (eAnd ta tb) := PE.imp (pe_and ha hb) fun σ H Qv ⟨s, S, ω, rl, rs, q⟩ => by
  refine ⟨s, S, ω, rl, rs, (EPg.bind q).mono ?_⟩
  rintro v H1 ⟨ω1, S1, d, e1, rl1, r1, q1⟩
  obtain ⟨k, rfl, rfl, q2⟩ := asB_bl r1 q1
  refine ⟨k, rfl, ?_⟩
  cases k with
  | true => exact iteT ⟨s, S1, ω1, rl1, rs.ext e1, q2⟩
  | false => exact iteF (q2.now rl1 (by unfold Rp; rfl))
theorem ge_or (ha : GE X T W a ta) (hb : GE X T W (.BoolOp .Or (b :: es) pos) tb) : GE X T W (.BoolOp .Or (a :: b :: es) pos) (eOr ta tb) := PE.imp (pe_or ha hb) fun σ H Qv ⟨s, S, ω, rl, rs, q⟩ => by
  refine ⟨s, S, ω, rl, rs, (EPg.bind q).mono ?_⟩
  rintro v H1 ⟨ω1, S1, d, e1, rl1, r1, q1⟩
  obtain ⟨k, rfl, rfl, q2⟩ := asB_bl r1 q1
  refine ⟨k, rfl, ?_⟩
  cases k with
  | false => exact iteF ⟨s, S1, ω1, rl1, rs.ext e1, q2⟩
  | true => exact iteT (q2.now rl1 (by unfold Rp; rfl))
theorem ge_not (ha : GE X T W a ta) : GE X T W (.UnaryOp .Not a pos) (eNot ta) := PE.imp (pe_not ha) fun σ H Qv ⟨s, S, ω, rl, rs, q⟩ => by
  refine ⟨s, S, ω, rl, rs, (EPg.bind q).mono ?_⟩
  rintro v H1 ⟨ω1, S1, d, e1, rl1, r1, q1⟩
  obtain ⟨k, rfl, rfl, q2⟩ := asB_bl r1 q1
  exact ⟨k, rfl, q2.now rl1 (by unfold Rp; rfl)⟩
theorem gt_val (h : GE X T W a ta) (he : ∀ whole, isTrue a X.env whole = (do let v ← whole; standAt a.pos; holding [v] (truthy v)) := by intro _; rfl) : GT X T W a ta := PT.imp (pt_val h he) fun σ H Qv ⟨s, S, ω, rl, rs, q⟩ => by
  refine ⟨s, S, ω, rl, rs, (EPg.bind q).mono ?_⟩
  rintro v H1 ⟨ω1, S1, d, e1, rl1, r1, q1⟩
  cases d <;> try exact q1.elim
  rename_i k
  unfold Rp at r1
  exact ⟨k, r1, q1.now rl1 rfl⟩
theorem tTest_ok {X : Cx} {T : Tx} {W : WX} {t : Q.TE} {tv : L2.TE} (hv : ∀ σ H Qv, tEr X.K T W t σ H Qv → tv σ H Qv) (σ : L2.St) (H : Hp) (Qv : Bool → Hp → Prop) (h : tTr X.K T W t σ H Qv) : tTest tv σ H Qv := by
  obtain ⟨s, S, ω, rl, rs, q⟩ := h
  refine hv _ _ _ ⟨s, S, ω, rl, rs, (EPg.bind q).mono ?_⟩
  rintro v H1 ⟨ω1, S1, d, e1, rl1, r1, q1⟩
  cases d <;> try exact q1.elim
  rename_i k
  unfold Rp at r1
  exact ⟨k, r1, q1.now rl1 rfl⟩
theorem gt_cmp {op : CmpOp} {r : R2} {f : Op2} (ho : OpR X (compareOp op) r) (hf : Ok2 X.K T r f) (ha : GE X T W a ta) (hb : GE X T W b tb) (hm : behindInMarks op b = false) : GT X T W (.Compare a [op] [b] pos) (e2 f ta tb) :=
  PT.imp (pt_cmpR ho ha hb hm) (tTest_ok (tOp_ok hf))
theorem gt_isN {j pos'} (ha : GE X T W a ta) : GT X T W (.Compare a [.Is] [.Constant .none j pos'] pos) (e1 oIsN ta) := PT.imp (pt_cmp (pc_isN ha)) (by
  refine tTest_ok (X := X) (T := T) (W := W) (tv := tIsN (tEr X.K T W ta)) fun σ H Qv ⟨s, S, ω, rl, rs, q⟩ => ?_
  refine ⟨s, S, ω, rl, rs, (EPg.bind q).mono ?_⟩
  rintro v H1 ⟨ω1, S1, d, e1, rl1, r1, q1⟩
  refine (PQ.of q1).now rl1 ?_
  cases d <;> unfold Rp at r1 <;> unfold Rp <;> first | (subst r1; rfl) | (obtain ⟨_, _, rfl, _⟩ := r1; rfl) | (obtain ⟨_, rfl⟩ := r1; rfl) | (obtain ⟨_, _, _, rfl, _⟩ := r1; rfl) | (obtain ⟨_, rfl, _⟩ := r1; rfl))
theorem gt_notN {j pos'} (ha : GE X T W a ta) : GT X T W (.Compare a [.IsNot] [.Constant .none j pos'] pos) (e1 oNotN ta) := PT.imp (pt_cmp (pc_notN ha)) (by
  refine tTest_ok (X := X) (T := T) (W := W) (tv := tNotN (tEr X.K T W ta)) fun σ H Qv ⟨s, S, ω, rl, rs, q⟩ => ?_
  refine ⟨s, S, ω, rl, rs, (EPg.bind q).mono ?_⟩
  rintro v H1 ⟨ω1, S1, d, e1, rl1, r1, q1⟩
  refine (PQ.of q1).now rl1 ?_
  cases d <;> unfold Rp at r1 <;> unfold Rp <;> first | (subst r1; rfl) | (obtain ⟨_, _, rfl, _⟩ := r1; rfl) | (obtain ⟨_, rfl⟩ := r1; rfl) | (obtain ⟨_, _, _, rfl, _⟩ := r1; rfl) | (obtain ⟨_, rfl, _⟩ := r1; rfl))
theorem gt_chain {op op' : CmpOp} {r r' : R2} {f g : Op2} (ho : OpR X (compareOp op) r) (ho' : OpR X (compareOp op') r') (hf : Ok2 X.K T r f) (hg : Ok2 X.K T r' g) (ha : GE X T W a ta) (hb : GE X T W b tb) (hc : GE X T W c tc)
    (h : PT X (.Compare a [op, op'] [b, c] pos) (tTest (tChain r r' (tEr X.K T W ta) (tEr X.K T W tb) (tEr X.K T W tc)))) : GT X T W (.Compare a [op, op'] [b, c] pos) (eChain f g ta tb tc) := PT.imp h (tTest_ok (X := X) (T := T) (W := W) fun σ H Qv ⟨s, S, ω, rl, rs, q⟩ => by
  refine ⟨s, S, ω, rl, rs, (EPg.bind q).mono ?_⟩
  rintro v H1 ⟨ω1, S1, d, e1, rl1, r1, q1⟩
  refine ⟨s, S1, ω1, rl1, rs.ext e1, (EPg.bind q1).mono ?_⟩
  rintro u H2 ⟨ω2, S2, d2, e2, rl2, r2, q2⟩
  refine hf ω2 S2 H2 d d2 v u _ rl2 (r1.ext e2) r2 (PQ.of (X := X) (T := T) (W := W) (σ := σ) ((EPg.bind q2).mono ?_))
  rintro z H3 ⟨ω3, S3, d3, e3, rl3, r3, q3⟩
  cases d3 <;> try exact q3.elim
  rename_i k
  unfold Rp at r3
  refine ⟨k, r3, ?_⟩
  cases k with
  | false => exact iteF (q3.now rl3 (by unfold Rp; rfl))
  | true =>
    refine iteT ?_
    have e23 := e2.trans e3
    refine ⟨s, S3, ω3, rl3, (rs.ext e1).ext e23, (EPg.bind q3).mono ?_⟩
    rintro y H4 ⟨ω4, S4, d4, e4, rl4, r4, q4⟩
    exact hg _ _ _ _ _ _ _ _ rl4 ((r2.ext e3).ext e4) r4 (PQ.of q4))
theorem GW.gt (h : GW X T W a ta) : GT X T W a ta := PW.pt h
theorem bool_bind {R : Wd → D → Bool → Prop} {σ : L2.St} {ω : Wd} {S : Store} {H : Hp} {r : Res D} {k : Bool → Store → Res D} {Qv : Bool → Hp → Prop} (h : EPg X.K T Rb W σ ω S H (asBool (r.bind fun x S1 => asB x S1 k)) Qv) :
    EPg X.K T Rb W σ ω S H (asBool r) (fun c H1 => ∃ ω1 S1, Ext ω S H ω1 S1 H1 ∧ Rl X.K T.toTb ω1 S1 H1 ∧ EPg X.K T Rb W σ ω1 S1 H1 (asBool (k c S1)) Qv) := by
  cases r with
  | ok d S' =>
    cases d <;> try exact h
    rename_i b
    intro ω' H' c e rl r
    cases r
    exact ⟨ω', S', e, rl, EPg.shift e h⟩
  | ex q S' => exact h
  | err => exact h
theorem gw_and1 (ha : GT X T W a ta) : GW X T W (.BoolOp .And [a] pos) ta := pw_and1 ha
theorem gw_or1 (ha : GT X T W a ta) : GW X T W (.BoolOp .Or [a] pos) ta := pw_or1 ha
theorem gw_and (ha : GT X T W a ta) (hb : GW X T W (.BoolOp .And (b :: es) pos) tb) : GW X T W (.BoolOp .And (a :: b :: es) pos) (eAnd ta tb) := PW.imp (pw_and ha hb) fun σ H Qv ⟨s, S, ω, rl, rs, q⟩ => by
  refine ⟨s, S, ω, rl, rs, (bool_bind (R := Rb) q).mono ?_⟩
  rintro k H1 ⟨ω1, S1, e1, rl1, q1⟩
  cases k with
  | true => exact iteT ⟨s, S1, ω1, rl1, rs.ext e1, q1⟩
  | false => exact iteF (q1.now rl1 rfl)
theorem gw_or (ha : GT X T W a ta) (hb : GW X T W (.BoolOp .Or (b :: es) pos) tb) : GW X T W (.BoolOp .Or (a :: b :: es) pos) (eOr ta tb) := PW.imp (pw_or ha hb) fun σ H Qv ⟨s, S, ω, rl, rs, q⟩ => by
  refine ⟨s, S, ω, rl, rs, (bool_bind (R := Rb) q).mono ?_⟩
  rintro k H1 ⟨ω1, S1, e1, rl1, q1⟩
  cases k with
  | false => exact iteF ⟨s, S1, ω1, rl1, rs.ext e1, q1⟩
  | true => exact iteT (q1.now rl1 rfl)
theorem gt_not (ha : GT X T W a ta) : GT X T W (.UnaryOp .Not a pos) (eNot ta) := PT.imp (pt_not ha) fun σ H Qv ⟨s, S, ω, rl, rs, q⟩ => by
  refine ⟨s, S, ω, rl, rs, (bool_bind (R := Rb) q).mono ?_⟩
  rintro k H1 ⟨ω1, S1, e1, rl1, q1⟩
  exact q1.now rl1 rfl
theorem ge_if (hc : GT X T W c tc) (ha : GE X T W a ta) (hb : GE X T W b tb) : GE X T W (.IfExp c a b pos) (eIf tc ta tb) := PE.imp (pe_ifExp hc ha hb) fun σ H Qv ⟨s, S, ω, rl, rs, q⟩ => by
  refine ⟨s, S, ω, rl, rs, ?_⟩
  unfold eIf at q
  cases e0 : tc s S with
  | ok d S' =>
    rw [e0] at q
    cases d <;> try exact q.elim
    rename_i k
    intro ω' H' c e rl r
    cases r
    have q2 := EPg.shift e q
    cases k with
    | true => exact iteT ⟨s, S', ω', rl, rs.ext e, q2⟩
    | false => exact iteF ⟨s, S', ω', rl, rs.ext e, q2⟩
  | ex x S' => rw [e0] at q; exact q
  | err => rw [e0] at q; exact q
theorem Rl.laid {K : PySem.W.Frag} {ω : Wd} {S : Store} {H : Hp} {p : Addr} (rl : Rl K T.toTb ω S H) (hp : H p = none) (o : HO) :
    ∃ ω', Ext ω S H ω' S (upd H p o) ∧ Rl K T.toTb ω' S (upd H p o) ∧ ω'.F p = some o := by
  have hF : ω.F p = none := rl.sub.free hp
  have fx : Same ω.F (upd ω.F p o) := fun b q h => by rw [upd_ne (ne_of_none h hF)]; exact h
  refine ⟨⟨upd ω.F p o, ω.al, ω.n, ω.ao, ω.m⟩, ⟨fx, fun _ _ => rfl, Nat.le_refl _, fun _ _ => rfl, Nat.le_refl _, fun _ es _ h => ⟨es, h⟩, fun b q h n => ⟨?_, ?_⟩⟩, ⟨fun b q h => ?_, rl.len, fun k ds h => ?_, rl.inj, rl.lenO, fun k C fs h => ?_, rl.injO⟩, upd_same⟩
  · rw [upd_ne (ne_of_none h hp)]; exact h
  · rintro (⟨q', h'⟩ | h' | h')
    · have h'' : upd ω.F p o b = some q' := h'
      rw [upd_ne (ne_of_none h hp)] at h''
      exact n (.inl ⟨q', h''⟩)
    · exact n (.inr (.inl h'))
    · exact n (.inr (.inr h'))
  · have h' : upd ω.F p o b = some q := h
    by_cases hb : b = p
    · subst hb; rw [upd_same] at h' ⊢; exact h'
    · rw [upd_ne hb] at h' ⊢; exact rl.sub _ _ h'
  · obtain ⟨h1, h2, vs, h3, h4⟩ := rl.obj k ds h
    have ne : ω.al k ≠ p := ne_of_none h3 hp
    exact ⟨by show upd ω.F p o (ω.al k) = none; rw [upd_ne ne]; exact h1, h2, vs, by show upd H p o (ω.al k) = _; rw [upd_ne ne]; exact h3, Rps.mono (ω := ω) (ω' := ⟨upd ω.F p o, ω.al, ω.n, ω.ao, ω.m⟩) fx (fun _ _ => rfl) (Nat.le_refl _) (fun _ _ => rfl) (Nat.le_refl _) _ _ h4⟩
  · obtain ⟨h1, h2, dx, gs, h3, h4⟩ := rl.objO k C fs h
    have ne : ω.ao k ≠ p := ne_of_none h3 hp
    exact ⟨by show upd ω.F p o (ω.ao k) = none; rw [upd_ne ne]; exact h1, h2, dx, gs, by show upd H p o (ω.ao k) = _; rw [upd_ne ne]; exact h3, Rpf.mono (ω := ω) (ω' := ⟨upd ω.F p o, ω.al, ω.n, ω.ao, ω.m⟩) fx (fun _ _ => rfl) (Nat.le_refl _) (fun _ _ => rfl) (Nat.le_refl _) _ _ h4⟩
theorem Rl.newL {K : PySem.W.Frag} {ω : Wd} {S : Store} {H : Hp} {p : Addr} {ds : List D} {vs : List V} (rl : Rl K T.toTb ω S H) (hp : H p = none) (hf : flats ds = true) (r : Rps K T.toTb ω ds vs) :
    ∃ ω', Ext ω S H ω' (S.new ds) (upd H p (.lst vs)) ∧ Rl K T.toTb ω' (S.new ds) (upd H p (.lst vs)) ∧ Rp K T.toTb ω' (.ptr S.L.length) (.ref p) := by
  have hF : ω.F p = none := rl.sub.free hp
  have al : ∀ k, k < ω.n → (if k = ω.n then p else ω.al k) = ω.al k := fun k hk => if_neg (Nat.ne_of_lt hk)
  have gl : ∀ {k es}, (S.new ds).get k = some es → (k < ω.n ∧ S.get k = some es) ∨ (k = ω.n ∧ es = ds) := fun {k es} h => by
    unfold Store.get Store.new at h
    simp only at h
    by_cases hk : k < S.L.length
    · rw [List.getElem?_append_left hk] at h
      exact .inl ⟨rl.len ▸ hk, h⟩
    · by_cases hk2 : k = S.L.length
      · subst hk2
        simp at h
        exact .inr ⟨rl.len, h.symm⟩
      · rw [List.getElem?_eq_none (by simp; omega)] at h
        cases h
  have hne : ∀ {k es}, S.get k = some es → ω.al k ≠ p := fun {k es} h => by
    obtain ⟨_, _, _, h3, _⟩ := rl.obj k es h
    exact ne_of_none h3 hp
  have mn : ∀ {es us}, Rps K T.toTb ω es us → Rps K T.toTb ⟨ω.F, fun k => if k = ω.n then p else ω.al k, ω.n + 1, ω.ao, ω.m⟩ es us := fun {es us} h => Rps.mono (ω := ω) (ω' := ⟨ω.F, fun k => if k = ω.n then p else ω.al k, ω.n + 1, ω.ao, ω.m⟩) (fun _ _ h => h) al (Nat.le_succ _) (fun _ _ => rfl) (Nat.le_refl _) _ _ h
  have own : ∀ b, Own ⟨ω.F, fun k => if k = ω.n then p else ω.al k, ω.n + 1, ω.ao, ω.m⟩ (S.new ds) b → b ≠ p → Own ω S b := fun b h hb => by
    rcases h with h | ⟨k, es, h, e⟩ | h
    · exact .inl h
    · rcases gl h with ⟨hk, h'⟩ | ⟨hk, _⟩
      · exact .inr (.inl ⟨k, es, h', (al k hk).symm.trans e⟩)
      · subst hk
        have e' : (if ω.n = ω.n then p else ω.al ω.n) = b := e
        rw [if_pos rfl] at e'
        exact absurd e'.symm hb
    · exact .inr (.inr h)
  refine ⟨⟨ω.F, fun k => if k = ω.n then p else ω.al k, ω.n + 1, ω.ao, ω.m⟩, ⟨fun _ _ h => h, al, Nat.le_succ _, fun _ _ => rfl, Nat.le_refl _, fun k es hk h => ⟨es, (gl h).elim (fun z => z.2) fun z => absurd z.1 (Nat.ne_of_lt hk)⟩, fun b q h n => ?_⟩, ⟨fun b q h => ?_, ?_, fun k es h => ?_, fun j k es fs h1 h2 e => ?_, rl.lenO, fun k C fs h => ?_, rl.injO⟩, ?_⟩
  · have hb := ne_of_none h hp
    exact ⟨by rw [upd_ne hb]; exact h, fun z => n (own b z hb)⟩
  · rw [upd_ne (ne_of_none h hF)]; exact rl.sub _ _ h
  · show (S.L ++ [some ds]).length = ω.n + 1
    rw [List.length_append, rl.len]; rfl
  · rcases gl h with ⟨hk, h'⟩ | ⟨hk, e⟩
    · obtain ⟨h1, h2, us, h3, h4⟩ := rl.obj k es h'
      refine ⟨?_, h2, us, ?_, mn h4⟩
      · show ω.F (if k = ω.n then p else ω.al k) = none
        rw [al k hk]; exact h1
      · show upd H p _ (if k = ω.n then p else ω.al k) = _
        rw [al k hk, upd_ne (hne h')]; exact h3
    · subst e
      refine ⟨?_, hf, vs, ?_, mn r⟩
      · show ω.F (if k = ω.n then p else ω.al k) = none
        rw [if_pos hk]; exact hF
      · show upd H p _ (if k = ω.n then p else ω.al k) = _
        rw [if_pos hk, upd_same]
  · have e' : (if j = ω.n then p else ω.al j) = (if k = ω.n then p else ω.al k) := e
    rcases gl h1 with ⟨hj, h1'⟩ | ⟨hj, _⟩ <;> rcases gl h2 with ⟨hk, h2'⟩ | ⟨hk, _⟩
    · rw [al j hj, al k hk] at e'
      exact rl.inj j k _ _ h1' h2' e'
    · rw [al j hj, if_pos hk] at e'
      exact absurd e' (hne h1')
    · rw [al k hk, if_pos hj] at e'
      exact absurd e'.symm (hne h2')
    · rw [hj, hk]
  · obtain ⟨h1, h2, dx, gs, h3, h4⟩ := rl.objO k C fs h
    have ne : ω.ao k ≠ p := ne_of_none h3 hp
    exact ⟨h1, h2, dx, gs, by rw [upd_ne ne]; exact h3, Rpf.mono (ω := ω) (ω' := ⟨ω.F, fun k => if k = ω.n then p else ω.al k, ω.n + 1, ω.ao, ω.m⟩) (fun _ _ h => h) al (Nat.le_succ _) (fun _ _ => rfl) (Nat.le_refl _) _ _ h4⟩
  · unfold Rp
    rw [rl.len]
    exact ⟨Nat.lt_succ_self _, by show _ = V.ref (if ω.n = ω.n then p else ω.al ω.n); rw [if_pos rfl]⟩
theorem ge_tup {x1} {k : Nat} (hn : es.length = k := by rfl) (hk : k ≤ 1000 := by decide) (h : GA X T W es ts) (hl : ts.length = k := by rfl) : GE X T W (.Tuple es x1 pos) (eTup ts) := PE.imp (pe_tup h) fun σ H Qv ⟨s, S, ω, rl, rs, q⟩ => by
  refine ⟨s, S, ω, rl, rs, ?_⟩
  have hlen : ∀ {us : List Q.TE} {S : Store} {ds : List D} {S1 : Store}, eArgs us s S = .ok ds S1 → ds.length = us.length := by
    intro us
    induction us with
    | nil => intro S ds S1 e; cases e; rfl
    | cons a as ih =>
      intro S ds S1 e
      unfold eArgs at e
      cases e0 : a s S with
      | ok d S2 =>
        rw [e0] at e
        simp only [Res.bind] at e
        cases e3 : eArgs as s S2 with
        | ok es S3 =>
          rw [e3] at e
          simp only [Res.ok.injEq] at e
          rw [← e.1, List.length_cons, ih e3]; rfl
        | ex x S3 => rw [e3] at e; cases e
        | err => rw [e3] at e; cases e
      | ex x S2 => rw [e0] at e; cases e
      | err => rw [e0] at e; cases e
  unfold eTup at q
  cases e0 : eArgs ts s S with
  | ok ds S' =>
    rw [e0] at q
    intro ω' H' vs e rl' r
    have hd := hlen e0
    refine ⟨by rw [← r.length, hd, hl]; exact Nat.le_trans hk (by rw [sizeLine_eq]; decide), fun p hp => ?_⟩
    obtain ⟨ω2, e2, rl2, hF⟩ := Rl.laid rl' hp (.tup vs)
    exact q ω2 _ _ (e.trans e2) rl2 (by unfold Rp; exact ⟨p, vs, rfl, SqT.of hF, r.ext e2⟩)
  | ex x S' => rw [e0] at q; exact q
  | err => rw [e0] at q; exact q
end
end Q
set_option maxHeartbeats 1000000
namespace Q
open PySem PySem.Spec PyProof.Rows L2
section
variable {K : PySem.W.Frag} {T : Tb} {ω : Wd} {S : Store} {H : Hp}
theorem Rp.int {i : Int} {v : V} (h : Rp K T ω (.int i) v) : v = .int i := by unfold Rp at h; exact h
theorem Rp.str {i : Str} {v : V} (h : Rp K T ω (.str i) v) : v = .str i := by unfold Rp at h; exact h
theorem Rp.bl {i : Bool} {v : V} (h : Rp K T ω (.bl i) v) : v = .bl i := by unfold Rp at h; exact h
theorem Rp.non {v : V} (h : Rp K T ω .non v) : v = .non := by unfold Rp at h; exact h
theorem Rp.mint (i : Int) : Rp K T ω (.int i) (.int i) := by unfold Rp; rfl
theorem Rp.mstr (i : Str) : Rp K T ω (.str i) (.str i) := by unfold Rp; rfl
theorem Rp.mbl (i : Bool) : Rp K T ω (.bl i) (.bl i) := by unfold Rp; rfl
theorem Rp.mnon : Rp K T ω .non .non := by unfold Rp; rfl
theorem Rp.mlst {ds : List D} {vs : List V} {a : Addr} (h : ω.F a = some (.lst vs)) (r : Rps K T ω ds vs) : Rp K T ω (.lst ds) (.ref a) := by unfold Rp; exact ⟨a, vs, rfl, h, r⟩
theorem Rp.mtup {ds : List D} {vs : List V} {a : Addr} (h : SqT K ω.F a vs) (r : Rps K T ω ds vs) : Rp K T ω (.tup ds) (.ref a) := by unfold Rp; exact ⟨a, vs, rfl, h, r⟩
theorem Rp.lst (rl : Rl K T ω S H) {ds : List D} {v : V} (h : Rp K T ω (.lst ds) v) : ∃ a vs, v = .ref a ∧ H a = some (.lst vs) ∧ Rps K T ω ds vs := by
  unfold Rp at h
  obtain ⟨a, vs, e, q, r⟩ := h
  exact ⟨a, vs, e, rl.sub _ _ q, r⟩
theorem Rp.tup (rl : Rl K T ω S H) {ds : List D} {v : V} (h : Rp K T ω (.tup ds) v) : ∃ a vs, v = .ref a ∧ SqT K H a vs ∧ Rps K T ω ds vs := by
  unfold Rp at h
  obtain ⟨a, vs, e, q, r⟩ := h
  exact ⟨a, vs, e, Same.seqT rl.sub q, r⟩
theorem Rp.ptr (rl : Rl K T ω S H) {k : Nat} {ds : List D} {v : V} (h : Rp K T ω (.ptr k) v) (g : S.get k = some ds) : ∃ a vs, v = .ref a ∧ a = ω.al k ∧ H a = some (.lst vs) ∧ Rps K T ω ds vs := by
  unfold Rp at h
  obtain ⟨_, _, vs, h3, h4⟩ := rl.obj k ds g
  exact ⟨_, vs, h.2, rfl, h3, h4⟩
theorem Rp.src (rl : Rl K T ω S H) {ns : List Int} {v : V} (h : Rp K T ω (.src ns) v) : ∃ a, v = .ref a ∧ SqL K H a (ns.map V.int) := by
  unfold Rp at h
  obtain ⟨a, e, q⟩ := h
  exact ⟨a, e, Same.seq rl.sub q⟩
theorem Rp.itemsL (rl : Rl K T ω S H) {d : D} {ds : List D} {v : V} (h : Rp K T ω d v) (g : itemsL S d = some ds) : ∃ a vs, v = .ref a ∧ H a = some (.lst vs) ∧ Rps K T ω ds vs := by
  cases d <;> try (cases g; done)
  · cases g
    exact Rp.lst rl h
  · obtain ⟨a, vs, e, _, q, r⟩ := Rp.ptr rl h g
    exact ⟨a, vs, e, q, r⟩
theorem Rp.itemsLT (rl : Rl K T ω S H) {d : D} {ds : List D} {v : V} (h : Rp K T ω d v) (g : itemsLT S d = some ds) : ∃ a vs, v = .ref a ∧ (SqL K H a vs ∨ SqT K H a vs) ∧ Rps K T ω ds vs := by
  cases d with
  | tup xs =>
    cases g
    obtain ⟨a, vs, e, q, r⟩ := Rp.tup rl h
    exact ⟨a, vs, e, .inr q, r⟩
  | lst xs => obtain ⟨a, vs, e, q, r⟩ := Rp.itemsL rl h g; exact ⟨a, vs, e, .inl (SqL.of q), r⟩
  | ptr k => obtain ⟨a, vs, e, q, r⟩ := Rp.itemsL rl h g; exact ⟨a, vs, e, .inl (SqL.of q), r⟩
  | _ => cases g
end
section
variable {X : Cx} {T : Tx} {W : WX} {a b c e : Expr} {es : List Expr} {ta tb tc : Q.TE} {ts : List Q.TE} {pos : Pos}
theorem PQ.newLst {K : PySem.W.Frag} {ω : Wd} {S : Store} {H : Hp} {ds : List D} {vs : List V} {Qv : VK} (h : PQ K T ω S H (some (.lst ds, S)) Qv) (rl : Rl K T.toTb ω S H) (r : Rps K T.toTb ω ds vs) : ∀ p, H p = none → Qv (.ref p) (upd H p (.lst vs)) := fun p hp => by
  obtain ⟨ω2, e2, rl2, hF⟩ := Rl.laid rl hp (.lst vs)
  exact h ω2 _ _ e2 rl2 (Rp.mlst hF (r.ext e2))
theorem PQ.newTup {K : PySem.W.Frag} {ω : Wd} {S : Store} {H : Hp} {ds : List D} {vs : List V} {Qv : VK} (h : PQ K T ω S H (some (.tup ds, S)) Qv) (rl : Rl K T.toTb ω S H) (r : Rps K T.toTb ω ds vs) : ∀ p, H p = none → Qv (.ref p) (upd H p (.tup vs)) := fun p hp => by
  obtain ⟨ω2, e2, rl2, hF⟩ := Rl.laid rl hp (.tup vs)
  exact h ω2 _ _ e2 rl2 (Rp.mtup (SqT.of hF) (r.ext e2))
def rAddA : R2 := fun x y H Qv => rI0 (fun i j => .int (i + j)) x y H Qv ∨ (∃ i j, x = .str i ∧ y = .str j ∧ i.length + j.length ≤ sizeLine ∧ Qv (.str (i ++ j)) H) ∨ rCat x y H Qv
theorem or_add : OpR X (binaryOp .Add) rAddA := op_add.or (op_add_str.or op_cat)
theorem ok_add {K : PySem.W.Frag} : Ok2 K T rAddA oAdd := by
  intro ω S H x y u v Qv rl rx ry q
  unfold oAdd at q
  split at q
  · rw [rx.int, ry.int]
    exact .inl ⟨_, _, rfl, rfl, q.now rl (Rp.mint _)⟩
  · split at q
    · rw [rx.str, ry.str]
      exact .inr (.inl ⟨_, _, rfl, rfl, ‹_›, q.now rl (Rp.mstr _)⟩)
    · exact q.elim
  · split at q
    · obtain ⟨p1, vs, rfl, h1, r1⟩ := Rp.lst rl rx
      obtain ⟨p2, ws, rfl, h2, r2⟩ := Rp.lst rl ry
      exact .inr (.inr ⟨_, _, _, _, rfl, rfl, h1, h2, by rw [← r1.length, ← r2.length]; assumption, q.newLst rl (r1.append r2)⟩)
    · exact q.elim
  · split at q
    · split at q
      · obtain ⟨p1, vs, rfl, _, h1, r1⟩ := Rp.ptr rl rx ‹_›
        obtain ⟨p2, ws, rfl, h2, r2⟩ := Rp.lst rl ry
        exact .inr (.inr ⟨_, _, _, _, rfl, rfl, h1, h2, by rw [← r1.length, ← r2.length]; assumption, q.newLst rl (r1.append r2)⟩)
      · exact q.elim
    · exact q.elim
  · exact q.elim
theorem ok_sub {K : PySem.W.Frag} : Ok2 K T (rI0 fun i j => .int (i - j)) oSub := by
  intro ω S H x y u v Qv rl rx ry q
  unfold oSub at q
  split at q
  · rw [rx.int, ry.int]
    exact ⟨_, _, rfl, rfl, q.now rl (Rp.mint _)⟩
  · exact q.elim
def rMulA : R2 := fun x y H Qv => rI CMul (fun i j => .int (i * j)) x y H Qv ∨ rI CMulW (fun i j => .int (i * j)) x y H Qv ∨ rRep x y H Qv
theorem or_mul : OpR X (binaryOp .Mult) rMulA := op_mul.or (op_mulW.or op_rep)
theorem Rps.repl {K : PySem.W.Frag} {T : Tb} {ω : Wd} {ds : List D} {vs : List V} (r : Rps K T ω ds vs) : ∀ n : Nat, Rps K T ω (List.replicate n ds).flatten (List.replicate n vs).flatten
  | 0 => Rps.nil
  | n + 1 => by
    rw [List.replicate_succ, List.replicate_succ, List.flatten_cons, List.flatten_cons]
    exact r.append (Rps.repl r n)
theorem ok_mul {K : PySem.W.Frag} : Ok2 K T rMulA oMulL := by
  intro ω S H x y u v Qv rl rx ry q
  unfold oMulL at q
  split at q
  · rw [rx.int, ry.int]
    split at q
    · rename_i h
      simp only [smallI, midI, Bool.or_eq_true, Bool.and_eq_true, decide_eq_true_eq] at h
      rcases h with (h | h) | h
      · exact .inl ⟨_, _, rfl, rfl, .inl h, q.now rl (Rp.mint _)⟩
      · exact .inl ⟨_, _, rfl, rfl, .inr h, q.now rl (Rp.mint _)⟩
      · exact .inr (.inl ⟨_, _, rfl, rfl, by unfold CMulW; omega, q.now rl (Rp.mint _)⟩)
    · exact q.elim
  · split at q
    · rename_i h
      simp only [Bool.and_eq_true, decide_eq_true_eq] at h
      obtain ⟨p1, vs, rfl, h1, r1⟩ := Rp.lst rl rx
      rw [ry.int]
      exact .inr (.inr ⟨_, _, _, rfl, rfl, h1, h.1.1, h.1.2, by rw [← r1.length]; exact h.2, q.newLst rl (r1.repl _)⟩)
    · exact q.elim
  · exact q.elim
def rDivA : R2 := fun x y H Qv => rI CDivN (fun i j => .int (i.fdiv j)) x y H Qv ∨ rI CDivW (fun i j => .int (i / j)) x y H Qv
theorem or_div : OpR X (binaryOp .FloorDiv) rDivA := op_fdivN.or op_fdivW
theorem ok_div {K : PySem.W.Frag} : Ok2 K T rDivA oDiv := by
  intro ω S H x y u v Qv rl rx ry q
  unfold oDiv at q
  split at q
  · rename_i i j
    rw [rx.int, ry.int]
    split at q
    · rename_i h
      simp only [divOk, Bool.or_eq_true, Bool.and_eq_true, decide_eq_true_eq] at h
      rcases h with h | h
      · exact .inl ⟨_, _, rfl, rfl, h, q.now rl (Rp.mint _)⟩
      · refine .inr ⟨_, _, rfl, rfl, h, ?_⟩
        have e := Int.fdiv_eq_ediv_of_nonneg i (Int.le_of_lt h.1)
        show Qv (.int (i / j)) H
        rw [← e]
        exact q.now rl (Rp.mint _)
    · exact q.elim
  · exact q.elim
theorem ok_mod {K : PySem.W.Frag} : Ok2 K T (rI (fun _ j => j ≠ 0) fun i j => .int (i.fmod j)) oMod := by
  intro ω S H x y u v Qv rl rx ry q
  unfold oMod at q
  split at q
  · rw [rx.int, ry.int]
    split at q
    · exact q.elim
    · exact ⟨_, _, rfl, rfl, ‹_›, q.now rl (Rp.mint _)⟩
  · exact q.elim
theorem ok_pow {K : PySem.W.Frag} : Ok2 K T (rI CPow fun i j => .int (i ^ j.toNat)) oPow := by
  intro ω S H x y u v Qv rl rx ry q
  unfold oPow at q
  split at q
  · rw [rx.int, ry.int]
    split at q
    · rename_i h
      simp only [Bool.and_eq_true, decide_eq_true_eq] at h
      exact ⟨_, _, rfl, rfl, ⟨h.1.1, h.1.2, h.2⟩, q.now rl (Rp.mint _)⟩
    · exact q.elim
  · exact q.elim
theorem ok_neg {K : PySem.W.Frag} : Ok1 K T (rU fun i => .int (-i)) oNeg := by
  intro ω S H x u Qv rl rx q
  unfold oNeg at q
  split at q
  · rw [rx.int]
    exact ⟨_, rfl, q.now rl (Rp.mint _)⟩
  · exact q.elim
theorem ok_cmp {K : PySem.W.Frag} (f : Int → Int → Bool) : Ok2 K T (rI0 fun i j => .bl (f i j)) (oCmp f) := by
  intro ω S H x y u v Qv rl rx ry q
  unfold oCmp at q
  split at q
  · rw [rx.int, ry.int]
    exact ⟨_, _, rfl, rfl, q.now rl (Rp.mbl _)⟩
  · exact q.elim
mutual
theorem pd_dp {K : PySem.W.Frag} {T : Tb} {ω : Wd} {S : Store} {H : Hp} (rl : Rl K T ω S H) : ∀ (d : D) (v : V) (p : PyData), Rp K T ω d v → d.pd = some p → Dp K H v p
  | .non, v, p, r, e => by rw [r.non]; cases e; exact .non
  | .bl b, v, p, r, e => by rw [r.bl]; cases e; exact .bl b
  | .int b, v, p, r, e => by rw [r.int]; cases e; exact .int b
  | .str b, v, p, r, e => by rw [r.str]; cases e; exact .str b
  | .tup ds, v, p, r, e => by
    obtain ⟨a, vs, rfl, q, rs⟩ := Rp.tup rl r
    unfold D.pd at e
    cases e1 : pds ds with
    | none => rw [e1] at e; cases e
    | some ps =>
      rw [e1] at e
      cases e
      exact .tup q (pds_dp rl ds vs ps rs e1)
  | .lst ds, v, p, r, e => by
    obtain ⟨a, vs, rfl, q, rs⟩ := Rp.lst rl r
    unfold D.pd at e
    cases e1 : pds ds with
    | none => rw [e1] at e; cases e
    | some ps =>
      rw [e1] at e
      cases e
      exact .lst (SqL.of q) (pds_dp rl ds vs ps rs e1)
  | .ins _ _, v, p, r, e => by cases e
  | .ptr _, v, p, r, e => by cases e
  | .obj _, v, p, r, e => by cases e
  | .src _, v, p, r, e => by cases e
  | .fn _, v, p, r, e => by cases e
theorem pds_dp {K : PySem.W.Frag} {T : Tb} {ω : Wd} {S : Store} {H : Hp} (rl : Rl K T ω S H) : ∀ (ds : List D) (vs : List V) (ps : List PyData), Rps K T ω ds vs → pds ds = some ps → DpAll K H vs ps
  | [], vs, ps, r, e => by
    unfold Rps at r
    subst r
    cases e
    exact .nil
  | d :: ds, vs, ps, r, e => by
    unfold Rps at r
    obtain ⟨v, ws, rfl, r1, r2⟩ := r
    unfold pds at e
    cases e1 : d.pd with
    | none => simp [e1] at e
    | some p1 => cases e2 : pds ds with
      | none => simp [e1, e2] at e
      | some p2 =>
        simp [e1, e2] at e
        subst e
        exact .cons (pd_dp rl d v p1 r1 e1) (pds_dp rl ds ws p2 r2 e2)
end
theorem pdT_dp {K : PySem.W.Frag} {T : Tb} {ω : Wd} {S : Store} {H : Hp} (rl : Rl K T ω S H) (d : D) (v : V) (p : PyData) (r : Rp K T ω d v) (e : pdT S d = some p) : Dp K H v p := by
  cases d with
  | ptr k =>
    unfold pdT at e
    simp only at e
    split at e
    · rename_i ds hg
      obtain ⟨a, vs, rfl, _, h1, r1⟩ := Rp.ptr rl r hg
      cases e1 : pds ds with
      | none => rw [e1] at e; cases e
      | some ps =>
        rw [e1] at e
        cases e
        exact .lst (SqL.of h1) (pds_dp rl _ vs ps r1 e1)
    · cases e
  | _ => exact pd_dp rl _ v p r (by unfold pdT at e; exact e)
def rEqA (K : PySem.W.Frag) : R2 := fun x y H Qv => rEq x y H Qv ∨ rEqD K x y H Qv
def rNeA (K : PySem.W.Frag) : R2 := fun x y H Qv => rNe x y H Qv ∨ rNeD K x y H Qv
theorem or_eq (hu : X.A.units + 64 < cLine) : OpR X (compareOp .Eq) (rEqA X.K) := op_eq.or (op_eqD hu)
theorem or_ne (hu : X.A.units + 64 < cLine) : OpR X (compareOp .NotEq) (rNeA X.K) := op_ne.or (op_neD hu)
theorem eqD_ok {K : PySem.W.Frag} {ω : Wd} {S : Store} {H : Hp} {x y : D} {u v : V} {b : Bool} (rl : Rl K T.toTb ω S H) (rx : Rp K T.toTb ω x u) (ry : Rp K T.toTb ω y v) (e : eqD x y S = some b) :
    (scal u v = true ∧ b = decide (u = v)) ∨ ∃ d e, Dp K H u d ∧ Dp K H v e ∧ SeqAt.shaped d = true ∧ SeqAt.shaped e = true ∧ b = PyData.eqv d e := by
  unfold eqD at e
  split at e
  · cases e
    rw [rx.int, ry.int]
    exact .inl ⟨rfl, by simp⟩
  · cases e
    rw [rx.str, ry.str]
    exact .inl ⟨rfl, by simp⟩
  · cases e
    rw [rx.bl, ry.bl]
    exact .inl ⟨rfl, by simp⟩
  · split at e
    · rename_i p q hp hq
      split at e
      · rename_i hs
        rw [Bool.and_eq_true] at hs
        cases e
        exact .inr ⟨p, q, pdT_dp rl _ _ _ rx hp, pdT_dp rl _ _ _ ry hq, hs.1, hs.2, rfl⟩
      · cases e
    · cases e
theorem ok_eq {K : PySem.W.Frag} : Ok2 K T (rEqA K) oEq := by
  intro ω S H x y u v Qv rl rx ry q
  unfold oEq at q
  split at q
  · rename_i b hb
    rcases eqD_ok rl rx ry hb with ⟨h1, h2⟩ | ⟨d, e, h1, h2, h3, h4, h5⟩
    · exact .inl ⟨h1, by rw [← h2]; exact q.now rl (Rp.mbl _)⟩
    · exact .inr ⟨d, e, h1, h2, h3, h4, by rw [← h5]; exact q.now rl (Rp.mbl _)⟩
  · exact q.elim
theorem ok_ne {K : PySem.W.Frag} : Ok2 K T (rNeA K) oNe := by
  intro ω S H x y u v Qv rl rx ry q
  unfold oNe at q
  split at q
  · rename_i b hb
    rcases eqD_ok rl rx ry hb with ⟨h1, h2⟩ | ⟨d, e, h1, h2, h3, h4, h5⟩
    · exact .inl ⟨h1, by rw [← h2]; exact q.now rl (Rp.mbl _)⟩
    · exact .inr ⟨d, e, h1, h2, h3, h4, by rw [← h5]; exact q.now rl (Rp.mbl _)⟩
  · exact q.elim
theorem ixN_len {α β : Type} {xs : List α} {ys : List β} (h : xs.length = ys.length) {i : Int} {x : α} (e : atI xs i = some x) : ∃ (y : β) (j : Nat), atI ys i = some y ∧ xs[j]? = some x ∧ ys[j]? = some y := by
  unfold atI at e ⊢
  cases e1 : ixN xs.length i with
  | none => rw [e1] at e; cases e
  | some j =>
    rw [e1] at e
    have e' : xs[j]? = some x := e
    rw [← h, e1]
    have hj : j < xs.length := (List.getElem?_eq_some_iff.mp e').1
    exact ⟨ys[j]'(h ▸ hj), j, by simp [h ▸ hj], e', by simp [h ▸ hj]⟩
theorem ok_ix {K : PySem.W.Frag} : Ok2 K T (rIx K) oIx := by
  intro ω S H x y u v Qv rl rx ry q
  unfold oIx at q
  split at q
  · split at q
    · split at q
      · rw [rx.str, ry.int]
        exact .inr (.inr ⟨_, _, _, rfl, rfl, ‹_›, ‹_›, q.now rl (Rp.mstr _)⟩)
      · exact q.elim
    · exact q.elim
  · split at q
    · split at q
      · rename_i xs hx _ d hd
        obtain ⟨a, vs, rfl, hq, r⟩ := Rp.itemsLT rl rx hx
        obtain ⟨w, j, e1, e2, e3⟩ := ixN_len r.length hd
        obtain ⟨w', e4, rw'⟩ := r.get e2
        rw [e3] at e4
        cases e4
        rw [ry.int]
        rcases hq with hq | hq
        · exact .inl ⟨_, _, _, _, rfl, rfl, hq, e1, q.now rl rw'⟩
        · exact .inr (.inl ⟨_, _, _, _, rfl, rfl, hq, e1, q.now rl rw'⟩)
      · exact q.elim
    · exact q.elim
  · exact q.elim
theorem tCB_ok {r : List V → Hp → VK → Prop} {f : OpN} (hf : OkN X.K T r f) (σ : L2.St) (H : Hp) (Qv : VK) (h : tEr X.K T W (eN f ts) σ H Qv) : tCB r (tAr X.K T W (eArgs ts)) σ H Qv := by
  obtain ⟨s, S, ω, rl, rs, q⟩ := h
  refine ⟨s, S, ω, rl, rs, (EPg.bind q).mono ?_⟩
  rintro vs H1 ⟨ω1, S1, ds, e1, rl1, r1, q1⟩
  exact hf _ _ _ _ _ _ rl1 r1 (PQ.of q1)
theorem ge_blt {id : String} {x : Str} {p : Pos} {r : List V → Hp → VK → Prop} {f : OpN} (hc : CallR X (.builtin id) r) (hf : OkN X.K T r f) (hg : Gl X x) (hm : X.mg x = none) (hv : bootBuiltins x = some (.builtin id)) (ha : GA X T W (e :: es) ts)
    (hn : x ≠ "__name__" := by decide) (hdb : (x == ("__debug__" : Str)) = false := by decide) (he : starEach (e :: es) X.env = (false, eval e X.env) :: starEach es X.env := by rfl) (hpl : (backTo pos (starEach es X.env)).any (·.1) = false := by rfl) :
    GE X T W (.Call (.Name x p) (e :: es) [] pos) (eN f ts) := PE.imp (pe_callB hc hg hm hv ha hn hdb he hpl) (tCB_ok hf)
theorem ge_ty {id : String} {x : Str} {p : Pos} {r : List V → Hp → VK → Prop} {f : OpN} (hc : CallR X (.type id) r) (hf : OkN X.K T r f) (hg : Gl X x) (hm : X.mg x = none) (hv : bootBuiltins x = some (.type id)) (ha : GA X T W (e :: es) ts)
    (hn : x ≠ "__name__" := by decide) (hdb : (x == ("__debug__" : Str)) = false := by decide) (he : starEach (e :: es) X.env = (false, eval e X.env) :: starEach es X.env := by rfl) (hpl : (backTo pos (starEach es X.env)).any (·.1) = false := by rfl) :
    GE X T W (.Call (.Name x p) (e :: es) [] pos) (eN f ts) := PE.imp (pe_callTy hc hg hm hv ha hn hdb he hpl) (tCB_ok hf)
theorem Rps.one {K : PySem.W.Frag} {T : Tb} {ω : Wd} {d : D} {vs : List V} (h : Rps K T ω [d] vs) : ∃ v, vs = [v] ∧ Rp K T ω d v := by
  unfold Rps at h
  obtain ⟨v, ws, rfl, r, h2⟩ := h
  unfold Rps at h2
  exact ⟨v, by rw [h2], r⟩
theorem Rps.two {K : PySem.W.Frag} {T : Tb} {ω : Wd} {d e : D} {vs : List V} (h : Rps K T ω [d, e] vs) : ∃ v w, vs = [v, w] ∧ Rp K T ω d v ∧ Rp K T ω e w := by
  unfold Rps at h
  obtain ⟨v, ws, rfl, r, h2⟩ := h
  obtain ⟨w, rfl, r2⟩ := Rps.one h2
  exact ⟨v, w, rfl, r, r2⟩
theorem ok_abs {K : PySem.W.Frag} : OkN K T (fun xs H Qv => ∃ i, xs = [.int i] ∧ Qv (.int (if i < 0 then -i else i)) H) oAbs := by
  intro ω S H xs us Qv rl r q
  unfold oAbs at q
  split at q
  · obtain ⟨v, rfl, r1⟩ := r.one
    rw [r1.int]
    exact ⟨_, rfl, q.now rl (Rp.mint _)⟩
  · exact q.elim
theorem ok_int {K : PySem.W.Frag} : OkN K T (fun xs H Qv => (∃ i, xs = [.int i] ∧ Qv (.int i) H) ∨ ∃ k, xs = [.bl k] ∧ Qv (.int (if k then 1 else 0)) H) oInt := by
  intro ω S H xs us Qv rl r q
  unfold oInt at q
  split at q
  · obtain ⟨v, rfl, r1⟩ := r.one
    rw [r1.int]
    exact .inl ⟨_, rfl, q.now rl (Rp.mint _)⟩
  · obtain ⟨v, rfl, r1⟩ := r.one
    rw [r1.bl]
    exact .inr ⟨_, rfl, q.now rl (Rp.mint _)⟩
  · exact q.elim
def rLenA (K : PySem.W.Frag) : List V → Hp → VK → Prop := fun xs H Qv => (∃ p ys, xs = [.ref p] ∧ (SqL K H p ys ∨ SqT K H p ys) ∧ Qv (.int ys.length) H) ∨ ∃ z, xs = [.str z] ∧ z.length ≤ sizeLine ∧ Qv (.int z.length) H
theorem or_len : CallR X (.builtin "len") (rLenA X.K) := call_len_seq.or call_len_str
theorem ok_len {K : PySem.W.Frag} : OkN K T (rLenA K) oLen := by
  intro ω S H xs us Qv rl r q
  unfold oLen at q
  split at q
  · obtain ⟨v, rfl, r1⟩ := r.one
    rw [r1.str]
    split at q
    · exact .inr ⟨_, rfl, ‹_›, q.now rl (Rp.mint _)⟩
    · exact q.elim
  · obtain ⟨v, rfl, r1⟩ := r.one
    split at q
    · obtain ⟨p, vs, rfl, h1, r2⟩ := Rp.itemsLT rl r1 ‹_›
      exact .inl ⟨_, _, rfl, h1, by rw [← r2.length]; exact q.now rl (Rp.mint _)⟩
    · exact q.elim
  · exact q.elim
theorem ok_max2 {K : PySem.W.Frag} : OkN K T (fun xs H Qv => ∃ i j, xs = [.int i, .int j] ∧ Qv (.int (if j > i then j else i)) H) oMax2 := by
  intro ω S H xs us Qv rl r q
  unfold oMax2 at q
  split at q
  · obtain ⟨v, w, rfl, r1, r2⟩ := r.two
    rw [r1.int, r2.int]
    exact ⟨_, _, rfl, q.now rl (Rp.mint _)⟩
  · exact q.elim
theorem ok_min2 {K : PySem.W.Frag} : OkN K T (fun xs H Qv => ∃ i j, xs = [.int i, .int j] ∧ Qv (.int (if j < i then j else i)) H) oMin2 := by
  intro ω S H xs us Qv rl r q
  unfold oMin2 at q
  split at q
  · obtain ⟨v, w, rfl, r1, r2⟩ := r.two
    rw [r1.int, r2.int]
    exact ⟨_, _, rfl, q.now rl (Rp.mint _)⟩
  · exact q.elim
def rTupleOf (K : PySem.W.Frag) : List V → Hp → VK → Prop := fun xs H Q => ∃ p ys, xs = [.ref p] ∧ ((SqL K H p ys ∧ ∀ l, H l = none → Q (.ref l) (upd H l (.tup ys))) ∨ (SqT K H p ys ∧ Q (.ref p) H))
theorem ok_tupleOf {K : PySem.W.Frag} : OkN K T (rTupleOf K) oTupleOf := by
  intro ω S H xs us Qv rl r q
  unfold oTupleOf at q
  split at q
  · obtain ⟨v, rfl, r1⟩ := r.one
    split at q
    · rename_i d _ ds hd
      cases d with
      | tup ys =>
        cases hd
        unfold Rp at r1
        obtain ⟨p, vs, rfl, h1, r2⟩ := r1
        exact ⟨_, _, rfl, .inr ⟨Same.seqT rl.sub h1, q.now rl (Rp.mtup h1 r2)⟩⟩
      | lst ys =>
        obtain ⟨p, vs, rfl, h1, r2⟩ := Rp.itemsL rl r1 hd
        exact ⟨_, _, rfl, .inl ⟨SqL.of h1, q.newTup rl r2⟩⟩
      | ptr k =>
        obtain ⟨p, vs, rfl, h1, r2⟩ := Rp.itemsL rl r1 hd
        exact ⟨_, _, rfl, .inl ⟨SqL.of h1, q.newTup rl r2⟩⟩
      | _ => cases hd
    · exact q.elim
  · exact q.elim
def rListOf (K : PySem.W.Frag) : List V → Hp → VK → Prop := fun xs H Q => ∃ p ys, xs = [.ref p] ∧ (SqL K H p ys ∨ SqT K H p ys) ∧ ∀ l, H l = none → Q (.ref l) (upd H l (.lst ys))
theorem ok_listOf {K : PySem.W.Frag} : OkN K T (rListOf K) oListOf := by
  intro ω S H xs us Qv rl r q
  unfold oListOf at q
  split at q
  · obtain ⟨v, rfl, r1⟩ := r.one
    split at q
    · obtain ⟨p, vs, rfl, h1, r2⟩ := Rp.itemsLT rl r1 ‹_›
      exact ⟨_, _, rfl, h1, q.newLst rl r2⟩
    · exact q.elim
  · exact q.elim
def rAllA (K : PySem.W.Frag) : List V → Hp → VK → Prop := fun vs H Qv => ∃ (a : Addr) (bs : List Bool), vs = [V.ref a] ∧ SqL K H a (bs.map V.bl) ∧ Qv (.bl (bs.all id)) H
theorem ok_all {K : PySem.W.Frag} : OkN K T (rAllA K) oAll := by
  intro ω S H xs us Qv rl r q
  unfold oAll at q
  split at q
  · obtain ⟨v, rfl, r1⟩ := r.one
    split at q
    · obtain ⟨p, vs, rfl, h1, r2⟩ := Rp.lst rl r1
      have e := r2.bls ‹_›
      subst e
      exact ⟨_, _, rfl, SqL.of h1, q.now rl (Rp.mbl _)⟩
    · exact q.elim
  · exact q.elim
theorem eArgs_len {s : Sl} : ∀ {us : List Q.TE} {S : Store} {ds : List D} {S1 : Store}, eArgs us s S = .ok ds S1 → ds.length = us.length := by
  intro us
  induction us with
  | nil => intro S ds S1 e; cases e; rfl
  | cons a as ih =>
    intro S ds S1 e
    unfold eArgs at e
    cases e0 : a s S with
    | ok d S2 =>
      rw [e0] at e
      simp only [Res.bind] at e
      cases e3 : eArgs as s S2 with
      | ok es S3 =>
        rw [e3] at e
        simp only [Res.ok.injEq] at e
        rw [← e.1, List.length_cons, ih e3]; rfl
      | ex x S3 => rw [e3] at e; cases e
      | err => rw [e3] at e; cases e
    | ex x S2 => rw [e0] at e; cases e
    | err => rw [e0] at e; cases e
theorem ge_lst (h : GA X T W es ts) (hl : decide (ts.length ≤ 1000) = true := by rfl) : GE X T W (.List es pos) (eLst ts) := PE.imp (pe_lst h) fun σ H Qv ⟨s, S, ω, rl, rs, q⟩ => by
  refine ⟨s, S, ω, rl, rs, ?_⟩
  unfold eLst at q
  cases e0 : eArgs ts s S with
  | ok ds S' =>
    rw [e0] at q
    intro ω' H' vs e rl' r
    have hd := eArgs_len e0
    refine ⟨by rw [← r.length, hd]; exact Nat.le_trans (of_decide_eq_true hl) (by rw [sizeLine_eq]; decide), fun p hp => ?_⟩
    obtain ⟨ω2, e2, rl2, hF⟩ := Rl.laid rl' hp (.lst vs)
    exact q ω2 _ _ (e.trans e2) rl2 (Rp.mlst hF (r.ext e2))
  | ex x S' => rw [e0] at q; exact q
  | err => rw [e0] at q; exact q
theorem ge_lstM (h : GA X T W es ts) (hl : decide (ts.length ≤ 1000) = true := by rfl) : GE X T W (.List es pos) (eLstM ts) := PE.imp (pe_lst h) fun σ H Qv ⟨s, S, ω, rl, rs, q⟩ => by
  refine ⟨s, S, ω, rl, rs, ?_⟩
  unfold eLstM at q
  cases e0 : eArgs ts s S with
  | ok ds S' =>
    rw [e0] at q
    intro ω' H' vs e rl' r
    have hd := eArgs_len e0
    refine ⟨by rw [← r.length, hd]; exact Nat.le_trans (of_decide_eq_true hl) (by rw [sizeLine_eq]; decide), fun p hp => ?_⟩
    have q1 : EPg X.K T (Rp X.K T.toTb) W σ ω S H (if flats ds then .ok (.ptr S'.L.length) (S'.new ds) else .err) Qv := q
    split at q1
    · obtain ⟨ω2, e2, rl2, hp2⟩ := Rl.newL rl' hp ‹_› r
      exact q1 ω2 _ _ (e.trans e2) rl2 hp2
    · exact q1.elim
  | ex x S' => rw [e0] at q; exact q
  | err => rw [e0] at q; exact q
def Ty.nm : Ty → String
  | .int => "int"
  | .bool => "bool"
  | .str => "str"
  | .tuple => "tuple"
  | .list => "list"
theorem tyOf_ok {K : PySem.W.Frag} {T : Tb} {ω : Wd} {S : Store} {H : Hp} {d : D} {v : V} {us : List Ty} (rl : Rl K T ω S H) (r : Rp K T ω d v) (e : Ty.of S d = some us) :
    ∃ t, TyX K H v t ∧ ∀ ty : Ty, PySem.W.kitOne K t (.type ty.nm) = some (us.any (Ty.eqb ty)) := by
  cases d with
  | non => cases e; rw [r.non]; exact ⟨_, .base .non, fun ty => by cases ty <;> rfl⟩
  | bl b => cases e; rw [r.bl]; exact ⟨_, .base (.bl b), fun ty => by cases ty <;> rfl⟩
  | int b => cases e; rw [r.int]; exact ⟨_, .base (.int b), fun ty => by cases ty <;> rfl⟩
  | str b => cases e; rw [r.str]; exact ⟨_, .base (.str b), fun ty => by cases ty <;> rfl⟩
  | tup b =>
    cases e
    obtain ⟨a, vs, rfl, h, _⟩ := Rp.tup rl r
    have k : ∀ ty : Ty, PySem.W.kitOne K (.type "tuple") (.type ty.nm) = some ([Ty.tuple].any (Ty.eqb ty)) := fun ty => by cases ty <;> rfl
    rcases h with (h | ⟨o, h⟩) | ⟨o, its, n, h, hc, _⟩
    · exact ⟨_, .base (.tup h), k⟩
    · exact ⟨_, .fTuple h, k⟩
    · exact ⟨_, .kTuple h hc, k⟩
  | lst b =>
    cases e
    obtain ⟨a, vs, rfl, h, _⟩ := Rp.lst rl r
    exact ⟨_, .base (.lst h), fun ty => by cases ty <;> rfl⟩
  | src b =>
    cases e
    obtain ⟨a, rfl, h⟩ := Rp.src rl r
    have k : ∀ ty : Ty, PySem.W.kitOne K (.type "list") (.type ty.nm) = some ([Ty.list].any (Ty.eqb ty)) := fun ty => by cases ty <;> rfl
    rcases h with (h | ⟨o, h⟩) | ⟨o, its, n, h, hc, _⟩
    · exact ⟨_, .base (.lst h), k⟩
    · exact ⟨_, .base (.frz h), k⟩
    · exact ⟨_, .kList h hc, k⟩
  | ptr k =>
    unfold Ty.of at e
    simp only at e
    split at e
    · cases e
      obtain ⟨a, vs, rfl, _, h, _⟩ := Rp.ptr rl r ‹_›
      exact ⟨_, .base (.lst h), fun ty => by cases ty <;> rfl⟩
    · cases e
  | _ => cases e
theorem pe_tyname {x : Str} {n : String} {p : Pos} (hg : Gl X x) (hm : X.mg x = none) (hv : bootBuiltins x = some (.type n)) (hn : x ≠ "__name__" := by decide) (hd : (x == ("__debug__" : Str)) = false := by decide) : PE X (.Name x p) (tC (.ty n)) := pe_bltn hg hm hv rfl hn hd
theorem ge_isi {t : Ty} {p : Pos} (hg : Gl X "isinstance") (hm : X.mg "isinstance" = none) (ha : GE X T W a ta) (hty : PE X b (tC (.ty t.nm)))
    (he : starEach (a :: [b]) X.env = (false, eval a X.env) :: starEach [b] X.env := by rfl) (he2 : starEach (b :: []) X.env = (false, eval b X.env) :: starEach [] X.env := by rfl) (hpl : (backTo pos (starEach [b] X.env)).any (·.1) = false := by rfl) :
    GE X T W (.Call (.Name "isinstance" p) [a, b] [] pos) (e1 (oIsi [t]) ta) := PE.imp (pe_callB call_isi hg hm (by decide +kernel) (pa_cons ha (pa_cons hty pa_nil he2) he) (by decide) (by decide) he hpl) fun σ H Qv ⟨s, S, ω, rl, rs, q⟩ => by
  refine ⟨s, S, ω, rl, rs, (EPg.bind q).mono ?_⟩
  rintro v H1 ⟨ω1, S1, d, e1, rl1, r1, q1⟩
  have q2 := PQ.of q1
  unfold oIsi at q2
  split at q2
  · rename_i us hus
    obtain ⟨tv, h1, h2⟩ := tyOf_ok rl1 r1 hus
    refine ⟨v, .ty t.nm, tv, _, _, rfl, .ty _, h1, h2 t, ?_⟩
    have q3 := q2.now rl1 (Rp.mbl _)
    simpa using q3
  · exact q2.elim
theorem ge_isi2 {t t' : Ty} {p pt : Pos} {k : Nat} {b' : Expr} (hg : Gl X "isinstance") (hm : X.mg "isinstance" = none) (ha : GE X T W a ta) (hty : PE X b (tC (.ty t.nm))) (hty' : PE X b' (tC (.ty t'.nm)))
    (he : starEach (a :: [.Tuple [b, b'] k pt]) X.env = (false, eval a X.env) :: starEach [.Tuple [b, b'] k pt] X.env := by rfl) (he1 : starEach (.Tuple [b, b'] k pt :: []) X.env = (false, eval (.Tuple [b, b'] k pt) X.env) :: starEach [] X.env := by rfl)
    (he2 : starEach (b :: [b']) X.env = (false, eval b X.env) :: starEach [b'] X.env := by rfl) (he3 : starEach (b' :: []) X.env = (false, eval b' X.env) :: starEach [] X.env := by rfl) (hpl : (backTo pos (starEach [.Tuple [b, b'] k pt] X.env)).any (·.1) = false := by rfl) :
    GE X T W (.Call (.Name "isinstance" p) [a, .Tuple [b, b'] k pt] [] pos) (e1 (oIsi [t, t']) ta) :=
  PE.imp (pe_callB call_isiT hg hm (by decide +kernel) (pa_cons ha (pa_cons (pe_tup (pa_cons hty (pa_cons hty' pa_nil he3) he2)) pa_nil he1) he) (by decide) (by decide) he hpl) fun σ H Qv ⟨s, S, ω, rl, rs, q⟩ => by
  refine ⟨s, S, ω, rl, rs, (EPg.bind q).mono ?_⟩
  rintro v H1 ⟨ω1, S1, d, e1, rl1, r1, q1⟩
  refine ⟨by show 2 ≤ sizeLine; rw [sizeLine_eq]; decide, fun tp hp => ?_⟩
  obtain ⟨ω2, e2, rl2, hF⟩ := Rl.laid rl1 hp (.tup [V.ty t.nm, V.ty t'.nm])
  have q2 := PQ.of (EPg.shift e2 q1)
  unfold oIsi at q2
  split at q2
  · rename_i us hus
    obtain ⟨tv, h1, h2⟩ := tyOf_ok rl2 (r1.ext e2) hus
    refine ⟨v, tp, _, tv, _, us.any (Ty.eqb t) || us.any (Ty.eqb t'), rfl, upd_same, .cons (.ty _) (.cons (.ty _) .nil), h1, ?_, ?_⟩
    · show PySem.W.kitAny X.K tv [.type t.nm, .type t'.nm] = _
      simp only [PySem.W.kitAny, h2]
      cases us.any (Ty.eqb t) <;> cases us.any (Ty.eqb t') <;> rfl
    · have q3 := q2.now rl2 (Rp.mbl _)
      simpa using q3
  · exact q2.elim
end
end Q
set_option maxHeartbeats 1000000
namespace Q
open PySem PySem.Spec PyProof.Rows L2
section
variable {K : PySem.W.Frag} {T : Tb} {ω : Wd} {S : Store} {H : Hp}
theorem get_put {k j : Nat} {xs es : List D} (h : (S.put k xs).get j = some es) : (j = k ∧ es = xs) ∨ (j ≠ k ∧ S.get j = some es) := by
  unfold Store.get Store.put at h
  simp only at h
  by_cases hj : k = j
  · subst hj
    by_cases hl : k < S.L.length
    · rw [List.getElem?_set_self hl] at h
      cases h
      exact .inl ⟨rfl, rfl⟩
    · rw [List.getElem?_eq_none (by simpa using hl)] at h
      cases h
  · rw [List.getElem?_set_ne hj] at h
    exact .inr ⟨Ne.symm hj, h⟩
theorem get_del {k j : Nat} {es : List D} (h : (S.del k).get j = some es) : j ≠ k ∧ S.get j = some es := by
  unfold Store.get Store.del at h
  simp only at h
  by_cases hj : k = j
  · subst hj
    by_cases hl : k < S.L.length
    · rw [List.getElem?_set_self hl] at h
      cases h
    · rw [List.getElem?_eq_none (by simpa using hl)] at h
      cases h
  · rw [List.getElem?_set_ne hj] at h
    exact ⟨Ne.symm hj, h⟩
theorem get_cut {n j : Nat} {es : List D} (h : (S.cut n).get j = some es) : j < n ∧ S.get j = some es := by
  unfold Store.get Store.cut at h
  simp only at h
  by_cases hj : j < n
  · rw [List.getElem?_take_of_lt hj] at h
    exact ⟨hj, h⟩
  · rw [List.getElem?_eq_none (by rw [List.length_take]; omega)] at h
    cases h
theorem Rl.put (rl : Rl K T ω S H) {k : Nat} {ds es : List D} {ws : List V} (g : S.get k = some ds) (hf : flats es = true) (r : Rps K T ω es ws) : Ext ω S H ω (S.put k es) (upd H (ω.al k) (.lst ws)) ∧ Rl K T ω (S.put k es) (upd H (ω.al k) (.lst ws)) := by
  obtain ⟨hF, _, vs, hH, _⟩ := rl.obj k ds g
  have own : ∀ b, Own ω (S.put k es) b → Own ω S b := fun b h => by
    rcases h with h | ⟨j, fs, h, e⟩ | h
    · exact .inl h
    · rcases get_put h with ⟨rfl, _⟩ | ⟨_, h'⟩
      · exact .inr (.inl ⟨j, ds, g, e⟩)
      · exact .inr (.inl ⟨j, fs, h', e⟩)
    · exact .inr (.inr h)
  refine ⟨⟨fun _ _ h => h, fun _ _ => rfl, Nat.le_refl _, fun _ _ => rfl, Nat.le_refl _, fun j fs _ h => ?_, fun b q h n => ⟨?_, fun z => n (own b z)⟩⟩, fun b q h => ?_, ?_, fun j fs h => ?_, fun i j fs gs h1 h2 e => ?_, rl.lenO, fun j C fs h => ?_, rl.injO⟩
  · rcases get_put h with ⟨rfl, _⟩ | ⟨_, h'⟩
    · exact ⟨_, g⟩
    · exact ⟨_, h'⟩
  · have hb : b ≠ ω.al k := fun z => n (.inr (.inl ⟨k, ds, g, z.symm⟩))
    rw [upd_ne hb]; exact h
  · have hb : b ≠ ω.al k := fun z => by rw [z, hF] at h; cases h
    rw [upd_ne hb]; exact rl.sub _ _ h
  · show (S.L.set k (some es)).length = ω.n
    rw [List.length_set]; exact rl.len
  · rcases get_put h with ⟨rfl, rfl⟩ | ⟨hj, h'⟩
    · exact ⟨hF, hf, ws, upd_same, r⟩
    · obtain ⟨a1, a2, us, a3, a4⟩ := rl.obj j fs h'
      exact ⟨a1, a2, us, by rw [upd_ne fun z => hj (rl.inj j k _ _ h' g z)]; exact a3, a4⟩
  · have f : ∀ {i fs}, (S.put k es).get i = some fs → ∃ gs, S.get i = some gs := fun {i fs} h => by
      rcases get_put h with ⟨rfl, _⟩ | ⟨_, h'⟩
      · exact ⟨_, g⟩
      · exact ⟨_, h'⟩
    obtain ⟨_, z1⟩ := f h1
    obtain ⟨_, z2⟩ := f h2
    exact rl.inj i j _ _ z1 z2 e
  · obtain ⟨a1, a2, dx, gs, a3, a4⟩ := rl.objO j C fs h
    exact ⟨a1, a2, dx, gs, by rw [upd_ne fun z => by rw [z, hH] at a3; cases a3]; exact a3, a4⟩
theorem Rl.frz (rl : Rl K T ω S H) {k : Nat} {ds : List D} {vs : List V} (g : S.get k = some ds) (hH : H (ω.al k) = some (.lst vs)) (r : Rps K T ω ds vs) :
    ∃ ω', Ext ω S H ω' (S.del k) H ∧ Rl K T ω' (S.del k) H ∧ ω'.F (ω.al k) = some (.lst vs) := by
  obtain ⟨hF, _⟩ := rl.obj k ds g
  have fx : Same ω.F (upd ω.F (ω.al k) (.lst vs)) := fun b q h => by rw [upd_ne (ne_of_none h hF)]; exact h
  have mn : ∀ {es us}, Rps K T ω es us → Rps K T ⟨upd ω.F (ω.al k) (.lst vs), ω.al, ω.n, ω.ao, ω.m⟩ es us := fun {es us} h => Rps.mono (ω := ω) (ω' := ⟨upd ω.F (ω.al k) (.lst vs), ω.al, ω.n, ω.ao, ω.m⟩) fx (fun _ _ => rfl) (Nat.le_refl _) (fun _ _ => rfl) (Nat.le_refl _) _ _ h
  have own : ∀ b, Own ⟨upd ω.F (ω.al k) (.lst vs), ω.al, ω.n, ω.ao, ω.m⟩ (S.del k) b → Own ω S b := fun b h => by
    rcases h with ⟨q, h⟩ | ⟨j, fs, h, e⟩ | h
    · by_cases hb : b = ω.al k
      · exact .inr (.inl ⟨k, ds, g, hb.symm⟩)
      · have h' : upd ω.F (ω.al k) (.lst vs) b = some q := h
        rw [upd_ne hb] at h'
        exact .inl ⟨q, h'⟩
    · exact .inr (.inl ⟨j, fs, (get_del h).2, e⟩)
    · exact .inr (.inr h)
  refine ⟨⟨upd ω.F (ω.al k) (.lst vs), ω.al, ω.n, ω.ao, ω.m⟩, ⟨fx, fun _ _ => rfl, Nat.le_refl _, fun _ _ => rfl, Nat.le_refl _, fun j fs _ h => ⟨_, (get_del h).2⟩, fun b q h n => ⟨h, fun z => n (own b z)⟩⟩, ⟨fun b q h => ?_, ?_, fun j fs h => ?_, fun i j fs gs h1 h2 e => ?_, rl.lenO, fun j C fs h => ?_, rl.injO⟩, upd_same⟩
  · by_cases hb : b = ω.al k
    · have h' : upd ω.F (ω.al k) (.lst vs) b = some q := h
      rw [hb, upd_same] at h'
      rw [hb, hH]; exact h'
    · have h' : upd ω.F (ω.al k) (.lst vs) b = some q := h
      rw [upd_ne hb] at h'
      exact rl.sub _ _ h'
  · show (S.L.set k none).length = ω.n
    rw [List.length_set]; exact rl.len
  · obtain ⟨hj, h'⟩ := get_del h
    obtain ⟨a1, a2, us, a3, a4⟩ := rl.obj j fs h'
    refine ⟨?_, a2, us, a3, mn a4⟩
    show upd ω.F (ω.al k) _ (ω.al j) = none
    rw [upd_ne fun z => hj (rl.inj j k _ _ h' g z)]; exact a1
  · exact rl.inj i j _ _ (get_del h1).2 (get_del h2).2 e
  · obtain ⟨a1, a2, dx, gs, a3, a4⟩ := rl.objO j C fs h
    refine ⟨?_, a2, dx, gs, a3, Rpf.mono (ω := ω) (ω' := ⟨upd ω.F (ω.al k) (.lst vs), ω.al, ω.n, ω.ao, ω.m⟩) fx (fun _ _ => rfl) (Nat.le_refl _) (fun _ _ => rfl) (Nat.le_refl _) _ _ a4⟩
    show upd ω.F (ω.al k) _ (ω.ao j) = none
    rw [upd_ne fun z => by rw [z, hH] at a3; cases a3]; exact a1
theorem Rl.cut {ω0 : Wd} {S0 : Store} {H0 : Hp} (rl0 : Rl K T ω0 S0 H0) (rl : Rl K T ω S H) (e : Ext ω0 S0 H0 ω S H) : ∃ ω', Ext ω0 S0 H0 ω' (S.cut S0.L.length) H ∧ Rl K T ω' (S.cut S0.L.length) H ∧ (∀ d v, d.flat = true → Rp K T ω d v → Rp K T ω' d v) ∧ ω'.F = ω.F ∧
    (∀ ds vs, flats ds = true → Rps K T ω ds vs → Rps K T ω' ds vs) := by
  have fl : ∀ d v, d.flat = true → Rp K T ω d v → Rp K T ⟨ω.F, ω.al, ω0.n, ω.ao, ω.m⟩ d v := fun d v f r => Rp.flat (ω := ω) (ω' := ⟨ω.F, ω.al, ω0.n, ω.ao, ω.m⟩) (fun _ _ h => h) (fun _ _ => rfl) (Nat.le_refl _) d v f r
  have fls : ∀ d v, flats d = true → Rps K T ω d v → Rps K T ⟨ω.F, ω.al, ω0.n, ω.ao, ω.m⟩ d v := fun d v f r => Rps.flat (ω := ω) (ω' := ⟨ω.F, ω.al, ω0.n, ω.ao, ω.m⟩) (fun _ _ h => h) (fun _ _ => rfl) (Nat.le_refl _) d v f r
  refine ⟨⟨ω.F, ω.al, ω0.n, ω.ao, ω.m⟩, ⟨e.fix, e.al, Nat.le_refl _, e.ao, e.lenO, fun k es hk h => e.live k es hk (get_cut h).2, fun b q h n => ?_⟩, ⟨rl.sub, ?_, fun j fs h => ?_, fun i j fs gs h1 h2 q => ?_, rl.lenO, fun j C fs h => ?_, rl.injO⟩, fl, rfl, fls⟩
  · obtain ⟨h1, n1⟩ := e.frame b q h n
    refine ⟨h1, fun z => n1 ?_⟩
    rcases z with z | ⟨j, fs, h, e⟩ | z
    · exact .inl z
    · exact .inr (.inl ⟨j, fs, (get_cut h).2, e⟩)
    · exact .inr (.inr z)
  · show (S.L.take S0.L.length).length = ω0.n
    rw [List.length_take, rl.len, rl0.len]
    have := e.len
    omega
  · obtain ⟨a1, a2, us, a3, a4⟩ := rl.obj j fs (get_cut h).2
    exact ⟨a1, a2, us, a3, fls _ _ a2 a4⟩
  · exact rl.inj i j _ _ (get_cut h1).2 (get_cut h2).2 q
  · obtain ⟨a1, a2, dx, gs, a3, a4⟩ := rl.objO j C fs h
    exact ⟨a1, a2, dx, gs, a3, Rpf.flat (ω := ω) (ω' := ⟨ω.F, ω.al, ω0.n, ω.ao, ω.m⟩) (fun _ _ h => h) (fun _ _ => rfl) (Nat.le_refl _) _ _ a2 a4⟩
end
section
variable {X : Cx} {T : Tx} {W : WX} {a b c e : Expr} {es : List Expr} {ta tb tc : Q.TE} {ts : List Q.TE} {pos : Pos}
theorem ge_mstr {id : String} {name : Str} {apos : Pos} {r : V → List V → Hp → VK → Prop} {f : OpN} (slot : Slot "str" name id) (ty : typeOf (.builtin id) = pure (.type "method_descriptor")) (rule : MtR X id r) (hf : OkN X.K T (fun xs H Qv => ∃ x ys, xs = x :: ys ∧ r x ys H Qv) f) (ho : GE X T W a ta) (he : GE X T W b tb)
    (hs : starEach [b] X.env = [(false, eval b X.env)] := by rfl) (hbase : attributeBase a name X.env (eval a X.env) = eval a X.env := by rfl) (hline : (apos.endLine == pos.line) = true := by rfl) :
    GE X T W (.Call (.Attribute a name apos) [b] [] pos) (eM isStrD f ta [tb]) := PE.imp (pe_m1 slot ty rule ho he hs hbase hline) fun σ H Qv ⟨s, S, ω, rl, rs, q⟩ => by
  refine ⟨s, S, ω, rl, rs, (EPg.bind q).mono ?_⟩
  rintro v H1 ⟨ω1, S1, d, e1, rl1, r1, q1⟩
  split at q1
  · cases d <;> try (rename_i z; cases z; done)
    refine ⟨⟨_, r1.str⟩, s, S1, ω1, rl1, rs.ext e1, ?_⟩
    rename_i z _
    cases e2 : tb s S1 with
    | ok d2 S2 =>
      have q2 : EPg X.K T (Rp X.K T.toTb) W σ ω1 S1 H1 (ofO (f [.str z, d2] S2)) Qv := by simpa [eArgs, e2, Res.bind] using q1
      intro ω2 H2 w e3 rl2 r2
      obtain ⟨x, ys, hxy, h⟩ := hf _ _ _ _ _ _ rl2 (Rps.cons (r1.ext e3) (Rps.cons r2 Rps.nil)) (PQ.of (EPg.shift e3 q2))
      cases hxy
      exact h
    | ex x S2 =>
      have q2 : EPg X.K T (Rp X.K T.toTb) W σ ω1 S1 H1 (.ex x S2) Qv := by simpa [eArgs, e2, Res.bind] using q1
      exact q2
    | err =>
      have q2 : EPg X.K T (Rp X.K T.toTb) W σ ω1 S1 H1 .err Qv := by simpa [eArgs, e2, Res.bind] using q1
      exact q2
  · exact q1.elim
theorem ok_join {K : PySem.W.Frag} : OkN K T (fun xs H Qv => ∃ x ys, xs = x :: ys ∧ (fun x xs H Qv => ∃ a p, ∃ ys : List Str, x = .str a ∧ xs = [.ref p] ∧ (SqL K H p (ys.map V.str) ∨ SqT K H p (ys.map V.str)) ∧ (ys.map (·.length)).sum + ys.length * a.length ≤ 16777216 ∧ Qv (.str (Txt.join a ys)) H) x ys H Qv) oJoin := by
  intro ω S H xs us Qv rl r q
  unfold oJoin at q
  split at q
  · obtain ⟨v, w, rfl, r1, r2⟩ := r.two
    split at q
    · split at q
      · obtain ⟨p, vs, rfl, h1, r3⟩ := Rp.lst rl r2
        have e := r3.strs ‹_›
        subst e
        exact ⟨_, _, rfl, _, p, _, r1.str, rfl, .inl (SqL.of h1), ‹_›, q.now rl (Rp.mstr _)⟩
      · exact q.elim
    · exact q.elim
  · exact q.elim
theorem ge_join {apos : Pos} (ho : GE X T W a ta) (he : GE X T W b tb) (hs : starEach [b] X.env = [(false, eval b X.env)] := by rfl) (hbase : attributeBase a "join" X.env (eval a X.env) = eval a X.env := by rfl) (hline : (apos.endLine == pos.line) = true := by rfl) :
    GE X T W (.Call (.Attribute a "join" apos) [b] [] pos) (eM isStrD oJoin ta [tb]) := ge_mstr F.slot_str_join F.type_str_join mt_join ok_join ho he hs hbase hline
theorem Ext.wasLive {ω ω' : Wd} {S S' : Store} {H H' : Hp} (e : Ext ω S H ω' S' H') {k : Nat} {es : List D} (hk : k < ω.n) (h : S'.get k = some es) : ∃ ds, S.get k = some ds := e.live k es hk h
theorem tBM_ok {r : V → List V → Hp → VK → Prop} {f : OpN} (hf : OkN X.K T (fun xs H Qv => ∃ x ys, xs = x :: ys ∧ r x ys H Qv) f) (σ : L2.St) (H : Hp) (Qv : VK) (h : tEr X.K T W (eM isLstD f ta ts) σ H Qv) : tBM X.K "list" r (tEr X.K T W ta) (tAr X.K T W (eArgs ts)) σ H Qv := by
  obtain ⟨s, S, ω, rl, rs, q⟩ := h
  refine ⟨s, S, ω, rl, rs, (EPg.bind q).mono ?_⟩
  rintro v H1 ⟨ω1, S1, d, e1, rl1, r1, q1⟩
  split at q1
  · rename_i hc
    unfold isLstD at hc
    cases g : itemsL S1 d with
    | none => rw [g] at hc; cases hc
    | some ds =>
      obtain ⟨p, vs, rfl, h1, _⟩ := Rp.itemsL rl1 r1 g
      refine ⟨.inl ⟨rfl, _, SqL.of h1⟩, s, S1, ω1, rl1, rs.ext e1, (EPg.bind q1).mono ?_⟩
      rintro ws H2 ⟨ω2, S2, es, e2, rl2, r2, q2⟩
      obtain ⟨x, ys, hxy, h⟩ := hf _ _ _ _ _ _ rl2 (Rps.cons (r1.ext e2) r2) (PQ.of q2)
      cases hxy
      exact h
  · exact q1.elim
theorem ge_mlst {id : String} {name : Str} {apos : Pos} {r : V → List V → Hp → VK → Prop} {f : OpN} (slot : Slot "list" name id) (hty : typeOf (.builtin id) = pure (.type "method_descriptor")) (hm : MtR X id r) (hf : OkN X.K T (fun xs H Qv => ∃ x ys, xs = x :: ys ∧ r x ys H Qv) f) (ho : GE X T W a ta) (ha : GA X T W (e :: es) ts)
    (hbase : attributeBase a name X.env (eval a X.env) = eval a X.env := by rfl)
    (hfew : ((backTo pos (starEach (e :: es) X.env)).all (fun x => !x.1) && (backToKw pos (keywordEach [] X.env)).all (fun x => x.1.isSome)
      && decide ((e :: es).length + ([] : List Keyword).length + (if ([] : List Keyword).isEmpty then 0 else 1) < 30)) = true := by rfl)
    (hline : (apos.endLine == pos.line) = true := by rfl) (hs : starEach (e :: es) X.env = (false, eval e X.env) :: starEach es X.env := by rfl) (hplain : (backTo pos (starEach es X.env)).any (·.1) = false := by rfl) :
    GE X T W (.Call (.Attribute a name apos) (e :: es) [] pos) (eM isLstD f ta ts) := PE.imp (pe_bm PySem.F.plainAttrs_list slot hty hm ho ha hbase hfew hline hs hplain) (tBM_ok hf)
theorem ge_mlst0 {id : String} {name : Str} {apos : Pos} {r : V → List V → Hp → VK → Prop} {f : OpN} (slot : Slot "list" name id) (hty : typeOf (.builtin id) = pure (.type "method_descriptor")) (hm : MtR X id r) (hf : OkN X.K T (fun xs H Qv => ∃ x ys, xs = x :: ys ∧ r x ys H Qv) f) (ho : GE X T W a ta)
    (hbase : attributeBase a name X.env (eval a X.env) = eval a X.env := by rfl) (hline : (apos.endLine == pos.line) = true := by rfl) :
    GE X T W (.Call (.Attribute a name apos) [] [] pos) (eM isLstD f ta []) := PE.imp (pe_bm0 PySem.F.plainAttrs_list slot hty hm ho hbase hline) fun σ H Qv h => by
  obtain ⟨s, S, ω, rl, rs, q⟩ := tBM_ok (ts := []) hf σ H Qv h
  refine ⟨s, S, ω, rl, rs, q.mono ?_⟩
  rintro v H1 ⟨h1, s2, S2, ω2, rl2, rs2, q2⟩
  exact ⟨h1, q2.now rl2 Rps.nil⟩
theorem flats_app {ds es : List D} : flats (ds ++ es) = (flats ds && flats es) := by
  induction ds with
  | nil => simp [flats]
  | cons d ds ih => simp [flats, ih, Bool.and_assoc]
theorem ok_append {K : PySem.W.Frag} : OkN K T (fun xs H Qv => ∃ x ys, xs = x :: ys ∧ rAppend x ys H Qv) oAppend := by
  intro ω S H xs us Qv rl r q
  unfold oAppend at q
  split at q
  · obtain ⟨v, w, rfl, r1, r2⟩ := r.two
    split at q
    · rename_i k d _ ds g
      split at q
      · rename_i hc
        rw [Bool.and_eq_true] at hc
        obtain ⟨p, vs, rfl, rfl, h1, r3⟩ := Rp.ptr rl r1 g
        have hf := (rl.obj k ds g).2.1
        have z := rl.put (es := ds ++ [d]) g (by rw [flats_app, hf]; simp [flats, hc.2]) (r3.append (Rps.cons r2 Rps.nil))
        exact ⟨_, _, rfl, _, _, _, rfl, rfl, h1, by rw [← r3.length]; exact of_decide_eq_true hc.1, q ω _ _ z.1 z.2 Rp.mnon⟩
      · exact q.elim
    · exact q.elim
  · exact q.elim
theorem flats_all {ds : List D} : flats ds = true ↔ ∀ d ∈ ds, d.flat = true := by
  induction ds with
  | nil => simp [flats]
  | cons d ds ih => simp [flats, ih]
theorem flats_sub {ds es : List D} (h : flats ds = true) (s : ∀ d ∈ es, d ∈ ds) : flats es = true := flats_all.mpr fun d hd => flats_all.mp h d (s d hd)
theorem ok_pop {K : PySem.W.Frag} : OkN K T (fun xs H Qv => ∃ x ys, xs = x :: ys ∧ rPop x ys H Qv) oPop := by
  intro ω S H xs us Qv rl r q
  unfold oPop at q
  split at q
  · obtain ⟨v, rfl, r1⟩ := r.one
    split at q
    · rename_i k _ ds g
      split at q
      · rename_i d hd
        obtain ⟨p, vs, rfl, rfl, h1, r3⟩ := Rp.ptr rl r1 g
        have hf := (rl.obj k ds g).2.1
        obtain ⟨w, hw, rw'⟩ := r3.get hd
        have z := rl.put (es := ds.dropLast) g (flats_sub hf fun d hd => List.dropLast_subset _ hd) r3.dropLast
        exact ⟨_, _, rfl, _, _, w, rfl, rfl, h1, by rw [← r3.length]; exact hw, q ω _ _ z.1 z.2 (rw'.ext z.1)⟩
      · exact q.elim
    · exact q.elim
  · exact q.elim
def rSlA (K : PySem.W.Frag) : V → Option Int → Option Int → Hp → VK → Prop := fun x lo hi H Qv => rSlL K x lo hi H Qv ∨ rSlS x lo hi H Qv
theorem or_sl : SlR X (rSlA X.K) := sl_list.or sl_str
theorem Rps.cut {K : PySem.W.Frag} {T : Tb} {ω : Wd} {ds : List D} {vs : List V} (r : Rps K T ω ds vs) (lo hi : Option Int) : Rps K T ω (cutD ds lo hi) (cutV vs lo hi) := by
  unfold cutD cutV
  rw [r.length]
  exact (r.drop _).take _
theorem cutD_map {α β : Type} (f : α → β) (xs : List α) (lo hi : Option Int) : cutD (xs.map f) lo hi = (cutD xs lo hi).map f := by
  unfold cutD
  rw [List.length_map, List.map_take, List.map_drop]
theorem cutV_eq (vs : List V) (lo hi : Option Int) : cutV vs lo hi = cutD vs lo hi := rfl
theorem cut_str (z : Str) (lo hi : Option Int) : cutS z lo hi = ⟨(cutD z.cps.toList lo hi).toArray⟩ := by
  unfold cutS cutD
  simp [Str.length]
theorem ok_cut {K : PySem.W.Frag} {ω : Wd} {S : Store} {H : Hp} {d : D} {v : V} {lo hi : Option Int} {Qv : VK} (rl : Rl K T.toTb ω S H) (r : Rp K T.toTb ω d v) (q : PQ K T ω S H (oCut d lo hi S) Qv) : rSlA K v lo hi H Qv := by
  unfold oCut at q
  split at q
  · obtain ⟨a, vs, rfl, h, r1⟩ := Rp.lst rl r
    exact .inl ⟨a, vs, rfl, SqL.of h, q.newLst rl (r1.cut lo hi)⟩
  · obtain ⟨a, rfl, h⟩ := Rp.src rl r
    refine .inl ⟨a, _, rfl, h, q.newLst rl ?_⟩
    rw [cutV_eq, cutD_map]
    exact Rps.of_ints _
  · rw [r.str]
    split at q
    · exact .inr ⟨_, rfl, ‹_›, by rw [cut_str]; exact q.now rl (Rp.mstr _)⟩
    · exact q.elim
  · exact q.elim
theorem part_ok {ω : Wd} {d : D} {v : V} {S : Store} {σ : L2.St} {H : Hp} {Qv : VK} {k : Option Int → Store → Res D} (r : Rp X.K T.toTb ω d v) (q : EPg X.K T (Rp X.K T.toTb) W σ ω S H (partK k d S) Qv) :
    ∃ i, v = .int i ∧ EPg X.K T (Rp X.K T.toTb) W σ ω S H (k (some i) S) Qv := by
  cases d <;> try exact q.elim
  exact ⟨_, r.int, q⟩
theorem ge_cutL {lo : Expr} {tl : Q.TE} {p2 : Pos} (ha : GE X T W a ta) (hl : GE X T W lo tl) : GE X T W (.Subscript a (.Slice (some lo) none none p2) pos) (eCutL ta tl) := PE.imp (pe_slice or_sl ha (po_some hl) po_none) fun σ H Qv ⟨s, S, ω, rl, rs, q⟩ => by
  refine ⟨s, S, ω, rl, rs, (EPg.bind q).mono ?_⟩
  rintro v H1 ⟨ω1, S1, d, e1, rl1, r1, q1⟩
  refine ⟨s, S1, ω1, rl1, rs.ext e1, (EPg.bind q1).mono ?_⟩
  rintro w H2 ⟨ω2, S2, d2, e2, rl2, r2, q2⟩
  obtain ⟨i, rfl, q3⟩ := part_ok r2 q2
  exact ⟨i, rfl, ok_cut rl2 (r1.ext e2) (PQ.of q3)⟩
theorem ge_cutU {hi : Expr} {th : Q.TE} {p2 : Pos} (ha : GE X T W a ta) (hl : GE X T W hi th) : GE X T W (.Subscript a (.Slice none (some hi) none p2) pos) (eCutU ta th) := PE.imp (pe_slice or_sl ha po_none (po_some hl)) fun σ H Qv ⟨s, S, ω, rl, rs, q⟩ => by
  refine ⟨s, S, ω, rl, rs, (EPg.bind q).mono ?_⟩
  rintro v H1 ⟨ω1, S1, d, e1, rl1, r1, q1⟩
  refine ⟨s, S1, ω1, rl1, rs.ext e1, (EPg.bind q1).mono ?_⟩
  rintro w H2 ⟨ω2, S2, d2, e2, rl2, r2, q2⟩
  obtain ⟨i, rfl, q3⟩ := part_ok r2 q2
  exact ⟨i, rfl, ok_cut rl2 (r1.ext e2) (PQ.of q3)⟩
theorem ge_cutLU {lo hi : Expr} {tl th : Q.TE} {p2 : Pos} (ha : GE X T W a ta) (hl : GE X T W lo tl) (hh : GE X T W hi th) : GE X T W (.Subscript a (.Slice (some lo) (some hi) none p2) pos) (eCutLU ta tl th) := PE.imp (pe_slice or_sl ha (po_some hl) (po_some hh)) fun σ H Qv ⟨s, S, ω, rl, rs, q⟩ => by
  refine ⟨s, S, ω, rl, rs, (EPg.bind q).mono ?_⟩
  rintro v H1 ⟨ω1, S1, d, e1, rl1, r1, q1⟩
  refine ⟨s, S1, ω1, rl1, rs.ext e1, (EPg.bind q1).mono ?_⟩
  rintro w H2 ⟨ω2, S2, d2, e2, rl2, r2, q2⟩
  obtain ⟨i, rfl, q3⟩ := part_ok r2 q2
  refine ⟨i, rfl, s, S2, ω2, rl2, (rs.ext e1).ext e2, (EPg.bind q3).mono ?_⟩
  rintro u H3 ⟨ω3, S3, d3, e3, rl3, r3, q4⟩
  obtain ⟨j, rfl, q5⟩ := part_ok r3 q4
  exact ⟨j, rfl, ok_cut rl3 ((r1.ext e2).ext e3) (PQ.of q5)⟩
end
end Q
set_option maxHeartbeats 1000000
namespace Q
open PySem PySem.Spec PyProof.Rows L2
structure Later (ω ω' : Wd) : Prop where
  fix : Same ω.F ω'.F
  al : ∀ k, k < ω.n → ω'.al k = ω.al k
  len : ω.n ≤ ω'.n
  ao : ∀ k, k < ω.m → ω'.ao k = ω.ao k
  lenO : ω.m ≤ ω'.m
theorem Ext.later {ω ω' : Wd} {S S' : Store} {H H' : Hp} (e : Ext ω S H ω' S' H') : Later ω ω' := ⟨e.fix, e.al, e.len, e.ao, e.lenO⟩
theorem Later.refl {ω : Wd} : Later ω ω := ⟨Same.refl _, fun _ _ => rfl, Nat.le_refl _, fun _ _ => rfl, Nat.le_refl _⟩
theorem Later.trans {a b c : Wd} (x : Later a b) (y : Later b c) : Later a c := ⟨x.fix.trans y.fix, fun k h => (y.al k (Nat.lt_of_lt_of_le h x.len)).trans (x.al k h), Nat.le_trans x.len y.len, fun k h => (y.ao k (Nat.lt_of_lt_of_le h x.lenO)).trans (x.ao k h), Nat.le_trans x.lenO y.lenO⟩
theorem Rp.late {K : PySem.W.Frag} {T : Tb} {ω ω' : Wd} {d : D} {v : V} (h : Rp K T ω d v) (e : Later ω ω') : Rp K T ω' d v := Rp.mono e.fix e.al e.len e.ao e.lenO d v h
theorem Rps.late {K : PySem.W.Frag} {T : Tb} {ω ω' : Wd} {d : List D} {v : List V} (h : Rps K T ω d v) (e : Later ω ω') : Rps K T ω' d v := Rps.mono e.fix e.al e.len e.ao e.lenO d v h
def Gives (K : PySem.W.Frag) (T : Tx) (ω : Wd) (ds : List D) (J : It) : Prop :=
  ∃ G Y, Walk J ds.length G Y ∧ (∀ H, Same ω.F H → G H) ∧ ∀ (i : Nat) d ω1 S1 Hx x Hy, ds[i]? = some d → Later ω ω1 → Rl K T.toTb ω1 S1 Hx → Y i Hx x Hy → ∃ ω2, Ext ω1 S1 Hx ω2 S1 Hy ∧ Rl K T.toTb ω2 S1 Hy ∧ Rp K T.toTb ω2 d x
def tIr (K : PySem.W.Frag) (T : Tx) (W : WX) (src : Src) : TI := fun σ H R => ∃ s S ω, Rl K T.toTb ω S H ∧ Rs K T.toTb ω s σ ∧ EPg K T (Gives K T) W σ ω S H (src s S) R
def GI (X : Cx) (T : Tx) (W : WX) (tg iter : Expr) (src : Src) : Prop := PI X tg iter (tIr X.K T W src)
theorem PI.imp {X : Cx} {tg e : Expr} {t t' : TI} (h : PI X tg e t) (i : ∀ σ H R, t' σ H R → t σ H R) : PI X tg e t' := ⟨fun pins s σ H R I q => h.run pins s σ H R I (i _ _ _ q)⟩
theorem PI.or {X : Cx} {tg e : Expr} {t t' : TI} (h : PI X tg e t) (h' : PI X tg e t') : PI X tg e (fun σ H R => t σ H R ∨ t' σ H R) := ⟨fun pins s σ H R I q => q.elim (h.run pins s σ H R I) (h'.run pins s σ H R I)⟩
section
variable {K : PySem.W.Frag} {T : Tx} {ω : Wd}
theorem gives_at {J : It} {ds : List D} {vs : List V} {G : Hp → Prop} (r : Rps K T.toTb ω ds vs) (w : Walk J vs.length G (YAt vs)) (g : ∀ H, Same ω.F H → G H) : Gives K T ω ds J := by
  refine ⟨G, YAt vs, by rw [r.length]; exact w, g, fun i d ω1 S1 Hx x Hy hd lt rl y => ?_⟩
  obtain ⟨rfl, hx⟩ := y
  obtain ⟨v, hv, rv⟩ := r.get hd
  rw [hx] at hv
  cases hv
  exact ⟨ω1, Ext.refl, rl, rv.late lt⟩
theorem gives_list {ds : List D} {vs : List V} {a : Addr} (h : ω.F a = some (.lst vs)) (r : Rps K T.toTb ω ds vs) : Gives K T ω ds (Itl K a) := gives_at r walk_list fun _ s => SqL.of (s _ _ h)
theorem gives_tup {ds : List D} {vs : List V} {a : Addr} (h : SqT K ω.F a vs) (r : Rps K T.toTb ω ds vs) : Gives K T ω ds (Itt K a) := gives_at r walk_tup fun _ s => Same.seqT s h
theorem gives_str {z : Str} : Gives K T ω (z.cps.toList.map fun c => .str ⟨#[c]⟩) (Its z) := by
  refine ⟨_, _, by rw [List.length_map, Array.length_toList]; exact walk_str, fun _ _ => trivial, fun i d ω1 S1 Hx x Hy hd lt rl y => ?_⟩
  obtain ⟨rfl, c, hc, rfl⟩ := y
  rw [List.getElem?_map] at hd
  have e : z.cps.toList[i]? = some c := by simpa using hc
  rw [e] at hd
  cases hd
  exact ⟨ω1, Ext.refl, rl, Rp.mstr _⟩
theorem gives_rng {lo : Int} {n : Nat} : Gives K T ω (rngL lo n) (Itr lo n) := by
  have hl : (rngL lo n).length = n := by simp [rngL]
  refine ⟨_, _, by rw [hl]; exact walk_range, fun _ _ => trivial, fun i d ω1 S1 Hx x Hy hd lt rl y => ?_⟩
  obtain ⟨rfl, rfl⟩ := y
  have hi : i < n := by
    have := (List.getElem?_eq_some_iff.mp hd).1
    rw [hl] at this; exact this
  unfold rngL at hd
  rw [List.getElem?_map, List.getElem?_range hi] at hd
  cases hd
  exact ⟨ω1, Ext.refl, rl, Rp.mint _⟩
theorem gives_pair {J : It} {ds es fs : List D} {n : Nat} {xs ys : Nat → Option V} {G : Hp → Prop} (hf : fs = List.zipWith (fun d e => .tup [d, e]) ds es) (hn : fs.length = n) (w : Walk J n G (YPair xs ys)) (g : ∀ H, Same ω.F H → G H)
    (hx : ∀ (i : Nat) d v, ds[i]? = some d → xs i = some v → Rp K T.toTb ω d v) (hy : ∀ (i : Nat) d v, es[i]? = some d → ys i = some v → Rp K T.toTb ω d v) : Gives K T ω fs J := by
  refine ⟨G, _, by rw [hn]; exact w, g, fun i d ω1 S1 Hx x Hy hd lt rl y => ?_⟩
  obtain ⟨A, u, v, rfl, hA, rfl, e1, e2⟩ := y
  subst hf
  rw [List.getElem?_zipWith] at hd
  cases h1 : ds[i]? with
  | none => rw [h1] at hd; simp at hd
  | some d1 => cases h2 : es[i]? with
    | none => rw [h1, h2] at hd; simp at hd
    | some d2 =>
      rw [h1, h2] at hd
      simp at hd
      subst hd
      obtain ⟨ω2, ex, rl2, hF⟩ := Rl.laid rl hA (.tup [u, v])
      exact ⟨ω2, ex, rl2, Rp.mtup (SqT.of hF) (Rps.cons (((hx i d1 u h1 e1).late lt).ext ex) (Rps.cons (((hy i d2 v h2 e2).late lt).ext ex) Rps.nil))⟩
theorem walk_zipT {K : PySem.W.Frag} {a b : Addr} {xs ys : List V} {n : Nat} (hn : n = min xs.length ys.length) : Walk (RZ.ItzT K a b) n (fun H => SqT K H a xs ∧ SqT K H b ys) (YPair (fun i => xs[i]?) (fun i => ys[i]?)) := by
  subst hn
  refine ⟨fun i _ hi q => ?_, fun _ q => ⟨xs, ys, q.1, q.2, by omega⟩, fun i H v H' _ q y => ?_⟩
  · have h1 : i < xs.length := by omega
    have h2 : i < ys.length := by omega
    exact ⟨xs, ys, xs[i], ys[i], q.1, q.2, by simp [h1], by simp [h2]⟩
  · obtain ⟨A, x, z, h1, h2, h3, h4, h5⟩ := y
    exact ⟨A, x, z, h1, h2, h3, h4 xs q.1, h5 ys q.2⟩
end
section
variable {X : Cx} {T : Tx} {W : WX} {a b c e tg : Expr} {es : List Expr} {ta tb tc : Q.TE} {ts : List Q.TE} {pos : Pos}
theorem gi_seq (ha : GE X T W a ta) : GI X T W tg a (sSeq ta) := PI.imp (PI.or (pi_list ha) (PI.or (pi_tup ha) (pi_str ha))) fun σ H R ⟨s, S, ω, rl, rs, q⟩ => by
  cases e0 : ta s S with
  | ok d S1 =>
    unfold sSeq at q
    rw [e0] at q
    cases d with
    | lst ds =>
      refine .inl ⟨s, S, ω, rl, rs, ?_⟩
      rw [e0]
      intro ω' H' v ex rl' r
      unfold Rp at r
      obtain ⟨p, vs, rfl, h1, r1⟩ := r
      exact ⟨p, rfl, ⟨vs, SqL.of (rl'.sub _ _ h1)⟩, q ω' H' _ ex rl' (gives_list h1 r1)⟩
    | tup ds =>
      refine .inr (.inl ⟨s, S, ω, rl, rs, ?_⟩)
      rw [e0]
      intro ω' H' v ex rl' r
      unfold Rp at r
      obtain ⟨p, vs, rfl, h1, r1⟩ := r
      exact ⟨p, rfl, ⟨vs, Same.seqT rl'.sub h1⟩, q ω' H' _ ex rl' (gives_tup h1 r1)⟩
    | str z =>
      refine .inr (.inr ⟨s, S, ω, rl, rs, ?_⟩)
      rw [e0]
      intro ω' H' v ex rl' r
      exact ⟨z, r.str, q ω' H' _ ex rl' gives_str⟩
    | _ => exact q.elim
  | ex x S1 =>
    unfold sSeq at q
    rw [e0] at q
    refine .inl ⟨s, S, ω, rl, rs, ?_⟩
    rw [e0]
    exact q
  | err =>
    unfold sSeq at q
    rw [e0] at q
    exact q.elim
def OkI (K : PySem.W.Frag) (T : Tx) (p : List V → Hp → (It → Hp → Prop) → Prop) (f : List D → Option (List D)) : Prop := ∀ ω S H xs us R ds, Rl K T.toTb ω S H → Rps K T.toTb ω xs us → f xs = some ds → (∀ J, Gives K T ω ds J → R J H) → p us H R
theorem gi_N {p : List V → Hp → (It → Hp → Prop) → Prop} {f : List D → Option (List D)} (h : PI X tg e (fun σ H R => tAr X.K T W (eArgs ts) σ H fun vs H1 => p vs H1 R)) (hf : OkI X.K T p f) : GI X T W tg e (sN f ts) := PI.imp h fun σ H R ⟨s, S, ω, rl, rs, q⟩ => by
  refine ⟨s, S, ω, rl, rs, (EPg.bind q).mono ?_⟩
  rintro vs H1 ⟨ω1, S1, ds, e1, rl1, r1, q1⟩
  split at q1
  · exact hf _ _ _ _ _ _ _ rl1 r1 ‹_› fun J g => q1 ω1 H1 J Ext.refl rl1 g
  · exact q1.elim
theorem gi_rng1 {p : Pos} (hg : Gl X "range") (hm : X.mg "range" = none) (ha : GA X T W [a] ts) (hs : starEach [a] X.env = [(false, eval a X.env)] := by rfl) : GI X T W tg (.Call (.Name "range" p) [a] [] pos) (sN iRng1 ts) :=
  gi_N (p := fun vs H1 R => ∃ j : Int, vs = [.int j] ∧ -(2 ^ 62) ≤ j ∧ j < 2 ^ 62 ∧ R (Itr 0 j.toNat) H1) (pi_range1 hg hm ha hs) (by
    intro ω S H xs us R ds rl r e k
    unfold iRng1 at e
    split at e
    · split at e
      · rename_i j h
        cases e
        simp only [rngOk, Bool.and_eq_true, decide_eq_true_eq] at h
        obtain ⟨v, rfl, r1⟩ := r.one
        exact ⟨j, by rw [r1.int], h.1, h.2, k _ gives_rng⟩
      · cases e
    · cases e)
theorem gi_rng2 {p : Pos} (hg : Gl X "range") (hm : X.mg "range" = none) (ha : GA X T W [a, b] ts) (hs : starEach [a, b] X.env = [(false, eval a X.env), (false, eval b X.env)] := by rfl) (hs2 : starEach [b] X.env = [(false, eval b X.env)] := by rfl) :
    GI X T W tg (.Call (.Name "range" p) [a, b] [] pos) (sN iRng2 ts) :=
  gi_N (p := fun vs H1 R => ∃ i j : Int, vs = [.int i, .int j] ∧ (-(2 ^ 62) ≤ i ∧ i < 2 ^ 62 ∧ -(2 ^ 62) ≤ j ∧ j < 2 ^ 62) ∧ R (Itr i (j - i).toNat) H1) (pi_range2 hg hm ha hs hs2) (by
    intro ω S H xs us R ds rl r e k
    unfold iRng2 at e
    split at e
    · split at e
      · rename_i i j h
        cases e
        simp only [rngOk, Bool.and_eq_true, decide_eq_true_eq] at h
        obtain ⟨v, w, rfl, r1, r2⟩ := r.two
        exact ⟨i, j, by rw [r1.int, r2.int], ⟨h.1.1, h.1.2, h.2.1, h.2.2⟩, k _ gives_rng⟩
      · cases e
    · cases e)
theorem gi_enum {p tpos : Pos} {elts : List Expr} {kk : Nat} (hg : Gl X "enumerate") (hm : X.mg "enumerate" = none) (ha : GA X T W [a] ts) (hs : starEach [a] X.env = [(false, eval a X.env)] := by rfl) :
    GI X T W (.Tuple elts kk tpos) (.Call (.Name "enumerate" p) [a] [] pos) (sN iEnum ts) :=
  gi_N (p := fun vs H1 R => ∃ a xs, vs = [.ref a] ∧ SqL X.K H1 a xs ∧ R (Ite X.K a) H1) (pi_enum hg hm ha hs) (by
    intro ω S H xs us R ds rl r e k
    unfold Q.iEnum at e
    split at e
    · rename_i xs
      cases e
      obtain ⟨v, rfl, r1⟩ := r.one
      unfold Rp at r1
      obtain ⟨p, vs, rfl, h1, r2⟩ := r1
      refine ⟨p, vs, rfl, SqL.of (rl.sub _ _ h1), k _ (gives_pair (ds := (List.range xs.length).map fun (i : Nat) => D.int i) (es := xs) (n := vs.length) ?_ ?_ walk_enum (fun _ s => SqL.of (s _ _ h1)) ?_ ?_)⟩
      · rw [List.zipWith_map_left]
      · simp [r2.length]
      · intro i d v hd hv
        cases hv
        have hi : i < xs.length := by
          have := (List.getElem?_eq_some_iff.mp hd).1
          simpa using this
        rw [List.getElem?_map, List.getElem?_range hi] at hd
        cases hd
        exact Rp.mint _
      · intro i d v hd hv
        obtain ⟨w, hw, rw'⟩ := r2.get hd
        rw [hw] at hv
        cases hv
        exact rw'
    · cases e)
theorem gi_zipA {p tpos : Pos} {elts : List Expr} {kk : Nat} (hg : Gl X "zip") (hm : X.mg "zip" = none) (ha : GA X T W [a, b] ts)
    (hs : starEach [a, b] X.env = (false, eval a X.env) :: starEach [b] X.env := by rfl) (hpl : (backTo pos (starEach [b] X.env)).any (·.1) = false := by rfl) :
    GI X T W (.Tuple elts kk tpos) (.Call (.Name "zip" p) [a, b] [] pos) (sN iZipA ts) :=
  gi_N (p := fun vs H1 R => ∃ a b xs ys, vs = [.ref a, .ref b] ∧ ((SqL X.K H1 a xs ∧ SqL X.K H1 b ys ∧ R (Itz X.K a b) H1) ∨ (SqT X.K H1 a xs ∧ SqT X.K H1 b ys ∧ R (RZ.ItzT X.K a b) H1))) (RZ.pi_zipA hg hm ha hs hpl) (by
    intro ω S H xs us R ds rl r e k
    have at_ : ∀ {es : List D} {ws : List V}, Rps X.K T.toTb ω es ws → ∀ (i : Nat) d v, es[i]? = some d → ws[i]? = some v → Rp X.K T.toTb ω d v := fun {es ws} r2 i d v hd hv => by
      obtain ⟨w, hw, rw'⟩ := r2.get hd
      rw [hw] at hv
      cases hv
      exact rw'
    unfold Q.iZipA at e
    split at e
    · rename_i xs ys
      cases e
      obtain ⟨v, w, rfl, r1, r2⟩ := r.two
      unfold Rp at r1 r2
      obtain ⟨p, vs, rfl, h1, r1⟩ := r1
      obtain ⟨q, ws, rfl, h2, r2⟩ := r2
      exact ⟨p, q, vs, ws, rfl, .inl ⟨SqL.of (rl.sub _ _ h1), SqL.of (rl.sub _ _ h2), k _ (gives_pair (ds := xs) (es := ys) (n := min vs.length ws.length) rfl (by simp [r1.length, r2.length]) (walk_zip rfl) (fun _ s => ⟨SqL.of (s _ _ h1), SqL.of (s _ _ h2)⟩) (at_ r1) (at_ r2))⟩⟩
    · rename_i xs ys
      cases e
      obtain ⟨v, w, rfl, r1, r2⟩ := r.two
      unfold Rp at r1 r2
      obtain ⟨p, vs, rfl, h1, r1⟩ := r1
      obtain ⟨q, ws, rfl, h2, r2⟩ := r2
      exact ⟨p, q, vs, ws, rfl, .inr ⟨Same.seqT rl.sub h1, Same.seqT rl.sub h2, k _ (gives_pair (ds := xs) (es := ys) (n := min vs.length ws.length) rfl (by simp [r1.length, r2.length]) (walk_zipT rfl) (fun _ s => ⟨Same.seqT s h1, Same.seqT s h2⟩) (at_ r1) (at_ r2))⟩⟩
    · cases e)
theorem wipe_set_in {σ : L2.St} {i : Nat} {x : Option V} : ∀ {vs : List Nat}, i ∈ vs → wipe (σ.set i x) vs = wipe σ vs
  | [], h => by simp at h
  | v :: vs, h => by
    unfold wipe
    by_cases hv : i = v
    · subst hv
      by_cases hi : i ∈ vs
      · rw [wipe_set_in hi]
      · have out : ∀ (ws : List Nat), i ∉ ws → wipe (σ.set i x) ws = (wipe σ ws).set i x := by
          intro ws
          induction ws with
          | nil => intro _; rfl
          | cons w ws ih =>
            intro hw
            unfold wipe
            rw [ih fun z => hw (List.mem_cons_of_mem _ z), List.set_comm _ _ (fun z => hw (by rw [z]; exact List.mem_cons_self))]
        rw [out vs hi, List.set_set]
    · rcases List.mem_cons.mp h with z | z
      · exact absurd z hv
      · rw [wipe_set_in z]
def tGr (K : PySem.W.Frag) (T : Tx) (p : Pat) : TG := fun v σ H Qv => ∃ s S ω d s1, Rl K T.toTb ω S H ∧ Rs K T.toTb ω s σ ∧ Rp K T.toTb ω d v ∧ p.put d s = some s1 ∧
  ∀ σ1, Rs K T.toTb ω s1 σ1 → (∀ vs, (∀ i ∈ p.slots, i ∈ vs) → wipe σ1 vs = wipe σ vs) → Qv σ1 H
def tGrs (K : PySem.W.Frag) (T : Tx) (ps : List Pat) : TGs := fun us σ H Qv => ∃ s S ω ds s1, Rl K T.toTb ω S H ∧ Rs K T.toTb ω s σ ∧ Rps K T.toTb ω ds us ∧ Pat.puts ps ds s = some s1 ∧
  ∀ σ1, Rs K T.toTb ω s1 σ1 → (∀ vs, (∀ i ∈ Pat.slotss ps, i ∈ vs) → wipe σ1 vs = wipe σ vs) → Qv σ1 H
def GP (X : Cx) (T : Tx) (tg : Expr) (p : Pat) : Prop := PG X tg (tGr X.K T p)
def GPs (X : Cx) (T : Tx) (ts : List Expr) (ps : List Pat) : Prop := PGs X ts (tGrs X.K T ps)
theorem PG.imp {X : Cx} {e : Expr} {t t' : TG} (h : PG X e t) (i : ∀ v σ H Qv, t' v σ H Qv → t v σ H Qv) : PG X e t' := ⟨fun pins s σ H v u Qv I r q => h.run pins s σ H v u Qv I r (i _ _ _ _ q)⟩
theorem PGs.imp {X : Cx} {e : List Expr} {t t' : TGs} (h : PGs X e t) (i : ∀ v σ H Qv, t' v σ H Qv → t v σ H Qv) : PGs X e t' := ⟨fun pins s σ H v u Qv I r q => h.run pins s σ H v u Qv I r (i _ _ _ _ q)⟩
theorem gp_name {i : Nat} (h : PG X tg (gName i)) : GP X T tg (.nm i) := PG.imp h fun v σ H Qv ⟨s, S, ω, d, s1, rl, rs, r, hp, k⟩ => by
  unfold Pat.put at hp
  cases hp
  exact k _ (rs.set r i) fun vs hv => wipe_set_in (hv i (by unfold Pat.slots; exact List.mem_singleton.mpr rfl))
theorem gps_nil : GPs X T [] [] := PGs.imp pgs_nil fun us σ H Qv ⟨s, S, ω, ds, s1, rl, rs, r, hp, k⟩ => by
  cases ds with
  | nil =>
    unfold Pat.puts at hp
    cases hp
    unfold Rps at r
    exact ⟨r, k σ rs fun _ _ => rfl⟩
  | cons d ds => simp [Pat.puts] at hp
theorem gps_cons {p : Pat} {ps : List Pat} (h1 : GP X T e p) (h2 : GPs X T es ps) (hs : (assignEach (e :: es) X.env).map (·.2) = assign e X.env :: (assignEach es X.env).map (·.2) := by rfl) : GPs X T (e :: es) (p :: ps) := PGs.imp (pgs_cons h1 h2 hs) fun us σ H Qv ⟨s, S, ω, ds, s1, rl, rs, r, hp, k⟩ => by
  cases ds with
  | nil => simp [Pat.puts] at hp
  | cons d ds =>
    unfold Rps at r
    obtain ⟨v, ws, rfl, r1, r2⟩ := r
    unfold Pat.puts at hp
    cases e1 : p.put d s with
    | none => rw [e1] at hp; cases hp
    | some s2 =>
      rw [e1] at hp
      refine ⟨v, ws, rfl, s, S, ω, d, s2, rl, rs, r1, e1, fun σ1 rs1 w1 => ⟨s2, S, ω, ds, s1, rl, rs1, r2, hp, fun σ2 rs2 w2 => ?_⟩⟩
      refine k σ2 rs2 fun vs hv => ?_
      unfold Pat.slotss at hv
      rw [w2 vs fun i hi => hv i (List.mem_append_right _ hi), w1 vs fun i hi => hv i (List.mem_append_left _ hi)]
theorem puts_len : ∀ {ps : List Pat} {ds : List D} {s s1 : Sl}, Pat.puts ps ds s = some s1 → ds.length = ps.length
  | [], [], _, _, _ => rfl
  | [], _ :: _, _, _, h => by simp [Pat.puts] at h
  | _ :: _, [], _, _, h => by simp [Pat.puts] at h
  | p :: ps, d :: ds, s, s1, h => by
    unfold Pat.puts at h
    split at h
    · simp [puts_len h]
    · cases h
theorem gp_tup {ps : List Pat} {k : Nat} (hc : X.calm = true) (h : GPs X T es ps) (hn : (assignEach es X.env).length = ps.length := by rfl) (hst : (assignEach es X.env).findIdx? (·.1) = none := by rfl) : GP X T (.Tuple es k pos) (.tp ps) := PG.imp (pg_tup hc h hn hst) fun v σ H Qv ⟨s, S, ω, d, s1, rl, rs, r, hp, k⟩ => by
  cases d <;> try (simp [Pat.put] at hp; done)
  unfold Pat.put at hp
  obtain ⟨a, vs, rfl, h1, r1⟩ := Rp.tup rl r
  refine ⟨a, vs, rfl, h1, by rw [← r1.length]; exact puts_len hp, s, S, ω, _, s1, rl, rs, r1, hp, fun σ1 rs1 w => k σ1 rs1 fun vs hv => w vs fun i hi => hv i (by unfold Pat.slots; exact hi)⟩
def SPg (K : PySem.W.Frag) (T : Tx) (W : WX) (Dn : Ends) (ω : Wd) (S : Store) (H : Hp) (r : RS) : Prop := match r with
  | some (.nx s', S') => ∀ ω' σ' H', Ext ω S H ω' S' H' → Rl K T.toTb ω' S' H' → Rs K T.toTb ω' s' σ' → Dn.nx σ' H'
  | some (.bk s', S') => ∀ ω' σ' H', Ext ω S H ω' S' H' → Rl K T.toTb ω' S' H' → Rs K T.toTb ω' s' σ' → Dn.bk σ' H'
  | some (.ct s', S') => ∀ ω' σ' H', Ext ω S H ω' S' H' → Rl K T.toTb ω' S' H' → Rs K T.toTb ω' s' σ' → Dn.ct σ' H'
  | some (.ret d, S') => ∀ ω' H' v, Ext ω S H ω' S' H' → Rl K T.toTb ω' S' H' → Rp K T.toTb ω' d v → Dn.rt v H'
  | some (.ex e s', S') => ∀ ω' σ' H' cls dd, Ext ω S H ω' S' H' → Rl K T.toTb ω' S' H' → Rs K T.toTb ω' s' σ' → ExR K T ω' e cls dd → W cls dd σ' H'
  | none => False
theorem SPg.shift {K : PySem.W.Frag} {Dn : Ends} {ω ω1 : Wd} {S S1 : Store} {H H1 : Hp} {r : RS} (e : Ext ω S H ω1 S1 H1) (h : SPg K T W Dn ω S H r) : SPg K T W Dn ω1 S1 H1 r := by
  cases r with
  | none => exact h
  | some p =>
    obtain ⟨f, S'⟩ := p
    cases f with
    | nx s => exact fun ω' σ' H' x => h ω' σ' H' (e.trans x)
    | bk s => exact fun ω' σ' H' x => h ω' σ' H' (e.trans x)
    | ct s => exact fun ω' σ' H' x => h ω' σ' H' (e.trans x)
    | ret d => exact fun ω' H' v x => h ω' H' v (e.trans x)
    | ex q s => exact fun ω' σ' H' c d x => h ω' σ' H' c d (e.trans x)
def tSr (K : PySem.W.Frag) (T : Tx) (W : WX) (t : TSt) : L2.TS := fun Dn σ H => ∃ s S ω, Rl K T.toTb ω S H ∧ Rs K T.toTb ω s σ ∧ SPg K T W Dn ω S H (t s S)
def GS (X : Cx) (T : Tx) (W : WX) (st : Stmt) (t : TSt) : Prop := PS X st (tSr X.K T W t)
def GSs (X : Cx) (T : Tx) (W : WX) (st : List Stmt) (t : TSt) : Prop := PSs X st (tSr X.K T W t)
theorem PS.imp {X : Cx} {e : Stmt} {t t' : L2.TS} (h : PS X e t) (i : ∀ D σ H, t' D σ H → t D σ H) : PS X e t' := ⟨fun pins s σ H D I q => h.run pins s σ H D I (i _ _ _ q)⟩
theorem PSs.imp {X : Cx} {e : List Stmt} {t t' : L2.TS} (h : PSs X e t) (i : ∀ D σ H, t' D σ H → t D σ H) : PSs X e t' := ⟨fun pins s σ H D I q => h.run pins s σ H D I (i _ _ _ q)⟩
theorem onE_ok {K : PySem.W.Frag} {Dn : Ends} {σ : L2.St} {ω : Wd} {S : Store} {H : Hp} {r : Res D} {s : Sl} {k : D → Store → RS} (rs : Rs K T.toTb ω s σ) (h : SPg K T W Dn ω S H (onE r s k)) :
    EPg K T (Rp K T.toTb) W σ ω S H r (fun v H1 => ∃ ω1 S1 d, Ext ω S H ω1 S1 H1 ∧ Rl K T.toTb ω1 S1 H1 ∧ Rp K T.toTb ω1 d v ∧ SPg K T W Dn ω1 S1 H1 (k d S1)) := by
  cases r with
  | ok d S' => exact fun ω' H' v e rl r => ⟨ω', S', d, e, rl, r, SPg.shift e h⟩
  | ex q S' => exact fun ω' H' c dd e rl x => h ω' σ H' c dd e rl (rs.ext e) x
  | err => exact h
variable {st : Stmt} {rest body : List Stmt} {t u : TSt}
theorem gs_pass : GS X T W (.Pass pos) tPass := PS.imp ps_pass fun D σ H ⟨s, S, ω, rl, rs, q⟩ => q ω σ H Ext.refl rl rs
theorem gs_break : GS X T W (.Break pos) tBrk := PS.imp ps_break fun D σ H ⟨s, S, ω, rl, rs, q⟩ => q ω σ H Ext.refl rl rs
theorem gs_cont : GS X T W (.Continue pos) tCnt := PS.imp ps_continue fun D σ H ⟨s, S, ω, rl, rs, q⟩ => q ω σ H Ext.refl rl rs
theorem gss_nil : GSs X T W [] tPass := PSs.imp pss_nil fun D σ H ⟨s, S, ω, rl, rs, q⟩ => q ω σ H Ext.refl rl rs
theorem gss_one (h : GS X T W st t) : GSs X T W [st] t := pss_one h
theorem gss_cons (h1 : GS X T W st t) (h2 : GSs X T W rest u) : GSs X T W (st :: rest) (Q.tSeq t u) := PSs.imp (pss_cons h1 h2) fun D σ H ⟨s, S, ω, rl, rs, q⟩ => by
  refine ⟨s, S, ω, rl, rs, ?_⟩
  unfold Q.tSeq at q
  cases e : t s S with
  | none => rw [e] at q; exact q
  | some p =>
    obtain ⟨f, S'⟩ := p
    rw [e] at q
    cases f with
    | nx s' => exact fun ω' σ' H' ex rl' rs' => ⟨s', S', ω', rl', rs', SPg.shift ex q⟩
    | bk s' => exact q
    | ct s' => exact q
    | ret d => exact q
    | ex x s' => exact q
theorem gs_expr (he : GE X T W a ta) (hs : swapsWith a none pos.line X.env = pure false := by rfl) : GS X T W (.Expr a pos) (tExpr ta) := PS.imp (ps_expr he hs) fun D σ H ⟨s, S, ω, rl, rs, q⟩ => by
  refine ⟨s, S, ω, rl, rs, (onE_ok rs q).mono ?_⟩
  rintro v H1 ⟨ω1, S1, d, e1, rl1, r1, q1⟩
  exact q1 ω1 σ H1 Ext.refl rl1 (rs.ext e1)
theorem gs_ret (he : GE X T W a ta) : GS X T W (.Return (some a) pos) (Q.tRet ta) := PS.imp (ps_ret he) fun D σ H ⟨s, S, ω, rl, rs, q⟩ => by
  refine ⟨s, S, ω, rl, rs, (onE_ok rs q).mono ?_⟩
  rintro v H1 ⟨ω1, S1, d, e1, rl1, r1, q1⟩
  exact q1 ω1 H1 v Ext.refl rl1 r1
theorem gs_set' {i : Nat} {te : L2.TE} (h : PS X st (tAsg te (gName i))) (hte : ∀ σ H Qv, tEr X.K T W ta σ H Qv → te σ H Qv) : GS X T W st (tSet (.nm i) ta) := PS.imp h fun D σ H ⟨s, S, ω, rl, rs, q⟩ => by
  refine hte _ _ _ ⟨s, S, ω, rl, rs, (onE_ok rs q).mono ?_⟩
  rintro v H1 ⟨ω1, S1, d, e1, rl1, r1, q1⟩
  unfold Pat.put at q1
  exact q1 ω1 _ H1 Ext.refl rl1 ((rs.ext e1).set r1 i)
theorem gs_set {i : Nat} (h : PS X st (tAsg (tEr X.K T W ta) (gName i))) : GS X T W st (tSet (.nm i) ta) := gs_set' h fun _ _ _ q => q
theorem gs_asg {p : Pat} (h : PS X st (tAsg (tEr X.K T W ta) (tGr X.K T p))) : GS X T W st (tSet p ta) := PS.imp h fun D σ H ⟨s, S, ω, rl, rs, q⟩ => by
  refine ⟨s, S, ω, rl, rs, (onE_ok rs q).mono ?_⟩
  rintro v H1 ⟨ω1, S1, d, e1, rl1, r1, q1⟩
  split at q1
  · rename_i s1 hp
    exact ⟨s, S1, ω1, d, s1, rl1, rs.ext e1, r1, hp, fun σ1 rs1 _ => q1 ω1 σ1 H1 Ext.refl rl1 rs1⟩
  · exact q1.elim
theorem tup_ok {D : Ends} {σ : L2.St} {H : Hp} {s : Sl} {S : Store} {ω : Wd} {ps : List Pat} (rs : Rs X.K T.toTb ω s σ) (q : SPg X.K T W D ω S H (tSet (.tp ps) (eTup ts) s S)) :
    EPg X.K T (Rps X.K T.toTb) W σ ω S H (eArgs ts s S) (fun vs H1 => ∃ ω1 S1 ds s1, Ext ω S H ω1 S1 H1 ∧ Rl X.K T.toTb ω1 S1 H1 ∧ Rps X.K T.toTb ω1 ds vs ∧ Pat.puts ps ds s = some s1 ∧ ∀ σ1, Rs X.K T.toTb ω1 s1 σ1 → D.nx σ1 H1) := by
  unfold tSet eTup at q
  cases e0 : eArgs ts s S with
  | ok ds S1 =>
    rw [e0] at q
    simp only [Res.bind, onE, Pat.put] at q
    intro ω1 H1 vs e rl1 r
    split at q
    · rename_i s1 hp
      exact ⟨ω1, S1, ds, s1, e, rl1, r, hp, fun σ1 rs1 => q ω1 σ1 H1 e rl1 rs1⟩
    · exact q.elim
  | ex x S1 =>
    rw [e0] at q
    simp only [Res.bind, onE] at q
    exact fun ω' H' c dd e rl' x => q ω' σ H' c dd e rl' (rs.ext e) x
  | err =>
    rw [e0] at q
    exact q
theorem gs_swp2 {i j : Nat} (h : PS X st (L2.tPar i j (tAr X.K T W (eArgs [ta, tb])))) : GS X T W st (tSet (.tp [.nm i, .nm j]) (eTup [ta, tb])) := PS.imp h fun D σ H ⟨s, S, ω, rl, rs, q⟩ => by
  refine ⟨s, S, ω, rl, rs, (tup_ok rs q).mono ?_⟩
  rintro vs H1 ⟨ω1, S1, ds, s1, e1, rl1, r, hp, k⟩
  have hl := puts_len hp
  match ds, hl with
  | [d1, d2], _ =>
    obtain ⟨v, w, rfl, r1, r2⟩ := r.two
    simp only [Pat.puts, Pat.put, Option.some.injEq] at hp
    subst hp
    exact ⟨v, w, rfl, k _ (((rs.ext e1).set r1 i).set r2 j)⟩
theorem Rps.three {K : PySem.W.Frag} {T : Tb} {ω : Wd} {d e f : D} {vs : List V} (h : Rps K T ω [d, e, f] vs) : ∃ u v w, vs = [u, v, w] ∧ Rp K T ω d u ∧ Rp K T ω e v ∧ Rp K T ω f w := by
  unfold Rps at h
  obtain ⟨v, ws, rfl, r, h2⟩ := h
  obtain ⟨w, z, rfl, r2, r3⟩ := Rps.two h2
  exact ⟨v, w, z, rfl, r, r2, r3⟩
theorem gs_swp3 {i j l : Nat} (h : PS X st (L2.tPar3 i j l (tAr X.K T W (eArgs [ta, tb, tc])))) : GS X T W st (tSet (.tp [.nm i, .nm j, .nm l]) (eTup [ta, tb, tc])) := PS.imp h fun D σ H ⟨s, S, ω, rl, rs, q⟩ => by
  refine ⟨s, S, ω, rl, rs, (tup_ok rs q).mono ?_⟩
  rintro vs H1 ⟨ω1, S1, ds, s1, e1, rl1, r, hp, k⟩
  have hl := puts_len hp
  match ds, hl with
  | [d1, d2, d3], _ =>
    obtain ⟨u, v, w, rfl, r1, r2, r3⟩ := r.three
    simp only [Pat.puts, Pat.put, Option.some.injEq] at hp
    subst hp
    exact ⟨u, v, w, rfl, k _ ((((rs.ext e1).set r1 i).set r2 j).set r3 l)⟩
theorem gs_if (hc : GT X T W c tc) (ha : GSs X T W body t) (hb : GSs X T W rest u) : GS X T W (.If c body rest pos) (Q.tIf tc t u) := PS.imp (ps_if hc ha hb) fun D σ H ⟨s, S, ω, rl, rs, q⟩ => by
  refine ⟨s, S, ω, rl, rs, ?_⟩
  unfold Q.tIf at q
  cases e0 : tc s S with
  | ok d S' =>
    rw [e0] at q
    have q' : SPg X.K T W D ω S H (asBS d S' fun c S2 => if c then t s S2 else u s S2) := q
    cases d <;> try exact q'.elim
    rename_i k
    intro ω' H' c e rl r
    cases r
    have q2 := SPg.shift e q'
    cases k with
    | true => exact iteT ⟨s, S', ω', rl, rs.ext e, q2⟩
    | false => exact iteF ⟨s, S', ω', rl, rs.ext e, q2⟩
  | ex x S' =>
    rw [e0] at q
    exact fun ω' H' c dd e rl' x => q ω' σ H' c dd e rl' (rs.ext e) x
  | err => rw [e0] at q; exact q
theorem gs_setIx {to ti tv : Q.TE} (h : PS X st (tAsg (tEr X.K T W tv) (gSub (tEr X.K T W to) (tEr X.K T W ti) rSetL))) : GS X T W st (tSetIx to ti tv) := PS.imp h fun D σ H ⟨s, S, ω, rl, rs, q⟩ => by
  refine ⟨s, S, ω, rl, rs, (onE_ok rs q).mono ?_⟩
  rintro v H1 ⟨ω1, S1, d, e1, rl1, r1, q1⟩
  refine ⟨s, S1, ω1, rl1, rs.ext e1, (onE_ok (rs.ext e1) q1).mono ?_⟩
  rintro w H2 ⟨ω2, S2, d2, e2, rl2, r2, q2⟩
  refine ⟨s, S2, ω2, rl2, (rs.ext e1).ext e2, (onE_ok ((rs.ext e1).ext e2) q2).mono ?_⟩
  rintro z H3 ⟨ω3, S3, d3, e3, rl3, r3, q3⟩
  split at q3
  · rename_i S4 hset
    unfold setL at hset
    split at hset
    · rename_i k j
      split at hset
      · rename_i xs g
        split at hset
        · rename_i n hn
          split at hset
          · rename_i hf
            cases hset
            obtain ⟨p, vs, rfl, rfl, h1, r4⟩ := Rp.ptr rl3 (r2.ext e3) g
            have hfs := (rl3.obj k xs g).2.1
            have z := rl3.put (es := xs.set n d) g (by
              refine flats_all.mpr fun x hx => ?_
              rcases List.mem_or_eq_of_mem_set hx with h | h
              · exact flats_all.mp hfs x h
              · rw [h]; exact hf) (r4.set n ((r1.ext e2).ext e3))
            exact ⟨_, vs, j, n, rfl, r3.int, h1, by rw [← r4.length]; exact hn, q3 ω3 σ _ z.1 z.2 ((((rs.ext e1).ext e2).ext e3).ext z.1)⟩
          · cases hset
        · cases hset
      · cases hset
    · cases hset
  · exact q3.elim
theorem gs_frz {i : Nat} (h : GS X T W st t) : GS X T W st (tFrz i t) := PS.imp h fun D σ H ⟨s, S, ω, rl, rs, q⟩ => by
  unfold tFrz at q
  split at q
  · rename_i s1 S1 hz
    unfold frzS at hz
    split at hz
    · rename_i k hk
      split at hz
      · rename_i xs g
        cases hz
        obtain ⟨v, hv, r⟩ := rs.2 i _ hk
        obtain ⟨p, vs, rfl, rfl, h1, r1⟩ := Rp.ptr rl r g
        obtain ⟨ω1, e1, rl1, hF⟩ := rl.frz g h1 r1
        have e : σ.set i (some (V.ref (ω.al k))) = σ := by
          have hl := (List.getElem?_eq_some_iff.mp hv).1
          have h2 := (List.getElem?_eq_some_iff.mp hv).2
          rw [← h2, List.set_getElem_self]
        have rs1 := (rs.ext e1).set (Rp.mlst hF (r1.ext e1)) i
        rw [e] at rs1
        exact ⟨_, _, ω1, rl1, rs1, SPg.shift e1 q⟩
      · cases hz
    · cases hz
  · exact q.elim
theorem gs_while (hp : PassesOwn (model X.prog X.w) X.A X.env X.xe) (hc : GT X T W c tc) (hb : GSs X T W body t) : GS X T W (.While c body [] pos) (Q.tWhile tc t) := PS.imp (ps_while hp hc hb) fun D σ H ⟨s, S, ω, rl, rs, q⟩ => by
  refine ⟨fun m σ H => ∃ s S ω, Rl X.K T.toTb ω S H ∧ Rs X.K T.toTb ω s σ ∧ SPg X.K T W D ω S H (whL tc t m s S), ⟨whMost, s, S, ω, rl, rs, q⟩, ?_⟩
  rintro m σ1 H1 ⟨s1, S1, ω1, rl1, rs1, q1⟩
  cases m with
  | zero => exact q1.elim
  | succ m =>
    refine ⟨s1, S1, ω1, rl1, rs1, ?_⟩
    unfold whL at q1
    cases e0 : tc s1 S1 with
    | ok d S' =>
      rw [e0] at q1
      simp only [onE] at q1
      cases d <;> try exact q1.elim
      rename_i k
      intro ω' H' c e rl2 r
      cases r
      have q2 := SPg.shift e q1
      cases k with
      | false => exact iteF (q2 ω' σ1 H' Ext.refl rl2 (rs1.ext e))
      | true =>
        refine iteT ⟨fun σ' H' => ∃ s S ω, Rl X.K T.toTb ω S H' ∧ Rs X.K T.toTb ω s σ' ∧ SPg X.K T W D ω S H' (whL tc t m s S), fun σ' H' w => ⟨m, Nat.lt_succ_self _, w⟩, s1, S', ω', rl2, rs1.ext e, ?_⟩
        have q3 : SPg X.K T W D ω' S' H' (match t s1 S' with
          | some (.nx s3, S3) => whL tc t m s3 S3
          | some (.ct s3, S3) => whL tc t m s3 S3
          | some (.bk s3, S3) => some (.nx s3, S3)
          | some (.ret d, S3) => some (.ret d, S3)
          | some (.ex e s3, S3) => some (.ex e s3, S3)
          | none => none) := q2
        cases e3 : t s1 S' with
        | none => rw [e3] at q3; exact q3
        | some p =>
          obtain ⟨f, S3⟩ := p
          rw [e3] at q3
          cases f with
          | nx s3 => exact fun ω4 σ4 H4 ex4 rl4 rs4 => ⟨s3, S3, ω4, rl4, rs4, SPg.shift ex4 q3⟩
          | ct s3 => exact fun ω4 σ4 H4 ex4 rl4 rs4 => ⟨s3, S3, ω4, rl4, rs4, SPg.shift ex4 q3⟩
          | bk s3 => exact q3
          | ret d => exact q3
          | ex x s3 => exact q3
    | ex x S' =>
      rw [e0] at q1
      exact fun ω' H' c dd e rl' x => q1 ω' σ1 H' c dd e rl' (rs1.ext e) x
    | err => rw [e0] at q1; exact q1
theorem gs_for {p : Pat} {iter : Expr} {src : Src} (hp : PassesOwn (model X.prog X.w) X.A X.env X.xe) (hc : X.calm = true) (hi : GI X T W tg iter src) (hg : GP X T tg p) (hb : GSs X T W body t) (hs : ∀ x, foldedSetIterable iter X.env x = pure x := by intro _; rfl) :
    GS X T W (.For tg iter body [] pos) (Q.tFor p src t) := PS.imp (ps_for hp hc hi hg hb hs) fun D σ H ⟨s, S, ω, rl, rs, q⟩ => by
  refine ⟨s, S, ω, rl, rs, ?_⟩
  unfold Q.tFor at q
  cases e0 : src s S with
  | ok ds S' =>
    rw [e0] at q
    intro ω' H' J e rl' g
    obtain ⟨G, Y, wk, gG, gY⟩ := g
    have q' : SPg X.K T W D ω' S' H' (forL p t ds s S') := SPg.shift e q
    refine for_it wk (fun i σ H => ∃ s S ω1, Later ω' ω1 ∧ Rl X.K T.toTb ω1 S H ∧ Rs X.K T.toTb ω1 s σ ∧ SPg X.K T W D ω1 S H (forL p t (ds.drop i) s S)) ⟨s, S', ω', Later.refl, rl', rs.ext e, q'⟩ (fun i σ H _ ⟨s1, S1, ω1, lt, rl1, _, _⟩ => gG H (lt.fix.trans rl1.sub)) ?_ ?_
    · rintro i x σ1 H1 H2 hi ⟨s1, S1, ω1, lt, rl1, rs1, q1⟩ y
      obtain ⟨d, hd⟩ : ∃ d, ds[i]? = some d := ⟨ds[i], by simp [hi]⟩
      obtain ⟨ω2, e2, rl2, r2⟩ := gY i d ω1 S1 H1 x H2 hd lt rl1 y
      have hdrop : ds.drop i = d :: ds.drop (i + 1) := by
        obtain ⟨h1, h2⟩ := List.getElem?_eq_some_iff.mp hd
        rw [List.drop_eq_getElem_cons h1, h2]
      rw [hdrop] at q1
      unfold forL at q1
      cases hput : p.put d s1 with
      | none => rw [hput] at q1; exact q1.elim
      | some s2 =>
        rw [hput] at q1
        refine ⟨s1, S1, ω2, d, s2, rl2, rs1.ext e2, r2, hput, fun σ3 rs3 _ => ⟨s2, S1, ω2, rl2, rs3, ?_⟩⟩
        have q2 := SPg.shift e2 q1
        have lt2 := lt.trans e2.later
        have q3 : SPg X.K T W D ω2 S1 H2 (match t s2 S1 with
          | some (.nx s2, S2) => forL p t (ds.drop (i + 1)) s2 S2
          | some (.ct s2, S2) => forL p t (ds.drop (i + 1)) s2 S2
          | some (.bk s2, S2) => some (.nx s2, S2)
          | some (.ret d, S2) => some (.ret d, S2)
          | some (.ex e s2, S2) => some (.ex e s2, S2)
          | none => none) := q2
        cases e3 : t s2 S1 with
        | none => rw [e3] at q3; exact q3
        | some pr =>
          obtain ⟨f, S3⟩ := pr
          rw [e3] at q3
          cases f with
          | nx s3 => exact fun ω4 σ4 H4 ex4 rl4 rs4 => ⟨s3, S3, ω4, lt2.trans ex4.later, rl4, rs4, SPg.shift ex4 q3⟩
          | ct s3 => exact fun ω4 σ4 H4 ex4 rl4 rs4 => ⟨s3, S3, ω4, lt2.trans ex4.later, rl4, rs4, SPg.shift ex4 q3⟩
          | bk s3 => exact q3
          | ret d => exact q3
          | ex x s3 => exact q3
    · rintro σ1 H1 ⟨s1, S1, ω1, lt, rl1, rs1, q1⟩
      rw [List.drop_length] at q1
      exact q1 ω1 σ1 H1 Ext.refl rl1 rs1
  | ex x S' =>
    rw [e0] at q
    exact fun ω' H' c dd e rl' x => q ω' σ H' c dd e rl' (rs.ext e) x
  | err => rw [e0] at q; exact q
abbrev Wn : WX := fun _ _ _ _ => False
theorem Rs.wipe {K : PySem.W.Frag} {T : Tb} {ω : Wd} {s : Sl} {σ : L2.St} (h : Rs K T ω s σ) : ∀ vs : List Nat, Rs K T ω (wipeS s vs) (L2.wipe σ vs)
  | [] => h
  | v :: vs => (Rs.wipe h vs).drop v
theorem Own.not_upd {K : PySem.W.Frag} {ω : Wd} {S : Store} {H : Hp} {A : Addr} {o : HO} (rl : Rl K T.toTb ω S H) (n : ¬ Own ω S A) : Rl K T.toTb ω S (upd H A o) := by
  refine ⟨fun b q h => ?_, rl.len, fun k ds h => ?_, rl.inj, rl.lenO, fun k C fs h => ?_, rl.injO⟩
  · rw [upd_ne fun z => n (.inl ⟨q, by rw [← z]; exact h⟩)]; exact rl.sub _ _ h
  · obtain ⟨a1, a2, vs, a3, a4⟩ := rl.obj k ds h
    exact ⟨a1, a2, vs, by rw [upd_ne fun z => n (.inr (.inl ⟨k, ds, h, z⟩))]; exact a3, a4⟩
  · obtain ⟨a1, a2, dx, gs, a3, a4⟩ := rl.objO k C fs h
    refine ⟨a1, a2, dx, gs, ?_, a4⟩
    have hk : k < ω.m := by rw [← rl.lenO]; exact (List.getElem?_eq_some_iff.mp h).1
    rw [upd_ne fun z => n (.inr (.inr ⟨k, hk, z⟩))]; exact a3
theorem Rl.adopt {K : PySem.W.Frag} {ω0 ω : Wd} {S0 S : Store} {H0 H : Hp} {A : Addr} {o : HO} (rl : Rl K T.toTb ω S H) (e : Ext ω0 S0 H0 ω S H) (h0 : H0 A = none) (h : H A = some o) (n : ¬ Own ω S A) :
    ∃ ω', Ext ω0 S0 H0 ω' S H ∧ Rl K T.toTb ω' S H ∧ ω'.F A = some o ∧ Later ω ω' := by
  have hF : ω.F A = none := by
    cases q : ω.F A with
    | none => rfl
    | some u => exact absurd (.inl ⟨u, q⟩) n
  have fx : Same ω.F (upd ω.F A o) := fun b q h => by rw [upd_ne (ne_of_none h hF)]; exact h
  have lt : Later ω ⟨upd ω.F A o, ω.al, ω.n, ω.ao, ω.m⟩ := ⟨fx, fun _ _ => rfl, Nat.le_refl _, fun _ _ => rfl, Nat.le_refl _⟩
  have own : ∀ b, b ≠ A → Own ⟨upd ω.F A o, ω.al, ω.n, ω.ao, ω.m⟩ S b → Own ω S b := fun b hb h => by
    rcases h with ⟨q, h⟩ | h | h
    · have h' : upd ω.F A o b = some q := h
      rw [upd_ne hb] at h'
      exact .inl ⟨q, h'⟩
    · exact .inr (.inl h)
    · exact .inr (.inr h)
  refine ⟨⟨upd ω.F A o, ω.al, ω.n, ω.ao, ω.m⟩, ⟨e.fix.trans fx, e.al, e.len, e.ao, e.lenO, e.live, fun b q h1 n1 => ?_⟩, ⟨fun b q h1 => ?_, rl.len, fun k ds h1 => ?_, rl.inj, rl.lenO, fun k C fs h1 => ?_, rl.injO⟩, upd_same, lt⟩
  · obtain ⟨h2, n2⟩ := e.frame b q h1 n1
    exact ⟨h2, fun z => n2 (own b (ne_of_none h1 h0) z)⟩
  · have h' : upd ω.F A o b = some q := h1
    by_cases hb : b = A
    · rw [hb, upd_same] at h'; rw [hb, h]; exact h'
    · rw [upd_ne hb] at h'; exact rl.sub _ _ h'
  · obtain ⟨a1, a2, vs, a3, a4⟩ := rl.obj k ds h1
    refine ⟨?_, a2, vs, a3, a4.late lt⟩
    show upd ω.F A o (ω.al k) = none
    rw [upd_ne fun z => n (.inr (.inl ⟨k, ds, h1, z⟩))]; exact a1
  · obtain ⟨a1, a2, dx, gs, a3, a4⟩ := rl.objO k C fs h1
    have hk : k < ω.m := by rw [← rl.lenO]; exact (List.getElem?_eq_some_iff.mp h1).1
    refine ⟨?_, a2, dx, gs, a3, Rpf.mono lt.fix lt.al lt.len lt.ao lt.lenO _ _ a4⟩
    show upd ω.F A o (ω.ao k) = none
    rw [upd_ne fun z => n (.inr (.inr ⟨k, hk, z⟩))]; exact a1
theorem Ext.upd_out {ω0 ω : Wd} {S0 S : Store} {H0 H : Hp} {A : Addr} {o : HO} (e : Ext ω0 S0 H0 ω S H) (h0 : H0 A = none) : Ext ω0 S0 H0 ω S (upd H A o) :=
  ⟨e.fix, e.al, e.len, e.ao, e.lenO, e.live, fun b q h n => by
    obtain ⟨h1, n1⟩ := e.frame b q h n
    exact ⟨by rw [upd_ne (ne_of_none h h0)]; exact h1, n1⟩⟩
theorem own_of {K : PySem.W.Frag} {ω : Wd} {S : Store} {H : Hp} {A : Addr} (rl : Rl K T.toTb ω S H) (h : H A = none) : ¬ Own ω S A := by
  rintro (⟨q, z⟩ | ⟨k, ds, z, e⟩ | ⟨k, hk, e⟩)
  · have := rl.sub _ _ z
    rw [h] at this; cases this
  · obtain ⟨_, _, vs, a3, _⟩ := rl.obj k ds z
    rw [e, h] at a3; cases a3
  · have hk' : k < S.O.length := by rw [rl.lenO]; exact hk
    obtain ⟨_, _, _, _, a3, _⟩ := rl.objO k _ _ (show S.O[k]? = some (S.O[k].1, S.O[k].2) by simp [hk'])
    rw [e, h] at a3; cases a3
theorem lc_ok {vs : List Nat} {p : Pat} {src : Src} {t e : Q.TE} (hin : ∀ i ∈ p.slots, i ∈ vs) (σ : L2.St) (H : Hp) (Qv : VK) (h : tEr X.K T W (eLc vs p src t e) σ H Qv) :
    tLc (tIr X.K T W src) (tGr X.K T p) (tTr X.K T Wn t) (tEr X.K T Wn e) vs σ H Qv := by
  obtain ⟨s, S, ω, rl, rs, q⟩ := h
  refine ⟨s, S, ω, rl, rs, (EPg.bind q).mono ?_⟩
  rintro J H1 ⟨ω1, S1, ds, e1, rl1, ⟨G, Y, wk, gG, gY⟩, q1⟩
  intro A hA
  have nA := own_of rl1 hA
  have rs1 : Rs X.K T.toTb ω1 (wipeS s vs) (L2.wipe σ vs) := (rs.ext e1).wipe vs
  refine lc_it wk (fun i H => ∃ S2 ω2 acc av, Ext ω1 S1 H1 ω2 S2 H ∧ Rl X.K T.toTb ω2 S2 H ∧ ¬ Own ω2 S2 A ∧ H A = some (.lst av) ∧ Rps X.K T.toTb ω2 acc av ∧ EPg X.K T (Rp X.K T.toTb) W σ ω1 S1 H1 (lcL p t e (wipeS s vs) (ds.drop i) acc S2) Qv)
    ⟨S1, ω1, [], [], Ext.refl.upd_out hA, Own.not_upd rl1 nA, nA, upd_same, Rps.nil, q1⟩ (fun i H _ ⟨S2, ω2, acc, av, x1, x2, _⟩ => gG H (x1.fix.trans x2.sub)) ?_ ?_
  · rintro i x H2 H3 hi ⟨S2, ω2, acc, av, x1, x2, x3, x4, x5, q2⟩ y
    obtain ⟨d, hd⟩ : ∃ d, ds[i]? = some d := ⟨ds[i], by simp [hi]⟩
    obtain ⟨ω3, e3, rl3, r3⟩ := gY i d ω2 S2 H2 x H3 hd x1.later x2 y
    obtain ⟨x4', x3'⟩ := e3.frame A _ x4 x3
    have hdrop : ds.drop i = d :: ds.drop (i + 1) := by
      obtain ⟨h1, h2⟩ := List.getElem?_eq_some_iff.mp hd
      rw [List.drop_eq_getElem_cons h1, h2]
    rw [hdrop] at q2
    unfold lcL at q2
    cases hput : p.put d (wipeS s vs) with
    | none => rw [hput] at q2; exact q2.elim
    | some s2 =>
      simp only [hput] at q2
      have x13 := x1.trans e3
      refine ⟨wipeS s vs, S2, ω3, d, s2, rl3, (rs1.ext x1).ext e3, r3, hput, fun σ3 rs3 hw => ⟨?_, ?_⟩⟩
      · have := hw vs hin
        rw [this]
        -- wiping twice is wiping once
        have idem : ∀ (ws : List Nat) (τ : L2.St), (∀ i ∈ ws, τ[i]? = none ∨ τ[i]? = some none) → L2.wipe τ ws = τ := by
          intro ws
          induction ws with
          | nil => intro τ _; rfl
          | cons w ws ih =>
            intro τ hτ
            unfold L2.wipe
            rw [ih τ fun i hi => hτ i (List.mem_cons_of_mem _ hi)]
            rcases hτ w List.mem_cons_self with z | z
            · exact List.set_eq_of_length_le (List.getElem?_eq_none_iff.mp z)
            · obtain ⟨h1, h2⟩ := List.getElem?_eq_some_iff.mp z
              rw [← h2, List.set_getElem_self]
        refine idem vs _ fun i hi => ?_
        cases z : (L2.wipe σ vs)[i]? with
        | none => exact .inl rfl
        | some o => cases o with
          | none => exact .inr rfl
          | some v => exact absurd hi (wipe_some z).2
      · refine ⟨s2, S2, ω3, rl3, rs3, ?_⟩
        cases e4 : t s2 S2 with
        | err => rw [e4] at q2; exact q2
        | ex x S3 => rw [e4] at q2; exact q2.elim
        | ok b S3 =>
          rw [e4] at q2
          cases b <;> try exact q2.elim
          rename_i k
          intro ω4 H4 c ex4 rl4 rb
          cases rb
          obtain ⟨y4, y3⟩ := ex4.frame A _ x4' x3'
          cases k with
          | false => exact iteF ⟨S3, ω4, acc, av, x13.trans ex4, rl4, y3, y4, (x5.ext e3).ext ex4, q2⟩
          | true =>
            refine iteT ⟨s2, S3, ω4, rl4, rs3.ext ex4, ?_⟩
            cases e5 : e s2 S3 with
            | err => simp only [e5] at q2; exact q2.elim
            | ex x S4 => simp only [e5] at q2; exact q2.elim
            | ok r S4 =>
              simp only [e5] at q2
              intro ω5 H5 v ex5 rl5 rv
              obtain ⟨z4, z3⟩ := ex5.frame A _ y4 y3
              split at q2
              · rename_i hline
                refine ⟨av, z4, by rw [← x5.length]; exact of_decide_eq_true hline, S4, ω5, acc ++ [r], av ++ [v], ((x13.trans ex4).trans ex5).upd_out hA, Own.not_upd rl5 z3, z3, upd_same, (((x5.ext e3).ext ex4).ext ex5).append (Rps.cons rv Rps.nil), q2⟩
              · exact q2.elim
  · rintro H2 ⟨S2, ω2, acc, av, x1, x2, x3, x4, x5, q2⟩
    rw [List.drop_length] at q2
    unfold lcL at q2
    obtain ⟨ω3, x1', rl3, hF, lt⟩ := Rl.adopt x2 x1 hA x4 x3
    exact q2 ω3 H2 _ x1' rl3 (Rp.mlst hF (x5.late lt))
theorem ge_lc {elt iter : Expr} {ifs : List Expr} {scope : Scope} {own : List (Str × Nat)} {p : Pat} {src : Src} {t e : Q.TE} (hc : X.calm = true) (hN : X.N.Nodup) (hi : GI X T W tg iter src) (ok : BlkOk X.N X.env.scope scope own) (hin : ∀ i ∈ p.slots, i ∈ own.map (·.2))
    (hg : ∀ (s : Shared) (H : Hp) (C : Addr) (cl : List (Str × Addr)) (fp : List Addr), GP (X.blk s H scope (compEnvC scope cl C X.env) fp) T tg p)
    (ht : ∀ (s : Shared) (H : Hp) (C : Addr) (cl : List (Str × Addr)) (fp : List Addr), PTs (X.blk s H scope (compEnvC scope cl C X.env) fp) ifs (tTr X.K T Wn t))
    (he : ∀ (s : Shared) (H : Hp) (C : Addr) (cl : List (Str × Addr)) (fp : List Addr), GE (X.blk s H scope (compEnvC scope cl C X.env) fp) T Wn elt e) (hs : ∀ x, foldedSetIterable iter X.env x = pure x := by intro _; rfl) :
    GE X T W (.ListComp elt [⟨tg, iter, ifs, 0⟩] scope pos) (eLc (own.map (·.2)) p src t e) := PE.imp (pe_lc (g := tGr X.K T p) (tt := tTr X.K T Wn t) (te := tEr X.K T Wn e) hc hN hi ok hg ht he hs) (lc_ok hin)
theorem gs_setLc {i : Nat} {y : Str} {py spos : Pos} {elt iter : Expr} {ifs : List Expr} {scope : Scope} {own : List (Str × Nat)} {p : Pat} {src : Src} {t e : Q.TE} (hc : X.calm = true) (hN : X.N.Nodup) (hy : X.N[i]? = some y) (hyl : X.env.scope.names.lookup y = some .local)
    (hsw : swapsWith (.ListComp elt [⟨tg, iter, ifs, 0⟩] scope pos) (some (.Name y py)) spos.line X.env = pure true) (hi : GI X T W tg iter src) (ok : BlkOk X.N X.env.scope scope own) (hin : ∀ i ∈ p.slots, i ∈ own.map (·.2))
    (hg : ∀ (s : Shared) (H : Hp) (C : Addr) (cl : List (Str × Addr)) (fp : List Addr), GP (X.blk s H scope (compEnvC scope cl C X.env) fp) T tg p)
    (ht : ∀ (s : Shared) (H : Hp) (C : Addr) (cl : List (Str × Addr)) (fp : List Addr), PTs (X.blk s H scope (compEnvC scope cl C X.env) fp) ifs (tTr X.K T Wn t))
    (he : ∀ (s : Shared) (H : Hp) (C : Addr) (cl : List (Str × Addr)) (fp : List Addr), GE (X.blk s H scope (compEnvC scope cl C X.env) fp) T Wn elt e) (hs : ∀ x, foldedSetIterable iter X.env x = pure x := by intro _; rfl) :
    GS X T W (.Assign [.Name y py] (.ListComp elt [⟨tg, iter, ifs, 0⟩] scope pos) spos) (tSet (.nm i) (eLc (own.map (·.2)) p src t e)) := gs_set' (ps_setLc (g := tGr X.K T p) (tt := tTr X.K T Wn t) (te := tEr X.K T Wn e) hc hN hy hyl hsw hi ok hg ht he hs) (lc_ok hin)
theorem gts_nil {K : PySem.W.Frag} : PTs X [] (tTr K T W (eC (.bl true))) := ⟨fun pins s σ H Qv I ⟨s1, S, ω, rl, rs, q⟩ => wpAny_tests_nil ⟨H, I, q.now rl rfl⟩⟩
theorem gts_one (h : GT X T W c tc) : PTs X [c] (tTr X.K T W tc) := pts_one h
def spOf (K : PySem.W.Frag) (T : Tx) (P : Prog) (k id : Nat) : Sp := fun vs H Qv E => ∃ ds S ω, Rl K T.toTb ω S H ∧ Rps K T.toTb ω ds vs ∧ EPg K T (Rp K T.toTb) (fun cls dd _ H => E cls dd H) [] ω S H (callN P k id ds S) Qv
theorem ge_call {k id : Nat} {P : Prog} {f : Addr} {fd : FuncData} {ps : List Str} {x : Str} {p : Pos} (F : FnOk X.prog X.w X.K X.mg X.base (L2.CX X.prog X.w) k f fd ps (spOf X.K T P k id)) (hr : Room k X.A) (hg : Gl X x) (hm : X.mg x = some (.ref f)) (hk : PySem.W.keepIn X.K (.ref f) = true) (hb : Binds X.K fd ps []) (tk : Takes X W)
    (ha : GA X T W (e :: es) ts) (hdb : (x == ("__debug__" : Str)) = false := by decide) (he : starEach (e :: es) X.env = (false, eval e X.env) :: starEach es X.env := by rfl) (hpl : (backTo pos (starEach es X.env)).any (·.1) = false := by rfl) :
    GE X T W (.Call (.Name x p) (e :: es) [] pos) (eCall (callN P k) id ts) := PE.imp (pe_callS F hr hg hm hk hb (fun σ => passAt tk σ) ha hdb he hpl) fun σ H Qv ⟨s, S, ω, rl, rs, q⟩ => by
  refine ⟨s, S, ω, rl, rs, (EPg.bind q).mono ?_⟩
  rintro vs H1 ⟨ω1, S1, ds, e1, rl1, r1, q1⟩
  refine ⟨ds, S1, ω1, rl1, r1, ?_⟩
  cases z : callN P k id ds S1 with
  | ok d S2 => rw [z] at q1; exact q1
  | ex x S2 => rw [z] at q1; exact q1
  | err => rw [z] at q1; exact q1
theorem ge_call0 {k id : Nat} {P : Prog} {f : Addr} {fd : FuncData} {ps : List Str} {x : Str} {p : Pos} (F : FnOk X.prog X.w X.K X.mg X.base (L2.CX X.prog X.w) k f fd ps (spOf X.K T P k id)) (hr : Room k X.A) (hg : Gl X x) (hm : X.mg x = some (.ref f)) (hk : PySem.W.keepIn X.K (.ref f) = true) (hb : Binds X.K fd ps []) (tk : Takes X W)
    (hdb : (x == ("__debug__" : Str)) = false := by decide) : GE X T W (.Call (.Name x p) [] [] pos) (eCall (callN P k) id []) := by
  refine PE.imp (t := fun σ H Qv => spOf X.K T P k id [] H Qv (WE W σ)) ⟨fun pins s σ H Qv I h => ?_⟩ fun σ H Qv ⟨s, S, ω, rl, rs, q⟩ => ⟨[], S, ω, rl, Rps.nil, ?_⟩
  · refine wpAny_Call_Name_kw (ld_glob I hg hm ?_ hdb)
    exact PySem.W.callWith_K0 I.kIn hk (run_fnS (us := []) F hr hb (passAt tk σ) I .nil h)
  · have q1 : EPg X.K T (Rp X.K T.toTb) W σ ω S H (callN P k id [] S) Qv := q
    cases z : callN P k id [] S with
    | ok d S2 => rw [z] at q1; exact q1
    | ex x S2 => rw [z] at q1; exact q1
    | err => rw [z] at q1; exact q1
theorem Rs.start {K : PySem.W.Frag} {T : Tb} {ω : Wd} {ds : List D} {vs : List V} {N : List Str} {n : Nat} (r : Rps K T ω ds vs) (hn : n = N.length - vs.length) : Rs K T ω (ds.map some ++ List.replicate n none) (start N vs) := by
  unfold L2.start
  refine ⟨by simp [r.length, hn], fun i d h => ?_⟩
  by_cases hi : i < ds.length
  · rw [List.getElem?_append_left (by simpa using hi), List.getElem?_map] at h
    cases e : ds[i]? with
    | none => rw [e] at h; cases h
    | some d' =>
      rw [e] at h
      cases h
      obtain ⟨v, hv, rv⟩ := r.get e
      have hi' : i < vs.length := (List.getElem?_eq_some_iff.mp hv).1
      exact ⟨v, by rw [List.getElem?_append_left (by simpa using hi'), List.getElem?_map, hv]; rfl, rv⟩
  · rw [List.getElem?_append_right (by simpa using Nat.le_of_not_lt hi), List.getElem?_replicate] at h
    split at h <;> cases h
end
section
variable {P : Program} {w : World} {K : PySem.W.Frag} {mg : Str → Option Value} {base : Heap} {x qual : Str} {params : Arguments} {body : List Stmt} {scope : Scope} {f : Addr} {fd : FuncData} {T : Tx}
theorem fn_ok {N ps : List Str} {k id : Nat} {Pr : Prog} {d : FnD} (F : FunD K x qual params body scope [] [] f fd) (Sc : FnScope N ps scope) (hP : Pr id = some d) (hnp : d.np = ps.length) (hns : d.ns = N.length)
    (hbody : ∀ (cdv : Value) (A : Around) (outer : List Env) (s : Shared) (H : Hp) (E : XK), Room k (A.deeper (envOfC qual scope s.heap.objs.size f cdv)) →
      GSs (cxOf (L2.CX P w) P w K mg base N qual scope f cdv A outer s H E) T (fun cls dd _ H => E cls dd H) body (d.body (callN Pr k))) : FnOk P w K mg base (L2.CX P w) (k + 1) f fd ps (spOf K T Pr (k + 1) id) := by
  refine FunD.ok F Sc (fun vs H Qv E ⟨ds, S, ω, rl, r, q⟩ => ?_) fun cdv A outer s H vs Qv E hr ⟨ds, S, ω, rl, r, q⟩ => ⟨_, hbody cdv A outer s H E hr, ?_⟩
  · have q' : EPg K T (Rp K T.toTb) _ [] ω S H (callN Pr (k + 1) id ds S) Qv := q
    unfold callN at q'
    simp only [hP] at q'
    unfold runFn at q'
    split at q'
    · rw [← r.length, ← hnp]; assumption
    · exact q'.elim
  · have q' : EPg K T (Rp K T.toTb) (fun cls dd _ H => E cls dd H) [] ω S H (callN Pr (k + 1) id ds S) Qv := q
    unfold callN at q'
    simp only [hP] at q'
    unfold runFn at q'
    split at q'
    · rename_i hl
      refine ⟨_, S, ω, rl, Rs.start (n := d.ns - d.np) r (by rw [hns, ← r.length, hl]), ?_⟩
      cases e : d.body (callN Pr k) (ds.map some ++ List.replicate (d.ns - d.np) none) S with
      | none => rw [e] at q'; exact q'
      | some p =>
        obtain ⟨fl, S'⟩ := p
        rw [e] at q'
        have lv : ∀ {v : D} {u : V} {ω1 : Wd} {H1 : Hp}, EPg K T (Rp K T.toTb) (fun cls dd _ H => E cls dd H) [] ω S H (leave d.keep S v S') Qv → Ext ω S H ω1 S' H1 → Rl K T.toTb ω1 S' H1 → Rp K T.toTb ω1 v u → Qv u H1 := fun {v u ω1 H1} q ex rl1 r1 => by
          unfold leave at q
          split at q
          · exact q ω1 H1 u ex rl1 r1
          · split at q
            · rename_i hf
              obtain ⟨ω2, ex2, rl2, fl, _⟩ := Rl.cut rl rl1 ex
              exact q ω2 H1 u ex2 rl2 (fl _ _ hf r1)
            · exact q.elim
        cases fl with
        | nx s' => exact fun ω1 σ1 H1 ex rl1 _ => lv q' ex rl1 Rp.mnon
        | ret v => exact fun ω1 H1 u ex rl1 r1 => lv q' ex rl1 r1
        | bk s' => exact q'.elim
        | ct s' => exact q'.elim
        | ex y s' =>
          intro ω1 σ1 H1 cls dd ex rl1 _ xr
          simp only at q'
          split at q'
          · exact q' ω1 H1 cls dd ex rl1 xr
          · split at q'
            · rename_i hf
              obtain ⟨ω2, ex2, rl2, fl, hFF, _⟩ := Rl.cut rl rl1 ex
              refine q' ω2 H1 cls dd ex2 rl2 ⟨xr.1, ?_⟩
              have x2 := xr.2
              split at x2
              · exact x2
              · rename_i z hz
                obtain ⟨a, b, c1, c2, c3⟩ := x2
                rw [hz] at hf
                simp [flats] at hf
                exact ⟨a, b, c1, by rw [hFF]; exact c2, fl _ _ hf c3⟩
              · exact x2.elim
            · exact q'.elim
    · exact q'.elim
end
structure FnO (P : Program) (w : World) (K : PySem.W.Frag) (mg : Str → Option Value) (base : Heap) (T : Tx) (Pr : Prog) (k id : Nat) (x : Str) (f : Addr) (ps : List Str) : Prop where
  g : mg x = some (.ref f)
  kp : PySem.W.keepIn K (.ref f) = true
  fn : ∃ fd, Binds K fd ps [] ∧ FnOk P w K mg base (L2.CX P w) k f fd ps (spOf K T Pr k id)
theorem fn_zero {P : Program} {w : World} {K : PySem.W.Frag} {mg : Str → Option Value} {base : Heap} {T : Tx} {Pr : Prog} {id : Nat} {f : Addr} {fd : FuncData} {ps : List Str} : FnOk P w K mg base (L2.CX P w) 0 f fd ps (spOf K T Pr 0 id) :=
  ⟨fun vs H Qv E ⟨ds, S, ω, rl, r, q⟩ => q.elim, fun A outer s H args us vs Qv E _ _ _ _ ⟨ds, S, ω, rl, r, q⟩ => q.elim⟩
section
variable {X : Cx} {T : Tx} {W : WX} {e : Expr} {es : List Expr} {ts : List Q.TE} {pos : Pos}
theorem ge_fn {k id : Nat} {Pr : Prog} {f : Addr} {ps : List Str} {x : Str} {p : Pos} (F : FnO X.prog X.w X.K X.mg X.base T Pr k id x f ps) (hr : Room k X.A) (tk : Takes X W) (hg : Gl X x) (ha : GA X T W (e :: es) ts)
    (hdb : (x == ("__debug__" : Str)) = false := by decide) (he : starEach (e :: es) X.env = (false, eval e X.env) :: starEach es X.env := by rfl) (hpl : (backTo pos (starEach es X.env)).any (·.1) = false := by rfl) :
    GE X T W (.Call (.Name x p) (e :: es) [] pos) (eCall (callN Pr k) id ts) := by
  obtain ⟨fd, hb, ok⟩ := F.fn
  exact ge_call ok hr hg F.g F.kp hb tk ha hdb he hpl
theorem ge_fn0 {k id : Nat} {Pr : Prog} {f : Addr} {ps : List Str} {x : Str} {p : Pos} (F : FnO X.prog X.w X.K X.mg X.base T Pr k id x f ps) (hr : Room k X.A) (tk : Takes X W) (hg : Gl X x) (hdb : (x == ("__debug__" : Str)) = false := by decide) :
    GE X T W (.Call (.Name x p) [] [] pos) (eCall (callN Pr k) id []) := by
  obtain ⟨fd, hb, ok⟩ := F.fn
  exact ge_call0 ok hr hg F.g F.kp hb tk hdb
theorem gs_never {st : Stmt} : GS X T W st tNo := PS.imp ps_never fun D σ H ⟨s, S, ω, rl, rs, q⟩ => q
end
end Q
namespace Q
open PySem PySem.Spec PyProof.Rows L2
def ItzS (x y : Str) : It :=
  ⟨fun i _ => i < x.cps.size ∧ i < y.cps.size,
    fun i H v H' => ∃ T c d, v = .ref T ∧ H T = none ∧ H' = upd H T (.tup [.str ⟨#[c]⟩, .str ⟨#[d]⟩]) ∧ x.cps[i]? = some c ∧ y.cps[i]? = some d,
    fun i _ => i ≤ x.cps.size ∧ i ≤ y.cps.size ∧ (i = x.cps.size ∨ i = y.cps.size)⟩
theorem turn_zipS {P : Program} {w : World} {K : PySem.W.Frag} {elts : List Expr} {kk : Nat} {tpos : Pos} {z TI TO i1 i2 : Addr} {x y : Str} {t1 t2 : Tok} (D : ZipSep2 z TI TO i1 i2 [i1] [i2]) :
    Turn P w K (.Tuple elts kk tpos) (ItzS x y) [z, TI, TO, i1, i2] z (fun i h => IsZip h z TI TO .none ∧ IsTupOf2 h TI (.ref i1) (.ref i2) ∧ (∃ u v, IsTupOf2 h TO u v) ∧ h.IsStrIter i1 (strIterType x) x t1 i ∧ h.IsStrIter i2 (strIterType y) y t2 i) where
  mem := by simp
  obj := fun i h st c hc => by
    obtain ⟨za, zb, ⟨_, _, zc⟩, ⟨p1, k1, _, l1⟩, ⟨p2, k2, _, l2⟩⟩ := st
    simp only [List.mem_cons, List.not_mem_nil, or_false] at hc
    rcases hc with rfl | rfl | rfl | rfl | rfl
    · exact ⟨_, za, fun _ u => nomatch u⟩
    · exact ⟨_, zb, fun _ u => nomatch u⟩
    · exact ⟨_, zc, fun _ u => nomatch u⟩
    · exact ⟨p1, k1, fun _ u => by rw [l1] at u; cases u⟩
    · exact ⟨p2, k2, fun _ u => by rw [l2] at u; cases u⟩
  keep := fun i h h' st k => by
    obtain ⟨hz, hTI, ⟨x, y, hTO⟩, ⟨o1, e1, r1⟩, ⟨o2, e2, r2⟩⟩ := st
    exact ⟨k z (by simp) _ hz, k TI (by simp) _ hTI, ⟨x, y, k TO (by simp) _ hTO⟩, ⟨o1, k i1 (by simp) _ e1, r1⟩, ⟨o2, k i2 (by simp) _ e2, r2⟩⟩
  item := by
    intro X hP hw hK hc i pins s σ H E I hf st hg
    subst hP hw hK
    obtain ⟨hz, hTI, ⟨x0, y0, hTO⟩, h1, h2⟩ := st
    have hd : X.A.in1.handled = none := I.ok.hd hc
    have hzl : z < s.heap.objs.size := Heap.lt_size hz
    refine wpAny_pyNext_zipD2_item D (Draws.text hd i1 x t1) (Draws.text hd i2 y t2) hz hTI hTO h1 h2 hg.1 hg.2 fun u1 u2 h' tk p1 p2 z' TO' h1' h2' hT hsz hk => ?_
    obtain ⟨c1, w1, hc1, rfl⟩ := p1
    obtain ⟨c2, w2, hc2, rfl⟩ := p2
    refine ⟨_, rfl, wpAny_letOwnedTupleGo_zip (s := { s with heap := h', toks := tk }) z' fun h'' z'' sb => ?_⟩
    have hT2 : h''.get? s.heap.objs.size = some { cls := .type "tuple", data := .seq #[.str ⟨#[c1]⟩ w1, .str ⟨#[c2]⟩ w2] } := (sb.2 _ (Nat.ne_of_gt hzl)).trans hT
    have new : ObjOk X.prog X.w (upd H s.heap.objs.size (.tup [.str ⟨#[c1]⟩, .str ⟨#[c2]⟩])) h'' s.heap.objs.size (.tup [.str ⟨#[c1]⟩, .str ⟨#[c2]⟩]) :=
      ⟨by show 2 ≤ sizeLine; decide, [.str ⟨#[c1]⟩ w1, .str ⟨#[c2]⟩ w2], .cons ⟨w1, rfl⟩ (.cons ⟨w2, rfl⟩ .nil), ⟨_, hT2, rfl, _, rfl⟩⟩
    have I1 : Inv X pins σ (upd H s.heap.objs.size (.tup [.str ⟨#[c1]⟩, .str ⟨#[c2]⟩])) { s with heap := h'', toks := tk } :=
      I.turnedNew (t' := tk) (ch := [z, TI, TO, i1, i2]) (fun c o hb q => (sb.2 c (fun q' => hb (by simp [q']))).trans (hk c o (fun q' => hb (by simp [q'])) (fun q' => hb (by simp [q'])) (fun q' => hb (by simp [q'])) (fun q' => hb (by simp [q'])) q)) hf (Nat.le_refl _) new
    refine ⟨.ref s.heap.objs.size, _, I1, rfl, ⟨_, c1, c2, rfl, I.hok.fresh (Nat.le_refl _), rfl, hc1, hc2⟩, ⟨z'', ?_, ⟨.str ⟨#[c1]⟩ w1, .str ⟨#[c2]⟩ w2, ?_⟩, ?_, ?_⟩, fun c hcm => ?_⟩
    · exact (sb.2 _ D.TIz).trans (hk _ _ D.TIz D.TITO D.TIi1 D.TIi2 hTI)
    · exact (sb.2 _ D.TOz).trans TO'
    · obtain ⟨o, e, r⟩ := h1'
      exact ⟨o, (sb.2 _ D.zi1.symm).trans e, r⟩
    · obtain ⟨o, e, r⟩ := h2'
      exact ⟨o, (sb.2 _ D.zi2.symm).trans e, r⟩
    · have hlt : c < s.heap.objs.size := by
        simp only [List.mem_cons, List.not_mem_nil, or_false] at hcm
        obtain ⟨_, k1, _⟩ := h1
        obtain ⟨_, k2, _⟩ := h2
        rcases hcm with rfl | rfl | rfl | rfl | rfl <;> exact Heap.lt_size (by assumption)
      rw [upd_ne (Nat.ne_of_lt hlt)]
      exact (hf c hcm).1
  done := by
    intro X hP hw hK hc i pins s σ H E I hf st hg
    subst hP hw hK
    obtain ⟨hz, hTI, ⟨x0, y0, hTO⟩, h1, h2⟩ := st
    have hd : X.A.in1.handled = none := I.ok.hd hc
    exact wpAny_pyNext_zipD2_end D (Draws.text hd i1 x t1) (Draws.text hd i2 y t2) hz hTI hTO h1 h2 hg.1 hg.2.1 hg.2.2 fun h' tk hk => ⟨rfl, I.turnedL (t' := tk) (ch := [z, TI, TO, i1, i2]) (fun c o hb q =>
      hk c o (fun q' => hb (by simp [q'])) (fun q' => hb (by simp [q'])) (fun q' => hb (by simp [q'])) (fun q' => hb (by simp [q'])) q) hf⟩
  self := fun A i s Q E st h => wpAny_pyIter_zip st.1 h
def tZipS (ta : L2.TA) : L2.TI := fun σ H R => ta σ H fun vs H1 => ∃ x y, vs = [.str x, .str y] ∧ R (ItzS x y) H1
theorem pi_zipS {X : Cx} {e e2 : Expr} {ta : L2.TA} {p pos tpos : Pos} {elts : List Expr} {kk : Nat} (hg : Gl X "zip") (hm : X.mg "zip" = none) (ha : PA X [e, e2] ta)
    (hs : starEach [e, e2] X.env = (false, eval e X.env) :: starEach [e2] X.env := by rfl) (hpl : (backTo pos (starEach [e2] X.env)).any (·.1) = false := by rfl) :
    PI X (.Tuple elts kk tpos) (.Call (.Name "zip" p) [e, e2] [] pos) (tZipS ta) := by
  refine ⟨fun pins s σ H R I h => ?_⟩
  refine Call_ (ld_blt I hg hm PyProof.Rows.boot_zip (PyProof.Rows.callWith_type1 (thn (ha.run pos pins s σ H _ I h) fun us s1 ⟨vs, H1, I1, r1, q1⟩ => ?_) hs hpl))
  obtain ⟨x, y, ex, q1⟩ := q1
  subst ex
  cases r1 with
  | cons r rr =>
    cases rr with
    | cons r' rr =>
      cases rr
      obtain ⟨t1, rfl⟩ := r
      obtain ⟨t2, rfl⟩ := r'
      refine zip_begins2 (begins_text x t1) (begins_text y t2) trivial trivial fun h' hz hTI hTO h1 h2 hsz hk => wpAny_pyIter_zip hz ?_
      have fresh5 : ∀ c, c ∈ [s1.heap.objs.size + 4, s1.heap.objs.size + 2, s1.heap.objs.size + 3, s1.heap.objs.size, s1.heap.objs.size + 1] → FpOk X pins H1 c := fun c hcm => by
        have big : ∀ m : Nat, s1.heap.objs.size ≤ s1.heap.objs.size + m := fun m => Nat.le_add_right _ m
        simp only [List.mem_cons, List.not_mem_nil, or_false] at hcm
        have low : s1.heap.objs.size ≤ c := by
          rcases hcm with rfl | rfl | rfl | rfl | rfl
          · exact big 4
          · exact big 2
          · exact big 3
          · exact big 0
          · exact big 1
        exact I1.fpOk low (I1.hok.fresh low)
      have I2 : Inv X pins σ H1 { s1 with heap := h' } := I1.kept (t' := s1.toks) hk
      exact ⟨s1.heap.objs.size + 4, [s1.heap.objs.size + 4, s1.heap.objs.size + 2, s1.heap.objs.size + 3, s1.heap.objs.size, s1.heap.objs.size + 1], _, _, H1, rfl, I2,
        turn_zipS (zip_sep2 (N := s1.heap.objs.size) (fp1 := []) (fp2 := []) (by simp) (by simp)), ⟨hz, hTI, ⟨_, _, hTO⟩, ⟨_, h1, rfl, rfl⟩, ⟨_, h2, rfl, rfl⟩⟩, fresh5, q1⟩
theorem walk_zipS {x y : Str} {n : Nat} (hn : n = min x.cps.size y.cps.size) : Walk (ItzS x y) n (fun _ => True) (YPair (fun i => (x.cps[i]?).map fun c => .str ⟨#[c]⟩) (fun i => (y.cps[i]?).map fun c => .str ⟨#[c]⟩)) := by
  subst hn
  refine ⟨fun i _ hi q => ⟨by omega, by omega⟩, fun _ q => ⟨by omega, by omega, by omega⟩, fun i H v H' _ q y => ?_⟩
  obtain ⟨A, c, d, h1, h2, h3, h4, h5⟩ := y
  exact ⟨A, .str ⟨#[c]⟩, .str ⟨#[d]⟩, h1, h2, h3, by simp [h4], by simp [h5]⟩
section
variable {X : Cx} {T : Tx} {W : WX} {a b e tg : Expr} {ts : List Q.TE} {pos : Pos}
theorem gi_or {f g : List D → Option (List D)} (h1 : GI X T W tg e (sN f ts)) (h2 : GI X T W tg e (sN g ts)) : GI X T W tg e (sN (iOr f g) ts) := PI.imp (PI.or h1 h2) fun σ H R ⟨s, S, ω, rl, rs, q⟩ => by
  cases e0 : eArgs ts s S with
  | ok xs S1 =>
    cases e1 : f xs with
    | some ds =>
      have : sN (iOr f g) ts s S = sN f ts s S := by simp only [sN, iOr, e0, e1, Res.bind]
      exact .inl ⟨s, S, ω, rl, rs, by rw [← this]; exact q⟩
    | none =>
      have : sN (iOr f g) ts s S = sN g ts s S := by simp only [sN, iOr, e0, e1, Res.bind]
      exact .inr ⟨s, S, ω, rl, rs, by rw [← this]; exact q⟩
  | ex x S1 =>
    have : sN (iOr f g) ts s S = sN f ts s S := by simp [sN, e0, Res.bind]
    exact .inl ⟨s, S, ω, rl, rs, by rw [← this]; exact q⟩
  | err =>
    have : sN (iOr f g) ts s S = sN f ts s S := by simp [sN, e0, Res.bind]
    exact .inl ⟨s, S, ω, rl, rs, by rw [← this]; exact q⟩
theorem gi_zipS {p tpos : Pos} {elts : List Expr} {kk : Nat} (hg : Gl X "zip") (hm : X.mg "zip" = none) (ha : GA X T W [a, b] ts)
    (hs : starEach [a, b] X.env = (false, eval a X.env) :: starEach [b] X.env := by rfl) (hpl : (backTo pos (starEach [b] X.env)).any (·.1) = false := by rfl) :
    GI X T W (.Tuple elts kk tpos) (.Call (.Name "zip" p) [a, b] [] pos) (sN iZipS ts) :=
  gi_N (p := fun vs H1 R => ∃ x y, vs = [.str x, .str y] ∧ R (ItzS x y) H1) (pi_zipS hg hm ha hs hpl) (by
    intro ω S H xs us R ds rl r e k
    unfold Q.iZipS at e
    split at e
    · rename_i x y
      cases e
      obtain ⟨v, w, rfl, r1, r2⟩ := r.two
      have e1 := r1.str
      have e2 := r2.str
      subst e1 e2
      refine ⟨x, y, rfl, k _ (gives_pair (ds := chs x) (es := chs y) (n := min x.cps.size y.cps.size) rfl (by simp [chs]) (walk_zipS rfl) (fun _ _ => trivial) ?_ ?_)⟩
      · intro i d v hd hv
        simp only [chs, List.getElem?_map, Array.getElem?_toList] at hd
        cases e : x.cps[i]? with
        | none => rw [e] at hd; cases hd
        | some c => rw [e] at hd hv; cases hd; cases hv; exact Rp.mstr _
      · intro i d v hd hv
        simp only [chs, List.getElem?_map, Array.getElem?_toList] at hd
        cases e : y.cps[i]? with
        | none => rw [e] at hd; cases hd
        | some c => rw [e] at hd hv; cases hd; cases hv; exact Rp.mstr _
    · cases e)
theorem gi_zip {p tpos : Pos} {elts : List Expr} {kk : Nat} (hg : Gl X "zip") (hm : X.mg "zip" = none) (ha : GA X T W [a, b] ts)
    (hs : starEach [a, b] X.env = (false, eval a X.env) :: starEach [b] X.env := by rfl) (hpl : (backTo pos (starEach [b] X.env)).any (·.1) = false := by rfl) :
    GI X T W (.Tuple elts kk tpos) (.Call (.Name "zip" p) [a, b] [] pos) (sN iZip ts) := gi_or (gi_zipA hg hm ha hs hpl) (gi_zipS hg hm ha hs hpl)
end
end Q
set_option maxHeartbeats 1000000
namespace Q
open PySem PySem.Spec PyProof.Rows L2
theorem bt_len : bootBuiltins ("len" : Str) = some (.builtin "len") := by decide +kernel
theorem bt_abs : bootBuiltins ("abs" : Str) = some (.builtin "abs") := by decide +kernel
theorem bt_max : bootBuiltins ("max" : Str) = some (.builtin "max") := by decide +kernel
theorem bt_min : bootBuiltins ("min" : Str) = some (.builtin "min") := by decide +kernel
theorem bt_all : bootBuiltins ("all" : Str) = some (.builtin "all") := by decide +kernel
theorem bt_any : bootBuiltins ("any" : Str) = some (.builtin "any") := by decide +kernel
theorem bt_sum : bootBuiltins ("sum" : Str) = some (.builtin "sum") := by decide +kernel
theorem bt_sorted : bootBuiltins ("sorted" : Str) = some (.builtin "sorted") := by decide +kernel
theorem bt_repr : bootBuiltins ("repr" : Str) = some (.builtin "repr") := by decide +kernel
theorem bt_int : bootBuiltins ("int" : Str) = some (.type "int") := by decide +kernel
theorem bt_str : bootBuiltins ("str" : Str) = some (.type "str") := by decide +kernel
theorem bt_bool : bootBuiltins ("bool" : Str) = some (.type "bool") := by decide +kernel
theorem bt_list : bootBuiltins ("list" : Str) = some (.type "list") := by decide +kernel
theorem bt_tuple : bootBuiltins ("tuple" : Str) = some (.type "tuple") := by decide +kernel
section
variable {X : Cx} {T : Tx} {W : WX} {pos : Pos}
theorem ge_cint {x : Str} {i : Int} (hg : Gl X x) (h : ∃ t, X.mg x = some (.int i t)) (hd : (x == ("__debug__" : Str)) = false := by decide) : GE X T W (.Name x pos) (eC (.int i)) := by
  obtain ⟨t, e⟩ := h
  exact ge_gint hg e ⟨t, rfl⟩ hd
theorem ge_cstr {x z : Str} (hg : Gl X x) (h : ∃ t, X.mg x = some (.str z t)) (hd : (x == ("__debug__" : Str)) = false := by decide) : GE X T W (.Name x pos) (eC (.str z)) := by
  obtain ⟨t, e⟩ := h
  exact ge_gstr hg e ⟨t, rfl⟩ hd
theorem ge_ctup {x : Str} {ds : List D} {vs : List V} (hg : Gl X x) (h : ∃ a, X.mg x = some (.ref a) ∧ ∀ H, SqT X.K H a vs) (r : ∀ ω, Rps X.K T.toTb ω ds vs := by intro ω; repeat (first | exact Rps.nil | (refine Rps.cons (Rp.mint _) ?_)))
    (hd : (x == ("__debug__" : Str)) = false := by decide) : GE X T W (.Name x pos) (eC (.tup ds)) := by
  obtain ⟨a, e, q⟩ := h
  exact ge_gtup hg e q r hd
end
abbrev AlQ : Type := He.AlD × Bool
def obsQ (n : Nat) (fa : List He.Fa) (fn : List He.DefD) (ex : PySem.W.Frag → Bool) (g : Addr → Option Obj) : AlQ := (He.obsDG n fa fn g, ex (He.frG g (He.asD g n)))
def hookQ (n : Nat) (fa : List He.Fa) (fn : List He.DefD) (ex : PySem.W.Frag → Bool) : PySem.W.Hook where
  α := AlQ
  obs := fun s => obsQ n fa fn ex s.heap.get?
  val := fun _ => (He.valD fn, true)
  says := fun _ h => ∃ K : PySem.W.Frag, K.In h ∧ He.SaysD fa fn K ∧ ex K = true
  of := fun _ _ e => by
    have e1 := congrArg (fun z : AlQ => z.1) e
    have e2 := congrArg (fun z : AlQ => z.2) e
    exact ⟨_, He.frG_in, e1, e2⟩
  keeps := fun _ _ _ ⟨K, hK, c⟩ k => ⟨K, PySem.W.Frag.In.keeps hK k, c⟩
theorem obsQ_eq {n : Nat} {fa : List He.Fa} {fn : List He.DefD} {ex : PySem.W.Frag → Bool} {g : Addr → Option Obj} {s : Shared} (h : ∀ a, g a = s.heap.get? a) : obsQ n fa fn ex g = (hookQ n fa fn ex).obs s := by
  obtain rfl : g = s.heap.get? := funext h
  rfl
def CXe (P : Program) : CXT := fun o H s E e s' => ∃ w, L2.CX P w o H s E e s'
theorem CXe.none {P : Program} (H : Hp) (s : Shared) (e : Value) (s' : Shared) (h : CXe P [] H s (fun _ _ _ => False) e s') : False := by
  obtain ⟨w, _, _, _, _, _, _, _, _, _, _, _, _, z⟩ := h
  exact z
theorem FnOk.toEx {P : Program} {w : World} {K : PySem.W.Frag} {mg : Str → Option Value} {base : Heap} {k : Nat} {f : Addr} {fd : FuncData} {ps : List Str} {sp : Sp} (F : FnOk P w K mg base (L2.CX P w) k f fd ps sp) : FnOk P w K mg base (CXe P) k f fd ps sp :=
  ⟨F.len, fun A outer s H args us vs Qv E hr he hb hv hs => codeAny_mono (F.run A outer s H args us vs Qv E hr he hb hv hs) fun r s' h => by
    cases r with
    | ok f => cases f <;> exact h
    | error e => exact ⟨w, h⟩⟩
theorem start_ok {K : PySem.W.Frag} {T : Tx} {Pr : Prog} {k id : Nat} {H : Hp} {a : Addr} {ns : List Int} (hS : SqL K H a (ns.map V.int)) (h : ∃ S, callN Pr k id [.src ns] ⟨[], []⟩ = .ok (.bl true) S) :
    spOf K T Pr k id [.ref a] H (fun v _ => v = .bl true) (fun _ _ _ => False) := by
  obtain ⟨S, e⟩ := h
  refine ⟨[.src ns], ⟨[], []⟩, ⟨H, fun _ => 0, 0, fun _ => 0, 0⟩, ⟨Same.refl H, rfl, fun k ds h => ?_, fun j k ds es h => ?_, rfl, fun k C fs h => ?_, fun j k h => absurd h (Nat.not_lt_zero _)⟩, Rps.cons (by unfold Rp; exact ⟨a, rfl, hS⟩) Rps.nil, ?_⟩
  · simp [Store.get] at h
  · simp [Store.get] at h
  · simp at h
  · rw [e]
    exact fun ω' H' v _ _ r => r.bl
end Q
namespace Q
open PySem L2
section
variable {α β : Type} {s : Sl} {S S1 : Store} {d e : D} {a b c t : TE} {i j : Int}
@[simp] theorem bind_ok {x : α} {k : α → Store → Res β} : (Res.ok x S).bind k = k x S := (rfl)
@[simp] theorem bind_ex {x : Ex} {k : α → Store → Res β} : (Res.ex x S : Res α).bind k = .ex x S := (rfl)
@[simp] theorem bind_err {k : α → Store → Res β} : (Res.err : Res α).bind k = .err := (rfl)
@[simp] theorem onE_ok' {k : D → Store → RS} : onE (.ok d S) s k = k d S := (rfl)
@[simp] theorem onE_ex' {x : Ex} {k : D → Store → RS} : onE (.ex x S) s k = some (.ex x s, S) := (rfl)
@[simp] theorem onE_err' {k : D → Store → RS} : onE .err s k = none := (rfl)
@[simp] theorem ofO_some : ofO (some (d, S)) = .ok d S := (rfl)
@[simp] theorem ofO_none : ofO none = .err := (rfl)
@[simp] theorem eV_eq {n : Nat} : eV n s S = match s[n]? with | some (some d) => .ok d S | _ => .err := (rfl)
@[simp] theorem eC_eq : eC d s S = .ok d S := (rfl)
@[simp] theorem e1_eq {f : Op1} : e1 f a s S = (a s S).bind fun x S1 => ofO (f x S1) := (rfl)
@[simp] theorem e2_eq {f : Op2} : e2 f a b s S = (a s S).bind fun x S1 => (b s S1).bind fun y S2 => ofO (f x y S2) := (rfl)
@[simp] theorem eArgs_nil : eArgs [] s S = .ok [] S := (rfl)
@[simp] theorem eArgs_cons {as : List TE} : eArgs (a :: as) s S = (a s S).bind fun x S1 => (eArgs as s S1).bind fun xs S2 => .ok (x :: xs) S2 := (rfl)
@[simp] theorem eN_eq {f : OpN} {as : List TE} : eN f as s S = (eArgs as s S).bind fun xs S1 => ofO (f xs S1) := (rfl)
@[simp] theorem eM_eq {k : D → Store → Bool} {f : OpN} {as : List TE} : eM k f a as s S = (a s S).bind fun x S1 => if k x S1 then (eArgs as s S1).bind fun xs S2 => ofO (f (x :: xs) S2) else .err := (rfl)
@[simp] theorem eCall_eq {cl : CallT} {n : Nat} {as : List TE} : eCall cl n as s S = (eArgs as s S).bind fun xs S1 => cl n xs S1 := (rfl)
@[simp] theorem asB_bl' {k : Bool → Store → Res D} {x : Bool} : asB (.bl x) S k = k x S := (rfl)
@[simp] theorem asBS_bl' {k : Bool → Store → RS} {x : Bool} : asBS (.bl x) S k = k x S := (rfl)
@[simp] theorem eAnd_eq : eAnd a b s S = (a s S).bind fun x S1 => asB x S1 fun c S2 => if c then b s S2 else .ok (.bl false) S2 := (rfl)
@[simp] theorem eOr_eq : eOr a b s S = (a s S).bind fun x S1 => asB x S1 fun c S2 => if c then .ok (.bl true) S2 else b s S2 := (rfl)
@[simp] theorem eNot_eq : eNot a s S = (a s S).bind fun x S1 => asB x S1 fun c S2 => .ok (.bl (!c)) S2 := (rfl)
@[simp] theorem eIf_eq : eIf t a b s S = (t s S).bind fun x S1 => asB x S1 fun c S2 => if c then a s S2 else b s S2 := (rfl)
@[simp] theorem eChain_eq {f g : Op2} : eChain f g a b c s S = (a s S).bind fun x S1 => (b s S1).bind fun y S2 => (ofO (f x y S2)).bind fun r S3 => asB r S3 fun k S4 =>
  if k then (c s S4).bind fun z S5 => ofO (g y z S5) else .ok (.bl false) S4 := (rfl)
@[simp] theorem eTup_eq {as : List TE} : eTup as s S = (eArgs as s S).bind fun xs S1 => .ok (.tup xs) S1 := (rfl)
@[simp] theorem eLst_eq {as : List TE} : eLst as s S = (eArgs as s S).bind fun xs S1 => .ok (.lst xs) S1 := (rfl)
@[simp] theorem eLstM_eq {as : List TE} : eLstM as s S = (eArgs as s S).bind fun xs S1 => if flats xs then .ok (.ptr S1.L.length) (S1.new xs) else .err := (rfl)
@[simp] theorem put_nm {n : Nat} : (Pat.nm n).put d s = some (s.set n (some d)) := (rfl)
@[simp] theorem put_tp {ps : List Pat} {ds : List D} : (Pat.tp ps).put (.tup ds) s = Pat.puts ps ds s := (rfl)
@[simp] theorem puts_nil : Pat.puts [] [] s = some s := (rfl)
@[simp] theorem puts_cons {p : Pat} {ps : List Pat} {ds : List D} : Pat.puts (p :: ps) (d :: ds) s = match p.put d s with | some s1 => Pat.puts ps ds s1 | none => none := (rfl)
@[simp] theorem tNo_eq : tNo s S = none := (rfl)
@[simp] theorem tPass_eq : tPass s S = some (.nx s, S) := (rfl)
@[simp] theorem tBrk_eq : tBrk s S = some (.bk s, S) := (rfl)
@[simp] theorem tCnt_eq : tCnt s S = some (.ct s, S) := (rfl)
@[simp] theorem tSeq_eq {x y : TSt} : tSeq x y s S = match x s S with | some (.nx s1, S1) => y s1 S1 | r => r := (rfl)
@[simp] theorem tExpr_eq : tExpr a s S = onE (a s S) s fun _ S1 => some (.nx s, S1) := (rfl)
@[simp] theorem tRet_eq : tRet a s S = onE (a s S) s fun d S1 => some (.ret d, S1) := (rfl)
@[simp] theorem tSet_eq {p : Pat} : tSet p a s S = onE (a s S) s fun d S1 => match p.put d s with | some s1 => some (.nx s1, S1) | none => none := (rfl)
@[simp] theorem tIf_eq {x y : TSt} : tIf t x y s S = onE (t s S) s fun v S1 => asBS v S1 fun c S2 => if c then x s S2 else y s S2 := (rfl)
@[simp] theorem tSetIx_eq {o ix v : TE} : tSetIx o ix v s S = onE (v s S) s fun x S1 => onE (o s S1) s fun y S2 => onE (ix s S2) s fun z S3 => match setL y z x S3 with | some S4 => some (.nx s, S4) | none => none := (rfl)
@[simp] theorem tFor_eq {p : Pat} {src : Src} {x : TSt} : tFor p src x s S = match src s S with | .ok ds S1 => forL p x ds s S1 | .ex e S1 => some (.ex e s, S1) | .err => none := (rfl)
@[simp] theorem tFrz_eq {n : Nat} {x : TSt} : tFrz n x s S = match frzS n s S with | some (s1, S1) => x s1 S1 | none => none := (rfl)
@[simp] theorem sN_eq {f : List D → Option (List D)} {as : List TE} : sN f as s S = (eArgs as s S).bind fun xs S1 => match f xs with | some ds => .ok ds S1 | none => .err := (rfl)
@[simp] theorem eLc_eq {vs : List Nat} {p : Pat} {src : Src} : eLc vs p src t a s S = (src s S).bind fun ds S1 => lcL p t a (wipeS s vs) ds [] S1 := (rfl)
@[simp] theorem wipeS_nil : wipeS s [] = s := (rfl)
@[simp] theorem wipeS_cons {v : Nat} {vs : List Nat} : wipeS s (v :: vs) = (wipeS s vs).set v none := (rfl)
@[simp] theorem oAdd_int : oAdd (.int i) (.int j) S = some (.int (i + j), S) := (rfl)
@[simp] theorem oSub_int : oSub (.int i) (.int j) S = some (.int (i - j), S) := (rfl)
@[simp] theorem oNeg_int : oNeg (.int i) S = some (.int (-i), S) := (rfl)
@[simp] theorem oLt_int : oLt (.int i) (.int j) S = some (.bl (decide (i < j)), S) := (rfl)
@[simp] theorem oLe_int : oLe (.int i) (.int j) S = some (.bl (decide (i ≤ j)), S) := (rfl)
@[simp] theorem oGt_int : oGt (.int i) (.int j) S = some (.bl (decide (j < i)), S) := (rfl)
@[simp] theorem oGe_int : oGe (.int i) (.int j) S = some (.bl (decide (j ≤ i)), S) := (rfl)
@[simp] theorem oEq_int : oEq (.int i) (.int j) S = some (.bl (decide (i = j)), S) := (rfl)
@[simp] theorem oNe_int : oNe (.int i) (.int j) S = some (.bl (!decide (i = j)), S) := (rfl)
@[simp] theorem oEq_bl {x y : Bool} : oEq (.bl x) (.bl y) S = some (.bl (decide (x = y)), S) := (rfl)
@[simp] theorem oNe_bl {x y : Bool} : oNe (.bl x) (.bl y) S = some (.bl (!decide (x = y)), S) := (rfl)
@[simp] theorem oEq_str {x y : Str} : oEq (.str x) (.str y) S = some (.bl (decide (x = y)), S) := (rfl)
@[simp] theorem oNe_str {x y : Str} : oNe (.str x) (.str y) S = some (.bl (!decide (x = y)), S) := (rfl)
@[simp] theorem oIsN_eq : oIsN d S = some (.bl (isN d), S) := (rfl)
@[simp] theorem oNotN_eq : oNotN d S = some (.bl (!isN d), S) := (rfl)
@[simp] theorem isN_non : isN .non = true := (rfl)
@[simp] theorem isN_int : isN (.int i) = false := (rfl)
@[simp] theorem isN_bl {x : Bool} : isN (.bl x) = false := (rfl)
@[simp] theorem isN_str {x : Str} : isN (.str x) = false := (rfl)
@[simp] theorem isN_tup {x : List D} : isN (.tup x) = false := (rfl)
@[simp] theorem isN_lst {x : List D} : isN (.lst x) = false := (rfl)
@[simp] theorem oAbs_eq : oAbs [.int i] S = some (.int (if i < 0 then -i else i), S) := (rfl)
@[simp] theorem oInt_int : oInt [.int i] S = some (.int i, S) := (rfl)
@[simp] theorem oInt_bl {x : Bool} : oInt [.bl x] S = some (.int (if x then 1 else 0), S) := (rfl)
@[simp] theorem oLen_lst {x : List D} : oLen [.lst x] S = some (.int x.length, S) := (rfl)
@[simp] theorem oLen_tup {x : List D} : oLen [.tup x] S = some (.int x.length, S) := (rfl)
@[simp] theorem oMax2_eq : oMax2 [.int i, .int j] S = some (.int (if j > i then j else i), S) := (rfl)
@[simp] theorem oMin2_eq : oMin2 [.int i, .int j] S = some (.int (if j < i then j else i), S) := (rfl)
@[simp] theorem oPow_10 {n : Nat} : oPow (.int 10) (.int (n : Int)) S = if n ≤ 1000000 then some (.int (10 ^ n), S) else none := by
  unfold oPow
  have h : decide ((10 : Int).natAbs < 2 ^ 64) = true := by decide
  simp [h]
  congr 1
  apply propext; omega
theorem oMulL_int (h : smallI i || smallI j || (midI i && midI j)) : oMulL (.int i) (.int j) S = some (.int (i * j), S) := by
  unfold oMulL; simp only; rw [if_pos h]
theorem oMul_l (h1 : -(2 ^ 64) < i) (h2 : i < 2 ^ 64) : oMulL (.int i) (.int j) S = some (.int (i * j), S) := oMulL_int (by
  have : smallI i = true := by unfold smallI; simp only [Bool.and_eq_true, decide_eq_true_eq]; exact ⟨h1, h2⟩
  simp [this])
theorem oMul_r (h1 : -(2 ^ 64) < j) (h2 : j < 2 ^ 64) : oMulL (.int i) (.int j) S = some (.int (i * j), S) := oMulL_int (by
  have : smallI j = true := by unfold smallI; simp only [Bool.and_eq_true, decide_eq_true_eq]; exact ⟨h1, h2⟩
  simp [this])
theorem oDiv_small (h1 : 0 < j) (h2 : j < 1073741824) : oDiv (.int i) (.int j) S = some (.int (i / j), S) := by
  unfold oDiv
  have : divOk j = true := by
    unfold divOk
    simp only [Bool.or_eq_true, Bool.and_eq_true, decide_eq_true_eq]
    exact .inl ⟨by omega, by omega⟩
  simp only [this, if_true]
  rw [Int.fdiv_eq_ediv_of_nonneg _ (by omega)]
theorem oDiv_big (h1 : 0 < j) (h2 : j.natAbs.log2 < 9000) : oDiv (.int i) (.int j) S = some (.int (i / j), S) := by
  unfold oDiv
  have : divOk j = true := by
    unfold divOk
    simp only [Bool.or_eq_true, Bool.and_eq_true, decide_eq_true_eq]
    exact .inr ⟨h1, h2⟩
  simp only [this, if_true]
  rw [Int.fdiv_eq_ediv_of_nonneg _ (by omega)]
theorem oMod_pos (h1 : 0 < j) : oMod (.int i) (.int j) S = some (.int (i % j), S) := by
  unfold oMod
  simp only
  rw [if_neg (by omega), Int.fmod_eq_emod_of_nonneg _ (by omega)]
theorem oIx_lst {xs : List D} {n : Nat} (h : xs[n]? = some d) : oIx (.lst xs) (.int n) S = some (d, S) := by
  have h1 := (List.getElem?_eq_some_iff.mp h).1
  have e : atI xs (n : Int) = some d := atI_nat h
  simp [oIx, itemsLT, itemsL, e]
theorem oIx_tup {xs : List D} {n : Nat} (h : xs[n]? = some d) : oIx (.tup xs) (.int n) S = some (d, S) := by
  have e : atI xs (n : Int) = some d := atI_nat h
  simp [oIx, itemsLT, e]
@[simp] theorem oIx_tup0 {x : D} {xs : List D} : oIx (.tup (x :: xs)) (.int 0) S = some (x, S) := oIx_tup (n := 0) rfl
@[simp] theorem oIx_tup1 {x y : D} {xs : List D} : oIx (.tup (x :: y :: xs)) (.int 1) S = some (y, S) := oIx_tup (n := 1) rfl
@[simp] theorem oIx_tup2 {x y z : D} {xs : List D} : oIx (.tup (x :: y :: z :: xs)) (.int 2) S = some (z, S) := oIx_tup (n := 2) rfl
theorem oIx_ptr {xs : List D} {k n : Nat} (g : S.get k = some xs) (h : xs[n]? = some d) : oIx (.ptr k) (.int n) S = some (d, S) := by
  have e : atI xs (n : Int) = some d := atI_nat h
  simp [oIx, itemsLT, itemsL, g, e]
theorem setL_ptr {xs : List D} {k n : Nat} (g : S.get k = some xs) (h : n < xs.length) (f : d.flat = true) : setL (.ptr k) (.int n) d S = some (S.put k (xs.set n d)) := by
  have e : ixN xs.length (n : Int) = some n := by unfold ixN; simp [h]
  simp [setL, g, e, f]
theorem get_lt {k : Nat} {xs : List D} (h : S.get k = some xs) : k < S.L.length := by
  unfold Store.get at h
  cases e : S.L[k]? with
  | none => rw [e] at h; cases h
  | some o => exact (List.getElem?_eq_some_iff.mp e).1
@[simp] theorem put_put {k : Nat} {xs ys : List D} : (S.put k xs).put k ys = S.put k ys := by unfold Store.put; simp
theorem get_put_self {k : Nat} {xs ys : List D} (h : S.get k = some xs) : (S.put k ys).get k = some ys := by
  have := get_lt h
  unfold Store.get Store.put
  simp [this]
theorem get_put_ne {k j : Nat} {ys : List D} (h : j ≠ k) : (S.put k ys).get j = S.get j := by
  unfold Store.get Store.put
  simp [List.getElem?_set_ne (Ne.symm h)]
theorem put_self {k : Nat} {xs : List D} (h : S.get k = some xs) : S.put k xs = S := by
  unfold Store.get at h
  unfold Store.put
  cases e : S.L[k]? with
  | none => rw [e] at h; cases h
  | some o =>
    rw [e] at h
    cases o with
    | none => cases h
    | some ys =>
      cases h
      obtain ⟨h1, h2⟩ := List.getElem?_eq_some_iff.mp e
      have : S.L.set k (some xs) = S.L := by rw [← h2, List.set_getElem_self]
      rw [this]
@[simp] theorem put_len {k : Nat} {xs : List D} : (S.put k xs).L.length = S.L.length := by unfold Store.put; simp
theorem get_new_self {xs : List D} : (S.new xs).get S.L.length = some xs := by unfold Store.get Store.new; simp
theorem get_new_lt {k : Nat} {xs : List D} (h : k < S.L.length) : (S.new xs).get k = S.get k := by
  unfold Store.get Store.new
  simp [List.getElem?_append_left h]
end
theorem callN_eq {P : Prog} {n id : Nat} {d : FnD} {vs : List D} {S : Store} (h : P id = some d) : callN P (n + 1) id vs S = runFn d (callN P n) vs S := by
  show (match P id with | none => Res.err | some d => runFn d (callN P n) vs S) = _
  rw [h]
theorem run_keep {np ns : Nat} {b : CallT → TSt} {c : CallT} {vs : List D} {S S' : Store} {v : D} (hl : vs.length = np) (h : b c (vs.map some ++ List.replicate (ns - np) none) S = some (.ret v, S')) : runFn ⟨np, ns, true, b⟩ c vs S = .ok v S' := by
  unfold runFn
  simp only [hl, if_true]
  simp only [h]
  rfl
theorem run_keep_nx {np ns : Nat} {b : CallT → TSt} {c : CallT} {vs : List D} {S S' : Store} {s' : Sl} (hl : vs.length = np) (h : b c (vs.map some ++ List.replicate (ns - np) none) S = some (.nx s', S')) : runFn ⟨np, ns, true, b⟩ c vs S = .ok .non S' := by
  unfold runFn
  simp only [hl, if_true]
  simp only [h]
  rfl
theorem run_cut {np ns : Nat} {b : CallT → TSt} {c : CallT} {vs : List D} {S S' : Store} {v : D} (hl : vs.length = np) (h : b c (vs.map some ++ List.replicate (ns - np) none) S = some (.ret v, S')) (hf : v.flat = true) : runFn ⟨np, ns, false, b⟩ c vs S = .ok v (S'.cut S.L.length) := by
  unfold runFn
  simp only [hl, if_true]
  simp only [h]
  unfold leave
  simp [hf]
theorem lc_map {i : Nat} {t e : TE} {s : Sl} {S : Store} (f : D → D) : ∀ (ds acc : List D), (∀ d ∈ ds, t (s.set i (some d)) S = .ok (.bl true) S ∧ e (s.set i (some d)) S = .ok (f d) S) → acc.length + ds.length ≤ sizeLine → lcL (.nm i) t e s ds acc S = .ok (.lst (acc ++ ds.map f)) S
  | [], acc, _, _ => by simp [lcL]
  | d :: ds, acc, h, hl => by
    obtain ⟨h1, h2⟩ := h d List.mem_cons_self
    simp only [List.length_cons] at hl
    have h3 : lineOk acc.length = true := by unfold lineOk; exact decide_eq_true (by omega)
    unfold lcL
    simp only [put_nm, h1, h2, h3, if_true]
    rw [lc_map f ds (acc ++ [f d]) (fun d' hd => h d' (List.mem_cons_of_mem _ hd)) (by simp; omega)]
    simp
theorem lc_mapP {p : Pat} {t e : TE} {s : Sl} {S : Store} (f : D → D) : ∀ (ds acc : List D), (∀ d ∈ ds, ∃ s1, p.put d s = some s1 ∧ t s1 S = .ok (.bl true) S ∧ e s1 S = .ok (f d) S) → acc.length + ds.length ≤ sizeLine → lcL p t e s ds acc S = .ok (.lst (acc ++ ds.map f)) S
  | [], acc, _, _ => by simp [lcL]
  | d :: ds, acc, h, hl => by
    obtain ⟨s1, h0, h1, h2⟩ := h d List.mem_cons_self
    simp only [List.length_cons] at hl
    have h3 : lineOk acc.length = true := by unfold lineOk; exact decide_eq_true (by omega)
    unfold lcL
    simp only [h0, h1, h2, h3, if_true]
    rw [lc_mapP f ds (acc ++ [f d]) (fun d' hd => h d' (List.mem_cons_of_mem _ hd)) (by simp; omega)]
    simp
theorem whL_mono {t : TE} {b : TSt} : ∀ {n m : Nat} {s : Sl} {S : Store} {r : Fl × Store}, whL t b n s S = some r → n ≤ m → whL t b m s S = some r
  | 0, _, _, _, _, h, _ => by cases h
  | n + 1, 0, _, _, _, _, hm => absurd hm (Nat.not_succ_le_zero _)
  | n + 1, m + 1, s, S, r, h, hm => by
    unfold whL at h ⊢
    cases e : t s S with
    | ok d S1 =>
      simp only [e, onE_ok'] at h ⊢
      cases d <;> try (simp [asBS] at h; done)
      rename_i k
      simp only [asBS_bl'] at h ⊢
      cases k with
      | false => simpa using h
      | true =>
        simp only [if_true] at h ⊢
        cases e2 : b s S1 with
        | none => simp [e2] at h
        | some p =>
          obtain ⟨f, S3⟩ := p
          simp only [e2] at h ⊢
          cases f with
          | nx s3 => exact whL_mono h (Nat.le_of_succ_le_succ hm)
          | ct s3 => exact whL_mono h (Nat.le_of_succ_le_succ hm)
          | bk s3 => exact h
          | ret d => exact h
          | ex x s3 => exact h
    | ex x S1 => simp only [e, onE_ex'] at h ⊢; exact h
    | err => simp [e] at h
theorem while_of {t : TE} {b : TSt} {n : Nat} {s : Sl} {S : Store} {r : Fl × Store} (h : whL t b n s S = some r) (hn : n ≤ whMost) : tWhile t b s S = some r := whL_mono h hn
end Q
namespace Q
open PySem L2
def b_is_integer : CallT → TSt := fun c => tRet (eAnd (e1 (oIsi [.int]) (eV 0)) (eNot (e1 (oIsi [.bool]) (eV 0))))
def f_is_integer : FnD := ⟨1, 1, true, b_is_integer⟩
def b_is_within : CallT → TSt := fun c => tRet (eAnd (eCall c 1 [eV 0]) (eChain oLe oLe (eV 1) (eV 0) (eV 2)))
def f_is_within : FnD := ⟨3, 3, true, b_is_within⟩
def b_is_tuple_of : CallT → TSt := fun c => tRet (eAnd (e1 (oIsi [.tuple]) (eV 0)) (e2 oEq (eN oLen [eV 0]) (eV 1)))
def f_is_tuple_of : FnD := ⟨2, 2, true, b_is_tuple_of⟩
def b_common : CallT → TSt := fun c => tSeq (tSet (.tp [.nm 0, .nm 1]) (eTup [eN oAbs [eV 0], eN oAbs [eV 1]])) (tSeq (tWhile (e2 oGt (eV 1) (eC (.int 0))) (tSet (.tp [.nm 0, .nm 1]) (eTup [eV 1, e2 oMod (eV 0) (eV 1)]))) (tRet (eV 0)))
def f_common : FnD := ⟨2, 2, true, b_common⟩
def b_is_fraction : CallT → TSt := fun c => tSeq (tIf (eOr (eNot (eCall c 3 [eV 0, eC (.int 2)])) (eOr (eNot (eCall c 1 [e2 oIx (eV 0) (eC (.int 0))])) (eNot (eCall c 1 [e2 oIx (eV 0) (eC (.int 1))])))) (tRet (eC (.bl false))) (tPass)) (tRet (eAnd (e2 oGe (e2 oIx (eV 0) (eC (.int 1))) (eC (.int 1))) (e2 oEq (eCall c 4 [e2 oIx (eV 0) (eC (.int 0)), e2 oIx (eV 0) (eC (.int 1))]) (eC (.int 1)))))
def f_is_fraction : FnD := ⟨1, 1, true, b_is_fraction⟩
def b_frac : CallT → TSt := fun c => tSeq (tSet (.nm 2) (eCall c 4 [eV 0, eV 1])) (tSeq (tIf (e2 oLt (eV 1) (eC (.int 0))) (tSet (.nm 2) (e1 oNeg (eV 2))) (tPass)) (tRet (eTup [e2 oDiv (eV 0) (eV 2), e2 oDiv (eV 1) (eV 2)])))
def f_frac : FnD := ⟨2, 3, true, b_frac⟩
def b_less : CallT → TSt := fun c => tRet (e2 oLt (e2 oMulL (e2 oIx (eV 0) (eC (.int 0))) (e2 oIx (eV 1) (eC (.int 1)))) (e2 oMulL (e2 oIx (eV 1) (eC (.int 0))) (e2 oIx (eV 0) (eC (.int 1)))))
def f_less : FnD := ⟨2, 2, true, b_less⟩
def b_is_line : CallT → TSt := fun c => tSeq (tIf (eOr (eNot (eCall c 3 [eV 0, eC (.int 2)])) (eOr (eNot (eCall c 5 [e2 oIx (eV 0) (eC (.int 0))])) (eNot (eCall c 5 [e2 oIx (eV 0) (eC (.int 1))])))) (tRet (eC (.bl false))) (tPass)) (tSeq (tIf (eOr (eCall c 10 [e2 oIx (eV 0) (eC (.int 0)), eC (.tup [(.int 0), (.int 1)])]) (eCall c 10 [eC (.tup [(.int 1), (.int 1)]), e2 oIx (eV 0) (eC (.int 0))])) (tRet (eC (.bl false))) (tPass)) (tRet (eAnd (eNot (eCall c 10 [e2 oIx (eV 0) (eC (.int 1)), eC (.tup [(.int 0), (.int 1)])])) (eCall c 10 [e2 oIx (eV 0) (eC (.int 1)), eC (.tup [(.int 1), (.int 1)])]))))
def f_is_line : FnD := ⟨1, 1, true, b_is_line⟩
def b_is_rule : CallT → TSt := fun c => tRet (eAnd (eCall c 61 [eV 0]) (eAnd (e2 oLe (e2 oIx (e2 oIx (eV 0) (eC (.int 0))) (eC (.int 1))) (eC (.int 10000))) (e2 oLe (e2 oIx (e2 oIx (eV 0) (eC (.int 1))) (eC (.int 1))) (eC (.int 10000)))))
def f_is_rule : FnD := ⟨1, 1, true, b_is_rule⟩
def b_check_rule : CallT → TSt := fun c => tIf (eNot (eCall c 62 [eV 0])) (tNo) (tPass)
def f_check_rule : FnD := ⟨1, 1, true, b_check_rule⟩
def b_total_to : CallT → TSt := fun c => tSeq (tSet (.tp [.nm 2, .nm 3]) (eV 0)) (tRet (e2 oDiv (e2 oAdd (e2 oMulL (e2 oMulL (eV 1) (e2 oIx (eV 2) (eC (.int 0)))) (e2 oIx (eV 3) (eC (.int 1)))) (e2 oMulL (e2 oIx (eV 3) (eC (.int 0))) (e2 oIx (eV 2) (eC (.int 1))))) (e2 oMulL (e2 oIx (eV 2) (eC (.int 1))) (e2 oIx (eV 3) (eC (.int 1))))))
def f_total_to : FnD := ⟨2, 4, true, b_total_to⟩
def b_row_of : CallT → TSt := fun c => tSeq (tSet (.nm 3) (eLc [4] (.nm 4) (sN iRng1 [e2 oAdd (eV 2) (eC (.int 1))]) (eC (.bl true)) (eCall c 64 [eV 0, e2 oAdd (eV 1) (eV 4)]))) (tRet (eM isStrD oJoin (eC (.str "")) [eLc [4] (.nm 4) (sN iRng1 [eV 2]) (eC (.bl true)) (eIf (e2 oGt (e2 oIx (eV 3) (e2 oAdd (eV 4) (eC (.int 1)))) (e2 oIx (eV 3) (eV 4))) (eC (.str "1")) (eC (.str "0")))]))
def f_row_of : FnD := ⟨3, 5, true, b_row_of⟩
def b_made : CallT → TSt := fun c => tSeq (tExpr (eCall c 63 [eV 0])) (tSeq (tIf (eOr (eNot (eCall c 2 [eV 1, eC (.int 0), eC (.int 1000000000000)])) (eNot (eCall c 2 [eV 2, eC (.int 1), eC (.int 500)]))) (tNo) (tPass)) (tRet (eCall c 65 [eV 0, eV 1, eV 2])))
def f_made : FnD := ⟨3, 3, true, b_made⟩
def b_form_of : CallT → TSt := fun c => tSeq (tSet (.tp [.nm 1, .nm 2]) (eV 0)) (tRet (eTup [e2 oIx (eV 1) (eC (.int 0)), e2 oIx (eV 1) (eC (.int 1)), e2 oDiv (e2 oMulL (e2 oIx (eV 1) (eC (.int 1))) (e2 oIx (eV 2) (eC (.int 0)))) (e2 oIx (eV 2) (eC (.int 1)))]))
def f_form_of : FnD := ⟨1, 3, true, b_form_of⟩
def b_normal : CallT → TSt := fun c => tSeq (tExpr (eCall c 63 [eV 0])) (tRet (eCall c 79 [eV 0]))
def f_normal : FnD := ⟨1, 1, true, b_normal⟩
def b_made_of : CallT → TSt := fun c => tRet (eTup [eCall c 6 [e2 oIx (eV 0) (eC (.int 0)), e2 oIx (eV 0) (eC (.int 1))], eCall c 6 [e2 oIx (eV 0) (eC (.int 2)), e2 oIx (eV 0) (eC (.int 1))]])
def f_made_of : FnD := ⟨1, 1, true, b_made_of⟩
def b_has_duty : CallT → TSt := fun c => tRet (e2 oGt (eCall c 64 [eV 0, e2 oAdd (eV 1) (eC (.int 1))]) (eCall c 64 [eV 0, eV 1]))
def f_has_duty : FnD := ⟨2, 2, true, b_has_duty⟩
def b_first_parting : CallT → TSt := fun c => tSeq (tIf (e2 oEq (eCall c 79 [eV 0]) (eCall c 79 [eV 1])) (tRet (eC .non)) (tPass)) (tSeq (tFor (.nm 2) (sN iRng1 [e2 oAdd (e2 oIx (e2 oIx (eV 0) (eC (.int 0))) (eC (.int 1))) (e2 oIx (e2 oIx (eV 1) (eC (.int 0))) (eC (.int 1)))]) (tIf (e2 oNe (eCall c 83 [eV 0, eV 2]) (eCall c 83 [eV 1, eV 2])) (tRet (eV 2)) (tPass))) (tRet (eC .non)))
def f_first_parting : FnD := ⟨2, 3, true, b_first_parting⟩
def b_others_of : CallT → TSt := fun c => tSeq (tSet (.tp [.nm 1, .nm 2, .nm 3]) (eCall c 79 [eV 0])) (tRet (eCall c 81 [eTup [e2 oSub (eV 2) (eV 1), eV 2, e2 oSub (e2 oSub (eV 2) (eC (.int 1))) (eV 3)]]))
def f_others_of : FnD := ⟨1, 4, true, b_others_of⟩
def b_other_days : CallT → TSt := fun c => tSeq (tExpr (eCall c 63 [eV 0])) (tRet (eCall c 86 [eV 0]))
def f_other_days : FnD := ⟨1, 1, true, b_other_days⟩
def b_law_hand_v7 : CallT → TSt := fun c => tSeq (tSet (.nm 1) (eLc [2] (.nm 2) (sSeq (eCutU (eV 0) (eC (.int 63)))) (eC (.bl true)) (eN oAbs [eN oInt [eV 2]]))) (tRet (eLstM [eV 1, eC (.int 0), eC (.int 0), e2 oAdd (eC (.int 173)) (e2 oMulL (eC (.int 3)) (eN oLen [eV 1])), eC (.int 0)]))
def f_law_hand_v7 : FnD := ⟨1, 3, true, b_law_hand_v7⟩
def b_law_draw_v3 : CallT → TSt := fun c => tSeq (tIf (eAnd (e2 oEq (e2 oIx (eV 0) (eC (.int 2))) (eC (.int 0))) (e2 oLt (e2 oIx (eV 0) (eC (.int 1))) (eN oLen [e2 oIx (eV 0) (eC (.int 0))]))) (tSeq (tSet (.nm 2) (e2 oIx (e2 oIx (eV 0) (eC (.int 0))) (e2 oIx (eV 0) (eC (.int 1))))) (tSeq (tSetIx (eV 0) (eC (.int 1)) (e2 oAdd (e2 oIx (eV 0) (eC (.int 1))) (eC (.int 1)))) (tSeq (tSetIx (eV 0) (eC (.int 3)) (e2 oMod (eN oInt [e2 oAdd (e2 oAdd (e2 oMulL (e2 oIx (eV 0) (eC (.int 3))) (eC (.int 69621))) (e2 oMulL (eV 2) (eC (.int 40692)))) (eC (.int 137))]) (eC (.int 2147483629)))) (tIf (e2 oGe (eV 2) (e2 oPow (eC (.int 10)) (eC (.int 18)))) (tSetIx (eV 0) (eC (.int 2)) (eV 2)) (tPass))))) (tPass)) (tSeq (tIf (e2 oGt (e2 oIx (eV 0) (eC (.int 2))) (eC (.int 0))) (tSeq (tSet (.nm 3) (e2 oMod (eN oInt [e2 oIx (eV 0) (eC (.int 2))]) (eV 1))) (tSeq (tSetIx (eV 0) (eC (.int 2)) (e2 oDiv (e2 oIx (eV 0) (eC (.int 2))) (eV 1))) (tRet (eV 3)))) (tPass)) (tSeq (tSetIx (eV 0) (eC (.int 4)) (e2 oAdd (e2 oIx (eV 0) (eC (.int 4))) (eC (.int 1)))) (tSeq (tSet (.nm 4) (e2 oMod (eN oInt [e2 oMulL (eN oInt [e2 oAdd (e2 oIx (eV 0) (eC (.int 3))) (e2 oMulL (eC (.int 7919)) (e2 oIx (eV 0) (eC (.int 4))))]) (eC (.int 48271))]) (eC (.int 2147483647)))) (tSeq (tSet (.nm 4) (e2 oMod (eN oInt [e2 oMulL (eV 4) (e2 oAdd (e2 oDiv (eV 4) (eC (.int 1009))) (eC (.int 69621)))]) (eC (.int 2147483647)))) (tSeq (tSet (.nm 4) (e2 oMod (eN oInt [e2 oMulL (eV 4) (e2 oAdd (e2 oDiv (eV 4) (eC (.int 2003))) (eC (.int 40014)))]) (eC (.int 2147483563)))) (tRet (e2 oMod (eN oInt [e2 oDiv (eV 4) (eC (.int 16))]) (eV 1))))))))
def f_law_draw_v3 : FnD := ⟨2, 5, true, b_law_draw_v3⟩
def b_law_any_v2 : CallT → TSt := fun c => tRet (e2 oIx (eV 1) (eCall c 217 [eV 0, eN oLen [eV 1]]))
def f_law_any_v2 : FnD := ⟨2, 2, true, b_law_any_v2⟩
def b_law_same_v2 : CallT → TSt := fun c => tSeq (tIf (e1 (oIsi [.tuple, .list]) (eV 1)) (tSeq (tIf (eOr (e2 oNe (e1 (oIsi [.tuple]) (eV 0)) (e1 (oIsi [.tuple]) (eV 1))) (eNot (e1 (oIsi [.tuple, .list]) (eV 0)))) (tRet (eC (.bl false))) (tPass)) (tRet (eAnd (e2 oEq (eN oLen [eV 0]) (eN oLen [eV 1])) (eN oAll [eLc [2, 3] (.tp [.nm 2, .nm 3]) (sN iZip [eV 0, eV 1]) (eC (.bl true)) (eCall c 219 [eV 2, eV 3])])))) (tPass)) (tSeq (tIf (eOr (e1 (oIsi [.bool]) (eV 1)) (eOr (e1 (oIsi [.bool]) (eV 0)) (eOr (e1 oIsN (eV 1)) (e1 oIsN (eV 0))))) (tRet (eAnd (e2 oEq (e1 (oIsi [.bool]) (eV 0)) (e1 (oIsi [.bool]) (eV 1))) (eAnd (e2 oEq (e1 oIsN (eV 0)) (e1 oIsN (eV 1))) (e2 oEq (eV 0) (eV 1))))) (tPass)) (tRet (eAnd (e2 oEq (e1 (oIsi [.str]) (eV 0)) (e1 (oIsi [.str]) (eV 1))) (eAnd (e1 (oIsi [.int, .str]) (eV 0)) (e2 oEq (eV 0) (eV 1))))))
def f_law_same_v2 : FnD := ⟨2, 4, true, b_law_same_v2⟩
def b_law_low : CallT → TSt := fun c => tSeq (tSet (.tp [.nm 2, .nm 3]) (eTup [eV 0, eV 1])) (tSeq (tWhile (e2 oGt (eV 3) (eC (.int 0))) (tSet (.tp [.nm 2, .nm 3]) (eTup [eV 3, e2 oMod (eN oInt [eV 2]) (eV 3)]))) (tRet (eTup [e2 oDiv (eV 0) (eV 2), e2 oDiv (eV 1) (eV 2)])))
def f_law_low : FnD := ⟨2, 4, true, b_law_low⟩
def b_law_rule_v2 : CallT → TSt := fun c => tSeq (tSet (.tp [.nm 2, .nm 3]) (eTup [e2 oAdd (eC (.int 1)) (eCall c 217 [eV 0, eCall c 218 [eV 0, eLst [eC (.int 3), eC (.int 12), eV 1]]]), e2 oAdd (eC (.int 1)) (eCall c 217 [eV 0, eCall c 218 [eV 0, eLst [eC (.int 3), eC (.int 12), eV 1]]])])) (tRet (eTup [eCall c 220 [eCall c 218 [eV 0, eLst [eCall c 217 [eV 0, e2 oAdd (eV 2) (eC (.int 1))], eC (.int 1), e2 oSub (eV 2) (eC (.int 1)), eV 2, eC (.int 0)]], eV 2], eCall c 220 [eCall c 217 [eV 0, eV 3], eV 3]]))
def f_law_rule_v2 : FnD := ⟨2, 4, true, b_law_rule_v2⟩
def b_law_until_v2 : CallT → TSt := fun c => tSeq (tSet (.tp [.tp [.nm 2, .nm 3], .tp [.nm 4, .nm 5]]) (eV 0)) (tRet (e2 oDiv (e2 oAdd (e2 oMulL (e2 oMulL (eV 1) (eV 2)) (eV 5)) (e2 oMulL (eV 4) (eV 3))) (e2 oMulL (eV 3) (eV 5))))
def f_law_until_v2 : FnD := ⟨2, 6, true, b_law_until_v2⟩
def b_law_has_duty : CallT → TSt := fun c => tRet (e2 oGt (eCall c 222 [eV 0, e2 oAdd (eV 1) (eC (.int 1))]) (eCall c 222 [eV 0, eV 1]))
def f_law_has_duty : FnD := ⟨2, 2, true, b_law_has_duty⟩
def b_law_form : CallT → TSt := fun c => tSeq (tSet (.tp [.tp [.nm 1, .nm 2], .tp [.nm 3, .nm 4]]) (eV 0)) (tRet (eTup [eV 1, eV 2, e2 oDiv (e2 oMulL (eV 2) (eV 3)) (eV 4)]))
def f_law_form : FnD := ⟨1, 5, true, b_law_form⟩
def b_law_of_form : CallT → TSt := fun c => tRet (eTup [eCall c 220 [e2 oIx (eV 0) (eC (.int 0)), e2 oIx (eV 0) (eC (.int 1))], eCall c 220 [e2 oIx (eV 0) (eC (.int 2)), e2 oIx (eV 0) (eC (.int 1))]])
def f_law_of_form : FnD := ⟨1, 1, true, b_law_of_form⟩
def b_sharing_v2 : CallT → TSt := fun c => tSeq (tExpr (eCall c 63 [eV 0])) (tSeq (tExpr (eCall c 63 [eV 1])) (tSeq (tSet (.nm 2) (eCall c 84 [eCall c 86 [eV 0], eV 1])) (tSeq (tIf (e1 oIsN (eV 2)) (tRet (eTup [eC (.str "each")])) (tPass)) (tRet (eTup [eIf (eCall c 83 [eV 0, eV 2]) (eC (.str "both")) (eC (.str "nobody")), eV 2])))))
def f_sharing_v2 : FnD := ⟨2, 3, true, b_sharing_v2⟩
def b_law_contrary : CallT → TSt := fun c => tSeq (tSet (.tp [.nm 1, .nm 2, .nm 3]) (eV 0)) (tRet (eTup [e2 oSub (eV 2) (eV 1), eV 2, e2 oSub (e2 oSub (eV 2) (eC (.int 1))) (eV 3)]))
def f_law_contrary : FnD := ⟨1, 4, true, b_law_contrary⟩
def b_law_due_v2 : CallT → TSt := fun c => tSeq (tIf (e2 oEq (eCall c 224 [eV 1]) (eCall c 244 [eCall c 224 [eV 0]])) (tRet (eTup [eC (.str "each")])) (tPass)) (tSeq (tSet (.nm 2) (eC (.int 0))) (tSeq (tWhile (e2 oLe (eV 2) (e2 oAdd (e2 oIx (e2 oIx (eV 0) (eC (.int 0))) (eC (.int 1))) (e2 oIx (e2 oIx (eV 1) (eC (.int 0))) (eC (.int 1))))) (tSeq (tSet (.tp [.nm 3, .nm 4]) (eTup [eCall c 223 [eV 0, eV 2], eCall c 223 [eV 1, eV 2]])) (tSeq (tIf (e2 oEq (eV 3) (eV 4)) (tRet (eTup [eIf (eV 3) (eC (.str "both")) (eC (.str "nobody")), eV 2])) (tPass)) (tSet (.nm 2) (e2 oAdd (eV 2) (eC (.int 1))))))) (tRet (eTup [eC (.str "none")]))))
def f_law_due_v2 : FnD := ⟨2, 5, true, b_law_due_v2⟩
def b_law_near_v3 : CallT → TSt := fun c => tSeq (tSet (.tp [.nm 3, .nm 4, .nm 5]) (eCall c 244 [eCall c 224 [eV 1]])) (tSeq (tSet (.nm 6) (eCall c 217 [eV 0, eC (.int 5)])) (tSeq (tIf (e2 oEq (eV 6) (eC (.int 0))) (tRet (eCall c 221 [eV 0, eV 2])) (tPass)) (tSeq (tIf (e2 oEq (eV 6) (eC (.int 1))) (tSeq (tSet (.nm 7) (eN oMax2 [eC (.int 1), eN oMin2 [eC (.int 9), e2 oDiv (e2 oPow (eC (.int 10)) (eC (.int 4))) (eV 4)]])) (tRet (eTup [eCall c 220 [eV 3, eV 4], eCall c 220 [e2 oAdd (e2 oMulL (eV 5) (eV 7)) (eCall c 217 [eV 0, eV 7]), e2 oMulL (eV 4) (eV 7)]]))) (tPass)) (tSeq (tIf (e2 oEq (eV 6) (eC (.int 2))) (tRet (eCall c 225 [eTup [eV 3, eV 4, e2 oMod (eN oInt [e2 oAdd (eV 5) (eC (.int 1))]) (eV 4)]])) (tPass)) (tSeq (tIf (e2 oEq (eV 6) (eC (.int 3))) (tRet (eTup [eCall c 220 [eN oMax2 [eC (.int 0), eN oMin2 [eV 4, e2 oAdd (eV 3) (eCall c 218 [eV 0, eLst [eC (.int 1), e1 oNeg (eC (.int 1))]])]], eV 4], eCall c 220 [eV 5, eV 4]])) (tPass)) (tRet (eTup [eCall c 220 [eV 3, eV 4], e2 oIx (eV 1) (eC (.int 1))])))))))
def f_law_near_v3 : FnD := ⟨3, 8, true, b_law_near_v3⟩
def b_law_is_right : CallT → TSt := fun c => tSeq (tSet (.tp [.nm 2, .nm 3]) (eTup [eCall c 87 [eV 1], eCall c 225 [eCall c 244 [eCall c 224 [eV 1]]]])) (tSeq (tIf (eOr (eNot (eCall c 219 [eV 2, eV 3])) (eNot (eCall c 219 [eCall c 87 [eV 2], eCall c 225 [eCall c 224 [eV 1]]]))) (tRet (eC (.bl false))) (tPass)) (tSeq (tSet (.tp [.nm 4, .nm 5]) (eTup [eCall c 218 [eV 0, eLst [eC (.int 0), eCall c 217 [eV 0, e2 oPow (eC (.int 10)) (eC (.int 9))]]], e2 oAdd (eC (.int 1)) (eCall c 217 [eV 0, eC (.int 80)])])) (tSeq (tIf (eNot (eN oAll [eLc [7, 8] (.tp [.nm 7, .nm 8]) (sN iZip [eCall c 66 [eV 1, eV 4, eV 5], eCall c 66 [eV 2, eV 4, eV 5]]) (eC (.bl true)) (e2 oNe (eV 7) (eV 8))])) (tRet (eC (.bl false))) (tPass)) (tSeq (tSet (.nm 6) (eLst [eCall c 231 [eV 1, eV 2], eCall c 231 [eV 2, eV 1], eCall c 80 [eV 2]])) (tRet (eCall c 219 [eV 6, eLst [eTup [eC (.str "each")], eTup [eC (.str "each")], eCall c 244 [eCall c 224 [eV 1]]]]))))))
def f_law_is_right : FnD := ⟨2, 9, true, b_law_is_right⟩
def b_law_v14 : CallT → TSt := fun c => tSeq (tSet (.nm 1) (eCall c 216 [eV 0])) (tSeq (tSet (.nm 2) (eTup [eTup [eC (.int 2), eC (.int 5)], eTup [eC (.int 1), eC (.int 2)]])) (tSeq (tSet (.nm 3) (eLst [eCall c 87 [eV 2], eCall c 231 [eV 2, eTup [eTup [eC (.int 3), eC (.int 5)], eTup [eC (.int 2), eC (.int 5)]]], eCall c 231 [eV 2, eV 2], eCall c 87 [eTup [eTup [eC (.int 0), eC (.int 1)], eTup [eC (.int 1), eC (.int 3)]]]])) (tSeq (tIf (eNot (eCall c 219 [eV 3, eLst [eTup [eTup [eC (.int 3), eC (.int 5)], eTup [eC (.int 2), eC (.int 5)]], eTup [eC (.str "each")], eTup [eC (.str "nobody"), eC (.int 0)], eTup [eTup [eC (.int 1), eC (.int 1)], eTup [eC (.int 0), eC (.int 1)]]]])) (tRet (eC (.bl false))) (tPass)) (tSeq (tIf (eNot (eCall c 219 [eCall c 231 [eTup [eTup [eC (.int 1), eC (.int 1)], eTup [eC (.int 0), eC (.int 1)]], eTup [eTup [eC (.int 1), eC (.int 1)], eTup [eC (.int 1), eC (.int 2)]]], eTup [eC (.str "both"), eC (.int 0)]])) (tRet (eC (.bl false))) (tPass)) (tSeq (tFor (.nm 4) (sN iRng1 [eC (.int 6)]) (tSeq (tSet (.nm 5) (eIf (e2 oEq (eV 4) (eC (.int 5))) (eCall c 218 [eV 1, eLst [eC (.int 6), eC (.int 40), eC (.int 1000), e2 oPow (eC (.int 10)) (eC (.int 4))]]) (eCall c 218 [eV 1, eLst [eC (.int 6), eC (.int 40), eC (.int 200)]]))) (tSeq (tSet (.nm 6) (eCall c 221 [eV 1, eV 5])) (tSeq (tSet (.nm 7) (eCall c 246 [eV 1, eV 6, eV 5])) (tSeq (tIf (eNot (eCall c 247 [eV 1, eV 6])) (tRet (eC (.bl false))) (tPass)) (tSeq (tSet (.tp [.nm 8, .nm 3]) (eTup [eCall c 245 [eV 6, eV 7], eLst [eCall c 231 [eV 6, eV 7], eCall c 231 [eV 7, eV 6]]])) (tIf (eOr (e2 oEq (eV 8) (eTup [eC (.str "none")])) (eNot (eCall c 219 [eV 3, eLst [eV 8, eV 8]]))) (tRet (eC (.bl false))) (tPass)))))))) (tRet (eC (.bl true))))))))
def f_law_v14 : FnD := ⟨1, 9, true, b_law_v14⟩
def Lib : Prog
  | 1 => some f_is_integer
  | 2 => some f_is_within
  | 3 => some f_is_tuple_of
  | 4 => some f_common
  | 5 => some f_is_fraction
  | 6 => some f_frac
  | 10 => some f_less
  | 61 => some f_is_line
  | 62 => some f_is_rule
  | 63 => some f_check_rule
  | 64 => some f_total_to
  | 65 => some f_row_of
  | 66 => some f_made
  | 79 => some f_form_of
  | 80 => some f_normal
  | 81 => some f_made_of
  | 83 => some f_has_duty
  | 84 => some f_first_parting
  | 86 => some f_others_of
  | 87 => some f_other_days
  | 216 => some f_law_hand_v7
  | 217 => some f_law_draw_v3
  | 218 => some f_law_any_v2
  | 219 => some f_law_same_v2
  | 220 => some f_law_low
  | 221 => some f_law_rule_v2
  | 222 => some f_law_until_v2
  | 223 => some f_law_has_duty
  | 224 => some f_law_form
  | 225 => some f_law_of_form
  | 231 => some f_sharing_v2
  | 244 => some f_law_contrary
  | 245 => some f_law_due_v2
  | 246 => some f_law_near_v3
  | 247 => some f_law_is_right
  | 248 => some f_law_v14
  | _ => none
end Q
namespace Q
open PySem L2
section
variable {n : Nat} {S : Store}
theorem oDiv_62 {i j : Int} (h1 : 0 < j) (h2 : j < 4611686018427387904) : oDiv (.int i) (.int j) S = some (.int (i / j), S) := oDiv_big h1 (by
  have h3 : j.natAbs < 2 ^ 62 := by omega
  have := PySem.Flt.log2_lt_of (by decide) h3
  omega)
theorem c_is_integer (i : Int) : callN Lib (n + 1) 1 [.int i] S = .ok (.bl true) S := by
  rw [callN_eq (d := f_is_integer) rfl]
  refine run_keep rfl ?_
  simp [b_is_integer, oIsi, Ty.of, Ty.eqb]
theorem c_is_within (i l h : Int) : callN Lib (n + 2) 2 [.int i, .int l, .int h] S = .ok (.bl (decide (l ≤ i ∧ i ≤ h))) S := by
  rw [callN_eq (d := f_is_within) rfl]
  refine run_keep rfl ?_
  simp [b_is_within, c_is_integer]
  by_cases h1 : l ≤ i <;> simp [h1]
theorem shaped_int (i : Int) : SeqAt.shaped (.int i) = true := by unfold SeqAt.shaped; rfl
theorem c_is_tuple_of (ds : List D) (k : Int) : callN Lib (n + 1) 3 [.tup ds, .int k] S = .ok (.bl (decide ((ds.length : Int) = k))) S := by
  rw [callN_eq (d := f_is_tuple_of) rfl]
  refine run_keep rfl ?_
  simp [b_is_tuple_of, oIsi, Ty.of, Ty.eqb]
def rul (p q a b : Int) : D := .tup [.tup [.int p, .int q], .tup [.int a, .int b]]
abbrev IsRule' (p q a b : Int) : Prop := 0 ≤ p ∧ p ≤ q ∧ 0 ≤ a ∧ a < b ∧ q ≤ 10000 ∧ b ≤ 10000
structure IsRule (p q a b : Int) : Prop where
  q1 : 1 ≤ q
  q2 : q ≤ 10000
  p0 : 0 ≤ p
  p1 : p ≤ q
  pq : Int.gcd p q = 1
  b1 : 1 ≤ b
  b2 : b ≤ 10000
  a0 : 0 ≤ a
  a1 : a < b
  ab : Int.gcd a b = 1
theorem gcd_turns (c : CallT) : ∀ (m : Nat) (x y : Nat), y ≤ m → ∃ k, k ≤ m + 1 ∧ whL (e2 oGt (eV 1) (eC (.int 0))) (tSet (.tp [.nm 0, .nm 1]) (eTup [eV 1, e2 oMod (eV 0) (eV 1)])) k [some (.int x), some (.int y)] S = some (.nx [some (.int (Nat.gcd x y : Nat)), some (.int 0)], S) := by
  intro m
  induction m with
  | zero =>
    intro x y hy
    obtain rfl : y = 0 := by omega
    refine ⟨1, by omega, ?_⟩
    simp [whL]
  | succ m ih =>
    intro x y hy
    by_cases h0 : y = 0
    · subst h0
      refine ⟨1, by omega, ?_⟩
      simp [whL]
    · have hlt : x % y < y := Nat.mod_lt _ (by omega)
      obtain ⟨k, hk, e⟩ := ih y (x % y) (by omega)
      refine ⟨k + 1, by omega, ?_⟩
      have hp : (0 : Int) < (y : Int) := by omega
      unfold whL
      simp [hp, oMod_pos hp]
      have e2 : ((x : Int) % (y : Int)) = ((x % y : Nat) : Int) := by simp
      rw [e2, e, Nat.gcd_comm y (x % y), ← Nat.gcd_rec y x, Nat.gcd_comm y x]
      have h1 : 0 < y := by omega
      simp [h1]
theorem c_common (x y : Int) (hy : y.natAbs < 2 ^ 59) : callN Lib (n + 1) 4 [.int x, .int y] S = .ok (.int (Int.gcd x y : Nat)) S := by
  rw [callN_eq (d := f_common) rfl]
  refine run_keep rfl ?_
  have ex : (if x < 0 then -x else x) = ((x.natAbs : Nat) : Int) := by split <;> omega
  have ey : (if y < 0 then -y else y) = ((y.natAbs : Nat) : Int) := by split <;> omega
  obtain ⟨k, hk, e⟩ := gcd_turns (S := S) (callN Lib n) y.natAbs x.natAbs y.natAbs (Nat.le_refl _)
  have e2 := while_of e (by show k ≤ 2 ^ 60; omega)
  simp [b_common, ex, ey, e2]
  rfl
theorem c_is_fraction (x y : Int) (h : y.natAbs < 2 ^ 59) : callN Lib (n + 2) 5 [.tup [.int x, .int y]] S = .ok (.bl (decide (1 ≤ y ∧ Int.gcd x y = 1))) S := by
  rw [callN_eq (d := f_is_fraction) rfl]
  refine run_keep rfl ?_
  simp [b_is_fraction, c_is_tuple_of, c_is_integer, c_common x y h]
  by_cases h1 : 1 ≤ y
  · simp [h1]; omega
  · simp [h1]
theorem c_less (a b c d : Int) (hb : b.natAbs < 2 ^ 60) (hd : d.natAbs < 2 ^ 60) : callN Lib (n + 1) 10 [.tup [.int a, .int b], .tup [.int c, .int d]] S = .ok (.bl (decide (a * d < c * b))) S := by
  rw [callN_eq (d := f_less) rfl]
  refine run_keep rfl ?_
  have h1 : -(2 ^ 64) < b := by omega
  have h2 : b < 2 ^ 64 := by omega
  have h3 : -(2 ^ 64) < d := by omega
  have h4 : d < 2 ^ 64 := by omega
  simp [b_less, oMul_r h1 h2, oMul_r h3 h4]
theorem c_is_rule (p q a b : Int) (hp : p.natAbs < 2 ^ 59) (hq : q.natAbs < 2 ^ 59) (ha : a.natAbs < 2 ^ 59) (hb : b.natAbs < 2 ^ 59) : ∃ t, callN Lib (n + 4) 62 [rul p q a b] S = .ok (.bl t) S ∧ (t = true ↔ IsRule p q a b) := by
  by_cases h : (1 ≤ q ∧ Int.gcd p q = 1) ∧ (1 ≤ b ∧ Int.gcd a b = 1)
  · refine ⟨decide (IsRule' p q a b), ?_, ?_⟩
    · rw [callN_eq (d := f_is_rule) rfl]
      refine run_keep rfl ?_
      have hl : callN Lib (n + 3) 61 [rul p q a b] S = .ok (.bl (decide (0 ≤ p ∧ p ≤ q ∧ 0 ≤ a ∧ a < b))) S := by
        rw [callN_eq (d := f_is_line) rfl]
        refine run_keep rfl ?_
        have l1 := c_less (n := n + 1) (S := S) p q 0 1 (by omega) (by decide)
        have l2 := c_less (n := n + 1) (S := S) 1 1 p q (by decide) (by omega)
        have l3 := c_less (n := n + 1) (S := S) a b 0 1 (by omega) (by decide)
        have l4 := c_less (n := n + 1) (S := S) a b 1 1 (by omega) (by decide)
        simp [b_is_line, rul, c_is_tuple_of, c_is_fraction p q hq, c_is_fraction a b hb, h, l1, l2, l3, l4]
        by_cases h1 : p < 0
        · simp [h1]; omega
        · by_cases h2 : q < p
          · simp [h1, h2]; omega
          · have h5 : 0 ≤ p := by omega
            have h6 : p ≤ q := by omega
            by_cases h3 : 0 ≤ a
            · simp [h1, h2, h3, h5, h6, l3, l4]
            · simp [h1, h2, h3, l3, l4]
      simp only [rul] at hl ⊢
      simp [b_is_rule, hl]
      by_cases h1 : 0 ≤ p ∧ p ≤ q ∧ 0 ≤ a ∧ a < b
      · by_cases h2 : q ≤ 10000 <;> simp [h1, h2, IsRule']
      · have h3 : ¬ IsRule' p q a b := fun z => h1 ⟨z.1, z.2.1, z.2.2.1, z.2.2.2.1⟩
        simp [h1, h3]
        omega
    · simp only [decide_eq_true_eq, IsRule']
      constructor
      · rintro ⟨h1, h2, h3, h4, h5, h6⟩
        exact ⟨h.1.1, h5, h1, h2, h.1.2, h.2.1, h6, h3, h4, h.2.2⟩
      · intro r
        exact ⟨r.p0, r.p1, r.a0, r.a1, r.q2, r.b2⟩
  · refine ⟨false, ?_, ?_⟩
    · rw [callN_eq (d := f_is_rule) rfl]
      refine run_keep rfl ?_
      have hl : callN Lib (n + 3) 61 [rul p q a b] S = .ok (.bl false) S := by
        rw [callN_eq (d := f_is_line) rfl]
        refine run_keep rfl ?_
        simp [b_is_line, rul, c_is_tuple_of, c_is_fraction p q hq, c_is_fraction a b hb]
        by_cases h1 : q < 1
        · simp [h1]
        · by_cases h2 : Int.gcd p q = 1
          · have h3 : ¬ (1 ≤ b ∧ Int.gcd a b = 1) := fun z => h ⟨⟨by omega, h2⟩, z⟩
            by_cases h4 : b < 1
            · simp [h1, h2, h4]
            · have h5 : ¬ Int.gcd a b = 1 := fun z => h3 ⟨by omega, z⟩
              simp [h1, h2, h4, h5]
          · simp [h1, h2]
      simp only [rul] at hl ⊢
      simp [b_is_rule, hl]
    · simp only [Bool.false_eq_true, false_iff]
      intro r
      exact h ⟨⟨r.q1, r.pq⟩, r.b1, r.ab⟩
theorem c_check_rule {p q a b : Int} (r : IsRule p q a b) : callN Lib (n + 5) 63 [rul p q a b] S = .ok .non S := by
  rw [callN_eq (d := f_check_rule) rfl]
  have h := r.q2; have h2 := r.p1; have h3 := r.b2; have h4 := r.a1; have h5 := r.p0; have h6 := r.a0; have h7 := r.q1
  obtain ⟨t, e, ht⟩ := c_is_rule (n := n) (S := S) p q a b (by omega) (by omega) (by omega) (by omega)
  rw [ht.mpr r] at e
  refine run_keep_nx (s' := [some (rul p q a b)]) rfl ?_
  simp [b_check_rule, e]
def tot (p q a b k : Int) : Int := (k * p * b + a * q) / (q * b)
theorem c_total_to {p q a b : Int} (r : IsRule p q a b) (k : Int) : callN Lib (n + 1) 64 [rul p q a b, .int k] S = .ok (.int (tot p q a b k)) S := by
  rw [callN_eq (d := f_total_to) rfl]
  refine run_keep rfl ?_
  have h := r.q2; have h2 := r.p1; have h3 := r.b2; have h4 := r.a1; have h5 := r.p0; have h6 := r.a0; have h7 := r.q1; have h8 := r.b1
  have m1 := fun (i : Int) (S : Store) => oMul_r (S := S) (i := i) (j := p) (by omega) (by omega)
  have m2 := fun (i : Int) (S : Store) => oMul_r (S := S) (i := i) (j := b) (by omega) (by omega)
  have m3 := fun (i : Int) (S : Store) => oMul_r (S := S) (i := i) (j := q) (by omega) (by omega)
  have b1 : 0 < q * b := Int.mul_pos (by omega) (by omega)
  have b2 : q * b ≤ 10000 * 10000 := Int.mul_le_mul h h3 (by omega) (by omega)
  have d1 := fun (i : Int) (S : Store) => oDiv_62 (S := S) (i := i) b1 (by omega)
  simp [b_total_to, rul, m1, m2, m3, d1]
  rfl
theorem c_form_of {p q a b : Int} (r : IsRule p q a b) : callN Lib (n + 1) 79 [rul p q a b] S = .ok (.tup [.int p, .int q, .int (q * a / b)]) S := by
  rw [callN_eq (d := f_form_of) rfl]
  refine run_keep rfl ?_
  have h := r.q2; have h2 := r.p1; have h3 := r.b2; have h4 := r.a1; have h5 := r.p0; have h6 := r.a0; have h7 := r.q1; have h8 := r.b1
  have m1 := fun (i : Int) (S : Store) => oMul_r (S := S) (i := i) (j := a) (by omega) (by omega)
  have d1 := fun (i : Int) (S : Store) => oDiv_62 (S := S) (i := i) (j := b) (by omega) (by omega)
  simp [b_form_of, rul, m1, d1]
theorem c_normal {p q a b : Int} (r : IsRule p q a b) : callN Lib (n + 6) 80 [rul p q a b] S = .ok (.tup [.int p, .int q, .int (q * a / b)]) S := by
  rw [callN_eq (d := f_normal) rfl]
  refine run_keep rfl ?_
  simp [b_normal, c_check_rule r, c_form_of r]
def dut (p q a b k : Int) : Bool := decide (tot p q a b k < tot p q a b (k + 1))
theorem c_has_duty {p q a b : Int} (r : IsRule p q a b) (k : Int) : callN Lib (n + 2) 83 [rul p q a b, .int k] S = .ok (.bl (dut p q a b k)) S := by
  rw [callN_eq (d := f_has_duty) rfl]
  refine run_keep rfl ?_
  simp [b_has_duty, c_total_to r]
  rfl
end
end Q
namespace Q
open PySem L2
structure Hand where
  cells : List Int
  pos : Int
  left : Int
  mix : Int
  cnt : Int
def Hand.d (h : Hand) : List D := [.lst (h.cells.map .int), .int h.pos, .int h.left, .int h.mix, .int h.cnt]
structure HandOk (h : Hand) : Prop where
  cells : ∀ c ∈ h.cells, 0 ≤ c
  pos : 0 ≤ h.pos
  left : 0 ≤ h.left
  mix : 0 ≤ h.mix
  cnt : 0 ≤ h.cnt
def Hd (k : Nat) (S : Store) : Prop := ∃ h : Hand, S.get k = some h.d ∧ HandOk h
def Upd (k : Nat) (S S' : Store) : Prop := ∃ xs, S' = S.put k xs
theorem Upd.refl {k : Nat} {S : Store} (h : Hd k S) : Upd k S S := h.elim fun h z => ⟨_, (put_self z.1).symm⟩
theorem Upd.trans {k : Nat} {S S1 S2 : Store} (a : Upd k S S1) (b : Upd k S1 S2) : Upd k S S2 := by
  obtain ⟨x, rfl⟩ := a
  obtain ⟨y, rfl⟩ := b
  exact ⟨y, put_put⟩
section
variable {S : Store} {k : Nat} {a b c d e v : D}
theorem hx0 (g : S.get k = some [a, b, c, d, e]) : oIx (.ptr k) (.int 0) S = some (a, S) := oIx_ptr (n := 0) g rfl
theorem hx1 (g : S.get k = some [a, b, c, d, e]) : oIx (.ptr k) (.int 1) S = some (b, S) := oIx_ptr (n := 1) g rfl
theorem hx2 (g : S.get k = some [a, b, c, d, e]) : oIx (.ptr k) (.int 2) S = some (c, S) := oIx_ptr (n := 2) g rfl
theorem hx3 (g : S.get k = some [a, b, c, d, e]) : oIx (.ptr k) (.int 3) S = some (d, S) := oIx_ptr (n := 3) g rfl
theorem hx4 (g : S.get k = some [a, b, c, d, e]) : oIx (.ptr k) (.int 4) S = some (e, S) := oIx_ptr (n := 4) g rfl
theorem hs1 {x : Int} (g : S.get k = some [a, b, c, d, e]) : setL (.ptr k) (.int 1) (.int x) S = some (S.put k [a, .int x, c, d, e]) := setL_ptr (n := 1) g (by simp) rfl
theorem hs2 {x : Int} (g : S.get k = some [a, b, c, d, e]) : setL (.ptr k) (.int 2) (.int x) S = some (S.put k [a, b, .int x, d, e]) := setL_ptr (n := 2) g (by simp) rfl
theorem hs3 {x : Int} (g : S.get k = some [a, b, c, d, e]) : setL (.ptr k) (.int 3) (.int x) S = some (S.put k [a, b, c, .int x, e]) := setL_ptr (n := 3) g (by simp) rfl
theorem hs4 {x : Int} (g : S.get k = some [a, b, c, d, e]) : setL (.ptr k) (.int 4) (.int x) S = some (S.put k [a, b, c, d, .int x]) := setL_ptr (n := 4) g (by simp) rfl
@[simp] theorem flat_int (i : Int) : (D.int i).flat = true := rfl
@[simp] theorem flat_bl (i : Bool) : (D.bl i).flat = true := rfl
@[simp] theorem flat_str (i : Str) : (D.str i).flat = true := rfl
@[simp] theorem flat_non : D.non.flat = true := rfl
@[simp] theorem flat_lst (xs : List D) : (D.lst xs).flat = flats xs := rfl
@[simp] theorem flat_tup (xs : List D) : (D.tup xs).flat = flats xs := rfl
@[simp] theorem flats_nil : flats [] = true := rfl
@[simp] theorem flats_cons (d : D) (ds : List D) : flats (d :: ds) = (d.flat && flats ds) := rfl
theorem flats_ints (ns : List Int) : flats (ns.map .int) = true := by
  induction ns with
  | nil => rfl
  | cons i ns ih => simp [ih]
end
theorem c_draw {n k : Nat} {S : Store} (H : Hd k S) (m : Int) (hm : 0 < m) (hm2 : m < 4611686018427387904) :
    ∃ r S', callN Lib (n + 1) 217 [.ptr k, .int m] S = .ok (.int r) S' ∧ Hd k S' ∧ Upd k S S' ∧ 0 ≤ r ∧ r < m := by
  obtain ⟨⟨cells, pos, left, mix, cnt⟩, g, ok⟩ := H
  obtain ⟨o1, o2, o3, o4, o5⟩ := ok
  simp only at o1 o2 o3 o4 o5
  simp only [Hand.d] at g
  obtain ⟨pn, rfl⟩ := Int.eq_ofNat_of_zero_le o2
  have ml : ∀ (x j : Int) (S : Store), oMulL (.int (x % 2147483647)) (.int j) S = some (.int (x % 2147483647 * j), S) := fun x j S => by
    have h1 := Int.emod_nonneg x (show (2147483647 : Int) ≠ 0 by decide)
    have h2 := Int.emod_lt_of_pos x (show (0 : Int) < 2147483647 by decide)
    exact oMul_l (by omega) (by omega)
  have m1 := fun (i : Int) (S : Store) => oMul_r (S := S) (i := i) (j := 69621) (by decide) (by decide)
  have m2 := fun (i : Int) (S : Store) => oMul_r (S := S) (i := i) (j := 40692) (by decide) (by decide)
  have m3 := fun (i : Int) (S : Store) => oMul_r (S := S) (i := i) (j := 48271) (by decide) (by decide)
  have m4 := fun (i : Int) (S : Store) => oMul_l (S := S) (i := 7919) (j := i) (by decide) (by decide)
  have r1 := fun (i : Int) (S : Store) => oMod_pos (S := S) (i := i) (j := 2147483629) (by decide)
  have r2 := fun (i : Int) (S : Store) => oMod_pos (S := S) (i := i) (j := 2147483647) (by decide)
  have r3 := fun (i : Int) (S : Store) => oMod_pos (S := S) (i := i) (j := 2147483563) (by decide)
  have d1 := fun (i : Int) (S : Store) => oDiv_small (S := S) (i := i) (j := 1009) (by decide) (by decide)
  have d2 := fun (i : Int) (S : Store) => oDiv_small (S := S) (i := i) (j := 2003) (by decide) (by decide)
  have d3 := fun (i : Int) (S : Store) => oDiv_small (S := S) (i := i) (j := 16) (by decide) (by decide)
  have rm := fun (i : Int) (S : Store) => oMod_pos (S := S) (i := i) (j := m) hm
  have dm := fun (i : Int) (S : Store) => oDiv_62 (S := S) (i := i) (j := m) hm hm2
  have gp : ∀ (a b c d e : D), (S.put k [a, b, c, d, e]).get k = some [a, b, c, d, e] := fun a b c d e => get_put_self g
  have p18 : (10 : Int) ^ 18 = 1000000000000000000 := by decide
  have pw : oPow (.int 10) (.int 18) = fun S => some (.int 1000000000000000000, S) := by
    funext S
    exact (oPow_10 (n := 18)).trans (by simp)
  have nn : ∀ x : Int, 0 ≤ x % 2147483629 := fun x => Int.emod_nonneg x (by decide)
  have rr : ∀ x : Int, 0 ≤ x % m ∧ x % m < m := fun x => ⟨Int.emod_nonneg x (by omega), Int.emod_lt_of_pos x hm⟩
  -- the two ends
  have main : ∃ r cells' pos' left' mix' cnt', callN Lib (n + 1) 217 [.ptr k, .int m] S = .ok (.int r) (S.put k [.lst (cells.map .int), .int pos', .int left', .int mix', .int cnt']) ∧ cells' = cells ∧ 0 ≤ pos' ∧ 0 ≤ left' ∧ 0 ≤ mix' ∧ 0 ≤ cnt' ∧ 0 ≤ r ∧ r < m := by
    rw [callN_eq (d := f_law_draw_v3) rfl]
    by_cases c1 : left = 0 ∧ pn < cells.length
    · obtain ⟨c1, c2⟩ := c1
      subst c1
      have hc : (cells.map D.int)[pn]? = some (.int cells[pn]) := by simp [c2]
      have ic := fun S => oIx_lst (S := S) hc
      have c3 : (pn : Int) < (cells.length : Int) := by omega
      have hc0 : 0 ≤ cells[pn] := o1 _ (List.getElem_mem c2)
      by_cases c4 : 1000000000000000000 ≤ cells[pn]
      · have c5 : 0 < cells[pn] := by omega
        refine ⟨_, _, _, _, _, _, run_keep rfl (by simp [b_law_draw_v3, hx0 g, hx1 g, hx2 g, hx3 g, hx4 g, hs1 g, hx0 (gp _ _ _ _ _), hx1 (gp _ _ _ _ _), hx2 (gp _ _ _ _ _), hx3 (gp _ _ _ _ _), hx4 (gp _ _ _ _ _), hs1 (gp _ _ _ _ _), hs2 (gp _ _ _ _ _), hs3 (gp _ _ _ _ _), hs4 (gp _ _ _ _ _), ml, m1, m2, m3, m4, r1, r2, r3, d1, d2, d3, rm, dm, pw, ic, c2, c4, c5]; exact ⟨rfl, rfl⟩), rfl, ?_, ?_, ?_, ?_, (rr _).1, (rr _).2⟩
        · omega
        · exact Int.ediv_nonneg hc0 (by omega)
        · exact nn _
        · exact o5
      · refine ⟨_, _, _, _, _, _, run_keep rfl (by simp [b_law_draw_v3, hx0 g, hx1 g, hx2 g, hx3 g, hx4 g, hs1 g, hx0 (gp _ _ _ _ _), hx1 (gp _ _ _ _ _), hx2 (gp _ _ _ _ _), hx3 (gp _ _ _ _ _), hx4 (gp _ _ _ _ _), hs1 (gp _ _ _ _ _), hs2 (gp _ _ _ _ _), hs3 (gp _ _ _ _ _), hs4 (gp _ _ _ _ _), ml, m1, m2, m3, m4, r1, r2, r3, d1, d2, d3, rm, dm, pw, ic, c2, c4]; exact ⟨rfl, rfl⟩), rfl, ?_, ?_, ?_, ?_, (rr _).1, (rr _).2⟩
        · omega
        · exact Int.le_refl 0
        · exact nn _
        · omega
    · by_cases c2 : left = 0
      · subst c2
        have c3 : ¬ pn < cells.length := fun z => c1 ⟨rfl, z⟩
        refine ⟨_, _, _, _, _, _, run_keep rfl (by simp [b_law_draw_v3, hx0 g, hx1 g, hx2 g, hx3 g, hx4 g, hs1 g, hs2 g, hs3 g, hs4 g, hx0 (gp _ _ _ _ _), hx1 (gp _ _ _ _ _), hx2 (gp _ _ _ _ _), hx3 (gp _ _ _ _ _), hx4 (gp _ _ _ _ _), ml, m1, m2, m3, m4, r1, r2, r3, d1, d2, d3, rm, dm, pw, c3]; exact ⟨rfl, rfl⟩), rfl, ?_, ?_, ?_, ?_, (rr _).1, (rr _).2⟩
        · exact o2
        · exact Int.le_refl 0
        · exact o4
        · omega
      · have c3 : 0 < left := by omega
        refine ⟨_, _, _, _, _, _, run_keep rfl (by simp [b_law_draw_v3, hx0 g, hx1 g, hx2 g, hx3 g, hx4 g, hs1 g, hs2 g, hs3 g, hs4 g, ml, m1, m2, m3, m4, r1, r2, r3, d1, d2, d3, rm, dm, pw, c2, c3]; exact ⟨rfl, rfl⟩), rfl, ?_, ?_, ?_, ?_, (rr _).1, (rr _).2⟩
        · exact o2
        · exact Int.ediv_nonneg o3 (by omega)
        · exact o4
        · exact o5
  obtain ⟨r, cells', pos', left', mix', cnt', e, h1, h2, h3, h4, h5, h6, h7⟩ := main
  exact ⟨r, _, e, ⟨⟨cells, pos', left', mix', cnt'⟩, get_put_self g, ⟨o1, h2, h3, h4, h5⟩⟩, ⟨_, rfl⟩, h6, h7⟩
theorem c_any {n k : Nat} {S : Store} (H : Hd k S) (ds : List D) (h0 : 0 < ds.length) (h1 : (ds.length : Int) < 4611686018427387904) :
    ∃ d S', callN Lib (n + 2) 218 [.ptr k, .lst ds] S = .ok d S' ∧ Hd k S' ∧ Upd k S S' ∧ d ∈ ds := by
  obtain ⟨r, S', e, H', U, r0, r1⟩ := c_draw (n := n) H (ds.length : Int) (by omega) h1
  obtain ⟨rn, rfl⟩ := Int.eq_ofNat_of_zero_le r0
  have hr : rn < ds.length := by omega
  have hx : ds[rn]? = some ds[rn] := by simp [hr]
  refine ⟨ds[rn], S', ?_, H', U, List.getElem_mem hr⟩
  rw [callN_eq (d := f_law_any_v2) rfl]
  refine run_keep rfl ?_
  simp [b_law_any_v2, e, oIx_lst hx]
theorem mapNat (f : Int → D) (ns : List Int) : (ns.map D.int).map (fun d => match d with | .int i => f i | d => d) = ns.map f := by
  rw [List.map_map]
  rfl
theorem c_hand {n : Nat} {S : Store} (ns : List Int) : ∃ h : Hand, callN Lib (n + 1) 216 [.src ns] S = .ok (.ptr S.L.length) (S.new h.d) ∧ HandOk h := by
  have hl : (cutD ns none (some 63)).length ≤ 63 := by
    have e : (some (63 : Int)) = some ((63 : Nat) : Int) := rfl
    unfold cutD
    rw [e, HT.sIx_nat, HT.sIx_none, List.length_take]
    omega
  have lc : ∀ (t x : TE) (s : Sl), (∀ d ∈ (cutD ns none (some 63)).map D.int, t (s.set 2 (some d)) S = .ok (.bl true) S ∧ x (s.set 2 (some d)) S = .ok ((fun d => match d with | .int i => .int (if i < 0 then -i else i) | d => d) d) S) →
      lcL (.nm 2) t x s ((cutD ns none (some 63)).map D.int) [] S = .ok (.lst (((cutD ns none (some 63)).map fun i => if i < 0 then -i else i).map D.int)) S := fun t x s h => by
    rw [lc_map _ _ _ h (by simp; exact Nat.le_trans hl (by rw [PySem.sizeLine_eq]; decide)), mapNat, List.map_map]
    rfl
  obtain ⟨L, hL⟩ : ∃ L, L = (cutD ns none (some 63)).map fun i => if i < 0 then -i else i := ⟨_, rfl⟩
  rw [← hL] at lc
  have hL2 : L.length ≤ 63 := by rw [hL, List.length_map]; exact hl
  have main : ∃ mix : Int, callN Lib (n + 1) 216 [.src ns] S = .ok (.ptr S.L.length) (S.new [.lst (L.map D.int), .int 0, .int 0, .int mix, .int 0]) ∧ 0 ≤ mix := by
    refine ⟨?mix, ?e, ?h⟩
    case e =>
      rw [callN_eq (d := f_law_hand_v7) rfl]
      refine run_keep rfl ?_
      simp only [b_law_hand_v7, tSeq_eq, tSet_eq, eLc_eq, sSeq, eCutU, ePart]
      simp [oCut, partK]
      rw [lc]
      · simp [oMul_r (j := L.length) (by omega) (by omega), flats_ints]
        rfl
      · intro d hd
        obtain ⟨i, _, rfl⟩ := List.mem_map.mp hd
        simp
    case h => omega
  obtain ⟨mix, e, hm⟩ := main
  refine ⟨⟨L, 0, 0, mix, 0⟩, e, ⟨fun c hc => ?_, Int.le_refl 0, Int.le_refl 0, hm, Int.le_refl 0⟩⟩
  rw [hL] at hc
  obtain ⟨i, _, rfl⟩ := List.mem_map.mp hc
  split <;> omega
end Q
namespace Q
open PySem L2
def sgn (b : Bool) : Str := if b then "1" else "0"
def bit (b : Bool) : Nat := if b then 49 else 48
def wrd (l : List Bool) : Str := ⟨(l.map bit).toArray⟩
theorem sgn_wrd (b : Bool) : sgn b = ⟨#[bit b]⟩ := by cases b <;> decide +kernel
theorem join_sgn : ∀ l : List Bool, Txt.join ("" : Str) (l.map sgn) = wrd l := fun l => by
  show Builtin.Str.glued _ _ = _
  rw [StrLaws.glued_eq_join]
  have e0 : ("" : Str) = ⟨#[]⟩ := by decide +kernel
  have ap : ∀ a b : Str, a ++ b = ⟨a.cps ++ b.cps⟩ := fun _ _ => rfl
  induction l with
  | nil => rfl
  | cons b l ih =>
    cases l with
    | nil => rw [List.map_cons, List.map_nil]; show sgn b = _; rw [sgn_wrd]; rfl
    | cons c l =>
      rw [List.map_cons, List.map_cons] at *
      show sgn b ++ ("" : Str) ++ Str.join ("" : Str) (sgn c :: l.map sgn) = _
      rw [ih, sgn_wrd, e0, ap, ap]
      simp [wrd]
theorem strs_map (l : List Bool) : strsOf (l.map fun b => D.str (sgn b)) = some (l.map sgn) := by
  induction l with
  | nil => rfl
  | cons b l ih => rw [List.map_cons, List.map_cons]; simp [strsOf, ih]
theorem sgn_len (b : Bool) : (sgn b).length = 1 := by cases b <;> decide +kernel
theorem sgns_sum (l : List Bool) : ((l.map sgn).map (·.length)).sum = l.length := by
  induction l with
  | nil => rfl
  | cons b l ih => simp [sgn_len] at *; omega
theorem oJoin_sgn {S : Store} {l : List Bool} (h : l.length ≤ 16777216) : oJoin [.str ("" : Str), .lst (l.map fun b => D.str (sgn b))] S = some (.str (wrd l), S) := by
  have e : ("" : Str).length = 0 := by decide +kernel
  unfold oJoin
  simp only [strs_map, sgns_sum, List.length_map, e]
  rw [if_pos (by omega), join_sgn]
theorem wrd_inj {l m : List Bool} (h : wrd l = wrd m) : l = m := by
  have e : (l.map bit).toArray = (m.map bit).toArray := congrArg Str.cps h
  have e2 : l.map bit = m.map bit := by simpa using congrArg Array.toList e
  clear h e
  induction l generalizing m with
  | nil => cases m with
    | nil => rfl
    | cons b m => cases e2
  | cons a l ih => cases m with
    | nil => cases e2
    | cons b m =>
      rw [List.map_cons, List.map_cons] at e2
      injection e2 with h1 h2
      rw [ih h2]
      cases a <;> cases b <;> first | rfl | cases h1
theorem wrd_len (l : List Bool) : (wrd l).length = l.length := by simp [wrd, Str.length]
def days (p q a b first : Int) (m : Nat) : List Bool := (List.range m).map fun (i : Nat) => dut p q a b (first + i)
theorem days_len (p q a b first : Int) (m : Nat) : (days p q a b first m).length = m := by simp [days]
section
variable {n : Nat} {S : Store}
theorem rngL_len (lo : Int) (m : Nat) : (rngL lo m).length = m := by simp [rngL]
theorem rngL_mem {lo : Int} {m : Nat} {d : D} (h : d ∈ rngL lo m) : ∃ i : Nat, i < m ∧ d = .int (lo + i) := by
  unfold rngL at h
  obtain ⟨i, hi, rfl⟩ := List.mem_map.mp h
  exact ⟨i, List.mem_range.mp hi, rfl⟩
theorem lc_rng {i : Nat} {t e : TE} {s : Sl} {S : Store} {m : Nat} (f : Nat → D) (h : ∀ j : Nat, j < m → t (s.set i (some (.int j))) S = .ok (.bl true) S ∧ e (s.set i (some (.int j))) S = .ok (f j) S) (hm : m ≤ 16777216) :
    lcL (.nm i) t e s (rngL 0 m) [] S = .ok (.lst ((List.range m).map f)) S := by
  rw [lc_map (fun d => match d with | .int j => f j.toNat | d => d)]
  · unfold rngL
    rw [List.map_map, List.nil_append]
    congr 2
    refine List.map_congr_left fun j _ => ?_
    simp
  · intro d hd
    obtain ⟨j, hj, rfl⟩ := rngL_mem hd
    have := h j hj
    simpa using this
  · rw [rngL_len, PySem.sizeLine_eq]
    simpa using hm
theorem iRng1_nat {m : Nat} (h : m < 4611686018427387904) : iRng1 [.int m] = some (rngL 0 m) := by
  have : rngOk (m : Int) = true := by
    unfold rngOk
    simp only [Bool.and_eq_true, decide_eq_true_eq]
    omega
  simp [iRng1, this]
theorem b_row_of_ok (c : CallT) {p q a b : Int} (first : Int) (m : Nat) (hm : m < 16777216) (hc : ∀ k, c 64 [rul p q a b, .int k] S = .ok (.int (tot p q a b k)) S) : b_row_of c [some (rul p q a b), some (.int first), some (.int m), none, none] S = some (.ret (.str (wrd (days p q a b first m))), S) := by
  have r1 : iRng1 [.int ((m : Int) + 1)] = some (rngL 0 (m + 1)) := iRng1_nat (m := m + 1) (by omega)
  have r2 := iRng1_nat (m := m) (by omega)
  have l1 : ∀ s : Sl, s[0]? = some (some (rul p q a b)) → s[1]? = some (some (.int first)) → 4 < s.length → lcL (.nm 4) (eC (.bl true)) (eCall c 64 [eV 0, e2 oAdd (eV 1) (eV 4)]) s (rngL 0 (m + 1)) [] S = .ok (.lst ((List.range (m + 1)).map fun (i : Nat) => .int (tot p q a b (first + i)))) S := fun s h0 h1 h4 =>
    lc_rng _ (fun j hj => ⟨rfl, by simp [h0, h1, h4, hc]⟩) (by omega)
  have l2 : ∀ s : Sl, s[3]? = some (some (.lst ((List.range (m + 1)).map fun (i : Nat) => .int (tot p q a b (first + i))))) → 4 < s.length → lcL (.nm 4) (eC (.bl true)) (eIf (e2 oGt (e2 oIx (eV 3) (e2 oAdd (eV 4) (eC (.int 1)))) (e2 oIx (eV 3) (eV 4))) (eC (.str "1")) (eC (.str "0"))) s (rngL 0 m) [] S = .ok (.lst ((days p q a b first m).map fun b => .str (sgn b))) S := fun s h3 h4 => by
    rw [lc_rng (fun j => .str (sgn (dut p q a b (first + j)))) (fun j hj => ⟨rfl, ?_⟩) (by omega)]
    · unfold days
      rw [List.map_map]
      rfl
    · have i1 : ((List.range (m + 1)).map fun (i : Nat) => D.int (tot p q a b (first + i)))[j + 1]? = some (.int (tot p q a b (first + (j + 1)))) := by
        rw [List.getElem?_map, List.getElem?_range (by omega)]
        simp
      have i2 : ((List.range (m + 1)).map fun (i : Nat) => D.int (tot p q a b (first + i)))[j]? = some (.int (tot p q a b (first + j))) := by
        rw [List.getElem?_map, List.getElem?_range (by omega)]
        simp
      have j1 : ∀ S, oIx (.lst ((List.range (m + 1)).map fun (i : Nat) => D.int (tot p q a b (first + i)))) (.int ((j : Int) + 1)) S = some (.int (tot p q a b (first + (j + 1))), S) := fun S => oIx_lst (n := j + 1) i1
      have j2 := fun S => oIx_lst (S := S) i2
      generalize ((List.range (m + 1)).map fun (i : Nat) => D.int (tot p q a b (first + i))) = l at h3 j1 j2
      unfold dut
      rw [← Int.add_assoc] at j1
      by_cases h : tot p q a b (first + j) < tot p q a b (first + j + 1)
      · simp [h3, h4, j1, j2, h, sgn]
      · simp [h3, h4, j1, j2, h, sgn]
  have jn := oJoin_sgn (S := S) (l := days p q a b first m) (by rw [days_len]; omega)
  simp only [b_row_of, tSeq_eq, tSet_eq, eLc_eq, sN_eq]
  simp [r1, r2, l1, l2, isStrD, jn]
theorem c_row_of {p q a b : Int} (r : IsRule p q a b) (first : Int) (m : Nat) (hm : m < 16777216) : callN Lib (n + 2) 65 [rul p q a b, .int first, .int m] S = .ok (.str (wrd (days p q a b first m))) S := by
  rw [callN_eq (d := f_row_of) rfl]
  exact run_keep rfl (b_row_of_ok (callN Lib (n + 1)) first m hm fun k => c_total_to r k)
theorem b_made_ok (c : CallT) (rr z : D) (first mm : Int) (w0 : c 63 [rr] S = .ok .non S) (w1 : c 2 [.int first, .int 0, .int 1000000000000] S = .ok (.bl true) S)  (w2 : c 2 [.int mm, .int 1, .int 500] S = .ok (.bl true) S) (w3 : c 65 [rr, .int first, .int mm] S = .ok z S) : b_made c [some rr, some (.int first), some (.int mm)] S = some (.ret z, S) := by
  simp [b_made, w0, w1, w2, w3]
theorem c_made {p q a b : Int} (r : IsRule p q a b) (first : Int) (m : Nat) (h0 : 0 ≤ first) (h1 : first ≤ 1000000000000) (hm : 1 ≤ m) (hm2 : m ≤ 500) : callN Lib (n + 6) 66 [rul p q a b, .int first, .int m] S = .ok (.str (wrd (days p q a b first m))) S := by
  rw [callN_eq (d := f_made) rfl]
  have w1 : callN Lib (n + 5) 2 [.int first, .int 0, .int 1000000000000] S = .ok (.bl true) S := by
    rw [c_is_within, decide_eq_true ⟨h0, h1⟩]
  have w2 : callN Lib (n + 5) 2 [.int m, .int 1, .int 500] S = .ok (.bl true) S := by
    rw [c_is_within, decide_eq_true ⟨by omega, by omega⟩]
  have w3 := c_row_of (n := n + 3) (S := S) r first m (by omega)
  exact run_keep rfl (b_made_ok (callN Lib (n + 5)) (rul p q a b) _ first m (c_check_rule r) w1 w2 w3)
theorem c_frac (x y : Int) (hy : 0 < y) (hy2 : y < 1000000000) : callN Lib (n + 2) 6 [.int x, .int y] S = .ok (.tup [.int (x / (Int.gcd x y : Nat)), .int (y / (Int.gcd x y : Nat))]) S := by
  rw [callN_eq (d := f_frac) rfl]
  refine run_keep rfl ?_
  have g1 : 0 < Int.gcd x y := Int.gcd_pos_of_ne_zero_right _ (by omega)
  have g2 : (Int.gcd x y : Int) ≤ y := Int.le_of_dvd hy (Int.gcd_dvd_right ..)
  have d := fun (i : Int) (S : Store) => oDiv_62 (S := S) (i := i) (j := (Int.gcd x y : Nat)) (by omega) (by omega)
  have h : ¬ y < 0 := by omega
  simp [b_frac, c_common x y (by omega), h, d]
end
end Q
namespace Q
def kk (q a b : Int) : Int := q * a / b
theorem tot_kk {p q a b : Int} (r : IsRule p q a b) (n : Int) : tot p q a b n = (n * p + kk q a b) / q := by
  unfold tot kk
  have hq := r.q1
  have hb := r.b1
  rw [Int.mul_comm q b, ← Int.ediv_ediv_of_nonneg (by omega : (0 : Int) ≤ b)]
  congr 1
  rw [Int.mul_comm a q, Int.add_comm, Int.add_mul_ediv_right _ _ (by omega : b ≠ 0), Int.add_comm]
theorem kk_nn {p q a b : Int} (r : IsRule p q a b) : 0 ≤ kk q a b := by
  unfold kk
  have hq := r.q1
  have hb := r.b1
  have ha := r.a0
  exact Int.ediv_nonneg (Int.mul_nonneg (by omega) ha) (by omega)
theorem kk_lt {p q a b : Int} (r : IsRule p q a b) : kk q a b < q := by
  unfold kk
  have hq := r.q1
  have hb := r.b1
  have ha := r.a1
  exact Int.ediv_lt_of_lt_mul (by omega) (Int.mul_lt_mul_of_pos_left ha (by omega))
def tf (p q k n : Int) : Int := (n * p + k) / q
structure IsForm (p q k : Int) : Prop where
  q1 : 1 ≤ q
  p0 : 0 ≤ p
  p1 : p ≤ q
  pq : Int.gcd p q = 1
  k0 : 0 ≤ k
  k1 : k < q
theorem IsRule.form {p q a b : Int} (r : IsRule p q a b) : IsForm p q (kk q a b) := ⟨r.q1, r.p0, r.p1, r.pq, kk_nn r, kk_lt r⟩
section
variable {p q k p1 q1 k1 p2 q2 k2 : Int}
theorem tf_zero (r : IsForm p q k) : tf p q k 0 = 0 := by
  unfold tf
  rw [Int.zero_mul, Int.zero_add]
  exact Int.ediv_eq_zero_of_lt r.k0 r.k1
theorem tf_turn (r : IsForm p q k) (n : Int) : tf p q k (n + q) = tf p q k n + p := by
  unfold tf
  have hq := r.q1
  rw [show (n + q) * p + k = n * p + k + p * q by rw [Int.add_mul, Int.mul_comm q p]; omega]
  exact Int.add_mul_ediv_right _ _ (by omega)
theorem tf_step (r : IsForm p q k) (n : Int) : tf p q k n ≤ tf p q k (n + 1) ∧ tf p q k (n + 1) ≤ tf p q k n + 1 := by
  have hq := r.q1
  have hp := r.p0
  have hp1 := r.p1
  unfold tf
  constructor
  · refine Int.ediv_le_ediv (by omega) ?_
    rw [Int.add_mul]; omega
  · have h : (n * p + k + 1 * q) / q = (n * p + k) / q + 1 := Int.add_mul_ediv_right _ _ (by omega)
    rw [← h]
    refine Int.ediv_le_ediv (by omega) ?_
    rw [Int.add_mul]; omega
def df (p q k n : Int) : Bool := decide (tf p q k n < tf p q k (n + 1))
theorem dut_df {p q a b : Int} (r : IsRule p q a b) (n : Int) : dut p q a b n = df p q (kk q a b) n := by
  unfold dut df tf
  rw [tot_kk r, tot_kk r]
theorem tf_of_df (r1 : IsForm p1 q1 k1) (r2 : IsForm p2 q2 k2) (m : Nat) (h : ∀ n : Nat, n < m → df p1 q1 k1 n = df p2 q2 k2 n) : ∀ n : Nat, n ≤ m → tf p1 q1 k1 n = tf p2 q2 k2 n
  | 0, _ => by rw [show ((0 : Nat) : Int) = 0 from rfl, tf_zero r1, tf_zero r2]
  | n + 1, hn => by
    have ih := tf_of_df r1 r2 m h n (by omega)
    have e := h n (by omega)
    have s1 := tf_step r1 n
    have s2 := tf_step r2 n
    unfold df at e
    rw [show ((n + 1 : Nat) : Int) = (n : Int) + 1 from rfl]
    by_cases c : tf p1 q1 k1 n < tf p1 q1 k1 (n + 1)
    · rw [decide_eq_true c] at e
      have c2 := of_decide_eq_true e.symm
      omega
    · rw [decide_eq_false c] at e
      have c2 := of_decide_eq_false e.symm
      omega
def sm (f : Nat → Int) : Nat → Int
  | 0 => 0
  | n + 1 => sm f n + f n
theorem sm_add (f : Nat → Int) (a : Nat) : ∀ b, sm f (a + b) = sm f a + sm (fun j => f (a + j)) b
  | 0 => by simp [sm]
  | b + 1 => by
    rw [← Nat.add_assoc]
    simp only [sm]
    rw [sm_add f a b]; omega
theorem sm_congr {f g : Nat → Int} : ∀ n, (∀ j, j < n → f j = g j) → sm f n = sm g n
  | 0, _ => rfl
  | n + 1, h => by
    simp only [sm]
    rw [sm_congr n (fun j hj => h j (by omega)), h n (by omega)]
theorem sm_cadd (f : Nat → Int) (c : Int) : ∀ n : Nat, sm (fun j => f j + c) n = sm f n + n * c
  | 0 => by simp [sm]
  | n + 1 => by
    simp only [sm]
    rw [sm_cadd f c n, show ((n + 1 : Nat) : Int) = (n : Int) + 1 from rfl, Int.add_mul]; omega
theorem bez : ∀ a b : Nat, ∃ x y : Int, x * a + y * b = Nat.gcd a b := by
  intro a b
  induction a, b using Nat.gcd.induction with
  | H0 n => exact ⟨0, 1, by simp⟩
  | H1 m n hm ih =>
    obtain ⟨x, y, e⟩ := ih
    refine ⟨y - x * (n / m : Nat), x, ?_⟩
    rw [Nat.gcd_rec, ← e]
    have h : ((n % m : Nat) : Int) = n - m * (n / m : Nat) := by
      have := Nat.div_add_mod n m
      have h2 : ((m * (n / m) + n % m : Nat) : Int) = (n : Int) := by rw [this]
      rw [Int.natCast_add, Int.natCast_mul] at h2
      omega
    rw [h, Int.sub_mul, Int.mul_sub, Int.mul_assoc x, Int.mul_comm ((n / m : Nat) : Int) m]; omega
theorem hits (hp : 0 ≤ p) (hq : 1 ≤ q) (pq : Int.gcd p q = 1) (k : Int) : ∃ n : Nat, (n : Int) < q ∧ ∃ m : Int, n * p + k = m * q := by
  obtain ⟨x, y, e⟩ := bez p.toNat q.toNat
  have e1 : (p.toNat : Int) = p := by omega
  have e2 : (q.toNat : Int) = q := by omega
  have e3 : Nat.gcd p.toNat q.toNat = 1 := by
    have : Int.gcd (p.toNat : Int) (q.toNat : Int) = 1 := by rw [e1, e2]; exact pq
    exact this
  rw [e1, e2, e3] at e
  have n0 := Int.emod_nonneg (-k * x) (show q ≠ 0 by omega)
  have n1 := Int.emod_lt_of_pos (-k * x) (show 0 < q by omega)
  refine ⟨((-k * x) % q).toNat, by omega, -((-k * x) / q) * p + k * y, ?_⟩
  have e4 : ((((-k * x) % q).toNat : Nat) : Int) = (-k * x) % q := by omega
  have e5 : (-k * x) % q = -k * x - q * ((-k * x) / q) := by
    have := Int.mul_ediv_add_emod (-k * x) q
    omega
  rw [e4, e5]
  generalize (-k * x) / q = z
  have e6 : k * (x * p) + k * (y * q) = k := by rw [← Int.mul_add, e]; simp
  rw [Int.sub_mul, Int.neg_mul, Int.neg_mul, Int.mul_assoc, Int.add_mul, Int.neg_mul, Int.neg_mul, Int.mul_assoc k y, Int.mul_assoc q, Int.mul_assoc z, Int.mul_comm p q, Int.mul_left_comm z]
  omega
theorem kk_of (r1 : IsForm p q k1) (r2 : IsForm p q k2) (h : ∀ n : Nat, (n : Int) < q → tf p q k1 n = tf p q k2 n) : ¬ k1 < k2 := fun hlt => by
  have hq := r1.q1
  obtain ⟨n, hn, m, e⟩ := hits r1.p0 r1.q1 r1.pq k2
  have := h n hn
  unfold tf at this
  rw [e, Int.mul_ediv_cancel _ (by omega)] at this
  have h2 : n * p + k1 < m * q := by omega
  have h3 := Int.ediv_lt_of_lt_mul (by omega) h2
  omega
theorem form_one (r1 : IsForm p1 q1 k1) (r2 : IsForm p2 q2 k2) (h : ∀ n : Nat, (n : Int) < q1 + q2 → df p1 q1 k1 n = df p2 q2 k2 n) : p1 = p2 ∧ q1 = q2 ∧ k1 = k2 := by
  have h1 := r1.q1; have h2 := r2.q1
  obtain ⟨a, rfl⟩ := Int.eq_ofNat_of_zero_le (show 0 ≤ q1 by omega)
  obtain ⟨b, rfl⟩ := Int.eq_ofNat_of_zero_le (show 0 ≤ q2 by omega)
  have t := tf_of_df r1 r2 (a + b) (fun n hn => h n (by omega))
  -- the sums
  have s1 : sm (fun n => tf p1 a k1 n) (a + b) = sm (fun n => tf p1 a k1 n) a + (sm (fun n => tf p1 a k1 n) b + b * p1) := by
    rw [sm_add, ← sm_cadd]
    congr 1
    refine sm_congr _ fun j _ => ?_
    rw [← tf_turn r1, Int.natCast_add, Int.add_comm]
  have s2 : sm (fun n => tf p2 b k2 n) (b + a) = sm (fun n => tf p2 b k2 n) b + (sm (fun n => tf p2 b k2 n) a + a * p2) := by
    rw [sm_add, ← sm_cadd]
    congr 1
    refine sm_congr _ fun j _ => ?_
    rw [← tf_turn r2, Int.natCast_add, Int.add_comm]
  rw [sm_congr (f := fun n => tf p2 b k2 n) (g := fun n => tf p1 a k1 n) (b + a) (fun j hj => (t j (by omega)).symm), sm_congr (f := fun n => tf p2 b k2 n) (g := fun n => tf p1 a k1 n) b (fun j hj => (t j (by omega)).symm), sm_congr (f := fun n => tf p2 b k2 n) (g := fun n => tf p1 a k1 n) a (fun j hj => (t j (by omega)).symm), Nat.add_comm b a] at s2
  have key : (b : Int) * p1 = a * p2 := by omega
  obtain ⟨c, rfl⟩ := Int.eq_ofNat_of_zero_le r1.p0
  obtain ⟨d, rfl⟩ := Int.eq_ofNat_of_zero_le r2.p0
  have keyN : b * c = a * d := by
    have : ((b * c : Nat) : Int) = ((a * d : Nat) : Int) := by rw [Int.natCast_mul, Int.natCast_mul]; exact key
    exact Int.ofNat.inj this
  have g1 : Nat.Coprime c a := r1.pq
  have g2 : Nat.Coprime d b := r2.pq
  have ab : a = b := Nat.dvd_antisymm (g1.symm.dvd_of_dvd_mul_right ⟨d, keyN⟩) (g2.symm.dvd_of_dvd_mul_right ⟨c, keyN.symm⟩)
  subst ab
  have cd : c = d := Nat.eq_of_mul_eq_mul_left (by omega) keyN
  subst cd
  refine ⟨rfl, rfl, ?_⟩
  have t2 : ∀ n : Nat, (n : Int) < a → tf c a k1 n = tf c a k2 n := fun n hn => t n (by omega)
  have u1 := kk_of r1 r2 t2
  have u2 := kk_of r2 r1 (fun n hn => (t2 n hn).symm)
  omega
end
def lo (x y : Int) : Int × Int := (x / (Int.gcd x y : Nat), y / (Int.gcd x y : Nat))
section
variable {x y : Int}
theorem lo_g (hy : 0 < y) : 0 < (Int.gcd x y : Int) ∧ (Int.gcd x y : Int) ≤ y := by
  have g1 : 0 < Int.gcd x y := Int.gcd_pos_of_ne_zero_right _ (by omega)
  have g2 : (Int.gcd x y : Int) ≤ y := Int.le_of_dvd hy (Int.gcd_dvd_right ..)
  omega
theorem lo_x : (lo x y).1 * (Int.gcd x y : Nat) = x := Int.ediv_mul_cancel (Int.gcd_dvd_left ..)
theorem lo_y : (lo x y).2 * (Int.gcd x y : Nat) = y := Int.ediv_mul_cancel (Int.gcd_dvd_right ..)
theorem lo_y1 (hy : 0 < y) : 1 ≤ (lo x y).2 := by
  obtain ⟨g1, g2⟩ := lo_g (x := x) hy
  exact Int.le_ediv_of_mul_le g1 (by omega)
theorem lo_y2 (hy : 0 < y) : (lo x y).2 ≤ y := by
  obtain ⟨g1, g2⟩ := lo_g (x := x) hy
  refine Int.ediv_le_self _ (by omega)
theorem lo_x0 (hx : 0 ≤ x) : 0 ≤ (lo x y).1 := Int.ediv_nonneg hx (by omega)
theorem lo_le (hy : 0 < y) (h : x ≤ y) : (lo x y).1 ≤ (lo x y).2 := by
  obtain ⟨g1, g2⟩ := lo_g (x := x) hy
  exact Int.ediv_le_ediv g1 h
theorem lo_lt (hy : 0 < y) (h : x < y) : (lo x y).1 < (lo x y).2 := by
  obtain ⟨g1, g2⟩ := lo_g (x := x) hy
  have e1 := lo_x (x := x) (y := y)
  have e2 := lo_y (x := x) (y := y)
  refine Int.lt_of_mul_lt_mul_right (a := (Int.gcd x y : Int)) ?_ (by omega)
  omega
theorem lo_gcd (hy : 0 < y) : Int.gcd (lo x y).1 (lo x y).2 = 1 := by
  have g1 : 0 < Int.gcd x y := Int.gcd_pos_of_ne_zero_right _ (by omega)
  exact Int.gcd_ediv_gcd_ediv_gcd g1
theorem lo_rule {p q a b : Int} (hq : 0 < q) (hq2 : q ≤ 10000) (hp : 0 ≤ p) (hp1 : p ≤ q) (hb : 0 < b) (hb2 : b ≤ 10000) (ha : 0 ≤ a) (ha1 : a < b) : IsRule (lo p q).1 (lo p q).2 (lo a b).1 (lo a b).2 :=
  ⟨lo_y1 hq, Int.le_trans (lo_y2 hq) hq2, lo_x0 hp, lo_le hq hp1, lo_gcd hq, lo_y1 hb, Int.le_trans (lo_y2 hb) hb2, lo_x0 ha, lo_lt hb ha1, lo_gcd hb⟩
theorem lo_self (h : Int.gcd x y = 1) : lo x y = (x, y) := by
  unfold lo
  rw [h]
  simp
theorem kk_lo {q k : Int} (hq : 0 < q) : kk q (lo k q).1 (lo k q).2 = k := by
  unfold kk
  have e1 := lo_x (x := k) (y := q)
  have e2 := lo_y (x := k) (y := q)
  have y1 := lo_y1 (x := k) hq
  generalize (lo k q).1 = u at *
  generalize (lo k q).2 = v at *
  generalize ((Int.gcd k q : Nat) : Int) = g at *
  rw [← e2, show v * g * u = u * g * v by rw [Int.mul_comm v g, Int.mul_comm u g, Int.mul_assoc, Int.mul_assoc, Int.mul_comm v u], Int.mul_ediv_cancel _ (by omega), e1]
end
end Q
namespace Q
open PySem L2
section
variable {n : Nat} {S : Store}
theorem oEq_form {a b c x y z : Int} : oEq (.tup [.int a, .int b, .int c]) (.tup [.int x, .int y, .int z]) S = some (.bl (decide (a = x ∧ b = y ∧ c = z)), S) := by
  have e : (a == x && (b == y && c == z)) = decide (a = x ∧ b = y ∧ c = z) := by rw [Bool.eq_iff_iff]; simp
  simp [oEq, eqD, pdT, D.pd, pds, SeqAt.shaped, PyData.canLay0, PyData.canLayAll0, PyData.depth, PyData.depthAll, PyData.eqv, PyData.eqvAll, e]
def loD (x y : Int) : D := .tup [.int (lo x y).1, .int (lo x y).2]
def frm (p q k : Int) : D := .tup [.int p, .int q, .int k]
theorem c_frac' (x y : Int) (hy : 0 < y) (hy2 : y < 1000000000) : callN Lib (n + 2) 6 [.int x, .int y] S = .ok (loD x y) S := c_frac x y hy hy2
theorem rul_lo {p q k : Int} (f : IsForm p q k) : D.tup [loD p q, loD k q] = rul p q (lo k q).1 (lo k q).2 := by
  unfold loD rul
  rw [lo_self f.pq]
theorem b_made_of_ok (c : CallT) (p q k : Int) (x y : D) (h1 : c 6 [.int p, .int q] S = .ok x S) (h2 : c 6 [.int k, .int q] S = .ok y S) : b_made_of c [some (frm p q k)] S = some (.ret (.tup [x, y]), S) := by
  simp [b_made_of, frm, h1, h2]
theorem c_made_of {p q k : Int} (f : IsForm p q k) (hq : q ≤ 10000) : callN Lib (n + 3) 81 [frm p q k] S = .ok (rul p q (lo k q).1 (lo k q).2) S := by
  have h := f.q1
  rw [callN_eq (d := f_made_of) rfl, ← rul_lo f]
  exact run_keep rfl (b_made_of_ok _ p q k _ _ (c_frac' p q (by omega) (by omega)) (c_frac' k q (by omega) (by omega)))
theorem within_true {i l h : Int} (h1 : l ≤ i) (h2 : i ≤ h) : callN Lib (n + 2) 2 [.int i, .int l, .int h] S = .ok (.bl true) S := by
  rw [c_is_within, decide_eq_true ⟨h1, h2⟩]
def fst? (f : Nat → Bool) : Nat → Nat → Option Nat
  | _, 0 => none
  | j, m + 1 => if f j then some j else fst? f (j + 1) m
theorem fst_some {f : Nat → Bool} : ∀ {m j i : Nat}, fst? f j m = some i → j ≤ i ∧ i < j + m ∧ f i = true ∧ ∀ l, j ≤ l → l < i → f l = false
  | 0, _, _, h => by cases h
  | m + 1, j, i, h => by
    unfold fst? at h
    by_cases c : f j = true
    · rw [if_pos c] at h
      cases h
      exact ⟨Nat.le_refl _, by omega, c, fun l h1 h2 => by omega⟩
    · rw [if_neg c] at h
      obtain ⟨h1, h2, h3, h4⟩ := fst_some h
      refine ⟨by omega, by omega, h3, fun l h5 h6 => ?_⟩
      by_cases e : l = j
      · subst e; simpa using c
      · exact h4 l (by omega) h6
theorem fst_none {f : Nat → Bool} : ∀ {m j : Nat}, fst? f j m = none → ∀ l, j ≤ l → l < j + m → f l = false
  | 0, j, _, l, h1, h2 => by omega
  | m + 1, j, h, l, h1, h2 => by
    unfold fst? at h
    by_cases c : f j = true
    · rw [if_pos c] at h; cases h
    · rw [if_neg c] at h
      by_cases e : l = j
      · subst e; simpa using c
      · exact fst_none h l (by omega) (by omega)
theorem for_fst {i : Nat} {b : TSt} (f : Nat → Bool) : ∀ (m j : Nat) (s : Sl), i < s.length → (∀ (l : Nat) (s' : Sl), s'.length = s.length → (∀ u, u ≠ i → s'[u]? = s[u]?) → s'[i]? = some (some (.int l)) → l < j + m →  b s' S = if f l then some (.ret (.int l), S) else some (.nx s', S)) →
    ∃ s', forL (.nm i) b ((List.range' j m).map fun (l : Nat) => .int l) s S = match fst? f j m with | some l => some (.ret (.int l), S) | none => some (.nx s', S)
  | 0, j, s, hi, h => ⟨s, by simp [forL, fst?]⟩
  | m + 1, j, s, hi, h => by
    have hb := h j (s.set i (some (.int j))) (by simp) (fun u hu => by rw [List.getElem?_set_ne (Ne.symm hu)]) (by simp [hi]) (by omega)
    obtain ⟨s', e⟩ := for_fst f m (j + 1) (s.set i (some (.int j))) (by simp [hi]) (fun l s2 h1 h2 h3 h4 => h l s2 (by simp [h1]) (fun u hu => by rw [h2 u hu, List.getElem?_set_ne (Ne.symm hu)]) h3 (by omega))
    refine ⟨s', ?_⟩
    rw [List.range'_succ, List.map_cons]
    unfold forL
    simp only [put_nm, hb]
    unfold fst?
    cases c : f j with
    | true => simp
    | false => simpa using e
theorem rngL_zero (m : Nat) : rngL 0 m = (List.range' 0 m).map fun (l : Nat) => .int l := by
  unfold rngL
  rw [List.range_eq_range']
  simp
def part (p1 q1 a1 b1 p2 q2 a2 b2 : Int) : Option Nat :=
  if p1 = p2 ∧ q1 = q2 ∧ kk q1 a1 b1 = kk q2 a2 b2 then none
  else fst? (fun l => dut p1 q1 a1 b1 l != dut p2 q2 a2 b2 l) 0 (q1 + q2).toNat
def natD : Option Nat → D
  | none => .non
  | some l => .int l
theorem b_first_parting_ok (c : CallT) {p1 q1 a1 b1 p2 q2 a2 b2 : Int} (r1 : IsRule p1 q1 a1 b1) (r2 : IsRule p2 q2 a2 b2)
    (h1 : c 79 [rul p1 q1 a1 b1] S = .ok (frm p1 q1 (kk q1 a1 b1)) S) (h2 : c 79 [rul p2 q2 a2 b2] S = .ok (frm p2 q2 (kk q2 a2 b2)) S)
    (h3 : ∀ k, c 83 [rul p1 q1 a1 b1, .int k] S = .ok (.bl (dut p1 q1 a1 b1 k)) S) (h4 : ∀ k, c 83 [rul p2 q2 a2 b2, .int k] S = .ok (.bl (dut p2 q2 a2 b2 k)) S) :
    b_first_parting c [some (rul p1 q1 a1 b1), some (rul p2 q2 a2 b2), none] S = some (.ret (natD (part p1 q1 a1 b1 p2 q2 a2 b2)), S) := by
  have x1 := r1.q1; have x2 := r2.q1; have x3 := r1.q2; have x4 := r2.q2
  by_cases e : p1 = p2 ∧ q1 = q2 ∧ kk q1 a1 b1 = kk q2 a2 b2
  · have hp : part p1 q1 a1 b1 p2 q2 a2 b2 = none := by unfold part; rw [if_pos e]
    rw [hp]
    unfold frm at *
    have q0 : ∀ S, oEq (.tup [.int p1, .int q1, .int (kk q1 a1 b1)]) (.tup [.int p2, .int q2, .int (kk q2 a2 b2)]) S = some (.bl true, S) := fun S => by rw [oEq_form, decide_eq_true e]
    clear e
    simp [b_first_parting, h1, h2, q0, natD]
  · have hp : part p1 q1 a1 b1 p2 q2 a2 b2 = fst? (fun l => dut p1 q1 a1 b1 l != dut p2 q2 a2 b2 l) 0 (q1 + q2).toNat := by unfold part; rw [if_neg e]
    have m : ((q1 + q2).toNat : Int) = q1 + q2 := by omega
    have rg : iRng1 [.int (q1 + q2)] = some (rngL 0 (q1 + q2).toNat) := by
      rw [← m]; exact iRng1_nat (by omega)
    rw [rngL_zero] at rg
    have sr := fun b h => for_fst (i := 2) (b := b) (S := S) (fun l => dut p1 q1 a1 b1 l != dut p2 q2 a2 b2 l) (q1 + q2).toNat 0 [some (rul p1 q1 a1 b1), some (rul p2 q2 a2 b2), none] (by simp) h
    rw [← hp] at sr
    generalize part p1 q1 a1 b1 p2 q2 a2 b2 = P at sr ⊢
    unfold b_first_parting
    rw [tSeq_eq]
    have g : (tIf (e2 oEq (eCall c 79 [eV 0]) (eCall c 79 [eV 1])) (tRet (eC .non)) (tPass)) [some (rul p1 q1 a1 b1), some (rul p2 q2 a2 b2), none] S = some (.nx [some (rul p1 q1 a1 b1), some (rul p2 q2 a2 b2), none], S) := by
      unfold frm at *
      have q0 : ∀ S, oEq (.tup [.int p1, .int q1, .int (kk q1 a1 b1)]) (.tup [.int p2, .int q2, .int (kk q2 a2 b2)]) S = some (.bl false, S) := fun S => by rw [oEq_form, decide_eq_false e]
      simp [h1, h2, q0]
    rw [g]
    simp only [tSeq_eq, tFor_eq]
    have sg : sN iRng1 [e2 oAdd (e2 oIx (e2 oIx (eV 0) (eC (.int 0))) (eC (.int 1))) (e2 oIx (e2 oIx (eV 1) (eC (.int 0))) (eC (.int 1)))] [some (rul p1 q1 a1 b1), some (rul p2 q2 a2 b2), none] S = .ok ((List.range' 0 (q1 + q2).toNat).map fun (l : Nat) => .int l) S := by
      simp [rul, rg]
    rw [sg]
    obtain ⟨s', e5⟩ := sr (tIf (e2 oNe (eCall c 83 [eV 0, eV 2]) (eCall c 83 [eV 1, eV 2])) (tRet (eV 2)) (tPass)) (fun l s2 g1 g2 g3 g4 => by
      have g5 := g2 0 (by decide)
      have g6 := g2 1 (by decide)
      simp at g5 g6
      have ne : (!decide (dut p1 q1 a1 b1 l = dut p2 q2 a2 b2 l)) = (dut p1 q1 a1 b1 l != dut p2 q2 a2 b2 l) := by
        cases dut p1 q1 a1 b1 l <;> cases dut p2 q2 a2 b2 l <;> rfl
      by_cases ed : dut p1 q1 a1 b1 l = dut p2 q2 a2 b2 l
      · simp [g3, g5, g6, h3, h4, ed]
      · simp [g3, g5, g6, h3, h4, ed])
    simp only [e5]
    cases P with
    | none => simp [natD]
    | some l => simp [natD]
theorem c_first_parting {p1 q1 a1 b1 p2 q2 a2 b2 : Int} (r1 : IsRule p1 q1 a1 b1) (r2 : IsRule p2 q2 a2 b2) : callN Lib (n + 3) 84 [rul p1 q1 a1 b1, rul p2 q2 a2 b2] S = .ok (natD (part p1 q1 a1 b1 p2 q2 a2 b2)) S := by
  rw [callN_eq (d := f_first_parting) rfl]
  exact run_keep rfl (b_first_parting_ok _ r1 r2 (c_form_of r1) (c_form_of r2) (fun k => c_has_duty r1 k) (fun k => c_has_duty r2 k))
theorem fst_congr {f g : Nat → Bool} (h : ∀ l, f l = g l) : fst? f = fst? g := by
  have : f = g := funext h
  rw [this]
theorem part_comm (p1 q1 a1 b1 p2 q2 a2 b2 : Int) : part p1 q1 a1 b1 p2 q2 a2 b2 = part p2 q2 a2 b2 p1 q1 a1 b1 := by
  unfold part
  have e : (p1 = p2 ∧ q1 = q2 ∧ kk q1 a1 b1 = kk q2 a2 b2) = (p2 = p1 ∧ q2 = q1 ∧ kk q2 a2 b2 = kk q1 a1 b1) := propext ⟨fun z => ⟨z.1.symm, z.2.1.symm, z.2.2.symm⟩, fun z => ⟨z.1.symm, z.2.1.symm, z.2.2.symm⟩⟩
  have f : fst? (fun l => dut p1 q1 a1 b1 l != dut p2 q2 a2 b2 l) = fst? (fun l => dut p2 q2 a2 b2 l != dut p1 q1 a1 b1 l) := fst_congr fun l => by
    cases dut p1 q1 a1 b1 l <;> cases dut p2 q2 a2 b2 l <;> rfl
  rw [f, Int.add_comm q1 q2]
  by_cases c : p1 = p2 ∧ q1 = q2 ∧ kk q1 a1 b1 = kk q2 a2 b2
  · rw [if_pos c, if_pos (e ▸ c)]
  · rw [if_neg c, if_neg (e ▸ c)]
theorem part_some {p1 q1 a1 b1 p2 q2 a2 b2 : Int} (r1 : IsRule p1 q1 a1 b1) (r2 : IsRule p2 q2 a2 b2) (h : ¬ (p1 = p2 ∧ q1 = q2 ∧ kk q1 a1 b1 = kk q2 a2 b2)) : ∃ l, part p1 q1 a1 b1 p2 q2 a2 b2 = some l ∧ (l : Int) < q1 + q2 ∧ ∀ j : Nat, j < l → dut p1 q1 a1 b1 j = dut p2 q2 a2 b2 j := by
  unfold part
  rw [if_neg h]
  cases e : fst? (fun l => dut p1 q1 a1 b1 l != dut p2 q2 a2 b2 l) 0 (q1 + q2).toNat with
  | none =>
    refine absurd (form_one r1.form r2.form fun j hj => ?_) h
    have := fst_none e j (by omega) (by omega)
    rw [← dut_df r1, ← dut_df r2]
    simpa using this
  | some l =>
    obtain ⟨e1, e2, e3, e4⟩ := fst_some e
    refine ⟨l, rfl, by omega, fun j hj => ?_⟩
    have := e4 j (by omega) hj
    simpa using this
end
end Q
namespace Q
open PySem L2
section
variable {n : Nat} {S : Store}
theorem blsOf_true (ds : List D) : blsOf (ds.map fun _ => D.bl true) = some (ds.map fun _ => true) := by
  induction ds with
  | nil => rfl
  | cons d ds ih => simp only [List.map_cons, blsOf, ih]; rfl
theorem all_true (ds : List D) : (ds.map fun _ => true).all id = true := by
  induction ds with
  | nil => rfl
  | cons d ds ih => simp only [List.map_cons, List.all_cons, ih]; rfl
theorem mem_zip {ds : List D} {z : D} (h : z ∈ List.zipWith (fun d e => D.tup [d, e]) ds ds) : ∃ d ∈ ds, z = .tup [d, d] := by
  induction ds with
  | nil => cases h
  | cons d ds ih =>
    rw [List.zipWith_cons_cons] at h
    cases h with
    | head => exact ⟨d, List.mem_cons_self, rfl⟩
    | tail _ h => obtain ⟨e, h1, h2⟩ := ih h; exact ⟨e, List.mem_cons_of_mem _ h1, h2⟩
theorem lc_same {c : CallT} {s : Sl} {ds : List D} (h3 : 3 < s.length) (h : ∀ d ∈ ds, c 219 [d, d] S = .ok (.bl true) S) (hl : ds.length ≤ 1000) :
    lcL (.tp [.nm 2, .nm 3]) (eC (.bl true)) (eCall c 219 [eV 2, eV 3]) s (List.zipWith (fun d e => D.tup [d, e]) ds ds) [] S = .ok (.lst ((List.zipWith (fun d e => D.tup [d, e]) ds ds).map fun _ => .bl true)) S := by
  rw [lc_mapP (fun _ => .bl true)]
  · rfl
  · intro z hz
    obtain ⟨d, hd, rfl⟩ := mem_zip hz
    refine ⟨(s.set 2 (some d)).set 3 (some d), by simp, rfl, ?_⟩
    have h2 : 2 < s.length := by omega
    simp [h2, h3, h d hd]
  · rw [PySem.sizeLine_eq, List.length_zipWith]
    simp
    omega
theorem c_same_int (i : Int) : callN Lib (n + 1) 219 [.int i, .int i] S = .ok (.bl true) S := by
  rw [callN_eq (d := f_law_same_v2) rfl]
  refine run_keep rfl ?_
  simp [b_law_same_v2, oIsi, Ty.of, Ty.eqb]
theorem c_same_non : callN Lib (n + 1) 219 [.non, .non] S = .ok (.bl true) S := by
  rw [callN_eq (d := f_law_same_v2) rfl]
  refine run_keep rfl ?_
  have e : ∀ S, oEq .non .non S = some (.bl true, S) := fun S => by
    simp [oEq, eqD, pdT, D.pd, SeqAt.shaped, PyData.canLay0, PyData.depth, PyData.eqv]
  simp [b_law_same_v2, oIsi, Ty.of, Ty.eqb, e]
theorem c_same_bl (x : Bool) : callN Lib (n + 1) 219 [.bl x, .bl x] S = .ok (.bl true) S := by
  rw [callN_eq (d := f_law_same_v2) rfl]
  refine run_keep rfl ?_
  simp [b_law_same_v2, oIsi, Ty.of, Ty.eqb]
theorem c_same_str (x : Str) : callN Lib (n + 1) 219 [.str x, .str x] S = .ok (.bl true) S := by
  rw [callN_eq (d := f_law_same_v2) rfl]
  refine run_keep rfl ?_
  simp [b_law_same_v2, oIsi, Ty.of, Ty.eqb]
theorem c_same_tup (ds : List D) (h : ∀ d ∈ ds, callN Lib n 219 [d, d] S = .ok (.bl true) S) (hl : ds.length ≤ 1000) : callN Lib (n + 1) 219 [.tup ds, .tup ds] S = .ok (.bl true) S := by
  rw [callN_eq (d := f_law_same_v2) rfl]
  generalize hc : callN Lib n = c at h ⊢
  refine run_keep rfl ?_
  have l := fun s (h3 : 3 < s.length) => lc_same (c := c) (s := s) (S := S) h3 h hl
  generalize he : List.zipWith (fun d e => D.tup [d, e]) ds ds = z at l
  have iz : iZip [.tup ds, .tup ds] = some z := by rw [← he]; rfl
  simp [b_law_same_v2, oIsi, Ty.of, Ty.eqb, iz, l, oAll, blsOf_true, all_true]
theorem c_same_lst (ds : List D) (h : ∀ d ∈ ds, callN Lib n 219 [d, d] S = .ok (.bl true) S) (hl : ds.length ≤ 1000) : callN Lib (n + 1) 219 [.lst ds, .lst ds] S = .ok (.bl true) S := by
  rw [callN_eq (d := f_law_same_v2) rfl]
  generalize hc : callN Lib n = c at h ⊢
  refine run_keep rfl ?_
  have l := fun s (h3 : 3 < s.length) => lc_same (c := c) (s := s) (S := S) h3 h hl
  generalize he : List.zipWith (fun d e => D.tup [d, e]) ds ds = z at l
  have iz : iZip [.lst ds, .lst ds] = some z := by rw [← he]; rfl
  simp [b_law_same_v2, oIsi, Ty.of, Ty.eqb, iz, l, oAll, blsOf_true, all_true]
theorem same_tup2 {x y : D} (h1 : callN Lib n 219 [x, x] S = .ok (.bl true) S) (h2 : callN Lib n 219 [y, y] S = .ok (.bl true) S) : callN Lib (n + 1) 219 [.tup [x, y], .tup [x, y]] S = .ok (.bl true) S :=
  c_same_tup _ (fun d hd => by
    rcases List.mem_cons.mp hd with rfl | hd
    · exact h1
    · rw [List.mem_singleton.mp hd]; exact h2) (by simp)
theorem same_lst2 {x y : D} (h1 : callN Lib n 219 [x, x] S = .ok (.bl true) S) (h2 : callN Lib n 219 [y, y] S = .ok (.bl true) S) : callN Lib (n + 1) 219 [.lst [x, y], .lst [x, y]] S = .ok (.bl true) S :=
  c_same_lst _ (fun d hd => by
    rcases List.mem_cons.mp hd with rfl | hd
    · exact h1
    · rw [List.mem_singleton.mp hd]; exact h2) (by simp)
theorem same_ints (vs : List Int) (hl : vs.length ≤ 1000) : callN Lib (n + 2) 219 [.tup (vs.map .int), .tup (vs.map .int)] S = .ok (.bl true) S :=
  c_same_tup _ (fun d hd => by
    obtain ⟨i, _, rfl⟩ := List.mem_map.mp hd
    exact c_same_int i) (by simpa using hl)
theorem same_frm (p q k : Int) : callN Lib (n + 2) 219 [frm p q k, frm p q k] S = .ok (.bl true) S := same_ints [p, q, k] (by simp)
theorem same_rul (p q a b : Int) : callN Lib (n + 3) 219 [rul p q a b, rul p q a b] S = .ok (.bl true) S := same_tup2 (same_ints [p, q] (by simp)) (same_ints [a, b] (by simp))
theorem same_natD (o : Option Nat) : callN Lib (n + 1) 219 [natD o, natD o] S = .ok (.bl true) S := by
  cases o with
  | none => exact c_same_non
  | some l => exact c_same_int l
@[simp] theorem oPow_4 : oPow (.int 10) (.int 4) S = some (.int 10000, S) := (oPow_10 (n := 4)).trans (by simp)
@[simp] theorem oPow_9 : oPow (.int 10) (.int 9) S = some (.int 1000000000, S) := (oPow_10 (n := 9)).trans (by simp)
@[simp] theorem oPow_12 : oPow (.int 10) (.int 12) S = some (.int 1000000000000, S) := (oPow_10 (n := 12)).trans (by simp)
@[simp] theorem oPow_18 : oPow (.int 10) (.int 18) S = some (.int 1000000000000000000, S) := (oPow_10 (n := 18)).trans (by simp)
theorem c_anyi {k : Nat} (H : Hd k S) (vs : List Int) (h0 : 0 < vs.length) (h1 : vs.length ≤ 1000) (P : Int → Prop) (hP : ∀ v ∈ vs, P v) :
    ∃ v S', callN Lib (n + 2) 218 [.ptr k, .lst (vs.map .int)] S = .ok (.int v) S' ∧ Hd k S' ∧ Upd k S S' ∧ P v := by
  obtain ⟨d, S', e, H', U, m⟩ := c_any (n := n) H (vs.map .int) (by simpa using h0) (by rw [List.length_map]; omega)
  obtain ⟨v, hv, rfl⟩ := List.mem_map.mp m
  exact ⟨v, S', e, H', U, hP v hv⟩
end
end Q
namespace Q
open PySem L2
section
variable {n k : Nat} {S : Store}
theorem low_turns (c : CallT) (X Y : D) : ∀ (m : Nat) (x y : Nat), y ≤ m → ∃ k, k ≤ m + 1 ∧ whL (e2 oGt (eV 3) (eC (.int 0))) (tSet (.tp [.nm 2, .nm 3]) (eTup [eV 3, e2 oMod (eN oInt [eV 2]) (eV 3)])) k [some X, some Y, some (.int x), some (.int y)] S = some (.nx [some X, some Y, some (.int (Nat.gcd x y : Nat)), some (.int 0)], S) := by
  intro m
  induction m with
  | zero =>
    intro x y hy
    obtain rfl : y = 0 := by omega
    refine ⟨1, by omega, ?_⟩
    simp [whL]
  | succ m ih =>
    intro x y hy
    by_cases h0 : y = 0
    · subst h0
      refine ⟨1, by omega, ?_⟩
      simp [whL]
    · have hlt : x % y < y := Nat.mod_lt _ (by omega)
      obtain ⟨k, hk, e⟩ := ih y (x % y) (by omega)
      refine ⟨k + 1, by omega, ?_⟩
      have hp : (0 : Int) < (y : Int) := by omega
      unfold whL
      simp [hp, oMod_pos hp]
      have e2 : ((x : Int) % (y : Int)) = ((x % y : Nat) : Int) := by simp
      rw [e2, e, Nat.gcd_comm y (x % y), ← Nat.gcd_rec y x, Nat.gcd_comm y x]
      have h1 : 0 < y := by omega
      simp [h1]
theorem c_low (x y : Int) (hx : 0 ≤ x) (hy : 0 < y) (hy2 : y < 1000000000) : callN Lib (n + 1) 220 [.int x, .int y] S = .ok (loD x y) S := by
  rw [callN_eq (d := f_law_low) rfl]
  generalize callN Lib n = c
  refine run_keep rfl ?_
  obtain ⟨g1, g2⟩ := lo_g (x := x) hy
  obtain ⟨xn, rfl⟩ := Int.eq_ofNat_of_zero_le hx
  obtain ⟨yn, rfl⟩ := Int.eq_ofNat_of_zero_le (show 0 ≤ y by omega)
  obtain ⟨k, hk, e⟩ := low_turns (S := S) c (.int xn) (.int yn) yn xn yn (Nat.le_refl _)
  have e2 := while_of e (by show k ≤ 2 ^ 60; omega)
  have d := fun (i : Int) (S : Store) => oDiv_62 (S := S) (i := i) (j := (Int.gcd xn yn : Nat)) g1 (by omega)
  have g : (Nat.gcd xn yn : Nat) = Int.gcd (xn : Int) (yn : Int) := rfl
  rw [g] at e2
  simp [b_law_low, e2, d, -Int.gcd_natCast_natCast]
  rfl
theorem c_until {p q a b : Int} (r : IsRule p q a b) (k : Int) : callN Lib (n + 1) 222 [rul p q a b, .int k] S = .ok (.int (tot p q a b k)) S := by
  rw [callN_eq (d := f_law_until_v2) rfl]
  generalize callN Lib n = c
  refine run_keep rfl ?_
  have h := r.q2; have h2 := r.p1; have h3 := r.b2; have h4 := r.a1; have h5 := r.p0; have h6 := r.a0; have h7 := r.q1; have h8 := r.b1
  have m1 := fun (i : Int) (S : Store) => oMul_r (S := S) (i := i) (j := p) (by omega) (by omega)
  have m2 := fun (i : Int) (S : Store) => oMul_r (S := S) (i := i) (j := b) (by omega) (by omega)
  have m3 := fun (i : Int) (S : Store) => oMul_r (S := S) (i := i) (j := q) (by omega) (by omega)
  have b1 : 0 < q * b := Int.mul_pos (by omega) (by omega)
  have b2 : q * b ≤ 10000 * 10000 := Int.mul_le_mul h h3 (by omega) (by omega)
  have d1 := fun (i : Int) (S : Store) => oDiv_62 (S := S) (i := i) b1 (by omega)
  simp [b_law_until_v2, rul, m1, m2, m3, d1]
  rfl
theorem b_duty_ok (c : CallT) {p q a b : Int} (k : Int) (h : ∀ k, c 222 [rul p q a b, .int k] S = .ok (.int (tot p q a b k)) S) : b_law_has_duty c [some (rul p q a b), some (.int k)] S = some (.ret (.bl (dut p q a b k)), S) := by
  unfold dut
  simp [b_law_has_duty, h]
theorem c_duty {p q a b : Int} (r : IsRule p q a b) (k : Int) : callN Lib (n + 2) 223 [rul p q a b, .int k] S = .ok (.bl (dut p q a b k)) S := by
  rw [callN_eq (d := f_law_has_duty) rfl]
  exact run_keep rfl (b_duty_ok _ k fun k => c_until r k)
theorem c_form {p q a b : Int} (r : IsRule p q a b) : callN Lib (n + 1) 224 [rul p q a b] S = .ok (frm p q (kk q a b)) S := by
  rw [callN_eq (d := f_law_form) rfl]
  generalize callN Lib n = c
  refine run_keep rfl ?_
  have h := r.q2; have h2 := r.p1; have h3 := r.b2; have h4 := r.a1; have h5 := r.p0; have h6 := r.a0; have h7 := r.q1; have h8 := r.b1
  have m1 := fun (i : Int) (S : Store) => oMul_r (S := S) (i := i) (j := a) (by omega) (by omega)
  have d1 := fun (i : Int) (S : Store) => oDiv_62 (S := S) (i := i) (j := b) (by omega) (by omega)
  simp [b_law_form, rul, m1, d1]
  rfl
theorem b_of_form_ok (c : CallT) (p q k : Int) (x y : D) (h1 : c 220 [.int p, .int q] S = .ok x S) (h2 : c 220 [.int k, .int q] S = .ok y S) : b_law_of_form c [some (frm p q k)] S = some (.ret (.tup [x, y]), S) := by
  simp [b_law_of_form, frm, h1, h2]
theorem c_of_form {p q k : Int} (f : IsForm p q k) (hq : q ≤ 10000) : callN Lib (n + 2) 225 [frm p q k] S = .ok (rul p q (lo k q).1 (lo k q).2) S := by
  obtain ⟨a1, a2, a3, a4, a5, a6⟩ := f
  rw [callN_eq (d := f_law_of_form) rfl, ← rul_lo ⟨a1, a2, a3, a4, a5, a6⟩]
  exact run_keep rfl (b_of_form_ok _ p q k _ _ (c_low p q a2 (by omega) (by omega)) (c_low k q a5 (by omega) (by omega)))
theorem loD_rul (p q a b : Int) : D.tup [loD p q, loD a b] = rul (lo p q).1 (lo p q).2 (lo a b).1 (lo a b).2 := rfl
theorem b_rule_ok (c : CallT) {S1 S2 S3 S4 S5 S6 S7 : Store} (most m1 v1 m2 v2 w x y : Int) (X Y : D)
    (h1 : c 218 [.ptr k, .lst [.int 3, .int 12, .int most]] S = .ok (.int m1) S1)
    (h2 : c 217 [.ptr k, .int m1] S1 = .ok (.int v1) S2)
    (h3 : c 218 [.ptr k, .lst [.int 3, .int 12, .int most]] S2 = .ok (.int m2) S3)
    (h4 : c 217 [.ptr k, .int m2] S3 = .ok (.int v2) S4)
    (h5 : c 217 [.ptr k, .int (1 + v1 + 1)] S4 = .ok (.int w) S5)
    (h6 : c 218 [.ptr k, .lst [.int w, .int 1, .int (1 + v1 - 1), .int (1 + v1), .int 0]] S5 = .ok (.int x) S6)
    (h7 : c 220 [.int x, .int (1 + v1)] S6 = .ok X S6)
    (h8 : c 217 [.ptr k, .int (1 + v2)] S6 = .ok (.int y) S7)
    (h9 : c 220 [.int y, .int (1 + v2)] S7 = .ok Y S7) :
    b_law_rule_v2 c [some (.ptr k), some (.int most), none, none] S = some (.ret (.tup [X, Y]), S7) := by
  simp [b_law_rule_v2, h1, h2, h3, h4, h5, h6, h7, h8, h9]
theorem c_rule (H : Hd k S) (most : Int) (h1 : 1 ≤ most) (h2 : most ≤ 10000) :
    ∃ p q a b S', callN Lib (n + 3) 221 [.ptr k, .int most] S = .ok (rul p q a b) S' ∧ Hd k S' ∧ IsRule p q a b := by
  have P3 : ∀ v ∈ [3, 12, most], 1 ≤ v ∧ v ≤ 10000 := fun v hv => by
    simp only [List.mem_cons, List.not_mem_nil, or_false] at hv
    omega
  obtain ⟨m1, S1, e1, H1, -, b1⟩ := c_anyi (n := n) H [3, 12, most] (by simp) (by simp) _ P3
  obtain ⟨v1, S2, e2, H2, -, b2, b3⟩ := c_draw (n := n + 1) H1 m1 (by omega) (by omega)
  obtain ⟨m2, S3, e3, H3, -, b4⟩ := c_anyi (n := n) H2 [3, 12, most] (by simp) (by simp) _ P3
  obtain ⟨v2, S4, e4, H4, -, b5, b6⟩ := c_draw (n := n + 1) H3 m2 (by omega) (by omega)
  obtain ⟨w, S5, e5, H5, -, b7, b8⟩ := c_draw (n := n + 1) H4 (1 + v1 + 1) (by omega) (by omega)
  obtain ⟨x, S6, e6, H6, -, b9⟩ := c_anyi (n := n) H5 [w, 1, 1 + v1 - 1, 1 + v1, 0] (by simp) (by simp) (fun x => 0 ≤ x ∧ x ≤ 1 + v1) (fun v hv => by
    simp only [List.mem_cons, List.not_mem_nil, or_false] at hv
    omega)
  obtain ⟨y, S7, e7, H7, -, b10, b11⟩ := c_draw (n := n + 1) H6 (1 + v2) (by omega) (by omega)
  refine ⟨_, _, _, _, S7, ?_, H7, lo_rule (p := x) (q := 1 + v1) (a := y) (b := 1 + v2) (by omega) (by omega) b9.1 b9.2 (by omega) (by omega) b10 b11⟩
  rw [callN_eq (d := f_law_rule_v2) rfl]
  exact run_keep rfl (b_rule_ok _ most m1 v1 m2 v2 w x y _ _ e1 e2 e3 e4 e5 e6 (c_low x (1 + v1) b9.1 (by omega) (by omega)) e7 (c_low y (1 + v2) b10 (by omega) (by omega)))
end
end Q
namespace Q
open PySem L2
theorem for_inv {p : Pat} {b : TSt} (I : Sl → Store → Prop) : ∀ (ds : List D) (s : Sl) (S : Store), I s S → (∀ d ∈ ds, ∀ s S, I s S → ∃ s1, p.put d s = some s1 ∧ ∃ s2 S2, b s1 S = some (.nx s2, S2) ∧ I s2 S2) → ∃ s' S', forL p b ds s S = some (.nx s', S') ∧ I s' S'
  | [], s, S, h, _ => ⟨s, S, rfl, h⟩
  | d :: ds, s, S, h, hb => by
    obtain ⟨s1, e1, s2, S2, e2, h2⟩ := hb d List.mem_cons_self s S h
    obtain ⟨s', S', e3, h3⟩ := for_inv I ds s2 S2 h2 (fun d' hd => hb d' (List.mem_cons_of_mem _ hd))
    refine ⟨s', S', ?_, h3⟩
    unfold forL
    simp only [e1, e2, e3]
section
variable {n k : Nat} {S : Store}
def fin (q : Int) : Int := max 1 (min 9 (10000 / q))
theorem fin1 (q : Int) : 1 ≤ fin q := by unfold fin; omega
theorem fin9 (q : Int) : fin q ≤ 9 := by unfold fin; omega
theorem fin_q {q : Int} (h : 1 ≤ q) (h2 : q ≤ 10000) : q * fin q ≤ 10000 := by
  unfold fin
  have h3 : 10000 / q * q ≤ 10000 := Int.ediv_mul_le 10000 (by omega)
  have h4 : 1 ≤ 10000 / q := Int.le_ediv_of_mul_le (by omega) (by omega)
  have h5 : max 1 (min 9 (10000 / q)) ≤ 10000 / q := by omega
  have := Int.mul_le_mul_of_nonneg_left h5 (show 0 ≤ q by omega)
  rw [Int.mul_comm] at h3
  omega
theorem wh_fst {t : TE} {b : TSt} (f : Nat → Bool) (X Y : D) (m : Nat) (ht : ∀ l : Nat, t [some X, some Y, some (.int l)] S = .ok (.bl (decide (l < m))) S)
    (hb : ∀ l : Nat, l < m → b [some X, some Y, some (.int l)] S = if f l then some (.ret (.int l), S) else some (.nx [some X, some Y, some (.int ((l + 1 : Nat) : Int))], S)) :
    ∀ (r j : Nat), j + r = m → whL t b (r + 1) [some X, some Y, some (.int j)] S = match fst? f j r with | some l => some (.ret (.int l), S) | none => some (.nx [some X, some Y, some (.int m)], S)
  | 0, j, h => by
    obtain rfl : j = m := by omega
    unfold whL
    simp [ht, fst?]
  | r + 1, j, h => by
    have hj : j < m := by omega
    unfold whL
    unfold fst?
    have ih := wh_fst f X Y m ht hb r (j + 1) (by omega)
    cases c : f j with
    | true => simp [ht, hj, hb j hj, c]
    | false =>
      simp [ht, hj, hb j hj, c]
      simpa using ih
theorem wh_ret {t : TE} {b : TSt} (f : Nat → Bool) (R : Nat → D) (I : Nat → Sl → Prop) (m : Nat) (ht : ∀ l s, I l s → l < m → t s S = .ok (.bl true) S)
    (hb : ∀ l s, I l s → l < m → (f l = true → b s S = some (.ret (R l), S)) ∧ (f l = false → ∃ s', b s S = some (.nx s', S) ∧ I (l + 1) s')) :
    ∀ (r j : Nat) (s : Sl) (l : Nat), I j s → j + r ≤ m → fst? f j r = some l → whL t b r s S = some (.ret (R l), S)
  | 0, j, s, l, _, _, h => by cases h
  | r + 1, j, s, l, h0, h1, h => by
    have hj : j < m := by omega
    unfold fst? at h
    unfold whL
    cases c : f j with
    | true =>
      rw [if_pos c] at h
      cases h
      simp [ht j s h0 hj, (hb j s h0 hj).1 c]
    | false =>
      rw [if_neg (by simp [c])] at h
      obtain ⟨s', e, h2⟩ := (hb j s h0 hj).2 c
      simp [ht j s h0 hj, e]
      exact wh_ret f R I m ht hb r (j + 1) s' l h2 (by omega) h
theorem dut_same {p q a b a' b' : Int} (r1 : IsRule p q a b) (r2 : IsRule p q a' b') (h : kk q a b = kk q a' b') (j : Int) : dut p q a b j = dut p q a' b' j := by
  rw [dut_df r1, dut_df r2, h]
theorem part_none {p1 q1 a1 b1 p2 q2 a2 b2 : Int} (r1 : IsRule p1 q1 a1 b1) (r2 : IsRule p2 q2 a2 b2) (h : part p1 q1 a1 b1 p2 q2 a2 b2 = none) (j : Int) : dut p1 q1 a1 b1 j = dut p2 q2 a2 b2 j := by
  by_cases e : p1 = p2 ∧ q1 = q2 ∧ kk q1 a1 b1 = kk q2 a2 b2
  · obtain ⟨rfl, rfl, e⟩ := e
    exact dut_same r1 r2 e j
  · obtain ⟨l, hl, -⟩ := part_some r1 r2 e
    rw [h] at hl; cases hl
theorem part_eq {p1 q1 a1 b1 p2 q2 a2 b2 : Int} (r1 : IsRule p1 q1 a1 b1) (r2 : IsRule p2 q2 a2 b2) {l : Nat} (h : part p1 q1 a1 b1 p2 q2 a2 b2 = some l) (j : Nat) (hj : j < l) : dut p1 q1 a1 b1 j = dut p2 q2 a2 b2 j := by
  by_cases e : p1 = p2 ∧ q1 = q2 ∧ kk q1 a1 b1 = kk q2 a2 b2
  · obtain ⟨rfl, rfl, e⟩ := e
    exact dut_same r1 r2 e j
  · obtain ⟨l', hl, _, h2⟩ := part_some r1 r2 e
    rw [h] at hl; cases hl
    exact h2 j hj
theorem days_congr {p1 q1 a1 b1 p2 q2 a2 b2 : Int} (h : ∀ j, dut p1 q1 a1 b1 j = dut p2 q2 a2 b2 j) (f : Int) (m : Nat) : days p1 q1 a1 b1 f m = days p2 q2 a2 b2 f m := by
  unfold days
  exact List.map_congr_left fun i _ => h _
theorem cut_wrd {l : List Bool} {m : Nat} (h : m ≤ l.length) (h2 : l.length ≤ 1000) : oCut (.str (wrd l)) none (some (m : Int)) S = some (.str (wrd (l.take m)), S) := by
  unfold oCut
  have e : (wrd l).length ≤ sizeLine := by rw [wrd_len, PySem.sizeLine_eq]; omega
  have e2 : (wrd l).cps.toList = l.map bit := by simp [wrd]
  simp only [e, if_true, e2]
  unfold cutD
  rw [HT.sIx_nat, HT.sIx_none, List.length_map, Nat.min_eq_left h, List.drop_zero, Nat.sub_zero, ← List.map_take]
  rfl
theorem take_days (p q a b : Int) (l : Nat) : (days p q a b 0 (l + 1)).take l = days p q a b 0 l := by
  unfold days
  rw [← List.map_take, List.take_range, Nat.min_eq_left (by omega)]
end
end Q
namespace Q
open PySem L2
section
variable {p q k : Int}
theorem IsForm.contr (f : IsForm p q k) : IsForm (q - p) q (q - 1 - k) := by
  obtain ⟨h1, h2, h3, h4, h5, h6⟩ := f
  refine ⟨h1, by omega, by omega, ?_, by omega, by omega⟩
  have e : Int.gcd (q - p) q = Int.gcd p q := by
    have a : (Int.gcd (q - p) q) ∣ Int.gcd p q := Int.dvd_gcd (by
      have := Int.dvd_sub (Int.gcd_dvd_right (q - p) q) (Int.gcd_dvd_left (q - p) q)
      rwa [show q - (q - p) = p by omega] at this) (Int.gcd_dvd_right ..) |> fun z => by exact_mod_cast z
    have b : Int.gcd p q ∣ Int.gcd (q - p) q := Int.dvd_gcd (Int.dvd_sub (Int.gcd_dvd_right ..) (Int.gcd_dvd_left ..)) (Int.gcd_dvd_right ..) |> fun z => by exact_mod_cast z
    exact Nat.dvd_antisymm a b
  rw [e, h4]
theorem tf_contr (f : IsForm p q k) (n : Int) : tf (q - p) q (q - 1 - k) n = n - tf p q k n := by
  have hq := f.q1
  unfold tf
  have d := Int.mul_ediv_add_emod (n * p + k) q
  have m0 := Int.emod_nonneg (n * p + k) (show q ≠ 0 by omega)
  have m1 := Int.emod_lt_of_pos (n * p + k) (show 0 < q by omega)
  generalize (n * p + k) / q = u at *
  generalize (n * p + k) % q = v at *
  have e : n * (q - p) + (q - 1 - k) = (q - 1 - v) + (n - u) * q := by
    rw [Int.mul_sub, Int.sub_mul, Int.mul_comm u q]; omega
  rw [e, Int.add_mul_ediv_right _ _ (by omega), Int.ediv_eq_zero_of_lt (by omega) (by omega)]
  omega
theorem df_contr (f : IsForm p q k) (n : Int) : df (q - p) q (q - 1 - k) n = !df p q k n := by
  have s := tf_step f n
  unfold df
  rw [tf_contr f, tf_contr f]
  by_cases h : tf p q k n < tf p q k (n + 1)
  · rw [decide_eq_true h, decide_eq_false (by omega)]; rfl
  · rw [decide_eq_false h, decide_eq_true (by omega)]; rfl
end
structure RF (p q k a b : Int) : Prop where
  rule : IsRule p q a b
  form : kk q a b = k
theorem IsForm.rf {p q k : Int} (f : IsForm p q k) (hq : q ≤ 10000) : IsRule p q (lo k q).1 (lo k q).2 :=
  ⟨f.q1, hq, f.p0, f.p1, f.pq, lo_y1 (Int.lt_of_lt_of_le (by decide) f.q1), Int.le_trans (lo_y2 (Int.lt_of_lt_of_le (by decide) f.q1)) hq, lo_x0 f.k0, lo_lt (Int.lt_of_lt_of_le (by decide) f.q1) f.k1, lo_gcd (Int.lt_of_lt_of_le (by decide) f.q1)⟩
theorem IsForm.kk {p q k : Int} (f : IsForm p q k) : kk q (lo k q).1 (lo k q).2 = k := kk_lo (Int.lt_of_lt_of_le (by decide) f.q1)
section
variable {n : Nat} {S : Store}
def oth (p q k : Int) : D := rul (q - p) q (lo (q - 1 - k) q).1 (lo (q - 1 - k) q).2
theorem oth_dut {p q a b : Int} (r : IsRule p q a b) (j : Int) : dut (q - p) q (lo (q - 1 - kk q a b) q).1 (lo (q - 1 - kk q a b) q).2 j = !dut p q a b j := by
  have f := r.form.contr
  rw [dut_df (f.rf r.q2), f.kk, df_contr r.form, dut_df r]
theorem b_others_of_ok (c : CallT) (p q k : Int) (r o : D) (h1 : c 79 [r] S = .ok (frm p q k) S) (h2 : c 81 [frm (q - p) q (q - 1 - k)] S = .ok o S) : b_others_of c [some r, none, none, none] S = some (.ret o, S) := by
  unfold frm at *
  simp [b_others_of, h1, h2]
theorem c_others_of {p q a b : Int} (r : IsRule p q a b) : callN Lib (n + 4) 86 [rul p q a b] S = .ok (oth p q (kk q a b)) S := by
  rw [callN_eq (d := f_others_of) rfl]
  exact run_keep rfl (b_others_of_ok _ p q (kk q a b) _ _ (c_form_of r) (c_made_of r.form.contr r.q2))
theorem b_other_days_ok (c : CallT) (r o : D) (h1 : c 63 [r] S = .ok .non S) (h2 : c 86 [r] S = .ok o S) : b_other_days c [some r] S = some (.ret o, S) := by
  simp [b_other_days, h1, h2]
theorem c_other_days {p q a b : Int} (r : IsRule p q a b) : callN Lib (n + 6) 87 [rul p q a b] S = .ok (oth p q (kk q a b)) S := by
  rw [callN_eq (d := f_other_days) rfl]
  exact run_keep rfl (b_other_days_ok _ _ _ (c_check_rule r) (c_others_of r))
def shr (p1 q1 a1 b1 p2 q2 a2 b2 : Int) : Option Nat :=
  if q1 - p1 = p2 ∧ q1 = q2 ∧ q1 - 1 - kk q1 a1 b1 = kk q2 a2 b2 then none
  else fst? (fun l => dut p1 q1 a1 b1 l == dut p2 q2 a2 b2 l) 0 (q1 + q2).toNat
def shD (f : Nat → Bool) : Option Nat → D
  | none => .tup [.str "each"]
  | some l => .tup [.str (if f l then "both" else "nobody"), .int l]
theorem part_shr {p1 q1 a1 b1 p2 q2 a2 b2 : Int} (r1 : IsRule p1 q1 a1 b1) : part (q1 - p1) q1 (lo (q1 - 1 - kk q1 a1 b1) q1).1 (lo (q1 - 1 - kk q1 a1 b1) q1).2 p2 q2 a2 b2 = shr p1 q1 a1 b1 p2 q2 a2 b2 := by
  unfold part shr
  rw [r1.form.contr.kk]
  have e : (fun l : Nat => dut (q1 - p1) q1 (lo (q1 - 1 - kk q1 a1 b1) q1).1 (lo (q1 - 1 - kk q1 a1 b1) q1).2 l != dut p2 q2 a2 b2 l) = fun l : Nat => dut p1 q1 a1 b1 l == dut p2 q2 a2 b2 l := funext fun l => by
    rw [oth_dut r1]
    cases dut p1 q1 a1 b1 l <;> cases dut p2 q2 a2 b2 l <;> rfl
  rw [e]
theorem shr_comm (p1 q1 a1 b1 p2 q2 a2 b2 : Int) : shr p2 q2 a2 b2 p1 q1 a1 b1 = shr p1 q1 a1 b1 p2 q2 a2 b2 := by
  unfold shr
  have e : (q2 - p2 = p1 ∧ q2 = q1 ∧ q2 - 1 - kk q2 a2 b2 = kk q1 a1 b1) = (q1 - p1 = p2 ∧ q1 = q2 ∧ q1 - 1 - kk q1 a1 b1 = kk q2 a2 b2) := propext ⟨fun z => by omega, fun z => by omega⟩
  have f : (fun l : Nat => dut p2 q2 a2 b2 l == dut p1 q1 a1 b1 l) = fun l : Nat => dut p1 q1 a1 b1 l == dut p2 q2 a2 b2 l := funext fun l => by
    cases dut p1 q1 a1 b1 l <;> cases dut p2 q2 a2 b2 l <;> rfl
  rw [f, Int.add_comm q2 q1]
  by_cases c : q1 - p1 = p2 ∧ q1 = q2 ∧ q1 - 1 - kk q1 a1 b1 = kk q2 a2 b2
  · rw [if_pos c, if_pos (e ▸ c)]
  · rw [if_neg c, if_neg (e ▸ c)]
theorem shr_eq {p1 q1 a1 b1 p2 q2 a2 b2 : Int} {l : Nat} (h : shr p1 q1 a1 b1 p2 q2 a2 b2 = some l) : dut p1 q1 a1 b1 l = dut p2 q2 a2 b2 l := by
  unfold shr at h
  split at h
  · cases h
  · have := (fst_some h).2.2.1
    simpa using this
theorem shD_comm {p1 q1 a1 b1 p2 q2 a2 b2 : Int} : shD (fun l => dut p2 q2 a2 b2 l) (shr p1 q1 a1 b1 p2 q2 a2 b2) = shD (fun l => dut p1 q1 a1 b1 l) (shr p1 q1 a1 b1 p2 q2 a2 b2) := by
  cases h : shr p1 q1 a1 b1 p2 q2 a2 b2 with
  | none => rfl
  | some l => show D.tup [.str (if dut p2 q2 a2 b2 l = true then _ else _), _] = D.tup [.str (if dut p1 q1 a1 b1 l = true then _ else _), _]; rw [shr_eq h]
theorem b_sharing_ok (c : CallT) (x y o : D) (f : Nat → Bool) (P : Option Nat) (h1 : c 63 [x] S = .ok .non S) (h2 : c 63 [y] S = .ok .non S) (h3 : c 86 [x] S = .ok o S)
    (h4 : c 84 [o, y] S = .ok (natD P) S) (h5 : ∀ l : Nat, c 83 [x, .int l] S = .ok (.bl (f l)) S) : b_sharing_v2 c [some x, some y, none] S = some (.ret (shD f P), S) := by
  cases P with
  | none =>
    simp [natD] at h4
    simp [b_sharing_v2, h1, h2, h3, h4, shD]
  | some l =>
    simp [natD] at h4
    cases e : f l <;> simp [b_sharing_v2, h1, h2, h3, h4, h5, shD, e]
theorem c_sharing {p1 q1 a1 b1 p2 q2 a2 b2 : Int} (r1 : IsRule p1 q1 a1 b1) (r2 : IsRule p2 q2 a2 b2) : callN Lib (n + 6) 231 [rul p1 q1 a1 b1, rul p2 q2 a2 b2] S = .ok (shD (fun l => dut p1 q1 a1 b1 l) (shr p1 q1 a1 b1 p2 q2 a2 b2)) S := by
  rw [callN_eq (d := f_sharing_v2) rfl]
  have h4 := c_first_parting (n := n + 2) (S := S) (r1.form.contr.rf r1.q2) r2
  rw [part_shr r1] at h4
  exact run_keep rfl (b_sharing_ok _ _ _ _ _ _ (c_check_rule r1) (c_check_rule r2) (c_others_of r1) h4 (fun l => c_has_duty r1 l))
theorem c_contrary (p q k : Int) : callN Lib (n + 1) 244 [frm p q k] S = .ok (frm (q - p) q (q - 1 - k)) S := by
  rw [callN_eq (d := f_law_contrary) rfl]
  generalize callN Lib n = c
  refine run_keep rfl ?_
  simp [b_law_contrary, frm]
theorem same_shD (f : Nat → Bool) (P : Option Nat) : callN Lib (n + 2) 219 [shD f P, shD f P] S = .ok (.bl true) S := by
  cases P with
  | none => exact c_same_tup _ (fun d hd => by
      rw [List.mem_singleton.mp hd]; exact c_same_str _) (by simp)
  | some l => exact same_tup2 (c_same_str _) (c_same_int _)
theorem b_due_ok (c : CallT) {p1 q1 a1 b1 p2 q2 a2 b2 : Int} (r1 : IsRule p1 q1 a1 b1) (r2 : IsRule p2 q2 a2 b2)
    (h1 : c 224 [rul p1 q1 a1 b1] S = .ok (frm p1 q1 (kk q1 a1 b1)) S) (h2 : c 224 [rul p2 q2 a2 b2] S = .ok (frm p2 q2 (kk q2 a2 b2)) S)
    (h5 : c 244 [frm p1 q1 (kk q1 a1 b1)] S = .ok (frm (q1 - p1) q1 (q1 - 1 - kk q1 a1 b1)) S)
    (h3 : ∀ k, c 223 [rul p1 q1 a1 b1, .int k] S = .ok (.bl (dut p1 q1 a1 b1 k)) S) (h4 : ∀ k, c 223 [rul p2 q2 a2 b2, .int k] S = .ok (.bl (dut p2 q2 a2 b2 k)) S) :
    b_law_due_v2 c [some (rul p1 q1 a1 b1), some (rul p2 q2 a2 b2), none, none, none] S = some (.ret (shD (fun l => dut p1 q1 a1 b1 l) (shr p1 q1 a1 b1 p2 q2 a2 b2)), S) := by
  have x1 := r1.q1; have x2 := r2.q1; have x3 := r1.q2; have x4 := r2.q2
  by_cases e : q1 - p1 = p2 ∧ q1 = q2 ∧ q1 - 1 - kk q1 a1 b1 = kk q2 a2 b2
  · have hp : shr p1 q1 a1 b1 p2 q2 a2 b2 = none := by unfold shr; rw [if_pos e]
    rw [hp]
    unfold frm at *
    have q0 : ∀ S, oEq (.tup [.int p2, .int q2, .int (kk q2 a2 b2)]) (.tup [.int (q1 - p1), .int q1, .int (q1 - 1 - kk q1 a1 b1)]) S = some (.bl true, S) := fun S => by rw [oEq_form, decide_eq_true (by omega)]
    clear e
    simp [b_law_due_v2, h1, h2, h5, q0, shD]
  · have hp : shr p1 q1 a1 b1 p2 q2 a2 b2 = fst? (fun l => dut p1 q1 a1 b1 l == dut p2 q2 a2 b2 l) 0 (q1 + q2).toNat := by unfold shr; rw [if_neg e]
    obtain ⟨l, hl⟩ : ∃ l, shr p1 q1 a1 b1 p2 q2 a2 b2 = some l := by
      rw [← part_shr r1]
      obtain ⟨l, hl, _⟩ := part_some (r1.form.contr.rf r1.q2) r2 (by rw [r1.form.contr.kk]; exact e)
      exact ⟨l, hl⟩
    rw [hl] at hp ⊢
    have q0 : ∀ S, oEq (.tup [.int p2, .int q2, .int (kk q2 a2 b2)]) (.tup [.int (q1 - p1), .int q1, .int (q1 - 1 - kk q1 a1 b1)]) S = some (.bl false, S) := fun S => by rw [oEq_form, decide_eq_false (by omega)]
    have m : ((q1 + q2).toNat : Int) = q1 + q2 := by omega
    have w := wh_ret (S := S) (t := e2 oLe (eV 2) (e2 oAdd (e2 oIx (e2 oIx (eV 0) (eC (.int 0))) (eC (.int 1))) (e2 oIx (e2 oIx (eV 1) (eC (.int 0))) (eC (.int 1)))))
      (b := tSeq (tSet (.tp [.nm 3, .nm 4]) (eTup [eCall c 223 [eV 0, eV 2], eCall c 223 [eV 1, eV 2]])) (tSeq (tIf (e2 oEq (eV 3) (eV 4)) (tRet (eTup [eIf (eV 3) (eC (.str "both")) (eC (.str "nobody")), eV 2])) (tPass)) (tSet (.nm 2) (e2 oAdd (eV 2) (eC (.int 1))))))
      (fun l => dut p1 q1 a1 b1 l == dut p2 q2 a2 b2 l) (fun l => shD (fun l => dut p1 q1 a1 b1 l) (some l)) (fun l s => ∃ u v, s = [some (rul p1 q1 a1 b1), some (rul p2 q2 a2 b2), some (.int l), u, v]) (q1 + q2).toNat (fun l s hI hlt => by
        obtain ⟨u, v, rfl⟩ := hI
        have : (l : Int) ≤ q1 + q2 := by omega
        simp [rul, this]) (fun l s hI hlt => by
        obtain ⟨u, v, rfl⟩ := hI
        constructor
        · intro g
          simp at g
          simp [h3, h4, g, shD]
          cases dut p2 q2 a2 b2 l <;> rfl
        · intro g
          simp at g
          refine ⟨[some (rul p1 q1 a1 b1), some (rul p2 q2 a2 b2), some (.int (l + 1)), some (.bl (dut p1 q1 a1 b1 l)), some (.bl (dut p2 q2 a2 b2 l))], ?_, _, _, rfl⟩
          simp [h3, h4, g]) (q1 + q2).toNat 0 [some (rul p1 q1 a1 b1), some (rul p2 q2 a2 b2), some (.int 0), none, none] l ⟨none, none, rfl⟩ (by omega) hp.symm
    have w2 := while_of w (by show (q1 + q2).toNat ≤ 2 ^ 60; omega)
    clear w hp hl e
    unfold frm at *
    simp [b_law_due_v2, h1, h2, h5, q0, w2]
theorem c_due {p1 q1 a1 b1 p2 q2 a2 b2 : Int} (r1 : IsRule p1 q1 a1 b1) (r2 : IsRule p2 q2 a2 b2) : callN Lib (n + 3) 245 [rul p1 q1 a1 b1, rul p2 q2 a2 b2] S = .ok (shD (fun l => dut p1 q1 a1 b1 l) (shr p1 q1 a1 b1 p2 q2 a2 b2)) S := by
  rw [callN_eq (d := f_law_due_v2) rfl]
  exact run_keep rfl (b_due_ok _ r1 r2 (c_form r1) (c_form r2) (c_contrary ..) (fun k => c_duty r1 k) (fun k => c_duty r2 k))
end
end Q
namespace Q
open PySem L2
section
variable {n k : Nat} {S : Store}
theorem b_near0_ok (c : CallT) {S1 S2 : Store} (rr : D) (p q kk most : Int) (f X : D) (h0 : c 224 [rr] S = .ok f S) (h00 : c 244 [f] S = .ok (frm p q kk) S) (h1 : c 217 [.ptr k, .int 5] S = .ok (.int 0) S1) (h2 : c 221 [.ptr k, .int most] S1 = .ok X S2) :
    b_law_near_v3 c [some (.ptr k), some rr, some (.int most), none, none, none, none, none] S = some (.ret X, S2) := by
  unfold frm at *
  simp [b_law_near_v3, h0, h00, h1, h2]
theorem b_near1_ok (c : CallT) {S1 S2 : Store} (rr : D) (p q kk most w : Int) (f X Y : D) (q1 : 1 ≤ q) (q2 : q ≤ 10000) (h0 : c 224 [rr] S = .ok f S) (h00 : c 244 [f] S = .ok (frm p q kk) S) (h1 : c 217 [.ptr k, .int 5] S = .ok (.int 1) S1)
    (h2 : c 217 [.ptr k, .int (fin q)] S1 = .ok (.int w) S2) (h3 : c 220 [.int p, .int q] S1 = .ok X S1) (h4 : c 220 [.int (kk * fin q + w), .int (q * fin q)] S2 = .ok Y S2) :
    b_law_near_v3 c [some (.ptr k), some rr, some (.int most), none, none, none, none, none] S = some (.ret (.tup [X, Y]), S2) := by
  have f1 := fin1 q
  have f9 := fin9 q
  have m2 := fun (i : Int) (S : Store) => oMul_r (S := S) (i := i) (j := fin q) (by omega) (by omega)
  have d2 := fun (i : Int) (S : Store) => oDiv_62 (S := S) (i := i) (j := q) (by omega) (by omega)
  have e : (if (if 10000 / q < 9 then 10000 / q else 9) > 1 then (if 10000 / q < 9 then 10000 / q else 9) else 1) = fin q := by unfold fin; split <;> omega
  generalize fin q = F at *
  unfold frm at *
  simp [b_law_near_v3, h0, h00, h1, h3, d2]
  simp at e
  simp [e, m2, h2, h4]
theorem b_near2_ok (c : CallT) {S1 : Store} (rr : D) (p q kk most : Int) (f X : D) (q1 : 1 ≤ q) (h0 : c 224 [rr] S = .ok f S) (h00 : c 244 [f] S = .ok (frm p q kk) S) (h1 : c 217 [.ptr k, .int 5] S = .ok (.int 2) S1)
    (h3 : c 225 [frm p q ((kk + 1) % q)] S1 = .ok X S1) :
    b_law_near_v3 c [some (.ptr k), some rr, some (.int most), none, none, none, none, none] S = some (.ret X, S1) := by
  have m := fun (i : Int) (S : Store) => oMod_pos (S := S) (i := i) (j := q) (by omega)
  unfold frm at *
  simp [b_law_near_v3, h0, h00, h1, h3, m]
theorem b_near3_ok (c : CallT) {S1 S2 : Store} (rr : D) (p q kk most w : Int) (f X Y : D) (h0 : c 224 [rr] S = .ok f S) (h00 : c 244 [f] S = .ok (frm p q kk) S) (h1 : c 217 [.ptr k, .int 5] S = .ok (.int 3) S1)
    (h2 : c 218 [.ptr k, .lst [.int 1, .int (-1)]] S1 = .ok (.int w) S2) (h3 : c 220 [.int (max 0 (min q (p + w))), .int q] S2 = .ok X S2) (h4 : c 220 [.int kk, .int q] S2 = .ok Y S2) :
    b_law_near_v3 c [some (.ptr k), some rr, some (.int most), none, none, none, none, none] S = some (.ret (.tup [X, Y]), S2) := by
  have e : (if (if p + w < q then p + w else q) > 0 then (if p + w < q then p + w else q) else 0) = max 0 (min q (p + w)) := by split <;> omega
  generalize max 0 (min q (p + w)) = F at *
  simp at e
  unfold frm at *
  simp [b_law_near_v3, h0, h00, h1, h2, h3, h4, e]
theorem b_near4_ok (c : CallT) {S1 : Store} (p0 a b : Int) (p q kk most : Int) (f X : D) (h0 : c 224 [rul p0 q a b] S = .ok f S) (h00 : c 244 [f] S = .ok (frm p q kk) S) (h1 : c 217 [.ptr k, .int 5] S = .ok (.int 4) S1)
    (h3 : c 220 [.int p, .int q] S1 = .ok X S1) :
    b_law_near_v3 c [some (.ptr k), some (rul p0 q a b), some (.int most), none, none, none, none, none] S = some (.ret (.tup [X, .tup [.int a, .int b]]), S1) := by
  unfold frm rul at *
  simp [b_law_near_v3, h0, h00, h1, h3]
theorem c_near (H : Hd k S) {p q a b : Int} (r : IsRule p q a b) (most : Int) (h1 : 1 ≤ most) (h2 : most ≤ 10000) :
    ∃ p' q' a' b' S', callN Lib (n + 4) 246 [.ptr k, rul p q a b, .int most] S = .ok (rul p' q' a' b') S' ∧ Hd k S' ∧ IsRule p' q' a' b' := by
  obtain ⟨z, S1, e1, H1, -, z0, z5⟩ := c_draw (n := n + 2) H 5 (by omega) (by omega)
  have g1 := r.q1; have g2 := r.q2; have g7 := r.b1; have g8 := r.b2
  have f := r.form.contr
  obtain ⟨u1, u2, u3, u4, u5, u6⟩ := id f
  have h0 := c_form (n := n + 2) (S := S) r
  have h00 := c_contrary (n := n + 2) (S := S) p q (kk q a b)
  generalize q - 1 - kk q a b = k' at *
  generalize q - p = p' at *
  have P2 : ∀ v ∈ [(1 : Int), -1], -1 ≤ v ∧ v ≤ 1 := fun v hv => by
    simp only [List.mem_cons, List.not_mem_nil, or_false] at hv
    omega
  have l1 : ∀ S, callN Lib (n + 3) 220 [.int p', .int q] S = .ok (loD p' q) S := fun S => c_low p' q u2 (by omega) (by omega)
  have zc : z = 0 ∨ z = 1 ∨ z = 2 ∨ z = 3 ∨ z = 4 := by omega
  rcases zc with rfl | rfl | rfl | rfl | rfl
  · obtain ⟨p', q', a', b', S2, e2, H2, r2⟩ := c_rule (n := n) H1 most h1 h2
    refine ⟨p', q', a', b', S2, ?_, H2, r2⟩
    rw [callN_eq (d := f_law_near_v3) rfl]
    exact run_keep rfl (b_near0_ok _ _ _ _ _ most _ _ h0 h00 e1 e2)
  · have f1 := fin1 q
    have f9 := fin9 q
    have fq := fin_q g1 g2
    obtain ⟨w, S2, e2, H2, -, w0, w1⟩ := c_draw (n := n + 2) H1 (fin q) (by omega) (by omega)
    have v0 : 0 ≤ k' * fin q := Int.mul_nonneg u5 (by omega)
    have v1 : (k' + 1) * fin q ≤ q * fin q := Int.mul_le_mul_of_nonneg_right (by omega) (by omega)
    rw [Int.add_mul] at v1
    have v2 : 0 < q * fin q := Int.mul_pos (by omega) (by omega)
    refine ⟨_, _, _, _, S2, ?_, H2, lo_rule (p := p') (q := q) (a := k' * fin q + w) (b := q * fin q) (by omega) g2 u2 u3 v2 fq (by omega) (by omega)⟩
    rw [callN_eq (d := f_law_near_v3) rfl]
    exact run_keep rfl (b_near1_ok _ _ _ _ _ most w _ _ _ g1 g2 h0 h00 e1 e2 (l1 S1) (c_low _ _ (by omega) v2 (by omega)))
  · have m0 := Int.emod_nonneg (k' + 1) (show q ≠ 0 by omega)
    have m1 := Int.emod_lt_of_pos (k' + 1) (show 0 < q by omega)
    have f2 : IsForm p' q ((k' + 1) % q) := ⟨u1, u2, u3, u4, m0, m1⟩
    refine ⟨_, _, _, _, S1, ?_, H1, f2.rf g2⟩
    rw [callN_eq (d := f_law_near_v3) rfl]
    exact run_keep rfl (b_near2_ok _ _ _ _ _ most _ _ g1 h0 h00 e1 (c_of_form f2 g2))
  · obtain ⟨w, S2, e2, H2, -, w0, w1⟩ := c_anyi (n := n + 1) H1 [1, -1] (by simp) (by simp) _ P2
    refine ⟨_, _, _, _, S2, ?_, H2, lo_rule (p := max 0 (min q (p' + w))) (q := q) (a := k') (b := q) (by omega) g2 (by omega) (by omega) (by omega) g2 u5 u6⟩
    rw [callN_eq (d := f_law_near_v3) rfl]
    exact run_keep rfl (b_near3_ok _ _ _ _ _ most w _ _ _ h0 h00 e1 e2 (c_low _ _ (by omega) (by omega) (by omega)) (c_low _ _ u5 (by omega) (by omega)))
  · refine ⟨(lo p' q).1, (lo p' q).2, a, b, S1, ?_, H1, lo_y1 (by omega), Int.le_trans (lo_y2 (by omega)) g2, lo_x0 u2, lo_le (by omega) u3, lo_gcd (by omega), r.b1, r.b2, r.a0, r.a1, r.ab⟩
    rw [callN_eq (d := f_law_near_v3) rfl]
    exact run_keep rfl (b_near4_ok _ _ _ _ _ _ _ most _ _ h0 h00 e1 (l1 S1))
theorem chs_wrd (l : List Bool) : chs (wrd l) = l.map fun b => .str (sgn b) := by
  unfold chs wrd
  rw [List.toList_toArray, List.map_map]
  exact List.map_congr_left fun b _ => by rw [sgn_wrd]; rfl
def contraPair (b : Bool) : D := .tup [.str (sgn b), .str (sgn !b)]
theorem zip_contra (l : List Bool) : iZip [.str (wrd l), .str (wrd (l.map not))] = some (l.map contraPair) := by
  have e : iZip [.str (wrd l), .str (wrd (l.map not))] = some (List.zipWith (fun d e => .tup [d, e]) (chs (wrd l)) (chs (wrd (l.map not)))) := rfl
  rw [e, chs_wrd, chs_wrd, List.map_map]
  congr 1
  induction l with
  | nil => rfl
  | cons b l ih =>
    rw [List.map_cons, List.map_cons, List.zipWith_cons_cons, ih rfl, List.map_cons]
    rfl
theorem lc_contra {s : Sl} {l : List Bool} (h7 : 7 < s.length) (h8 : 8 < s.length) (hl : l.length ≤ 1000) :
    lcL (.tp [.nm 7, .nm 8]) (eC (.bl true)) (e2 oNe (eV 7) (eV 8)) s (l.map contraPair) [] S = .ok (.lst ((l.map contraPair).map fun _ => .bl true)) S := by
  rw [lc_mapP (fun _ => .bl true)]
  · rfl
  · intro z hz
    obtain ⟨b, _, rfl⟩ := List.mem_map.mp hz
    refine ⟨(s.set 7 (some (.str (sgn b)))).set 8 (some (.str (sgn !b))), by simp [contraPair], rfl, ?_⟩
    have e : ¬ sgn b = sgn !b := by cases b <;> decide
    simp [h7, h8, e]
  · rw [PySem.sizeLine_eq, List.length_map]
    simp
    omega
theorem b_right_ok (c : CallT) {S1 S2 S3 : Store} (rr o o2 f f' : D) (u v : Int) (l : List Bool) (hl : l.length ≤ 1000) (day : Int)
    (h1 : c 87 [rr] S = .ok o S) (h2 : c 224 [rr] S = .ok f S) (h3 : c 244 [f] S = .ok f' S) (h4 : c 225 [f'] S = .ok o S) (h5 : c 219 [o, o] S = .ok (.bl true) S)
    (h6 : c 87 [o] S = .ok o2 S) (h7 : c 225 [f] S = .ok o2 S) (h8 : c 219 [o2, o2] S = .ok (.bl true) S)
    (h9 : c 217 [.ptr k, .int 1000000000] S = .ok (.int u) S1) (h10 : c 218 [.ptr k, .lst [.int 0, .int u]] S1 = .ok (.int day) S2) (h11 : c 217 [.ptr k, .int 80] S2 = .ok (.int v) S3)
    (h12 : c 66 [rr, .int day, .int (1 + v)] S3 = .ok (.str (wrd l)) S3) (h13 : c 66 [o, .int day, .int (1 + v)] S3 = .ok (.str (wrd (l.map not))) S3)
    (h14 : c 231 [rr, o] S3 = .ok (.tup [.str "each"]) S3) (h15 : c 231 [o, rr] S3 = .ok (.tup [.str "each"]) S3) (h16 : c 80 [o] S3 = .ok f' S3)
    (h17 : c 224 [rr] S3 = .ok f S3) (h18 : c 244 [f] S3 = .ok f' S3)
    (h19 : c 219 [.lst [.tup [.str "each"], .tup [.str "each"], f'], .lst [.tup [.str "each"], .tup [.str "each"], f']] S3 = .ok (.bl true) S3) :
    b_law_is_right c [some (.ptr k), some rr, none, none, none, none, none, none, none] S = some (.ret (.bl true), S3) := by
  have zp := zip_contra l
  have lc := fun s a b => lc_contra (S := S3) (s := s) (l := l) a b hl
  generalize wrd (l.map not) = w2 at *
  generalize wrd l = w1 at *
  generalize l.map contraPair = zs at *
  have at' := all_true zs
  have bt := blsOf_true zs
  simp [b_law_is_right, h1, h2, h3, h4, h5, h6, h7, h8, h9, h10, h11, h12, h13, zp, lc, oAll, bt, at', h14, h15, h16, h17, h18, h19]
theorem days_not {p q a b : Int} (r : IsRule p q a b) (f : Int) (m : Nat) : days (q - p) q (lo (q - 1 - kk q a b) q).1 (lo (q - 1 - kk q a b) q).2 f m = (days p q a b f m).map not := by
  unfold days
  rw [List.map_map]
  exact List.map_congr_left fun i _ => oth_dut r _
theorem shr_oth {p q a b : Int} (r : IsRule p q a b) : shr p q a b (q - p) q (lo (q - 1 - kk q a b) q).1 (lo (q - 1 - kk q a b) q).2 = none := by
  unfold shr
  rw [if_pos ⟨rfl, rfl, r.form.contr.kk.symm⟩]
theorem c_right (H : Hd k S) {p q a b : Int} (r : IsRule p q a b) : ∃ S', callN Lib (n + 8) 247 [.ptr k, rul p q a b] S = .ok (.bl true) S' ∧ Hd k S' := by
  have f := r.form
  have g := f.contr
  have ro := g.rf r.q2
  have h1 := c_other_days (n := n + 1) (S := S) r
  have h2 := fun S => c_form (n := n + 6) (S := S) r
  have h3 := fun S => c_contrary (n := n + 6) (S := S) p q (kk q a b)
  have h4 := c_of_form (n := n + 5) (S := S) g r.q2
  have h5 := same_rul (n := n + 4) (S := S) (q - p) q (lo (q - 1 - kk q a b) q).1 (lo (q - 1 - kk q a b) q).2
  have h6 := c_other_days (n := n + 1) (S := S) ro
  have h7 := c_of_form (n := n + 5) (S := S) f r.q2
  rw [show oth (q - p) q (kk q (lo (q - 1 - kk q a b) q).1 (lo (q - 1 - kk q a b) q).2) = rul p q (lo (kk q a b) q).1 (lo (kk q a b) q).2 by
    unfold oth
    rw [g.kk, show q - (q - p) = p by omega, show q - 1 - (q - 1 - kk q a b) = kk q a b by omega]] at h6
  have h8 := same_rul (n := n + 4) (S := S) p q (lo (kk q a b) q).1 (lo (kk q a b) q).2
  obtain ⟨u, S1, e1, H1, -, u0, u1⟩ := c_draw (n := n + 6) H 1000000000 (by omega) (by omega)
  obtain ⟨day, S2, e2, H2, -, f0, f1⟩ := c_anyi (n := n + 5) H1 [0, u] (by simp) (by simp) (fun v => 0 ≤ v ∧ v ≤ 1000000000) (fun v hv => by
    simp only [List.mem_cons, List.not_mem_nil, or_false] at hv
    omega)
  obtain ⟨v, S3, e3, H3, -, v0, v1⟩ := c_draw (n := n + 6) H2 80 (by omega) (by omega)
  have m1 := c_made (n := n + 1) (S := S3) r day (1 + v).toNat f0 (by omega) (by omega) (by omega)
  have m2 := c_made (n := n + 1) (S := S3) ro day (1 + v).toNat f0 (by omega) (by omega) (by omega)
  rw [days_not r] at m2
  have hm : (((1 + v).toNat : Nat) : Int) = 1 + v := by omega
  rw [hm] at m1 m2
  have s1 := c_sharing (n := n + 1) (S := S3) r ro
  have s2 := c_sharing (n := n + 1) (S := S3) ro r
  rw [shr_comm, shr_oth r] at s2
  rw [shr_oth r] at s1
  have n1 : callN Lib (n + 7) 80 [rul (q - p) q (lo (q - 1 - kk q a b) q).1 (lo (q - 1 - kk q a b) q).2] S3 = .ok (frm (q - p) q (kk q (lo (q - 1 - kk q a b) q).1 (lo (q - 1 - kk q a b) q).2)) S3 := c_normal (n := n + 1) (S := S3) ro
  rw [g.kk] at n1
  have sm : callN Lib (n + 7) 219 [.lst [.tup [.str "each"], .tup [.str "each"], frm (q - p) q (q - 1 - kk q a b)], .lst [.tup [.str "each"], .tup [.str "each"], frm (q - p) q (q - 1 - kk q a b)]] S3 = .ok (.bl true) S3 := c_same_lst _ (fun d hd => by
    simp only [List.mem_cons, List.not_mem_nil, or_false] at hd
    rcases hd with rfl | rfl | rfl
    · exact same_shD (n := n + 4) (fun _ => true) none
    · exact same_shD (n := n + 4) (fun _ => true) none
    · exact same_frm (n := n + 4) _ _ _) (by simp)
  refine ⟨S3, ?_, H3⟩
  rw [callN_eq (d := f_law_is_right) rfl]
  exact run_keep rfl (b_right_ok _ _ _ _ _ _ u v _ (by rw [days_len]; omega) day h1 (h2 S) (h3 S) h4 h5 h6 h7 h8 e1 e2 e3 m1 m2 s1 s2 n1 (h2 S3) (h3 S3) sm)
end
end Q
namespace Q
open PySem L2
section
variable {n k : Nat} {S : Store}
theorem oEq_shD (f : Nat → Bool) (P : Option Nat) : oEq (shD f P) (.tup [.str "none"]) S = some (.bl false, S) := by
  have a1 : PyData.strOk "each" = true := by decide +kernel
  have a2 : PyData.strOk "none" = true := by decide +kernel
  have a3 : PyData.strOk "both" = true := by decide +kernel
  have a4 : PyData.strOk "nobody" = true := by decide +kernel
  have b1 : (Str.ofString "each" == Str.ofString "none") = false := by decide
  cases P with
  | none => simp [shD, oEq, eqD, pdT, D.pd, pds, SeqAt.shaped, PyData.canLay0, PyData.canLayAll0, PyData.depth, PyData.depthAll, PyData.eqv, PyData.eqvAll, a1, a2, b1]
  | some l => cases e : f l <;> simp [shD, e, oEq, eqD, pdT, D.pd, pds, SeqAt.shaped, PyData.canLay0, PyData.canLayAll0, PyData.depth, PyData.depthAll, PyData.eqv, PyData.eqvAll, a2, a3, a4]
def Inv13 (s : Sl) (S : Store) : Prop := s.length = 9 ∧ s[1]? = some (some (.ptr 0)) ∧ Hd 0 S
def turn13 (c : CallT) : TSt := tSeq (tSet (.nm 5) (eIf (e2 oEq (eV 4) (eC (.int 5))) (eCall c 218 [eV 1, eLst [eC (.int 6), eC (.int 40), eC (.int 1000), e2 oPow (eC (.int 10)) (eC (.int 4))]]) (eCall c 218 [eV 1, eLst [eC (.int 6), eC (.int 40), eC (.int 200)]]))) (tSeq (tSet (.nm 6) (eCall c 221 [eV 1, eV 5])) (tSeq (tSet (.nm 7) (eCall c 246 [eV 1, eV 6, eV 5])) (tSeq (tIf (eNot (eCall c 247 [eV 1, eV 6])) (tRet (eC (.bl false))) (tPass)) (tSeq (tSet (.tp [.nm 8, .nm 3]) (eTup [eCall c 245 [eV 6, eV 7], eLst [eCall c 231 [eV 6, eV 7], eCall c 231 [eV 7, eV 6]]])) (tIf (eOr (e2 oEq (eV 8) (eTup [eC (.str "none")])) (eNot (eCall c 219 [eV 3, eLst [eV 8, eV 8]]))) (tRet (eC (.bl false))) (tPass))))))
theorem turn13_ok (c : CallT) {S1 S2 S3 S4 : Store} (s : Sl) (j m : Int) (x y z : D) (hl : s.length = 9) (hs : s[1]? = some (some (.ptr 0))) (hj : s[4]? = some (some (.int j)))
    (h1 : (if j = 5 then c 218 [.ptr 0, .lst [.int 6, .int 40, .int 1000, .int 10000]] S else c 218 [.ptr 0, .lst [.int 6, .int 40, .int 200]] S) = .ok (.int m) S1)
    (h2 : c 221 [.ptr 0, .int m] S1 = .ok x S2) (h3 : c 246 [.ptr 0, x, .int m] S2 = .ok y S3) (h4 : c 247 [.ptr 0, x] S3 = .ok (.bl true) S4)
    (h5 : c 245 [x, y] S4 = .ok z S4) (h6 : c 231 [x, y] S4 = .ok z S4) (h7 : c 231 [y, x] S4 = .ok z S4) (h8 : ∀ S, oEq z (.tup [.str "none"]) S = some (.bl false, S))
    (h9 : c 219 [.lst [z, z], .lst [z, z]] S4 = .ok (.bl true) S4) :
    turn13 c s S = some (.nx (((((s.set 5 (some (.int m))).set 6 (some x)).set 7 (some y)).set 8 (some z)).set 3 (some (.lst [z, z]))), S4) := by
  unfold turn13
  have l3 : 3 < s.length := by omega
  have l5 : 5 < s.length := by omega
  have l6 : 6 < s.length := by omega
  have l7 : 7 < s.length := by omega
  have l8 : 8 < s.length := by omega
  clear hl
  by_cases e : j = 5
  · rw [if_pos e] at h1
    simp [l3, l5, l6, l7, l8, hs, hj, e, h1, h2, h3, h4, h5, h6, h7, h8, h9]
  · rw [if_neg e] at h1
    simp [l3, l5, l6, l7, l8, hs, hj, e, h1, h2, h3, h4, h5, h6, h7, h8, h9]
theorem turn13_inv (s : Sl) (j : Int) (h : Inv13 s S) : ∃ s2 S2, turn13 (callN Lib (n + 8)) (s.set 4 (some (.int j))) S = some (.nx s2, S2) ∧ Inv13 s2 S2 := by
  obtain ⟨hl, hs, H⟩ := h
  have P : ∀ vs : List Int, (∀ v ∈ vs, 1 ≤ v ∧ v ≤ 10000) → 0 < vs.length → vs.length ≤ 1000 → ∃ v S', callN Lib (n + 8) 218 [.ptr 0, .lst (vs.map .int)] S = .ok (.int v) S' ∧ Hd 0 S' ∧ 1 ≤ v ∧ v ≤ 10000 := fun vs hv h0 h1 => by
    obtain ⟨v, S', e, H', _, pv⟩ := c_anyi (n := n + 6) H vs h0 h1 _ hv
    exact ⟨v, S', e, H', pv⟩
  have main : ∃ m S1, (if j = 5 then callN Lib (n + 8) 218 [.ptr 0, .lst [.int 6, .int 40, .int 1000, .int 10000]] S else callN Lib (n + 8) 218 [.ptr 0, .lst [.int 6, .int 40, .int 200]] S) = .ok (.int m) S1 ∧ Hd 0 S1 ∧ 1 ≤ m ∧ m ≤ 10000 := by
    by_cases e : j = 5
    · rw [if_pos e]
      exact P [6, 40, 1000, 10000] (fun v hv => by
        simp only [List.mem_cons, List.not_mem_nil, or_false] at hv
        omega) (by simp) (by simp)
    · rw [if_neg e]
      exact P [6, 40, 200] (fun v hv => by
        simp only [List.mem_cons, List.not_mem_nil, or_false] at hv
        omega) (by simp) (by simp)
  obtain ⟨m, S1, e1, H1, m1, m2⟩ := main
  obtain ⟨p, q, a, b, S2, e2, H2, r⟩ := c_rule (n := n + 5) H1 m m1 m2
  obtain ⟨p', q', a', b', S3, e3, H3, r'⟩ := c_near (n := n + 4) H2 r m m1 m2
  obtain ⟨S4, e4, H4⟩ := c_right (n := n) H3 r
  have d1 := c_due (n := n + 5) (S := S4) r r'
  have d2 := c_sharing (n := n + 2) (S := S4) r r'
  have d3 := c_sharing (n := n + 2) (S := S4) r' r
  rw [shr_comm, shD_comm] at d3
  refine ⟨_, S4, turn13_ok _ (s.set 4 (some (.int j))) j m _ _ _ (by simp [hl]) (by simpa using hs) (by simp [hl]) e1 e2 e3 e4 d1 d2 d3 (fun S => oEq_shD _ _) (same_lst2 (same_shD (n := n + 5) _ _) (same_shD (n := n + 5) _ _)), by simp [hl], by simpa using hs, H4⟩
theorem b_law13_ok (c : CallT) {S S1 S2 : Store} {s2 : Sl} (X : D) (h0 : c 216 [X] S = .ok (.ptr 0) S1)
    (h1 : c 87 [rul 2 5 1 2] S1 = .ok (rul 3 5 2 5) S1) (h2 : c 231 [rul 2 5 1 2, rul 3 5 2 5] S1 = .ok (.tup [.str "each"]) S1) (h3 : c 231 [rul 2 5 1 2, rul 2 5 1 2] S1 = .ok (.tup [.str "nobody", .int 0]) S1)
    (h4 : c 87 [rul 0 1 1 3] S1 = .ok (rul 1 1 0 1) S1)
    (h5 : c 219 [.lst [rul 3 5 2 5, .tup [.str "each"], .tup [.str "nobody", .int 0], rul 1 1 0 1], .lst [rul 3 5 2 5, .tup [.str "each"], .tup [.str "nobody", .int 0], rul 1 1 0 1]] S1 = .ok (.bl true) S1)
    (h7 : c 231 [rul 1 1 0 1, rul 1 1 1 2] S1 = .ok (.tup [.str "both", .int 0]) S1) (h8 : c 219 [.tup [.str "both", .int 0], .tup [.str "both", .int 0]] S1 = .ok (.bl true) S1)
    (h6 : forL (.nm 4) (turn13 c) (rngL 0 6) [some X, some (.ptr 0), some (rul 2 5 1 2), some (.lst [rul 3 5 2 5, .tup [.str "each"], .tup [.str "nobody", .int 0], rul 1 1 0 1]), none, none, none, none, none] S1 = some (.nx s2, S2)) :
    b_law_v14 c [some X, none, none, none, none, none, none, none, none] S = some (.ret (.bl true), S2) := by
  have rg : iRng1 [.int 6] = some (rngL 0 6) := iRng1_nat (m := 6) (by omega)
  unfold turn13 at h6
  unfold rul at *
  simp [b_law_v14, h0, h1, h2, h3, h4, h5, h7, h8, rg, h6]
theorem law_k13 (ns : List Int) (hl : ns.length ≤ 63) : ∃ S, callN Lib 100 248 [.src ns] ⟨[], []⟩ = .ok (.bl true) S := by
  obtain ⟨h, e0, ok⟩ := c_hand (n := 98) (S := ⟨[], []⟩) ns
  have H : Hd 0 ((⟨[], []⟩ : Store).new h.d) := ⟨h, get_new_self, ok⟩
  generalize (⟨[], []⟩ : Store).new h.d = S1 at e0 H
  have ra : IsRule 2 5 1 2 := ⟨by decide, by decide, by decide, by decide, by decide, by decide, by decide, by decide, by decide, by decide⟩
  have rb : IsRule 3 5 2 5 := ⟨by decide, by decide, by decide, by decide, by decide, by decide, by decide, by decide, by decide, by decide⟩
  have rc : IsRule 0 1 1 3 := ⟨by decide, by decide, by decide, by decide, by decide, by decide, by decide, by decide, by decide, by decide⟩
  have rd : IsRule 1 1 0 1 := ⟨by decide, by decide, by decide, by decide, by decide, by decide, by decide, by decide, by decide, by decide⟩
  have re : IsRule 1 1 1 2 := ⟨by decide, by decide, by decide, by decide, by decide, by decide, by decide, by decide, by decide, by decide⟩
  have h1 := c_other_days (n := 93) (S := S1) ra
  have h2 := c_sharing (n := 93) (S := S1) ra rb
  have h3 := c_sharing (n := 93) (S := S1) ra ra
  have h4 := c_other_days (n := 93) (S := S1) rc
  have h7 := c_sharing (n := 93) (S := S1) rd re
  have v1 : oth 2 5 (kk 5 1 2) = rul 3 5 2 5 := by
    have z : kk 5 1 2 = 2 := by decide
    have w : lo (5 - 1 - 2) 5 = (2, 5) := by decide
    unfold oth
    rw [z, w]; rfl
  have v2 : shr 2 5 1 2 3 5 2 5 = none := by decide
  have v3 : shr 2 5 1 2 2 5 1 2 = some 0 := by decide
  have v3' : dut 2 5 1 2 0 = false := by decide
  have v4 : oth 0 1 (kk 1 1 3) = rul 1 1 0 1 := by
    have z : kk 1 1 3 = 0 := by decide
    have w : lo (1 - 1 - 0) 1 = (0, 1) := by decide
    unfold oth
    rw [z, w]; rfl
  have v7 : shr 1 1 0 1 1 1 1 2 = some 0 := by decide
  have v7' : dut 1 1 0 1 0 = true := by decide
  rw [v1] at h1
  rw [v2] at h2
  rw [v3] at h3
  rw [v4] at h4
  rw [v7] at h7
  have w3 : shD (fun l => dut 2 5 1 2 l) (some 0) = .tup [.str "nobody", .int 0] := by
    show D.tup [.str (if dut 2 5 1 2 0 = true then "both" else "nobody"), .int 0] = _
    rw [v3']; rfl
  have w7 : shD (fun l => dut 1 1 0 1 l) (some 0) = .tup [.str "both", .int 0] := by
    show D.tup [.str (if dut 1 1 0 1 0 = true then "both" else "nobody"), .int 0] = _
    rw [v7']; rfl
  rw [w3] at h3
  rw [w7] at h7
  have h5 : callN Lib 99 219 [.lst [rul 3 5 2 5, .tup [.str "each"], .tup [.str "nobody", .int 0], rul 1 1 0 1], .lst [rul 3 5 2 5, .tup [.str "each"], .tup [.str "nobody", .int 0], rul 1 1 0 1]] S1 = .ok (.bl true) S1 := c_same_lst (n := 98) _ (fun d hd => by
    simp only [List.mem_cons, List.not_mem_nil, or_false] at hd
    rcases hd with rfl | rfl | rfl | rfl
    · exact same_rul (n := 95) 3 5 2 5
    · exact same_shD (n := 96) (fun _ => true) none
    · exact same_tup2 (n := 97) (c_same_str _) (c_same_int _)
    · exact same_rul (n := 95) 1 1 0 1) (by simp)
  have h8 : callN Lib 99 219 [.tup [.str "both", .int 0], .tup [.str "both", .int 0]] S1 = .ok (.bl true) S1 := same_tup2 (n := 98) (c_same_str _) (c_same_int _)
  obtain ⟨s2, S2, h6, -⟩ := for_inv (p := .nm 4) (b := turn13 (callN Lib 99)) Inv13 (rngL 0 6) [some (.src ns), some (.ptr 0), some (rul 2 5 1 2), some (.lst [rul 3 5 2 5, .tup [.str "each"], .tup [.str "nobody", .int 0], rul 1 1 0 1]), none, none, none, none, none] S1 ⟨rfl, rfl, H⟩ (fun d hd s S h => by
    obtain ⟨i, _, rfl⟩ := rngL_mem hd
    obtain ⟨s2, S2, e, h2⟩ := turn13_inv (n := 91) s (0 + i) h
    exact ⟨_, rfl, s2, S2, e, h2⟩)
  refine ⟨S2, ?_⟩
  rw [callN_eq (n := 99) (d := f_law_v14) rfl]
  exact run_keep rfl (b_law13_ok _ _ e0 h1 h2 h3 h4 h5 h7 h8 h6)
end
end Q
namespace HD
open PySem PySem.Spec PyProof.Rows L2 Q
def top (i : Nat) : Stmt := PySem.Challenge.pw_evenduties_k13_whole_other_days_and_shar.main.body.getD i (.Pass ⟨0, 0, 0, 0⟩)
abbrev s_is_integer : Stmt := top 3
abbrev s_is_within : Stmt := top 4
abbrev s_is_tuple_of : Stmt := top 5
abbrev s_common : Stmt := top 6
abbrev s_is_fraction : Stmt := top 7
abbrev s_frac : Stmt := top 8
abbrev s_less : Stmt := top 9
abbrev s_is_line : Stmt := top 20
abbrev s_is_rule : Stmt := top 21
abbrev s_check_rule : Stmt := top 22
abbrev s_total_to : Stmt := top 23
abbrev s_row_of : Stmt := top 24
abbrev s_made : Stmt := top 25
abbrev s_form_of : Stmt := top 30
abbrev s_normal : Stmt := top 31
abbrev s_made_of : Stmt := top 32
abbrev s_has_duty : Stmt := top 33
abbrev s_first_parting : Stmt := top 34
abbrev s_others_of : Stmt := top 35
abbrev s_other_days : Stmt := top 36
abbrev s_sharing : Stmt := top 37
abbrev s_law_hand : Stmt := top 39
abbrev s_law_draw : Stmt := top 40
abbrev s_law_any : Stmt := top 41
abbrev s_law_same : Stmt := top 42
abbrev s_law_low : Stmt := top 43
abbrev s_law_rule : Stmt := top 44
abbrev s_law_until : Stmt := top 45
abbrev s_law_has_duty : Stmt := top 46
abbrev s_law_form : Stmt := top 47
abbrev s_law_of_form : Stmt := top 48
abbrev s_law_contrary : Stmt := top 49
abbrev s_law_due : Stmt := top 50
abbrev s_law_near : Stmt := top 51
abbrev s_law_is_right : Stmt := top 52
abbrev s_law : Stmt := top 53
def d_is_integer : He.DefD := ⟨("is_integer", none), "is_integer", "is_integer", defArgs s_is_integer, defBody s_is_integer, defScope s_is_integer, [], []⟩
def d_is_within : He.DefD := ⟨("is_within", none), "is_within", "is_within", defArgs s_is_within, defBody s_is_within, defScope s_is_within, [], []⟩
def d_is_tuple_of : He.DefD := ⟨("is_tuple_of", none), "is_tuple_of", "is_tuple_of", defArgs s_is_tuple_of, defBody s_is_tuple_of, defScope s_is_tuple_of, [], []⟩
def d_common : He.DefD := ⟨("common", none), "common", "common", defArgs s_common, defBody s_common, defScope s_common, [], []⟩
def d_is_fraction : He.DefD := ⟨("is_fraction", none), "is_fraction", "is_fraction", defArgs s_is_fraction, defBody s_is_fraction, defScope s_is_fraction, [], []⟩
def d_frac : He.DefD := ⟨("frac", none), "frac", "frac", defArgs s_frac, defBody s_frac, defScope s_frac, [], []⟩
def d_less : He.DefD := ⟨("less", none), "less", "less", defArgs s_less, defBody s_less, defScope s_less, [], []⟩
def d_is_line : He.DefD := ⟨("is_line", none), "is_line", "is_line", defArgs s_is_line, defBody s_is_line, defScope s_is_line, [], []⟩
def d_is_rule : He.DefD := ⟨("is_rule", none), "is_rule", "is_rule", defArgs s_is_rule, defBody s_is_rule, defScope s_is_rule, [], []⟩
def d_check_rule : He.DefD := ⟨("check_rule", none), "check_rule", "check_rule", defArgs s_check_rule, defBody s_check_rule, defScope s_check_rule, [], []⟩
def d_total_to : He.DefD := ⟨("total_to", none), "total_to", "total_to", defArgs s_total_to, defBody s_total_to, defScope s_total_to, [], []⟩
def d_row_of : He.DefD := ⟨("row_of", none), "row_of", "row_of", defArgs s_row_of, defBody s_row_of, defScope s_row_of, [], []⟩
def d_made : He.DefD := ⟨("made", none), "made", "made", defArgs s_made, defBody s_made, defScope s_made, [], []⟩
def d_form_of : He.DefD := ⟨("form_of", none), "form_of", "form_of", defArgs s_form_of, defBody s_form_of, defScope s_form_of, [], []⟩
def d_normal : He.DefD := ⟨("normal", none), "normal", "normal", defArgs s_normal, defBody s_normal, defScope s_normal, [], []⟩
def d_made_of : He.DefD := ⟨("made_of", none), "made_of", "made_of", defArgs s_made_of, defBody s_made_of, defScope s_made_of, [], []⟩
def d_has_duty : He.DefD := ⟨("has_duty", none), "has_duty", "has_duty", defArgs s_has_duty, defBody s_has_duty, defScope s_has_duty, [], []⟩
def d_first_parting : He.DefD := ⟨("first_parting", none), "first_parting", "first_parting", defArgs s_first_parting, defBody s_first_parting, defScope s_first_parting, [], []⟩
def d_others_of : He.DefD := ⟨("others_of", none), "others_of", "others_of", defArgs s_others_of, defBody s_others_of, defScope s_others_of, [], []⟩
def d_other_days : He.DefD := ⟨("other_days", none), "other_days", "other_days", defArgs s_other_days, defBody s_other_days, defScope s_other_days, [], []⟩
def d_sharing : He.DefD := ⟨("sharing", none), "sharing", "sharing", defArgs s_sharing, defBody s_sharing, defScope s_sharing, [], []⟩
def d_law_hand : He.DefD := ⟨("_law_hand", none), "_law_hand", "_law_hand", defArgs s_law_hand, defBody s_law_hand, defScope s_law_hand, [], []⟩
def d_law_draw : He.DefD := ⟨("_law_draw", none), "_law_draw", "_law_draw", defArgs s_law_draw, defBody s_law_draw, defScope s_law_draw, [], []⟩
def d_law_any : He.DefD := ⟨("_law_any", none), "_law_any", "_law_any", defArgs s_law_any, defBody s_law_any, defScope s_law_any, [], []⟩
def d_law_same : He.DefD := ⟨("_law_same", none), "_law_same", "_law_same", defArgs s_law_same, defBody s_law_same, defScope s_law_same, [], []⟩
def d_law_low : He.DefD := ⟨("_law_low", none), "_law_low", "_law_low", defArgs s_law_low, defBody s_law_low, defScope s_law_low, [], []⟩
def d_law_rule : He.DefD := ⟨("_law_rule", none), "_law_rule", "_law_rule", defArgs s_law_rule, defBody s_law_rule, defScope s_law_rule, [], []⟩
def d_law_until : He.DefD := ⟨("_law_until", none), "_law_until", "_law_until", defArgs s_law_until, defBody s_law_until, defScope s_law_until, [], []⟩
def d_law_has_duty : He.DefD := ⟨("_law_has_duty", none), "_law_has_duty", "_law_has_duty", defArgs s_law_has_duty, defBody s_law_has_duty, defScope s_law_has_duty, [], []⟩
def d_law_form : He.DefD := ⟨("_law_form", none), "_law_form", "_law_form", defArgs s_law_form, defBody s_law_form, defScope s_law_form, [], []⟩
def d_law_of_form : He.DefD := ⟨("_law_of_form", none), "_law_of_form", "_law_of_form", defArgs s_law_of_form, defBody s_law_of_form, defScope s_law_of_form, [], []⟩
def d_law_contrary : He.DefD := ⟨("_law_contrary", none), "_law_contrary", "_law_contrary", defArgs s_law_contrary, defBody s_law_contrary, defScope s_law_contrary, [], []⟩
def d_law_due : He.DefD := ⟨("_law_due", none), "_law_due", "_law_due", defArgs s_law_due, defBody s_law_due, defScope s_law_due, [], []⟩
def d_law_near : He.DefD := ⟨("_law_near", none), "_law_near", "_law_near", defArgs s_law_near, defBody s_law_near, defScope s_law_near, [], []⟩
def d_law_is_right : He.DefD := ⟨("_law_is_right", none), "_law_is_right", "_law_is_right", defArgs s_law_is_right, defBody s_law_is_right, defScope s_law_is_right, [], []⟩
def d_law : He.DefD := ⟨("law", none), "law", "law", defArgs s_law, defBody s_law, defScope s_law, [], []⟩
def fn : List He.DefD := [d_is_integer, d_is_within, d_is_tuple_of, d_common, d_is_fraction, d_frac, d_less, d_is_line, d_is_rule, d_check_rule, d_total_to, d_row_of, d_made, d_form_of, d_normal, d_made_of, d_has_duty, d_first_parting, d_others_of, d_other_days, d_sharing, d_law_hand, d_law_draw, d_law_any, d_law_same, d_law_low, d_law_rule, d_law_until, d_law_has_duty, d_law_form, d_law_of_form, d_law_contrary, d_law_due, d_law_near, d_law_is_right, d_law]
def fa : List He.Fa := [.glo "is_integer", .glo "is_within", .glo "is_tuple_of", .glo "common", .glo "is_fraction", .glo "frac", .glo "less", .glo "is_line", .glo "is_rule", .glo "check_rule", .glo "total_to", .glo "row_of", .glo "made", .glo "form_of", .glo "normal", .glo "made_of", .glo "has_duty", .glo "first_parting", .glo "others_of", .glo "other_days", .glo "sharing", .glo "_law_hand", .glo "_law_draw", .glo "_law_any", .glo "_law_same", .glo "_law_low", .glo "_law_rule", .glo "_law_until", .glo "_law_has_duty", .glo "_law_form", .glo "_law_of_form", .glo "_law_contrary", .glo "_law_due", .glo "_law_near", .glo "_law_is_right", .glo "law", .free "len", .free "int", .free "abs", .free "isinstance", .free "range", .free "max", .free "min", .free "all", .free "zip", .free "tuple", .free "list", .free "str", .free "bool", .glo "ZERO", .glo "ONE", .int "MOST_DAYS" 500, .str "FREE" "0", .str "DUTY" "1", .int "MOST_BOTTOM" 10000, .int "MOST_DAY" 1000000000000, .str "EACH" "each", .str "BOTH" "both", .str "NOBODY" "nobody"]
def ex (K : PySem.W.Frag) : Bool := He.tupB K "ZERO" [.int 0, .int 1] && He.tupB K "ONE" [.int 1, .int 1]
abbrev R : PySem.W.OpenRow := PySem.W.OpenLaw.row PySem.Challenge.rw_evenduties_k13_whole_other_days_and_shar
abbrev hk : PySem.W.Hook := hookQ 4 fa fn ex
def ob (s : PySem.W.SharedT) : AlQ := obsQ 4 fa fn ex (HandSHeadRun.getT s)
theorem ob_eq (s : PySem.W.SharedT) : ob s = hk.obs s.abs := obsQ_eq (HandSHeadRun.getT_eq s)
def loose0 : List PySem.Str := ["__name__", "ZERO", "ONE", "is_integer", "is_within", "is_tuple_of", "common", "is_fraction", "frac", "less", "DutyError", "BadNumber", "BadRule", "MOST_DAYS", "FREE", "DUTY", "MOST_BOTTOM", "MOST_DAY", "is_line", "is_rule", "check_rule", "total_to", "row_of", "made", "EACH", "BOTH", "NOBODY", "form_of", "normal", "made_of"]
def loose1 : List PySem.Str := ["has_duty", "first_parting", "others_of", "other_days", "sharing", "_law_hand", "_law_draw", "_law_any", "_law_same", "_law_low", "_law_rule", "_law_until", "_law_has_duty", "_law_form", "_law_of_form", "_law_contrary", "_law_due", "_law_near", "_law_is_right"]
def loose : List PySem.Str := loose0 ++ loose1
set_option maxHeartbeats 0 in
theorem run (w : World) : HandSHeadRun.RunEq R (PySem.W.view R.prog [53]) hk ob 4000 loose w := by
  intro os
  kernel_rfl
structure Fx (K : PySem.W.Frag) (mg : Str → Option Value) : Prop where
  g_is_integer : mg "is_integer" = some (.ref (He.ga K "is_integer"))
  d_is_integer : ∃ fd, FunD K "is_integer" "is_integer" (defArgs s_is_integer) (defBody s_is_integer) (defScope s_is_integer) [] [] (He.ga K "is_integer") fd
  g_is_within : mg "is_within" = some (.ref (He.ga K "is_within"))
  d_is_within : ∃ fd, FunD K "is_within" "is_within" (defArgs s_is_within) (defBody s_is_within) (defScope s_is_within) [] [] (He.ga K "is_within") fd
  g_is_tuple_of : mg "is_tuple_of" = some (.ref (He.ga K "is_tuple_of"))
  d_is_tuple_of : ∃ fd, FunD K "is_tuple_of" "is_tuple_of" (defArgs s_is_tuple_of) (defBody s_is_tuple_of) (defScope s_is_tuple_of) [] [] (He.ga K "is_tuple_of") fd
  g_common : mg "common" = some (.ref (He.ga K "common"))
  d_common : ∃ fd, FunD K "common" "common" (defArgs s_common) (defBody s_common) (defScope s_common) [] [] (He.ga K "common") fd
  g_is_fraction : mg "is_fraction" = some (.ref (He.ga K "is_fraction"))
  d_is_fraction : ∃ fd, FunD K "is_fraction" "is_fraction" (defArgs s_is_fraction) (defBody s_is_fraction) (defScope s_is_fraction) [] [] (He.ga K "is_fraction") fd
  g_frac : mg "frac" = some (.ref (He.ga K "frac"))
  d_frac : ∃ fd, FunD K "frac" "frac" (defArgs s_frac) (defBody s_frac) (defScope s_frac) [] [] (He.ga K "frac") fd
  g_less : mg "less" = some (.ref (He.ga K "less"))
  d_less : ∃ fd, FunD K "less" "less" (defArgs s_less) (defBody s_less) (defScope s_less) [] [] (He.ga K "less") fd
  g_is_line : mg "is_line" = some (.ref (He.ga K "is_line"))
  d_is_line : ∃ fd, FunD K "is_line" "is_line" (defArgs s_is_line) (defBody s_is_line) (defScope s_is_line) [] [] (He.ga K "is_line") fd
  g_is_rule : mg "is_rule" = some (.ref (He.ga K "is_rule"))
  d_is_rule : ∃ fd, FunD K "is_rule" "is_rule" (defArgs s_is_rule) (defBody s_is_rule) (defScope s_is_rule) [] [] (He.ga K "is_rule") fd
  g_check_rule : mg "check_rule" = some (.ref (He.ga K "check_rule"))
  d_check_rule : ∃ fd, FunD K "check_rule" "check_rule" (defArgs s_check_rule) (defBody s_check_rule) (defScope s_check_rule) [] [] (He.ga K "check_rule") fd
  g_total_to : mg "total_to" = some (.ref (He.ga K "total_to"))
  d_total_to : ∃ fd, FunD K "total_to" "total_to" (defArgs s_total_to) (defBody s_total_to) (defScope s_total_to) [] [] (He.ga K "total_to") fd
  g_row_of : mg "row_of" = some (.ref (He.ga K "row_of"))
  d_row_of : ∃ fd, FunD K "row_of" "row_of" (defArgs s_row_of) (defBody s_row_of) (defScope s_row_of) [] [] (He.ga K "row_of") fd
  g_made : mg "made" = some (.ref (He.ga K "made"))
  d_made : ∃ fd, FunD K "made" "made" (defArgs s_made) (defBody s_made) (defScope s_made) [] [] (He.ga K "made") fd
  g_form_of : mg "form_of" = some (.ref (He.ga K "form_of"))
  d_form_of : ∃ fd, FunD K "form_of" "form_of" (defArgs s_form_of) (defBody s_form_of) (defScope s_form_of) [] [] (He.ga K "form_of") fd
  g_normal : mg "normal" = some (.ref (He.ga K "normal"))
  d_normal : ∃ fd, FunD K "normal" "normal" (defArgs s_normal) (defBody s_normal) (defScope s_normal) [] [] (He.ga K "normal") fd
  g_made_of : mg "made_of" = some (.ref (He.ga K "made_of"))
  d_made_of : ∃ fd, FunD K "made_of" "made_of" (defArgs s_made_of) (defBody s_made_of) (defScope s_made_of) [] [] (He.ga K "made_of") fd
  g_has_duty : mg "has_duty" = some (.ref (He.ga K "has_duty"))
  d_has_duty : ∃ fd, FunD K "has_duty" "has_duty" (defArgs s_has_duty) (defBody s_has_duty) (defScope s_has_duty) [] [] (He.ga K "has_duty") fd
  g_first_parting : mg "first_parting" = some (.ref (He.ga K "first_parting"))
  d_first_parting : ∃ fd, FunD K "first_parting" "first_parting" (defArgs s_first_parting) (defBody s_first_parting) (defScope s_first_parting) [] [] (He.ga K "first_parting") fd
  g_others_of : mg "others_of" = some (.ref (He.ga K "others_of"))
  d_others_of : ∃ fd, FunD K "others_of" "others_of" (defArgs s_others_of) (defBody s_others_of) (defScope s_others_of) [] [] (He.ga K "others_of") fd
  g_other_days : mg "other_days" = some (.ref (He.ga K "other_days"))
  d_other_days : ∃ fd, FunD K "other_days" "other_days" (defArgs s_other_days) (defBody s_other_days) (defScope s_other_days) [] [] (He.ga K "other_days") fd
  g_sharing : mg "sharing" = some (.ref (He.ga K "sharing"))
  d_sharing : ∃ fd, FunD K "sharing" "sharing" (defArgs s_sharing) (defBody s_sharing) (defScope s_sharing) [] [] (He.ga K "sharing") fd
  g_law_hand : mg "_law_hand" = some (.ref (He.ga K "_law_hand"))
  d_law_hand : ∃ fd, FunD K "_law_hand" "_law_hand" (defArgs s_law_hand) (defBody s_law_hand) (defScope s_law_hand) [] [] (He.ga K "_law_hand") fd
  g_law_draw : mg "_law_draw" = some (.ref (He.ga K "_law_draw"))
  d_law_draw : ∃ fd, FunD K "_law_draw" "_law_draw" (defArgs s_law_draw) (defBody s_law_draw) (defScope s_law_draw) [] [] (He.ga K "_law_draw") fd
  g_law_any : mg "_law_any" = some (.ref (He.ga K "_law_any"))
  d_law_any : ∃ fd, FunD K "_law_any" "_law_any" (defArgs s_law_any) (defBody s_law_any) (defScope s_law_any) [] [] (He.ga K "_law_any") fd
  g_law_same : mg "_law_same" = some (.ref (He.ga K "_law_same"))
  d_law_same : ∃ fd, FunD K "_law_same" "_law_same" (defArgs s_law_same) (defBody s_law_same) (defScope s_law_same) [] [] (He.ga K "_law_same") fd
  g_law_low : mg "_law_low" = some (.ref (He.ga K "_law_low"))
  d_law_low : ∃ fd, FunD K "_law_low" "_law_low" (defArgs s_law_low) (defBody s_law_low) (defScope s_law_low) [] [] (He.ga K "_law_low") fd
  g_law_rule : mg "_law_rule" = some (.ref (He.ga K "_law_rule"))
  d_law_rule : ∃ fd, FunD K "_law_rule" "_law_rule" (defArgs s_law_rule) (defBody s_law_rule) (defScope s_law_rule) [] [] (He.ga K "_law_rule") fd
  g_law_until : mg "_law_until" = some (.ref (He.ga K "_law_until"))
  d_law_until : ∃ fd, FunD K "_law_until" "_law_until" (defArgs s_law_until) (defBody s_law_until) (defScope s_law_until) [] [] (He.ga K "_law_until") fd
  g_law_has_duty : mg "_law_has_duty" = some (.ref (He.ga K "_law_has_duty"))
  d_law_has_duty : ∃ fd, FunD K "_law_has_duty" "_law_has_duty" (defArgs s_law_has_duty) (defBody s_law_has_duty) (defScope s_law_has_duty) [] [] (He.ga K "_law_has_duty") fd
  g_law_form : mg "_law_form" = some (.ref (He.ga K "_law_form"))
  d_law_form : ∃ fd, FunD K "_law_form" "_law_form" (defArgs s_law_form) (defBody s_law_form) (defScope s_law_form) [] [] (He.ga K "_law_form") fd
  g_law_of_form : mg "_law_of_form" = some (.ref (He.ga K "_law_of_form"))
  d_law_of_form : ∃ fd, FunD K "_law_of_form" "_law_of_form" (defArgs s_law_of_form) (defBody s_law_of_form) (defScope s_law_of_form) [] [] (He.ga K "_law_of_form") fd
  g_law_contrary : mg "_law_contrary" = some (.ref (He.ga K "_law_contrary"))
  d_law_contrary : ∃ fd, FunD K "_law_contrary" "_law_contrary" (defArgs s_law_contrary) (defBody s_law_contrary) (defScope s_law_contrary) [] [] (He.ga K "_law_contrary") fd
  g_law_due : mg "_law_due" = some (.ref (He.ga K "_law_due"))
  d_law_due : ∃ fd, FunD K "_law_due" "_law_due" (defArgs s_law_due) (defBody s_law_due) (defScope s_law_due) [] [] (He.ga K "_law_due") fd
  g_law_near : mg "_law_near" = some (.ref (He.ga K "_law_near"))
  d_law_near : ∃ fd, FunD K "_law_near" "_law_near" (defArgs s_law_near) (defBody s_law_near) (defScope s_law_near) [] [] (He.ga K "_law_near") fd
  g_law_is_right : mg "_law_is_right" = some (.ref (He.ga K "_law_is_right"))
  d_law_is_right : ∃ fd, FunD K "_law_is_right" "_law_is_right" (defArgs s_law_is_right) (defBody s_law_is_right) (defScope s_law_is_right) [] [] (He.ga K "_law_is_right") fd
  g_law : mg "law" = some (.ref (He.ga K "law"))
  d_law : ∃ fd, FunD K "law" "law" (defArgs s_law) (defBody s_law) (defScope s_law) [] [] (He.ga K "law") fd
  b_len : mg "len" = none
  b_int : mg "int" = none
  b_abs : mg "abs" = none
  b_isinstance : mg "isinstance" = none
  b_range : mg "range" = none
  b_max : mg "max" = none
  b_min : mg "min" = none
  b_all : mg "all" = none
  b_zip : mg "zip" = none
  b_tuple : mg "tuple" = none
  b_list : mg "list" = none
  b_str : mg "str" = none
  b_bool : mg "bool" = none
  c_ZERO : ∃ a, mg "ZERO" = some (.ref a) ∧ ∀ H, SqT K H a [.int 0, .int 1]
  c_ONE : ∃ a, mg "ONE" = some (.ref a) ∧ ∀ H, SqT K H a [.int 1, .int 1]
  c_MOST_DAYS : ∃ t, mg "MOST_DAYS" = some (.int 500 t)
  c_FREE : ∃ t, mg "FREE" = some (.str "0" t)
  c_DUTY : ∃ t, mg "DUTY" = some (.str "1" t)
  c_MOST_BOTTOM : ∃ t, mg "MOST_BOTTOM" = some (.int 10000 t)
  c_MOST_DAY : ∃ t, mg "MOST_DAY" = some (.int 1000000000000 t)
  c_EACH : ∃ t, mg "EACH" = some (.str "each" t)
  c_BOTH : ∃ t, mg "BOTH" = some (.str "both" t)
  c_NOBODY : ∃ t, mg "NOBODY" = some (.str "nobody" t)
theorem facts {K : PySem.W.Frag} {h : Heap} {mg : Str → Option Value} (X : K.In h) (G : h.Ns mainGlobals mg) (c : He.SaysD fa fn K) (e : ex K = true) : Fx K mg where
  g_is_integer := He.glo_ok X G (c.fact 0 (f := .glo "is_integer") rfl)
  d_is_integer := c.def_ 0 (d := d_is_integer) rfl
  g_is_within := He.glo_ok X G (c.fact 1 (f := .glo "is_within") rfl)
  d_is_within := c.def_ 1 (d := d_is_within) rfl
  g_is_tuple_of := He.glo_ok X G (c.fact 2 (f := .glo "is_tuple_of") rfl)
  d_is_tuple_of := c.def_ 2 (d := d_is_tuple_of) rfl
  g_common := He.glo_ok X G (c.fact 3 (f := .glo "common") rfl)
  d_common := c.def_ 3 (d := d_common) rfl
  g_is_fraction := He.glo_ok X G (c.fact 4 (f := .glo "is_fraction") rfl)
  d_is_fraction := c.def_ 4 (d := d_is_fraction) rfl
  g_frac := He.glo_ok X G (c.fact 5 (f := .glo "frac") rfl)
  d_frac := c.def_ 5 (d := d_frac) rfl
  g_less := He.glo_ok X G (c.fact 6 (f := .glo "less") rfl)
  d_less := c.def_ 6 (d := d_less) rfl
  g_is_line := He.glo_ok X G (c.fact 7 (f := .glo "is_line") rfl)
  d_is_line := c.def_ 7 (d := d_is_line) rfl
  g_is_rule := He.glo_ok X G (c.fact 8 (f := .glo "is_rule") rfl)
  d_is_rule := c.def_ 8 (d := d_is_rule) rfl
  g_check_rule := He.glo_ok X G (c.fact 9 (f := .glo "check_rule") rfl)
  d_check_rule := c.def_ 9 (d := d_check_rule) rfl
  g_total_to := He.glo_ok X G (c.fact 10 (f := .glo "total_to") rfl)
  d_total_to := c.def_ 10 (d := d_total_to) rfl
  g_row_of := He.glo_ok X G (c.fact 11 (f := .glo "row_of") rfl)
  d_row_of := c.def_ 11 (d := d_row_of) rfl
  g_made := He.glo_ok X G (c.fact 12 (f := .glo "made") rfl)
  d_made := c.def_ 12 (d := d_made) rfl
  g_form_of := He.glo_ok X G (c.fact 13 (f := .glo "form_of") rfl)
  d_form_of := c.def_ 13 (d := d_form_of) rfl
  g_normal := He.glo_ok X G (c.fact 14 (f := .glo "normal") rfl)
  d_normal := c.def_ 14 (d := d_normal) rfl
  g_made_of := He.glo_ok X G (c.fact 15 (f := .glo "made_of") rfl)
  d_made_of := c.def_ 15 (d := d_made_of) rfl
  g_has_duty := He.glo_ok X G (c.fact 16 (f := .glo "has_duty") rfl)
  d_has_duty := c.def_ 16 (d := d_has_duty) rfl
  g_first_parting := He.glo_ok X G (c.fact 17 (f := .glo "first_parting") rfl)
  d_first_parting := c.def_ 17 (d := d_first_parting) rfl
  g_others_of := He.glo_ok X G (c.fact 18 (f := .glo "others_of") rfl)
  d_others_of := c.def_ 18 (d := d_others_of) rfl
  g_other_days := He.glo_ok X G (c.fact 19 (f := .glo "other_days") rfl)
  d_other_days := c.def_ 19 (d := d_other_days) rfl
  g_sharing := He.glo_ok X G (c.fact 20 (f := .glo "sharing") rfl)
  d_sharing := c.def_ 20 (d := d_sharing) rfl
  g_law_hand := He.glo_ok X G (c.fact 21 (f := .glo "_law_hand") rfl)
  d_law_hand := c.def_ 21 (d := d_law_hand) rfl
  g_law_draw := He.glo_ok X G (c.fact 22 (f := .glo "_law_draw") rfl)
  d_law_draw := c.def_ 22 (d := d_law_draw) rfl
  g_law_any := He.glo_ok X G (c.fact 23 (f := .glo "_law_any") rfl)
  d_law_any := c.def_ 23 (d := d_law_any) rfl
  g_law_same := He.glo_ok X G (c.fact 24 (f := .glo "_law_same") rfl)
  d_law_same := c.def_ 24 (d := d_law_same) rfl
  g_law_low := He.glo_ok X G (c.fact 25 (f := .glo "_law_low") rfl)
  d_law_low := c.def_ 25 (d := d_law_low) rfl
  g_law_rule := He.glo_ok X G (c.fact 26 (f := .glo "_law_rule") rfl)
  d_law_rule := c.def_ 26 (d := d_law_rule) rfl
  g_law_until := He.glo_ok X G (c.fact 27 (f := .glo "_law_until") rfl)
  d_law_until := c.def_ 27 (d := d_law_until) rfl
  g_law_has_duty := He.glo_ok X G (c.fact 28 (f := .glo "_law_has_duty") rfl)
  d_law_has_duty := c.def_ 28 (d := d_law_has_duty) rfl
  g_law_form := He.glo_ok X G (c.fact 29 (f := .glo "_law_form") rfl)
  d_law_form := c.def_ 29 (d := d_law_form) rfl
  g_law_of_form := He.glo_ok X G (c.fact 30 (f := .glo "_law_of_form") rfl)
  d_law_of_form := c.def_ 30 (d := d_law_of_form) rfl
  g_law_contrary := He.glo_ok X G (c.fact 31 (f := .glo "_law_contrary") rfl)
  d_law_contrary := c.def_ 31 (d := d_law_contrary) rfl
  g_law_due := He.glo_ok X G (c.fact 32 (f := .glo "_law_due") rfl)
  d_law_due := c.def_ 32 (d := d_law_due) rfl
  g_law_near := He.glo_ok X G (c.fact 33 (f := .glo "_law_near") rfl)
  d_law_near := c.def_ 33 (d := d_law_near) rfl
  g_law_is_right := He.glo_ok X G (c.fact 34 (f := .glo "_law_is_right") rfl)
  d_law_is_right := c.def_ 34 (d := d_law_is_right) rfl
  g_law := He.glo_ok X G (c.fact 35 (f := .glo "law") rfl)
  d_law := c.def_ 35 (d := d_law) rfl
  b_len := He.free_ok X G (c.fact 36 (f := .free "len") rfl)
  b_int := He.free_ok X G (c.fact 37 (f := .free "int") rfl)
  b_abs := He.free_ok X G (c.fact 38 (f := .free "abs") rfl)
  b_isinstance := He.free_ok X G (c.fact 39 (f := .free "isinstance") rfl)
  b_range := He.free_ok X G (c.fact 40 (f := .free "range") rfl)
  b_max := He.free_ok X G (c.fact 41 (f := .free "max") rfl)
  b_min := He.free_ok X G (c.fact 42 (f := .free "min") rfl)
  b_all := He.free_ok X G (c.fact 43 (f := .free "all") rfl)
  b_zip := He.free_ok X G (c.fact 44 (f := .free "zip") rfl)
  b_tuple := He.free_ok X G (c.fact 45 (f := .free "tuple") rfl)
  b_list := He.free_ok X G (c.fact 46 (f := .free "list") rfl)
  b_str := He.free_ok X G (c.fact 47 (f := .free "str") rfl)
  b_bool := He.free_ok X G (c.fact 48 (f := .free "bool") rfl)
  c_ZERO := ⟨_, He.glo_ok X G (c.fact 49 (f := .glo "ZERO") rfl), fun H => He.tupB_ok (He.ba e).1 H⟩
  c_ONE := ⟨_, He.glo_ok X G (c.fact 50 (f := .glo "ONE") rfl), fun H => He.tupB_ok (He.ba e).2 H⟩
  c_MOST_DAYS := He.int_ok X G (c.fact 51 (f := .int "MOST_DAYS" 500) rfl)
  c_FREE := He.str_ok X G (c.fact 52 (f := .str "FREE" "0") rfl)
  c_DUTY := He.str_ok X G (c.fact 53 (f := .str "DUTY" "1") rfl)
  c_MOST_BOTTOM := He.int_ok X G (c.fact 54 (f := .int "MOST_BOTTOM" 10000) rfl)
  c_MOST_DAY := He.int_ok X G (c.fact 55 (f := .int "MOST_DAY" 1000000000000) rfl)
  c_EACH := He.str_ok X G (c.fact 56 (f := .str "EACH" "each") rfl)
  c_BOTH := He.str_ok X G (c.fact 57 (f := .str "BOTH" "both") rfl)
  c_NOBODY := He.str_ok X G (c.fact 58 (f := .str "NOBODY" "nobody") rfl)
def T : Tx := ⟨⟨fun _ => 0, fun _ => 0⟩, fun _ => ""⟩
structure All (P : Program) (w : World) (K : PySem.W.Frag) (mg : Str → Option Value) (base : Heap) (k : Nat) : Prop where
  o_is_integer : FnO P w K mg base T Lib k 1 "is_integer" (He.ga K "is_integer") ["thing"]
  o_is_within : FnO P w K mg base T Lib k 2 "is_within" (He.ga K "is_within") ["thing", "low", "high"]
  o_is_tuple_of : FnO P w K mg base T Lib k 3 "is_tuple_of" (He.ga K "is_tuple_of") ["thing", "many"]
  o_common : FnO P w K mg base T Lib k 4 "common" (He.ga K "common") ["one", "other"]
  o_is_fraction : FnO P w K mg base T Lib k 5 "is_fraction" (He.ga K "is_fraction") ["thing"]
  o_frac : FnO P w K mg base T Lib k 6 "frac" (He.ga K "frac") ["top", "bottom"]
  o_less : FnO P w K mg base T Lib k 10 "less" (He.ga K "less") ["one", "other"]
  o_is_line : FnO P w K mg base T Lib k 61 "is_line" (He.ga K "is_line") ["thing"]
  o_is_rule : FnO P w K mg base T Lib k 62 "is_rule" (He.ga K "is_rule") ["thing"]
  o_check_rule : FnO P w K mg base T Lib k 63 "check_rule" (He.ga K "check_rule") ["rule"]
  o_total_to : FnO P w K mg base T Lib k 64 "total_to" (He.ga K "total_to") ["rule", "n"]
  o_row_of : FnO P w K mg base T Lib k 65 "row_of" (He.ga K "row_of") ["rule", "first", "length"]
  o_made : FnO P w K mg base T Lib k 66 "made" (He.ga K "made") ["rule", "first", "length"]
  o_form_of : FnO P w K mg base T Lib k 79 "form_of" (He.ga K "form_of") ["rule"]
  o_normal : FnO P w K mg base T Lib k 80 "normal" (He.ga K "normal") ["rule"]
  o_made_of : FnO P w K mg base T Lib k 81 "made_of" (He.ga K "made_of") ["form"]
  o_has_duty : FnO P w K mg base T Lib k 83 "has_duty" (He.ga K "has_duty") ["rule", "day"]
  o_first_parting : FnO P w K mg base T Lib k 84 "first_parting" (He.ga K "first_parting") ["one", "other"]
  o_others_of : FnO P w K mg base T Lib k 86 "others_of" (He.ga K "others_of") ["rule"]
  o_other_days : FnO P w K mg base T Lib k 87 "other_days" (He.ga K "other_days") ["rule"]
  o_sharing : FnO P w K mg base T Lib k 231 "sharing" (He.ga K "sharing") ["one", "other"]
  o_law_hand : FnO P w K mg base T Lib k 216 "_law_hand" (He.ga K "_law_hand") ["script"]
  o_law_draw : FnO P w K mg base T Lib k 217 "_law_draw" (He.ga K "_law_draw") ["hand", "many"]
  o_law_any : FnO P w K mg base T Lib k 218 "_law_any" (He.ga K "_law_any") ["hand", "some"]
  o_law_same : FnO P w K mg base T Lib k 219 "_law_same" (He.ga K "_law_same") ["one", "due"]
  o_law_low : FnO P w K mg base T Lib k 220 "_law_low" (He.ga K "_law_low") ["n", "d"]
  o_law_rule : FnO P w K mg base T Lib k 221 "_law_rule" (He.ga K "_law_rule") ["hand", "most"]
  o_law_until : FnO P w K mg base T Lib k 222 "_law_until" (He.ga K "_law_until") ["rule", "day"]
  o_law_has_duty : FnO P w K mg base T Lib k 223 "_law_has_duty" (He.ga K "_law_has_duty") ["rule", "day"]
  o_law_form : FnO P w K mg base T Lib k 224 "_law_form" (He.ga K "_law_form") ["rule"]
  o_law_of_form : FnO P w K mg base T Lib k 225 "_law_of_form" (He.ga K "_law_of_form") ["form"]
  o_law_contrary : FnO P w K mg base T Lib k 244 "_law_contrary" (He.ga K "_law_contrary") ["form"]
  o_law_due : FnO P w K mg base T Lib k 245 "_law_due" (He.ga K "_law_due") ["one", "other"]
  o_law_near : FnO P w K mg base T Lib k 246 "_law_near" (He.ga K "_law_near") ["hand", "rule", "most"]
  o_law_is_right : FnO P w K mg base T Lib k 247 "_law_is_right" (He.ga K "_law_is_right") ["hand", "rule"]
  o_law : FnO P w K mg base T Lib k 248 "law" (He.ga K "law") ["script"]
section
variable {P : Program} {w : World} {K : PySem.W.Frag} {mg : Str → Option Value} {base : Heap} {k : Nat}
theorem sc_is_integer : FnScope ["thing"] ["thing"] (defScope s_is_integer) := ⟨rfl, rfl, rfl, by decide +kernel, rfl, by decide +kernel, by decide +kernel⟩
theorem bn_is_integer (X : Fx K mg) : ∃ fd, Binds K fd ["thing"] [] ∧ FunD K "is_integer" "is_integer" (defArgs s_is_integer) (defBody s_is_integer) (defScope s_is_integer) [] [] (He.ga K "is_integer") fd := by
  obtain ⟨fd, Fd⟩ := X.d_is_integer
  exact ⟨fd, Fd.bindsN fun _ _ _ _ _ _ us hl => match us, hl with | [_], _ => rfl, Fd⟩
theorem ok_is_integer {fd : FuncData} (Fd : FunD K "is_integer" "is_integer" (defArgs s_is_integer) (defBody s_is_integer) (defScope s_is_integer) [] [] (He.ga K "is_integer") fd) (X : Fx K mg) (A : All P w K mg base k) : FnOk P w K mg base (L2.CX P w) (k + 1) (He.ga K "is_integer") fd ["thing"] (spOf K T Lib (k + 1) 1) := by
  refine fn_ok Fd sc_is_integer (d := f_is_integer) rfl rfl rfl fun cdv Ar outer s H E hr => ?_
  have nd := sc_is_integer.nd
  exact (gss_one (gs_ret (ge_and (ge_isi (t := .int) (by rfl) X.b_isinstance (ge_var 0 (pv 0)) (pe_tyname (by rfl) X.b_int bt_int)) (ge_one (ge_not (ge_isi (t := .bool) (by rfl) X.b_isinstance (ge_var 0 (pv 0)) (pe_tyname (by rfl) X.b_bool bt_bool)))))))
theorem st_is_integer (X : Fx K mg) (A : All P w K mg base k) : FnO P w K mg base T Lib (k + 1) 1 "is_integer" (He.ga K "is_integer") ["thing"] :=
  (bn_is_integer X).elim fun fd z => ⟨X.g_is_integer, z.2.kp, fd, z.1, ok_is_integer z.2 X A⟩
theorem sc_is_within : FnScope ["thing", "low", "high"] ["thing", "low", "high"] (defScope s_is_within) := ⟨rfl, rfl, rfl, by decide +kernel, rfl, by decide +kernel, by decide +kernel⟩
theorem bn_is_within (X : Fx K mg) : ∃ fd, Binds K fd ["thing", "low", "high"] [] ∧ FunD K "is_within" "is_within" (defArgs s_is_within) (defBody s_is_within) (defScope s_is_within) [] [] (He.ga K "is_within") fd := by
  obtain ⟨fd, Fd⟩ := X.d_is_within
  exact ⟨fd, Fd.bindsN fun _ _ _ _ _ _ us hl => match us, hl with | [_, _, _], _ => rfl, Fd⟩
theorem ok_is_within {fd : FuncData} (Fd : FunD K "is_within" "is_within" (defArgs s_is_within) (defBody s_is_within) (defScope s_is_within) [] [] (He.ga K "is_within") fd) (X : Fx K mg) (A : All P w K mg base k) : FnOk P w K mg base (L2.CX P w) (k + 1) (He.ga K "is_within") fd ["thing", "low", "high"] (spOf K T Lib (k + 1) 2) := by
  refine fn_ok Fd sc_is_within (d := f_is_within) rfl rfl rfl fun cdv Ar outer s H E hr => ?_
  have nd := sc_is_within.nd
  exact (gss_one (gs_ret (ge_and (ge_fn A.o_is_integer hr (takes_of rfl rfl rfl rfl) (by rfl) (ga_cons (ge_var 0 (pv 0)) ga_nil)) (ge_one (ge_chain op_le op_le (ok_cmp _) (ok_cmp _) (ge_var 1 (pv 1)) (ge_var 0 (pv 0)) (ge_var 2 (pv 2)) (pe_chain op_le op_le (ge_var 1 (pv 1)) (ge_var 0 (pv 0)) (ge_var 2 (pv 2))))))))
theorem st_is_within (X : Fx K mg) (A : All P w K mg base k) : FnO P w K mg base T Lib (k + 1) 2 "is_within" (He.ga K "is_within") ["thing", "low", "high"] :=
  (bn_is_within X).elim fun fd z => ⟨X.g_is_within, z.2.kp, fd, z.1, ok_is_within z.2 X A⟩
theorem sc_is_tuple_of : FnScope ["thing", "many"] ["thing", "many"] (defScope s_is_tuple_of) := ⟨rfl, rfl, rfl, by decide +kernel, rfl, by decide +kernel, by decide +kernel⟩
theorem bn_is_tuple_of (X : Fx K mg) : ∃ fd, Binds K fd ["thing", "many"] [] ∧ FunD K "is_tuple_of" "is_tuple_of" (defArgs s_is_tuple_of) (defBody s_is_tuple_of) (defScope s_is_tuple_of) [] [] (He.ga K "is_tuple_of") fd := by
  obtain ⟨fd, Fd⟩ := X.d_is_tuple_of
  exact ⟨fd, Fd.bindsN fun _ _ _ _ _ _ us hl => match us, hl with | [_, _], _ => rfl, Fd⟩
theorem ok_is_tuple_of {fd : FuncData} (Fd : FunD K "is_tuple_of" "is_tuple_of" (defArgs s_is_tuple_of) (defBody s_is_tuple_of) (defScope s_is_tuple_of) [] [] (He.ga K "is_tuple_of") fd) (X : Fx K mg) (A : All P w K mg base k) : FnOk P w K mg base (L2.CX P w) (k + 1) (He.ga K "is_tuple_of") fd ["thing", "many"] (spOf K T Lib (k + 1) 3) := by
  refine fn_ok Fd sc_is_tuple_of (d := f_is_tuple_of) rfl rfl rfl fun cdv Ar outer s H E hr => ?_
  have nd := sc_is_tuple_of.nd
  exact (gss_one (gs_ret (ge_and (ge_isi (t := .tuple) (by rfl) X.b_isinstance (ge_var 0 (pv 0)) (pe_tyname (by rfl) X.b_tuple bt_tuple)) (ge_one (ge_cmp (or_eq hr.units) ok_eq (ge_blt or_len ok_len (by rfl) X.b_len bt_len (ga_cons (ge_var 0 (pv 0)) ga_nil)) (ge_var 1 (pv 1)) (nomark _))))))
theorem st_is_tuple_of (X : Fx K mg) (A : All P w K mg base k) : FnO P w K mg base T Lib (k + 1) 3 "is_tuple_of" (He.ga K "is_tuple_of") ["thing", "many"] :=
  (bn_is_tuple_of X).elim fun fd z => ⟨X.g_is_tuple_of, z.2.kp, fd, z.1, ok_is_tuple_of z.2 X A⟩
theorem sc_common : FnScope ["one", "other"] ["one", "other"] (defScope s_common) := ⟨rfl, rfl, rfl, by decide +kernel, rfl, by decide +kernel, by decide +kernel⟩
theorem bn_common (X : Fx K mg) : ∃ fd, Binds K fd ["one", "other"] [] ∧ FunD K "common" "common" (defArgs s_common) (defBody s_common) (defScope s_common) [] [] (He.ga K "common") fd := by
  obtain ⟨fd, Fd⟩ := X.d_common
  exact ⟨fd, Fd.bindsN fun _ _ _ _ _ _ us hl => match us, hl with | [_, _], _ => rfl, Fd⟩
theorem ok_common {fd : FuncData} (Fd : FunD K "common" "common" (defArgs s_common) (defBody s_common) (defScope s_common) [] [] (He.ga K "common") fd) (X : Fx K mg) (A : All P w K mg base k) : FnOk P w K mg base (L2.CX P w) (k + 1) (He.ga K "common") fd ["one", "other"] (spOf K T Lib (k + 1) 4) := by
  refine fn_ok Fd sc_common (d := f_common) rfl rfl rfl fun cdv Ar outer s H E hr => ?_
  have nd := sc_common.nd
  exact (gss_cons (gs_swp2 (ps_par (i := 0) (j := 1) rfl nd rfl rfl (by decide) rfl rfl (ga_cons (ge_blt call_abs ok_abs (by rfl) X.b_abs bt_abs (ga_cons (ge_var 0 (pv 0)) ga_nil)) (ga_cons (ge_blt call_abs ok_abs (by rfl) X.b_abs bt_abs (ga_cons (ge_var 1 (pv 1)) ga_nil)) ga_nil)) (by rfl))) (gss_cons (gs_while (passes_of rfl) (gt_cmp op_gt (ok_cmp _) (ge_var 1 (pv 1)) ge_int (nomark _)) (gss_one (gs_swp2 (ps_par (i := 0) (j := 1) rfl nd rfl rfl (by decide) rfl rfl (ga_cons (ge_var 1 (pv 1)) (ga_cons (ge_op op_modN ok_mod (ge_var 0 (pv 0)) (ge_var 1 (pv 1))) ga_nil)) (by rfl))))) (gss_one (gs_ret (ge_var 0 (pv 0))))))
theorem st_common (X : Fx K mg) (A : All P w K mg base k) : FnO P w K mg base T Lib (k + 1) 4 "common" (He.ga K "common") ["one", "other"] :=
  (bn_common X).elim fun fd z => ⟨X.g_common, z.2.kp, fd, z.1, ok_common z.2 X A⟩
theorem sc_is_fraction : FnScope ["thing"] ["thing"] (defScope s_is_fraction) := ⟨rfl, rfl, rfl, by decide +kernel, rfl, by decide +kernel, by decide +kernel⟩
theorem bn_is_fraction (X : Fx K mg) : ∃ fd, Binds K fd ["thing"] [] ∧ FunD K "is_fraction" "is_fraction" (defArgs s_is_fraction) (defBody s_is_fraction) (defScope s_is_fraction) [] [] (He.ga K "is_fraction") fd := by
  obtain ⟨fd, Fd⟩ := X.d_is_fraction
  exact ⟨fd, Fd.bindsN fun _ _ _ _ _ _ us hl => match us, hl with | [_], _ => rfl, Fd⟩
theorem ok_is_fraction {fd : FuncData} (Fd : FunD K "is_fraction" "is_fraction" (defArgs s_is_fraction) (defBody s_is_fraction) (defScope s_is_fraction) [] [] (He.ga K "is_fraction") fd) (X : Fx K mg) (A : All P w K mg base k) : FnOk P w K mg base (L2.CX P w) (k + 1) (He.ga K "is_fraction") fd ["thing"] (spOf K T Lib (k + 1) 5) := by
  refine fn_ok Fd sc_is_fraction (d := f_is_fraction) rfl rfl rfl fun cdv Ar outer s H E hr => ?_
  have nd := sc_is_fraction.nd
  exact (gss_cons (gs_if (GW.gt (gw_or (gt_not (gt_val (ge_fn A.o_is_tuple_of hr (takes_of rfl rfl rfl rfl) (by rfl) (ga_cons (ge_var 0 (pv 0)) (ga_cons ge_int ga_nil))))) (gw_or (gt_not (gt_val (ge_fn A.o_is_integer hr (takes_of rfl rfl rfl rfl) (by rfl) (ga_cons (ge_ix ix_seq ok_ix (ge_var 0 (pv 0)) ge_int (fun _ _ => rfl)) ga_nil)))) (gw_or1 (gt_not (gt_val (ge_fn A.o_is_integer hr (takes_of rfl rfl rfl rfl) (by rfl) (ga_cons (ge_ix ix_seq ok_ix (ge_var 0 (pv 0)) ge_int (fun _ _ => rfl)) ga_nil)))))))) (gss_one (gs_ret ge_bl)) gss_nil) (gss_one (gs_ret (ge_and (ge_cmp op_ge (ok_cmp _) (ge_ix ix_seq ok_ix (ge_var 0 (pv 0)) ge_int (fun _ _ => rfl)) ge_int (nomark _)) (ge_one (ge_cmp (or_eq hr.units) ok_eq (ge_fn A.o_common hr (takes_of rfl rfl rfl rfl) (by rfl) (ga_cons (ge_ix ix_seq ok_ix (ge_var 0 (pv 0)) ge_int (fun _ _ => rfl)) (ga_cons (ge_ix ix_seq ok_ix (ge_var 0 (pv 0)) ge_int (fun _ _ => rfl)) ga_nil))) ge_int (nomark _)))))))
theorem st_is_fraction (X : Fx K mg) (A : All P w K mg base k) : FnO P w K mg base T Lib (k + 1) 5 "is_fraction" (He.ga K "is_fraction") ["thing"] :=
  (bn_is_fraction X).elim fun fd z => ⟨X.g_is_fraction, z.2.kp, fd, z.1, ok_is_fraction z.2 X A⟩
theorem sc_frac : FnScope ["top", "bottom", "divisor"] ["top", "bottom"] (defScope s_frac) := ⟨rfl, rfl, rfl, by decide +kernel, rfl, by decide +kernel, by decide +kernel⟩
theorem bn_frac (X : Fx K mg) : ∃ fd, Binds K fd ["top", "bottom"] [] ∧ FunD K "frac" "frac" (defArgs s_frac) (defBody s_frac) (defScope s_frac) [] [] (He.ga K "frac") fd := by
  obtain ⟨fd, Fd⟩ := X.d_frac
  exact ⟨fd, Fd.bindsN fun _ _ _ _ _ _ us hl => match us, hl with | [_, _], _ => rfl, Fd⟩
theorem ok_frac {fd : FuncData} (Fd : FunD K "frac" "frac" (defArgs s_frac) (defBody s_frac) (defScope s_frac) [] [] (He.ga K "frac") fd) (X : Fx K mg) (A : All P w K mg base k) : FnOk P w K mg base (L2.CX P w) (k + 1) (He.ga K "frac") fd ["top", "bottom"] (spOf K T Lib (k + 1) 6) := by
  refine fn_ok Fd sc_frac (d := f_frac) rfl rfl rfl fun cdv Ar outer s H E hr => ?_
  have nd := sc_frac.nd
  exact (gss_cons (gs_set (ps_set (i := 2) nd rfl (by first | exact Or.inl rfl | exact Or.inr rfl) (ge_fn A.o_common hr (takes_of rfl rfl rfl rfl) (by rfl) (ga_cons (ge_var 0 (pv 0)) (ga_cons (ge_var 1 (pv 1)) ga_nil))))) (gss_cons (gs_if (gt_cmp op_lt (ok_cmp _) (ge_var 1 (pv 1)) ge_int (nomark _)) (gss_one (gs_set (ps_set (i := 2) nd rfl (by first | exact Or.inl rfl | exact Or.inr rfl) (ge_un un_neg ok_neg (ge_var 2 (pv 2)))))) gss_nil) (gss_one (gs_ret (ge_tup (k := 2) rfl (by decide) (ga_cons (ge_op or_div ok_div (ge_var 0 (pv 0)) (ge_var 2 (pv 2))) (ga_cons (ge_op or_div ok_div (ge_var 1 (pv 1)) (ge_var 2 (pv 2))) ga_nil)) rfl)))))
theorem st_frac (X : Fx K mg) (A : All P w K mg base k) : FnO P w K mg base T Lib (k + 1) 6 "frac" (He.ga K "frac") ["top", "bottom"] :=
  (bn_frac X).elim fun fd z => ⟨X.g_frac, z.2.kp, fd, z.1, ok_frac z.2 X A⟩
theorem sc_less : FnScope ["one", "other"] ["one", "other"] (defScope s_less) := ⟨rfl, rfl, rfl, by decide +kernel, rfl, by decide +kernel, by decide +kernel⟩
theorem bn_less (X : Fx K mg) : ∃ fd, Binds K fd ["one", "other"] [] ∧ FunD K "less" "less" (defArgs s_less) (defBody s_less) (defScope s_less) [] [] (He.ga K "less") fd := by
  obtain ⟨fd, Fd⟩ := X.d_less
  exact ⟨fd, Fd.bindsN fun _ _ _ _ _ _ us hl => match us, hl with | [_, _], _ => rfl, Fd⟩
theorem ok_less {fd : FuncData} (Fd : FunD K "less" "less" (defArgs s_less) (defBody s_less) (defScope s_less) [] [] (He.ga K "less") fd) (X : Fx K mg) (A : All P w K mg base k) : FnOk P w K mg base (L2.CX P w) (k + 1) (He.ga K "less") fd ["one", "other"] (spOf K T Lib (k + 1) 10) := by
  refine fn_ok Fd sc_less (d := f_less) rfl rfl rfl fun cdv Ar outer s H E hr => ?_
  have nd := sc_less.nd
  exact (gss_one (gs_ret (ge_cmp op_lt (ok_cmp _) (ge_op or_mul ok_mul (ge_ix ix_seq ok_ix (ge_var 0 (pv 0)) ge_int (fun _ _ => rfl)) (ge_ix ix_seq ok_ix (ge_var 1 (pv 1)) ge_int (fun _ _ => rfl))) (ge_op or_mul ok_mul (ge_ix ix_seq ok_ix (ge_var 1 (pv 1)) ge_int (fun _ _ => rfl)) (ge_ix ix_seq ok_ix (ge_var 0 (pv 0)) ge_int (fun _ _ => rfl))) (nomark _))))
theorem st_less (X : Fx K mg) (A : All P w K mg base k) : FnO P w K mg base T Lib (k + 1) 10 "less" (He.ga K "less") ["one", "other"] :=
  (bn_less X).elim fun fd z => ⟨X.g_less, z.2.kp, fd, z.1, ok_less z.2 X A⟩
theorem sc_is_line : FnScope ["thing"] ["thing"] (defScope s_is_line) := ⟨rfl, rfl, rfl, by decide +kernel, rfl, by decide +kernel, by decide +kernel⟩
theorem bn_is_line (X : Fx K mg) : ∃ fd, Binds K fd ["thing"] [] ∧ FunD K "is_line" "is_line" (defArgs s_is_line) (defBody s_is_line) (defScope s_is_line) [] [] (He.ga K "is_line") fd := by
  obtain ⟨fd, Fd⟩ := X.d_is_line
  exact ⟨fd, Fd.bindsN fun _ _ _ _ _ _ us hl => match us, hl with | [_], _ => rfl, Fd⟩
theorem ok_is_line {fd : FuncData} (Fd : FunD K "is_line" "is_line" (defArgs s_is_line) (defBody s_is_line) (defScope s_is_line) [] [] (He.ga K "is_line") fd) (X : Fx K mg) (A : All P w K mg base k) : FnOk P w K mg base (L2.CX P w) (k + 1) (He.ga K "is_line") fd ["thing"] (spOf K T Lib (k + 1) 61) := by
  refine fn_ok Fd sc_is_line (d := f_is_line) rfl rfl rfl fun cdv Ar outer s H E hr => ?_
  have nd := sc_is_line.nd
  exact (gss_cons (gs_if (GW.gt (gw_or (gt_not (gt_val (ge_fn A.o_is_tuple_of hr (takes_of rfl rfl rfl rfl) (by rfl) (ga_cons (ge_var 0 (pv 0)) (ga_cons ge_int ga_nil))))) (gw_or (gt_not (gt_val (ge_fn A.o_is_fraction hr (takes_of rfl rfl rfl rfl) (by rfl) (ga_cons (ge_ix ix_seq ok_ix (ge_var 0 (pv 0)) ge_int (fun _ _ => rfl)) ga_nil)))) (gw_or1 (gt_not (gt_val (ge_fn A.o_is_fraction hr (takes_of rfl rfl rfl rfl) (by rfl) (ga_cons (ge_ix ix_seq ok_ix (ge_var 0 (pv 0)) ge_int (fun _ _ => rfl)) ga_nil)))))))) (gss_one (gs_ret ge_bl)) gss_nil) (gss_cons (gs_if (GW.gt (gw_or (gt_val (ge_fn A.o_less hr (takes_of rfl rfl rfl rfl) (by rfl) (ga_cons (ge_ix ix_seq ok_ix (ge_var 0 (pv 0)) ge_int (fun _ _ => rfl)) (ga_cons (ge_ctup (by rfl) X.c_ZERO) ga_nil)))) (gw_or1 (gt_val (ge_fn A.o_less hr (takes_of rfl rfl rfl rfl) (by rfl) (ga_cons (ge_ctup (by rfl) X.c_ONE) (ga_cons (ge_ix ix_seq ok_ix (ge_var 0 (pv 0)) ge_int (fun _ _ => rfl)) ga_nil))))))) (gss_one (gs_ret ge_bl)) gss_nil) (gss_one (gs_ret (ge_and (ge_not (ge_fn A.o_less hr (takes_of rfl rfl rfl rfl) (by rfl) (ga_cons (ge_ix ix_seq ok_ix (ge_var 0 (pv 0)) ge_int (fun _ _ => rfl)) (ga_cons (ge_ctup (by rfl) X.c_ZERO) ga_nil)))) (ge_one (ge_fn A.o_less hr (takes_of rfl rfl rfl rfl) (by rfl) (ga_cons (ge_ix ix_seq ok_ix (ge_var 0 (pv 0)) ge_int (fun _ _ => rfl)) (ga_cons (ge_ctup (by rfl) X.c_ONE) ga_nil)))))))))
theorem st_is_line (X : Fx K mg) (A : All P w K mg base k) : FnO P w K mg base T Lib (k + 1) 61 "is_line" (He.ga K "is_line") ["thing"] :=
  (bn_is_line X).elim fun fd z => ⟨X.g_is_line, z.2.kp, fd, z.1, ok_is_line z.2 X A⟩
theorem sc_is_rule : FnScope ["thing"] ["thing"] (defScope s_is_rule) := ⟨rfl, rfl, rfl, by decide +kernel, rfl, by decide +kernel, by decide +kernel⟩
theorem bn_is_rule (X : Fx K mg) : ∃ fd, Binds K fd ["thing"] [] ∧ FunD K "is_rule" "is_rule" (defArgs s_is_rule) (defBody s_is_rule) (defScope s_is_rule) [] [] (He.ga K "is_rule") fd := by
  obtain ⟨fd, Fd⟩ := X.d_is_rule
  exact ⟨fd, Fd.bindsN fun _ _ _ _ _ _ us hl => match us, hl with | [_], _ => rfl, Fd⟩
theorem ok_is_rule {fd : FuncData} (Fd : FunD K "is_rule" "is_rule" (defArgs s_is_rule) (defBody s_is_rule) (defScope s_is_rule) [] [] (He.ga K "is_rule") fd) (X : Fx K mg) (A : All P w K mg base k) : FnOk P w K mg base (L2.CX P w) (k + 1) (He.ga K "is_rule") fd ["thing"] (spOf K T Lib (k + 1) 62) := by
  refine fn_ok Fd sc_is_rule (d := f_is_rule) rfl rfl rfl fun cdv Ar outer s H E hr => ?_
  have nd := sc_is_rule.nd
  exact (gss_one (gs_ret (ge_and (ge_fn A.o_is_line hr (takes_of rfl rfl rfl rfl) (by rfl) (ga_cons (ge_var 0 (pv 0)) ga_nil)) (ge_and (ge_cmp op_le (ok_cmp _) (ge_ix ix_seq ok_ix (ge_ix ix_seq ok_ix (ge_var 0 (pv 0)) ge_int (fun _ _ => rfl)) ge_int (fun _ _ => rfl)) (ge_cint (by rfl) X.c_MOST_BOTTOM) (nomark _)) (ge_one (ge_cmp op_le (ok_cmp _) (ge_ix ix_seq ok_ix (ge_ix ix_seq ok_ix (ge_var 0 (pv 0)) ge_int (fun _ _ => rfl)) ge_int (fun _ _ => rfl)) (ge_cint (by rfl) X.c_MOST_BOTTOM) (nomark _)))))))
theorem st_is_rule (X : Fx K mg) (A : All P w K mg base k) : FnO P w K mg base T Lib (k + 1) 62 "is_rule" (He.ga K "is_rule") ["thing"] :=
  (bn_is_rule X).elim fun fd z => ⟨X.g_is_rule, z.2.kp, fd, z.1, ok_is_rule z.2 X A⟩
theorem sc_check_rule : FnScope ["rule"] ["rule"] (defScope s_check_rule) := ⟨rfl, rfl, rfl, by decide +kernel, rfl, by decide +kernel, by decide +kernel⟩
theorem bn_check_rule (X : Fx K mg) : ∃ fd, Binds K fd ["rule"] [] ∧ FunD K "check_rule" "check_rule" (defArgs s_check_rule) (defBody s_check_rule) (defScope s_check_rule) [] [] (He.ga K "check_rule") fd := by
  obtain ⟨fd, Fd⟩ := X.d_check_rule
  exact ⟨fd, Fd.bindsN fun _ _ _ _ _ _ us hl => match us, hl with | [_], _ => rfl, Fd⟩
theorem ok_check_rule {fd : FuncData} (Fd : FunD K "check_rule" "check_rule" (defArgs s_check_rule) (defBody s_check_rule) (defScope s_check_rule) [] [] (He.ga K "check_rule") fd) (X : Fx K mg) (A : All P w K mg base k) : FnOk P w K mg base (L2.CX P w) (k + 1) (He.ga K "check_rule") fd ["rule"] (spOf K T Lib (k + 1) 63) := by
  refine fn_ok Fd sc_check_rule (d := f_check_rule) rfl rfl rfl fun cdv Ar outer s H E hr => ?_
  have nd := sc_check_rule.nd
  exact (gss_one (gs_if (gt_not (gt_val (ge_fn A.o_is_rule hr (takes_of rfl rfl rfl rfl) (by rfl) (ga_cons (ge_var 0 (pv 0)) ga_nil)))) (gss_one gs_never) gss_nil))
theorem st_check_rule (X : Fx K mg) (A : All P w K mg base k) : FnO P w K mg base T Lib (k + 1) 63 "check_rule" (He.ga K "check_rule") ["rule"] :=
  (bn_check_rule X).elim fun fd z => ⟨X.g_check_rule, z.2.kp, fd, z.1, ok_check_rule z.2 X A⟩
theorem sc_total_to : FnScope ["rule", "n", "step", "start"] ["rule", "n"] (defScope s_total_to) := ⟨rfl, rfl, rfl, by decide +kernel, rfl, by decide +kernel, by decide +kernel⟩
theorem bn_total_to (X : Fx K mg) : ∃ fd, Binds K fd ["rule", "n"] [] ∧ FunD K "total_to" "total_to" (defArgs s_total_to) (defBody s_total_to) (defScope s_total_to) [] [] (He.ga K "total_to") fd := by
  obtain ⟨fd, Fd⟩ := X.d_total_to
  exact ⟨fd, Fd.bindsN fun _ _ _ _ _ _ us hl => match us, hl with | [_, _], _ => rfl, Fd⟩
theorem ok_total_to {fd : FuncData} (Fd : FunD K "total_to" "total_to" (defArgs s_total_to) (defBody s_total_to) (defScope s_total_to) [] [] (He.ga K "total_to") fd) (X : Fx K mg) (A : All P w K mg base k) : FnOk P w K mg base (L2.CX P w) (k + 1) (He.ga K "total_to") fd ["rule", "n"] (spOf K T Lib (k + 1) 64) := by
  refine fn_ok Fd sc_total_to (d := f_total_to) rfl rfl rfl fun cdv Ar outer s H E hr => ?_
  have nd := sc_total_to.nd
  exact (gss_cons (gs_asg (ps_asg (ge_var 0 (pv 0)) (gp_tup rfl (gps_cons (gp_name (pg_name (i := 2) nd rfl (by first | exact Or.inl rfl | exact Or.inr rfl))) (gps_cons (gp_name (pg_name (i := 3) nd rfl (by first | exact Or.inl rfl | exact Or.inr rfl))) gps_nil))))) (gss_one (gs_ret (ge_op or_div ok_div (ge_op or_add ok_add (ge_op or_mul ok_mul (ge_op or_mul ok_mul (ge_var 1 (pv 1)) (ge_ix ix_seq ok_ix (ge_var 2 (pv 2)) ge_int (fun _ _ => rfl))) (ge_ix ix_seq ok_ix (ge_var 3 (pv 3)) ge_int (fun _ _ => rfl))) (ge_op or_mul ok_mul (ge_ix ix_seq ok_ix (ge_var 3 (pv 3)) ge_int (fun _ _ => rfl)) (ge_ix ix_seq ok_ix (ge_var 2 (pv 2)) ge_int (fun _ _ => rfl)))) (ge_op or_mul ok_mul (ge_ix ix_seq ok_ix (ge_var 2 (pv 2)) ge_int (fun _ _ => rfl)) (ge_ix ix_seq ok_ix (ge_var 3 (pv 3)) ge_int (fun _ _ => rfl)))))))
theorem st_total_to (X : Fx K mg) (A : All P w K mg base k) : FnO P w K mg base T Lib (k + 1) 64 "total_to" (He.ga K "total_to") ["rule", "n"] :=
  (bn_total_to X).elim fun fd z => ⟨X.g_total_to, z.2.kp, fd, z.1, ok_total_to z.2 X A⟩
theorem sc_row_of : FnScope ["rule", "first", "length", "totals", "day"] ["rule", "first", "length"] (defScope s_row_of) := ⟨rfl, rfl, rfl, by decide +kernel, rfl, by decide +kernel, by decide +kernel⟩
theorem bn_row_of (X : Fx K mg) : ∃ fd, Binds K fd ["rule", "first", "length"] [] ∧ FunD K "row_of" "row_of" (defArgs s_row_of) (defBody s_row_of) (defScope s_row_of) [] [] (He.ga K "row_of") fd := by
  obtain ⟨fd, Fd⟩ := X.d_row_of
  exact ⟨fd, Fd.bindsN fun _ _ _ _ _ _ us hl => match us, hl with | [_, _, _], _ => rfl, Fd⟩
theorem ok_row_of {fd : FuncData} (Fd : FunD K "row_of" "row_of" (defArgs s_row_of) (defBody s_row_of) (defScope s_row_of) [] [] (He.ga K "row_of") fd) (X : Fx K mg) (A : All P w K mg base k) : FnOk P w K mg base (L2.CX P w) (k + 1) (He.ga K "row_of") fd ["rule", "first", "length"] (spOf K T Lib (k + 1) 65) := by
  refine fn_ok Fd sc_row_of (d := f_row_of) rfl rfl rfl fun cdv Ar outer s H E hr => ?_
  have nd := sc_row_of.nd
  exact (gss_cons (gs_set (ps_set (i := 3) nd rfl (by first | exact Or.inl rfl | exact Or.inr rfl) (ge_lc (own := [("day", 4)]) rfl nd (gi_rng1 (by rfl) X.b_range (ga_cons (ge_op or_add ok_add (ge_var 2 (pv 2)) ge_int) ga_nil)) (blkOk_by (N := ["rule", "first", "length", "totals", "day"]) (sc := defScope s_row_of) (own := [("day", 4)]) (by decide +kernel)) (by decide) (fun _ _ _ _ _ => (gp_name (pg_name (i := 4) nd rfl (by first | exact Or.inl rfl | exact Or.inr rfl)))) (fun _ _ _ _ _ => gts_nil) (fun _ _ _ _ _ => (ge_fn A.o_total_to hr takes0 (by rfl) (ga_cons (ge_var 0 (pv 0)) (ga_cons (ge_op or_add ok_add (ge_var 1 (pv 1)) (ge_var 4 (pv 4))) ga_nil))))))) (gss_one (gs_ret (ge_join ge_str (ge_lc (own := [("day", 4)]) rfl nd (gi_rng1 (by rfl) X.b_range (ga_cons (ge_var 2 (pv 2)) ga_nil)) (blkOk_by (N := ["rule", "first", "length", "totals", "day"]) (sc := defScope s_row_of) (own := [("day", 4)]) (by decide +kernel)) (by decide) (fun _ _ _ _ _ => (gp_name (pg_name (i := 4) nd rfl (by first | exact Or.inl rfl | exact Or.inr rfl)))) (fun _ _ _ _ _ => gts_nil) (fun _ _ _ _ _ => (ge_if (gt_cmp op_gt (ok_cmp _) (ge_ix ix_seq ok_ix (ge_var 3 (pv 3)) (ge_op or_add ok_add (ge_var 4 (pv 4)) ge_int) (fun _ _ => rfl)) (ge_ix ix_seq ok_ix (ge_var 3 (pv 3)) (ge_var 4 (pv 4)) (fun _ _ => rfl)) (nomark _)) (ge_cstr (by rfl) X.c_DUTY) (ge_cstr (by rfl) X.c_FREE))))))))
theorem st_row_of (X : Fx K mg) (A : All P w K mg base k) : FnO P w K mg base T Lib (k + 1) 65 "row_of" (He.ga K "row_of") ["rule", "first", "length"] :=
  (bn_row_of X).elim fun fd z => ⟨X.g_row_of, z.2.kp, fd, z.1, ok_row_of z.2 X A⟩
theorem sc_made : FnScope ["rule", "first", "length"] ["rule", "first", "length"] (defScope s_made) := ⟨rfl, rfl, rfl, by decide +kernel, rfl, by decide +kernel, by decide +kernel⟩
theorem bn_made (X : Fx K mg) : ∃ fd, Binds K fd ["rule", "first", "length"] [] ∧ FunD K "made" "made" (defArgs s_made) (defBody s_made) (defScope s_made) [] [] (He.ga K "made") fd := by
  obtain ⟨fd, Fd⟩ := X.d_made
  exact ⟨fd, Fd.bindsN fun _ _ _ _ _ _ us hl => match us, hl with | [_, _, _], _ => rfl, Fd⟩
theorem ok_made {fd : FuncData} (Fd : FunD K "made" "made" (defArgs s_made) (defBody s_made) (defScope s_made) [] [] (He.ga K "made") fd) (X : Fx K mg) (A : All P w K mg base k) : FnOk P w K mg base (L2.CX P w) (k + 1) (He.ga K "made") fd ["rule", "first", "length"] (spOf K T Lib (k + 1) 66) := by
  refine fn_ok Fd sc_made (d := f_made) rfl rfl rfl fun cdv Ar outer s H E hr => ?_
  have nd := sc_made.nd
  exact (gss_cons (gs_expr (ge_fn A.o_check_rule hr (takes_of rfl rfl rfl rfl) (by rfl) (ga_cons (ge_var 0 (pv 0)) ga_nil))) (gss_cons (gs_if (GW.gt (gw_or (gt_not (gt_val (ge_fn A.o_is_within hr (takes_of rfl rfl rfl rfl) (by rfl) (ga_cons (ge_var 1 (pv 1)) (ga_cons ge_int (ga_cons (ge_cint (by rfl) X.c_MOST_DAY) ga_nil)))))) (gw_or1 (gt_not (gt_val (ge_fn A.o_is_within hr (takes_of rfl rfl rfl rfl) (by rfl) (ga_cons (ge_var 2 (pv 2)) (ga_cons ge_int (ga_cons (ge_cint (by rfl) X.c_MOST_DAYS) ga_nil))))))))) (gss_one gs_never) gss_nil) (gss_one (gs_ret (ge_fn A.o_row_of hr (takes_of rfl rfl rfl rfl) (by rfl) (ga_cons (ge_var 0 (pv 0)) (ga_cons (ge_var 1 (pv 1)) (ga_cons (ge_var 2 (pv 2)) ga_nil))))))))
theorem st_made (X : Fx K mg) (A : All P w K mg base k) : FnO P w K mg base T Lib (k + 1) 66 "made" (He.ga K "made") ["rule", "first", "length"] :=
  (bn_made X).elim fun fd z => ⟨X.g_made, z.2.kp, fd, z.1, ok_made z.2 X A⟩
theorem sc_form_of : FnScope ["rule", "step", "start"] ["rule"] (defScope s_form_of) := ⟨rfl, rfl, rfl, by decide +kernel, rfl, by decide +kernel, by decide +kernel⟩
theorem bn_form_of (X : Fx K mg) : ∃ fd, Binds K fd ["rule"] [] ∧ FunD K "form_of" "form_of" (defArgs s_form_of) (defBody s_form_of) (defScope s_form_of) [] [] (He.ga K "form_of") fd := by
  obtain ⟨fd, Fd⟩ := X.d_form_of
  exact ⟨fd, Fd.bindsN fun _ _ _ _ _ _ us hl => match us, hl with | [_], _ => rfl, Fd⟩
theorem ok_form_of {fd : FuncData} (Fd : FunD K "form_of" "form_of" (defArgs s_form_of) (defBody s_form_of) (defScope s_form_of) [] [] (He.ga K "form_of") fd) (X : Fx K mg) (A : All P w K mg base k) : FnOk P w K mg base (L2.CX P w) (k + 1) (He.ga K "form_of") fd ["rule"] (spOf K T Lib (k + 1) 79) := by
  refine fn_ok Fd sc_form_of (d := f_form_of) rfl rfl rfl fun cdv Ar outer s H E hr => ?_
  have nd := sc_form_of.nd
  exact (gss_cons (gs_asg (ps_asg (ge_var 0 (pv 0)) (gp_tup rfl (gps_cons (gp_name (pg_name (i := 1) nd rfl (by first | exact Or.inl rfl | exact Or.inr rfl))) (gps_cons (gp_name (pg_name (i := 2) nd rfl (by first | exact Or.inl rfl | exact Or.inr rfl))) gps_nil))))) (gss_one (gs_ret (ge_tup (k := 3) rfl (by decide) (ga_cons (ge_ix ix_seq ok_ix (ge_var 1 (pv 1)) ge_int (fun _ _ => rfl)) (ga_cons (ge_ix ix_seq ok_ix (ge_var 1 (pv 1)) ge_int (fun _ _ => rfl)) (ga_cons (ge_op or_div ok_div (ge_op or_mul ok_mul (ge_ix ix_seq ok_ix (ge_var 1 (pv 1)) ge_int (fun _ _ => rfl)) (ge_ix ix_seq ok_ix (ge_var 2 (pv 2)) ge_int (fun _ _ => rfl))) (ge_ix ix_seq ok_ix (ge_var 2 (pv 2)) ge_int (fun _ _ => rfl))) ga_nil))) rfl))))
theorem st_form_of (X : Fx K mg) (A : All P w K mg base k) : FnO P w K mg base T Lib (k + 1) 79 "form_of" (He.ga K "form_of") ["rule"] :=
  (bn_form_of X).elim fun fd z => ⟨X.g_form_of, z.2.kp, fd, z.1, ok_form_of z.2 X A⟩
theorem sc_normal : FnScope ["rule"] ["rule"] (defScope s_normal) := ⟨rfl, rfl, rfl, by decide +kernel, rfl, by decide +kernel, by decide +kernel⟩
theorem bn_normal (X : Fx K mg) : ∃ fd, Binds K fd ["rule"] [] ∧ FunD K "normal" "normal" (defArgs s_normal) (defBody s_normal) (defScope s_normal) [] [] (He.ga K "normal") fd := by
  obtain ⟨fd, Fd⟩ := X.d_normal
  exact ⟨fd, Fd.bindsN fun _ _ _ _ _ _ us hl => match us, hl with | [_], _ => rfl, Fd⟩
theorem ok_normal {fd : FuncData} (Fd : FunD K "normal" "normal" (defArgs s_normal) (defBody s_normal) (defScope s_normal) [] [] (He.ga K "normal") fd) (X : Fx K mg) (A : All P w K mg base k) : FnOk P w K mg base (L2.CX P w) (k + 1) (He.ga K "normal") fd ["rule"] (spOf K T Lib (k + 1) 80) := by
  refine fn_ok Fd sc_normal (d := f_normal) rfl rfl rfl fun cdv Ar outer s H E hr => ?_
  have nd := sc_normal.nd
  exact (gss_cons (gs_expr (ge_fn A.o_check_rule hr (takes_of rfl rfl rfl rfl) (by rfl) (ga_cons (ge_var 0 (pv 0)) ga_nil))) (gss_one (gs_ret (ge_fn A.o_form_of hr (takes_of rfl rfl rfl rfl) (by rfl) (ga_cons (ge_var 0 (pv 0)) ga_nil)))))
theorem st_normal (X : Fx K mg) (A : All P w K mg base k) : FnO P w K mg base T Lib (k + 1) 80 "normal" (He.ga K "normal") ["rule"] :=
  (bn_normal X).elim fun fd z => ⟨X.g_normal, z.2.kp, fd, z.1, ok_normal z.2 X A⟩
theorem sc_made_of : FnScope ["form"] ["form"] (defScope s_made_of) := ⟨rfl, rfl, rfl, by decide +kernel, rfl, by decide +kernel, by decide +kernel⟩
theorem bn_made_of (X : Fx K mg) : ∃ fd, Binds K fd ["form"] [] ∧ FunD K "made_of" "made_of" (defArgs s_made_of) (defBody s_made_of) (defScope s_made_of) [] [] (He.ga K "made_of") fd := by
  obtain ⟨fd, Fd⟩ := X.d_made_of
  exact ⟨fd, Fd.bindsN fun _ _ _ _ _ _ us hl => match us, hl with | [_], _ => rfl, Fd⟩
theorem ok_made_of {fd : FuncData} (Fd : FunD K "made_of" "made_of" (defArgs s_made_of) (defBody s_made_of) (defScope s_made_of) [] [] (He.ga K "made_of") fd) (X : Fx K mg) (A : All P w K mg base k) : FnOk P w K mg base (L2.CX P w) (k + 1) (He.ga K "made_of") fd ["form"] (spOf K T Lib (k + 1) 81) := by
  refine fn_ok Fd sc_made_of (d := f_made_of) rfl rfl rfl fun cdv Ar outer s H E hr => ?_
  have nd := sc_made_of.nd
  exact (gss_one (gs_ret (ge_tup (k := 2) rfl (by decide) (ga_cons (ge_fn A.o_frac hr (takes_of rfl rfl rfl rfl) (by rfl) (ga_cons (ge_ix ix_seq ok_ix (ge_var 0 (pv 0)) ge_int (fun _ _ => rfl)) (ga_cons (ge_ix ix_seq ok_ix (ge_var 0 (pv 0)) ge_int (fun _ _ => rfl)) ga_nil))) (ga_cons (ge_fn A.o_frac hr (takes_of rfl rfl rfl rfl) (by rfl) (ga_cons (ge_ix ix_seq ok_ix (ge_var 0 (pv 0)) ge_int (fun _ _ => rfl)) (ga_cons (ge_ix ix_seq ok_ix (ge_var 0 (pv 0)) ge_int (fun _ _ => rfl)) ga_nil))) ga_nil)) rfl)))
theorem st_made_of (X : Fx K mg) (A : All P w K mg base k) : FnO P w K mg base T Lib (k + 1) 81 "made_of" (He.ga K "made_of") ["form"] :=
  (bn_made_of X).elim fun fd z => ⟨X.g_made_of, z.2.kp, fd, z.1, ok_made_of z.2 X A⟩
theorem sc_has_duty : FnScope ["rule", "day"] ["rule", "day"] (defScope s_has_duty) := ⟨rfl, rfl, rfl, by decide +kernel, rfl, by decide +kernel, by decide +kernel⟩
theorem bn_has_duty (X : Fx K mg) : ∃ fd, Binds K fd ["rule", "day"] [] ∧ FunD K "has_duty" "has_duty" (defArgs s_has_duty) (defBody s_has_duty) (defScope s_has_duty) [] [] (He.ga K "has_duty") fd := by
  obtain ⟨fd, Fd⟩ := X.d_has_duty
  exact ⟨fd, Fd.bindsN fun _ _ _ _ _ _ us hl => match us, hl with | [_, _], _ => rfl, Fd⟩
theorem ok_has_duty {fd : FuncData} (Fd : FunD K "has_duty" "has_duty" (defArgs s_has_duty) (defBody s_has_duty) (defScope s_has_duty) [] [] (He.ga K "has_duty") fd) (X : Fx K mg) (A : All P w K mg base k) : FnOk P w K mg base (L2.CX P w) (k + 1) (He.ga K "has_duty") fd ["rule", "day"] (spOf K T Lib (k + 1) 83) := by
  refine fn_ok Fd sc_has_duty (d := f_has_duty) rfl rfl rfl fun cdv Ar outer s H E hr => ?_
  have nd := sc_has_duty.nd
  exact (gss_one (gs_ret (ge_cmp op_gt (ok_cmp _) (ge_fn A.o_total_to hr (takes_of rfl rfl rfl rfl) (by rfl) (ga_cons (ge_var 0 (pv 0)) (ga_cons (ge_op or_add ok_add (ge_var 1 (pv 1)) ge_int) ga_nil))) (ge_fn A.o_total_to hr (takes_of rfl rfl rfl rfl) (by rfl) (ga_cons (ge_var 0 (pv 0)) (ga_cons (ge_var 1 (pv 1)) ga_nil))) (nomark _))))
theorem st_has_duty (X : Fx K mg) (A : All P w K mg base k) : FnO P w K mg base T Lib (k + 1) 83 "has_duty" (He.ga K "has_duty") ["rule", "day"] :=
  (bn_has_duty X).elim fun fd z => ⟨X.g_has_duty, z.2.kp, fd, z.1, ok_has_duty z.2 X A⟩
theorem sc_first_parting : FnScope ["one", "other", "day"] ["one", "other"] (defScope s_first_parting) := ⟨rfl, rfl, rfl, by decide +kernel, rfl, by decide +kernel, by decide +kernel⟩
theorem bn_first_parting (X : Fx K mg) : ∃ fd, Binds K fd ["one", "other"] [] ∧ FunD K "first_parting" "first_parting" (defArgs s_first_parting) (defBody s_first_parting) (defScope s_first_parting) [] [] (He.ga K "first_parting") fd := by
  obtain ⟨fd, Fd⟩ := X.d_first_parting
  exact ⟨fd, Fd.bindsN fun _ _ _ _ _ _ us hl => match us, hl with | [_, _], _ => rfl, Fd⟩
theorem ok_first_parting {fd : FuncData} (Fd : FunD K "first_parting" "first_parting" (defArgs s_first_parting) (defBody s_first_parting) (defScope s_first_parting) [] [] (He.ga K "first_parting") fd) (X : Fx K mg) (A : All P w K mg base k) : FnOk P w K mg base (L2.CX P w) (k + 1) (He.ga K "first_parting") fd ["one", "other"] (spOf K T Lib (k + 1) 84) := by
  refine fn_ok Fd sc_first_parting (d := f_first_parting) rfl rfl rfl fun cdv Ar outer s H E hr => ?_
  have nd := sc_first_parting.nd
  exact (gss_cons (gs_if (gt_cmp (or_eq hr.units) ok_eq (ge_fn A.o_form_of hr (takes_of rfl rfl rfl rfl) (by rfl) (ga_cons (ge_var 0 (pv 0)) ga_nil)) (ge_fn A.o_form_of hr (takes_of rfl rfl rfl rfl) (by rfl) (ga_cons (ge_var 1 (pv 1)) ga_nil)) (nomark _)) (gss_one (gs_ret ge_non)) gss_nil) (gss_cons (gs_for (passes_of rfl) rfl (gi_rng1 (by rfl) X.b_range (ga_cons (ge_op or_add ok_add (ge_ix ix_seq ok_ix (ge_ix ix_seq ok_ix (ge_var 0 (pv 0)) ge_int (fun _ _ => rfl)) ge_int (fun _ _ => rfl)) (ge_ix ix_seq ok_ix (ge_ix ix_seq ok_ix (ge_var 1 (pv 1)) ge_int (fun _ _ => rfl)) ge_int (fun _ _ => rfl))) ga_nil)) (gp_name (pg_name (i := 2) nd rfl (by first | exact Or.inl rfl | exact Or.inr rfl))) (gss_one (gs_if (gt_cmp (or_ne hr.units) ok_ne (ge_fn A.o_has_duty hr (takes_of rfl rfl rfl rfl) (by rfl) (ga_cons (ge_var 0 (pv 0)) (ga_cons (ge_var 2 (pv 2)) ga_nil))) (ge_fn A.o_has_duty hr (takes_of rfl rfl rfl rfl) (by rfl) (ga_cons (ge_var 1 (pv 1)) (ga_cons (ge_var 2 (pv 2)) ga_nil))) (nomark _)) (gss_one (gs_ret (ge_var 2 (pv 2)))) gss_nil))) (gss_one (gs_ret ge_non))))
theorem st_first_parting (X : Fx K mg) (A : All P w K mg base k) : FnO P w K mg base T Lib (k + 1) 84 "first_parting" (He.ga K "first_parting") ["one", "other"] :=
  (bn_first_parting X).elim fun fd z => ⟨X.g_first_parting, z.2.kp, fd, z.1, ok_first_parting z.2 X A⟩
theorem sc_others_of : FnScope ["rule", "top", "bottom", "level"] ["rule"] (defScope s_others_of) := ⟨rfl, rfl, rfl, by decide +kernel, rfl, by decide +kernel, by decide +kernel⟩
theorem bn_others_of (X : Fx K mg) : ∃ fd, Binds K fd ["rule"] [] ∧ FunD K "others_of" "others_of" (defArgs s_others_of) (defBody s_others_of) (defScope s_others_of) [] [] (He.ga K "others_of") fd := by
  obtain ⟨fd, Fd⟩ := X.d_others_of
  exact ⟨fd, Fd.bindsN fun _ _ _ _ _ _ us hl => match us, hl with | [_], _ => rfl, Fd⟩
theorem ok_others_of {fd : FuncData} (Fd : FunD K "others_of" "others_of" (defArgs s_others_of) (defBody s_others_of) (defScope s_others_of) [] [] (He.ga K "others_of") fd) (X : Fx K mg) (A : All P w K mg base k) : FnOk P w K mg base (L2.CX P w) (k + 1) (He.ga K "others_of") fd ["rule"] (spOf K T Lib (k + 1) 86) := by
  refine fn_ok Fd sc_others_of (d := f_others_of) rfl rfl rfl fun cdv Ar outer s H E hr => ?_
  have nd := sc_others_of.nd
  exact (gss_cons (gs_asg (ps_asg (ge_fn A.o_form_of hr (takes_of rfl rfl rfl rfl) (by rfl) (ga_cons (ge_var 0 (pv 0)) ga_nil)) (gp_tup rfl (gps_cons (gp_name (pg_name (i := 1) nd rfl (by first | exact Or.inl rfl | exact Or.inr rfl))) (gps_cons (gp_name (pg_name (i := 2) nd rfl (by first | exact Or.inl rfl | exact Or.inr rfl))) (gps_cons (gp_name (pg_name (i := 3) nd rfl (by first | exact Or.inl rfl | exact Or.inr rfl))) gps_nil)))))) (gss_one (gs_ret (ge_fn A.o_made_of hr (takes_of rfl rfl rfl rfl) (by rfl) (ga_cons (ge_tup (k := 3) rfl (by decide) (ga_cons (ge_op op_sub ok_sub (ge_var 2 (pv 2)) (ge_var 1 (pv 1))) (ga_cons (ge_var 2 (pv 2)) (ga_cons (ge_op op_sub ok_sub (ge_op op_sub ok_sub (ge_var 2 (pv 2)) ge_int) (ge_var 3 (pv 3))) ga_nil))) rfl) ga_nil)))))
theorem st_others_of (X : Fx K mg) (A : All P w K mg base k) : FnO P w K mg base T Lib (k + 1) 86 "others_of" (He.ga K "others_of") ["rule"] :=
  (bn_others_of X).elim fun fd z => ⟨X.g_others_of, z.2.kp, fd, z.1, ok_others_of z.2 X A⟩
theorem sc_other_days : FnScope ["rule"] ["rule"] (defScope s_other_days) := ⟨rfl, rfl, rfl, by decide +kernel, rfl, by decide +kernel, by decide +kernel⟩
theorem bn_other_days (X : Fx K mg) : ∃ fd, Binds K fd ["rule"] [] ∧ FunD K "other_days" "other_days" (defArgs s_other_days) (defBody s_other_days) (defScope s_other_days) [] [] (He.ga K "other_days") fd := by
  obtain ⟨fd, Fd⟩ := X.d_other_days
  exact ⟨fd, Fd.bindsN fun _ _ _ _ _ _ us hl => match us, hl with | [_], _ => rfl, Fd⟩
theorem ok_other_days {fd : FuncData} (Fd : FunD K "other_days" "other_days" (defArgs s_other_days) (defBody s_other_days) (defScope s_other_days) [] [] (He.ga K "other_days") fd) (X : Fx K mg) (A : All P w K mg base k) : FnOk P w K mg base (L2.CX P w) (k + 1) (He.ga K "other_days") fd ["rule"] (spOf K T Lib (k + 1) 87) := by
  refine fn_ok Fd sc_other_days (d := f_other_days) rfl rfl rfl fun cdv Ar outer s H E hr => ?_
  have nd := sc_other_days.nd
  exact (gss_cons (gs_expr (ge_fn A.o_check_rule hr (takes_of rfl rfl rfl rfl) (by rfl) (ga_cons (ge_var 0 (pv 0)) ga_nil))) (gss_one (gs_ret (ge_fn A.o_others_of hr (takes_of rfl rfl rfl rfl) (by rfl) (ga_cons (ge_var 0 (pv 0)) ga_nil)))))
theorem st_other_days (X : Fx K mg) (A : All P w K mg base k) : FnO P w K mg base T Lib (k + 1) 87 "other_days" (He.ga K "other_days") ["rule"] :=
  (bn_other_days X).elim fun fd z => ⟨X.g_other_days, z.2.kp, fd, z.1, ok_other_days z.2 X A⟩
theorem sc_sharing : FnScope ["one", "other", "day"] ["one", "other"] (defScope s_sharing) := ⟨rfl, rfl, rfl, by decide +kernel, rfl, by decide +kernel, by decide +kernel⟩
theorem bn_sharing (X : Fx K mg) : ∃ fd, Binds K fd ["one", "other"] [] ∧ FunD K "sharing" "sharing" (defArgs s_sharing) (defBody s_sharing) (defScope s_sharing) [] [] (He.ga K "sharing") fd := by
  obtain ⟨fd, Fd⟩ := X.d_sharing
  exact ⟨fd, Fd.bindsN fun _ _ _ _ _ _ us hl => match us, hl with | [_, _], _ => rfl, Fd⟩
theorem ok_sharing {fd : FuncData} (Fd : FunD K "sharing" "sharing" (defArgs s_sharing) (defBody s_sharing) (defScope s_sharing) [] [] (He.ga K "sharing") fd) (X : Fx K mg) (A : All P w K mg base k) : FnOk P w K mg base (L2.CX P w) (k + 1) (He.ga K "sharing") fd ["one", "other"] (spOf K T Lib (k + 1) 231) := by
  refine fn_ok Fd sc_sharing (d := f_sharing_v2) rfl rfl rfl fun cdv Ar outer s H E hr => ?_
  have nd := sc_sharing.nd
  exact (gss_cons (gs_expr (ge_fn A.o_check_rule hr (takes_of rfl rfl rfl rfl) (by rfl) (ga_cons (ge_var 0 (pv 0)) ga_nil))) (gss_cons (gs_expr (ge_fn A.o_check_rule hr (takes_of rfl rfl rfl rfl) (by rfl) (ga_cons (ge_var 1 (pv 1)) ga_nil))) (gss_cons (gs_set (ps_set (i := 2) nd rfl (by first | exact Or.inl rfl | exact Or.inr rfl) (ge_fn A.o_first_parting hr (takes_of rfl rfl rfl rfl) (by rfl) (ga_cons (ge_fn A.o_others_of hr (takes_of rfl rfl rfl rfl) (by rfl) (ga_cons (ge_var 0 (pv 0)) ga_nil)) (ga_cons (ge_var 1 (pv 1)) ga_nil))))) (gss_cons (gs_if (gt_isN (ge_var 2 (pv 2))) (gss_one (gs_ret (ge_tup (k := 1) rfl (by decide) (ga_cons (ge_cstr (by rfl) X.c_EACH) ga_nil) rfl))) gss_nil) (gss_one (gs_ret (ge_tup (k := 2) rfl (by decide) (ga_cons (ge_if (gt_val (ge_fn A.o_has_duty hr (takes_of rfl rfl rfl rfl) (by rfl) (ga_cons (ge_var 0 (pv 0)) (ga_cons (ge_var 2 (pv 2)) ga_nil)))) (ge_cstr (by rfl) X.c_BOTH) (ge_cstr (by rfl) X.c_NOBODY)) (ga_cons (ge_var 2 (pv 2)) ga_nil)) rfl)))))))
theorem st_sharing (X : Fx K mg) (A : All P w K mg base k) : FnO P w K mg base T Lib (k + 1) 231 "sharing" (He.ga K "sharing") ["one", "other"] :=
  (bn_sharing X).elim fun fd z => ⟨X.g_sharing, z.2.kp, fd, z.1, ok_sharing z.2 X A⟩
theorem sc_law_hand : FnScope ["script", "cells", "cell"] ["script"] (defScope s_law_hand) := ⟨rfl, rfl, rfl, by decide +kernel, rfl, by decide +kernel, by decide +kernel⟩
theorem bn_law_hand (X : Fx K mg) : ∃ fd, Binds K fd ["script"] [] ∧ FunD K "_law_hand" "_law_hand" (defArgs s_law_hand) (defBody s_law_hand) (defScope s_law_hand) [] [] (He.ga K "_law_hand") fd := by
  obtain ⟨fd, Fd⟩ := X.d_law_hand
  exact ⟨fd, Fd.bindsN fun _ _ _ _ _ _ us hl => match us, hl with | [_], _ => rfl, Fd⟩
theorem ok_law_hand {fd : FuncData} (Fd : FunD K "_law_hand" "_law_hand" (defArgs s_law_hand) (defBody s_law_hand) (defScope s_law_hand) [] [] (He.ga K "_law_hand") fd) (X : Fx K mg) (A : All P w K mg base k) : FnOk P w K mg base (L2.CX P w) (k + 1) (He.ga K "_law_hand") fd ["script"] (spOf K T Lib (k + 1) 216) := by
  refine fn_ok Fd sc_law_hand (d := f_law_hand_v7) rfl rfl rfl fun cdv Ar outer s H E hr => ?_
  have nd := sc_law_hand.nd
  exact (gss_cons (gs_setLc (i := 1) (own := [("cell", 2)]) rfl nd rfl rfl (sw_true rfl rfl rfl (by decide +kernel)) (gi_seq (ge_cutU (ge_var 0 (pv 0)) ge_int)) (blkOk_by (N := ["script", "cells", "cell"]) (sc := defScope s_law_hand) (own := [("cell", 2)]) (by decide +kernel)) (by decide) (fun _ _ _ _ _ => (gp_name (pg_name (i := 2) nd rfl (by first | exact Or.inl rfl | exact Or.inr rfl)))) (fun _ _ _ _ _ => gts_nil) (fun _ _ _ _ _ => (ge_blt call_abs ok_abs (by rfl) X.b_abs bt_abs (ga_cons (ge_ty call_int1 ok_int (by rfl) X.b_int bt_int (ga_cons (ge_var 2 (pv 2)) ga_nil)) ga_nil)))) (gss_one (gs_ret (ge_lstM (ga_cons (ge_var 1 (pv 1)) (ga_cons ge_int (ga_cons ge_int (ga_cons (ge_op or_add ok_add ge_int (ge_op or_mul ok_mul ge_int (ge_blt or_len ok_len (by rfl) X.b_len bt_len (ga_cons (ge_var 1 (pv 1)) ga_nil)))) (ga_cons ge_int ga_nil)))))))))
theorem st_law_hand (X : Fx K mg) (A : All P w K mg base k) : FnO P w K mg base T Lib (k + 1) 216 "_law_hand" (He.ga K "_law_hand") ["script"] :=
  (bn_law_hand X).elim fun fd z => ⟨X.g_law_hand, z.2.kp, fd, z.1, ok_law_hand z.2 X A⟩
theorem sc_law_draw : FnScope ["hand", "many", "cell", "digit", "number"] ["hand", "many"] (defScope s_law_draw) := ⟨rfl, rfl, rfl, by decide +kernel, rfl, by decide +kernel, by decide +kernel⟩
theorem bn_law_draw (X : Fx K mg) : ∃ fd, Binds K fd ["hand", "many"] [] ∧ FunD K "_law_draw" "_law_draw" (defArgs s_law_draw) (defBody s_law_draw) (defScope s_law_draw) [] [] (He.ga K "_law_draw") fd := by
  obtain ⟨fd, Fd⟩ := X.d_law_draw
  exact ⟨fd, Fd.bindsN fun _ _ _ _ _ _ us hl => match us, hl with | [_, _], _ => rfl, Fd⟩
theorem ok_law_draw {fd : FuncData} (Fd : FunD K "_law_draw" "_law_draw" (defArgs s_law_draw) (defBody s_law_draw) (defScope s_law_draw) [] [] (He.ga K "_law_draw") fd) (X : Fx K mg) (A : All P w K mg base k) : FnOk P w K mg base (L2.CX P w) (k + 1) (He.ga K "_law_draw") fd ["hand", "many"] (spOf K T Lib (k + 1) 217) := by
  refine fn_ok Fd sc_law_draw (d := f_law_draw_v3) rfl rfl rfl fun cdv Ar outer s H E hr => ?_
  have nd := sc_law_draw.nd
  exact (gss_cons (gs_if (GW.gt (gw_and (gt_cmp (or_eq hr.units) ok_eq (ge_ix ix_seq ok_ix (ge_var 0 (pv 0)) ge_int (fun _ _ => rfl)) ge_int (nomark _)) (gw_and1 (gt_cmp op_lt (ok_cmp _) (ge_ix ix_seq ok_ix (ge_var 0 (pv 0)) ge_int (fun _ _ => rfl)) (ge_blt or_len ok_len (by rfl) X.b_len bt_len (ga_cons (ge_ix ix_seq ok_ix (ge_var 0 (pv 0)) ge_int (fun _ _ => rfl)) ga_nil)) (nomark _))))) (gss_cons (gs_set (ps_set (i := 2) nd rfl (by first | exact Or.inl rfl | exact Or.inr rfl) (ge_ix ix_seq ok_ix (ge_ix ix_seq ok_ix (ge_var 0 (pv 0)) ge_int (fun _ _ => rfl)) (ge_ix ix_seq ok_ix (ge_var 0 (pv 0)) ge_int (fun _ _ => rfl)) (fun _ _ => rfl)))) (gss_cons (gs_setIx (ps_asg (ge_op or_add ok_add (ge_ix ix_seq ok_ix (ge_var 0 (pv 0)) ge_int (fun _ _ => rfl)) ge_int) (pg_sub (ge_var 0 (pv 0)) ge_int set_list))) (gss_cons (gs_setIx (ps_asg (ge_op op_modN ok_mod (ge_ty call_int1 ok_int (by rfl) X.b_int bt_int (ga_cons (ge_op or_add ok_add (ge_op or_add ok_add (ge_op or_mul ok_mul (ge_ix ix_seq ok_ix (ge_var 0 (pv 0)) ge_int (fun _ _ => rfl)) ge_int) (ge_op or_mul ok_mul (ge_var 2 (pv 2)) ge_int)) ge_int) ga_nil)) ge_int) (pg_sub (ge_var 0 (pv 0)) ge_int set_list))) (gss_one (gs_if (gt_cmp op_ge (ok_cmp _) (ge_var 2 (pv 2)) (ge_op op_pow ok_pow ge_int ge_int) (nomark _)) (gss_one (gs_setIx (ps_asg (ge_var 2 (pv 2)) (pg_sub (ge_var 0 (pv 0)) ge_int set_list)))) gss_nil))))) gss_nil) (gss_cons (gs_if (gt_cmp op_gt (ok_cmp _) (ge_ix ix_seq ok_ix (ge_var 0 (pv 0)) ge_int (fun _ _ => rfl)) ge_int (nomark _)) (gss_cons (gs_set (ps_set (i := 3) nd rfl (by first | exact Or.inl rfl | exact Or.inr rfl) (ge_op op_modN ok_mod (ge_ty call_int1 ok_int (by rfl) X.b_int bt_int (ga_cons (ge_ix ix_seq ok_ix (ge_var 0 (pv 0)) ge_int (fun _ _ => rfl)) ga_nil)) (ge_var 1 (pv 1))))) (gss_cons (gs_setIx (ps_asg (ge_op or_div ok_div (ge_ix ix_seq ok_ix (ge_var 0 (pv 0)) ge_int (fun _ _ => rfl)) (ge_var 1 (pv 1))) (pg_sub (ge_var 0 (pv 0)) ge_int set_list))) (gss_one (gs_ret (ge_var 3 (pv 3)))))) gss_nil) (gss_cons (gs_setIx (ps_asg (ge_op or_add ok_add (ge_ix ix_seq ok_ix (ge_var 0 (pv 0)) ge_int (fun _ _ => rfl)) ge_int) (pg_sub (ge_var 0 (pv 0)) ge_int set_list))) (gss_cons (gs_set (ps_set (i := 4) nd rfl (by first | exact Or.inl rfl | exact Or.inr rfl) (ge_op op_modN ok_mod (ge_ty call_int1 ok_int (by rfl) X.b_int bt_int (ga_cons (ge_op or_mul ok_mul (ge_ty call_int1 ok_int (by rfl) X.b_int bt_int (ga_cons (ge_op or_add ok_add (ge_ix ix_seq ok_ix (ge_var 0 (pv 0)) ge_int (fun _ _ => rfl)) (ge_op or_mul ok_mul ge_int (ge_ix ix_seq ok_ix (ge_var 0 (pv 0)) ge_int (fun _ _ => rfl)))) ga_nil)) ge_int) ga_nil)) ge_int))) (gss_cons (gs_set (ps_set (i := 4) nd rfl (by first | exact Or.inl rfl | exact Or.inr rfl) (ge_op op_modN ok_mod (ge_ty call_int1 ok_int (by rfl) X.b_int bt_int (ga_cons (ge_op or_mul ok_mul (ge_var 4 (pv 4)) (ge_op or_add ok_add (ge_op or_div ok_div (ge_var 4 (pv 4)) ge_int) ge_int)) ga_nil)) ge_int))) (gss_cons (gs_set (ps_set (i := 4) nd rfl (by first | exact Or.inl rfl | exact Or.inr rfl) (ge_op op_modN ok_mod (ge_ty call_int1 ok_int (by rfl) X.b_int bt_int (ga_cons (ge_op or_mul ok_mul (ge_var 4 (pv 4)) (ge_op or_add ok_add (ge_op or_div ok_div (ge_var 4 (pv 4)) ge_int) ge_int)) ga_nil)) ge_int))) (gss_one (gs_ret (ge_op op_modN ok_mod (ge_ty call_int1 ok_int (by rfl) X.b_int bt_int (ga_cons (ge_op or_div ok_div (ge_var 4 (pv 4)) ge_int) ga_nil)) (ge_var 1 (pv 1)))))))))))
theorem st_law_draw (X : Fx K mg) (A : All P w K mg base k) : FnO P w K mg base T Lib (k + 1) 217 "_law_draw" (He.ga K "_law_draw") ["hand", "many"] :=
  (bn_law_draw X).elim fun fd z => ⟨X.g_law_draw, z.2.kp, fd, z.1, ok_law_draw z.2 X A⟩
theorem sc_law_any : FnScope ["hand", "some"] ["hand", "some"] (defScope s_law_any) := ⟨rfl, rfl, rfl, by decide +kernel, rfl, by decide +kernel, by decide +kernel⟩
theorem bn_law_any (X : Fx K mg) : ∃ fd, Binds K fd ["hand", "some"] [] ∧ FunD K "_law_any" "_law_any" (defArgs s_law_any) (defBody s_law_any) (defScope s_law_any) [] [] (He.ga K "_law_any") fd := by
  obtain ⟨fd, Fd⟩ := X.d_law_any
  exact ⟨fd, Fd.bindsN fun _ _ _ _ _ _ us hl => match us, hl with | [_, _], _ => rfl, Fd⟩
theorem ok_law_any {fd : FuncData} (Fd : FunD K "_law_any" "_law_any" (defArgs s_law_any) (defBody s_law_any) (defScope s_law_any) [] [] (He.ga K "_law_any") fd) (X : Fx K mg) (A : All P w K mg base k) : FnOk P w K mg base (L2.CX P w) (k + 1) (He.ga K "_law_any") fd ["hand", "some"] (spOf K T Lib (k + 1) 218) := by
  refine fn_ok Fd sc_law_any (d := f_law_any_v2) rfl rfl rfl fun cdv Ar outer s H E hr => ?_
  have nd := sc_law_any.nd
  exact (gss_one (gs_ret (ge_ix ix_seq ok_ix (ge_var 1 (pv 1)) (ge_fn A.o_law_draw hr (takes_of rfl rfl rfl rfl) (by rfl) (ga_cons (ge_var 0 (pv 0)) (ga_cons (ge_blt or_len ok_len (by rfl) X.b_len bt_len (ga_cons (ge_var 1 (pv 1)) ga_nil)) ga_nil))) (fun _ _ => rfl))))
theorem st_law_any (X : Fx K mg) (A : All P w K mg base k) : FnO P w K mg base T Lib (k + 1) 218 "_law_any" (He.ga K "_law_any") ["hand", "some"] :=
  (bn_law_any X).elim fun fd z => ⟨X.g_law_any, z.2.kp, fd, z.1, ok_law_any z.2 X A⟩
theorem sc_law_same : FnScope ["one", "due", "a", "b"] ["one", "due"] (defScope s_law_same) := ⟨rfl, rfl, rfl, by decide +kernel, rfl, by decide +kernel, by decide +kernel⟩
theorem bn_law_same (X : Fx K mg) : ∃ fd, Binds K fd ["one", "due"] [] ∧ FunD K "_law_same" "_law_same" (defArgs s_law_same) (defBody s_law_same) (defScope s_law_same) [] [] (He.ga K "_law_same") fd := by
  obtain ⟨fd, Fd⟩ := X.d_law_same
  exact ⟨fd, Fd.bindsN fun _ _ _ _ _ _ us hl => match us, hl with | [_, _], _ => rfl, Fd⟩
theorem ok_law_same {fd : FuncData} (Fd : FunD K "_law_same" "_law_same" (defArgs s_law_same) (defBody s_law_same) (defScope s_law_same) [] [] (He.ga K "_law_same") fd) (X : Fx K mg) (A : All P w K mg base k) : FnOk P w K mg base (L2.CX P w) (k + 1) (He.ga K "_law_same") fd ["one", "due"] (spOf K T Lib (k + 1) 219) := by
  refine fn_ok Fd sc_law_same (d := f_law_same_v2) rfl rfl rfl fun cdv Ar outer s H E hr => ?_
  have nd := sc_law_same.nd
  exact (gss_cons (gs_if (gt_val (ge_isi2 (t := .tuple) (t' := .list) (by rfl) X.b_isinstance (ge_var 1 (pv 1)) (pe_tyname (by rfl) X.b_tuple bt_tuple) (pe_tyname (by rfl) X.b_list bt_list))) (gss_cons (gs_if (GW.gt (gw_or (gt_cmp (or_ne hr.units) ok_ne (ge_isi (t := .tuple) (by rfl) X.b_isinstance (ge_var 0 (pv 0)) (pe_tyname (by rfl) X.b_tuple bt_tuple)) (ge_isi (t := .tuple) (by rfl) X.b_isinstance (ge_var 1 (pv 1)) (pe_tyname (by rfl) X.b_tuple bt_tuple)) (nomark _)) (gw_or1 (gt_not (gt_val (ge_isi2 (t := .tuple) (t' := .list) (by rfl) X.b_isinstance (ge_var 0 (pv 0)) (pe_tyname (by rfl) X.b_tuple bt_tuple) (pe_tyname (by rfl) X.b_list bt_list))))))) (gss_one (gs_ret ge_bl)) gss_nil) (gss_one (gs_ret (ge_and (ge_cmp (or_eq hr.units) ok_eq (ge_blt or_len ok_len (by rfl) X.b_len bt_len (ga_cons (ge_var 0 (pv 0)) ga_nil)) (ge_blt or_len ok_len (by rfl) X.b_len bt_len (ga_cons (ge_var 1 (pv 1)) ga_nil)) (nomark _)) (ge_one (ge_blt (cr_all rfl) ok_all (by rfl) X.b_all bt_all (ga_cons (ge_lc (own := [("a", 2), ("b", 3)]) rfl nd (gi_zip (by rfl) X.b_zip (ga_cons (ge_var 0 (pv 0)) (ga_cons (ge_var 1 (pv 1)) ga_nil))) (blkOk_by (N := ["one", "due", "a", "b"]) (sc := defScope s_law_same) (own := [("a", 2), ("b", 3)]) (by decide +kernel)) (by decide) (fun _ _ _ _ _ => (gp_tup rfl (gps_cons (gp_name (pg_name (i := 2) nd rfl (by first | exact Or.inl rfl | exact Or.inr rfl))) (gps_cons (gp_name (pg_name (i := 3) nd rfl (by first | exact Or.inl rfl | exact Or.inr rfl))) gps_nil)))) (fun _ _ _ _ _ => gts_nil) (fun _ _ _ _ _ => (ge_fn A.o_law_same hr takes0 (by rfl) (ga_cons (ge_var 2 (pv 2)) (ga_cons (ge_var 3 (pv 3)) ga_nil))))) ga_nil))))))) gss_nil) (gss_cons (gs_if (GW.gt (gw_or (gt_val (ge_isi (t := .bool) (by rfl) X.b_isinstance (ge_var 1 (pv 1)) (pe_tyname (by rfl) X.b_bool bt_bool))) (gw_or (gt_val (ge_isi (t := .bool) (by rfl) X.b_isinstance (ge_var 0 (pv 0)) (pe_tyname (by rfl) X.b_bool bt_bool))) (gw_or (gt_isN (ge_var 1 (pv 1))) (gw_or1 (gt_isN (ge_var 0 (pv 0)))))))) (gss_one (gs_ret (ge_and (ge_cmp (or_eq hr.units) ok_eq (ge_isi (t := .bool) (by rfl) X.b_isinstance (ge_var 0 (pv 0)) (pe_tyname (by rfl) X.b_bool bt_bool)) (ge_isi (t := .bool) (by rfl) X.b_isinstance (ge_var 1 (pv 1)) (pe_tyname (by rfl) X.b_bool bt_bool)) (nomark _)) (ge_and (ge_cmp (or_eq hr.units) ok_eq (ge_isN (ge_var 0 (pv 0))) (ge_isN (ge_var 1 (pv 1))) (nomark _)) (ge_one (ge_cmp (or_eq hr.units) ok_eq (ge_var 0 (pv 0)) (ge_var 1 (pv 1)) (nomark _))))))) gss_nil) (gss_one (gs_ret (ge_and (ge_cmp (or_eq hr.units) ok_eq (ge_isi (t := .str) (by rfl) X.b_isinstance (ge_var 0 (pv 0)) (pe_tyname (by rfl) X.b_str bt_str)) (ge_isi (t := .str) (by rfl) X.b_isinstance (ge_var 1 (pv 1)) (pe_tyname (by rfl) X.b_str bt_str)) (nomark _)) (ge_and (ge_isi2 (t := .int) (t' := .str) (by rfl) X.b_isinstance (ge_var 0 (pv 0)) (pe_tyname (by rfl) X.b_int bt_int) (pe_tyname (by rfl) X.b_str bt_str)) (ge_one (ge_cmp (or_eq hr.units) ok_eq (ge_var 0 (pv 0)) (ge_var 1 (pv 1)) (nomark _)))))))))
theorem st_law_same (X : Fx K mg) (A : All P w K mg base k) : FnO P w K mg base T Lib (k + 1) 219 "_law_same" (He.ga K "_law_same") ["one", "due"] :=
  (bn_law_same X).elim fun fd z => ⟨X.g_law_same, z.2.kp, fd, z.1, ok_law_same z.2 X A⟩
theorem sc_law_low : FnScope ["n", "d", "a", "b"] ["n", "d"] (defScope s_law_low) := ⟨rfl, rfl, rfl, by decide +kernel, rfl, by decide +kernel, by decide +kernel⟩
theorem bn_law_low (X : Fx K mg) : ∃ fd, Binds K fd ["n", "d"] [] ∧ FunD K "_law_low" "_law_low" (defArgs s_law_low) (defBody s_law_low) (defScope s_law_low) [] [] (He.ga K "_law_low") fd := by
  obtain ⟨fd, Fd⟩ := X.d_law_low
  exact ⟨fd, Fd.bindsN fun _ _ _ _ _ _ us hl => match us, hl with | [_, _], _ => rfl, Fd⟩
theorem ok_law_low {fd : FuncData} (Fd : FunD K "_law_low" "_law_low" (defArgs s_law_low) (defBody s_law_low) (defScope s_law_low) [] [] (He.ga K "_law_low") fd) (X : Fx K mg) (A : All P w K mg base k) : FnOk P w K mg base (L2.CX P w) (k + 1) (He.ga K "_law_low") fd ["n", "d"] (spOf K T Lib (k + 1) 220) := by
  refine fn_ok Fd sc_law_low (d := f_law_low) rfl rfl rfl fun cdv Ar outer s H E hr => ?_
  have nd := sc_law_low.nd
  exact (gss_cons (gs_swp2 (ps_par (i := 2) (j := 3) rfl nd rfl rfl (by decide) rfl rfl (ga_cons (ge_var 0 (pv 0)) (ga_cons (ge_var 1 (pv 1)) ga_nil)) (by rfl))) (gss_cons (gs_while (passes_of rfl) (gt_cmp op_gt (ok_cmp _) (ge_var 3 (pv 3)) ge_int (nomark _)) (gss_one (gs_swp2 (ps_par (i := 2) (j := 3) rfl nd rfl rfl (by decide) rfl rfl (ga_cons (ge_var 3 (pv 3)) (ga_cons (ge_op op_modN ok_mod (ge_ty call_int1 ok_int (by rfl) X.b_int bt_int (ga_cons (ge_var 2 (pv 2)) ga_nil)) (ge_var 3 (pv 3))) ga_nil)) (by rfl))))) (gss_one (gs_ret (ge_tup (k := 2) rfl (by decide) (ga_cons (ge_op or_div ok_div (ge_var 0 (pv 0)) (ge_var 2 (pv 2))) (ga_cons (ge_op or_div ok_div (ge_var 1 (pv 1)) (ge_var 2 (pv 2))) ga_nil)) rfl)))))
theorem st_law_low (X : Fx K mg) (A : All P w K mg base k) : FnO P w K mg base T Lib (k + 1) 220 "_law_low" (He.ga K "_law_low") ["n", "d"] :=
  (bn_law_low X).elim fun fd z => ⟨X.g_law_low, z.2.kp, fd, z.1, ok_law_low z.2 X A⟩
theorem sc_law_rule : FnScope ["hand", "most", "q", "b"] ["hand", "most"] (defScope s_law_rule) := ⟨rfl, rfl, rfl, by decide +kernel, rfl, by decide +kernel, by decide +kernel⟩
theorem bn_law_rule (X : Fx K mg) : ∃ fd, Binds K fd ["hand", "most"] [] ∧ FunD K "_law_rule" "_law_rule" (defArgs s_law_rule) (defBody s_law_rule) (defScope s_law_rule) [] [] (He.ga K "_law_rule") fd := by
  obtain ⟨fd, Fd⟩ := X.d_law_rule
  exact ⟨fd, Fd.bindsN fun _ _ _ _ _ _ us hl => match us, hl with | [_, _], _ => rfl, Fd⟩
theorem ok_law_rule {fd : FuncData} (Fd : FunD K "_law_rule" "_law_rule" (defArgs s_law_rule) (defBody s_law_rule) (defScope s_law_rule) [] [] (He.ga K "_law_rule") fd) (X : Fx K mg) (A : All P w K mg base k) : FnOk P w K mg base (L2.CX P w) (k + 1) (He.ga K "_law_rule") fd ["hand", "most"] (spOf K T Lib (k + 1) 221) := by
  refine fn_ok Fd sc_law_rule (d := f_law_rule_v2) rfl rfl rfl fun cdv Ar outer s H E hr => ?_
  have nd := sc_law_rule.nd
  exact (gss_cons (gs_swp2 (ps_par (i := 2) (j := 3) rfl nd rfl rfl (by decide) rfl rfl (ga_cons (ge_op or_add ok_add ge_int (ge_fn A.o_law_draw hr (takes_of rfl rfl rfl rfl) (by rfl) (ga_cons (ge_var 0 (pv 0)) (ga_cons (ge_fn A.o_law_any hr (takes_of rfl rfl rfl rfl) (by rfl) (ga_cons (ge_var 0 (pv 0)) (ga_cons (ge_lst (ga_cons ge_int (ga_cons ge_int (ga_cons (ge_var 1 (pv 1)) ga_nil)))) ga_nil))) ga_nil)))) (ga_cons (ge_op or_add ok_add ge_int (ge_fn A.o_law_draw hr (takes_of rfl rfl rfl rfl) (by rfl) (ga_cons (ge_var 0 (pv 0)) (ga_cons (ge_fn A.o_law_any hr (takes_of rfl rfl rfl rfl) (by rfl) (ga_cons (ge_var 0 (pv 0)) (ga_cons (ge_lst (ga_cons ge_int (ga_cons ge_int (ga_cons (ge_var 1 (pv 1)) ga_nil)))) ga_nil))) ga_nil)))) ga_nil)) (by rfl))) (gss_one (gs_ret (ge_tup (k := 2) rfl (by decide) (ga_cons (ge_fn A.o_law_low hr (takes_of rfl rfl rfl rfl) (by rfl) (ga_cons (ge_fn A.o_law_any hr (takes_of rfl rfl rfl rfl) (by rfl) (ga_cons (ge_var 0 (pv 0)) (ga_cons (ge_lst (ga_cons (ge_fn A.o_law_draw hr (takes_of rfl rfl rfl rfl) (by rfl) (ga_cons (ge_var 0 (pv 0)) (ga_cons (ge_op or_add ok_add (ge_var 2 (pv 2)) ge_int) ga_nil))) (ga_cons ge_int (ga_cons (ge_op op_sub ok_sub (ge_var 2 (pv 2)) ge_int) (ga_cons (ge_var 2 (pv 2)) (ga_cons ge_int ga_nil)))))) ga_nil))) (ga_cons (ge_var 2 (pv 2)) ga_nil))) (ga_cons (ge_fn A.o_law_low hr (takes_of rfl rfl rfl rfl) (by rfl) (ga_cons (ge_fn A.o_law_draw hr (takes_of rfl rfl rfl rfl) (by rfl) (ga_cons (ge_var 0 (pv 0)) (ga_cons (ge_var 3 (pv 3)) ga_nil))) (ga_cons (ge_var 3 (pv 3)) ga_nil))) ga_nil)) rfl))))
theorem st_law_rule (X : Fx K mg) (A : All P w K mg base k) : FnO P w K mg base T Lib (k + 1) 221 "_law_rule" (He.ga K "_law_rule") ["hand", "most"] :=
  (bn_law_rule X).elim fun fd z => ⟨X.g_law_rule, z.2.kp, fd, z.1, ok_law_rule z.2 X A⟩
theorem sc_law_until : FnScope ["rule", "day", "p", "q", "a", "b"] ["rule", "day"] (defScope s_law_until) := ⟨rfl, rfl, rfl, by decide +kernel, rfl, by decide +kernel, by decide +kernel⟩
theorem bn_law_until (X : Fx K mg) : ∃ fd, Binds K fd ["rule", "day"] [] ∧ FunD K "_law_until" "_law_until" (defArgs s_law_until) (defBody s_law_until) (defScope s_law_until) [] [] (He.ga K "_law_until") fd := by
  obtain ⟨fd, Fd⟩ := X.d_law_until
  exact ⟨fd, Fd.bindsN fun _ _ _ _ _ _ us hl => match us, hl with | [_, _], _ => rfl, Fd⟩
theorem ok_law_until {fd : FuncData} (Fd : FunD K "_law_until" "_law_until" (defArgs s_law_until) (defBody s_law_until) (defScope s_law_until) [] [] (He.ga K "_law_until") fd) (X : Fx K mg) (A : All P w K mg base k) : FnOk P w K mg base (L2.CX P w) (k + 1) (He.ga K "_law_until") fd ["rule", "day"] (spOf K T Lib (k + 1) 222) := by
  refine fn_ok Fd sc_law_until (d := f_law_until_v2) rfl rfl rfl fun cdv Ar outer s H E hr => ?_
  have nd := sc_law_until.nd
  exact (gss_cons (gs_asg (ps_asg (ge_var 0 (pv 0)) (gp_tup rfl (gps_cons (gp_tup rfl (gps_cons (gp_name (pg_name (i := 2) nd rfl (by first | exact Or.inl rfl | exact Or.inr rfl))) (gps_cons (gp_name (pg_name (i := 3) nd rfl (by first | exact Or.inl rfl | exact Or.inr rfl))) gps_nil))) (gps_cons (gp_tup rfl (gps_cons (gp_name (pg_name (i := 4) nd rfl (by first | exact Or.inl rfl | exact Or.inr rfl))) (gps_cons (gp_name (pg_name (i := 5) nd rfl (by first | exact Or.inl rfl | exact Or.inr rfl))) gps_nil))) gps_nil))))) (gss_one (gs_ret (ge_op or_div ok_div (ge_op or_add ok_add (ge_op or_mul ok_mul (ge_op or_mul ok_mul (ge_var 1 (pv 1)) (ge_var 2 (pv 2))) (ge_var 5 (pv 5))) (ge_op or_mul ok_mul (ge_var 4 (pv 4)) (ge_var 3 (pv 3)))) (ge_op or_mul ok_mul (ge_var 3 (pv 3)) (ge_var 5 (pv 5)))))))
theorem st_law_until (X : Fx K mg) (A : All P w K mg base k) : FnO P w K mg base T Lib (k + 1) 222 "_law_until" (He.ga K "_law_until") ["rule", "day"] :=
  (bn_law_until X).elim fun fd z => ⟨X.g_law_until, z.2.kp, fd, z.1, ok_law_until z.2 X A⟩
theorem sc_law_has_duty : FnScope ["rule", "day"] ["rule", "day"] (defScope s_law_has_duty) := ⟨rfl, rfl, rfl, by decide +kernel, rfl, by decide +kernel, by decide +kernel⟩
theorem bn_law_has_duty (X : Fx K mg) : ∃ fd, Binds K fd ["rule", "day"] [] ∧ FunD K "_law_has_duty" "_law_has_duty" (defArgs s_law_has_duty) (defBody s_law_has_duty) (defScope s_law_has_duty) [] [] (He.ga K "_law_has_duty") fd := by
  obtain ⟨fd, Fd⟩ := X.d_law_has_duty
  exact ⟨fd, Fd.bindsN fun _ _ _ _ _ _ us hl => match us, hl with | [_, _], _ => rfl, Fd⟩
theorem ok_law_has_duty {fd : FuncData} (Fd : FunD K "_law_has_duty" "_law_has_duty" (defArgs s_law_has_duty) (defBody s_law_has_duty) (defScope s_law_has_duty) [] [] (He.ga K "_law_has_duty") fd) (X : Fx K mg) (A : All P w K mg base k) : FnOk P w K mg base (L2.CX P w) (k + 1) (He.ga K "_law_has_duty") fd ["rule", "day"] (spOf K T Lib (k + 1) 223) := by
  refine fn_ok Fd sc_law_has_duty (d := f_law_has_duty) rfl rfl rfl fun cdv Ar outer s H E hr => ?_
  have nd := sc_law_has_duty.nd
  exact (gss_one (gs_ret (ge_cmp op_gt (ok_cmp _) (ge_fn A.o_law_until hr (takes_of rfl rfl rfl rfl) (by rfl) (ga_cons (ge_var 0 (pv 0)) (ga_cons (ge_op or_add ok_add (ge_var 1 (pv 1)) ge_int) ga_nil))) (ge_fn A.o_law_until hr (takes_of rfl rfl rfl rfl) (by rfl) (ga_cons (ge_var 0 (pv 0)) (ga_cons (ge_var 1 (pv 1)) ga_nil))) (nomark _))))
theorem st_law_has_duty (X : Fx K mg) (A : All P w K mg base k) : FnO P w K mg base T Lib (k + 1) 223 "_law_has_duty" (He.ga K "_law_has_duty") ["rule", "day"] :=
  (bn_law_has_duty X).elim fun fd z => ⟨X.g_law_has_duty, z.2.kp, fd, z.1, ok_law_has_duty z.2 X A⟩
theorem sc_law_form : FnScope ["rule", "p", "q", "a", "b"] ["rule"] (defScope s_law_form) := ⟨rfl, rfl, rfl, by decide +kernel, rfl, by decide +kernel, by decide +kernel⟩
theorem bn_law_form (X : Fx K mg) : ∃ fd, Binds K fd ["rule"] [] ∧ FunD K "_law_form" "_law_form" (defArgs s_law_form) (defBody s_law_form) (defScope s_law_form) [] [] (He.ga K "_law_form") fd := by
  obtain ⟨fd, Fd⟩ := X.d_law_form
  exact ⟨fd, Fd.bindsN fun _ _ _ _ _ _ us hl => match us, hl with | [_], _ => rfl, Fd⟩
theorem ok_law_form {fd : FuncData} (Fd : FunD K "_law_form" "_law_form" (defArgs s_law_form) (defBody s_law_form) (defScope s_law_form) [] [] (He.ga K "_law_form") fd) (X : Fx K mg) (A : All P w K mg base k) : FnOk P w K mg base (L2.CX P w) (k + 1) (He.ga K "_law_form") fd ["rule"] (spOf K T Lib (k + 1) 224) := by
  refine fn_ok Fd sc_law_form (d := f_law_form) rfl rfl rfl fun cdv Ar outer s H E hr => ?_
  have nd := sc_law_form.nd
  exact (gss_cons (gs_asg (ps_asg (ge_var 0 (pv 0)) (gp_tup rfl (gps_cons (gp_tup rfl (gps_cons (gp_name (pg_name (i := 1) nd rfl (by first | exact Or.inl rfl | exact Or.inr rfl))) (gps_cons (gp_name (pg_name (i := 2) nd rfl (by first | exact Or.inl rfl | exact Or.inr rfl))) gps_nil))) (gps_cons (gp_tup rfl (gps_cons (gp_name (pg_name (i := 3) nd rfl (by first | exact Or.inl rfl | exact Or.inr rfl))) (gps_cons (gp_name (pg_name (i := 4) nd rfl (by first | exact Or.inl rfl | exact Or.inr rfl))) gps_nil))) gps_nil))))) (gss_one (gs_ret (ge_tup (k := 3) rfl (by decide) (ga_cons (ge_var 1 (pv 1)) (ga_cons (ge_var 2 (pv 2)) (ga_cons (ge_op or_div ok_div (ge_op or_mul ok_mul (ge_var 2 (pv 2)) (ge_var 3 (pv 3))) (ge_var 4 (pv 4))) ga_nil))) rfl))))
theorem st_law_form (X : Fx K mg) (A : All P w K mg base k) : FnO P w K mg base T Lib (k + 1) 224 "_law_form" (He.ga K "_law_form") ["rule"] :=
  (bn_law_form X).elim fun fd z => ⟨X.g_law_form, z.2.kp, fd, z.1, ok_law_form z.2 X A⟩
theorem sc_law_of_form : FnScope ["form"] ["form"] (defScope s_law_of_form) := ⟨rfl, rfl, rfl, by decide +kernel, rfl, by decide +kernel, by decide +kernel⟩
theorem bn_law_of_form (X : Fx K mg) : ∃ fd, Binds K fd ["form"] [] ∧ FunD K "_law_of_form" "_law_of_form" (defArgs s_law_of_form) (defBody s_law_of_form) (defScope s_law_of_form) [] [] (He.ga K "_law_of_form") fd := by
  obtain ⟨fd, Fd⟩ := X.d_law_of_form
  exact ⟨fd, Fd.bindsN fun _ _ _ _ _ _ us hl => match us, hl with | [_], _ => rfl, Fd⟩
theorem ok_law_of_form {fd : FuncData} (Fd : FunD K "_law_of_form" "_law_of_form" (defArgs s_law_of_form) (defBody s_law_of_form) (defScope s_law_of_form) [] [] (He.ga K "_law_of_form") fd) (X : Fx K mg) (A : All P w K mg base k) : FnOk P w K mg base (L2.CX P w) (k + 1) (He.ga K "_law_of_form") fd ["form"] (spOf K T Lib (k + 1) 225) := by
  refine fn_ok Fd sc_law_of_form (d := f_law_of_form) rfl rfl rfl fun cdv Ar outer s H E hr => ?_
  have nd := sc_law_of_form.nd
  exact (gss_one (gs_ret (ge_tup (k := 2) rfl (by decide) (ga_cons (ge_fn A.o_law_low hr (takes_of rfl rfl rfl rfl) (by rfl) (ga_cons (ge_ix ix_seq ok_ix (ge_var 0 (pv 0)) ge_int (fun _ _ => rfl)) (ga_cons (ge_ix ix_seq ok_ix (ge_var 0 (pv 0)) ge_int (fun _ _ => rfl)) ga_nil))) (ga_cons (ge_fn A.o_law_low hr (takes_of rfl rfl rfl rfl) (by rfl) (ga_cons (ge_ix ix_seq ok_ix (ge_var 0 (pv 0)) ge_int (fun _ _ => rfl)) (ga_cons (ge_ix ix_seq ok_ix (ge_var 0 (pv 0)) ge_int (fun _ _ => rfl)) ga_nil))) ga_nil)) rfl)))
theorem st_law_of_form (X : Fx K mg) (A : All P w K mg base k) : FnO P w K mg base T Lib (k + 1) 225 "_law_of_form" (He.ga K "_law_of_form") ["form"] :=
  (bn_law_of_form X).elim fun fd z => ⟨X.g_law_of_form, z.2.kp, fd, z.1, ok_law_of_form z.2 X A⟩
theorem sc_law_contrary : FnScope ["form", "p", "q", "k"] ["form"] (defScope s_law_contrary) := ⟨rfl, rfl, rfl, by decide +kernel, rfl, by decide +kernel, by decide +kernel⟩
theorem bn_law_contrary (X : Fx K mg) : ∃ fd, Binds K fd ["form"] [] ∧ FunD K "_law_contrary" "_law_contrary" (defArgs s_law_contrary) (defBody s_law_contrary) (defScope s_law_contrary) [] [] (He.ga K "_law_contrary") fd := by
  obtain ⟨fd, Fd⟩ := X.d_law_contrary
  exact ⟨fd, Fd.bindsN fun _ _ _ _ _ _ us hl => match us, hl with | [_], _ => rfl, Fd⟩
theorem ok_law_contrary {fd : FuncData} (Fd : FunD K "_law_contrary" "_law_contrary" (defArgs s_law_contrary) (defBody s_law_contrary) (defScope s_law_contrary) [] [] (He.ga K "_law_contrary") fd) (X : Fx K mg) (A : All P w K mg base k) : FnOk P w K mg base (L2.CX P w) (k + 1) (He.ga K "_law_contrary") fd ["form"] (spOf K T Lib (k + 1) 244) := by
  refine fn_ok Fd sc_law_contrary (d := f_law_contrary) rfl rfl rfl fun cdv Ar outer s H E hr => ?_
  have nd := sc_law_contrary.nd
  exact (gss_cons (gs_asg (ps_asg (ge_var 0 (pv 0)) (gp_tup rfl (gps_cons (gp_name (pg_name (i := 1) nd rfl (by first | exact Or.inl rfl | exact Or.inr rfl))) (gps_cons (gp_name (pg_name (i := 2) nd rfl (by first | exact Or.inl rfl | exact Or.inr rfl))) (gps_cons (gp_name (pg_name (i := 3) nd rfl (by first | exact Or.inl rfl | exact Or.inr rfl))) gps_nil)))))) (gss_one (gs_ret (ge_tup (k := 3) rfl (by decide) (ga_cons (ge_op op_sub ok_sub (ge_var 2 (pv 2)) (ge_var 1 (pv 1))) (ga_cons (ge_var 2 (pv 2)) (ga_cons (ge_op op_sub ok_sub (ge_op op_sub ok_sub (ge_var 2 (pv 2)) ge_int) (ge_var 3 (pv 3))) ga_nil))) rfl))))
theorem st_law_contrary (X : Fx K mg) (A : All P w K mg base k) : FnO P w K mg base T Lib (k + 1) 244 "_law_contrary" (He.ga K "_law_contrary") ["form"] :=
  (bn_law_contrary X).elim fun fd z => ⟨X.g_law_contrary, z.2.kp, fd, z.1, ok_law_contrary z.2 X A⟩
theorem sc_law_due : FnScope ["one", "other", "day", "here", "there"] ["one", "other"] (defScope s_law_due) := ⟨rfl, rfl, rfl, by decide +kernel, rfl, by decide +kernel, by decide +kernel⟩
theorem bn_law_due (X : Fx K mg) : ∃ fd, Binds K fd ["one", "other"] [] ∧ FunD K "_law_due" "_law_due" (defArgs s_law_due) (defBody s_law_due) (defScope s_law_due) [] [] (He.ga K "_law_due") fd := by
  obtain ⟨fd, Fd⟩ := X.d_law_due
  exact ⟨fd, Fd.bindsN fun _ _ _ _ _ _ us hl => match us, hl with | [_, _], _ => rfl, Fd⟩
theorem ok_law_due {fd : FuncData} (Fd : FunD K "_law_due" "_law_due" (defArgs s_law_due) (defBody s_law_due) (defScope s_law_due) [] [] (He.ga K "_law_due") fd) (X : Fx K mg) (A : All P w K mg base k) : FnOk P w K mg base (L2.CX P w) (k + 1) (He.ga K "_law_due") fd ["one", "other"] (spOf K T Lib (k + 1) 245) := by
  refine fn_ok Fd sc_law_due (d := f_law_due_v2) rfl rfl rfl fun cdv Ar outer s H E hr => ?_
  have nd := sc_law_due.nd
  exact (gss_cons (gs_if (gt_cmp (or_eq hr.units) ok_eq (ge_fn A.o_law_form hr (takes_of rfl rfl rfl rfl) (by rfl) (ga_cons (ge_var 1 (pv 1)) ga_nil)) (ge_fn A.o_law_contrary hr (takes_of rfl rfl rfl rfl) (by rfl) (ga_cons (ge_fn A.o_law_form hr (takes_of rfl rfl rfl rfl) (by rfl) (ga_cons (ge_var 0 (pv 0)) ga_nil)) ga_nil)) (nomark _)) (gss_one (gs_ret (ge_tup (k := 1) rfl (by decide) (ga_cons ge_str ga_nil) rfl))) gss_nil) (gss_cons (gs_set (ps_set (i := 2) nd rfl (by first | exact Or.inl rfl | exact Or.inr rfl) ge_int)) (gss_cons (gs_while (passes_of rfl) (gt_cmp op_le (ok_cmp _) (ge_var 2 (pv 2)) (ge_op or_add ok_add (ge_ix ix_seq ok_ix (ge_ix ix_seq ok_ix (ge_var 0 (pv 0)) ge_int (fun _ _ => rfl)) ge_int (fun _ _ => rfl)) (ge_ix ix_seq ok_ix (ge_ix ix_seq ok_ix (ge_var 1 (pv 1)) ge_int (fun _ _ => rfl)) ge_int (fun _ _ => rfl))) (nomark _)) (gss_cons (gs_swp2 (ps_par (i := 3) (j := 4) rfl nd rfl rfl (by decide) rfl rfl (ga_cons (ge_fn A.o_law_has_duty hr (takes_of rfl rfl rfl rfl) (by rfl) (ga_cons (ge_var 0 (pv 0)) (ga_cons (ge_var 2 (pv 2)) ga_nil))) (ga_cons (ge_fn A.o_law_has_duty hr (takes_of rfl rfl rfl rfl) (by rfl) (ga_cons (ge_var 1 (pv 1)) (ga_cons (ge_var 2 (pv 2)) ga_nil))) ga_nil)) (by rfl))) (gss_cons (gs_if (gt_cmp (or_eq hr.units) ok_eq (ge_var 3 (pv 3)) (ge_var 4 (pv 4)) (nomark _)) (gss_one (gs_ret (ge_tup (k := 2) rfl (by decide) (ga_cons (ge_if (gt_val (ge_var 3 (pv 3))) ge_str ge_str) (ga_cons (ge_var 2 (pv 2)) ga_nil)) rfl))) gss_nil) (gss_one (gs_set (ps_set (i := 2) nd rfl (by first | exact Or.inl rfl | exact Or.inr rfl) (ge_op or_add ok_add (ge_var 2 (pv 2)) ge_int))))))) (gss_one (gs_ret (ge_tup (k := 1) rfl (by decide) (ga_cons ge_str ga_nil) rfl))))))
theorem st_law_due (X : Fx K mg) (A : All P w K mg base k) : FnO P w K mg base T Lib (k + 1) 245 "_law_due" (He.ga K "_law_due") ["one", "other"] :=
  (bn_law_due X).elim fun fd z => ⟨X.g_law_due, z.2.kp, fd, z.1, ok_law_due z.2 X A⟩
theorem sc_law_near : FnScope ["hand", "rule", "most", "p", "q", "k", "kind", "few"] ["hand", "rule", "most"] (defScope s_law_near) := ⟨rfl, rfl, rfl, by decide +kernel, rfl, by decide +kernel, by decide +kernel⟩
theorem bn_law_near (X : Fx K mg) : ∃ fd, Binds K fd ["hand", "rule", "most"] [] ∧ FunD K "_law_near" "_law_near" (defArgs s_law_near) (defBody s_law_near) (defScope s_law_near) [] [] (He.ga K "_law_near") fd := by
  obtain ⟨fd, Fd⟩ := X.d_law_near
  exact ⟨fd, Fd.bindsN fun _ _ _ _ _ _ us hl => match us, hl with | [_, _, _], _ => rfl, Fd⟩
theorem ok_law_near {fd : FuncData} (Fd : FunD K "_law_near" "_law_near" (defArgs s_law_near) (defBody s_law_near) (defScope s_law_near) [] [] (He.ga K "_law_near") fd) (X : Fx K mg) (A : All P w K mg base k) : FnOk P w K mg base (L2.CX P w) (k + 1) (He.ga K "_law_near") fd ["hand", "rule", "most"] (spOf K T Lib (k + 1) 246) := by
  refine fn_ok Fd sc_law_near (d := f_law_near_v3) rfl rfl rfl fun cdv Ar outer s H E hr => ?_
  have nd := sc_law_near.nd
  exact (gss_cons (gs_asg (ps_asg (ge_fn A.o_law_contrary hr (takes_of rfl rfl rfl rfl) (by rfl) (ga_cons (ge_fn A.o_law_form hr (takes_of rfl rfl rfl rfl) (by rfl) (ga_cons (ge_var 1 (pv 1)) ga_nil)) ga_nil)) (gp_tup rfl (gps_cons (gp_name (pg_name (i := 3) nd rfl (by first | exact Or.inl rfl | exact Or.inr rfl))) (gps_cons (gp_name (pg_name (i := 4) nd rfl (by first | exact Or.inl rfl | exact Or.inr rfl))) (gps_cons (gp_name (pg_name (i := 5) nd rfl (by first | exact Or.inl rfl | exact Or.inr rfl))) gps_nil)))))) (gss_cons (gs_set (ps_set (i := 6) nd rfl (by first | exact Or.inl rfl | exact Or.inr rfl) (ge_fn A.o_law_draw hr (takes_of rfl rfl rfl rfl) (by rfl) (ga_cons (ge_var 0 (pv 0)) (ga_cons ge_int ga_nil))))) (gss_cons (gs_if (gt_cmp (or_eq hr.units) ok_eq (ge_var 6 (pv 6)) ge_int (nomark _)) (gss_one (gs_ret (ge_fn A.o_law_rule hr (takes_of rfl rfl rfl rfl) (by rfl) (ga_cons (ge_var 0 (pv 0)) (ga_cons (ge_var 2 (pv 2)) ga_nil))))) gss_nil) (gss_cons (gs_if (gt_cmp (or_eq hr.units) ok_eq (ge_var 6 (pv 6)) ge_int (nomark _)) (gss_cons (gs_set (ps_set (i := 7) nd rfl (by first | exact Or.inl rfl | exact Or.inr rfl) (ge_blt (call_max2 rfl) ok_max2 (by rfl) X.b_max bt_max (ga_cons ge_int (ga_cons (ge_blt (call_min2 rfl) ok_min2 (by rfl) X.b_min bt_min (ga_cons ge_int (ga_cons (ge_op or_div ok_div (ge_op op_pow ok_pow ge_int ge_int) (ge_var 4 (pv 4))) ga_nil))) ga_nil))))) (gss_one (gs_ret (ge_tup (k := 2) rfl (by decide) (ga_cons (ge_fn A.o_law_low hr (takes_of rfl rfl rfl rfl) (by rfl) (ga_cons (ge_var 3 (pv 3)) (ga_cons (ge_var 4 (pv 4)) ga_nil))) (ga_cons (ge_fn A.o_law_low hr (takes_of rfl rfl rfl rfl) (by rfl) (ga_cons (ge_op or_add ok_add (ge_op or_mul ok_mul (ge_var 5 (pv 5)) (ge_var 7 (pv 7))) (ge_fn A.o_law_draw hr (takes_of rfl rfl rfl rfl) (by rfl) (ga_cons (ge_var 0 (pv 0)) (ga_cons (ge_var 7 (pv 7)) ga_nil)))) (ga_cons (ge_op or_mul ok_mul (ge_var 4 (pv 4)) (ge_var 7 (pv 7))) ga_nil))) ga_nil)) rfl)))) gss_nil) (gss_cons (gs_if (gt_cmp (or_eq hr.units) ok_eq (ge_var 6 (pv 6)) ge_int (nomark _)) (gss_one (gs_ret (ge_fn A.o_law_of_form hr (takes_of rfl rfl rfl rfl) (by rfl) (ga_cons (ge_tup (k := 3) rfl (by decide) (ga_cons (ge_var 3 (pv 3)) (ga_cons (ge_var 4 (pv 4)) (ga_cons (ge_op op_modN ok_mod (ge_ty call_int1 ok_int (by rfl) X.b_int bt_int (ga_cons (ge_op or_add ok_add (ge_var 5 (pv 5)) ge_int) ga_nil)) (ge_var 4 (pv 4))) ga_nil))) rfl) ga_nil)))) gss_nil) (gss_cons (gs_if (gt_cmp (or_eq hr.units) ok_eq (ge_var 6 (pv 6)) ge_int (nomark _)) (gss_one (gs_ret (ge_tup (k := 2) rfl (by decide) (ga_cons (ge_fn A.o_law_low hr (takes_of rfl rfl rfl rfl) (by rfl) (ga_cons (ge_blt (call_max2 rfl) ok_max2 (by rfl) X.b_max bt_max (ga_cons ge_int (ga_cons (ge_blt (call_min2 rfl) ok_min2 (by rfl) X.b_min bt_min (ga_cons (ge_var 4 (pv 4)) (ga_cons (ge_op or_add ok_add (ge_var 3 (pv 3)) (ge_fn A.o_law_any hr (takes_of rfl rfl rfl rfl) (by rfl) (ga_cons (ge_var 0 (pv 0)) (ga_cons (ge_lst (ga_cons ge_int (ga_cons (ge_un un_neg ok_neg ge_int) ga_nil))) ga_nil)))) ga_nil))) ga_nil))) (ga_cons (ge_var 4 (pv 4)) ga_nil))) (ga_cons (ge_fn A.o_law_low hr (takes_of rfl rfl rfl rfl) (by rfl) (ga_cons (ge_var 5 (pv 5)) (ga_cons (ge_var 4 (pv 4)) ga_nil))) ga_nil)) rfl))) gss_nil) (gss_one (gs_ret (ge_tup (k := 2) rfl (by decide) (ga_cons (ge_fn A.o_law_low hr (takes_of rfl rfl rfl rfl) (by rfl) (ga_cons (ge_var 3 (pv 3)) (ga_cons (ge_var 4 (pv 4)) ga_nil))) (ga_cons (ge_ix ix_seq ok_ix (ge_var 1 (pv 1)) ge_int (fun _ _ => rfl)) ga_nil)) rfl)))))))))
theorem st_law_near (X : Fx K mg) (A : All P w K mg base k) : FnO P w K mg base T Lib (k + 1) 246 "_law_near" (He.ga K "_law_near") ["hand", "rule", "most"] :=
  (bn_law_near X).elim fun fd z => ⟨X.g_law_near, z.2.kp, fd, z.1, ok_law_near z.2 X A⟩
theorem sc_law_is_right : FnScope ["hand", "rule", "found", "due", "day", "many", "told", "one", "other"] ["hand", "rule"] (defScope s_law_is_right) := ⟨rfl, rfl, rfl, by decide +kernel, rfl, by decide +kernel, by decide +kernel⟩
theorem bn_law_is_right (X : Fx K mg) : ∃ fd, Binds K fd ["hand", "rule"] [] ∧ FunD K "_law_is_right" "_law_is_right" (defArgs s_law_is_right) (defBody s_law_is_right) (defScope s_law_is_right) [] [] (He.ga K "_law_is_right") fd := by
  obtain ⟨fd, Fd⟩ := X.d_law_is_right
  exact ⟨fd, Fd.bindsN fun _ _ _ _ _ _ us hl => match us, hl with | [_, _], _ => rfl, Fd⟩
theorem ok_law_is_right {fd : FuncData} (Fd : FunD K "_law_is_right" "_law_is_right" (defArgs s_law_is_right) (defBody s_law_is_right) (defScope s_law_is_right) [] [] (He.ga K "_law_is_right") fd) (X : Fx K mg) (A : All P w K mg base k) : FnOk P w K mg base (L2.CX P w) (k + 1) (He.ga K "_law_is_right") fd ["hand", "rule"] (spOf K T Lib (k + 1) 247) := by
  refine fn_ok Fd sc_law_is_right (d := f_law_is_right) rfl rfl rfl fun cdv Ar outer s H E hr => ?_
  have nd := sc_law_is_right.nd
  exact (gss_cons (gs_swp2 (ps_par (i := 2) (j := 3) rfl nd rfl rfl (by decide) rfl rfl (ga_cons (ge_fn A.o_other_days hr (takes_of rfl rfl rfl rfl) (by rfl) (ga_cons (ge_var 1 (pv 1)) ga_nil)) (ga_cons (ge_fn A.o_law_of_form hr (takes_of rfl rfl rfl rfl) (by rfl) (ga_cons (ge_fn A.o_law_contrary hr (takes_of rfl rfl rfl rfl) (by rfl) (ga_cons (ge_fn A.o_law_form hr (takes_of rfl rfl rfl rfl) (by rfl) (ga_cons (ge_var 1 (pv 1)) ga_nil)) ga_nil)) ga_nil)) ga_nil)) (by rfl))) (gss_cons (gs_if (GW.gt (gw_or (gt_not (gt_val (ge_fn A.o_law_same hr (takes_of rfl rfl rfl rfl) (by rfl) (ga_cons (ge_var 2 (pv 2)) (ga_cons (ge_var 3 (pv 3)) ga_nil))))) (gw_or1 (gt_not (gt_val (ge_fn A.o_law_same hr (takes_of rfl rfl rfl rfl) (by rfl) (ga_cons (ge_fn A.o_other_days hr (takes_of rfl rfl rfl rfl) (by rfl) (ga_cons (ge_var 2 (pv 2)) ga_nil)) (ga_cons (ge_fn A.o_law_of_form hr (takes_of rfl rfl rfl rfl) (by rfl) (ga_cons (ge_fn A.o_law_form hr (takes_of rfl rfl rfl rfl) (by rfl) (ga_cons (ge_var 1 (pv 1)) ga_nil)) ga_nil)) ga_nil)))))))) (gss_one (gs_ret ge_bl)) gss_nil) (gss_cons (gs_swp2 (ps_par (i := 4) (j := 5) rfl nd rfl rfl (by decide) rfl rfl (ga_cons (ge_fn A.o_law_any hr (takes_of rfl rfl rfl rfl) (by rfl) (ga_cons (ge_var 0 (pv 0)) (ga_cons (ge_lst (ga_cons ge_int (ga_cons (ge_fn A.o_law_draw hr (takes_of rfl rfl rfl rfl) (by rfl) (ga_cons (ge_var 0 (pv 0)) (ga_cons (ge_op op_pow ok_pow ge_int ge_int) ga_nil))) ga_nil))) ga_nil))) (ga_cons (ge_op or_add ok_add ge_int (ge_fn A.o_law_draw hr (takes_of rfl rfl rfl rfl) (by rfl) (ga_cons (ge_var 0 (pv 0)) (ga_cons ge_int ga_nil)))) ga_nil)) (by rfl))) (gss_cons (gs_if (gt_not (gt_val (ge_blt (cr_all rfl) ok_all (by rfl) X.b_all bt_all (ga_cons (ge_lc (own := [("one", 7), ("other", 8)]) rfl nd (gi_zip (by rfl) X.b_zip (ga_cons (ge_fn A.o_made hr (takes_of rfl rfl rfl rfl) (by rfl) (ga_cons (ge_var 1 (pv 1)) (ga_cons (ge_var 4 (pv 4)) (ga_cons (ge_var 5 (pv 5)) ga_nil)))) (ga_cons (ge_fn A.o_made hr (takes_of rfl rfl rfl rfl) (by rfl) (ga_cons (ge_var 2 (pv 2)) (ga_cons (ge_var 4 (pv 4)) (ga_cons (ge_var 5 (pv 5)) ga_nil)))) ga_nil))) (blkOk_by (N := ["hand", "rule", "found", "due", "day", "many", "told", "one", "other"]) (sc := defScope s_law_is_right) (own := [("one", 7), ("other", 8)]) (by decide +kernel)) (by decide) (fun _ _ _ _ _ => (gp_tup rfl (gps_cons (gp_name (pg_name (i := 7) nd rfl (by first | exact Or.inl rfl | exact Or.inr rfl))) (gps_cons (gp_name (pg_name (i := 8) nd rfl (by first | exact Or.inl rfl | exact Or.inr rfl))) gps_nil)))) (fun _ _ _ _ _ => gts_nil) (fun _ _ _ _ _ => (ge_cmp (or_ne hr.units) ok_ne (ge_var 7 (pv 7)) (ge_var 8 (pv 8)) (nomark _)))) ga_nil)))) (gss_one (gs_ret ge_bl)) gss_nil) (gss_cons (gs_set (ps_set (i := 6) nd rfl (by first | exact Or.inl rfl | exact Or.inr rfl) (ge_lst (ga_cons (ge_fn A.o_sharing hr (takes_of rfl rfl rfl rfl) (by rfl) (ga_cons (ge_var 1 (pv 1)) (ga_cons (ge_var 2 (pv 2)) ga_nil))) (ga_cons (ge_fn A.o_sharing hr (takes_of rfl rfl rfl rfl) (by rfl) (ga_cons (ge_var 2 (pv 2)) (ga_cons (ge_var 1 (pv 1)) ga_nil))) (ga_cons (ge_fn A.o_normal hr (takes_of rfl rfl rfl rfl) (by rfl) (ga_cons (ge_var 2 (pv 2)) ga_nil)) ga_nil)))))) (gss_one (gs_ret (ge_fn A.o_law_same hr (takes_of rfl rfl rfl rfl) (by rfl) (ga_cons (ge_var 6 (pv 6)) (ga_cons (ge_lst (ga_cons (ge_tup (k := 1) rfl (by decide) (ga_cons ge_str ga_nil) rfl) (ga_cons (ge_tup (k := 1) rfl (by decide) (ga_cons ge_str ga_nil) rfl) (ga_cons (ge_fn A.o_law_contrary hr (takes_of rfl rfl rfl rfl) (by rfl) (ga_cons (ge_fn A.o_law_form hr (takes_of rfl rfl rfl rfl) (by rfl) (ga_cons (ge_var 1 (pv 1)) ga_nil)) ga_nil)) ga_nil)))) ga_nil))))))))))
theorem st_law_is_right (X : Fx K mg) (A : All P w K mg base k) : FnO P w K mg base T Lib (k + 1) 247 "_law_is_right" (He.ga K "_law_is_right") ["hand", "rule"] :=
  (bn_law_is_right X).elim fun fd z => ⟨X.g_law_is_right, z.2.kp, fd, z.1, ok_law_is_right z.2 X A⟩
theorem sc_law : FnScope ["script", "hand", "a", "told", "turn", "most", "rule", "other", "due"] ["script"] (defScope s_law) := ⟨rfl, rfl, rfl, by decide +kernel, rfl, by decide +kernel, by decide +kernel⟩
theorem bn_law (X : Fx K mg) : ∃ fd, Binds K fd ["script"] [] ∧ FunD K "law" "law" (defArgs s_law) (defBody s_law) (defScope s_law) [] [] (He.ga K "law") fd := by
  obtain ⟨fd, Fd⟩ := X.d_law
  exact ⟨fd, Fd.bindsN fun _ _ _ _ _ _ us hl => match us, hl with | [_], _ => rfl, Fd⟩
theorem ok_law {fd : FuncData} (Fd : FunD K "law" "law" (defArgs s_law) (defBody s_law) (defScope s_law) [] [] (He.ga K "law") fd) (X : Fx K mg) (A : All P w K mg base k) : FnOk P w K mg base (L2.CX P w) (k + 1) (He.ga K "law") fd ["script"] (spOf K T Lib (k + 1) 248) := by
  refine fn_ok Fd sc_law (d := f_law_v14) rfl rfl rfl fun cdv Ar outer s H E hr => ?_
  have nd := sc_law.nd
  exact (gss_cons (gs_set (ps_set (i := 1) nd rfl (by first | exact Or.inl rfl | exact Or.inr rfl) (ge_fn A.o_law_hand hr (takes_of rfl rfl rfl rfl) (by rfl) (ga_cons (ge_var 0 (pv 0)) ga_nil)))) (gss_cons (gs_set (ps_set (i := 2) nd rfl (by first | exact Or.inl rfl | exact Or.inr rfl) (ge_tup (k := 2) rfl (by decide) (ga_cons (ge_tup (k := 2) rfl (by decide) (ga_cons ge_int (ga_cons ge_int ga_nil)) rfl) (ga_cons (ge_tup (k := 2) rfl (by decide) (ga_cons ge_int (ga_cons ge_int ga_nil)) rfl) ga_nil)) rfl))) (gss_cons (gs_set (ps_set (i := 3) nd rfl (by first | exact Or.inl rfl | exact Or.inr rfl) (ge_lst (ga_cons (ge_fn A.o_other_days hr (takes_of rfl rfl rfl rfl) (by rfl) (ga_cons (ge_var 2 (pv 2)) ga_nil)) (ga_cons (ge_fn A.o_sharing hr (takes_of rfl rfl rfl rfl) (by rfl) (ga_cons (ge_var 2 (pv 2)) (ga_cons (ge_tup (k := 2) rfl (by decide) (ga_cons (ge_tup (k := 2) rfl (by decide) (ga_cons ge_int (ga_cons ge_int ga_nil)) rfl) (ga_cons (ge_tup (k := 2) rfl (by decide) (ga_cons ge_int (ga_cons ge_int ga_nil)) rfl) ga_nil)) rfl) ga_nil))) (ga_cons (ge_fn A.o_sharing hr (takes_of rfl rfl rfl rfl) (by rfl) (ga_cons (ge_var 2 (pv 2)) (ga_cons (ge_var 2 (pv 2)) ga_nil))) (ga_cons (ge_fn A.o_other_days hr (takes_of rfl rfl rfl rfl) (by rfl) (ga_cons (ge_tup (k := 2) rfl (by decide) (ga_cons (ge_tup (k := 2) rfl (by decide) (ga_cons ge_int (ga_cons ge_int ga_nil)) rfl) (ga_cons (ge_tup (k := 2) rfl (by decide) (ga_cons ge_int (ga_cons ge_int ga_nil)) rfl) ga_nil)) rfl) ga_nil)) ga_nil))))))) (gss_cons (gs_if (gt_not (gt_val (ge_fn A.o_law_same hr (takes_of rfl rfl rfl rfl) (by rfl) (ga_cons (ge_var 3 (pv 3)) (ga_cons (ge_lst (ga_cons (ge_tup (k := 2) rfl (by decide) (ga_cons (ge_tup (k := 2) rfl (by decide) (ga_cons ge_int (ga_cons ge_int ga_nil)) rfl) (ga_cons (ge_tup (k := 2) rfl (by decide) (ga_cons ge_int (ga_cons ge_int ga_nil)) rfl) ga_nil)) rfl) (ga_cons (ge_tup (k := 1) rfl (by decide) (ga_cons ge_str ga_nil) rfl) (ga_cons (ge_tup (k := 2) rfl (by decide) (ga_cons ge_str (ga_cons ge_int ga_nil)) rfl) (ga_cons (ge_tup (k := 2) rfl (by decide) (ga_cons (ge_tup (k := 2) rfl (by decide) (ga_cons ge_int (ga_cons ge_int ga_nil)) rfl) (ga_cons (ge_tup (k := 2) rfl (by decide) (ga_cons ge_int (ga_cons ge_int ga_nil)) rfl) ga_nil)) rfl) ga_nil))))) ga_nil))))) (gss_one (gs_ret ge_bl)) gss_nil) (gss_cons (gs_if (gt_not (gt_val (ge_fn A.o_law_same hr (takes_of rfl rfl rfl rfl) (by rfl) (ga_cons (ge_fn A.o_sharing hr (takes_of rfl rfl rfl rfl) (by rfl) (ga_cons (ge_tup (k := 2) rfl (by decide) (ga_cons (ge_tup (k := 2) rfl (by decide) (ga_cons ge_int (ga_cons ge_int ga_nil)) rfl) (ga_cons (ge_tup (k := 2) rfl (by decide) (ga_cons ge_int (ga_cons ge_int ga_nil)) rfl) ga_nil)) rfl) (ga_cons (ge_tup (k := 2) rfl (by decide) (ga_cons (ge_tup (k := 2) rfl (by decide) (ga_cons ge_int (ga_cons ge_int ga_nil)) rfl) (ga_cons (ge_tup (k := 2) rfl (by decide) (ga_cons ge_int (ga_cons ge_int ga_nil)) rfl) ga_nil)) rfl) ga_nil))) (ga_cons (ge_tup (k := 2) rfl (by decide) (ga_cons ge_str (ga_cons ge_int ga_nil)) rfl) ga_nil))))) (gss_one (gs_ret ge_bl)) gss_nil) (gss_cons (gs_for (passes_of rfl) rfl (gi_rng1 (by rfl) X.b_range (ga_cons ge_int ga_nil)) (gp_name (pg_name (i := 4) nd rfl (by first | exact Or.inl rfl | exact Or.inr rfl))) (gss_cons (gs_set (ps_set (i := 5) nd rfl (by first | exact Or.inl rfl | exact Or.inr rfl) (ge_if (gt_cmp (or_eq hr.units) ok_eq (ge_var 4 (pv 4)) ge_int (nomark _)) (ge_fn A.o_law_any hr (takes_of rfl rfl rfl rfl) (by rfl) (ga_cons (ge_var 1 (pv 1)) (ga_cons (ge_lst (ga_cons ge_int (ga_cons ge_int (ga_cons ge_int (ga_cons (ge_op op_pow ok_pow ge_int ge_int) ga_nil))))) ga_nil))) (ge_fn A.o_law_any hr (takes_of rfl rfl rfl rfl) (by rfl) (ga_cons (ge_var 1 (pv 1)) (ga_cons (ge_lst (ga_cons ge_int (ga_cons ge_int (ga_cons ge_int ga_nil)))) ga_nil)))))) (gss_cons (gs_set (ps_set (i := 6) nd rfl (by first | exact Or.inl rfl | exact Or.inr rfl) (ge_fn A.o_law_rule hr (takes_of rfl rfl rfl rfl) (by rfl) (ga_cons (ge_var 1 (pv 1)) (ga_cons (ge_var 5 (pv 5)) ga_nil))))) (gss_cons (gs_set (ps_set (i := 7) nd rfl (by first | exact Or.inl rfl | exact Or.inr rfl) (ge_fn A.o_law_near hr (takes_of rfl rfl rfl rfl) (by rfl) (ga_cons (ge_var 1 (pv 1)) (ga_cons (ge_var 6 (pv 6)) (ga_cons (ge_var 5 (pv 5)) ga_nil)))))) (gss_cons (gs_if (gt_not (gt_val (ge_fn A.o_law_is_right hr (takes_of rfl rfl rfl rfl) (by rfl) (ga_cons (ge_var 1 (pv 1)) (ga_cons (ge_var 6 (pv 6)) ga_nil))))) (gss_one (gs_ret ge_bl)) gss_nil) (gss_cons (gs_swp2 (ps_par (i := 8) (j := 3) rfl nd rfl rfl (by decide) rfl rfl (ga_cons (ge_fn A.o_law_due hr (takes_of rfl rfl rfl rfl) (by rfl) (ga_cons (ge_var 6 (pv 6)) (ga_cons (ge_var 7 (pv 7)) ga_nil))) (ga_cons (ge_lst (ga_cons (ge_fn A.o_sharing hr (takes_of rfl rfl rfl rfl) (by rfl) (ga_cons (ge_var 6 (pv 6)) (ga_cons (ge_var 7 (pv 7)) ga_nil))) (ga_cons (ge_fn A.o_sharing hr (takes_of rfl rfl rfl rfl) (by rfl) (ga_cons (ge_var 7 (pv 7)) (ga_cons (ge_var 6 (pv 6)) ga_nil))) ga_nil))) ga_nil)) (by rfl))) (gss_one (gs_if (GW.gt (gw_or (gt_cmp (or_eq hr.units) ok_eq (ge_var 8 (pv 8)) (ge_tup (k := 1) rfl (by decide) (ga_cons ge_str ga_nil) rfl) (nomark _)) (gw_or1 (gt_not (gt_val (ge_fn A.o_law_same hr (takes_of rfl rfl rfl rfl) (by rfl) (ga_cons (ge_var 3 (pv 3)) (ga_cons (ge_lst (ga_cons (ge_var 8 (pv 8)) (ga_cons (ge_var 8 (pv 8)) ga_nil))) ga_nil)))))))) (gss_one (gs_ret ge_bl)) gss_nil)))))))) (gss_one (gs_ret ge_bl))))))))
theorem st_law (X : Fx K mg) (A : All P w K mg base k) : FnO P w K mg base T Lib (k + 1) 248 "law" (He.ga K "law") ["script"] :=
  (bn_law X).elim fun fd z => ⟨X.g_law, z.2.kp, fd, z.1, ok_law z.2 X A⟩
theorem all_zero (X : Fx K mg) : All P w K mg base 0 where
  o_is_integer := (bn_is_integer X).elim fun fd z => ⟨X.g_is_integer, z.2.kp, fd, z.1, fn_zero⟩
  o_is_within := (bn_is_within X).elim fun fd z => ⟨X.g_is_within, z.2.kp, fd, z.1, fn_zero⟩
  o_is_tuple_of := (bn_is_tuple_of X).elim fun fd z => ⟨X.g_is_tuple_of, z.2.kp, fd, z.1, fn_zero⟩
  o_common := (bn_common X).elim fun fd z => ⟨X.g_common, z.2.kp, fd, z.1, fn_zero⟩
  o_is_fraction := (bn_is_fraction X).elim fun fd z => ⟨X.g_is_fraction, z.2.kp, fd, z.1, fn_zero⟩
  o_frac := (bn_frac X).elim fun fd z => ⟨X.g_frac, z.2.kp, fd, z.1, fn_zero⟩
  o_less := (bn_less X).elim fun fd z => ⟨X.g_less, z.2.kp, fd, z.1, fn_zero⟩
  o_is_line := (bn_is_line X).elim fun fd z => ⟨X.g_is_line, z.2.kp, fd, z.1, fn_zero⟩
  o_is_rule := (bn_is_rule X).elim fun fd z => ⟨X.g_is_rule, z.2.kp, fd, z.1, fn_zero⟩
  o_check_rule := (bn_check_rule X).elim fun fd z => ⟨X.g_check_rule, z.2.kp, fd, z.1, fn_zero⟩
  o_total_to := (bn_total_to X).elim fun fd z => ⟨X.g_total_to, z.2.kp, fd, z.1, fn_zero⟩
  o_row_of := (bn_row_of X).elim fun fd z => ⟨X.g_row_of, z.2.kp, fd, z.1, fn_zero⟩
  o_made := (bn_made X).elim fun fd z => ⟨X.g_made, z.2.kp, fd, z.1, fn_zero⟩
  o_form_of := (bn_form_of X).elim fun fd z => ⟨X.g_form_of, z.2.kp, fd, z.1, fn_zero⟩
  o_normal := (bn_normal X).elim fun fd z => ⟨X.g_normal, z.2.kp, fd, z.1, fn_zero⟩
  o_made_of := (bn_made_of X).elim fun fd z => ⟨X.g_made_of, z.2.kp, fd, z.1, fn_zero⟩
  o_has_duty := (bn_has_duty X).elim fun fd z => ⟨X.g_has_duty, z.2.kp, fd, z.1, fn_zero⟩
  o_first_parting := (bn_first_parting X).elim fun fd z => ⟨X.g_first_parting, z.2.kp, fd, z.1, fn_zero⟩
  o_others_of := (bn_others_of X).elim fun fd z => ⟨X.g_others_of, z.2.kp, fd, z.1, fn_zero⟩
  o_other_days := (bn_other_days X).elim fun fd z => ⟨X.g_other_days, z.2.kp, fd, z.1, fn_zero⟩
  o_sharing := (bn_sharing X).elim fun fd z => ⟨X.g_sharing, z.2.kp, fd, z.1, fn_zero⟩
  o_law_hand := (bn_law_hand X).elim fun fd z => ⟨X.g_law_hand, z.2.kp, fd, z.1, fn_zero⟩
  o_law_draw := (bn_law_draw X).elim fun fd z => ⟨X.g_law_draw, z.2.kp, fd, z.1, fn_zero⟩
  o_law_any := (bn_law_any X).elim fun fd z => ⟨X.g_law_any, z.2.kp, fd, z.1, fn_zero⟩
  o_law_same := (bn_law_same X).elim fun fd z => ⟨X.g_law_same, z.2.kp, fd, z.1, fn_zero⟩
  o_law_low := (bn_law_low X).elim fun fd z => ⟨X.g_law_low, z.2.kp, fd, z.1, fn_zero⟩
  o_law_rule := (bn_law_rule X).elim fun fd z => ⟨X.g_law_rule, z.2.kp, fd, z.1, fn_zero⟩
  o_law_until := (bn_law_until X).elim fun fd z => ⟨X.g_law_until, z.2.kp, fd, z.1, fn_zero⟩
  o_law_has_duty := (bn_law_has_duty X).elim fun fd z => ⟨X.g_law_has_duty, z.2.kp, fd, z.1, fn_zero⟩
  o_law_form := (bn_law_form X).elim fun fd z => ⟨X.g_law_form, z.2.kp, fd, z.1, fn_zero⟩
  o_law_of_form := (bn_law_of_form X).elim fun fd z => ⟨X.g_law_of_form, z.2.kp, fd, z.1, fn_zero⟩
  o_law_contrary := (bn_law_contrary X).elim fun fd z => ⟨X.g_law_contrary, z.2.kp, fd, z.1, fn_zero⟩
  o_law_due := (bn_law_due X).elim fun fd z => ⟨X.g_law_due, z.2.kp, fd, z.1, fn_zero⟩
  o_law_near := (bn_law_near X).elim fun fd z => ⟨X.g_law_near, z.2.kp, fd, z.1, fn_zero⟩
  o_law_is_right := (bn_law_is_right X).elim fun fd z => ⟨X.g_law_is_right, z.2.kp, fd, z.1, fn_zero⟩
  o_law := (bn_law X).elim fun fd z => ⟨X.g_law, z.2.kp, fd, z.1, fn_zero⟩
theorem all_succ (X : Fx K mg) (A : All P w K mg base k) : All P w K mg base (k + 1) where
  o_is_integer := st_is_integer X A
  o_is_within := st_is_within X A
  o_is_tuple_of := st_is_tuple_of X A
  o_common := st_common X A
  o_is_fraction := st_is_fraction X A
  o_frac := st_frac X A
  o_less := st_less X A
  o_is_line := st_is_line X A
  o_is_rule := st_is_rule X A
  o_check_rule := st_check_rule X A
  o_total_to := st_total_to X A
  o_row_of := st_row_of X A
  o_made := st_made X A
  o_form_of := st_form_of X A
  o_normal := st_normal X A
  o_made_of := st_made_of X A
  o_has_duty := st_has_duty X A
  o_first_parting := st_first_parting X A
  o_others_of := st_others_of X A
  o_other_days := st_other_days X A
  o_sharing := st_sharing X A
  o_law_hand := st_law_hand X A
  o_law_draw := st_law_draw X A
  o_law_any := st_law_any X A
  o_law_same := st_law_same X A
  o_law_low := st_law_low X A
  o_law_rule := st_law_rule X A
  o_law_until := st_law_until X A
  o_law_has_duty := st_law_has_duty X A
  o_law_form := st_law_form X A
  o_law_of_form := st_law_of_form X A
  o_law_contrary := st_law_contrary X A
  o_law_due := st_law_due X A
  o_law_near := st_law_near X A
  o_law_is_right := st_law_is_right X A
  o_law := st_law X A
theorem all (X : Fx K mg) : ∀ k, All P w K mg base k
  | 0 => all_zero X
  | k + 1 => all_succ X (all X k)
end
end HD
open PySem PySem.W PySem.Calls PyProof.Rows
set_option maxRecDepth 100000 in
set_option maxHeartbeats 8000000 in
theorem PySem.Challenge.cw_evenduties_k13_whole_other_days_and_shar_holds : PySem.Challenge.rw_evenduties_k13_whole_other_days_and_shar.Holds := by
  w_on; o_law
  refine HandSHeadRun.head_any (r := OpenLaw.row PySem.Challenge.rw_evenduties_k13_whole_other_days_and_shar) (q := view (OpenLaw.row PySem.Challenge.rw_evenduties_k13_whole_other_days_and_shar).prog [53]) (H := HD.hk) (ob := HD.ob) (M := 4000) (loose := HD.loose) (d := HandSHeadRun.topDef (OpenLaw.row PySem.Challenge.rw_evenduties_k13_whole_other_days_and_shar).prog 53) (kwd := []) HD.ob_eq
    (by kernel_rfl) (fun s => by kernel_rfl) HD.run (by kernel_rfl) (by kernel_rfl) (by kernel_rfl) (by rfl) (by first | assumption | decide +kernel) (by decide +kernel) ⟨rfl, rfl, rfl, rfl, rfl, by decide +kernel⟩ ?hw ?hc
  case hw => w_witness2
  case hc =>
    refine L2.walk_ofE (l := PySem.Challenge.rw_evenduties_k13_whole_other_days_and_shar) (n := 63) (k := 100) (x := "script") (CX := Q.CXe (PySem.Challenge.rw_evenduties_k13_whole_other_days_and_shar).prog) rfl (by decide) (by kernel_rfl) ⟨rfl, by decide, by decide⟩ ?F Q.CXe.none
    intro w mg fa h Y G hmg0
    obtain ⟨K, KX, c, e⟩ := Y
    have hmg : mg ("law" : PySem.Str) = some (.ref fa) := by
      have e : (HandSHeadRun.topDef (OpenLaw.row PySem.Challenge.rw_evenduties_k13_whole_other_days_and_shar).prog 53).name = ("law" : PySem.Str) := by kernel_rfl
      rw [← e]
      exact hmg0
    have X := HD.facts KX G c e
    have ea : He.ga K "law" = fa := by
      have z := X.g_law.symm.trans hmg
      cases z
      rfl
    subst ea
    obtain ⟨fd, hb, Fd⟩ := HD.bn_law X
    have b1 := L2.FunD.bindsA (ps := ["script"]) Fd fun _ _ _ _ _ _ us hl => match us, hl with | [_], _ => rfl
    exact ⟨K, fd, Q.spOf K HD.T Q.Lib 100 248, KX, fun s v => b1 s [v] rfl, fun H a ns hl _ hS => Q.start_ok hS (Q.law_k13 ns hl), fun base hK hG => Q.FnOk.toEx (HD.ok_law Fd X (HD.all X 99))⟩
